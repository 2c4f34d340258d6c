import PyProof.Rows.All
import Wide.All
import OpenK.AllK
import Wide.FinOn
import KE.KPairComp
import KE.KLam
import Lean
import PySem.Challenge.RW_sa0471_01

open PySem PySem.W PyProof.Rows PySem.Calls
set_option Elab.async false
set_option maxRecDepth 100000
set_option maxHeartbeats 8000000
set_option linter.unusedVariables false
set_option genInjectivity false
set_option genSizeOf false
set_option compiler.extract_closed false

namespace Gc
/-! part F1 -/
/-! chains of one step: their proofs are shorter than those of nested ∧ and ∃ -/
inductive And3 (a b c : Prop) : Prop where
  | mk (h1 : a) (h2 : b) (h3 : c)
inductive And4 (a b c d : Prop) : Prop where
  | mk (h1 : a) (h2 : b) (h3 : c) (h4 : d)
inductive And5 (a b c d e : Prop) : Prop where
  | mk (h1 : a) (h2 : b) (h3 : c) (h4 : d) (h5 : e)
inductive And6 (a b c d e f : Prop) : Prop where
  | mk (h1 : a) (h2 : b) (h3 : c) (h4 : d) (h5 : e) (h6 : f)
inductive And7 (a b c d e f g : Prop) : Prop where
  | mk (h1 : a) (h2 : b) (h3 : c) (h4 : d) (h5 : e) (h6 : f) (h7 : g)
inductive And8 (a b c d e f g h : Prop) : Prop where
  | mk (h1 : a) (h2 : b) (h3 : c) (h4 : d) (h5 : e) (h6 : f) (h7 : g) (h8 : h)
inductive And9 (a b c d e f g h i : Prop) : Prop where
  | mk (h1 : a) (h2 : b) (h3 : c) (h4 : d) (h5 : e) (h6 : f) (h7 : g) (h8 : h) (h9 : i)
inductive Ex2 {α β : Sort _} (p : α → β → Prop) : Prop where
  | mk (x1 : α) (x2 : β) (h : p x1 x2)
inductive Ex3 {α β γ : Sort _} (p : α → β → γ → Prop) : Prop where
  | mk (x1 : α) (x2 : β) (x3 : γ) (h : p x1 x2 x3)
inductive Ex4 {α β γ δ : Sort _} (p : α → β → γ → δ → Prop) : Prop where
  | mk (x1 : α) (x2 : β) (x3 : γ) (x4 : δ) (h : p x1 x2 x3 x4)
inductive Ex5 {α β γ δ ε : Sort _} (p : α → β → γ → δ → ε → Prop) : Prop where
  | mk (x1 : α) (x2 : β) (x3 : γ) (x4 : δ) (x5 : ε) (h : p x1 x2 x3 x4 x5)
inductive Ex6 {α β γ δ ε ζ : Sort _} (p : α → β → γ → δ → ε → ζ → Prop) : Prop where
  | mk (x1 : α) (x2 : β) (x3 : γ) (x4 : δ) (x5 : ε) (x6 : ζ) (h : p x1 x2 x3 x4 x5 x6)
inductive Ex7 {α β γ δ ε ζ η : Sort _} (p : α → β → γ → δ → ε → ζ → η → Prop) : Prop where
  | mk (x1 : α) (x2 : β) (x3 : γ) (x4 : δ) (x5 : ε) (x6 : ζ) (x7 : η) (h : p x1 x2 x3 x4 x5 x6 x7)
inductive Ex8 {α β γ δ ε ζ η θ : Sort _} (p : α → β → γ → δ → ε → ζ → η → θ → Prop) : Prop where
  | mk (x1 : α) (x2 : β) (x3 : γ) (x4 : δ) (x5 : ε) (x6 : ζ) (x7 : η) (x8 : θ) (h : p x1 x2 x3 x4 x5 x6 x7 x8)
inductive Ex9 {α β γ δ ε ζ η θ ι : Sort _} (p : α → β → γ → δ → ε → ζ → η → θ → ι → Prop) : Prop where
  | mk (x1 : α) (x2 : β) (x3 : γ) (x4 : δ) (x5 : ε) (x6 : ζ) (x7 : η) (x8 : θ) (x9 : ι) (h : p x1 x2 x3 x4 x5 x6 x7 x8 x9)

inductive Cell where
  | ns (k : Nat) (m : Str → Option Value)
  | inst (C d : Addr)
  | list (vs : List Value)
  | idict (kvs : List (Int × Value))
  | sdict (kvs : List (Str × Value))
  | obj (o : Obj)
  | cell (v : Option Value)

/-- a namespace of at most n names -/
noncomputable def NsN (h : Heap) (a : Addr) (n : Nat) (m : Str → Option Value) : Prop := ∃ o es ep, h.get? a = some o ∧ o.data = .dict es ep ∧ StrKeys es ∧ (∀ name, nsFind es name = m name) ∧ es.size ≤ n
theorem NsN.ns {h : Heap} {a : Addr} {n : Nat} {m : Str → Option Value} (x : NsN h a n m) : h.Ns a m := let ⟨o, es, ep, a, b, c, d, _⟩ := x; ⟨o, es, ep, a, b, c, d⟩
theorem wp_nsSetN {M : Model} {Γ : Ctx} {E : Value → Pos → Shared → Prop} {p : Pos} {s : Shared} {a : Addr} {m} {n : Nat} (hn : NsN s.heap a n m) (name : Str) (v : Value) (Q : Unit → Pos → Shared → Prop)
    (hQ : ∀ h', NsN h' a (if (m name).isSome then n else n + 1) (fun x => if x = name then some v else m x) → Heap.SameBut a s.heap h' →
      Q () p { s with heap := h', toks := s.toks + 1 }) : Sem.wp M Γ (nsSet a name v) Q E p s := by
  obtain ⟨o, es, ep, ho, hd, hk, hm, hz⟩ := hn
  simp only [nsSet, strHash, Sem.wp_bind', Sem.wp_cmd_ask, Sem.wp_pure', Sem.wp_cmd_mkText]
  rw [Sem.wp_loadPart_of M Γ E p { s with toks := s.toks + 1 } (o := o) _ ho]
  have hany : es.any (·.refKey) = false := by
    rw [Array.any_eq_false']; intro e he; obtain ⟨n, t, h⟩ := hk e he; simp [DictEntry.refKey, h]
  simp only [hd, aRefKeyMayBeTheName_eq, aRefKeyMayBeTheNameByArray, hany, Bool.and_false, Bool.false_eq_true, if_false, Sem.wp_cmd_updatePart]
  refine ⟨by rw [ho]; rfl, hQ _ ?_ (Heap.SameBut.update ..)⟩
  obtain ⟨c, d, dt, sl⟩ := o
  subst hd
  have hsome : (m name).isSome = (es.findIdx? (·.key.isStr name)).isSome := by
    rw [← hm name, nsFind, findBy]
    cases hi : es.findIdx? (·.key.isStr name) with
    | none =>
      have : es.find? (·.key.isStr name) = none := by
        rw [Array.find?_eq_none]; intro e he
        simpa using (Array.findIdx?_eq_none_iff.mp hi) e he
      rw [this]; rfl
    | some i =>
      obtain ⟨hlt, hp, -⟩ := Array.findIdx?_eq_some_iff_getElem.mp hi
      cases hf : es.find? (·.key.isStr name) with
      | some e => rfl
      | none => exact absurd hp (Array.find?_eq_none.mp hf _ (Array.getElem_mem hlt))
  cases hi : es.findIdx? (·.key.isStr name) with
  | some i =>
    refine ⟨_, _, ep, Heap.get?_update_self _ ho (by simp only [Obj.putName_eq, Obj.putNameByArray, hi]; rfl), by simp only [Obj.putName_eq, Obj.putNameByArray, hi]; rfl, hk.modify _ _, fun x => ?_, ?_⟩
    · show _ = if x = name then some v else m x
      rw [← hm]; exact findBy_modify (fun n v => v.isStr n) Value.isStr_inj es name x v i hi
    · rw [hsome, hi, Array.size_modify]; exact hz
  | none =>
    refine ⟨_, _, ep + 1, Heap.get?_update_self _ ho (by simp only [Obj.putName_eq, Obj.putNameByArray, hi]; rfl), by simp only [Obj.putName_eq, Obj.putNameByArray, hi]; rfl, hk.push _ _ _ _, fun x => ?_, ?_⟩
    · show _ = if x = name then some v else m x
      rw [← hm]
      exact findBy_push (fun n v => v.isStr n) es name x _ _ v (fun y => by
        show (name == y) = decide (y = name)
        by_cases h : y = name
        · subst h; simp
        · have : ¬ name = y := fun e => h e.symm
          simp [h, this]) hi
    · rw [hsome, hi, Array.size_push]; exact Nat.succ_le_succ hz
theorem wpAny_nsSetN {M : Model} {A : Around} {E : Value → Shared → Prop} {s : Shared} {a : Addr} {m} {n : Nat} {name : Str} {v : Value} {Q : Unit → Shared → Prop} (hn : NsN s.heap a n m)
    (h : ∀ h', NsN h' a (if (m name).isSome then n else n + 1) (fun x => if x = name then some v else m x) → Heap.SameBut a s.heap h' → Q () { s with heap := h', toks := s.toks + 1 }) :
    wpAny M A (nsSet a name v) Q E s := fun _ _ _ => wp_nsSetN hn name v _ h

noncomputable abbrev Tag := Nat × Nat × Nat
noncomputable abbrev LH := Addr → Option (Tag × Cell)
noncomputable abbrev Loc := Str → Option Value

noncomputable def upd (H : LH) (a : Addr) (x : Tag × Cell) : LH := fun b => if b = a then some x else H b
theorem upd_self (H : LH) (a : Addr) (x : Tag × Cell) : upd H a x a = some x := if_pos rfl
theorem upd_ne (H : LH) {a b : Addr} (x : Tag × Cell) (h : b ≠ a) : upd H a x b = H b := if_neg h
noncomputable def del (H : LH) (a : Addr) : LH := fun b => if b = a then none else H b
noncomputable def set (m : Loc) (x : Str) (v : Value) : Loc := fun y => if y = x then some v else m y
theorem set_self (m : Loc) (x : Str) (v : Value) : set m x v x = some v := if_pos rfl
theorem set_ne (m : Loc) {x y : Str} (v : Value) (h : y ≠ x) : set m x v y = m y := if_neg h

section
variable (prog : Program) (w : World)

noncomputable def CellAt (h : Heap) (a : Addr) : Cell → Prop
  | .ns k m => NsN h a k m
  | .inst C d => h.get? a = some (instObj C d)
  | .list vs => ∃ n, h.get? a = some (listOf vs.toArray n)
  | .idict kvs => (a == sysModules) = false ∧ h.DictOf (intKind prog w) a kvs
  | .sdict kvs => (a == sysModules) = false ∧ h.DictOf (strKind prog w) a kvs
  | .obj o => h.get? a = some o
  | .cell v => h.IsCell a v

variable {prog w}
theorem CellAt.keep {h h' : Heap} {a : Addr} {c : Cell} (x : CellAt prog w h a c) (k : ∀ o, h.get? a = some o → h'.get? a = some o) : CellAt prog w h' a c := by
  cases c with
  | ns i m => obtain ⟨o, es, ep, ho, r⟩ := x; exact ⟨o, es, ep, k _ ho, r⟩
  | inst C d => exact k _ x
  | list vs => obtain ⟨n, ho⟩ := x; exact ⟨n, k _ ho⟩
  | idict kvs => obtain ⟨q, o, es, ep, ho, r⟩ := x; exact ⟨q, o, es, ep, k _ ho, r⟩
  | sdict kvs => obtain ⟨q, o, es, ep, ho, r⟩ := x; exact ⟨q, o, es, ep, k _ ho, r⟩
  | obj o => exact k _ x
  | cell v => obtain ⟨o, ho, r⟩ := x; exact ⟨o, k _ ho, r⟩
theorem CellAt.lt {h : Heap} {a : Addr} {c : Cell} (x : CellAt prog w h a c) : a < h.objs.size := by
  cases c with
  | ns i m => obtain ⟨o, _, _, ho, _⟩ := x; exact Heap.lt_size ho
  | inst C d => exact Heap.lt_size x
  | list vs => obtain ⟨n, ho⟩ := x; exact Heap.lt_size ho
  | idict kvs => obtain ⟨_, o, es, ep, ho, r⟩ := x; exact Heap.lt_size ho
  | sdict kvs => obtain ⟨_, o, es, ep, ho, r⟩ := x; exact Heap.lt_size ho
  | obj o => exact Heap.lt_size x
  | cell v => obtain ⟨o, ho, r⟩ := x; exact Heap.lt_size ho
end

/-- what is tracked, and what must stay -/
structure Rp (prog : Program) (w : World) (hT : Heap) (B : Addr → Obj → Prop) (g : Array GenState) (os : OsState) (H : LH) (s : Shared) : Prop where
  rep : ∀ a t c, H a = some (t, c) → CellAt prog w s.heap a c
  top : ∀ a o, hT.get? a = some o → B a o
  keep : ∀ a o, B a o → s.heap.get? a = some o
  dis : ∀ a x o, H a = some x → ¬ B a o
  gens : s.gens = g
  os : s.os = os

structure St (prog : Program) (w : World) (hT : Heap) (B : Addr → Obj → Prop) (g : Array GenState) (os : OsState) (L : Addr) (m : Loc) (H : LH) (s : Shared) : Prop where
  rp : Rp prog w hT B g os H s
  ns : s.heap.Ns L m
  hL : H L = none
  disL : ∀ o, ¬ B L o

section
variable {prog : Program} {w : World} {hT : Heap} {B : Addr → Obj → Prop} {g : Array GenState} {os : OsState} {L : Addr} {m : Loc} {H : LH} {s : Shared}

theorem Rp.in {K : Frag} (x : Rp prog w hT B g os H s) (k : K.In hT) : K.In s.heap := k.keeps fun b o e => x.keep b o (x.top b o e)
theorem Rp.ext (x : Rp prog w hT B g os H s) {s' : Shared} (k : ∀ b o, s.heap.get? b = some o → s'.heap.get? b = some o) (hg : s'.gens = s.gens) (ho : s'.os = s.os) : Rp prog w hT B g os H s' :=
  ⟨fun a t c e => (x.rep a t c e).keep (k a), x.top, fun a o e => k _ _ (x.keep a o e), x.dis, hg.trans x.gens, ho.trans x.os⟩
theorem Rp.upd (x : Rp prog w hT B g os H s) {s' : Shared} {a : Addr} {t : Tag} {c : Cell} (hB : ∀ o, ¬ B a o) (k : Heap.ExtBut a s.heap s'.heap) (hc : CellAt prog w s'.heap a c) (hg : s'.gens = s.gens) (ho : s'.os = s.os) :
    Rp prog w hT B g os (upd H a (t, c)) s' := by
  refine ⟨fun b t' c' e => ?_, x.top, fun b o e => ?_, fun b y o e => ?_, hg.trans x.gens, ho.trans x.os⟩
  · by_cases q : b = a
    · subst q; rw [upd_self] at e; cases e; exact hc
    · rw [upd_ne _ _ q] at e; exact (x.rep b t' c' e).keep fun o z => k b o q z
  · by_cases q : b = a
    · subst q; exact absurd e (hB o)
    · exact k b o q (x.keep b o e)
  · by_cases q : b = a
    · subst q; exact hB o
    · rw [upd_ne _ _ q] at e; exact x.dis b y o e
theorem Rp.fresh (x : Rp prog w hT B g os H s) {a : Addr} (h : s.heap.get? a = none) : H a = none ∧ ∀ o, ¬ B a o := by
  constructor
  · cases e : H a with
    | none => rfl
    | some y =>
      obtain ⟨t, c⟩ := y
      have z := x.rep a t c e
      exfalso
      cases c with
      | ns i m => obtain ⟨o, es, ep, ho, r⟩ := z; rw [h] at ho; cases ho
      | inst C d => have z : s.heap.get? a = _ := z; rw [h] at z; cases z
      | list vs => obtain ⟨n, ho⟩ := z; rw [h] at ho; cases ho
      | idict kvs => obtain ⟨_, o, es, ep, ho, r⟩ := z; rw [h] at ho; cases ho
      | sdict kvs => obtain ⟨_, o, es, ep, ho, r⟩ := z; rw [h] at ho; cases ho
      | obj o => have z : s.heap.get? a = _ := z; rw [h] at z; cases z
      | cell v => obtain ⟨o, ho, r⟩ := z; rw [h] at ho; cases ho
  · intro o e
    have := x.keep a o e
    rw [h] at this; cases this
theorem get?_size (h : Heap) : h.get? h.objs.size = none := by
  cases e : h.get? h.objs.size with
  | none => rfl
  | some o => exact absurd (Heap.lt_size e) (Nat.lt_irrefl _)
theorem Rp.del (x : Rp prog w hT B g os H s) (a : Addr) : Rp prog w hT B g os (del H a) s := by
  refine ⟨fun b t c e => ?_, x.top, x.keep, fun b y o e => ?_, x.gens, x.os⟩ <;>
  · unfold Gc.del at e
    split at e
    · cases e
    · first | exact x.rep b t c e | exact x.dis b y o e
theorem Rp.retag (x : Rp prog w hT B g os H s) {a : Addr} {t t' : Tag} {c : Cell} (e : H a = some (t, c)) : Rp prog w hT B g os (Gc.upd H a (t', c)) s :=
  x.upd (fun o => x.dis a _ o e) (Heap.ExtBut.refl _ _) (x.rep _ _ _ e) rfl rfl

theorem St.ext (x : St prog w hT B g os L m H s) {s' : Shared} (k : ∀ b o, s.heap.get? b = some o → s'.heap.get? b = some o) (hg : s'.gens = s.gens) (ho : s'.os = s.os) : St prog w hT B g os L m H s' :=
  ⟨x.rp.ext k hg ho, x.ns.keeps k, x.hL, x.disL⟩
theorem St.upd (x : St prog w hT B g os L m H s) {s' : Shared} {a : Addr} {t₀ t : Tag} {c₀ c : Cell} (e : H a = some (t₀, c₀)) (k : Heap.ExtBut a s.heap s'.heap) (hc : CellAt prog w s'.heap a c) (hg : s'.gens = s.gens) (ho : s'.os = s.os) :
    St prog w hT B g os L m (upd H a (t, c)) s' := by
  have ne : L ≠ a := fun q => by rw [← q, x.hL] at e; cases e
  exact ⟨x.rp.upd (fun o => x.rp.dis a _ o e) k hc hg ho, x.ns.extBut k ne, by rw [upd_ne _ _ ne]; exact x.hL, x.disL⟩
theorem St.new (x : St prog w hT B g os L m H s) {s' : Shared} {a : Addr} {t : Tag} {c : Cell} (e : s.heap.get? a = none) (k : ∀ b o, s.heap.get? b = some o → s'.heap.get? b = some o) (hc : CellAt prog w s'.heap a c) (hg : s'.gens = s.gens) (ho : s'.os = s.os) :
    St prog w hT B g os L m (Gc.upd H a (t, c)) s' := by
  have f := x.rp.fresh e
  have ne : L ≠ a := fun q => by
    obtain ⟨o, _, _, z, _⟩ := x.ns
    rw [q, e] at z; cases z
  exact ⟨x.rp.upd f.2 (fun b o _ z => k b o z) hc hg ho, x.ns.keeps k, by rw [upd_ne _ _ ne]; exact x.hL, x.disL⟩
theorem St.local (x : St prog w hT B g os L m H s) {s' : Shared} {m' : Loc} (hn : s'.heap.Ns L m') (k : Heap.ExtBut L s.heap s'.heap) (hg : s'.gens = s.gens) (ho : s'.os = s.os) : St prog w hT B g os L m' H s' := by
  refine ⟨⟨fun a t c e => (x.rp.rep a t c e).keep fun o z => k a o (fun q => ?_) z, x.rp.top, fun a o e => k a o (fun q => ?_) (x.rp.keep a o e), x.rp.dis, hg.trans x.rp.gens, ho.trans x.rp.os⟩, hn, x.hL, x.disL⟩
  · rw [q, x.hL] at e; cases e
  · rw [q] at e; exact x.disL o e
/-- a zone in which the frame too must stay -/
theorem St.call (x : St prog w hT B g os L m H s) : ∃ B' : Addr → Obj → Prop, Rp prog w hT B' g os H s ∧ (∀ H' s', Rp prog w hT B' g os H' s' → St prog w hT B g os L m H' s') ∧ ∀ a, (∀ o, ¬ B a o) → a ≠ L → ∀ o, ¬ B' a o := by
  obtain ⟨oL, es, ep, hL, r⟩ := x.ns
  refine ⟨fun a o => B a o ∨ (a = L ∧ o = oL), ⟨x.rp.rep, fun a o e => .inl (x.rp.top a o e), ?_, ?_, x.rp.gens, x.rp.os⟩, ?_, ?_⟩
  · rintro a o (e | ⟨rfl, rfl⟩)
    · exact x.rp.keep a o e
    · exact hL
  · rintro a y o e (q | ⟨rfl, rfl⟩)
    · exact x.rp.dis a y o e q
    · rw [x.hL] at e; cases e
  · intro H' s' y
    refine ⟨⟨y.rep, x.rp.top, fun a o e => y.keep a o (.inl e), fun a z o e q => y.dis a z o e (.inl q), y.gens, y.os⟩, ⟨oL, es, ep, y.keep L oL (.inr ⟨rfl, rfl⟩), r⟩, ?_, x.disL⟩
    cases q : H' L with
    | none => rfl
    | some z => exact absurd (.inr ⟨rfl, rfl⟩) (y.dis L z oL q)
  · rintro a h1 h2 o (q | ⟨q, _⟩)
    · exact h1 o q
    · exact h2 q
end

theorem lt2 {i : Nat} (h : i < 2) : i = 0 ∨ i = 1 := by omega
theorem lt3 {i : Nat} (h : i < 3) : i = 0 ∨ i = 1 ∨ i = 2 := by omega
theorem len1 {α : Type} {l : List α} (h : l.length = 1) : ∃ a, l = [a] := List.length_eq_one_iff.mp h
theorem len2 {α : Type} {l : List α} (h : l.length = 2) : ∃ a b, l = [a, b] := by
  obtain _ | ⟨a, l⟩ := l
  · cases h
  · obtain ⟨b, e⟩ := len1 (Nat.succ.inj h); exact ⟨a, b, by rw [e]⟩
theorem len3 {α : Type} {l : List α} (h : l.length = 3) : ∃ a b c, l = [a, b, c] := by
  obtain _ | ⟨a, l⟩ := l
  · cases h
  · obtain ⟨b, c, e⟩ := len2 (Nat.succ.inj h); exact ⟨a, b, c, by rw [e]⟩
/-- a tree from a frame -/
inductive Af (prog : Program) (w : World) (hT : Heap) (B : Addr → Obj → Prop) (g : Array GenState) (os : OsState) (L : Addr) (Q : Loc → LH → Prop) (s' : Shared) : Prop where
  | mk (m' : Loc) (H' : LH) (y : St prog w hT B g os L m' H' s') (q : Q m' H')
inductive Ac (prog : Program) (w : World) (hT : Heap) (B : Addr → Obj → Prop) (g : Array GenState) (os : OsState) (Q : Value → LH → Prop) (r : Result) (s' : Shared) : Prop where
  | mk (v : Value) (H' : LH) (e : r = .ok (.ret v)) (y : Rp prog w hT B g os H' s') (q : Q v H')
noncomputable def T (prog : Program) (w : World) (hT : Heap) {α : Type} (A : Around) (L : Addr) (t : Sem α) (m : Loc) (H : LH) (Q : α → Loc → LH → Prop) : Prop :=
  ∀ B g os s, St prog w hT B g os L m H s → wpAny (model prog w) A t (fun v => Af prog w hT B g os L (Q v)) (fun _ _ => False) s
/-- a call -/
noncomputable def C (prog : Program) (w : World) (hT : Heap) (A : Around) (f : Value) (args : Args) (H : LH) (Q : Value → LH → Prop) : Prop :=
  ∀ B g os s, Rp prog w hT B g os H s → codeAny (model prog w) A (.call f args) (Ac prog w hT B g os Q) s

section
variable {prog : Program} {w : World} {hT : Heap} {α β : Type} {A : Around} {L : Addr} {m : Loc} {H : LH} {Q : α → Loc → LH → Prop}

theorem t_mono {t : Sem α} {Q' : α → Loc → LH → Prop} (h : T prog w hT A L t m H Q) (k : ∀ v m' H', Q v m' H' → Q' v m' H') : T prog w hT A L t m H Q' :=
  fun B g os s x => wpAny_mono (h B g os s x) (fun _ _ ⟨m', H', y, q⟩ => ⟨m', H', y, k _ _ _ q⟩) fun _ _ e => e
theorem t_pure {v : α} (h : Q v m H) : T prog w hT A L (pure v) m H Q := fun _ _ _ _ x => wpAny_pure ⟨m, H, x, h⟩
theorem t_bind {t : Sem α} {f : α → Sem β} {Q : β → Loc → LH → Prop} (h : T prog w hT A L t m H fun v m' H' => T prog w hT A L (f v) m' H' Q) : T prog w hT A L (t >>= f) m H Q :=
  fun B g os s x => wpAny_bind (wpAny_mono (h B g os s x) (fun _ _ ⟨_, _, y, q⟩ => q B g os _ y) fun _ _ e => e)
theorem t_holding {vs : List Value} {t : Sem α} (h : T prog w hT A L t m H Q) : T prog w hT A L (holding vs t) m H Q := fun B g os s x => wpAny_holding (h B g os s x)
theorem t_standAt {p : Pos} {Q : Unit → Loc → LH → Prop} (h : Q () m H) : T prog w hT A L (standAt p) m H Q := fun _ _ _ _ x => wpAny_standAt ⟨m, H, x, h⟩
theorem t_rule {p : String} {Q : Unit → Loc → LH → Prop} (h : Q () m H) : T prog w hT A L (PySem.rule p) m H Q := fun _ _ _ _ x => wpAny_rule ⟨m, H, x, h⟩
theorem t_eq {t t' : Sem α} (e : t = t') (h : T prog w hT A L t' m H Q) : T prog w hT A L t m H Q := e ▸ h
/-- what only looks, makes or takes a token -/
theorem t_of {t : Sem α} (h : ∀ B g os s, St prog w hT B g os L m H s → ∀ (Q' : α → Shared → Prop), (∀ v s', Af prog w hT B g os L (Q v) s' → Q' v s') → wpAny (model prog w) A t Q' (fun _ _ => False) s) : T prog w hT A L t m H Q :=
  fun B g os s x => h B g os s x _ fun _ _ q => q
theorem c_mono {f : Value} {args : Args} {Q Q' : Value → LH → Prop} (h : C prog w hT A f args H Q) (k : ∀ v H', Q v H' → Q' v H') : C prog w hT A f args H Q' :=
  fun B g os s x => codeAny_mono (h B g os s x) fun _ _ ⟨v, H', e, y, q⟩ => ⟨v, H', e, y, k _ _ q⟩
theorem t_call {f : Value} {args : List Value} {kw : List (Str × Value)} {Q : Value → Loc → LH → Prop} (h : C prog w hT A f ⟨args, kw⟩ H fun v H' => Q v m H') : T prog w hT A L (call f args kw) m H Q := fun B g os s x => by
  obtain ⟨B', y, back, -⟩ := x.call
  refine wpAny_call (codeAny_mono (h B' g os s y) ?_)
  rintro r s' ⟨v, H', rfl, z, q⟩
  exact ⟨m, H', back _ _ z, q⟩
end

/-! part F2 -/
/-! what is done with a value: named, so that it is not written out at each step -/
section
variable (prog : Program) (w : World) (hT : Heap) (A : Around) (L : Addr)
noncomputable abbrev kF {α β : Type} (g : α → Sem β) (Q : β → Loc → LH → Prop) (a : α) (m : Loc) (H : LH) : Prop := T prog w hT A L (g a) m H Q
noncomputable abbrev kBin (env : Env) (r : Expr) (f : Value → Value → Sem Value) (Q : Value → Loc → LH → Prop) (a : Value) (m : Loc) (H : LH) : Prop := T prog w hT A L (eval r env) m H (kF prog w hT A L (f a) Q)
noncomputable abbrev kNext {α : Type} (Q : Flow → Loc → LH → Prop) (_ : α) : Loc → LH → Prop := Q .next
noncomputable abbrev kRet (Q : Flow → Loc → LH → Prop) (v : Value) : Loc → LH → Prop := Q (.ret v)
noncomputable abbrev kNot (Q : Bool → Loc → LH → Prop) (c : Bool) : Loc → LH → Prop := Q (!c)
noncomputable abbrev kNotV (Q : Value → Loc → LH → Prop) (c : Bool) : Loc → LH → Prop := Q (.bool (!c))
noncomputable abbrev kIf (env : Env) (b e : List Stmt) (Q : Flow → Loc → LH → Prop) (c : Bool) (m : Loc) (H : LH) : Prop := (c = true → T prog w hT A L (execs b env) m H Q) ∧ (c = false → T prog w hT A L (execs e env) m H Q)
noncomputable abbrev kIfE (env : Env) (b e : Expr) (Q : Value → Loc → LH → Prop) (c : Bool) (m : Loc) (H : LH) : Prop := (c = true → T prog w hT A L (eval b env) m H Q) ∧ (c = false → T prog w hT A L (eval e env) m H Q)
noncomputable abbrev kOrV (env : Env) (e : Expr) (Q : Value → Loc → LH → Prop) (v : Value) (m : Loc) (H : LH) : Prop := T prog w hT A L (truthy v) m H fun c m2 H2 => (c = true → Q v m2 H2) ∧ (c = false → T prog w hT A L (eval e env) m2 H2 Q)
noncomputable abbrev kAndV (env : Env) (e : Expr) (Q : Value → Loc → LH → Prop) (v : Value) (m : Loc) (H : LH) : Prop := T prog w hT A L (truthy v) m H fun c m2 H2 => (c = false → Q v m2 H2) ∧ (c = true → T prog w hT A L (eval e env) m2 H2 Q)
noncomputable abbrev kAnd (env : Env) (rest : List Expr) (pos : Pos) (whole : Sem Value) (Q : Bool → Loc → LH → Prop) (c : Bool) (m : Loc) (H : LH) : Prop := (c = true → T prog w hT A L (isTrue (.BoolOp .And rest pos) env whole) m H Q) ∧ (c = false → Q false m H)
noncomputable abbrev kOr (env : Env) (rest : List Expr) (pos : Pos) (whole : Sem Value) (Q : Bool → Loc → LH → Prop) (c : Bool) (m : Loc) (H : LH) : Prop := (c = true → Q true m H) ∧ (c = false → T prog w hT A L (isTrue (.BoolOp .Or rest pos) env whole) m H Q)
noncomputable abbrev kAsA (env : Env) (o : Expr) (attr : Str) (Q : Flow → Loc → LH → Prop) (v : Value) (m : Loc) (H : LH) : Prop := T prog w hT A L (eval o env) m H (kF prog w hT A L (fun ov => setAttr ov attr v) (kNext Q))
noncomputable abbrev kAsS2 (env : Env) (i : Expr) (v : Value) (Q : Flow → Loc → LH → Prop) (ov : Value) (m : Loc) (H : LH) : Prop := T prog w hT A L (eval i env) m H (kF prog w hT A L (fun iv => setItem ov iv v) (kNext Q))
noncomputable abbrev kAsS (env : Env) (o i : Expr) (Q : Flow → Loc → LH → Prop) (v : Value) (m : Loc) (H : LH) : Prop := T prog w hT A L (eval o env) m H (kAsS2 prog w hT A L env i v Q)
noncomputable abbrev kAug (env : Env) (op : Operator) (value : Expr) (K : Value → Loc → LH → Prop) (old : Value) (m : Loc) (H : LH) : Prop := T prog w hT A L (eval value env) m H (kF prog w hT A L (inplaceOp op old) K)
noncomputable abbrev kAugA (env : Env) (op : Operator) (value : Expr) (attr : Str) (Q : Flow → Loc → LH → Prop) (ov : Value) (m : Loc) (H : LH) : Prop := T prog w hT A L (getAttr ov attr true) m H (kAug prog w hT A L env op value (kF prog w hT A L (fun new => setAttr ov attr new) (kNext Q)))
noncomputable abbrev kSpl (rest : List (Bool × Sem Value)) (Q : List Value → Loc → LH → Prop) (v : Value) (m : Loc) (H : LH) : Prop := T prog w hT A L (spliced rest) m H fun vs => Q (v :: vs)
end

/-! names -/
noncomputable def lk : List Str → List (Option Value) → Loc
  | n :: ns, v :: vs, x => if x = n then v else lk ns vs x
  | _, _, _ => none
inductive At : List Str → List (Option Value) → Str → Option Value → Prop
  | here {n ns v vs} : At (n :: ns) (v :: vs) n v
  | there {n ns u vs x v} : At ns vs x v → At (n :: ns) (u :: vs) x v
inductive Put : List Str → List (Option Value) → Str → Option Value → List (Option Value) → Prop
  | here {n ns u v vs} : Put (n :: ns) (u :: vs) n v (v :: vs)
  | there {n ns u vs vs' x v} : Put ns vs x v vs' → Put (n :: ns) (u :: vs) x v (u :: vs')
theorem At.mem {ns vs x v} (h : At ns vs x v) : x ∈ ns := by
  induction h with
  | here => exact .head _
  | there _ ih => exact .tail _ ih
theorem Put.mem {ns vs x v vs'} (h : Put ns vs x v vs') : x ∈ ns := by
  induction h with
  | here => exact .head _
  | there _ ih => exact .tail _ ih
theorem At.eq {ns vs x v} (h : At ns vs x v) (nd : ns.Nodup) : lk ns vs x = v := by
  induction h with
  | here => exact if_pos rfl
  | there h ih =>
    rw [List.nodup_cons] at nd
    unfold lk
    rw [if_neg (fun e => nd.1 (by rw [← e]; exact h.mem)), ih nd.2]
theorem Put.eq {ns vs x v vs'} (h : Put ns vs x v vs') (nd : ns.Nodup) : lk ns vs' = fun y => if y = x then v else lk ns vs y := by
  induction h with
  | here =>
    funext y
    unfold lk
    split <;> rfl
  | @there n ns u vs vs' x v h ih =>
    rw [List.nodup_cons] at nd
    funext y
    have := congrFun (ih nd.2) y
    have ne : ¬ (n = x) := fun e => nd.1 (by rw [e]; exact h.mem)
    unfold lk
    by_cases q : y = n
    · subst q; simp [ne]
    · rw [if_neg q, if_neg q, this]

/-- a name among the globals, then the built-ins -/
noncomputable def Glob (hT : Heap) (x : Str) (v : Value) : Prop := ∃ mg mb, hT.Ns mainGlobals mg ∧ hT.Ns builtinsNs mb ∧ (mg x = some v ∨ (mg x = none ∧ mb x = some v))

structure FnE (hT : Heap) (env : Env) (L : Addr) (ns : List Str) (gs : List (Str × Value)) (fs : List (Str × Addr)) : Prop where
  kind : env.scope.kind = .function
  locals : env.locals = L
  globals : env.globals = mainGlobals
  builtins : env.builtins = builtinsNs
  nd : ns.Nodup
  loc : ∀ x ∈ ns, env.kindOf x = some .local
  glob : ∀ p ∈ gs, env.kindOf p.1 = some .globalImplicit ∧ Glob hT p.1 p.2
  cells : ∀ p ∈ fs, (env.kindOf p.1 = some .free ∨ env.kindOf p.1 = some .cell) ∧ env.cells.lookup p.1 = some p.2 ∧ (p.1 == ("__classdict__" : Str)) = false
  dbg : ∀ x, x ∈ ns ∨ x ∈ gs.map (·.1) ∨ x ∈ fs.map (·.1) → (x == ("__debug__" : Str)) = false

section
variable {prog : Program} {w : World} {hT : Heap} {α β : Type} {A : Around} {L : Addr} {m : Loc} {H : LH} {env : Env} {ns : List Str} {gs : List (Str × Value)} {fs : List (Str × Addr)}


theorem t_name_local {x : Str} {pos : Pos} {vs : List (Option Value)} {v : Value} {Q : Value → Loc → LH → Prop} (F : FnE hT env L ns gs fs) (ha : At ns vs x (some v)) (h : Q v (lk ns vs) H) :
    T prog w hT A L (eval (.Name x pos) env) (lk ns vs) H Q := fun _ _ _ _ y =>
  wpAny_Name (wpAny_loadName_local F.kind (F.loc x ha.mem) (F.locals ▸ y.ns) (ha.eq F.nd) ⟨_, H, y, h⟩) (F.dbg x (.inl ha.mem))
theorem load_global {x : Str} {v : Value} {s : Shared} {E : Value → Shared → Prop} {Q : Value → Shared → Prop} (F : FnE hT env L ns gs fs) (hm : (x, v) ∈ gs) (k : ∀ b o, hT.get? b = some o → s.heap.get? b = some o) (h : Q v s) : wpAny (model prog w) A (loadName env x) Q E s := by
  obtain ⟨hk, mg, mb, hg, hb, hv⟩ := F.glob _ hm
  rw [loadName_read F.kind hk]
  rcases hv with hv | ⟨h1, h2⟩
  · exact loadGlobal_global (F.globals ▸ hg.keeps k) hv h
  · exact loadGlobal_builtin (F.globals ▸ hg.keeps k) h1 (F.builtins ▸ hb.keeps k) h2 h
theorem St.top {B g os s} (y : St prog w hT B g os L m H s) : ∀ b o, hT.get? b = some o → s.heap.get? b = some o := fun b o e => y.rp.keep b o (y.rp.top b o e)
theorem t_name_global {x : Str} {pos : Pos} {v : Value} {Q : Value → Loc → LH → Prop} (F : FnE hT env L ns gs fs) (hm : (x, v) ∈ gs) (h : Q v m H) :
    T prog w hT A L (eval (.Name x pos) env) m H Q := fun _ _ _ _ y =>
  wpAny_Name (load_global F hm y.top ⟨_, H, y, h⟩) (F.dbg x (.inr (.inl (List.mem_map.mpr ⟨_, hm, rfl⟩))))
noncomputable abbrev cellObj (v : Value) : Obj := { cls := .type "cell", data := .cell (some v) }
noncomputable abbrev cellNone : Obj := { cls := .type "cell", data := .cell none }
theorem t_name_cell {x : Str} {pos : Pos} {v : Value} {c : Addr} {t : Tag} {Q : Value → Loc → LH → Prop} (F : FnE hT env L ns gs fs) (hm : (x, c) ∈ fs) (hc : H c = some (t, .cell (some v))) (h : Q v m H) :
    T prog w hT A L (eval (.Name x pos) env) m H Q := fun _ _ _ _ y => by
  obtain ⟨hk, hl, hcd⟩ := F.cells _ hm
  refine wpAny_Name ?_ (F.dbg x (.inr (.inr (List.mem_map.mpr ⟨_, hm, rfl⟩))))
  rcases hk with hk | hk
  · exact wpAny_loadName_free F.kind hk hl (y.rp.rep _ _ _ hc) ⟨_, H, y, h⟩ hcd
  · exact wpAny_loadName_cell F.kind hk hl (y.rp.rep _ _ _ hc) ⟨_, H, y, h⟩

theorem St.toks {B g os s t} (y : St prog w hT B g os L m H s) : St prog w hT B g os L m H { s with toks := t } := y.ext (fun _ _ e => e) rfl rfl

theorem t_store {x : Str} {v : Value} {vs vs' : List (Option Value)} {Q : Unit → Loc → LH → Prop} (F : FnE hT env L ns gs fs) (hp : Put ns vs x (some v) vs') (h : Q () (lk ns vs') H) :
    T prog w hT A L (storeName env x v) (lk ns vs) H Q := fun _ _ _ _ y => by
  refine wpAny_storeName_local (F.loc x hp.mem) (F.locals ▸ y.ns) (fun h' hn hs => ⟨lk ns vs', H, ?_, h⟩) (by rw [F.kind]; rfl)
  rw [F.locals] at hn hs
  exact y.local (by rw [hp.eq F.nd]; exact hn) hs.extBut rfl rfl
theorem t_store_cell {x : Str} {v : Value} {c : Addr} {t : Tag} {vo : Option Value} {Q : Unit → Loc → LH → Prop} (F : FnE hT env L ns gs fs) (hm : (x, c) ∈ fs) (hk : env.kindOf x = some .cell) (hc : H c = some (t, .cell vo))
    (h : Q () m (upd H c (t, .cell (some v)))) : T prog w hT A L (storeName env x v) m H Q := fun _ _ _ _ y => by
  obtain ⟨-, hl, -⟩ := F.cells _ hm
  exact wpAny_storeName_cell F.kind hk hl (y.rp.rep _ _ _ hc) fun h' hv hs => ⟨m, _, y.upd (c := .cell (some v)) hc hs.extBut hv rfl rfl, h⟩
theorem t_bindName {x : Str} {v : Value} {Q : Unit → Loc → LH → Prop} (h : T prog w hT A L (storeName env x v) m H Q) : T prog w hT A L (bindName env x v) m H Q := fun B g os s y => wpAny_bindName (h B g os s y)

/-! expressions -/
theorem t_int {i : Int} {k pos} {Q : Value → Loc → LH → Prop} (h : ∀ t, Q (.int i t) m H) : T prog w hT A L (eval (.Constant (.int i) k pos) env) m H Q := fun _ _ _ _ y => wpAny_Constant_int ⟨m, H, y.toks, h _⟩
theorem t_str {x : Str} {k pos} {Q : Value → Loc → LH → Prop} (h : ∀ t, Q (.str x t) m H) : T prog w hT A L (eval (.Constant (.str x) k pos) env) m H Q := fun _ _ _ _ y => wpAny_Constant_str ⟨m, H, y.toks, h _⟩
theorem t_boolc {b : Bool} {k pos} {Q : Value → Loc → LH → Prop} (h : Q (.bool b) m H) : T prog w hT A L (eval (.Constant (.bool b) k pos) env) m H Q := fun _ _ _ _ y => Constant_bool ⟨m, H, y, h⟩
theorem t_none {k pos} {Q : Value → Loc → LH → Prop} (h : Q .none m H) : T prog w hT A L (eval (.Constant .none k pos) env) m H Q := fun _ _ _ _ y => Constant_none ⟨m, H, y, h⟩

theorem t_binop {l op r pos} {Q : Value → Loc → LH → Prop} (h : T prog w hT A L (eval l env) m H (kBin prog w hT A L env r (binaryOp op) Q)) :
    T prog w hT A L (eval (.BinOp l op r pos) env) m H Q := fun B g os s y =>
  wpAny_BinOp (wpAny_mono (h B g os s y) (fun _ s1 ⟨_, _, y1, q1⟩ => wpAny_mono (q1 B g os s1 y1) (fun _ s2 ⟨_, _, y2, q2⟩ => q2 B g os s2 y2) fun _ _ e => e) fun _ _ e => e)
theorem t_compare {l op r pos} {Q : Value → Loc → LH → Prop} (h : T prog w hT A L (eval l env) m H (kBin prog w hT A L env r (compareOp op) Q))
    (hm : behindInMarks op r = false := by with_unfolding_all rfl) : T prog w hT A L (eval (.Compare l [op] [r] pos) env) m H Q := fun B g os s y =>
  wpAny_Compare1 (wpAny_mono (h B g os s y) (fun _ s1 ⟨_, _, y1, q1⟩ => wpAny_mono (q1 B g os s1 y1) (fun _ s2 ⟨_, _, y2, q2⟩ => q2 B g os s2 y2) fun _ _ e => e) fun _ _ e => e) hm
theorem t_unary {op x pos} {Q : Value → Loc → LH → Prop} (h : T prog w hT A L (eval x env) m H (kF prog w hT A L (unaryOp op) Q)) : T prog w hT A L (eval (.UnaryOp op x pos) env) m H Q := fun B g os s y =>
  UnaryOp_ (wpAny_mono (h B g os s y) (fun _ s1 ⟨_, _, y1, q1⟩ => q1 B g os s1 y1) fun _ _ e => e)
theorem t_not {v : Value} {Q : Value → Loc → LH → Prop} (h : T prog w hT A L (truthy v) m H (kNotV Q)) : T prog w hT A L (unaryOp .Not v) m H Q := fun B g os s y => not_of (h B g os s y)
theorem t_ifexp {test body orelse pos} {Q : Value → Loc → LH → Prop}
    (h : T prog w hT A L (isTrue test env (eval test env)) m H (kIfE prog w hT A L env body orelse Q)) :
    T prog w hT A L (eval (.IfExp test body orelse pos) env) m H Q := fun B g os s y =>
  IfExp_ (wpAny_mono (h B g os s y) (fun c s1 ⟨_, _, y1, q1⟩ => by
    cases c with
    | true => exact q1.1 rfl B g os s1 y1
    | false => exact q1.2 rfl B g os s1 y1) fun _ _ e => e)
theorem t_orValue {e₁ e₂ pos} {Q : Value → Loc → LH → Prop}
    (h : T prog w hT A L (eval e₁ env) m H (kOrV prog w hT A L env e₂ Q)) :
    T prog w hT A L (eval (.BoolOp .Or [e₁, e₂] pos) env) m H Q := fun B g os s y =>
  BoolOp_or (wpAny_mono (h B g os s y) (fun v s1 ⟨_, _, y1, q1⟩ => wpAny_mono (q1 B g os s1 y1) (fun c s2 ⟨m2, H2, y2, q2⟩ => by
    cases c with
    | true => exact ⟨m2, H2, y2, q2.1 rfl⟩
    | false => exact BoolOp_one (q2.2 rfl B g os s2 y2)) fun _ _ e => e) fun _ _ e => e)
theorem t_andValue {e₁ e₂ pos} {Q : Value → Loc → LH → Prop}
    (h : T prog w hT A L (eval e₁ env) m H (kAndV prog w hT A L env e₂ Q)) :
    T prog w hT A L (eval (.BoolOp .And [e₁, e₂] pos) env) m H Q := fun B g os s y =>
  BoolOp_and (wpAny_mono (h B g os s y) (fun v s1 ⟨_, _, y1, q1⟩ => wpAny_mono (q1 B g os s1 y1) (fun c s2 ⟨m2, H2, y2, q2⟩ => by
    cases c with
    | false => exact ⟨m2, H2, y2, q2.1 rfl⟩
    | true => exact BoolOp_one (q2.2 rfl B g os s2 y2)) fun _ _ e => e) fun _ _ e => e)

/-! tests -/
theorem t_truthy_bool {b : Bool} {Q : Bool → Loc → LH → Prop} (h : Q b m H) : T prog w hT A L (truthy (.bool b)) m H Q := fun _ _ _ _ y => wpAny_truthy_bool ⟨m, H, y, h⟩
theorem t_truthy_none {Q : Bool → Loc → LH → Prop} (h : Q false m H) : T prog w hT A L (truthy .none) m H Q := fun _ _ _ _ y => PyProof.Rows.truthy_none ⟨m, H, y, h⟩
theorem t_isTrue_compare {l op r pos whole} {Q : Bool → Loc → LH → Prop}
    (h : T prog w hT A L (eval l env) m H (kBin prog w hT A L env r (compareOp op) (kF prog w hT A L truthy Q)))
    (hm : behindInMarks op r = false := by with_unfolding_all rfl) : T prog w hT A L (isTrue (.Compare l [op] [r] pos) env whole) m H Q := fun B g os s y =>
  wpAny_isTrue_Compare1 (wpAny_mono (h B g os s y) (fun _ s1 ⟨_, _, y1, q1⟩ => wpAny_mono (q1 B g os s1 y1) (fun _ s2 ⟨_, _, y2, q2⟩ => wpAny_mono (q2 B g os s2 y2) (fun _ s3 ⟨_, _, y3, q3⟩ => q3 B g os s3 y3) fun _ _ e => e) fun _ _ e => e) fun _ _ e => e) hm
theorem t_isTrue_not {x pos whole} {Q : Bool → Loc → LH → Prop} (h : T prog w hT A L (isTrue x env (eval x env)) m H (kNot Q)) : T prog w hT A L (isTrue (.UnaryOp .Not x pos) env whole) m H Q := fun B g os s y =>
  PyProof.Rows.isTrue_not (h B g os s y)
theorem t_isTrue_and {x rest pos whole} {Q : Bool → Loc → LH → Prop}
    (h : T prog w hT A L (isTrue x env (eval x env)) m H (kAnd prog w hT A L env rest pos whole Q)) :
    T prog w hT A L (isTrue (.BoolOp .And (x :: rest) pos) env whole) m H Q := fun B g os s y =>
  PyProof.Rows.isTrue_and (wpAny_mono (h B g os s y) (fun c s1 ⟨m1, H1, y1, q1⟩ => by
    cases c with
    | true => exact q1.1 rfl B g os s1 y1
    | false => exact ⟨m1, H1, y1, q1.2 rfl⟩) fun _ _ e => e)
theorem t_isTrue_and_nil {pos whole} {Q : Bool → Loc → LH → Prop} (h : Q true m H) : T prog w hT A L (isTrue (.BoolOp .And [] pos) env whole) m H Q := fun _ _ _ _ y => PyProof.Rows.isTrue_and_nil ⟨m, H, y, h⟩
theorem t_isTrue_or {x rest pos whole} {Q : Bool → Loc → LH → Prop}
    (h : T prog w hT A L (isTrue x env (eval x env)) m H (kOr prog w hT A L env rest pos whole Q)) :
    T prog w hT A L (isTrue (.BoolOp .Or (x :: rest) pos) env whole) m H Q := fun B g os s y =>
  PyProof.Rows.isTrue_or (wpAny_mono (h B g os s y) (fun c s1 ⟨m1, H1, y1, q1⟩ => by
    cases c with
    | true => exact ⟨m1, H1, y1, q1.1 rfl⟩
    | false => exact q1.2 rfl B g os s1 y1) fun _ _ e => e)
theorem t_isTrue_or_nil {pos whole} {Q : Bool → Loc → LH → Prop} (h : Q false m H) : T prog w hT A L (isTrue (.BoolOp .Or [] pos) env whole) m H Q := fun _ _ _ _ y => PyProof.Rows.isTrue_or_nil ⟨m, H, y, h⟩
theorem t_isTrue_name {x : Str} {pos : Pos} {whole} {Q : Bool → Loc → LH → Prop} (h : T prog w hT A L whole m H (kF prog w hT A L truthy Q)) : T prog w hT A L (isTrue (.Name x pos) env whole) m H Q := fun B g os s y =>
  PyProof.Rows.isTrue_plain (wpAny_mono (h B g os s y) (fun _ s1 ⟨_, _, y1, q1⟩ => q1 B g os s1 y1) fun _ _ e => e)
theorem t_isTrue_call {f as ks pos} {whole} {Q : Bool → Loc → LH → Prop} (h : T prog w hT A L whole m H (kF prog w hT A L truthy Q)) : T prog w hT A L (isTrue (.Call f as ks pos) env whole) m H Q := fun B g os s y =>
  PyProof.Rows.isTrue_plain (wpAny_mono (h B g os s y) (fun _ s1 ⟨_, _, y1, q1⟩ => q1 B g os s1 y1) fun _ _ e => e)

/-! statements -/
noncomputable def Then (prog : Program) (w : World) (hT : Heap) (A : Around) (L : Addr) (rest : List Stmt) (env : Env) (Q : Flow → Loc → LH → Prop) : Flow → Loc → LH → Prop
  | .next, m, H => T prog w hT A L (execs rest env) m H Q
  | f, m, H => Q f m H
theorem t_nil {Q : Flow → Loc → LH → Prop} (h : Q .next m H) : T prog w hT A L (execs [] env) m H Q := fun _ _ _ _ y => wpAny_execs_nil ⟨m, H, y, h⟩
theorem t_cons {st rest} {Q : Flow → Loc → LH → Prop} (h : T prog w hT A L (exec st env) m H (Then prog w hT A L rest env Q)) : T prog w hT A L (execs (st :: rest) env) m H Q := fun B g os s y =>
  wpAny_execs_cons (wpAny_mono (h B g os s y) (fun f s1 ⟨m1, H1, y1, q1⟩ => by
    cases f <;> first | exact q1 B g os s1 y1 | exact ⟨m1, H1, y1, q1⟩) fun _ _ e => e)
theorem t_ret {e pos} {Q : Flow → Loc → LH → Prop} (h : T prog w hT A L (eval e env) m H (kRet Q)) : T prog w hT A L (exec (.Return (some e) pos) env) m H Q := fun B g os s y => wpAny_Return_some (h B g os s y)
theorem t_ret_none {pos} {Q : Flow → Loc → LH → Prop} (h : Q (.ret .none) m H) : T prog w hT A L (exec (.Return .none pos) env) m H Q := fun _ _ _ _ y => wpAny_Return_none ⟨m, H, y, h⟩
theorem t_if_ {test body orelse pos} {Q : Flow → Loc → LH → Prop}
    (h : T prog w hT A L (isTrue test env (eval test env)) m H (kIf prog w hT A L env body orelse Q)) :
    T prog w hT A L (exec (.If test body orelse pos) env) m H Q := fun B g os s y =>
  wpAny_If (wpAny_mono (h B g os s y) (fun c s1 ⟨m1, H1, y1, q1⟩ => by
    cases c with
    | true => exact q1.1 rfl B g os s1 y1
    | false => exact q1.2 rfl B g os s1 y1) fun _ _ e => e)
theorem t_assign_name {x pos' value pos} {Q : Flow → Loc → LH → Prop} (h : T prog w hT A L (eval value env) m H (kF prog w hT A L (storeName env x) (kNext Q)))
    (hs : swapsWith value (some (.Name x pos')) pos.line env = pure false := by rfl) : T prog w hT A L (exec (.Assign [.Name x pos'] value pos) env) m H Q := fun B g os s y =>
  wpAny_Assign_Name (wpAny_mono (h B g os s y) (fun _ s1 ⟨_, _, y1, q1⟩ => wpAny_mono (q1 B g os s1 y1) (fun _ _ z => z) fun _ _ e => e) fun _ _ e => e) hs
theorem t_assign_attr {o attr pos' value pos} {Q : Flow → Loc → LH → Prop} (h : T prog w hT A L (eval value env) m H (kAsA prog w hT A L env o attr Q))
    (hs : swapsWith value (some (.Attribute o attr pos')) pos.line env = pure false := by rfl) : T prog w hT A L (exec (.Assign [.Attribute o attr pos'] value pos) env) m H Q := fun B g os s y =>
  plainObj_wpAny_Assign_Attribute (wpAny_mono (h B g os s y) (fun _ s1 ⟨_, _, y1, q1⟩ => wpAny_mono (q1 B g os s1 y1) (fun _ s2 ⟨_, _, y2, q2⟩ => q2 B g os s2 y2) fun _ _ e => e) fun _ _ e => e) hs
theorem t_assign_sub {o i pos' value pos} {Q : Flow → Loc → LH → Prop} (h : T prog w hT A L (eval value env) m H (kAsS prog w hT A L env o i Q))
    (hs : swapsWith value (some (.Subscript o i pos')) pos.line env = pure false := by rfl) : T prog w hT A L (exec (.Assign [.Subscript o i pos'] value pos) env) m H Q := fun B g os s y =>
  wpAny_Assign_Subscript (wpAny_mono (h B g os s y) (fun _ s1 ⟨_, _, y1, q1⟩ => wpAny_mono (q1 B g os s1 y1) (fun _ s2 ⟨_, _, y2, q2⟩ => wpAny_mono (q2 B g os s2 y2) (fun _ s3 ⟨_, _, y3, q3⟩ => q3 B g os s3 y3) fun _ _ e => e) fun _ _ e => e) fun _ _ e => e) hs
theorem t_expr {e pos} {Q : Flow → Loc → LH → Prop} (h : T prog w hT A L (eval e env) m H (kNext Q))
    (hi : interactive env = false := by rfl) (hs : swapsWith e none pos.line env = pure false := by rfl) : T prog w hT A L (exec (.Expr e pos) env) m H Q := fun B g os s y =>
  wpAny_Expr_any (h B g os s y) hi hs
theorem t_aug_name {x pos' op value pos} {Q : Flow → Loc → LH → Prop} (h : T prog w hT A L (loadName env x) m H (kAug prog w hT A L env op value (kF prog w hT A L (storeName env x) (kNext Q)))) :
    T prog w hT A L (exec (.AugAssign (.Name x pos') op value pos) env) m H Q := fun B g os s y =>
  wpAny_AugAssign_Name (wpAny_mono (h B g os s y) (fun _ s1 ⟨_, _, y1, q1⟩ => wpAny_mono (q1 B g os s1 y1) (fun _ s2 ⟨_, _, y2, q2⟩ => wpAny_mono (q2 B g os s2 y2) (fun _ s3 ⟨_, _, y3, q3⟩ => q3 B g os s3 y3) fun _ _ e => e) fun _ _ e => e) fun _ _ e => e)
theorem t_load_local {x : Str} {vs : List (Option Value)} {v : Value} {Q : Value → Loc → LH → Prop} (F : FnE hT env L ns gs fs) (ha : At ns vs x (some v)) (h : Q v (lk ns vs) H) :
    T prog w hT A L (loadName env x) (lk ns vs) H Q := fun _ _ _ _ y => wpAny_loadName_local F.kind (F.loc x ha.mem) (F.locals ▸ y.ns) (ha.eq F.nd) ⟨_, H, y, h⟩
theorem t_aug_attr {o value : Expr} {attr : Str} {tpos pos : Pos} {op : Operator} {Q : Flow → Loc → LH → Prop}
    (h : T prog w hT A L (eval o env) m H (kAugA prog w hT A L env op value attr Q)) :
    T prog w hT A L (exec (.AugAssign (.Attribute o attr tpos) op value pos) env) m H Q := fun B g os s y =>
  wpAny_AugAssign_AttributeAny (wpAny_mono (h B g os s y) (fun _ s1 ⟨_, _, y1, q1⟩ => wpAny_mono (q1 B g os s1 y1) (fun _ s2 ⟨_, _, y2, q2⟩ => wpAny_mono (q2 B g os s2 y2) (fun _ s3 ⟨_, _, y3, q3⟩ => wpAny_mono (q3 B g os s3 y3) (fun _ s4 ⟨_, _, y4, q4⟩ => q4 B g os s4 y4) fun _ _ e => e) fun _ _ e => e) fun _ _ e => e) fun _ _ e => e)

/-! ints -/
section
variable {a b : Int} {t u : Tok} {Q : Value → Loc → LH → Prop}
theorem t_add (h : ∀ k, Q (.int (a + b) k) m H) : T prog w hT A L (binaryOp .Add (.int a t) (.int b u)) m H Q := fun _ _ _ _ y => PyProof.Rows.add_int ⟨m, H, y.toks, h _⟩
theorem t_sub (h : ∀ k, Q (.int (a - b) k) m H) : T prog w hT A L (binaryOp .Sub (.int a t) (.int b u)) m H Q := fun _ _ _ _ y => PyProof.Rows.sub_int ⟨m, H, y.toks, h _⟩
theorem t_iadd (h : ∀ k, Q (.int (a + b) k) m H) : T prog w hT A L (inplaceOp .Add (.int a t) (.int b u)) m H Q := fun _ _ _ _ y => PyProof.Rows.iadd_int ⟨m, H, y.toks, h _⟩
theorem t_isub (h : ∀ k, Q (.int (a - b) k) m H) : T prog w hT A L (inplaceOp .Sub (.int a t) (.int b u)) m H Q := fun _ _ _ _ y => PyProof.Rows.isub_int ⟨m, H, y.toks, h _⟩
theorem t_mod (hb : b ≠ 0) (h : ∀ k, Q (.int (a.fmod b) k) m H) : T prog w hT A L (binaryOp .Mod (.int a t) (.int b u)) m H Q := fun _ _ _ _ y => PyProof.Rows.mod_int hb ⟨m, H, y.toks, h _⟩
theorem t_mul (hm : IntMulOk a b) (h : ∀ k, Q (.int (a * b) k) m H) : T prog w hT A L (binaryOp .Mult (.int a t) (.int b u)) m H Q := fun _ _ _ _ y => mul_int (by exact ⟨m, H, y.toks, h _⟩) hm
theorem t_fdiv (hb : b ≠ 0) (hp : Builtin.divisionGoesByPylong a b = false) (h : ∀ k, Q (.int (a.fdiv b) k) m H) : T prog w hT A L (binaryOp .FloorDiv (.int a t) (.int b u)) m H Q := fun _ _ _ _ y => PyProof.Rows.floordiv_int hb ⟨m, H, y.toks, h _⟩ (.inl hp)
theorem t_eqi (h : Q (.bool (a == b)) m H) : T prog w hT A L (compareOp .Eq (.int a t) (.int b u)) m H Q := fun _ _ _ _ y => PyProof.Rows.eq_int ⟨m, H, y, h⟩
theorem t_nei (h : Q (.bool (a != b)) m H) : T prog w hT A L (compareOp .NotEq (.int a t) (.int b u)) m H Q := fun _ _ _ _ y => PyProof.Rows.ne_int ⟨m, H, y, h⟩
theorem t_lti (h : Q (.bool (decide (a < b))) m H) : T prog w hT A L (compareOp .Lt (.int a t) (.int b u)) m H Q := fun _ _ _ _ y => PyProof.Rows.lt_int ⟨m, H, y, h⟩
theorem t_gti (h : Q (.bool (decide (b < a))) m H) : T prog w hT A L (compareOp .Gt (.int a t) (.int b u)) m H Q := fun _ _ _ _ y => PyProof.Rows.gt_int ⟨m, H, y, h⟩
end
end

/-! part F3 -/
/-- the top as the rules need it -/
structure Tp (K : Frag) (hT : Heap) : Prop where
  X : K.In hT
  nl : hT.NoLimit
  gl : ∃ mg mb, hT.Ns mainGlobals mg ∧ hT.Ns builtinsNs mb ∧ ∀ x : Str, x ≠ "__name__" → mb x = bootBuiltins x

noncomputable def globOk (K : Frag) (names : List (Str × NameKind)) (p : Str × Value) : Bool :=
  decide (names.lookup p.1 = some .globalImplicit) && (decide (nsIn K mainGlobals p.1 = some (some p.2)) || (decide (nsIn K mainGlobals p.1 = some none) && decide (p.1 ≠ ("__name__" : Str)) && decide (bootBuiltins p.1 = some p.2)))
theorem glob_of {K : Frag} {hT : Heap} (P : Tp K hT) {names : List (Str × NameKind)} {p : Str × Value} (h : globOk K names p = true) : names.lookup p.1 = some .globalImplicit ∧ Glob hT p.1 p.2 := by
  obtain ⟨mg, mb, G, Bn, hb⟩ := P.gl
  unfold globOk at h
  simp only [Bool.and_eq_true, Bool.or_eq_true, decide_eq_true_eq] at h
  refine ⟨h.1, mg, mb, G, Bn, ?_⟩
  rcases h.2 with e | ⟨⟨e1, e2⟩, e3⟩
  · exact .inl (mg_of P.X G e)
  · exact .inr ⟨ns_none_of P.X G e1, (hb _ e2).trans e3⟩

noncomputable def kindsOk (K : Frag) (scope : Scope) (ns : List Str) (gs : List (Str × Value)) : Bool :=
  decide (scope.kind = .function) && decide ns.Nodup && (ns.all fun x => decide (scope.names.lookup x = some .local)) && (gs.all (globOk K scope.names)) &&
  (ns.all fun x => !(x == ("__debug__" : Str))) && (gs.all fun p => !(p.1 == ("__debug__" : Str)))
noncomputable def cellsOk (scope : Scope) (xs : List Str) : Bool :=
  xs.all fun x => (decide (scope.names.lookup x = some .free) || decide (scope.names.lookup x = some .cell)) && !(x == ("__classdict__" : Str)) && !(x == ("__debug__" : Str))
theorem fnE_of {K : Frag} {hT : Heap} (P : Tp K hT) {scope : Scope} {L : Addr} {cells : List (Str × Addr)} {qual : Str} {f : Option Addr} {code : Value} {ns : List Str} {gs : List (Str × Value)} {fs : List (Str × Addr)}
    (h : kindsOk K scope ns gs = true) (hc : cellsOk scope (fs.map (·.1)) = true := by rfl) (hf : ∀ p ∈ fs, cells.lookup p.1 = some p.2 := by intro p hp; cases hp) :
    FnE hT (newEnv scope L mainGlobals cells qual f code none builtinsNs) L ns gs fs := by
  unfold kindsOk at h
  unfold cellsOk at hc
  simp only [Bool.and_eq_true, decide_eq_true_eq, List.all_eq_true, Bool.not_eq_true', Bool.or_eq_true] at h hc
  obtain ⟨⟨⟨⟨⟨h1, h2⟩, h3⟩, h4⟩, h5⟩, h6⟩ := h
  refine ⟨h1, rfl, rfl, rfl, h2, h3, fun p hp => glob_of P (h4 p hp), fun p hp => ?_, ?_⟩
  · have := hc p.1 (List.mem_map.mpr ⟨p, hp, rfl⟩)
    exact ⟨this.1.1, hf p hp, this.1.2⟩
  · rintro x (hx | hx | hx)
    · exact h5 x hx
    · obtain ⟨p, hp, rfl⟩ := List.mem_map.mp hx
      exact h6 p hp
    · exact (hc x hx).2

structure Room (n : Nat) (A : Around) : Prop where
  h : A.handled = none
  d : A.depth + n < 900
  u : A.units + 10 * n < 9000
theorem Room.deeper {n : Nat} {A : Around} (R : Room (n + 1) A) (env : Env) : Room n (A.deeper env) := ⟨R.h, by have := R.d; show A.depth + 1 + n < 900; lia, by have := R.u; show A.units + 3 + 10 * n < 9000; lia⟩
theorem Room.in1 {n : Nat} {A : Around} (R : Room (n + 1) A) : Room n A.in1 := ⟨R.h, by have := R.d; show A.depth + n < 900; (refine Nat.le_of_lt ?_; assumption), by have := R.u; show A.units + 1 + 10 * n < 9000; lia⟩
theorem Room.lt {n : Nat} {A : Around} (R : Room n A) : A.depth < recursionLimit := by have := R.d; show A.depth < 1000; lia
theorem Room.cl {n : Nat} {A : Around} (R : Room n A) : A.units < cLine := by have := R.u; show A.units < 9900; lia
theorem Room.le {n k : Nat} {A : Around} (R : Room n A) (h : k ≤ n) : Room k A := ⟨R.h, by have := R.d; lia, by have := R.u; lia⟩
theorem Room.mark {n : Nat} {A : Around} (R : Room n A) : Room n (A.mark none) := R

theorem lk_none : ∀ (ls : List Str) (x : Str), lk ls (ls.map fun _ => none) x = none
  | [], _ => rfl
  | l :: ls, x => by
    show (if x = l then none else lk ls (ls.map fun _ => none) x) = none
    split
    · rfl
    · exact lk_none ls x
theorem lookup_append {α : Type} : ∀ (l r : List (Str × α)) (x : Str), (l ++ r).lookup x = (l.lookup x).or (r.lookup x)
  | [], _, _ => rfl
  | (k, v) :: l, r, x => by
    rw [List.cons_append, List.lookup_cons, List.lookup_cons]
    cases x == k with
    | true => rfl
    | false => exact lookup_append l r x
theorem lookup_none {α : Type} : ∀ {l : List (Str × α)} {x : Str}, x ∉ l.map (·.1) → l.lookup x = none
  | [], _, _ => rfl
  | (k, v) :: l, x, h => by
    rw [List.map_cons, List.mem_cons, not_or] at h
    rw [List.lookup_cons]
    have : (x == k) = false := by
      cases q : x == k with
      | false => rfl
      | true => exact absurd (beq_iff_eq.mp q) h.1
    rw [this]
    exact lookup_none h.2
theorem lk_binds (ls : List Str) : ∀ (ps : List Str) (args : List Value), (ps ++ ls).Nodup → ps.length = args.length →
    (fun x => (ps.zip args).reverse.lookup x) = lk (ps ++ ls) (args.map some ++ ls.map fun _ => none)
  | [], [], _, _ => by funext x; rw [List.nil_append, List.map_nil, List.nil_append, lk_none]; rfl
  | p :: ps, a :: args, nd, len => by
    rw [List.cons_append, List.nodup_cons] at nd
    have ih := lk_binds ls ps args nd.2 (by simpa using len)
    funext x
    have e := congrFun ih x
    rw [List.zip_cons_cons, List.reverse_cons, lookup_append, show List.lookup x (ps.zip args).reverse = _ from e]
    show _ = if x = p then some a else lk (ps ++ ls) (args.map some ++ ls.map fun _ => none) x
    by_cases q : x = p
    · subst q
      have : lk (ps ++ ls) (args.map some ++ ls.map fun _ => none) x = none := by
        rw [← e]
        refine lookup_none fun hm => nd.1 ?_
        rw [List.map_reverse, List.mem_reverse] at hm
        obtain ⟨y, hy, rfl⟩ := List.mem_map.mp hm
        exact List.mem_append_left _ (List.of_mem_zip hy).1
      rw [this, if_pos rfl]
      simp
    · rw [if_neg q]
      have : List.lookup x [(p, a)] = none := by
        rw [List.lookup_cons]
        have : (x == p) = false := by simpa using q
        rw [this]; rfl
      rw [this, Option.or_none]

section
variable {prog : Program} {w : World} {hT : Heap} {K : Frag} {A : Around} {H : LH}

/-- a def of the text or a made one is called: its body is walked in a frame of its own -/
theorem c_body {f : Addr} {fd : FuncData} {o : Obj} {body : List Stmt} {args : Args} {ps ls : List Str} {vals : List Value} {Q : Value → LH → Prop} (P : Tp K hT) (hr : A.depth < recursionLimit)
    (ho : ∀ B g os s, Rp prog w hT B g os H s → s.heap.get? f = some o ∧ s.heap.CodeRec fd.code fd.qualname) (hd : o.data = .func fd) (hbody : fd.body = .stmts body)
    (hbind : ∀ s, BindsTo s fd args (ps.zip vals)) (len : ps.length = vals.length) (nd : (ps ++ ls).Nodup) (hloc : (ps.all fun x => decide (fd.scope.names.lookup x = some .local)) = true) (hcell : (fd.scope.names.all fun x => decide (x.2 ≠ .cell)) = true)
    (h : ∀ L, T prog w hT (A.deeper (callEnv fd L f)) L (execs body (callEnv fd L f)) (lk (ps ++ ls) (vals.map some ++ ls.map fun _ => none)) H fun fl _ H' => Q (match fl with | .ret v => v | _ => .none) H')
    (hco : fd.scope.isCoroutine = false := by rfl) (hgen : fd.scope.isGenerator = false := by rfl) (hk : fd.scope.kind = .function := by rfl) : C prog w hT A (.ref f) args H Q := by
  intro B g os s x
  obtain ⟨ho, hcd⟩ := ho B g os s x
  refine codeAny_call_def hr ho hd (P.nl.keeps fun b o e => x.keep b o (x.top b o e)) hcd hbody (hbind s) (fun y hy => of_decide_eq_true (List.all_eq_true.mp hcell y hy)) (fun y hy => ?_) (fun h₀ hns hk₀ => ?_) hco hgen hk
  · exact of_decide_eq_true (List.all_eq_true.mp hloc y.1 (List.of_mem_zip hy).1)
  · have fr := x.fresh (get?_size s.heap)
    have x' : Rp prog w hT B g os H { s with heap := h₀, toks := s.toks + (ps.zip vals).length } := x.ext hk₀ rfl rfl
    have y : St prog w hT B g os s.heap.objs.size (lk (ps ++ ls) (vals.map some ++ ls.map fun _ => none)) H { s with heap := h₀, toks := s.toks + (ps.zip vals).length } := ⟨x', by rw [← lk_binds ls ps vals nd len]; exact hns, fr.1, fr.2⟩
    refine wpAny_mono (h s.heap.objs.size B g os _ y) (fun fl s' z => ?_) fun _ _ e => e.elim
    obtain ⟨m', H', y', q⟩ := z
    exact ⟨_, H', rfl, y'.rp, q⟩

theorem codeIn_rec {B g os s} (P : Tp K hT) {cd : Value} {q : Str} (e : codeIn K cd q = true) (x : Rp prog w hT B g os H s) : s.heap.CodeRec cd q := codeRec_of (x.in P.X) e

theorem c_def {f : Addr} {fd : FuncData} {oc : Value} {od : Option Addr} {osl : Array (Option Value)} {body : List Stmt} {args : Args} {ps ls : List Str} {vals : List Value} {Q : Value → LH → Prop} (P : Tp K hT)
    (ho : K.lookup f = some ⟨oc, od, .func fd, osl⟩) (hr : A.depth < recursionLimit) (hcd : codeIn K fd.code fd.qualname = true) (hbody : fd.body = .stmts body)
    (hbind : ∀ s, BindsTo s fd args (ps.zip vals)) (len : ps.length = vals.length) (nd : (ps ++ ls).Nodup) (hloc : (ps.all fun x => decide (fd.scope.names.lookup x = some .local)) = true) (hcell : (fd.scope.names.all fun x => decide (x.2 ≠ .cell)) = true)
    (h : ∀ L, T prog w hT (A.deeper (callEnv fd L f)) L (execs body (callEnv fd L f)) (lk (ps ++ ls) (vals.map some ++ ls.map fun _ => none)) H fun fl _ H' => Q (match fl with | .ret v => v | _ => .none) H')
    (hco : fd.scope.isCoroutine = false := by rfl) (hgen : fd.scope.isGenerator = false := by rfl) (hk : fd.scope.kind = .function := by rfl) : C prog w hT A (.ref f) args H Q :=
  c_body P hr (fun _ _ _ _ x => ⟨x.in P.X _ _ ho, codeIn_rec P hcd x⟩) rfl hbody hbind len nd hloc hcell h hco hgen hk
end

section
variable {prog : Program} {w : World} {hT : Heap} {K : Frag} {α : Type} {A : Around} {L : Addr} {m : Loc} {H : LH} {env : Env}

/-! arguments -/
theorem t_spl_nil {Q : List Value → Loc → LH → Prop} (h : Q [] m H) : T prog w hT A L (spliced []) m H Q := fun _ _ _ _ y => spliced_nil ⟨m, H, y, h⟩
theorem t_spl_cons {x : Sem Value} {rest : List (Bool × Sem Value)} {Q : List Value → Loc → LH → Prop} (h : T prog w hT A L x m H (kSpl prog w hT A L rest Q)) :
    T prog w hT A L (spliced ((false, x) :: rest)) m H Q := fun B g os s y =>
  spliced_cons (wpAny_mono (h B g os s y) (fun _ s1 ⟨_, _, y1, q1⟩ => q1 B g os s1 y1) fun _ _ e => e)
theorem t_args {f : Value} {args : List (Bool × Sem Value)} {Q : Args → Loc → LH → Prop} (hp : args.any (·.1) = false) (h : T prog w hT A L (spliced args) m H fun vs m1 H1 => Q ⟨vs, []⟩ m1 H1) : T prog w hT A L (evalArgs f true args []) m H Q := fun B g os s y => by
  cases args with
  | nil =>
    unfold evalArgs
    show wpAny _ _ (spliced [] >>= _) _ _ s
    exact wpAny_bind (wpAny_mono (h B g os s y) (fun _ s1 ⟨m1, H1, y1, q1⟩ => wpAny_bind (wpAny_pure (wpAny_holding (wpAny_bind (wpAny_pure (wpAny_bind (wpAny_pure (wpAny_pure ⟨m1, H1, y1, q1⟩))))))) ) fun _ _ e => e)
  | cons a rest =>
    obtain ⟨b, x⟩ := a
    have hb : b = false := by simpa using (Bool.or_eq_false_iff.mp (by simpa using hp : (b || rest.any (·.1)) = false)).1
    subst hb
    exact evalArgs_plain (h B g os s y)

/-- what a callee's value is at every heap that is tracked so -/
noncomputable def Keeps (prog : Program) (w : World) (hT : Heap) (H : LH) (f : Value) : Prop :=
  ∀ B g os s, Rp prog w hT B g os H s → ∃ k, (k = Keeper.frame ∨ k = Keeper.machine ∨ k = Keeper.boundFrame) ∧ Looks (model prog w) s.heap (keeperOf f) k
theorem keeps_builtin {i : String} : Keeps prog w hT H (.builtin i) := fun _ _ _ _ _ => ⟨.machine, .inr (.inl rfl), Looks.now⟩
theorem keeps_type {i : String} : Keeps prog w hT H (.type i) := fun _ _ _ _ _ => ⟨.machine, .inr (.inl rfl), Looks.now⟩
theorem keeps_top (P : Tp K hT) {f : Value} (h : keepIn K f = true) : Keeps prog w hT H f := fun _ _ _ _ x => keeps_K h _ (x.in P.X)
theorem keeps_fn {f : Addr} {t : Tag} {oc : Value} {od : Option Addr} {fd : FuncData} {osl : Array (Option Value)} (h : H f = some (t, .obj ⟨oc, od, .func fd, osl⟩)) : Keeps prog w hT H (.ref f) := fun _ _ _ _ x =>
  ⟨.frame, .inl rfl, (Looks.ld (part := none) (x.rep _ _ _ h)).andThen .now⟩
theorem keeps_bound (P : Tp K hT) {p f : Addr} {t : Tag} {self : Value} (h : H p = some (t, .obj (methodObj (.ref f) self))) (hf : fnIn K f = true) : Keeps prog w hT H (.ref p) := fun _ _ _ _ x =>
  keeps_M hf _ ⟨x.rep _ _ _ h, x.in P.X⟩

noncomputable abbrev kMeth (prog : Program) (w : World) (hT : Heap) (A : Around) (L : Addr) (env : Env) (o : Expr) (name : Str) (pos : Pos) (trees : List (Bool × Sem Value)) (Q : Value → Loc → LH → Prop) (ov : Value) (m : Loc) (H : LH) : Prop := T prog w hT A L (getMethod ov name (do return (← importBound o env).getD true)) m H (kF prog w hT A L (fun fs => callWith pos fs.1 fs.2 trees []) Q)
noncomputable abbrev kCall (prog : Program) (w : World) (hT : Heap) (A : Around) (L : Addr) (f : Value) (first : List Value) (Q : Value → Loc → LH → Prop) (vs : List Value) (m : Loc) (H : LH) : Prop := Keeps prog w hT H f ∧ T prog w hT A L (call f (first ++ vs)) m H Q
theorem t_callWith {pos : Pos} {f : Value} {first : List Value} {args : List (Bool × Sem Value)} {Q : Value → Loc → LH → Prop} (hp : args.any (·.1) = false)
    (h : T prog w hT A L (spliced args) m H (kCall prog w hT A L f first Q)) : T prog w hT A L (callWith pos f first args []) m H Q := fun B g os s y => by
  refine callWith_of (P := fun hh => ∃ k, (k = Keeper.frame ∨ k = Keeper.machine ∨ k = Keeper.boundFrame) ∧ Looks (model prog w) hh (keeperOf f) k) (by rw [hp]; rfl) (fun _ q => q) ?_
  refine wpAny_mono (t_args (Q := fun a m1 H1 => Keeps prog w hT H1 f ∧ T prog w hT A L (call f (first ++ a.pos) a.kw) m1 H1 Q) hp h B g os s y) (fun a s1 ⟨m1, H1, y1, q1⟩ => ⟨q1.1 B g os s1 y1.rp, ?_⟩) fun _ _ e => e
  exact q1.2 B g os s1 y1

/-! a call of a name, of a method -/
theorem t_callName {x : Str} {p pos : Pos} {args : List Expr} {trees : List (Bool × Sem Value)} {Q : Value → Loc → LH → Prop}
    (h : T prog w hT A L (eval (.Name x p) env) m H (kF prog w hT A L (fun f => callWith pos f [] trees []) Q)) (ht : backTo pos (starEach args env) = trees := by rfl) :
    T prog w hT A L (eval (.Call (.Name x p) args [] pos) env) m H Q := fun B g os s y => by
  subst ht
  exact wpAny_bind (wpAny_mono (h B g os s y) (fun _ s1 ⟨_, _, y1, q1⟩ => q1 B g os s1 y1) fun _ _ e => e)
theorem t_callMethod {o : Expr} {name : Str} {apos pos : Pos} {args : List Expr} {trees : List (Bool × Sem Value)} {Q : Value → Loc → LH → Prop}
    (h : T prog w hT A L (eval o env) m H (kMeth prog w hT A L env o name pos trees Q))
    (ht : backTo pos (starEach args env) = trees := by rfl) (hb : ∀ wh : Sem Value, attributeBase o name env wh = wh := by intro _; rfl) (hl : (apos.endLine == pos.line) = true := by rfl)
    (hfew : methodCallForm (args.length + ([] : List Keyword).length) (backTo pos (starEach args env)) (backToKw pos (keywordEach [] env)) = true := by rfl) :
    T prog w hT A L (eval (.Call (.Attribute o name apos) args [] pos) env) m H Q := fun B g os s y => by
  subst ht
  rw [arm_eval_Call, hb]
  refine wpAny_bind (wpAny_mono (h B g os s y) (fun ov s1 ⟨_, _, y1, q1⟩ => wpAny_bind (wpAny_standAt ?_)) fun _ _ e => e)
  unfold methodCall
  rw [hfew]
  refine wpAny_bind (wpAny_holding (wpAny_mono (q1 B g os s1 y1) (fun fs s2 ⟨_, _, y2, q2⟩ => ?_) fun _ _ e => e))
  unfold methodCallPos
  rw [hl]
  exact wpAny_bind (wpAny_pure (q2 B g os s2 y2))
theorem t_attr {e : Expr} {attr : Str} {pos : Pos} {Q : Value → Loc → LH → Prop} (h : T prog w hT A L (eval e env) m H (kF prog w hT A L (fun ov => getAttr ov attr true) Q)) (hb : ∀ wh : Sem Value, attributeBase e attr env wh = wh := by intro _; rfl) :
    T prog w hT A L (eval (.Attribute e attr pos) env) m H Q := fun B g os s y => by
  rw [arm_eval_Attribute, hb]
  refine wpAny_bind (wpAny_mono (h B g os s y) (fun ov s1 ⟨_, _, y1, q1⟩ => wpAny_bind (wpAny_standAt ?_)) fun _ _ e => e)
  exact wpAny_bind (wpAny_holding (wpAny_mono (q1 B g os s1 y1) (fun r s2 z => wpAny_bind (wpAny_letTemporaryGo (wpAny_pure z))) fun _ _ e => e))

/-! instances -/
theorem lookIn_ns {h : Heap} {a : Addr} {mm : Loc} (x : h.Ns a mm) : ∃ o, h.get? a = some o ∧ ∀ name, lookIn name o = some (mm name) := by
  obtain ⟨o, es, ep, ho, hd, hk, hm⟩ := x
  refine ⟨o, ho, fun name => ?_⟩
  unfold lookIn
  rw [hd, ← hm name]
  unfold nsFind findBy
  rw [← Array.find?_toList]
  dsimp only
  split
  · rename_i e he; rw [he]; rfl
  · rename_i he
    rw [he]
    have : es.toList.any (·.refKey) = false := by
      rw [List.any_eq_false]
      intro e he'
      obtain ⟨n, t, h⟩ := hk e (by simpa using he')
      simp [DictEntry.refKey, h]
    rw [this]; rfl
theorem inst_at {h : Heap} {x C d : Addr} {mm : Loc} (hx : h.get? x = some (instObj C d)) (hd : h.Ns d mm) : ∃ od, InstAt h x (instObj C d) C (some od) ∧ ∀ name, lookIn name od = some (mm name) := by
  obtain ⟨o, ho, hl⟩ := lookIn_ns hd
  exact ⟨o, ⟨hx, rfl, rfl, ho⟩, hl⟩

/-- an attribute that the instance itself bears -/
noncomputable def ownAttr (K : Frag) (C : Addr) (name : Str) : Bool := plainGet K C name && hasDictIn K C && (match findIn K (.ref C) name with | some attr => noGet K attr | none => false)
theorem t_getOwn {x C d : Addr} {mm : Loc} {kk : Nat} {t t' : Tag} {name : Str} {v : Value} {ex : Bool} {Q : Value → Loc → LH → Prop} (P : Tp K hT) (hx : H x = some (t, .inst C d)) (hd : H d = some (t', .ns kk mm)) (hv : mm name = some v)
    (ho : ownAttr K C name = true) (hh : handedIn v = true) (h : Q v m H) : T prog w hT A L (getAttr (.ref x) name ex) m H Q := fun B g os s y => by
  obtain ⟨od, I, hl⟩ := inst_at (y.rp.rep _ _ _ hx) (y.rp.rep _ _ _ hd).ns
  unfold ownAttr at ho
  simp only [Bool.and_eq_true] at ho
  obtain ⟨⟨h1, h2⟩, h3⟩ := ho
  split at h3
  · rename_i attr ha
    exact get_value (y.rp.in P.X) I (plainGet_of h1).1 (findObj_own h2 ha h3 (by rw [hl, hv])) hh ⟨m, H, y.toks, h⟩
  · cases h3
/-- a method of the class, called -/
noncomputable def classFn (K : Frag) (C : Addr) (name : Str) (f : Addr) : Bool := plainGet K C name && decide (findIn K (.ref C) name = some (some (.ref f))) && isFn K (.ref f)
theorem t_method {x C d : Addr} {mm : Loc} {kk : Nat} {t t' : Tag} {name : Str} {f : Addr} {pl : Sem Bool} {Q : Value × List Value → Loc → LH → Prop} (P : Tp K hT) (hx : H x = some (t, .inst C d)) (hd : H d = some (t', .ns kk mm)) (hv : mm name = none)
    (ho : classFn K C name f = true) (h : Q (.ref f, [.ref x]) m H) : T prog w hT A L (getMethod (.ref x) name pl) m H Q := fun B g os s y => by
  obtain ⟨od, I, hl⟩ := inst_at (y.rp.rep _ _ _ hx) (y.rp.rep _ _ _ hd).ns
  unfold classFn at ho
  simp only [Bool.and_eq_true, decide_eq_true_eq] at ho
  obtain ⟨⟨h1, h2⟩, h3⟩ := ho
  exact method_fn (y.rp.in P.X) I (plainGet_of h1).1 (plainGet_of h1).2 h2 (beq_iff_eq.mp h3) (by show (lookIn name od).map _ = _; rw [hl, hv]; rfl) ⟨m, H, y, h⟩
/-- a callable that the instance itself bears, called -/
noncomputable def noClassAttr (K : Frag) (C : Addr) (name : Str) : Bool := plainGet K C name && hasDictIn K C && decide (findIn K (.ref C) name = some none)
theorem t_methodOwn {x C d : Addr} {mm : Loc} {kk : Nat} {t t' : Tag} {name : Str} {v : Value} {pl : Sem Bool} {Q : Value × List Value → Loc → LH → Prop} (P : Tp K hT) (hx : H x = some (t, .inst C d)) (hd : H d = some (t', .ns kk mm)) (hv : mm name = some v)
    (ho : noClassAttr K C name = true) (hh : handedIn v = true) (h : Q (v, []) m H) : T prog w hT A L (getMethod (.ref x) name pl) m H Q := fun B g os s y => by
  obtain ⟨od, I, hl⟩ := inst_at (y.rp.rep _ _ _ hx) (y.rp.rep _ _ _ hd).ns
  unfold noClassAttr at ho
  simp only [Bool.and_eq_true, decide_eq_true_eq] at ho
  obtain ⟨⟨h1, h2⟩, h3⟩ := ho
  have X := y.rp.in P.X
  have hcan := PySem.F.canon_object_ga
  unfold getMethod specialOf
  refine wpAny_bind (wpAny_bind (I.type.here ((looks_findIn X (plainGet_of h1).1).here ?_)))
  dsimp only
  rw [hcan, if_neg (by decide)]
  refine wpAny_bind (wpAny_bind (I.type.here ((looks_findIn X (plainGet_of h1).2).here ?_)))
  refine wpAny_bind (wpAny_bind (I.type.here ((looks_findIn X h3).here ?_)))
  refine wpAny_bind ?_
  exact get_value X I (plainGet_of h1).1 (findObj_own h2 h3 rfl (by rw [hl, hv])) hh (wpAny_pure ⟨m, H, y.toks, h⟩)
end

/-! part F4 -/
section
variable {prog : Program} {w : World} {hT : Heap} {K : Frag} {α : Type} {A : Around} {L : Addr} {m : Loc} {H : LH} {env : Env} {B : Addr → Obj → Prop} {g : Array GenState} {os : OsState} {s : Shared}

/-! stores into an object -/
noncomputable def putOk (K : Frag) (C : Addr) (name : Str) : Bool := decide (findIn K (.ref C) "__setattr__" = some (some (.builtin "object.__setattr__"))) && plainOver K C && decide (takerIn K C name = some none) && hasDictIn K C
theorem t_setAttr {x C d : Addr} {mm : Loc} {kk : Nat} {t t' : Tag} {name : Str} {v : Value} {Q : Unit → Loc → LH → Prop} (P : Tp K hT) (hx : H x = some (t, .inst C d)) (hd : H d = some (t', .ns kk mm))
    (ho : putOk K C name = true) (hk : kk ≤ 1000) (h : Q () m (upd H d (t', .ns (if (mm name).isSome then kk else kk + 1) (set mm name v)))) : T prog w hT A L (setAttr (.ref x) name v) m H Q := fun B g os s y => by
  obtain ⟨od, I, hl⟩ := inst_at (y.rp.rep _ _ _ hx) (y.rp.rep _ _ _ hd).ns
  unfold putOk at ho
  simp only [Bool.and_eq_true, decide_eq_true_eq] at ho
  obtain ⟨⟨⟨h1, h2⟩, h3⟩, h4⟩ := ho
  have X := y.rp.in P.X
  refine set_plain X I h1 (osa_open (s := { s with toks := s.toks + 1 }) X I h2 h3 fun b => ?_)
  obtain ⟨cd, hc, hd'⟩ := any_some h4
  obtain ⟨hx', hcl, hn, -⟩ := I
  refine wpAny_bind (wpAny_pure (wpAny_bind (wpAny_bind (wpAny_loadPart hx' (wpAny_bind (looks_clsIn (h := s.heap) X hc _ _ _ _ (fun _ _ e => e) ?_))))))
  rw [hd']
  refine wpAny_pure (a := some d) (wpAny_bind (wpAny_pure (wpAny_bind ?_)))
  have hns : NsN s.heap d kk mm := y.rp.rep _ _ _ hd
  refine wpAny_nsSetN (s := { s with toks := s.toks + 1 }) hns (fun h' hn' hs' => wpAny_bind ?_)
  obtain ⟨o', es', ep', ho', hd', -, -, hz'⟩ := id hn'
  refine wpAny_lookBehind ho' (by rw [hd']; exact pastItsLine_dict (Nat.le_trans hz' (by rw [sizeLine_eq]; split <;> lia))) (wpAny_pure ?_)
  exact ⟨m, _, y.upd (c := .ns (if (mm name).isSome then kk else kk + 1) (set mm name v)) hd hs'.extBut hn' rfl rfl, h⟩

/-! a bound method as a value -/
noncomputable def boundOk (K : Frag) (C : Addr) (name : Str) (f : Addr) : Bool := plainGet K C name && hasDictIn K C && decide (findIn K (.ref C) name = some (some (.ref f))) && isFn K (.ref f) &&
  decide (specialIn K (.ref f) "__get__" = some (some (.builtin "function.__get__"))) && decide (takesIn K (.ref f) = some false) && !(copiedNames.contains name)
theorem t_getBound {x C d : Addr} {mm : Loc} {kk : Nat} {t t' : Tag} {name : Str} {f : Addr} {ex : Bool} {Q : Value → Loc → LH → Prop} (P : Tp K hT) (hx : H x = some (t, .inst C d)) (hd : H d = some (t', .ns kk mm)) (hv : mm name = none)
    (ho : boundOk K C name f = true) (tg : Tag) (h : ∀ q, H q = none → Q (.ref q) m (upd H q (tg, .obj (methodObj (.ref f) (.ref x))))) : T prog w hT A L (getAttr (.ref x) name ex) m H Q := fun B g os s y => by
  obtain ⟨od, I, hl⟩ := inst_at (y.rp.rep _ _ _ hx) (y.rp.rep _ _ _ hd).ns
  unfold boundOk at ho
  simp only [Bool.and_eq_true, decide_eq_true_eq, Bool.not_eq_true'] at ho
  obtain ⟨⟨⟨⟨⟨⟨h1, h2⟩, h3⟩, h4⟩, h5⟩, h6⟩, h7⟩ := ho
  have X := y.rp.in P.X
  refine get_bind X I (plainGet_of h1).1 (findObj_fn h2 h3 h5 h6 h7 (by rw [hl, hv])) (plainGet_of h1).2 (wpAny_call (fn_get (s := { s with toks := s.toks + 1 }) X (beq_iff_eq.mp h4) (handed_on rfl ?_)))
  refine ⟨m, _, y.new (a := s.heap.objs.size) (c := .obj (methodObj (.ref f) (.ref x))) (get?_size _) (fun b o e => Heap.get?_push_of_some _ e) (Heap.get?_push_size _ rfl) rfl rfl, h _ (y.rp.fresh (get?_size _)).1⟩
theorem c_bound {p : Addr} {t : Tag} {f self : Value} {pos : List Value} {Q : Value → LH → Prop} (hp : H p = some (t, .obj (methodObj f self))) (h : C prog w hT A f ⟨self :: pos, []⟩ H Q) : C prog w hT A (.ref p) ⟨pos, []⟩ H Q := fun B g os s y =>
  method_call (y.rep _ _ _ hp) (h B g os s y)

/-! a class's own function, read from the class -/
noncomputable def clsFnOk (K : Frag) (C : Addr) (name : Str) (f : Addr) : Bool := match typeIn K (.ref C) with
  | some mc => decide (specialIn K (.ref C) "__getattribute__" = some (some (.builtin "type.__getattribute__"))) && readsIn K C mc && (match findCls K (.ref C) mc name with | some (.val (.ref f')) => f' == f | _ => false)
  | none => false
theorem t_methodCls {C : Addr} {name : Str} {f : Addr} {pl : Sem Bool} {Q : Value × List Value → Loc → LH → Prop} (P : Tp K hT) (ho : clsFnOk K C name f = true) (h : Q (.ref f, []) m H) : T prog w hT A L (getMethod (.ref C) name pl) m H Q := fun B g os s y => by
  unfold clsFnOk at ho
  split at ho
  · rename_i mc hm
    simp only [Bool.and_eq_true, decide_eq_true_eq] at ho
    obtain ⟨⟨h1, h2⟩, h3⟩ := ho
    split at h3
    · rename_i f' e
      have e' : f' = f := beq_iff_eq.mp h3
      subst e'
      have X := y.rp.in P.X
      exact method_cls X h1 (cls_value X h2 e rfl ⟨m, H, y.toks, h⟩)
    · cases h3
  · cases ho

/-! an object is made -/
noncomputable def makeOk (K : Frag) (C : Addr) (fI : Addr) : Bool := makesIn K C && decide (findIn K (.ref C) "__init__" = some (some (.ref fI))) && decide (typeIn K (.ref fI) = some (.type "function"))
theorem c_make {D fI : Addr} {vals : List Value} {Q : Value → LH → Prop} (P : Tp K hT) (ho : makeOk K D fI = true) (td tx : Tag)
    (h : ∀ x d, H x = none → H d = none → x ≠ d → C prog w hT (A.under (.builtin "type.__call__" ⟨.ref D :: vals, []⟩)) (.ref fI) ⟨.ref x :: vals, []⟩ (upd (upd H d (td, .ns 0 fun _ => none)) x (tx, .inst D d)) fun v H' => v = .none ∧ Q (.ref x) H') :
    C prog w hT A (.ref D) ⟨vals, []⟩ H Q := fun B g os s y => by
  unfold makeOk at ho
  simp only [Bool.and_eq_true, decide_eq_true_eq] at ho
  obtain ⟨⟨h1, h2⟩, h3⟩ := ho
  have X := y.in P.X
  obtain ⟨hh, gg, dd, tt, oo⟩ := s
  refine make_core (makes_of X h1) (looks_findIn X h2) (fun self => bind_fn X self h3) (.inl rfl) ?_
  have f1 := y.fresh (get?_size hh)
  have k1 : ∀ b o, hh.get? b = some o → (hh.push emptyDict).get? b = some o := fun b o e => Heap.get?_push_of_some _ e
  have y1 : Rp prog w hT B g os (upd H hh.objs.size (td, .ns 0 fun _ => none)) ⟨hh.push emptyDict, gg, dd, tt, oo⟩ := y.upd (a := hh.objs.size) f1.2 (fun b o _ e => k1 b o e) ⟨_, #[], 0, Heap.get?_push_size _ rfl, rfl, fun _ he => by simp at he, fun _ => rfl, Nat.le_refl _⟩ rfl rfl
  have f2 := y1.fresh (get?_size (hh.push emptyDict))
  have y2 : Rp prog w hT B g os (upd (upd H hh.objs.size (td, .ns 0 fun _ => none)) (hh.objs.size + 1) (tx, .inst D hh.objs.size)) ⟨(hh.push emptyDict).push (instObj D hh.objs.size), gg, dd, tt, oo⟩ := by
    rw [← Heap.size_push hh emptyDict]
    exact y1.upd f2.2 (fun b o _ e => Heap.get?_push_of_some _ e) (Heap.get?_push_size _ rfl) rfl rfl
  rw [Heap.size_push] at f2
  have f3 : H (hh.objs.size + 1) = none := by have := f2.1; rw [upd_ne _ _ (Nat.succ_ne_self _)] at this; exact this
  refine codeAny_mono (h (hh.objs.size + 1) hh.objs.size f3 f1.1 (Nat.succ_ne_self _) B g os _ y2) ?_
  rintro r s' ⟨v, H', rfl, z, hv, q⟩
  exact ⟨hv, _, H', rfl, z, q⟩

/-! lists -/
theorem list_at (y : Rp prog w hT B g os H s) {l : Addr} {t : Tag} {vs : List Value} (h : H l = some (t, .list vs)) : ∃ n, s.heap.get? l = some (listOf vs.toArray n) := y.rep _ _ _ h
theorem list_is {h : Heap} {l : Addr} {vs : List Value} {n : Nat} (e : h.get? l = some (listOf vs.toArray n)) : h.IsList l vs.toArray := ⟨_, e, rfl, n, rfl⟩
theorem t_methodList {l : Addr} {t : Tag} {vs : List Value} {name : Str} {id : String} {pl : Sem Bool} {Q : Value × List Value → Loc → LH → Prop} (hl : H l = some (t, .list vs)) (slot : Slot "list" name id) (hty : typeOf (.builtin id) = pure (.type "method_descriptor"))
    (h : Q (.builtin id, [.ref l]) m H) : T prog w hT A L (getMethod (.ref l) name pl) m H Q := fun B g os s y => by
  obtain ⟨n, e⟩ := list_at y.rp hl
  exact getMethod_builtin ⟨_, e, rfl⟩ PySem.F.plainAttrs_list slot hty (fun a q => by injection q with q; subst q; exact ⟨_, e, rfl⟩) ⟨m, H, y, h⟩

/-- a built-in method, by what it meets -/
theorem c_meets {TT : String} {name : Str} {id : String} {Bi : Builtin} {self : Value} {rest : List Value} {Q : Value → LH → Prop} (slot : Slot TT name id) (entry : entryFor table id = some Bi) (args : argsOk id ⟨self :: rest, []⟩)
    (h : ∀ B g os s, Rp prog w hT B g os H s → s.TypeIs self TT ∧ ∃ S : PySem.Spec, Meets (Bi ⟨self :: rest, []⟩) S ∧ S A (Ac prog w hT B g os Q) s) :
    C prog w hT A (.builtin id) ⟨self :: rest, []⟩ H Q := fun B g os s y => by
  obtain ⟨hT', S, gm, hs⟩ := h B g os s y
  exact codeAny_call_builtin slot.plain entry (slot.check _ _ _ _ _ _ _ _ hT' args (gm prog w A _ s hs))

theorem list_upd (y : Rp prog w hT B g os H s) {l : Addr} {t : Tag} {vs vs' : List Value} (hl : H l = some (t, .list vs)) {f : Array Value → Array Value} (hf : f vs.toArray = vs'.toArray) :
    Rp prog w hT B g os (upd H l (t, .list vs')) { s with heap := s.heap.update l (Obj.mapSeq f) } := by
  obtain ⟨n, e⟩ := list_at y hl
  refine y.upd (fun o => y.dis l _ o hl) (Heap.SameBut.update ..).extBut ?_ rfl rfl
  have z : Obj.mapSeq f (listOf vs.toArray n) = listOf vs'.toArray (if (f vs.toArray).size == vs.toArray.size then n else n + 1) := by
    show (⟨_, _, .seq (f vs.toArray) _, _⟩ : Obj) = _
    rw [hf]
  exact ⟨_, by rw [Heap.get?_update_self _ e (by rw [z]; rfl), z]⟩

theorem c_append {l : Addr} {t : Tag} {vs : List Value} {v : Value} {Q : Value → LH → Prop} (hl : H l = some (t, .list vs)) (hz : vs.length ≤ 1000) (h : Q .none (upd H l (t, .list (vs ++ [v])))) : C prog w hT A (.builtin "list.append") ⟨[.ref l, v], []⟩ H Q :=
  c_meets PySem.F.slot_list_append PySem.F.entry_list_append (PySem.F.args_list_append_2 _ _) fun B g os s y => by
    obtain ⟨n, e⟩ := list_at y hl
    exact ⟨⟨_, e, rfl⟩, _, PySem.AutoListH.list_append_list_val_0 l vs.toArray n v (by rw [List.size_toArray, sizeLine_eq]; lia), e, _, _, rfl, list_upd y hl (by simp), h⟩
theorem c_popLast {l : Addr} {t : Tag} {vs : List Value} {v : Value} {Q : Value → LH → Prop} (hl : H l = some (t, .list (vs ++ [v]))) (hz : vs.length ≤ 1000) (h : Q v (upd H l (t, .list vs))) : C prog w hT A (.builtin "list.pop") ⟨[.ref l], []⟩ H Q :=
  c_meets PySem.F.slot_list_pop PySem.F.entry_list_pop (PySem.F.args_list_pop_1 _) fun B g os s y => by
    obtain ⟨n, e⟩ := list_at y hl
    refine ⟨⟨_, e, rfl⟩, _, PySem.MeetsSeq.list_pop_last l (vs ++ [v]).toArray n v (by simp) (by rw [List.size_toArray, sizeLine_eq]; simp; lia), e, _, _, rfl, list_upd y hl ?_, h⟩
    have : (vs ++ [v]).eraseIdx vs.length = vs := by rw [List.eraseIdx_append_of_length_le (Nat.le_refl _)]; simp
    simp [Array.eraseIdxIfInBounds, this]
theorem fits_int {j : Int} (h0 : 0 ≤ j) (h : j ≤ 1001) : Builtin.List.listFitsIndex j = true := by
  have e1 : (-(2 ^ 63 : Int)) ≤ j := by
    have : (-(2 ^ 63 : Int)) = -9223372036854775808 := by decide
    rw [this]; lia
  have e2 : j < (2 ^ 63 : Int) := by
    have : (2 ^ 63 : Int) = 9223372036854775808 := by decide
    rw [this]; lia
  exact Bool.and_eq_true_iff.mpr ⟨decide_eq_true e1, decide_eq_true e2⟩
theorem seqIndex_int {j : Int} {n : Nat} (h0 : 0 ≤ j) (h : j < n) : seqIndex? j n = some j.toNat := by
  unfold seqIndex?
  have h1 : ¬ (j < 0) := by (refine Int.not_lt.mpr ?_; assumption)
  simp only [h1, if_false, h0, h, decide_true, Bool.and_self, if_true]
theorem c_popAt {l : Addr} {t : Tag} {vs : List Value} {v : Value} {j : Int} {u : Tok} {Q : Value → LH → Prop} (hl : H l = some (t, .list vs)) (hz : vs.length ≤ 1000) (h0 : 0 ≤ j) (hv : vs[j.toNat]? = some v) (h : Q v (upd H l (t, .list (vs.eraseIdx j.toNat)))) : C prog w hT A (.builtin "list.pop") ⟨[.ref l, .int j u], []⟩ H Q :=
  c_meets PySem.F.slot_list_pop PySem.F.entry_list_pop (PySem.F.args_list_pop_2 _ _) fun B g os s y => by
    obtain ⟨n, e⟩ := list_at y hl
    have hi : j.toNat < vs.length := by
      rcases Nat.lt_or_ge j.toNat vs.length with q | q
      · exact q
      · rw [List.getElem?_eq_none q] at hv; cases hv
    have M := PySem.MeetsSeq.list_pop_at l vs.toArray n j u j.toNat v (fits_int h0 (by lia)) (seqIndex_int h0 (by rw [List.size_toArray]; lia)) (by simpa using hv) (by rw [List.size_toArray, sizeLine_eq]; lia)
    have U := list_upd (vs' := vs.eraseIdx j.toNat) y hl (f := fun xs => xs.eraseIdxIfInBounds j.toNat) (by simp [Array.eraseIdxIfInBounds, hi])
    exact ⟨⟨_, e, rfl⟩, _, M, e, _, _, rfl, U, h⟩
end

/-! part F5 -/
theorem list_ne_lengths (l b : Addr) (items items2 : Array Value) (n n2 : Nat) (hc0 : (items.size != items2.size) = true) :
    Meets (Builtin.«list.__ne__» ⟨[.ref l, .ref b], []⟩)
      (fun _ R s => And3 (s.heap.get? l = some { cls := .type "list", data := .seq items n }) (s.heap.get? b = some { cls := .type "list", data := .seq items2 n2 }) (R (.ok (.ret (.bool true))) s)) :=
  .of_wp fun prog w A R s h => by
    obtain ⟨hp, g, d, tk, os⟩ := s; obtain ⟨hl, hb, h⟩ := h
    have f3 := AutoSeq1.sub_list_list
    wp_walk using AutoSeq1.wpAny_loadPart' hl, AutoSeq1.wpAny_loadPart' hb
    exact ⟨_, rfl, h⟩

noncomputable abbrev tmp : Tag := (0, 0, 0)
noncomputable abbrev tupObj (vs : List Value) : Obj := { cls := .type "tuple", data := .seq vs.toArray }
noncomputable abbrev sliceObj (a b c : Value) : Obj := { cls := .type "slice", data := .fields #[a, b, c] }

section
variable {prog : Program} {w : World} {hT : Heap} {K : Frag} {α : Type} {A : Around} {L : Addr} {m : Loc} {H : LH} {env : Env} {B : Addr → Obj → Prop} {g : Array GenState} {os : OsState} {s : Shared}

/-! displays -/
noncomputable abbrev kLst (Q : Value → Loc → LH → Prop) (c : List Value → Cell) (vs : List Value) (m : Loc) (H : LH) : Prop := vs.length ≤ 1000 ∧ ∀ l, H l = none → Q (.ref l) m (upd H l (tmp, c vs))
theorem t_list {elts : List Expr} {pos : Pos} {trees : List (Bool × Sem Value)} {Q : Value → Loc → LH → Prop}
    (h : T prog w hT A L (spliced trees) m H (kLst Q .list)) (ht : backTo pos (starEach elts env) = trees := by rfl) :
    T prog w hT A L (eval (.List elts pos) env) m H Q := fun B g os s y => by
  subst ht
  exact List_ (wpAny_mono (h B g os s y) (fun vs s1 ⟨m1, H1, y1, q1⟩ => wpAny_newList (by
    refine ⟨m1, _, y1.new (c := .list vs) (t := tmp) (get?_size _) (fun b o e => Heap.get?_push_of_some _ e) ⟨0, Heap.get?_push_size _ rfl⟩ rfl rfl, q1.2 _ (y1.rp.fresh (get?_size _)).1⟩) (by rw [sizeLine_eq]; lia)) fun _ _ e => e)
theorem t_tuple {elts : List Expr} {k : Nat} {pos : Pos} {trees : List (Bool × Sem Value)} {Q : Value → Loc → LH → Prop}
    (h : T prog w hT A L (spliced trees) m H (kLst Q fun vs => .obj (tupObj vs))) (ht : backTo pos (starEach elts env) = trees := by rfl) :
    T prog w hT A L (eval (.Tuple elts k pos) env) m H Q := fun B g os s y => by
  subst ht
  exact Tuple_ (wpAny_mono (h B g os s y) (fun vs s1 ⟨m1, H1, y1, q1⟩ => wpAny_newTuple (by
    refine ⟨m1, _, y1.new (c := .obj (tupObj vs)) (t := tmp) (get?_size _) (fun b o e => Heap.get?_push_of_some _ e) (Heap.get?_push_size _ rfl) rfl rfl, q1.2 _ (y1.rp.fresh (get?_size _)).1⟩) (by rw [sizeLine_eq]; lia)) fun _ _ e => e)

/-! subscripts -/
theorem t_index {value slice : Expr} {pos : Pos} {Q : Value → Loc → LH → Prop} (h : T prog w hT A L (eval value env) m H (kBin prog w hT A L env slice (subscriptTail value slice) Q)) :
    T prog w hT A L (eval (.Subscript value slice pos) env) m H Q := fun B g os s y =>
  Subscript_ (wpAny_mono (h B g os s y) (fun _ s1 ⟨_, _, y1, q1⟩ => wpAny_mono (q1 B g os s1 y1) (fun _ s2 ⟨_, _, y2, q2⟩ => q2 B g os s2 y2) fun _ _ e => e) fun _ _ e => e)
theorem t_slice3 {e : Expr} {pos : Pos} {Q : Value → Loc → LH → Prop} (h : T prog w hT A L (eval e env) m H fun v m1 H1 => ∀ q, H1 q = none → Q (.ref q) m1 (upd H1 q (tmp, .obj (sliceObj .none .none v)))) :
    T prog w hT A L (eval (.Slice none none (some e) pos) env) m H Q := fun B g os s y => by
  show wpAny _ _ (do
    let l ← (pure Value.none : Sem Value)
    let u ← holding [l] (pure Value.none)
    let st ← holding [l, u] (eval e env)
    newFields "slice" [l, u, st]) _ _ _
  refine wpAny_bind (wpAny_pure (wpAny_bind (wpAny_holding (wpAny_pure (wpAny_bind (wpAny_holding (wpAny_mono (h B g os s y) (fun v s1 ⟨m1, H1, y1, q1⟩ => ?_) fun _ _ e => e)))))))
  refine wpAny_newObj_type ⟨m1, _, y1.new (c := .obj (sliceObj .none .none v)) (t := tmp) (get?_size _) (fun b o e => Heap.get?_push_of_some _ e) (Heap.get?_push_size _ rfl) rfl rfl, q1 _ (y1.rp.fresh (get?_size _)).1⟩ (by size_fits)
theorem t_slice2 {e : Expr} {pos : Pos} {Q : Value → Loc → LH → Prop} (h : T prog w hT A L (eval e env) m H fun v m1 H1 => ∀ q, H1 q = none → Q (.ref q) m1 (upd H1 q (tmp, .obj (sliceObj .none v .none)))) :
    T prog w hT A L (eval (.Slice none (some e) none pos) env) m H Q := fun B g os s y => by
  show wpAny _ _ (do
    let l ← (pure Value.none : Sem Value)
    let u ← holding [l] (eval e env)
    let st ← holding [l, u] (pure Value.none)
    newFields "slice" [l, u, st]) _ _ _
  refine wpAny_bind (wpAny_pure (wpAny_bind (wpAny_holding (wpAny_mono (h B g os s y) (fun v s1 ⟨m1, H1, y1, q1⟩ => wpAny_bind (wpAny_holding (wpAny_pure ?_))) fun _ _ e => e))))
  refine wpAny_newObj_type ⟨m1, _, y1.new (c := .obj (sliceObj .none v .none)) (t := tmp) (get?_size _) (fun b o e => Heap.get?_push_of_some _ e) (Heap.get?_push_size _ rfl) rfl rfl, q1 _ (y1.rp.fresh (get?_size _)).1⟩ (by size_fits)

theorem t_item_list {value slice : Expr} {l : Addr} {t : Tag} {vs : List Value} {k : Int} {u : Tok} {v : Value} {Q : Value → Loc → LH → Prop} (hl : H l = some (t, .list vs)) (hz : vs.length ≤ 1000) (h0 : 0 ≤ k) (hv : vs[k.toNat]? = some v) (h : Q v m H)
    (hs : subscripted slice false (.ref l) (.int k u) = operate [.ref l, .int k u] (getItem (.ref l) (.int k u)) := by with_unfolding_all rfl) : T prog w hT A L (subscriptTail value slice (.ref l) (.int k u)) m H Q := fun B g os s y => by
  obtain ⟨n, e⟩ := list_at y.rp hl
  have hL := list_is e
  have hi : k.toNat < vs.length := by
    rcases Nat.lt_or_ge k.toNat vs.length with q | q
    · exact q
    · rw [List.getElem?_eq_none q] at hv; cases hv
  exact tail_any hL.typeIs slot_list_getitem.lookup (wpAny_getItem_list hL h0 (by lia) (by simpa using hv) ⟨m, H, y, h⟩) hs
theorem t_item_slice {value slice : Expr} {l q : Addr} {t t' : Tag} {vs : List Value} {va vb vc : Value} {lo hi st : Option Int} {ops : List Value} {Q : Value → Loc → LH → Prop} (hl : H l = some (t, .list vs)) (hq : H q = some (t', .obj (sliceObj va vb vc)))
    (pl : IsPart va lo) (pu : IsPart vb hi) (ps : IsPart vc st) (h0 : st ≠ some 0) (hz : vs.length ≤ 1000)
    (h : ∀ r, H r = none → Q (.ref r) m (upd H r (tmp, .list (slicePick vs.toArray lo hi st).toList)))
    (hs : subscripted slice false (.ref l) (.ref q) = operate ops (getItem (.ref l) (.ref q)) := by with_unfolding_all rfl) : T prog w hT A L (subscriptTail value slice (.ref l) (.ref q)) m H Q := fun B g os s y => by
  obtain ⟨n, e⟩ := list_at y.rp hl
  have hL := list_is e
  refine tail_any hL.typeIs slot_list_getitem.lookup (wpAny_getItem_list_slice hL ⟨_, y.rp.rep _ _ _ hq, rfl, rfl⟩ pl pu ps h0 ?_ (by rw [List.size_toArray, sizeLine_eq]; lia)) hs
  refine ⟨m, _, y.new (c := .list (slicePick vs.toArray lo hi st).toList) (t := tmp) (get?_size _) (fun b o e => Heap.get?_push_of_some _ e) ⟨0, ?_⟩ rfl rfl, h _ (y.rp.fresh (get?_size _)).1⟩
  exact Heap.get?_push_size _ rfl
theorem pick_rev (vs : List Value) : (slicePick vs.toArray none none (some (-1))).toList = vs.reverse := by rw [krv_pick]
theorem pick_all (vs : List Value) : (slicePick vs.toArray none none (some 1)).toList = vs := by
  unfold slicePick
  have e : sliceBounds none none (some 1) vs.toArray.size = (0, (vs.toArray.size : Int), 1) := by simp [sliceBounds]
  rw [e]
  have r : sliceRange 0 (vs.toArray.size : Int) 1 = List.range vs.toArray.size := by
    unfold sliceRange
    have h1 : (1 : Int) > 0 := by decide
    by_cases h : (0 : Int) < (vs.toArray.size : Int)
    · have e : ((vs.toArray.size : Int) - 0 + 1 - 1) / 1 = (vs.toArray.size : Int) := by rw [Int.ediv_one]; lia
      simp only [h1, if_true, h, e, Int.toNat_natCast]
      have : (List.range vs.toArray.size).map (fun (k : Nat) => ((0 : Int) + 1 * (k : Int)).toNat) = (List.range vs.toArray.size).map id := by
        apply List.map_congr_left
        intro k _
        simp
      rw [this, List.map_id]
    · have e : vs.toArray.size = 0 := by lia
      rw [e]; simp
  rw [r]
  show ((List.range vs.toArray.size).filterMap (vs.toArray[·]?)).toArray.toList = vs
  rw [krv_all]

theorem t_item_tuple {value slice : Expr} {a : Addr} {t : Tag} {vs : List Value} {k : Int} {u : Tok} {v : Value} {Q : Value → Loc → LH → Prop} (ha : H a = some (t, .obj (tupObj vs))) (h0 : 0 ≤ k) (hk : k ≤ 1000) (hv : vs[k.toNat]? = some v) (h : Q v m H)
    (hs : subscripted slice false (.ref a) (.int k u) = operate [.ref a, .int k u] (getItem (.ref a) (.int k u)) := by with_unfolding_all rfl) : T prog w hT A L (subscriptTail value slice (.ref a) (.int k u)) m H Q := fun B g os s y => by
  have hi : k.toNat < vs.length := by
    rcases Nat.lt_or_ge k.toNat vs.length with q | q
    · exact q
    · rw [List.getElem?_eq_none q] at hv; cases hv
  exact item_tupleT ⟨_, y.rp.rep _ _ _ ha, rfl, 0, rfl⟩ (by lia) (by lia) (seqIndex_int h0 (by lia)) hv ⟨m, H, y, h⟩ hs

/-! len, +, extend, remove, comparisons -/
theorem t_len {l : Addr} {t : Tag} {vs : List Value} {Q : Value → Loc → LH → Prop} (hl : H l = some (t, .list vs)) (hz : vs.length ≤ 1000) (h : ∀ k, Q (.int vs.length k) m H) : T prog w hT A L (call (.builtin "len") [.ref l]) m H Q := fun B g os s y => by
  obtain ⟨n, e⟩ := list_at y.rp hl
  exact call_len_list (list_is e) (by rw [List.size_toArray]; lia) ⟨m, H, y.toks, by rw [List.size_toArray]; exact h _⟩
theorem t_addLists {l b : Addr} {t t' : Tag} {vs us : List Value} {Q : Value → Loc → LH → Prop} (hl : H l = some (t, .list vs)) (hb : H b = some (t', .list us)) (hz : vs.length ≤ 1000) (hz' : us.length ≤ 1000)
    (h : ∀ r, H r = none → Q (.ref r) m (upd H r (tmp, .list (vs ++ us)))) : T prog w hT A L (binaryOp .Add (.ref l) (.ref b)) m H Q := fun B g os s y => by
  obtain ⟨n, e⟩ := list_at y.rp hl
  obtain ⟨n2, e2⟩ := list_at y.rp hb
  refine concat_meets ⟨_, e, rfl⟩ ⟨_, e2, rfl⟩ noFill_list_add seq_list_add PySem.F.slot_list_add PySem.F.entry_list_add (PySem.F.args_list_add_2 _ _) (list_addW l b vs.toArray us.toArray n n2 none none #[] #[] (by simp only [List.size_toArray]; rw [sizeLine_eq]; lia)) ⟨e, e2, ?_⟩
  refine ⟨m, _, y.new (c := .list (vs ++ us)) (t := tmp) (get?_size _) (fun b o e => Heap.get?_push_of_some _ e) ⟨0, ?_⟩ rfl rfl, h _ (y.rp.fresh (get?_size _)).1⟩
  rw [show (vs ++ us).toArray = vs.toArray ++ us.toArray by simp]
  exact Heap.get?_push_size _ rfl
theorem c_extend {l b : Addr} {t t' : Tag} {vs us : List Value} {Q : Value → LH → Prop} (hl : H l = some (t, .list vs)) (hb : H b = some (t', .list us)) (hz : vs.length ≤ 1000) (hz' : us.length ≤ 1000)
    (h : Q .none (upd H l (t, .list (vs ++ us)))) : C prog w hT A (.builtin "list.extend") ⟨[.ref l, .ref b], []⟩ H Q :=
  c_meets PySem.F.slot_list_extend PySem.F.entry_list_extend (PySem.F.args_list_extend_2 _ _) fun B g os s y => by
    obtain ⟨n, e⟩ := list_at y hl
    obtain ⟨n2, e2⟩ := list_at y hb
    have hlong : ¬ (!vs.toArray.isEmpty && Builtin.List.listTooLong (vs.toArray.size + us.toArray.size)) = true := by
      have : Builtin.List.listTooLong (vs.toArray.size + us.toArray.size) = false := by
        unfold Builtin.List.listTooLong
        simp only [List.size_toArray]
        rw [sizeLine_eq]
        exact decide_eq_false (by lia)
      rw [this, Bool.and_false]; exact Bool.false_ne_true
    have M := PySem.AutoSeq1.list_extend_list_list_0 l vs.toArray n b us.toArray n2 hlong (by simp only [List.size_toArray]; rw [sizeLine_eq]; lia) (by simp only [List.size_toArray]; rw [sizeLine_eq]; lia)
    have U := list_upd (vs' := vs ++ us) y hl (f := fun x => x ++ us.toArray) (by simp)
    exact ⟨⟨_, e, rfl⟩, _, M, e, e2, _, _, rfl, U, h⟩
/-- the place of an int in a list of ints -/
theorem c_remove {l : Addr} {t : Tag} {vs : List Value} {ns : List Int} {x : Int} {u : Tok} {j : Nat} {Q : Value → LH → Prop} (hl : H l = some (t, .list vs)) (hi : IntsAre vs ns) (hz : vs.length ≤ 1000) (hj : ns[j]? = some x) (hno : ∀ i < j, ns[i]? ≠ some x)
    (h : Q .none (upd H l (t, .list (vs.eraseIdx j)))) : C prog w hT A (.builtin "list.remove") ⟨[.ref l, .int x u], []⟩ H Q :=
  c_meets PySem.F.slot_list_remove PySem.F.entry_list_remove (PySem.F.args_list_remove_2 _ _) fun B g os s y => by
    obtain ⟨n, e⟩ := list_at y hl
    have hlen : vs.length = ns.length := hi.length
    have at_ : ∀ (vs : List Value) (ns : List Int), IntsAre vs ns → ∀ (i : Nat) (h1 : i < vs.length) (h2 : i < ns.length), isInt x vs[i] = (ns[i] == x) := by
      intro vs ns hi
      induction hi with
      | nil => intro i h1; cases h1
      | cons a b _ ih =>
        intro i h1 h2
        cases i with
        | zero => rfl
        | succ i => exact ih i (by simpa using h1) (by simpa using h2)
    have hjl : j < ns.length := by
      rcases Nat.lt_or_ge j ns.length with q | q
      · exact q
      · rw [List.getElem?_eq_none q] at hj; cases hj
    have M := PySem.MeetsSeq.list_remove l vs.toArray n (.int x u) (isInt x) (fun y hy => eq_isInt x u hi y (by simpa using hy)) j (by rw [List.size_toArray]; lia)
      (by
        rw [List.getElem_toArray, at_ vs ns hi j (by omega) hjl]
        rw [List.getElem?_eq_getElem hjl] at hj
        rw [Option.some.inj hj]; exact beq_self_eq_true x)
      (fun i h1 h2 => by
        rw [List.size_toArray] at h1
        rw [List.getElem_toArray, at_ vs ns hi i h1 (by lia)]
        have := hno i h2
        rw [List.getElem?_eq_getElem (by omega)] at this
        simpa using this) (by simp only [List.size_toArray]; rw [sizeLine_eq]; lia)
    have U := list_upd (vs' := vs.eraseIdx j) y hl (f := fun xs => xs.eraseIdxIfInBounds j) (by simp [Array.eraseIdxIfInBounds, hlen, hjl])
    exact ⟨⟨_, e, rfl⟩, _, M, e, _, _, rfl, U, h⟩
/-- «xs != []» -/
theorem t_neNil {l b : Addr} {t t' : Tag} {vs : List Value} {Q : Value → Loc → LH → Prop} {n : Nat} (R : Room (n + 7) A) (hl : H l = some (t, .list vs)) (hb : H b = some (t', .list [])) (hz : vs.length ≤ 1000) (h : Q (.bool (!vs.isEmpty)) m H) :
    T prog w hT A L (compareOp .NotEq (.ref l) (.ref b)) m H Q := fun B g os s y => by
  obtain ⟨n1, e⟩ := list_at y.rp hl
  obtain ⟨n2, e2⟩ := list_at y.rp hb
  cases vs with
  | nil => exact ke_ne_ints (list_is e) (list_is e2) .nil .nil (by have := R.u; show _ < 9900; lia) ⟨m, H, y, h⟩
  | cons v r =>
    refine cmp_ofNotEq (richCompare_meets_room (op := .NotEq) ⟨_, e, rfl⟩ ⟨_, e2, rfl⟩ PySem.F.slot_list_ne PySem.F.entry_list_ne (PySem.F.args_list_ne_2 _ _) (list_ne_lengths l b _ _ n1 n2 (by simp)) ⟨e, e2, And.intro (fun x => nomatch x) ⟨m, H, y, h⟩⟩ R.cl)
theorem t_neInts {l b : Addr} {t t' : Tag} {vs us : List Value} {ns ms : List Int} {Q : Value → Loc → LH → Prop} {n : Nat} (R : Room (n + 7) A) (hl : H l = some (t, .list vs)) (hb : H b = some (t', .list us)) (hi : IntsAre vs ns) (hj : IntsAre us ms) (h : Q (.bool (!decide (ns = ms))) m H) :
    T prog w hT A L (compareOp .NotEq (.ref l) (.ref b)) m H Q := fun B g os s y => by
  obtain ⟨n1, e⟩ := list_at y.rp hl
  obtain ⟨n2, e2⟩ := list_at y.rp hb
  exact ke_ne_ints (list_is e) (list_is e2) hi hj (by have := R.u; show _ < 9900; omega) ⟨m, H, y, h⟩
theorem t_eqInts {l b : Addr} {t t' : Tag} {vs us : List Value} {ns ms : List Int} {Q : Value → Loc → LH → Prop} {n : Nat} (R : Room (n + 7) A) (hl : H l = some (t, .list vs)) (hb : H b = some (t', .list us)) (hi : IntsAre vs ns) (hj : IntsAre us ms) (h : Q (.bool (decide (ns = ms))) m H) :
    T prog w hT A L (compareOp .Eq (.ref l) (.ref b)) m H Q := fun B g os s y => by
  obtain ⟨n1, e⟩ := list_at y.rp hl
  obtain ⟨n2, e2⟩ := list_at y.rp hb
  exact ke_eq_ints (list_is e) (list_is e2) hi hj (by have := R.u; show _ < 9900; omega) ⟨m, H, y, h⟩
theorem any_isInt {x : Int} {vs : List Value} {ns : List Int} (hi : IntsAre vs ns) : vs.toArray.any (isInt x) = ns.contains x := by
  rw [← Array.any_toList]
  induction hi with
  | nil => rfl
  | cons a b _ ih =>
    show (isInt x (.int a b) || List.any _ (isInt x)) = _
    rw [List.contains_cons, Bool.beq_comm (a := x), ← ih]
    rfl
theorem t_inInts {l : Addr} {t : Tag} {vs : List Value} {ns : List Int} {x : Int} {u : Tok} {Q : Value → Loc → LH → Prop} (hl : H l = some (t, .list vs)) (hi : IntsAre vs ns) (h : Q (.bool (ns.contains x)) m H) :
    T prog w hT A L (compareOp .In (.int x u) (.ref l)) m H Q := fun B g os s y => by
  obtain ⟨n1, e⟩ := list_at y.rp hl
  exact PySem.SeqAt.in_listAt (isInt x) (list_is e) (fun y hy => (eq_isInt x u hi y (by simpa using hy)).at _ _) ⟨m, H, y, by rw [any_isInt hi]; exact h⟩
theorem t_notInInts {l : Addr} {t : Tag} {vs : List Value} {ns : List Int} {x : Int} {u : Tok} {Q : Value → Loc → LH → Prop} (hl : H l = some (t, .list vs)) (hi : IntsAre vs ns) (h : Q (.bool (!ns.contains x)) m H) :
    T prog w hT A L (compareOp .NotIn (.int x u) (.ref l)) m H Q := fun B g os s y => by
  obtain ⟨n1, e⟩ := list_at y.rp hl
  exact PySem.SeqAt.notIn_listAt (isInt x) (list_is e) (fun y hy => (eq_isInt x u hi y (by simpa using hy)).at _ _) ⟨m, H, y, by rw [any_isInt hi]; exact h⟩
theorem t_isNotNone_ref {x : Addr} {Q : Value → Loc → LH → Prop} (h : Q (.bool true) m H) : T prog w hT A L (compareOp .IsNot (.ref x) .none) m H Q := fun B g os s y => wpAny_isNot_other rfl (fun e => nomatch e) ⟨m, H, y, h⟩
theorem t_isNotNone_none {Q : Value → Loc → LH → Prop} (h : Q (.bool false) m H) : T prog w hT A L (compareOp .IsNot .none .none) m H Q := fun B g os s y => wpAny_isNot_self rfl ⟨m, H, y, h⟩
end

/-! part F6 -/
section
variable {prog : Program} {w : World} {hT : Heap} {K : Frag} {α : Type} {A : Around} {L : Addr} {m : Loc} {H : LH} {env : Env} {B : Addr → Obj → Prop} {g : Array GenState} {os : OsState} {s : Shared}

/-! what a loop holds for itself: untracked, and not to be touched by the turns -/
structure Own (B : Addr → Obj → Prop) (L : Addr) (H : LH) (s : Shared) (a : Addr) (o : Obj) : Prop where
  at_ : s.heap.get? a = some o
  noH : H a = none
  neL : a ≠ L
  noB : ∀ o, ¬ B a o
theorem St.own_new (y : St prog w hT B g os L m H s) : H s.heap.objs.size = none ∧ s.heap.objs.size ≠ L ∧ ∀ o, ¬ B s.heap.objs.size o := by
  have f := y.rp.fresh (get?_size s.heap)
  exact ⟨f.1, fun q => Nat.lt_irrefl _ (q ▸ y.ns.lt), f.2⟩
theorem St.own_step (y : St prog w hT B g os L m H s) {a : Addr} {o o' : Obj} (O : Own B L H s a o) {s' : Shared} (k : Heap.ExtBut a s.heap s'.heap) (e : s'.heap.get? a = some o') (hg : s'.gens = s.gens) (ho : s'.os = s.os) :
    St prog w hT B g os L m H s' ∧ Own B L H s' a o' := by
  refine ⟨⟨⟨fun b t c e => (y.rp.rep b t c e).keep fun o z => k b o (fun q => ?_) z, y.rp.top, fun b o e => k b o (fun q => ?_) (y.rp.keep b o e), y.rp.dis, hg.trans y.rp.gens, ho.trans y.rp.os⟩, y.ns.extBut k O.neL.symm, y.hL, y.disL⟩, e, O.noH, O.neL, O.noB⟩
  · rw [q, O.noH] at e; cases e
  · rw [q] at e; exact O.noB o e
theorem St.own_guards (y : St prog w hT B g os L m H s) {G : Addr → Obj → Prop} (O : ∀ a o, G a o → Own B L H s a o) :
    ∃ B' : Addr → Obj → Prop, St prog w hT B' g os L m H s ∧ ∀ m' H' s', St prog w hT B' g os L m' H' s' → St prog w hT B g os L m' H' s' ∧ ∀ a o, G a o → Own B L H' s' a o := by
  refine ⟨fun b x => B b x ∨ G b x, ⟨⟨y.rp.rep, fun b x e => .inl (y.rp.top b x e), ?_, ?_, y.rp.gens, y.rp.os⟩, y.ns, y.hL, ?_⟩, ?_⟩
  · rintro b x (e | e)
    · exact y.rp.keep b x e
    · exact (O b x e).at_
  · rintro b z x e (q | q)
    · exact y.rp.dis b z x e q
    · rw [(O b x q).noH] at e; cases e
  · rintro x (q | q)
    · exact y.disL x q
    · exact (O L x q).neL rfl
  · intro m' H' s' z
    refine ⟨⟨⟨z.rp.rep, y.rp.top, fun b x e => z.rp.keep b x (.inl e), fun b t x e q => z.rp.dis b t x e (.inl q), z.rp.gens, z.rp.os⟩, z.ns, z.hL, fun x q => z.disL x (.inl q)⟩, fun a o q => ⟨z.rp.keep a o (.inr q), ?_, (O a o q).neL, (O a o q).noB⟩⟩
    cases e : H' a with
    | none => rfl
    | some t => exact absurd (.inr q) (z.rp.dis a t o e)
theorem St.own_guard (y : St prog w hT B g os L m H s) {a : Addr} {o : Obj} (O : Own B L H s a o) :
    ∃ B' : Addr → Obj → Prop, St prog w hT B' g os L m H s ∧ ∀ m' H' s', St prog w hT B' g os L m' H' s' → St prog w hT B g os L m' H' s' ∧ Own B L H' s' a o := by
  obtain ⟨B', y', back⟩ := y.own_guards (G := fun b x => b = a ∧ x = o) (by rintro b x ⟨rfl, rfl⟩; exact O)
  exact ⟨B', y', fun m' H' s' z => ⟨(back _ _ _ z).1, (back _ _ _ z).2 a o ⟨rfl, rfl⟩⟩⟩

/-! loops -/
noncomputable abbrev loopQ (J : Loc → LH → Prop) (Q : Flow → Loc → LH → Prop) (fl : Flow) (m : Loc) (H : LH) : Prop := match fl with
  | .next | .cont => J m H
  | .brk => Q .next m H
  | .ret v => Q (.ret v) m H
noncomputable abbrev kWh (prog : Program) (w : World) (hT : Heap) (A : Around) (L : Addr) (env : Env) (body : List Stmt) (J : Loc → LH → Prop) (Q : Flow → Loc → LH → Prop) (c : Bool) (m : Loc) (H : LH) : Prop := (c = true → T prog w hT A L (execs body env) m H (loopQ J Q)) ∧ (c = false → Q .next m H)
/-- what holds after a piece is hidden while the piece is walked -/
theorem t_opq {α : Type} {t : Sem α} {Q : α → Loc → LH → Prop} (Q1 : α → Loc → LH → Prop) (h : ∀ J : α → Loc → LH → Prop, (∀ v m H, Q1 v m H → J v m H) → T prog w hT A L t m H J) (k : ∀ v m' H', Q1 v m' H' → Q v m' H') : T prog w hT A L t m H Q := t_mono (h Q1 fun _ _ _ q => q) k
theorem t_while {test : Expr} {body : List Stmt} {pos : Pos} {Q : Flow → Loc → LH → Prop} (I : Nat → Loc → LH → Prop) (n : Nat) (h0 : I n m H)
    (turn : ∀ (J : Loc → LH → Prop) n, (∀ k m H, k < n → I k m H → J m H) → ∀ m H, I n m H → T prog w hT A L (isTrue test env (eval test env)) m H (kWh prog w hT A L env body J Q)) :
    T prog w hT A L (exec (.While test body [] pos) env) m H Q := fun B g os s y => by
  refine wpAny_While (codeAny_whileLoop (fun n s => Af prog w hT B g os L (I n) s) ?_ n ⟨m, H, y, h0⟩)
  rintro n s ⟨m, H, y, hI⟩
  refine wpAny_mono (turn (fun m H => ∃ k, k < n ∧ I k m H) n (fun k m H a b => ⟨k, a, b⟩) m H hI B g os s y) (fun c s1 ⟨m1, H1, y1, q1⟩ => ?_) fun _ _ e => e.elim
  cases c with
  | true =>
    refine wpAny_mono (q1.1 rfl B g os s1 y1) (fun fl s2 ⟨m2, H2, y2, q2⟩ => ?_) fun _ _ e => e.elim
    cases fl with
    | next => obtain ⟨k, hk, q⟩ := q2; exact ⟨k, hk, m2, H2, y2, q⟩
    | cont => obtain ⟨k, hk, q⟩ := q2; exact ⟨k, hk, m2, H2, y2, q⟩
    | brk => exact ⟨m2, H2, y2, q2⟩
    | ret v => exact ⟨m2, H2, y2, q2⟩
  | false => exact wpAny_execs_nil ⟨m1, H1, y1, q1.2 rfl⟩
end

/-! part F7 -/
section
variable {prog : Program} {w : World} {hT : Heap} {K : Frag} {α : Type} {A : Around} {L : Addr} {m : Loc} {H : LH} {env : Env} {B : Addr → Obj → Prop} {g : Array GenState} {os : OsState} {s : Shared}

theorem lk_one (x : Str) (v : Value) : lk [x] [some v] = set (fun _ => none) x v := rfl

/-- the made list and the frame of a comprehension -/
theorem Own.keep {a : Addr} {o : Obj} (O : Own B L H s a o) {s' : Shared} (k : s.heap.get? a = some o → s'.heap.get? a = some o) : Own B L H s' a o := ⟨k O.at_, O.noH, O.neL, O.noB⟩
theorem St.junk (y : St prog w hT B g os L m H s) {a : Addr} (h1 : H a = none) (h2 : a ≠ L) (h3 : ∀ o, ¬ B a o) {s' : Shared} (k : Heap.ExtBut a s.heap s'.heap) (hg : s'.gens = s.gens) (ho : s'.os = s.os) : St prog w hT B g os L m H s' := by
  refine ⟨⟨fun b t c e => (y.rp.rep b t c e).keep fun o z => k b o (fun q => ?_) z, y.rp.top, fun b o e => k b o (fun q => ?_) (y.rp.keep b o e), y.rp.dis, hg.trans y.rp.gens, ho.trans y.rp.os⟩, y.ns.extBut k h2.symm, y.hL, y.disL⟩
  · rw [q, h1] at e; cases e
  · rw [q] at e; exact h3 o e
theorem St.take (y : St prog w hT B g os L m H s) {a : Addr} {o : Obj} (O : Own B L H s a o) {t : Tag} {c : Cell} (hc : CellAt prog w s.heap a c) : St prog w hT B g os L m (Gc.upd H a (t, c)) s :=
  ⟨y.rp.upd O.noB (Heap.ExtBut.refl _ _) hc rfl rfl, y.ns, by rw [upd_ne _ _ O.neL.symm]; exact y.hL, y.disL⟩
theorem St.own_of (y : St prog w hT B g os L m H s) {a : Addr} {o : Obj} {s' : Shared} (hn : s.heap.get? a = none) (h : s'.heap.get? a = some o) : Own B L H s' a o :=
  ⟨h, (y.rp.fresh hn).1, (fun q => by obtain ⟨_, _, _, e, _⟩ := y.ns; rw [← q, hn] at e; cases e), (y.rp.fresh hn).2⟩

theorem comp_enter (y : St prog w hT B g os L m H s) {scope : Scope} {cl : List (Str × Addr)} {E : Value → Shared → Prop} {Q : Value → Env → Shared → Prop} (hcell : ∀ y ∈ scope.names, y.2 ≠ .cell) (hkind : scope.kind = .function)
    (h : ∀ (D C : Addr) (s' : Shared) (n : Nat), D = s.heap.objs.size → (∀ b o, s.heap.get? b = some o → s'.heap.get? b = some o) → s'.gens = s.gens → s'.os = s.os → s.heap.get? D = none → s.heap.get? C = none → D ≠ C →
      s'.heap.get? D = some (listOf #[] n) → s'.heap.Ns C (fun _ => none) → Q (.ref D) (newEnv scope C env.globals cl env.qual none .none (some env) env.builtins) s') :
    wpAny (model prog w) A (newList []) (fun acc s₃ => wpAny (model prog w) A (newFunctionEnv scope env.globals cl [] env.qual none .none (some env)) (fun cenv s₄ => Q acc cenv s₄) E s₃) E s := by
  refine wpAny_newObj_type (wpAny_newFunctionEnv hcell (by intro y hy; simp at hy) (fun h₁ hns₁ hsb₁ => ?_) hkind)
  have hsz : (s.heap.push { cls := .type "list", data := .seq ([] : List Value).toArray }).objs.size = s.heap.objs.size + 1 := Heap.size_push ..
  refine h s.heap.objs.size (s.heap.push { cls := .type "list", data := .seq ([] : List Value).toArray }).objs.size _ 0 rfl (fun b o e => ?_) rfl rfl (get?_size _) ?_ (by rw [hsz]; exact Nat.ne_of_lt (Nat.lt_succ_self _)) ?_ hns₁
  · exact hsb₁.extBut b o (fun q => by have := Heap.lt_size e; rw [q, hsz] at this; exact absurd this (Nat.not_lt.mpr (Nat.le_succ _))) (Heap.get?_push_of_some _ (Heap.get?_push_of_some _ e))
  · cases e : s.heap.get? _ with
    | none => rfl
    | some o => exact absurd (Heap.lt_size e) (by rw [hsz]; exact Nat.not_lt.mpr (Nat.le_succ _))
  · exact hsb₁.extBut _ _ (by intro q; rw [hsz] at q; exact Nat.succ_ne_self _ q.symm) (Heap.get?_push_of_some _ (Heap.get?_push_size _ rfl))
end

/-! part F8 -/
noncomputable abbrev rangeObj (n : Nat) (a b c : Tok) : Obj := { cls := .type "range", data := .fields #[.int 0 a, .int (n : Int) b, .int 1 c] }
noncomputable abbrev rangeIt (x left : Int) : Obj := { cls := .type "range_iterator", data := .fields #[rawInt x, rawInt left, rawInt 1] }
theorem size_n (n : Nat) : Builtin.Range.rangeSize 0 (n : Int) 1 = (n : Int) := by
  unfold Builtin.Range.rangeSize
  have h1 : (1 : Int) > 0 := by decide
  simp only [h1, if_true]
  split
  · rw [Int.ediv_one]; lia
  · lia
theorem small_n {n : Nat} (h : n ≤ 1000) : Builtin.Range.small 0 (n : Int) 1 = true := small_one (by decide) (by decide) (by lia) (by lia)
theorem rangeIt_next {i N : Nat} : rangeIt ((i : Int) + 1) ((N : Int) - i - 1) = rangeIt ((i + 1 : Nat) : Int) ((N : Int) - ((i + 1 : Nat) : Int)) := by
  rw [show (N : Int) - i - 1 = (N : Int) - ((i + 1 : Nat) : Int) by lia, show (i : Int) + 1 = ((i + 1 : Nat) : Int) by lia]
theorem rangeIt0 {N : Nat} : rangeIt 0 (N : Int) = rangeIt ((0 : Nat) : Int) ((N : Int) - ((0 : Nat) : Int)) := by
  rw [show (N : Int) - ((0 : Nat) : Int) = (N : Int) by lia]; rfl

section
variable {prog : Program} {w : World} {hT : Heap} {K : Frag} {α : Type} {A : Around} {L : Addr} {m : Loc} {H : LH} {env : Env} {B : Addr → Obj → Prop} {g : Array GenState} {os : OsState} {s : Shared}
end

/-! part F9 -/
section
variable {prog : Program} {w : World} {hT : Heap} {K : Frag} {α : Type} {A : Around} {L : Addr} {m : Loc} {H : LH} {env : Env} {B : Addr → Obj → Prop} {g : Array GenState} {os : OsState} {s : Shared}
section
variable {a b : Int} {t u : Tok} {Q : Value → Loc → LH → Prop}
theorem t_lei (h : Q (.bool (decide (a ≤ b))) m H) : T prog w hT A L (compareOp .LtE (.int a t) (.int b u)) m H Q := fun _ _ _ _ y => PyProof.Rows.le_int ⟨m, H, y, h⟩
theorem t_gei (h : Q (.bool (decide (b ≤ a))) m H) : T prog w hT A L (compareOp .GtE (.int a t) (.int b u)) m H Q := fun _ _ _ _ y => PyProof.Rows.ge_int ⟨m, H, y, h⟩
theorem t_max (hA : A.handled = none) (h : ∀ k, Q (.int (max a b) k) m H) : T prog w hT A L (call (.builtin "max") [.int a t, .int b u]) m H Q := fun _ _ _ _ y =>
  max_two_ints hA fun h' tk k => ⟨m, H, y.ext k rfl rfl, by
    have := h; split
    · rename_i q; have e : max a b = b := by lia
      rw [← e]; exact h _
    · rename_i q; have e : max a b = a := by lia
      rw [← e]; exact h _⟩
end
theorem St.big (P : Tp K hT) (y : St prog w hT B g os L m H s) : (s.heap.objs.size == sysModules) = false := by
  obtain ⟨_, _, G, _⟩ := P.gl
  obtain ⟨o, _, _, ho, _⟩ := G
  have := Heap.lt_size (y.rp.keep _ _ (y.rp.top _ _ ho))
  have e : mainGlobals ≥ 1 := by decide
  rw [beq_eq_false_iff_ne]
  intro q
  rw [q] at this
  exact absurd (Nat.lt_of_lt_of_le this e) (Nat.lt_irrefl _)
theorem small_size {α : Type} {l : List α} (h : l.length ≤ 1000) : l.length ≤ sizeLine := by rw [sizeLine_eq]; lia
theorem t_dict_empty {pos : Pos} {Q : Value → Loc → LH → Prop} (P : Tp K hT) (h : ∀ l, H l = none → Q (.ref l) m (upd H l (tmp, .idict []))) : T prog w hT A L (eval (.Dict [] [] pos) env) m H Q := fun B g os s y =>
  wpAny_Dict_empty ⟨m, _, y.new (c := .idict []) (t := tmp) (get?_size _) (fun b o e => Heap.get?_push_of_some _ e) ⟨y.big P, Heap.DictOf.new s.heap⟩ rfl rfl, h _ (y.rp.fresh (get?_size _)).1⟩

/-! dicts whose keys are ints -/
section
variable {d : Addr} {t : Tag} {kvs : List (Int × Value)} {k : Int} {u : Tok}
theorem idict_at {H : LH} (y : Rp prog w hT B g os H s) (h : H d = some (t, .idict kvs)) : (d == sysModules) = false ∧ s.heap.DictOf (intKind prog w) d kvs := y.rep _ _ _ h
theorem t_getitem_idict {value slice : Expr} {v : Value} {Q : Value → Loc → LH → Prop} (hd : H d = some (t, .idict kvs)) (hv : valueAt kvs k = some v) (h : Q v m H)
    (hs : subscripted slice false (.ref d) (.int k u) = operate [.ref d, .int k u] (getItem (.ref d) (.int k u)) := by with_unfolding_all rfl) : T prog w hT A L (subscriptTail value slice (.ref d) (.int k u)) m H Q := fun B g os s y => by
  have c := (idict_at y.rp hd).2
  exact tail_any c.typeIs slot_dict_getitem.lookup (wpAny_getItem_of (intKind_is _ _ _ _) c.mapOf hv ⟨m, H, y.toks, h⟩) hs
theorem idict_upd {kvs' : List (Int × Value)} (y : St prog w hT B g os L m H s) (hd : H d = some (t, .idict kvs)) {h' : Heap} {tk : Tok} (hm : h'.DictOf (intKind prog w) d kvs') (hs : Heap.SameBut d s.heap h') : St prog w hT B g os L m (upd H d (t, .idict kvs')) { s with heap := h', toks := tk } :=
  y.upd (c := .idict kvs') hd hs.extBut ⟨(idict_at y.rp hd).1, hm⟩ rfl rfl
theorem t_setitem_idict {v : Value} {Q : Unit → Loc → LH → Prop} (hd : H d = some (t, .idict kvs)) (hz : kvs.length ≤ 1000) (h : Q () m (upd H d (t, .idict (stored kvs k v)))) : T prog w hT A L (setItem (.ref d) (.int k u) v) m H Q := fun B g os s y =>
  wpAny_setItem_pairs (hsz := small_size hz) (intKind_is _ _ _ _) (idict_at y.rp hd).2 fun h' hm hs => ⟨m, _, idict_upd y hd hm hs, h⟩
theorem t_in_idict {Q : Value → Loc → LH → Prop} (hd : H d = some (t, .idict kvs)) (h : Q (.bool (valueAt kvs k).isSome) m H) : T prog w hT A L (compareOp .In (.int k u) (.ref d)) m H Q := fun B g os s y =>
  wpAny_in_of (intKind_is _ _ _ _) (idict_at y.rp hd).1 (idict_at y.rp hd).2.mapOf ⟨m, H, y.toks, h⟩
theorem t_methodDict_idict {name : Str} {id : String} {pl : Sem Bool} {Q : Value × List Value → Loc → LH → Prop} (hd : H d = some (t, .idict kvs)) (slot : Slot "dict" name id) (hty : typeOf (.builtin id) = pure (.type "method_descriptor"))
    (h : Q (.builtin id, [.ref d]) m H) : T prog w hT A L (getMethod (.ref d) name pl) m H Q := fun B g os s y =>
  have c := (idict_at y.rp hd).2
  getMethod_builtin c.typeIs PySem.F.plainAttrs_dict slot hty c.mapOf.noDict ⟨m, H, y, h⟩
theorem t_dictget_idict {Q : Value → Loc → LH → Prop} (hd : H d = some (t, .idict kvs)) (h : Q ((valueAt kvs k).getD .none) m H) : T prog w hT A L (call (.builtin "dict.get") [.ref d, .int k u]) m H Q := fun B g os s y =>
  have c := idict_at y.rp hd
  call_meetsIn PySem.F.slot_dict_get c.2.typeIs PySem.F.entry_dict_get (PySem.F.args_dict_get_2 _ _) (meets_dict_get (intKind prog w) d (intKind_is _ _ _ _) c.1) ⟨_, c.2.mapOf, ⟨m, H, y.toks, h⟩⟩
theorem t_dictpop_idict {dflt v : Value} {Q : Value → Loc → LH → Prop} (hd : H d = some (t, .idict kvs)) (hz : kvs.length ≤ 1000) (hv : valueAt kvs k = some v) (h : Q v m (upd H d (t, .idict (without kvs k)))) : T prog w hT A L (call (.builtin "dict.pop") [.ref d, .int k u, dflt]) m H Q := fun B g os s y =>
  have c := idict_at y.rp hd
  call_meetsIn PySem.F.slot_dict_pop c.2.typeIs PySem.F.entry_dict_pop (PySem.F.args_dict_pop_3 _ _ _) (meets_dict_pop_there (intKind prog w) d (intKind_is _ _ _ _) [dflt] (.inr ⟨_, rfl⟩) rfl) ⟨kvs, v, c.2, small_size hz, hv, fun h' hm hs => ⟨m, _, idict_upd y hd hm hs, h⟩⟩
theorem t_listOf_idict {Q : Value → Loc → LH → Prop} (hA : A.handled = none) (hd : H d = some (t, .idict kvs)) (hz : kvs.length ≤ 1000)
    (h : ∀ (l : Addr) (vs : List Value), H l = none → vs.length = kvs.length → (∀ (i : Nat) (v : Value), vs[i]? = some v → ∃ k x, kvs[i]? = some (k, x) ∧ (intKind prog w).is k v = true) → Q (.ref l) m (upd H l (tmp, .list vs))) : T prog w hT A L (call (.type "list") [.ref d]) m H Q := fun B g os s y => by
  have c := idict_at y.rp hd
  obtain ⟨ep, hat⟩ := c.2.dictAt
  refine kdl_call (kdl_dict c.1) hA hat (small_size hz) fun h' tk acc' c' hk hS hI => ?_
  refine ⟨m, _, y.new (a := s.heap.objs.size) (t := tmp) (c := .list acc'.toList) (get?_size _) hk ⟨c', by rw [show acc'.toList.toArray = acc' by simp]; exact hS⟩ rfl rfl, h _ _ (y.rp.fresh (get?_size _)).1 (by rw [Array.length_toList]; exact hI.1) fun i v e => hI.2 i v (by rw [← Array.getElem?_toList]; exact e)⟩
end

/-! dicts whose keys are strs -/
section
variable {d : Addr} {t : Tag} {kvs : List (Str × Value)} {k : Str} {u : Tok}
theorem sdict_at {H : LH} (y : Rp prog w hT B g os H s) (h : H d = some (t, .sdict kvs)) : (d == sysModules) = false ∧ s.heap.DictOf (strKind prog w) d kvs := y.rep _ _ _ h
theorem t_getitem_sdict {value slice : Expr} {v : Value} {Q : Value → Loc → LH → Prop} (hd : H d = some (t, .sdict kvs)) (hv : valueAt kvs k = some v) (h : Q v m H)
    (hs : subscripted slice false (.ref d) (.str k u) = operate [.ref d, .str k u] (getItem (.ref d) (.str k u)) := by with_unfolding_all rfl) : T prog w hT A L (subscriptTail value slice (.ref d) (.str k u)) m H Q := fun B g os s y => by
  have c := (sdict_at y.rp hd).2
  exact tail_any c.typeIs slot_dict_getitem.lookup (wpAny_getItem_of (strKind_is _ _ _ _) c.mapOf hv ⟨m, H, y.toks, h⟩) hs
theorem sdict_upd {kvs' : List (Str × Value)} (y : St prog w hT B g os L m H s) (hd : H d = some (t, .sdict kvs)) {h' : Heap} {tk : Tok} (hm : h'.DictOf (strKind prog w) d kvs') (hs : Heap.SameBut d s.heap h') : St prog w hT B g os L m (upd H d (t, .sdict kvs')) { s with heap := h', toks := tk } :=
  y.upd (c := .sdict kvs') hd hs.extBut ⟨(sdict_at y.rp hd).1, hm⟩ rfl rfl
theorem t_setitem_sdict {v : Value} {Q : Unit → Loc → LH → Prop} (hd : H d = some (t, .sdict kvs)) (hz : kvs.length ≤ 1000) (h : Q () m (upd H d (t, .sdict (stored kvs k v)))) : T prog w hT A L (setItem (.ref d) (.str k u) v) m H Q := fun B g os s y =>
  wpAny_setItem_pairs (hsz := small_size hz) (strKind_is _ _ _ _) (sdict_at y.rp hd).2 fun h' hm hs => ⟨m, _, sdict_upd y hd hm hs, h⟩
theorem t_in_sdict {Q : Value → Loc → LH → Prop} (hd : H d = some (t, .sdict kvs)) (h : Q (.bool (valueAt kvs k).isSome) m H) : T prog w hT A L (compareOp .In (.str k u) (.ref d)) m H Q := fun B g os s y =>
  wpAny_in_of (strKind_is _ _ _ _) (sdict_at y.rp hd).1 (sdict_at y.rp hd).2.mapOf ⟨m, H, y.toks, h⟩
theorem t_methodDict_sdict {name : Str} {id : String} {pl : Sem Bool} {Q : Value × List Value → Loc → LH → Prop} (hd : H d = some (t, .sdict kvs)) (slot : Slot "dict" name id) (hty : typeOf (.builtin id) = pure (.type "method_descriptor"))
    (h : Q (.builtin id, [.ref d]) m H) : T prog w hT A L (getMethod (.ref d) name pl) m H Q := fun B g os s y =>
  have c := (sdict_at y.rp hd).2
  getMethod_builtin c.typeIs PySem.F.plainAttrs_dict slot hty c.mapOf.noDict ⟨m, H, y, h⟩
theorem t_dictget_sdict {Q : Value → Loc → LH → Prop} (hd : H d = some (t, .sdict kvs)) (h : Q ((valueAt kvs k).getD .none) m H) : T prog w hT A L (call (.builtin "dict.get") [.ref d, .str k u]) m H Q := fun B g os s y =>
  have c := sdict_at y.rp hd
  call_meetsIn PySem.F.slot_dict_get c.2.typeIs PySem.F.entry_dict_get (PySem.F.args_dict_get_2 _ _) (meets_dict_get (strKind prog w) d (strKind_is _ _ _ _) c.1) ⟨_, c.2.mapOf, ⟨m, H, y.toks, h⟩⟩
theorem t_dictpop_sdict {dflt v : Value} {Q : Value → Loc → LH → Prop} (hd : H d = some (t, .sdict kvs)) (hz : kvs.length ≤ 1000) (hv : valueAt kvs k = some v) (h : Q v m (upd H d (t, .sdict (without kvs k)))) : T prog w hT A L (call (.builtin "dict.pop") [.ref d, .str k u, dflt]) m H Q := fun B g os s y =>
  have c := sdict_at y.rp hd
  call_meetsIn PySem.F.slot_dict_pop c.2.typeIs PySem.F.entry_dict_pop (PySem.F.args_dict_pop_3 _ _ _) (meets_dict_pop_there (strKind prog w) d (strKind_is _ _ _ _) [dflt] (.inr ⟨_, rfl⟩) rfl) ⟨kvs, v, c.2, small_size hz, hv, fun h' hm hs => ⟨m, _, sdict_upd y hd hm hs, h⟩⟩
theorem t_listOf_sdict {Q : Value → Loc → LH → Prop} (hA : A.handled = none) (hd : H d = some (t, .sdict kvs)) (hz : kvs.length ≤ 1000)
    (h : ∀ (l : Addr) (vs : List Value), H l = none → vs.length = kvs.length → (∀ (i : Nat) (v : Value), vs[i]? = some v → ∃ k x, kvs[i]? = some (k, x) ∧ (strKind prog w).is k v = true) → Q (.ref l) m (upd H l (tmp, .list vs))) : T prog w hT A L (call (.type "list") [.ref d]) m H Q := fun B g os s y => by
  have c := sdict_at y.rp hd
  obtain ⟨ep, hat⟩ := c.2.dictAt
  refine kdl_call (kdl_dict c.1) hA hat (small_size hz) fun h' tk acc' c' hk hS hI => ?_
  refine ⟨m, _, y.new (a := s.heap.objs.size) (t := tmp) (c := .list acc'.toList) (get?_size _) hk ⟨c', by rw [show acc'.toList.toArray = acc' by simp]; exact hS⟩ rfl rfl, h _ _ (y.rp.fresh (get?_size _)).1 (by rw [Array.length_toList]; exact hI.1) fun i v e => hI.2 i v (by rw [← Array.getElem?_toList]; exact e)⟩
end
end

/-! part F10 -/
section
variable {prog : Program} {w : World} {hT : Heap} {K : Frag} {α : Type} {A : Around} {L : Addr} {m : Loc} {H : LH} {env : Env} {B : Addr → Obj → Prop} {g : Array GenState} {os : OsState} {s : Shared}

theorem St.junkNew (y : St prog w hT B g os L m H s) {h' : Heap} (k : Heap.ExtBut s.heap.objs.size s.heap h') : St prog w hT B g os L m H { s with heap := h' } := by
  obtain ⟨f1, f2, f3⟩ := y.own_new
  exact y.junk f1 f2 f3 k rfl rfl

/-! several targets at once -/
theorem t_ord_nil {ts : List (Value → Sem Unit)} {Q : Unit → Loc → LH → Prop} (h : Q () m H) : T prog w hT A L (assignInOrder [] []) m H Q := t_pure h
theorem t_ord_cons {t : Value → Sem Unit} {ts : List (Value → Sem Unit)} {x : Value} {xs : List Value} {Q : Unit → Loc → LH → Prop} (h : T prog w hT A L (t x) m H fun _ m1 H1 => T prog w hT A L (assignInOrder ts xs) m1 H1 Q) :
    T prog w hT A L (assignInOrder (t :: ts) (x :: xs)) m H Q := t_bind (t_holding h)
theorem t_as_name {x : Str} {pos : Pos} {v : Value} {Q : Unit → Loc → LH → Prop} (h : T prog w hT A L (storeName env x v) m H Q) : T prog w hT A L (assign (.Name x pos) env v) m H Q :=
  t_bind (t_standAt (t_bindName h))
theorem t_bn {x : Str} {v : Value} {Q : Unit → Loc → LH → Prop} (h : T prog w hT A L (storeName env x v) m H Q) : T prog w hT A L (bindName env x v) m H Q := t_bindName h
theorem t_as_attr {o : Expr} {attr : Str} {pos : Pos} {v : Value} {Q : Unit → Loc → LH → Prop} (h : T prog w hT A L (eval o env) m H fun ov m1 H1 => T prog w hT A L (setAttr ov attr v) m1 H1 Q) : T prog w hT A L (assign (.Attribute o attr pos) env v) m H Q := by
  rw [arm_assign_Attribute]
  refine t_bind (t_holding (t_mono h fun ov m1 H1 q => t_bind (t_standAt (t_bind (t_holding (t_mono q fun _ m2 H2 q2 => fun B g os s y => wpAny_release' ⟨m2, H2, y, q2⟩))))))

theorem t_unpackTup {l : Addr} {t : Tag} {vs : List Value} {n : Nat} {Q : List Value → Loc → LH → Prop} (hA : A.handled = none) (hl : H l = some (t, .obj (tupObj vs))) (hn : n = vs.length) (h : Q vs m H) : T prog w hT A L (unpackItems (.ref l) n none) m H Q := fun B g os s y => by
  have ht : IsTup s.heap l vs.toArray := ⟨_, y.rp.rep _ _ _ hl, rfl, 0, rfl⟩
  have e : n = vs.toArray.size := by rw [List.size_toArray]; exact hn
  rw [e]
  exact unpackItems_tuple hA ht fun h' he => ⟨m, H, y.junkNew he, by simpa using h⟩
theorem t_unpackList {l : Addr} {t : Tag} {vs : List Value} {n : Nat} {Q : List Value → Loc → LH → Prop} (hA : A.handled = none) (hl : H l = some (t, .list vs)) (hn : n = vs.length) (h : Q vs m H) : T prog w hT A L (unpackItems (.ref l) n none) m H Q := fun B g os s y => by
  obtain ⟨k, e1⟩ := list_at y.rp hl
  have e : n = vs.toArray.size := by rw [List.size_toArray]; exact hn
  rw [e]
  exact kun_itemsOf hA (list_is e1) fun h' he => ⟨m, H, y.junkNew he, by simpa using h⟩
theorem t_unpack {v : Value} {targets : List (Bool × (Value → Sem Unit))} {Q : Unit → Loc → LH → Prop} (hstar : targets.findIdx? (·.1) = none) (h : T prog w hT A L (unpackItems v targets.length none) m H fun vs m1 H1 => T prog w hT A L (assignInOrder (targets.map (·.2)) vs) m1 H1 Q) :
    T prog w hT A L (unpack v targets) m H Q := by
  unfold unpack
  rw [hstar]
  exact t_bind (t_holding h)
theorem t_assignTup {elts : List Expr} {k : Nat} {tpos : Pos} {value : Expr} {pos : Pos} {Q : Flow → Loc → LH → Prop}
    (h : T prog w hT A L (eval value env) m H fun v m1 H1 => T prog w hT A L (unpackItems v (assignEach elts env).length none) m1 H1 fun vs m2 H2 => T prog w hT A L (assignInOrder ((assignEach elts env).map (·.2)) vs) m2 H2 fun _ m3 H3 => Q .next m3 H3)
    (hw : swappedStores [.Tuple elts k tpos] value env = pure none)
    (hs : swapsWithSole [.Tuple elts k tpos] value pos.line env = pure false := by rfl) (hstar : (assignEach elts env).findIdx? (·.1) = none := by rfl) :
    T prog w hT A L (exec (.Assign [.Tuple elts k tpos] value pos) env) m H Q := fun B g os s y => by
  refine Assign_Tuple ?_ hs hw
  refine wpAny_mono (h B g os s y) (fun v s1 ⟨m1, H1, y1, q1⟩ => ?_) fun _ _ e => e
  rw [PyProof.Rows.assign_Tuple]
  exact wpAny_bind (wpAny_standAt (wpAny_mono (t_unpack hstar q1 B g os s1 y1) (fun _ _ z => z) fun _ _ e => e))
theorem t_assignTupSw {elts : List Expr} {k : Nat} {tpos : Pos} {value : Expr} {pos : Pos} {names : List Str} {Q : Flow → Loc → LH → Prop}
    (h : T prog w hT A L (eval value env) m H fun v m1 H1 => T prog w hT A L (unpackItems v names.length none) m1 H1 fun vs m2 H2 => T prog w hT A L (assignInOrder (names.reverse.map fun n => bindName env n) vs.reverse) m2 H2 fun _ m3 H3 => Q .next m3 H3)
    (hw : swappedStores [.Tuple elts k tpos] value env = pure (some names))
    (hs : swapsWithSole [.Tuple elts k tpos] value pos.line env = pure false := by rfl) :
    T prog w hT A L (exec (.Assign [.Tuple elts k tpos] value pos) env) m H Q := fun B g os s y => by
  refine Assign_Tuple_swapped ?_ hs hw
  exact wpAny_mono (h B g os s y) (fun v s1 ⟨m1, H1, y1, q1⟩ => wpAny_mono (q1 B g os s1 y1) (fun vs s2 ⟨m2, H2, y2, q2⟩ => wpAny_mono (q2 B g os s2 y2) (fun _ _ z => z) fun _ _ e => e) fun _ _ e => e) fun _ _ e => e

/-! sorted, sum, range, list(range) -/
theorem t_sorted {l : Addr} {t : Tag} {vs : List Value} {ns : List Int} {Q : Value → Loc → LH → Prop} (hl : H l = some (t, .list vs)) (hi : IntsAre vs ns) (hz : vs.length < 64)
    (h : ∀ r vs' ns', H r = none → IntsAre vs' ns' → ns'.Perm ns → ns'.Pairwise (· ≤ ·) → Q (.ref r) m (upd H r (tmp, .list vs'))) : T prog w hT A L (call (.builtin "sorted") [.ref l]) m H Q := fun B g os s y => by
  obtain ⟨k, e1⟩ := list_at y.rp hl
  refine sorted_ints (list_is e1) hi hz fun out ns' a1 a2 a3 => ?_
  obtain ⟨e, he⟩ := sortedAll_at s.heap vs out
  have f : s.heap.get? (s.heap.objs.size + 1) = none := by
    cases q : s.heap.get? (s.heap.objs.size + 1) with
    | none => rfl
    | some o => exact absurd (Heap.lt_size q) (Nat.not_lt.mpr (Nat.le_succ _))
  exact ⟨m, _, y.new (a := s.heap.objs.size + 1) (t := tmp) (c := .list out.toList) f (fun _ _ => sortedAll_old) ⟨e, by rw [Array.toArray_toList]; exact he⟩ rfl rfl, h _ _ _ (y.rp.fresh f).1 a1 a2 a3⟩
theorem t_sortedRev {l : Addr} {t : Tag} {vs : List Value} {ns : List Int} {b : Bool} {Q : Value → Loc → LH → Prop} (hl : H l = some (t, .list vs)) (hi : IntsAre vs ns) (hz : vs.length < 64)
    (h : ∀ r vs' ns', H r = none → IntsAre vs' ns' → ns'.Perm ns → Ordered b ns' → Q (.ref r) m (upd H r (tmp, .list vs'))) : T prog w hT A L (call (.builtin "sorted") [.ref l] [(Str.ofString "reverse", .bool b)]) m H Q := fun B g os s y => by
  obtain ⟨k, e1⟩ := list_at y.rp hl
  refine sorted_ints_rev (list_is e1) hi hz fun out ns' a1 a2 a3 => ?_
  obtain ⟨e, he⟩ := sortedAll_at s.heap vs out
  have f : s.heap.get? (s.heap.objs.size + 1) = none := by
    cases q : s.heap.get? (s.heap.objs.size + 1) with
    | none => rfl
    | some o => exact absurd (Heap.lt_size q) (Nat.not_lt.mpr (Nat.le_succ _))
  exact ⟨m, _, y.new (a := s.heap.objs.size + 1) (t := tmp) (c := .list out.toList) f (fun _ _ => sortedAll_old) ⟨e, by rw [Array.toArray_toList]; exact he⟩ rfl rfl, h _ _ _ (y.rp.fresh f).1 a1 a2 a3⟩
theorem t_range {n : Nat} {u : Tok} {Q : Value → Loc → LH → Prop} (h : ∀ r u1 u3, H r = none → Q (.ref r) m (upd H r (tmp, .obj (rangeObj n u1 u u3)))) : T prog w hT A L (call (.type "range") [.int (n : Int) u]) m H Q := fun B g os s y =>
  call_range_1 ⟨m, _, y.new (t := tmp) (c := .obj (rangeObj n s.toks u (s.toks + 1))) (get?_size _) (fun b o e => Heap.get?_push_of_some _ e) (Heap.get?_push_size _ rfl) rfl rfl, h _ _ _ (y.rp.fresh (get?_size _)).1⟩
theorem t_listRange {r : Addr} {t : Tag} {n : Nat} {u1 u2 u3 : Tok} {Q : Value → Loc → LH → Prop} (hA : A.handled = none) (hr : H r = some (t, .obj (rangeObj n u1 u2 u3))) (hz : n ≤ 1000)
    (h : ∀ l vs, H l = none → IntsAre vs ((List.range n).map fun (i : Nat) => (i : Int)) → Q (.ref l) m (upd H l (tmp, .list vs))) : T prog w hT A L (call (.type "list") [.ref r]) m H Q := fun B g os s y => by
  refine call_list_range hA (y.rp.rep _ _ _ hr) (small_n hz) (size_n n) (by lia) fun h' tk acc' c' hk hS hI => ?_
  refine ⟨m, _, y.new (a := s.heap.objs.size) (t := tmp) (c := .list acc'.toList) (get?_size _) hk ⟨c', by rw [show acc'.toList.toArray = acc' by simp]; exact hS⟩ rfl rfl, h _ _ (y.rp.fresh (get?_size _)).1 ?_⟩
  have key : ∀ (vs : List Value) (ns : List Int), vs.length = ns.length → (∀ (i : Nat) v x, vs[i]? = some v → ns[i]? = some x → ∃ t, v = .int x t) → IntsAre vs ns := by
    intro vs
    induction vs with
    | nil => intro ns e _; cases ns with | nil => exact .nil | cons => cases e
    | cons v vs ih =>
      intro ns e q
      cases ns with
      | nil => cases e
      | cons x ns =>
        obtain ⟨t, rfl⟩ := q 0 v x rfl rfl
        exact .cons _ _ (ih ns (by simpa using e) fun i v x a b => q (i + 1) v x a b)
  refine key _ _ (by rw [Array.length_toList, hI.1]; simp) fun i v x a b => ?_
  rw [Array.getElem?_toList] at a
  obtain ⟨t, ht⟩ := hI.2 i v a
  refine ⟨t, ?_⟩
  rw [ht]
  rw [List.getElem?_map] at b
  cases e : (List.range n)[i]? with
  | none => rw [e] at b; cases b
  | some j =>
    rw [e] at b
    have : j = i := by
      have hi := (List.getElem?_eq_some_iff.mp e)
      obtain ⟨hi, e2⟩ := hi
      rw [List.getElem_range] at e2; exact e2.symm
    subst this
    have e3 : (j : Int) = x := Option.some.inj b
    rw [show (0 : Int) + (j : Int) * 1 = x by lia]
end

/-! part F11 -/
theorem lookup_relabel {env : Env} : ∀ (names : List (Str × NameKind)) (x : Str),
    (names.map fun (n, k) => if (k == NameKind.free && env.scope.kind == .function && env.kindOf n == some .cell) then (n, NameKind.cell) else (n, k)).lookup x =
      (names.lookup x).map fun k => if (k == NameKind.free && env.scope.kind == .function && env.kindOf x == some .cell) then NameKind.cell else k
  | [], _ => rfl
  | (n, k) :: r, x => by
    have ih := lookup_relabel (env := env) r x
    have e : (if (k == NameKind.free && env.scope.kind == .function && env.kindOf n == some .cell) = true then (n, NameKind.cell) else (n, k)) = (n, if (k == NameKind.free && env.scope.kind == .function && env.kindOf n == some .cell) = true then NameKind.cell else k) := by split <;> rfl
    show List.lookup x ((if (k == NameKind.free && env.scope.kind == .function && env.kindOf n == some .cell) = true then (n, NameKind.cell) else (n, k)) :: _) = _
    rw [e, List.lookup_cons, List.lookup_cons, ih]
    cases hx : x == n with
    | false => rfl
    | true =>
      have : x = n := by simpa using hx
      subst this
      rfl
section
variable {prog : Program} {w : World} {hT : Heap} {K : Frag} {α : Type} {A : Around} {L : Addr} {m : Loc} {H : LH} {env : Env} {B : Addr → Obj → Prop} {g : Array GenState} {os : OsState} {s : Shared}

theorem fnE_comp (P : Tp K hT) {scope : Scope} {cl : List (Str × Addr)} {C : Addr} {ns : List Str} {gs : List (Str × Value)} {fs : List (Str × Addr)} (hg : env.globals = mainGlobals) (hb : env.builtins = builtinsNs)
    (h : kindsOk K scope ns gs = true) (hc : cellsOk scope (fs.map (·.1)) = true := by rfl) (hf : ∀ p ∈ fs, cl.lookup p.1 = some p.2 := by intro p hp; cases hp) :
    FnE hT (compEnvC scope cl C env) C ns gs fs := by
  unfold kindsOk at h
  unfold cellsOk at hc
  simp only [Bool.and_eq_true, decide_eq_true_eq, List.all_eq_true, Bool.not_eq_true', Bool.or_eq_true] at h hc
  obtain ⟨⟨⟨⟨⟨h1, h2⟩, h3⟩, h4⟩, h5⟩, h6⟩ := h
  have look : ∀ x, (compEnvC scope cl C env).kindOf x = (scope.names.lookup x).map fun k => if (k == NameKind.free && env.scope.kind == .function && env.kindOf x == some .cell) then NameKind.cell else k := fun x => lookup_relabel scope.names x
  refine ⟨h1, rfl, hg, hb, h2, fun x hx => ?_, fun p hp => ?_, fun p hp => ?_, ?_⟩
  · rw [look, h3 x hx]; rfl
  · obtain ⟨e, G⟩ := glob_of P (h4 p hp)
    refine ⟨?_, G⟩
    rw [look, e]; rfl
  · have := hc p.1 (List.mem_map.mpr ⟨p, hp, rfl⟩)
    refine ⟨?_, hf p hp, this.1.2⟩
    rw [look]
    rcases this.1.1 with e | e
    · rw [e]
      dsimp only [Option.map]
      split
      · exact .inr rfl
      · exact .inl rfl
    · rw [e]; exact .inr rfl
  · rintro x (hx | hx | hx)
    · exact h5 x hx
    · obtain ⟨p, hp, rfl⟩ := List.mem_map.mp hx
      exact h6 p hp
    · exact (hc x hx).2

theorem blockKind_fn {ns : List Str} {gs : List (Str × Value)} {fs : List (Str × Addr)} (F : FnE hT env L ns gs fs) : env.blockKind = .function := by
  unfold Env.blockKind
  rw [F.kind]; rfl
theorem bool_if {α : Type} {c : Bool} {a b : α} (h : c = false) : (if c = true then a else b) = b := by rw [h]; rfl
theorem swap3 {ns : List Str} {gs : List (Str × Value)} {fs : List (Str × Addr)} {x1 x2 x3 : Str} {p1 p2 p3 tp vp : Pos} {k k2 : Nat} {e1 e2 e3 : Expr} (F : FnE hT env L ns gs fs) (h1 : x1 ∈ ns) (h2 : x2 ∈ ns) (h3 : x3 ∈ ns)
    (hl : ((p2.line == p1.line && p3.line == p1.line) && ([x1, x2, x3].eraseDups.length == 3) && !([e1, e2, e3].any fun | .Starred .. => true | _ => false) && !([e1, e2, e3].all (foldedForSure 8)) && !([e1, e2, e3].all (constantsAlone 8))) = true) :
    swappedStores [.Tuple [.Name x1 p1, .Name x2 p2, .Name x3 p3] k tp] (.Tuple [e1, e2, e3] k2 vp) env = pure (some [x1, x2, x3]) := by
  simp only [Bool.and_eq_true, Bool.not_eq_true', beq_iff_eq] at hl
  obtain ⟨⟨⟨⟨⟨l2, l3⟩, m4⟩, m5⟩, m6⟩, m7⟩ := hl
  unfold swappedStores
  dsimp only
  refine (bool_if (by rw [blockKind_fn F]; rfl)).trans ?_
  refine (bool_if m5).trans ?_
  have hn : List.filterMap (fun x : Expr => match x with | .Name id pos => if env.kindOf id == some NameKind.local && pos.line == p1.line then some id else none | _ => none) [.Name x1 p1, .Name x2 p2, .Name x3 p3] = [x1, x2, x3] := by
    simp [F.loc x1 h1, F.loc x2 h2, F.loc x3 h3, l2, l3]
  have hn2 := congrArg List.length hn
  refine (bool_if ?_).trans ((bool_if m6).trans ((bool_if m7).trans (congrArg (fun z => pure (some z)) hn)))
  · refine Bool.or_eq_false_iff.mpr ⟨?_, ?_⟩
    · exact bne_eq_false_iff_eq.mpr hn2
    · refine bne_eq_false_iff_eq.mpr ?_
      have e := congrArg (fun z : List Str => z.eraseDups.length) hn
      exact e.trans (m4.trans hn2.symm)
theorem swap2 {ns : List Str} {gs : List (Str × Value)} {fs : List (Str × Addr)} {x1 x2 : Str} {p1 p2 tp vp : Pos} {k k2 : Nat} {e1 e2 : Expr} (F : FnE hT env L ns gs fs) (h1 : x1 ∈ ns) (h2 : x2 ∈ ns)
    (hl : ((p2.line == p1.line) && ([x1, x2].eraseDups.length == 2) && !([e1, e2].any fun | .Starred .. => true | _ => false) && !([e1, e2].all (foldedForSure 8)) && !([e1, e2].all (constantsAlone 8))) = true) :
    swappedStores [.Tuple [.Name x1 p1, .Name x2 p2] k tp] (.Tuple [e1, e2] k2 vp) env = pure (some [x1, x2]) := by
  simp only [Bool.and_eq_true, Bool.not_eq_true', beq_iff_eq] at hl
  obtain ⟨⟨⟨⟨l2, m4⟩, m5⟩, m6⟩, m7⟩ := hl
  unfold swappedStores
  dsimp only
  refine (bool_if (by rw [blockKind_fn F]; rfl)).trans ?_
  refine (bool_if m5).trans ?_
  have hn : List.filterMap (fun x : Expr => match x with | .Name id pos => if env.kindOf id == some NameKind.local && pos.line == p1.line then some id else none | _ => none) [.Name x1 p1, .Name x2 p2] = [x1, x2] := by
    simp [F.loc x1 h1, F.loc x2 h2, l2]
  have hn2 := congrArg List.length hn
  refine (bool_if ?_).trans ((bool_if m6).trans ((bool_if m7).trans (congrArg (fun z => pure (some z)) hn)))
  · refine Bool.or_eq_false_iff.mpr ⟨?_, ?_⟩
    · exact bne_eq_false_iff_eq.mpr hn2
    · refine bne_eq_false_iff_eq.mpr ?_
      have e := congrArg (fun z : List Str => z.eraseDups.length) hn
      exact e.trans (m4.trans hn2.symm)
theorem preSum_at (ns : List Int) : ∀ k, k ≤ ns.length → preSum (fun i => (ns[i]?).getD 0) k = (ns.take k).sum
  | 0, _ => by simp [preSum]
  | k + 1, h => by
    have hk : k < ns.length := by assumption
    unfold preSum
    rw [preSum_at ns k (by (refine Nat.le_of_lt ?_; assumption)), List.take_add_one, List.getElem?_eq_getElem hk, List.sum_append]
    simp
theorem ints_at {vs : List Value} {ns : List Int} (h : IntsAre vs ns) : ∀ (i : Nat) (v : Value), vs[i]? = some v → ∃ t, v = .int ((ns[i]?).getD 0) t := by
  induction h with
  | nil => intro i v e; simp at e
  | cons a b _ ih =>
    intro i v e
    cases i with
    | zero => exact ⟨b, by simpa using e.symm⟩
    | succ i => exact ih i v (by simpa using e)
theorem t_sum {l : Addr} {t : Tag} {vs : List Value} {ns : List Int} {Q : Value → Loc → LH → Prop} (hA : A.handled = none) (hl : H l = some (t, .list vs)) (hi : IntsAre vs ns) (h : ∀ u, Q (.int ns.sum u) m H) : T prog w hT A L (call (.builtin "sum") [.ref l]) m H Q := fun B g os s y => by
  obtain ⟨k, e1⟩ := list_at y.rp hl
  have hlt : l < s.heap.objs.size := Heap.lt_size e1
  refine call_sum_walkG (wpAny_pyIter_list (list_is e1) ?_)
  refine ⟨s.heap.objs.size, _, _, _, _, _, (fun i => (ns[i]?).getD 0), rfl, Walks.list (A := A.in1) hA _ l (Nat.ne_of_lt hlt) vs.toArray, ⟨⟨_, Heap.get?_push_size _ rfl, rfl, rfl⟩, (list_is e1).push _⟩, fun b hb => ?_, fun i v hv => ints_at hi i v (by simpa using hv), fun h' tk t' hk => ?_⟩
  · show b < (s.heap.push _).objs.size
    rw [Heap.size_push]
    rcases List.mem_cons.mp hb with rfl | hb
    · exact Nat.lt_succ_self _
    · rcases List.mem_cons.mp hb with rfl | hb
      · exact Nat.lt_succ_of_lt hlt
      · cases hb
  · refine ⟨m, H, y.ext (fun b o e => hk b o (fun hm => ?_) (Heap.get?_push_of_some _ e)) rfl rfl, ?_⟩
    · rcases List.mem_cons.mp hm with e2 | hm
      · exact absurd (e2 ▸ Heap.lt_size e) (Nat.lt_irrefl _)
      · cases hm
    · have : preSum (fun i => (ns[i]?).getD 0) vs.toArray.size = ns.sum := by
        rw [List.size_toArray, hi.length, preSum_at ns _ (Nat.le_refl _), List.take_length]
      rw [this]; exact h _
end

/-! part F14 -/
section
variable {prog : Program} {w : World} {hT : Heap} {K : Frag} {α : Type} {A : Around} {L : Addr} {m : Loc} {H : LH} {env : Env} {B : Addr → Obj → Prop} {g : Array GenState} {os : OsState} {s : Shared}

/-! loops over what is drawn from any iterator -/
noncomputable def OwnAll (B : Addr → Obj → Prop) (L : Addr) (H : LH) (s : Shared) (gs : List (Addr × Obj)) : Prop := ∀ p ∈ gs, Own B L H s p.1 p.2
theorem St.own_guards2 (y : St prog w hT B g os L m H s) {G : Addr → Obj → Prop} (O : ∀ a o, G a o → Own B L H s a o) :
    St prog w hT (fun b x => B b x ∨ G b x) g os L m H s ∧ ∀ m' H' s', St prog w hT (fun b x => B b x ∨ G b x) g os L m' H' s' → St prog w hT B g os L m' H' s' ∧ ∀ a o, G a o → Own B L H' s' a o := by
  refine ⟨⟨⟨y.rp.rep, fun b x e => .inl (y.rp.top b x e), ?_, ?_, y.rp.gens, y.rp.os⟩, y.ns, y.hL, ?_⟩, ?_⟩
  · rintro b x (e | e)
    · exact y.rp.keep b x e
    · exact (O b x e).at_
  · rintro b z x e (q | q)
    · exact y.rp.dis b z x e q
    · rw [(O b x q).noH] at e; cases e
  · rintro x (q | q)
    · exact y.disL x q
    · exact (O L x q).neL rfl
  · intro m' H' s' z
    refine ⟨⟨⟨z.rp.rep, y.rp.top, fun b x e => z.rp.keep b x (.inl e), fun b t x e q => z.rp.dis b t x e (.inl q), z.rp.gens, z.rp.os⟩, z.ns, z.hL, fun x q => z.disL x (.inl q)⟩, fun a o q => ⟨z.rp.keep a o (.inr q), ?_, (O a o q).neL, (O a o q).noB⟩⟩
    cases e : H' a with
    | none => rfl
    | some t => exact absurd (.inr q) (z.rp.dis a t o e)
/-- what draws from one iterator into the names of a target -/
structure Src (prog : Program) (w : World) (hT : Heap) (A : Around) (it : Value) (tgt : Expr) (n : Nat) (K : LH → Prop) (M : Nat → Loc → Loc → Prop) (okE : Env → Addr → Prop) (G : Nat → List (Addr × Obj) → Prop) : Prop where
  self : ∀ (s : Shared) gs (Q : Value → Shared → Prop) (E : Value → Shared → Prop), (∀ p ∈ gs, s.heap.get? p.1 = some p.2) → G 0 gs → Q it s → wpAny (model prog w) A (pyIter it) Q E s
  draw : ∀ env C B g os m H s i gs, okE env C → St prog w hT B g os C m H s → OwnAll B C H s gs → G i gs → i ≤ n → K H →
    wpAny (model prog w) A (pyNext it) (fun r s1 => match r with
      | none => i = n ∧ St prog w hT B g os C m H s1
      | some v => wpAny (model prog w) A (letOwnedTupleGo tgt it v) (fun _ s2 => wpAny (model prog w) A (assign tgt env v) (fun _ s3 => i < n ∧ Ex2 fun m' gs' => And5 (M i m m') (St prog w hT B g os C m' H s3) (OwnAll B C H s3 gs') (gs'.map (·.1) = gs.map (·.1)) (G (i + 1) gs')) (fun _ _ => False) s2) (fun _ _ => False) s1) (fun _ _ => False) s
noncomputable def Opens (prog : Program) (w : World) (hT : Heap) (A : Around) (v : Value) (H1 : LH) (tgt : Expr) (n : Nat) (M : Nat → Loc → Loc → Prop) (okE : Env → Addr → Prop) (R : LH → (LH → Prop) → Prop) : Prop :=
  ∀ B g os L m s, St prog w hT B g os L m H1 s → wpAny (model prog w) A (pyIter v) (fun it s2 => Ex4 fun H0 K gs G => And5 (R H0 K) (Src prog w hT A it tgt n K M okE G) (St prog w hT B g os L m H0 s2) (OwnAll B L H0 s2 gs) (G 0 gs)) (fun _ _ => False) s

theorem t_for_src {tgt iter : Expr} {body : List Stmt} {pos : Pos} {Q : Flow → Loc → LH → Prop}
    (h : T prog w hT A L (eval iter env) m H fun v m1 H1 => Ex4 fun n M okE R => And3 (Opens prog w hT A v H1 tgt n M okE R) (okE env L) (∀ H0 K, R H0 K → ∃ (I : Nat → Loc → LH → Prop), I 0 m1 H0 ∧ (∀ i m H, I i m H → K H) ∧
      (∀ (J : Loc → LH → Prop) i, (∀ m H, I (i + 1) m H → J m H) → ∀ m0 m' H, I i m0 H → i < n → M i m0 m' → T prog w hT A L (execs body env) m' H (loopQ J Q)) ∧ ∀ m H, I n m H → Q .next m H))
    (hs : ∀ x, foldedSetIterable iter env x = pure x := by intro _; rfl) :
    T prog w hT A L (exec (.For tgt iter body [] pos) env) m H Q := fun B g os s y => by
  refine wpAny_For (wpAny_mono (h B g os s y) (fun v s1 ⟨m1, H1, y1, q1⟩ => ?_) fun _ _ e => e) hs
  obtain ⟨n, M, okE, R, hO, hk, q1⟩ := q1
  refine wpAny_mono (hO B g os L m1 s1 y1) (fun it s2 z => ?_) fun _ _ e => e.elim
  obtain ⟨H0, K, gs, G, hR, S, y2, O2, g2⟩ := z
  obtain ⟨I, hI0, hIK, turn, hend⟩ := q1 H0 K hR
  refine codeAny_forLoop_any (fun k s => Ex4 fun i m H gs => And5 (k + i = n) (St prog w hT B g os L m H s) (OwnAll B L H s gs) (G i gs) (I i m H)) ?_ n ⟨0, m1, H0, gs, rfl, y2, O2, g2, hI0⟩
  rintro k s3 ⟨i, m3, H3, gs3, hn, y3, O3, g3, hI⟩
  refine wpAny_mono (S.draw env L B g os m3 H3 s3 i gs3 hk y3 O3 g3 (by lia) (hIK _ _ _ hI)) (fun r s4 z => ?_) fun _ _ e => e.elim
  cases r with
  | none =>
    obtain ⟨rfl, y4⟩ := z
    exact wpAny_execs_nil ⟨m3, H3, y4, hend _ _ hI⟩
  | some v =>
    refine wpAny_mono z (fun _ s5 z => ?_) fun _ _ e => e.elim
    refine wpAny_mono z (fun _ s6 z => ?_) fun _ _ e => e.elim
    obtain ⟨hi, m', gs', hM, y6, O6, hgs, g6⟩ := z
    obtain ⟨y7, back⟩ := y6.own_guards2 (G := fun a o => (a, o) ∈ gs') fun a o hm => O6 (a, o) hm
    refine wpAny_mono (turn _ i (fun _ _ z => z) m3 m' H3 hI hi hM _ g os s6 y7) (fun fl s8 ⟨m8, H8, y8, q8⟩ => ?_) fun _ _ e => e.elim
    obtain ⟨y9, O9⟩ := back _ _ _ y8
    have O9' : OwnAll B L H8 s8 gs' := fun p hp => O9 p.1 p.2 hp
    cases fl with
    | next => exact ⟨k - 1, by omega, i + 1, m8, H8, gs', by omega, y9, O9', g6, q8⟩
    | cont => exact ⟨k - 1, by omega, i + 1, m8, H8, gs', by omega, y9, O9', g6, q8⟩
    | brk => exact ⟨m8, H8, y9, q8⟩
    | ret v => exact ⟨m8, H8, y9, q8⟩

/-- the tests of a comprehension -/
noncomputable def tests (ifs : List Expr) (env : Env) : Sem Bool := forIn ifs true fun c r => if r = true then do let ok ← isTrue c env (eval c env); pure (ForInStep.yield ok) else pure (ForInStep.yield r)
theorem t_tests_nil {Q : Bool → Loc → LH → Prop} (h : Q true m H) : T prog w hT A L (tests [] env) m H Q := t_pure h
theorem t_tests_one {c : Expr} {Q : Bool → Loc → LH → Prop} (h : T prog w hT A L (isTrue c env (eval c env)) m H Q) : T prog w hT A L (tests [c] env) m H Q := fun B g os s y => wpAny_tests_one (h B g os s y)
theorem compLoop_any {elt target iter : Expr} {ifs : List Expr} {scope : Scope} {pos : Pos} {it acc : Value} {env : Env} {R : Result → Shared → Prop} (I : Nat → Shared → Prop)
    (turn : ∀ n s, I n s → wpAny (model prog w) A (pyNext it) (fun r s₁ => match r with
      | none => R (.ok .next) s₁
      | some v => wpAny (model prog w) A (letOwnedTupleGo target it v) (fun _ s₀ => wpAny (model prog w) A (assign target env v) (fun _ s₂ =>
          wpAny (model prog w) A (tests ifs env) (fun ok s₃ =>
            if ok = true then wpAny (model prog w) A (eval elt env) (fun x s₄ =>
              wpAny (model prog w) A (call (.builtin "list.append") [acc, x]) (fun _ s₅ => ∃ m, m < n ∧ I m s₅) (fun _ _ => False) s₄) (fun _ _ => False) s₃
            else ∃ m, m < n ∧ I m s₃) (fun _ _ => False) s₂) (fun _ _ => False) s₀) (fun _ _ => False) s₁) (fun _ _ => False) s)
    (n : Nat) (h : I n s) : codeAny (model prog w) A (.compLoop (.ListComp elt [⟨target, iter, ifs, 0⟩] scope pos) 0 it acc env) R s := by
  refine codeAny_loop rfl I (fun n s hI => ?_) n h
  show wpAny _ A ((compTurn (.ListComp elt [⟨target, iter, ifs, 0⟩] scope pos) 0 it acc env).onRaise (fun x => do noteFrame x env; theTreesLotGoes x)) _ _ s
  refine wpAny_noted ?_
  rw [compTurn_list]
  refine wpAny_bind (wpAny_standAt (wpAny_bind (wpAny_mono (turn n s hI) (fun r s₁ h₁ => ?_) fun _ _ h' => h'.elim)))
  cases r with
  | none => exact wpAny_pure h₁
  | some v =>
    refine wpAny_bind (wpAny_mono h₁ (fun _ s₀ h₀ => ?_) fun _ _ h' => h'.elim)
    refine wpAny_bind (wpAny_mono h₀ (fun _ s₂ h₂ => wpAny_bind (wpAny_mono h₂ (fun ok s₃ h₃ => ?_) fun _ _ h' => h'.elim)) fun _ _ h' => h'.elim)
    cases ok with
    | false => exact wpAny_pure ⟨rfl, h₃⟩
    | true =>
      exact wpAny_bind (wpAny_bind (wpAny_mono h₃ (fun x s₄ h₄ => wpAny_bind (wpAny_mono h₄ (fun _ s₅ h₅ => wpAny_pure (wpAny_pure ⟨rfl, h₅⟩)) fun _ _ h' => h'.elim)) fun _ _ h' => h'.elim))

theorem comp_core {elt iter tgt : Expr} {ifs : List Expr} {scope : Scope} {cl : List (Str × Addr)} {pos : Pos} {it : Value} {Dl C : Addr} {n nD : Nat} {K : LH → Prop} {M : Nat → Loc → Loc → Prop} {okE : Env → Addr → Prop} {G : Nat → List (Addr × Obj) → Prop} {D : Loc → Prop} {I : Nat → List Value → LH → Prop} {gs : List (Addr × Obj)} {R : Result → Shared → Prop}
    (S : Src prog w hT A it tgt n K M okE G) (hz : n ≤ 1000) (hok : okE (compEnvC scope cl C env) C) (hIK : ∀ i acc H, I i acc H → acc.length ≤ i ∧ K H)
    (turn : ∀ i acc H m0 m', I i acc H → i < n → D m0 → M i m0 m' → T prog w hT A C (tests ifs (compEnvC scope cl C env)) m' H fun ok m2 H2 =>
        (ok = true → T prog w hT A C (eval elt (compEnvC scope cl C env)) m2 H2 fun z m3 H3 => D m3 ∧ I (i + 1) (acc ++ [z]) H3) ∧ (ok = false → D m2 ∧ I (i + 1) acc H2))
    (y4 : St prog w hT B g os C (fun _ => none) H s) (hD0 : D (fun _ => none : Loc)) (I4 : OwnAll B C H s gs) (D4 : Own B C H s Dl (listOf (#[] : Array Value) nD)) (gsD : ∀ p ∈ gs, p.1 ≠ Dl) (g2 : G 0 gs) (hI0 : I 0 [] H)
    (hend : ∀ s6 mc H acc nD, St prog w hT B g os C mc H s6 → Own B C H s6 Dl (listOf acc.toArray nD) → I n acc H → R (.ok .next) s6) :
    codeAny (model prog w) A (.compLoop (.ListComp elt [⟨tgt, iter, ifs, 0⟩] scope pos) 0 it (.ref Dl) (compEnvC scope cl C env)) R s := by
  have mem_map : ∀ {gs' : List (Addr × Obj)}, gs'.map (·.1) = gs.map (·.1) → ∀ p ∈ gs', p.1 ≠ Dl := fun {gs'} e p hp q => by
    have : p.1 ∈ gs.map (·.1) := e ▸ List.mem_map_of_mem hp
    obtain ⟨p', hp', e'⟩ := List.mem_map.mp this
    exact gsD p' hp' (e'.trans q)
  refine compLoop_any (fun n' s => Ex6 fun i acc mc H gs' nD => And8 (n' + i = n) (St prog w hT B g os C mc H s) (D mc) (OwnAll B C H s gs') (gs'.map (·.1) = gs.map (·.1)) (G i gs') (Own B C H s Dl (listOf acc.toArray nD)) (I i acc H)) ?_ n ⟨0, [], _, H, gs, nD, rfl, y4, hD0, I4, rfl, g2, D4, hI0⟩
  rintro n' s5 ⟨i, acc, mc, H5, gs5, nD5, hn, y5, hmc, I5, e5, g5, D5, hI⟩
  obtain ⟨hacc, hK⟩ := hIK i acc H5 hI
  obtain ⟨y5', back5⟩ := y5.own_guards2 (G := fun a x => a = Dl ∧ x = listOf acc.toArray nD5) (by rintro a x ⟨rfl, rfl⟩; exact D5)
  have I5' : OwnAll (fun b x => B b x ∨ (b = Dl ∧ x = listOf acc.toArray nD5)) C H5 s5 gs5 := fun p hp => ⟨(I5 p hp).at_, (I5 p hp).noH, (I5 p hp).neL, fun o q => q.elim ((I5 p hp).noB o) fun q => mem_map e5 p hp q.1⟩
  refine wpAny_mono (S.draw (compEnvC scope cl C env) C _ g os mc H5 s5 i gs5 hok y5' I5' g5 (by lia) hK) (fun r s6 z => ?_) fun _ _ e => e.elim
  cases r with
  | none =>
    obtain ⟨rfl, y6'⟩ := z
    obtain ⟨y6, D6'⟩ := back5 _ _ _ y6'
    exact hend s6 mc H5 acc nD5 y6 (D6' Dl _ ⟨rfl, rfl⟩) hI
  | some v =>
    refine wpAny_mono z (fun _ s7 z => ?_) fun _ _ e => e.elim
    refine wpAny_mono z (fun _ s8 z => ?_) fun _ _ e => e.elim
    obtain ⟨hi, m', gs', hM, y8', O8', hgs, g8⟩ := z
    obtain ⟨y8, D8'⟩ := back5 _ _ _ y8'
    have D8 := D8' Dl _ ⟨rfl, rfl⟩
    have O8 : OwnAll B C H5 s8 gs' := fun p hp => ⟨(O8' p hp).at_, (O8' p hp).noH, (O8' p hp).neL, fun o q => (O8' p hp).noB o (.inl q)⟩
    obtain ⟨y9, back9⟩ := y8.own_guards2 (G := fun a x => (a, x) ∈ gs' ∨ (a = Dl ∧ x = listOf acc.toArray nD5)) (by
      rintro a x (q | ⟨rfl, rfl⟩)
      · exact O8 (a, x) q
      · exact D8)
    refine wpAny_mono (turn i acc H5 mc m' hI hi hmc hM _ g os s8 y9) (fun ok s10 ⟨m10, H10, y10, q10⟩ => ?_) fun _ _ e => e.elim
    cases ok with
    | false =>
      rw [if_neg Bool.false_ne_true]
      obtain ⟨y11, own11⟩ := back9 _ _ _ y10
      obtain ⟨d10, i10⟩ := q10.2 rfl
      exact ⟨n' - 1, by omega, i + 1, acc, m10, H10, gs', nD5, by omega, y11, d10, fun p hp => own11 _ _ (.inl hp), hgs.trans e5, g8, own11 _ _ (.inr ⟨rfl, rfl⟩), i10⟩
    | true =>
      rw [if_pos rfl]
      refine wpAny_mono (q10.1 rfl _ g os s10 y10) (fun z s12 ⟨m12, H12, y12, d12, q12⟩ => ?_) fun _ _ e => e.elim
      obtain ⟨y11, own11⟩ := back9 _ _ _ y12
      have D11 := own11 _ _ (.inr ⟨rfl, rfl⟩)
      refine call_meets PySem.F.slot_list_append ⟨_, D11.at_, rfl⟩ PySem.F.entry_list_append (PySem.F.args_list_append_2 _ _) (PySem.AutoListH.list_append_list_val_0 Dl acc.toArray nD5 z (by rw [List.size_toArray, sizeLine_eq]; lia)) ⟨D11.at_, ?_⟩
      have ge := Heap.get?_update_self (Obj.mapSeq fun x => x.push z) D11.at_ rfl
      obtain ⟨y13, D13⟩ := y11.own_step (s' := { s12 with heap := s12.heap.update Dl (Obj.mapSeq fun x => x.push z) }) D11 (Heap.SameBut.update ..).extBut ge rfl rfl
      refine ⟨n' - 1, by omega, i + 1, acc ++ [z], m12, H12, gs', (if (acc.toArray.push z).size == acc.toArray.size then nD5 else nD5 + 1), by omega, y13, d12, fun p hp => ?_, hgs.trans e5, g8, ?_, q12⟩
      · exact (own11 _ _ (.inl hp)).keep (s' := { s12 with heap := s12.heap.update Dl (Obj.mapSeq fun x => x.push z) }) fun e => (Heap.SameBut.update ..).extBut _ _ (mem_map (hgs.trans e5) p hp) e
      · have : Obj.mapSeq (fun x => x.push z) (listOf acc.toArray nD5) = listOf (acc ++ [z]).toArray (if (acc.toArray.push z).size == acc.toArray.size then nD5 else nD5 + 1) := by
          show (⟨_, _, .seq (acc.toArray.push z) _, _⟩ : Obj) = _
          rw [show (acc ++ [z]).toArray = acc.toArray.push z by simp]
        rw [← this]; exact D13

theorem t_comp_src {elt iter tgt : Expr} {ifs : List Expr} {scope : Scope} {cl : List (Str × Addr)} {pos : Pos} {Q : Value → Loc → LH → Prop} (hclos : closureFor scope env = pure cl)
    (hcell : (scope.names.all fun y => decide (y.2 ≠ .cell)) = true) (hkind : scope.kind = .function) (hnames : (scope.names.all fun y => decide (y.2 = .local → scope.names.lookup y.1 = some .local)) = true)
    (h : T prog w hT A L (eval iter env) m H fun v m1 H1 => Ex5 fun n M okE R (D : Loc → Prop) => And5 (Opens prog w hT A v H1 tgt n M okE R) (n ≤ 1000) ((∀ C, okE (compEnvC scope cl C env) C)) (D (fun _ => none : Loc)) (∀ H0 K, R H0 K → ∃ (I : Nat → List Value → LH → Prop), I 0 [] H0 ∧ (∀ i acc H, I i acc H → acc.length ≤ i ∧ K H) ∧
      (∀ C i acc H m0 m', I i acc H → i < n → D m0 → M i m0 m' → T prog w hT A C (tests ifs (compEnvC scope cl C env)) m' H fun ok m2 H2 =>
        (ok = true → T prog w hT A C (eval elt (compEnvC scope cl C env)) m2 H2 fun z m3 H3 => D m3 ∧ I (i + 1) (acc ++ [z]) H3) ∧ (ok = false → D m2 ∧ I (i + 1) acc H2)) ∧
      ∀ acc H, I n acc H → ∀ r, H r = none → Q (.ref r) m1 (upd H r (tmp, .list acc))))
    (hs : ∀ x, foldedSetIterable iter env x = pure x := by intro _; rfl) :
    T prog w hT A L (eval (.ListComp elt [⟨tgt, iter, ifs, 0⟩] scope pos) env) m H Q := fun B g os s y => by
  have hcell' : ∀ y ∈ scope.names, y.2 ≠ .cell := fun y hy => of_decide_eq_true (List.all_eq_true.mp hcell y hy)
  have hnames' : ∀ y ∈ scope.names, y.2 = .local → scope.names.lookup y.1 = some .local := fun y hy => of_decide_eq_true (List.all_eq_true.mp hnames y hy)
  rw [eval_ListComp]
  refine wpAny_comprehension_free (use := none) rfl hs hclos hkind hnames' (wpAny_mono (h B g os s y) (fun v s1 ⟨m1, H1, y1, q1⟩ => ?_) fun _ _ e => e)
  obtain ⟨n, M, okE, R, D, hO, hz, hok, hD0, q1⟩ := q1
  refine wpAny_mono (hO B g os L m1 s1 y1) (fun it s2 z => ?_) fun _ _ e => e.elim
  obtain ⟨H0, K, gs, G, hR, S, y2, O2, g2⟩ := z
  obtain ⟨I, hI0, hIK, turn, hend⟩ := q1 H0 K hR
  refine comp_enter y2 hcell' hkind fun Dl C s3 nD hD k hg ho hDn hCn hDC hDl hCns => ?_
  have y3 := y2.ext k hg ho
  have O3 : OwnAll B L H0 s3 gs := fun p hp => (O2 p hp).keep (k _ _)
  have OD := y2.own_of hDn hDl
  have gsD : ∀ p ∈ gs, p.1 ≠ Dl := fun p hp q => by have := (O2 p hp).at_; rw [q, hDn] at this; cases this
  have gsC : ∀ p ∈ gs, p.1 ≠ C := fun p hp q => by have := (O2 p hp).at_; rw [q, hCn] at this; cases this
  obtain ⟨oC, _, _, hCo, _⟩ := id hCns
  have OC := y2.own_of hCn hCo
  obtain ⟨B3, r3, back, nB⟩ := y3.call
  have y4 : St prog w hT B3 g os C (fun _ => none) H0 s3 := ⟨r3, hCns, OC.noH, nB C OC.noB OC.neL⟩
  have I4 : OwnAll B3 C H0 s3 gs := fun p hp => ⟨(O3 p hp).at_, (O3 p hp).noH, gsC p hp, nB _ (O3 p hp).noB (O3 p hp).neL⟩
  have D4 : Own B3 C H0 s3 Dl (listOf (#[] : Array Value) nD) := ⟨hDl, OD.noH, hDC, nB _ OD.noB OD.neL⟩
  have step : codeAny (model prog w) A (.compLoop (.ListComp elt [⟨tgt, iter, ifs, 0⟩] scope pos) 0 it (.ref Dl) (compEnvC scope cl C env))
      (compPost (model prog w) A (fun _ _ => False) none (fun v => Af prog w hT B g os L (Q v)) (.ref Dl) C) s3 := by
    refine comp_core S hz (hok C) hIK (turn C) y4 hD0 I4 D4 gsD g2 hI0 fun s6 mc H5 acc nD5 y6 D6 hI => ?_
    refine ⟨mc, y6.ns, fun h2 hs2 => ?_⟩
    have y7 := back _ _ y6.rp
    have y8 := y7.junk (s' := { s6 with heap := h2 }) y6.hL OC.neL OC.noB hs2.extBut rfl rfl
    have D8 : Own B L H5 { s6 with heap := h2 } Dl (listOf acc.toArray nD5) := ⟨hs2.extBut _ _ hDC D6.at_, D6.noH, OD.neL, OD.noB⟩
    exact ⟨m1, _, y8.take (c := .list acc) (t := tmp) D8 ⟨nD5, D8.at_⟩, hend _ _ hI Dl D8.noH⟩
  exact codeAny_compStart_list step (S.self s3 gs _ _ (fun p hp => (O3 p hp).at_) g2 step)

/-- a list is made and told at once: the stores are exchanged -/
theorem t_comp_use {elt iter tgt : Expr} {ifs : List Expr} {scope : Scope} {cl : List (Str × Addr)} {pos pos' px : Pos} {x : Str} {Q : Flow → Loc → LH → Prop} (hsw : swapsWith (.ListComp elt [⟨tgt, iter, ifs, 0⟩] scope pos) (some (.Name x px)) pos'.line env = pure true) (hclos : closureFor scope env = pure cl)
    (hcell : (scope.names.all fun y => decide (y.2 ≠ .cell)) = true) (hkind : scope.kind = .function) (hnames : (scope.names.all fun y => decide (y.2 = .local → scope.names.lookup y.1 = some .local)) = true)
    (h : T prog w hT A L (eval iter env) m H fun v m1 H1 => Ex5 fun n M okE R (D : Loc → Prop) => And5 (Opens prog w hT A v H1 tgt n M okE R) (n ≤ 1000) ((∀ C, okE (compEnvC scope cl C env) C)) (D (fun _ => none : Loc)) (∀ H0 K, R H0 K → ∃ (I : Nat → List Value → LH → Prop), I 0 [] H0 ∧ (∀ i acc H, I i acc H → acc.length ≤ i ∧ K H) ∧
      (∀ C i acc H m0 m', I i acc H → i < n → D m0 → M i m0 m' → T prog w hT A C (tests ifs (compEnvC scope cl C env)) m' H fun ok m2 H2 =>
        (ok = true → T prog w hT A C (eval elt (compEnvC scope cl C env)) m2 H2 fun z m3 H3 => D m3 ∧ I (i + 1) (acc ++ [z]) H3) ∧ (ok = false → D m2 ∧ I (i + 1) acc H2)) ∧
      ∀ acc H, I n acc H → ∀ r, H r = none → T prog w hT A L (storeName env x (.ref r)) m1 (upd H r (tmp, .list acc)) fun _ m2 H2 => Q .next m2 H2))
    (hs : ∀ x, foldedSetIterable iter env x = pure x := by intro _; rfl) :
    T prog w hT A L (exec (.Assign [.Name x px] (.ListComp elt [⟨tgt, iter, ifs, 0⟩] scope pos) pos') env) m H Q := fun B g os s y => by
  have hcell' : ∀ y ∈ scope.names, y.2 ≠ .cell := fun y hy => of_decide_eq_true (List.all_eq_true.mp hcell y hy)
  have hnames' : ∀ y ∈ scope.names, y.2 = .local → scope.names.lookup y.1 = some .local := fun y hy => of_decide_eq_true (List.all_eq_true.mp hnames y hy)
  rw [exec_Assign_Name_used _ _ _ _ hsw]
  refine wpAny_bind (wpAny_standAt (wpAny_bind ?_))
  rw [arm_evalThenUse_ListComp]
  refine wpAny_bind (wpAny_comprehension_free (use := some (assign (.Name x px) env)) rfl hs hclos hkind hnames' (wpAny_mono (h B g os s y) (fun v s1 ⟨m1, H1, y1, q1⟩ => ?_) fun _ _ e => e))
  obtain ⟨n, M, okE, R, D, hO, hz, hok, hD0, q1⟩ := q1
  refine wpAny_mono (hO B g os L m1 s1 y1) (fun it s2 z => ?_) fun _ _ e => e.elim
  obtain ⟨H0, K, gs, G, hR, S, y2, O2, g2⟩ := z
  obtain ⟨I, hI0, hIK, turn, hend⟩ := q1 H0 K hR
  refine comp_enter y2 hcell' hkind fun Dl C s3 nD hD k hg ho hDn hCn hDC hDl hCns => ?_
  have y3 := y2.ext k hg ho
  have O3 : OwnAll B L H0 s3 gs := fun p hp => (O2 p hp).keep (k _ _)
  have OD := y2.own_of hDn hDl
  have gsD : ∀ p ∈ gs, p.1 ≠ Dl := fun p hp q => by have := (O2 p hp).at_; rw [q, hDn] at this; cases this
  have gsC : ∀ p ∈ gs, p.1 ≠ C := fun p hp q => by have := (O2 p hp).at_; rw [q, hCn] at this; cases this
  obtain ⟨oC, _, _, hCo, _⟩ := id hCns
  have OC := y2.own_of hCn hCo
  obtain ⟨B3, r3, back, nB⟩ := y3.call
  have y4 : St prog w hT B3 g os C (fun _ => none) H0 s3 := ⟨r3, hCns, OC.noH, nB C OC.noB OC.neL⟩
  have I4 : OwnAll B3 C H0 s3 gs := fun p hp => ⟨(O3 p hp).at_, (O3 p hp).noH, gsC p hp, nB _ (O3 p hp).noB (O3 p hp).neL⟩
  have D4 : Own B3 C H0 s3 Dl (listOf (#[] : Array Value) nD) := ⟨hDl, OD.noH, hDC, nB _ OD.noB OD.neL⟩
  refine codeAny_compStart_list ?_ (S.self s3 gs _ _ (fun p hp => (O3 p hp).at_) g2 ?_) <;>
  · refine comp_core S hz (hok C) hIK (turn C) y4 hD0 I4 D4 gsD g2 hI0 fun s6 mc H5 acc nD5 y6 D6 hI => ?_
    have y7 := back _ _ y6.rp
    obtain ⟨oC6, es6, ep6, hC6, r6⟩ := id y6.ns
    have OC6 : Own B L H5 s6 C oC6 := ⟨hC6, y6.hL, OC.neL, OC.noB⟩
    have D7 : Own B L H5 s6 Dl (listOf acc.toArray nD5) := ⟨D6.at_, D6.noH, OD.neL, OD.noB⟩
    have y8 := y7.take (c := .list acc) (t := tmp) D7 ⟨nD5, D7.at_⟩
    have OC8 : Own B L (upd H5 Dl (tmp, .list acc)) s6 C oC6 := ⟨hC6, by rw [upd_ne _ _ hDC.symm]; exact OC6.noH, OC.neL, OC.noB⟩
    obtain ⟨y9, back9⟩ := y8.own_guards2 (G := fun a o => a = C ∧ o = oC6) (by rintro a o ⟨rfl, rfl⟩; exact OC8)
    refine wpAny_bind (wpAny_standAt (wpAny_bindName (wpAny_mono (hend acc H5 hI Dl D7.noH _ g os s6 y9) (fun _ s10 ⟨m10, H10, y10, q10⟩ => ?_) fun _ _ e => e)))
    obtain ⟨y11, o11⟩ := back9 _ _ _ y10
    have OC11 := o11 C oC6 ⟨rfl, rfl⟩
    refine ⟨mc, ⟨oC6, es6, ep6, OC11.at_, r6⟩, fun h2 hs2 => wpAny_pure (wpAny_pure ⟨m10, H10, ?_, q10⟩)⟩
    exact y11.junk (s' := { s10 with heap := h2 }) OC11.noH OC11.neL OC11.noB hs2.extBut rfl rfl
end

/-! part F15 -/
section
variable {prog : Program} {w : World} {hT : Heap} {K : Frag} {α : Type} {A : Around} {L : Addr} {m : Loc} {H : LH} {env : Env} {B : Addr → Obj → Prop} {g : Array GenState} {os : OsState} {s : Shared}

theorem self_tupiter {it t : Addr} {i : Nat} {Q : Value → Shared → Prop} {E : Value → Shared → Prop} (hit : s.heap.IsTupleIter it t i) (h : Q (.ref it) s) : wpAny (model prog w) A (pyIter (.ref it)) Q E s := by
  have hT := hit.typeIs
  refine wpAny_pyIter_slot hT PySem.F.slot_tuple_iterator_iter (wpAny_call_entry PySem.F.slot_tuple_iterator_iter hT PySem.F.entry_tuple_iterator_iter ?_ (PySem.F.args_tuple_iterator_iter_1 _))
  show wpAny _ _ (ret (.ref it)) _ _ s
  exact wpAny_pure ⟨_, rfl, "tuple_iterator", _, hT, PySem.F.slot_tuple_iterator_next.lookup, h⟩
theorem self_keyiter {it d : Addr} {i n ep : Nat} {Q : Value → Shared → Prop} {E : Value → Shared → Prop} (hit : s.heap.IsKeyIter it d i n ep) (h : Q (.ref it) s) : wpAny (model prog w) A (pyIter (.ref it)) Q E s := by
  have hT := hit.typeIs
  refine wpAny_pyIter_slot hT PySem.F.slot_dict_keyiterator_iter (wpAny_call_entry PySem.F.slot_dict_keyiterator_iter hT PySem.F.entry_dict_keyiterator_iter ?_ (PySem.F.args_dict_keyiterator_iter_1 _))
  show wpAny _ _ (ret (.ref it)) _ _ s
  exact wpAny_pure ⟨_, rfl, "dict_keyiterator", _, hT, PySem.F.slot_dict_keyiterator_next.lookup, h⟩

/-- names that a frame may store -/
noncomputable def okName (x : Str) (env : Env) (C : Addr) : Prop := env.locals = C ∧ env.kindOf x = some .local ∧ (env.scope.kind == .class || (env.scope.kind == .module && env.locals != env.globals)) = false
theorem okName_of {ns : List Str} {gs : List (Str × Value)} {fs : List (Str × Addr)} {x : Str} (F : FnE hT env L ns gs fs) (hx : x ∈ ns) : okName x env L := ⟨F.locals, F.loc x hx, by rw [F.kind]; rfl⟩
theorem St.keeps (y : St prog w hT B g os L m H s) {gs : List (Addr × Obj)} (O : OwnAll B L H s gs) {s' : Shared} (k : ∀ b o, b ∉ gs.map (·.1) → s.heap.get? b = some o → s'.heap.get? b = some o) (hg : s'.gens = s.gens) (ho : s'.os = s.os) : St prog w hT B g os L m H s' := by
  have key : ∀ b, (∃ p ∈ gs, p.1 = b) ∨ b ∉ gs.map (·.1) := fun b => by
    by_cases h : b ∈ gs.map (·.1)
    · obtain ⟨p, hp, e⟩ := List.mem_map.mp h; exact .inl ⟨p, hp, e⟩
    · exact .inr h
  refine ⟨⟨fun b t c e => (y.rp.rep b t c e).keep fun o z => ?_, y.rp.top, fun b o e => ?_, y.rp.dis, hg.trans y.rp.gens, ho.trans y.rp.os⟩, ?_, y.hL, y.disL⟩
  · rcases key b with ⟨p, hp, rfl⟩ | q
    · rw [(O p hp).noH] at e; cases e
    · exact k b o q z
  · rcases key b with ⟨p, hp, rfl⟩ | q
    · exact absurd e ((O p hp).noB o)
    · exact k b o q (y.rp.keep b o e)
  · refine y.ns.at' fun o e => ?_
    rcases key L with ⟨p, hp, q⟩ | q
    · exact absurd q (O p hp).neL
    · exact k _ o q e
theorem Own.at' {a : Addr} {o o' : Obj} (O : Own B L H s a o) {s' : Shared} (h : s'.heap.get? a = some o') : Own B L H s' a o' := ⟨h, O.noH, O.neL, O.noB⟩
theorem St.drop (y : St prog w hT B g os L m H s) {H0 : LH} (k : ∀ a x, H0 a = some x → H a = some x) : St prog w hT B g os L m H0 s := by
  refine ⟨⟨fun a t c e => y.rp.rep a t c (k _ _ e), y.rp.top, y.rp.keep, fun a x o e => y.rp.dis a x o (k _ _ e), y.rp.gens, y.rp.os⟩, y.ns, ?_, y.disL⟩
  cases e : H0 L with
  | none => rfl
  | some x => have := k _ _ e; rw [y.hL] at this; cases this
theorem St.own (y : St prog w hT B g os L m H s) {H0 : LH} {a : Addr} {t : Tag} {o : Obj} (h : H a = some (t, .obj o)) (h0 : H0 a = none) : Own B L H0 s a o :=
  ⟨y.rp.rep _ _ _ h, h0, (fun q => by rw [q, y.hL] at h; cases h), fun o' => y.rp.dis _ _ o' h⟩

/-! a tuple -/
theorem as_name {x : Str} {p : Pos} {v : Value} {C : Addr} {Q : Unit → Shared → Prop} {E : Value → Shared → Prop} (hk : okName x env C) (y : St prog w hT B g os C m H s) (h : ∀ s', St prog w hT B g os C (set m x v) H s' → Heap.SameBut C s.heap s'.heap → Q () s') :
    wpAny (model prog w) A (assign (.Name x p) env v) Q E s := by
  obtain ⟨rfl, k, c⟩ := hk
  refine wpAny_bind (wpAny_standAt (wpAny_bindName (wpAny_storeName_local k y.ns (fun h' hn hs => h _ ?_ hs) c)))
  exact y.local hn hs.extBut rfl rfl
/-- an iterator that is one object of its own -/
theorem opens_one {v : Value} {n : Nat} {x : Str} {px : Pos} {M : Nat → Loc → Loc → Prop} {R : LH → (LH → Prop) → Prop} (V : Nat → Value → Prop) (hM : ∀ i m v, V i v → M i m (set m x v))
    (h : ∀ B g os L m s, St prog w hT B g os L m H s → ∃ (H0 : LH) (K : LH → Prop) (o0 : Obj) (IO : Nat → Obj → Prop), R H0 K ∧ St prog w hT B g os L m H0 s ∧ IO 0 o0 ∧
      (∀ Q, Q (.ref s.heap.objs.size) { s with heap := s.heap.push o0 } → wpAny (model prog w) A (pyIter v) Q (fun _ _ => False) s) ∧ o0.isFreed = false ∧
      (∀ s' o Q (E : Value → Shared → Prop), IO 0 o → s'.heap.get? s.heap.objs.size = some o → Q (.ref s.heap.objs.size) s' → wpAny (model prog w) A (pyIter (.ref s.heap.objs.size)) Q E s') ∧
      ∀ B' g' os' L' m' H' s' i o Q, St prog w hT B' g' os' L' m' H' s' → K H' → IO i o → s'.heap.get? s.heap.objs.size = some o → i ≤ n →
        (i < n → ∀ v h' o' tk, V i v → IO (i + 1) o' → h'.get? s.heap.objs.size = some o' → Heap.ExtBut s.heap.objs.size s'.heap h' → Q (some v) { s' with heap := h', toks := tk }) →
        (i = n → ∀ h', Heap.ExtBut s.heap.objs.size s'.heap h' → Q none { s' with heap := h' }) → wpAny (model prog w) A (pyNext (.ref s.heap.objs.size)) Q (fun _ _ => False) s') :
    Opens prog w hT A v H (.Name x px) n M (okName x) R := fun B g os L m s y => by
  obtain ⟨H0, K, o0, IO, hR, y1, i0, hit, hfr, self, next⟩ := h B g os L m s y
  refine hit _ ?_
  obtain ⟨f1, f2, f3⟩ := y1.own_new
  have y2 : St prog w hT B g os L m H0 { s with heap := s.heap.push o0 } := y1.ext (fun b o e => Heap.get?_push_of_some _ e) rfl rfl
  refine ⟨H0, K, [(s.heap.objs.size, o0)], fun i gs => ∃ o, gs = [(s.heap.objs.size, o)] ∧ IO i o, hR, ⟨fun s' gs Q E h g0 q => ?_, fun env C B' g' os' m' H' s' i gs hk y' O g0 hi hK => ?_⟩, y2, fun p hp => ?_, _, rfl, i0⟩
  · obtain ⟨o, rfl, e1⟩ := g0
    exact self _ o _ _ e1 (h _ List.mem_cons_self) q
  · obtain ⟨o, rfl, e1⟩ := g0
    have Oi := O _ List.mem_cons_self
    refine next _ _ _ _ _ _ _ i o _ y' hK e1 Oi.at_ hi (fun hlt v h' o' tk hV io ho' hx => ?_) fun e h' hx => ⟨e, y'.junk (s' := { s' with heap := h' }) Oi.noH Oi.neL Oi.noB hx rfl rfl⟩
    obtain ⟨y3, O3⟩ := y'.own_step (s' := { s' with heap := h', toks := tk }) Oi hx ho' rfl rfl
    refine wpAny_pure (as_name hk y3 fun s3 y4 hs3 => ⟨hlt, _, [(s.heap.objs.size, o')], hM _ _ _ hV, y4, fun p hp => ?_, rfl, o', rfl, io⟩)
    rw [List.mem_singleton] at hp; subst hp
    exact O3.at' (hs3.extBut _ _ O3.neL ho')
  · rw [List.mem_singleton] at hp; subst hp
    exact ⟨Heap.get?_push_size _ hfr, f1, f2, f3⟩
theorem opens_tuple {t : Addr} {tg : Tag} {vs : List Value} {x : Str} {px : Pos} (hA : A.handled = none) (ht : H t = some (tg, .obj (tupObj vs))) :
    Opens prog w hT A (.ref t) H (.Name x px) vs.length (fun i m m' => ∃ v, vs[i]? = some v ∧ m' = set m x v) (okName x) fun H0 K => H0 = H ∧ K = fun H' => H' t = some (tg, .obj (tupObj vs)) :=
  opens_one (fun i v => vs[i]? = some v) (fun i m v e => ⟨v, e, rfl⟩) fun B g os L m s y => by
    have ist : ∀ {s : Shared} {B : Addr → Obj → Prop} {g os L m H'}, St prog w hT B g os L m H' s → H' t = some (tg, .obj (tupObj vs)) → s.heap.IsTuple t vs.toArray := fun y h => ⟨_, y.rp.rep _ _ _ h, rfl, 0, rfl⟩
    refine ⟨H, _, { cls := .type "tuple_iterator", data := .fields #[.ref t, .int 0 0] }, fun i o => o.cls = .type "tuple_iterator" ∧ o.data = .fields #[.ref t, .int i 0], ⟨rfl, rfl⟩, y, ⟨rfl, rfl⟩, fun Q q => wpAny_pyIter_tuple (ist y ht) q, rfl,
      fun s' o Q E io e q => self_tupiter (i := 0) ⟨o, e, io⟩ q, fun B' g' os' L' m' H' s' i o Q y' hK io e hi q1 q2 => ?_⟩
    by_cases hlt : i < vs.length
    · exact wpAny_pyNext_tuple_item ⟨o, e, io⟩ (ist y' hK) (x := vs[i]) (by simp [hlt]) fun h' ⟨o', ho', r⟩ hs' => q1 hlt _ _ o' _ (List.getElem?_eq_getElem hlt) r ho' hs'.extBut
    · have hi' : i = vs.length := Nat.le_antisymm hi (Nat.not_lt.mp hlt)
      exact wpAny_pyNext_tuple_end hA ⟨o, e, io⟩ (ist y' hK) (by simp [hi']) fun h' hx => q2 hi' h' hx
theorem self_listiter {it l : Addr} {i : Nat} {Q : Value → Shared → Prop} {E : Value → Shared → Prop} (hit : s.heap.IsListIter it l i) (h : Q (.ref it) s) : wpAny (model prog w) A (pyIter (.ref it)) Q E s := wpAny_pyIter_listiter hit h
theorem opens_list {l : Addr} {vs : List Value} {x : Str} {px : Pos} (hA : A.handled = none) (hl : ∃ t, H l = some (t, .list vs)) :
    Opens prog w hT A (.ref l) H (.Name x px) vs.length (fun i m m' => ∃ v, vs[i]? = some v ∧ m' = set m x v) (okName x) fun H0 K => H0 = H ∧ K = fun H' => ∃ t, H' l = some (t, .list vs) :=
  opens_one (fun i v => vs[i]? = some v) (fun i m v e => ⟨v, e, rfl⟩) fun B g os L m s y => by
    have isl : ∀ {s : Shared} {B : Addr → Obj → Prop} {g os L m H'}, St prog w hT B g os L m H' s → (∃ t, H' l = some (t, .list vs)) → s.heap.IsList l vs.toArray := fun y ⟨_, h⟩ => let ⟨_, e⟩ := list_at y.rp h; list_is e
    refine ⟨H, _, { cls := .type "list_iterator", data := .fields #[.ref l, .int 0 0] }, fun i o => o.cls = .type "list_iterator" ∧ o.data = .fields #[.ref l, .int i 0], ⟨rfl, rfl⟩, y, ⟨rfl, rfl⟩, fun Q q => wpAny_pyIter_list (isl y hl) q, rfl,
      fun s' o Q E io e q => self_listiter (i := 0) ⟨o, e, io⟩ q, fun B' g' os' L' m' H' s' i o Q y' hK io e hi q1 q2 => ?_⟩
    by_cases hlt : i < vs.length
    · exact wpAny_pyNext_list_item ⟨o, e, io⟩ (isl y' hK) (x := vs[i]) (by simp [hlt]) fun h' ⟨o', ho', r⟩ hs' => q1 hlt _ _ o' _ (List.getElem?_eq_getElem hlt) r ho' hs'.extBut
    · have hi' : i = vs.length := Nat.le_antisymm hi (Nat.not_lt.mp hlt)
      exact wpAny_pyNext_list_end hA ⟨o, e, io⟩ (isl y' hK) (by simp [hi']) fun h' hx => q2 hi' h' hx
theorem opens_range {l : Addr} {n : Nat} {t : Tag} {u1 u2 u3 : Tok} {x : Str} {px : Pos} (hA : A.handled = none) (hz : n ≤ 1000) (hl : H l = some (t, .obj (rangeObj n u1 u2 u3))) :
    Opens prog w hT A (.ref l) H (.Name x px) n (fun i m m' => ∃ v, (∃ u, v = .int (i : Int) u) ∧ m' = set m x v) (okName x) fun H0 K => H0 = H ∧ K = fun _ => True :=
  opens_one (fun i v => ∃ u, v = .int (i : Int) u) (fun i m v e => ⟨v, e, rfl⟩) fun B g os L m s y => by
    refine ⟨H, _, rangeIt 0 n, fun i o => o = rangeIt i (n - i), ⟨rfl, rfl⟩, y, rangeIt0, fun Q q => wpAny_pyIter_range (y.rp.rep _ _ _ hl) (small_n hz) (by rw [size_n]; exact q), rfl,
      fun s' o Q E io e q => wpAny_pyIter_rangeiter (io ▸ e) q, fun B' g' os' L' m' H' s' i o Q y' hK io e hi q1 q2 => ?_⟩
    subst io
    by_cases hlt : i < n
    · exact wpAny_pyNext_range_item e (by lia) fun h' it' hs' => q1 hlt _ _ _ _ ⟨_, rfl⟩ rangeIt_next it' hs'.extBut
    · have hi' : i = n := Nat.le_antisymm hi (Nat.not_lt.mp hlt)
      exact wpAny_pyNext_range_end hA e (by lia) fun h' hx => q2 hi' h' hx

/-! the keys of a dict -/
theorem opens_keys {d : Addr} {tg : Tag} {kvs : List (Int × Value)} {x : Str} {px : Pos} (hA : A.handled = none) (hd : H d = some (tg, .idict kvs)) :
    Opens prog w hT A (.ref d) H (.Name x px) kvs.length (fun i m m' => Ex3 fun k v u => kvs[i]? = some (k, v) ∧ m' = set m x (.int k u)) (okName x) fun H0 K => ∃ o, And3 (H0 = upd H d (tg, .obj o)) ((K = fun H' => H' d = some (tg, .obj o))) (∀ B' g' os' L' m' s', St prog w hT B' g' os' L' m' H0 s' → CellAt prog w s'.heap d (.idict kvs)) :=
  opens_one (fun i z => Ex3 fun k v u => kvs[i]? = some (k, v) ∧ z = .int k u) (fun i m z ⟨k, v, u, e, q⟩ => ⟨k, v, u, e, by rw [q]⟩) fun B g os L m s y => by
    obtain ⟨hd1, hd2⟩ := idict_at y.rp hd
    obtain ⟨ep, hat⟩ := hd2.dictAt
    obtain ⟨od, es, hod, hcd, hdd, hks, hps, hnn⟩ := id hat
    have at_ : ∀ {h' : Heap}, h'.get? d = some od → h'.DictAt (intKind prog w) d kvs ep := fun e => ⟨od, es, e, hcd, hdd, hks, hps, hnn⟩
    refine ⟨upd H d (tg, .obj od), _, { cls := .type "dict_keyiterator", data := .fields #[.ref d, .int 0 0, .int kvs.length 0, .int ep 0] }, fun i o => o.cls = .type "dict_keyiterator" ∧ o.data = .fields #[.ref d, .int i 0, .int kvs.length 0, .int ep 0],
      ⟨od, rfl, rfl, fun B' g' os' L' m' s' y' => ⟨hd1, (at_ (y'.rp.rep _ _ _ (upd_self _ _ _))).dictOf⟩⟩, y.upd (s' := s) (c := .obj od) hd (Heap.ExtBut.refl _ _) hod rfl rfl, ⟨rfl, rfl⟩, fun Q q => wpAny_pyIter_dict hd1 hat q, rfl,
      fun s' o Q E io e q => self_keyiter (i := 0) ⟨o, e, io⟩ q, fun B' g' os' L' m' H' s' i o Q y' hK io e hi q1 q2 => ?_⟩
    by_cases hlt : i < kvs.length
    · refine wpAny_pyNext_dict_item (k := kvs[i].1) (v := kvs[i].2) ⟨o, e, io⟩ (at_ (y'.rp.rep _ _ _ hK)) (List.getElem?_eq_getElem hlt) fun key h' hkey ⟨o', ho', r⟩ hs' => ?_
      obtain ⟨u, rfl⟩ : ∃ t, key = .int kvs[i].1 t := by
        unfold intKind at hkey
        cases key <;> simp [Value.isInt] at hkey
        exact ⟨_, by rw [hkey]⟩
      exact q1 hlt _ _ o' _ ⟨_, _, u, List.getElem?_eq_getElem hlt, rfl⟩ r ho' hs'.extBut
    · have hi' : i = kvs.length := Nat.le_antisymm hi (Nat.not_lt.mp hlt)
      exact wpAny_pyNext_dict_end hA ⟨o, e, io⟩ (at_ (y'.rp.rep _ _ _ hK)) (by simp [hi']) fun h' hx => q2 hi' h' hx

/-! enumerate -/
noncomputable abbrev enumObj (it : Addr) (i : Int) (old : Value) : Obj := { cls := .type "enumerate", dict := none, data := .fields #[.none, .bool false, .ref it, rawInt i, .none, old], slots := #[] }
noncomputable def IterO (o : Obj) (l : Addr) (i : Nat) : Prop := o.cls = .type "list_iterator" ∧ o.data = .fields #[.ref l, .int i 0]
theorem t_enumerate {l : Addr} {t : Tag} {vs : List Value} {Q : Value → Loc → LH → Prop} (hl : H l = some (t, .list vs))
    (h : ∀ e it o, H e = none → H it = none → e ≠ it → IterO o l 0 → Q (.ref e) m (upd (upd H it (tmp, .obj o)) e (tmp, .obj (enumObj it 0 .none)))) : T prog w hT A L (call (.type "enumerate") [.ref l]) m H Q := fun B g os s y => by
  obtain ⟨n, e⟩ := list_at y.rp hl
  refine call_enumerate_list (list_is e) fun h' he hit hsz hk => ?_
  obtain ⟨o, ho, o1, o2⟩ := hit
  have f1 : s.heap.get? s.heap.objs.size = none := get?_size _
  have f2 : s.heap.get? (s.heap.objs.size + 1) = none := by
    cases q : s.heap.get? (s.heap.objs.size + 1) with
    | none => rfl
    | some x => exact absurd (Heap.lt_size q) (Nat.not_lt.mpr (Nat.le_succ _))
  have y1 := y.new (s' := { s with heap := h' }) (a := s.heap.objs.size) (t := tmp) (c := .obj o) f1 hk ho rfl rfl
  have ne : s.heap.objs.size + 1 ≠ s.heap.objs.size := Nat.succ_ne_self _
  have fL := y.rp.fresh f2
  have y2 : St prog w hT B g os L m (upd (upd H s.heap.objs.size (tmp, .obj o)) (s.heap.objs.size + 1) (tmp, .obj (enumObj s.heap.objs.size 0 .none))) { s with heap := h' } := by
    refine ⟨y1.rp.upd fL.2 (fun b o _ e => e) he rfl rfl, y1.ns, ?_, y1.disL⟩
    have : L ≠ s.heap.objs.size + 1 := fun q => by
      have := y.ns.lt; rw [q] at this; exact Nat.lt_irrefl _ (Nat.lt_of_succ_lt this)
    rw [upd_ne _ _ this]; exact y1.hL
  exact ⟨m, _, y2, h _ _ o fL.1 (y.rp.fresh f1).1 ne ⟨o1, o2⟩⟩
theorem opens_enum {l e it : Addr} {t : Tag} {vs : List Value} {o : Obj} {a x : Str} {pa px pt : Pos} {kk : Nat} (hA : A.handled = none) (hl : H l = some (t, .list vs)) (he : H e = none) (hi : H it = none) (hne : e ≠ it) (ho : IterO o l 0) :
    Opens prog w hT A (.ref e) (upd (upd H it (tmp, .obj o)) e (tmp, .obj (enumObj it 0 .none))) (.Tuple [.Name a pa, .Name x px] kk pt) vs.length (fun i m m' => Ex2 fun v u => vs[i]? = some v ∧ m' = set (set m a (.int (i : Int) u)) x v) (fun env C => okName a env C ∧ okName x env C)
      fun H0 K => H0 = H ∧ K = fun H' => ∃ t, H' l = some (t, .list vs) := fun B g os L m s y => by
  have hle : l ≠ e := fun q => by rw [q, he] at hl; cases hl
  have hli : l ≠ it := fun q => by rw [q, hi] at hl; cases hl
  have hee := y.rp.rep _ _ _ (upd_self (upd H it (tmp, Cell.obj o)) e (tmp, Cell.obj (enumObj it 0 .none)))
  have hHi : upd (upd H it (tmp, Cell.obj o)) e (tmp, Cell.obj (enumObj it 0 .none)) it = some (tmp, .obj o) := by rw [upd_ne _ _ hne.symm, upd_self]
  refine wpAny_pyIter_enum hee ?_
  have k : ∀ b z, H b = some z → upd (upd H it (tmp, Cell.obj o)) e (tmp, Cell.obj (enumObj it 0 .none)) b = some z := fun b z q => by
    have n1 : b ≠ e := fun r => by rw [r, he] at q; cases q
    have n2 : b ≠ it := fun r => by rw [r, hi] at q; cases q
    rw [upd_ne _ _ n1, upd_ne _ _ n2]; exact q
  have y1 := y.drop k
  have O1 : Own B L H s e (enumObj it 0 .none) := y.own (upd_self _ _ _) he
  have O2 : Own B L H s it o := y.own hHi hi
  refine ⟨H, _, [(e, enumObj it 0 .none), (it, o)], fun i gs => Ex2 fun old o => gs = [(e, enumObj it (i : Int) old), (it, o)] ∧ IterO o l i, ⟨rfl, rfl⟩, ⟨fun s' gs Q E h g0 q => ?_, fun env C B' g' os' m' H' s' i gs hk y' O g0 hin hK => ?_⟩, y1, fun p hp => ?_, .none, o, rfl, ho⟩
  · obtain ⟨old, o', rfl, -⟩ := g0
    exact wpAny_pyIter_enum (h _ List.mem_cons_self) q
  · obtain ⟨old, o', rfl, io⟩ := g0
    have Oe := O _ List.mem_cons_self
    have Oi := O _ (List.mem_cons_of_mem _ List.mem_cons_self)
    obtain ⟨tl, hK⟩ := hK
    obtain ⟨nl, e2⟩ := list_at y'.rp hK
    have hit : s'.heap.IsListIter it l i := ⟨o', Oi.at_, io.1, io.2⟩
    by_cases hlt : i < vs.length
    · refine wpAny_pyNext_enum_item Oe.at_ hit (list_is e2) (x := vs[i]) (by simp [hlt]) hne fun h1 he1 hit1 ht1 hz1 hk1 => ?_
      refine wpAny_letOwnedTupleGo_enum he1 fun h2 he2 hs2 => ?_
      obtain ⟨⟨ka1, ka2, ka3⟩, kx1, kx2, kx3⟩ := hk
      subst ka1
      have heS := Heap.lt_size Oe.at_
      have ne_e : s'.heap.objs.size ≠ e := Nat.ne_of_gt heS
      have ht2 : h2.IsTuple s'.heap.objs.size #[.int (i : Int) s'.toks, vs[i]] := ⟨_, hs2.extBut _ _ ne_e ht1, rfl, 0, rfl⟩
      have y2 : St prog w hT B' g' os' env.locals m' H' { s' with heap := h2, toks := s'.toks + 1 } := y'.keeps O (fun b o hb q => by
        simp only [List.map_cons, List.map_nil, List.mem_cons, List.not_mem_nil, or_false, not_or] at hb
        exact hs2.extBut _ _ hb.1 (hk1 b o hb.1 hb.2 q)) rfl rfl
      refine kcp_assign (s := { s' with heap := h2, toks := s'.toks + 1 }) hA ht2 ka2 kx2 ka3 y2.ns fun h3 tk3 hn3 hk3 => ?_
      have y3 : St prog w hT B' g' os' env.locals (set (set m' a (.int (i : Int) s'.toks)) x vs[i]) H' { s' with heap := h3, toks := tk3 } := y2.local (s' := { s' with heap := h3, toks := tk3 }) hn3 (fun b o hb q => hk3 b o hb q) rfl rfl
      obtain ⟨o2, ho2, i1, i2⟩ := hit1
      refine ⟨hlt, _, [(e, enumObj it ((i + 1 : Nat) : Int) vs[i]), (it, o2)], ⟨vs[i], s'.toks, List.getElem?_eq_getElem hlt, rfl⟩, y3, fun p hp => ?_, rfl, vs[i], o2, rfl, ⟨i1, i2⟩⟩
      rcases List.mem_cons.mp hp with rfl | hp
      · refine Oe.at' (hk3 _ _ Oe.neL ?_)
        have : ((i + 1 : Nat) : Int) = (i : Int) + 1 := by push_cast; rfl
        rw [this]; exact he2
      · rw [List.mem_singleton] at hp; subst hp
        exact Oi.at' (hk3 _ _ Oi.neL (hs2.extBut _ _ hne.symm ho2))
    · have : i = vs.length := by omega
      subst this
      refine wpAny_pyNext_enum_end hA Oe.at_ hit (list_is e2) (by simp) fun h' hx => ⟨rfl, ?_⟩
      exact y'.junk (s' := { s' with heap := h' }) Oi.noH Oi.neL Oi.noB hx rfl rfl
  · rcases List.mem_cons.mp hp with rfl | hp
    · exact O1
    · rw [List.mem_singleton] at hp; subst hp
      exact O2
end

/-! part F12 -/
section
variable {prog : Program} {w : World} {hT : Heap} {K : Frag} {α : Type} {A : Around} {L : Addr} {m : Loc} {H : LH} {env : Env}
noncomputable def compOk (K : Frag) (scope : Scope) (x : Str) (gs : List (Str × Value)) (fs : List Str) : Bool :=
  kindsOk K scope [x] gs && cellsOk scope fs && (scope.names.all fun y => decide (y.2 ≠ .cell)) && (scope.names.all fun y => decide (y.2 = .local → scope.names.lookup y.1 = some .local))
theorem t_for_list {x : Str} {tp : Pos} {iter : Expr} {body : List Stmt} {pos : Pos} {ns : List Str} {gs0 : List (Str × Value)} {fs0 : List (Str × Addr)} {Q : Flow → Loc → LH → Prop} (F : FnE hT env L ns gs0 fs0) (hx : x ∈ ns) (hA : A.handled = none)
    (h : T prog w hT A L (eval iter env) m H fun v m1 H1 => Ex3 fun (l : Addr) (vs : List Value) (I : Nat → Loc → LH → Prop) => And5 (v = .ref l) (I 0 m1 H1) ((∀ i m H, I i m H → ∃ t, H l = some (t, .list vs))) ((∀ (J : Loc → LH → Prop) i, (∀ m H, I (i + 1) m H → J m H) → ∀ m H v, I i m H → vs[i]? = some v → T prog w hT A L (execs body env) (set m x v) H (loopQ J Q))) (∀ m H, I vs.length m H → Q .next m H))
    (hs : ∀ x, foldedSetIterable iter env x = pure x := by intro _; rfl) :
    T prog w hT A L (exec (.For (.Name x tp) iter body [] pos) env) m H Q := by
  refine t_for_src (t_mono h ?_) hs
  rintro v m1 H1 ⟨l, vs, I, rfl, h0, hl, turn, hend⟩
  refine ⟨vs.length, _, _, _, opens_list hA (hl 0 _ _ h0), okName_of F hx, ?_⟩
  rintro H0 K ⟨rfl, rfl⟩
  exact ⟨I, h0, hl, fun J i hJ m0 m' H q hi ⟨v, hv, e⟩ => by rw [e]; exact turn J i hJ m0 H v q hv, hend⟩
theorem t_for_range {x : Str} {tp : Pos} {iter : Expr} {body : List Stmt} {pos : Pos} {ns : List Str} {gs0 : List (Str × Value)} {fs0 : List (Str × Addr)} {Q : Flow → Loc → LH → Prop} (F : FnE hT env L ns gs0 fs0) (hx : x ∈ ns) (hA : A.handled = none)
    (h : T prog w hT A L (eval iter env) m H fun v m1 H1 => Ex7 fun (l : Addr) (n : Nat) (t0 : Tag) (u1 u2 u3 : Tok) (I : Nat → Loc → LH → Prop) => And6 (v = .ref l) (n ≤ 1000) (H1 l = some (t0, .obj (rangeObj n u1 u2 u3))) (I 0 m1 H1) ((∀ (J : Loc → LH → Prop) i, (∀ m H, I (i + 1) m H → J m H) → ∀ m H u, I i m H → i < n → T prog w hT A L (execs body env) (set m x (.int (i : Int) u)) H (loopQ J Q))) (∀ m H, I n m H → Q .next m H))
    (hs : ∀ x, foldedSetIterable iter env x = pure x := by intro _; rfl) :
    T prog w hT A L (exec (.For (.Name x tp) iter body [] pos) env) m H Q := by
  refine t_for_src (t_mono h ?_) hs
  rintro v m1 H1 ⟨l, n, t0, u1, u2, u3, I, rfl, hz, hr, h0, turn, hend⟩
  refine ⟨n, _, _, _, opens_range hA hz hr, okName_of F hx, ?_⟩
  rintro H0 K ⟨rfl, rfl⟩
  exact ⟨I, h0, fun _ _ _ _ => trivial, fun J i hJ m0 m' H q hi ⟨v, ⟨u, hv⟩, e⟩ => by rw [e, hv]; exact turn J i hJ m0 H u q hi, hend⟩
theorem t_stored {α : Type} {t : Sem α} {x : Str} {v : Value} {ns : List Str} {gs : List (Str × Value)} {fs : List (Str × Addr)} {vs vs' : List (Option Value)} {Q : α → Loc → LH → Prop} (F : FnE hT env L ns gs fs) (hp : Put ns vs x (some v) vs') (h : T prog w hT A L t (lk ns vs') H Q) : T prog w hT A L t (set (lk ns vs) x v) H Q := by
  rw [show set (lk ns vs) x v = lk ns vs' from (hp.eq F.nd).symm]; exact h
theorem set_one {m : Loc} {x : Str} {v : Value} (h : ∀ y, y ≠ x → m y = none) : set m x v = lk [x] [some v] := by
  funext y
  show (if y = x then some v else m y) = if y = x then some v else none
  split
  · rfl
  · rename_i q; exact h y q
theorem lk_off {x : Str} {v : Value} : ∀ y, y ≠ x → lk [x] [some v] y = none := fun _ q => if_neg q
theorem compOk_of {scope : Scope} {x : Str} {gs : List (Str × Value)} {fs : List Str} (hok : compOk K scope x gs fs = true) : kindsOk K scope [x] gs = true ∧ cellsOk scope fs = true ∧ (scope.names.all fun y => decide (y.2 ≠ .cell)) = true ∧ (scope.names.all fun y => decide (y.2 = .local → scope.names.lookup y.1 = some .local)) = true ∧ scope.kind = .function ∧ scope.names.lookup x = some .local := by
  unfold compOk at hok
  simp only [Bool.and_eq_true] at hok
  obtain ⟨⟨⟨h1, h2⟩, h3⟩, h4⟩ := hok
  have h1' := h1
  unfold kindsOk at h1'
  simp only [Bool.and_eq_true, decide_eq_true_eq, List.all_eq_true] at h1'
  exact ⟨h1, h2, h3, h4, h1'.1.1.1.1.1, h1'.1.1.1.2 x List.mem_cons_self⟩
theorem okName_comp {scope : Scope} {x : Str} {cl : List (Str × Addr)} {C : Addr} (h1 : scope.kind = .function) (h2 : scope.names.lookup x = some .local) : okName x (compEnvC scope cl C env) C := ⟨rfl, lookup_relabel_local h2, by show (scope.kind == .class || (scope.kind == .module && _)) = false; rw [h1]; rfl⟩
theorem t_compListF {elt iter : Expr} {x : Str} {px : Pos} {scope : Scope} {cl : List (Str × Addr)} {pos : Pos} {ns : List Str} {gs0 : List (Str × Value)} {fs0 : List (Str × Addr)} {Q : Value → Loc → LH → Prop} (P : Tp K hT) (F : FnE hT env L ns gs0 fs0) (hA : A.handled = none) (gs : List (Str × Value)) (fs : List (Str × Addr)) (hclos : closureFor scope env = pure cl)
    (hok : compOk K scope x gs (fs.map (·.1)) = true) (hf : ∀ p ∈ fs, cl.lookup p.1 = some p.2)
    (h : T prog w hT A L (eval iter env) m H fun v m1 H1 => Ex3 fun (l : Addr) (vs : List Value) (I : Nat → List Value → LH → Prop) => And6 (v = .ref l) (vs.length ≤ 1000) (I 0 [] H1) ((∀ i acc H, I i acc H → acc.length = i ∧ ∃ t, H l = some (t, .list vs))) ((∀ (J : Value → LH → Prop) C env' i acc, (∀ z H, I (i + 1) (acc ++ [z]) H → J z H) → ∀ H v, FnE hT env' C [x] gs fs → I i acc H → vs[i]? = some v → T prog w hT A C (eval elt env') (lk [x] [some v]) H fun z m2 H2 => m2 = lk [x] [some v] ∧ J z H2)) (∀ acc H, I vs.length acc H → ∀ r, H r = none → Q (.ref r) m1 (upd H r (tmp, .list acc))))
    (hs : ∀ x, foldedSetIterable iter env x = pure x := by intro _; rfl) :
    T prog w hT A L (eval (.ListComp elt [⟨.Name x px, iter, [], 0⟩] scope pos) env) m H Q := by
  obtain ⟨h1, h2, h3, h4, h5, h6⟩ := compOk_of hok
  refine t_comp_src hclos h3 h5 h4 (t_mono h ?_) hs
  rintro v m1 H1 ⟨l, vs, I, rfl, a1, a2, a3, a4, a5⟩
  refine ⟨vs.length, _, _, _, fun m => ∀ y, y ≠ x → m y = none, opens_list hA (a3 0 _ _ a2).2, a1, fun C => okName_comp h5 h6, fun _ _ => rfl, ?_⟩
  rintro H0 K ⟨rfl, rfl⟩
  refine ⟨I, a2, fun i acc H q => ⟨Nat.le_of_eq (a3 i acc H q).1, (a3 i acc H q).2⟩, ?_, a5⟩
  rintro C i acc H2 m0 m' q hi d ⟨v, hv, rfl⟩
  rw [set_one d]
  exact t_tests_nil ⟨fun _ => t_mono (a4 _ C _ i acc (fun _ _ z => z) H2 v (fnE_comp P F.globals F.builtins h1 h2 hf) q hv) fun z m2 H3 e => ⟨by rw [e.1]; exact lk_off, e.2⟩, fun e => nomatch e⟩
theorem t_compRangeF {elt iter : Expr} {x : Str} {px : Pos} {scope : Scope} {cl : List (Str × Addr)} {pos : Pos} {ns : List Str} {gs0 : List (Str × Value)} {fs0 : List (Str × Addr)} {Q : Value → Loc → LH → Prop} (P : Tp K hT) (F : FnE hT env L ns gs0 fs0) (hA : A.handled = none) (gs : List (Str × Value)) (fs : List (Str × Addr)) (hclos : closureFor scope env = pure cl)
    (hok : compOk K scope x gs (fs.map (·.1)) = true) (hf : ∀ p ∈ fs, cl.lookup p.1 = some p.2)
    (h : T prog w hT A L (eval iter env) m H fun v m1 H1 => Ex7 fun (l : Addr) (n : Nat) (t0 : Tag) (u1 u2 u3 : Tok) (I : Nat → List Value → LH → Prop) => And7 (v = .ref l) (n ≤ 1000) (H1 l = some (t0, .obj (rangeObj n u1 u2 u3))) (I 0 [] H1) ((∀ i acc H, I i acc H → acc.length = i)) ((∀ (J : Value → LH → Prop) C env' i acc, (∀ z H, I (i + 1) (acc ++ [z]) H → J z H) → ∀ H u, FnE hT env' C [x] gs fs → I i acc H → i < n → T prog w hT A C (eval elt env') (lk [x] [some (.int (i : Int) u)]) H fun z m2 H2 => m2 = lk [x] [some (.int (i : Int) u)] ∧ J z H2)) (∀ acc H, I n acc H → ∀ r, H r = none → Q (.ref r) m1 (upd H r (tmp, .list acc))))
    (hs : ∀ x, foldedSetIterable iter env x = pure x := by intro _; rfl) :
    T prog w hT A L (eval (.ListComp elt [⟨.Name x px, iter, [], 0⟩] scope pos) env) m H Q := by
  obtain ⟨h1, h2, h3, h4, h5, h6⟩ := compOk_of hok
  refine t_comp_src hclos h3 h5 h4 (t_mono h ?_) hs
  rintro v m1 H1 ⟨l, n, t0, u1, u2, u3, I, rfl, a1, a2, a3, a4, a5, a6⟩
  refine ⟨n, _, _, _, fun m => ∀ y, y ≠ x → m y = none, opens_range hA a1 a2, a1, fun C => okName_comp h5 h6, fun _ _ => rfl, ?_⟩
  rintro H0 K ⟨rfl, rfl⟩
  refine ⟨I, a3, fun i acc H q => ⟨Nat.le_of_eq (a4 i acc H q), trivial⟩, ?_, a6⟩
  rintro C i acc H2 m0 m' q hi d ⟨v, ⟨u, rfl⟩, rfl⟩
  rw [set_one d]
  exact t_tests_nil ⟨fun _ => t_mono (a5 _ C _ i acc (fun _ _ z => z) H2 u (fnE_comp P F.globals F.builtins h1 h2 hf) q hi) fun z m2 H3 e => ⟨by rw [e.1]; exact lk_off, e.2⟩, fun e => nomatch e⟩
end

/-! part M0 -/
noncomputable def fdOf (K : Frag) (f : Addr) : FuncData := match K.lookup f with
  | some ⟨_, _, .func fd, _⟩ => fd
  | _ => default
noncomputable def bodyOf (fd : FuncData) : List Stmt := match fd.body with
  | .stmts b => b
  | _ => []
noncomputable def fnOk (K : Frag) (f : Addr) (ps ls : List Str) (gs : List (Str × Value)) : Bool := match K.lookup f with
  | some ⟨_, _, .func fd, _⟩ => codeIn K fd.code fd.qualname && kindsOk K fd.scope (ps ++ ls) gs && decide (fd.globals = mainGlobals) && decide (fd.builtins = builtinsNs) && (fd.scope.names.all fun x => decide (x.2 ≠ .cell)) &&
      !fd.scope.isCoroutine && !fd.scope.isGenerator && fd.closure.isEmpty && (match fd.body with | .stmts _ => true | _ => false)
  | _ => false
section
variable {prog : Program} {w : World} {hT : Heap} {K : Frag} {A : Around} {H : LH}
theorem c_fn {f : Addr} {ps ls : List Str} {gs : List (Str × Value)} {args : Args} {vals : List Value} {n : Nat} {Q : Value → LH → Prop} {ns : List Str} {vs : List (Option Value)} (P : Tp K hT) (R : Room (n + 1) A) (hok : fnOk K f ps ls gs = true)
    (hbind : bindArgs (fdOf K f) args = pure (ps.zip vals)) (len : ps.length = vals.length)
    (h : ∀ L env A', env = callEnv (fdOf K f) L f → FnE hT env L ns gs [] → Room n A' →
      T prog w hT A' L (execs (bodyOf (fdOf K f)) env) (lk ns vs) H fun fl _ H' => Q (match fl with | .ret v => v | _ => .none) H') (hns : ps ++ ls = ns := by rfl) (hvs : (vals.map some ++ ls.map fun _ => none) = vs := by rfl) : C prog w hT A (.ref f) args H Q := by
  subst hns hvs
  unfold fnOk at hok
  split at hok
  · rename_i oc od fd osl ho
    have hfd : fdOf K f = fd := by unfold fdOf; rw [ho]
    rw [hfd] at hbind h
    simp only [Bool.and_eq_true, decide_eq_true_eq, Bool.not_eq_true'] at hok
    obtain ⟨⟨⟨⟨⟨⟨⟨⟨h1, h2⟩, h3⟩, h4⟩, h5⟩, h6⟩, h7⟩, h8⟩, h9⟩ := hok
    have h2' := h2
    unfold kindsOk at h2'
    simp only [Bool.and_eq_true, decide_eq_true_eq] at h2'
    obtain ⟨⟨⟨⟨⟨k1, k2⟩, k3⟩, k4⟩, k5⟩, k6⟩ := h2'
    have hb : fd.body = .stmts (bodyOf fd) := by
      unfold bodyOf
      split at h9
      · rename_i b e; rw [e]
      · cases h9
    rw [List.all_append, Bool.and_eq_true] at k3
    refine c_def P ho R.lt h1 hb (fun s => BindsTo.of_eq hbind) len k2 k3.1 h5 (fun L => h L _ _ rfl ?_ (R.deeper _)) h6 h7 k1
    unfold callEnv
    rw [h3, h4]
    exact fnE_of P h2
  · cases hok
end

/-! part H1 -/
noncomputable section
/-! the head, by hand: the heap behind the top -/
abbrev pg : Program := PySem.Challenge.pw_sa0471_01
abbrev rr : OpenRow := PySem.Challenge.rw_sa0471_01.row
noncomputable def nth : List Stmt → Nat → Stmt
  | [], _ => .Pass default
  | s :: _, 0 => s
  | _ :: l, n + 1 => nth l n
noncomputable def F (i : Nat) : Stmt := nth pg.main.body i
noncomputable def G (i j : Nat) : Stmt := match F i with
  | .ClassDef _ _ _ b _ _ _ _ _ _ _ => nth b j
  | s => s
noncomputable def fnOf (s : Stmt) (q : Str) : FuncData := (DefRec.ofStmt? s).elim default fun d => { name := d.name, qualname := q, params := d.params, body := .stmts d.body, scope := d.scope, globals := 0, closure := [], defaults := .none, kwdefaults := .none }
noncomputable abbrev S (s : String) (t : Nat) : Value := .str (Str.ofString s) t
noncomputable abbrev I (i : Int) (t : Nat) : Value := .int i t
noncomputable abbrev R (a : Nat) : Value := .ref a
noncomputable def tp (l : List Value) : Obj := { cls := .type "tuple", data := .seq l.toArray }
noncomputable def rF (l : List Value) : Obj := { cls := .none, data := .fields l.toArray }
noncomputable def fl (n : String) (l : List Value) : Obj := { cls := .type n, data := .fields l.toArray }
noncomputable def cO (l : List Value) : Obj := { cls := .type "code", data := .fields l.toArray }
noncomputable def rf (s : Stmt) (q : String) : Obj := { cls := .none, data := .func (fnOf s (Str.ofString q)) }
noncomputable def fo (s : Stmt) (q : String) (m c : Value) : Obj := { cls := .type "function", data := .func { fnOf s (Str.ofString q) with globals := 3, pyModule := m, code := c } }
noncomputable def fS (t : Nat) : Value := S "/claim/cut.py" t
noncomputable def cd (n t ln ac k : Nat) (s : Stmt) (q : String) : Obj := cO [.str (fnOf s Str.empty).name t, S q (t + 1), fS (t + 2), I ln 0, I ac 0, I 0 0, I 0 0, I 3 0, R n, .bool true, I 181 0, R (n + 1), .none, R (n + 2), R (n + 3), R (n + 4), I (t + 3 + k : Nat) 0, I ln 0, fS (t + 4 + k)]
noncomputable def cd5 (n t ln ac : Nat) (s : Stmt) (q : String) : Obj := cO [.str (fnOf s Str.empty).name t, S q (t + 1), fS (t + 2), I ln 0, I ac 0, I 0 0, I 0 0, I 3 0, R n, .bool true, I 181 0, R (n + 1), .none, .none, .none, R (n + 2), I (t + 3 : Nat) 0, I ln 0, fS (t + 4)]
noncomputable def nm (t : Nat) : List String → List Value
  | [] => []
  | s :: l => S s t :: nm (t + 1) l
noncomputable def bk (n t ln ac : Nat) (vs cs : List String) (s : Stmt) (q : String) (m : Value) : List Obj := [tp [], rF [], tp (nm (t + 3) vs), tp (nm (t + 3 + vs.length) cs), rf s q, cd n t ln ac (vs.length + cs.length) s q, fo s q m (R (n + 5))]
noncomputable def bk5 (n t ln ac : Nat) (s : Stmt) (q : String) (m : Value) : List Obj := [tp [], rF [], rf s q, cd5 n t ln ac s q, fo s q m (R (n + 3))]
noncomputable def K (P : Params) (s : String) (t : Nat) (v : Value) : DictEntry := ⟨PyData.keyHash P (Str.ofString s), .str (Str.ofString s) t, v⟩
noncomputable def dO (l : List DictEntry) (e : Nat) : Obj := { cls := .type "dict", data := .dict l.toArray e }
noncomputable def fr (l : List (Option Value)) : Obj := { cls := .type "frame", slots := l.toArray }
noncomputable def cl (l : List (Option Value)) (n : String) (b m : List Value) (ns : Nat) (sb : List Value) : Obj := { cls := .type "type", slots := l.toArray, data := .cls { name := Str.ofString n, bases := b, mro := m, ns := ns, qualname := Str.ofString n, subclasses := sb } }

noncomputable def e3 (P : Params) : List DictEntry := [K P "__doc__" 166 .none, K P "__package__" 167 .none, K P "__loader__" 168 (.builtin "__main__.__loader__#opaque"), K P "__spec__" 169 .none, K P "__annotations__" 170 (R 6), K P "__builtins__" 171 (R 4), K P "__file__" 173 (S "/claim/cut.py" 172), K P "__cached__" 174 .none, K P "_wall" 193 (R 21), K P "WHITE" 197 (I 0 196), K P "OTHER_WHITE" 199 (I 1 198), K P "GREY" 201 (I 2 200), K P "BLACK" 203 (I 3 202), K P "FREED" 205 (I 4 204), K P "SORT_PLAIN" 207 (I 0 206), K P "SORT_LEAF" 209 (I 1 208), K P "SORT_OPEN" 211 (I 2 210), K P "SORT_AGAIN" 213 (I 3 212), K P "SORT_WEAK" 215 (I 4 214), K P "is_white" 222 (R 28), K P "Marks" 367 (R 136), K P "sweep_some" 383 (R 147), K P "debt_after" 392 (R 154), K P "work_of_step" 402 (R 161), K P "next_threshold" 410 (R 168), K P "PAUSE" 414 (I 0 413), K P "PROPAGATE" 416 (I 1 415), K P "SWEEP" 418 (I 2 417), K P "FINALIZE" 420 (I 3 419), K P "NEVER" 424 (I 1000000000000000000 423), K P "STEP_SIZE" 426 (I 64 425), K P "SWEEP_MAX" 428 (I 16 427), K P "SWEEP_COST" 430 (I 2 429), K P "DEFAULT_PAUSE" 432 (I 200 431), K P "DEFAULT_STEP_MUL" 434 (I 200 433), K P "Cycle" 661 (R 346), K P "separate" 677 (R 357), K P "is_asked" 686 (R 364), K P "EndCycle" 764 (R 421), K P "T_NONE" 769 (I (-1) 768), K P "HeapObject" 802 (R 440), K P "_law_told" 813 (R 451), K P "_law_heap" 833 (R 458), K P "_law_reached" 844 (R 465), K P "_law_rooted" 850 (R 470), K P "_law_drained" 856 (R 475), K P "_law_done" 872 (R 482), K P "_law_cycles" 882 (R 489), K P "_law_end_right" 888 (R 494), K P "law" 894 (R 499)]
noncomputable def d3 (P : Params) (m : Value) (n e : Nat) : Obj := dO (K P "__name__" 165 m :: (e3 P).take n) e
noncomputable def e12 : List Value := [(I 1 0), (I 0 0), (R 20), (I 15 0), (I 0 0), (R 27), (I 17 0), (I 0 0), (R 34), (I 105 0), (I 0 0), (R 146), (I 116 0), (I 0 0), (R 153), (I 118 0), (I 0 0), (R 160), (I 123 0), (I 0 0), (R 167), (I 136 0), (I 0 0), (R 174), (I 279 0), (I 0 0), (R 356), (I 292 0), (I 0 0), (R 363), (I 294 0), (I 0 0), (R 370), (I 337 0), (I 0 0), (R 429), (I 345 0), (I 0 0), (R 450), (I 351 0), (I 0 0), (R 457), (I 372 0), (I 0 0), (R 464), (I 380 0), (I 0 0), (R 469), (I 382 0), (I 0 0), (R 474), (I 388 0), (I 0 0), (R 481), (I 404 0), (I 0 0), (R 488), (I 412 0), (I 0 0), (R 493), (I 418 0), (I 0 0), (R 498)]
noncomputable def d12 (n : Nat) : Obj := rF (e12.take n)
noncomputable def d346 (l : List Value) : Obj := cl [none, none, some (S "Cycle" 435), some (S "Cycle" 443), some (.builtin "object.__new__"), some (.bool true)] "Cycle" [(.type "object")] [(R 346), (.type "object")] 345 l
noncomputable def m0 : Value := S "__main__" 164
noncomputable def m1 : Value := S "lua.marks" 194
noncomputable def m2 : Value := S "lua.sweeps" 368
noncomputable def m3 : Value := S "lua.cycles" 411
noncomputable def m4 : Value := S "lua.finals" 662
noncomputable def m5 : Value := S "lua.ends" 678
noncomputable def m6 : Value := S "lua.values" 765
noncomputable def m7 : Value := S "law_sa0471_01" 803
noncomputable def ol (P : Params) (a b c : Obj) : List Obj :=
  [boot_o_0 P, boot_o_1 P, boot_o_2 P, a, boot_o_4 P, boot_o_5 P, boot_o_6 P, boot_o_7 P, boot_o_8 P, boot_o_9 P, boot_o_10 P, tp [], b, cO [(S "<module>" 182), (S "<module>" 183), (S "/claim/cut.py" 184), (I 1 0), (I 0 0), (I 0 0), (I 0 0), (I 0 0), (R 11), (.bool false), (I 181 0), (R 12), .none, .none, .none, .none, (I 185 0), (I 1 0), (S "/claim/cut.py" 186)], fr [some (R 13), some (R 3), some (R 3), none, some (S "__main__" 164), none, some (R 0)]] ++ (
  bk 15 187 1 1 ["k"] [] (F 0) "_wall" m0 ++ (
  bk 22 216 15 1 ["obj"] [] (F 12) "is_white" m1 ++ (
  [tp [], fl "builtin_function_or_method" [(.builtin "type.__prepare__"), (.type "type")], dO [K P "__module__" 230 (S "lua.marks" 194), K P "__qualname__" 232 (S "Marks" 231), K P "__firstlineno__" 234 (I 17 233), K P "__init__" 243 (R 42), K P "is_dead" 251 (R 49), K P "make_white" 259 (R 56), K P "revive" 267 (R 63), K P "forget" 274 (R 70), K P "begin" 283 (R 77), K P "mark" 293 (R 84), K P "propagate" 303 (R 91), K P "propagate_all" 311 (R 98), K P "finish" 320 (R 105), K P "flip" 327 (R 112), K P "barrier" 337 (R 119), K P "barrier_back" 345 (R 126), K P "wrong_edges" 353 (R 133), K P "__static_attributes__" 360 (R 134)] 18, tp [], rF [(I 19 0), (I 4 0), (R 41), (I 27 0), (I 4 0), (R 48), (I 30 0), (I 4 0), (R 55), (I 33 0), (I 4 0), (R 62), (I 36 0), (I 4 0), (R 69), (I 41 0), (I 4 0), (R 76), (I 46 0), (I 4 0), (R 83), (I 59 0), (I 4 0), (R 90), (I 73 0), (I 4 0), (R 97), (I 79 0), (I 4 0), (R 104), (I 88 0), (I 4 0), (R 111), (I 91 0), (I 4 0), (R 118), (I 99 0), (I 4 0), (R 125), (I 102 0), (I 4 0), (R 132)], cO [(S "Marks" 225), (S "Marks" 226), (S "/claim/cut.py" 227), (I 17 0), (I 0 0), (I 0 0), (I 0 0), (I 0 0), (R 32), (.bool false), (I 181 0), (R 33), .none, .none, .none, .none, (I 228 0), (I 17 0), (S "/claim/cut.py" 229)], fr [some (R 34), some (R 3), some (R 31), none, some (S "lua.marks" 194), none, some (R 0)]] ++ (
  bk 36 235 19 3 ["self", "children", "sort_of"] [] (G 13 0) "Marks.__init__" m1 ++ (
  bk 43 244 27 2 ["self", "obj"] [] (G 13 1) "Marks.is_dead" m1 ++ (
  bk 50 252 30 2 ["self", "obj"] [] (G 13 2) "Marks.make_white" m1 ++ (
  bk 57 260 33 2 ["self", "obj"] [] (G 13 3) "Marks.revive" m1 ++ (
  bk 64 268 36 1 ["self"] [] (G 13 4) "Marks.forget" m1 ++ (
  bk 71 275 41 2 ["self", "roots", "obj"] [] (G 13 5) "Marks.begin" m1 ++ (
  bk 78 284 46 2 ["self", "obj", "sort", "child"] [] (G 13 6) "Marks.mark" m1 ++ (
  bk 85 294 59 1 ["self", "obj", "sort", "child"] [] (G 13 7) "Marks.propagate" m1 ++ (
  bk 92 304 73 1 ["self", "work"] [] (G 13 8) "Marks.propagate_all" m1 ++ (
  bk 99 312 79 2 ["self", "late", "obj"] [] (G 13 9) "Marks.finish" m1 ++ (
  bk 106 321 88 1 ["self"] [] (G 13 10) "Marks.flip" m1 ++ (
  bk 113 328 91 4 ["self", "parent", "child", "is_marking"] [] (G 13 11) "Marks.barrier" m1 ++ (
  bk 120 338 99 2 ["self", "obj"] [] (G 13 12) "Marks.barrier_back" m1 ++ (
  bk 127 346 102 2 ["self", "objects"] [] (G 13 13) "Marks.wrong_edges" m1 ++ (
  [tp [(S "children" 354), (S "grey" 355), (S "grey_again" 356), (S "sort_of" 357), (S "weak" 358), (S "white" 359)], dO [K P "__module__" 230 (S "lua.marks" 194), K P "__firstlineno__" 234 (I 17 233), K P "__init__" 243 (R 42), K P "is_dead" 251 (R 49), K P "make_white" 259 (R 56), K P "revive" 267 (R 63), K P "forget" 274 (R 70), K P "begin" 283 (R 77), K P "mark" 293 (R 84), K P "propagate" 303 (R 91), K P "propagate_all" 311 (R 98), K P "finish" 320 (R 105), K P "flip" 327 (R 112), K P "barrier" 337 (R 119), K P "barrier_back" 345 (R 126), K P "wrong_edges" 353 (R 133), K P "__static_attributes__" 360 (R 134), K P "__dict__" 362 (R 137), K P "__weakref__" 364 (R 138), K P "__doc__" 365 .none] 4, cl [none, none, some (S "Marks" 223), some (S "Marks" 231), some (.builtin "object.__new__"), some (.bool true)] "Marks" [(.type "object")] [(R 136), (.type "object")] 135 [], fl "getset_descriptor" [(S "__dict__" 361), (R 136), (.builtin "function.__dict__"), (.builtin "function.__dict__#set")], fl "getset_descriptor" [(S "__weakref__" 363), (R 136), (.builtin "ExceptionGroup.__weakref__"), .none], fl "super" [(R 136), (R 136), (R 136)], fl "builtin_function_or_method" [(.builtin "object.__init_subclass__"), (R 136)]] ++ (
  bk 141 370 105 6 ["waiting", "objects", "most", "is_dead", "free", "keep", "many", "obj"] [] (F 15) "sweep_some" m2 ++ (
  bk 148 384 116 3 ["debt", "total", "threshold"] [] (F 16) "debt_after" m2 ++ (
  bk 155 393 118 3 ["step_size", "step_mul", "never", "work"] [] (F 17) "work_of_step" m2 ++ (
  bk 162 403 123 2 ["estimate", "pause"] [] (F 18) "next_threshold" m2 ++ (
  [tp [], fl "builtin_function_or_method" [(.builtin "type.__prepare__"), (.type "type")], dO [K P "__module__" 442 (S "lua.cycles" 411), K P "__qualname__" 444 (S "Cycle" 443), K P "__firstlineno__" 446 (I 136 445), K P "__init__" 455 (R 182), K P "take_in" 465 (R 189), K P "resize" 474 (R 196), K P "is_dead" 482 (R 203), K P "is_kept" 490 (R 210), K P "roots" 497 (R 217), K P "late_roots" 505 (R 224), K P "mark_roots" 512 (R 231), K P "at_end" 519 (R 238), K P "atomic" 528 (R 245), K P "free" 536 (R 252), K P "sweep" 544 (R 259), K P "finalize" 552 (R 266), K P "single_step" 560 (R 273), K P "set_threshold" 567 (R 280), K P "step" 577 (R 287), K P "check" 585 (R 294), K P "steps" 594 (R 301), K P "full" 602 (R 308), K P "stop" 609 (R 315), K P "restart" 616 (R 322), K P "set_pause" 624 (R 329), K P "set_step_mul" 632 (R 336), K P "wrong_edges" 639 (R 343), K P "__static_attributes__" 654 (R 344)] 28, tp [], rF [(I 138 0), (I 4 0), (R 181), (I 154 0), (I 4 0), (R 188), (I 161 0), (I 4 0), (R 195), (I 164 0), (I 4 0), (R 202), (I 167 0), (I 4 0), (R 209), (I 170 0), (I 4 0), (R 216), (I 173 0), (I 4 0), (R 223), (I 176 0), (I 4 0), (R 230), (I 180 0), (I 4 0), (R 237), (I 183 0), (I 4 0), (R 244), (I 191 0), (I 4 0), (R 251), (I 196 0), (I 4 0), (R 258), (I 204 0), (I 4 0), (R 265), (I 210 0), (I 4 0), (R 272), (I 223 0), (I 4 0), (R 279), (I 226 0), (I 4 0), (R 286), (I 241 0), (I 4 0), (R 293), (I 244 0), (I 4 0), (R 300), (I 252 0), (I 4 0), (R 307), (I 264 0), (I 4 0), (R 314), (I 267 0), (I 4 0), (R 321), (I 270 0), (I 4 0), (R 328), (I 273 0), (I 4 0), (R 335), (I 276 0), (I 4 0), (R 342)], cO [(S "Cycle" 437), (S "Cycle" 438), (S "/claim/cut.py" 439), (I 136 0), (I 0 0), (I 0 0), (I 0 0), (I 0 0), (R 172), (.bool false), (I 181 0), (R 173), .none, .none, .none, .none, (I 440 0), (I 136 0), (S "/claim/cut.py" 441)], fr [some (R 174), some (R 3), some (R 171), none, some (S "lua.cycles" 411), none, some (R 0)]] ++ (
  bk 176 447 138 3 ["self", "children", "sort_of"] [] (G 30 0) "Cycle.__init__" m3 ++ (
  bk 183 456 154 4 ["self", "obj", "number", "size"] [] (G 30 1) "Cycle.take_in" m3 ++ (
  bk 190 466 161 3 ["self", "obj", "size"] [] (G 30 2) "Cycle.resize" m3 ++ (
  bk 197 475 164 2 ["self", "obj"] [] (G 30 3) "Cycle.is_dead" m3 ++ (
  bk 204 483 167 2 ["self", "obj"] [] (G 30 4) "Cycle.is_kept" m3 ++ (
  bk 211 491 170 1 ["self"] [] (G 30 5) "Cycle.roots" m3 ++ (
  bk 218 498 173 2 ["self", "thread"] [] (G 30 6) "Cycle.late_roots" m3 ++ (
  bk 225 506 176 1 ["self"] [] (G 30 7) "Cycle.mark_roots" m3 ++ (
  bk 232 513 180 1 ["self"] [] (G 30 8) "Cycle.at_end" m3 ++ (
  bk 239 520 183 2 ["self", "thread", "room"] [] (G 30 9) "Cycle.atomic" m3 ++ (
  bk 246 529 191 2 ["self", "obj"] [] (G 30 10) "Cycle.free" m3 ++ (
  bk 253 537 196 1 ["self", "before"] [] (G 30 11) "Cycle.sweep" m3 ++ (
  bk 260 545 204 2 ["self", "thread"] [] (G 30 12) "Cycle.finalize" m3 ++ (
  bk 267 553 210 2 ["self", "thread"] [] (G 30 13) "Cycle.single_step" m3 ++ (
  bk 274 561 223 1 ["self"] [] (G 30 14) "Cycle.set_threshold" m3 ++ (
  bk 281 568 226 2 ["self", "thread", "work_left", "is_going"] [] (G 30 15) "Cycle.step" m3 ++ (
  bk 288 578 241 2 ["self", "thread"] [] (G 30 16) "Cycle.check" m3 ++ (
  bk 295 586 244 3 ["self", "thread", "many"] [] (G 30 17) "Cycle.steps" m3 ++ (
  bk 302 595 252 2 ["self", "thread"] [] (G 30 18) "Cycle.full" m3 ++ (
  bk 309 603 264 1 ["self"] [] (G 30 19) "Cycle.stop" m3 ++ (
  bk 316 610 267 1 ["self"] [] (G 30 20) "Cycle.restart" m3 ++ (
  bk 323 617 270 2 ["self", "pause"] [] (G 30 21) "Cycle.set_pause" m3 ++ (
  bk 330 625 273 2 ["self", "step_mul"] [] (G 30 22) "Cycle.set_step_mul" m3 ++ (
  bk 337 633 276 1 ["self"] [] (G 30 23) "Cycle.wrong_edges" m3 ++ (
  [tp [(S "cycles" 640), (S "debt" 641), (S "estimate" 642), (S "marks" 643), (S "objects" 644), (S "pause" 645), (S "phase" 646), (S "root_list" 647), (S "step_mul" 648), (S "step_size" 649), (S "sweep_max" 650), (S "threshold" 651), (S "to_sweep" 652), (S "total" 653)], dO [K P "__module__" 442 (S "lua.cycles" 411), K P "__firstlineno__" 446 (I 136 445), K P "__init__" 455 (R 182), K P "take_in" 465 (R 189), K P "resize" 474 (R 196), K P "is_dead" 482 (R 203), K P "is_kept" 490 (R 210), K P "roots" 497 (R 217), K P "late_roots" 505 (R 224), K P "mark_roots" 512 (R 231), K P "at_end" 519 (R 238), K P "atomic" 528 (R 245), K P "free" 536 (R 252), K P "sweep" 544 (R 259), K P "finalize" 552 (R 266), K P "single_step" 560 (R 273), K P "set_threshold" 567 (R 280), K P "step" 577 (R 287), K P "check" 585 (R 294), K P "steps" 594 (R 301), K P "full" 602 (R 308), K P "stop" 609 (R 315), K P "restart" 616 (R 322), K P "set_pause" 624 (R 329), K P "set_step_mul" 632 (R 336), K P "wrong_edges" 639 (R 343), K P "__static_attributes__" 654 (R 344), K P "__dict__" 656 (R 347), K P "__weakref__" 658 (R 348), K P "__doc__" 659 .none] 4, c, fl "getset_descriptor" [(S "__dict__" 655), (R 346), (.builtin "function.__dict__"), (.builtin "function.__dict__#set")], fl "getset_descriptor" [(S "__weakref__" 657), (R 346), (.builtin "ExceptionGroup.__weakref__"), .none], fl "super" [(R 346), (R 346), (R 346)], fl "builtin_function_or_method" [(.builtin "object.__init_subclass__"), (R 346)]] ++ (
  bk 351 664 279 4 ["some", "is_reached", "was_asked", "wants_end", "left", "asked", "row", "thing"] [] (F 32) "separate" m4 ++ (
  bk 358 680 292 1 ["data"] [] (F 34) "is_asked" m5 ++ (
  [tp [(R 346)], fl "builtin_function_or_method" [(.builtin "type.__prepare__"), (.type "type")], dO [K P "__module__" 694 (S "lua.ends" 678), K P "__qualname__" 696 (S "EndCycle" 695), K P "__firstlineno__" 698 (I 294 697), K P "__init__" 709 (R 378), K P "is_reached" 717 (R 385), K P "is_nowhere" 725 (R 392), K P "part_datas" 731 (R 397), K P "keep_finalizing" 739 (R 404), K P "at_end" 748 (R 411), K P "first_to_end" 756 (R 418), K P "__static_attributes__" 761 (R 419)] 11, tp [], rF [(I 296 0), (I 4 0), (R 377), (I 303 0), (I 4 0), (R 384), (I 306 0), (I 4 0), (R 391), (I 309 0), (I 4 0), (R 396), (I 317 0), (I 4 0), (R 403), (I 322 0), (I 4 0), (R 410), (I 330 0), (I 4 0), (R 417)], cO [(S "EndCycle" 689), (S "EndCycle" 690), (S "/claim/cut.py" 691), (I 294 0), (I 0 0), (I 0 0), (I 0 0), (I 0 0), (R 368), (.bool false), (I 181 0), (R 369), .none, .none, .none, .none, (I 692 0), (I 294 0), (S "/claim/cut.py" 693)], fr [some (R 370), some (R 3), some (R 367), none, some (S "lua.ends" 678), none, some (R 0)]] ++ (
  bk 372 699 296 5 ["self", "children", "sort_of", "clear_weak", "wants_end"] [] (G 35 0) "EndCycle.__init__" m5 ++ (
  bk 379 710 303 2 ["self", "data"] [] (G 35 1) "EndCycle.is_reached" m5 ++ (
  bk 386 718 306 2 ["self", "data"] [] (G 35 2) "EndCycle.is_nowhere" m5 ++ (
  bk5 393 726 309 2 (G 35 3) "EndCycle.part_datas" m5 ++ (
  bk 398 732 317 1 ["self", "data"] [] (G 35 4) "EndCycle.keep_finalizing" m5 ++ (
  bk 405 740 322 1 ["self", "room", "table"] [] (G 35 5) "EndCycle.at_end" m5 ++ (
  bk 412 749 330 1 ["self", "data"] [] (G 35 6) "EndCycle.first_to_end" m5 ++ (
  [tp [(S "clear_weak" 757), (S "datas" 758), (S "to_finalize" 759), (S "wants_end" 760)], dO [K P "__module__" 694 (S "lua.ends" 678), K P "__firstlineno__" 698 (I 294 697), K P "__init__" 709 (R 378), K P "is_reached" 717 (R 385), K P "is_nowhere" 725 (R 392), K P "part_datas" 731 (R 397), K P "keep_finalizing" 739 (R 404), K P "at_end" 748 (R 411), K P "first_to_end" 756 (R 418), K P "__static_attributes__" 761 (R 419), K P "__doc__" 762 .none] 2, cl [some (R 365), none, some (S "EndCycle" 687), some (S "EndCycle" 695), some (.builtin "object.__new__"), some (.bool true)] "EndCycle" [(R 346)] [(R 421), (R 346), (.type "object")] 420 [], fl "super" [(R 421), (R 421), (R 421)], fl "builtin_function_or_method" [(.builtin "object.__init_subclass__"), (R 421)], tp [], fl "builtin_function_or_method" [(.builtin "type.__prepare__"), (.type "type")], dO [K P "__module__" 777 (S "lua.values" 765), K P "__qualname__" 779 (S "HeapObject" 778), K P "__firstlineno__" 781 (I 337 780), K P "kind" 782 (I (-1) 768), K P "__init__" 791 (R 437), K P "__static_attributes__" 795 (R 438)] 6, tp [], rF [(I 340 0), (I 4 0), (R 436)], cO [(S "HeapObject" 772), (S "HeapObject" 773), (S "/claim/cut.py" 774), (I 337 0), (I 0 0), (I 0 0), (I 0 0), (I 0 0), (R 427), (.bool false), (I 181 0), (R 428), .none, .none, .none, .none, (I 775 0), (I 337 0), (S "/claim/cut.py" 776)], fr [some (R 429), some (R 3), some (R 426), none, some (S "lua.values" 765), none, some (R 0)]] ++ (
  bk 431 783 340 3 ["self", "number", "size"] [] (G 38 1) "HeapObject.__init__" m6 ++ (
  [tp [(S "mark" 792), (S "number" 793), (S "size" 794)], dO [K P "__module__" 777 (S "lua.values" 765), K P "__firstlineno__" 781 (I 337 780), K P "kind" 782 (I (-1) 768), K P "__init__" 791 (R 437), K P "__static_attributes__" 795 (R 438), K P "__dict__" 797 (R 441), K P "__weakref__" 799 (R 442), K P "__doc__" 800 .none] 4, cl [none, none, some (S "HeapObject" 770), some (S "HeapObject" 778), some (.builtin "object.__new__"), some (.bool true)] "HeapObject" [(.type "object")] [(R 440), (.type "object")] 439 [], fl "getset_descriptor" [(S "__dict__" 796), (R 440), (.builtin "function.__dict__"), (.builtin "function.__dict__#set")], fl "getset_descriptor" [(S "__weakref__" 798), (R 440), (.builtin "ExceptionGroup.__weakref__"), .none], fl "super" [(R 440), (R 440), (R 440)], fl "builtin_function_or_method" [(.builtin "object.__init_subclass__"), (R 440)]] ++ (
  bk 445 805 345 2 ["bag", "many", "at"] [] (F 40) "_law_told" m7 ++ (
  bk 452 814 351 4 ["order", "things", "edges", "which", "children", "cycle", "at", "name", "obj"] ["order", "things", "edges", "thing_of", "world"] (F 41) "_law_heap" m7 ++ (
  bk 459 834 372 2 ["edges", "roots", "found", "waiting", "name"] [] (F 42) "_law_reached" m7 ++ (
  bk5 466 845 380 2 (F 43) "_law_rooted" m7 ++ (
  bk5 471 851 382 1 (F 44) "_law_drained" m7 ++ (
  bk 476 857 388 4 ["worlds", "edges", "roots", "deed", "kind", "one", "other", "alive", "world", "cycle"] [] (F 45) "_law_done" m7 ++ (
  bk 483 873 404 2 ["world", "many", "goal", "turn"] [] (F 46) "_law_cycles" m7 ++ (
  bk5 490 883 412 4 (F 47) "_law_end_right" m7 ++ (
  bk5 495 889 418 1 (F 48) "law" m7))))))))))))))))))))))))))))))))))))))))))))))))))))))))))))))))))))))
noncomputable def evs : Bool → List Obj → List Obj
  | _, [] => []
  | true, o :: l => o :: evs false l
  | false, _ :: l => evs true l
noncomputable def mkT : Nat → List Obj → BT
  | 0, _ => .nil
  | _ + 1, [] => .nil
  | n + 1, o :: l => .node o (mkT n (evs true l)) (mkT n (evs false l))
noncomputable def st (w : World) (os : OsState) (a b c : Obj) (n t : Nat) : SharedT := ⟨mkT 10 ((ol w.params a b c).take n), n, {}, Array.mk [], {}, t, os⟩
noncomputable def env0 : Env := { scope := pg.main.scope, locals := mainNs, globals := mainNs, cells := [], code := .ref 13, frame := some 14 }
noncomputable abbrev bE : List Stmt := behindTheImports pg
noncomputable abbrev cE : Code := .body bE env0
noncomputable abbrev B0 : List Frame := [topFrame ⟨0, 0, 0, 0⟩]

noncomputable def KF (P : Params) : Frag := [(21, fo (F 0) "_wall" m0 (R 20)),
  (28, fo (F 12) "is_white" m1 (R 27)),
  (42, fo (G 13 0) "Marks.__init__" m1 (R 41)),
  (49, fo (G 13 1) "Marks.is_dead" m1 (R 48)),
  (56, fo (G 13 2) "Marks.make_white" m1 (R 55)),
  (63, fo (G 13 3) "Marks.revive" m1 (R 62)),
  (70, fo (G 13 4) "Marks.forget" m1 (R 69)),
  (77, fo (G 13 5) "Marks.begin" m1 (R 76)),
  (84, fo (G 13 6) "Marks.mark" m1 (R 83)),
  (91, fo (G 13 7) "Marks.propagate" m1 (R 90)),
  (98, fo (G 13 8) "Marks.propagate_all" m1 (R 97)),
  (105, fo (G 13 9) "Marks.finish" m1 (R 104)),
  (112, fo (G 13 10) "Marks.flip" m1 (R 111)),
  (119, fo (G 13 11) "Marks.barrier" m1 (R 118)),
  (126, fo (G 13 12) "Marks.barrier_back" m1 (R 125)),
  (133, fo (G 13 13) "Marks.wrong_edges" m1 (R 132)),
  (147, fo (F 15) "sweep_some" m2 (R 146)),
  (154, fo (F 16) "debt_after" m2 (R 153)),
  (161, fo (F 17) "work_of_step" m2 (R 160)),
  (168, fo (F 18) "next_threshold" m2 (R 167)),
  (182, fo (G 30 0) "Cycle.__init__" m3 (R 181)),
  (189, fo (G 30 1) "Cycle.take_in" m3 (R 188)),
  (196, fo (G 30 2) "Cycle.resize" m3 (R 195)),
  (203, fo (G 30 3) "Cycle.is_dead" m3 (R 202)),
  (210, fo (G 30 4) "Cycle.is_kept" m3 (R 209)),
  (217, fo (G 30 5) "Cycle.roots" m3 (R 216)),
  (224, fo (G 30 6) "Cycle.late_roots" m3 (R 223)),
  (231, fo (G 30 7) "Cycle.mark_roots" m3 (R 230)),
  (238, fo (G 30 8) "Cycle.at_end" m3 (R 237)),
  (245, fo (G 30 9) "Cycle.atomic" m3 (R 244)),
  (252, fo (G 30 10) "Cycle.free" m3 (R 251)),
  (259, fo (G 30 11) "Cycle.sweep" m3 (R 258)),
  (266, fo (G 30 12) "Cycle.finalize" m3 (R 265)),
  (273, fo (G 30 13) "Cycle.single_step" m3 (R 272)),
  (280, fo (G 30 14) "Cycle.set_threshold" m3 (R 279)),
  (287, fo (G 30 15) "Cycle.step" m3 (R 286)),
  (294, fo (G 30 16) "Cycle.check" m3 (R 293)),
  (301, fo (G 30 17) "Cycle.steps" m3 (R 300)),
  (308, fo (G 30 18) "Cycle.full" m3 (R 307)),
  (315, fo (G 30 19) "Cycle.stop" m3 (R 314)),
  (322, fo (G 30 20) "Cycle.restart" m3 (R 321)),
  (329, fo (G 30 21) "Cycle.set_pause" m3 (R 328)),
  (336, fo (G 30 22) "Cycle.set_step_mul" m3 (R 335)),
  (343, fo (G 30 23) "Cycle.wrong_edges" m3 (R 342)),
  (357, fo (F 32) "separate" m4 (R 356)),
  (364, fo (F 34) "is_asked" m5 (R 363)),
  (378, fo (G 35 0) "EndCycle.__init__" m5 (R 377)),
  (385, fo (G 35 1) "EndCycle.is_reached" m5 (R 384)),
  (392, fo (G 35 2) "EndCycle.is_nowhere" m5 (R 391)),
  (397, fo (G 35 3) "EndCycle.part_datas" m5 (R 396)),
  (404, fo (G 35 4) "EndCycle.keep_finalizing" m5 (R 403)),
  (411, fo (G 35 5) "EndCycle.at_end" m5 (R 410)),
  (418, fo (G 35 6) "EndCycle.first_to_end" m5 (R 417)),
  (437, fo (G 38 1) "HeapObject.__init__" m6 (R 436)),
  (451, fo (F 40) "_law_told" m7 (R 450)),
  (458, fo (F 41) "_law_heap" m7 (R 457)),
  (465, fo (F 42) "_law_reached" m7 (R 464)),
  (470, fo (F 43) "_law_rooted" m7 (R 469)),
  (475, fo (F 44) "_law_drained" m7 (R 474)),
  (482, fo (F 45) "_law_done" m7 (R 481)),
  (489, fo (F 46) "_law_cycles" m7 (R 488)),
  (494, fo (F 47) "_law_end_right" m7 (R 493)),
  (499, fo (F 48) "law" m7 (R 498)),
  (20, cd 15 187 1 1 1 (F 0) "_wall"),
  (27, cd 22 216 15 1 1 (F 12) "is_white"),
  (41, cd 36 235 19 3 3 (G 13 0) "Marks.__init__"),
  (48, cd 43 244 27 2 2 (G 13 1) "Marks.is_dead"),
  (55, cd 50 252 30 2 2 (G 13 2) "Marks.make_white"),
  (62, cd 57 260 33 2 2 (G 13 3) "Marks.revive"),
  (69, cd 64 268 36 1 1 (G 13 4) "Marks.forget"),
  (76, cd 71 275 41 2 3 (G 13 5) "Marks.begin"),
  (83, cd 78 284 46 2 4 (G 13 6) "Marks.mark"),
  (90, cd 85 294 59 1 4 (G 13 7) "Marks.propagate"),
  (97, cd 92 304 73 1 2 (G 13 8) "Marks.propagate_all"),
  (104, cd 99 312 79 2 3 (G 13 9) "Marks.finish"),
  (111, cd 106 321 88 1 1 (G 13 10) "Marks.flip"),
  (118, cd 113 328 91 4 4 (G 13 11) "Marks.barrier"),
  (125, cd 120 338 99 2 2 (G 13 12) "Marks.barrier_back"),
  (132, cd 127 346 102 2 2 (G 13 13) "Marks.wrong_edges"),
  (146, cd 141 370 105 6 8 (F 15) "sweep_some"),
  (153, cd 148 384 116 3 3 (F 16) "debt_after"),
  (160, cd 155 393 118 3 4 (F 17) "work_of_step"),
  (167, cd 162 403 123 2 2 (F 18) "next_threshold"),
  (181, cd 176 447 138 3 3 (G 30 0) "Cycle.__init__"),
  (188, cd 183 456 154 4 4 (G 30 1) "Cycle.take_in"),
  (195, cd 190 466 161 3 3 (G 30 2) "Cycle.resize"),
  (202, cd 197 475 164 2 2 (G 30 3) "Cycle.is_dead"),
  (209, cd 204 483 167 2 2 (G 30 4) "Cycle.is_kept"),
  (216, cd 211 491 170 1 1 (G 30 5) "Cycle.roots"),
  (223, cd 218 498 173 2 2 (G 30 6) "Cycle.late_roots"),
  (230, cd 225 506 176 1 1 (G 30 7) "Cycle.mark_roots"),
  (237, cd 232 513 180 1 1 (G 30 8) "Cycle.at_end"),
  (244, cd 239 520 183 2 3 (G 30 9) "Cycle.atomic"),
  (251, cd 246 529 191 2 2 (G 30 10) "Cycle.free"),
  (258, cd 253 537 196 1 2 (G 30 11) "Cycle.sweep"),
  (265, cd 260 545 204 2 2 (G 30 12) "Cycle.finalize"),
  (272, cd 267 553 210 2 2 (G 30 13) "Cycle.single_step"),
  (279, cd 274 561 223 1 1 (G 30 14) "Cycle.set_threshold"),
  (286, cd 281 568 226 2 4 (G 30 15) "Cycle.step"),
  (293, cd 288 578 241 2 2 (G 30 16) "Cycle.check"),
  (300, cd 295 586 244 3 3 (G 30 17) "Cycle.steps"),
  (307, cd 302 595 252 2 2 (G 30 18) "Cycle.full"),
  (314, cd 309 603 264 1 1 (G 30 19) "Cycle.stop"),
  (321, cd 316 610 267 1 1 (G 30 20) "Cycle.restart"),
  (328, cd 323 617 270 2 2 (G 30 21) "Cycle.set_pause"),
  (335, cd 330 625 273 2 2 (G 30 22) "Cycle.set_step_mul"),
  (342, cd 337 633 276 1 1 (G 30 23) "Cycle.wrong_edges"),
  (356, cd 351 664 279 4 8 (F 32) "separate"),
  (363, cd 358 680 292 1 1 (F 34) "is_asked"),
  (377, cd 372 699 296 5 5 (G 35 0) "EndCycle.__init__"),
  (384, cd 379 710 303 2 2 (G 35 1) "EndCycle.is_reached"),
  (391, cd 386 718 306 2 2 (G 35 2) "EndCycle.is_nowhere"),
  (396, cd5 393 726 309 2 (G 35 3) "EndCycle.part_datas"),
  (403, cd 398 732 317 1 2 (G 35 4) "EndCycle.keep_finalizing"),
  (410, cd 405 740 322 1 3 (G 35 5) "EndCycle.at_end"),
  (417, cd 412 749 330 1 2 (G 35 6) "EndCycle.first_to_end"),
  (436, cd 431 783 340 3 3 (G 38 1) "HeapObject.__init__"),
  (450, cd 445 805 345 2 3 (F 40) "_law_told"),
  (457, cd 452 814 351 4 14 (F 41) "_law_heap"),
  (464, cd 459 834 372 2 5 (F 42) "_law_reached"),
  (469, cd5 466 845 380 2 (F 43) "_law_rooted"),
  (474, cd5 471 851 382 1 (F 44) "_law_drained"),
  (481, cd 476 857 388 4 10 (F 45) "_law_done"),
  (488, cd 483 873 404 2 4 (F 46) "_law_cycles"),
  (493, cd5 490 883 412 4 (F 47) "_law_end_right"),
  (498, cd5 495 889 418 1 (F 48) "law"),
  (2, boot_o_2 P),
  (3, d3 P (S "law_sa0471_01" 803) 50 51),
  (135, dO [K P "__module__" 230 (S "lua.marks" 194), K P "__firstlineno__" 234 (I 17 233), K P "__init__" 243 (R 42), K P "is_dead" 251 (R 49), K P "make_white" 259 (R 56), K P "revive" 267 (R 63), K P "forget" 274 (R 70), K P "begin" 283 (R 77), K P "mark" 293 (R 84), K P "propagate" 303 (R 91), K P "propagate_all" 311 (R 98), K P "finish" 320 (R 105), K P "flip" 327 (R 112), K P "barrier" 337 (R 119), K P "barrier_back" 345 (R 126), K P "wrong_edges" 353 (R 133), K P "__static_attributes__" 360 (R 134), K P "__dict__" 362 (R 137), K P "__weakref__" 364 (R 138), K P "__doc__" 365 .none] 4),
  (136, cl [none, none, some (S "Marks" 223), some (S "Marks" 231), some (.builtin "object.__new__"), some (.bool true)] "Marks" [(.type "object")] [(R 136), (.type "object")] 135 []),
  (137, fl "getset_descriptor" [(S "__dict__" 361), (R 136), (.builtin "function.__dict__"), (.builtin "function.__dict__#set")]),
  (138, fl "getset_descriptor" [(S "__weakref__" 363), (R 136), (.builtin "ExceptionGroup.__weakref__"), .none]),
  (345, dO [K P "__module__" 442 (S "lua.cycles" 411), K P "__firstlineno__" 446 (I 136 445), K P "__init__" 455 (R 182), K P "take_in" 465 (R 189), K P "resize" 474 (R 196), K P "is_dead" 482 (R 203), K P "is_kept" 490 (R 210), K P "roots" 497 (R 217), K P "late_roots" 505 (R 224), K P "mark_roots" 512 (R 231), K P "at_end" 519 (R 238), K P "atomic" 528 (R 245), K P "free" 536 (R 252), K P "sweep" 544 (R 259), K P "finalize" 552 (R 266), K P "single_step" 560 (R 273), K P "set_threshold" 567 (R 280), K P "step" 577 (R 287), K P "check" 585 (R 294), K P "steps" 594 (R 301), K P "full" 602 (R 308), K P "stop" 609 (R 315), K P "restart" 616 (R 322), K P "set_pause" 624 (R 329), K P "set_step_mul" 632 (R 336), K P "wrong_edges" 639 (R 343), K P "__static_attributes__" 654 (R 344), K P "__dict__" 656 (R 347), K P "__weakref__" 658 (R 348), K P "__doc__" 659 .none] 4),
  (346, d346 [R 421]),
  (347, fl "getset_descriptor" [(S "__dict__" 655), (R 346), (.builtin "function.__dict__"), (.builtin "function.__dict__#set")]),
  (348, fl "getset_descriptor" [(S "__weakref__" 657), (R 346), (.builtin "ExceptionGroup.__weakref__"), .none]),
  (420, dO [K P "__module__" 694 (S "lua.ends" 678), K P "__firstlineno__" 698 (I 294 697), K P "__init__" 709 (R 378), K P "is_reached" 717 (R 385), K P "is_nowhere" 725 (R 392), K P "part_datas" 731 (R 397), K P "keep_finalizing" 739 (R 404), K P "at_end" 748 (R 411), K P "first_to_end" 756 (R 418), K P "__static_attributes__" 761 (R 419), K P "__doc__" 762 .none] 2),
  (421, cl [some (R 365), none, some (S "EndCycle" 687), some (S "EndCycle" 695), some (.builtin "object.__new__"), some (.bool true)] "EndCycle" [(R 346)] [(R 421), (R 346), (.type "object")] 420 []),
  (439, dO [K P "__module__" 777 (S "lua.values" 765), K P "__firstlineno__" 781 (I 337 780), K P "kind" 782 (I (-1) 768), K P "__init__" 791 (R 437), K P "__static_attributes__" 795 (R 438), K P "__dict__" 797 (R 441), K P "__weakref__" 799 (R 442), K P "__doc__" 800 .none] 4),
  (440, cl [none, none, some (S "HeapObject" 770), some (S "HeapObject" 778), some (.builtin "object.__new__"), some (.bool true)] "HeapObject" [(.type "object")] [(R 440), (.type "object")] 439 []),
  (441, fl "getset_descriptor" [(S "__dict__" 796), (R 440), (.builtin "function.__dict__"), (.builtin "function.__dict__#set")]),
  (442, fl "getset_descriptor" [(S "__weakref__" 798), (R 440), (.builtin "ExceptionGroup.__weakref__"), .none])]
noncomputable abbrev as0 : List Addr := [21, 28, 42, 49, 56, 63, 70, 77, 84, 91, 98, 105, 112, 119, 126, 133, 147, 154, 161, 168, 182, 189, 196, 203, 210, 217, 224, 231, 238, 245, 252, 259, 266, 273, 280, 287, 294, 301, 308, 315, 322, 329, 336, 343, 357, 364, 378, 385, 392, 397, 404, 411, 418, 437, 451, 458, 465, 470, 475, 482, 489, 494, 499, 20, 27, 41, 48, 55, 62, 69, 76, 83, 90, 97, 104, 111, 118, 125, 132, 146, 153, 160, 167, 181, 188, 195, 202, 209, 216, 223, 230, 237, 244, 251, 258, 265, 272, 279, 286, 293, 300, 307, 314, 321, 328, 335, 342, 356, 363, 377, 384, 391, 396, 403, 410, 417, 436, 450, 457, 464, 469, 474, 481, 488, 493, 498, 2, 3, 135, 136, 137, 138, 345, 346, 347, 348, 420, 421, 439, 440, 441, 442]
noncomputable def s0 (w : World) (os : OsState) : SharedT := st w os (boot_o_3 w.params) (d12 0) (d346 [R 421]) 15 187
noncomputable def s1 (w : World) (os : OsState) : SharedT := st w os (d3 w.params (S "lua.marks" 194) 21 22) (d12 9) (d346 [R 421]) 141 368
noncomputable def s2 (w : World) (os : OsState) : SharedT := st w os (d3 w.params (S "lua.cycles" 411) 35 36) (d12 21) (d346 [R 421]) 169 435
noncomputable def s3 (w : World) (os : OsState) : SharedT := st w os (d3 w.params (S "lua.cycles" 411) 36 37) (d12 24) (d346 []) 351 662
noncomputable def s4 (w : World) (os : OsState) : SharedT := st w os (d3 w.params (S "law_sa0471_01" 803) 50 51) (d12 63) (d346 [R 421]) 500 895
noncomputable def hF (P : Params) : Heap := ⟨⟨ol P (d3 P (S "law_sa0471_01" 803) 50 51) (d12 63) (d346 [R 421])⟩, {}⟩
noncomputable abbrev l0 : List Stmt := (bE.drop 0).take 14
noncomputable abbrev l1 : List Stmt := (bE.drop 14).take 16
noncomputable abbrev l2 : List Stmt := (bE.drop 30).take 1
noncomputable abbrev l3 : List Stmt := (bE.drop 31).take 18
theorem hpre (w : World) (os : OsState) : topGo treeTable pg w 11 (some (.ref 6)) 12 ⟨boot_heap w.params, Array.mk [], boot_drawn, boot_toks, os⟩ (topStub pg) = some ((s0 w os).abs, ⟨denote treeTable cE, cE, ⟨0, 0, 0, 0⟩, B0⟩) := by
  kernel_rfl
theorem hblock (w : World) (os : OsState) : segRun treeTable pg w 11 (some (.ref 6)) 1 1 (s0 w os).abs (blockOf bE env0 cE ⟨0, 0, 0, 0⟩ B0) = some (.next, (s0 w os).abs, cE, ⟨0, 0, 0, 0⟩) := by kernel_rfl
theorem hp0 (w : World) (os : OsState) : segRunT treeTable pg w 11 (some (.ref 6)) 1 808 (s0 w os) (piecesOf l0 env0 cE ⟨0, 0, 0, 0⟩ B0) = some (.next, s1 w os, cE, ⟨17, 0, 103, 16⟩) := by
  rw [PySem.W.Fast.te10110043849684766642, PySem.W.Fast.te14364793385576792824]; kernel_rfl
theorem hp1 (w : World) (os : OsState) : segRunT treeTable pg w 11 (some (.ref 6)) 1 244 (s1 w os) (piecesOf l1 env0 cE ⟨17, 0, 103, 16⟩ B0) = some (.next, s2 w os, cE, ⟨135, 0, 135, 16⟩) := by
  rw [PySem.W.Fast.te10110043849684766642, PySem.W.Fast.te14364793385576792824]; kernel_rfl
theorem hp2 (w : World) (os : OsState) : segRunT treeTable pg w 11 (some (.ref 6)) 1 973 (s2 w os) (piecesOf l2 env0 cE ⟨135, 0, 135, 16⟩ B0) = some (.next, s3 w os, cE, ⟨136, 0, 277, 16⟩) := by
  rw [PySem.W.Fast.te10110043849684766642, PySem.W.Fast.te14364793385576792824]; kernel_rfl
theorem hp3 (w : World) (os : OsState) : segRunT treeTable pg w 11 (some (.ref 6)) 1 1074 (s3 w os) (piecesOf l3 env0 cE ⟨136, 0, 277, 16⟩ B0) = some (.next, s4 w os, cE, ⟨418, 0, 448, 102⟩) := by
  rw [PySem.W.Fast.te10110043849684766642, PySem.W.Fast.te14364793385576792824]; kernel_rfl
theorem hfin (w : World) (os : OsState) : topRun treeTable pg w 11 (some (.ref 6)) 2 (s4 w os).abs ⟨doneF .next, cE, ⟨418, 0, 448, 102⟩, B0⟩ = some ⟨hF w.params, Array.mk [], {}, 895, os⟩ := by kernel_rfl
theorem hbody : bE = l0 ++ (l1 ++ (l2 ++ (l3 ++ []))) := by kernel_rfl
theorem hrun (w : World) (os : OsState) : topRun treeTable pg w 11 (some (.ref 6)) 3114 ⟨boot_heap w.params, Array.mk [], boot_drawn, boot_toks, os⟩ (topStub pg) = some ⟨hF w.params, Array.mk [], {}, 895, os⟩ := by
  have k := piece_app (segRun_of (hp0 w os)) (piece_app (segRun_of (hp1 w os)) (piece_app (segRun_of (hp2 w os)) (piece_app (segRun_of (hp3 w os)) (piece_nil (hfin w os)))))
  rw [← hbody] at k
  exact go_top (hpre w os) (piece_block (hblock w os) k)
end

/-! part H2 -/
noncomputable section
noncomputable def vw : Program := { pg with main := { pg.main with body := [F 48] } }
noncomputable def loose0 : List Str := (["_wall", "WHITE", "OTHER_WHITE", "GREY", "BLACK", "FREED", "SORT_PLAIN", "SORT_LEAF", "SORT_OPEN", "SORT_AGAIN", "SORT_WEAK", "is_white", "Marks", "sweep_some", "debt_after", "work_of_step", "next_threshold", "PAUSE", "PROPAGATE", "SWEEP", "FINALIZE", "NEVER", "STEP_SIZE", "SWEEP_MAX", "SWEEP_COST", "DEFAULT_PAUSE", "DEFAULT_STEP_MUL", "Cycle", "separate", "is_asked", "EndCycle", "T_NONE", "HeapObject", "_law_told", "_law_heap", "_law_reached", "_law_rooted", "_law_drained", "_law_done", "_law_cycles", "_law_end_right"] : List String).map Str.ofString
noncomputable abbrev dl : DefRec := (DefRec.ofStmt? (F 48)).elim ⟨"law", default, [], default, default⟩ id
theorem hop : ∀ w : World, (fencedOpening treeTable pg w 7000).map (fun s => (s.heap, s.gens, s.drawn, s.toks)) = some (boot_heap w.params, Array.mk [], boot_drawn, boot_toks) :=
  boot_open (by kernel_rfl) (by kernel_rfl) (fun s => by kernel_rfl)
theorem hsize (w : World) : ((boot_heap w.params).isNs mainGlobals && (Array.mk [] : Array GenState).size == 0, (boot_heap w.params).objs.size, (boot_heap w.params).nsMap mainGlobals "__annotations__") = (true, 11, some (.ref 6)) := by kernel_rfl
theorem has0 : ∀ P : Params, as0 = (KF P).map (·.1) := fun _ => by kernel_rfl
noncomputable abbrev hook0 : Hook := kmHook KF as0 has0 [453]
noncomputable abbrev Xt0 : Shared → Bool := fun s => xlAt vw [] s && recOk (RowW.records rr.toRowW) s
noncomputable abbrev sF (w : World) (os : OsState) : Shared := ⟨hF w.params, Array.mk [], {}, 895, os⟩
theorem lk1 (w : World) : staticsOk (importedModules pg.main.body) (boot_heap w.params) (hF w.params) = true := by kernel_rfl
theorem lk2 (w : World) : namesBound pg (hF w.params) = true := by
  unfold namesBound; rw [PySem.W.Fast.te18344453789297297638]; kernel_rfl
theorem lk3 (w : World) (os : OsState) : gensDone (sF w os) = true := by kernel_rfl
theorem lk4 (w : World) : laidKept (boot_heap w.params) (hF w.params) = true := by kernel_rfl
theorem lk5 (w : World) (os : OsState) : hook0.obs (sF w os) = hook0.val w := by kernel_rfl
theorem lk6 (w : World) (os : OsState) : openSeen vw loose0 (importedModules pg.main.body) Xt0 true (sF w os) = openGood vw loose0 := by
  rw [PySem.W.Fast.te4187177175401517315]; kernel_rfl
theorem left0 : LeftO pg vw loose0 Xt0 hook0.obs hook0.val 7000 true := LeftO.of_pieces hop hsize hrun (by kernel_rfl) fun w => funext fun os => looks_pair (look_both (look_both (look_both (lk1 w) (lk2 w)) (lk3 w os)) (lk4 w)) (looks_pair (lk6 w os) (lk5 w os))
theorem hwell : OpenLaw.wellSaid PySem.Challenge.rw_sa0471_01 = true := (congrFun PySem.W.Fast.te9446332074065402090 _).trans (by kernel_rfl)
theorem hwit : rr.toRowW.promised := by w_witness2
theorem hd (walk : WalkO vw loose0 (XL vw []) (kmHook KF as0 has0 [453]).says rr.toRowW dl [] fun f vs => PySem.call f vs) : PySem.Challenge.rw_sa0471_01.Holds :=
  holds_law hwell fun said => holds_open (r := rr) (q := vw) (loose := loose0) (Xt := Xt0) (XP := XL vw []) (Yf := hook0.obs) (Ya := hook0.val) (YP := hook0.says) (d := dl) (kwd := []) (N := 7000) left0 hook0.of hook0.keeps
    (fun s e => xl_of s (Bool.and_eq_true_iff.mp e).1) XL.keeps (by kernel_rfl) (by kernel_rfl) (by kernel_rfl) (fun s e => recFacts_of (Bool.and_eq_true_iff.mp e).2) rfl said (by kernel_rfl) ⟨rfl, rfl, rfl, rfl, rfl, by decide +kernel⟩ hwit walk
end

/-! part M3 -/
noncomputable abbrev PG : Program := PySem.Challenge.rw_sa0471_01.row.prog
noncomputable abbrev KK (w : World) : Frag := KF w.params

/-- what stands of a world -/
structure Wd where
  k : Nat
  n : Nat
  C : Addr
  dC : Addr
  M : Addr
  dM : Addr
  objsA : Addr
  O : Nat → Addr
  D : Nat → Addr
  num : Nat → Nat
  chF : Addr
  soF : Addr
  clF : Addr
  waF : Addr
  size : Nat → Int
  sort : Nat → Int
  kind : Nat → Int
  rev : Bool

/-- what turns -/
structure Sg where
  mark : Nat → Int
  fz : Nat → Bool
  objs : List Nat
  grey : List Nat
  again : List Nat
  sweep : List Nat
  datas : List Nat
  tofin : List Nat
  rootl : List Nat
  white : Int
  phase : Int
  total : Int
  cycles : Int
  greyA : Addr
  againA : Addr
  weakA : Addr
  sweepA : Addr
  datasA : Addr
  tofinA : Addr
  rootA : Addr

structure Nm where
  est : Int
  debt : Int
  thr : Int
  ss : Int
noncomputable def Nm.Ok (q : Nm) : Prop := 0 ≤ q.est ∧ q.est ≤ 1000 ∧ 1 ≤ q.ss ∧ q.ss ≤ 64

noncomputable abbrev cycNames : List Str := ["objects", "marks", "root_list", "phase", "to_sweep", "total", "estimate", "debt", "step_size", "sweep_max", "threshold", "pause", "step_mul", "cycles", "clear_weak", "wants_end", "datas", "to_finalize"]
noncomputable abbrev marksNames : List Str := ["children", "sort_of", "white", "grey", "grey_again", "weak"]
noncomputable abbrev objNames : List Str := ["number", "mark", "size", "is_finalized"]
theorem cyc_nd : cycNames.Nodup := by decide +kernel
theorem marks_nd : marksNames.Nodup := by decide +kernel
theorem obj_nd : objNames.Nodup := by decide +kernel

noncomputable abbrev cycVals (W : Wd) (σ : Sg) (q : Nm) (tk : Nat → Tok) : List (Option Value) :=
  [some (.ref W.objsA), some (.ref W.M), some (.ref σ.rootA), some (.int σ.phase (tk 3)), some (.ref σ.sweepA), some (.int σ.total (tk 5)), some (.int q.est (tk 6)), some (.int q.debt (tk 7)), some (.int q.ss (tk 8)), some (.int 16 (tk 9)),
   some (.int q.thr (tk 10)), some (.int 200 (tk 11)), some (.int 200 (tk 12)), some (.int σ.cycles (tk 13)), some (.ref W.clF), some (.ref W.waF), some (.ref σ.datasA), some (.ref σ.tofinA)]
noncomputable abbrev marksVals (W : Wd) (σ : Sg) (t : Tok) : List (Option Value) := [some (.ref W.chF), some (.ref W.soF), some (.int σ.white t), some (.ref σ.greyA), some (.ref σ.againA), some (.ref σ.weakA)]
noncomputable abbrev objVals (W : Wd) (σ : Sg) (i : Nat) (t0 t1 t2 : Tok) : List (Option Value) := [some (.int (W.num i : Int) t0), some (.int (σ.mark i) t1), some (.int (W.size i) t2), some (.bool (σ.fz i))]
noncomputable def Wd.refs (W : Wd) (l : List Nat) : List Value := l.map fun i => .ref (W.O i)
noncomputable def Wd.nums (W : Wd) (l : List Nat) : List Int := l.map fun i => (W.num i : Int)
noncomputable def Wd.pairs (W : Wd) (l : List Nat) : List (Int × Value) := l.map fun i => ((W.num i : Int), .ref (W.O i))

structure WR (W : Wd) (σ : Sg) (H : LH) : Prop where
  c : H W.C = some ((W.k, 0, 0), .inst 421 W.dC)
  dc : ∃ q tk, q.Ok ∧ H W.dC = some ((W.k, 1, 0), .ns 18 (lk cycNames (cycVals W σ q tk)))
  m : H W.M = some ((W.k, 2, 0), .inst 136 W.dM)
  dm : ∃ t, H W.dM = some ((W.k, 3, 0), .ns 6 (lk marksNames (marksVals W σ t)))
  o : ∀ i < W.n, H (W.O i) = some ((W.k, 4, i), .inst 440 (W.D i))
  d : ∀ i < W.n, ∃ t0 t1 t2, H (W.D i) = some ((W.k, 5, i), .ns 4 (lk objNames (objVals W σ i t0 t1 t2)))
  objs : H W.objsA = some ((W.k, 6, 0), .idict (W.pairs σ.objs))
  grey : H σ.greyA = some ((W.k, 7, 0), .list (W.refs σ.grey))
  again : H σ.againA = some ((W.k, 8, 0), .list (W.refs σ.again))
  weak : H σ.weakA = some ((W.k, 9, 0), .list [])
  sweep : ∃ vs, H σ.sweepA = some ((W.k, 10, 0), .list vs) ∧ IntsAre vs (W.nums σ.sweep)
  datas : H σ.datasA = some ((W.k, 11, 0), .list (W.refs σ.datas))
  tofin : H σ.tofinA = some ((W.k, 12, 0), .list (W.refs σ.tofin))
  root : H σ.rootA = some ((W.k, 13, 0), .list (W.refs σ.rootl))

/-- what a deed of world k may turn -/
noncomputable def mine (k : Nat) (t : Tag) : Prop := t.1 = k ∧ t.2.1 ≤ 13
theorem mine_le {k r i : Nat} (h : r ≤ 13) : mine k (k, r, i) := ⟨rfl, h⟩
noncomputable def Frame (k : Nat) (H H' : LH) : Prop := ∀ a t c, H a = some (t, c) → ¬ mine k t → H' a = some (t, c)
theorem Frame.refl (k : Nat) (H : LH) : Frame k H H := fun _ _ _ e _ => e
theorem Frame.trans {k : Nat} {H H' H'' : LH} (a : Frame k H H') (b : Frame k H' H'') : Frame k H H'' := fun x t c e h => b x t c (a x t c e h) h

/-- all but what bears one tag stays -/
noncomputable def But (t : Tag) (H H' : LH) : Prop := ∀ a s c, H a = some (s, c) → s ≠ t → H' a = some (s, c)
theorem But.upd {H : LH} {a : Addr} {t : Tag} {c c' : Cell} (h : H a = some (t, c)) (t' : Tag) : But t H (Gc.upd H a (t', c')) := fun b s d e ne => by
  have : b ≠ a := fun q => by rw [q, h] at e; cases e; exact ne rfl
  rw [upd_ne _ _ this]; exact e
theorem But.new {H : LH} {a : Addr} {t : Tag} (h : H a = none) (x : Tag × Cell) : But t H (Gc.upd H a x) := fun b s d e _ => by
  have : b ≠ a := fun q => by rw [q, h] at e; cases e
  rw [upd_ne _ _ this]; exact e
theorem Frame.upd {k : Nat} {H : LH} {a : Addr} {t : Tag} {c : Cell} {x : Tag × Cell} (h : H a = some (t, c)) (hm : mine k t) : Frame k H (Gc.upd H a x) := fun b s d e ne => by
  have : b ≠ a := fun q => by rw [q, h] at e; cases e; exact ne hm
  rw [upd_ne _ _ this]; exact e
theorem Frame.new {k : Nat} {H : LH} {a : Addr} (h : H a = none) (x : Tag × Cell) : Frame k H (Gc.upd H a x) := fun b s d e _ => by
  have : b ≠ a := fun q => by rw [q, h] at e; cases e
  rw [upd_ne _ _ this]; exact e

theorem WR.keep {W : Wd} {σ : Sg} {H H' : LH} (h : WR W σ H) (k : ∀ a t c, H a = some (t, c) → mine W.k t → H' a = some (t, c)) : WR W σ H' where
  c := k _ _ _ h.c (mine_le (by decide))
  dc := let ⟨q, tk, a, b⟩ := h.dc; ⟨q, tk, a, k _ _ _ b (mine_le (by decide))⟩
  m := k _ _ _ h.m (mine_le (by decide))
  dm := let ⟨t, b⟩ := h.dm; ⟨t, k _ _ _ b (mine_le (by decide))⟩
  o := fun i hi => k _ _ _ (h.o i hi) (mine_le (by decide))
  d := fun i hi => let ⟨t0, t1, t2, b⟩ := h.d i hi; ⟨t0, t1, t2, k _ _ _ b (mine_le (by decide))⟩
  objs := k _ _ _ h.objs (mine_le (by decide))
  grey := k _ _ _ h.grey (mine_le (by decide))
  again := k _ _ _ h.again (mine_le (by decide))
  weak := k _ _ _ h.weak (mine_le (by decide))
  sweep := let ⟨vs, b, c⟩ := h.sweep; ⟨vs, k _ _ _ b (mine_le (by decide)), c⟩
  datas := k _ _ _ h.datas (mine_le (by decide))
  tofin := k _ _ _ h.tofin (mine_le (by decide))
  root := k _ _ _ h.root (mine_le (by decide))
/-- a thing that is made, or a thing of another's that turns, leaves the world as it is -/
theorem WR.new {W : Wd} {σ : Sg} {H : LH} (h : WR W σ H) {a : Addr} (e : H a = none) (x : Tag × Cell) : WR W σ (Gc.upd H a x) := h.keep fun b t c q _ => But.new (t := (0, 0, 0)) e x b t c q |> fun z => by
  by_cases ht : t = (0, 0, 0)
  · have : b ≠ a := fun q' => by rw [q', e] at q; cases q
    rw [upd_ne _ _ this]; exact q
  · exact z ht
theorem WR.other {W : Wd} {σ : Sg} {H : LH} (h : WR W σ H) {a : Addr} {t : Tag} {c : Cell} (e : H a = some (t, c)) (hm : ¬ mine W.k t) (x : Tag × Cell) : WR W σ (Gc.upd H a x) := h.keep fun b s d q m => by
  have : b ≠ a := fun q' => by rw [q', e] at q; cases q; exact hm m
  rw [upd_ne _ _ this]; exact q
theorem WR.frame {W : Wd} {σ : Sg} {H H' : LH} {k : Nat} (h : WR W σ H) (f : Frame k H H') (ne : W.k ≠ k) : WR W σ H' := h.keep fun a t c e m => f a t c e fun q => ne (m.1.symm.trans q.1)

theorem WR.setC {W : Wd} {σ : Sg} {x_phase : Int} {x_total : Int} {x_cycles : Int} {H H' : LH} (h : WR W σ H) (K : ∀ a t c, H a = some (t, c) → mine W.k t → ¬ (t.2.1 = 1) → H' a = some (t, c))
    {q : Nm} {tk : Nat → Tok} (hq : q.Ok) (e : H' W.dC = some ((W.k, 1, 0), .ns 18 (lk cycNames (cycVals W { σ with phase := x_phase, total := x_total, cycles := x_cycles } q tk)))) : WR W { σ with phase := x_phase, total := x_total, cycles := x_cycles } H' := {
    c := K _ _ _ h.c (mine_le (by decide)) (show ¬ ((0 : Nat) = 1) by decide)
    dc := ⟨q, tk, hq, e⟩
    m := K _ _ _ h.m (mine_le (by decide)) (show ¬ ((2 : Nat) = 1) by decide)
    dm := let ⟨u, y⟩ := h.dm; ⟨u, K _ _ _ y (mine_le (by decide)) (show ¬ ((3 : Nat) = 1) by decide)⟩
    o := fun j hj => K _ _ _ (h.o j hj) (mine_le (by decide)) (show ¬ ((4 : Nat) = 1) by decide)
    d := fun j hj => let ⟨t0, t1, t2, y⟩ := h.d j hj; ⟨t0, t1, t2, K _ _ _ y (mine_le (by decide)) (show ¬ ((5 : Nat) = 1) by decide)⟩
    objs := K _ _ _ h.objs (mine_le (by decide)) (show ¬ ((6 : Nat) = 1) by decide)
    grey := K _ _ _ h.grey (mine_le (by decide)) (show ¬ ((7 : Nat) = 1) by decide)
    again := K _ _ _ h.again (mine_le (by decide)) (show ¬ ((8 : Nat) = 1) by decide)
    weak := K _ _ _ h.weak (mine_le (by decide)) (show ¬ ((9 : Nat) = 1) by decide)
    sweep := let ⟨vs, y, z⟩ := h.sweep; ⟨vs, K _ _ _ y (mine_le (by decide)) (show ¬ ((10 : Nat) = 1) by decide), z⟩
    datas := K _ _ _ h.datas (mine_le (by decide)) (show ¬ ((11 : Nat) = 1) by decide)
    tofin := K _ _ _ h.tofin (mine_le (by decide)) (show ¬ ((12 : Nat) = 1) by decide)
    root := K _ _ _ h.root (mine_le (by decide)) (show ¬ ((13 : Nat) = 1) by decide)
  }

theorem WR.setRoot {W : Wd} {σ : Sg} {x_rootl : List Nat} {x_rootA : Addr} {H H' : LH} (h : WR W σ H) (K : ∀ a t c, H a = some (t, c) → mine W.k t → ¬ (t.2.1 = 1 ∨ t.2.1 = 13) → H' a = some (t, c))
    {q : Nm} {tk : Nat → Tok} (hq : q.Ok) (e : H' W.dC = some ((W.k, 1, 0), .ns 18 (lk cycNames (cycVals W { σ with rootl := x_rootl, rootA := x_rootA } q tk)))) (e2 : H' x_rootA = some ((W.k, 13, 0), .list (W.refs x_rootl))) : WR W { σ with rootl := x_rootl, rootA := x_rootA } H' := {
    c := K _ _ _ h.c (mine_le (by decide)) (show ¬ ((0 : Nat) = 1 ∨ (0 : Nat) = 13) by decide)
    dc := ⟨q, tk, hq, e⟩
    m := K _ _ _ h.m (mine_le (by decide)) (show ¬ ((2 : Nat) = 1 ∨ (2 : Nat) = 13) by decide)
    dm := let ⟨u, y⟩ := h.dm; ⟨u, K _ _ _ y (mine_le (by decide)) (show ¬ ((3 : Nat) = 1 ∨ (3 : Nat) = 13) by decide)⟩
    o := fun j hj => K _ _ _ (h.o j hj) (mine_le (by decide)) (show ¬ ((4 : Nat) = 1 ∨ (4 : Nat) = 13) by decide)
    d := fun j hj => let ⟨t0, t1, t2, y⟩ := h.d j hj; ⟨t0, t1, t2, K _ _ _ y (mine_le (by decide)) (show ¬ ((5 : Nat) = 1 ∨ (5 : Nat) = 13) by decide)⟩
    objs := K _ _ _ h.objs (mine_le (by decide)) (show ¬ ((6 : Nat) = 1 ∨ (6 : Nat) = 13) by decide)
    grey := K _ _ _ h.grey (mine_le (by decide)) (show ¬ ((7 : Nat) = 1 ∨ (7 : Nat) = 13) by decide)
    again := K _ _ _ h.again (mine_le (by decide)) (show ¬ ((8 : Nat) = 1 ∨ (8 : Nat) = 13) by decide)
    weak := K _ _ _ h.weak (mine_le (by decide)) (show ¬ ((9 : Nat) = 1 ∨ (9 : Nat) = 13) by decide)
    sweep := let ⟨vs, y, z⟩ := h.sweep; ⟨vs, K _ _ _ y (mine_le (by decide)) (show ¬ ((10 : Nat) = 1 ∨ (10 : Nat) = 13) by decide), z⟩
    datas := K _ _ _ h.datas (mine_le (by decide)) (show ¬ ((11 : Nat) = 1 ∨ (11 : Nat) = 13) by decide)
    tofin := K _ _ _ h.tofin (mine_le (by decide)) (show ¬ ((12 : Nat) = 1 ∨ (12 : Nat) = 13) by decide)
    root := e2
  }

theorem WR.setSweepNew {W : Wd} {σ : Sg} {x_sweep : List Nat} {x_sweepA : Addr} {H H' : LH} (h : WR W σ H) (K : ∀ a t c, H a = some (t, c) → mine W.k t → ¬ (t.2.1 = 1 ∨ t.2.1 = 10) → H' a = some (t, c))
    {q : Nm} {tk : Nat → Tok} (hq : q.Ok) (e : H' W.dC = some ((W.k, 1, 0), .ns 18 (lk cycNames (cycVals W { σ with sweep := x_sweep, sweepA := x_sweepA } q tk)))) {vs : List Value} (e2 : H' x_sweepA = some ((W.k, 10, 0), .list vs)) (e3 : IntsAre vs (W.nums x_sweep)) : WR W { σ with sweep := x_sweep, sweepA := x_sweepA } H' := {
    c := K _ _ _ h.c (mine_le (by decide)) (show ¬ ((0 : Nat) = 1 ∨ (0 : Nat) = 10) by decide)
    dc := ⟨q, tk, hq, e⟩
    m := K _ _ _ h.m (mine_le (by decide)) (show ¬ ((2 : Nat) = 1 ∨ (2 : Nat) = 10) by decide)
    dm := let ⟨u, y⟩ := h.dm; ⟨u, K _ _ _ y (mine_le (by decide)) (show ¬ ((3 : Nat) = 1 ∨ (3 : Nat) = 10) by decide)⟩
    o := fun j hj => K _ _ _ (h.o j hj) (mine_le (by decide)) (show ¬ ((4 : Nat) = 1 ∨ (4 : Nat) = 10) by decide)
    d := fun j hj => let ⟨t0, t1, t2, y⟩ := h.d j hj; ⟨t0, t1, t2, K _ _ _ y (mine_le (by decide)) (show ¬ ((5 : Nat) = 1 ∨ (5 : Nat) = 10) by decide)⟩
    objs := K _ _ _ h.objs (mine_le (by decide)) (show ¬ ((6 : Nat) = 1 ∨ (6 : Nat) = 10) by decide)
    grey := K _ _ _ h.grey (mine_le (by decide)) (show ¬ ((7 : Nat) = 1 ∨ (7 : Nat) = 10) by decide)
    again := K _ _ _ h.again (mine_le (by decide)) (show ¬ ((8 : Nat) = 1 ∨ (8 : Nat) = 10) by decide)
    weak := K _ _ _ h.weak (mine_le (by decide)) (show ¬ ((9 : Nat) = 1 ∨ (9 : Nat) = 10) by decide)
    sweep := ⟨vs, e2, e3⟩
    datas := K _ _ _ h.datas (mine_le (by decide)) (show ¬ ((11 : Nat) = 1 ∨ (11 : Nat) = 10) by decide)
    tofin := K _ _ _ h.tofin (mine_le (by decide)) (show ¬ ((12 : Nat) = 1 ∨ (12 : Nat) = 10) by decide)
    root := K _ _ _ h.root (mine_le (by decide)) (show ¬ ((13 : Nat) = 1 ∨ (13 : Nat) = 10) by decide)
  }

theorem WR.setDatasNew {W : Wd} {σ : Sg} {x_datas : List Nat} {x_datasA : Addr} {H H' : LH} (h : WR W σ H) (K : ∀ a t c, H a = some (t, c) → mine W.k t → ¬ (t.2.1 = 1 ∨ t.2.1 = 11) → H' a = some (t, c))
    {q : Nm} {tk : Nat → Tok} (hq : q.Ok) (e : H' W.dC = some ((W.k, 1, 0), .ns 18 (lk cycNames (cycVals W { σ with datas := x_datas, datasA := x_datasA } q tk)))) (e2 : H' x_datasA = some ((W.k, 11, 0), .list (W.refs x_datas))) : WR W { σ with datas := x_datas, datasA := x_datasA } H' := {
    c := K _ _ _ h.c (mine_le (by decide)) (show ¬ ((0 : Nat) = 1 ∨ (0 : Nat) = 11) by decide)
    dc := ⟨q, tk, hq, e⟩
    m := K _ _ _ h.m (mine_le (by decide)) (show ¬ ((2 : Nat) = 1 ∨ (2 : Nat) = 11) by decide)
    dm := let ⟨u, y⟩ := h.dm; ⟨u, K _ _ _ y (mine_le (by decide)) (show ¬ ((3 : Nat) = 1 ∨ (3 : Nat) = 11) by decide)⟩
    o := fun j hj => K _ _ _ (h.o j hj) (mine_le (by decide)) (show ¬ ((4 : Nat) = 1 ∨ (4 : Nat) = 11) by decide)
    d := fun j hj => let ⟨t0, t1, t2, y⟩ := h.d j hj; ⟨t0, t1, t2, K _ _ _ y (mine_le (by decide)) (show ¬ ((5 : Nat) = 1 ∨ (5 : Nat) = 11) by decide)⟩
    objs := K _ _ _ h.objs (mine_le (by decide)) (show ¬ ((6 : Nat) = 1 ∨ (6 : Nat) = 11) by decide)
    grey := K _ _ _ h.grey (mine_le (by decide)) (show ¬ ((7 : Nat) = 1 ∨ (7 : Nat) = 11) by decide)
    again := K _ _ _ h.again (mine_le (by decide)) (show ¬ ((8 : Nat) = 1 ∨ (8 : Nat) = 11) by decide)
    weak := K _ _ _ h.weak (mine_le (by decide)) (show ¬ ((9 : Nat) = 1 ∨ (9 : Nat) = 11) by decide)
    sweep := let ⟨vs, y, z⟩ := h.sweep; ⟨vs, K _ _ _ y (mine_le (by decide)) (show ¬ ((10 : Nat) = 1 ∨ (10 : Nat) = 11) by decide), z⟩
    datas := e2
    tofin := K _ _ _ h.tofin (mine_le (by decide)) (show ¬ ((12 : Nat) = 1 ∨ (12 : Nat) = 11) by decide)
    root := K _ _ _ h.root (mine_le (by decide)) (show ¬ ((13 : Nat) = 1 ∨ (13 : Nat) = 11) by decide)
  }

theorem WR.setMarks {W : Wd} {σ : Sg} {x_white : Int} {x_grey : List Nat} {x_again : List Nat} {x_greyA : Addr} {x_againA : Addr} {x_weakA : Addr} {H H' : LH} (h : WR W σ H) (K : ∀ a t c, H a = some (t, c) → mine W.k t → ¬ (t.2.1 = 3 ∨ t.2.1 = 7 ∨ t.2.1 = 8 ∨ t.2.1 = 9) → H' a = some (t, c))
    {u : Tok} (e : H' W.dM = some ((W.k, 3, 0), .ns 6 (lk marksNames (marksVals W { σ with white := x_white, grey := x_grey, again := x_again, greyA := x_greyA, againA := x_againA, weakA := x_weakA } u)))) (e1 : H' x_greyA = some ((W.k, 7, 0), .list (W.refs x_grey))) (e2 : H' x_againA = some ((W.k, 8, 0), .list (W.refs x_again))) (e3 : H' x_weakA = some ((W.k, 9, 0), .list [])) : WR W { σ with white := x_white, grey := x_grey, again := x_again, greyA := x_greyA, againA := x_againA, weakA := x_weakA } H' := {
    c := K _ _ _ h.c (mine_le (by decide)) (show ¬ ((0 : Nat) = 3 ∨ (0 : Nat) = 7 ∨ (0 : Nat) = 8 ∨ (0 : Nat) = 9) by decide)
    dc := let ⟨q, tk, x, y⟩ := h.dc; ⟨q, tk, x, K _ _ _ y (mine_le (by decide)) (show ¬ ((1 : Nat) = 3 ∨ (1 : Nat) = 7 ∨ (1 : Nat) = 8 ∨ (1 : Nat) = 9) by decide)⟩
    m := K _ _ _ h.m (mine_le (by decide)) (show ¬ ((2 : Nat) = 3 ∨ (2 : Nat) = 7 ∨ (2 : Nat) = 8 ∨ (2 : Nat) = 9) by decide)
    dm := ⟨u, e⟩
    o := fun j hj => K _ _ _ (h.o j hj) (mine_le (by decide)) (show ¬ ((4 : Nat) = 3 ∨ (4 : Nat) = 7 ∨ (4 : Nat) = 8 ∨ (4 : Nat) = 9) by decide)
    d := fun j hj => let ⟨t0, t1, t2, y⟩ := h.d j hj; ⟨t0, t1, t2, K _ _ _ y (mine_le (by decide)) (show ¬ ((5 : Nat) = 3 ∨ (5 : Nat) = 7 ∨ (5 : Nat) = 8 ∨ (5 : Nat) = 9) by decide)⟩
    objs := K _ _ _ h.objs (mine_le (by decide)) (show ¬ ((6 : Nat) = 3 ∨ (6 : Nat) = 7 ∨ (6 : Nat) = 8 ∨ (6 : Nat) = 9) by decide)
    grey := e1
    again := e2
    weak := e3
    sweep := let ⟨vs, y, z⟩ := h.sweep; ⟨vs, K _ _ _ y (mine_le (by decide)) (show ¬ ((10 : Nat) = 3 ∨ (10 : Nat) = 7 ∨ (10 : Nat) = 8 ∨ (10 : Nat) = 9) by decide), z⟩
    datas := K _ _ _ h.datas (mine_le (by decide)) (show ¬ ((11 : Nat) = 3 ∨ (11 : Nat) = 7 ∨ (11 : Nat) = 8 ∨ (11 : Nat) = 9) by decide)
    tofin := K _ _ _ h.tofin (mine_le (by decide)) (show ¬ ((12 : Nat) = 3 ∨ (12 : Nat) = 7 ∨ (12 : Nat) = 8 ∨ (12 : Nat) = 9) by decide)
    root := K _ _ _ h.root (mine_le (by decide)) (show ¬ ((13 : Nat) = 3 ∨ (13 : Nat) = 7 ∨ (13 : Nat) = 8 ∨ (13 : Nat) = 9) by decide)
  }

theorem WR.setGrey {W : Wd} {σ : Sg} {x_grey : List Nat} {H H' : LH} (h : WR W σ H) (K : ∀ a t c, H a = some (t, c) → mine W.k t → ¬ (t.2.1 = 7) → H' a = some (t, c))
    (e : H' σ.greyA = some ((W.k, 7, 0), .list (W.refs x_grey))) : WR W { σ with grey := x_grey } H' := {
    c := K _ _ _ h.c (mine_le (by decide)) (show ¬ ((0 : Nat) = 7) by decide)
    dc := let ⟨q, tk, x, y⟩ := h.dc; ⟨q, tk, x, K _ _ _ y (mine_le (by decide)) (show ¬ ((1 : Nat) = 7) by decide)⟩
    m := K _ _ _ h.m (mine_le (by decide)) (show ¬ ((2 : Nat) = 7) by decide)
    dm := let ⟨u, y⟩ := h.dm; ⟨u, K _ _ _ y (mine_le (by decide)) (show ¬ ((3 : Nat) = 7) by decide)⟩
    o := fun j hj => K _ _ _ (h.o j hj) (mine_le (by decide)) (show ¬ ((4 : Nat) = 7) by decide)
    d := fun j hj => let ⟨t0, t1, t2, y⟩ := h.d j hj; ⟨t0, t1, t2, K _ _ _ y (mine_le (by decide)) (show ¬ ((5 : Nat) = 7) by decide)⟩
    objs := K _ _ _ h.objs (mine_le (by decide)) (show ¬ ((6 : Nat) = 7) by decide)
    grey := e
    again := K _ _ _ h.again (mine_le (by decide)) (show ¬ ((8 : Nat) = 7) by decide)
    weak := K _ _ _ h.weak (mine_le (by decide)) (show ¬ ((9 : Nat) = 7) by decide)
    sweep := let ⟨vs, y, z⟩ := h.sweep; ⟨vs, K _ _ _ y (mine_le (by decide)) (show ¬ ((10 : Nat) = 7) by decide), z⟩
    datas := K _ _ _ h.datas (mine_le (by decide)) (show ¬ ((11 : Nat) = 7) by decide)
    tofin := K _ _ _ h.tofin (mine_le (by decide)) (show ¬ ((12 : Nat) = 7) by decide)
    root := K _ _ _ h.root (mine_le (by decide)) (show ¬ ((13 : Nat) = 7) by decide)
  }

theorem WR.setAgain {W : Wd} {σ : Sg} {x_again : List Nat} {H H' : LH} (h : WR W σ H) (K : ∀ a t c, H a = some (t, c) → mine W.k t → ¬ (t.2.1 = 8) → H' a = some (t, c))
    (e : H' σ.againA = some ((W.k, 8, 0), .list (W.refs x_again))) : WR W { σ with again := x_again } H' := {
    c := K _ _ _ h.c (mine_le (by decide)) (show ¬ ((0 : Nat) = 8) by decide)
    dc := let ⟨q, tk, x, y⟩ := h.dc; ⟨q, tk, x, K _ _ _ y (mine_le (by decide)) (show ¬ ((1 : Nat) = 8) by decide)⟩
    m := K _ _ _ h.m (mine_le (by decide)) (show ¬ ((2 : Nat) = 8) by decide)
    dm := let ⟨u, y⟩ := h.dm; ⟨u, K _ _ _ y (mine_le (by decide)) (show ¬ ((3 : Nat) = 8) by decide)⟩
    o := fun j hj => K _ _ _ (h.o j hj) (mine_le (by decide)) (show ¬ ((4 : Nat) = 8) by decide)
    d := fun j hj => let ⟨t0, t1, t2, y⟩ := h.d j hj; ⟨t0, t1, t2, K _ _ _ y (mine_le (by decide)) (show ¬ ((5 : Nat) = 8) by decide)⟩
    objs := K _ _ _ h.objs (mine_le (by decide)) (show ¬ ((6 : Nat) = 8) by decide)
    grey := K _ _ _ h.grey (mine_le (by decide)) (show ¬ ((7 : Nat) = 8) by decide)
    again := e
    weak := K _ _ _ h.weak (mine_le (by decide)) (show ¬ ((9 : Nat) = 8) by decide)
    sweep := let ⟨vs, y, z⟩ := h.sweep; ⟨vs, K _ _ _ y (mine_le (by decide)) (show ¬ ((10 : Nat) = 8) by decide), z⟩
    datas := K _ _ _ h.datas (mine_le (by decide)) (show ¬ ((11 : Nat) = 8) by decide)
    tofin := K _ _ _ h.tofin (mine_le (by decide)) (show ¬ ((12 : Nat) = 8) by decide)
    root := K _ _ _ h.root (mine_le (by decide)) (show ¬ ((13 : Nat) = 8) by decide)
  }

theorem WR.setDatas {W : Wd} {σ : Sg} {x_datas : List Nat} {H H' : LH} (h : WR W σ H) (K : ∀ a t c, H a = some (t, c) → mine W.k t → ¬ (t.2.1 = 11) → H' a = some (t, c))
    (e : H' σ.datasA = some ((W.k, 11, 0), .list (W.refs x_datas))) : WR W { σ with datas := x_datas } H' := {
    c := K _ _ _ h.c (mine_le (by decide)) (show ¬ ((0 : Nat) = 11) by decide)
    dc := let ⟨q, tk, x, y⟩ := h.dc; ⟨q, tk, x, K _ _ _ y (mine_le (by decide)) (show ¬ ((1 : Nat) = 11) by decide)⟩
    m := K _ _ _ h.m (mine_le (by decide)) (show ¬ ((2 : Nat) = 11) by decide)
    dm := let ⟨u, y⟩ := h.dm; ⟨u, K _ _ _ y (mine_le (by decide)) (show ¬ ((3 : Nat) = 11) by decide)⟩
    o := fun j hj => K _ _ _ (h.o j hj) (mine_le (by decide)) (show ¬ ((4 : Nat) = 11) by decide)
    d := fun j hj => let ⟨t0, t1, t2, y⟩ := h.d j hj; ⟨t0, t1, t2, K _ _ _ y (mine_le (by decide)) (show ¬ ((5 : Nat) = 11) by decide)⟩
    objs := K _ _ _ h.objs (mine_le (by decide)) (show ¬ ((6 : Nat) = 11) by decide)
    grey := K _ _ _ h.grey (mine_le (by decide)) (show ¬ ((7 : Nat) = 11) by decide)
    again := K _ _ _ h.again (mine_le (by decide)) (show ¬ ((8 : Nat) = 11) by decide)
    weak := K _ _ _ h.weak (mine_le (by decide)) (show ¬ ((9 : Nat) = 11) by decide)
    sweep := let ⟨vs, y, z⟩ := h.sweep; ⟨vs, K _ _ _ y (mine_le (by decide)) (show ¬ ((10 : Nat) = 11) by decide), z⟩
    datas := e
    tofin := K _ _ _ h.tofin (mine_le (by decide)) (show ¬ ((12 : Nat) = 11) by decide)
    root := K _ _ _ h.root (mine_le (by decide)) (show ¬ ((13 : Nat) = 11) by decide)
  }

theorem WR.setTofin {W : Wd} {σ : Sg} {x_tofin : List Nat} {H H' : LH} (h : WR W σ H) (K : ∀ a t c, H a = some (t, c) → mine W.k t → ¬ (t.2.1 = 12) → H' a = some (t, c))
    (e : H' σ.tofinA = some ((W.k, 12, 0), .list (W.refs x_tofin))) : WR W { σ with tofin := x_tofin } H' := {
    c := K _ _ _ h.c (mine_le (by decide)) (show ¬ ((0 : Nat) = 12) by decide)
    dc := let ⟨q, tk, x, y⟩ := h.dc; ⟨q, tk, x, K _ _ _ y (mine_le (by decide)) (show ¬ ((1 : Nat) = 12) by decide)⟩
    m := K _ _ _ h.m (mine_le (by decide)) (show ¬ ((2 : Nat) = 12) by decide)
    dm := let ⟨u, y⟩ := h.dm; ⟨u, K _ _ _ y (mine_le (by decide)) (show ¬ ((3 : Nat) = 12) by decide)⟩
    o := fun j hj => K _ _ _ (h.o j hj) (mine_le (by decide)) (show ¬ ((4 : Nat) = 12) by decide)
    d := fun j hj => let ⟨t0, t1, t2, y⟩ := h.d j hj; ⟨t0, t1, t2, K _ _ _ y (mine_le (by decide)) (show ¬ ((5 : Nat) = 12) by decide)⟩
    objs := K _ _ _ h.objs (mine_le (by decide)) (show ¬ ((6 : Nat) = 12) by decide)
    grey := K _ _ _ h.grey (mine_le (by decide)) (show ¬ ((7 : Nat) = 12) by decide)
    again := K _ _ _ h.again (mine_le (by decide)) (show ¬ ((8 : Nat) = 12) by decide)
    weak := K _ _ _ h.weak (mine_le (by decide)) (show ¬ ((9 : Nat) = 12) by decide)
    sweep := let ⟨vs, y, z⟩ := h.sweep; ⟨vs, K _ _ _ y (mine_le (by decide)) (show ¬ ((10 : Nat) = 12) by decide), z⟩
    datas := K _ _ _ h.datas (mine_le (by decide)) (show ¬ ((11 : Nat) = 12) by decide)
    tofin := e
    root := K _ _ _ h.root (mine_le (by decide)) (show ¬ ((13 : Nat) = 12) by decide)
  }

theorem WR.setSweep {W : Wd} {σ : Sg} {x_sweep : List Nat} {H H' : LH} (h : WR W σ H) (K : ∀ a t c, H a = some (t, c) → mine W.k t → ¬ (t.2.1 = 10) → H' a = some (t, c))
    {vs : List Value} (e2 : H' σ.sweepA = some ((W.k, 10, 0), .list vs)) (e3 : IntsAre vs (W.nums x_sweep)) : WR W { σ with sweep := x_sweep } H' := {
    c := K _ _ _ h.c (mine_le (by decide)) (show ¬ ((0 : Nat) = 10) by decide)
    dc := let ⟨q, tk, x, y⟩ := h.dc; ⟨q, tk, x, K _ _ _ y (mine_le (by decide)) (show ¬ ((1 : Nat) = 10) by decide)⟩
    m := K _ _ _ h.m (mine_le (by decide)) (show ¬ ((2 : Nat) = 10) by decide)
    dm := let ⟨u, y⟩ := h.dm; ⟨u, K _ _ _ y (mine_le (by decide)) (show ¬ ((3 : Nat) = 10) by decide)⟩
    o := fun j hj => K _ _ _ (h.o j hj) (mine_le (by decide)) (show ¬ ((4 : Nat) = 10) by decide)
    d := fun j hj => let ⟨t0, t1, t2, y⟩ := h.d j hj; ⟨t0, t1, t2, K _ _ _ y (mine_le (by decide)) (show ¬ ((5 : Nat) = 10) by decide)⟩
    objs := K _ _ _ h.objs (mine_le (by decide)) (show ¬ ((6 : Nat) = 10) by decide)
    grey := K _ _ _ h.grey (mine_le (by decide)) (show ¬ ((7 : Nat) = 10) by decide)
    again := K _ _ _ h.again (mine_le (by decide)) (show ¬ ((8 : Nat) = 10) by decide)
    weak := K _ _ _ h.weak (mine_le (by decide)) (show ¬ ((9 : Nat) = 10) by decide)
    sweep := ⟨vs, e2, e3⟩
    datas := K _ _ _ h.datas (mine_le (by decide)) (show ¬ ((11 : Nat) = 10) by decide)
    tofin := K _ _ _ h.tofin (mine_le (by decide)) (show ¬ ((12 : Nat) = 10) by decide)
    root := K _ _ _ h.root (mine_le (by decide)) (show ¬ ((13 : Nat) = 10) by decide)
  }

theorem WR.setObjs {W : Wd} {σ : Sg} {x_objs : List Nat} {H H' : LH} (h : WR W σ H) (K : ∀ a t c, H a = some (t, c) → mine W.k t → ¬ (t.2.1 = 6) → H' a = some (t, c))
    (e : H' W.objsA = some ((W.k, 6, 0), .idict (W.pairs x_objs))) : WR W { σ with objs := x_objs } H' := {
    c := K _ _ _ h.c (mine_le (by decide)) (show ¬ ((0 : Nat) = 6) by decide)
    dc := let ⟨q, tk, x, y⟩ := h.dc; ⟨q, tk, x, K _ _ _ y (mine_le (by decide)) (show ¬ ((1 : Nat) = 6) by decide)⟩
    m := K _ _ _ h.m (mine_le (by decide)) (show ¬ ((2 : Nat) = 6) by decide)
    dm := let ⟨u, y⟩ := h.dm; ⟨u, K _ _ _ y (mine_le (by decide)) (show ¬ ((3 : Nat) = 6) by decide)⟩
    o := fun j hj => K _ _ _ (h.o j hj) (mine_le (by decide)) (show ¬ ((4 : Nat) = 6) by decide)
    d := fun j hj => let ⟨t0, t1, t2, y⟩ := h.d j hj; ⟨t0, t1, t2, K _ _ _ y (mine_le (by decide)) (show ¬ ((5 : Nat) = 6) by decide)⟩
    objs := e
    grey := K _ _ _ h.grey (mine_le (by decide)) (show ¬ ((7 : Nat) = 6) by decide)
    again := K _ _ _ h.again (mine_le (by decide)) (show ¬ ((8 : Nat) = 6) by decide)
    weak := K _ _ _ h.weak (mine_le (by decide)) (show ¬ ((9 : Nat) = 6) by decide)
    sweep := let ⟨vs, y, z⟩ := h.sweep; ⟨vs, K _ _ _ y (mine_le (by decide)) (show ¬ ((10 : Nat) = 6) by decide), z⟩
    datas := K _ _ _ h.datas (mine_le (by decide)) (show ¬ ((11 : Nat) = 6) by decide)
    tofin := K _ _ _ h.tofin (mine_le (by decide)) (show ¬ ((12 : Nat) = 6) by decide)
    root := K _ _ _ h.root (mine_le (by decide)) (show ¬ ((13 : Nat) = 6) by decide)
  }

theorem WR.setMk {W : Wd} {σ : Sg} {x_mark : Nat → Int} {H H' : LH} (h : WR W σ H) {i : Nat} (K : ∀ a t c, H a = some (t, c) → mine W.k t → ¬ (t.2.1 = 5 ∧ t.2.2 = i) → H' a = some (t, c))
    {t0 t1 t2 : Tok} (e : H' (W.D i) = some ((W.k, 5, i), .ns 4 (lk objNames (objVals W { σ with mark := x_mark } i t0 t1 t2)))) (hjj : ∀ j, j ≠ i → x_mark j = σ.mark j) : WR W { σ with mark := x_mark } H' := {
    c := K _ _ _ h.c (mine_le (by decide)) (show ¬ ((0 : Nat) = 5 ∧ _) from fun e => absurd e.1 (by decide))
    dc := let ⟨q, tk, x, y⟩ := h.dc; ⟨q, tk, x, K _ _ _ y (mine_le (by decide)) (show ¬ ((1 : Nat) = 5 ∧ _) from fun e => absurd e.1 (by decide))⟩
    m := K _ _ _ h.m (mine_le (by decide)) (show ¬ ((2 : Nat) = 5 ∧ _) from fun e => absurd e.1 (by decide))
    dm := let ⟨u, y⟩ := h.dm; ⟨u, K _ _ _ y (mine_le (by decide)) (show ¬ ((3 : Nat) = 5 ∧ _) from fun e => absurd e.1 (by decide))⟩
    o := fun j hj => K _ _ _ (h.o j hj) (mine_le (by decide)) (show ¬ ((4 : Nat) = 5 ∧ _) from fun e => absurd e.1 (by decide))
    d := fun j hj => by
      by_cases q : j = i
      · subst q; exact ⟨t0, t1, t2, e⟩
      · obtain ⟨u0, u1, u2, y⟩ := h.d j hj
        refine ⟨u0, u1, u2, ?_⟩
        have z := K _ _ _ y (mine_le (by decide)) (fun x => q x.2)
        rw [z]
        unfold objVals
        dsimp only
        rw [hjj j q]
    objs := K _ _ _ h.objs (mine_le (by decide)) (show ¬ ((6 : Nat) = 5 ∧ _) from fun e => absurd e.1 (by decide))
    grey := K _ _ _ h.grey (mine_le (by decide)) (show ¬ ((7 : Nat) = 5 ∧ _) from fun e => absurd e.1 (by decide))
    again := K _ _ _ h.again (mine_le (by decide)) (show ¬ ((8 : Nat) = 5 ∧ _) from fun e => absurd e.1 (by decide))
    weak := K _ _ _ h.weak (mine_le (by decide)) (show ¬ ((9 : Nat) = 5 ∧ _) from fun e => absurd e.1 (by decide))
    sweep := let ⟨vs, y, z⟩ := h.sweep; ⟨vs, K _ _ _ y (mine_le (by decide)) (show ¬ ((10 : Nat) = 5 ∧ _) from fun e => absurd e.1 (by decide)), z⟩
    datas := K _ _ _ h.datas (mine_le (by decide)) (show ¬ ((11 : Nat) = 5 ∧ _) from fun e => absurd e.1 (by decide))
    tofin := K _ _ _ h.tofin (mine_le (by decide)) (show ¬ ((12 : Nat) = 5 ∧ _) from fun e => absurd e.1 (by decide))
    root := K _ _ _ h.root (mine_le (by decide)) (show ¬ ((13 : Nat) = 5 ∧ _) from fun e => absurd e.1 (by decide))
  }

theorem WR.setFz {W : Wd} {σ : Sg} {x_fz : Nat → Bool} {H H' : LH} (h : WR W σ H) {i : Nat} (K : ∀ a t c, H a = some (t, c) → mine W.k t → ¬ (t.2.1 = 5 ∧ t.2.2 = i) → H' a = some (t, c))
    {t0 t1 t2 : Tok} (e : H' (W.D i) = some ((W.k, 5, i), .ns 4 (lk objNames (objVals W { σ with fz := x_fz } i t0 t1 t2)))) (hjj : ∀ j, j ≠ i → x_fz j = σ.fz j) : WR W { σ with fz := x_fz } H' := {
    c := K _ _ _ h.c (mine_le (by decide)) (show ¬ ((0 : Nat) = 5 ∧ _) from fun e => absurd e.1 (by decide))
    dc := let ⟨q, tk, x, y⟩ := h.dc; ⟨q, tk, x, K _ _ _ y (mine_le (by decide)) (show ¬ ((1 : Nat) = 5 ∧ _) from fun e => absurd e.1 (by decide))⟩
    m := K _ _ _ h.m (mine_le (by decide)) (show ¬ ((2 : Nat) = 5 ∧ _) from fun e => absurd e.1 (by decide))
    dm := let ⟨u, y⟩ := h.dm; ⟨u, K _ _ _ y (mine_le (by decide)) (show ¬ ((3 : Nat) = 5 ∧ _) from fun e => absurd e.1 (by decide))⟩
    o := fun j hj => K _ _ _ (h.o j hj) (mine_le (by decide)) (show ¬ ((4 : Nat) = 5 ∧ _) from fun e => absurd e.1 (by decide))
    d := fun j hj => by
      by_cases q : j = i
      · subst q; exact ⟨t0, t1, t2, e⟩
      · obtain ⟨u0, u1, u2, y⟩ := h.d j hj
        refine ⟨u0, u1, u2, ?_⟩
        have z := K _ _ _ y (mine_le (by decide)) (fun x => q x.2)
        rw [z]
        unfold objVals
        dsimp only
        rw [hjj j q]
    objs := K _ _ _ h.objs (mine_le (by decide)) (show ¬ ((6 : Nat) = 5 ∧ _) from fun e => absurd e.1 (by decide))
    grey := K _ _ _ h.grey (mine_le (by decide)) (show ¬ ((7 : Nat) = 5 ∧ _) from fun e => absurd e.1 (by decide))
    again := K _ _ _ h.again (mine_le (by decide)) (show ¬ ((8 : Nat) = 5 ∧ _) from fun e => absurd e.1 (by decide))
    weak := K _ _ _ h.weak (mine_le (by decide)) (show ¬ ((9 : Nat) = 5 ∧ _) from fun e => absurd e.1 (by decide))
    sweep := let ⟨vs, y, z⟩ := h.sweep; ⟨vs, K _ _ _ y (mine_le (by decide)) (show ¬ ((10 : Nat) = 5 ∧ _) from fun e => absurd e.1 (by decide)), z⟩
    datas := K _ _ _ h.datas (mine_le (by decide)) (show ¬ ((11 : Nat) = 5 ∧ _) from fun e => absurd e.1 (by decide))
    tofin := K _ _ _ h.tofin (mine_le (by decide)) (show ¬ ((12 : Nat) = 5 ∧ _) from fun e => absurd e.1 (by decide))
    root := K _ _ _ h.root (mine_le (by decide)) (show ¬ ((13 : Nat) = 5 ∧ _) from fun e => absurd e.1 (by decide))
  }

/-! part M4 -/
theorem t_nameId {prog : Program} {w : World} {hT : Heap} {A : Around} {L : Addr} {m : Loc} {H : LH} {x : Str} {pos : Pos} {env : Env} {Q : Value → Loc → LH → Prop} (h : T prog w hT A L (eval (.Name x pos) env) m H Q) : T prog w hT A L (eval (.Name x pos) env) m H Q := h
theorem ty_append : typeOf (.builtin "list.append") = pure (.type "method_descriptor") := by with_unfolding_all rfl
theorem ty_pop : typeOf (.builtin "list.pop") = pure (.type "method_descriptor") := by with_unfolding_all rfl
theorem ty_remove : typeOf (.builtin "list.remove") = pure (.type "method_descriptor") := by with_unfolding_all rfl
theorem ty_extend : typeOf (.builtin "list.extend") = pure (.type "method_descriptor") := by with_unfolding_all rfl
theorem ty_dget : typeOf (.builtin "dict.get") = pure (.type "method_descriptor") := by with_unfolding_all rfl
theorem ty_dpop : typeOf (.builtin "dict.pop") = pure (.type "method_descriptor") := by with_unfolding_all rfl
theorem t_splId {prog : Program} {w : World} {hT : Heap} {A : Around} {L : Addr} {m : Loc} {H : LH} {l : List (Bool × Sem Value)} {Q : List Value → Loc → LH → Prop} (h : T prog w hT A L (spliced l) m H Q) : T prog w hT A L (spliced l) m H Q := h
theorem t_exprF {prog : Program} {w : World} {hT : Heap} {A : Around} {L : Addr} {m : Loc} {H : LH} {env : Env} {ns : List Str} {gs : List (Str × Value)} {fs : List (Str × Addr)} {e : Expr} {pos : Pos} {Q : Flow → Loc → LH → Prop} (F : FnE hT env L ns gs fs) (h : T prog w hT A L (eval e env) m H fun _ m1 H1 => Q .next m1 H1)
    (hs : swapsWith e none pos.line env = pure false := by rfl) : T prog w hT A L (exec (.Expr e pos) env) m H Q := t_expr h (by unfold interactive; rw [F.kind]; rfl) hs
theorem t_iff {prog : Program} {w : World} {hT : Heap} {α : Type} {A : Around} {L : Addr} {m : Loc} {H : LH} {a b : Sem α} {Q : α → Loc → LH → Prop} (h : T prog w hT A L b m H Q) : T prog w hT A L (if false = true then a else b) m H Q := h
local macro_rules | `(tactic| walk_at "gc_at") => `(tactic| with_reducible repeat (first | exact At.here | refine At.there ?_))
local macro_rules | `(tactic| walk_at "gc_put") => `(tactic| with_reducible repeat (first | exact Put.here | apply Put.there))
local macro_rules | `(tactic| walk_at "gc_mem") => `(tactic| with_reducible repeat (first | exact List.mem_cons_self | refine List.mem_cons_of_mem _ ?_))
local macro_rules | `(tactic| walk_at "gc1") => `(tactic| first
  | with_reducible first
    | (refine t_nameId ?_; first | refine t_name_local (by assumption) (by walk_at "gc_at") ?_ | refine t_name_global (by assumption) (by walk_at "gc_mem") ?_)
    | refine t_iff ?_
    | refine t_int (fun _ => ?_)
    | refine t_boolc ?_
    | refine t_none ?_
    | refine t_str (fun _ => ?_)
    | refine t_truthy_bool ?_
    | refine t_truthy_none ?_
    | refine t_lti ?_
    | refine t_gti ?_
    | refine t_eqi ?_
    | refine t_nei ?_
    | refine t_add (fun _ => ?_)
    | refine t_sub (fun _ => ?_)
    | refine t_iadd (fun _ => ?_)
    | refine t_isub (fun _ => ?_)
    | refine t_attr ?_ (hb := by intro _; with_unfolding_all rfl)
    | refine t_compare ?_ (hm := by with_unfolding_all rfl)
    | refine t_isTrue_compare ?_ (hm := by with_unfolding_all rfl)
    | refine t_isTrue_not ?_
    | refine t_isTrue_and_nil ?_
    | refine t_isTrue_and ?_
    | refine t_isTrue_or_nil ?_
    | refine t_isTrue_or ?_
    | refine t_isTrue_name ?_
    | refine t_isTrue_call ?_
    | refine t_binop ?_
    | refine t_unary ?_
    | refine t_callName ?_ (ht := by with_unfolding_all rfl)
    | refine t_callMethod ?_ (ht := by with_unfolding_all rfl) (hb := by intro _; with_unfolding_all rfl) (hl := by with_unfolding_all rfl) (hfew := by with_unfolding_all rfl)
    | refine t_index ?_
  | ((with_reducible refine t_splId ?_); first | refine t_spl_cons ?_ | refine t_spl_nil ?_)
  | with_reducible refine t_callWith (by with_unfolding_all rfl) ?_)
local macro_rules | `(tactic| walk_at "gc") => `(tactic| repeat walk_at "gc1")

section
variable {w : World} {hT : Heap} {A : Around} {L : Addr} {m : Loc} {H : LH} {n : Nat} {W : Wd} {σ : Sg}

theorem ownC (w : World) : (cycNames.all fun x => ownAttr (KK w) 421 x) = true := by kernel_rfl
theorem ownM (w : World) : (marksNames.all fun x => ownAttr (KK w) 136 x) = true := by kernel_rfl
theorem ownO (w : World) : (objNames.all fun x => ownAttr (KK w) 440 x) = true := by kernel_rfl
theorem putC (w : World) : (cycNames.all fun x => putOk (KK w) 421 x) = true := by kernel_rfl
theorem putM (w : World) : (marksNames.all fun x => putOk (KK w) 136 x) = true := by kernel_rfl
theorem putO (w : World) : (objNames.all fun x => putOk (KK w) 440 x) = true := by kernel_rfl

theorem t_get {D x d : Addr} {ns : List Str} {vs : List (Option Value)} {kk : Nat} {t t' : Tag} {name : Str} {v : Value} {ex : Bool} {Q : Value → Loc → LH → Prop} (P : Tp (KK w) hT) (hx : H x = some (t, .inst D d)) (hd : H d = some (t', .ns kk (lk ns vs)))
    (nd : ns.Nodup) (ho : (ns.all fun x => ownAttr (KK w) D x) = true) (ha : At ns vs name (some v)) (hh : handedIn v = true) (h : Q v m H) : T PG w hT A L (getAttr (.ref x) name ex) m H Q :=
  t_getOwn P hx hd (ha.eq nd) (List.all_eq_true.mp ho _ ha.mem) hh h
theorem t_put {D x d : Addr} {ns : List Str} {vs vs' : List (Option Value)} {kk : Nat} {t t' : Tag} {name : Str} {v v0 : Value} {Q : Unit → Loc → LH → Prop} (P : Tp (KK w) hT) (hx : H x = some (t, .inst D d)) (hd : H d = some (t', .ns kk (lk ns vs)))
    (nd : ns.Nodup) (ho : (ns.all fun x => putOk (KK w) D x) = true) (hk : kk ≤ 1000) (ha : At ns vs name (some v0)) (hp : Put ns vs name (some v) vs') (h : Q () m (upd H d (t', .ns kk (lk ns vs')))) : T PG w hT A L (setAttr (.ref x) name v) m H Q := by
  refine t_setAttr P hx hd (List.all_eq_true.mp ho _ ha.mem) hk ?_
  have e : (if (lk ns vs name).isSome then kk else kk + 1) = kk := by rw [ha.eq nd]; rfl
  have e2 : set (lk ns vs) name v = lk ns vs' := by rw [hp.eq nd]; rfl
  rw [e, e2]
  exact h

/-! is_white -/
theorem c_is_white (P : Tp (KK w) hT) (R : Room (n + 1) A) {i : Nat} {Q : Value → LH → Prop} (hW : WR W σ H) (hi : i < W.n) (h : Q (.bool (decide (σ.mark i < 2))) H) : C PG w hT A (.ref 28) ⟨[.ref (W.O i)], []⟩ H Q := by
  refine c_fn (ps := ["obj"]) (ls := []) (gs := [("GREY", .int 2 200)]) (vals := [.ref (W.O i)]) (ns := ["obj"]) (vs := [some (.ref (W.O i))]) P R (by kernel_rfl) (by kernel_rfl) rfl fun L env A' he F R' => ?_
  obtain ⟨t0, t1, t2, hd⟩ := hW.d i hi
  refine t_cons (t_ret ?_)
  walk_at "gc"
  refine t_get P (hW.o i hi) hd obj_nd (ownO w) (by walk_at "gc_at") rfl ?_
  walk_at "gc"
  exact h
end

/-! part M5 -/
noncomputable def setM {α : Type} (f : Nat → α) (i : Nat) (v : α) : Nat → α := fun j => if j = i then v else f j
theorem setM_self {α : Type} (f : Nat → α) (i : Nat) (v : α) : setM f i v i = v := if_pos rfl
theorem setM_ne {α : Type} (f : Nat → α) {i j : Nat} (v : α) (h : j ≠ i) : setM f i v j = f j := if_neg h
section
variable {w : World} {hT : Heap} {A : Around} {L : Addr} {m : Loc} {H : LH} {n : Nat} {W : Wd} {σ : Sg} {ex : Bool}

theorem t_retag {α : Type} {t : Sem α} {Q : α → Loc → LH → Prop} {a : Addr} {g g' : Tag} {c : Cell} (e : H a = some (g, c)) (h : T PG w hT A L t m (upd H a (g', c)) Q) : T PG w hT A L t m H Q := fun B gg os s y =>
  h B gg os s ⟨y.rp.retag e, y.ns, by
    have ne : L ≠ a := fun q => by rw [← q, y.hL] at e; cases e
    rw [upd_ne _ _ ne]; exact y.hL, y.disL⟩
theorem g_mark {Q : Value → Loc → LH → Prop} (P : Tp (KK w) hT) (hW : WR W σ H) {i : Nat} (hi : i < W.n) (h : ∀ t, Q (.int (σ.mark i) t) m H) : T PG w hT A L (getAttr (.ref (W.O i)) "mark" ex) m H Q :=
  let ⟨t0, t1, t2, hd⟩ := hW.d i hi; t_get P (hW.o i hi) hd obj_nd (ownO w) (by walk_at "gc_at") rfl (h _)
theorem g_number {Q : Value → Loc → LH → Prop} (P : Tp (KK w) hT) (hW : WR W σ H) {i : Nat} (hi : i < W.n) (h : ∀ t, Q (.int (W.num i : Int) t) m H) : T PG w hT A L (getAttr (.ref (W.O i)) "number" ex) m H Q :=
  let ⟨t0, t1, t2, hd⟩ := hW.d i hi; t_get P (hW.o i hi) hd obj_nd (ownO w) (by walk_at "gc_at") rfl (h _)
theorem g_size {Q : Value → Loc → LH → Prop} (P : Tp (KK w) hT) (hW : WR W σ H) {i : Nat} (hi : i < W.n) (h : ∀ t, Q (.int (W.size i) t) m H) : T PG w hT A L (getAttr (.ref (W.O i)) "size" ex) m H Q :=
  let ⟨t0, t1, t2, hd⟩ := hW.d i hi; t_get P (hW.o i hi) hd obj_nd (ownO w) (by walk_at "gc_at") rfl (h _)
theorem g_fz {Q : Value → Loc → LH → Prop} (P : Tp (KK w) hT) (hW : WR W σ H) {i : Nat} (hi : i < W.n) (h : Q (.bool (σ.fz i)) m H) : T PG w hT A L (getAttr (.ref (W.O i)) "is_finalized" ex) m H Q :=
  let ⟨t0, t1, t2, hd⟩ := hW.d i hi; t_get P (hW.o i hi) hd obj_nd (ownO w) (by walk_at "gc_at") rfl h
theorem g_white {Q : Value → Loc → LH → Prop} (P : Tp (KK w) hT) (hW : WR W σ H) (h : ∀ t, Q (.int σ.white t) m H) : T PG w hT A L (getAttr (.ref W.M) "white" ex) m H Q :=
  let ⟨u, hd⟩ := hW.dm; t_get P hW.m hd marks_nd (ownM w) (by walk_at "gc_at") rfl (h _)
theorem g_grey {Q : Value → Loc → LH → Prop} (P : Tp (KK w) hT) (hW : WR W σ H) (h : Q (.ref σ.greyA) m H) : T PG w hT A L (getAttr (.ref W.M) "grey" ex) m H Q :=
  let ⟨u, hd⟩ := hW.dm; t_get P hW.m hd marks_nd (ownM w) (by walk_at "gc_at") rfl h
theorem g_again {Q : Value → Loc → LH → Prop} (P : Tp (KK w) hT) (hW : WR W σ H) (h : Q (.ref σ.againA) m H) : T PG w hT A L (getAttr (.ref W.M) "grey_again" ex) m H Q :=
  let ⟨u, hd⟩ := hW.dm; t_get P hW.m hd marks_nd (ownM w) (by walk_at "gc_at") rfl h
theorem g_weak {Q : Value → Loc → LH → Prop} (P : Tp (KK w) hT) (hW : WR W σ H) (h : Q (.ref σ.weakA) m H) : T PG w hT A L (getAttr (.ref W.M) "weak" ex) m H Q :=
  let ⟨u, hd⟩ := hW.dm; t_get P hW.m hd marks_nd (ownM w) (by walk_at "gc_at") rfl h
theorem g_objects {Q : Value → Loc → LH → Prop} (P : Tp (KK w) hT) (hW : WR W σ H) (h : Q (.ref W.objsA) m H) : T PG w hT A L (getAttr (.ref W.C) "objects" ex) m H Q :=
  let ⟨q, tk, hq, hd⟩ := hW.dc; t_get P hW.c hd cyc_nd (ownC w) (by walk_at "gc_at") rfl h
theorem g_marks {Q : Value → Loc → LH → Prop} (P : Tp (KK w) hT) (hW : WR W σ H) (h : Q (.ref W.M) m H) : T PG w hT A L (getAttr (.ref W.C) "marks" ex) m H Q :=
  let ⟨q, tk, hq, hd⟩ := hW.dc; t_get P hW.c hd cyc_nd (ownC w) (by walk_at "gc_at") rfl h
theorem g_root {Q : Value → Loc → LH → Prop} (P : Tp (KK w) hT) (hW : WR W σ H) (h : Q (.ref σ.rootA) m H) : T PG w hT A L (getAttr (.ref W.C) "root_list" ex) m H Q :=
  let ⟨q, tk, hq, hd⟩ := hW.dc; t_get P hW.c hd cyc_nd (ownC w) (by walk_at "gc_at") rfl h
theorem g_phase {Q : Value → Loc → LH → Prop} (P : Tp (KK w) hT) (hW : WR W σ H) (h : ∀ t, Q (.int σ.phase t) m H) : T PG w hT A L (getAttr (.ref W.C) "phase" ex) m H Q :=
  let ⟨q, tk, hq, hd⟩ := hW.dc; t_get P hW.c hd cyc_nd (ownC w) (by walk_at "gc_at") rfl (h _)
theorem g_to_sweep {Q : Value → Loc → LH → Prop} (P : Tp (KK w) hT) (hW : WR W σ H) (h : Q (.ref σ.sweepA) m H) : T PG w hT A L (getAttr (.ref W.C) "to_sweep" ex) m H Q :=
  let ⟨q, tk, hq, hd⟩ := hW.dc; t_get P hW.c hd cyc_nd (ownC w) (by walk_at "gc_at") rfl h
theorem g_total {Q : Value → Loc → LH → Prop} (P : Tp (KK w) hT) (hW : WR W σ H) (h : ∀ t, Q (.int σ.total t) m H) : T PG w hT A L (getAttr (.ref W.C) "total" ex) m H Q :=
  let ⟨q, tk, hq, hd⟩ := hW.dc; t_get P hW.c hd cyc_nd (ownC w) (by walk_at "gc_at") rfl (h _)
theorem g_est {Q : Value → Loc → LH → Prop} (P : Tp (KK w) hT) (hW : WR W σ H) (h : ∀ v t, 0 ≤ v ∧ v ≤ 1000 → Q (.int v t) m H) : T PG w hT A L (getAttr (.ref W.C) "estimate" ex) m H Q :=
  let ⟨q, tk, hq, hd⟩ := hW.dc; t_get P hW.c hd cyc_nd (ownC w) (by walk_at "gc_at") rfl (h _ _ ⟨hq.1, hq.2.1⟩)
theorem g_debt {Q : Value → Loc → LH → Prop} (P : Tp (KK w) hT) (hW : WR W σ H) (h : ∀ v t, True → Q (.int v t) m H) : T PG w hT A L (getAttr (.ref W.C) "debt" ex) m H Q :=
  let ⟨q, tk, hq, hd⟩ := hW.dc; t_get P hW.c hd cyc_nd (ownC w) (by walk_at "gc_at") rfl (h _ _ trivial)
theorem g_ss {Q : Value → Loc → LH → Prop} (P : Tp (KK w) hT) (hW : WR W σ H) (h : ∀ v t, 1 ≤ v ∧ v ≤ 64 → Q (.int v t) m H) : T PG w hT A L (getAttr (.ref W.C) "step_size" ex) m H Q :=
  let ⟨q, tk, hq, hd⟩ := hW.dc; t_get P hW.c hd cyc_nd (ownC w) (by walk_at "gc_at") rfl (h _ _ hq.2.2)
theorem g_thr {Q : Value → Loc → LH → Prop} (P : Tp (KK w) hT) (hW : WR W σ H) (h : ∀ v t, True → Q (.int v t) m H) : T PG w hT A L (getAttr (.ref W.C) "threshold" ex) m H Q :=
  let ⟨q, tk, hq, hd⟩ := hW.dc; t_get P hW.c hd cyc_nd (ownC w) (by walk_at "gc_at") rfl (h _ _ trivial)
theorem g_sweep_max {Q : Value → Loc → LH → Prop} (P : Tp (KK w) hT) (hW : WR W σ H) (h : ∀ t, Q (.int 16 t) m H) : T PG w hT A L (getAttr (.ref W.C) "sweep_max" ex) m H Q :=
  let ⟨q, tk, hq, hd⟩ := hW.dc; t_get P hW.c hd cyc_nd (ownC w) (by walk_at "gc_at") rfl (h _)
theorem g_pause {Q : Value → Loc → LH → Prop} (P : Tp (KK w) hT) (hW : WR W σ H) (h : ∀ t, Q (.int 200 t) m H) : T PG w hT A L (getAttr (.ref W.C) "pause" ex) m H Q :=
  let ⟨q, tk, hq, hd⟩ := hW.dc; t_get P hW.c hd cyc_nd (ownC w) (by walk_at "gc_at") rfl (h _)
theorem g_step_mul {Q : Value → Loc → LH → Prop} (P : Tp (KK w) hT) (hW : WR W σ H) (h : ∀ t, Q (.int 200 t) m H) : T PG w hT A L (getAttr (.ref W.C) "step_mul" ex) m H Q :=
  let ⟨q, tk, hq, hd⟩ := hW.dc; t_get P hW.c hd cyc_nd (ownC w) (by walk_at "gc_at") rfl (h _)
theorem g_cycles {Q : Value → Loc → LH → Prop} (P : Tp (KK w) hT) (hW : WR W σ H) (h : ∀ t, Q (.int σ.cycles t) m H) : T PG w hT A L (getAttr (.ref W.C) "cycles" ex) m H Q :=
  let ⟨q, tk, hq, hd⟩ := hW.dc; t_get P hW.c hd cyc_nd (ownC w) (by walk_at "gc_at") rfl (h _)
theorem g_wants {Q : Value → Loc → LH → Prop} (P : Tp (KK w) hT) (hW : WR W σ H) (h : Q (.ref W.waF) m H) : T PG w hT A L (getAttr (.ref W.C) "wants_end" ex) m H Q :=
  let ⟨q, tk, hq, hd⟩ := hW.dc; t_get P hW.c hd cyc_nd (ownC w) (by walk_at "gc_at") rfl h
theorem g_datas {Q : Value → Loc → LH → Prop} (P : Tp (KK w) hT) (hW : WR W σ H) (h : Q (.ref σ.datasA) m H) : T PG w hT A L (getAttr (.ref W.C) "datas" ex) m H Q :=
  let ⟨q, tk, hq, hd⟩ := hW.dc; t_get P hW.c hd cyc_nd (ownC w) (by walk_at "gc_at") rfl h
theorem g_tofin {Q : Value → Loc → LH → Prop} (P : Tp (KK w) hT) (hW : WR W σ H) (h : Q (.ref σ.tofinA) m H) : T PG w hT A L (getAttr (.ref W.C) "to_finalize" ex) m H Q :=
  let ⟨q, tk, hq, hd⟩ := hW.dc; t_get P hW.c hd cyc_nd (ownC w) (by walk_at "gc_at") rfl h

/-! calls of what the object bears -/
theorem noM_children (w : World) : noClassAttr (KK w) 136 "children" = true := by kernel_rfl
theorem noM_sort_of (w : World) : noClassAttr (KK w) 136 "sort_of" = true := by kernel_rfl
theorem g_children {pl : Sem Bool} {Q : Value × List Value → Loc → LH → Prop} (P : Tp (KK w) hT) (hW : WR W σ H) (h : Q (.ref W.chF, []) m H) : T PG w hT A L (getMethod (.ref W.M) "children" pl) m H Q :=
  let ⟨u, hd⟩ := hW.dm; t_methodOwn P hW.m hd (At.eq (by walk_at "gc_at") marks_nd) (noM_children w) rfl h
theorem g_sort_of {pl : Sem Bool} {Q : Value × List Value → Loc → LH → Prop} (P : Tp (KK w) hT) (hW : WR W σ H) (h : Q (.ref W.soF, []) m H) : T PG w hT A L (getMethod (.ref W.M) "sort_of" pl) m H Q :=
  let ⟨u, hd⟩ := hW.dm; t_methodOwn P hW.m hd (At.eq (by walk_at "gc_at") marks_nd) (noM_sort_of w) rfl h
/-! methods of the class -/
theorem lk_out {x : Str} : ∀ {ns : List Str} {vs : List (Option Value)}, x ∉ ns → lk ns vs x = none
  | [], vs, _ => by cases vs <;> rfl
  | _ :: _, [], _ => rfl
  | n :: ns, v :: vs, h => by
    rw [List.mem_cons, not_or] at h
    unfold lk
    rw [if_neg h.1, lk_out h.2]
theorem meth_C {name : Str} {f : Addr} {pl : Sem Bool} {Q : Value × List Value → Loc → LH → Prop} (P : Tp (KK w) hT) (hW : WR W σ H) (ho : classFn (KK w) 421 name f = true) (hn : name ∉ cycNames) (h : Q (.ref f, [.ref W.C]) m H) : T PG w hT A L (getMethod (.ref W.C) name pl) m H Q :=
  let ⟨_, _, _, hd⟩ := hW.dc; t_method P hW.c hd (lk_out hn) ho h
theorem meth_M {name : Str} {f : Addr} {pl : Sem Bool} {Q : Value × List Value → Loc → LH → Prop} (P : Tp (KK w) hT) (hW : WR W σ H) (ho : classFn (KK w) 136 name f = true) (hn : name ∉ marksNames) (h : Q (.ref f, [.ref W.M]) m H) : T PG w hT A L (getMethod (.ref W.M) name pl) m H Q :=
  let ⟨_, hd⟩ := hW.dm; t_method P hW.m hd (lk_out hn) ho h

/-! stores -/
theorem s_mark {i : Nat} {v : Int} {t : Tok} {Q : Unit → Loc → LH → Prop} (P : Tp (KK w) hT) (hW : WR W σ H) (hi : i < W.n) (h : ∀ H', WR W { σ with mark := setM σ.mark i v } H' → Frame W.k H H' → Q () m H') : T PG w hT A L (setAttr (.ref (W.O i)) "mark" (.int v t)) m H Q := by
  obtain ⟨t0, t1, t2, hd⟩ := hW.d i hi
  refine t_put P (hW.o i hi) hd obj_nd (putO w) (by decide) (by walk_at "gc_at") (by walk_at "gc_put") ?_
  refine h _ (hW.setMk (i := i) (fun a s c e _ ne => ?_) (t0 := t0) (t1 := t) (t2 := t2) ?_ fun j hj => setM_ne _ _ hj) (Frame.upd hd (mine_le (by decide)))
  · exact But.upd hd _ a s c e fun q => ne (by rw [q]; exact ⟨rfl, rfl⟩)
  · rw [upd_self]; unfold objVals; dsimp only; rw [setM_self]
theorem s_fz {i : Nat} {v : Bool} {Q : Unit → Loc → LH → Prop} (P : Tp (KK w) hT) (hW : WR W σ H) (hi : i < W.n) (h : ∀ H', WR W { σ with fz := setM σ.fz i v } H' → Frame W.k H H' → Q () m H') : T PG w hT A L (setAttr (.ref (W.O i)) "is_finalized" (.bool v)) m H Q := by
  obtain ⟨t0, t1, t2, hd⟩ := hW.d i hi
  refine t_put P (hW.o i hi) hd obj_nd (putO w) (by decide) (by walk_at "gc_at") (by walk_at "gc_put") ?_
  refine h _ (hW.setFz (i := i) (fun a s c e _ ne => ?_) (t0 := t0) (t1 := t1) (t2 := t2) ?_ fun j hj => setM_ne _ _ hj) (Frame.upd hd (mine_le (by decide)))
  · exact But.upd hd _ a s c e fun q => ne (by rw [q]; exact ⟨rfl, rfl⟩)
  · rw [upd_self]; unfold objVals; dsimp only; rw [setM_self]
theorem s_phase {v : Int} {t : Tok} {Q : Unit → Loc → LH → Prop} (P : Tp (KK w) hT) (hW : WR W σ H) (h : ∀ H', WR W { σ with phase := v, total := σ.total, cycles := σ.cycles } H' → Frame W.k H H' → Q () m H') : T PG w hT A L (setAttr (.ref W.C) "phase" (.int v t)) m H Q := by
  obtain ⟨q, tk, hq, hd⟩ := hW.dc
  refine t_put P hW.c hd cyc_nd (putC w) (by decide) (by walk_at "gc_at") (by walk_at "gc_put") ?_
  refine h _ (hW.setC (fun a s c e _ ne => ?_) (q := q) (tk := fun i => if i = 3 then t else tk i) hq ?_) (Frame.upd hd (mine_le (by decide)))
  · exact But.upd hd _ a s c e fun q => ne (by rw [q])
  · rw [upd_self]; rfl
theorem s_total {v : Int} {t : Tok} {Q : Unit → Loc → LH → Prop} (P : Tp (KK w) hT) (hW : WR W σ H) (h : ∀ H', WR W { σ with phase := σ.phase, total := v, cycles := σ.cycles } H' → Frame W.k H H' → Q () m H') : T PG w hT A L (setAttr (.ref W.C) "total" (.int v t)) m H Q := by
  obtain ⟨q, tk, hq, hd⟩ := hW.dc
  refine t_put P hW.c hd cyc_nd (putC w) (by decide) (by walk_at "gc_at") (by walk_at "gc_put") ?_
  refine h _ (hW.setC (fun a s c e _ ne => ?_) (q := q) (tk := fun i => if i = 5 then t else tk i) hq ?_) (Frame.upd hd (mine_le (by decide)))
  · exact But.upd hd _ a s c e fun q => ne (by rw [q])
  · rw [upd_self]; rfl
theorem s_cycles {v : Int} {t : Tok} {Q : Unit → Loc → LH → Prop} (P : Tp (KK w) hT) (hW : WR W σ H) (h : ∀ H', WR W { σ with phase := σ.phase, total := σ.total, cycles := v } H' → Frame W.k H H' → Q () m H') : T PG w hT A L (setAttr (.ref W.C) "cycles" (.int v t)) m H Q := by
  obtain ⟨q, tk, hq, hd⟩ := hW.dc
  refine t_put P hW.c hd cyc_nd (putC w) (by decide) (by walk_at "gc_at") (by walk_at "gc_put") ?_
  refine h _ (hW.setC (fun a s c e _ ne => ?_) (q := q) (tk := fun i => if i = 13 then t else tk i) hq ?_) (Frame.upd hd (mine_le (by decide)))
  · exact But.upd hd _ a s c e fun q => ne (by rw [q])
  · rw [upd_self]; rfl
theorem s_est {v : Int} {t : Tok} {Q : Unit → Loc → LH → Prop} (P : Tp (KK w) hT) (hW : WR W σ H) (hv : 0 ≤ v ∧ v ≤ 1000) (h : ∀ H', WR W { σ with phase := σ.phase, total := σ.total, cycles := σ.cycles } H' → Frame W.k H H' → Q () m H') : T PG w hT A L (setAttr (.ref W.C) "estimate" (.int v t)) m H Q := by
  obtain ⟨q, tk, hq, hd⟩ := hW.dc
  refine t_put P hW.c hd cyc_nd (putC w) (by decide) (by walk_at "gc_at") (by walk_at "gc_put") ?_
  refine h _ (hW.setC (fun a s c e _ ne => ?_) (q := { q with est := v }) (tk := fun i => if i = 6 then t else tk i) ⟨hv.1, hv.2, hq.2.2⟩ ?_) (Frame.upd hd (mine_le (by decide)))
  · exact But.upd hd _ a s c e fun q => ne (by rw [q])
  · rw [upd_self]; rfl
theorem s_debt {v : Int} {t : Tok} {Q : Unit → Loc → LH → Prop} (P : Tp (KK w) hT) (hW : WR W σ H) (h : ∀ H', WR W { σ with phase := σ.phase, total := σ.total, cycles := σ.cycles } H' → Frame W.k H H' → Q () m H') : T PG w hT A L (setAttr (.ref W.C) "debt" (.int v t)) m H Q := by
  obtain ⟨q, tk, hq, hd⟩ := hW.dc
  refine t_put P hW.c hd cyc_nd (putC w) (by decide) (by walk_at "gc_at") (by walk_at "gc_put") ?_
  refine h _ (hW.setC (fun a s c e _ ne => ?_) (q := { q with debt := v }) (tk := fun i => if i = 7 then t else tk i) hq ?_) (Frame.upd hd (mine_le (by decide)))
  · exact But.upd hd _ a s c e fun q => ne (by rw [q])
  · rw [upd_self]; rfl
theorem s_ss {v : Int} {t : Tok} {Q : Unit → Loc → LH → Prop} (P : Tp (KK w) hT) (hW : WR W σ H) (hv : 1 ≤ v ∧ v ≤ 64) (h : ∀ H', WR W { σ with phase := σ.phase, total := σ.total, cycles := σ.cycles } H' → Frame W.k H H' → Q () m H') : T PG w hT A L (setAttr (.ref W.C) "step_size" (.int v t)) m H Q := by
  obtain ⟨q, tk, hq, hd⟩ := hW.dc
  refine t_put P hW.c hd cyc_nd (putC w) (by decide) (by walk_at "gc_at") (by walk_at "gc_put") ?_
  refine h _ (hW.setC (fun a s c e _ ne => ?_) (q := { q with ss := v }) (tk := fun i => if i = 8 then t else tk i) ⟨hq.1, hq.2.1, hv⟩ ?_) (Frame.upd hd (mine_le (by decide)))
  · exact But.upd hd _ a s c e fun q => ne (by rw [q])
  · rw [upd_self]; rfl
theorem s_thr {v : Int} {t : Tok} {Q : Unit → Loc → LH → Prop} (P : Tp (KK w) hT) (hW : WR W σ H) (h : ∀ H', WR W { σ with phase := σ.phase, total := σ.total, cycles := σ.cycles } H' → (∃ q tk, q.Ok ∧ q.thr = v ∧ H' W.dC = some ((W.k, 1, 0), .ns 18 (lk cycNames (cycVals W σ q tk)))) → Frame W.k H H' → Q () m H') : T PG w hT A L (setAttr (.ref W.C) "threshold" (.int v t)) m H Q := by
  obtain ⟨q, tk, hq, hd⟩ := hW.dc
  refine t_put P hW.c hd cyc_nd (putC w) (by decide) (by walk_at "gc_at") (by walk_at "gc_put") ?_
  refine h _ (hW.setC (fun a s c e _ ne => ?_) (q := { q with thr := v }) (tk := fun i => if i = 10 then t else tk i) hq ?_) ⟨{ q with thr := v }, (fun i => if i = 10 then t else tk i), hq, rfl, by rw [upd_self]; rfl⟩ (Frame.upd hd (mine_le (by decide)))
  · exact But.upd hd _ a s c e fun q => ne (by rw [q])
  · rw [upd_self]; rfl
end

/-! part M6 -/
/-- how many are white -/
noncomputable def wh : Nat → (Nat → Int) → Nat
  | 0, _ => 0
  | n + 1, f => wh n f + if f n < 2 then 1 else 0
theorem wh_out {n x : Nat} {f : Nat → Int} {v : Int} (h : n ≤ x) : wh n (setM f x v) = wh n f := by
  induction n with
  | zero => rfl
  | succ n ih =>
    unfold wh
    rw [ih (by lia), setM_ne _ _ (by lia)]
theorem wh_set {n x : Nat} {f : Nat → Int} {v : Int} (h : x < n) (hx : f x < 2) (hv : ¬ v < 2) : wh n (setM f x v) + 1 = wh n f := by
  induction n with
  | zero => lia
  | succ n ih =>
    unfold wh
    by_cases q : x = n
    · subst q
      rw [wh_out (Nat.le_refl _), setM_self, if_neg hv, if_pos hx]
    · rw [setM_ne _ _ (fun e => q e.symm), ← ih (by lia)]
      lia
theorem wh_le {n : Nat} {f : Nat → Int} : wh n f ≤ n := by
  induction n with
  | zero => exact Nat.le_refl _
  | succ n ih => unfold wh; split <;> lia
theorem wh_pos {n x : Nat} {f : Nat → Int} (h : x < n) (hx : f x < 2) : 0 < wh n f := by
  have := wh_set (v := 2) h hx (by decide); lia

/-- what marking all of a list does -/
inductive MarksR (W : Wd) (E : Nat → List Nat) : List Nat → Sg → Sg → Prop
  | nil {σ} : MarksR W E [] σ σ
  | skip {σ σ' x l} : ¬ σ.mark x < 2 → MarksR W E l σ σ' → MarksR W E (x :: l) σ σ'
  | leaf {σ σ' x l} : x < W.n → σ.mark x < 2 → W.sort x = 1 → MarksR W E (E x ++ l) { σ with mark := setM σ.mark x 3 } σ' → MarksR W E (x :: l) σ σ'
  | push {σ σ' x l} : x < W.n → σ.mark x < 2 → W.sort x ≠ 1 → MarksR W E l { σ with mark := setM σ.mark x 2, grey := σ.grey ++ [x] } σ' → MarksR W E (x :: l) σ σ'
theorem MarksR.append {W : Wd} {E : Nat → List Nat} {l r : List Nat} {σ σ1 σ' : Sg} (a : MarksR W E l σ σ1) (b : MarksR W E r σ1 σ') : MarksR W E (l ++ r) σ σ' := by
  induction a with
  | nil => exact b
  | skip h _ ih => exact .skip h (ih b)
  | leaf h1 h2 h3 _ ih => exact .leaf h1 h2 h3 (by have := ih b; rw [List.append_assoc] at this; exact this)
  | push h1 h2 h3 _ ih => exact .push h1 h2 h3 (ih b)
noncomputable def pot (W : Wd) (σ : Sg) : Nat := σ.grey.length + σ.again.length + wh W.n σ.mark
theorem MarksR.le {W : Wd} {E : Nat → List Nat} {l : List Nat} {σ σ' : Sg} (a : MarksR W E l σ σ') : wh W.n σ'.mark ≤ wh W.n σ.mark ∧ pot W σ' ≤ pot W σ ∧ σ'.again = σ.again ∧ (∀ i ∈ σ'.grey, i ∈ σ.grey ∨ i < W.n) := by
  induction a with
  | nil => exact ⟨Nat.le_refl _, Nat.le_refl _, rfl, fun i h => .inl h⟩
  | skip h _ ih => exact ih
  | @leaf σ σ' x l h1 h2 h3 _ ih =>
    have := wh_set (v := 3) h1 h2 (by decide)
    unfold pot at *
    dsimp only at ih
    exact ⟨by lia, by lia, ih.2.2⟩
  | @push σ σ' x l h1 h2 h3 _ ih =>
    have := wh_set (v := 2) h1 h2 (by decide)
    unfold pot at *
    dsimp only at ih
    rw [List.length_append, List.length_singleton] at ih
    refine ⟨by lia, by lia, ih.2.2.1, fun i hi => ?_⟩
    rcases ih.2.2.2 i hi with q | q
    · rcases List.mem_append.mp q with q | q
      · exact .inl q
      · rw [List.mem_singleton] at q; exact .inr (q ▸ h1)
    · exact .inr q

/-- what is known of the callables that a world was given -/
structure Clo (w : World) (hT : Heap) (W : Wd) (E : Nat → List Nat) (H0 : LH) : Prop where
  kpos : W.k ≠ 0
  edge : ∀ i < W.n, ∀ j ∈ E i, j < W.n
  few : ∀ i < W.n, (E i).length ≤ 1000
  n9 : W.n ≤ 9
  sorts : ∀ i < W.n, W.sort i = 0 ∨ W.sort i = 1 ∨ W.sort i = 3
  sizes : ∀ i < W.n, 1 ≤ W.size i ∧ W.size i ≤ 40
  nums : ∀ i < W.n, ∀ j < W.n, W.num i = W.num j → i = j
  kch : ∀ H, Frame W.k H0 H → Keeps PG w hT H (.ref W.chF) ∧ Keeps PG w hT H (.ref W.soF) ∧ Keeps PG w hT H (.ref W.waF)
  ch : ∀ A σ H n i (Q : Value → LH → Prop), Frame W.k H0 H → WR W σ H → Room (n + 3) A → i < W.n → (∀ l H', (∀ a x, H a = some x → H' a = some x) → H' l = some (tmp, .list (W.refs (E i))) → Q (.ref l) H') → C PG w hT A (.ref W.chF) ⟨[.ref (W.O i)], []⟩ H Q
  so : ∀ A σ H n i (Q : Value → LH → Prop), Frame W.k H0 H → WR W σ H → Room (n + 3) A → i < W.n → (∀ t H', (∀ a x, H a = some x → H' a = some x) → Q (.int (W.sort i) t) H') → C PG w hT A (.ref W.soF) ⟨[.ref (W.O i)], []⟩ H Q
  wa : ∀ A σ H n i (Q : Value → LH → Prop), Frame W.k H0 H → WR W σ H → Room (n + 3) A → i < W.n → (∀ H', (∀ a x, H a = some x → H' a = some x) → Q (.bool (decide (W.kind i = 1))) H') → C PG w hT A (.ref W.waF) ⟨[.ref (W.O i)], []⟩ H Q
theorem Clo.frame {w : World} {hT : Heap} {W : Wd} {E : Nat → List Nat} {H0 H1 : LH} (Z : Clo w hT W E H0) (f : Frame W.k H0 H1) : Clo w hT W E H1 :=
  ⟨Z.kpos, Z.edge, Z.few, Z.n9, Z.sorts, Z.sizes, Z.nums, fun H g => Z.kch H (f.trans g), fun A σ H n i Q g => Z.ch A σ H n i Q (f.trans g), fun A σ H n i Q g => Z.so A σ H n i Q (f.trans g), fun A σ H n i Q g => Z.wa A σ H n i Q (f.trans g)⟩
theorem Frame.ext {k : Nat} {H H' : LH} (h : ∀ a x, H a = some x → H' a = some x) : Frame k H H' := fun a t c e _ => h a _ e
theorem WR.ext {W : Wd} {σ : Sg} {H H' : LH} (h : WR W σ H) (k : ∀ a x, H a = some x → H' a = some x) : WR W σ H' := h.keep fun a t c e _ => k a _ e
theorem tmp_not {k : Nat} (h : k ≠ 0) : ¬ mine k tmp := fun e => h e.1.symm

section
variable {w : World} {hT : Heap} {A : Around} {L : Addr} {m : Loc} {H : LH} {n : Nat} {W : Wd} {σ : Sg} {E : Nat → List Nat}
theorem refs_len (W : Wd) (l : List Nat) : (W.refs l).length = l.length := List.length_map ..
theorem refs_append (W : Wd) (l r : List Nat) : W.refs (l ++ r) = W.refs l ++ W.refs r := List.map_append
theorem refs_get {W : Wd} {l : List Nat} {i : Nat} {v : Value} (h : (W.refs l)[i]? = some v) : ∃ x, l[i]? = some x ∧ v = .ref (W.O x) := by
  unfold Wd.refs at h
  rw [List.getElem?_map] at h
  cases e : l[i]? with
  | none => rw [e] at h; cases h
  | some x => rw [e] at h; exact ⟨x, rfl, (Option.some.inj h).symm⟩
theorem push_grey {i : Nat} {Q : Value → LH → Prop} (hW : WR W σ H) (hz : σ.grey.length ≤ 1000) (h : ∀ H', WR W { σ with grey := σ.grey ++ [i] } H' → Frame W.k H H' → Q .none H') : C PG w hT A (.builtin "list.append") ⟨[.ref σ.greyA, .ref (W.O i)], []⟩ H Q :=
  c_append hW.grey (by rw [refs_len]; exact hz) (h _ (hW.setGrey (fun a s c e _ ne => But.upd hW.grey _ a s c e fun q => ne (by rw [q])) (by rw [upd_self, refs_append]; rfl)) (Frame.upd hW.grey (mine_le (by decide))))
theorem push_again {i : Nat} {Q : Value → LH → Prop} (hW : WR W σ H) (hz : σ.again.length ≤ 1000) (h : ∀ H', WR W { σ with again := σ.again ++ [i] } H' → Frame W.k H H' → Q .none H') : C PG w hT A (.builtin "list.append") ⟨[.ref σ.againA, .ref (W.O i)], []⟩ H Q :=
  c_append hW.again (by rw [refs_len]; exact hz) (h _ (hW.setAgain (fun a s c e _ ne => But.upd hW.again _ a s c e fun q => ne (by rw [q])) (by rw [upd_self, refs_append]; rfl)) (Frame.upd hW.again (mine_le (by decide))))
theorem pop_grey {i : Nat} {l : List Nat} {Q : Value → LH → Prop} (hW : WR W σ H) (hl : σ.grey = l ++ [i]) (hz : σ.grey.length ≤ 1000) (h : ∀ H', WR W { σ with grey := l } H' → Frame W.k H H' → Q (.ref (W.O i)) H') : C PG w hT A (.builtin "list.pop") ⟨[.ref σ.greyA], []⟩ H Q := by
  have e := hW.grey
  rw [hl, refs_append] at e
  rw [hl, List.length_append, List.length_singleton] at hz
  exact c_popLast e (by rw [refs_len]; lia) (h _ (hW.setGrey (fun a s c e _ ne => But.upd hW.grey _ a s c e fun q => ne (by rw [q])) (by rw [upd_self])) (Frame.upd hW.grey (mine_le (by decide))))

theorem c_mark (P : Tp (KK w) hT) : ∀ (k : Nat) {A : Around} {σ : Sg} {H : LH} {x : Nat} {Q : Value → LH → Prop}, wh W.n σ.mark ≤ k → Room (k + 6) A → WR W σ H → Clo w hT W E H → x < W.n → pot W σ ≤ 900 →
    (∀ H' σ', MarksR W E [x] σ σ' → WR W σ' H' → Frame W.k H H' → Q .none H') → C PG w hT A (.ref 84) ⟨[.ref W.M, .ref (W.O x)], []⟩ H Q := by
  intro k
  induction k using Nat.strongRecOn with
  | _ k ih =>
  intro A σ H x Q hk R hW Z hx hp h
  refine c_fn (ps := ["self", "obj"]) (ls := ["sort", "child"]) (gs := [("is_white", .ref 28), ("GREY", .int 2 200), ("SORT_LEAF", .int 1 208), ("BLACK", .int 3 202), ("SORT_OPEN", .int 2 210)]) (vals := [.ref W.M, .ref (W.O x)])
    (ns := ["self", "obj", "sort", "child"]) (vs := [some (.ref W.M), some (.ref (W.O x)), none, none]) P R (by kernel_rfl) (by kernel_rfl) rfl fun L env A' he F R' => ?_
  refine t_cons (t_if_ ?_)
  walk_at "gc"
  refine ⟨keeps_top P (by kernel_rfl), t_call (c_is_white P R' hW hx ?_)⟩
  walk_at "gc"
  refine ⟨fun hc => t_cons (t_ret_none (h _ _ (.skip (by simpa using hc) .nil) hW (Frame.refl _ _))), fun hc => t_nil ?_⟩
  have hwh : σ.mark x < 2 := by simpa using hc
  have hpos := wh_pos hx hwh
  have hwhs := wh_set (v := 2) hx hwh (by decide)
  refine t_cons (t_assign_attr ?_)
  walk_at "gc"
  refine s_mark P hW hx fun H1 hW1 f1 => ?_
  have Z1 := Z.frame f1
  refine t_cons (t_assign_name ?_)
  walk_at "gc"
  refine g_sort_of P hW1 ?_
  walk_at "gc"
  refine ⟨(Z1.kch _ (Frame.refl _ _)).2.1, t_call (Z1.so A' _ H1 (k + 2) x _ (Frame.refl _ _) hW1 R' hx fun ts H2 e2 => ?_)⟩
  refine t_store F (by walk_at "gc_put") ?_
  have hW2 := hW1.ext e2
  have f2 := f1.trans (Frame.ext e2)
  have Z2 := Z.frame f2
  refine t_cons (t_if_ ?_)
  walk_at "gc"
  have wh2 : wh W.n (setM σ.mark x 2) + 1 = wh W.n σ.mark := hwhs
  refine ⟨fun hc2 => ?_, fun hc2 => t_nil ?_⟩
  · have hs : W.sort x = 1 := by simpa using hc2
    refine t_cons (t_assign_attr ?_)
    walk_at "gc"
    refine s_mark P hW2 hx fun H3 hW3 f3 => ?_
    have e3 : ({ σ with mark := setM (setM σ.mark x 2) x 3 } : Sg) = { σ with mark := setM σ.mark x 3 } := by
      have : setM (setM σ.mark x 2) x 3 = setM σ.mark x 3 := by funext j; unfold setM; split <;> rfl
      rw [this]
    dsimp only at hW3
    rw [e3] at hW3
    have f3' := f2.trans f3
    have Z3 := Z.frame f3'
    have wh3 := wh_set (v := 3) hx hwh (by decide)
    refine t_nil (t_cons (t_if_ ?_))
    walk_at "gc"
    refine ⟨fun _ => ?_, fun hn => by rw [hs] at hn; cases hn⟩
    refine ⟨fun _ => ?_, fun hn => by cases hn⟩
    refine t_cons (t_for_list F (by walk_at "gc_mem") R'.h ?_)
    walk_at "gc"
    refine g_children P hW3 ?_
    walk_at "gc"
    refine ⟨(Z3.kch _ (Frame.refl _ _)).1, t_call (Z3.ch A' _ H3 (k + 2) x _ (Frame.refl _ _) hW3 R' hx fun l H4 e4 hl => ?_)⟩
    have f4 := f3'.trans (Frame.ext e4)
    have hW4 := hW3.ext e4
    refine ⟨l, _, fun i m' H' => And4 ((∃ c, m' = lk ["self", "obj", "sort", "child"] [some (.ref W.M), some (.ref (W.O x)), some (.int (W.sort x) ts), c])) (H' l = some (tmp, .list (W.refs (E x)))) (Frame W.k H H') (∃ σ', MarksR W E ((E x).take i) { σ with mark := setM σ.mark x 3 } σ' ∧ WR W σ' H'), rfl, ⟨⟨_, rfl⟩, hl, f4, _, by rw [List.take_zero]; exact .nil, hW4⟩, fun i m H q => ⟨_, q.2⟩, ?_, ?_⟩
    · rintro J i hJ m' H' v ⟨⟨c, rfl⟩, hl', f', σ', hM, hW'⟩ hv
      obtain ⟨y, hy, rfl⟩ := refs_get hv
      refine t_stored F (by walk_at "gc_put") (t_cons (t_exprF F ?_))
      have hyn : y < W.n := Z.edge x hx y (List.mem_of_getElem? hy)
      have hle := hM.le
      dsimp only at hle
      walk_at "gc"
      refine meth_M P hW' (by kernel_rfl : classFn (KK w) 136 "mark" 84 = true) (by decide +kernel) ?_
      walk_at "gc"
      refine ⟨keeps_top P (by kernel_rfl), t_call (ih (k - 1) (by lia) (by lia) (R'.le (by lia)) hW' (Z.frame f') hyn ?_ fun H5 σ5 hM5 hW5 f5 => ?_)⟩
      · have : pot W { σ with mark := setM σ.mark x 3 } ≤ pot W σ := by unfold pot; dsimp only; lia
        lia
      · refine t_nil (hJ _ _ ⟨⟨_, rfl⟩, f5 _ _ _ hl' (tmp_not Z.kpos), f'.trans f5, σ5, ?_, hW5⟩)
        have : (E x).take (i + 1) = (E x).take i ++ [y] := by rw [List.take_add_one, hy]; rfl
        rw [this]
        exact hM.append hM5
    · rintro m' H' ⟨⟨c, rfl⟩, hl', f', σ', hM, hW'⟩
      rw [refs_len, List.take_length] at hM
      exact t_nil (t_nil (h _ _ (.leaf hx hwh hs (by rw [List.append_nil]; exact hM)) hW' f'))
  · have hs : W.sort x ≠ 1 := by simpa using hc2
    have hs2 : W.sort x ≠ 2 := by rcases Z.sorts x hx with q | q | q <;> lia
    refine t_cons (t_if_ ?_)
    walk_at "gc"
    refine ⟨fun hn => absurd (by simpa using hn) hs, fun _ => ?_⟩
    walk_at "gc"
    refine ⟨fun hn => absurd (by simpa using hn) hs2, fun _ => ?_⟩
    walk_at "gc"
    refine ⟨fun hn => (by cases hn), fun _ => ?_⟩
    refine t_cons (t_exprF F ?_)
    walk_at "gc"
    refine g_grey P hW2 ?_
    refine t_methodList hW2.grey PySem.F.slot_list_append ty_append ?_
    walk_at "gc"
    refine ⟨keeps_builtin, t_call (push_grey hW2 ?_ fun H3 hW3 f3 => ?_)⟩
    · unfold pot at hp; dsimp only; lia
    · exact t_nil (t_nil (h _ _ (.push hx hwh hs .nil) hW3 (f2.trans f3)))
end

/-! part M7 -/
theorem MarksR.same {W : Wd} {E : Nat → List Nat} {l : List Nat} {σ σ' : Sg} (a : MarksR W E l σ σ') : σ' = { σ with mark := σ'.mark, grey := σ'.grey } := by
  induction a with
  | nil => rfl
  | skip _ _ ih => exact ih
  | leaf _ _ _ _ ih => rw [ih]
  | push _ _ _ _ ih => rw [ih]
noncomputable def Sg.dead (σ : Sg) (i : Nat) : Bool := σ.mark i == 4 || (decide (σ.mark i < 2) && σ.mark i != σ.white)

section
variable {w : World} {hT : Heap} {A : Around} {L : Addr} {m : Loc} {H : LH} {n : Nat} {W : Wd} {σ : Sg} {E : Nat → List Nat}

theorem tag_ne {k r r' i i' : Nat} (h : r ≠ r') : ((k, r, i) : Tag) ≠ (k, r', i') := fun e => h (congrArg (fun t : Tag => t.2.1) e)
theorem c_isdead (P : Tp (KK w) hT) (R : Room (n + 2) A) {i : Nat} {Q : Value → LH → Prop} (hW : WR W σ H) (hi : i < W.n) (h : Q (.bool (σ.dead i)) H) : C PG w hT A (.ref 49) ⟨[.ref W.M, .ref (W.O i)], []⟩ H Q := by
  refine c_fn (ps := ["self", "obj"]) (ls := []) (gs := [("FREED", .int 4 204), ("is_white", .ref 28)]) (vals := [.ref W.M, .ref (W.O i)])
    (ns := ["self", "obj"]) (vs := [some (.ref W.M), some (.ref (W.O i))]) P R (by kernel_rfl) (by kernel_rfl) rfl fun L env A' he F R' => ?_
  refine t_cons (t_ret (t_orValue ?_))
  walk_at "gc"
  refine g_mark P hW hi fun _ => ?_
  walk_at "gc"
  refine ⟨fun hc => ?_, fun hc => t_andValue ?_⟩
  · have : σ.dead i = (σ.mark i == 4) := by unfold Sg.dead; rw [hc]; rfl
    rw [this] at h; exact h
  walk_at "gc"
  refine ⟨keeps_top P (by kernel_rfl), t_call (c_is_white P R' hW hi ?_)⟩
  walk_at "gc"
  refine ⟨fun hc2 => ?_, fun hc2 => ?_⟩
  · have : σ.dead i = decide (σ.mark i < 2) := by unfold Sg.dead; rw [hc, hc2]; rfl
    rw [this] at h; exact h
  walk_at "gc"
  refine g_mark P hW hi fun _ => ?_
  walk_at "gc"
  refine g_white P hW fun _ => ?_
  walk_at "gc"
  have : σ.dead i = (σ.mark i != σ.white) := by unfold Sg.dead; rw [hc, hc2]; rfl
  rw [this] at h; exact h

theorem c_makewhite (P : Tp (KK w) hT) (R : Room (n + 1) A) {i : Nat} {Q : Value → LH → Prop} (hW : WR W σ H) (hi : i < W.n) (h : ∀ H', WR W { σ with mark := setM σ.mark i σ.white } H' → Frame W.k H H' → Q .none H') : C PG w hT A (.ref 56) ⟨[.ref W.M, .ref (W.O i)], []⟩ H Q := by
  refine c_fn (ps := ["self", "obj"]) (ls := []) (gs := []) (vals := [.ref W.M, .ref (W.O i)])
    (ns := ["self", "obj"]) (vs := [some (.ref W.M), some (.ref (W.O i))]) P R (by kernel_rfl) (by kernel_rfl) rfl fun L env A' he F R' => ?_
  refine t_cons (t_assign_attr ?_)
  walk_at "gc"
  refine g_white P hW fun _ => ?_
  walk_at "gc"
  refine s_mark P hW hi fun H1 hW1 f1 => ?_
  exact t_nil (h _ hW1 f1)

theorem c_flip (P : Tp (KK w) hT) (R : Room (n + 1) A) {Q : Value → LH → Prop} (hW : WR W σ H) (h : ∀ H', WR W { σ with white := 1 - σ.white } H' → Frame W.k H H' → Q .none H') : C PG w hT A (.ref 112) ⟨[.ref W.M], []⟩ H Q := by
  refine c_fn (ps := ["self"]) (ls := []) (gs := [("OTHER_WHITE", .int 1 198)]) (vals := [.ref W.M])
    (ns := ["self"]) (vs := [some (.ref W.M)]) P R (by kernel_rfl) (by kernel_rfl) rfl fun L env A' he F R' => ?_
  refine t_cons (t_assign_attr ?_)
  walk_at "gc"
  refine g_white P hW fun _ => ?_
  walk_at "gc"
  obtain ⟨u, hd⟩ := hW.dm
  refine t_put P hW.m hd marks_nd (putM w) (by decide) (by walk_at "gc_at") (by walk_at "gc_put") ?_
  refine t_nil (h _ (hW.setMarks (fun a s c e _ ne => But.upd hd _ a s c e fun q => ne (.inl (by rw [q]))) (by rw [upd_self]) (But.upd hd _ _ _ _ hW.grey (tag_ne (by decide))) (But.upd hd _ _ _ _ hW.again (tag_ne (by decide))) (But.upd hd _ _ _ _ hW.weak (tag_ne (by decide)))) (Frame.upd hd (mine_le (by decide))))

theorem upd_upd_K {k : Nat} {l d : Addr} {td : Tag} {cd cd' c : Cell} {t' : Tag} (hn : H l = none) (hd : H d = some (td, cd)) {a : Addr} {s : Tag} {x : Cell} (e : H a = some (s, x)) (ne : s ≠ td) : Gc.upd (Gc.upd H l (t', c)) d (td, cd') a = some (s, x) := by
  have h1 : a ≠ l := fun q => by rw [q, hn] at e; cases e
  have h2 : a ≠ d := fun q => by rw [q, hd] at e; cases e; exact ne rfl
  rw [upd_ne _ _ h2, upd_ne _ _ h1]; exact e
theorem upd_upd_frame {k : Nat} {l d : Addr} {td : Tag} {cd cd' c : Cell} {t' : Tag} (hn : H l = none) (hd : H d = some (td, cd)) (hm : mine k td) : Frame k H (Gc.upd (Gc.upd H l (t', c)) d (td, cd')) := fun a s x e ns =>
  upd_upd_K (k := k) hn hd e fun q => ns (q ▸ hm)
theorem ne_of_none {l d : Addr} {x : Tag × Cell} (hn : H l = none) (hd : H d = some x) : l ≠ d := fun e => by rw [e, hd] at hn; cases hn
theorem s_greyNew {l : Addr} {gs : List Nat} {Q : Unit → Loc → LH → Prop} (P : Tp (KK w) hT) (hW : WR W σ H) (hn : H l = none) (h : ∀ H', WR W { σ with grey := gs, greyA := l } H' → Frame W.k H H' → Q () m H') : T PG w hT A L (setAttr (.ref W.M) "grey" (.ref l)) m (upd H l (tmp, .list (W.refs gs))) Q := by
  obtain ⟨u, hd⟩ := hW.dm
  have ne := ne_of_none hn hd
  have ne2 := ne_of_none hn hW.m
  refine t_retag (g' := (W.k, 7, 0)) (upd_self _ _ _) ?_
  have eu : upd (upd H l (tmp, .list (W.refs gs))) l ((W.k, 7, 0), .list (W.refs gs)) = upd H l ((W.k, 7, 0), .list (W.refs gs)) := by funext b; unfold upd; split <;> rfl
  rw [eu]
  refine t_put P (H := upd H l ((W.k, 7, 0), .list (W.refs gs))) (by rw [upd_ne _ _ ne2.symm]; exact hW.m) (by rw [upd_ne _ _ ne.symm]; exact hd) marks_nd (putM w) (by decide) (by walk_at "gc_at") (by walk_at "gc_put") ?_
  refine h _ (hW.setMarks (u := u) (fun a s c e _ ns => upd_upd_K (k := W.k) hn hd e fun q => ns (.inl (by rw [q]))) (by rw [upd_self]) (by rw [upd_ne _ _ ne, upd_self]) (upd_upd_K (k := W.k) hn hd hW.again (tag_ne (by decide))) (upd_upd_K (k := W.k) hn hd hW.weak (tag_ne (by decide)))) (upd_upd_frame hn hd (mine_le (by decide)))
theorem s_againNew {l : Addr} {gs : List Nat} {Q : Unit → Loc → LH → Prop} (P : Tp (KK w) hT) (hW : WR W σ H) (hn : H l = none) (h : ∀ H', WR W { σ with again := gs, againA := l } H' → Frame W.k H H' → Q () m H') : T PG w hT A L (setAttr (.ref W.M) "grey_again" (.ref l)) m (upd H l (tmp, .list (W.refs gs))) Q := by
  obtain ⟨u, hd⟩ := hW.dm
  have ne := ne_of_none hn hd
  have ne2 := ne_of_none hn hW.m
  refine t_retag (g' := (W.k, 8, 0)) (upd_self _ _ _) ?_
  have eu : upd (upd H l (tmp, .list (W.refs gs))) l ((W.k, 8, 0), .list (W.refs gs)) = upd H l ((W.k, 8, 0), .list (W.refs gs)) := by funext b; unfold upd; split <;> rfl
  rw [eu]
  refine t_put P (H := upd H l ((W.k, 8, 0), .list (W.refs gs))) (by rw [upd_ne _ _ ne2.symm]; exact hW.m) (by rw [upd_ne _ _ ne.symm]; exact hd) marks_nd (putM w) (by decide) (by walk_at "gc_at") (by walk_at "gc_put") ?_
  refine h _ (hW.setMarks (u := u) (fun a s c e _ ns => upd_upd_K (k := W.k) hn hd e fun q => ns (.inl (by rw [q]))) (by rw [upd_self]) (upd_upd_K (k := W.k) hn hd hW.grey (tag_ne (by decide))) (by rw [upd_ne _ _ ne, upd_self]) (upd_upd_K (k := W.k) hn hd hW.weak (tag_ne (by decide)))) (upd_upd_frame hn hd (mine_le (by decide)))
theorem s_weakNew {l : Addr} {Q : Unit → Loc → LH → Prop} (P : Tp (KK w) hT) (hW : WR W σ H) (hn : H l = none) (h : ∀ H', WR W { σ with weakA := l } H' → Frame W.k H H' → Q () m H') : T PG w hT A L (setAttr (.ref W.M) "weak" (.ref l)) m (upd H l (tmp, .list [])) Q := by
  obtain ⟨u, hd⟩ := hW.dm
  have ne := ne_of_none hn hd
  have ne2 := ne_of_none hn hW.m
  refine t_retag (g' := (W.k, 9, 0)) (upd_self _ _ _) ?_
  have eu : upd (upd H l (tmp, .list [])) l ((W.k, 9, 0), .list []) = upd H l ((W.k, 9, 0), .list []) := by funext b; unfold upd; split <;> rfl
  rw [eu]
  refine t_put P (H := upd H l ((W.k, 9, 0), .list [])) (by rw [upd_ne _ _ ne2.symm]; exact hW.m) (by rw [upd_ne _ _ ne.symm]; exact hd) marks_nd (putM w) (by decide) (by walk_at "gc_at") (by walk_at "gc_put") ?_
  refine h _ (hW.setMarks (u := u) (fun a s c e _ ns => upd_upd_K (k := W.k) hn hd e fun q => ns (.inl (by rw [q]))) (by rw [upd_self]) (upd_upd_K (k := W.k) hn hd hW.grey (tag_ne (by decide))) (upd_upd_K (k := W.k) hn hd hW.again (tag_ne (by decide))) (by rw [upd_ne _ _ ne, upd_self])) (upd_upd_frame hn hd (mine_le (by decide)))

theorem c_forget (P : Tp (KK w) hT) (R : Room (n + 1) A) {Q : Value → LH → Prop} (hW : WR W σ H) (h : ∀ H' ga aa wa, WR W { σ with grey := [], again := [], greyA := ga, againA := aa, weakA := wa } H' → Frame W.k H H' → Q .none H') : C PG w hT A (.ref 70) ⟨[.ref W.M], []⟩ H Q := by
  refine c_fn (ps := ["self"]) (ls := []) (gs := []) (vals := [.ref W.M])
    (ns := ["self"]) (vs := [some (.ref W.M)]) P R (by kernel_rfl) (by kernel_rfl) rfl fun L env A' he F R' => ?_
  refine t_cons (t_assign_attr (t_list ?_))
  walk_at "gc"
  refine ⟨by decide, fun l1 n1 => ?_⟩
  walk_at "gc"
  refine s_greyNew (gs := []) P hW n1 fun H1 hW1 f1 => ?_
  refine t_cons (t_assign_attr (t_list ?_))
  walk_at "gc"
  refine ⟨by decide, fun l2 n2 => ?_⟩
  walk_at "gc"
  refine s_againNew (gs := []) P hW1 n2 fun H2 hW2 f2 => ?_
  refine t_cons (t_assign_attr (t_list ?_))
  walk_at "gc"
  refine ⟨by decide, fun l3 n3 => ?_⟩
  walk_at "gc"
  refine s_weakNew P hW2 n3 fun H3 hW3 f3 => ?_
  exact t_nil (h _ _ _ _ hW3 ((f1.trans f2).trans f3))

/-- the loop that marks all of a list -/
theorem t_markLoop {env : Env} {ns : List Str} {gs : List (Str × Value)} {fs : List (Str × Addr)} {vsx : Option Value → List (Option Value)} {x : Str} {tp pos q1 q2 q3 q4 q5 : Pos} {iter : Expr} {cs : List Nat} {Q : Flow → Loc → LH → Prop}
    (P : Tp (KK w) hT) (F : FnE hT env L ns gs fs) (R : Room 15 A) (hput : ∀ c v, Put ns (vsx c) x (some v) (vsx (some v))) (hself : ∀ c, At ns (vsx c) "self" (some (.ref W.M))) (hx : ∀ c, At ns (vsx (some c)) x (some c))
    (h : T PG w hT A L (eval iter env) m H fun v m1 H1 => Ex3 fun l σ c0 => And8 (v = .ref l) (m1 = lk ns (vsx c0)) (WR W σ H1) (Clo w hT W E H1) (pot W σ ≤ 900) ((∀ c ∈ cs, c < W.n)) ((∀ H' σ', σ' = { σ with mark := σ'.mark, grey := σ'.grey } → WR W σ' H' → Frame W.k H1 H' → ∃ t, H' l = some (t, .list (W.refs cs)))) (∀ c H' σ', MarksR W E cs σ σ' → WR W σ' H' → Frame W.k H1 H' → Q .next (lk ns (vsx c)) H'))
    (hl : (q2.endLine == q4.line) = true := by rfl) (hs : ∀ x, foldedSetIterable iter env x = pure x := by intro _; rfl) :
    T PG w hT A L (exec (.For (.Name x tp) iter [.Expr (.Call (.Attribute (.Name "self" q1) "mark" q2) [.Name x q3] [] q4) q5] [] pos) env) m H Q := by
  refine t_for_list F (hput none (.int 0 0)).mem R.h (t_mono h ?_) hs
  rintro v m1 H1 ⟨l, σ, c0, rfl, rfl, hW, Z, hp, hc, hk, hend⟩
  refine ⟨l, _, fun i m' H' => And4 ((∃ c, m' = lk ns (vsx c))) ((∃ t, H' l = some (t, .list (W.refs cs)))) (Frame W.k H1 H') (∃ σ', MarksR W E (cs.take i) σ σ' ∧ WR W σ' H'), rfl,
    ⟨⟨_, rfl⟩, hk _ σ rfl hW (Frame.refl _ _), Frame.refl _ _, _, by rw [List.take_zero]; exact .nil, hW⟩, fun i m H q => q.2, ?_, ?_⟩
  · rintro J i hJ m' H' v ⟨⟨c, rfl⟩, hl', f', σ', hM, hW'⟩ hv
    obtain ⟨y, hy, rfl⟩ := refs_get hv
    refine t_stored F (hput _ _) (t_cons (t_exprF F ?_))
    have hyn : y < W.n := hc y (List.mem_of_getElem? hy)
    have hle := hM.le
    refine t_callMethod ?_ (hl := hl)
    refine t_name_local F (hself _) ?_
    refine meth_M P hW' (by kernel_rfl : classFn (KK w) 136 "mark" 84 = true) (by decide +kernel) ?_
    refine t_callWith (by with_unfolding_all rfl) ?_
    refine t_spl_cons (t_iff (t_name_local F (hx _) (t_spl_nil ?_)))
    refine ⟨keeps_top P (by kernel_rfl), t_call (c_mark P 9 (Nat.le_trans wh_le Z.n9) R hW' (Z.frame f') hyn (Nat.le_trans hle.2.1 hp) fun H5 σ5 hM5 hW5 f5 => ?_)⟩
    refine t_nil (hJ _ _ ⟨⟨_, rfl⟩, ?_, f'.trans f5, σ5, ?_, hW5⟩)
    · refine hk _ σ5 ?_ hW5 (f'.trans f5)
      rw [hM5.same, hM.same]
    · have : cs.take (i + 1) = cs.take i ++ [y] := by rw [List.take_add_one, hy]; rfl
      rw [this]
      exact hM.append hM5
  · rintro m' H' ⟨⟨c, rfl⟩, hl', f', σ', hM, hW'⟩
    rw [refs_len, List.take_length] at hM
    exact hend c _ _ hM hW' f'
end

/-! part M8 -/
theorem wh_mono {n x : Nat} {f : Nat → Int} {v : Int} (hv : ¬ v < 2) : wh n (setM f x v) ≤ wh n f := by
  induction n with
  | zero => exact Nat.le_refl _
  | succ n ih =>
    unfold wh
    by_cases q : n = x
    · subst q; rw [setM_self, if_neg hv]; lia
    · rw [setM_ne _ _ q]; lia
/-- one thing is taken from the grey -/
inductive PropR (W : Wd) (E : Nat → List Nat) : Sg → Sg → Prop
  | plain {σ σ' l x} : σ.grey = l ++ [x] → x < W.n → W.sort x ≠ 3 → MarksR W E (E x) { σ with grey := l, mark := setM σ.mark x 3 } σ' → PropR W E σ σ'
  | again {σ σ' l x} : σ.grey = l ++ [x] → x < W.n → W.sort x = 3 → MarksR W E (E x) { σ with grey := l, mark := setM σ.mark x 2, again := σ.again ++ [x] } σ' → PropR W E σ σ'
inductive PropAllR (W : Wd) (E : Nat → List Nat) : Sg → Sg → Prop
  | done {σ} : σ.grey = [] → PropAllR W E σ σ
  | step {σ σ1 σ'} : PropR W E σ σ1 → PropAllR W E σ1 σ' → PropAllR W E σ σ'
/-- all lists hold things that are there -/
noncomputable def Vl (W : Wd) (σ : Sg) : Prop := (∀ i ∈ σ.grey, i < W.n) ∧ (∀ i ∈ σ.again, i < W.n)
theorem MarksR.vl {W : Wd} {E : Nat → List Nat} {l : List Nat} {σ σ' : Sg} (a : MarksR W E l σ σ') (h : Vl W σ) : Vl W σ' := by
  obtain ⟨_, _, e, g⟩ := a.le
  exact ⟨fun i hi => (g i hi).elim (h.1 i) id, by rw [e]; exact h.2⟩
theorem PropR.le {W : Wd} {E : Nat → List Nat} {σ σ' : Sg} (a : PropR W E σ σ') (h : Vl W σ) : pot W σ' ≤ pot W σ ∧ Vl W σ' ∧ σ'.grey.length + wh W.n σ'.mark < σ.grey.length + wh W.n σ.mark ∧ σ' = { σ with mark := σ'.mark, grey := σ'.grey, again := σ'.again } := by
  cases a with
  | plain h1 h2 h3 hM =>
    rename_i l x
    have q := hM.le
    have v := hM.vl (by
      refine ⟨fun i hi => h.1 i ?_, h.2⟩
      rw [h1]; exact List.mem_append_left _ hi)
    have mo := wh_mono (n := W.n) (x := x) (f := σ.mark) (v := 3) (by decide)
    unfold pot at *
    dsimp only at q
    rw [h1, List.length_append, List.length_singleton]
    rw [q.2.2.1] at *
    refine ⟨by lia, v, by lia, ?_⟩
    rw [hM.same]
  | again h1 h2 h3 hM =>
    rename_i l x
    have q := hM.le
    have v := hM.vl (by
      refine ⟨fun i hi => h.1 i ?_, fun i hi => ?_⟩
      · rw [h1]; exact List.mem_append_left _ hi
      · rcases List.mem_append.mp hi with z | z
        · exact h.2 i z
        · rw [List.mem_singleton] at z; rw [z]; exact h2)
    have mo := wh_mono (n := W.n) (x := x) (f := σ.mark) (v := 2) (by decide)
    unfold pot at *
    dsimp only at q
    rw [h1, List.length_append, List.length_singleton]
    rw [q.2.2.1] at *
    rw [List.length_append, List.length_singleton] at q
    refine ⟨?_, v, by lia, ?_⟩
    · rw [List.length_append, List.length_singleton]; lia
    · rw [hM.same]
theorem PropAllR.le {W : Wd} {E : Nat → List Nat} {σ σ' : Sg} (a : PropAllR W E σ σ') (h : Vl W σ) : pot W σ' ≤ pot W σ ∧ Vl W σ' ∧ σ'.grey = [] ∧ σ' = { σ with mark := σ'.mark, grey := σ'.grey, again := σ'.again } := by
  induction a with
  | done e => exact ⟨Nat.le_refl _, h, e, rfl⟩
  | step p _ ih =>
    have q := p.le h
    have z := ih q.2.1
    refine ⟨Nat.le_trans z.1 q.1, z.2.1, z.2.2.1, ?_⟩
    rw [z.2.2.2, q.2.2.2]

section
variable {w : World} {hT : Heap} {A : Around} {L : Addr} {m : Loc} {H : LH} {n : Nat} {W : Wd} {σ : Sg} {E : Nat → List Nat}

theorem c_begin (P : Tp (KK w) hT) (R : Room 16 A) {Q : Value → LH → Prop} (hW : WR W σ H) (Z : Clo w hT W E H) (hr : ∀ i ∈ σ.rootl, i < W.n)
    (h : ∀ H' σ' ga aa wa, MarksR W E σ.rootl { σ with grey := [], again := [], greyA := ga, againA := aa, weakA := wa } σ' → WR W σ' H' → Frame W.k H H' → Q .none H') : C PG w hT A (.ref 77) ⟨[.ref W.M, .ref σ.rootA], []⟩ H Q := by
  refine c_fn (ps := ["self", "roots"]) (ls := ["obj"]) (gs := []) (vals := [.ref W.M, .ref σ.rootA])
    (ns := ["self", "roots", "obj"]) (vs := [some (.ref W.M), some (.ref σ.rootA), none]) P R (by kernel_rfl) (by kernel_rfl) rfl fun L env A' he F R' => ?_
  refine t_cons (t_exprF F ?_)
  walk_at "gc"
  refine meth_M P hW (by kernel_rfl : classFn (KK w) 136 "forget" 70 = true) (by decide +kernel) ?_
  walk_at "gc"
  refine ⟨keeps_top P (by kernel_rfl), t_call (c_forget P R' hW fun H1 ga aa wa hW1 f1 => ?_)⟩
  refine t_cons (t_markLoop (E := E) (vsx := fun c => [some (.ref W.M), some (.ref σ.rootA), c]) (cs := σ.rootl) P F R' (fun _ _ => by walk_at "gc_put") (fun _ => by walk_at "gc_at") (fun _ => by walk_at "gc_at") ?_)
  walk_at "gc"
  refine ⟨_, _, _, rfl, rfl, hW1, Z.frame f1, ?_, hr, fun H' σ' e hW' f' => ?_, fun c H' σ' hM hW' f' => t_nil (h _ _ _ _ _ hM hW' (f1.trans f'))⟩
  · have := wh_le (n := W.n) (f := σ.mark)
    have := Z.n9
    show 0 + 0 + wh W.n σ.mark ≤ 900
    lia
  · have := hW'.root
    rw [e] at this
    exact ⟨_, this⟩

theorem c_propagate (P : Tp (KK w) hT) (R : Room 16 A) {Q : Value → LH → Prop} (hW : WR W σ H) (Z : Clo w hT W E H) (hv : Vl W σ) (hp : pot W σ ≤ 900) (hg : σ.grey ≠ [])
    (h : ∀ H' σ' v t, 0 ≤ v → PropR W E σ σ' → WR W σ' H' → Frame W.k H H' → Q (.int v t) H') : C PG w hT A (.ref 91) ⟨[.ref W.M], []⟩ H Q := by
  refine c_fn (ps := ["self"]) (ls := ["obj", "sort", "child"]) (gs := [("BLACK", .int 3 202), ("SORT_AGAIN", .int 3 212), ("GREY", .int 2 200), ("SORT_WEAK", .int 4 214), ("max", .builtin "max")]) (vals := [.ref W.M])
    (ns := ["self", "obj", "sort", "child"]) (vs := [some (.ref W.M), none, none, none]) P R (by kernel_rfl) (by kernel_rfl) rfl fun L env A' he F R' => ?_
  obtain ⟨l, x, hl⟩ : ∃ l x, σ.grey = l ++ [x] := ⟨_, _, (List.dropLast_concat_getLast hg).symm⟩
  have hx : x < W.n := hv.1 x (by rw [hl]; exact List.mem_append_right _ (List.mem_singleton_self x))
  have hgl : σ.grey.length ≤ 1000 := by unfold pot at hp; lia
  refine t_cons (t_assign_name ?_)
  walk_at "gc"
  refine g_grey P hW ?_
  refine t_methodList hW.grey PySem.F.slot_list_pop ty_pop ?_
  walk_at "gc"
  refine ⟨keeps_builtin, t_call (pop_grey hW hl hgl fun H1 hW1 f1 => ?_)⟩
  refine t_store F (by walk_at "gc_put") ?_
  refine t_cons (t_assign_attr ?_)
  walk_at "gc"
  refine s_mark P hW1 hx fun H2 hW2 f2 => ?_
  have f2' := f1.trans f2
  dsimp only at hW2
  refine t_cons (t_assign_name ?_)
  walk_at "gc"
  refine g_sort_of P hW2 ?_
  walk_at "gc"
  refine ⟨((Z.frame f2').kch _ (Frame.refl _ _)).2.1, t_call ((Z.frame f2').so A' _ H2 12 x _ (Frame.refl _ _) hW2 R' hx fun ts H3 e3 => ?_)⟩
  have hW3 := hW2.ext e3
  have f3 := f2'.trans (Frame.ext e3)
  refine t_store F (by walk_at "gc_put") ?_
  have fin : ∀ (H4 : LH) (σ4 : Sg), WR W σ4 H4 → pot W σ4 ≤ 900 → Frame W.k H H4 → (∀ σ', MarksR W E (E x) σ4 σ' → PropR W E σ σ') →
      T PG w hT A' L (execs ((bodyOf (fdOf (KK w) 91)).drop 4) env) (lk ["self", "obj", "sort", "child"] [some (.ref W.M), some (.ref (W.O x)), some (.int (W.sort x) ts), none]) H4 fun fl _ H' => Q (match fl with | .ret v => v | _ => .none) H' := by
    intro H4 σ4 hW4 hp4 f4 hR
    refine t_cons (t_markLoop (E := E) (vsx := fun c => [some (.ref W.M), some (.ref (W.O x)), some (.int (W.sort x) ts), c]) (cs := E x) P F R' (fun _ _ => by walk_at "gc_put") (fun _ => by walk_at "gc_at") (fun _ => by walk_at "gc_at") ?_)
    walk_at "gc"
    refine g_children P hW4 ?_
    walk_at "gc"
    refine ⟨((Z.frame f4).kch _ (Frame.refl _ _)).1, t_call ((Z.frame f4).ch A' _ H4 12 x _ (Frame.refl _ _) hW4 R' hx fun lc H5 e5 hlc => ?_)⟩
    have f5 := f4.trans (Frame.ext e5)
    refine ⟨lc, _, none, rfl, rfl, hW4.ext e5, Z.frame f5, hp4, Z.edge x hx, fun H' σ' e hW' f' => ⟨_, f' _ _ _ hlc (tmp_not Z.kpos)⟩, fun c H' σ' hM hW' f' => ?_⟩
    refine t_cons (t_ret ?_)
    walk_at "gc"
    refine g_size P hW' hx fun _ => ?_
    walk_at "gc"
    refine ⟨keeps_builtin, t_max R'.h fun _ => ?_⟩
    exact h _ _ _ _ (by lia) (hR σ' hM) hW' (f5.trans f')
  refine t_cons (t_if_ ?_)
  walk_at "gc"
  refine ⟨fun hs => ?_, fun hs => ?_⟩
  · have hs' : W.sort x = 3 := by simpa using hs
    refine t_cons (t_exprF F ?_)
    walk_at "gc"
    refine g_again P hW3 ?_
    refine t_methodList hW3.again PySem.F.slot_list_append ty_append ?_
    walk_at "gc"
    refine ⟨keeps_builtin, t_call (push_again hW3 (by unfold pot at hp; dsimp only; lia) fun H4 hW4 f4 => ?_)⟩
    refine t_cons (t_assign_attr ?_)
    walk_at "gc"
    refine s_mark P hW4 hx fun H5 hW5 f5 => ?_
    dsimp only at hW5
    have e3 : setM (setM σ.mark x 3) x 2 = setM σ.mark x 2 := by funext j; unfold setM; split <;> rfl
    rw [e3] at hW5
    refine t_nil (fin _ _ hW5 ?_ ((f3.trans f4).trans f5) fun σ' hM => .again hl hx hs' hM)
    have mo := wh_mono (n := W.n) (x := x) (f := σ.mark) (v := 2) (by decide)
    unfold pot at *
    rw [hl] at hp
    simp only [List.length_append, List.length_singleton] at *
    lia
  · have hs' : W.sort x ≠ 3 := by simpa using hs
    refine t_cons (t_if_ ?_)
    walk_at "gc"
    refine ⟨fun hs => absurd (show W.sort x = 4 by simpa using hs) (by rcases Z.sorts x hx with q | q | q <;> lia), fun _ => ?_⟩
    refine t_nil (t_nil (fin _ _ hW3 ?_ f3 fun σ' hM => .plain hl hx hs' hM))
    have mo := wh_mono (n := W.n) (x := x) (f := σ.mark) (v := 3) (by decide)
    unfold pot at *
    rw [hl] at hp
    simp only [List.length_append, List.length_singleton] at *
    lia

theorem c_propall (P : Tp (KK w) hT) (R : Room 17 A) {Q : Value → LH → Prop} (hW : WR W σ H) (Z : Clo w hT W E H) (hv : Vl W σ) (hp : pot W σ ≤ 900)
    (h : ∀ H' σ' v t, 0 ≤ v → PropAllR W E σ σ' → WR W σ' H' → Frame W.k H H' → Q (.int v t) H') : C PG w hT A (.ref 98) ⟨[.ref W.M], []⟩ H Q := by
  refine c_fn (ps := ["self"]) (ls := ["work"]) (gs := [("len", .builtin "len")]) (vals := [.ref W.M])
    (ns := ["self", "work"]) (vs := [some (.ref W.M), none]) P R (by kernel_rfl) (by kernel_rfl) rfl fun L env A' he F R' => ?_
  refine t_cons (t_assign_name ?_)
  walk_at "gc"
  refine t_store F (by walk_at "gc_put") ?_
  refine t_cons (t_while (fun k m' H' => And3 ((∃ v t, 0 ≤ v ∧ m' = lk ["self", "work"] [some (.ref W.M), some (.int v t)])) (Frame W.k H H') (∃ σ', And5 (σ'.grey.length + wh W.n σ'.mark = k) (Vl W σ') (pot W σ' ≤ 900) (WR W σ' H') (∀ σ'', PropAllR W E σ' σ'' → PropAllR W E σ σ''))) _
    ⟨⟨_, _, Int.le_refl _, rfl⟩, Frame.refl _ _, σ, rfl, hv, hp, hW, fun _ q => q⟩ ?_)
  rintro J k hJ m' H' ⟨⟨v, t, h0, rfl⟩, f', σ', hk, hv', hp', hW', hR⟩
  walk_at "gc"
  refine g_grey P hW' ?_
  walk_at "gc"
  refine ⟨keeps_builtin, t_len hW'.grey (by rw [refs_len]; unfold pot at hp'; lia) fun _ => ?_⟩
  walk_at "gc"
  rw [refs_len]
  refine ⟨fun hc => ?_, fun hc => ?_⟩
  · have hne : σ'.grey ≠ [] := by
      intro e
      rw [e] at hc
      simp at hc
    refine t_cons (t_aug_name (t_load_local F (by walk_at "gc_at") ?_))
    walk_at "gc"
    refine meth_M P hW' (by kernel_rfl : classFn (KK w) 136 "propagate" 91 = true) (by decide +kernel) ?_
    walk_at "gc"
    refine ⟨keeps_top P (by kernel_rfl), t_call (c_propagate P R' hW' (Z.frame f') hv' hp' hne fun H1 σ1 v1 t1 hv1 hR1 hW1 f1 => ?_)⟩
    walk_at "gc"
    refine t_store F (by walk_at "gc_put") ?_
    have q := hR1.le hv'
    exact t_nil (hJ _ _ _ (by lia) ⟨⟨_, _, by lia, rfl⟩, f'.trans f1, σ1, rfl, q.2.1, by lia, hW1, fun σ'' z => hR _ (.step hR1 z)⟩)
  · have he : σ'.grey = [] := by
      cases e : σ'.grey with
      | nil => rfl
      | cons a b => rw [e] at hc; simp at hc
    refine t_cons (t_ret ?_)
    walk_at "gc"
    exact h _ _ _ _ h0 (hR _ (.done he)) hW' f'
end

/-! part M9 -/
theorem ne_of_tag {H : LH} {a b : Addr} {t t' : Tag} {c c' : Cell} (ha : H a = some (t, c)) (hb : H b = some (t', c')) (h : t ≠ t') : a ≠ b := fun e => by
  rw [e, hb] at ha; cases ha; exact h rfl
theorem swap_none {prog : Unit} {env : Env} {o1 o2 e1 e2 : Expr} {a1 a2 : Str} {p1 p2 tp vp : Pos} {k k2 : Nat} :
    swappedStores [.Tuple [.Attribute o1 a1 p1, .Attribute o2 a2 p2] k tp] (.Tuple [e1, e2] k2 vp) env = pure none := by
  unfold swappedStores
  dsimp only
  split
  · rfl
  · split <;> rfl
section
variable {w : World} {hT : Heap} {A : Around} {L : Addr} {m : Loc} {H : LH} {n : Nat} {W : Wd} {σ : Sg} {E : Nat → List Nat}

theorem t_swapWeak {env : Env} {ns : List Str} {gs : List (Str × Value)} {fs : List (Str × Addr)} {vs : List (Option Value)} {p1 p2 p3 p4 p5 p6 p7 p8 p9 p10 : Pos} {k1 k2 : Nat} {Q : Flow → Loc → LH → Prop} (P : Tp (KK w) hT) (hA : A.handled = none) (F : FnE hT env L ns gs fs) (hs : At ns vs "self" (some (.ref W.M))) (hW : WR W σ H) (kp : W.k ≠ 0)
    (h : ∀ H' ln, WR W { σ with grey := [], greyA := σ.weakA, weakA := ln } H' → Frame W.k H H' → Q .next (lk ns vs) H') :
    T PG w hT A L (exec (.Assign [.Tuple [.Attribute (.Name "self" p1) "grey" p2, .Attribute (.Name "self" p3) "weak" p4] k1 p5] (.Tuple [.Attribute (.Name "self" p6) "weak" p7, .List [] p8] k2 p9) p10) env) (lk ns vs) H Q := by
  refine t_assignTup (t_tuple (trees := [(false, eval (.Attribute (.Name "self" p6) "weak" p7) env), (false, eval (.List [] p8) env)]) ?_) (swap_none (prog := ()))
  refine t_spl_cons (t_attr (t_name_local F hs (g_weak P hW ?_)))
  refine t_spl_cons (t_list (t_spl_nil ⟨by decide, fun ln n1 => t_spl_nil ⟨Nat.le_of_ble_eq_true rfl, fun tp n2 => ?_⟩⟩))
  refine t_unpackTup hA (upd_self _ _ _) rfl ?_
  have ntl : tp ≠ ln := fun e => by rw [e, upd_self] at n2; cases n2
  have n3 : H tp = none := by rw [upd_ne _ _ ntl] at n2; exact n2
  obtain ⟨u, hd⟩ := hW.dm
  have nAl : σ.weakA ≠ ln := (ne_of_none n1 hW.weak).symm
  have nAt : σ.weakA ≠ tp := (ne_of_none n3 hW.weak).symm
  have nMl : W.M ≠ ln := (ne_of_none n1 hW.m).symm
  have nMt : W.M ≠ tp := (ne_of_none n3 hW.m).symm
  have ndl : W.dM ≠ ln := (ne_of_none n1 hd).symm
  have ndt : W.dM ≠ tp := (ne_of_none n3 hd).symm
  have nMd : W.M ≠ W.dM := ne_of_tag hW.m hd (tag_ne (by decide))
  have nAd : σ.weakA ≠ W.dM := ne_of_tag hW.weak hd (tag_ne (by decide))
  have nAM : σ.weakA ≠ W.M := ne_of_tag hW.weak hW.m (tag_ne (by decide))
  have nld := ndl.symm
  refine t_retag (a := σ.weakA) (g' := (W.k, 7, 0)) (by rw [upd_ne _ _ nAt, upd_ne _ _ nAl]; exact hW.weak) ?_
  refine t_retag (a := ln) (g' := (W.k, 9, 0)) (by rw [upd_ne _ _ nAl.symm, upd_ne _ _ ntl.symm, upd_self]) ?_
  have K : ∀ (a : Addr) (s : Tag) (c : Cell) v v', H a = some (s, c) → s ≠ (W.k, 3, 0) → s ≠ (W.k, 9, 0) →
      upd (upd (upd (upd (upd (upd H ln (tmp, .list [])) tp (tmp, .obj (tupObj [.ref σ.weakA, .ref ln]))) σ.weakA ((W.k, 7, 0), .list ([]))) ln ((W.k, 9, 0), .list [])) W.dM v) W.dM v' a = some (s, c) := by
    intro a s c v v' e q1 q2
    have a1 : a ≠ ln := fun q => by rw [q, n1] at e; cases e
    have a2 : a ≠ tp := fun q => by rw [q, n3] at e; cases e
    have a3 : a ≠ W.dM := ne_of_tag e hd q1
    have a4 : a ≠ σ.weakA := ne_of_tag e hW.weak q2
    rw [upd_ne _ _ a3, upd_ne _ _ a3, upd_ne _ _ a1, upd_ne _ _ a4, upd_ne _ _ a2, upd_ne _ _ a1]; exact e
  refine t_ord_cons (t_as_attr (t_name_local F hs ?_))
  refine t_put (kk := 6) P (by rw [upd_ne _ _ nMl, upd_ne _ _ nAM.symm, upd_ne _ _ nMt, upd_ne _ _ nMl]; exact hW.m) (by rw [upd_ne _ _ ndl, upd_ne _ _ nAd.symm, upd_ne _ _ ndt, upd_ne _ _ ndl]; exact hd) marks_nd (putM w) (by decide) (by walk_at "gc_at") (by walk_at "gc_put") ?_
  refine t_ord_cons (t_as_attr (t_name_local F hs ?_))
  refine t_put (kk := 6) P (by rw [upd_ne _ _ nMd, upd_ne _ _ nMl, upd_ne _ _ nAM.symm, upd_ne _ _ nMt, upd_ne _ _ nMl]; exact hW.m) (upd_self _ _ _) marks_nd (putM w) (by decide) (by walk_at "gc_at") (by walk_at "gc_put") ?_
  refine t_ord_nil (ts := []) (h _ ln (hW.setMarks (u := u) (fun a s c e _ ne => K a s c _ _ e (fun q => ne (.inl (by rw [q]))) (fun q => ne (.inr (.inr (.inr (by rw [q])))))) (by rw [upd_self]) (by rw [upd_ne _ _ nAd, upd_ne _ _ nAd, upd_ne _ _ nAl, upd_self]; rfl) (K _ _ _ _ _ hW.again (tag_ne (by decide)) (tag_ne (by decide))) (by rw [upd_ne _ _ nld, upd_ne _ _ nld, upd_self])) ?_)
  intro a s c e ns
  exact K a s c _ _ e (fun q => ns (by rw [q]; exact mine_le (by decide))) (fun q => ns (by rw [q]; exact mine_le (by decide)))

theorem t_swapAgain {env : Env} {ns : List Str} {gs : List (Str × Value)} {fs : List (Str × Addr)} {vs : List (Option Value)} {p1 p2 p3 p4 p5 p6 p7 p8 p9 p10 : Pos} {k1 k2 : Nat} {Q : Flow → Loc → LH → Prop} (P : Tp (KK w) hT) (hA : A.handled = none) (F : FnE hT env L ns gs fs) (hs : At ns vs "self" (some (.ref W.M))) (hW : WR W σ H) (kp : W.k ≠ 0)
    (h : ∀ H' ln, WR W { σ with grey := σ.again, again := [], greyA := σ.againA, againA := ln } H' → Frame W.k H H' → Q .next (lk ns vs) H') :
    T PG w hT A L (exec (.Assign [.Tuple [.Attribute (.Name "self" p1) "grey" p2, .Attribute (.Name "self" p3) "grey_again" p4] k1 p5] (.Tuple [.Attribute (.Name "self" p6) "grey_again" p7, .List [] p8] k2 p9) p10) env) (lk ns vs) H Q := by
  refine t_assignTup (t_tuple (trees := [(false, eval (.Attribute (.Name "self" p6) "grey_again" p7) env), (false, eval (.List [] p8) env)]) ?_) (swap_none (prog := ()))
  refine t_spl_cons (t_attr (t_name_local F hs (g_again P hW ?_)))
  refine t_spl_cons (t_list (t_spl_nil ⟨by decide, fun ln n1 => t_spl_nil ⟨Nat.le_of_ble_eq_true rfl, fun tp n2 => ?_⟩⟩))
  refine t_unpackTup hA (upd_self _ _ _) rfl ?_
  have ntl : tp ≠ ln := fun e => by rw [e, upd_self] at n2; cases n2
  have n3 : H tp = none := by rw [upd_ne _ _ ntl] at n2; exact n2
  obtain ⟨u, hd⟩ := hW.dm
  have nAl : σ.againA ≠ ln := (ne_of_none n1 hW.again).symm
  have nAt : σ.againA ≠ tp := (ne_of_none n3 hW.again).symm
  have nMl : W.M ≠ ln := (ne_of_none n1 hW.m).symm
  have nMt : W.M ≠ tp := (ne_of_none n3 hW.m).symm
  have ndl : W.dM ≠ ln := (ne_of_none n1 hd).symm
  have ndt : W.dM ≠ tp := (ne_of_none n3 hd).symm
  have nMd : W.M ≠ W.dM := ne_of_tag hW.m hd (tag_ne (by decide))
  have nAd : σ.againA ≠ W.dM := ne_of_tag hW.again hd (tag_ne (by decide))
  have nAM : σ.againA ≠ W.M := ne_of_tag hW.again hW.m (tag_ne (by decide))
  have nld := ndl.symm
  refine t_retag (a := σ.againA) (g' := (W.k, 7, 0)) (by rw [upd_ne _ _ nAt, upd_ne _ _ nAl]; exact hW.again) ?_
  refine t_retag (a := ln) (g' := (W.k, 8, 0)) (by rw [upd_ne _ _ nAl.symm, upd_ne _ _ ntl.symm, upd_self]) ?_
  have K : ∀ (a : Addr) (s : Tag) (c : Cell) v v', H a = some (s, c) → s ≠ (W.k, 3, 0) → s ≠ (W.k, 8, 0) →
      upd (upd (upd (upd (upd (upd H ln (tmp, .list [])) tp (tmp, .obj (tupObj [.ref σ.againA, .ref ln]))) σ.againA ((W.k, 7, 0), .list (W.refs σ.again))) ln ((W.k, 8, 0), .list [])) W.dM v) W.dM v' a = some (s, c) := by
    intro a s c v v' e q1 q2
    have a1 : a ≠ ln := fun q => by rw [q, n1] at e; cases e
    have a2 : a ≠ tp := fun q => by rw [q, n3] at e; cases e
    have a3 : a ≠ W.dM := ne_of_tag e hd q1
    have a4 : a ≠ σ.againA := ne_of_tag e hW.again q2
    rw [upd_ne _ _ a3, upd_ne _ _ a3, upd_ne _ _ a1, upd_ne _ _ a4, upd_ne _ _ a2, upd_ne _ _ a1]; exact e
  refine t_ord_cons (t_as_attr (t_name_local F hs ?_))
  refine t_put (kk := 6) P (by rw [upd_ne _ _ nMl, upd_ne _ _ nAM.symm, upd_ne _ _ nMt, upd_ne _ _ nMl]; exact hW.m) (by rw [upd_ne _ _ ndl, upd_ne _ _ nAd.symm, upd_ne _ _ ndt, upd_ne _ _ ndl]; exact hd) marks_nd (putM w) (by decide) (by walk_at "gc_at") (by walk_at "gc_put") ?_
  refine t_ord_cons (t_as_attr (t_name_local F hs ?_))
  refine t_put (kk := 6) P (by rw [upd_ne _ _ nMd, upd_ne _ _ nMl, upd_ne _ _ nAM.symm, upd_ne _ _ nMt, upd_ne _ _ nMl]; exact hW.m) (upd_self _ _ _) marks_nd (putM w) (by decide) (by walk_at "gc_at") (by walk_at "gc_put") ?_
  refine t_ord_nil (ts := []) (h _ ln (hW.setMarks (u := u) (fun a s c e _ ne => K a s c _ _ e (fun q => ne (.inl (by rw [q]))) (fun q => ne (.inr (.inr (.inl (by rw [q])))))) (by rw [upd_self]) (by rw [upd_ne _ _ nAd, upd_ne _ _ nAd, upd_ne _ _ nAl, upd_self]) (by rw [upd_ne _ _ nld, upd_ne _ _ nld, upd_self]; rfl) (K _ _ _ _ _ hW.weak (tag_ne (by decide)) (tag_ne (by decide)))) ?_)
  intro a s c e ns
  exact K a s c _ _ e (fun q => ns (by rw [q]; exact mine_le (by decide))) (fun q => ns (by rw [q]; exact mine_le (by decide)))

/-- how a marking ends -/
inductive FinishR (W : Wd) (E : Nat → List Nat) : Sg → Sg → Prop
  | mk {σ σ1 σ3 σ4 σ' a1 b1 a2 b2} : PropAllR W E σ σ1 → MarksR W E σ1.rootl { σ1 with grey := [], greyA := a1, weakA := b1 } σ3 → PropAllR W E σ3 σ4 →
      PropAllR W E { σ4 with grey := σ4.again, again := [], greyA := a2, againA := b2 } σ' → FinishR W E σ σ'
theorem c_finish (P : Tp (KK w) hT) (R : Room 18 A) {Q : Value → LH → Prop} (hW : WR W σ H) (Z : Clo w hT W E H) (hv : Vl W σ) (hp : pot W σ ≤ 900) (hr : ∀ i ∈ σ.rootl, i < W.n)
    (h : ∀ H' σ', FinishR W E σ σ' → WR W σ' H' → Frame W.k H H' → Q .none H') : C PG w hT A (.ref 105) ⟨[.ref W.M, .ref σ.rootA], []⟩ H Q := by
  refine c_fn (ps := ["self", "late"]) (ls := ["obj"]) (gs := []) (vals := [.ref W.M, .ref σ.rootA])
    (ns := ["self", "late", "obj"]) (vs := [some (.ref W.M), some (.ref σ.rootA), none]) P R (by kernel_rfl) (by kernel_rfl) rfl fun L env A' he F R' => ?_
  refine t_cons (t_exprF F ?_)
  walk_at "gc"
  refine meth_M P hW (by kernel_rfl : classFn (KK w) 136 "propagate_all" 98 = true) (by decide +kernel) ?_
  walk_at "gc"
  refine ⟨keeps_top P (by kernel_rfl), t_call (c_propall P R' hW Z hv hp fun H1 σ1 v1 t1 _ hR1 hW1 f1 => ?_)⟩
  have q1 := hR1.le hv
  refine t_cons (t_swapWeak P R'.h F (by walk_at "gc_at") hW1 Z.kpos fun H2 ln hW2 f2 => ?_)
  have f2' := f1.trans f2
  have er : σ1.rootl = σ.rootl := by rw [q1.2.2.2]
  have ea : σ1.rootA = σ.rootA := by rw [q1.2.2.2]
  refine t_cons (t_markLoop (E := E) (vsx := fun c => [some (.ref W.M), some (.ref σ.rootA), c]) (cs := σ1.rootl) P F (R'.le (by decide)) (fun _ _ => by walk_at "gc_put") (fun _ => by walk_at "gc_at") (fun _ => by walk_at "gc_at") ?_)
  walk_at "gc"
  have hp2 : pot W { σ1 with grey := [], greyA := σ1.weakA, weakA := ln } ≤ 900 := by
    have := q1.1
    have e := q1.2.2.1
    unfold pot at *
    dsimp only
    rw [e] at this
    simp only [List.length_nil] at *
    lia
  refine ⟨_, _, _, rfl, rfl, hW2, Z.frame f2', hp2, by rw [er]; exact hr, fun H' σ' e hW' f' => ?_, fun c H3 σ3 hM3 hW3 f3 => ?_⟩
  · have := hW'.root
    rw [e] at this
    dsimp only at this
    rw [ea] at this
    exact ⟨_, this⟩
  have f3' := f2'.trans f3
  have v3 : Vl W σ3 := hM3.vl ⟨fun i hi => (by cases hi), q1.2.1.2⟩
  have p3 : pot W σ3 ≤ 900 := Nat.le_trans hM3.le.2.1 hp2
  refine t_cons (t_exprF F ?_)
  walk_at "gc"
  refine meth_M P hW3 (by kernel_rfl : classFn (KK w) 136 "propagate_all" 98 = true) (by decide +kernel) ?_
  walk_at "gc"
  refine ⟨keeps_top P (by kernel_rfl), t_call (c_propall P R' hW3 (Z.frame f3') v3 p3 fun H4 σ4 v4 t4 _ hR4 hW4 f4 => ?_)⟩
  have q4 := hR4.le v3
  refine t_cons (t_swapAgain P R'.h F (by walk_at "gc_at") hW4 Z.kpos fun H5 ln5 hW5 f5 => ?_)
  have f5' := (f3'.trans f4).trans f5
  refine t_cons (t_exprF F ?_)
  walk_at "gc"
  refine meth_M P hW5 (by kernel_rfl : classFn (KK w) 136 "propagate_all" 98 = true) (by decide +kernel) ?_
  walk_at "gc"
  refine ⟨keeps_top P (by kernel_rfl), t_call (c_propall P R' hW5 (Z.frame f5') ⟨q4.2.1.2, fun i hi => (by cases hi)⟩ ?_ fun H6 σ6 v6 t6 _ hR6 hW6 f6 => ?_)⟩
  · have := q4.1
    have e := q4.2.2.1
    unfold pot at *
    dsimp only
    rw [e] at this
    simp only [List.length_nil] at *
    omega
  exact t_nil (h _ _ (.mk hR1 hM3 hR4 hR6) hW6 (f5'.trans f6))
/-- a barrier when marking: only a white child of a black parent is marked; else the parent turns white -/
theorem c_barrier (P : Tp (KK w) hT) (R : Room 16 A) {Q : Value → LH → Prop} {x y : Nat} {b : Bool} (hW : WR W σ H) (Z : Clo w hT W E H) (hp : pot W σ ≤ 900) (hx : x < W.n) (hy : y < W.n)
    (h : ∀ H' σ', (if σ.mark x != 3 || !decide (σ.mark y < 2) || σ.dead y then σ' = σ else if b then MarksR W E [y] σ σ' else σ' = { σ with mark := setM σ.mark x σ.white }) → WR W σ' H' → Frame W.k H H' → Q .none H') :
    C PG w hT A (.ref 119) ⟨[.ref W.M, .ref (W.O x), .ref (W.O y), .bool b], []⟩ H Q := by
  refine c_fn (ps := ["self", "parent", "child", "is_marking"]) (ls := []) (gs := [("BLACK", .int 3 202), ("is_white", .ref 28)]) (vals := [.ref W.M, .ref (W.O x), .ref (W.O y), .bool b])
    (ns := ["self", "parent", "child", "is_marking"]) (vs := [some (.ref W.M), some (.ref (W.O x)), some (.ref (W.O y)), some (.bool b)]) P R (by kernel_rfl) (by kernel_rfl) rfl fun L env A' he F R' => ?_
  have fin : (σ.mark x != 3 || !decide (σ.mark y < 2) || σ.dead y) = true → Q .none H := fun e => h H σ (by rw [e]; rfl) hW (Frame.refl _ _)
  refine t_cons (t_if_ ?_)
  walk_at "gc"
  refine g_mark P hW hx fun _ => ?_
  walk_at "gc"
  refine ⟨fun c1 => ⟨fun _ => t_cons (t_ret_none (fin (by rw [c1]; rfl))), fun e => (by cases e)⟩, fun c1 => ?_⟩
  walk_at "gc"
  refine ⟨keeps_top P (by kernel_rfl), t_call (c_is_white P R' hW hy ?_)⟩
  walk_at "gc"
  refine ⟨fun c2 => ⟨fun _ => t_cons (t_ret_none (fin (by rw [c1, c2]; rfl))), fun e => (by cases e)⟩, fun c2 => ?_⟩
  walk_at "gc"
  refine meth_M P hW (by kernel_rfl : classFn (KK w) 136 "is_dead" 49 = true) (by decide +kernel) ?_
  walk_at "gc"
  refine ⟨keeps_top P (by kernel_rfl), t_call (c_isdead (n := 13) P R' hW hy ?_)⟩
  walk_at "gc"
  refine ⟨fun c3 => ⟨fun _ => t_cons (t_ret_none (fin (by rw [c1, c2, c3]; rfl))), fun e => (by cases e)⟩, fun c3 => ?_⟩
  walk_at "gc"
  refine ⟨fun e => (by cases e), fun _ => t_nil ?_⟩
  have hf : (σ.mark x != 3 || !decide (σ.mark y < 2) || σ.dead y) = false := by rw [c1, c2, c3]; rfl
  rw [hf] at h
  refine t_cons (t_if_ ?_)
  walk_at "gc"
  refine ⟨fun hb => ?_, fun hb => ?_⟩
  · subst hb
    refine t_cons (t_exprF F ?_)
    walk_at "gc"
    refine meth_M P hW (by kernel_rfl : classFn (KK w) 136 "mark" 84 = true) (by decide +kernel) ?_
    walk_at "gc"
    refine ⟨keeps_top P (by kernel_rfl), t_call (c_mark P 9 (Nat.le_trans wh_le Z.n9) R' hW Z hy hp fun H1 σ1 hM hW1 f1 => ?_)⟩
    exact t_nil (t_nil (h _ _ hM hW1 f1))
  · subst hb
    refine t_cons (t_exprF F ?_)
    walk_at "gc"
    refine meth_M P hW (by kernel_rfl : classFn (KK w) 136 "make_white" 56 = true) (by decide +kernel) ?_
    walk_at "gc"
    refine ⟨keeps_top P (by kernel_rfl), t_call (c_makewhite P R' hW hx fun H1 hW1 f1 => ?_)⟩
    exact t_nil (t_nil (h _ _ rfl hW1 f1))
end

/-! part M10 -/
section
variable {w : World} {hT : Heap} {A : Around} {L : Addr} {m : Loc} {H : LH} {n : Nat} {W : Wd} {σ : Sg} {E : Nat → List Nat}

theorem s_rootNew {l : Addr} {gs : List Nat} {Q : Unit → Loc → LH → Prop} (P : Tp (KK w) hT) (hW : WR W σ H) (kp : W.k ≠ 0) (hl : H l = some (tmp, .list (W.refs gs))) (h : ∀ H', WR W { σ with rootl := gs, rootA := l } H' → (∀ a t c, H a = some (t, c) → ¬ mine W.k t → a ≠ l → H' a = some (t, c)) → Q () m H') : T PG w hT A L (setAttr (.ref W.C) "root_list" (.ref l)) m H Q := by
  obtain ⟨q, tk, hq, hd⟩ := hW.dc
  have ne : l ≠ W.dC := ne_of_tag hl hd fun e => kp (congrArg (fun t : Tag => t.1) e).symm
  have ne2 : l ≠ W.C := ne_of_tag hl hW.c fun e => kp (congrArg (fun t : Tag => t.1) e).symm
  refine t_retag (g' := (W.k, 13, 0)) hl ?_
  refine t_put P (H := upd H l ((W.k, 13, 0), .list (W.refs gs))) (by rw [upd_ne _ _ ne2.symm]; exact hW.c) (by rw [upd_ne _ _ ne.symm]; exact hd) cyc_nd (putC w) (by decide) (by walk_at "gc_at") (by walk_at "gc_put") ?_
  refine h _ (hW.setRoot (q := q) (tk := tk) (fun a s c e hm ns => ?_) hq (by rw [upd_self]) (by rw [upd_ne _ _ ne, upd_self])) fun a s c e ns ne3 => ?_
  · have a1 : a ≠ l := ne_of_tag e hl fun q => kp (by rw [q] at hm; exact hm.1.symm)
    have a2 : a ≠ W.dC := ne_of_tag e hd fun q => ns (.inl (by rw [q]))
    rw [upd_ne _ _ a2, upd_ne _ _ a1]; exact e
  · have a2 : a ≠ W.dC := ne_of_tag e hd fun q => ns (by rw [q]; exact mine_le (by decide))
    rw [upd_ne _ _ a2, upd_ne _ _ ne3]; exact e

theorem s_sweepNew {l : Addr} {gs : List Nat} {vs : List Value} (hi : IntsAre vs (W.nums gs)) {Q : Unit → Loc → LH → Prop} (P : Tp (KK w) hT) (hW : WR W σ H) (kp : W.k ≠ 0) (hl : H l = some (tmp, .list vs)) (h : ∀ H', WR W { σ with sweep := gs, sweepA := l } H' → (∀ a t c, H a = some (t, c) → ¬ mine W.k t → a ≠ l → H' a = some (t, c)) → Q () m H') : T PG w hT A L (setAttr (.ref W.C) "to_sweep" (.ref l)) m H Q := by
  obtain ⟨q, tk, hq, hd⟩ := hW.dc
  have ne : l ≠ W.dC := ne_of_tag hl hd fun e => kp (congrArg (fun t : Tag => t.1) e).symm
  have ne2 : l ≠ W.C := ne_of_tag hl hW.c fun e => kp (congrArg (fun t : Tag => t.1) e).symm
  refine t_retag (g' := (W.k, 10, 0)) hl ?_
  refine t_put P (H := upd H l ((W.k, 10, 0), .list vs)) (by rw [upd_ne _ _ ne2.symm]; exact hW.c) (by rw [upd_ne _ _ ne.symm]; exact hd) cyc_nd (putC w) (by decide) (by walk_at "gc_at") (by walk_at "gc_put") ?_
  refine h _ (hW.setSweepNew (q := q) (tk := tk) (fun a s c e hm ns => ?_) hq (by rw [upd_self]) (by rw [upd_ne _ _ ne, upd_self]) hi) fun a s c e ns ne3 => ?_
  · have a1 : a ≠ l := ne_of_tag e hl fun q => kp (by rw [q] at hm; exact hm.1.symm)
    have a2 : a ≠ W.dC := ne_of_tag e hd fun q => ns (.inl (by rw [q]))
    rw [upd_ne _ _ a2, upd_ne _ _ a1]; exact e
  · have a2 : a ≠ W.dC := ne_of_tag e hd fun q => ns (by rw [q]; exact mine_le (by decide))
    rw [upd_ne _ _ a2, upd_ne _ _ ne3]; exact e

theorem s_datasNew {l : Addr} {gs : List Nat} {Q : Unit → Loc → LH → Prop} (P : Tp (KK w) hT) (hW : WR W σ H) (kp : W.k ≠ 0) (hl : H l = some (tmp, .list (W.refs gs))) (h : ∀ H', WR W { σ with datas := gs, datasA := l } H' → (∀ a t c, H a = some (t, c) → ¬ mine W.k t → a ≠ l → H' a = some (t, c)) → Q () m H') : T PG w hT A L (setAttr (.ref W.C) "datas" (.ref l)) m H Q := by
  obtain ⟨q, tk, hq, hd⟩ := hW.dc
  have ne : l ≠ W.dC := ne_of_tag hl hd fun e => kp (congrArg (fun t : Tag => t.1) e).symm
  have ne2 : l ≠ W.C := ne_of_tag hl hW.c fun e => kp (congrArg (fun t : Tag => t.1) e).symm
  refine t_retag (g' := (W.k, 11, 0)) hl ?_
  refine t_put P (H := upd H l ((W.k, 11, 0), .list (W.refs gs))) (by rw [upd_ne _ _ ne2.symm]; exact hW.c) (by rw [upd_ne _ _ ne.symm]; exact hd) cyc_nd (putC w) (by decide) (by walk_at "gc_at") (by walk_at "gc_put") ?_
  refine h _ (hW.setDatasNew (q := q) (tk := tk) (fun a s c e hm ns => ?_) hq (by rw [upd_self]) (by rw [upd_ne _ _ ne, upd_self])) fun a s c e ns ne3 => ?_
  · have a1 : a ≠ l := ne_of_tag e hl fun q => kp (by rw [q] at hm; exact hm.1.symm)
    have a2 : a ≠ W.dC := ne_of_tag e hd fun q => ns (.inl (by rw [q]))
    rw [upd_ne _ _ a2, upd_ne _ _ a1]; exact e
  · have a2 : a ≠ W.dC := ne_of_tag e hd fun q => ns (by rw [q]; exact mine_le (by decide))
    rw [upd_ne _ _ a2, upd_ne _ _ ne3]; exact e

/-- a list that was made just now and then taken: the frame -/
theorem frame_new {k : Nat} {l : Addr} {x : Tag × Cell} {H H' : LH} (hn : H l = none) (h : ∀ a t c, upd H l x a = some (t, c) → ¬ mine k t → a ≠ l → H' a = some (t, c)) : Frame k H H' := fun a t c e ns => by
  have ne : a ≠ l := fun q => by rw [q, hn] at e; cases e
  exact h a t c (by rw [upd_ne _ _ ne]; exact e) ns ne

theorem pairs_len (W : Wd) (l : List Nat) : (W.pairs l).length = l.length := List.length_map ..
theorem valueAt_pairs {W : Wd} (inj : ∀ i < W.n, ∀ j < W.n, W.num i = W.num j → i = j) {i : Nat} (hi : i < W.n) : ∀ (l : List Nat), (∀ j ∈ l, j < W.n) → valueAt (W.pairs l) (W.num i : Int) = if i ∈ l then some (.ref (W.O i)) else none
  | [], _ => rfl
  | j :: l, h => by
    have ih := valueAt_pairs inj hi l fun x hx => h x (List.mem_cons_of_mem _ hx)
    unfold valueAt at *
    show Option.map _ (List.find? _ (((W.num j : Int), Value.ref (W.O j)) :: W.pairs l)) = _
    rw [List.find?_cons]
    by_cases q : i = j
    · subst q; simp
    · have ne : ¬ ((W.num j : Int) = (W.num i : Int)) := fun e => q (inj j (h j List.mem_cons_self) i hi (by lia)).symm
      simp only [ne, decide_false]
      rw [ih]
      simp [q]
theorem without_pairs {W : Wd} (inj : ∀ i < W.n, ∀ j < W.n, W.num i = W.num j → i = j) {i : Nat} (hi : i < W.n) : ∀ (l : List Nat), (∀ j ∈ l, j < W.n) → without (W.pairs l) (W.num i : Int) = W.pairs (l.filter fun j => decide (j ≠ i))
  | [], _ => rfl
  | j :: l, h => by
    have ih := without_pairs inj hi l fun x hx => h x (List.mem_cons_of_mem _ hx)
    unfold without at *
    show List.filter _ (((W.num j : Int), Value.ref (W.O j)) :: W.pairs l) = _
    rw [List.filter_cons, List.filter_cons, ih]
    by_cases q : j = i
    · subst q; simp
    · have ne : ¬ ((W.num j : Int) = (W.num i : Int)) := fun e => q (inj j (h j List.mem_cons_self) i hi (by omega))
      simp [q, ne, Wd.pairs]

theorem c_roots (P : Tp (KK w) hT) (R : Room (n + 1) A) {Q : Value → LH → Prop} (hW : WR W σ H) (h : Q (.ref σ.rootA) H) : C PG w hT A (.ref 217) ⟨[.ref W.C], []⟩ H Q := by
  refine c_fn (ps := ["self"]) (ls := []) (gs := []) (vals := [.ref W.C]) (ns := ["self"]) (vs := [some (.ref W.C)]) P R (by kernel_rfl) (by kernel_rfl) rfl fun L env A' he F R' => ?_
  refine t_cons (t_ret ?_)
  walk_at "gc"
  exact g_root P hW h
theorem c_late (P : Tp (KK w) hT) (R : Room (n + 2) A) {Q : Value → LH → Prop} (hW : WR W σ H) (h : Q (.ref σ.rootA) H) : C PG w hT A (.ref 224) ⟨[.ref W.C, .none], []⟩ H Q := by
  refine c_fn (ps := ["self", "thread"]) (ls := []) (gs := []) (vals := [.ref W.C, .none]) (ns := ["self", "thread"]) (vs := [some (.ref W.C), some .none]) P R (by kernel_rfl) (by kernel_rfl) rfl fun L env A' he F R' => ?_
  refine t_cons (t_ret ?_)
  walk_at "gc"
  refine meth_C P hW (by kernel_rfl : classFn (KK w) 421 "roots" 217 = true) (by decide +kernel) ?_
  walk_at "gc"
  exact ⟨keeps_top P (by kernel_rfl), t_call (c_roots P R' hW h)⟩
theorem c_iskept (P : Tp (KK w) hT) (R : Room (n + 1) A) {i : Nat} {Q : Value → LH → Prop} (hW : WR W σ H) (Z : Clo w hT W E H) (hi : i < W.n) (ho : ∀ j ∈ σ.objs, j < W.n) (h : Q (.bool (decide (i ∈ σ.objs))) H) : C PG w hT A (.ref 210) ⟨[.ref W.C, .ref (W.O i)], []⟩ H Q := by
  refine c_fn (ps := ["self", "obj"]) (ls := []) (gs := []) (vals := [.ref W.C, .ref (W.O i)]) (ns := ["self", "obj"]) (vs := [some (.ref W.C), some (.ref (W.O i))]) P R (by kernel_rfl) (by kernel_rfl) rfl fun L env A' he F R' => ?_
  refine t_cons (t_ret ?_)
  walk_at "gc"
  refine g_number P hW hi fun _ => ?_
  walk_at "gc"
  refine g_objects P hW ?_
  refine t_in_idict hW.objs ?_
  rw [valueAt_pairs Z.nums hi _ ho]
  have : (if i ∈ σ.objs then some (Value.ref (W.O i)) else none).isSome = decide (i ∈ σ.objs) := by split <;> simp_all
  rw [this]
  exact h
/-- a cycle begins -/
inductive MarkRootsR (W : Wd) (E : Nat → List Nat) : Sg → Sg → Prop
  | mk {σ σ1 a b c} : MarksR W E σ.rootl { σ with grey := [], again := [], greyA := a, againA := b, weakA := c } σ1 → MarkRootsR W E σ { σ1 with phase := 1 }
theorem c_markroots (P : Tp (KK w) hT) (R : Room 17 A) {Q : Value → LH → Prop} (hW : WR W σ H) (Z : Clo w hT W E H) (hr : ∀ i ∈ σ.rootl, i < W.n)
    (h : ∀ H' σ', MarkRootsR W E σ σ' → WR W σ' H' → Frame W.k H H' → Q .none H') : C PG w hT A (.ref 231) ⟨[.ref W.C], []⟩ H Q := by
  refine c_fn (ps := ["self"]) (ls := []) (gs := [("PROPAGATE", .int 1 415)]) (vals := [.ref W.C]) (ns := ["self"]) (vs := [some (.ref W.C)]) P R (by kernel_rfl) (by kernel_rfl) rfl fun L env A' he F R' => ?_
  refine t_cons (t_exprF F ?_)
  walk_at "gc"
  refine g_marks P hW ?_
  refine meth_M P hW (by kernel_rfl : classFn (KK w) 136 "begin" 77 = true) (by decide +kernel) ?_
  walk_at "gc"
  refine meth_C P hW (by kernel_rfl : classFn (KK w) 421 "roots" 217 = true) (by decide +kernel) ?_
  walk_at "gc"
  refine ⟨keeps_top P (by kernel_rfl), t_call (c_roots P R' hW ?_)⟩
  walk_at "gc"
  refine ⟨keeps_top P (by kernel_rfl), t_call (c_begin P R' hW Z hr fun H1 σ1 ga aa wa hM hW1 f1 => ?_)⟩
  refine t_cons (t_assign_attr ?_)
  walk_at "gc"
  refine s_phase P hW1 fun H2 hW2 f2 => ?_
  exact t_nil (h _ _ (.mk hM) hW2 (f1.trans f2))
noncomputable def sweep1 (W : Wd) (σ : Sg) (x : Nat) : Sg := if σ.dead x then { σ with objs := σ.objs.filter (fun j => decide (j ≠ x)), total := σ.total - W.size x, mark := setM σ.mark x 4 } else { σ with mark := setM σ.mark x σ.white }
theorem c_free (P : Tp (KK w) hT) (R : Room (n + 1) A) {x : Nat} {Q : Value → LH → Prop} (hW : WR W σ H) (Z : Clo w hT W E H) (hx : x ∈ σ.objs) (ho : ∀ j ∈ σ.objs, j < W.n) (hz : σ.objs.length ≤ 1000)
    (h : ∀ H', WR W { σ with objs := σ.objs.filter (fun j => decide (j ≠ x)), total := σ.total - W.size x, mark := setM σ.mark x 4 } H' → Frame W.k H H' → Q .none H') : C PG w hT A (.ref 252) ⟨[.ref W.C, .ref (W.O x)], []⟩ H Q := by
  have hi := ho x hx
  refine c_fn (ps := ["self", "obj"]) (ls := []) (gs := [("FREED", .int 4 204)]) (vals := [.ref W.C, .ref (W.O x)]) (ns := ["self", "obj"]) (vs := [some (.ref W.C), some (.ref (W.O x))]) P R (by kernel_rfl) (by kernel_rfl) rfl fun L env A' he F R' => ?_
  refine t_cons (t_exprF F ?_)
  walk_at "gc"
  refine g_objects P hW ?_
  refine t_methodDict_idict hW.objs PySem.F.slot_dict_pop ty_dpop ?_
  walk_at "gc"
  refine g_number P hW hi fun _ => ?_
  walk_at "gc"
  refine ⟨keeps_builtin, t_dictpop_idict (v := .ref (W.O x)) hW.objs (by rw [pairs_len]; exact hz) (by rw [valueAt_pairs Z.nums hi _ ho, if_pos hx]) ?_⟩
  rw [without_pairs Z.nums hi _ ho]
  have hW1 : WR W { σ with objs := σ.objs.filter (fun j => decide (j ≠ x)) } (upd H W.objsA ((W.k, 6, 0), .idict (W.pairs (σ.objs.filter fun j => decide (j ≠ x))))) :=
    hW.setObjs (fun a s c e _ ne => But.upd hW.objs _ a s c e fun q => ne (by rw [q])) (by rw [upd_self])
  have f1 : Frame W.k H (upd H W.objsA ((W.k, 6, 0), .idict (W.pairs (σ.objs.filter fun j => decide (j ≠ x))))) := Frame.upd hW.objs (mine_le (by decide))
  refine t_cons (t_aug_attr ?_)
  walk_at "gc"
  refine g_total P hW1 fun _ => ?_
  walk_at "gc"
  refine g_size P hW1 hi fun _ => ?_
  walk_at "gc"
  refine s_total P hW1 fun H2 hW2 f2 => ?_
  refine t_cons (t_assign_attr ?_)
  walk_at "gc"
  refine s_mark P hW2 hi fun H3 hW3 f3 => ?_
  exact t_nil (h _ hW3 ((f1.trans f2).trans f3))
theorem c_finalize (P : Tp (KK w) hT) (R : Room (n + 1) A) {Q : Value → LH → Prop} (hW : WR W σ H) (h : ∀ H' t, WR W { σ with phase := 0, cycles := σ.cycles + 1 } H' → Frame W.k H H' → Q (.int 0 t) H') : C PG w hT A (.ref 266) ⟨[.ref W.C, .none], []⟩ H Q := by
  refine c_fn (ps := ["self", "thread"]) (ls := []) (gs := [("PAUSE", .int 0 413)]) (vals := [.ref W.C, .none]) (ns := ["self", "thread"]) (vs := [some (.ref W.C), some .none]) P R (by kernel_rfl) (by kernel_rfl) rfl fun L env A' he F R' => ?_
  refine t_cons (t_assign_attr ?_)
  walk_at "gc"
  refine s_phase P hW fun H1 hW1 f1 => ?_
  refine t_cons (t_assign_attr ?_)
  walk_at "gc"
  refine s_debt P hW1 fun H2 hW2 f2 => ?_
  refine t_cons (t_aug_attr ?_)
  walk_at "gc"
  refine g_cycles P hW2 fun _ => ?_
  walk_at "gc"
  refine s_cycles P hW2 fun H3 hW3 f3 => ?_
  refine t_cons (t_ret ?_)
  walk_at "gc"
  exact h _ _ hW3 ((f1.trans f2).trans f3)
theorem noPylong100 (x : Int) : Builtin.divisionGoesByPylong x 100 = false := by
  unfold Builtin.divisionGoesByPylong; exact Bool.and_eq_false_iff.mpr (.inl (by decide +kernel))
theorem noPylong2 (x : Int) : Builtin.divisionGoesByPylong x 2 = false := by
  unfold Builtin.divisionGoesByPylong; exact Bool.and_eq_false_iff.mpr (.inl (by decide +kernel))
theorem c_next_threshold (P : Tp (KK w) hT) (R : Room (n + 1) A) {e : Int} {t t' : Tok} {Q : Value → LH → Prop} (h : ∀ v u, Q (.int v u) H) : C PG w hT A (.ref 168) ⟨[.int e t, .int 200 t'], []⟩ H Q := by
  refine c_fn (ps := ["estimate", "pause"]) (ls := []) (gs := []) (vals := [.int e t, .int 200 t']) (ns := ["estimate", "pause"]) (vs := [some (.int e t), some (.int 200 t')]) P R (by kernel_rfl) (by kernel_rfl) rfl fun L env A' he F R' => ?_
  refine t_cons (t_ret ?_)
  walk_at "gc"
  refine t_mul (IntMulOk.of_right (by decide +kernel)) fun _ => ?_
  walk_at "gc"
  exact t_fdiv (by decide) (noPylong100 _) fun _ => h _ _
end

/-! part M11 -/
theorem IntsAre.last {vs : List Value} {ns : List Int} {x : Int} (h : IntsAre vs (ns ++ [x])) : ∃ vs' t, vs = vs' ++ [.int x t] ∧ IntsAre vs' ns := by
  induction ns generalizing vs with
  | nil =>
    cases h with
    | cons a b r => cases r; exact ⟨[], b, rfl, .nil⟩
  | cons n ns ih =>
    cases h with
    | cons a b r =>
      obtain ⟨vs', t, rfl, q⟩ := ih r
      exact ⟨_, t, rfl, .cons _ _ q⟩
noncomputable def sweptAll (W : Wd) (σ : Sg) : Sg := { (σ.sweep.reverse.foldl (sweep1 W) σ) with sweep := [] }
theorem sweep1_sweep (W : Wd) (σ : Sg) (x : Nat) (l : List Nat) : sweep1 W { σ with sweep := l } x = { sweep1 W σ x with sweep := l } := by
  unfold sweep1 Sg.dead
  dsimp only
  split <;> rfl
theorem fold_sweep (W : Wd) (l : List Nat) : ∀ (r : List Nat) (σ : Sg), r.foldl (sweep1 W) { σ with sweep := l } = { r.foldl (sweep1 W) σ with sweep := l }
  | [], _ => rfl
  | x :: r, σ => by
    rw [List.foldl_cons, List.foldl_cons, sweep1_sweep, fold_sweep]
theorem sweptAll_nil {W : Wd} {σ : Sg} (h : σ.sweep = []) : sweptAll W σ = σ := by
  unfold sweptAll; rw [h]
  show { σ with sweep := [] } = σ
  rw [← h]
theorem sweptAll_step {W : Wd} {σ : Sg} {l : List Nat} {x : Nat} (h : σ.sweep = l ++ [x]) : sweptAll W { sweep1 W σ x with sweep := l } = sweptAll W σ := by
  unfold sweptAll
  rw [h, fold_sweep]
  simp

section
variable {w : World} {hT : Heap} {A : Around} {L : Addr} {m : Loc} {H : LH} {n : Nat} {W : Wd} {σ : Sg} {E : Nat → List Nat}

theorem c_sweepsome (P : Tp (KK w) hT) (R : Room 4 A) {p1 p2 p3 : Addr} {t0 : Tok} {Q : Value → LH → Prop} (hW : WR W σ H) (Z : Clo w hT W E H)
    (h1 : H p1 = some (tmp, .obj (methodObj (.ref 49) (.ref W.M)))) (h2 : H p2 = some (tmp, .obj (methodObj (.ref 252) (.ref W.C)))) (h3 : H p3 = some (tmp, .obj (methodObj (.ref 56) (.ref W.M))))
    (ho : ∀ j ∈ σ.objs, j < W.n) (hol : σ.objs.length ≤ 9) (hs : ∀ j ∈ σ.sweep, j ∈ σ.objs) (hn : σ.sweep.Nodup) (hsl : σ.sweep.length ≤ 9)
    (h : ∀ H' v t, WR W (sweptAll W σ) H' → Frame W.k H H' → Q (.int v t) H') : C PG w hT A (.ref 147) ⟨[.ref σ.sweepA, .ref W.objsA, .int 16 t0, .ref p1, .ref p2, .ref p3], []⟩ H Q := by
  refine c_fn (ps := ["waiting", "objects", "most", "is_dead", "free", "keep"]) (ls := ["many", "obj"]) (gs := [("len", .builtin "len")]) (vals := [.ref σ.sweepA, .ref W.objsA, .int 16 t0, .ref p1, .ref p2, .ref p3])
    (ns := ["waiting", "objects", "most", "is_dead", "free", "keep", "many", "obj"]) (vs := [some (.ref σ.sweepA), some (.ref W.objsA), some (.int 16 t0), some (.ref p1), some (.ref p2), some (.ref p3), none, none]) P R (by kernel_rfl) (by kernel_rfl) rfl fun L env A' he F R' => ?_
  refine t_cons (t_assign_name ?_)
  walk_at "gc"
  refine t_store F (by walk_at "gc_put") ?_
  refine t_cons (t_while (fun k m' H' => Ex4 fun (σ' : Sg) (v : Int) (t : Tok) (c : Option Value) => And9 (m' = lk ["waiting", "objects", "most", "is_dead", "free", "keep", "many", "obj"] [some (.ref σ.sweepA), some (.ref W.objsA), some (.int 16 t0), some (.ref p1), some (.ref p2), some (.ref p3), some (.int v t), c])
      (WR W σ' H') (Frame W.k H H') (σ'.sweep.length = k) (0 ≤ v ∧ v + k ≤ 9) (σ'.sweepA = σ.sweepA) ((∀ j ∈ σ'.objs, j < W.n) ∧ σ'.objs.length ≤ 9) ((∀ j ∈ σ'.sweep, j ∈ σ'.objs) ∧ σ'.sweep.Nodup) (sweptAll W σ' = sweptAll W σ)) _
    ⟨σ, 0, _, none, rfl, hW, Frame.refl _ _, rfl, ⟨Int.le_refl _, by lia⟩, rfl, ⟨ho, hol⟩, ⟨hs, hn⟩, rfl⟩ ?_)
  rintro J k hJ m' H' ⟨σ', v, t, c, rfl, hW', f', hk, ⟨hv0, hv9⟩, hsA, ⟨ho', hol'⟩, ⟨hs', hn'⟩, hT'⟩
  obtain ⟨sv, hsv, hsi⟩ := hW'.sweep
  have hlen : sv.length = k := by rw [hsi.length]; unfold Wd.nums; rw [List.length_map, hk]
  rw [hsA] at hsv
  walk_at "gc"
  refine ⟨fun _ => ?_, fun hc => absurd hc (by simp; lia)⟩
  walk_at "gc"
  refine ⟨keeps_builtin, t_len hsv (by lia) fun _ => ?_⟩
  walk_at "gc"
  refine ⟨fun hc => ?_, fun hc => ⟨fun e => (by cases e), fun _ => ?_⟩⟩
  · walk_at "gc"
    refine ⟨fun _ => ?_, fun e => (by cases e)⟩
    have hne : σ'.sweep ≠ [] := by
      intro e; rw [e] at hk; rw [hlen, ← hk] at hc; simp at hc
    obtain ⟨l, x, hl⟩ : ∃ l x, σ'.sweep = l ++ [x] := ⟨_, _, (List.dropLast_concat_getLast hne).symm⟩
    have hxo : x ∈ σ'.objs := hs' x (by rw [hl]; exact List.mem_append_right _ List.mem_cons_self)
    have hx := ho' x hxo
    have hsi' := hsi
    rw [hl] at hsi'
    unfold Wd.nums at hsi'
    rw [List.map_append] at hsi'
    obtain ⟨sv', tx, rfl, hsi2⟩ := IntsAre.last hsi'
    rw [List.length_append, List.length_singleton] at hlen
    refine t_cons (t_assign_name ?_)
    walk_at "gc"
    refine t_methodDict_idict hW'.objs PySem.F.slot_dict_get ty_dget ?_
    walk_at "gc"
    refine t_methodList hsv PySem.F.slot_list_pop ty_pop ?_
    walk_at "gc"
    refine ⟨keeps_builtin, t_call (c_popLast hsv (by lia) ?_)⟩
    have hsv0 : H' σ'.sweepA = some ((W.k, 10, 0), .list (sv' ++ [.int (W.num x : Int) tx])) := by rw [hsA]; exact hsv
    have hW1 : WR W { σ' with sweep := l } (upd H' σ.sweepA ((W.k, 10, 0), .list sv')) := by
      rw [← hsA]
      exact hW'.setSweep (fun a s c e _ ne => But.upd hsv0 _ a s c e fun q => ne (by rw [q])) (by rw [upd_self]) hsi2
    have f1 : Frame W.k H' (upd H' σ.sweepA ((W.k, 10, 0), .list sv')) := Frame.upd hsv (mine_le (by decide))
    walk_at "gc"
    refine ⟨keeps_builtin, t_dictget_idict hW1.objs ?_⟩
    rw [valueAt_pairs Z.nums hx _ ho', if_pos hxo]
    show T _ _ _ _ _ (storeName env _ (.ref (W.O x))) _ _ _
    refine t_store F (by walk_at "gc_put") ?_
    refine t_cons (t_aug_name (t_load_local F (by walk_at "gc_at") ?_))
    walk_at "gc"
    refine t_store F (by walk_at "gc_put") ?_
    refine t_cons (t_if_ ?_)
    walk_at "gc"
    refine t_isNotNone_ref ?_
    walk_at "gc"
    refine ⟨fun _ => ?_, fun e => (by cases e)⟩
    have f1' := f'.trans f1
    refine t_cons (t_if_ ?_)
    walk_at "gc"
    refine ⟨keeps_bound P (f1' _ _ _ h1 (tmp_not Z.kpos)) (by kernel_rfl), t_call (c_bound (f1' _ _ _ h1 (tmp_not Z.kpos)) (c_isdead (n := 1) P R' hW1 hx ?_))⟩
    walk_at "gc"
    have hdd : ({ σ' with sweep := l } : Sg).dead x = σ'.dead x := rfl
    have inv : ∀ (H2 : LH) (v2 : Int) t2, v2 = v + 1 → WR W { sweep1 W σ' x with sweep := l } H2 → Frame W.k H H2 → J (lk ["waiting", "objects", "most", "is_dead", "free", "keep", "many", "obj"] [some (.ref σ.sweepA), some (.ref W.objsA), some (.int 16 t0), some (.ref p1), some (.ref p2), some (.ref p3), some (.int v2 t2), some (.ref (W.O x))]) H2 := by
      intro H2 v2 t2 hv2 hW2 f2
      have hkl : k = l.length + 1 := by rw [← hk, hl]; simp
      have hnd : l.Nodup ∧ x ∉ l := by
        rw [hl] at hn'
        have := List.nodup_append.mp hn'
        exact ⟨this.1, fun hm => this.2.2 x hm x List.mem_cons_self rfl⟩
      have sub : ∀ j ∈ (sweep1 W σ' x).objs, j ∈ σ'.objs := by
        intro j hj
        unfold sweep1 at hj
        split at hj
        · exact (List.mem_filter.mp hj).1
        · exact hj
      have len : (sweep1 W σ' x).objs.length ≤ σ'.objs.length := by
        unfold sweep1
        split
        · exact List.length_filter_le _ _
        · exact Nat.le_refl _
      have keep : ∀ j ∈ l, j ∈ (sweep1 W σ' x).objs := by
        intro j hj
        have hj' := hs' j (by rw [hl]; exact List.mem_append_left _ hj)
        unfold sweep1
        split
        · exact List.mem_filter.mpr ⟨hj', decide_eq_true fun e => hnd.2 (e ▸ hj)⟩
        · exact hj'
      have hA2 : (sweep1 W σ' x).sweepA = σ'.sweepA := by unfold sweep1; split <;> rfl
      refine hJ l.length _ _ (by lia) ⟨_, _, _, _, rfl, hW2, f2, rfl, ⟨by lia, by lia⟩, hA2.trans hsA, ⟨fun j hj => ho' j (sub j hj), Nat.le_trans len hol'⟩, ⟨keep, hnd.1⟩, ?_⟩
      rw [sweptAll_step hl, hT']
    refine ⟨fun hd => ?_, fun hd => ?_⟩
    · refine t_cons (t_exprF F ?_)
      walk_at "gc"
      refine ⟨keeps_bound P (f1' _ _ _ h2 (tmp_not Z.kpos)) (by kernel_rfl), t_call (c_bound (f1' _ _ _ h2 (tmp_not Z.kpos)) (c_free P R' hW1 (Z.frame f1') hxo ho' (by show σ'.objs.length ≤ 1000; lia) fun H2 hW2 f2 => ?_))⟩
      refine t_nil (t_nil (t_nil (inv H2 _ _ rfl ?_ (f1'.trans f2))))
      have : ({ sweep1 W σ' x with sweep := l } : Sg) = { σ' with objs := σ'.objs.filter (fun j => decide (j ≠ x)), total := σ'.total - W.size x, mark := setM σ'.mark x 4, sweep := l } := by
        unfold sweep1; rw [if_pos (hdd ▸ hd)]
      rw [this]; exact hW2
    · refine t_cons (t_exprF F ?_)
      walk_at "gc"
      refine ⟨keeps_bound P (f1' _ _ _ h3 (tmp_not Z.kpos)) (by kernel_rfl), t_call (c_bound (f1' _ _ _ h3 (tmp_not Z.kpos)) (c_makewhite P R' hW1 hx fun H2 hW2 f2 => ?_))⟩
      refine t_nil (t_nil (t_nil (inv H2 _ _ rfl ?_ (f1'.trans f2))))
      have : ({ sweep1 W σ' x with sweep := l } : Sg) = { σ' with mark := setM σ'.mark x σ'.white, sweep := l } := by
        unfold sweep1; rw [if_neg (by rw [hdd] at hd; rw [hd]; exact Bool.false_ne_true)]
      rw [this]; exact hW2
  · have he : σ'.sweep = [] := by
      cases e : σ'.sweep with
      | nil => rfl
      | cons a b => rw [e] at hk; rw [hlen, ← hk] at hc; simp at hc
    refine t_cons (t_ret ?_)
    walk_at "gc"
    refine h _ _ _ ?_ f'
    rw [← hT', sweptAll_nil he]; exact hW'
end

/-! part M12 -/
section
variable {prog : Program} {w : World} {hT : Heap} {K : Frag} {α : Type} {A : Around} {L : Addr} {m : Loc} {H : LH} {env : Env}
theorem t_neg {a : Int} {t : Tok} {Q : Value → Loc → LH → Prop} (h : ∀ k, Q (.int (-a) k) m H) : T prog w hT A L (unaryOp .USub (.int a t)) m H Q := fun _ _ _ _ y => PyProof.Rows.neg_int ⟨m, H, y.toks, h _⟩
noncomputable def Ext (H H' : LH) : Prop := ∀ a x, H a = some x → H' a = some x
theorem Ext.refl (H : LH) : Ext H H := fun _ _ e => e
theorem Ext.trans {H H' H'' : LH} (a : Ext H H') (b : Ext H' H'') : Ext H H'' := fun x c e => b x c (a x c e)
theorem Ext.new {H : LH} {a : Addr} (h : H a = none) (x : Tag × Cell) : Ext H (Gc.upd H a x) := fun b c e => by
  have : b ≠ a := fun q => by rw [q, h] at e; cases e
  rw [upd_ne _ _ this]; exact e
theorem Ext.none {H H' : LH} (h : Ext H H') {a : Addr} (e : H' a = none) : H a = none := by
  cases q : H a with
  | none => rfl
  | some x => rw [h a x q] at e; cases e
/-- «xs[::-1]» -/
theorem t_revSlice {e : Expr} {k : Nat} {p1 p2 p3 p4 : Pos} {Q : Value → Loc → LH → Prop}
    (h : T prog w hT A L (eval e env) m H fun v m1 H1 => Ex3 fun l t vs => And4 (v = .ref l) (H1 l = some (t, .list vs)) (vs.length ≤ 1000) (∀ r H', Ext H1 H' → H' r = some (tmp, .list vs.reverse) → H1 r = none → Q (.ref r) m1 H')) :
    T prog w hT A L (eval (.Subscript e (.Slice none none (some (.UnaryOp .USub (.Constant (.int 1) k p1) p2)) p3) p4) env) m H Q := by
  refine t_index (t_mono h ?_)
  rintro v m1 H1 ⟨l, t, vs, rfl, hl, hz, q⟩
  refine t_slice3 (t_unary (t_int fun _ => t_neg fun u => fun sl hsl => ?_))
  refine t_item_slice (by rw [upd_ne _ _ (ne_of_none hsl hl).symm]; exact hl) (upd_self _ _ _) .none .none (.int (-1) u) (by decide) hz fun r hr => ?_
  rw [pick_rev]
  exact q r _ ((Ext.new hsl _).trans (Ext.new hr _)) (upd_self _ _ _) ((Ext.new hsl _).none hr)
end
noncomputable def Sg.held (σ : Sg) (i : Nat) : Bool := σ.fz i || !decide (σ.mark i < 2)
section
variable {w : World} {hT : Heap} {A : Around} {L : Addr} {m : Loc} {H : LH} {n : Nat} {W : Wd} {σ : Sg} {E : Nat → List Nat}
theorem refs_reverse (W : Wd) (l : List Nat) : (W.refs l).reverse = W.refs l.reverse := List.map_reverse.symm

theorem c_isasked (P : Tp (KK w) hT) (R : Room (n + 1) A) {i : Nat} {Q : Value → LH → Prop} (hW : WR W σ H) (hi : i < W.n) (h : Q (.bool (σ.fz i)) H) : C PG w hT A (.ref 364) ⟨[.ref (W.O i)], []⟩ H Q := by
  refine c_fn (ps := ["data"]) (ls := []) (gs := []) (vals := [.ref (W.O i)]) (ns := ["data"]) (vs := [some (.ref (W.O i))]) P R (by kernel_rfl) (by kernel_rfl) rfl fun L env A' he F R' => ?_
  refine t_cons (t_ret ?_)
  walk_at "gc"
  exact g_fz P hW hi h
theorem c_isreached (P : Tp (KK w) hT) (R : Room (n + 2) A) {i : Nat} {Q : Value → LH → Prop} (hW : WR W σ H) (hi : i < W.n) (h : Q (.bool (!decide (σ.mark i < 2))) H) : C PG w hT A (.ref 385) ⟨[.ref W.C, .ref (W.O i)], []⟩ H Q := by
  refine c_fn (ps := ["self", "data"]) (ls := []) (gs := [("is_white", .ref 28)]) (vals := [.ref W.C, .ref (W.O i)]) (ns := ["self", "data"]) (vs := [some (.ref W.C), some (.ref (W.O i))]) P R (by kernel_rfl) (by kernel_rfl) rfl fun L env A' he F R' => ?_
  refine t_cons (t_ret ?_)
  walk_at "gc"
  refine ⟨keeps_top P (by kernel_rfl), t_call (c_is_white P R' hW hi ?_)⟩
  refine t_not ?_
  walk_at "gc"
  exact h
theorem app3 {H' : LH} {a b c : Addr} {va vb vc va' : List Value} (ha : H' a = some (tmp, .list va)) (hb : H' b = some (tmp, .list vb)) (hc : H' c = some (tmp, .list vc)) (ab : a ≠ b) (ac : a ≠ c) :
    Gc.upd H' a (tmp, .list va') a = some (tmp, .list va') ∧ Gc.upd H' a (tmp, .list va') b = some (tmp, .list vb) ∧ Gc.upd H' a (tmp, .list va') c = some (tmp, .list vc) :=
  ⟨upd_self _ _ _, by rw [upd_ne _ _ ab.symm]; exact hb, by rw [upd_ne _ _ ac.symm]; exact hc⟩
theorem filter_take {α : Type} {p : α → Bool} {l : List α} {i : Nat} {x : α} (h : l[i]? = some x) : (l.take (i + 1)).filter p = (l.take i).filter p ++ if p x then [x] else [] := by
  rw [List.take_add_one, h, List.filter_append]
  show _ ++ List.filter p [x] = _
  rw [List.filter_cons, List.filter_nil]

theorem c_separate (P : Tp (KK w) hT) (R : Room 5 A) {p : Addr} {Q : Value → LH → Prop} (hW : WR W σ H) (Z : Clo w hT W E H) (hp : H p = some (tmp, .obj (methodObj (.ref 385) (.ref W.C)))) (hd : ∀ i ∈ σ.datas, i < W.n) (hz : σ.datas.length ≤ 900)
    (h : ∀ H' t l1 l2 l3, Ext H H' → H l1 = none → l1 ≠ l2 → l1 ≠ l3 → H' t = some (tmp, .obj (tupObj [.ref l1, .ref l2, .ref l3])) → t ≠ l1 → H' l1 = some (tmp, .list (W.refs (σ.datas.filter fun i => σ.held i || !decide (W.kind i = 1)))) →
      H' l2 = some (tmp, .list (W.refs (σ.datas.reverse.filter fun i => !σ.held i))) → H' l3 = some (tmp, .list (W.refs (σ.datas.reverse.filter fun i => !σ.held i && decide (W.kind i = 1)))) → Q (.ref t) H') :
    C PG w hT A (.ref 357) ⟨[.ref σ.datasA, .ref p, .ref 364, .ref W.waF], []⟩ H Q := by
  refine c_fn (ps := ["some", "is_reached", "was_asked", "wants_end"]) (ls := ["left", "asked", "row", "thing"]) (gs := []) (vals := [.ref σ.datasA, .ref p, .ref 364, .ref W.waF])
    (ns := ["some", "is_reached", "was_asked", "wants_end", "left", "asked", "row", "thing"]) (vs := [some (.ref σ.datasA), some (.ref p), some (.ref 364), some (.ref W.waF), none, none, none, none]) P R (by kernel_rfl) (by kernel_rfl) rfl fun L env A' he F R' => ?_
  refine t_cons (t_assignTupSw (t_tuple ?_) (swap3 F (by walk_at "gc_mem") (by walk_at "gc_mem") (by walk_at "gc_mem") (by kernel_rfl)))
  walk_at "gc"
  refine t_list ?_
  walk_at "gc"
  refine ⟨Nat.le_of_ble_eq_true rfl, fun la na => ?_⟩
  walk_at "gc"
  refine t_list ?_
  walk_at "gc"
  refine ⟨Nat.le_of_ble_eq_true rfl, fun lb nb => ?_⟩
  walk_at "gc"
  refine t_list ?_
  walk_at "gc"
  refine ⟨Nat.le_of_ble_eq_true rfl, fun lc nc => ?_⟩
  walk_at "gc"
  refine ⟨Nat.le_of_ble_eq_true rfl, fun lt nt => ?_⟩
  refine t_unpackTup R'.h (upd_self _ _ _) rfl ?_
  have ba : lb ≠ la := fun e => by rw [e, upd_self] at nb; cases nb
  have cb : lc ≠ lb := fun e => by rw [e, upd_self] at nc; cases nc
  have ca : lc ≠ la := fun e => by rw [e, upd_ne _ _ ba.symm, upd_self] at nc; cases nc
  have tc : lt ≠ lc := fun e => by rw [e, upd_self] at nt; cases nt
  have tb : lt ≠ lb := fun e => by rw [e, upd_ne _ _ cb.symm, upd_self] at nt; cases nt
  have ta : lt ≠ la := fun e => by rw [e, upd_ne _ _ ca.symm, upd_ne _ _ ba.symm, upd_self] at nt; cases nt
  have ex := (((Ext.new na (tmp, .list [])).trans (Ext.new nb (tmp, .list []))).trans (Ext.new nc (tmp, .list []))).trans (Ext.new nt (tmp, .obj (tupObj [.ref la, .ref lb, .ref lc])))
  have nb0 : H lb = none := (Ext.new na _).none nb
  have nc0 : H lc = none := ((Ext.new na _).trans (Ext.new nb _)).none nc
  have hla : upd (upd (upd (upd H la (tmp, .list [])) lb (tmp, .list [])) lc (tmp, .list [])) lt (tmp, .obj (tupObj [.ref la, .ref lb, .ref lc])) la = some (tmp, .list []) := by
    rw [upd_ne _ _ ta.symm, upd_ne _ _ ca.symm, upd_ne _ _ ba.symm, upd_self]
  have hlb : upd (upd (upd (upd H la (tmp, .list [])) lb (tmp, .list [])) lc (tmp, .list [])) lt (tmp, .obj (tupObj [.ref la, .ref lb, .ref lc])) lb = some (tmp, .list []) := by
    rw [upd_ne _ _ tb.symm, upd_ne _ _ cb.symm, upd_self]
  have hlc : upd (upd (upd (upd H la (tmp, .list [])) lb (tmp, .list [])) lc (tmp, .list [])) lt (tmp, .obj (tupObj [.ref la, .ref lb, .ref lc])) lc = some (tmp, .list []) := by
    rw [upd_ne _ _ tc.symm, upd_self]
  revert ex hla hlb hlc
  generalize upd (upd (upd (upd H la (tmp, .list [])) lb (tmp, .list [])) lc (tmp, .list [])) lt (tmp, .obj (tupObj [.ref la, .ref lb, .ref lc])) = H0
  intro ex hla hlb hlc
  refine t_ord_cons (t_bn (t_store F (by walk_at "gc_put") ?_))
  refine t_ord_cons (t_bn (t_store F (by walk_at "gc_put") ?_))
  refine t_ord_cons (t_bn (t_store F (by walk_at "gc_put") ?_))
  refine t_ord_nil (ts := []) ?_
  have hW0 := hW.ext ex
  refine t_cons (t_for_list F (by walk_at "gc_mem") R'.h (t_revSlice ?_))
  walk_at "gc"
  refine ⟨_, _, _, rfl, hW0.datas, by rw [refs_len]; lia, fun lr H1 e1 hlr nlr => ?_⟩
  rw [refs_reverse] at hlr
  have ra : lr ≠ la := (ne_of_none nlr hla)
  have rb : lr ≠ lb := (ne_of_none nlr hlb)
  have rc : lr ≠ lc := (ne_of_none nlr hlc)
  refine ⟨lr, _, fun i m' H' => And3 (∃ c, m' = lk ["some", "is_reached", "was_asked", "wants_end", "left", "asked", "row", "thing"] [some (.ref σ.datasA), some (.ref p), some (.ref 364), some (.ref W.waF), some (.ref la), some (.ref lb), some (.ref lc), c]) (Ext H H') (H' lr = some (tmp, .list (W.refs σ.datas.reverse)) ∧ H' la = some (tmp, .list (W.refs ((σ.datas.reverse.take i).filter fun i => σ.held i || !decide (W.kind i = 1)))) ∧
    H' lb = some (tmp, .list (W.refs ((σ.datas.reverse.take i).filter fun i => !σ.held i))) ∧ H' lc = some (tmp, .list (W.refs ((σ.datas.reverse.take i).filter fun i => !σ.held i && decide (W.kind i = 1))))), rfl,
    ⟨⟨_, rfl⟩, ex.trans e1, hlr, e1 _ _ hla, e1 _ _ hlb, e1 _ _ hlc⟩, fun i m H q => ⟨_, q.3.1⟩, ?_, ?_⟩
  · rintro J i hJ m' H' v ⟨⟨c, rfl⟩, ee, hr', ha', hb', hc'⟩ hv
    obtain ⟨x, hx, rfl⟩ := refs_get hv
    have hxd : x ∈ σ.datas := List.mem_reverse.mp (List.mem_of_getElem? hx)
    have hxn := hd x hxd
    have hW' := hW.ext ee
    have hlen : ∀ (q : Nat → Bool), (W.refs ((σ.datas.reverse.take i).filter q)).length ≤ 1000 := fun q => by
      rw [refs_len]
      have a1 := List.length_filter_le q (σ.datas.reverse.take i)
      have a2 := List.length_take_le' i σ.datas.reverse
      have a3 : σ.datas.reverse.length = σ.datas.length := List.length_reverse
      lia
    have up : ∀ (H2 : LH) (a : Addr) x, H a = none → Ext H H2 → Ext H (upd H2 a x) := fun H2 a x hn e b y q => by
      have : b ≠ a := fun z => by rw [z, hn] at q; cases q
      rw [upd_ne _ _ this]; exact e b y q
    refine t_stored F (by walk_at "gc_put") ?_
    refine t_cons (t_if_ (t_opq (fun c m1 H1 => And3 (m1 = lk ["some", "is_reached", "was_asked", "wants_end", "left", "asked", "row", "thing"] [some (.ref σ.datasA), some (.ref p), some (.ref 364), some (.ref W.waF), some (.ref la), some (.ref lb), some (.ref lc), some (.ref (W.O x))]) (H' = H1) (c = σ.held x)) (fun I hI => ?_) ?_))
    · walk_at "gc"
      refine ⟨keeps_top P (by kernel_rfl), t_call (c_isasked P R' hW' hxn ?_)⟩
      walk_at "gc"
      refine ⟨fun c1 => hI _ _ _ ⟨rfl, rfl, by unfold Sg.held; rw [c1]; rfl⟩, fun c1 => ?_⟩
      walk_at "gc"
      refine ⟨keeps_bound P (ee _ _ hp) (by kernel_rfl), t_call (c_bound (ee _ _ hp) (c_isreached (n := 2) P R' hW' hxn ?_))⟩
      walk_at "gc"
      refine ⟨fun c2 => hI _ _ _ ⟨rfl, rfl, by unfold Sg.held; rw [c1, c2]; rfl⟩, fun c2 => ?_⟩
      walk_at "gc"
      exact hI _ _ _ ⟨rfl, rfl, by unfold Sg.held; rw [c1, c2]; rfl⟩
    rintro c m1 H1 ⟨rfl, rfl, rfl⟩
    refine ⟨fun hh => ?_, fun hh => ?_⟩
    · refine t_cons (t_exprF F ?_)
      walk_at "gc"
      refine t_methodList ha' PySem.F.slot_list_append ty_append ?_
      walk_at "gc"
      refine ⟨keeps_builtin, t_call (c_append ha' (hlen _) ?_)⟩
      refine t_nil (t_nil (hJ _ _ ⟨⟨_, rfl⟩, up _ _ _ na ee, ?_⟩))
      rw [filter_take hx, filter_take hx, filter_take hx]
      simp only [hh, Bool.true_or, if_true, Bool.not_true, Bool.false_eq_true, if_false, List.append_nil, Bool.false_and, refs_append]
      exact ⟨by rw [upd_ne _ _ ra]; exact hr', app3 ha' hb' hc' ba.symm ca.symm⟩
    refine t_cons (t_exprF F ?_)
    walk_at "gc"
    refine t_methodList hb' PySem.F.slot_list_append ty_append ?_
    walk_at "gc"
    refine ⟨keeps_builtin, t_call (c_append hb' (hlen _) ?_)⟩
    obtain ⟨hb2, ha2, hc2⟩ := app3 (va' := W.refs ((σ.datas.reverse.take i).filter fun i => !σ.held i) ++ [.ref (W.O x)]) hb' ha' hc' ba cb.symm
    have ee2 := up _ lb (tmp, .list (W.refs ((σ.datas.reverse.take i).filter fun i => !σ.held i) ++ [.ref (W.O x)])) nb0 ee
    have hr2 : upd H' lb (tmp, .list (W.refs ((σ.datas.reverse.take i).filter fun i => !σ.held i) ++ [.ref (W.O x)])) lr = some (tmp, .list (W.refs σ.datas.reverse)) := by rw [upd_ne _ _ rb]; exact hr'
    revert hb2 ha2 hc2 ee2 hr2
    generalize upd H' lb (tmp, .list (W.refs ((σ.datas.reverse.take i).filter fun i => !σ.held i) ++ [.ref (W.O x)])) = H2
    intro hb2 ha2 hc2 ee2 hr2
    refine t_cons (t_if_ ?_)
    walk_at "gc"
    refine ⟨(Z.kch _ (Frame.ext ee2)).2.2, t_call (Z.wa A' _ H2 1 x _ (Frame.ext ee2) (hW.ext ee2) R' hxn fun H3 e3 => ?_)⟩
    walk_at "gc"
    refine ⟨fun c3 => ?_, fun c3 => ?_⟩
    · refine t_cons (t_exprF F ?_)
      walk_at "gc"
      refine t_methodList (e3 _ _ hc2) PySem.F.slot_list_append ty_append ?_
      walk_at "gc"
      refine ⟨keeps_builtin, t_call (c_append (e3 _ _ hc2) (hlen _) ?_)⟩
      refine t_nil (t_nil (t_nil (hJ _ _ ⟨⟨_, rfl⟩, up _ _ _ nc0 (ee2.trans e3), ?_⟩)))
      rw [filter_take hx, filter_take hx, filter_take hx]
      simp only [hh, c3, Bool.false_or, Bool.not_true, Bool.not_false, if_true, Bool.false_eq_true, if_false, List.append_nil, Bool.true_and, refs_append]
      have q := app3 (va' := W.refs ((σ.datas.reverse.take i).filter fun i => !σ.held i && decide (W.kind i = 1)) ++ [.ref (W.O x)]) (e3 _ _ hc2) (e3 _ _ ha2) (e3 _ _ hb2) ca cb
      exact ⟨by rw [upd_ne _ _ rc]; exact e3 _ _ hr2, q.2.1, q.2.2, q.1⟩
    · refine t_cons (t_exprF F ?_)
      walk_at "gc"
      refine t_methodList (e3 _ _ ha2) PySem.F.slot_list_append ty_append ?_
      walk_at "gc"
      refine ⟨keeps_builtin, t_call (c_append (e3 _ _ ha2) (hlen _) ?_)⟩
      refine t_nil (t_nil (t_nil (hJ _ _ ⟨⟨_, rfl⟩, up _ _ _ na (ee2.trans e3), ?_⟩)))
      rw [filter_take hx, filter_take hx, filter_take hx]
      simp only [hh, c3, Bool.false_or, Bool.not_true, Bool.not_false, if_true, Bool.false_eq_true, if_false, List.append_nil, Bool.true_and, refs_append]
      have q := app3 (va' := W.refs ((σ.datas.reverse.take i).filter fun i => σ.held i || !decide (W.kind i = 1)) ++ [.ref (W.O x)]) (e3 _ _ ha2) (e3 _ _ hb2) (e3 _ _ hc2) ba.symm ca.symm
      exact ⟨by rw [upd_ne _ _ ra]; exact e3 _ _ hr2, q.1, q.2.1, q.2.2⟩
  · rintro m' H' ⟨⟨c, rfl⟩, ee, hr', ha', hb', hc'⟩
    rw [refs_len, List.take_length] at ha' hb' hc'
    refine t_cons (t_ret (t_tuple (t_spl_cons (t_revSlice ?_))))
    walk_at "gc"
    refine ⟨_, _, _, rfl, ha', ?_, fun l1 H1 e1 hl1 nl1 => ?_⟩
    · rw [refs_len]
      have := List.length_filter_le (fun i => σ.held i || !decide (W.kind i = 1)) σ.datas.reverse
      rw [List.length_reverse] at this
      lia
    refine t_spl_cons (t_name_local F (by walk_at "gc_at") (t_spl_cons (t_name_local F (by walk_at "gc_at") (t_spl_nil ⟨Nat.le_of_ble_eq_true rfl, fun t nt2 => ?_⟩))))
    have en := Ext.new nt2 (tmp, .obj (tupObj [.ref l1, .ref lb, .ref lc]))
    refine h _ t l1 lb lc (ee.trans (e1.trans en)) (ee.none nl1) (ne_of_none nl1 hb') (ne_of_none nl1 hc') (upd_self _ _ _) (ne_of_none nt2 hl1) (en _ _ ?_) (en _ _ (e1 _ _ hb')) (en _ _ (e1 _ _ hc'))
    rw [hl1, refs_reverse, ← List.filter_reverse, List.reverse_reverse]
end

/-! part M13 -/
/-- the datas are parted -/
noncomputable def parted (W : Wd) (σ : Sg) (a : Addr) : Sg := { σ with datas := σ.datas.filter (fun i => σ.held i || !decide (W.kind i = 1)), datasA := a, fz := fun i => σ.fz i || decide (i ∈ σ.datas ∧ σ.held i = false), tofin := σ.tofin ++ σ.datas.reverse.filter fun i => !σ.held i && decide (W.kind i = 1) }
inductive KeepR (W : Wd) (E : Nat → List Nat) : List Nat → Sg → Sg → Prop
  | nil {σ} : KeepR W E [] σ σ
  | cons {σ σ1 σ' x l} : x < W.n → MarksR W E [x] { σ with mark := setM σ.mark x σ.white } σ1 → KeepR W E l σ1 σ' → KeepR W E (x :: l) σ σ'
theorem KeepR.append {W : Wd} {E : Nat → List Nat} {l r : List Nat} {σ σ1 σ' : Sg} (a : KeepR W E l σ σ1) (b : KeepR W E r σ1 σ') : KeepR W E (l ++ r) σ σ' := by
  induction a with
  | nil => exact b
  | cons h1 h2 _ ih => exact .cons h1 h2 (ih b)
theorem wh_one {n x : Nat} {f : Nat → Int} {v : Int} : wh n (setM f x v) ≤ wh n f + 1 := by
  induction n with
  | zero => exact Nat.zero_le _
  | succ n ih =>
    by_cases q : n = x
    · subst q; unfold wh; rw [wh_out (Nat.le_refl _), setM_self]; split <;> lia
    · unfold wh; rw [setM_ne _ _ q]; lia
theorem KeepR.le {W : Wd} {E : Nat → List Nat} {l : List Nat} {σ σ' : Sg} (a : KeepR W E l σ σ') : pot W σ' ≤ pot W σ + l.length ∧ σ' = { σ with mark := σ'.mark, grey := σ'.grey } ∧ (Vl W σ → Vl W σ') := by
  induction a with
  | nil => exact ⟨Nat.le_refl _, rfl, id⟩
  | @cons σ σ1 σ' x l h1 h2 _ ih =>
    have q := h2.le.2.1
    have e := h2.same
    have o := wh_one (n := W.n) (x := x) (f := σ.mark) (v := σ.white)
    refine ⟨?_, ?_, fun v => ih.2.2 (h2.vl v)⟩
    · have := ih.1
      unfold pot at *
      dsimp only at q
      rw [List.length_cons]
      lia
    · rw [ih.2.1, e]
section
variable {w : World} {hT : Heap} {A : Around} {L : Addr} {m : Loc} {H : LH} {n : Nat} {W : Wd} {σ : Sg} {E : Nat → List Nat}
theorem bound_C {name : Str} {f : Addr} {ex : Bool} {Q : Value → Loc → LH → Prop} (P : Tp (KK w) hT) (hW : WR W σ H) (ho : boundOk (KK w) 421 name f = true) (hn : name ∉ cycNames) (h : ∀ q H', Ext H H' → H' q = some (tmp, .obj (methodObj (.ref f) (.ref W.C))) → H q = none → Q (.ref q) m H') : T PG w hT A L (getAttr (.ref W.C) name ex) m H Q :=
  let ⟨_, _, _, hd⟩ := hW.dc; t_getBound P hW.c hd (lk_out hn) ho tmp fun q hq => h q _ (Ext.new hq _) (upd_self _ _ _) hq
theorem bound_M {name : Str} {f : Addr} {ex : Bool} {Q : Value → Loc → LH → Prop} (P : Tp (KK w) hT) (hW : WR W σ H) (ho : boundOk (KK w) 136 name f = true) (hn : name ∉ marksNames) (h : ∀ q H', Ext H H' → H' q = some (tmp, .obj (methodObj (.ref f) (.ref W.M))) → H q = none → Q (.ref q) m H') : T PG w hT A L (getAttr (.ref W.M) name ex) m H Q :=
  let ⟨_, hd⟩ := hW.dm; t_getBound P hW.m hd (lk_out hn) ho tmp fun q hq => h q _ (Ext.new hq _) (upd_self _ _ _) hq

theorem c_keepfin (P : Tp (KK w) hT) (R : Room 16 A) {Q : Value → LH → Prop} (hW : WR W σ H) (Z : Clo w hT W E H) (hp : pot W σ + σ.tofin.length ≤ 900) (ht : ∀ i ∈ σ.tofin, i < W.n)
    (h : ∀ H' σ', KeepR W E σ.tofin σ σ' → WR W σ' H' → Frame W.k H H' → Q .none H') : C PG w hT A (.ref 404) ⟨[.ref W.C], []⟩ H Q := by
  refine c_fn (ps := ["self"]) (ls := ["data"]) (gs := []) (vals := [.ref W.C]) (ns := ["self", "data"]) (vs := [some (.ref W.C), none]) P R (by kernel_rfl) (by kernel_rfl) rfl fun L env A' he F R' => ?_
  refine t_cons (t_for_list F (by walk_at "gc_mem") R'.h ?_)
  walk_at "gc"
  refine g_tofin P hW ?_
  refine ⟨_, W.refs σ.tofin, fun i m' H' => And3 ((∃ c, m' = lk ["self", "data"] [some (.ref W.C), c])) (Frame W.k H H') (∃ σ', KeepR W E (σ.tofin.take i) σ σ' ∧ WR W σ' H'), rfl,
    ⟨⟨_, rfl⟩, Frame.refl _ _, σ, by rw [List.take_zero]; exact .nil, hW⟩, ?_, ?_, ?_⟩
  · rintro i m' H' ⟨-, -, σ', hK, hW'⟩
    have := hW'.tofin
    rw [hK.le.2.1] at this
    exact ⟨_, this⟩
  · rintro J i hJ m' H' v ⟨⟨c, rfl⟩, f', σ', hK, hW'⟩ hv
    obtain ⟨x, hx, rfl⟩ := refs_get hv
    have hxn := ht x (List.mem_of_getElem? hx)
    refine t_stored F (by walk_at "gc_put") ?_
    refine t_cons (t_exprF F ?_)
    walk_at "gc"
    refine g_marks P hW' ?_
    refine meth_M P hW' (by kernel_rfl : classFn (KK w) 136 "make_white" 56 = true) (by decide +kernel) ?_
    walk_at "gc"
    refine ⟨keeps_top P (by kernel_rfl), t_call (c_makewhite P R' hW' hxn fun H1 hW1 f1 => ?_)⟩
    refine t_cons (t_exprF F ?_)
    walk_at "gc"
    refine g_marks P hW1 ?_
    refine meth_M P hW1 (by kernel_rfl : classFn (KK w) 136 "mark" 84 = true) (by decide +kernel) ?_
    walk_at "gc"
    refine ⟨keeps_top P (by kernel_rfl), t_call (c_mark P 9 (Nat.le_trans wh_le Z.n9) R' hW1 (Z.frame (f'.trans f1)) hxn ?_ fun H2 σ2 hM hW2 f2 => ?_)⟩
    · have q := hK.le.1
      have o := wh_one (n := W.n) (x := x) (f := σ'.mark) (v := σ'.white)
      have hi : i < σ.tofin.length := (List.getElem?_eq_some_iff.mp hx).1
      rw [List.length_take] at q
      unfold pot at *
      dsimp only
      lia
    · refine t_nil (hJ _ _ ⟨⟨_, rfl⟩, (f'.trans f1).trans f2, σ2, ?_, hW2⟩)
      have : σ.tofin.take (i + 1) = σ.tofin.take i ++ [x] := by rw [List.take_add_one, hx]; rfl
      rw [this]
      exact hK.append (.cons hxn hM .nil)
  · rintro m' H' ⟨⟨c, rfl⟩, f', σ', hK, hW'⟩
    rw [refs_len, List.take_length] at hK
    exact t_nil (h _ _ hK hW' f')

theorem c_partdatas (P : Tp (KK w) hT) (R : Room 6 A) {Q : Value → LH → Prop} (hW : WR W σ H) (Z : Clo w hT W E H) (hd : ∀ i ∈ σ.datas, i < W.n) (hz : σ.datas.length ≤ 900) (hzt : σ.tofin.length ≤ 900)
    (h : ∀ H' a v t, 0 ≤ v → WR W (parted W σ a) H' → Frame W.k H H' → Q (.int v t) H') : C PG w hT A (.ref 397) ⟨[.ref W.C, .bool false], []⟩ H Q := by
  refine c_fn (ps := ["self", "is_all"]) (ls := ["reached", "asked", "row", "data"]) (gs := [("separate", .ref 357), ("is_asked", .ref 364), ("sum", .builtin "sum")]) (vals := [.ref W.C, .bool false])
    (ns := ["self", "is_all", "reached", "asked", "row", "data"]) (vs := [some (.ref W.C), some (.bool false), none, none, none, none]) P R (by kernel_rfl) (by kernel_rfl) rfl fun L env A' he F R' => ?_
  refine t_cons (t_assign_name (t_ifexp ?_))
  walk_at "gc"
  refine ⟨fun e => (by cases e), fun _ => ?_⟩
  walk_at "gc"
  refine bound_C P hW (by kernel_rfl : boundOk (KK w) 421 "is_reached" 385 = true) (by decide +kernel) fun p H1 e1 hp _ => ?_
  refine t_store F (by walk_at "gc_put") ?_
  have hW1 := hW.ext e1
  refine t_cons (t_assignTup ?_ rfl)
  walk_at "gc"
  refine g_datas P hW1 ?_
  walk_at "gc"
  refine g_wants P hW1 ?_
  walk_at "gc"
  refine ⟨keeps_top P (by kernel_rfl), t_call (c_separate P R' hW1 (Z.frame (Frame.ext e1)) hp hd hz fun H2 t l1 l2 l3 e2 n1 n12 n13 ht t1 hl1 hl2 hl3 => ?_)⟩
  refine t_unpackTup R'.h ht rfl ?_
  have hW2 := hW1.ext e2
  refine t_ord_cons (t_as_attr ?_)
  walk_at "gc"
  refine s_datasNew P hW2 Z.kpos hl1 fun H3 hW3 k3 => ?_
  have f3 : Frame W.k H1 H3 := fun a s c e ns => k3 a s c (e2 _ _ e) ns fun q => by rw [q, n1] at e; cases e
  refine t_ord_cons (t_as_name (t_store F (by walk_at "gc_put") ?_))
  refine t_ord_cons (t_as_name (t_store F (by walk_at "gc_put") ?_))
  refine t_ord_nil (ts := []) ?_
  have hl2' := k3 _ _ _ hl2 (tmp_not Z.kpos) n12.symm
  have hl3' := k3 _ _ _ hl3 (tmp_not Z.kpos) n13.symm
  have f3' : Frame W.k H H3 := (Frame.ext e1).trans f3
  refine t_cons (t_for_list F (by walk_at "gc_mem") R'.h ?_)
  walk_at "gc"
  refine ⟨l2, W.refs (σ.datas.reverse.filter fun i => !σ.held i), fun i m' H' => And3 ((∃ c, m' = lk ["self", "is_all", "reached", "asked", "row", "data"] [some (.ref W.C), some (.bool false), some (.ref p), some (.ref l2), some (.ref l3), c])) (Frame W.k H3 H') (WR W { σ with datas := σ.datas.filter (fun i => σ.held i || !decide (W.kind i = 1)), datasA := l1, fz := fun j => σ.fz j || decide (j ∈ (σ.datas.reverse.filter fun i => !σ.held i).take i) } H'), rfl, ⟨⟨_, rfl⟩, Frame.refl _ _, ?_⟩, ?_, ?_, ?_⟩
  · have : (fun j => σ.fz j || decide (j ∈ (σ.datas.reverse.filter fun i => !σ.held i).take 0)) = σ.fz := by funext j; simp
    rw [this]; exact hW3
  · rintro i m' H' ⟨-, f', -⟩
    exact ⟨_, f' _ _ _ hl2' (tmp_not Z.kpos)⟩
  · rintro J i hJ m' H' v ⟨⟨c, rfl⟩, f', hW'⟩ hv
    obtain ⟨x, hx, rfl⟩ := refs_get hv
    have hxn : x < W.n := hd x (List.mem_reverse.mp (List.mem_filter.mp (List.mem_of_getElem? hx)).1)
    refine t_stored F (by walk_at "gc_put") ?_
    refine t_cons (t_assign_attr ?_)
    walk_at "gc"
    refine s_fz P hW' hxn fun H4 hW4 f4 => ?_
    refine t_nil (hJ _ _ ⟨⟨_, rfl⟩, f'.trans f4, ?_⟩)
    have : setM (fun j => σ.fz j || decide (j ∈ (σ.datas.reverse.filter fun i => !σ.held i).take i)) x true = fun j => σ.fz j || decide (j ∈ (σ.datas.reverse.filter fun i => !σ.held i).take (i + 1)) := by
      funext j
      rw [List.take_add_one, hx]
      unfold setM
      by_cases q : j = x
      · simp [q]
      · simp [q]
    rw [this] at hW4
    exact hW4
  · rintro m' H' ⟨⟨c, rfl⟩, f', hW'⟩
    rw [refs_len, List.take_length] at hW'
    have f4 := f3'.trans f'
    have hl3'' := f' _ _ _ hl3' (tmp_not Z.kpos)
    refine t_cons (t_exprF F ?_)
    walk_at "gc"
    refine g_tofin P hW' ?_
    refine t_methodList hW'.tofin PySem.F.slot_list_extend ty_extend ?_
    walk_at "gc"
    have hrow : (W.refs (σ.datas.reverse.filter fun i => !σ.held i && decide (W.kind i = 1))).length ≤ 1000 := by
      rw [refs_len]
      have a1 := List.length_filter_le (fun i => !σ.held i && decide (W.kind i = 1)) σ.datas.reverse
      have a3 : σ.datas.reverse.length = σ.datas.length := List.length_reverse
      lia
    refine ⟨keeps_builtin, t_call (c_extend hW'.tofin hl3'' (by rw [refs_len]; dsimp only; lia) hrow ?_)⟩
    have hW5 := hW'.setTofin (x_tofin := σ.tofin ++ σ.datas.reverse.filter fun i => !σ.held i && decide (W.kind i = 1)) (fun a s c e _ ne => But.upd hW'.tofin (c' := .list (W.refs σ.tofin ++ W.refs (σ.datas.reverse.filter fun i => !σ.held i && decide (W.kind i = 1)))) (W.k, 12, 0) a s c e fun q => ne (by rw [q])) (by rw [upd_self, refs_append])
    have f5 : Frame W.k H' _ := Frame.upd (x := ((W.k, 12, 0), .list (W.refs σ.tofin ++ W.refs (σ.datas.reverse.filter fun i => !σ.held i && decide (W.kind i = 1))))) hW'.tofin (mine_le (by decide))
    have e5 : ({ σ with datas := σ.datas.filter (fun i => σ.held i || !decide (W.kind i = 1)), datasA := l1, fz := fun j => σ.fz j || decide (j ∈ (σ.datas.reverse.filter fun i => !σ.held i)), tofin := σ.tofin ++ σ.datas.reverse.filter fun i => !σ.held i && decide (W.kind i = 1) } : Sg) = parted W σ l1 := by
      unfold parted
      have : (fun j => σ.fz j || decide (j ∈ (σ.datas.reverse.filter fun i => !σ.held i))) = fun i => σ.fz i || decide (i ∈ σ.datas ∧ σ.held i = false) := by
        funext j; simp [List.mem_filter]
      rw [this]
    dsimp only at hW5 f5
    rw [e5] at hW5
    revert hW5 f5
    generalize upd H' σ.tofinA ((W.k, 12, 0), .list (W.refs σ.tofin ++ W.refs (σ.datas.reverse.filter fun i => !σ.held i && decide (W.kind i = 1)))) = H5
    intro hW5 f5
    have hl5 := f5 _ _ _ hl3'' (tmp_not Z.kpos)
    refine t_cons (t_ret ?_)
    walk_at "gc"
    refine t_compListF P F R'.h [] [] (cl := []) rfl (by kernel_rfl) (fun p hp => by cases hp) ?_
    walk_at "gc"
    refine ⟨l3, W.refs (σ.datas.reverse.filter fun i => !σ.held i && decide (W.kind i = 1)), fun i acc H' => And3 (acc.length = i) ((∃ ns, IntsAre acc ns ∧ ∀ n ∈ ns, 0 ≤ n)) (H' = H5), rfl, hrow, ⟨rfl, ⟨[], .nil, fun _ h => by cases h⟩, rfl⟩, ?_, ?_, ?_⟩
    · rintro i acc H' ⟨ha, -, rfl⟩
      exact ⟨ha, _, hl5⟩
    · rintro J C env' i acc hJ H' v Fc ⟨ha, ⟨ns, hi, h0⟩, rfl⟩ hv
      obtain ⟨x, hx, rfl⟩ := refs_get hv
      have hxn : x < W.n := hd x (List.mem_reverse.mp (List.mem_filter.mp (List.mem_of_getElem? hx)).1)
      walk_at "gc"
      refine g_size P hW5 hxn fun t => ?_
      refine ⟨rfl, hJ _ _ ⟨by simp [ha], ⟨ns ++ [W.size x], ?_, ?_⟩, rfl⟩⟩
      · have : ∀ (vs : List Value) (ns : List Int), IntsAre vs ns → IntsAre (vs ++ [.int (W.size x) t]) (ns ++ [W.size x]) := by
          intro vs ns h
          induction h with
          | nil => exact .cons _ _ .nil
          | cons a b _ ih => exact .cons _ _ ih
        exact this _ _ hi
      · intro n hn
        rcases List.mem_append.mp hn with q | q
        · exact h0 n q
        · rw [List.mem_singleton] at q; rw [q]
          have := (Z.sizes x hxn).1; (refine Int.le_of_lt ?_; assumption)
    · rintro acc H' ⟨ha, ⟨ns, hi, h0⟩, rfl⟩ r hr
      walk_at "gc"
      refine ⟨keeps_builtin, t_sum R'.h (upd_self _ _ _) hi fun u => ?_⟩
      have pos : ∀ l : List Int, (∀ n ∈ l, 0 ≤ n) → 0 ≤ l.sum := by
        intro l
        induction l with
        | nil => intro _; exact Int.le_refl _
        | cons a l ih =>
          intro q
          rw [List.sum_cons]
          have := q a List.mem_cons_self
          have := ih fun n hn => q n (List.mem_cons_of_mem _ hn)
          lia
      exact h _ l1 _ _ (pos ns h0) (hW5.ext (Ext.new hr _)) ((f4.trans f5).trans (Frame.ext (Ext.new hr _)))
end

/-! part M14 -/
/-- what is needed of a state, that no list grows too long -/
structure Bd (W : Wd) (σ : Sg) : Prop where
  vl : Vl W σ
  pot : pot W σ ≤ 50
  root : ∀ i ∈ σ.rootl, i < W.n
  datas : ∀ i ∈ σ.datas, i < W.n
  dl : σ.datas.length ≤ 50
  tofin : ∀ i ∈ σ.tofin, i < W.n
  tl : σ.tofin.length ≤ 50
  objs : ∀ i ∈ σ.objs, i < W.n
  ol : σ.objs.length ≤ 9
  total : 0 ≤ σ.total ∧ σ.total ≤ 1000
  sw : (∀ i ∈ σ.sweep, i ∈ σ.objs) ∧ σ.sweep.Nodup ∧ σ.sweep.length ≤ 9
  phase : σ.phase = 0 ∨ σ.phase = 1 ∨ σ.phase = 2 ∨ σ.phase = 3
inductive AtomicR (W : Wd) (E : Nat → List Nat) : Sg → Sg → Prop
  | mk {σ σ1 σ3 σ4 a b} : FinishR W E σ σ1 → KeepR W E (parted W σ1 a).tofin (parted W σ1 a) σ3 → PropAllR W E σ3 σ4 → AtomicR W E σ { σ4 with white := 1 - σ4.white, sweep := σ4.objs, sweepA := b, phase := 2 }
inductive SingleR (W : Wd) (E : Nat → List Nat) : Sg → Sg → Prop
  | start {σ σ'} : σ.phase = 0 → MarkRootsR W E σ σ' → SingleR W E σ σ'
  | prop {σ σ'} : σ.phase = 1 → PropR W E σ σ' → SingleR W E σ σ'
  | atomic {σ σ'} : σ.phase = 1 → σ.grey = [] → AtomicR W E σ σ' → SingleR W E σ σ'
  | sweep {σ} : σ.phase = 2 → SingleR W E σ { sweptAll W σ with phase := 3 }
  | fin {σ} : σ.phase = 3 → SingleR W E σ { σ with phase := 0, cycles := σ.cycles + 1 }
theorem FinishR.le {W : Wd} {E : Nat → List Nat} {σ σ' : Sg} (a : FinishR W E σ σ') (h : Vl W σ) : pot W σ' ≤ pot W σ ∧ Vl W σ' ∧ σ'.grey = [] ∧ ∃ g k a, σ' = { σ with mark := σ'.mark, grey := σ'.grey, again := σ'.again, greyA := g, weakA := k, againA := a } := by
  cases a with
  | mk r1 r2 r3 r4 =>
    rename_i σ1 σ3 σ4 a1 b1 a2 b2
    have q1 := r1.le h
    have v2 : Vl W { σ1 with grey := [], greyA := a1, weakA := b1 } := ⟨fun i hi => (by cases hi), q1.2.1.2⟩
    have q2 := r2.le
    have v3 := r2.vl v2
    have q3 := r3.le v3
    have v4 : Vl W { σ4 with grey := σ4.again, again := [], greyA := a2, againA := b2 } := ⟨q3.2.1.2, fun i hi => (by cases hi)⟩
    have q4 := r4.le v4
    have p1 := q1.1
    have p2 := q2.2.1
    have p3 := q3.1
    have p4 := q4.1
    refine ⟨?_, q4.2.1, q4.2.2.1, a2, b1, b2, ?_⟩
    · unfold Gc.pot at *
      dsimp only at *
      have e1 := q1.2.2.1
      have e3 := q3.2.2.1
      simp only [e1, e3, List.length_nil] at *
      lia
    · rw [q4.2.2.2, q3.2.2.2, r2.same, q1.2.2.2]
section
variable {w : World} {hT : Heap} {A : Around} {L : Addr} {m : Loc} {H : LH} {n : Nat} {W : Wd} {σ : Sg} {E : Nat → List Nat}

theorem c_atend (P : Tp (KK w) hT) (R : Room 18 A) {Q : Value → LH → Prop} (hW : WR W σ H) (Z : Clo w hT W E H) (hv : Vl W σ) (hp : pot W σ ≤ 50) (hd : ∀ i ∈ σ.datas, i < W.n) (hz : σ.datas.length ≤ 50) (ht : ∀ i ∈ σ.tofin, i < W.n) (hzt : σ.tofin.length ≤ 50)
    (h : ∀ H' a σ1 σ2 v t, 0 ≤ v → KeepR W E (parted W σ a).tofin (parted W σ a) σ1 → PropAllR W E σ1 σ2 → WR W σ2 H' → Frame W.k H H' → Q (.int v t) H') : C PG w hT A (.ref 411) ⟨[.ref W.C], []⟩ H Q := by
  refine c_fn (ps := ["self"]) (ls := ["room", "table"]) (gs := []) (vals := [.ref W.C]) (ns := ["self", "room", "table"]) (vs := [some (.ref W.C), none, none]) P R (by kernel_rfl) (by kernel_rfl) rfl fun L env A' he F R' => ?_
  refine t_cons (t_assign_name ?_)
  walk_at "gc"
  refine meth_C P hW (by kernel_rfl : classFn (KK w) 421 "part_datas" 397 = true) (by decide +kernel) ?_
  walk_at "gc"
  refine ⟨keeps_top P (by kernel_rfl), t_call (c_partdatas P (R'.le (by decide)) hW Z hd (by lia) (by lia) fun H1 a v1 t1 hv1 hW1 f1 => ?_)⟩
  refine t_store F (by walk_at "gc_put") ?_
  have htl : (parted W σ a).tofin.length ≤ 100 := by
    unfold parted
    dsimp only
    rw [List.length_append]
    have a1 := List.length_filter_le (fun i => !σ.held i && decide (W.kind i = 1)) σ.datas.reverse
    have a3 : σ.datas.reverse.length = σ.datas.length := List.length_reverse
    lia
  have htn : ∀ i ∈ (parted W σ a).tofin, i < W.n := by
    intro i hi
    rcases List.mem_append.mp hi with q | q
    · exact ht i q
    · exact hd i (List.mem_reverse.mp (List.mem_filter.mp q).1)
  refine t_cons (t_exprF F ?_)
  walk_at "gc"
  refine meth_C P hW1 (by kernel_rfl : classFn (KK w) 421 "keep_finalizing" 404 = true) (by decide +kernel) ?_
  walk_at "gc"
  refine ⟨keeps_top P (by kernel_rfl), t_call (c_keepfin P (R'.le (by decide)) hW1 (Z.frame f1) (by show pot W σ + _ ≤ 900; lia) htn fun H2 σ2 hK hW2 f2 => ?_)⟩
  have f2' := f1.trans f2
  refine t_cons (t_aug_name (t_load_local F (by walk_at "gc_at") ?_))
  walk_at "gc"
  refine g_marks P hW2 ?_
  refine meth_M P hW2 (by kernel_rfl : classFn (KK w) 136 "propagate_all" 98 = true) (by decide +kernel) ?_
  walk_at "gc"
  have q := hK.le
  have p0 : pot W (parted W σ a) = pot W σ := rfl
  refine ⟨keeps_top P (by kernel_rfl), t_call (c_propall P R' hW2 (Z.frame f2') (q.2.2 hv) (by have := q.1; lia) fun H3 σ3 v3 t3 hv3 hR hW3 f3 => ?_)⟩
  walk_at "gc"
  refine t_store F (by walk_at "gc_put") ?_
  refine t_cons (t_for_list F (by walk_at "gc_mem") R'.h ?_)
  walk_at "gc"
  refine g_marks P hW3 ?_
  refine g_weak P hW3 ?_
  refine ⟨_, [], fun i m' H' => m' = lk ["self", "room", "table"] [some (.ref W.C), some (.int (v1 + v3) _), none] ∧ H' = H3, rfl, ⟨rfl, rfl⟩, fun i m H q => ⟨_, q.2 ▸ hW3.weak⟩, fun J i _ m H v q hv => (by simp at hv), ?_⟩
  rintro m' H' ⟨rfl, rfl⟩
  refine t_cons (t_ret ?_)
  walk_at "gc"
  exact h _ a σ2 σ3 _ _ (by lia) hK hR hW3 (f2'.trans f3)

theorem IntsAre.keys {W : Wd} {w : World} {vs : List Value} {l : List Nat} (hl : vs.length = (W.pairs l).length) (h : ∀ (i : Nat) (v : Value), vs[i]? = some v → ∃ k x, (W.pairs l)[i]? = some (k, x) ∧ (intKind PG w).is k v = true) : IntsAre vs (W.nums l) := by
  induction l generalizing vs with
  | nil => cases vs with | nil => exact .nil | cons => cases hl
  | cons j l ih =>
    cases vs with
    | nil => cases hl
    | cons v vs =>
      obtain ⟨k, x, e, q⟩ := h 0 v rfl
      have e' : ((W.num j : Int), Value.ref (W.O j)) = (k, x) := Option.some.inj e
      cases e'
      have : ∃ t, v = .int (W.num j : Int) t := by
        unfold intKind at q
        cases v <;> simp [Value.isInt] at q
        exact ⟨_, by rw [q]⟩
      obtain ⟨t, rfl⟩ := this
      exact .cons _ _ (ih (by rw [pairs_len] at hl ⊢; simpa using hl) fun i v e => h (i + 1) v e)
theorem t_listObjs {m : Loc} {Q : Value → Loc → LH → Prop} (hA : A.handled = none) (hW : WR W σ H) (hz : σ.objs.length ≤ 1000) (h : ∀ l vs, H l = none → IntsAre vs (W.nums σ.objs) → Q (.ref l) m (upd H l (tmp, .list vs))) : T PG w hT A L (call (.type "list") [.ref W.objsA]) m H Q :=
  t_listOf_idict hA hW.objs (by rw [pairs_len]; exact hz) fun l vs hl e k => h l vs hl (IntsAre.keys e k)

theorem c_atomic (P : Tp (KK w) hT) (R : Room 20 A) {Q : Value → LH → Prop} (hW : WR W σ H) (Z : Clo w hT W E H) (b : Bd W σ)
    (h : ∀ H' σ', AtomicR W E σ σ' → WR W σ' H' → Frame W.k H H' → Q .none H') : C PG w hT A (.ref 245) ⟨[.ref W.C, .none], []⟩ H Q := by
  refine c_fn (ps := ["self", "thread"]) (ls := ["room"]) (gs := [("list", .type "list"), ("SWEEP", .int 2 417), ("max", .builtin "max")]) (vals := [.ref W.C, .none]) (ns := ["self", "thread", "room"]) (vs := [some (.ref W.C), some .none, none]) P R (by kernel_rfl) (by kernel_rfl) rfl fun L env A' he F R' => ?_
  refine t_cons (t_exprF F ?_)
  walk_at "gc"
  refine g_marks P hW ?_
  refine meth_M P hW (by kernel_rfl : classFn (KK w) 136 "finish" 105 = true) (by decide +kernel) ?_
  walk_at "gc"
  refine meth_C P hW (by kernel_rfl : classFn (KK w) 421 "late_roots" 224 = true) (by decide +kernel) ?_
  walk_at "gc"
  refine ⟨keeps_top P (by kernel_rfl), t_call (c_late P (R'.le (by decide : 2 ≤ 19)) hW ?_)⟩
  walk_at "gc"
  refine ⟨keeps_top P (by kernel_rfl), t_call (c_finish P (R'.le (by decide)) hW Z b.vl (by have := b.pot; lia) b.root fun H1 σ1 hR1 hW1 f1 => ?_)⟩
  obtain ⟨q1, q2, q3, gA, kA, aA, e1⟩ := hR1.le b.vl
  refine t_cons (t_assign_name ?_)
  walk_at "gc"
  refine meth_C P hW1 (by kernel_rfl : classFn (KK w) 421 "at_end" 411 = true) (by decide +kernel) ?_
  walk_at "gc"
  refine ⟨keeps_top P (by kernel_rfl), t_call (c_atend P (R'.le (by decide)) hW1 (Z.frame f1) q2 (by have := b.pot; lia) (by rw [e1]; exact b.datas) (by rw [e1]; exact b.dl) (by rw [e1]; exact b.tofin) (by rw [e1]; exact b.tl) fun H2 a σ2 σ3 v t hv hK hR2 hW2 f2 => ?_)⟩
  have e2 := hK.le.2.1
  have e3 := (hR2.le (hK.le.2.2 q2)).2.2.2
  refine t_store F (by walk_at "gc_put") ?_
  refine t_cons (t_exprF F ?_)
  walk_at "gc"
  refine g_marks P hW2 ?_
  refine meth_M P hW2 (by kernel_rfl : classFn (KK w) 136 "flip" 112 = true) (by decide +kernel) ?_
  walk_at "gc"
  refine ⟨keeps_top P (by kernel_rfl), t_call (c_flip P R' hW2 fun H3 hW3 f3 => ?_)⟩
  have f3' := (f1.trans f2).trans f3
  refine t_cons (t_assign_attr ?_)
  walk_at "gc"
  refine g_objects P hW3 ?_
  walk_at "gc"
  have eo : σ3.objs = σ.objs := by rw [e3, e2]; unfold parted; dsimp only; rw [e1]
  refine ⟨keeps_type, t_listObjs R'.h hW3 (by show σ3.objs.length ≤ 1000; rw [eo]; have := b.ol; lia) fun l vs hl hi => ?_⟩
  walk_at "gc"
  refine s_sweepNew hi P (hW3.new hl _) Z.kpos (upd_self _ _ _) fun H4 hW4 k4 => ?_
  have f4 := f3'.trans (frame_new hl k4)
  refine t_cons (t_assign_attr ?_)
  walk_at "gc"
  refine s_phase P hW4 fun H5 hW5 f5 => ?_
  refine t_cons (t_assign_attr ?_)
  walk_at "gc"
  refine g_total P hW5 fun _ => ?_
  walk_at "gc"
  have et : σ3.total = σ.total := by rw [e3, e2]; unfold parted; dsimp only; rw [e1]
  refine ⟨keeps_builtin, t_max R'.h fun _ => ?_⟩
  walk_at "gc"
  refine s_est P hW5 (by show 0 ≤ max 0 (σ3.total - v) ∧ max 0 (σ3.total - v) ≤ 1000; rw [et]; have := b.total; omega) fun H6 hW6 f6 => ?_
  exact t_nil (h _ _ (.mk hR1 hK hR2) hW6 ((f4.trans f5).trans f6))

theorem sweep1_total {W : Wd} {σ : Sg} {x : Nat} (h : 0 ≤ W.size x) : (sweep1 W σ x).total ≤ σ.total := by
  unfold sweep1; split
  · dsimp only; lia
  · exact Int.le_refl _
theorem fold_total {W : Wd} : ∀ (l : List Nat) (σ : Sg), (∀ i ∈ l, 0 ≤ W.size i) → (l.foldl (sweep1 W) σ).total ≤ σ.total
  | [], _, _ => Int.le_refl _
  | x :: l, σ, h => Int.le_trans (fold_total l _ fun i hi => h i (List.mem_cons_of_mem _ hi)) (sweep1_total (h x List.mem_cons_self))
theorem c_sweep (P : Tp (KK w) hT) (R : Room 5 A) {Q : Value → LH → Prop} (hW : WR W σ H) (Z : Clo w hT W E H) (b : Bd W σ)
    (h : ∀ H' v t, WR W { sweptAll W σ with phase := 3 } H' → Frame W.k H H' → Q (.int v t) H') : C PG w hT A (.ref 259) ⟨[.ref W.C], []⟩ H Q := by
  refine c_fn (ps := ["self"]) (ls := ["before"]) (gs := [("sweep_some", .ref 147), ("len", .builtin "len"), ("FINALIZE", .int 3 419), ("max", .builtin "max"), ("SWEEP_COST", .int 2 429)]) (vals := [.ref W.C]) (ns := ["self", "before"]) (vs := [some (.ref W.C), none]) P R (by kernel_rfl) (by kernel_rfl) rfl fun L env A' he F R' => ?_
  refine t_cons (t_assign_name ?_)
  walk_at "gc"
  refine g_total P hW fun _ => ?_
  refine t_store F (by walk_at "gc_put") ?_
  refine t_cons (t_exprF F ?_)
  walk_at "gc"
  refine g_to_sweep P hW ?_
  walk_at "gc"
  refine g_objects P hW ?_
  walk_at "gc"
  refine g_sweep_max P hW fun _ => ?_
  walk_at "gc"
  refine g_marks P hW ?_
  refine bound_M P hW (by kernel_rfl : boundOk (KK w) 136 "is_dead" 49 = true) (by decide +kernel) fun p1 H1 e1 hp1 _ => ?_
  have hW1 := hW.ext e1
  walk_at "gc"
  refine bound_C P hW1 (by kernel_rfl : boundOk (KK w) 421 "free" 252 = true) (by decide +kernel) fun p2 H2 e2 hp2 _ => ?_
  have hW2 := hW1.ext e2
  walk_at "gc"
  refine g_marks P hW2 ?_
  refine bound_M P hW2 (by kernel_rfl : boundOk (KK w) 136 "make_white" 56 = true) (by decide +kernel) fun p3 H3 e3 hp3 _ => ?_
  have hW3 := hW2.ext e3
  have f3 : Frame W.k H H3 := Frame.ext ((e1.trans e2).trans e3)
  walk_at "gc"
  refine ⟨keeps_top P (by kernel_rfl), t_call (c_sweepsome P R' hW3 (Z.frame f3) (e3 _ _ (e2 _ _ hp1)) (e3 _ _ hp2) hp3 b.objs b.ol b.sw.1 b.sw.2.1 b.sw.2.2 fun H4 v t hW4 f4 => ?_)⟩
  have f4' := f3.trans f4
  refine t_cons (t_if_ ?_)
  walk_at "gc"
  refine g_to_sweep P hW4 ?_
  walk_at "gc"
  obtain ⟨sv, hsv, hsi⟩ := hW4.sweep
  have hs0 : sv = [] := by
    have := hsi.length
    have e : (sweptAll W σ).sweep = [] := rfl
    rw [e] at this
    exact List.length_eq_zero_iff.mp this
  subst hs0
  refine ⟨keeps_builtin, t_len hsv (by decide) fun _ => ?_⟩
  walk_at "gc"
  refine ⟨fun _ => ?_, fun e => (by cases e)⟩
  refine t_cons (t_assign_attr ?_)
  walk_at "gc"
  refine s_phase P hW4 fun H5 hW5 f5 => t_nil ?_
  refine t_cons (t_assign_attr ?_)
  walk_at "gc"
  refine g_est P hW5 fun ev _ hev => ?_
  walk_at "gc"
  refine g_total P hW5 fun _ => ?_
  walk_at "gc"
  refine ⟨keeps_builtin, t_max R'.h fun _ => ?_⟩
  walk_at "gc"
  have tot : (sweptAll W σ).total ≤ σ.total := fold_total _ _ fun i hi => by
    have := (Z.sizes i (b.objs i (b.sw.1 i (List.mem_reverse.mp hi)))).1; (refine Int.le_of_lt ?_; assumption)
  refine s_est P hW5 (by dsimp only; omega) fun H6 hW6 f6 => ?_
  refine t_cons (t_ret ?_)
  walk_at "gc"
  refine g_sweep_max P hW6 fun _ => ?_
  walk_at "gc"
  exact t_mul (IntMulOk.of_right (by decide +kernel)) fun _ => h _ _ _ hW6 ((f4'.trans f5).trans f6)
end

/-! part M15 -/
/-- some single steps, at least one, none out of a pause but the first -/
inductive RunR (W : Wd) (E : Nat → List Nat) : Sg → Sg → Prop
  | one {σ σ'} : SingleR W E σ σ' → RunR W E σ σ'
  | more {σ σ1 σ'} : RunR W E σ σ1 → σ1.phase ≠ 0 → SingleR W E σ1 σ' → RunR W E σ σ'
theorem RunR.trans {W : Wd} {E : Nat → List Nat} {σ σ1 σ' : Sg} (a : RunR W E σ σ1) (h : σ1.phase ≠ 0) (b : RunR W E σ1 σ') : RunR W E σ σ' := by
  induction b with
  | one s => exact .more a h s
  | more _ n s ih => exact .more ih n s
/-- a full cycle -/
inductive FullR (W : Wd) (E : Nat → List Nat) : Sg → Sg → Prop
  | mk {σ σ0 σ1 σ2 σ'} : ((∃ a b c d, σ.phase ≤ 1 ∧ σ0 = { σ with grey := [], again := [], greyA := a, againA := b, weakA := c, sweep := σ.objs, sweepA := d, phase := 2 }) ∨ (¬ σ.phase ≤ 1 ∧ σ0 = σ)) →
      ((σ0.phase = 2 ∧ σ1 = { sweptAll W σ0 with phase := 3 }) ∨ (σ0.phase = 3 ∧ σ1 = σ0)) → MarkRootsR W E σ1 σ2 → RunR W E σ2 σ' → σ'.phase = 0 → FullR W E σ σ'
/-- what is kept in every state, and what falls with every single step -/
structure Law (W : Wd) (E : Nat → List Nat) (Inv : Sg → Prop) (Φ : Sg → Nat) : Prop where
  bd : ∀ σ, Inv σ → Bd W σ
  keep : ∀ σ σ', Inv σ → SingleR W E σ σ' → Inv σ'
  dec : ∀ σ σ', Inv σ → SingleR W E σ σ' → σ'.phase ≠ 0 → Φ σ' < Φ σ
  forget : ∀ σ a b c d, Inv σ → σ.phase ≤ 1 → Inv { σ with grey := [], again := [], greyA := a, againA := b, weakA := c, sweep := σ.objs, sweepA := d, phase := 2 }
  again : ∀ σ σ', Inv σ → σ.phase = 3 → MarkRootsR W E σ σ' → Inv σ'
theorem RunR.keep {W : Wd} {E : Nat → List Nat} {Inv : Sg → Prop} {Φ : Sg → Nat} (Y : Law W E Inv Φ) {σ σ' : Sg} (a : RunR W E σ σ') (h : Inv σ) : Inv σ' := by
  induction a with
  | one s => exact Y.keep _ _ h s
  | more _ _ s ih => exact Y.keep _ _ ih s
theorem RunR.dec {W : Wd} {E : Nat → List Nat} {Inv : Sg → Prop} {Φ : Sg → Nat} (Y : Law W E Inv Φ) {σ σ' : Sg} (a : RunR W E σ σ') (h : Inv σ) (h1 : σ'.phase ≠ 0) : Φ σ' < Φ σ := by
  induction a with
  | one s => exact Y.dec _ _ h s h1
  | more r n s ih => exact Nat.lt_trans (Y.dec _ _ (r.keep Y h) s h1) (ih n)

section
variable {w : World} {hT : Heap} {A : Around} {L : Addr} {m : Loc} {H : LH} {n : Nat} {W : Wd} {σ : Sg} {E : Nat → List Nat} {Inv : Sg → Prop} {Φ : Sg → Nat}

theorem c_single (P : Tp (KK w) hT) (R : Room 21 A) {Q : Value → LH → Prop} (hW : WR W σ H) (Z : Clo w hT W E H) (b : Bd W σ)
    (h : ∀ H' σ' v t, SingleR W E σ σ' → WR W σ' H' → Frame W.k H H' → Q (.int v t) H') : C PG w hT A (.ref 273) ⟨[.ref W.C, .none], []⟩ H Q := by
  refine c_fn (ps := ["self", "thread"]) (ls := []) (gs := [("PAUSE", .int 0 413), ("PROPAGATE", .int 1 415), ("len", .builtin "len"), ("SWEEP", .int 2 417)]) (vals := [.ref W.C, .none]) (ns := ["self", "thread"]) (vs := [some (.ref W.C), some .none]) P R (by kernel_rfl) (by kernel_rfl) rfl fun L env A' he F R' => ?_
  refine t_cons (t_if_ ?_)
  walk_at "gc"
  refine g_phase P hW fun _ => ?_
  walk_at "gc"
  refine ⟨fun c => ?_, fun c => t_nil ?_⟩
  · have hp : σ.phase = 0 := by simpa using c
    refine t_cons (t_exprF F ?_)
    walk_at "gc"
    refine meth_C P hW (by kernel_rfl : classFn (KK w) 421 "mark_roots" 231 = true) (by decide +kernel) ?_
    walk_at "gc"
    refine ⟨keeps_top P (by kernel_rfl), t_call (c_markroots P (R'.le (by decide)) hW Z b.root fun H1 σ1 hM hW1 f1 => ?_)⟩
    refine t_cons (t_ret ?_)
    walk_at "gc"
    exact h _ _ _ _ (.start hp hM) hW1 f1
  have h0 : σ.phase ≠ 0 := by simpa using c
  refine t_cons (t_if_ ?_)
  walk_at "gc"
  refine g_phase P hW fun _ => ?_
  walk_at "gc"
  refine ⟨fun c => ?_, fun c => t_nil ?_⟩
  · have hp : σ.phase = 1 := by simpa using c
    refine t_cons (t_if_ ?_)
    walk_at "gc"
    refine g_marks P hW ?_
    refine g_grey P hW ?_
    walk_at "gc"
    refine ⟨keeps_builtin, t_len hW.grey (by rw [refs_len]; have := b.pot; unfold pot at this; lia) fun _ => ?_⟩
    walk_at "gc"
    rw [refs_len]
    refine ⟨fun c2 => ?_, fun c2 => t_nil ?_⟩
    · have hne : σ.grey ≠ [] := by
        intro e; rw [e] at c2; simp at c2
      refine t_cons (t_ret ?_)
      walk_at "gc"
      refine g_marks P hW ?_
      refine meth_M P hW (by kernel_rfl : classFn (KK w) 136 "propagate" 91 = true) (by decide +kernel) ?_
      walk_at "gc"
      exact ⟨keeps_top P (by kernel_rfl), t_call (c_propagate P (R'.le (by decide)) hW Z b.vl (by have := b.pot; lia) hne fun H1 σ1 v t _ hR hW1 f1 => h _ _ _ _ (.prop hp hR) hW1 f1)⟩
    · have he : σ.grey = [] := by
        cases e : σ.grey with
        | nil => rfl
        | cons a b => rw [e] at c2; simp at c2
      refine t_cons (t_exprF F ?_)
      walk_at "gc"
      refine meth_C P hW (by kernel_rfl : classFn (KK w) 421 "atomic" 245 = true) (by decide +kernel) ?_
      walk_at "gc"
      refine ⟨keeps_top P (by kernel_rfl), t_call (c_atomic P R' hW Z b fun H1 σ1 hR hW1 f1 => ?_)⟩
      refine t_cons (t_ret ?_)
      walk_at "gc"
      exact h _ _ _ _ (.atomic hp he hR) hW1 f1
  have h1 : σ.phase ≠ 1 := by simpa using c
  refine t_cons (t_if_ ?_)
  walk_at "gc"
  refine g_phase P hW fun _ => ?_
  walk_at "gc"
  refine ⟨fun c => ?_, fun c => t_nil ?_⟩
  · have hp : σ.phase = 2 := by simpa using c
    refine t_cons (t_ret ?_)
    walk_at "gc"
    refine meth_C P hW (by kernel_rfl : classFn (KK w) 421 "sweep" 259 = true) (by decide +kernel) ?_
    walk_at "gc"
    exact ⟨keeps_top P (by kernel_rfl), t_call (c_sweep P (R'.le (by decide)) hW Z b fun H1 v t hW1 f1 => h _ _ _ _ (.sweep hp) hW1 f1)⟩
  have h2 : σ.phase ≠ 2 := by simpa using c
  have hp : σ.phase = 3 := by rcases b.phase with q | q | q | q <;> first | exact q | exact absurd q (by assumption)
  refine t_cons (t_ret ?_)
  walk_at "gc"
  refine meth_C P hW (by kernel_rfl : classFn (KK w) 421 "finalize" 266 = true) (by decide +kernel) ?_
  walk_at "gc"
  exact ⟨keeps_top P (by kernel_rfl), t_call (c_finalize P (n := 19) R' hW fun H1 t hW1 f1 => h _ _ _ _ (.fin hp) hW1 f1)⟩

theorem c_setthr (P : Tp (KK w) hT) (R : Room (n + 2) A) {Q : Value → LH → Prop} (hW : WR W σ H) (h : ∀ H', WR W σ H' → Frame W.k H H' → Q .none H') : C PG w hT A (.ref 280) ⟨[.ref W.C], []⟩ H Q := by
  refine c_fn (ps := ["self"]) (ls := []) (gs := [("NEVER", .int (10 ^ 18) 423), ("next_threshold", .ref 168)]) (vals := [.ref W.C]) (ns := ["self"]) (vs := [some (.ref W.C)]) P R (by kernel_rfl) (by kernel_rfl) rfl fun L env A' he F R' => ?_
  refine t_cons (t_assign_attr (t_ifexp ?_))
  walk_at "gc"
  refine g_pause P hW fun _ => ?_
  walk_at "gc"
  refine ⟨fun e => (by cases e), fun _ => ?_⟩
  walk_at "gc"
  refine g_est P hW fun _ _ _ => ?_
  walk_at "gc"
  refine g_pause P hW fun _ => ?_
  walk_at "gc"
  refine ⟨keeps_top P (by kernel_rfl), t_call (c_next_threshold P R' fun _ _ => ?_)⟩
  walk_at "gc"
  exact s_thr P hW fun H1 hW1 _ f1 => t_nil (h _ hW1 f1)
theorem bits64 {v : Int} (h : 1 ≤ v ∧ v ≤ 64) : Builtin.Int.intBits v ≤ 64 := by
  unfold Builtin.Int.intBits
  split
  · exact Nat.zero_le _
  · have : v.natAbs.log2 < 63 := (Nat.log2_lt (by omega)).mpr (by omega)
    (refine Nat.lt_succ_of_lt ?_; assumption)
theorem c_work (P : Tp (KK w) hT) (R : Room (n + 1) A) {v : Int} {t t' : Tok} {nv : Value} {Q : Value → LH → Prop} (h : ∀ v u, Q (.int v u) H) : C PG w hT A (.ref 161) ⟨[.int v t, .int 200 t', nv], []⟩ H Q := by
  refine c_fn (ps := ["step_size", "step_mul", "never"]) (ls := ["work"]) (gs := [("max", .builtin "max")]) (vals := [.int v t, .int 200 t', nv]) (ns := ["step_size", "step_mul", "never", "work"]) (vs := [some (.int v t), some (.int 200 t'), some nv, none]) P R (by kernel_rfl) (by kernel_rfl) rfl fun L env A' he F R' => ?_
  refine t_cons (t_if_ ?_)
  walk_at "gc"
  refine ⟨fun e => (by cases e), fun _ => t_nil ?_⟩
  refine t_cons (t_assign_name ?_)
  walk_at "gc"
  refine t_mul (IntMulOk.of_right (by decide +kernel)) fun _ => ?_
  walk_at "gc"
  refine t_fdiv (by decide) (noPylong100 _) fun _ => ?_
  refine t_store F (by walk_at "gc_put") ?_
  refine t_cons (t_ret (t_ifexp ?_))
  walk_at "gc"
  refine ⟨fun _ => ?_, fun e => (by cases e)⟩
  walk_at "gc"
  exact ⟨keeps_builtin, t_max R'.h fun _ => h _ _⟩
theorem c_debt (P : Tp (KK w) hT) (R : Room (n + 1) A) {a b c : Int} {t t' t'' : Tok} {Q : Value → LH → Prop} (h : ∀ v u, Q (.int v u) H) : C PG w hT A (.ref 154) ⟨[.int a t, .int b t', .int c t''], []⟩ H Q := by
  refine c_fn (ps := ["debt", "total", "threshold"]) (ls := []) (gs := []) (vals := [.int a t, .int b t', .int c t'']) (ns := ["debt", "total", "threshold"]) (vs := [some (.int a t), some (.int b t'), some (.int c t'')]) P R (by kernel_rfl) (by kernel_rfl) rfl fun L env A' he F R' => ?_
  refine t_cons (t_ret ?_)
  walk_at "gc"
  refine t_ifexp ?_
  walk_at "gc"
  refine ⟨fun _ => ?_, fun _ => ?_⟩
  · walk_at "gc"
    exact h _ _
  · walk_at "gc"
    exact h _ _
end

/-! part P1 -/
/-! the plain law: what is kept in every state, weakly -/
theorem sum_filter_ne {f : Nat → Int} {x : Nat} : ∀ {l : List Nat}, l.Nodup → x ∈ l → ((l.filter fun j => decide (j ≠ x)).map f).sum = (l.map f).sum - f x
  | [], _, h => by cases h
  | y :: l, nd, h => by
    rw [List.nodup_cons] at nd
    by_cases q : y = x
    · subst q
      have e : l.filter (fun j => decide (j ≠ y)) = l := List.filter_eq_self.mpr fun j hj => by
        simp only [decide_eq_true_eq]; intro e; exact nd.1 (e ▸ hj)
      have e2 : (y :: l).filter (fun j => decide (j ≠ y)) = l.filter (fun j => decide (j ≠ y)) := List.filter_cons_of_neg (by simp)
      rw [e2, e, List.map_cons, List.sum_cons]; lia
    · have e2 : (y :: l).filter (fun j => decide (j ≠ x)) = y :: l.filter (fun j => decide (j ≠ x)) := List.filter_cons_of_pos (by simpa using q)
      have hx : x ∈ l := (List.mem_cons.mp h).elim (fun e => absurd e.symm q) id
      rw [e2, List.map_cons, List.map_cons, List.sum_cons, List.sum_cons, sum_filter_ne nd.2 hx]; lia
theorem sum_range {f : Nat → Int} {n : Nat} : ∀ {l : List Nat}, (∀ i ∈ l, i < n) → (∀ i < n, 1 ≤ f i ∧ f i ≤ 40) → 0 ≤ (l.map f).sum ∧ (l.map f).sum ≤ 40 * l.length
  | [], _, _ => by simp
  | y :: l, h, hf => by
    have := sum_range (l := l) (fun i hi => h i (List.mem_cons_of_mem _ hi)) hf
    have := hf y (h y List.mem_cons_self)
    rw [List.map_cons, List.sum_cons, List.length_cons]
    lia
theorem nodup_rev {l : List Nat} (h : l.Nodup) : l.reverse.Nodup := by
  unfold List.Nodup
  rw [List.pairwise_reverse]
  exact h.imp fun a e => a e.symm
theorem nodup_le {n : Nat} {l : List Nat} (nd : l.Nodup) (h : ∀ i ∈ l, i < n) : l.length ≤ n := by
  have := List.Nodup.length_le_of_subset nd (fun i hi => List.mem_range.mpr (h i hi) : l ⊆ List.range n)
  rw [List.length_range] at this; exact this

structure WI (W : Wd) (σ : Sg) : Prop where
  vl : Vl W σ
  phase : σ.phase = 0 ∨ σ.phase = 1 ∨ σ.phase = 2 ∨ σ.phase = 3
  p1 : σ.phase = 1 → pot W σ ≤ W.n
  ga : σ.grey.length + σ.again.length ≤ 2 * W.n
  root : ∀ i ∈ σ.rootl, i < W.n
  datas : ∀ i ∈ σ.datas, i < W.n
  tofin : ∀ i ∈ σ.tofin, i < W.n
  dt : σ.datas.length + σ.tofin.length ≤ W.n
  objs : ∀ i ∈ σ.objs, i < W.n
  nd : σ.objs.Nodup
  sw : (∀ i ∈ σ.sweep, i ∈ σ.objs) ∧ σ.sweep.Nodup
  total : σ.total = (σ.objs.map W.size).sum
theorem WI.bd {W : Wd} {σ : Sg} (h : WI W σ) (n9 : W.n ≤ 9) (sz : ∀ i < W.n, 1 ≤ W.size i ∧ W.size i ≤ 40) : Bd W σ := by
  have w := wh_le (n := W.n) (f := σ.mark)
  have ga := h.ga
  have dt := h.dt
  have ol := nodup_le h.nd h.objs
  have sl := nodup_le h.sw.2 fun i hi => h.objs i (h.sw.1 i hi)
  have tt := sum_range h.objs sz
  have te := h.total
  refine ⟨h.vl, by unfold pot; lia, h.root, h.datas, by lia, h.tofin, by lia, h.objs, by lia, by lia, ⟨h.sw.1, h.sw.2, by lia⟩, h.phase⟩
theorem parted_len (W : Wd) (σ : Sg) : ∀ l : List Nat, (l.filter fun i => σ.held i || !decide (W.kind i = 1)).length + (l.filter fun i => !σ.held i && decide (W.kind i = 1)).length = l.length
  | [] => rfl
  | x :: l => by
    have ih := parted_len W σ l
    rw [List.filter_cons, List.filter_cons]
    cases σ.held x <;> by_cases q : W.kind x = 1 <;> simp [q] <;> lia

/-- what sweeping a list does -/
theorem sweep1_dead {W : Wd} {σ : Sg} {x i : Nat} (h : i ≠ x) : (sweep1 W σ x).dead i = σ.dead i := by
  unfold sweep1
  split <;> (unfold Sg.dead; simp only [setM_ne _ _ h])
theorem sweep1_white {W : Wd} {σ : Sg} {x : Nat} : (sweep1 W σ x).white = σ.white := by unfold sweep1; split <;> rfl
theorem sweep_fold (W : Wd) : ∀ (l : List Nat) (σ : Sg), l.Nodup → (l.foldl (sweep1 W) σ) = { σ with
    mark := fun i => if i ∈ l then (if σ.dead i then 4 else σ.white) else σ.mark i,
    objs := σ.objs.filter (fun i => !(decide (i ∈ l) && σ.dead i)),
    total := (l.foldl (sweep1 W) σ).total }
  | [], σ, _ => by
    show σ = _
    have : σ.objs.filter (fun i => !(decide (i ∈ ([] : List Nat)) && σ.dead i)) = σ.objs := List.filter_eq_self.mpr fun i _ => by simp
    rw [this]; simp
  | x :: l, σ, nd => by
    rw [List.nodup_cons] at nd
    rw [List.foldl_cons]
    have ih := sweep_fold W l (sweep1 W σ x) nd.2
    generalize hT : (l.foldl (sweep1 W) (sweep1 W σ x)).total = T at ih
    rw [ih]
    have hdead : ∀ i, i ∈ l → (sweep1 W σ x).dead i = σ.dead i := fun i hi => sweep1_dead (fun e => nd.1 (e ▸ hi))
    have hm : (fun i => if i ∈ l then (if (sweep1 W σ x).dead i = true then (4 : Int) else (sweep1 W σ x).white) else (sweep1 W σ x).mark i) = fun i => if i ∈ x :: l then (if σ.dead i = true then 4 else σ.white) else σ.mark i := by
      funext i
      rw [sweep1_white]
      by_cases h1 : i ∈ l
      · rw [if_pos h1, if_pos (List.mem_cons_of_mem _ h1), hdead i h1]
      · rw [if_neg h1]
        by_cases h2 : i = x
        · subst h2
          rw [if_pos List.mem_cons_self]
          unfold sweep1
          split <;> (dsimp only; rw [setM_self])
        · rw [if_neg (by rw [List.mem_cons, not_or]; exact ⟨h2, h1⟩)]
          unfold sweep1
          split <;> (dsimp only; rw [setM_ne _ _ h2])
    have ho : (sweep1 W σ x).objs.filter (fun i => !(decide (i ∈ l) && (sweep1 W σ x).dead i)) = σ.objs.filter (fun i => !(decide (i ∈ x :: l) && σ.dead i)) := by
      have e1 : (sweep1 W σ x).objs = σ.objs.filter (fun i => !(decide (i = x) && σ.dead x)) := by
        unfold sweep1
        split
        · rename_i q; dsimp only; congr 1; funext i; rw [q]; by_cases z : i = x <;> simp [z]
        · rename_i q; dsimp only; symm; refine List.filter_eq_self.mpr fun i _ => ?_
          have : σ.dead x = false := by simpa using q
          rw [this]; simp
      rw [e1, List.filter_filter]
      congr 1
      funext i
      by_cases h2 : i = x
      · subst h2
        have : decide (i ∈ l) = false := decide_eq_false nd.1
        rw [this]; simp
      · rw [sweep1_dead h2]
        by_cases h1 : i ∈ l <;> simp [h1, h2]
    rw [hm, ho]
    unfold sweep1
    split <;> rfl
theorem sweep1_total' {W : Wd} {σ : Sg} {x : Nat} (nd : σ.objs.Nodup) (hx : x ∈ σ.objs) (ht : σ.total = (σ.objs.map W.size).sum) : (sweep1 W σ x).total = ((sweep1 W σ x).objs.map W.size).sum := by
  unfold sweep1
  split
  · dsimp only; rw [sum_filter_ne nd hx, ht]
  · exact ht
theorem sweep_total (W : Wd) : ∀ (l : List Nat) (σ : Sg), l.Nodup → (∀ i ∈ l, i ∈ σ.objs) → σ.objs.Nodup → σ.total = (σ.objs.map W.size).sum → (l.foldl (sweep1 W) σ).total = ((l.foldl (sweep1 W) σ).objs.map W.size).sum
  | [], σ, _, _, _, h => h
  | x :: l, σ, nd, hs, nd2, h => by
    rw [List.nodup_cons] at nd
    rw [List.foldl_cons]
    refine sweep_total W l _ nd.2 (fun i hi => ?_) ?_ (sweep1_total' nd2 (hs x List.mem_cons_self) h)
    · have : i ≠ x := fun e => nd.1 (e ▸ hi)
      unfold sweep1
      split
      · exact List.mem_filter.mpr ⟨hs i (List.mem_cons_of_mem _ hi), by simpa using this⟩
      · exact hs i (List.mem_cons_of_mem _ hi)
    · unfold sweep1
      split
      · exact nd2.filter _
      · exact nd2
theorem sweptAll_eq (W : Wd) {σ : Sg} (h : WI W σ) : sweptAll W σ = { σ with
    mark := fun i => if i ∈ σ.sweep then (if σ.dead i then 4 else σ.white) else σ.mark i,
    objs := σ.objs.filter (fun i => !(decide (i ∈ σ.sweep) && σ.dead i)),
    total := ((σ.objs.filter (fun i => !(decide (i ∈ σ.sweep) && σ.dead i))).map W.size).sum, sweep := [] } := by
  have nd := nodup_rev h.sw.2
  have e := sweep_fold W σ.sweep.reverse σ nd
  have t := sweep_total W σ.sweep.reverse σ nd (fun i hi => h.sw.1 i (List.mem_reverse.mp hi)) h.nd h.total
  have eo : (σ.sweep.reverse.foldl (sweep1 W) σ).objs = σ.objs.filter (fun i => !(decide (i ∈ σ.sweep) && σ.dead i)) := by
    rw [e]; dsimp only; congr 1; funext i; simp only [List.mem_reverse]
  rw [eo] at t
  unfold sweptAll
  rw [e]
  simp only [List.mem_reverse]
  rw [t]

noncomputable def Phi (W : Wd) (σ : Sg) : Nat := if σ.phase = 0 then W.n + 4 else if σ.phase = 1 then 3 + σ.grey.length + wh W.n σ.mark else if σ.phase = 2 then 2 else 1
theorem KeepR.len {W : Wd} {E : Nat → List Nat} {l : List Nat} {σ σ' : Sg} (a : KeepR W E l σ σ') : σ'.again = σ.again := by rw [a.le.2.1]
theorem AtomicR.wi {W : Wd} {E : Nat → List Nat} {σ σ' : Sg} (a : AtomicR W E σ σ') (h : WI W σ) (hp : σ.phase = 1) : WI W σ' := by
  cases a with
  | mk r1 r2 r3 =>
    rename_i σ1 σ3 σ4 a1 b1
    obtain ⟨q1, v1, g1, ga, ka, aa, e1⟩ := r1.le h.vl
    have q2 := r2.le
    have q3 := r3.le (q2.2.2 v1)
    have p1 := h.p1 hp
    have e2 := q2.2.1
    have e3 := q3.2.2.2
    have e1d : σ1.datas = σ.datas := by rw [e1]
    have e1t : σ1.tofin = σ.tofin := by rw [e1]
    have hlen : (parted W σ1 a1).datas.length + (parted W σ1 a1).tofin.length = σ.datas.length + σ.tofin.length := by
      unfold parted
      dsimp only
      rw [List.length_append, List.filter_reverse, List.length_reverse, e1t, e1d]
      have := parted_len W σ1 σ.datas
      lia
    have dt := h.dt
    have hpot : pot W σ4 ≤ 2 * W.n := by
      have y1 := q1
      have y2 := q2.1
      have y3 := q3.1
      have a0 : pot W (parted W σ1 a1) = pot W σ1 := rfl
      lia
    have ed : σ4.datas = (parted W σ1 a1).datas := by rw [e3, e2]
    have et : σ4.tofin = (parted W σ1 a1).tofin := by rw [e3, e2]
    have eo : σ4.objs = σ.objs := by rw [e3, e2]; unfold parted; dsimp only; rw [e1]
    have er : σ4.rootl = σ.rootl := by rw [e3, e2]; unfold parted; dsimp only; rw [e1]
    have ett : σ4.total = σ.total := by rw [e3, e2]; unfold parted; dsimp only; rw [e1]
    have hdat : ∀ i ∈ σ4.datas, i < W.n := fun i hi => by
      rw [ed] at hi
      exact h.datas i (e1d ▸ (List.mem_filter.mp hi).1)
    have htof : ∀ i ∈ σ4.tofin, i < W.n := fun i hi => by
      rw [et] at hi
      rcases List.mem_append.mp hi with q | q
      · exact h.tofin i (e1t ▸ q)
      · exact h.datas i (e1d ▸ List.mem_reverse.mp (List.mem_filter.mp q).1)
    refine { vl := q3.2.1, phase := .inr (.inr (.inl rfl)), p1 := fun e => ?_, ga := ?_, root := ?_, datas := hdat, tofin := htof, dt := ?_, objs := ?_, nd := ?_, sw := ⟨fun i hi => hi, ?_⟩, total := ?_ }
    · exact absurd (show (2 : Int) = 1 from e) (by decide)
    · show σ4.grey.length + σ4.again.length ≤ 2 * W.n
      unfold pot at hpot; lia
    · show ∀ i ∈ σ4.rootl, i < W.n
      rw [er]; exact h.root
    · show σ4.datas.length + σ4.tofin.length ≤ W.n
      rw [ed, et, hlen]; exact dt
    · show ∀ i ∈ σ4.objs, i < W.n
      rw [eo]; exact h.objs
    · show σ4.objs.Nodup
      rw [eo]; exact h.nd
    · show σ4.objs.Nodup
      rw [eo]; exact h.nd
    · show σ4.total = (σ4.objs.map W.size).sum
      rw [eo, ett]; exact h.total
theorem WI.swept {W : Wd} {σ : Sg} (h : WI W σ) : WI W { sweptAll W σ with phase := 3 } := by
  rw [sweptAll_eq W h]
  exact { vl := h.vl, phase := .inr (.inr (.inr rfl)), p1 := fun e => absurd (show (3 : Int) = 1 from e) (by decide), ga := h.ga, root := h.root, datas := h.datas, tofin := h.tofin, dt := h.dt, objs := fun i hi => h.objs i (List.mem_filter.mp hi).1,
          nd := h.nd.filter _, sw := ⟨fun i hi => (by cases hi), List.nodup_nil⟩, total := rfl }
theorem MarkRootsR.wi {W : Wd} {E : Nat → List Nat} {σ σ' : Sg} (a : MarkRootsR W E σ σ') (h : WI W σ) : WI W σ' := by
  cases a with
  | mk r =>
    have q := r.le
    have e := r.same
    have v := r.vl ⟨fun i hi => (by cases hi), fun i hi => (by cases hi)⟩
    rename_i σ1 a b c
    have hp : pot W σ1 ≤ W.n := by
      have := q.2.1
      have w := wh_le (n := W.n) (f := σ.mark)
      refine Nat.le_trans this ?_
      unfold pot
      simp only [List.length_nil]
      lia
    have ed : σ1.datas = σ.datas := by rw [e]
    have et : σ1.tofin = σ.tofin := by rw [e]
    have eo : σ1.objs = σ.objs := by rw [e]
    have er : σ1.rootl = σ.rootl := by rw [e]
    have es : σ1.sweep = σ.sweep := by rw [e]
    have ett : σ1.total = σ.total := by rw [e]
    refine { vl := v, phase := .inr (.inl rfl), p1 := fun _ => hp, ga := ?_, root := ?_, datas := ?_, tofin := ?_, dt := ?_, objs := ?_, nd := ?_, sw := ?_, total := ?_ }
    · show σ1.grey.length + σ1.again.length ≤ 2 * W.n
      unfold pot at hp; lia
    · show ∀ i ∈ σ1.rootl, i < W.n
      rw [er]; exact h.root
    · show ∀ i ∈ σ1.datas, i < W.n
      rw [ed]; exact h.datas
    · show ∀ i ∈ σ1.tofin, i < W.n
      rw [et]; exact h.tofin
    · show σ1.datas.length + σ1.tofin.length ≤ W.n
      rw [ed, et]; exact h.dt
    · show ∀ i ∈ σ1.objs, i < W.n
      rw [eo]; exact h.objs
    · show σ1.objs.Nodup
      rw [eo]; exact h.nd
    · show (∀ i ∈ σ1.sweep, i ∈ σ1.objs) ∧ σ1.sweep.Nodup
      rw [eo, es]; exact h.sw
    · show σ1.total = (σ1.objs.map W.size).sum
      rw [eo, ett]; exact h.total
theorem PropR.wi {W : Wd} {E : Nat → List Nat} {σ σ' : Sg} (a : PropR W E σ σ') (h : WI W σ) (hp : σ.phase = 1) : WI W σ' := by
  have q := a.le h.vl
  have e := q.2.2.2
  have p1 := h.p1 hp
  have hpot : pot W σ' ≤ W.n := Nat.le_trans q.1 p1
  refine { vl := q.2.1, phase := ?_, p1 := fun _ => hpot, ga := ?_, root := ?_, datas := ?_, tofin := ?_, dt := ?_, objs := ?_, nd := ?_, sw := ?_, total := ?_ }
  · rw [e]; exact h.phase
  · unfold pot at hpot; lia
  · rw [e]; exact h.root
  · rw [e]; exact h.datas
  · rw [e]; exact h.tofin
  · rw [e]; exact h.dt
  · rw [e]; exact h.objs
  · rw [e]; exact h.nd
  · rw [e]; exact h.sw
  · rw [e]; exact h.total
theorem SingleR.wi {W : Wd} {E : Nat → List Nat} {σ σ' : Sg} (a : SingleR W E σ σ') (h : WI W σ) : WI W σ' := by
  cases a with
  | start hp r => exact r.wi h
  | prop hp r => exact r.wi h hp
  | atomic hp hg r => exact r.wi h hp
  | sweep hp => exact h.swept
  | fin hp => exact { vl := h.vl, phase := .inl rfl, p1 := fun e => absurd (show (0 : Int) = 1 from e) (by decide), ga := h.ga, root := h.root, datas := h.datas, tofin := h.tofin, dt := h.dt, objs := h.objs, nd := h.nd, sw := h.sw, total := h.total }
theorem SingleR.phi {W : Wd} {E : Nat → List Nat} {σ σ' : Sg} (a : SingleR W E σ σ') (h : WI W σ) : (σ'.phase ≠ 0 → Phi W σ' < Phi W σ) ∧ (σ'.phase = 0 → σ.phase = 3 ∧ Phi W σ = 1 ∧ Phi W σ' = W.n + 4 ∧ σ'.cycles = σ.cycles + 1) ∧ (σ'.phase ≠ 0 → σ'.cycles = σ.cycles) := by
  have h' := a.wi h
  cases a with
  | start hp r =>
    have e : σ'.phase = 1 := by cases r; rfl
    have p1 := h'.p1 e
    refine ⟨fun _ => ?_, fun z => by lia, fun _ => ?_⟩
    · unfold Phi
      rw [if_neg (by omega), if_pos e, if_pos hp]
      unfold pot at p1; lia
    · cases r with
      | mk r => show (_ : Sg).cycles = _; rw [r.same]
  | prop hp r =>
    have q := r.le h.vl
    have e : σ'.phase = 1 := by rw [q.2.2.2]; exact hp
    refine ⟨fun _ => ?_, fun z => by omega, fun _ => by rw [q.2.2.2]⟩
    unfold Phi
    rw [if_neg (by omega), if_pos e, if_neg (by lia), if_pos hp]
    lia
  | atomic hp hg r =>
    have e : σ'.phase = 2 := by cases r; rfl
    refine ⟨fun _ => ?_, fun z => by lia, fun _ => ?_⟩
    · unfold Phi
      rw [if_neg (by omega), if_neg (by lia), if_pos e, if_neg (by lia), if_pos hp]
      lia
    · cases r with
      | mk r1 r2 r3 =>
        obtain ⟨q1, v1, g1, ga, ka, aa, e1⟩ := r1.le h.vl
        have q2 := r2.le
        have q3 := r3.le (q2.2.2 v1)
        show (_ : Sg).cycles = _
        rw [q3.2.2.2, q2.2.1]
        unfold parted
        dsimp only
        rw [e1]
  | sweep hp =>
    refine ⟨fun _ => ?_, fun z => absurd (show (3 : Int) = 0 from z) (by decide), fun _ => ?_⟩
    · unfold Phi
      rw [if_neg (show ¬ (3 : Int) = 0 by decide), if_neg (show ¬ (3 : Int) = 1 by decide), if_neg (show ¬ (3 : Int) = 2 by decide), if_neg (by lia), if_neg (by lia), if_pos hp]; decide
    · rw [sweptAll_eq W h]
  | fin hp =>
    refine ⟨fun z => absurd rfl z, fun _ => ⟨hp, ?_, ?_, rfl⟩, fun z => absurd rfl z⟩
    · unfold Phi
      rw [if_neg (by lia), if_neg (by lia), if_neg (by lia)]
    · unfold Phi
      rw [if_pos rfl]
theorem law_wi {W : Wd} {E : Nat → List Nat} (n9 : W.n ≤ 9) (sz : ∀ i < W.n, 1 ≤ W.size i ∧ W.size i ≤ 40) : Law W E (WI W) (Phi W) where
  bd := fun σ h => h.bd n9 sz
  keep := fun σ σ' h s => s.wi h
  dec := fun σ σ' h s e => (s.phi h).1 e
  forget := fun σ a b c d h hp => { vl := ⟨fun i hi => (by cases hi), fun i hi => (by cases hi)⟩, phase := .inr (.inr (.inl rfl)), p1 := fun e => absurd (show (2 : Int) = 1 from e) (by decide), ga := Nat.zero_le _, root := h.root, datas := h.datas, tofin := h.tofin, dt := h.dt, objs := h.objs, nd := h.nd, sw := ⟨fun i hi => hi, h.nd⟩, total := h.total }
  again := fun σ σ' h hp r => r.wi h

/-! part M16 -/
section
variable {w : World} {hT : Heap} {A : Around} {L : Addr} {m : Loc} {H : LH} {n : Nat} {W : Wd} {σ : Sg} {E : Nat → List Nat} {Inv : Sg → Prop} {Φ : Sg → Nat}

theorem c_step (P : Tp (KK w) hT) (Y : Law W E Inv Φ) (R : Room 22 A) {Q : Value → LH → Prop} (hW : WR W σ H) (Z : Clo w hT W E H) (hI : Inv σ)
    (h : ∀ H' σ', RunR W E σ σ' → Inv σ' → WR W σ' H' → Frame W.k H H' → Q .none H') : C PG w hT A (.ref 287) ⟨[.ref W.C, .none], []⟩ H Q := by
  refine c_fn (ps := ["self", "thread"]) (ls := ["work_left", "is_going"]) (gs := [("work_of_step", .ref 161), ("NEVER", .int (10 ^ 18) 423), ("debt_after", .ref 154), ("PAUSE", .int 0 413)]) (vals := [.ref W.C, .none])
    (ns := ["self", "thread", "work_left", "is_going"]) (vs := [some (.ref W.C), some .none, none, none]) P R (by kernel_rfl) (by kernel_rfl) rfl fun L env A' he F R' => ?_
  refine t_cons (t_assign_name ?_)
  walk_at "gc"
  refine g_ss P hW fun ss _ _ => ?_
  walk_at "gc"
  refine g_step_mul P hW fun _ => ?_
  walk_at "gc"
  refine ⟨keeps_top P (by kernel_rfl), t_call (c_work P R' fun wv _ => ?_)⟩
  refine t_store F (by walk_at "gc_put") ?_
  refine t_cons (t_assign_attr ?_)
  walk_at "gc"
  refine g_debt P hW fun _ _ _ => ?_
  walk_at "gc"
  refine g_total P hW fun _ => ?_
  walk_at "gc"
  refine g_thr P hW fun _ _ _ => ?_
  walk_at "gc"
  refine ⟨keeps_top P (by kernel_rfl), t_call (c_debt P R' fun dv _ => ?_)⟩
  walk_at "gc"
  refine s_debt P hW fun H1 hW1 f1 => ?_
  refine t_cons (t_assign_name ?_)
  walk_at "gc"
  refine t_store F (by walk_at "gc_put") ?_
  -- the loop: σ' after some single steps
  refine t_cons (t_while (fun k m' H' => Ex4 fun (v : Int) (t : Tok) (b : Bool) (σ' : Sg) => And5 (m' = lk ["self", "thread", "work_left", "is_going"] [some (.ref W.C), some .none, some (.int v t), some (.bool b)]) (Frame W.k H H') (WR W σ' H') (Inv σ') (((b = true ∧ σ' = σ ∧ k = Φ σ + 2) ∨ (RunR W E σ σ' ∧ ((b = true ∧ σ'.phase ≠ 0 ∧ k = Φ σ' + 1) ∨ (b = false ∧ k = 0))) ))) (Φ σ + 2)
    ⟨_, _, true, σ, rfl, f1, hW1, hI, .inl ⟨rfl, rfl, rfl⟩⟩ ?_)
  rintro J k hJ m' H' ⟨v, t, b, σ', rfl, f', hW', hI', hk⟩
  walk_at "gc"
  refine ⟨fun hb => ?_, fun hb => ?_⟩
  · subst hb
    refine t_cons (t_aug_name (t_load_local F (by walk_at "gc_at") ?_))
    walk_at "gc"
    refine meth_C P hW' (by kernel_rfl : classFn (KK w) 421 "single_step" 273 = true) (by decide +kernel) ?_
    walk_at "gc"
    refine ⟨keeps_top P (by kernel_rfl), t_call (c_single P R' hW' (Z.frame f') (Y.bd _ hI') fun H2 σ2 v2 t2 hS hW2 f2 => ?_)⟩
    walk_at "gc"
    refine t_store F (by walk_at "gc_put") ?_
    have hrun : RunR W E σ σ2 := by
      rcases hk with ⟨-, rfl, -⟩ | ⟨r, ⟨-, n, -⟩ | ⟨e, -⟩⟩
      · exact .one hS
      · exact .more r n hS
      · cases e
    have hI2 := Y.keep _ _ hI' hS
    have f2' := f'.trans f2
    have fin : ∀ (tk : Tok) (c : Bool), (c = true → σ2.phase ≠ 0) → J (lk ["self", "thread", "work_left", "is_going"] [some (.ref W.C), some .none, some (.int (v - v2) tk), some (.bool c)]) H2 := by
      intro tk c hc
      cases c with
      | true =>
        refine hJ (Φ σ2 + 1) _ _ ?_ ⟨_, _, true, σ2, rfl, f2', hW2, hI2, .inr ⟨hrun, .inl ⟨rfl, hc rfl, rfl⟩⟩⟩
        rcases hk with ⟨-, rfl, e⟩ | ⟨r, ⟨-, n, e⟩ | ⟨e, -⟩⟩
        · have := Y.dec _ _ hI' hS (hc rfl); lia
        · have := Y.dec _ _ hI' hS (hc rfl); lia
        · cases e
      | false =>
        refine hJ 0 _ _ ?_ ⟨_, _, false, σ2, rfl, f2', hW2, hI2, .inr ⟨hrun, .inr ⟨rfl, rfl⟩⟩⟩
        rcases hk with ⟨-, -, e⟩ | ⟨r, ⟨-, n, e⟩ | ⟨e, -⟩⟩
        · lia
        · lia
        · cases e
    refine t_cons (t_assign_name (t_andValue ?_))
    walk_at "gc"
    refine g_phase P hW2 fun _ => ?_
    walk_at "gc"
    refine ⟨fun c => ?_, fun c => ?_⟩
    · rw [c]
      refine t_store F (by walk_at "gc_put") (t_nil (fin _ false fun e => (by cases e)))
    · walk_at "gc"
      refine t_store F (by walk_at "gc_put") (t_nil (fin _ _ fun _ => by simpa using c))
  · have hrun : RunR W E σ σ' := by
      rcases hk with ⟨e, -⟩ | ⟨r, -⟩
      · rw [hb] at e; cases e
      · exact r
    refine t_cons (t_if_ ?_)
    walk_at "gc"
    refine g_phase P hW' fun _ => ?_
    walk_at "gc"
    refine ⟨fun _ => ?_, fun _ => ?_⟩
    · refine t_cons (t_exprF F ?_)
      walk_at "gc"
      refine meth_C P hW' (by kernel_rfl : classFn (KK w) 421 "set_threshold" 280 = true) (by decide +kernel) ?_
      walk_at "gc"
      refine ⟨keeps_top P (by kernel_rfl), t_call (c_setthr P (n := 19) R' hW' fun H2 hW2 f2 => ?_)⟩
      exact t_nil (t_nil (h _ _ hrun hI' hW2 (f'.trans f2)))
    · refine t_cons (t_if_ ?_)
      walk_at "gc"
      refine g_debt P hW' fun _ _ _ => ?_
      walk_at "gc"
      refine g_ss P hW' fun _ _ _ => ?_
      walk_at "gc"
      refine ⟨fun _ => ?_, fun _ => ?_⟩
      · refine t_cons (t_assign_attr ?_)
        walk_at "gc"
        refine g_total P hW' fun _ => ?_
        walk_at "gc"
        refine g_ss P hW' fun _ _ _ => ?_
        walk_at "gc"
        refine s_thr P hW' fun H2 hW2 _ f2 => ?_
        exact t_nil (t_nil (t_nil (h _ _ hrun hI' hW2 (f'.trans f2))))
      · refine t_cons (t_aug_attr ?_)
        walk_at "gc"
        refine g_debt P hW' fun _ _ _ => ?_
        walk_at "gc"
        refine g_ss P hW' fun _ _ _ => ?_
        walk_at "gc"
        refine s_debt P hW' fun H2 hW2 f2 => ?_
        refine t_cons (t_assign_attr ?_)
        walk_at "gc"
        refine g_total P hW2 fun _ => ?_
        walk_at "gc"
        refine s_thr P hW2 fun H3 hW3 _ f3 => ?_
        exact t_nil (t_nil (t_nil (h _ _ hrun hI' hW3 ((f'.trans f2).trans f3))))

theorem c_steps (P : Tp (KK w) hT) (Y : Law W E Inv Φ) (R : Room 23 A) {Q : Value → LH → Prop} {many : Int} {tm : Tok} (hm : many = -1 ∨ many = 0 ∨ many = 1 ∨ many = 2 ∨ many = 3) (hW : WR W σ H) (Z : Clo w hT W E H) (hI : Inv σ)
    (h : ∀ H' σ' b, RunR W E σ σ' → Inv σ' → WR W σ' H' → Frame W.k H H' → Q (.bool b) H') : C PG w hT A (.ref 301) ⟨[.ref W.C, .none, .int many tm], []⟩ H Q := by
  refine c_fn (ps := ["self", "thread", "many"]) (ls := []) (gs := [("max", .builtin "max"), ("PAUSE", .int 0 413)]) (vals := [.ref W.C, .none, .int many tm])
    (ns := ["self", "thread", "many"]) (vs := [some (.ref W.C), some .none, some (.int many tm)]) P R (by kernel_rfl) (by kernel_rfl) rfl fun L env A' he F R' => ?_
  have hb := (Y.bd _ hI).total
  have go : ∀ (v : Int) (H1 : LH), v ≤ σ.total → WR W σ H1 → (∃ q tk, q.Ok ∧ q.thr = v ∧ H1 W.dC = some ((W.k, 1, 0), .ns 18 (lk cycNames (cycVals W σ q tk)))) → Frame W.k H H1 →
      T PG w hT A' L (execs ((bodyOf (fdOf (KK w) 301)).drop 1) env) (lk ["self", "thread", "many"] [some (.ref W.C), some .none, some (.int many tm)]) H1 fun fl _ H' => Q (match fl with | .ret v => v | _ => .none) H' := by
    intro v H1 hv hW1 hq f1
    refine t_cons (t_while (fun k m' H' => m' = lk ["self", "thread", "many"] [some (.ref W.C), some .none, some (.int many tm)] ∧ ((H' = H1 ∧ k = Φ σ + 2) ∨ ∃ σ', And6 (RunR W E σ σ') (Inv σ') (σ'.phase ≠ 0) (WR W σ' H') (Frame W.k H H') (k = Φ σ' + 1))) (Φ σ + 2) ⟨rfl, .inl ⟨rfl, rfl⟩⟩ ?_)
    rintro J k hJ m' H' hI0
    refine t_opq (fun c m2 H2 => And3 (m2 = lk ["self", "thread", "many"] [some (.ref W.C), some .none, some (.int many tm)]) (H2 = H') (∃ σ', And6 (Inv σ') (WR W σ' H') (Frame W.k H H') (∀ σ'', RunR W E σ' σ'' → RunR W E σ σ'') (Φ σ' + 1 ≤ k) (c = false → RunR W E σ σ'))) (fun I hI1 => ?_) ?_
    · obtain ⟨rfl, ⟨rfl, hk⟩ | ⟨σ', hR', hI', hp', hW', f', hk⟩⟩ := hI0
      · walk_at "gc"
        obtain ⟨q, tk, hok, ht, hdc⟩ := hq
        refine t_get P hW1.c hdc cyc_nd (ownC w) (by walk_at "gc_at") rfl ?_
        walk_at "gc"
        refine g_total P hW1 fun _ => ?_
        refine t_lei ?_
        walk_at "gc"
        exact hI1 _ _ _ ⟨rfl, rfl, σ, hI, hW1, f1, fun _ q => q, by lia, fun e => absurd e (by rw [ht]; simpa using hv)⟩
      · walk_at "gc"
        refine g_thr P hW' fun _ _ _ => ?_
        walk_at "gc"
        refine g_total P hW' fun _ => ?_
        refine t_lei ?_
        walk_at "gc"
        exact hI1 _ _ _ ⟨rfl, rfl, σ', hI', hW', f', fun _ q => hR'.trans hp' q, Nat.le_of_eq hk.symm, fun _ => hR'⟩
    rintro c m2 H2 ⟨rfl, rfl, σ', hI', hW', f', hr, hk, hend⟩
    refine ⟨fun _ => ?_, fun e => ?_⟩
    · refine t_cons (t_exprF F ?_)
      walk_at "gc"
      refine meth_C P hW' (by kernel_rfl : classFn (KK w) 421 "step" 287 = true) (by decide +kernel) ?_
      walk_at "gc"
      refine ⟨keeps_top P (by kernel_rfl), t_call (c_step P Y R' hW' (Z.frame f') hI' fun H3 σ2 hR hI2 hW2 f2 => ?_)⟩
      refine t_cons (t_if_ ?_)
      walk_at "gc"
      refine g_phase P hW2 fun _ => ?_
      walk_at "gc"
      refine ⟨fun c => ?_, fun c => ?_⟩
      · refine t_cons (t_ret ?_)
        walk_at "gc"
        exact h _ _ _ (hr _ hR) hI2 hW2 (f'.trans f2)
      · have hp : σ2.phase ≠ 0 := by simpa using c
        have := hR.dec Y hI' hp
        exact t_nil (t_nil (hJ (Φ σ2 + 1) _ _ (by lia) ⟨rfl, .inr ⟨σ2, hr _ hR, hI2, hp, hW2, f'.trans f2, rfl⟩⟩))
    · refine t_cons (t_ret ?_)
      walk_at "gc"
      exact h _ _ _ (hend e) hI' hW' f'
  refine t_cons (t_assign_attr (t_ifexp ?_))
  walk_at "gc"
  refine t_gei ?_
  walk_at "gc"
  refine ⟨fun c => ?_, fun c => ?_⟩
  · have hm0 : 0 ≤ many ∧ many ≤ 3 := by
      have : 0 ≤ many := by simpa using c
      lia
    walk_at "gc"
    refine g_total P hW fun _ => ?_
    walk_at "gc"
    refine g_ss P hW fun ss _ hss => ?_
    refine t_mul (IntMulOk.of_right (bits64 hss)) fun _ => ?_
    walk_at "gc"
    refine ⟨keeps_builtin, t_max R'.h fun _ => ?_⟩
    walk_at "gc"
    refine s_thr P hW fun H1 hW1 hq f1 => go _ H1 ?_ hW1 hq f1
    have := Int.mul_nonneg hm0.1 (by lia : 0 ≤ ss)
    omega
  · walk_at "gc"
    refine s_thr P hW fun H1 hW1 hq f1 => go _ H1 hb.1 hW1 hq f1

theorem c_full (P : Tp (KK w) hT) (Y : Law W E Inv Φ) (R : Room 23 A) {Q : Value → LH → Prop} (hW : WR W σ H) (Z : Clo w hT W E H) (hI : Inv σ)
    (h : ∀ H' σ', FullR W E σ σ' → Inv σ' → WR W σ' H' → Frame W.k H H' → Q .none H') : C PG w hT A (.ref 308) ⟨[.ref W.C, .none], []⟩ H Q := by
  refine c_fn (ps := ["self", "thread"]) (ls := []) (gs := [("PROPAGATE", .int 1 415), ("list", .type "list"), ("SWEEP", .int 2 417), ("FINALIZE", .int 3 419), ("PAUSE", .int 0 413)]) (vals := [.ref W.C, .none])
    (ns := ["self", "thread"]) (vs := [some (.ref W.C), some .none]) P R (by kernel_rfl) (by kernel_rfl) rfl fun L env A' he F R' => ?_
  have b := Y.bd _ hI
  have go : ∀ (σ0 : Sg) (H0 : LH), ((∃ a b c d, σ.phase ≤ 1 ∧ σ0 = { σ with grey := [], again := [], greyA := a, againA := b, weakA := c, sweep := σ.objs, sweepA := d, phase := 2 }) ∨ (¬ σ.phase ≤ 1 ∧ σ0 = σ)) → WR W σ0 H0 → Frame W.k H H0 →
      T PG w hT A' L (execs ((bodyOf (fdOf (KK w) 308)).drop 1) env) (lk ["self", "thread"] [some (.ref W.C), some .none]) H0 fun fl _ H' => Q (match fl with | .ret v => v | _ => .none) H' := by
    intro σ0 H0 h0 hW0 f0
    have hI0 : Inv σ0 := by
      rcases h0 with ⟨a, b, c, d, hp, rfl⟩ | ⟨-, rfl⟩
      · exact Y.forget _ _ _ _ _ hI hp
      · exact hI
    have hp0 : σ0.phase = 2 ∨ σ0.phase = 3 := by
      rcases h0 with ⟨a, b, c, d, hp, rfl⟩ | ⟨hp, rfl⟩
      · exact .inl rfl
      · rcases b.phase with q | q | q | q <;> lia
    refine t_cons (t_while (fun k m' H' => And3 (m' = lk ["self", "thread"] [some (.ref W.C), some .none]) (Frame W.k H H') (((k = 1 ∧ σ0.phase = 2 ∧ WR W σ0 H') ∨ (k = 0 ∧ ∃ σ1, ((σ0.phase = 2 ∧ σ1 = { sweptAll W σ0 with phase := 3 }) ∨ (σ0.phase = 3 ∧ σ1 = σ0)) ∧ Inv σ1 ∧ WR W σ1 H')))) (if σ0.phase = 2 then 1 else 0) ?_ ?_)
    · refine ⟨rfl, f0, ?_⟩
      rcases hp0 with q | q
      · rw [if_pos q]; exact .inl ⟨rfl, q, hW0⟩
      · rw [if_neg (by lia)]; exact .inr ⟨rfl, σ0, .inr ⟨q, rfl⟩, hI0, hW0⟩
    rintro J k hJ m' H' ⟨rfl, f', ⟨rfl, hp2, hW'⟩ | ⟨rfl, σ1, h1, hI1, hW1⟩⟩
    · walk_at "gc"
      refine g_phase P hW' fun _ => ?_
      walk_at "gc"
      refine ⟨fun _ => ?_, fun e => absurd e (by rw [hp2]; decide)⟩
      refine t_cons (t_exprF F ?_)
      walk_at "gc"
      refine meth_C P hW' (by kernel_rfl : classFn (KK w) 421 "single_step" 273 = true) (by decide +kernel) ?_
      walk_at "gc"
      refine ⟨keeps_top P (by kernel_rfl), t_call (c_single P (R'.le (by decide)) hW' (Z.frame f') (Y.bd _ hI0) fun H2 σ2 v2 t2 hS hW2 f2 => ?_)⟩
      have hI2 := Y.keep _ _ hI0 hS
      have e2 : σ2 = { sweptAll W σ0 with phase := 3 } := by
        cases hS with
        | start q _ => lia
        | prop q _ => lia
        | atomic q _ _ => omega
        | sweep q => rfl
        | fin q => lia
      exact t_nil (hJ 0 _ _ (by decide) ⟨rfl, f'.trans f2, .inr ⟨rfl, σ2, .inl ⟨hp2, e2⟩, hI2, hW2⟩⟩)
    · have hp1 : σ1.phase = 3 := by
        rcases h1 with ⟨-, rfl⟩ | ⟨q, rfl⟩
        · rfl
        · exact q
      walk_at "gc"
      refine g_phase P hW1 fun _ => ?_
      walk_at "gc"
      refine ⟨fun e => absurd e (by rw [hp1]; decide), fun _ => ?_⟩
      refine t_cons (t_exprF F ?_)
      walk_at "gc"
      refine meth_C P hW1 (by kernel_rfl : classFn (KK w) 421 "mark_roots" 231 = true) (by decide +kernel) ?_
      walk_at "gc"
      refine ⟨keeps_top P (by kernel_rfl), t_call (c_markroots P (R'.le (by decide)) hW1 (Z.frame f') (Y.bd _ hI1).root fun H2 σ2 hM hW2 f2 => ?_)⟩
      have hI2 := Y.again _ _ hI1 hp1 hM
      have hp2 : σ2.phase ≠ 0 := by cases hM; exact (by decide : (1 : Int) ≠ 0)
      refine t_cons (t_while (fun k m' H' => And3 (m' = lk ["self", "thread"] [some (.ref W.C), some .none]) (Frame W.k H H') (∃ σ', And3 (Inv σ') (WR W σ' H') (((σ' = σ2 ∧ k = Φ σ2 + 1) ∨ (RunR W E σ2 σ' ∧ ((σ'.phase ≠ 0 ∧ k = Φ σ' + 1) ∨ (σ'.phase = 0 ∧ k = 0))))))) (Φ σ2 + 1) ⟨rfl, f'.trans f2, σ2, hI2, hW2, .inl ⟨rfl, rfl⟩⟩ ?_)
      rintro J k hJ m' H' ⟨rfl, f'', σ', hI', hW', hk⟩
      walk_at "gc"
      refine g_phase P hW' fun _ => ?_
      walk_at "gc"
      refine ⟨fun c => ?_, fun c => ?_⟩
      · have hp' : σ'.phase ≠ 0 := by simpa using c
        refine t_cons (t_exprF F ?_)
        walk_at "gc"
        refine meth_C P hW' (by kernel_rfl : classFn (KK w) 421 "single_step" 273 = true) (by decide +kernel) ?_
        walk_at "gc"
        refine ⟨keeps_top P (by kernel_rfl), t_call (c_single P (R'.le (by decide)) hW' (Z.frame f'') (Y.bd _ hI') fun H3 σ3 v3 t3 hS hW3 f3 => ?_)⟩
        have hR : RunR W E σ2 σ3 := by
          rcases hk with ⟨rfl, -⟩ | ⟨r, -⟩
          · exact .one hS
          · exact .more r hp' hS
        have hI3 := Y.keep _ _ hI' hS
        by_cases q : σ3.phase = 0
        · refine t_nil (hJ 0 _ _ ?_ ⟨rfl, f''.trans f3, σ3, hI3, hW3, .inr ⟨hR, .inr ⟨q, rfl⟩⟩⟩)
          rcases hk with ⟨-, e⟩ | ⟨-, ⟨-, e⟩ | ⟨e, -⟩⟩
          · lia
          · lia
          · exact absurd e hp'
        · refine t_nil (hJ (Φ σ3 + 1) _ _ ?_ ⟨rfl, f''.trans f3, σ3, hI3, hW3, .inr ⟨hR, .inl ⟨q, rfl⟩⟩⟩)
          have := Y.dec _ _ hI' hS q
          rcases hk with ⟨rfl, e⟩ | ⟨-, ⟨-, e⟩ | ⟨e, -⟩⟩
          · lia
          · omega
          · exact absurd e hp'
      · have hp' : σ'.phase = 0 := by simpa using c
        refine t_cons (t_exprF F ?_)
        walk_at "gc"
        refine meth_C P hW' (by kernel_rfl : classFn (KK w) 421 "set_threshold" 280 = true) (by decide +kernel) ?_
        walk_at "gc"
        refine ⟨keeps_top P (by kernel_rfl), t_call (c_setthr P (n := 20) R' hW' fun H3 hW3 f3 => ?_)⟩
        refine t_nil (h _ _ (.mk h0 h1 hM ?_ hp') hI' hW3 (f''.trans f3))
        rcases hk with ⟨rfl, -⟩ | ⟨r, -⟩
        · exact absurd hp' hp2
        · exact r
  refine t_cons (t_if_ ?_)
  walk_at "gc"
  refine g_phase P hW fun _ => ?_
  walk_at "gc"
  refine t_lei ?_
  walk_at "gc"
  refine ⟨fun c => ?_, fun c => ?_⟩
  · have hp : σ.phase ≤ 1 := by simpa using c
    refine t_cons (t_exprF F ?_)
    walk_at "gc"
    refine g_marks P hW ?_
    refine meth_M P hW (by kernel_rfl : classFn (KK w) 136 "forget" 70 = true) (by decide +kernel) ?_
    walk_at "gc"
    refine ⟨keeps_top P (by kernel_rfl), t_call (c_forget P R' hW fun H1 ga aa wa hW1 f1 => ?_)⟩
    refine t_cons (t_assign_attr ?_)
    walk_at "gc"
    refine g_objects P hW1 ?_
    walk_at "gc"
    refine ⟨keeps_type, t_listObjs R'.h hW1 (by show σ.objs.length ≤ 1000; have := b.ol; lia) fun l vs hl hi => ?_⟩
    walk_at "gc"
    refine s_sweepNew hi P (hW1.new hl _) Z.kpos (upd_self _ _ _) fun H4 hW4 k4 => ?_
    have f4 := f1.trans (frame_new hl k4)
    refine t_cons (t_assign_attr ?_)
    walk_at "gc"
    refine s_phase P hW4 fun H5 hW5 f5 => ?_
    exact t_nil (go _ H5 (.inl ⟨_, _, _, _, hp, rfl⟩) hW5 (f4.trans f5))
  · have hp : ¬ σ.phase ≤ 1 := by simpa using c
    exact t_nil (go σ H (.inr ⟨hp, rfl⟩) hW (Frame.refl _ _))
end

/-! part M17 -/
section
variable {w : World} {hT : Heap} {A : Around} {L : Addr} {m : Loc} {H : LH} {n : Nat} {W : Wd} {σ : Sg} {E : Nat → List Nat}

theorem c_first (P : Tp (KK w) hT) (R : Room (n + 2) A) {x : Nat} {r : List Nat} {Q : Value → LH → Prop} (hW : WR W σ H) (ht : σ.tofin = x :: r) (hx : x < W.n) (hz : σ.tofin.length ≤ 1000) (hd : σ.datas.length ≤ 1000)
    (h : ∀ H', WR W { σ with tofin := r, datas := σ.datas ++ [x], mark := setM σ.mark x σ.white } H' → Frame W.k H H' → Q (.ref (W.O x)) H') : C PG w hT A (.ref 418) ⟨[.ref W.C], []⟩ H Q := by
  refine c_fn (ps := ["self"]) (ls := ["data"]) (gs := []) (vals := [.ref W.C]) (ns := ["self", "data"]) (vs := [some (.ref W.C), none]) P R (by kernel_rfl) (by kernel_rfl) rfl fun L env A' he F R' => ?_
  refine t_cons (t_assign_name ?_)
  walk_at "gc"
  refine g_tofin P hW ?_
  refine t_methodList hW.tofin PySem.F.slot_list_pop ty_pop ?_
  walk_at "gc"
  have e := hW.tofin
  rw [ht] at e
  refine ⟨keeps_builtin, t_call (c_popAt (v := .ref (W.O x)) e (by rw [refs_len, ← ht]; exact hz) (Int.le_refl 0) rfl ?_)⟩
  have hW1 : WR W { σ with tofin := r } (upd H σ.tofinA ((W.k, 12, 0), .list (List.eraseIdx (W.refs (x :: r)) (0 : Int).toNat))) :=
    hW.setTofin (fun a s c e _ ne => But.upd hW.tofin _ a s c e fun q => ne (by rw [q])) (by rw [upd_self]; rfl)
  have f1 : Frame W.k H (upd H σ.tofinA ((W.k, 12, 0), .list (List.eraseIdx (W.refs (x :: r)) (0 : Int).toNat))) := Frame.upd hW.tofin (mine_le (by decide))
  revert hW1 f1
  generalize upd H σ.tofinA ((W.k, 12, 0), .list (List.eraseIdx (W.refs (x :: r)) (0 : Int).toNat)) = H1
  intro hW1 f1
  refine t_store F (by walk_at "gc_put") ?_
  refine t_cons (t_exprF F ?_)
  walk_at "gc"
  refine g_datas P hW1 ?_
  refine t_methodList hW1.datas PySem.F.slot_list_append ty_append ?_
  walk_at "gc"
  refine ⟨keeps_builtin, t_call (c_append hW1.datas (by rw [refs_len]; exact hd) ?_)⟩
  have hW2 := hW1.setDatas (x_datas := σ.datas ++ [x]) (fun a s c e _ ne => But.upd hW1.datas (c' := .list (W.refs σ.datas ++ [.ref (W.O x)])) (W.k, 11, 0) a s c e fun q => ne (by rw [q])) (by rw [upd_self, refs_append]; rfl)
  have f2 : Frame W.k H1 _ := Frame.upd (x := ((W.k, 11, 0), .list (W.refs σ.datas ++ [.ref (W.O x)]))) hW1.datas (mine_le (by decide))
  dsimp only at hW2 f2
  revert hW2 f2
  generalize upd H1 σ.datasA ((W.k, 11, 0), .list (W.refs σ.datas ++ [.ref (W.O x)])) = H2
  intro hW2 f2
  refine t_cons (t_exprF F ?_)
  walk_at "gc"
  refine g_marks P hW2 ?_
  refine meth_M P hW2 (by kernel_rfl : classFn (KK w) 136 "make_white" 56 = true) (by decide +kernel) ?_
  walk_at "gc"
  refine ⟨keeps_top P (by kernel_rfl), t_call (c_makewhite P R' hW2 hx fun H3 hW3 f3 => ?_)⟩
  refine t_cons (t_ret ?_)
  walk_at "gc"
  exact h _ hW3 ((f1.trans f2).trans f3)

/-! making -/
theorem lk_app : ∀ {ns : List Str} {vs : List (Option Value)} {x : Str} {v : Value}, ns.length = vs.length → x ∉ ns → set (lk ns vs) x v = lk (ns ++ [x]) (vs ++ [some v])
  | [], [], x, v, _, _ => by
    funext y; unfold set; show _ = if y = x then some v else none; rfl
  | n :: ns, u :: vs, x, v, hl, hx => by
    rw [List.mem_cons, not_or] at hx
    have ih := lk_app (v := v) (x := x) (by simpa using hl : ns.length = vs.length) hx.2
    funext y
    have := congrFun ih y
    unfold set at *
    show (if y = x then some v else if y = n then u else lk ns vs y) = if y = n then u else lk (ns ++ [x]) (vs ++ [some v]) y
    rw [← this]
    by_cases q : y = n
    · subst q
      rw [if_neg (fun e => hx.1 e.symm), if_pos rfl, if_pos rfl]
    · rw [if_neg q, if_neg q]
  | [], _ :: _, _, _, hl, _ => by cases hl
  | _ :: _, [], _, _, hl, _ => by cases hl
theorem t_putNew {D x d : Addr} {ns ns' : List Str} {vs vs' : List (Option Value)} {kk : Nat} {t t' : Tag} {name : Str} {v : Value} {Q : Unit → Loc → LH → Prop} (P : Tp (KK w) hT) (hx : H x = some (t, .inst D d)) (hd : H d = some (t', .ns kk (lk ns vs)))
    (ho : putOk (KK w) D name = true) (hk : kk ≤ 1000) (hn : name ∉ ns) (hl : ns.length = vs.length) (h : Q () m (upd H d (t', .ns (kk + 1) (lk ns' vs')))) (hns : ns ++ [name] = ns' := by rfl) (hvs : vs ++ [some v] = vs' := by rfl) : T PG w hT A L (setAttr (.ref x) name v) m H Q := by
  subst hns hvs
  refine t_setAttr P hx hd ho hk ?_
  rw [lk_out hn, lk_app hl hn]
  exact h
/-- all but one cell stays -/
noncomputable def Keep1 (d : Addr) (H H' : LH) : Prop := ∀ a x, H a = some x → a ≠ d → H' a = some x
theorem Keep1.refl (d : Addr) (H : LH) : Keep1 d H H := fun _ _ e _ => e
theorem Keep1.trans {d : Addr} {H H' H'' : LH} (a : Keep1 d H H') (b : Keep1 d H' H'') : Keep1 d H H'' := fun x c e ne => b x c (a x c e ne) ne
theorem Keep1.upd (d : Addr) (H : LH) (x : Tag × Cell) : Keep1 d H (Gc.upd H d x) := fun b c e ne => by rw [upd_ne _ _ ne]; exact e
theorem Keep1.ext {d : Addr} {H H' : LH} (h : Ext H H') : Keep1 d H H' := fun a x e _ => h a x e
/-- an attribute is added: the heap as it is after -/
theorem s_add {D x d : Addr} {ns ns' : List Str} {vs vs' : List (Option Value)} {kk : Nat} {t t' : Tag} {name : Str} {v : Value} {Q : Unit → Loc → LH → Prop} (P : Tp (KK w) hT) (hx : H x = some (t, .inst D d)) (hd : H d = some (t', .ns kk (lk ns vs)))
    (ho : putOk (KK w) D name = true) (hk : kk ≤ 1000) (hn : name ∉ ns) (hl : ns.length = vs.length) (h : ∀ H', H' x = some (t, .inst D d) → H' d = some (t', .ns (kk + 1) (lk ns' vs')) → Keep1 d H H' → Q () m H') (hns : ns ++ [name] = ns' := by rfl) (hvs : vs ++ [some v] = vs' := by rfl) : T PG w hT A L (setAttr (.ref x) name v) m H Q := by
  refine t_putNew P hx hd ho hk hn hl (h _ ?_ (upd_self _ _ _) (Keep1.upd _ _ _)) hns hvs
  have ne : x ≠ d := fun e => by rw [e, hd] at hx; cases hx
  rw [upd_ne _ _ ne]; exact hx

theorem t_retagNew {α : Type} {t : Sem α} {Q : α → Loc → LH → Prop} {a : Addr} {g : Tag} {c : Cell} (g' : Tag) (h : T PG w hT A L t m (upd H a (g', c)) Q) : T PG w hT A L t m (upd H a (g, c)) Q := by
  refine t_retag (g' := g') (upd_self _ _ _) ?_
  have e : upd (upd H a (g, c)) a (g', c) = upd H a (g', c) := by funext b; unfold upd; split <;> rfl
  rw [e]; exact h
theorem lk_nil : (fun _ => none : Loc) = lk [] [] := by funext y; rfl
theorem c_marksInit (P : Tp (KK w) hT) (R : Room (n + 1) A) (k : Nat) {x d : Addr} {f1 f2 : Value} {Q : Value → LH → Prop} {t t' : Tag} (hx : H x = some (t, .inst 136 d)) (hd : H d = some (t', .ns 0 (lk [] [])))
    (h : ∀ H' l1 l2 l3 u, H' x = some (t, .inst 136 d) → H' d = some (t', .ns 6 (lk marksNames [some f1, some f2, some (.int 0 u), some (.ref l1), some (.ref l2), some (.ref l3)])) → Keep1 d H H' →
      H l1 = none → H l2 = none → H l3 = none → l1 ≠ l2 → l1 ≠ l3 → l2 ≠ l3 → H' l1 = some ((k, 7, 0), .list []) → H' l2 = some ((k, 8, 0), .list []) → H' l3 = some ((k, 9, 0), .list []) → Q .none H') : C PG w hT A (.ref 42) ⟨[.ref x, f1, f2], []⟩ H Q := by
  refine c_fn (ps := ["self", "children", "sort_of"]) (ls := []) (gs := [("WHITE", .int 0 196)]) (vals := [.ref x, f1, f2]) (ns := ["self", "children", "sort_of"]) (vs := [some (.ref x), some f1, some f2]) P R (by kernel_rfl) (by kernel_rfl) rfl fun L env A' he F R' => ?_
  refine t_cons (t_assign_attr ?_)
  walk_at "gc"
  refine s_add P hx hd (by kernel_rfl) (by decide) (by decide +kernel) rfl fun H1 hx1 hd1 k1 => ?_
  refine t_cons (t_assign_attr ?_)
  walk_at "gc"
  refine s_add P hx1 hd1 (by kernel_rfl) (by decide) (by decide +kernel) rfl fun H2 hx2 hd2 k2 => ?_
  refine t_cons (t_assign_attr ?_)
  walk_at "gc"
  refine s_add P hx2 hd2 (by kernel_rfl) (by decide) (by decide +kernel) rfl fun H3 hx3 hd3 k3 => ?_
  refine t_cons (t_assign_attr (t_list ?_))
  walk_at "gc"
  refine ⟨by decide, fun l1 n1 => ?_⟩
  refine t_retagNew (k, 7, 0) ?_
  walk_at "gc"
  refine s_add P (Ext.new n1 _ _ _ hx3) (Ext.new n1 _ _ _ hd3) (by kernel_rfl) (by decide) (by decide +kernel) rfl fun H4 hx4 hd4 k4 => ?_
  have d1 : l1 ≠ d := ne_of_none n1 hd3
  have h41 := k4 _ _ (upd_self H3 l1 ((k, 7, 0), .list [])) d1
  refine t_cons (t_assign_attr (t_list ?_))
  walk_at "gc"
  refine ⟨by decide, fun l2 n2 => ?_⟩
  refine t_retagNew (k, 8, 0) ?_
  walk_at "gc"
  refine s_add P (Ext.new n2 _ _ _ hx4) (Ext.new n2 _ _ _ hd4) (by kernel_rfl) (by decide) (by decide +kernel) rfl fun H5 hx5 hd5 k5 => ?_
  have d2 : l2 ≠ d := ne_of_none n2 hd4
  have h52 := k5 _ _ (upd_self H4 l2 ((k, 8, 0), .list [])) d2
  have n21 : l2 ≠ l1 := ne_of_none n2 h41
  have h51 := k5 _ _ (Ext.new n2 _ _ _ h41) d1
  refine t_cons (t_assign_attr (t_list ?_))
  walk_at "gc"
  refine ⟨by decide, fun l3 n3 => ?_⟩
  refine t_retagNew (k, 9, 0) ?_
  walk_at "gc"
  refine s_add P (Ext.new n3 _ _ _ hx5) (Ext.new n3 _ _ _ hd5) (by kernel_rfl) (by decide) (by decide +kernel) rfl fun H6 hx6 hd6 k6 => ?_
  have d3 : l3 ≠ d := ne_of_none n3 hd5
  have K3 := (k1.trans k2).trans k3
  have K4 := K3.trans ((Keep1.ext (Ext.new n1 ((k, 7, 0), .list []))).trans k4)
  have K5 := K4.trans ((Keep1.ext (Ext.new n2 ((k, 8, 0), .list []))).trans k5)
  have K6 := K5.trans ((Keep1.ext (Ext.new n3 ((k, 9, 0), .list []))).trans k6)
  have none_of : ∀ {Hx : LH} {l : Addr}, Keep1 d H Hx → l ≠ d → Hx l = none → H l = none := fun {Hx l} k ne e => by
    cases q : H l with
    | none => rfl
    | some y => rw [k l y q ne] at e; cases e
  exact t_nil (h _ l1 l2 l3 _ hx6 hd6 K6 (none_of K3 d1 n1) (none_of K4 d2 n2) (none_of K5 d3 n3) n21.symm (ne_of_none n3 h51).symm (ne_of_none n3 h52).symm
    (k6 _ _ (Ext.new n3 _ _ _ h51) d1) (k6 _ _ (Ext.new n3 _ _ _ h52) d2) (k6 _ _ (upd_self _ _ _) d3))
end

/-! part F13 -/
theorem bindL_look {k : Str → Option NameKind} : ∀ (b : List (Str × Value)) (m : Loc) (y : Str), (b.map (·.1)).Nodup → bindL k b m y = ((b.filter fun p => decide (k p.1 = some .local)).lookup y).or (m y)
  | [], _, _, _ => rfl
  | (n, v) :: r, m, y, nd => by
    rw [List.map_cons, List.nodup_cons] at nd
    unfold bindL
    rw [bindL_look r _ y nd.2, List.filter_cons]
    by_cases q : k n = some .local
    · simp only [q, if_true, decide_true, List.lookup_cons]
      by_cases e : y = n
      · subst e
        have : List.lookup y (r.filter fun p => decide (k p.1 = some .local)) = none := lookup_none fun hm => nd.1 (by
          obtain ⟨p, hp, e⟩ := List.mem_map.mp hm
          exact List.mem_map.mpr ⟨p, (List.mem_filter.mp hp).1, e⟩)
        rw [this]; simp
      · have : (y == n) = false := by simpa using e
        rw [this, if_neg e]
    · simp only [q, if_false, decide_false, Bool.false_eq_true]
theorem bindC_look {k : Str → Option NameKind} : ∀ (b : List (Str × Value)) (m : Loc) (y : Str), (b.map (·.1)).Nodup → bindC k b m y = ((b.filter fun p => !decide (k p.1 = some .local)).lookup y).or (m y)
  | [], _, _, _ => rfl
  | (n, v) :: r, m, y, nd => by
    rw [List.map_cons, List.nodup_cons] at nd
    unfold bindC
    rw [bindC_look r _ y nd.2, List.filter_cons]
    by_cases q : k n = some .local
    · simp only [q, if_true, decide_true, Bool.not_true, Bool.false_eq_true, if_false]
    · simp only [q, if_false, decide_false, Bool.not_false, if_true, List.lookup_cons]
      by_cases e : y = n
      · subst e
        have : List.lookup y (r.filter fun p => !decide (k p.1 = some .local)) = none := lookup_none fun hm => nd.1 (by
          obtain ⟨p, hp, e⟩ := List.mem_map.mp hm
          exact List.mem_map.mpr ⟨p, (List.mem_filter.mp hp).1, e⟩)
        rw [this]; simp
      · have : (y == n) = false := by simpa using e
        rw [this, if_neg e]
theorem lk_look : ∀ (z : List (Str × Value)) (ls : List Str) (y : Str), lk (z.map (·.1) ++ ls) (z.map (fun p => some p.2) ++ ls.map fun _ => none) y = z.lookup y
  | [], ls, y => lk_none ls y
  | (n, v) :: z, ls, y => by
    show (if y = n then some v else lk (z.map (·.1) ++ ls) (z.map (fun p => some p.2) ++ ls.map fun _ => none) y) = _
    rw [lk_look z ls y, List.lookup_cons]
    by_cases e : y = n
    · subst e; simp
    · have : (y == n) = false := by simpa using e
      rw [this, if_neg e]

/-- the cells of a frame are tracked -/
noncomputable def withCells (H : LH) (cm : Loc) : List (Str × Addr) → LH
  | [] => H
  | (n, c) :: r => Gc.upd (withCells H cm r) c ((0, 1, 0), .cell (cm n))
theorem withCells_at {H : LH} {cm : Loc} : ∀ {cs : List (Str × Addr)} (a : Addr), (∀ p ∈ cs, p.2 ≠ a) → withCells H cm cs a = H a
  | [], _, _ => rfl
  | (n, c) :: r, a, h => by
    unfold withCells
    rw [upd_ne _ _ (h _ List.mem_cons_self).symm]
    exact withCells_at a fun p hp => h p (List.mem_cons_of_mem _ hp)
theorem withCells_get {H : LH} {cm : Loc} : ∀ {cs : List (Str × Addr)}, (cs.Pairwise fun x y => x.2 ≠ y.2) → ∀ p ∈ cs, withCells H cm cs p.2 = some ((0, 1, 0), .cell (cm p.1))
  | [], _, _, h => by cases h
  | (n, c) :: r, hp, p, hm => by
    rw [List.pairwise_cons] at hp
    unfold withCells
    rcases List.mem_cons.mp hm with rfl | hm
    · exact upd_self _ _ _
    · rw [upd_ne _ _ (hp.1 p hm).symm]
      exact withCells_get hp.2 p hm

noncomputable def fnOkC (K : Frag) (f : Addr) (ns : List Str) (gs : List (Str × Value)) (fs : List Str) (ps : List Str) : Bool := match K.lookup f with
  | some ⟨_, _, .func fd, _⟩ => codeIn K fd.code fd.qualname && kindsOk K fd.scope ns gs && cellsOk fd.scope fs && decide (fd.globals = mainGlobals) && decide (fd.builtins = builtinsNs) &&
      !fd.scope.isCoroutine && !fd.scope.isGenerator && fd.closure.isEmpty && (match fd.body with | .stmts _ => true | _ => false) && decide ps.Nodup &&
      (ps.all fun x => decide (fd.scope.names.lookup x = some .local) || (decide (fd.scope.names.lookup x = some .cell) && ((cellsFrom 0 fd.scope.names []).lookup x).isSome))
  | _ => false
noncomputable def cellNodup (K : Frag) (f : Addr) : Bool := decide ((cellsFrom 0 (fdOf K f).scope.names []).map (·.1)).Nodup
section
variable {prog : Program} {w : World} {hT : Heap} {K : Frag} {A : Around} {H : LH} {B : Addr → Obj → Prop} {g : Array GenState} {os : OsState} {s : Shared}
theorem rp_cells (x : Rp prog w hT B g os H s) {cm : Loc} : ∀ {cs : List (Str × Addr)}, (∀ p ∈ cs, s.heap.IsCell p.2 (cm p.1) ∧ ∀ o, ¬ B p.2 o) → Rp prog w hT B g os (withCells H cm cs) s
  | [], _ => x
  | (n, c) :: r, h => (rp_cells x (cs := r) fun p hp => h p (List.mem_cons_of_mem _ hp)).upd (h _ List.mem_cons_self).2 (Heap.ExtBut.refl _ _) (h _ List.mem_cons_self).1 rfl rfl
theorem lookup_isSome_names {α β : Type} : ∀ {a : List (Str × α)} {b : List (Str × β)} {x : Str}, a.map (·.1) = b.map (·.1) → (a.lookup x).isSome = (b.lookup x).isSome
  | [], [], _, _ => rfl
  | [], _ :: _, _, h => by cases h
  | _ :: _, [], _, h => by cases h
  | (n, v) :: a, (n', v') :: b, x, h => by
    rw [List.map_cons, List.map_cons, List.cons.injEq] at h
    obtain ⟨e, h⟩ := h
    have e : n = n' := e
    subst e
    rw [List.lookup_cons, List.lookup_cons]
    cases x == n with
    | true => rfl
    | false => exact lookup_isSome_names h
theorem c_fnC {f : Addr} {ps ls ns cn : List Str} {gs : List (Str × Value)} {vals : List Value} {n : Nat} {zs zc : List (Str × Value)} {vs : List (Option Value)} {fs : Addr → List (Str × Addr)} {cvs : Addr → List (Addr × Option Value)} {Q : Value → LH → Prop} (P : Tp K hT) (R : Room (n + 1) A)
    (hok : fnOkC K f ns gs cn ps = true) (hnd : cellNodup K f = true) (hbind : bindArgs (fdOf K f) ⟨vals, []⟩ = pure (ps.zip vals)) (len : ps.length = vals.length)
    (hz : ((ps.zip vals).filter fun p => decide ((fdOf K f).scope.names.lookup p.1 = some .local)) = zs) (hzc : ((ps.zip vals).filter fun p => !decide ((fdOf K f).scope.names.lookup p.1 = some .local)) = zc)
    (hns : zs.map (·.1) ++ ls = ns) (hvs : (zs.map (fun p => some p.2) ++ ls.map fun _ => none) = vs) (hfs : ∀ L, cellsFrom (L + 1) (fdOf K f).scope.names [] = fs L) (hcn : ∀ L, (fs L).map (·.1) = cn) (hcv : ∀ L, ((fs L).map fun p => (p.2, zc.lookup p.1)) = cvs L)
    (h : ∀ L env A' H1, env = callEnvC (fdOf K f) L f → FnE hT env L ns gs (fs L) → Room n A' → Ext H H1 → (∀ p ∈ cvs L, H1 p.1 = some ((0, 1, 0), .cell p.2) ∧ H p.1 = none) → ((cvs L).Pairwise fun x y => x.1 ≠ y.1) →
      T prog w hT A' L (execs (bodyOf (fdOf K f)) env) (lk ns vs) H1 fun fl _ H' => Q (match fl with | .ret v => v | _ => .none) H') : C prog w hT A (.ref f) ⟨vals, []⟩ H Q := by
  subst hns hvs
  unfold fnOkC at hok
  split at hok
  · rename_i oc od fd osl ho
    have hfd : fdOf K f = fd := by unfold fdOf; rw [ho]
    unfold cellNodup at hnd
    rw [hfd] at hbind h hz hzc hfs hnd
    simp only [Bool.and_eq_true, decide_eq_true_eq, Bool.not_eq_true'] at hok hnd
    obtain ⟨⟨⟨⟨⟨⟨⟨⟨⟨⟨h1, h2⟩, h3⟩, h4⟩, h5⟩, h6⟩, h7⟩, h8⟩, h9⟩, h10⟩, h11⟩ := hok
    have h2' := h2
    unfold kindsOk at h2'
    simp only [Bool.and_eq_true, decide_eq_true_eq] at h2'
    have hb : fd.body = .stmts (bodyOf fd) := by
      unfold bodyOf
      split at h9
      · rename_i b e; rw [e]
      · cases h9
    have hclo : fd.closure = [] := List.isEmpty_iff.mp h8
    have hmap : (ps.zip vals).map (·.1) = ps := by
      rw [List.map_fst_zip]; lia
    intro B g os s x
    have nmE : ∀ L, (cellsFrom (L + 1) fd.scope.names []).map (·.1) = (cellsFrom 0 fd.scope.names []).map (·.1) := fun L => cellsFrom_names _ _ _ _ _ rfl
    refine codeAny_call_cells R.lt (x.in P.X _ _ ho) rfl (P.nl.keeps fun b o e => x.keep b o (x.top b o e)) (codeIn_rec P h1 x) hb hbind hclo (fun y hy => ?_) (fun s1 X => ?_) h6 h7 h2'.1.1.1.1.1
    · have hy' : y.1 ∈ ps := by
        have : y.1 ∈ (ps.zip vals).map (·.1) := List.mem_map.mpr ⟨y, hy, rfl⟩
        rw [hmap] at this; exact this
      have := List.all_eq_true.mp h11 y.1 hy'
      simp only [Bool.or_eq_true, Bool.and_eq_true, decide_eq_true_eq] at this
      rcases this with q | ⟨q1, q2⟩
      · exact .inl q
      · exact .inr ⟨q1, by rw [← q2]; exact lookup_isSome_names (nmE _)⟩
    · obtain ⟨hh, tk, rfl, -⟩ := X.done
      have x1 : Rp prog w hT B g os H { s with heap := hh, toks := tk } := x.ext X.toInCall.keep rfl rfl
      have fresh : ∀ p ∈ cellsFrom (s.heap.objs.size + 1) fd.scope.names [], H p.2 = none ∧ ∀ o, ¬ B p.2 o := fun p hp => by
        have hlt := X.above p.1 p.2 hp
        have hn : s.heap.get? p.2 = none := by
          cases q : s.heap.get? p.2 with
          | none => rfl
          | some o => exact absurd (Nat.lt_trans hlt (Heap.lt_size q)) (Nat.lt_irrefl _)
        exact x.fresh hn
      have ndl : ((cellsFrom (s.heap.objs.size + 1) fd.scope.names []).map (·.1)).Nodup := by rw [nmE]; exact hnd
      have x2 := rp_cells x1 (cm := bindC (callEnvC fd s.heap.objs.size f).kindOf (ps.zip vals) fun _ => none) (cs := cellsFrom (s.heap.objs.size + 1) fd.scope.names []) fun p hp => ⟨X.cell p.1 p.2 (lookup_of_mem_nodup ndl hp), (fresh p hp).2⟩
      have fL := x.fresh (get?_size s.heap)
      have nL : ∀ p ∈ cellsFrom (s.heap.objs.size + 1) fd.scope.names [], p.2 ≠ s.heap.objs.size := fun p hp e => by
        have := X.above p.1 p.2 hp
        rw [e] at this; exact Nat.lt_irrefl _ this
      have hm : (bindL (callEnvC fd s.heap.objs.size f).kindOf (ps.zip vals) fun _ => none) = lk (zs.map (·.1) ++ ls) (zs.map (fun p => some p.2) ++ ls.map fun _ => none) := by
        funext y
        rw [bindL_look _ _ _ (by rw [hmap]; exact h10), lk_look, ← hz]
        show Option.or _ none = _
        rw [Option.or_none]; rfl
      have hc : ∀ y, bindC (callEnvC fd s.heap.objs.size f).kindOf (ps.zip vals) (fun _ => none) y = zc.lookup y := fun y => by
        rw [bindC_look _ _ _ (by rw [hmap]; exact h10), ← hzc]
        show Option.or _ none = _
        rw [Option.or_none]; rfl
      have y : St prog w hT B g os s.heap.objs.size (lk (zs.map (·.1) ++ ls) (zs.map (fun p => some p.2) ++ ls.map fun _ => none)) (withCells H (bindC (callEnvC fd s.heap.objs.size f).kindOf (ps.zip vals) fun _ => none) (cellsFrom (s.heap.objs.size + 1) fd.scope.names [])) { s with heap := hh, toks := tk } :=
        ⟨x2, by rw [← hm]; exact X.toInCall.ns, by rw [withCells_at _ nL]; exact fL.1, fL.2⟩
      have FE : FnE hT (callEnvC fd s.heap.objs.size f) s.heap.objs.size (zs.map (·.1) ++ ls) gs (fs s.heap.objs.size) := by
        have := fnE_of (L := s.heap.objs.size) (cells := cellsFrom (s.heap.objs.size + 1) fd.scope.names []) (qual := fd.qualname ++ ".<locals>.") (f := some f) (code := fd.code) (fs := fs s.heap.objs.size) P h2 (by rw [hcn]; exact h3) (fun p hp => by rw [hfs]; exact lookup_of_mem_nodup (by rw [← hfs]; exact ndl) hp)
        unfold callEnvC
        rw [h4, h5]
        exact this
      refine wpAny_mono (h s.heap.objs.size _ _ _ rfl FE (R.deeper _) (fun a z e => ?_) (fun q hq => ?_) ?_ B g os _ y) (fun fl s' z => ?_) fun _ _ e => e.elim
      · rw [withCells_at]; exact e
        intro p hp q
        rw [← q, (fresh p hp).1] at e; cases e
      · rw [← hcv] at hq
        obtain ⟨p, hp, rfl⟩ := List.mem_map.mp hq
        rw [← hfs] at hp
        refine ⟨?_, (fresh p hp).1⟩
        have := withCells_get (H := H) (cm := bindC (callEnvC fd s.heap.objs.size f).kindOf (ps.zip vals) fun _ => none) (show (cellsFrom (s.heap.objs.size + 1) fd.scope.names []).Pairwise (fun x y => x.2 ≠ y.2) from X.apart) p hp
        rw [hc] at this
        exact this
      · rw [← hcv, List.pairwise_map, ← hfs]; exact X.apart
      · obtain ⟨m', H', y', q⟩ := z
        exact ⟨_, H', rfl, y'.rp, q⟩
  · cases hok
end

/-! part M20 -/
/-- the bag of told numbers: what was told so far is at most m -/
structure Bag (H : LH) (b l : Addr) (m : Int) : Prop where
  d : ∃ a t, 0 ≤ a ∧ a ≤ m ∧ H b = some ((0, 2, 0), .sdict [("all", .ref l), ("at", .int a t)])
  l : ∃ vs ns, H l = some ((0, 3, 0), .list vs) ∧ IntsAre vs ns ∧ vs.length ≤ 63
theorem Bag.keep {H H' : LH} {b l : Addr} {m : Int} (B : Bag H b l m) (k : ∀ a t c, H a = some (t, c) → t = (0, 2, 0) ∨ t = (0, 3, 0) → H' a = some (t, c)) : Bag H' b l m :=
  ⟨let ⟨a, t, h1, h2, h3⟩ := B.d; ⟨a, t, h1, h2, k _ _ _ h3 (.inl rfl)⟩, let ⟨vs, ns, h1, h2⟩ := B.l; ⟨vs, ns, k _ _ _ h1 (.inr rfl), h2⟩⟩
theorem bits_of {v : Int} (h : 0 ≤ v ∧ v ≤ 1000000) : Builtin.Int.intBits v ≤ 64 := by
  unfold Builtin.Int.intBits
  split
  · exact Nat.zero_le _
  · rename_i q
    have q' : v ≠ 0 := by simpa using q
    have : v.natAbs.log2 < 63 := (Nat.log2_lt (by lia)).mpr (by lia)
    (refine Nat.lt_succ_of_lt ?_; assumption)
theorem fmod_range {a b : Int} (h : 0 < b) : 0 ≤ a.fmod b ∧ a.fmod b < b := ⟨Int.fmod_nonneg_of_pos _ h, Int.fmod_lt_of_pos _ h⟩
section
variable {w : World} {hT : Heap} {A : Around} {L : Addr} {m : Loc} {H : LH} {n : Nat}
theorem s_all : ("all" : Str) ≠ ("at" : Str) := by decide +kernel
theorem va_all {v u : Value} : valueAt [(("all" : Str), v), (("at" : Str), u)] "all" = some v := by kernel_rfl
theorem va_at {v u : Value} : valueAt [(("all" : Str), v), (("at" : Str), u)] "at" = some u := by kernel_rfl
theorem st_at {v u z : Value} : stored [(("all" : Str), v), (("at" : Str), u)] "at" z = [(("all" : Str), v), (("at" : Str), z)] := by kernel_rfl

theorem c_told (P : Tp (KK w) hT) (R : Room (n + 1) A) {b l : Addr} {k many : Int} {t : Tok} {Q : Value → LH → Prop} (B : Bag H b l k) (hk : k ≤ 100000) (hm : 0 < many)
    (h : ∀ H' r u, 0 ≤ r → r < many → Bag H' b l (k + 1) → Keep1 b H H' → Q (.int r u) H') : C PG w hT A (.ref 451) ⟨[.ref b, .int many t], []⟩ H Q := by
  refine c_fn (ps := ["bag", "many"]) (ls := ["at"]) (gs := [("len", .builtin "len")]) (vals := [.ref b, .int many t]) (ns := ["bag", "many", "at"]) (vs := [some (.ref b), some (.int many t), none]) P R (by kernel_rfl) (by kernel_rfl) rfl fun L env A' he F R' => ?_
  obtain ⟨a, ta, h0, hak, hd⟩ := B.d
  obtain ⟨vs, ns, hl, hi, hz⟩ := B.l
  refine t_cons (t_assign_sub ?_)
  walk_at "gc"
  refine t_getitem_sdict hd va_at ?_
  walk_at "gc"
  refine t_setitem_sdict hd (by show 2 ≤ 1000; decide) ?_
  rw [st_at]
  rename_i t1 t2 t3 t4
  have ne : l ≠ b := ne_of_tag hl hd (by decide)
  have hd1 := upd_self H b ((0, 2, 0), Cell.sdict [("all", .ref l), ("at", .int (a + 1) t3)])
  have k1 : Keep1 b H (upd H b ((0, 2, 0), Cell.sdict [("all", .ref l), ("at", .int (a + 1) t3)])) := Keep1.upd _ _ _
  revert hd1 k1
  generalize upd H b ((0, 2, 0), Cell.sdict [("all", .ref l), ("at", .int (a + 1) t3)]) = H1
  intro hd1 k1
  have hl1 := k1 _ _ hl ne
  have B1 : Bag H1 b l (k + 1) := ⟨⟨_, _, by lia, by lia, hd1⟩, ⟨vs, ns, hl1, hi, hz⟩⟩
  refine t_cons (t_assign_name ?_)
  walk_at "gc"
  refine t_getitem_sdict hd1 va_at ?_
  refine t_store F (by walk_at "gc_put") ?_
  refine t_cons (t_if_ ?_)
  walk_at "gc"
  refine t_getitem_sdict hd1 va_all ?_
  walk_at "gc"
  refine ⟨keeps_builtin, t_len hl1 (by lia) fun _ => ?_⟩
  refine t_lei ?_
  walk_at "gc"
  refine ⟨fun c => ?_, fun c => t_nil ?_⟩
  · have hc : a + 1 ≤ vs.length := by simpa using c
    refine t_cons (t_ret ?_)
    walk_at "gc"
    refine t_getitem_sdict hd1 va_all ?_
    walk_at "gc"
    have hlt : (a + 1 - 1).toNat < vs.length := by lia
    refine t_item_list (v := vs[(a + 1 - 1).toNat]) hl1 (by omega) (by lia) (List.getElem?_eq_getElem hlt) ?_
    obtain ⟨tx, hx⟩ := ints_at hi _ _ (List.getElem?_eq_getElem hlt)
    rw [hx]
    walk_at "gc"
    refine t_mod (by (refine Int.ne_of_gt ?_; assumption)) fun _ => ?_
    exact h _ _ _ (fmod_range hm).1 (fmod_range hm).2 B1 k1
  · refine t_cons (t_ret ?_)
    walk_at "gc"
    refine t_mul (IntMulOk.of_left (by decide +kernel)) fun _ => ?_
    walk_at "gc"
    refine t_mul (IntMulOk.of_left (bits_of (by lia))) fun _ => ?_
    walk_at "gc"
    refine t_fdiv (by decide) (noPylong2 _) fun _ => ?_
    walk_at "gc"
    refine t_mod (by (refine Int.ne_of_gt ?_; assumption)) fun _ => ?_
    exact h _ _ _ (fmod_range hm).1 (fmod_range hm).2 B1 k1
end

/-! part M21 -/
noncomputable def asInts (l : List Nat) : List Int := l.map fun (i : Nat) => (i : Int)
/-- what is reached from the roots -/
inductive Reach (ed : Nat → List Nat) (ro : List Nat) : Nat → Prop
  | root {i} : i ∈ ro → Reach ed ro i
  | edge {i j} : Reach ed ro i → j ∈ ed i → Reach ed ro j
/-- the graph of the law, as it stands in the heap -/
structure Gr (H : LH) (n : Nat) (eA rA : Addr) (eL : Nat → Addr) (ed : Nat → List Nat) (ro : List Nat) : Prop where
  n9 : n ≤ 9
  e : H eA = some ((0, 4, 0), .list ((List.range n).map fun i => .ref (eL i)))
  el : ∀ i < n, ∃ vs, H (eL i) = some ((0, 5, i), .list vs) ∧ IntsAre vs (asInts (ed i)) ∧ vs.length ≤ 60
  r : ∃ vs, H rA = some ((0, 6, 0), .list vs) ∧ IntsAre vs (asInts ro) ∧ vs.length ≤ 60
  eb : ∀ i < n, ∀ j ∈ ed i, j < n
  rb : ∀ i ∈ ro, i < n
theorem Gr.keep {H H' : LH} {n : Nat} {eA rA : Addr} {eL : Nat → Addr} {ed : Nat → List Nat} {ro : List Nat} (G : Gr H n eA rA eL ed ro) (k : ∀ a t c, H a = some (t, c) → t.1 = 0 ∧ 4 ≤ t.2.1 ∧ t.2.1 ≤ 6 → H' a = some (t, c)) : Gr H' n eA rA eL ed ro :=
  ⟨G.n9, k _ _ _ G.e ⟨rfl, by decide, by decide⟩, fun i hi => let ⟨vs, a, b⟩ := G.el i hi; ⟨vs, k _ _ _ a ⟨rfl, (by decide : 4 ≤ 5), (by decide : 5 ≤ 6)⟩, b⟩, let ⟨vs, a, b⟩ := G.r; ⟨vs, k _ _ _ a ⟨rfl, by decide, by decide⟩, b⟩, G.eb, G.rb⟩
theorem mem_asInts {l : List Nat} {i : Nat} : ((i : Int) ∈ asInts l) ↔ i ∈ l := by
  unfold asInts
  rw [List.mem_map]
  constructor
  · rintro ⟨j, hj, e⟩
    have : j = i := by lia
    exact this ▸ hj
  · intro h; exact ⟨i, h, rfl⟩
theorem nodup_len {n : Nat} : ∀ {l : List Nat}, l.Nodup → (∀ i ∈ l, i < n) → l.length ≤ n := by
  intro l nd h
  have := List.Nodup.length_le_of_subset nd (fun i hi => List.mem_range.mpr (h i hi) : l ⊆ List.range n)
  rw [List.length_range] at this; exact this
section
variable {prog : Program} {w : World} {hT : Heap} {K : Frag} {A : Around} {L : Addr} {m : Loc} {H : LH}
theorem t_listList {l : Addr} {t : Tag} {vs : List Value} {Q : Value → Loc → LH → Prop} (hl : H l = some (t, .list vs)) (hz : vs.length ≤ 1000) (h : ∀ r, H r = none → Q (.ref r) m (upd H r (tmp, .list vs))) : T prog w hT A L (call (.type "list") [.ref l]) m H Q := fun B g os s y => by
  obtain ⟨n, e⟩ := list_at y.rp hl
  refine call_list_seq l (.inl rfl) e rfl rfl (fun h' c' k hS => ⟨m, _, y.new (a := s.heap.objs.size) (t := tmp) (c := .list vs) (get?_size _) k ⟨c', hS⟩ rfl rfl, h _ (y.rp.fresh (get?_size _)).1⟩) (by rw [List.size_toArray]; exact small_size hz)
end
theorem ints_append {vs us : List Value} {ns ms : List Int} (h : IntsAre vs ns) (g : IntsAre us ms) : IntsAre (vs ++ us) (ns ++ ms) := by
  induction h with
  | nil => exact g
  | cons a b _ ih => exact .cons _ _ ih
section
variable {w : World} {hT : Heap} {A : Around} {L : Addr} {m : Loc} {H : LH} {k : Nat}
theorem c_reached (P : Tp (KK w) hT) (R : Room (k + 9) A) {n : Nat} {eA rA : Addr} {eL : Nat → Addr} {ed : Nat → List Nat} {ro : List Nat} {Q : Value → LH → Prop} (G : Gr H n eA rA eL ed ro)
    (h : ∀ H' l vs al, Ext H H' → H l = none → H' l = some (tmp, .list vs) → IntsAre vs (asInts al) → al.Pairwise (· < ·) → (∀ i, i ∈ al ↔ Reach ed ro i) → Q (.ref l) H') : C PG w hT A (.ref 465) ⟨[.ref eA, .ref rA], []⟩ H Q := by
  refine c_fn (ps := ["edges", "roots"]) (ls := ["found", "waiting", "name"]) (gs := [("list", .type "list"), ("sorted", .builtin "sorted")]) (vals := [.ref eA, .ref rA]) (ns := ["edges", "roots", "found", "waiting", "name"]) (vs := [some (.ref eA), some (.ref rA), none, none, none]) P R (by kernel_rfl) (by kernel_rfl) rfl fun L env A' he F R' => ?_
  obtain ⟨rv, hr, hri, hrz⟩ := G.r
  refine t_cons (t_assignTupSw (t_tuple ?_) (swap2 F (by walk_at "gc_mem") (by walk_at "gc_mem") (by kernel_rfl)))
  walk_at "gc"
  refine t_list ?_
  walk_at "gc"
  refine ⟨Nat.le_of_ble_eq_true rfl, fun fA nf => ?_⟩
  walk_at "gc"
  have hr1 := Ext.new nf (tmp, .list []) _ _ hr
  refine ⟨keeps_type, t_listList hr1 (by lia) fun wA nw => ?_⟩
  walk_at "gc"
  refine ⟨Nat.le_of_ble_eq_true rfl, fun tA nt => ?_⟩
  refine t_unpackTup R'.h (upd_self _ _ _) rfl ?_
  refine t_ord_cons (t_bn (t_store F (by walk_at "gc_put") ?_))
  refine t_ord_cons (t_bn (t_store F (by walk_at "gc_put") ?_))
  refine t_ord_nil (ts := []) ?_
  have E0 := ((Ext.new nf (tmp, .list [])).trans (Ext.new nw (tmp, .list rv))).trans (Ext.new nt (tmp, .obj (tupObj [.ref fA, .ref wA])))
  have hf0 := ((Ext.new nw (tmp, .list rv)).trans (Ext.new nt (tmp, .obj (tupObj [.ref fA, .ref wA])))) _ _ (upd_self H fA (tmp, .list []))
  have hw0 := (Ext.new nt (tmp, .obj (tupObj [.ref fA, .ref wA]))) _ _ (upd_self (upd H fA (tmp, .list [])) wA (tmp, .list rv))
  have nwf : wA ≠ fA := fun e => by rw [e, upd_self] at nw; cases nw
  revert E0 hf0 hw0
  generalize upd (upd (upd H fA (tmp, .list [])) wA (tmp, .list rv)) tA (tmp, .obj (tupObj [.ref fA, .ref wA])) = H0
  intro E0 hf0 hw0
  have nw0 : H wA = none := (Ext.new nf (tmp, .list [])).none nw
  refine t_cons (t_while (fun q m' H' => Ex6 fun (wl : Addr) (fv wv : List Value) (f ws : List Nat) (c : Option Value) => And9 (m' = lk ["edges", "roots", "found", "waiting", "name"] [some (.ref eA), some (.ref rA), some (.ref fA), some (.ref wl), c]) (Ext H H') (wl ≠ fA ∧ H wl = none) (H' fA = some (tmp, .list fv)) (H' wl = some (tmp, .list wv))
      (IntsAre fv (asInts f) ∧ IntsAre wv (asInts ws)) (And3 f.Nodup (∀ i ∈ f, Reach ed ro i ∧ i < n) (∀ i ∈ ws, Reach ed ro i ∧ i < n)) ((∀ i ∈ f, ∀ j ∈ ed i, j ∈ f ∨ j ∈ ws) ∧ (∀ i ∈ ro, i ∈ f ∨ i ∈ ws)) (ws.length ≤ 60 + 60 * f.length ∧ q = (9 - f.length) * 100 + ws.length)) (900 + ro.length)
    ⟨wA, [], rv, [], ro, none, rfl, E0, ⟨nwf, nw0⟩, hf0, hw0, ⟨.nil, hri⟩, ⟨List.nodup_nil, fun i hi => (by cases hi), fun i hi => ⟨.root hi, G.rb i hi⟩⟩, ⟨fun i hi => (by cases hi), fun i hi => .inr hi⟩, ?_, ?_⟩ ?_)
  · have := hri.length
    unfold asInts at this
    rw [List.length_map] at this
    lia
  · simp
  rintro J q hJ m' H' ⟨wl, fv, wv, f, ws, c, rfl, ee, ⟨nwl, nwn⟩, hf, hw, ⟨hfi, hwi⟩, ⟨nd, hfr, hwr⟩, ⟨hcl, hro⟩, hwz, hq⟩
  have hfl : f.length ≤ 9 := Nat.le_trans (nodup_len nd fun i hi => (hfr i hi).2) G.n9
  have hwl : wv.length = ws.length := by rw [hwi.length]; exact List.length_map ..
  have hfvl : fv.length = f.length := by rw [hfi.length]; exact List.length_map ..
  walk_at "gc"
  refine t_list ?_
  walk_at "gc"
  refine ⟨Nat.le_of_ble_eq_true rfl, fun eN nn => ?_⟩
  have hf1 := Ext.new nn (tmp, .list []) _ _ hf
  have hw1 := Ext.new nn (tmp, .list []) _ _ hw
  have ee1 := ee.trans (Ext.new nn (tmp, .list []))
  refine t_neNil (n := k + 1) R' hw1 (upd_self _ _ _) (by lia) ?_
  revert hf1 hw1 ee1
  generalize upd H' eN (tmp, .list []) = H1
  intro hf1 hw1 ee1
  walk_at "gc"
  refine ⟨fun hc => ?_, fun hc => ?_⟩
  · have hne : ws ≠ [] := by
      intro e; rw [e] at hwl
      rw [List.length_eq_zero_iff.mp hwl] at hc; cases hc
    obtain ⟨ws', x, hws⟩ : ∃ l x, ws = l ++ [x] := ⟨_, _, (List.dropLast_concat_getLast hne).symm⟩
    subst hws
    have hwi' := hwi
    unfold asInts at hwi'
    rw [List.map_append] at hwi'
    obtain ⟨wv', tx, rfl, hwi2⟩ := IntsAre.last hwi'
    have hx := hwr x (List.mem_append_right _ List.mem_cons_self)
    rw [List.length_append, List.length_singleton] at hwz hwl hq
    rw [List.length_append, List.length_singleton] at hwl
    refine t_cons (t_assign_name ?_)
    walk_at "gc"
    refine t_methodList hw1 PySem.F.slot_list_pop ty_pop ?_
    walk_at "gc"
    refine ⟨keeps_builtin, t_call (c_popLast hw1 (by lia) ?_)⟩
    refine t_store F (by walk_at "gc_put") ?_
    have upx : ∀ (H2 : LH) (a : Addr) y, H a = none → Ext H H2 → Ext H (upd H2 a y) := fun H2 a y hn e b z q => by
      have : b ≠ a := fun z => by rw [z, hn] at q; cases q
      rw [upd_ne _ _ this]; exact e b z q
    have ee2 := upx H1 wl (tmp, .list wv') nwn ee1
    have hf2 : upd H1 wl (tmp, .list wv') fA = some (tmp, .list fv) := by rw [upd_ne _ _ nwl.symm]; exact hf1
    have hw2 := upd_self H1 wl (tmp, Cell.list wv')
    revert ee2 hf2 hw2
    generalize upd H1 wl (tmp, Cell.list wv') = H2
    intro ee2 hf2 hw2
    refine t_cons (t_if_ ?_)
    walk_at "gc"
    refine t_notInInts hf2 hfi ?_
    walk_at "gc"
    have hcon : (asInts f).contains (x : Int) = decide (x ∈ f) := by
      rw [Bool.eq_iff_iff, List.contains_iff_mem, mem_asInts, decide_eq_true_iff]
    rw [hcon]
    refine ⟨fun hn => ?_, fun hn => ?_⟩
    · have hxf : x ∉ f := by simpa using hn
      have hfl8 : f.length + 1 ≤ 9 := by
        have := nodup_len (List.nodup_cons.mpr ⟨hxf, nd⟩) (n := n) fun i hi => by
          rcases List.mem_cons.mp hi with rfl | hi
          · exact hx.2
          · exact (hfr i hi).2
        rw [List.length_cons] at this
        exact Nat.le_trans this G.n9
      refine t_cons (t_exprF F ?_)
      walk_at "gc"
      refine t_methodList hf2 PySem.F.slot_list_append ty_append ?_
      walk_at "gc"
      refine ⟨keeps_builtin, t_call (c_append hf2 (by lia) ?_)⟩
      have nf0 : H fA = none := nf
      have ee3 := upx H2 fA (tmp, .list (fv ++ [.int (x : Int) tx])) nf0 ee2
      have hf3 := upd_self H2 fA (tmp, Cell.list (fv ++ [.int (x : Int) tx]))
      have hw3 : upd H2 fA (tmp, .list (fv ++ [.int (x : Int) tx])) wl = some (tmp, .list wv') := by rw [upd_ne _ _ nwl]; exact hw2
      revert ee3 hf3 hw3
      generalize upd H2 fA (tmp, Cell.list (fv ++ [.int (x : Int) tx])) = H3
      intro ee3 hf3 hw3
      obtain ⟨ev, hev, hei, hez⟩ := G.el x hx.2
      refine t_cons (t_assign_name ?_)
      walk_at "gc"
      refine t_item_list (v := .ref (eL x)) (ee3 _ _ G.e) (by rw [List.length_map, List.length_range]; have := G.n9; lia) (by show (0 : Int) ≤ (x : Int); lia) (by
        show ((List.range n).map fun i => Value.ref (eL i))[((x : Int)).toNat]? = _
        rw [List.getElem?_map, show ((x : Int).toNat) = x from Int.toNat_natCast x, List.getElem?_range hx.2]; rfl) ?_
      have hevl : ev.length = (ed x).length := by rw [hei.length]; exact List.length_map ..
      refine t_addLists hw3 (ee3 _ _ hev) (by lia) (by lia) fun wl' nw' => ?_
      refine t_store F (by walk_at "gc_put") ?_
      refine t_nil (t_nil (hJ ((9 - (f ++ [x]).length) * 100 + (ws' ++ ed x).length) _ _ ?_ ⟨wl', _, _, f ++ [x], ws' ++ ed x, _, rfl, ee3.trans (Ext.new nw' _), ⟨ne_of_none nw' hf3, ee3.none nw'⟩, Ext.new nw' _ _ _ hf3, upd_self _ _ _, ⟨?_, ?_⟩, ⟨?_, ?_, ?_⟩, ⟨?_, ?_⟩, ?_, rfl⟩))
      · rw [List.length_append, List.length_append, List.length_singleton]; lia
      · have := ints_append hfi (.cons (x : Int) tx .nil)
        unfold asInts at *
        rw [List.map_append]; exact this
      · have := ints_append hwi2 hei
        unfold asInts at *
        rw [List.map_append]; exact this
      · rw [List.nodup_append]
        exact ⟨nd, List.nodup_cons.mpr ⟨fun h => (by cases h), List.nodup_nil⟩, fun a ha b hb e => hxf (by rw [List.mem_singleton] at hb; rw [← hb, ← e]; exact ha)⟩
      · intro i hi
        rcases List.mem_append.mp hi with q | q
        · exact hfr i q
        · rw [List.mem_singleton] at q; rw [q]; exact hx
      · intro i hi
        rcases List.mem_append.mp hi with q | q
        · exact hwr i (List.mem_append_left _ q)
        · exact ⟨.edge hx.1 q, G.eb x hx.2 i q⟩
      · intro i hi j hj
        rcases List.mem_append.mp hi with q | q
        · rcases hcl i q j hj with z | z
          · exact .inl (List.mem_append_left _ z)
          · rcases List.mem_append.mp z with z | z
            · exact .inr (List.mem_append_left _ z)
            · rw [List.mem_singleton] at z; exact .inl (List.mem_append_right _ (by rw [z]; exact List.mem_cons_self))
        · rw [List.mem_singleton] at q; rw [q] at hj; exact .inr (List.mem_append_right _ hj)
      · intro i hi
        rcases hro i hi with z | z
        · exact .inl (List.mem_append_left _ z)
        · rcases List.mem_append.mp z with z | z
          · exact .inr (List.mem_append_left _ z)
          · rw [List.mem_singleton] at z; exact .inl (List.mem_append_right _ (by rw [z]; exact List.mem_cons_self))
      · rw [List.length_append, List.length_append, List.length_singleton]; lia
    · have hxf : x ∈ f := by simpa using hn
      refine t_nil (t_nil (hJ ((9 - f.length) * 100 + ws'.length) _ _ (by lia) ⟨wl, fv, wv', f, ws', _, rfl, ee2, ⟨nwl, nwn⟩, hf2, hw2, ⟨hfi, hwi2⟩, ⟨nd, hfr, fun i hi => hwr i (List.mem_append_left _ hi)⟩, ⟨fun i hi j hj => ?_, fun i hi => ?_⟩, by (refine Nat.le_of_lt ?_; assumption), rfl⟩))
      · rcases hcl i hi j hj with z | z
        · exact .inl z
        · rcases List.mem_append.mp z with z | z
          · exact .inr z
          · rw [List.mem_singleton] at z; rw [z]; exact .inl hxf
      · rcases hro i hi with z | z
        · exact .inl z
        · rcases List.mem_append.mp z with z | z
          · exact .inr z
          · rw [List.mem_singleton] at z; rw [z]; exact .inl hxf
  · have hwe : ws = [] := by
      cases ws with
      | nil => rfl
      | cons a b =>
        cases wv with
        | nil => cases hwl
        | cons => cases hc
    subst hwe
    refine t_cons (t_ret ?_)
    walk_at "gc"
    refine ⟨keeps_builtin, t_sorted hf1 hfi (by lia) fun l vs' ns' nl hvi hp hs => ?_⟩
    have hmem : ∀ i, i ∈ f ↔ Reach ed ro i := fun i => by
      constructor
      · intro hi; exact (hfr i hi).1
      · intro hr
        induction hr with
        | root hi => exact (hro _ hi).elim id fun z => (by cases z)
        | edge _ hj ih => exact (hcl _ ih _ hj).elim id fun z => (by cases z)
    have hpos : ∀ x ∈ ns', 0 ≤ x := fun x hx => by
      have := hp.mem_iff.mp hx
      unfold asInts at this
      obtain ⟨j, _, rfl⟩ := List.mem_map.mp this
      lia
    have hal : asInts (ns'.map Int.toNat) = ns' := by
      unfold asInts
      rw [List.map_map]
      conv => rhs; rw [← List.map_id ns']
      apply List.map_congr_left
      intro x hx
      have := hpos x hx
      show ((x.toNat : Nat) : Int) = id x
      simp only [id]; lia
    have hndi : ns'.Nodup := hp.nodup_iff.mpr (by
      unfold asInts
      refine List.Pairwise.map _ ?_ nd
      intro a b hab e; exact hab (by lia))
    refine h _ l vs' (ns'.map Int.toNat) (ee1.trans (Ext.new nl _)) (ee1.none nl) (upd_self _ _ _) (by rw [hal]; exact hvi) ?_ fun i => ?_
    · rw [List.pairwise_map]
      have both := List.Pairwise.and hs hndi
      refine List.Pairwise.imp_of_mem ?_ both
      intro a b ha hb q
      have := hpos a ha
      have := hpos b hb
      lia
    · rw [← hmem i, ← mem_asInts, hal, hp.mem_iff, mem_asInts]
end

/-! part P2 -/
/-! the plain law: marking -/
/-- how a mark may move while marking -/
noncomputable def Mv (a b : Nat → Int) : Prop := ∀ i, b i = a i ∨ ((a i < 2 ∨ a i = 2 ∨ a i = 3) ∧ (b i = 2 ∨ b i = 3))
theorem Mv.refl (a : Nat → Int) : Mv a a := fun _ => .inl rfl
theorem Mv.trans {a b c : Nat → Int} (h : Mv a b) (g : Mv b c) : Mv a c := fun i => by
  rcases h i with e | e <;> rcases g i with e' | e' <;> lia
theorem Mv.setM {a : Nat → Int} {x : Nat} {v : Int} (h : a x < 2 ∨ a x = 2 ∨ a x = 3) (hv : v = 2 ∨ v = 3) : Mv a (Gc.setM a x v) := fun i => by
  by_cases q : i = x
  · subst q; rw [setM_self]; exact .inr ⟨h, hv⟩
  · rw [setM_ne _ _ q]; exact .inl rfl
theorem Mv.up {a b : Nat → Int} (h : Mv a b) {i : Nat} (g : ¬ a i < 2) : ¬ b i < 2 := by rcases h i with e | e <;> lia
theorem Mv.four {a b : Nat → Int} (h : Mv a b) (i : Nat) : a i = 4 ↔ b i = 4 := by rcases h i with e | e <;> lia
theorem MarksR.mv {W : Wd} {E : Nat → List Nat} {l : List Nat} {σ σ' : Sg} (a : MarksR W E l σ σ') : Mv σ.mark σ'.mark := by
  induction a with
  | nil => exact Mv.refl _
  | skip _ _ ih => exact ih
  | leaf h1 h2 h3 _ ih => exact (Mv.setM (.inl h2) (.inr rfl)).trans ih
  | push h1 h2 h3 _ ih => exact (Mv.setM (.inl h2) (.inl rfl)).trans ih
theorem MarksR.done {W : Wd} {E : Nat → List Nat} {l : List Nat} {σ σ' : Sg} (a : MarksR W E l σ σ') : ∀ x ∈ l, ¬ σ'.mark x < 2 := by
  induction a with
  | nil => intro x h; cases h
  | skip h r ih =>
    intro y hy
    rcases List.mem_cons.mp hy with e | e
    · subst e; exact r.mv.up h
    · exact ih y e
  | leaf h1 h2 h3 r ih =>
    intro y hy
    rcases List.mem_cons.mp hy with e | e
    · subst e; exact r.mv.up (by dsimp only; rw [setM_self]; decide)
    · exact ih y (List.mem_append_right _ e)
  | push h1 h2 h3 r ih =>
    intro y hy
    rcases List.mem_cons.mp hy with e | e
    · subst e; exact r.mv.up (by dsimp only; rw [setM_self]; decide)
    · exact ih y e
/-- three colours; the children that are still to be marked are pending -/
structure Tri (E : Nat → List Nat) (p : List Nat) (σ : Sg) : Prop where
  g : ∀ i, i ∈ σ.grey ∨ i ∈ σ.again → σ.mark i = 2 ∨ σ.mark i = 3
  t1 : ∀ i, σ.mark i = 2 → i ∈ σ.grey ∨ i ∈ σ.again
  t2 : ∀ i, σ.mark i = 3 → ∀ j ∈ E i, ¬ σ.mark j < 2 ∨ j ∈ p
/-- the children of those that wait again are looked at -/
noncomputable def T3 (E : Nat → List Nat) (p : List Nat) (σ : Sg) : Prop := ∀ i ∈ σ.again, ∀ j ∈ E i, ¬ σ.mark j < 2 ∨ j ∈ p
theorem Tri.leaf {E : Nat → List Nat} {p q : List Nat} {σ : Sg} {x : Nat} (h : Tri E p σ) (hp : ∀ j ∈ p, j = x ∨ j ∈ q) (hq : ∀ j ∈ E x, j ∈ q) : Tri E q { σ with mark := setM σ.mark x 3 } where
  g := fun i hi => by
    dsimp only
    by_cases e : i = x
    · subst e; rw [setM_self]; exact .inr rfl
    · rw [setM_ne _ _ e]; exact h.g i hi
  t1 := fun i hi => by
    dsimp only at hi ⊢
    by_cases e : i = x
    · subst e; rw [setM_self] at hi; exact absurd hi (by decide)
    · rw [setM_ne _ _ e] at hi; exact h.t1 i hi
  t2 := fun i hi j hj => by
    dsimp only at hi ⊢
    by_cases ej : j = x
    · subst ej; rw [setM_self]; exact .inl (by decide)
    rw [setM_ne _ _ ej]
    by_cases e : i = x
    · subst e; exact .inr (hq j hj)
    · rw [setM_ne _ _ e] at hi
      rcases h.t2 i hi j hj with z | z
      · exact .inl z
      · exact .inr ((hp j z).elim (fun z => absurd z ej) id)
theorem Tri.push {E : Nat → List Nat} {p q : List Nat} {σ : Sg} {x : Nat} (h : Tri E p σ) (hp : ∀ j ∈ p, j = x ∨ j ∈ q) : Tri E q { σ with mark := setM σ.mark x 2, grey := σ.grey ++ [x] } where
  g := fun i hi => by
    dsimp only at hi ⊢
    by_cases e : i = x
    · subst e; rw [setM_self]; exact .inl rfl
    · rw [setM_ne _ _ e]
      refine h.g i ?_
      rcases hi with hi | hi
      · rcases List.mem_append.mp hi with z | z
        · exact .inl z
        · exact absurd (List.mem_singleton.mp z) e
      · exact .inr hi
  t1 := fun i hi => by
    dsimp only at hi ⊢
    by_cases e : i = x
    · subst e; exact .inl (List.mem_append_right _ List.mem_cons_self)
    · rw [setM_ne _ _ e] at hi
      rcases h.t1 i hi with z | z
      · exact .inl (List.mem_append_left _ z)
      · exact .inr z
  t2 := fun i hi j hj => by
    dsimp only at hi ⊢
    by_cases ej : j = x
    · subst ej; rw [setM_self]; exact .inl (by decide)
    rw [setM_ne _ _ ej]
    by_cases e : i = x
    · subst e; rw [setM_self] at hi; exact absurd hi (by decide)
    · rw [setM_ne _ _ e] at hi
      rcases h.t2 i hi j hj with z | z
      · exact .inl z
      · exact .inr ((hp j z).elim (fun z => absurd z ej) id)
theorem T3.set {E : Nat → List Nat} {p q : List Nat} {σ : Sg} {x : Nat} {v : Int} {gr : List Nat} (h : T3 E p σ) (hp : ∀ j ∈ p, j = x ∨ j ∈ q) (hv : ¬ v < 2) : T3 E q { σ with mark := setM σ.mark x v, grey := gr } := fun i hi j hj => by
  dsimp only
  by_cases ej : j = x
  · subst ej; rw [setM_self]; exact .inl hv
  rw [setM_ne _ _ ej]
  rcases h i hi j hj with z | z
  · exact .inl z
  · exact .inr ((hp j z).elim (fun z => absurd z ej) id)
theorem Tri.drop {E : Nat → List Nat} {p q : List Nat} {σ : Sg} (h : Tri E p σ) (hp : ∀ j ∈ p, ¬ σ.mark j < 2 ∨ j ∈ q) : Tri E q σ := ⟨h.g, h.t1, fun i hi j hj => (h.t2 i hi j hj).elim .inl (hp j)⟩
theorem T3.drop {E : Nat → List Nat} {p q : List Nat} {σ : Sg} (h : T3 E p σ) (hp : ∀ j ∈ p, ¬ σ.mark j < 2 ∨ j ∈ q) : T3 E q σ := fun i hi j hj => (h i hi j hj).elim .inl (hp j)
theorem MarksR.tri {W : Wd} {E : Nat → List Nat} {l : List Nat} {σ σ' : Sg} (a : MarksR W E l σ σ') : (Tri E l σ → Tri E [] σ') ∧ (T3 E l σ → T3 E [] σ') := by
  induction a with
  | nil => exact ⟨id, id⟩
  | @skip σ σ' x l h r ih =>
    have hp : ∀ j ∈ x :: l, ¬ σ.mark j < 2 ∨ j ∈ l := fun j hj => (List.mem_cons.mp hj).elim (fun e => .inl (e ▸ h)) .inr
    exact ⟨fun t => ih.1 (t.drop hp), fun t => ih.2 (t.drop hp)⟩
  | @leaf σ σ' x l h1 h2 h3 r ih =>
    have hp : ∀ j ∈ x :: l, j = x ∨ j ∈ E x ++ l := fun j hj => (List.mem_cons.mp hj).elim .inl fun e => .inr (List.mem_append_right _ e)
    exact ⟨fun t => ih.1 (t.leaf hp fun j hj => List.mem_append_left _ hj), fun t => ih.2 (t.set hp (by decide))⟩
  | @push σ σ' x l h1 h2 h3 r ih =>
    have hp : ∀ j ∈ x :: l, j = x ∨ j ∈ l := fun j hj => List.mem_cons.mp hj
    exact ⟨fun t => ih.1 (t.push hp), fun t => ih.2 (t.set hp (by decide))⟩
/-- all that is marked lies in P -/
noncomputable def Up (P : Nat → Prop) (σ : Sg) : Prop := ∀ i, σ.mark i = 2 ∨ σ.mark i = 3 → P i
theorem MarksR.up {W : Wd} {E : Nat → List Nat} {P : Nat → Prop} (hc : ∀ i, P i → ∀ j ∈ E i, P j) {l : List Nat} {σ σ' : Sg} (a : MarksR W E l σ σ') : (∀ x ∈ l, P x) → Up P σ → Up P σ' := by
  induction a with
  | nil => exact fun _ => id
  | skip h r ih => exact fun hl => ih fun x hx => hl x (List.mem_cons_of_mem _ hx)
  | @leaf σ σ' x l h1 h2 h3 r ih =>
    intro hl hu
    have hx := hl x List.mem_cons_self
    refine ih (fun y hy => ?_) fun i hi => ?_
    · rcases List.mem_append.mp hy with z | z
      · exact hc x hx y z
      · exact hl y (List.mem_cons_of_mem _ z)
    · dsimp only at hi
      by_cases e : i = x
      · exact e ▸ hx
      · rw [setM_ne _ _ e] at hi; exact hu i hi
  | @push σ σ' x l h1 h2 h3 r ih =>
    intro hl hu
    have hx := hl x List.mem_cons_self
    refine ih (fun y hy => hl y (List.mem_cons_of_mem _ hy)) fun i hi => ?_
    dsimp only at hi
    by_cases e : i = x
    · exact e ▸ hx
    · rw [setM_ne _ _ e] at hi; exact hu i hi
theorem PropR.tri {W : Wd} {E : Nat → List Nat} {σ σ' : Sg} (a : PropR W E σ σ') (t : Tri E [] σ) : Tri E [] σ' ∧ Mv σ.mark σ'.mark ∧ (T3 E [] σ → T3 E [] σ') ∧ (∀ P : Nat → Prop, (∀ i, P i → ∀ j ∈ E i, P j) → Up P σ → Up P σ') := by
  cases a with
  | plain h1 h2 h3 r =>
    rename_i l x
    have hx : x ∈ σ.grey := by rw [h1]; exact List.mem_append_right _ List.mem_cons_self
    have hg := t.g x (.inl hx)
    have t0 : Tri E (E x) { σ with grey := l, mark := setM σ.mark x 3 } := by
      have t' := t.leaf (q := E x) (x := x) (fun j hj => (by cases hj)) fun j hj => hj
      refine ⟨fun i hi => t'.g i ?_, fun i hi => ?_, t'.t2⟩
      · rcases hi with hi | hi
        · exact .inl (by rw [h1]; exact List.mem_append_left _ hi)
        · exact .inr hi
      · rcases t'.t1 i hi with z | z
        · dsimp only at z
          rw [h1] at z
          rcases List.mem_append.mp z with z | z
          · exact .inl z
          · rw [List.mem_singleton] at z
            subst z
            dsimp only at hi
            rw [setM_self] at hi
            exact absurd hi (by decide)
        · exact .inr z
    have mv : Mv σ.mark (setM σ.mark x 3) := Mv.setM (by lia) (.inr rfl)
    refine ⟨r.tri.1 t0, mv.trans r.mv, fun t3 => r.tri.2 (t3.set (gr := l) (fun j hj => (by cases hj)) (by decide)), fun P hc hu => r.up hc (hc x (hu x hg)) fun i hi => ?_⟩
    dsimp only at hi
    by_cases e : i = x
    · exact e ▸ hu x hg
    · rw [setM_ne _ _ e] at hi; exact hu i hi
  | again h1 h2 h3 r =>
    rename_i l x
    have hx : x ∈ σ.grey := by rw [h1]; exact List.mem_append_right _ List.mem_cons_self
    have hg := t.g x (.inl hx)
    have mv : Mv σ.mark (setM σ.mark x 2) := Mv.setM (by omega) (.inl rfl)
    have t0 : Tri E (E x) { σ with grey := l, mark := setM σ.mark x 2, again := σ.again ++ [x] } := by
      refine ⟨fun i hi => ?_, fun i hi => ?_, fun i hi j hj => ?_⟩
      · dsimp only at hi ⊢
        by_cases e : i = x
        · subst e; rw [setM_self]; exact .inl rfl
        · rw [setM_ne _ _ e]
          refine t.g i ?_
          rcases hi with hi | hi
          · exact .inl (by rw [h1]; exact List.mem_append_left _ hi)
          · rcases List.mem_append.mp hi with z | z
            · exact .inr z
            · exact absurd (List.mem_singleton.mp z) e
      · dsimp only at hi ⊢
        by_cases e : i = x
        · subst e; exact .inr (List.mem_append_right _ List.mem_cons_self)
        · rw [setM_ne _ _ e] at hi
          rcases t.t1 i hi with z | z
          · rw [h1] at z
            rcases List.mem_append.mp z with z | z
            · exact .inl z
            · exact absurd (List.mem_singleton.mp z) e
          · exact .inr (List.mem_append_left _ z)
      · dsimp only at hi ⊢
        by_cases e : i = x
        · subst e; rw [setM_self] at hi; exact absurd hi (by decide)
        · rw [setM_ne _ _ e] at hi
          rcases t.t2 i hi j hj with z | z
          · exact .inl (mv.up z)
          · cases z
    refine ⟨r.tri.1 t0, mv.trans r.mv, fun t3 => r.tri.2 fun i hi j hj => ?_, fun P hc hu => r.up hc (hc x (hu x hg)) fun i hi => ?_⟩
    · dsimp only at hi ⊢
      rcases List.mem_append.mp hi with z | z
      · rcases t3 i z j hj with y | y
        · exact .inl (mv.up y)
        · cases y
      · rw [List.mem_singleton] at z; subst z; exact .inr hj
    · dsimp only at hi
      by_cases e : i = x
      · exact e ▸ hu x hg
      · rw [setM_ne _ _ e] at hi; exact hu i hi
theorem PropAllR.tri {W : Wd} {E : Nat → List Nat} {σ σ' : Sg} (a : PropAllR W E σ σ') (t : Tri E [] σ) : Tri E [] σ' ∧ Mv σ.mark σ'.mark ∧ (T3 E [] σ → T3 E [] σ') ∧ (∀ P : Nat → Prop, (∀ i, P i → ∀ j ∈ E i, P j) → Up P σ → Up P σ') ∧ σ'.grey = [] := by
  induction a with
  | done e => exact ⟨t, Mv.refl _, id, fun _ _ => id, e⟩
  | step p _ ih =>
    obtain ⟨a1, a2, a3, a4⟩ := p.tri t
    obtain ⟨b1, b2, b3, b4, b5⟩ := ih a1
    exact ⟨b1, a2.trans b2, fun z => b3 (a3 z), fun P hc hu => b4 P hc (a4 P hc hu), b5⟩
/-- all marked things have marked children -/
noncomputable def Shut (E : Nat → List Nat) (σ : Sg) : Prop := ∀ i, σ.mark i = 2 ∨ σ.mark i = 3 → ∀ j ∈ E i, ¬ σ.mark j < 2
theorem Tri.shut {E : Nat → List Nat} {σ : Sg} (t : Tri E [] σ) (t3 : T3 E [] σ) (g : σ.grey = []) : Shut E σ := fun i hi j hj => by
  rcases hi with hi | hi
  · rcases t.t1 i hi with z | z
    · rw [g] at z; cases z
    · exact (t3 i z j hj).elim id fun y => (by cases y)
  · exact (t.t2 i hi j hj).elim id fun y => (by cases y)
theorem FinishR.tri {W : Wd} {E : Nat → List Nat} {σ σ' : Sg} (a : FinishR W E σ σ') (h : Vl W σ) (t : Tri E [] σ) : Tri E [] σ' ∧ T3 E [] σ' ∧ σ'.grey = [] ∧ Mv σ.mark σ'.mark ∧ (∀ x ∈ σ.rootl, ¬ σ'.mark x < 2) ∧ (∀ P : Nat → Prop, (∀ i, P i → ∀ j ∈ E i, P j) → (∀ x ∈ σ.rootl, P x) → Up P σ → Up P σ') := by
  cases a with
  | mk r1 r2 r3 r4 =>
    rename_i σ1 σ3 σ4 a1 b1 a2 b2
    obtain ⟨t1, m1, _, u1, g1⟩ := r1.tri t
    have er : σ1.rootl = σ.rootl := by rw [(r1.le h).2.2.2]
    have t1' : Tri E σ1.rootl { σ1 with grey := [], greyA := a1, weakA := b1 } := by
      refine ⟨fun i hi => t1.g i ?_, fun i hi => ?_, fun i hi j hj => (t1.t2 i hi j hj).elim .inl fun z => (by cases z)⟩
      · exact hi.elim (fun z => (by cases z)) .inr
      · have := t1.t1 i hi; rw [g1] at this; exact this
    have t2 := r2.tri.1 t1'
    obtain ⟨t3, m3, _, u3, g3⟩ := r3.tri t2
    have t3' : Tri E [] { σ4 with grey := σ4.again, again := [], greyA := a2, againA := b2 } := by
      refine ⟨fun i hi => t3.g i ?_, fun i hi => ?_, t3.t2⟩
      · exact hi.elim .inr fun z => (by cases z)
      · rcases t3.t1 i hi with z | z
        · rw [g3] at z; cases z
        · exact .inl z
    obtain ⟨t4, m4, k4, u4, g4⟩ := r4.tri t3'
    have hm34 : Mv σ3.mark σ'.mark := m3.trans m4
    refine ⟨t4, k4 fun i hi => (by cases hi), g4, (m1.trans r2.mv).trans hm34, fun x hx => hm34.up (r2.done x (er ▸ hx)), fun P hc hr hu => u4 P hc (u3 P hc (r2.up hc (fun x hx => hr x (er ▸ hx)) (u1 P hc hu)))⟩
theorem KeepR.tri {W : Wd} {E : Nat → List Nat} {l : List Nat} {σ σ' : Sg} (a : KeepR W E l σ σ') (hw : σ.white < 2) : (∀ x ∈ l, σ.mark x ≠ 4) → (∀ i, σ.mark i < 2 ∨ σ.mark i = 2 ∨ σ.mark i = 3 ∨ σ.mark i = 4) → Tri E [] σ → T3 E [] σ → Tri E [] σ' ∧ T3 E [] σ' ∧ Mv σ.mark σ'.mark ∧ (∀ x ∈ l, ¬ σ'.mark x < 2) := by
  induction a with
  | nil => exact fun _ _ t t3 => ⟨t, t3, Mv.refl _, fun x hx => (by cases hx)⟩
  | @cons σ σ1 σ' x l hx r k ih =>
    intro hl hr t t3
    have h4 := hl x List.mem_cons_self
    have hwt : setM σ.mark x σ.white x < 2 := by rw [setM_self]; exact hw
    have hdone := r.done x List.mem_cons_self
    have eset : ∀ v : Int, setM (setM σ.mark x σ.white) x v = setM σ.mark x v := fun v => by funext j; unfold setM; split <;> rfl
    have hlow : σ.mark x < 2 ∨ σ.mark x = 2 ∨ σ.mark x = 3 := by have := hr x; lia
    have key : Tri E [] σ1 ∧ T3 E [] σ1 ∧ Mv σ.mark σ1.mark := by
      cases r with
      | skip h r => exact absurd hwt h
      | leaf h1 h2 h3 r =>
        dsimp only at r
        rw [eset, List.append_nil] at r
        have t' := t.leaf (q := E x) (x := x) (fun j hj => (by cases hj)) fun j hj => hj
        exact ⟨r.tri.1 t', r.tri.2 (t3.set (gr := σ.grey) (fun j hj => (by cases hj)) (by decide)), (Mv.setM hlow (.inr rfl)).trans r.mv⟩
      | push h1 h2 h3 r =>
        dsimp only at r
        rw [eset] at r
        have t' := t.push (q := []) (x := x) (fun j hj => (by cases hj))
        exact ⟨r.tri.1 t', r.tri.2 (t3.set (fun j hj => (by cases hj)) (by decide)), (Mv.setM hlow (.inl rfl)).trans r.mv⟩
    obtain ⟨k1, k2, k3⟩ := key
    have ew : σ1.white = σ.white := by rw [r.same]
    obtain ⟨c1, c2, c3, c4⟩ := ih (by rw [ew]; exact hw) (fun y hy e => hl y (List.mem_cons_of_mem _ hy) ((k3.four y).mpr e)) (fun i => by have := hr i; rcases k3 i with e | e <;> lia) k1 k2
    refine ⟨c1, c2, k3.trans c3, fun y hy => ?_⟩
    rcases List.mem_cons.mp hy with e | e
    · subst e; exact c3.up hdone
    · exact c4 y e

/-! part P3 -/
/-! the plain law: what is kept in every state -/
noncomputable def gone (σ : Sg) (i : Nat) : Prop := σ.mark i = 4 ∨ (σ.phase = 2 ∧ σ.mark i = 1 - σ.white)
structure Good (W : Wd) (E : Nat → List Nat) (told : List Nat) (σ : Sg) : Prop where
  wi : WI W σ
  wh : σ.white = 0 ∨ σ.white = 1
  mem : ∀ i, i ∈ σ.objs ↔ σ.mark i ≠ 4
  rng : ∀ i, σ.mark i = 4 ∨ σ.mark i = 2 ∨ σ.mark i = 3 ∨ σ.mark i = σ.white ∨ (σ.phase = 2 ∧ σ.mark i = 1 - σ.white)
  live : ∀ i, Reach E σ.rootl i → ¬ gone σ i
  p03 : σ.phase = 0 ∨ σ.phase = 3 → ∀ i, σ.mark i = 4 ∨ σ.mark i = σ.white
  p1 : σ.phase = 1 → σ.tofin = [] ∧ Tri E [] σ
  p2 : σ.phase = 2 → σ.sweep = σ.objs
  fin : ∀ i ∈ σ.tofin, ¬ gone σ i
  fz : ∀ i, σ.fz i = true → ¬ Reach E σ.rootl i
  lost : ∀ i < W.n, W.kind i ≠ 0 → gone σ i → σ.fz i = true
  dat : ∀ i < W.n, W.kind i ≠ 0 → σ.fz i = false → i ∈ σ.datas
  asc : σ.datas.Pairwise (fun i j => σ.fz i = false → σ.fz j = false → i < j)
  desc : σ.tofin.Pairwise (fun i j => j < i)
  nd : (told ++ σ.tofin).Nodup
  told : ∀ i, i ∈ told ++ σ.tofin ↔ i < W.n ∧ W.kind i = 1 ∧ σ.fz i = true

/-- what marking leaves as it is -/
structure Eqs (σ σ' : Sg) : Prop where
  objs : σ'.objs = σ.objs
  rootl : σ'.rootl = σ.rootl
  white : σ'.white = σ.white
  phase : σ'.phase = σ.phase
  fz : σ'.fz = σ.fz
  datas : σ'.datas = σ.datas
  tofin : σ'.tofin = σ.tofin
  sweep : σ'.sweep = σ.sweep
  cycles : σ'.cycles = σ.cycles
theorem Eqs.mk' {σ : Sg} {a : Nat → Int} {b c : List Nat} {d e f : Addr} : Eqs σ { σ with mark := a, grey := b, again := c, greyA := d, againA := e, weakA := f } := ⟨rfl, rfl, rfl, rfl, rfl, rfl, rfl, rfl, rfl⟩
theorem MarksR.eqs {W : Wd} {E : Nat → List Nat} {l : List Nat} {σ σ' : Sg} (a : MarksR W E l σ σ') : Eqs σ σ' := by
  rw [a.same]; exact Eqs.mk'
theorem PropR.eqs {W : Wd} {E : Nat → List Nat} {σ σ' : Sg} (a : PropR W E σ σ') (h : Vl W σ) : Eqs σ σ' := by
  rw [(a.le h).2.2.2]; exact Eqs.mk'
theorem FinishR.eqs {W : Wd} {E : Nat → List Nat} {σ σ' : Sg} (a : FinishR W E σ σ') (h : Vl W σ) : Eqs σ σ' := by
  obtain ⟨_, _, _, g, k, c, e⟩ := a.le h
  rw [e]; exact Eqs.mk'

theorem Good.start {W : Wd} {E : Nat → List Nat} {told : List Nat} {σ σ' : Sg} (G : Good W E told σ) (hp : σ.phase = 0 ∨ σ.phase = 3) (ht : σ.tofin = []) (r : MarkRootsR W E σ σ') :
    Good W E told σ' ∧ Up (Reach E σ'.rootl) σ' ∧ σ'.rootl = σ.rootl ∧ σ'.fz = σ.fz ∧ σ'.objs = σ.objs ∧ σ'.phase = 1 := by
  have wi := r.wi G.wi
  cases r with
  | mk r =>
    rename_i σ1 a b c
    have e := r.eqs
    have mv := r.mv
    have h03 := G.p03 hp
    have t0 : Tri E σ.rootl { σ with grey := [], again := [], greyA := a, againA := b, weakA := c } := by
      refine ⟨fun i hi => hi.elim (fun z => (by cases z)) fun z => (by cases z), fun i hi => ?_, fun i hi => ?_⟩
      · dsimp only at hi
        have := h03 i; have := G.wh; lia
      · dsimp only at hi
        have := h03 i; have := G.wh; lia
    have t1 := r.tri.1 t0
    have up1 := r.up (P := Reach E σ.rootl) (fun i hi j hj => .edge hi hj) (fun x hx => .root hx) (fun i hi => by
      dsimp only at hi
      have := h03 i; have := G.wh; lia)
    have er : σ1.rootl = σ.rootl := e.rootl
    have ez : σ1.fz = σ.fz := e.fz
    have eo : σ1.objs = σ.objs := e.objs
    have ew : σ1.white = σ.white := e.white
    have et : σ1.tofin = σ.tofin := e.tofin
    have ed : σ1.datas = σ.datas := e.datas
    have hg : ∀ i, gone { σ1 with phase := 1 } i → σ.mark i = 4 := fun i hi => by
      rcases hi with z | ⟨z, _⟩
      · exact (mv.four i).mpr z
      · exact absurd (show (1 : Int) = 2 from z) (by decide)
    refine ⟨⟨wi, ?_, fun i => ?_, fun i => ?_, fun i hi z => ?_, fun z => ?_, fun _ => ⟨?_, ⟨t1.g, t1.t1, t1.t2⟩⟩, fun z => absurd (show (1 : Int) = 2 from z) (by decide), fun i hi => ?_, fun i hi => ?_, fun i hi hk z => ?_, fun i hi hk z => ?_, ?_, ?_, ?_, fun i => ?_⟩, ?_, er, ez, eo, rfl⟩
    · show σ1.white = 0 ∨ σ1.white = 1
      rw [ew]; exact G.wh
    · show i ∈ σ1.objs ↔ σ1.mark i ≠ 4
      rw [eo, G.mem, Ne, (mv.four i)]
    · show σ1.mark i = 4 ∨ σ1.mark i = 2 ∨ σ1.mark i = 3 ∨ σ1.mark i = σ1.white ∨ _
      rw [ew]
      have h1 := h03 i
      have h2 : σ1.mark i = σ.mark i ∨ ((σ.mark i < 2 ∨ σ.mark i = 2 ∨ σ.mark i = 3) ∧ (σ1.mark i = 2 ∨ σ1.mark i = 3)) := mv i
      lia
    · have hi : Reach E σ1.rootl i := hi
      rw [er] at hi
      exact G.live i hi (.inl (hg i z))
    · exact absurd (show (1 : Int) = 0 ∨ (1 : Int) = 3 from z) (by decide)
    · show σ1.tofin = []
      rw [et]; exact ht
    · have hi : i ∈ σ1.tofin := hi
      rw [et, ht] at hi; cases hi
    · have hi : σ1.fz i = true := hi
      show ¬ Reach E σ1.rootl i
      rw [er]; rw [ez] at hi; exact G.fz i hi
    · show σ1.fz i = true
      rw [ez]; exact G.lost i hi hk (.inl (hg i z))
    · have z : σ1.fz i = false := z
      show i ∈ σ1.datas
      rw [ez] at z; rw [ed]; exact G.dat i hi hk z
    · show σ1.datas.Pairwise (fun i j => σ1.fz i = false → σ1.fz j = false → i < j)
      rw [ed, ez]; exact G.asc
    · show σ1.tofin.Pairwise _
      rw [et]; exact G.desc
    · show (told ++ σ1.tofin).Nodup
      rw [et]; exact G.nd
    · show i ∈ told ++ σ1.tofin ↔ i < W.n ∧ W.kind i = 1 ∧ σ1.fz i = true
      rw [et, ez]; exact G.told i
    · show Up (Reach E σ1.rootl) σ1
      rw [er]; exact up1
/-- marking in its phase: what turns and what does not -/
theorem Good.marked {W : Wd} {E : Nat → List Nat} {told : List Nat} {σ σ' : Sg} (G : Good W E told σ) (hp : σ.phase = 1) (wi : WI W σ') (e : Eqs σ σ') (mv : Mv σ.mark σ'.mark) (t : Tri E [] σ') : Good W E told σ' := by
  have hp' : σ'.phase = 1 := e.phase.trans hp
  have hg : ∀ i, gone σ' i → gone σ i := fun i hi => by
    rcases hi with z | ⟨z, _⟩
    · exact .inl ((mv.four i).mpr z)
    · lia
  refine ⟨wi, by rw [e.white]; exact G.wh, fun i => ?_, fun i => ?_, fun i hi z => ?_, fun z => by lia, fun _ => ⟨by rw [e.tofin]; exact (G.p1 hp).1, t⟩, fun z => by omega, fun i hi => ?_, fun i hi => ?_, fun i hi hk z => ?_, fun i hi hk z => ?_, ?_, ?_, ?_, fun i => ?_⟩
  · rw [e.objs, G.mem, Ne, mv.four i]
  · rw [e.white]
    have h1 := G.rng i
    have h2 := mv i
    have := G.wh
    lia
  · rw [e.rootl] at hi; exact G.live i hi (hg i z)
  · rw [e.tofin, (G.p1 hp).1] at hi; cases hi
  · rw [e.fz] at hi; rw [e.rootl]; exact G.fz i hi
  · rw [e.fz]; exact G.lost i hi hk (hg i z)
  · rw [e.fz] at z; rw [e.datas]; exact G.dat i hi hk z
  · rw [e.datas, e.fz]; exact G.asc
  · rw [e.tofin]; exact G.desc
  · rw [e.tofin]; exact G.nd
  · rw [e.tofin, e.fz]; exact G.told i
noncomputable def Asked (W : Wd) (E : Nat → List Nat) (σ : Sg) : Prop := ∀ i < W.n, W.kind i ≠ 0 → ¬ Reach E σ.rootl i → σ.fz i = true
theorem propall_nil {W : Wd} {E : Nat → List Nat} {σ σ' : Sg} (a : PropAllR W E σ σ') (h : σ.grey = []) : σ' = σ := by
  cases a with
  | done e => rfl
  | step p _ =>
    cases p with
    | plain e => rw [h] at e; simp at e
    | again e => rw [h] at e; simp at e
theorem Good.atomic {W : Wd} {E : Nat → List Nat} {told : List Nat} {σ σ' : Sg} (G : Good W E told σ) (hp : σ.phase = 1) (a : AtomicR W E σ σ') :
    Good W E told σ' ∧ σ'.rootl = σ.rootl ∧ (∀ i, σ.fz i = true → σ'.fz i = true) ∧ σ'.objs = σ.objs ∧ σ'.phase = 2 ∧ (Up (Reach E σ.rootl) σ → Asked W E σ') ∧
      (Up (Reach E σ.rootl) σ → Asked W E σ → ∀ i, ¬ gone σ' i → Reach E σ'.rootl i) := by
  have wi := a.wi G.wi hp
  cases a with
  | mk r1 r2 r3 =>
    rename_i σ1 σ3 σ4 aA bA
    obtain ⟨htof, t0⟩ := G.p1 hp
    have e1 := r1.eqs G.wi.vl
    have v1 := (r1.le G.wi.vl).2.1
    obtain ⟨t1, t31, g1, m1, root1, up1⟩ := r1.tri G.wi.vl t0
    have shut1 := t1.shut t31 g1
    have hw := G.wh
    have hrng : ∀ i, σ.mark i = 4 ∨ σ.mark i = 2 ∨ σ.mark i = 3 ∨ σ.mark i = σ.white := fun i => by have := G.rng i; lia
    have hrng1 : ∀ i, σ1.mark i = 4 ∨ σ1.mark i = 2 ∨ σ1.mark i = 3 ∨ σ1.mark i = σ.white := fun i => by have := hrng i; have := m1 i; lia
    have hreach : ∀ i, Reach E σ.rootl i → σ1.mark i = 2 ∨ σ1.mark i = 3 := fun i hi => by
      have h4 : ∀ i, Reach E σ.rootl i → σ1.mark i ≠ 4 := fun i hi z => G.live i hi (.inl ((m1.four i).mpr z))
      induction hi with
      | root hx => have := root1 _ hx; have := hrng1 (by assumption); have := h4 _ (.root hx); lia
      | edge hi hj ih => have := shut1 _ ih _ hj; have := hrng1 (by assumption); have := h4 _ (.edge hi hj); lia
    -- the parted state
    have hheld : ∀ i, σ1.held i = (σ.fz i || !decide (σ1.mark i < 2)) := fun i => by unfold Sg.held; rw [e1.fz]
    have hrow : (parted W σ1 aA).tofin = σ.datas.reverse.filter fun i => !σ1.held i && decide (W.kind i = 1) := by
      show σ1.tofin ++ σ1.datas.reverse.filter _ = _
      rw [e1.tofin, e1.datas, htof, List.nil_append]
    have rowP : ∀ x ∈ (parted W σ1 aA).tofin, x ∈ σ.datas ∧ σ.fz x = false ∧ σ1.mark x < 2 ∧ W.kind x = 1 := fun x hx => by
      rw [hrow] at hx
      obtain ⟨h1, h2⟩ := List.mem_filter.mp hx
      rw [hheld] at h2
      simp only [Bool.and_eq_true, Bool.not_eq_true', Bool.or_eq_false_iff, Bool.not_eq_false', decide_eq_true_eq] at h2
      exact ⟨List.mem_reverse.mp h1, h2.1.1, h2.1.2, h2.2⟩
    have hpw : (parted W σ1 aA).white = σ.white := e1.white
    obtain ⟨t3, t33, m3, d3⟩ := r2.tri (by rw [hpw]; lia) (fun x hx => by have := (rowP x hx).2.2.1; show σ1.mark x ≠ 4; lia) (fun i => by show σ1.mark i < 2 ∨ _; have := hrng1 i; show σ1.mark i < 2 ∨ σ1.mark i = 2 ∨ σ1.mark i = 3 ∨ σ1.mark i = 4; lia) ⟨t1.g, t1.t1, t1.t2⟩ t31
    obtain ⟨t4, m4, k4, _, g4⟩ := r3.tri t3
    have m34 : Mv σ1.mark σ4.mark := (show Mv σ1.mark σ3.mark from m3).trans m4
    have mm : Mv σ.mark σ4.mark := m1.trans m34
    have e23 := r2.le.2.1
    have e34 := (r3.le (r2.le.2.2 v1)).2.2.2
    have er : σ4.rootl = σ.rootl := by rw [e34, e23]; exact e1.rootl
    have eo : σ4.objs = σ.objs := by rw [e34, e23]; exact e1.objs
    have ew : σ4.white = σ.white := by rw [e34, e23]; exact e1.white
    have et : σ4.tofin = (parted W σ1 aA).tofin := by rw [e34, e23]
    have ed : σ4.datas = σ.datas.filter (fun i => σ1.held i || !decide (W.kind i = 1)) := by rw [e34, e23]; show σ1.datas.filter _ = _; rw [e1.datas]
    have ez : ∀ i, σ4.fz i = (σ.fz i || decide (i ∈ σ.datas ∧ σ1.held i = false)) := fun i => by rw [e34, e23]; show (σ1.fz i || decide (i ∈ σ1.datas ∧ _)) = _; rw [e1.fz, e1.datas]
    have hgone : ∀ i, gone { σ4 with white := 1 - σ4.white, sweep := σ4.objs, sweepA := bA, phase := 2 } i ↔ (σ.mark i = 4 ∨ σ4.mark i = σ.white) := fun i => by
      unfold gone
      dsimp only
      rw [← mm.four i, ew]
      constructor
      · rintro (z | ⟨_, z⟩)
        · exact .inl z
        · exact .inr (by lia)
      · rintro (z | z)
        · exact .inl z
        · exact .inr ⟨rfl, by lia⟩
    have hgone1 : ∀ i, σ4.mark i = σ.white → σ1.mark i = σ.white := fun i z => by have := m34 i; lia
    have hz1 : ∀ i, σ.fz i = true → σ4.fz i = true := fun i z => by rw [ez, z]; rfl
    have hz2 : ∀ i, i ∈ σ.datas → σ1.mark i < 2 → σ4.fz i = true := fun i h1 h2 => by
      rw [ez]
      cases q : σ.fz i with
      | true => rfl
      | false =>
        have : σ1.held i = false := by rw [hheld, q]; simp [h2]
        simp [h1, this]
    have ascD : (σ.datas.filter (fun i => σ1.held i || !decide (W.kind i = 1))).Pairwise (fun i j => σ4.fz i = false → σ4.fz j = false → i < j) := by
      refine List.Pairwise.filter _ (G.asc.imp fun {i j} h a b => h ?_ ?_)
      · cases q : σ.fz i with
        | false => rfl
        | true => rw [hz1 i q] at a; cases a
      · cases q : σ.fz j with
        | false => rfl
        | true => rw [hz1 j q] at b; cases b
    have descR : (parted W σ1 aA).tofin.Pairwise (fun i j => j < i) := by
      rw [hrow]
      refine List.pairwise_filter.mpr ?_
      rw [List.pairwise_reverse]
      refine G.asc.imp fun {i j} h a b => h ?_ ?_
      · rw [hheld] at b
        simp only [Bool.and_eq_true, Bool.not_eq_true', Bool.or_eq_false_iff] at b
        exact b.1.1
      · rw [hheld] at a
        simp only [Bool.and_eq_true, Bool.not_eq_true', Bool.or_eq_false_iff] at a
        exact a.1.1
    refine ⟨⟨wi, ?_, fun i => ?_, fun i => ?_, fun i hi z => ?_, fun z => ?_, fun z => absurd (show (2 : Int) = 1 from z) (by decide), fun _ => rfl, fun i hi z => ?_, fun i hi => ?_, fun i hi hk z => ?_, fun i hi hk z => ?_, ?_, ?_, ?_, fun i => ?_⟩, er, hz1, eo, rfl, fun hu i hi hk hr => ?_, fun hu hA i hi => ?_⟩
    · show 1 - σ4.white = 0 ∨ 1 - σ4.white = 1
      rw [ew]; lia
    · show i ∈ σ4.objs ↔ σ4.mark i ≠ 4
      rw [eo, G.mem, Ne, mm.four i]
    · show σ4.mark i = 4 ∨ σ4.mark i = 2 ∨ σ4.mark i = 3 ∨ σ4.mark i = 1 - σ4.white ∨ ((2 : Int) = 2 ∧ σ4.mark i = 1 - (1 - σ4.white))
      rw [ew]
      have h1 := hrng i
      have h2 := mm i
      lia
    · have hi : Reach E σ4.rootl i := hi
      rw [er] at hi
      have h1 := hreach i hi
      rcases (hgone i).mp z with q | q
      · exact G.live i hi (.inl q)
      · have := hgone1 i q; lia
    · exact absurd (show (2 : Int) = 0 ∨ (2 : Int) = 3 from z) (by decide)
    · have hi : i ∈ σ4.tofin := hi
      rw [et] at hi
      have h1 := rowP i hi
      have h2 := m4.up (d3 i hi)
      rcases (hgone i).mp z with q | q
      · have := (m1.four i).mp q; lia
      · omega
    · have hi : σ4.fz i = true := hi
      show ¬ Reach E σ4.rootl i
      rw [er]
      intro hr
      rw [ez] at hi
      rcases Bool.or_eq_true_iff.mp hi with q | q
      · exact G.fz i q hr
      · have q := of_decide_eq_true q
        have h1 := hreach i hr
        rw [hheld] at q
        have := q.2
        simp only [Bool.or_eq_false_iff, Bool.not_eq_false', decide_eq_true_eq] at this
        lia
    · show σ4.fz i = true
      rcases (hgone i).mp z with q | q
      · exact hz1 i (G.lost i hi hk (.inl q))
      · have := hgone1 i q
        cases qz : σ.fz i with
        | true => exact hz1 i qz
        | false => exact hz2 i (G.dat i hi hk qz) (by lia)
    · have z : σ4.fz i = false := z
      show i ∈ σ4.datas
      rw [ed]
      have hf : σ.fz i = false := by
        cases q : σ.fz i with
        | false => rfl
        | true => rw [hz1 i q] at z; cases z
      have hd := G.dat i hi hk hf
      refine List.mem_filter.mpr ⟨hd, ?_⟩
      have : σ1.held i = true := by
        cases q : σ1.held i with
        | true => rfl
        | false => rw [ez, q] at z; simp [hd] at z
      rw [this]; rfl
    · show σ4.datas.Pairwise (fun i j => σ4.fz i = false → σ4.fz j = false → i < j)
      rw [ed]; exact ascD
    · show σ4.tofin.Pairwise _
      rw [et]; exact descR
    · show (told ++ σ4.tofin).Nodup
      rw [et, List.nodup_append]
      have h0 := G.nd
      rw [htof, List.append_nil] at h0
      refine ⟨h0, descR.imp fun {a b} h => by (refine Nat.ne_of_gt ?_; assumption), fun a ha b hb q => ?_⟩
      have h1 := (G.told a).mp (List.mem_append_left _ ha)
      have h2 := rowP b hb
      rw [q] at h1
      rw [h1.2.2] at h2; cases h2.2.1
    · show i ∈ told ++ σ4.tofin ↔ i < W.n ∧ W.kind i = 1 ∧ σ4.fz i = true
      rw [et]
      constructor
      · intro hi
        rcases List.mem_append.mp hi with q | q
        · have h1 := (G.told i).mp (List.mem_append_left _ q)
          exact ⟨h1.1, h1.2.1, hz1 i h1.2.2⟩
        · have h1 := rowP i q
          exact ⟨G.wi.datas i h1.1, h1.2.2.2, hz2 i h1.1 h1.2.2.1⟩
      · rintro ⟨h1, h2, h3⟩
        rw [ez] at h3
        rcases Bool.or_eq_true_iff.mp h3 with q | q
        · have := (G.told i).mpr ⟨h1, h2, q⟩
          rw [htof, List.append_nil] at this
          exact List.mem_append_left _ this
        · have q := of_decide_eq_true q
          refine List.mem_append_right _ ?_
          rw [hrow]
          exact List.mem_filter.mpr ⟨List.mem_reverse.mpr q.1, by rw [q.2]; simp [h2]⟩
    · -- all are asked
      have hr : ¬ Reach E σ4.rootl i := hr
      rw [er] at hr
      show σ4.fz i = true
      have hu1 := up1 (Reach E σ.rootl) (fun i hi j hj => .edge hi hj) (fun x hx => .root hx) hu
      have h1 := hrng1 i
      have h2 : ¬ (σ1.mark i = 2 ∨ σ1.mark i = 3) := fun z => hr (hu1 i z)
      by_cases q : σ1.mark i = 4
      · exact hz1 i (G.lost i hi hk (.inl ((m1.four i).mpr q)))
      · cases qz : σ.fz i with
        | true => exact hz1 i qz
        | false => exact hz2 i (G.dat i hi hk qz) (by lia)
    · -- nothing new is told
      have hrow0 : (parted W σ1 aA).tofin = [] := by
        cases q : (parted W σ1 aA).tofin with
        | nil => rfl
        | cons x r =>
          have h1 := rowP x (by rw [q]; exact List.mem_cons_self)
          exfalso
          by_cases hr : Reach E σ.rootl x
          · have := hreach x hr; lia
          · have := hA x (G.wi.datas x h1.1) (by lia) hr
            rw [this] at h1; cases h1.2.1
      rw [hrow0] at r2
      have e3 : σ3 = parted W σ1 aA := by cases r2; rfl
      have e4 : σ4 = parted W σ1 aA := by
        rw [e3] at r3
        exact propall_nil r3 g1
      have em : σ4.mark = σ1.mark := by rw [e4]; rfl
      have hu1 := up1 (Reach E σ.rootl) (fun i hi j hj => .edge hi hj) (fun x hx => .root hx) hu
      show Reach E σ4.rootl i
      rw [er]
      refine hu1 i ?_
      have h1 := hrng1 i
      have h2 : ¬ (σ.mark i = 4 ∨ σ4.mark i = σ.white) := fun z => hi ((hgone i).mpr z)
      rw [em, m1.four i] at h2
      lia

/-! part P4 -/
theorem Good.dead {W : Wd} {E : Nat → List Nat} {told : List Nat} {σ : Sg} (G : Good W E told σ) (hp : σ.phase = 2) (i : Nat) : σ.dead i = true ↔ gone σ i := by
  have h := G.rng i
  have hw := G.wh
  unfold Sg.dead gone
  simp only [Bool.or_eq_true, beq_iff_eq, Bool.and_eq_true, decide_eq_true_eq, bne_iff_ne, ne_eq]
  constructor
  · rintro (z | ⟨z1, z2⟩)
    · exact .inl z
    · exact .inr ⟨hp, by lia⟩
  · rintro (z | ⟨_, z⟩)
    · exact .inl z
    · exact .inr ⟨by omega, by lia⟩
/-- the sweep -/
theorem Good.swept {W : Wd} {E : Nat → List Nat} {told : List Nat} {σ : Sg} (G : Good W E told σ) (hp : σ.phase = 2) :
    Good W E told { sweptAll W σ with phase := 3 } ∧ (sweptAll W σ).rootl = σ.rootl ∧ (sweptAll W σ).fz = σ.fz ∧ (∀ i, i ∈ (sweptAll W σ).objs ↔ ¬ gone σ i) ∧ (sweptAll W σ).tofin = σ.tofin ∧ (sweptAll W σ).cycles = σ.cycles := by
  have wi := G.wi.swept
  have e := sweptAll_eq W G.wi
  have hs := G.p2 hp
  have hw := G.wh
  generalize sweptAll W σ = τ at *
  have em : ∀ i, τ.mark i = if σ.dead i = true then 4 else σ.white := fun i => by
    rw [e]
    dsimp only
    rw [hs]
    by_cases q : i ∈ σ.objs
    · rw [if_pos q]
    · rw [if_neg q]
      have h4 : σ.mark i = 4 := by
        by_cases z : σ.mark i = 4
        · exact z
        · exact absurd ((G.mem i).mpr z) q
      rw [if_pos ((G.dead hp i).mpr (.inl h4)), h4]
  have eo : ∀ i, i ∈ τ.objs ↔ ¬ gone σ i := fun i => by
    rw [e]
    dsimp only
    rw [hs, List.mem_filter]
    constructor
    · rintro ⟨h1, h2⟩ z
      rw [(G.dead hp i).mpr z] at h2
      simp [h1] at h2
    · intro h
      refine ⟨(G.mem i).mpr fun z => h (.inl z), ?_⟩
      have : σ.dead i = false := by
        cases q : σ.dead i with
        | false => rfl
        | true => exact absurd ((G.dead hp i).mp q) h
      rw [this]; simp
  have er : τ.rootl = σ.rootl := by rw [e]
  have ez : τ.fz = σ.fz := by rw [e]
  have et : τ.tofin = σ.tofin := by rw [e]
  have ed : τ.datas = σ.datas := by rw [e]
  have ew : τ.white = σ.white := by rw [e]
  have ec : τ.cycles = σ.cycles := by rw [e]
  have hg : ∀ i, gone { τ with phase := 3 } i ↔ gone σ i := fun i => by
    rw [← G.dead hp i]
    unfold gone
    dsimp only
    rw [em]
    by_cases q : σ.dead i = true
    · rw [if_pos q]; exact ⟨fun _ => q, fun _ => .inl rfl⟩
    · rw [if_neg q]
      refine ⟨fun z => ?_, fun z => absurd z q⟩
      rcases z with z | ⟨z, _⟩
      · lia
      · exact absurd z (by decide)
  refine ⟨⟨wi, ?_, fun i => ?_, fun i => ?_, fun i hi z => ?_, fun _ i => ?_, fun z => absurd (show (3 : Int) = 1 from z) (by decide), fun z => absurd (show (3 : Int) = 2 from z) (by decide), fun i hi z => ?_, fun i hi => ?_, fun i hi hk z => ?_, fun i hi hk z => ?_, ?_, ?_, ?_, fun i => ?_⟩, er, ez, eo, et, ec⟩
  · show τ.white = 0 ∨ τ.white = 1
    rw [ew]; exact hw
  · show i ∈ τ.objs ↔ τ.mark i ≠ 4
    rw [eo, ← G.dead hp i, em]
    by_cases q : σ.dead i = true
    · rw [if_pos q]; simp [q]
    · rw [if_neg q]; exact ⟨fun _ z => by omega, fun _ => q⟩
  · show τ.mark i = 4 ∨ τ.mark i = 2 ∨ τ.mark i = 3 ∨ τ.mark i = τ.white ∨ _
    rw [em, ew]
    by_cases q : σ.dead i = true
    · rw [if_pos q]; exact .inl rfl
    · rw [if_neg q]; exact .inr (.inr (.inr (.inl rfl)))
  · have hi : Reach E τ.rootl i := hi
    rw [er] at hi
    exact G.live i hi ((hg i).mp z)
  · show τ.mark i = 4 ∨ τ.mark i = τ.white
    rw [em, ew]
    by_cases q : σ.dead i = true
    · rw [if_pos q]; exact .inl rfl
    · rw [if_neg q]; exact .inr rfl
  · have hi : i ∈ τ.tofin := hi
    rw [et] at hi; exact G.fin i hi ((hg i).mp z)
  · have hi : τ.fz i = true := hi
    show ¬ Reach E τ.rootl i
    rw [er]; rw [ez] at hi; exact G.fz i hi
  · show τ.fz i = true
    rw [ez]; exact G.lost i hi hk ((hg i).mp z)
  · have z : τ.fz i = false := z
    show i ∈ τ.datas
    rw [ez] at z; rw [ed]; exact G.dat i hi hk z
  · show τ.datas.Pairwise (fun i j => τ.fz i = false → τ.fz j = false → i < j)
    rw [ed, ez]; exact G.asc
  · show τ.tofin.Pairwise _
    rw [et]; exact G.desc
  · show (told ++ τ.tofin).Nodup
    rw [et]; exact G.nd
  · show i ∈ told ++ τ.tofin ↔ i < W.n ∧ W.kind i = 1 ∧ τ.fz i = true
    rw [et, ez]; exact G.told i
/-- what marks nothing and moves no phase but these -/
theorem Good.fin' {W : Wd} {E : Nat → List Nat} {told : List Nat} {σ : Sg} (G : Good W E told σ) (hp : σ.phase = 3) (wi : WI W { σ with phase := 0, cycles := σ.cycles + 1 }) : Good W E told { σ with phase := 0, cycles := σ.cycles + 1 } := by
  have hg : ∀ i, gone { σ with phase := 0, cycles := σ.cycles + 1 } i → gone σ i := fun i z => by
    rcases z with z | ⟨z, _⟩
    · exact .inl z
    · exact absurd (show (0 : Int) = 2 from z) (by decide)
  have h03 := G.p03 (.inr hp)
  exact ⟨wi, G.wh, G.mem, fun i => by have := h03 i; show σ.mark i = 4 ∨ σ.mark i = 2 ∨ σ.mark i = 3 ∨ σ.mark i = σ.white ∨ _; lia, fun i hi z => G.live i hi (hg i z), fun _ => h03, fun z => absurd (show (0 : Int) = 1 from z) (by decide), fun z => absurd (show (0 : Int) = 2 from z) (by decide),
    fun i hi z => G.fin i hi (hg i z), G.fz, fun i hi hk z => G.lost i hi hk (hg i z), G.dat, G.asc, G.desc, G.nd, G.told⟩

/-- how far the end is: 1: of a cycle that began with nothing marked; 2: all that is not reached was asked; 3: nothing else is there -/
noncomputable def Lv (W : Wd) (E : Nat → List Nat) : Nat → Sg → Prop
  | 0, _ => True
  | 1, σ => (σ.phase = 1 → Up (Reach E σ.rootl) σ) ∧ (σ.phase = 2 ∨ σ.phase = 3 → Asked W E σ)
  | 2, σ => (σ.phase = 1 → Up (Reach E σ.rootl) σ) ∧ Asked W E σ ∧ (σ.phase = 2 → ∀ i, ¬ gone σ i → Reach E σ.rootl i) ∧ (σ.phase = 3 → ∀ i ∈ σ.objs, Reach E σ.rootl i)
  | _ + 3, σ => Asked W E σ ∧ ∀ i ∈ σ.objs, Reach E σ.rootl i
theorem Asked.mono {W : Wd} {E : Nat → List Nat} {σ σ' : Sg} (h : Asked W E σ) (er : σ'.rootl = σ.rootl) (ez : ∀ i, σ.fz i = true → σ'.fz i = true) : Asked W E σ' := fun i hi hk hr => ez i (h i hi hk (er ▸ hr))
theorem Lv.three {W : Wd} {E : Nat → List Nat} {k : Nat} {σ σ' : Sg} (h : Lv W E (k + 3) σ) (er : σ'.rootl = σ.rootl) (ez : ∀ i, σ.fz i = true → σ'.fz i = true) (eo : ∀ i ∈ σ'.objs, i ∈ σ.objs) (j : Nat) : Lv W E (j + 3) σ' :=
  ⟨h.1.mono er ez, fun i hi => er.symm ▸ h.2 i (eo i hi)⟩
theorem Good.single {W : Wd} {E : Nat → List Nat} {told : List Nat} {σ σ' : Sg} (G : Good W E told σ) (ht : σ.phase = 0 → σ.tofin = []) (s : SingleR W E σ σ') :
    Good W E told σ' ∧ σ'.rootl = σ.rootl ∧ (∀ k, Lv W E k σ → Lv W E (if σ'.phase = 0 then k + 1 else k) σ') ∧ (σ'.tofin ≠ [] → σ'.phase = 2 ∨ (σ.tofin ≠ [] ∧ σ'.phase = 3 ∧ σ.phase = 2) ∨ (σ.tofin ≠ [] ∧ σ'.phase = 0 ∧ σ.phase = 3)) := by
  have wi := s.wi G.wi
  cases s with
  | start hp r =>
    have h0 := ht hp
    obtain ⟨g, up, er, ez, eo, e1⟩ := G.start (.inl hp) h0 r
    have hz : ∀ i, σ.fz i = true → σ'.fz i = true := fun i z => by rw [ez]; exact z
    refine ⟨g, er, fun k h => ?_, fun z => absurd (g.p1 e1).1 z⟩
    rw [if_neg (by lia)]
    match k, h with
    | 0, _ => exact trivial
    | 1, h => exact ⟨fun _ => up, fun z => by lia⟩
    | 2, h => exact ⟨fun _ => up, h.2.1.mono er hz, fun z => by lia, fun z => by lia⟩
    | k + 3, h => exact h.three er hz (fun i hi => eo ▸ hi) k
  | prop hp r =>
    have e := r.eqs G.wi.vl
    have hp' : σ'.phase = 1 := e.phase.trans hp
    obtain ⟨t, mv, _, up⟩ := r.tri (G.p1 hp).2
    have g := G.marked hp wi e mv t
    have hz : ∀ i, σ.fz i = true → σ'.fz i = true := fun i z => by rw [e.fz]; exact z
    have hup : Up (Reach E σ.rootl) σ → Up (Reach E σ'.rootl) σ' := fun z => by rw [e.rootl]; exact up _ (fun i hi j hj => .edge hi hj) z
    refine ⟨g, e.rootl, fun k h => ?_, fun z => absurd (g.p1 hp').1 z⟩
    rw [if_neg (by omega)]
    match k, h with
    | 0, _ => exact trivial
    | 1, h => exact ⟨fun _ => hup (h.1 hp), fun z => by omega⟩
    | 2, h => exact ⟨fun _ => hup (h.1 hp), h.2.1.mono e.rootl hz, fun z => by omega, fun z => by omega⟩
    | k + 3, h => exact h.three e.rootl hz (fun i hi => e.objs ▸ hi) k
  | atomic hp hg r =>
    obtain ⟨g, er, hz, eo, e2, h1, h2⟩ := G.atomic hp r
    refine ⟨g, er, fun k h => ?_, fun z => .inl e2⟩
    rw [if_neg (by lia)]
    match k, h with
    | 0, _ => exact trivial
    | 1, h => exact ⟨fun z => by lia, fun _ => h1 (h.1 hp)⟩
    | 2, h => exact ⟨fun z => by omega, h.2.1.mono er hz, fun _ => h2 (h.1 hp) h.2.1, fun z => by lia⟩
    | k + 3, h => exact h.three er hz (fun i hi => eo ▸ hi) k
  | sweep hp =>
    obtain ⟨g, er, ez, eo, et, ec⟩ := G.swept hp
    have hz : ∀ i, σ.fz i = true → (sweptAll W σ).fz i = true := fun i z => by rw [ez]; exact z
    refine ⟨g, er, fun k h => ?_, fun z => .inr (.inl ⟨fun q => z (et.trans q), rfl, hp⟩)⟩
    rw [if_neg (show ¬ (3 : Int) = 0 by decide)]
    match k, h with
    | 0, _ => exact trivial
    | 1, h => exact ⟨fun z => absurd (show (3 : Int) = 1 from z) (by decide), fun _ => (h.2 (.inl hp)).mono (σ' := { sweptAll W σ with phase := 3 }) er hz⟩
    | 2, h =>
      refine ⟨fun z => absurd (show (3 : Int) = 1 from z) (by decide), h.2.1.mono (σ' := { sweptAll W σ with phase := 3 }) er hz, fun z => absurd (show (3 : Int) = 2 from z) (by decide), fun _ i hi => ?_⟩
      show Reach E (sweptAll W σ).rootl i
      rw [er]
      exact h.2.2.1 hp i ((eo i).mp hi)
    | k + 3, h => exact h.three (σ' := { sweptAll W σ with phase := 3 }) er hz (fun i hi => (G.mem i).mpr fun z => (eo i).mp hi (.inl z)) k
  | fin hp =>
    have g := G.fin' hp wi
    refine ⟨g, rfl, fun k h => ?_, fun z => .inr (.inr ⟨z, rfl, hp⟩)⟩
    rw [if_pos rfl]
    match k, h with
    | 0, _ => exact ⟨fun z => absurd (show (0 : Int) = 1 from z) (by decide), fun z => absurd (show (0 : Int) = 2 ∨ (0 : Int) = 3 from z) (by decide)⟩
    | 1, h => exact ⟨fun z => absurd (show (0 : Int) = 1 from z) (by decide), h.2 (.inr hp), fun z => absurd (show (0 : Int) = 2 from z) (by decide), fun z => absurd (show (0 : Int) = 3 from z) (by decide)⟩
    | 2, h => exact ⟨h.2.1, h.2.2.2 hp⟩
    | k + 3, h => exact ⟨h.1, h.2⟩
/-- a run -/
theorem Good.run {W : Wd} {E : Nat → List Nat} {told : List Nat} {σ σ' : Sg} (G : Good W E told σ) (ht : σ.phase = 0 → σ.tofin = []) (r : RunR W E σ σ') :
    Good W E told σ' ∧ σ'.rootl = σ.rootl ∧ (∀ k, Lv W E k σ → Lv W E (if σ'.phase = 0 then k + 1 else k) σ') ∧
      (σ'.phase ≠ 0 → σ'.cycles = σ.cycles ∧ Phi W σ' < Phi W σ) ∧ (σ'.phase = 0 → σ'.cycles = σ.cycles + 1 ∧ Phi W σ' = W.n + 4 ∧ 1 ≤ Phi W σ) := by
  induction r with
  | one s =>
    obtain ⟨g, er, hl, _⟩ := G.single ht s
    have p := s.phi G.wi
    exact ⟨g, er, hl, fun z => ⟨p.2.2 z, p.1 z⟩, fun z => have q := p.2.1 z; ⟨q.2.2.2, q.2.2.1, by omega⟩⟩
  | @more σ1 σ' r hn s ih =>
    obtain ⟨g1, er1, hl1, hc1, _⟩ := ih
    obtain ⟨g, er, hl, _⟩ := g1.single (fun z => absurd z hn) s
    have p := s.phi g1.wi
    have c := hc1 hn
    refine ⟨g, er.trans er1, fun k h => ?_, fun z => ⟨(p.2.2 z).trans c.1, Nat.lt_trans (p.1 z) c.2⟩, fun z => ?_⟩
    · have := hl1 k h
      rw [if_neg hn] at this
      exact hl k this
    · have q := p.2.1 z
      exact ⟨by rw [q.2.2.2, c.1], q.2.2.1, by omega⟩
theorem Good.forget {W : Wd} {E : Nat → List Nat} {told : List Nat} {σ : Sg} (G : Good W E told σ) (hp : σ.phase ≤ 1) (ht : σ.tofin = []) {a b c d : Addr} (wi : WI W { σ with grey := [], again := [], greyA := a, againA := b, weakA := c, sweep := σ.objs, sweepA := d, phase := 2 }) :
    Good W E told { σ with grey := [], again := [], greyA := a, againA := b, weakA := c, sweep := σ.objs, sweepA := d, phase := 2 } := by
  have hr : ∀ i, σ.mark i = 4 ∨ σ.mark i = 2 ∨ σ.mark i = 3 ∨ σ.mark i = σ.white := fun i => by have := G.rng i; lia
  have hw := G.wh
  have hg : ∀ i, gone { σ with grey := [], again := [], greyA := a, againA := b, weakA := c, sweep := σ.objs, sweepA := d, phase := 2 } i → gone σ i := fun i z => by
    rcases z with z | ⟨_, z⟩
    · exact .inl z
    · have z : σ.mark i = 1 - σ.white := z
      have := hr i
      lia
  exact ⟨wi, hw, G.mem, fun i => by have := hr i; show σ.mark i = 4 ∨ σ.mark i = 2 ∨ σ.mark i = 3 ∨ σ.mark i = σ.white ∨ _; lia, fun i hi z => G.live i hi (hg i z), fun z => absurd (show (2 : Int) = 0 ∨ (2 : Int) = 3 from z) (by decide), fun z => absurd (show (2 : Int) = 1 from z) (by decide), fun _ => rfl,
    fun i hi => (by rw [show ({ σ with grey := [], again := [], greyA := a, againA := b, weakA := c, sweep := σ.objs, sweepA := d, phase := 2 } : Sg).tofin = [] from ht] at hi; cases hi), G.fz, fun i hi hk z => G.lost i hi hk (hg i z), G.dat, G.asc, G.desc, G.nd, G.told⟩
/-- a full cycle -/
theorem Good.full {W : Wd} {E : Nat → List Nat} {told : List Nat} {σ σ' : Sg} (n9 : W.n ≤ 9) (sz : ∀ i < W.n, 1 ≤ W.size i ∧ W.size i ≤ 40) (G : Good W E told σ) (ht : σ.tofin = []) (r : FullR W E σ σ') :
    Good W E told σ' ∧ σ'.rootl = σ.rootl ∧ σ'.phase = 0 ∧ Lv W E 2 σ' ∧ (Asked W E σ → Lv W E 3 σ') := by
  cases r with
  | mk h0 h1 hM hR hp =>
    rename_i σ0 σ1 σ2
    have g0 : Good W E told σ0 ∧ σ0.rootl = σ.rootl ∧ σ0.fz = σ.fz ∧ σ0.tofin = [] := by
      rcases h0 with ⟨a, b, c, d, hp, rfl⟩ | ⟨_, rfl⟩
      · exact ⟨G.forget hp ht ((law_wi (E := E) n9 sz).forget σ a b c d G.wi hp), rfl, rfl, ht⟩
      · exact ⟨G, rfl, rfl, ht⟩
    have g1 : Good W E told σ1 ∧ σ1.rootl = σ.rootl ∧ σ1.fz = σ.fz ∧ σ1.tofin = [] ∧ σ1.phase = 3 := by
      rcases h1 with ⟨hp, rfl⟩ | ⟨hp, rfl⟩
      · obtain ⟨g, er, ez, _, et, _⟩ := g0.1.swept hp
        exact ⟨g, er.trans g0.2.1, ez.trans g0.2.2.1, et.trans g0.2.2.2, rfl⟩
      · exact ⟨g0.1, g0.2.1, g0.2.2.1, g0.2.2.2, hp⟩
    obtain ⟨g2, up, er, ez, eo, e1⟩ := g1.1.start (.inr g1.2.2.2.2) g1.2.2.2.1 hM
    obtain ⟨g3, er3, hl, _, _⟩ := g2.run (fun z => by lia) hR
    refine ⟨g3, er3.trans (er.trans g1.2.1), hp, ?_, fun hA => ?_⟩
    · have := hl 1 ⟨fun _ => up, fun z => by lia⟩
      rw [if_pos hp] at this; exact this
    · have := hl 2 ⟨fun _ => up, hA.mono (er.trans g1.2.1) (fun i z => by rw [ez, g1.2.2.1]; exact z), fun z => by lia, fun z => by lia⟩
      rw [if_pos hp] at this; exact this

/-! part M18 -/
theorem But.refl (t : Tag) (H : LH) : But t H H := fun _ _ _ e _ => e
theorem But.trans {t : Tag} {H H' H'' : LH} (a : But t H H') (b : But t H' H'') : But t H H'' := fun x s c e ne => b x s c (a x s c e ne) ne
theorem But.ext {t : Tag} {H H' : LH} (h : Ext H H') : But t H H' := fun a s c e _ => h a _ e
theorem But.one {t : Tag} {d : Addr} {c : Cell} {H H' : LH} (hd : H d = some (t, c)) (h : Keep1 d H H') : But t H H' := fun a s x e ne => h a _ e (ne_of_tag e hd ne)
section
variable {w : World} {hT : Heap} {A : Around} {L : Addr} {m : Loc} {H : LH} {n : Nat} {W : Wd} {σ : Sg} {E : Nat → List Nat}
theorem Room.make {n : Nat} {A : Around} {D : Addr} {vals : List Value} (R : Room (n + 1) A) : Room n (A.under (.builtin "type.__call__" ⟨.ref D :: vals, []⟩)) := by
  have h1 : Code.weight (.builtin "type.__call__" ⟨.ref D :: vals, []⟩) = 1 := by rfl
  have h2 : Code.cUnits (.builtin "type.__call__" ⟨.ref D :: vals, []⟩) = 1 := by rfl
  refine ⟨R.h, ?_, ?_⟩
  · show A.depth + Code.weight _ + n < 900
    rw [h1]; have := R.d; lia
  · show A.units + Code.cUnits _ + 10 * n < 9000
    rw [h2]; have := R.u; lia
/-- what Cycle.__init__ makes of its marks and lists -/
structure Made (k : Nat) (H : LH) (mA dm a1 l1 l2 l3 l4 l5 : Addr) (ch so : Value) : Prop where
  m : H mA = some ((k, 2, 0), .inst 136 dm)
  dm : ∃ u, H dm = some ((k, 3, 0), .ns 6 (lk marksNames [some ch, some so, some (.int 0 u), some (.ref l1), some (.ref l2), some (.ref l3)]))
  objs : H a1 = some ((k, 6, 0), .idict [])
  grey : H l1 = some ((k, 7, 0), .list [])
  again : H l2 = some ((k, 8, 0), .list [])
  weak : H l3 = some ((k, 9, 0), .list [])
  root : H l4 = some ((k, 13, 0), .list [])
  sweep : H l5 = some ((k, 10, 0), .list [])
theorem Made.but {k : Nat} {H H' : LH} {mA dm a1 l1 l2 l3 l4 l5 : Addr} {ch so : Value} (M : Made k H mA dm a1 l1 l2 l3 l4 l5 ch so) (b : But (k, 1, 0) H H') : Made k H' mA dm a1 l1 l2 l3 l4 l5 ch so :=
  ⟨b _ _ _ M.m (tag_ne (by decide)), let ⟨u, e⟩ := M.dm; ⟨u, b _ _ _ e (tag_ne (by decide))⟩, b _ _ _ M.objs (tag_ne (by decide)), b _ _ _ M.grey (tag_ne (by decide)), b _ _ _ M.again (tag_ne (by decide)), b _ _ _ M.weak (tag_ne (by decide)), b _ _ _ M.root (tag_ne (by decide)), b _ _ _ M.sweep (tag_ne (by decide))⟩
noncomputable abbrev cyc14 : List Str := ["objects", "marks", "root_list", "phase", "to_sweep", "total", "estimate", "debt", "step_size", "sweep_max", "threshold", "pause", "step_mul", "cycles"]

theorem c_cycleInit (P : Tp (KK w) hT) (R : Room (n + 3) A) {k : Nat} {x d : Addr} {ch so : Value} {Q : Value → LH → Prop} (hx : H x = some ((k, 0, 0), .inst 421 d)) (hd : H d = some ((k, 1, 0), .ns 0 (lk [] [])))
    (h : ∀ (H' : LH) (mA dm a1 l1 l2 l3 l4 l5 : Addr) (u3 u5 u6 u7 u8 u9 u10 u11 u12 u13 : Tok), H' x = some ((k, 0, 0), .inst 421 d) → H' d = some ((k, 1, 0), .ns 14 (lk cyc14 [some (.ref a1), some (.ref mA), some (.ref l4), some (.int 0 u3), some (.ref l5), some (.int 0 u5), some (.int 0 u6), some (.int 0 u7), some (.int 64 u8), some (.int 16 u9), some (.int 256 u10), some (.int 200 u11), some (.int 200 u12), some (.int 0 u13)])) →
      But (k, 1, 0) H H' → Made k H' mA dm a1 l1 l2 l3 l4 l5 ch so → Q .none H') : C PG w hT A (.ref 182) ⟨[.ref x, ch, so], []⟩ H Q := by
  refine c_fn (ps := ["self", "children", "sort_of"]) (ls := []) (gs := [("Marks", .ref 136), ("PAUSE", .int 0 413), ("STEP_SIZE", .int 64 425), ("SWEEP_MAX", .int 16 427), ("DEFAULT_PAUSE", .int 200 431), ("DEFAULT_STEP_MUL", .int 200 433)]) (vals := [.ref x, ch, so]) (ns := ["self", "children", "sort_of"]) (vs := [some (.ref x), some ch, some so]) P R (by kernel_rfl) (by kernel_rfl) rfl fun L env A' he F R' => ?_
  refine t_cons (t_assign_attr (t_dict_empty P fun a1 n1 => ?_))
  refine t_retagNew (k, 6, 0) ?_
  walk_at "gc"
  refine s_add P (Ext.new n1 _ _ _ hx) (Ext.new n1 _ _ _ hd) (by kernel_rfl) (by decide) (by decide +kernel) rfl fun H1 hx1 hd1 k1 => ?_
  have b1 := But.one (Ext.new n1 ((k, 6, 0), .idict []) _ _ hd) k1
  have g1 := b1 _ _ _ (upd_self H a1 ((k, 6, 0), .idict [])) (tag_ne (by decide))
  have B1 := (But.ext (t := (k, 1, 0)) (Ext.new n1 ((k, 6, 0), .idict []))).trans b1
  refine t_cons (t_assign_attr ?_)
  walk_at "gc"
  refine ⟨keeps_top P (by kernel_rfl), t_call (c_make P (by kernel_rfl : makeOk (KK w) 136 42 = true) (k, 3, 0) (k, 2, 0) fun mA dm nm nd nmd => ?_)⟩
  rw [lk_nil]
  have R2 : Room (n + 1) (A'.under (.builtin "type.__call__" ⟨.ref 136 :: [ch, so], []⟩)) := by
    exact R'.make
  refine c_marksInit P R2 k (upd_self _ _ _) (by rw [upd_ne _ _ nmd.symm, upd_self]) fun H2 l1 l2 l3 u hm2 hdm2 K2 _ _ _ _ _ _ h21 h22 h23 => ⟨rfl, ?_⟩
  have E12 : Ext H1 H2 := fun a y e => by
    have na : a ≠ dm := fun q => by rw [q, nd] at e; cases e
    have nb : a ≠ mA := fun q => by rw [q, nm] at e; cases e
    exact K2 a y (by rw [upd_ne _ _ nb, upd_ne _ _ na]; exact e) na
  have B2 := B1.trans (But.ext E12)
  walk_at "gc"
  refine s_add P (E12 _ _ hx1) (E12 _ _ hd1) (by kernel_rfl) (by decide) (by decide +kernel) rfl fun H3 hx3 hd3 k3 => ?_
  have b3 := But.one (E12 _ _ hd1) k3
  have B3 := B2.trans b3
  have g3 := b3 _ _ _ (E12 _ _ g1) (tag_ne (by decide))
  have m3 := b3 _ _ _ hm2 (tag_ne (by decide))
  have dm3 := b3 _ _ _ hdm2 (tag_ne (by decide))
  have h31 := b3 _ _ _ h21 (tag_ne (by decide))
  have h32 := b3 _ _ _ h22 (tag_ne (by decide))
  have h33 := b3 _ _ _ h23 (tag_ne (by decide))
  refine t_cons (t_assign_attr (t_list ?_))
  walk_at "gc"
  refine ⟨by decide, fun l4 n4 => ?_⟩
  refine t_retagNew (k, 13, 0) ?_
  have E4 := Ext.new n4 ((k, 13, 0), .list [])
  walk_at "gc"
  refine s_add P (E4 _ _ hx3) (E4 _ _ hd3) (by kernel_rfl) (by decide) (by decide +kernel) rfl fun H4 hx4 hd4 k4 => ?_
  have b4 := But.one (E4 _ _ hd3) k4
  have g4 := b4 _ _ _ (upd_self H3 l4 ((k, 13, 0), .list [])) (tag_ne (by decide))
  have B34 := (But.ext (t := (k, 1, 0)) E4).trans b4
  refine t_cons (t_assign_attr ?_)
  walk_at "gc"
  refine s_add P hx4 hd4 (by kernel_rfl) (by decide) (by decide +kernel) rfl fun H5 hx5 hd5 k5 => ?_
  have b5 := But.one hd4 k5
  refine t_cons (t_assign_attr (t_list ?_))
  walk_at "gc"
  refine ⟨by decide, fun l5 n5 => ?_⟩
  refine t_retagNew (k, 10, 0) ?_
  have E5 := Ext.new n5 ((k, 10, 0), .list [])
  walk_at "gc"
  refine s_add P (E5 _ _ hx5) (E5 _ _ hd5) (by kernel_rfl) (by decide) (by decide +kernel) rfl fun H6 hx6 hd6 k6 => ?_
  have b6 := But.one (E5 _ _ hd5) k6
  have g6 := b6 _ _ _ (upd_self H5 l5 ((k, 10, 0), .list [])) (tag_ne (by decide))
  have B36 := (B34.trans b5).trans ((But.ext (t := (k, 1, 0)) E5).trans b6)
  have g46 := ((b5.trans ((But.ext (t := (k, 1, 0)) E5).trans b6))) _ _ _ g4 (tag_ne (by decide))
  have M6 : Made k H6 mA dm a1 l1 l2 l3 l4 l5 ch so := ⟨B36 _ _ _ m3 (tag_ne (by decide)), ⟨u, B36 _ _ _ dm3 (tag_ne (by decide))⟩, B36 _ _ _ g3 (tag_ne (by decide)), B36 _ _ _ h31 (tag_ne (by decide)), B36 _ _ _ h32 (tag_ne (by decide)), B36 _ _ _ h33 (tag_ne (by decide)), g46, g6⟩
  have B6 := B3.trans B36
  clear B36 B34 B3 B2 B1 b1 b3 b4 b5 b6 k1 k3 k4 k5 k6 g1 g3 g4 g6 g46 m3 dm3 h31 h32 h33 E12 E4 E5 K2
  refine t_cons (t_assign_attr ?_)
  walk_at "gc"
  refine s_add P hx6 hd6 (by kernel_rfl) (by decide) (by decide +kernel) rfl fun H7 hx7 hd7 k7 => ?_
  have b7 := But.one hd6 k7
  refine t_cons (t_assign_attr ?_)
  walk_at "gc"
  refine s_add P hx7 hd7 (by kernel_rfl) (by decide) (by decide +kernel) rfl fun H8 hx8 hd8 k8 => ?_
  have b8 := b7.trans (But.one hd7 k8)
  refine t_cons (t_assign_attr ?_)
  walk_at "gc"
  refine s_add P hx8 hd8 (by kernel_rfl) (by decide) (by decide +kernel) rfl fun H9 hx9 hd9 k9 => ?_
  have b9 := b8.trans (But.one hd8 k9)
  refine t_cons (t_assign_attr ?_)
  walk_at "gc"
  refine s_add P hx9 hd9 (by kernel_rfl) (by decide) (by decide +kernel) rfl fun H10 hx10 hd10 k10 => ?_
  have b10 := b9.trans (But.one hd9 k10)
  refine t_cons (t_assign_attr ?_)
  walk_at "gc"
  refine s_add P hx10 hd10 (by kernel_rfl) (by decide) (by decide +kernel) rfl fun H11 hx11 hd11 k11 => ?_
  have b11 := b10.trans (But.one hd10 k11)
  refine t_cons (t_assign_attr ?_)
  walk_at "gc"
  refine t_mul (IntMulOk.of_right (by decide +kernel)) fun _ => ?_
  walk_at "gc"
  refine s_add P hx11 hd11 (by kernel_rfl) (by decide) (by decide +kernel) rfl fun H12 hx12 hd12 k12 => ?_
  have b12 := b11.trans (But.one hd11 k12)
  refine t_cons (t_assign_attr ?_)
  walk_at "gc"
  refine s_add P hx12 hd12 (by kernel_rfl) (by decide) (by decide +kernel) rfl fun H13 hx13 hd13 k13 => ?_
  have b13 := b12.trans (But.one hd12 k13)
  refine t_cons (t_assign_attr ?_)
  walk_at "gc"
  refine s_add P hx13 hd13 (by kernel_rfl) (by decide) (by decide +kernel) rfl fun H14 hx14 hd14 k14 => ?_
  have b14 := b13.trans (But.one hd13 k14)
  refine t_cons (t_assign_attr ?_)
  walk_at "gc"
  refine s_add P hx14 hd14 (by kernel_rfl) (by decide) (by decide +kernel) rfl fun H15 hx15 hd15 k15 => ?_
  have b15 := b14.trans (But.one hd14 k15)
  exact t_nil (h H15 mA dm a1 l1 l2 l3 l4 l5 _ _ _ _ _ _ _ _ _ _ hx15 hd15 (B6.trans b15) (M6.but b15))

/-- an EndCycle is made: an empty world stands -/
noncomputable def W0 (k : Nat) (C dC M dM objsA chF soF clF waF : Addr) (size sort kind : Nat → Int) (rev : Bool) : Wd := ⟨k, 0, C, dC, M, dM, objsA, fun _ => 0, fun _ => 0, fun i => i + 1, chF, soF, clF, waF, size, sort, kind, rev⟩
noncomputable def S0 (g a wk s d t r : Addr) : Sg := ⟨fun _ => 4, fun _ => false, [], [], [], [], [], [], [], 0, 0, 0, 0, g, a, wk, s, d, t, r⟩
theorem c_endInit (P : Tp (KK w) hT) (R : Room (n + 4) A) {k : Nat} {x d ch so cl wa : Addr} {size sort kind : Nat → Int} {rev : Bool} {Q : Value → LH → Prop} (hx : H x = some ((k, 0, 0), .inst 421 d)) (hd : H d = some ((k, 1, 0), .ns 0 (lk [] [])))
    (h : ∀ H' mA dm a1 l1 l2 l3 l4 l5 l6 l7, WR (W0 k x d mA dm a1 ch so cl wa size sort kind rev) (S0 l1 l2 l3 l5 l6 l7 l4) H' → But (k, 1, 0) H H' → Q .none H') : C PG w hT A (.ref 378) ⟨[.ref x, .ref ch, .ref so, .ref cl, .ref wa], []⟩ H Q := by
  refine c_fn (ps := ["self", "children", "sort_of", "clear_weak", "wants_end"]) (ls := []) (gs := [("Cycle", .ref 346)]) (vals := [.ref x, .ref ch, .ref so, .ref cl, .ref wa]) (ns := ["self", "children", "sort_of", "clear_weak", "wants_end"]) (vs := [some (.ref x), some (.ref ch), some (.ref so), some (.ref cl), some (.ref wa)]) P R (by kernel_rfl) (by kernel_rfl) rfl fun L env A' he F R' => ?_
  refine t_cons (t_exprF F ?_)
  walk_at "gc"
  refine t_methodCls P (by kernel_rfl : clsFnOk (KK w) 346 "__init__" 182 = true) ?_
  walk_at "gc"
  refine ⟨keeps_top P (by kernel_rfl), t_call (c_cycleInit P R' hx hd fun H1 mA dm a1 l1 l2 l3 l4 l5 u3 u5 u6 u7 u8 u9 u10 u11 u12 u13 hx1 hd1 B1 M1 => ?_)⟩
  refine t_cons (t_assign_attr ?_)
  walk_at "gc"
  refine s_add P hx1 hd1 (by kernel_rfl) (by decide) (by decide +kernel) rfl fun H2 hx2 hd2 k2 => ?_
  refine t_cons (t_assign_attr ?_)
  walk_at "gc"
  refine s_add P hx2 hd2 (by kernel_rfl) (by decide) (by decide +kernel) rfl fun H3 hx3 hd3 k3 => ?_
  have b3 := (But.one hd1 k2).trans (But.one hd2 k3)
  have B3 := B1.trans b3
  have M3 := M1.but b3
  refine t_cons (t_assign_attr (t_list ?_))
  walk_at "gc"
  refine ⟨by decide, fun l6 n6 => ?_⟩
  refine t_retagNew (k, 11, 0) ?_
  have E6 := Ext.new n6 ((k, 11, 0), .list [])
  walk_at "gc"
  refine s_add P (E6 _ _ hx3) (E6 _ _ hd3) (by kernel_rfl) (by decide) (by decide +kernel) rfl fun H4 hx4 hd4 k4 => ?_
  have b4 := But.one (E6 _ _ hd3) k4
  have g4 := b4 _ _ _ (upd_self H3 l6 ((k, 11, 0), .list [])) (tag_ne (by decide))
  have B34 := (But.ext (t := (k, 1, 0)) E6).trans b4
  refine t_cons (t_assign_attr (t_list ?_))
  walk_at "gc"
  refine ⟨by decide, fun l7 n7 => ?_⟩
  refine t_retagNew (k, 12, 0) ?_
  have E7 := Ext.new n7 ((k, 12, 0), .list [])
  walk_at "gc"
  refine s_add P (E7 _ _ hx4) (E7 _ _ hd4) (by kernel_rfl) (by decide) (by decide +kernel) rfl fun H5 hx5 hd5 k5 => ?_
  have b5 := But.one (E7 _ _ hd4) k5
  have g5 := b5 _ _ _ (upd_self H4 l7 ((k, 12, 0), .list [])) (tag_ne (by decide))
  have B45 := (But.ext (t := (k, 1, 0)) E7).trans b5
  have B5 := B34.trans B45
  have M5 := M3.but B5
  refine t_nil (h H5 mA dm a1 l1 l2 l3 l4 l5 l6 l7 ?_ (B3.trans B5))
  exact { c := hx5
          dc := ⟨⟨0, 0, 256, 64⟩, fun i => if i = 3 then u3 else if i = 5 then u5 else if i = 6 then u6 else if i = 7 then u7 else if i = 8 then u8 else if i = 9 then u9 else if i = 10 then u10 else if i = 11 then u11 else if i = 12 then u12 else u13, ⟨Int.le_refl _, by decide, by decide, by decide⟩, hd5⟩
          m := M5.m
          dm := M5.dm
          o := fun i hi => absurd hi (Nat.not_lt_zero _)
          d := fun i hi => absurd hi (Nat.not_lt_zero _)
          objs := M5.objs
          grey := M5.grey
          again := M5.again
          weak := M5.weak
          sweep := ⟨[], M5.sweep, .nil⟩
          datas := B45 _ _ _ g4 (tag_ne (by decide))
          tofin := g5
          root := M5.root }
end

/-! part M19 -/
section
variable {w : World} {hT : Heap} {A : Around} {L : Addr} {m : Loc} {H : LH} {n : Nat} {W : Wd} {σ : Sg} {E : Nat → List Nat}
theorem c_objInit (P : Tp (KK w) hT) (R : Room (n + 1) A) {x d : Addr} {a b : Int} {ta tb : Tok} {t t' : Tag} {Q : Value → LH → Prop} (hx : H x = some (t, .inst 440 d)) (hd : H d = some (t', .ns 0 (lk [] [])))
    (h : ∀ H' u, H' x = some (t, .inst 440 d) → H' d = some (t', .ns 3 (lk ["number", "mark", "size"] [some (.int a ta), some (.int 0 u), some (.int b tb)])) → Keep1 d H H' → Q .none H') : C PG w hT A (.ref 437) ⟨[.ref x, .int a ta, .int b tb], []⟩ H Q := by
  refine c_fn (ps := ["self", "number", "size"]) (ls := []) (gs := []) (vals := [.ref x, .int a ta, .int b tb]) (ns := ["self", "number", "size"]) (vs := [some (.ref x), some (.int a ta), some (.int b tb)]) P R (by kernel_rfl) (by kernel_rfl) rfl fun L env A' he F R' => ?_
  refine t_cons (t_assign_attr ?_)
  walk_at "gc"
  refine s_add P hx hd (by kernel_rfl) (by decide) (by decide +kernel) rfl fun H1 hx1 hd1 k1 => ?_
  refine t_cons (t_assign_attr ?_)
  walk_at "gc"
  refine s_add P hx1 hd1 (by kernel_rfl) (by decide) (by decide +kernel) rfl fun H2 hx2 hd2 k2 => ?_
  refine t_cons (t_assign_attr ?_)
  walk_at "gc"
  refine s_add P hx2 hd2 (by kernel_rfl) (by decide) (by decide +kernel) rfl fun H3 hx3 hd3 k3 => ?_
  exact t_nil (h _ _ hx3 hd3 ((k1.trans k2).trans k3))

theorem WR.keep5 {j : Nat} {H H' : LH} (h : WR W σ H) (hj : W.n ≤ j) (b : But (W.k, 5, j) H H') : WR W σ H' where
  c := b _ _ _ h.c (tag_ne (by decide))
  dc := let ⟨q, tk, x, y⟩ := h.dc; ⟨q, tk, x, b _ _ _ y (tag_ne (by decide))⟩
  m := b _ _ _ h.m (tag_ne (by decide))
  dm := let ⟨t, y⟩ := h.dm; ⟨t, b _ _ _ y (tag_ne (by decide))⟩
  o := fun i hi => b _ _ _ (h.o i hi) (tag_ne (by decide))
  d := fun i hi => let ⟨t0, t1, t2, y⟩ := h.d i hi; ⟨t0, t1, t2, b _ _ _ y fun e => by
    have : i = j := congrArg (fun t : Tag => t.2.2) e
    lia⟩
  objs := b _ _ _ h.objs (tag_ne (by decide))
  grey := b _ _ _ h.grey (tag_ne (by decide))
  again := b _ _ _ h.again (tag_ne (by decide))
  weak := b _ _ _ h.weak (tag_ne (by decide))
  sweep := let ⟨vs, y, z⟩ := h.sweep; ⟨vs, b _ _ _ y (tag_ne (by decide)), z⟩
  datas := b _ _ _ h.datas (tag_ne (by decide))
  tofin := b _ _ _ h.tofin (tag_ne (by decide))
  root := b _ _ _ h.root (tag_ne (by decide))
/-- one more thing -/
noncomputable def Wd.grow (W : Wd) (x d : Addr) : Wd := { W with n := W.n + 1, O := setM W.O W.n x, D := setM W.D W.n d }
theorem grow_refs {W : Wd} {x d : Addr} {l : List Nat} (h : ∀ i ∈ l, i < W.n) : (W.grow x d).refs l = W.refs l := by
  unfold Wd.refs
  apply List.map_congr_left
  intro i hi
  show Value.ref (setM W.O W.n x i) = _
  rw [setM_ne _ _ (by have := h i hi; (refine Nat.ne_of_lt ?_; assumption))]
theorem grow_pairs {W : Wd} {x d : Addr} {l : List Nat} (h : ∀ i ∈ l, i < W.n) : (W.grow x d).pairs l = W.pairs l := by
  unfold Wd.pairs
  apply List.map_congr_left
  intro i hi
  show ((W.num i : Int), Value.ref (setM W.O W.n x i)) = _
  rw [setM_ne _ _ (by have := h i hi; (refine Nat.ne_of_lt ?_; assumption))]
/-- the lists of a world that is being made hold things that are there -/
structure Lists (W : Wd) (σ : Sg) : Prop where
  objs : ∀ i ∈ σ.objs, i < W.n
  grey : ∀ i ∈ σ.grey, i < W.n
  again : ∀ i ∈ σ.again, i < W.n
  datas : ∀ i ∈ σ.datas, i < W.n
  tofin : ∀ i ∈ σ.tofin, i < W.n
  root : ∀ i ∈ σ.rootl, i < W.n
noncomputable def taken (W : Wd) (σ : Sg) : Sg := { σ with mark := setM σ.mark W.n σ.white, fz := setM σ.fz W.n false, objs := σ.objs ++ [W.n], total := σ.total + W.size W.n }
theorem c_takein (P : Tp (KK w) hT) (R : Room (n + 1) A) {x d : Addr} {a b c : Int} {ta tb tc tn ts : Tok} {Q : Value → LH → Prop} (hW : WR W σ H) (hL : Lists W σ) (hx : H x = some ((W.k, 4, W.n), .inst 440 d)) (hd : H d = some ((W.k, 5, W.n), .ns 4 (lk objNames [some (.int a ta), some (.int b tb), some (.int c tc), some (.bool false)])))
    (inj : ∀ i, W.num i = W.num W.n → i = W.n) (hz : σ.objs.length ≤ 1000)
    (h : ∀ H', WR (W.grow x d) (taken W σ) H' → Frame W.k H H' → Q .none H') : C PG w hT A (.ref 189) ⟨[.ref W.C, .ref x, .int (W.num W.n : Int) tn, .int (W.size W.n) ts], []⟩ H Q := by
  refine c_fn (ps := ["self", "obj", "number", "size"]) (ls := []) (gs := []) (vals := [.ref W.C, .ref x, .int (W.num W.n : Int) tn, .int (W.size W.n) ts]) (ns := ["self", "obj", "number", "size"]) (vs := [some (.ref W.C), some (.ref x), some (.int (W.num W.n : Int) tn), some (.int (W.size W.n) ts)]) P R (by kernel_rfl) (by kernel_rfl) rfl fun L env A' he F R' => ?_
  have ne : x ≠ d := ne_of_tag hx hd (tag_ne (by decide))
  refine t_cons (t_assign_attr ?_)
  walk_at "gc"
  refine t_put P hx hd obj_nd (putO w) (by decide) (by walk_at "gc_at") (by walk_at "gc_put") ?_
  have b1 := But.upd hd (c' := .ns 4 (lk objNames [some (.int (W.num W.n : Int) tn), some (.int b tb), some (.int c tc), some (.bool false)])) (W.k, 5, W.n)
  have hx1 := b1 _ _ _ hx (tag_ne (by decide))
  have hd1 := upd_self H d ((W.k, 5, W.n), Cell.ns 4 (lk objNames [some (.int (W.num W.n : Int) tn), some (.int b tb), some (.int c tc), some (.bool false)]))
  revert b1 hx1 hd1
  generalize upd H d ((W.k, 5, W.n), Cell.ns 4 (lk objNames [some (.int (W.num W.n : Int) tn), some (.int b tb), some (.int c tc), some (.bool false)])) = H1
  intro b1 hx1 hd1
  refine t_cons (t_assign_attr ?_)
  have hW1 := hW.keep5 (Nat.le_refl _) b1
  walk_at "gc"
  refine g_marks P hW1 ?_
  refine g_white P hW1 fun tw => ?_
  walk_at "gc"
  refine t_put P hx1 hd1 obj_nd (putO w) (by decide) (by walk_at "gc_at") (by walk_at "gc_put") ?_
  have b2 := b1.trans (But.upd hd1 (c' := .ns 4 (lk objNames [some (.int (W.num W.n : Int) tn), some (.int σ.white tw), some (.int c tc), some (.bool false)])) (W.k, 5, W.n))
  have hx2 := b2 _ _ _ hx (tag_ne (by decide))
  have hd2 := upd_self H1 d ((W.k, 5, W.n), Cell.ns 4 (lk objNames [some (.int (W.num W.n : Int) tn), some (.int σ.white tw), some (.int c tc), some (.bool false)]))
  revert b2 hx2 hd2
  generalize upd H1 d ((W.k, 5, W.n), Cell.ns 4 (lk objNames [some (.int (W.num W.n : Int) tn), some (.int σ.white tw), some (.int c tc), some (.bool false)])) = H2
  intro b2 hx2 hd2
  refine t_cons (t_assign_attr ?_)
  walk_at "gc"
  refine t_put P hx2 hd2 obj_nd (putO w) (by decide) (by walk_at "gc_at") (by walk_at "gc_put") ?_
  have b3 := b2.trans (But.upd hd2 (c' := .ns 4 (lk objNames [some (.int (W.num W.n : Int) tn), some (.int σ.white tw), some (.int (W.size W.n) ts), some (.bool false)])) (W.k, 5, W.n))
  have hx3 := b3 _ _ _ hx (tag_ne (by decide))
  have hd3 := upd_self H2 d ((W.k, 5, W.n), Cell.ns 4 (lk objNames [some (.int (W.num W.n : Int) tn), some (.int σ.white tw), some (.int (W.size W.n) ts), some (.bool false)]))
  revert b3 hx3 hd3
  generalize upd H2 d ((W.k, 5, W.n), Cell.ns 4 (lk objNames [some (.int (W.num W.n : Int) tn), some (.int σ.white tw), some (.int (W.size W.n) ts), some (.bool false)])) = H3
  intro b3 hx3 hd3
  have hW3 := hW.keep5 (Nat.le_refl _) b3
  -- the world with the thing, but not yet in the dict
  have hG : WR (W.grow x d) { σ with mark := setM σ.mark W.n σ.white, fz := setM σ.fz W.n false } H3 := by
    refine { c := hW3.c, dc := hW3.dc, m := hW3.m, dm := hW3.dm, o := fun i hi => ?_, d := fun i hi => ?_, objs := ?_, grey := ?_, again := ?_, weak := hW3.weak, sweep := hW3.sweep, datas := ?_, tofin := ?_, root := ?_ }
    · by_cases q : i = W.n
      · subst q
        show H3 (setM W.O W.n x W.n) = some ((W.k, 4, W.n), .inst 440 (setM W.D W.n d W.n))
        rw [setM_self, setM_self]; exact hx3
      · have hi' : i < W.n := by have : i < W.n + 1 := hi; lia
        show H3 (setM W.O W.n x i) = some ((W.k, 4, i), .inst 440 (setM W.D W.n d i))
        rw [setM_ne _ _ q, setM_ne _ _ q]; exact hW3.o i hi'
    · by_cases q : i = W.n
      · subst q
        refine ⟨tn, tw, ts, ?_⟩
        show H3 (setM W.D W.n d W.n) = some ((W.k, 5, W.n), .ns 4 (lk objNames [some (.int (W.num W.n : Int) tn), some (.int (setM σ.mark W.n σ.white W.n) tw), some (.int (W.size W.n) ts), some (.bool (setM σ.fz W.n false W.n))]))
        rw [setM_self, setM_self, setM_self]; exact hd3
      · have hi' : i < W.n := by have : i < W.n + 1 := hi; omega
        obtain ⟨t0, t1, t2, y⟩ := hW3.d i hi'
        refine ⟨t0, t1, t2, ?_⟩
        show H3 (setM W.D W.n d i) = some ((W.k, 5, i), .ns 4 (lk objNames [some (.int (W.num i : Int) t0), some (.int (setM σ.mark W.n σ.white i) t1), some (.int (W.size i) t2), some (.bool (setM σ.fz W.n false i))]))
        rw [setM_ne _ _ q, setM_ne _ _ q, setM_ne _ _ q]; exact y
    · show H3 W.objsA = _
      rw [grow_pairs hL.objs]; exact hW3.objs
    · rw [grow_refs hL.grey]; exact hW3.grey
    · rw [grow_refs hL.again]; exact hW3.again
    · rw [grow_refs hL.datas]; exact hW3.datas
    · rw [grow_refs hL.tofin]; exact hW3.tofin
    · rw [grow_refs hL.root]; exact hW3.root
  refine t_cons (t_assign_sub ?_)
  walk_at "gc"
  refine g_objects P hW3 ?_
  walk_at "gc"
  refine t_setitem_idict hW3.objs (by rw [pairs_len]; exact hz) ?_
  have hst : stored (W.pairs σ.objs) (W.num W.n : Int) (.ref x) = (W.grow x d).pairs (σ.objs ++ [W.n]) := by
    unfold stored
    have : (W.pairs σ.objs).any (fun kv => decide (kv.1 = (W.num W.n : Int))) = false := by
      rw [List.any_eq_false]
      intro kv hkv
      obtain ⟨i, hi, rfl⟩ := List.mem_map.mp hkv
      simp only [decide_eq_true_eq]
      intro e
      have := inj i (by lia)
      have := hL.objs i hi
      lia
    rw [this, if_neg Bool.false_ne_true]
    have e2 : (W.grow x d).pairs (σ.objs ++ [W.n]) = (W.grow x d).pairs σ.objs ++ [((W.num W.n : Int), .ref (setM W.O W.n x W.n))] := List.map_append
    rw [e2, grow_pairs hL.objs, setM_self]
  rw [hst]
  have hobjs : H3 (W.grow x d).objsA = some (((W.grow x d).k, 6, 0), .idict (W.pairs σ.objs)) := hW3.objs
  have hG4 := hG.setObjs (x_objs := σ.objs ++ [W.n]) (fun a s c e _ ne => But.upd hobjs (c' := .idict ((W.grow x d).pairs (σ.objs ++ [W.n]))) (W.k, 6, 0) a s c e fun q => ne (by rw [q])) (upd_self _ _ _)
  have f4 : Frame W.k H3 (upd H3 W.objsA ((W.k, 6, 0), .idict ((W.grow x d).pairs (σ.objs ++ [W.n])))) := Frame.upd hW3.objs (mine_le (by decide))
  have f3 : Frame W.k H H3 := fun a s c e ns => b3 a s c e fun q => ns (by rw [q]; exact mine_le (by decide))
  dsimp only at hG4
  change WR (W.grow x d) _ (upd H3 W.objsA ((W.k, 6, 0), .idict ((W.grow x d).pairs (σ.objs ++ [W.n])))) at hG4
  revert hG4 f4
  generalize upd H3 W.objsA ((W.k, 6, 0), .idict ((W.grow x d).pairs (σ.objs ++ [W.n]))) = H4
  intro f4 hG4
  refine t_cons (t_aug_attr ?_)
  walk_at "gc"
  refine g_total (W := W.grow x d) P hG4 fun _ => ?_
  walk_at "gc"
  refine s_total (W := W.grow x d) P hG4 fun H5 hG5 f5 => ?_
  exact t_nil (h _ hG5 ((f3.trans f4).trans f5))
end

/-! part M22 -/
noncomputable abbrev wdict (oA aA tA : Addr) (turn : Int) (t : Tok) (C : Addr) : List (Str × Value) := [("order", .ref oA), ("all", .ref aA), ("told", .ref tA), ("turn", .int turn t), ("cycle", .ref C)]
theorem wd_order {a b c d e : Value} : valueAt [(("order" : Str), a), (("all" : Str), b), (("told" : Str), c), (("turn" : Str), d), (("cycle" : Str), e)] "order" = some a := by kernel_rfl
theorem wd_all {a b c d e : Value} : valueAt [(("order" : Str), a), (("all" : Str), b), (("told" : Str), c), (("turn" : Str), d), (("cycle" : Str), e)] "all" = some b := by kernel_rfl
theorem wd_told {a b c d e : Value} : valueAt [(("order" : Str), a), (("all" : Str), b), (("told" : Str), c), (("turn" : Str), d), (("cycle" : Str), e)] "told" = some c := by kernel_rfl
theorem wd_turn {a b c d e : Value} : valueAt [(("order" : Str), a), (("all" : Str), b), (("told" : Str), c), (("turn" : Str), d), (("cycle" : Str), e)] "turn" = some d := by kernel_rfl
theorem wd_cycle {a b c d e : Value} : valueAt [(("order" : Str), a), (("all" : Str), b), (("told" : Str), c), (("turn" : Str), d), (("cycle" : Str), e)] "cycle" = some e := by kernel_rfl
theorem wd_settold {a b c d e z : Value} : stored [(("order" : Str), a), (("all" : Str), b), (("told" : Str), c), (("turn" : Str), d), (("cycle" : Str), e)] "told" z = [(("order" : Str), a), (("all" : Str), b), (("told" : Str), z), (("turn" : Str), d), (("cycle" : Str), e)] := by kernel_rfl
/-- a world of the law: its dict, the order of its things, the things by name, what was told -/
structure LW (H : LH) (W : Wd) (wd oA aA tA : Addr) (nm : Nat → Nat) (ps : Nat → Nat) (told : List Nat) : Prop where
  d : ∃ t, H wd = some ((W.k, 14, 0), .sdict (wdict oA aA tA (if W.rev then -1 else 1) t W.C))
  o : ∃ vs, H oA = some ((W.k, 15, 0), .list vs) ∧ IntsAre vs (asInts ((List.range W.n).map nm))
  a : H aA = some ((W.k, 16, 0), .idict ((List.range W.n).map fun i => ((nm i : Int), .ref (W.O i))))
  t : ∃ vs, H tA = some ((W.k, 17, 0), .list vs) ∧ IntsAre vs (asInts told)
  np : ∀ i < W.n, nm i < W.n ∧ ps (nm i) = i
  pn : ∀ i < W.n, ps i < W.n ∧ nm (ps i) = i
theorem LW.frame {H H' : LH} {W : Wd} {wd oA aA tA : Addr} {nm ps : Nat → Nat} {told : List Nat} (X : LW H W wd oA aA tA nm ps told) (f : Frame W.k H H') : LW H' W wd oA aA tA nm ps told :=
  have k : ∀ {r i : Nat}, 13 < r → ¬ mine W.k (W.k, r, i) := fun h e => absurd e.2 (Nat.not_le.mpr h)
  ⟨let ⟨t, e⟩ := X.d; ⟨t, f _ _ _ e (k (by decide))⟩, let ⟨vs, e, g⟩ := X.o; ⟨vs, f _ _ _ e (k (by decide)), g⟩, f _ _ _ X.a (k (by decide)), let ⟨vs, e, g⟩ := X.t; ⟨vs, f _ _ _ e (k (by decide)), g⟩, X.np, X.pn⟩
theorem LW.other {H H' : LH} {W : Wd} {k : Nat} {wd oA aA tA : Addr} {nm ps : Nat → Nat} {told : List Nat} (X : LW H W wd oA aA tA nm ps told) (ne : W.k ≠ k) (f : Frame k H H') : LW H' W wd oA aA tA nm ps told :=
  have q : ∀ {r i : Nat}, ¬ mine k (W.k, r, i) := fun e => ne e.1
  ⟨let ⟨t, e⟩ := X.d; ⟨t, f _ _ _ e q⟩, let ⟨vs, e, g⟩ := X.o; ⟨vs, f _ _ _ e q, g⟩, f _ _ _ X.a q, let ⟨vs, e, g⟩ := X.t; ⟨vs, f _ _ _ e q, g⟩, X.np, X.pn⟩
/-- a thing by its name -/
theorem LW.byname {H : LH} {W : Wd} {wd oA aA tA : Addr} {nm ps : Nat → Nat} {told : List Nat} (X : LW H W wd oA aA tA nm ps told) {i : Nat} (hi : i < W.n) : valueAt ((List.range W.n).map fun j => ((nm j : Int), Value.ref (W.O j))) (i : Int) = some (.ref (W.O (ps i))) := by
  have key : ∀ l : List Nat, (∀ j ∈ l, j < W.n) → ps i ∈ l → valueAt (l.map fun j => ((nm j : Int), Value.ref (W.O j))) (i : Int) = some (.ref (W.O (ps i))) := by
    intro l
    induction l with
    | nil => intro _ h; cases h
    | cons j l ih =>
      intro hl hm
      unfold valueAt at *
      rw [List.map_cons, List.find?_cons]
      by_cases q : nm j = i
      · have : ps i = j := by rw [← q]; exact (X.np j (hl j List.mem_cons_self)).2
        rw [this]; simp [q]
      · have ne : ¬ ((nm j : Int) = (i : Int)) := fun e => q (by lia)
        simp only [ne, decide_false]
        refine ih (fun x hx => hl x (List.mem_cons_of_mem _ hx)) ?_
        rcases List.mem_cons.mp hm with e | e
        · exact absurd (by rw [← e]; exact (X.pn i hi).2) q
        · exact e
  exact key _ (fun j hj => List.mem_range.mp hj) (List.mem_range.mpr (X.pn i hi).1)

/-! part M23 -/
section
variable {w : World} {hT : Heap} {A : Around} {L : Addr} {m : Loc} {H : LH} {k : Nat} {W : Wd} {σ : Sg} {E : Nat → List Nat}
noncomputable def rootsOf (W : Wd) (ps : Nat → Nat) (ro : List Nat) : List Nat := (if W.rev then ro.reverse else ro).map ps
theorem pick_turn (vs : List Value) (b : Bool) : (slicePick vs.toArray none none (some (if b then -1 else 1))).toList = if b then vs.reverse else vs := by
  cases b
  · exact pick_all vs
  · exact pick_rev vs
theorem ints_rev {vs : List Value} {l : List Nat} (h : IntsAre vs (asInts l)) (b : Bool) : IntsAre (if b then vs.reverse else vs) (asInts (if b then l.reverse else l)) := by
  cases b
  · exact h
  · have key : ∀ (vs : List Value) (ns : List Int), IntsAre vs ns → IntsAre vs.reverse ns.reverse := by
      intro vs ns h
      induction h with
      | nil => exact .nil
      | cons a t _ ih =>
        rw [List.reverse_cons, List.reverse_cons]
        exact ints_append ih (.cons a t .nil)
    have := key _ _ h
    unfold asInts at *
    simp only [if_true]
    rw [List.map_reverse]; exact this

theorem c_rooted (P : Tp (KK w) hT) (R : Room (k + 3) A) {n : Nat} {eA rA : Addr} {eL : Nat → Addr} {ed : Nat → List Nat} {ro : List Nat} {wd oA aA tA : Addr} {nm ps : Nat → Nat} {told : List Nat} {Q : Value → LH → Prop}
    (hW : WR W σ H) (kp : W.k ≠ 0) (G : Gr H n eA rA eL ed ro) (X : LW H W wd oA aA tA nm ps told) (hn : W.n = n)
    (h : ∀ H' r, WR W { σ with rootl := rootsOf W ps ro, rootA := r } H' → Frame W.k H H' → Q .none H') : C PG w hT A (.ref 470) ⟨[.ref wd, .ref rA], []⟩ H Q := by
  refine c_fnC (ps := ["world", "roots"]) (ls := []) (cn := ["world"]) (gs := []) (ns := ["roots"]) (vs := [some (.ref rA)]) (zs := [("roots", .ref rA)]) (zc := [("world", .ref wd)]) (fs := fun L => [("world", L + 1)]) (cvs := fun L => [(L + 1, some (.ref wd))]) P R
    (by kernel_rfl) (by kernel_rfl) (by kernel_rfl) rfl (by kernel_rfl) (by kernel_rfl) rfl rfl (fun L => by kernel_rfl) (fun L => rfl) (fun L => by kernel_rfl) fun L env A' H1 he F R' e1 hc _ => ?_
  have hcw := (hc _ List.mem_cons_self).1
  obtain ⟨rv, hr, hri, hrz⟩ := G.r
  have X1 := X.frame (Frame.ext e1)
  obtain ⟨td, hwd⟩ := X1.d
  refine t_cons (t_assign_attr ?_)
  refine t_compListF P F R'.h [] [("world", L + 1)] (cl := [("world", L + 1)]) (by rw [he]; kernel_rfl) (by kernel_rfl) (fun p hp => by rw [List.mem_singleton] at hp; subst hp; kernel_rfl) ?_
  walk_at "gc"
  refine t_slice3 ?_
  refine t_index ?_
  refine t_name_cell F List.mem_cons_self hcw ?_
  walk_at "gc"
  refine t_getitem_sdict hwd wd_turn fun sl nsl => ?_
  have es := Ext.new nsl (tmp, .obj (sliceObj .none .none (.int (if W.rev then -1 else 1) td)))
  refine t_item_slice (es _ _ (e1 _ _ hr)) (upd_self _ _ _) .none .none (.int _ td) (by cases W.rev <;> decide) (by lia) fun l nl => ?_
  rw [pick_turn]
  have e2 := (e1.trans es).trans (Ext.new nl (tmp, .list (if W.rev then rv.reverse else rv)))
  have hl := upd_self (upd H1 sl (tmp, .obj (sliceObj .none .none (.int (if W.rev then -1 else 1) td)))) l (tmp, Cell.list (if W.rev then rv.reverse else rv))
  have hcw2 := (es.trans (Ext.new nl (tmp, .list (if W.rev then rv.reverse else rv)))) _ _ hcw
  revert e2 hl hcw2
  generalize upd (upd H1 sl (tmp, .obj (sliceObj .none .none (.int (if W.rev then -1 else 1) td)))) l (tmp, Cell.list (if W.rev then rv.reverse else rv)) = H2
  intro e2 hl hcw2
  have hz2 : (if W.rev then rv.reverse else rv).length ≤ 1000 := by
    split
    · rw [List.length_reverse]; omega
    · omega
  have X2 := X.frame (Frame.ext e2)
  obtain ⟨td2, hwd2⟩ := X2.d
  have hri2 := ints_rev hri W.rev
  refine ⟨l, _, fun i acc H' => And3 (H' = H2) (acc.length = i) (acc = W.refs (((if W.rev then ro.reverse else ro).take i).map ps)), rfl, hz2, ⟨rfl, rfl, rfl⟩, ?_, ?_, ?_⟩
  · rintro i acc H' ⟨rfl, ha, -⟩
    exact ⟨ha, _, hl⟩
  · rintro J C env' i acc hJ H' v Fc ⟨rfl, ha, hacc⟩ hv
    obtain ⟨tv, rfl⟩ := ints_at hri2 i v hv
    have hil : i < (if W.rev then ro.reverse else ro).length := by
      have a1 := (List.getElem?_eq_some_iff.mp hv).1
      have a2 := hri2.length
      unfold asInts at a2
      rw [List.length_map] at a2
      lia
    obtain ⟨x, hx⟩ : ∃ x, (if W.rev then ro.reverse else ro)[i]? = some x := ⟨_, List.getElem?_eq_getElem hil⟩
    have hxn : x < W.n := by
      rw [hn]
      refine G.rb x ?_
      have := List.mem_of_getElem? hx
      split at this
      · exact List.mem_reverse.mp this
      · exact this
    have hval : ((asInts (if W.rev then ro.reverse else ro))[i]?).getD 0 = (x : Int) := by
      unfold asInts; rw [List.getElem?_map, hx]; rfl
    rw [hval]
    walk_at "gc"
    refine t_name_cell Fc List.mem_cons_self hcw2 ?_
    walk_at "gc"
    refine t_getitem_sdict hwd2 wd_all ?_
    walk_at "gc"
    refine t_getitem_idict X2.a (X2.byname hxn) ?_
    refine ⟨rfl, hJ _ _ ⟨rfl, by simp [ha], ?_⟩⟩
    rw [hacc, List.take_add_one, hx, List.map_append, refs_append]; rfl
  · rintro acc H' ⟨rfl, ha, hacc⟩ r hr2
    refine t_index ?_
    have en := Ext.new hr2 (tmp, .list acc)
    refine t_name_cell F List.mem_cons_self (en _ _ hcw2) ?_
    walk_at "gc"
    refine t_getitem_sdict (en _ _ hwd2) wd_cycle ?_
    have hW3 := hW.ext (e2.trans en)
    have hfull : acc = W.refs (rootsOf W ps ro) := by
      rw [hacc]
      unfold rootsOf
      have a2 := hri2.length
      unfold asInts at a2
      rw [List.length_map] at a2
      rw [a2, List.take_length]
    refine s_rootNew (gs := rootsOf W ps ro) P hW3 kp (by rw [upd_self, hfull]) fun H4 hW4 k4 => ?_
    refine t_nil (h _ _ hW4 fun a t c e ns => k4 a t c (en _ _ (e2 _ _ e)) ns fun q => ?_)
    rw [q] at e
    rw [e2 _ _ e] at hr2; cases hr2
end

/-! part P5 -/
noncomputable def drained (σ : Sg) (i : Nat) : Sg := { σ with tofin := σ.tofin.drop i, datas := σ.datas ++ σ.tofin.take i, mark := fun j => if j ∈ σ.tofin.take i then σ.white else σ.mark j }
theorem Good.drain {W : Wd} {E : Nat → List Nat} {told : List Nat} {σ : Sg} (G : Good W E told σ) : Good W E (told ++ σ.tofin) (drained σ σ.tofin.length) ∧ ∀ k, Lv W E k σ → Lv W E k (drained σ σ.tofin.length) := by
  have e1 : σ.tofin.take σ.tofin.length = σ.tofin := List.take_length
  have e2 : σ.tofin.drop σ.tofin.length = [] := List.drop_length
  unfold drained
  rw [e1, e2]
  have hw := G.wh
  have hfz : ∀ i ∈ σ.tofin, σ.fz i = true := fun i hi => ((G.told i).mp (List.mem_append_right _ hi)).2.2
  have h4 : ∀ i ∈ σ.tofin, σ.mark i ≠ 4 := fun i hi z => G.fin i hi (.inl z)
  have hg : ∀ i, gone { σ with tofin := [], datas := σ.datas ++ σ.tofin, mark := fun j => if j ∈ σ.tofin then σ.white else σ.mark j } i ↔ gone σ i := fun i => by
    unfold gone
    dsimp only
    by_cases q : i ∈ σ.tofin
    · rw [if_pos q]
      have := G.fin i q
      unfold gone at this
      constructor
      · rintro (z | ⟨_, z⟩) <;> lia
      · intro z; exact absurd z this
    · rw [if_neg q]
  have hp1 : σ.phase = 1 → σ.tofin = [] := fun z => (G.p1 z).1
  have hm1 : σ.phase = 1 → (fun j => if j ∈ σ.tofin then σ.white else σ.mark j) = σ.mark := fun z => by
    funext j; rw [hp1 z]; simp
  refine ⟨⟨?_, hw, fun i => ?_, fun i => ?_, fun i hi z => G.live i hi ((hg i).mp z), fun z i => ?_, fun z => ⟨rfl, ?_⟩, G.p2, fun i hi => (by cases hi), G.fz, fun i hi hk z => G.lost i hi hk ((hg i).mp z), fun i hi hk z => List.mem_append_left _ (G.dat i hi hk z), ?_, List.Pairwise.nil, ?_, fun i => ?_⟩, fun k h => ?_⟩
  · have w := G.wi
    refine ⟨w.vl, w.phase, fun z => ?_, w.ga, w.root, fun i hi => (List.mem_append.mp hi).elim (w.datas i) (w.tofin i), fun i hi => (by cases hi), ?_, w.objs, w.nd, w.sw, w.total⟩
    · have := w.p1 z
      unfold pot at *
      dsimp only
      rw [hm1 z]; exact this
    · show (σ.datas ++ σ.tofin).length + 0 ≤ W.n
      rw [List.length_append]; exact w.dt
  · show i ∈ σ.objs ↔ (if i ∈ σ.tofin then σ.white else σ.mark i) ≠ 4
    by_cases q : i ∈ σ.tofin
    · rw [if_pos q, G.mem]
      have := h4 i q
      exact ⟨fun _ => by lia, fun _ => this⟩
    · rw [if_neg q]; exact G.mem i
  · show (if i ∈ σ.tofin then σ.white else σ.mark i) = 4 ∨ (if i ∈ σ.tofin then σ.white else σ.mark i) = 2 ∨ (if i ∈ σ.tofin then σ.white else σ.mark i) = 3 ∨ (if i ∈ σ.tofin then σ.white else σ.mark i) = σ.white ∨ (σ.phase = 2 ∧ (if i ∈ σ.tofin then σ.white else σ.mark i) = 1 - σ.white)
    by_cases q : i ∈ σ.tofin
    · rw [if_pos q]; exact .inr (.inr (.inr (.inl rfl)))
    · rw [if_neg q]; exact G.rng i
  · show (if i ∈ σ.tofin then σ.white else σ.mark i) = 4 ∨ (if i ∈ σ.tofin then σ.white else σ.mark i) = σ.white
    by_cases q : i ∈ σ.tofin
    · rw [if_pos q]; exact .inr rfl
    · rw [if_neg q]; exact G.p03 z i
  · have t := (G.p1 z).2
    rw [hm1 z]
    exact ⟨t.g, t.t1, t.t2⟩
  · show (σ.datas ++ σ.tofin).Pairwise (fun i j => σ.fz i = false → σ.fz j = false → i < j)
    rw [List.pairwise_append]
    refine ⟨G.asc, ?_, fun a ha b hb _ z => by rw [hfz b hb] at z; cases z⟩
    refine List.Pairwise.imp_of_mem ?_ G.desc
    intro a b ha hb _ z
    rw [hfz a ha] at z; cases z
  · show (told ++ σ.tofin ++ []).Nodup
    rw [List.append_nil]; exact G.nd
  · show i ∈ told ++ σ.tofin ++ [] ↔ _
    rw [List.append_nil]; exact G.told i
  · match k, h with
    | 0, _ => exact trivial
    | 1, h =>
      refine ⟨fun z => ?_, h.2⟩
      show Up _ { σ with tofin := [], datas := σ.datas ++ σ.tofin, mark := fun j => if j ∈ σ.tofin then σ.white else σ.mark j }
      rw [hm1 z]; exact h.1 z
    | 2, h =>
      refine ⟨fun z => ?_, h.2.1, fun z i hi => h.2.2.1 z i fun q => hi ((hg i).mpr q), h.2.2.2⟩
      show Up _ { σ with tofin := [], datas := σ.datas ++ σ.tofin, mark := fun j => if j ∈ σ.tofin then σ.white else σ.mark j }
      rw [hm1 z]; exact h.1 z
    | k + 3, h => exact h

/-! deeds -/
/-- fewer edges -/
theorem Reach.mono {E E' : Nat → List Nat} {ro ro' : List Nat} (hE : ∀ i, ∀ j ∈ E' i, j ∈ E i) (hr : ∀ i ∈ ro', Reach E ro i) {i : Nat} (h : Reach E' ro' i) : Reach E ro i := by
  induction h with
  | root hi => exact hr _ hi
  | edge _ hj ih => exact .edge ih (hE _ _ hj)
theorem Good.less {W : Wd} {E E' : Nat → List Nat} {told : List Nat} {σ : Sg} (G : Good W E told σ) (hE : ∀ i, ∀ j ∈ E' i, j ∈ E i) {rl : List Nat} {a : Addr} (hr : ∀ i ∈ rl, Reach E σ.rootl i) (hn : ∀ i ∈ rl, i < W.n) : Good W E' told { σ with rootl := rl, rootA := a } := by
  have hR : ∀ {i}, Reach E' rl i → Reach E σ.rootl i := fun h => Reach.mono hE hr h
  have w := G.wi
  exact ⟨⟨w.vl, w.phase, w.p1, w.ga, hn, w.datas, w.tofin, w.dt, w.objs, w.nd, w.sw, w.total⟩, G.wh, G.mem, G.rng, fun i hi z => G.live i (hR hi) z, G.p03, fun z => have t := G.p1 z; ⟨t.1, ⟨t.2.g, t.2.t1, fun i hi j hj => t.2.t2 i hi j (hE i j hj)⟩⟩, G.p2, G.fin, fun i hi hr => G.fz i hi (hR hr), G.lost, G.dat, G.asc, G.desc, G.nd, G.told⟩
/-- one edge more between reached things, with the barrier -/
theorem Good.more {W : Wd} {E E' : Nat → List Nat} {told : List Nat} {σ σ' : Sg} (G : Good W E told σ) {x y : Nat} (hE : ∀ i j, j ∈ E' i ↔ j ∈ E i ∨ (i = x ∧ j = y)) (hx : Reach E σ.rootl x) (hy : Reach E σ.rootl y)
    (hb : if σ.mark x != 3 || !decide (σ.mark y < 2) || σ.dead y then σ' = σ else if decide (σ.phase = 1) then MarksR W E' [y] σ σ' else σ' = { σ with mark := setM σ.mark x σ.white }) :
    Good W E' told σ' ∧ σ'.rootl = σ.rootl ∧ (∀ i, Reach E' σ'.rootl i ↔ Reach E σ.rootl i) ∧ σ'.tofin = σ.tofin := by
  have hw := G.wh
  have hR : ∀ i, Reach E' σ.rootl i ↔ Reach E σ.rootl i := fun i => by
    constructor
    · intro h
      induction h with
      | root hi => exact .root hi
      | edge _ hj ih =>
        rcases (hE _ _).mp hj with q | ⟨_, rfl⟩
        · exact .edge ih q
        · exact hy
    · intro h
      induction h with
      | root hi => exact .root hi
      | edge _ hj ih => exact .edge ih ((hE _ _).mpr (.inl hj))
  have base : (σ.phase = 1 → Tri E' [] σ) → Good W E' told σ := fun ht =>
    ⟨G.wi, G.wh, G.mem, G.rng, fun i hi => G.live i ((hR i).mp hi), G.p03, fun z => ⟨(G.p1 z).1, ht z⟩, G.p2, G.fin, fun i hi hr => G.fz i hi ((hR i).mp hr), G.lost, G.dat, G.asc, G.desc, G.nd, G.told⟩
  have hgy := G.live y hy
  have hgx := G.live x hx
  by_cases c : (σ.mark x != 3 || !decide (σ.mark y < 2) || σ.dead y) = true
  · rw [if_pos c] at hb
    subst hb
    refine ⟨base fun z => ?_, rfl, hR, rfl⟩
    have t := (G.p1 z).2
    refine ⟨t.g, t.t1, fun i hi j hj => ?_⟩
    rcases (hE i j).mp hj with q | ⟨rfl, rfl⟩
    · exact t.t2 i hi j q
    · left
      simp only [Bool.or_eq_true, bne_iff_ne, ne_eq, Bool.not_eq_true', decide_eq_false_iff_not] at c
      rcases c with (c | c) | c
      · exact absurd hi c
      · exact c
      · unfold Sg.dead at c
        simp only [Bool.or_eq_true, beq_iff_eq, Bool.and_eq_true, decide_eq_true_eq, bne_iff_ne, ne_eq] at c
        have := G.rng j
        unfold gone at hgy
        lia
  · rw [if_neg c] at hb
    simp only [Bool.or_eq_true, bne_iff_ne, ne_eq, Bool.not_eq_true', decide_eq_false_iff_not, not_or, Classical.not_not] at c
    obtain ⟨⟨c1, c2⟩, c3⟩ := c
    by_cases hp : σ.phase = 1
    · rw [if_pos (decide_eq_true hp)] at hb
      have t := (G.p1 hp).2
      have tp : Tri E' [y] σ := ⟨t.g, t.t1, fun i hi j hj => by
        rcases (hE i j).mp hj with q | ⟨rfl, rfl⟩
        · exact (t.t2 i hi j q).elim .inl fun z => (by cases z)
        · exact .inr List.mem_cons_self⟩
      have t1 := hb.tri.1 tp
      have e := hb.eqs
      have mv := hb.mv
      have wi : WI W σ' := by
        have w := G.wi
        have le := hb.le
        have sm := hb.same
        have hpot : pot W σ' ≤ W.n := Nat.le_trans le.2.1 (w.p1 hp)
        refine ⟨hb.vl w.vl, by rw [e.phase]; exact w.phase, fun _ => hpot, by unfold pot at hpot; lia, by rw [e.rootl]; exact w.root, by rw [e.datas]; exact w.datas, by rw [e.tofin]; exact w.tofin, by rw [e.datas, e.tofin]; exact w.dt, by rw [e.objs]; exact w.objs, by rw [e.objs]; exact w.nd, by rw [e.objs, e.sweep]; exact w.sw, ?_⟩
        rw [e.objs, show σ'.total = σ.total by rw [sm]]; exact w.total
      have hg : ∀ i, gone σ' i → gone σ i := fun i hi => by
        rcases hi with z | ⟨z, _⟩
        · exact .inl ((mv.four i).mpr z)
        · rw [e.phase] at z; lia
      have hp' : σ'.phase = 1 := e.phase.trans hp
      refine ⟨⟨wi, by rw [e.white]; exact hw, fun i => ?_, fun i => ?_, fun i hi z => ?_, fun z => by lia, fun _ => ⟨by rw [e.tofin]; exact (G.p1 hp).1, t1⟩, fun z => by lia, fun i hi => ?_, fun i hi => ?_, fun i hi hk z => ?_, fun i hi hk z => ?_, ?_, ?_, ?_, fun i => ?_⟩, e.rootl, fun i => by rw [e.rootl]; exact hR i, e.tofin⟩
      · rw [e.objs, G.mem, Ne, mv.four i]
      · rw [e.white]
        have h1 := G.rng i
        have h2 := mv i
        lia
      · rw [e.rootl] at hi; exact G.live i ((hR i).mp hi) (hg i z)
      · rw [e.tofin, (G.p1 hp).1] at hi; cases hi
      · rw [e.fz] at hi; rw [e.rootl]; exact fun q => G.fz i hi ((hR i).mp q)
      · rw [e.fz]; exact G.lost i hi hk (hg i z)
      · rw [e.fz] at z; rw [e.datas]; exact G.dat i hi hk z
      · rw [e.datas, e.fz]; exact G.asc
      · rw [e.tofin]; exact G.desc
      · rw [e.tofin]; exact G.nd
      · rw [e.tofin, e.fz]; exact G.told i
    · rw [if_neg (by simp [hp])] at hb
      subst hb
      have hg : ∀ i, gone { σ with mark := setM σ.mark x σ.white } i → gone σ i := fun i hi => by
        unfold gone at *
        dsimp only at hi
        by_cases q : i = x
        · subst q; rw [setM_self] at hi; lia
        · rw [setM_ne _ _ q] at hi; exact hi
      refine ⟨⟨?_, hw, fun i => ?_, fun i => ?_, fun i hi z => G.live i ((hR i).mp hi) (hg i z), fun z i => ?_, fun z => absurd z hp, G.p2, fun i hi z => G.fin i hi (hg i z), fun i hi hr => G.fz i hi ((hR i).mp hr), fun i hi hk z => G.lost i hi hk (hg i z), G.dat, G.asc, G.desc, G.nd, G.told⟩, rfl, hR, rfl⟩
      · have w := G.wi
        exact ⟨w.vl, w.phase, fun z => absurd z hp, w.ga, w.root, w.datas, w.tofin, w.dt, w.objs, w.nd, w.sw, w.total⟩
      · show i ∈ σ.objs ↔ setM σ.mark x σ.white i ≠ 4
        rw [G.mem]
        by_cases q : i = x
        · subst q; rw [setM_self]; lia
        · rw [setM_ne _ _ q]
      · show setM σ.mark x σ.white i = 4 ∨ setM σ.mark x σ.white i = 2 ∨ setM σ.mark x σ.white i = 3 ∨ setM σ.mark x σ.white i = σ.white ∨ (σ.phase = 2 ∧ setM σ.mark x σ.white i = 1 - σ.white)
        by_cases q : i = x
        · subst q; rw [setM_self]; lia
        · rw [setM_ne _ _ q]; exact G.rng i
      · show setM σ.mark x σ.white i = 4 ∨ setM σ.mark x σ.white i = σ.white
        by_cases q : i = x
        · subst q; rw [setM_self]; lia
        · rw [setM_ne _ _ q]; exact G.p03 z i

/-! part F16 -/
section
variable {prog : Program} {w : World} {hT : Heap} {K : Frag} {α : Type} {A : Around} {L : Addr} {m : Loc} {H : LH} {env : Env} {B : Addr → Obj → Prop} {g : Array GenState} {os : OsState} {s : Shared}

/-! a call of a built-in with one argument and one keyword -/
theorem t_callKw1 {x name : Str} {p pos kp : Pos} {e value : Expr} {Q : Value → Loc → LH → Prop}
    (h : T prog w hT A L (eval (.Name x p) env) m H fun f m1 H1 => ∃ id, f = .builtin id ∧ T prog w hT A L (eval e env) m1 H1 fun v m2 H2 => T prog w hT A L (eval value env) m2 H2 fun kv m3 H3 => T prog w hT A L (call (.builtin id) [v] [(name, kv)]) m3 H3 Q)
    (he : backTo pos (starEach [e] env) = [(false, eval e env)] := by rfl) (hp : (backTo pos (starEach [e] env)).any (·.1) = false := by rfl) :
    T prog w hT A L (eval (.Call (.Name x p) [e] [⟨some name, value, kp⟩] pos) env) m H Q := fun B g os s y => by
  refine wpAny_bind (wpAny_mono (h B g os s y) (fun f s1 ⟨m1, H1, y1, id, hf, q1⟩ => ?_) fun _ _ e => e)
  subst hf
  refine callWith_kw ?_ he hp
  rw [he]
  refine spliced_cons (wpAny_mono (q1 B g os s1 y1) (fun v s2 ⟨m2, H2, y2, q2⟩ => spliced_nil ?_) fun _ _ e => e)
  refine kws_cons (wpAny_mono (q2 B g os s2 y2) (fun kv s3 ⟨m3, H3, y3, q3⟩ => kws_nil ?_) fun _ _ e => e)
  exact q3 B g os s3 y3

/-! a dict display with str keys -/
theorem t_pairs_nil {pos : Pos} {Q : List (Value × Value) → Loc → LH → Prop} (h : Q [] m H) : T prog w hT A L (evalPairs (pairTrees [] [] env pos)) m H Q := fun _ _ _ _ y => pairTrees_nil_walk ⟨m, H, y, h⟩
theorem t_pairs_cons {k v : Expr} {ks : List (Option Expr)} {vs : List Expr} {pos : Pos} {Q : List (Value × Value) → Loc → LH → Prop}
    (h : T prog w hT A L (eval k env) m H fun kv m1 H1 => T prog w hT A L (eval v env) m1 H1 fun vv m2 H2 => T prog w hT A L (evalPairs (pairTrees ks vs env pos)) m2 H2 fun r m3 H3 => Q ((kv, vv) :: r) m3 H3) :
    T prog w hT A L (evalPairs (pairTrees (some k :: ks) (v :: vs) env pos)) m H Q := fun B g os s y =>
  pairTrees_cons_walk (wpAny_mono (h B g os s y) (fun _ s1 ⟨_, _, y1, q1⟩ => wpAny_mono (q1 B g os s1 y1) (fun _ s2 ⟨_, _, y2, q2⟩ => wpAny_mono (q2 B g os s2 y2) (fun _ _ z => z) fun _ _ e => e) fun _ _ e => e) fun _ _ e => e)
theorem t_dictStr {keys : List (Option Expr)} {values : List Expr} {pos : Pos} {Q : Value → Loc → LH → Prop} (P : Tp K hT)
    (h : ∀ d, H d = none → T prog w hT A L (evalPairs (pairTrees keys values env pos)) m (upd H d (tmp, .sdict [])) fun vs m1 H1 => And4 (H1 d = some (tmp, .sdict [])) (allStrKeys vs = true) (((strPairs vs).map (·.1)).Nodup) (Q (.ref d) m1 (upd H1 d (tmp, .sdict (strPairs vs)))))
    (hall : keys.all (·.isSome) = true := by rfl) (hl : keys.length = values.length := by rfl) (h0 : keys ≠ [] := by intro e; cases e) (hlen : keys.length ≤ 15 := by decide) :
    T prog w hT A L (eval (.Dict keys values pos) env) m H Q := fun B g os s y => by
  refine wpAny_Dict_walk (knd := strKind prog w) hall hl h0 hlen ?_
  have y1 : St prog w hT B g os L m (upd H s.heap.objs.size (tmp, .sdict [])) { s with heap := s.heap.push { cls := .type "dict", data := .dict #[] } } :=
    y.new (c := .sdict []) (t := tmp) (get?_size _) (fun b o e => Heap.get?_push_of_some _ e) ⟨y.big P, Heap.DictOf.new s.heap⟩ rfl rfl
  refine wpAny_mono (h _ (y.rp.fresh (get?_size _)).1 B g os _ y1) (fun vs s2 ⟨m2, H2, y2, hd, hk, hn, q⟩ => ?_) fun _ _ e => e
  exact display_done_str hk hn (sdict_at y2.rp hd).2 fun h' hm hs => ⟨m2, _, sdict_upd y2 hd hm hs, q⟩

/-! functions that are made while the law runs: their code lies in a table -/
structure Tq (hT : Heap) (c P : Addr) : Prop where
  bm : ∃ mg bm ob, hT.Ns mainGlobals mg ∧ mg "__builtins__" = some (.ref bm) ∧ bm ≠ builtinsNs ∧ bm ≠ mainGlobals ∧ hT.get? bm = some ob ∧ ob.cls = .type "module" ∧ ob.dict = some builtinsNs ∧ ob.data = .plain
  cd : CodeHd hT c P
noncomputable def CodeOb (H : LH) (cv : Value) (q : Str) : Prop := ∃ c' oc vs t, cv = .ref c' ∧ H c' = some ((0, 8, 0), .obj oc) ∧ oc.data = .fields vs ∧ vs[1]? = some (.str q t)
theorem CodeOb.mono {H H' : LH} {cv : Value} {q : Str} (h : CodeOb H cv q) (k : ∀ a x, H a = some ((0, 8, 0), x) → H' a = some ((0, 8, 0), x)) : CodeOb H' cv q :=
  let ⟨c, o, vs, t, e, a, r⟩ := h; ⟨c, o, vs, t, e, k _ _ a, r⟩
structure Tab (H : LH) (P : Addr) (FL : List (Pos × Str)) : Prop where
  h : ∃ ps, H P = some ((0, 7, 0), .obj (tabObj ps)) ∧ TriplesOk ps.toList ∧ ∀ q ∈ FL, codeAmong q.1 ps.toList = none ∨ ∃ cv, codeAmong q.1 ps.toList = some cv ∧ CodeOb H cv q.2
theorem Tab.mono {H H' : LH} {P : Addr} {FL : List (Pos × Str)} (h : Tab H P FL) (k : ∀ a t x, H a = some (t, x) → t = (0, 7, 0) ∨ t = (0, 8, 0) → H' a = some (t, x)) : Tab H' P FL :=
  let ⟨ps, a, b, c⟩ := h.h; ⟨ps, k _ _ _ a (.inl rfl), b, fun q hq => (c q hq).elim .inl fun ⟨cv, e, z⟩ => .inr ⟨cv, e, z.mono fun a x e => k a _ x e (.inr rfl)⟩⟩
noncomputable def apart (p q : Pos) : Bool := !(p.line == q.line && p.col == q.col)
theorem codeAmong_other {p q : Pos} {c : Value} (hn : apart p q = true) : ∀ (l : List Value), TriplesOk l → codeAmong p (l ++ [rawInt q.line, rawInt q.col, c]) = codeAmong p l := by
  intro l h
  unfold apart at hn
  fun_induction TriplesOk l with
  | case1 =>
    simp only [List.nil_append, codeAmong, rawInt]
    have : ¬ (((q.line : Int) == (p.line : Int) && (q.col : Int) == (p.col : Int)) = true) := by
      intro z
      simp only [Bool.and_eq_true, beq_iff_eq, Bool.not_eq_true', Bool.and_eq_false_iff, beq_eq_false_iff_ne] at z hn
      rcases hn with hn | hn <;> lia
    rw [if_neg this]
  | case2 a t b u x rest ih =>
    simp only [List.cons_append, codeAmong]
    split
    · rfl
    · exact ih h
  | case3 l h1 h2 => exact h.elim
theorem fn_hidden {P : Addr} {t : Tag} {c : Cell} (y : St prog w hT B g os L m H s) (hP : H P = some (t, c)) {a : Addr} {o : Obj} (h : hT.get? a = some o) : a ≠ P := fun q => by
  subst q; exact y.rp.dis _ _ o hP (y.rp.top _ _ h)
theorem bAt (Z : Tq hT c P) (y : St prog w hT B g os L m H s) {t : Tag} {x : Cell} (hP : H P = some (t, x)) : ∃ mg, s.heap.Ns mainGlobals mg ∧ s.heap.BuiltinsAt mg P ∧ mainGlobals ≠ P := by
  obtain ⟨mg, bm, ob, G, b1, b2, b3, b4, b5, b6, b7⟩ := Z.bm
  have G0 := G
  obtain ⟨oG, _, _, hG, _⟩ := G
  exact ⟨mg, G0.keeps y.top, ⟨bm, ob, b1, b2, b3, fn_hidden y hP b4, y.top _ _ b4, b5, b6, b7⟩, fn_hidden y hP hG⟩
/-- what a made function leaves behind -/
theorem made_new (Z : Tq hT c P) {FL : List (Pos × Str)} {pos : Pos} {qual : Str} {ps : Array Value} (y : St prog w hT B g os L m H s) (hP : H P = some ((0, 7, 0), .obj (tabObj ps))) (ht : TriplesOk ps.toList) (hf : ∀ q ∈ FL, codeAmong q.1 ps.toList = none ∨ ∃ cv, codeAmong q.1 ps.toList = some cv ∧ CodeOb H cv q.2)
    (hn : codeAmong pos ps.toList = none) (hq : ∀ q ∈ FL, q = (pos, qual) ∨ apart q.1 pos = true) {c' : Addr} {h' : Heap} {tk : Tok} {fo : Obj} {tg : Tag} (hx : Heap.ExtBut P s.heap h') (hge : s.heap.objs.size ≤ c') (hlt : c' < h'.objs.size) (hrec : h'.CodeRec (.ref c') qual)
    (htb : h'.get? P = some (tabObj (ps ++ #[rawInt pos.line, rawInt pos.col, .ref c']))) (hfo : fo.isFreed = false) :
    ∃ H', St prog w hT B g os L m H' { s with heap := h'.push fo, toks := tk } ∧ H' h'.objs.size = some (tg, .obj fo) ∧ H h'.objs.size = none ∧ CodeOb H' (.ref c') qual ∧ Tab H' P FL ∧ ∀ a x, H a = some x → a ≠ P → H' a = some x := by
  obtain ⟨c2, oc, vs, t, e2, hoc, hd, hv⟩ := hrec
  cases e2
  have fr : ∀ {b : Addr}, s.heap.objs.size ≤ b → s.heap.get? b = none := fun {b} hb => by
    cases q : s.heap.get? b with
    | none => rfl
    | some o => exact absurd (Heap.lt_size q) (Nat.not_lt.mpr hb)
  have y1 : St prog w hT B g os L m (upd H P ((0, 7, 0), .obj (tabObj (ps ++ #[rawInt pos.line, rawInt pos.col, .ref c'])))) { s with heap := h', toks := tk } := y.upd (s' := { s with heap := h', toks := tk }) (c := .obj (tabObj (ps ++ #[rawInt pos.line, rawInt pos.col, .ref c']))) hP hx htb rfl rfl
  have f1 := y.rp.fresh (fr hge)
  have hcP : c' ≠ P := fun q => by rw [q, hP] at f1; cases f1.1
  have hcL : L ≠ c' := fun q => Nat.lt_irrefl _ (Nat.lt_of_lt_of_le (q ▸ y.ns.lt) hge)
  have y2 : St prog w hT B g os L m (upd (upd H P ((0, 7, 0), .obj (tabObj (ps ++ #[rawInt pos.line, rawInt pos.col, .ref c'])))) c' ((0, 8, 0), .obj oc)) { s with heap := h', toks := tk } :=
    ⟨y1.rp.upd f1.2 (Heap.ExtBut.refl _ _) hoc rfl rfl, y1.ns, by rw [upd_ne _ _ hcL]; exact y1.hL, y1.disL⟩
  have hge2 : s.heap.objs.size ≤ h'.objs.size := Nat.le_trans hge (Nat.le_of_lt hlt)
  have y3 := y2.new (s' := { s with heap := h'.push fo, toks := tk }) (a := h'.objs.size) (t := tg) (c := .obj fo) (get?_size _) (fun b o e => Heap.get?_push_of_some _ e) (Heap.get?_push_size _ hfo) rfl rfl
  have ne1 : c' ≠ h'.objs.size := Nat.ne_of_lt hlt
  have hfn := (y.rp.fresh (fr hge2)).1
  have ne2 : P ≠ h'.objs.size := fun q => by rw [← q, hP] at hfn; cases hfn
  have hkeep : ∀ a x, H a = some x → a ≠ P → upd (upd (upd H P ((0, 7, 0), .obj (tabObj (ps ++ #[rawInt pos.line, rawInt pos.col, .ref c'])))) c' ((0, 8, 0), .obj oc)) h'.objs.size (tg, .obj fo) a = some x := fun a x e na => by
    have n1 : a ≠ h'.objs.size := fun q => by rw [q, hfn] at e; cases e
    have n2 : a ≠ c' := fun q => by rw [q, f1.1] at e; cases e
    rw [upd_ne _ _ n1, upd_ne _ _ n2, upd_ne _ _ na]; exact e
  have hcode : CodeOb (upd (upd (upd H P ((0, 7, 0), .obj (tabObj (ps ++ #[rawInt pos.line, rawInt pos.col, .ref c'])))) c' ((0, 8, 0), .obj oc)) h'.objs.size (tg, .obj fo)) (.ref c') qual :=
    ⟨c', oc, vs, t, rfl, by rw [upd_ne _ _ ne1, upd_self], hd, hv⟩
  refine ⟨_, y3, upd_self _ _ _, hfn, hcode, ⟨⟨ps ++ #[rawInt pos.line, rawInt pos.col, .ref c'], by rw [upd_ne _ _ ne2, upd_ne _ _ hcP.symm, upd_self], by rw [Array.toList_append]; exact TriplesOk_snoc _ _ _ _ ht, fun q hm => ?_⟩⟩, hkeep⟩
  rw [Array.toList_append]
  rcases hq q hm with rfl | ap
  · exact .inr ⟨.ref c', codeAmong_snoc _ ht hn, hcode⟩
  · have e := codeAmong_other (c := .ref c') ap ps.toList ht
    rcases hf q hm with z | ⟨cv, z1, z2⟩
    · exact .inl (e.trans z)
    · refine .inr ⟨cv, e.trans z1, z2.mono fun a x ha => hkeep a _ ha fun q => ?_⟩
      rw [q, hP] at ha; cases ha
theorem made_hit {FL : List (Pos × Str)} {qual : Str} {ps : Array Value} (y : St prog w hT B g os L m H s) (hP : H P = some ((0, 7, 0), .obj (tabObj ps))) (ht : TriplesOk ps.toList) (hf : ∀ q ∈ FL, codeAmong q.1 ps.toList = none ∨ ∃ cv, codeAmong q.1 ps.toList = some cv ∧ CodeOb H cv q.2)
    {cv : Value} (hc : CodeOb H cv qual) {h' : Heap} {tk : Tok} {fo : Obj} {tg : Tag} (hk : ∀ b o, s.heap.get? b = some o → h'.get? b = some o) (hsz : s.heap.objs.size ≤ h'.objs.size) (hfo : fo.isFreed = false) :
    ∃ H', St prog w hT B g os L m H' { s with heap := h'.push fo, toks := tk } ∧ H' h'.objs.size = some (tg, .obj fo) ∧ H h'.objs.size = none ∧ CodeOb H' cv qual ∧ Tab H' P FL ∧ ∀ a x, H a = some x → a ≠ P → H' a = some x := by
  have fr : s.heap.get? h'.objs.size = none := by
    cases q : s.heap.get? h'.objs.size with
    | none => rfl
    | some o => exact absurd (Heap.lt_size q) (Nat.not_lt.mpr hsz)
  have y1 : St prog w hT B g os L m H { s with heap := h', toks := tk } := y.ext (s' := { s with heap := h', toks := tk }) hk rfl rfl
  have y2 := y1.new (s' := { s with heap := h'.push fo, toks := tk }) (a := h'.objs.size) (t := tg) (c := .obj fo) (get?_size _) (fun b o e => Heap.get?_push_of_some _ e) (Heap.get?_push_size _ hfo) rfl rfl
  have hn := (y.rp.fresh fr).1
  have ex : ∀ a x, H a = some x → upd H h'.objs.size (tg, .obj fo) a = some x := fun a x e => by
    have : a ≠ h'.objs.size := fun q => by rw [q, hn] at e; cases e
    rw [upd_ne _ _ this]; exact e
  exact ⟨_, y2, upd_self _ _ _, hn, hc.mono fun a x e => ex _ _ e, ⟨⟨ps, ex _ _ hP, ht, fun q hq => (hf q hq).elim .inl fun ⟨cv, e, z⟩ => .inr ⟨cv, e, z.mono fun a x e => ex _ _ e⟩⟩⟩, fun a x e _ => ex a x e⟩
/-- a def within the law, a lambda within the law -/
theorem t_makeDef {c P : Addr} {FL : List (Pos × Str)} {name qual : Str} {params : Arguments} {body : List Stmt} {scope : Scope} {clos : List (Str × Addr)} {pos : Pos} {line : Nat} (tg : Tag) {Q : Value → Loc → LH → Prop} (Z : Tq hT c P) (hcl : closureFor scope env = pure clos) (hge : env.globals = mainGlobals) (hcode : env.code = .ref c)
    (hTb : Tab H P FL) (hq : (pos, qual) ∈ FL) (hap : ∀ q ∈ FL, q = (pos, qual) ∨ apart q.1 pos = true)
    (h : ∀ H' f doc pm cv ctv, H' f = some (tg, .obj { cls := .type "function", data := .func (fnX name qual params body scope clos .none .none doc pm none cv ctv) }) → H f = none → CodeOb H' cv qual → Tab H' P FL → (∀ a x, H a = some x → a ≠ P → H' a = some x) → Q (.ref f) m H') :
    T prog w hT A L (makeFunction name qual params (.stmts body) scope env [] [] [] pos line) m H Q := fun B g os s y => by
  obtain ⟨ps, hP, ht, hf⟩ := hTb.h
  obtain ⟨mg, G, Bm, hgP⟩ := bAt Z y hP
  have hPs : s.heap.get? P = some (tabObj ps) := y.rp.rep _ _ _ hP
  have C := Z.cd.keeps y.top
  rcases hf _ hq with hn | ⟨cv, hc, ho⟩
  · refine makeFunction_K hcl hge G hcode C hPs ht hn hgP Bm fun c' ctv doc h' tk hx hge' hlt hrec htb => ?_
    obtain ⟨H', y', e1, e2, e3, e4, e5⟩ := made_new (tg := tg) (FL := FL) Z y hP ht hf hn hap hx hge' hlt hrec htb (fo := fnMade name qual params body scope clos doc ((mg "__name__").getD .none) c' ctv) (tk := tk) rfl
    exact ⟨m, H', y', h H' _ _ _ _ _ e1 e2 e3 e4 e5⟩
  · refine makeFunction_hit hcl hge G hcode C hPs ht hc Bm fun ctv doc h' tk hk hsz => ?_
    obtain ⟨H', y', e1, e2, e3, e4, e5⟩ := made_hit (tg := tg) (FL := FL) y hP ht hf ho (h' := h') (tk := tk) (fo := { cls := .type "function", data := .func (fnX name qual params body scope clos .none .none doc ((mg "__name__").getD .none) none cv ctv) }) hk hsz rfl
    exact ⟨m, H', y', h H' _ _ _ _ _ e1 e2 e3 e4 e5⟩
theorem t_makeLam {c P : Addr} {FL : List (Pos × Str)} {name qual : Str} {params : Arguments} {body : Expr} {scope : Scope} {clos : List (Str × Addr)} {pos : Pos} {line : Nat} (tg : Tag) {Q : Value → Loc → LH → Prop} (Z : Tq hT c P) (hcl : closureFor scope env = pure clos) (hge : env.globals = mainGlobals) (hcode : env.code = .ref c)
    (hTb : Tab H P FL) (hq : (pos, qual) ∈ FL) (hap : ∀ q ∈ FL, q = (pos, qual) ∨ apart q.1 pos = true)
    (h : ∀ H' f pm cv ctv, H' f = some (tg, .obj { cls := .type "function", data := .func (kla_fn name qual params body scope clos pm cv ctv) }) → H f = none → CodeOb H' cv qual → Tab H' P FL → (∀ a x, H a = some x → a ≠ P → H' a = some x) → Q (.ref f) m H') :
    T prog w hT A L (makeFunction name qual params (.expr body) scope env [] [] [] pos line) m H Q := fun B g os s y => by
  obtain ⟨ps, hP, ht, hf⟩ := hTb.h
  obtain ⟨mg, G, Bm, hgP⟩ := bAt Z y hP
  have hPs : s.heap.get? P = some (tabObj ps) := y.rp.rep _ _ _ hP
  have C := Z.cd.keeps y.top
  rcases hf _ hq with hn | ⟨cv, hc, ho⟩
  · refine kla_makeFunction hcl hge G hcode C hPs ht hn hgP Bm fun c' ctv h' tk hx hge' hlt hrec htb => ?_
    obtain ⟨H', y', e1, e2, e3, e4, e5⟩ := made_new (tg := tg) (FL := FL) Z y hP ht hf hn hap hx hge' hlt hrec htb (fo := kla_obj name qual params body scope clos ((mg "__name__").getD .none) c' ctv) (tk := tk) rfl
    exact ⟨m, H', y', h H' _ _ _ _ e1 e2 e3 e4 e5⟩
  · refine kla_makeFunctionHit hcl hge G hcode C hPs ht hc Bm fun ctv h' tk hk hsz => ?_
    obtain ⟨H', y', e1, e2, e3, e4, e5⟩ := made_hit (tg := tg) (FL := FL) y hP ht hf ho (h' := h') (tk := tk) (fo := { cls := .type "function", data := .func (kla_fn name qual params body scope clos ((mg "__name__").getD .none) cv ctv) }) hk hsz rfl
    exact ⟨m, H', y', h H' _ _ _ _ e1 e2 e3 e4 e5⟩
theorem t_def {name : Str} {params : Arguments} {body : List Stmt} {scope : Scope} {pos : Pos} {Q : Flow → Loc → LH → Prop} (hd0 : params.defaults = []) (hk0 : params.kw_defaults = []) (ha : annTrees params none env = [])
    (h : T prog w hT A L (makeFunction name (qualnameIn env name name) params (.stmts body) scope env [] [] [] pos pos.line) m H fun v m1 H1 => T prog w hT A L (storeName env name v) m1 H1 fun _ m2 H2 => Q .next m2 H2) :
    T prog w hT A L (exec (.FunctionDef name params body [] none [] scope none name pos) env) m H Q := fun B g os s y =>
  nestDef_K hd0 hk0 ha (wpAny_mono (h B g os s y) (fun v s1 ⟨m1, H1, y1, q1⟩ => q1 B g os s1 y1) fun _ _ e => e)
theorem t_lambda {params : Arguments} {body : Expr} {scope : Scope} {pos : Pos} {Q : Value → Loc → LH → Prop} (hdef : defaultsOf params env = ([], []))
    (h : T prog w hT A L (makeFunction "<lambda>" (env.qual ++ "<lambda>") params (.expr body) scope env [] [] [] pos pos.line) m H Q) : T prog w hT A L (eval (.Lambda params body scope pos) env) m H Q := fun B g os s y => kla_eval hdef (h B g os s y)

/-! calls of made functions -/
noncomputable def cloOk (K : Frag) (fd : FuncData) (ns : List Str) (gs : List (Str × Value)) (fs : List Str) (ps : List Str) : Bool :=
  kindsOk K fd.scope ns gs && cellsOk fd.scope fs && (fd.scope.names.all fun x => decide (x.2 ≠ .cell)) && !fd.scope.isCoroutine && !fd.scope.isGenerator && (ps.all fun x => decide (fd.scope.names.lookup x = some .local))
theorem rec_of {f : Addr} {t : Tag} {fd : FuncData} (x : Rp prog w hT B g os H s) (hf : H f = some (t, .obj { cls := .type "function", data := .func fd })) (hc : CodeOb H fd.code fd.qualname) : s.heap.get? f = some { cls := .type "function", data := .func fd } ∧ s.heap.CodeRec fd.code fd.qualname := by
  obtain ⟨c', oc, vs, t', e, h1, h2, h3⟩ := hc
  exact ⟨x.rep _ _ _ hf, c', oc, vs, t', e, x.rep _ _ _ h1, h2, h3⟩
theorem c_clo {f : Addr} {t : Tag} {fd : FuncData} {body : List Stmt} {vals : List Value} {n : Nat} {ps ls ns : List Str} {vs : List (Option Value)} {gs : List (Str × Value)} {fs : List (Str × Addr)} {Q : Value → LH → Prop} (P : Tp K hT) (R : Room (n + 1) A)
    (hf : H f = some (t, .obj { cls := .type "function", data := .func fd })) (hc : CodeOb H fd.code fd.qualname) (hb : fd.body = .stmts body) (hg : fd.globals = mainGlobals) (hbn : fd.builtins = builtinsNs) (hok : cloOk K fd (ps ++ ls) gs (fs.map (·.1)) ps = true)
    (hfs : ∀ p ∈ fs, fd.closure.lookup p.1 = some p.2) (hbind : bindArgs fd ⟨vals, []⟩ = pure (ps.zip vals)) (len : ps.length = vals.length)
    (h : ∀ L env A', env = callEnv fd L f → FnE hT env L ns gs fs → Room n A' → T prog w hT A' L (execs body env) (lk ns vs) H fun fl _ H' => Q (match fl with | .ret v => v | _ => .none) H') (hns : ps ++ ls = ns := by rfl) (hvs : (vals.map some ++ ls.map fun _ => none) = vs := by rfl) :
    C prog w hT A (.ref f) ⟨vals, []⟩ H Q := by
  subst hns hvs
  unfold cloOk at hok
  simp only [Bool.and_eq_true, Bool.not_eq_true'] at hok
  obtain ⟨⟨⟨⟨⟨h1, h2⟩, h3⟩, h4⟩, h5⟩, h6⟩ := hok
  have h1' := h1
  unfold kindsOk at h1'
  simp only [Bool.and_eq_true, decide_eq_true_eq] at h1'
  refine c_body (o := { cls := .type "function", data := .func fd }) (ps := ps) (ls := ls) (vals := vals) P R.lt (fun _ _ _ _ x => rec_of x hf hc) rfl hb (fun s => BindsTo.of_eq hbind) len h1'.1.1.1.1.2 h6 h3 (fun L => h L _ _ rfl ?_ (R.deeper _)) h4 h5 h1'.1.1.1.1.1
  unfold callEnv
  rw [hg, hbn]
  exact fnE_of P h1 h2 hfs
theorem c_lam {f : Addr} {t : Tag} {fd : FuncData} {body : Expr} {vals : List Value} {n : Nat} {ps : List Str} {vs : List (Option Value)} {gs : List (Str × Value)} {fs : List (Str × Addr)} {Q : Value → LH → Prop} (P : Tp K hT) (R : Room (n + 1) A)
    (hf : H f = some (t, .obj { cls := .type "function", data := .func fd })) (hc : CodeOb H fd.code fd.qualname) (hb : fd.body = .expr body) (hg : fd.globals = mainGlobals) (hbn : fd.builtins = builtinsNs) (hok : cloOk K fd ps gs (fs.map (·.1)) ps = true)
    (hfs : ∀ p ∈ fs, fd.closure.lookup p.1 = some p.2) (hbind : bindArgs fd ⟨vals, []⟩ = pure (ps.zip vals)) (len : ps.length = vals.length)
    (h : ∀ L env A', env = callEnv fd L f → FnE hT env L ps gs fs → Room n A' → T prog w hT A' L (eval body env) (lk ps vs) H fun v _ H' => Q v H') (hvs : vals.map some = vs := by rfl) :
    C prog w hT A (.ref f) ⟨vals, []⟩ H Q := by
  subst hvs
  unfold cloOk at hok
  simp only [Bool.and_eq_true, Bool.not_eq_true'] at hok
  obtain ⟨⟨⟨⟨⟨h1, h2⟩, h3⟩, h4⟩, h5⟩, h6⟩ := hok
  have h1' := h1
  unfold kindsOk at h1'
  simp only [Bool.and_eq_true, decide_eq_true_eq] at h1'
  intro B g os s x
  obtain ⟨ho, hcd⟩ := rec_of x hf hc
  refine kla_callFunE R.lt ho rfl h4 h5 hb hcd ?_
  rw [hbind]
  refine wpAny_pure (wpAny_newFunctionEnv (fun y hy => of_decide_eq_true (List.all_eq_true.mp h3 y hy)) (fun y hy => of_decide_eq_true (List.all_eq_true.mp h6 y.1 (List.of_mem_zip hy).1)) (fun h₀ hns hsb => ⟨(P.nl.keeps fun b o e => x.keep b o (x.top b o e)).fresh _ hsb, ?_⟩) h1'.1.1.1.1.1)
  have hk₀ : ∀ b o, s.heap.get? b = some o → h₀.get? b = some o := fun b o e => hsb.extBut b o (Nat.ne_of_lt (Heap.lt_size e)) (Heap.get?_push_of_some _ e)
  have fr := x.fresh (get?_size s.heap)
  have x' : Rp prog w hT B g os H { s with heap := h₀, toks := s.toks + (ps.zip vals).length } := x.ext hk₀ rfl rfl
  have nd : (ps ++ []).Nodup := by rw [List.append_nil]; exact h1'.1.1.1.1.2
  have el : lk (ps ++ []) (vals.map some ++ ([] : List Str).map fun _ => none) = lk ps (vals.map some) := by rw [List.append_nil, List.map_nil, List.append_nil]
  have y : St prog w hT B g os s.heap.objs.size (lk ps (vals.map some)) H { s with heap := h₀, toks := s.toks + (ps.zip vals).length } := ⟨x', by rw [← el, ← lk_binds [] ps vals nd len]; exact hns, fr.1, fr.2⟩
  have FE : FnE hT (callEnv fd s.heap.objs.size f) s.heap.objs.size ps gs fs := by
    unfold callEnv
    rw [hg, hbn]
    exact fnE_of P h1 h2 hfs
  refine kla_codeExpr (wpAny_mono (h s.heap.objs.size _ _ rfl FE (R.deeper _) B g os _ y) (fun v s' z => ?_) fun _ _ e => e.elim)
  obtain ⟨m', H', y', q⟩ := z
  exact ⟨_, H', rfl, y'.rp, q⟩
end

/-! part M24 -/
theorem perm_desc : ∀ {a b : List Int}, a.Perm b → a.Pairwise (fun x y => y ≤ x) → b.Pairwise (fun x y => y ≤ x) → a = b
  | [], b, p, _, _ => (List.nil_perm.mp p).symm
  | x :: a, [], p, _, _ => absurd p.length_eq (by simp)
  | x :: a, y :: b, p, ha, hb => by
    rw [List.pairwise_cons] at ha hb
    have h1 : x ≤ y := by
      rcases List.mem_cons.mp (p.mem_iff.mp List.mem_cons_self) with e | e
      · lia
      · exact hb.1 x e
    have h2 : y ≤ x := by
      rcases List.mem_cons.mp (p.mem_iff.mpr (List.mem_cons_self : y ∈ y :: b)) with e | e
      · lia
      · exact ha.1 y e
    have e : x = y := by lia
    subst e
    rw [perm_desc (List.Perm.cons_inv p) ha.2 hb.2]
section
variable {w : World} {hT : Heap} {A : Around} {L : Addr} {m : Loc} {H : LH} {k : Nat} {W : Wd} {σ : Sg} {E : Nat → List Nat}
theorem c_drained (P : Tp (KK w) hT) (R : Room (k + 9) A) {wd oA aA tA : Addr} {nm ps : Nat → Nat} {told : List Nat} {Q : Value → LH → Prop}
    (hW : WR W σ H) (kp : W.k ≠ 0) (X : LW H W wd oA aA tA nm ps told) (hnum : ∀ i, W.num i = i + 1) (ht : ∀ i ∈ σ.tofin, i < W.n) (hz : σ.tofin.length ≤ 50) (hd : σ.datas.length ≤ 500) (htz : told.length ≤ 500) (n9 : W.n ≤ 9) (hdesc : σ.tofin.Pairwise (fun i j => j < i))
    (h : ∀ H' tA', WR W (drained σ σ.tofin.length) H' → LW H' W wd oA aA tA' nm ps (told ++ σ.tofin.map nm) → (∀ a t c, H a = some (t, c) → ¬ mine W.k t → a ≠ wd → H' a = some (t, c)) → Q (.bool true) H') : C PG w hT A (.ref 475) ⟨[.ref wd], []⟩ H Q := by
  refine c_fnC (ps := ["world"]) (ls := ["places"]) (cn := ["world"]) (gs := [("sorted", .builtin "sorted")]) (ns := ["places"]) (vs := [none]) (zs := []) (zc := [("world", .ref wd)]) (fs := fun L => [("world", L + 1)]) (cvs := fun L => [(L + 1, some (.ref wd))]) P R
    (by kernel_rfl) (by kernel_rfl) (by kernel_rfl) rfl (by kernel_rfl) (by kernel_rfl) rfl rfl (fun L => by kernel_rfl) (fun L => rfl) (fun L => by kernel_rfl) fun L env A' H1 he F R' e1 hc _ => ?_
  have hcw := (hc _ List.mem_cons_self).1
  refine t_cons (t_assign_name (t_list ?_))
  walk_at "gc"
  refine ⟨Nat.le_of_ble_eq_true rfl, fun pA np => ?_⟩
  refine t_store F (by walk_at "gc_put") ?_
  have ep := Ext.new np (tmp, .list [])
  have hp := upd_self H1 pA (tmp, Cell.list [])
  have hcw1 := ep _ _ hcw
  have e2 := e1.trans ep
  revert ep hp hcw1 e2
  generalize upd H1 pA (tmp, Cell.list []) = H2
  intro ep hp hcw1 e2
  have hpn : H pA = none := e1.none np
  have kt : ∀ {H' : LH}, Frame W.k H H' → ∀ v, Frame W.k H (upd H' pA (tmp, .list v)) := fun {H'} f v a t c e ns => by
    have : a ≠ pA := fun q => by rw [q, hpn] at e; cases e
    rw [upd_ne _ _ this]; exact f a t c e ns
  have hcn : H (L + 1) = none := (hc _ List.mem_cons_self).2
  have nc : pA ≠ L + 1 := fun q => by rw [q, hcw] at np; cases np
  refine t_cons (t_while (fun q m' H' => Ex2 fun (i : Nat) (pv : List Value) => And7 (m' = lk ["places"] [some (.ref pA)]) (q + i = σ.tofin.length) (Frame W.k H H') (WR W (drained σ i) H') (H' (L + 1) = some ((0, 1, 0), .cell (some (.ref wd)))) (H' pA = some (tmp, .list pv)) (IntsAre pv (asInts (σ.tofin.take i)))) σ.tofin.length
    ⟨0, [], rfl, rfl, Frame.ext e2, ?_, hcw1, hp, .nil⟩ ?_)
  · have : drained σ 0 = σ := by unfold drained; simp
    rw [this]; exact hW.ext e2
  rintro J q hJ m' H' ⟨i, pv, rfl, hq, f', hW', hc', hp', hpi⟩
  have X' := X.frame f'
  obtain ⟨td, hwd⟩ := X'.d
  walk_at "gc"
  refine t_name_cell F List.mem_cons_self hc' ?_
  walk_at "gc"
  refine t_getitem_sdict hwd wd_cycle ?_
  refine g_tofin P hW' ?_
  refine t_list ?_
  walk_at "gc"
  refine ⟨Nat.le_of_ble_eq_true rfl, fun eN nn => ?_⟩
  have en := Ext.new nn (tmp, .list [])
  have hW3 := hW'.ext en
  refine t_neNil (n := k + 1) R' hW3.tofin (upd_self _ _ _) (by rw [refs_len]; unfold drained; dsimp only; rw [List.length_drop]; lia) ?_
  have hp3 := en _ _ hp'
  have hc3 := en _ _ hc'
  have f3 := f'.trans (Frame.ext en)
  have X3 := X.frame f3
  revert hW3 hp3 hc3 f3 X3
  generalize upd H' eN (tmp, .list []) = H3
  intro hW3 hp3 hc3 f3 X3
  obtain ⟨td3, hwd3⟩ := X3.d
  have hemp : (W.refs (drained σ i).tofin).isEmpty = decide (q = 0) := by
    unfold drained Wd.refs
    rw [Bool.eq_iff_iff, List.isEmpty_iff, List.map_eq_nil_iff, List.drop_eq_nil_iff, decide_eq_true_iff]
    lia
  rw [hemp]
  walk_at "gc"
  refine ⟨fun hc => ?_, fun hc => ?_⟩
  · have hq0 : q ≠ 0 := by simpa using hc
    have hi : i < σ.tofin.length := by lia
    have hx : σ.tofin[i]? = some σ.tofin[i] := List.getElem?_eq_getElem hi
    have hxn : σ.tofin[i] < W.n := ht _ (List.getElem_mem hi)
    have hdrop : (drained σ i).tofin = σ.tofin[i] :: σ.tofin.drop (i + 1) := List.drop_eq_getElem_cons hi
    refine t_cons (t_exprF F ?_)
    walk_at "gc"
    refine t_methodList hp3 PySem.F.slot_list_append ty_append ?_
    walk_at "gc"
    refine t_name_cell F List.mem_cons_self hc3 ?_
    walk_at "gc"
    refine t_getitem_sdict hwd3 wd_cycle ?_
    refine meth_C P hW3 (by kernel_rfl : classFn (KK w) 421 "first_to_end" 418 = true) (by decide +kernel) ?_
    walk_at "gc"
    refine ⟨keeps_top P (by kernel_rfl), t_call (c_first (n := k + 6) P R' hW3 hdrop hxn (by unfold drained; dsimp only; rw [List.length_drop]; lia) (by unfold drained; dsimp only; rw [List.length_append, List.length_take]; lia) fun H4 hW4 f4 => ?_)⟩
    refine g_number P hW4 hxn fun _ => ?_
    walk_at "gc"
    have hp4 := f4 _ _ _ hp3 (tmp_not kp)
    have hpl : pv.length = i := by
      rw [hpi.length]; unfold asInts; rw [List.length_map, List.length_take]; lia
    refine ⟨keeps_builtin, t_call (c_append hp4 (by lia) ?_)⟩
    have hnx : ((W.num σ.tofin[i] : Nat) : Int) - 1 = (σ.tofin[i] : Int) := by rw [hnum]; lia
    rw [hnx]
    have htk : σ.tofin.take (i + 1) = σ.tofin.take i ++ [σ.tofin[i]] := by rw [List.take_add_one, hx]; rfl
    have ed : ({ drained σ i with tofin := σ.tofin.drop (i + 1), datas := (drained σ i).datas ++ [σ.tofin[i]], mark := setM (drained σ i).mark σ.tofin[i] (drained σ i).white } : Sg) = drained σ (i + 1) := by
      unfold drained
      rw [htk, ← List.append_assoc]
      have : (setM (fun j => if j ∈ σ.tofin.take i then σ.white else σ.mark j) σ.tofin[i] σ.white) = fun j => if j ∈ σ.tofin.take i ++ [σ.tofin[i]] then σ.white else σ.mark j := by
        funext j
        unfold setM
        by_cases qq : j = σ.tofin[i]
        · rw [if_pos qq, if_pos (List.mem_append_right _ (by rw [qq]; exact List.mem_cons_self))]
        · rw [if_neg qq]
          have : (j ∈ σ.tofin.take i ++ [σ.tofin[i]]) ↔ j ∈ σ.tofin.take i := by
            rw [List.mem_append, List.mem_singleton]; exact ⟨fun z => z.elim id fun e => absurd e qq, .inl⟩
          simp only [this]
      rw [this]
    rw [ed] at hW4
    refine t_nil (hJ (q - 1) _ _ (by lia) ⟨i + 1, _, rfl, by lia, kt (f3.trans f4) _, hW4.other hp4 (tmp_not kp) _, ?_, upd_self _ _ _, ?_⟩)
    · rw [upd_ne _ _ nc.symm]; exact f4 _ _ _ hc3 fun e => kp e.1.symm
    · rw [htk]
      have key : ∀ u, IntsAre (pv ++ [.int (σ.tofin[i] : Int) u]) (asInts (σ.tofin.take i ++ [σ.tofin[i]])) := fun u => by
        have := ints_append hpi (.cons (σ.tofin[i] : Int) u .nil)
        unfold asInts at *
        rw [List.map_append]; exact this
      exact key _
  · have hq0 : q = 0 := by simpa using hc
    have hiE : i = σ.tofin.length := by lia
    subst hiE
    rw [List.take_length] at hpi
    have hpl : pv.length = σ.tofin.length := by rw [hpi.length]; exact List.length_map ..
    obtain ⟨tv, htv, hti⟩ := X3.t
    obtain ⟨ov, hov, hoi⟩ := X3.o
    refine t_cons (t_assign_sub ?_)
    walk_at "gc"
    refine t_name_cell F List.mem_cons_self hc3 ?_
    walk_at "gc"
    refine t_getitem_sdict hwd3 wd_told ?_
    refine t_compListF P F R'.h [] [("world", L + 1)] (cl := [("world", L + 1)]) (by rw [he]; kernel_rfl) (by kernel_rfl) (fun p hp => by rw [List.mem_singleton] at hp; subst hp; kernel_rfl) ?_
    walk_at "gc"
    refine ⟨pA, pv, fun i acc H' => And3 (H' = H3) (acc.length = i) (IntsAre acc (asInts ((σ.tofin.take i).map nm))), rfl, by lia, ⟨rfl, rfl, .nil⟩, ?_, ?_, ?_⟩
    · rintro i acc H' ⟨rfl, ha, -⟩
      exact ⟨ha, _, hp3⟩
    · rintro J C env' i acc hJ H' v Fc ⟨rfl, ha, hacc⟩ hv
      obtain ⟨tp, rfl⟩ := ints_at hpi i v hv
      have hil : i < σ.tofin.length := by have := (List.getElem?_eq_some_iff.mp hv).1; lia
      have hxn : σ.tofin[i] < W.n := ht _ (List.getElem_mem hil)
      have hval : ((asInts σ.tofin)[i]?).getD 0 = (σ.tofin[i] : Int) := by
        unfold asInts; rw [List.getElem?_map, List.getElem?_eq_getElem hil]; rfl
      rw [hval]
      walk_at "gc"
      refine t_name_cell Fc List.mem_cons_self hc3 ?_
      walk_at "gc"
      refine t_getitem_sdict hwd3 wd_order ?_
      walk_at "gc"
      have hol : ov.length = W.n := by rw [hoi.length]; unfold asInts; rw [List.length_map, List.length_map, List.length_range]
      have hlt : ((σ.tofin[i] : Nat) : Int).toNat < ov.length := by rw [hol]; assumption
      obtain ⟨to, hto⟩ := ints_at hoi _ _ (List.getElem?_eq_getElem hlt)
      refine t_item_list (v := ov[((σ.tofin[i] : Nat) : Int).toNat]) hov (by rw [hol]; lia) (by lia) (List.getElem?_eq_getElem hlt) ?_
      refine ⟨rfl, hJ _ _ ⟨rfl, by simp [ha], ?_⟩⟩
      have hget : ((asInts ((List.range W.n).map nm))[((σ.tofin[i] : Nat) : Int).toNat]?).getD 0 = (nm σ.tofin[i] : Int) := by
        rw [Int.toNat_natCast]
        unfold asInts
        rw [List.getElem?_map, List.getElem?_map, List.getElem?_range hxn]; rfl
      rw [hget] at hto
      rw [hto]
      have htk : (σ.tofin.take (i + 1)).map nm = (σ.tofin.take i).map nm ++ [nm σ.tofin[i]] := by rw [List.take_add_one, List.getElem?_eq_getElem hil, List.map_append]; rfl
      rw [htk]
      have := ints_append hacc (.cons (nm σ.tofin[i] : Int) to .nil)
      unfold asInts at *
      rw [List.map_append]; exact this
    · rintro acc H' ⟨rfl, ha, hacc⟩ r hr
      have er := Ext.new hr (tmp, .list acc)
      rw [hpl, List.take_length] at hacc
      have htl : tv.length = told.length := by rw [hti.length]; exact List.length_map ..
      have hal : acc.length = σ.tofin.length := by lia
      refine t_addLists (er _ _ htv) (upd_self _ _ _) (by lia) (by lia) fun r2 hr2 => ?_
      have er2 := er.trans (Ext.new hr2 (tmp, .list (tv ++ acc)))
      have hr2v := upd_self (upd H' r (tmp, .list acc)) r2 (tmp, Cell.list (tv ++ acc))
      revert er2 hr2v
      generalize hH5 : upd (upd H' r (tmp, .list acc)) r2 (tmp, Cell.list (tv ++ acc)) = H5
      intro er2 hr2v
      refine t_name_cell F List.mem_cons_self (er2 _ _ hc3) ?_
      walk_at "gc"
      refine t_setitem_sdict (er2 _ _ hwd3) (by show 5 ≤ 1000; decide) ?_
      rw [wd_settold]
      have nr2 : H' r2 = none := er.none hr2
      have nw2 : r2 ≠ wd := fun q => by rw [q, hwd3] at nr2; cases nr2
      have hr6 : upd H5 wd ((W.k, 14, 0), .sdict (wdict oA aA r2 (if W.rev then -1 else 1) td3 W.C)) r2 = some (tmp, .list (tv ++ acc)) := by rw [upd_ne _ _ nw2]; exact hr2v
      refine t_retag (g' := (W.k, 17, 0)) hr6 ?_
      have k7 : ∀ a x, H' a = some x → a ≠ wd → upd (upd H5 wd ((W.k, 14, 0), .sdict (wdict oA aA r2 (if W.rev then -1 else 1) td3 W.C))) r2 ((W.k, 17, 0), .list (tv ++ acc)) a = some x := fun a x e na => by
        have n2 : a ≠ r2 := fun q => by rw [q, nr2] at e; cases e
        rw [upd_ne _ _ n2, upd_ne _ _ na]; exact er2 _ _ e
      have hd7 : upd (upd H5 wd ((W.k, 14, 0), .sdict (wdict oA aA r2 (if W.rev then -1 else 1) td3 W.C))) r2 ((W.k, 17, 0), .list (tv ++ acc)) wd = some ((W.k, 14, 0), .sdict (wdict oA aA r2 (if W.rev then -1 else 1) td3 W.C)) := by
        rw [upd_ne _ _ nw2.symm, upd_self]
      have hr7 := upd_self (upd H5 wd ((W.k, 14, 0), .sdict (wdict oA aA r2 (if W.rev then -1 else 1) td3 W.C))) r2 ((W.k, 17, 0), Cell.list (tv ++ acc))
      revert k7 hd7 hr7
      generalize upd (upd H5 wd ((W.k, 14, 0), .sdict (wdict oA aA r2 (if W.rev then -1 else 1) td3 W.C))) r2 ((W.k, 17, 0), Cell.list (tv ++ acc)) = H7
      intro k7 hd7 hr7
      have nwd : ∀ {a t c}, H' a = some (t, c) → t ≠ (W.k, 14, 0) → a ≠ wd := fun e ne q => ne (by rw [q, hwd3] at e; cases e; rfl)
      have hW7 : WR W (drained σ σ.tofin.length) H7 := hW3.keep fun a t c e mm => k7 _ _ e (nwd e fun q => by rw [q] at mm; exact absurd (show 14 ≤ 13 from mm.2) (by decide))
      have hp7 := k7 _ _ hp3 (nwd hp3 fun q => kp (congrArg (fun t : Tag => t.1) q).symm)
      refine t_cons (t_ret ?_)
      walk_at "gc"
      refine t_callKw1 ?_
      walk_at "gc"
      refine ⟨_, rfl, ?_⟩
      walk_at "gc"
      refine t_sortedRev (ns := asInts σ.tofin) hp7 hpi (by lia) fun sA sv sn nsA hsi hperm hord => ?_
      have e8 := Ext.new nsA (tmp, .list sv)
      refine t_eqInts (n := k + 1) R' (e8 _ _ hp7) (upd_self _ _ _) hpi hsi ?_
      have heq : asInts σ.tofin = sn := by
        refine perm_desc hperm.symm ?_ (by unfold Ordered at hord; exact hord)
        unfold asInts
        refine List.Pairwise.map _ ?_ hdesc
        intro a b hab; lia
      rw [decide_eq_true heq]
      refine h _ r2 (hW7.ext e8) ?_ fun a t c e ns na => ?_
      · have X7 : LW H7 W wd oA aA r2 nm ps (told ++ σ.tofin.map nm) := by
          refine ⟨⟨td3, hd7⟩, ⟨ov, k7 _ _ hov (nwd hov (tag_ne (by decide))), hoi⟩, k7 _ _ X3.a (nwd X3.a (tag_ne (by decide))), ⟨tv ++ acc, hr7, ?_⟩, X3.np, X3.pn⟩
          have := ints_append hti hacc
          unfold asInts at *
          rw [List.map_append]; exact this
        exact X7.frame (Frame.ext e8)
      · exact e8 _ _ (k7 _ _ (f3 _ _ _ e ns) na)
end

/-! part M25 -/
/-! the functions that are made in _law_heap -/
noncomputable def hs (w : World) (n : Nat) : Stmt := ((bodyOf (fdOf (KK w) 458))[n]?).getD (.Pass ⟨0, 0, 0, 0⟩)
noncomputable def dParams : Stmt → Arguments
  | .FunctionDef _ ps _ _ _ _ _ _ _ _ => ps
  | _ => default
noncomputable def dBody : Stmt → List Stmt
  | .FunctionDef _ _ b _ _ _ _ _ _ _ => b
  | _ => []
noncomputable def dScope : Stmt → Scope
  | .FunctionDef _ _ _ _ _ _ sc _ _ _ => sc
  | _ => default
noncomputable def lamAt (i : Nat) : Stmt → Expr
  | .Assign _ (.Call _ args _ _) _ => (args[i]?).getD (.Constant .none 0 ⟨0, 0, 0, 0⟩)
  | _ => .Constant .none 0 ⟨0, 0, 0, 0⟩
noncomputable def lParams : Expr → Arguments
  | .Lambda ps _ _ _ => ps
  | _ => default
noncomputable def lBody : Expr → Expr
  | .Lambda _ b _ _ => b
  | e => e
noncomputable def lScope : Expr → Scope
  | .Lambda _ _ sc _ => sc
  | _ => default
noncomputable def thFd (w : World) (clos : List (Str × Addr)) (doc pm cv ctv : Value) : FuncData := fnX "thing_of" "_law_heap.<locals>.thing_of" (dParams (hs w 1)) (dBody (hs w 1)) (dScope (hs w 1)) clos .none .none doc pm none cv ctv
noncomputable def chFd (w : World) (clos : List (Str × Addr)) (doc pm cv ctv : Value) : FuncData := fnX "children" "_law_heap.<locals>.children" (dParams (hs w 2)) (dBody (hs w 2)) (dScope (hs w 2)) clos .none .none doc pm none cv ctv
noncomputable def laFd (w : World) (i : Nat) (clos : List (Str × Addr)) (pm cv ctv : Value) : FuncData := kla_fn "<lambda>" "_law_heap.<locals>.<lambda>" (lParams (lamAt i (hs w 3))) (lBody (lamAt i (hs w 3))) (lScope (lamAt i (hs w 3))) clos pm cv ctv
noncomputable abbrev fnObj (fd : FuncData) : Obj := { cls := .type "function", data := .func fd }
/-- the addresses that a heap's functions see -/
structure Sees where
  tf : Addr
  cO : Addr
  cT : Addr
  cE : Addr
  cF : Addr
  cW : Addr
structure Fns (w : World) (H : LH) (W : Wd) (c : Sees) (wd oA eA thA : Addr) : Prop where
  th : ∃ doc pm cv ctv, H c.tf = some ((W.k, 18, 0), .obj (fnObj (thFd w [("things", c.cT), ("order", c.cO)] doc pm cv ctv))) ∧ CodeOb H cv "_law_heap.<locals>.thing_of"
  ch : ∃ doc pm cv ctv, H W.chF = some ((W.k, 18, 1), .obj (fnObj (chFd w [("world", c.cW), ("order", c.cO), ("edges", c.cE)] doc pm cv ctv))) ∧ CodeOb H cv "_law_heap.<locals>.children"
  so : ∃ pm cv ctv, H W.soF = some ((W.k, 18, 2), .obj (fnObj (laFd w 1 [("thing_of", c.cF)] pm cv ctv))) ∧ CodeOb H cv "_law_heap.<locals>.<lambda>"
  wa : ∃ pm cv ctv, H W.waF = some ((W.k, 18, 4), .obj (fnObj (laFd w 3 [("thing_of", c.cF)] pm cv ctv))) ∧ CodeOb H cv "_law_heap.<locals>.<lambda>"
  cO : H c.cO = some ((0, 1, 0), .cell (some (.ref oA)))
  cT : H c.cT = some ((0, 1, 0), .cell (some (.ref thA)))
  cE : H c.cE = some ((0, 1, 0), .cell (some (.ref eA)))
  cF : H c.cF = some ((0, 1, 0), .cell (some (.ref c.tf)))
  cW : H c.cW = some ((0, 1, 0), .cell (some (.ref wd)))
theorem Fns.keep {w : World} {H H' : LH} {W : Wd} {c : Sees} {wd oA eA thA : Addr} (F : Fns w H W c wd oA eA thA) (k : ∀ a t x, H a = some (t, x) → (t.1 = W.k ∧ t.2.1 = 18) ∨ t = (0, 1, 0) ∨ t = (0, 8, 0) → H' a = some (t, x)) : Fns w H' W c wd oA eA thA where
  th := let ⟨a, b, d, e, h, z⟩ := F.th; ⟨a, b, d, e, k _ _ _ h (.inl ⟨rfl, rfl⟩), z.mono fun a x e => k a _ x e (.inr (.inr rfl))⟩
  ch := let ⟨a, b, d, e, h, z⟩ := F.ch; ⟨a, b, d, e, k _ _ _ h (.inl ⟨rfl, rfl⟩), z.mono fun a x e => k a _ x e (.inr (.inr rfl))⟩
  so := let ⟨b, d, e, h, z⟩ := F.so; ⟨b, d, e, k _ _ _ h (.inl ⟨rfl, rfl⟩), z.mono fun a x e => k a _ x e (.inr (.inr rfl))⟩
  wa := let ⟨b, d, e, h, z⟩ := F.wa; ⟨b, d, e, k _ _ _ h (.inl ⟨rfl, rfl⟩), z.mono fun a x e => k a _ x e (.inr (.inr rfl))⟩
  cO := k _ _ _ F.cO (.inr (.inl rfl))
  cT := k _ _ _ F.cT (.inr (.inl rfl))
  cE := k _ _ _ F.cE (.inr (.inl rfl))
  cF := k _ _ _ F.cF (.inr (.inl rfl))
  cW := k _ _ _ F.cW (.inr (.inl rfl))
/-- the things of the law -/
structure Th (H : LH) (n : Nat) (thA : Addr) (tA : Nat → Addr) (so ki s0 s1 : Nat → Int) : Prop where
  l : H thA = some ((0, 9, 0), .list ((List.range n).map fun i => .ref (tA i)))
  t : ∀ i < n, ∃ u0 u1 u2 u3, H (tA i) = some ((0, 10, i), .obj (tupObj [.int (so i) u0, .int (ki i) u1, .int (s0 i) u2, .int (s1 i) u3]))
theorem Th.keep {H H' : LH} {n : Nat} {thA : Addr} {tA : Nat → Addr} {so ki s0 s1 : Nat → Int} (T : Th H n thA tA so ki s0 s1) (k : ∀ a t x, H a = some (t, x) → t.1 = 0 ∧ (t.2.1 = 9 ∨ t.2.1 = 10) → H' a = some (t, x)) : Th H' n thA tA so ki s0 s1 :=
  ⟨k _ _ _ T.l ⟨rfl, .inl rfl⟩, fun i hi => let ⟨a, b, c, d, e⟩ := T.t i hi; ⟨a, b, c, d, k _ _ _ e ⟨rfl, .inr rfl⟩⟩⟩
section
variable {w : World} {hT : Heap} {A : Around} {L : Addr} {m : Loc} {H : LH} {n : Nat} {W : Wd} {σ : Sg}
theorem c_thing (P : Tp (KK w) hT) (R : Room (n + 1) A) {c : Sees} {wd oA eA thA aA taA : Addr} {nm ps : Nat → Nat} {told : List Nat} {tA : Nat → Addr} {so ki s0 s1 : Nat → Int} {i : Nat} {Q : Value → LH → Prop}
    (hW : WR W σ H) (hnum : ∀ i, W.num i = i + 1) (n9 : W.n ≤ 9) (X : LW H W wd oA aA taA nm ps told) (F : Fns w H W c wd oA eA thA) (T0 : Th H W.n thA tA so ki s0 s1) (hi : i < W.n)
    (h : Q (.ref (tA (nm i))) H) : C PG w hT A (.ref c.tf) ⟨[.ref (W.O i)], []⟩ H Q := by
  obtain ⟨doc, pm, cv, ctv, hf, hcode⟩ := F.th
  refine c_clo (ps := ["obj"]) (ls := []) (gs := []) (fs := [("order", c.cO), ("things", c.cT)]) (body := dBody (hs w 1)) (ns := ["obj"]) (vs := [some (.ref (W.O i))]) P R hf hcode rfl rfl rfl (by kernel_rfl) (fun p hp => ?_) (by kernel_rfl) rfl fun L env A' he FE R' => ?_
  · rcases List.mem_cons.mp hp with rfl | hp
    · kernel_rfl
    · rw [List.mem_singleton] at hp; subst hp; kernel_rfl
  obtain ⟨ov, hov, hoi⟩ := X.o
  have hol : ov.length = W.n := by rw [hoi.length]; unfold asInts; rw [List.length_map, List.length_map, List.length_range]
  refine t_cons (t_ret ?_)
  walk_at "gc"
  refine t_name_cell FE (List.mem_cons_of_mem _ List.mem_cons_self) F.cT ?_
  walk_at "gc"
  refine t_name_cell FE List.mem_cons_self F.cO ?_
  walk_at "gc"
  refine g_number P hW hi fun _ => ?_
  walk_at "gc"
  have hnx : ((W.num i : Nat) : Int) - 1 = (i : Int) := by rw [hnum]; lia
  rw [hnx]
  have hlt : ((i : Nat) : Int).toNat < ov.length := by rw [hol]; assumption
  obtain ⟨to, hto⟩ := ints_at hoi _ _ (List.getElem?_eq_getElem hlt)
  refine t_item_list (v := ov[((i : Nat) : Int).toNat]) hov (by rw [hol]; lia) (by lia) (List.getElem?_eq_getElem hlt) ?_
  have hget : ((asInts ((List.range W.n).map nm))[((i : Nat) : Int).toNat]?).getD 0 = (nm i : Int) := by
    rw [Int.toNat_natCast]
    unfold asInts
    rw [List.getElem?_map, List.getElem?_map, List.getElem?_range hi]; rfl
  rw [hget] at hto
  rw [hto]
  have hn := (X.np i hi).1
  refine t_item_list (v := .ref (tA (nm i))) T0.l (by rw [List.length_map, List.length_range]; lia) (by lia) (by
    rw [Int.toNat_natCast, List.getElem?_map, List.getElem?_range hn]; rfl) ?_
  exact h

/-- the children of a thing by its place -/
noncomputable def kids (W : Wd) (ps nm : Nat → Nat) (ed : Nat → List Nat) (i : Nat) : List Nat := if i < W.n then rootsOf W ps (ed (nm i)) else []
theorem c_kids (P : Tp (KK w) hT) (R : Room (n + 1) A) {c : Sees} {wd oA eA thA aA taA rA : Addr} {eL : Nat → Addr} {nm ps : Nat → Nat} {told : List Nat} {ed : Nat → List Nat} {ro : List Nat} {i : Nat} {Q : Value → LH → Prop}
    (hW : WR W σ H) (hnum : ∀ i, W.num i = i + 1) (n9 : W.n ≤ 9) (X : LW H W wd oA aA taA nm ps told) (F : Fns w H W c wd oA eA thA) (G : Gr H W.n eA rA eL ed ro) (hi : i < W.n)
    (h : ∀ l H', (∀ a x, H a = some x → H' a = some x) → H' l = some (tmp, .list (W.refs (kids W ps nm ed i))) → Q (.ref l) H') : C PG w hT A (.ref W.chF) ⟨[.ref (W.O i)], []⟩ H Q := by
  obtain ⟨doc, pm, cv, ctv, hf, hcode⟩ := F.ch
  refine c_clo (ps := ["obj"]) (ls := []) (gs := []) (fs := [("edges", c.cE), ("order", c.cO), ("world", c.cW)]) (body := dBody (hs w 2)) (ns := ["obj"]) (vs := [some (.ref (W.O i))]) P R hf hcode rfl rfl rfl (by kernel_rfl) (fun p hp => ?_) (by kernel_rfl) rfl fun L env A' he FE R' => ?_
  · rcases List.mem_cons.mp hp with rfl | hp
    · kernel_rfl
    · rcases List.mem_cons.mp hp with rfl | hp
      · kernel_rfl
      · rw [List.mem_singleton] at hp; subst hp; kernel_rfl
  obtain ⟨ov, hov, hoi⟩ := X.o
  have hol : ov.length = W.n := by rw [hoi.length]; unfold asInts; rw [List.length_map, List.length_map, List.length_range]
  obtain ⟨td, hwd⟩ := X.d
  have hn := (X.np i hi).1
  obtain ⟨ev, hev, hei, hez⟩ := G.el _ hn
  refine t_cons (t_ret ?_)
  refine t_compListF P FE R'.h [] [("world", c.cW)] (cl := [("world", c.cW)]) (by rw [he]; kernel_rfl) (by kernel_rfl) (fun p hp => by rw [List.mem_singleton] at hp; subst hp; kernel_rfl) ?_
  walk_at "gc"
  refine t_name_cell FE List.mem_cons_self F.cE ?_
  walk_at "gc"
  refine t_name_cell FE (List.mem_cons_of_mem _ List.mem_cons_self) F.cO ?_
  walk_at "gc"
  refine g_number P hW hi fun _ => ?_
  walk_at "gc"
  have hnx : ((W.num i : Nat) : Int) - 1 = (i : Int) := by rw [hnum]; lia
  rw [hnx]
  have hlt : ((i : Nat) : Int).toNat < ov.length := by rw [hol]; assumption
  obtain ⟨to, hto⟩ := ints_at hoi _ _ (List.getElem?_eq_getElem hlt)
  refine t_item_list (v := ov[((i : Nat) : Int).toNat]) hov (by rw [hol]; lia) (by lia) (List.getElem?_eq_getElem hlt) ?_
  have hget : ((asInts ((List.range W.n).map nm))[((i : Nat) : Int).toNat]?).getD 0 = (nm i : Int) := by
    rw [Int.toNat_natCast]
    unfold asInts
    rw [List.getElem?_map, List.getElem?_map, List.getElem?_range hi]; rfl
  rw [hget] at hto
  rw [hto]
  refine t_item_list (v := .ref (eL (nm i))) G.e (by rw [List.length_map, List.length_range]; omega) (by lia) (by
    rw [Int.toNat_natCast, List.getElem?_map, List.getElem?_range hn]; rfl) ?_
  refine t_slice3 ?_
  refine t_index ?_
  refine t_name_cell FE (List.mem_cons_of_mem _ (List.mem_cons_of_mem _ List.mem_cons_self)) F.cW ?_
  walk_at "gc"
  refine t_getitem_sdict hwd wd_turn fun sl nsl => ?_
  have es := Ext.new nsl (tmp, .obj (sliceObj .none .none (.int (if W.rev then -1 else 1) td)))
  refine t_item_slice (es _ _ hev) (upd_self _ _ _) .none .none (.int _ td) (by cases W.rev <;> decide) (by lia) fun l nl => ?_
  rw [pick_turn]
  have e2 := es.trans (Ext.new nl (tmp, .list (if W.rev then ev.reverse else ev)))
  have hl := upd_self (upd H sl (tmp, .obj (sliceObj .none .none (.int (if W.rev then -1 else 1) td)))) l (tmp, Cell.list (if W.rev then ev.reverse else ev))
  revert e2 hl
  generalize upd (upd H sl (tmp, .obj (sliceObj .none .none (.int (if W.rev then -1 else 1) td)))) l (tmp, Cell.list (if W.rev then ev.reverse else ev)) = H2
  intro e2 hl
  have hz2 : (if W.rev then ev.reverse else ev).length ≤ 1000 := by
    split
    · rw [List.length_reverse]; omega
    · omega
  have X2 := X.frame (Frame.ext e2)
  obtain ⟨td2, hwd2⟩ := X2.d
  have hri2 := ints_rev hei W.rev
  refine ⟨l, _, fun j acc H' => And3 (H' = H2) (acc.length = j) (acc = W.refs (((if W.rev then (ed (nm i)).reverse else ed (nm i)).take j).map ps)), rfl, hz2, ⟨rfl, rfl, rfl⟩, ?_, ?_, ?_⟩
  · rintro j acc H' ⟨rfl, ha, -⟩
    exact ⟨ha, _, hl⟩
  · rintro J C env' j acc hJ H' v Fc ⟨rfl, ha, hacc⟩ hv
    obtain ⟨tv, rfl⟩ := ints_at hri2 j v hv
    have hil : j < (if W.rev then (ed (nm i)).reverse else ed (nm i)).length := by
      have a1 := (List.getElem?_eq_some_iff.mp hv).1
      have a2 := hri2.length
      unfold asInts at a2
      rw [List.length_map] at a2
      lia
    obtain ⟨x, hx⟩ : ∃ x, (if W.rev then (ed (nm i)).reverse else ed (nm i))[j]? = some x := ⟨_, List.getElem?_eq_getElem hil⟩
    have hxn : x < W.n := by
      refine G.eb _ hn x ?_
      have := List.mem_of_getElem? hx
      split at this
      · exact List.mem_reverse.mp this
      · exact this
    have hval : ((asInts (if W.rev then (ed (nm i)).reverse else ed (nm i)))[j]?).getD 0 = (x : Int) := by
      unfold asInts; rw [List.getElem?_map, hx]; rfl
    rw [hval]
    walk_at "gc"
    refine t_name_cell Fc List.mem_cons_self (e2 _ _ F.cW) ?_
    walk_at "gc"
    refine t_getitem_sdict hwd2 wd_all ?_
    walk_at "gc"
    refine t_getitem_idict X2.a (X2.byname hxn) ?_
    refine ⟨rfl, hJ _ _ ⟨rfl, by simp [ha], ?_⟩⟩
    rw [hacc, List.take_add_one, hx, List.map_append, refs_append]; rfl
  · rintro acc H' ⟨rfl, ha, hacc⟩ r hr2
    have en := Ext.new hr2 (tmp, .list acc)
    have hfull : acc = W.refs (kids W ps nm ed i) := by
      rw [hacc]
      unfold kids rootsOf
      rw [if_pos hi]
      have a2 := hri2.length
      unfold asInts at a2
      rw [List.length_map] at a2
      rw [a2, List.take_length]
    exact h r _ (e2.trans en) (by rw [upd_self, hfull])
theorem c_sortof (P : Tp (KK w) hT) (R : Room (n + 2) A) {c : Sees} {wd oA eA thA aA taA : Addr} {nm ps : Nat → Nat} {told : List Nat} {tA : Nat → Addr} {so ki s0 s1 : Nat → Int} {i : Nat} {Q : Value → LH → Prop}
    (hW : WR W σ H) (hnum : ∀ i, W.num i = i + 1) (n9 : W.n ≤ 9) (X : LW H W wd oA aA taA nm ps told) (F : Fns w H W c wd oA eA thA) (T0 : Th H W.n thA tA so ki s0 s1) (hi : i < W.n)
    (h : ∀ t, Q (.int (so (nm i)) t) H) : C PG w hT A (.ref W.soF) ⟨[.ref (W.O i)], []⟩ H Q := by
  obtain ⟨pm, cv, ctv, hf, hcode⟩ := F.so
  refine c_lam (ps := ["obj"]) (gs := []) (fs := [("thing_of", c.cF)]) (body := lBody (lamAt 1 (hs w 3))) (vs := [some (.ref (W.O i))]) P R hf hcode rfl rfl rfl (by kernel_rfl) (fun p hp => ?_) (by kernel_rfl) rfl fun L env A' he FE R' => ?_
  · rw [List.mem_singleton] at hp; subst hp; kernel_rfl
  obtain ⟨doc, pm', cv', ctv', hf', -⟩ := F.th
  obtain ⟨u0, u1, u2, u3, ht⟩ := T0.t _ (X.np i hi).1
  refine t_index ?_
  refine t_callName ?_
  refine t_name_cell FE List.mem_cons_self F.cF ?_
  walk_at "gc"
  refine ⟨keeps_fn hf', t_call (c_thing P R' hW hnum n9 X F T0 hi ?_)⟩
  walk_at "gc"
  exact t_item_tuple ht (Int.le_refl _) (by decide) rfl (h _)
theorem c_wants (P : Tp (KK w) hT) (R : Room (n + 2) A) {c : Sees} {wd oA eA thA aA taA : Addr} {nm ps : Nat → Nat} {told : List Nat} {tA : Nat → Addr} {so ki s0 s1 : Nat → Int} {i : Nat} {Q : Value → LH → Prop}
    (hW : WR W σ H) (hnum : ∀ i, W.num i = i + 1) (n9 : W.n ≤ 9) (X : LW H W wd oA aA taA nm ps told) (F : Fns w H W c wd oA eA thA) (T0 : Th H W.n thA tA so ki s0 s1) (hi : i < W.n)
    (h : Q (.bool (decide (ki (nm i) = 1))) H) : C PG w hT A (.ref W.waF) ⟨[.ref (W.O i)], []⟩ H Q := by
  obtain ⟨pm, cv, ctv, hf, hcode⟩ := F.wa
  refine c_lam (ps := ["obj"]) (gs := []) (fs := [("thing_of", c.cF)]) (body := lBody (lamAt 3 (hs w 3))) (vs := [some (.ref (W.O i))]) P R hf hcode rfl rfl rfl (by kernel_rfl) (fun p hp => ?_) (by kernel_rfl) rfl fun L env A' he FE R' => ?_
  · rw [List.mem_singleton] at hp; subst hp; kernel_rfl
  obtain ⟨doc, pm', cv', ctv', hf', -⟩ := F.th
  obtain ⟨u0, u1, u2, u3, ht⟩ := T0.t _ (X.np i hi).1
  refine t_compare ?_ (hm := by with_unfolding_all rfl)
  refine t_index ?_
  refine t_callName ?_
  refine t_name_cell FE List.mem_cons_self F.cF ?_
  walk_at "gc"
  refine ⟨keeps_fn hf', t_call (c_thing P R' hW hnum n9 X F T0 hi ?_)⟩
  walk_at "gc"
  refine t_item_tuple ht (by decide) (by decide) rfl ?_
  walk_at "gc"
  exact h
/-- all that a world's callables rest on -/
structure Env1 (w : World) (H : LH) (W : Wd) (c : Sees) (wd oA eA thA aA taA rA : Addr) (eL tA : Nat → Addr) (nm ps : Nat → Nat) (told : List Nat) (ed : Nat → List Nat) (ro : List Nat) (so ki s0 s1 : Nat → Int) : Prop where
  X : LW H W wd oA aA taA nm ps told
  F : Fns w H W c wd oA eA thA
  G : Gr H W.n eA rA eL ed ro
  T : Th H W.n thA tA so ki s0 s1
  kpos : W.k ≠ 0
  n9 : W.n ≤ 9
  num : ∀ i, W.num i = i + 1
  sort : ∀ i < W.n, W.sort i = so (nm i)
  kind : ∀ i < W.n, W.kind i = ki (nm i)
  sorts : ∀ i < W.n, so i = 0 ∨ so i = 1 ∨ so i = 3
  sizes : ∀ i < W.n, 1 ≤ W.size i ∧ W.size i ≤ 40
theorem Env1.frame {H H' : LH} {c : Sees} {wd oA eA thA aA taA rA : Addr} {eL tA : Nat → Addr} {nm ps : Nat → Nat} {told : List Nat} {ed : Nat → List Nat} {ro : List Nat} {so ki s0 s1 : Nat → Int}
    (Z : Env1 w H W c wd oA eA thA aA taA rA eL tA nm ps told ed ro so ki s0 s1) (f : Frame W.k H H') : Env1 w H' W c wd oA eA thA aA taA rA eL tA nm ps told ed ro so ki s0 s1 :=
  have z : ∀ {t : Tag}, t.1 = 0 → ¬ mine W.k t := fun e q => Z.kpos (q.1.symm.trans e)
  ⟨Z.X.frame f, Z.F.keep fun a t x e ht => f _ _ _ e (by
      rcases ht with ⟨_, h2⟩ | rfl | rfl
      · intro q; have := q.2; lia
      · exact z rfl
      · exact z rfl), Z.G.keep fun a t x e ht => f _ _ _ e (z ht.1), Z.T.keep fun a t x e ht => f _ _ _ e (z ht.1), Z.kpos, Z.n9, Z.num, Z.sort, Z.kind, Z.sorts, Z.sizes⟩
theorem clo_of (P : Tp (KK w) hT) {c : Sees} {wd oA eA thA aA taA rA : Addr} {eL tA : Nat → Addr} {nm ps : Nat → Nat} {told : List Nat} {ed : Nat → List Nat} {ro : List Nat} {so ki s0 s1 : Nat → Int}
    (Z : Env1 w H W c wd oA eA thA aA taA rA eL tA nm ps told ed ro so ki s0 s1) : Clo w hT W (kids W ps nm ed) H where
  kpos := Z.kpos
  edge := fun i hi j hj => by
    unfold kids rootsOf at hj
    rw [if_pos hi] at hj
    obtain ⟨x, hx, rfl⟩ := List.mem_map.mp hj
    refine (Z.X.pn x (Z.G.eb _ (Z.X.np i hi).1 x ?_)).1
    split at hx
    · exact List.mem_reverse.mp hx
    · exact hx
  few := fun i hi => by
    unfold kids rootsOf
    rw [if_pos hi, List.length_map]
    obtain ⟨ev, _, hei, hez⟩ := Z.G.el _ (Z.X.np i hi).1
    have : ev.length = (ed (nm i)).length := by rw [hei.length]; exact List.length_map ..
    split
    · rw [List.length_reverse]; lia
    · omega
  n9 := Z.n9
  sorts := fun i hi => by rw [Z.sort i hi]; exact Z.sorts _ (Z.X.np i hi).1
  sizes := Z.sizes
  nums := fun i _ j _ e => by rw [Z.num, Z.num] at e; lia
  kch := fun H' f => by
    have Z' := Z.frame f
    obtain ⟨_, _, _, _, h1, _⟩ := Z'.F.ch
    obtain ⟨_, _, _, h2, _⟩ := Z'.F.so
    obtain ⟨_, _, _, h3, _⟩ := Z'.F.wa
    exact ⟨keeps_fn h1, keeps_fn h2, keeps_fn h3⟩
  ch := fun A σ H' n i Q f hW R hi h => by
    have Z' := Z.frame f
    exact c_kids P (R.le (by lia : n + 1 ≤ n + 3)) hW Z'.num Z'.n9 Z'.X Z'.F Z'.G hi h
  so := fun A σ H' n i Q f hW R hi h => by
    have Z' := Z.frame f
    refine c_sortof P (R.le (by exact Nat.le_succ _ : n + 2 ≤ n + 3)) hW Z'.num Z'.n9 Z'.X Z'.F Z'.T hi fun t => ?_
    rw [← Z.sort i hi]
    exact h t H' fun _ _ e => e
  wa := fun A σ H' n i Q f hW R hi h => by
    have Z' := Z.frame f
    refine c_wants P (R.le (by exact Nat.le_succ _ : n + 2 ≤ n + 3)) hW Z'.num Z'.n9 Z'.X Z'.F Z'.T hi ?_
    rw [← Z.kind i hi]
    exact h H' fun _ _ e => e
end

/-! part M26 -/
noncomputable abbrev FLs : List (Pos × Str) := [(⟨354, 4, 355, 44⟩, "_law_heap.<locals>.thing_of"), (⟨357, 4, 358, 93⟩, "_law_heap.<locals>.children"), (⟨360, 0, 360, 28⟩, "_law_heap.<locals>.<lambda>"), (⟨361, 0, 361, 16⟩, "_law_heap.<locals>.<lambda>"), (⟨362, 0, 362, 33⟩, "_law_heap.<locals>.<lambda>")]
theorem fl_apart {p : Pos × Str} (h : (FLs.all fun q => decide (q.1.line = p.1.line ∧ q.1.col = p.1.col → q = p)) = true) : ∀ q ∈ FLs, q = p ∨ apart q.1 p.1 = true := fun q hq => by
  have := of_decide_eq_true (List.all_eq_true.mp h q hq)
  unfold apart
  by_cases e : q.1.line = p.1.line ∧ q.1.col = p.1.col
  · exact .inl (this e)
  · right
    simp only [Bool.not_eq_true', Bool.and_eq_false_iff, beq_eq_false_iff_ne]
    by_cases e1 : q.1.line = p.1.line
    · exact .inr fun e2 => e ⟨e1, e2⟩
    · exact .inl e1

noncomputable abbrev wd4 (oA aA tA : Addr) (turn : Int) (t : Tok) : List (Str × Value) := [("order", .ref oA), ("all", .ref aA), ("told", .ref tA), ("turn", .int turn t)]
theorem wd4_all {a b c d : Value} : valueAt [(("order" : Str), a), (("all" : Str), b), (("told" : Str), c), (("turn" : Str), d)] "all" = some b := by kernel_rfl
theorem wd4_cycle {a b c d e : Value} : stored [(("order" : Str), a), (("all" : Str), b), (("told" : Str), c), (("turn" : Str), d)] "cycle" e = [(("order" : Str), a), (("all" : Str), b), (("told" : Str), c), (("turn" : Str), d), (("cycle" : Str), e)] := by kernel_rfl
noncomputable def iniS (W : Wd) (N : Nat) (g a wk s d t r : Addr) : Sg := ⟨fun i => if i < N then 0 else 4, fun _ => false, List.range N, [], [], [], (List.range N).filter (fun i => decide (0 < W.kind i)), [], [], 0, 0, ((List.range N).map W.size).sum, 0, g, a, wk, s, d, t, r⟩

/-- a heap of the law as it is made -/
structure Born (w : World) (H H' : LH) (W : Wd) (σ : Sg) (c : Sees) (k N : Nat) (b : Bool) (wd oA eA thA aA taA : Addr) (nm ps : Nat → Nat) (so ki s0 s1 : Nat → Int) : Prop where
  k : W.k = k
  n : W.n = N
  rev : W.rev = b
  num : ∀ i, W.num i = i + 1
  sort : W.sort = fun i => so (nm i)
  kind : W.kind = fun i => ki (nm i)
  size : W.size = fun i => if b then s1 (nm i) else s0 (nm i)
  wr : WR W σ H'
  lw : LW H' W wd oA aA taA nm ps []
  fns : Fns w H' W c wd oA eA thA
  ini : ∃ g a wk s d t r, σ = iniS W N g a wk s d t r
  keep : ∀ a x, H a = some x → a ≠ 453 → H' a = some x
  tab : Tab H' 453 FLs
noncomputable abbrev hNs : List Str := ["which", "children", "cycle", "at", "name", "obj"]
noncomputable abbrev hFs (L : Addr) : List (Str × Addr) := [("world", L + 5), ("thing_of", L + 4), ("edges", L + 3), ("things", L + 2), ("order", L + 1)]
theorem strs4 : ([("order" : Str), "all", "told", "turn"]).Nodup := by decide +kernel
noncomputable def WW (k : Nat) (x d mA dm a1 chF soF clF waF : Addr) (size sort kind : Nat → Int) (b : Bool) (i : Nat) (O D : Nat → Addr) : Wd := ⟨k, i, x, d, mA, dm, a1, O, D, fun i => i + 1, chF, soF, clF, waF, size, sort, kind, b⟩
theorem iniS_zero {W : Wd} {g a wk s d t r : Addr} : iniS W 0 g a wk s d t r = S0 g a wk s d t r := by
  unfold iniS S0
  have : (fun i => if i < 0 then (0 : Int) else 4) = fun _ => 4 := by funext i; rw [if_neg (Nat.not_lt_zero i)]
  rw [this]; rfl
theorem iniS_taken {W : Wd} {N : Nat} {g a wk s d t r : Addr} (h : W.n = N) : taken W (iniS W N g a wk s d t r) = { iniS W (N + 1) g a wk s d t r with datas := (List.range N).filter (fun i => decide (0 < W.kind i)) } := by
  unfold taken iniS
  dsimp only
  rw [h]
  have e1 : setM (fun i => if i < N then (0 : Int) else 4) N 0 = fun i => if i < N + 1 then 0 else 4 := by
    funext i
    unfold setM
    by_cases q : i = N
    · subst q; simp
    · rw [if_neg q]
      show (if i < N then (0 : Int) else 4) = if i < N + 1 then 0 else 4
      by_cases q2 : i < N
      · rw [if_pos q2, if_pos (by (refine Nat.lt_succ_of_lt ?_; assumption))]
      · rw [if_neg q2, if_neg (by lia)]
  have e2 : setM (fun _ => false) N false = fun _ => false := by funext i; unfold setM; split <;> rfl
  have e4 : ((List.range N).map W.size).sum + W.size N = ((List.range (N + 1)).map W.size).sum := by
    rw [List.range_succ, List.map_append, List.sum_append]; simp
  rw [e1, e2, e4, List.range_succ]
theorem all_stored {nm : Nat → Nat} {O : Nat → Addr} {i : Nat} {xo : Addr} (inj : ∀ j < i, nm j ≠ nm i) : stored ((List.range i).map fun j => ((nm j : Int), Value.ref (O j))) (nm i : Int) (.ref xo) = (List.range (i + 1)).map fun j => ((nm j : Int), Value.ref (setM O i xo j)) := by
  unfold stored
  have : ((List.range i).map fun j => ((nm j : Int), Value.ref (O j))).any (fun kv => decide (kv.1 = (nm i : Int))) = false := by
    rw [List.any_eq_false]
    intro kv hkv
    obtain ⟨j, hj, rfl⟩ := List.mem_map.mp hkv
    simp only [decide_eq_true_eq]
    intro e
    exact inj j (List.mem_range.mp hj) (by lia)
  rw [this, if_neg Bool.false_ne_true, List.range_succ, List.map_append]
  congr 1
  · apply List.map_congr_left
    intro j hj
    have := List.mem_range.mp hj
    rw [setM_ne _ _ (by (refine Nat.ne_of_lt ?_; assumption))]
  · simp [setM_self]
section
variable {w : World} {hT : Heap} {A : Around} {L : Addr} {m : Loc} {H : LH} {n : Nat} {W : Wd} {σ : Sg}

theorem set_lk {ns : List Str} {vs vs' : List (Option Value)} {x : Str} {v : Value} (nd : ns.Nodup) (hp : Put ns vs x (some v) vs') : set (lk ns vs) x v = lk ns vs' := (hp.eq nd).symm
noncomputable abbrev WN (k : Nat) (x d mA dm a1 chF soF clF waF : Addr) (so ki s0 s1 : Nat → Int) (nm : Nat → Nat) (b : Bool) (i : Nat) (O D : Nat → Addr) : Wd := WW k x d mA dm a1 chF soF clF waF (fun i => if b then s1 (nm i) else s0 (nm i)) (fun i => so (nm i)) (fun i => ki (nm i)) b i O D
theorem heap_tail (P : Tp (KK w) hT) {n : Nat} {A' : Around} {env : Env} (F : FnE hT env L hNs [("EndCycle", .ref 421), ("enumerate", .type "enumerate"), ("HeapObject", .ref 440)] (hFs L)) (R' : Room (n + 7) A') {oA thA : Addr} {b : Bool} {tw : Tok} {k N : Nat} {ov : List Value} {tA : Nat → Addr} {nm ps : Nat → Nat} {so ki s0 s1 : Nat → Int} (kp : k ≠ 0)
    {x d mA dm a1 chF soF clF waF l1 l2 l3 l4 l5 l6 l7 wd aA taA : Addr} {tt : Tok} {Q : Flow → Loc → LH → Prop}
    (hW0 : WR (WN k x d mA dm a1 chF soF clF waF so ki s0 s1 nm b 0 (fun _ => 0) (fun _ => 0)) (S0 l1 l2 l3 l5 l6 l7 l4) H) (ho : H oA = some ((k, 15, 0), .list ov)) (hoi : IntsAre ov (asInts ((List.range N).map nm))) (T0 : Th H N thA tA so ki s0 s1) (n9 : N ≤ 9) (np : ∀ i < N, nm i < N ∧ ps (nm i) = i)
    (hcO : H (L + 1) = some ((0, 1, 0), .cell (some (.ref oA)))) (hcT : H (L + 2) = some ((0, 1, 0), .cell (some (.ref thA)))) (hcW : H (L + 5) = some ((0, 1, 0), .cell (some (.ref wd)))) (hwd : H wd = some ((k, 14, 0), .sdict (wd4 oA aA taA (if b then -1 else 1) tt))) (haA : H aA = some ((k, 16, 0), .idict []))
    (h : ∀ m' H' O D, WR (WN k x d mA dm a1 chF soF clF waF so ki s0 s1 nm b N O D) (iniS (WN k x d mA dm a1 chF soF clF waF so ki s0 s1 nm b N O D) N l1 l2 l3 l5 l6 l7 l4) H' → H' wd = some ((k, 14, 0), .sdict (wdict oA aA taA (if b then -1 else 1) tt x)) → H' aA = some ((k, 16, 0), .idict ((List.range N).map fun j => ((nm j : Int), .ref (O j)))) →
      (∀ a t c, H a = some (t, c) → ¬ mine k t → t ≠ (k, 16, 0) → t ≠ (k, 14, 0) → H' a = some (t, c)) → Q (.ret (.ref wd)) m' H') :
    T PG w hT A' L (execs ((bodyOf (fdOf (KK w) 458)).drop 4) env) (lk hNs [some (.int (if b then 1 else 0) tw), some (.ref chF), some (.ref x), none, none, none]) H Q := by
  have m1 : ((("order" : Str), L + 1) : Str × Addr) ∈ hFs L := by walk_at "gc_mem"
  have m2 : ((("things" : Str), L + 2) : Str × Addr) ∈ hFs L := by walk_at "gc_mem"
  have m5 : ((("world" : Str), L + 5) : Str × Addr) ∈ hFs L := by walk_at "gc_mem"
  have ovl : ov.length = N := by rw [hoi.length]; unfold asInts; rw [List.length_map, List.length_map, List.length_range]
  refine t_cons (t_for_src ?_)
  refine t_callName ?_
  walk_at "gc"
  refine t_name_cell F m1 hcO ?_
  walk_at "gc"
  refine ⟨keeps_type, t_enumerate ho fun e it o ne ni nei io => ?_⟩
  refine ⟨_, _, _, _, opens_enum (a := "at") (x := "name") R'.h ho ne ni nei io, ⟨okName_of F (by walk_at "gc_mem"), okName_of F (by walk_at "gc_mem")⟩, ?_⟩
  rintro H0 K ⟨rfl, rfl⟩
  refine ⟨fun i m' H' => (∃ c1 c2 c3, m' = lk hNs [some (.int (if b then 1 else 0) tw), some (.ref chF), some (.ref x), c1, c2, c3]) ∧ Ex2 fun O D => And3 (WR (WN k x d mA dm a1 chF soF clF waF so ki s0 s1 nm b i O D) (iniS (WN k x d mA dm a1 chF soF clF waF so ki s0 s1 nm b i O D) i l1 l2 l3 l5 l6 l7 l4) H') (H' aA = some ((k, 16, 0), .idict ((List.range i).map fun j => ((nm j : Int), .ref (O j))))) (∀ a t c, H0 a = some (t, c) → ¬ mine k t → t ≠ (k, 16, 0) → H' a = some (t, c)), ⟨⟨_, _, _, rfl⟩, (fun _ => 0), (fun _ => 0), ?_, haA, fun a t c e _ _ => e⟩, ?_, ?_, ?_⟩
  · rw [iniS_zero]; exact hW0
  · rintro i m' H' ⟨-, O, D, -, -, kk⟩
    exact ⟨_, kk _ _ _ ho (fun q => absurd q.2 (by show ¬ 15 ≤ 13; decide)) (tag_ne (by decide))⟩
  · rintro J i hJ m0 m' H' ⟨⟨c1, c2, c3, rfl⟩, O, D, hW, hA, kk⟩ hi ⟨v, u, hv, rfl⟩
    rw [ovl] at hi
    have hm : set (set (lk hNs [some (.int (if b then 1 else 0) tw), some (.ref chF), some (.ref x), c1, c2, c3]) "at" (.int (i : Int) u)) "name" v = lk hNs [some (.int (if b then 1 else 0) tw), some (.ref chF), some (.ref x), some (.int (i : Int) u), some v, c3] := by
      rw [set_lk F.nd (show Put hNs [some (.int (if b then 1 else 0) tw), some (.ref chF), some (.ref x), c1, c2, c3] "at" (some (.int (i : Int) u)) [some (.int (if b then 1 else 0) tw), some (.ref chF), some (.ref x), some (.int (i : Int) u), c2, c3] by walk_at "gc_put"), set_lk F.nd (by walk_at "gc_put")]
    rw [hm]
    obtain ⟨to, hto⟩ := ints_at hoi _ _ hv
    have hget : ((asInts ((List.range N).map nm))[i]?).getD 0 = (nm i : Int) := by
      unfold asInts
      rw [List.getElem?_map, List.getElem?_map, List.getElem?_range hi]; rfl
    rw [hget] at hto
    subst hto
    have hni := (np i hi).1
    obtain ⟨u0, u1, u2, u3, hth⟩ := T0.t _ hni
    have z0 : ∀ {r i r' i' : Nat}, ((0, r, i) : Tag) ≠ (k, r', i') := fun q => kp (congrArg (fun t : Tag => t.1) q).symm
    have zm : ∀ {r i : Nat}, ¬ mine k (0, r, i) := fun q => kp q.1.symm
    have hl1 := kk _ _ _ T0.l zm z0
    have hth1 := kk _ _ _ hth zm z0
    have hcT1 := kk _ _ _ hcT zm z0
    have hcW1 := kk _ _ _ hcW zm z0
    have hwd1 := kk _ _ _ hwd (fun q => absurd q.2 (by show ¬ 14 ≤ 13; decide)) (tag_ne (by decide))
    -- the thing is made
    refine t_cons (t_assign_name ?_)
    walk_at "gc"
    refine ⟨keeps_top P (by kernel_rfl), t_call (c_make P (by kernel_rfl : makeOk (KK w) 440 437 = true) (k, 5, i) (k, 4, i) fun xo do_ nx nd nxd => ?_)⟩
    rw [lk_nil]
    rename_i tn1 tn2
    have R2 : Room (n + 6) (A'.under (.builtin "type.__call__" ⟨.ref 440 :: [.int 0 tn1, .int 0 tn2], []⟩)) := by exact R'.make
    refine c_objInit P R2 (upd_self _ _ _) (by rw [upd_ne _ _ nxd.symm, upd_self]) fun H2 u4 hx2 hd2 K2 => ⟨rfl, ?_⟩
    have E12 : Ext H' H2 := fun a y e => by
      have na : a ≠ do_ := fun q => by rw [q, nd] at e; cases e
      have nb : a ≠ xo := fun q => by rw [q, nx] at e; cases e
      exact K2 a y (by rw [upd_ne _ _ nb, upd_ne _ _ na]; exact e) na
    refine t_store F (by walk_at "gc_put") ?_
    refine t_cons (t_assign_attr ?_)
    walk_at "gc"
    refine s_add (ns' := objNames) P hx2 hd2 (by kernel_rfl) (by decide) (by decide +kernel) rfl fun H3 hx3 hd3 K3 => ?_
    have E13 : Ext H' H3 := fun a y e => K3 a y (E12 _ _ e) fun q => by rw [q, nd] at e; cases e
    have hW3 := hW.ext E13
    clear E12 K2 K3
    -- it is taken in
    refine t_cons (t_exprF F ?_)
    walk_at "gc"
    refine meth_C P hW3 (by kernel_rfl : classFn (KK w) 421 "take_in" 189 = true) (by decide +kernel) ?_
    walk_at "gc"
    refine t_name_cell F m2 (E13 _ _ hcT1) ?_
    walk_at "gc"
    refine t_item_list (v := .ref (tA (nm i))) (E13 _ _ hl1) (by rw [List.length_map, List.length_range]; lia) (by lia) (by
      rw [Int.toNat_natCast, List.getElem?_map, List.getElem?_range hni]; rfl) ?_
    walk_at "gc"
    refine t_item_tuple (v := .int (if b then s1 (nm i) else s0 (nm i)) (if b then u3 else u2)) (E13 _ _ hth1) (by cases b <;> decide) (by cases b <;> decide) (by cases b <;> rfl) ?_
    walk_at "gc"
    have hat : (i : Int) + 1 = (((WN k x d mA dm a1 chF soF clF waF so ki s0 s1 nm b i O D).num (WN k x d mA dm a1 chF soF clF waF so ki s0 s1 nm b i O D).n : Nat) : Int) := by
      show (i : Int) + 1 = ((i + 1 : Nat) : Int); push_cast; rfl
    rw [hat]
    have lists : Lists (WN k x d mA dm a1 chF soF clF waF so ki s0 s1 nm b i O D) (iniS (WN k x d mA dm a1 chF soF clF waF so ki s0 s1 nm b i O D) i l1 l2 l3 l5 l6 l7 l4) :=
      ⟨fun j hj => List.mem_range.mp hj, fun j hj => (by cases hj), fun j hj => (by cases hj), fun j hj => List.mem_range.mp (List.mem_filter.mp hj).1, fun j hj => (by cases hj), fun j hj => (by cases hj)⟩
    refine ⟨keeps_top P (by kernel_rfl), t_call (c_takein (n := n + 6) (d := do_) P R' hW3 lists hx3 hd3 (fun j e => Nat.succ.inj e) (by show (List.range i).length ≤ 1000; rw [List.length_range]; lia) fun H4 hW4 f4 => ?_)⟩
    have etk := iniS_taken (W := WN k x d mA dm a1 chF soF clF waF so ki s0 s1 nm b i O D) (N := i) (g := l1) (a := l2) (wk := l3) (s := l5) (d := l6) (t := l7) (r := l4) rfl
    rw [etk] at hW4
    have k4 : ∀ a t c, H' a = some (t, c) → ¬ mine k t → H4 a = some (t, c) := fun a t c e ns => f4 _ _ _ (E13 _ _ e) ns
    -- it is known by its name
    refine t_cons (t_assign_sub ?_)
    walk_at "gc"
    refine t_name_cell F m5 (k4 _ _ _ hcW1 zm) ?_
    walk_at "gc"
    refine t_getitem_sdict (k4 _ _ _ hwd1 (fun q => absurd q.2 (by show ¬ 14 ≤ 13; decide))) wd4_all ?_
    walk_at "gc"
    have hA4 := k4 _ _ _ hA (fun q => absurd q.2 (by show ¬ 16 ≤ 13; decide))
    refine t_setitem_idict hA4 (by rw [List.length_map, List.length_range]; omega) ?_
    have inj : ∀ j < i, nm j ≠ nm i := fun j hj e => by
      have a := (np j (by lia)).2
      rw [e, (np i hi).2] at a; lia
    rw [all_stored inj]
    have hW5 := hW4.other hA4 (fun q => absurd q.2 (by show ¬ 16 ≤ 13; decide)) ((k, 16, 0), .idict ((List.range (i + 1)).map fun j => ((nm j : Int), Value.ref (setM O i xo j))))
    have hA5 := upd_self H4 aA ((k, 16, 0), Cell.idict ((List.range (i + 1)).map fun j => ((nm j : Int), Value.ref (setM O i xo j))))
    have k5 : ∀ a t c, H' a = some (t, c) → ¬ mine k t → t ≠ (k, 16, 0) → upd H4 aA ((k, 16, 0), Cell.idict ((List.range (i + 1)).map fun j => ((nm j : Int), Value.ref (setM O i xo j)))) a = some (t, c) := fun a t c e ns ne => by
      rw [upd_ne _ _ (ne_of_tag (k4 _ _ _ e ns) hA4 ne)]; exact k4 _ _ _ e ns
    revert hW5 hA5 k5
    generalize upd H4 aA ((k, 16, 0), Cell.idict ((List.range (i + 1)).map fun j => ((nm j : Int), Value.ref (setM O i xo j)))) = H5
    intro hW5 hA5 k5
    change WR (WN k x d mA dm a1 chF soF clF waF so ki s0 s1 nm b (i + 1) (setM O i xo) (setM D i do_)) _ H5 at hW5
    -- its end may be told
    refine t_cons (t_if_ ?_)
    walk_at "gc"
    refine t_name_cell F m2 (k5 _ _ _ hcT1 zm z0) ?_
    walk_at "gc"
    refine t_item_list (v := .ref (tA (nm i))) (k5 _ _ _ hl1 zm z0) (by rw [List.length_map, List.length_range]; lia) (by lia) (by
      rw [Int.toNat_natCast, List.getElem?_map, List.getElem?_range hni]; rfl) ?_
    walk_at "gc"
    refine t_item_tuple (v := .int (ki (nm i)) u1) (k5 _ _ _ hth1 zm z0) (by decide) (by decide) rfl ?_
    walk_at "gc"
    have hfil : (List.range (i + 1)).filter (fun j => decide (0 < ki (nm j))) = (List.range i).filter (fun j => decide (0 < ki (nm j))) ++ if 0 < ki (nm i) then [i] else [] := by
      rw [List.range_succ, List.filter_append]
      congr 1
      by_cases q : 0 < ki (nm i)
      · rw [if_pos q]; simp [q]
      · rw [if_neg q]; simp [q]
    refine ⟨fun hc => ?_, fun hc => ?_⟩
    · have hpos : 0 < ki (nm i) := by simpa using hc
      refine t_cons (t_exprF F ?_)
      walk_at "gc"
      refine g_datas P hW5 ?_
      refine t_methodList hW5.datas PySem.F.slot_list_append ty_append ?_
      walk_at "gc"
      refine ⟨keeps_builtin, t_call (c_append hW5.datas (by rw [refs_len]; exact Nat.le_trans (List.length_filter_le _ _) (by rw [List.length_range]; omega)) ?_)⟩
      have hW6 := hW5.setDatas (x_datas := (List.range (i + 1)).filter (fun j => decide (0 < ki (nm j)))) (H' := upd H5 l6 ((k, 11, 0), .list ((WN k x d mA dm a1 chF soF clF waF so ki s0 s1 nm b (i + 1) (setM O i xo) (setM D i do_)).refs ((List.range i).filter (fun j => decide (0 < ki (nm j)))) ++ [.ref xo])))
        (fun a s c e _ ne => But.upd hW5.datas (k, 11, 0) a s c e fun q => ne (by rw [q])) (by
          rw [hfil, if_pos hpos, refs_append]
          have : (WN k x d mA dm a1 chF soF clF waF so ki s0 s1 nm b (i + 1) (setM O i xo) (setM D i do_)).refs [i] = [.ref xo] := by
            show [Value.ref (setM O i xo i)] = _; rw [setM_self]
          rw [this]; exact upd_self _ _ _)
      refine t_nil (t_nil (hJ _ _ ⟨⟨_, _, _, rfl⟩, setM O i xo, setM D i do_, hW6, ?_, fun a t c e ns ne => ?_⟩))
      · rw [upd_ne _ _ (ne_of_tag hA5 hW5.datas (tag_ne (by decide)))]; exact hA5
      · have e5 := k5 _ _ _ (kk _ _ _ e ns ne) ns ne
        rw [upd_ne _ _ (ne_of_tag e5 hW5.datas fun q => ns (by rw [q]; exact mine_le (by decide)))]; exact e5
    · have hneg : ¬ 0 < ki (nm i) := by simpa using hc
      refine t_nil (t_nil (hJ _ _ ⟨⟨_, _, _, rfl⟩, setM O i xo, setM D i do_, ?_, hA5, fun a t c e ns ne => k5 _ _ _ (kk _ _ _ e ns ne) ns ne⟩))
      have : (List.range (i + 1)).filter (fun j => decide (0 < ki (nm j))) = (List.range i).filter (fun j => decide (0 < ki (nm j))) := by rw [hfil, if_neg hneg, List.append_nil]
      unfold iniS
      unfold iniS at hW5
      rw [show (List.range (i + 1)).filter (fun j => decide (0 < (WN k x d mA dm a1 chF soF clF waF so ki s0 s1 nm b (i + 1) (setM O i xo) (setM D i do_)).kind j)) = (List.range i).filter (fun j => decide (0 < ki (nm j))) from this]
      exact hW5
  · rintro m' H' ⟨⟨c1, c2, c3, rfl⟩, O, D, hW, hA, kk⟩
    rw [ovl] at hW hA
    have z0 : ∀ {r i r' i' : Nat}, ((0, r, i) : Tag) ≠ (k, r', i') := fun q => kp (congrArg (fun t : Tag => t.1) q).symm
    have zm : ∀ {r i : Nat}, ¬ mine k (0, r, i) := fun q => kp q.1.symm
    have hcW1 := kk _ _ _ hcW zm z0
    have hwd1 := kk _ _ _ hwd (fun q => absurd q.2 (by show ¬ 14 ≤ 13; decide)) (tag_ne (by decide))
    refine t_cons (t_assign_sub ?_)
    walk_at "gc"
    refine t_name_cell F m5 hcW1 ?_
    walk_at "gc"
    refine t_setitem_sdict hwd1 (by show 4 ≤ 1000; decide) ?_
    rw [wd4_cycle]
    have ncW : L + 5 ≠ wd := ne_of_tag hcW1 hwd1 z0
    refine t_cons (t_ret ?_)
    refine t_name_cell F m5 (by rw [upd_ne _ _ ncW]; exact hcW1) ?_
    refine h _ _ O D (hW.other hwd1 (fun q => absurd q.2 (by show ¬ 14 ≤ 13; decide)) _) (upd_self _ _ _) ?_ fun a t c e ns n1 n2 => ?_
    · rw [upd_ne _ _ (ne_of_tag hA hwd1 (tag_ne (by decide)))]; exact hA
    · have e1 := kk _ _ _ e ns n1
      rw [upd_ne _ _ (ne_of_tag e1 hwd1 n2)]; exact e1
end

/-! part M27 -/
section
variable {w : World} {hT : Heap} {A : Around} {L : Addr} {m : Loc} {H : LH} {n : Nat} {W : Wd} {σ : Sg}
theorem c_heap (P : Tp (KK w) hT) (Zq : Tq hT 457 453) (R : Room (n + 8) A) {oA thA eA : Addr} {b : Bool} {tw : Tok} {k N : Nat} {ov : List Value} {tA : Nat → Addr} {nm ps : Nat → Nat} {so ki s0 s1 : Nat → Int} {Q : Value → LH → Prop} (hTb : Tab H 453 FLs) (kp : k ≠ 0) (hk : ∀ a t c, H a = some (t, c) → t.1 = k → t = (k, 15, 0))
    (ho : H oA = some ((k, 15, 0), .list ov)) (hoi : IntsAre ov (asInts ((List.range N).map nm))) (T0 : Th H N thA tA so ki s0 s1) (n9 : N ≤ 9) (np : ∀ i < N, nm i < N ∧ ps (nm i) = i) (pn : ∀ i < N, ps i < N ∧ nm (ps i) = i)
    (h : ∀ H' W σ c wd aA taA, Born w H H' W σ c k N b wd oA eA thA aA taA nm ps so ki s0 s1 → Q (.ref wd) H') :
    C PG w hT A (.ref 458) ⟨[.ref oA, .ref thA, .ref eA, .int (if b then 1 else 0) tw], []⟩ H Q := by
  refine c_fnC (ps := ["order", "things", "edges", "which"]) (ls := ["children", "cycle", "at", "name", "obj"]) (cn := ["world", "thing_of", "edges", "things", "order"]) (gs := [("EndCycle", .ref 421), ("enumerate", .type "enumerate"), ("HeapObject", .ref 440)])
    (ns := hNs) (vs := [some (.int (if b then 1 else 0) tw), none, none, none, none, none]) (zs := [("which", .int (if b then 1 else 0) tw)]) (zc := [("order", .ref oA), ("things", .ref thA), ("edges", .ref eA)])
    (fs := hFs) (cvs := fun L => [(L + 5, none), (L + 4, none), (L + 3, some (.ref eA)), (L + 2, some (.ref thA)), (L + 1, some (.ref oA))]) P R
    (by kernel_rfl) (by kernel_rfl) (by kernel_rfl) rfl (by kernel_rfl) (by kernel_rfl) rfl rfl (fun L => by kernel_rfl) (fun L => rfl) (fun L => by kernel_rfl) fun L env A' H1 he F R' e1 hc hd => ?_
  have m1 : ((("order" : Str), L + 1) : Str × Addr) ∈ hFs L := by walk_at "gc_mem"
  have m2 : ((("things" : Str), L + 2) : Str × Addr) ∈ hFs L := by walk_at "gc_mem"
  have m3 : ((("edges" : Str), L + 3) : Str × Addr) ∈ hFs L := by walk_at "gc_mem"
  have m4 : ((("thing_of" : Str), L + 4) : Str × Addr) ∈ hFs L := by walk_at "gc_mem"
  have m5 : ((("world" : Str), L + 5) : Str × Addr) ∈ hFs L := by walk_at "gc_mem"
  have kindF : env.kindOf "thing_of" = some .cell := by rw [he]; kernel_rfl
  have kindW : env.kindOf "world" = some .cell := by rw [he]; kernel_rfl
  have hcW := hc (L + 5, none) (by walk_at "gc_mem")
  have hcF := hc (L + 4, none) (by walk_at "gc_mem")
  have hcE := (hc (L + 3, some (.ref eA)) (by walk_at "gc_mem")).1
  have hcT := (hc (L + 2, some (.ref thA)) (by walk_at "gc_mem")).1
  have hcO := (hc (L + 1, some (.ref oA)) (by walk_at "gc_mem")).1
  have hcWn := hcW.2
  have hcFn := hcF.2
  replace hcW := hcW.1
  replace hcF := hcF.1
  have hd1 := List.pairwise_cons.mp hd
  have hd2 := List.pairwise_cons.mp hd1.2
  have nFW : L + 4 ≠ L + 5 := (hd1.1 (L + 4, none) (by walk_at "gc_mem")).symm
  have nEW : L + 3 ≠ L + 5 := (hd1.1 (L + 3, some (.ref eA)) (by walk_at "gc_mem")).symm
  have nTW : L + 2 ≠ L + 5 := (hd1.1 (L + 2, some (.ref thA)) (by walk_at "gc_mem")).symm
  have nOW : L + 1 ≠ L + 5 := (hd1.1 (L + 1, some (.ref oA)) (by walk_at "gc_mem")).symm
  have nEF : L + 3 ≠ L + 4 := (hd2.1 (L + 3, some (.ref eA)) (by walk_at "gc_mem")).symm
  have nTF : L + 2 ≠ L + 4 := (hd2.1 (L + 2, some (.ref thA)) (by walk_at "gc_mem")).symm
  have nOF : L + 1 ≠ L + 4 := (hd2.1 (L + 1, some (.ref oA)) (by walk_at "gc_mem")).symm
  dsimp only at hcO hcT hcE hcF hcW hcFn hcWn
  clear hc hd hd1 hd2
  refine t_cons (t_assign_name (t_dictStr P fun wd nwd => ?_))
  refine t_pairs_cons ?_
  walk_at "gc"
  refine t_name_cell F m1 (Ext.new nwd _ _ _ hcO) ?_
  refine t_pairs_cons ?_
  walk_at "gc"
  refine t_dict_empty P fun aA naA => ?_
  refine t_retagNew (k, 16, 0) ?_
  refine t_pairs_cons ?_
  walk_at "gc"
  refine t_list ?_
  walk_at "gc"
  refine ⟨Nat.le_of_ble_eq_true rfl, fun taA ntaA => ?_⟩
  refine t_retagNew (k, 17, 0) ?_
  refine t_pairs_cons ?_
  walk_at "gc"
  -- the heap with the three parts
  have E2 := ((e1.trans (Ext.new nwd (tmp, .sdict []))).trans (Ext.new naA ((k, 16, 0), .idict []))).trans (Ext.new ntaA ((k, 17, 0), .list []))
  have E12 := ((Ext.new nwd (tmp, .sdict [])).trans (Ext.new naA ((k, 16, 0), .idict []))).trans (Ext.new ntaA ((k, 17, 0), .list []))
  have hwd := ((Ext.new naA ((k, 16, 0), .idict [])).trans (Ext.new ntaA ((k, 17, 0), .list []))) _ _ (upd_self H1 wd (tmp, .sdict []))
  have haA := (Ext.new ntaA ((k, 17, 0), .list [])) _ _ (upd_self (upd H1 wd (tmp, .sdict [])) aA ((k, 16, 0), .idict []))
  have htaA := upd_self (upd (upd H1 wd (tmp, .sdict [])) aA ((k, 16, 0), .idict [])) taA ((k, 17, 0), Cell.list [])
  have nwdH : H1 wd = none := nwd
  have kO := E12 _ _ hcO
  have kT := E12 _ _ hcT
  have kE := E12 _ _ hcE
  have kF := E12 _ _ hcF
  have kW := E12 _ _ hcW
  revert E2 E12 hwd haA htaA kO kT kE kF kW
  generalize upd (upd (upd H1 wd (tmp, .sdict [])) aA ((k, 16, 0), .idict [])) taA ((k, 17, 0), Cell.list []) = H2
  intro E2 E12 hwd haA htaA kO kT kE kF kW
  refine t_opq (fun v m' H' => And3 ((∃ t, v = .int (if b then -1 else 1) t)) (m' = lk hNs [some (.int (if b then 1 else 0) tw), none, none, none, none, none]) (H' = H2)) (fun J hJ => ?_) ?_
  · refine t_ifexp ?_
    walk_at "gc"
    cases b
    · refine ⟨fun e => (by cases e), fun _ => ?_⟩
      walk_at "gc"
      exact hJ _ _ _ ⟨⟨_, rfl⟩, rfl, rfl⟩
    · refine ⟨fun _ => ?_, fun e => (by cases e)⟩
      walk_at "gc"
      refine t_neg fun _ => ?_
      exact hJ _ _ _ ⟨⟨_, rfl⟩, rfl, rfl⟩
  rintro v m' H' ⟨⟨tt, rfl⟩, rfl, rfl⟩
  refine t_pairs_nil ⟨hwd, rfl, strs4, ?_⟩
  refine t_retagNew (k, 14, 0) ?_
  -- the world stands in its cell
  have nWw : L + 5 ≠ wd := fun q => by rw [q, nwdH] at hcW; cases hcW
  refine t_store_cell F m5 kindW (by rw [upd_ne _ _ nWw]; exact kW) ?_
  have k3 : ∀ a x, H' a = some x → a ≠ wd → a ≠ L + 5 → upd (upd H' wd ((k, 14, 0), .sdict (wd4 oA aA taA (if b then -1 else 1) tt))) (L + 5) ((0, 1, 0), .cell (some (.ref wd))) a = some x := fun a x e n1 n2 => by
    rw [upd_ne _ _ n2, upd_ne _ _ n1]; exact e
  have hwd3 : upd (upd H' wd ((k, 14, 0), .sdict (wd4 oA aA taA (if b then -1 else 1) tt))) (L + 5) ((0, 1, 0), .cell (some (.ref wd))) wd = some ((k, 14, 0), .sdict (wd4 oA aA taA (if b then -1 else 1) tt)) := by rw [upd_ne _ _ nWw.symm, upd_self]
  have hcW3 := upd_self (upd H' wd ((k, 14, 0), .sdict (wd4 oA aA taA (if b then -1 else 1) tt))) (L + 5) ((0, 1, 0), Cell.cell (some (.ref wd)))
  change T PG w hT A' L _ _ (upd (upd H' wd ((k, 14, 0), .sdict (wd4 oA aA taA (if b then -1 else 1) tt))) (L + 5) ((0, 1, 0), .cell (some (.ref wd)))) _
  revert k3 hwd3 hcW3
  generalize upd (upd H' wd ((k, 14, 0), .sdict (wd4 oA aA taA (if b then -1 else 1) tt))) (L + 5) ((0, 1, 0), Cell.cell (some (.ref wd))) = H3
  intro k3 hwd3 hcW3
  have notW : ∀ {a : Addr} {x : Tag × Cell}, H a = some x → a ≠ L + 5 := fun e q => by rw [q, hcWn] at e; cases e
  have notF : ∀ {a : Addr} {x : Tag × Cell}, H a = some x → a ≠ L + 4 := fun e q => by rw [q, hcFn] at e; cases e
  have notw : ∀ {a : Addr} {x : Tag × Cell}, H a = some x → a ≠ wd := fun e q => by rw [q] at e; have := e1 _ _ e; rw [nwdH] at this; cases this
  have K3 : ∀ a x, H a = some x → H3 a = some x := fun a x e => k3 _ _ (E2 _ _ e) (notw e) (notW e)
  have ne1 : ∀ {a : Addr} {x : Tag × Cell}, H1 a = some x → a ≠ wd := fun e q => by rw [q, nwdH] at e; cases e
  have kO3 := k3 _ _ kO (ne1 hcO) nOW
  have kT3 := k3 _ _ kT (ne1 hcT) nTW
  have kE3 := k3 _ _ kE (ne1 hcE) nEW
  have kF3 := k3 _ _ kF (ne1 hcF) nFW
  have haA3 := k3 _ _ haA (ne_of_tag haA hwd (by intro e; exact kp (congrArg (fun t : Tag => t.1) e))) (ne_of_tag haA kW (by intro e; exact kp (congrArg (fun t : Tag => t.1) e)))
  have htaA3 := k3 _ _ htaA (ne_of_tag htaA hwd (by intro e; exact kp (congrArg (fun t : Tag => t.1) e))) (ne_of_tag htaA kW (by intro e; exact kp (congrArg (fun t : Tag => t.1) e)))
  have hTb3 : Tab H3 453 FLs := hTb.mono fun a t x e _ => K3 _ _ e
  have z453 : ∀ {H'' : LH} {a : Addr} {t : Tag} {x : Cell}, Tab H'' 453 FLs → H'' a = some (t, x) → t ≠ (0, 7, 0) → a ≠ 453 := fun Tb e ne q => by
    obtain ⟨_, hp, _⟩ := Tb.h
    rw [q, hp] at e; cases e; exact ne rfl
  -- thing_of
  have q1 : qualnameIn env "thing_of" "thing_of" = "_law_heap.<locals>.thing_of" := by rw [he]; kernel_rfl
  have ecode : env.code = .ref 457 := by rw [he]; kernel_rfl
  refine t_cons (t_def rfl rfl rfl ?_)
  rw [q1]
  refine t_makeDef (FL := FLs) (clos := [("things", L + 2), ("order", L + 1)]) (k, 18, 0) Zq (by rw [he]; kernel_rfl) F.globals ecode hTb3 (by walk_at "gc_mem") (fl_apart (by decide +kernel)) fun H4 tf doc4 pm4 cv4 ctv4 htf ntf hcode4 hTb4 k4 => ?_
  have ztag : ∀ {r i : Nat}, ((k, r, i) : Tag) ≠ (0, 7, 0) := fun q => kp (congrArg (fun t : Tag => t.1) q)
  have zc : ((0, 1, 0) : Tag) ≠ (0, 7, 0) := by decide
  have kF4 := k4 _ _ kF3 (z453 hTb3 kF3 zc)
  refine t_store_cell F m4 kindF kF4 ?_
  have nFt : tf ≠ L + 4 := fun q => by rw [q, kF3] at ntf; cases ntf
  have k5 : ∀ a x, H3 a = some x → a ≠ 453 → a ≠ L + 4 → upd H4 (L + 4) ((0, 1, 0), .cell (some (.ref tf))) a = some x := fun a x e n1 n2 => by
    rw [upd_ne _ _ n2]; exact k4 _ _ e n1
  have htf5 : upd H4 (L + 4) ((0, 1, 0), .cell (some (.ref tf))) tf = some ((k, 18, 0), .obj (fnObj (thFd w [("things", L + 2), ("order", L + 1)] doc4 pm4 cv4 ctv4))) := by rw [upd_ne _ _ nFt]; exact htf
  have hcF5 := upd_self H4 (L + 4) ((0, 1, 0), Cell.cell (some (.ref tf)))
  have hcode5 : CodeOb (upd H4 (L + 4) ((0, 1, 0), .cell (some (.ref tf)))) cv4 "_law_heap.<locals>.thing_of" := hcode4.mono fun a x e => by
    rw [upd_ne _ _ (ne_of_tag e kF4 (by decide))]; exact e
  have hTb5 : Tab (upd H4 (L + 4) ((0, 1, 0), .cell (some (.ref tf)))) 453 FLs := hTb4.mono fun a t x e ht => by
    rw [upd_ne _ _ (ne_of_tag e kF4 (by rcases ht with rfl | rfl <;> decide))]; exact e
  revert k5 htf5 hcF5 hcode5 hTb5
  generalize upd H4 (L + 4) ((0, 1, 0), Cell.cell (some (.ref tf))) = H5
  intro k5 htf5 hcF5 hcode5 hTb5
  have not453 : ∀ {a : Addr} {t : Tag} {x : Cell}, H3 a = some (t, x) → t ≠ (0, 7, 0) → a ≠ 453 := fun e ne => z453 hTb3 e ne
  have K5 : ∀ a x, H a = some x → a ≠ 453 → H5 a = some x := fun a x e n1 => k5 _ _ (K3 _ _ e) n1 (notF e)
  have kO5 := k5 _ _ kO3 (not453 kO3 zc) nOF
  have kT5 := k5 _ _ kT3 (not453 kT3 zc) nTF
  have kE5 := k5 _ _ kE3 (not453 kE3 zc) nEF
  have kW5 := k5 _ _ hcW3 (not453 hcW3 zc) nFW.symm
  have zt : ∀ {r i : Nat}, ((k, r, i) : Tag) ≠ (0, 1, 0) := fun q => kp (congrArg (fun t : Tag => t.1) q)
  have hwd5 := k5 _ _ hwd3 (not453 hwd3 ztag) (ne_of_tag hwd3 kF3 zt)
  have haA5 := k5 _ _ haA3 (not453 haA3 ztag) (ne_of_tag haA3 kF3 zt)
  have htaA5 := k5 _ _ htaA3 (not453 htaA3 ztag) (ne_of_tag htaA3 kF3 zt)
  -- children
  have q2 : qualnameIn env "children" "children" = "_law_heap.<locals>.children" := by rw [he]; kernel_rfl
  refine t_cons (t_def rfl rfl rfl ?_)
  rw [q2]
  refine t_makeDef (FL := FLs) (clos := [("world", L + 5), ("order", L + 1), ("edges", L + 3)]) (k, 18, 1) Zq (by rw [he]; kernel_rfl) F.globals ecode hTb5 (by walk_at "gc_mem") (fl_apart (by decide +kernel)) fun H6 chF doc6 pm6 cv6 ctv6 hch nch hcode6 hTb6 k6 => ?_
  refine t_store F (by walk_at "gc_put") ?_
  -- the lambdas
  have q3 : env.qual ++ "<lambda>" = "_law_heap.<locals>.<lambda>" := by rw [he]; kernel_rfl
  refine t_cons (t_assign_name ?_)
  walk_at "gc"
  refine t_lambda rfl ?_
  rw [q3]
  refine t_makeLam (FL := FLs) (clos := [("thing_of", L + 4)]) (k, 18, 2) Zq (by rw [he]; kernel_rfl) F.globals ecode hTb6 (by walk_at "gc_mem") (fl_apart (by decide +kernel)) fun H7 soF pm7 cv7 ctv7 hso nso hcode7 hTb7 k7 => ?_
  walk_at "gc"
  refine t_lambda rfl ?_
  rw [q3]
  refine t_makeLam (FL := FLs) (clos := []) (k, 18, 3) Zq (by rw [he]; kernel_rfl) F.globals ecode hTb7 (by walk_at "gc_mem") (fl_apart (by decide +kernel)) fun H8 clF pm8 cv8 ctv8 hcl ncl hcode8 hTb8 k8 => ?_
  walk_at "gc"
  refine t_lambda rfl ?_
  rw [q3]
  refine t_makeLam (FL := FLs) (clos := [("thing_of", L + 4)]) (k, 18, 4) Zq (by rw [he]; kernel_rfl) F.globals ecode hTb8 (by walk_at "gc_mem") (fl_apart (by decide +kernel)) fun H9 waF pm9 cv9 ctv9 hwa nwa hcode9 hTb9 k9 => ?_
  have k59 : ∀ a x, H5 a = some x → a ≠ 453 → H9 a = some x := fun a x e n1 => k9 _ _ (k8 _ _ (k7 _ _ (k6 _ _ e n1) n1) n1) n1
  have k69 : ∀ a x, H6 a = some x → a ≠ 453 → H9 a = some x := fun a x e n1 => k9 _ _ (k8 _ _ (k7 _ _ e n1) n1) n1
  have k79 : ∀ a x, H7 a = some x → a ≠ 453 → H9 a = some x := fun a x e n1 => k9 _ _ (k8 _ _ e n1) n1
  have z8 : ((0, 8, 0) : Tag) ≠ (0, 7, 0) := by decide
  have F9 : ∀ (W : Wd), W.k = k → W.chF = chF → W.soF = soF → W.waF = waF → Fns w H9 W ⟨tf, L + 1, L + 2, L + 3, L + 4, L + 5⟩ wd oA eA thA := fun W e1 e2 e3 e4 => by
    subst e1 e2 e3 e4
    exact { th := ⟨doc4, pm4, cv4, ctv4, k59 _ _ htf5 (z453 hTb5 htf5 ztag), hcode5.mono fun a x e => k59 _ _ e (z453 hTb5 e z8)⟩
            ch := ⟨doc6, pm6, cv6, ctv6, k69 _ _ hch (z453 hTb6 hch ztag), hcode6.mono fun a x e => k69 _ _ e (z453 hTb6 e z8)⟩
            so := ⟨pm7, cv7, ctv7, k79 _ _ hso (z453 hTb7 hso ztag), hcode7.mono fun a x e => k79 _ _ e (z453 hTb7 e z8)⟩
            wa := ⟨pm9, cv9, ctv9, hwa, hcode9⟩
            cO := k59 _ _ kO5 (z453 hTb5 kO5 zc)
            cT := k59 _ _ kT5 (z453 hTb5 kT5 zc)
            cE := k59 _ _ kE5 (z453 hTb5 kE5 zc)
            cF := k59 _ _ hcF5 (z453 hTb5 hcF5 zc)
            cW := k59 _ _ kW5 (z453 hTb5 kW5 zc) }
  have K9 : ∀ a x, H a = some x → a ≠ 453 → H9 a = some x := fun a x e n1 => k59 _ _ (K5 _ _ e n1) n1
  have hwd9 := k59 _ _ hwd5 (z453 hTb5 hwd5 ztag)
  have haA9 := k59 _ _ haA5 (z453 hTb5 haA5 ztag)
  have htaA9 := k59 _ _ htaA5 (z453 hTb5 htaA5 ztag)
  clear k59 k69 k79 hcode5 hcode6 hcode7 hcode8 hcode9 k6 k7 k8 k9 k5 k4 k3 hwd5 haA5 htaA5 hwd3 haA3 htaA3 kO3 kT3 kE3 kF3 hcW3 kO kT kE kF kW hwd haA htaA E2 E12
  walk_at "gc"
  refine ⟨keeps_top P (by kernel_rfl), t_call (c_make P (by kernel_rfl : makeOk (KK w) 421 378 = true) (k, 1, 0) (k, 0, 0) fun x d nx nd nxd => ?_)⟩
  rw [lk_nil]
  have R2 : Room (n + 6) (A'.under (.builtin "type.__call__" ⟨.ref 421 :: [.ref chF, .ref soF, .ref clF, .ref waF], []⟩)) := by exact R'.make
  refine c_endInit (n := n + 2) (k := k) (size := fun i => if b then s1 (nm i) else s0 (nm i)) (sort := fun i => so (nm i)) (kind := fun i => ki (nm i)) (rev := b) P R2 (upd_self _ _ _) (by rw [upd_ne _ _ nxd.symm, upd_self]) fun H10 mA dm a1 l1 l2 l3 l4 l5 l6 l7 hW10 B10 => ⟨rfl, ?_⟩
  have k10 : ∀ a t c, H9 a = some (t, c) → t ≠ (k, 1, 0) → H10 a = some (t, c) := fun a t c e ne => by
    have na : a ≠ d := fun q => by rw [q, nd] at e; cases e
    have nb : a ≠ x := fun q => by rw [q, nx] at e; cases e
    exact B10 a t c (by rw [upd_ne _ _ nb, upd_ne _ _ na]; exact e) ne
  have notk : ∀ {a : Addr} {t : Tag} {c : Cell} {r i : Nat}, H a = some (t, c) → r ≠ 15 → t ≠ (k, r, i) := fun {a t c r i} e nr q => by
    have := hk a t c e (by rw [q])
    rw [this] at q
    exact nr (congrArg (fun t : Tag => t.2.1) q).symm
  have K10 : ∀ a t c, H a = some (t, c) → a ≠ 453 → H10 a = some (t, c) := fun a t c e n1 => k10 _ _ _ (K9 _ _ e n1) (notk e (by decide))
  have zk : ∀ {r i r' i' : Nat}, r ≠ r' → ((k, r, i) : Tag) ≠ (k, r', i') := fun h => tag_ne h
  have z0 : ∀ {r i r' i' : Nat}, ((0, r, i) : Tag) ≠ (k, r', i') := fun q => kp (congrArg (fun t : Tag => t.1) q).symm
  have hwd10 := k10 _ _ _ hwd9 (zk (by decide))
  have haA10 := k10 _ _ _ haA9 (zk (by decide))
  have htaA10 := k10 _ _ _ htaA9 (zk (by decide))
  have hTb10 : Tab H10 453 FLs := hTb9.mono fun a t x e ht => k10 _ _ _ e (by rcases ht with rfl | rfl <;> exact z0)
  have F10 : ∀ (W : Wd), W.k = k → W.chF = chF → W.soF = soF → W.waF = waF → Fns w H10 W ⟨tf, L + 1, L + 2, L + 3, L + 4, L + 5⟩ wd oA eA thA := fun W e1 e2 e3 e4 => (F9 W e1 e2 e3 e4).keep fun a t y e ht => k10 _ _ _ e (by
    rcases ht with ⟨_, h2⟩ | rfl | rfl
    · intro q; rw [q] at h2; exact absurd (show (1 : Nat) = 18 from h2) (by decide)
    · exact z0
    · exact z0)
  clear F9 hTb9 K9 B10 k10 hwd9 haA9 htaA9 hTb8 hTb7 hTb6 hTb5 hTb4 hTb3
  refine t_store F (by walk_at "gc_put") ?_
  have hT10 : Th H10 N thA tA so ki s0 s1 := T0.keep fun a t y e ht => K10 _ _ _ e (z453 hTb e fun q => by rw [q] at ht; exact absurd ht.2 (by decide))
  have ho10 := K10 _ _ _ ho (z453 hTb ho ztag)
  have Fk := F10 (WW k x d mA dm a1 chF soF clF waF (fun i => if b then s1 (nm i) else s0 (nm i)) (fun i => so (nm i)) (fun i => ki (nm i)) b 0 (fun _ => 0) (fun _ => 0)) rfl rfl rfl rfl
  have hcO10 := Fk.cO
  have hcT10 := Fk.cT
  have hcW10 := Fk.cW
  dsimp only at hcO10 hcT10 hcW10
  refine heap_tail (ps := ps) P F R' kp hW10 ho10 hoi hT10 n9 np hcO10 hcT10 hcW10 hwd10 haA10 fun m' H' O D hW' hwd' hA' k' => ?_
  have z0' : ∀ {r i r' i' : Nat}, ((0, r, i) : Tag) ≠ (k, r', i') := fun q => kp (congrArg (fun t : Tag => t.1) q).symm
  have zm : ∀ {r i : Nat}, ¬ mine k (0, r, i) := fun q => kp q.1.symm
  have kH : ∀ a t c, H a = some (t, c) → a ≠ 453 → H' a = some (t, c) := fun a t c e n1 => k' _ _ _ (K10 _ _ _ e n1) (fun q => by
    have := hk a t c e q.1
    rw [this] at q; exact absurd q.2 (by show ¬ 15 ≤ 13; decide)) (notk e (by decide)) (notk e (by decide))
  refine h H' _ _ ⟨tf, L + 1, L + 2, L + 3, L + 4, L + 5⟩ wd aA taA { k := rfl, n := rfl, rev := rfl, num := fun _ => rfl, sort := rfl, kind := rfl, size := rfl, wr := hW', lw := ⟨⟨tt, hwd'⟩, ⟨ov, k' _ _ _ ho10 (fun q => absurd q.2 (by show ¬ 15 ≤ 13; decide)) (zk (by decide)) (zk (by decide)), hoi⟩, hA', ⟨[], k' _ _ _ htaA10 (fun q => absurd q.2 (by show ¬ 17 ≤ 13; decide)) (zk (by decide)) (zk (by decide)), .nil⟩, np, pn⟩, fns := ?_, ini := ⟨_, _, _, _, _, _, _, rfl⟩, keep := fun a x e n1 => kH a x.1 x.2 e n1, tab := hTb10.mono fun a t x e ht => k' _ _ _ e (by rcases ht with rfl | rfl <;> exact zm) (by rcases ht with rfl | rfl <;> exact z0') (by rcases ht with rfl | rfl <;> exact z0') }
  refine (F10 (WN k x d mA dm a1 chF soF clF waF so ki s0 s1 nm b N O D) rfl rfl rfl rfl).keep fun a t y e ht => ?_
  rcases ht with ⟨h1, h2⟩ | rfl | rfl
  · exact k' _ _ _ e (fun q => absurd q.2 (by rw [h2]; decide)) (fun q => by rw [q] at h2; exact absurd (show (16 : Nat) = 18 from h2) (by decide)) (fun q => by rw [q] at h2; exact absurd (show (14 : Nat) = 18 from h2) (by decide))
  · exact k' _ _ _ e zm z0' z0'
  · exact k' _ _ _ e zm z0' z0'
end

/-! part M28 -/
/-! a heap of the law and what is known of it -/
structure Wr where
  W : Wd
  c : Sees
  wd : Addr
  oA : Addr
  aA : Addr
  nm : Nat → Nat
  ps : Nat → Nat
structure Sh where
  N : Nat
  eA : Addr
  rA : Addr
  thA : Addr
  eL : Nat → Addr
  tA : Nat → Addr
  so : Nat → Int
  ki : Nat → Int
  s0 : Nat → Int
  s1 : Nat → Int
structure World0 (w : World) (H : LH) (S : Sh) (X : Wr) (j : Nat) (ed : Nat → List Nat) (ro : List Nat) (σ : Sg) (taA : Addr) (told : List Nat) : Prop where
  env : Env1 w H X.W X.c X.wd X.oA S.eA S.thA X.aA taA S.rA S.eL S.tA X.nm X.ps (told.map X.nm) ed ro S.so S.ki S.s0 S.s1
  wr : WR X.W σ H
  k : X.W.k = j + 1
  n : X.W.n = S.N
structure World1 (w : World) (H : LH) (S : Sh) (X : Wr) (j : Nat) (ed : Nat → List Nat) (ro : List Nat) (σ : Sg) (taA : Addr) (told : List Nat) : Prop extends World0 w H S X j ed ro σ taA told where
  good : Good X.W (kids X.W X.ps X.nm ed) told { σ with rootl := rootsOf X.W X.ps ro }
section
variable {w : World} {H H' : LH} {S : Sh} {X : Wr} {j : Nat} {ed ed' : Nat → List Nat} {ro ro' : List Nat} {σ σ' : Sg} {taA taA' : Addr} {told told' : List Nat}
theorem World0.other (Y : World0 w H S X j ed ro σ taA told) {k : Nat} (f : Frame k H H') (ne : k ≠ j + 1) (k0 : k ≠ 0) : World0 w H' S X j ed ro σ taA told := by
  have nk : X.W.k ≠ k := fun e => ne (e.symm.trans Y.k)
  have z : ∀ {t : Tag}, t.1 = 0 → ¬ mine k t := fun e q => k0 (q.1.symm.trans e)
  have E := Y.env
  exact ⟨⟨E.X.other nk f, E.F.keep fun a t x e ht => f _ _ _ e (by
      rcases ht with ⟨h1, _⟩ | rfl | rfl
      · intro q; exact nk (h1.symm.trans q.1)
      · exact z rfl
      · exact z rfl), E.G.keep fun a t x e ht => f _ _ _ e (z ht.1), E.T.keep fun a t x e ht => f _ _ _ e (z ht.1), E.kpos, E.n9, E.num, E.sort, E.kind, E.sorts, E.sizes⟩, Y.wr.frame f nk, Y.k, Y.n⟩
theorem World1.other (Y : World1 w H S X j ed ro σ taA told) {k : Nat} (f : Frame k H H') (ne : k ≠ j + 1) (k0 : k ≠ 0) : World1 w H' S X j ed ro σ taA told := ⟨Y.toWorld0.other f ne k0, Y.good⟩
theorem World0.own (Y : World0 w H S X j ed ro σ taA told) (f : Frame (j + 1) H H') (hW : WR X.W σ' H') : World0 w H' S X j ed ro σ' taA told :=
  ⟨Y.env.frame (by rw [Y.k]; exact f), hW, Y.k, Y.n⟩
theorem World1.own (Y : World1 w H S X j ed ro σ taA told) (f : Frame (j + 1) H H') (hW : WR X.W σ' H') (hg : Good X.W (kids X.W X.ps X.nm ed) told { σ' with rootl := rootsOf X.W X.ps ro }) : World1 w H' S X j ed ro σ' taA told :=
  ⟨Y.toWorld0.own f hW, hg⟩
theorem World1.ext (Y : World1 w H S X j ed ro σ taA told) (e : Ext H H') : World1 w H' S X j ed ro σ taA told := Y.own (Frame.ext e) (Y.wr.ext e) Y.good
/-- what of a world's tags stays when the graph turns -/
noncomputable def But56 (H H' : LH) : Prop := ∀ a t c, H a = some (t, c) → ¬ (t.1 = 0 ∧ (t.2.1 = 5 ∨ t.2.1 = 6)) → H' a = some (t, c)
theorem World0.graph (Y : World0 w H S X j ed ro σ taA told) (f : But56 H H') (G : Gr H' S.N S.eA S.rA S.eL ed' ro') : World0 w H' S X j ed' ro' σ taA told := by
  have E := Y.env
  have kp := E.kpos
  have nz : ∀ {t : Tag}, t.1 = X.W.k → ¬ (t.1 = 0 ∧ (t.2.1 = 5 ∨ t.2.1 = 6)) := fun e q => kp (e.symm.trans q.1)
  refine ⟨⟨⟨let ⟨t, e⟩ := E.X.d; ⟨t, f _ _ _ e (nz rfl)⟩, let ⟨vs, e, g⟩ := E.X.o; ⟨vs, f _ _ _ e (nz rfl), g⟩, f _ _ _ E.X.a (nz rfl), let ⟨vs, e, g⟩ := E.X.t; ⟨vs, f _ _ _ e (nz rfl), g⟩, E.X.np, E.X.pn⟩, E.F.keep fun a t x e ht => f _ _ _ e ?_, by rw [Y.n]; exact G, E.T.keep fun a t x e ht => f _ _ _ e ?_, kp, E.n9, E.num, E.sort, E.kind, E.sorts, E.sizes⟩, Y.wr.keep fun a t c e hm => f _ _ _ e (nz hm.1), Y.k, Y.n⟩
  · rcases ht with ⟨h1, _⟩ | rfl | rfl
    · exact nz h1
    · intro q; exact absurd q.2 (by decide)
    · intro q; exact absurd q.2 (by decide)
  · intro q
    have := ht.2; have := q.2; lia
theorem World1.graph (Y : World1 w H S X j ed ro σ taA told) (f : But56 H H') (G : Gr H' S.N S.eA S.rA S.eL ed' ro') (hg : Good X.W (kids X.W X.ps X.nm ed') told { σ with rootl := rootsOf X.W X.ps ro' }) : World1 w H' S X j ed' ro' σ taA told := ⟨Y.toWorld0.graph f G, hg⟩
theorem World0.clo {hT : Heap} (P : Tp (KK w) hT) (Y : World0 w H S X j ed ro σ taA told) : Clo w hT X.W (kids X.W X.ps X.nm ed) H := clo_of P Y.env
/-- names and places -/
theorem mem_roots {W : Wd} {ps : Nat → Nat} {ro : List Nat} {i : Nat} : i ∈ rootsOf W ps ro ↔ ∃ r ∈ ro, ps r = i := by
  unfold rootsOf
  rw [List.mem_map]
  constructor
  · rintro ⟨r, hr, e⟩
    refine ⟨r, ?_, e⟩
    split at hr
    · exact List.mem_reverse.mp hr
    · exact hr
  · rintro ⟨r, hr, e⟩
    refine ⟨r, ?_, e⟩
    split
    · exact List.mem_reverse.mpr hr
    · exact hr
theorem mem_kids {W : Wd} {ps nm : Nat → Nat} {ed : Nat → List Nat} {i j : Nat} : j ∈ kids W ps nm ed i ↔ i < W.n ∧ ∃ r ∈ ed (nm i), ps r = j := by
  unfold kids
  by_cases q : i < W.n
  · rw [if_pos q, mem_roots]; simp [q]
  · rw [if_neg q]; simp [q]
theorem reach_pos {W : Wd} {ps nm : Nat → Nat} {ed : Nat → List Nat} {ro : List Nat} (np : ∀ i < W.n, nm i < W.n ∧ ps (nm i) = i) (pn : ∀ i < W.n, ps i < W.n ∧ nm (ps i) = i) (eb : ∀ i < W.n, ∀ j ∈ ed i, j < W.n) (rb : ∀ i ∈ ro, i < W.n) :
    (∀ i, Reach (kids W ps nm ed) (rootsOf W ps ro) i → i < W.n ∧ Reach ed ro (nm i)) ∧ (∀ x, Reach ed ro x → x < W.n ∧ Reach (kids W ps nm ed) (rootsOf W ps ro) (ps x)) := by
  constructor
  · intro i h
    induction h with
    | root hi =>
      obtain ⟨r, hr, rfl⟩ := mem_roots.mp hi
      have := pn r (rb r hr)
      exact ⟨this.1, by rw [this.2]; exact .root hr⟩
    | edge _ hj ih =>
      obtain ⟨hi, r, hr, rfl⟩ := mem_kids.mp hj
      have := pn r (eb _ (np _ hi).1 r hr)
      exact ⟨this.1, by rw [this.2]; exact .edge ih.2 hr⟩
  · intro x h
    induction h with
    | root hi => exact ⟨rb _ hi, .root (mem_roots.mpr ⟨_, hi, rfl⟩)⟩
    | @edge i j _ hj ih =>
      have := pn i ih.1
      exact ⟨eb _ ih.1 _ hj, .edge ih.2 (mem_kids.mpr ⟨this.1, j, by rw [this.2]; exact hj, rfl⟩)⟩
theorem World1.reach (Y : World1 w H S X j ed ro σ taA told) : (∀ i, Reach (kids X.W X.ps X.nm ed) (rootsOf X.W X.ps ro) i → i < X.W.n ∧ Reach ed ro (X.nm i)) ∧ (∀ x, Reach ed ro x → x < X.W.n ∧ Reach (kids X.W X.ps X.nm ed) (rootsOf X.W X.ps ro) (X.ps x)) :=
  reach_pos Y.env.X.np Y.env.X.pn Y.env.G.eb Y.env.G.rb
/-- fewer edges, other roots that were reached -/
theorem World1.less (Y : World1 w H S X j ed ro σ taA told) (f : But56 H H') (G : Gr H' S.N S.eA S.rA S.eL ed' ro') (hE : ∀ i, ∀ x ∈ ed' i, x ∈ ed i) (hr : ∀ i ∈ ro', Reach ed ro i) : World1 w H' S X j ed' ro' σ taA told := by
  refine Y.graph f G ?_
  have R := Y.reach
  have g := Y.good.less (E' := kids X.W X.ps X.nm ed') (fun i x hx => ?_) (rl := rootsOf X.W X.ps ro') (a := σ.rootA) (fun i hi => ?_) (fun i hi => ?_)
  · exact g
  · obtain ⟨hi, r, hr, rfl⟩ := mem_kids.mp hx
    exact mem_kids.mpr ⟨hi, r, hE _ r hr, rfl⟩
  · obtain ⟨r, hr', rfl⟩ := mem_roots.mp hi
    exact (R.2 r (hr r hr')).2
  · obtain ⟨r, hr', rfl⟩ := mem_roots.mp hi
    exact (Y.env.X.pn r (R.2 r (hr r hr')).1).1
theorem MarksR.roots {W : Wd} {E : Nat → List Nat} {l : List Nat} {σ σ' : Sg} (a : MarksR W E l σ σ') (rl : List Nat) : MarksR W E l { σ with rootl := rl } { σ' with rootl := rl } := by
  induction a with
  | nil => exact .nil
  | skip h _ ih => exact .skip h ih
  | leaf h1 h2 h3 _ ih => exact .leaf h1 h2 h3 ih
  | push h1 h2 h3 _ ih => exact .push h1 h2 h3 ih
/-- what the barrier does -/
noncomputable def BarR (W : Wd) (E : Nat → List Nat) (x y : Nat) (σ σ' : Sg) : Prop := if σ.mark x != 3 || !decide (σ.mark y < 2) || σ.dead y then σ' = σ else if (σ.phase == 1) then MarksR W E [y] σ σ' else σ' = { σ with mark := setM σ.mark x σ.white }
theorem BarR.good {W : Wd} {E E' : Nat → List Nat} {told : List Nat} {σ σ' : Sg} {rl : List Nat} {x y : Nat} (G : Good W E told { σ with rootl := rl }) (b : BarR W E' x y σ σ') (hE : ∀ i j, j ∈ E' i ↔ j ∈ E i ∨ (i = x ∧ j = y)) (hx : Reach E rl x) (hy : Reach E rl y) : Good W E' told { σ' with rootl := rl } := by
  refine (G.more (σ' := { σ' with rootl := rl }) hE hx hy ?_).1
  unfold BarR at b
  show if (σ.mark x != 3 || !decide (σ.mark y < 2) || σ.dead y) = true then _ else if decide (σ.phase = 1) = true then _ else _
  split
  · rename_i c; rw [if_pos c] at b; rw [b]
  · rename_i c
    rw [if_neg c] at b
    by_cases hp : σ.phase = 1
    · rw [if_pos (beq_iff_eq.mpr hp)] at b
      rw [if_pos (decide_eq_true hp)]
      exact b.roots rl
    · rw [if_neg (fun z => hp (beq_iff_eq.mp z))] at b
      rw [if_neg (fun z => hp (of_decide_eq_true z)), b]
theorem setM_setM {α : Type} {f : Nat → α} {i : Nat} {v : α} : (setM f i v) i = v := setM_self f i v
theorem kids_more {W : Wd} {ps nm : Nat → Nat} {ed : Nat → List Nat} {one other : Nat} (np : ∀ i < W.n, nm i < W.n ∧ ps (nm i) = i) (pn : ∀ i < W.n, ps i < W.n ∧ nm (ps i) = i) (h1 : one < W.n) :
    ∀ i j, j ∈ kids W ps nm (setM ed one (ed one ++ [other])) i ↔ j ∈ kids W ps nm ed i ∨ (i = ps one ∧ j = ps other) := fun i j => by
  rw [mem_kids, mem_kids]
  constructor
  · rintro ⟨hi, r, hr, rfl⟩
    by_cases q : nm i = one
    · rw [q, setM_self] at hr
      rcases List.mem_append.mp hr with z | z
      · exact .inl ⟨hi, r, by rw [q]; exact z, rfl⟩
      · rw [List.mem_singleton] at z
        exact .inr ⟨by rw [← q, (np i hi).2], by rw [z]⟩
    · rw [setM_ne _ _ q] at hr
      exact .inl ⟨hi, r, hr, rfl⟩
  · rintro (⟨hi, r, hr, rfl⟩ | ⟨rfl, rfl⟩)
    · refine ⟨hi, r, ?_, rfl⟩
      by_cases q : nm i = one
      · rw [q, setM_self]; rw [q] at hr; exact List.mem_append_left _ hr
      · rw [setM_ne _ _ q]; exact hr
    · refine ⟨(pn one h1).1, other, ?_, rfl⟩
      rw [(pn one h1).2, setM_self]; exact List.mem_append_right _ List.mem_cons_self
/-- the graph as it turns -/
theorem Gr.but {n : Nat} {eA rA : Addr} {eL : Nat → Addr} (G : Gr H n eA rA eL ed ro) {one : Nat} (h1 : one < n) {vs : List Value} {l : List Nat} (hi : IntsAre vs (asInts l)) (hz : vs.length ≤ 60) (hb : ∀ j ∈ l, j < n) : Gr (upd H (eL one) ((0, 5, one), .list vs)) n eA rA eL (setM ed one l) ro ∧ But56 H (upd H (eL one) ((0, 5, one), .list vs)) := by
  obtain ⟨ev, hev, -, -⟩ := G.el one h1
  have ne : ∀ {a : Addr} {t : Tag} {c : Cell}, H a = some (t, c) → t ≠ (0, 5, one) → a ≠ eL one := fun e q z => q (by rw [z, hev] at e; cases e; rfl)
  refine ⟨⟨G.n9, by rw [upd_ne _ _ (ne G.e (tag_ne (by decide)))]; exact G.e, fun i hin => ?_, ?_, fun i hin j hj => ?_, G.rb⟩, fun a t c e q => ?_⟩
  · by_cases q : i = one
    · subst q; rw [setM_self]; exact ⟨vs, upd_self _ _ _, hi, hz⟩
    · rw [setM_ne _ _ q]
      obtain ⟨us, h2, h3⟩ := G.el i hin
      exact ⟨us, by rw [upd_ne _ _ (ne h2 fun z => q (congrArg (fun t : Tag => t.2.2) z))]; exact h2, h3⟩
  · obtain ⟨us, h2, h3⟩ := G.r
    exact ⟨us, by rw [upd_ne _ _ (ne h2 (tag_ne (by decide)))]; exact h2, h3⟩
  · by_cases q : i = one
    · subst q; rw [setM_self] at hj; exact hb j hj
    · rw [setM_ne _ _ q] at hj; exact G.eb i hin j hj
  · rw [upd_ne _ _ (ne e fun z => q (by rw [z]; exact ⟨rfl, .inl rfl⟩))]; exact e
theorem Gr.butR {n : Nat} {eA rA : Addr} {eL : Nat → Addr} (G : Gr H n eA rA eL ed ro) {vs : List Value} {l : List Nat} (hi : IntsAre vs (asInts l)) (hz : vs.length ≤ 60) (hb : ∀ j ∈ l, j < n) : Gr (upd H rA ((0, 6, 0), .list vs)) n eA rA eL ed l ∧ But56 H (upd H rA ((0, 6, 0), .list vs)) := by
  obtain ⟨ev, hev, -, -⟩ := G.r
  have ne : ∀ {a : Addr} {t : Tag} {c : Cell}, H a = some (t, c) → t ≠ (0, 6, 0) → a ≠ rA := fun e q z => q (by rw [z, hev] at e; cases e; rfl)
  refine ⟨⟨G.n9, by rw [upd_ne _ _ (ne G.e (by decide))]; exact G.e, fun i hin => ?_, ⟨vs, upd_self _ _ _, hi, hz⟩, G.eb, hb⟩, fun a t c e q => ?_⟩
  · obtain ⟨us, h2, h3⟩ := G.el i hin
    exact ⟨us, by rw [upd_ne _ _ (ne h2 (tag_ne (by decide)))]; exact h2, h3⟩
  · rw [upd_ne _ _ (ne e fun z => q (by rw [z]; exact ⟨rfl, .inr rfl⟩))]; exact e
end
/-- both heaps -/
noncomputable def WSt (w : World) (H : LH) (S : Sh) (X : Nat → Wr) (ed : Nat → List Nat) (ro : List Nat) (σ : Nat → Sg) (taA : Nat → Addr) (told : Nat → List Nat) : Prop := ∀ j < 2, World1 w H S (X j) j ed ro (σ j) (taA j) (told j)
/-- what of the law itself stays -/
noncomputable def Fix (H H' : LH) : Prop := ∀ a t c, H a = some (t, c) → t.1 = 0 → t.2.1 ≠ 5 → t.2.1 ≠ 6 → H' a = some (t, c)
theorem Fix.refl (H : LH) : Fix H H := fun _ _ _ e _ _ _ => e
theorem Fix.trans {H H' H'' : LH} (a : Fix H H') (b : Fix H' H'') : Fix H H'' := fun x t c e h1 h2 h3 => b x t c (a x t c e h1 h2 h3) h1 h2 h3
theorem Fix.ext {H H' : LH} (h : Ext H H') : Fix H H' := fun a t c e _ _ _ => h a _ e
theorem Fix.frame {k : Nat} {H H' : LH} (k0 : k ≠ 0) (f : Frame k H H') : Fix H H' := fun a t c e h _ _ => f a t c e fun q => k0 (q.1.symm.trans h)
theorem Fix.graph {H H' : LH} (f : But56 H H') : Fix H H' := fun a t c e _ h1 h2 => f a t c e fun q => q.2.elim h1 h2

/-! part M29 -/
noncomputable abbrev dNs : List Str := ["worlds", "edges", "roots", "deed", "kind", "one", "other", "alive", "world", "cycle"]
theorem contains_ints {l : List Nat} {x : Nat} : (asInts l).contains (x : Int) = decide (x ∈ l) := by
  rw [Bool.eq_iff_iff, List.contains_iff_mem, mem_asInts, decide_eq_true_iff]
theorem first_of {x : Nat} : ∀ {l : List Nat}, x ∈ l → ∃ p : Nat, l[p]? = some x ∧ ∀ i < p, l[i]? ≠ some x
  | [], h => by cases h
  | y :: l, h => by
    by_cases q : y = x
    · exact ⟨0, by rw [q]; rfl, fun i hi => absurd hi (Nat.not_lt_zero i)⟩
    · obtain ⟨p, h1, h2⟩ := first_of ((List.mem_cons.mp h).elim (fun e => absurd e.symm q) id)
      refine ⟨p + 1, h1, fun i hi e => ?_⟩
      cases i with
      | zero => exact q (Option.some.inj e)
      | succ i => exact h2 i (by (refine Nat.le_of_lt_succ ?_; assumption)) e
noncomputable abbrev dLk (wsA : Addr) (S : Sh) (deedA al : Addr) (kind one other : Nat) (u0 u1 u2 : Tok) (c1 c2 : Option Value) : Loc := lk dNs [some (.ref wsA), some (.ref S.eA), some (.ref S.rA), some (.ref deedA), some (.int (kind : Int) u0), some (.int (one : Int) u1), some (.int (other : Int) u2), some (.ref al), c1, c2]
/-- what holds behind each of the four deeds -/
noncomputable def DMid (w : World) (S : Sh) (X : Nat → Wr) (ed : Nat → List Nat) (ro : List Nat) (σ : Nat → Sg) (taA : Nat → Addr) (told : Nat → List Nat) (kind : Nat) (H1 : LH) (stage : Nat) (H' : LH) (ed' : Nat → List Nat) (ro' : List Nat) : Prop :=
  (∃ σ', WSt w H' S X ed' ro' σ' taA told ∧ ∀ j < 2, (σ' j).tofin = (σ j).tofin) ∧ Fix H1 H' ∧ (stage ≤ kind → ed' = ed ∧ ro' = ro) ∧ (∀ i, (ed' i).length ≤ (ed i).length + 1) ∧ ro'.length ≤ ro.length + 1
theorem WSt.gr {w : World} {H : LH} {S : Sh} {X : Nat → Wr} {ed : Nat → List Nat} {ro : List Nat} {σ : Nat → Sg} {taA : Nat → Addr} {told : Nat → List Nat} (Y : WSt w H S X ed ro σ taA told) : Gr H S.N S.eA S.rA S.eL ed ro := by
  have := (Y 0 (by decide)).env.G; rw [(Y 0 (by decide)).n] at this; exact this
theorem WSt.less {w : World} {H H' : LH} {S : Sh} {X : Nat → Wr} {ed ed' : Nat → List Nat} {ro ro' : List Nat} {σ : Nat → Sg} {taA : Nat → Addr} {told : Nat → List Nat} (Y : WSt w H S X ed ro σ taA told) (f : But56 H H') (G : Gr H' S.N S.eA S.rA S.eL ed' ro') (hE : ∀ i, ∀ x ∈ ed' i, x ∈ ed i) (hr : ∀ i ∈ ro', Reach ed ro i) : WSt w H' S X ed' ro' σ taA told := fun j hj => (Y j hj).less f G hE hr
section
variable {w : World} {hT : Heap} {A : Around} {L : Addr} {m : Loc} {H : LH} {n : Nat}
theorem c_done (P : Tp (KK w) hT) (R : Room 20 A) {S : Sh} {X : Nat → Wr} {ed : Nat → List Nat} {ro : List Nat} {σ : Nat → Sg} {taA : Nat → Addr} {told : Nat → List Nat} {wsA deedA : Addr} {td : Tag} {kind one other : Nat} {u0 u1 u2 : Tok} {Q : Value → LH → Prop}
    (hws : H wsA = some ((0, 11, 0), .list [.ref (X 0).wd, .ref (X 1).wd])) (hdeed : H deedA = some (td, .list [.int (kind : Int) u0, .int (one : Int) u1, .int (other : Int) u2])) (h1 : one < S.N) (h2 : other < S.N) (Y : WSt w H S X ed ro σ taA told) (hle : ∀ i, (ed i).length ≤ 50) (hlr : ro.length ≤ 50)
    (h : ∀ H' ed' ro' σ', WSt w H' S X ed' ro' σ' taA told → (∀ j < 2, (σ' j).rootl = rootsOf (X j).W (X j).ps ro') → (∀ j < 2, (σ' j).tofin = (σ j).tofin) → (∀ i, (ed' i).length ≤ (ed i).length + 1) → ro'.length ≤ ro.length + 1 → Fix H H' → Q .none H') :
    C PG w hT A (.ref 482) ⟨[.ref wsA, .ref S.eA, .ref S.rA, .ref deedA], []⟩ H Q := by
  refine c_fn (ps := ["worlds", "edges", "roots", "deed"]) (ls := ["kind", "one", "other", "alive", "world", "cycle"]) (gs := [("_law_reached", .ref 465), ("PROPAGATE", .int 1 415), ("_law_rooted", .ref 470)]) (vals := [.ref wsA, .ref S.eA, .ref S.rA, .ref deedA])
    (ns := dNs) (vs := [some (.ref wsA), some (.ref S.eA), some (.ref S.rA), some (.ref deedA), none, none, none, none, none, none]) P R (by kernel_rfl) (by kernel_rfl) rfl fun L env A' he F R' => ?_
  have G : Gr H S.N S.eA S.rA S.eL ed ro := by have := (Y 0 (by decide)).env.G; rw [(Y 0 (by decide)).n] at this; exact this
  refine t_cons (t_assignTup ?_ rfl)
  walk_at "gc"
  refine t_unpackList R'.h hdeed rfl ?_
  refine t_ord_cons (t_as_name (t_store F (by walk_at "gc_put") ?_))
  refine t_ord_cons (t_as_name (t_store F (by walk_at "gc_put") ?_))
  refine t_ord_cons (t_as_name (t_store F (by walk_at "gc_put") ?_))
  refine t_ord_nil (ts := []) ?_
  refine t_cons (t_assign_name ?_)
  walk_at "gc"
  refine ⟨keeps_top P (by kernel_rfl), t_call (c_reached (k := 10) P R' G fun H1 al av alive e1 nal hal hai hasc hmem => ?_)⟩
  refine t_store F (by walk_at "gc_put") ?_
  have Y1 : WSt w H1 S X ed ro σ taA told := fun j hj => (Y j hj).ext e1
  have hws1 := e1 _ _ hws
  have G1 : Gr H1 S.N S.eA S.rA S.eL ed ro := G.keep fun a t c e _ => e1 _ _ e
  have hedl : ∀ (H' : LH) (ed' : Nat → List Nat) (ro' : List Nat), Gr H' S.N S.eA S.rA S.eL ed' ro' → ∃ ev, H' (S.eL one) = some ((0, 5, one), .list ev) ∧ IntsAre ev (asInts (ed' one)) ∧ ev.length ≤ 60 ∧ ev.length = (ed' one).length := fun H' ed' ro' g => by
    obtain ⟨ev, a, b, c⟩ := g.el one h1
    exact ⟨ev, a, b, c, by rw [b.length]; exact List.length_map ..⟩
  -- the first: an edge more
  refine t_cons (t_opq (fun fl m' H' => And3 (fl = .next) ((∃ c1 c2, m' = dLk wsA S deedA al kind one other u0 u1 u2 c1 c2)) (Ex2 fun ed' ro' => DMid w S X ed ro σ taA told kind H1 1 H' ed' ro')) (fun J hJ => ?_) ?_)
  · refine t_if_ (t_opq (fun c m' H' => And3 (m' = dLk wsA S deedA al kind one other u0 u1 u2 none none) (H' = H1) ((c = true → kind = 0 ∧ one ∈ alive ∧ other ∈ alive))) (fun I hI => ?_) ?_)
    · walk_at "gc"
      refine ⟨fun c1 => ?_, fun _ => hI _ _ _ ⟨rfl, rfl, fun e => (by cases e)⟩⟩
      walk_at "gc"
      refine t_inInts hal hai ?_
      walk_at "gc"
      rw [contains_ints]
      refine ⟨fun c2 => ?_, fun _ => hI _ _ _ ⟨rfl, rfl, fun e => (by cases e)⟩⟩
      walk_at "gc"
      refine t_inInts hal hai ?_
      walk_at "gc"
      rw [contains_ints]
      refine ⟨fun c3 => ?_, fun _ => hI _ _ _ ⟨rfl, rfl, fun e => (by cases e)⟩⟩
      walk_at "gc"
      exact hI _ _ _ ⟨rfl, rfl, fun _ => ⟨by have := of_decide_eq_true c1; lia, of_decide_eq_true c2, of_decide_eq_true c3⟩⟩
    · rintro c m' H' ⟨rfl, rfl, hc⟩
      refine ⟨fun c1 => ?_, fun _ => t_nil (hJ _ _ _ ⟨rfl, ⟨_, _, rfl⟩, ed, ro, ⟨⟨σ, Y1, fun _ _ => rfl⟩, Fix.refl _, fun _ => ⟨rfl, rfl⟩, fun _ => Nat.le_succ _, Nat.le_succ _⟩⟩)⟩
      obtain ⟨hk, ha1, ha2⟩ := hc c1
      have hR1 := (hmem _).mp ha1
      have hR2 := (hmem _).mp ha2
      obtain ⟨ev, hev, hei, hez, hel⟩ := hedl H' ed ro G1
      have hl1 := hle one
      refine t_cons (t_exprF F ?_)
      walk_at "gc"
      refine t_item_list (v := .ref (S.eL one)) G1.e (by rw [List.length_map, List.length_range]; have := G1.n9; lia) (by lia) (by
        rw [Int.toNat_natCast, List.getElem?_map, List.getElem?_range h1]; rfl) ?_
      refine t_methodList hev PySem.F.slot_list_append ty_append ?_
      walk_at "gc"
      refine ⟨keeps_builtin, t_call (c_append hev (by lia) ?_)⟩
      have hnew : IntsAre (ev ++ [.int (other : Int) u2]) (asInts (ed one ++ [other])) := by
        have := ints_append hei (.cons (other : Int) u2 .nil)
        unfold asInts at *
        rw [List.map_append]; exact this
      obtain ⟨G2, f2⟩ := G1.but h1 hnew (by rw [List.length_append, List.length_singleton]; lia) (fun x hx => by
        rcases List.mem_append.mp hx with z | z
        · exact G1.eb one h1 x z
        · rw [List.mem_singleton] at z; rw [z]; exact h2)
      revert G2 f2
      generalize upd H' (S.eL one) ((0, 5, one), Cell.list (ev ++ [.int (other : Int) u2])) = H2
      intro G2 f2
      have Y2 : ∀ j < 2, World0 w H2 S (X j) j (setM ed one (ed one ++ [other])) ro (σ j) (taA j) (told j) := fun j hj => (Y1 j hj).toWorld0.graph f2 G2
      have hws2 := Fix.graph f2 _ _ _ hws1 rfl (by show (11 : Nat) ≠ 5; decide) (by show (11 : Nat) ≠ 6; decide)
      -- the barrier of both
      refine t_cons (t_for_list F (by walk_at "gc_mem") R'.h ?_)
      walk_at "gc"
      refine ⟨wsA, [.ref (X 0).wd, .ref (X 1).wd], fun i m' H' => (∃ c1 c2, m' = dLk wsA S deedA al kind one other u0 u1 u2 c1 c2) ∧ ∃ σ', And4 ((∀ j < 2, World0 w H' S (X j) j (setM ed one (ed one ++ [other])) ro (σ' j) (taA j) (told j))) ((∀ j < 2, j < i → BarR (X j).W (kids (X j).W (X j).ps (X j).nm (setM ed one (ed one ++ [other]))) ((X j).ps one) ((X j).ps other) (σ j) (σ' j))) ((∀ j < 2, i ≤ j → σ' j = σ j)) (Fix H2 H'), rfl, ⟨⟨_, _, rfl⟩, σ, Y2, fun j _ hj => absurd hj (Nat.not_lt_zero j), fun _ _ _ => rfl, Fix.refl _⟩, ?_, ?_, ?_⟩
      · rintro i m' H' ⟨-, -, -, -, -, ff⟩
        exact ⟨_, ff _ _ _ hws2 rfl (by show (11 : Nat) ≠ 5; decide) (by show (11 : Nat) ≠ 6; decide)⟩
      · rintro J2 i hJ2 m' H' v ⟨⟨c1, c2, rfl⟩, σ', Z, hb, hs, ff⟩ hv
        have hi : i < 2 := by have := (List.getElem?_eq_some_iff.mp hv).1; exact this
        have hvv : v = .ref (X i).wd := by
          rcases lt2 hi with rfl | rfl <;> exact (Option.some.inj hv).symm
        subst hvv
        refine t_stored F (by walk_at "gc_put") ?_
        have Zi := Z i hi
        obtain ⟨tdd, hwd⟩ := Zi.env.X.d
        have hN := Zi.n
        have hx := Zi.env.X.pn one (by rw [hN]; exact h1)
        have hy := Zi.env.X.pn other (by rw [hN]; exact h2)
        have esi := hs i hi (Nat.le_refl i)
        refine t_cons (t_assign_name ?_)
        walk_at "gc"
        refine t_getitem_sdict hwd wd_cycle ?_
        refine t_store F (by walk_at "gc_put") ?_
        refine t_cons (t_exprF F ?_)
        walk_at "gc"
        refine g_marks P Zi.wr ?_
        refine meth_M P Zi.wr (by kernel_rfl : classFn (KK w) 136 "barrier" 119 = true) (by decide +kernel) ?_
        walk_at "gc"
        refine t_getitem_sdict hwd wd_all ?_
        walk_at "gc"
        refine t_getitem_idict Zi.env.X.a (Zi.env.X.byname (by rw [hN]; exact h1)) ?_
        walk_at "gc"
        refine t_getitem_sdict hwd wd_all ?_
        walk_at "gc"
        refine t_getitem_idict Zi.env.X.a (Zi.env.X.byname (by rw [hN]; exact h2)) ?_
        walk_at "gc"
        refine g_phase P Zi.wr fun _ => ?_
        walk_at "gc"
        have wi : WI (X i).W { σ i with rootl := rootsOf (X i).W (X i).ps ro } := (Y i hi).good.wi
        have hpot : pot (X i).W (σ' i) ≤ 900 := by
          rw [esi]
          have := (wi.bd Zi.env.n9 Zi.env.sizes).pot
          have e : pot (X i).W { σ i with rootl := rootsOf (X i).W (X i).ps ro } = pot (X i).W (σ i) := rfl
          lia
        refine ⟨keeps_top P (by kernel_rfl), t_call (c_barrier P (R'.le (by decide)) Zi.wr (Zi.clo P) hpot hx.1 hy.1 fun H3 σ3 hbar hW3 f3 => ?_)⟩
        rw [Zi.k] at f3
        refine t_nil (hJ2 _ _ ⟨⟨_, _, rfl⟩, fun j => if j = i then σ3 else σ' j, fun j hj => ?_, fun j hj hji => ?_, fun j hj hji => ?_, ff.trans (Fix.frame (Nat.succ_ne_zero i) f3)⟩)
        · by_cases q : j = i
          · subst q; simp only [if_pos]; exact Zi.own f3 hW3
          · simp only [if_neg q]
            exact (Z j hj).other f3 (by lia) (Nat.succ_ne_zero i)
        · by_cases q : j = i
          · subst q; simp only [if_pos]; rw [esi] at hbar; exact hbar
          · simp only [if_neg q]; exact hb j hj (by lia)
        · have q : ¬ j = i := by (refine Nat.ne_of_gt ?_; assumption)
          simp only [if_neg q]; exact hs j hj (by (refine Nat.le_of_lt ?_; assumption))
      · rintro m' H' ⟨⟨c1, c2, rfl⟩, σ', Z, hb, hs, ff⟩
        refine t_nil (hJ _ _ _ ⟨rfl, ⟨_, _, rfl⟩, _, ro, ⟨⟨σ', fun j hj => ⟨Z j hj, ?_⟩, fun j hj => ?_⟩, (Fix.graph f2).trans ff, fun e => absurd e (by lia), fun i => ?_, Nat.le_succ _⟩⟩)
        · have Rr := (Y1 j hj).reach
          have X0 := (Y1 j hj).env.X
          have hN := (Y1 j hj).n
          exact (hb j hj hj).good (Y1 j hj).good (kids_more X0.np X0.pn (by rw [hN]; exact h1)) (Rr.2 one hR1).2 (Rr.2 other hR2).2
        · have := hb j hj hj
          unfold BarR at this
          split at this
          · rw [this]
          · split at this
            · rw [this.same]
            · rw [this]
        · by_cases q : i = one
          · subst q; rw [setM_self, List.length_append, List.length_singleton]; exact Nat.le_refl _
          · rw [setM_ne _ _ q]; exact Nat.le_succ _
  rintro fl m' H2 ⟨rfl, ⟨w1, w2, rfl⟩, ed2, ro2, ⟨σ2, Y2, ht2⟩, ff2, same2, len2, lenr2⟩
  -- the second: an edge less
  refine t_cons (t_opq (fun fl m' H' => And3 (fl = .next) ((∃ c1 c2, m' = dLk wsA S deedA al kind one other u0 u1 u2 c1 c2)) (Ex2 fun ed' ro' => DMid w S X ed ro σ taA told kind H1 2 H' ed' ro')) (fun J hJ => ?_) ?_)
  · have G2 := Y2.gr
    obtain ⟨ev, hev, hei, hez, hel⟩ := hedl H2 ed2 ro2 G2
    refine t_if_ (t_opq (fun c m' H' => And3 (m' = dLk wsA S deedA al kind one other u0 u1 u2 w1 w2) (Ext H2 H') ((c = true → kind = 1 ∧ ed2 one ≠ []))) (fun I hI => ?_) ?_)
    · walk_at "gc"
      refine ⟨fun c1 => ?_, fun _ => hI _ _ _ ⟨rfl, Ext.refl _, fun e => (by cases e)⟩⟩
      walk_at "gc"
      refine t_item_list (v := .ref (S.eL one)) G2.e (by rw [List.length_map, List.length_range]; have := G2.n9; lia) (by lia) (by
        rw [Int.toNat_natCast, List.getElem?_map, List.getElem?_range h1]; rfl) ?_
      refine t_list ?_
      walk_at "gc"
      refine ⟨Nat.le_of_ble_eq_true rfl, fun eN nn => ?_⟩
      refine t_neNil (n := 12) R' (Ext.new nn _ _ _ hev) (upd_self _ _ _) (by lia) ?_
      walk_at "gc"
      refine ⟨fun c2 => ?_, fun _ => hI _ _ _ ⟨rfl, Ext.new nn _, fun e => (by cases e)⟩⟩
      walk_at "gc"
      refine hI _ _ _ ⟨rfl, Ext.new nn _, fun _ => ⟨by have := of_decide_eq_true c1; lia, fun e => ?_⟩⟩
      rw [e] at hel
      rw [List.length_eq_zero_iff.mp hel] at c2; cases c2
    · rintro c m' H3 ⟨rfl, e3, hc⟩
      have Y3 : WSt w H3 S X ed2 ro2 σ2 taA told := fun j hj => (Y2 j hj).ext e3
      refine ⟨fun c1 => ?_, fun _ => t_nil (hJ _ _ _ ⟨rfl, ⟨_, _, rfl⟩, ed2, ro2, ⟨⟨σ2, Y3, ht2⟩, ff2.trans (Fix.ext e3), fun e => same2 (by (refine Nat.le_of_lt ?_; assumption)), len2, lenr2⟩⟩)⟩
      obtain ⟨hk, hne⟩ := hc c1
      obtain ⟨rfl, rfl⟩ := same2 (by lia)
      obtain ⟨x, r, hxr⟩ : ∃ x r, ed2 one = x :: r := by
        cases q : ed2 one with
        | nil => exact absurd q hne
        | cons x r => exact ⟨x, r, rfl⟩
      have G3 := Y3.gr
      refine t_cons (t_exprF F ?_)
      walk_at "gc"
      refine t_item_list (v := .ref (S.eL one)) G3.e (by rw [List.length_map, List.length_range]; have := G3.n9; lia) (by lia) (by
        rw [Int.toNat_natCast, List.getElem?_map, List.getElem?_range h1]; rfl) ?_
      refine t_methodList (e3 _ _ hev) PySem.F.slot_list_pop ty_pop ?_
      walk_at "gc"
      have hei' := hei
      rw [hxr] at hei'
      unfold asInts at hei'
      rw [List.map_cons] at hei'
      obtain ⟨tx, vr, rfl, hvr⟩ : ∃ tx vr, ev = .int (x : Int) tx :: vr ∧ IntsAre vr (asInts r) := by
        cases hei' with
        | cons a b q => exact ⟨_, _, rfl, q⟩
      refine ⟨keeps_builtin, t_call (c_popAt (v := .int (x : Int) tx) (e3 _ _ hev) (by lia) (Int.le_refl 0) rfl ?_)⟩
      obtain ⟨G4, f4⟩ := G3.but (vs := vr) (l := r) h1 hvr (by rw [List.length_cons] at hez; (refine Nat.le_of_lt ?_; assumption)) (fun y hy => G3.eb one h1 y (by rw [hxr]; exact List.mem_cons_of_mem _ hy))
      refine t_nil (hJ _ _ _ ⟨rfl, ⟨_, _, rfl⟩, setM ed2 one r, ro2, ⟨⟨σ2, Y3.less f4 G4 (fun i y hy => ?_) fun i hi => .root hi, ht2⟩, (ff2.trans (Fix.ext e3)).trans (Fix.graph f4), fun e => absurd e (by lia), fun i => ?_, lenr2⟩⟩)
      · by_cases q : i = one
        · subst q; rw [setM_self] at hy; rw [hxr]; exact List.mem_cons_of_mem _ hy
        · rw [setM_ne _ _ q] at hy; exact hy
      · by_cases q : i = one
        · subst q; rw [setM_self, hxr, List.length_cons]; lia
        · rw [setM_ne _ _ q]; exact Nat.le_succ _
  rintro fl m' H3 ⟨rfl, ⟨w3, w4, rfl⟩, ed3, ro3, ⟨σ3, Y3, ht3⟩, ff3, same3, len3, lenr3⟩
  clear same2 len2 lenr2 ff2 ht2 Y2
  -- the third: a root less
  refine t_cons (t_opq (fun fl m' H' => And3 (fl = .next) ((∃ c1 c2, m' = dLk wsA S deedA al kind one other u0 u1 u2 c1 c2)) (Ex2 fun ed' ro' => DMid w S X ed ro σ taA told kind H1 3 H' ed' ro')) (fun J hJ => ?_) ?_)
  · have G3 := Y3.gr
    obtain ⟨rv, hr, hri, hrz⟩ := G3.r
    have hrl : rv.length = ro3.length := by rw [hri.length]; exact List.length_map ..
    refine t_if_ (t_opq (fun c m' H' => And3 (m' = dLk wsA S deedA al kind one other u0 u1 u2 w3 w4) (H' = H3) ((c = true → kind = 2 ∧ one ∈ ro3))) (fun I hI => ?_) ?_)
    · walk_at "gc"
      refine ⟨fun c1 => ?_, fun _ => hI _ _ _ ⟨rfl, rfl, fun e => (by cases e)⟩⟩
      walk_at "gc"
      refine t_inInts hr hri ?_
      walk_at "gc"
      rw [contains_ints]
      refine ⟨fun c2 => ?_, fun _ => hI _ _ _ ⟨rfl, rfl, fun e => (by cases e)⟩⟩
      walk_at "gc"
      exact hI _ _ _ ⟨rfl, rfl, fun _ => ⟨by have := of_decide_eq_true c1; lia, of_decide_eq_true c2⟩⟩
    · rintro c m' H4 ⟨rfl, rfl, hc⟩
      refine ⟨fun c1 => ?_, fun _ => t_nil (hJ _ _ _ ⟨rfl, ⟨_, _, rfl⟩, ed3, ro3, ⟨⟨σ3, Y3, ht3⟩, ff3, fun e => same3 (by (refine Nat.le_of_lt ?_; assumption)), len3, lenr3⟩⟩)⟩
      obtain ⟨hk, hin⟩ := hc c1
      obtain ⟨rfl, rfl⟩ := same3 (by lia)
      refine t_cons (t_exprF F ?_)
      walk_at "gc"
      refine t_methodList hr PySem.F.slot_list_remove ty_remove ?_
      walk_at "gc"
      obtain ⟨p, hp, hfirst⟩ := first_of hin
      have hget : ∀ i, (asInts ro3)[i]? = (ro3[i]?).map fun (j : Nat) => (j : Int) := fun i => by unfold asInts; rw [List.getElem?_map]
      have hpl : p < ro3.length := (List.getElem?_eq_some_iff.mp hp).1
      refine ⟨keeps_builtin, t_call (c_remove (ns := asInts ro3) (j := p) hr hri (by lia) (by rw [hget, hp]; rfl) (fun i hi e => ?_) ?_)⟩
      · rw [hget] at e
        cases q : ro3[i]? with
        | none => rw [q] at e; cases e
        | some y =>
          rw [q] at e
          have e : (y : Int) = (one : Int) := Option.some.inj e
          exact hfirst i hi (by rw [q]; congr 1; lia)
      have herase : IntsAre (rv.eraseIdx p) (asInts (ro3.eraseIdx p)) := by
        have key : ∀ (vs : List Value) (l : List Nat) (p : Nat), IntsAre vs (asInts l) → IntsAre (vs.eraseIdx p) (asInts (l.eraseIdx p)) := by
          intro vs l
          induction l generalizing vs with
          | nil => intro p hh; cases hh; exact .nil
          | cons y l ih =>
            intro p hh
            cases hh with
            | cons a b q =>
              cases p with
              | zero => exact q
              | succ p => exact .cons _ _ (ih _ p q)
        exact key _ _ p hri
      have hsub : ∀ i ∈ ro3.eraseIdx p, i ∈ ro3 := fun i hi => List.mem_of_mem_eraseIdx hi
      obtain ⟨G4, f4⟩ := G3.butR herase (by have := List.length_eraseIdx_le rv p; lia) fun i hi => G3.rb i (hsub i hi)
      refine t_nil (hJ _ _ _ ⟨rfl, ⟨_, _, rfl⟩, ed3, ro3.eraseIdx p, ⟨⟨σ3, Y3.less f4 G4 (fun i y hy => hy) fun i hi => .root (hsub i hi), ht3⟩, ff3.trans (Fix.graph f4), fun e => absurd e (by lia), len3, ?_⟩⟩)
      have := List.length_eraseIdx_le ro3 p
      (refine Nat.le_succ_of_le ?_; assumption)
  rintro fl m' H4 ⟨rfl, ⟨w5, w6, rfl⟩, ed4, ro4, ⟨σ4, Y4, ht4⟩, ff4, same4, len4, lenr4⟩
  clear same3 len3 lenr3 ff3 ht3 Y3
  -- the fourth: a root more
  refine t_cons (t_opq (fun fl m' H' => And3 (fl = .next) ((∃ c1 c2, m' = dLk wsA S deedA al kind one other u0 u1 u2 c1 c2)) (Ex2 fun ed' ro' => DMid w S X ed ro σ taA told kind H1 4 H' ed' ro')) (fun J hJ => ?_) ?_)
  · have G4 := Y4.gr
    obtain ⟨rv, hr, hri, hrz⟩ := G4.r
    have hrl : rv.length = ro4.length := by rw [hri.length]; exact List.length_map ..
    have hal4 := ff4 _ _ _ hal rfl (by decide) (by decide)
    refine t_if_ (t_opq (fun c m' H' => And3 (m' = dLk wsA S deedA al kind one other u0 u1 u2 w5 w6) (H' = H4) ((c = true → kind = 3 ∧ one ∈ alive))) (fun I hI => ?_) ?_)
    · walk_at "gc"
      refine ⟨fun c1 => ?_, fun _ => hI _ _ _ ⟨rfl, rfl, fun e => (by cases e)⟩⟩
      walk_at "gc"
      refine t_inInts hal4 hai ?_
      walk_at "gc"
      rw [contains_ints]
      refine ⟨fun c2 => ?_, fun _ => hI _ _ _ ⟨rfl, rfl, fun e => (by cases e)⟩⟩
      walk_at "gc"
      refine t_notInInts hr hri ?_
      walk_at "gc"
      refine ⟨fun c3 => ?_, fun _ => hI _ _ _ ⟨rfl, rfl, fun e => (by cases e)⟩⟩
      walk_at "gc"
      exact hI _ _ _ ⟨rfl, rfl, fun _ => ⟨by have := of_decide_eq_true c1; lia, of_decide_eq_true c2⟩⟩
    · rintro c m' H5 ⟨rfl, rfl, hc⟩
      refine ⟨fun c1 => ?_, fun _ => t_nil (hJ _ _ _ ⟨rfl, ⟨_, _, rfl⟩, ed4, ro4, ⟨⟨σ4, Y4, ht4⟩, ff4, fun e => same4 (by (refine Nat.le_of_lt ?_; assumption)), len4, lenr4⟩⟩)⟩
      obtain ⟨hk, hin⟩ := hc c1
      obtain ⟨rfl, rfl⟩ := same4 (by lia)
      refine t_cons (t_exprF F ?_)
      walk_at "gc"
      refine t_methodList hr PySem.F.slot_list_append ty_append ?_
      walk_at "gc"
      refine ⟨keeps_builtin, t_call (c_append hr (by lia) ?_)⟩
      have hnew : IntsAre (rv ++ [.int (one : Int) u1]) (asInts (ro4 ++ [one])) := by
        have := ints_append hri (.cons (one : Int) u1 .nil)
        unfold asInts at *
        rw [List.map_append]; exact this
      obtain ⟨G5, f5⟩ := G4.butR hnew (by rw [List.length_append, List.length_singleton]; lia) fun i hi => by
        rcases List.mem_append.mp hi with z | z
        · exact G4.rb i z
        · rw [List.mem_singleton] at z; rw [z]; exact h1
      refine t_nil (hJ _ _ _ ⟨rfl, ⟨_, _, rfl⟩, ed4, ro4 ++ [one], ⟨⟨σ4, Y4.less f5 G5 (fun i y hy => hy) fun i hi => ?_, ht4⟩, ff4.trans (Fix.graph f5), fun e => absurd e (by lia), len4, by rw [List.length_append, List.length_singleton]; exact Nat.le_refl _⟩⟩)
      rcases List.mem_append.mp hi with z | z
      · exact .root z
      · rw [List.mem_singleton] at z; rw [z]; exact (hmem _).mp hin
  rintro fl m' H5 ⟨rfl, ⟨w7, w8, rfl⟩, ed5, ro5, ⟨σ5, Y5, ht5⟩, ff5, -, len5, lenr5⟩
  clear same4 len4 lenr4 ff4 ht4 Y4
  -- the roots of both are told
  have hws5 := ff5 _ _ _ hws1 rfl (by show (11 : Nat) ≠ 5; decide) (by show (11 : Nat) ≠ 6; decide)
  refine t_cons (t_for_list F (by walk_at "gc_mem") R'.h ?_)
  walk_at "gc"
  refine ⟨wsA, [.ref (X 0).wd, .ref (X 1).wd], fun i m' H' => (∃ c1 c2, m' = dLk wsA S deedA al kind one other u0 u1 u2 c1 c2) ∧ ∃ σ', And4 (WSt w H' S X ed5 ro5 σ' taA told) ((∀ j < 2, j < i → (σ' j).rootl = rootsOf (X j).W (X j).ps ro5)) ((∀ j < 2, (σ' j).tofin = (σ j).tofin)) (Fix H5 H'),
    rfl, ⟨⟨_, _, rfl⟩, σ5, Y5, fun j _ hj => absurd hj (Nat.not_lt_zero j), ht5, Fix.refl _⟩, ?_, ?_, ?_⟩
  · rintro i m' H' ⟨-, -, -, -, -, ff⟩
    exact ⟨_, ff _ _ _ hws5 rfl (by show (11 : Nat) ≠ 5; decide) (by show (11 : Nat) ≠ 6; decide)⟩
  · rintro J2 i hJ2 m' H' v ⟨⟨c1, c2, rfl⟩, σ', Z, hs, ht, ff⟩ hv
    have hi : i < 2 := by have := (List.getElem?_eq_some_iff.mp hv).1; exact this
    have hvv : v = .ref (X i).wd := by
      rcases lt2 hi with rfl | rfl <;> exact (Option.some.inj hv).symm
    subst hvv
    refine t_stored F (by walk_at "gc_put") ?_
    have Zi := Z i hi
    refine t_cons (t_exprF F ?_)
    walk_at "gc"
    refine ⟨keeps_top P (by kernel_rfl), t_call (c_rooted (k := 16) P R' Zi.wr Zi.env.kpos Z.gr Zi.env.X Zi.n fun H6 r hW6 f6 => ?_)⟩
    rw [Zi.k] at f6
    refine t_nil (hJ2 _ _ ⟨⟨_, _, rfl⟩, fun j => if j = i then { σ' i with rootl := rootsOf (X i).W (X i).ps ro5, rootA := r } else σ' j, fun j hj => ?_, fun j hj hji => ?_, fun j hj => ?_, ff.trans (Fix.frame (Nat.succ_ne_zero i) f6)⟩)
    · by_cases q : j = i
      · subst q
        simp only [if_pos]
        have g := Zi.good.less (E' := kids (X j).W (X j).ps (X j).nm ed5) (fun i x hx => hx) (rl := rootsOf (X j).W (X j).ps ro5) (a := r) (fun i hi => .root hi) (fun i hi => ?_)
        · exact Zi.own f6 hW6 g
        · obtain ⟨x, hx, rfl⟩ := mem_roots.mp hi
          exact (Zi.env.X.pn x (Zi.env.G.rb x hx)).1
      · simp only [if_neg q]
        exact (Z j hj).other f6 (by lia) (Nat.succ_ne_zero i)
    · by_cases q : j = i
      · subst q; simp only [if_pos]
      · simp only [if_neg q]; exact hs j hj (by lia)
    · by_cases q : j = i
      · subst q; simp only [if_pos]; exact ht j hj
      · simp only [if_neg q]; exact ht j hj
  · rintro m' H' ⟨⟨c1, c2, rfl⟩, σ', Z, hs, ht, ff⟩
    exact t_nil (h H' ed5 ro5 σ' Z (fun j hj => hs j hj hj) ht len5 lenr5 ((Fix.ext e1).trans (ff5.trans ff)))
end

/-! part M30 -/
/-- all stays but what is of one world -/
noncomputable def Off (k : Nat) (H H' : LH) : Prop := ∀ a t c, H a = some (t, c) → t.1 ≠ k → H' a = some (t, c)
theorem Off.refl (k : Nat) (H : LH) : Off k H H := fun _ _ _ e _ => e
theorem Off.trans {k : Nat} {H H' H'' : LH} (a : Off k H H') (b : Off k H' H'') : Off k H H'' := fun x t c e h => b x t c (a x t c e h) h
theorem Off.frame {k : Nat} {H H' : LH} (f : Frame k H H') : Off k H H' := fun a t c e h => f a t c e fun q => h q.1
theorem Off.ext {k : Nat} {H H' : LH} (h : Ext H H') : Off k H H' := fun a t c e _ => h a _ e
theorem Off.fix {k : Nat} {H H' : LH} (f : Off k H H') (k0 : k ≠ 0) : Fix H H' := fun a t c e h _ _ => f a t c e fun q => k0 (q.symm.trans h)
theorem sg_root {σ : Sg} {r : List Nat} (h : σ.rootl = r) : ({ σ with rootl := r } : Sg) = σ := by subst h; rfl
section
variable {w : World} {H H' : LH} {S : Sh} {X : Wr} {j : Nat} {ed ed' : Nat → List Nat} {ro ro' : List Nat} {σ σ' : Sg} {taA taA' : Addr} {told told' : List Nat}
theorem World1.off (Y : World1 w H S X j ed ro σ taA told) {k : Nat} (f : Off k H H') (ne : k ≠ j + 1) (k0 : k ≠ 0) : World1 w H' S X j ed ro σ taA told := by
  have nk : X.W.k ≠ k := fun e => ne (e.symm.trans Y.k)
  have z : ∀ {t : Tag}, t.1 = 0 → t.1 ≠ k := fun e q => k0 (q.symm.trans e)
  have E := Y.env
  exact ⟨⟨⟨⟨let ⟨t, e⟩ := E.X.d; ⟨t, f _ _ _ e nk⟩, let ⟨vs, e, g⟩ := E.X.o; ⟨vs, f _ _ _ e nk, g⟩, f _ _ _ E.X.a nk, let ⟨vs, e, g⟩ := E.X.t; ⟨vs, f _ _ _ e nk, g⟩, E.X.np, E.X.pn⟩, E.F.keep fun a t x e ht => f _ _ _ e (by
      rcases ht with ⟨h1, _⟩ | rfl | rfl
      · intro q; exact nk (h1.symm.trans q)
      · exact z rfl
      · exact z rfl), E.G.keep fun a t x e ht => f _ _ _ e (z ht.1), E.T.keep fun a t x e ht => f _ _ _ e (z ht.1), E.kpos, E.n9, E.num, E.sort, E.kind, E.sorts, E.sizes⟩, Y.wr.keep fun a t c e hm => f _ _ _ e fun q => nk (hm.1.symm.trans q), Y.k, Y.n⟩, Y.good⟩
/-- a world whose dict tells more -/
theorem World0.after (Y : World0 w H S X j ed ro σ taA told) (hW : WR X.W σ' H') (hX : LW H' X.W X.wd X.oA X.aA taA' X.nm X.ps (told'.map X.nm)) (k : ∀ a t c, H a = some (t, c) → ¬ mine X.W.k t → a ≠ X.wd → H' a = some (t, c)) : World0 w H' S X j ed ro σ' taA' told' := by
  have E := Y.env
  have kp := E.kpos
  obtain ⟨td, hwd⟩ := E.X.d
  have nw : ∀ {a : Addr} {t : Tag} {c : Cell}, H a = some (t, c) → t ≠ (X.W.k, 14, 0) → a ≠ X.wd := fun e ne => ne_of_tag e hwd ne
  have z : ∀ {t : Tag}, t.1 = 0 → ¬ mine X.W.k t := fun e q => kp (q.1.symm.trans e)
  have z14 : ∀ {t : Tag}, t.1 = 0 → t ≠ (X.W.k, 14, 0) := fun e q => kp (by rw [q] at e; exact e)
  refine ⟨⟨hX, E.F.keep fun a t x e ht => ?_, E.G.keep fun a t x e ht => k _ _ _ e (z ht.1) (nw e (z14 ht.1)), E.T.keep fun a t x e ht => k _ _ _ e (z ht.1) (nw e (z14 ht.1)), kp, E.n9, E.num, E.sort, E.kind, E.sorts, E.sizes⟩, hW, Y.k, Y.n⟩
  rcases ht with ⟨h1, h2⟩ | rfl | rfl
  · exact k _ _ _ e (fun q => by have := q.2; lia) (nw e fun q => by rw [q] at h2; exact absurd (show (14 : Nat) = 18 from h2) (by decide))
  · exact k _ _ _ e (z rfl) (nw e (z14 rfl))
  · exact k _ _ _ e (z rfl) (nw e (z14 rfl))
theorem World1.n9 (Y : World1 w H S X j ed ro σ taA told) : X.W.n ≤ 9 := Y.env.n9
/-- a world whose roots are told -/
theorem World1.gd (Y : World1 w H S X j ed ro σ taA told) (hr : σ.rootl = rootsOf X.W X.ps ro) : Good X.W (kids X.W X.ps X.nm ed) told σ := by
  have g := Y.good; rw [sg_root hr] at g; exact g
theorem World1.step (Y : World1 w H S X j ed ro σ taA told) (f : Frame X.W.k H H') (hW : WR X.W σ' H') (hg : Good X.W (kids X.W X.ps X.nm ed) told σ') (hr : σ'.rootl = rootsOf X.W X.ps ro) : World1 w H' S X j ed ro σ' taA told :=
  Y.own (by rw [← Y.k]; exact f) hW (by rw [sg_root hr]; exact hg)
end
section
variable {w : World} {hT : Heap} {A : Around} {L : Addr} {m : Loc} {H : LH} {n : Nat}
variable {S : Sh} {X : Wr} {j : Nat} {ed : Nat → List Nat} {ro : List Nat} {σ : Sg} {taA : Addr} {told : List Nat}
theorem w_drained (P : Tp (KK w) hT) (R : Room (n + 9) A) {Q : Value → LH → Prop} (Y : World1 w H S X j ed ro σ taA told)
    (h : ∀ H' taA', World1 w H' S X j ed ro (drained σ σ.tofin.length) taA' (told ++ σ.tofin) → Off (j + 1) H H' → Q (.bool true) H') : C PG w hT A (.ref 475) ⟨[.ref X.wd], []⟩ H Q := by
  have g := Y.good
  have wi := g.wi
  have n9 := Y.env.n9
  have hnd : (told ++ σ.tofin).Nodup := g.nd
  have hlt : ∀ i ∈ told ++ σ.tofin, i < X.W.n := fun i hi => ((g.told i).mp hi).1
  have hlen := nodup_le hnd hlt
  rw [List.length_append] at hlen
  have hdt : σ.datas.length + σ.tofin.length ≤ X.W.n := wi.dt
  obtain ⟨td, hwd⟩ := Y.env.X.d
  refine c_drained P R Y.wr Y.env.kpos Y.env.X Y.env.num (fun i hi => hlt i (List.mem_append_right _ hi)) (by lia) (by lia) (by rw [List.length_map]; lia) n9 g.desc fun H' taA' hW' hX' kk => ?_
  have gd := g.drain.1
  refine h H' taA' ⟨Y.toWorld0.after hW' (by rw [List.map_append]; exact hX') kk, gd⟩ fun a t c e ne => kk a t c e (fun q => ne (q.1.trans Y.k)) (ne_of_tag e hwd fun q => ne (by rw [q]; exact Y.k))
theorem phi_le {W : Wd} {σ : Sg} (h : WI W σ) : Phi W σ ≤ W.n + 4 := by
  unfold Phi
  split
  · exact Nat.le_refl _
  · split
    · rename_i hp
      have := h.p1 hp
      unfold pot at this; lia
    · split <;> lia
theorem c_cycles (P : Tp (KK w) hT) (R : Room 25 A) {M : Nat} {tm : Tok} {Q : Value → LH → Prop} (hM : 1 ≤ M ∧ M ≤ 2) (n5 : X.W.n ≤ 5) (Y : World1 w H S X j ed ro σ taA told) (hr : σ.rootl = rootsOf X.W X.ps ro) (ht : σ.tofin = [])
    (h : ∀ H' σ' taA' told', World1 w H' S X j ed ro σ' taA' told' → σ'.rootl = rootsOf X.W X.ps ro → σ'.tofin = [] → (∀ k, Lv X.W (kids X.W X.ps X.nm ed) k σ → Lv X.W (kids X.W X.ps X.nm ed) (k + M) σ') → Off (j + 1) H H' → Q (.bool true) H') :
    C PG w hT A (.ref 489) ⟨[.ref X.wd, .int (M : Int) tm], []⟩ H Q := by
  refine c_fn (ps := ["world", "many"]) (ls := ["goal", "turn"]) (gs := [("range", .type "range"), ("_law_drained", .ref 475)]) (vals := [.ref X.wd, .int (M : Int) tm])
    (ns := ["world", "many", "goal", "turn"]) (vs := [some (.ref X.wd), some (.int (M : Int) tm), none, none]) P R (by kernel_rfl) (by kernel_rfl) rfl fun L env A' he F R' => ?_
  have n9 := Y.env.n9
  have sz := Y.env.sizes
  obtain ⟨td, hwd⟩ := Y.env.X.d
  refine t_cons (t_assign_name ?_)
  walk_at "gc"
  refine t_getitem_sdict hwd wd_cycle ?_
  refine g_cycles P Y.wr fun _ => ?_
  walk_at "gc"
  refine t_store F (by walk_at "gc_put") ?_
  rename_i tg
  refine t_cons (t_for_range F (by walk_at "gc_mem") R'.h ?_)
  walk_at "gc"
  refine ⟨keeps_type, t_range (n := 20) fun r v1 v3 nr => ?_⟩
  refine ⟨r, 20, tmp, _, _, _, fun i m' H' => (∃ c1, m' = lk ["world", "many", "goal", "turn"] [some (.ref X.wd), some (.int (M : Int) tm), some (.int (σ.cycles + M) tg), c1]) ∧ Ex4 fun (σ' : Sg) (taA' : Addr) (told' : List Nat) (c : Nat) => And8 (World1 w H' S X j ed ro σ' taA' told') (σ'.rootl = rootsOf X.W X.ps ro) (σ'.tofin = []) (σ'.cycles = σ.cycles + (c : Int)) (c ≤ M) ((∀ k, Lv X.W (kids X.W X.ps X.nm ed) k σ → Lv X.W (kids X.W X.ps X.nm ed) (k + c) σ')) ((c < M → Phi X.W σ' + (X.W.n + 4) * (M - c - 1) + i ≤ (X.W.n + 4) * M)) (Off (j + 1) H H'), rfl, by decide, upd_self _ _ _, ⟨⟨_, rfl⟩, σ, taA, told, 0, Y.ext (Ext.new nr _), hr, ht, by simp, Nat.zero_le _, fun k hk => hk, fun _ => ?_, Off.ext (Ext.new nr _)⟩, ?_, ?_⟩
  · have := phi_le (Y.gd hr).wi
    obtain ⟨M', rfl⟩ : ∃ M', M = M' + 1 := ⟨M - 1, by lia⟩
    rw [Nat.sub_zero, Nat.add_sub_cancel, Nat.mul_succ]; lia
  · rintro J i hJ m' H' u ⟨⟨c1, rfl⟩, σ', taA', told', c, Y', hr', ht', hc, hcM, hl, hphi, ho⟩ hi
    refine t_stored F (by walk_at "gc_put") ?_
    obtain ⟨td', hwd'⟩ := Y'.env.X.d
    refine t_cons (t_if_ ?_)
    walk_at "gc"
    refine t_getitem_sdict hwd' wd_cycle ?_
    refine g_cycles P Y'.wr fun _ => ?_
    walk_at "gc"
    refine ⟨fun hlt => ?_, fun hge => ?_⟩
    · have hcl : c < M := by have := of_decide_eq_true hlt; lia
      have g' := Y'.gd hr'
      refine t_cons (t_exprF F ?_)
      walk_at "gc"
      refine t_getitem_sdict hwd' wd_cycle ?_
      refine meth_C P Y'.wr (by kernel_rfl : classFn (KK w) 421 "steps" 301 = true) (by decide +kernel) ?_
      walk_at "gc"
      refine t_neg fun _ => ?_
      walk_at "gc"
      refine ⟨keeps_top P (by kernel_rfl), t_call (c_steps P (law_wi n9 sz) (R'.le (by decide)) (.inl rfl) Y'.wr (Y'.toWorld0.clo P) g'.wi fun H2 σ2 b hR hI2 hW2 f2 => ?_)⟩
      obtain ⟨g2, er2, hl2, hc2, hz2⟩ := g'.run (fun _ => ht') hR
      have hr2 : σ2.rootl = rootsOf X.W X.ps ro := er2.trans hr'
      have Y2 := Y'.step f2 hW2 g2 hr2
      have o2 : Off (j + 1) H' H2 := Off.frame (by rw [← Y.k]; exact f2)
      refine t_cons (t_if_ ?_)
      walk_at "gc"
      refine ⟨keeps_top P (by kernel_rfl), t_call (w_drained (n := 15) P R' Y2 fun H3 taA3 Y3 o3 => ?_)⟩
      walk_at "gc"
      refine ⟨fun e => (by cases e), fun _ => ?_⟩
      have gd := g2.drain
      have hphi' := hphi hcl
      have hdph : Phi X.W (drained σ2 σ2.tofin.length) = Phi X.W σ2 := by
        unfold Phi drained
        dsimp only
        by_cases hp1 : σ2.phase = 1
        · have e0 := (g2.p1 hp1).1
          have : (fun j => if j ∈ σ2.tofin.take σ2.tofin.length then σ2.white else σ2.mark j) = σ2.mark := by funext j; rw [e0]; simp
          rw [this]
        · simp only [hp1, if_false]
      have hc' := c
      by_cases hp0 : σ2.phase = 0
      · have z := hz2 hp0
        refine t_nil (t_nil (t_nil (hJ _ _ ⟨⟨_, rfl⟩, drained σ2 σ2.tofin.length, taA3, told' ++ σ2.tofin, c + 1, Y3, hr2, List.drop_length, ?_, hcl, fun k hk => ?_, fun hlt2 => ?_, (ho.trans o2).trans o3⟩)))
        · show σ2.cycles = _
          rw [z.1, hc]; push_cast; lia
        · have := hl2 _ (hl k hk)
          rw [if_pos hp0] at this
          exact gd.2 _ this
        · rw [hdph, z.2.1]
          obtain ⟨q, hq⟩ : ∃ q, M - c - 1 = q + 1 := ⟨M - c - 2, by lia⟩
          have e1 : M - (c + 1) - 1 = q := by lia
          rw [hq, Nat.mul_succ] at hphi'
          rw [e1]
          have := z.2.2
          omega
      · have z := hc2 hp0
        refine t_nil (t_nil (t_nil (hJ _ _ ⟨⟨_, rfl⟩, drained σ2 σ2.tofin.length, taA3, told' ++ σ2.tofin, c, Y3, hr2, List.drop_length, ?_, hcM, fun k hk => ?_, fun hlt2 => ?_, (ho.trans o2).trans o3⟩)))
        · show σ2.cycles = _
          rw [z.1, hc]
        · have := hl2 _ (hl k hk)
          rw [if_neg hp0] at this
          exact gd.2 _ this
        · rw [hdph]; have := z.2; omega
    · have hcl : ¬ c < M := by have := of_decide_eq_false hge; lia
      exact t_nil (t_nil (hJ _ _ ⟨⟨_, rfl⟩, σ', taA', told', c, Y', hr', ht', hc, hcM, hl, fun q => absurd q hcl, ho⟩))
  · rintro m' H' ⟨⟨c1, rfl⟩, σ', taA', told', c, Y', hr', ht', hc, hcM, hl, hphi, ho⟩
    have hcc : c = M := by
      by_cases q : c < M
      · have := hphi q
        have h2 : (X.W.n + 4) * M ≤ 9 * 2 := Nat.mul_le_mul (by lia) hM.2
        omega
      · lia
    subst hcc
    obtain ⟨td', hwd'⟩ := Y'.env.X.d
    refine t_cons (t_ret ?_)
    walk_at "gc"
    refine t_getitem_sdict hwd' wd_cycle ?_
    refine g_cycles P Y'.wr fun _ => ?_
    walk_at "gc"
    have : (σ'.cycles == σ.cycles + (c : Int)) = true := by rw [hc]; exact beq_self_eq_true _
    rw [this]
    exact h H' σ' taA' told' Y' hr' ht' hl ho
end

/-! part F17 -/
section
variable {prog : Program} {w : World} {hT : Heap} {K : Frag} {α : Type} {A : Around} {L : Addr} {m : Loc} {H : LH} {env : Env}
theorem if3 {α : Type} {a b c : Bool} {x y : α} (h : c = true) : (if a = true then x else if b = true then x else if c = true then x else y) = x := by
  subst h
  cases a <;> cases b <;> rfl
theorem swap2_cell {x1 x2 : Str} {p1 p2 tp vp : Pos} {k k2 : Nat} {e1 e2 : Expr} (h : env.kindOf x2 ≠ some .local) : swappedStores [.Tuple [.Name x1 p1, .Name x2 p2] k tp] (.Tuple [e1, e2] k2 vp) env = pure none := by
  unfold swappedStores
  dsimp only
  have hl : ∀ c : Bool, (List.filterMap (fun x : Expr => match x with | .Name id pos => if env.kindOf id == some NameKind.local && pos.line == p1.line then some id else none | _ => none) [.Name x1 p1, .Name x2 p2]).length ≠ 2 := fun _ => by
    have h2 : (env.kindOf x2 == some NameKind.local) = false := by simpa using h
    simp only [List.filterMap_cons, List.filterMap_nil, h2, Bool.false_and, Bool.false_eq_true, if_false]
    split <;> simp
  refine if3 (c := _) ?_
  refine Bool.or_eq_true_iff.mpr (.inl ?_)
  exact bne_iff_ne.mpr (hl true)
theorem swap3_cell {x1 x2 x3 : Str} {p1 p2 p3 tp vp : Pos} {k k2 : Nat} {e1 e2 e3 : Expr} (h : env.kindOf x1 ≠ some .local) : swappedStores [.Tuple [.Name x1 p1, .Name x2 p2, .Name x3 p3] k tp] (.Tuple [e1, e2, e3] k2 vp) env = pure none := by
  unfold swappedStores
  dsimp only
  have hl : (List.filterMap (fun x : Expr => match x with | .Name id pos => if env.kindOf id == some NameKind.local && pos.line == p1.line then some id else none | _ => none) [.Name x1 p1, .Name x2 p2, .Name x3 p3]).length ≠ 3 := by
    have h2 : (env.kindOf x1 == some NameKind.local) = false := by simpa using h
    have key : ∀ l : List Expr, (List.filterMap (fun x : Expr => match x with | .Name id pos => if env.kindOf id == some NameKind.local && pos.line == p1.line then some id else none | _ => none) l).length ≤ l.length := fun l => List.length_filterMap_le _ _
    have := key [.Name x2 p2, .Name x3 p3]
    have e : List.filterMap (fun x : Expr => match x with | .Name id pos => if env.kindOf id == some NameKind.local && pos.line == p1.line then some id else none | _ => none) [.Name x1 p1, .Name x2 p2, .Name x3 p3] = List.filterMap (fun x : Expr => match x with | .Name id pos => if env.kindOf id == some NameKind.local && pos.line == p1.line then some id else none | _ => none) [.Name x2 p2, .Name x3 p3] := by
      rw [List.filterMap_cons]
      simp only [h2, Bool.false_and, Bool.false_eq_true, if_false]
    rw [e]
    simp only [List.length_cons, List.length_nil] at this
    omega
  refine if3 (c := _) ?_
  refine Bool.or_eq_true_iff.mpr (.inl ?_)
  exact bne_iff_ne.mpr hl
/-- a cell is seen in another way -/
theorem t_recast {t : Sem α} {Q : α → Loc → LH → Prop} {d : Addr} {tg : Tag} {c c' : Cell} (hd : H d = some (tg, c)) (hc : ∀ B g os s, St prog w hT B g os L m H s → CellAt prog w s.heap d c') (h : T prog w hT A L t m (upd H d (tg, c')) Q) : T prog w hT A L t m H Q := fun B g os s y =>
  h B g os s (y.upd (s' := s) hd (Heap.ExtBut.refl _ _) (hc B g os s y) rfl rfl)
noncomputable def compOkN (K : Frag) (scope : Scope) (names : List Str) (gs : List (Str × Value)) (fs : List Str) : Bool :=
  kindsOk K scope names gs && cellsOk scope fs && (scope.names.all fun y => decide (y.2 ≠ .cell)) && (scope.names.all fun y => decide (y.2 = .local → scope.names.lookup y.1 = some .local))
theorem t_compSrcF {elt iter tgt : Expr} {ifs : List Expr} {scope : Scope} {cl : List (Str × Addr)} {pos : Pos} {ns : List Str} {gs0 : List (Str × Value)} {fs0 : List (Str × Addr)} {names : List Str} {Q : Value → Loc → LH → Prop} (P : Tp K hT) (F : FnE hT env L ns gs0 fs0) (gs : List (Str × Value)) (fs : List (Str × Addr)) (hclos : closureFor scope env = pure cl)
    (hok : compOkN K scope names gs (fs.map (·.1)) = true) (hf : ∀ p ∈ fs, cl.lookup p.1 = some p.2)
    (h : T prog w hT A L (eval iter env) m H fun v m1 H1 => Ex4 fun n M okE R => And4 (Opens prog w hT A v H1 tgt n M okE R) (n ≤ 1000) ((∀ env' C, FnE hT env' C names gs fs → okE env' C)) (∀ H0 K, R H0 K → ∃ (I : Nat → List Value → LH → Prop), I 0 [] H0 ∧ (∀ i acc H, I i acc H → acc.length ≤ i ∧ K H) ∧
      (∀ C env' i acc H vs m', FnE hT env' C names gs fs → I i acc H → i < n → vs.length = names.length → M i (lk names vs) m' → T prog w hT A C (tests ifs env') m' H fun ok m2 H2 =>
        (ok = true → T prog w hT A C (eval elt env') m2 H2 fun z m3 H3 => (∃ vs, vs.length = names.length ∧ m3 = lk names vs) ∧ I (i + 1) (acc ++ [z]) H3) ∧ (ok = false → (∃ vs, vs.length = names.length ∧ m2 = lk names vs) ∧ I (i + 1) acc H2)) ∧
      ∀ acc H, I n acc H → ∀ r, H r = none → Q (.ref r) m1 (upd H r (tmp, .list acc))))
    (hs : ∀ x, foldedSetIterable iter env x = pure x := by intro _; rfl) :
    T prog w hT A L (eval (.ListComp elt [⟨tgt, iter, ifs, 0⟩] scope pos) env) m H Q := by
  unfold compOkN at hok
  simp only [Bool.and_eq_true] at hok
  obtain ⟨⟨⟨h1, h2⟩, h3⟩, h4⟩ := hok
  have h1' := h1
  unfold kindsOk at h1'
  simp only [Bool.and_eq_true, decide_eq_true_eq, List.all_eq_true] at h1'
  refine t_comp_src hclos h3 h1'.1.1.1.1.1 h4 (t_mono h ?_) hs
  rintro v m1 H1 ⟨n, M, okE, R, hO, hz, hk, q⟩
  have FC : ∀ C, FnE hT (compEnvC scope cl C env) C names gs fs := fun C => fnE_comp P F.globals F.builtins h1 h2 hf
  refine ⟨n, M, okE, R, fun m => ∃ (vs : List (Option Value)), vs.length = names.length ∧ m = lk names vs, hO, hz, fun C => hk _ _ (FC C), ⟨names.map fun _ => none, List.length_map .., ?_⟩, fun H0 K hR => ?_⟩
  · funext y; exact (lk_none names y).symm
  · obtain ⟨I, a1, a2, a3, a4⟩ := q H0 K hR
    refine ⟨I, a1, a2, ?_, a4⟩
    rintro C i acc H m0 m' hI hi ⟨vs, hvs, rfl⟩ hM
    exact a3 C _ i acc H vs m' (FC C) hI hi hvs hM
theorem t_compUseF {elt iter tgt : Expr} {ifs : List Expr} {scope : Scope} {cl : List (Str × Addr)} {pos pos' px : Pos} {x : Str} {ns : List Str} {gs0 : List (Str × Value)} {fs0 : List (Str × Addr)} {names : List Str} {Q : Flow → Loc → LH → Prop} (P : Tp K hT) (F : FnE hT env L ns gs0 fs0) (gs : List (Str × Value)) (fs : List (Str × Addr)) (hsw : swapsWith (.ListComp elt [⟨tgt, iter, ifs, 0⟩] scope pos) (some (.Name x px)) pos'.line env = pure true) (hclos : closureFor scope env = pure cl)
    (hok : compOkN K scope names gs (fs.map (·.1)) = true) (hf : ∀ p ∈ fs, cl.lookup p.1 = some p.2)
    (h : T prog w hT A L (eval iter env) m H fun v m1 H1 => Ex4 fun n M okE R => And4 (Opens prog w hT A v H1 tgt n M okE R) (n ≤ 1000) ((∀ env' C, FnE hT env' C names gs fs → okE env' C)) (∀ H0 K, R H0 K → ∃ (I : Nat → List Value → LH → Prop), I 0 [] H0 ∧ (∀ i acc H, I i acc H → acc.length ≤ i ∧ K H) ∧
      (∀ C env' i acc H vs m', FnE hT env' C names gs fs → I i acc H → i < n → vs.length = names.length → M i (lk names vs) m' → T prog w hT A C (tests ifs env') m' H fun ok m2 H2 =>
        (ok = true → T prog w hT A C (eval elt env') m2 H2 fun z m3 H3 => (∃ vs, vs.length = names.length ∧ m3 = lk names vs) ∧ I (i + 1) (acc ++ [z]) H3) ∧ (ok = false → (∃ vs, vs.length = names.length ∧ m2 = lk names vs) ∧ I (i + 1) acc H2)) ∧
      ∀ acc H, I n acc H → ∀ r, H r = none → T prog w hT A L (storeName env x (.ref r)) m1 (upd H r (tmp, .list acc)) fun _ m2 H2 => Q .next m2 H2))
    (hs : ∀ x, foldedSetIterable iter env x = pure x := by intro _; rfl) :
    T prog w hT A L (exec (.Assign [.Name x px] (.ListComp elt [⟨tgt, iter, ifs, 0⟩] scope pos) pos') env) m H Q := by
  unfold compOkN at hok
  simp only [Bool.and_eq_true] at hok
  obtain ⟨⟨⟨h1, h2⟩, h3⟩, h4⟩ := hok
  have h1' := h1
  unfold kindsOk at h1'
  simp only [Bool.and_eq_true, decide_eq_true_eq, List.all_eq_true] at h1'
  refine t_comp_use hsw hclos h3 h1'.1.1.1.1.1 h4 (t_mono h ?_) hs
  rintro v m1 H1 ⟨n, M, okE, R, hO, hz, hk, q⟩
  have FC : ∀ C, FnE hT (compEnvC scope cl C env) C names gs fs := fun C => fnE_comp P F.globals F.builtins h1 h2 hf
  refine ⟨n, M, okE, R, fun m => ∃ (vs : List (Option Value)), vs.length = names.length ∧ m = lk names vs, hO, hz, fun C => hk _ _ (FC C), ⟨names.map fun _ => none, List.length_map .., ?_⟩, fun H0 K hR => ?_⟩
  · funext y; exact (lk_none names y).symm
  · obtain ⟨I, a1, a2, a3, a4⟩ := q H0 K hR
    refine ⟨I, a1, a2, ?_, a4⟩
    rintro C i acc H m0 m' hI hi ⟨vs, hvs, rfl⟩ hM
    exact a3 C _ i acc H vs m' (FC C) hI hi hvs hM
end
/-- lists that rise -/
theorem asc_unique : ∀ {a b : List Int}, a.Pairwise (· < ·) → b.Pairwise (· < ·) → (∀ x, x ∈ a ↔ x ∈ b) → a = b
  | [], [], _, _, _ => rfl
  | [], y :: b, _, _, h => absurd ((h y).mpr List.mem_cons_self) (by simp)
  | x :: a, [], _, _, h => absurd ((h x).mp List.mem_cons_self) (by simp)
  | x :: a, y :: b, ha, hb, h => by
    rw [List.pairwise_cons] at ha hb
    have e : x = y := by
      rcases List.mem_cons.mp ((h x).mp List.mem_cons_self) with e | e
      · exact e
      · rcases List.mem_cons.mp ((h y).mpr List.mem_cons_self) with e' | e'
        · exact e'.symm
        · have := hb.1 x e; have := ha.1 y e'; lia
    subst e
    rw [asc_unique ha.2 hb.2 fun z => ?_]
    constructor
    · intro hz
      rcases List.mem_cons.mp ((h z).mp (List.mem_cons_of_mem _ hz)) with e | e
      · have := ha.1 z hz; lia
      · exact e
    · intro hz
      rcases List.mem_cons.mp ((h z).mpr (List.mem_cons_of_mem _ hz)) with e | e
      · have := hb.1 z hz; omega
      · exact e
theorem sorted_is {ns l al : List Int} (hp : ns.Perm l) (hs : ns.Pairwise (· ≤ ·)) (nd : l.Nodup) (hal : al.Pairwise (· < ·)) (hm : ∀ x, x ∈ l ↔ x ∈ al) : ns = al := by
  have nn : ns.Nodup := hp.nodup_iff.mpr nd
  refine asc_unique ?_ hal fun x => (hp.mem_iff).trans (hm x)
  have both := List.Pairwise.and hs nn
  exact both.imp fun {a b} q => by have := q.1; have := q.2; lia
theorem sum_perm {a b : List Int} (h : a.Perm b) : a.sum = b.sum := by
  induction h with
  | nil => rfl
  | cons x _ ih => rw [List.sum_cons, List.sum_cons, ih]
  | swap x y l => rw [List.sum_cons, List.sum_cons, List.sum_cons, List.sum_cons]; lia
  | trans _ _ ih1 ih2 => exact ih1.trans ih2

/-! part M31 -/
noncomputable abbrev rFs (L : Addr) : List (Str × Addr) := [("order", L + 4), ("which", L + 3), ("alive", L + 2), ("things", L + 1)]
noncomputable abbrev rNs : List Str := ["world", "cycle", "due"]
theorem rc_order : rFs = rFs := rfl
section
variable {w : World} {hT : Heap} {A : Around} {L : Addr} {m : Loc} {H : LH} {n : Nat}
variable {S : Sh} {X : Wr} {j : Nat} {ed : Nat → List Nat} {ro : List Nat} {σ : Sg} {taA : Addr} {told : List Nat}
/-- what the end asks: in plain numbers -/
theorem end_objs (Y : World1 w H S X j ed ro σ taA told) (hr : σ.rootl = rootsOf X.W X.ps ro) (h3 : Lv X.W (kids X.W X.ps X.nm ed) 3 σ) {al : List Nat} (hmem : ∀ i, i ∈ al ↔ Reach ed ro i) : (asInts (σ.objs.map X.nm)).Nodup ∧ ∀ x, x ∈ asInts (σ.objs.map X.nm) ↔ x ∈ asInts al := by
  have g := Y.gd hr
  have R := Y.reach
  have np := Y.env.X.np
  have hobj : ∀ i, i ∈ σ.objs ↔ Reach (kids X.W X.ps X.nm ed) (rootsOf X.W X.ps ro) i := fun i => by
    constructor
    · intro hi; have := h3.2 i hi; rw [hr] at this; exact this
    · intro hi
      refine (g.mem i).mpr fun q => g.live i (by rw [hr]; exact hi) (.inl q)
  have hn : ∀ i ∈ σ.objs, i < X.W.n := g.wi.objs
  constructor
  · unfold asInts
    rw [List.map_map]
    refine List.Pairwise.map _ (fun a b h => h) (List.Pairwise.imp_of_mem (S := fun a b => ((fun (i : Nat) => (i : Int)) ∘ X.nm) a ≠ ((fun (i : Nat) => (i : Int)) ∘ X.nm) b) ?_ g.wi.nd)
    intro a b ha hb ne e
    have e : (X.nm a : Int) = (X.nm b : Int) := e
    have h1 := (np a (hn a ha)).2
    have h2 := (np b (hn b hb)).2
    have e2 : X.nm a = X.nm b := by lia
    rw [e2] at h1
    exact ne (h1.symm.trans h2)
  · intro x
    unfold asInts
    rw [List.mem_map, List.mem_map]
    constructor
    · rintro ⟨y, hy, rfl⟩
      obtain ⟨i, hi, rfl⟩ := List.mem_map.mp hy
      exact ⟨X.nm i, (hmem _).mpr (R.1 i ((hobj i).mp hi)).2, rfl⟩
    · rintro ⟨y, hy, rfl⟩
      have := R.2 y ((hmem y).mp hy)
      exact ⟨y, List.mem_map.mpr ⟨X.ps y, (hobj _).mpr this.2, (Y.env.X.pn y this.1).2⟩, rfl⟩
theorem end_told (Y : World1 w H S X j ed ro σ taA told) (hr : σ.rootl = rootsOf X.W X.ps ro) (ht : σ.tofin = []) (h3 : Lv X.W (kids X.W X.ps X.nm ed) 3 σ) {al : List Nat} (hmem : ∀ i, i ∈ al ↔ Reach ed ro i) :
    (asInts (told.map X.nm)).Nodup ∧ ∀ x, x ∈ asInts (told.map X.nm) ↔ x ∈ asInts ((List.range S.N).filter fun i => decide (S.ki i = 1 ∧ i ∉ al)) := by
  have g := Y.gd hr
  have R := Y.reach
  have np := Y.env.X.np
  have pn := Y.env.X.pn
  have hnd := g.nd
  rw [ht, List.append_nil] at hnd
  have htold : ∀ i, i ∈ told ↔ i < X.W.n ∧ X.W.kind i = 1 ∧ σ.fz i = true := fun i => by
    have := g.told i; rw [ht, List.append_nil] at this; exact this
  constructor
  · unfold asInts
    rw [List.map_map]
    refine List.Pairwise.map _ (fun a b h => h) (List.Pairwise.imp_of_mem (S := fun a b => ((fun (i : Nat) => (i : Int)) ∘ X.nm) a ≠ ((fun (i : Nat) => (i : Int)) ∘ X.nm) b) ?_ hnd)
    intro a b ha hb ne e
    have e : (X.nm a : Int) = (X.nm b : Int) := e
    have h1 := (np a ((htold a).mp ha).1).2
    have h2 := (np b ((htold b).mp hb).1).2
    have e2 : X.nm a = X.nm b := by omega
    rw [e2] at h1
    exact ne (h1.symm.trans h2)
  · intro x
    unfold asInts
    rw [List.mem_map, List.mem_map]
    constructor
    · rintro ⟨y, hy, rfl⟩
      obtain ⟨i, hi, rfl⟩ := List.mem_map.mp hy
      obtain ⟨h1, h2, h4⟩ := (htold i).mp hi
      refine ⟨X.nm i, List.mem_filter.mpr ⟨List.mem_range.mpr (by rw [← Y.n]; exact (np i h1).1), ?_⟩, rfl⟩
      rw [Y.env.kind i h1] at h2
      refine decide_eq_true ⟨h2, fun q => ?_⟩
      have := (R.2 _ ((hmem _).mp q)).2
      rw [(np i h1).2, ← hr] at this
      exact g.fz i h4 this
    · rintro ⟨y, hy, rfl⟩
      obtain ⟨h1, h2⟩ := List.mem_filter.mp hy
      have h2 := of_decide_eq_true h2
      have hy : y < X.W.n := by rw [Y.n]; exact List.mem_range.mp h1
      have hp := pn y hy
      refine ⟨y, List.mem_map.mpr ⟨X.ps y, (htold _).mpr ⟨hp.1, ?_, ?_⟩, hp.2⟩, rfl⟩
      · rw [Y.env.kind _ hp.1, hp.2]; exact h2.1
      · refine h3.1 _ hp.1 (by rw [Y.env.kind _ hp.1, hp.2, h2.1]; decide) fun q => h2.2 ((hmem y).mpr ?_)
        rw [hr] at q
        have := (R.1 _ q).2
        rw [hp.2] at this; exact this
theorem c_endright (P : Tp (KK w) hT) (R : Room (n + 9) A) {b : Bool} {tb : Tok} {alA : Addr} {tal : Tag} {av : List Value} {al : List Nat} {Q : Value → LH → Prop} (Y : World1 w H S X j ed ro σ taA told) (hr : σ.rootl = rootsOf X.W X.ps ro) (ht : σ.tofin = []) (h3 : Lv X.W (kids X.W X.ps X.nm ed) 3 σ)
    (hal : H alA = some (tal, .list av)) (hai : IntsAre av (asInts al)) (hasc : al.Pairwise (· < ·)) (hmem : ∀ i, i ∈ al ↔ Reach ed ro i) (hsz : ∀ i < X.W.n, X.W.size i = if b then S.s1 (X.nm i) else S.s0 (X.nm i))
    (h : ∀ H', Ext H H' → Q (.bool true) H') : C PG w hT A (.ref 494) ⟨[.ref X.wd, .ref S.thA, .ref alA, .int (if b then 1 else 0) tb], []⟩ H Q := by
  refine c_fnC (ps := ["world", "things", "alive", "which"]) (ls := ["cycle", "due"]) (cn := ["order", "which", "alive", "things"]) (gs := [("enumerate", .type "enumerate"), ("sorted", .builtin "sorted"), ("sum", .builtin "sum")])
    (ns := rNs) (vs := [some (.ref X.wd), none, none]) (zs := [("world", .ref X.wd)]) (zc := [("things", .ref S.thA), ("alive", .ref alA), ("which", .int (if b then 1 else 0) tb)])
    (fs := rFs) (cvs := fun L => [(L + 4, none), (L + 3, some (.int (if b then 1 else 0) tb)), (L + 2, some (.ref alA)), (L + 1, some (.ref S.thA))]) P R
    (by kernel_rfl) (by kernel_rfl) (by kernel_rfl) rfl (by kernel_rfl) (by kernel_rfl) rfl rfl (fun L => by kernel_rfl) (fun L => rfl) (fun L => by kernel_rfl) fun L env A' H1 he F R' e1 hc hd => ?_
  have mO : ((("order" : Str), L + 4) : Str × Addr) ∈ rFs L := by walk_at "gc_mem"
  have mW : ((("which" : Str), L + 3) : Str × Addr) ∈ rFs L := by walk_at "gc_mem"
  have mA : ((("alive" : Str), L + 2) : Str × Addr) ∈ rFs L := by walk_at "gc_mem"
  have mT : ((("things" : Str), L + 1) : Str × Addr) ∈ rFs L := by walk_at "gc_mem"
  have hcO := hc (L + 4, none) (by walk_at "gc_mem")
  have hcW := (hc (L + 3, some (.int (if b then 1 else 0) tb)) (by walk_at "gc_mem")).1
  have hcA := (hc (L + 2, some (.ref alA)) (by walk_at "gc_mem")).1
  have hcT := (hc (L + 1, some (.ref S.thA)) (by walk_at "gc_mem")).1
  have hd1 := List.pairwise_cons.mp hd
  have nWO : L + 3 ≠ L + 4 := (hd1.1 (L + 3, some (.int (if b then 1 else 0) tb)) (by walk_at "gc_mem")).symm
  have nAO : L + 2 ≠ L + 4 := (hd1.1 (L + 2, some (.ref alA)) (by walk_at "gc_mem")).symm
  have nTO : L + 1 ≠ L + 4 := (hd1.1 (L + 1, some (.ref S.thA)) (by walk_at "gc_mem")).symm
  clear hc hd hd1
  have Y1 := Y.ext e1
  obtain ⟨td, hwd⟩ := Y1.env.X.d
  have kindO : env.kindOf "order" ≠ some .local := by rw [he]; intro q; have e2 : (callEnvC (fdOf (KK w) 494) L 494).kindOf "order" = some .cell := by kernel_rfl
                                                      rw [e2] at q; cases q
  have kindC : env.kindOf "order" = some .cell := by rw [he]; kernel_rfl
  refine t_cons (t_assignTup (t_tuple ?_) (swap2_cell kindO))
  walk_at "gc"
  refine t_getitem_sdict hwd wd_cycle ?_
  walk_at "gc"
  refine t_getitem_sdict hwd wd_order ?_
  walk_at "gc"
  refine ⟨Nat.le_of_ble_eq_true rfl, fun tA nt => ?_⟩
  have e2 := e1.trans (Ext.new nt (tmp, .obj (tupObj [.ref X.W.C, .ref X.oA])))
  refine t_unpackTup R'.h (upd_self _ _ _) rfl ?_
  refine t_ord_cons (t_as_name (t_store F (by walk_at "gc_put") ?_))
  refine t_ord_cons (t_as_name (t_store_cell F mO kindC (Ext.new nt _ _ _ hcO.1) ?_))
  refine t_ord_nil (ts := []) ?_
  have nn : ∀ {a : Addr} {x : Tag × Cell}, H a = some x → a ≠ L + 4 := fun e q => by rw [q, hcO.2] at e; cases e
  have e3 : Ext H (upd (upd H1 tA (tmp, .obj (tupObj [.ref X.W.C, .ref X.oA]))) (L + 4) ((0, 1, 0), .cell (some (.ref X.oA)))) := fun a x e => by
    rw [upd_ne _ _ (nn e)]; exact e2 _ _ e
  have hcO3 := upd_self (upd H1 tA (tmp, .obj (tupObj [.ref X.W.C, .ref X.oA]))) (L + 4) ((0, 1, 0), Cell.cell (some (.ref X.oA)))
  have hcW3 : upd (upd H1 tA (tmp, .obj (tupObj [.ref X.W.C, .ref X.oA]))) (L + 4) ((0, 1, 0), Cell.cell (some (.ref X.oA))) (L + 3) = some ((0, 1, 0), .cell (some (.int (if b then 1 else 0) tb))) := by rw [upd_ne _ _ nWO]; exact Ext.new nt _ _ _ hcW
  have hcA3 : upd (upd H1 tA (tmp, .obj (tupObj [.ref X.W.C, .ref X.oA]))) (L + 4) ((0, 1, 0), Cell.cell (some (.ref X.oA))) (L + 2) = some ((0, 1, 0), .cell (some (.ref alA))) := by rw [upd_ne _ _ nAO]; exact Ext.new nt _ _ _ hcA
  have hcT3 : upd (upd H1 tA (tmp, .obj (tupObj [.ref X.W.C, .ref X.oA]))) (L + 4) ((0, 1, 0), Cell.cell (some (.ref X.oA))) (L + 1) = some ((0, 1, 0), .cell (some (.ref S.thA))) := by rw [upd_ne _ _ nTO]; exact Ext.new nt _ _ _ hcT
  revert e3 hcO3 hcW3 hcA3 hcT3
  generalize upd (upd H1 tA (tmp, .obj (tupObj [.ref X.W.C, .ref X.oA]))) (L + 4) ((0, 1, 0), Cell.cell (some (.ref X.oA))) = H3
  intro e3 hcO3 hcW3 hcA3 hcT3
  clear hcO hcW hcA hcT hwd Y1 e2
  have Y3 := Y.ext e3
  have hN := Y.n
  have n9 := Y.env.n9
  have hal3 := e3 _ _ hal
  -- those that are due
  refine t_cons (t_compUseF (names := ["name", "thing"]) P F [] [("alive", L + 2)] (cl := [("alive", L + 2)]) (by rw [he]; kernel_rfl) (by rw [he]; kernel_rfl) (by kernel_rfl) (fun p hp => by rw [List.mem_singleton] at hp; subst hp; kernel_rfl) ?_)
  refine t_callName ?_
  walk_at "gc"
  refine t_name_cell F mT hcT3 ?_
  walk_at "gc"
  have hthl := Y3.env.T.l
  refine ⟨keeps_type, t_enumerate hthl fun e it o ne ni nei io => ?_⟩
  refine ⟨_, _, _, _, opens_enum (a := "name") (x := "thing") R'.h hthl ne ni nei io, by rw [List.length_map, List.length_range]; lia, fun env' C Fc => ⟨okName_of Fc (by walk_at "gc_mem"), okName_of Fc (by walk_at "gc_mem")⟩, ?_⟩
  rintro H0 K ⟨rfl, rfl⟩
  have hcon : ∀ x : Nat, (asInts al).contains (x : Int) = decide (x ∈ al) := fun x => contains_ints
  refine ⟨fun i acc H' => And3 (H' = H0) (acc.length ≤ i) (IntsAre acc (asInts ((List.range i).filter fun i => decide (S.ki i = 1 ∧ i ∉ al)))), ⟨rfl, Nat.le_refl _, .nil⟩, ?_, ?_, ?_⟩
  · rintro i acc H' ⟨rfl, ha, -⟩
    exact ⟨ha, _, hthl⟩
  · rintro C env' i acc H' vs m' Fc ⟨rfl, ha, hacc⟩ hi hvs ⟨v, u, hv, rfl⟩
    rw [List.length_map, List.length_range] at hi
    obtain ⟨c1, c2, rfl⟩ := len2 hvs
    focus
      have hm : set (set (lk ["name", "thing"] [c1, c2]) "name" (.int (i : Int) u)) "thing" v = lk ["name", "thing"] [some (.int (i : Int) u), some v] := by
        rw [set_lk Fc.nd (show Put ["name", "thing"] [c1, c2] "name" (some (.int (i : Int) u)) [some (.int (i : Int) u), c2] by walk_at "gc_put"), set_lk Fc.nd (by walk_at "gc_put")]
      rw [hm]
      rw [List.getElem?_map, List.getElem?_range hi] at hv
      have hv : Value.ref (S.tA i) = v := Option.some.inj hv
      subst hv
      obtain ⟨u0, u1, u2, u3, hth⟩ := Y3.env.T.t i hi
      refine t_tests_one ?_
      refine t_opq (fun c m2 H2 => And3 (m2 = lk ["name", "thing"] [some (.int (i : Int) u), some (.ref (S.tA i))]) (H2 = H') (c = decide (S.ki i = 1 ∧ i ∉ al))) (fun J hJ => ?_) ?_
      · walk_at "gc"
        refine t_item_tuple (v := .int (S.ki i) u1) hth (by decide) (by decide) rfl ?_
        walk_at "gc"
        refine ⟨fun c1 => ?_, fun c1 => (hJ _ _ _ ⟨rfl, rfl, ?_⟩)⟩
        · have hk : S.ki i = 1 := by simpa using c1
          walk_at "gc"
          refine t_name_cell Fc List.mem_cons_self hcA3 ?_
          refine t_notInInts hal3 hai ?_
          walk_at "gc"
          rw [hcon]
          refine ⟨fun c2 => ?_, fun c2 => (hJ _ _ _ ⟨rfl, rfl, ?_⟩)⟩
          · walk_at "gc"
            refine hJ _ _ _ ⟨rfl, rfl, ?_⟩
            symm; exact decide_eq_true ⟨hk, by simpa using c2⟩
          · symm; refine decide_eq_false fun q => q.2 (by simpa using c2)
        · have hk : ¬ S.ki i = 1 := by simpa using c1
          symm; exact decide_eq_false fun q => hk q.1
      · rintro c m2 H2 ⟨rfl, rfl, hcc⟩
        have hfil : (List.range (i + 1)).filter (fun i => decide (S.ki i = 1 ∧ i ∉ al)) = (List.range i).filter (fun i => decide (S.ki i = 1 ∧ i ∉ al)) ++ if c then [i] else [] := by
          rw [List.range_succ, List.filter_append]
          congr 1
          rw [hcc]
          by_cases q : S.ki i = 1 ∧ i ∉ al <;> simp [q]
        refine ⟨fun q => ?_, fun q => ⟨⟨_, rfl, rfl⟩, rfl, by (refine Nat.le_succ_of_le ?_; assumption), ?_⟩⟩
        · walk_at "gc"
          refine ⟨⟨_, rfl, rfl⟩, rfl, by rw [List.length_append, List.length_singleton]; (refine Nat.lt_succ_of_le ?_; assumption), ?_⟩
          rw [hfil, if_pos q]
          have := ints_append hacc (.cons (i : Int) u .nil)
          unfold asInts at *
          rw [List.map_append]; exact this
        · rw [hfil, q]; simpa using hacc
  · rintro acc H' ⟨rfl, ha, hacc⟩ dueA ndue
    rw [List.length_map, List.length_range] at ha hacc
    refine t_store F (by walk_at "gc_put") ?_
    have e4 := e3.trans (Ext.new ndue (tmp, .list acc))
    have hdue := upd_self H' dueA (tmp, Cell.list acc)
    have kO := Ext.new ndue (tmp, .list acc) _ _ hcO3
    have kW := Ext.new ndue (tmp, .list acc) _ _ hcW3
    have kA := Ext.new ndue (tmp, .list acc) _ _ hcA3
    have kT := Ext.new ndue (tmp, .list acc) _ _ hcT3
    revert e4 hdue kO kW kA kT
    generalize upd H' dueA (tmp, Cell.list acc) = H4
    intro e4 hdue kO kW kA kT
    clear hcO3 hcW3 hcA3 hcT3 e3 hal3 hthl Y3 ne ni
    have Y4 := Y.ext e4
    have hal4 := e4 _ _ hal
    have hdues : (asInts ((List.range X.W.n).filter fun i => decide (S.ki i = 1 ∧ i ∉ al))).Pairwise (· < ·) := by
      unfold asInts
      refine List.Pairwise.map _ (fun a b h => by lia) (List.Pairwise.filter _ List.pairwise_lt_range)
    have halI : (asInts al).Pairwise (· < ·) := by
      unfold asInts
      exact List.Pairwise.map _ (fun a b h => by omega) hasc
    -- what is there is what is alive
    have hobjs := Y4.wr.objs
    have hEnd := end_objs Y hr h3 hmem
    have hTold := end_told Y hr ht h3 hmem
    have wi := (Y.gd hr).wi
    have hol := nodup_le wi.nd wi.objs
    have hall : al.length ≤ 9 := by
      have : al.Nodup := hasc.imp fun {a b} q => by (refine Nat.ne_of_lt ?_; assumption)
      have := nodup_le this (n := X.W.n) fun i hi => (Y.reach.2 i ((hmem i).mp hi)).1
      lia
    have havl : av.length = al.length := by rw [hai.length]; exact List.length_map ..
    refine t_cons (t_if_ (t_opq (fun c m2 H2 => And3 (m2 = lk rNs [some (.ref X.wd), some (.ref X.W.C), some (.ref dueA)]) (c = false) (Ext H4 H2)) (fun J hJ => ?_) ?_))
    · walk_at "gc"
      refine t_compSrcF (names := ["number"]) P F [] [("order", L + 4)] (cl := [("order", L + 4)]) (by rw [he]; kernel_rfl) (by kernel_rfl) (fun p hp => by rw [List.mem_singleton] at hp; subst hp; kernel_rfl) ?_
      walk_at "gc"
      refine g_objects P Y4.wr ?_
      refine ⟨_, _, _, _, opens_keys (x := "number") R'.h hobjs, by rw [pairs_len]; lia, fun env' C Fc => okName_of Fc (by walk_at "gc_mem"), ?_⟩
      rintro H0 K ⟨ob, rfl, rfl, hcell⟩
      obtain ⟨ov, hov, hoi⟩ := Y4.env.X.o
      have hol2 : ov.length = X.W.n := by rw [hoi.length]; unfold asInts; rw [List.length_map, List.length_map, List.length_range]
      have nobj : ∀ {a : Addr} {t : Tag} {c : Cell}, H4 a = some (t, c) → t ≠ (X.W.k, 6, 0) → a ≠ X.W.objsA := fun e ne => ne_of_tag e hobjs ne
      have hov5 : upd H4 X.W.objsA ((X.W.k, 6, 0), .obj ob) X.oA = some ((X.W.k, 15, 0), .list ov) := by rw [upd_ne _ _ (nobj hov (tag_ne (by decide)))]; exact hov
      have kO5 : upd H4 X.W.objsA ((X.W.k, 6, 0), .obj ob) (L + 4) = some ((0, 1, 0), .cell (some (.ref X.oA))) := by
        rw [upd_ne _ _ (nobj kO fun q => Y.env.kpos (congrArg (fun t : Tag => t.1) q).symm)]; exact kO
      refine ⟨fun i acc H' => And3 (H' = upd H4 X.W.objsA ((X.W.k, 6, 0), .obj ob)) (acc.length ≤ i) (IntsAre acc (asInts ((σ.objs.take i).map X.nm))), ⟨rfl, Nat.le_refl _, .nil⟩, ?_, ?_, ?_⟩
      · rintro i acc H' ⟨rfl, hacl, -⟩
        exact ⟨hacl, upd_self _ _ _⟩
      · rintro C env' i acc H' vs m' Fc ⟨rfl, hacl, haccI⟩ hi hvs ⟨kk, v, u, hkv, rfl⟩
        rw [pairs_len] at hi
        obtain ⟨c1, rfl⟩ := len1 hvs
        focus
          rw [set_lk Fc.nd (show Put ["number"] [c1] "number" (some (.int kk u)) [some (.int kk u)] by walk_at "gc_put")]
          unfold Wd.pairs at hkv
          rw [List.getElem?_map, List.getElem?_eq_getElem hi] at hkv
          have hkv := Option.some.inj hkv
          have hkk : ((X.W.num σ.objs[i] : Nat) : Int) = kk := congrArg Prod.fst hkv
          subst hkk
          have hin : σ.objs[i] < X.W.n := wi.objs _ (List.getElem_mem hi)
          refine t_tests_nil ⟨fun _ => ?_, fun q => (by cases q)⟩
          walk_at "gc"
          refine t_name_cell Fc List.mem_cons_self kO5 ?_
          walk_at "gc"
          have hnx : ((X.W.num σ.objs[i] : Nat) : Int) - 1 = (σ.objs[i] : Int) := by rw [Y.env.num]; lia
          rw [hnx]
          have hlt : ((σ.objs[i] : Nat) : Int).toNat < ov.length := by rw [hol2]; assumption
          obtain ⟨to, hto⟩ := ints_at hoi _ _ (List.getElem?_eq_getElem hlt)
          refine t_item_list (v := ov[((σ.objs[i] : Nat) : Int).toNat]) hov5 (by rw [hol2]; lia) (by lia) (List.getElem?_eq_getElem hlt) ?_
          refine ⟨⟨_, rfl, rfl⟩, rfl, by rw [List.length_append, List.length_singleton]; (refine Nat.lt_succ_of_le ?_; assumption), ?_⟩
          have hget : ((asInts ((List.range X.W.n).map X.nm))[((σ.objs[i] : Nat) : Int).toNat]?).getD 0 = (X.nm σ.objs[i] : Int) := by
            rw [Int.toNat_natCast]
            unfold asInts
            rw [List.getElem?_map, List.getElem?_map, List.getElem?_range hin]; rfl
          rw [hget] at hto
          rw [hto, List.take_add_one, List.getElem?_eq_getElem hi, List.map_append]
          have := ints_append haccI (.cons (X.nm σ.objs[i] : Int) to .nil)
          unfold asInts at *
          rw [List.map_append]; exact this
      · rintro acc2 H' ⟨rfl, hacl, haccI⟩ r2 hr2
        rw [pairs_len] at hacl haccI
        rw [List.take_length] at haccI
        have er2 := Ext.new hr2 (tmp, .list acc2)
        have hro : X.W.objsA ≠ r2 := fun q => by rw [← q, upd_self] at hr2; cases hr2
        refine t_recast (d := X.W.objsA) (tg := (X.W.k, 6, 0)) (c := .obj ob) (c' := .idict (X.W.pairs σ.objs)) (er2 _ _ (upd_self _ _ _)) (fun B' g' os' s' y' => hcell B' g' os' L _ s' (y'.drop fun a x e => er2 a x e)) ?_
        have e5 : Ext H4 (upd (upd (upd H4 X.W.objsA ((X.W.k, 6, 0), .obj ob)) r2 (tmp, .list acc2)) X.W.objsA ((X.W.k, 6, 0), .idict (X.W.pairs σ.objs))) := fun a x e => by
          by_cases q : a = X.W.objsA
          · subst q; rw [upd_self, ← e, hobjs]
          · rw [upd_ne _ _ q]
            exact er2 a x (by rw [upd_ne _ _ q]; exact e)
        have hr5 : upd (upd (upd H4 X.W.objsA ((X.W.k, 6, 0), .obj ob)) r2 (tmp, .list acc2)) X.W.objsA ((X.W.k, 6, 0), .idict (X.W.pairs σ.objs)) r2 = some (tmp, .list acc2) := by rw [upd_ne _ _ hro.symm, upd_self]
        revert e5 hr5
        generalize upd (upd (upd H4 X.W.objsA ((X.W.k, 6, 0), .obj ob)) r2 (tmp, .list acc2)) X.W.objsA ((X.W.k, 6, 0), .idict (X.W.pairs σ.objs)) = H5
        intro e5 hr5
        walk_at "gc"
        refine ⟨keeps_builtin, t_sorted hr5 haccI (by lia) fun s1 sv1 sn1 ns1 hsi1 hp1 ho1 => ?_⟩
        have e6 := e5.trans (Ext.new ns1 (tmp, .list sv1))
        refine t_name_cell F mA (e6 _ _ kA) ?_
        refine t_neInts (n := n + 1) R' (upd_self _ _ _) (e6 _ _ hal4) hsi1 hai ?_
        have hs1 : sn1 = asInts al := sorted_is hp1 ho1 hEnd.1 halI hEnd.2
        rw [decide_eq_true hs1]
        revert e6
        generalize upd H5 s1 (tmp, Cell.list sv1) = H6
        intro e6
        walk_at "gc"
        refine ⟨fun q => (by cases q), fun _ => ?_⟩
        -- what was told is what was due
        have Y6 := Y4.ext e6
        obtain ⟨td6, hwd6⟩ := Y6.env.X.d
        obtain ⟨tv, htv, hti⟩ := Y6.env.X.t
        have htl : tv.length = told.length := by rw [hti.length]; unfold asInts; rw [List.length_map, List.length_map]
        have htn : told.length ≤ 9 := by
          have hnd := (Y.gd hr).nd
          rw [ht, List.append_nil] at hnd
          have := nodup_le hnd (n := X.W.n) fun i hi => (((Y.gd hr).told i).mp (List.mem_append_left _ hi)).1
          lia
        walk_at "gc"
        refine t_getitem_sdict hwd6 wd_told ?_
        walk_at "gc"
        refine ⟨keeps_builtin, t_sorted htv hti (by lia) fun s2 sv2 sn2 ns2 hsi2 hp2 ho2 => ?_⟩
        have e7 := e6.trans (Ext.new ns2 (tmp, .list sv2))
        walk_at "gc"
        refine t_neInts (n := n + 1) R' (upd_self _ _ _) (e7 _ _ hdue) hsi2 hacc ?_
        have hs2 : sn2 = asInts ((List.range X.W.n).filter fun i => decide (S.ki i = 1 ∧ i ∉ al)) := sorted_is hp2 ho2 hTold.1 hdues (by rw [hN]; exact hTold.2)
        rw [decide_eq_true hs2]
        walk_at "gc"
        refine ⟨fun q => (by cases q), fun _ => ?_⟩
        walk_at "gc"
        exact hJ _ _ _ ⟨rfl, rfl, e7⟩
    · rintro c m2 H7 ⟨rfl, rfl, e7⟩
      refine ⟨fun q => (by cases q), fun _ => t_nil ?_⟩
      have Y7 := Y4.ext e7
      refine t_cons (t_ret ?_)
      walk_at "gc"
      refine g_total P Y7.wr fun _ => ?_
      walk_at "gc"
      refine t_compListF P F R'.h [] [("things", L + 1), ("which", L + 3)] (cl := [("which", L + 3), ("things", L + 1)]) (by rw [he]; kernel_rfl) (by kernel_rfl) (fun p hp => by
        rcases List.mem_cons.mp hp with rfl | hp
        · kernel_rfl
        · rw [List.mem_singleton] at hp; subst hp; kernel_rfl) ?_
      refine t_name_cell F mA (e7 _ _ kA) ?_
      have hal7 := e7 _ _ hal4
      refine ⟨alA, av, fun i acc H' => And3 (H' = H7) (acc.length = i) (IntsAre acc ((al.take i).map fun x => if b then S.s1 x else S.s0 x)), rfl, by lia, ⟨rfl, rfl, .nil⟩, ?_, ?_, ?_⟩
      · rintro i acc H' ⟨rfl, hacl, -⟩
        exact ⟨hacl, _, hal7⟩
      · rintro J C env' i acc hJ H' v Fc ⟨rfl, hacl, haccI⟩ hv
        obtain ⟨tv, rfl⟩ := ints_at hai i v hv
        have hil : i < al.length := by have := (List.getElem?_eq_some_iff.mp hv).1; lia
        have hval : ((asInts al)[i]?).getD 0 = (al[i] : Int) := by
          unfold asInts; rw [List.getElem?_map, List.getElem?_eq_getElem hil]; rfl
        rw [hval]
        have hxn : al[i] < X.W.n := (Y.reach.2 _ ((hmem _).mp (List.getElem_mem hil))).1
        obtain ⟨u0, u1, u2, u3, hth⟩ := Y7.env.T.t _ hxn
        walk_at "gc"
        refine t_name_cell Fc List.mem_cons_self (e7 _ _ kT) ?_
        walk_at "gc"
        refine t_item_list (v := .ref (S.tA al[i])) Y7.env.T.l (by rw [List.length_map, List.length_range]; lia) (by lia) (by
          rw [Int.toNat_natCast, List.getElem?_map, List.getElem?_range hxn]; rfl) ?_
        walk_at "gc"
        refine t_name_cell Fc (List.mem_cons_of_mem _ List.mem_cons_self) (e7 _ _ kW) ?_
        walk_at "gc"
        refine t_item_tuple (v := .int (if b then S.s1 al[i] else S.s0 al[i]) (if b then u3 else u2)) hth (by cases b <;> decide) (by cases b <;> decide) (by cases b <;> rfl) ?_
        refine ⟨rfl, hJ _ _ ⟨rfl, by simp [hacl], ?_⟩⟩
        rw [List.take_add_one, List.getElem?_eq_getElem hil, List.map_append]
        exact ints_append haccI (.cons _ _ .nil)
      · rintro acc2 H' ⟨rfl, hacl, haccI⟩ r2 hr2
        have e8 := e7.trans (Ext.new hr2 (tmp, .list acc2))
        rw [havl, List.take_length] at haccI
        walk_at "gc"
        refine ⟨keeps_builtin, t_sum R'.h (upd_self _ _ _) haccI fun _ => ?_⟩
        walk_at "gc"
        have hsum : σ.total = (al.map fun x => if b then S.s1 x else S.s0 x).sum := by
          rw [wi.total]
          have h1 : σ.objs.map X.W.size = (σ.objs.map X.nm).map fun x => if b then S.s1 x else S.s0 x := by
            rw [List.map_map]
            exact List.map_congr_left fun i hi => hsz i (wi.objs i hi)
          rw [h1]
          have hperm : (asInts (σ.objs.map X.nm)).Perm (asInts al) := by
            have nd2 : (asInts al).Nodup := halI.imp fun {a b} q => by (refine Int.ne_of_lt ?_; assumption)
            exact (List.perm_ext_iff_of_nodup hEnd.1 nd2).mpr hEnd.2
          have key : ∀ l : List Nat, l.map (fun x => if b then S.s1 x else S.s0 x) = (asInts l).map fun x => if b then S.s1 x.toNat else S.s0 x.toNat := fun l => by
            unfold asInts
            rw [List.map_map]
            exact List.map_congr_left fun x _ => by show _ = (if b then S.s1 ((x : Int)).toNat else S.s0 ((x : Int)).toNat); rw [Int.toNat_natCast]
          rw [key, key]
          exact sum_perm (hperm.map _)
        rw [hsum, beq_self_eq_true]
        exact h _ (e4.trans e8)
end

/-! part M32 -/
section
variable {w : World} {hT : Heap} {A : Around} {L : Addr} {m : Loc} {H : LH} {n : Nat}
theorem CellAt.get {prog : Program} {h : Heap} {a : Addr} {c : Cell} (x : CellAt prog w h a c) : ∃ o, h.get? a = some o := by
  cases c with
  | ns i m => obtain ⟨o, _, _, ho, _⟩ := x; exact ⟨o, ho⟩
  | inst C d => exact ⟨_, x⟩
  | list vs => obtain ⟨n, ho⟩ := x; exact ⟨_, ho⟩
  | idict kvs => obtain ⟨_, o, es, ep, ho, r⟩ := x; exact ⟨o, ho⟩
  | sdict kvs => obtain ⟨_, o, es, ep, ho, r⟩ := x; exact ⟨o, ho⟩
  | obj o => exact ⟨o, x⟩
  | cell v => obtain ⟨o, ho, r⟩ := x; exact ⟨o, ho⟩
/-- a call sees only a part of what is known -/
theorem c_frame {prog : Program} {f : Value} {args : Args} {H0 : LH} {Q : Value → LH → Prop} (h0 : ∀ a x, H0 a = some x → H a = some x)
    (h : C prog w hT A f args H0 fun v H0' => ∀ H', (∀ a x, H0' a = some x → H' a = some x) → (∀ a x, H a = some x → H0 a = none → H' a = some x) → Q v H') : C prog w hT A f args H Q := fun B g os s x => by
  have y : Rp prog w hT (fun a o => B a o ∨ (H0 a = none ∧ H a ≠ none ∧ s.heap.get? a = some o)) g os H0 s := by
    refine ⟨fun a t c e => x.rep a t c (h0 _ _ e), fun a o e => .inl (x.top a o e), fun a o e => e.elim (x.keep a o) fun q => q.2.2, fun a z o e q => ?_, x.gens, x.os⟩
    rcases q with q | q
    · exact x.dis a z o (h0 _ _ e) q
    · rw [q.1] at e; cases e
  refine codeAny_mono (h _ g os s y) ?_
  rintro r s' ⟨v, H0', rfl, y', q⟩
  refine ⟨v, fun a => match H0' a with | some x => some x | none => if H0 a = none then H a else none, rfl, ?_, q _ (fun a z e => ?_) fun a z e e0 => ?_⟩
  · refine ⟨fun a t c e => ?_, fun a o e => x.top a o e, fun a o e => y'.keep a o (.inl e), fun a z o e q => ?_, y'.gens, y'.os⟩
    · cases e1 : H0' a with
      | some z =>
        rw [e1] at e
        exact y'.rep a t c (by rw [e1]; exact e)
      | none =>
        rw [e1] at e
        dsimp only at e
        by_cases q : H0 a = none
        · rw [if_pos q] at e
          exact (x.rep a t c e).keep fun o ho => y'.keep a o (.inr ⟨q, by rw [e]; exact fun z => (by cases z), ho⟩)
        · rw [if_neg q] at e; cases e
    · cases e1 : H0' a with
      | some z' => exact y'.dis a z' o e1 (.inl q)
      | none =>
        rw [e1] at e
        dsimp only at e
        by_cases q0 : H0 a = none
        · rw [if_pos q0] at e; exact x.dis a z o e q
        · rw [if_neg q0] at e; cases e
  · show (match H0' a with | some x => some x | none => _) = _
    rw [e]
  · show (match H0' a with | some x => some x | none => _) = _
    cases e1 : H0' a with
    | none =>
      show (if H0 a = none then H a else none) = some z
      rw [if_pos e0]; exact e
    | some z' => 
      exfalso
      obtain ⟨o, ho⟩ := (x.rep a z.1 z.2 e).get
      exact y'.dis a z' o e1 (.inr ⟨e0, by rw [e]; exact fun z => (by cases z), ho⟩)
/-- _law_heap, with no word of the other tags -/
theorem c_heap2 (P : Tp (KK w) hT) (Zq : Tq hT 457 453) (R : Room (n + 8) A) {oA thA eA : Addr} {b : Bool} {tw : Tok} {k N : Nat} {ov : List Value} {tA : Nat → Addr} {nm ps : Nat → Nat} {so ki s0 s1 : Nat → Int} {Q : Value → LH → Prop} (hTb : Tab H 453 FLs) (kp : k ≠ 0)
    (ho : H oA = some ((k, 15, 0), .list ov)) (hoi : IntsAre ov (asInts ((List.range N).map nm))) (T0 : Th H N thA tA so ki s0 s1) (n9 : N ≤ 9) (np : ∀ i < N, nm i < N ∧ ps (nm i) = i) (pn : ∀ i < N, ps i < N ∧ nm (ps i) = i)
    (h : ∀ H' W σ c wd aA taA, Born w H H' W σ c k N b wd oA eA thA aA taA nm ps so ki s0 s1 → Q (.ref wd) H') :
    C PG w hT A (.ref 458) ⟨[.ref oA, .ref thA, .ref eA, .int (if b then 1 else 0) tw], []⟩ H Q := by
  obtain ⟨H0, hH0⟩ : ∃ H0 : LH, ∀ a, H0 a = (match H a with | some x => if x.1.1 = 0 ∨ a = oA then some x else none | none => none) := ⟨_, fun a => rfl⟩
  have sub : ∀ a x, H0 a = some x → H a = some x ∧ (x.1.1 = 0 ∨ a = oA) := fun a x e => by
    rw [hH0] at e
    cases q : H a with
    | none => rw [q] at e; cases e
    | some y =>
      rw [q] at e
      dsimp only at e
      by_cases z : y.1.1 = 0 ∨ a = oA
      · rw [if_pos z] at e; cases e; exact ⟨rfl, z⟩
      · rw [if_neg z] at e; cases e
  have inn : ∀ a x, H a = some x → (x.1.1 = 0 ∨ a = oA) → H0 a = some x := fun a x e z => by
    rw [hH0, e]
    exact if_pos z
  have out : ∀ a x, H a = some x → ¬ (x.1.1 = 0 ∨ a = oA) → H0 a = none := fun a x e z => by
    rw [hH0, e]
    exact if_neg z
  refine c_frame (H0 := H0) (fun a x e => (sub a x e).1) ?_
  refine c_heap P Zq R (tA := tA) (ps := ps) (so := so) (ki := ki) (s0 := s0) (s1 := s1) (hTb.mono fun a t x e ht => inn _ _ e (.inl (by rcases ht with rfl | rfl <;> rfl))) kp (fun a t c e q => ?_) (inn _ _ ho (.inr rfl)) hoi (T0.keep fun a t x e ht => inn _ _ e (.inl ht.1)) n9 np pn ?_
  · obtain ⟨e1, e2⟩ := sub _ _ e
    rcases e2 with e2 | rfl
    · exact absurd (q.symm.trans e2) kp
    · rw [ho] at e1; cases e1; rfl
  intro H0' W σ c wd aA taA Bn H' k1 k2
  refine h H' W σ c wd aA taA ⟨Bn.k, Bn.n, Bn.rev, Bn.num, Bn.sort, Bn.kind, Bn.size, Bn.wr.ext k1, Bn.lw.frame (Frame.ext k1), Bn.fns.keep fun a t x e _ => k1 _ _ e, Bn.ini, fun a x e ne => ?_, Bn.tab.mono fun a t x e _ => k1 _ _ e⟩
  by_cases z : x.1.1 = 0 ∨ a = oA
  · exact k1 _ _ (Bn.keep a x (inn a x e z) ne)
  · exact k2 a x e (out a x e z)
end
theorem wh_bd {n : Nat} {f : Nat → Int} : wh n f ≤ n := by
  induction n with
  | zero => exact Nat.le_refl _
  | succ n ih => unfold wh; split <;> lia
theorem Good.ini {W : Wd} {E : Nat → List Nat} {N : Nat} {g a wk s d t r : Addr} {rl : List Nat} (hN : W.n = N) (hE : ∀ i, ∀ j ∈ E i, j < N) (hk : ∀ i < N, 0 ≤ W.kind i) (hr : ∀ i ∈ rl, i < N) : Good W E [] { iniS W N g a wk s d t r with rootl := rl } := by
  have hlive : ∀ i, Reach E rl i → i < N := fun i h => by
    induction h with
    | root h => exact hr _ h
    | edge _ h _ => exact hE _ _ h
  have hm : ∀ i, (iniS W N g a wk s d t r).mark i = if i < N then 0 else 4 := fun i => rfl
  have hph : (iniS W N g a wk s d t r).phase = 0 := rfl
  refine ⟨⟨⟨fun i h => (by cases h), fun i h => (by cases h)⟩, .inl rfl, fun e => absurd (show (0 : Int) = 1 from e) (by decide), Nat.zero_le _, fun i hi => by rw [hN]; exact hr i hi, fun i hi => ?_, fun i hi => (by cases hi), ?_, fun i hi => ?_, List.nodup_range, ⟨fun i hi => (by cases hi), List.nodup_nil⟩, rfl⟩, .inl rfl, fun i => ?_, fun i => ?_, fun i hi q => ?_, fun _ i => ?_, fun e => absurd (show (0 : Int) = 1 from e) (by decide), fun e => absurd (show (0 : Int) = 2 from e) (by decide), fun i hi => (by cases hi), fun i q => (by cases q), fun i hi _ q => ?_, fun i hi hki _ => ?_, ?_, .nil, List.nodup_nil, fun i => ⟨fun h => (by cases h), fun h => (by cases h.2.2)⟩⟩
  · rw [hN]; exact List.mem_range.mp (List.mem_filter.mp hi).1
  · show ((List.range N).filter _).length + 0 ≤ W.n
    have := List.length_filter_le (fun i => decide (0 < W.kind i)) (List.range N)
    rw [List.length_range] at this; lia
  · rw [hN]; exact List.mem_range.mp hi
  · show i ∈ List.range N ↔ (if i < N then (0 : Int) else 4) ≠ 4
    rw [List.mem_range]
    split
    · rename_i q; exact ⟨fun _ => by decide, fun _ => q⟩
    · rename_i q; exact ⟨fun z => absurd z q, fun z => absurd rfl z⟩
  · show (if i < N then (0 : Int) else 4) = 4 ∨ _ ∨ _ ∨ (if i < N then (0 : Int) else 4) = 0 ∨ _
    split
    · exact .inr (.inr (.inr (.inl rfl)))
    · exact .inl rfl
  · have := hlive i hi
    rcases q with q | q
    · have q : (if i < N then (0 : Int) else 4) = 4 := q
      rw [if_pos this] at q; cases q
    · exact absurd (show (0 : Int) = 2 from q.1) (by decide)
  · show (if i < N then (0 : Int) else 4) = 4 ∨ (if i < N then (0 : Int) else 4) = 0
    split
    · exact .inr rfl
    · exact .inl rfl
  · rcases q with q | q
    · have q : (if i < N then (0 : Int) else 4) = 4 := q
      rw [if_pos (by lia)] at q; cases q
    · exact absurd (show (0 : Int) = 2 from q.1) (by decide)
  · refine List.mem_filter.mpr ⟨List.mem_range.mpr (by lia), decide_eq_true ?_⟩
    have := hk i (by omega); lia
  · exact (List.Pairwise.filter _ List.pairwise_lt_range).imp fun {a b} h _ _ => h
theorem Born.world1 {w : World} {H H1 H' : LH} {W : Wd} {σ : Sg} {c : Sees} {j N : Nat} {b : Bool} {wd oA eA thA aA taA rA : Addr} {nm ps : Nat → Nat} {so ki s0 s1 : Nat → Int} {tA eL : Nat → Addr} {ed : Nat → List Nat} {ro : List Nat}
    (B : Born w H H' W σ c (j + 1) N b wd oA eA thA aA taA nm ps so ki s0 s1) (G : Gr H' N eA rA eL ed ro) (T : Th H' N thA tA so ki s0 s1) (hso : ∀ i < N, so i = 0 ∨ so i = 1 ∨ so i = 3) (hki : ∀ i < N, 0 ≤ ki i) (h0 : ∀ i < N, 1 ≤ s0 i ∧ s0 i ≤ 40) (h1 : ∀ i < N, 1 ≤ s1 i ∧ s1 i ≤ 40) :
    World1 w H' ⟨N, eA, rA, thA, eL, tA, so, ki, s0, s1⟩ ⟨W, c, wd, oA, aA, nm, ps⟩ j ed ro σ taA [] ∧ (∀ i < W.n, W.size i = if b then s1 (nm i) else s0 (nm i)) ∧ σ.phase = 0 ∧ σ.tofin = [] := by
  have hN := B.n
  have np := B.lw.np
  have pn := B.lw.pn
  have hsz : ∀ i < W.n, W.size i = if b then s1 (nm i) else s0 (nm i) := fun i _ => by rw [B.size]
  obtain ⟨g, a, wk, s, d, t, r, hσ⟩ := B.ini
  refine ⟨⟨⟨⟨by
    show LW H' W wd oA aA taA nm ps ([].map nm)
    exact B.lw, B.fns, by rw [hN]; exact G, by rw [hN]; exact T, by rw [B.k]; lia, by rw [hN]; exact G.n9, B.num, fun i _ => by rw [B.sort], fun i _ => by rw [B.kind], fun i hi => hso i (by have hi : i < W.n := hi; lia), fun i hi => ?_⟩, B.wr, B.k, hN⟩, ?_⟩, hsz, by rw [hσ]; rfl, by rw [hσ]; rfl⟩
  · rw [hsz i hi]
    have := (np i hi).1
    cases b
    · exact h0 _ (by lia)
    · exact h1 _ (by omega)
  · rw [hσ]
    refine Good.ini hN (fun i x hx => ?_) (fun i hi => ?_) fun i hi => ?_
    · obtain ⟨hi, y, hy, rfl⟩ := mem_kids.mp hx
      have hi : i < W.n := hi
      have := G.eb (nm i) (Nat.lt_of_lt_of_eq (np i hi).1 hN) y hy
      have := (pn y (by lia)).1
      show ps y < N
      lia
    · rw [B.kind]; exact hki _ (by have := (np i (by lia)).1; lia)
    · obtain ⟨y, hy, rfl⟩ := mem_roots.mp hi
      have := G.rb y hy
      have := (pn y (by omega)).1
      show ps y < N
      lia

/-! part M33 -/
/-! the law itself: how the heaps' graph is told -/
noncomputable abbrev wNs : List Str := ["script", "things", "edges", "name", "sort", "roots", "left", "order", "worlds", "here", "there", "turn", "step", "alive"]
noncomputable abbrev wGs : List (Str × Value) := [("_law_told", .ref 451), ("range", .type "range"), ("SORT_PLAIN", .int 0 206), ("SORT_LEAF", .int 1 208), ("SORT_AGAIN", .int 3 212), ("list", .type "list"), ("len", .builtin "len"), ("_law_heap", .ref 458), ("_law_done", .ref 482), ("_law_drained", .ref 475), ("_law_reached", .ref 465), ("_law_cycles", .ref 489), ("_law_end_right", .ref 494)]
noncomputable abbrev wFs (L : Addr) : List (Str × Addr) := [("many", L + 2), ("bag", L + 1)]
noncomputable abbrev wSt (w : World) (k : Nat) : List Stmt := (bodyOf (fdOf (KK w) 499)).drop k
noncomputable abbrev wEnv (w : World) (L fa : Addr) (cd : Value) : Env := envOfC "law" (fdOf (KK w) 499).scope L fa cd
/-- all stays but the bag -/
noncomputable def Told (H H' : LH) : Prop := ∀ a t c, H a = some (t, c) → t ≠ (0, 2, 0) → H' a = some (t, c)
theorem Told.refl (H : LH) : Told H H := fun _ _ _ e _ => e
theorem Told.ext {H H' : LH} (h : Ext H H') : Told H H' := fun a t c e _ => h a _ e
theorem Told.trans {H H' H'' : LH} (a : Told H H') (b : Told H' H'') : Told H H'' := fun x t c e h => b x t c (a x t c e h) h
theorem upd_tag {H : LH} {a : Addr} {g : Tag} {c0 : Cell} {x : Tag × Cell} (h : H a = some (g, c0)) {b : Addr} {t : Tag} {c : Cell} (e : H b = some (t, c)) (ne : t ≠ g) : upd H a x b = some (t, c) := by
  rw [upd_ne _ _ (ne_of_tag e h ne)]; exact e
structure Lb (H : LH) (L bagA lA : Addr) (N : Nat) (tN : Tok) (k : Int) : Prop where
  bag : Bag H bagA lA k
  cB : H (L + 1) = some ((0, 1, 0), .cell (some (.ref bagA)))
  cM : H (L + 2) = some ((0, 1, 0), .cell (some (.int (N : Int) tN)))
  tab : Tab H 453 FLs
section
variable {H H' : LH} {L bagA lA thA eA : Addr} {N i : Nat} {tN : Tok} {k k' : Int} {tA eL : Nat → Addr} {so ki s0 s1 : Nat → Int} {ed : Nat → List Nat}
theorem Lb.keep (X : Lb H L bagA lA N tN k) (h : ∀ a t c, H a = some (t, c) → t.1 = 0 ∧ (t.2.1 = 1 ∨ t.2.1 = 2 ∨ t.2.1 = 3 ∨ t.2.1 = 7 ∨ t.2.1 = 8) → H' a = some (t, c)) : Lb H' L bagA lA N tN k :=
  ⟨X.bag.keep fun a t c e ht => h _ _ _ e (by rcases ht with rfl | rfl <;> simp), h _ _ _ X.cB (by simp), h _ _ _ X.cM (by simp), X.tab.mono fun a t c e ht => h _ _ _ e (by rcases ht with rfl | rfl <;> simp)⟩
theorem Lb.ext (X : Lb H L bagA lA N tN k) (h : Ext H H') : Lb H' L bagA lA N tN k := X.keep fun a t c e _ => h _ _ e
theorem Lb.le (X : Lb H L bagA lA N tN k) (h : k ≤ k') : Lb H L bagA lA N tN k' :=
  ⟨⟨let ⟨a, t, h1, h2, h3⟩ := X.bag.d; ⟨a, t, h1, by lia, h3⟩, X.bag.l⟩, X.cB, X.cM, X.tab⟩
theorem Lb.told (X : Lb H L bagA lA N tN k) (B : Bag H' bagA lA k') (h : Keep1 bagA H H') : Lb H' L bagA lA N tN k' ∧ Told H H' := by
  obtain ⟨a, t, h1, h2, h3⟩ := X.bag.d
  have T0 : Told H H' := fun b t c e ne => h _ _ e (ne_of_tag e h3 ne)
  exact ⟨⟨B, T0 _ _ _ X.cB (tag_ne (by decide)), T0 _ _ _ X.cM (tag_ne (by decide)), X.tab.mono fun a t c e ht => T0 _ _ _ e (by rcases ht with rfl | rfl <;> exact tag_ne (by decide))⟩, T0⟩
theorem b_told {w : World} {hT : Heap} {A : Around} {m : Loc} {n : Nat} (P : Tp (KK w) hT) (R : Room (n + 1) A) {many : Int} {t : Tok} {Q : Value → Loc → LH → Prop} (X : Lb H L bagA lA N tN k) (hk : k ≤ 100000) (hm : 0 < many)
    (h : ∀ H' (r : Nat) u, (r : Int) < many → Lb H' L bagA lA N tN (k + 1) → Told H H' → Q (.int (r : Int) u) m H') : Keeps (PG : Program) w hT H (.ref 451) ∧ T PG w hT A L (call (.ref 451) [.ref bagA, .int many t]) m H Q :=
  ⟨keeps_top P (by kernel_rfl), t_call (c_told P R X.bag hk hm fun H' r u h0 h1 B' K => by
    obtain ⟨r', rfl⟩ := Int.eq_ofNat_of_zero_le h0
    have := X.told B' K
    exact h H' r' u h1 this.1 this.2)⟩
theorem Th.push (T0 : Th H i thA tA so ki s0 s1) {tp : Addr} {a b c d : Int} {u0 u1 u2 u3 : Tok} (htp : H tp = some ((0, 10, i), .obj (tupObj [.int a u0, .int b u1, .int c u2, .int d u3]))) :
    Th (upd H thA ((0, 9, 0), .list ((List.range i).map (fun i => Value.ref (tA i)) ++ [.ref tp]))) (i + 1) thA (setM tA i tp) (setM so i a) (setM ki i b) (setM s0 i c) (setM s1 i d) := by
  refine ⟨?_, fun j hj => ?_⟩
  · rw [upd_self, List.range_succ, List.map_append]
    have : (List.range i).map (fun j => Value.ref (tA j)) = (List.range i).map (fun j => Value.ref (setM tA i tp j)) := List.map_congr_left fun j hj => by
      rw [setM_ne _ _ (by have := List.mem_range.mp hj; (refine Nat.ne_of_lt ?_; assumption))]
    rw [this]
    simp [setM_self]
  · by_cases q : j = i
    · subst q
      simp only [setM_self]
      exact ⟨u0, u1, u2, u3, upd_tag T0.l htp (tag_ne (by decide))⟩
    · simp only [setM_ne _ _ q]
      obtain ⟨v0, v1, v2, v3, e⟩ := T0.t j (by lia)
      exact ⟨v0, v1, v2, v3, upd_tag T0.l e (tag_ne (by decide))⟩
/-- the edges as they are told -/
structure Eg (H : LH) (i N : Nat) (eA : Addr) (eL : Nat → Addr) (ed : Nat → List Nat) : Prop where
  e : H eA = some ((0, 4, 0), .list ((List.range i).map fun i => .ref (eL i)))
  el : ∀ j < i, ∃ vs, H (eL j) = some ((0, 5, j), .list vs) ∧ IntsAre vs (asInts (ed j)) ∧ vs.length ≤ 2
  eb : ∀ j < i, ∀ x ∈ ed j, x < N
theorem Eg.keep (X : Eg H i N eA eL ed) (h : ∀ a t c, H a = some (t, c) → t.1 = 0 ∧ (t.2.1 = 4 ∨ t.2.1 = 5) → H' a = some (t, c)) : Eg H' i N eA eL ed :=
  ⟨h _ _ _ X.e (by simp), fun j hj => let ⟨vs, e, z⟩ := X.el j hj; ⟨vs, h _ _ _ e (by simp), z⟩, X.eb⟩
theorem Eg.push (X : Eg H i N eA eL ed) {lp : Addr} {vs : List Value} {l : List Nat} (hl : H lp = some ((0, 5, i), .list vs)) (hi : IntsAre vs (asInts l)) (hz : vs.length ≤ 2) (hb : ∀ x ∈ l, x < N) :
    Eg (upd H eA ((0, 4, 0), .list ((List.range i).map (fun i => Value.ref (eL i)) ++ [.ref lp]))) (i + 1) N eA (setM eL i lp) (setM ed i l) := by
  refine ⟨?_, fun j hj => ?_, fun j hj => ?_⟩
  · rw [upd_self, List.range_succ, List.map_append]
    have : (List.range i).map (fun j => Value.ref (eL j)) = (List.range i).map (fun j => Value.ref (setM eL i lp j)) := List.map_congr_left fun j hj => by
      rw [setM_ne _ _ (by have := List.mem_range.mp hj; (refine Nat.ne_of_lt ?_; assumption))]
    rw [this]
    simp [setM_self]
  · by_cases q : j = i
    · subst q
      simp only [setM_self]
      exact ⟨vs, upd_tag X.e hl (tag_ne (by decide)), hi, hz⟩
    · simp only [setM_ne _ _ q]
      obtain ⟨us, e, z⟩ := X.el j (by lia)
      exact ⟨us, upd_tag X.e e (tag_ne (by decide)), z⟩
  · by_cases q : j = i
    · subst q
      rw [setM_self]; exact hb
    · rw [setM_ne _ _ q]; exact X.eb j (by omega)
/-- what is told of a thing -/
noncomputable def ThOk (i : Nat) (so ki s0 s1 : Nat → Int) : Prop := ∀ j < i, (so j = 0 ∨ so j = 1 ∨ so j = 3) ∧ 0 ≤ ki j ∧ (1 ≤ s0 j ∧ s0 j ≤ 40) ∧ (1 ≤ s1 j ∧ s1 j ≤ 40)
theorem ThOk.push (h : ThOk i so ki s0 s1) {a b c d : Int} (h1 : a = 0 ∨ a = 1 ∨ a = 3) (h2 : 0 ≤ b) (h3 : 1 ≤ c ∧ c ≤ 40) (h4 : 1 ≤ d ∧ d ≤ 40) : ThOk (i + 1) (setM so i a) (setM ki i b) (setM s0 i c) (setM s1 i d) := fun j hj => by
  by_cases q : j = i
  · subst q; simp only [setM_self]; exact ⟨h1, h2, h3, h4⟩
  · simp only [setM_ne _ _ q]; exact h j (by lia)
/-- the law's state while the graph is told -/
structure LA (H : LH) (L bagA lA : Addr) (N : Nat) (tN : Tok) (k : Int) (i i2 : Nat) (thA eA : Addr) (tA : Nat → Addr) (so ki s0 s1 : Nat → Int) (eL : Nat → Addr) (ed : Nat → List Nat) : Prop where
  lb : Lb H L bagA lA N tN k
  th : Th H i thA tA so ki s0 s1
  eg : Eg H i2 N eA eL ed
theorem LA.ext {i2 : Nat} (X : LA H L bagA lA N tN k i i2 thA eA tA so ki s0 s1 eL ed) (h : Ext H H') : LA H' L bagA lA N tN k i i2 thA eA tA so ki s0 s1 eL ed :=
  ⟨X.lb.ext h, X.th.keep fun a t x e _ => h _ _ e, X.eg.keep fun a t x e _ => h _ _ e⟩
theorem LA.told {i2 : Nat} (X : LA H L bagA lA N tN k i i2 thA eA tA so ki s0 s1 eL ed) (B : Lb H' L bagA lA N tN k') (h : Told H H') : LA H' L bagA lA N tN k' i i2 thA eA tA so ki s0 s1 eL ed :=
  ⟨B, X.th.keep fun a t x e ht => h _ _ _ e fun q => by subst q; exact absurd ht.2 (by decide), X.eg.keep fun a t x e ht => h _ _ _ e fun q => by subst q; exact absurd ht.2 (by decide)⟩
theorem a_told {w : World} {hT : Heap} {A : Around} {m : Loc} {n i2 : Nat} (P : Tp (KK w) hT) (R : Room (n + 1) A) {many : Int} {t : Tok} {Q : Value → Loc → LH → Prop} (X : LA H L bagA lA N tN k i i2 thA eA tA so ki s0 s1 eL ed) (hk : k ≤ 100000) (hm : 0 < many)
    (h : ∀ H' (r : Nat) u, (r : Int) < many → LA H' L bagA lA N tN (k + 1) i i2 thA eA tA so ki s0 s1 eL ed → Told H H' → Q (.int (r : Int) u) m H') {L' : Addr} : Keeps (PG : Program) w hT H (.ref 451) ∧ T PG w hT A L' (call (.ref 451) [.ref bagA, .int many t]) m H Q :=
  ⟨keeps_top P (by kernel_rfl), t_call (c_told P R X.lb.bag hk hm fun H' r u h0 h1 B' K => by
    obtain ⟨r', rfl⟩ := Int.eq_ofNat_of_zero_le h0
    have := X.lb.told B' K
    exact h H' r' u h1 (X.told this.1 this.2) this.2)⟩
noncomputable def pick3 (a b c : Int) (r : Nat) : Int := if r = 0 then a else if r = 1 then b else c
theorem pick3_at {a b c : Int} {ta tb tc : Tok} {r : Nat} (h : (r : Int) < 3) : ∃ t, [Value.int a ta, .int b tb, .int c tc][((r : Nat) : Int).toNat]? = some (.int (pick3 a b c r) t) := by
  rw [Int.toNat_natCast]
  match r, h with
  | 0, _ => exact ⟨ta, rfl⟩
  | 1, _ => exact ⟨tb, rfl⟩
  | 2, _ => exact ⟨tc, rfl⟩
  | r + 3, h => contradiction
/-- a list of the whole top heap is cut -/
theorem t_item_sliceT {prog : Program} {w : World} {hT : Heap} {A : Around} {L : Addr} {m : Loc} {H : LH} {value slice : Expr} {l q : Addr} {t' : Tag} {vs : List Value} {va vb vc : Value} {lo hi st : Option Int} {ops : List Value} {Q : Value → Loc → LH → Prop} (hl : hT.IsList l vs.toArray) (hq : H q = some (t', .obj (sliceObj va vb vc)))
    (pl : IsPart va lo) (pu : IsPart vb hi) (ps : IsPart vc st) (h0 : st ≠ some 0) (hz : vs.length ≤ 1000)
    (h : ∀ r, H r = none → Q (.ref r) m (upd H r (tmp, .list (slicePick vs.toArray lo hi st).toList)))
    (hs : subscripted slice false (.ref l) (.ref q) = operate ops (getItem (.ref l) (.ref q)) := by with_unfolding_all rfl) : T prog w hT A L (subscriptTail value slice (.ref l) (.ref q)) m H Q := fun B g os s y => by
  have hL : s.heap.IsList l vs.toArray := let ⟨o, e, r⟩ := hl; ⟨o, y.rp.keep _ _ (y.rp.top _ _ e), r⟩
  refine tail_any hL.typeIs slot_list_getitem.lookup (wpAny_getItem_list_slice hL ⟨_, y.rp.rep _ _ _ hq, rfl, rfl⟩ pl pu ps h0 ?_ (by rw [List.size_toArray, sizeLine_eq]; lia)) hs
  refine ⟨m, _, y.new (c := .list (slicePick vs.toArray lo hi st).toList) (t := tmp) (get?_size _) (fun b o e => Heap.get?_push_of_some _ e) ⟨0, ?_⟩ rfl rfl, h _ (y.rp.fresh (get?_size _)).1⟩
  exact Heap.get?_push_size _ rfl
end

/-! part M34 -/
section
variable {w : World} {hT : Heap} {A : Around} {L : Addr} {m : Loc} {H : LH} {n : Nat}
theorem pick3_cases {a b c : Int} {r : Nat} : pick3 a b c r = a ∨ pick3 a b c r = b ∨ pick3 a b c r = c := by
  unfold pick3
  by_cases h : r = 0
  · rw [if_pos h]; exact .inl rfl
  · rw [if_neg h]
    by_cases h : r = 1
    · rw [if_pos h]; exact .inr (.inl rfl)
    · rw [if_neg h]; exact .inr (.inr rfl)
theorem strs2 : ([("all" : Str), "at"]).Nodup := by decide +kernel
theorem LA.pushT {H : LH} {L bagA lA thA eA : Addr} {N i i2 : Nat} {tN : Tok} {k : Int} {tA eL : Nat → Addr} {so ki s0 s1 : Nat → Int} {ed : Nat → List Nat} (X : LA H L bagA lA N tN k i i2 thA eA tA so ki s0 s1 eL ed) {tp : Addr} {a b c d : Int} {u0 u1 u2 u3 : Tok} (htp : H tp = some ((0, 10, i), .obj (tupObj [.int a u0, .int b u1, .int c u2, .int d u3]))) :
    LA (upd H thA ((0, 9, 0), .list ((List.range i).map (fun i => Value.ref (tA i)) ++ [.ref tp]))) L bagA lA N tN k (i + 1) i2 thA eA (setM tA i tp) (setM so i a) (setM ki i b) (setM s0 i c) (setM s1 i d) eL ed :=
  ⟨X.lb.keep fun a t c e ht => upd_tag X.th.l e fun q => by subst q; exact absurd ht.2 (by decide), X.th.push htp, X.eg.keep fun a t c e ht => upd_tag X.th.l e fun q => by subst q; exact absurd ht.2 (by decide)⟩
theorem LA.pushE {H : LH} {L bagA lA thA eA : Addr} {N i i2 : Nat} {tN : Tok} {k : Int} {tA eL : Nat → Addr} {so ki s0 s1 : Nat → Int} {ed : Nat → List Nat} (X : LA H L bagA lA N tN k i i2 thA eA tA so ki s0 s1 eL ed) {lp : Addr} {vs : List Value} {l : List Nat} (hl : H lp = some ((0, 5, i2), .list vs)) (hi : IntsAre vs (asInts l)) (hz : vs.length ≤ 2) (hb : ∀ x ∈ l, x < N) :
    LA (upd H eA ((0, 4, 0), .list ((List.range i2).map (fun i => Value.ref (eL i)) ++ [.ref lp]))) L bagA lA N tN k i (i2 + 1) thA eA tA so ki s0 s1 (setM eL i2 lp) (setM ed i2 l) :=
  ⟨X.lb.keep fun a t c e ht => upd_tag X.eg.e e fun q => by subst q; exact absurd ht.2 (by decide), X.th.keep fun a t c e ht => upd_tag X.eg.e e fun q => by subst q; exact absurd ht.2 (by decide), X.eg.push hl hi hz hb⟩
theorem law_A {env : Env} {Q : Flow → Loc → LH → Prop} (P : Tp (KK w) hT) {fa : Addr} {cd : Value} (he : env = wEnv w L fa cd) (F : FnE hT env L wNs wGs (wFs L)) (R : Room (n + 9) A) {scA : Addr} {sv : List Value} {si : List Int}
    (hsc : hT.IsList scA sv.toArray) (hsi : IntsAre sv si) (hsz : sv.length ≤ 1000) (hB : H (L + 1) = some ((0, 1, 0), .cell none)) (hM : H (L + 2) = some ((0, 1, 0), .cell none)) (hTb : Tab H 453 FLs)
    (h : ∀ H' N tN bagA sl thA eA tA so ki s0 s1 eL ed c1 c2, 3 ≤ N → N ≤ 5 → LA H' L bagA sl N tN 1000 N N thA eA tA so ki s0 s1 eL ed → ThOk N so ki s0 s1 →
      T PG w hT A L (execs (wSt w 3) env) (lk wNs [some (.ref scA), some (.ref thA), some (.ref eA), c1, c2, none, none, none, none, none, none, none, none, none]) H' Q) :
    T PG w hT A L (execs (wSt w 0) env) (lk wNs [some (.ref scA), none, none, none, none, none, none, none, none, none, none, none, none, none]) H Q := by
  have mM : ((("many" : Str), L + 2) : Str × Addr) ∈ wFs L := by walk_at "gc_mem"
  have mB : ((("bag" : Str), L + 1) : Str × Addr) ∈ wFs L := by walk_at "gc_mem"
  have kindB : env.kindOf "bag" = some .cell := by rw [he]; kernel_rfl
  have kindM : env.kindOf "many" = some .cell := by rw [he]; kernel_rfl
  have kindO : env.kindOf "many" ≠ some .local := by rw [kindM]; exact fun q => (by cases q)
  have n12 : L + 2 ≠ L + 1 := fun q => absurd (Nat.add_left_cancel q) (by decide)
  refine t_cons (t_opq (fun fl m2 H2 => And3 (fl = .next) (m2 = lk wNs [some (.ref scA), none, none, none, none, none, none, none, none, none, none, none, none, none]) (Ex2 fun bA l => And4 (Bag H2 bA l 0) (H2 (L + 1) = some ((0, 1, 0), Cell.cell (some (.ref bA)))) (H2 (L + 2) = some ((0, 1, 0), .cell none)) (Tab H2 453 FLs))) (fun J hJ => ?_) ?_)
  · refine t_assign_name (t_dictStr P fun bA nb => ?_)
    refine t_pairs_cons ?_
    walk_at "gc"
    refine t_slice2 ?_
    walk_at "gc"
    rename_i ta0
    intro q nq
    have e1 := Ext.new nb (tmp, Cell.sdict [])
    refine t_item_sliceT (lo := none) (hi := some 63) (st := none) hsc (upd_self _ _ _) .none (.int _ _) .none (by decide) hsz fun l nl => ?_
    have hil := kmk_upto hsi (y := 63) (by decide)
    generalize hpv : (slicePick sv.toArray none (some 63) none).toList = pv at hil ⊢
    have hpz : pv.length ≤ 63 := by rw [hil.length, List.length_take]; exact Nat.min_le_left _ _
    refine t_retagNew (0, 3, 0) ?_
    refine t_pairs_cons ?_
    walk_at "gc"
    rename_i tb0
    have E := (Ext.new nq (tmp, Cell.obj (sliceObj .none (.int 63 ta0) .none))).trans (Ext.new nl ((0, 3, 0), Cell.list pv))
    have hb2 := E _ _ (upd_self H bA (tmp, Cell.sdict []))
    have hl2 := upd_self (upd (upd H bA (tmp, Cell.sdict [])) q (tmp, Cell.obj (sliceObj .none (.int 63 ta0) .none))) l ((0, 3, 0), Cell.list pv)
    have E2 := e1.trans E
    revert E E2 hb2 hl2
    generalize upd (upd (upd H bA (tmp, Cell.sdict [])) q (tmp, Cell.obj (sliceObj .none (.int 63 ta0) .none))) l ((0, 3, 0), Cell.list pv) = H1
    intro E hb2 hl2 E2
    refine t_pairs_nil ⟨hb2, rfl, strs2, ?_⟩
    refine t_retagNew (0, 2, 0) ?_
    have nbn : ∀ {a : Addr} {x : Tag × Cell}, H a = some x → a ≠ bA := fun e q => by rw [q, nb] at e; cases e
    refine t_store_cell F mB kindB (by rw [upd_ne _ _ (nbn hB)]; exact E2 _ _ hB) ?_
    have hb3 : upd (upd H1 bA ((0, 2, 0), Cell.sdict [("all", .ref l), ("at", .int 0 tb0)])) (L + 1) ((0, 1, 0), Cell.cell (some (.ref bA))) bA = some ((0, 2, 0), Cell.sdict [("all", .ref l), ("at", .int 0 tb0)]) := by
      rw [upd_ne _ _ (nbn hB).symm, upd_self]
    have hl3 : upd (upd H1 bA ((0, 2, 0), Cell.sdict [("all", .ref l), ("at", .int 0 tb0)])) (L + 1) ((0, 1, 0), Cell.cell (some (.ref bA))) l = some ((0, 3, 0), Cell.list pv) := by
      rw [upd_ne _ _ (ne_of_tag hl2 (E2 _ _ hB) (tag_ne (by decide))), upd_ne _ _ (ne_of_tag hl2 hb2 (tag_ne (by decide)))]; exact hl2
    have K3 : ∀ a t c, H a = some (t, c) → a ≠ L + 1 → upd (upd H1 bA ((0, 2, 0), Cell.sdict [("all", .ref l), ("at", .int 0 tb0)])) (L + 1) ((0, 1, 0), Cell.cell (some (.ref bA))) a = some (t, c) := fun a t c e ne => by
      rw [upd_ne _ _ ne, upd_ne _ _ (nbn e)]; exact E2 _ _ e
    have hB3 := upd_self (upd H1 bA ((0, 2, 0), Cell.sdict [("all", .ref l), ("at", .int 0 tb0)])) (L + 1) ((0, 1, 0), Cell.cell (some (.ref bA)))
    have hM3 := K3 _ _ _ hM n12
    have hT3 := Tab.mono hTb fun a t x e ht => K3 _ _ _ e (ne_of_tag e hB (by rcases ht with rfl | rfl <;> exact tag_ne (by decide)))
    have bag3 : Bag _ bA l 0 := ⟨⟨0, tb0, by decide, by decide, hb3⟩, ⟨pv, _, hl3, hil, hpz⟩⟩
    exact hJ _ _ _ ⟨rfl, rfl, bA, l, bag3, hB3, hM3, hT3⟩
  clear hTb hM hB hsc
  rintro fl m2 H2 ⟨rfl, rfl, bA, l, bag3, hB3, hM3, hT3⟩
  -- how many things
  refine t_cons (t_opq (fun fl m2 H6 => fl = .next ∧ Ex4 fun N tN thA eA => And4 (3 ≤ N) (N ≤ 5) (m2 = lk wNs [some (.ref scA), some (.ref thA), some (.ref eA), none, none, none, none, none, none, none, none, none, none, none]) (LA H6 L bA l N tN 1 0 0 thA eA (fun _ => 0) (fun _ => 0) (fun _ => 0) (fun _ => 0) (fun _ => 0) (fun _ => 0) (fun _ => []))) (fun J hJ => ?_) ?_)
  · refine t_assignTup (t_tuple ?_) (swap3_cell kindO)
    walk_at "gc"
    refine t_list ?_
    walk_at "gc"
    refine ⟨Nat.le_of_ble_eq_true rfl, fun l1 nl1 => ?_⟩
    walk_at "gc"
    rename_i a3 a5 a4
    have x1 := Ext.new nl1 (tmp, Cell.list [.int 3 a3, .int 5 a5, .int 4 a4])
    have hq1 := upd_self H2 l1 (tmp, Cell.list [.int 3 a3, .int 5 a5, .int 4 a4])
    revert x1 hq1
    generalize upd H2 l1 (tmp, Cell.list [.int 3 a3, .int 5 a5, .int 4 a4]) = H3
    intro x1 hq1
    have bag4 := bag3.keep fun a t c e _ => x1 _ _ e
    refine t_name_cell F mB (x1 _ _ hB3) ?_
    walk_at "gc"
    refine ⟨keeps_top P (by kernel_rfl), t_call (c_told P R bag4 (by decide) (by decide) fun H4 r4 u4 h0 h1 B4 K4 => ?_)⟩
    obtain ⟨r, rfl⟩ := Int.eq_ofNat_of_zero_le h0
    have T4 : Told H3 H4 := fun b t c e ne => by
      obtain ⟨_, _, _, _, h3⟩ := bag4.d
      exact K4 _ _ e (ne_of_tag e h3 ne)
    obtain ⟨tN, htN⟩ := pick3_at (a := 3) (b := 5) (c := 4) (ta := a3) (tb := a5) (tc := a4) h1
    refine t_item_list (T4 _ _ _ hq1 (tag_ne (by decide))) (by show 3 ≤ 1000; decide) h0 htN ?_
    obtain ⟨N, hN, hN1⟩ : ∃ N : Nat, pick3 3 5 4 r = (N : Int) ∧ 3 ≤ N ∧ N ≤ 5 := by
      unfold pick3
      split
      · exact ⟨3, rfl, by decide⟩
      · split
        · exact ⟨5, rfl, by decide⟩
        · exact ⟨4, rfl, by decide⟩
    rw [hN]
    walk_at "gc"
    refine t_list ?_
    walk_at "gc"
    refine ⟨Nat.le_of_ble_eq_true rfl, fun thA nth => ?_⟩
    refine t_retagNew (0, 9, 0) ?_
    walk_at "gc"
    refine t_list ?_
    walk_at "gc"
    refine ⟨Nat.le_of_ble_eq_true rfl, fun eA neA => ?_⟩
    refine t_retagNew (0, 4, 0) ?_
    walk_at "gc"
    refine ⟨Nat.le_of_ble_eq_true rfl, fun tp ntp => ?_⟩
    have X5 := ((Ext.new nth ((0, 9, 0), Cell.list [])).trans (Ext.new neA ((0, 4, 0), Cell.list []))).trans (Ext.new ntp (tmp, Cell.obj (tupObj [.int (N : Int) tN, .ref thA, .ref eA])))
    have hth5 := ((Ext.new neA ((0, 4, 0), Cell.list [])).trans (Ext.new ntp (tmp, Cell.obj (tupObj [.int (N : Int) tN, .ref thA, .ref eA])))) _ _ (upd_self _ _ _)
    have hea5 := (Ext.new ntp (tmp, Cell.obj (tupObj [.int (N : Int) tN, .ref thA, .ref eA]))) _ _ (upd_self _ _ _)
    refine t_unpackTup R.h (upd_self _ _ _) rfl ?_
    revert X5 hth5 hea5
    generalize upd (upd (upd H4 thA ((0, 9, 0), Cell.list [])) eA ((0, 4, 0), Cell.list [])) tp (tmp, Cell.obj (tupObj [.int (N : Int) tN, .ref thA, .ref eA])) = H5
    intro X5 hth5 hea5
    have k5 : ∀ a t c, H2 a = some (t, c) → t ≠ (0, 2, 0) → H5 a = some (t, c) := fun a t c e ne => X5 _ _ (T4 _ _ _ (x1 _ _ e) ne)
    have hM5 := k5 _ _ _ hM3 (tag_ne (by decide))
    refine t_ord_cons (t_as_name (t_store_cell F mM kindM hM5 ?_))
    refine t_ord_cons (t_as_name (t_store F (by walk_at "gc_put") ?_))
    refine t_ord_cons (t_as_name (t_store F (by walk_at "gc_put") ?_))
    refine t_ord_nil (ts := []) ?_
    have lb : Lb (upd H5 (L + 2) ((0, 1, 0), .cell (some (.int (N : Int) tN)))) L bA l N tN 1 := by
      have ne : ∀ {t : Tag} {a : Addr} {c : Cell}, H5 a = some (t, c) → t ≠ (0, 1, 0) → upd H5 (L + 2) ((0, 1, 0), .cell (some (.int (N : Int) tN))) a = some (t, c) := fun e z => upd_tag hM5 e z
      refine ⟨(B4.keep fun a t c e _ => X5 _ _ e).keep fun a t c e ht => ne e (by rcases ht with rfl | rfl <;> exact tag_ne (by decide)), ?_, upd_self _ _ _, hT3.mono fun a t c e ht => ne (k5 _ _ _ e (by rcases ht with rfl | rfl <;> exact tag_ne (by decide))) (by rcases ht with rfl | rfl <;> exact tag_ne (by decide))⟩
      rw [upd_ne _ _ n12.symm]; exact k5 _ _ _ hB3 (tag_ne (by decide))
    have hth := upd_tag (x := ((0, 1, 0), Cell.cell (some (.int (N : Int) tN)))) hM5 hth5 (tag_ne (by decide))
    have hea := upd_tag (x := ((0, 1, 0), Cell.cell (some (.int (N : Int) tN)))) hM5 hea5 (tag_ne (by decide))
    revert lb hth hea
    generalize upd H5 (L + 2) ((0, 1, 0), Cell.cell (some (.int (N : Int) tN))) = H6
    intro lb hth hea
    have X6 : LA H6 L bA l N tN 1 0 0 thA eA (fun _ => 0) (fun _ => 0) (fun _ => 0) (fun _ => 0) (fun _ => 0) (fun _ => 0) (fun _ => []) :=
      ⟨lb, ⟨hth, fun i hi => absurd hi (Nat.not_lt_zero i)⟩, ⟨hea, fun i hi => absurd hi (Nat.not_lt_zero i), fun i hi => absurd hi (Nat.not_lt_zero i)⟩⟩
    exact hJ _ _ _ ⟨rfl, N, tN, thA, eA, hN1.1, hN1.2, rfl, X6⟩
  clear hB3 hM3 hT3 bag3
  rintro fl m2 H6 ⟨rfl, N, tN, thA, eA, hN3, hN5, rfl, X6⟩
  refine t_cons (t_opq (fun fl m2 H' => fl = .next ∧ Ex9 fun tA so ki s0 s1 eL ed c1 c2 => And3 (m2 = lk wNs [some (.ref scA), some (.ref thA), some (.ref eA), c1, c2, none, none, none, none, none, none, none, none, none]) (LA H' L bA l N tN (1 + 10 * (N : Int)) N N thA eA tA so ki s0 s1 eL ed) (ThOk N so ki s0 s1)) (fun J hJ => ?_) ?_)
  · refine t_for_range F (by walk_at "gc_mem") R.h ?_
    walk_at "gc"
    refine t_name_cell F mM X6.lb.cM ?_
    walk_at "gc"
    refine ⟨keeps_type, t_range (n := N) fun rg v1 v3 nr => ?_⟩
    refine ⟨rg, N, tmp, _, _, _, fun i m' H' => Ex9 fun tA so ki s0 s1 eL ed c1 c2 => And3 (m' = lk wNs [some (.ref scA), some (.ref thA), some (.ref eA), c1, c2, none, none, none, none, none, none, none, none, none]) (LA H' L bA l N tN (1 + 10 * i) i i thA eA tA so ki s0 s1 eL ed) (ThOk i so ki s0 s1), rfl, by lia, upd_self _ _ _,
      ⟨_, _, _, _, _, _, _, _, _, rfl, X6.ext (Ext.new nr _), fun j hj => absurd hj (Nat.not_lt_zero j)⟩, ?_, ?_⟩
    · rintro J2 i hJ2 m' H' u ⟨tA, so, ki, s0, s1, eL, ed, c1, c2, rfl, X7, ok⟩ hi
      refine t_stored F (by walk_at "gc_put") ?_
      -- its sort
      refine t_cons (t_opq (fun fl m2 H9 => fl = .next ∧ Ex2 fun vso ts => And3 (m2 = lk wNs [some (.ref scA), some (.ref thA), some (.ref eA), some (.int (i : Int) u), some (.int vso ts), none, none, none, none, none, none, none, none, none]) ((vso = 0 ∨ vso = 1 ∨ vso = 3)) (LA H9 L bA l N tN (1 + 10 * (i : Int) + 1) i i thA eA tA so ki s0 s1 eL ed)) (fun J3 hJ3 => ?_) ?_)
      · refine t_assign_name ?_
        walk_at "gc"
        refine t_list ?_
        walk_at "gc"
        refine ⟨Nat.le_of_ble_eq_true rfl, fun l2 nl2 => ?_⟩
        have X8 := X7.ext (Ext.new nl2 (tmp, Cell.list [.int 0 206, .int 1 208, .int 3 212]))
        walk_at "gc"
        refine t_name_cell F mB X8.lb.cB ?_
        walk_at "gc"
        refine a_told P R X8 (by lia) (by decide) fun H9 r9 u9 hr9 X9 T9 => ?_
        obtain ⟨ts, hts⟩ := pick3_at (a := 0) (b := 1) (c := 3) (ta := 206) (tb := 208) (tc := 212) hr9
        refine t_item_list (T9 _ _ _ (upd_self _ _ _) (tag_ne (by decide))) (by show 3 ≤ 1000; decide) (by lia) hts ?_
        have hso : pick3 0 1 3 r9 = 0 ∨ pick3 0 1 3 r9 = 1 ∨ pick3 0 1 3 r9 = 3 := pick3_cases
        generalize pick3 0 1 3 r9 = vso at hso ⊢
        clear hts T9 X8 X7
        refine t_store F (by walk_at "gc_put") ?_
        exact hJ3 _ _ _ ⟨rfl, vso, ts, rfl, hso, X9⟩
      clear X7
      rintro fl m2 H9 ⟨rfl, vso, ts, rfl, hso, X9⟩
      -- its four parts
      refine t_cons (t_opq (fun fl m2 H15 => And3 (fl = .next) (m2 = lk wNs [some (.ref scA), some (.ref thA), some (.ref eA), some (.int (i : Int) u), some (.int vso ts), none, none, none, none, none, none, none, none, none]) (Ex5 fun tA so ki s0 s1 => ThOk (i + 1) so ki s0 s1 ∧ LA H15 L bA l N tN (1 + 10 * (i : Int) + 4) (i + 1) i thA eA tA so ki s0 s1 eL ed)) (fun J3 hJ3 => ?_) ?_)
      · refine t_exprF F ?_
        walk_at "gc"
        refine t_methodList X9.th.l PySem.F.slot_list_append ty_append ?_
        walk_at "gc"
        refine t_tuple ?_
        walk_at "gc"
        refine t_list ?_
        walk_at "gc"
        rename_i b1 b0 b2
        refine ⟨Nat.le_of_ble_eq_true rfl, fun l3 nl3 => ?_⟩
        have X10 := X9.ext (Ext.new nl3 (tmp, Cell.list [.int 1 b1, .int 0 b0, .int 2 b2]))
        walk_at "gc"
        refine t_name_cell F mB X10.lb.cB ?_
        walk_at "gc"
        refine a_told P R X10 (by lia) (by decide) fun H11 r11 u11 hr11 X11 T11 => ?_
        obtain ⟨tk, htk⟩ := pick3_at (a := 1) (b := 0) (c := 2) (ta := b1) (tb := b0) (tc := b2) hr11
        refine t_item_list (T11 _ _ _ (upd_self _ _ _) (tag_ne (by decide))) (by show 3 ≤ 1000; decide) (by omega) htk ?_
        have hki : 0 ≤ pick3 1 0 2 r11 := by have := @pick3_cases 1 0 2 r11; lia
        generalize pick3 1 0 2 r11 = vki at hki ⊢
        clear htk T11 X10
        walk_at "gc"
        refine t_name_cell F mB X11.lb.cB ?_
        walk_at "gc"
        refine a_told P R X11 (by omega) (by decide) fun H12 r12 u12 hr12 X12 T12 => ?_
        clear T12 X11
        walk_at "gc"
        rename_i d0 c12 d40
        refine t_name_cell F mB X12.lb.cB ?_
        walk_at "gc"
        refine a_told P R X12 (by omega) (by decide) fun H13 r13 u13 hr13 X13 T13 => ?_
        clear T13 X12
        walk_at "gc"
        rename_i c13
        refine ⟨Nat.le_of_ble_eq_true rfl, fun tp ntp => ?_⟩
        refine t_retagNew (0, 10, i) ?_
        walk_at "gc"
        have X14 := X13.ext (Ext.new ntp ((0, 10, i), Cell.obj (tupObj [.int vso ts, .int vki tk, .int (1 + (r12 : Int)) c12, .int (1 + (r13 : Int)) c13])))
        have hil14 : ((List.range i).map fun i => Value.ref (tA i)).length = i := by rw [List.length_map, List.length_range]
        refine ⟨keeps_builtin, t_call (c_append X14.th.l (by rw [hil14]; lia) ?_)⟩
        have X15 := X14.pushT (upd_self _ _ _)
        have ok15 := ok.push hso hki (c := 1 + (r12 : Int)) (d := 1 + (r13 : Int)) (by lia) (by lia)
        revert X15
        generalize upd (upd H13 tp ((0, 10, i), Cell.obj (tupObj [.int vso ts, .int vki tk, .int (1 + (r12 : Int)) c12, .int (1 + (r13 : Int)) c13]))) thA ((0, 9, 0), Cell.list ((List.range i).map (fun i => Value.ref (tA i)) ++ [.ref tp])) = H15
        intro X15
        clear X14 X13
        exact hJ3 _ _ _ ⟨rfl, rfl, _, _, _, _, _, ok15, ⟨X15.lb.le (by lia), X15.th, X15.eg⟩⟩
      clear X9 ok
      rintro fl m2 H15 ⟨rfl, rfl, tA, so, ki, s0, s1, ok15, X15⟩
      -- its edges
      refine t_cons (t_exprF F ?_)
      walk_at "gc"
      refine t_methodList X15.eg.e PySem.F.slot_list_append ty_append ?_
      walk_at "gc"
      refine t_compRangeF P F R.h [("_law_told", .ref 451)] [("bag", L + 1), ("many", L + 2)] (cl := [("many", L + 2), ("bag", L + 1)]) (by rw [he]; kernel_rfl) (by kernel_rfl) (fun p hp => by
        rcases List.mem_cons.mp hp with rfl | hp
        · kernel_rfl
        · rw [List.mem_singleton] at hp; subst hp; kernel_rfl) ?_
      walk_at "gc"
      refine t_name_cell F mB X15.lb.cB ?_
      walk_at "gc"
      refine a_told P R X15 (by omega) (by decide) fun H16 r16 u16 hr16 X16 T16 => ?_
      walk_at "gc"
      refine ⟨keeps_type, t_range (n := r16) fun rg2 w1 w3 nr2 => ?_⟩
      have X17 := X16.ext (Ext.new nr2 (tmp, .obj (rangeObj r16 w1 u16 w3)))
      refine ⟨rg2, r16, tmp, _, _, _, fun j acc H' => And3 (acc.length = j) ((∃ l : List Nat, IntsAre acc (asInts l) ∧ ∀ x ∈ l, x < N)) (LA H' L bA l N tN (1 + 10 * (i : Int) + 4 + 1 + (j : Int)) (i + 1) i thA eA tA so ki s0 s1 eL ed), rfl, by lia, upd_self _ _ _, ⟨rfl, ⟨[], .nil, fun x hx => (by cases hx)⟩, ⟨X17.lb.le (by lia), X17.th, X17.eg⟩⟩, fun i acc H h => h.1, ?_, ?_⟩
      · rintro J4 C env' j acc hJ4 H' u Fc ⟨ha, ⟨l', hl', hx'⟩, XX⟩ hj
        walk_at "gc"
        refine t_name_cell Fc List.mem_cons_self XX.lb.cB ?_
        walk_at "gc"
        refine t_name_cell Fc (List.mem_cons_of_mem _ List.mem_cons_self) XX.lb.cM ?_
        walk_at "gc"
        refine a_told P R XX (by omega) (by lia) fun H18 r18 u18 hr18 X18 T18 => ⟨rfl, hJ4 _ _ ⟨by simp [ha], ⟨l' ++ [r18], ?_, fun x hx => ?_⟩, ⟨X18.lb.le (by push_cast; lia), X18.th, X18.eg⟩⟩⟩
        · have := ints_append hl' (.cons (r18 : Int) u18 .nil)
          unfold asInts at *
          rw [List.map_append]; exact this
        · rcases List.mem_append.mp hx with hx | hx
          · exact hx' x hx
          · rw [List.mem_singleton] at hx; lia
      · rintro acc H' ⟨ha, ⟨l', hl', hx'⟩, XX⟩ lp nlp
        refine t_retagNew (0, 5, i) ?_
        walk_at "gc"
        have X18 := XX.ext (Ext.new nlp ((0, 5, i), Cell.list acc))
        have hil18 : ((List.range i).map fun i => Value.ref (eL i)).length = i := by rw [List.length_map, List.length_range]
        refine ⟨keeps_builtin, t_call (c_append X18.eg.e (by rw [hil18]; lia) ?_)⟩
        have X19 := X18.pushE (upd_self _ _ _) hl' (by lia) hx'
        refine t_nil ?_
        exact hJ2 _ _ ⟨_, _, _, _, _, _, _, _, _, rfl, ⟨X19.lb.le (by push_cast; lia), X19.th, X19.eg⟩, ok15⟩
    · rintro m' H' ⟨tA, so, ki, s0, s1, eL, ed, c1, c2, rfl, X7, ok⟩
      exact hJ _ _ _ ⟨rfl, tA, so, ki, s0, s1, eL, ed, c1, c2, rfl, X7, ok⟩
  rintro fl m2 H' ⟨rfl, tA, so, ki, s0, s1, eL, ed, c1, c2, rfl, X7, ok⟩
  exact h H' N tN bA l thA eA tA so ki s0 s1 eL ed c1 c2 hN3 hN5 ⟨X7.lb.le (by lia), X7.th, X7.eg⟩ ok
end

/-! part M35 -/
theorem perm_places {N : Nat} {l : List Nat} (h : l.Perm (List.range N)) : ∃ nm ps : Nat → Nat, l = (List.range N).map nm ∧ (∀ i < N, nm i < N ∧ ps (nm i) = i) ∧ ∀ i < N, ps i < N ∧ nm (ps i) = i := by
  have hl : l.length = N := by rw [h.length_eq, List.length_range]
  have nd : l.Nodup := h.nodup_iff.mpr List.nodup_range
  refine ⟨fun i => (l[i]?).getD 0, fun x => l.idxOf x, ?_, fun i hi => ?_, fun x hx => ?_⟩
  · refine List.ext_getElem? fun i => ?_
    rw [List.getElem?_map]
    by_cases hi : i < N
    · rw [List.getElem?_range hi, List.getElem?_eq_getElem (by lia)]; simp [List.getElem?_eq_getElem (show i < l.length by omega)]
    · rw [List.getElem?_eq_none (by lia), List.getElem?_eq_none (by rw [List.length_range]; (refine Nat.not_lt.mp ?_; assumption))]; rfl
  · have e : (l[i]?).getD 0 = l[i]'(by omega) := by rw [List.getElem?_eq_getElem (by omega)]; rfl
    dsimp only
    rw [e]
    exact ⟨List.mem_range.mp (h.mem_iff.mp (List.getElem_mem _)), nd.idxOf_getElem _ _⟩
  · have hm : x ∈ l := h.mem_iff.mpr (List.mem_range.mpr hx)
    have hi := List.idxOf_lt_length_of_mem hm
    refine ⟨by dsimp only; rw [← hl]; exact hi, ?_⟩
    dsimp only
    rw [List.getElem?_eq_getElem hi]
    exact List.getElem_idxOf hi
theorem erase_perm : ∀ {l : List Nat} {r : Nat} (h : r < l.length), (l[r] :: l.eraseIdx r).Perm l
  | a :: l, 0, _ => List.Perm.refl _
  | a :: l, r + 1, h => by
    have h' : r < l.length := by simpa using h
    have := (erase_perm h').cons a
    exact (List.Perm.swap a _ _).trans this
theorem ints_take {vs : List Value} {l : List Nat} (h : IntsAre vs (asInts l)) {r : Nat} (hr : r < l.length) : ∃ t, vs[r]? = some (.int ((l[r] : Nat) : Int) t) ∧ IntsAre (vs.eraseIdx r) (asInts (l.eraseIdx r)) := by
  induction l generalizing vs r with
  | nil => cases hr
  | cons a l ih =>
    cases h with
    | cons x t h' =>
      rename_i vs'
      match r with
      | 0 => exact ⟨t, rfl, h'⟩
      | r + 1 =>
        obtain ⟨t2, e, g⟩ := ih h' (show r < l.length by simpa using hr)
        exact ⟨t2, by simpa using e, .cons _ _ g⟩
section
variable {w : World} {hT : Heap} {A : Around} {L : Addr} {m : Loc} {H : LH} {n : Nat}
theorem law_B1 {env : Env} {Q : Flow → Loc → LH → Prop} (P : Tp (KK w) hT) {fa : Addr} {cd : Value} (he : env = wEnv w L fa cd) (F : FnE hT env L wNs wGs (wFs L)) (R : Room (n + 9) A) {sc c1 c2 : Option Value} {N : Nat} {tN : Tok} {bagA sl thA eA : Addr} {tA eL : Nat → Addr} {so ki s0 s1 : Nat → Int} {ed : Nat → List Nat}
    (hN : 3 ≤ N) (hN5 : N ≤ 5) (X : LA H L bagA sl N tN 1000 N N thA eA tA so ki s0 s1 eL ed)
    (h : ∀ H' rA lA oA ov r ur (nm ps : Nat → Nat), r < N → LA H' L bagA sl N tN 1100 N N thA eA tA so ki s0 s1 eL ed → H' rA = some ((0, 6, 0), .list [.int ((r : Nat) : Int) ur]) → H' oA = some ((2, 15, 0), .list ov) → IntsAre ov (asInts ((List.range N).map nm)) → (∀ i < N, nm i < N ∧ ps (nm i) = i) → (∀ i < N, ps i < N ∧ nm (ps i) = i) →
      T PG w hT A L (execs (wSt w 5) env) (lk wNs [sc, some (.ref thA), some (.ref eA), c1, c2, some (.ref rA), some (.ref lA), some (.ref oA), none, none, none, none, none, none]) H' Q) :
    T PG w hT A L (execs (wSt w 3) env) (lk wNs [sc, some (.ref thA), some (.ref eA), c1, c2, none, none, none, none, none, none, none, none, none]) H Q := by
  have mM : ((("many" : Str), L + 2) : Str × Addr) ∈ wFs L := by walk_at "gc_mem"
  have mB : ((("bag" : Str), L + 1) : Str × Addr) ∈ wFs L := by walk_at "gc_mem"
  refine t_cons (t_assignTupSw (t_tuple ?_) (swap3 F (by walk_at "gc_mem") (by walk_at "gc_mem") (by walk_at "gc_mem") (by kernel_rfl)))
  walk_at "gc"
  refine t_list ?_
  walk_at "gc"
  refine t_name_cell F mB X.lb.cB ?_
  walk_at "gc"
  refine t_name_cell F mM X.lb.cM ?_
  walk_at "gc"
  refine a_told P R X (by lia) (by lia) fun H1 r ur hr X1 T1 => ?_
  walk_at "gc"
  refine ⟨Nat.le_of_ble_eq_true rfl, fun rA nrA => ?_⟩
  refine t_retagNew (0, 6, 0) ?_
  have X2 := X1.ext (Ext.new nrA ((0, 6, 0), Cell.list [.int (r : Int) ur]))
  have hr2 := upd_self H1 rA ((0, 6, 0), Cell.list [.int (r : Int) ur])
  revert X2 hr2
  generalize upd H1 rA ((0, 6, 0), Cell.list [.int (r : Int) ur]) = H2
  intro X2 hr2
  walk_at "gc"
  refine t_name_cell F mM X2.lb.cM ?_
  walk_at "gc"
  refine ⟨keeps_type, t_range (n := N) fun rg v1 v3 nrg => ?_⟩
  walk_at "gc"
  refine ⟨keeps_type, t_listRange R.h (upd_self _ _ _) (by lia) fun lA lv nlA hlv => ?_⟩
  refine t_retagNew (0, 12, 0) ?_
  have e3 := (Ext.new nrg (tmp, .obj (rangeObj N v1 tN v3))).trans (Ext.new nlA ((0, 12, 0), Cell.list lv))
  have hl3 := upd_self (upd H2 rg (tmp, .obj (rangeObj N v1 tN v3))) lA ((0, 12, 0), Cell.list lv)
  revert e3 hl3
  generalize upd (upd H2 rg (tmp, .obj (rangeObj N v1 tN v3))) lA ((0, 12, 0), Cell.list lv) = H3
  intro e3 hl3
  walk_at "gc"
  refine t_list ?_
  walk_at "gc"
  refine ⟨Nat.le_of_ble_eq_true rfl, fun oA noA => ?_⟩
  refine t_retagNew (2, 15, 0) ?_
  walk_at "gc"
  refine ⟨Nat.le_of_ble_eq_true rfl, fun tp ntp => ?_⟩
  refine t_unpackTup R.h (upd_self _ _ _) rfl ?_
  have e4 := (Ext.new noA ((2, 15, 0), Cell.list [])).trans (Ext.new ntp (tmp, Cell.obj (tupObj [.ref rA, .ref lA, .ref oA])))
  have ho4 := Ext.new ntp (tmp, Cell.obj (tupObj [.ref rA, .ref lA, .ref oA])) _ _ (upd_self H3 oA ((2, 15, 0), Cell.list []))
  revert e4 ho4
  generalize upd (upd H3 oA ((2, 15, 0), Cell.list [])) tp (tmp, Cell.obj (tupObj [.ref rA, .ref lA, .ref oA])) = H4
  intro e4 ho4
  refine t_ord_cons (t_bn (t_store F (by walk_at "gc_put") ?_))
  refine t_ord_cons (t_bn (t_store F (by walk_at "gc_put") ?_))
  refine t_ord_cons (t_bn (t_store F (by walk_at "gc_put") ?_))
  refine t_ord_nil (ts := []) ?_
  have X4 := (X2.ext e3).ext e4
  have hr4 := e4 _ _ (e3 _ _ hr2)
  have hl4 := e4 _ _ hl3
  have hlv' : IntsAre lv (asInts (List.range N)) := hlv
  clear X X1 X2 e3 e4 hl3 hr2 T1 hlv
  refine t_cons (t_while (fun q m' H' => Ex4 fun lv lf ov of => And9 (m' = lk wNs [sc, some (.ref thA), some (.ref eA), c1, c2, some (.ref rA), some (.ref lA), some (.ref oA), none, none, none, none, none, none]) (q = lf.length) (LA H' L bagA sl N tN (1010 + of.length) N N thA eA tA so ki s0 s1 eL ed) (H' rA = some ((0, 6, 0), .list [.int ((r : Nat) : Int) ur])) (H' lA = some ((0, 12, 0), .list lv)) (H' oA = some ((2, 15, 0), .list ov)) (IntsAre lv (asInts lf)) (IntsAre ov (asInts of)) ((of ++ lf).Perm (List.range N))) N
    ⟨lv, List.range N, [], [], rfl, by rw [List.length_range], ⟨X4.lb.le (by simp), X4.th, X4.eg⟩, hr4, hl4, ho4, hlv', .nil, List.Perm.refl _⟩ ?_)
  rintro J q hJ m' H' ⟨lv, lf, ov, of, rfl, rfl, X5, hr5, hl5, ho5, hli, hoi, hp⟩
  have hlen : of.length + lf.length = N := by
    have := hp.length_eq
    rw [List.length_append, List.length_range] at this; exact this
  have hlvl : lv.length = lf.length := by rw [hli.length]; exact List.length_map ..
  have hovl : ov.length = of.length := by rw [hoi.length]; exact List.length_map ..
  walk_at "gc"
  refine t_list ?_
  walk_at "gc"
  refine ⟨Nat.le_of_ble_eq_true rfl, fun eN nn => ?_⟩
  have en := Ext.new nn (tmp, Cell.list [])
  refine t_neNil (n := n + 2) R (en _ _ hl5) (upd_self _ _ _) (by lia) ?_
  replace X5 := X5.ext en
  replace hr5 := en _ _ hr5
  replace hl5 := en _ _ hl5
  replace ho5 := en _ _ ho5
  revert X5 hr5 hl5 ho5
  generalize upd H' eN (tmp, Cell.list []) = H5
  intro X5 hr5 hl5 ho5
  clear en nn
  walk_at "gc"
  refine ⟨fun hc => ?_, fun hc => ?_⟩
  · have hne : 0 < lf.length := by
      rcases Nat.eq_zero_or_pos lf.length with e | e
      · rw [e] at hlvl
        rw [List.length_eq_zero_iff.mp hlvl] at hc; cases hc
      · exact e
    refine t_cons (t_exprF F ?_)
    walk_at "gc"
    refine t_methodList ho5 PySem.F.slot_list_append ty_append ?_
    walk_at "gc"
    refine t_methodList hl5 PySem.F.slot_list_pop ty_pop ?_
    walk_at "gc"
    refine t_name_cell F mB X5.lb.cB ?_
    walk_at "gc"
    refine ⟨keeps_builtin, t_len hl5 (by omega) fun _ => ?_⟩
    walk_at "gc"
    refine a_told P R X5 (by omega) (by lia) fun H6 p up hp6 X6 T6 => ?_
    have hpl : p < lf.length := by lia
    obtain ⟨tx, hx, hrest⟩ := ints_take hli hpl
    walk_at "gc"
    have hl6 := T6 _ _ _ hl5 (show ((0, 12, 0) : Tag) ≠ (0, 2, 0) by decide)
    have ho6 := T6 _ _ _ ho5 (show ((2, 15, 0) : Tag) ≠ (0, 2, 0) by decide)
    have hr6 := T6 _ _ _ hr5 (show ((0, 6, 0) : Tag) ≠ (0, 2, 0) by decide)
    refine ⟨keeps_builtin, t_call (c_popAt hl6 (by lia) (by lia) (by rw [Int.toNat_natCast]; exact hx) ?_)⟩
    rw [Int.toNat_natCast]
    walk_at "gc"
    have ho7 := upd_tag (x := ((0, 12, 0), Cell.list (lv.eraseIdx p))) hl6 ho6 (show ((2, 15, 0) : Tag) ≠ (0, 12, 0) by decide)
    refine ⟨keeps_builtin, t_call (c_append ho7 (by lia) ?_)⟩
    refine t_nil (hJ (lf.eraseIdx p).length _ _ ?_ ⟨lv.eraseIdx p, lf.eraseIdx p, ov ++ [.int ((lf[p] : Nat) : Int) tx], of ++ [lf[p]], rfl, rfl, ?_, ?_, ?_, upd_self _ _ _, hrest, ?_, ?_⟩)
    · rw [List.length_eraseIdx_of_lt hpl]; lia
    · have k8 : ∀ a t c, H6 a = some (t, c) → t ≠ (0, 12, 0) → t ≠ (2, 15, 0) → upd (upd H6 lA ((0, 12, 0), Cell.list (lv.eraseIdx p))) oA ((2, 15, 0), Cell.list (ov ++ [.int ((lf[p] : Nat) : Int) tx])) a = some (t, c) := fun a t c e n1 n2 => upd_tag ho7 (upd_tag hl6 e n1) n2
      refine ⟨(X6.lb.le (by rw [List.length_append, List.length_singleton]; push_cast; lia)).keep fun a t c e ht => k8 _ _ _ e (fun q => by subst q; exact absurd ht.2 (by decide)) (fun q => by subst q; exact absurd ht.1 (by decide)), X6.th.keep fun a t c e ht => k8 _ _ _ e (fun q => by subst q; exact absurd ht.2 (by decide)) (fun q => by subst q; exact absurd ht.1 (by decide)), X6.eg.keep fun a t c e ht => k8 _ _ _ e (fun q => by subst q; exact absurd ht.2 (by decide)) (fun q => by subst q; exact absurd ht.1 (by decide))⟩
    · exact upd_tag ho7 (upd_tag hl6 hr6 (show ((0, 6, 0) : Tag) ≠ (0, 12, 0) by decide)) (show ((0, 6, 0) : Tag) ≠ (2, 15, 0) by decide)
    · exact upd_tag ho7 (upd_self H6 lA ((0, 12, 0), Cell.list (lv.eraseIdx p))) (show ((0, 12, 0) : Tag) ≠ (2, 15, 0) by decide)
    · have := ints_append hoi (.cons ((lf[p] : Nat) : Int) tx .nil)
      unfold asInts at *
      rw [List.map_append]; exact this
    · refine List.Perm.trans ?_ hp
      rw [List.append_assoc]
      exact List.Perm.append_left _ (erase_perm hpl)
  · have hlf : lf = [] := by
      have : lv = [] := by
        cases lv with
        | nil => rfl
        | cons a l => cases hc
      rw [this] at hlvl
      exact List.length_eq_zero_iff.mp hlvl.symm
    subst hlf
    rw [List.append_nil] at hp
    obtain ⟨nm, ps, rfl, np, pn⟩ := perm_places hp
    exact h H5 rA lA oA ov r ur nm ps (by lia) ⟨X5.lb.le (by lia), X5.th, X5.eg⟩ hr5 ho5 hoi np pn
end

/-! part M36 -/
section
variable {w : World} {H H' : LH} {S : Sh} {X : Wr} {j : Nat} {ed ed' : Nat → List Nat} {ro ro' : List Nat} {σ σ' : Sg} {taA taA' : Addr} {told told' : List Nat}
theorem World1.keepB {r0 : Nat} (h0 : r0 = 2 ∨ r0 = 7) (Y : World1 w H S X j ed ro σ taA told) (f : ∀ a t c, H a = some (t, c) → t ≠ (0, r0, 0) → H' a = some (t, c)) : World1 w H' S X j ed ro σ taA told := by
  have E := Y.env
  have nk : ∀ {t : Tag}, t.1 = X.W.k → t ≠ (0, r0, 0) := fun e q => E.kpos (by rw [q] at e; exact e.symm)
  exact ⟨⟨⟨⟨let ⟨t, e⟩ := E.X.d; ⟨t, f _ _ _ e (nk rfl)⟩, let ⟨vs, e, g⟩ := E.X.o; ⟨vs, f _ _ _ e (nk rfl), g⟩, f _ _ _ E.X.a (nk rfl), let ⟨vs, e, g⟩ := E.X.t; ⟨vs, f _ _ _ e (nk rfl), g⟩, E.X.np, E.X.pn⟩, E.F.keep fun a t x e ht => f _ _ _ e (by
      rcases ht with ⟨h1, _⟩ | rfl | rfl
      · exact nk h1
      · exact tag_ne (by (intro hx9; subst hx9; first | assumption | contradiction))
      · exact tag_ne (by (intro hx9; subst hx9; first | assumption | contradiction))), E.G.keep fun a t x e ht => f _ _ _ e (fun q => by
        subst q
        have := ht.2; simp only at this; lia), E.T.keep fun a t x e ht => f _ _ _ e (fun q => by
        subst q
        have := ht.2; simp only at this; lia), E.kpos, E.n9, E.num, E.sort, E.kind, E.sorts, E.sizes⟩, Y.wr.keep fun a t c e hm => f _ _ _ e (nk hm.1), Y.k, Y.n⟩, Y.good⟩
/-- what is known at the turns -/
structure LB (w : World) (H : LH) (L bagA lA : Addr) (tN : Tok) (k : Int) (wsA : Addr) (S : Sh) (X : Nat → Wr) (ed : Nat → List Nat) (ro : List Nat) (σ : Nat → Sg) (taA : Nat → Addr) (told : Nat → List Nat) : Prop where
  lb : Lb H L bagA lA S.N tN k
  ws : H wsA = some ((0, 11, 0), .list [.ref (X 0).wd, .ref (X 1).wd])
  st : WSt w H S X ed ro σ taA told
noncomputable def two {α : Type} (a b : α) : Nat → α
  | 0 => a
  | _ + 1 => b
end
section
variable {w : World} {H H' : LH} {L bagA lA wsA : Addr} {tN : Tok} {k k' : Int} {S : Sh} {X : Nat → Wr} {ed ed' : Nat → List Nat} {ro ro' : List Nat} {σ σ' : Nat → Sg} {taA taA' : Nat → Addr} {told told' : Nat → List Nat}
theorem LB.tells (Z : LB w H L bagA lA tN k wsA S X ed ro σ taA told) (B : Lb H' L bagA lA S.N tN k') (h : Told H H') : LB w H' L bagA lA tN k' wsA S X ed ro σ taA told :=
  ⟨B, h _ _ _ Z.ws (tag_ne (by decide)), fun j hj => (Z.st j hj).keepB (.inl rfl) h⟩
theorem LB.ext (Z : LB w H L bagA lA tN k wsA S X ed ro σ taA told) (h : Ext H H') : LB w H' L bagA lA tN k wsA S X ed ro σ taA told :=
  ⟨Z.lb.ext h, h _ _ Z.ws, fun j hj => (Z.st j hj).ext h⟩
theorem LB.off (Z : LB w H L bagA lA tN k wsA S X ed ro σ taA told) {j : Nat} (hj : j < 2) (f : Off (j + 1) H H') {σj : Sg} {tj : Addr} {tdj : List Nat} (Y : World1 w H' S (X j) j ed ro σj tj tdj) :
    LB w H' L bagA lA tN k wsA S X ed ro (setM σ j σj) (setM taA j tj) (setM told j tdj) := by
  have z : ∀ {t : Tag}, t.1 = 0 → t.1 ≠ j + 1 := fun e => by lia
  refine ⟨Z.lb.keep fun a t c e ht => f _ _ _ e (z ht.1), f _ _ _ Z.ws (z rfl), fun i hi => ?_⟩
  by_cases q : i = j
  · subst q
    rw [setM_self, setM_self, setM_self]; exact Y
  · rw [setM_ne _ _ q, setM_ne _ _ q, setM_ne _ _ q]
    exact (Z.st i hi).off f (by lia) (by lia)
end
theorem b_told2 {w : World} {hT : Heap} {A : Around} {m : Loc} {H : LH} {n : Nat} {L L' bagA lA wsA : Addr} {tN : Tok} {k : Int} {S : Sh} {X : Nat → Wr} {ed : Nat → List Nat} {ro : List Nat} {σ : Nat → Sg} {taA : Nat → Addr} {told : Nat → List Nat} (P : Tp (KK w) hT) (R : Room (n + 1) A) {many : Int} {t : Tok} {Q : Value → Loc → LH → Prop} (Z : LB w H L bagA lA tN k wsA S X ed ro σ taA told) (hk : k ≤ 100000) (hm : 0 < many)
    (h : ∀ H' (r : Nat) u, (r : Int) < many → LB w H' L bagA lA tN (k + 1) wsA S X ed ro σ taA told → Told H H' → Q (.int (r : Int) u) m H') : Keeps (PG : Program) w hT H (.ref 451) ∧ T PG w hT A L' (call (.ref 451) [.ref bagA, .int many t]) m H Q :=
  ⟨keeps_top P (by kernel_rfl), t_call (c_told P R Z.lb.bag hk hm fun H' r u h0 h1 B' K => by
    obtain ⟨r', rfl⟩ := Int.eq_ofNat_of_zero_le h0
    have := Z.lb.told B' K
    exact h H' r' u h1 (Z.tells this.1 this.2) this.2)⟩
theorem Gr.of_eg {H : LH} {N : Nat} {eA rA : Addr} {eL : Nat → Addr} {ed : Nat → List Nat} {r : Nat} {ur : Tok} (X : Eg H N N eA eL ed) (n9 : N ≤ 9) (hr : H rA = some ((0, 6, 0), .list [.int ((r : Nat) : Int) ur])) (hrN : r < N) : Gr H N eA rA eL (fun i => if i < N then ed i else []) [r] := by
  refine ⟨n9, X.e, fun i hi => ?_, ⟨_, hr, .cons _ _ .nil, by show 1 ≤ 60; decide⟩, fun i hi x hx => ?_, fun i hi => by rw [List.mem_singleton] at hi; lia⟩
  · obtain ⟨vs, h1, h2, h3⟩ := X.el i hi
    refine ⟨vs, h1, ?_, by lia⟩
    rw [if_pos hi]; exact h2
  · rw [if_pos hi] at hx; exact X.eb i hi x hx
section
variable {w : World} {hT : Heap} {A : Around} {L : Addr} {m : Loc} {H : LH} {n : Nat}
theorem law_B2 {env : Env} {Q : Flow → Loc → LH → Prop} (P : Tp (KK w) hT) (Zq : Tq hT 457 453) {fa : Addr} {cd : Value} (he : env = wEnv w L fa cd) (F : FnE hT env L wNs wGs (wFs L)) (R : Room (n + 20) A) {sc c1 c2 lf : Option Value} {N : Nat} {tN : Tok} {bagA sl thA eA rA oA : Addr} {tA eL : Nat → Addr} {so ki s0 s1 : Nat → Int} {ed : Nat → List Nat} {ov : List Value} {r : Nat} {ur : Tok} {nm ps : Nat → Nat}
    (hN : 3 ≤ N) (hN5 : N ≤ 5) (X0 : LA H L bagA sl N tN 1100 N N thA eA tA so ki s0 s1 eL ed) (ok : ThOk N so ki s0 s1) (hr : r < N) (hrA : H rA = some ((0, 6, 0), .list [.int ((r : Nat) : Int) ur])) (hoA : H oA = some ((2, 15, 0), .list ov)) (hoi : IntsAre ov (asInts ((List.range N).map nm))) (np : ∀ i < N, nm i < N ∧ ps (nm i) = i) (pn : ∀ i < N, ps i < N ∧ nm (ps i) = i)
    (h : ∀ H' wsA X ed σ taA, LB w H' L bagA sl tN 1101 wsA ⟨N, eA, rA, thA, eL, tA, so, ki, s0, s1⟩ X ed [r] σ taA (fun _ => []) → (∀ i, (ed i).length ≤ 2) → (∀ i < N, (X 0).W.size i = if false then s1 ((X 0).nm i) else s0 ((X 0).nm i)) → (∀ i < N, (X 1).W.size i = if true then s1 ((X 1).nm i) else s0 ((X 1).nm i)) → (∀ j < 2, (σ j).phase = 0 ∧ (σ j).tofin = []) →
      T PG w hT A L (execs (wSt w 8) env) (lk wNs [sc, some (.ref thA), some (.ref eA), c1, c2, some (.ref rA), lf, some (.ref oA), some (.ref wsA), some (.ref (X 0).W.C), some (.ref (X 1).W.C), none, none, none]) H' Q) :
    T PG w hT A L (execs (wSt w 5) env) (lk wNs [sc, some (.ref thA), some (.ref eA), c1, c2, some (.ref rA), lf, some (.ref oA), none, none, none, none, none, none]) H Q := by
  have mM : ((("many" : Str), L + 2) : Str × Addr) ∈ wFs L := by walk_at "gc_mem"
  have mB : ((("bag" : Str), L + 1) : Str × Addr) ∈ wFs L := by walk_at "gc_mem"
  refine t_cons (t_assign_name (t_list ?_))
  walk_at "gc"
  refine t_name_cell F mM X0.lb.cM ?_
  walk_at "gc"
  refine ⟨keeps_type, t_range (n := N) fun rg v1 v3 nrg => ?_⟩
  walk_at "gc"
  refine ⟨keeps_type, t_listRange R.h (upd_self _ _ _) (by lia) fun o0 lv nlA hlv => ?_⟩
  refine t_retagNew (1, 15, 0) ?_
  have e3 := (Ext.new nrg (tmp, .obj (rangeObj N v1 tN v3))).trans (Ext.new nlA ((1, 15, 0), Cell.list lv))
  have hl3 := upd_self (upd H rg (tmp, .obj (rangeObj N v1 tN v3))) o0 ((1, 15, 0), Cell.list lv)
  revert e3 hl3
  generalize upd (upd H rg (tmp, .obj (rangeObj N v1 tN v3))) o0 ((1, 15, 0), Cell.list lv) = H1
  intro e3 hl3
  walk_at "gc"
  have X1 := X0.ext e3
  have hrA1 := e3 _ _ hrA
  have hoA1 := e3 _ _ hoA
  have hlv' : IntsAre lv (asInts ((List.range N).map fun i => i)) := by rw [List.map_id']; exact hlv
  refine ⟨keeps_top P (by kernel_rfl), t_call (c_heap2 (b := false) P Zq (R.le (by lia) : Room (n + 8) A) X1.lb.tab (by decide : (1 : Nat) ≠ 0) hl3 hlv' X1.th (by lia) (ps := fun i => i) (fun i hi => ⟨hi, rfl⟩) (fun i hi => ⟨hi, rfl⟩) fun H2 W0 σ0 cs0 wd0 aA0 ta0 B0 => ?_)⟩
  obtain ⟨tps, hP, -, -⟩ := X1.lb.tab.h
  have k2 : ∀ a t c, H1 a = some (t, c) → t ≠ (0, 7, 0) → H2 a = some (t, c) := fun a t c e ne => B0.keep _ _ e (ne_of_tag e hP ne)
  have X2 : LA H2 L bagA sl N tN 1100 N N thA eA tA so ki s0 s1 eL ed :=
    ⟨⟨X1.lb.bag.keep fun a t c e ht => k2 _ _ _ e (by rcases ht with rfl | rfl <;> exact tag_ne (by decide)), k2 _ _ _ X1.lb.cB (tag_ne (by decide)), k2 _ _ _ X1.lb.cM (tag_ne (by decide)), B0.tab⟩, X1.th.keep fun a t c e ht => k2 _ _ _ e (fun q => by subst q; exact absurd ht.2 (by decide)), X1.eg.keep fun a t c e ht => k2 _ _ _ e (fun q => by subst q; exact absurd ht.2 (by decide))⟩
  have hrA2 := k2 _ _ _ hrA1 (by decide)
  have hoA2 := k2 _ _ _ hoA1 (by decide)
  walk_at "gc"
  refine ⟨keeps_top P (by kernel_rfl), t_call (c_heap2 (b := true) P Zq (R.le (by omega) : Room (n + 8) A) X2.lb.tab (by decide : (2 : Nat) ≠ 0) hoA2 hoi X2.th (by omega) np pn fun H3 W1 σ1 cs1 wd1 aA1 ta1 B1 => ?_)⟩
  obtain ⟨tps2, hP2, -, -⟩ := X2.lb.tab.h
  have k3 : ∀ a t c, H2 a = some (t, c) → t ≠ (0, 7, 0) → H3 a = some (t, c) := fun a t c e ne => B1.keep _ _ e (ne_of_tag e hP2 ne)
  have X3 : LA H3 L bagA sl N tN 1100 N N thA eA tA so ki s0 s1 eL ed :=
    ⟨⟨X2.lb.bag.keep fun a t c e ht => k3 _ _ _ e (by rcases ht with rfl | rfl <;> exact tag_ne (by decide)), k3 _ _ _ X2.lb.cB (tag_ne (by decide)), k3 _ _ _ X2.lb.cM (tag_ne (by decide)), B1.tab⟩, X2.th.keep fun a t c e ht => k3 _ _ _ e (fun q => by subst q; exact absurd ht.2 (by decide)), X2.eg.keep fun a t c e ht => k3 _ _ _ e (fun q => by subst q; exact absurd ht.2 (by decide))⟩
  have hrA3 := k3 _ _ _ hrA2 (by decide)
  have Y0 := B0.world1 (H1 := H) (Gr.of_eg X2.eg (by omega) hrA2 hr) X2.th (fun i hi => (ok i hi).1) (fun i hi => (ok i hi).2.1) (fun i hi => (ok i hi).2.2.1) (fun i hi => (ok i hi).2.2.2)
  have Y1 := B1.world1 (H1 := H) (Gr.of_eg X3.eg (by lia) hrA3 hr) X3.th (fun i hi => (ok i hi).1) (fun i hi => (ok i hi).2.1) (fun i hi => (ok i hi).2.2.1) (fun i hi => (ok i hi).2.2.2)
  have n0 := B0.n
  have n1 := B1.n
  clear B0 B1 X0 X1 X2 k2 hP hP2 hrA hrA1 hrA2 hrA3 hoA hoA1 hoA2 hl3 e3
  have Y0' := Y0.1.keepB (.inr rfl) k3
  walk_at "gc"
  refine ⟨Nat.le_of_ble_eq_true rfl, fun wsA nws => ?_⟩
  refine t_retagNew (0, 11, 0) ?_
  have Z : LB w (upd H3 wsA ((0, 11, 0), Cell.list [.ref wd0, .ref wd1])) L bagA sl tN 1100 wsA ⟨N, eA, rA, thA, eL, tA, so, ki, s0, s1⟩ (two ⟨W0, cs0, wd0, o0, aA0, fun i => i, fun i => i⟩ ⟨W1, cs1, wd1, oA, aA1, nm, ps⟩) (fun i => if i < N then ed i else []) [r] (two σ0 σ1) (two ta0 ta1) (fun _ => []) :=
    ⟨X3.lb.ext (Ext.new nws _), upd_self _ _ _, fun j hj => by
      rcases lt2 hj with rfl | rfl
      · exact Y0'.ext (Ext.new nws _)
      · exact Y1.1.ext (Ext.new nws _)⟩
  have hph : ∀ j < 2, (two σ0 σ1 j).phase = 0 ∧ (two σ0 σ1 j).tofin = [] := fun j hj => by
    rcases lt2 hj with rfl | rfl
    · exact Y0.2.2
    · exact Y1.2.2
  have hz0 : ∀ i < N, W0.size i = if false then s1 i else s0 i := fun i hi => Y0.2.1 i (by show i < W0.n; rw [n0]; exact hi)
  have hz1 : ∀ i < N, W1.size i = if true then s1 (nm i) else s0 (nm i) := fun i hi => Y1.2.1 i (by show i < W1.n; rw [n1]; exact hi)
  have hel : ∀ i, ((fun i => if i < N then ed i else []) i).length ≤ 2 := fun i => by
    dsimp only
    split
    · rename_i q
      obtain ⟨vs, _, h2, h3⟩ := X3.eg.el i q
      rw [h2.length] at h3
      unfold asInts at h3
      rw [List.length_map] at h3; exact h3
    · exact Nat.zero_le _
  revert Z hel
  generalize (fun i => if i < N then ed i else []) = ed'
  intro Z hel
  revert Z
  generalize upd H3 wsA ((0, 11, 0), Cell.list [.ref wd0, .ref wd1]) = H4
  intro Z
  clear Y0 Y1 Y0' X3 k3 nws
  refine t_store F (by walk_at "gc_put") ?_
  -- here and there
  refine t_cons (t_assignTupSw (t_tuple ?_) (swap2 F (by walk_at "gc_mem") (by walk_at "gc_mem") (by kernel_rfl)))
  obtain ⟨td0, hw0⟩ := (Z.st 0 (by decide)).env.X.d
  obtain ⟨td1, hw1⟩ := (Z.st 1 (by decide)).env.X.d
  walk_at "gc"
  refine t_item_list (v := .ref wd0) Z.ws (by show 2 ≤ 1000; decide) (by decide) rfl ?_
  walk_at "gc"
  refine t_getitem_sdict hw0 wd_cycle ?_
  walk_at "gc"
  refine t_item_list (v := .ref wd1) Z.ws (by show 2 ≤ 1000; decide) (by decide) rfl ?_
  walk_at "gc"
  refine t_getitem_sdict hw1 wd_cycle ?_
  walk_at "gc"
  refine ⟨Nat.le_of_ble_eq_true rfl, fun tp ntp => ?_⟩
  refine t_unpackTup R.h (upd_self _ _ _) rfl ?_
  refine t_ord_cons (t_bn (t_store F (by walk_at "gc_put") ?_))
  refine t_ord_cons (t_bn (t_store F (by walk_at "gc_put") ?_))
  refine t_ord_nil (ts := []) ?_
  have Z5 := Z.ext (Ext.new ntp (tmp, Cell.obj (tupObj [.ref W0.C, .ref W1.C])))
  refine t_cons (t_assign_attr ?_)
  walk_at "gc"
  refine t_name_cell F mB Z5.lb.cB ?_
  walk_at "gc"
  refine b_told2 P R Z5 (by decide) (by decide) fun H6 p up hp Z6 T6 => ?_
  walk_at "gc"
  refine s_ss P (Z6.st 1 (by decide)).wr (by lia) fun H7 hW7 f7 => ?_
  have k1 := (Z6.st 1 (by decide)).k
  have o7 : Off (1 + 1) H6 H7 := Off.frame (by rw [← k1]; exact f7)
  have Z7 := Z6.off (by decide) o7 ((Z6.st 1 (by decide)).own (by rw [← k1]; exact f7) hW7 (Z6.st 1 (by decide)).good)
  have es : ∀ {α : Type} (f : Nat → α) (i : Nat), setM f i (f i) = f := fun f i => by
    funext j; unfold setM; split
    · rename_i q; rw [q]
    · rfl
  have Z8 : LB w H7 L bagA sl tN 1101 wsA ⟨N, eA, rA, thA, eL, tA, so, ki, s0, s1⟩ (two ⟨W0, cs0, wd0, o0, aA0, fun i => i, fun i => i⟩ ⟨W1, cs1, wd1, oA, aA1, nm, ps⟩) ed' [r] (two σ0 σ1) (two ta0 ta1) (fun _ => []) := by
    have := Z7
    rw [es (two ta0 ta1) 1, es (fun _ => ([] : List Nat)) 1] at this
    rw [show setM (two σ0 σ1) 1 _ = two σ0 σ1 from es (two σ0 σ1) 1] at this
    exact this
  exact h H7 wsA _ _ _ _ Z8 hel hz0 hz1 hph
end

/-! part M37 -/
theorem setM_id {α : Type} (f : Nat → α) (i : Nat) : setM f i (f i) = f := by
  funext j; unfold setM; split
  · rename_i q; rw [q]
  · rfl
/-- where the first heap stands after so many small steps -/
noncomputable def DD (i : Nat) (σ : Sg) : Prop := σ.tofin ≠ [] → (σ.phase = 2 ∧ 1 ≤ i) ∨ (σ.phase = 3 ∧ 2 ≤ i) ∨ (σ.phase = 0 ∧ 3 ≤ i)
noncomputable def RR (X : Nat → Wr) (ro : List Nat) (σ : Nat → Sg) : Prop := ∀ j < 2, (σ j).rootl = rootsOf (X j).W (X j).ps ro
section
variable {w : World} {hT : Heap} {A : Around} {H H' : LH} {L bagA lA wsA : Addr} {tN : Tok} {k k' : Int} {S : Sh} {X : Nat → Wr} {ed ed' : Nat → List Nat} {ro ro' : List Nat} {σ σ' : Nat → Sg} {taA taA' : Nat → Addr} {told told' : Nat → List Nat}
theorem RR.set (hr : RR X ro σ) {j : Nat} {σj : Sg} (h : σj.rootl = rootsOf (X j).W (X j).ps ro) : RR X ro (setM σ j σj) := fun i hi => by
  by_cases q : i = j
  · subst q; rw [setM_self]; exact h
  · rw [setM_ne _ _ q]; exact hr i hi
theorem LB.stepped (Z : LB w H L bagA lA tN k wsA S X ed ro σ taA told) {j : Nat} (hj : j < 2) {σj : Sg} (f : Frame (X j).W.k H H') (hW : WR (X j).W σj H') (hg : Good (X j).W (kids (X j).W (X j).ps (X j).nm ed) (told j) σj) (hr : σj.rootl = rootsOf (X j).W (X j).ps ro) :
    LB w H' L bagA lA tN k wsA S X ed ro (setM σ j σj) taA told := by
  have := Z.off hj (Off.frame (by rw [← (Z.st j hj).k]; exact f)) ((Z.st j hj).step f hW hg hr)
  rw [setM_id, setM_id] at this
  exact this
theorem l_single {Q : Value → LH → Prop} (P : Tp (KK w) hT) (R : Room 21 A) (Z : LB w H L bagA lA tN k wsA S X ed ro σ taA told) (hr : RR X ro σ) {i : Nat} (hi : i < 3) (D : DD i (σ 0))
    (h : ∀ H' σ' v t, LB w H' L bagA lA tN k wsA S X ed ro σ' taA told → RR X ro σ' → DD (i + 1) (σ' 0) → σ' 1 = σ 1 → Q (.int v t) H') : C PG w hT A (.ref 273) ⟨[.ref (X 0).W.C, .none], []⟩ H Q := by
  have Y := Z.st 0 (by decide)
  have g := Y.gd (hr 0 (by decide))
  refine c_single P R Y.wr (Y.toWorld0.clo P) ((law_wi (E := kids (X 0).W (X 0).ps (X 0).nm ed) Y.env.n9 Y.env.sizes).bd _ g.wi) fun H' σ' v t hS hW f => ?_
  obtain ⟨g', er, _, hd⟩ := g.single (fun hp => Classical.byContradiction fun q => by
    rcases D q with z | z | z <;> lia) hS
  refine h H' (setM σ 0 σ') v t (Z.stepped (by decide) f hW g' (er.trans (hr 0 (by decide)))) (hr.set (er.trans (hr 0 (by decide)))) ?_ rfl
  rw [setM_self]
  intro q
  rcases hd q with z | ⟨z1, z2, z3⟩ | ⟨z1, z2, z3⟩
  · exact .inl ⟨z, by exact Nat.succ_pos _⟩
  · refine .inr (.inl ⟨z2, ?_⟩)
    rcases D z1 with y | y | y <;> lia
  · refine .inr (.inr ⟨z2, ?_⟩)
    rcases D z1 with y | y | y <;> lia
theorem l_steps {Q : Value → LH → Prop} (P : Tp (KK w) hT) (R : Room 23 A) (Z : LB w H L bagA lA tN k wsA S X ed ro σ taA told) (hr : RR X ro σ) (ht : (σ 1).tofin = []) {r : Nat} (hi : (r : Int) < 4) {tr : Tok}
    (h : ∀ H' σ' b, LB w H' L bagA lA tN k wsA S X ed ro σ' taA told → RR X ro σ' → σ' 0 = σ 0 → Q (.bool b) H') : C PG w hT A (.ref 301) ⟨[.ref (X 1).W.C, .none, .int (r : Int) tr], []⟩ H Q := by
  have Y := Z.st 1 (by decide)
  have g := Y.gd (hr 1 (by decide))
  refine c_steps P (law_wi Y.env.n9 Y.env.sizes) R (by lia) Y.wr (Y.toWorld0.clo P) g.wi fun H' σ' b hR hI hW f => ?_
  obtain ⟨g', er, _⟩ := g.run (fun _ => ht) hR
  exact h H' (setM σ 1 σ') b (Z.stepped (by decide) f hW g' (er.trans (hr 1 (by decide)))) (hr.set (er.trans (hr 1 (by decide)))) rfl
theorem l_drained {n : Nat} {Q : Value → LH → Prop} (P : Tp (KK w) hT) (R : Room (n + 9) A) (Z : LB w H L bagA lA tN k wsA S X ed ro σ taA told) (hr : RR X ro σ) {j : Nat} (hj : j < 2)
    (h : ∀ H' σ' taA' told', LB w H' L bagA lA tN k wsA S X ed ro σ' taA' told' → RR X ro σ' → (σ' j).tofin = [] → (∀ i, i ≠ j → σ' i = σ i) → (∀ q, Lv (X j).W (kids (X j).W (X j).ps (X j).nm ed) q (σ j) → Lv (X j).W (kids (X j).W (X j).ps (X j).nm ed) q (σ' j)) → Q (.bool true) H') : C PG w hT A (.ref 475) ⟨[.ref (X j).wd], []⟩ H Q := by
  have Y := Z.st j hj
  refine w_drained P R Y fun H' ta' Y' o => ?_
  have g := Y.gd (hr j hj)
  refine h H' _ _ _ (Z.off hj o Y') (hr.set (hr j hj)) ?_ (fun i hi => setM_ne _ _ hi) ?_
  · rw [setM_self]; exact List.drop_length
  · rw [setM_self]; exact g.drain.2
theorem l_full {Q : Value → LH → Prop} (P : Tp (KK w) hT) (R : Room 23 A) (Z : LB w H L bagA lA tN k wsA S X ed ro σ taA told) (hr : RR X ro σ) (ht : (σ 0).tofin = [])
    (h : ∀ H' σ', LB w H' L bagA lA tN k wsA S X ed ro σ' taA told → RR X ro σ' → σ' 1 = σ 1 → Lv (X 0).W (kids (X 0).W (X 0).ps (X 0).nm ed) 2 (σ' 0) → (Asked (X 0).W (kids (X 0).W (X 0).ps (X 0).nm ed) (σ 0) → Lv (X 0).W (kids (X 0).W (X 0).ps (X 0).nm ed) 3 (σ' 0) ∧ (σ' 0).tofin = []) → Q .none H') : C PG w hT A (.ref 308) ⟨[.ref (X 0).W.C, .none], []⟩ H Q := by
  have Y := Z.st 0 (by decide)
  have g := Y.gd (hr 0 (by decide))
  refine c_full P (law_wi Y.env.n9 Y.env.sizes) R Y.wr (Y.toWorld0.clo P) g.wi fun H' σ' hF hI hW f => ?_
  obtain ⟨g', er, hp, h2, h3⟩ := g.full Y.env.n9 Y.env.sizes ht hF
  refine h H' (setM σ 0 σ') (Z.stepped (by decide) f hW g' (er.trans (hr 0 (by decide)))) (hr.set (er.trans (hr 0 (by decide)))) rfl (by rw [setM_self]; exact h2) fun q => ?_
  rw [setM_self]
  refine ⟨h3 q, ?_⟩
  -- all that was due was told before
  cases e : σ'.tofin with
  | nil => rfl
  | cons x l =>
    exfalso
    have hx : x ∈ σ'.tofin := by rw [e]; exact List.mem_cons_self
    obtain ⟨h1, hk, hz⟩ := (g'.told x).mp (List.mem_append_right _ hx)
    have hnr := g'.fz x hz
    rw [er] at hnr
    have hz0 := q x h1 (by rw [hk]; decide) hnr
    have ht0 := (g.told x).mpr ⟨h1, hk, hz0⟩
    rw [ht, List.append_nil] at ht0
    exact (List.nodup_append.mp g'.nd).2.2 x ht0 x hx rfl
end

/-! part M38 -/
theorem cl_one {α : Type} {x : Str} {a : α} : ∀ p ∈ [(x, a)], [(x, a)].lookup p.1 = some p.2 := fun p hp => by
  rw [List.mem_singleton] at hp; subst hp
  rw [List.lookup_cons, beq_self_eq_true]
section
variable {w : World} {hT : Heap} {A : Around} {L : Addr} {m : Loc} {H : LH} {n : Nat}
theorem law_C {env : Env} {Q : Flow → Loc → LH → Prop} (P : Tp (KK w) hT) {fa : Addr} {cd : Value} (he : env = wEnv w L fa cd) (F : FnE hT env L wNs wGs (wFs L)) (R : Room 30 A) {sc c1 c2 lf oA' : Option Value} {bagA sl wsA : Addr} {tN : Tok} {S : Sh} {X : Nat → Wr} {ed : Nat → List Nat} {ro : List Nat} {σ : Nat → Sg} {taA : Nat → Addr} {told : Nat → List Nat}
    (hN : 3 ≤ S.N) (hN5 : S.N ≤ 5) (Z : LB w H L bagA sl tN 1101 wsA S X ed ro σ taA told) (hel : ∀ i, (ed i).length ≤ 2) (hrl : ro.length ≤ 1) (ht : ∀ j < 2, (σ j).tofin = [])
    (h : ∀ H' c1 c3 c4 ed ro σ taA told, LB w H' L bagA sl tN 2000 wsA S X ed ro σ taA told → RR X ro σ → (∀ j < 2, (σ j).tofin = []) →
      T PG w hT A L (execs (wSt w 9) env) (lk wNs [sc, some (.ref S.thA), some (.ref S.eA), c1, c2, some (.ref S.rA), lf, oA', some (.ref wsA), some (.ref (X 0).W.C), some (.ref (X 1).W.C), c3, c4, none]) H' Q) :
    T PG w hT A L (execs (wSt w 8) env) (lk wNs [sc, some (.ref S.thA), some (.ref S.eA), c1, c2, some (.ref S.rA), lf, oA', some (.ref wsA), some (.ref (X 0).W.C), some (.ref (X 1).W.C), none, none, none]) H Q := by
  have mM : ((("many" : Str), L + 2) : Str × Addr) ∈ wFs L := by walk_at "gc_mem"
  have mB : ((("bag" : Str), L + 1) : Str × Addr) ∈ wFs L := by walk_at "gc_mem"
  refine t_cons (t_for_range F (by walk_at "gc_mem") R.h ?_)
  walk_at "gc"
  refine t_name_cell F mB Z.lb.cB ?_
  walk_at "gc"
  refine b_told2 (n := 29) P R Z (by decide) (by decide) fun H1 nt ut hnt Z1 T1 => ?_
  walk_at "gc"
  rw [show (1 : Int) + (nt : Int) = ((nt + 1 : Nat) : Int) by lia]
  refine ⟨keeps_type, t_range (n := nt + 1) fun rg v1 v3 nr => ?_⟩
  refine ⟨rg, nt + 1, tmp, _, _, _, fun i m' H' => Ex8 fun c1 c3 c4 ed ro σ taA told => And6 (m' = lk wNs [sc, some (.ref S.thA), some (.ref S.eA), c1, c2, some (.ref S.rA), lf, oA', some (.ref wsA), some (.ref (X 0).W.C), some (.ref (X 1).W.C), c3, c4, none]) (LB w H' L bagA sl tN (1102 + 20 * i) wsA S X ed ro σ taA told) ((∀ x, (ed x).length ≤ 2 + i)) (ro.length ≤ 1 + i) ((∀ j < 2, (σ j).tofin = [])) ((0 < i → RR X ro σ)), rfl, by lia, upd_self _ _ _,
    ⟨_, _, _, _, _, _, _, _, rfl, ⟨(Z1.ext (Ext.new nr _)).lb.le (by lia), (Z1.ext (Ext.new nr _)).ws, (Z1.ext (Ext.new nr _)).st⟩, hel, hrl, ht, fun q => absurd q (Nat.lt_irrefl _)⟩, ?_, ?_⟩
  rotate_left
  · rintro m' H' ⟨c1, c3, c4, ed, ro, σ, taA, told, rfl, Z2, -, -, ht2, hr2⟩
    exact h H' c1 c3 c4 ed ro σ taA told ⟨Z2.lb.le (by push_cast; lia), Z2.ws, Z2.st⟩ (hr2 (Nat.succ_pos _)) ht2
  clear Z Z1 T1 ht hel hrl nr h
  rintro J i hJ m' H' u ⟨c1, c3, c4, ed, ro, σ, taA, told, rfl, Z, hel, hrl, ht, -⟩ hi
  refine t_stored F (by walk_at "gc_put") ?_
  -- a deed
  refine t_cons (t_opq (fun fl m2 H2 => And3 (fl = .next) (m2 = lk wNs [sc, some (.ref S.thA), some (.ref S.eA), c1, c2, some (.ref S.rA), lf, oA', some (.ref wsA), some (.ref (X 0).W.C), some (.ref (X 1).W.C), some (.int (i : Int) u), c4, none]) (Ex3 fun ed' ro' σ' => And5 (LB w H2 L bagA sl tN (1102 + 20 * (i : Int) + 3) wsA S X ed' ro' σ' taA told) ((∀ x, (ed' x).length ≤ 2 + i + 1)) (ro'.length ≤ 1 + i + 1) ((∀ j < 2, (σ' j).tofin = [])) (RR X ro' σ'))) (fun J2 hJ2 => ?_) ?_)
  · refine t_exprF F ?_
    walk_at "gc"
    refine t_compSrcF (names := ["bound"]) P F [("_law_told", .ref 451)] [("bag", L + 1)] (cl := [("bag", L + 1)]) (by rw [he]; kernel_rfl) (by kernel_rfl) cl_one ?_
    refine t_tuple ?_
    walk_at "gc"
    refine t_name_cell F mM Z.lb.cM ?_
    walk_at "gc"
    refine t_name_cell F mM Z.lb.cM ?_
    walk_at "gc"
    rename_i u4
    refine ⟨Nat.le_of_ble_eq_true rfl, fun tp ntp => ?_⟩
    have Z2 := Z.ext (Ext.new ntp (tmp, Cell.obj (tupObj [.int 4 u4, .int (S.N : Int) tN, .int (S.N : Int) tN])))
    have htp := upd_self H' tp (tmp, Cell.obj (tupObj [.int 4 u4, .int (S.N : Int) tN, .int (S.N : Int) tN]))
    refine ⟨_, _, _, _, opens_tuple (x := "bound") R.h htp, by show 3 ≤ 1000; decide, fun env' C Fc => okName_of Fc (by walk_at "gc_mem"), ?_⟩
    rintro H0 K ⟨rfl, rfl⟩
    refine ⟨fun j acc H2 => And4 (acc.length ≤ j) (H2 tp = some (tmp, Cell.obj (tupObj [.int 4 u4, .int (S.N : Int) tN, .int (S.N : Int) tN]))) (LB w H2 L bagA sl tN (1102 + 20 * (i : Int) + (j : Int)) wsA S X ed ro σ taA told) (∃ (l : List Nat), And3 (IntsAre acc (asInts l)) (l.length = j) (∀ q x, 1 ≤ q → l[q]? = some x → x < S.N)), ⟨Nat.le_refl _, htp, ⟨Z2.lb.le (by lia), Z2.ws, Z2.st⟩, [], .nil, rfl, fun q x _ e => by cases e⟩, ?_, ?_, ?_⟩
    · rintro j acc H2 ⟨ha, htp2, -⟩
      exact ⟨ha, htp2⟩
    · rintro C env' j acc H2 vs m2 Fc ⟨ha, htp2, Z3, l, hl, hlj, hlx⟩ hj hvs ⟨v, hv, rfl⟩
      obtain ⟨c, rfl⟩ := len1 hvs
      focus
        rw [set_lk Fc.nd (show Put ["bound"] [c] "bound" (some v) [some v] by walk_at "gc_put")]
        have hv' : ∃ b tb, v = .int b tb ∧ 0 < b ∧ (1 ≤ j → b = (S.N : Int)) := by
          rcases lt3 hj with rfl | rfl | rfl
          · exact ⟨4, u4, (Option.some.inj hv).symm, by decide, fun q => absurd q (by decide)⟩
          · exact ⟨_, tN, (Option.some.inj hv).symm, by lia, fun _ => rfl⟩
          · exact ⟨_, tN, (Option.some.inj hv).symm, by omega, fun _ => rfl⟩
        obtain ⟨b, tb, rfl, hb, hbN⟩ := hv'
        have hj3 : j < 3 := hj
        refine t_tests_nil ⟨fun _ => ?_, fun q => (by cases q)⟩
        walk_at "gc"
        refine t_name_cell Fc List.mem_cons_self Z3.lb.cB ?_
        walk_at "gc"
        refine b_told2 (n := 29) P R Z3 (by omega) hb fun H4 r4 u4 hr4 Z4 T4 => ⟨⟨_, rfl, rfl⟩, by rw [List.length_append, List.length_singleton]; (refine Nat.lt_succ_of_le ?_; assumption), T4 _ _ _ htp2 (by decide), ⟨Z4.lb.le (by push_cast; lia), Z4.ws, Z4.st⟩, l ++ [r4], ?_, by rw [List.length_append, List.length_singleton]; lia, fun q x hq e => ?_⟩
        · have := ints_append hl (.cons (r4 : Int) u4 .nil)
          unfold asInts at *
          rw [List.map_append]; exact this
        · by_cases hql : q < l.length
          · rw [List.getElem?_append_left hql] at e
            exact hlx q x hq e
          · have hq2 : q = l.length := by
              have := (List.getElem?_eq_some_iff.mp e).1
              rw [List.length_append, List.length_singleton] at this; lia
            subst hq2
            rw [List.getElem?_append_right (Nat.le_refl _), Nat.sub_self] at e
            have e : r4 = x := Option.some.inj e
            have := hbN (by lia)
            lia
    · rintro acc H2 ⟨ha, -, Z3, l, hl, hlj, hlx⟩ dA ndA
      have hlj : l.length = 3 := hlj
      obtain ⟨kk, one, other, rfl⟩ := len3 hlj
      focus
        obtain ⟨u0, u1, u2, rfl⟩ : ∃ u0 u1 u2, acc = [.int (kk : Int) u0, .int (one : Int) u1, .int (other : Int) u2] := by
          cases hl with
          | cons _ u0 hl => cases hl with
            | cons _ u1 hl => cases hl with
              | cons _ u2 hl => cases hl with
                | nil => exact ⟨u0, u1, u2, rfl⟩
        have Z4 := Z3.ext (Ext.new ndA (tmp, Cell.list [.int (kk : Int) u0, .int (one : Int) u1, .int (other : Int) u2]))
        walk_at "gc"
        refine ⟨keeps_top P (by kernel_rfl), t_call (c_done P (R.le (by decide)) Z4.ws (upd_self _ _ _) (hlx 1 one (by decide) rfl) (hlx 2 other (by decide) rfl) Z4.st (fun x => by have := hel x; lia) (by lia) fun H5 ed' ro' σ' Y5 hr5 ht5 he5 hrl5 fx => ?_)⟩
        refine hJ2 _ _ _ ⟨rfl, rfl, ed', ro', σ', ⟨Z4.lb.keep fun a t c e hh => fx _ _ _ e hh.1 (by lia) (by lia), fx _ _ _ Z4.ws rfl (by decide) (by decide), Y5⟩, fun x => ?_, by lia, fun j hj => (ht5 j hj).trans (ht j hj), hr5⟩
        have := he5 x
        have := hel x
        lia
  clear ht hel hrl Z
  rintro fl m2 H2 ⟨rfl, rfl, ed, ro, σ, Z, hel, hrl, ht, hr⟩
  -- some small steps of the one
  refine t_cons (t_opq (fun fl m2 H2 => fl = .next ∧ Ex2 fun c4 σ => And4 (m2 = lk wNs [sc, some (.ref S.thA), some (.ref S.eA), c1, c2, some (.ref S.rA), lf, oA', some (.ref wsA), some (.ref (X 0).W.C), some (.ref (X 1).W.C), some (.int (i : Int) u), c4, none]) (LB w H2 L bagA sl tN (1102 + 20 * (i : Int) + 4) wsA S X ed ro σ taA told) ((σ 1).tofin = []) (RR X ro σ)) (fun J2 hJ2 => ?_) ?_)
  · refine t_for_range F (by walk_at "gc_mem") R.h ?_
    walk_at "gc"
    refine t_name_cell F mB Z.lb.cB ?_
    walk_at "gc"
    refine b_told2 (n := 29) P R Z (by omega) (by decide) fun H3 ns us hns Z3 T3 => ?_
    walk_at "gc"
    refine ⟨keeps_type, t_range (n := ns) fun rg2 w1 w3 nr2 => ?_⟩
    have Z4 := Z3.ext (Ext.new nr2 (tmp, .obj (rangeObj ns w1 us w3)))
    refine ⟨rg2, ns, tmp, _, _, _, fun j m' H' => Ex2 fun c4 σ => And5 (m' = lk wNs [sc, some (.ref S.thA), some (.ref S.eA), c1, c2, some (.ref S.rA), lf, oA', some (.ref wsA), some (.ref (X 0).W.C), some (.ref (X 1).W.C), some (.int (i : Int) u), c4, none]) (LB w H' L bagA sl tN (1102 + 20 * (i : Int) + 4) wsA S X ed ro σ taA told) ((σ 1).tofin = []) (RR X ro σ) (DD j (σ 0)), rfl, by lia, upd_self _ _ _,
      ⟨_, σ, rfl, ⟨Z4.lb.le (by lia), Z4.ws, Z4.st⟩, ht 1 (by decide), hr, fun q => absurd (ht 0 (by decide)) q⟩, ?_, ?_⟩
    · rintro J3 j hJ3 m' H' v ⟨c4, σ, rfl, Z5, ht5, hr5, D5⟩ hj
      refine t_stored F (by walk_at "gc_put") ?_
      refine t_cons (t_exprF F ?_)
      walk_at "gc"
      refine meth_C P (Z5.st 0 (by decide)).wr (by kernel_rfl : classFn (KK w) 421 "single_step" 273 = true) (by decide +kernel) ?_
      walk_at "gc"
      refine ⟨keeps_top P (by kernel_rfl), t_call (l_single P (R.le (by decide)) Z5 hr5 (by lia) D5 fun H6 σ6 v6 t6 Z6 hr6 D6 e6 => ?_)⟩
      refine t_nil ?_
      exact hJ3 _ _ ⟨_, σ6, rfl, Z6, by rw [e6]; exact ht5, hr6, D6⟩
    · rintro m' H' ⟨c4, σ, rfl, Z5, ht5, hr5, D5⟩
      exact hJ2 _ _ _ ⟨rfl, _, σ, rfl, Z5, ht5, hr5⟩
  clear ht hr Z
  rintro fl m2 H2 ⟨rfl, c4, σ, rfl, Z, ht1, hr⟩
  -- some steps by room of the other
  refine t_cons (t_opq (fun fl m2 H2 => And3 (fl = .next) (m2 = lk wNs [sc, some (.ref S.thA), some (.ref S.eA), c1, c2, some (.ref S.rA), lf, oA', some (.ref wsA), some (.ref (X 0).W.C), some (.ref (X 1).W.C), some (.int (i : Int) u), c4, none]) (∃ σ, LB w H2 L bagA sl tN (1102 + 20 * (i : Int) + 5) wsA S X ed ro σ taA told ∧ RR X ro σ)) (fun J2 hJ2 => ?_) ?_)
  · refine t_exprF F ?_
    walk_at "gc"
    refine meth_C P (Z.st 1 (by decide)).wr (by kernel_rfl : classFn (KK w) 421 "steps" 301 = true) (by decide +kernel) ?_
    walk_at "gc"
    refine t_name_cell F mB Z.lb.cB ?_
    walk_at "gc"
    refine b_told2 (n := 29) P R Z (by omega) (by decide) fun H3 ns us hns Z3 T3 => ?_
    walk_at "gc"
    refine ⟨keeps_top P (by kernel_rfl), t_call (l_steps P (R.le (by decide)) Z3 hr ht1 hns fun H4 σ4 b Z4 hr4 e4 => ?_)⟩
    exact hJ2 _ _ _ ⟨rfl, rfl, σ4, ⟨Z4.lb.le (by lia), Z4.ws, Z4.st⟩, hr4⟩
  clear ht1 hr Z
  rintro fl m2 H2 ⟨rfl, rfl, σ, Z, hr⟩
  -- both are drained
  refine t_cons (t_opq (fun fl m2 H2 => And3 (fl = .next) (m2 = lk wNs [sc, some (.ref S.thA), some (.ref S.eA), c1, c2, some (.ref S.rA), lf, oA', some (.ref wsA), some (.ref (X 0).W.C), some (.ref (X 1).W.C), some (.int (i : Int) u), c4, none]) (Ex3 fun σ taA told => And3 (LB w H2 L bagA sl tN (1102 + 20 * (i : Int) + 5) wsA S X ed ro σ taA told) (RR X ro σ) (∀ j < 2, (σ j).tofin = []))) (fun J2 hJ2 => ?_) ?_)
  · refine t_if_ ?_
    walk_at "gc"
    refine t_item_list (v := .ref (X 0).wd) Z.ws (by show 2 ≤ 1000; decide) (by decide) rfl ?_
    walk_at "gc"
    refine ⟨keeps_top P (by kernel_rfl), t_call (l_drained (n := 20) P (R.le (by decide)) Z hr (by decide : 0 < 2) fun H3 σ3 ta3 told3 Z3 hr3 ht3 e3 _ => ?_)⟩
    walk_at "gc"
    refine ⟨fun e => (by cases e), fun _ => ?_⟩
    walk_at "gc"
    refine t_item_list (v := .ref (X 1).wd) Z3.ws (by show 2 ≤ 1000; decide) (by decide) rfl ?_
    walk_at "gc"
    refine ⟨keeps_top P (by kernel_rfl), t_call (l_drained (n := 20) P (R.le (by decide)) Z3 hr3 (by decide : 1 < 2) fun H4 σ4 ta4 told4 Z4 hr4 ht4 e4 _ => ?_)⟩
    walk_at "gc"
    refine ⟨fun e => (by cases e), fun _ => ?_⟩
    walk_at "gc"
    refine ⟨fun e => (by cases e), fun _ => ?_⟩
    refine t_nil ?_
    refine hJ2 _ _ _ ⟨rfl, rfl, σ4, ta4, told4, Z4, hr4, fun j hj => ?_⟩
    rcases lt2 hj with rfl | rfl
    · rw [e4 0 (by decide)]; exact ht3
    · exact ht4
  clear hr Z
  rintro fl m2 H2 ⟨rfl, rfl, σ, taA, told, Z, hr, ht⟩
  -- nothing that is reached is lost
  have Y0 := Z.st 0 (by decide)
  have Y1 := Z.st 1 (by decide)
  have G : Gr H2 S.N S.eA S.rA S.eL ed ro := by have := Y0.env.G; rw [Y0.n] at this; exact this
  refine t_cons (t_opq (fun fl m2 H3 => And3 (fl = .next) (Ext H2 H3) (∃ c1, m2 = lk wNs [sc, some (.ref S.thA), some (.ref S.eA), c1, c2, some (.ref S.rA), lf, oA', some (.ref wsA), some (.ref (X 0).W.C), some (.ref (X 1).W.C), some (.int (i : Int) u), c4, none])) (fun J2 hJ2 => ?_) ?_)
  · refine t_for_list F (by walk_at "gc_mem") R.h ?_
    walk_at "gc"
    refine ⟨keeps_top P (by kernel_rfl), t_call (c_reached (k := 20) P (R.le (by decide)) G fun H3 l vs al e3 nl hl hvi hasc hmem => ?_)⟩
    have Z3 := Z.ext e3
    refine ⟨l, vs, fun _ m' H' => H' = H3 ∧ ∃ c1, m' = lk wNs [sc, some (.ref S.thA), some (.ref S.eA), c1, c2, some (.ref S.rA), lf, oA', some (.ref wsA), some (.ref (X 0).W.C), some (.ref (X 1).W.C), some (.int (i : Int) u), c4, none], rfl, ⟨rfl, _, rfl⟩, ?_, ?_, ?_⟩
    · rintro j m' H' ⟨rfl, -⟩
      exact ⟨_, hl⟩
    · rintro J3 j hJ3 m' H' v ⟨rfl, c1', rfl⟩ hv
      obtain ⟨tv, rfl⟩ := ints_at hvi j v hv
      have hjl : j < al.length := by
        have a1 := (List.getElem?_eq_some_iff.mp hv).1
        have a2 := hvi.length
        unfold asInts at a2
        rw [List.length_map] at a2
        lia
      have hval : ((asInts al)[j]?).getD 0 = (al[j] : Int) := by
        unfold asInts; rw [List.getElem?_map, List.getElem?_eq_getElem hjl]; rfl
      rw [hval]
      have hx := (hmem _).mp (List.getElem_mem hjl)
      generalize al[j] = x at hx
      have Y0 := Z3.st 0 (by decide)
      have Y1 := Z3.st 1 (by decide)
      have kept : ∀ j < 2, (X j).ps x < (X j).W.n ∧ (X j).ps x ∈ (σ j).objs ∧ x < (X j).W.n ∧ ∀ y ∈ (σ j).objs, y < (X j).W.n := fun j hj => by
        have Y := Z3.st j hj
        have g := Y.gd (hr j hj)
        have r := (Y.reach.2 x hx)
        have nl := g.live _ (by rw [hr j hj]; exact r.2)
        exact ⟨(Y.env.X.pn x r.1).1, (g.mem _).mpr fun q => nl (.inl q), r.1, g.wi.objs⟩
      refine t_stored F (by walk_at "gc_put") ?_
      refine t_cons (t_if_ ?_)
      walk_at "gc"
      obtain ⟨td0, hw0⟩ := Y0.env.X.d
      obtain ⟨td1, hw1⟩ := Y1.env.X.d
      refine meth_C P Y0.wr (by kernel_rfl : classFn (KK w) 421 "is_kept" 210 = true) (by decide +kernel) ?_
      walk_at "gc"
      refine t_item_list (v := .ref (X 0).wd) Z3.ws (by show 2 ≤ 1000; decide) (by decide) rfl ?_
      walk_at "gc"
      refine t_getitem_sdict hw0 wd_all ?_
      walk_at "gc"
      refine t_getitem_idict Y0.env.X.a (Y0.env.X.byname (kept 0 (by decide)).2.2.1) ?_
      walk_at "gc"
      refine ⟨keeps_top P (by kernel_rfl), t_call (c_iskept (n := 20) P (R.le (by decide)) Y0.wr (Y0.toWorld0.clo P) (kept 0 (by decide)).1 (kept 0 (by decide)).2.2.2 ?_)⟩
      rw [decide_eq_true (kept 0 (by decide)).2.1]
      walk_at "gc"
      refine ⟨fun e => (by cases e), fun _ => ?_⟩
      walk_at "gc"
      refine meth_C P Y1.wr (by kernel_rfl : classFn (KK w) 421 "is_kept" 210 = true) (by decide +kernel) ?_
      walk_at "gc"
      refine t_item_list (v := .ref (X 1).wd) Z3.ws (by show 2 ≤ 1000; decide) (by decide) rfl ?_
      walk_at "gc"
      refine t_getitem_sdict hw1 wd_all ?_
      walk_at "gc"
      refine t_getitem_idict Y1.env.X.a (Y1.env.X.byname (kept 1 (by decide)).2.2.1) ?_
      walk_at "gc"
      refine ⟨keeps_top P (by kernel_rfl), t_call (c_iskept (n := 20) P (R.le (by decide)) Y1.wr (Y1.toWorld0.clo P) (kept 1 (by decide)).1 (kept 1 (by decide)).2.2.2 ?_)⟩
      rw [decide_eq_true (kept 1 (by decide)).2.1]
      walk_at "gc"
      refine ⟨fun e => (by cases e), fun _ => ?_⟩
      walk_at "gc"
      refine ⟨fun e => (by cases e), fun _ => ?_⟩
      refine t_nil ?_
      refine t_nil ?_
      exact hJ3 _ _ ⟨rfl, _, rfl⟩
    · rintro m' H' ⟨rfl, c1', rfl⟩
      exact hJ2 _ _ _ ⟨rfl, e3, c1', rfl⟩
  rintro fl m2 H3 ⟨rfl, e3, c1', rfl⟩
  have Z3 := Z.ext e3
  refine t_nil ?_
  exact hJ _ _ ⟨c1', _, c4, ed, ro, σ, taA, told, rfl, ⟨Z3.lb.le (by push_cast; lia), Z3.ws, Z3.st⟩, fun x => by have := hel x; omega, by omega, ht, fun _ => hr⟩
end

/-! part M39 -/
section
variable {w : World} {hT : Heap} {A : Around} {H H' : LH} {L bagA lA wsA : Addr} {tN : Tok} {k k' : Int} {S : Sh} {X : Nat → Wr} {ed ed' : Nat → List Nat} {ro ro' : List Nat} {σ σ' : Nat → Sg} {taA taA' : Nat → Addr} {told told' : Nat → List Nat}
theorem l_cycles {Q : Value → LH → Prop} (P : Tp (KK w) hT) (R : Room 25 A) {M : Nat} {tm : Tok} (hM : 1 ≤ M ∧ M ≤ 2) (n5 : S.N ≤ 5) (Z : LB w H L bagA lA tN k wsA S X ed ro σ taA told) (hr : RR X ro σ) (ht : (σ 1).tofin = [])
    (h : ∀ H' σ' taA' told', LB w H' L bagA lA tN k wsA S X ed ro σ' taA' told' → RR X ro σ' → (σ' 1).tofin = [] → σ' 0 = σ 0 → (∀ q, Lv (X 1).W (kids (X 1).W (X 1).ps (X 1).nm ed) q (σ 1) → Lv (X 1).W (kids (X 1).W (X 1).ps (X 1).nm ed) (q + M) (σ' 1)) → Q (.bool true) H') : C PG w hT A (.ref 489) ⟨[.ref (X 1).wd, .int (M : Int) tm], []⟩ H Q := by
  have Y := Z.st 1 (by decide)
  refine c_cycles P R hM (by rw [Y.n]; exact n5) Y (hr 1 (by decide)) ht fun H' σ' ta' told' Y' hr' ht' hl o => ?_
  refine h H' _ _ _ (Z.off (by decide) o Y') (hr.set hr') ?_ rfl ?_
  · rw [setM_self]; exact ht'
  · rw [setM_self]; exact hl
end
section
variable {w : World} {hT : Heap} {A : Around} {L : Addr} {m : Loc} {H : LH} {n : Nat}
theorem law_D {env : Env} {Q : Flow → Loc → LH → Prop} (P : Tp (KK w) hT) {fa : Addr} {cd : Value} (he : env = wEnv w L fa cd) (F : FnE hT env L wNs wGs (wFs L)) (R : Room 30 A) {sc c1 c2 lf oA' c3 c4 : Option Value} {bagA sl wsA : Addr} {tN : Tok} {S : Sh} {X : Nat → Wr} {ed : Nat → List Nat} {ro : List Nat} {σ : Nat → Sg} {taA : Nat → Addr} {told : Nat → List Nat}
    (hN5 : S.N ≤ 5) (Z : LB w H L bagA sl tN 2000 wsA S X ed ro σ taA told) (hr : RR X ro σ) (ht : ∀ j < 2, (σ j).tofin = []) (hz0 : ∀ i < S.N, (X 0).W.size i = if false then S.s1 ((X 0).nm i) else S.s0 ((X 0).nm i)) (hz1 : ∀ i < S.N, (X 1).W.size i = if true then S.s1 ((X 1).nm i) else S.s0 ((X 1).nm i))
    (h : ∀ H' m', Tab H' 453 FLs → Q (.ret (.bool true)) m' H') :
    T PG w hT A L (execs (wSt w 9) env) (lk wNs [sc, some (.ref S.thA), some (.ref S.eA), c1, c2, some (.ref S.rA), lf, oA', some (.ref wsA), some (.ref (X 0).W.C), some (.ref (X 1).W.C), c3, c4, none]) H Q := by
  refine t_cons (t_exprF F ?_)
  walk_at "gc"
  refine meth_C P (Z.st 0 (by decide)).wr (by kernel_rfl : classFn (KK w) 421 "full" 308 = true) (by decide +kernel) ?_
  walk_at "gc"
  refine ⟨keeps_top P (by kernel_rfl), t_call (l_full P (R.le (by decide)) Z hr (ht 0 (by decide)) fun H1 σ1 Z1 hr1 e1 l1 _ => ?_)⟩
  have ht1 := ht 1 (by decide)
  rw [← e1] at ht1
  refine t_cons (t_if_ ?_)
  walk_at "gc"
  refine t_item_list (v := .ref (X 0).wd) Z1.ws (by show 2 ≤ 1000; decide) (by decide) rfl ?_
  walk_at "gc"
  refine ⟨keeps_top P (by kernel_rfl), t_call (l_drained (n := 20) P (R.le (by decide)) Z1 hr1 (by decide : 0 < 2) fun H2 σ2 ta2 told2 Z2 hr2 ht2 e2 l2 => ?_)⟩
  have l02 := l2 2 l1
  rw [← e2 1 (by decide)] at ht1
  walk_at "gc"
  refine ⟨fun e => (by cases e), fun _ => ?_⟩
  walk_at "gc"
  refine t_item_list (v := .ref (X 1).wd) Z2.ws (by show 2 ≤ 1000; decide) (by decide) rfl ?_
  walk_at "gc"
  refine ⟨keeps_top P (by kernel_rfl), t_call (l_cycles (M := 2) P (R.le (by decide)) (by decide) hN5 Z2 hr2 ht1 fun H3 σ3 ta3 told3 Z3 hr3 ht3 e3 l3 => ?_)⟩
  walk_at "gc"
  refine ⟨fun e => (by cases e), fun _ => ?_⟩
  walk_at "gc"
  refine ⟨fun e => (by cases e), fun _ => ?_⟩
  refine t_nil ?_
  have l13 := l3 0 trivial
  rw [← e3] at ht2 l02
  refine t_cons (t_exprF F ?_)
  walk_at "gc"
  refine meth_C P (Z3.st 0 (by decide)).wr (by kernel_rfl : classFn (KK w) 421 "full" 308 = true) (by decide +kernel) ?_
  walk_at "gc"
  refine ⟨keeps_top P (by kernel_rfl), t_call (l_full P (R.le (by decide)) Z3 hr3 ht2 fun H4 σ4 Z4 hr4 e4 _ l4 => ?_)⟩
  obtain ⟨l04, ht4⟩ := l4 l02.2.1
  rw [← e4] at ht3 l13
  refine t_cons (t_if_ ?_)
  walk_at "gc"
  refine t_item_list (v := .ref (X 1).wd) Z4.ws (by show 2 ≤ 1000; decide) (by decide) rfl ?_
  walk_at "gc"
  refine ⟨keeps_top P (by kernel_rfl), t_call (l_cycles (M := 1) P (R.le (by decide)) (by decide) hN5 Z4 hr4 ht3 fun H5 σ5 ta5 told5 Z5 hr5 ht5 e5 l5 => ?_)⟩
  walk_at "gc"
  refine ⟨fun e => (by cases e), fun _ => ?_⟩
  refine t_nil ?_
  have l15 := l5 2 l13
  rw [← e5] at ht4 l04
  -- what is alive
  have Y0 := Z5.st 0 (by decide)
  have Y1 := Z5.st 1 (by decide)
  have G : Gr H5 S.N S.eA S.rA S.eL ed ro := by have := Y0.env.G; rw [Y0.n] at this; exact this
  refine t_cons (t_assign_name ?_)
  walk_at "gc"
  refine ⟨keeps_top P (by kernel_rfl), t_call (c_reached (k := 20) P (R.le (by decide)) G fun H6 l vs al e6 nl hl hvi hasc hmem => ?_)⟩
  refine t_store F (by walk_at "gc_put") ?_
  have Z6 := Z5.ext e6
  refine t_cons (t_ret ?_)
  refine t_andValue ?_
  walk_at "gc"
  refine t_item_list (v := .ref (X 0).wd) Z6.ws (by show 2 ≤ 1000; decide) (by decide) rfl ?_
  walk_at "gc"
  refine ⟨keeps_top P (by kernel_rfl), t_call (c_endright (n := 15) (b := false) P (R.le (by decide)) (Z6.st 0 (by decide)) (hr5 0 (by decide)) ht4 l04 hl hvi hasc hmem (fun i hi => hz0 i (by rw [← Y0.n]; exact hi)) fun H7 e7 => ?_)⟩
  have Z7 := Z6.ext e7
  walk_at "gc"
  refine ⟨fun e => (by cases e), fun _ => ?_⟩
  walk_at "gc"
  refine t_item_list (v := .ref (X 1).wd) Z7.ws (by show 2 ≤ 1000; decide) (by decide) rfl ?_
  walk_at "gc"
  refine ⟨keeps_top P (by kernel_rfl), t_call (c_endright (n := 15) (b := true) P (R.le (by decide)) (Z7.st 1 (by decide)) (hr5 1 (by decide)) ht5 l15 (e7 _ _ hl) hvi hasc hmem (fun i hi => hz1 i (by rw [← Y1.n]; exact hi)) fun H8 e8 => ?_)⟩
  exact h H8 _ (Z7.ext e8).lb.tab
end

/-! part M40 -/
section
variable {w : World} {hT : Heap} {A : Around} {L : Addr} {m : Loc} {H : LH} {n : Nat}
theorem law_all {env : Env} {Q : Flow → Loc → LH → Prop} (P : Tp (KK w) hT) (Zq : Tq hT 457 453) {fa : Addr} {cd : Value} (he : env = wEnv w L fa cd) (F : FnE hT env L wNs wGs (wFs L)) (R : Room 30 A) {scA : Addr} {sv : List Value} {si : List Int}
    (hsc : hT.IsList scA sv.toArray) (hsi : IntsAre sv si) (hsz : sv.length ≤ 1000) (hB : H (L + 1) = some ((0, 1, 0), .cell none)) (hM : H (L + 2) = some ((0, 1, 0), .cell none)) (hTb : Tab H 453 FLs)
    (h : ∀ H' m', Tab H' 453 FLs → Q (.ret (.bool true)) m' H') :
    T PG w hT A L (execs (wSt w 0) env) (lk wNs [some (.ref scA), none, none, none, none, none, none, none, none, none, none, none, none, none]) H Q := by
  refine law_A (n := 21) P he F R hsc hsi hsz hB hM hTb fun H1 N tN bagA sl thA eA tA so ki s0 s1 eL ed c1 c2 hN hN5 X1 ok => ?_
  refine law_B1 (n := 21) P he F R hN hN5 X1 fun H2 rA lA oA ov r ur nm ps hr X2 hrA hoA hoi np pn => ?_
  refine law_B2 (n := 10) P Zq he F R hN hN5 X2 ok hr hrA hoA hoi np pn fun H3 wsA X ed' σ taA Z3 hel hz0 hz1 hph => ?_
  refine law_C P he F R hN hN5 Z3 hel (Nat.le_refl _) (fun j hj => (hph j hj).2) fun H4 c1' c3 c4 ed2 ro2 σ2 taA2 told2 Z4 hr4 ht4 => ?_
  exact law_D P he F R hN5 Z4 hr4 ht4 hz0 hz1 h
end

/-! part M41 -/
theorem tp_of {w : World} {hT : Heap} {p : Program} {loose : List Str} {mean : ExcName → Option Value} {mg mb : Str → Option Value} (X : (KF w.params).In hT) (T0 : Top p loose mean mg mb hT) : Tp (KK w) hT :=
  ⟨X, T0.nolimit, mg, mb, T0.g, T0.b, T0.builtins⟩
theorem tq_of {hT : Heap} {p : Program} {loose : List Str} {mean : ExcName → Option Value} {mg mb : Str → Option Value} (T0 : Top p loose mean mg mb hT) (C : CodeHd hT 457 453) : Tq hT 457 453 := by
  obtain ⟨bm, ob, h1, h2, h3, h4, h5, h6⟩ := T0.bmain
  refine ⟨⟨mg, bm, ob, T0.g, h1, h2, fun q => ?_, h3, h4, h5, h6⟩, C⟩
  obtain ⟨o, es, ep, e1, e2, _⟩ := T0.g
  rw [q, e1] at h3
  cases h3
  rw [e2] at h6; cases h6
theorem wEnv_ok {w : World} {hT : Heap} (P : Tp (KK w) hT) {L fa : Addr} {cd : Value} : FnE hT (wEnv w L fa cd) L wNs wGs (wFs L) := by
  have := fnE_of (K := KK w) (scope := (fdOf (KK w) 499).scope) (L := L) (cells := cellsFrom (L + 1) (fdOf (KK w) 499).scope.names []) (qual := "law" ++ ".<locals>.") (f := some fa) (code := cd) (ns := wNs) (gs := wGs) (fs := wFs L) P (by kernel_rfl) (by kernel_rfl) (fun p hp => by
    rcases List.mem_cons.mp hp with rfl | hp
    · kernel_rfl
    · rw [List.mem_singleton] at hp; subst hp; kernel_rfl)
  exact this
theorem room_caller (env : Env) : Room 30 (callerA.deeper env) := ⟨rfl, by show 1 + claimMargin + 1 + 30 < 900; decide, by show 4 + 3 + 10 * 30 < 9000; decide⟩
theorem entry {w : World} {hT h₁ : Heap} {p : Program} {loose : List Str} {mean : ExcName → Option Value} {mg mb : Str → Option Value} {L fa scA : Addr} {cd : Value} {sv : List Value} {si : List Int} {env : Env} {A : Around} {body : List Stmt} {binds : List (Str × Value)} {base : Str → Option Value} {o1 o2 : Obj} {v1 v2 : Option Value} {s : Shared} {POST : Flow → Shared → Prop} {E : Value → Shared → Prop}
    (X : (KF w.params).In hT) (T0 : Top p loose mean mg mb hT) (C : CodeHd hT 457 453) (he : env = wEnv w L fa cd) (hb : body = wSt w 0) (R : Room 30 A) (hs : s.heap = h₁)
    (Fx : Fr hT L h₁ (bindL env.kindOf binds base)) (h2 : binds = [(("script" : Str), Value.ref scA)]) (h3 : base = fun _ => none)
    (N : News hT L h₁ [(L + 1 + 1, o1), (L + 1, o2), (453, tabObj #[])]) (d1 : o1.data = .cell v1) (d2 : o2.data = .cell v2) (z1 : v1 = none) (z2 : v2 = none) (l0 : 453 < L) (hsc : hT.IsList scA sv.toArray) (hsi : IntsAre sv si) (hsz : si.length ≤ 1000)
    (post : ∀ s' : Shared, (∀ b o, hT.get? b = some o → s'.heap.get? b = some o) → s'.gens = s.gens → s'.os = s.os → GrownAll [(457, 453)] s'.heap → POST (.ret (.bool true)) s') :
    wpAny (model PG w) A (execs body env) POST E s := by
  subst hs h2 h3 z1 z2
  have P := tp_of X T0
  have F : FnE hT env L wNs wGs (wFs L) := by rw [he]; exact wEnv_ok P
  rw [hb]
  clear hb
  have Zq := tq_of T0 C
  have n0 := N _ (List.mem_cons_self)
  have n1 := N _ (List.mem_cons_of_mem _ List.mem_cons_self)
  have n2 := N _ (List.mem_cons_of_mem _ (List.mem_cons_of_mem _ List.mem_cons_self))
  have k1 : L + 1 ≠ 453 := fun q => by have : L < L + 1 := Nat.lt_succ_self L; rw [q] at this; exact absurd (Nat.lt_trans l0 this) (Nat.lt_irrefl _)
  have k2 : L + 2 ≠ 453 := fun q => by have : L < L + 2 := Nat.lt_succ_of_lt (Nat.lt_succ_self L); rw [q] at this; exact absurd (Nat.lt_trans l0 this) (Nat.lt_irrefl _)
  have k3 : L + 2 ≠ L + 1 := fun q => absurd (Nat.add_left_cancel q) (by decide)
  obtain ⟨H, hH⟩ : ∃ H : LH, H = upd (upd (upd (fun _ => none) 453 ((0, 7, 0), .obj (tabObj #[]))) (L + 1) ((0, 1, 0), .cell none)) (L + 2) ((0, 1, 0), .cell none) := ⟨_, rfl⟩
  have hP : H 453 = some ((0, 7, 0), .obj (tabObj #[])) := by rw [hH, upd_ne _ _ k2.symm, upd_ne _ _ k1.symm, upd_self]
  have hB : H (L + 1) = some ((0, 1, 0), .cell none) := by rw [hH, upd_ne _ _ k3.symm, upd_self]
  have hM : H (L + 2) = some ((0, 1, 0), .cell none) := by rw [hH, upd_self]
  have only : ∀ a x, H a = some x → (a = 453 ∧ x = ((0, 7, 0), .obj (tabObj #[]))) ∨ (a = L + 1 ∧ x = ((0, 1, 0), .cell none)) ∨ (a = L + 2 ∧ x = ((0, 1, 0), .cell none)) := fun a x e => by
    by_cases q2 : a = L + 2
    · subst q2; rw [hM] at e; exact .inr (.inr ⟨rfl, (Option.some.inj e).symm⟩)
    · by_cases q1 : a = L + 1
      · subst q1; rw [hB] at e; exact .inr (.inl ⟨rfl, (Option.some.inj e).symm⟩)
      · by_cases q0 : a = 453
        · subst q0; rw [hP] at e; exact .inl ⟨rfl, (Option.some.inj e).symm⟩
        · rw [hH, upd_ne _ _ q2, upd_ne _ _ q1, upd_ne _ _ q0] at e; cases e
  have rp : Rp PG w hT (fun a o => hT.get? a = some o) s.gens s.os H s := by
    refine ⟨fun a t c e => ?_, fun a o e => e, fun a o e => Fx.keep a o e, fun a x o e q => ?_, rfl, rfl⟩
    · rcases only _ _ e with ⟨rfl, e2⟩ | ⟨rfl, e2⟩ | ⟨rfl, e2⟩
      · cases e2; exact n2.1
      · cases e2; exact ⟨o2, n1.1, d2⟩
      · cases e2; exact ⟨o1, n0.1, d1⟩
    · rcases only _ _ e with ⟨rfl, -⟩ | ⟨rfl, -⟩ | ⟨rfl, -⟩
      · rw [n2.2.2] at q; cases q
      · rw [n1.2.2] at q; cases q
      · rw [n0.2.2] at q; cases q
  have hm : bindL env.kindOf [(("script" : Str), Value.ref scA)] (fun _ => none) = lk wNs [some (.ref scA), none, none, none, none, none, none, none, none, none, none, none, none, none] := by
    have e1 := F.loc "script" List.mem_cons_self
    funext y
    rw [bindL_look _ _ _ (by simp)]
    have e2 : ([(("script" : Str), Value.ref scA)].filter fun p => decide (env.kindOf p.1 = some .local)) = [(("script" : Str), Value.ref scA)] := by
      rw [List.filter_cons, if_pos (decide_eq_true e1)]; rfl
    rw [e2]
    show Option.or _ none = _
    rw [Option.or_none]
    exact (lk_look [(("script" : Str), Value.ref scA)] ["things", "edges", "name", "sort", "roots", "left", "order", "worlds", "here", "there", "turn", "step", "alive"] y).symm
  have st : St PG w hT (fun a o => hT.get? a = some o) s.gens s.os L (lk wNs [some (.ref scA), none, none, none, none, none, none, none, none, none, none, none, none, none]) H s := by
    refine ⟨rp, by rw [← hm]; exact Fx.ns, ?_, fun o q => absurd (Heap.lt_size q) (Nat.not_lt.mpr Fx.above)⟩
    cases q : H L with
    | none => rfl
    | some x =>
      rcases only _ _ q with ⟨e, -⟩ | ⟨e, -⟩ | ⟨e, -⟩
      · rw [e] at l0; exact absurd l0 (Nat.lt_irrefl _)
      · exact absurd e (Nat.ne_of_lt (Nat.lt_succ_self L))
      · exact absurd e (Nat.ne_of_lt (Nat.lt_succ_of_lt (Nat.lt_succ_self L)))
  have hTb : Tab H 453 FLs := ⟨#[], hP, trivial, fun q hq => .inl rfl⟩
  refine wpAny_mono (law_all (Q := fun fl m' H' => fl = .ret (.bool true) ∧ Tab H' 453 FLs) P Zq he F R hsc hsi (by rw [hsi.length]; exact hsz) hB hM hTb (fun H' m' t => ⟨rfl, t⟩) _ _ _ _ st) ?_ fun _ _ e => e.elim
  rintro fl s' ⟨m', H', y, rfl, t⟩
  obtain ⟨ps, hp, -, -⟩ := t.h
  exact post s' (fun b o e => y.rp.keep b o e) y.rp.gens y.rp.os ⟨⟨ps, y.rp.rep _ _ _ hp⟩, trivial⟩
theorem entry2 {w : World} {hT h₁ : Heap} {p : Program} {loose : List Str} {mean : ExcName → Option Value} {mg mb : Str → Option Value} {L fa scA : Addr} {cd : Value} {sv : List Value} {si : List Int} {nm : Str} {sc : Scope} {A : Around} {body : List Stmt} {binds : List (Str × Value)} {base : Str → Option Value} {o1 o2 : Obj} {v1 v2 : Option Value} {s : Shared} {POST : Flow → Shared → Prop} {E : Value → Shared → Prop}
    (X : (KF w.params).In hT) (T0 : Top p loose mean mg mb hT) (C : CodeHd hT 457 453) (hnm : nm = "law") (hscp : sc = (fdOf (KK w) 499).scope) (hb : body = wSt w 0) (R : Room 30 A) (hs : s.heap = h₁)
    (Fx : Fr hT L h₁ (bindL (envOfC nm sc L fa cd).kindOf binds base)) (h2 : binds = [(("script" : Str), Value.ref scA)]) (h3 : base = fun _ => none)
    (N : News hT L h₁ [(L + 1 + 1, o1), (L + 1, o2), (453, tabObj #[])]) (d1 : o1.data = .cell v1) (d2 : o2.data = .cell v2) (z1 : v1 = none) (z2 : v2 = none) (l0 : 453 < L) (hsc : hT.IsList scA sv.toArray) (hsi : IntsAre sv si) (hsz : si.length ≤ 1000)
    (post : ∀ s' : Shared, (∀ b o, hT.get? b = some o → s'.heap.get? b = some o) → s'.gens = s.gens → s'.os = s.os → GrownAll [(457, 453)] s'.heap → POST (.ret (.bool true)) s') :
    wpAny (model PG w) A (execs body (envOfC nm sc L fa cd)) POST E s := by
  subst hnm hscp
  exact entry X T0 C rfl hb R hs Fx h2 h3 N d1 d2 z1 z2 l0 hsc hsi hsz post

/-! part E2 -/
end Gc
theorem PySem.Challenge.cw_sa0471_01_holds : PySem.Challenge.rw_sa0471_01.Holds :=
  Gc.hd (by
  intro w s₀ s₁ mg mb G Y fa o pm cd doc dV kV ho hd hcd hD hmg hg args vals as hpre hlay hrd hwl hlo
  have KX : (Gc.KF w.params).In s₁.heap := km_in_of Y
  have hT8 := km_tabs_of Y
  have X := (Ground.X G).1
  have V := (Ground.X G).2
  refine Ground.open G ?_
  intro T B D TE TW
  have hT9 : TabsAt ([(457, 453)] : List (Addr × Addr)) _ := List.forall_mem_cons.mpr ⟨⟨codeHd_of_K (c := 457) (P := 453) KX (by kernel_rfl), hT8 453 (by k_mem)⟩, fun _ h => nomatch h⟩
  clear hmg
  wrow_args hpre hlay hrd hwl hlo
  first | refine callC_kw (enter_call ?_) | refine enter_call ?_
  w_top on
  kn_posts
  w_call any ho hd hcd hD T F
  clear hd
  kn_ghosts F T
  k_drop
  refine Gc.entry2 (by assumption) (by assumption) (by assumption) (by kernel_rfl) (by kernel_rfl) (by kernel_rfl) (Gc.room_caller _) rfl (by assumption) (by kernel_rfl) (by kernel_rfl) (by assumption) (by assumption) (by assumption) (by kernel_rfl) (by kernel_rfl) (by assumption) (by assumption) (by assumption) (by omega) ?_
  intro s' keep hg' ho' gr
  refine ⟨⟨.inl ⟨_, _, [], rfl, fun _ => rfl, ReadsW.bool true, ?_, fun _ => ⟨List.nodup_nil, fun _ hm => (nomatch hm)⟩⟩, keep, ho', hg'.trans (by assumption)⟩, gr⟩
  first | rfl | wrow_post)
