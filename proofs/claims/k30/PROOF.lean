import PyProof.Rows.All
import PySem.Challenge.RW_somanyties_k30_grow_or_cap
import Wide.All
import OpenK.AllK
import Wide.FinOn
import HandS.ForMost
import HandS.Exc
import HandS.ExcOwn
import HandS.WordsExc
import HandS.IsInst
import HandS.SortInts
import HandS.SortRule
import HandS.Conv
import HandS.Zip
import HandS.Deep
import HandS.Style
import KE.SortKeyHeap
import HandS.Keys
import HandS.SortKw
import HandS.DictComp
import HandS.SetBool
import HandS.Strs
import KE.KExcInit
import HandS.ExcInit
import HandS.TryMany
import HandS.FStr
import HandS.Flow
import HandS.SetFor
import KE.DataMinMax
import KE.SortData
import HandS.Gcd
import HandS.NoneIn
set_option Elab.async false
set_option linter.all false
set_option maxRecDepth 100000
set_option maxHeartbeats 4000000
/-! TL1: outcomes, types of values, contexts of slots. -/
namespace TL
open PySem PySem.Spec PyProof.Rows L2
/-! ### outcomes -/
inductive Rs (α : Type) where
  | ok (a : α)
  | exc (c : Nat)
  | bad
  deriving DecidableEq
namespace Rs
@[simp] def bind {α β : Type} (r : Rs α) (k : α → Rs β) : Rs β := match r with
  | .ok a => k a
  | .exc c => .exc c
  | .bad => .bad
def Post {α : Type} (r : Rs α) (P : α → Prop) (E : Nat → Prop) : Prop := match r with
  | .ok a => P a
  | .exc c => E c
  | .bad => False
theorem post_bind {α β : Type} {r : Rs α} {k : α → Rs β} {P : β → Prop} {E : Nat → Prop} (h : (r.bind k).Post P E) : r.Post (fun a => (k a).Post P E) E := by
  cases r <;> exact h
theorem Post.mono {α : Type} {r : Rs α} {P P' : α → Prop} {E E' : Nat → Prop} (h : r.Post P E) (hP : ∀ a, P a → P' a) (hE : ∀ c, E c → E' c) : r.Post P' E' := by
  cases r with
  | ok a => exact hP a h
  | exc c => exact hE c h
  | bad => exact h
def guard (c : Bool) {α : Type} (r : Rs α) : Rs α := if c then r else .bad
theorem post_guard {c : Bool} {α : Type} {r : Rs α} {P : α → Prop} {E : Nat → Prop} (h : (guard c r).Post P E) : c = true ∧ r.Post P E := by
  cases c with
  | true => exact ⟨rfl, h⟩
  | false => exact h.elim
/-- none is bad -/
def ofOpt {α : Type} : Option α → Rs α
  | some a => .ok a
  | none => .bad
theorem post_ofOpt {α : Type} {o : Option α} {P : α → Prop} {E : Nat → Prop} (h : (ofOpt o).Post P E) : ∃ a, o = some a ∧ P a := by
  cases o with
  | some a => exact ⟨a, rfl, h⟩
  | none => exact h.elim
end Rs
/-! ### what is to be seen of a heap -/
def cut (H : Hp) (O : List Addr) : Hp := fun a => if a ∈ O then none else H a
theorem cut_in {H : Hp} {O : List Addr} {a : Addr} (h : a ∈ O) : cut H O a = none := by unfold cut; rw [if_pos h]
theorem cut_out {H : Hp} {O : List Addr} {a : Addr} (h : a ∉ O) : cut H O a = H a := by unfold cut; rw [if_neg h]
theorem cut_le {H : Hp} {O : List Addr} : Same (cut H O) H := fun b o e => by
  by_cases h : b ∈ O
  · rw [cut_in h] at e; cases e
  · rw [cut_out h] at e; exact e
theorem cut_grow {H H' : Hp} {O : List Addr} (s : Same H H') : Same (cut H O) (cut H' O) := fun b o e => by
  by_cases h : b ∈ O
  · rw [cut_in h] at e; cases e
  · rw [cut_out h] at e ⊢; exact s b o e
theorem cut_sub {H : Hp} {O O' : List Addr} (h : ∀ p ∈ O', p ∈ O) : Same (cut H O) (cut H O') := fun b o e => by
  by_cases hb : b ∈ O
  · rw [cut_in hb] at e; cases e
  · rw [cut_out hb] at e
    rw [cut_out fun z => hb (h b z)]; exact e
theorem cut_upd {H : Hp} {O : List Addr} {p : Addr} {o : HO} (h : p ∈ O) : cut (upd H p o) O = cut H O := by
  funext b
  by_cases hb : b ∈ O
  · rw [cut_in hb, cut_in hb]
  · rw [cut_out hb, cut_out hb, upd_ne (show b ≠ p from fun e => hb (by rw [e]; exact h))]
theorem cut_nil {H : Hp} : cut H [] = H := by funext b; exact cut_out (by simp)
theorem same_upd {H : Hp} {p : Addr} {o : HO} (h : H p = none) : Same H (upd H p o) := fun b x e => by
  rw [upd_ne (ne_of_none e h)]; exact e
theorem Same.sqT {K : PySem.W.Frag} {H H' : Hp} {a : Addr} {xs : List V} (e : Same H H') (h : SqT K H a xs) : SqT K H' a xs := by
  rcases h with (h | ⟨o, h⟩) | h
  · exact .inl (.inl (e _ _ h))
  · exact .inl (.inr ⟨o, e _ _ h⟩)
  · exact .inr h
/-! ### types of values -/
structure Ty (α : Type) where
  rep : PySem.W.Frag → Hp → V → α → Prop
  mono : ∀ {K : PySem.W.Frag} {H H' : Hp} {v : V} {a : α}, Same H H' → rep K H v a → rep K H' v a
def tI : Ty Int := ⟨fun _ _ v a => v = .int a, fun _ h => h⟩
def tB : Ty Bool := ⟨fun _ _ v a => v = .bl a, fun _ h => h⟩
def tN : Ty Unit := ⟨fun _ _ v _ => v = .non, fun _ h => h⟩
def tS : Ty Str := ⟨fun _ _ v a => v = .str a, fun _ h => h⟩
def optRep {α : Type} (r : V → α → Prop) (v : V) : Option α → Prop
  | none => v = .non
  | some a => r v a
def tO {α : Type} (τ : Ty α) : Ty (Option α) := ⟨fun K H v a => optRep (τ.rep K H) v a, fun {K H H' v a} s h => by
  cases a with
  | none => exact h
  | some a => exact τ.mono s h⟩
theorem Paired.mono' {α : Type} {τ : Ty α} {K : PySem.W.Frag} {H H' : Hp} (s : Same H H') {vs : List V} {as : List α} (h : Paired (τ.rep K H) vs as) : Paired (τ.rep K H') vs as :=
  L2.Paired.mapP h fun _ _ r => τ.mono s r
def tL {α : Type} (τ : Ty α) : Ty (List α) := ⟨fun K H v as => ∃ p vs, v = .ref p ∧ H p = some (.lst vs) ∧ vs.length ≤ sizeLine ∧ Paired (τ.rep K H) vs as,
  fun s ⟨p, vs, e, q, z, r⟩ => ⟨p, vs, e, s _ _ q, z, Paired.mono' s r⟩⟩
/-- a list that is read alone (the script) -/
def tF {α : Type} (τ : Ty α) : Ty (List α) := ⟨fun K H v as => ∃ p vs, v = .ref p ∧ SqL K H p vs ∧ vs.length ≤ sizeLine ∧ Paired (τ.rep K H) vs as,
  fun s ⟨p, vs, e, q, z, r⟩ => ⟨p, vs, e, s.seq q, z, Paired.mono' s r⟩⟩
def tT {α : Type} (τ : Ty α) : Ty (List α) := ⟨fun K H v as => ∃ p vs, v = .ref p ∧ H p = some (.tup vs) ∧ vs.length ≤ sizeLine ∧ Paired (τ.rep K H) vs as,
  fun s ⟨p, vs, e, q, z, r⟩ => ⟨p, vs, e, s _ _ q, z, Paired.mono' s r⟩⟩
/-- several values in a row -/
inductive Tys : Type → Type 1 where
  | nil : Tys Unit
  | one {α : Type} (τ : Ty α) : Tys α
  | cons {α β : Type} (τ : Ty α) (ts : Tys β) : Tys (α × β)
def Tys.rep (K : PySem.W.Frag) (H : Hp) : {α : Type} → Tys α → List V → α → Prop
  | _, .nil, vs, _ => vs = []
  | _, .one τ, vs, a => ∃ v, vs = [v] ∧ τ.rep K H v a
  | _, .cons τ ts, vs, a => ∃ v r, vs = v :: r ∧ τ.rep K H v a.1 ∧ ts.rep K H r a.2
theorem Tys.mono {K : PySem.W.Frag} {H H' : Hp} (s : Same H H') : ∀ {α : Type} (ts : Tys α) {vs : List V} {a : α}, ts.rep K H vs a → ts.rep K H' vs a
  | _, .nil, _, _, h => h
  | _, .one τ, _, _, h => by obtain ⟨v, e, r⟩ := h; exact ⟨v, e, τ.mono s r⟩
  | _, .cons τ ts, _, _, h => by obtain ⟨v, r, e, h1, h2⟩ := h; exact ⟨v, r, e, τ.mono s h1, ts.mono s h2⟩
def Tys.len : {α : Type} → Tys α → Nat
  | _, .nil => 0
  | _, .one _ => 1
  | _, .cons _ ts => ts.len + 1
theorem Tys.length {K : PySem.W.Frag} {H : Hp} : ∀ {α : Type} (ts : Tys α) {vs : List V} {a : α}, ts.rep K H vs a → vs.length = ts.len
  | _, .nil, _, _, h => by cases h; rfl
  | _, .one τ, _, _, h => by obtain ⟨v, e, r⟩ := h; rw [e]; rfl
  | _, .cons τ ts, _, _, h => by obtain ⟨v, r, e, h1, h2⟩ := h; rw [e, List.length_cons, ts.length h2]; rfl
/-- a tuple, a list of fixed places -/
def tTup {α : Type} (ts : Tys α) : Ty α := ⟨fun K H v a => ∃ p vs, v = .ref p ∧ H p = some (.tup vs) ∧ ts.rep K H vs a, fun s ⟨p, vs, e, q, r⟩ => ⟨p, vs, e, s _ _ q, ts.mono s r⟩⟩
def tLup {α : Type} (ts : Tys α) : Ty α := ⟨fun K H v a => ∃ p vs, v = .ref p ∧ H p = some (.lst vs) ∧ vs.length ≤ sizeLine ∧ ts.rep K H vs a, fun s ⟨p, vs, e, q, z, r⟩ => ⟨p, vs, e, s _ _ q, z, ts.mono s r⟩⟩
/-- what stands in a list that one slot owns -/
structure Ct (α : Type) where
  rep : PySem.W.Frag → Hp → List V → α → Prop
  mono : ∀ {K : PySem.W.Frag} {H H' : Hp} {v : List V} {a : α}, Same H H' → rep K H v a → rep K H' v a
def cL {α : Type} (τ : Ty α) : Ct (List α) := ⟨fun K H vs as => Paired (τ.rep K H) vs as, fun s h => Paired.mono' s h⟩
def cR {α : Type} (ts : Tys α) : Ct α := ⟨fun K H vs as => ts.rep K H vs as, fun s h => ts.mono s h⟩
/-- .. as a value -/
def Ct.ty {α : Type} (c : Ct α) : Ty α := ⟨fun K H v a => ∃ p vs, v = .ref p ∧ H p = some (.lst vs) ∧ vs.length ≤ sizeLine ∧ c.rep K H vs a, fun s ⟨p, vs, e, q, z, r⟩ => ⟨p, vs, e, s _ _ q, z, c.mono s r⟩⟩
/-- what stands in a dict (its keys tuples) that one slot owns -/
structure Cd (α : Type) where
  rep : PySem.W.Frag → Hp → List (List L2.Key × V) → α → Prop
  mono : ∀ {K : PySem.W.Frag} {H H' : Hp} {v : List (List L2.Key × V)} {a : α}, Same H H' → rep K H v a → rep K H' v a
/-- what a slot owns: p, and behind it more (p's lists) -/
structure Cn (α : Type) where
  rep : PySem.W.Frag → Hp → Hp → Addr → List Addr → α → Prop
  mono : ∀ {K : PySem.W.Frag} {G G' H H' : Hp} {p : Addr} {ps : List Addr} {a : α}, Same G G' → (∀ q ∈ p :: ps, ∀ o, H q = some o → H' q = some o) → rep K G H p ps a → rep K G' H' p ps a
/-! ### slots -/
inductive Sl : Type → Type 1 where
  | any : Sl Unit
  | val {α : Type} (τ : Ty α) : Sl α
  | own {α : Type} (q : Option Addr) (c : Ct α) : Sl α
  | ownD {α : Type} (c : Cd α) : Sl α
  | ownN {α : Type} (c : Cn α) : Sl α
inductive Cxt : Type → Type 1 where
  | nil : Cxt Unit
  | cons {α S : Type} (k : Sl α) (Γ : Cxt S) : Cxt (α × S)
def Sl.rep (K : PySem.W.Frag) (G H : Hp) : {α : Type} → Sl α → Option V → List Addr → α → Prop
  | _, .any, _, O, _ => O = []
  | _, .val τ, x, O, a => O = [] ∧ ∃ v, x = some v ∧ τ.rep K G v a
  | _, .own q c, x, O, a => ∃ p vs, (∀ z, q = some z → p = z) ∧ O = [p] ∧ x = some (.ref p) ∧ H p = some (.lst vs) ∧ vs.length ≤ sizeLine ∧ c.rep K G vs a
  | _, .ownD c, x, O, a => ∃ p vs, O = [p] ∧ x = some (.ref p) ∧ H p = some (.dT vs) ∧ vs.length ≤ sizeLine ∧ c.rep K G vs a
  | _, .ownN c, x, O, a => ∃ p ps, O = p :: ps ∧ x = some (.ref p) ∧ c.rep K G H p ps a
def Cxt.rep (K : PySem.W.Frag) (G H : Hp) : {S : Type} → Cxt S → L2.St → List Addr → S → Prop
  | _, .nil, σ, O, _ => σ = [] ∧ O = []
  | _, .cons k Γ, σ, O, s => ∃ x σ' O1 O2, σ = x :: σ' ∧ O = O1 ++ O2 ∧ k.rep K G H x O1 s.1 ∧ Γ.rep K G H σ' O2 s.2
theorem Sl.mono {K : PySem.W.Frag} {G G' H H' : Hp} (sG : Same G G') : ∀ {α : Type} (k : Sl α) {x : Option V} {O : List Addr} {a : α}, (∀ p ∈ O, ∀ o, H p = some o → H' p = some o) → k.rep K G H x O a → k.rep K G' H' x O a
  | _, .any, _, _, _, _, h => h
  | _, .val τ, _, _, _, _, h => by obtain ⟨e, v, e2, r⟩ := h; exact ⟨e, v, e2, τ.mono sG r⟩
  | _, .own q c, _, _, _, hH, h => by obtain ⟨p, vs, eq, e, e2, e3, z, r⟩ := h; exact ⟨p, vs, eq, e, e2, hH p (by rw [e]; simp) _ e3, z, c.mono sG r⟩
  | _, .ownD c, _, _, _, hH, h => by obtain ⟨p, vs, e, e2, e3, z, r⟩ := h; exact ⟨p, vs, e, e2, hH p (by rw [e]; simp) _ e3, z, c.mono sG r⟩
  | _, .ownN c, _, _, _, hH, h => by obtain ⟨p, ps, e, e2, r⟩ := h; subst e; exact ⟨p, ps, rfl, e2, c.mono sG hH r⟩
theorem Cxt.mono {K : PySem.W.Frag} {G G' H H' : Hp} (sG : Same G G') : ∀ {S : Type} (Γ : Cxt S) {σ : L2.St} {O : List Addr} {s : S}, (∀ p ∈ O, ∀ o, H p = some o → H' p = some o) → Γ.rep K G H σ O s → Γ.rep K G' H' σ O s
  | _, .nil, _, _, _, _, h => h
  | _, .cons k Γ, _, _, _, hH, h => by
    obtain ⟨x, σ', O1, O2, e, e2, h1, h2⟩ := h
    exact ⟨x, σ', O1, O2, e, e2, k.mono sG (fun p hp => hH p (by rw [e2]; exact List.mem_append_left _ hp)) h1, Γ.mono sG (fun p hp => hH p (by rw [e2]; exact List.mem_append_right _ hp)) h2⟩
/-- slot i is of the kind k, g its part of the state -/
structure At {S : Type} (Γ : Cxt S) (i : Nat) {α : Type} (k : Sl α) (g : S → α) : Prop where
  val : ∀ {K : PySem.W.Frag} {G H : Hp} {σ : L2.St} {O : List Addr} {s : S}, Γ.rep K G H σ O s → ∃ x Oi, σ[i]? = some x ∧ (∀ p ∈ Oi, p ∈ O) ∧ k.rep K G H x Oi (g s)
theorem At.z {α S : Type} {k : Sl α} {Γ : Cxt S} : At (.cons k Γ) 0 k (fun s => s.1) := ⟨by
  rintro K G H σ O s ⟨x, σ', O1, O2, rfl, rfl, h1, h2⟩
  exact ⟨x, O1, rfl, fun p hp => List.mem_append_left _ hp, h1⟩⟩
theorem At.s {α β S : Type} {k : Sl α} {j : Sl β} {Γ : Cxt S} {i : Nat} {g : S → α} (h : At Γ i k g) : At (.cons j Γ) (i + 1) k (fun s => g s.2) := ⟨by
  rintro K G H σ O s ⟨x, σ', O1, O2, rfl, rfl, h1, h2⟩
  obtain ⟨y, Oi, e, hs, r⟩ := h.val h2
  exact ⟨y, Oi, by simpa using e, fun p hp => List.mem_append_right _ (hs p hp), r⟩⟩
/-- slot i becomes of the kind k -/
structure Put {S : Type} (Γ : Cxt S) (i : Nat) {β : Type} (k : Sl β) {S' : Type} (Γ' : Cxt S') (p : S → β → S') : Prop where
  set : ∀ {K : PySem.W.Frag} {G H : Hp} {σ : L2.St} {O : List Addr} {s : S} {x : Option V} {Ox : List Addr} {b : β},
    Γ.rep K G H σ O s → k.rep K G H x Ox b → ∃ Oa Oi Ob, O = Oa ++ (Oi ++ Ob) ∧ Γ'.rep K G H (σ.set i x) (Oa ++ (Ox ++ Ob)) (p s b)
theorem Put.z {α β S : Type} {j : Sl α} {k : Sl β} {Γ : Cxt S} : Put (.cons j Γ) 0 k (.cons k Γ) (fun s b => (b, s.2)) := ⟨by
  rintro K G H σ O s x Ox b ⟨y, σ', O1, O2, rfl, rfl, h1, h2⟩ hk
  exact ⟨[], O1, O2, rfl, x, σ', Ox, O2, rfl, rfl, hk, h2⟩⟩
theorem Put.s {α β S S' : Type} {k : Sl β} {j : Sl α} {Γ : Cxt S} {Γ' : Cxt S'} {i : Nat} {p : S → β → S'} (h : Put Γ i k Γ' p) : Put (.cons j Γ) (i + 1) k (.cons j Γ') (fun s b => (s.1, p s.2 b)) := ⟨by
  rintro K G H σ O s x Ox b ⟨y, σ', O1, O2, rfl, rfl, h1, h2⟩ hk
  obtain ⟨Oa, Oi, Ob, rfl, r⟩ := h.set h2 hk
  exact ⟨O1 ++ Oa, Oi, Ob, by simp, y, _, O1, Oa ++ (Ox ++ Ob), rfl, by simp, h1, r⟩⟩
/-- what slot i owns is written: the rest stands -/
structure Wr {S : Type} (Γ : Cxt S) (i : Nat) (w : Option Addr) {α β : Type} (c : Ct α) (g : S → α) (d : Ct β) {S' : Type} (Γ' : Cxt S') (p : S → β → S') : Prop where
  write : ∀ {K : PySem.W.Frag} {G H : Hp} {σ : L2.St} {O : List Addr} {s : S}, Γ.rep K G H σ O s → O.Nodup →
    ∃ q vs, (∀ z, w = some z → q = z) ∧ σ[i]? = some (some (.ref q)) ∧ q ∈ O ∧ H q = some (.lst vs) ∧ vs.length ≤ sizeLine ∧ c.rep K G vs (g s) ∧ ∀ (ws : List V) (b : β), ws.length ≤ sizeLine → d.rep K G ws b → Γ'.rep K G (upd H q (.lst ws)) σ O (p s b)
theorem Wr.z {α β S : Type} {w : Option Addr} {c : Ct α} {d : Ct β} {Γ : Cxt S} : Wr (.cons (.own w c) Γ) 0 w c (fun s => s.1) d (.cons (.own w d) Γ) (fun s b => (b, s.2)) := ⟨by
  rintro K G H σ O s hr nd
  obtain ⟨y, σ', O1, O2, rfl, rfl, h1, h2⟩ := hr
  obtain ⟨q, vs, eq, rfl, rfl, e3, z3, r⟩ := h1
  refine ⟨q, vs, eq, rfl, by simp, e3, z3, r, fun ws b hz hb => ⟨_, σ', [q], O2, rfl, rfl, ⟨q, ws, eq, rfl, rfl, upd_same, hz, hb⟩, ?_⟩⟩
  refine Cxt.mono (fun _ _ h => h) _ (fun z hz o e => ?_) h2
  have : z ≠ q := fun e => by
    subst e
    simp at nd
    exact nd.1 hz
  rw [upd_ne this]; exact e⟩
theorem Wr.s {α β γ S S' : Type} {c : Ct α} {d : Ct β} {j : Sl γ} {Γ : Cxt S} {Γ' : Cxt S'} {i : Nat} {w : Option Addr} {g : S → α} {p : S → β → S'} (h : Wr Γ i w c g d Γ' p) : Wr (.cons j Γ) (i + 1) w c (fun s => g s.2) d (.cons j Γ') (fun s b => (s.1, p s.2 b)) := ⟨by
  rintro K G H σ O s hr nd
  obtain ⟨y, σ', O1, O2, rfl, rfl, h1, h2⟩ := hr
  obtain ⟨q, vs, eq, e1, e2, e3, z3, r, hw⟩ := h.write h2 (List.nodup_append.mp nd).2.1
  refine ⟨q, vs, eq, by simpa using e1, List.mem_append_right _ e2, e3, z3, r, fun ws b hz hb => ⟨_, σ', O1, O2, rfl, rfl, ?_, hw ws b hz hb⟩⟩
  refine Sl.mono (fun _ _ h => h) _ (fun z hz o e => ?_) h1
  have : z ≠ q := fun e => (List.nodup_append.mp nd).2.2 z hz q e2 e
  rw [upd_ne this]; exact e⟩
/-- a dict that slot i owns is written -/
structure WrD {S : Type} (Γ : Cxt S) (i : Nat) {α : Type} (c : Cd α) (g : S → α) (p : S → α → S) : Prop where
  write : ∀ {K : PySem.W.Frag} {G H : Hp} {σ : L2.St} {O : List Addr} {s : S}, Γ.rep K G H σ O s → O.Nodup →
    ∃ q vs, σ[i]? = some (some (.ref q)) ∧ q ∈ O ∧ H q = some (.dT vs) ∧ vs.length ≤ sizeLine ∧ c.rep K G vs (g s) ∧ ∀ (ws : List (List L2.Key × V)) (b : α), ws.length ≤ sizeLine → c.rep K G ws b → Γ.rep K G (upd H q (.dT ws)) σ O (p s b)
theorem WrD.z {α S : Type} {c : Cd α} {Γ : Cxt S} : WrD (.cons (.ownD c) Γ) 0 c (fun s => s.1) (fun s b => (b, s.2)) := ⟨by
  rintro K G H σ O s hr nd
  obtain ⟨y, σ', O1, O2, rfl, rfl, h1, h2⟩ := hr
  obtain ⟨q, vs, rfl, rfl, e3, z3, r⟩ := h1
  refine ⟨q, vs, rfl, by simp, e3, z3, r, fun ws b hz hb => ⟨_, σ', [q], O2, rfl, rfl, ⟨q, ws, rfl, rfl, upd_same, hz, hb⟩, ?_⟩⟩
  refine Cxt.mono (fun _ _ h => h) _ (fun z hz o e => ?_) h2
  have : z ≠ q := fun e => by
    subst e
    simp at nd
    exact nd.1 hz
  rw [upd_ne this]; exact e⟩
theorem WrD.s {α γ S : Type} {c : Cd α} {j : Sl γ} {Γ : Cxt S} {i : Nat} {g : S → α} {p : S → α → S} (h : WrD Γ i c g p) : WrD (.cons j Γ) (i + 1) c (fun s => g s.2) (fun s b => (s.1, p s.2 b)) := ⟨by
  rintro K G H σ O s hr nd
  obtain ⟨y, σ', O1, O2, rfl, rfl, h1, h2⟩ := hr
  obtain ⟨q, vs, e1, e2, e3, z3, r, hw⟩ := h.write h2 (List.nodup_append.mp nd).2.1
  refine ⟨q, vs, by simpa using e1, List.mem_append_right _ e2, e3, z3, r, fun ws b hz hb => ⟨_, σ', O1, O2, rfl, rfl, ?_, hw ws b hz hb⟩⟩
  refine Sl.mono (fun _ _ h => h) _ (fun z hz o e => ?_) h1
  have : z ≠ q := fun e => (List.nodup_append.mp nd).2.2 z hz q e2 e
  rw [upd_ne this]; exact e⟩
/-! ### forgetting, widening, freezing -/
structure Tc {α β : Type} (τ : Ty α) (τ' : Ty β) (g : α → β) : Prop where
  to : ∀ {K : PySem.W.Frag} {H : Hp} {v : V} {a : α}, τ.rep K H v a → τ'.rep K H v (g a)
structure Cv {α β : Type} (k : Sl α) (j : Sl β) (g : α → β) : Prop where
  to : ∀ {K : PySem.W.Frag} {G H : Hp} {x : Option V} {O : List Addr} {a : α}, k.rep K G H x O a → ∃ O', O'.Sublist O ∧ ∀ {G' : Hp}, Same G G' → (∀ p ∈ O, p ∉ O' → G' p = H p) → j.rep K G' H x O' (g a)
theorem Cv.same {α : Type} {k : Sl α} : Cv k k (fun a => a) := ⟨fun {K G H x O a} h => ⟨O, List.Sublist.refl O, fun s _ => Sl.mono s k (fun _ _ _ e => e) h⟩⟩
theorem Cv.drop {α : Type} {k : Sl α} : Cv k .any (fun _ => ()) := ⟨fun {K G H x O a} h => ⟨[], List.nil_sublist O, fun s _ => rfl⟩⟩
theorem Cv.val {α β : Type} {τ : Ty α} {τ' : Ty β} {g : α → β} (h : Tc τ τ' g) : Cv (.val τ) (.val τ') g := ⟨fun {K G H x O a} r => by
  obtain ⟨e, v, e2, r⟩ := r
  exact ⟨[], List.nil_sublist O, fun s _ => ⟨rfl, v, e2, h.to (τ.mono s r)⟩⟩⟩
theorem Cv.freeze {α : Type} {w : Option Addr} {c : Ct α} : Cv (.own w c) (.val c.ty) (fun a => a) := ⟨fun {K G H x O a} r => by
  obtain ⟨p, vs, eq, e, e2, e3, z, r⟩ := r
  refine ⟨[], List.nil_sublist O, fun s h => ⟨rfl, _, e2, p, vs, rfl, ?_, z, c.mono s r⟩⟩
  rw [h p (by rw [e]; simp) (by simp)]; exact e3⟩
structure Wk {S S' : Type} (Γ : Cxt S) (Γ' : Cxt S') (g : S → S') : Prop where
  to : ∀ {K : PySem.W.Frag} {G H : Hp} {σ : L2.St} {O : List Addr} {s : S}, Γ.rep K G H σ O s → O.Nodup → ∃ O', O'.Sublist O ∧ ∀ {G' : Hp}, Same G G' → (∀ p ∈ O, p ∉ O' → G' p = H p) → Γ'.rep K G' H σ O' (g s)
theorem Wk.nil : Wk .nil .nil (fun s => s) := ⟨fun {K G H σ O s} h _ => ⟨O, List.Sublist.refl O, fun _ _ => h⟩⟩
theorem Wk.cons {α β S S' : Type} {k : Sl α} {j : Sl β} {Γ : Cxt S} {Γ' : Cxt S'} {f : α → β} {g : S → S'} (h1 : Cv k j f) (h2 : Wk Γ Γ' g) : Wk (.cons k Γ) (.cons j Γ') (fun s => (f s.1, g s.2)) := ⟨by
  rintro K G H σ O s ⟨x, σ', O1, O2, rfl, rfl, r1, r2⟩ nd
  obtain ⟨n1, n2, n3⟩ := List.nodup_append.mp nd
  obtain ⟨P1, s1, q1⟩ := h1.to r1
  obtain ⟨P2, s2, q2⟩ := h2.to r2 n2
  refine ⟨P1 ++ P2, s1.append s2, fun {G'} sm hp => ⟨x, σ', P1, P2, rfl, rfl, q1 sm fun p h h' => hp p (List.mem_append_left _ h) fun z => ?_, q2 sm fun p h h' => hp p (List.mem_append_right _ h) fun z => ?_⟩⟩
  · rcases List.mem_append.mp z with z | z
    · exact h' z
    · exact n3 p h p (s2.subset z) rfl
  · rcases List.mem_append.mp z with z | z
    · exact n3 p (s1.subset z) p h rfl
    · exact h' z⟩
end TL
/-! TL2: expressions that change nothing. -/
namespace TL
open PySem PySem.Spec PyProof.Rows L2
/-- what may be hidden: it stands, and is no tuple -/
def Hidn (H : Hp) (p : Addr) : Prop := ∃ o, H p = some o ∧ ∀ xs, o ≠ .tup xs
theorem Hidn.ne {H : Hp} {p : Addr} (h : Hidn H p) : H p ≠ none := fun z => by
  obtain ⟨o, e, _⟩ := h
  rw [e] at z
  cases z
theorem Hidn.same {H H' : Hp} {p : Addr} (h : Hidn H p) (s : Same H H') : Hidn H' p := by
  obtain ⟨o, e, n⟩ := h
  exact ⟨o, s _ _ e, n⟩
theorem Hidn.lst {H : Hp} {p : Addr} {vs : List V} (e : H p = some (.lst vs)) : Hidn H p := ⟨_, e, fun _ h => by cases h⟩
theorem Hidn.dT {H : Hp} {p : Addr} {vs : List (List L2.Key × V)} (e : H p = some (.dT vs)) : Hidn H p := ⟨_, e, fun _ h => by cases h⟩
/-- the slots at a heap, O hidden -/
structure Sx (K : PySem.W.Frag) (O : List Addr) {S : Type} (Γ : Cxt S) (σ : L2.St) (H : Hp) (s : S) : Prop where
  ex : ∃ Og, (∀ p ∈ Og, p ∈ O) ∧ Γ.rep K (cut H O) H σ Og s
  hid : ∀ p ∈ O, Hidn H p
/-- the wish of the exception number c -/
def Exw (E : XK) (ca : Nat → Addr) (H : Hp) (c : Nat) : Prop := ∀ d H', Same H H' → E (.ref (ca c)) d H'
theorem Exw.grow {E : XK} {ca : Nat → Addr} {H H' : Hp} {c : Nat} (s : Same H H') (h : Exw E ca H c) : Exw E ca H' c := fun d H2 s2 => h d H2 (s.trans s2)
section
variable {K : PySem.W.Frag} {O : List Addr} {S : Type} {Γ : Cxt S} {σ : L2.St} {H H' : Hp} {s : S}
theorem Sx.grow (h : Sx K O Γ σ H s) (e : Same H H') : Sx K O Γ σ H' s := by
  obtain ⟨⟨Og, h1, h2⟩, hd⟩ := h
  refine ⟨⟨Og, h1, Γ.mono (cut_grow e) (fun p _ o z => e p o z) h2⟩, fun p hp => (hd p hp).same e⟩
/-- a new address is not hidden -/
theorem Sx.out (h : Sx K O Γ σ H s) {p : Addr} (n : H p = none) : p ∉ O := fun hp => (h.hid p hp).ne n
/-- .. with one more hidden -/
theorem Sx.hide (h : Sx K O Γ σ H s) {p : Addr} {o : HO} (n : H p = none) (no : ∀ xs, o ≠ .tup xs) : Sx K (p :: O) Γ σ (upd H p o) s := by
  obtain ⟨⟨Og, h1, h2⟩, hd⟩ := h
  have hp : p ∉ O := fun z => (hd p z).ne n
  refine ⟨⟨Og, fun q hq => List.mem_cons_of_mem _ (h1 q hq), Γ.mono (fun b x e => ?_) (fun q hq x e => ?_) h2⟩, fun q hq => ?_⟩
  · have hb : b ≠ p := fun z => by
      subst z
      rw [cut_out hp, n] at e
      cases e
    by_cases hO : b ∈ O
    · rw [cut_in hO] at e; cases e
    · rw [cut_out hO] at e
      rw [cut_out (by simp [hb, hO]), upd_ne hb]; exact e
  · rw [upd_ne (ne_of_none e n)]; exact e
  · rcases List.mem_cons.mp hq with rfl | hq
    · exact ⟨o, upd_same, no⟩
    · have : q ≠ p := fun e => hp (by rw [← e]; exact hq)
      obtain ⟨o', e, n'⟩ := hd q hq
      exact ⟨o', by rw [upd_ne this]; exact e, n'⟩
end
/-- a class of contexts: what the walk may use of them -/
structure Amb where
  P : Program
  w : World
  K : PySem.W.Frag
  mg : Str → Option Value
  base : Heap
  N : List Str
  sc : Scope
  E : XK
  k : Nat
  fn : Str → Bool
structure Amb.In (A : Amb) (X : Cx) : Prop where
  prog : X.prog = A.P
  w : X.w = A.w
  K : X.K = A.K
  mg : X.mg = A.mg
  base : X.base = A.base
  N : X.N = A.N
  sc : X.env.scope = A.sc
  fn : X.fn = A.fn
  nd : A.N.Nodup
  calm : X.calm = true
  room : Room A.k X.A
  pass : Passes (L2.CX A.P A.w) X A.E
  own : PassesOwn (model X.prog X.w) X.A X.env X.xe
  takes : Takes X (fun c d _ H => A.E c d H)
  top : (A.fn = fun _ => true) → X.stack = X.env :: X.outer ∧ X.env.frame = some X.env.locals
variable {A : Amb} {ca : Nat → Addr}
/-- a global name -/
def GlA (A : Amb) (x : Str) : Prop := A.sc.names.lookup x = some .globalImplicit
theorem Amb.In.gl {X : Cx} (h : A.In X) {x : Str} (g : GlA A x) : Gl X x := by
  show X.env.scope.names.lookup x = some .globalImplicit
  rw [h.sc]; exact g
/-- an expression: a value of the type τ, worth f -/
def PX (A : Amb) (ca : Nat → Addr) (e : Expr) {S α : Type} (Γ : Cxt S) (τ : Ty α) (f : S → Rs α) : Prop :=
  ∃ t, (∀ X, A.In X → PE X e t) ∧ ∀ (O : List Addr) (σ : L2.St) (H : Hp) (s : S) (Q : VK), Sx A.K O Γ σ H s →
    (f s).Post (fun a => ∀ v H', Same H H' → τ.rep A.K (cut H' O) v a → Q v H') (Exw A.E ca H) → t σ H Q
/-- .. a new list -/
def PL (A : Amb) (ca : Nat → Addr) (e : Expr) {S α : Type} (Γ : Cxt S) (c : Ct α) (f : S → Rs α) : Prop :=
  ∃ t, (∀ X, A.In X → PE X e t) ∧ ∀ (O : List Addr) (σ : L2.St) (H : Hp) (s : S) (Q : VK), Sx A.K O Γ σ H s →
    (f s).Post (fun a => ∀ p vs H', H p = none → Same H H' → H' p = some (.lst vs) → vs.length ≤ sizeLine → c.rep A.K (cut H' (p :: O)) vs a → Q (.ref p) H') (Exw A.E ca H) → t σ H Q
/-- .. a list that is looked at -/
def BX (A : Amb) (ca : Nat → Addr) (e : Expr) {S α : Type} (Γ : Cxt S) (c : Ct α) (f : S → Rs α) : Prop :=
  ∃ t, (∀ X, A.In X → PE X e t) ∧ ∀ (O : List Addr) (σ : L2.St) (H : Hp) (s : S) (Q : VK), Sx A.K O Γ σ H s →
    (f s).Post (fun a => ∀ p vs H', Same H H' → H' p = some (.lst vs) → vs.length ≤ sizeLine → c.rep A.K (cut H' O) vs a → Q (.ref p) H') (Exw A.E ca H) → t σ H Q
/-- a test -/
def PB (A : Amb) (ca : Nat → Addr) (e : Expr) {S : Type} (Γ : Cxt S) (f : S → Rs Bool) : Prop :=
  ∃ t, (∀ X, A.In X → PT X e t) ∧ ∀ (O : List Addr) (σ : L2.St) (H : Hp) (s : S) (Q : Bool → Hp → Prop), Sx A.K O Γ σ H s →
    (f s).Post (fun a => ∀ H', Same H H' → Q a H') (Exw A.E ca H) → t σ H Q
/-- arguments -/
def PAs (A : Amb) (ca : Nat → Addr) (es : List Expr) {S U : Type} (Γ : Cxt S) (ts : Tys U) (f : S → Rs U) : Prop :=
  ∃ t, (∀ X, A.In X → PA X es t) ∧ ∀ (O : List Addr) (σ : L2.St) (H : Hp) (s : S) (Q : List V → Hp → Prop), Sx A.K O Γ σ H s →
    (f s).Post (fun u => ∀ vs H', Same H H' → ts.rep A.K (cut H' O) vs u → Q vs H') (Exw A.E ca H) → t σ H Q
section
variable {S α β γ : Type} {Γ : Cxt S} {τ : Ty α} {τ' : Ty β} {c : Ct α} {e a b d : Expr} {f : S → Rs α} {g : S → Rs β} {pos p p2 : Pos}
theorem cut_cons {H : Hp} {O : List Addr} {p : Addr} : Same (cut H (p :: O)) (cut H O) := cut_sub fun q hq => List.mem_cons_of_mem _ hq
theorem PL.px (h : PL A ca e Γ c f) : PX A ca e Γ c.ty f := by
  obtain ⟨t, ht, q⟩ := h
  refine ⟨t, ht, fun O σ H s Q hs hp => q O σ H s Q hs (hp.mono (fun a k p vs H' n sm e z r => k _ H' sm ⟨p, vs, rfl, ?_, z, c.mono cut_cons r⟩) fun _ z => z)⟩
  rw [cut_out (hs.out n)]; exact e
theorem PL.bx (h : PL A ca e Γ c f) : BX A ca e Γ c f := by
  obtain ⟨t, ht, q⟩ := h
  exact ⟨t, ht, fun O σ H s Q hs hp => q O σ H s Q hs (hp.mono (fun a k p vs H' n sm e z r => k p vs H' sm e z (c.mono cut_cons r)) fun _ z => z)⟩
theorem PX.bx (h : PX A ca e Γ c.ty f) : BX A ca e Γ c f := by
  obtain ⟨t, ht, q⟩ := h
  refine ⟨t, ht, fun O σ H s Q hs hp => q O σ H s Q hs (hp.mono (fun a k v H' sm r => ?_) fun _ z => z)⟩
  obtain ⟨p, vs, rfl, e, z, r⟩ := r
  exact k p vs H' sm (cut_le _ _ e) z r
theorem PX.co {g : α → β} (h : PX A ca e Γ τ f) (hc : Tc τ τ' g) : PX A ca e Γ τ' (fun s => (f s).bind fun a => .ok (g a)) := by
  obtain ⟨t, ht, q⟩ := h
  exact ⟨t, ht, fun O σ H s Q hs hp => q O σ H s Q hs ((Rs.post_bind hp).mono (fun a k v H' sm r => k v H' sm (hc.to r)) fun _ z => z)⟩
theorem PX.eq {f' : S → Rs α} (h : PX A ca e Γ τ f) (hf : ∀ s, f s = f' s) : PX A ca e Γ τ f' := by
  have : f = f' := funext hf
  rw [← this]; exact h
/-! ### names, constants -/
theorem PX.var {g : S → α} {i : Nat} {x : Str} (at_ : At Γ i (.val τ) g) (hN : A.N[i]? = some x) (hv : Vis A.sc x) (hd : (x == ("__debug__" : Str)) = false := by decide) (hcd : (x == ("__classdict__" : Str)) = false := by decide) :
    PX A ca (.Name x pos) Γ τ (fun s => .ok (g s)) := by
  refine ⟨_, fun X hX => pe_var (by rw [hX.N]; exact hN) (by rw [hX.sc]; exact hv) hd hcd, fun O σ H s Q hs hp => ?_⟩
  obtain ⟨⟨Og, h1, h2⟩, hd⟩ := hs
  obtain ⟨x, Oi, e, _, rfl, v, rfl, r⟩ := at_.val h2
  exact ⟨v, e, hp v H (Same.refl H) r⟩
theorem BX.var {g : S → α} {i : Nat} {w : Option Addr} {x : Str} (at_ : At Γ i (.own w c) g) (hN : A.N[i]? = some x) (hv : Vis A.sc x) (hd : (x == ("__debug__" : Str)) = false := by decide) (hcd : (x == ("__classdict__" : Str)) = false := by decide) :
    BX A ca (.Name x pos) Γ c (fun s => .ok (g s)) := by
  refine ⟨_, fun X hX => pe_var (by rw [hX.N]; exact hN) (by rw [hX.sc]; exact hv) hd hcd, fun O σ H s Q hs hp => ?_⟩
  obtain ⟨⟨Og, h1, h2⟩, hd⟩ := hs
  obtain ⟨x, Oi, e, _, q, vs, _, rfl, rfl, e3, z3, r⟩ := at_.val h2
  exact ⟨_, e, hp q vs H (Same.refl H) e3 z3 r⟩
theorem PX.int {i : Int} {j : Nat} : PX A ca (.Constant (.int i) j pos) Γ tI (fun _ => .ok i) := ⟨_, fun X hX => pe_int, fun O σ H s Q hs hp => hp _ H (Same.refl H) rfl⟩
theorem PX.bl {i : Bool} {j : Nat} : PX A ca (.Constant (.bool i) j pos) Γ tB (fun _ => .ok i) := ⟨_, fun X hX => pe_bl, fun O σ H s Q hs hp => hp _ H (Same.refl H) rfl⟩
theorem PX.non {j : Nat} : PX A ca (.Constant .none j pos) Γ tN (fun _ => .ok ()) := ⟨_, fun X hX => pe_non, fun O σ H s Q hs hp => hp _ H (Same.refl H) rfl⟩
theorem PX.str {i : Str} {j : Nat} : PX A ca (.Constant (.str i) j pos) Γ tS (fun _ => .ok i) := ⟨_, fun X hX => pe_str, fun O σ H s Q hs hp => hp _ H (Same.refl H) rfl⟩
/-- a module's int -/
theorem PX.globI {x : Str} {i : Int} {u : Value} (hg : GlA A x) (hm : A.mg x = some u) (r : RelV (.int i) u) (hd : (x == ("__debug__" : Str)) = false := by decide) : PX A ca (.Name x pos) Γ tI (fun _ => .ok i) :=
  ⟨_, fun X hX => pe_glob (hX.gl hg) (by rw [hX.mg]; exact hm) r hd, fun O σ H s Q hs hp => hp _ H (Same.refl H) rfl⟩
/-! ### two operands -/
theorem PX.two {R : V → V → Hp → Prop} {δ : Type} {k : α → β → Rs δ} {P : δ → Prop} {O : List Addr} {σ : L2.St} {H : Hp} {s : S} {ta tb : TE}
    (ha : ∀ (O : List Addr) (σ : L2.St) (H : Hp) (s : S) (Q : VK), Sx A.K O Γ σ H s → (f s).Post (fun a => ∀ v H', Same H H' → τ.rep A.K (cut H' O) v a → Q v H') (Exw A.E ca H) → ta σ H Q)
    (hb : ∀ (O : List Addr) (σ : L2.St) (H : Hp) (s : S) (Q : VK), Sx A.K O Γ σ H s → (g s).Post (fun a => ∀ v H', Same H H' → τ'.rep A.K (cut H' O) v a → Q v H') (Exw A.E ca H) → tb σ H Q)
    (hs : Sx A.K O Γ σ H s) (hp : ((f s).bind fun x => (g s).bind fun y => k x y).Post P (Exw A.E ca H))
    (h : ∀ x y v u H2, Same H H2 → τ.rep A.K (cut H2 O) v x → τ'.rep A.K (cut H2 O) u y → (k x y).Post P (Exw A.E ca H) → R v u H2) : ta σ H fun v H1 => tb σ H1 fun u H2 => R v u H2 := by
  refine ha O σ H s _ hs ((Rs.post_bind hp).mono (fun x hx v H1 s1 r1 => ?_) fun _ z => z)
  refine hb O σ H1 s _ (hs.grow s1) ((Rs.post_bind hx).mono (fun y hy u H2 s2 r2 => ?_) fun _ z => z.grow s1)
  exact h x y v u H2 (s1.trans s2) (τ.mono (cut_grow s2) r1) r2 hy
/-- an operation on two ints -/
theorem PX.opI {op : Operator} {C : Int → Int → Prop} [hC : ∀ i j, Decidable (C i j)] {fn : Int → Int → Int} {f g : S → Rs Int} (ho : ∀ X, OpR X (binaryOp op) (rI C fun i j => .int (fn i j))) (ha : PX A ca a Γ tI f) (hb : PX A ca b Γ tI g) :
    PX A ca (.BinOp a op b pos) Γ tI (fun s => (f s).bind fun x => (g s).bind fun y => Rs.guard (decide (C x y)) (.ok (fn x y))) := by
  obtain ⟨ta, pa, qa⟩ := ha
  obtain ⟨tb, pb, qb⟩ := hb
  refine ⟨_, fun X hX => pe_op (ho X) (pa X hX) (pb X hX), fun O σ H s Q hs hp => PX.two qa qb hs hp fun x y v u H2 sm r1 r2 k => ?_⟩
  obtain ⟨hc, k⟩ := Rs.post_guard k
  exact ⟨x, y, r1, r2, of_decide_eq_true hc, k _ H2 sm rfl⟩
theorem PX.opI0 {op : Operator} {fn : Int → Int → Int} {f g : S → Rs Int} (ho : ∀ X, OpR X (binaryOp op) (rI0 fun i j => .int (fn i j))) (ha : PX A ca a Γ tI f) (hb : PX A ca b Γ tI g) :
    PX A ca (.BinOp a op b pos) Γ tI (fun s => (f s).bind fun x => (g s).bind fun y => .ok (fn x y)) := by
  obtain ⟨ta, pa, qa⟩ := ha
  obtain ⟨tb, pb, qb⟩ := hb
  exact ⟨_, fun X hX => pe_op (ho X) (pa X hX) (pb X hX), fun O σ H s Q hs hp => PX.two qa qb hs hp fun x y v u H2 sm r1 r2 k => ⟨x, y, r1, r2, k _ H2 sm rfl⟩⟩
instance {i j : Int} : Decidable (CMul i j) := by unfold CMul; exact inferInstance
instance {i j : Int} : Decidable (CDivN i j) := by unfold CDivN; exact inferInstance
instance {i j : Int} : Decidable (CPow i j) := by unfold CPow; exact inferInstance
theorem PX.add {f g : S → Rs Int} (ha : PX A ca a Γ tI f) (hb : PX A ca b Γ tI g) : PX A ca (.BinOp a .Add b pos) Γ tI (fun s => (f s).bind fun x => (g s).bind fun y => .ok (x + y)) := PX.opI0 (fun _ => op_add) ha hb
theorem PX.sub {f g : S → Rs Int} (ha : PX A ca a Γ tI f) (hb : PX A ca b Γ tI g) : PX A ca (.BinOp a .Sub b pos) Γ tI (fun s => (f s).bind fun x => (g s).bind fun y => .ok (x - y)) := PX.opI0 (fun _ => op_sub) ha hb
theorem PX.mul {f g : S → Rs Int} (ha : PX A ca a Γ tI f) (hb : PX A ca b Γ tI g) : PX A ca (.BinOp a .Mult b pos) Γ tI (fun s => (f s).bind fun x => (g s).bind fun y => Rs.guard (decide (CMul x y)) (.ok (x * y))) := PX.opI (fun _ => op_mul) ha hb
theorem PX.fdiv {f g : S → Rs Int} (ha : PX A ca a Γ tI f) (hb : PX A ca b Γ tI g) : PX A ca (.BinOp a .FloorDiv b pos) Γ tI (fun s => (f s).bind fun x => (g s).bind fun y => Rs.guard (decide (CDivN x y)) (.ok (x.fdiv y))) := PX.opI (fun _ => op_fdivN) ha hb
theorem PX.mod {f g : S → Rs Int} (ha : PX A ca a Γ tI f) (hb : PX A ca b Γ tI g) : PX A ca (.BinOp a .Mod b pos) Γ tI (fun s => (f s).bind fun x => (g s).bind fun y => Rs.guard (decide (y ≠ 0)) (.ok (x.fmod y))) := PX.opI (fun _ => op_modN) ha hb
theorem PX.pow {f g : S → Rs Int} (ha : PX A ca a Γ tI f) (hb : PX A ca b Γ tI g) : PX A ca (.BinOp a .Pow b pos) Γ tI (fun s => (f s).bind fun x => (g s).bind fun y => Rs.guard (decide (CPow x y)) (.ok (x ^ y.toNat))) := PX.opI (fun _ => op_pow) ha hb
theorem PX.neg {f : S → Rs Int} (ha : PX A ca a Γ tI f) : PX A ca (.UnaryOp .USub a pos) Γ tI (fun s => (f s).bind fun x => .ok (-x)) := by
  obtain ⟨ta, pa, qa⟩ := ha
  refine ⟨_, fun X hX => pe_un un_neg (pa X hX), fun O σ H s Q hs hp => qa O σ H s _ hs ((Rs.post_bind hp).mono (fun x k v H' sm r => ⟨x, r, k _ H' sm rfl⟩) fun _ z => z)⟩
/-! ### comparisons -/
theorem PX.cmpI {op : CmpOp} {fn : Int → Int → Bool} {f g : S → Rs Int} (ho : ∀ X, OpR X (compareOp op) (rI0 fun i j => .bl (fn i j))) (hm : behindInMarks op b = false) (ha : PX A ca a Γ tI f) (hb : PX A ca b Γ tI g) :
    PX A ca (.Compare a [op] [b] pos) Γ tB (fun s => (f s).bind fun x => (g s).bind fun y => .ok (fn x y)) := by
  obtain ⟨ta, pa, qa⟩ := ha
  obtain ⟨tb, pb, qb⟩ := hb
  exact ⟨_, fun X hX => pe_cmpR (ho X) (pa X hX) (pb X hX) hm, fun O σ H s Q hs hp => PX.two qa qb hs hp fun x y v u H2 sm r1 r2 k => ⟨x, y, r1, r2, k _ H2 sm rfl⟩⟩
theorem PB.cmpI {op : CmpOp} {fn : Int → Int → Bool} {f g : S → Rs Int} (ho : ∀ X, OpR X (compareOp op) (rI0 fun i j => .bl (fn i j))) (hm : behindInMarks op b = false) (ha : PX A ca a Γ tI f) (hb : PX A ca b Γ tI g) :
    PB A ca (.Compare a [op] [b] pos) Γ (fun s => (f s).bind fun x => (g s).bind fun y => .ok (fn x y)) := by
  obtain ⟨ta, pa, qa⟩ := ha
  obtain ⟨tb, pb, qb⟩ := hb
  exact ⟨_, fun X hX => pt_cmpR (ho X) (pa X hX) (pb X hX) hm, fun O σ H s Q hs hp => PX.two qa qb hs hp fun x y v u H2 sm r1 r2 k => ⟨x, y, r1, r2, _, rfl, k H2 sm⟩⟩
theorem op_eqI {X : Cx} : OpR X (compareOp .Eq) (rI0 fun i j => .bl (decide (i = j))) := fun pins s σ H x y v u Q I rx ry ⟨i, j, hx, hy, q⟩ => by
  subst hx hy
  refine op_eq pins s σ H _ _ v u Q I rx ry ⟨rfl, ?_⟩
  have : decide (V.int i = V.int j) = decide (i = j) := by
    by_cases h : i = j
    · rw [decide_eq_true h, decide_eq_true (by rw [h])]
    · rw [decide_eq_false h, decide_eq_false fun z => h (V.int.inj z)]
  rw [this]; exact q
theorem op_neI {X : Cx} : OpR X (compareOp .NotEq) (rI0 fun i j => .bl (!decide (i = j))) := fun pins s σ H x y v u Q I rx ry ⟨i, j, hx, hy, q⟩ => by
  subst hx hy
  refine op_ne pins s σ H _ _ v u Q I rx ry ⟨rfl, ?_⟩
  have : decide (V.int i = V.int j) = decide (i = j) := by
    by_cases h : i = j
    · rw [decide_eq_true h, decide_eq_true (by rw [h])]
    · rw [decide_eq_false h, decide_eq_false fun z => h (V.int.inj z)]
  rw [this]; exact q
theorem PX.lt {f g : S → Rs Int} (ha : PX A ca a Γ tI f) (hb : PX A ca b Γ tI g) : PX A ca (.Compare a [.Lt] [b] pos) Γ tB (fun s => (f s).bind fun x => (g s).bind fun y => .ok (decide (x < y))) := PX.cmpI (fun _ => op_lt) (nomark _) ha hb
theorem PX.le {f g : S → Rs Int} (ha : PX A ca a Γ tI f) (hb : PX A ca b Γ tI g) : PX A ca (.Compare a [.LtE] [b] pos) Γ tB (fun s => (f s).bind fun x => (g s).bind fun y => .ok (decide (x ≤ y))) := PX.cmpI (fun _ => op_le) (nomark _) ha hb
theorem PX.gt {f g : S → Rs Int} (ha : PX A ca a Γ tI f) (hb : PX A ca b Γ tI g) : PX A ca (.Compare a [.Gt] [b] pos) Γ tB (fun s => (f s).bind fun x => (g s).bind fun y => .ok (decide (y < x))) := PX.cmpI (fun _ => op_gt) (nomark _) ha hb
theorem PX.ge {f g : S → Rs Int} (ha : PX A ca a Γ tI f) (hb : PX A ca b Γ tI g) : PX A ca (.Compare a [.GtE] [b] pos) Γ tB (fun s => (f s).bind fun x => (g s).bind fun y => .ok (decide (y ≤ x))) := PX.cmpI (fun _ => op_ge) (nomark _) ha hb
theorem PX.eqI {f g : S → Rs Int} (ha : PX A ca a Γ tI f) (hb : PX A ca b Γ tI g) : PX A ca (.Compare a [.Eq] [b] pos) Γ tB (fun s => (f s).bind fun x => (g s).bind fun y => .ok (decide (x = y))) := PX.cmpI (fun _ => op_eqI) (nomark _) ha hb
theorem PX.neI {f g : S → Rs Int} (ha : PX A ca a Γ tI f) (hb : PX A ca b Γ tI g) : PX A ca (.Compare a [.NotEq] [b] pos) Γ tB (fun s => (f s).bind fun x => (g s).bind fun y => .ok (!decide (x = y))) := PX.cmpI (fun _ => op_neI) (nomark _) ha hb
theorem PB.lt {f g : S → Rs Int} (ha : PX A ca a Γ tI f) (hb : PX A ca b Γ tI g) : PB A ca (.Compare a [.Lt] [b] pos) Γ (fun s => (f s).bind fun x => (g s).bind fun y => .ok (decide (x < y))) := PB.cmpI (fun _ => op_lt) (nomark _) ha hb
theorem PB.le {f g : S → Rs Int} (ha : PX A ca a Γ tI f) (hb : PX A ca b Γ tI g) : PB A ca (.Compare a [.LtE] [b] pos) Γ (fun s => (f s).bind fun x => (g s).bind fun y => .ok (decide (x ≤ y))) := PB.cmpI (fun _ => op_le) (nomark _) ha hb
theorem PB.gt {f g : S → Rs Int} (ha : PX A ca a Γ tI f) (hb : PX A ca b Γ tI g) : PB A ca (.Compare a [.Gt] [b] pos) Γ (fun s => (f s).bind fun x => (g s).bind fun y => .ok (decide (y < x))) := PB.cmpI (fun _ => op_gt) (nomark _) ha hb
theorem PB.ge {f g : S → Rs Int} (ha : PX A ca a Γ tI f) (hb : PX A ca b Γ tI g) : PB A ca (.Compare a [.GtE] [b] pos) Γ (fun s => (f s).bind fun x => (g s).bind fun y => .ok (decide (y ≤ x))) := PB.cmpI (fun _ => op_ge) (nomark _) ha hb
theorem PB.eqI {f g : S → Rs Int} (ha : PX A ca a Γ tI f) (hb : PX A ca b Γ tI g) : PB A ca (.Compare a [.Eq] [b] pos) Γ (fun s => (f s).bind fun x => (g s).bind fun y => .ok (decide (x = y))) := PB.cmpI (fun _ => op_eqI) (nomark _) ha hb
theorem PB.neI {f g : S → Rs Int} (ha : PX A ca a Γ tI f) (hb : PX A ca b Γ tI g) : PB A ca (.Compare a [.NotEq] [b] pos) Γ (fun s => (f s).bind fun x => (g s).bind fun y => .ok (!decide (x = y))) := PB.cmpI (fun _ => op_neI) (nomark _) ha hb
/-- not None: the values of τ are never None -/
structure NN {α : Type} (τ : Ty α) : Prop where
  nn : ∀ {K : PySem.W.Frag} {H : Hp} {v : V} {a : α}, τ.rep K H v a → v ≠ .non
theorem NN.int : NN tI := ⟨fun h z => by rw [h] at z; cases z⟩
theorem NN.bl : NN tB := ⟨fun h z => by rw [h] at z; cases z⟩
theorem NN.str : NN tS := ⟨fun h z => by rw [h] at z; cases z⟩
theorem NN.tup {α : Type} {ts : Tys α} : NN (tTup ts) := ⟨fun h z => by obtain ⟨_, _, e, _⟩ := h; rw [e] at z; cases z⟩
theorem NN.lup {α : Type} {ts : Tys α} : NN (tLup ts) := ⟨fun h z => by obtain ⟨_, _, e, _⟩ := h; rw [e] at z; cases z⟩
theorem NN.lst {α : Type} {τ : Ty α} : NN (tL τ) := ⟨fun h z => by obtain ⟨_, _, e, _⟩ := h; rw [e] at z; cases z⟩
theorem NN.tpl {α : Type} {τ : Ty α} : NN (tT τ) := ⟨fun h z => by obtain ⟨_, _, e, _⟩ := h; rw [e] at z; cases z⟩
theorem NN.is {α : Type} {τ : Ty α} (n : NN τ) {K : PySem.W.Frag} {H : Hp} {v : V} {o : Option α} (r : (tO τ).rep K H v o) : decide (v = .non) = o.isNone := by
  cases o with
  | none => rw [show v = .non from r]; rfl
  | some a => exact decide_eq_false (n.nn r)
theorem PX.isN {f : S → Rs (Option α)} (n : NN τ) (ha : PX A ca a Γ (tO τ) f) {j : Nat} : PX A ca (.Compare a [.Is] [.Constant .none j p] pos) Γ tB (fun s => (f s).bind fun x => .ok x.isNone) := by
  obtain ⟨ta, pa, qa⟩ := ha
  refine ⟨_, fun X hX => pe_cmp (pc_isN (pa X hX)) rfl, fun O σ H s Q hs hp => qa O σ H s _ hs ((Rs.post_bind hp).mono (fun x k v H' sm r => ?_) fun _ z => z)⟩
  rw [n.is r]; exact k _ H' sm rfl
theorem PX.notN {f : S → Rs (Option α)} (n : NN τ) (ha : PX A ca a Γ (tO τ) f) {j : Nat} : PX A ca (.Compare a [.IsNot] [.Constant .none j p] pos) Γ tB (fun s => (f s).bind fun x => .ok x.isSome) := by
  obtain ⟨ta, pa, qa⟩ := ha
  refine ⟨_, fun X hX => pe_cmp (pc_notN (pa X hX)) rfl, fun O σ H s Q hs hp => qa O σ H s _ hs ((Rs.post_bind hp).mono (fun x k v H' sm r => ?_) fun _ z => z)⟩
  rw [n.is r]
  have : (!x.isNone) = x.isSome := by cases x <;> rfl
  rw [this]; exact k _ H' sm rfl
/-- a value that is True or False, as a test -/
theorem PX.pb {f : S → Rs Bool} (h : PX A ca e Γ tB f) (he : ∀ env whole, isTrue e env whole = (do let v ← whole; standAt e.pos; holding [v] (truthy v))) : PB A ca e Γ f := by
  obtain ⟨t, ht, q⟩ := h
  exact ⟨_, fun X hX => pt_val (ht X hX) (he X.env), fun O σ H s Q hs hp => q O σ H s _ hs (hp.mono (fun x k v H' sm r => ⟨x, r, k H' sm⟩) fun _ z => z)⟩
/-- a comparison as a test -/
theorem PB.isN {f : S → Rs (Option α)} (n : NN τ) (ha : PX A ca a Γ (tO τ) f) {j : Nat} : PB A ca (.Compare a [.Is] [.Constant .none j p] pos) Γ (fun s => (f s).bind fun x => .ok x.isNone) := by
  obtain ⟨ta, pa, qa⟩ := ha
  refine ⟨_, fun X hX => pt_cmp (pc_isN (pa X hX)) rfl, fun O σ H s Q hs hp => qa O σ H s _ hs ((Rs.post_bind hp).mono (fun x k v H' sm r => ⟨_, rfl, ?_⟩) fun _ z => z)⟩
  rw [n.is r]; exact k H' sm
theorem PB.notN {f : S → Rs (Option α)} (n : NN τ) (ha : PX A ca a Γ (tO τ) f) {j : Nat} : PB A ca (.Compare a [.IsNot] [.Constant .none j p] pos) Γ (fun s => (f s).bind fun x => .ok x.isSome) := by
  obtain ⟨ta, pa, qa⟩ := ha
  refine ⟨_, fun X hX => pt_cmp (pc_notN (pa X hX)) rfl, fun O σ H s Q hs hp => qa O σ H s _ hs ((Rs.post_bind hp).mono (fun x k v H' sm r => ⟨_, rfl, ?_⟩) fun _ z => z)⟩
  rw [n.is r]
  have : (!x.isNone) = x.isSome := by cases x <;> rfl
  rw [this]; exact k H' sm
/-! ### and, or, not -/
/-- a chain of and, or -/
def PBw (A : Amb) (ca : Nat → Addr) (e : Expr) {S : Type} (Γ : Cxt S) (f : S → Rs Bool) : Prop :=
  ∃ t, (∀ X, A.In X → PW X e t) ∧ ∀ (O : List Addr) (σ : L2.St) (H : Hp) (s : S) (Q : Bool → Hp → Prop), Sx A.K O Γ σ H s → (f s).Post (fun a => ∀ H', Same H H' → Q a H') (Exw A.E ca H) → t σ H Q
variable {rest : List Expr} {f1 f2 : S → Rs Bool}
def rAnd (x y : Rs Bool) : Rs Bool := x.bind fun c => if c then y else .ok false
def rOr (x y : Rs Bool) : Rs Bool := x.bind fun c => if c then .ok true else y
theorem PBw.pb (h : PBw A ca e Γ f1) : PB A ca e Γ f1 := let ⟨t, p, q⟩ := h; ⟨t, fun X hX => (p X hX).pt, q⟩
theorem PB.and1 (h : PB A ca a Γ f1) : PBw A ca (.BoolOp .And [a] pos) Γ f1 := let ⟨t, p, q⟩ := h; ⟨t, fun X hX => pw_and1 (p X hX), q⟩
theorem PB.or1 (h : PB A ca a Γ f1) : PBw A ca (.BoolOp .Or [a] pos) Γ f1 := let ⟨t, p, q⟩ := h; ⟨t, fun X hX => pw_or1 (p X hX), q⟩
theorem PB.and (ha : PB A ca a Γ f1) (hb : PBw A ca (.BoolOp .And (b :: rest) pos) Γ f2) : PBw A ca (.BoolOp .And (a :: b :: rest) pos) Γ (fun s => rAnd (f1 s) (f2 s)) := by
  obtain ⟨ta, pa, qa⟩ := ha
  obtain ⟨tb, pb, qb⟩ := hb
  refine ⟨_, fun X hX => pw_and (pa X hX) (pb X hX), fun O σ H s Q hs hp => qa O σ H s _ hs ((Rs.post_bind hp).mono (fun c k H' sm => ?_) fun _ z => z)⟩
  cases c with
  | true => exact iteT (qb O σ H' s _ (hs.grow sm) (k.mono (fun a k H2 s2 => k H2 (sm.trans s2)) fun _ z => z.grow sm))
  | false => exact iteF (k H' sm)
theorem PB.or (ha : PB A ca a Γ f1) (hb : PBw A ca (.BoolOp .Or (b :: rest) pos) Γ f2) : PBw A ca (.BoolOp .Or (a :: b :: rest) pos) Γ (fun s => rOr (f1 s) (f2 s)) := by
  obtain ⟨ta, pa, qa⟩ := ha
  obtain ⟨tb, pb, qb⟩ := hb
  refine ⟨_, fun X hX => pw_or (pa X hX) (pb X hX), fun O σ H s Q hs hp => qa O σ H s _ hs ((Rs.post_bind hp).mono (fun c k H' sm => ?_) fun _ z => z)⟩
  cases c with
  | true => exact iteT (k H' sm)
  | false => exact iteF (qb O σ H' s _ (hs.grow sm) (k.mono (fun a k H2 s2 => k H2 (sm.trans s2)) fun _ z => z.grow sm))
theorem PB.not (ha : PB A ca a Γ f1) : PB A ca (.UnaryOp .Not a pos) Γ (fun s => (f1 s).bind fun c => .ok (!c)) := by
  obtain ⟨ta, pa, qa⟩ := ha
  exact ⟨_, fun X hX => pt_not (pa X hX), fun O σ H s Q hs hp => qa O σ H s _ hs ((Rs.post_bind hp).mono (fun c k H' sm => k H' sm) fun _ z => z)⟩
/-- .. as values -/
theorem PX.one {op : BoolOp} (h : PX A ca a Γ tB f1) : PX A ca (.BoolOp op [a] pos) Γ tB f1 := let ⟨t, p, q⟩ := h; ⟨t, fun X hX => pe_one (p X hX), q⟩
theorem PX.and (ha : PX A ca a Γ tB f1) (hb : PX A ca (.BoolOp .And (b :: rest) pos) Γ tB f2) : PX A ca (.BoolOp .And (a :: b :: rest) pos) Γ tB (fun s => rAnd (f1 s) (f2 s)) := by
  obtain ⟨ta, pa, qa⟩ := ha
  obtain ⟨tb, pb, qb⟩ := hb
  refine ⟨_, fun X hX => pe_and (pa X hX) (pb X hX), fun O σ H s Q hs hp => qa O σ H s _ hs ((Rs.post_bind hp).mono (fun c k v H' sm r => ⟨c, r, ?_⟩) fun _ z => z)⟩
  cases c with
  | true => exact iteT (qb O σ H' s _ (hs.grow sm) (k.mono (fun a k v H2 s2 r => k v H2 (sm.trans s2) r) fun _ z => z.grow sm))
  | false => exact iteF (k _ H' sm rfl)
theorem PX.or (ha : PX A ca a Γ tB f1) (hb : PX A ca (.BoolOp .Or (b :: rest) pos) Γ tB f2) : PX A ca (.BoolOp .Or (a :: b :: rest) pos) Γ tB (fun s => rOr (f1 s) (f2 s)) := by
  obtain ⟨ta, pa, qa⟩ := ha
  obtain ⟨tb, pb, qb⟩ := hb
  refine ⟨_, fun X hX => pe_or (pa X hX) (pb X hX), fun O σ H s Q hs hp => qa O σ H s _ hs ((Rs.post_bind hp).mono (fun c k v H' sm r => ⟨c, r, ?_⟩) fun _ z => z)⟩
  cases c with
  | true => exact iteT (k _ H' sm rfl)
  | false => exact iteF (qb O σ H' s _ (hs.grow sm) (k.mono (fun a k v H2 s2 r => k v H2 (sm.trans s2) r) fun _ z => z.grow sm))
theorem PX.not (ha : PX A ca a Γ tB f1) : PX A ca (.UnaryOp .Not a pos) Γ tB (fun s => (f1 s).bind fun c => .ok (!c)) := by
  obtain ⟨ta, pa, qa⟩ := ha
  exact ⟨_, fun X hX => pe_not (pa X hX), fun O σ H s Q hs hp => qa O σ H s _ hs ((Rs.post_bind hp).mono (fun c k v H' sm r => ⟨c, r, k _ H' sm rfl⟩) fun _ z => z)⟩
theorem PX.ifx {f g : S → Rs α} (hc : PB A ca d Γ f1) (ha : PX A ca a Γ τ f) (hb : PX A ca b Γ τ g) : PX A ca (.IfExp d a b pos) Γ τ (fun s => (f1 s).bind fun c => if c then f s else g s) := by
  obtain ⟨tc, pc, qc⟩ := hc
  obtain ⟨ta, pa, qa⟩ := ha
  obtain ⟨tb, pb, qb⟩ := hb
  refine ⟨_, fun X hX => pe_ifExp (pc X hX) (pa X hX) (pb X hX), fun O σ H s Q hs hp => qc O σ H s _ hs ((Rs.post_bind hp).mono (fun c k H' sm => ?_) fun _ z => z)⟩
  cases c with
  | true => exact iteT (qa O σ H' s _ (hs.grow sm) (k.mono (fun a k v H2 s2 r => k v H2 (sm.trans s2) r) fun _ z => z.grow sm))
  | false => exact iteF (qb O σ H' s _ (hs.grow sm) (k.mono (fun a k v H2 s2 r => k v H2 (sm.trans s2) r) fun _ z => z.grow sm))
/-! ### arguments, tuples, lists -/
def star : Expr → Bool
  | .Starred _ _ => true
  | _ => false
theorem star_each {e : Expr} {es : List Expr} {env : Env} (h : star e = false) : starEach (e :: es) env = (false, eval e env) :: starEach es env := by
  cases e <;> first | rfl | (exact absurd h (by simp [star]))
theorem star_any {pos : Pos} {env : Env} : ∀ {es : List Expr}, es.any star = false → (backTo pos (starEach es env)).any (·.1) = false := by
  intro es h
  have key : ∀ es : List Expr, es.any star = false → ∀ x ∈ starEach es env, x.1 = false := by
    intro es
    induction es with
    | nil => intro _ x hx; simp [starEach] at hx
    | cons e r ih =>
      intro h x hx
      simp only [List.any_cons, Bool.or_eq_false_iff] at h
      rw [star_each h.1] at hx
      rcases List.mem_cons.mp hx with rfl | hx
      · rfl
      · exact ih h.2 x hx
  unfold backTo
  rw [List.any_eq_false]
  intro x hx
  obtain ⟨y, hy, rfl⟩ := List.mem_map.mp hx
  simpa using key es h y hy
theorem PAs.nil : PAs A ca [] Γ .nil (fun _ => .ok ()) := ⟨_, fun X hX => pa_nil, fun O σ H s Q hs hp => hp _ H (Same.refl H) rfl⟩
theorem PAs.one (h : PX A ca e Γ τ f) (hs : star e = false := by rfl) : PAs A ca [e] Γ (.one τ) f := by
  obtain ⟨t, ht, q⟩ := h
  exact ⟨_, fun X hX => pa_cons (ht X hX) pa_nil (star_each hs), fun O σ H s Q hs hp => q O σ H s _ hs (hp.mono (fun a k v H' sm r => k _ H' sm ⟨v, rfl, r⟩) fun _ z => z)⟩
theorem PAs.cons {es : List Expr} {ts : Tys β} (h : PX A ca e Γ τ f) (hr : PAs A ca es Γ ts g) (hs : star e = false := by rfl) : PAs A ca (e :: es) Γ (.cons τ ts) (fun s => (f s).bind fun x => (g s).bind fun y => .ok (x, y)) := by
  obtain ⟨t, ht, q⟩ := h
  obtain ⟨tr, hr, qr⟩ := hr
  refine ⟨_, fun X hX => pa_cons (ht X hX) (hr X hX) (star_each hs), fun O σ H s Q hs hp => q O σ H s _ hs ((Rs.post_bind hp).mono (fun x k v H1 s1 r => ?_) fun _ z => z)⟩
  exact qr O σ H1 s _ (hs.grow s1) ((Rs.post_bind k).mono (fun y k us H2 s2 r2 => k _ H2 (s1.trans s2) ⟨v, us, rfl, τ.mono (cut_grow s2) r, r2⟩) fun _ z => z.grow s1)
theorem upd_cut {H : Hp} {O : List Addr} {p : Addr} {o : HO} (h : p ∉ O) : cut (upd H p o) O p = some o := by rw [cut_out h, upd_same]
theorem Sx.out' {K : PySem.W.Frag} {O : List Addr} {σ : L2.St} {H H' : Hp} {s : S} (h : Sx K O Γ σ H s) (e : Same H H') {p : Addr} (n : H' p = none) : p ∉ O := h.out (e.free n)
theorem PX.tup {es : List Expr} {ts : Tys α} {k : Nat} (h : PAs A ca es Γ ts f) (hl : ts.len ≤ 1000 := by decide) : PX A ca (.Tuple es k pos) Γ (tTup ts) f := by
  obtain ⟨t, ht, q⟩ := h
  refine ⟨_, fun X hX => pe_tup (ht X hX), fun O σ H s Q hs hp => q O σ H s _ hs (hp.mono (fun a k vs H' sm r => ⟨?_, fun p n => ?_⟩) fun _ z => z)⟩
  · rw [ts.length r]; exact Nat.le_of_lt (small1000 hl)
  · refine k _ _ (sm.trans (same_upd n)) ⟨p, vs, rfl, upd_cut (hs.out' sm n), ts.mono (cut_grow (same_upd n)) r⟩
/-- (): the empty tuple of anything -/
theorem PX.tup0 {k : Nat} : PX A ca (.Tuple [] k pos) Γ (tT τ) (fun _ => .ok []) := by
  refine ⟨_, fun X hX => pe_tup pa_nil, fun O σ H s Q hs hp => ⟨Nat.zero_le _, fun p n => ?_⟩⟩
  exact hp _ _ (same_upd n) ⟨p, [], rfl, upd_cut (hs.out n), Nat.zero_le _, .nil⟩
theorem cut_new {H : Hp} {O : List Addr} {p : Addr} {o : HO} (n : H p = none) : Same (cut H O) (cut (upd H p o) (p :: O)) := fun b x e => by
  by_cases hO : b ∈ O
  · rw [cut_in hO] at e; cases e
  · rw [cut_out hO] at e
    have hb : b ≠ p := ne_of_none e n
    rw [cut_out (by simp [hb, hO]), upd_ne hb]; exact e
/-- a list of fixed places -/
theorem PL.lup {es : List Expr} {ts : Tys α} (h : PAs A ca es Γ ts f) (hl : ts.len ≤ 1000 := by decide) : PL A ca (.List es pos) Γ (cR ts) f := by
  obtain ⟨t, ht, q⟩ := h
  refine ⟨_, fun X hX => pe_lst (ht X hX), fun O σ H s Q hs hp => q O σ H s _ hs (hp.mono (fun a k vs H' sm r => ⟨?_, fun p n => ?_⟩) fun _ z => z)⟩
  · rw [ts.length r]; exact Nat.le_of_lt (small1000 hl)
  · exact k p vs _ (sm.free n) (sm.trans (same_upd n)) upd_same (by rw [ts.length r]; exact Nat.le_of_lt (small1000 hl)) (ts.mono (cut_new n) r)
/-- items of one type -/
inductive PIs (A : Amb) (ca : Nat → Addr) {S α : Type} (Γ : Cxt S) (τ : Ty α) : List Expr → (S → Rs (List α)) → Prop where
  | nil : PIs A ca Γ τ [] (fun _ => .ok [])
  | cons {e : Expr} {es : List Expr} {f : S → Rs α} {g : S → Rs (List α)} (h : PX A ca e Γ τ f) (r : PIs A ca Γ τ es g) (hs : star e = false := by rfl) : PIs A ca Γ τ (e :: es) (fun s => (f s).bind fun x => (g s).bind fun y => .ok (x :: y))
theorem PIs.pa {es : List Expr} {g : S → Rs (List α)} (h : PIs A ca Γ τ es g) : ∃ t, (∀ X, A.In X → PA X es t) ∧ ∀ (O : List Addr) (σ : L2.St) (H : Hp) (s : S) (Q : List V → Hp → Prop), Sx A.K O Γ σ H s →
    (g s).Post (fun u => ∀ vs H', Same H H' → vs.length = es.length → Paired (τ.rep A.K (cut H' O)) vs u → Q vs H') (Exw A.E ca H) → t σ H Q := by
  induction h with
  | nil => exact ⟨_, fun X hX => pa_nil, fun O σ H s Q hs hp => hp _ H (Same.refl H) rfl .nil⟩
  | cons h r hs ih =>
    obtain ⟨t, ht, q⟩ := h
    obtain ⟨tr, hr, qr⟩ := ih
    refine ⟨_, fun X hX => pa_cons (ht X hX) (hr X hX) (star_each hs), fun O σ H s Q hs hp => q O σ H s _ hs ((Rs.post_bind hp).mono (fun x k v H1 s1 r => ?_) fun _ z => z)⟩
    exact qr O σ H1 s _ (hs.grow s1) ((Rs.post_bind k).mono (fun y k us H2 s2 l2 r2 => k _ H2 (s1.trans s2) (by rw [List.length_cons, List.length_cons, l2]) (.cons (τ.mono (cut_grow s2) r) r2)) fun _ z => z.grow s1)
theorem PL.lst {es : List Expr} {g : S → Rs (List α)} (h : PIs A ca Γ τ es g) (hl : es.length ≤ 1000 := by decide) : PL A ca (.List es pos) Γ (cL τ) g := by
  obtain ⟨t, ht, q⟩ := h.pa
  refine ⟨_, fun X hX => pe_lst (ht X hX), fun O σ H s Q hs hp => q O σ H s _ hs (hp.mono (fun a k vs H' sm l r => ⟨?_, fun p n => ?_⟩) fun _ z => z)⟩
  · rw [l]; exact Nat.le_of_lt (small1000 hl)
  · exact k p vs _ (sm.free n) (sm.trans (same_upd n)) upd_same (by rw [l]; exact Nat.le_of_lt (small1000 hl)) (Paired.mono' (cut_new n) r)
end
end TL
/-! TL3: places, lengths, built-ins, slices, sorting, in, calls of defs. -/
namespace TL
open PySem PySem.Spec PyProof.Rows L2
variable {A : Amb} {ca : Nat → Addr}
/-- a built-in's name -/
structure Blt (A : Amb) (x : Str) (u : Value) : Prop where
  gl : GlA A x
  mg : A.mg x = none
  bt : bootBuiltins x = some u
  nn : x ≠ "__name__" := by decide
  db : (x == ("__debug__" : Str)) = false := by decide
section
variable {S α β γ U : Type} {Γ : Cxt S} {τ : Ty α} {τ' : Ty β} {c : Ct α} {e a b d : Expr} {f : S → Rs α} {g : S → Rs β} {pos p p2 : Pos} {x : Str}
theorem call1 {X : Cx} {id : String} {r : List V → Hp → VK → Prop} {ta : TE} (hX : A.In X) (B : Blt A x (.builtin id)) (hr : CallR X (.builtin id) r) (pa : PE X a ta) (hs : star a = false) : PE X (.Call (.Name x p) [a] [] pos) (tCB r (tCons ta tNil)) :=
  pe_callB hr (hX.gl B.gl) (by rw [hX.mg]; exact B.mg) B.bt (pa_cons pa pa_nil (star_each hs)) B.nn B.db (star_each hs) (star_any rfl)
theorem call2 {X : Cx} {id : String} {r : List V → Hp → VK → Prop} {ta tb : TE} (hX : A.In X) (B : Blt A x (.builtin id)) (hr : CallR X (.builtin id) r) (pa : PE X a ta) (pb : PE X b tb) (hs : star a = false) (hs2 : star b = false) : PE X (.Call (.Name x p) [a, b] [] pos) (tCB r (tCons ta (tCons tb tNil))) :=
  pe_callB hr (hX.gl B.gl) (by rw [hX.mg]; exact B.mg) B.bt (pa_cons pa (pa_cons pb pa_nil (star_each hs2)) (star_each hs)) B.nn B.db (star_each hs) (star_any (by simp [hs2]))
theorem callT1 {X : Cx} {T : String} {r : List V → Hp → VK → Prop} {ta : TE} (hX : A.In X) (B : Blt A x (.type T)) (hr : CallR X (.type T) r) (pa : PE X a ta) (hs : star a = false) : PE X (.Call (.Name x p) [a] [] pos) (tCB r (tCons ta tNil)) :=
  pe_callTy hr (hX.gl B.gl) (by rw [hX.mg]; exact B.mg) B.bt (pa_cons pa pa_nil (star_each hs)) B.nn B.db (star_each hs) (star_any rfl)
/-! ### places -/
theorem Paired.get {F : V → α → Prop} {vs : List V} {as : List α} (h : Paired F vs as) : ∀ {i : Nat} {a : α}, as[i]? = some a → ∃ v, vs[i]? = some v ∧ F v a := by
  induction h with
  | nil => intro i a e; simp at e
  | cons r _ ih =>
    intro i a e
    cases i with
    | zero => simp at e; subst e; exact ⟨_, rfl, r⟩
    | succ i => simpa using ih (i := i) (a := a) (by simpa using e)
theorem Paired.atI {F : V → α → Prop} {vs : List V} {as : List α} (h : Paired F vs as) {i : Int} {a : α} (e : atI as i = some a) : ∃ v, atI vs i = some v ∧ F v a := by
  unfold L2.atI at e ⊢
  rw [Paired.length h]
  cases q : ixN as.length i with
  | none => rw [q] at e; cases e
  | some j =>
    rw [q] at e
    obtain ⟨v, h1, h2⟩ := Paired.get h (i := j) e
    exact ⟨v, h1, h2⟩
def PlainA (b : Expr) : Prop := PlainIx b
theorem PX.ixL {f : S → Rs (List α)} {g : S → Rs Int} (hs : PlainIx b) (ha : BX A ca a Γ (cL τ) f) (hb : PX A ca b Γ tI g) : PX A ca (.Subscript a b pos) Γ τ (fun s => (f s).bind fun xs => (g s).bind fun i => Rs.ofOpt (atI xs i)) := by
  obtain ⟨ta, pa, qa⟩ := ha
  obtain ⟨tb, pb, qb⟩ := hb
  refine ⟨tOp (rIxL A.K) ta tb, fun X hX => by rw [← hX.K]; exact pe_ix ix_list (pa X hX) (pb X hX) hs, fun O σ H s Q hs hp => ?_⟩
  refine qa O σ H s _ hs ((Rs.post_bind hp).mono (fun xs k p vs H1 s1 e z r => ?_) fun _ z => z)
  refine qb O σ H1 s _ (hs.grow s1) ((Rs.post_bind k).mono (fun i k v H2 s2 ri => ?_) fun _ z => z.grow s1)
  obtain ⟨y, ey, k⟩ := Rs.post_ofOpt k
  obtain ⟨w, ew, rw⟩ := Paired.atI r ey
  exact ⟨p, vs, i, w, rfl, ri, .inl (.inl (s2 _ _ e)), ew, k w H2 (s1.trans s2) (τ.mono (cut_grow s2) rw)⟩
theorem PX.ixF {f : S → Rs (List α)} {g : S → Rs Int} (hs : PlainIx b) (ha : PX A ca a Γ (tF τ) f) (hb : PX A ca b Γ tI g) : PX A ca (.Subscript a b pos) Γ τ (fun s => (f s).bind fun xs => (g s).bind fun i => Rs.ofOpt (atI xs i)) := by
  obtain ⟨ta, pa, qa⟩ := ha
  obtain ⟨tb, pb, qb⟩ := hb
  refine ⟨tOp (rIxL A.K) ta tb, fun X hX => by rw [← hX.K]; exact pe_ix ix_list (pa X hX) (pb X hX) hs, fun O σ H s Q hs hp => ?_⟩
  refine qa O σ H s _ hs ((Rs.post_bind hp).mono (fun xs k v H1 s1 r => ?_) fun _ z => z)
  obtain ⟨p, vs, rfl, e, z, r⟩ := r
  refine qb O σ H1 s _ (hs.grow s1) ((Rs.post_bind k).mono (fun i k v H2 s2 ri => ?_) fun _ z => z.grow s1)
  obtain ⟨y, ey, k⟩ := Rs.post_ofOpt k
  obtain ⟨w, ew, rw⟩ := Paired.atI r ey
  exact ⟨p, vs, i, w, rfl, ri, s2.seq ((cut_le (O := O)).seq e), ew, k w H2 (s1.trans s2) (τ.mono (cut_grow s2) rw)⟩
theorem PX.ixT {f : S → Rs (List α)} {g : S → Rs Int} (hs : PlainIx b) (ha : PX A ca a Γ (tT τ) f) (hb : PX A ca b Γ tI g) : PX A ca (.Subscript a b pos) Γ τ (fun s => (f s).bind fun xs => (g s).bind fun i => Rs.ofOpt (atI xs i)) := by
  obtain ⟨ta, pa, qa⟩ := ha
  obtain ⟨tb, pb, qb⟩ := hb
  refine ⟨tOp (rIxT A.K) ta tb, fun X hX => by rw [← hX.K]; exact pe_ix ix_tup (pa X hX) (pb X hX) hs, fun O σ H s Q hs hp => ?_⟩
  refine qa O σ H s _ hs ((Rs.post_bind hp).mono (fun xs k v H1 s1 r => ?_) fun _ z => z)
  obtain ⟨p, vs, rfl, e, z, r⟩ := r
  refine qb O σ H1 s _ (hs.grow s1) ((Rs.post_bind k).mono (fun i k v H2 s2 ri => ?_) fun _ z => z.grow s1)
  obtain ⟨y, ey, k⟩ := Rs.post_ofOpt k
  obtain ⟨w, ew, rw⟩ := Paired.atI r ey
  exact ⟨p, vs, i, w, rfl, ri, .inl (.inl (s2 _ _ (cut_le _ _ e))), ew, k w H2 (s1.trans s2) (τ.mono (cut_grow s2) rw)⟩
/-- a fixed place -/
structure Nth {α β : Type} (ts : Tys α) (i : Nat) (τ : Ty β) (g : α → β) : Prop where
  to : ∀ {K : PySem.W.Frag} {H : Hp} {vs : List V} {a : α}, ts.rep K H vs a → ∃ v, vs[i]? = some v ∧ τ.rep K H v (g a)
theorem Nth.o {τ : Ty α} : Nth (.one τ) 0 τ (fun a => a) := ⟨fun h => by obtain ⟨v, rfl, r⟩ := h; exact ⟨v, rfl, r⟩⟩
theorem Nth.z {τ : Ty α} {ts : Tys β} : Nth (.cons τ ts) 0 τ (fun a => a.1) := ⟨fun h => by obtain ⟨v, r, rfl, h1, h2⟩ := h; exact ⟨v, rfl, h1⟩⟩
theorem Nth.s {τ : Ty α} {ts : Tys β} {i : Nat} {τ' : Ty γ} {g : β → γ} (n : Nth ts i τ' g) : Nth (.cons τ ts) (i + 1) τ' (fun a => g a.2) := ⟨fun h => by
  obtain ⟨v, r, rfl, h1, h2⟩ := h
  obtain ⟨w, e, q⟩ := n.to h2
  exact ⟨w, by simpa using e, q⟩⟩
theorem PX.ixP {ts : Tys α} {i : Nat} {j : Int} {π : α → β} (n : Nth ts i τ' π) (hj : ixN ts.len j = some i) (hs : PlainIx b) (ha : PX A ca a Γ (tTup ts) f) (hb : PX A ca b Γ tI (fun _ => .ok j)) : PX A ca (.Subscript a b pos) Γ τ' (fun s => (f s).bind fun t => .ok (π t)) := by
  obtain ⟨ta, pa, qa⟩ := ha
  obtain ⟨tb, pb, qb⟩ := hb
  refine ⟨tOp (rIxT A.K) ta tb, fun X hX => by rw [← hX.K]; exact pe_ix ix_tup (pa X hX) (pb X hX) hs, fun O σ H s Q hs hp => ?_⟩
  refine qa O σ H s _ hs ((Rs.post_bind hp).mono (fun t k v H1 s1 r => ?_) fun _ z => z)
  obtain ⟨p, vs, rfl, e, r⟩ := r
  refine qb O σ H1 s _ (hs.grow s1) (fun v H2 s2 ri => ?_)
  obtain ⟨w, ew, rw⟩ := n.to r
  refine ⟨p, vs, j, w, rfl, ri, .inl (.inl (s2 _ _ (cut_le _ _ e))), ?_, k w H2 (s1.trans s2) (τ'.mono (cut_grow s2) rw)⟩
  unfold L2.atI
  rw [ts.length r, hj]; exact ew
/-- .. of a list -/
theorem PX.ixR {ts : Tys α} {i : Nat} {j : Int} {π : α → β} (n : Nth ts i τ' π) (hj : ixN ts.len j = some i) (hs : PlainIx b) (ha : BX A ca a Γ (cR ts) f) (hb : PX A ca b Γ tI (fun _ => .ok j)) : PX A ca (.Subscript a b pos) Γ τ' (fun s => (f s).bind fun t => .ok (π t)) := by
  obtain ⟨ta, pa, qa⟩ := ha
  obtain ⟨tb, pb, qb⟩ := hb
  refine ⟨tOp (rIxL A.K) ta tb, fun X hX => by rw [← hX.K]; exact pe_ix ix_list (pa X hX) (pb X hX) hs, fun O σ H s Q hs hp => ?_⟩
  refine qa O σ H s _ hs ((Rs.post_bind hp).mono (fun t k p vs H1 s1 e z r => ?_) fun _ z => z)
  refine qb O σ H1 s _ (hs.grow s1) (fun v H2 s2 ri => ?_)
  obtain ⟨w, ew, rw⟩ := n.to r
  refine ⟨p, vs, j, w, rfl, ri, .inl (.inl (s2 _ _ e)), ?_, k w H2 (s1.trans s2) (τ'.mono (cut_grow s2) rw)⟩
  unfold L2.atI
  rw [ts.length r, hj]; exact ew
/-! ### len -/
def rLen (K : PySem.W.Frag) : List V → Hp → VK → Prop := fun xs H Q => ∃ x n, xs = [x] ∧ LenV K x H n ∧ Q (.int n) H
theorem PX.lenL {f : S → Rs (List α)} (B : Blt A x (.builtin "len")) (ha : BX A ca a Γ (cL τ) f) (hs : star a = false := by rfl) : PX A ca (.Call (.Name x p) [a] [] pos) Γ tI (fun s => (f s).bind fun xs => .ok (xs.length : Nat)) := by
  obtain ⟨ta, pa, qa⟩ := ha
  refine ⟨_, fun X hX => call1 (r := rLen A.K) hX B (by rw [← hX.K]; exact call_len) (pa X hX) hs, fun O σ H s Q hs hp => ?_⟩
  refine qa O σ H s _ hs ((Rs.post_bind hp).mono (fun xs k p vs H1 s1 e z r => ?_) fun _ z => z)
  exact ⟨_, xs.length, rfl, .inl ⟨vs, .inl (.inl e), (Paired.length r).symm⟩, k _ H1 s1 rfl⟩
theorem PX.lenF {f : S → Rs (List α)} (B : Blt A x (.builtin "len")) (ha : PX A ca a Γ (tF τ) f) (hs : star a = false := by rfl) : PX A ca (.Call (.Name x p) [a] [] pos) Γ tI (fun s => (f s).bind fun xs => .ok (xs.length : Nat)) := by
  obtain ⟨ta, pa, qa⟩ := ha
  refine ⟨_, fun X hX => call1 (r := rLen A.K) hX B (by rw [← hX.K]; exact call_len) (pa X hX) hs, fun O σ H s Q hs hp => ?_⟩
  refine qa O σ H s _ hs ((Rs.post_bind hp).mono (fun xs k v H1 s1 r => ?_) fun _ z => z)
  obtain ⟨p, vs, rfl, e, z, r⟩ := r
  exact ⟨_, xs.length, rfl, .inl ⟨vs, (cut_le (O := O)).seq e, (Paired.length r).symm⟩, k _ H1 s1 rfl⟩
theorem PX.lenT {f : S → Rs (List α)} (B : Blt A x (.builtin "len")) (ha : PX A ca a Γ (tT τ) f) (hs : star a = false := by rfl) : PX A ca (.Call (.Name x p) [a] [] pos) Γ tI (fun s => (f s).bind fun xs => .ok (xs.length : Nat)) := by
  obtain ⟨ta, pa, qa⟩ := ha
  refine ⟨_, fun X hX => call1 (r := rLen A.K) hX B (by rw [← hX.K]; exact call_len) (pa X hX) hs, fun O σ H s Q hs hp => ?_⟩
  refine qa O σ H s _ hs ((Rs.post_bind hp).mono (fun xs k v H1 s1 r => ?_) fun _ z => z)
  obtain ⟨p, vs, rfl, e, z, r⟩ := r
  exact ⟨_, xs.length, rfl, .inr ⟨vs, .inl (.inl (cut_le _ _ e)), (Paired.length r).symm⟩, k _ H1 s1 rfl⟩
theorem PX.lenP {ts : Tys α} (B : Blt A x (.builtin "len")) (ha : PX A ca a Γ (tTup ts) f) (hs : star a = false := by rfl) : PX A ca (.Call (.Name x p) [a] [] pos) Γ tI (fun s => (f s).bind fun _ => .ok (ts.len : Nat)) := by
  obtain ⟨ta, pa, qa⟩ := ha
  refine ⟨_, fun X hX => call1 (r := rLen A.K) hX B (by rw [← hX.K]; exact call_len) (pa X hX) hs, fun O σ H s Q hs hp => ?_⟩
  refine qa O σ H s _ hs ((Rs.post_bind hp).mono (fun xs k v H1 s1 r => ?_) fun _ z => z)
  obtain ⟨p, vs, rfl, e, r⟩ := r
  exact ⟨_, ts.len, rfl, .inr ⟨vs, .inl (.inl (cut_le _ _ e)), (ts.length r).symm⟩, k _ H1 s1 rfl⟩
/-! ### min, max, sum, int -/
theorem PX.max2 {f g : S → Rs Int} (B : Blt A x (.builtin "max")) (ha : PX A ca a Γ tI f) (hb : PX A ca b Γ tI g) (h1 : star a = false := by rfl) (h2 : star b = false := by rfl) : PX A ca (.Call (.Name x p) [a, b] [] pos) Γ tI (fun s => (f s).bind fun i => (g s).bind fun j => .ok (max i j)) := by
  obtain ⟨ta, pa, qa⟩ := ha
  obtain ⟨tb, pb, qb⟩ := hb
  refine ⟨_, fun X hX => call2 hX B (call_max2 hX.calm) (pa X hX) (pb X hX) h1 h2, fun O σ H s Q hs hp => PX.two qa qb hs hp fun i j v u H2 sm r1 r2 k => ?_⟩
  refine ⟨i, j, by rw [r1, r2], ?_⟩
  have : (if j > i then j else i) = max i j := by omega
  rw [this]; exact k _ H2 sm rfl
theorem PX.min2 {f g : S → Rs Int} (B : Blt A x (.builtin "min")) (ha : PX A ca a Γ tI f) (hb : PX A ca b Γ tI g) (h1 : star a = false := by rfl) (h2 : star b = false := by rfl) : PX A ca (.Call (.Name x p) [a, b] [] pos) Γ tI (fun s => (f s).bind fun i => (g s).bind fun j => .ok (min i j)) := by
  obtain ⟨ta, pa, qa⟩ := ha
  obtain ⟨tb, pb, qb⟩ := hb
  refine ⟨_, fun X hX => call2 hX B (call_min2 hX.calm) (pa X hX) (pb X hX) h1 h2, fun O σ H s Q hs hp => PX.two qa qb hs hp fun i j v u H2 sm r1 r2 k => ?_⟩
  refine ⟨i, j, by rw [r1, r2], ?_⟩
  have : (if j < i then j else i) = min i j := by omega
  rw [this]; exact k _ H2 sm rfl
theorem Paired.ints {K : PySem.W.Frag} {H : Hp} : ∀ {vs : List V} {ns : List Int}, Paired (tI.rep K H) vs ns → vs = ns.map V.int := by
  intro vs ns h
  induction h with
  | nil => rfl
  | cons r _ ih => rw [show _ = _ from r, ih]; rfl
theorem Paired.ofInts {K : PySem.W.Frag} {H : Hp} : ∀ (ns : List Int), Paired (tI.rep K H) (ns.map V.int) ns
  | [] => .nil
  | n :: r => .cons rfl (Paired.ofInts r)
theorem Paired.bls {K : PySem.W.Frag} {H : Hp} : ∀ {vs : List V} {ns : List Bool}, Paired (tB.rep K H) vs ns → vs = ns.map V.bl := by
  intro vs ns h
  induction h with
  | nil => rfl
  | cons r _ ih => rw [show _ = _ from r, ih]; rfl
def maxL : List Int → Rs Int
  | [] => .bad
  | x :: r => .ok (r.foldl max x)
def minL : List Int → Rs Int
  | [] => .bad
  | x :: r => .ok (r.foldl min x)
theorem foldl_max_ge : ∀ (r : List Int) (x : Int), x ≤ r.foldl max x ∧ ∀ y ∈ r, y ≤ r.foldl max x
  | [], x => ⟨Int.le_refl x, fun y h => by simp at h⟩
  | z :: r, x => by
    obtain ⟨h1, h2⟩ := foldl_max_ge r (max x z)
    refine ⟨by simp only [List.foldl_cons]; omega, fun y hy => ?_⟩
    simp only [List.foldl_cons]
    rcases List.mem_cons.mp hy with rfl | hy
    · omega
    · exact h2 y hy
theorem foldl_max_mem : ∀ (r : List Int) (x : Int), r.foldl max x = x ∨ r.foldl max x ∈ r
  | [], x => .inl rfl
  | z :: r, x => by
    simp only [List.foldl_cons]
    rcases foldl_max_mem r (max x z) with h | h
    · rw [h]
      by_cases q : x ≤ z
      · exact .inr (by rw [Int.max_eq_right q]; simp)
      · exact .inl (by omega)
    · exact .inr (List.mem_cons_of_mem _ h)
theorem foldl_min_le : ∀ (r : List Int) (x : Int), r.foldl min x ≤ x ∧ ∀ y ∈ r, r.foldl min x ≤ y
  | [], x => ⟨Int.le_refl x, fun y h => by simp at h⟩
  | z :: r, x => by
    obtain ⟨h1, h2⟩ := foldl_min_le r (min x z)
    refine ⟨by simp only [List.foldl_cons]; omega, fun y hy => ?_⟩
    simp only [List.foldl_cons]
    rcases List.mem_cons.mp hy with rfl | hy
    · omega
    · exact h2 y hy
theorem foldl_min_mem : ∀ (r : List Int) (x : Int), r.foldl min x = x ∨ r.foldl min x ∈ r
  | [], x => .inl rfl
  | z :: r, x => by
    simp only [List.foldl_cons]
    rcases foldl_min_mem r (min x z) with h | h
    · rw [h]
      by_cases q : z ≤ x
      · exact .inr (by rw [Int.min_eq_right q]; simp)
      · exact .inl (by omega)
    · exact .inr (List.mem_cons_of_mem _ h)
theorem PX.maxL {f : S → Rs (List Int)} (B : Blt A x (.builtin "max")) (ha : BX A ca a Γ (cL tI) f) (hs : star a = false := by rfl) : PX A ca (.Call (.Name x p) [a] [] pos) Γ tI (fun s => (f s).bind TL.maxL) := by
  obtain ⟨ta, pa, qa⟩ := ha
  refine ⟨_, fun X hX => call1 (r := rMax A.K) hX B (by rw [← hX.K]; exact cr_max hX.calm) (pa X hX) hs, fun O σ H s Q hs hp => ?_⟩
  refine qa O σ H s _ hs ((Rs.post_bind hp).mono (fun xs k p vs H1 s1 e z r => ?_) fun _ z => z)
  rw [Paired.ints r] at e
  refine ⟨p, xs, rfl, .inl (.inl e), ?_⟩
  cases xs with
  | nil => exact k.elim
  | cons y w =>
    refine ⟨Nat.zero_lt_succ _, fun m hm hle => ?_⟩
    have : m = w.foldl max y := by
      obtain ⟨h1, h2⟩ := foldl_max_ge w y
      have h3 := hle (w.foldl max y) (by rcases foldl_max_mem w y with h | h; rw [h]; simp; exact List.mem_cons_of_mem _ h)
      rcases List.mem_cons.mp hm with rfl | hm
      · omega
      · have := h2 m hm; omega
    rw [this]; exact k _ H1 s1 rfl
theorem PX.minL {f : S → Rs (List Int)} (B : Blt A x (.builtin "min")) (ha : BX A ca a Γ (cL tI) f) (hs : star a = false := by rfl) : PX A ca (.Call (.Name x p) [a] [] pos) Γ tI (fun s => (f s).bind TL.minL) := by
  obtain ⟨ta, pa, qa⟩ := ha
  refine ⟨_, fun X hX => call1 (r := rMin A.K) hX B (by rw [← hX.K]; exact cr_min hX.calm) (pa X hX) hs, fun O σ H s Q hs hp => ?_⟩
  refine qa O σ H s _ hs ((Rs.post_bind hp).mono (fun xs k p vs H1 s1 e z r => ?_) fun _ z => z)
  rw [Paired.ints r] at e
  refine ⟨p, xs, rfl, .inl (.inl e), ?_⟩
  cases xs with
  | nil => exact k.elim
  | cons y w =>
    refine ⟨Nat.zero_lt_succ _, fun m hm hle => ?_⟩
    have : m = w.foldl min y := by
      obtain ⟨h1, h2⟩ := foldl_min_le w y
      have h3 := hle (w.foldl min y) (by rcases foldl_min_mem w y with h | h; rw [h]; simp; exact List.mem_cons_of_mem _ h)
      rcases List.mem_cons.mp hm with rfl | hm
      · omega
      · have := h2 m hm; omega
    rw [this]; exact k _ H1 s1 rfl
theorem PX.sum {f : S → Rs (List Int)} (B : Blt A x (.builtin "sum")) (ha : BX A ca a Γ (cL tI) f) (hs : star a = false := by rfl) : PX A ca (.Call (.Name x p) [a] [] pos) Γ tI (fun s => (f s).bind fun xs => .ok xs.sum) := by
  obtain ⟨ta, pa, qa⟩ := ha
  refine ⟨_, fun X hX => call1 (r := rSum A.K) hX B (by rw [← hX.K]; exact cr_sum hX.calm) (pa X hX) hs, fun O σ H s Q hs hp => ?_⟩
  refine qa O σ H s _ hs ((Rs.post_bind hp).mono (fun xs k p vs H1 s1 e z r => ?_) fun _ z => z)
  rw [Paired.ints r] at e
  exact ⟨p, xs, rfl, .inl (.inl e), k _ H1 s1 rfl⟩
theorem PX.all {f : S → Rs (List Bool)} (B : Blt A x (.builtin "all")) (ha : BX A ca a Γ (cL tB) f) (hs : star a = false := by rfl) : PX A ca (.Call (.Name x p) [a] [] pos) Γ tB (fun s => (f s).bind fun xs => .ok (xs.all id)) := by
  obtain ⟨ta, pa, qa⟩ := ha
  refine ⟨_, fun X hX => call1 (r := rAll A.K) hX B (by rw [← hX.K]; exact cr_all hX.calm) (pa X hX) hs, fun O σ H s Q hs hp => ?_⟩
  refine qa O σ H s _ hs ((Rs.post_bind hp).mono (fun xs k p vs H1 s1 e z r => ?_) fun _ z => z)
  rw [Paired.bls r] at e
  exact ⟨p, xs, rfl, .inl (.inl e), k _ H1 s1 rfl⟩
theorem PX.any {f : S → Rs (List Bool)} (B : Blt A x (.builtin "any")) (ha : BX A ca a Γ (cL tB) f) (hs : star a = false := by rfl) : PX A ca (.Call (.Name x p) [a] [] pos) Γ tB (fun s => (f s).bind fun xs => .ok (xs.any id)) := by
  obtain ⟨ta, pa, qa⟩ := ha
  refine ⟨_, fun X hX => call1 (r := rAny A.K) hX B (by rw [← hX.K]; exact cr_any hX.calm) (pa X hX) hs, fun O σ H s Q hs hp => ?_⟩
  refine qa O σ H s _ hs ((Rs.post_bind hp).mono (fun xs k p vs H1 s1 e z r => ?_) fun _ z => z)
  rw [Paired.bls r] at e
  exact ⟨p, xs, rfl, .inl (.inl e), k _ H1 s1 rfl⟩
theorem PX.toInt {f : S → Rs Int} (B : Blt A x (.type "int")) (ha : PX A ca a Γ tI f) (hs : star a = false := by rfl) : PX A ca (.Call (.Name x p) [a] [] pos) Γ tI f := by
  obtain ⟨ta, pa, qa⟩ := ha
  refine ⟨_, fun X hX => callT1 hX B call_int1 (pa X hX) hs, fun O σ H s Q hs hp => qa O σ H s _ hs (hp.mono (fun i k v H1 s1 r => .inl ⟨i, by rw [show v = .int i from r], k _ H1 s1 rfl⟩) fun _ z => z)⟩
theorem PX.toIntB {f : S → Rs Bool} (B : Blt A x (.type "int")) (ha : PX A ca a Γ tB f) (hs : star a = false := by rfl) : PX A ca (.Call (.Name x p) [a] [] pos) Γ tI (fun s => (f s).bind fun c => .ok (if c then 1 else 0)) := by
  obtain ⟨ta, pa, qa⟩ := ha
  refine ⟨_, fun X hX => callT1 hX B call_int1 (pa X hX) hs, fun O σ H s Q hs hp => qa O σ H s _ hs ((Rs.post_bind hp).mono (fun i k v H1 s1 r => .inr ⟨i, by rw [show v = .bl i from r], k _ H1 s1 rfl⟩) fun _ z => z)⟩
theorem PX.abs {f : S → Rs Int} (B : Blt A x (.builtin "abs")) (ha : PX A ca a Γ tI f) (hs : star a = false := by rfl) : PX A ca (.Call (.Name x p) [a] [] pos) Γ tI (fun s => (f s).bind fun i => .ok (if i < 0 then -i else i)) := by
  obtain ⟨ta, pa, qa⟩ := ha
  refine ⟨_, fun X hX => call1 hX B call_abs (pa X hX) hs, fun O σ H s Q hs hp => qa O σ H s _ hs ((Rs.post_bind hp).mono (fun i k v H1 s1 r => ⟨i, by rw [show v = .int i from r], k _ H1 s1 rfl⟩) fun _ z => z)⟩
/-! ### list(x), tuple(x) -/
def rList (K : PySem.W.Frag) : List V → Hp → VK → Prop := fun xs H Q => ∃ p ys, xs = [.ref p] ∧ (SqL K H p ys ∨ SqT K H p ys) ∧ ∀ l, H l = none → Q (.ref l) (upd H l (.lst ys))
def rTuple (K : PySem.W.Frag) : List V → Hp → VK → Prop := fun xs H Q => ∃ p ys, xs = [.ref p] ∧ ((SqL K H p ys ∧ ∀ l, H l = none → Q (.ref l) (upd H l (.tup ys))) ∨ (SqT K H p ys ∧ Q (.ref p) H))
theorem PL.listL (B : Blt A x (.type "list")) (ha : BX A ca a Γ c f) (hs : star a = false := by rfl) : PL A ca (.Call (.Name x p) [a] [] pos) Γ c f := by
  obtain ⟨ta, pa, qa⟩ := ha
  refine ⟨_, fun X hX => callT1 (r := rList A.K) hX B (by rw [← hX.K]; exact call_list_of) (pa X hX) hs, fun O σ H s Q hs hp => ?_⟩
  refine qa O σ H s _ hs (hp.mono (fun xs k p vs H1 s1 e z r => ?_) fun _ z => z)
  exact ⟨p, vs, rfl, .inl (.inl (.inl e)), fun l n => k l vs _ (s1.free n) (s1.trans (same_upd n)) upd_same z (c.mono (cut_new n) r)⟩
theorem PL.listF {f : S → Rs (List α)} (B : Blt A x (.type "list")) (ha : PX A ca a Γ (tF τ) f) (hs : star a = false := by rfl) : PL A ca (.Call (.Name x p) [a] [] pos) Γ (cL τ) f := by
  obtain ⟨ta, pa, qa⟩ := ha
  refine ⟨_, fun X hX => callT1 (r := rList A.K) hX B (by rw [← hX.K]; exact call_list_of) (pa X hX) hs, fun O σ H s Q hs hp => ?_⟩
  refine qa O σ H s _ hs (hp.mono (fun xs k v H1 s1 r => ?_) fun _ z => z)
  obtain ⟨p, vs, rfl, e, z, r⟩ := r
  exact ⟨p, vs, rfl, .inl ((cut_le (O := O)).seq e), fun l n => k l vs _ (s1.free n) (s1.trans (same_upd n)) upd_same z (Paired.mono' (cut_new n) r)⟩
theorem PL.listT {f : S → Rs (List α)} (B : Blt A x (.type "list")) (ha : PX A ca a Γ (tT τ) f) (hs : star a = false := by rfl) : PL A ca (.Call (.Name x p) [a] [] pos) Γ (cL τ) f := by
  obtain ⟨ta, pa, qa⟩ := ha
  refine ⟨_, fun X hX => callT1 (r := rList A.K) hX B (by rw [← hX.K]; exact call_list_of) (pa X hX) hs, fun O σ H s Q hs hp => ?_⟩
  refine qa O σ H s _ hs (hp.mono (fun xs k v H1 s1 r => ?_) fun _ z => z)
  obtain ⟨p, vs, rfl, e, z, r⟩ := r
  exact ⟨p, vs, rfl, .inr (.inl (.inl (cut_le _ _ e))), fun l n => k l vs _ (s1.free n) (s1.trans (same_upd n)) upd_same z (Paired.mono' (cut_new n) r)⟩
theorem PX.tupleL {f : S → Rs (List α)} (B : Blt A x (.type "tuple")) (ha : BX A ca a Γ (cL τ) f) (hs : star a = false := by rfl) : PX A ca (.Call (.Name x p) [a] [] pos) Γ (tT τ) f := by
  obtain ⟨ta, pa, qa⟩ := ha
  refine ⟨_, fun X hX => callT1 (r := rTuple A.K) hX B (by rw [← hX.K]; exact call_tuple_of) (pa X hX) hs, fun O σ H s Q hs hp => ?_⟩
  refine qa O σ H s _ hs (hp.mono (fun xs k p vs H1 s1 e z r => ?_) fun _ z => z)
  exact ⟨p, vs, rfl, .inl ⟨.inl (.inl e), fun l n => k _ _ (s1.trans (same_upd n)) ⟨l, vs, rfl, upd_cut (hs.out' s1 n), z, Paired.mono' (cut_grow (same_upd n)) r⟩⟩⟩
theorem PX.tupleT {f : S → Rs (List α)} (B : Blt A x (.type "tuple")) (ha : PX A ca a Γ (tT τ) f) (hs : star a = false := by rfl) : PX A ca (.Call (.Name x p) [a] [] pos) Γ (tT τ) f := by
  obtain ⟨ta, pa, qa⟩ := ha
  refine ⟨_, fun X hX => callT1 (r := rTuple A.K) hX B (by rw [← hX.K]; exact call_tuple_of) (pa X hX) hs, fun O σ H s Q hs hp => ?_⟩
  refine qa O σ H s _ hs (hp.mono (fun xs k v H1 s1 r => ?_) fun _ z => z)
  obtain ⟨p, vs, rfl, e, z, r⟩ := r
  exact ⟨p, vs, rfl, .inr ⟨.inl (.inl (cut_le _ _ e)), k _ _ s1 ⟨p, vs, rfl, e, z, r⟩⟩⟩
/-! ### list + list, list * int, slices -/
theorem Paired.append {F : V → α → Prop} {vs ws : List V} {as bs : List α} (h : Paired F vs as) (h' : Paired F ws bs) : Paired F (vs ++ ws) (as ++ bs) := by
  induction h with
  | nil => exact h'
  | cons r _ ih => exact .cons r ih
theorem Paired.drop {F : V → α → Prop} : ∀ (n : Nat) {vs : List V} {as : List α}, Paired F vs as → Paired F (vs.drop n) (as.drop n)
  | 0, _, _, h => h
  | _ + 1, _, _, .nil => .nil
  | n + 1, _, _, .cons _ t => Paired.drop n t
theorem Paired.take {F : V → α → Prop} : ∀ (n : Nat) {vs : List V} {as : List α}, Paired F vs as → Paired F (vs.take n) (as.take n)
  | 0, _, _, h => .nil
  | _ + 1, _, _, .nil => .nil
  | n + 1, _, _, .cons r t => .cons r (Paired.take n t)
theorem Paired.rep {F : V → α → Prop} {vs : List V} {as : List α} (h : Paired F vs as) : ∀ (n : Nat), Paired F (List.replicate n vs).flatten (List.replicate n as).flatten
  | 0 => .nil
  | n + 1 => by rw [List.replicate_succ, List.replicate_succ, List.flatten_cons, List.flatten_cons]; exact Paired.append h (Paired.rep h n)
theorem PL.cat {f g : S → Rs (List α)} (ha : BX A ca a Γ (cL τ) f) (hb : BX A ca b Γ (cL τ) g) : PL A ca (.BinOp a .Add b pos) Γ (cL τ) (fun s => (f s).bind fun xs => (g s).bind fun ys => Rs.guard (decide (xs.length + ys.length ≤ sizeLine)) (.ok (xs ++ ys))) := by
  obtain ⟨ta, pa, qa⟩ := ha
  obtain ⟨tb, pb, qb⟩ := hb
  refine ⟨_, fun X hX => pe_op op_cat (pa X hX) (pb X hX), fun O σ H s Q hs hp => ?_⟩
  refine qa O σ H s _ hs ((Rs.post_bind hp).mono (fun xs k p vs H1 s1 e z r => ?_) fun _ z => z)
  refine qb O σ H1 s _ (hs.grow s1) ((Rs.post_bind k).mono (fun ys k q ws H2 s2 e2 z2 r2 => ?_) fun _ z => z.grow s1)
  obtain ⟨hc, k⟩ := Rs.post_guard k
  have hz : vs.length + ws.length ≤ sizeLine := by rw [Paired.length r, Paired.length r2]; exact of_decide_eq_true hc
  exact ⟨p, q, vs, ws, rfl, rfl, s2 _ _ e, e2, hz, fun l n => k l _ _ ((s1.trans s2).free n) ((s1.trans s2).trans (same_upd n)) upd_same (by rw [List.length_append]; exact hz) (Paired.append (Paired.mono' (cut_grow s2 |>.trans (cut_new n)) r) (Paired.mono' (cut_new n) r2))⟩
theorem PL.mulI {f : S → Rs (List α)} {g : S → Rs Int} (ha : BX A ca a Γ (cL τ) f) (hb : PX A ca b Γ tI g) : PL A ca (.BinOp a .Mult b pos) Γ (cL τ) (fun s => (f s).bind fun xs => (g s).bind fun n => Rs.guard (decide (-(2 ^ 63) ≤ n ∧ n < 2 ^ 63 ∧ xs.length * n.toNat ≤ sizeLine)) (.ok (List.replicate n.toNat xs).flatten)) := by
  obtain ⟨ta, pa, qa⟩ := ha
  obtain ⟨tb, pb, qb⟩ := hb
  refine ⟨_, fun X hX => pe_op op_rep (pa X hX) (pb X hX), fun O σ H s Q hs hp => ?_⟩
  refine qa O σ H s _ hs ((Rs.post_bind hp).mono (fun xs k p vs H1 s1 e z r => ?_) fun _ z => z)
  refine qb O σ H1 s _ (hs.grow s1) ((Rs.post_bind k).mono (fun n k v H2 s2 rn => ?_) fun _ z => z.grow s1)
  obtain ⟨hc, k⟩ := Rs.post_guard k
  obtain ⟨c1, c2, c3⟩ := of_decide_eq_true hc
  have hz : vs.length * n.toNat ≤ sizeLine := by rw [Paired.length r]; exact c3
  refine ⟨p, n, vs, rfl, rn, s2 _ _ e, c1, c2, hz, fun l nl => k l _ _ ((s1.trans s2).free nl) ((s1.trans s2).trans (same_upd nl)) upd_same ?_ (Paired.rep (Paired.mono' (cut_grow s2 |>.trans (cut_new nl)) r) _)⟩
  have : (List.replicate n.toNat vs).flatten.length = n.toNat * vs.length := by simp
  rw [this, Nat.mul_comm]; exact hz
/-- xs[lo:hi] -/
def sl (xs : List α) (lo hi : Option Int) : List α := (xs.drop (HT.sIx xs.length 0 lo)).take (HT.sIx xs.length xs.length hi - HT.sIx xs.length 0 lo)
theorem Paired.sl {F : V → α → Prop} {vs : List V} {as : List α} (h : Paired F vs as) (lo hi : Option Int) : Paired F (cutV vs lo hi) (TL.sl as lo hi) := by
  unfold cutV TL.sl
  rw [Paired.length h]
  exact Paired.take _ (Paired.drop _ h)
/-- a part of a slice -/
def PPo (A : Amb) (ca : Nat → Addr) (e : Option Expr) {S : Type} (Γ : Cxt S) (f : S → Rs (Option Int)) : Prop :=
  ∃ t, (∀ X, A.In X → PO X e t) ∧ ∀ (O : List Addr) (σ : L2.St) (H : Hp) (s : S) (Q : Option Int → Hp → Prop), Sx A.K O Γ σ H s →
    (f s).Post (fun u => ∀ H', Same H H' → Q u H') (Exw A.E ca H) → t σ H Q
theorem PPo.none : PPo A ca Option.none Γ (fun _ => .ok Option.none) := ⟨_, fun X hX => po_none, fun O σ H s Q hs hp => hp H (Same.refl H)⟩
theorem PPo.some {f : S → Rs Int} (h : PX A ca e Γ tI f) : PPo A ca (Option.some e) Γ (fun s => (f s).bind fun i => .ok (Option.some i)) := by
  obtain ⟨t, ht, q⟩ := h
  exact ⟨_, fun X hX => po_some (ht X hX), fun O σ H s Q hs hp => q O σ H s _ hs ((Rs.post_bind hp).mono (fun i k v H1 s1 r => ⟨i, r, k H1 s1⟩) fun _ z => z)⟩
theorem PL.slice {f : S → Rs (List α)} {l u : S → Rs (Option Int)} {lo hi : Option Expr} (ha : BX A ca a Γ (cL τ) f) (hl : PPo A ca lo Γ l) (hu : PPo A ca hi Γ u) :
    PL A ca (.Subscript a (.Slice lo hi none p2) pos) Γ (cL τ) (fun s => (f s).bind fun xs => (l s).bind fun i => (u s).bind fun j => .ok (TL.sl xs i j)) := by
  obtain ⟨ta, pa, qa⟩ := ha
  obtain ⟨tl, pl, ql⟩ := hl
  obtain ⟨th, ph, qh⟩ := hu
  refine ⟨tSl (rSlL A.K) ta tl th, fun X hX => by rw [← hX.K]; exact pe_slice sl_list (pa X hX) (pl X hX) (ph X hX), fun O σ H s Q hs hp => ?_⟩
  refine qa O σ H s _ hs ((Rs.post_bind hp).mono (fun xs k p vs H1 s1 e z r => ?_) fun _ z => z)
  refine ql O σ H1 s _ (hs.grow s1) ((Rs.post_bind k).mono (fun i k H2 s2 => ?_) fun _ z => z.grow s1)
  refine qh O σ H2 s _ (hs.grow (s1.trans s2)) ((Rs.post_bind k).mono (fun j k H3 s3 => ?_) fun _ z => z.grow (s1.trans s2))
  have s13 := (s1.trans s2).trans s3
  exact ⟨p, vs, rfl, .inl (.inl ((s2.trans s3) _ _ e)), fun q n => k q _ _ (s13.free n) (s13.trans (same_upd n)) upd_same (Nat.le_trans (cutV_length _ _ _) z) (Paired.sl (Paired.mono' (cut_grow (s2.trans s3) |>.trans (cut_new n)) r) _ _)⟩
/-! ### sorted -/
def srt (ns : List Int) : List Int := ns.mergeSort (fun a b => decide (a ≤ b))
theorem srt_perm (ns : List Int) : (srt ns).Perm ns := List.mergeSort_perm ns _
theorem srt_le (ns : List Int) : (srt ns).Pairwise (· ≤ ·) := by
  have h := List.pairwise_mergeSort (le := fun a b : Int => decide (a ≤ b)) (fun a b c h1 h2 => by simp at h1 h2 ⊢; omega) (fun a b => by simp; omega) ns
  exact h.imp fun h => by simpa using h
theorem srt_uniq : ∀ {l m : List Int}, l.Perm m → l.Pairwise (· ≤ ·) → m.Pairwise (· ≤ ·) → l = m := fun h1 h2 h3 =>
  List.Perm.eq_of_pairwise (le := fun a b : Int => decide (a ≤ b)) (fun a b _ _ h h' => by simp at h h'; omega) (h2.imp fun h => by simpa using h) (h3.imp fun h => by simpa using h) h1
theorem PL.sortedI {f : S → Rs (List Int)} (B : Blt A x (.builtin "sorted")) (ha : BX A ca a Γ (cL tI) f) (hs : star a = false := by rfl) : PL A ca (.Call (.Name x p) [a] [] pos) Γ (cL tI) (fun s => (f s).bind fun xs => .ok (srt xs)) := by
  obtain ⟨ta, pa, qa⟩ := ha
  refine ⟨_, fun X hX => call1 (r := rSortedI A.K) hX B (by rw [← hX.K]; exact cr_sortedI) (pa X hX) hs, fun O σ H s Q hs hp => ?_⟩
  refine qa O σ H s _ hs ((Rs.post_bind hp).mono (fun xs k p vs H1 s1 e z r => ?_) fun _ z => z)
  have ev := Paired.ints r
  rw [ev] at e
  refine ⟨p, xs, rfl, .inl (.inl e), fun ns' q pm pw n => ?_⟩
  have : ns' = srt xs := srt_uniq (pm.trans (srt_perm xs).symm) pw (srt_le xs)
  subst this
  refine k q _ _ (s1.free n) (s1.trans (same_upd n)) upd_same ?_ (Paired.ofInts _)
  rw [List.length_map, (srt_perm xs).length_eq, ← Paired.length r]; exact z
/-! ### calls of defs -/
/-- a def's promise: worth m; O is hidden from it -/
def spOf (K : PySem.W.Frag) (ca : Nat → Addr) {U β : Type} (ts : Tys U) (τ : Ty β) (m : U → Rs β) : Sp := fun vs H Q E => ∃ (O : List Addr) (u : U), (∀ p ∈ O, Hidn H p) ∧ ts.rep K (cut H O) vs u ∧
  (m u).Post (fun b => ∀ v H', Same H H' → τ.rep K (cut H' O) v b → Q v H') (Exw E ca H)
/-- a def of the module that keeps it -/
structure Callee (A : Amb) (ca : Nat → Addr) (x : Str) {U β : Type} (ts : Tys U) (τ : Ty β) (m : U → Rs β) : Prop where
  ex : ∃ (f : Addr) (fd : FuncData) (ps : List Str) (k : Nat), k ≤ A.k ∧ FnOk A.P A.w A.K A.mg A.base (L2.CX A.P A.w) k f fd ps (spOf A.K ca ts τ m) ∧ A.mg x = some (.ref f) ∧ PySem.W.keepIn A.K (.ref f) = true ∧ Binds A.K fd ps []
  db : (x == ("__debug__" : Str)) = false := by decide
theorem PX.call {ts : Tys U} {h : S → Rs U} {m : U → Rs β} {es : List Expr} (C : Callee A ca x ts τ' m) (hg : GlA A x) (ha : PAs A ca (e :: es) Γ ts h) (h1 : star e = false := by rfl) (h2 : es.any star = false := by rfl) :
    PX A ca (.Call (.Name x p) (e :: es) [] pos) Γ τ' (fun s => (h s).bind m) := by
  obtain ⟨ta, pa, qa⟩ := ha
  obtain ⟨fa, fd, ps, k, hk, F, hm, kp, hb⟩ := C.ex
  refine ⟨tCall (spOf A.K ca ts τ' m) [] A.E ta, fun X hX => ?_, fun O σ H s Q hs hp => qa O σ H s _ hs ((Rs.post_bind hp).mono (fun u k vs H1 s1 r => ?_) fun _ z => z)⟩
  · obtain ⟨prog, w, K, mg, base, N, sc, fn, nd, calm, room, pass, own, takes, top⟩ := hX
    exact pe_call (k := k) (fd := fd) (ps := ps) (ds := []) (by rw [prog, w, K, mg, base]; exact F) (room.mono hk) (show Gl X x by show X.env.scope.names.lookup x = _; rw [sc]; exact hg) (by rw [mg]; exact hm) (by rw [K]; exact kp) (by rw [K]; exact hb) .nil pass (pa X ⟨prog, w, K, mg, base, N, sc, fn, nd, calm, room, pass, own, takes, top⟩) C.db (star_each h1) (star_any h2)
  · refine ⟨O, u, fun p hp => (hs.grow s1).hid p hp, by rw [List.append_nil]; exact r, k.mono (fun b k v H2 s2 r2 => k v H2 (s1.trans s2) r2) fun _ z => z.grow s1⟩
end
end TL
/-! TL4: what is walked, targets, comprehensions whose elements change nothing. -/
namespace TL
open PySem PySem.Spec PyProof.Rows L2
variable {A : Amb} {ca : Nat → Addr}
/-! ### what is walked -/
structure Wkg (K : PySem.W.Frag) (J : It) (G : Hp) (O : List Addr) {β : Type} (τ : Ty β) (bs : List β) : Prop where
  go : ∀ i H', Same G H' → i < bs.length → J.go i H'
  yl : ∀ i b x H' H'', Same G H' → bs[i]? = some b → J.yld i H' x H'' → Same H' H'' ∧ ∀ O', (∀ p ∈ O', p ∈ O ∨ G p = none) → (∀ p ∈ O', H' p ≠ none) → τ.rep K (cut H'' O') x b
  st : ∀ H', Same G H' → J.stop bs.length H'
theorem Wkg.wide {K : PySem.W.Frag} {J : It} {H1 : Hp} {O : List Addr} {β : Type} {τ : Ty β} {bs : List β} (h : Wkg K J (cut H1 O) [] τ bs) : Wkg K J H1 O τ bs :=
  ⟨fun i H' s hi => h.go i H' (cut_le.trans s) hi, fun i b x H' H'' s hb y => by
    obtain ⟨h1, h2⟩ := h.yl i b x H' H'' (cut_le.trans s) hb y
    refine ⟨h1, fun O' hO hn => h2 O' (fun p hp => ?_) hn⟩
    rcases hO p hp with z | z
    · exact .inr (cut_in z)
    · exact .inr (by
        by_cases q : p ∈ O
        · exact cut_in q
        · rw [cut_out q]; exact z), fun H' s => h.st H' (cut_le.trans s)⟩
theorem cut_sees {G H : Hp} {O O' : List Addr} (s : Same G H) (h : ∀ p ∈ O', p ∈ O ∨ G p = none) : Same (cut G O) (cut H O') := fun b x e => by
  by_cases hb : b ∈ O
  · rw [cut_in hb] at e; cases e
  · rw [cut_out hb] at e
    have : b ∉ O' := fun z => by
      rcases h b z with q | q
      · exact hb q
      · rw [e] at q; cases q
    rw [cut_out this]; exact s _ _ e
section
variable {S α β γ : Type} {Γ : Cxt S} {τ : Ty α} {τ' : Ty β} {c : Ct α} {e a b d tg iter : Expr} {pos p p2 : Pos} {x : Str}
/-- a source that stands while other things change -/
def IX (A : Amb) (ca : Nat → Addr) (tg iter : Expr) {S β : Type} (Γ : Cxt S) (τ : Ty β) (f : S → Rs (List β)) : Prop :=
  ∃ wi, (∀ X, A.In X → PI X tg iter wi) ∧ ∀ (O : List Addr) (σ : L2.St) (H : Hp) (s : S) (R : It → Hp → Prop), Sx A.K O Γ σ H s →
    (f s).Post (fun bs => ∀ J H1, Same H H1 → Wkg A.K J (cut H1 O) [] τ bs → R J H1) (Exw A.E ca H) → wi σ H R
/-- a source that stands while nothing changes -/
def IB (A : Amb) (ca : Nat → Addr) (tg iter : Expr) {S β : Type} (Γ : Cxt S) (τ : Ty β) (f : S → Rs (List β)) : Prop :=
  ∃ wi, (∀ X, A.In X → PI X tg iter wi) ∧ ∀ (O : List Addr) (σ : L2.St) (H : Hp) (s : S) (R : It → Hp → Prop), Sx A.K O Γ σ H s →
    (f s).Post (fun bs => ∀ J H1, Same H H1 → Wkg A.K J H1 O τ bs → R J H1) (Exw A.E ca H) → wi σ H R
theorem IX.ib {f : S → Rs (List β)} (h : IX A ca tg iter Γ τ' f) : IB A ca tg iter Γ τ' f := by
  obtain ⟨wi, hi, q⟩ := h
  exact ⟨wi, hi, fun O σ H s R hs hp => q O σ H s R hs (hp.mono (fun bs k J H1 s1 w => k J H1 s1 w.wide) fun _ z => z)⟩
theorem Wkg.list {K : PySem.W.Frag} {p : Addr} {vs : List V} {G : Hp} {O : List Addr} {bs : List α} (e : SqL K G p vs) (hu : ∀ H' ys, Same G H' → SqL K H' p ys → ys = vs) (r : Paired (τ.rep K (cut G O)) vs bs) : Wkg K (Itl K p) G O τ bs := by
  refine ⟨fun i H' s hi => ?_, fun i b x H' H'' s hb hy => ?_, fun H' s => ⟨vs, s.seq e, by rw [Paired.length r]; exact Nat.le_refl _⟩⟩
  · obtain ⟨v, h1, _⟩ := Paired.get r (List.getElem?_eq_getElem hi)
    exact ⟨vs, v, s.seq e, h1⟩
  · obtain ⟨rfl, hx⟩ := hy
    have h1 := hx _ (s.seq e)
    obtain ⟨v, h2, h3⟩ := Paired.get r hb
    rw [h1] at h2; cases h2
    exact ⟨Same.refl _, fun O' hO hn => τ.mono (cut_sees s hO) h3⟩
theorem Wkg.listT {K : PySem.W.Frag} {p : Addr} {vs : List V} {G : Hp} {O : List Addr} {bs : List α} (e : SqL K G p vs) (r : Paired (τ.rep K (cut G O)) vs bs) : Wkg K (Itl K p) G O τ bs := by
  refine ⟨fun i H' s hi => ?_, fun i b x H' H'' s hb hy => ?_, fun H' s => ⟨vs, s.seq e, by rw [Paired.length r]; exact Nat.le_refl _⟩⟩
  · obtain ⟨v, h1, _⟩ := Paired.get r (List.getElem?_eq_getElem hi)
    exact ⟨vs, v, s.seq e, h1⟩
  · obtain ⟨rfl, hx⟩ := hy
    have h1 := hx _ (s.seq e)
    obtain ⟨v, h2, h3⟩ := Paired.get r hb
    rw [h1] at h2; cases h2
    exact ⟨Same.refl _, fun O' hO hn => τ.mono (cut_sees s hO) h3⟩
theorem IX.list {f : S → Rs (List α)} (h : PX A ca iter Γ (tL τ) f) : IX A ca tg iter Γ τ f := by
  obtain ⟨t, ht, q⟩ := h
  refine ⟨iList A.K t, fun X hX => by rw [← hX.K]; exact pi_list (ht X hX), fun O σ H s R hs hp => q O σ H s _ hs (hp.mono (fun bs k v H1 s1 r => ?_) fun _ z => z)⟩
  obtain ⟨p, vs, rfl, e, z, r⟩ := r
  refine ⟨p, rfl, ⟨vs, .inl (.inl (cut_le _ _ e))⟩, k _ H1 s1 (Wkg.listT (vs := vs) (.inl (.inl e)) (by rw [cut_nil]; exact r))⟩
theorem IX.listF {f : S → Rs (List α)} (h : PX A ca iter Γ (tF τ) f) : IX A ca tg iter Γ τ f := by
  obtain ⟨t, ht, q⟩ := h
  refine ⟨iList A.K t, fun X hX => by rw [← hX.K]; exact pi_list (ht X hX), fun O σ H s R hs hp => q O σ H s _ hs (hp.mono (fun bs k v H1 s1 r => ?_) fun _ z => z)⟩
  obtain ⟨p, vs, rfl, e, z, r⟩ := r
  refine ⟨p, rfl, ⟨vs, (cut_le (O := O)).seq e⟩, k _ H1 s1 (Wkg.listT (vs := vs) e (by rw [cut_nil]; exact r))⟩
theorem IB.list {f : S → Rs (List α)} (h : BX A ca iter Γ (cL τ) f) : IB A ca tg iter Γ τ f := by
  obtain ⟨t, ht, q⟩ := h
  refine ⟨iList A.K t, fun X hX => by rw [← hX.K]; exact pi_list (ht X hX), fun O σ H s R hs hp => q O σ H s _ hs (hp.mono (fun bs k p vs H1 s1 e z r => ?_) fun _ z => z)⟩
  exact ⟨p, rfl, ⟨vs, .inl (.inl e)⟩, k _ H1 s1 (Wkg.listT (vs := vs) (.inl (.inl e)) r)⟩
theorem IX.tup {f : S → Rs (List α)} (h : PX A ca iter Γ (tT τ) f) : IX A ca tg iter Γ τ f := by
  obtain ⟨t, ht, q⟩ := h
  refine ⟨iTup A.K t, fun X hX => by rw [← hX.K]; exact pi_tup (ht X hX), fun O σ H s R hs hp => q O σ H s _ hs (hp.mono (fun bs k v H1 s1 r => ?_) fun _ z => z)⟩
  obtain ⟨p, vs, rfl, e, z, r⟩ := r
  refine ⟨p, rfl, ⟨vs, .inl (.inl (cut_le _ _ e))⟩, k _ H1 s1 ⟨fun i H' s2 hi => ?_, fun i b x H' H'' s2 hb hy => ?_, fun H' s2 => ⟨vs, .inl (.inl (s2 _ _ e)), by rw [Paired.length r]; exact Nat.le_refl _⟩⟩⟩
  · obtain ⟨v, h1, _⟩ := Paired.get r (List.getElem?_eq_getElem hi)
    exact ⟨vs, v, .inl (.inl (s2 _ _ e)), h1⟩
  · obtain ⟨rfl, hx⟩ := hy
    have h1 := hx vs (.inl (.inl (s2 _ _ e)))
    obtain ⟨v, h2, h3⟩ := Paired.get r hb
    rw [h1] at h2; cases h2
    refine ⟨Same.refl _, fun O' hO hn => τ.mono ?_ h3⟩
    have := cut_sees (O := []) s2 hO
    rwa [cut_nil] at this
/-- lo .. hi - 1 -/
def rangeL (lo hi : Int) : List Int := (List.range (hi - lo).toNat).map fun (i : Nat) => lo + (i : Int)
theorem Wkg.range {K : PySem.W.Frag} {lo hi : Int} {G : Hp} {n : Nat} (hn : n = (hi - lo).toNat) : Wkg K (Itr lo n) G [] tI (rangeL lo hi) := by
  have hl : (rangeL lo hi).length = n := by unfold rangeL; simp [hn]
  refine ⟨fun i H' s h => by rw [hl] at h; exact h, fun i b x H' H'' s hb hy => ?_, fun H' s => by rw [hl]; exact Nat.le_refl _⟩
  obtain ⟨rfl, rfl⟩ := hy
  refine ⟨Same.refl _, fun _ _ _ => ?_⟩
  unfold rangeL at hb
  rw [List.getElem?_map] at hb
  cases q : (List.range (hi - lo).toNat)[i]? with
  | none => rw [q] at hb; cases hb
  | some j =>
    rw [q] at hb
    have : j = i := by
      obtain ⟨h1, h2⟩ := List.getElem?_eq_some_iff.mp q
      simp at h2; exact h2.symm
    subst this
    simp at hb
    rw [← hb]; rfl
def rgOk (i j : Int) : Bool := decide (-(2 ^ 62) ≤ i ∧ i < 2 ^ 62 ∧ -(2 ^ 62) ≤ j ∧ j < 2 ^ 62 ∧ (j - i).toNat ≤ sizeLine)
theorem IX.range1 {f : S → Rs Int} (B : Blt A "range" (.type "range")) (h : PX A ca a Γ tI f) (hs : star a = false := by rfl) : IX A ca tg (.Call (.Name "range" p) [a] [] pos) Γ tI (fun s => (f s).bind fun n => Rs.guard (rgOk 0 n) (.ok (rangeL 0 n))) := by
  obtain ⟨t, ht, q⟩ := h
  refine ⟨_, fun X hX => pi_range1 (hX.gl B.gl) (by rw [hX.mg]; exact B.mg) (pa_cons (ht X hX) pa_nil (star_each hs)) (star_each hs), fun O σ H s R hs hp => q O σ H s _ hs ((Rs.post_bind hp).mono (fun n k v H1 s1 r => ?_) fun _ z => z)⟩
  obtain ⟨hc, k⟩ := Rs.post_guard k
  obtain ⟨c1, c2, c3, c4, c5⟩ := of_decide_eq_true hc
  exact ⟨n, by rw [show v = .int n from r], c3, c4, k _ H1 s1 (Wkg.range (by simp))⟩
theorem IX.range2 {f g : S → Rs Int} (B : Blt A "range" (.type "range")) (ha : PX A ca a Γ tI f) (hb : PX A ca b Γ tI g) (h1 : star a = false := by rfl) (h2 : star b = false := by rfl) : IX A ca tg (.Call (.Name "range" p) [a, b] [] pos) Γ tI (fun s => (f s).bind fun m => (g s).bind fun n => Rs.guard (rgOk m n) (.ok (rangeL m n))) := by
  obtain ⟨ta, pa, qa⟩ := ha
  obtain ⟨tb, pb, qb⟩ := hb
  refine ⟨_, fun X hX => pi_range2 (hX.gl B.gl) (by rw [hX.mg]; exact B.mg) (pa_cons (pa X hX) (pa_cons (pb X hX) pa_nil (star_each h2)) (star_each h1)) (by rw [star_each h1, star_each h2]; rfl) (star_each h2), fun O σ H s R hs hp => PX.two qa qb hs hp fun m n v u H2 sm r1 r2 k => ?_⟩
  obtain ⟨hc, k⟩ := Rs.post_guard k
  obtain ⟨c1, c2, c3, c4, c5⟩ := of_decide_eq_true hc
  exact ⟨m, n, by rw [show v = .int m from r1, show u = .int n from r2], ⟨c1, c2, c3, c4⟩, k _ H2 sm (Wkg.range rfl)⟩
/-- enumerate -/
def enumL {α : Type} (xs : List α) : List (Int × α) := xs.zipIdx.map fun p => ((p.2 : Int), p.1)
theorem enumL_get {xs : List α} {i : Nat} {b : Int × α} (h : (enumL xs)[i]? = some b) : b.1 = i ∧ xs[i]? = some b.2 := by
  unfold enumL at h
  rw [List.getElem?_map, List.getElem?_zipIdx] at h
  cases q : xs[i]? with
  | none => rw [q] at h; cases h
  | some y =>
    rw [q] at h
    simp at h
    rw [← h]; exact ⟨rfl, rfl⟩
theorem enumL_len {xs : List α} : (enumL xs).length = xs.length := by unfold enumL; simp
abbrev tPr {α β : Type} (τ : Ty α) (τ' : Ty β) : Ty (α × β) := tTup (.cons τ (.one τ'))
theorem IX.enum {f : S → Rs (List α)} {elts : List Expr} {kk : Nat} {tpos : Pos} (B : Blt A "enumerate" (.type "enumerate")) (h : PX A ca a Γ (tL τ) f) (hs : star a = false := by rfl) :
    IX A ca (.Tuple elts kk tpos) (.Call (.Name "enumerate" p) [a] [] pos) Γ (tPr tI τ) (fun s => (f s).bind fun xs => .ok (enumL xs)) := by
  obtain ⟨t, ht, q⟩ := h
  refine ⟨iEnum A.K (tCons t tNil), fun X hX => by rw [← hX.K]; exact pi_enum (hX.gl B.gl) (by rw [hX.mg]; exact B.mg) (pa_cons (ht X hX) pa_nil (star_each hs)) (star_each hs), fun O σ H s R hs hp => ?_⟩
  show t σ H _
  refine q O σ H s _ hs ((Rs.post_bind hp).mono (fun xs k v H1 s1 r => ?_) fun _ z => z)
  obtain ⟨p, vs, rfl, e, z, r⟩ := r
  refine ⟨p, vs, rfl, .inl (.inl (cut_le _ _ e)), k _ H1 s1 ⟨fun i H' s2 hi => ?_, fun i b x H' H'' s2 hb hy => ?_, fun H' s2 => ⟨vs, .inl (.inl (s2 _ _ e)), by rw [enumL_len, Paired.length r]; exact Nat.le_refl _⟩⟩⟩
  · rw [enumL_len] at hi
    obtain ⟨v, h1, _⟩ := Paired.get r (List.getElem?_eq_getElem hi)
    exact ⟨vs, v, .inl (.inl (s2 _ _ e)), h1⟩
  · obtain ⟨T, y, rfl, nT, rfl, hx⟩ := hy
    have h1 := hx vs (.inl (.inl (s2 _ _ e)))
    obtain ⟨b1, b2⟩ := enumL_get hb
    obtain ⟨v, h2, h3⟩ := Paired.get r b2
    rw [h1] at h2; cases h2
    refine ⟨same_upd nT, fun O' hO hn => ?_⟩
    have sG := cut_sees (O := []) (s2.trans (same_upd (o := .tup [.int (i : Nat), y]) nT)) hO
    rw [cut_nil] at sG
    refine ⟨T, [.int (i : Nat), y], rfl, ?_, .int (i : Nat), [y], rfl, ?_, y, rfl, τ.mono sG h3⟩
    · rw [cut_out fun z => hn T z nT, upd_same]
    · rw [b1]; rfl
theorem zip_get {xs : List α} {ys : List β} {i : Nat} {b : α × β} (h : (xs.zip ys)[i]? = some b) : xs[i]? = some b.1 ∧ ys[i]? = some b.2 := by
  rw [List.getElem?_zip_eq_some] at h
  exact h
theorem IX.zip {f : S → Rs (List α)} {g : S → Rs (List β)} {elts : List Expr} {kk : Nat} {tpos : Pos} (B : Blt A "zip" (.type "zip")) (ha : PX A ca a Γ (tL τ) f) (hb : PX A ca b Γ (tL τ') g) (h1 : star a = false := by rfl) (h2 : star b = false := by rfl) :
    IX A ca (.Tuple elts kk tpos) (.Call (.Name "zip" p) [a, b] [] pos) Γ (tPr τ τ') (fun s => (f s).bind fun xs => (g s).bind fun ys => .ok (xs.zip ys)) := by
  obtain ⟨ta, pa, qa⟩ := ha
  obtain ⟨tb, pb, qb⟩ := hb
  refine ⟨iZip A.K (tCons ta (tCons tb tNil)), fun X hX => by rw [← hX.K]; exact pi_zip (hX.gl B.gl) (by rw [hX.mg]; exact B.mg) (pa_cons (pa X hX) (pa_cons (pb X hX) pa_nil (star_each h2)) (star_each h1)) (star_each h1) (star_any (by simp [h2])), fun O σ H s R hs hp => ?_⟩
  show ta σ H fun v H1 => tb σ H1 fun u H2 => _
  refine PX.two qa qb hs hp fun xs ys v u H2 sm r1 r2 k => ?_
  obtain ⟨p, vs, rfl, e, z, r1⟩ := r1
  obtain ⟨q, us, rfl, e2, z2, r2⟩ := r2
  refine ⟨p, q, vs, us, rfl, .inl (.inl (cut_le _ _ e)), .inl (.inl (cut_le _ _ e2)), k _ H2 sm ⟨fun i H' s2 hi => ?_, fun i b x H' H'' s2 hb hy => ?_, fun H' s2 => ⟨vs, us, .inl (.inl (s2 _ _ e)), .inl (.inl (s2 _ _ e2)), ?_⟩⟩⟩
  · rw [List.length_zip] at hi
    obtain ⟨v, h1, _⟩ := Paired.get r1 (List.getElem?_eq_getElem (show i < xs.length by omega))
    obtain ⟨w, h2, _⟩ := Paired.get r2 (List.getElem?_eq_getElem (show i < ys.length by omega))
    exact ⟨vs, us, v, w, .inl (.inl (s2 _ _ e)), .inl (.inl (s2 _ _ e2)), h1, h2⟩
  · obtain ⟨T, y, w, rfl, nT, rfl, hx, hw⟩ := hy
    have h1 := hx vs (.inl (.inl (s2 _ _ e)))
    have h2 := hw us (.inl (.inl (s2 _ _ e2)))
    obtain ⟨b1, b2⟩ := zip_get hb
    obtain ⟨v, g1, g2⟩ := Paired.get r1 b1
    rw [h1] at g1; cases g1
    obtain ⟨v, g1, g3⟩ := Paired.get r2 b2
    rw [h2] at g1; cases g1
    refine ⟨same_upd nT, fun O' hO hn => ?_⟩
    have sG := cut_sees (O := []) (s2.trans (same_upd (o := .tup [y, w]) nT)) hO
    rw [cut_nil] at sG
    exact ⟨T, _, rfl, by rw [cut_out fun z => hn T z nT, upd_same], _, _, rfl, τ.mono sG g2, _, rfl, τ'.mono sG g3⟩
  · rw [List.length_zip, Paired.length r1, Paired.length r2]; omega
/-! ### targets -/
structure LocA (A : Amb) (x : Str) : Prop where
  loc : Loc A.sc x
  fn : A.fn x = true ∨ A.sc.names.lookup x = some .local
/-- a slot that owns nothing is stored -/
structure PutV {S : Type} (Γ : Cxt S) (i : Nat) {β : Type} (τ : Ty β) {S' : Type} (Γ' : Cxt S') (p : S → β → S') : Prop where
  set : ∀ {K : PySem.W.Frag} {G H : Hp} {σ : L2.St} {O : List Addr} {s : S} {v : V} {b : β}, Γ.rep K G H σ O s → τ.rep K G v b → Γ'.rep K G H (σ.set i (some v)) O (p s b)
theorem PutV.any {S : Type} {τ : Ty β} {Γ : Cxt S} : PutV (.cons .any Γ) 0 τ (.cons (.val τ) Γ) (fun s b => (b, s.2)) := ⟨by
  rintro K G H σ O s v b ⟨y, σ', O1, O2, rfl, rfl, h1, h2⟩ hk
  exact ⟨_, σ', O1, O2, rfl, rfl, ⟨h1, v, rfl, hk⟩, h2⟩⟩
theorem PutV.val {S : Type} {τ : Ty β} {τ' : Ty α} {Γ : Cxt S} : PutV (.cons (.val τ') Γ) 0 τ (.cons (.val τ) Γ) (fun s b => (b, s.2)) := ⟨by
  rintro K G H σ O s v b ⟨y, σ', O1, O2, rfl, rfl, h1, h2⟩ hk
  exact ⟨_, σ', O1, O2, rfl, rfl, ⟨h1.1, v, rfl, hk⟩, h2⟩⟩
theorem PutV.s {S S' : Type} {τ : Ty β} {j : Sl α} {Γ : Cxt S} {Γ' : Cxt S'} {i : Nat} {p : S → β → S'} (h : PutV Γ i τ Γ' p) : PutV (.cons j Γ) (i + 1) τ (.cons j Γ') (fun s b => (s.1, p s.2 b)) := ⟨by
  rintro K G H σ O s v b ⟨y, σ', O1, O2, rfl, rfl, h1, h2⟩ hk
  exact ⟨y, _, O1, O2, rfl, rfl, h1, h.set h2 hk⟩⟩
/-- a target takes a value; the slots ix are stored -/
def GX (A : Amb) (tg : Expr) {S S' α : Type} (Γ : Cxt S) (Γ' : Cxt S') (τ : Ty α) (put : S → α → S') (ix : List Nat) : Prop :=
  ∃ g, (∀ X, A.In X → PG X tg g) ∧ ∀ (G H : Hp) (σ : L2.St) (O : List Addr) (s : S) (v : V) (a : α) (Q : L2.St → Hp → Prop), Same G H → Γ.rep A.K G H σ O s → τ.rep A.K G v a →
    (∀ σ', (∀ vs, (∀ i ∈ ix, i ∈ vs) → wipe σ' vs = wipe σ vs) → Γ'.rep A.K G H σ' O (put s a) → Q σ' H) → g v σ H Q
def GXs (A : Amb) (tgs : List Expr) {S S' α : Type} (Γ : Cxt S) (Γ' : Cxt S') (ts : Tys α) (put : S → α → S') (ix : List Nat) : Prop :=
  ∃ g, (∀ X, A.In X → PGs X tgs g) ∧ ∀ (G H : Hp) (σ : L2.St) (O : List Addr) (s : S) (v : List V) (a : α) (Q : L2.St → Hp → Prop), Same G H → Γ.rep A.K G H σ O s → ts.rep A.K G v a →
    (∀ σ', (∀ vs, (∀ i ∈ ix, i ∈ vs) → wipe σ' vs = wipe σ vs) → Γ'.rep A.K G H σ' O (put s a) → Q σ' H) → g v σ H Q
theorem wipe_set {i : Nat} {x : Option V} : ∀ (vs : List Nat) (σ : L2.St), i ∈ vs → wipe (σ.set i x) vs = wipe σ vs
  | [], _, h => by simp at h
  | v :: vs, σ, h => by
    have key : ∀ (us : List Nat) (σ : L2.St), i ∉ us → wipe (σ.set i x) us = (wipe σ us).set i x := by
      intro us
      induction us with
      | nil => intro σ _; rfl
      | cons u us ih =>
        intro σ hn
        simp only [List.mem_cons, not_or] at hn
        unfold wipe
        rw [ih σ hn.2, List.set_comm _ _ hn.1]
    by_cases hi : i ∈ vs
    · unfold wipe
      rw [wipe_set vs σ hi]
    · have e : i = v := by
        rcases List.mem_cons.mp h with e | e
        · exact e
        · exact absurd e hi
      subst e
      unfold wipe
      rw [key vs σ hi, List.set_set]
theorem wipe_wipe {σ : L2.St} {us : List Nat} : ∀ (vs : List Nat), (∀ i ∈ vs, i ∈ us) → wipe (wipe σ vs) us = wipe σ us
  | [], _ => rfl
  | v :: vs, h => by
    show wipe ((wipe σ vs).set v none) us = _
    rw [wipe_set us _ (h v (by simp)), wipe_wipe vs fun i hi => h i (List.mem_cons_of_mem _ hi)]
theorem GX.name {S S' : Type} {Γ : Cxt S} {Γ' : Cxt S'} {i : Nat} {put : S → α → S'} (h : PutV Γ i τ Γ' put) (hi : A.N[i]? = some x) (hx : LocA A x) : GX A (.Name x pos) Γ Γ' τ put [i] := by
  refine ⟨_, fun X hX => pg_name (by rw [hX.N]; exact hX.nd) (by rw [hX.N]; exact hi) (by rw [hX.sc]; exact hx.loc) (by rw [hX.fn, hX.sc]; exact hx.fn), fun G H σ O s v a Q sG hr hv hq => ?_⟩
  exact hq _ (fun vs hv => wipe_set vs σ (hv i (by simp))) (h.set hr hv)
def starT : Expr → Bool
  | .Starred _ _ => true
  | _ => false
theorem assign_each {e : Expr} {es : List Expr} {env : Env} (h : star e = false) : assignEach (e :: es) env = (false, assign e env) :: assignEach es env := by
  cases e <;> first | rfl | (exact absurd h (by simp [star]))
theorem GXs.one {S S' : Type} {Γ : Cxt S} {Γ' : Cxt S'} {put : S → α → S'} {ix : List Nat} (h : GX A tg Γ Γ' τ put ix) (hs : star tg = false := by rfl) : GXs A [tg] Γ Γ' (.one τ) put ix := by
  obtain ⟨g, hg, q⟩ := h
  refine ⟨_, fun X hX => pgs_cons (hg X hX) pgs_nil (by rw [assign_each hs]; rfl), fun G H σ O s v a Q sG hr hv hq => ?_⟩
  obtain ⟨w, rfl, r⟩ := hv
  exact ⟨w, [], rfl, q G H σ O s w a _ sG hr r fun σ' hw hr' => ⟨rfl, hq σ' hw hr'⟩⟩
theorem GXs.cons {S S' S'' : Type} {Γ : Cxt S} {Γ' : Cxt S'} {Γ'' : Cxt S''} {ts : Tys β} {tgs : List Expr} {put : S → α → S'} {put' : S' → β → S''} {ix ix' : List Nat} (h : GX A tg Γ Γ' τ put ix) (h' : GXs A tgs Γ' Γ'' ts put' ix') (hs : star tg = false := by rfl) :
    GXs A (tg :: tgs) Γ Γ'' (.cons τ ts) (fun s a => put' (put s a.1) a.2) (ix ++ ix') := by
  obtain ⟨g, hg, q⟩ := h
  obtain ⟨g', hg', q'⟩ := h'
  refine ⟨_, fun X hX => pgs_cons (hg X hX) (hg' X hX) (by rw [assign_each hs]; rfl), fun G H σ O s v a Q sG hr hv hq => ?_⟩
  obtain ⟨w, r, rfl, r1, r2⟩ := hv
  refine ⟨w, r, rfl, q G H σ O s w a.1 _ sG hr r1 fun σ' hw hr' => q' G H σ' O _ r a.2 _ sG hr' r2 fun σ'' hw' hr'' => hq σ'' (fun vs hv => ?_) hr''⟩
  rw [hw' vs fun i hi => hv i (List.mem_append_right _ hi), hw vs fun i hi => hv i (List.mem_append_left _ hi)]
theorem star_tgs {env : Env} : ∀ {es : List Expr}, es.any star = false → (assignEach es env).length = es.length ∧ (assignEach es env).findIdx? (·.1) = none := by
  intro es
  induction es with
  | nil => intro _; exact ⟨rfl, rfl⟩
  | cons e r ih =>
    intro h
    simp only [List.any_cons, Bool.or_eq_false_iff] at h
    obtain ⟨h1, h2⟩ := ih h.2
    rw [assign_each h.1]
    refine ⟨by rw [List.length_cons, List.length_cons, h1], ?_⟩
    rw [List.findIdx?_cons]
    simp [h2]
theorem GX.tup {S S' : Type} {Γ : Cxt S} {Γ' : Cxt S'} {ts : Tys α} {tgs : List Expr} {put : S → α → S'} {ix : List Nat} {kk : Nat} (h : GXs A tgs Γ Γ' ts put ix) (hl : tgs.length = ts.len := by rfl) (hs : tgs.any star = false := by rfl) : GX A (.Tuple tgs kk pos) Γ Γ' (tTup ts) put ix := by
  obtain ⟨g, hg, q⟩ := h
  refine ⟨gTup A.K tgs.length g, fun X hX => by rw [← hX.K]; exact pg_tup hX.calm (hg X hX) (star_tgs hs).1 (star_tgs hs).2, fun G H σ O s v a Q sG hr hv hq => ?_⟩
  obtain ⟨p, vs, rfl, e, r⟩ := hv
  exact ⟨p, vs, rfl, .inl (.inl (sG _ _ e)), by rw [ts.length r, hl], q G H σ O s vs a Q sG hr r hq⟩
/-! ### a comprehension's block -/
abbrev Amb.blk (A : Amb) (scope : Scope) : Amb := { A with sc := relS scope A.sc, E := E0, fn := fun x => scope.names.lookup x == some .cell }
theorem lookup_far : ∀ l : List (Str × NameKind), ∃ m : Nat, ∀ x : Str, m ≤ x.length → l.lookup x = none
  | [] => ⟨0, fun _ _ => rfl⟩
  | (k, v) :: l => by
    obtain ⟨m, h⟩ := lookup_far l
    refine ⟨m + (k.length + 1), fun x hx => ?_⟩
    have : (x == k) = false := by
      rw [beq_eq_false_iff_ne]
      intro e
      rw [e] at hx
      omega
    rw [List.lookup, this]
    exact h x (by omega)
theorem no_all (l : List (Str × NameKind)) : ¬ (fun x : Str => l.lookup x == some NameKind.cell) = fun _ => true := fun z => by
  obtain ⟨m, h⟩ := lookup_far l
  have e := congrFun z (Str.ofString (String.ofList (List.replicate m 'a')))
  rw [h _ (by rw [PySem.ofString_length]; simp)] at e
  cases e
theorem Amb.In.blk {X : Cx} (hX : A.In X) (scope : Scope) (s : Shared) (H : Hp) (C : Addr) (cl : List (Str × Addr)) (fp : List Addr) : (A.blk scope).In (X.blk s H scope (compEnvC scope cl C X.env) fp) := by
  refine ⟨hX.prog, hX.w, hX.K, hX.mg, hX.base, hX.N, ?_, rfl, hX.nd, hX.calm, hX.room, ?_, PassesOwn.never, takes0, fun z => absurd z (no_all _)⟩
  · show relS scope X.env.scope = relS scope A.sc
    rw [hX.sc]
  · have := @passL (X.blk s H scope (compEnvC scope cl C X.env) fp)
    rw [show (X.blk s H scope (compEnvC scope cl C X.env) fp).prog = A.P from hX.prog, show (X.blk s H scope (compEnvC scope cl C X.env) fp).w = A.w from hX.w] at this
    exact this
theorem vis_blk {scope : Scope} {k : NameKind} (h : scope.names.lookup x = some k) (hk : k = .local ∨ k = .cell ∨ k = .free) : Vis (relS scope A.sc) x := by
  rcases hk with rfl | rfl | rfl
  · exact .inl (lookup_relS_keep (by decide) h)
  · exact .inr (.inl (lookup_relS_keep (by decide) h))
  · have : ∀ (names : List (Str × NameKind)), names.lookup x = some .free → ∃ k', (names.map fun (n, k) => if (k == NameKind.free && A.sc.kind == .function && A.sc.names.lookup n == some .cell) then (n, NameKind.cell) else (n, k)).lookup x = some k' ∧ (k' = .free ∨ k' = .cell) := by
      intro names
      induction names with
      | nil => intro h; simp at h
      | cons y r ih =>
        intro h
        obtain ⟨n, k⟩ := y
        rw [List.map_cons]
        dsimp only
        by_cases e : x = n
        · subst e
          simp at h
          subst h
          by_cases q : (NameKind.free == NameKind.free && A.sc.kind == .function && A.sc.names.lookup x == some .cell) = true
          · rw [if_pos q]; exact ⟨.cell, by simp, .inr rfl⟩
          · rw [if_neg q]; exact ⟨.free, by simp, .inl rfl⟩
        · have e' : (x == n) = false := by simp [e]
          simp only [List.lookup_cons, e'] at h
          obtain ⟨k', h1, h2⟩ := ih h
          refine ⟨k', ?_, h2⟩
          by_cases q : (k == NameKind.free && A.sc.kind == .function && A.sc.names.lookup n == some .cell) = true
          · rw [if_pos q, List.lookup_cons, e']; exact h1
          · rw [if_neg q, List.lookup_cons, e']; exact h1
    obtain ⟨k', h1, h2⟩ := this scope.names h
    rcases h2 with rfl | rfl
    · exact .inr (.inr h1)
    · exact .inr (.inl h1)
theorem gl_blk {scope : Scope} (h : scope.names.lookup x = some .globalImplicit) : GlA (A.blk scope) x := lookup_relS_keep (by decide) h
theorem loc_blk {scope : Scope} (h : scope.names.lookup x = some .local) : LocA (A.blk scope) x := ⟨.inl (lookup_relS_keep (by decide) h), .inr (lookup_relS_keep (by decide) h)⟩
theorem locC_blk {scope : Scope} (h : scope.names.lookup x = some .cell) : LocA (A.blk scope) x := ⟨.inr (lookup_relS_keep (by decide) h), .inl (by show (scope.names.lookup x == some .cell) = true; rw [h]; rfl)⟩
theorem blt_blk {scope : Scope} {u : Value} (B : Blt A x u) (h : scope.names.lookup x = some .globalImplicit) : Blt (A.blk scope) x u := ⟨gl_blk h, B.mg, B.bt, B.nn, B.db⟩
theorem callee_blk {scope : Scope} {U : Type} {ts : Tys U} {m : U → Rs β} (C : Callee A ca x ts τ' m) : Callee (A.blk scope) ca x ts τ' m := ⟨C.ex, C.db⟩
/-- slots wiped -/
structure Wp {S S' : Type} (Γ : Cxt S) (vs : List Nat) (Γ' : Cxt S') (w : S → S') : Prop where
  to : ∀ {K : PySem.W.Frag} {G H : Hp} {σ : L2.St} {O : List Addr} {s : S}, Γ.rep K G H σ O s → ∃ O', (∀ p ∈ O', p ∈ O) ∧ O'.Sublist O ∧ Γ'.rep K G H (wipe σ vs) O' (w s)
theorem Wp.nil {S : Type} {Γ : Cxt S} : Wp Γ [] Γ (fun s => s) := ⟨fun {K G H σ O s} h => ⟨O, fun _ h => h, List.Sublist.refl O, h⟩⟩
theorem Wp.cons {S S' S'' : Type} {Γ : Cxt S} {Γ' : Cxt S'} {Γ'' : Cxt S''} {vs : List Nat} {v : Nat} {w : S → S'} {q : S' → Unit → S''} (h : Wp Γ vs Γ' w) (hp : Put Γ' v .any Γ'' q) : Wp Γ (v :: vs) Γ'' (fun s => q (w s) ()) := ⟨fun {K G H σ O s} r => by
  obtain ⟨O', h1, h2, h3⟩ := h.to r
  obtain ⟨Oa, Oi, Ob, rfl, r'⟩ := hp.set (x := none) (Ox := []) (b := ()) h3 rfl
  have hsub : (Oa ++ ([] ++ Ob)).Sublist (Oa ++ (Oi ++ Ob)) := (List.Sublist.refl Oa).append ((List.nil_sublist Oi).append (List.Sublist.refl Ob))
  exact ⟨_, fun p hp => h1 p (hsub.subset hp), hsub.trans h2, r'⟩⟩
theorem Wp.sx {S S' : Type} {Γ : Cxt S} {vs : List Nat} {Γ' : Cxt S'} {w : S → S'} (h : Wp Γ vs Γ' w) {K : PySem.W.Frag} {O : List Addr} {σ : L2.St} {H : Hp} {s : S} (hs : Sx K O Γ σ H s) : Sx K O Γ' (wipe σ vs) H (w s) := by
  obtain ⟨⟨Og, h1, h2⟩, hd⟩ := hs
  obtain ⟨O', h3, _, h4⟩ := h.to h2
  exact ⟨⟨O', fun p hp => h1 p (h3 p hp), h4⟩, hd⟩
/-- the tests of a comprehension -/
def PTz (A : Amb) (ca : Nat → Addr) (ifs : List Expr) {S : Type} (Γ : Cxt S) (f : S → Rs Bool) : Prop :=
  ∃ t, (∀ X, A.In X → PTs X ifs t) ∧ ∀ (O : List Addr) (σ : L2.St) (H : Hp) (s : S) (Q : Bool → Hp → Prop), Sx A.K O Γ σ H s → (f s).Post (fun a => ∀ H', Same H H' → Q a H') (Exw A.E ca H) → t σ H Q
theorem PTz.nil : PTz A ca [] Γ (fun _ => .ok true) := ⟨_, fun X hX => pts_nil, fun O σ H s Q hs hp => hp H (Same.refl H)⟩
theorem PTz.one {f : S → Rs Bool} (h : PB A ca e Γ f) : PTz A ca [e] Γ f := let ⟨t, ht, q⟩ := h; ⟨t, fun X hX => pts_one (ht X hX), q⟩
/-- what a comprehension makes -/
def lcM {β γ : Type} (g : β → Rs (Option γ)) : List β → Rs (List γ)
  | [] => .ok []
  | x :: r => (g x).bind fun o => (lcM g r).bind fun ys => .ok (match o with | some y => y :: ys | none => ys)
/-- no exception leaves a comprehension's block -/
def nox {α : Type} : Rs α → Rs α
  | .ok a => .ok a
  | _ => .bad
theorem post_nox {r : Rs α} {P : α → Prop} {E E' : Nat → Prop} (h : (nox r).Post P E) : r.Post P E' := by
  cases r with
  | ok a => exact h
  | exc c => exact h.elim
  | bad => exact h
def lcT {α : Type} (t : Rs Bool) (y : Rs α) : Rs (Option α) := t.bind fun c => if c then y.bind fun a => .ok (some a) else .ok none
theorem lcM_snoc {β γ : Type} (g : β → Rs (Option γ)) : ∀ (l : List β) (x : β), lcM g (l ++ [x]) = (lcM g l).bind fun ys => (g x).bind fun o => .ok (ys ++ o.toList)
  | [], x => by
    show (g x).bind _ = (g x).bind _
    cases g x with
    | ok o => cases o <;> rfl
    | exc c => rfl
    | bad => rfl
  | z :: l, x => by
    show (g z).bind _ = ((g z).bind _).bind _
    cases hz : g z with
    | exc c => rfl
    | bad => rfl
    | ok o =>
      show (lcM g (l ++ [x])).bind _ = ((lcM g l).bind _).bind _
      rw [lcM_snoc g l x]
      cases lcM g l with
      | exc c => rfl
      | bad => rfl
      | ok ys =>
        show ((g x).bind _).bind _ = (g x).bind _
        cases g x with
        | exc c => rfl
        | bad => rfl
        | ok o' => cases o <;> rfl
theorem lcM_cons {β γ : Type} (g : β → Rs (Option γ)) (x : β) (r : List β) : lcM g (x :: r) = (g x).bind fun o => (lcM g r).bind fun ys => .ok (o.toList ++ ys) := by
  show (g x).bind _ = _
  congr 1
  funext o
  cases o <;> rfl
/-- a comprehension's reading -/
theorem lc_spec {S1 S2 : Type} {Γw : Cxt S1} {Γt : Cxt S2} {τ1 : Ty β} {τ2 : Ty γ} {fi : S → Rs (List β)} {w : S → S1} {put : S1 → β → S2} {ix : List Nat} {ft : S2 → Rs Bool} {fe : S2 → Rs γ} {wi : TI} {g : TG} {tt : TT} {te : TE}
    {own : List (Str × Nat)} (hw : Wp Γ (own.map (·.2)) Γw w) (hix : ∀ i ∈ ix, i ∈ own.map (·.2))
    (qi : ∀ (O : List Addr) (σ : L2.St) (H : Hp) (s : S) (R : It → Hp → Prop), Sx A.K O Γ σ H s → (fi s).Post (fun bs => ∀ J H1, Same H H1 → Wkg A.K J H1 O τ1 bs → R J H1) (Exw A.E ca H) → wi σ H R)
    (qg : ∀ (G H : Hp) (σ : L2.St) (O : List Addr) (s : S1) (v : V) (a : β) (Q : L2.St → Hp → Prop), Same G H → Γw.rep A.K G H σ O s → τ1.rep A.K G v a →
      (∀ σ', (∀ vs, (∀ i ∈ ix, i ∈ vs) → wipe σ' vs = wipe σ vs) → Γt.rep A.K G H σ' O (put s a) → Q σ' H) → g v σ H Q)
    (qt : ∀ (O : List Addr) (σ : L2.St) (H : Hp) (s : S2) (Q : Bool → Hp → Prop), Sx A.K O Γt σ H s → (ft s).Post (fun a => ∀ H', Same H H' → Q a H') (Exw E0 ca H) → tt σ H Q)
    (qe : ∀ (O : List Addr) (σ : L2.St) (H : Hp) (s : S2) (Q : VK), Sx A.K O Γt σ H s → (fe s).Post (fun a => ∀ v H', Same H H' → τ2.rep A.K (cut H' O) v a → Q v H') (Exw E0 ca H) → te σ H Q)
    (O : List Addr) (σ : L2.St) (H : Hp) (s : S) (Q : VK) (hs : Sx A.K O Γ σ H s)
    (hp : ((fi s).bind fun bs => Rs.guard (decide (bs.length ≤ sizeLine)) (lcM (fun b => nox (lcT (ft (put (w s) b)) (fe (put (w s) b)))) bs)).Post (fun a => ∀ p vs H', H p = none → Same H H' → H' p = some (.lst vs) → vs.length ≤ sizeLine → (cL τ2).rep A.K (cut H' (p :: O)) vs a → Q (.ref p) H') (Exw A.E ca H)) :
    tLc wi g tt te (own.map (·.2)) σ H Q := by
  refine qi O σ H s _ hs ((Rs.post_bind hp).mono (fun bs k J H1 s1 wk => ?_) fun _ z => z)
  obtain ⟨hz, k⟩ := Rs.post_guard k
  have hz : bs.length ≤ sizeLine := of_decide_eq_true hz
  intro D nD
  generalize hgg : (fun b => nox (lcT (ft (put (w s) b)) (fe (put (w s) b)))) = gg at k
  have hDO : D ∉ O := hs.out' s1 nD
  -- the invariant: what is made so far, and what is left is wanted
  let Wv : Nat → Nat → Hp → Prop := fun i m H' => i + m = bs.length ∧ Same H1 H' ∧ ∃ acc ys, H' D = some (.lst acc) ∧ acc.length ≤ i ∧ Paired (τ2.rep A.K (cut H' (D :: O))) acc ys ∧
    (lcM gg (bs.drop i)).Post (fun zs => ∀ p vs H'', H p = none → Same H H'' → H'' p = some (.lst vs) → vs.length ≤ sizeLine → (cL τ2).rep A.K (cut H'' (p :: O)) vs (ys ++ zs) → Q (.ref p) H'') (Exw A.E ca H)
  refine ⟨Wv, ⟨bs.length, by omega, same_upd nD, [], [], upd_same, Nat.zero_le _, .nil, ?_⟩, fun i m H' hW => ?_⟩
  · rw [List.drop_zero]; exact k
  · obtain ⟨him, sm, acc, ys, eD, hacc, hr, hk⟩ := hW
    by_cases hi : i < bs.length
    · refine .inr ⟨wk.go i H' sm hi, Wv (i + 1) (m - 1), fun H'' h => ⟨m - 1, by omega, h⟩, fun x H2 hy => ?_⟩
      have hbi : bs[i]? = some bs[i] := List.getElem?_eq_getElem hi
      obtain ⟨s2, rx⟩ := wk.yl i _ x H' H2 sm hbi hy
      have hdrop : bs.drop i = bs[i] :: bs.drop (i + 1) := List.drop_eq_getElem_cons hi
      rw [hdrop, lcM_cons] at hk
      have sH2 : Same H1 H2 := sm.trans s2
      have eD2 : H2 D = some (.lst acc) := s2 _ _ eD
      have hsx : Sx A.K (D :: O) Γw (wipe σ (own.map (·.2))) H2 (w s) := by
        obtain ⟨⟨Og, b1, b2⟩, b3⟩ := hw.sx (hs.grow s1)
        refine ⟨⟨Og, fun p hp => List.mem_cons_of_mem _ (b1 p hp), Γw.mono (fun b o e => ?_) (fun p hp o e => sH2 _ _ e) b2⟩, fun p hp => ?_⟩
        · by_cases hO : b ∈ O
          · rw [cut_in hO] at e; cases e
          · rw [cut_out hO] at e
            have hb : b ≠ D := ne_of_none e nD
            rw [cut_out (by simp [hb, hO])]; exact sH2 _ _ e
        · rcases List.mem_cons.mp hp with rfl | hp
          · exact Hidn.lst eD2
          · exact (hs.grow (s1.trans sH2)).hid p hp
      obtain ⟨⟨Og, c1, c2⟩, c3⟩ := hsx
      have rx' := rx (D :: O) (fun p hp => by
        rcases List.mem_cons.mp hp with rfl | hp
        · exact .inr nD
        · exact .inl hp) (fun p hp z => by
        rcases List.mem_cons.mp hp with rfl | hp
        · rw [eD] at z; cases z
        · exact ((hs.grow (s1.trans sm)).hid p hp).ne z)
      refine qg _ H2 _ Og (w s) x bs[i] _ cut_le c2 rx' fun σ' hwp hr' => ⟨(hwp _ hix).trans (wipe_wipe _ fun _ h => h), ?_⟩
      have hsx' : Sx A.K (D :: O) Γt σ' H2 (put (w s) bs[i]) := ⟨⟨Og, c1, hr'⟩, c3⟩
      have hk1 := Rs.post_bind hk
      rw [← hgg] at hk1
      have hk2 := Rs.post_bind (post_nox (E' := Exw E0 ca H2) hk1)
      rw [hgg] at hk2
      refine qt (D :: O) σ' H2 _ _ hsx' (hk2.mono (fun c kc H3 s3 => ?_) fun _ z => z)
      cases c with
      | true =>
        refine iteT (qe (D :: O) σ' H3 _ _ (hsx'.grow s3) ((Rs.post_bind kc).mono (fun a ka v H4 s4 ra => ?_) fun _ z => z.grow s3))
        have s34 := s3.trans s4
        have hka := Rs.post_bind ka
        refine ⟨acc, s34 _ _ eD2, by omega, by omega, ?_, acc ++ [v], ys ++ [a], upd_same, by rw [List.length_append]; exact Nat.succ_le_succ hacc, ?_, ?_⟩
        · exact fun b o e => by
            have hb : b ≠ D := ne_of_none e nD
            rw [upd_ne hb]; exact s34 _ _ (sH2 _ _ e)
        · rw [cut_upd (by simp)]
          exact Paired.append (Paired.mono' (cut_grow (s2.trans s34)) hr) (.cons ra .nil)
        · exact hka.mono (fun zs kz p vs H'' n sm' e' z' r' => kz p vs H'' n sm' e' z' (by simpa using r')) fun _ z => z
      | false =>
        refine iteF ?_
        have hka := Rs.post_bind (show (Rs.bind (Rs.ok none) _).Post _ _ from kc)
        refine ⟨by omega, sH2.trans s3, acc, ys, s3 _ _ eD2, by omega, Paired.mono' (cut_grow (s2.trans s3)) hr, ?_⟩
        exact (Rs.post_bind hka).mono (fun zs kz p vs H'' n sm' e' z' r' => kz p vs H'' n sm' e' z' (by simpa using r')) fun _ z => z
    · refine .inl ⟨?_, ?_⟩
      · have : i = bs.length := by omega
        rw [this]; exact wk.st H' sm
      · rw [List.drop_eq_nil_of_le (by omega)] at hk
        exact hk D acc H' (s1.free nD) (s1.trans sm) eD (by omega) (by rw [List.append_nil]; exact hr)
theorem PL.lc {S1 S2 : Type} {Γw : Cxt S1} {Γt : Cxt S2} {τ1 : Ty β} {τ2 : Ty γ} {elt : Expr} {ifs : List Expr} {scope : Scope} {fi : S → Rs (List β)} {w : S → S1} {put : S1 → β → S2} {ix : List Nat} {ft : S2 → Rs Bool} {fe : S2 → Rs γ}
    (own : List (Str × Nat)) (hi : IB A ca tg iter Γ τ1 fi) (hb : blkC A.N A.sc scope own = true) (hw : Wp Γ (own.map (·.2)) Γw w) (hg : GX (A.blk scope) tg Γw Γt τ1 put ix) (hix : ∀ i ∈ ix, i ∈ own.map (·.2))
    (ht : PTz (A.blk scope) ca ifs Γt ft) (he : PX (A.blk scope) ca elt Γt τ2 fe) (hf : ∀ env x, foldedSetIterable iter env x = pure x := by intro _ _; rfl) :
    PL A ca (.ListComp elt [⟨tg, iter, ifs, 0⟩] scope pos) Γ (cL τ2) (fun s => (fi s).bind fun bs => Rs.guard (decide (bs.length ≤ sizeLine)) (lcM (fun b => nox (lcT (ft (put (w s) b)) (fe (put (w s) b)))) bs)) := by
  obtain ⟨wi, pi, qi⟩ := hi
  obtain ⟨g, pg, qg⟩ := hg
  obtain ⟨tt, ptt, qt⟩ := ht
  obtain ⟨te, pe, qe⟩ := he
  refine ⟨tLc wi g tt te (own.map (·.2)), fun X hX => pe_lc hX.calm (by rw [hX.N]; exact hX.nd) (pi X hX) (blkOk_by (by rw [hX.N, hX.sc]; exact hb)) (fun s H C cl fp => pg _ (hX.blk scope s H C cl fp)) (fun s H C cl fp => ptt _ (hX.blk scope s H C cl fp)) (fun s H C cl fp => pe _ (hX.blk scope s H C cl fp)) (hf X.env), fun O σ H s Q hs hp => lc_spec hw hix qi qg qt qe O σ H s Q hs hp⟩
end
end TL
/-! TL5: the state of a def's run; expressions that may change what a slot owns. -/
namespace TL
open PySem PySem.Spec PyProof.Rows L2
variable {A : Amb} {ca : Nat → Addr}
/-- a def's run: the heap at its entry, what is hidden from it, what it may write -/
structure Fm where
  H0 : Hp
  B : List Addr
  I : List Addr
def Fm.Ok (F : Fm) (H : Hp) : Prop := ∀ b o, F.H0 b = some o → b ∉ F.I → H b = some o
/-- something that stays true as more is to be seen -/
structure Mn where
  p : Hp → Prop
  mono : ∀ {G G' : Hp}, Same G G' → p G → p G'
def Mn.top : Mn := ⟨fun _ => True, fun _ _ => trivial⟩
def Mn.and (R R' : Mn) : Mn := ⟨fun G => R.p G ∧ R'.p G, fun s h => ⟨R.mono s h.1, R'.mono s h.2⟩⟩
def Mn.val (K : PySem.W.Frag) {α : Type} (τ : Ty α) (v : V) (a : α) : Mn := ⟨fun G => τ.rep K G v a, fun s h => τ.mono s h⟩
def Mn.lst (K : PySem.W.Frag) {α : Type} (c : Ct α) (vs : List V) (a : α) : Mn := ⟨fun G => c.rep K G vs a, fun s h => c.mono s h⟩
def Mn.tys (K : PySem.W.Frag) {α : Type} (ts : Tys α) (vs : List V) (a : α) : Mn := ⟨fun G => ts.rep K G vs a, fun s h => ts.mono s h⟩
abbrev Lo := List (Addr × List V)
def hid (F : Fm) (L : Lo) (Og : List Addr) : List Addr := F.B ++ (L.map (·.1) ++ Og)
structure RSo (K : PySem.W.Frag) (F : Fm) (L : Lo) (R : Mn) (Og : List Addr) {S : Type} (Γ : Cxt S) (σ : L2.St) (H : Hp) (s : S) : Prop where
  rep : Γ.rep K (cut H (hid F L Og)) H σ Og s
  rs : R.p (cut H (hid F L Og))
  nd : (L.map (·.1) ++ Og).Nodup
  ow : ∀ p ∈ L.map (·.1) ++ Og, (F.H0 p = none ∨ p ∈ F.I) ∧ p ∉ F.B ∧ Hidn H p
  lo : ∀ x ∈ L, H x.1 = some (.lst x.2)
  fr : F.Ok H
  hb : ∀ p ∈ F.B, Hidn F.H0 p ∧ p ∉ F.I
  hi : ∀ p ∈ F.I, Hidn H p
def RS (K : PySem.W.Frag) (F : Fm) (L : Lo) (R : Mn) {S : Type} (Γ : Cxt S) (σ : L2.St) (H : Hp) (s : S) : Prop := ∃ Og, RSo K F L R Og Γ σ H s
/-- the wish of an exception of the run -/
def ExF (E : XK) (ca : Nat → Addr) (F : Fm) (c : Nat) : Prop := ∀ d H', F.Ok H' → E (.ref (ca c)) d H'
section
variable {K : PySem.W.Frag} {F : Fm} {L : Lo} {R R' : Mn} {Og : List Addr} {S S' : Type} {Γ : Cxt S} {Γ' : Cxt S'} {σ : L2.St} {H H' : Hp} {s : S}
theorem RSo.hidden (h : RSo K F L R Og Γ σ H s) : ∀ p ∈ hid F L Og, Hidn H p := fun p hp => by
  rcases List.mem_append.mp hp with hp | hp
  · obtain ⟨h1, h2⟩ := h.hb p hp
    obtain ⟨o, q, n⟩ := h1
    exact ⟨o, h.fr p o q h2, n⟩
  · exact (h.ow p hp).2.2
theorem RSo.sx (h : RSo K F L R Og Γ σ H s) : Sx K (hid F L Og) Γ σ H s := ⟨⟨Og, fun p hp => List.mem_append_right _ (List.mem_append_right _ hp), h.rep⟩, h.hidden⟩
theorem RSo.grow (h : RSo K F L R Og Γ σ H s) (e : Same H H') : RSo K F L R Og Γ σ H' s :=
  ⟨Γ.mono (cut_grow e) (fun p _ o z => e p o z) h.rep, R.mono (cut_grow e) h.rs, h.nd, fun p hp => ⟨(h.ow p hp).1, (h.ow p hp).2.1, (h.ow p hp).2.2.same e⟩, fun x hx => e _ _ (h.lo x hx), fun b o q hb => e _ _ (h.fr b o q hb), h.hb, fun p hp => (h.hi p hp).same e⟩
theorem RSo.with (h : RSo K F L R Og Γ σ H s) (r : R'.p (cut H (hid F L Og))) : RSo K F L R' Og Γ σ H s := ⟨h.rep, r, h.nd, h.ow, h.lo, h.fr, h.hb, h.hi⟩
theorem RSo.more (h : RSo K F L R Og Γ σ H s) (r : R'.p (cut H (hid F L Og))) : RSo K F L (R.and R') Og Γ σ H s := h.with ⟨h.rs, r⟩
theorem RS.grow (h : RS K F L R Γ σ H s) (e : Same H H') : RS K F L R Γ σ H' s := let ⟨Og, h⟩ := h; ⟨Og, h.grow e⟩
theorem RS.map (h : RS K F L R Γ σ H s) (f : ∀ G, R.p G → R'.p G) : RS K F L R' Γ σ H s := let ⟨Og, h⟩ := h; ⟨Og, h.with (f _ h.rs)⟩
theorem RS.fr (h : RS K F L R Γ σ H s) : F.Ok H := let ⟨Og, h⟩ := h; h.fr
theorem ExF.exw {E : XK} {ca : Nat → Addr} {c : Nat} (h : ExF E ca F c) (hf : F.Ok H) : Exw E ca H c := fun d H' s => h d H' fun b o q hb => s _ _ (hf b o q hb)
/-- a new list is loose -/
theorem RSo.loose {p : Addr} {vs : List V} (h : RSo K F L R Og Γ σ H s) (n : H p = none) (sm : Same H H') (e : H' p = some (.lst vs)) (r : R'.p (cut H' (p :: hid F L Og))) : RSo K F ((p, vs) :: L) (R.and R') Og Γ σ H' s := by
  have hp : p ∉ hid F L Og := fun z => (h.hidden p z).ne n
  have key : Same (cut H' (p :: hid F L Og)) (cut H' (hid F ((p, vs) :: L) Og)) := cut_sub fun q hq => by
    unfold hid at hq ⊢
    simp only [List.map_cons, List.cons_append, List.mem_append, List.mem_cons] at hq ⊢
    rcases hq with z | z | z | z
    · exact .inr (.inl z)
    · exact .inl z
    · exact .inr (.inr (.inl z))
    · exact .inr (.inr (.inr z))
  have key2 : Same (cut H (hid F L Og)) (cut H' (p :: hid F L Og)) := fun b o e => by
    by_cases hO : b ∈ hid F L Og
    · rw [cut_in hO] at e; cases e
    · rw [cut_out hO] at e
      have hb : b ≠ p := ne_of_none e n
      rw [cut_out (by simp [hb, hO])]; exact sm _ _ e
  have nI : p ∉ F.I := fun z => (h.hi p z).ne n
  have nH : F.H0 p = none := by
    cases q : F.H0 p with
    | none => rfl
    | some o => have := h.fr p o q nI; rw [n] at this; cases this
  have nL : p ∉ L.map (·.1) ++ Og := fun z => hp (List.mem_append_right _ z)
  refine ⟨Γ.mono (key2.trans key) (fun q _ o z => sm q o z) h.rep, ⟨R.mono (key2.trans key) h.rs, R'.mono key r⟩, List.nodup_cons.mpr ⟨nL, h.nd⟩, fun q hq => ?_, fun x hx => ?_, fun b o q hb => sm _ _ (h.fr b o q hb), h.hb, fun q hq => (h.hi q hq).same sm⟩
  · rcases List.mem_cons.mp (show q ∈ p :: (L.map (·.1) ++ Og) from hq) with rfl | hq
    · exact ⟨.inl nH, fun z => hp (List.mem_append_left _ z), Hidn.lst e⟩
    · exact ⟨(h.ow q hq).1, (h.ow q hq).2.1, (h.ow q hq).2.2.same sm⟩
  · rcases List.mem_cons.mp hx with rfl | hx
    · exact e
    · exact sm _ _ (h.lo x hx)
/-- a loose list is let go: it is to be seen -/
theorem RSo.tight {p : Addr} {vs : List V} (h : RSo K F ((p, vs) :: L) R Og Γ σ H s) (r : ∀ G, R.p G → G p = some (.lst vs) → R'.p G) : RSo K F L R' Og Γ σ H s := by
  have nd : (p :: (L.map (·.1) ++ Og)).Nodup := h.nd
  obtain ⟨n1, n2⟩ := List.nodup_cons.mp nd
  have hin : ∀ q ∈ hid F L Og, q ∈ hid F ((p, vs) :: L) Og := fun q hq => by
    rcases List.mem_append.mp hq with z | z
    · exact List.mem_append_left _ z
    · exact List.mem_append_right _ (List.mem_cons_of_mem _ z)
  have sm : Same (cut H (hid F ((p, vs) :: L) Og)) (cut H (hid F L Og)) := cut_sub hin
  have hp : p ∉ hid F L Og := fun z => by
    rcases List.mem_append.mp z with z | z
    · exact (h.ow p (List.mem_cons_self)).2.1 z
    · exact n1 z
  refine ⟨Γ.mono sm (fun _ _ _ z => z) h.rep, r _ (R.mono sm h.rs) ?_, n2, fun q hq => h.ow q (List.mem_cons_of_mem _ hq), fun x hx => h.lo x (List.mem_cons_of_mem _ hx), h.fr, h.hb, h.hi⟩
  rw [cut_out hp]; exact h.lo (p, vs) (by simp)
theorem hid_sub {Og Og' : List Addr} (h : ∀ p ∈ Og', p ∈ Og) : ∀ p ∈ hid F L Og', p ∈ hid F L Og := fun p hp => by
  rcases List.mem_append.mp hp with z | z
  · exact List.mem_append_left _ z
  · rcases List.mem_append.mp z with z | z
    · exact List.mem_append_right _ (List.mem_append_left _ z)
    · exact List.mem_append_right _ (List.mem_append_right _ (h p z))
/-- a slot is stored -/
theorem RSo.store {β : Type} {k : Sl β} {i : Nat} {x : Option V} {b : β} {put : S → β → S'} (h : RSo K F L R Og Γ σ H s) (hp : Put Γ i k Γ' put) (hk : ∀ G, R.p G → k.rep K G H x [] b) (hr : ∀ G, R.p G → R'.p G) : RS K F L R' Γ' (σ.set i x) H (put s b) := by
  obtain ⟨Oa, Oi, Ob, rfl, r⟩ := hp.set h.rep (hk _ h.rs)
  have hsub : (Oa ++ ([] ++ Ob)).Sublist (Oa ++ (Oi ++ Ob)) := (List.Sublist.refl Oa).append ((List.nil_sublist Oi).append (List.Sublist.refl Ob))
  have sm : Same (cut H (hid F L (Oa ++ (Oi ++ Ob)))) (cut H (hid F L (Oa ++ ([] ++ Ob)))) := cut_sub (hid_sub fun p hp => hsub.subset hp)
  have hs2 := (List.Sublist.refl (L.map (·.1))).append hsub
  exact ⟨_, Γ'.mono sm (fun _ _ _ z => z) r, hr _ (R.mono sm h.rs), hs2.nodup h.nd, fun p hp => h.ow p (hs2.subset hp), h.lo, h.fr, h.hb, h.hi⟩
theorem RSo.storeO {β : Type} {c : Ct β} {i : Nat} {p : Addr} {vs : List V} {b : β} {put : S → β → S'} (h : RSo K F ((p, vs) :: L) R Og Γ σ H s) (hp : Put Γ i (.own none c) Γ' put) (hz : vs.length ≤ sizeLine) (hk : ∀ G, R.p G → c.rep K G vs b) (hr : ∀ G, R.p G → R'.p G) : RS K F L R' Γ' (σ.set i (some (.ref p))) H (put s b) := by
  obtain ⟨Oa, Oi, Ob, rfl, r⟩ := hp.set (x := some (.ref p)) (Ox := [p]) (b := b) h.rep ⟨p, vs, (fun _ z => by cases z), rfl, rfl, h.lo (p, vs) (by simp), hz, hk _ h.rs⟩
  have hin : ∀ q ∈ L.map (·.1) ++ (Oa ++ ([p] ++ Ob)), q ∈ p :: (L.map (·.1) ++ (Oa ++ (Oi ++ Ob))) := fun q hq => by
    simp only [List.mem_append, List.mem_cons, List.mem_nil_iff, or_false] at hq ⊢
    rcases hq with z | z | z | z
    · exact .inr (.inl z)
    · exact .inr (.inr (.inl z))
    · exact .inl z
    · exact .inr (.inr (.inr (.inr z)))
  have sm : Same (cut H (hid F ((p, vs) :: L) (Oa ++ (Oi ++ Ob)))) (cut H (hid F L (Oa ++ ([p] ++ Ob)))) := cut_sub fun q hq => by
    rcases List.mem_append.mp hq with z | z
    · exact List.mem_append_left _ z
    · exact List.mem_append_right _ (hin q z)
  have nd : (L.map (·.1) ++ (Oa ++ ([p] ++ Ob))).Nodup := by
    have nd : (p :: (L.map (·.1) ++ (Oa ++ (Oi ++ Ob)))).Nodup := h.nd
    have hperm : (p :: (L.map (·.1) ++ (Oa ++ Ob))).Perm (L.map (·.1) ++ (Oa ++ ([p] ++ Ob))) := by
      have h1 : (L.map (·.1) ++ (Oa ++ ([p] ++ Ob))) = (L.map (·.1) ++ Oa) ++ p :: Ob := by simp
      have h2 : (p :: (L.map (·.1) ++ (Oa ++ Ob))) = p :: ((L.map (·.1) ++ Oa) ++ Ob) := by simp
      rw [h1, h2]
      exact List.perm_middle.symm
    refine hperm.nodup (List.Sublist.nodup ?_ nd)
    exact ((List.Sublist.refl _).append ((List.Sublist.refl Oa).append (List.sublist_append_right Oi Ob))).cons_cons p
  exact ⟨_, Γ'.mono sm (fun _ _ _ z => z) r, hr _ (R.mono sm h.rs), nd, fun q hq => h.ow q (hin q hq), fun x hx => h.lo x (List.mem_cons_of_mem _ hx), h.fr, h.hb, h.hi⟩
/-- what a slot owns is written -/
theorem RSo.write {α β : Type} {w : Option Addr} {c : Ct α} {d : Ct β} {g : S → α} {put : S → β → S'} {i : Nat} (h : RSo K F L R Og Γ σ H s) (hw : Wr Γ i w c g d Γ' put) :
    ∃ q vs, (∀ z, w = some z → q = z) ∧ σ[i]? = some (some (.ref q)) ∧ q ∈ hid F L Og ∧ (∀ x ∈ L, x.1 ≠ q) ∧ q ∈ Og ∧ H q = some (.lst vs) ∧ vs.length ≤ sizeLine ∧ c.rep K (cut H (hid F L Og)) vs (g s) ∧
      ∀ (ws : List V) (b : β) (H' : Hp), ws.length ≤ sizeLine → (∀ p o, p ≠ q → H p = some o → H' p = some o) → H' q = some (.lst ws) → d.rep K (cut H' (hid F L Og)) ws b → RSo K F L R Og Γ' σ H' (put s b) := by
  obtain ⟨q, vs, e0, e1, e2, e3, z3, r, hq⟩ := hw.write h.rep (List.nodup_append.mp h.nd).2.1
  have hO : q ∈ hid F L Og := List.mem_append_right _ (List.mem_append_right _ e2)
  have hL : ∀ x ∈ L, x.1 ≠ q := fun x hx e => (List.nodup_append.mp h.nd).2.2 x.1 (List.mem_map.mpr ⟨x, hx, rfl⟩) q e2 e
  refine ⟨q, vs, e0, e1, hO, hL, e2, e3, z3, r, fun ws b H' hz hk he hd => ?_⟩
  have sm : Same (cut H (hid F L Og)) (cut H' (hid F L Og)) := fun a o e => by
    by_cases ha : a ∈ hid F L Og
    · rw [cut_in ha] at e; cases e
    · rw [cut_out ha] at e ⊢
      exact hk _ _ (fun z => ha (by rw [z]; exact hO)) e
  obtain ⟨q', vs', _, e1', e2', e3', _, _, hq'⟩ := hw.write (Γ.mono (K := K) (H' := H) sm (fun _ _ _ z => z) h.rep) (List.nodup_append.mp h.nd).2.1
  have eq : q' = q := by rw [e1] at e1'; simpa using e1'.symm
  subst eq
  have hq2 := hq' ws b hz hd
  have other : ∀ p, p ≠ q' → ∀ o, H p = some o → H' p = some o := fun p hp o e => hk p o hp e
  refine ⟨Γ'.mono (fun _ _ z => z) (fun p hp o e => ?_) hq2, R.mono sm h.rs, h.nd, fun p hp => ⟨(h.ow p hp).1, (h.ow p hp).2.1, ?_⟩, fun x hx => other _ (hL x hx) _ (h.lo x hx), fun b o e hb => ?_, h.hb, fun p hp => ?_⟩
  · by_cases hp' : p = q'
    · subst hp'; rw [upd_same] at e; rw [he]; exact e
    · rw [upd_ne hp'] at e; exact other p hp' o e
  · by_cases hp' : p = q'
    · subst hp'; exact Hidn.lst he
    · obtain ⟨o, e, n⟩ := (h.ow p hp).2.2
      exact ⟨o, other p hp' o e, n⟩
  · by_cases hb' : b = q'
    · subst hb'
      rcases (h.ow b (List.mem_append_right _ e2)).1 with z | z
      · rw [e] at z; cases z
      · exact absurd z hb
    · exact other b hb' o (h.fr b o e hb)
  · by_cases hp' : p = q'
    · subst hp'; exact Hidn.lst he
    · obtain ⟨o, e, n⟩ := h.hi p hp
      exact ⟨o, other p hp' o e, n⟩
/-- forgetting -/
theorem RS.weak {g : S → S'} (h : RS K F L R Γ σ H s) (w : Wk Γ Γ' g) : RS K F L R Γ' σ H (g s) := by
  obtain ⟨Og, h⟩ := h
  obtain ⟨O', hs, hr⟩ := w.to h.rep (List.nodup_append.mp h.nd).2.1
  have sm : Same (cut H (hid F L Og)) (cut H (hid F L O')) := cut_sub (hid_sub fun p hp => hs.subset hp)
  have hs2 := (List.Sublist.refl (L.map (·.1))).append hs
  refine ⟨O', hr sm (fun p hp hn => cut_out fun z => ?_), R.mono sm h.rs, hs2.nodup h.nd, fun p hp => h.ow p (hs2.subset hp), h.lo, h.fr, h.hb, h.hi⟩
  rcases List.mem_append.mp z with z | z
  · exact (h.ow p (List.mem_append_right _ hp)).2.1 z
  · rcases List.mem_append.mp z with z | z
    · exact (List.nodup_append.mp h.nd).2.2 p z p hp rfl
    · exact hn z
theorem RS.wipe {vs : List Nat} {w : S → S'} (h : RS K F L R Γ σ H s) (hw : Wp Γ vs Γ' w) : RS K F L R Γ' (L2.wipe σ vs) H (w s) := by
  obtain ⟨Og, h⟩ := h
  obtain ⟨O', h1, hs, hr⟩ := hw.to h.rep
  have sm : Same (cut H (hid F L Og)) (cut H (hid F L O')) := cut_sub (hid_sub fun p hp => hs.subset hp)
  have hs2 := (List.Sublist.refl (L.map (·.1))).append hs
  exact ⟨O', Γ'.mono sm (fun _ _ _ z => z) hr, R.mono sm h.rs, hs2.nodup h.nd, fun p hp => h.ow p (hs2.subset hp), h.lo, h.fr, h.hb, h.hi⟩
end
/-! ### expressions -/
def EX (A : Amb) (ca : Nat → Addr) (e : Expr) {S S' α : Type} (Γ : Cxt S) (Γ' : Cxt S') (τ : Ty α) (f : S → Rs (α × S')) : Prop :=
  ∃ t, (∀ X, A.In X → PE X e t) ∧ ∀ (F : Fm) (L : Lo) (R : Mn) (σ : L2.St) (H : Hp) (s : S) (Q : VK), RS A.K F L R Γ σ H s →
    (f s).Post (fun r => ∀ v H', RS A.K F L (R.and (Mn.val A.K τ v r.1)) Γ' σ H' r.2 → Q v H') (ExF A.E ca F) → t σ H Q
def EL (A : Amb) (ca : Nat → Addr) (e : Expr) {S S' α : Type} (Γ : Cxt S) (Γ' : Cxt S') (c : Ct α) (f : S → Rs (α × S')) : Prop :=
  ∃ t, (∀ X, A.In X → PE X e t) ∧ ∀ (F : Fm) (L : Lo) (R : Mn) (σ : L2.St) (H : Hp) (s : S) (Q : VK), RS A.K F L R Γ σ H s →
    (f s).Post (fun r => ∀ p vs H', vs.length ≤ sizeLine → RS A.K F ((p, vs) :: L) (R.and (Mn.lst A.K c vs r.1)) Γ' σ H' r.2 → Q (.ref p) H') (ExF A.E ca F) → t σ H Q
def EB (A : Amb) (ca : Nat → Addr) (e : Expr) {S S' : Type} (Γ : Cxt S) (Γ' : Cxt S') (f : S → Rs (Bool × S')) : Prop :=
  ∃ t, (∀ X, A.In X → PT X e t) ∧ ∀ (F : Fm) (L : Lo) (R : Mn) (σ : L2.St) (H : Hp) (s : S) (Q : Bool → Hp → Prop), RS A.K F L R Γ σ H s →
    (f s).Post (fun r => ∀ H', RS A.K F L R Γ' σ H' r.2 → Q r.1 H') (ExF A.E ca F) → t σ H Q
def EBw (A : Amb) (ca : Nat → Addr) (e : Expr) {S S' : Type} (Γ : Cxt S) (Γ' : Cxt S') (f : S → Rs (Bool × S')) : Prop :=
  ∃ t, (∀ X, A.In X → PW X e t) ∧ ∀ (F : Fm) (L : Lo) (R : Mn) (σ : L2.St) (H : Hp) (s : S) (Q : Bool → Hp → Prop), RS A.K F L R Γ σ H s →
    (f s).Post (fun r => ∀ H', RS A.K F L R Γ' σ H' r.2 → Q r.1 H') (ExF A.E ca F) → t σ H Q
def EAs (A : Amb) (ca : Nat → Addr) (es : List Expr) {S S' U : Type} (Γ : Cxt S) (Γ' : Cxt S') (ts : Tys U) (f : S → Rs (U × S')) : Prop :=
  ∃ t, (∀ X, A.In X → PA X es t) ∧ ∀ (F : Fm) (L : Lo) (R : Mn) (σ : L2.St) (H : Hp) (s : S) (Q : List V → Hp → Prop), RS A.K F L R Γ σ H s →
    (f s).Post (fun r => ∀ vs H', RS A.K F L (R.and (Mn.tys A.K ts vs r.1)) Γ' σ H' r.2 → Q vs H') (ExF A.E ca F) → t σ H Q
section
variable {S S' S'' α β γ U : Type} {Γ : Cxt S} {Γ' : Cxt S'} {Γ'' : Cxt S''} {τ : Ty α} {τ' : Ty β} {c : Ct α} {e a b d : Expr} {pos p p2 : Pos} {x : Str}
theorem PX.ex {f : S → Rs α} (h : PX A ca e Γ τ f) : EX A ca e Γ Γ τ (fun s => (f s).bind fun a => .ok (a, s)) := by
  obtain ⟨t, ht, q⟩ := h
  refine ⟨t, ht, fun F L R σ H s Q ⟨Og, hs⟩ hp => q _ σ H s _ hs.sx ((Rs.post_bind hp).mono (fun a k v H' sm r => k v H' ⟨Og, (hs.grow sm).more r⟩) fun c z => z.exw hs.fr)⟩
theorem PL.el {f : S → Rs α} (h : PL A ca e Γ c f) : EL A ca e Γ Γ c (fun s => (f s).bind fun a => .ok (a, s)) := by
  obtain ⟨t, ht, q⟩ := h
  refine ⟨t, ht, fun F L R σ H s Q ⟨Og, hs⟩ hp => q _ σ H s _ hs.sx ((Rs.post_bind hp).mono (fun a k p vs H' n sm e z r => k p vs H' z ⟨Og, hs.loose n sm e r⟩) fun c z => z.exw hs.fr)⟩
theorem EL.ex {f : S → Rs (α × S')} (h : EL A ca e Γ Γ' c f) : EX A ca e Γ Γ' c.ty f := by
  obtain ⟨t, ht, q⟩ := h
  exact ⟨t, ht, fun F L R σ H s Q hs hp => q F L R σ H s _ hs (hp.mono (fun a k p vs H' z ⟨Og, r⟩ => k _ H' ⟨Og, r.tight fun G h e => ⟨h.1, p, vs, rfl, e, z, h.2⟩⟩) fun _ z => z)⟩
theorem PB.eb {f : S → Rs Bool} (h : PB A ca e Γ f) : EB A ca e Γ Γ (fun s => (f s).bind fun a => .ok (a, s)) := by
  obtain ⟨t, ht, q⟩ := h
  refine ⟨t, ht, fun F L R σ H s Q ⟨Og, hs⟩ hp => q _ σ H s _ hs.sx ((Rs.post_bind hp).mono (fun a k H' sm => k H' ⟨Og, hs.grow sm⟩) fun c z => z.exw hs.fr)⟩
theorem PAs.eas {es : List Expr} {ts : Tys U} {f : S → Rs U} (h : PAs A ca es Γ ts f) : EAs A ca es Γ Γ ts (fun s => (f s).bind fun a => .ok (a, s)) := by
  obtain ⟨t, ht, q⟩ := h
  refine ⟨t, ht, fun F L R σ H s Q ⟨Og, hs⟩ hp => q _ σ H s _ hs.sx ((Rs.post_bind hp).mono (fun a k v H' sm r => k v H' ⟨Og, (hs.grow sm).more r⟩) fun c z => z.exw hs.fr)⟩
theorem EX.co {f : S → Rs (α × S')} {g : α → β} (h : EX A ca e Γ Γ' τ f) (hc : Tc τ τ' g) : EX A ca e Γ Γ' τ' (fun s => (f s).bind fun r => .ok (g r.1, r.2)) := by
  obtain ⟨t, ht, q⟩ := h
  exact ⟨t, ht, fun F L R σ H s Q hs hp => q F L R σ H s _ hs ((Rs.post_bind hp).mono (fun r k v H' h => k v H' (h.map fun G q => ⟨q.1, hc.to q.2⟩)) fun _ z => z)⟩
/-- two operands -/
theorem EX.two {f : S → Rs (α × S')} {g : S' → Rs (β × S'')} {δ : Type} {k : α → β → S'' → Rs δ} {P : δ → Prop} {F : Fm} {L : Lo} {R : Mn} {σ : L2.St} {H : Hp} {s : S} {ta tb : TE} {Rv : V → V → Hp → Prop}
    (qa : ∀ (F : Fm) (L : Lo) (R : Mn) (σ : L2.St) (H : Hp) (s : S) (Q : VK), RS A.K F L R Γ σ H s → (f s).Post (fun r => ∀ v H', RS A.K F L (R.and (Mn.val A.K τ v r.1)) Γ' σ H' r.2 → Q v H') (ExF A.E ca F) → ta σ H Q)
    (qb : ∀ (F : Fm) (L : Lo) (R : Mn) (σ : L2.St) (H : Hp) (s : S') (Q : VK), RS A.K F L R Γ' σ H s → (g s).Post (fun r => ∀ v H', RS A.K F L (R.and (Mn.val A.K τ' v r.1)) Γ'' σ H' r.2 → Q v H') (ExF A.E ca F) → tb σ H Q)
    (hs : RS A.K F L R Γ σ H s) (hp : ((f s).bind fun x => (g x.2).bind fun y => k x.1 y.1 y.2).Post P (ExF A.E ca F))
    (h : ∀ x y s2 v u H2, RS A.K F L ((R.and (Mn.val A.K τ v x)).and (Mn.val A.K τ' u y)) Γ'' σ H2 s2 → (k x y s2).Post P (ExF A.E ca F) → Rv v u H2) : ta σ H fun v H1 => tb σ H1 fun u H2 => Rv v u H2 := by
  refine qa F L R σ H s _ hs ((Rs.post_bind hp).mono (fun x hx v H1 h1 => ?_) fun _ z => z)
  refine qb F L _ σ H1 x.2 _ h1 ((Rs.post_bind hx).mono (fun y hy u H2 h2 => ?_) fun _ z => z)
  exact h x.1 y.1 y.2 v u H2 h2 hy
theorem EX.opI {op : Operator} {C : Int → Int → Prop} [hC : ∀ i j, Decidable (C i j)] {fn : Int → Int → Int} {f : S → Rs (Int × S')} {g : S' → Rs (Int × S'')} (ho : ∀ X, OpR X (binaryOp op) (rI C fun i j => .int (fn i j))) (ha : EX A ca a Γ Γ' tI f) (hb : EX A ca b Γ' Γ'' tI g) :
    EX A ca (.BinOp a op b pos) Γ Γ'' tI (fun s => (f s).bind fun x => (g x.2).bind fun y => Rs.guard (decide (C x.1 y.1)) (.ok (fn x.1 y.1, y.2))) := by
  obtain ⟨ta, pa, qa⟩ := ha
  obtain ⟨tb, pb, qb⟩ := hb
  refine ⟨_, fun X hX => pe_op (ho X) (pa X hX) (pb X hX), fun F L R σ H s Q hs hp => EX.two (k := fun x y s2 => Rs.guard (decide (C x y)) (.ok (fn x y, s2))) qa qb hs hp fun x y s2 v u H2 h2 k => ?_⟩
  obtain ⟨hc, k⟩ := Rs.post_guard k
  obtain ⟨Og, h2⟩ := h2
  obtain ⟨⟨r0, r1⟩, r2⟩ := h2.rs
  exact ⟨x, y, r1, r2, of_decide_eq_true hc, k _ H2 ⟨Og, h2.with ⟨r0, rfl⟩⟩⟩
theorem EX.opI0 {op : Operator} {fn : Int → Int → Int} {f : S → Rs (Int × S')} {g : S' → Rs (Int × S'')} (ho : ∀ X, OpR X (binaryOp op) (rI0 fun i j => .int (fn i j))) (ha : EX A ca a Γ Γ' tI f) (hb : EX A ca b Γ' Γ'' tI g) :
    EX A ca (.BinOp a op b pos) Γ Γ'' tI (fun s => (f s).bind fun x => (g x.2).bind fun y => .ok (fn x.1 y.1, y.2)) := by
  obtain ⟨ta, pa, qa⟩ := ha
  obtain ⟨tb, pb, qb⟩ := hb
  refine ⟨_, fun X hX => pe_op (ho X) (pa X hX) (pb X hX), fun F L R σ H s Q hs hp => EX.two (k := fun x y s2 => .ok (fn x y, s2)) qa qb hs hp fun x y s2 v u H2 h2 k => ?_⟩
  obtain ⟨Og, h2⟩ := h2
  obtain ⟨⟨r0, r1⟩, r2⟩ := h2.rs
  exact ⟨x, y, r1, r2, k _ H2 ⟨Og, h2.with ⟨r0, rfl⟩⟩⟩
theorem EX.add {f : S → Rs (Int × S')} {g : S' → Rs (Int × S'')} (ha : EX A ca a Γ Γ' tI f) (hb : EX A ca b Γ' Γ'' tI g) : EX A ca (.BinOp a .Add b pos) Γ Γ'' tI (fun s => (f s).bind fun x => (g x.2).bind fun y => .ok (x.1 + y.1, y.2)) := EX.opI0 (fun _ => op_add) ha hb
theorem EX.sub {f : S → Rs (Int × S')} {g : S' → Rs (Int × S'')} (ha : EX A ca a Γ Γ' tI f) (hb : EX A ca b Γ' Γ'' tI g) : EX A ca (.BinOp a .Sub b pos) Γ Γ'' tI (fun s => (f s).bind fun x => (g x.2).bind fun y => .ok (x.1 - y.1, y.2)) := EX.opI0 (fun _ => op_sub) ha hb
theorem EX.mul {f : S → Rs (Int × S')} {g : S' → Rs (Int × S'')} (ha : EX A ca a Γ Γ' tI f) (hb : EX A ca b Γ' Γ'' tI g) : EX A ca (.BinOp a .Mult b pos) Γ Γ'' tI (fun s => (f s).bind fun x => (g x.2).bind fun y => Rs.guard (decide (CMul x.1 y.1)) (.ok (x.1 * y.1, y.2))) := EX.opI (fun _ => op_mul) ha hb
theorem EB.cmpI {op : CmpOp} {fn : Int → Int → Bool} {f : S → Rs (Int × S')} {g : S' → Rs (Int × S'')} (ho : ∀ X, OpR X (compareOp op) (rI0 fun i j => .bl (fn i j))) (hm : behindInMarks op b = false) (ha : EX A ca a Γ Γ' tI f) (hb : EX A ca b Γ' Γ'' tI g) :
    EB A ca (.Compare a [op] [b] pos) Γ Γ'' (fun s => (f s).bind fun x => (g x.2).bind fun y => .ok (fn x.1 y.1, y.2)) := by
  obtain ⟨ta, pa, qa⟩ := ha
  obtain ⟨tb, pb, qb⟩ := hb
  refine ⟨_, fun X hX => pt_cmpR (ho X) (pa X hX) (pb X hX) hm, fun F L R σ H s Q hs hp => EX.two (k := fun x y s2 => .ok (fn x y, s2)) qa qb hs hp fun x y s2 v u H2 h2 k => ?_⟩
  obtain ⟨Og, h2⟩ := h2
  obtain ⟨⟨r0, r1⟩, r2⟩ := h2.rs
  exact ⟨x, y, r1, r2, _, rfl, k H2 ⟨Og, h2.with r0⟩⟩
theorem EB.eqI {f : S → Rs (Int × S')} {g : S' → Rs (Int × S'')} (ha : EX A ca a Γ Γ' tI f) (hb : EX A ca b Γ' Γ'' tI g) : EB A ca (.Compare a [.Eq] [b] pos) Γ Γ'' (fun s => (f s).bind fun x => (g x.2).bind fun y => .ok (decide (x.1 = y.1), y.2)) := EB.cmpI (fun _ => op_eqI) (nomark _) ha hb
theorem EB.gt {f : S → Rs (Int × S')} {g : S' → Rs (Int × S'')} (ha : EX A ca a Γ Γ' tI f) (hb : EX A ca b Γ' Γ'' tI g) : EB A ca (.Compare a [.Gt] [b] pos) Γ Γ'' (fun s => (f s).bind fun x => (g x.2).bind fun y => .ok (decide (y.1 < x.1), y.2)) := EB.cmpI (fun _ => op_gt) (nomark _) ha hb
theorem EB.lt {f : S → Rs (Int × S')} {g : S' → Rs (Int × S'')} (ha : EX A ca a Γ Γ' tI f) (hb : EX A ca b Γ' Γ'' tI g) : EB A ca (.Compare a [.Lt] [b] pos) Γ Γ'' (fun s => (f s).bind fun x => (g x.2).bind fun y => .ok (decide (x.1 < y.1), y.2)) := EB.cmpI (fun _ => op_lt) (nomark _) ha hb
/-! ### and, or, not -/
variable {rest : List Expr}
theorem EBw.eb {f1 : S → Rs (Bool × S')} (h : EBw A ca e Γ Γ' f1) : EB A ca e Γ Γ' f1 := let ⟨t, p, q⟩ := h; ⟨t, fun X hX => (p X hX).pt, q⟩
theorem EB.and1 {f1 : S → Rs (Bool × S')} (h : EB A ca a Γ Γ' f1) : EBw A ca (.BoolOp .And [a] pos) Γ Γ' f1 := let ⟨t, p, q⟩ := h; ⟨t, fun X hX => pw_and1 (p X hX), q⟩
theorem EB.or1 {f1 : S → Rs (Bool × S')} (h : EB A ca a Γ Γ' f1) : EBw A ca (.BoolOp .Or [a] pos) Γ Γ' f1 := let ⟨t, p, q⟩ := h; ⟨t, fun X hX => pw_or1 (p X hX), q⟩
theorem EB.and {f1 : S → Rs (Bool × S)} {f2 : S → Rs (Bool × S)} (ha : EB A ca a Γ Γ f1) (hb : EBw A ca (.BoolOp .And (b :: rest) pos) Γ Γ f2) : EBw A ca (.BoolOp .And (a :: b :: rest) pos) Γ Γ (fun s => (f1 s).bind fun r => if r.1 then f2 r.2 else .ok (false, r.2)) := by
  obtain ⟨ta, pa, qa⟩ := ha
  obtain ⟨tb, pb, qb⟩ := hb
  refine ⟨_, fun X hX => pw_and (pa X hX) (pb X hX), fun F L R σ H s Q hs hp => qa F L R σ H s _ hs ((Rs.post_bind hp).mono (fun r k H' h' => ?_) fun _ z => z)⟩
  obtain ⟨c, s'⟩ := r
  cases c with
  | true => exact iteT (qb F L R σ H' s' _ h' k)
  | false => exact iteF (k H' h')
theorem EB.or {f1 : S → Rs (Bool × S)} {f2 : S → Rs (Bool × S)} (ha : EB A ca a Γ Γ f1) (hb : EBw A ca (.BoolOp .Or (b :: rest) pos) Γ Γ f2) : EBw A ca (.BoolOp .Or (a :: b :: rest) pos) Γ Γ (fun s => (f1 s).bind fun r => if r.1 then .ok (true, r.2) else f2 r.2) := by
  obtain ⟨ta, pa, qa⟩ := ha
  obtain ⟨tb, pb, qb⟩ := hb
  refine ⟨_, fun X hX => pw_or (pa X hX) (pb X hX), fun F L R σ H s Q hs hp => qa F L R σ H s _ hs ((Rs.post_bind hp).mono (fun r k H' h' => ?_) fun _ z => z)⟩
  obtain ⟨c, s'⟩ := r
  cases c with
  | true => exact iteT (k H' h')
  | false => exact iteF (qb F L R σ H' s' _ h' k)
theorem EB.not {f1 : S → Rs (Bool × S')} (ha : EB A ca a Γ Γ' f1) : EB A ca (.UnaryOp .Not a pos) Γ Γ' (fun s => (f1 s).bind fun r => .ok (!r.1, r.2)) := by
  obtain ⟨ta, pa, qa⟩ := ha
  exact ⟨_, fun X hX => pt_not (pa X hX), fun F L R σ H s Q hs hp => qa F L R σ H s _ hs ((Rs.post_bind hp).mono (fun r k H' h' => k H' h') fun _ z => z)⟩
theorem EX.eb {f : S → Rs (Bool × S')} (h : EX A ca e Γ Γ' tB f) (he : ∀ env whole, isTrue e env whole = (do let v ← whole; standAt e.pos; holding [v] (truthy v))) : EB A ca e Γ Γ' f := by
  obtain ⟨t, ht, q⟩ := h
  exact ⟨_, fun X hX => pt_val (ht X hX) (he X.env), fun F L R σ H s Q hs hp => q F L R σ H s _ hs (hp.mono (fun r k v H' h' => ⟨r.1, (let ⟨_, h⟩ := h'; h.rs.2), k H' (h'.map fun _ z => z.1)⟩) fun _ z => z)⟩
/-! ### arguments -/
theorem EAs.one {f : S → Rs (α × S')} (h : EX A ca e Γ Γ' τ f) (hs : star e = false := by rfl) : EAs A ca [e] Γ Γ' (.one τ) f := by
  obtain ⟨t, ht, q⟩ := h
  exact ⟨_, fun X hX => pa_cons (ht X hX) pa_nil (star_each hs), fun F L R σ H s Q h0 hp => q F L R σ H s _ h0 (hp.mono (fun r k v H' h' => k _ H' (h'.map fun G q => ⟨q.1, v, rfl, q.2⟩)) fun _ z => z)⟩
theorem EAs.nil : EAs A ca [] Γ Γ .nil (fun s => .ok ((), s)) := ⟨_, fun X hX => pa_nil, fun F L R σ H s Q h0 hp => hp _ H (h0.map fun G q => ⟨q, rfl⟩)⟩
theorem EAs.cons {es : List Expr} {ts : Tys β} {f : S → Rs (α × S')} {g : S' → Rs (β × S'')} (h : EX A ca e Γ Γ' τ f) (hr : EAs A ca es Γ' Γ'' ts g) (hs : star e = false := by rfl) : EAs A ca (e :: es) Γ Γ'' (.cons τ ts) (fun s => (f s).bind fun x => (g x.2).bind fun y => .ok ((x.1, y.1), y.2)) := by
  obtain ⟨t, ht, q⟩ := h
  obtain ⟨tr, hr, qr⟩ := hr
  refine ⟨_, fun X hX => pa_cons (ht X hX) (hr X hX) (star_each hs), fun F L R σ H s Q h0 hp => q F L R σ H s _ h0 ((Rs.post_bind hp).mono (fun x k v H1 h1 => ?_) fun _ z => z)⟩
  exact qr F L _ σ H1 x.2 _ h1 ((Rs.post_bind k).mono (fun y k us H2 h2 => k _ H2 (h2.map fun G q => ⟨q.1.1, v, us, rfl, q.1.2, q.2⟩)) fun _ z => z)
theorem EX.tup {es : List Expr} {ts : Tys α} {f : S → Rs (α × S')} {k : Nat} (h : EAs A ca es Γ Γ' ts f) (hl : ts.len ≤ 1000 := by decide) : EX A ca (.Tuple es k pos) Γ Γ' (tTup ts) f := by
  obtain ⟨t, ht, q⟩ := h
  refine ⟨_, fun X hX => pe_tup (ht X hX), fun F L R σ H s Q h0 hp => q F L R σ H s _ h0 (hp.mono (fun r k vs H' ⟨Og, h'⟩ => ⟨?_, fun p n => ?_⟩) fun _ z => z)⟩
  · rw [ts.length h'.rs.2]; exact Nat.le_of_lt (small1000 hl)
  · have h2 := h'.grow (same_upd (o := .tup vs) n)
    exact k _ _ ⟨Og, h2.with ⟨h2.rs.1, p, vs, rfl, by rw [cut_out fun z => (h'.hidden p z).ne n, upd_same], h2.rs.2⟩⟩
theorem EL.lup {es : List Expr} {ts : Tys α} {f : S → Rs (α × S')} (h : EAs A ca es Γ Γ' ts f) (hl : ts.len ≤ 1000 := by decide) : EL A ca (.List es pos) Γ Γ' (cR ts) f := by
  obtain ⟨t, ht, q⟩ := h
  refine ⟨_, fun X hX => pe_lst (ht X hX), fun F L R σ H s Q h0 hp => q F L R σ H s _ h0 (hp.mono (fun r k vs H' ⟨Og, h'⟩ => ⟨?_, fun p n => ?_⟩) fun _ z => z)⟩
  · rw [ts.length h'.rs.2]; exact Nat.le_of_lt (small1000 hl)
  · have h2 : RSo A.K F L R Og Γ' σ H' r.2 := h'.with h'.rs.1
    exact k p vs _ (by rw [ts.length h'.rs.2]; exact Nat.le_of_lt (small1000 hl)) ⟨Og, h2.loose n (same_upd n) upd_same (ts.mono (cut_new n) h'.rs.2)⟩
/-- a call of a def with such arguments -/
theorem EX.call {ts : Tys U} {f : S → Rs (U × S')} {m : U → Rs β} {es : List Expr} (C : Callee A ca x ts τ' m) (hg : GlA A x) (ha : EAs A ca (e :: es) Γ Γ' ts f) (h1 : star e = false := by rfl) (h2 : es.any star = false := by rfl) :
    EX A ca (.Call (.Name x p) (e :: es) [] pos) Γ Γ' τ' (fun s => (f s).bind fun r => (m r.1).bind fun b => .ok (b, r.2)) := by
  obtain ⟨ta, pa, qa⟩ := ha
  obtain ⟨fa, fd, ps, k, hk, F, hm, kp, hb⟩ := C.ex
  refine ⟨tCall (spOf A.K ca ts τ' m) [] A.E ta, fun X hX => ?_, fun Fm L R σ H s Q hs hp => qa Fm L R σ H s _ hs ((Rs.post_bind hp).mono (fun u k vs H1 ⟨Og, h1⟩ => ?_) fun _ z => z)⟩
  · obtain ⟨prog, w, K, mg, base, N, sc, fn, nd, calm, room, pass, own, takes, top⟩ := hX
    exact pe_call (k := k) (fd := fd) (ps := ps) (ds := []) (by rw [prog, w, K, mg, base]; exact F) (room.mono hk) (show Gl X x by show X.env.scope.names.lookup x = _; rw [sc]; exact hg) (by rw [mg]; exact hm) (by rw [K]; exact kp) (by rw [K]; exact hb) .nil pass (pa X ⟨prog, w, K, mg, base, N, sc, fn, nd, calm, room, pass, own, takes, top⟩) C.db (star_each h1) (star_any h2)
  · refine ⟨hid Fm L Og, u.1, h1.hidden, by rw [List.append_nil]; exact h1.rs.2, (Rs.post_bind k).mono (fun b k v H2 s2 r2 => k v H2 ⟨Og, ?_⟩) fun _ z => z.exw h1.fr⟩
    have h2 := h1.grow s2
    exact h2.with ⟨h2.rs.1, r2⟩
/-! ### calls that write their first argument -/
/-- a promise of a def that may write the list that is its first argument -/
def spIO (K : PySem.W.Frag) (ca : Nat → Addr) {γ U β : Type} (c : Ct γ) (ts : Tys U) (τ : Ty β) (m : γ × U → Rs (β × γ)) : Sp := fun vs H Q E => ∃ (B : List Addr) (q : Addr) (xs : List V) (us : List V) (a : γ) (u : U),
  vs = .ref q :: us ∧ H q = some (.lst xs) ∧ xs.length ≤ sizeLine ∧ q ∉ B ∧ (∀ p ∈ B, Hidn H p) ∧ c.rep K (cut H (q :: B)) xs a ∧ ts.rep K (cut H (q :: B)) us u ∧
  (m (a, u)).Post (fun r => ∀ v H' ys, (∀ p o, p ≠ q → H p = some o → H' p = some o) → H' q = some (.lst ys) → ys.length ≤ sizeLine → c.rep K (cut H' (q :: B)) ys r.2 → τ.rep K (cut H' (q :: B)) v r.1 → Q v H')
    (fun n => ∀ d H', (∀ p o, p ≠ q → H p = some o → H' p = some o) → E (.ref (ca n)) d H')
structure CalleeIO (A : Amb) (ca : Nat → Addr) (x : Str) {γ U β : Type} (c : Ct γ) (ts : Tys U) (τ : Ty β) (m : γ × U → Rs (β × γ)) : Prop where
  ex : ∃ (f : Addr) (fd : FuncData) (ps : List Str) (k : Nat), k ≤ A.k ∧ FnOk A.P A.w A.K A.mg A.base (L2.CX A.P A.w) k f fd ps (spIO A.K ca c ts τ m) ∧ A.mg x = some (.ref f) ∧ PySem.W.keepIn A.K (.ref f) = true ∧ Binds A.K fd ps []
  db : (x == ("__debug__" : Str)) = false := by decide
theorem calleeIO_blk {scope : Scope} {c : Ct γ} {ts : Tys U} {m : γ × U → Rs (β × γ)} (C : CalleeIO A ca x c ts τ' m) : CalleeIO (A.blk scope) ca x c ts τ' m := ⟨C.ex, C.db⟩
theorem EX.callIO {c : Ct γ} {ts : Tys U} {m : γ × U → Rs (β × γ)} {es : List Expr} {g : S → γ} {put : S → γ → S'} {w : Option Addr} {f : S → Rs U} {i : Nat} {y : Str} {yp : Pos} (C : CalleeIO A ca x c ts τ' m) (hg : GlA A x) (hw : Wr Γ i w c g c Γ' put) (hN : A.N[i]? = some y) (hv : Vis A.sc y) (ha : PAs A ca es Γ ts f)
    (h2 : es.any star = false := by rfl) (hd : (y == ("__debug__" : Str)) = false := by decide) (hcd : (y == ("__classdict__" : Str)) = false := by decide) :
    EX A ca (.Call (.Name x p) (.Name y yp :: es) [] pos) Γ Γ' τ' (fun s => (f s).bind fun u => (m (g s, u)).bind fun r => .ok (r.1, put s r.2)) := by
  obtain ⟨ta, pa, qa⟩ := ha
  obtain ⟨fa, fd, ps, k, hk, F, hm, kp, hb⟩ := C.ex
  refine ⟨tCall (spIO A.K ca c ts τ' m) [] A.E (tCons (tVar i) ta), fun X hX => ?_, fun Fm L R σ H s Q ⟨Og, hs⟩ hp => ?_⟩
  · have hX' := hX
    obtain ⟨prog, w, K, mg, base, N, sc, fn, nd, calm, room, pass, own, takes, top⟩ := hX
    exact pe_call (k := k) (fd := fd) (ps := ps) (ds := []) (by rw [prog, w, K, mg, base]; exact F) (room.mono hk) (show Gl X x by show X.env.scope.names.lookup x = _; rw [sc]; exact hg) (by rw [mg]; exact hm) (by rw [K]; exact kp) (by rw [K]; exact hb) .nil pass
      (pa_cons (pe_var (by rw [N]; exact hN) (by rw [sc]; exact hv) hd hcd) (pa X hX') (star_each rfl)) C.db (star_each rfl) (star_any h2)
  · obtain ⟨q, vs, e0, e1, e2, eL, eO, e3, z3, r, hwr⟩ := hs.write hw
    refine ⟨.ref q, e1, qa _ σ H s _ hs.sx ((Rs.post_bind hp).mono (fun u k us H1 s1 ru => ?_) fun _ z => z.exw hs.fr)⟩
    have h1 := hs.grow s1
    have mem : ∀ p, p ∈ q :: (hid Fm L Og).filter (· ≠ q) ↔ p ∈ hid Fm L Og := fun p => by
      simp only [List.mem_cons, List.mem_filter, decide_eq_true_eq]
      constructor
      · rintro (rfl | ⟨h, _⟩)
        · exact e2
        · exact h
      · intro h
        by_cases hp : p = q
        · exact .inl hp
        · exact .inr ⟨h, hp⟩
    have ceq : ∀ H : Hp, cut H (q :: (hid Fm L Og).filter (· ≠ q)) = cut H (hid Fm L Og) := fun H => by
      funext b
      by_cases hb : b ∈ hid Fm L Og
      · rw [cut_in hb, cut_in ((mem b).mpr hb)]
      · rw [cut_out hb, cut_out fun z => hb ((mem b).mp z)]
    refine ⟨(hid Fm L Og).filter (· ≠ q), q, vs, us, g s, u, by rw [List.append_nil], s1 _ _ e3, z3, by simp, fun p hp => h1.hidden p (List.mem_filter.mp hp).1, by rw [ceq]; exact c.mono (cut_grow s1) r, by rw [ceq]; exact ru, ?_⟩
    refine (Rs.post_bind k).mono (fun b k v H2 ys hk2 hq2 hz2 hc2 hv2 => k v H2 ?_) fun n z d H2 hk2 => z d H2 fun b o e hb => ?_
    · rw [ceq] at hc2 hv2
      obtain ⟨q', vs', _, e1', _, _, _, _, _, _, hwr'⟩ := h1.write hw
      have : q' = q := by rw [e1] at e1'; simpa using e1'.symm
      subst this
      have h3 := hwr' ys b.2 H2 hz2 (fun p o hp e => hk2 p o hp e) hq2 hc2
      exact ⟨Og, h3.more hv2⟩
    · by_cases hb' : b = q
      · subst hb'
        rcases (h1.ow b (List.mem_append_right _ eO)).1 with z | z
        · rw [e] at z; cases z
        · exact absurd z hb
      · exact hk2 b o hb' (h1.fr b o e hb)
end
end TL
/-! TL6: statements, defs. -/
namespace TL
open PySem PySem.Spec PyProof.Rows L2
variable {A : Amb} {ca : Nat → Addr}
/-- how a statement ends -/
inductive Fl (ρ S L : Type) where
  | nx (s : S)
  | rt (r : ρ)
  | bk (s : L)
  | ct (s : L)
abbrev Rr (ρ : Type) := Fm → V → Hp → ρ → Prop
def FlP (K : PySem.W.Frag) (F : Fm) (R : Mn) {ρ S L : Type} (Γ : Cxt S) (Γl : Cxt L) (rr : Rr ρ) (D : Ends) : Fl ρ S L → Prop
  | .nx s => ∀ σ H, RS K F [] R Γ σ H s → D.nx σ H
  | .rt r => ∀ v H, rr F v H r → D.rt v H
  | .bk s => ∀ σ H, RS K F [] R Γl σ H s → D.bk σ H
  | .ct s => ∀ σ H, RS K F [] R Γl σ H s → D.ct σ H
def SX (A : Amb) (ca : Nat → Addr) (st : Stmt) {ρ S S' L : Type} (Γ : Cxt S) (Γ' : Cxt S') (Γl : Cxt L) (rr : Rr ρ) (f : S → Rs (Fl ρ S' L)) : Prop :=
  ∃ t, (∀ X, A.In X → PS X st t) ∧ ∀ (F : Fm) (R : Mn) (σ : L2.St) (H : Hp) (s : S) (D : Ends), RS A.K F [] R Γ σ H s → (f s).Post (FlP A.K F R Γ' Γl rr D) (ExF A.E ca F) → t D σ H
def SXs (A : Amb) (ca : Nat → Addr) (sts : List Stmt) {ρ S S' L : Type} (Γ : Cxt S) (Γ' : Cxt S') (Γl : Cxt L) (rr : Rr ρ) (f : S → Rs (Fl ρ S' L)) : Prop :=
  ∃ t, (∀ X, A.In X → PSs X sts t) ∧ ∀ (F : Fm) (R : Mn) (σ : L2.St) (H : Hp) (s : S) (D : Ends), RS A.K F [] R Γ σ H s → (f s).Post (FlP A.K F R Γ' Γl rr D) (ExF A.E ca F) → t D σ H
@[simp] def Fl.then {ρ S S' L : Type} (k : S → Rs (Fl ρ S' L)) : Fl ρ S L → Rs (Fl ρ S' L)
  | .nx s => k s
  | .rt r => .ok (.rt r)
  | .bk s => .ok (.bk s)
  | .ct s => .ok (.ct s)
section
variable {ρ S S' S'' L α β γ U : Type} {Γ : Cxt S} {Γ' : Cxt S'} {Γ'' : Cxt S''} {Γl : Cxt L} {rr : Rr ρ} {τ : Ty α} {τ' : Ty β} {c : Ct α} {e a b d tg iter : Expr} {pos p p2 py : Pos} {x y : Str} {st : Stmt} {sts : List Stmt} {i : Nat}
theorem SXs.nil : SXs A ca [] Γ Γ Γl rr (fun s => .ok (.nx s)) := ⟨_, fun X hX => pss_nil, fun F R σ H s D hs hp => hp σ H hs⟩
theorem SX.one {f : S → Rs (Fl ρ S' L)} (h : SX A ca st Γ Γ' Γl rr f) : SXs A ca [st] Γ Γ' Γl rr f := let ⟨t, ht, q⟩ := h; ⟨t, fun X hX => pss_one (ht X hX), q⟩
theorem SXs.cons {f : S → Rs (Fl ρ S' L)} {g : S' → Rs (Fl ρ S'' L)} (h : SX A ca st Γ Γ' Γl rr f) (hr : SXs A ca sts Γ' Γ'' Γl rr g) : SXs A ca (st :: sts) Γ Γ'' Γl rr (fun s => (f s).bind (Fl.then g)) := by
  obtain ⟨t, ht, q⟩ := h
  obtain ⟨u, hu, qu⟩ := hr
  refine ⟨_, fun X hX => pss_cons (ht X hX) (hu X hX), fun F R σ H s D hs hp => q F R σ H s _ hs ((Rs.post_bind hp).mono (fun fl k => ?_) fun _ z => z)⟩
  cases fl with
  | nx s' => exact fun σ' H' h' => qu F R σ' H' s' D h' k
  | rt r => exact fun v H' h' => k v H' h'
  | bk s' => exact fun σ' H' h' => k σ' H' h'
  | ct s' => exact fun σ' H' h' => k σ' H' h'
/-- forgetting ahead, behind -/
theorem SXs.pre {w : S → S'} {f : S' → Rs (Fl ρ S'' L)} (hw : Wk Γ Γ' w) (h : SXs A ca sts Γ' Γ'' Γl rr f) : SXs A ca sts Γ Γ'' Γl rr (fun s => f (w s)) := by
  obtain ⟨t, ht, q⟩ := h
  exact ⟨t, ht, fun F R σ H s D hs hp => q F R σ H _ D (hs.weak hw) hp⟩
theorem SX.pre {w : S → S'} {f : S' → Rs (Fl ρ S'' L)} (hw : Wk Γ Γ' w) (h : SX A ca st Γ' Γ'' Γl rr f) : SX A ca st Γ Γ'' Γl rr (fun s => f (w s)) := by
  obtain ⟨t, ht, q⟩ := h
  exact ⟨t, ht, fun F R σ H s D hs hp => q F R σ H _ D (hs.weak hw) hp⟩
theorem SXs.post {w : S' → S''} {f : S → Rs (Fl ρ S' L)} (h : SXs A ca sts Γ Γ' Γl rr f) (hw : Wk Γ' Γ'' w) : SXs A ca sts Γ Γ'' Γl rr (fun s => (f s).bind (Fl.then fun s' => .ok (.nx (w s')))) := by
  obtain ⟨t, ht, q⟩ := h
  refine ⟨t, ht, fun F R σ H s D hs hp => q F R σ H s D hs ((Rs.post_bind hp).mono (fun fl k => ?_) fun _ z => z)⟩
  cases fl with
  | nx s' => exact fun σ' H' h' => k σ' H' (h'.weak hw)
  | rt r => exact fun v H' h' => k v H' h'
  | bk s' => exact fun σ' H' h' => k σ' H' h'
  | ct s' => exact fun σ' H' h' => k σ' H' h'
/-! ### names -/
theorem SX.set {k : Nat} {f : S → Rs (α × S')} {put : S' → α → S''} (hx : LocA A x) (hN : A.N[i]? = some x) (he : EX A ca e Γ Γ' τ f) (hp : Put Γ' i (.val τ) Γ'' put) (hs : ∀ X, A.In X → swapsWith e (some (.Name x py)) pos.line X.env = pure false := by intro _ _; rfl) :
    SX A ca (.Assign [.Name x py] e pos) Γ Γ'' Γl rr (fun s => (f s).bind fun r => .ok (.nx (put r.2 r.1))) := by
  obtain ⟨t, ht, q⟩ := he
  refine ⟨_, fun X hX => ps_set (i := i) (by rw [hX.N]; exact hX.nd) (by rw [hX.N]; exact hN) (by rw [hX.sc]; exact hx.loc) (ht X hX) (hs X hX) (by rw [hX.fn, hX.sc]; exact hx.fn), fun F R σ H s D h0 hp' => q F [] R σ H s _ h0 ((Rs.post_bind hp').mono (fun r k v H' ⟨Og, h'⟩ => ?_) fun _ z => z)⟩
  exact k _ _ (h'.store hp (fun G z => ⟨rfl, v, rfl, z.2⟩) fun G z => z.1)
theorem SX.setO {k : Nat} {f : S → Rs (α × S')} {put : S' → α → S''} (hx : LocA A x) (hN : A.N[i]? = some x) (he : EL A ca e Γ Γ' c f) (hp : Put Γ' i (.own none c) Γ'' put) (hs : ∀ X, A.In X → swapsWith e (some (.Name x py)) pos.line X.env = pure false := by intro _ _; rfl) :
    SX A ca (.Assign [.Name x py] e pos) Γ Γ'' Γl rr (fun s => (f s).bind fun r => .ok (.nx (put r.2 r.1))) := by
  obtain ⟨t, ht, q⟩ := he
  refine ⟨_, fun X hX => ps_set (i := i) (by rw [hX.N]; exact hX.nd) (by rw [hX.N]; exact hN) (by rw [hX.sc]; exact hx.loc) (ht X hX) (hs X hX) (by rw [hX.fn, hX.sc]; exact hx.fn), fun F R σ H s D h0 hp' => q F [] R σ H s _ h0 ((Rs.post_bind hp').mono (fun r k p vs H' hz ⟨Og, h'⟩ => ?_) fun _ z => z)⟩
  exact k _ _ (h'.storeO hp hz (fun G z => z.2) fun G z => z.1)
/-- target = e -/
theorem SX.asg {f : S → Rs (α × S')} {put : S' → α → S''} {ix : List Nat} (he : EX A ca e Γ Γ' τ f) (hg : GX A tg Γ' Γ'' τ put ix) (hs : ∀ env, swapsWithSole [tg] e pos.line env = pure false := by intro _; rfl) (hw : ∀ X, A.In X → swappedStores [tg] e X.env = pure none := by intro _ _; rfl) (hst : star tg = false := by rfl) :
    SX A ca (.Assign [tg] e pos) Γ Γ'' Γl rr (fun s => (f s).bind fun r => .ok (.nx (put r.2 r.1))) := by
  obtain ⟨t, ht, q⟩ := he
  obtain ⟨g, pg, qg⟩ := hg
  refine ⟨_, fun X hX => ps_asg (ht X hX) (pg X hX) (hs X.env) (hw X hX) (by rw [assign_each hst]; rfl), fun F R σ H s D h0 hp' => q F [] R σ H s _ h0 ((Rs.post_bind hp').mono (fun r k v H' ⟨Og, h'⟩ => ?_) fun _ z => z)⟩
  exact qg _ H' σ Og _ v r.1 _ cut_le h'.rep h'.rs.2 fun σ' _ hr => k _ _ ⟨Og, hr, h'.rs.1, h'.nd, h'.ow, h'.lo, h'.fr, h'.hb, h'.hi⟩
/-- x, y = a, b of plain local names: stored from the right; both plain values -/
theorem SX.par {j : Nat} {px pyy pt pt2 : Pos} {kt k2 : Nat} {f : S → Rs ((α × β) × S')} {S3 : Type} {Γ3 : Cxt S3} {put : S' → α → S''} {put2 : S'' → β → S3} (hi : A.N[i]? = some x) (hj : A.N[j]? = some y) (hij : i ≠ j) (hx : A.sc.names.lookup x = some .local) (hy : A.sc.names.lookup y = some .local)
    (ha : EAs A ca [a, b] Γ Γ' (.cons τ (.one τ')) f) (hp : Put Γ' i (.val τ) Γ'' put) (hp2 : Put Γ'' j (.val τ') Γ3 put2) (hw : ∀ X, A.In X → swappedStores [.Tuple [.Name x px, .Name y pyy] kt pt] (.Tuple [a, b] k2 pt2) X.env = pure (some [x, y])) :
    SX A ca (.Assign [.Tuple [.Name x px, .Name y pyy] kt pt] (.Tuple [a, b] k2 pt2) pos) Γ Γ3 Γl rr (fun s => (f s).bind fun r => .ok (.nx (put2 (put r.2 r.1.1) r.1.2))) := by
  obtain ⟨t, ht, q⟩ := ha
  refine ⟨_, fun X hX => ps_par hX.calm (by rw [hX.N]; exact hX.nd) (by rw [hX.N]; exact hi) (by rw [hX.N]; exact hj) hij (by rw [hX.sc]; exact hx) (by rw [hX.sc]; exact hy) (ht X hX) (hw X hX), fun F R σ H s D h0 hp' => q F [] R σ H s _ h0 ((Rs.post_bind hp').mono (fun r k vs H' ⟨Og, h'⟩ => ?_) fun _ z => z)⟩
  obtain ⟨v, rest, e1, q1, u, e2, q2⟩ := h'.rs.2
  subst e2
  obtain ⟨Og2, h2⟩ := h'.store (R' := R.and (Mn.val A.K τ' u r.1.2)) hp (x := some v) (b := r.1.1) (fun G z => ⟨rfl, v, rfl, by
    obtain ⟨_, w, r', e3, q3, u', e4, q4⟩ := z
    rw [e1] at e3; cases e3; exact q3⟩) fun G z => ⟨z.1, by
    obtain ⟨_, w, r', e3, q3, u', e4, q4⟩ := z
    rw [e1] at e3; cases e3; cases e4; exact q4⟩
  exact ⟨v, u, e1, k _ _ (h2.store hp2 (fun G z => ⟨rfl, u, rfl, z.2⟩) fun G z => z.1)⟩
/-! ### ends -/
/-- the value that a def hands back -/
def rVal (K : PySem.W.Frag) (τ : Ty α) : Rr α := fun F v H r => F.Ok H ∧ τ.rep K (cut H F.B) v r
def rIO (K : PySem.W.Frag) (q : Addr) {γ : Type} (c : Ct γ) (τ : Ty α) : Rr (α × γ) := fun F v H r => F.I = [q] → F.Ok H ∧ ∃ xs, H q = some (.lst xs) ∧ xs.length ≤ sizeLine ∧ c.rep K (cut H (q :: F.B)) xs r.2 ∧ τ.rep K (cut H (q :: F.B)) v r.1
theorem hid_B {F : Fm} {L : Lo} {Og : List Addr} : ∀ p ∈ F.B, p ∈ hid F L Og := fun p hp => List.mem_append_left _ hp
theorem SX.ret {f : S → Rs (α × S')} (he : EX A ca e Γ Γ' τ f) : SX A ca (.Return (some e) pos) Γ Γ' Γl (rVal A.K τ) (fun s => (f s).bind fun r => .ok (.rt r.1)) := by
  obtain ⟨t, ht, q⟩ := he
  exact ⟨_, fun X hX => ps_ret (ht X hX), fun F R σ H s D h0 hp => q F [] R σ H s _ h0 ((Rs.post_bind hp).mono (fun r k v H' ⟨Og, h'⟩ => k v H' ⟨h'.fr, τ.mono (cut_sub hid_B) h'.rs.2⟩) fun _ z => z)⟩
theorem SX.retIO {f : S → Rs (α × S')} {q : Addr} {c : Ct γ} {g : S' → γ} (he : EX A ca e Γ Γ' τ f) (h0 : At Γ' 0 (.own (some q) c) g) : SX A ca (.Return (some e) pos) Γ Γ' Γl (rIO A.K q c τ) (fun s => (f s).bind fun r => .ok (.rt (r.1, g r.2))) := by
  obtain ⟨t, ht, qe⟩ := he
  refine ⟨_, fun X hX => ps_ret (ht X hX), fun F R σ H s D hs hp => qe F [] R σ H s _ hs ((Rs.post_bind hp).mono (fun r k v H' ⟨Og, h'⟩ => k v H' fun hI => ?_) fun _ z => z)⟩
  obtain ⟨xx, Oi, e1, e2, p, vs, e3, rfl, rfl, e4, z4, r4⟩ := h0.val h'.rep
  have : p = q := e3 q rfl
  subst this
  have sub : ∀ z ∈ p :: F.B, z ∈ hid F [] Og := fun z hz => by
    rcases List.mem_cons.mp hz with rfl | hz
    · exact List.mem_append_right _ (List.mem_append_right _ (e2 z (by simp)))
    · exact hid_B z hz
  exact ⟨h'.fr, vs, e4, z4, c.mono (cut_sub sub) r4, τ.mono (cut_sub sub) h'.rs.2⟩
theorem SX.retN {dflt : α} (hd : ∀ {H : Hp}, τ.rep A.K H .non dflt) : SX A ca (.Return none pos) Γ Γ' Γl (rVal A.K τ) (fun _ => .ok (.rt dflt)) :=
  ⟨_, fun X hX => ps_retN, fun F R σ H s D hs hp => hp .non H ⟨hs.fr, hd⟩⟩
theorem SX.brk : SX A ca (.Break pos) Γ Γ' Γ rr (fun s => .ok (.bk s)) := ⟨_, fun X hX => ps_break, fun F R σ H s D hs hp => hp σ H hs⟩
theorem SX.cnt : SX A ca (.Continue pos) Γ Γ' Γ rr (fun s => .ok (.ct s)) := ⟨_, fun X hX => ps_continue, fun F R σ H s D hs hp => hp σ H hs⟩
theorem SX.pass : SX A ca (.Pass pos) Γ Γ Γl rr (fun s => .ok (.nx s)) := ⟨_, fun X hX => ps_pass, fun F R σ H s D hs hp => hp σ H hs⟩
/-- a statement that is never come to -/
theorem SX.never : SX A ca st Γ Γ' Γl rr (fun _ => .bad) := ⟨_, fun X hX => ps_never, fun F R σ H s D hs hp => hp.elim⟩
theorem SX.expr {f : S → Rs (α × S')} (he : EX A ca e Γ Γ' τ f) (hs : ∀ env, swapsWith e none pos.line env = pure false := by intro _; rfl) : SX A ca (.Expr e pos) Γ Γ' Γl rr (fun s => (f s).bind fun r => .ok (.nx r.2)) := by
  obtain ⟨t, ht, q⟩ := he
  exact ⟨_, fun X hX => ps_expr (ht X hX) (hs X.env), fun F R σ H s D h0 hp => q F [] R σ H s _ h0 ((Rs.post_bind hp).mono (fun r k v H' h' => k _ _ (h'.map fun _ z => z.1)) fun _ z => z)⟩
theorem SX.doc {z : Str} {j : Nat} : SX A ca (.Expr (.Constant (.str z) j p) pos) Γ Γ Γl rr (fun s => .ok (.nx s)) := ⟨_, fun X hX => ps_doc, fun F R σ H s D hs hp => hp σ H hs⟩
/-! ### if -/
theorem SX.ite {sa sb : List Stmt} {f : S → Rs (Bool × S')} {g1 g2 : S' → Rs (Fl ρ S'' L)} (hc : EB A ca e Γ Γ' f) (h1 : SXs A ca sa Γ' Γ'' Γl rr g1) (h2 : SXs A ca sb Γ' Γ'' Γl rr g2) : SX A ca (.If e sa sb pos) Γ Γ'' Γl rr (fun s => (f s).bind fun r => if r.1 then g1 r.2 else g2 r.2) := by
  obtain ⟨t, ht, q⟩ := hc
  obtain ⟨t1, ht1, q1⟩ := h1
  obtain ⟨t2, ht2, q2⟩ := h2
  refine ⟨_, fun X hX => ps_if (ht X hX) (ht1 X hX) (ht2 X hX), fun F R σ H s D h0 hp => q F [] R σ H s _ h0 ((Rs.post_bind hp).mono (fun r k H' h' => ?_) fun _ z => z)⟩
  obtain ⟨c, s'⟩ := r
  cases c with
  | true => exact iteT (q1 F R σ H' s' D h' k)
  | false => exact iteF (q2 F R σ H' s' D h' k)
/-! ### for -/
def Mn.walk (K : PySem.W.Frag) (J : It) (τ : Ty β) (bs : List β) : Mn := ⟨fun G => Wkg K J G [] τ bs, fun {G G'} s h =>
  ⟨fun i H' s2 hi => h.go i H' (s.trans s2) hi, fun i b x H' H'' s2 hb hy => by
    obtain ⟨h1, h2⟩ := h.yl i b x H' H'' (s.trans s2) hb hy
    exact ⟨h1, fun O' hO hn => h2 O' (fun p hp => by
      rcases hO p hp with z | z
      · exact .inl z
      · exact .inr (s.free z)) hn⟩, fun H' s2 => h.st H' (s.trans s2)⟩⟩
/-- a source, which may change what a slot owns ahead of the walk -/
def EI (A : Amb) (ca : Nat → Addr) (tg iter : Expr) {S S' β : Type} (Γ : Cxt S) (Γ' : Cxt S') (τ : Ty β) (f : S → Rs (List β × S')) : Prop :=
  ∃ wi, (∀ X, A.In X → PI X tg iter wi) ∧ ∀ (F : Fm) (L : Lo) (R : Mn) (σ : L2.St) (H : Hp) (s : S) (Rk : It → Hp → Prop), RS A.K F L R Γ σ H s →
    (f s).Post (fun r => ∀ J H1, RS A.K F L (R.and (Mn.walk A.K J τ r.1)) Γ' σ H1 r.2 → Rk J H1) (ExF A.E ca F) → wi σ H Rk
theorem IX.ei {f : S → Rs (List β)} (h : IX A ca tg iter Γ τ' f) : EI A ca tg iter Γ Γ τ' (fun s => (f s).bind fun bs => .ok (bs, s)) := by
  obtain ⟨wi, hi, q⟩ := h
  exact ⟨wi, hi, fun F L R σ H s Rk ⟨Og, hs⟩ hp => q _ σ H s Rk hs.sx ((Rs.post_bind hp).mono (fun bs k J H1 sm w => k J H1 ⟨Og, (hs.grow sm).more w⟩) fun _ z => z.exw hs.fr)⟩
theorem EI.range1 {f : S → Rs (Int × S')} (B : Blt A "range" (.type "range")) (h : EX A ca a Γ Γ' tI f) (hs : star a = false := by rfl) : EI A ca tg (.Call (.Name "range" p) [a] [] pos) Γ Γ' tI (fun s => (f s).bind fun n => Rs.guard (rgOk 0 n.1) (.ok (rangeL 0 n.1, n.2))) := by
  obtain ⟨t, ht, q⟩ := h
  refine ⟨_, fun X hX => pi_range1 (hX.gl B.gl) (by rw [hX.mg]; exact B.mg) (pa_cons (ht X hX) pa_nil (star_each hs)) (star_each hs), fun F L R σ H s Rk h0 hp => q F L R σ H s _ h0 ((Rs.post_bind hp).mono (fun n k v H1 ⟨Og, h1⟩ => ?_) fun _ z => z)⟩
  obtain ⟨hc, k⟩ := Rs.post_guard k
  obtain ⟨c1, c2, c3, c4, c5⟩ := of_decide_eq_true hc
  exact ⟨n.1, by rw [show v = .int n.1 from h1.rs.2], c3, c4, k _ H1 ⟨Og, h1.with ⟨h1.rs.1, Wkg.range (by simp)⟩⟩⟩
theorem EI.range2 {f : S → Rs (Int × S')} {g : S' → Rs (Int × S'')} (B : Blt A "range" (.type "range")) (ha : EX A ca a Γ Γ' tI f) (hb : EX A ca b Γ' Γ'' tI g) (h1 : star a = false := by rfl) (h2 : star b = false := by rfl) :
    EI A ca tg (.Call (.Name "range" p) [a, b] [] pos) Γ Γ'' tI (fun s => (f s).bind fun m => (g m.2).bind fun n => Rs.guard (rgOk m.1 n.1) (.ok (rangeL m.1 n.1, n.2))) := by
  obtain ⟨ta, pa, qa⟩ := ha
  obtain ⟨tb, pb, qb⟩ := hb
  refine ⟨_, fun X hX => pi_range2 (hX.gl B.gl) (by rw [hX.mg]; exact B.mg) (pa_cons (pa X hX) (pa_cons (pb X hX) pa_nil (star_each h2)) (star_each h1)) (by rw [star_each h1, star_each h2]; rfl) (star_each h2), fun F L R σ H s Rk h0 hp => EX.two (k := fun m n s2 => Rs.guard (rgOk m n) (.ok (rangeL m n, s2))) qa qb h0 hp fun m n s2 v u H2 hh k => ?_⟩
  obtain ⟨Og, hh⟩ := hh
  obtain ⟨hc, k⟩ := Rs.post_guard k
  obtain ⟨c1, c2, c3, c4, c5⟩ := of_decide_eq_true hc
  exact ⟨m, n, by rw [show v = .int m from hh.rs.1.2, show u = .int n from hh.rs.2], ⟨c1, c2, c3, c4⟩, k _ H2 ⟨Og, hh.with ⟨hh.rs.1.1, Wkg.range rfl⟩⟩⟩
theorem EI.list {f : S → Rs (List α × S')} (h : EX A ca iter Γ Γ' (tL τ) f) : EI A ca tg iter Γ Γ' τ f := by
  obtain ⟨t, ht, q⟩ := h
  refine ⟨iList A.K t, fun X hX => by rw [← hX.K]; exact pi_list (ht X hX), fun F L R σ H s Rk h0 hp => q F L R σ H s _ h0 (hp.mono (fun n k v H1 ⟨Og, h1⟩ => ?_) fun _ z => z)⟩
  obtain ⟨p, vs, rfl, e, z, r⟩ := h1.rs.2
  exact ⟨p, rfl, ⟨vs, .inl (.inl (cut_le _ _ e))⟩, k _ H1 ⟨Og, h1.with ⟨h1.rs.1, Wkg.listT (vs := vs) (.inl (.inl e)) (by rw [cut_nil]; exact r)⟩⟩⟩
@[simp] def forK {β ρ S L : Type} (rec : S → Rs (Fl ρ S L)) : Fl ρ S S → Rs (Fl ρ S L)
  | .nx s => rec s
  | .ct s => rec s
  | .bk s => .ok (.nx s)
  | .rt r => .ok (.rt r)
def forM {β ρ S L : Type} (b : β → S → Rs (Fl ρ S S)) : List β → S → Rs (Fl ρ S L)
  | [], s => .ok (.nx s)
  | x :: r, s => (b x s).bind (forK (β := β) (forM b r))
theorem SX.forS {St2 : Type} {Γt : Cxt St2} {f : S → Rs (List β × S')} {put : S' → β → St2} {ix : List Nat} {body : List Stmt} {g : St2 → Rs (Fl ρ S' S')} (hi : EI A ca tg iter Γ Γ' τ' f) (hg : GX A tg Γ' Γt τ' put ix) (hb : SXs A ca body Γt Γ' Γ' rr g)
    (hf : ∀ env x, foldedSetIterable iter env x = pure x := by intro _ _; rfl) : SX A ca (.For tg iter body [] pos) Γ Γ' Γl rr (fun s => (f s).bind fun r => forM (fun b s => g (put s b)) r.1 r.2) := by
  obtain ⟨wi, pi, qi⟩ := hi
  obtain ⟨tgt, pg, qg⟩ := hg
  obtain ⟨tb, pb, qb⟩ := hb
  refine ⟨_, fun X hX => ps_for hX.own hX.calm (pi X hX) (pg X hX) (pb X hX) (hf X.env), fun F R σ H s D h0 hp => qi F [] R σ H s _ h0 ((Rs.post_bind hp).mono (fun r k J H1 h1 => ?_) fun _ z => z)⟩
  obtain ⟨bs, s1⟩ := r
  refine ⟨fun i m σ H => i + m = bs.length ∧ ∃ s, RS A.K F [] (R.and (Mn.walk A.K J τ' bs)) Γ' σ H s ∧ (forM (fun b s => g (put s b)) (bs.drop i) s).Post (FlP A.K F R Γ' Γl rr D) (ExF A.E ca F), ⟨bs.length, by omega, s1, h1, by rw [List.drop_zero]; exact k⟩, fun i m σ H hW => ?_⟩
  obtain ⟨him, s2, h2, k2⟩ := hW
  by_cases hlt : i < bs.length
  · obtain ⟨Og, h2⟩ := h2
    have wk := h2.rs.2
    refine .inr ⟨wk.go i H cut_le hlt, fun σ' H' => ∃ s, RS A.K F [] (R.and (Mn.walk A.K J τ' bs)) Γ' σ' H' s ∧ (forM (fun b s => g (put s b)) (bs.drop (i + 1)) s).Post (FlP A.K F R Γ' Γl rr D) (ExF A.E ca F), fun σ' H' ⟨s', h', k'⟩ => ⟨m - 1, by omega, by omega, s', h', k'⟩, fun x H' hy => ?_⟩
    have hbi : bs[i]? = some bs[i] := List.getElem?_eq_getElem hlt
    obtain ⟨sm, rx⟩ := wk.yl i _ x H H' cut_le hbi hy
    have h3 := h2.grow sm
    have rx' := rx (hid F [] Og) (fun p hp => .inr (cut_in hp)) (fun p hp => (h2.hidden p hp).ne)
    rw [List.drop_eq_getElem_cons hlt] at k2
    refine qg _ H' σ Og s2 x bs[i] _ cut_le h3.rep rx' fun σ' _ hr => ?_
    have h4 : RS A.K F [] (R.and (Mn.walk A.K J τ' bs)) Γt σ' H' (put s2 bs[i]) := ⟨Og, hr, h3.rs, h3.nd, h3.ow, h3.lo, h3.fr, h3.hb, h3.hi⟩
    refine qb F _ σ' H' _ _ h4 ((Rs.post_bind k2).mono (fun fl kf => ?_) fun _ z => z)
    cases fl with
    | nx s' => exact fun σ2 H2 h5 => ⟨s', h5, kf⟩
    | ct s' => exact fun σ2 H2 h5 => ⟨s', h5, kf⟩
    | bk s' => exact fun σ2 H2 h5 => kf σ2 H2 (h5.map fun _ z => z.1)
    | rt r => exact fun v H2 h5 => kf v H2 h5
  · refine .inl ⟨?_, ?_⟩
    · obtain ⟨Og, h2⟩ := h2
      have : i = bs.length := by omega
      rw [this]; exact h2.rs.2.st H cut_le
    · rw [List.drop_eq_nil_of_le (by omega)] at k2
      exact k2 σ H (h2.map fun _ z => z.1)
/-! ### while -/
def whileM {ρ S L : Type} (c : S → Rs (Bool × S)) (b : S → Rs (Fl ρ S S)) : Nat → S → Rs (Fl ρ S L)
  | 0, _ => .bad
  | n + 1, s => (c s).bind fun r => if r.1 then (b r.2).bind (forK (β := Unit) (whileM c b n)) else .ok (.nx r.2)
theorem SX.whileS {f : S → Rs (Bool × S)} {body : List Stmt} {g : S → Rs (Fl ρ S S)} (n : Nat) (hc : EB A ca e Γ Γ f) (hb : SXs A ca body Γ Γ Γ rr g) : SX A ca (.While e body [] pos) Γ Γ Γl rr (fun s => whileM f g n s) := by
  obtain ⟨t, ht, q⟩ := hc
  obtain ⟨tb, pb, qb⟩ := hb
  refine ⟨_, fun X hX => ps_while hX.own (ht X hX) (pb X hX), fun F R σ H s D h0 hp => ⟨fun m σ H => ∃ s, RS A.K F [] R Γ σ H s ∧ (whileM f g m s).Post (FlP A.K F R Γ Γl rr D) (ExF A.E ca F), ⟨n, s, h0, hp⟩, fun m σ H ⟨s1, h1, k1⟩ => ?_⟩⟩
  cases m with
  | zero => exact k1.elim
  | succ m =>
    refine q F [] R σ H s1 _ h1 ((Rs.post_bind k1).mono (fun r k H' h' => ?_) fun _ z => z)
    obtain ⟨c, s2⟩ := r
    cases c with
    | false => exact iteF (k σ H' h')
    | true =>
      refine iteT ⟨fun σ' H' => ∃ s, RS A.K F [] R Γ σ' H' s ∧ (whileM f g m s).Post (FlP A.K F R Γ Γl rr D) (ExF A.E ca F), fun σ' H' h => ⟨m, by omega, h⟩, ?_⟩
      refine qb F R σ H' s2 _ h' ((Rs.post_bind k).mono (fun fl kf => ?_) fun _ z => z)
      cases fl with
      | nx s' => exact fun σ2 H2 h5 => ⟨s', h5, kf⟩
      | ct s' => exact fun σ2 H2 h5 => ⟨s', h5, kf⟩
      | bk s' => exact fun σ2 H2 h5 => kf σ2 H2 h5
      | rt r => exact fun v H2 h5 => kf v H2 h5
/-! ### lists that a slot owns are changed -/
theorem Paired.set' {F : V → α → Prop} {v : V} {a : α} (hr : F v a) : ∀ {vs : List V} {as : List α}, Paired F vs as → ∀ (n : Nat), Paired F (vs.set n v) (as.set n a)
  | _, _, .nil, _ => .nil
  | _, _, .cons r t, 0 => .cons hr t
  | _, _, .cons r t, n + 1 => .cons r (Paired.set' hr t n)
theorem atSeq {n : Nat} {i : Int} {j : Nat} (h : ixN n i = some j) : True := trivial
/-- xs[i] = e -/
theorem SX.setI {w : Option Addr} {f : S → Rs (α × S')} {g : S' → List α} {put : S' → List α → S''} {fi : S' → Rs Int} {xp xp2 : Pos} (he : EX A ca e Γ Γ' τ f) (hw : Wr Γ' i w (cL τ) g (cL τ) Γ'' put) (hN : A.N[i]? = some x) (hv : Vis A.sc x) (hix : PX A ca b Γ' tI fi)
    (hs : ∀ env, swapsWithSole [.Subscript (.Name x xp) b xp2] e pos.line env = pure false := by intro _; rfl) (hw2 : ∀ X, A.In X → swappedStores [.Subscript (.Name x xp) b xp2] e X.env = pure none := by intro _ _; rfl)
    (hd : (x == ("__debug__" : Str)) = false := by decide) (hcd : (x == ("__classdict__" : Str)) = false := by decide)
    (hsub : ∀ env v, assign (.Subscript (.Name x xp) b xp2) env v = (do let ov ← holding [v] (eval (.Name x xp) env); let iv ← holding [v, ov] (eval b env); standAt xp2; holding [v, ov, iv] (setItem ov iv v); release [v, ov, iv] []) := by intro _ _; rfl) :
    SX A ca (.Assign [.Subscript (.Name x xp) b xp2] e pos) Γ Γ'' Γl rr (fun s => (f s).bind fun r => (fi r.2).bind fun j => (Rs.ofOpt (ixN (g r.2).length j)).bind fun n => .ok (.nx (put r.2 ((g r.2).set n r.1)))) := by
  obtain ⟨t, ht, q⟩ := he
  obtain ⟨ti, hti, qi⟩ := hix
  refine ⟨_, fun X hX => ps_asg (ht X hX) (pg_sub (pe_var (i := i) (by rw [hX.N]; exact hN) (by rw [hX.sc]; exact hv) hd hcd) (hti X hX) set_list (hsub X.env)) (hs X.env) (hw2 X hX) (by rw [assign_each rfl]; rfl), fun F R σ H s D h0 hp => q F [] R σ H s _ h0 ((Rs.post_bind hp).mono (fun r k v H' ⟨Og, h'⟩ => ?_) fun _ z => z)⟩
  obtain ⟨l, vs, e0, e1, _, _, _, e3, z3, r3, _⟩ := h'.write hw
  refine ⟨.ref l, e1, qi _ σ H' r.2 _ h'.sx ((Rs.post_bind k).mono (fun j kj u H2 s2 ru => ?_) fun _ z => z.exw h'.fr)⟩
  obtain ⟨n, en, kn⟩ := Rs.post_ofOpt (Rs.post_bind kj)
  have h2 := h'.grow s2
  obtain ⟨l2, vs2, _, e12, e22, _, _, e32, z32, r32, hwr⟩ := h2.write hw
  have : l2 = l := by rw [e1] at e12; simpa using e12.symm
  subst this
  refine ⟨l2, vs2, j, n, rfl, ru, e32, by rw [Paired.length r32]; exact en, kn _ _ ⟨Og, ?_⟩⟩
  have h3 := hwr (vs2.set n v) ((g r.2).set n r.1) _ (by rw [List.length_set]; exact z32) (fun p o hp e => by rw [upd_ne hp]; exact e) upd_same (by
    rw [cut_upd e22]
    exact Paired.set' (τ.mono (cut_grow s2) h'.rs.2) r32 n)
  exact h3.with (R.mono (by rw [cut_upd e22]; exact cut_grow s2) h'.rs.1)
end
end TL
/-! TL7: comprehensions whose elements change what slots own; comprehensions given to a name; methods of lists; defs. -/
namespace TL
open PySem PySem.Spec PyProof.Rows L2
variable {A : Amb} {ca : Nat → Addr}
section
variable {ρ S S' S'' L α β γ U : Type} {Γ : Cxt S} {Γ' : Cxt S'} {Γ'' : Cxt S''} {Γl : Cxt L} {rr : Rr ρ} {τ : Ty α} {τ' : Ty β} {c : Ct α} {e a b d tg iter : Expr} {pos p p2 py : Pos} {x y : Str} {st : Stmt} {sts : List Stmt} {i : Nat}
/-- slot i is not looked at -/
structure AnyAt {S : Type} (Γ : Cxt S) (i : Nat) : Prop where
  iff : ∀ {K : PySem.W.Frag} {G H : Hp} {σ : L2.St} {O : List Addr} {s : S} {x : Option V}, Γ.rep K G H (σ.set i x) O s ↔ Γ.rep K G H σ O s
theorem AnyAt.z {S : Type} {Γ : Cxt S} : AnyAt (.cons .any Γ) 0 := ⟨by
  intro K G H σ O s x
  constructor
  · rintro ⟨y, σ', O1, O2, e, rfl, h1, h2⟩
    cases σ with
    | nil => cases e
    | cons u σ => cases e; exact ⟨_, _, O1, O2, rfl, rfl, h1, h2⟩
  · rintro ⟨y, σ', O1, O2, rfl, rfl, h1, h2⟩
    exact ⟨x, σ', O1, O2, rfl, rfl, h1, h2⟩⟩
theorem AnyAt.s {S α : Type} {k : Sl α} {Γ : Cxt S} {i : Nat} (h : AnyAt Γ i) : AnyAt (.cons k Γ) (i + 1) := ⟨by
  intro K G H σ O s x
  constructor
  · rintro ⟨y, σ', O1, O2, e, rfl, h1, h2⟩
    cases σ with
    | nil => cases e
    | cons u σ =>
      rw [List.set_cons_succ] at e
      cases e
      exact ⟨_, σ, O1, O2, rfl, rfl, h1, h.iff.mp h2⟩
  · rintro ⟨y, σ', O1, O2, rfl, rfl, h1, h2⟩
    exact ⟨y, _, O1, O2, rfl, rfl, h1, h.iff.mpr h2⟩⟩
theorem AnyAt.wipe {S : Type} {Γ : Cxt S} {K : PySem.W.Frag} {G H : Hp} {σ : L2.St} {O : List Addr} {s : S} : ∀ {vs : List Nat}, (∀ i ∈ vs, AnyAt Γ i) → (Γ.rep K G H (L2.wipe σ vs) O s ↔ Γ.rep K G H σ O s)
  | [], _ => Iff.rfl
  | v :: vs, h => by
    show Γ.rep K G H ((L2.wipe σ vs).set v none) O s ↔ _
    rw [(h v (by simp)).iff]
    exact AnyAt.wipe fun i hi => h i (List.mem_cons_of_mem _ hi)
theorem RS.sigma {K : PySem.W.Frag} {F : Fm} {L : Lo} {R : Mn} {S : Type} {Γ : Cxt S} {σ σ' : L2.St} {H : Hp} {s : S} (h : RS K F L R Γ σ H s) (f : ∀ G O, Γ.rep K G H σ O s → Γ.rep K G H σ' O s) : RS K F L R Γ σ' H s :=
  let ⟨Og, h⟩ := h
  ⟨Og, f _ _ h.rep, h.rs, h.nd, h.ow, h.lo, h.fr, h.hb, h.hi⟩
/-- what a comprehension with changes makes -/
def lcE {β γ S : Type} (g : β → S → Rs (Option γ × S)) : List β → S → Rs (List γ × S)
  | [], s => .ok ([], s)
  | x :: r, s => (g x s).bind fun o => (lcE g r o.2).bind fun ys => .ok (o.1.toList ++ ys.1, ys.2)
theorem elc_spec {S2 : Type} {Γt : Cxt S2} {τ1 : Ty β} {τ2 : Ty γ} {fi : S → Rs (List β × S')} {put : S' → β → S2} {w : S2 → S'} {ix : List Nat} {ft : S2 → Rs (Bool × S2)} {fe : S2 → Rs (γ × S2)} {wi : TI} {g : TG} {tt : TT} {te : TE}
    {vs : List Nat} (hw : Wp Γt vs Γ' w) (hany : ∀ i ∈ vs, AnyAt Γ' i) (hix : ∀ i ∈ ix, i ∈ vs)
    (qi : ∀ (F : Fm) (L : Lo) (R : Mn) (σ : L2.St) (H : Hp) (s : S) (Rk : It → Hp → Prop), RS A.K F L R Γ σ H s → (fi s).Post (fun r => ∀ J H1, RS A.K F L (R.and (Mn.walk A.K J τ1 r.1)) Γ' σ H1 r.2 → Rk J H1) (ExF A.E ca F) → wi σ H Rk)
    (qg : ∀ (G H : Hp) (σ : L2.St) (O : List Addr) (s : S') (v : V) (a : β) (Q : L2.St → Hp → Prop), Same G H → Γ'.rep A.K G H σ O s → τ1.rep A.K G v a →
      (∀ σ', (∀ vs, (∀ i ∈ ix, i ∈ vs) → L2.wipe σ' vs = L2.wipe σ vs) → Γt.rep A.K G H σ' O (put s a) → Q σ' H) → g v σ H Q)
    (qt : ∀ (F : Fm) (L : Lo) (R : Mn) (σ : L2.St) (H : Hp) (s : S2) (Q : Bool → Hp → Prop), RS A.K F L R Γt σ H s → (ft s).Post (fun r => ∀ H', RS A.K F L R Γt σ H' r.2 → Q r.1 H') (ExF E0 ca F) → tt σ H Q)
    (qe : ∀ (F : Fm) (L : Lo) (R : Mn) (σ : L2.St) (H : Hp) (s : S2) (Q : VK), RS A.K F L R Γt σ H s → (fe s).Post (fun r => ∀ v H', RS A.K F L (R.and (Mn.val A.K τ2 v r.1)) Γt σ H' r.2 → Q v H') (ExF E0 ca F) → te σ H Q)
    (F : Fm) (L : Lo) (R : Mn) (σ : L2.St) (H : Hp) (s : S) (Q : VK) (hs : RS A.K F L R Γ σ H s)
    (hp : ((fi s).bind fun r => Rs.guard (decide (r.1.length ≤ sizeLine)) (lcE (fun b s => nox ((ft (put s b)).bind fun r => if r.1 then (fe r.2).bind fun a => .ok (some a.1, w a.2) else .ok (none, w r.2))) r.1 r.2)).Post
      (fun r => ∀ p vs H', vs.length ≤ sizeLine → RS A.K F ((p, vs) :: L) (R.and (Mn.lst A.K (cL τ2) vs r.1)) Γ' σ H' r.2 → Q (.ref p) H') (ExF A.E ca F)) :
    tLc wi g tt te vs σ H Q := by
  refine qi F L R σ H s _ hs ((Rs.post_bind hp).mono (fun r k J H1 h1 => ?_) fun _ z => z)
  obtain ⟨bs, s1⟩ := r
  obtain ⟨hz, k⟩ := Rs.post_guard k
  have hz : bs.length ≤ sizeLine := of_decide_eq_true hz
  intro D nD
  generalize hgg : (fun b (s : S') => nox ((ft (put s b)).bind fun r => if r.1 then (fe r.2).bind fun a => .ok (some a.1, w a.2) else .ok (none, w r.2))) = gg at k
  obtain ⟨Og, h1⟩ := h1
  have hD := h1.loose (R' := Mn.lst A.K (cL τ2) [] []) nD (same_upd (o := .lst []) nD) upd_same .nil
  let Inv : List V → List γ → Mn := fun acc ys => (R.and (Mn.walk A.K J τ1 bs)).and (Mn.lst A.K (cL τ2) acc ys)
  let Wv : Nat → Nat → Hp → Prop := fun i m H' => i + m = bs.length ∧ ∃ s acc ys, RS A.K F ((D, acc) :: L) (Inv acc ys) Γ' σ H' s ∧ acc.length ≤ i ∧
    (lcE gg (bs.drop i) s).Post (fun r => ∀ p vs H', vs.length ≤ sizeLine → RS A.K F ((p, vs) :: L) (R.and (Mn.lst A.K (cL τ2) vs (ys ++ r.1))) Γ' σ H' r.2 → Q (.ref p) H') (ExF A.E ca F)
  refine ⟨Wv, ⟨bs.length, by omega, s1, [], [], ⟨Og, hD⟩, Nat.zero_le _, by rw [List.drop_zero]; exact k⟩, fun i m H' hW => ?_⟩
  obtain ⟨him, s2, acc, ys, h2, hacc, hk⟩ := hW
  by_cases hi : i < bs.length
  · obtain ⟨Og2, h2⟩ := h2
    have wk : Wkg A.K J _ [] τ1 bs := h2.rs.1.2
    refine .inr ⟨wk.go i H' cut_le hi, Wv (i + 1) (m - 1), fun H'' h => ⟨m - 1, by omega, h⟩, fun x H2 hy => ?_⟩
    have hbi : bs[i]? = some bs[i] := List.getElem?_eq_getElem hi
    obtain ⟨sm, rx⟩ := wk.yl i _ x H' H2 cut_le hbi hy
    have h3 := h2.grow sm
    have rx' := rx (hid F ((D, acc) :: L) Og2) (fun p hp => .inr (cut_in hp)) (fun p hp => (h2.hidden p hp).ne)
    rw [List.drop_eq_getElem_cons hi] at hk
    refine qg _ H2 (L2.wipe σ vs) Og2 s2 x bs[i] _ cut_le ((AnyAt.wipe hany).mpr h3.rep) rx' fun σ' hwp hr' => ⟨(hwp _ hix).trans (wipe_wipe _ fun _ h => h), ?_⟩
    have hwσ : L2.wipe σ' vs = L2.wipe σ vs := (hwp _ hix).trans (wipe_wipe _ fun _ h => h)
    have h4 : RS A.K F ((D, acc) :: L) (Inv acc ys) Γt σ' H2 (put s2 bs[i]) := ⟨Og2, hr', h3.rs, h3.nd, h3.ow, h3.lo, h3.fr, h3.hb, h3.hi⟩
    have back : ∀ {R : Mn} {acc : List V} {H : Hp} {s : S2}, RS A.K F ((D, acc) :: L) R Γt σ' H s → RS A.K F ((D, acc) :: L) R Γ' σ H (w s) := fun {R acc H s} h => (h.wipe hw).sigma fun G O r => by
      rw [hwσ] at r
      exact (AnyAt.wipe hany).mp r
    have hk1 := Rs.post_bind hk
    rw [← hgg] at hk1
    have hk2 := Rs.post_bind (post_nox (E' := ExF E0 ca F) hk1)
    rw [hgg] at hk2
    refine qt F _ _ σ' H2 _ _ h4 (hk2.mono (fun r kr H3 h5 => ?_) fun _ z => z)
    obtain ⟨cc, s5⟩ := r
    cases cc with
    | true =>
      refine iteT (qe F _ _ σ' H3 s5 _ h5 ((Rs.post_bind kr).mono (fun a ka v H4 h6 => ?_) fun _ z => z))
      obtain ⟨Og6, h6⟩ := back h6
      have hka := Rs.post_bind ka
      have eD : H4 D = some (.lst acc) := h6.lo (D, acc) (by simp)
      have inD : D ∈ hid F ((D, acc) :: L) Og6 := List.mem_append_right _ (by simp)
      have ceq : cut (upd H4 D (.lst (acc ++ [v]))) (hid F ((D, acc) :: L) Og6) = cut H4 (hid F ((D, acc) :: L) Og6) := cut_upd inD
      have nd : (D :: (L.map (·.1) ++ Og6)).Nodup := h6.nd
      obtain ⟨nD1, _⟩ := List.nodup_cons.mp nd
      refine ⟨acc, eD, by omega, by omega, w a.2, acc ++ [v], ys ++ [a.1], ⟨Og6, ?_⟩, by rw [List.length_append]; exact Nat.succ_le_succ hacc, ?_⟩
      · have hr6 : (Inv (acc ++ [v]) (ys ++ [a.1])).p (cut H4 (hid F ((D, acc) :: L) Og6)) := ⟨h6.rs.1.1, Paired.append h6.rs.1.2 (.cons h6.rs.2 .nil)⟩
        have hh : hid F ((D, acc ++ [v]) :: L) Og6 = hid F ((D, acc) :: L) Og6 := rfl
        refine ⟨?_, ?_, h6.nd, fun p hp => ⟨(h6.ow p hp).1, (h6.ow p hp).2.1, ?_⟩, fun x hx => ?_, fun b o q hb => ?_, h6.hb, fun p hp => ?_⟩
        · rw [hh, ceq]
          refine Γ'.mono (fun _ _ z => z) (fun p hp o e => ?_) h6.rep
          rw [upd_ne (show p ≠ D from fun z => nD1 (by rw [← z]; exact List.mem_append_right _ hp))]; exact e
        · rw [hh, ceq]; exact hr6
        · by_cases q : p = D
          · subst q; exact Hidn.lst upd_same
          · obtain ⟨o, e, n⟩ := (h6.ow p hp).2.2
            exact ⟨o, by rw [upd_ne q]; exact e, n⟩
        · rcases List.mem_cons.mp hx with rfl | hx
          · exact upd_same
          · have : x.1 ≠ D := fun z => nD1 (by rw [← z]; exact List.mem_append_left _ (List.mem_map.mpr ⟨x, hx, rfl⟩))
            rw [upd_ne this]; exact h6.lo x (List.mem_cons_of_mem _ hx)
        · have : b ≠ D := fun z => by
            subst z
            rcases (h6.ow b (by simp)).1 with z | z
            · rw [q] at z; cases z
            · exact hb z
          rw [upd_ne this]; exact h6.fr b o q hb
        · by_cases q : p = D
          · subst q; exact Hidn.lst upd_same
          · obtain ⟨o, e, n⟩ := h6.hi p hp
            exact ⟨o, by rw [upd_ne q]; exact e, n⟩
      · exact hka.mono (fun zs kz p vs H'' z' r' => kz p vs H'' z' (by simpa using r')) fun _ z => z
    | false =>
      refine iteF ⟨by omega, w s5, acc, ys, back h5, by omega, ?_⟩
      have hka := Rs.post_bind (show (Rs.bind (Rs.ok ((none : Option γ), w s5)) _).Post _ _ from kr)
      exact (Rs.post_bind hka).mono (fun zs kz p vs H'' z' r' => kz p vs H'' z' (by simpa using r')) fun _ z => z
  · refine .inl ⟨?_, ?_⟩
    · obtain ⟨Og2, h2⟩ := h2
      have wk : Wkg A.K J _ [] τ1 bs := h2.rs.1.2
      have : i = bs.length := by omega
      rw [this]; exact wk.st H' cut_le
    · rw [List.drop_eq_nil_of_le (by omega)] at hk
      exact hk D acc H' (by omega) (by rw [List.append_nil]; exact h2.map fun G z => ⟨z.1.1, z.2⟩)
/-- tests with changes -/
def ETz (A : Amb) (ca : Nat → Addr) (ifs : List Expr) {S : Type} (Γ : Cxt S) (f : S → Rs (Bool × S)) : Prop :=
  ∃ t, (∀ X, A.In X → PTs X ifs t) ∧ ∀ (F : Fm) (L : Lo) (R : Mn) (σ : L2.St) (H : Hp) (s : S) (Q : Bool → Hp → Prop), RS A.K F L R Γ σ H s → (f s).Post (fun r => ∀ H', RS A.K F L R Γ σ H' r.2 → Q r.1 H') (ExF A.E ca F) → t σ H Q
theorem ETz.nil : ETz A ca [] Γ (fun s => .ok (true, s)) := ⟨_, fun X hX => pts_nil, fun F L R σ H s Q hs hp => hp H hs⟩
theorem ETz.one {f : S → Rs (Bool × S)} (h : EB A ca e Γ Γ f) : ETz A ca [e] Γ f := let ⟨t, ht, q⟩ := h; ⟨t, fun X hX => pts_one (ht X hX), q⟩
theorem EL.lc {S2 : Type} {Γt : Cxt S2} {τ1 : Ty β} {τ2 : Ty γ} {elt : Expr} {ifs : List Expr} {scope : Scope} {fi : S → Rs (List β × S')} {w : S2 → S'} {put : S' → β → S2} {ix : List Nat} {ft : S2 → Rs (Bool × S2)} {fe : S2 → Rs (γ × S2)}
    (own : List (Str × Nat)) (hi : EI A ca tg iter Γ Γ' τ1 fi) (hb : blkC A.N A.sc scope own = true) (hg : GX (A.blk scope) tg Γ' Γt τ1 put ix) (ht : ETz (A.blk scope) ca ifs Γt ft) (he : EX (A.blk scope) ca elt Γt Γt τ2 fe)
    (hw : Wp Γt (own.map (·.2)) Γ' w) (hany : ∀ i ∈ own.map (·.2), AnyAt Γ' i) (hix : ∀ i ∈ ix, i ∈ own.map (·.2)) (hf : ∀ env x, foldedSetIterable iter env x = pure x := by intro _ _; rfl) :
    EL A ca (.ListComp elt [⟨tg, iter, ifs, 0⟩] scope pos) Γ Γ' (cL τ2) (fun s => (fi s).bind fun r => Rs.guard (decide (r.1.length ≤ sizeLine)) (lcE (fun b s => nox ((ft (put s b)).bind fun r => if r.1 then (fe r.2).bind fun a => .ok (some a.1, w a.2) else .ok (none, w r.2))) r.1 r.2)) := by
  obtain ⟨wi, pi, qi⟩ := hi
  obtain ⟨g, pg, qg⟩ := hg
  obtain ⟨tt, ptt, qt⟩ := ht
  obtain ⟨te, pe, qe⟩ := he
  exact ⟨tLc wi g tt te (own.map (·.2)), fun X hX => pe_lc hX.calm (by rw [hX.N]; exact hX.nd) (pi X hX) (blkOk_by (by rw [hX.N, hX.sc]; exact hb)) (fun s H C cl fp => pg _ (hX.blk scope s H C cl fp)) (fun s H C cl fp => ptt _ (hX.blk scope s H C cl fp)) (fun s H C cl fp => pe _ (hX.blk scope s H C cl fp)) (hf X.env),
    fun F L R σ H s Q hs hp => elc_spec hw hany hix qi qg qt qe F L R σ H s Q hs hp⟩
/-- name = [..] on one line, the name a local: either way of keeping it -/
theorem SX.setEc {S2 S3 : Type} {Γt : Cxt S2} {Γ3 : Cxt S3} {τ1 : Ty β} {τ2 : Ty γ} {elt : Expr} {ifs : List Expr} {scope : Scope} {fi : S → Rs (List β × S')} {w : S2 → S'} {put : S' → β → S2} {ix : List Nat} {ft : S2 → Rs (Bool × S2)} {fe : S2 → Rs (γ × S2)} {put2 : S' → List γ → S3}
    (own : List (Str × Nat)) (hN : A.N[i]? = some y) (hy : A.sc.names.lookup y = some .local) (hl : (py.line == p.line) = true) (hn : (scope.names.any fun (n, k) => n == y && (k == .local || k == .cell)) = false) (hk : A.sc.kind = .function)
    (hi : EI A ca tg iter Γ Γ' τ1 fi) (hb : blkC A.N A.sc scope own = true) (hg : GX (A.blk scope) tg Γ' Γt τ1 put ix) (ht : ETz (A.blk scope) ca ifs Γt ft) (he : EX (A.blk scope) ca elt Γt Γt τ2 fe)
    (hw : Wp Γt (own.map (·.2)) Γ' w) (hany : ∀ i ∈ own.map (·.2), AnyAt Γ' i) (hix : ∀ i ∈ ix, i ∈ own.map (·.2)) (hp2 : Put Γ' i (.own none (cL τ2)) Γ3 put2) (hf : ∀ env x, foldedSetIterable iter env x = pure x := by intro _ _; rfl) :
    SX A ca (.Assign [.Name y py] (.ListComp elt [⟨tg, iter, ifs, 0⟩] scope p) pos) Γ Γ3 Γl rr (fun s => ((fi s).bind fun r => Rs.guard (decide (r.1.length ≤ sizeLine)) (lcE (fun b s => nox ((ft (put s b)).bind fun r => if r.1 then (fe r.2).bind fun a => .ok (some a.1, w a.2) else .ok (none, w r.2))) r.1 r.2)).bind fun r => .ok (.nx (put2 r.2 r.1))) := by
  obtain ⟨wi, pi, qi⟩ := hi
  obtain ⟨g, pg, qg⟩ := hg
  obtain ⟨tt, ptt, qt⟩ := ht
  obtain ⟨te, pe, qe⟩ := he
  refine ⟨tAsg (tLc wi g tt te (own.map (·.2))) (gName i), fun X hX => ?_, fun F R σ H s D hs hp => ?_⟩
  · exact ps_setLc hX.calm (by rw [hX.N]; exact hX.nd) (by rw [hX.N]; exact hN) (by rw [hX.sc]; exact hy) (sw_true (by rw [hX.sc]; exact hk) (by rw [hX.sc]; exact hy) hl hn) (pi X hX) (blkOk_by (by rw [hX.N, hX.sc]; exact hb)) (fun s H C cl fp => pg _ (hX.blk scope s H C cl fp)) (fun s H C cl fp => ptt _ (hX.blk scope s H C cl fp)) (fun s H C cl fp => pe _ (hX.blk scope s H C cl fp)) (hf X.env)
  show tLc wi g tt te (own.map (·.2)) σ H fun x H1 => gName i x σ H1 D.nx
  refine elc_spec hw hany hix qi qg qt qe F [] R σ H s _ hs ((Rs.post_bind hp).mono (fun r k p vs H' hz ⟨Og, h'⟩ => ?_) fun _ z => z)
  exact k _ _ (h'.storeO hp2 hz (fun G z => z.2) fun G z => z.1)
/-! ### methods of a list that a slot owns -/
theorem EX.append {w : Option Addr} {f : S → Rs (α × S')} {g : S' → List α} {put : S' → List α → S''} {xp apos : Pos} (hw : Wr Γ' i w (cL τ) g (cL τ) Γ'' put) (hN : A.N[i]? = some x) (hv : Vis A.sc x) (he : EX A ca e Γ Γ' τ f) (h0 : ∃ (g0 : S → List α) (p0 : S → List α → S), Wr Γ i w (cL τ) g0 (cL τ) Γ p0)
    (hs : star e = false := by rfl) (hline : (apos.endLine == pos.line) = true := by rfl) (hd : (x == ("__debug__" : Str)) = false := by decide) (hcd : (x == ("__classdict__" : Str)) = false := by decide) :
    EX A ca (.Call (.Attribute (.Name x xp) "append" apos) [e] [] pos) Γ Γ'' tN (fun s => (f s).bind fun r => Rs.guard (decide ((g r.2).length < sizeLine)) (.ok ((), put r.2 (g r.2 ++ [r.1])))) := by
  obtain ⟨t, ht, q⟩ := he
  obtain ⟨g0, p0, h0⟩ := h0
  refine ⟨tBM A.K "list" rAppend (tVar i) (tCons t tNil), fun X hX => by
    rw [← hX.K]
    exact pe_bm PySem.F.plainAttrs_list PySem.F.slot_list_append PySem.F.type_list_append mt_append (pe_var (by rw [hX.N]; exact hN) (by rw [hX.sc]; exact hv) hd hcd) (pa_cons (ht X hX) pa_nil (star_each hs)) rfl (by rw [star_each hs]; rfl) hline (star_each hs) (star_any rfl), fun F L R σ H s Q hs0 hp => ?_⟩
  obtain ⟨Og0, hs1⟩ := hs0
  obtain ⟨l, vs, _, e1, _, _, _, e3, z3, r3, _⟩ := hs1.write h0
  refine ⟨.ref l, e1, .inl ⟨rfl, vs, .inl (.inl e3)⟩, q F L R σ H s _ ⟨Og0, hs1⟩ ((Rs.post_bind hp).mono (fun r k v H' ⟨Og, h'⟩ => ?_) fun _ z => z)⟩
  obtain ⟨hc, k⟩ := Rs.post_guard k
  obtain ⟨l2, vs2, _, e12, e22, _, _, e32, z32, r32, hwr⟩ := h'.write hw
  have : l2 = l := by rw [e1] at e12; simpa using e12.symm
  subst this
  have hlt : vs2.length < sizeLine := by rw [Paired.length r32]; exact of_decide_eq_true hc
  refine ⟨l2, vs2, v, rfl, rfl, e32, hlt, k _ _ ⟨Og, ?_⟩⟩
  have h3 := hwr (vs2 ++ [v]) (g r.2 ++ [r.1]) _ (by rw [List.length_append]; exact hlt) (fun p o hp e => by rw [upd_ne hp]; exact e) upd_same (by
    rw [cut_upd e22]
    exact Paired.append r32 (.cons h'.rs.2 .nil))
  exact h3.with ⟨by rw [cut_upd e22]; exact h'.rs.1, rfl⟩
end
end TL
/-! TL8: comprehensions given to a name; lists of fixed places written; defs. -/
namespace TL
open PySem PySem.Spec PyProof.Rows L2
variable {A : Amb} {ca : Nat → Addr}
section
variable {ρ S S' S'' L α β γ U : Type} {Γ : Cxt S} {Γ' : Cxt S'} {Γ'' : Cxt S''} {Γl : Cxt L} {rr : Rr ρ} {τ : Ty α} {τ' : Ty β} {c : Ct α} {e a b d tg iter : Expr} {pos p p2 py : Pos} {x y : Str} {st : Stmt} {sts : List Stmt} {i : Nat}
/-- name = [..] on one line, the name a local, the name's kind by K -/
theorem SX.setPc {S1 S2 S3 : Type} {Γw : Cxt S1} {Γt : Cxt S2} {Γ3 : Cxt S3} {τ1 : Ty β} {τ2 : Ty γ} {elt : Expr} {ifs : List Expr} {scope : Scope} {fi : S → Rs (List β)} {w : S → S1} {put : S1 → β → S2} {ix : List Nat} {ft : S2 → Rs Bool} {fe : S2 → Rs γ} {put2 : S → List γ → S3}
    (own : List (Str × Nat)) (hN : A.N[i]? = some y) (hy : A.sc.names.lookup y = some .local) (hl : (py.line == p.line) = true) (hn : (scope.names.any fun (n, k) => n == y && (k == .local || k == .cell)) = false) (hk : A.sc.kind = .function)
    (hi : IB A ca tg iter Γ τ1 fi) (hb : blkC A.N A.sc scope own = true) (hw : Wp Γ (own.map (·.2)) Γw w) (hg : GX (A.blk scope) tg Γw Γt τ1 put ix) (hix : ∀ i ∈ ix, i ∈ own.map (·.2))
    (ht : PTz (A.blk scope) ca ifs Γt ft) (he : PX (A.blk scope) ca elt Γt τ2 fe) (hp2 : Put Γ i (.own none (cL τ2)) Γ3 put2) (hf : ∀ env x, foldedSetIterable iter env x = pure x := by intro _ _; rfl) :
    SX A ca (.Assign [.Name y py] (.ListComp elt [⟨tg, iter, ifs, 0⟩] scope p) pos) Γ Γ3 Γl rr (fun s => ((fi s).bind fun bs => Rs.guard (decide (bs.length ≤ sizeLine)) (lcM (fun b => nox (lcT (ft (put (w s) b)) (fe (put (w s) b)))) bs)).bind fun r => .ok (.nx (put2 s r))) := by
  obtain ⟨wi, pi, qi⟩ := hi
  obtain ⟨g, pg, qg⟩ := hg
  obtain ⟨tt, ptt, qt⟩ := ht
  obtain ⟨te, pe, qe⟩ := he
  refine ⟨tAsg (tLc wi g tt te (own.map (·.2))) (gName i), fun X hX => ?_, fun F R σ H s D ⟨Og, hs⟩ hp => ?_⟩
  · exact ps_setLc hX.calm (by rw [hX.N]; exact hX.nd) (by rw [hX.N]; exact hN) (by rw [hX.sc]; exact hy) (sw_true (by rw [hX.sc]; exact hk) (by rw [hX.sc]; exact hy) hl hn) (pi X hX) (blkOk_by (by rw [hX.N, hX.sc]; exact hb)) (fun s H C cl fp => pg _ (hX.blk scope s H C cl fp)) (fun s H C cl fp => ptt _ (hX.blk scope s H C cl fp)) (fun s H C cl fp => pe _ (hX.blk scope s H C cl fp)) (hf X.env)
  show tLc wi g tt te (own.map (·.2)) σ H fun x H1 => gName i x σ H1 D.nx
  refine lc_spec hw hix qi qg qt qe _ σ H s _ hs.sx ((Rs.post_bind hp).mono (fun r k p vs H' n sm e z q => ?_) fun _ z => z.exw hs.fr)
  exact k _ _ ((hs.loose n sm e (R' := Mn.lst A.K (cL τ2) vs r) q).storeO hp2 z (fun G z => z.2) fun G z => z.1)
theorem SX.setPcV {S1 S2 S3 : Type} {Γw : Cxt S1} {Γt : Cxt S2} {Γ3 : Cxt S3} {τ1 : Ty β} {τ2 : Ty γ} {elt : Expr} {ifs : List Expr} {scope : Scope} {fi : S → Rs (List β)} {w : S → S1} {put : S1 → β → S2} {ix : List Nat} {ft : S2 → Rs Bool} {fe : S2 → Rs γ} {put2 : S → List γ → S3}
    (own : List (Str × Nat)) (hN : A.N[i]? = some y) (hy : A.sc.names.lookup y = some .local) (hl : (py.line == p.line) = true) (hn : (scope.names.any fun (n, k) => n == y && (k == .local || k == .cell)) = false) (hk : A.sc.kind = .function)
    (hi : IB A ca tg iter Γ τ1 fi) (hb : blkC A.N A.sc scope own = true) (hw : Wp Γ (own.map (·.2)) Γw w) (hg : GX (A.blk scope) tg Γw Γt τ1 put ix) (hix : ∀ i ∈ ix, i ∈ own.map (·.2))
    (ht : PTz (A.blk scope) ca ifs Γt ft) (he : PX (A.blk scope) ca elt Γt τ2 fe) (hp2 : Put Γ i (.val (tL τ2)) Γ3 put2) (hf : ∀ env x, foldedSetIterable iter env x = pure x := by intro _ _; rfl) :
    SX A ca (.Assign [.Name y py] (.ListComp elt [⟨tg, iter, ifs, 0⟩] scope p) pos) Γ Γ3 Γl rr (fun s => ((fi s).bind fun bs => Rs.guard (decide (bs.length ≤ sizeLine)) (lcM (fun b => nox (lcT (ft (put (w s) b)) (fe (put (w s) b)))) bs)).bind fun r => .ok (.nx (put2 s r))) := by
  obtain ⟨wi, pi, qi⟩ := hi
  obtain ⟨g, pg, qg⟩ := hg
  obtain ⟨tt, ptt, qt⟩ := ht
  obtain ⟨te, pe, qe⟩ := he
  refine ⟨tAsg (tLc wi g tt te (own.map (·.2))) (gName i), fun X hX => ?_, fun F R σ H s D ⟨Og, hs⟩ hp => ?_⟩
  · exact ps_setLc hX.calm (by rw [hX.N]; exact hX.nd) (by rw [hX.N]; exact hN) (by rw [hX.sc]; exact hy) (sw_true (by rw [hX.sc]; exact hk) (by rw [hX.sc]; exact hy) hl hn) (pi X hX) (blkOk_by (by rw [hX.N, hX.sc]; exact hb)) (fun s H C cl fp => pg _ (hX.blk scope s H C cl fp)) (fun s H C cl fp => ptt _ (hX.blk scope s H C cl fp)) (fun s H C cl fp => pe _ (hX.blk scope s H C cl fp)) (hf X.env)
  show tLc wi g tt te (own.map (·.2)) σ H fun x H1 => gName i x σ H1 D.nx
  refine lc_spec hw hix qi qg qt qe _ σ H s _ hs.sx ((Rs.post_bind hp).mono (fun r k p vs H' n sm e z q => ?_) fun _ z => z.exw hs.fr)
  have h1 := (hs.loose n sm e (R' := Mn.lst A.K (cL τ2) vs r) q).tight (R' := R.and (Mn.val A.K (tL τ2) (.ref p) r)) fun G h e => ⟨h.1, p, vs, rfl, e, z, h.2⟩
  exact k _ _ (h1.store hp2 (fun G z => ⟨rfl, _, rfl, z.2⟩) fun G z => z.1)
theorem SX.setEcV {S2 S3 : Type} {Γt : Cxt S2} {Γ3 : Cxt S3} {τ1 : Ty β} {τ2 : Ty γ} {elt : Expr} {ifs : List Expr} {scope : Scope} {fi : S → Rs (List β × S')} {w : S2 → S'} {put : S' → β → S2} {ix : List Nat} {ft : S2 → Rs (Bool × S2)} {fe : S2 → Rs (γ × S2)} {put2 : S' → List γ → S3}
    (own : List (Str × Nat)) (hN : A.N[i]? = some y) (hy : A.sc.names.lookup y = some .local) (hl : (py.line == p.line) = true) (hn : (scope.names.any fun (n, k) => n == y && (k == .local || k == .cell)) = false) (hk : A.sc.kind = .function)
    (hi : EI A ca tg iter Γ Γ' τ1 fi) (hb : blkC A.N A.sc scope own = true) (hg : GX (A.blk scope) tg Γ' Γt τ1 put ix) (ht : ETz (A.blk scope) ca ifs Γt ft) (he : EX (A.blk scope) ca elt Γt Γt τ2 fe)
    (hw : Wp Γt (own.map (·.2)) Γ' w) (hany : ∀ i ∈ own.map (·.2), AnyAt Γ' i) (hix : ∀ i ∈ ix, i ∈ own.map (·.2)) (hp2 : Put Γ' i (.val (tL τ2)) Γ3 put2) (hf : ∀ env x, foldedSetIterable iter env x = pure x := by intro _ _; rfl) :
    SX A ca (.Assign [.Name y py] (.ListComp elt [⟨tg, iter, ifs, 0⟩] scope p) pos) Γ Γ3 Γl rr (fun s => ((fi s).bind fun r => Rs.guard (decide (r.1.length ≤ sizeLine)) (lcE (fun b s => nox ((ft (put s b)).bind fun r => if r.1 then (fe r.2).bind fun a => .ok (some a.1, w a.2) else .ok (none, w r.2))) r.1 r.2)).bind fun r => .ok (.nx (put2 r.2 r.1))) := by
  obtain ⟨wi, pi, qi⟩ := hi
  obtain ⟨g, pg, qg⟩ := hg
  obtain ⟨tt, ptt, qt⟩ := ht
  obtain ⟨te, pe, qe⟩ := he
  refine ⟨tAsg (tLc wi g tt te (own.map (·.2))) (gName i), fun X hX => ?_, fun F R σ H s D hs hp => ?_⟩
  · exact ps_setLc hX.calm (by rw [hX.N]; exact hX.nd) (by rw [hX.N]; exact hN) (by rw [hX.sc]; exact hy) (sw_true (by rw [hX.sc]; exact hk) (by rw [hX.sc]; exact hy) hl hn) (pi X hX) (blkOk_by (by rw [hX.N, hX.sc]; exact hb)) (fun s H C cl fp => pg _ (hX.blk scope s H C cl fp)) (fun s H C cl fp => ptt _ (hX.blk scope s H C cl fp)) (fun s H C cl fp => pe _ (hX.blk scope s H C cl fp)) (hf X.env)
  show tLc wi g tt te (own.map (·.2)) σ H fun x H1 => gName i x σ H1 D.nx
  refine elc_spec hw hany hix qi qg qt qe F [] R σ H s _ hs ((Rs.post_bind hp).mono (fun r k p vs H' hz ⟨Og, h'⟩ => ?_) fun _ z => z)
  have h1 := h'.tight (R' := R.and (Mn.val A.K (tL τ2) (.ref p) r.1)) fun G h e => ⟨h.1, p, vs, rfl, e, hz, h.2⟩
  exact k _ _ (h1.store hp2 (fun G z => ⟨rfl, _, rfl, z.2⟩) fun G z => z.1)
/-! ### a list of fixed places is written -/
structure Tst {α β : Type} (ts : Tys α) (i : Nat) (τ : Ty β) (u : α → β → α) : Prop where
  to : ∀ {K : PySem.W.Frag} {H : Hp} {vs : List V} {a : α} {v : V} {b : β}, ts.rep K H vs a → τ.rep K H v b → ts.rep K H (vs.set i v) (u a b)
theorem Tst.o : Tst (.one τ) 0 τ (fun _ b => b) := ⟨fun h r => by obtain ⟨w, rfl, _⟩ := h; exact ⟨_, rfl, r⟩⟩
theorem Tst.z {ts : Tys β} : Tst (.cons τ ts) 0 τ (fun a b => (b, a.2)) := ⟨fun h r => by obtain ⟨w, q, rfl, h1, h2⟩ := h; exact ⟨_, q, rfl, r, h2⟩⟩
theorem Tst.s {ts : Tys β} {i : Nat} {τ' : Ty γ} {u : β → γ → β} (h : Tst ts i τ' u) : Tst (.cons τ ts) (i + 1) τ' (fun a b => (a.1, u a.2 b)) := ⟨fun h' r => by obtain ⟨w, q, rfl, h1, h2⟩ := h'; exact ⟨_, _, rfl, h1, h.to h2 r⟩⟩
theorem SX.setR {w : Option Addr} {ts : Tys γ} {f : S → Rs (α × S')} {g : S' → γ} {put : S' → γ → S''} {u : γ → α → γ} {n : Nat} {j : Int} {xp xp2 : Pos} (he : EX A ca e Γ Γ' τ f) (hw : Wr Γ' i w (cR ts) g (cR ts) Γ'' put) (hN : A.N[i]? = some x) (hv : Vis A.sc x) (hu : Tst ts n τ u) (hj : ixN ts.len j = some n) (hix : PX A ca b Γ' tI (fun _ => .ok j))
    (hs : ∀ env, swapsWithSole [.Subscript (.Name x xp) b xp2] e pos.line env = pure false := by intro _; rfl) (hw2 : ∀ X, A.In X → swappedStores [.Subscript (.Name x xp) b xp2] e X.env = pure none := by intro _ _; rfl)
    (hd : (x == ("__debug__" : Str)) = false := by decide) (hcd : (x == ("__classdict__" : Str)) = false := by decide)
    (hsub : ∀ env v, assign (.Subscript (.Name x xp) b xp2) env v = (do let ov ← holding [v] (eval (.Name x xp) env); let iv ← holding [v, ov] (eval b env); standAt xp2; holding [v, ov, iv] (setItem ov iv v); release [v, ov, iv] []) := by intro _ _; rfl) :
    SX A ca (.Assign [.Subscript (.Name x xp) b xp2] e pos) Γ Γ'' Γl rr (fun s => (f s).bind fun r => .ok (.nx (put r.2 (u (g r.2) r.1)))) := by
  obtain ⟨t, ht, q⟩ := he
  obtain ⟨ti, hti, qi⟩ := hix
  refine ⟨_, fun X hX => ps_asg (ht X hX) (pg_sub (pe_var (i := i) (by rw [hX.N]; exact hN) (by rw [hX.sc]; exact hv) hd hcd) (hti X hX) set_list (hsub X.env)) (hs X.env) (hw2 X hX) (by rw [assign_each rfl]; rfl), fun F R σ H s D h0 hp => q F [] R σ H s _ h0 ((Rs.post_bind hp).mono (fun r k v H' ⟨Og, h'⟩ => ?_) fun _ z => z)⟩
  obtain ⟨l, vs, e0, e1, _, _, _, e3, z3, r3, _⟩ := h'.write hw
  refine ⟨.ref l, e1, qi _ σ H' r.2 _ h'.sx (fun uu H2 s2 ru => ?_)⟩
  have h2 := h'.grow s2
  obtain ⟨l2, vs2, _, e12, e22, _, _, e32, z32, r32, hwr⟩ := h2.write hw
  have : l2 = l := by rw [e1] at e12; simpa using e12.symm
  subst this
  refine ⟨l2, vs2, j, n, rfl, ru, e32, by rw [ts.length r32]; exact hj, k _ _ ⟨Og, ?_⟩⟩
  have h3 := hwr (vs2.set n v) (u (g r.2) r.1) _ (by rw [List.length_set]; exact z32) (fun p o hp e => by rw [upd_ne hp]; exact e) upd_same (by
    rw [cut_upd e22]
    exact hu.to r32 (τ.mono (cut_grow s2) h'.rs.2))
  exact h3.with (R.mono (by rw [cut_upd e22]; exact cut_grow s2) h'.rs.1)
end
/-! ### defs -/
/-- slots without a value -/
structure Anys (m : Nat) {S : Type} (Γ : Cxt S) (z : S) : Prop where
  rep : ∀ {K : PySem.W.Frag} {G H : Hp}, Γ.rep K G H (List.replicate m none) [] z
theorem Anys.nil : Anys 0 .nil () := ⟨⟨rfl, rfl⟩⟩
theorem Anys.s {m : Nat} {S : Type} {Γ : Cxt S} {z : S} (h : Anys m Γ z) : Anys (m + 1) (.cons .any Γ) ((), z) := ⟨⟨none, _, [], [], rfl, rfl, rfl, h.rep⟩⟩
/-- the parameters, then slots without a value -/
structure Ini {U S : Type} (ts : Tys U) (m : Nat) (Γ : Cxt S) (ini : U → S) : Prop where
  rep : ∀ {K : PySem.W.Frag} {G H : Hp} {vs : List V} {u : U}, ts.rep K G vs u → Γ.rep K G H (vs.map some ++ List.replicate m none) [] (ini u)
theorem Ini.nil {m : Nat} {S : Type} {Γ : Cxt S} {z : S} (h : Anys m Γ z) : Ini .nil m Γ (fun _ => z) := ⟨fun {K G H vs u} r => by
  have e : vs = [] := r
  subst e; exact h.rep⟩
theorem Ini.one {m : Nat} {S α : Type} {τ : Ty α} {Γ : Cxt S} {z : S} (h : Anys m Γ z) : Ini (.one τ) m (.cons (.val τ) Γ) (fun a => (a, z)) := ⟨fun {K G H vs u} r => by
  obtain ⟨v, rfl, r⟩ := r
  exact ⟨some v, _, [], [], rfl, rfl, ⟨rfl, v, rfl, r⟩, h.rep⟩⟩
theorem Ini.cons {m : Nat} {S α U : Type} {τ : Ty α} {ts : Tys U} {Γ : Cxt S} {ini : U → S} (h : Ini ts m Γ ini) : Ini (.cons τ ts) m (.cons (.val τ) Γ) (fun u => (u.1, ini u.2)) := ⟨fun {K G H vs u} r => by
  obtain ⟨v, w, rfl, r1, r2⟩ := r
  exact ⟨some v, _, [], [], rfl, rfl, ⟨rfl, v, rfl, r1⟩, h.rep r2⟩⟩
/-- what a body hands back; at its end it hands back None -/
def endM {ρ S : Type} (dn : S → Rs ρ) : Fl ρ S Unit → Rs ρ
  | .rt r => .ok r
  | .nx s => dn s
  | _ => .bad
section
variable {P : Program} {w : World} {K : PySem.W.Frag} {mg : Str → Option Value} {base : Heap}
/-- the context of a def's body -/
abbrev ambOf (P : Program) (w : World) (K : PySem.W.Frag) (mg : Str → Option Value) (base : Heap) (N : List Str) (st : Stmt) (k : Nat) (E : XK) : Amb := ⟨P, w, K, mg, base, N, defScope st, E, k, fun _ => true⟩
theorem amb_in {x qual : Str} {st : Stmt} {f : Addr} {fd : FuncData} {N ps : List Str} {k : Nat} (S : FnScope N ps (defScope st)) {cdv : Value} {A : Around} {outer : List Env} {s : Shared} {H : Hp} {E : XK} (hr : Room k (A.deeper (envOfC qual (defScope st) s.heap.objs.size f cdv))) :
    (ambOf P w K mg base N st k E).In (cxOf (L2.CX P w) P w K mg base N qual (defScope st) f cdv A outer s H E) := by
  have tk : Takes (cxOf (L2.CX P w) P w K mg base N qual (defScope st) f cdv A outer s H E) (fun c d _ H => E c d H) := takes_of rfl rfl rfl rfl
  exact ⟨rfl, rfl, rfl, rfl, rfl, rfl, rfl, rfl, S.nd, rfl, hr, passes_call tk (fun _ _ _ _ h => h), passes_of rfl, tk, fun _ => ⟨rfl, rfl⟩⟩
/-- a def from its body -/
theorem fn_mk {x qual : Str} {st : Stmt} {f : Addr} {fd : FuncData} {N ps : List Str} {k m : Nat} {U S S' β : Type} {ts : Tys U} {τ : Ty β} {Γ : Cxt S} {Γ' : Cxt S'} {ini : U → S} {body : S → Rs (Fl β S' Unit)} {dn : S' → Rs β}
    (F : Fun K x qual st f fd) (Sc : FnScope N ps (defScope st)) (hI : Ini ts m Γ ini) (hl : ts.len = ps.length) (hm : N.length = ts.len + m)
    (hb : ∀ E : XK, SXs (ambOf P w K mg base N st k E) ca (defBody st) Γ Γ' .nil (rVal K τ) body) (hd : ∀ s, (dn s).Post (fun b => ∀ H, τ.rep K H .non b) (fun _ => False) ∨ dn s = .bad := by intro _; exact .inr rfl) :
    FnOk P w K mg base (L2.CX P w) (k + 1) f fd ps (spOf K ca ts τ (fun u => (body (ini u)).bind (endM dn))) := by
  refine F.okX Sc (fun vs H Q E h => ?_) (fun cdv A outer s H vs Q E hr h => ?_)
  · obtain ⟨O, u, _, r, _⟩ := h
    rw [ts.length r, hl]
  · obtain ⟨O, u, hO, r, hp⟩ := h
    obtain ⟨t, ht, q⟩ := hb E
    refine ⟨t, ht _ (amb_in (x := x) (fd := fd) Sc hr), q ⟨H, O, []⟩ Mn.top _ H (ini u) _ ⟨[], ?_⟩ ((Rs.post_bind hp).mono (fun fl k => ?_) fun c z d H' hf => z d H' fun b o e => hf b o e (by simp))⟩
    · have hc : hid ⟨H, O, []⟩ [] [] = O := by simp [hid]
      refine ⟨?_, trivial, by simp, fun p hp => by simp at hp, fun x hx => by simp at hx, fun b o e _ => e, fun p hp => ⟨hO p hp, by simp⟩, fun p hp => by simp at hp⟩
      have hs : L2.start N vs = vs.map some ++ List.replicate m none := by
        unfold L2.start
        rw [ts.length r, hm, Nat.add_sub_cancel_left]
      rw [hs]
      show Γ.rep K (cut H (hid ⟨H, O, []⟩ [] [])) H _ [] _
      rw [hc]
      exact hI.rep r
    · cases fl with
      | rt r =>
        intro v H' hv
        exact k v H' (fun b o e => hv.1 b o e (by simp)) hv.2
      | nx s' =>
        intro σ' H' h'
        rcases hd s' with h1 | h1
        · have k : (dn s').Post _ _ := k
          cases e : dn s' with
          | ok b =>
            rw [e] at h1 k
            exact k .non H' (fun b o e => h'.fr b o e (by simp)) (h1 _)
          | exc c => rw [e] at h1; exact h1.elim
          | bad => rw [e] at h1; exact h1.elim
        · have k : (dn s').Post _ _ := k
          rw [h1] at k; exact k.elim
      | bk s' => exact k.elim
      | ct s' => exact k.elim
/-- a def that may write its first argument -/
structure IniO {γ U S : Type} (q : Addr) (c : Ct γ) (ts : Tys U) (m : Nat) (Γ : Cxt S) (ini : γ × U → S) : Prop where
  rep : ∀ {K : PySem.W.Frag} {G H : Hp} {xs vs : List V} {a : γ} {u : U}, H q = some (.lst xs) → xs.length ≤ sizeLine → c.rep K G xs a → ts.rep K G vs u → Γ.rep K G H (some (.ref q) :: (vs.map some ++ List.replicate m none)) [q] (ini (a, u))
theorem IniO.mk' {γ U S : Type} {q : Addr} {c : Ct γ} {ts : Tys U} {m : Nat} {Γ : Cxt S} {ini : U → S} (h : Ini ts m Γ ini) : IniO q c ts m (.cons (.own (some q) c) Γ) (fun u => (u.1, ini u.2)) := ⟨fun {K G H xs vs a u} e z r1 r2 => ⟨_, _, [q], [], rfl, rfl, ⟨q, xs, (fun z h => Option.some.inj h), rfl, rfl, e, z, r1⟩, h.rep r2⟩⟩
theorem fnIO_mk {x qual : Str} {st : Stmt} {f : Addr} {fd : FuncData} {N ps : List Str} {k m : Nat} {γ U S S' β : Type} {c : Ct γ} {ts : Tys U} {τ : Ty β} {Γ : Addr → Cxt S} {Γ' : Addr → Cxt S'} {ini : γ × U → S} {body : S → Rs (Fl (β × γ) S' Unit)}
    (F : Fun K x qual st f fd) (Sc : FnScope N ps (defScope st)) (hI : ∀ q, IniO q c ts m (Γ q) ini) (hl : ts.len + 1 = ps.length) (hm : N.length = ts.len + 1 + m)
    (hb : ∀ (E : XK) (q : Addr), SXs (ambOf P w K mg base N st k E) ca (defBody st) (Γ q) (Γ' q) .nil (rIO K q c τ) body) :
    FnOk P w K mg base (L2.CX P w) (k + 1) f fd ps (spIO K ca c ts τ (fun u => (body (ini u)).bind (endM fun _ => .bad))) := by
  refine F.okX Sc (fun vs H Q E h => ?_) (fun cdv A outer s H vs Q E hr h => ?_)
  · obtain ⟨B, q, xs, us, a, u, rfl, _, _, _, _, _, r, _⟩ := h
    rw [List.length_cons, ts.length r, hl]
  · obtain ⟨B, q, xs, us, a, u, rfl, eq, zq, nq, hB, rc, r, hp⟩ := h
    obtain ⟨t, ht, qq⟩ := hb E q
    have mem : ∀ H : Hp, cut H (q :: B) = cut H (B ++ [q]) := fun H => by
      funext b
      by_cases hb : b ∈ B ++ [q]
      · rw [cut_in hb, cut_in (by simp at hb ⊢; rcases hb with h | h; exact .inr h; exact .inl h)]
      · rw [cut_out hb, cut_out (by simp at hb ⊢; exact ⟨hb.2, hb.1⟩)]
    refine ⟨t, ht _ (amb_in (x := x) (fd := fd) Sc hr), qq ⟨H, B, [q]⟩ Mn.top _ H (ini (a, u)) _ ⟨[q], ?_⟩ ((Rs.post_bind hp).mono (fun fl k => ?_) fun c z d H' hf => z d H' fun p o hpq e => hf p o e (by simp [hpq]))⟩
    · have hc : hid ⟨H, B, [q]⟩ [] [q] = B ++ [q] := by simp [hid]
      refine ⟨?_, trivial, by simp, fun p hp => ?_, fun x hx => by simp at hx, fun b o e _ => e, fun p hp => ⟨hB p hp, ?_⟩, fun p hp => ?_⟩
      · have hs : L2.start N (.ref q :: us) = some (.ref q) :: (us.map some ++ List.replicate m none) := by
          unfold L2.start
          rw [List.length_cons, ts.length r, hm, Nat.add_sub_cancel_left]
          rfl
        rw [hs]
        show (Γ q).rep K (cut H (hid ⟨H, B, [q]⟩ [] [q])) H _ [q] _
        rw [hc, ← mem]
        exact (hI q).rep eq zq rc r
      · have : p = q := by simpa using hp
        subst this
        exact ⟨.inr (by simp), nq, Hidn.lst eq⟩
      · simp only [List.mem_singleton]; exact fun e => nq (by rw [← e]; exact hp)
      · have : p = q := by simpa using hp
        subst this; exact Hidn.lst eq
    · cases fl with
      | rt r =>
        intro v H' hv
        obtain ⟨h1, ys, e1, z1, c1, t1⟩ := hv rfl
        exact k v H' ys (fun p o hpq e => h1 p o e (by simp [hpq])) e1 z1 c1 t1
      | nx s' => exact k.elim
      | bk s' => exact k.elim
      | ct s' => exact k.elim
end
end TL
/-! TL9: widening, data: ==, in; isinstance; sorted pairs; more of lists. -/
namespace TL
open PySem PySem.Spec PyProof.Rows L2
variable {A : Amb} {ca : Nat → Addr}
section
variable {ρ S S' S'' L α β γ U : Type} {Γ : Cxt S} {Γ' : Cxt S'} {Γ'' : Cxt S''} {Γl : Cxt L} {rr : Rr ρ} {τ : Ty α} {τ' : Ty β} {c : Ct α} {e a b d tg iter : Expr} {pos p p2 p3 p4 py : Pos} {x y : Str} {st : Stmt} {sts : List Stmt} {i : Nat}
/-! ### widening -/
theorem Tc.id : Tc τ τ (fun a => a) := ⟨fun h => h⟩
theorem Tc.some : Tc τ (tO τ) (fun a => Option.some a) := ⟨fun h => h⟩
theorem Tc.none : Tc tN (tO τ) (fun _ => Option.none) := ⟨fun h => h⟩
theorem Tc.opt {g : α → β} (h : Tc τ τ' g) : Tc (tO τ) (tO τ') (fun o => o.map g) := ⟨fun {K H v o} r => by
  cases o with
  | none => exact r
  | some a => exact h.to (K := K) (H := H) r⟩
theorem Paired.co {K : PySem.W.Frag} {H : Hp} {g : α → β} (h : Tc τ τ' g) {vs : List V} {as : List α} (r : Paired (τ.rep K H) vs as) : Paired (τ'.rep K H) vs (as.map g) := by
  induction r with
  | nil => exact .nil
  | cons r _ ih => exact .cons (h.to r) ih
theorem Tc.lst {g : α → β} (h : Tc τ τ' g) : Tc (tL τ) (tL τ') (fun l => l.map g) := ⟨fun {K H v o} r => by
  obtain ⟨p, vs, e, q, z, r⟩ := r
  exact ⟨p, vs, e, q, z, Paired.co h r⟩⟩
theorem Tc.tpl {g : α → β} (h : Tc τ τ' g) : Tc (tT τ) (tT τ') (fun l => l.map g) := ⟨fun {K H v o} r => by
  obtain ⟨p, vs, e, q, z, r⟩ := r
  exact ⟨p, vs, e, q, z, Paired.co h r⟩⟩
structure Tcs (ts : Tys α) (us : Tys β) (g : α → β) : Prop where
  to : ∀ {K : PySem.W.Frag} {H : Hp} {v : List V} {a : α}, ts.rep K H v a → us.rep K H v (g a)
theorem Tcs.one {g : α → β} (h : Tc τ τ' g) : Tcs (.one τ) (.one τ') g := ⟨fun r => by obtain ⟨v, e, r⟩ := r; exact ⟨v, e, h.to r⟩⟩
theorem Tcs.cons {δ ε : Type} {ts : Tys δ} {us : Tys ε} {g : α → β} {f : δ → ε} (h : Tc τ τ' g) (h' : Tcs ts us f) : Tcs (.cons τ ts) (.cons τ' us) (fun a => (g a.1, f a.2)) := ⟨fun r => by obtain ⟨v, w, e, r1, r2⟩ := r; exact ⟨v, w, e, h.to r1, h'.to r2⟩⟩
theorem Tc.tup {ts : Tys α} {us : Tys β} {g : α → β} (h : Tcs ts us g) : Tc (tTup ts) (tTup us) g := ⟨fun {K H v o} r => by
  obtain ⟨p, vs, e, q, r⟩ := r
  exact ⟨p, vs, e, q, h.to r⟩⟩
theorem Tc.lup {ts : Tys α} {us : Tys β} {g : α → β} (h : Tcs ts us g) : Tc (tLup ts) (tLup us) g := ⟨fun {K H v o} r => by
  obtain ⟨p, vs, e, q, z, r⟩ := r
  exact ⟨p, vs, e, q, z, h.to r⟩⟩
/-- a list of fixed places as a value, and back -/
theorem Tc.cR {ts : Tys α} : Tc (Ct.ty (cR ts)) (tLup ts) (fun a => a) := ⟨fun h => h⟩
/-- it is not None here -/
theorem PX.unw {f : S → Rs (Option α)} (h : PX A ca e Γ (tO τ) f) : PX A ca e Γ τ (fun s => (f s).bind Rs.ofOpt) := by
  obtain ⟨t, ht, q⟩ := h
  refine ⟨t, ht, fun O σ H s Q hs hp => q O σ H s Q hs ((Rs.post_bind hp).mono (fun o k v H' sm r => ?_) fun _ z => z)⟩
  obtain ⟨y, rfl, k⟩ := Rs.post_ofOpt k
  exact k v H' sm r
theorem EX.unw {f : S → Rs (Option α × S')} (h : EX A ca e Γ Γ' (tO τ) f) : EX A ca e Γ Γ' τ (fun s => (f s).bind fun r => (Rs.ofOpt r.1).bind fun a => .ok (a, r.2)) := by
  obtain ⟨t, ht, q⟩ := h
  refine ⟨t, ht, fun F L R σ H s Q hs hp => q F L R σ H s _ hs ((Rs.post_bind hp).mono (fun r k v H' h' => ?_) fun _ z => z)⟩
  obtain ⟨o, s'⟩ := r
  obtain ⟨y, ey, k⟩ := Rs.post_ofOpt (Rs.post_bind k)
  cases ey
  exact k v H' h'
/-! ### data -/
structure Enc {α : Type} (τ : Ty α) (enc : α → PyData) (n : Nat) : Prop where
  to : ∀ {K : PySem.W.Frag} {H : Hp} {v : V} {a : α}, τ.rep K H v a → Dp K H v (enc a)
  lay : ∀ a, (enc a).canLay0 = true
  dep : ∀ a, (enc a).depth ≤ n
  inj : ∀ a b, PyData.eqv (enc a) (enc b) = true ↔ a = b
/-- .. and none of it is None -/
structure EncN {α : Type} (τ : Ty α) (enc : α → PyData) (n : Nat) : Prop extends Enc τ enc n where
  nn : ∀ a, PyData.eqv .none (enc a) = false ∧ PyData.eqv (enc a) .none = false
theorem EncN.int : EncN tI PyData.int 0 := ⟨⟨fun h => by rw [show _ = V.int _ from h]; exact .int _, fun _ => by simp [PyData.canLay0], fun _ => by simp [PyData.depth], fun a b => by simp [PyData.eqv]⟩, fun a => ⟨rfl, rfl⟩⟩
theorem EncN.bool : EncN tB PyData.bool 0 := ⟨⟨fun h => by rw [show _ = V.bl _ from h]; exact .bl _, fun _ => by simp [PyData.canLay0], fun _ => by simp [PyData.depth], fun a b => by simp [PyData.eqv]⟩, fun a => ⟨rfl, rfl⟩⟩
def encO (enc : α → PyData) : Option α → PyData
  | none => .none
  | some a => enc a
theorem Enc.opt {enc : α → PyData} {n : Nat} (h : EncN τ enc n) : Enc (tO τ) (encO enc) n := by
  refine ⟨fun {K H v o} r => ?_, fun o => ?_, fun o => ?_, fun a b => ?_⟩
  · cases o with
    | none => rw [show v = .non from r]; exact .non
    | some a => exact h.to r
  · cases o with
    | none => rfl
    | some a => exact h.lay a
  · cases o with
    | none => exact Nat.zero_le _
    | some a => exact h.dep a
  · cases a with
    | none =>
      cases b with
      | none => simp [encO, PyData.eqv]
      | some b => simp [encO, (h.nn b).1]
    | some a =>
      cases b with
      | none => simp [encO, (h.nn a).2]
      | some b => simp [encO, h.inj a b]
theorem Enc.dps {enc : α → PyData} {n : Nat} (h : Enc τ enc n) {K : PySem.W.Frag} {H : Hp} {vs : List V} {as : List α} (r : Paired (τ.rep K H) vs as) : DpAll K H vs (as.map enc) := by
  induction r with
  | nil => exact .nil
  | cons r _ ih => exact .cons (h.to r) ih
theorem Enc.lays {enc : α → PyData} {n : Nat} (h : Enc τ enc n) : ∀ as : List α, PyData.canLayAll0 (as.map enc) = true
  | [] => rfl
  | a :: r => by rw [List.map_cons]; simp [PyData.canLayAll0, h.lay a, Enc.lays h r]
theorem Enc.deps {enc : α → PyData} {n : Nat} (h : Enc τ enc n) : ∀ as : List α, PyData.depthAll (as.map enc) ≤ n
  | [] => Nat.zero_le _
  | a :: r => by
    rw [List.map_cons]
    show max _ _ ≤ n
    exact Nat.max_le.mpr ⟨h.dep a, Enc.deps h r⟩
theorem Enc.injs {enc : α → PyData} {n : Nat} (h : Enc τ enc n) : ∀ as bs : List α, PyData.eqvAll (as.map enc) (bs.map enc) = true ↔ as = bs
  | [], [] => by simp [PyData.eqvAll]
  | a :: r, [] => by simp [PyData.eqvAll]
  | [], b :: r => by simp [PyData.eqvAll]
  | a :: r, b :: q => by simp [PyData.eqvAll, h.inj a b, Enc.injs h r q]
theorem EncN.lst {enc : α → PyData} {n : Nat} (h : Enc τ enc n) : EncN (tL τ) (fun as => .list (as.map enc)) (n + 1) :=
  ⟨⟨fun r => by obtain ⟨p, vs, rfl, e, z, r⟩ := r; exact .lst (.inl (.inl e)) (h.dps r), fun as => by simp [PyData.canLay0, h.lays as], fun as => by show _ + 1 ≤ _; exact Nat.succ_le_succ (h.deps as), fun a b => by simp [PyData.eqv, h.injs a b]⟩, fun a => ⟨rfl, rfl⟩⟩
theorem EncN.tpl {enc : α → PyData} {n : Nat} (h : Enc τ enc n) : EncN (tT τ) (fun as => .tuple (as.map enc)) (n + 1) :=
  ⟨⟨fun r => by obtain ⟨p, vs, rfl, e, z, r⟩ := r; exact .tup (.inl (.inl e)) (h.dps r), fun as => by simp [PyData.canLay0, h.lays as], fun as => by show _ + 1 ≤ _; exact Nat.succ_le_succ (h.deps as), fun a b => by simp [PyData.eqv, h.injs a b]⟩, fun a => ⟨rfl, rfl⟩⟩
structure EncS {α : Type} (ts : Tys α) (enc : α → List PyData) (n : Nat) : Prop where
  to : ∀ {K : PySem.W.Frag} {H : Hp} {vs : List V} {a : α}, ts.rep K H vs a → DpAll K H vs (enc a)
  lay : ∀ a, PyData.canLayAll0 (enc a) = true
  dep : ∀ a, PyData.depthAll (enc a) ≤ n
  inj : ∀ a b, PyData.eqvAll (enc a) (enc b) = true ↔ a = b
theorem EncS.one {enc : α → PyData} {n : Nat} (h : Enc τ enc n) : EncS (.one τ) (fun a => [enc a]) n :=
  ⟨fun r => by obtain ⟨v, rfl, r⟩ := r; exact .cons (h.to r) .nil, fun a => by simp [PyData.canLayAll0, h.lay a], fun a => by show max _ _ ≤ n; exact Nat.max_le.mpr ⟨h.dep a, Nat.zero_le _⟩, fun a b => by simp [PyData.eqvAll, h.inj a b]⟩
theorem EncS.cons {ts : Tys β} {enc : α → PyData} {encs : β → List PyData} {n m : Nat} (h : Enc τ enc n) (h' : EncS ts encs m) : EncS (.cons τ ts) (fun a => enc a.1 :: encs a.2) (max n m) :=
  ⟨fun r => by obtain ⟨v, w, rfl, r1, r2⟩ := r; exact .cons (h.to r1) (h'.to r2), fun a => by simp [PyData.canLayAll0, h.lay a.1, h'.lay a.2], fun a => by show max _ _ ≤ _; exact Nat.max_le.mpr ⟨Nat.le_trans (h.dep a.1) (Nat.le_max_left _ _), Nat.le_trans (h'.dep a.2) (Nat.le_max_right _ _)⟩, fun a b => by
    simp only [PyData.eqvAll, Bool.and_eq_true, h.inj, h'.inj]
    exact ⟨fun ⟨h1, h2⟩ => Prod.ext h1 h2, fun h => by rw [h]; exact ⟨rfl, rfl⟩⟩⟩
theorem EncN.tup {ts : Tys α} {encs : α → List PyData} {n : Nat} (h : EncS ts encs n) : EncN (tTup ts) (fun a => .tuple (encs a)) (n + 1) :=
  ⟨⟨fun r => by obtain ⟨p, vs, rfl, e, r⟩ := r; exact .tup (.inl (.inl e)) (h.to r), fun a => by simp [PyData.canLay0, h.lay a], fun a => by show _ + 1 ≤ _; exact Nat.succ_le_succ (h.dep a), fun a b => by simp [PyData.eqv, h.inj a b]⟩, fun a => ⟨rfl, rfl⟩⟩
theorem EncN.lup {ts : Tys α} {encs : α → List PyData} {n : Nat} (h : EncS ts encs n) : EncN (tLup ts) (fun a => .list (encs a)) (n + 1) :=
  ⟨⟨fun r => by obtain ⟨p, vs, rfl, e, z, r⟩ := r; exact .lst (.inl (.inl e)) (h.to r), fun a => by simp [PyData.canLay0, h.lay a], fun a => by show _ + 1 ≤ _; exact Nat.succ_le_succ (h.dep a), fun a b => by simp [PyData.eqv, h.inj a b]⟩, fun a => ⟨rfl, rfl⟩⟩
theorem Enc.shaped {enc : α → PyData} {n : Nat} (h : Enc τ enc n) (hn : n ≤ 64) (a : α) : SeqAt.shaped (enc a) = true := by
  unfold SeqAt.shaped
  rw [h.lay a, Bool.true_and]
  exact decide_eq_true (Nat.le_trans (h.dep a) hn)
theorem Enc.dec [DecidableEq α] {enc : α → PyData} {n : Nat} (h : Enc τ enc n) (a b : α) : PyData.eqv (enc a) (enc b) = decide (a = b) := by
  by_cases q : a = b
  · rw [decide_eq_true q]; exact (h.inj a b).mpr q
  · rw [decide_eq_false q]
    cases e : PyData.eqv (enc a) (enc b) with
    | false => rfl
    | true => exact absurd ((h.inj a b).mp e) q
theorem Dp.mono' {K : PySem.W.Frag} {H H' : Hp} (s : Same H H') : ∀ {v : V} {d : PyData}, Dp K H v d → Dp K H' v d
  | _, _, .non => .non
  | _, _, .bl b => .bl b
  | _, _, .int i => .int i
  | _, _, .str x => .str x
  | _, _, .lst h r => .lst (s.seq h) (Dps r)
  | _, _, .tup h r => .tup (Same.sqT s h) (Dps r)
where Dps : ∀ {vs : List V} {ds : List PyData}, DpAll K H vs ds → DpAll K H' vs ds
  | _, _, .nil => .nil
  | _, _, .cons h r => .cons (Dp.mono' s h) (Dps r)
variable [DecidableEq α]
theorem PX.eqD {enc : α → PyData} {n : Nat} {f g : S → Rs α} (h : Enc τ enc n) (ha : PX A ca a Γ τ f) (hb : PX A ca b Γ τ g) (hn : n ≤ 64 := by decide) : PX A ca (.Compare a [.Eq] [b] pos) Γ tB (fun s => (f s).bind fun x => (g s).bind fun y => .ok (decide (x = y))) := by
  obtain ⟨ta, pa, qa⟩ := ha
  obtain ⟨tb, pb, qb⟩ := hb
  refine ⟨tOp (rEqD A.K) ta tb, fun X hX => by rw [← hX.K]; exact pe_cmpR (op_eqD hX.room.units) (pa X hX) (pb X hX) (nomark _), fun O σ H s Q hs hp => PX.two qa qb hs hp fun x y v u H2 sm r1 r2 k => ?_⟩
  refine ⟨enc x, enc y, Dp.mono' cut_le (h.to r1), Dp.mono' cut_le (h.to r2), h.shaped hn x, h.shaped hn y, ?_⟩
  rw [h.dec]; exact k _ H2 sm rfl
theorem PX.neD {enc : α → PyData} {n : Nat} {f g : S → Rs α} (h : Enc τ enc n) (ha : PX A ca a Γ τ f) (hb : PX A ca b Γ τ g) (hn : n ≤ 64 := by decide) : PX A ca (.Compare a [.NotEq] [b] pos) Γ tB (fun s => (f s).bind fun x => (g s).bind fun y => .ok (!decide (x = y))) := by
  obtain ⟨ta, pa, qa⟩ := ha
  obtain ⟨tb, pb, qb⟩ := hb
  refine ⟨tOp (rNeD A.K) ta tb, fun X hX => by rw [← hX.K]; exact pe_cmpR (op_neD hX.room.units) (pa X hX) (pb X hX) (nomark _), fun O σ H s Q hs hp => PX.two qa qb hs hp fun x y v u H2 sm r1 r2 k => ?_⟩
  refine ⟨enc x, enc y, Dp.mono' cut_le (h.to r1), Dp.mono' cut_le (h.to r2), h.shaped hn x, h.shaped hn y, ?_⟩
  rw [h.dec]; exact k _ H2 sm rfl
theorem PB.eqD {enc : α → PyData} {n : Nat} {f g : S → Rs α} (h : Enc τ enc n) (ha : PX A ca a Γ τ f) (hb : PX A ca b Γ τ g) (hn : n ≤ 64 := by decide) : PB A ca (.Compare a [.Eq] [b] pos) Γ (fun s => (f s).bind fun x => (g s).bind fun y => .ok (decide (x = y))) := by
  obtain ⟨ta, pa, qa⟩ := ha
  obtain ⟨tb, pb, qb⟩ := hb
  refine ⟨tTest (tOp (rEqD A.K) ta tb), fun X hX => by rw [← hX.K]; exact pt_cmpR (op_eqD hX.room.units) (pa X hX) (pb X hX) (nomark _), fun O σ H s Q hs hp => PX.two qa qb hs hp fun x y v u H2 sm r1 r2 k => ?_⟩
  refine ⟨enc x, enc y, Dp.mono' cut_le (h.to r1), Dp.mono' cut_le (h.to r2), h.shaped hn x, h.shaped hn y, _, rfl, ?_⟩
  rw [h.dec]; exact k H2 sm
theorem PB.neD {enc : α → PyData} {n : Nat} {f g : S → Rs α} (h : Enc τ enc n) (ha : PX A ca a Γ τ f) (hb : PX A ca b Γ τ g) (hn : n ≤ 64 := by decide) : PB A ca (.Compare a [.NotEq] [b] pos) Γ (fun s => (f s).bind fun x => (g s).bind fun y => .ok (!decide (x = y))) := by
  obtain ⟨ta, pa, qa⟩ := ha
  obtain ⟨tb, pb, qb⟩ := hb
  refine ⟨tTest (tOp (rNeD A.K) ta tb), fun X hX => by rw [← hX.K]; exact pt_cmpR (op_neD hX.room.units) (pa X hX) (pb X hX) (nomark _), fun O σ H s Q hs hp => PX.two qa qb hs hp fun x y v u H2 sm r1 r2 k => ?_⟩
  refine ⟨enc x, enc y, Dp.mono' cut_le (h.to r1), Dp.mono' cut_le (h.to r2), h.shaped hn x, h.shaped hn y, _, rfl, ?_⟩
  rw [h.dec]; exact k H2 sm
/-! ### in -/
theorem anyD {enc : α → PyData} {n : Nat} (h : Enc τ enc n) (x : α) : ∀ as : List α, ((as.map enc).any fun z => PyData.eqv z (enc x)) = decide (x ∈ as)
  | [] => by simp
  | a :: r => by
    rw [List.map_cons, List.any_cons, anyD h x r, h.dec]
    by_cases q : a = x
    · simp [q]
    · have q' : ¬ x = a := fun e => q e.symm
      simp [q, q']
theorem PB.inL {enc : α → PyData} {n : Nat} {f : S → Rs α} {g : S → Rs (List α)} (h : Enc τ enc n) (ha : PX A ca a Γ τ f) (hb : BX A ca b Γ (cL τ) g) (hm : behindInMarks .In b = false := by rfl) (hn : n + 1 ≤ 64 := by decide) : PB A ca (.Compare a [.In] [b] pos) Γ (fun s => (f s).bind fun x => (g s).bind fun ys => .ok (decide (x ∈ ys))) := by
  obtain ⟨ta, pa, qa⟩ := ha
  obtain ⟨tb, pb, qb⟩ := hb
  refine ⟨tTest (tOp (rInD A.K) ta tb), fun X hX => by rw [← hX.K]; exact pt_cmpR (op_inD (by have := hX.room.un; omega)) (pa X hX) (pb X hX) hm, fun O σ H s Q hs hp => ?_⟩
  refine qa O σ H s _ hs ((Rs.post_bind hp).mono (fun x k v H1 s1 r => ?_) fun _ z => z)
  refine qb O σ H1 s _ (hs.grow s1) ((Rs.post_bind k).mono (fun ys k p vs H2 s2 e2 z2 r2 => ?_) fun _ z => z.grow s1)
  refine ⟨enc x, ys.map enc, Dp.mono' (cut_le.trans s2) (h.to r), .lst (.inl (.inl e2)) (Dp.mono'.Dps cut_le (h.dps r2)), h.shaped (Nat.le_of_succ_le hn) x, (EncN.lst h).shaped hn ys, _, rfl, ?_⟩
  rw [anyD h]; exact k H2 (s1.trans s2)
theorem PB.notInL {enc : α → PyData} {n : Nat} {f : S → Rs α} {g : S → Rs (List α)} (h : Enc τ enc n) (ha : PX A ca a Γ τ f) (hb : BX A ca b Γ (cL τ) g) (hm : behindInMarks .NotIn b = false := by rfl) (hn : n + 1 ≤ 64 := by decide) : PB A ca (.Compare a [.NotIn] [b] pos) Γ (fun s => (f s).bind fun x => (g s).bind fun ys => .ok (!decide (x ∈ ys))) := by
  obtain ⟨ta, pa, qa⟩ := ha
  obtain ⟨tb, pb, qb⟩ := hb
  refine ⟨tTest (tOp (rNotInD A.K) ta tb), fun X hX => by rw [← hX.K]; exact pt_cmpR (op_notInD (by have := hX.room.un; omega)) (pa X hX) (pb X hX) hm, fun O σ H s Q hs hp => ?_⟩
  refine qa O σ H s _ hs ((Rs.post_bind hp).mono (fun x k v H1 s1 r => ?_) fun _ z => z)
  refine qb O σ H1 s _ (hs.grow s1) ((Rs.post_bind k).mono (fun ys k p vs H2 s2 e2 z2 r2 => ?_) fun _ z => z.grow s1)
  refine ⟨enc x, ys.map enc, Dp.mono' (cut_le.trans s2) (h.to r), .lst (.inl (.inl e2)) (Dp.mono'.Dps cut_le (h.dps r2)), h.shaped (Nat.le_of_succ_le hn) x, (EncN.lst h).shaped hn ys, _, rfl, ?_⟩
  rw [anyD h]; exact k H2 (s1.trans s2)
theorem inV_ints (x : Int) : ∀ ns : List Int, inV (.int x) (ns.map V.int) = decide (x ∈ ns)
  | [] => rfl
  | n :: r => by
    show (eqV (.int n) (.int x) || inV (.int x) (r.map V.int)) = _
    rw [inV_ints x r]
    show ((n == x) || _) = _
    by_cases q : n = x
    · simp [q]
    · have q' : ¬ x = n := fun e => q e.symm
      simp [q, q']
theorem flat_ints : ∀ ns : List Int, (ns.map V.int).all flatV = true
  | [] => rfl
  | _ :: r => by simp [flatV]
theorem PB.inT {f : S → Rs Int} {g : S → Rs (List Int)} (ha : PX A ca a Γ tI f) (hb : PX A ca b Γ (tT tI) g) (hm : behindInMarks .In b = false := by rfl) : PB A ca (.Compare a [.In] [b] pos) Γ (fun s => (f s).bind fun x => (g s).bind fun ys => .ok (decide (x ∈ ys))) := by
  obtain ⟨ta, pa, qa⟩ := ha
  obtain ⟨tb, pb, qb⟩ := hb
  refine ⟨tTest (tOp (rIn A.K false) ta tb), fun X hX => by rw [← hX.K]; exact pt_cmpR op_in_seq (pa X hX) (pb X hX) hm, fun O σ H s Q hs hp => PX.two qa qb hs hp fun x ys v u H2 sm r1 r2 k => ?_⟩
  obtain ⟨p, vs, rfl, e, z, r⟩ := r2
  have ev := Paired.ints r
  subst ev
  refine ⟨p, ys.map V.int, rfl, .inr (.inl (.inl (cut_le _ _ e))), by rw [show v = .int x from r1]; rfl, flat_ints ys, _, rfl, ?_⟩
  rw [show v = .int x from r1, if_neg Bool.false_ne_true, inV_ints]
  exact k H2 sm
theorem PB.notInT {f : S → Rs Int} {g : S → Rs (List Int)} (ha : PX A ca a Γ tI f) (hb : PX A ca b Γ (tT tI) g) (hm : behindInMarks .NotIn b = false := by rfl) : PB A ca (.Compare a [.NotIn] [b] pos) Γ (fun s => (f s).bind fun x => (g s).bind fun ys => .ok (!decide (x ∈ ys))) := by
  obtain ⟨ta, pa, qa⟩ := ha
  obtain ⟨tb, pb, qb⟩ := hb
  refine ⟨tTest (tOp (rIn A.K true) ta tb), fun X hX => by rw [← hX.K]; exact pt_cmpR op_notIn_seq (pa X hX) (pb X hX) hm, fun O σ H s Q hs hp => PX.two qa qb hs hp fun x ys v u H2 sm r1 r2 k => ?_⟩
  obtain ⟨p, vs, rfl, e, z, r⟩ := r2
  have ev := Paired.ints r
  subst ev
  refine ⟨p, ys.map V.int, rfl, .inr (.inl (.inl (cut_le _ _ e))), by rw [show v = .int x from r1]; rfl, flat_ints ys, _, rfl, ?_⟩
  rw [show v = .int x from r1, if_pos rfl, inV_ints]
  exact k H2 sm
end
section
variable {ρ S S' S'' L α β γ U : Type} {Γ : Cxt S} {Γ' : Cxt S'} {Γ'' : Cxt S''} {Γl : Cxt L} {rr : Rr ρ} {τ : Ty α} {τ' : Ty β} {c : Ct α} {e a b d tg iter : Expr} {pos p p2 p3 p4 py : Pos} {x y : Str} {st : Stmt} {sts : List Stmt} {i : Nat}
/-! ### isinstance -/
structure IsTy {α : Type} (τ : Ty α) (n : String) : Prop where
  is : ∀ {K : PySem.W.Frag} {H : Hp} {v : V} {a : α}, τ.rep K H v a → TyX K H v (.type n)
theorem IsTy.int : IsTy tI "int" := ⟨fun h => by rw [show _ = V.int _ from h]; exact .base (.int _)⟩
theorem IsTy.bool : IsTy tB "bool" := ⟨fun h => by rw [show _ = V.bl _ from h]; exact .base (.bl _)⟩
theorem IsTy.str : IsTy tS "str" := ⟨fun h => by rw [show _ = V.str _ from h]; exact .base (.str _)⟩
theorem IsTy.non : IsTy tN "NoneType" := ⟨fun h => by rw [show _ = V.non from h]; exact .base .non⟩
theorem IsTy.lst : IsTy (tL τ) "list" := ⟨fun h => by obtain ⟨p, vs, rfl, e, _⟩ := h; exact .base (.lst e)⟩
theorem IsTy.lup {ts : Tys α} : IsTy (tLup ts) "list" := ⟨fun h => by obtain ⟨p, vs, rfl, e, _⟩ := h; exact .base (.lst e)⟩
theorem IsTy.tpl : IsTy (tT τ) "tuple" := ⟨fun h => by obtain ⟨p, vs, rfl, e, _⟩ := h; exact .base (.tup e)⟩
theorem IsTy.tup {ts : Tys α} : IsTy (tTup ts) "tuple" := ⟨fun h => by obtain ⟨p, vs, rfl, e, _⟩ := h; exact .base (.tup e)⟩
theorem TyX.mono {K : PySem.W.Frag} {H H' : Hp} {v : V} {n : String} {α : Type} {τ : Ty α} {a : α} (h : IsTy τ n) (s : Same H H') (r : τ.rep K H v a) : TyX K H' v (.type n) := h.is (τ.mono s r)
/-- isinstance(x, T) -/
theorem PX.isi {f : S → Rs α} {n m : String} {k : Bool} (B : Blt A x (.builtin "isinstance")) (Bm : Blt A y (.type m)) (h : IsTy τ n) (ha : PX A ca a Γ τ f) (hk : kitB n m = some k := by decide +kernel) (hs : star a = false := by rfl) : PX A ca (.Call (.Name x p) [a, .Name y p2] [] pos) Γ tB (fun s => (f s).bind fun _ => .ok k) := by
  obtain ⟨ta, pa, qa⟩ := ha
  refine ⟨_, fun X hX => call2 (r := rIsi A.K) (tb := tC (.ty m)) hX B (by rw [← hX.K]; exact call_isi) (pa X hX) (pe_bltn (hX.gl Bm.gl) (by rw [hX.mg]; exact Bm.mg) Bm.bt rfl Bm.nn Bm.db) hs rfl, fun O σ H s Q h0 hp => qa O σ H s _ h0 ((Rs.post_bind hp).mono (fun a ka v H1 s1 r => ?_) fun _ z => z)⟩
  exact ⟨v, .ty m, _, _, k, rfl, .ty m, TyX.mono h cut_le r, kit_ty hk, ka _ H1 s1 rfl⟩
theorem PX.isiO {f : S → Rs (Option α)} {n m : String} {k : Bool} (B : Blt A x (.builtin "isinstance")) (Bm : Blt A y (.type m)) (h : IsTy τ n) (ha : PX A ca a Γ (tO τ) f) (hk : kitB n m = some k := by decide +kernel) (hn : kitB "NoneType" m = some false := by decide +kernel) (hs : star a = false := by rfl) : PX A ca (.Call (.Name x p) [a, .Name y p2] [] pos) Γ tB (fun s => (f s).bind fun o => .ok (o.isSome && k)) := by
  obtain ⟨ta, pa, qa⟩ := ha
  refine ⟨_, fun X hX => call2 (r := rIsi A.K) (tb := tC (.ty m)) hX B (by rw [← hX.K]; exact call_isi) (pa X hX) (pe_bltn (hX.gl Bm.gl) (by rw [hX.mg]; exact Bm.mg) Bm.bt rfl Bm.nn Bm.db) hs rfl, fun O σ H s Q h0 hp => qa O σ H s _ h0 ((Rs.post_bind hp).mono (fun o ka v H1 s1 r => ?_) fun _ z => z)⟩
  cases o with
  | none => exact ⟨v, .ty m, _, _, false, rfl, .ty m, (by rw [show v = .non from r]; exact .base .non), kit_ty hn, ka _ H1 s1 rfl⟩
  | some a => exact ⟨v, .ty m, _, _, k, rfl, .ty m, TyX.mono h cut_le (show τ.rep A.K (cut H1 O) v a from r), kit_ty hk, ka _ H1 s1 rfl⟩
/-- isinstance(x, (T, U)) -/
theorem PX.isi2 {f : S → Rs α} {n m m2 : String} {k : Bool} {y2 : Str} {kk : Nat} (B : Blt A x (.builtin "isinstance")) (Bm : Blt A y (.type m)) (Bm2 : Blt A y2 (.type m2)) (h : IsTy τ n) (ha : PX A ca a Γ τ f) (hk : ∀ K, PySem.W.kitAny K (.type n) [.type m, .type m2] = some k := by intro _; rfl) (hs : star a = false := by rfl) :
    PX A ca (.Call (.Name x p) [a, .Tuple [.Name y p2, .Name y2 p3] kk p4] [] pos) Γ tB (fun s => (f s).bind fun _ => .ok k) := by
  obtain ⟨ta, pa, qa⟩ := ha
  have pt : ∀ X, A.In X → PE X (.Tuple [.Name y p2, .Name y2 p3] kk p4) (L2.tTup (tCons (tC (.ty m)) (tCons (tC (.ty m2)) tNil))) := fun X hX =>
    pe_tup (pa_cons (pe_bltn (hX.gl Bm.gl) (by rw [hX.mg]; exact Bm.mg) Bm.bt rfl Bm.nn Bm.db) (pa_cons (pe_bltn (hX.gl Bm2.gl) (by rw [hX.mg]; exact Bm2.mg) Bm2.bt rfl Bm2.nn Bm2.db) pa_nil (star_each rfl)) (star_each rfl))
  refine ⟨_, fun X hX => call2 (r := rIsiT A.K) hX B (by rw [← hX.K]; exact call_isiT) (pa X hX) (pt X hX) hs rfl, fun O σ H s Q h0 hp => qa O σ H s _ h0 ((Rs.post_bind hp).mono (fun a ka v H1 s1 r => ?_) fun _ z => z)⟩
  refine ⟨(by decide : 2 ≤ sizeLine), fun q nq => ?_⟩
  exact ⟨v, q, [.ty m, .ty m2], _, [.type m, .type m2], k, rfl, upd_same, .cons (.ty m) (.cons (.ty m2) .nil), TyX.mono h (cut_le.trans (same_upd nq)) r, hk _, ka _ _ (s1.trans (same_upd nq)) rfl⟩
/-! ### sorted pairs -/
def lexLe (x y : Int × Int) : Bool := decide (x.1 < y.1) || (decide (x.1 = y.1) && decide (x.2 ≤ y.2))
def srtP (xs : List (Int × Int)) : List (Int × Int) := xs.mergeSort lexLe
theorem lexLe_total (a b : Int × Int) : (lexLe a b || lexLe b a) = true := by
  unfold lexLe
  rcases Int.lt_trichotomy a.1 b.1 with h | h | h
  · simp [h]
  · rcases Int.le_total a.2 b.2 with q | q <;> simp [h, q]
  · simp [h]
theorem lexLe_trans (a b c : Int × Int) (h1 : lexLe a b = true) (h2 : lexLe b c = true) : lexLe a c = true := by
  unfold lexLe at *
  simp only [Bool.or_eq_true, decide_eq_true_eq, Bool.and_eq_true] at *
  omega
theorem lexLe_anti (a b : Int × Int) (h1 : lexLe a b = true) (h2 : lexLe b a = true) : a = b := by
  unfold lexLe at *
  simp only [Bool.or_eq_true, decide_eq_true_eq, Bool.and_eq_true] at *
  exact Prod.ext (by omega) (by omega)
theorem srtP_uniq {l m : List (Int × Int)} (h : l.Perm m) (hl : l.Pairwise (fun a b => lexLe a b = true)) : l = srtP m := by
  have h2 : (srtP m).Pairwise (fun a b => lexLe a b = true) := List.pairwise_mergeSort (le := lexLe) (fun a b c => lexLe_trans a b c) (fun a b => lexLe_total a b) m
  exact List.Perm.eq_of_pairwise (fun a b _ _ => lexLe_anti a b) hl h2 (h.trans (List.mergeSort_perm m lexLe).symm)
def keyAt (H : Hp) (v : V) : Int × Int := match v with
  | .ref t => match H t with
    | some (.tup [.int i, .int j]) => (i, j)
    | _ => (0, 0)
  | _ => (0, 0)
theorem keyAt_of {K : PySem.W.Frag} {H G : Hp} {v : V} {a : Int × Int} (s : Same G H) (r : (tPr tI tI).rep K G v a) : ∃ t, v = .ref t ∧ H t = some (.tup [.int a.1, .int a.2]) ∧ keyAt H v = a := by
  obtain ⟨t, vs, rfl, e, v1, r1, rfl, q1, v2, rfl, q2⟩ := r
  have e1 : v1 = .int a.1 := q1
  have e2 : v2 = .int a.2 := q2
  subst e1 e2
  exact ⟨t, rfl, s _ _ e, by unfold keyAt; simp [s _ _ e]⟩
theorem paired_map {F : V → α → Prop} {g : V → α} {ys : List V} (h : ∀ v ∈ ys, F v (g v)) : Paired F ys (ys.map g) := by
  induction ys with
  | nil => exact .nil
  | cons v r ih => exact .cons (h v List.mem_cons_self) (ih fun w hw => h w (List.mem_cons_of_mem _ hw))
theorem PL.sortedP {f : S → Rs (List (Int × Int))} (B : Blt A x (.builtin "sorted")) (ha : BX A ca a Γ (cL (tPr tI tI)) f) (hs : star a = false := by rfl) : PL A ca (.Call (.Name x p) [a] [] pos) Γ (cL (tPr tI tI)) (fun s => (f s).bind fun xs => .ok (srtP xs)) := by
  obtain ⟨ta, pa, qa⟩ := ha
  refine ⟨_, fun X hX => call1 (r := rSortedPO A.K) hX B (by rw [← hX.K]; exact cr_sortedPO) (pa X hX) hs, fun O σ H s Q hs hp => ?_⟩
  refine qa O σ H s _ hs ((Rs.post_bind hp).mono (fun xs k q vs H1 s1 e z r => ?_) fun _ z => z)
  have key : ∀ v ∈ vs, ∃ a, a ∈ xs ∧ (tPr tI tI).rep A.K (cut H1 O) v a := by
    intro v hv
    clear k e z
    induction r with
    | nil => simp at hv
    | cons r _ ih =>
      rcases List.mem_cons.mp hv with rfl | hv
      · exact ⟨_, List.mem_cons_self, r⟩
      · obtain ⟨a, h1, h2⟩ := ih hv
        exact ⟨a, List.mem_cons_of_mem _ h1, h2⟩
  have hmap : vs.map (keyAt H1) = xs := by
    clear k e z key
    induction r with
    | nil => rfl
    | cons r _ ih =>
      obtain ⟨t, h1, h2, h3⟩ := keyAt_of cut_le r
      rw [List.map_cons, h3, ih]
  refine ⟨q, vs, keyAt H1, rfl, .inl (.inl e), fun v hv => ?_, fun ys l srtd stb n => ?_⟩
  · obtain ⟨a, _, h2⟩ := key v hv
    obtain ⟨t, g1, g2, g3⟩ := keyAt_of cut_le h2
    exact ⟨t, g1, by rw [g3]; exact g2⟩
  · have pm : ys.Perm vs := stb.perm
    have hys : ys.map (keyAt H1) = srtP xs := by
      refine srtP_uniq (by rw [← hmap]; exact pm.map _) ?_
      have : ys.Pairwise fun a b => ltP (keyAt H1) b a = false := by
        have h := srtd
        exact h
      rw [List.pairwise_map]
      refine this.imp fun {a b} h => ?_
      have h : SrtO.lexB (keyAt H1 b) (keyAt H1 a) = false := h
      unfold SrtO.lexB at h
      unfold lexLe
      simp only [Bool.or_eq_true, decide_eq_true_eq, Bool.and_eq_true]
      split at h
      · have := of_decide_eq_false h
        omega
      · have := of_decide_eq_false h
        omega
    refine k l ys _ (s1.free n) (s1.trans (same_upd n)) upd_same (by rw [pm.length_eq]; exact z) ?_
    rw [← hys]
    have all : ∀ v ∈ ys, (tPr tI tI).rep A.K (cut (upd H1 l (.lst ys)) (l :: O)) v (keyAt H1 v) := fun v hv => by
      obtain ⟨a, _, h2⟩ := key v (pm.subset hv)
      obtain ⟨t, g1, g2, g3⟩ := keyAt_of cut_le h2
      rw [g3]
      exact (tPr tI tI).mono (cut_new n) h2
    exact paired_map all
/-! ### more of lists -/
theorem Paired.reverse {F : V → α → Prop} {vs : List V} {as : List α} (h : Paired F vs as) : Paired F vs.reverse as.reverse := by
  induction h with
  | nil => exact .nil
  | cons r _ ih => rw [List.reverse_cons, List.reverse_cons]; exact Paired.append ih (.cons r .nil)
/-- xs[::-1] -/
theorem PL.rev {f : S → Rs (List α)} {k : Nat} (ha : BX A ca a Γ (cL τ) f) : PL A ca (.Subscript a (.Slice none none (some (.UnaryOp .USub (.Constant (.int 1) k p) p2)) p3) pos) Γ (cL τ) (fun s => (f s).bind fun xs => .ok xs.reverse) := by
  obtain ⟨ta, pa, qa⟩ := ha
  refine ⟨tRevL A.K ta, fun X hX => by rw [← hX.K]; exact pe_revL (pa X hX), fun O σ H s Q hs hp => ?_⟩
  refine qa O σ H s _ hs ((Rs.post_bind hp).mono (fun xs k q vs H1 s1 e z r => ?_) fun _ z => z)
  exact ⟨q, vs, rfl, .inl (.inl e), fun l n => k l _ _ (s1.free n) (s1.trans (same_upd n)) upd_same (by rw [List.length_reverse]; exact z) (Paired.reverse (Paired.mono' (cut_new n) r))⟩
/-- xs[i], i with changes -/
theorem EX.ixL {f : S → Rs (List α)} {g : S → Rs (Int × S')} (hs : PlainIx b) (ha : PX A ca a Γ (tL τ) f) (hb : EX A ca b Γ Γ' tI g) : EX A ca (.Subscript a b pos) Γ Γ' τ (fun s => (f s).bind fun xs => (g s).bind fun i => (Rs.ofOpt (atI xs i.1)).bind fun y => .ok (y, i.2)) := by
  obtain ⟨ta, pa, qa⟩ := PX.ex ha
  obtain ⟨tb, pb, qb⟩ := hb
  refine ⟨tOp (rIxL A.K) ta tb, fun X hX => by rw [← hX.K]; exact pe_ix ix_list (pa X hX) (pb X hX) hs, fun F L R σ H s Q h0 hp => ?_⟩
  refine EX.two (f := fun s => (f s).bind fun a => .ok (a, s)) (k := fun xs i s2 => (Rs.ofOpt (atI xs i)).bind fun y => .ok (y, s2)) (P := fun r => ∀ (v : V) (H' : Hp), RS A.K F L (R.and (Mn.val A.K τ v r.fst)) Γ' σ H' r.snd → Q v H') qa qb h0 ?_ fun xs i s2 v u H2 h2 k => ?_
  · have : (((f s).bind fun a => Rs.ok (a, s)).bind fun x => (g x.2).bind fun y => (Rs.ofOpt (atI x.1 y.1)).bind fun z => .ok (z, y.2)) = ((f s).bind fun xs => (g s).bind fun i => (Rs.ofOpt (atI xs i.1)).bind fun y => .ok (y, i.2)) := by
      cases f s <;> rfl
    exact this ▸ hp
  · obtain ⟨Og, h2⟩ := h2
    obtain ⟨⟨r0, r1⟩, r2⟩ := h2.rs
    obtain ⟨p, vs, rfl, e, z, r1⟩ := r1
    obtain ⟨y, ey, k⟩ := Rs.post_ofOpt (Rs.post_bind k)
    obtain ⟨w, ew, rw⟩ := Paired.atI r1 ey
    exact ⟨p, vs, i, w, rfl, r2, .inl (.inl (cut_le _ _ e)), ew, k w H2 ⟨Og, h2.with ⟨r0, rw⟩⟩⟩
/-- xs.extend(ys) -/
theorem EX.extend {w : Option Addr} {f : S → Rs (List α)} {g : S → List α} {put : S → List α → S'} {xp apos : Pos} (hw : Wr Γ i w (cL τ) g (cL τ) Γ' put) (hN : A.N[i]? = some x) (hv : Vis A.sc x) (he : BX A ca e Γ (cL τ) f)
    (hs : star e = false := by rfl) (hline : (apos.endLine == pos.line) = true := by rfl) (hd : (x == ("__debug__" : Str)) = false := by decide) (hcd : (x == ("__classdict__" : Str)) = false := by decide) :
    EX A ca (.Call (.Attribute (.Name x xp) "extend" apos) [e] [] pos) Γ Γ' tN (fun s => (f s).bind fun ys => Rs.guard (decide ((g s).length + ys.length ≤ sizeLine)) (.ok ((), put s (g s ++ ys)))) := by
  obtain ⟨t, ht, q⟩ := he
  refine ⟨tBM A.K "list" rExtend (tVar i) (tCons t tNil), fun X hX => by
    rw [← hX.K]
    exact pe_bm PySem.F.plainAttrs_list PySem.F.slot_list_extend PySem.F.type_list_extend mt_extend (pe_var (by rw [hX.N]; exact hN) (by rw [hX.sc]; exact hv) hd hcd) (pa_cons (ht X hX) pa_nil (star_each hs)) rfl (by rw [star_each hs]; rfl) hline (star_each hs) (star_any rfl), fun F L R σ H s Q hs0 hp => ?_⟩
  obtain ⟨Og, hs1⟩ := hs0
  obtain ⟨l, vs, _, e1, _, _, _, e3, z3, r3, _⟩ := hs1.write hw
  refine ⟨.ref l, e1, .inl ⟨rfl, vs, .inl (.inl e3)⟩, q _ σ H s _ hs1.sx ((Rs.post_bind hp).mono (fun ys k b ws H' sm e z r => ?_) fun _ z => z.exw hs1.fr)⟩
  obtain ⟨hc, k⟩ := Rs.post_guard k
  have h' := hs1.grow sm
  obtain ⟨l2, vs2, _, e12, e22, _, _, e32, z32, r32, hwr⟩ := h'.write hw
  have : l2 = l := by rw [e1] at e12; simpa using e12.symm
  subst this
  have hz : vs2.length + ws.length ≤ sizeLine := by rw [Paired.length r32, Paired.length r]; exact of_decide_eq_true hc
  refine ⟨l2, b, vs2, ws, rfl, rfl, e32, e, hz, k _ _ ⟨Og, ?_⟩⟩
  have h3 := hwr (vs2 ++ ws) (g s ++ ys) _ (by rw [List.length_append]; exact hz) (fun p o hp e => by rw [upd_ne hp]; exact e) upd_same (by
    rw [cut_upd e22]
    exact Paired.append r32 r)
  exact h3.with ⟨by rw [cut_upd e22]; exact h'.rs, rfl⟩
/-- xs.pop() as a value -/
theorem EX.pop {w : Option Addr} {g : S → List α} {put : S → List α → S'} {xp apos : Pos} (hw : Wr Γ i w (cL τ) g (cL τ) Γ' put) (hN : A.N[i]? = some x) (hv : Vis A.sc x)
    (hline : (apos.endLine == pos.line) = true := by rfl) (hd : (x == ("__debug__" : Str)) = false := by decide) (hcd : (x == ("__classdict__" : Str)) = false := by decide) :
    EX A ca (.Call (.Attribute (.Name x xp) "pop" apos) [] [] pos) Γ Γ' τ (fun s => (Rs.ofOpt (g s).getLast?).bind fun y => .ok (y, put s (g s).dropLast)) := by
  refine ⟨tBM0 A.K "list" rPop (tVar i), fun X hX => by
    rw [← hX.K]
    exact pe_bm0 PySem.F.plainAttrs_list PySem.F.slot_list_pop PySem.F.type_list_pop mt_pop (pe_var (by rw [hX.N]; exact hN) (by rw [hX.sc]; exact hv) hd hcd) rfl hline, fun F L R σ H s Q hs0 hp => ?_⟩
  obtain ⟨Og, hs1⟩ := hs0
  obtain ⟨l, vs, _, e1, e2, _, _, e3, z3, r3, hwr⟩ := hs1.write hw
  obtain ⟨y, ey, k⟩ := Rs.post_ofOpt (Rs.post_bind hp)
  have hlast : (g s)[(g s).length - 1]? = some y := by rw [← List.getLast?_eq_getElem?]; exact ey
  obtain ⟨v, hv1, hv2⟩ := Paired.get (show Paired (τ.rep A.K _) vs (g s) from r3) hlast
  refine ⟨.ref l, e1, .inl ⟨rfl, vs, .inl (.inl e3)⟩, l, vs, v, rfl, rfl, e3, by rw [Paired.length r3]; exact hv1, k v _ ⟨Og, ?_⟩⟩
  have hdl : ∀ {vs : List V} {as : List α}, Paired (τ.rep A.K (cut H (hid F L Og))) vs as → Paired (τ.rep A.K (cut H (hid F L Og))) vs.dropLast as.dropLast := fun {vs as} h => by
    rw [List.dropLast_eq_take, List.dropLast_eq_take, Paired.length h]
    exact Paired.take _ h
  have h3 := hwr vs.dropLast (g s).dropLast _ (by rw [List.length_dropLast]; omega) (fun p o hp e => by rw [upd_ne hp]; exact e) upd_same (by
    rw [cut_upd e2]
    exact hdl r3)
  exact h3.with ⟨by rw [cut_upd e2]; exact hs1.rs, by rw [cut_upd e2]; exact hv2⟩
end
end TL
/-! TL10: helps for the printed walks. -/
namespace TL
open PySem PySem.Spec PyProof.Rows L2
variable {A : Amb} {ca : Nat → Addr}
def visB (sc : Scope) (x : Str) : Bool := match sc.names.lookup x with
  | some .local => true
  | some .cell => true
  | some .free => true
  | _ => false
def locB (sc : Scope) (x : Str) : Bool := match sc.names.lookup x with
  | some .local => true
  | some .cell => true
  | _ => false
theorem vb {sc : Scope} {x : Str} (h : visB sc x = true) : Vis sc x := by
  unfold visB at h
  split at h
  · exact .inl (by assumption)
  · exact .inr (.inl (by assumption))
  · exact .inr (.inr (by assumption))
  · cases h
theorem vbb {scope : Scope} {x : Str} (h : visB scope x = true) : Vis (relS scope A.sc) x := by
  unfold visB at h
  split at h
  · exact vis_blk (by assumption) (.inl rfl)
  · exact vis_blk (by assumption) (.inr (.inl rfl))
  · exact vis_blk (by assumption) (.inr (.inr rfl))
  · cases h
theorem lob {x : Str} (hf : A.fn = fun _ => true) (h : locB A.sc x = true) : LocA A x := by
  unfold locB at h
  split at h
  · exact ⟨.inl (by assumption), .inl (by rw [hf])⟩
  · exact ⟨.inr (by assumption), .inl (by rw [hf])⟩
  · cases h
theorem lobb {scope : Scope} {x : Str} (h : locB scope x = true) : LocA (A.blk scope) x := by
  unfold locB at h
  split at h
  · exact loc_blk (by assumption)
  · exact locC_blk (by assumption)
  · cases h
section
variable {ρ S S' S'' L α β γ U : Type} {Γ : Cxt S} {Γ' : Cxt S'} {Γ'' : Cxt S''} {Γl : Cxt L} {rr : Rr ρ} {τ : Ty α} {τ' : Ty β} {c : Ct α} {e a b d tg iter : Expr} {pos p p2 py : Pos} {x y : Str} {st : Stmt} {sts : List Stmt} {i : Nat}
theorem SX.retA {f : S → Rs (α × S')} (he : EX A ca e Γ Γ' τ f) : SX A ca (.Return (some e) pos) Γ Γ'' Γl (rVal A.K τ) (fun s => (f s).bind fun r => .ok (.rt r.1)) := by
  obtain ⟨t, ht, q⟩ := he
  exact ⟨_, fun X hX => ps_ret (ht X hX), fun F R σ H s D h0 hp => q F [] R σ H s _ h0 ((Rs.post_bind hp).mono (fun r k v H' ⟨Og, h'⟩ => k v H' ⟨h'.fr, τ.mono (cut_sub hid_B) h'.rs.2⟩) fun _ z => z)⟩
/-- a pure value is handed back -/
theorem SX.retP {f : S → Rs α} (he : PX A ca e Γ τ f) : SX A ca (.Return (some e) pos) Γ Γ'' Γl (rVal A.K τ) (fun s => (f s).bind fun r => .ok (.rt r)) := by
  have h := SX.retA (Γ'' := Γ'') (Γl := Γl) (pos := pos) (PX.ex he)
  have : (fun s => ((fun s => (f s).bind fun a => Rs.ok (a, s)) s).bind fun r => Rs.ok (Fl.rt (S := S'') (L := L) r.1)) = fun s => (f s).bind fun r => .ok (.rt r) := by
    funext s
    dsimp only
    cases f s <;> rfl
  exact this ▸ h
/-- .. is stored -/
theorem SX.setP {f : S → Rs α} {put : S → α → S''} (hx : LocA A x) (hN : A.N[i]? = some x) (he : PX A ca e Γ τ f) (hp : Put Γ i (.val τ) Γ'' put) (hs : ∀ X, A.In X → swapsWith e (some (.Name x py)) pos.line X.env = pure false := by intro _ _; rfl) :
    SX A ca (.Assign [.Name x py] e pos) Γ Γ'' Γl rr (fun s => (f s).bind fun r => .ok (.nx (put s r))) := by
  have h := SX.set (k := 0) (Γl := Γl) (rr := rr) hx hN (PX.ex he) hp hs
  have : (fun s => ((fun s => (f s).bind fun a => Rs.ok (a, s)) s).bind fun r => Rs.ok (Fl.nx (ρ := ρ) (L := L) (put r.2 r.1))) = fun s => (f s).bind fun r => .ok (.nx (put s r)) := by
    funext s
    dsimp only
    cases f s <;> rfl
  exact this ▸ h
theorem SX.setOP {f : S → Rs α} {put : S → α → S''} (hx : LocA A x) (hN : A.N[i]? = some x) (he : PL A ca e Γ c f) (hp : Put Γ i (.own none c) Γ'' put) (hs : ∀ X, A.In X → swapsWith e (some (.Name x py)) pos.line X.env = pure false := by intro _ _; rfl) :
    SX A ca (.Assign [.Name x py] e pos) Γ Γ'' Γl rr (fun s => (f s).bind fun r => .ok (.nx (put s r))) := by
  have h := SX.setO (k := 0) (Γl := Γl) (rr := rr) hx hN (PL.el he) hp hs
  have : (fun s => ((fun s => (f s).bind fun a => Rs.ok (a, s)) s).bind fun r => Rs.ok (Fl.nx (ρ := ρ) (L := L) (put r.2 r.1))) = fun s => (f s).bind fun r => .ok (.nx (put s r)) := by
    funext s
    dsimp only
    cases f s <;> rfl
  exact this ▸ h
theorem SX.asgP {f : S → Rs α} {put : S → α → S''} {ix : List Nat} (he : PX A ca e Γ τ f) (hg : GX A tg Γ Γ'' τ put ix) (hs : ∀ env, swapsWithSole [tg] e pos.line env = pure false := by intro _; rfl) (hw : ∀ X, A.In X → swappedStores [tg] e X.env = pure none := by intro _ _; rfl) (hst : star tg = false := by rfl) :
    SX A ca (.Assign [tg] e pos) Γ Γ'' Γl rr (fun s => (f s).bind fun r => .ok (.nx (put s r))) := by
  have h := SX.asg (Γl := Γl) (rr := rr) (PX.ex he) hg hs hw hst
  have : (fun s => ((fun s => (f s).bind fun a => Rs.ok (a, s)) s).bind fun r => Rs.ok (Fl.nx (ρ := ρ) (L := L) (put r.2 r.1))) = fun s => (f s).bind fun r => .ok (.nx (put s r)) := by
    funext s
    dsimp only
    cases f s <;> rfl
  exact this ▸ h
theorem SX.iteP {sa sb : List Stmt} {f : S → Rs Bool} {g1 g2 : S → Rs (Fl ρ S'' L)} (hc : PB A ca e Γ f) (h1 : SXs A ca sa Γ Γ'' Γl rr g1) (h2 : SXs A ca sb Γ Γ'' Γl rr g2) : SX A ca (.If e sa sb pos) Γ Γ'' Γl rr (fun s => (f s).bind fun r => if r then g1 s else g2 s) := by
  have h := SX.ite (pos := pos) (PB.eb hc) h1 h2
  have : (fun s => ((fun s => (f s).bind fun a => Rs.ok (a, s)) s).bind fun r => if r.1 = true then g1 r.2 else g2 r.2) = fun s => (f s).bind fun r => if r then g1 s else g2 s := by
    funext s
    dsimp only
    cases f s <;> rfl
  exact this ▸ h
theorem SX.forP {St2 : Type} {Γt : Cxt St2} {f : S → Rs (List β)} {put : S → β → St2} {ix : List Nat} {body : List Stmt} {g : St2 → Rs (Fl ρ S S)} (hi : IX A ca tg iter Γ τ' f) (hg : GX A tg Γ Γt τ' put ix) (hb : SXs A ca body Γt Γ Γ rr g) (hf : ∀ env x, foldedSetIterable iter env x = pure x := by intro _ _; rfl) : SX A ca (.For tg iter body [] pos) Γ Γ Γl rr (fun s => (f s).bind fun r => forM (fun b s => g (put s b)) r s) := by
  have h := SX.forS (pos := pos) (Γl := Γl) (IX.ei hi) hg hb hf
  have : (fun s => ((fun s => (f s).bind fun a => Rs.ok (a, s)) s).bind fun r => forM (fun b s => g (put s b)) r.1 r.2) = fun s => (f s).bind fun r => forM (L := L) (fun b s => g (put s b)) r s := by
    funext s
    dsimp only
    cases f s <;> rfl
  exact this ▸ h
/-- a value that is never come to -/
theorem PX.never : PX A ca e Γ τ (fun _ => .bad) := ⟨fun _ _ _ => False, fun X hX => ⟨fun _ _ _ _ _ _ h => h.elim⟩, fun O σ H s Q hs hp => hp.elim⟩
theorem PB.never : PB A ca e Γ (fun _ => .bad) := ⟨fun _ _ _ => False, fun X hX => ⟨fun _ _ _ _ _ _ h => h.elim⟩, fun O σ H s Q hs hp => hp.elim⟩
theorem PL.never : PL A ca e Γ c (fun _ => .bad) := ⟨fun _ _ _ => False, fun X hX => ⟨fun _ _ _ _ _ _ h => h.elim⟩, fun O σ H s Q hs hp => hp.elim⟩
/-- a captured name takes a comprehension as other names take other values -/
theorem sw_cell {elt : Expr} {gs : List Comprehension} {scope : Scope} {l : Nat} (hy : A.sc.names.lookup y = some .cell) : ∀ X, A.In X → swapsWith (.ListComp elt gs scope pos) (some (.Name y py)) l X.env = pure false := by
  intro X hX
  have ky : X.env.kindOf y = some .cell := by
    show X.env.scope.names.lookup y = _
    rw [hX.sc]
    exact hy
  unfold swapsWith
  simp only [ky]
  cases X.env.blockKind <;> rfl
theorem PX.tl {τ : Ty α} {f : S → Rs (List α)} (h : PL A ca e Γ (cL τ) f) : PX A ca e Γ (tL τ) f := h.px
theorem PX.tlup {ts : Tys α} {f : S → Rs α} (h : PL A ca e Γ (cR ts) f) : PX A ca e Γ (tLup ts) f := h.px
theorem BX.tl {τ : Ty α} {f : S → Rs (List α)} (h : PX A ca e Γ (tL τ) f) : BX A ca e Γ (cL τ) f := PX.bx (c := cL τ) h
theorem BX.tlup {ts : Tys α} {f : S → Rs α} (h : PX A ca e Γ (tLup ts) f) : BX A ca e Γ (cR ts) f := PX.bx (c := cR ts) h
theorem EX.tl {τ : Ty α} {f : S → Rs (List α × S')} (h : EL A ca e Γ Γ' (cL τ) f) : EX A ca e Γ Γ' (tL τ) f := h.ex
theorem EX.tlup {ts : Tys α} {f : S → Rs (α × S')} (h : EL A ca e Γ Γ' (cR ts) f) : EX A ca e Γ Γ' (tLup ts) f := h.ex
end
end TL
/-! TL11: more helps for the printed walks. -/
namespace TL
open PySem PySem.Spec PyProof.Rows L2
variable {A : Amb} {ca : Nat → Addr}
section
variable {ρ S S' S'' L α β γ U : Type} {Γ : Cxt S} {Γ' : Cxt S'} {Γ'' : Cxt S''} {Γl : Cxt L} {rr : Rr ρ} {τ : Ty α} {τ' : Ty β} {c : Ct α} {e a b d tg iter : Expr} {pos p p2 py : Pos} {x y : Str} {st : Stmt} {sts : List Stmt} {i : Nat}
theorem Tc.someC {g : α → β} (h : Tc τ τ' g) : Tc τ (tO τ') (fun a => Option.some (g a)) := ⟨fun r => h.to r⟩
/-- a text without lone halves -/
abbrev SK := {s : Str // PyData.strOk s = true}
def tSk : Ty SK := ⟨fun _ _ v a => v = .str a.1, fun _ h => h⟩
theorem NN.strK : NN tSk := ⟨fun h => by rw [show _ = V.str _ from h]; simp⟩
theorem PX.strK {i : Str} {j : Nat} (h : PyData.strOk i = true := by decide +kernel) : PX A ca (.Constant (.str i) j pos) Γ tSk (fun _ => .ok ⟨i, h⟩) := by
  obtain ⟨t, ht, q⟩ := PX.str (A := A) (ca := ca) (pos := pos) (Γ := Γ) (i := i) (j := j)
  exact ⟨t, ht, fun O σ H s Q hs hp => q O σ H s Q hs fun v H' sm r => hp v H' sm r⟩
theorem EncN.strK : EncN tSk (fun s => PyData.str s.1) 0 := ⟨⟨fun h => by rw [show _ = V.str _ from h]; exact .str _, fun a => by simp [PyData.canLay0, a.2], fun _ => by simp [PyData.depth], fun a b => by simp [PyData.eqv, Subtype.ext_iff]⟩, fun a => ⟨rfl, rfl⟩⟩
theorem IsTy.strK : IsTy tSk "str" := ⟨fun h => by rw [show _ = V.str _ from h]; exact .base (.str _)⟩
theorem SX.retIOA {f : S → Rs (α × S')} {q : Addr} {c : Ct γ} {g : S' → γ} (he : EX A ca e Γ Γ' τ f) (h0 : At Γ' 0 (.own (some q) c) g) : SX A ca (.Return (some e) pos) Γ Γ'' Γl (rIO A.K q c τ) (fun s => (f s).bind fun r => .ok (.rt (r.1, g r.2))) := by
  obtain ⟨t, ht, h⟩ := SX.retIO (Γl := Γl) (pos := pos) he h0
  refine ⟨t, ht, fun F R σ H s D hs hp => h F R σ H s D hs ?_⟩
  cases hf : f s with
  | ok r => simp only [hf, Rs.bind] at hp ⊢; exact hp
  | exc n => simp only [hf, Rs.bind] at hp ⊢; exact hp
  | bad => simp only [hf, Rs.bind] at hp ⊢; exact hp
theorem par_some {kt k2 : Nat} {px pyy pt pt2 : Pos} (hk : A.sc.kind = .function) (hx : A.sc.names.lookup x = some .local) (hy : A.sc.names.lookup y = some .local) (hl2 : (pyy.line == px.line) = true) (hne : [x, y].eraseDups.length = 2)
    (h1 : star a = false) (h2 : star b = false) (hf : [a, b].all (foldedForSure 8) = false) (hc : [a, b].all (constantsAlone 8) = false) :
    ∀ X, A.In X → swappedStores [.Tuple [.Name x px, .Name y pyy] kt pt] (.Tuple [a, b] k2 pt2) X.env = pure (some [x, y]) := by
  intro X hX
  have kx : X.env.kindOf x = some .local := by show X.env.scope.names.lookup x = _; rw [hX.sc]; exact hx
  have ky : X.env.kindOf y = some .local := by show X.env.scope.names.lookup y = _; rw [hX.sc]; exact hy
  have hb : X.env.blockKind = .function := by unfold Env.blockKind; rw [hX.sc, hk]; rfl
  unfold swappedStores
  have b1 : (NameKind.local == NameKind.local) = true := rfl
  simp only [hb, List.length_cons, List.length_nil, hf, hc, List.filterMap, kx, ky, Expr.pos, List.head?, Option.map, Option.getD, hl2, BEq.rfl, Bool.and_true, Bool.and_self, if_true, hne]
  simp [hf, hc, hne, b1, show (ScopeKind.function != ScopeKind.function) = false from rfl, show ((some NameKind.local : Option NameKind) == some .local) = true from rfl, hl2]
  intro h
  exfalso
  rcases h with h | h
  · cases a <;> first | (cases h; done) | (cases h1; done)
  · cases b <;> first | (cases h; done) | (cases h2; done)
end
end TL
/-! TL12: sorted(xs, key=f), f a def of the module whose keys are pairs of ints. -/
namespace TL
open PySem PySem.Spec PyProof.Rows L2
def kdat (k : Int × Int) : PyData := .tuple [.int k.1, .int k.2]
theorem kdat_le {β : Type} (g : β → Int × Int) (b c : β) : PySem.W.dataLe false (fun b => kdat (g b)) b c = lexLe (g b) (g c) := by
  have e : ∀ p : Int × Int, PySem.W.keyToks (kdat p) = [.inl 1, .inl p.1, .inl 1, .inl p.2, .inl 0] := fun p => by
    simp [kdat, PySem.W.keyToks, PySem.W.keyToksAll]
  have lt : ∀ a b : Int, itemLt (.inl a) (.inl b) = decide (a < b) := fun a b => rfl
  show (!PyProof.Rows.lexLt itemOrd (PySem.W.keyToks (kdat (g c))) (PySem.W.keyToks (kdat (g b)))) = _
  rw [e, e]
  generalize g b = x
  generalize g c = y
  simp only [PyProof.Rows.lexLt, lt, lexLe]
  by_cases h1 : y.1 < x.1
  · have h2 : ¬ x.1 < y.1 := by omega
    have h3 : ¬ x.1 = y.1 := by omega
    simp [h1, h2, h3]
  · by_cases h2 : x.1 < y.1
    · simp [h1, h2]
    · have h3 : x.1 = y.1 := by omega
      by_cases h4 : y.2 < x.2
      · have h5 : ¬ x.2 ≤ y.2 := by omega
        simp [h1, h2, h3, h4, h5]
      · have h5 : x.2 ≤ y.2 := by omega
        by_cases h6 : x.2 < y.2 <;> simp [h1, h2, h3, h4, h5, h6]
section
variable {X : Cx} {k : Nat} {f : Addr} {fd : FuncData} {ps : List Str} {sp : Sp} {pins : List (Addr × Obj)} {σ : L2.St} {H : Hp} {s : Shared} {Q : VK}
/-- a call of the key's def two built-ins deep; it raises nothing -/
theorem run_in2 (F : FnOk X.prog X.w X.K X.mg X.base (L2.CX X.prog X.w) k f fd ps sp) (hr : Room (k + 1) X.A) (hb : Binds X.K fd ps []) {u : Value} {v : V} (I : Inv X pins σ H s) (r : RelV v u) (h : sp [v] H Q fun _ _ _ => False) {E : Value → Shared → Prop} :
    wpAny (model X.prog X.w) X.A.in1.in1 (call (.ref f) [u]) (EP X pins σ Q) E s := by
  have rm : Room k X.A.in1.in1 := by
    refine ⟨hr.hd, ?_, ?_⟩
    · have := hr.dp
      show X.A.depth + 3 * k + 5 < _
      omega
    · have := hr.un
      show X.A.units + 1 + 1 + 16 * k + 200 < _
      omega
  have vv : Vals [v] [u] := .cons r .nil
  have hl : ([u] ++ []).length = ps.length := (F.len _ _ _ _ h)
  have go := F.run X.A.in1.in1 X.stack s H ⟨[u], []⟩ ([u] ++ []) [v] Q (fun _ _ _ => False) rm I.env0.in1.in1 (hb s [u] I.kIn hl) vv h
  refine wpAny_call (codeAny_mono go fun z s' hq => ?_)
  match z, hq with
  | .error e, hq =>
    obtain ⟨_, _, _, _, _, _, _, _, _, _, _, _, bad⟩ := hq
    exact bad.elim
  | .ok (.ret w), hq => exact I.after hq
/-- all that was there stands, and more may stand -/
theorem inv_more {h' : Heap} {t' : Nat} (I : Inv X pins σ H s) (kp : ∀ b o, s.heap.get? b = some o → h'.get? b = some o) : Inv X pins σ H { s with heap := h', toks := t' } := by
  have hf := I.fpOk (b := s.heap.objs.size) (Nat.le_refl _) (I.hok.fresh (Nat.le_refl _))
  obtain ⟨hn, h1, _, h2, h3, h4⟩ := hf
  exact I.turned (fun b o _ e => kp b o e) hn h1 h2 h3 h4
theorem inv_pin {p : Addr × Obj} (I : Inv X pins σ H s) (hg : s.heap.get? p.1 = some p.2) (hf : FpOk X pins H p.1) (hc : ∀ v, p.2.data ≠ .cell v) : Inv X (p :: pins) σ H s := by
  refine { I with pin := fun z hz => ?_ }
  rcases List.mem_append.mp hz with hz | hz
  · exact I.pin z (List.mem_append_left _ hz)
  · rcases List.mem_cons.mp hz with rfl | hz
    · exact ⟨hg, hf.1, hf.2.1, hf.2.2.1, hc⟩
    · exact I.pin z (List.mem_append_right _ hz)
theorem inv_unpin {p : Addr × Obj} (I : Inv X (p :: pins) σ H s) : Inv X pins σ H s :=
  { I with pin := fun z hz => I.pin z (by
      rcases List.mem_append.mp hz with hz | hz
      · exact List.mem_append_left _ hz
      · exact List.mem_append_right _ (List.mem_cons_of_mem _ hz)) }
theorem vals_snoc {vs : List V} {us : List Value} {v : V} {u : Value} (h : Vals vs us) (r : RelV v u) : Vals (vs ++ [v]) (us ++ [u]) := h.append (.cons r .nil)
/-- the key kk stands at v -/
def KeyIs (H : Hp) (v : V) (kk : Int × Int) : Prop := ∃ t, v = .ref t ∧ H t = some (.tup [.int kk.1, .int kk.2])
theorem KeyIs.mono {H H' : Hp} {v : V} {kk : Int × Int} (s : Same H H') (h : KeyIs H v kk) : KeyIs H' v kk := by
  obtain ⟨t, e, q⟩ := h
  exact ⟨t, e, s _ _ q⟩
theorem paired_mono {α β : Type} {R R' : α → β → Prop} (f : ∀ a b, R a b → R' a b) {as : List α} {bs : List β} (h : Paired R as bs) : Paired R' as bs := by
  induction h with
  | nil => exact .nil
  | cons r _ ih => exact .cons (f _ _ r) ih
theorem keys_reads (I : Inv X pins σ H s) {vs : List V} {us : List Value} {ks : List (Int × Int)} (r : Vals vs us) (h : Paired (KeyIs H) vs ks) : PySem.W.EachIs (fun u d => ∃ as, Reads s.heap u d as) us (ks.map kdat) := by
  induction h generalizing us with
  | nil => cases r; exact .nil
  | cons q _ ih =>
    cases r with
    | cons r1 r2 =>
      refine .cons ?_ (ih r2)
      obtain ⟨t, rfl, e⟩ := q
      exact Dp.reads I _ _ _ (.tup (.inl (.inl e)) (.cons (.int _) (.cons (.int _) .nil))) r1
theorem each_zip {xs : List V} {us : List Value} {ks : List (Int × Int)} (r : Vals xs us) (hk : ks.length = xs.length) : PySem.W.EachIs (fun (u : Value) (b : V × (Int × Int)) => RelV b.1 u) us (xs.zip ks) := by
  induction r generalizing ks with
  | nil => exact .nil
  | cons r1 _ ih =>
    cases ks with
    | nil => simp at hk
    | cons k ks => exact .cons r1 (ih (by simpa using hk))
theorem each_vals {us : List Value} {bs : List (V × (Int × Int))} (h : PySem.W.EachIs (fun (u : Value) (b : V × (Int × Int)) => RelV b.1 u) us bs) : Vals (bs.map (·.1)) us := by
  induction h with
  | nil => exact .nil
  | cons r _ ih => exact .cons r ih
theorem vals_at {vs : List V} {us : List Value} (r : Vals vs us) : ∀ {j : Nat} {u : Value}, us[j]? = some u → ∃ v, vs[j]? = some v ∧ RelV v u := by
  induction r with
  | nil => intro j u h; simp at h
  | cons r1 _ ih =>
    intro j u h
    cases j with
    | zero =>
      simp only [List.getElem?_cons_zero, Option.some.injEq] at h
      subst h
      exact ⟨_, rfl, r1⟩
    | succ j =>
      simp only [List.getElem?_cons_succ] at h ⊢
      exact ih h
/-- sorted(xs, key=f) -/
theorem sortedK_run {l : Addr} {xs : List V} {ks : List (Int × Int)} (F : FnOk X.prog X.w X.K X.mg X.base (L2.CX X.prog X.w) k f fd ps sp) (hr : Room (k + 1) X.A) (hb : Binds X.K fd ps []) (I : Inv X pins σ H s) (hl : H l = some (.lst xs)) (hk : ks.length = xs.length)
    (hs : ∀ (i : Nat) (v : V) (kk : Int × Int), xs[i]? = some v → ks[i]? = some kk → ∀ H1, Same H H1 → sp [v] H1 (fun u H2 => Same H1 H2 ∧ KeyIs H2 u kk) fun _ _ _ => False)
    (q : ∀ a H1, Same H H1 → H1 a = none → Q (.ref a) (upd H1 a (.lst (((xs.zip ks).mergeSort fun p q => lexLe p.2 q.2).map (·.1))))) :
    wpAny (model X.prog X.w) X.A (call (.builtin "sorted") [.ref l] [(Str.ofString "key", .ref f)]) (EP X pins σ Q) X.xe s := by
  obtain ⟨its, rv, pl, hz⟩ := I.list (.inl (.inl hl))
  have hzi : its.length ≤ sizeLine := by rw [← rv.length]; exact hz
  refine PySem.W.sorted_of_sort pl.isList hzi (ksk_s1 _ _) (fun _ => ksk_l1 _ _) fun E' => ?_
  rw [ksk_t1]
  have hfr : s.heap.objs.size ≤ s.heap.objs.size + 1 := Nat.le_succ _
  generalize ha : s.heap.objs.size + 1 = a at *
  have at1 : (PySem.W.copyHeap s.heap its).get? a = some (seqObj "list" its.toArray 0) := by rw [← ha]; exact PySem.W.copyHeap_at s.heap its
  obtain ⟨e1, at2⟩ : ∃ e1, ((PySem.W.copyHeap s.heap its).update a (Obj.mapSeq fun _ => (#[] : Array Value))).get? a = some (seqObj "list" #[] e1) := ⟨_, get?_update_seq at1 fun _ => #[]⟩
  have hz2 : a < (PySem.W.copyHeap s.heap its).objs.size := Heap.lt_size at1
  obtain ⟨g1, hg1⟩ : ∃ g1, g1 = ((PySem.W.copyHeap s.heap its).update a (Obj.mapSeq fun _ => (#[] : Array Value))).push (seqObj "tuple" its.toArray 0) := ⟨_, rfl⟩
  have up1 : ∀ b o, s.heap.get? b = some o → g1.get? b = some o := fun b o e => by
    have hb : b < s.heap.objs.size := Heap.lt_size e
    rw [hg1]
    refine Heap.get?_push_of_some _ ?_
    rw [Heap.get?_update_ne _ _ _ _ (Nat.ne_of_lt (Nat.lt_of_lt_of_le hb hfr))]
    exact PySem.W.copyHeap_old e
  have a1 : g1.get? a = some (seqObj "list" #[] e1) := by rw [hg1]; exact Heap.get?_push_of_some _ at2
  have I1 : Inv X pins σ H { s with heap := g1, toks := s.toks } := inv_more I up1
  have fa : FpOk X pins H a := I.fpOk hfr (I.hok.fresh hfr)
  have P1 := inv_pin (p := (a, seqObj "list" #[] e1)) I1 a1 fa (fun v e => by cases e)
  have hgs : s.heap.objs.size ≤ g1.objs.size := Nat.le_trans hfr (Nat.le_of_lt (Heap.lt_size a1))
  have fk : FpOk X ((a, seqObj "list" #[] e1) :: pins) H g1.objs.size := P1.fpOk (Nat.le_refl _) (I.hok.fresh hgs)
  have hka : g1.objs.size ≠ a := Nat.ne_of_gt (Heap.lt_size a1)
  have k2 : (g1.push (seqObj "list" #[] 0)).get? g1.objs.size = some (seqObj "list" #[] 0) := Heap.get?_push_size _ rfl
  have I2 : Inv X ((a, seqObj "list" #[] e1) :: pins) σ H { s with heap := g1.push (seqObj "list" #[] 0), toks := s.toks } := inv_more (s := { s with heap := g1, toks := s.toks }) P1 fun b o e => Heap.get?_push_of_some _ e
  have P2 := inv_pin (p := (g1.objs.size, seqObj "list" #[] 0)) I2 k2 fk (fun v e => by cases e)
  clear I1 P1 I2 k2
  generalize hkS : g1.objs.size = kS at *
  unfold ksk_tree
  refine wpAny_bind (listItems_at at1 rfl ?_)
  refine wpAny_bind (listUpdate_at at1 rfl ?_ (by rw [List.size_toArray]; exact hzi) (Nat.zero_le _))
  refine wpAny_bind (seqEpoch_at at2 rfl ?_)
  refine wpAny_bind (wpAny_newTuple ?_ hzi)
  refine wpAny_bind (wpAny_newList ?_ (Nat.zero_le _))
  refine wpAny_holding ?_
  have hkS' : (((PySem.W.copyHeap s.heap its).update a (Obj.mapSeq fun _ => (#[] : Array Value))).push { cls := .type "tuple", data := .seq its.toArray }).objs.size = kS := by rw [← hkS, hg1]
  rw [hkS']
  unfold ksk_rest
  refine wpAny_bind (wpAny_rule ?_)
  rw [List.forIn_toArray]
  refine wpAny_bind (ksk_fold (fun i s' => ∃ Hi kA e vs, Inv X ((kS, seqObj "list" kA e) :: (a, seqObj "list" #[] e1) :: pins) σ Hi s' ∧ Same H Hi ∧ Vals vs kA.toList ∧ Paired (KeyIs Hi) vs (ks.take i)) its 0 _
    ⟨H, #[], 0, [], by rw [hg1] at P2; exact P2, Same.refl _, .nil, by rw [List.take_zero]; exact .nil⟩ ?step ?done)
  case step =>
    rintro j x s' hx ⟨Hi, kA, e, vs, Ii, sm, vv, kp⟩
    simp only [Nat.zero_add] at kp ⊢
    obtain ⟨v, hv, rx⟩ := vals_at rv hx
    have hj : j < ks.length := by
      have := (List.getElem?_eq_some_iff.mp hv).1
      omega
    obtain ⟨kk, hkk⟩ : ∃ kk, ks[j]? = some kk := ⟨_, List.getElem?_eq_getElem hj⟩
    have hsz : kA.size ≤ its.length := by
      have h1 : vs.length = kA.toList.length := vv.length
      have h2 : vs.length = (ks.take j).length := Paired.length kp
      have h3 : xs.length = its.length := rv.length
      have h4 : kA.toList.length = kA.size := Array.length_toList
      have h5 : (ks.take j).length ≤ j := List.length_take_le ..
      omega
    refine wpAny_bind (wpAny_attempt (wpAny_mono (run_in2 (E := fun _ _ => False) F hr hb Ii rx (hs j v kk hv hkk Hi sm)) (fun u s2 he => ?_) fun _ _ hF => hF.elim))
    obtain ⟨vk, H2, I2, rk, sm2, ki⟩ := he
    try dsimp only
    obtain ⟨nk, hkn, _⟩ := I2.pin (kS, seqObj "list" kA e) (List.mem_append_right _ List.mem_cons_self)
    have s1 := Heap.SameBut.update s2.heap kS (Obj.mapSeq (·.push u))
    refine wpAny_bind (listUpdate_at nk rfl ?_ (Nat.le_trans hsz hzi) (by rw [Array.size_push]; omega))
    have I3 : Inv X ((a, seqObj "list" #[] e1) :: pins) σ H2 { s2 with heap := s2.heap.update kS (Obj.mapSeq (·.push u)), toks := s2.toks } :=
      (inv_unpin I2).turned (fun b o hb e => (s1.2 b hb).trans e) hkn fk.2.1 fk.2.2.2.1 fk.2.2.2.2.1 fk.2.2.2.2.2
    have P3 := inv_pin (p := (kS, seqObj "list" (kA.push u) _)) I3 (get?_update_seq nk (·.push u)) ⟨hkn, fk.2⟩ (fun v e => by cases e)
    refine wpAny_pure ⟨rfl, H2, kA.push u, _, vs ++ [vk], P3, sm.trans sm2, ?_, ?_⟩
    · rw [Array.toList_push]
      exact vals_snoc vv rk
    · rw [List.take_add_one, hkk]
      exact Paired.append (paired_mono (fun _ _ q => KeyIs.mono sm2 q) kp) (.cons ki .nil)
  case done =>
    rintro s' ⟨Hn, kA, e, vs, In, sm, vv, kp⟩
    have hlen := rv.length
    have ek : ks.take (0 + its.length) = ks := List.take_of_length_le (by omega)
    rw [ek] at kp
    obtain ⟨nk, hkn, _⟩ := In.pin (kS, seqObj "list" kA e) (List.mem_append_right _ List.mem_cons_self)
    obtain ⟨na, han, _⟩ := In.pin (a, seqObj "list" #[] e1) (List.mem_append_right _ (List.mem_cons_of_mem _ List.mem_cons_self))
    have hzip : (xs.zip ks).map (fun b => kdat b.2) = ks.map kdat := by
      have e2 : (xs.zip ks).map Prod.snd = ks := List.map_snd_zip (by omega)
      have e3 : (xs.zip ks).map (fun b => kdat b.2) = ((xs.zip ks).map Prod.snd).map kdat := by rw [List.map_map]; rfl
      rw [e3, e2]
    have hal : PySem.W.AllAlike (ks.map kdat) := by
      intro d hd d' hd'
      obtain ⟨x, _, rfl⟩ := List.mem_map.mp hd
      obtain ⟨y, _, rfl⟩ := List.mem_map.mp hd'
      simp [kdat, PySem.W.alike, PySem.W.alikeAll]
    have hso : PySem.W.Sortable (ks.map kdat) := .inl fun d hd => by
      obtain ⟨x, _, rfl⟩ := List.mem_map.mp hd
      exact ⟨_, _, rfl⟩
    have hrd := keys_reads In vv kp
    have hu : ∀ d, d ∈ ks.map kdat → X.A.in1.in1.units + d.depth < cLine := fun d hd => by
      obtain ⟨x, _, rfl⟩ := List.mem_map.mp hd
      have := hr.units
      show X.A.units + 1 + 1 + (kdat x).depth < cLine
      have : (kdat x).depth ≤ 4 := by simp [kdat, PyData.depth, PyData.depthAll]
      omega
    have hks : kA.size = its.length := by
      have h1 : vs.length = kA.toList.length := vv.length
      have h2 : vs.length = ks.length := Paired.length kp
      have h4 : kA.toList.length = kA.size := Array.length_toList
      omega
    obtain ⟨G, g1', g2'⟩ := restrict s'.heap fun b => decide (b ≠ kS)
    refine wpAny_bind (listItems_at nk rfl ?_)
    refine PySem.W.keyH_end (κ := PySem.W.dataKind s'.heap (ks.map kdat)) (h₁ := G) (fun b o _ q => ?_) (g2' kS (by simp)) nk na hka (PySem.W.SortsAt.data hrd hal hso hu) hks hzi fun h' tk c kb hD => ⟨rfl, ?_⟩
    · by_cases hb : b = kS
      · rw [hb, g2' kS (by simp)] at q
        cases q
      · rw [← g1' b (by simp [hb])]
        exact q
    have In0 := inv_unpin (inv_unpin In)
    have IG : Inv X pins σ Hn { s' with heap := G, toks := s'.toks } := In0.turned (it := kS) (fun b o hb q => by rw [g1' b (by simp [hb])]; exact q) hkn fk.2.1 fk.2.2.2.1 fk.2.2.2.2.1 (fun p hp => fk.2.2.2.2.2 p (by
      rcases List.mem_append.mp hp with hp | hp
      · exact List.mem_append_left _ hp
      · exact List.mem_append_right _ (List.mem_cons_of_mem _ hp)))
    have ko : PySem.W.KeyedOut false ((xs.zip ks).map fun b => kdat b.2) its (PySem.W.sortVals (PySem.W.dataKind s'.heap (ks.map kdat)) false kA.toList its) := ⟨s'.heap, kA.toList, by rw [hzip]; exact hal, by rw [hzip], by rw [hzip]; exact hrd⟩
    have ea := PySem.W.keyedOut_each (R := fun (u : Value) (b : V × (Int × Int)) => RelV b.1 u) (fun b => kdat b.2) ko (each_zip rv hk)
    have ele : PySem.W.dataLe false (fun b : V × (Int × Int) => kdat b.2) = fun p q => lexLe p.2 q.2 := by
      funext b c
      exact kdat_le (fun b : V × (Int × Int) => b.2) b c
    rw [ele] at ea
    have hlz : (((xs.zip ks).mergeSort fun p q => lexLe p.2 q.2).map (·.1)).length ≤ sizeLine := by
      rw [List.length_map, List.length_mergeSort, List.length_zip]
      omega
    have hob : ObjOk X.prog X.w (upd Hn a (.lst (((xs.zip ks).mergeSort fun p q => lexLe p.2 q.2).map (·.1)))) h' a (.lst (((xs.zip ks).mergeSort fun p q => lexLe p.2 q.2).map (·.1))) := ⟨hlz, _, c, each_vals ea, hD⟩
    have If := Inv.take (s := { s' with heap := G, toks := s'.toks }) (t' := tk) IG (fun b o hb q => kb b o hb q) ⟨han, fa.2⟩ hob
    exact ⟨.ref a, _, If, rfl, q a Hn sm han⟩
end
/-- a def of the module that may be a key of sorted -/
structure CalleeK (A : Amb) (ca : Nat → Addr) (x : Str) {U β : Type} (ts : Tys U) (τ : Ty β) (m : U → Rs β) : Prop where
  ex : ∃ (f : Addr) (fd : FuncData) (ps : List Str) (k : Nat), k + 1 ≤ A.k ∧ FnOk A.P A.w A.K A.mg A.base (L2.CX A.P A.w) k f fd ps (spOf A.K ca ts τ m) ∧ A.mg x = some (.ref f) ∧ PySem.W.keepIn A.K (.ref f) = true ∧ Binds A.K fd ps []
  db : (x == ("__debug__" : Str)) = false := by decide
variable {A : Amb} {ca : Nat → Addr}
theorem calleeK_blk {scope : Scope} {U β : Type} {x : Str} {τ' : Ty β} {ts : Tys U} {m : U → Rs β} (C : CalleeK A ca x ts τ' m) : CalleeK (A.blk scope) ca x ts τ' m := ⟨C.ex, C.db⟩
def keysM {α κ : Type} (key : α → Rs κ) : List α → Rs (List κ)
  | [] => .ok []
  | x :: r => (key x).bind fun k => (keysM key r).bind fun ks => .ok (k :: ks)
def srtK {α : Type} (key : α → Rs (Int × Int)) (xs : List α) : Rs (List α) := (nox (keysM key xs)).bind fun ks => .ok (((xs.zip ks).mergeSort fun p q => lexLe p.2 q.2).map (·.1))
theorem keysM_len {α κ : Type} {key : α → Rs κ} : ∀ {xs : List α} {ks : List κ}, keysM key xs = .ok ks → ks.length = xs.length ∧ ∀ (i : Nat) (x : α) (k : κ), xs[i]? = some x → ks[i]? = some k → key x = .ok k
  | [], ks, h => by
    cases h
    exact ⟨rfl, fun i x k h => by simp at h⟩
  | x :: r, ks, h => by
    unfold keysM at h
    cases hk : key x with
    | ok k =>
      rw [hk] at h
      simp only [Rs.bind] at h
      cases hr : keysM key r with
      | ok ks' =>
        rw [hr] at h
        cases h
        obtain ⟨h1, h2⟩ := keysM_len hr
        refine ⟨by simp [h1], fun i y k' hx hk' => ?_⟩
        cases i with
        | zero =>
          simp only [List.getElem?_cons_zero, Option.some.injEq] at hx hk'
          rw [← hx, ← hk']
          exact hk
        | succ i =>
          simp only [List.getElem?_cons_succ] at hx hk'
          exact h2 i y k' hx hk'
      | exc c => rw [hr] at h; cases h
      | bad => rw [hr] at h; cases h
    | exc c => rw [hk] at h; cases h
    | bad => rw [hk] at h; cases h
theorem paired_sort {α β κ : Type} {R : α → β → Prop} {le : κ → κ → Bool} {vs : List α} {as : List β} {ks : List κ} (h : Paired R vs as) (hk : ks.length = vs.length) : Paired R (((vs.zip ks).mergeSort fun p q => le p.2 q.2).map (·.1)) (((as.zip ks).mergeSort fun p q => le p.2 q.2).map (·.1)) := by
  obtain ⟨zs, h1, h2, h3⟩ : ∃ zs : List ((α × β) × κ), zs.map (fun z => (z.1.1, z.2)) = vs.zip ks ∧ zs.map (fun z => (z.1.2, z.2)) = as.zip ks ∧ ∀ z ∈ zs, R z.1.1 z.1.2 := by
    clear hk
    induction h generalizing ks with
    | nil => exact ⟨[], rfl, rfl, fun z hz => by simp at hz⟩
    | cons r _ ih =>
      cases ks with
      | nil => exact ⟨[], rfl, rfl, fun z hz => by simp at hz⟩
      | cons k ks =>
        obtain ⟨zs, h1, h2, h3⟩ := ih (ks := ks)
        refine ⟨((_, _), k) :: zs, by rw [List.map_cons, h1]; rfl, by rw [List.map_cons, h2]; rfl, fun z hz => ?_⟩
        rcases List.mem_cons.mp hz with rfl | hz
        · exact r
        · exact h3 z hz
  have e1 := List.map_mergeSort (r := fun z z' : (α × β) × κ => le z.2 z'.2) (s := fun p q : α × κ => le p.2 q.2) (f := fun z : (α × β) × κ => (z.1.1, z.2)) (l := zs) (fun _ _ _ _ => rfl)
  have e2 := List.map_mergeSort (r := fun z z' : (α × β) × κ => le z.2 z'.2) (s := fun p q : β × κ => le p.2 q.2) (f := fun z : (α × β) × κ => (z.1.2, z.2)) (l := zs) (fun _ _ _ _ => rfl)
  rw [← h1, ← h2, ← e1, ← e2, List.map_map, List.map_map]
  have h4 : ∀ z ∈ zs.mergeSort (fun z z' : (α × β) × κ => le z.2 z'.2), R z.1.1 z.1.2 := fun z hz => h3 z ((List.mergeSort_perm zs _).mem_iff.mp hz)
  generalize zs.mergeSort (fun z z' : (α × β) × κ => le z.2 z'.2) = ws at h4
  induction ws with
  | nil => exact .nil
  | cons w r ih => exact .cons (h4 w List.mem_cons_self) (ih fun z hz => h4 z (List.mem_cons_of_mem _ hz))
section
variable {S α : Type} {Γ : Cxt S} {τ : Ty α} {a : Expr} {pos p p2 p3 : Pos} {x y : Str} {f : S → Rs (List α)}
def rSortKD (F : Addr) (sp : Sp) : List V → List V → Hp → VK → Prop := fun vs zs H Q => ∃ (l : Addr) (xs : List V) (ks : List (Int × Int)), vs = [.ref l] ∧ zs = [.ref F] ∧ H l = some (.lst xs) ∧ ks.length = xs.length ∧
  (∀ (i : Nat) (v : V) (kk : Int × Int), xs[i]? = some v → ks[i]? = some kk → ∀ H1, Same H H1 → sp [v] H1 (fun u H2 => Same H1 H2 ∧ KeyIs H2 u kk) fun _ _ _ => False) ∧
  ∀ a H1, Same H H1 → H1 a = none → Q (.ref a) (upd H1 a (.lst (((xs.zip ks).mergeSort fun p q => lexLe p.2 q.2).map (·.1))))
theorem PL.sortedK {m : α → Rs (Int × Int)} (B : Blt A x (.builtin "sorted")) (C : CalleeK A ca y (.one τ) (tTup (.cons tI (.one tI))) m) (hg : GlA A y) (ha : BX A ca a Γ (cL τ) f) (h1 : star a = false := by rfl) : PL A ca (.Call (.Name x p) [a] [⟨some "key", .Name y p2, p3⟩] pos) Γ (cL τ) (fun s => (f s).bind (srtK m)) := by
  obtain ⟨ta, pa, qa⟩ := ha
  obtain ⟨fa, fd, ps, k, hk, F, hm, kp, hb⟩ := C.ex
  refine ⟨tCKw (rSortKD fa (spOf A.K ca (.one τ) (tTup (.cons tI (.one tI))) m)) (tCons ta tNil) (tCons (tC (.ref fa)) tNil), fun X hX => ?_, fun O σ H s Q hs hp => ?_⟩
  · have hcr : CallRK X (.builtin "sorted") [Str.ofString "key"] (rSortKD fa (spOf A.K ca (.one τ) (tTup (.cons tI (.one tI))) m)) := by
      intro pins s σ H vs zs us ws Q I rv rz h
      obtain ⟨l, xs, ks, rfl, rfl, h1, h2, h3, h4⟩ := h
      obtain rfl := Vals.ref1 rv
      obtain rfl := Vals.ref1 rz
      obtain ⟨prog, w, K, mg, base, N, sc, fn, nd, calm, room, pass, own, takes, top⟩ := hX
      exact sortedK_run (k := k) (fd := fd) (ps := ps) (by rw [prog, w, K, mg, base]; exact F) (room.mono hk) (by rw [K]; exact hb) I h1 h2 h3 h4
    exact pe_callBK hcr (hX.gl B.gl) (by rw [hX.mg]; exact B.mg) B.bt (pa_cons (pa X hX) pa_nil (star_each h1)) (pk_cons (pe_glob (hX.gl hg) (by rw [hX.mg]; exact hm) rfl C.db) pk_nil) B.nn B.db (by rw [star_each h1]; rfl) (by rw [star_each h1]; rfl)
  · refine qa O σ H s _ hs ((Rs.post_bind hp).mono (fun xs k2 l vs H1 s1 e z r => ?_) fun _ z => z)
    unfold srtK at k2
    cases hkm : keysM m xs with
    | exc c => rw [hkm] at k2; exact k2.elim
    | bad => rw [hkm] at k2; exact k2.elim
    | ok ks =>
      rw [hkm] at k2
      obtain ⟨hl, hkey⟩ := keysM_len hkm
      have hvl := Paired.length r
      refine ⟨l, vs, ks, rfl, rfl, e, by omega, fun i v kk hv hkk H2 s2 => ?_, fun q H2 s2 n => ?_⟩
      · obtain ⟨hi, _⟩ := List.getElem?_eq_some_iff.mp hkk
        obtain ⟨x', hx'⟩ : ∃ x', xs[i]? = some x' := ⟨_, List.getElem?_eq_getElem (by omega)⟩
        obtain ⟨v', hv', rv⟩ := Paired.get r hx'
        rw [hv] at hv'
        cases hv'
        have e1 := hkey i x' kk hx' hkk
        refine ⟨O, x', fun p hp => ?_, ⟨v, rfl, τ.mono (cut_grow s2) rv⟩, ?_⟩
        · have h0 := (hs.grow (s1.trans s2)).hid p hp
          exact h0
        · rw [e1]
          intro u H3 s3 rep
          obtain ⟨t, us, rfl, et, v1, r1, rfl, q1, v2, rfl, q2⟩ := rep
          refine ⟨s3, t, rfl, ?_⟩
          rw [show v1 = .int kk.1 from q1, show v2 = .int kk.2 from q2] at et
          exact cut_le _ _ et
      · have hle : (((vs.zip ks).mergeSort fun p q => lexLe p.2 q.2).map (·.1)).length ≤ sizeLine := by
          rw [List.length_map, List.length_mergeSort, List.length_zip]
          omega
        refine k2 q _ _ ((s1.trans s2).free n) ((s1.trans s2).trans (same_upd n)) upd_same hle ?_
        exact Paired.mono' (cut_new n) (paired_sort (Paired.mono' (cut_grow s2) r) (by omega))
end
end TL
/-! TL13: dict comprehensions whose keys are tuples. -/
namespace TL
open PySem PySem.Spec PyProof.Rows L2
section
variable {X : Cx}
/-- d[k] = v of a new dict, k a tuple -/
theorem set_tup {pins : List (Addr × Obj)} {σ : L2.St} {H : Hp} {s : Shared} {E : Value → Shared → Prop} {D b : Addr} {kvs : List (List L2.Key × V)} {ks : List L2.Key} {v : V} {u r : Value} {Q : Unit → Shared → Prop} (hu : X.A.units < cLine) (I : Inv X pins σ H s)
    (hD : H D = some (.dT kvs)) (hb : H b = some (.tup (ks.map kV))) (hz : kvs.length < sizeLine) (ry : RelV (.ref b) u) (rv : RelV v r) (h : ∀ s', Inv X pins σ (upd H D (.dT (putK kvs ks v))) s' → Q () s') : wpAny (model X.prog X.w) X.A (dictSet D u r) Q E s := by
  cases (show u = Value.ref b from ry)
  obtain ⟨z, hd, xs, rel, dd⟩ := dt_of I.hok hD
  have hl : (putK kvs ks v).length ≤ sizeLine := by
    have := length_putK kvs ks v
    omega
  refine wpAny_dictSet_heap (knd := tupleKind (mixKind X.prog X.w)) (hsz := by rw [← Paired.length rel]; exact z) hu (key_of I.hok hb) dd fun h' dd' same => h _ ?_
  obtain ⟨q, es, ep, hq, h2, h3, h4, _, h5⟩ := dd'
  exact d_write I (by rw [hD]; exact True.intro) same ⟨q, hq⟩ ⟨hl, hd, _, (rel.put ks hb rv).keeps fun c ys ec => by rw [upd_ne (ne_of ec hD (fun z => nomatch z))]; exact ec, q, es, ep, hq, h2, h3, h4, h5⟩
/-- {k: v for target in iter if ..}: D the new dict, its keys tuples -/
def tDcT (wi : TI) (g : TG) (tt : TT) (tk tv : TE) (vs : List Nat) : TE := fun σ H Q => wi σ H fun J H1 => ∀ D, H1 D = none → ∃ W : Nat → Nat → Hp → Prop, (∃ m, W 0 m (upd H1 D (.dT []))) ∧
  ∀ i m H, W i m H → (J.stop i H ∧ Q (.ref D) H) ∨ (J.go i H ∧ ∃ Nx : Hp → Prop, (∀ H', Nx H' → ∃ m', m' < m ∧ W (i + 1) m' H') ∧
    ∀ x H', J.yld i H x H' → g x (wipe σ vs) H' fun σ2 H2 => wipe σ2 vs = wipe σ vs ∧ tt σ2 H2 fun b H3 =>
      if b = true then tk σ2 H3 fun y H4 => tv σ2 H4 fun z H5 => ∃ kvs ks a, y = .ref a ∧ H5 a = some (.tup (ks.map kV)) ∧ H5 D = some (.dT kvs) ∧ kvs.length < sizeLine ∧ Nx (upd H5 D (.dT (putK kvs ks z))) else Nx H3)
theorem dcT_core {pins : List (Addr × Obj)} {s0 : Shared} {σ : L2.St} {H : Hp} {Q : VK} {kx vx tg iter : Expr} {ifs : List Expr} {scope : Scope} {own : List (Str × Nat)} {pos pos' : Pos} {wi : TI} {g : TG} {tt : TT} {tk tv : TE} {use : Option (Value → Sem Unit)} {Qf : Value → Shared → Prop} (calm : X.calm = true) (hu : X.A.units < cLine) (nd : X.N.Nodup) (I : Inv X pins σ H s0) (pi : PI X tg iter wi) (ok : BlkOk X.N X.env.scope scope own)
    (pg0 : ∀ (z : Shared) (G : Hp) (C : Addr) (cs : List (Str × Addr)) (fp : List Addr), PG (X.blk z G scope (compEnvC scope cs C X.env) fp) tg g)
    (pt0 : ∀ (z : Shared) (G : Hp) (C : Addr) (cs : List (Str × Addr)) (fp : List Addr), PTs (X.blk z G scope (compEnvC scope cs C X.env) fp) ifs tt)
    (pk0 : ∀ (z : Shared) (G : Hp) (C : Addr) (cs : List (Str × Addr)) (fp : List Addr), PE (X.blk z G scope (compEnvC scope cs C X.env) fp) kx tk)
    (pv0 : ∀ (z : Shared) (G : Hp) (C : Addr) (cs : List (Str × Addr)) (fp : List Addr), PE (X.blk z G scope (compEnvC scope cs C X.env) fp) vx tv)
    (fold : ∀ x, foldedSetIterable iter X.env x = pure x) (h : tDcT wi g tt tk tv (own.map (·.2)) σ H Q)
    (done : ∀ D C z m G, Inv X pins σ G z → Q (.ref D) G → z.heap.Ns C m → FpOk X pins G C → compPost (model X.prog X.w) X.A X.xe use Qf (.ref D) C (.ok .next) z) :
    wpAny (model X.prog X.w) X.A (comprehension (.DictComp kx vx [⟨tg, iter, ifs, 0⟩] scope pos) scope X.env pos' newDict false (eval iter X.env) use) Qf X.xe s0 := by
  have closed : ∀ y ∈ scope.names, y.2 = .free → ∃ c, X.env.cells.lookup y.1 = some c := fun y hy e => (ok.free y hy e).elim (fun k => I.ok.has _ (.inl k)) fun k => I.ok.has _ (.inr k)
  refine wpAny_comprehension_free (use := use) rfl fold (closure_ok closed) ok.kind (fun y hy e => by rw [ok.uniq y hy, e]) (thn (pi.run pins s0 σ H _ I h) fun xv sA hx => thn hx fun itv sB hB => ?_)
  obtain ⟨it, fp, tn, J, HB, rfl, IB, T, stB, fB, q⟩ := hB
  refine wpAny_newObj_type (newEnv_comp ?_)
  generalize hD : sB.heap.objs.size = D
  have nD : HB D = none := IB.hok.fresh (Nat.le_of_eq hD)
  obtain ⟨W, ⟨m0, w0⟩, turn⟩ := q D nD
  generalize hC : ({ sB with heap := sB.heap.push { cls := .type "dict", data := .dict #[] } } : Shared) = sC
  have hCh : sC.heap = sB.heap.push { cls := .type "dict", data := .dict #[] } := by rw [← hC]
  have IC : Inv X pins σ (upd HB D (.dT [])) sC := by
    subst hC
    exact IB.laid (t' := sB.toks) (fun b o e => Heap.get?_push_of_some _ e) (Nat.le_of_eq hD) (by rw [← hD]; exact dt_empty sB.heap IB.big)
  have low : ∀ b ∈ fp, b < sB.heap.objs.size := fun b hb => let ⟨_, e, _⟩ := T.obj _ _ stB b hb; Heap.lt_size e
  have fC : ∀ b ∈ fp, FpOk X pins (upd HB D (.dT [])) b ∧ b < sC.heap.objs.size := fun b hb => by
    have lt := low b hb
    refine ⟨⟨?_, (fB b hb).2⟩, by rw [hCh, Heap.size_push]; exact Nat.lt_succ_of_lt lt⟩
    rw [upd_ne (Nat.ne_of_lt (by rw [← hD]; exact lt))]
    exact (fB b hb).1
  have stC : tn 0 sC.heap := T.keep _ _ _ stB fun b _ o e => by rw [hCh]; exact Heap.get?_push_of_some _ e
  have ID := block_start IC ok nd fC
  obtain ⟨cs, hcs⟩ : ∃ cs, cs = cellsFrom (sC.heap.objs.size + 1) scope.names (cloFrom X.env.cells scope.names []) := ⟨_, rfl⟩
  obtain ⟨ce, hce⟩ : ∃ ce, ce = compEnvC scope cs sC.heap.objs.size X.env := ⟨_, rfl⟩
  obtain ⟨HC, hHC⟩ : ∃ HC, HC = upd HB D (.dT []) := ⟨_, rfl⟩
  have pg := pg0 sC HC sC.heap.objs.size cs fp
  have pt := pt0 sC HC sC.heap.objs.size cs fp
  have pk := pk0 sC HC sC.heap.objs.size cs fp
  have pv := pv0 sC HC sC.heap.objs.size cs fp
  rw [← hcs, ← hce, ← hHC] at ID
  rw [← hce] at pg pt pk pv
  rw [← hHC] at IC fC w0
  have cL : ce.locals = sC.heap.objs.size := by rw [hce]; rfl
  have nfp : ∀ b ∈ fp, HC b = none := fun b hb => (fC b hb).1.1
  show codeAny _ _ (.compStart (.DictComp kx vx [⟨tg, iter, ifs, 0⟩] scope pos) 0 (.ref it) (.ref D) (compEnvC scope (cellsFrom (sC.heap.objs.size + 1) scope.names (cloFrom X.env.cells scope.names [])) sC.heap.objs.size X.env)) (compPost (model X.prog X.w) X.A X.xe use Qf (.ref D) sC.heap.objs.size) { sC with heap := pushCells (sC.heap.push { cls := .type "dict", data := .dict #[] }) scope.names }
  rw [← hcs, ← hce]
  generalize hsD : ({ sC with heap := pushCells (sC.heap.push { cls := .type "dict", data := .dict #[] }) scope.names } : Shared) = sD at ID ⊢
  have stD : tn 0 sD.heap := T.keep _ _ _ stC fun b _ o e => by rw [← hsD]; exact pushCells_keeps _ _ _ _ (Heap.get?_push_of_some _ e)
  have stat : ∀ {σ' : L2.St} {H' : Hp} {s' : Shared}, Inv (X.blk sC HC scope ce fp) [] σ' H' s' → (∀ b ∈ fp, H' b = none) → ∀ b ∈ fp, FpOk (X.blk sC HC scope ce fp) [] H' b := fun I' hn b hb =>
    ⟨hn b hb, (I'.ok.exf b hb).1, I'.ok.exfs b hb, .inl hb, fun x c e => (I'.ok.exf b hb).2 x c e, fun p hp => absurd (show p ∈ ([] : List (Addr × Obj)) ++ [] from hp) (by simp)⟩
  refine codeAny_compStart_dict ?go (T.self X.A 0 _ _ _ stD ?go)
  refine compLoop_anyD (fun n z => ∃ i G, Inv (X.blk sC HC scope ce fp) [] (wipe σ (own.map (·.2))) G z ∧ tn i z.heap ∧ (∀ b ∈ fp, G b = none) ∧ W i n G) ?_ m0 ⟨0, HC, ID, stD, nfp, w0⟩
  rintro n z1 ⟨i, G1, J1, t1, n1, w1⟩
  rcases turn i n G1 w1 with ⟨stop, fin⟩ | ⟨go, Nx, hNx, step⟩
  · refine thnF (T.done (X.blk sC HC scope ce fp) rfl rfl rfl calm i [] z1 _ G1 (fun _ _ => False) J1 (stat J1 n1) t1 stop) fun r z2 ⟨hr, J2⟩ => ?_
    subst hr
    have back : Inv X pins σ G1 z2 := IC.call' (ch := fp) J2.os J2.base J2.hok J2.bare fun b hb => ⟨(fC b hb).1.2.2.2.1, (fC b hb).1.2.1, (fC b hb).1.2.2.2.2.1, (fC b hb).1.2.2.2.2.2⟩
    obtain ⟨m, hn, _⟩ := J2.loc
    have nC : G1 sC.heap.objs.size = none := by rw [← cL]; exact J2.free
    exact done D _ z2 m G1 back fin (by rw [← cL]; exact hn) (IC.fpOk (Nat.le_refl _) nC)
  · refine thnF (T.item (X.blk sC HC scope ce fp) rfl rfl rfl calm i [] z1 _ G1 (fun _ _ => False) J1 (stat J1 n1) t1 go) fun r z2 ⟨u, hr, h2⟩ => ?_
    subst hr
    refine thnF h2 fun _ z3 ⟨x, G3, J3, r3, y3, t3, n3⟩ => ?_
    have J3' := J3.pinned (stat J3 n3) (T.obj _ _ t3)
    refine thnF (pg.run _ z3 _ G3 x u _ J3' r3 (step x G3 y3)) fun _ z4 ⟨τ4, G4, J4, hw, q4⟩ => thnF (pt.run _ z4 τ4 G4 _ J4 q4) fun b z5 ⟨G5, J5, q5⟩ => ?_
    have over : ∀ {z' : Shared} {G' : Hp}, Inv (X.blk sC HC scope ce fp) ([] ++ pinsAt fp z3.heap) τ4 G' z' → Nx G' → ∃ m, m < n ∧ ∃ i G, Inv (X.blk sC HC scope ce fp) [] (wipe σ (own.map (·.2))) G z' ∧ tn i z'.heap ∧ (∀ b ∈ fp, G b = none) ∧ W i m G := fun {z' G'} J' nx => by
      obtain ⟨m', hm, w'⟩ := hNx G' nx
      have held : ∀ b ∈ fp, ∀ o, z3.heap.get? b = some o → z'.heap.get? b = some o ∧ G' b = none := fun b hb o e => by
        have zz := J'.pin (b, o) (List.mem_append_right _ (List.mem_append_right _ (mem_pinsAt hb e)))
        exact ⟨zz.1, zz.2.1⟩
      refine ⟨m', hm, i + 1, G', (J'.unpinned (pins := [])).weak (by rw [← hw, wipe_length]) (fun j v e => ?_), T.keep _ _ _ t3 fun b hb o e => (held b hb o e).1, fun b hb => ?_, w'⟩
      · rw [← hw] at e
        exact (wipe_some e).1
      · obtain ⟨o, e, _⟩ := T.obj _ _ t3 b hb
        exact (held b hb o e).2
    cases b with
    | false => exact over J5 q5
    | true =>
      refine thnF (pk.run _ z5 τ4 G5 _ J5 q5) fun c6 z6 ⟨y6, G6, J6, r6, q6⟩ => thnF (pv.run _ z6 τ4 G6 _ J6 q6) fun c7 z7 ⟨y7, G7, J7, r7, kvs, ks, a, ea, ek, eD, hz, nx⟩ => ?_
      subst ea
      exact set_tup (X := X.blk sC HC scope ce fp) hu J7 eD ek hz r6 r7 fun z8 J8 => over J8 nx
/-- .. as a value -/
theorem pe_dcT {kx vx tg iter : Expr} {ifs : List Expr} {scope : Scope} {own : List (Str × Nat)} {pos : Pos} {wi : TI} {g : TG} {tt : TT} {tk tv : TE} (calm : X.calm = true) (hu : X.A.units < cLine) (nd : X.N.Nodup) (pi : PI X tg iter wi) (ok : BlkOk X.N X.env.scope scope own)
    (pg0 : ∀ (z : Shared) (G : Hp) (C : Addr) (cs : List (Str × Addr)) (fp : List Addr), PG (X.blk z G scope (compEnvC scope cs C X.env) fp) tg g)
    (pt0 : ∀ (z : Shared) (G : Hp) (C : Addr) (cs : List (Str × Addr)) (fp : List Addr), PTs (X.blk z G scope (compEnvC scope cs C X.env) fp) ifs tt)
    (pk0 : ∀ (z : Shared) (G : Hp) (C : Addr) (cs : List (Str × Addr)) (fp : List Addr), PE (X.blk z G scope (compEnvC scope cs C X.env) fp) kx tk)
    (pv0 : ∀ (z : Shared) (G : Hp) (C : Addr) (cs : List (Str × Addr)) (fp : List Addr), PE (X.blk z G scope (compEnvC scope cs C X.env) fp) vx tv)
    (fold : ∀ x, foldedSetIterable iter X.env x = pure x := by intro _; rfl) : PE X (.DictComp kx vx [⟨tg, iter, ifs, 0⟩] scope pos) (tDcT wi g tt tk tv (own.map (·.2))) := by
  refine ⟨fun pins s0 σ H Q I h => ?_⟩
  rw [arm_eval_DictComp]
  refine dcT_core calm hu nd I pi ok pg0 pt0 pk0 pv0 fold h fun D C z m G I' q hn f => ⟨m, hn, fun h2 same => ?_⟩
  obtain ⟨f0, f1, _, f3, f4, f5⟩ := f
  exact ⟨.ref D, G, I'.turned (t' := z.toks) (fun b o hb e => (same.2 b hb).trans e) f0 f1 f3 f4 f5, rfl, q⟩
/-- name = {..} on one line, the name a local -/
theorem ps_setDcT {i : Nat} {y : Str} {py spos : Pos} {kx vx tg iter : Expr} {ifs : List Expr} {scope : Scope} {own : List (Str × Nat)} {pos : Pos} {wi : TI} {g : TG} {tt : TT} {tk tv : TE} (calm : X.calm = true) (hu : X.A.units < cLine) (nd : X.N.Nodup) (hN : X.N[i]? = some y) (hy : X.env.scope.names.lookup y = some .local)
    (sw : swapsWith (.DictComp kx vx [⟨tg, iter, ifs, 0⟩] scope pos) (some (.Name y py)) spos.line X.env = pure true) (pi : PI X tg iter wi) (ok : BlkOk X.N X.env.scope scope own)
    (pg0 : ∀ (z : Shared) (G : Hp) (C : Addr) (cs : List (Str × Addr)) (fp : List Addr), PG (X.blk z G scope (compEnvC scope cs C X.env) fp) tg g)
    (pt0 : ∀ (z : Shared) (G : Hp) (C : Addr) (cs : List (Str × Addr)) (fp : List Addr), PTs (X.blk z G scope (compEnvC scope cs C X.env) fp) ifs tt)
    (pk0 : ∀ (z : Shared) (G : Hp) (C : Addr) (cs : List (Str × Addr)) (fp : List Addr), PE (X.blk z G scope (compEnvC scope cs C X.env) fp) kx tk)
    (pv0 : ∀ (z : Shared) (G : Hp) (C : Addr) (cs : List (Str × Addr)) (fp : List Addr), PE (X.blk z G scope (compEnvC scope cs C X.env) fp) vx tv)
    (fold : ∀ x, foldedSetIterable iter X.env x = pure x) : PS X (.Assign [.Name y py] (.DictComp kx vx [⟨tg, iter, ifs, 0⟩] scope pos) spos) (tAsg (tDcT wi g tt tk tv (own.map (·.2))) (gName i)) := by
  refine ⟨fun pins s0 σ H D I h => ?_⟩
  rw [exec_Assign_Name_used _ _ _ _ sw]
  refine wpAny_bind (wpAny_standAt (wpAny_bind ?_))
  show wpAny _ X.A (do let _ ← comprehension (.DictComp kx vx [⟨tg, iter, ifs, 0⟩] scope pos) scope X.env (firstIterPos [⟨tg, iter, ifs, 0⟩] pos) newDict false (eval iter X.env) (some (assign (.Name y py) X.env))) _ _ s0
  have h : tDcT wi g tt tk tv (own.map (·.2)) σ H (fun x G => gName i x σ G D.nx) := h
  refine wpAny_bind (thn (dcT_core (Qf := fun _ z => SP X pins D .next z) calm hu nd I pi ok pg0 pt0 pk0 pv0 fold h fun L C z m G I' q hn f => ?_) fun _ z hq => wpAny_pure (wpAny_pure hq))
  show wpAny _ _ (assign (.Name y py) X.env (.ref L)) _ _ _
  obtain ⟨f0, f1, _, f3, f4, f5⟩ := f
  refine wpAny_assign_Name (store_ok2 (v := V.ref L) I' nd hN (.inl hy) rfl (fun z2 I2 ⟨a, sb, at_⟩ => ?_) (.inr hy))
  have ne : C ≠ a := fun e => at_.elim (fun u => f1 (e.trans u)) fun u => f4 y a u e.symm
  exact ⟨m, hn.sameBut sb ne, fun h3 sb3 => ⟨_, G, I2.turned (t' := z2.toks) (fun b o hb e => (sb3.2 b hb).trans e) f0 f1 f3 f4 f5, q⟩⟩
theorem sw_trueD {kx vx : Expr} {gs : List Comprehension} {scope : Scope} {pos py : Pos} {y : Str} {l : Nat} {env : Env} (hk : env.scope.kind = .function) (hy : env.scope.names.lookup y = some .local) (hl : (py.line == pos.line) = true)
    (hn : (scope.names.any fun (n, k) => n == y && (k == .local || k == .cell)) = false) : swapsWith (.DictComp kx vx gs scope pos) (some (.Name y py)) l env = pure true := by
  have ky : env.kindOf y = some .local := hy
  have bk : env.blockKind = .function := by
    unfold Env.blockKind
    rw [hk]
    rfl
  unfold swapsWith
  simp only [bk, ky, hn, Expr.pos, hl]
  rfl
end
end TL
/-! TL14: dicts whose keys are pairs of ints; the truth of lists; two names at once. -/
namespace TL
open PySem PySem.Spec PyProof.Rows L2
variable {A : Amb} {ca : Nat → Addr}
theorem paired_append {α β : Type} {R : α → β → Prop} {as cs : List α} {bs ds : List β} (h : Paired R as bs) (h' : Paired R cs ds) : Paired R (as ++ cs) (bs ++ ds) := by
  induction h with
  | nil => exact h'
  | cons r _ ih => exact .cons r ih
/-! ### keys -/
def pk (k : Int × Int) : List L2.Key := [.inl k.1, .inl k.2]
theorem pk_inj {a b : Int × Int} : pk a = pk b ↔ a = b := by
  unfold pk
  constructor
  · intro h
    simp only [List.cons.injEq, Sum.inl.injEq] at h
    exact Prod.ext h.1 h.2.1
  · intro h
    rw [h]
theorem pk_V (k : Int × Int) : (pk k).map kV = [.int k.1, .int k.2] := rfl
def putA {α : Type} (as : List ((Int × Int) × α)) (k : Int × Int) (a : α) : List ((Int × Int) × α) :=
  if (as.any fun q => decide (q.1 = k)) = true then as.map (fun q => if q.1 = k then (q.1, a) else q) else as ++ [(k, a)]
def getA {α : Type} (as : List ((Int × Int) × α)) (k : Int × Int) : Option α := (as.find? fun q => decide (q.1 = k)).map (·.2)
def DRel {α : Type} (τ : Ty α) (K : PySem.W.Frag) (H : Hp) (p : List L2.Key × V) (a : (Int × Int) × α) : Prop := p.1 = pk a.1 ∧ τ.rep K H p.2 a.2
theorem DRel.mono {α : Type} {τ : Ty α} {K : PySem.W.Frag} {H H' : Hp} (s : Same H H') {kvs : List (List L2.Key × V)} {as : List ((Int × Int) × α)} (h : Paired (DRel τ K H) kvs as) : Paired (DRel τ K H') kvs as :=
  paired_mono (fun _ _ q => ⟨q.1, τ.mono s q.2⟩) h
section
variable {α : Type} {τ : Ty α} {K : PySem.W.Frag} {H : Hp} {kvs : List (List L2.Key × V)} {as : List ((Int × Int) × α)}
theorem drel_any (h : Paired (DRel τ K H) kvs as) (k : Int × Int) : (kvs.any fun q => decide (q.1 = pk k)) = as.any fun q => decide (q.1 = k) := by
  induction h with
  | nil => rfl
  | cons r _ ih =>
    rw [List.any_cons, List.any_cons, ih, r.1]
    congr 1
    exact decide_eq_decide.mpr pk_inj
theorem drel_put (h : Paired (DRel τ K H) kvs as) (k : Int × Int) {v : V} {a : α} (r : τ.rep K H v a) : Paired (DRel τ K H) (putK kvs (pk k) v) (putA as k a) := by
  unfold putK putA
  rw [drel_any h k]
  split
  · have key : ∀ {kvs : List (List L2.Key × V)} {as : List ((Int × Int) × α)}, Paired (DRel τ K H) kvs as → Paired (DRel τ K H) (kvs.map fun kv => if kv.1 = pk k then (kv.1, v) else kv) (as.map fun q => if q.1 = k then (q.1, a) else q) := fun h => by
      induction h with
      | nil => exact .nil
      | @cons p q ps qs r1 _ ih =>
        refine .cons ?_ ih
        dsimp only
        by_cases e : q.1 = k
        · rw [if_pos e, if_pos (by rw [r1.1, e])]
          exact ⟨r1.1, r⟩
        · rw [if_neg e, if_neg (by rw [r1.1]; exact fun z => e (pk_inj.mp z))]
          exact r1
    exact key h
  · exact paired_append h (.cons ⟨rfl, r⟩ .nil)
theorem drel_get (h : Paired (DRel τ K H) kvs as) (k : Int × Int) : (valV kvs (pk k)).isSome = (getA as k).isSome ∧ ∀ a, getA as k = some a → ∃ v, valV kvs (pk k) = some v ∧ τ.rep K H v a := by
  induction h with
  | nil => exact ⟨rfl, fun a e => by cases e⟩
  | @cons p q ps qs r1 _ ih =>
    by_cases e : q.1 = k
    · have e1 : p.1 = pk k := by rw [r1.1, e]
      rw [valV_pos e1]
      have e2 : getA (q :: qs) k = some q.2 := by simp [getA, List.find?_cons, e]
      rw [e2]
      refine ⟨rfl, fun a h => ?_⟩
      cases h
      exact ⟨_, rfl, r1.2⟩
    · have e1 : ¬ p.1 = pk k := by rw [r1.1]; exact fun z => e (pk_inj.mp z)
      rw [valV_neg e1]
      have e2 : getA (q :: qs) k = getA qs k := by simp [getA, List.find?_cons, e]
      rw [e2]
      exact ih
theorem putA_len (as : List ((Int × Int) × α)) (k : Int × Int) (a : α) : (putA as k a).length ≤ as.length + 1 := by
  unfold putA
  split
  · rw [List.length_map]; omega
  · rw [List.length_append]; simp
end
/-- a dict from pairs of ints -/
def tD {α : Type} (τ : Ty α) : Ty (List ((Int × Int) × α)) := ⟨fun K H v as => ∃ p kvs, v = .ref p ∧ H p = some (.dT kvs) ∧ kvs.length ≤ sizeLine ∧ Paired (DRel τ K H) kvs as,
  fun s ⟨p, kvs, e, q, z, r⟩ => ⟨p, kvs, e, s _ _ q, z, DRel.mono s r⟩⟩
def cD {α : Type} (τ : Ty α) : Cd (List ((Int × Int) × α)) := ⟨fun K H kvs as => Paired (DRel τ K H) kvs as, fun s h => DRel.mono s h⟩
section
variable {ρ S S' S'' L α β γ U : Type} {Γ : Cxt S} {Γ' : Cxt S'} {Γ'' : Cxt S''} {Γl : Cxt L} {rr : Rr ρ} {τ : Ty α} {τ' : Ty β} {c : Ct α} {e a b d tg iter : Expr} {pos p p2 py : Pos} {x y : Str} {st : Stmt} {sts : List Stmt} {i : Nat}
/-- d[k] -/
theorem PX.getD {f : S → Rs (List ((Int × Int) × α))} {g : S → Rs (Int × Int)} (hs : NoSl b) (ha : PX A ca a Γ (tD τ) f) (hb : PX A ca b Γ (tTup (.cons tI (.one tI))) g) : PX A ca (.Subscript a b pos) Γ τ (fun s => (f s).bind fun d => (g s).bind fun k => Rs.ofOpt (getA d k)) := by
  obtain ⟨ta, pa, qa⟩ := ha
  obtain ⟨tb, pb, qb⟩ := hb
  refine ⟨tDGet ta tb, fun X hX => pe_dget (by have := hX.room.un; omega) (pa X hX) (pb X hX) hs, fun O σ H s Q h0 hp => PX.two (k := fun d k => Rs.ofOpt (getA d k)) qa qb h0 hp fun d k v u H2 sm r1 r2 kk => ?_⟩
  obtain ⟨q, kvs, rfl, e, z, r⟩ := r1
  obtain ⟨t, us, rfl, et, v1, r1, rfl, q1, v2, rfl, q2⟩ := r2
  rw [show v1 = .int k.1 from q1, show v2 = .int k.2 from q2] at et
  obtain ⟨y, ey, kk⟩ := Rs.post_ofOpt kk
  obtain ⟨w, ew, rw'⟩ := (drel_get r k).2 y ey
  exact ⟨q, w, rfl, by rw [← ew]; exact DGet.t (cut_le _ _ e) (cut_le _ _ et), kk w H2 sm rw'⟩
/-- k not in d, d a slot's own dict -/
theorem PB.notInDo {f : S → Rs (Int × Int)} {g : S → List ((Int × Int) × β)} (ha : PX A ca a Γ (tTup (.cons tI (.one tI))) f) (hb : At Γ i (.ownD (cD τ')) g) (hN : A.N[i]? = some x) (hv : Vis A.sc x) (hd : (x == ("__debug__" : Str)) = false := by decide) (hcd : (x == ("__classdict__" : Str)) = false := by decide) :
    PB A ca (.Compare a [.NotIn] [.Name x p] pos) Γ (fun s => (f s).bind fun k => .ok (!(getA (g s) k).isSome)) := by
  obtain ⟨ta, pa, qa⟩ := ha
  refine ⟨L2.tB (tDNotIn ta (tVar i)), fun X hX => pt_cmp (pc_dnotin (by have := hX.room.un; omega) (pa X hX) (pe_var (by rw [hX.N]; exact hN) (by rw [hX.sc]; exact hv) hd hcd)) rfl, fun O σ H s Q h0 hp => qa O σ H s _ h0 ((Rs.post_bind hp).mono (fun k kq v H1 s1 r => ?_) fun _ z => z)⟩
  obtain ⟨t, us, rfl, et, v1, r1, rfl, q1, v2, rfl, q2⟩ := r
  rw [show v1 = .int k.1 from q1, show v2 = .int k.2 from q2] at et
  obtain ⟨⟨Og, h1, h2⟩, h3⟩ := h0.grow s1
  obtain ⟨xv, Oi, e1, e2, q, kvs, rfl, rfl, e4, z4, r4⟩ := hb.val h2
  refine ⟨.ref q, e1, q, valV kvs (pk k), rfl, DGet.t e4 (cut_le _ _ et), _, rfl, ?_⟩
  rw [(drel_get r4 k).1]
  exact kq H1 s1
/-- the truth of a list -/
theorem PB.truth {f : S → Rs (List α)} (h : BX A ca e Γ (cL τ) f) (he : ∀ env whole, isTrue e env whole = (do let v ← whole; standAt e.pos; holding [v] (truthy v))) : PB A ca e Γ (fun s => (f s).bind fun xs => .ok (!xs.isEmpty)) := by
  obtain ⟨t, ht, q⟩ := h
  refine ⟨fun σ H Q => t σ H fun x H' => ∃ k, TruV A.K x H' k ∧ Q k H', fun X hX => by rw [← hX.K]; exact pt_truth (ht X hX) (he X.env), fun O σ H s Q hs hp => q O σ H s _ hs ((Rs.post_bind hp).mono (fun xs k p vs H' sm e z r => ?_) fun _ z => z)⟩
  refine ⟨_, .inl ⟨vs, .inl (.inl e), rfl⟩, ?_⟩
  have : (!vs.isEmpty) = !xs.isEmpty := by
    have h : Paired (τ.rep A.K (cut H' O)) vs xs := r
    cases h <;> rfl
  rw [this]
  exact k H' sm
/-- list(d) -/
theorem PL.listD {f : S → Rs (List ((Int × Int) × α))} (B : Blt A x (.type "list")) (ha : PX A ca a Γ (tD τ) f) (hs : star a = false := by rfl) : PL A ca (.Call (.Name x p) [a] [] pos) Γ (cL (tTup (.cons tI (.one tI)))) (fun s => (f s).bind fun d => .ok (d.map (·.1))) := by
  obtain ⟨ta, pa, qa⟩ := ha
  refine ⟨_, fun X hX => callT1 hX B (call_list_dT hX.calm) (pa X hX) hs, fun O σ H s Q h0 hp => qa O σ H s _ h0 ((Rs.post_bind hp).mono (fun d k v H1 s1 r => ?_) fun _ z => z)⟩
  obtain ⟨q, kvs, rfl, e, z, r⟩ := r
  refine ⟨q, kvs, rfl, .inl (cut_le _ _ e), fun l bs n ik => ?_⟩
  have hlen : (bs.map V.ref).length ≤ sizeLine := by
    rw [List.length_map, ← Paired.length ik]
    exact z
  refine k l (bs.map V.ref) _ (s1.free n) (s1.trans (same_upd n)) upd_same hlen ?_
  have hid := (h0.grow s1).hid
  have key : ∀ {kvs : List (List L2.Key × V)} {bs : List Addr} {d : List ((Int × Int) × α)}, IsKeys H1 kvs bs → Paired (DRel τ A.K (cut H1 O)) kvs d → Paired ((tTup (.cons tI (.one tI))).rep A.K (cut (upd H1 l (.lst (bs.map V.ref))) (l :: O))) (bs.map V.ref) (d.map (·.1)) := fun {kvs bs d} h1 h2 => by
    have gen : ∀ {G : Hp} {kvs : List (List L2.Key × V)} {bs : List Addr} {d : List ((Int × Int) × α)}, (∀ b us, H1 b = some (.tup us) → G b = some (.tup us)) → IsKeys H1 kvs bs → Paired (DRel τ A.K (cut H1 O)) kvs d → Paired ((tTup (.cons tI (.one tI))).rep A.K G) (bs.map V.ref) (d.map (·.1)) := fun {G kvs bs d} hG h1 h2 => by
      induction h2 generalizing bs with
      | nil => cases h1; exact .nil
      | cons r2 _ ih =>
        cases h1 with
        | cons r1 r1' =>
          refine .cons ?_ (ih r1')
          rw [r2.1, pk_V] at r1
          exact ⟨_, _, rfl, hG _ _ r1, _, _, rfl, rfl, _, rfl, rfl⟩
    refine gen (fun b us eb => ?_) h1 h2
    have b1 : b ≠ l := ne_of_none eb n
    have b2 : b ∉ O := fun z => by
      obtain ⟨o, e1, e2⟩ := hid b z
      rw [eb] at e1
      cases e1
      exact e2 _ rfl
    rw [cut_out (by simp [b1, b2]), upd_ne b1]
    exact eb
  exact key ik r
/-! ### a dict that a slot owns is written -/
theorem RSo.writeD {K : PySem.W.Frag} {F : Fm} {L : Lo} {R : Mn} {Og : List Addr} {σ : L2.St} {H : Hp} {s : S} {c : Cd β} {g : S → β} {put : S → β → S} (h : RSo K F L R Og Γ σ H s) (hw : WrD Γ i c g put) :
    ∃ q vs, σ[i]? = some (some (.ref q)) ∧ H q = some (.dT vs) ∧ vs.length ≤ sizeLine ∧ c.rep K (cut H (hid F L Og)) vs (g s) ∧
      ∀ (ws : List (List L2.Key × V)) (b : β), ws.length ≤ sizeLine → c.rep K (cut H (hid F L Og)) ws b → RSo K F L R Og Γ σ (upd H q (.dT ws)) (put s b) := by
  obtain ⟨q, vs, e1, e2, e3, z3, r, hq⟩ := hw.write h.rep (List.nodup_append.mp h.nd).2.1
  have hO : q ∈ hid F L Og := List.mem_append_right _ (List.mem_append_right _ e2)
  have hL : ∀ x ∈ L, x.1 ≠ q := fun x hx e => (List.nodup_append.mp h.nd).2.2 x.1 (List.mem_map.mpr ⟨x, hx, rfl⟩) q e2 e
  refine ⟨q, vs, e1, e3, z3, r, fun ws b hz hd => ?_⟩
  have nw := hq ws b hz hd
  have hn : ∀ p, Hidn H p → Hidn (upd H q (.dT ws)) p := fun p hp => by
    by_cases e : p = q
    · rw [e]; exact Hidn.dT upd_same
    · obtain ⟨o, h1, h2⟩ := hp
      exact ⟨o, by rw [upd_ne e]; exact h1, h2⟩
  refine ⟨by rw [cut_upd hO]; exact nw, by rw [cut_upd hO]; exact h.rs, h.nd, fun p hp => ⟨(h.ow p hp).1, (h.ow p hp).2.1, hn p (h.ow p hp).2.2⟩, fun x hx => by rw [upd_ne (hL x hx)]; exact h.lo x hx, fun b o e hb => ?_, h.hb, fun p hp => hn p (h.hi p hp)⟩
  have : b ≠ q := fun z => by
    rw [z] at e hb
    rcases (h.ow q (List.mem_append_right _ e2)).1 with n | n
    · rw [e] at n; cases n
    · exact hb n
  rw [upd_ne this]
  exact h.fr b o e hb
/-- d[k] = e -/
theorem SX.setDo {f : S → Rs α} {g : S → List ((Int × Int) × α)} {put : S → List ((Int × Int) × α) → S} {fi : S → Rs (Int × Int)} {xp xp2 : Pos} (he : PX A ca e Γ τ f) (hw : WrD Γ i (cD τ) g put) (hN : A.N[i]? = some x) (hv : Vis A.sc x) (hix : PX A ca b Γ (tTup (.cons tI (.one tI))) fi)
    (hs : ∀ env, swapsWith e (some (.Subscript (.Name x xp) b xp2)) pos.line env = pure false := by intro _; rfl) (hd : (x == ("__debug__" : Str)) = false := by decide) (hcd : (x == ("__classdict__" : Str)) = false := by decide) :
    SX A ca (.Assign [.Subscript (.Name x xp) b xp2] e pos) Γ Γ Γl rr (fun s => (f s).bind fun r => (fi s).bind fun k => Rs.guard (decide ((g s).length < sizeLine)) (.ok (.nx (put s (putA (g s) k r))))) := by
  obtain ⟨t, ht, q⟩ := he
  obtain ⟨ti, hti, qi⟩ := hix
  refine ⟨_, fun X hX => ps_dput (by have := hX.room.un; omega) (pe_var (i := i) (by rw [hX.N]; exact hN) (by rw [hX.sc]; exact hv) hd hcd) (hti X hX) (ht X hX) (hs X.env), fun F R σ H s D ⟨Og, h0⟩ hp => q _ σ H s _ h0.sx ((Rs.post_bind hp).mono (fun r k v H1 s1 rv => ?_) fun _ z => z.exw h0.fr)⟩
  have h1 := h0.grow s1
  obtain ⟨l, vs, e1, _, _, _, _⟩ := h1.writeD hw
  refine ⟨.ref l, e1, qi _ σ H1 s _ h1.sx ((Rs.post_bind k).mono (fun j kj u H2 s2 ru => ?_) fun _ z => z.exw h1.fr)⟩
  obtain ⟨hc, kj⟩ := Rs.post_guard kj
  have h2 := h1.grow s2
  obtain ⟨l2, vs2, e12, e32, z32, r32, hwr⟩ := h2.writeD hw
  have : l2 = l := by rw [e1] at e12; simpa using e12.symm
  subst this
  obtain ⟨t2, us, rfl, et, v1, r1, rfl, q1, v2, rfl, q2⟩ := ru
  rw [show v1 = .int j.1 from q1, show v2 = .int j.2 from q2] at et
  have hlen : vs2.length = (g s).length := Paired.length (show Paired _ vs2 (g s) from r32)
  have hlt : vs2.length < sizeLine := by rw [hlen]; exact of_decide_eq_true hc
  refine ⟨l2, _, rfl, DPut.t e32 (k := pk j) (cut_le _ _ et) hlt, ?_⟩
  have hz : (putK vs2 (pk j) v).length ≤ sizeLine := by
    have := length_putK vs2 (pk j) v
    omega
  exact kj σ _ ⟨Og, hwr _ _ hz (drel_put r32 j (τ.mono (cut_grow s2) rv))⟩
end
end TL
/-! TL15: two names at once that own what they get; dict comprehensions. -/
namespace TL
open PySem PySem.Spec PyProof.Rows L2
variable {A : Amb} {ca : Nat → Addr}
section
variable {ρ S S' S'' L α β γ U : Type} {Γ : Cxt S} {Γ' : Cxt S'} {Γ'' : Cxt S''} {Γl : Cxt L} {rr : Rr ρ} {τ : Ty α} {τ' : Ty β} {c : Ct α} {c' : Ct β} {e a b d tg iter : Expr} {pos p p2 py : Pos} {x y : Str} {st : Stmt} {sts : List Stmt} {i j : Nat}
/-- x, y = [..], [..] -/
theorem SX.parLL {px pyy pt pt2 : Pos} {kt k2 : Nat} {f : S → Rs α} {g : S → Rs β} {S3 : Type} {Γ3 : Cxt S3} {put : S → β → S''} {put2 : S'' → α → S3} (hi : A.N[i]? = some x) (hj : A.N[j]? = some y) (hij : i ≠ j) (hx : A.sc.names.lookup x = some .local) (hy : A.sc.names.lookup y = some .local)
    (ha : PL A ca a Γ c f) (hb : PL A ca b Γ c' g) (hp : Put Γ j (.own none c') Γ'' put) (hp2 : Put Γ'' i (.own none c) Γ3 put2) (hw : ∀ X, A.In X → swappedStores [.Tuple [.Name x px, .Name y pyy] kt pt] (.Tuple [a, b] k2 pt2) X.env = pure (some [x, y])) (h1 : star a = false := by rfl) (h2 : star b = false := by rfl) :
    SX A ca (.Assign [.Tuple [.Name x px, .Name y pyy] kt pt] (.Tuple [a, b] k2 pt2) pos) Γ Γ3 Γl rr (fun s => (f s).bind fun u => (g s).bind fun v => .ok (.nx (put2 (put s v) u))) := by
  obtain ⟨ta, pa, qa⟩ := ha
  obtain ⟨tb, pb, qb⟩ := hb
  refine ⟨_, fun X hX => ps_par hX.calm (by rw [hX.N]; exact hX.nd) (by rw [hX.N]; exact hi) (by rw [hX.N]; exact hj) hij (by rw [hX.sc]; exact hx) (by rw [hX.sc]; exact hy) (pa_cons (pa X hX) (pa_cons (pb X hX) pa_nil (star_each h2)) (star_each h1)) (hw X hX), fun F R σ H s D ⟨Og, h0⟩ hq => ?_⟩
  refine qa _ σ H s _ h0.sx ((Rs.post_bind hq).mono (fun u ku q1 vs1 H1 n1 s1 e1 z1 r1 => ?_) fun _ z => z.exw h0.fr)
  have l1 := h0.loose (R' := Mn.lst A.K c vs1 u) n1 s1 e1 r1
  refine qb _ σ H1 s _ l1.sx ((Rs.post_bind ku).mono (fun v kv q2 vs2 H2 n2 s2 e2 z2 r2 => ?_) fun _ z => z.exw l1.fr)
  have l2 := l1.loose (R' := Mn.lst A.K c' vs2 v) n2 s2 e2 r2
  refine ⟨_, _, rfl, ?_⟩
  obtain ⟨Og2, m1⟩ := l2.storeO (R' := R.and (Mn.lst A.K c vs1 u)) hp z2 (fun G z => z.2) fun G z => z.1
  have m2 := m1.storeO (R' := R) hp2 z1 (fun G z => z.2) fun G z => z.1
  rw [List.set_comm _ _ (Ne.symm hij)] at m2
  exact kv _ _ m2
/-- a new dict goes to a slot -/
theorem RSo.storeD {K : PySem.W.Frag} {F : Fm} {L : Lo} {R : Mn} {Og : List Addr} {σ : L2.St} {H : Hp} {s : S} {c : Cd β} {q : Addr} {b : β} {put : S → β → S'} (h : RSo K F L R Og Γ σ H s) (n : H q = none) (hp : Put Γ i (.ownD c) Γ' put) (hk : ∀ G, c.rep K G [] b) :
    ∃ Og2, (∀ z ∈ Og2, z ∈ q :: Og) ∧ RSo K F L R Og2 Γ' (σ.set i (some (.ref q))) (upd H q (.dT [])) (put s b) := by
  have hq : q ∉ hid F L Og := fun z => (h.hidden q z).ne n
  have key : Same (cut H (hid F L Og)) (cut (upd H q (.dT [])) (q :: hid F L Og)) := cut_new n
  have rep : Γ.rep K (cut (upd H q (.dT [])) (q :: hid F L Og)) (upd H q (.dT [])) σ Og s := Γ.mono key (fun z _ o e => same_upd n _ _ e) h.rep
  obtain ⟨Oa, Oi, Ob, rfl, r⟩ := hp.set (x := some (.ref q)) (Ox := [q]) (b := b) rep ⟨q, [], rfl, rfl, upd_same, Nat.zero_le _, hk _⟩
  have hin : ∀ z ∈ L.map (·.1) ++ (Oa ++ ([q] ++ Ob)), z ∈ q :: (L.map (·.1) ++ (Oa ++ (Oi ++ Ob))) := fun z hz => by
    simp only [List.mem_append, List.mem_cons, List.mem_nil_iff, or_false] at hz ⊢
    rcases hz with y | y | y | y
    · exact .inr (.inl y)
    · exact .inr (.inr (.inl y))
    · exact .inl y
    · exact .inr (.inr (.inr (.inr y)))
  have sub : ∀ z ∈ hid F L (Oa ++ ([q] ++ Ob)), z ∈ q :: hid F L (Oa ++ (Oi ++ Ob)) := fun z hz => by
    rcases List.mem_append.mp hz with y | y
    · exact List.mem_cons_of_mem _ (List.mem_append_left _ y)
    · rcases List.mem_cons.mp (hin z y) with y | y
      · rw [y]; exact List.mem_cons_self
      · exact List.mem_cons_of_mem _ (List.mem_append_right _ y)
  have sm : Same (cut (upd H q (.dT [])) (q :: hid F L (Oa ++ (Oi ++ Ob)))) (cut (upd H q (.dT [])) (hid F L (Oa ++ ([q] ++ Ob)))) := cut_sub sub
  have nqL : q ∉ L.map (·.1) ++ (Oa ++ (Oi ++ Ob)) := fun z => hq (List.mem_append_right _ z)
  have nd : (L.map (·.1) ++ (Oa ++ ([q] ++ Ob))).Nodup := by
    have nd0 : (q :: (L.map (·.1) ++ (Oa ++ (Oi ++ Ob)))).Nodup := List.nodup_cons.mpr ⟨nqL, h.nd⟩
    have hperm : (q :: (L.map (·.1) ++ (Oa ++ Ob))).Perm (L.map (·.1) ++ (Oa ++ ([q] ++ Ob))) := by
      have h1 : (L.map (·.1) ++ (Oa ++ ([q] ++ Ob))) = (L.map (·.1) ++ Oa) ++ q :: Ob := by simp
      have h2 : (q :: (L.map (·.1) ++ (Oa ++ Ob))) = q :: ((L.map (·.1) ++ Oa) ++ Ob) := by simp
      rw [h1, h2]
      exact List.perm_middle.symm
    refine hperm.nodup (List.Sublist.nodup ?_ nd0)
    exact ((List.Sublist.refl _).append ((List.Sublist.refl Oa).append (List.sublist_append_right Oi Ob))).cons_cons q
  have nI : q ∉ F.I := fun z => (h.hi q z).ne n
  have nH : F.H0 q = none := by
    cases w : F.H0 q with
    | none => rfl
    | some o => have := h.fr q o w nI; rw [n] at this; cases this
  refine ⟨_, fun z hz => ?_, Γ'.mono sm (fun _ _ _ z => z) r, R.mono (key.trans sm) h.rs, nd, fun z hz => ?_, fun x hx => same_upd n _ _ (h.lo x hx), fun b o e hb => same_upd n _ _ (h.fr b o e hb), h.hb, fun z hz => (h.hi z hz).same (same_upd n)⟩
  · simp only [List.mem_append, List.mem_cons, List.mem_nil_iff, or_false] at hz ⊢
    rcases hz with y | y | y
    · exact .inr (.inl y)
    · exact .inl y
    · exact .inr (.inr (.inr y))
  · rcases List.mem_cons.mp (hin z hz) with y | y
    · rw [y]
      exact ⟨.inl nH, fun z => hq (List.mem_append_left _ z), Hidn.dT upd_same⟩
    · exact ⟨(h.ow z y).1, (h.ow z y).2.1, (h.ow z y).2.2.same (same_upd n)⟩
/-- x, y = {}, [..] -/
theorem SX.parDL {px pyy pt pt2 : Pos} {kt k2 : Nat} {g : S → Rs β} {S3 : Type} {Γ3 : Cxt S3} {put : S → List ((Int × Int) × α) → S''} {put2 : S'' → β → S3} (hi : A.N[i]? = some x) (hj : A.N[j]? = some y) (hij : i ≠ j) (hx : A.sc.names.lookup x = some .local) (hy : A.sc.names.lookup y = some .local)
    (hb : PL A ca b Γ c' g) (hp : Put Γ i (.ownD (cD τ)) Γ'' put) (hp2 : Put Γ'' j (.own none c') Γ3 put2) (hw : ∀ X, A.In X → swappedStores [.Tuple [.Name x px, .Name y pyy] kt pt] (.Tuple [.Dict [] [] p2, b] k2 pt2) X.env = pure (some [x, y])) (h2 : star b = false := by rfl) :
    SX A ca (.Assign [.Tuple [.Name x px, .Name y pyy] kt pt] (.Tuple [.Dict [] [] p2, b] k2 pt2) pos) Γ Γ3 Γl rr (fun s => (g s).bind fun v => .ok (.nx (put2 (put s []) v))) := by
  obtain ⟨tb, pb, qb⟩ := hb
  refine ⟨_, fun X hX => ps_par hX.calm (by rw [hX.N]; exact hX.nd) (by rw [hX.N]; exact hi) (by rw [hX.N]; exact hj) hij (by rw [hX.sc]; exact hx) (by rw [hX.sc]; exact hy) (pa_cons pe_dnewT (pa_cons (pb X hX) pa_nil (star_each h2)) (star_each rfl)) (hw X hX), fun F R σ H s D ⟨Og, h0⟩ hq => ?_⟩
  intro q1 n1
  have hsx : Sx A.K (q1 :: hid F [] Og) Γ σ (upd H q1 (.dT [])) s := h0.sx.hide n1 (fun _ z => by cases z)
  refine qb _ σ _ s _ hsx ((Rs.post_bind hq).mono (fun v kv q2 vs2 H2 n2 s2 e2 z2 r2 => ?_) fun _ z => (z.exw h0.fr).grow (same_upd n1))
  refine ⟨_, _, rfl, ?_⟩
  obtain ⟨Og2, sub, m1⟩ := h0.storeD (b := []) n1 hp (fun G => .nil)
  have r2' : c'.rep A.K (cut H2 (q2 :: hid F [] Og2)) vs2 v := c'.mono (cut_sub fun z hz => by
    rcases List.mem_cons.mp hz with y | y
    · rw [y]; exact List.mem_cons_self
    · refine List.mem_cons_of_mem _ ?_
      rcases List.mem_append.mp y with w | w
      · exact List.mem_cons_of_mem _ (List.mem_append_left _ w)
      · rcases List.mem_cons.mp (sub z w) with u | u
        · rw [u]; exact List.mem_cons_self
        · exact List.mem_cons_of_mem _ (List.mem_append_right _ u)) r2
  have m2 := m1.loose (R' := Mn.lst A.K c' vs2 v) n2 s2 e2 r2'
  exact kv _ _ (m2.storeO (R' := R) hp2 z2 (fun G z => z.2) fun G z => z.1)
/-- what a dict comprehension makes -/
def dcM {β γ : Type} (g : β → Rs (Option ((Int × Int) × γ))) : List β → List ((Int × Int) × γ) → Rs (List ((Int × Int) × γ))
  | [], acc => .ok acc
  | x :: r, acc => (g x).bind fun o => dcM g r (match o with | some y => putA acc y.1 y.2 | none => acc)
theorem dc_spec {S1 S2 : Type} {Γw : Cxt S1} {Γt : Cxt S2} {τ1 : Ty β} {τ2 : Ty γ} {scope : Scope} {fi : S → Rs (List β)} {w : S → S1} {put : S1 → β → S2} {ix : List Nat} {ft : S2 → Rs Bool} {fk : S2 → Rs (Int × Int)} {fe : S2 → Rs γ} {wi : TI} {g : TG} {tt : TT} {tk te : TE}
    {own : List (Str × Nat)} (hw : Wp Γ (own.map (·.2)) Γw w) (hix : ∀ i ∈ ix, i ∈ own.map (·.2))
    (qi : ∀ (O : List Addr) (σ : L2.St) (H : Hp) (s : S) (R : It → Hp → Prop), Sx A.K O Γ σ H s → (fi s).Post (fun bs => ∀ J H1, Same H H1 → Wkg A.K J H1 O τ1 bs → R J H1) (Exw A.E ca H) → wi σ H R)
    (qg : ∀ (G H : Hp) (σ : L2.St) (O : List Addr) (s : S1) (v : V) (a : β) (Q : L2.St → Hp → Prop), Same G H → Γw.rep A.K G H σ O s → τ1.rep A.K G v a →
      (∀ σ', (∀ vs, (∀ i ∈ ix, i ∈ vs) → wipe σ' vs = wipe σ vs) → Γt.rep A.K G H σ' O (put s a) → Q σ' H) → g v σ H Q)
    (qt : ∀ (O : List Addr) (σ : L2.St) (H : Hp) (s : S2) (Q : Bool → Hp → Prop), Sx A.K O Γt σ H s → (ft s).Post (fun a => ∀ H', Same H H' → Q a H') (Exw E0 ca H) → tt σ H Q)
    (qk : ∀ (O : List Addr) (σ : L2.St) (H : Hp) (s : S2) (Q : VK), Sx A.K O Γt σ H s → (fk s).Post (fun a => ∀ v H', Same H H' → (tTup (.cons tI (.one tI))).rep A.K (cut H' O) v a → Q v H') (Exw E0 ca H) → tk σ H Q)
    (qe : ∀ (O : List Addr) (σ : L2.St) (H : Hp) (s : S2) (Q : VK), Sx A.K O Γt σ H s → (fe s).Post (fun a => ∀ v H', Same H H' → τ2.rep A.K (cut H' O) v a → Q v H') (Exw E0 ca H) → te σ H Q)
    (O : List Addr) (σ : L2.St) (H : Hp) (s : S) (Q : VK) (hs : Sx A.K O Γ σ H s)
    (hp : ((fi s).bind fun bs => Rs.guard (decide (bs.length ≤ sizeLine)) (dcM (fun b => nox (lcT (ft (put (w s) b)) ((fk (put (w s) b)).bind fun k => (fe (put (w s) b)).bind fun v => .ok (k, v)))) bs [])).Post (fun a => ∀ v H', Same H H' → (tD τ2).rep A.K (cut H' O) v a → Q v H') (Exw A.E ca H)) :
    tDcT wi g tt tk te (own.map (·.2)) σ H Q := by
  refine qi O σ H s _ hs ((Rs.post_bind hp).mono (fun bs k J H1 s1 wk => ?_) fun _ z => z)
  obtain ⟨hz, k⟩ := Rs.post_guard k
  have hz : bs.length ≤ sizeLine := of_decide_eq_true hz
  intro D nD
  generalize hgg : (fun b => nox (lcT (ft (put (w s) b)) ((fk (put (w s) b)).bind fun k => (fe (put (w s) b)).bind fun v => .ok (k, v)))) = gg at k
  have hDO : D ∉ O := hs.out' s1 nD
  let Wv : Nat → Nat → Hp → Prop := fun i m H' => i + m = bs.length ∧ Same H1 H' ∧ ∃ kvs as, H' D = some (.dT kvs) ∧ kvs.length ≤ i ∧ Paired (DRel τ2 A.K (cut H' (D :: O))) kvs as ∧
    (dcM gg (bs.drop i) as).Post (fun zs => ∀ v H'', Same H H'' → (tD τ2).rep A.K (cut H'' O) v zs → Q v H'') (Exw A.E ca H)
  refine ⟨Wv, ⟨bs.length, by omega, same_upd nD, [], [], upd_same, Nat.zero_le _, .nil, ?_⟩, fun i m H' hW => ?_⟩
  · rw [List.drop_zero]; exact k
  · obtain ⟨him, sm, kvs, as, eD, hacc, hr, hk⟩ := hW
    by_cases hi : i < bs.length
    · refine .inr ⟨wk.go i H' sm hi, Wv (i + 1) (m - 1), fun H'' h => ⟨m - 1, by omega, h⟩, fun x H2 hy => ?_⟩
      obtain ⟨s2, rx⟩ := wk.yl i _ x H' H2 sm (List.getElem?_eq_getElem hi) hy
      rw [List.drop_eq_getElem_cons hi] at hk
      have sH2 : Same H1 H2 := sm.trans s2
      have eD2 : H2 D = some (.dT kvs) := s2 _ _ eD
      have hsx : Sx A.K (D :: O) Γw (wipe σ (own.map (·.2))) H2 (w s) := by
        obtain ⟨⟨Og, b1, b2⟩, b3⟩ := hw.sx (hs.grow s1)
        refine ⟨⟨Og, fun p hp => List.mem_cons_of_mem _ (b1 p hp), Γw.mono (fun b o e => ?_) (fun p hp o e => sH2 _ _ e) b2⟩, fun p hp => ?_⟩
        · by_cases hO : b ∈ O
          · rw [cut_in hO] at e; cases e
          · rw [cut_out hO] at e
            have hb : b ≠ D := ne_of_none e nD
            rw [cut_out (by simp [hb, hO])]; exact sH2 _ _ e
        · rcases List.mem_cons.mp hp with rfl | hp
          · exact Hidn.dT eD2
          · exact (hs.grow (s1.trans sH2)).hid p hp
      obtain ⟨⟨Og, c1, c2⟩, c3⟩ := hsx
      have rx' := rx (D :: O) (fun p hp => by
        rcases List.mem_cons.mp hp with rfl | hp
        · exact .inr nD
        · exact .inl hp) (fun p hp z => by
        rcases List.mem_cons.mp hp with rfl | hp
        · rw [eD] at z; cases z
        · exact ((hs.grow (s1.trans sm)).hid p hp).ne z)
      refine qg _ H2 _ Og (w s) x bs[i] _ cut_le c2 rx' fun σ' hwp hr' => ⟨(hwp _ hix).trans (wipe_wipe _ fun _ h => h), ?_⟩
      have hsx' : Sx A.K (D :: O) Γt σ' H2 (put (w s) bs[i]) := ⟨⟨Og, c1, hr'⟩, c3⟩
      have hk1 := Rs.post_bind hk
      rw [← hgg] at hk1
      have hk2 := Rs.post_bind (post_nox (E' := Exw E0 ca H2) hk1)
      rw [hgg] at hk2
      refine qt (D :: O) σ' H2 _ _ hsx' (hk2.mono (fun c kc H3 s3 => ?_) fun _ z => z)
      cases c with
      | true =>
        refine iteT (qk (D :: O) σ' H3 _ _ (hsx'.grow s3) ((Rs.post_bind (Rs.post_bind kc)).mono (fun kk ka v H4 s4 ra => ?_) fun _ z => z.grow s3))
        refine qe (D :: O) σ' H4 _ _ ((hsx'.grow s3).grow s4) ((Rs.post_bind ka).mono (fun vv kb u H5 s5 rv => ?_) fun _ z => (z.grow s3).grow s4)
        have s34 := s3.trans (s4.trans s5)
        obtain ⟨t2, us, rfl, et, v1, r1, rfl, q1, v2, rfl, q2⟩ := ra
        rw [show v1 = .int kk.1 from q1, show v2 = .int kk.2 from q2] at et
        refine ⟨kvs, pk kk, t2, rfl, s5 _ _ (cut_le _ _ et), s34 _ _ eD2, by omega, by omega, ?_, _, putA as kk vv, upd_same, ?_, ?_, ?_⟩
        · exact fun b o e => by
            have hb : b ≠ D := ne_of_none e nD
            rw [upd_ne hb]; exact s34 _ _ (sH2 _ _ e)
        · have := length_putK kvs (pk kk) u
          omega
        · rw [cut_upd (by simp)]
          exact drel_put (DRel.mono (cut_grow (s2.trans s34)) hr) kk rv
        · exact kb
      | false =>
        refine iteF ?_
        exact ⟨by omega, sH2.trans s3, kvs, as, s3 _ _ eD2, by omega, DRel.mono (cut_grow (s2.trans s3)) hr, kc⟩
    · refine .inl ⟨?_, ?_⟩
      · have : i = bs.length := by omega
        rw [this]; exact wk.st H' sm
      · rw [List.drop_eq_nil_of_le (by omega)] at hk
        exact hk (.ref D) H' (s1.trans sm) ⟨D, kvs, rfl, by rw [cut_out hDO]; exact eD, by omega, DRel.mono cut_cons hr⟩
theorem PX.dcT {S1 S2 : Type} {Γw : Cxt S1} {Γt : Cxt S2} {τ1 : Ty β} {τ2 : Ty γ} {kx vx : Expr} {ifs : List Expr} {scope : Scope} {fi : S → Rs (List β)} {w : S → S1} {put : S1 → β → S2} {ix : List Nat} {ft : S2 → Rs Bool} {fk : S2 → Rs (Int × Int)} {fe : S2 → Rs γ}
    (own : List (Str × Nat)) (hi : IB A ca tg iter Γ τ1 fi) (hb : blkC A.N A.sc scope own = true) (hw : Wp Γ (own.map (·.2)) Γw w) (hg : GX (A.blk scope) tg Γw Γt τ1 put ix) (hix : ∀ i ∈ ix, i ∈ own.map (·.2))
    (ht : PTz (A.blk scope) ca ifs Γt ft) (hk : PX (A.blk scope) ca kx Γt (tTup (.cons tI (.one tI))) fk) (he : PX (A.blk scope) ca vx Γt τ2 fe) (hf : ∀ env x, foldedSetIterable iter env x = pure x := by intro _ _; rfl) :
    PX A ca (.DictComp kx vx [⟨tg, iter, ifs, 0⟩] scope pos) Γ (tD τ2) (fun s => (fi s).bind fun bs => Rs.guard (decide (bs.length ≤ sizeLine)) (dcM (fun b => nox (lcT (ft (put (w s) b)) ((fk (put (w s) b)).bind fun k => (fe (put (w s) b)).bind fun v => .ok (k, v)))) bs [])) := by
  obtain ⟨wi, pi, qi⟩ := hi
  obtain ⟨g, pg, qg⟩ := hg
  obtain ⟨tt, ptt, qt⟩ := ht
  obtain ⟨tk, ppk, qk⟩ := hk
  obtain ⟨te, pe, qe⟩ := he
  refine ⟨tDcT wi g tt tk te (own.map (·.2)), fun X hX => pe_dcT hX.calm (by have := hX.room.un; omega) (by rw [hX.N]; exact hX.nd) (pi X hX) (blkOk_by (by rw [hX.N, hX.sc]; exact hb)) (fun s H C cl fp => pg _ (hX.blk scope s H C cl fp)) (fun s H C cl fp => ptt _ (hX.blk scope s H C cl fp)) (fun s H C cl fp => ppk _ (hX.blk scope s H C cl fp)) (fun s H C cl fp => pe _ (hX.blk scope s H C cl fp)) (hf X.env), fun O σ H s Q hs hp => dc_spec (scope := scope) hw hix qi qg qt qk qe O σ H s Q hs hp⟩
/-- name = {..} on one line, the name a local -/
theorem SX.setDc {S1 S2 S3 : Type} {Γw : Cxt S1} {Γt : Cxt S2} {Γ3 : Cxt S3} {τ1 : Ty β} {τ2 : Ty γ} {kx vx : Expr} {ifs : List Expr} {scope : Scope} {fi : S → Rs (List β)} {w : S → S1} {put : S1 → β → S2} {ix : List Nat} {ft : S2 → Rs Bool} {fk : S2 → Rs (Int × Int)} {fe : S2 → Rs γ} {put2 : S → List ((Int × Int) × γ) → S3}
    (own : List (Str × Nat)) (hN : A.N[i]? = some y) (hy : A.sc.names.lookup y = some .local) (hl : (py.line == p.line) = true) (hn : (scope.names.any fun (n, k) => n == y && (k == .local || k == .cell)) = false) (hk : A.sc.kind = .function)
    (hi : IB A ca tg iter Γ τ1 fi) (hb : blkC A.N A.sc scope own = true) (hw : Wp Γ (own.map (·.2)) Γw w) (hg : GX (A.blk scope) tg Γw Γt τ1 put ix) (hix : ∀ i ∈ ix, i ∈ own.map (·.2))
    (ht : PTz (A.blk scope) ca ifs Γt ft) (hkx : PX (A.blk scope) ca kx Γt (tTup (.cons tI (.one tI))) fk) (he : PX (A.blk scope) ca vx Γt τ2 fe) (hp2 : Put Γ i (.val (tD τ2)) Γ3 put2) (hf : ∀ env x, foldedSetIterable iter env x = pure x := by intro _ _; rfl) :
    SX A ca (.Assign [.Name y py] (.DictComp kx vx [⟨tg, iter, ifs, 0⟩] scope p) pos) Γ Γ3 Γl rr (fun s => ((fi s).bind fun bs => Rs.guard (decide (bs.length ≤ sizeLine)) (dcM (fun b => nox (lcT (ft (put (w s) b)) ((fk (put (w s) b)).bind fun k => (fe (put (w s) b)).bind fun v => .ok (k, v)))) bs [])).bind fun r => .ok (.nx (put2 s r))) := by
  obtain ⟨wi, pi, qi⟩ := hi
  obtain ⟨g, pg, qg⟩ := hg
  obtain ⟨tt, ptt, qt⟩ := ht
  obtain ⟨tk, ppk, qk⟩ := hkx
  obtain ⟨te, pe, qe⟩ := he
  refine ⟨tAsg (tDcT wi g tt tk te (own.map (·.2))) (gName i), fun X hX => ps_setDcT hX.calm (by have := hX.room.un; omega) (by rw [hX.N]; exact hX.nd) (by rw [hX.N]; exact hN) (by rw [hX.sc]; exact hy) (sw_trueD (by rw [hX.sc]; exact hk) (by rw [hX.sc]; exact hy) hl hn) (pi X hX) (blkOk_by (by rw [hX.N, hX.sc]; exact hb)) (fun s H C cl fp => pg _ (hX.blk scope s H C cl fp)) (fun s H C cl fp => ptt _ (hX.blk scope s H C cl fp)) (fun s H C cl fp => ppk _ (hX.blk scope s H C cl fp)) (fun s H C cl fp => pe _ (hX.blk scope s H C cl fp)) (hf X.env), fun F R σ H s D ⟨Og, hs⟩ hp => ?_⟩
  refine dc_spec (scope := scope) hw hix qi qg qt qk qe (hid F [] Og) σ H s _ hs.sx ((Rs.post_bind hp).mono (fun r k v H' sm rv => ?_) fun _ z => z.exw hs.fr)
  have h1 := (hs.grow sm).more (R' := Mn.val A.K (tD τ2) v r) rv
  exact k _ _ (h1.store (R' := R) hp2 (fun G z => ⟨rfl, v, rfl, z.2⟩) fun G z => z.1)
end
end TL
/-! TL16: set comprehensions of ints, sorted. -/
namespace TL
open PySem PySem.Spec PyProof.Rows L2 PpSet
section
variable {X : Cx}
theorem addI_ok {pins : List (Addr × Obj)} {σ : L2.St} {H : Hp} {s : Shared} {E : Value → Shared → Prop} {D : Addr} {S : Int → Bool} {n : Nat} {y : Int} {u : Value} {Q : Value → Shared → Prop} (I : Inv X pins σ H s) (hD : H D = some (SetO X.w D S n)) (room : n + 1 < scanBound) (r : RelV (.int y) u)
    (h : ∀ s', Inv X pins σ (upd H D (SetO X.w D (fun j => S j || decide (j = y)) (if S y = true then n else n + 1))) s' → Q .none s') : wpAny (model X.prog X.w) X.A (call (.builtin "set.add") [.ref D, u]) Q E s := by
  obtain ⟨t, rfl⟩ := r
  refine setR_add (setO_get I hD) room fun h' same new => ?_
  have he : ∃ u, h'.get? D = some u := let ⟨o, _, _, _, ho, _⟩ := new; ⟨o, ho⟩
  exact h _ (I.write (e := D) (t' := s.toks + 1) (by rw [hD]; exact True.intro) (.inl rfl) (fun b u hb hu => (same.2 b hb).trans hu) he (setO_new new))
/-- {elt for target in iter if ..}, elt an int: D the new set -/
def tScI (w : World) (wi : TI) (g : TG) (tt : TT) (te : TE) (vs : List Nat) : TE := fun σ H Q => wi σ H fun J H1 => ∀ D, H1 D = none → ∃ W : Nat → Nat → Hp → Prop, (∃ m, W 0 m (upd H1 D (SetO w D (fun _ => false) 0))) ∧
  ∀ i m H, W i m H → (J.stop i H ∧ Q (.ref D) H) ∨ (J.go i H ∧ ∃ Nx : Hp → Prop, (∀ H', Nx H' → ∃ m', m' < m ∧ W (i + 1) m' H') ∧
    ∀ x H', J.yld i H x H' → g x (wipe σ vs) H' fun σ2 H2 => wipe σ2 vs = wipe σ vs ∧ tt σ2 H2 fun b H3 =>
      if b = true then te σ2 H3 fun y H4 => ∃ (k : Int) (S : Int → Bool) (n : Nat), y = .int k ∧ H4 D = some (SetO w D S n) ∧ n + 1 < scanBound ∧ Nx (upd H4 D (SetO w D (fun j => S j || decide (j = k)) (if S k = true then n else n + 1))) else Nx H3)
theorem pe_scI {elt tg iter : Expr} {ifs : List Expr} {scope : Scope} {own : List (Str × Nat)} {pos : Pos} {wi : TI} {g : TG} {tt : TT} {te : TE} (calm : X.calm = true) (nd : X.N.Nodup) (pi : PI X tg iter wi) (ok : BlkOk X.N X.env.scope scope own)
    (pg0 : ∀ (z : Shared) (G : Hp) (C : Addr) (cs : List (Str × Addr)) (fp : List Addr), PG (X.blk z G scope (compEnvC scope cs C X.env) fp) tg g)
    (pt0 : ∀ (z : Shared) (G : Hp) (C : Addr) (cs : List (Str × Addr)) (fp : List Addr), PTs (X.blk z G scope (compEnvC scope cs C X.env) fp) ifs tt)
    (pv0 : ∀ (z : Shared) (G : Hp) (C : Addr) (cs : List (Str × Addr)) (fp : List Addr), PE (X.blk z G scope (compEnvC scope cs C X.env) fp) elt te)
    (fold : ∀ x, foldedSetIterable iter X.env x = pure x := by intro _; rfl) : PE X (.SetComp elt [⟨tg, iter, ifs, 0⟩] scope pos) (tScI X.w wi g tt te (own.map (·.2))) := by
  refine ⟨fun pins s0 σ H Q I h => ?_⟩
  rw [eval_SetComp]
  have closed : ∀ y ∈ scope.names, y.2 = .free → ∃ c, X.env.cells.lookup y.1 = some c := fun y hy e => (ok.free y hy e).elim (fun k => I.ok.has _ (.inl k)) fun k => I.ok.has _ (.inr k)
  refine wpAny_comprehension_free rfl fold (closure_ok closed) ok.kind (fun y hy e => by rw [ok.uniq y hy, e]) (thn (pi.run pins s0 σ H _ I h) fun xv sA hx => thn hx fun itv sB hB => ?_)
  obtain ⟨it, fp, tn, J, HB, rfl, IB, T, stB, fB, q⟩ := hB
  refine newSet_ok (newEnv_comp ?_)
  generalize hD : sB.heap.objs.size = D
  have nD : HB D = none := IB.hok.fresh (Nat.le_of_eq hD)
  obtain ⟨W, ⟨m0, w0⟩, turn⟩ := q D nD
  obtain ⟨ob, hob⟩ : ∃ ob : Obj, ob = { cls := .type "set", dict := none, data := .set #[] 0 (.fresh 0 0 (!X.w.params.followText "set-order")) } := ⟨_, rfl⟩
  generalize hC : ({ sB with heap := sB.heap.push { cls := .type "set", dict := none, data := .set #[] 0 (.fresh 0 0 (!X.w.params.followText "set-order")) } } : Shared) = sC
  have hCh : sC.heap = sB.heap.push ob := by rw [← hC, hob]
  have IC : Inv X pins σ (upd HB D (SetO X.w D (fun _ => false) 0)) sC := by
    subst hC
    refine IB.laid (t' := sB.toks) (fun b o e => Heap.get?_push_of_some _ e) (Nat.le_of_eq hD) ?_
    rw [← hD]
    exact setO_new (setR_fresh X.w)
  have low : ∀ b ∈ fp, b < sB.heap.objs.size := fun b hb => let ⟨_, e, _⟩ := T.obj _ _ stB b hb; Heap.lt_size e
  have fC : ∀ b ∈ fp, FpOk X pins (upd HB D (SetO X.w D (fun _ => false) 0)) b ∧ b < sC.heap.objs.size := fun b hb => by
    have lt := low b hb
    refine ⟨⟨?_, (fB b hb).2⟩, by rw [hCh, Heap.size_push]; exact Nat.lt_succ_of_lt lt⟩
    rw [upd_ne (Nat.ne_of_lt (by rw [← hD]; exact lt))]
    exact (fB b hb).1
  have stC : tn 0 sC.heap := T.keep _ _ _ stB fun b _ o e => by rw [hCh]; exact Heap.get?_push_of_some _ e
  have ID := block_start IC ok nd fC
  obtain ⟨cs, hcs⟩ : ∃ cs, cs = cellsFrom (sC.heap.objs.size + 1) scope.names (cloFrom X.env.cells scope.names []) := ⟨_, rfl⟩
  obtain ⟨ce, hce⟩ : ∃ ce, ce = compEnvC scope cs sC.heap.objs.size X.env := ⟨_, rfl⟩
  obtain ⟨HC, hHC⟩ : ∃ HC, HC = upd HB D (SetO X.w D (fun _ => false) 0) := ⟨_, rfl⟩
  have pg := pg0 sC HC sC.heap.objs.size cs fp
  have pt := pt0 sC HC sC.heap.objs.size cs fp
  have pv := pv0 sC HC sC.heap.objs.size cs fp
  rw [← hcs, ← hce, ← hHC] at ID
  rw [← hce] at pg pt pv
  rw [← hHC] at IC fC w0
  have cL : ce.locals = sC.heap.objs.size := by rw [hce]; rfl
  have nfp : ∀ b ∈ fp, HC b = none := fun b hb => (fC b hb).1.1
  show codeAny _ _ (.compStart (.SetComp elt [⟨tg, iter, ifs, 0⟩] scope pos) 0 (.ref it) (.ref D) (compEnvC scope (cellsFrom (sC.heap.objs.size + 1) scope.names (cloFrom X.env.cells scope.names [])) sC.heap.objs.size X.env)) (compPost (model X.prog X.w) X.A X.xe none _ (.ref D) sC.heap.objs.size) { sC with heap := pushCells (sC.heap.push { cls := .type "dict", data := .dict #[] }) scope.names }
  rw [← hcs, ← hce]
  generalize hsD : ({ sC with heap := pushCells (sC.heap.push { cls := .type "dict", data := .dict #[] }) scope.names } : Shared) = sD at ID ⊢
  have stD : tn 0 sD.heap := T.keep _ _ _ stC fun b _ o e => by rw [← hsD]; exact pushCells_keeps _ _ _ _ (Heap.get?_push_of_some _ e)
  have stat : ∀ {σ' : L2.St} {H' : Hp} {s' : Shared}, Inv (X.blk sC HC scope ce fp) [] σ' H' s' → (∀ b ∈ fp, H' b = none) → ∀ b ∈ fp, FpOk (X.blk sC HC scope ce fp) [] H' b := fun I' hn b hb =>
    ⟨hn b hb, (I'.ok.exf b hb).1, I'.ok.exfs b hb, .inl hb, fun x c e => (I'.ok.exf b hb).2 x c e, fun p hp => absurd (show p ∈ ([] : List (Addr × Obj)) ++ [] from hp) (by simp)⟩
  refine codeAny_compStart_set ?go (T.self X.A 0 _ _ _ stD ?go)
  refine compLoopS_any (fun n z => ∃ i G, Inv (X.blk sC HC scope ce fp) [] (wipe σ (own.map (·.2))) G z ∧ tn i z.heap ∧ (∀ b ∈ fp, G b = none) ∧ W i n G) ?_ m0 ⟨0, HC, ID, stD, nfp, w0⟩
  rintro n z1 ⟨i, G1, J1, t1, n1, w1⟩
  rcases turn i n G1 w1 with ⟨stop, fin⟩ | ⟨go, Nx, hNx, step⟩
  · refine thnF (T.done (X.blk sC HC scope ce fp) rfl rfl rfl calm i [] z1 _ G1 (fun _ _ => False) J1 (stat J1 n1) t1 stop) fun r z2 ⟨hr, J2⟩ => ?_
    subst hr
    have back : Inv X pins σ G1 z2 := IC.call' (ch := fp) J2.os J2.base J2.hok J2.bare fun b hb => ⟨(fC b hb).1.2.2.2.1, (fC b hb).1.2.1, (fC b hb).1.2.2.2.2.1, (fC b hb).1.2.2.2.2.2⟩
    obtain ⟨m, hn, _⟩ := J2.loc
    have nC : G1 sC.heap.objs.size = none := by rw [← cL]; exact J2.free
    obtain ⟨f0, f1, _, f3, f4, f5⟩ := IC.fpOk (Nat.le_refl _) nC
    refine ⟨m, by rw [← cL]; exact hn, fun h2 same => ⟨.ref D, G1, back.turned (t' := z2.toks) (fun b o hb e => (same.2 b hb).trans e) f0 f1 f3 f4 f5, rfl, fin⟩⟩
  · refine thnF (T.item (X.blk sC HC scope ce fp) rfl rfl rfl calm i [] z1 _ G1 (fun _ _ => False) J1 (stat J1 n1) t1 go) fun r z2 ⟨u, hr, h2⟩ => ?_
    subst hr
    refine thnF h2 fun _ z3 ⟨x, G3, J3, r3, y3, t3, n3⟩ => ?_
    have J3' := J3.pinned (stat J3 n3) (T.obj _ _ t3)
    refine thnF (pg.run _ z3 _ G3 x u _ J3' r3 (step x G3 y3)) fun _ z4 ⟨τ4, G4, J4, hw, q4⟩ => thnF (pt.run _ z4 τ4 G4 _ J4 q4) fun b z5 ⟨G5, J5, q5⟩ => ?_
    have over : ∀ {z' : Shared} {G' : Hp}, Inv (X.blk sC HC scope ce fp) ([] ++ pinsAt fp z3.heap) τ4 G' z' → Nx G' → ∃ m, m < n ∧ ∃ i G, Inv (X.blk sC HC scope ce fp) [] (wipe σ (own.map (·.2))) G z' ∧ tn i z'.heap ∧ (∀ b ∈ fp, G b = none) ∧ W i m G := fun {z' G'} J' nx => by
      obtain ⟨m', hm, w'⟩ := hNx G' nx
      have held : ∀ b ∈ fp, ∀ o, z3.heap.get? b = some o → z'.heap.get? b = some o ∧ G' b = none := fun b hb o e => by
        have zz := J'.pin (b, o) (List.mem_append_right _ (List.mem_append_right _ (mem_pinsAt hb e)))
        exact ⟨zz.1, zz.2.1⟩
      refine ⟨m', hm, i + 1, G', (J'.unpinned (pins := [])).weak (by rw [← hw, wipe_length]) (fun j v e => ?_), T.keep _ _ _ t3 fun b hb o e => (held b hb o e).1, fun b hb => ?_, w'⟩
      · rw [← hw] at e
        exact (wipe_some e).1
      · obtain ⟨o, e, _⟩ := T.obj _ _ t3 b hb
        exact (held b hb o e).2
    cases b with
    | false => exact over J5 q5
    | true =>
      refine thnF (pv.run _ z5 τ4 G5 _ J5 q5) fun c7 z7 ⟨y7, G7, J7, r7, k, S0, n0, ek, eD, hz, nx⟩ => ?_
      subst ek
      exact addI_ok (X := X.blk sC HC scope ce fp) J7 eD hz r7 fun z8 J8 => over J8 nx
end
/-- the ints of a list, each once, in order -/
def insU (x : Int) : List Int → List Int
  | [] => [x]
  | y :: r => if x < y then x :: y :: r else if x = y then y :: r else y :: insU x r
def usrt (xs : List Int) : List Int := xs.foldr insU []
theorem insU_mem (x k : Int) : ∀ l : List Int, k ∈ insU x l ↔ k = x ∨ k ∈ l
  | [] => by simp [insU]
  | y :: r => by
    unfold insU
    by_cases h1 : x < y
    · rw [if_pos h1]; simp
    · rw [if_neg h1]
      by_cases h2 : x = y
      · rw [if_pos h2, h2]; simp
      · rw [if_neg h2, List.mem_cons, insU_mem x k r, List.mem_cons]
        constructor
        · rintro (h | h | h)
          · exact .inr (.inl h)
          · exact .inl h
          · exact .inr (.inr h)
        · rintro (h | h | h)
          · exact .inr (.inl h)
          · exact .inl h
          · exact .inr (.inr h)
theorem insU_lt (x : Int) : ∀ l : List Int, l.Pairwise (· < ·) → (insU x l).Pairwise (· < ·)
  | [], _ => by simp [insU]
  | y :: r, h => by
    obtain ⟨h3, h4⟩ := List.pairwise_cons.mp h
    unfold insU
    by_cases h1 : x < y
    · rw [if_pos h1]
      refine List.pairwise_cons.mpr ⟨fun z hz => ?_, h⟩
      rcases List.mem_cons.mp hz with rfl | hz
      · exact h1
      · exact Int.lt_trans h1 (h3 z hz)
    · rw [if_neg h1]
      by_cases h2 : x = y
      · rw [if_pos h2]; exact h
      · rw [if_neg h2]
        refine List.pairwise_cons.mpr ⟨fun z hz => ?_, insU_lt x r h4⟩
        rcases (insU_mem x z r).mp hz with rfl | hz
        · omega
        · exact h3 z hz
theorem usrt_mem (k : Int) : ∀ xs : List Int, k ∈ usrt xs ↔ k ∈ xs
  | [] => by simp [usrt]
  | x :: r => by
    show k ∈ insU x (usrt r) ↔ _
    rw [insU_mem, usrt_mem k r, List.mem_cons]
theorem usrt_lt : ∀ xs : List Int, (usrt xs).Pairwise (· < ·)
  | [] => by simp [usrt]
  | x :: r => insU_lt x _ (usrt_lt r)
theorem lt_uniq : ∀ {l m : List Int}, l.Pairwise (· < ·) → m.Pairwise (· < ·) → (∀ k, k ∈ l ↔ k ∈ m) → l = m
  | [], [], _, _, _ => rfl
  | [], b :: m, _, _, h => by have := (h b).mpr List.mem_cons_self; simp at this
  | a :: l, [], _, _, h => by have := (h a).mp List.mem_cons_self; simp at this
  | a :: l, b :: m, h1, h2, h => by
    obtain ⟨a1, a2⟩ := List.pairwise_cons.mp h1
    obtain ⟨b1, b2⟩ := List.pairwise_cons.mp h2
    have e : a = b := by
      rcases List.mem_cons.mp ((h a).mp List.mem_cons_self) with z | z
      · exact z
      · rcases List.mem_cons.mp ((h b).mpr List.mem_cons_self) with y | y
        · exact y.symm
        · have := b1 a z
          have := a1 b y
          omega
    subst e
    congr 1
    refine lt_uniq a2 b2 fun k => ⟨fun hk => ?_, fun hk => ?_⟩
    · rcases List.mem_cons.mp ((h k).mp (List.mem_cons_of_mem _ hk)) with z | z
      · have := a1 k hk
        omega
      · exact z
    · rcases List.mem_cons.mp ((h k).mpr (List.mem_cons_of_mem _ hk)) with z | z
      · have := b1 k hk
        omega
      · exact z
variable {A : Amb} {ca : Nat → Addr}
section
variable {S α β γ : Type} {Γ : Cxt S} {τ : Ty α} {tg iter : Expr} {pos p p2 : Pos} {x y : Str}
/-- sorted({elt for target in iter if ..}) -/
theorem PL.sortedSC {S1 S2 : Type} {Γw : Cxt S1} {Γt : Cxt S2} {τ1 : Ty β} {elt : Expr} {ifs : List Expr} {scope : Scope} {fi : S → Rs (List β)} {w : S → S1} {put : S1 → β → S2} {ix : List Nat} {ft : S2 → Rs Bool} {fe : S2 → Rs Int}
    (B : Blt A x (.builtin "sorted")) (own : List (Str × Nat)) (hi : IB A ca tg iter Γ τ1 fi) (hb : blkC A.N A.sc scope own = true) (hw : Wp Γ (own.map (·.2)) Γw w) (hg : GX (A.blk scope) tg Γw Γt τ1 put ix) (hix : ∀ i ∈ ix, i ∈ own.map (·.2))
    (ht : PTz (A.blk scope) ca ifs Γt ft) (he : PX (A.blk scope) ca elt Γt tI fe) (hf : ∀ env x, foldedSetIterable iter env x = pure x := by intro _ _; rfl) :
    PL A ca (.Call (.Name x p) [.SetComp elt [⟨tg, iter, ifs, 0⟩] scope p2] [] pos) Γ (cL tI) (fun s => (fi s).bind fun bs => Rs.guard (decide (bs.length < 64)) ((lcM (fun b => nox (lcT (ft (put (w s) b)) (fe (put (w s) b)))) bs).bind fun xs => .ok (usrt xs))) := by
  obtain ⟨wi, pi, qi⟩ := hi
  obtain ⟨g, pg, qg⟩ := hg
  obtain ⟨tt, ptt, qt⟩ := ht
  obtain ⟨te, pe, qe⟩ := he
  refine ⟨tCB (rSortedSet A.w) (tCons (tScI A.w wi g tt te (own.map (·.2))) tNil), fun X hX => call1 (r := rSortedSet A.w) hX B (by rw [← hX.w]; exact cr_sortedSet hX.calm) (by rw [← hX.w]; exact pe_scI hX.calm (by rw [hX.N]; exact hX.nd) (pi X hX) (blkOk_by (by rw [hX.N, hX.sc]; exact hb)) (fun s H C cl fp => pg _ (hX.blk scope s H C cl fp)) (fun s H C cl fp => ptt _ (hX.blk scope s H C cl fp)) (fun s H C cl fp => pe _ (hX.blk scope s H C cl fp)) (hf X.env)) rfl, fun O σ H s Q hs hp => ?_⟩
  refine qi O σ H s _ hs ((Rs.post_bind hp).mono (fun bs k J H1 s1 wk => ?_) fun _ z => z)
  obtain ⟨hz, k⟩ := Rs.post_guard k
  have hz : bs.length < 64 := of_decide_eq_true hz
  intro D nD
  generalize hgg : (fun b => nox (lcT (ft (put (w s) b)) (fe (put (w s) b)))) = gg at k
  have hDO : D ∉ O := hs.out' s1 nD
  let Wv : Nat → Nat → Hp → Prop := fun i m H' => i + m = bs.length ∧ Same H1 H' ∧ ∃ (T : Int → Bool) (n : Nat) (xs : List Int), H' D = some (SetO A.w D T n) ∧ n ≤ i ∧ (∀ k, T k = true ↔ k ∈ xs) ∧
    ((lcM gg (bs.drop i)).bind fun zs => .ok (usrt (xs ++ zs))).Post (fun a => ∀ p vs H'', H p = none → Same H H'' → H'' p = some (.lst vs) → vs.length ≤ sizeLine → (cL tI).rep A.K (cut H'' (p :: O)) vs a → Q (.ref p) H'') (Exw A.E ca H)
  refine ⟨Wv, ⟨bs.length, by omega, same_upd nD, (fun _ => false), 0, [], upd_same, Nat.zero_le _, fun k => by simp, ?_⟩, fun i m H' hW => ?_⟩
  · rw [List.drop_zero]; exact k
  · obtain ⟨him, sm, T, n, xs, eD, hacc, hr, hk⟩ := hW
    by_cases hi : i < bs.length
    · refine .inr ⟨wk.go i H' sm hi, Wv (i + 1) (m - 1), fun H'' h => ⟨m - 1, by omega, h⟩, fun x H2 hy => ?_⟩
      obtain ⟨s2, rx⟩ := wk.yl i _ x H' H2 sm (List.getElem?_eq_getElem hi) hy
      rw [List.drop_eq_getElem_cons hi, lcM_cons] at hk
      have sH2 : Same H1 H2 := sm.trans s2
      have eD2 : H2 D = some (SetO A.w D T n) := s2 _ _ eD
      have hsx : Sx A.K (D :: O) Γw (wipe σ (own.map (·.2))) H2 (w s) := by
        obtain ⟨⟨Og, b1, b2⟩, b3⟩ := hw.sx (hs.grow s1)
        refine ⟨⟨Og, fun p hp => List.mem_cons_of_mem _ (b1 p hp), Γw.mono (fun b o e => ?_) (fun p hp o e => sH2 _ _ e) b2⟩, fun p hp => ?_⟩
        · by_cases hO : b ∈ O
          · rw [cut_in hO] at e; cases e
          · rw [cut_out hO] at e
            have hb : b ≠ D := ne_of_none e nD
            rw [cut_out (by simp [hb, hO])]; exact sH2 _ _ e
        · rcases List.mem_cons.mp hp with rfl | hp
          · exact ⟨_, eD2, fun _ z => by cases z⟩
          · exact (hs.grow (s1.trans sH2)).hid p hp
      obtain ⟨⟨Og, c1, c2⟩, c3⟩ := hsx
      have rx' := rx (D :: O) (fun p hp => by
        rcases List.mem_cons.mp hp with rfl | hp
        · exact .inr nD
        · exact .inl hp) (fun p hp z => by
        rcases List.mem_cons.mp hp with rfl | hp
        · rw [eD] at z; cases z
        · exact ((hs.grow (s1.trans sm)).hid p hp).ne z)
      refine qg _ H2 _ Og (w s) x bs[i] _ cut_le c2 rx' fun σ' hwp hr' => ⟨(hwp _ hix).trans (wipe_wipe _ fun _ h => h), ?_⟩
      have hsx' : Sx A.K (D :: O) Γt σ' H2 (put (w s) bs[i]) := ⟨⟨Og, c1, hr'⟩, c3⟩
      have hk1 := Rs.post_bind (Rs.post_bind hk)
      rw [← hgg] at hk1
      have hk2 := Rs.post_bind (post_nox (E' := Exw E0 ca H2) hk1)
      rw [hgg] at hk2
      refine qt (D :: O) σ' H2 _ _ hsx' (hk2.mono (fun c kc H3 s3 => ?_) fun _ z => z)
      cases c with
      | true =>
        refine iteT (qe (D :: O) σ' H3 _ _ (hsx'.grow s3) ((Rs.post_bind kc).mono (fun a ka v H4 s4 ra => ?_) fun _ z => z.grow s3))
        have s34 := s3.trans s4
        have hka := Rs.post_bind ka
        refine ⟨a, T, n, ra, s34 _ _ eD2, Nat.lt_of_lt_of_le (Nat.succ_lt_succ (Nat.lt_of_le_of_lt hacc (Nat.lt_trans hi hz))) (by decide), by omega, ?_, _, _, xs ++ [a], upd_same, ?_, fun k => ?_, ?_⟩
        · exact fun b o e => by
            have hb : b ≠ D := ne_of_none e nD
            rw [upd_ne hb]; exact s34 _ _ (sH2 _ _ e)
        · split <;> omega
        · rw [Bool.or_eq_true, hr k, List.mem_append, decide_eq_true_eq]; simp
        · cases hl : lcM gg (bs.drop (i + 1)) with
          | ok zs =>
            rw [hl] at hka
            show Rs.Post (Rs.ok (usrt (xs ++ [a] ++ zs))) _ _
            rw [List.append_assoc]
            exact hka
          | exc n => rw [hl] at hka; exact hka
          | bad => rw [hl] at hka; exact hka
      | false =>
        refine iteF ?_
        refine ⟨by omega, sH2.trans s3, T, n, xs, s3 _ _ eD2, by omega, hr, ?_⟩
        cases hl : lcM gg (bs.drop (i + 1)) with
        | ok zs => rw [hl] at kc; exact kc
        | exc n => rw [hl] at kc; exact kc
        | bad => rw [hl] at kc; exact kc
    · refine .inl ⟨?_, ?_⟩
      · have : i = bs.length := by omega
        rw [this]; exact wk.st H' sm
      · rw [List.drop_eq_nil_of_le (by omega)] at hk
        have hk : Rs.Post (Rs.ok (usrt (xs ++ []))) _ _ := hk
        rw [List.append_nil] at hk
        refine ⟨D, T, n, rfl, eD, by omega, fun ns l lt mem hl nl => ?_⟩
        have e : ns = usrt xs := lt_uniq lt (usrt_lt xs) fun k => by rw [mem k, hr k, usrt_mem]
        subst e
        exact hk l _ _ ((s1.trans sm).free nl) ((s1.trans sm).trans (same_upd nl)) upd_same (by rw [List.length_map, hl]; exact Nat.le_trans (by omega : n ≤ 64) (by decide)) (Paired.ofInts _)
end
end TL
/-! TL17: comprehensions of two clauses. -/
namespace TL
open PySem PySem.Spec PyProof.Rows L2
variable {A : Amb} {ca : Nat → Addr}
def lc2M {β γ : Type} (g : β → Rs (List γ)) : List β → Rs (List γ)
  | [] => .ok []
  | x :: r => (g x).bind fun ys => (lc2M g r).bind fun zs => .ok (ys ++ zs)
theorem Rs.bind_ok {α β : Type} {r : Rs α} {k : α → Rs β} {b : β} (h : r.bind k = .ok b) : ∃ a, r = .ok a ∧ k a = .ok b := by
  cases r with
  | ok a => exact ⟨a, rfl, h⟩
  | exc c => cases h
  | bad => cases h
theorem nox_ok {α : Type} {r : Rs α} {a : α} (h : nox r = .ok a) : r = .ok a := by
  cases r with
  | ok b => exact h
  | exc c => cases h
  | bad => cases h
def SameX (D : Addr) (H H' : Hp) : Prop := ∀ p o, p ≠ D → H p = some o → H' p = some o
theorem SameX.cut {D : Addr} {H H' : Hp} {O : List Addr} (s : SameX D H H') : Same (cut H (D :: O)) (cut H' (D :: O)) := fun p o e => by
  by_cases h : p ∈ D :: O
  · rw [cut_in h] at e; cases e
  · rw [cut_out h] at e ⊢
    exact s p o (fun z => h (by rw [z]; exact List.mem_cons_self)) e
section
variable {S α β γ δ : Type} {Γ : Cxt S} {τ : Ty α} {tg iter tg1 iter1 : Expr} {pos p p2 : Pos} {x y : Str}
theorem PL.lc2 {S1 S2 S3 S4 : Type} {Γw : Cxt S1} {Γt : Cxt S2} {Γw1 : Cxt S3} {Γt1 : Cxt S4} {τ1 : Ty β} {τ2 : Ty δ} {τ3 : Ty γ} {elt : Expr} {ifs1 : List Expr} {scope : Scope} {fi : S → Rs (List β)} {w : S → S1} {put : S1 → β → S2} {ix ix1 vs1 : List Nat} {f1 : S2 → Rs (List δ)} {w1 : S2 → S3} {put1 : S3 → δ → S4} {ft : S4 → Rs Bool} {fe : S4 → Rs γ}
    (own : List (Str × Nat)) (hi : IB A ca tg iter Γ τ1 fi) (hb : blkC A.N A.sc scope own = true) (hv : ∀ i ∈ vs1, i ∈ own.map (·.2)) (hw : Wp Γ (own.map (·.2)) Γw w) (hg : GX (A.blk scope) tg Γw Γt τ1 put ix) (hix : ∀ i ∈ ix, i ∈ own.map (·.2))
    (hi1 : IX (A.blk scope) ca tg1 iter1 Γt τ2 f1) (hw1 : Wp Γt vs1 Γw1 w1) (hg1 : GX (A.blk scope) tg1 Γw1 Γt1 τ2 put1 ix1) (hix1 : ∀ i ∈ ix1, i ∈ vs1)
    (ht : PTz (A.blk scope) ca ifs1 Γt1 ft) (he : PX (A.blk scope) ca elt Γt1 τ3 fe) (hf : ∀ env x, foldedSetIterable iter env x = pure x := by intro _ _; rfl) (hf1 : ∀ env x, foldedSetIterable iter1 env x = pure x := by intro _ _; rfl) :
    PL A ca (.ListComp elt [⟨tg, iter, [], 0⟩, ⟨tg1, iter1, ifs1, 0⟩] scope pos) Γ (cL τ3) (fun s => (fi s).bind fun bs => (nox (lc2M (fun b => (f1 (put (w s) b)).bind fun cs => lcM (fun c => lcT (ft (put1 (w1 (put (w s) b)) c)) (fe (put1 (w1 (put (w s) b)) c))) cs) bs)).bind fun zs => Rs.guard (decide (zs.length ≤ sizeLine)) (.ok zs)) := by
  obtain ⟨wi, pi, qi⟩ := hi
  obtain ⟨g, pg, qg⟩ := hg
  obtain ⟨wi1, pi1, qi1⟩ := hi1
  obtain ⟨g1, pg1, qg1⟩ := hg1
  obtain ⟨tt, ptt, qt⟩ := ht
  obtain ⟨te, pe, qe⟩ := he
  refine ⟨_, fun X hX => pe_lc2 hX.calm (by rw [hX.N]; exact hX.nd) (pi X hX) (blkOk_by (by rw [hX.N, hX.sc]; exact hb)) hv (fun s H C cl fp => pg _ (hX.blk scope s H C cl fp)) (fun s H C cl fp => pts_nil) (fun s H C cl fp => pi1 _ (hX.blk scope s H C cl fp)) (fun s H C cl fp => pg1 _ (hX.blk scope s H C cl fp)) (fun s H C cl fp => ptt _ (hX.blk scope s H C cl fp)) (fun s H C cl fp => pe _ (hX.blk scope s H C cl fp)) (hf X.env) hf1, fun O σ H s Q hs hp => ?_⟩
  refine qi O σ H s _ hs ((Rs.post_bind hp).mono (fun bs k J H1 s1 wk => ?_) fun _ z => z)
  generalize hgg : (fun b => (f1 (put (w s) b)).bind fun cs => lcM (fun c => lcT (ft (put1 (w1 (put (w s) b)) c)) (fe (put1 (w1 (put (w s) b)) c))) cs) = gg at k
  obtain ⟨zs, hzs⟩ : ∃ zs, nox (lc2M gg bs) = .ok zs := by
    cases h : lc2M gg bs with
    | ok zs => exact ⟨zs, rfl⟩
    | exc c => rw [h] at k; exact k.elim
    | bad => rw [h] at k; exact k.elim
  rw [hzs] at k
  obtain ⟨hz, k⟩ := Rs.post_guard (show (Rs.guard _ (Rs.ok zs)).Post _ _ from k)
  have hz : zs.length ≤ sizeLine := of_decide_eq_true hz
  have hzs := nox_ok hzs
  intro D nD
  have hDO : D ∉ O := hs.out' s1 nD
  let Wv : Nat → Nat → Hp → Prop := fun i m H' => i + m = bs.length ∧ Same H1 H' ∧ ∃ acc ys zs', H' D = some (.lst acc) ∧ Paired (τ3.rep A.K (cut H' (D :: O))) acc ys ∧ lc2M gg (bs.drop i) = .ok zs' ∧ ys ++ zs' = zs
  refine ⟨Wv, ⟨bs.length, by omega, same_upd nD, [], [], zs, upd_same, .nil, by rw [List.drop_zero]; exact hzs, rfl⟩, fun i m H' hW => ?_⟩
  obtain ⟨him, sm, acc, ys, zs', eD, hr, hk, hzz⟩ := hW
  by_cases hi : i < bs.length
  · refine .inr ⟨wk.go i H' sm hi, Wv (i + 1) (m - 1), fun H'' h => ⟨m - 1, by omega, h⟩, fun x H2 hy => ?_⟩
    obtain ⟨s2, rx⟩ := wk.yl i _ x H' H2 sm (List.getElem?_eq_getElem hi) hy
    rw [List.drop_eq_getElem_cons hi] at hk
    obtain ⟨us, hus, hk⟩ := Rs.bind_ok hk
    obtain ⟨zs2, hz2, hk⟩ := Rs.bind_ok hk
    cases hk
    have sH2 : Same H1 H2 := sm.trans s2
    have eD2 : H2 D = some (.lst acc) := s2 _ _ eD
    obtain ⟨⟨Og, b1, b2⟩, b3⟩ := hw.sx (hs.grow s1)
    have hDg : ∀ p ∈ Og, p ≠ D := fun p hp z => hDO (by rw [← z]; exact b1 p hp)
    have c2 : Γw.rep A.K (cut H2 (D :: O)) H2 (wipe σ (own.map (·.2))) Og (w s) := Γw.mono (fun b o e => by
        by_cases hO : b ∈ O
        · rw [cut_in hO] at e; cases e
        · rw [cut_out hO] at e
          have hb : b ≠ D := ne_of_none e nD
          rw [cut_out (by simp [hb, hO])]; exact sH2 _ _ e) (fun p hp o e => sH2 _ _ e) b2
    have hidn : ∀ {G : Hp} {vs : List V}, Same H1 G ∨ SameX D H2 G → G D = some (.lst vs) → ∀ p ∈ D :: O, Hidn G p := fun {G vs} sG eG p hp => by
      rcases List.mem_cons.mp hp with rfl | hp
      · exact Hidn.lst eG
      · have h0 := (hs.grow s1).hid p hp
        rcases sG with sG | sG
        · exact h0.same sG
        · obtain ⟨o, e, n⟩ := h0.same sH2
          exact ⟨o, sG p o (fun z => hDO (by rw [← z]; exact hp)) e, n⟩
    have rx' := rx (D :: O) (fun p hp => by
      rcases List.mem_cons.mp hp with rfl | hp
      · exact .inr nD
      · exact .inl hp) (fun p hp => (hidn (.inl sm) eD p hp).ne)
    refine qg _ H2 _ Og (w s) x bs[i] _ cut_le c2 rx' fun σ2 hwp hr2 => ⟨(hwp _ hix).trans (wipe_wipe _ fun _ h => h), ?_⟩
    refine iteT (B := Wv (i + 1) (m - 1) H2) ?_
    rw [← hgg] at hus
    obtain ⟨cs, hcs, hus⟩ := Rs.bind_ok hus
    have hsx2 : Sx A.K (D :: O) Γt σ2 H2 (put (w s) bs[i]) := ⟨⟨Og, fun p hp => List.mem_cons_of_mem _ (b1 p hp), hr2⟩, hidn (.inl sH2) eD2⟩
    refine qi1 (D :: O) σ2 H2 _ _ hsx2 ?_
    rw [hcs]
    intro J1 H4 s4 wk1
    generalize hg1 : (fun c => lcT (ft (put1 (w1 (put (w s) bs[i])) c)) (fe (put1 (w1 (put (w s) bs[i])) c))) = gc at hus
    let W1 : Nat → Nat → Hp → Prop := fun j k G => j + k = cs.length ∧ SameX D H4 G ∧ ∃ acc2 ys2 rest, G D = some (.lst acc2) ∧ Paired (τ3.rep A.K (cut G (D :: O))) acc2 ys2 ∧ lcM gc (cs.drop j) = .ok rest ∧ ys2 ++ (rest ++ zs2) = zs
    refine ⟨W1, ⟨cs.length, by omega, fun p o _ e => e, acc, ys, us, s4 _ _ eD2, Paired.mono' (cut_grow (s2.trans s4)) hr, by rw [List.drop_zero]; exact hus, hzz⟩, fun j k G hG => ?_⟩
    obtain ⟨hjk, sG, acc2, ys2, rest, eG, hrG, hkG, hzG⟩ := hG
    have sH4 : Same H1 H4 := sH2.trans s4
    by_cases hj : j < cs.length
    · have gD : Same (cut H4 (D :: O)) G := fun p o e => by
        by_cases hO : p ∈ D :: O
        · rw [cut_in hO] at e; cases e
        · rw [cut_out hO] at e
          exact sG p o (fun z => hO (by rw [z]; exact List.mem_cons_self)) e
      refine .inr ⟨wk1.go j G gD hj, W1 (j + 1) (k - 1), fun H'' h => ⟨k - 1, by omega, h⟩, fun x5 H5 hy5 => ?_⟩
      obtain ⟨s5, rx5⟩ := wk1.yl j _ x5 G H5 gD (List.getElem?_eq_getElem hj) hy5
      have eD5 : H5 D = some (.lst acc2) := s5 _ _ eG
      have sX5 : SameX D H2 H5 := fun p o hp e => s5 _ _ (sG p o hp (s4 _ _ e))
      have r5 := rx5 (D :: O) (fun p hp => .inr (cut_in hp)) (fun p hp => (hidn (.inr fun p o hp e => sG p o hp (s4 _ _ e)) eG p hp).ne)
      have rt5 : Γt.rep A.K (cut H5 (D :: O)) H5 σ2 Og (put (w s) bs[i]) := Γt.mono sX5.cut (fun p hp o e => sX5 p o (hDg p hp) e) hr2
      have hsx5 : Sx A.K (D :: O) Γt σ2 H5 (put (w s) bs[i]) := ⟨⟨Og, fun p hp => List.mem_cons_of_mem _ (b1 p hp), rt5⟩, hidn (.inr sX5) eD5⟩
      obtain ⟨⟨Oh, d1, d2⟩, d3⟩ := hw1.sx hsx5
      refine qg1 _ H5 _ Oh (w1 (put (w s) bs[i])) x5 cs[j] _ cut_le d2 r5 fun σ3 hwp3 hr3 => ⟨(hwp3 _ hix1).trans (wipe_wipe _ fun _ h => h), ?_⟩
      have hsx6 : Sx A.K (D :: O) Γt1 σ3 H5 (put1 (w1 (put (w s) bs[i])) cs[j]) := ⟨⟨Oh, d1, hr3⟩, d3⟩
      rw [List.drop_eq_getElem_cons hj, lcM_cons] at hkG
      obtain ⟨ov, hov, hkG⟩ := Rs.bind_ok hkG
      obtain ⟨rest2, hrest, hkG⟩ := Rs.bind_ok hkG
      rw [← hg1] at hov
      obtain ⟨cb, hcb, hov⟩ := Rs.bind_ok hov
      refine qt (D :: O) σ3 H5 _ _ hsx6 ?_
      rw [hcb]
      intro H6 s6
      cases cb with
      | true =>
        refine iteT (qe (D :: O) σ3 H6 _ _ (hsx6.grow s6) ?_)
        obtain ⟨a, ha, hov⟩ := Rs.bind_ok (show (fe _).bind _ = _ from hov)
        cases hov
        cases hkG
        rw [ha]
        intro v H7 s7 ra
        have s67 := s6.trans s7
        have sX7 : SameX D H4 H7 := fun p o hp e => s67 _ _ (s5 _ _ (sG p o hp e))
        have hl1 : acc2.length = ys2.length := Paired.length hrG
        have hl2 : acc2.length < sizeLine := by
          rw [← hzG] at hz
          simp only [List.length_append, Option.toList, List.length_cons, List.length_nil] at hz
          omega
        refine ⟨acc2, s67 _ _ eD5, hl2, by omega, fun p o hp e => by rw [upd_ne hp]; exact sX7 p o hp e, acc2 ++ [v], ys2 ++ [a], rest2, upd_same, ?_, hrest, ?_⟩
        · rw [cut_upd (by simp)]
          exact Paired.append (Paired.mono' (cut_grow (s5.trans s67)) hrG) (.cons ra .nil)
        · rw [← hzG]; simp
      | false =>
        refine iteF ?_
        cases hov
        cases hkG
        exact ⟨by omega, fun p o hp e => s6 _ _ (s5 _ _ (sG p o hp e)), acc2, ys2, rest2, s6 _ _ eD5, Paired.mono' (cut_grow (s5.trans s6)) hrG, hrest, hzG⟩
    · have ej : j = cs.length := by omega
      rw [List.drop_eq_nil_of_le (by omega)] at hkG
      cases hkG
      refine .inl ⟨by rw [ej]; exact wk1.st G (fun p o e => by
        by_cases hO : p ∈ D :: O
        · rw [cut_in hO] at e; cases e
        · rw [cut_out hO] at e
          exact sG p o (fun z => hO (by rw [z]; exact List.mem_cons_self)) e), by omega, fun p o e => ?_, acc2, ys2, zs2, eG, hrG, hz2, hzG⟩
      exact sG p o (ne_of_none e nD) (sH4 _ _ e)
  · refine .inl ⟨?_, ?_⟩
    · have : i = bs.length := by omega
      rw [this]; exact wk.st H' sm
    · rw [List.drop_eq_nil_of_le (by omega)] at hk
      cases hk
      rw [List.append_nil] at hzz
      subst hzz
      exact k D acc H' (s1.free nD) (s1.trans sm) eD (by rw [Paired.length hr]; exact hz) hr
end
end TL
/-! TL18: small helps. -/
namespace TL
open PySem PySem.Spec PyProof.Rows L2
variable {A : Amb} {ca : Nat → Addr}
theorem SXs.never {ρ S S' L : Type} {sts : List Stmt} {Γ : Cxt S} {Γ' : Cxt S'} {Γl : Cxt L} {rr : Rr ρ} : SXs A ca sts Γ Γ' Γl rr (fun _ => .bad) := ⟨_, fun X hX => pss_never, fun F R σ H s D hs hp => hp.elim⟩
section
variable {S α β : Type} {Γ : Cxt S} {τ : Ty α} {e : Expr} {pos : Pos}
/-- a pair as a row -/
theorem Tc.pr2 : Tc (tTup (.cons τ (.one τ))) (tT τ) (fun p => [p.1, p.2]) := ⟨fun {K H v a} r => by
  obtain ⟨p, vs, rfl, e, v1, r1, rfl, q1, v2, rfl, q2⟩ := r
  exact ⟨p, [v1, v2], rfl, e, (by decide : 2 ≤ sizeLine), .cons q1 (.cons q2 .nil)⟩⟩
/-- (a, b, ..), all of one type -/
theorem PX.tpl {es : List Expr} {g : S → Rs (List α)} {k : Nat} (h : PIs A ca Γ τ es g) (hl : es.length ≤ 1000 := by decide) : PX A ca (.Tuple es k pos) Γ (tT τ) g := by
  obtain ⟨t, ht, q⟩ := h.pa
  refine ⟨_, fun X hX => pe_tup (ht X hX), fun O σ H s Q hs hp => q O σ H s _ hs (hp.mono (fun a k vs H' sm l r => ⟨?_, fun p n => ?_⟩) fun _ z => z)⟩
  · rw [l]; exact Nat.le_of_lt (small1000 hl)
  · exact k (.ref p) _ (sm.trans (same_upd n)) ⟨p, vs, rfl, by rw [cut_out (hs.out' sm n)]; exact upd_same, by rw [l]; exact Nat.le_of_lt (small1000 hl), Paired.mono' (cut_grow (same_upd n)) r⟩
end
end TL
/-! TL19: defs that hand back a new list. -/
namespace TL
open PySem PySem.Spec PyProof.Rows L2
variable {A : Amb} {ca : Nat → Addr}
/-- a new list is handed back -/
def rLst (K : PySem.W.Frag) {α : Type} (c : Ct α) : Rr α := fun F v H r => F.Ok H ∧ ∃ p vs, v = .ref p ∧ F.H0 p = none ∧ H p = some (.lst vs) ∧ vs.length ≤ sizeLine ∧ c.rep K (cut H (p :: F.B)) vs r
def spL (K : PySem.W.Frag) (ca : Nat → Addr) {U β : Type} (ts : Tys U) (c : Ct β) (m : U → Rs β) : Sp := fun vs H Q E => ∃ (O : List Addr) (u : U), (∀ p ∈ O, Hidn H p) ∧ ts.rep K (cut H O) vs u ∧
  (m u).Post (fun b => ∀ p ws H', H p = none → Same H H' → H' p = some (.lst ws) → ws.length ≤ sizeLine → c.rep K (cut H' (p :: O)) ws b → Q (.ref p) H') (Exw E ca H)
structure CalleeL (A : Amb) (ca : Nat → Addr) (x : Str) {U β : Type} (ts : Tys U) (c : Ct β) (m : U → Rs β) : Prop where
  ex : ∃ (f : Addr) (fd : FuncData) (ps : List Str) (k : Nat), k ≤ A.k ∧ FnOk A.P A.w A.K A.mg A.base (L2.CX A.P A.w) k f fd ps (spL A.K ca ts c m) ∧ A.mg x = some (.ref f) ∧ PySem.W.keepIn A.K (.ref f) = true ∧ Binds A.K fd ps []
  db : (x == ("__debug__" : Str)) = false := by decide
section
variable {S S' S'' L α β γ U : Type} {Γ : Cxt S} {Γ' : Cxt S'} {Γ'' : Cxt S''} {Γl : Cxt L} {τ : Ty α} {τ' : Ty β} {c : Ct α} {e a b d : Expr} {pos p p2 : Pos} {x : Str}
theorem PL.call {ts : Tys U} {h : S → Rs U} {c : Ct β} {m : U → Rs β} {es : List Expr} (C : CalleeL A ca x ts c m) (hg : GlA A x) (ha : PAs A ca (e :: es) Γ ts h) (h1 : star e = false := by rfl) (h2 : es.any star = false := by rfl) :
    PL A ca (.Call (.Name x p) (e :: es) [] pos) Γ c (fun s => (h s).bind m) := by
  obtain ⟨ta, pa, qa⟩ := ha
  obtain ⟨fa, fd, ps, k, hk, F, hm, kp, hb⟩ := C.ex
  refine ⟨tCall (spL A.K ca ts c m) [] A.E ta, fun X hX => ?_, fun O σ H s Q hs hp => qa O σ H s _ hs ((Rs.post_bind hp).mono (fun u k vs H1 s1 r => ?_) fun _ z => z)⟩
  · obtain ⟨prog, w, K, mg, base, N, sc, fn, nd, calm, room, pass, own, takes, top⟩ := hX
    exact pe_call (k := k) (fd := fd) (ps := ps) (ds := []) (by rw [prog, w, K, mg, base]; exact F) (room.mono hk) (show Gl X x by show X.env.scope.names.lookup x = _; rw [sc]; exact hg) (by rw [mg]; exact hm) (by rw [K]; exact kp) (by rw [K]; exact hb) .nil pass (pa X ⟨prog, w, K, mg, base, N, sc, fn, nd, calm, room, pass, own, takes, top⟩) C.db (star_each h1) (star_any h2)
  · refine ⟨O, u, (hs.grow s1).hid, by rw [List.append_nil]; exact r, k.mono (fun b k q ws H2 n s2 e2 z2 r2 => k q ws H2 (s1.free n) (s1.trans s2) e2 z2 r2) fun _ z => z.grow s1⟩
theorem SX.retL {f : S → Rs α} (he : PL A ca e Γ c f) : SX A ca (.Return (some e) pos) Γ Γ'' Γl (rLst A.K c) (fun s => (f s).bind fun r => .ok (.rt r)) := by
  obtain ⟨t, ht, q⟩ := he
  refine ⟨_, fun X hX => ps_ret (ht X hX), fun F R σ H s D ⟨Og, h0⟩ hp => q _ σ H s _ h0.sx ((Rs.post_bind hp).mono (fun r k p vs H' n sm ep z rp => ?_) fun _ z => z.exw h0.fr)⟩
  have nI : p ∉ F.I := fun z => (h0.hi p z).ne n
  have nH : F.H0 p = none := by
    cases w : F.H0 p with
    | none => rfl
    | some o => have := h0.fr p o w nI; rw [n] at this; cases this
  refine k _ _ ⟨fun b o e hb => sm _ _ (h0.fr b o e hb), p, vs, rfl, nH, ep, z, c.mono (cut_sub fun q hq => ?_) rp⟩
  rcases List.mem_cons.mp hq with w | w
  · rw [w]; exact List.mem_cons_self
  · exact List.mem_cons_of_mem _ (hid_B q w)
end
section
variable {P : Program} {w : World} {K : PySem.W.Frag} {mg : Str → Option Value} {base : Heap}
theorem fnL_mk {x qual : Str} {st : Stmt} {f : Addr} {fd : FuncData} {N ps : List Str} {k m : Nat} {U S S' β : Type} {ts : Tys U} {c : Ct β} {Γ : Cxt S} {Γ' : Cxt S'} {ini : U → S} {body : S → Rs (Fl β S' Unit)}
    (F : Fun K x qual st f fd) (Sc : FnScope N ps (defScope st)) (hI : Ini ts m Γ ini) (hl : ts.len = ps.length) (hm : N.length = ts.len + m)
    (hb : ∀ E : XK, SXs (ambOf P w K mg base N st k E) ca (defBody st) Γ Γ' .nil (rLst K c) body) :
    FnOk P w K mg base (L2.CX P w) (k + 1) f fd ps (spL K ca ts c (fun u => (body (ini u)).bind (endM fun _ => .bad))) := by
  refine F.okX Sc (fun vs H Q E h => ?_) (fun cdv A outer s H vs Q E hr h => ?_)
  · obtain ⟨O, u, _, r, _⟩ := h
    rw [ts.length r, hl]
  · obtain ⟨O, u, hO, r, hp⟩ := h
    obtain ⟨t, ht, q⟩ := hb E
    refine ⟨t, ht _ (amb_in (x := x) (fd := fd) Sc hr), q ⟨H, O, []⟩ Mn.top _ H (ini u) _ ⟨[], ?_⟩ ((Rs.post_bind hp).mono (fun fl k => ?_) fun c z d H' hf => z d H' fun b o e => hf b o e (by simp))⟩
    · have hc : hid ⟨H, O, []⟩ [] [] = O := by simp [hid]
      refine ⟨?_, trivial, by simp, fun p hp => by simp at hp, fun x hx => by simp at hx, fun b o e _ => e, fun p hp => ⟨hO p hp, by simp⟩, fun p hp => by simp at hp⟩
      have hs : L2.start N vs = vs.map some ++ List.replicate m none := by
        unfold L2.start
        rw [ts.length r, hm, Nat.add_sub_cancel_left]
      rw [hs]
      show Γ.rep K (cut H (hid ⟨H, O, []⟩ [] [])) H _ [] _
      rw [hc]
      exact hI.rep r
    · cases fl with
      | rt r =>
        intro v H' hv
        obtain ⟨ok, p, ws, rfl, n, e, z, rp⟩ := hv
        exact k p ws H' n (fun b o e => ok b o e (by simp)) e z rp
      | nx s => exact k.elim
      | bk s => exact k.elim
      | ct s => exact k.elim
end
/-! ### the facts of a def -/
theorem Callee.of {P : Program} {w : World} {K : PySem.W.Frag} {mg : Str → Option Value} {base : Heap} {N : List Str} {st : Stmt} {k : Nat} {E : XK} {x : Str} {U β : Type} {ts : Tys U} {τ : Ty β} {m : U → Rs β} {f : Addr} {fd : FuncData} {ps : List Str} {j : Nat}
    (F : FnOk P w K mg base (L2.CX P w) j f fd ps (spOf K ca ts τ m)) (hm : mg x = some (.ref f)) (kp : PySem.W.keepIn K (.ref f) = true) (hb : Binds K fd ps []) (hj : j ≤ k) (db : (x == ("__debug__" : Str)) = false := by decide) : Callee (ambOf P w K mg base N st k E) ca x ts τ m := ⟨⟨f, fd, ps, j, hj, F, hm, kp, hb⟩, db⟩
theorem CalleeK.of {P : Program} {w : World} {K : PySem.W.Frag} {mg : Str → Option Value} {base : Heap} {N : List Str} {st : Stmt} {k : Nat} {E : XK} {x : Str} {U β : Type} {ts : Tys U} {τ : Ty β} {m : U → Rs β} {f : Addr} {fd : FuncData} {ps : List Str} {j : Nat}
    (F : FnOk P w K mg base (L2.CX P w) j f fd ps (spOf K ca ts τ m)) (hm : mg x = some (.ref f)) (kp : PySem.W.keepIn K (.ref f) = true) (hb : Binds K fd ps []) (hj : j + 1 ≤ k) (db : (x == ("__debug__" : Str)) = false := by decide) : CalleeK (ambOf P w K mg base N st k E) ca x ts τ m := ⟨⟨f, fd, ps, j, hj, F, hm, kp, hb⟩, db⟩
theorem CalleeIO.of {P : Program} {w : World} {K : PySem.W.Frag} {mg : Str → Option Value} {base : Heap} {N : List Str} {st : Stmt} {k : Nat} {E : XK} {x : Str} {γ U β : Type} {c : Ct γ} {ts : Tys U} {τ : Ty β} {m : γ × U → Rs (β × γ)} {f : Addr} {fd : FuncData} {ps : List Str} {j : Nat}
    (F : FnOk P w K mg base (L2.CX P w) j f fd ps (spIO K ca c ts τ m)) (hm : mg x = some (.ref f)) (kp : PySem.W.keepIn K (.ref f) = true) (hb : Binds K fd ps []) (hj : j ≤ k) (db : (x == ("__debug__" : Str)) = false := by decide) : CalleeIO (ambOf P w K mg base N st k E) ca x c ts τ m := ⟨⟨f, fd, ps, j, hj, F, hm, kp, hb⟩, db⟩
theorem CalleeL.of {P : Program} {w : World} {K : PySem.W.Frag} {mg : Str → Option Value} {base : Heap} {N : List Str} {st : Stmt} {k : Nat} {E : XK} {x : Str} {U β : Type} {ts : Tys U} {c : Ct β} {m : U → Rs β} {f : Addr} {fd : FuncData} {ps : List Str} {j : Nat}
    (F : FnOk P w K mg base (L2.CX P w) j f fd ps (spL K ca ts c m)) (hm : mg x = some (.ref f)) (kp : PySem.W.keepIn K (.ref f) = true) (hb : Binds K fd ps []) (hj : j ≤ k) (db : (x == ("__debug__" : Str)) = false := by decide) : CalleeL (ambOf P w K mg base N st k E) ca x ts c m := ⟨⟨f, fd, ps, j, hj, F, hm, kp, hb⟩, db⟩
/-- the law, worth m at a script -/
theorem law_sp {K : PySem.W.Frag} {m : List Int → Rs Bool} {n : Nat} {H : Hp} {a : Addr} {ns : List Int} (hn : n ≤ sizeLine) (hl : ns.length ≤ n) (hS : SqL K H a (ns.map V.int)) (hm : m ns = .ok true) : spOf K ca (.one (tF tI)) tB m [.ref a] H (fun v _ => v = .bl true) fun _ _ _ => False := by
  refine ⟨[], ns, fun p hp => by simp at hp, ⟨.ref a, rfl, a, ns.map V.int, rfl, by rw [cut_nil]; exact hS, by rw [List.length_map]; exact Nat.le_trans hl hn, Paired.ofInts ns⟩, ?_⟩
  rw [hm]
  exact fun v H' sm r => r
end TL
/-! TL20: the facts of the defs. -/
namespace TL
open PySem PySem.Spec PyProof.Rows L2
/-- a built-in's name that the module does not write -/
structure Bm (mg : Str → Option Value) (x : Str) (u : Value) : Prop where
  mg : mg x = none
  bt : bootBuiltins x = some u
  nn : x ≠ "__name__" := by decide
  db : (x == ("__debug__" : Str)) = false := by decide
theorem Bm.at {A : Amb} {x : Str} {u : Value} (M : Bm A.mg x u) (h : GlA A x) : Blt A x u := ⟨h, M.mg, M.bt, M.nn, M.db⟩
/-- a def of the module as it stands behind the top -/
structure TopFn (K : PySem.W.Frag) (mg : Str → Option Value) (x : Str) (st : Stmt) (ps : List Str) (f : Addr) (fd : FuncData) : Prop where
  F : Fun K x x st f fd
  hm : mg x = some (.ref f)
  bd : Binds K fd ps []
/-- a def that keeps a promise -/
def Ex (P : Program) (w : World) (K : PySem.W.Frag) (mg : Str → Option Value) (base : Heap) (x : Str) (sp : Sp) (j : Nat) : Prop :=
  ∃ (f : Addr) (fd : FuncData) (ps : List Str), FnOk P w K mg base (L2.CX P w) j f fd ps sp ∧ mg x = some (.ref f) ∧ PySem.W.keepIn K (.ref f) = true ∧ Binds K fd ps []
section
variable {P : Program} {w : World} {K : PySem.W.Frag} {mg : Str → Option Value} {base : Heap} {ca : Nat → Addr} {N : List Str} {st : Stmt} {k : Nat} {E : XK} {x : Str} {γ U β : Type} {j : Nat} {ts : Tys U} {τ : Ty β}
theorem Ex.callee {m : U → Rs β} (h : Ex P w K mg base x (spOf K ca ts τ m) j) (hj : j ≤ k) (db : (x == ("__debug__" : Str)) = false := by decide) : Callee (ambOf P w K mg base N st k E) ca x ts τ m :=
  let ⟨f, fd, ps, F, hm, kp, hb⟩ := h; Callee.of F hm kp hb hj db
theorem Ex.calleeK {m : U → Rs β} (h : Ex P w K mg base x (spOf K ca ts τ m) j) (hj : j + 1 ≤ k) (db : (x == ("__debug__" : Str)) = false := by decide) : CalleeK (ambOf P w K mg base N st k E) ca x ts τ m :=
  let ⟨f, fd, ps, F, hm, kp, hb⟩ := h; CalleeK.of F hm kp hb hj db
theorem Ex.calleeIO {c : Ct γ} {m : γ × U → Rs (β × γ)} (h : Ex P w K mg base x (spIO K ca c ts τ m) j) (hj : j ≤ k) (db : (x == ("__debug__" : Str)) = false := by decide) : CalleeIO (ambOf P w K mg base N st k E) ca x c ts τ m :=
  let ⟨f, fd, ps, F, hm, kp, hb⟩ := h; CalleeIO.of F hm kp hb hj db
theorem Ex.calleeL {c : Ct β} {m : U → Rs β} (h : Ex P w K mg base x (spL K ca ts c m) j) (hj : j ≤ k) (db : (x == ("__debug__" : Str)) = false := by decide) : CalleeL (ambOf P w K mg base N st k E) ca x ts c m :=
  let ⟨f, fd, ps, F, hm, kp, hb⟩ := h; CalleeL.of F hm kp hb hj db
end
end TL
/-! TL21: own lists lent to a call; sorted sets of few different numbers. -/
namespace TL
open PySem PySem.Spec PyProof.Rows L2
variable {A : Amb} {ca : Nat → Addr}
/-- a value whose reading asks nothing of the heap -/
def Flat {α : Type} (τ : Ty α) : Prop := ∀ {K : PySem.W.Frag} {H H' : Hp} {v : V} {a : α}, τ.rep K H v a → τ.rep K H' v a
theorem Flat.int : Flat tI := fun h => h
theorem Flat.bool : Flat tB := fun h => h
theorem Flat.non : Flat tN := fun h => h
theorem Flat.strK : Flat tSk := fun h => h
theorem Flat.opt {α : Type} {τ : Ty α} (h : Flat τ) : Flat (tO τ) := fun {K H H' v a} r => by
  cases a with
  | none => exact r
  | some a => exact h r
section
variable {S α β γ U : Type} {Γ : Cxt S} {τ : Ty α} {τ' : Ty β} {c : Ct α} {e a b d tg iter : Expr} {pos p p2 : Pos} {x : Str} {f : S → Rs α}
/-- a value that is read for the length of a call -/
def LX (A : Amb) (ca : Nat → Addr) (e : Expr) {S α : Type} (Γ : Cxt S) (τ : Ty α) (f : S → Rs α) : Prop :=
  ∃ t, (∀ X, A.In X → PE X e t) ∧ ∀ (O : List Addr) (σ : L2.St) (H : Hp) (s : S) (Q : VK), Sx A.K O Γ σ H s →
    (f s).Post (fun a => ∀ v H', Same H H' → τ.rep A.K H' v a → Q v H') (Exw A.E ca H) → t σ H Q
theorem PX.lx (h : PX A ca e Γ τ f) : LX A ca e Γ τ f := by
  obtain ⟨t, ht, q⟩ := h
  exact ⟨t, ht, fun O σ H s Q hs hp => q O σ H s Q hs (hp.mono (fun a k v H' sm r => k v H' sm (τ.mono cut_le r)) fun _ z => z)⟩
theorem BX.lx (h : BX A ca e Γ c f) : LX A ca e Γ c.ty f := by
  obtain ⟨t, ht, q⟩ := h
  exact ⟨t, ht, fun O σ H s Q hs hp => q O σ H s Q hs (hp.mono (fun a k p vs H' sm e z r => k _ H' sm ⟨p, vs, rfl, e, z, c.mono cut_le r⟩) fun _ z => z)⟩
theorem LX.tl {τ : Ty α} {f : S → Rs (List α)} (h : BX A ca e Γ (cL τ) f) : LX A ca e Γ (tL τ) f := h.lx
theorem LX.tlup {ts : Tys α} (h : BX A ca e Γ (cR ts) f) : LX A ca e Γ (tLup ts) f := h.lx
theorem LX.co {g : α → β} (h : LX A ca e Γ τ f) (hc : Tc τ τ' g) : LX A ca e Γ τ' (fun s => (f s).bind fun a => .ok (g a)) := by
  obtain ⟨t, ht, q⟩ := h
  exact ⟨t, ht, fun O σ H s Q hs hp => q O σ H s Q hs ((Rs.post_bind hp).mono (fun a k v H' sm r => k v H' sm (hc.to r)) fun _ z => z)⟩
def LAs (A : Amb) (ca : Nat → Addr) (es : List Expr) {S U : Type} (Γ : Cxt S) (ts : Tys U) (f : S → Rs U) : Prop :=
  ∃ t, (∀ X, A.In X → PA X es t) ∧ ∀ (O : List Addr) (σ : L2.St) (H : Hp) (s : S) (Q : List V → Hp → Prop), Sx A.K O Γ σ H s →
    (f s).Post (fun u => ∀ vs H', Same H H' → ts.rep A.K H' vs u → Q vs H') (Exw A.E ca H) → t σ H Q
theorem LAs.one (h : LX A ca e Γ τ f) (hs : star e = false := by rfl) : LAs A ca [e] Γ (.one τ) f := by
  obtain ⟨t, ht, q⟩ := h
  exact ⟨_, fun X hX => pa_cons (ht X hX) pa_nil (star_each hs), fun O σ H s Q h0 hp => q O σ H s _ h0 (hp.mono (fun a k v H' sm r => k _ H' sm ⟨v, rfl, r⟩) fun _ z => z)⟩
theorem LAs.cons {es : List Expr} {ts : Tys β} {g : S → Rs β} (h : LX A ca e Γ τ f) (hr : LAs A ca es Γ ts g) (hs : star e = false := by rfl) : LAs A ca (e :: es) Γ (.cons τ ts) (fun s => (f s).bind fun a => (g s).bind fun b => .ok (a, b)) := by
  obtain ⟨t, ht, q⟩ := h
  obtain ⟨tr, hr, qr⟩ := hr
  refine ⟨_, fun X hX => pa_cons (ht X hX) (hr X hX) (star_each hs), fun O σ H s Q h0 hp => q O σ H s _ h0 ((Rs.post_bind hp).mono (fun a k v H1 s1 r1 => ?_) fun _ z => z)⟩
  exact qr O σ H1 s _ (h0.grow s1) ((Rs.post_bind k).mono (fun b k vs H2 s2 r2 => k _ H2 (s1.trans s2) ⟨v, vs, rfl, τ.mono s2 r1, r2⟩) fun _ z => z.grow s1)
theorem PX.callF {ts : Tys U} {h : S → Rs U} {m : U → Rs β} {es : List Expr} (hf : Flat τ') (C : Callee A ca x ts τ' m) (hg : GlA A x) (ha : LAs A ca (e :: es) Γ ts h) (h1 : star e = false := by rfl) (h2 : es.any star = false := by rfl) :
    PX A ca (.Call (.Name x p) (e :: es) [] pos) Γ τ' (fun s => (h s).bind m) := by
  obtain ⟨ta, pa, qa⟩ := ha
  obtain ⟨fa, fd, ps, k, hk, F, hm, kp, hb⟩ := C.ex
  refine ⟨tCall (spOf A.K ca ts τ' m) [] A.E ta, fun X hX => ?_, fun O σ H s Q hs hp => qa O σ H s _ hs ((Rs.post_bind hp).mono (fun u k vs H1 s1 r => ?_) fun _ z => z)⟩
  · obtain ⟨prog, w, K, mg, base, N, sc, fn, nd, calm, room, pass, own, takes, top⟩ := hX
    exact pe_call (k := k) (fd := fd) (ps := ps) (ds := []) (by rw [prog, w, K, mg, base]; exact F) (room.mono hk) (show Gl X x by show X.env.scope.names.lookup x = _; rw [sc]; exact hg) (by rw [mg]; exact hm) (by rw [K]; exact kp) (by rw [K]; exact hb) .nil pass (pa X ⟨prog, w, K, mg, base, N, sc, fn, nd, calm, room, pass, own, takes, top⟩) C.db (star_each h1) (star_any h2)
  · refine ⟨[], u, fun p hp => (by simp at hp), by rw [List.append_nil, cut_nil]; exact r, k.mono (fun b k v H2 s2 r2 => k v H2 (s1.trans s2) (hf r2)) fun _ z => z.grow s1⟩
end
theorem lcM_no_exc {β γ : Type} {g : β → Rs (Option γ)} (hg : ∀ x n, g x ≠ .exc n) : ∀ (l : List β) (n : Nat), lcM g l ≠ .exc n
  | [], n => fun z => by cases z
  | x :: r, n => fun z => by
    rw [lcM_cons] at z
    cases hx : g x with
    | ok o =>
      rw [hx] at z
      cases hr : lcM g r with
      | ok ys => rw [hr] at z; cases z
      | exc c => exact lcM_no_exc hg r c hr
      | bad => rw [hr] at z; cases z
    | exc c => exact hg x c hx
    | bad => rw [hx] at z; cases z
theorem lcM_nox_exc {β γ : Type} {h : β → Rs (Option γ)} (l : List β) (n : Nat) : lcM (fun b => nox (h b)) l ≠ .exc n :=
  lcM_no_exc (fun x n z => by cases hx : h x <;> rw [hx] at z <;> cases z) l n
theorem usrt_snoc (xs : List Int) (a : Int) : (usrt (xs ++ [a])).length ≤ (if a ∈ xs then 0 else 1) + (usrt xs).length ∧ (usrt xs).length + (if a ∈ xs then 0 else 1) ≤ (usrt (xs ++ [a])).length := by
  have h1 : ∀ xs : List Int, (usrt xs).Nodup := fun xs => List.nodup_iff_pairwise_ne.mpr ((usrt_lt xs).imp fun h => by omega)
  by_cases h : a ∈ xs
  · rw [if_pos h]
    have : usrt (xs ++ [a]) = usrt xs := lt_uniq (usrt_lt _) (usrt_lt _) fun k => by
      rw [usrt_mem, usrt_mem, List.mem_append, List.mem_singleton]
      exact ⟨fun z => z.elim id fun z => z ▸ h, .inl⟩
    rw [this]; omega
  · rw [if_neg h]
    have hp : (usrt (xs ++ [a])).Perm (a :: usrt xs) := (List.perm_ext_iff_of_nodup (h1 _) (List.nodup_cons.mpr ⟨fun z => h ((usrt_mem _ _).mp z), h1 _⟩)).mpr fun k => by
      rw [usrt_mem, List.mem_append, List.mem_singleton, List.mem_cons, usrt_mem]
      exact or_comm
    rw [hp.length_eq, List.length_cons]; omega
theorem usrt_more : ∀ (zs xs : List Int), (usrt xs).length ≤ (usrt (xs ++ zs)).length
  | [], xs => by rw [List.append_nil]; exact Nat.le_refl _
  | z :: zs, xs => by
    have h1 := (usrt_snoc xs z).2
    have h2 := usrt_more zs (xs ++ [z])
    rw [List.append_assoc] at h2
    exact Nat.le_trans (by omega) h2
section
variable {S α β γ : Type} {Γ : Cxt S} {τ : Ty α} {tg iter : Expr} {pos p p2 : Pos} {x y : Str}
/-- sorted({elt for target in iter if ..}), fewer than 64 different ones -/
theorem PL.sortedSD {S1 S2 : Type} {Γw : Cxt S1} {Γt : Cxt S2} {τ1 : Ty β} {elt : Expr} {ifs : List Expr} {scope : Scope} {fi : S → Rs (List β)} {w : S → S1} {put : S1 → β → S2} {ix : List Nat} {ft : S2 → Rs Bool} {fe : S2 → Rs Int}
    (B : Blt A x (.builtin "sorted")) (own : List (Str × Nat)) (hi : IB A ca tg iter Γ τ1 fi) (hb : blkC A.N A.sc scope own = true) (hw : Wp Γ (own.map (·.2)) Γw w) (hg : GX (A.blk scope) tg Γw Γt τ1 put ix) (hix : ∀ i ∈ ix, i ∈ own.map (·.2))
    (ht : PTz (A.blk scope) ca ifs Γt ft) (he : PX (A.blk scope) ca elt Γt tI fe) (hf : ∀ env x, foldedSetIterable iter env x = pure x := by intro _ _; rfl) :
    PL A ca (.Call (.Name x p) [.SetComp elt [⟨tg, iter, ifs, 0⟩] scope p2] [] pos) Γ (cL tI) (fun s => (fi s).bind fun bs => (lcM (fun b => nox (lcT (ft (put (w s) b)) (fe (put (w s) b)))) bs).bind fun xs => Rs.guard (decide ((usrt xs).length < 64)) (.ok (usrt xs))) := by
  obtain ⟨wi, pi, qi⟩ := hi
  obtain ⟨g, pg, qg⟩ := hg
  obtain ⟨tt, ptt, qt⟩ := ht
  obtain ⟨te, pe, qe⟩ := he
  refine ⟨tCB (rSortedSet A.w) (tCons (tScI A.w wi g tt te (own.map (·.2))) tNil), fun X hX => call1 (r := rSortedSet A.w) hX B (by rw [← hX.w]; exact cr_sortedSet hX.calm) (by rw [← hX.w]; exact pe_scI hX.calm (by rw [hX.N]; exact hX.nd) (pi X hX) (blkOk_by (by rw [hX.N, hX.sc]; exact hb)) (fun s H C cl fp => pg _ (hX.blk scope s H C cl fp)) (fun s H C cl fp => ptt _ (hX.blk scope s H C cl fp)) (fun s H C cl fp => pe _ (hX.blk scope s H C cl fp)) (hf X.env)) rfl, fun O σ H s Q hs hp => ?_⟩
  refine qi O σ H s _ hs ((Rs.post_bind hp).mono (fun bs k J H1 s1 wk => ?_) fun _ z => z)
  intro D nD
  generalize hgg : (fun b => nox (lcT (ft (put (w s) b)) (fe (put (w s) b)))) = gg at k
  have hDO : D ∉ O := hs.out' s1 nD
  let Wv : Nat → Nat → Hp → Prop := fun i m H' => i + m = bs.length ∧ Same H1 H' ∧ ∃ (T : Int → Bool) (n : Nat) (xs : List Int), H' D = some (SetO A.w D T n) ∧ n ≤ (usrt xs).length ∧ (∀ k, T k = true ↔ k ∈ xs) ∧
    ((lcM gg (bs.drop i)).bind fun zs => Rs.guard (decide ((usrt (xs ++ zs)).length < 64)) (.ok (usrt (xs ++ zs)))).Post (fun a => ∀ p vs H'', H p = none → Same H H'' → H'' p = some (.lst vs) → vs.length ≤ sizeLine → (cL tI).rep A.K (cut H'' (p :: O)) vs a → Q (.ref p) H'') (Exw A.E ca H)
  refine ⟨Wv, ⟨bs.length, by omega, same_upd nD, (fun _ => false), 0, [], upd_same, Nat.zero_le _, fun k => by simp, ?_⟩, fun i m H' hW => ?_⟩
  · rw [List.drop_zero]; exact k
  · obtain ⟨him, sm, T, n, xs, eD, hacc, hr, hk⟩ := hW
    by_cases hi : i < bs.length
    · refine .inr ⟨wk.go i H' sm hi, Wv (i + 1) (m - 1), fun H'' h => ⟨m - 1, by omega, h⟩, fun x H2 hy => ?_⟩
      obtain ⟨s2, rx⟩ := wk.yl i _ x H' H2 sm (List.getElem?_eq_getElem hi) hy
      have sH2 : Same H1 H2 := sm.trans s2
      have eD2 : H2 D = some (SetO A.w D T n) := s2 _ _ eD
      have hsx : Sx A.K (D :: O) Γw (wipe σ (own.map (·.2))) H2 (w s) := by
        obtain ⟨⟨Og, b1, b2⟩, b3⟩ := hw.sx (hs.grow s1)
        refine ⟨⟨Og, fun p hp => List.mem_cons_of_mem _ (b1 p hp), Γw.mono (fun b o e => ?_) (fun p hp o e => sH2 _ _ e) b2⟩, fun p hp => ?_⟩
        · by_cases hO : b ∈ O
          · rw [cut_in hO] at e; cases e
          · rw [cut_out hO] at e
            have hb : b ≠ D := ne_of_none e nD
            rw [cut_out (by simp [hb, hO])]; exact sH2 _ _ e
        · rcases List.mem_cons.mp hp with rfl | hp
          · exact ⟨_, eD2, fun _ z => by cases z⟩
          · exact (hs.grow (s1.trans sH2)).hid p hp
      obtain ⟨⟨Og, c1, c2⟩, c3⟩ := hsx
      have rx' := rx (D :: O) (fun p hp => by
        rcases List.mem_cons.mp hp with rfl | hp
        · exact .inr nD
        · exact .inl hp) (fun p hp z => by
        rcases List.mem_cons.mp hp with rfl | hp
        · rw [eD] at z; cases z
        · exact ((hs.grow (s1.trans sm)).hid p hp).ne z)
      refine qg _ H2 _ Og (w s) x bs[i] _ cut_le c2 rx' fun σ' hwp hr' => ⟨(hwp _ hix).trans (wipe_wipe _ fun _ h => h), ?_⟩
      have hsx' : Sx A.K (D :: O) Γt σ' H2 (put (w s) bs[i]) := ⟨⟨Og, c1, hr'⟩, c3⟩
      have hk0 := hk
      rw [List.drop_eq_getElem_cons hi, lcM_cons] at hk0
      have hk1 := Rs.post_bind (Rs.post_bind hk0)
      rw [← hgg] at hk1
      have hk2 := Rs.post_bind (post_nox (E' := Exw E0 ca H2) hk1)
      rw [hgg] at hk2
      refine qt (D :: O) σ' H2 _ _ hsx' (hk2.mono (fun c kc H3 s3 => ?_) fun _ z => z)
      cases c with
      | true =>
        refine iteT (qe (D :: O) σ' H3 _ _ (hsx'.grow s3) ((Rs.post_bind kc).mono (fun a ka v H4 s4 ra => ?_) fun _ z => z.grow s3))
        have s34 := s3.trans s4
        have hka := Rs.post_bind ka
        have hz : (usrt xs).length < 64 := by
          cases hl : lcM gg (bs.drop (i + 1)) with
          | ok zs =>
            rw [hl] at hka
            have hka : (Rs.guard (decide ((usrt (xs ++ ([a] ++ zs))).length < 64)) (Rs.ok (usrt (xs ++ ([a] ++ zs))))).Post _ _ := hka
            have h1 := of_decide_eq_true (Rs.post_guard hka).1
            have h2 := usrt_more ([a] ++ zs) xs
            omega
          | exc n => exact absurd hl (by
              rw [← hgg]
              exact lcM_nox_exc _ _)
          | bad => rw [hl] at hka; exact hka.elim
        have hun := (usrt_snoc xs a).2
        refine ⟨a, T, n, ra, s34 _ _ eD2, Nat.lt_of_lt_of_le (Nat.succ_lt_succ (Nat.lt_of_le_of_lt hacc hz)) (by decide), by omega, ?_, _, _, xs ++ [a], upd_same, ?_, fun k => ?_, ?_⟩
        · exact fun b o e => by
            have hb : b ≠ D := ne_of_none e nD
            rw [upd_ne hb]; exact s34 _ _ (sH2 _ _ e)
        · by_cases hT : T a = true
          · simp only [hT, if_true]
            rw [if_pos ((hr a).mp hT)] at hun
            omega
          · simp only [hT]
            rw [if_neg fun z => hT ((hr a).mpr z)] at hun
            simp
            omega
        · rw [Bool.or_eq_true, hr k, List.mem_append, decide_eq_true_eq]; simp
        · cases hl : lcM gg (bs.drop (i + 1)) with
          | ok zs =>
            rw [hl] at hka
            show Rs.Post (Rs.guard (decide ((usrt (xs ++ [a] ++ zs)).length < 64)) (Rs.ok (usrt (xs ++ [a] ++ zs)))) _ _
            rw [List.append_assoc]
            exact hka
          | exc n => rw [hl] at hka; exact hka
          | bad => rw [hl] at hka; exact hka
      | false =>
        refine iteF ?_
        refine ⟨by omega, sH2.trans s3, T, n, xs, s3 _ _ eD2, by omega, hr, ?_⟩
        cases hl : lcM gg (bs.drop (i + 1)) with
        | ok zs => rw [hl] at kc; exact kc
        | exc n => rw [hl] at kc; exact kc
        | bad => rw [hl] at kc; exact kc
    · refine .inl ⟨?_, ?_⟩
      · have : i = bs.length := by omega
        rw [this]; exact wk.st H' sm
      · rw [List.drop_eq_nil_of_le (by omega)] at hk
        have hk : Rs.Post (Rs.guard (decide ((usrt (xs ++ [])).length < 64)) (Rs.ok (usrt (xs ++ [])))) _ _ := hk
        rw [List.append_nil] at hk
        obtain ⟨hz, hk⟩ := Rs.post_guard hk
        have hz : (usrt xs).length < 64 := of_decide_eq_true hz
        refine ⟨D, T, n, rfl, eD, by omega, fun ns l lt mem hl nl => ?_⟩
        have e : ns = usrt xs := lt_uniq lt (usrt_lt xs) fun k => by rw [mem k, hr k, usrt_mem]
        subst e
        exact hk l _ _ ((s1.trans sm).free nl) ((s1.trans sm).trans (same_upd nl)) upd_same (by rw [List.length_map, hl]; exact Nat.le_trans (by omega : n ≤ 64) (by decide)) (Paired.ofInts _)
end
end TL
/-! TL22: own exception classes over Exception whose __init__ is walked. -/
namespace TLE
open PySem PySem.W PySem.Calls PyProof.Rows PySem.HandSPX
open Builtin Builtin.ObjectAttr
abbrev exT : List Value := [.type "Exception", .type "BaseException", .type "object"]
section
variable {prog : Program} {w : World} {A : Around} {R : Result → Shared → Prop} {hp : Heap} {g : Array GenState} {d : Drawn} {t : Nat} {os : OsState}
theorem osaE {K : W.Frag} {name : Str} {tk : Tok} {v : Value} {x C : Addr} {fv : Array Value} {cd : ClassData}
    (X : K.In hp) (hx : hp.get? x = some { cls := .ref C, data := .fields fv }) (hcd : W.clsIn K C = some cd) (hm : excTail exT cd.mro = true) (hh : cd.hasDict = true) (ha : W.findIn K (.ref C) name = some none)
    (hq : ∀ h' tk' dx, (∀ b o, b ≠ x → hp.get? b = some o → h'.get? b = some o) → hp.objs.size ≤ dx → dx ≠ x → h'.get? x = some { cls := .ref C, dict := some dx, data := .fields fv } →
      h'.Ns1 dx (fun y => if y = name then some v else none) → R (.ok (.ret .none)) ⟨h', g, d, tk', os⟩) :
    codeAny (model prog w) A (.call (.builtin "object.__setattr__") ⟨[.ref x, .str name tk, v], []⟩) R ⟨hp, g, d, t, os⟩ := by
  have I : W.InstAt hp x { cls := .ref C, data := .fields fv } C none := ⟨hx, rfl, rfl, trivial⟩
  have SF := F.store_object
  have hc := excTail_contains (bmB := exT) "object" _ hm
  have ne : cd.mro.isEmpty = false := by
    cases e : cd.mro with
    | nil =>
      rw [e] at hc
      exact absurd hc (by decide)
    | cons _ _ => rfl
  have hob : cd.mro.contains (.type "object") = true := hc.trans (by decide +kernel)
  have hxs : x ≠ hp.objs.size := Nat.ne_of_lt (Heap.lt_size hx)
  have sub : W.Looks (model prog w) hp (isInstance (.ref x) (.type "object")) true := I.type.andThen (W.looks_mroIn X (by unfold W.mroIn; rw [hcd, Option.bind_some, if_neg (by rw [ne]; decide), hob]))
  refine codeAny_call_builtin SF.slot.plain SF.entry (@W.check_slot (model prog w) _ _ ⟨hp, g, d, t, os⟩ "object.__setattr__" "object" "__setattr__" (.ref x) [.str name tk, v] [] _ SF.kind SF.split sub (SF.args (.ref x) (.str name tk) v) ?_)
  have hmr : W.Looks (model prog w) hp (mroOf (.ref C)) cd.mro := (W.looks_clsIn X hcd).andThen .now
  have L3 : W.Looks (model prog w) hp (storeTaker? none) none := .now
  have hcls : W.Looks (model prog w) hp (classData C) cd := W.looks_clsIn X hcd
  rw [W.osa_eq, refuse_eq]
  refine wpAny_bind (wpAny_bind (I.type.at (wpAny_bind (hmr.at ?_))))
  rw [excTail_pass (bmB := exT) _ (F.store_Exception.passes _) _ hm]
  refine wpAny_pure (wpAny_bind (I.type.at (wpAny_bind ((W.looks_findIn X ha).at (wpAny_bind (L3.at ?_))))))
  show wpAny _ _ (storeInOwnDict (.ref x) (.ref C) (.str name tk) name v false) _ _ _
  obtain ⟨nm, bs, mro, ns, qn, hd, sn, sb, ab, col, del⟩ := cd
  dsimp only at hh
  subst hh
  unfold storeInOwnDict ownDictForStores
  repeat (first | with_reducible refine store_in_new ?_ ?_ | with_reducible refine wpAny_loadPart_at hx ?_ | with_reducible refine hcls.at ?_ | wp_step)
  · exact ⟨_, #[], _, (Heap.get?_update_ne _ _ _ _ hxs.symm).trans (Heap.get?_push_at rfl rfl), rfl, fun e he => absurd he (by simp), fun _ => rfl⟩
  · intro h' tk' hn' hs
    have hx₁ : (hp.push { cls := .type "dict", data := .dict #[] }).get? x = some { cls := .ref C, data := .fields fv } := Heap.get?_push_of_some _ hx
    refine hq h' tk' hp.objs.size (fun b o hb ho => ?_) (Nat.le_refl _) hxs.symm ?_ hn'
    · exact (hs.2 b (Nat.ne_of_lt (Heap.lt_size ho))).trans ((Heap.get?_update_ne _ _ _ _ hb).trans (Heap.get?_push_of_some _ ho))
    · exact (hs.2 x hxs).trans (Heap.get?_update_self _ hx₁ rfl)
end
/-- an own class over Exception, as the written part has it -/
def excE (K : Frag) (C : Addr) : Bool := match K.lookup C with
  | some ⟨.type "type", _, .cls cd, sl⟩ => (match cd.mro, sl.toList with
    | .ref C' :: bm, [_, _, _, _, some (.builtin n), _] => C' == C && n == "Exception.__new__" && !cd.hasDel && cd.hasDict && excTail exT bm
    | _, _ => false)
  | _ => false
theorem excE_of {K : Frag} {C : Addr} (q : excE K C = true) : ∃ nm qn N bs bm sn sub ab col dd k0 k1 k2 k3 k5, K.lookup C = some (excClassObj nm qn C N bs bm true sn sub ab col dd k0 k1 k2 k3 k5 "Exception.__new__") ∧ excTail exT bm = true := by
  unfold excE at q
  split at q
  · rename_i dd cd sl ho
    split at q
    · rename_i C' bm k0 k1 k2 k3 n k5 hm hs
      simp only [Bool.and_eq_true, beq_iff_eq, Bool.not_eq_true'] at q
      obtain ⟨⟨⟨⟨rfl, rfl⟩, hdel⟩, hdd⟩, ht⟩ := q
      obtain ⟨nm, bs, mro, ns, qn, hd, sn, sub, ab, col, del⟩ := cd
      dsimp only at hm hdel hdd
      subst hm hdel hdd
      have hsl : sl = #[k0, k1, k2, k3, some (.builtin "Exception.__new__"), k5] := by
        obtain ⟨l⟩ := sl
        simp only at hs
        rw [hs]
      subst hsl
      exact ⟨nm, qn, ns, bs, bm, sn, sub, ab, col, dd, k0, k1, k2, k3, k5, ho, ht⟩
    · cases q
  · cases q
end TLE
namespace L2
open PySem PySem.Spec PyProof.Rows
/-- what the written part says of an own class over Exception -/
structure OexE (K : PySem.W.Frag) (C : Addr) : Prop where
  cls : TLE.excE K C = true
  sa : PySem.W.findIn K (.ref C) "__setattr__" = some (some (.builtin "object.__setattr__"))
  exC : PySem.W.subIn K (.ref C) (.type "BaseException") = some true
  tyC : PySem.W.typeIn K (.ref C) = some (.type "type")
  kC : PySem.W.keepIn K (.ref C) = true
section
variable {X : Cx} {pins : List (Addr × Obj)} {σ : St} {H : Hp} {s : Shared} {a C dx : Addr} {f : Str} {y : V} {u : Value} {Q : Unit → Shared → Prop} {E : Value → Shared → Prop} {A : Around}
/-- self.f = y, the first one -/
theorem osE_new (T : OexE X.K C) (I : Inv X pins σ H s) (e : H a = some (exo a C none)) (hno : PySem.W.findIn X.K (.ref C) f = some none) (ry : RelV y u)
    (h : ∀ dx s', H dx = none → dx ≠ a → Inv X pins σ (upd (upd H dx (exd dx [(f, y)])) a (exo a C (some dx))) s' → Q () s') : wpAny (model X.prog X.w) A (setAttr (.ref a) f u) Q E s := by
  obtain ⟨nm, q, N, bs, bm, sn, sub, ab, col, dd, k0, k1, k2, k3, k5, hC, hbm⟩ := TLE.excE_of T.cls
  have hcl : PySem.W.clsIn X.K C = some { name := nm, bases := bs, mro := .ref C :: bm, ns := N, qualname := q, hasDict := true, slotNames := sn, subclasses := sub, abstract := ab, collection := col, hasDel := false } := by unfold PySem.W.clsIn; rw [hC] <;> rfl
  obtain ⟨t1, ho⟩ := exo_at I.hok e
  obtain ⟨hp, g, d, t, os⟩ := s
  refine PySem.W.set_plain I.kIn (ox := { cls := .ref C, dict := none, data := .fields #[.ref t1, .none, .none, .none, .bool false, .none] }) (od := none) ⟨ho, rfl, rfl, trivial⟩ T.sa ?_
  refine TLE.osaE I.kIn ho hcl (show PySem.W.excTail TLE.exT (.ref C :: bm) = true from hbm) rfl hno (fun h' tk' dx k dn dne hx hn => ?_)
  have hnd : H dx = none := I.hok.fresh dn
  have nd : ∀ {b : Addr} {o : Obj}, hp.get? b = some o → b ≠ dx := fun {b o} q => Nat.ne_of_lt (Nat.lt_of_lt_of_le (Heap.lt_size q) dn)
  have na : ∀ {b : Addr}, H b = none → b ≠ a := fun {b} n z => by
    rw [z, e] at n
    cases n
  have Un1 : Un X.fs [] H (upd (upd H dx (exd dx [(f, y)])) a (exo a C (some dx))) hp h' := {
    keep := fun b o q n _ _ => k b o (na n) q
    slot := fun b o q n _ _ => ⟨o.slots, k b o (na n) q⟩
    free := fun b o q n _ => by rw [upd_ne (na n), upd_ne (nd q)]; exact n
    there := fun b o q _ => by
      by_cases hb : b = a
      · exact ⟨_, by rw [hb]; exact hx⟩
      · exact ⟨o, k b o hb q⟩
    tups := fun b xs q => by rw [upd_ne (at_ne e q exo_tup), upd_ne (ne_of_none q hnd)]; exact q
    frzs := fun b o v q => by rw [upd_ne (at_ne e q exo_frz), upd_ne (ne_of_none q hnd)]; exact q
    tbls := fun b ps q => ⟨#[], by rw [upd_ne (at_ne e q exo_tbl), upd_ne (ne_of_none q hnd), q]; simp⟩ }
  refine h dx _ hnd dne (I.un (t' := tk') Un1 fun b o q => ?_)
  by_cases hb : b = a
  · subst hb
    rw [upd_same] at q
    cases q
    exact exo_ok hx
  · rw [upd_ne hb] at q
    by_cases hd : b = dx
    · subst hd
      rw [upd_same] at q
      cases q
      exact exd_ok hn (relO_put (fs := []) ry fun g => True.intro)
    · rw [upd_ne hd] at q
      exact (I.hok b o q).stay (fun c v hc z => k c v (by
          rcases hc with hc | hc
          · rw [hc]
            exact hb
          · exact at_ne e hc exo_own) z)
        (fun c hc => by rw [upd_ne (at_ne e hc exo_own), upd_ne (ne_of_none hc hnd)]; exact hc) (fun c xs hc => by rw [upd_ne (at_ne e hc exo_tup), upd_ne (ne_of_none hc hnd)]; exact hc)
end
/-- self.f = e -/
def tOsE (K : PySem.W.Frag) (f : Str) (to te : TE) : TS := fun D σ H => te σ H fun y H1 => to σ H1 fun x H2 => ∃ a C : Addr, x = .ref a ∧ OexE K C ∧ PySem.W.findIn K (.ref C) f = some none ∧
  H2 a = some (exo a C none) ∧ ∀ dx, H2 dx = none → dx ≠ a → D.nx σ (upd (upd H2 dx (exd dx [(f, y)])) a (exo a C (some dx)))
section
variable {X : Cx} {o e : Expr} {es : List Expr} {to te : TE} {ta : TA} {f : Str} {p p' p1 p2 pos : Pos}
theorem ps_osE (ho : PE X o to) (he : PE X e te) (hs : swapsWith e (some (.Attribute o f p')) pos.line X.env = pure false := by rfl) : PS X (.Assign [.Attribute o f p'] e pos) (tOsE X.K f to te) := by
  refine ⟨fun pins s σ H D I h => ?_⟩
  refine plainObj_wpAny_Assign_Attribute (thn (he.run pins s σ H _ I h) fun v s1 ⟨y, H1, I1, r1, q1⟩ => thn (ho.run pins s1 σ H1 _ I1 q1) fun u s2 ⟨x, H2, I2, r2, a, C, ex, T, hno, ea, q⟩ => ?_) hs
  subst ex
  obtain rfl : u = Value.ref a := r2
  exact osE_new T I2 ea hno r1 fun dx s' n ne J => ⟨σ, _, J, q dx n ne⟩
theorem pmk_oexE {CX : CXT} {x : Str} {C fI : Addr} {k : Nat} {fd : FuncData} {ps : List Str} {sp : Sp} {ds : List Value} {dvs : List V} (T : OexE X.K C) (iC : PySem.W.findIn X.K (.ref C) "__init__" = some (some (.ref fI))) (tI : PySem.W.typeIn X.K (.ref fI) = some (.type "function"))
    (F1 : FnOk X.prog X.w X.K X.mg X.base CX k fI fd ps sp) (hr : Room (k + 1) X.A) (hb : Binds X.K fd ps ds) (hd : Vals dvs ds) (hx : Passes CX X (fun _ _ _ => False)) (hg : Gl X x) (hm : X.mg x = some (.ref C)) (ha : PA X (e :: es) ta)
    (hdb : (x == ("__debug__" : Str)) = false := by decide) (he : starEach (e :: es) X.env = (false, eval e X.env) :: starEach es X.env := by rfl) (hpl : (backTo pos (starEach es X.env)).any (·.1) = false := by rfl) :
    PMk X (.Call (.Name x p) (e :: es) [] pos) (tMkO C sp dvs ta) := by
  intro pins s σ H Q I h
  obtain ⟨nm, q, N, bs, bm, sn, sub, ab, col, dd, k0, k1, k2, k3, k5, hC, hbm⟩ := TLE.excE_of T.cls
  refine wpAny_Call_Name_kw (ld_glob I hg hm ?_ hdb)
  refine PySem.W.callWith_K (h₀ := X.base) I.ok.mod.kin T.kC (thn (ha.run pos pins s σ H _ I h) fun us s1 ⟨vs, H1, I1, r1, hz, q1⟩ => ⟨I1.kIn, ?_⟩) he hpl
  show wpAny _ _ (call (.ref C) us) _ _ _
  obtain ⟨hp, g, dr, tk, os⟩ := s1
  have hsz : hp.objs.size ≤ hp.objs.size + 1 := Nat.le_succ _
  have hn : H1 (hp.objs.size + 1) = none := I1.hok.fresh hsz
  have hq := q1 (hp.objs.size + 1) hn
  have kk : ∀ b o, hp.get? b = some o → ((hp.push (PySem.W.kdv_tup us)).push (PySem.HandSPX.excO C hp.objs.size)).get? b = some o := fun b o e => Heap.get?_push_of_some _ (Heap.get?_push_of_some _ e)
  have hget : ((hp.push (PySem.W.kdv_tup us)).push (PySem.HandSPX.excO C hp.objs.size)).get? (hp.objs.size + 1) = some (PySem.HandSPX.excO C hp.objs.size) := by heap_get
  have I2 : Inv X pins σ (upd H1 (hp.objs.size + 1) (exo (hp.objs.size + 1) C none)) ⟨(hp.push (PySem.W.kdv_tup us)).push (PySem.HandSPX.excO C hp.objs.size), g, dr, tk, os⟩ :=
    I1.laid (t' := tk) (a := hp.objs.size + 1) (o := exo (hp.objs.size + 1) C none) (h' := (hp.push (PySem.W.kdv_tup us)).push (PySem.HandSPX.excO C hp.objs.size)) kk hsz (exo_ok hget)
  have r2 : Vals (V.ref (hp.objs.size + 1) :: (vs ++ dvs)) (Value.ref (hp.objs.size + 1) :: (us ++ ds)) := .cons rfl (r1.append hd)
  have hl : (Value.ref (hp.objs.size + 1) :: us ++ ds).length = ps.length := by
    have e := r2.length
    rw [F1.len _ _ _ _ hq] at e
    exact e.symm
  have hus : us.length ≤ sizeLine := by
    rw [← Paired.length r1, sizeLine_eq]
    omega
  refine wpAny_call (PySem.HandSPX.call_own F.excBase_Exception (fun Y => PySem.W.excTail_contains Y bm hbm) (I1.kIn _ _ hC) (PySem.W.looks_findIn I1.kIn iC) (fun self => PySem.W.bind_fn I1.kIn self tI) hus
    (codeAny_mono (F1.run _ X.stack _ _ ⟨Value.ref (hp.objs.size + 1) :: us, []⟩ (Value.ref (hp.objs.size + 1) :: (us ++ ds)) _ _ (fun _ _ _ => False) (hr.make C us []) (I2.env0.make C us []) (hb _ (Value.ref (hp.objs.size + 1) :: us) I2.kIn hl) r2 hq) fun r s' hq' => ?_))
  cases r with
  | error er => exact hx pins σ _ _ er s' I2 hq'
  | ok fl =>
    cases fl with
    | ret u =>
      obtain ⟨v, H2, os2, bare2, un2, hok2, rv, ev, d, fs, ea, ed, hd1, q2⟩ := hq'
      subst ev
      obtain ⟨h2, g2, d2, t2, os'⟩ := s'
      exact ⟨rv, mk_end (raises_own T.exC T.tyC) I1 hsz kk un2 hok2 os2 bare2 ea ed hd1 q2⟩
    | next => exact False.elim hq'
    | brk => exact False.elim hq'
    | cont => exact False.elim hq'
end
end L2
/-! TL23: raise, try. -/
namespace TL
open PySem PySem.Spec PyProof.Rows L2
variable {A : Amb} {ca : Nat → Addr}
/-! ### texts that are made and not read -/
section
variable {S α β γ U : Type} {Γ : Cxt S} {τ : Ty α} {e a b d : Expr} {es : List Expr} {pos p p2 : Pos} {x : Str} {n m : Nat}
def PF (A : Amb) (ca : Nat → Addr) (e : Expr) {S : Type} (Γ : Cxt S) (n : Nat) (f : S → Rs Unit) : Prop :=
  ∃ t, (∀ X, A.In X → PE X e t) ∧ ∀ (O : List Addr) (σ : L2.St) (H : Hp) (s : S) (Q : VK), Sx A.K O Γ σ H s →
    (f s).Post (fun _ => ∀ (y : Str) H', Same H H' → y.length ≤ n → Q (.str y) H') (Exw A.E ca H) → t σ H Q
theorem PF.lit {z : Str} {j : Nat} (n : Nat) (h : z.length ≤ n := by decide +kernel) : PF A ca (.Constant (.str z) j pos) Γ n (fun _ => .ok ()) :=
  ⟨_, fun X hX => pe_str, fun O σ H s Q hs hp => hp z H (Same.refl H) h⟩
theorem PF.int {f : S → Rs Int} (h : PX A ca e Γ tI f) : PF A ca (.FormattedValue e (-1) none pos) Γ 2000 (fun s => (f s).bind fun i => Rs.guard (decide (i.natAbs.log2 < 1920)) (.ok ())) := by
  obtain ⟨t, ht, q⟩ := h
  refine ⟨_, fun X hX => pe_fmt (ht X hX), fun O σ H s Q hs hp => q O σ H s _ hs ((Rs.post_bind hp).mono (fun i k v H' sm r => ?_) fun _ z => z)⟩
  obtain ⟨hc, k⟩ := Rs.post_guard k
  have hc := of_decide_eq_true hc
  refine .inr ⟨i, r, hc, k _ H' sm ?_⟩
  show (Str.ofString (toString i)).length ≤ _
  rw [PySem.ofString_length]
  exact Nat.le_trans (int_text_length_le (k := 1920) (by decide) hc) (by decide)
theorem PF.sk {f : S → Rs SK} (h : PX A ca e Γ tSk f) : PF A ca (.FormattedValue e (-1) none pos) Γ 2000 (fun s => (f s).bind fun y => Rs.guard (decide (y.1.length ≤ 2000)) (.ok ())) := by
  obtain ⟨t, ht, q⟩ := h
  refine ⟨_, fun X hX => pe_fmt (ht X hX), fun O σ H s Q hs hp => q O σ H s _ hs ((Rs.post_bind hp).mono (fun y k v H' sm r => ?_) fun _ z => z)⟩
  obtain ⟨hc, k⟩ := Rs.post_guard k
  have hc := of_decide_eq_true hc
  exact .inl ⟨y.1, r, by rw [sizeLine_eq]; omega, k _ H' sm hc⟩
theorem PF.skR {f : S → Rs SK} (h : PX A ca e Γ tSk f) : PF A ca (.FormattedValue e 114 none pos) Γ 2000 (fun s => (f s).bind fun y => Rs.guard (decide ((reprText y.1).length ≤ 2000)) (.ok ())) := by
  obtain ⟨t, ht, q⟩ := h
  refine ⟨_, fun X hX => pe_fmtR (ht X hX), fun O σ H s Q hs hp => q O σ H s _ hs ((Rs.post_bind hp).mono (fun y k v H' sm r => ?_) fun _ z => z)⟩
  obtain ⟨hc, k⟩ := Rs.post_guard k
  have hc := of_decide_eq_true hc
  exact .inl ⟨y.1, r, by rw [sizeLine_eq]; omega, k _ H' sm hc⟩
def PFs (A : Amb) (ca : Nat → Addr) (es : List Expr) {S : Type} (Γ : Cxt S) (n : Nat) (f : S → Rs Unit) : Prop :=
  ∃ ts : List TE, (∀ X, A.In X → PJ X es ts) ∧ ∀ (O : List Addr) (σ : L2.St) (H : Hp) (s : S) (acc : Str) (Q : Str → Hp → Prop), Sx A.K O Γ σ H s → acc.length + n ≤ sizeLine →
    (f s).Post (fun _ => ∀ (y : Str) H', Same H H' → y.length ≤ acc.length + n → Q y H') (Exw A.E ca H) → tJs ts acc σ H Q
theorem PFs.nil : PFs A ca [] Γ 0 (fun _ => .ok ()) := ⟨[], fun X hX => .nil, fun O σ H s acc Q hs hz hp => hp acc H (Same.refl H) (Nat.le_refl _)⟩
theorem PFs.cons {f g : S → Rs Unit} (h : PF A ca e Γ n f) (hr : PFs A ca es Γ m g) : PFs A ca (e :: es) Γ (n + m) (fun s => (f s).bind fun _ => g s) := by
  obtain ⟨t, ht, q⟩ := h
  obtain ⟨ts, hts, qs⟩ := hr
  refine ⟨t :: ts, fun X hX => .cons (ht X hX) (hts X hX), fun O σ H s acc Q hs hz hp => ?_⟩
  refine q O σ H s _ hs ((Rs.post_bind hp).mono (fun _ k y H1 s1 hy => ?_) fun _ z => z)
  have ha : (acc ++ y).length = acc.length + y.length := Str.length_append acc y
  exact ⟨y, rfl, by omega, qs O σ H1 s (acc ++ y) Q (hs.grow s1) (by omega) (k.mono (fun _ k z H2 s2 hz2 => k z H2 (s1.trans s2) (by omega)) fun _ z => z.grow s1)⟩
theorem PF.join {e2 : Expr} {f : S → Rs Unit} (h : PFs A ca (e :: e2 :: es) Γ n f) (hn : n ≤ 100000 := by decide) : PF A ca (.JoinedStr (e :: e2 :: es) pos) Γ n f := by
  obtain ⟨ts, hts, q⟩ := h
  refine ⟨_, fun X hX => pe_joined (hts X hX), fun O σ H s Q hs hp => q O σ H s Str.empty _ hs (by rw [sizeLine_eq]; show 0 + n ≤ _; omega) (hp.mono (fun _ k y H' sm hy => k y H' sm (by have : Str.empty.length = 0 := rfl; omega)) fun _ z => z)⟩
theorem PF.join1 {f : S → Rs Unit} (h : PF A ca e Γ n f) : PF A ca (.JoinedStr [e] pos) Γ n f := by
  obtain ⟨t, ht, q⟩ := h
  exact ⟨_, fun X hX => pe_joined1 (ht X hX), q⟩
theorem PF.sub {f : S → Rs Unit} (h : PF A ca e Γ n f) : PF A ca e Γ n f := h
end
/-! ### raise -/
/-- __init__(self, f): self.f = f -/
def spWhy (K : PySem.W.Frag) (f : Str) : Sp := fun vs H Q _ => ∃ (a C : Addr) (y : V), vs = [.ref a, y] ∧ OexE K C ∧ PySem.W.findIn K (.ref C) f = some none ∧ H a = some (exo a C none) ∧
  ∀ dx, H dx = none → dx ≠ a → Q .non (upd (upd H dx (exd dx [(f, y)])) a (exo a C (some dx)))
section
variable {P : Program} {w : World} {K : PySem.W.Frag} {mg : Str → Option Value} {base : Heap}
theorem fn_why {x qual : Str} {st : Stmt} {f : Addr} {fd : FuncData} {y : Str} {p1 p2 p3 p4 : Pos} (F : Fun K x qual st f fd) (Sc : FnScope ["self", y] ["self", y] (defScope st))
    (hb : defBody st = [.Assign [.Attribute (.Name "self" p1) y p2] (.Name y p3) p4]) (hv1 : Vis (defScope st) "self") (hv2 : Vis (defScope st) y) (hd : (y == ("__debug__" : Str)) = false := by decide) (hcd : (y == ("__classdict__" : Str)) = false := by decide) :
    FnOk P w K mg base (L2.CX P w) 1 f fd ["self", y] (spWhy K y) := by
  refine F.okX (k := 0) Sc (fun vs H Q E h => ?_) (fun cdv A outer s H vs Q E hr h => ?_)
  · obtain ⟨a, C, z, rfl, _⟩ := h
    rfl
  · obtain ⟨a, C, z, rfl, T, nf, ea, q⟩ := h
    rw [hb]
    refine ⟨_, pss_one (ps_osE (pe_var (i := 0) rfl hv1 (by decide) (by decide)) (pe_var (i := 1) rfl hv2 hd hcd)), ?_⟩
    exact ⟨z, rfl, .ref a, rfl, a, C, rfl, T, nf, ea, fun dx n ne => q dx n ne⟩
end
/-- the exception number c is the class x -/
structure ExcN (P : Program) (w : World) (K : PySem.W.Frag) (mg : Str → Option Value) (base : Heap) (ca : Nat → Addr) (c : Nat) (x : Str) : Prop where
  hm : mg x = some (.ref (ca c))
  T : OexE K (ca c)
  init : ∃ (y : Str) (fI : Addr) (fd : FuncData), FnOk P w K mg base (L2.CX P w) 1 fI fd ["self", y] (spWhy K y) ∧ PySem.W.findIn K (.ref (ca c)) y = some none ∧ PySem.W.findIn K (.ref (ca c)) "__init__" = some (some (.ref fI)) ∧ PySem.W.typeIn K (.ref fI) = some (.type "function") ∧ Binds K fd ["self", y] []
structure ExcA (A : Amb) (ca : Nat → Addr) (c : Nat) (x : Str) : Prop where
  N : ExcN A.P A.w A.K A.mg A.base ca c x
  hk : 2 ≤ A.k
  db : (x == ("__debug__" : Str)) = false := by decide
theorem passes_none {P : Program} {w : World} {X : Cx} : Passes (L2.CX P w) X (fun _ _ _ => False) := by
  intro _ _ _ _ _ _ _ h
  obtain ⟨_, _, _, _, _, _, _, _, _, _, _, _, bad⟩ := h
  exact bad.elim
section
variable {ρ S S' S'' L α β γ U : Type} {Γ : Cxt S} {Γ' : Cxt S'} {Γ'' : Cxt S''} {Γl : Cxt L} {rr : Rr ρ} {τ : Ty α} {τ' : Ty β} {e a b d : Expr} {es : List Expr} {pos p p2 py : Pos} {x y : Str} {st : Stmt} {sts : List Stmt} {i n : Nat}
theorem SX.raise {c : Nat} {f : S → Rs Unit} (N : ExcA A ca c x) (hg : GlA A x) (he : PF A ca e Γ n f) (hs : star e = false := by rfl) : SX A ca (.Raise (some (.Call (.Name x p) [e] [] p2)) none pos) Γ Γ' Γl rr (fun s => (f s).bind fun _ => .exc c) := by
  obtain ⟨t, ht, q⟩ := he
  obtain ⟨yf, fI, fd, FF, nf, iI, tI, hb⟩ := N.N.init
  refine ⟨fun D σ H => tMkO (ca c) (spWhy A.K yf) [] (tCons t tNil) σ H fun cls d H' => A.E cls d H', fun X hX => ?_, fun F R σ H s D h0 hp => ?_⟩
  · obtain ⟨prog, w, K, mg, base, N', sc, fn, nd, calm, room, pass, own, takes, top⟩ := hX
    exact ps_raise calm takes (pmk_oexE (k := 1) (fd := fd) (ps := ["self", yf]) (ds := []) (by rw [K]; exact N.N.T) (by rw [K]; exact iI) (by rw [K]; exact tI) (by rw [prog, w, K, mg, base]; exact FF) (room.mono N.hk) (by rw [K]; exact hb) .nil
      passes_none (show X.env.scope.names.lookup x = _ by rw [sc]; exact hg) (by rw [mg]; exact N.N.hm) (pa_cons (ht X ⟨prog, w, K, mg, base, N', sc, fn, nd, calm, room, pass, own, takes, top⟩) pa_nil (star_each hs)) N.db (star_each hs) rfl)
  · obtain ⟨Og, h0⟩ := h0
    show t σ H _
    refine q _ σ H s _ h0.sx ((Rs.post_bind hp).mono (fun _ k y H1 s1 hy => ?_) fun _ z => z.exw h0.fr)
    refine ⟨by simp, fun a na => ⟨a, ca c, .str y, by simp, N.N.T, nf, upd_same, fun dx ndx dne => ⟨rfl, dx, [(yf, .str y)], upd_same, by rw [upd_ne dne, upd_same], by rwa [upd_ne dne] at ndx, k (some dx) _ fun b o eb hb => ?_⟩⟩⟩
    have ndx : H1 dx = none := by rwa [upd_ne dne] at ndx
    have h1 := s1 _ _ (h0.fr b o eb hb)
    have b1 : b ≠ a := ne_of_none h1 na
    have b2 : b ≠ dx := ne_of_none h1 ndx
    rw [upd_ne b2, del_ne b1, upd_ne b1, upd_ne b2, upd_ne b1]
    exact h1
end
end TL
/-! TL24: try. -/
namespace TL
open PySem PySem.Spec PyProof.Rows L2
variable {A : Amb} {ca : Nat → Addr}
abbrev Amb.noE (A : Amb) : Amb := { A with E := fun _ _ _ => False }
/-- which class stands below which -/
structure ExcTab (K : PySem.W.Frag) (ca : Nat → Addr) (n : Nat) (sub : Nat → Nat → Bool) : Prop where
  one : ∀ c k, c < n → k < n → PySem.W.exmOne K (.ref (ca c)) (.ref (ca k)) = some (sub c k)
/-- a class's name in a clause -/
structure ExcH (A : Amb) (ca : Nat → Addr) (k : Nat) (x : Str) : Prop where
  hm : A.mg x = some (.ref (ca k))
  gl : GlA A x
  db : (x == ("__debug__" : Str)) = false := by decide
section
variable {ρ S S' S'' L α β γ U : Type} {Γ : Cxt S} {Γ' : Cxt S'} {Γ'' : Cxt S''} {Γl : Cxt L} {rr : Rr ρ} {τ : Ty α} {τ' : Ty β} {e a b d : Expr} {es : List Expr} {pos p p2 p3 py : Pos} {x y : Str} {st : Stmt} {sts : List Stmt} {i n : Nat}
/-- a clause's suite -/
def SuX (A : Amb) (ca : Nat → Addr) (suite : List Stmt) {ρ S S' L : Type} (Γ : Cxt S) (Γ' : Cxt S') (Γl : Cxt L) (rr : Rr ρ) (g : S → Rs (Fl ρ S' L)) : Prop :=
  ∃ ts : TS, (∀ X, A.In X → ∀ (a : Addr) (oe : Obj) (pn : List (Addr × Obj)), (∃ vs, oe.data = .fields vs) → PSs (X.suite a ((a, oe) :: pn)) suite ts) ∧
    ∀ (F : Fm) (R : Mn) (σ : L2.St) (H : Hp) (s : S) (D : Ends), RS A.K F [] R Γ σ H s → (g s).Post (FlP A.K F R Γ' Γl rr D) (ExF A.E ca F) → ts D σ H
theorem SuX.set {v : Str} {j : Nat} {put : S → SK → S'} (hx : LocA A x) (hN : A.N[i]? = some x) (hp : Put Γ i (.val tSk) Γ' put) (h : PyData.strOk v = true := by decide +kernel) : SuX A ca [.Assign [.Name x py] (.Constant (.str v) j p) pos] Γ Γ' Γl rr (fun s => .ok (.nx (put s ⟨v, h⟩))) := by
  refine ⟨_, fun X hX a oe pn _ => pss_one (ps_set (i := i) (show X.N.Nodup by rw [hX.N]; exact hX.nd) (show X.N[i]? = _ by rw [hX.N]; exact hN) (show Loc X.env.scope x by rw [hX.sc]; exact hx.loc) pe_str rfl (show X.fn x = true ∨ X.env.scope.names.lookup x = some .local by rw [hX.fn, hX.sc]; exact hx.fn)), fun F R σ H s D ⟨Og, h0⟩ hp' => ?_⟩
  exact hp' _ _ (h0.store hp (fun G z => ⟨rfl, _, rfl, rfl⟩) fun G z => z)
theorem SuX.pass : SuX A ca [.Pass pos] Γ Γ Γl rr (fun s => .ok (.nx s)) := ⟨_, fun X hX a oe pn _ => pss_one ps_pass, fun F R σ H s D h0 hp => hp σ H h0⟩
/-- the clauses: what they do with the exception number c -/
def HdX (A : Amb) (ca : Nat → Addr) (hds : List ExceptHandler) {ρ S S' L : Type} (Γ : Cxt S) (Γ' : Cxt S') (Γl : Cxt L) (rr : Rr ρ) (hd : Nat → S → Rs (Fl ρ S' L)) : Prop :=
  ∃ l, (∀ X, A.In X → HdsOk X hds l) ∧ ∀ (F : Fm) (R : Mn) (σ : L2.St) (H : Hp) (s : S) (D : Ends) (c : Nat) (d : Option Addr), RS A.K F [] R Γ σ H s → (hd c s).Post (FlP A.K F R Γ' Γl rr D) (ExF A.E ca F) → wMany A.K (fun c d _ H => A.E c d H) D l (.ref (ca c)) d σ H
theorem HdX.nil : HdX A ca [] Γ Γ' Γl rr (fun c _ => .exc c) := ⟨[], fun X hX => .nil, fun F R σ H s D c d h0 hp => hp d H h0.fr⟩
theorem HdX.cons {k : Nat} {sub : Nat → Nat → Bool} {b₀ : Stmt} {suite : List Stmt} {np pos' : Pos} {hds : List ExceptHandler} {g : S → Rs (Fl ρ S' L)} {hd : Nat → S → Rs (Fl ρ S' L)} (T : ExcTab A.K ca n sub) (N : ExcH A ca k x) (hk : k < n) (hs : SuX A ca (b₀ :: suite) Γ Γ' Γl rr g) (hr : HdX A ca hds Γ Γ' Γl rr hd) :
    HdX A ca (.ExceptHandler (some (.Name x np)) none (b₀ :: suite) pos' :: hds) Γ Γ' Γl rr (fun c s => if c < n then if sub c k then g s else hd c s else .bad) := by
  obtain ⟨ts, hts, qs⟩ := hs
  obtain ⟨l, hl, ql⟩ := hr
  refine ⟨(.ref (ca k), fun _ _ _ => ts) :: l, fun X hX => .cons ?_ (fun a oe cls d pn _ hv => hts X hX a oe pn hv) (hl X hX), fun F R σ H s D c d h0 hp => ?_⟩
  · exact ⟨show X.env.scope.names.lookup x = _ by rw [hX.sc]; exact N.gl, N.db, .inl (by rw [hX.mg]; exact N.hm)⟩
  · dsimp only at hp
    by_cases hc : c < n
    · rw [if_pos hc] at hp
      refine ⟨sub c k, T.one c k hc hk, fun e a na => ?_, fun e => ?_⟩
      · rw [if_pos e] at hp
        exact qs F R σ H s D h0 hp
      · rw [if_neg (by rw [e]; simp)] at hp
        exact ql F R σ H s D c d h0 hp
    · rw [if_neg hc] at hp
      exact hp.elim
def tryM {U β S ρ S' L : Type} (f : Rs U) (m : U → Rs β) (k : Fl ρ S' L) (hd : Nat → Rs (Fl ρ S' L)) : Rs (Fl ρ S' L) := (nox f).bind fun u => match m u with
  | .ok _ => .ok k
  | .exc c => hd c
  | .bad => .bad
/-- try: f(..); except .. -/
theorem SX.tryC {ts : Tys U} {f : S → Rs U} {m : U → Rs β} {h₀ : ExceptHandler} {hds : List ExceptHandler} {hd : Nat → S → Rs (Fl ρ S L)} (C : Callee A ca x ts τ' m) (hg : GlA A x) (hfn : A.fn = fun _ => true) (ha : PAs A.noE ca (e :: es) Γ ts f) (hh : HdX A ca (h₀ :: hds) Γ Γ Γl rr hd)
    (h1 : star e = false := by rfl) (h2 : es.any star = false := by rfl) :
    SX A ca (.Try [.Expr (.Call (.Name x p) (e :: es) [] p2) p3] (h₀ :: hds) [] [] pos) Γ Γ Γl rr (fun s => tryM (S := S) (f s) m (.nx s) fun c => hd c s) := by
  obtain ⟨ta, pa, qa⟩ := ha
  obtain ⟨l, hl, ql⟩ := hh
  obtain ⟨fa, fd, ps, k, hk, F, hm, kp, hb⟩ := C.ex
  refine ⟨fun D σ H => tDrop (tCallS (spOf A.K ca ts τ' m) (WE (wMany A.K (fun c d _ H => A.E c d H) D l)) ta) D σ H, fun X hX => ?_, fun Fm R σ H s D h0 hp => ?_⟩
  · obtain ⟨hstk, hfr⟩ := hX.top hfn
    have hX' := hX
    obtain ⟨prog, w, K, mg, base, N, sc, fn, nd, calm, room, pass, own, takes, top⟩ := hX
    rw [← K]
    refine ps_try_many (tb := fun W => fun D σ H => tDrop (tCallS (spOf X.K ca ts τ' m) (WE W) ta) D σ H) hstk hfr takes (fun W pn xe tk po => ?_) (hl X hX')
    have hX2 : A.noE.In (X.tr pn xe) := ⟨prog, w, K, mg, base, N, sc, fn, nd, calm, room, passes_none, po, takes_none5, fun _ => ⟨hstk, hfr⟩⟩
    refine pss_one (ps_expr ?_ rfl)
    exact pe_callS (X := X.tr pn xe) (k := k) (fd := fd) (ps := ps) (by show FnOk X.prog X.w X.K X.mg X.base _ _ _ _ _ _; rw [prog, w, K, mg, base]; exact F) (room.mono hk) (show X.env.scope.names.lookup x = _ by rw [sc]; exact hg) (show X.mg x = _ by rw [mg]; exact hm) (show PySem.W.keepIn X.K _ = _ by rw [K]; exact kp) (show Binds X.K _ _ _ by rw [K]; exact hb) (fun σ => passAt tk σ) (pa _ hX2) C.db (star_each h1) (star_any h2)
  · obtain ⟨Og, h1'⟩ := id h0
    show ta σ H _
    unfold tryM at hp
    have hp1 := Rs.post_bind hp
    have hp2 := post_nox (E' := Exw A.noE.E ca H) hp1
    refine qa _ σ H s _ h1'.sx (hp2.mono (fun u k vs H1 s1 r => ?_) fun _ z => z)
    refine ⟨hid Fm [] Og, u, (h1'.grow s1).hidden, r, ?_⟩
    cases hm : m u with
    | ok b =>
      rw [hm] at k
      exact fun v H2 s2 _ => k σ H2 (h0.grow (s1.trans s2))
    | exc c =>
      rw [hm] at k
      exact fun d H2 s2 => ql Fm R σ H2 s D c d (h0.grow (s1.trans s2)) k
    | bad =>
      rw [hm] at k
      exact k.elim
end
section
variable {S : Type} {Γ : Cxt S} {a b : Expr} {rest : List Expr} {pos : Pos}
/-- a or b, a an int or None -/
theorem PX.orO {f : S → Rs (Option Int)} {g : S → Rs Int} (ha : PX A ca a Γ (tO tI) f) (hb : PX A ca (.BoolOp .Or (b :: rest) pos) Γ tI g) : PX A ca (.BoolOp .Or (a :: b :: rest) pos) Γ tI (fun s => (f s).bind fun x => match x with
    | some i => if i = 0 then g s else .ok i
    | none => g s) := by
  obtain ⟨ta, pa, qa⟩ := ha
  obtain ⟨tb, pb, qb⟩ := hb
  refine ⟨tOrT A.K ta tb, fun X hX => by rw [← hX.K]; exact pe_orT (pa X hX) (pb X hX), fun O σ H s Q hs hp => qa O σ H s _ hs ((Rs.post_bind hp).mono (fun x k v H1 s1 r => ?_) fun _ z => z)⟩
  have go : (g s).Post (fun a => ∀ v H', Same H H' → tI.rep A.K (cut H' O) v a → Q v H') (Exw A.E ca H) → tb σ H1 Q := fun k => qb O σ H1 s Q (hs.grow s1) (k.mono (fun a k v H2 s2 r => k v H2 (s1.trans s2) r) fun _ z => z.grow s1)
  cases x with
  | none =>
    obtain rfl : v = .non := r
    exact ⟨false, (rfl : TruV A.K .non H1 false), by rw [if_neg (by simp)]; exact go k⟩
  | some i =>
    obtain rfl : v = .int i := r
    by_cases h : i = 0
    · simp only [h, if_true] at k
      exact ⟨false, (show (false : Bool) = (i != 0) by simp [h]), by rw [if_neg (by simp)]; exact go k⟩
    · simp only [h, if_false] at k
      exact ⟨true, (show (true : Bool) = (i != 0) by simp [h]), by rw [if_pos rfl]; exact k _ H1 s1 rfl⟩
end
end TL
/-! TL25: sorted(tuple, key=f); is, is not of truth values. -/
namespace PySem.W
open PySem PySem.Calls PyProof.Rows
section
variable {prog : Program} {w : World} {A : Around} {s : Shared} {E : Value → Shared → Prop}
theorem collect_tupT {l : Addr} {vs : List Value} {Q : List Value → Shared → Prop} (hl : ∃ o, s.heap.get? l = some o ∧ o.cls = .type "tuple" ∧ ∃ n, o.data = .seq vs.toArray n)
    (h : Q vs { s with heap := (s.heap.push (seqObj "list" #[] 0)).update s.heap.objs.size (Obj.mapSeq (· ++ vs.toArray)) }) (hsz : vs.length ≤ sizeLine) :
    wpAny (model prog w) A (collect (.ref l)) Q E s := by
  obtain ⟨o, ho, hc, n, hd⟩ := id hl
  unfold collect
  refine wpAny_bind (wpAny_runValue (codeAny_builtin entry_proto_collect' ?_))
  show wpAny _ _ (do again (.builtin "list.__iadd__" ⟨[← newList [], .ref l], []⟩)) _ _ s
  refine wpAny_bind (wpAny_newList (wpAny_pure ⟨Code.quiet_builtin _ (by decide +kernel), codeAny_builtin entry_list_iadd' ?_⟩))
  show wpAny _ _ (Builtin.List.listExtendWith (.ref s.heap.objs.size) (.ref l) (.ref s.heap.objs.size)) _ _ { s with heap := s.heap.push (seqObj "list" #[] 0) }
  unfold Builtin.List.listExtendWith
  have ho' : (s.heap.push (seqObj "list" #[] 0)).get? l = some o := Heap.get?_push_of_some _ ho
  refine wpAny_bind (wpAny_typeOf (T := "tuple") ⟨o, ho', hc⟩ ?_)
  have ht : (Value.type "tuple" == Value.type "tuple") = true := by rfl
  rw [if_pos (by rw [ht]; simp)]
  refine wpAny_bind (listItems_at ho' hd ?_)
  refine wpAny_bind (listItems_at (xs := #[]) (n := 0) (Heap.get?_push_size _ rfl) rfl ?_)
  rw [if_neg (by simp)]
  refine wpAny_bind (listUpdate_at (xs := #[]) (n := 0) (Heap.get?_push_size _ rfl) rfl ?_ (Nat.zero_le _) (by show (#[] ++ vs.toArray).size ≤ sizeLine + 1; simp only [Array.size_append, List.size_toArray, List.length_nil]; omega))
  refine wpAny_pure ?_
  show wpAny (model prog w) A (do
      let o ← load s.heap.objs.size
      match o.data with
      | .seq xs _ => pure xs.toList
      | _ => unsupported "internal:collect") Q E { s with heap := (s.heap.push (seqObj "list" #[] 0)).update s.heap.objs.size (Obj.mapSeq (· ++ vs.toArray)) }
  refine wpAny_bind (wpAny_load (get?_update_seq (Heap.get?_push_size _ rfl) _) ?_)
  show wpAny _ _ (pure ((#[] : Array Value) ++ vs.toArray).toList) Q E _
  rw [show ((#[] : Array Value) ++ vs.toArray).toList = vs by simp]
  exact wpAny_pure h
theorem sorted_of_sortT {l : Addr} {vs : List Value} {kw : List (Str × Value)} {Q : Value → Shared → Prop} (hl : ∃ o, s.heap.get? l = some o ∧ o.cls = .type "tuple" ∧ ∃ n, o.data = .seq vs.toArray n) (hL : vs.length ≤ sizeLine) (ha1 : argsOk "sorted" ⟨[.ref l], kw⟩) (ha2 : ∀ x, argsOk "list.sort" ⟨[.ref x], kw⟩)
    (body : ∀ E' : Value → Shared → Prop, wpAny (model prog w) A.in1.in1 (Builtin.«list.sort» ⟨[.ref (s.heap.objs.size + 1)], kw⟩) (fun f s' => f = .done (.ret .none) ∧ Q (.ref (s.heap.objs.size + 1)) s') E' { s with heap := copyHeap s.heap vs }) :
    wpAny (model prog w) A (call (.builtin "sorted") [.ref l] kw) Q E s := by
  refine call_function_entry_kw kind_sorted plain_sorted entry_sorted ha1 ?_
  unfold Builtin.«sorted»
  refine wpAny_bind (m := checkCount "sorted" 1 1 _) (wpAny_pure ?_)
  refine wpAny_bind (collect_tupT hl ?_ hL)
  refine wpAny_bind (wpAny_newList ?_ hL)
  have hsz : ((s.heap.push (seqObj "list" #[] 0)).update s.heap.objs.size (Obj.mapSeq (· ++ vs.toArray))).objs.size = s.heap.objs.size + 1 := by
    rw [Heap.size_update, size_push']
  show wpAny _ _ _ _ _ { s with heap := copyHeap s.heap vs }
  rw [hsz]
  refine wpAny_bind (wpAny_holding (wpAny_call_entry_kw slot_list_sort ⟨_, copyHeap_at s.heap vs, rfl⟩ entry_list_sort ?body (ha2 _)))
  case body =>
    show wpAny (model prog w) A.in1.in1 (Builtin.«list.sort» ⟨[.ref (s.heap.objs.size + 1)], kw⟩) _ _ _
    refine wpAny_mono (body _) (fun f s' hf => ?_) fun _ _ e => e
    obtain ⟨rfl, hq⟩ := hf
    exact ⟨_, rfl, wpAny_pure ⟨_, rfl, hq⟩⟩
end
end PySem.W
namespace TL
open PySem PySem.Spec PyProof.Rows L2
section
variable {X : Cx} {k : Nat} {f : Addr} {fd : FuncData} {ps : List Str} {sp : Sp} {pins : List (Addr × Obj)} {σ : L2.St} {H : Hp} {s : Shared} {Q : VK}
theorem sortedK_runT {l : Addr} {xs : List V} {ks : List (Int × Int)} (F : FnOk X.prog X.w X.K X.mg X.base (L2.CX X.prog X.w) k f fd ps sp) (hr : Room (k + 1) X.A) (hb : Binds X.K fd ps []) (I : Inv X pins σ H s) (hl : SqT X.K H l xs) (hk : ks.length = xs.length)
    (hs : ∀ (i : Nat) (v : V) (kk : Int × Int), xs[i]? = some v → ks[i]? = some kk → ∀ H1, Same H H1 → sp [v] H1 (fun u H2 => Same H1 H2 ∧ KeyIs H2 u kk) fun _ _ _ => False)
    (q : ∀ a H1, Same H H1 → H1 a = none → Q (.ref a) (upd H1 a (.lst (((xs.zip ks).mergeSort fun p q => lexLe p.2 q.2).map (·.1))))) :
    wpAny (model X.prog X.w) X.A (call (.builtin "sorted") [.ref l] [(Str.ofString "key", .ref f)]) (EP X pins σ Q) X.xe s := by
  obtain ⟨its, rv, pl, hz⟩ := I.tuple hl
  have hzi : its.length ≤ sizeLine := by rw [← rv.length]; exact hz
  refine PySem.W.sorted_of_sortT pl hzi (ksk_s1 _ _) (fun _ => ksk_l1 _ _) fun E' => ?_
  rw [ksk_t1]
  have hfr : s.heap.objs.size ≤ s.heap.objs.size + 1 := Nat.le_succ _
  generalize ha : s.heap.objs.size + 1 = a at *
  have at1 : (PySem.W.copyHeap s.heap its).get? a = some (seqObj "list" its.toArray 0) := by rw [← ha]; exact PySem.W.copyHeap_at s.heap its
  obtain ⟨e1, at2⟩ : ∃ e1, ((PySem.W.copyHeap s.heap its).update a (Obj.mapSeq fun _ => (#[] : Array Value))).get? a = some (seqObj "list" #[] e1) := ⟨_, get?_update_seq at1 fun _ => #[]⟩
  have hz2 : a < (PySem.W.copyHeap s.heap its).objs.size := Heap.lt_size at1
  obtain ⟨g1, hg1⟩ : ∃ g1, g1 = ((PySem.W.copyHeap s.heap its).update a (Obj.mapSeq fun _ => (#[] : Array Value))).push (seqObj "tuple" its.toArray 0) := ⟨_, rfl⟩
  have up1 : ∀ b o, s.heap.get? b = some o → g1.get? b = some o := fun b o e => by
    have hb : b < s.heap.objs.size := Heap.lt_size e
    rw [hg1]
    refine Heap.get?_push_of_some _ ?_
    rw [Heap.get?_update_ne _ _ _ _ (Nat.ne_of_lt (Nat.lt_of_lt_of_le hb hfr))]
    exact PySem.W.copyHeap_old e
  have a1 : g1.get? a = some (seqObj "list" #[] e1) := by rw [hg1]; exact Heap.get?_push_of_some _ at2
  have I1 : Inv X pins σ H { s with heap := g1, toks := s.toks } := inv_more I up1
  have fa : FpOk X pins H a := I.fpOk hfr (I.hok.fresh hfr)
  have P1 := inv_pin (p := (a, seqObj "list" #[] e1)) I1 a1 fa (fun v e => by cases e)
  have hgs : s.heap.objs.size ≤ g1.objs.size := Nat.le_trans hfr (Nat.le_of_lt (Heap.lt_size a1))
  have fk : FpOk X ((a, seqObj "list" #[] e1) :: pins) H g1.objs.size := P1.fpOk (Nat.le_refl _) (I.hok.fresh hgs)
  have hka : g1.objs.size ≠ a := Nat.ne_of_gt (Heap.lt_size a1)
  have k2 : (g1.push (seqObj "list" #[] 0)).get? g1.objs.size = some (seqObj "list" #[] 0) := Heap.get?_push_size _ rfl
  have I2 : Inv X ((a, seqObj "list" #[] e1) :: pins) σ H { s with heap := g1.push (seqObj "list" #[] 0), toks := s.toks } := inv_more (s := { s with heap := g1, toks := s.toks }) P1 fun b o e => Heap.get?_push_of_some _ e
  have P2 := inv_pin (p := (g1.objs.size, seqObj "list" #[] 0)) I2 k2 fk (fun v e => by cases e)
  clear I1 P1 I2 k2
  generalize hkS : g1.objs.size = kS at *
  unfold ksk_tree
  refine wpAny_bind (listItems_at at1 rfl ?_)
  refine wpAny_bind (listUpdate_at at1 rfl ?_ (by rw [List.size_toArray]; exact hzi) (Nat.zero_le _))
  refine wpAny_bind (seqEpoch_at at2 rfl ?_)
  refine wpAny_bind (wpAny_newTuple ?_ hzi)
  refine wpAny_bind (wpAny_newList ?_ (Nat.zero_le _))
  refine wpAny_holding ?_
  have hkS' : (((PySem.W.copyHeap s.heap its).update a (Obj.mapSeq fun _ => (#[] : Array Value))).push { cls := .type "tuple", data := .seq its.toArray }).objs.size = kS := by rw [← hkS, hg1]
  rw [hkS']
  unfold ksk_rest
  refine wpAny_bind (wpAny_rule ?_)
  rw [List.forIn_toArray]
  refine wpAny_bind (ksk_fold (fun i s' => ∃ Hi kA e vs, Inv X ((kS, seqObj "list" kA e) :: (a, seqObj "list" #[] e1) :: pins) σ Hi s' ∧ Same H Hi ∧ Vals vs kA.toList ∧ Paired (KeyIs Hi) vs (ks.take i)) its 0 _
    ⟨H, #[], 0, [], by rw [hg1] at P2; exact P2, Same.refl _, .nil, by rw [List.take_zero]; exact .nil⟩ ?step ?done)
  case step =>
    rintro j x s' hx ⟨Hi, kA, e, vs, Ii, sm, vv, kp⟩
    simp only [Nat.zero_add] at kp ⊢
    obtain ⟨v, hv, rx⟩ := vals_at rv hx
    have hj : j < ks.length := by
      have := (List.getElem?_eq_some_iff.mp hv).1
      omega
    obtain ⟨kk, hkk⟩ : ∃ kk, ks[j]? = some kk := ⟨_, List.getElem?_eq_getElem hj⟩
    have hsz : kA.size ≤ its.length := by
      have h1 : vs.length = kA.toList.length := vv.length
      have h2 : vs.length = (ks.take j).length := Paired.length kp
      have h3 : xs.length = its.length := rv.length
      have h4 : kA.toList.length = kA.size := Array.length_toList
      have h5 : (ks.take j).length ≤ j := List.length_take_le ..
      omega
    refine wpAny_bind (wpAny_attempt (wpAny_mono (run_in2 (E := fun _ _ => False) F hr hb Ii rx (hs j v kk hv hkk Hi sm)) (fun u s2 he => ?_) fun _ _ hF => hF.elim))
    obtain ⟨vk, H2, I2, rk, sm2, ki⟩ := he
    try dsimp only
    obtain ⟨nk, hkn, _⟩ := I2.pin (kS, seqObj "list" kA e) (List.mem_append_right _ List.mem_cons_self)
    have s1 := Heap.SameBut.update s2.heap kS (Obj.mapSeq (·.push u))
    refine wpAny_bind (listUpdate_at nk rfl ?_ (Nat.le_trans hsz hzi) (by rw [Array.size_push]; omega))
    have I3 : Inv X ((a, seqObj "list" #[] e1) :: pins) σ H2 { s2 with heap := s2.heap.update kS (Obj.mapSeq (·.push u)), toks := s2.toks } :=
      (inv_unpin I2).turned (fun b o hb e => (s1.2 b hb).trans e) hkn fk.2.1 fk.2.2.2.1 fk.2.2.2.2.1 fk.2.2.2.2.2
    have P3 := inv_pin (p := (kS, seqObj "list" (kA.push u) _)) I3 (get?_update_seq nk (·.push u)) ⟨hkn, fk.2⟩ (fun v e => by cases e)
    refine wpAny_pure ⟨rfl, H2, kA.push u, _, vs ++ [vk], P3, sm.trans sm2, ?_, ?_⟩
    · rw [Array.toList_push]
      exact vals_snoc vv rk
    · rw [List.take_add_one, hkk]
      exact Paired.append (paired_mono (fun _ _ q => KeyIs.mono sm2 q) kp) (.cons ki .nil)
  case done =>
    rintro s' ⟨Hn, kA, e, vs, In, sm, vv, kp⟩
    have hlen := rv.length
    have ek : ks.take (0 + its.length) = ks := List.take_of_length_le (by omega)
    rw [ek] at kp
    obtain ⟨nk, hkn, _⟩ := In.pin (kS, seqObj "list" kA e) (List.mem_append_right _ List.mem_cons_self)
    obtain ⟨na, han, _⟩ := In.pin (a, seqObj "list" #[] e1) (List.mem_append_right _ (List.mem_cons_of_mem _ List.mem_cons_self))
    have hzip : (xs.zip ks).map (fun b => kdat b.2) = ks.map kdat := by
      have e2 : (xs.zip ks).map Prod.snd = ks := List.map_snd_zip (by omega)
      have e3 : (xs.zip ks).map (fun b => kdat b.2) = ((xs.zip ks).map Prod.snd).map kdat := by rw [List.map_map]; rfl
      rw [e3, e2]
    have hal : PySem.W.AllAlike (ks.map kdat) := by
      intro d hd d' hd'
      obtain ⟨x, _, rfl⟩ := List.mem_map.mp hd
      obtain ⟨y, _, rfl⟩ := List.mem_map.mp hd'
      simp [kdat, PySem.W.alike, PySem.W.alikeAll]
    have hso : PySem.W.Sortable (ks.map kdat) := .inl fun d hd => by
      obtain ⟨x, _, rfl⟩ := List.mem_map.mp hd
      exact ⟨_, _, rfl⟩
    have hrd := keys_reads In vv kp
    have hu : ∀ d, d ∈ ks.map kdat → X.A.in1.in1.units + d.depth < cLine := fun d hd => by
      obtain ⟨x, _, rfl⟩ := List.mem_map.mp hd
      have := hr.units
      show X.A.units + 1 + 1 + (kdat x).depth < cLine
      have : (kdat x).depth ≤ 4 := by simp [kdat, PyData.depth, PyData.depthAll]
      omega
    have hks : kA.size = its.length := by
      have h1 : vs.length = kA.toList.length := vv.length
      have h2 : vs.length = ks.length := Paired.length kp
      have h4 : kA.toList.length = kA.size := Array.length_toList
      omega
    obtain ⟨G, g1', g2'⟩ := restrict s'.heap fun b => decide (b ≠ kS)
    refine wpAny_bind (listItems_at nk rfl ?_)
    refine PySem.W.keyH_end (κ := PySem.W.dataKind s'.heap (ks.map kdat)) (h₁ := G) (fun b o _ q => ?_) (g2' kS (by simp)) nk na hka (PySem.W.SortsAt.data hrd hal hso hu) hks hzi fun h' tk c kb hD => ⟨rfl, ?_⟩
    · by_cases hb : b = kS
      · rw [hb, g2' kS (by simp)] at q
        cases q
      · rw [← g1' b (by simp [hb])]
        exact q
    have In0 := inv_unpin (inv_unpin In)
    have IG : Inv X pins σ Hn { s' with heap := G, toks := s'.toks } := In0.turned (it := kS) (fun b o hb q => by rw [g1' b (by simp [hb])]; exact q) hkn fk.2.1 fk.2.2.2.1 fk.2.2.2.2.1 (fun p hp => fk.2.2.2.2.2 p (by
      rcases List.mem_append.mp hp with hp | hp
      · exact List.mem_append_left _ hp
      · exact List.mem_append_right _ (List.mem_cons_of_mem _ hp)))
    have ko : PySem.W.KeyedOut false ((xs.zip ks).map fun b => kdat b.2) its (PySem.W.sortVals (PySem.W.dataKind s'.heap (ks.map kdat)) false kA.toList its) := ⟨s'.heap, kA.toList, by rw [hzip]; exact hal, by rw [hzip], by rw [hzip]; exact hrd⟩
    have ea := PySem.W.keyedOut_each (R := fun (u : Value) (b : V × (Int × Int)) => RelV b.1 u) (fun b => kdat b.2) ko (each_zip rv hk)
    have ele : PySem.W.dataLe false (fun b : V × (Int × Int) => kdat b.2) = fun p q => lexLe p.2 q.2 := by
      funext b c
      exact kdat_le (fun b : V × (Int × Int) => b.2) b c
    rw [ele] at ea
    have hlz : (((xs.zip ks).mergeSort fun p q => lexLe p.2 q.2).map (·.1)).length ≤ sizeLine := by
      rw [List.length_map, List.length_mergeSort, List.length_zip]
      omega
    have hob : ObjOk X.prog X.w (upd Hn a (.lst (((xs.zip ks).mergeSort fun p q => lexLe p.2 q.2).map (·.1)))) h' a (.lst (((xs.zip ks).mergeSort fun p q => lexLe p.2 q.2).map (·.1))) := ⟨hlz, _, c, each_vals ea, hD⟩
    have If := Inv.take (s := { s' with heap := G, toks := s'.toks }) (t' := tk) IG (fun b o hb q => kb b o hb q) ⟨han, fa.2⟩ hob
    exact ⟨.ref a, _, If, rfl, q a Hn sm han⟩
def rSortKT (K : PySem.W.Frag) (F : Addr) (sp : Sp) : List V → List V → Hp → VK → Prop := fun vs zs H Q => ∃ (l : Addr) (xs : List V) (ks : List (Int × Int)), vs = [.ref l] ∧ zs = [.ref F] ∧ SqT K H l xs ∧ ks.length = xs.length ∧
  (∀ (i : Nat) (v : V) (kk : Int × Int), xs[i]? = some v → ks[i]? = some kk → ∀ H1, Same H H1 → sp [v] H1 (fun u H2 => Same H1 H2 ∧ KeyIs H2 u kk) fun _ _ _ => False) ∧
  ∀ a H1, Same H H1 → H1 a = none → Q (.ref a) (upd H1 a (.lst (((xs.zip ks).mergeSort fun p q => lexLe p.2 q.2).map (·.1))))
end
variable {A : Amb} {ca : Nat → Addr}
section
variable {S α : Type} {Γ : Cxt S} {τ : Ty α} {a b : Expr} {pos p p2 p3 : Pos} {x y : Str} {f : S → Rs (List α)}
theorem PL.sortedKT {m : α → Rs (Int × Int)} (B : Blt A x (.builtin "sorted")) (C : CalleeK A ca y (.one τ) (tTup (.cons tI (.one tI))) m) (hg : GlA A y) (ha : PX A ca a Γ (tT τ) f) (h1 : star a = false := by rfl) : PL A ca (.Call (.Name x p) [a] [⟨some "key", .Name y p2, p3⟩] pos) Γ (cL τ) (fun s => (f s).bind (srtK m)) := by
  obtain ⟨ta, pa, qa⟩ := ha
  obtain ⟨fa, fd, ps, k, hk, F, hm, kp, hb⟩ := C.ex
  refine ⟨tCKw (rSortKT A.K fa (spOf A.K ca (.one τ) (tTup (.cons tI (.one tI))) m)) (tCons ta tNil) (tCons (tC (.ref fa)) tNil), fun X hX => ?_, fun O σ H s Q hs hp => ?_⟩
  · have hcr : CallRK X (.builtin "sorted") [Str.ofString "key"] (rSortKT A.K fa (spOf A.K ca (.one τ) (tTup (.cons tI (.one tI))) m)) := by
      intro pins s σ H vs zs us ws Q I rv rz h
      obtain ⟨l, xs, ks, rfl, rfl, h1, h2, h3, h4⟩ := h
      obtain rfl := Vals.ref1 rv
      obtain rfl := Vals.ref1 rz
      obtain ⟨prog, w, K, mg, base, N, sc, fn, nd, calm, room, pass, own, takes, top⟩ := hX
      exact sortedK_runT (k := k) (fd := fd) (ps := ps) (by rw [prog, w, K, mg, base]; exact F) (room.mono hk) (by rw [K]; exact hb) I (by rw [K]; exact h1) h2 h3 h4
    exact pe_callBK hcr (hX.gl B.gl) (by rw [hX.mg]; exact B.mg) B.bt (pa_cons (pa X hX) pa_nil (star_each h1)) (pk_cons (pe_glob (hX.gl hg) (by rw [hX.mg]; exact hm) rfl C.db) pk_nil) B.nn B.db (by rw [star_each h1]; rfl) (by rw [star_each h1]; rfl)
  · refine qa O σ H s _ hs ((Rs.post_bind hp).mono (fun xs k2 v0 H1 s1 rr0 => ?_) fun _ z => z)
    obtain ⟨l, vs, rfl, e, z, r⟩ := rr0
    unfold srtK at k2
    cases hkm : keysM m xs with
    | exc c => rw [hkm] at k2; exact k2.elim
    | bad => rw [hkm] at k2; exact k2.elim
    | ok ks =>
      rw [hkm] at k2
      obtain ⟨hl, hkey⟩ := keysM_len hkm
      have hvl := Paired.length r
      refine ⟨l, vs, ks, rfl, rfl, .inl (.inl (cut_le _ _ e)), by omega, fun i v kk hv hkk H2 s2 => ?_, fun q H2 s2 n => ?_⟩
      · obtain ⟨hi, _⟩ := List.getElem?_eq_some_iff.mp hkk
        obtain ⟨x', hx'⟩ : ∃ x', xs[i]? = some x' := ⟨_, List.getElem?_eq_getElem (by omega)⟩
        obtain ⟨v', hv', rv⟩ := Paired.get r hx'
        rw [hv] at hv'
        cases hv'
        have e1 := hkey i x' kk hx' hkk
        refine ⟨O, x', fun p hp => ?_, ⟨v, rfl, τ.mono (cut_grow s2) rv⟩, ?_⟩
        · have h0 := (hs.grow (s1.trans s2)).hid p hp
          exact h0
        · rw [e1]
          intro u H3 s3 rep
          obtain ⟨t, us, rfl, et, v1, r1, rfl, q1, v2, rfl, q2⟩ := rep
          refine ⟨s3, t, rfl, ?_⟩
          rw [show v1 = .int kk.1 from q1, show v2 = .int kk.2 from q2] at et
          exact cut_le _ _ et
      · have hle : (((vs.zip ks).mergeSort fun p q => lexLe p.2 q.2).map (·.1)).length ≤ sizeLine := by
          rw [List.length_map, List.length_mergeSort, List.length_zip]
          omega
        refine k2 q _ _ ((s1.trans s2).free n) ((s1.trans s2).trans (same_upd n)) upd_same hle ?_
        exact Paired.mono' (cut_new n) (paired_sort (Paired.mono' (cut_grow s2) r) (by omega))
theorem PX.isB {f g : S → Rs Bool} (hm : behindInMarks .Is b = false) (ha : PX A ca a Γ tB f) (hb : PX A ca b Γ tB g) : PX A ca (.Compare a [.Is] [b] pos) Γ tB (fun s => (f s).bind fun x => (g s).bind fun y => .ok (decide (x = y))) := by
  obtain ⟨ta, pa, qa⟩ := ha
  obtain ⟨tb, pb, qb⟩ := hb
  refine ⟨_, fun X hX => pe_cmpR op_isBl (pa X hX) (pb X hX) hm, fun O σ H s Q hs hp => PX.two qa qb hs hp fun x y v u H2 sm r1 r2 k => ?_⟩
  exact ⟨x, y, r1, r2, k _ H2 sm rfl⟩
theorem PB.isB {f g : S → Rs Bool} (hm : behindInMarks .Is b = false) (ha : PX A ca a Γ tB f) (hb : PX A ca b Γ tB g) : PB A ca (.Compare a [.Is] [b] pos) Γ (fun s => (f s).bind fun x => (g s).bind fun y => .ok (decide (x = y))) := by
  obtain ⟨ta, pa, qa⟩ := ha
  obtain ⟨tb, pb, qb⟩ := hb
  refine ⟨_, fun X hX => pt_cmpR op_isBl (pa X hX) (pb X hX) hm, fun O σ H s Q hs hp => PX.two qa qb hs hp fun x y v u H2 sm r1 r2 k => ?_⟩
  exact ⟨x, y, r1, r2, _, rfl, k H2 sm⟩
theorem PX.notB {f g : S → Rs Bool} (hm : behindInMarks .IsNot b = false) (ha : PX A ca a Γ tB f) (hb : PX A ca b Γ tB g) : PX A ca (.Compare a [.IsNot] [b] pos) Γ tB (fun s => (f s).bind fun x => (g s).bind fun y => .ok (!decide (x = y))) := by
  obtain ⟨ta, pa, qa⟩ := ha
  obtain ⟨tb, pb, qb⟩ := hb
  refine ⟨_, fun X hX => pe_cmpR op_notBl (pa X hX) (pb X hX) hm, fun O σ H s Q hs hp => PX.two qa qb hs hp fun x y v u H2 sm r1 r2 k => ?_⟩
  exact ⟨x, y, r1, r2, k _ H2 sm rfl⟩
theorem PB.notB {f g : S → Rs Bool} (hm : behindInMarks .IsNot b = false) (ha : PX A ca a Γ tB f) (hb : PX A ca b Γ tB g) : PB A ca (.Compare a [.IsNot] [b] pos) Γ (fun s => (f s).bind fun x => (g s).bind fun y => .ok (!decide (x = y))) := by
  obtain ⟨ta, pa, qa⟩ := ha
  obtain ⟨tb, pb, qb⟩ := hb
  refine ⟨_, fun X hX => pt_cmpR op_notBl (pa X hX) (pb X hX) hm, fun O σ H s Q hs hp => PX.two qa qb hs hp fun x y v u H2 sm r1 r2 k => ?_⟩
  exact ⟨x, y, r1, r2, _, rfl, k H2 sm⟩
end
end TL
/-! TL26: types made narrower, where the value allows it. -/
namespace TL
open PySem PySem.Spec PyProof.Rows L2
variable {A : Amb} {ca : Nat → Addr}
structure Tp {α β : Type} (τ : Ty α) (τ' : Ty β) (g : α → Option β) : Prop where
  to : ∀ {K : PySem.W.Frag} {H : Hp} {v : V} {a : α} {b : β}, g a = some b → τ.rep K H v a → τ'.rep K H v b
theorem Tp.of {α β : Type} {τ : Ty α} {τ' : Ty β} {g : α → β} (h : Tc τ τ' g) : Tp τ τ' (fun a => some (g a)) := ⟨fun e r => by cases e; exact h.to r⟩
theorem Tp.unw {α : Type} {τ : Ty α} : Tp (tO τ) τ (fun a => a) := ⟨fun {K H v a b} e r => by subst e; exact r⟩
theorem Tp.comp {α β γ : Type} {τ : Ty α} {τ' : Ty β} {τ'' : Ty γ} {g : α → Option β} {h : β → Option γ} (p : Tp τ τ' g) (q : Tp τ' τ'' h) : Tp τ τ'' (fun a => (g a).bind h) := ⟨fun {K H v a c} e r => by
  cases hg : g a with
  | none => rw [hg] at e; cases e
  | some b => rw [hg] at e; exact q.to e (p.to hg r)⟩
structure Tps {α β : Type} (ts : Tys α) (us : Tys β) (g : α → Option β) : Prop where
  to : ∀ {K : PySem.W.Frag} {H : Hp} {vs : List V} {a : α} {b : β}, g a = some b → ts.rep K H vs a → us.rep K H vs b
theorem Tps.one {α β : Type} {τ : Ty α} {τ' : Ty β} {g : α → Option β} (p : Tp τ τ' g) : Tps (.one τ) (.one τ') g := ⟨fun e r => by
  obtain ⟨v, rfl, r⟩ := r
  exact ⟨v, rfl, p.to e r⟩⟩
theorem Tps.cons {α β γ δ : Type} {τ : Ty α} {τ' : Ty β} {ts : Tys γ} {us : Tys δ} {g : α → Option β} {h : γ → Option δ} (p : Tp τ τ' g) (q : Tps ts us h) : Tps (.cons τ ts) (.cons τ' us) (fun a => (g a.1).bind fun x => (h a.2).map fun y => (x, y)) := ⟨fun {K H vs a b} e r => by
  obtain ⟨v, w, rfl, r1, r2⟩ := r
  cases hg : g a.1 with
  | none => rw [hg] at e; cases e
  | some x =>
    cases hh : h a.2 with
    | none => rw [hg, hh] at e; cases e
    | some y =>
      rw [hg, hh] at e
      cases e
      exact ⟨v, w, rfl, p.to hg r1, q.to hh r2⟩⟩
theorem Tp.tup {α β : Type} {ts : Tys α} {us : Tys β} {g : α → Option β} (p : Tps ts us g) : Tp (tTup ts) (tTup us) g := ⟨fun e r => by
  obtain ⟨a, vs, rfl, h, r⟩ := r
  exact ⟨a, vs, rfl, h, p.to e r⟩⟩
def mapO {α β : Type} (g : α → Option β) : List α → Option (List β)
  | [] => some []
  | x :: r => (g x).bind fun y => (mapO g r).map fun ys => y :: ys
theorem paired_mapO {α β : Type} {τ : Ty α} {τ' : Ty β} {g : α → Option β} (p : Tp τ τ' g) {K : PySem.W.Frag} {H : Hp} : ∀ {as : List α} {vs : List V} {bs : List β}, mapO g as = some bs → Paired (τ.rep K H) vs as → Paired (τ'.rep K H) vs bs
  | [], vs, bs, e, h => by
    cases h
    cases e
    exact .nil
  | a :: as, vs, bs, e, h => by
    cases h with
    | cons h r =>
      unfold mapO at e
      cases hg : g a with
      | none => rw [hg] at e; cases e
      | some y =>
        cases hr : mapO g as with
        | none => rw [hg, hr] at e; cases e
        | some ys =>
          rw [hg, hr] at e
          cases e
          exact .cons (p.to hg h) (paired_mapO p hr r)
theorem Tp.lst {α β : Type} {τ : Ty α} {τ' : Ty β} {g : α → Option β} (p : Tp τ τ' g) : Tp (tL τ) (tL τ') (mapO g) := ⟨fun e r => by
  obtain ⟨a, vs, rfl, h, z, r⟩ := r
  exact ⟨a, vs, rfl, h, z, paired_mapO p e r⟩⟩
theorem Tp.tpl {α β : Type} {τ : Ty α} {τ' : Ty β} {g : α → Option β} (p : Tp τ τ' g) : Tp (tT τ) (tT τ') (mapO g) := ⟨fun e r => by
  obtain ⟨a, vs, rfl, h, z, r⟩ := r
  exact ⟨a, vs, rfl, h, z, paired_mapO p e r⟩⟩
theorem PX.pa {S α β : Type} {Γ : Cxt S} {τ : Ty α} {τ' : Ty β} {e : Expr} {f : S → Rs α} {g : α → Option β} (h : PX A ca e Γ τ f) (p : Tp τ τ' g) : PX A ca e Γ τ' (fun s => (f s).bind fun a => Rs.ofOpt (g a)) := by
  obtain ⟨t, ht, q⟩ := h
  refine ⟨t, ht, fun O σ H s Q hs hp => q O σ H s Q hs ((Rs.post_bind hp).mono (fun a k v H' sm r => ?_) fun _ z => z)⟩
  obtain ⟨b, e, k⟩ := Rs.post_ofOpt k
  exact k v H' sm (p.to e r)
theorem any_one {S : Type} {Γ : Cxt S} {i : Nat} (h : AnyAt Γ i) : ∀ j ∈ [i], AnyAt Γ j := fun j hj => by rw [List.mem_singleton.mp hj]; exact h
theorem any_cons {S : Type} {Γ : Cxt S} {i : Nat} {l : List Nat} (h : AnyAt Γ i) (r : ∀ j ∈ l, AnyAt Γ j) : ∀ j ∈ i :: l, AnyAt Γ j := fun j hj => by
  rcases List.mem_cons.mp hj with z | z
  · rw [z]; exact h
  · exact r j z
theorem PX.oneV {S α : Type} {Γ : Cxt S} {τ : Ty α} {a : Expr} {pos : Pos} {f1 : S → Rs α} {op : BoolOp} (h : PX A ca a Γ τ f1) : PX A ca (.BoolOp op [a] pos) Γ τ f1 := let ⟨t, p, q⟩ := h; ⟨t, fun X hX => pe_one (p X hX), q⟩
theorem spOf_nox {K : PySem.W.Frag} {ca ca' : Nat → Addr} {U β : Type} {ts : Tys U} {τ : Ty β} {m : U → Rs β} : ∀ vs H Q E, spOf K ca' ts τ (fun u => nox (m u)) vs H Q E → spOf K ca ts τ m vs H Q E := fun vs H Q E ⟨O, u, h1, h2, h3⟩ => ⟨O, u, h1, h2, by
  dsimp only at h3
  cases hm : m u with
  | ok b => rw [hm] at h3; exact h3
  | exc c => rw [hm] at h3; exact h3.elim
  | bad => rw [hm] at h3; exact h3.elim⟩
end TL
/-! TL27: lists and dicts whose lists are a slot's own, too. -/
namespace TL
open PySem PySem.Spec PyProof.Rows L2
variable {A : Amb} {ca : Nat → Addr}
/-! ### what such a slot holds -/
def Inl {α : Type} (c : Ct α) (K : PySem.W.Frag) (G H : Hp) (q : Addr) (a : α) : Prop := ∃ vs, H q = some (.lst vs) ∧ vs.length ≤ sizeLine ∧ c.rep K G vs a
section
variable {α : Type} {c : Ct α} {K : PySem.W.Frag} {G G' H H' : Hp} {ps : List Addr}
theorem Inls.mono (s : Same G G') {as : List α} (h : Paired (Inl c K G H) ps as) (hH : ∀ q ∈ ps, ∀ o, H q = some o → H' q = some o) : Paired (Inl c K G' H') ps as := by
  induction h with
  | nil => exact .nil
  | cons r _ ih =>
    refine .cons ?_ (ih fun q hq => hH q (List.mem_cons_of_mem _ hq))
    obtain ⟨vs, e, z, r⟩ := r
    exact ⟨vs, hH _ (by simp) _ e, z, c.mono s r⟩
theorem pair_get {β γ : Type} {R : β → γ → Prop} {as : List β} {bs : List γ} (h : Paired R as bs) : ∀ {n : Nat} {b : γ}, bs[n]? = some b → ∃ a, as[n]? = some a ∧ R a b := by
  induction h with
  | nil => intro n b e; simp at e
  | cons r _ ih =>
    intro n b e
    cases n with
    | zero => simp at e; subst e; exact ⟨_, rfl, r⟩
    | succ n => simpa using ih (n := n) (b := b) (by simpa using e)
/-- one of them is written -/
theorem Inls.set {as : List α} (h : Paired (Inl c K G H) ps as) (nd : ps.Nodup) {n : Nat} {q : Addr} {b : α} {ws : List V} (hq : ps[n]? = some q) (hz : ws.length ≤ sizeLine) (hr : c.rep K G ws b) : Paired (Inl c K G (upd H q (.lst ws))) ps (as.set n b) := by
  induction h generalizing n with
  | nil => simp at hq
  | @cons p a ps as r t ih =>
    obtain ⟨n1, n2⟩ := List.nodup_cons.mp nd
    cases n with
    | zero =>
      simp at hq
      subst hq
      refine .cons ⟨ws, upd_same, hz, hr⟩ (Inls.mono (Same.refl G) t fun z hz o e => ?_)
      rw [upd_ne (fun e => n1 (by rw [← e]; exact hz))]; exact e
    | succ n =>
      have hq : ps[n]? = some q := by simpa using hq
      have hm : q ∈ ps := List.mem_of_getElem? hq
      refine .cons ?_ (ih n2 hq)
      obtain ⟨vs, e, z, r⟩ := r
      exact ⟨vs, by rw [upd_ne (fun e => n1 (by rw [e]; exact hm))]; exact e, z, r⟩
end
def zipK {α : Type} : List Addr → List ((Int × Int) × α) → List (List L2.Key × V)
  | q :: ps, a :: as => (pk a.1, .ref q) :: zipK ps as
  | _, _ => []
/-- a list of lists -/
def cLL {α : Type} (c : Ct α) : Cn (List α) := ⟨fun K G H p ps as => H p = some (.lst (ps.map V.ref)) ∧ ps.length ≤ sizeLine ∧ Paired (Inl c K G H) ps as,
  fun {K G G' H H' p ps a} s hH h => ⟨hH p (by simp) _ h.1, h.2.1, Inls.mono s h.2.2 fun q hq => hH q (List.mem_cons_of_mem _ hq)⟩⟩
/-- a dict of lists, its keys pairs -/
def cDL {α : Type} (c : Ct α) : Cn (List ((Int × Int) × α)) := ⟨fun K G H p ps as => H p = some (.dT (zipK ps as)) ∧ ps.length ≤ sizeLine ∧ Paired (Inl c K G H) ps (as.map (·.2)),
  fun {K G G' H H' p ps a} s hH h => ⟨hH p (by simp) _ h.1, h.2.1, Inls.mono s h.2.2 fun q hq => hH q (List.mem_cons_of_mem _ hq)⟩⟩
theorem zipK_len {α : Type} : ∀ {ps : List Addr} {as : List ((Int × Int) × α)}, ps.length = as.length → (zipK ps as).length = ps.length
  | [], [], _ => rfl
  | [], _ :: _, h => by simp at h
  | _ :: _, [], h => by simp at h
  | _ :: ps, _ :: as, h => by
    have := zipK_len (ps := ps) (as := as) (by simpa using h)
    simp [zipK, this]
/-! ### reading, writing, freezing -/
structure WrN {S : Type} (Γ : Cxt S) (i : Nat) {α : Type} (c : Cn α) (g : S → α) (put : S → α → S) : Prop where
  write : ∀ {K : PySem.W.Frag} {G H : Hp} {σ : L2.St} {O : List Addr} {s : S}, Γ.rep K G H σ O s → O.Nodup →
    ∃ p ps, σ[i]? = some (some (.ref p)) ∧ (∀ z ∈ p :: ps, z ∈ O) ∧ (p :: ps).Nodup ∧ c.rep K G H p ps (g s) ∧ ∀ q ∈ p :: ps, ∀ (o : HO) (b : α), c.rep K G (upd H q o) p ps b → Γ.rep K G (upd H q o) σ O (put s b)
theorem WrN.z {α S : Type} {c : Cn α} {Γ : Cxt S} : WrN (.cons (.ownN c) Γ) 0 c (fun s => s.1) (fun s b => (b, s.2)) := ⟨by
  rintro K G H σ O s hr nd
  obtain ⟨y, σ', O1, O2, rfl, rfl, h1, h2⟩ := hr
  obtain ⟨p, ps, rfl, rfl, r⟩ := h1
  obtain ⟨n1, n2, n3⟩ := List.nodup_append.mp nd
  refine ⟨p, ps, rfl, fun z hz => List.mem_append_left _ hz, n1, r, fun q hq o b hb => ⟨_, σ', p :: ps, O2, rfl, rfl, ⟨p, ps, rfl, rfl, hb⟩, ?_⟩⟩
  refine Cxt.mono (fun _ _ h => h) _ (fun z hz x e => ?_) h2
  rw [upd_ne (fun e => n3 q hq z hz e.symm)]; exact e⟩
theorem WrN.s {α γ S : Type} {c : Cn α} {j : Sl γ} {Γ : Cxt S} {i : Nat} {g : S → α} {p : S → α → S} (h : WrN Γ i c g p) : WrN (.cons j Γ) (i + 1) c (fun s => g s.2) (fun s b => (s.1, p s.2 b)) := ⟨by
  rintro K G H σ O s hr nd
  obtain ⟨y, σ', O1, O2, rfl, rfl, h1, h2⟩ := hr
  obtain ⟨p, ps, e1, e2, e3, r, hw⟩ := h.write h2 (List.nodup_append.mp nd).2.1
  refine ⟨p, ps, by simpa using e1, fun z hz => List.mem_append_right _ (e2 z hz), e3, r, fun q hq o b hb => ⟨_, σ', O1, O2, rfl, rfl, ?_, hw q hq o b hb⟩⟩
  refine Sl.mono (fun _ _ h => h) _ (fun z hz x e => ?_) h1
  rw [upd_ne (fun e => (List.nodup_append.mp nd).2.2 z hz q (e2 q hq) e)]; exact e⟩
theorem Cv.freezeLL {α : Type} {τ : Ty α} : Cv (.ownN (cLL (cL τ))) (.val (tL (tL τ))) (fun a => a) := ⟨fun {K G H x O a} r => by
  obtain ⟨p, ps, rfl, rfl, e, z, r⟩ := r
  refine ⟨[], List.nil_sublist _, fun {G'} s h => ⟨rfl, _, rfl, p, ps.map V.ref, rfl, by rw [h p (by simp) (by simp)]; exact e, by rw [List.length_map]; exact z, ?_⟩⟩
  have h' : ∀ q ∈ ps, G' q = H q := fun q hq => h q (List.mem_cons_of_mem _ hq) (by simp)
  clear e z h
  induction r with
  | nil => exact .nil
  | cons r _ ih =>
    obtain ⟨vs, e, z, r⟩ := r
    exact .cons ⟨_, vs, rfl, by rw [h' _ (by simp)]; exact e, z, Paired.mono' s r⟩ (ih fun q hq => h' q (List.mem_cons_of_mem _ hq))⟩
theorem Cv.freezeDL {α : Type} {τ : Ty α} : Cv (.ownN (cDL (cL τ))) (.val (tD (tL τ))) (fun a => a) := ⟨fun {K G H x O a} r => by
  obtain ⟨p, ps, rfl, rfl, e, z, r⟩ := r
  have hl : ps.length = a.length := by rw [Paired.length r, List.length_map]
  refine ⟨[], List.nil_sublist _, fun {G'} s h => ⟨rfl, _, rfl, p, zipK ps a, rfl, by rw [h p (by simp) (by simp)]; exact e, by rw [zipK_len hl]; exact z, ?_⟩⟩
  have h' : ∀ q ∈ ps, G' q = H q := fun q hq => h q (List.mem_cons_of_mem _ hq) (by simp)
  clear e z h hl
  generalize ha : a.map (·.2) = bs at r
  induction r generalizing a with
  | nil =>
    cases a with
    | nil => exact .nil
    | cons => simp at ha
  | cons r _ ih =>
    cases a with
    | nil => simp at ha
    | cons a as =>
      simp only [List.map_cons, List.cons.injEq] at ha
      obtain ⟨rfl, h2⟩ := ha
      obtain ⟨vs, e, z, r⟩ := r
      exact .cons ⟨rfl, _, vs, rfl, by rw [h' _ (by simp)]; exact e, z, Paired.mono' s r⟩ (ih (fun q hq => h' q (List.mem_cons_of_mem _ hq)) h2)⟩
section
variable {K : PySem.W.Frag} {F : Fm} {L : Lo} {R R' : Mn} {Og : List Addr} {S S' : Type} {Γ : Cxt S} {Γ' : Cxt S'} {σ : L2.St} {H H' : Hp} {s : S} {i : Nat}
/-- one of the lists that a slot owns is written -/
theorem RSo.writeN {β : Type} {c : Cn β} {g : S → β} {put : S → β → S} (h : RSo K F L R Og Γ σ H s) (hw : WrN Γ i c g put) :
    ∃ p ps, σ[i]? = some (some (.ref p)) ∧ (p :: ps).Nodup ∧ c.rep K (cut H (hid F L Og)) H p ps (g s) ∧ (∀ q ∈ p :: ps, q ∈ hid F L Og) ∧
      ∀ q ∈ p :: ps, ∀ (vs ws : List V) (b : β), H q = some (.lst vs) → c.rep K (cut H (hid F L Og)) (upd H q (.lst ws)) p ps b → RSo K F L R Og Γ σ (upd H q (.lst ws)) (put s b) := by
  obtain ⟨p, ps, e1, e2, e3, r, hq⟩ := hw.write h.rep (List.nodup_append.mp h.nd).2.1
  have hO : ∀ q ∈ p :: ps, q ∈ hid F L Og := fun q hq => List.mem_append_right _ (List.mem_append_right _ (e2 q hq))
  refine ⟨p, ps, e1, e3, r, hO, fun q hm vs ws b ev hd => ?_⟩
  have hL : ∀ x ∈ L, x.1 ≠ q := fun x hx e => (List.nodup_append.mp h.nd).2.2 x.1 (List.mem_map.mpr ⟨x, hx, rfl⟩) q (e2 q hm) e
  have nw := hq q hm _ b hd
  have hn : ∀ z, Hidn H z → Hidn (upd H q (.lst ws)) z := fun z hz => by
    by_cases e : z = q
    · rw [e]; exact Hidn.lst upd_same
    · obtain ⟨o, h1, h2⟩ := hz
      exact ⟨o, by rw [upd_ne e]; exact h1, h2⟩
  refine ⟨by rw [cut_upd (hO q hm)]; exact nw, by rw [cut_upd (hO q hm)]; exact h.rs, h.nd, fun z hz => ⟨(h.ow z hz).1, (h.ow z hz).2.1, hn z (h.ow z hz).2.2⟩, fun x hx => by rw [upd_ne (hL x hx)]; exact h.lo x hx, fun b' o e hb => ?_, h.hb, fun z hz => hn z (h.hi z hz)⟩
  have : b' ≠ q := fun z => by
    rw [z] at e hb
    rcases (h.ow q (List.mem_append_right _ (e2 q hm))).1 with n | n
    · rw [e] at n; cases n
    · exact hb n
  rw [upd_ne this]
  exact h.fr b' o e hb
/-- new lists, one of them the first: a slot owns them all -/
theorem RSo.storeN {β : Type} {c : Cn β} {p : Addr} {ps : List Addr} {b : β} {put : S → β → S'} (h : RSo K F [] R Og Γ σ H s) (sm : Same H H') (n : ∀ q ∈ p :: ps, H q = none) (nd : (p :: ps).Nodup) (hd : ∀ q ∈ p :: ps, Hidn H' q) (hp : Put Γ i (.ownN c) Γ' put)
    (hc : c.rep K (cut H' ((p :: ps) ++ hid F [] Og)) H' p ps b) : RS K F [] R Γ' (σ.set i (some (.ref p))) H' (put s b) := by
  have key : Same (cut H (hid F [] Og)) (cut H' ((p :: ps) ++ hid F [] Og)) := fun b x e => by
    by_cases hO : b ∈ hid F [] Og
    · rw [cut_in hO] at e; cases e
    · rw [cut_out hO] at e
      rw [cut_out (fun z => by
        rcases List.mem_append.mp z with z | z
        · rw [n b z] at e; cases e
        · exact hO z)]
      exact sm _ _ e
  have h1 : Γ.rep K (cut H' ((p :: ps) ++ hid F [] Og)) H' σ Og s := Γ.mono key (fun q _ o z => sm q o z) h.rep
  obtain ⟨Oa, Oi, Ob, rfl, r⟩ := hp.set (x := some (.ref p)) (Ox := p :: ps) (b := b) h1 ⟨p, ps, rfl, rfl, hc⟩
  have hin : ∀ z ∈ Oa ++ ((p :: ps) ++ Ob), z ∈ (p :: ps) ++ (Oa ++ (Oi ++ Ob)) := fun z hz => by
    simp only [List.mem_append] at hz ⊢
    rcases hz with y | y | y
    · exact .inr (.inl y)
    · exact .inl y
    · exact .inr (.inr (.inr y))
  have sm2 : Same (cut H' ((p :: ps) ++ hid F [] (Oa ++ (Oi ++ Ob)))) (cut H' (hid F [] (Oa ++ ((p :: ps) ++ Ob)))) := cut_sub fun z hz => by
    rcases List.mem_append.mp hz with y | y
    · exact List.mem_append_right _ (List.mem_append_left _ y)
    · have y : z ∈ Oa ++ ((p :: ps) ++ Ob) := by simpa using y
      rcases List.mem_append.mp (hin z y) with w | w
      · exact List.mem_append_left _ w
      · exact List.mem_append_right _ (List.mem_append_right _ (by simpa using w))
  have nO : ∀ q ∈ p :: ps, q ∉ hid F [] (Oa ++ (Oi ++ Ob)) := fun q hq z => (h.hidden q z).ne (n q hq)
  have nd2 : (Oa ++ ((p :: ps) ++ Ob)).Nodup := by
    have b1 : (Oa ++ Ob).Nodup := ((List.Sublist.refl Oa).append (List.sublist_append_right Oi Ob)).nodup (by simpa using h.nd)
    have b2 : ((p :: ps) ++ (Oa ++ Ob)).Nodup := List.nodup_append.mpr ⟨nd, b1, fun x hx y hy e => nO x hx (List.mem_append_right _ (List.mem_append_right _ (by
      rw [e]
      rcases List.mem_append.mp hy with w | w
      · exact List.mem_append_left _ w
      · exact List.mem_append_right _ (List.mem_append_right _ w))))⟩
    have pm : ((p :: ps) ++ (Oa ++ Ob)).Perm (Oa ++ ((p :: ps) ++ Ob)) := by
      rw [← List.append_assoc, ← List.append_assoc]
      exact List.perm_append_comm.append_right Ob
    exact pm.nodup b2
  have nH : ∀ q ∈ p :: ps, F.H0 q = none := fun q hq => by
    have nI : q ∉ F.I := fun z => (h.hi q z).ne (n q hq)
    cases w : F.H0 q with
    | none => rfl
    | some o => have := h.fr q o w nI; rw [n q hq] at this; cases this
  refine ⟨_, Γ'.mono sm2 (fun _ _ _ z => z) r, R.mono (key.trans sm2) h.rs, by simpa using nd2, fun z hz => ?_, fun x hx => (by cases hx), fun b' o e hb => sm _ _ (h.fr b' o e hb), h.hb, fun z hz => (h.hi z hz).same sm⟩
  rcases List.mem_append.mp (hin z (by simpa using hz)) with y | y
  · exact ⟨.inl (nH z y), fun w => nO z y (List.mem_append_left _ w), hd z y⟩
  · have y' : z ∈ ([] : Lo).map (·.1) ++ (Oa ++ (Oi ++ Ob)) := by simpa using y
    exact ⟨(h.ow z y').1, (h.ow z y').2.1, (h.ow z y').2.2.same sm⟩
end
end TL
/-! TL28: rows[x], rows[x].append(..), rows[x].remove(..), d[k].append(..). -/
namespace TL
open PySem PySem.Spec PyProof.Rows L2
variable {A : Amb} {ca : Nat → Addr}
section
variable {ρ S S' S'' L α β γ U : Type} {Γ : Cxt S} {Γ' : Cxt S'} {Γ'' : Cxt S''} {Γl : Cxt L} {rr : Rr ρ} {τ : Ty α} {τ' : Ty β} {c : Ct α} {c' : Ct β} {e a b d tg iter : Expr} {pos p p2 py : Pos} {x y : Str} {st : Stmt} {sts : List Stmt} {i j : Nat}
def upD (k : Int × Int) (h : α → Rs α) : List ((Int × Int) × α) → Rs (List ((Int × Int) × α))
  | [] => .bad
  | q :: r => if q.1 = k then (h q.2).bind fun b => .ok ((q.1, b) :: r) else (upD k h r).bind fun r' => .ok (q :: r')
theorem atI_map {f : α → β} (as : List α) (j : Int) : atI (as.map f) j = (atI as j).map f := by
  unfold atI
  rw [List.length_map]
  cases ixN as.length j with
  | none => rfl
  | some n => simp
/-- rows[x], looked at -/
theorem BX.ixLL {fi : S → Rs Int} {g : S → List α} (at_ : At Γ i (.ownN (cLL c)) g) (hN : A.N[i]? = some x) (hv : Vis A.sc x) (hs : PlainIx b) (hb : PX A ca b Γ tI fi) (hd : (x == ("__debug__" : Str)) = false := by decide) (hcd : (x == ("__classdict__" : Str)) = false := by decide) :
    BX A ca (.Subscript (.Name x p) b pos) Γ c (fun s => (fi s).bind fun j => Rs.ofOpt (atI (g s) j)) := by
  obtain ⟨tb, pb, qb⟩ := hb
  refine ⟨tOp (rIxL A.K) (tVar i) tb, fun X hX => by rw [← hX.K]; exact pe_ix ix_list (pe_var (by rw [hX.N]; exact hN) (by rw [hX.sc]; exact hv) hd hcd) (pb X hX) hs, fun O σ H s Q hs hp => ?_⟩
  have hs0 := hs
  obtain ⟨⟨Og, h1, h2⟩, h3⟩ := hs
  obtain ⟨xv, Oi, e1, _, q, ps, rfl, rfl, r⟩ := at_.val h2
  refine ⟨_, e1, qb O σ H s _ hs0 ((Rs.post_bind hp).mono (fun jj k v H2 s2 ri => ?_) fun _ z => z)⟩
  obtain ⟨a, ea, k⟩ := Rs.post_ofOpt k
  have r2 := (cLL c).mono (cut_grow s2) (fun z _ o e => s2 _ _ e) r
  unfold atI at ea
  cases en : ixN (g s).length jj with
  | none => rw [en] at ea; cases ea
  | some n =>
    rw [en] at ea
    obtain ⟨l, el, vs, ev, z, rv⟩ := pair_get r2.2.2 (n := n) (b := a) ea
    have hl : ps.length = (g s).length := Paired.length r.2.2
    refine ⟨q, _, jj, .ref l, rfl, ri, .inl (.inl r2.1), ?_, k l vs H2 s2 ev z rv⟩
    rw [atI_map]
    unfold atI
    rw [hl, en]
    show (ps[n]?).map V.ref = _
    rw [el]; rfl
/-- what append does -/
def hApp (r : α) (xs : List α) : Rs (List α) := Rs.guard (decide (xs.length < sizeLine)) (.ok (xs ++ [r]))
/-- what remove does -/
def hRem (r : Int) (xs : List Int) : Rs (List Int) := if r ∈ xs then .ok (xs.erase r) else .bad
/-- rows[x].append(e) -/
theorem EX.appendLL {fi : S → Rs Int} {f : S → Rs α} {g : S → List (List α)} {put : S → List (List α) → S} {xp apos : Pos} (hw : WrN Γ i (cLL (cL τ)) g put) (hN : A.N[i]? = some x) (hv : Vis A.sc x) (hs : PlainIx b) (hb : PX A ca b Γ tI fi) (he : PX A ca e Γ τ f)
    (hst : star e = false := by rfl) (hline : (apos.endLine == pos.line) = true := by rfl) (hd : (x == ("__debug__" : Str)) = false := by decide) (hcd : (x == ("__classdict__" : Str)) = false := by decide) :
    EX A ca (.Call (.Attribute (.Subscript (.Name x xp) b p2) "append" apos) [e] [] pos) Γ Γ tN (fun s => (fi s).bind fun j => (Rs.ofOpt (ixN (g s).length j)).bind fun n => (Rs.ofOpt (g s)[n]?).bind fun a => (f s).bind fun r => (hApp r a).bind fun z => .ok ((), put s ((g s).set n z))) := by
  obtain ⟨tb, pb, qb⟩ := hb
  obtain ⟨t, ht, q⟩ := he
  refine ⟨tBM A.K "list" rAppend (tOp (rIxL A.K) (tVar i) tb) (tCons t tNil), fun X hX => by
    rw [← hX.K]
    exact pe_bm PySem.F.plainAttrs_list PySem.F.slot_list_append PySem.F.type_list_append mt_append (pe_ix ix_list (pe_var (by rw [hX.N]; exact hN) (by rw [hX.sc]; exact hv) hd hcd) (pb X hX) hs) (pa_cons (ht X hX) pa_nil (star_each hst)) rfl (by rw [star_each hst]; rfl) hline (star_each hst) (star_any rfl), fun F L R σ H s Q ⟨Og, h0⟩ hp => ?_⟩
  obtain ⟨m, ps, e1, _, _, _, _⟩ := h0.writeN hw
  refine ⟨_, e1, qb _ σ H s _ h0.sx ((Rs.post_bind hp).mono (fun jj k v H1 s1 rj => ?_) fun _ z => z.exw h0.fr)⟩
  have h1 := h0.grow s1
  obtain ⟨m1, ps1, e11, nd1, r1, hO1, _⟩ := h1.writeN hw
  have : m1 = m := by rw [e1] at e11; simpa using e11.symm
  subst this
  have hl1 : ps1.length = (g s).length := Paired.length r1.2.2
  obtain ⟨n, en, k⟩ := Rs.post_ofOpt (Rs.post_bind k)
  obtain ⟨a, ea, k⟩ := Rs.post_ofOpt (Rs.post_bind k)
  have kk := Rs.post_bind k
  obtain ⟨l, el, vs, ev, zv, rv⟩ := pair_get r1.2.2 (n := n) (b := a) ea
  refine ⟨m1, _, jj, .ref l, rfl, rj, .inl (.inl r1.1), ?_, .inl ⟨rfl, vs, .inl (.inl ev)⟩, q _ σ H1 s _ h1.sx (kk.mono (fun r k2 u H2 s2 ru => ?_) fun _ z => z.exw h1.fr)⟩
  · unfold atI
    rw [List.length_map, hl1, en]
    show (ps1.map V.ref)[n]? = _
    rw [List.getElem?_map, el]; rfl
  · have h2 := h1.grow s2
    obtain ⟨m2, ps2, e12, nd2, r2, hO2, hw2⟩ := h2.writeN hw
    have : m2 = m1 := by rw [e1] at e12; simpa using e12.symm
    subst this
    have eps : ps2 = ps1 := by
      have := (s2 _ _ r1.1).symm.trans r2.1
      have h : ps1.map V.ref = ps2.map V.ref := by simpa using this
      exact ((List.map_inj_right fun a b h => by cases h; rfl).mp h).symm
    subst eps
    have k3 := Rs.post_bind k2
    obtain ⟨l', el', vs2, ev2, zv2, rv2⟩ := pair_get r2.2.2 (n := n) (b := a) ea
    rw [el] at el'
    cases el'
    have hm : l ∈ ps2 := List.mem_of_getElem? el
    obtain ⟨nd3, nd4⟩ := List.nodup_cons.mp nd2
    have fin : ∀ (ws : List V) (b : List α), ws.length ≤ sizeLine → (cL τ).rep A.K (cut H2 (hid F L Og)) ws b → RSo A.K F L (R.and (Mn.val A.K tN .non ())) Og Γ σ (upd H2 l (.lst ws)) (put s ((g s).set n b)) := fun ws b hz hin => by
      have h3 := hw2 l (List.mem_cons_of_mem _ hm) vs2 ws _ ev2 ⟨by rw [upd_ne (fun e => nd3 (by rw [e]; exact hm))]; exact r2.1, r2.2.1, Inls.set r2.2.2 nd4 el hz hin⟩
      refine h3.with ⟨?_, rfl⟩
      rw [cut_upd (hO2 l (List.mem_cons_of_mem _ hm))]
      exact h2.rs
    obtain ⟨hc, k3⟩ := Rs.post_guard k3
    have hlt : vs2.length < sizeLine := by rw [Paired.length rv2]; exact of_decide_eq_true hc
    exact ⟨l, vs2, u, rfl, rfl, ev2, hlt, k3 .non _ ⟨Og, fin (vs2 ++ [u]) (a ++ [r]) (by rw [List.length_append]; exact hlt) (Paired.append rv2 (.cons ru .nil))⟩⟩
theorem erase_ix : ∀ {xs : List Int} {r : Int}, r ∈ xs → ∃ j, xs[j]? = some r ∧ (∀ m, m < j → xs[m]? ≠ some r) ∧ xs.eraseIdx j = xs.erase r
  | [], r, h => by simp at h
  | z :: xs, r, h => by
    by_cases e : z = r
    · exact ⟨0, by rw [e]; rfl, fun m hm => absurd hm (Nat.not_lt_zero m), by simp [e]⟩
    · obtain ⟨j, h1, h2, h3⟩ := erase_ix (xs := xs) (r := r) (by
        rcases List.mem_cons.mp h with h | h
        · exact absurd h.symm e
        · exact h)
      refine ⟨j + 1, by simpa using h1, fun m hm => ?_, ?_⟩
      · cases m with
        | zero => simp [e]
        | succ m => simpa using h2 m (by omega)
      · rw [List.eraseIdx_cons_succ, h3, List.erase_cons, if_neg (by simpa using e)]
/-- rows[x].remove(e) -/
theorem EX.removeLL {fi : S → Rs Int} {f : S → Rs Int} {g : S → List (List Int)} {put : S → List (List Int) → S} {xp apos : Pos} (hw : WrN Γ i (cLL (cL tI)) g put) (hN : A.N[i]? = some x) (hv : Vis A.sc x) (hs : PlainIx b) (hb : PX A ca b Γ tI fi) (he : PX A ca e Γ tI f)
    (hst : star e = false := by rfl) (hline : (apos.endLine == pos.line) = true := by rfl) (hd : (x == ("__debug__" : Str)) = false := by decide) (hcd : (x == ("__classdict__" : Str)) = false := by decide) :
    EX A ca (.Call (.Attribute (.Subscript (.Name x xp) b p2) "remove" apos) [e] [] pos) Γ Γ tN (fun s => (fi s).bind fun j => (Rs.ofOpt (ixN (g s).length j)).bind fun n => (Rs.ofOpt (g s)[n]?).bind fun a => (f s).bind fun r => (hRem r a).bind fun z => .ok ((), put s ((g s).set n z))) := by
  obtain ⟨tb, pb, qb⟩ := hb
  obtain ⟨t, ht, q⟩ := he
  refine ⟨tBM A.K "list" rRemI (tOp (rIxL A.K) (tVar i) tb) (tCons t tNil), fun X hX => by
    rw [← hX.K]
    exact pe_bm PySem.F.plainAttrs_list PySem.F.slot_list_remove PySem.F.type_list_remove mt_remove (pe_ix ix_list (pe_var (by rw [hX.N]; exact hN) (by rw [hX.sc]; exact hv) hd hcd) (pb X hX) hs) (pa_cons (ht X hX) pa_nil (star_each hst)) rfl (by rw [star_each hst]; rfl) hline (star_each hst) (star_any rfl), fun F L R σ H s Q ⟨Og, h0⟩ hp => ?_⟩
  obtain ⟨m, ps, e1, _, _, _, _⟩ := h0.writeN hw
  refine ⟨_, e1, qb _ σ H s _ h0.sx ((Rs.post_bind hp).mono (fun jj k v H1 s1 rj => ?_) fun _ z => z.exw h0.fr)⟩
  have h1 := h0.grow s1
  obtain ⟨m1, ps1, e11, nd1, r1, hO1, _⟩ := h1.writeN hw
  have : m1 = m := by rw [e1] at e11; simpa using e11.symm
  subst this
  have hl1 : ps1.length = (g s).length := Paired.length r1.2.2
  obtain ⟨n, en, k⟩ := Rs.post_ofOpt (Rs.post_bind k)
  obtain ⟨a, ea, k⟩ := Rs.post_ofOpt (Rs.post_bind k)
  have kk := Rs.post_bind k
  obtain ⟨l, el, vs, ev, zv, rv⟩ := pair_get r1.2.2 (n := n) (b := a) ea
  refine ⟨m1, _, jj, .ref l, rfl, rj, .inl (.inl r1.1), ?_, .inl ⟨rfl, vs, .inl (.inl ev)⟩, q _ σ H1 s _ h1.sx (kk.mono (fun r k2 u H2 s2 ru => ?_) fun _ z => z.exw h1.fr)⟩
  · unfold atI
    rw [List.length_map, hl1, en]
    show (ps1.map V.ref)[n]? = _
    rw [List.getElem?_map, el]; rfl
  · have h2 := h1.grow s2
    obtain ⟨m2, ps2, e12, nd2, r2, hO2, hw2⟩ := h2.writeN hw
    have : m2 = m1 := by rw [e1] at e12; simpa using e12.symm
    subst this
    have eps : ps2 = ps1 := by
      have := (s2 _ _ r1.1).symm.trans r2.1
      have h : ps1.map V.ref = ps2.map V.ref := by simpa using this
      exact ((List.map_inj_right fun a b h => by cases h; rfl).mp h).symm
    subst eps
    have k3 := Rs.post_bind k2
    obtain ⟨l', el', vs2, ev2, zv2, rv2⟩ := pair_get r2.2.2 (n := n) (b := a) ea
    rw [el] at el'
    cases el'
    have hm : l ∈ ps2 := List.mem_of_getElem? el
    obtain ⟨nd3, nd4⟩ := List.nodup_cons.mp nd2
    have fin : ∀ (ws : List V) (b : List Int), ws.length ≤ sizeLine → (cL tI).rep A.K (cut H2 (hid F L Og)) ws b → RSo A.K F L (R.and (Mn.val A.K tN .non ())) Og Γ σ (upd H2 l (.lst ws)) (put s ((g s).set n b)) := fun ws b hz hin => by
      have h3 := hw2 l (List.mem_cons_of_mem _ hm) vs2 ws _ ev2 ⟨by rw [upd_ne (fun e => nd3 (by rw [e]; exact hm))]; exact r2.1, r2.2.1, Inls.set r2.2.2 nd4 el hz hin⟩
      refine h3.with ⟨?_, rfl⟩
      rw [cut_upd (hO2 l (List.mem_cons_of_mem _ hm))]
      exact h2.rs
    unfold hRem at k3
    by_cases hr : r ∈ a
    · rw [if_pos hr] at k3
      obtain ⟨j, j1, j2, j3⟩ := erase_ix hr
      have ev3 := ev2
      rw [Paired.ints rv2] at ev3
      refine ⟨l, a, r, j, rfl, by rw [show u = .int r from ru], ev3, j1, j2, ?_⟩
      rw [j3]
      refine k3 .non _ ⟨Og, fin _ (a.erase r) ?_ (Paired.ofInts _)⟩
      rw [List.length_map]
      have l1 : vs2.length = a.length := Paired.length rv2
      have := List.length_erase_le (a := r) (l := a)
      omega
    · rw [if_neg hr] at k3
      exact k3.elim
end
end TL
/-! TL29: d[k].append(..) of a dict whose lists are its own; making such lists, dicts. -/
namespace TL
open PySem PySem.Spec PyProof.Rows L2
variable {A : Amb} {ca : Nat → Addr}
section
variable {ρ S S' S'' L α β γ U : Type} {Γ : Cxt S} {Γ' : Cxt S'} {Γ'' : Cxt S''} {Γl : Cxt L} {rr : Rr ρ} {τ : Ty α} {τ' : Ty β} {c : Ct α} {c' : Ct β} {e a b d tg iter : Expr} {pos p p2 py : Pos} {x y : Str} {st : Stmt} {sts : List Stmt} {i j : Nat}
def setF (k : Int × Int) (z : α) : List ((Int × Int) × α) → List ((Int × Int) × α)
  | [] => []
  | q :: r => if q.1 = k then (q.1, z) :: r else q :: setF k z r
theorem getA_ix {k : Int × Int} : ∀ {as : List ((Int × Int) × α)} {a : α} {ps : List Addr}, getA as k = some a → ps.length = as.length → ∃ n l, as[n]? = some (k, a) ∧ ps[n]? = some l ∧ valV (zipK ps as) (pk k) = some (.ref l) ∧ (∀ z, setF k z as = as.set n (k, z)) ∧ (∀ z, zipK ps (as.set n (k, z)) = zipK ps as)
  | [], a, ps, h, _ => by cases h
  | q :: r, a, [], h, hl => by simp at hl
  | q :: r, a, l :: ps, h, hl => by
    by_cases e : q.1 = k
    · have e2 : getA (q :: r) k = some q.2 := by simp [getA, List.find?_cons, e]
      rw [e2] at h
      cases h
      refine ⟨0, l, by rw [← e]; rfl, rfl, by show valV ((pk q.1, .ref l) :: zipK ps r) (pk k) = _; rw [valV_pos (by show pk q.1 = pk k; rw [e])], fun z => ?_, fun z => ?_⟩
      · show (if q.1 = k then (q.1, z) :: r else _) = _
        rw [if_pos e, e]; rfl
      · show (pk k, .ref l) :: zipK ps r = (pk q.1, .ref l) :: zipK ps r
        rw [e]
    · have e2 : getA (q :: r) k = getA r k := by simp [getA, List.find?_cons, e]
      rw [e2] at h
      obtain ⟨n, l', h1, h2, h3, h4, h5⟩ := getA_ix (ps := ps) h (by simpa using hl)
      refine ⟨n + 1, l', by simpa using h1, by simpa using h2, ?_, fun z => ?_, fun z => ?_⟩
      · show valV ((pk q.1, .ref l) :: zipK ps r) (pk k) = _
        rw [valV_neg (show ¬ pk q.1 = pk k from fun z => e (pk_inj.mp z))]; exact h3
      · show (if q.1 = k then _ else q :: setF k z r) = _
        rw [if_neg e, h4]; rfl
      · show (pk q.1, .ref l) :: zipK ps (r.set n (k, z)) = (pk q.1, .ref l) :: zipK ps r
        rw [h5]
theorem zipK_inj {as : List ((Int × Int) × α)} : ∀ {ps qs : List Addr} {as : List ((Int × Int) × α)}, ps.length = as.length → qs.length = as.length → zipK ps as = zipK qs as → ps = qs
  | [], [], _, _, _, _ => rfl
  | [], _ :: _, as, h1, h2, _ => by simp at h1 h2; omega
  | _ :: _, [], as, h1, h2, _ => by simp at h1 h2; omega
  | _ :: _, _ :: _, [], h1, _, _ => by simp at h1
  | p :: ps, q :: qs, a :: as, h1, h2, h => by
    have h : (pk a.1, V.ref p) :: zipK ps as = (pk a.1, V.ref q) :: zipK qs as := h
    simp only [List.cons.injEq, Prod.mk.injEq, true_and, V.ref.injEq] at h
    rw [h.1, zipK_inj (as := as) (by simpa using h1) (by simpa using h2) h.2]
/-- d[k].append(e) -/
theorem EX.appendDL {fi : S → Rs (Int × Int)} {f : S → Rs α} {g : S → List ((Int × Int) × List α)} {put : S → List ((Int × Int) × List α) → S} {xp apos : Pos} (hw : WrN Γ i (cDL (cL τ)) g put) (hN : A.N[i]? = some x) (hv : Vis A.sc x) (hs : NoSl b) (hb : PX A ca b Γ (tTup (.cons tI (.one tI))) fi) (he : PX A ca e Γ τ f)
    (hst : star e = false := by rfl) (hline : (apos.endLine == pos.line) = true := by rfl) (hd : (x == ("__debug__" : Str)) = false := by decide) (hcd : (x == ("__classdict__" : Str)) = false := by decide) :
    EX A ca (.Call (.Attribute (.Subscript (.Name x xp) b p2) "append" apos) [e] [] pos) Γ Γ tN (fun s => (fi s).bind fun k => (Rs.ofOpt (getA (g s) k)).bind fun a => (f s).bind fun r => (hApp r a).bind fun z => .ok ((), put s (setF k z (g s)))) := by
  obtain ⟨tb, pb, qb⟩ := hb
  obtain ⟨t, ht, q⟩ := he
  refine ⟨tBM A.K "list" rAppend (tDGet (tVar i) tb) (tCons t tNil), fun X hX => by
    rw [← hX.K]
    exact pe_bm PySem.F.plainAttrs_list PySem.F.slot_list_append PySem.F.type_list_append mt_append (pe_dget (by have := hX.room.un; omega) (pe_var (by rw [hX.N]; exact hN) (by rw [hX.sc]; exact hv) hd hcd) (pb X hX) hs) (pa_cons (ht X hX) pa_nil (star_each hst)) rfl (by rw [star_each hst]; rfl) hline (star_each hst) (star_any rfl), fun F L R σ H s Q ⟨Og, h0⟩ hp => ?_⟩
  obtain ⟨m, ps, e1, _, _, _, _⟩ := h0.writeN hw
  refine ⟨_, e1, qb _ σ H s _ h0.sx ((Rs.post_bind hp).mono (fun jj k v H1 s1 rj => ?_) fun _ z => z.exw h0.fr)⟩
  have h1 := h0.grow s1
  obtain ⟨m1, ps1, e11, nd1, r1, hO1, _⟩ := h1.writeN hw
  have : m1 = m := by rw [e1] at e11; simpa using e11.symm
  subst this
  have hl1 : ps1.length = (g s).length := by rw [Paired.length r1.2.2, List.length_map]
  obtain ⟨a, ea, k⟩ := Rs.post_ofOpt (Rs.post_bind k)
  have kk := Rs.post_bind k
  obtain ⟨n, l, en, el, ev0, es1, es2⟩ := getA_ix ea hl1
  have ea2 : ((g s).map (·.2))[n]? = some a := by rw [List.getElem?_map, en]; rfl
  obtain ⟨l', el', vs, ev, zv, rv⟩ := pair_get r1.2.2 (n := n) (b := a) ea2
  rw [el] at el'
  cases el'
  obtain ⟨tt, us, rfl, et, w1, q1, rfl, hq1, w2, rfl, hq2⟩ := rj
  rw [show w1 = .int jj.1 from hq1, show w2 = .int jj.2 from hq2] at et
  refine ⟨m1, .ref l, rfl, by rw [← ev0]; exact DGet.t r1.1 (cut_le _ _ et), .inl ⟨rfl, vs, .inl (.inl ev)⟩, q _ σ H1 s _ h1.sx (kk.mono (fun r k2 u H2 s2 ru => ?_) fun _ z => z.exw h1.fr)⟩
  have h2 := h1.grow s2
  obtain ⟨m2, ps2, e12, nd2, r2, hO2, hw2⟩ := h2.writeN hw
  have : m2 = m1 := by rw [e1] at e12; simpa using e12.symm
  subst this
  have hl2 : ps2.length = (g s).length := by rw [Paired.length r2.2.2, List.length_map]
  have eps : ps2 = ps1 := by
    have := (s2 _ _ r1.1).symm.trans r2.1
    have h : zipK ps1 (g s) = zipK ps2 (g s) := by simpa using this
    exact (zipK_inj (as := g s) hl1 hl2 h).symm
  subst eps
  have k3 := Rs.post_bind k2
  obtain ⟨l', el', vs2, ev2, zv2, rv2⟩ := pair_get r2.2.2 (n := n) (b := a) ea2
  rw [el] at el'
  cases el'
  have hm : l ∈ ps2 := List.mem_of_getElem? el
  obtain ⟨nd3, nd4⟩ := List.nodup_cons.mp nd2
  obtain ⟨hc, k3⟩ := Rs.post_guard k3
  have hlt : vs2.length < sizeLine := by rw [Paired.length rv2]; exact of_decide_eq_true hc
  have hz : (vs2 ++ [u]).length ≤ sizeLine := by rw [List.length_append]; exact hlt
  have hin : (cL τ).rep A.K (cut H2 (hid F L Og)) (vs2 ++ [u]) (a ++ [r]) := Paired.append rv2 (.cons ru .nil)
  have h3 := hw2 l (List.mem_cons_of_mem _ hm) vs2 (vs2 ++ [u]) (setF jj (a ++ [r]) (g s)) ev2 (by
    rw [es1]
    refine ⟨by rw [upd_ne (fun e => nd3 (by rw [e]; exact hm)), es2]; exact r2.1, r2.2.1, ?_⟩
    rw [List.map_set]
    exact Inls.set r2.2.2 nd4 el hz hin)
  refine ⟨l, vs2, u, rfl, rfl, ev2, hlt, k3 .non _ ⟨Og, h3.with ⟨?_, rfl⟩⟩⟩
  rw [cut_upd (hO2 l (List.mem_cons_of_mem _ hm))]
  exact h2.rs
end
end TL
/-! TL30: [list(e) for ..], {k: [] for ..}: the slot owns what it gets, the lists too. -/
namespace TL
open PySem PySem.Spec PyProof.Rows L2
variable {A : Amb} {ca : Nat → Addr}
section
variable {ρ S S' S'' L α β γ U : Type} {Γ : Cxt S} {Γ' : Cxt S'} {Γ'' : Cxt S''} {Γl : Cxt L} {rr : Rr ρ} {τ : Ty α} {τ' : Ty β} {c : Ct γ} {e a b d tg iter : Expr} {pos p p2 py : Pos} {x y : Str} {st : Stmt} {sts : List Stmt} {i j : Nat}
theorem cutS {H H' : Hp} {O O' : List Addr} (h : ∀ b o, b ∉ O → H b = some o → b ∉ O' ∧ H' b = some o) : Same (cut H O) (cut H' O') := fun b o e => by
  by_cases hO : b ∈ O
  · rw [cut_in hO] at e; cases e
  · rw [cut_out hO] at e
    obtain ⟨h1, h2⟩ := h b o hO e
    rw [cut_out h1]; exact h2
theorem inl_hid {K : PySem.W.Frag} {G H : Hp} {ps : List Addr} {as : List γ} (h : Paired (Inl c K G H) ps as) : ∀ q ∈ ps, Hidn H q := by
  induction h with
  | nil => intro q hq; simp at hq
  | cons r _ ih =>
    intro q hq
    rcases List.mem_cons.mp hq with rfl | hq
    · obtain ⟨vs, e, _⟩ := r; exact Hidn.lst e
    · exact ih q hq
theorem lcN_spec {E0 : XK} {S1 S2 : Type} {Γw : Cxt S1} {Γt : Cxt S2} {τ1 : Ty β} {fi : S → Rs (List β)} {w : S → S1} {put : S1 → β → S2} {ix : List Nat} {ft : S2 → Rs Bool} {fe : S2 → Rs γ} {wi : TI} {g : TG} {tt : TT} {te : TE}
    {own : List (Str × Nat)} (hw : Wp Γ (own.map (·.2)) Γw w) (hix : ∀ i ∈ ix, i ∈ own.map (·.2))
    (qi : ∀ (O : List Addr) (σ : L2.St) (H : Hp) (s : S) (R : It → Hp → Prop), Sx A.K O Γ σ H s → (fi s).Post (fun bs => ∀ J H1, Same H H1 → Wkg A.K J H1 O τ1 bs → R J H1) (Exw A.E ca H) → wi σ H R)
    (qg : ∀ (G H : Hp) (σ : L2.St) (O : List Addr) (s : S1) (v : V) (a : β) (Q : L2.St → Hp → Prop), Same G H → Γw.rep A.K G H σ O s → τ1.rep A.K G v a →
      (∀ σ', (∀ vs, (∀ i ∈ ix, i ∈ vs) → wipe σ' vs = wipe σ vs) → Γt.rep A.K G H σ' O (put s a) → Q σ' H) → g v σ H Q)
    (qt : ∀ (O : List Addr) (σ : L2.St) (H : Hp) (s : S2) (Q : Bool → Hp → Prop), Sx A.K O Γt σ H s → (ft s).Post (fun a => ∀ H', Same H H' → Q a H') (Exw E0 ca H) → tt σ H Q)
    (qe : ∀ (O : List Addr) (σ : L2.St) (H : Hp) (s : S2) (Q : VK), Sx A.K O Γt σ H s → (fe s).Post (fun a => ∀ p vs H', H p = none → Same H H' → H' p = some (.lst vs) → vs.length ≤ sizeLine → c.rep A.K (cut H' (p :: O)) vs a → Q (.ref p) H') (Exw E0 ca H) → te σ H Q)
    (O : List Addr) (σ : L2.St) (H : Hp) (s : S) (Q : VK) (hs : Sx A.K O Γ σ H s)
    (hp : ((fi s).bind fun bs => Rs.guard (decide (bs.length ≤ sizeLine)) (lcM (fun b => nox (lcT (ft (put (w s) b)) (fe (put (w s) b)))) bs)).Post (fun a => ∀ p ps H', (∀ q ∈ p :: ps, H q = none) → (p :: ps).Nodup → Same H H' → (cLL c).rep A.K (cut H' ((p :: ps) ++ O)) H' p ps a → Q (.ref p) H') (Exw A.E ca H)) :
    tLc wi g tt te (own.map (·.2)) σ H Q := by
  refine qi O σ H s _ hs ((Rs.post_bind hp).mono (fun bs k J H1 s1 wk => ?_) fun _ z => z)
  obtain ⟨hz, k⟩ := Rs.post_guard k
  have hz : bs.length ≤ sizeLine := of_decide_eq_true hz
  intro D nD
  generalize hgg : (fun b => nox (lcT (ft (put (w s) b)) (fe (put (w s) b)))) = gg at k
  have hDO : D ∉ O := hs.out' s1 nD
  let Wv : Nat → Nat → Hp → Prop := fun i m H' => i + m = bs.length ∧ Same H1 H' ∧ ∃ ps ys, H' D = some (.lst (ps.map V.ref)) ∧ ps.length ≤ i ∧ (D :: ps).Nodup ∧ (∀ q ∈ ps, H1 q = none) ∧ Paired (Inl c A.K (cut H' ((D :: ps) ++ O)) H') ps ys ∧
    (lcM gg (bs.drop i)).Post (fun zs => ∀ p ps H'', (∀ q ∈ p :: ps, H q = none) → (p :: ps).Nodup → Same H H'' → (cLL c).rep A.K (cut H'' ((p :: ps) ++ O)) H'' p ps (ys ++ zs) → Q (.ref p) H'') (Exw A.E ca H)
  refine ⟨Wv, ⟨bs.length, by omega, same_upd nD, [], [], upd_same, Nat.zero_le _, by simp, fun q hq => by simp at hq, .nil, ?_⟩, fun i m H' hW => ?_⟩
  · rw [List.drop_zero]; exact k
  · obtain ⟨him, sm, ps, ys, eD, hacc, nd, nps, hr, hk⟩ := hW
    have hall : ∀ q ∈ D :: ps, H1 q = none := fun q hq => by
      rcases List.mem_cons.mp hq with rfl | hq
      · exact nD
      · exact nps q hq
    have hstd : ∀ q ∈ D :: ps, Hidn H' q := fun q hq => by
      rcases List.mem_cons.mp hq with rfl | hq
      · exact Hidn.lst eD
      · exact inl_hid hr q hq
    by_cases hi : i < bs.length
    · refine .inr ⟨wk.go i H' sm hi, Wv (i + 1) (m - 1), fun H'' h => ⟨m - 1, by omega, h⟩, fun x H2 hy => ?_⟩
      have hbi : bs[i]? = some bs[i] := List.getElem?_eq_getElem hi
      obtain ⟨s2, rx⟩ := wk.yl i _ x H' H2 sm hbi hy
      have hdrop : bs.drop i = bs[i] :: bs.drop (i + 1) := List.drop_eq_getElem_cons hi
      rw [hdrop, lcM_cons] at hk
      have sH2 : Same H1 H2 := sm.trans s2
      have eD2 : H2 D = some (.lst (ps.map V.ref)) := s2 _ _ eD
      have hsx : Sx A.K ((D :: ps) ++ O) Γw (wipe σ (own.map (·.2))) H2 (w s) := by
        obtain ⟨⟨Og, b1, b2⟩, b3⟩ := hw.sx (hs.grow s1)
        refine ⟨⟨Og, fun p hp => List.mem_append_right _ (b1 p hp), Γw.mono (cutS fun b o hb e => ⟨fun z => ?_, sH2 _ _ e⟩) (fun p hp o e => sH2 _ _ e) b2⟩, fun p hp => ?_⟩
        · rcases List.mem_append.mp z with z | z
          · rw [hall b z] at e; cases e
          · exact hb z
        · rcases List.mem_append.mp hp with hp | hp
          · exact (hstd p hp).same s2
          · exact (hs.grow (s1.trans sH2)).hid p hp
      obtain ⟨⟨Og, c1, c2⟩, c3⟩ := hsx
      have rx' := rx ((D :: ps) ++ O) (fun p hp => by
        rcases List.mem_append.mp hp with hp | hp
        · exact .inr (hall p hp)
        · exact .inl hp) (fun p hp z => by
        rcases List.mem_append.mp hp with hp | hp
        · exact (hstd p hp).ne z
        · exact ((hs.grow (s1.trans sm)).hid p hp).ne z)
      refine qg _ H2 _ Og (w s) x bs[i] _ cut_le c2 rx' fun σ' hwp hr' => ⟨(hwp _ hix).trans (wipe_wipe _ fun _ h => h), ?_⟩
      have hsx' : Sx A.K ((D :: ps) ++ O) Γt σ' H2 (put (w s) bs[i]) := ⟨⟨Og, c1, hr'⟩, c3⟩
      have hk1 := Rs.post_bind hk
      rw [← hgg] at hk1
      have hk2 := Rs.post_bind (post_nox (E' := Exw E0 ca H2) hk1)
      rw [hgg] at hk2
      refine qt ((D :: ps) ++ O) σ' H2 _ _ hsx' (hk2.mono (fun cc kc H3 s3 => ?_) fun _ z => z)
      cases cc with
      | true =>
        refine iteT (qe ((D :: ps) ++ O) σ' H3 _ _ (hsx'.grow s3) ((Rs.post_bind kc).mono (fun a ka q vs H4 nq s4 eq zq rq => ?_) fun _ z => z.grow s3))
        have s34 := s3.trans s4
        have hka := Rs.post_bind ka
        have nq1 : H1 q = none := (sH2.trans s3).free nq
        have hqD : q ∉ D :: ps := fun z => (((hstd q z).same s2).same s3).ne nq
        have hDq : D ≠ q := fun e => hqD (by rw [e]; simp)
        have hDps : D ∉ ps := (List.nodup_cons.mp nd).1
        refine ⟨ps.map V.ref, s34 _ _ eD2, by rw [List.length_map]; omega, by omega, ?_, ps ++ [q], ys ++ [a], by rw [upd_same, List.map_append]; rfl, by rw [List.length_append]; exact Nat.succ_le_succ hacc, ?_, ?_, ?_, ?_⟩
        · exact fun b o e => by
            have hb : b ≠ D := ne_of_none e nD
            rw [upd_ne hb]; exact s34 _ _ (sH2 _ _ e)
        · have : (D :: (ps ++ [q])) = (D :: ps) ++ [q] := rfl
          rw [this]
          exact List.nodup_append.mpr ⟨nd, by simp, fun a ha b hb e => by
            simp at hb
            subst hb; subst e
            exact hqD ha⟩
        · intro z hz
          rcases List.mem_append.mp hz with hz | hz
          · exact nps z hz
          · simp at hz; rw [hz]; exact nq1
        · refine paired_append (Inls.mono (cutS fun b o hb e => ?_) hr fun z hz o e => ?_) (.cons ⟨vs, by rw [upd_ne (Ne.symm hDq)]; exact eq, zq, c.mono (cutS fun b o hb e => ?_) rq⟩ .nil)
          · have hbq : b ≠ q := fun z => by
              rw [z] at e
              have := (s2.trans s3) _ _ e
              rw [nq] at this; cases this
            have hbD : b ≠ D := fun z => hb (by rw [z]; simp)
            refine ⟨fun z => ?_, by rw [upd_ne hbD]; exact (s2.trans s34) _ _ e⟩
            have z : b ∈ (D :: (ps ++ [q])) ++ O := z
            simp only [List.mem_append, List.mem_cons, List.mem_nil_iff, or_false] at z hb
            rcases z with (z | z | z) | z
            · exact hb (.inl (.inl z))
            · exact hb (.inl (.inr z))
            · exact hbq z
            · exact hb (.inr z)
          · rw [upd_ne (fun e => hDps (by rw [← e]; exact hz))]
            exact (s2.trans s34) _ _ e
          · have hbD : b ≠ D := fun z => hb (by rw [z]; simp)
            refine ⟨fun z => ?_, by rw [upd_ne hbD]; exact e⟩
            have z : b ∈ (D :: (ps ++ [q])) ++ O := z
            simp only [List.mem_append, List.mem_cons, List.mem_nil_iff, or_false] at z hb
            rcases z with (z | z | z) | z
            · exact hb (.inr (.inl (.inl z)))
            · exact hb (.inr (.inl (.inr z)))
            · exact hb (.inl z)
            · exact hb (.inr (.inr z))
        · exact hka.mono (fun zs kz p ps H'' n nd sm' r' => kz p ps H'' n nd sm' (by simpa using r')) fun _ z => z
      | false =>
        refine iteF ?_
        have hka := Rs.post_bind (show (Rs.bind (Rs.ok none) _).Post _ _ from kc)
        refine ⟨by omega, sH2.trans s3, ps, ys, s3 _ _ eD2, by omega, nd, nps, Inls.mono (cut_grow (s2.trans s3)) hr fun z _ o e => (s2.trans s3) _ _ e, ?_⟩
        exact (Rs.post_bind hka).mono (fun zs kz p ps H'' n nd sm' r' => kz p ps H'' n nd sm' (by simpa using r')) fun _ z => z
    · refine .inl ⟨?_, ?_⟩
      · have : i = bs.length := by omega
        rw [this]; exact wk.st H' sm
      · rw [List.drop_eq_nil_of_le (by omega)] at hk
        exact hk D ps H' (fun q hq => s1.free (hall q hq)) nd (s1.trans sm) ⟨eD, by omega, by rw [List.append_nil]; exact hr⟩
end
end TL
/-! TL31: {k: [] for ..}; name = [list(e) for ..], name = {k: [] for ..}. -/
namespace TL
open PySem PySem.Spec PyProof.Rows L2
variable {A : Amb} {ca : Nat → Addr}
/-- what such a dict comprehension makes: each key is a new one -/
def dnM {β γ : Type} (g : β → Rs (Option ((Int × Int) × γ))) : List β → List ((Int × Int) × γ) → Rs (List ((Int × Int) × γ))
  | [], acc => .ok acc
  | x :: r, acc => (g x).bind fun o => match o with | some y => if (acc.any fun q => decide (q.1 = y.1)) = true then .bad else dnM g r (acc ++ [y]) | none => dnM g r acc
theorem zipK_any {α : Type} (k : Int × Int) : ∀ {ps : List Addr} {as : List ((Int × Int) × α)}, ps.length = as.length → ((zipK ps as).any fun q => decide (q.1 = pk k)) = as.any fun q => decide (q.1 = k)
  | [], [], _ => rfl
  | [], _ :: _, h => by simp at h
  | _ :: _, [], h => by simp at h
  | p :: ps, a :: as, h => by
    show (decide (pk a.1 = pk k) || (zipK ps as).any _) = (decide (a.1 = k) || as.any _)
    rw [zipK_any k (by simpa using h)]
    congr 1
    exact decide_eq_decide.mpr pk_inj
theorem zipK_snoc {α : Type} {q : Addr} {a : (Int × Int) × α} : ∀ {ps : List Addr} {as : List ((Int × Int) × α)}, ps.length = as.length → zipK (ps ++ [q]) (as ++ [a]) = zipK ps as ++ [(pk a.1, .ref q)]
  | [], [], _ => rfl
  | [], _ :: _, h => by simp at h
  | _ :: _, [], h => by simp at h
  | p :: ps, b :: as, h => by
    show (pk b.1, V.ref p) :: zipK (ps ++ [q]) (as ++ [a]) = _
    rw [zipK_snoc (by simpa using h)]; rfl
section
variable {ρ S S' S'' L α β γ U : Type} {Γ : Cxt S} {Γ' : Cxt S'} {Γ'' : Cxt S''} {Γl : Cxt L} {rr : Rr ρ} {τ : Ty α} {τ' : Ty β} {c : Ct γ} {e a b d tg iter : Expr} {pos p p2 py : Pos} {x y : Str} {st : Stmt} {sts : List Stmt} {i j : Nat}
theorem dcN_spec {E0 : XK} {S1 S2 : Type} {Γw : Cxt S1} {Γt : Cxt S2} {τ1 : Ty β} {fi : S → Rs (List β)} {w : S → S1} {put : S1 → β → S2} {ix : List Nat} {ft : S2 → Rs Bool} {fk : S2 → Rs (Int × Int)} {fe : S2 → Rs γ} {wi : TI} {g : TG} {tt : TT} {tk te : TE}
    {own : List (Str × Nat)} (hw : Wp Γ (own.map (·.2)) Γw w) (hix : ∀ i ∈ ix, i ∈ own.map (·.2))
    (qi : ∀ (O : List Addr) (σ : L2.St) (H : Hp) (s : S) (R : It → Hp → Prop), Sx A.K O Γ σ H s → (fi s).Post (fun bs => ∀ J H1, Same H H1 → Wkg A.K J H1 O τ1 bs → R J H1) (Exw A.E ca H) → wi σ H R)
    (qg : ∀ (G H : Hp) (σ : L2.St) (O : List Addr) (s : S1) (v : V) (a : β) (Q : L2.St → Hp → Prop), Same G H → Γw.rep A.K G H σ O s → τ1.rep A.K G v a →
      (∀ σ', (∀ vs, (∀ i ∈ ix, i ∈ vs) → wipe σ' vs = wipe σ vs) → Γt.rep A.K G H σ' O (put s a) → Q σ' H) → g v σ H Q)
    (qt : ∀ (O : List Addr) (σ : L2.St) (H : Hp) (s : S2) (Q : Bool → Hp → Prop), Sx A.K O Γt σ H s → (ft s).Post (fun a => ∀ H', Same H H' → Q a H') (Exw E0 ca H) → tt σ H Q)
    (qk : ∀ (O : List Addr) (σ : L2.St) (H : Hp) (s : S2) (Q : VK), Sx A.K O Γt σ H s → (fk s).Post (fun a => ∀ v H', Same H H' → (tTup (.cons tI (.one tI))).rep A.K (cut H' O) v a → Q v H') (Exw E0 ca H) → tk σ H Q)
    (qe : ∀ (O : List Addr) (σ : L2.St) (H : Hp) (s : S2) (Q : VK), Sx A.K O Γt σ H s → (fe s).Post (fun a => ∀ p vs H', H p = none → Same H H' → H' p = some (.lst vs) → vs.length ≤ sizeLine → c.rep A.K (cut H' (p :: O)) vs a → Q (.ref p) H') (Exw E0 ca H) → te σ H Q)
    (O : List Addr) (σ : L2.St) (H : Hp) (s : S) (Q : VK) (hs : Sx A.K O Γ σ H s)
    (hp : ((fi s).bind fun bs => Rs.guard (decide (bs.length ≤ sizeLine)) (dnM (fun b => nox (lcT (ft (put (w s) b)) ((fk (put (w s) b)).bind fun k => (fe (put (w s) b)).bind fun v => .ok (k, v)))) bs [])).Post (fun a => ∀ p ps H', (∀ q ∈ p :: ps, H q = none) → (p :: ps).Nodup → Same H H' → (cDL c).rep A.K (cut H' ((p :: ps) ++ O)) H' p ps a → Q (.ref p) H') (Exw A.E ca H)) :
    tDcT wi g tt tk te (own.map (·.2)) σ H Q := by
  refine qi O σ H s _ hs ((Rs.post_bind hp).mono (fun bs k J H1 s1 wk => ?_) fun _ z => z)
  obtain ⟨hz, k⟩ := Rs.post_guard k
  have hz : bs.length ≤ sizeLine := of_decide_eq_true hz
  intro D nD
  generalize hgg : (fun b => nox (lcT (ft (put (w s) b)) ((fk (put (w s) b)).bind fun k => (fe (put (w s) b)).bind fun v => .ok (k, v)))) = gg at k
  have hDO : D ∉ O := hs.out' s1 nD
  let Wv : Nat → Nat → Hp → Prop := fun i m H' => i + m = bs.length ∧ Same H1 H' ∧ ∃ ps ys, H' D = some (.dT (zipK ps ys)) ∧ ps.length ≤ i ∧ (D :: ps).Nodup ∧ (∀ q ∈ ps, H1 q = none) ∧ Paired (Inl c A.K (cut H' ((D :: ps) ++ O)) H') ps (ys.map (·.2)) ∧
    (dnM gg (bs.drop i) ys).Post (fun zs => ∀ p ps H'', (∀ q ∈ p :: ps, H q = none) → (p :: ps).Nodup → Same H H'' → (cDL c).rep A.K (cut H'' ((p :: ps) ++ O)) H'' p ps zs → Q (.ref p) H'') (Exw A.E ca H)
  refine ⟨Wv, ⟨bs.length, by omega, same_upd nD, [], [], upd_same, Nat.zero_le _, by simp, fun q hq => by simp at hq, .nil, ?_⟩, fun i m H' hW => ?_⟩
  · rw [List.drop_zero]; exact k
  · obtain ⟨him, sm, ps, ys, eD, hacc, nd, nps, hr, hk⟩ := hW
    have hall : ∀ q ∈ D :: ps, H1 q = none := fun q hq => by
      rcases List.mem_cons.mp hq with rfl | hq
      · exact nD
      · exact nps q hq
    have hstd : ∀ q ∈ D :: ps, Hidn H' q := fun q hq => by
      rcases List.mem_cons.mp hq with rfl | hq
      · exact Hidn.dT eD
      · exact inl_hid hr q hq
    by_cases hi : i < bs.length
    · refine .inr ⟨wk.go i H' sm hi, Wv (i + 1) (m - 1), fun H'' h => ⟨m - 1, by omega, h⟩, fun x H2 hy => ?_⟩
      have hbi : bs[i]? = some bs[i] := List.getElem?_eq_getElem hi
      obtain ⟨s2, rx⟩ := wk.yl i _ x H' H2 sm hbi hy
      have hdrop : bs.drop i = bs[i] :: bs.drop (i + 1) := List.drop_eq_getElem_cons hi
      rw [hdrop] at hk
      have hl : ps.length = ys.length := by rw [Paired.length hr, List.length_map]
      have sH2 : Same H1 H2 := sm.trans s2
      have eD2 : H2 D = some (.dT (zipK ps ys)) := s2 _ _ eD
      have hsx : Sx A.K ((D :: ps) ++ O) Γw (wipe σ (own.map (·.2))) H2 (w s) := by
        obtain ⟨⟨Og, b1, b2⟩, b3⟩ := hw.sx (hs.grow s1)
        refine ⟨⟨Og, fun p hp => List.mem_append_right _ (b1 p hp), Γw.mono (cutS fun b o hb e => ⟨fun z => ?_, sH2 _ _ e⟩) (fun p hp o e => sH2 _ _ e) b2⟩, fun p hp => ?_⟩
        · rcases List.mem_append.mp z with z | z
          · rw [hall b z] at e; cases e
          · exact hb z
        · rcases List.mem_append.mp hp with hp | hp
          · exact (hstd p hp).same s2
          · exact (hs.grow (s1.trans sH2)).hid p hp
      obtain ⟨⟨Og, c1, c2⟩, c3⟩ := hsx
      have rx' := rx ((D :: ps) ++ O) (fun p hp => by
        rcases List.mem_append.mp hp with hp | hp
        · exact .inr (hall p hp)
        · exact .inl hp) (fun p hp z => by
        rcases List.mem_append.mp hp with hp | hp
        · exact (hstd p hp).ne z
        · exact ((hs.grow (s1.trans sm)).hid p hp).ne z)
      refine qg _ H2 _ Og (w s) x bs[i] _ cut_le c2 rx' fun σ' hwp hr' => ⟨(hwp _ hix).trans (wipe_wipe _ fun _ h => h), ?_⟩
      have hsx' : Sx A.K ((D :: ps) ++ O) Γt σ' H2 (put (w s) bs[i]) := ⟨⟨Og, c1, hr'⟩, c3⟩
      have hk1 := Rs.post_bind hk
      rw [← hgg] at hk1
      have hk2 := Rs.post_bind (post_nox (E' := Exw E0 ca H2) hk1)
      rw [hgg] at hk2
      refine qt ((D :: ps) ++ O) σ' H2 _ _ hsx' (hk2.mono (fun cc kc H3 s3 => ?_) fun _ z => z)
      cases cc with
      | true =>
        refine iteT (qk ((D :: ps) ++ O) σ' H3 _ _ (hsx'.grow s3) ((Rs.post_bind (Rs.post_bind kc)).mono (fun kk ka0 v H30 s30 ra => ?_) fun _ z => z.grow s3))
        refine qe ((D :: ps) ++ O) σ' H30 _ _ ((hsx'.grow s3).grow s30) ((Rs.post_bind ka0).mono (fun a ka q vs H4 nq s40 eq zq rq => ?_) fun _ z => (z.grow s3).grow s30)
        have s4 := s30.trans s40
        have s34 := s3.trans s4
        have nq1 : H1 q = none := ((sH2.trans s3).trans s30).free nq
        have hqD : q ∉ D :: ps := fun z => ((((hstd q z).same s2).same s3).same s30).ne nq
        have hDq : D ≠ q := fun e => hqD (by rw [e]; simp)
        have hDps : D ∉ ps := (List.nodup_cons.mp nd).1
        obtain ⟨t2, us, rfl, et, v1, r1, rfl, q1, v2, rfl, q2⟩ := ra
        rw [show v1 = .int kk.1 from q1, show v2 = .int kk.2 from q2] at et
        have ka : (if (ys.any fun q => decide (q.1 = kk)) = true then Rs.bad else dnM gg (bs.drop (i + 1)) (ys ++ [(kk, a)])).Post _ _ := ka
        by_cases hany : (ys.any fun q => decide (q.1 = kk)) = true
        · rw [if_pos hany] at ka
          exact ka.elim
        rw [if_neg hany] at ka
        have ezk : (zipK ps ys).length = ps.length := zipK_len hl
        have eput : putK (zipK ps ys) (pk kk) (.ref q) = zipK (ps ++ [q]) (ys ++ [(kk, a)]) := by
          unfold putK
          rw [zipK_any kk hl, if_neg hany, zipK_snoc hl]
        refine ⟨zipK ps ys, pk kk, t2, rfl, s40 _ _ (cut_le _ _ et), s34 _ _ eD2, by omega, by omega, ?_, ps ++ [q], ys ++ [(kk, a)], by rw [upd_same, eput], by rw [List.length_append]; exact Nat.succ_le_succ hacc, ?_, ?_, ?_, ?_⟩
        · exact fun b o e => by
            have hb : b ≠ D := ne_of_none e nD
            rw [upd_ne hb]; exact s34 _ _ (sH2 _ _ e)
        · have : (D :: (ps ++ [q])) = (D :: ps) ++ [q] := rfl
          rw [this]
          exact List.nodup_append.mpr ⟨nd, by simp, fun a ha b hb e => by
            simp at hb
            subst hb; subst e
            exact hqD ha⟩
        · intro z hz
          rcases List.mem_append.mp hz with hz | hz
          · exact nps z hz
          · simp at hz; rw [hz]; exact nq1
        · rw [List.map_append]
          refine paired_append (Inls.mono (cutS fun b o hb e => ?_) hr fun z hz o e => ?_) (.cons ⟨vs, by rw [upd_ne (Ne.symm hDq)]; exact eq, zq, c.mono (cutS fun b o hb e => ?_) rq⟩ .nil)
          · have hbq : b ≠ q := fun z => by
              rw [z] at e
              have := ((s2.trans s3).trans s30) _ _ e
              rw [nq] at this; cases this
            have hbD : b ≠ D := fun z => hb (by rw [z]; simp)
            refine ⟨fun z => ?_, by rw [upd_ne hbD]; exact (s2.trans s34) _ _ e⟩
            have z : b ∈ (D :: (ps ++ [q])) ++ O := z
            simp only [List.mem_append, List.mem_cons, List.mem_nil_iff, or_false] at z hb
            rcases z with (z | z | z) | z
            · exact hb (.inl (.inl z))
            · exact hb (.inl (.inr z))
            · exact hbq z
            · exact hb (.inr z)
          · rw [upd_ne (fun e => hDps (by rw [← e]; exact hz))]
            exact (s2.trans s34) _ _ e
          · have hbD : b ≠ D := fun z => hb (by rw [z]; simp)
            refine ⟨fun z => ?_, by rw [upd_ne hbD]; exact e⟩
            have z : b ∈ (D :: (ps ++ [q])) ++ O := z
            simp only [List.mem_append, List.mem_cons, List.mem_nil_iff, or_false] at z hb
            rcases z with (z | z | z) | z
            · exact hb (.inr (.inl (.inl z)))
            · exact hb (.inr (.inl (.inr z)))
            · exact hb (.inl z)
            · exact hb (.inr (.inr z))
        · exact ka
      | false =>
        refine iteF ?_
        exact ⟨by omega, sH2.trans s3, ps, ys, s3 _ _ eD2, by omega, nd, nps, Inls.mono (cut_grow (s2.trans s3)) hr fun z _ o e => (s2.trans s3) _ _ e, kc⟩
    · refine .inl ⟨?_, ?_⟩
      · have : i = bs.length := by omega
        rw [this]; exact wk.st H' sm
      · rw [List.drop_eq_nil_of_le (by omega)] at hk
        exact hk D ps H' (fun q hq => s1.free (hall q hq)) nd (s1.trans sm) ⟨eD, by omega, hr⟩
/-- name = [new list for ..] on one line -/
theorem SX.setLcN {S1 S2 S3 : Type} {Γw : Cxt S1} {Γt : Cxt S2} {Γ3 : Cxt S3} {τ1 : Ty β} {elt : Expr} {ifs : List Expr} {scope : Scope} {fi : S → Rs (List β)} {w : S → S1} {put : S1 → β → S2} {ix : List Nat} {ft : S2 → Rs Bool} {fe : S2 → Rs γ} {put2 : S → List γ → S3}
    (own : List (Str × Nat)) (hN : A.N[i]? = some y) (hy : A.sc.names.lookup y = some .local) (hl : (py.line == p.line) = true) (hn : (scope.names.any fun (n, k) => n == y && (k == .local || k == .cell)) = false) (hk : A.sc.kind = .function)
    (hi : IB A ca tg iter Γ τ1 fi) (hb : blkC A.N A.sc scope own = true) (hw : Wp Γ (own.map (·.2)) Γw w) (hg : GX (A.blk scope) tg Γw Γt τ1 put ix) (hix : ∀ i ∈ ix, i ∈ own.map (·.2))
    (ht : PTz (A.blk scope) ca ifs Γt ft) (he : PL (A.blk scope) ca elt Γt c fe) (hp2 : Put Γ i (.ownN (cLL c)) Γ3 put2) (hf : ∀ env x, foldedSetIterable iter env x = pure x := by intro _ _; rfl) :
    SX A ca (.Assign [.Name y py] (.ListComp elt [⟨tg, iter, ifs, 0⟩] scope p) pos) Γ Γ3 Γl rr (fun s => ((fi s).bind fun bs => Rs.guard (decide (bs.length ≤ sizeLine)) (lcM (fun b => nox (lcT (ft (put (w s) b)) (fe (put (w s) b)))) bs)).bind fun r => .ok (.nx (put2 s r))) := by
  obtain ⟨wi, pi, qi⟩ := hi
  obtain ⟨g, pg, qg⟩ := hg
  obtain ⟨tt, ptt, qt⟩ := ht
  obtain ⟨te, pe, qe⟩ := he
  refine ⟨tAsg (tLc wi g tt te (own.map (·.2))) (gName i), fun X hX => ps_setLc hX.calm (by rw [hX.N]; exact hX.nd) (by rw [hX.N]; exact hN) (by rw [hX.sc]; exact hy) (sw_true (by rw [hX.sc]; exact hk) (by rw [hX.sc]; exact hy) hl hn) (pi X hX) (blkOk_by (by rw [hX.N, hX.sc]; exact hb)) (fun s H C cl fp => pg _ (hX.blk scope s H C cl fp)) (fun s H C cl fp => ptt _ (hX.blk scope s H C cl fp)) (fun s H C cl fp => pe _ (hX.blk scope s H C cl fp)) (hf X.env), fun F R σ H s D ⟨Og, hs⟩ hp => ?_⟩
  show tLc wi g tt te (own.map (·.2)) σ H fun x H1 => gName i x σ H1 D.nx
  refine lcN_spec hw hix qi qg qt qe (hid F [] Og) σ H s _ hs.sx ((Rs.post_bind hp).mono (fun r k p ps H' n nd sm rv => ?_) fun _ z => z.exw hs.fr)
  exact k _ _ (hs.storeN sm n nd (fun q hq => by
    rcases List.mem_cons.mp hq with rfl | hq
    · exact Hidn.lst rv.1
    · exact inl_hid rv.2.2 q hq) hp2 rv)
/-- name = {k: new list for ..} on one line -/
theorem SX.setDcN {S1 S2 S3 : Type} {Γw : Cxt S1} {Γt : Cxt S2} {Γ3 : Cxt S3} {τ1 : Ty β} {kx vx : Expr} {ifs : List Expr} {scope : Scope} {fi : S → Rs (List β)} {w : S → S1} {put : S1 → β → S2} {ix : List Nat} {ft : S2 → Rs Bool} {fk : S2 → Rs (Int × Int)} {fe : S2 → Rs γ} {put2 : S → List ((Int × Int) × γ) → S3}
    (own : List (Str × Nat)) (hN : A.N[i]? = some y) (hy : A.sc.names.lookup y = some .local) (hl : (py.line == p.line) = true) (hn : (scope.names.any fun (n, k) => n == y && (k == .local || k == .cell)) = false) (hk : A.sc.kind = .function)
    (hi : IB A ca tg iter Γ τ1 fi) (hb : blkC A.N A.sc scope own = true) (hw : Wp Γ (own.map (·.2)) Γw w) (hg : GX (A.blk scope) tg Γw Γt τ1 put ix) (hix : ∀ i ∈ ix, i ∈ own.map (·.2))
    (ht : PTz (A.blk scope) ca ifs Γt ft) (hkx : PX (A.blk scope) ca kx Γt (tTup (.cons tI (.one tI))) fk) (he : PL (A.blk scope) ca vx Γt c fe) (hp2 : Put Γ i (.ownN (cDL c)) Γ3 put2) (hf : ∀ env x, foldedSetIterable iter env x = pure x := by intro _ _; rfl) :
    SX A ca (.Assign [.Name y py] (.DictComp kx vx [⟨tg, iter, ifs, 0⟩] scope p) pos) Γ Γ3 Γl rr (fun s => ((fi s).bind fun bs => Rs.guard (decide (bs.length ≤ sizeLine)) (dnM (fun b => nox (lcT (ft (put (w s) b)) ((fk (put (w s) b)).bind fun k => (fe (put (w s) b)).bind fun v => .ok (k, v)))) bs [])).bind fun r => .ok (.nx (put2 s r))) := by
  obtain ⟨wi, pi, qi⟩ := hi
  obtain ⟨g, pg, qg⟩ := hg
  obtain ⟨tt, ptt, qt⟩ := ht
  obtain ⟨tk, ppk, qk⟩ := hkx
  obtain ⟨te, pe, qe⟩ := he
  refine ⟨tAsg (tDcT wi g tt tk te (own.map (·.2))) (gName i), fun X hX => ps_setDcT hX.calm (by have := hX.room.un; omega) (by rw [hX.N]; exact hX.nd) (by rw [hX.N]; exact hN) (by rw [hX.sc]; exact hy) (sw_trueD (by rw [hX.sc]; exact hk) (by rw [hX.sc]; exact hy) hl hn) (pi X hX) (blkOk_by (by rw [hX.N, hX.sc]; exact hb)) (fun s H C cl fp => pg _ (hX.blk scope s H C cl fp)) (fun s H C cl fp => ptt _ (hX.blk scope s H C cl fp)) (fun s H C cl fp => ppk _ (hX.blk scope s H C cl fp)) (fun s H C cl fp => pe _ (hX.blk scope s H C cl fp)) (hf X.env), fun F R σ H s D ⟨Og, hs⟩ hp => ?_⟩
  show tDcT wi g tt tk te (own.map (·.2)) σ H fun x H1 => gName i x σ H1 D.nx
  refine dcN_spec hw hix qi qg qt qk qe (hid F [] Og) σ H s _ hs.sx ((Rs.post_bind hp).mono (fun r k p ps H' n nd sm rv => ?_) fun _ z => z.exw hs.fr)
  exact k _ _ (hs.storeN sm n nd (fun q hq => by
    rcases List.mem_cons.mp hq with rfl | hq
    · exact Hidn.dT rv.1
    · exact inl_hid rv.2.2 q hq) hp2 rv)
end
end TL
/-! TL32: isinstance(x, (T, U)) of what may be None; max of what may change a slot. -/
namespace TL
open PySem PySem.Spec PyProof.Rows L2
variable {A : Amb} {ca : Nat → Addr}
section
variable {S α : Type} {Γ : Cxt S} {τ : Ty α} {a : Expr} {pos p p2 p3 p4 : Pos} {x y : Str}
theorem PX.isi2O {f : S → Rs (Option α)} {n m m2 : String} {k : Bool} {y2 : Str} {kk : Nat} (B : Blt A x (.builtin "isinstance")) (Bm : Blt A y (.type m)) (Bm2 : Blt A y2 (.type m2)) (h : IsTy τ n) (ha : PX A ca a Γ (tO τ) f) (hk : ∀ K, PySem.W.kitAny K (.type n) [.type m, .type m2] = some k := by intro _; rfl) (hn : ∀ K, PySem.W.kitAny K (.type "NoneType") [.type m, .type m2] = some false := by intro _; rfl) (hs : star a = false := by rfl) :
    PX A ca (.Call (.Name x p) [a, .Tuple [.Name y p2, .Name y2 p3] kk p4] [] pos) Γ tB (fun s => (f s).bind fun o => .ok (o.isSome && k)) := by
  obtain ⟨ta, pa, qa⟩ := ha
  have pt : ∀ X, A.In X → PE X (.Tuple [.Name y p2, .Name y2 p3] kk p4) (L2.tTup (tCons (tC (.ty m)) (tCons (tC (.ty m2)) tNil))) := fun X hX =>
    pe_tup (pa_cons (pe_bltn (hX.gl Bm.gl) (by rw [hX.mg]; exact Bm.mg) Bm.bt rfl Bm.nn Bm.db) (pa_cons (pe_bltn (hX.gl Bm2.gl) (by rw [hX.mg]; exact Bm2.mg) Bm2.bt rfl Bm2.nn Bm2.db) pa_nil (star_each rfl)) (star_each rfl))
  refine ⟨_, fun X hX => call2 (r := rIsiT A.K) hX B (by rw [← hX.K]; exact call_isiT) (pa X hX) (pt X hX) hs rfl, fun O σ H s Q h0 hp => qa O σ H s _ h0 ((Rs.post_bind hp).mono (fun o ka v H1 s1 r => ?_) fun _ z => z)⟩
  refine ⟨(by decide : 2 ≤ sizeLine), fun q nq => ?_⟩
  cases o with
  | none => exact ⟨v, q, [.ty m, .ty m2], _, [.type m, .type m2], false, rfl, upd_same, .cons (.ty m) (.cons (.ty m2) .nil), (by rw [show v = .non from r]; exact .base .non), hn _, ka _ _ (s1.trans (same_upd nq)) rfl⟩
  | some a => exact ⟨v, q, [.ty m, .ty m2], _, [.type m, .type m2], k, rfl, upd_same, .cons (.ty m) (.cons (.ty m2) .nil), TyX.mono h (cut_le.trans (same_upd nq)) (show τ.rep A.K (cut H1 O) v a from r), hk _, ka _ _ (s1.trans (same_upd nq)) rfl⟩
variable {S' S'' : Type} {Γ' : Cxt S'} {Γ'' : Cxt S''} {b : Expr}
theorem EX.max2 {f : S → Rs (Int × S')} {g : S' → Rs (Int × S'')} (B : Blt A x (.builtin "max")) (ha : EX A ca a Γ Γ' tI f) (hb : EX A ca b Γ' Γ'' tI g) (h1 : star a = false := by rfl) (h2 : star b = false := by rfl) : EX A ca (.Call (.Name x p) [a, b] [] pos) Γ Γ'' tI (fun s => (f s).bind fun x => (g x.2).bind fun y => .ok (max x.1 y.1, y.2)) := by
  obtain ⟨ta, pa, qa⟩ := ha
  obtain ⟨tb, pb, qb⟩ := hb
  refine ⟨_, fun X hX => call2 hX B (call_max2 hX.calm) (pa X hX) (pb X hX) h1 h2, fun F L R σ H s Q hs hp => EX.two (k := fun x y s2 => .ok (max x y, s2)) qa qb hs hp fun x y s2 v u H2 h2 k => ?_⟩
  obtain ⟨Og, h2⟩ := h2
  obtain ⟨⟨r0, r1⟩, r2⟩ := h2.rs
  refine ⟨x, y, by rw [show v = .int x from r1, show u = .int y from r2], ?_⟩
  have : (if y > x then y else x) = max x y := by omega
  rw [this]
  exact k _ H2 ⟨Og, h2.with ⟨r0, rfl⟩⟩
variable {rest : List Expr} {d : Expr}
theorem EX.one {op : BoolOp} {f : S → Rs (Bool × S')} (h : EX A ca a Γ Γ' tB f) : EX A ca (.BoolOp op [a] pos) Γ Γ' tB f := let ⟨t, p, q⟩ := h; ⟨t, fun X hX => pe_one (p X hX), q⟩
/-- and, as a value; both change the slots alike -/
theorem EX.and {f1 f2 : S → Rs (Bool × S)} (ha : EX A ca a Γ Γ tB f1) (hb : EX A ca (.BoolOp .And (b :: rest) pos) Γ Γ tB f2) : EX A ca (.BoolOp .And (a :: b :: rest) pos) Γ Γ tB (fun s => (f1 s).bind fun r => if r.1 then f2 r.2 else .ok (false, r.2)) := by
  obtain ⟨ta, pa, qa⟩ := ha
  obtain ⟨tb, pb, qb⟩ := hb
  refine ⟨_, fun X hX => pe_and (pa X hX) (pb X hX), fun F L R σ H s Q hs hp => qa F L R σ H s _ hs ((Rs.post_bind hp).mono (fun r k v H' h' => ?_) fun _ z => z)⟩
  obtain ⟨Og, h1⟩ := h'
  have rv : v = .bl r.1 := h1.rs.2
  refine ⟨r.1, rv, ?_⟩
  have h2 : RS A.K F L R Γ σ H' r.2 := ⟨Og, h1.with h1.rs.1⟩
  cases e : r.1 with
  | true =>
    rw [e] at k
    exact iteT (qb F L R σ H' r.2 _ h2 k)
  | false =>
    rw [e] at k
    exact iteF (k (.bl false) H' ⟨Og, h1.with ⟨h1.rs.1, rfl⟩⟩)
end
end TL
/-! TL33: sorted(xs, reverse=True) of ints. -/
namespace TL
open PySem PySem.Spec PyProof.Rows L2
variable {A : Amb} {ca : Nat → Addr}
section
variable {S : Type} {Γ : Cxt S} {a : Expr} {pos p kp cp : Pos} {x : Str} {j : Nat}
theorem srt_uniqR {l m : List Int} (h1 : l.Perm m) (h2 : l.Pairwise (fun a b => b ≤ a)) (h3 : m.Pairwise (fun a b => b ≤ a)) : l = m :=
  List.Perm.eq_of_pairwise (le := fun a b : Int => decide (b ≤ a)) (fun a b _ _ h h' => by simp at h h'; omega) (h2.imp fun h => by simpa using h) (h3.imp fun h => by simpa using h) h1
theorem PL.sortedRI {f : S → Rs (List Int)} (B : Blt A x (.builtin "sorted")) (ha : BX A ca a Γ (cL tI) f) (hs : star a = false := by rfl) :
    PL A ca (.Call (.Name x p) [a] [⟨some (Str.ofString "reverse"), .Constant (.bool true) j cp, kp⟩] pos) Γ (cL tI) (fun s => (f s).bind fun xs => .ok (srt xs).reverse) := by
  obtain ⟨ta, pa, qa⟩ := ha
  refine ⟨_, fun X hX => pe_callBK (r := rSortedKw A.K true [.bl true]) (by rw [← hX.K]; exact cr_sortedRev) (hX.gl B.gl) (by rw [hX.mg]; exact B.mg) B.bt (pa_cons (pa X hX) pa_nil (star_each hs)) (pk_cons pe_bl pk_nil) B.nn B.db (by rw [star_each hs]; rfl) (star_any (by simp [hs])), fun O σ H s Q h0 hp => ?_⟩
  refine qa O σ H s _ h0 ((Rs.post_bind hp).mono (fun xs k q vs H1 s1 e z r => ?_) fun _ z => z)
  rw [Paired.ints r] at e
  refine ⟨q, xs, rfl, rfl, .inl (.inl e), fun ns' l pm od n => ?_⟩
  have : ns' = (srt xs).reverse := srt_uniqR (pm.trans ((srt_perm xs).symm.trans (List.reverse_perm _).symm)) od (by rw [List.pairwise_reverse]; exact srt_le xs)
  subst this
  refine k l _ _ (s1.free n) (s1.trans (same_upd n)) upd_same ?_ (Paired.ofInts _)
  rw [List.length_map, List.length_reverse, (srt_perm xs).length_eq, ← Paired.length r]; exact z
end
end TL
/-! TL34: min of pairs, list(range), gcd, lists that are taken apart, two places written at once. -/
namespace TL
open PySem PySem.Spec PySem.SeqAt PyProof.Rows L2
open PySem.W (dataLt minD alike alikeAll AlikeAll dataLt_ii min_list_data readsAll_atA reads_keeps alike_unique)
variable {A : Amb} {ca : Nat → Addr}
/-! ### the least pair -/
def ltPB (x y : Int × Int) : Bool := decide (x.1 < y.1 ∨ (x.1 = y.1 ∧ x.2 < y.2))
def minP0 (x : Int × Int) (r : List (Int × Int)) : Int × Int := r.foldl (fun a y => if ltPB y a then y else a) x
def minPr : List (Int × Int) → Rs (Int × Int)
  | [] => .bad
  | x :: r => .ok (minP0 x r)
def datP (a : Int × Int) : PyData := .tuple [.int a.1, .int a.2]
theorem datP_lt (a b : Int × Int) : dataLt (datP a) (datP b) = ltPB a b := by unfold datP ltPB; rw [dataLt_ii]
theorem minD_pairs : ∀ (r : List (Int × Int)) (x : Int × Int), minD (datP x) (r.map datP) = datP (minP0 x r)
  | [], x => rfl
  | y :: r, x => by
    unfold minD minP0
    rw [List.map_cons, List.foldl_cons, List.foldl_cons, datP_lt]
    have h : (if ltPB y x = true then datP y else datP x) = datP (if ltPB y x = true then y else x) := by split <;> rfl
    rw [h]
    exact minD_pairs r _
theorem depth_pairs : ∀ r : List (Int × Int), PyData.depthAll (r.map datP) ≤ 4
  | [] => by simp [PyData.depthAll]
  | y :: r => by
    rw [List.map_cons, PyData.depthAll]
    have := depth_pairs r
    have : (datP y).depth ≤ 4 := by simp [datP, PyData.depth, PyData.depthAll]
    omega
def rMinP (K : PySem.W.Frag) : List V → Hp → VK → Prop := fun vs H Q => ∃ (a : Addr) (xs : List V) (x : Int × Int) (r : List (Int × Int)), vs = [.ref a] ∧ SqL K H a xs ∧ DpAll K H xs ((x :: r).map datP) ∧
  ∀ (i : Nat) (v : V), xs[i]? = some v → (x :: r)[i]? = some (minP0 x r) → Q v H
theorem DpAll.len {K : PySem.W.Frag} {H : Hp} : ∀ {vs : List V} {ds : List PyData}, DpAll K H vs ds → vs.length = ds.length
  | [], _, h => by cases h; rfl
  | v :: vs, _, h => by
    cases h with
    | cons h1 h2 => rw [List.length_cons, List.length_cons, DpAll.len h2]
theorem alike_pairs (a b : Int × Int) : alike (datP a) (datP b) = true := by simp [datP, alike, alikeAll]
theorem cr_minP {X : Cx} (hh : X.A.handled = none) (hu : X.A.units + 64 < cLine) : CallR X (.builtin "min") (rMinP X.K) := by
  intro pins s σ H vs us Q I r h
  obtain ⟨a, xs, x, rr, rfl, hs, hd, q⟩ := h
  obtain ⟨its, rv, hl, _⟩ := I.list hs
  rw [Vals.ref1 r]
  obtain ⟨as, hr⟩ := Dp.readsAll I _ xs its hd rv
  have hr' : ReadsAll s.heap its.toArray.toList (datP x :: rr.map datP) as := by simpa using hr
  have ha : AlikeAll (datP x :: rr.map datP) := by
    refine ⟨fun u hu v hv => ?_, fun u hu => ?_⟩
    · have h1 : u ∈ (x :: rr).map datP := hu
      have h2 : v ∈ (x :: rr).map datP := hv
      obtain ⟨u', _, rfl⟩ := List.mem_map.mp h1
      obtain ⟨v', _, rfl⟩ := List.mem_map.mp h2
      exact alike_pairs u' v'
    · have h1 : u ∈ (x :: rr).map datP := hu
      obtain ⟨u', _, rfl⟩ := List.mem_map.mp h1
      unfold datP
      exact fun z => by cases z
  have hdep := depth_pairs (x :: rr)
  refine min_list_data hh hl.isList hr' ha (by rw [List.map_cons] at hdep; omega) fun i v h' tk bs hi hR hk => ?_
  rw [minD_pairs] at hR
  have hi2 : its[i]? = some v := by simpa using hi
  obtain ⟨bs2, hR2, hlt, _, _⟩ := readsAll_atA hr' i v hi
  have hR3 : Reads h' v ((datP x :: rr.map datP).getD i .none) bs2 := reads_keeps hk hR2
  have hlt2 : i < (x :: rr).length := by simpa using hlt
  have hget : (datP x :: rr.map datP).getD i .none = datP ((x :: rr)[i]) := by
    rw [show datP x :: rr.map datP = (x :: rr).map datP from rfl, List.getD_eq_getElem?_getD, List.getElem?_map, List.getElem?_eq_getElem hlt2]
    rfl
  rw [hget] at hR3
  have e := alike_unique _ _ _ _ _ (alike_pairs _ _) hR hR3
  have e2 : minP0 x rr = (x :: rr)[i] := by
    unfold datP at e
    simp only [PyData.tuple.injEq, List.cons.injEq, PyData.int.injEq, and_true] at e
    exact Prod.ext e.1 e.2
  have hlen : i < xs.length := by
    have := DpAll.len hd
    simp only [List.length_map] at this
    omega
  have hx : xs[i]? = some xs[i] := List.getElem?_eq_getElem hlen
  refine ⟨xs[i], H, I.kept hk, ?_, q i xs[i] hx (by rw [e2]; exact List.getElem?_eq_getElem hlt2)⟩
  obtain ⟨w, hw, rw'⟩ := rv.get hx
  rw [hi2] at hw
  cases hw
  exact rw'
section
variable {S α β γ U : Type} {Γ : Cxt S} {τ : Ty α} {τ' : Ty β} {c : Ct α} {e a b d : Expr} {f : S → Rs α} {g : S → Rs β} {pos p p2 : Pos} {x : Str}
theorem dp_pairs {K : PySem.W.Frag} {G H : Hp} (sm : Same G H) {vs : List V} {xs : List (Int × Int)} (h : Paired ((tPr tI tI).rep K G) vs xs) : DpAll K H vs (xs.map datP) := by
  induction h with
  | nil => exact .nil
  | cons r _ ih =>
    obtain ⟨t, e, h2, _⟩ := keyAt_of sm r
    subst e
    exact .cons (.tup (.inl (.inl h2)) (.cons (.int _) (.cons (.int _) .nil))) ih
theorem PX.minP {f : S → Rs (List (Int × Int))} (B : Blt A x (.builtin "min")) (ha : BX A ca a Γ (cL (tPr tI tI)) f) (hs : star a = false := by rfl) : PX A ca (.Call (.Name x p) [a] [] pos) Γ (tPr tI tI) (fun s => (f s).bind TL.minPr) := by
  obtain ⟨ta, pa, qa⟩ := ha
  refine ⟨_, fun X hX => call1 (r := rMinP A.K) hX B (by rw [← hX.K]; exact cr_minP hX.room.hd hX.room.units) (pa X hX) hs, fun O σ H s Q hs hp => ?_⟩
  refine qa O σ H s _ hs ((Rs.post_bind hp).mono (fun xs k q vs H1 s1 e z r => ?_) fun _ z => z)
  cases xs with
  | nil => exact k.elim
  | cons y w =>
    refine ⟨q, vs, y, w, rfl, .inl (.inl e), dp_pairs cut_le r, fun i v hv hy => ?_⟩
    obtain ⟨v', hv', rv⟩ := Paired.get r hy
    rw [hv] at hv'
    cases hv'
    exact k v H1 s1 rv
/-! ### list(range(..)) -/
theorem paired_rg {K : PySem.W.Frag} {G : Hp} (n : Int) : Paired (tI.rep K G) (rgV 0 n) (rangeL 0 n) := by
  unfold rgV rangeL
  have : ∀ l : List Nat, Paired (tI.rep K G) (l.map fun i => V.int (0 + (i : Nat))) (l.map fun i => (0 : Int) + (i : Nat)) := by
    intro l
    induction l with
    | nil => exact .nil
    | cons i r ih => exact .cons rfl ih
  exact this _
theorem PL.listR {a : Expr} {f : S → Rs Int} {p3 : Pos} (B : Blt A "list" (.type "list")) (B2 : Blt A "range" (.type "range")) (ha : PX A ca a Γ tI f) (hs : star a = false := by rfl) :
    PL A ca (.Call (.Name "list" p) [.Call (.Name "range" p2) [a] [] pos] [] p3) Γ (cL tI) (fun s => (f s).bind fun n => Rs.guard (decide (0 ≤ n ∧ n ≤ 1000000)) (.ok (rangeL 0 n))) := by
  obtain ⟨ta, pa, qa⟩ := ha
  refine ⟨_, fun X hX => pe_listRg hX.calm (hX.gl B.gl) (by rw [hX.mg]; exact B.mg) (prg_1 (hX.gl B2.gl) (by rw [hX.mg]; exact B2.mg) (pa X hX) (star_each hs)), fun O σ H s Q hs hp => ?_⟩
  refine qa O σ H s _ hs ((Rs.post_bind hp).mono (fun n k v H1 s1 r => ?_) fun _ z => z)
  obtain ⟨hn, k⟩ := Rs.post_guard k
  obtain ⟨h0, hn⟩ := of_decide_eq_true hn
  refine ⟨n, r, RgOk.of_le (Int.le_refl _) (by omega) (by omega) h0, fun q nq => ?_⟩
  exact k q _ _ (s1.free nq) (s1.trans (same_upd nq)) upd_same (by rw [rgV_length, sizeLine_eq]; omega) (paired_rg n)
/-! ### gcd -/
structure BltG (A : Amb) (x : Str) (id : String) : Prop where
  gl : GlA A x
  mg : A.mg x = some (.builtin id)
  db : (x == ("__debug__" : Str)) = false := by decide
theorem PX.gcd {f g : S → Rs Int} (B : BltG A x "math.gcd") (ha : PX A ca a Γ tI f) (hb : PX A ca b Γ tI g) (hs : star a = false := by rfl) (hs2 : star b = false := by rfl) :
    PX A ca (.Call (.Name x p) [a, b] [] pos) Γ tI (fun s => (f s).bind fun i => (g s).bind fun j => .ok ((Nat.gcd i.natAbs j.natAbs : Nat) : Int)) := by
  obtain ⟨ta, pa, qa⟩ := ha
  obtain ⟨tb, pb, qb⟩ := hb
  refine ⟨tCB rGcd (tCons ta (tCons tb tNil)), fun X hX => pe_callBfun cr_gcd (hX.gl B.gl) (by rw [hX.mg]; exact B.mg) (pa_cons (pa X hX) (pa_cons (pb X hX) pa_nil (star_each hs2)) (star_each hs)) B.db (star_each hs) (star_any (by simp [hs2])), fun O σ H s Q hs hp => PX.two qa qb hs hp fun i j v u H2 sm r1 r2 k => ?_⟩
  exact ⟨i, j, by rw [show v = .int i from r1, show u = .int j from r2], k _ H2 sm rfl⟩
/-! ### a list that is taken apart -/
theorem GX.lup {S S' : Type} {Γ : Cxt S} {Γ' : Cxt S'} {ts : Tys α} {tgs : List Expr} {put : S → α → S'} {ix : List Nat} {kk : Nat} (h : GXs A tgs Γ Γ' ts put ix) (hl : tgs.length = ts.len := by rfl) (hs : tgs.any star = false := by rfl) : GX A (.Tuple tgs kk pos) Γ Γ' (tLup ts) put ix := by
  obtain ⟨g, hg, q⟩ := h
  refine ⟨gUnl A.K tgs.length g, fun X hX => by rw [← hX.K]; exact pg_unl hX.calm (hg X hX) (star_tgs hs).1 (star_tgs hs).2, fun G H σ O s v a Q sG hr hv hq => ?_⟩
  obtain ⟨p, vs, rfl, e, z, r⟩ := hv
  exact ⟨p, vs, rfl, .inl (.inl (sG _ _ e)), by rw [ts.length r, hl], q G H σ O s vs a Q sG hr r hq⟩
end
section
variable {ρ S S2 S3 L α β : Type} {Γ : Cxt S} {Γ2 : Cxt S2} {Γ3 : Cxt S3} {Γl : Cxt L} {rr : Rr ρ} {τ : Ty α} {τ' : Ty β} {a1 a2 b b2 : Expr} {pos : Pos} {x y : Str} {i j : Nat}
theorem swap_sub {o1 i1 o2 i2 u v : Expr} {p1 p2 pt pt2 : Pos} {kt k2 : Nat} {env : Env} : swappedStores [.Tuple [.Subscript o1 i1 p1, .Subscript o2 i2 p2] kt pt] (.Tuple [u, v] k2 pt2) env = pure none := by
  unfold swappedStores
  dsimp only [List.length, List.filterMap, List.head?, Option.map, Option.getD, bind, pure]
  by_cases h : (env.blockKind != ScopeKind.function) = true
  · simp [h]
  · simp only [Bool.not_eq_true] at h
    simp [h]
theorem pg_tupK {X : Cx} {K : PySem.W.Frag} {es : List Expr} {k n : Nat} {t : TGs} (hK : X.K = K) (hc : X.calm = true) (h : PGs X es t)
    (hn : (assignEach es X.env).length = n := by rfl) (hst : (assignEach es X.env).findIdx? (·.1) = none := by rfl) : PG X (.Tuple es k pos) (gTup K n t) := by
  subst hK; exact pg_tup hc h hn hst
/-- x[b], y[b2] = a1, a2 -/
theorem SX.par2I {w w2 : Option Addr} {f : S → Rs (α × β)} {g : S → List α} {put : S → List α → S2} {g2 : S2 → List β} {put2 : S2 → List β → S3} {fi : S → Rs Int} {fj : S2 → Rs Int} {xp xp2 yp yp2 pt pt2 : Pos} {kt k2 : Nat}
    (he : PAs A ca [a1, a2] Γ (.cons τ (.one τ')) f) (hw : Wr Γ i w (cL τ) g (cL τ) Γ2 put) (hN : A.N[i]? = some x) (hv : Vis A.sc x) (hix : PX A ca b Γ tI fi)
    (hw' : Wr Γ2 j w2 (cL τ') g2 (cL τ') Γ3 put2) (hN' : A.N[j]? = some y) (hv' : Vis A.sc y) (hix' : PX A ca b2 Γ2 tI fj)
    (hs : ∀ env, swapsWithSole [.Tuple [.Subscript (.Name x xp) b xp2, .Subscript (.Name y yp) b2 yp2] kt pt] (.Tuple [a1, a2] k2 pt2) pos.line env = pure false := by intro _; rfl)
    (hsw : ∀ X, A.In X → swappedStores [.Tuple [.Subscript (.Name x xp) b xp2, .Subscript (.Name y yp) b2 yp2] kt pt] (.Tuple [a1, a2] k2 pt2) X.env = pure none := by intro _ _; exact swap_sub)
    (hd : (x == ("__debug__" : Str)) = false := by decide) (hcd : (x == ("__classdict__" : Str)) = false := by decide) (hd' : (y == ("__debug__" : Str)) = false := by decide) (hcd' : (y == ("__classdict__" : Str)) = false := by decide)
    (hsub : ∀ env v, assign (.Subscript (.Name x xp) b xp2) env v = (do let ov ← holding [v] (eval (.Name x xp) env); let iv ← holding [v, ov] (eval b env); standAt xp2; holding [v, ov, iv] (setItem ov iv v); release [v, ov, iv] []) := by intro _ _; rfl)
    (hsub' : ∀ env v, assign (.Subscript (.Name y yp) b2 yp2) env v = (do let ov ← holding [v] (eval (.Name y yp) env); let iv ← holding [v, ov] (eval b2 env); standAt yp2; holding [v, ov, iv] (setItem ov iv v); release [v, ov, iv] []) := by intro _ _; rfl) :
    SX A ca (.Assign [.Tuple [.Subscript (.Name x xp) b xp2, .Subscript (.Name y yp) b2 yp2] kt pt] (.Tuple [a1, a2] k2 pt2) pos) Γ Γ3 Γl rr
      (fun s => (f s).bind fun u => (fi s).bind fun m => (Rs.ofOpt (ixN (g s).length m)).bind fun n => (fj (put s ((g s).set n u.1))).bind fun m2 =>
        (Rs.ofOpt (ixN (g2 (put s ((g s).set n u.1))).length m2)).bind fun n2 => .ok (.nx (put2 (put s ((g s).set n u.1)) ((g2 (put s ((g s).set n u.1))).set n2 u.2)))) := by
  obtain ⟨t, ht, q⟩ := he
  obtain ⟨ti, hti, qi⟩ := hix
  obtain ⟨tj, htj, qj⟩ := hix'
  refine ⟨_, fun X hX => ps_asg (pe_tup (ht X hX)) (pg_tupK (n := 2) hX.K hX.calm (pgs_cons (pg_sub (pe_var (i := i) (by rw [hX.N]; exact hN) (by rw [hX.sc]; exact hv) hd hcd) (hti X hX) set_list (hsub X.env))
    (pgs_cons (pg_sub (pe_var (i := j) (by rw [hX.N]; exact hN') (by rw [hX.sc]; exact hv') hd' hcd') (htj X hX) set_list (hsub' X.env)) pgs_nil)) rfl rfl) (hs X.env) (hsw X hX), fun F R σ H s D h0 hp => ?_⟩
  obtain ⟨Og, h0⟩ := h0
  refine q _ σ H s _ h0.sx ((Rs.post_bind hp).mono (fun u ku vs H1 s1 r => ?_) fun _ z => z.exw h0.fr)
  have h1 := h0.grow s1
  have h1 := h1.with (R' := R.and (Mn.tys A.K (.cons τ (.one τ')) vs u)) ⟨h1.rs, r⟩
  obtain ⟨v1, _, e1, r1, v2, rfl, r2⟩ := r
  subst e1
  refine ⟨(by decide : 2 ≤ sizeLine), fun p n => ?_⟩
  have h2 := h1.grow (same_upd (o := .tup [v1, v2]) n)
  refine ⟨p, [v1, v2], rfl, .inl (.inl upd_same), rfl, v1, [v2], rfl, ?_⟩
  obtain ⟨l, ws, e0, e1, _, _, _, e3, z3, r3, _⟩ := h2.write hw
  refine ⟨.ref l, e1, qi _ σ _ s _ h2.sx ((Rs.post_bind ku).mono (fun m km y1 H3 s3 ru => ?_) fun _ z => z.exw h2.fr)⟩
  obtain ⟨n1, en, kn⟩ := Rs.post_ofOpt (Rs.post_bind km)
  have h3 := h2.grow s3
  obtain ⟨l2, vs2, _, e12, e22, _, _, e32, z32, r32, hwr⟩ := h3.write hw
  have : l2 = l := by rw [e1] at e12; simpa using e12.symm
  subst this
  refine ⟨l2, vs2, m, n1, rfl, ru, e32, by rw [Paired.length r32]; exact en, ?_⟩
  have rr3 := h3.rs
  have rv1 : τ.rep A.K (cut H3 (hid F [] Og)) v1 u.1 := by
    obtain ⟨w1, _, ew, q1, _, _, _⟩ := rr3.2
    cases ew
    exact q1
  have h4 := hwr (vs2.set n1 v1) ((g s).set n1 u.1) _ (by rw [List.length_set]; exact z32) (fun p o hp e => by rw [upd_ne hp]; exact e) upd_same (by
    rw [cut_upd e22]
    exact Paired.set' rv1 r32 n1)
  have h4 := h4.with (Mn.mono _ (by rw [cut_upd e22]; exact Same.refl _) rr3)
  refine ⟨v2, [], rfl, ?_⟩
  obtain ⟨k1, ks, e0', e1', _, _, _, e3', z3', r3', _⟩ := h4.write hw'
  refine ⟨.ref k1, e1', qj _ σ _ _ _ h4.sx ((Rs.post_bind kn).mono (fun m2 km2 y2 H5 s5 ru2 => ?_) fun _ z => z.exw h4.fr)⟩
  obtain ⟨n2, en2, kn2⟩ := Rs.post_ofOpt (Rs.post_bind km2)
  have h5 := h4.grow s5
  obtain ⟨k2, us2, _, e12', e22', _, _, e32', z32', r32', hwr'⟩ := h5.write hw'
  have : k2 = k1 := by rw [e1'] at e12'; simpa using e12'.symm
  subst this
  refine ⟨k2, us2, m2, n2, rfl, ru2, e32', by rw [Paired.length r32']; exact en2, ⟨rfl, ?_⟩⟩
  have rr5 := h5.rs
  have rv2 : τ'.rep A.K (cut H5 (hid F [] Og)) v2 u.2 := by
    obtain ⟨_, _, ew, _, w1, ew2, q1⟩ := rr5.2
    cases ew
    cases ew2
    exact q1
  have h6 := hwr' (us2.set n2 v2) ((g2 _).set n2 u.2) _ (by rw [List.length_set]; exact z32') (fun p o hp e => by rw [upd_ne hp]; exact e) upd_same (by
    rw [cut_upd e22']
    exact Paired.set' rv2 r32' n2)
  exact kn2 _ _ ⟨Og, h6.with (Mn.mono _ (by rw [cut_upd e22']; exact Same.refl _) rr5.1)⟩
end
end TL
/-! TL35: more of try: a block of calls and tests; a name that gets what a call gives. -/
namespace TL
open PySem PySem.Spec PyProof.Rows L2
variable {A : Amb} {ca : Nat → Addr}
theorem Callee.noE {x : Str} {U β : Type} {ts : Tys U} {τ : Ty β} {m : U → Rs β} (C : Callee A ca x ts τ m) : Callee A.noE ca x ts τ m := ⟨C.ex, C.db⟩
theorem Amb.In.tr {X : Cx} (hX : A.In X) {pn : List (Addr × Obj)} {xe : Value → Shared → Prop} (hfn : A.fn = fun _ => true) (po : PassesOwn (model X.prog X.w) X.A X.env xe) : A.noE.In (X.tr pn xe) := by
  obtain ⟨hstk, hfr⟩ := hX.top hfn
  obtain ⟨prog, w, K, mg, base, N, sc, fn, nd, calm, room, pass, own, takes, top⟩ := hX
  exact ⟨prog, w, K, mg, base, N, sc, fn, nd, calm, room, passes_none, po, takes_none5, fun _ => ⟨hstk, hfr⟩⟩
/-- statements inside a try: they change no name -/
def TrX (A : Amb) (ca : Nat → Addr) (sts : List Stmt) {S : Type} (Γ : Cxt S) (g : S → Rs Unit) : Prop :=
  ∃ tb : WX → TS, (∀ X, A.In X → ∀ (W : WX) (pn : List (Addr × Obj)) (xe : Value → Shared → Prop), Takes (X.tr pn xe) W → PassesOwn (model X.prog X.w) X.A X.env xe → PSs (X.tr pn xe) sts (tb W)) ∧
    ∀ (F : Fm) (R : Mn) (σ : L2.St) (H : Hp) (s : S) (D : Ends) (W : WX), RS A.K F [] R Γ σ H s →
      (g s).Post (fun _ => ∀ σ' H', RS A.K F [] R Γ σ' H' s → D.nx σ' H') (fun c => ∀ d σ' H', RS A.K F [] R Γ σ' H' s → W (.ref (ca c)) d σ' H') → tb W D σ H
/-- .. one statement -/
def TrS (A : Amb) (ca : Nat → Addr) (st : Stmt) {S : Type} (Γ : Cxt S) (g : S → Rs Unit) : Prop :=
  ∃ tb : WX → TS, (∀ X, A.In X → ∀ (W : WX) (pn : List (Addr × Obj)) (xe : Value → Shared → Prop), Takes (X.tr pn xe) W → PassesOwn (model X.prog X.w) X.A X.env xe → PS (X.tr pn xe) st (tb W)) ∧
    ∀ (F : Fm) (R : Mn) (σ : L2.St) (H : Hp) (s : S) (D : Ends) (W : WX), RS A.K F [] R Γ σ H s →
      (g s).Post (fun _ => ∀ σ' H', RS A.K F [] R Γ σ' H' s → D.nx σ' H') (fun c => ∀ d σ' H', RS A.K F [] R Γ σ' H' s → W (.ref (ca c)) d σ' H') → tb W D σ H
section
variable {ρ S S' S'' L α β γ U : Type} {Γ : Cxt S} {Γ' : Cxt S'} {Γl : Cxt L} {rr : Rr ρ} {τ : Ty α} {τ' : Ty β} {e a b d : Expr} {es : List Expr} {pos p p2 p3 py : Pos} {x y : Str} {st : Stmt} {sts sa sb : List Stmt} {i n : Nat}
theorem TrX.nil (hfn : A.fn = fun _ => true) : TrX A ca [] Γ (fun _ => .ok ()) :=
  ⟨fun _ => _, fun X hX W pn xe tk po => pss_nil, fun F R σ H s D W h0 hp => hp σ H h0⟩
theorem TrX.one {g1 : S → Rs Unit} (h1 : TrS A ca st Γ g1) : TrX A ca [st] Γ g1 := by
  obtain ⟨t1, p1, q1⟩ := h1
  exact ⟨t1, fun X hX W pn xe tk po => pss_one (p1 X hX W pn xe tk po), q1⟩
theorem TrX.cons {g1 g2 : S → Rs Unit} (h1 : TrS A ca st Γ g1) (h2 : TrX A ca sts Γ g2) : TrX A ca (st :: sts) Γ (fun s => (g1 s).bind fun _ => g2 s) := by
  obtain ⟨t1, p1, q1⟩ := h1
  obtain ⟨t2, p2, q2⟩ := h2
  refine ⟨fun W => tSeq (t1 W) (t2 W), fun X hX W pn xe tk po => pss_cons (p1 X hX W pn xe tk po) (p2 X hX W pn xe tk po), fun F R σ H s D W h0 hp => ?_⟩
  exact q1 F R σ H s _ W h0 ((Rs.post_bind hp).mono (fun _ k σ' H' h' => q2 F R σ' H' s D W h' k) fun _ z => z)
theorem TrS.call {ts : Tys U} {f : S → Rs U} {m : U → Rs β} (C : Callee A ca x ts τ' m) (hg : GlA A x) (hfn : A.fn = fun _ => true) (ha : PAs A.noE ca (e :: es) Γ ts f) (h1 : star e = false := by rfl) (h2 : es.any star = false := by rfl) :
    TrS A ca (.Expr (.Call (.Name x p) (e :: es) [] p2) p3) Γ (fun s => (nox (f s)).bind fun u => (m u).bind fun _ => .ok ()) := by
  obtain ⟨ta, pa, qa⟩ := ha
  obtain ⟨fa, fd, ps, k, hk, F, hm, kp, hb⟩ := C.ex
  refine ⟨fun W D σ H => tDrop (tCallS (spOf A.K ca ts τ' m) (WE W) ta) D σ H, fun X hX W pn xe tk po => ?_, fun Fm R σ H s D W h0 hp => ?_⟩
  · have hX2 := hX.tr hfn (pn := pn) po
    obtain ⟨prog, w, K, mg, base, N, sc, fn, nd, calm, room, pass, own, takes, top⟩ := hX
    rw [← K]
    refine ps_expr ?_ rfl
    exact pe_callS (X := X.tr pn xe) (k := k) (fd := fd) (ps := ps) (by show FnOk X.prog X.w X.K X.mg X.base _ _ _ _ _ _; rw [prog, w, K, mg, base]; exact F) (room.mono hk) (show X.env.scope.names.lookup x = _ by rw [sc]; exact hg) (show X.mg x = _ by rw [mg]; exact hm) (show PySem.W.keepIn X.K _ = _ by rw [K]; exact kp) (show Binds X.K _ _ _ by rw [K]; exact hb) (fun σ => passAt tk σ) (pa _ hX2) C.db (star_each h1) (star_any h2)
  · obtain ⟨Og, h1'⟩ := id h0
    show ta σ H _
    have hp1 := Rs.post_bind hp
    have hp2 := post_nox (E' := Exw A.noE.E ca H) hp1
    refine qa _ σ H s _ h1'.sx (hp2.mono (fun u k vs H1 s1 r => ?_) fun _ z => z)
    refine ⟨hid Fm [] Og, u, (h1'.grow s1).hidden, r, ?_⟩
    cases hm : m u with
    | ok b =>
      rw [hm] at k
      exact fun v H2 s2 _ => k σ H2 (h0.grow (s1.trans s2))
    | exc c =>
      rw [hm] at k
      exact fun d H2 s2 => k d σ H2 (h0.grow (s1.trans s2))
    | bad =>
      rw [hm] at k
      exact k.elim
theorem TrS.ite {f : S → Rs Bool} {g1 g2 : S → Rs Unit} (hfn : A.fn = fun _ => true) (hc : PB A.noE ca e Γ f) (h1 : TrX A ca sa Γ g1) (h2 : TrX A ca sb Γ g2) : TrS A ca (.If e sa sb pos) Γ (fun s => (nox (f s)).bind fun c => if c then g1 s else g2 s) := by
  obtain ⟨tc, pc, qc⟩ := hc
  obtain ⟨t1, p1, q1⟩ := h1
  obtain ⟨t2, p2, q2⟩ := h2
  refine ⟨fun W D σ H => tIfS tc (t1 W) (t2 W) D σ H, fun X hX W pn xe tk po => ps_if (pc _ (hX.tr hfn (pn := pn) po)) (p1 X hX W pn xe tk po) (p2 X hX W pn xe tk po), fun F R σ H s D W h0 hp => ?_⟩
  obtain ⟨Og, h0'⟩ := id h0
  have hp2 := post_nox (E' := Exw A.noE.E ca H) (Rs.post_bind hp)
  refine qc _ σ H s _ h0'.sx (hp2.mono (fun c k H1 s1 => ?_) fun _ z => z)
  cases c with
  | true => exact iteT (q1 F R σ H1 s D W (h0.grow s1) k)
  | false => exact iteF (q2 F R σ H1 s D W (h0.grow s1) k)
def tryU {ρ S' L : Type} (g : Rs Unit) (k : Fl ρ S' L) (hd : Nat → Rs (Fl ρ S' L)) : Rs (Fl ρ S' L) := match g with
  | .ok _ => .ok k
  | .exc c => hd c
  | .bad => .bad
theorem SX.tryX {h₀ : ExceptHandler} {hds : List ExceptHandler} {hd : Nat → S → Rs (Fl ρ S L)} {g : S → Rs Unit} (hfn : A.fn = fun _ => true) (hb : TrX A ca sts Γ g) (hh : HdX A ca (h₀ :: hds) Γ Γ Γl rr hd) :
    SX A ca (.Try sts (h₀ :: hds) [] [] pos) Γ Γ Γl rr (fun s => tryU (g s) (.nx s) fun c => hd c s) := by
  obtain ⟨tb, pb, qb⟩ := hb
  obtain ⟨l, hl, ql⟩ := hh
  refine ⟨fun D σ H => tb (wMany A.K (fun c d _ H => A.E c d H) D l) D σ H, fun X hX => ?_, fun Fm R σ H s D h0 hp => ?_⟩
  · obtain ⟨hstk, hfr⟩ := hX.top hfn
    have := ps_try_many (pos := pos) (tb := tb) hstk hfr hX.takes (fun W pn xe tk po => pb X hX W pn xe tk po) (hl X hX)
    rw [hX.K] at this
    exact this
  · refine qb Fm R σ H s D _ h0 ?_
    dsimp only [tryU] at hp
    cases hm : g s with
    | ok b =>
      rw [hm] at hp
      exact fun σ' H' h' => hp σ' H' h'
    | exc c =>
      rw [hm] at hp
      exact fun d σ' H' h' => ql Fm R σ' H' s D c d h' hp
    | bad =>
      rw [hm] at hp
      exact hp.elim
/-- x = [text, number] in a clause -/
theorem SuX.setSI {v : Str} {k : Int} {j j2 : Nat} {put : S → SK × Int → S'} (hx : LocA A x) (hN : A.N[i]? = some x) (hp : Put Γ i (.val (tLup (.cons tSk (.one tI)))) Γ' put) (h : PyData.strOk v = true := by decide +kernel) :
    SuX A ca [.Assign [.Name x py] (.List [.Constant (.str v) j p, .Constant (.int k) j2 p2] p3) pos] Γ Γ' Γl rr (fun s => .ok (.nx (put s (⟨v, h⟩, k)))) := by
  refine ⟨_, fun X hX a oe pn _ => pss_one (ps_set (i := i) (show X.N.Nodup by rw [hX.N]; exact hX.nd) (show X.N[i]? = _ by rw [hX.N]; exact hN) (show Loc X.env.scope x by rw [hX.sc]; exact hx.loc) (pe_lst (pa_cons pe_str (pa_cons pe_int pa_nil))) rfl (show X.fn x = true ∨ X.env.scope.names.lookup x = some .local by rw [hX.fn, hX.sc]; exact hx.fn)), fun F R σ H s D ⟨Og, h0⟩ hp' => ?_⟩
  refine ⟨(by decide : 2 ≤ sizeLine), fun q n => ?_⟩
  have h1 := h0.grow (same_upd (o := .lst [.str v, .int k]) n)
  have hq : q ∉ hid F [] Og := fun z => (h0.hidden q z).ne n
  have h2 := h1.with (R' := R.and (Mn.val A.K (tLup (.cons tSk (.one tI))) (.ref q) (⟨v, h⟩, k))) ⟨h1.rs, q, [.str v, .int k], rfl, by rw [cut_out hq, upd_same], (by decide : 2 ≤ sizeLine), .str v, [.int k], rfl, rfl, .int k, rfl, rfl⟩
  exact hp' _ _ (h2.store hp (fun G z => ⟨rfl, _, rfl, z.2⟩) fun G z => z.1)
/-- an expression inside a try -/
def TrE (A : Amb) (ca : Nat → Addr) (e : Expr) {S α : Type} (Γ : Cxt S) (τ : Ty α) (f : S → Rs α) : Prop :=
  ∃ t : WX → TE, (∀ X, A.In X → ∀ (W : WX) (pn : List (Addr × Obj)) (xe : Value → Shared → Prop), Takes (X.tr pn xe) W → PassesOwn (model X.prog X.w) X.A X.env xe → PE (X.tr pn xe) e (t W)) ∧
    ∀ (F : Fm) (R : Mn) (σ : L2.St) (H : Hp) (s : S) (W : WX) (Q : VK), RS A.K F [] R Γ σ H s →
      (f s).Post (fun a => ∀ v H', RS A.K F [] (R.and (Mn.val A.K τ v a)) Γ σ H' s → Q v H') (fun c => ∀ d H', RS A.K F [] R Γ σ H' s → W (.ref (ca c)) d σ H') → t W σ H Q
theorem TrE.call {ts : Tys U} {f : S → Rs U} {m : U → Rs β} (C : Callee A ca x ts τ' m) (hg : GlA A x) (hfn : A.fn = fun _ => true) (ha : PAs A.noE ca (e :: es) Γ ts f) (h1 : star e = false := by rfl) (h2 : es.any star = false := by rfl) :
    TrE A ca (.Call (.Name x p) (e :: es) [] p2) Γ τ' (fun s => (nox (f s)).bind fun u => m u) := by
  obtain ⟨ta, pa, qa⟩ := ha
  obtain ⟨fa, fd, ps, k, hk, F, hm, kp, hb⟩ := C.ex
  refine ⟨fun W => tCallS (spOf A.K ca ts τ' m) (WE W) ta, fun X hX W pn xe tk po => ?_, fun Fm R σ H s W Q h0 hp => ?_⟩
  · have hX2 := hX.tr hfn (pn := pn) po
    obtain ⟨prog, w, K, mg, base, N, sc, fn, nd, calm, room, pass, own, takes, top⟩ := hX
    rw [← K]
    exact pe_callS (X := X.tr pn xe) (k := k) (fd := fd) (ps := ps) (by show FnOk X.prog X.w X.K X.mg X.base _ _ _ _ _ _; rw [prog, w, K, mg, base]; exact F) (room.mono hk) (show X.env.scope.names.lookup x = _ by rw [sc]; exact hg) (show X.mg x = _ by rw [mg]; exact hm) (show PySem.W.keepIn X.K _ = _ by rw [K]; exact kp) (show Binds X.K _ _ _ by rw [K]; exact hb) (fun σ => passAt tk σ) (pa _ hX2) C.db (star_each h1) (star_any h2)
  · obtain ⟨Og, h1'⟩ := id h0
    show ta σ H _
    have hp1 := Rs.post_bind hp
    have hp2 := post_nox (E' := Exw A.noE.E ca H) hp1
    refine qa _ σ H s _ h1'.sx (hp2.mono (fun u k vs H1 s1 r => ?_) fun _ z => z)
    refine ⟨hid Fm [] Og, u, (h1'.grow s1).hidden, r, ?_⟩
    cases hm : m u with
    | ok b =>
      rw [hm] at k
      exact fun v H2 s2 r2 => k v H2 ⟨Og, by have h2 := h1'.grow (s1.trans s2); exact h2.with ⟨h2.rs, r2⟩⟩
    | exc c =>
      rw [hm] at k
      exact fun d H2 s2 => k d H2 (h0.grow (s1.trans s2))
    | bad =>
      rw [hm] at k
      exact k.elim
/-- [text, e] -/
theorem TrE.lupS {v : Str} {j : Nat} {f : S → Rs α} (he : TrE A ca e Γ τ f) (h : PyData.strOk v = true := by decide +kernel) (hs : star e = false := by rfl) :
    TrE A ca (.List [.Constant (.str v) j p, e] pos) Γ (tLup (.cons tSk (.one τ))) (fun s => (f s).bind fun a => .ok (⟨v, h⟩, a)) := by
  obtain ⟨t, pt, qt⟩ := he
  refine ⟨fun W => _, fun X hX W pn xe tk po => pe_lst (pa_cons pe_str (pa_cons (pt X hX W pn xe tk po) pa_nil (star_each hs))), fun F R σ H s W Q h0 hp => ?_⟩
  refine qt F R σ H s W _ h0 ((Rs.post_bind hp).mono (fun a k u H1 h1 => ?_) fun _ z => z)
  refine ⟨(by decide : 2 ≤ sizeLine), fun q n => ?_⟩
  obtain ⟨Og, h1⟩ := h1
  have h2 := h1.grow (same_upd (o := .lst [.str v, u]) n)
  have hq : q ∉ hid F [] Og := fun z => (h1.hidden q z).ne n
  exact k _ _ ⟨Og, h2.with ⟨h2.rs.1, q, [.str v, u], rfl, by rw [cut_out hq, upd_same], (by decide : 2 ≤ sizeLine), .str v, [u], rfl, rfl, u, rfl, h2.rs.2⟩⟩
def tryV {β ρ S' L : Type} (g : Rs β) (k : β → Fl ρ S' L) (hd : Nat → Rs (Fl ρ S' L)) : Rs (Fl ρ S' L) := match g with
  | .ok b => .ok (k b)
  | .exc c => hd c
  | .bad => .bad
/-- try: x = e; except .. -/
theorem SX.tryA {h₀ : ExceptHandler} {hds : List ExceptHandler} {hd : Nat → S → Rs (Fl ρ S' L)} {f : S → Rs α} {put : S → α → S'} (hfn : A.fn = fun _ => true) (he : TrE A ca e Γ τ f) (hx : LocA A x) (hN : A.N[i]? = some x) (hp : Put Γ i (.val τ) Γ' put) (hh : HdX A ca (h₀ :: hds) Γ Γ' Γl rr hd)
    (hsw : ∀ env, swapsWith e (some (.Name x py)) p.line env = pure false := by intro _; rfl) :
    SX A ca (.Try [.Assign [.Name x py] e p] (h₀ :: hds) [] [] pos) Γ Γ' Γl rr (fun s => tryV (f s) (fun a => .nx (put s a)) fun c => hd c s) := by
  obtain ⟨t, pt, qt⟩ := he
  obtain ⟨l, hl, ql⟩ := hh
  refine ⟨fun D σ H => tAsg (t (wMany A.K (fun c d _ H => A.E c d H) D l)) (gName i) D σ H, fun X hX => ?_, fun Fm R σ H s D h0 hq => ?_⟩
  · obtain ⟨hstk, hfr⟩ := hX.top hfn
    have := ps_try_many (pos := pos) (tb := fun W => tAsg (t W) (gName i)) hstk hfr hX.takes (fun W pn xe tk po => pss_one (ps_set (i := i) (show X.N.Nodup by rw [hX.N]; exact hX.nd) (show X.N[i]? = _ by rw [hX.N]; exact hN) (show Loc X.env.scope x by rw [hX.sc]; exact hx.loc) (pt X hX W pn xe tk po) (hsw _) (show X.fn x = true ∨ X.env.scope.names.lookup x = some .local by rw [hX.fn, hX.sc]; exact hx.fn))) (hl X hX)
    rw [hX.K] at this
    exact this
  · refine qt Fm R σ H s _ _ h0 ?_
    dsimp only [tryV] at hq
    cases hm : f s with
    | ok b =>
      rw [hm] at hq
      exact fun v H' ⟨Og, h'⟩ => hq _ _ (h'.store hp (fun G z => ⟨rfl, _, rfl, z.2⟩) fun G z => z.1)
    | exc c =>
      rw [hm] at hq
      exact fun d H' h' => ql Fm R σ H' s D c d h' hq
    | bad =>
      rw [hm] at hq
      exact hq.elim
end
end TL
namespace T30
open PySem PySem.Spec PyProof.Rows L2 TL
def topS (i : Nat) : Stmt := PySem.Challenge.pw_somanyties_k30_grow_or_cap.main.body.getD i (.Pass ⟨0, 0, 0, 0⟩)
def subT (c k : Nat) : Bool := (([[true, false], [true, true]] : List (List Bool)).getD c []).getD k false
abbrev s_whole_from : Stmt := topS 5
abbrev N_whole_from : List Str := ["number", "least"]
theorem sc_whole_from : FnScope N_whole_from ["number", "least"] (defScope s_whole_from) := ⟨rfl, rfl, rfl, by decide +kernel, rfl, by decide +kernel, by decide +kernel⟩
def w_whole_from : {f : _ → Rs (Fl Bool _ Unit) // ∀ (P : Program) (w : World) (K : PySem.W.Frag) (mg : Str → Option Value) (base : Heap) (ca : Nat → Addr) (k : Nat) (E : XK) (b_isinstance : Bm mg "isinstance" (.builtin "isinstance")) (b_int : Bm mg "int" (.type "int")) (b_bool : Bm mg "bool" (.type "bool")), SXs (ambOf P w K mg base N_whole_from s_whole_from k E) ca (defBody s_whole_from) (.cons (.val tI) (.cons (.val tI) .nil)) (.cons (.val tI) (.cons (.val tI) .nil)) .nil (rVal K tB) f} :=
  ⟨_, fun P w K mg base ca k E b_isinstance b_int b_bool =>
    (SX.one (SX.retP (PX.and (PX.isi (k := true) (Bm.at b_isinstance rfl) (Bm.at b_int rfl) IsTy.int (PX.var At.z rfl (vb rfl))) (PX.and (PX.not (PX.isi (k := false) (Bm.at b_isinstance rfl) (Bm.at b_bool rfl) IsTy.int (PX.var At.z rfl (vb rfl)))) (PX.one (PX.ge (PX.var At.z rfl (vb rfl)) (PX.var (At.s At.z) rfl (vb rfl))))))))⟩
def m_whole_from (u : Int × Int) : Rs Bool := (w_whole_from.1 (u.1, (u.2, ()))).bind (endM (fun _ => .bad))
theorem g_whole_from {P : Program} {w : World} {K : PySem.W.Frag} {mg : Str → Option Value} {base : Heap} {ca : Nat → Addr} {f : Addr} {fd : FuncData} (T : TopFn K mg "whole_from" s_whole_from ["number", "least"] f fd) (z_isinstance : mg "isinstance" = none) (z_int : mg "int" = none) (z_bool : mg "bool" = none) : FnOk P w K mg base (L2.CX P w) 1 f fd ["number", "least"] (spOf K ca (.cons tI (.one tI)) tB m_whole_from) :=
  fn_mk (m := 0) (dn := fun _ => .bad) T.F sc_whole_from (Ini.cons (Ini.one Anys.nil)) rfl rfl (fun E => w_whole_from.2 P w K mg base ca 0 E ⟨z_isinstance, rfl, by decide, by decide⟩ ⟨z_int, rfl, by decide, by decide⟩ ⟨z_bool, rfl, by decide, by decide⟩)
theorem f_whole_from {P : Program} {w : World} {K : PySem.W.Frag} {mg : Str → Option Value} {base : Heap} {ca : Nat → Addr} {f : Addr} {fd : FuncData} (T : TopFn K mg "whole_from" s_whole_from ["number", "least"] f fd) (z_isinstance : mg "isinstance" = none) (z_int : mg "int" = none) (z_bool : mg "bool" = none) : Ex P w K mg base "whole_from" (spOf K ca (.cons tI (.one tI)) tB m_whole_from) 1 :=
  ⟨f, fd, ["number", "least"], g_whole_from T z_isinstance z_int z_bool, T.hm, T.F.kp, T.bd⟩
abbrev s_sum_length : Stmt := topS 7
abbrev N_sum_length : List Str := ["row", "length", "what"]
theorem sc_sum_length : FnScope N_sum_length ["row", "length", "what"] (defScope s_sum_length) := ⟨rfl, rfl, rfl, by decide +kernel, rfl, by decide +kernel, by decide +kernel⟩
def w_sum_length : {f : _ → Rs (Fl Unit _ Unit) // ∀ (P : Program) (w : World) (K : PySem.W.Frag) (mg : Str → Option Value) (base : Heap) (ca : Nat → Addr) (k : Nat) (E : XK) (b_len : Bm mg "len" (.builtin "len")) (x_BadTable : ExcA (ambOf P w K mg base N_sum_length s_sum_length k E) ca 1 "BadTable"), SXs (ambOf P w K mg base N_sum_length s_sum_length k E) ca (defBody s_sum_length) (.cons (.val (tL tI)) (.cons (.val tI) (.cons (.val tSk) .nil))) (.cons (.val (tL tI)) (.cons (.val tI) (.cons (.val tSk) .nil))) .nil (rVal K tN) f} :=
  ⟨_, fun P w K mg base ca k E b_len x_BadTable =>
    (SXs.cons (SX.iteP (PB.neI (PX.lenL (Bm.at b_len rfl) (BX.tl (PX.var At.z rfl (vb rfl)))) (PX.var (At.s At.z) rfl (vb rfl))) (SX.one (SX.raise x_BadTable rfl (PF.join (PFs.cons (PF.sk (PX.var (At.s (At.s At.z)) rfl (vb rfl))) (PFs.cons (PF.lit 12) (PFs.cons (PF.int (PX.lenL (Bm.at b_len rfl) (BX.tl (PX.var At.z rfl (vb rfl))))) (PFs.cons (PF.lit 13) (PFs.cons (PF.int (PX.var (At.s At.z) rfl (vb rfl))) PFs.nil)))))))) SXs.nil) SXs.nil)⟩
def m_sum_length (u : (List Int) × Int × SK) : Rs Unit := (w_sum_length.1 (u.1, (u.2.1, (u.2.2, ())))).bind (endM (fun _ => .ok ()))
theorem g_sum_length {P : Program} {w : World} {K : PySem.W.Frag} {mg : Str → Option Value} {base : Heap} {ca : Nat → Addr} {f : Addr} {fd : FuncData} (T : TopFn K mg "sum_length" s_sum_length ["row", "length", "what"] f fd) (z_len : mg "len" = none) (X_BadTable : ExcN P w K mg base ca 1 "BadTable") : FnOk P w K mg base (L2.CX P w) 3 f fd ["row", "length", "what"] (spOf K ca (.cons (tL tI) (.cons tI (.one tSk))) tN m_sum_length) :=
  fn_mk (m := 0) (dn := fun _ => .ok ()) T.F sc_sum_length (Ini.cons (Ini.cons (Ini.one Anys.nil))) rfl rfl (fun E => w_sum_length.2 P w K mg base ca 2 E ⟨z_len, rfl, by decide, by decide⟩ ⟨X_BadTable, by show 2 ≤ 2; decide, by decide⟩) (hd := fun _ => .inl fun _ => rfl)
theorem f_sum_length {P : Program} {w : World} {K : PySem.W.Frag} {mg : Str → Option Value} {base : Heap} {ca : Nat → Addr} {f : Addr} {fd : FuncData} (T : TopFn K mg "sum_length" s_sum_length ["row", "length", "what"] f fd) (z_len : mg "len" = none) (X_BadTable : ExcN P w K mg base ca 1 "BadTable") : Ex P w K mg base "sum_length" (spOf K ca (.cons (tL tI) (.cons tI (.one tSk))) tN m_sum_length) 3 :=
  ⟨f, fd, ["row", "length", "what"], g_sum_length T z_len X_BadTable, T.hm, T.F.kp, T.bd⟩
def w_sum_lengthT : {f : _ → Rs (Fl Unit _ Unit) // ∀ (P : Program) (w : World) (K : PySem.W.Frag) (mg : Str → Option Value) (base : Heap) (ca : Nat → Addr) (k : Nat) (E : XK) (b_len : Bm mg "len" (.builtin "len")) (x_BadTable : ExcA (ambOf P w K mg base N_sum_length s_sum_length k E) ca 1 "BadTable"), SXs (ambOf P w K mg base N_sum_length s_sum_length k E) ca (defBody s_sum_length) (.cons (.val (tT tI)) (.cons (.val tI) (.cons (.val tSk) .nil))) (.cons (.val (tT tI)) (.cons (.val tI) (.cons (.val tSk) .nil))) .nil (rVal K tN) f} :=
  ⟨_, fun P w K mg base ca k E b_len x_BadTable =>
    (SXs.cons (SX.iteP (PB.neI (PX.lenT (Bm.at b_len rfl) (PX.var At.z rfl (vb rfl))) (PX.var (At.s At.z) rfl (vb rfl))) (SX.one (SX.raise x_BadTable rfl (PF.join (PFs.cons (PF.sk (PX.var (At.s (At.s At.z)) rfl (vb rfl))) (PFs.cons (PF.lit 12) (PFs.cons (PF.int (PX.lenT (Bm.at b_len rfl) (PX.var At.z rfl (vb rfl)))) (PFs.cons (PF.lit 13) (PFs.cons (PF.int (PX.var (At.s At.z) rfl (vb rfl))) PFs.nil)))))))) SXs.nil) SXs.nil)⟩
def m_sum_lengthT (u : (List Int) × Int × SK) : Rs Unit := (w_sum_lengthT.1 (u.1, (u.2.1, (u.2.2, ())))).bind (endM (fun _ => .ok ()))
theorem g_sum_lengthT {P : Program} {w : World} {K : PySem.W.Frag} {mg : Str → Option Value} {base : Heap} {ca : Nat → Addr} {f : Addr} {fd : FuncData} (T : TopFn K mg "sum_length" s_sum_length ["row", "length", "what"] f fd) (z_len : mg "len" = none) (X_BadTable : ExcN P w K mg base ca 1 "BadTable") : FnOk P w K mg base (L2.CX P w) 3 f fd ["row", "length", "what"] (spOf K ca (.cons (tT tI) (.cons tI (.one tSk))) tN m_sum_lengthT) :=
  fn_mk (m := 0) (dn := fun _ => .ok ()) T.F sc_sum_length (Ini.cons (Ini.cons (Ini.one Anys.nil))) rfl rfl (fun E => w_sum_lengthT.2 P w K mg base ca 2 E ⟨z_len, rfl, by decide, by decide⟩ ⟨X_BadTable, by show 2 ≤ 2; decide, by decide⟩) (hd := fun _ => .inl fun _ => rfl)
theorem f_sum_lengthT {P : Program} {w : World} {K : PySem.W.Frag} {mg : Str → Option Value} {base : Heap} {ca : Nat → Addr} {f : Addr} {fd : FuncData} (T : TopFn K mg "sum_length" s_sum_length ["row", "length", "what"] f fd) (z_len : mg "len" = none) (X_BadTable : ExcN P w K mg base ca 1 "BadTable") : Ex P w K mg base "sum_length" (spOf K ca (.cons (tT tI) (.cons tI (.one tSk))) tN m_sum_lengthT) 3 :=
  ⟨f, fd, ["row", "length", "what"], g_sum_lengthT T z_len X_BadTable, T.hm, T.F.kp, T.bd⟩
abbrev s_sum_place : Stmt := topS 8
abbrev N_sum_place : List Str := ["place", "length"]
theorem sc_sum_place : FnScope N_sum_place ["place", "length"] (defScope s_sum_place) := ⟨rfl, rfl, rfl, by decide +kernel, rfl, by decide +kernel, by decide +kernel⟩
def w_sum_place : {f : _ → Rs (Fl Unit _ Unit) // ∀ (P : Program) (w : World) (K : PySem.W.Frag) (mg : Str → Option Value) (base : Heap) (ca : Nat → Addr) (k : Nat) (E : XK) (c_whole_from : Callee (ambOf P w K mg base N_sum_place s_sum_place k E) ca "whole_from" (.cons tI (.one tI)) tB m_whole_from) (x_BadTable : ExcA (ambOf P w K mg base N_sum_place s_sum_place k E) ca 1 "BadTable"), SXs (ambOf P w K mg base N_sum_place s_sum_place k E) ca (defBody s_sum_place) (.cons (.val tI) (.cons (.val tI) .nil)) (.cons (.val tI) (.cons (.val tI) .nil)) .nil (rVal K tN) f} :=
  ⟨_, fun P w K mg base ca k E c_whole_from x_BadTable =>
    (SXs.cons (SX.iteP (PBw.pb (PB.or (PB.not (PX.pb (PX.call c_whole_from rfl (PAs.cons (PX.var At.z rfl (vb rfl)) (PAs.one PX.int))) (by intros; rfl))) (PB.or1 (PB.ge (PX.var At.z rfl (vb rfl)) (PX.var (At.s At.z) rfl (vb rfl)))))) (SX.one (SX.raise x_BadTable rfl (PF.join (PFs.cons (PF.int (PX.var At.z rfl (vb rfl))) (PFs.cons (PF.lit 38) (PFs.cons (PF.int (PX.var (At.s At.z) rfl (vb rfl))) PFs.nil)))))) SXs.nil) SXs.nil)⟩
def m_sum_place (u : Int × Int) : Rs Unit := (w_sum_place.1 (u.1, (u.2, ()))).bind (endM (fun _ => .ok ()))
theorem g_sum_place {P : Program} {w : World} {K : PySem.W.Frag} {mg : Str → Option Value} {base : Heap} {ca : Nat → Addr} {f : Addr} {fd : FuncData} (T : TopFn K mg "sum_place" s_sum_place ["place", "length"] f fd) (e_whole_from : Ex P w K mg base "whole_from" (spOf K ca (.cons tI (.one tI)) tB m_whole_from) 1) (X_BadTable : ExcN P w K mg base ca 1 "BadTable") : FnOk P w K mg base (L2.CX P w) 3 f fd ["place", "length"] (spOf K ca (.cons tI (.one tI)) tN m_sum_place) :=
  fn_mk (m := 0) (dn := fun _ => .ok ()) T.F sc_sum_place (Ini.cons (Ini.one Anys.nil)) rfl rfl (fun E => w_sum_place.2 P w K mg base ca 2 E (e_whole_from.callee (by decide)) ⟨X_BadTable, by show 2 ≤ 2; decide, by decide⟩) (hd := fun _ => .inl fun _ => rfl)
theorem f_sum_place {P : Program} {w : World} {K : PySem.W.Frag} {mg : Str → Option Value} {base : Heap} {ca : Nat → Addr} {f : Addr} {fd : FuncData} (T : TopFn K mg "sum_place" s_sum_place ["place", "length"] f fd) (e_whole_from : Ex P w K mg base "whole_from" (spOf K ca (.cons tI (.one tI)) tB m_whole_from) 1) (X_BadTable : ExcN P w K mg base ca 1 "BadTable") : Ex P w K mg base "sum_place" (spOf K ca (.cons tI (.one tI)) tN m_sum_place) 3 :=
  ⟨f, fd, ["place", "length"], g_sum_place T e_whole_from X_BadTable, T.hm, T.F.kp, T.bd⟩
abbrev s_sum_rows : Stmt := topS 9
abbrev N_sum_rows : List Str := ["rows", "length", "found", "coefficients", "right"]
theorem sc_sum_rows : FnScope N_sum_rows ["rows", "length"] (defScope s_sum_rows) := ⟨rfl, rfl, rfl, by decide +kernel, rfl, by decide +kernel, by decide +kernel⟩
def w_sum_rows : {f : _ → Rs (Fl (List ((List Int) × Int)) _ Unit) // ∀ (P : Program) (w : World) (K : PySem.W.Frag) (mg : Str → Option Value) (base : Heap) (ca : Nat → Addr) (k : Nat) (E : XK) (b_tuple : Bm mg "tuple" (.type "tuple")) (c_sum_length : Callee (ambOf P w K mg base N_sum_rows s_sum_rows k E) ca "sum_length" (.cons (tL tI) (.cons tI (.one tSk))) tN m_sum_length), SXs (ambOf P w K mg base N_sum_rows s_sum_rows k E) ca (defBody s_sum_rows) (.cons (.val (tL (tLup (.cons (tL tI) (.one tI))))) (.cons (.val tI) (.cons .any (.cons .any (.cons .any .nil))))) (.cons (.val (tL (tLup (.cons (tL tI) (.one tI))))) (.cons (.val tI) (.cons .any (.cons .any (.cons .any .nil))))) .nil (rVal K (tL (tTup (.cons (tT tI) (.one tI))))) f} :=
  ⟨_, fun P w K mg base ca k E b_tuple c_sum_length =>
    (SXs.cons (SX.setOP (lob rfl rfl) rfl (PL.lst (τ := (tTup (.cons (tT tI) (.one tI)))) PIs.nil) (Put.s (Put.s Put.z))) (SXs.cons (SX.forP (IX.list (PX.var At.z rfl (vb rfl))) (GX.lup (GXs.cons (GX.name (PutV.s (PutV.s (PutV.s PutV.any))) rfl (lob rfl rfl)) (GXs.one (GX.name (PutV.s (PutV.s (PutV.s (PutV.s PutV.any)))) rfl (lob rfl rfl))))) (SXs.post (SXs.cons (SX.expr (PX.ex (PX.call c_sum_length rfl (PAs.cons (PX.var (At.s (At.s (At.s At.z))) rfl (vb rfl)) (PAs.cons (PX.var (At.s At.z) rfl (vb rfl)) (PAs.one (PX.strK (i := "a row")))))))) (SXs.cons (SX.expr (EX.append (Wr.s (Wr.s Wr.z)) rfl (vb rfl) (PX.ex (PX.tup (PAs.cons (PX.tupleL (Bm.at b_tuple rfl) (BX.tl (PX.var (At.s (At.s (At.s At.z))) rfl (vb rfl)))) (PAs.one (PX.var (At.s (At.s (At.s (At.s At.z)))) rfl (vb rfl)))))) ⟨_, _, (Wr.s (Wr.s Wr.z))⟩)) SXs.nil)) (Wk.cons Cv.same (Wk.cons Cv.same (Wk.cons Cv.same (Wk.cons Cv.drop (Wk.cons Cv.drop Wk.nil))))))) (SX.one (SX.pre (Wk.cons Cv.same (Wk.cons Cv.same (Wk.cons Cv.freeze (Wk.cons Cv.same (Wk.cons Cv.same Wk.nil))))) (SX.retP (PX.var (At.s (At.s At.z)) rfl (vb rfl)))))))⟩
def m_sum_rows (u : (List ((List Int) × Int)) × Int) : Rs (List ((List Int) × Int)) := (w_sum_rows.1 (u.1, (u.2, ((), ((), ((), ())))))).bind (endM (fun _ => .bad))
theorem g_sum_rows {P : Program} {w : World} {K : PySem.W.Frag} {mg : Str → Option Value} {base : Heap} {ca : Nat → Addr} {f : Addr} {fd : FuncData} (T : TopFn K mg "sum_rows" s_sum_rows ["rows", "length"] f fd) (z_tuple : mg "tuple" = none) (e_sum_length : Ex P w K mg base "sum_length" (spOf K ca (.cons (tL tI) (.cons tI (.one tSk))) tN m_sum_length) 3) : FnOk P w K mg base (L2.CX P w) 4 f fd ["rows", "length"] (spOf K ca (.cons (tL (tLup (.cons (tL tI) (.one tI)))) (.one tI)) (tL (tTup (.cons (tT tI) (.one tI)))) m_sum_rows) :=
  fn_mk (m := 3) (dn := fun _ => .bad) T.F sc_sum_rows (Ini.cons (Ini.one (Anys.s (Anys.s (Anys.s Anys.nil))))) rfl rfl (fun E => w_sum_rows.2 P w K mg base ca 3 E ⟨z_tuple, rfl, by decide, by decide⟩ (e_sum_length.callee (by decide)))
theorem f_sum_rows {P : Program} {w : World} {K : PySem.W.Frag} {mg : Str → Option Value} {base : Heap} {ca : Nat → Addr} {f : Addr} {fd : FuncData} (T : TopFn K mg "sum_rows" s_sum_rows ["rows", "length"] f fd) (z_tuple : mg "tuple" = none) (e_sum_length : Ex P w K mg base "sum_length" (spOf K ca (.cons (tL tI) (.cons tI (.one tSk))) tN m_sum_length) 3) : Ex P w K mg base "sum_rows" (spOf K ca (.cons (tL (tLup (.cons (tL tI) (.one tI)))) (.one tI)) (tL (tTup (.cons (tT tI) (.one tI)))) m_sum_rows) 4 :=
  ⟨f, fd, ["rows", "length"], g_sum_rows T z_tuple e_sum_length, T.hm, T.F.kp, T.bd⟩
def w_sum_rowsT : {f : _ → Rs (Fl (List ((List Int) × Int)) _ Unit) // ∀ (P : Program) (w : World) (K : PySem.W.Frag) (mg : Str → Option Value) (base : Heap) (ca : Nat → Addr) (k : Nat) (E : XK) (b_tuple : Bm mg "tuple" (.type "tuple")) (c_sum_lengthT : Callee (ambOf P w K mg base N_sum_rows s_sum_rows k E) ca "sum_length" (.cons (tT tI) (.cons tI (.one tSk))) tN m_sum_lengthT), SXs (ambOf P w K mg base N_sum_rows s_sum_rows k E) ca (defBody s_sum_rows) (.cons (.val (tT (tTup (.cons (tT tI) (.one tI))))) (.cons (.val tI) (.cons .any (.cons .any (.cons .any .nil))))) (.cons (.val (tT (tTup (.cons (tT tI) (.one tI))))) (.cons (.val tI) (.cons .any (.cons .any (.cons .any .nil))))) .nil (rVal K (tL (tTup (.cons (tT tI) (.one tI))))) f} :=
  ⟨_, fun P w K mg base ca k E b_tuple c_sum_lengthT =>
    (SXs.cons (SX.setOP (lob rfl rfl) rfl (PL.lst (τ := (tTup (.cons (tT tI) (.one tI)))) PIs.nil) (Put.s (Put.s Put.z))) (SXs.cons (SX.forP (IX.tup (PX.var At.z rfl (vb rfl))) (GX.tup (GXs.cons (GX.name (PutV.s (PutV.s (PutV.s PutV.any))) rfl (lob rfl rfl)) (GXs.one (GX.name (PutV.s (PutV.s (PutV.s (PutV.s PutV.any)))) rfl (lob rfl rfl))))) (SXs.post (SXs.cons (SX.expr (PX.ex (PX.call c_sum_lengthT rfl (PAs.cons (PX.var (At.s (At.s (At.s At.z))) rfl (vb rfl)) (PAs.cons (PX.var (At.s At.z) rfl (vb rfl)) (PAs.one (PX.strK (i := "a row")))))))) (SXs.cons (SX.expr (EX.append (Wr.s (Wr.s Wr.z)) rfl (vb rfl) (PX.ex (PX.tup (PAs.cons (PX.tupleT (Bm.at b_tuple rfl) (PX.var (At.s (At.s (At.s At.z))) rfl (vb rfl))) (PAs.one (PX.var (At.s (At.s (At.s (At.s At.z)))) rfl (vb rfl)))))) ⟨_, _, (Wr.s (Wr.s Wr.z))⟩)) SXs.nil)) (Wk.cons Cv.same (Wk.cons Cv.same (Wk.cons Cv.same (Wk.cons Cv.drop (Wk.cons Cv.drop Wk.nil))))))) (SX.one (SX.pre (Wk.cons Cv.same (Wk.cons Cv.same (Wk.cons Cv.freeze (Wk.cons Cv.same (Wk.cons Cv.same Wk.nil))))) (SX.retP (PX.var (At.s (At.s At.z)) rfl (vb rfl)))))))⟩
def m_sum_rowsT (u : (List ((List Int) × Int)) × Int) : Rs (List ((List Int) × Int)) := (w_sum_rowsT.1 (u.1, (u.2, ((), ((), ((), ())))))).bind (endM (fun _ => .bad))
theorem g_sum_rowsT {P : Program} {w : World} {K : PySem.W.Frag} {mg : Str → Option Value} {base : Heap} {ca : Nat → Addr} {f : Addr} {fd : FuncData} (T : TopFn K mg "sum_rows" s_sum_rows ["rows", "length"] f fd) (z_tuple : mg "tuple" = none) (e_sum_lengthT : Ex P w K mg base "sum_length" (spOf K ca (.cons (tT tI) (.cons tI (.one tSk))) tN m_sum_lengthT) 3) : FnOk P w K mg base (L2.CX P w) 4 f fd ["rows", "length"] (spOf K ca (.cons (tT (tTup (.cons (tT tI) (.one tI)))) (.one tI)) (tL (tTup (.cons (tT tI) (.one tI)))) m_sum_rowsT) :=
  fn_mk (m := 3) (dn := fun _ => .bad) T.F sc_sum_rows (Ini.cons (Ini.one (Anys.s (Anys.s (Anys.s Anys.nil))))) rfl rfl (fun E => w_sum_rowsT.2 P w K mg base ca 3 E ⟨z_tuple, rfl, by decide, by decide⟩ (e_sum_lengthT.callee (by decide)))
theorem f_sum_rowsT {P : Program} {w : World} {K : PySem.W.Frag} {mg : Str → Option Value} {base : Heap} {ca : Nat → Addr} {f : Addr} {fd : FuncData} (T : TopFn K mg "sum_rows" s_sum_rows ["rows", "length"] f fd) (z_tuple : mg "tuple" = none) (e_sum_lengthT : Ex P w K mg base "sum_length" (spOf K ca (.cons (tT tI) (.cons tI (.one tSk))) tN m_sum_lengthT) 3) : Ex P w K mg base "sum_rows" (spOf K ca (.cons (tT (tTup (.cons (tT tI) (.one tI)))) (.one tI)) (tL (tTup (.cons (tT tI) (.one tI)))) m_sum_rowsT) 4 :=
  ⟨f, fd, ["rows", "length"], g_sum_rowsT T z_tuple e_sum_lengthT, T.hm, T.F.kp, T.bd⟩
abbrev s_lessened : Stmt := topS 10
abbrev N_lessened : List Str := ["numbers", "divisor", "number"]
theorem sc_lessened : FnScope N_lessened ["numbers"] (defScope s_lessened) := ⟨rfl, rfl, rfl, by decide +kernel, rfl, by decide +kernel, by decide +kernel⟩
def w_lessened : {f : _ → Rs (Fl (List Int) _ Unit) // ∀ (P : Program) (w : World) (K : PySem.W.Frag) (mg : Str → Option Value) (base : Heap) (ca : Nat → Addr) (k : Nat) (E : XK) (u_gcd : mg "gcd" = some (.builtin "math.gcd")) (b_list : Bm mg "list" (.type "list")), SXs (ambOf P w K mg base N_lessened s_lessened k E) ca (defBody s_lessened) (.cons (.val (tL tI)) (.cons .any (.cons .any .nil))) (.cons (.val (tL tI)) (.cons .any (.cons .any .nil))) .nil (rVal K (tL tI)) f} :=
  ⟨_, fun P w K mg base ca k E u_gcd b_list =>
    (SXs.cons (SX.setP (lob rfl rfl) rfl PX.int (Put.s Put.z)) (SXs.cons (SX.forP (IX.list (PX.var At.z rfl (vb rfl))) (GX.name (PutV.s (PutV.s PutV.any)) rfl (lob rfl rfl)) (SXs.post (SXs.cons (SX.setP (lob rfl rfl) rfl (PX.gcd ⟨rfl, u_gcd, by decide⟩ (PX.var (At.s At.z) rfl (vb rfl)) (PX.var (At.s (At.s At.z)) rfl (vb rfl))) (Put.s Put.z)) SXs.nil) (Wk.cons Cv.same (Wk.cons Cv.same (Wk.cons Cv.drop Wk.nil))))) (SXs.cons (SX.iteP (PB.lt (PX.var (At.s At.z) rfl (vb rfl)) PX.int) (SX.one (SX.retP (PX.tl (PL.listL (Bm.at b_list rfl) (BX.tl (PX.var At.z rfl (vb rfl))))))) SXs.nil) (SX.one (SX.retP (PX.tl (PL.lc [("number", 2)] (IX.ib (IX.list (PX.var At.z rfl (vb rfl)))) rfl (Wp.cons Wp.nil (Put.s (Put.s Put.z))) (GX.name (PutV.s (PutV.s PutV.any)) rfl (lobb rfl)) (by decide) PTz.nil (PX.fdiv (PX.var (At.s (At.s At.z)) rfl (vbb rfl)) (PX.var (At.s At.z) rfl (vbb rfl))))))))))⟩
def m_lessened (u : (List Int)) : Rs (List Int) := (w_lessened.1 (u, ((), ((), ())))).bind (endM (fun _ => .bad))
theorem g_lessened {P : Program} {w : World} {K : PySem.W.Frag} {mg : Str → Option Value} {base : Heap} {ca : Nat → Addr} {f : Addr} {fd : FuncData} (T : TopFn K mg "lessened" s_lessened ["numbers"] f fd) (u_gcd : mg "gcd" = some (.builtin "math.gcd")) (z_list : mg "list" = none) : FnOk P w K mg base (L2.CX P w) 1 f fd ["numbers"] (spOf K ca (.one (tL tI)) (tL tI) m_lessened) :=
  fn_mk (m := 2) (dn := fun _ => .bad) T.F sc_lessened (Ini.one (Anys.s (Anys.s Anys.nil))) rfl rfl (fun E => w_lessened.2 P w K mg base ca 0 E u_gcd ⟨z_list, rfl, by decide, by decide⟩)
theorem f_lessened {P : Program} {w : World} {K : PySem.W.Frag} {mg : Str → Option Value} {base : Heap} {ca : Nat → Addr} {f : Addr} {fd : FuncData} (T : TopFn K mg "lessened" s_lessened ["numbers"] f fd) (u_gcd : mg "gcd" = some (.builtin "math.gcd")) (z_list : mg "list" = none) : Ex P w K mg base "lessened" (spOf K ca (.one (tL tI)) (tL tI) m_lessened) 1 :=
  ⟨f, fd, ["numbers"], g_lessened T u_gcd z_list, T.hm, T.F.kp, T.bd⟩
abbrev s_grow_turn : Stmt := topS 12
abbrev N_grow_turn : List Str := ["tableau", "at", "place", "below", "pivot", "found", "k", "row", "new", "a", "b"]
theorem sc_grow_turn : FnScope N_grow_turn ["tableau", "at", "place", "below"] (defScope s_grow_turn) := ⟨rfl, rfl, rfl, by decide +kernel, rfl, by decide +kernel, by decide +kernel⟩
def w_grow_turn : {f : _ → Rs (Fl (List (List Int)) _ Unit) // ∀ (P : Program) (w : World) (K : PySem.W.Frag) (mg : Str → Option Value) (base : Heap) (ca : Nat → Addr) (k : Nat) (E : XK) (b_enumerate : Bm mg "enumerate" (.type "enumerate")) (b_list : Bm mg "list" (.type "list")) (b_zip : Bm mg "zip" (.type "zip")), SXs (ambOf P w K mg base N_grow_turn s_grow_turn k E) ca (defBody s_grow_turn) (.cons (.val (tL (tL tI))) (.cons (.val tI) (.cons (.val tI) (.cons (.val tI) (.cons .any (.cons .any (.cons .any (.cons .any (.cons .any (.cons .any (.cons .any .nil))))))))))) (.cons (.val (tL (tL tI))) (.cons (.val tI) (.cons (.val tI) (.cons (.val tI) (.cons .any (.cons .any (.cons .any (.cons .any (.cons .any (.cons .any (.cons .any .nil))))))))))) .nil (rVal K (tL (tL tI))) f} :=
  ⟨_, fun P w K mg base ca k E b_enumerate b_list b_zip =>
    (SXs.cons (SX.setP (lob rfl rfl) rfl (PX.ixL (fun _ _ => rfl) (BX.tl (PX.ixL (fun _ _ => rfl) (BX.tl (PX.var At.z rfl (vb rfl))) (PX.var (At.s At.z) rfl (vb rfl)))) (PX.var (At.s (At.s At.z)) rfl (vb rfl))) (Put.s (Put.s (Put.s (Put.s Put.z))))) (SXs.cons (SX.setOP (lob rfl rfl) rfl (PL.lst (τ := (tL tI)) PIs.nil) (Put.s (Put.s (Put.s (Put.s (Put.s Put.z)))))) (SXs.cons (SX.forP (IX.enum (Bm.at b_enumerate rfl) (PX.var At.z rfl (vb rfl))) (GX.tup (GXs.cons (GX.name (PutV.s (PutV.s (PutV.s (PutV.s (PutV.s (PutV.s PutV.any)))))) rfl (lob rfl rfl)) (GXs.one (GX.name (PutV.s (PutV.s (PutV.s (PutV.s (PutV.s (PutV.s (PutV.s PutV.any))))))) rfl (lob rfl rfl))))) (SXs.post (SXs.cons (SX.iteP (PB.eqI (PX.var (At.s (At.s (At.s (At.s (At.s (At.s At.z)))))) rfl (vb rfl)) (PX.var (At.s At.z) rfl (vb rfl))) (SXs.cons (SX.setOP (lob rfl rfl) rfl (PL.listL (Bm.at b_list rfl) (BX.tl (PX.var (At.s (At.s (At.s (At.s (At.s (At.s (At.s At.z))))))) rfl (vb rfl)))) (Put.s (Put.s (Put.s (Put.s (Put.s (Put.s (Put.s (Put.s Put.z))))))))) (SXs.cons (SX.setI (PX.ex (PX.var (At.s (At.s (At.s At.z))) rfl (vb rfl))) (Wr.s (Wr.s (Wr.s (Wr.s (Wr.s (Wr.s (Wr.s (Wr.s Wr.z)))))))) rfl (vb rfl) (PX.var (At.s (At.s At.z)) rfl (vb rfl))) SXs.nil)) (SXs.cons (SX.setPc [("a", 9), ("b", 10)] rfl rfl rfl rfl rfl (IX.ib (IX.zip (Bm.at b_zip rfl) (PX.var (At.s (At.s (At.s (At.s (At.s (At.s (At.s At.z))))))) rfl (vb rfl)) (PX.ixL (fun _ _ => rfl) (BX.tl (PX.var At.z rfl (vb rfl))) (PX.var (At.s At.z) rfl (vb rfl))))) rfl (Wp.cons (Wp.cons Wp.nil (Put.s (Put.s (Put.s (Put.s (Put.s (Put.s (Put.s (Put.s (Put.s (Put.s Put.z))))))))))) (Put.s (Put.s (Put.s (Put.s (Put.s (Put.s (Put.s (Put.s (Put.s Put.z)))))))))) (GX.tup (GXs.cons (GX.name (PutV.s (PutV.s (PutV.s (PutV.s (PutV.s (PutV.s (PutV.s (PutV.s (PutV.s PutV.any))))))))) rfl (lobb rfl)) (GXs.one (GX.name (PutV.s (PutV.s (PutV.s (PutV.s (PutV.s (PutV.s (PutV.s (PutV.s (PutV.s (PutV.s PutV.any)))))))))) rfl (lobb rfl))))) (by decide) PTz.nil (PX.fdiv (PX.sub (PX.mul (PX.var (At.s (At.s (At.s (At.s (At.s (At.s (At.s (At.s (At.s At.z))))))))) rfl (vbb rfl)) (PX.var (At.s (At.s (At.s (At.s At.z)))) rfl (vbb rfl))) (PX.mul (PX.ixL (fun _ _ => rfl) (BX.tl (PX.var (At.s (At.s (At.s (At.s (At.s (At.s (At.s At.z))))))) rfl (vbb rfl))) (PX.var (At.s (At.s At.z)) rfl (vbb rfl))) (PX.var (At.s (At.s (At.s (At.s (At.s (At.s (At.s (At.s (At.s (At.s At.z)))))))))) rfl (vbb rfl)))) (PX.var (At.s (At.s (At.s At.z))) rfl (vbb rfl))) (Put.s (Put.s (Put.s (Put.s (Put.s (Put.s (Put.s (Put.s Put.z))))))))) (SXs.cons (SX.setI (PX.ex (PX.neg (PX.ixL (fun _ _ => rfl) (BX.tl (PX.var (At.s (At.s (At.s (At.s (At.s (At.s (At.s At.z))))))) rfl (vb rfl))) (PX.var (At.s (At.s At.z)) rfl (vb rfl))))) (Wr.s (Wr.s (Wr.s (Wr.s (Wr.s (Wr.s (Wr.s (Wr.s Wr.z)))))))) rfl (vb rfl) (PX.var (At.s (At.s At.z)) rfl (vb rfl))) SXs.nil))) (SXs.cons (SX.pre (Wk.cons Cv.same (Wk.cons Cv.same (Wk.cons Cv.same (Wk.cons Cv.same (Wk.cons Cv.same (Wk.cons Cv.same (Wk.cons Cv.same (Wk.cons Cv.same (Wk.cons Cv.freeze (Wk.cons Cv.same (Wk.cons Cv.same Wk.nil))))))))))) (SX.expr (EX.append (Wr.s (Wr.s (Wr.s (Wr.s (Wr.s Wr.z))))) rfl (vb rfl) (PX.ex (PX.var (At.s (At.s (At.s (At.s (At.s (At.s (At.s (At.s At.z)))))))) rfl (vb rfl))) ⟨_, _, (Wr.s (Wr.s (Wr.s (Wr.s (Wr.s Wr.z)))))⟩))) SXs.nil)) (Wk.cons Cv.same (Wk.cons Cv.same (Wk.cons Cv.same (Wk.cons Cv.same (Wk.cons Cv.same (Wk.cons Cv.same (Wk.cons Cv.drop (Wk.cons Cv.drop (Wk.cons Cv.drop (Wk.cons Cv.same (Wk.cons Cv.same Wk.nil))))))))))))) (SX.one (SX.pre (Wk.cons Cv.same (Wk.cons Cv.same (Wk.cons Cv.same (Wk.cons Cv.same (Wk.cons Cv.same (Wk.cons Cv.freeze (Wk.cons Cv.same (Wk.cons Cv.same (Wk.cons Cv.same (Wk.cons Cv.same (Wk.cons Cv.same Wk.nil))))))))))) (SX.retP (PX.var (At.s (At.s (At.s (At.s (At.s At.z))))) rfl (vb rfl))))))))⟩
def m_grow_turn (u : (List (List Int)) × Int × Int × Int) : Rs (List (List Int)) := (w_grow_turn.1 (u.1, (u.2.1, (u.2.2.1, (u.2.2.2, ((), ((), ((), ((), ((), ((), ((), ())))))))))))).bind (endM (fun _ => .bad))
theorem g_grow_turn {P : Program} {w : World} {K : PySem.W.Frag} {mg : Str → Option Value} {base : Heap} {ca : Nat → Addr} {f : Addr} {fd : FuncData} (T : TopFn K mg "grow_turn" s_grow_turn ["tableau", "at", "place", "below"] f fd) (z_enumerate : mg "enumerate" = none) (z_list : mg "list" = none) (z_zip : mg "zip" = none) : FnOk P w K mg base (L2.CX P w) 1 f fd ["tableau", "at", "place", "below"] (spOf K ca (.cons (tL (tL tI)) (.cons tI (.cons tI (.one tI)))) (tL (tL tI)) m_grow_turn) :=
  fn_mk (m := 7) (dn := fun _ => .bad) T.F sc_grow_turn (Ini.cons (Ini.cons (Ini.cons (Ini.one (Anys.s (Anys.s (Anys.s (Anys.s (Anys.s (Anys.s (Anys.s Anys.nil))))))))))) rfl rfl (fun E => w_grow_turn.2 P w K mg base ca 0 E ⟨z_enumerate, rfl, by decide, by decide⟩ ⟨z_list, rfl, by decide, by decide⟩ ⟨z_zip, rfl, by decide, by decide⟩)
theorem f_grow_turn {P : Program} {w : World} {K : PySem.W.Frag} {mg : Str → Option Value} {base : Heap} {ca : Nat → Addr} {f : Addr} {fd : FuncData} (T : TopFn K mg "grow_turn" s_grow_turn ["tableau", "at", "place", "below"] f fd) (z_enumerate : mg "enumerate" = none) (z_list : mg "list" = none) (z_zip : mg "zip" = none) : Ex P w K mg base "grow_turn" (spOf K ca (.cons (tL (tL tI)) (.cons tI (.cons tI (.one tI)))) (tL (tL tI)) m_grow_turn) 1 :=
  ⟨f, fd, ["tableau", "at", "place", "below"], g_grow_turn T z_enumerate z_list z_zip, T.hm, T.F.kp, T.bd⟩
abbrev s_grow_weights : Stmt := topS 13
abbrev N_grow_weights : List Str := ["last", "across", "length", "many", "weights", "place", "name"]
theorem sc_grow_weights : FnScope N_grow_weights ["last", "across", "length", "many"] (defScope s_grow_weights) := ⟨rfl, rfl, rfl, by decide +kernel, rfl, by decide +kernel, by decide +kernel⟩
def w_grow_weights : {f : _ → Rs (Fl (List Int) _ Unit) // ∀ (P : Program) (w : World) (K : PySem.W.Frag) (mg : Str → Option Value) (base : Heap) (ca : Nat → Addr) (k : Nat) (E : XK) (b_enumerate : Bm mg "enumerate" (.type "enumerate")), SXs (ambOf P w K mg base N_grow_weights s_grow_weights k E) ca (defBody s_grow_weights) (.cons (.val (tL tI)) (.cons (.val (tL tI)) (.cons (.val tI) (.cons (.val tI) (.cons .any (.cons .any (.cons .any .nil))))))) (.cons (.val (tL tI)) (.cons (.val (tL tI)) (.cons (.val tI) (.cons (.val tI) (.cons .any (.cons .any (.cons .any .nil))))))) .nil (rVal K (tL tI)) f} :=
  ⟨_, fun P w K mg base ca k E b_enumerate =>
    (SXs.cons (SX.setOP (lob rfl rfl) rfl (PL.mulI (PL.bx (PL.lst (τ := tI) (PIs.cons PX.int PIs.nil))) (PX.var (At.s (At.s (At.s At.z))) rfl (vb rfl))) (Put.s (Put.s (Put.s (Put.s Put.z))))) (SXs.cons (SX.forP (IX.enum (Bm.at b_enumerate rfl) (PX.var (At.s At.z) rfl (vb rfl))) (GX.tup (GXs.cons (GX.name (PutV.s (PutV.s (PutV.s (PutV.s (PutV.s PutV.any))))) rfl (lob rfl rfl)) (GXs.one (GX.name (PutV.s (PutV.s (PutV.s (PutV.s (PutV.s (PutV.s PutV.any)))))) rfl (lob rfl rfl))))) (SXs.post (SXs.cons (SX.iteP (PB.ge (PX.var (At.s (At.s (At.s (At.s (At.s (At.s At.z)))))) rfl (vb rfl)) (PX.var (At.s (At.s At.z)) rfl (vb rfl))) (SXs.cons (SX.setI (PX.ex (PX.ixL (fun _ _ => rfl) (BX.tl (PX.var At.z rfl (vb rfl))) (PX.var (At.s (At.s (At.s (At.s (At.s At.z))))) rfl (vb rfl)))) (Wr.s (Wr.s (Wr.s (Wr.s Wr.z)))) rfl (vb rfl) (PX.sub (PX.var (At.s (At.s (At.s (At.s (At.s (At.s At.z)))))) rfl (vb rfl)) (PX.var (At.s (At.s At.z)) rfl (vb rfl)))) SXs.nil) SXs.nil) SXs.nil) (Wk.cons Cv.same (Wk.cons Cv.same (Wk.cons Cv.same (Wk.cons Cv.same (Wk.cons Cv.same (Wk.cons Cv.drop (Wk.cons Cv.drop Wk.nil))))))))) (SX.one (SX.pre (Wk.cons Cv.same (Wk.cons Cv.same (Wk.cons Cv.same (Wk.cons Cv.same (Wk.cons Cv.freeze (Wk.cons Cv.same (Wk.cons Cv.same Wk.nil))))))) (SX.retP (PX.var (At.s (At.s (At.s (At.s At.z)))) rfl (vb rfl)))))))⟩
def m_grow_weights (u : (List Int) × (List Int) × Int × Int) : Rs (List Int) := (w_grow_weights.1 (u.1, (u.2.1, (u.2.2.1, (u.2.2.2, ((), ((), ((), ())))))))).bind (endM (fun _ => .bad))
theorem g_grow_weights {P : Program} {w : World} {K : PySem.W.Frag} {mg : Str → Option Value} {base : Heap} {ca : Nat → Addr} {f : Addr} {fd : FuncData} (T : TopFn K mg "grow_weights" s_grow_weights ["last", "across", "length", "many"] f fd) (z_enumerate : mg "enumerate" = none) : FnOk P w K mg base (L2.CX P w) 1 f fd ["last", "across", "length", "many"] (spOf K ca (.cons (tL tI) (.cons (tL tI) (.cons tI (.one tI)))) (tL tI) m_grow_weights) :=
  fn_mk (m := 3) (dn := fun _ => .bad) T.F sc_grow_weights (Ini.cons (Ini.cons (Ini.cons (Ini.one (Anys.s (Anys.s (Anys.s Anys.nil))))))) rfl rfl (fun E => w_grow_weights.2 P w K mg base ca 0 E ⟨z_enumerate, rfl, by decide, by decide⟩)
theorem f_grow_weights {P : Program} {w : World} {K : PySem.W.Frag} {mg : Str → Option Value} {base : Heap} {ca : Nat → Addr} {f : Addr} {fd : FuncData} (T : TopFn K mg "grow_weights" s_grow_weights ["last", "across", "length", "many"] f fd) (z_enumerate : mg "enumerate" = none) : Ex P w K mg base "grow_weights" (spOf K ca (.cons (tL tI) (.cons (tL tI) (.cons tI (.one tI)))) (tL tI) m_grow_weights) 1 :=
  ⟨f, fd, ["last", "across", "length", "many"], g_grow_weights T z_enumerate, T.hm, T.F.kp, T.bd⟩
abbrev s_grow_numbers : Stmt := topS 14
abbrev N_grow_numbers : List Str := ["tableau", "across", "down", "place", "below", "numbers", "name", "number", "k"]
theorem sc_grow_numbers : FnScope N_grow_numbers ["tableau", "across", "down", "place", "below"] (defScope s_grow_numbers) := ⟨rfl, rfl, rfl, by decide +kernel, rfl, by decide +kernel, by decide +kernel⟩
def w_grow_numbers : {f : _ → Rs (Fl (List Int) _ Unit) // ∀ (P : Program) (w : World) (K : PySem.W.Frag) (mg : Str → Option Value) (base : Heap) (ca : Nat → Addr) (k : Nat) (E : XK) (b_len : Bm mg "len" (.builtin "len")) (b_enumerate : Bm mg "enumerate" (.type "enumerate")) (c_lessened : Callee (ambOf P w K mg base N_grow_numbers s_grow_numbers k E) ca "lessened" (.one (tL tI)) (tL tI) m_lessened), SXs (ambOf P w K mg base N_grow_numbers s_grow_numbers k E) ca (defBody s_grow_numbers) (.cons (.val (tL (tL tI))) (.cons (.val (tL tI)) (.cons (.val (tL tI)) (.cons (.val tI) (.cons (.val tI) (.cons .any (.cons .any (.cons .any (.cons .any .nil))))))))) (.cons (.val (tL (tL tI))) (.cons (.val (tL tI)) (.cons (.val (tL tI)) (.cons (.val tI) (.cons (.val tI) (.cons .any (.cons .any (.cons .any (.cons .any .nil))))))))) .nil (rVal K (tL tI)) f} :=
  ⟨_, fun P w K mg base ca k E b_len b_enumerate c_lessened =>
    (SXs.cons (SX.setOP (lob rfl rfl) rfl (PL.mulI (PL.bx (PL.lst (τ := tI) (PIs.cons PX.int PIs.nil))) (PX.lenL (Bm.at b_len rfl) (BX.tl (PX.var (At.s At.z) rfl (vb rfl))))) (Put.s (Put.s (Put.s (Put.s (Put.s Put.z)))))) (SXs.cons (SX.forP (IX.list (PX.tl (PL.cat (PL.bx (PL.lst (τ := (tTup (.cons tI (.one tI)))) (PIs.cons (PX.tup (PAs.cons (PX.ixL (fun _ _ => rfl) (BX.tl (PX.var (At.s At.z) rfl (vb rfl))) (PX.var (At.s (At.s (At.s At.z))) rfl (vb rfl))) (PAs.one (PX.var (At.s (At.s (At.s (At.s At.z)))) rfl (vb rfl))))) PIs.nil))) (PL.bx (PL.lc [("k", 8), ("name", 6)] (IX.ib (IX.enum (Bm.at b_enumerate rfl) (PX.var (At.s (At.s At.z)) rfl (vb rfl)))) rfl (Wp.cons (Wp.cons Wp.nil (Put.s (Put.s (Put.s (Put.s (Put.s (Put.s Put.z))))))) (Put.s (Put.s (Put.s (Put.s (Put.s (Put.s (Put.s (Put.s Put.z))))))))) (GX.tup (GXs.cons (GX.name (PutV.s (PutV.s (PutV.s (PutV.s (PutV.s (PutV.s (PutV.s (PutV.s PutV.any)))))))) rfl (lobb rfl)) (GXs.one (GX.name (PutV.s (PutV.s (PutV.s (PutV.s (PutV.s (PutV.s PutV.any)))))) rfl (lobb rfl))))) (by decide) PTz.nil (PX.tup (PAs.cons (PX.var (At.s (At.s (At.s (At.s (At.s (At.s At.z)))))) rfl (vbb rfl)) (PAs.one (PX.neg (PX.ixL (fun _ _ => rfl) (BX.tl (PX.ixL (fun _ _ => rfl) (BX.tl (PX.var At.z rfl (vbb rfl))) (PX.var (At.s (At.s (At.s (At.s (At.s (At.s (At.s (At.s At.z)))))))) rfl (vbb rfl)))) (PX.var (At.s (At.s (At.s At.z))) rfl (vbb rfl)))))))))))) (GX.tup (GXs.cons (GX.name (PutV.s (PutV.s (PutV.s (PutV.s (PutV.s (PutV.s PutV.any)))))) rfl (lob rfl rfl)) (GXs.one (GX.name (PutV.s (PutV.s (PutV.s (PutV.s (PutV.s (PutV.s (PutV.s PutV.any))))))) rfl (lob rfl rfl))))) (SXs.post (SXs.cons (SX.iteP (PB.lt (PX.var (At.s (At.s (At.s (At.s (At.s (At.s At.z)))))) rfl (vb rfl)) (PX.lenL (Bm.at b_len rfl) (BX.tl (PX.var (At.s At.z) rfl (vb rfl))))) (SXs.cons (SX.setI (PX.ex (PX.var (At.s (At.s (At.s (At.s (At.s (At.s (At.s At.z))))))) rfl (vb rfl))) (Wr.s (Wr.s (Wr.s (Wr.s (Wr.s Wr.z))))) rfl (vb rfl) (PX.var (At.s (At.s (At.s (At.s (At.s (At.s At.z)))))) rfl (vb rfl))) SXs.nil) SXs.nil) SXs.nil) (Wk.cons Cv.same (Wk.cons Cv.same (Wk.cons Cv.same (Wk.cons Cv.same (Wk.cons Cv.same (Wk.cons Cv.same (Wk.cons Cv.drop (Wk.cons Cv.drop (Wk.cons Cv.same Wk.nil))))))))))) (SX.one (SX.pre (Wk.cons Cv.same (Wk.cons Cv.same (Wk.cons Cv.same (Wk.cons Cv.same (Wk.cons Cv.same (Wk.cons Cv.freeze (Wk.cons Cv.same (Wk.cons Cv.same (Wk.cons Cv.same Wk.nil))))))))) (SX.retP (PX.call c_lessened rfl (PAs.one (PX.var (At.s (At.s (At.s (At.s (At.s At.z))))) rfl (vb rfl)))))))))⟩
def m_grow_numbers (u : (List (List Int)) × (List Int) × (List Int) × Int × Int) : Rs (List Int) := (w_grow_numbers.1 (u.1, (u.2.1, (u.2.2.1, (u.2.2.2.1, (u.2.2.2.2, ((), ((), ((), ((), ())))))))))).bind (endM (fun _ => .bad))
theorem g_grow_numbers {P : Program} {w : World} {K : PySem.W.Frag} {mg : Str → Option Value} {base : Heap} {ca : Nat → Addr} {f : Addr} {fd : FuncData} (T : TopFn K mg "grow_numbers" s_grow_numbers ["tableau", "across", "down", "place", "below"] f fd) (z_len : mg "len" = none) (z_enumerate : mg "enumerate" = none) (e_lessened : Ex P w K mg base "lessened" (spOf K ca (.one (tL tI)) (tL tI) m_lessened) 1) : FnOk P w K mg base (L2.CX P w) 2 f fd ["tableau", "across", "down", "place", "below"] (spOf K ca (.cons (tL (tL tI)) (.cons (tL tI) (.cons (tL tI) (.cons tI (.one tI))))) (tL tI) m_grow_numbers) :=
  fn_mk (m := 4) (dn := fun _ => .bad) T.F sc_grow_numbers (Ini.cons (Ini.cons (Ini.cons (Ini.cons (Ini.one (Anys.s (Anys.s (Anys.s (Anys.s Anys.nil))))))))) rfl rfl (fun E => w_grow_numbers.2 P w K mg base ca 1 E ⟨z_len, rfl, by decide, by decide⟩ ⟨z_enumerate, rfl, by decide, by decide⟩ (e_lessened.callee (by decide)))
theorem f_grow_numbers {P : Program} {w : World} {K : PySem.W.Frag} {mg : Str → Option Value} {base : Heap} {ca : Nat → Addr} {f : Addr} {fd : FuncData} (T : TopFn K mg "grow_numbers" s_grow_numbers ["tableau", "across", "down", "place", "below"] f fd) (z_len : mg "len" = none) (z_enumerate : mg "enumerate" = none) (e_lessened : Ex P w K mg base "lessened" (spOf K ca (.one (tL tI)) (tL tI) m_lessened) 1) : Ex P w K mg base "grow_numbers" (spOf K ca (.cons (tL (tL tI)) (.cons (tL tI) (.cons (tL tI) (.cons tI (.one tI))))) (tL tI) m_grow_numbers) 2 :=
  ⟨f, fd, ["tableau", "across", "down", "place", "below"], g_grow_numbers T z_len z_enumerate e_lessened, T.hm, T.F.kp, T.bd⟩
abbrev s_grow_towards : Stmt := topS 15
abbrev N_grow_towards : List Str := ["matrix", "length", "goal", "many", "tableau", "across", "down", "below", "ready", "place", "stops", "at", "pivot", "k", "row", "c", "a"]
theorem sc_grow_towards : FnScope N_grow_towards ["matrix", "length", "goal"] (defScope s_grow_towards) := ⟨rfl, rfl, rfl, by decide +kernel, rfl, by decide +kernel, by decide +kernel⟩
def w_grow_towards : {f : _ → Rs (Fl (Bool × (List Int) × Int) _ Unit) // ∀ (P : Program) (w : World) (K : PySem.W.Frag) (mg : Str → Option Value) (base : Heap) (ca : Nat → Addr) (k : Nat) (E : XK) (b_len : Bm mg "len" (.builtin "len")) (b_list : Bm mg "list" (.type "list")) (b_range : Bm mg "range" (.type "range")) (b_min : Bm mg "min" (.builtin "min")) (c_grow_weights : Callee (ambOf P w K mg base N_grow_towards s_grow_towards k E) ca "grow_weights" (.cons (tL tI) (.cons (tL tI) (.cons tI (.one tI)))) (tL tI) m_grow_weights) (c_grow_numbers : Callee (ambOf P w K mg base N_grow_towards s_grow_towards k E) ca "grow_numbers" (.cons (tL (tL tI)) (.cons (tL tI) (.cons (tL tI) (.cons tI (.one tI))))) (tL tI) m_grow_numbers) (c_grow_turn : Callee (ambOf P w K mg base N_grow_towards s_grow_towards k E) ca "grow_turn" (.cons (tL (tL tI)) (.cons tI (.cons tI (.one tI)))) (tL (tL tI)) m_grow_turn), SXs (ambOf P w K mg base N_grow_towards s_grow_towards k E) ca (defBody s_grow_towards) (.cons (.val (tL (tT tI))) (.cons (.val tI) (.cons (.val (tL tI)) (.cons .any (.cons .any (.cons .any (.cons .any (.cons .any (.cons .any (.cons .any (.cons .any (.cons .any (.cons .any (.cons .any (.cons .any (.cons .any (.cons .any .nil))))))))))))))))) (.cons (.val (tL (tT tI))) (.cons (.val tI) (.cons (.val (tL tI)) (.cons (.val tI) (.cons (.val (tL (tL tI))) (.cons (.own none (cL tI)) (.cons (.own none (cL tI)) (.cons (.val tI) (.cons .any (.cons .any (.cons .any (.cons .any (.cons .any (.cons .any (.cons .any (.cons .any (.cons .any .nil))))))))))))))))) .nil (rVal K (tTup (.cons tB (.cons (tL tI) (.one tI))))) f} :=
  ⟨_, fun P w K mg base ca k E b_len b_list b_range b_min c_grow_weights c_grow_numbers c_grow_turn =>
    (SXs.cons (SX.setP (lob rfl rfl) rfl (PX.lenL (Bm.at b_len rfl) (BX.tl (PX.var At.z rfl (vb rfl)))) (Put.s (Put.s (Put.s Put.z)))) (SXs.cons (SX.setP (lob rfl rfl) rfl (PX.tl (PL.cat (PL.bx (PL.lc [("row", 14)] (IX.ib (IX.list (PX.var At.z rfl (vb rfl)))) rfl (Wp.cons Wp.nil (Put.s (Put.s (Put.s (Put.s (Put.s (Put.s (Put.s (Put.s (Put.s (Put.s (Put.s (Put.s (Put.s (Put.s Put.z))))))))))))))) (GX.name (PutV.s (PutV.s (PutV.s (PutV.s (PutV.s (PutV.s (PutV.s (PutV.s (PutV.s (PutV.s (PutV.s (PutV.s (PutV.s (PutV.s PutV.any)))))))))))))) rfl (lobb rfl)) (by decide) PTz.nil (PX.tl (PL.listT (Bm.at b_list (gl_blk rfl)) (PX.var (At.s (At.s (At.s (At.s (At.s (At.s (At.s (At.s (At.s (At.s (At.s (At.s (At.s (At.s At.z)))))))))))))) rfl (vbb rfl)))))) (PL.bx (PL.lst (τ := (tL tI)) (PIs.cons (PX.tl (PL.lc [("a", 16)] (IX.ib (IX.list (PX.var (At.s (At.s At.z)) rfl (vb rfl)))) rfl (Wp.cons Wp.nil (Put.s (Put.s (Put.s (Put.s (Put.s (Put.s (Put.s (Put.s (Put.s (Put.s (Put.s (Put.s (Put.s (Put.s (Put.s (Put.s Put.z))))))))))))))))) (GX.name (PutV.s (PutV.s (PutV.s (PutV.s (PutV.s (PutV.s (PutV.s (PutV.s (PutV.s (PutV.s (PutV.s (PutV.s (PutV.s (PutV.s (PutV.s (PutV.s PutV.any)))))))))))))))) rfl (lobb rfl)) (by decide) PTz.nil (PX.neg (PX.var (At.s (At.s (At.s (At.s (At.s (At.s (At.s (At.s (At.s (At.s (At.s (At.s (At.s (At.s (At.s (At.s At.z)))))))))))))))) rfl (vbb rfl))))) PIs.nil))))) (Put.s (Put.s (Put.s (Put.s Put.z))))) (SXs.cons (SX.setOP (lob rfl rfl) rfl (PL.listR (Bm.at b_list rfl) (Bm.at b_range rfl) (PX.var (At.s At.z) rfl (vb rfl))) (Put.s (Put.s (Put.s (Put.s (Put.s Put.z)))))) (SXs.cons (SX.setOP (lob rfl rfl) rfl (PL.lc [("k", 13)] (IX.ib (IX.range1 (Bm.at b_range rfl) (PX.var (At.s (At.s (At.s At.z))) rfl (vb rfl)))) rfl (Wp.cons Wp.nil (Put.s (Put.s (Put.s (Put.s (Put.s (Put.s (Put.s (Put.s (Put.s (Put.s (Put.s (Put.s (Put.s Put.z)))))))))))))) (GX.name (PutV.s (PutV.s (PutV.s (PutV.s (PutV.s (PutV.s (PutV.s (PutV.s (PutV.s (PutV.s (PutV.s (PutV.s (PutV.s PutV.any))))))))))))) rfl (lobb rfl)) (by decide) PTz.nil (PX.add (PX.var (At.s At.z) rfl (vbb rfl)) (PX.var (At.s (At.s (At.s (At.s (At.s (At.s (At.s (At.s (At.s (At.s (At.s (At.s (At.s At.z))))))))))))) rfl (vbb rfl)))) (Put.s (Put.s (Put.s (Put.s (Put.s (Put.s Put.z)))))) (sw_cell rfl)) (SXs.cons (SX.setP (lob rfl rfl) rfl PX.int (Put.s (Put.s (Put.s (Put.s (Put.s (Put.s (Put.s Put.z)))))))) (SXs.cons (SX.whileS 1000000 (PB.eb (PX.pb PX.bl (by intros; rfl))) (SXs.post (SXs.cons (SX.setPcV [("c", 15)] rfl rfl rfl rfl rfl (IX.ib (IX.range1 (Bm.at b_range rfl) (PX.var (At.s At.z) rfl (vb rfl)))) rfl (Wp.cons Wp.nil (Put.s (Put.s (Put.s (Put.s (Put.s (Put.s (Put.s (Put.s (Put.s (Put.s (Put.s (Put.s (Put.s (Put.s (Put.s Put.z)))))))))))))))) (GX.name (PutV.s (PutV.s (PutV.s (PutV.s (PutV.s (PutV.s (PutV.s (PutV.s (PutV.s (PutV.s (PutV.s (PutV.s (PutV.s (PutV.s (PutV.s PutV.any))))))))))))))) rfl (lobb rfl)) (by decide) (PTz.one (PB.lt (PX.ixL (fun _ _ => rfl) (BX.tl (PX.ixL (fun _ _ => rfl) (BX.tl (PX.var (At.s (At.s (At.s (At.s At.z)))) rfl (vbb rfl))) (PX.var (At.s (At.s (At.s At.z))) rfl (vbb rfl)))) (PX.var (At.s (At.s (At.s (At.s (At.s (At.s (At.s (At.s (At.s (At.s (At.s (At.s (At.s (At.s (At.s At.z))))))))))))))) rfl (vbb rfl))) PX.int)) (PX.tup (PAs.cons (PX.ixL (fun _ _ => rfl) (BX.var (At.s (At.s (At.s (At.s (At.s At.z))))) rfl (vbb rfl)) (PX.var (At.s (At.s (At.s (At.s (At.s (At.s (At.s (At.s (At.s (At.s (At.s (At.s (At.s (At.s (At.s At.z))))))))))))))) rfl (vbb rfl))) (PAs.one (PX.var (At.s (At.s (At.s (At.s (At.s (At.s (At.s (At.s (At.s (At.s (At.s (At.s (At.s (At.s (At.s At.z))))))))))))))) rfl (vbb rfl))))) (Put.s (Put.s (Put.s (Put.s (Put.s (Put.s (Put.s (Put.s Put.z))))))))) (SXs.cons (SX.iteP (PB.eqI (PX.lenL (Bm.at b_len rfl) (BX.tl (PX.var (At.s (At.s (At.s (At.s (At.s (At.s (At.s (At.s At.z)))))))) rfl (vb rfl)))) PX.int) (SX.one (SX.pre (Wk.cons Cv.same (Wk.cons Cv.same (Wk.cons Cv.same (Wk.cons Cv.same (Wk.cons Cv.same (Wk.cons Cv.freeze (Wk.cons Cv.freeze (Wk.cons Cv.same (Wk.cons Cv.same (Wk.cons Cv.same (Wk.cons Cv.same (Wk.cons Cv.same (Wk.cons Cv.same (Wk.cons Cv.same (Wk.cons Cv.same (Wk.cons Cv.same (Wk.cons Cv.same Wk.nil))))))))))))))))) (SX.retP (PX.tup (PAs.cons PX.bl (PAs.cons (PX.call c_grow_weights rfl (PAs.cons (PX.ixL (fun _ _ => rfl) (BX.tl (PX.var (At.s (At.s (At.s (At.s At.z)))) rfl (vb rfl))) (PX.var (At.s (At.s (At.s At.z))) rfl (vb rfl))) (PAs.cons (PX.var (At.s (At.s (At.s (At.s (At.s At.z))))) rfl (vb rfl)) (PAs.cons (PX.var (At.s At.z) rfl (vb rfl)) (PAs.one (PX.var (At.s (At.s (At.s At.z))) rfl (vb rfl))))))) (PAs.one (PX.var (At.s (At.s (At.s (At.s (At.s (At.s (At.s At.z))))))) rfl (vb rfl))))))))) SXs.nil) (SXs.cons (SX.setP (lob rfl rfl) rfl (PX.ixP (Nth.s Nth.o) rfl (fun _ _ => rfl) (PX.minP (Bm.at b_min rfl) (BX.tl (PX.var (At.s (At.s (At.s (At.s (At.s (At.s (At.s (At.s At.z)))))))) rfl (vb rfl)))) PX.int) (Put.s (Put.s (Put.s (Put.s (Put.s (Put.s (Put.s (Put.s (Put.s Put.z)))))))))) (SXs.cons (SX.setPcV [("k", 13)] rfl rfl rfl rfl rfl (IX.ib (IX.range1 (Bm.at b_range rfl) (PX.var (At.s (At.s (At.s At.z))) rfl (vb rfl)))) rfl (Wp.cons Wp.nil (Put.s (Put.s (Put.s (Put.s (Put.s (Put.s (Put.s (Put.s (Put.s (Put.s (Put.s (Put.s (Put.s Put.z)))))))))))))) (GX.name (PutV.s (PutV.s (PutV.s (PutV.s (PutV.s (PutV.s (PutV.s (PutV.s (PutV.s (PutV.s (PutV.s (PutV.s (PutV.s PutV.any))))))))))))) rfl (lobb rfl)) (by decide) (PTz.one (PB.gt (PX.ixL (fun _ _ => rfl) (BX.tl (PX.ixL (fun _ _ => rfl) (BX.tl (PX.var (At.s (At.s (At.s (At.s At.z)))) rfl (vbb rfl))) (PX.var (At.s (At.s (At.s (At.s (At.s (At.s (At.s (At.s (At.s (At.s (At.s (At.s (At.s At.z))))))))))))) rfl (vbb rfl)))) (PX.var (At.s (At.s (At.s (At.s (At.s (At.s (At.s (At.s (At.s At.z))))))))) rfl (vbb rfl))) PX.int)) (PX.tup (PAs.cons (PX.ixL (fun _ _ => rfl) (BX.var (At.s (At.s (At.s (At.s (At.s (At.s At.z)))))) rfl (vbb rfl)) (PX.var (At.s (At.s (At.s (At.s (At.s (At.s (At.s (At.s (At.s (At.s (At.s (At.s (At.s At.z))))))))))))) rfl (vbb rfl))) (PAs.one (PX.var (At.s (At.s (At.s (At.s (At.s (At.s (At.s (At.s (At.s (At.s (At.s (At.s (At.s At.z))))))))))))) rfl (vbb rfl))))) (Put.s (Put.s (Put.s (Put.s (Put.s (Put.s (Put.s (Put.s (Put.s (Put.s Put.z))))))))))) (SXs.cons (SX.iteP (PB.eqI (PX.lenL (Bm.at b_len rfl) (BX.tl (PX.var (At.s (At.s (At.s (At.s (At.s (At.s (At.s (At.s (At.s (At.s At.z)))))))))) rfl (vb rfl)))) PX.int) (SX.one (SX.pre (Wk.cons Cv.same (Wk.cons Cv.same (Wk.cons Cv.same (Wk.cons Cv.same (Wk.cons Cv.same (Wk.cons Cv.freeze (Wk.cons Cv.freeze (Wk.cons Cv.same (Wk.cons Cv.same (Wk.cons Cv.same (Wk.cons Cv.same (Wk.cons Cv.same (Wk.cons Cv.same (Wk.cons Cv.same (Wk.cons Cv.same (Wk.cons Cv.same (Wk.cons Cv.same Wk.nil))))))))))))))))) (SX.retP (PX.tup (PAs.cons PX.bl (PAs.cons (PX.call c_grow_numbers rfl (PAs.cons (PX.var (At.s (At.s (At.s (At.s At.z)))) rfl (vb rfl)) (PAs.cons (PX.var (At.s (At.s (At.s (At.s (At.s At.z))))) rfl (vb rfl)) (PAs.cons (PX.var (At.s (At.s (At.s (At.s (At.s (At.s At.z)))))) rfl (vb rfl)) (PAs.cons (PX.var (At.s (At.s (At.s (At.s (At.s (At.s (At.s (At.s (At.s At.z))))))))) rfl (vb rfl)) (PAs.one (PX.var (At.s (At.s (At.s (At.s (At.s (At.s (At.s At.z))))))) rfl (vb rfl)))))))) (PAs.one PX.int))))))) SXs.nil) (SXs.cons (SX.setP (lob rfl rfl) rfl (PX.ixP (Nth.s Nth.o) rfl (fun _ _ => rfl) (PX.minP (Bm.at b_min rfl) (BX.tl (PX.var (At.s (At.s (At.s (At.s (At.s (At.s (At.s (At.s (At.s (At.s At.z)))))))))) rfl (vb rfl)))) PX.int) (Put.s (Put.s (Put.s (Put.s (Put.s (Put.s (Put.s (Put.s (Put.s (Put.s (Put.s Put.z)))))))))))) (SXs.cons (SX.setP (lob rfl rfl) rfl (PX.ixL (fun _ _ => rfl) (BX.tl (PX.ixL (fun _ _ => rfl) (BX.tl (PX.var (At.s (At.s (At.s (At.s At.z)))) rfl (vb rfl))) (PX.var (At.s (At.s (At.s (At.s (At.s (At.s (At.s (At.s (At.s (At.s (At.s At.z))))))))))) rfl (vb rfl)))) (PX.var (At.s (At.s (At.s (At.s (At.s (At.s (At.s (At.s (At.s At.z))))))))) rfl (vb rfl))) (Put.s (Put.s (Put.s (Put.s (Put.s (Put.s (Put.s (Put.s (Put.s (Put.s (Put.s (Put.s Put.z))))))))))))) (SXs.cons (SX.setP (lob rfl rfl) rfl (PX.call c_grow_turn rfl (PAs.cons (PX.var (At.s (At.s (At.s (At.s At.z)))) rfl (vb rfl)) (PAs.cons (PX.var (At.s (At.s (At.s (At.s (At.s (At.s (At.s (At.s (At.s (At.s (At.s At.z))))))))))) rfl (vb rfl)) (PAs.cons (PX.var (At.s (At.s (At.s (At.s (At.s (At.s (At.s (At.s (At.s At.z))))))))) rfl (vb rfl)) (PAs.one (PX.var (At.s (At.s (At.s (At.s (At.s (At.s (At.s At.z))))))) rfl (vb rfl))))))) (Put.s (Put.s (Put.s (Put.s Put.z))))) (SXs.cons (SX.setP (lob rfl rfl) rfl (PX.var (At.s (At.s (At.s (At.s (At.s (At.s (At.s (At.s (At.s (At.s (At.s (At.s At.z)))))))))))) rfl (vb rfl)) (Put.s (Put.s (Put.s (Put.s (Put.s (Put.s (Put.s Put.z)))))))) (SXs.cons (SX.par2I (PAs.cons (PX.ixL (fun _ _ => rfl) (BX.var (At.s (At.s (At.s (At.s (At.s (At.s At.z)))))) rfl (vb rfl)) (PX.var (At.s (At.s (At.s (At.s (At.s (At.s (At.s (At.s (At.s (At.s (At.s At.z))))))))))) rfl (vb rfl))) (PAs.one (PX.ixL (fun _ _ => rfl) (BX.var (At.s (At.s (At.s (At.s (At.s At.z))))) rfl (vb rfl)) (PX.var (At.s (At.s (At.s (At.s (At.s (At.s (At.s (At.s (At.s At.z))))))))) rfl (vb rfl))))) (Wr.s (Wr.s (Wr.s (Wr.s (Wr.s Wr.z))))) rfl (vb rfl) (PX.var (At.s (At.s (At.s (At.s (At.s (At.s (At.s (At.s (At.s At.z))))))))) rfl (vb rfl)) (Wr.s (Wr.s (Wr.s (Wr.s (Wr.s (Wr.s Wr.z)))))) rfl (vb rfl) (PX.var (At.s (At.s (At.s (At.s (At.s (At.s (At.s (At.s (At.s (At.s (At.s At.z))))))))))) rfl (vb rfl))) SXs.nil)))))))))) (Wk.cons Cv.same (Wk.cons Cv.same (Wk.cons Cv.same (Wk.cons Cv.same (Wk.cons Cv.same (Wk.cons Cv.same (Wk.cons Cv.same (Wk.cons Cv.same (Wk.cons Cv.drop (Wk.cons Cv.drop (Wk.cons Cv.drop (Wk.cons Cv.drop (Wk.cons Cv.drop (Wk.cons Cv.same (Wk.cons Cv.same (Wk.cons Cv.same (Wk.cons Cv.same Wk.nil))))))))))))))))))) SXs.nil))))))⟩
def m_grow_towards (u : (List (List Int)) × Int × (List Int)) : Rs (Bool × (List Int) × Int) := (w_grow_towards.1 (u.1, (u.2.1, (u.2.2, ((), ((), ((), ((), ((), ((), ((), ((), ((), ((), ((), ((), ((), ((), ())))))))))))))))))).bind (endM (fun _ => .bad))
theorem g_grow_towards {P : Program} {w : World} {K : PySem.W.Frag} {mg : Str → Option Value} {base : Heap} {ca : Nat → Addr} {f : Addr} {fd : FuncData} (T : TopFn K mg "grow_towards" s_grow_towards ["matrix", "length", "goal"] f fd) (z_len : mg "len" = none) (z_list : mg "list" = none) (z_range : mg "range" = none) (z_min : mg "min" = none) (e_grow_weights : Ex P w K mg base "grow_weights" (spOf K ca (.cons (tL tI) (.cons (tL tI) (.cons tI (.one tI)))) (tL tI) m_grow_weights) 1) (e_grow_numbers : Ex P w K mg base "grow_numbers" (spOf K ca (.cons (tL (tL tI)) (.cons (tL tI) (.cons (tL tI) (.cons tI (.one tI))))) (tL tI) m_grow_numbers) 2) (e_grow_turn : Ex P w K mg base "grow_turn" (spOf K ca (.cons (tL (tL tI)) (.cons tI (.cons tI (.one tI)))) (tL (tL tI)) m_grow_turn) 1) : FnOk P w K mg base (L2.CX P w) 3 f fd ["matrix", "length", "goal"] (spOf K ca (.cons (tL (tT tI)) (.cons tI (.one (tL tI)))) (tTup (.cons tB (.cons (tL tI) (.one tI)))) m_grow_towards) :=
  fn_mk (m := 14) (dn := fun _ => .bad) T.F sc_grow_towards (Ini.cons (Ini.cons (Ini.one (Anys.s (Anys.s (Anys.s (Anys.s (Anys.s (Anys.s (Anys.s (Anys.s (Anys.s (Anys.s (Anys.s (Anys.s (Anys.s (Anys.s Anys.nil))))))))))))))))) rfl rfl (fun E => w_grow_towards.2 P w K mg base ca 2 E ⟨z_len, rfl, by decide, by decide⟩ ⟨z_list, rfl, by decide, by decide⟩ ⟨z_range, rfl, by decide, by decide⟩ ⟨z_min, rfl, by decide, by decide⟩ (e_grow_weights.callee (by decide)) (e_grow_numbers.callee (by decide)) (e_grow_turn.callee (by decide)))
theorem f_grow_towards {P : Program} {w : World} {K : PySem.W.Frag} {mg : Str → Option Value} {base : Heap} {ca : Nat → Addr} {f : Addr} {fd : FuncData} (T : TopFn K mg "grow_towards" s_grow_towards ["matrix", "length", "goal"] f fd) (z_len : mg "len" = none) (z_list : mg "list" = none) (z_range : mg "range" = none) (z_min : mg "min" = none) (e_grow_weights : Ex P w K mg base "grow_weights" (spOf K ca (.cons (tL tI) (.cons (tL tI) (.cons tI (.one tI)))) (tL tI) m_grow_weights) 1) (e_grow_numbers : Ex P w K mg base "grow_numbers" (spOf K ca (.cons (tL (tL tI)) (.cons (tL tI) (.cons (tL tI) (.cons tI (.one tI))))) (tL tI) m_grow_numbers) 2) (e_grow_turn : Ex P w K mg base "grow_turn" (spOf K ca (.cons (tL (tL tI)) (.cons tI (.cons tI (.one tI)))) (tL (tL tI)) m_grow_turn) 1) : Ex P w K mg base "grow_towards" (spOf K ca (.cons (tL (tT tI)) (.cons tI (.one (tL tI)))) (tTup (.cons tB (.cons (tL tI) (.one tI)))) m_grow_towards) 3 :=
  ⟨f, fd, ["matrix", "length", "goal"], g_grow_towards T z_len z_list z_range z_min e_grow_weights e_grow_numbers e_grow_turn, T.hm, T.F.kp, T.bd⟩
abbrev s_grow_unit : Stmt := topS 16
abbrev N_grow_unit : List Str := ["length", "place", "k"]
theorem sc_grow_unit : FnScope N_grow_unit ["length", "place"] (defScope s_grow_unit) := ⟨rfl, rfl, rfl, by decide +kernel, rfl, by decide +kernel, by decide +kernel⟩
def w_grow_unit : {f : _ → Rs (Fl (List Int) _ Unit) // ∀ (P : Program) (w : World) (K : PySem.W.Frag) (mg : Str → Option Value) (base : Heap) (ca : Nat → Addr) (k : Nat) (E : XK) (b_range : Bm mg "range" (.type "range")), SXs (ambOf P w K mg base N_grow_unit s_grow_unit k E) ca (defBody s_grow_unit) (.cons (.val tI) (.cons (.val tI) (.cons .any .nil))) (.cons (.val tI) (.cons (.val tI) (.cons .any .nil))) .nil (rVal K (tL tI)) f} :=
  ⟨_, fun P w K mg base ca k E b_range =>
    (SX.one (SX.retP (PX.tl (PL.lc [("k", 2)] (IX.ib (IX.range1 (Bm.at b_range rfl) (PX.var At.z rfl (vb rfl)))) rfl (Wp.cons Wp.nil (Put.s (Put.s Put.z))) (GX.name (PutV.s (PutV.s PutV.any)) rfl (lobb rfl)) (by decide) PTz.nil (PX.ifx (PB.eqI (PX.var (At.s (At.s At.z)) rfl (vbb rfl)) (PX.var (At.s At.z) rfl (vbb rfl))) PX.int PX.int)))))⟩
def m_grow_unit (u : Int × Int) : Rs (List Int) := (w_grow_unit.1 (u.1, (u.2, ((), ())))).bind (endM (fun _ => .bad))
theorem g_grow_unit {P : Program} {w : World} {K : PySem.W.Frag} {mg : Str → Option Value} {base : Heap} {ca : Nat → Addr} {f : Addr} {fd : FuncData} (T : TopFn K mg "grow_unit" s_grow_unit ["length", "place"] f fd) (z_range : mg "range" = none) : FnOk P w K mg base (L2.CX P w) 1 f fd ["length", "place"] (spOf K ca (.cons tI (.one tI)) (tL tI) m_grow_unit) :=
  fn_mk (m := 1) (dn := fun _ => .bad) T.F sc_grow_unit (Ini.cons (Ini.one (Anys.s Anys.nil))) rfl rfl (fun E => w_grow_unit.2 P w K mg base ca 0 E ⟨z_range, rfl, by decide, by decide⟩)
theorem f_grow_unit {P : Program} {w : World} {K : PySem.W.Frag} {mg : Str → Option Value} {base : Heap} {ca : Nat → Addr} {f : Addr} {fd : FuncData} (T : TopFn K mg "grow_unit" s_grow_unit ["length", "place"] f fd) (z_range : mg "range" = none) : Ex P w K mg base "grow_unit" (spOf K ca (.cons tI (.one tI)) (tL tI) m_grow_unit) 1 :=
  ⟨f, fd, ["length", "place"], g_grow_unit T z_range, T.hm, T.F.kp, T.bd⟩
abbrev s_grow_sum : Stmt := topS 17
abbrev N_grow_sum : List Str := ["told", "length", "matrix", "sums", "place", "found", "row", "right", "one", "other"]
theorem sc_grow_sum : FnScope N_grow_sum ["told", "length"] (defScope s_grow_sum) := ⟨rfl, rfl, rfl, by decide +kernel, rfl, by decide +kernel, by decide +kernel⟩
def w_grow_sum : {f : _ → Rs (Fl (List Int) _ Unit) // ∀ (P : Program) (w : World) (K : PySem.W.Frag) (mg : Str → Option Value) (base : Heap) (ca : Nat → Addr) (k : Nat) (E : XK) (b_range : Bm mg "range" (.type "range")) (b_zip : Bm mg "zip" (.type "zip")) (c_grow_unit : Callee (ambOf P w K mg base N_grow_sum s_grow_sum k E) ca "grow_unit" (.cons tI (.one tI)) (tL tI) m_grow_unit) (c_grow_towards : Callee (ambOf P w K mg base N_grow_sum s_grow_sum k E) ca "grow_towards" (.cons (tL (tT tI)) (.cons tI (.one (tL tI)))) (tTup (.cons tB (.cons (tL tI) (.one tI)))) m_grow_towards) (c_lessened : Callee (ambOf P w K mg base N_grow_sum s_grow_sum k E) ca "lessened" (.one (tL tI)) (tL tI) m_lessened), SXs (ambOf P w K mg base N_grow_sum s_grow_sum k E) ca (defBody s_grow_sum) (.cons (.val (tL (tTup (.cons (tT tI) (.one tI))))) (.cons (.val tI) (.cons .any (.cons .any (.cons .any (.cons .any (.cons .any (.cons .any (.cons .any (.cons .any .nil)))))))))) (.cons (.val (tL (tTup (.cons (tT tI) (.one tI))))) (.cons (.val tI) (.cons .any (.cons .any (.cons .any (.cons .any (.cons .any (.cons .any (.cons .any (.cons .any .nil)))))))))) .nil (rVal K (tL tI)) f} :=
  ⟨_, fun P w K mg base ca k E b_range b_zip c_grow_unit c_grow_towards c_lessened =>
    (SXs.cons (SX.setPcV [("row", 6), ("right", 7)] rfl rfl rfl rfl rfl (IX.ib (IX.list (PX.var At.z rfl (vb rfl)))) rfl (Wp.cons (Wp.cons Wp.nil (Put.s (Put.s (Put.s (Put.s (Put.s (Put.s (Put.s Put.z)))))))) (Put.s (Put.s (Put.s (Put.s (Put.s (Put.s Put.z))))))) (GX.tup (GXs.cons (GX.name (PutV.s (PutV.s (PutV.s (PutV.s (PutV.s (PutV.s PutV.any)))))) rfl (lobb rfl)) (GXs.one (GX.name (PutV.s (PutV.s (PutV.s (PutV.s (PutV.s (PutV.s (PutV.s PutV.any))))))) rfl (lobb rfl))))) (by decide) PTz.nil (PX.var (At.s (At.s (At.s (At.s (At.s (At.s At.z)))))) rfl (vbb rfl)) (Put.s (Put.s Put.z))) (SXs.cons (SX.setP (lob rfl rfl) rfl (PX.tl (PL.mulI (PL.bx (PL.lst (τ := tI) (PIs.cons PX.int PIs.nil))) (PX.var (At.s At.z) rfl (vb rfl)))) (Put.s (Put.s (Put.s Put.z)))) (SXs.cons (SX.forP (IX.range1 (Bm.at b_range rfl) (PX.var (At.s At.z) rfl (vb rfl))) (GX.name (PutV.s (PutV.s (PutV.s (PutV.s PutV.any)))) rfl (lob rfl rfl)) (SXs.post (SXs.cons (SX.iteP (PB.eqI (PX.ixL (fun _ _ => rfl) (BX.tl (PX.var (At.s (At.s (At.s At.z))) rfl (vb rfl))) (PX.var (At.s (At.s (At.s (At.s At.z)))) rfl (vb rfl))) PX.int) (SXs.post (SXs.cons (SX.setP (lob rfl rfl) rfl (PX.call c_grow_towards rfl (PAs.cons (PX.var (At.s (At.s At.z)) rfl (vb rfl)) (PAs.cons (PX.var (At.s At.z) rfl (vb rfl)) (PAs.one (PX.call c_grow_unit rfl (PAs.cons (PX.var (At.s At.z) rfl (vb rfl)) (PAs.one (PX.var (At.s (At.s (At.s (At.s At.z)))) rfl (vb rfl))))))))) (Put.s (Put.s (Put.s (Put.s (Put.s Put.z)))))) (SXs.cons (SX.iteP (PX.pb (PX.ixP Nth.z rfl (fun _ _ => rfl) (PX.var (At.s (At.s (At.s (At.s (At.s At.z))))) rfl (vb rfl)) PX.int) (by intros; rfl)) (SXs.cons (SX.setPcV [("one", 8), ("other", 9)] rfl rfl rfl rfl rfl (IX.ib (IX.zip (Bm.at b_zip rfl) (PX.var (At.s (At.s (At.s At.z))) rfl (vb rfl)) (PX.ixP (Nth.s Nth.z) rfl (fun _ _ => rfl) (PX.var (At.s (At.s (At.s (At.s (At.s At.z))))) rfl (vb rfl)) PX.int))) rfl (Wp.cons (Wp.cons Wp.nil (Put.s (Put.s (Put.s (Put.s (Put.s (Put.s (Put.s (Put.s (Put.s Put.z)))))))))) (Put.s (Put.s (Put.s (Put.s (Put.s (Put.s (Put.s (Put.s Put.z))))))))) (GX.tup (GXs.cons (GX.name (PutV.s (PutV.s (PutV.s (PutV.s (PutV.s (PutV.s (PutV.s (PutV.s PutV.any)))))))) rfl (lobb rfl)) (GXs.one (GX.name (PutV.s (PutV.s (PutV.s (PutV.s (PutV.s (PutV.s (PutV.s (PutV.s (PutV.s PutV.any))))))))) rfl (lobb rfl))))) (by decide) PTz.nil (PX.add (PX.var (At.s (At.s (At.s (At.s (At.s (At.s (At.s (At.s At.z)))))))) rfl (vbb rfl)) (PX.var (At.s (At.s (At.s (At.s (At.s (At.s (At.s (At.s (At.s At.z))))))))) rfl (vbb rfl))) (Put.s (Put.s (Put.s Put.z)))) SXs.nil) SXs.nil) SXs.nil)) (Wk.cons Cv.same (Wk.cons Cv.same (Wk.cons Cv.same (Wk.cons Cv.same (Wk.cons Cv.same (Wk.cons Cv.drop (Wk.cons Cv.same (Wk.cons Cv.same (Wk.cons Cv.same (Wk.cons Cv.same Wk.nil))))))))))) SXs.nil) SXs.nil) (Wk.cons Cv.same (Wk.cons Cv.same (Wk.cons Cv.same (Wk.cons Cv.same (Wk.cons Cv.drop (Wk.cons Cv.same (Wk.cons Cv.same (Wk.cons Cv.same (Wk.cons Cv.same (Wk.cons Cv.same Wk.nil)))))))))))) (SX.one (SX.retP (PX.call c_lessened rfl (PAs.one (PX.var (At.s (At.s (At.s At.z))) rfl (vb rfl)))))))))⟩
def m_grow_sum (u : (List ((List Int) × Int)) × Int) : Rs (List Int) := (w_grow_sum.1 (u.1, (u.2, ((), ((), ((), ((), ((), ((), ((), ((), ()))))))))))).bind (endM (fun _ => .bad))
theorem g_grow_sum {P : Program} {w : World} {K : PySem.W.Frag} {mg : Str → Option Value} {base : Heap} {ca : Nat → Addr} {f : Addr} {fd : FuncData} (T : TopFn K mg "grow_sum" s_grow_sum ["told", "length"] f fd) (z_range : mg "range" = none) (z_zip : mg "zip" = none) (e_grow_unit : Ex P w K mg base "grow_unit" (spOf K ca (.cons tI (.one tI)) (tL tI) m_grow_unit) 1) (e_grow_towards : Ex P w K mg base "grow_towards" (spOf K ca (.cons (tL (tT tI)) (.cons tI (.one (tL tI)))) (tTup (.cons tB (.cons (tL tI) (.one tI)))) m_grow_towards) 3) (e_lessened : Ex P w K mg base "lessened" (spOf K ca (.one (tL tI)) (tL tI) m_lessened) 1) : FnOk P w K mg base (L2.CX P w) 4 f fd ["told", "length"] (spOf K ca (.cons (tL (tTup (.cons (tT tI) (.one tI)))) (.one tI)) (tL tI) m_grow_sum) :=
  fn_mk (m := 8) (dn := fun _ => .bad) T.F sc_grow_sum (Ini.cons (Ini.one (Anys.s (Anys.s (Anys.s (Anys.s (Anys.s (Anys.s (Anys.s (Anys.s Anys.nil)))))))))) rfl rfl (fun E => w_grow_sum.2 P w K mg base ca 3 E ⟨z_range, rfl, by decide, by decide⟩ ⟨z_zip, rfl, by decide, by decide⟩ (e_grow_unit.callee (by decide)) (e_grow_towards.callee (by decide)) (e_lessened.callee (by decide)))
theorem f_grow_sum {P : Program} {w : World} {K : PySem.W.Frag} {mg : Str → Option Value} {base : Heap} {ca : Nat → Addr} {f : Addr} {fd : FuncData} (T : TopFn K mg "grow_sum" s_grow_sum ["told", "length"] f fd) (z_range : mg "range" = none) (z_zip : mg "zip" = none) (e_grow_unit : Ex P w K mg base "grow_unit" (spOf K ca (.cons tI (.one tI)) (tL tI) m_grow_unit) 1) (e_grow_towards : Ex P w K mg base "grow_towards" (spOf K ca (.cons (tL (tT tI)) (.cons tI (.one (tL tI)))) (tTup (.cons tB (.cons (tL tI) (.one tI)))) m_grow_towards) 3) (e_lessened : Ex P w K mg base "lessened" (spOf K ca (.one (tL tI)) (tL tI) m_lessened) 1) : Ex P w K mg base "grow_sum" (spOf K ca (.cons (tL (tTup (.cons (tT tI) (.one tI)))) (.one tI)) (tL tI) m_grow_sum) 4 :=
  ⟨f, fd, ["told", "length"], g_grow_sum T z_range z_zip e_grow_unit e_grow_towards e_lessened, T.hm, T.F.kp, T.bd⟩
abbrev s_grow_or_cap : Stmt := topS 18
abbrev N_grow_or_cap : List Str := ["rows", "length", "place", "told", "found", "row", "right"]
theorem sc_grow_or_cap : FnScope N_grow_or_cap ["rows", "length", "place"] (defScope s_grow_or_cap) := ⟨rfl, rfl, rfl, by decide +kernel, rfl, by decide +kernel, by decide +kernel⟩
def w_grow_or_cap : {f : _ → Rs (Fl (SK × (List Int)) _ Unit) // ∀ (P : Program) (w : World) (K : PySem.W.Frag) (mg : Str → Option Value) (base : Heap) (ca : Nat → Addr) (k : Nat) (E : XK) (b_tuple : Bm mg "tuple" (.type "tuple")) (c_sum_rows : Callee (ambOf P w K mg base N_grow_or_cap s_grow_or_cap k E) ca "sum_rows" (.cons (tL (tLup (.cons (tL tI) (.one tI)))) (.one tI)) (tL (tTup (.cons (tT tI) (.one tI)))) m_sum_rows) (c_sum_place : Callee (ambOf P w K mg base N_grow_or_cap s_grow_or_cap k E) ca "sum_place" (.cons tI (.one tI)) tN m_sum_place) (c_grow_unit : Callee (ambOf P w K mg base N_grow_or_cap s_grow_or_cap k E) ca "grow_unit" (.cons tI (.one tI)) (tL tI) m_grow_unit) (c_grow_towards : Callee (ambOf P w K mg base N_grow_or_cap s_grow_or_cap k E) ca "grow_towards" (.cons (tL (tT tI)) (.cons tI (.one (tL tI)))) (tTup (.cons tB (.cons (tL tI) (.one tI)))) m_grow_towards) (c_lessened : Callee (ambOf P w K mg base N_grow_or_cap s_grow_or_cap k E) ca "lessened" (.one (tL tI)) (tL tI) m_lessened), SXs (ambOf P w K mg base N_grow_or_cap s_grow_or_cap k E) ca (defBody s_grow_or_cap) (.cons (.val (tL (tLup (.cons (tL tI) (.one tI))))) (.cons (.val tI) (.cons (.val tI) (.cons .any (.cons .any (.cons .any (.cons .any .nil))))))) (.cons (.val (tL (tLup (.cons (tL tI) (.one tI))))) (.cons (.val tI) (.cons (.val tI) (.cons .any (.cons .any (.cons .any (.cons .any .nil))))))) .nil (rVal K (tTup (.cons tSk (.one (tT tI))))) f} :=
  ⟨_, fun P w K mg base ca k E b_tuple c_sum_rows c_sum_place c_grow_unit c_grow_towards c_lessened =>
    (SXs.cons (SX.setP (lob rfl rfl) rfl (PX.call c_sum_rows rfl (PAs.cons (PX.var At.z rfl (vb rfl)) (PAs.one (PX.var (At.s At.z) rfl (vb rfl))))) (Put.s (Put.s (Put.s Put.z)))) (SXs.cons (SX.expr (PX.ex (PX.call c_sum_place rfl (PAs.cons (PX.var (At.s (At.s At.z)) rfl (vb rfl)) (PAs.one (PX.var (At.s At.z) rfl (vb rfl))))))) (SXs.cons (SX.setP (lob rfl rfl) rfl (PX.call c_grow_towards rfl (PAs.cons (PX.tl (PL.lc [("row", 5), ("right", 6)] (IX.ib (IX.list (PX.var (At.s (At.s (At.s At.z))) rfl (vb rfl)))) rfl (Wp.cons (Wp.cons Wp.nil (Put.s (Put.s (Put.s (Put.s (Put.s (Put.s Put.z))))))) (Put.s (Put.s (Put.s (Put.s (Put.s Put.z)))))) (GX.tup (GXs.cons (GX.name (PutV.s (PutV.s (PutV.s (PutV.s (PutV.s PutV.any))))) rfl (lobb rfl)) (GXs.one (GX.name (PutV.s (PutV.s (PutV.s (PutV.s (PutV.s (PutV.s PutV.any)))))) rfl (lobb rfl))))) (by decide) PTz.nil (PX.var (At.s (At.s (At.s (At.s (At.s At.z))))) rfl (vbb rfl)))) (PAs.cons (PX.var (At.s At.z) rfl (vb rfl)) (PAs.one (PX.call c_grow_unit rfl (PAs.cons (PX.var (At.s At.z) rfl (vb rfl)) (PAs.one (PX.var (At.s (At.s At.z)) rfl (vb rfl))))))))) (Put.s (Put.s (Put.s (Put.s Put.z))))) (SXs.cons (SX.iteP (PX.pb (PX.ixP Nth.z rfl (fun _ _ => rfl) (PX.var (At.s (At.s (At.s (At.s At.z)))) rfl (vb rfl)) PX.int) (by intros; rfl)) (SX.one (SX.retP (PX.tup (PAs.cons (PX.strK (i := "grow")) (PAs.one (PX.tupleL (Bm.at b_tuple rfl) (BX.tl (PX.ixP (Nth.s Nth.z) rfl (fun _ _ => rfl) (PX.var (At.s (At.s (At.s (At.s At.z)))) rfl (vb rfl)) PX.int)))))))) SXs.nil) (SX.one (SX.retP (PX.tup (PAs.cons (PX.strK (i := "cap")) (PAs.one (PX.tupleL (Bm.at b_tuple rfl) (BX.tl (PX.call c_lessened rfl (PAs.one (PX.ixP (Nth.s Nth.z) rfl (fun _ _ => rfl) (PX.var (At.s (At.s (At.s (At.s At.z)))) rfl (vb rfl)) PX.int))))))))))))))⟩
def m_grow_or_cap (u : (List ((List Int) × Int)) × Int × Int) : Rs (SK × (List Int)) := (w_grow_or_cap.1 (u.1, (u.2.1, (u.2.2, ((), ((), ((), ((), ())))))))).bind (endM (fun _ => .bad))
theorem g_grow_or_cap {P : Program} {w : World} {K : PySem.W.Frag} {mg : Str → Option Value} {base : Heap} {ca : Nat → Addr} {f : Addr} {fd : FuncData} (T : TopFn K mg "grow_or_cap" s_grow_or_cap ["rows", "length", "place"] f fd) (z_tuple : mg "tuple" = none) (e_sum_rows : Ex P w K mg base "sum_rows" (spOf K ca (.cons (tL (tLup (.cons (tL tI) (.one tI)))) (.one tI)) (tL (tTup (.cons (tT tI) (.one tI)))) m_sum_rows) 4) (e_sum_place : Ex P w K mg base "sum_place" (spOf K ca (.cons tI (.one tI)) tN m_sum_place) 3) (e_grow_unit : Ex P w K mg base "grow_unit" (spOf K ca (.cons tI (.one tI)) (tL tI) m_grow_unit) 1) (e_grow_towards : Ex P w K mg base "grow_towards" (spOf K ca (.cons (tL (tT tI)) (.cons tI (.one (tL tI)))) (tTup (.cons tB (.cons (tL tI) (.one tI)))) m_grow_towards) 3) (e_lessened : Ex P w K mg base "lessened" (spOf K ca (.one (tL tI)) (tL tI) m_lessened) 1) : FnOk P w K mg base (L2.CX P w) 5 f fd ["rows", "length", "place"] (spOf K ca (.cons (tL (tLup (.cons (tL tI) (.one tI)))) (.cons tI (.one tI))) (tTup (.cons tSk (.one (tT tI)))) m_grow_or_cap) :=
  fn_mk (m := 4) (dn := fun _ => .bad) T.F sc_grow_or_cap (Ini.cons (Ini.cons (Ini.one (Anys.s (Anys.s (Anys.s (Anys.s Anys.nil))))))) rfl rfl (fun E => w_grow_or_cap.2 P w K mg base ca 4 E ⟨z_tuple, rfl, by decide, by decide⟩ (e_sum_rows.callee (by decide)) (e_sum_place.callee (by decide)) (e_grow_unit.callee (by decide)) (e_grow_towards.callee (by decide)) (e_lessened.callee (by decide)))
theorem f_grow_or_cap {P : Program} {w : World} {K : PySem.W.Frag} {mg : Str → Option Value} {base : Heap} {ca : Nat → Addr} {f : Addr} {fd : FuncData} (T : TopFn K mg "grow_or_cap" s_grow_or_cap ["rows", "length", "place"] f fd) (z_tuple : mg "tuple" = none) (e_sum_rows : Ex P w K mg base "sum_rows" (spOf K ca (.cons (tL (tLup (.cons (tL tI) (.one tI)))) (.one tI)) (tL (tTup (.cons (tT tI) (.one tI)))) m_sum_rows) 4) (e_sum_place : Ex P w K mg base "sum_place" (spOf K ca (.cons tI (.one tI)) tN m_sum_place) 3) (e_grow_unit : Ex P w K mg base "grow_unit" (spOf K ca (.cons tI (.one tI)) (tL tI) m_grow_unit) 1) (e_grow_towards : Ex P w K mg base "grow_towards" (spOf K ca (.cons (tL (tT tI)) (.cons tI (.one (tL tI)))) (tTup (.cons tB (.cons (tL tI) (.one tI)))) m_grow_towards) 3) (e_lessened : Ex P w K mg base "lessened" (spOf K ca (.one (tL tI)) (tL tI) m_lessened) 1) : Ex P w K mg base "grow_or_cap" (spOf K ca (.cons (tL (tLup (.cons (tL tI) (.one tI)))) (.cons tI (.one tI))) (tTup (.cons tSk (.one (tT tI)))) m_grow_or_cap) 5 :=
  ⟨f, fd, ["rows", "length", "place"], g_grow_or_cap T z_tuple e_sum_rows e_sum_place e_grow_unit e_grow_towards e_lessened, T.hm, T.F.kp, T.bd⟩
abbrev s_growing : Stmt := topS 19
abbrev N_growing : List Str := ["rows", "length", "number"]
theorem sc_growing : FnScope N_growing ["rows", "length"] (defScope s_growing) := ⟨rfl, rfl, rfl, by decide +kernel, rfl, by decide +kernel, by decide +kernel⟩
def w_growing : {f : _ → Rs (Fl (List Bool) _ Unit) // ∀ (P : Program) (w : World) (K : PySem.W.Frag) (mg : Str → Option Value) (base : Heap) (ca : Nat → Addr) (k : Nat) (E : XK) (b_tuple : Bm mg "tuple" (.type "tuple")) (c_sum_rows : Callee (ambOf P w K mg base N_growing s_growing k E) ca "sum_rows" (.cons (tL (tLup (.cons (tL tI) (.one tI)))) (.one tI)) (tL (tTup (.cons (tT tI) (.one tI)))) m_sum_rows) (c_grow_sum : Callee (ambOf P w K mg base N_growing s_growing k E) ca "grow_sum" (.cons (tL (tTup (.cons (tT tI) (.one tI)))) (.one tI)) (tL tI) m_grow_sum), SXs (ambOf P w K mg base N_growing s_growing k E) ca (defBody s_growing) (.cons (.val (tL (tLup (.cons (tL tI) (.one tI))))) (.cons (.val tI) (.cons .any .nil))) (.cons (.val (tL (tLup (.cons (tL tI) (.one tI))))) (.cons (.val tI) (.cons .any .nil))) .nil (rVal K (tT tB)) f} :=
  ⟨_, fun P w K mg base ca k E b_tuple c_sum_rows c_grow_sum =>
    (SX.one (SX.retP (PX.tupleL (Bm.at b_tuple rfl) (PL.bx (PL.lc [("number", 2)] (IX.ib (IX.list (PX.call c_grow_sum rfl (PAs.cons (PX.call c_sum_rows rfl (PAs.cons (PX.var At.z rfl (vb rfl)) (PAs.one (PX.var (At.s At.z) rfl (vb rfl))))) (PAs.one (PX.var (At.s At.z) rfl (vb rfl))))))) rfl (Wp.cons Wp.nil (Put.s (Put.s Put.z))) (GX.name (PutV.s (PutV.s PutV.any)) rfl (lobb rfl)) (by decide) PTz.nil (PX.gt (PX.var (At.s (At.s At.z)) rfl (vbb rfl)) PX.int))))))⟩
def m_growing (u : (List ((List Int) × Int)) × Int) : Rs (List Bool) := (w_growing.1 (u.1, (u.2, ((), ())))).bind (endM (fun _ => .bad))
theorem g_growing {P : Program} {w : World} {K : PySem.W.Frag} {mg : Str → Option Value} {base : Heap} {ca : Nat → Addr} {f : Addr} {fd : FuncData} (T : TopFn K mg "growing" s_growing ["rows", "length"] f fd) (z_tuple : mg "tuple" = none) (e_sum_rows : Ex P w K mg base "sum_rows" (spOf K ca (.cons (tL (tLup (.cons (tL tI) (.one tI)))) (.one tI)) (tL (tTup (.cons (tT tI) (.one tI)))) m_sum_rows) 4) (e_grow_sum : Ex P w K mg base "grow_sum" (spOf K ca (.cons (tL (tTup (.cons (tT tI) (.one tI)))) (.one tI)) (tL tI) m_grow_sum) 4) : FnOk P w K mg base (L2.CX P w) 5 f fd ["rows", "length"] (spOf K ca (.cons (tL (tLup (.cons (tL tI) (.one tI)))) (.one tI)) (tT tB) m_growing) :=
  fn_mk (m := 1) (dn := fun _ => .bad) T.F sc_growing (Ini.cons (Ini.one (Anys.s Anys.nil))) rfl rfl (fun E => w_growing.2 P w K mg base ca 4 E ⟨z_tuple, rfl, by decide, by decide⟩ (e_sum_rows.callee (by decide)) (e_grow_sum.callee (by decide)))
theorem f_growing {P : Program} {w : World} {K : PySem.W.Frag} {mg : Str → Option Value} {base : Heap} {ca : Nat → Addr} {f : Addr} {fd : FuncData} (T : TopFn K mg "growing" s_growing ["rows", "length"] f fd) (z_tuple : mg "tuple" = none) (e_sum_rows : Ex P w K mg base "sum_rows" (spOf K ca (.cons (tL (tLup (.cons (tL tI) (.one tI)))) (.one tI)) (tL (tTup (.cons (tT tI) (.one tI)))) m_sum_rows) 4) (e_grow_sum : Ex P w K mg base "grow_sum" (spOf K ca (.cons (tL (tTup (.cons (tT tI) (.one tI)))) (.one tI)) (tL tI) m_grow_sum) 4) : Ex P w K mg base "growing" (spOf K ca (.cons (tL (tLup (.cons (tL tI) (.one tI)))) (.one tI)) (tT tB) m_growing) 5 :=
  ⟨f, fd, ["rows", "length"], g_growing T z_tuple e_sum_rows e_grow_sum, T.hm, T.F.kp, T.bd⟩
abbrev s_all_growing : Stmt := topS 20
abbrev N_all_growing : List Str := ["rows", "length", "numbers"]
theorem sc_all_growing : FnScope N_all_growing ["rows", "length"] (defScope s_all_growing) := ⟨rfl, rfl, rfl, by decide +kernel, rfl, by decide +kernel, by decide +kernel⟩
def w_all_growing : {f : _ → Rs (Fl (Option (List Int)) _ Unit) // ∀ (P : Program) (w : World) (K : PySem.W.Frag) (mg : Str → Option Value) (base : Heap) (ca : Nat → Addr) (k : Nat) (E : XK) (b_tuple : Bm mg "tuple" (.type "tuple")) (c_sum_rowsT : Callee (ambOf P w K mg base N_all_growing s_all_growing k E) ca "sum_rows" (.cons (tT (tTup (.cons (tT tI) (.one tI)))) (.one tI)) (tL (tTup (.cons (tT tI) (.one tI)))) m_sum_rowsT) (c_grow_sum : Callee (ambOf P w K mg base N_all_growing s_all_growing k E) ca "grow_sum" (.cons (tL (tTup (.cons (tT tI) (.one tI)))) (.one tI)) (tL tI) m_grow_sum), SXs (ambOf P w K mg base N_all_growing s_all_growing k E) ca (defBody s_all_growing) (.cons (.val (tT (tTup (.cons (tT tI) (.one tI))))) (.cons (.val tI) (.cons .any .nil))) (.cons (.val (tT (tTup (.cons (tT tI) (.one tI))))) (.cons (.val tI) (.cons .any .nil))) .nil (rVal K (tO (tT tI))) f} :=
  ⟨_, fun P w K mg base ca k E b_tuple c_sum_rowsT c_grow_sum =>
    (SXs.cons (SX.setP (lob rfl rfl) rfl (PX.call c_grow_sum rfl (PAs.cons (PX.call c_sum_rowsT rfl (PAs.cons (PX.var At.z rfl (vb rfl)) (PAs.one (PX.var (At.s At.z) rfl (vb rfl))))) (PAs.one (PX.var (At.s At.z) rfl (vb rfl))))) (Put.s (Put.s Put.z))) (SXs.cons (SX.iteP (PB.inL (EncN.int).toEnc PX.int (BX.tl (PX.var (At.s (At.s At.z)) rfl (vb rfl)))) (SX.one (SX.retP (PX.co PX.non Tc.none))) SXs.nil) (SX.one (SX.retP (PX.co (PX.tupleL (Bm.at b_tuple rfl) (BX.tl (PX.var (At.s (At.s At.z)) rfl (vb rfl)))) Tc.some)))))⟩
def m_all_growing (u : (List ((List Int) × Int)) × Int) : Rs (Option (List Int)) := (w_all_growing.1 (u.1, (u.2, ((), ())))).bind (endM (fun _ => .bad))
theorem g_all_growing {P : Program} {w : World} {K : PySem.W.Frag} {mg : Str → Option Value} {base : Heap} {ca : Nat → Addr} {f : Addr} {fd : FuncData} (T : TopFn K mg "all_growing" s_all_growing ["rows", "length"] f fd) (z_tuple : mg "tuple" = none) (e_sum_rowsT : Ex P w K mg base "sum_rows" (spOf K ca (.cons (tT (tTup (.cons (tT tI) (.one tI)))) (.one tI)) (tL (tTup (.cons (tT tI) (.one tI)))) m_sum_rowsT) 4) (e_grow_sum : Ex P w K mg base "grow_sum" (spOf K ca (.cons (tL (tTup (.cons (tT tI) (.one tI)))) (.one tI)) (tL tI) m_grow_sum) 4) : FnOk P w K mg base (L2.CX P w) 5 f fd ["rows", "length"] (spOf K ca (.cons (tT (tTup (.cons (tT tI) (.one tI)))) (.one tI)) (tO (tT tI)) m_all_growing) :=
  fn_mk (m := 1) (dn := fun _ => .bad) T.F sc_all_growing (Ini.cons (Ini.one (Anys.s Anys.nil))) rfl rfl (fun E => w_all_growing.2 P w K mg base ca 4 E ⟨z_tuple, rfl, by decide, by decide⟩ (e_sum_rowsT.callee (by decide)) (e_grow_sum.callee (by decide)))
theorem f_all_growing {P : Program} {w : World} {K : PySem.W.Frag} {mg : Str → Option Value} {base : Heap} {ca : Nat → Addr} {f : Addr} {fd : FuncData} (T : TopFn K mg "all_growing" s_all_growing ["rows", "length"] f fd) (z_tuple : mg "tuple" = none) (e_sum_rowsT : Ex P w K mg base "sum_rows" (spOf K ca (.cons (tT (tTup (.cons (tT tI) (.one tI)))) (.one tI)) (tL (tTup (.cons (tT tI) (.one tI)))) m_sum_rowsT) 4) (e_grow_sum : Ex P w K mg base "grow_sum" (spOf K ca (.cons (tL (tTup (.cons (tT tI) (.one tI)))) (.one tI)) (tL tI) m_grow_sum) 4) : Ex P w K mg base "all_growing" (spOf K ca (.cons (tT (tTup (.cons (tT tI) (.one tI)))) (.one tI)) (tO (tT tI)) m_all_growing) 5 :=
  ⟨f, fd, ["rows", "length"], g_all_growing T z_tuple e_sum_rowsT e_grow_sum, T.hm, T.F.kp, T.bd⟩
abbrev s__law_pool : Stmt := topS 22
abbrev N__law_pool : List Str := ["script"]
theorem sc__law_pool : FnScope N__law_pool ["script"] (defScope s__law_pool) := ⟨rfl, rfl, rfl, by decide +kernel, rfl, by decide +kernel, by decide +kernel⟩
def w__law_pool : {f : _ → Rs (Fl ((List Int) × Int × Int × Int) _ Unit) // ∀ (P : Program) (w : World) (K : PySem.W.Frag) (mg : Str → Option Value) (base : Heap) (ca : Nat → Addr) (k : Nat) (E : XK) (b_list : Bm mg "list" (.type "list")), SXs (ambOf P w K mg base N__law_pool s__law_pool k E) ca (defBody s__law_pool) (.cons (.val (tF tI)) .nil) (.cons (.val (tF tI)) .nil) .nil (rLst K (cR (.cons (tL tI) (.cons tI (.cons tI (.one tI)))))) f} :=
  ⟨_, fun P w K mg base ca k E b_list =>
    (SX.one (SX.retL (PL.lup (PAs.cons (PX.tl (PL.slice (PL.bx (PL.listF (Bm.at b_list rfl) (PX.var At.z rfl (vb rfl)))) PPo.none (PPo.some PX.int))) (PAs.cons PX.int (PAs.cons PX.int (PAs.one PX.int)))))))⟩
def m__law_pool (u : (List Int)) : Rs ((List Int) × Int × Int × Int) := (w__law_pool.1 (u, ())).bind (endM (fun _ => .bad))
theorem g__law_pool {P : Program} {w : World} {K : PySem.W.Frag} {mg : Str → Option Value} {base : Heap} {ca : Nat → Addr} {f : Addr} {fd : FuncData} (T : TopFn K mg "_law_pool" s__law_pool ["script"] f fd) (z_list : mg "list" = none) : FnOk P w K mg base (L2.CX P w) 1 f fd ["script"] (spL K ca (.one (tF tI)) (cR (.cons (tL tI) (.cons tI (.cons tI (.one tI))))) m__law_pool) :=
  fnL_mk (m := 0) T.F sc__law_pool (Ini.one Anys.nil) rfl rfl (fun E => w__law_pool.2 P w K mg base ca 0 E ⟨z_list, rfl, by decide, by decide⟩)
theorem f__law_pool {P : Program} {w : World} {K : PySem.W.Frag} {mg : Str → Option Value} {base : Heap} {ca : Nat → Addr} {f : Addr} {fd : FuncData} (T : TopFn K mg "_law_pool" s__law_pool ["script"] f fd) (z_list : mg "list" = none) : Ex P w K mg base "_law_pool" (spL K ca (.one (tF tI)) (cR (.cons (tL tI) (.cons tI (.cons tI (.one tI))))) m__law_pool) 1 :=
  ⟨f, fd, ["script"], g__law_pool T z_list, T.hm, T.F.kp, T.bd⟩
abbrev s__law_mixed : Stmt := topS 23
abbrev N__law_mixed : List Str := ["number", "place"]
theorem sc__law_mixed : FnScope N__law_mixed ["number", "place"] (defScope s__law_mixed) := ⟨rfl, rfl, rfl, by decide +kernel, rfl, by decide +kernel, by decide +kernel⟩
def w__law_mixed : {f : _ → Rs (Fl Int _ Unit) // ∀ (P : Program) (w : World) (K : PySem.W.Frag) (mg : Str → Option Value) (base : Heap) (ca : Nat → Addr) (k : Nat) (E : XK) (b_int : Bm mg "int" (.type "int")), SXs (ambOf P w K mg base N__law_mixed s__law_mixed k E) ca (defBody s__law_mixed) (.cons (.val tI) (.cons (.val tI) .nil)) (.cons (.val tI) (.cons (.val tI) .nil)) .nil (rVal K tI) f} :=
  ⟨_, fun P w K mg base ca k E b_int =>
    (SXs.cons (SX.setP (lob rfl rfl) rfl (PX.mod (PX.toInt (Bm.at b_int rfl) (PX.add (PX.add (PX.mul (PX.var At.z rfl (vb rfl)) PX.int) (PX.mul (PX.var (At.s At.z) rfl (vb rfl)) PX.int)) PX.int)) PX.int) Put.z) (SXs.cons (SX.setP (lob rfl rfl) rfl (PX.mod (PX.toInt (Bm.at b_int rfl) (PX.add (PX.add (PX.mul (PX.var At.z rfl (vb rfl)) (PX.var At.z rfl (vb rfl))) (PX.mul PX.int (PX.var (At.s At.z) rfl (vb rfl)))) PX.int)) PX.int) Put.z) (SX.one (SX.retP (PX.mod (PX.toInt (Bm.at b_int rfl) (PX.fdiv (PX.var At.z rfl (vb rfl)) PX.int)) PX.int)))))⟩
def m__law_mixed (u : Int × Int) : Rs Int := (w__law_mixed.1 (u.1, (u.2, ()))).bind (endM (fun _ => .bad))
theorem g__law_mixed {P : Program} {w : World} {K : PySem.W.Frag} {mg : Str → Option Value} {base : Heap} {ca : Nat → Addr} {f : Addr} {fd : FuncData} (T : TopFn K mg "_law_mixed" s__law_mixed ["number", "place"] f fd) (z_int : mg "int" = none) : FnOk P w K mg base (L2.CX P w) 1 f fd ["number", "place"] (spOf K ca (.cons tI (.one tI)) tI m__law_mixed) :=
  fn_mk (m := 0) (dn := fun _ => .bad) T.F sc__law_mixed (Ini.cons (Ini.one Anys.nil)) rfl rfl (fun E => w__law_mixed.2 P w K mg base ca 0 E ⟨z_int, rfl, by decide, by decide⟩)
theorem f__law_mixed {P : Program} {w : World} {K : PySem.W.Frag} {mg : Str → Option Value} {base : Heap} {ca : Nat → Addr} {f : Addr} {fd : FuncData} (T : TopFn K mg "_law_mixed" s__law_mixed ["number", "place"] f fd) (z_int : mg "int" = none) : Ex P w K mg base "_law_mixed" (spOf K ca (.cons tI (.one tI)) tI m__law_mixed) 1 :=
  ⟨f, fd, ["number", "place"], g__law_mixed T z_int, T.hm, T.F.kp, T.bd⟩
abbrev s__law_draw : Stmt := topS 24
abbrev N__law_draw : List Str := ["pool", "base", "digit", "cell"]
theorem sc__law_draw : FnScope N__law_draw ["pool", "base"] (defScope s__law_draw) := ⟨rfl, rfl, rfl, by decide +kernel, rfl, by decide +kernel, by decide +kernel⟩
def w__law_draw : {f : _ → Rs (Fl (Int × ((List Int) × Int × Int × Int)) _ Unit) // ∀ (P : Program) (w : World) (K : PySem.W.Frag) (mg : Str → Option Value) (base : Heap) (ca : Nat → Addr) (k : Nat) (E : XK) (q : Addr) (b_int : Bm mg "int" (.type "int")) (b_len : Bm mg "len" (.builtin "len")) (c__law_mixed : Callee (ambOf P w K mg base N__law_draw s__law_draw k E) ca "_law_mixed" (.cons tI (.one tI)) tI m__law_mixed), SXs (ambOf P w K mg base N__law_draw s__law_draw k E) ca (defBody s__law_draw) (.cons (.own (some q) (cR (.cons (tL tI) (.cons tI (.cons tI (.one tI)))))) (.cons (.val tI) (.cons .any (.cons .any .nil)))) (.cons (.own (some q) (cR (.cons (tL tI) (.cons tI (.cons tI (.one tI)))))) (.cons (.val tI) (.cons .any (.cons .any .nil)))) .nil (rIO K q (cR (.cons (tL tI) (.cons tI (.cons tI (.one tI))))) tI) f} :=
  ⟨_, fun P w K mg base ca k E q b_int b_len c__law_mixed =>
    (SXs.cons (SX.iteP (PB.gt (PX.ixR (Nth.s (Nth.s (Nth.s Nth.o))) rfl (fun _ _ => rfl) (BX.var At.z rfl (vb rfl)) PX.int) PX.int) (SXs.cons (SX.setP (lob rfl rfl) rfl (PX.mod (PX.toInt (Bm.at b_int rfl) (PX.ixR (Nth.s (Nth.s Nth.z)) rfl (fun _ _ => rfl) (BX.var At.z rfl (vb rfl)) PX.int)) (PX.var (At.s At.z) rfl (vb rfl))) (Put.s (Put.s Put.z))) (SXs.cons (SX.setR (PX.ex (PX.fdiv (PX.toInt (Bm.at b_int rfl) (PX.ixR (Nth.s (Nth.s Nth.z)) rfl (fun _ _ => rfl) (BX.var At.z rfl (vb rfl)) PX.int)) (PX.var (At.s At.z) rfl (vb rfl)))) Wr.z rfl (vb rfl) (Tst.s (Tst.s Tst.z)) rfl PX.int) (SXs.cons (SX.setR (PX.ex (PX.sub (PX.ixR (Nth.s (Nth.s (Nth.s Nth.o))) rfl (fun _ _ => rfl) (BX.var At.z rfl (vb rfl)) PX.int) PX.int)) Wr.z rfl (vb rfl) (Tst.s (Tst.s (Tst.s Tst.o))) rfl PX.int) (SX.one (SX.retIOA (PX.ex (PX.var (At.s (At.s At.z)) rfl (vb rfl))) At.z))))) SXs.nil) (SXs.cons (SX.iteP (PB.ge (PX.ixR (Nth.s Nth.z) rfl (fun _ _ => rfl) (BX.var At.z rfl (vb rfl)) PX.int) (PX.lenL (Bm.at b_len rfl) (BX.tl (PX.ixR Nth.z rfl (fun _ _ => rfl) (BX.var At.z rfl (vb rfl)) PX.int)))) (SX.one (SX.retIOA (PX.ex PX.int) At.z)) SXs.nil) (SXs.cons (SX.setP (lob rfl rfl) rfl (PX.toInt (Bm.at b_int rfl) (PX.ixL (fun _ _ => rfl) (BX.tl (PX.ixR Nth.z rfl (fun _ _ => rfl) (BX.var At.z rfl (vb rfl)) PX.int)) (PX.ixR (Nth.s Nth.z) rfl (fun _ _ => rfl) (BX.var At.z rfl (vb rfl)) PX.int))) (Put.s (Put.s (Put.s Put.z)))) (SXs.cons (SX.setR (PX.ex (PX.add (PX.ixR (Nth.s Nth.z) rfl (fun _ _ => rfl) (BX.var At.z rfl (vb rfl)) PX.int) PX.int)) Wr.z rfl (vb rfl) (Tst.s Tst.z) rfl PX.int) (SXs.cons (SX.iteP (PB.lt (PX.var (At.s (At.s (At.s At.z))) rfl (vb rfl)) PX.int) (SXs.cons (SX.setP (lob rfl rfl) rfl (PX.sub PX.int (PX.var (At.s (At.s (At.s At.z))) rfl (vb rfl))) (Put.s (Put.s (Put.s Put.z)))) SXs.nil) SXs.nil) (SXs.cons (SX.iteP (PB.ge (PX.var (At.s (At.s (At.s At.z))) rfl (vb rfl)) (PX.pow PX.int PX.int)) (SXs.cons (SX.setR (PX.ex (PX.fdiv (PX.var (At.s (At.s (At.s At.z))) rfl (vb rfl)) (PX.var (At.s At.z) rfl (vb rfl)))) Wr.z rfl (vb rfl) (Tst.s (Tst.s Tst.z)) rfl PX.int) (SXs.cons (SX.setR (PX.ex PX.int) Wr.z rfl (vb rfl) (Tst.s (Tst.s (Tst.s Tst.o))) rfl PX.int) (SX.one (SX.retIOA (PX.ex (PX.mod (PX.toInt (Bm.at b_int rfl) (PX.var (At.s (At.s (At.s At.z))) rfl (vb rfl))) (PX.var (At.s At.z) rfl (vb rfl)))) At.z)))) SXs.nil) (SX.one (SX.retIOA (PX.ex (PX.mod (PX.toInt (Bm.at b_int rfl) (PX.call c__law_mixed rfl (PAs.cons (PX.var (At.s (At.s (At.s At.z))) rfl (vb rfl)) (PAs.one (PX.ixR (Nth.s Nth.z) rfl (fun _ _ => rfl) (BX.var At.z rfl (vb rfl)) PX.int))))) (PX.var (At.s At.z) rfl (vb rfl)))) At.z))))))))⟩
def m__law_draw (u : ((List Int) × Int × Int × Int) × Int) : Rs (Int × ((List Int) × Int × Int × Int)) := (w__law_draw.1 (u.1, (u.2, ((), ((), ()))))).bind (endM (fun _ => .bad))
theorem g__law_draw {P : Program} {w : World} {K : PySem.W.Frag} {mg : Str → Option Value} {base : Heap} {ca : Nat → Addr} {f : Addr} {fd : FuncData} (T : TopFn K mg "_law_draw" s__law_draw ["pool", "base"] f fd) (z_int : mg "int" = none) (z_len : mg "len" = none) (e__law_mixed : Ex P w K mg base "_law_mixed" (spOf K ca (.cons tI (.one tI)) tI m__law_mixed) 1) : FnOk P w K mg base (L2.CX P w) 2 f fd ["pool", "base"] (spIO K ca (cR (.cons (tL tI) (.cons tI (.cons tI (.one tI))))) (.one tI) tI m__law_draw) :=
  fnIO_mk (m := 2) T.F sc__law_draw (fun q => IniO.mk' (Ini.one (Anys.s (Anys.s Anys.nil)))) rfl rfl (fun E q => w__law_draw.2 P w K mg base ca 1 E q ⟨z_int, rfl, by decide, by decide⟩ ⟨z_len, rfl, by decide, by decide⟩ (e__law_mixed.callee (by decide)))
theorem f__law_draw {P : Program} {w : World} {K : PySem.W.Frag} {mg : Str → Option Value} {base : Heap} {ca : Nat → Addr} {f : Addr} {fd : FuncData} (T : TopFn K mg "_law_draw" s__law_draw ["pool", "base"] f fd) (z_int : mg "int" = none) (z_len : mg "len" = none) (e__law_mixed : Ex P w K mg base "_law_mixed" (spOf K ca (.cons tI (.one tI)) tI m__law_mixed) 1) : Ex P w K mg base "_law_draw" (spIO K ca (cR (.cons (tL tI) (.cons tI (.cons tI (.one tI))))) (.one tI) tI m__law_draw) 2 :=
  ⟨f, fd, ["pool", "base"], g__law_draw T z_int z_len e__law_mixed, T.hm, T.F.kp, T.bd⟩
abbrev s__law_dot : Stmt := topS 25
abbrev N__law_dot : List Str := ["one", "two", "total", "k"]
theorem sc__law_dot : FnScope N__law_dot ["one", "two"] (defScope s__law_dot) := ⟨rfl, rfl, rfl, by decide +kernel, rfl, by decide +kernel, by decide +kernel⟩
def w__law_dot : {f : _ → Rs (Fl Int _ Unit) // ∀ (P : Program) (w : World) (K : PySem.W.Frag) (mg : Str → Option Value) (base : Heap) (ca : Nat → Addr) (k : Nat) (E : XK) (b_range : Bm mg "range" (.type "range")) (b_len : Bm mg "len" (.builtin "len")), SXs (ambOf P w K mg base N__law_dot s__law_dot k E) ca (defBody s__law_dot) (.cons (.val (tL tI)) (.cons (.val (tL tI)) (.cons .any (.cons .any .nil)))) (.cons (.val (tL tI)) (.cons (.val (tL tI)) (.cons .any (.cons .any .nil)))) .nil (rVal K tI) f} :=
  ⟨_, fun P w K mg base ca k E b_range b_len =>
    (SXs.cons (SX.setP (lob rfl rfl) rfl PX.int (Put.s (Put.s Put.z))) (SXs.cons (SX.forP (IX.range1 (Bm.at b_range rfl) (PX.lenL (Bm.at b_len rfl) (BX.tl (PX.var At.z rfl (vb rfl))))) (GX.name (PutV.s (PutV.s (PutV.s PutV.any))) rfl (lob rfl rfl)) (SXs.post (SXs.cons (SX.setP (lob rfl rfl) rfl (PX.add (PX.var (At.s (At.s At.z)) rfl (vb rfl)) (PX.mul (PX.ixL (fun _ _ => rfl) (BX.tl (PX.var At.z rfl (vb rfl))) (PX.var (At.s (At.s (At.s At.z))) rfl (vb rfl))) (PX.ixL (fun _ _ => rfl) (BX.tl (PX.var (At.s At.z) rfl (vb rfl))) (PX.var (At.s (At.s (At.s At.z))) rfl (vb rfl))))) (Put.s (Put.s Put.z))) SXs.nil) (Wk.cons Cv.same (Wk.cons Cv.same (Wk.cons Cv.same (Wk.cons Cv.drop Wk.nil)))))) (SX.one (SX.retP (PX.var (At.s (At.s At.z)) rfl (vb rfl))))))⟩
def m__law_dot (u : (List Int) × (List Int)) : Rs Int := (w__law_dot.1 (u.1, (u.2, ((), ((), ()))))).bind (endM (fun _ => .bad))
theorem g__law_dot {P : Program} {w : World} {K : PySem.W.Frag} {mg : Str → Option Value} {base : Heap} {ca : Nat → Addr} {f : Addr} {fd : FuncData} (T : TopFn K mg "_law_dot" s__law_dot ["one", "two"] f fd) (z_range : mg "range" = none) (z_len : mg "len" = none) : FnOk P w K mg base (L2.CX P w) 1 f fd ["one", "two"] (spOf K ca (.cons (tL tI) (.one (tL tI))) tI m__law_dot) :=
  fn_mk (m := 2) (dn := fun _ => .bad) T.F sc__law_dot (Ini.cons (Ini.one (Anys.s (Anys.s Anys.nil)))) rfl rfl (fun E => w__law_dot.2 P w K mg base ca 0 E ⟨z_range, rfl, by decide, by decide⟩ ⟨z_len, rfl, by decide, by decide⟩)
theorem f__law_dot {P : Program} {w : World} {K : PySem.W.Frag} {mg : Str → Option Value} {base : Heap} {ca : Nat → Addr} {f : Addr} {fd : FuncData} (T : TopFn K mg "_law_dot" s__law_dot ["one", "two"] f fd) (z_range : mg "range" = none) (z_len : mg "len" = none) : Ex P w K mg base "_law_dot" (spOf K ca (.cons (tL tI) (.one (tL tI))) tI m__law_dot) 1 :=
  ⟨f, fd, ["one", "two"], g__law_dot T z_range z_len, T.hm, T.F.kp, T.bd⟩
def w__law_dotT : {f : _ → Rs (Fl Int _ Unit) // ∀ (P : Program) (w : World) (K : PySem.W.Frag) (mg : Str → Option Value) (base : Heap) (ca : Nat → Addr) (k : Nat) (E : XK) (b_range : Bm mg "range" (.type "range")) (b_len : Bm mg "len" (.builtin "len")), SXs (ambOf P w K mg base N__law_dot s__law_dot k E) ca (defBody s__law_dot) (.cons (.val (tL tI)) (.cons (.val (tT tI)) (.cons .any (.cons .any .nil)))) (.cons (.val (tL tI)) (.cons (.val (tT tI)) (.cons .any (.cons .any .nil)))) .nil (rVal K tI) f} :=
  ⟨_, fun P w K mg base ca k E b_range b_len =>
    (SXs.cons (SX.setP (lob rfl rfl) rfl PX.int (Put.s (Put.s Put.z))) (SXs.cons (SX.forP (IX.range1 (Bm.at b_range rfl) (PX.lenL (Bm.at b_len rfl) (BX.tl (PX.var At.z rfl (vb rfl))))) (GX.name (PutV.s (PutV.s (PutV.s PutV.any))) rfl (lob rfl rfl)) (SXs.post (SXs.cons (SX.setP (lob rfl rfl) rfl (PX.add (PX.var (At.s (At.s At.z)) rfl (vb rfl)) (PX.mul (PX.ixL (fun _ _ => rfl) (BX.tl (PX.var At.z rfl (vb rfl))) (PX.var (At.s (At.s (At.s At.z))) rfl (vb rfl))) (PX.ixT (fun _ _ => rfl) (PX.var (At.s At.z) rfl (vb rfl)) (PX.var (At.s (At.s (At.s At.z))) rfl (vb rfl))))) (Put.s (Put.s Put.z))) SXs.nil) (Wk.cons Cv.same (Wk.cons Cv.same (Wk.cons Cv.same (Wk.cons Cv.drop Wk.nil)))))) (SX.one (SX.retP (PX.var (At.s (At.s At.z)) rfl (vb rfl))))))⟩
def m__law_dotT (u : (List Int) × (List Int)) : Rs Int := (w__law_dotT.1 (u.1, (u.2, ((), ((), ()))))).bind (endM (fun _ => .bad))
theorem g__law_dotT {P : Program} {w : World} {K : PySem.W.Frag} {mg : Str → Option Value} {base : Heap} {ca : Nat → Addr} {f : Addr} {fd : FuncData} (T : TopFn K mg "_law_dot" s__law_dot ["one", "two"] f fd) (z_range : mg "range" = none) (z_len : mg "len" = none) : FnOk P w K mg base (L2.CX P w) 1 f fd ["one", "two"] (spOf K ca (.cons (tL tI) (.one (tT tI))) tI m__law_dotT) :=
  fn_mk (m := 2) (dn := fun _ => .bad) T.F sc__law_dot (Ini.cons (Ini.one (Anys.s (Anys.s Anys.nil)))) rfl rfl (fun E => w__law_dotT.2 P w K mg base ca 0 E ⟨z_range, rfl, by decide, by decide⟩ ⟨z_len, rfl, by decide, by decide⟩)
theorem f__law_dotT {P : Program} {w : World} {K : PySem.W.Frag} {mg : Str → Option Value} {base : Heap} {ca : Nat → Addr} {f : Addr} {fd : FuncData} (T : TopFn K mg "_law_dot" s__law_dot ["one", "two"] f fd) (z_range : mg "range" = none) (z_len : mg "len" = none) : Ex P w K mg base "_law_dot" (spOf K ca (.cons (tL tI) (.one (tT tI))) tI m__law_dotT) 1 :=
  ⟨f, fd, ["one", "two"], g__law_dotT T z_range z_len, T.hm, T.F.kp, T.bd⟩
abbrev s__law_cross : Stmt := topS 26
abbrev N__law_cross : List Str := ["one", "two", "first", "second"]
theorem sc__law_cross : FnScope N__law_cross ["one", "two"] (defScope s__law_cross) := ⟨rfl, rfl, rfl, by decide +kernel, rfl, by decide +kernel, by decide +kernel⟩
def w__law_cross : {f : _ → Rs (Fl (List Int) _ Unit) // ∀ (P : Program) (w : World) (K : PySem.W.Frag) (mg : Str → Option Value) (base : Heap) (ca : Nat → Addr) (k : Nat) (E : XK), SXs (ambOf P w K mg base N__law_cross s__law_cross k E) ca (defBody s__law_cross) (.cons (.val (tL tI)) (.cons (.val (tL tI)) (.cons .any (.cons .any .nil)))) (.cons (.val (tL tI)) (.cons (.val (tL tI)) (.cons .any (.cons .any .nil)))) .nil (rVal K (tL tI)) f} :=
  ⟨_, fun P w K mg base ca k E =>
    (SXs.cons (SX.setP (lob rfl rfl) rfl (PX.sub (PX.mul (PX.ixL (fun _ _ => rfl) (BX.tl (PX.var At.z rfl (vb rfl))) PX.int) (PX.ixL (fun _ _ => rfl) (BX.tl (PX.var (At.s At.z) rfl (vb rfl))) PX.int)) (PX.mul (PX.ixL (fun _ _ => rfl) (BX.tl (PX.var At.z rfl (vb rfl))) PX.int) (PX.ixL (fun _ _ => rfl) (BX.tl (PX.var (At.s At.z) rfl (vb rfl))) PX.int))) (Put.s (Put.s Put.z))) (SXs.cons (SX.setP (lob rfl rfl) rfl (PX.sub (PX.mul (PX.ixL (fun _ _ => rfl) (BX.tl (PX.var At.z rfl (vb rfl))) PX.int) (PX.ixL (fun _ _ => rfl) (BX.tl (PX.var (At.s At.z) rfl (vb rfl))) PX.int)) (PX.mul (PX.ixL (fun _ _ => rfl) (BX.tl (PX.var At.z rfl (vb rfl))) PX.int) (PX.ixL (fun _ _ => rfl) (BX.tl (PX.var (At.s At.z) rfl (vb rfl))) PX.int))) (Put.s (Put.s (Put.s Put.z)))) (SX.one (SX.retP (PX.tl (PL.lst (τ := tI) (PIs.cons (PX.var (At.s (At.s At.z)) rfl (vb rfl)) (PIs.cons (PX.var (At.s (At.s (At.s At.z))) rfl (vb rfl)) (PIs.cons (PX.sub (PX.mul (PX.ixL (fun _ _ => rfl) (BX.tl (PX.var At.z rfl (vb rfl))) PX.int) (PX.ixL (fun _ _ => rfl) (BX.tl (PX.var (At.s At.z) rfl (vb rfl))) PX.int)) (PX.mul (PX.ixL (fun _ _ => rfl) (BX.tl (PX.var At.z rfl (vb rfl))) PX.int) (PX.ixL (fun _ _ => rfl) (BX.tl (PX.var (At.s At.z) rfl (vb rfl))) PX.int))) PIs.nil)))))))))⟩
def m__law_cross (u : (List Int) × (List Int)) : Rs (List Int) := (w__law_cross.1 (u.1, (u.2, ((), ((), ()))))).bind (endM (fun _ => .bad))
theorem g__law_cross {P : Program} {w : World} {K : PySem.W.Frag} {mg : Str → Option Value} {base : Heap} {ca : Nat → Addr} {f : Addr} {fd : FuncData} (T : TopFn K mg "_law_cross" s__law_cross ["one", "two"] f fd) : FnOk P w K mg base (L2.CX P w) 1 f fd ["one", "two"] (spOf K ca (.cons (tL tI) (.one (tL tI))) (tL tI) m__law_cross) :=
  fn_mk (m := 2) (dn := fun _ => .bad) T.F sc__law_cross (Ini.cons (Ini.one (Anys.s (Anys.s Anys.nil)))) rfl rfl (fun E => w__law_cross.2 P w K mg base ca 0 E)
theorem f__law_cross {P : Program} {w : World} {K : PySem.W.Frag} {mg : Str → Option Value} {base : Heap} {ca : Nat → Addr} {f : Addr} {fd : FuncData} (T : TopFn K mg "_law_cross" s__law_cross ["one", "two"] f fd) : Ex P w K mg base "_law_cross" (spOf K ca (.cons (tL tI) (.one (tL tI))) (tL tI) m__law_cross) 1 :=
  ⟨f, fd, ["one", "two"], g__law_cross T, T.hm, T.F.kp, T.bd⟩
abbrev s__law_rays : Stmt := topS 27
abbrev N__law_rays : List Str := ["rows", "planes", "flat", "rays", "i", "j", "ray", "sign", "told", "row", "k", "number"]
theorem sc__law_rays : FnScope N__law_rays ["rows"] (defScope s__law_rays) := ⟨rfl, rfl, rfl, by decide +kernel, rfl, by decide +kernel, by decide +kernel⟩
def w__law_rays : {f : _ → Rs (Fl (List (List Int)) _ Unit) // ∀ (P : Program) (w : World) (K : PySem.W.Frag) (mg : Str → Option Value) (base : Heap) (ca : Nat → Addr) (k : Nat) (E : XK) (b_list : Bm mg "list" (.type "list")) (b_range : Bm mg "range" (.type "range")) (b_len : Bm mg "len" (.builtin "len")) (b_min : Bm mg "min" (.builtin "min")) (b_max : Bm mg "max" (.builtin "max")) (c__law_cross : Callee (ambOf P w K mg base N__law_rays s__law_rays k E) ca "_law_cross" (.cons (tL tI) (.one (tL tI))) (tL tI) m__law_cross) (c__law_dot : Callee (ambOf P w K mg base N__law_rays s__law_rays k E) ca "_law_dot" (.cons (tL tI) (.one (tL tI))) tI m__law_dot), SXs (ambOf P w K mg base N__law_rays s__law_rays k E) ca (defBody s__law_rays) (.cons (.val (tL (tL tI))) (.cons .any (.cons .any (.cons .any (.cons .any (.cons .any (.cons .any (.cons .any (.cons .any (.cons .any (.cons .any (.cons .any .nil)))))))))))) (.cons (.val (tL (tL tI))) (.cons .any (.cons .any (.cons .any (.cons .any (.cons .any (.cons .any (.cons .any (.cons .any (.cons .any (.cons .any (.cons .any .nil)))))))))))) .nil (rVal K (tL (tL tI))) f} :=
  ⟨_, fun P w K mg base ca k E b_list b_range b_len b_min b_max c__law_cross c__law_dot =>
    (SXs.cons (SX.setPcV [("row", 9)] rfl rfl rfl rfl rfl (IX.ib (IX.list (PX.var At.z rfl (vb rfl)))) rfl (Wp.cons Wp.nil (Put.s (Put.s (Put.s (Put.s (Put.s (Put.s (Put.s (Put.s (Put.s Put.z)))))))))) (GX.name (PutV.s (PutV.s (PutV.s (PutV.s (PutV.s (PutV.s (PutV.s (PutV.s (PutV.s PutV.any))))))))) rfl (lobb rfl)) (by decide) PTz.nil (PX.tl (PL.cat (PL.bx (PL.listL (Bm.at b_list (gl_blk rfl)) (BX.tl (PX.var (At.s (At.s (At.s (At.s (At.s (At.s (At.s (At.s (At.s At.z))))))))) rfl (vbb rfl))))) (PL.bx (PL.lc [("k", 10)] (IX.ib (IX.range1 (Bm.at b_range (gl_blk rfl)) (PX.sub PX.int (PX.lenL (Bm.at b_len (gl_blk rfl)) (BX.tl (PX.var (At.s (At.s (At.s (At.s (At.s (At.s (At.s (At.s (At.s At.z))))))))) rfl (vbb rfl))))))) rfl (Wp.cons Wp.nil (Put.s (Put.s (Put.s (Put.s (Put.s (Put.s (Put.s (Put.s (Put.s (Put.s Put.z))))))))))) (GX.name (PutV.s (PutV.s (PutV.s (PutV.s (PutV.s (PutV.s (PutV.s (PutV.s (PutV.s (PutV.s PutV.any)))))))))) rfl (lobb rfl)) (by decide) PTz.nil PX.int)))) (Put.s Put.z)) (SXs.cons (SX.setP (lob rfl rfl) rfl (PX.tl (PL.cat (BX.tl (PX.var (At.s At.z) rfl (vb rfl))) (PL.bx (PL.lst (τ := (tL tI)) (PIs.cons (PX.tl (PL.lst (τ := tI) (PIs.cons PX.int (PIs.cons PX.int (PIs.cons PX.int PIs.nil))))) (PIs.cons (PX.tl (PL.lst (τ := tI) (PIs.cons PX.int (PIs.cons PX.int (PIs.cons PX.int PIs.nil))))) (PIs.cons (PX.tl (PL.lst (τ := tI) (PIs.cons PX.int (PIs.cons PX.int (PIs.cons PX.int PIs.nil))))) PIs.nil))))))) (Put.s (Put.s Put.z))) (SXs.cons (SX.setOP (lob rfl rfl) rfl (PL.lst (τ := (tL tI)) PIs.nil) (Put.s (Put.s (Put.s Put.z)))) (SXs.cons (SX.forP (IX.range1 (Bm.at b_range rfl) (PX.lenL (Bm.at b_len rfl) (BX.tl (PX.var (At.s (At.s At.z)) rfl (vb rfl))))) (GX.name (PutV.s (PutV.s (PutV.s (PutV.s PutV.any)))) rfl (lob rfl rfl)) (SXs.post (SXs.cons (SX.forP (IX.range1 (Bm.at b_range rfl) (PX.var (At.s (At.s (At.s (At.s At.z)))) rfl (vb rfl))) (GX.name (PutV.s (PutV.s (PutV.s (PutV.s (PutV.s PutV.any))))) rfl (lob rfl rfl)) (SXs.post (SXs.cons (SX.setP (lob rfl rfl) rfl (PX.call c__law_cross rfl (PAs.cons (PX.ixL (fun _ _ => rfl) (BX.tl (PX.var (At.s (At.s At.z)) rfl (vb rfl))) (PX.var (At.s (At.s (At.s (At.s (At.s At.z))))) rfl (vb rfl))) (PAs.one (PX.ixL (fun _ _ => rfl) (BX.tl (PX.var (At.s (At.s At.z)) rfl (vb rfl))) (PX.var (At.s (At.s (At.s (At.s At.z)))) rfl (vb rfl)))))) (Put.s (Put.s (Put.s (Put.s (Put.s (Put.s Put.z))))))) (SXs.cons (SX.forP (IX.list (PX.tl (PL.lst (τ := tI) (PIs.cons PX.int (PIs.cons (PX.neg PX.int) PIs.nil))))) (GX.name (PutV.s (PutV.s (PutV.s (PutV.s (PutV.s (PutV.s (PutV.s PutV.any))))))) rfl (lob rfl rfl)) (SXs.post (SXs.cons (SX.setP (lob rfl rfl) rfl (PX.tl (PL.lc [("number", 11)] (IX.ib (IX.list (PX.var (At.s (At.s (At.s (At.s (At.s (At.s At.z)))))) rfl (vb rfl)))) rfl (Wp.cons Wp.nil (Put.s (Put.s (Put.s (Put.s (Put.s (Put.s (Put.s (Put.s (Put.s (Put.s (Put.s Put.z)))))))))))) (GX.name (PutV.s (PutV.s (PutV.s (PutV.s (PutV.s (PutV.s (PutV.s (PutV.s (PutV.s (PutV.s (PutV.s PutV.any))))))))))) rfl (lobb rfl)) (by decide) PTz.nil (PX.mul (PX.var (At.s (At.s (At.s (At.s (At.s (At.s (At.s At.z))))))) rfl (vbb rfl)) (PX.var (At.s (At.s (At.s (At.s (At.s (At.s (At.s (At.s (At.s (At.s (At.s At.z))))))))))) rfl (vbb rfl))))) (Put.s (Put.s (Put.s (Put.s (Put.s (Put.s (Put.s (Put.s Put.z)))))))) (sw_cell rfl)) (SXs.cons (SX.iteP (PBw.pb (PB.and (PB.ge (PX.minL (Bm.at b_min rfl) (BX.tl (PX.var (At.s (At.s (At.s (At.s (At.s (At.s (At.s (At.s At.z)))))))) rfl (vb rfl)))) PX.int) (PB.and (PB.gt (PX.maxL (Bm.at b_max rfl) (BX.tl (PX.var (At.s (At.s (At.s (At.s (At.s (At.s (At.s (At.s At.z)))))))) rfl (vb rfl)))) PX.int) (PB.and1 (PB.eqI (PX.maxL (Bm.at b_max rfl) (PL.bx (PL.cat (PL.bx (PL.lst (τ := tI) (PIs.cons PX.int PIs.nil))) (PL.bx (PL.lc [("row", 9)] (IX.ib (IX.list (PX.var (At.s At.z) rfl (vb rfl)))) rfl (Wp.cons Wp.nil (Put.s (Put.s (Put.s (Put.s (Put.s (Put.s (Put.s (Put.s (Put.s Put.z)))))))))) (GX.name (PutV.s (PutV.s (PutV.s (PutV.s (PutV.s (PutV.s (PutV.s (PutV.s (PutV.s PutV.any))))))))) rfl (lobb rfl)) (by decide) PTz.nil (PX.call (callee_blk c__law_dot) (gl_blk rfl) (PAs.cons (PX.var (At.s (At.s (At.s (At.s (At.s (At.s (At.s (At.s (At.s At.z))))))))) rfl (vbb rfl)) (PAs.one (PX.var (At.s (At.s (At.s (At.s (At.s (At.s (At.s (At.s At.z)))))))) rfl (vbb rfl)))))))))) PX.int))))) (SXs.cons (SX.expr (EX.append (Wr.s (Wr.s (Wr.s Wr.z))) rfl (vb rfl) (PX.ex (PX.var (At.s (At.s (At.s (At.s (At.s (At.s (At.s (At.s At.z)))))))) rfl (vb rfl))) ⟨_, _, (Wr.s (Wr.s (Wr.s Wr.z)))⟩)) SXs.nil) SXs.nil) SXs.nil)) (Wk.cons Cv.same (Wk.cons Cv.same (Wk.cons Cv.same (Wk.cons Cv.same (Wk.cons Cv.same (Wk.cons Cv.same (Wk.cons Cv.same (Wk.cons Cv.drop (Wk.cons Cv.drop (Wk.cons Cv.same (Wk.cons Cv.same (Wk.cons Cv.same Wk.nil)))))))))))))) SXs.nil)) (Wk.cons Cv.same (Wk.cons Cv.same (Wk.cons Cv.same (Wk.cons Cv.same (Wk.cons Cv.same (Wk.cons Cv.drop (Wk.cons Cv.drop (Wk.cons Cv.same (Wk.cons Cv.same (Wk.cons Cv.same (Wk.cons Cv.same (Wk.cons Cv.same Wk.nil)))))))))))))) SXs.nil) (Wk.cons Cv.same (Wk.cons Cv.same (Wk.cons Cv.same (Wk.cons Cv.same (Wk.cons Cv.drop (Wk.cons Cv.same (Wk.cons Cv.same (Wk.cons Cv.same (Wk.cons Cv.same (Wk.cons Cv.same (Wk.cons Cv.same (Wk.cons Cv.same Wk.nil)))))))))))))) (SX.one (SX.pre (Wk.cons Cv.same (Wk.cons Cv.same (Wk.cons Cv.same (Wk.cons Cv.freeze (Wk.cons Cv.same (Wk.cons Cv.same (Wk.cons Cv.same (Wk.cons Cv.same (Wk.cons Cv.same (Wk.cons Cv.same (Wk.cons Cv.same (Wk.cons Cv.same Wk.nil)))))))))))) (SX.retP (PX.var (At.s (At.s (At.s At.z))) rfl (vb rfl)))))))))⟩
def m__law_rays (u : (List (List Int))) : Rs (List (List Int)) := (w__law_rays.1 (u, ((), ((), ((), ((), ((), ((), ((), ((), ((), ((), ((), ()))))))))))))).bind (endM (fun _ => .bad))
theorem g__law_rays {P : Program} {w : World} {K : PySem.W.Frag} {mg : Str → Option Value} {base : Heap} {ca : Nat → Addr} {f : Addr} {fd : FuncData} (T : TopFn K mg "_law_rays" s__law_rays ["rows"] f fd) (z_list : mg "list" = none) (z_range : mg "range" = none) (z_len : mg "len" = none) (z_min : mg "min" = none) (z_max : mg "max" = none) (e__law_cross : Ex P w K mg base "_law_cross" (spOf K ca (.cons (tL tI) (.one (tL tI))) (tL tI) m__law_cross) 1) (e__law_dot : Ex P w K mg base "_law_dot" (spOf K ca (.cons (tL tI) (.one (tL tI))) tI m__law_dot) 1) : FnOk P w K mg base (L2.CX P w) 2 f fd ["rows"] (spOf K ca (.one (tL (tL tI))) (tL (tL tI)) m__law_rays) :=
  fn_mk (m := 11) (dn := fun _ => .bad) T.F sc__law_rays (Ini.one (Anys.s (Anys.s (Anys.s (Anys.s (Anys.s (Anys.s (Anys.s (Anys.s (Anys.s (Anys.s (Anys.s Anys.nil)))))))))))) rfl rfl (fun E => w__law_rays.2 P w K mg base ca 1 E ⟨z_list, rfl, by decide, by decide⟩ ⟨z_range, rfl, by decide, by decide⟩ ⟨z_len, rfl, by decide, by decide⟩ ⟨z_min, rfl, by decide, by decide⟩ ⟨z_max, rfl, by decide, by decide⟩ (e__law_cross.callee (by decide)) (e__law_dot.callee (by decide)))
theorem f__law_rays {P : Program} {w : World} {K : PySem.W.Frag} {mg : Str → Option Value} {base : Heap} {ca : Nat → Addr} {f : Addr} {fd : FuncData} (T : TopFn K mg "_law_rays" s__law_rays ["rows"] f fd) (z_list : mg "list" = none) (z_range : mg "range" = none) (z_len : mg "len" = none) (z_min : mg "min" = none) (z_max : mg "max" = none) (e__law_cross : Ex P w K mg base "_law_cross" (spOf K ca (.cons (tL tI) (.one (tL tI))) (tL tI) m__law_cross) 1) (e__law_dot : Ex P w K mg base "_law_dot" (spOf K ca (.cons (tL tI) (.one (tL tI))) tI m__law_dot) 1) : Ex P w K mg base "_law_rays" (spOf K ca (.one (tL (tL tI))) (tL (tL tI)) m__law_rays) 2 :=
  ⟨f, fd, ["rows"], g__law_rays T z_list z_range z_len z_min z_max e__law_cross e__law_dot, T.hm, T.F.kp, T.bd⟩
abbrev s__law_number : Stmt := topS 28
abbrev N__law_number : List Str := ["pool", "most", "digit"]
theorem sc__law_number : FnScope N__law_number ["pool", "most"] (defScope s__law_number) := ⟨rfl, rfl, rfl, by decide +kernel, rfl, by decide +kernel, by decide +kernel⟩
def w__law_number : {f : _ → Rs (Fl (Int × ((List Int) × Int × Int × Int)) _ Unit) // ∀ (P : Program) (w : World) (K : PySem.W.Frag) (mg : Str → Option Value) (base : Heap) (ca : Nat → Addr) (k : Nat) (E : XK) (q : Addr) (b_int : Bm mg "int" (.type "int")) (c__law_draw : CalleeIO (ambOf P w K mg base N__law_number s__law_number k E) ca "_law_draw" (cR (.cons (tL tI) (.cons tI (.cons tI (.one tI))))) (.one tI) tI m__law_draw), SXs (ambOf P w K mg base N__law_number s__law_number k E) ca (defBody s__law_number) (.cons (.own (some q) (cR (.cons (tL tI) (.cons tI (.cons tI (.one tI)))))) (.cons (.val tI) (.cons .any .nil))) (.cons (.own (some q) (cR (.cons (tL tI) (.cons tI (.cons tI (.one tI)))))) (.cons (.val tI) (.cons .any .nil))) .nil (rIO K q (cR (.cons (tL tI) (.cons tI (.cons tI (.one tI))))) tI) f} :=
  ⟨_, fun P w K mg base ca k E q b_int c__law_draw =>
    (SXs.cons (SX.set (k := 0) (lob rfl rfl) rfl (EX.callIO c__law_draw rfl Wr.z rfl (vb rfl) (PAs.one (PX.add (PX.mul PX.int (PX.var (At.s At.z) rfl (vb rfl))) PX.int))) (Put.s (Put.s Put.z))) (SXs.cons (SX.iteP (PB.eqI (PX.mod (PX.toInt (Bm.at b_int rfl) (PX.var (At.s (At.s At.z)) rfl (vb rfl))) PX.int) PX.int) (SX.one (SX.retIOA (PX.ex (PX.fdiv (PX.add (PX.var (At.s (At.s At.z)) rfl (vb rfl)) PX.int) PX.int)) At.z)) SXs.nil) (SX.one (SX.retIOA (PX.ex (PX.sub PX.int (PX.fdiv (PX.var (At.s (At.s At.z)) rfl (vb rfl)) PX.int))) At.z))))⟩
def m__law_number (u : ((List Int) × Int × Int × Int) × Int) : Rs (Int × ((List Int) × Int × Int × Int)) := (w__law_number.1 (u.1, (u.2, ((), ())))).bind (endM (fun _ => .bad))
theorem g__law_number {P : Program} {w : World} {K : PySem.W.Frag} {mg : Str → Option Value} {base : Heap} {ca : Nat → Addr} {f : Addr} {fd : FuncData} (T : TopFn K mg "_law_number" s__law_number ["pool", "most"] f fd) (z_int : mg "int" = none) (e__law_draw : Ex P w K mg base "_law_draw" (spIO K ca (cR (.cons (tL tI) (.cons tI (.cons tI (.one tI))))) (.one tI) tI m__law_draw) 2) : FnOk P w K mg base (L2.CX P w) 3 f fd ["pool", "most"] (spIO K ca (cR (.cons (tL tI) (.cons tI (.cons tI (.one tI))))) (.one tI) tI m__law_number) :=
  fnIO_mk (m := 1) T.F sc__law_number (fun q => IniO.mk' (Ini.one (Anys.s Anys.nil))) rfl rfl (fun E q => w__law_number.2 P w K mg base ca 2 E q ⟨z_int, rfl, by decide, by decide⟩ (e__law_draw.calleeIO (by decide)))
theorem f__law_number {P : Program} {w : World} {K : PySem.W.Frag} {mg : Str → Option Value} {base : Heap} {ca : Nat → Addr} {f : Addr} {fd : FuncData} (T : TopFn K mg "_law_number" s__law_number ["pool", "most"] f fd) (z_int : mg "int" = none) (e__law_draw : Ex P w K mg base "_law_draw" (spIO K ca (cR (.cons (tL tI) (.cons tI (.cons tI (.one tI))))) (.one tI) tI m__law_draw) 2) : Ex P w K mg base "_law_number" (spIO K ca (cR (.cons (tL tI) (.cons tI (.cons tI (.one tI))))) (.one tI) tI m__law_number) 3 :=
  ⟨f, fd, ["pool", "most"], g__law_number T z_int e__law_draw, T.hm, T.F.kp, T.bd⟩
abbrev s__law_drawn : Stmt := topS 29
abbrev N__law_drawn : List Str := ["pool", "turned", "length", "most", "numbers", "rows", "turn", "row", "over", "at", "rays", "k", "number", "ray"]
theorem sc__law_drawn : FnScope N__law_drawn ["pool", "turned"] (defScope s__law_drawn) := ⟨rfl, rfl, rfl, by decide +kernel, rfl, by decide +kernel, by decide +kernel⟩
def w__law_drawn : {f : _ → Rs (Fl (((List (List Int)) × (List Bool)) × ((List Int) × Int × Int × Int)) _ Unit) // ∀ (P : Program) (w : World) (K : PySem.W.Frag) (mg : Str → Option Value) (base : Heap) (ca : Nat → Addr) (k : Nat) (E : XK) (q : Addr) (b_range : Bm mg "range" (.type "range")) (b_max : Bm mg "max" (.builtin "max")) (b_abs : Bm mg "abs" (.builtin "abs")) (c__law_draw : CalleeIO (ambOf P w K mg base N__law_drawn s__law_drawn k E) ca "_law_draw" (cR (.cons (tL tI) (.cons tI (.cons tI (.one tI))))) (.one tI) tI m__law_draw) (c__law_number : CalleeIO (ambOf P w K mg base N__law_drawn s__law_drawn k E) ca "_law_number" (cR (.cons (tL tI) (.cons tI (.cons tI (.one tI))))) (.one tI) tI m__law_number) (c__law_dot : Callee (ambOf P w K mg base N__law_drawn s__law_drawn k E) ca "_law_dot" (.cons (tL tI) (.one (tL tI))) tI m__law_dot) (c__law_rays : Callee (ambOf P w K mg base N__law_drawn s__law_drawn k E) ca "_law_rays" (.one (tL (tL tI))) (tL (tL tI)) m__law_rays), SXs (ambOf P w K mg base N__law_drawn s__law_drawn k E) ca (defBody s__law_drawn) (.cons (.own (some q) (cR (.cons (tL tI) (.cons tI (.cons tI (.one tI)))))) (.cons (.val tB) (.cons .any (.cons .any (.cons .any (.cons .any (.cons .any (.cons .any (.cons .any (.cons .any (.cons .any (.cons .any (.cons .any (.cons .any .nil)))))))))))))) (.cons (.own (some q) (cR (.cons (tL tI) (.cons tI (.cons tI (.one tI)))))) (.cons (.val tB) (.cons .any (.cons .any (.cons .any (.cons .any (.cons .any (.cons .any (.cons .any (.cons .any (.cons .any (.cons .any (.cons .any (.cons .any .nil)))))))))))))) .nil (rIO K q (cR (.cons (tL tI) (.cons tI (.cons tI (.one tI))))) (tLup (.cons (tL (tL tI)) (.one (tL tB))))) f} :=
  ⟨_, fun P w K mg base ca k E q b_range b_max b_abs c__law_draw c__law_number c__law_dot c__law_rays =>
    (SXs.cons (SX.set (k := 0) (lob rfl rfl) rfl (EX.add (PX.ex PX.int) (EX.callIO c__law_draw rfl Wr.z rfl (vb rfl) (PAs.one PX.int))) (Put.s (Put.s Put.z))) (SXs.cons (SX.set (k := 0) (lob rfl rfl) rfl (EX.ixL (fun _ _ => rfl) (PX.tl (PL.lst (τ := tI) (PIs.cons PX.int (PIs.cons PX.int (PIs.cons PX.int PIs.nil))))) (EX.callIO c__law_draw rfl Wr.z rfl (vb rfl) (PAs.one PX.int))) (Put.s (Put.s (Put.s Put.z)))) (SXs.cons (SX.setEcV [("k", 11)] rfl rfl rfl rfl rfl (IX.ei (IX.range1 (Bm.at b_range rfl) (PX.var (At.s (At.s At.z)) rfl (vb rfl)))) rfl (GX.name (PutV.s (PutV.s (PutV.s (PutV.s (PutV.s (PutV.s (PutV.s (PutV.s (PutV.s (PutV.s (PutV.s PutV.any))))))))))) rfl (lobb rfl)) ETz.nil (EX.add (PX.ex PX.int) (EX.callIO (calleeIO_blk c__law_draw) (gl_blk rfl) Wr.z rfl (vbb rfl) (PAs.one PX.int))) (Wp.cons Wp.nil (Put.s (Put.s (Put.s (Put.s (Put.s (Put.s (Put.s (Put.s (Put.s (Put.s (Put.s Put.z)))))))))))) (any_one (AnyAt.s (AnyAt.s (AnyAt.s (AnyAt.s (AnyAt.s (AnyAt.s (AnyAt.s (AnyAt.s (AnyAt.s (AnyAt.s (AnyAt.s AnyAt.z)))))))))))) (by decide) (Put.s (Put.s (Put.s (Put.s Put.z))))) (SXs.cons (SX.setOP (lob rfl rfl) rfl (PL.lst (τ := (tL tI)) PIs.nil) (Put.s (Put.s (Put.s (Put.s (Put.s Put.z)))))) (SXs.cons (SX.forS (EI.range1 (Bm.at b_range rfl) (EX.callIO c__law_draw rfl Wr.z rfl (vb rfl) (PAs.one PX.int))) (GX.name (PutV.s (PutV.s (PutV.s (PutV.s (PutV.s (PutV.s PutV.any)))))) rfl (lob rfl rfl)) (SXs.post (SXs.cons (SX.setEc [("k", 11)] rfl rfl rfl rfl rfl (IX.ei (IX.range1 (Bm.at b_range rfl) (PX.var (At.s (At.s At.z)) rfl (vb rfl)))) rfl (GX.name (PutV.s (PutV.s (PutV.s (PutV.s (PutV.s (PutV.s (PutV.s (PutV.s (PutV.s (PutV.s (PutV.s PutV.any))))))))))) rfl (lobb rfl)) ETz.nil (EX.callIO (calleeIO_blk c__law_number) (gl_blk rfl) Wr.z rfl (vbb rfl) (PAs.one (PX.var (At.s (At.s (At.s At.z))) rfl (vbb rfl)))) (Wp.cons Wp.nil (Put.s (Put.s (Put.s (Put.s (Put.s (Put.s (Put.s (Put.s (Put.s (Put.s (Put.s Put.z)))))))))))) (any_one (AnyAt.s (AnyAt.s (AnyAt.s (AnyAt.s (AnyAt.s (AnyAt.s (AnyAt.s (AnyAt.s (AnyAt.s (AnyAt.s (AnyAt.s AnyAt.z)))))))))))) (by decide) (Put.s (Put.s (Put.s (Put.s (Put.s (Put.s (Put.s Put.z)))))))) (SXs.cons (SX.setP (lob rfl rfl) rfl (PX.callF Flat.int c__law_dot rfl (LAs.cons (LX.tl (BX.var (At.s (At.s (At.s (At.s (At.s (At.s (At.s At.z))))))) rfl (vb rfl))) (LAs.one (PX.lx (PX.var (At.s (At.s (At.s (At.s At.z)))) rfl (vb rfl)))))) (Put.s (Put.s (Put.s (Put.s (Put.s (Put.s (Put.s (Put.s Put.z))))))))) (SXs.cons (SX.iteP (PBw.pb (PB.and (PX.pb (PX.var (At.s At.z) rfl (vb rfl)) (by intros; rfl)) (PB.and1 (PB.gt (PX.var (At.s (At.s (At.s (At.s (At.s (At.s (At.s (At.s At.z)))))))) rfl (vb rfl)) PX.int)))) (SXs.post (SXs.cons (SX.set (k := 0) (lob rfl rfl) rfl (EX.callIO c__law_draw rfl Wr.z rfl (vb rfl) (PAs.one (PX.var (At.s (At.s At.z)) rfl (vb rfl)))) (Put.s (Put.s (Put.s (Put.s (Put.s (Put.s (Put.s (Put.s (Put.s Put.z)))))))))) (SXs.cons (SX.setI (PX.ex (PX.sub (PX.ixL (fun _ _ => rfl) (BX.var (At.s (At.s (At.s (At.s (At.s (At.s (At.s At.z))))))) rfl (vb rfl)) (PX.var (At.s (At.s (At.s (At.s (At.s (At.s (At.s (At.s (At.s At.z))))))))) rfl (vb rfl))) (PX.fdiv (PX.sub (PX.add (PX.var (At.s (At.s (At.s (At.s (At.s (At.s (At.s (At.s At.z)))))))) rfl (vb rfl)) (PX.ixL (fun _ _ => rfl) (BX.tl (PX.var (At.s (At.s (At.s (At.s At.z)))) rfl (vb rfl))) (PX.var (At.s (At.s (At.s (At.s (At.s (At.s (At.s (At.s (At.s At.z))))))))) rfl (vb rfl)))) PX.int) (PX.ixL (fun _ _ => rfl) (BX.tl (PX.var (At.s (At.s (At.s (At.s At.z)))) rfl (vb rfl))) (PX.var (At.s (At.s (At.s (At.s (At.s (At.s (At.s (At.s (At.s At.z))))))))) rfl (vb rfl)))))) (Wr.s (Wr.s (Wr.s (Wr.s (Wr.s (Wr.s (Wr.s Wr.z))))))) rfl (vb rfl) (PX.var (At.s (At.s (At.s (At.s (At.s (At.s (At.s (At.s (At.s At.z))))))))) rfl (vb rfl))) SXs.nil)) (Wk.cons Cv.same (Wk.cons Cv.same (Wk.cons Cv.same (Wk.cons Cv.same (Wk.cons Cv.same (Wk.cons Cv.same (Wk.cons Cv.same (Wk.cons Cv.same (Wk.cons Cv.same (Wk.cons Cv.drop (Wk.cons Cv.same (Wk.cons Cv.same (Wk.cons Cv.same (Wk.cons Cv.same Wk.nil))))))))))))))) SXs.nil) (SXs.cons (SX.iteP (PB.lt (PX.maxL (Bm.at b_max rfl) (PL.bx (PL.lc [("number", 12)] (IB.list (BX.var (At.s (At.s (At.s (At.s (At.s (At.s (At.s At.z))))))) rfl (vb rfl))) rfl (Wp.cons Wp.nil (Put.s (Put.s (Put.s (Put.s (Put.s (Put.s (Put.s (Put.s (Put.s (Put.s (Put.s (Put.s Put.z))))))))))))) (GX.name (PutV.s (PutV.s (PutV.s (PutV.s (PutV.s (PutV.s (PutV.s (PutV.s (PutV.s (PutV.s (PutV.s (PutV.s PutV.any)))))))))))) rfl (lobb rfl)) (by decide) PTz.nil (PX.abs (Bm.at b_abs (gl_blk rfl)) (PX.var (At.s (At.s (At.s (At.s (At.s (At.s (At.s (At.s (At.s (At.s (At.s (At.s At.z)))))))))))) rfl (vbb rfl)))))) PX.int) (SXs.post (SXs.cons (SX.pre (Wk.cons Cv.same (Wk.cons Cv.same (Wk.cons Cv.same (Wk.cons Cv.same (Wk.cons Cv.same (Wk.cons Cv.same (Wk.cons Cv.same (Wk.cons Cv.freeze (Wk.cons Cv.same (Wk.cons Cv.same (Wk.cons Cv.same (Wk.cons Cv.same (Wk.cons Cv.same (Wk.cons Cv.same Wk.nil)))))))))))))) (SX.expr (EX.append (Wr.s (Wr.s (Wr.s (Wr.s (Wr.s Wr.z))))) rfl (vb rfl) (PX.ex (PX.var (At.s (At.s (At.s (At.s (At.s (At.s (At.s At.z))))))) rfl (vb rfl))) ⟨_, _, (Wr.s (Wr.s (Wr.s (Wr.s (Wr.s Wr.z)))))⟩))) SXs.nil) (Wk.cons Cv.same (Wk.cons Cv.same (Wk.cons Cv.same (Wk.cons Cv.same (Wk.cons Cv.same (Wk.cons Cv.same (Wk.cons Cv.same (Wk.cons Cv.drop (Wk.cons Cv.same (Wk.cons Cv.same (Wk.cons Cv.same (Wk.cons Cv.same (Wk.cons Cv.same (Wk.cons Cv.same Wk.nil))))))))))))))) (SXs.post SXs.nil (Wk.cons Cv.same (Wk.cons Cv.same (Wk.cons Cv.same (Wk.cons Cv.same (Wk.cons Cv.same (Wk.cons Cv.same (Wk.cons Cv.same (Wk.cons Cv.drop (Wk.cons Cv.same (Wk.cons Cv.same (Wk.cons Cv.same (Wk.cons Cv.same (Wk.cons Cv.same (Wk.cons Cv.same Wk.nil)))))))))))))))) SXs.nil)))) (Wk.cons Cv.same (Wk.cons Cv.same (Wk.cons Cv.same (Wk.cons Cv.same (Wk.cons Cv.same (Wk.cons Cv.same (Wk.cons Cv.drop (Wk.cons Cv.same (Wk.cons Cv.drop (Wk.cons Cv.same (Wk.cons Cv.same (Wk.cons Cv.same (Wk.cons Cv.same (Wk.cons Cv.same Wk.nil)))))))))))))))) (SXs.cons (SX.pre (Wk.cons Cv.same (Wk.cons Cv.same (Wk.cons Cv.same (Wk.cons Cv.same (Wk.cons Cv.same (Wk.cons Cv.freeze (Wk.cons Cv.same (Wk.cons Cv.same (Wk.cons Cv.same (Wk.cons Cv.same (Wk.cons Cv.same (Wk.cons Cv.same (Wk.cons Cv.same (Wk.cons Cv.same Wk.nil)))))))))))))) (SX.setP (lob rfl rfl) rfl (PX.call c__law_rays rfl (PAs.one (PX.var (At.s (At.s (At.s (At.s (At.s At.z))))) rfl (vb rfl)))) (Put.s (Put.s (Put.s (Put.s (Put.s (Put.s (Put.s (Put.s (Put.s (Put.s Put.z)))))))))))) (SX.one (SX.retIOA (PX.ex (PX.tlup (PL.lup (PAs.cons (PX.var (At.s (At.s (At.s (At.s (At.s At.z))))) rfl (vb rfl)) (PAs.one (PX.tl (PL.lc [("k", 11)] (IX.ib (IX.range1 (Bm.at b_range rfl) (PX.var (At.s (At.s At.z)) rfl (vb rfl)))) rfl (Wp.cons Wp.nil (Put.s (Put.s (Put.s (Put.s (Put.s (Put.s (Put.s (Put.s (Put.s (Put.s (Put.s Put.z)))))))))))) (GX.name (PutV.s (PutV.s (PutV.s (PutV.s (PutV.s (PutV.s (PutV.s (PutV.s (PutV.s (PutV.s (PutV.s PutV.any))))))))))) rfl (lobb rfl)) (by decide) PTz.nil (PX.gt (PX.maxL (Bm.at b_max (gl_blk rfl)) (PL.bx (PL.cat (PL.bx (PL.lst (τ := tI) (PIs.cons PX.int PIs.nil))) (PL.bx (PL.lc [("ray", 13)] (IX.ib (IX.list (PX.var (At.s (At.s (At.s (At.s (At.s (At.s (At.s (At.s (At.s (At.s At.z)))))))))) rfl (vbb rfl)))) rfl (Wp.cons Wp.nil (Put.s (Put.s (Put.s (Put.s (Put.s (Put.s (Put.s (Put.s (Put.s (Put.s (Put.s (Put.s (Put.s Put.z)))))))))))))) (GX.name (PutV.s (PutV.s (PutV.s (PutV.s (PutV.s (PutV.s (PutV.s (PutV.s (PutV.s (PutV.s (PutV.s (PutV.s (PutV.s PutV.any))))))))))))) rfl (lobb rfl)) (by decide) PTz.nil (PX.ixL (fun _ _ => rfl) (BX.tl (PX.var (At.s (At.s (At.s (At.s (At.s (At.s (At.s (At.s (At.s (At.s (At.s (At.s (At.s At.z))))))))))))) rfl (vbb rfl))) (PX.var (At.s (At.s (At.s (At.s (At.s (At.s (At.s (At.s (At.s (At.s (At.s At.z))))))))))) rfl (vbb rfl)))))))) PX.int)))))))) At.z))))))))⟩
def m__law_drawn (u : ((List Int) × Int × Int × Int) × Bool) : Rs (((List (List Int)) × (List Bool)) × ((List Int) × Int × Int × Int)) := (w__law_drawn.1 (u.1, (u.2, ((), ((), ((), ((), ((), ((), ((), ((), ((), ((), ((), ((), ()))))))))))))))).bind (endM (fun _ => .bad))
theorem g__law_drawn {P : Program} {w : World} {K : PySem.W.Frag} {mg : Str → Option Value} {base : Heap} {ca : Nat → Addr} {f : Addr} {fd : FuncData} (T : TopFn K mg "_law_drawn" s__law_drawn ["pool", "turned"] f fd) (z_range : mg "range" = none) (z_max : mg "max" = none) (z_abs : mg "abs" = none) (e__law_draw : Ex P w K mg base "_law_draw" (spIO K ca (cR (.cons (tL tI) (.cons tI (.cons tI (.one tI))))) (.one tI) tI m__law_draw) 2) (e__law_number : Ex P w K mg base "_law_number" (spIO K ca (cR (.cons (tL tI) (.cons tI (.cons tI (.one tI))))) (.one tI) tI m__law_number) 3) (e__law_dot : Ex P w K mg base "_law_dot" (spOf K ca (.cons (tL tI) (.one (tL tI))) tI m__law_dot) 1) (e__law_rays : Ex P w K mg base "_law_rays" (spOf K ca (.one (tL (tL tI))) (tL (tL tI)) m__law_rays) 2) : FnOk P w K mg base (L2.CX P w) 4 f fd ["pool", "turned"] (spIO K ca (cR (.cons (tL tI) (.cons tI (.cons tI (.one tI))))) (.one tB) (tLup (.cons (tL (tL tI)) (.one (tL tB)))) m__law_drawn) :=
  fnIO_mk (m := 12) T.F sc__law_drawn (fun q => IniO.mk' (Ini.one (Anys.s (Anys.s (Anys.s (Anys.s (Anys.s (Anys.s (Anys.s (Anys.s (Anys.s (Anys.s (Anys.s (Anys.s Anys.nil)))))))))))))) rfl rfl (fun E q => w__law_drawn.2 P w K mg base ca 3 E q ⟨z_range, rfl, by decide, by decide⟩ ⟨z_max, rfl, by decide, by decide⟩ ⟨z_abs, rfl, by decide, by decide⟩ (e__law_draw.calleeIO (by decide)) (e__law_number.calleeIO (by decide)) (e__law_dot.callee (by decide)) (e__law_rays.callee (by decide)))
theorem f__law_drawn {P : Program} {w : World} {K : PySem.W.Frag} {mg : Str → Option Value} {base : Heap} {ca : Nat → Addr} {f : Addr} {fd : FuncData} (T : TopFn K mg "_law_drawn" s__law_drawn ["pool", "turned"] f fd) (z_range : mg "range" = none) (z_max : mg "max" = none) (z_abs : mg "abs" = none) (e__law_draw : Ex P w K mg base "_law_draw" (spIO K ca (cR (.cons (tL tI) (.cons tI (.cons tI (.one tI))))) (.one tI) tI m__law_draw) 2) (e__law_number : Ex P w K mg base "_law_number" (spIO K ca (cR (.cons (tL tI) (.cons tI (.cons tI (.one tI))))) (.one tI) tI m__law_number) 3) (e__law_dot : Ex P w K mg base "_law_dot" (spOf K ca (.cons (tL tI) (.one (tL tI))) tI m__law_dot) 1) (e__law_rays : Ex P w K mg base "_law_rays" (spOf K ca (.one (tL (tL tI))) (tL (tL tI)) m__law_rays) 2) : Ex P w K mg base "_law_drawn" (spIO K ca (cR (.cons (tL tI) (.cons tI (.cons tI (.one tI))))) (.one tB) (tLup (.cons (tL (tL tI)) (.one (tL tB)))) m__law_drawn) 4 :=
  ⟨f, fd, ["pool", "turned"], g__law_drawn T z_range z_max z_abs e__law_draw e__law_number e__law_dot e__law_rays, T.hm, T.F.kp, T.bd⟩
abbrev s__law_ring : Stmt := topS 30
abbrev N__law_ring : List Str := ["pool", "length", "needs", "rooms", "rows", "above", "under", "k", "row", "j"]
theorem sc__law_ring : FnScope N__law_ring ["pool"] (defScope s__law_ring) := ⟨rfl, rfl, rfl, by decide +kernel, rfl, by decide +kernel, by decide +kernel⟩
def w__law_ring : {f : _ → Rs (Fl (((List (List Int)) × (List Bool)) × ((List Int) × Int × Int × Int)) _ Unit) // ∀ (P : Program) (w : World) (K : PySem.W.Frag) (mg : Str → Option Value) (base : Heap) (ca : Nat → Addr) (k : Nat) (E : XK) (q : Addr) (b_range : Bm mg "range" (.type "range")) (b_int : Bm mg "int" (.type "int")) (c__law_draw : CalleeIO (ambOf P w K mg base N__law_ring s__law_ring k E) ca "_law_draw" (cR (.cons (tL tI) (.cons tI (.cons tI (.one tI))))) (.one tI) tI m__law_draw), SXs (ambOf P w K mg base N__law_ring s__law_ring k E) ca (defBody s__law_ring) (.cons (.own (some q) (cR (.cons (tL tI) (.cons tI (.cons tI (.one tI)))))) (.cons .any (.cons .any (.cons .any (.cons .any (.cons .any (.cons .any (.cons .any (.cons .any (.cons .any .nil)))))))))) (.cons (.own (some q) (cR (.cons (tL tI) (.cons tI (.cons tI (.one tI)))))) (.cons .any (.cons .any (.cons .any (.cons .any (.cons .any (.cons .any (.cons .any (.cons .any (.cons .any .nil)))))))))) .nil (rIO K q (cR (.cons (tL tI) (.cons tI (.cons tI (.one tI))))) (tLup (.cons (tL (tL tI)) (.one (tL tB))))) f} :=
  ⟨_, fun P w K mg base ca k E q b_range b_int c__law_draw =>
    (SXs.cons (SX.set (k := 0) (lob rfl rfl) rfl (EX.add (PX.ex PX.int) (EX.callIO c__law_draw rfl Wr.z rfl (vb rfl) (PAs.one PX.int))) (Put.s Put.z)) (SXs.cons (SX.set (k := 0) (lob rfl rfl) rfl (EX.tl (EL.lc [("k", 7)] (IX.ei (IX.range1 (Bm.at b_range rfl) (PX.var (At.s At.z) rfl (vb rfl)))) rfl (GX.name (PutV.s (PutV.s (PutV.s (PutV.s (PutV.s (PutV.s (PutV.s PutV.any))))))) rfl (lobb rfl)) ETz.nil (EX.add (PX.ex PX.int) (EX.callIO (calleeIO_blk c__law_draw) (gl_blk rfl) Wr.z rfl (vbb rfl) (PAs.one PX.int))) (Wp.cons Wp.nil (Put.s (Put.s (Put.s (Put.s (Put.s (Put.s (Put.s Put.z)))))))) (any_one (AnyAt.s (AnyAt.s (AnyAt.s (AnyAt.s (AnyAt.s (AnyAt.s (AnyAt.s AnyAt.z)))))))) (by decide))) (Put.s (Put.s Put.z)) (sw_cell rfl)) (SXs.cons (SX.setPcV [("k", 7)] rfl rfl rfl rfl rfl (IX.ib (IX.range1 (Bm.at b_range rfl) (PX.var (At.s At.z) rfl (vb rfl)))) rfl (Wp.cons Wp.nil (Put.s (Put.s (Put.s (Put.s (Put.s (Put.s (Put.s Put.z)))))))) (GX.name (PutV.s (PutV.s (PutV.s (PutV.s (PutV.s (PutV.s (PutV.s PutV.any))))))) rfl (lobb rfl)) (by decide) PTz.nil (PX.ixL (fun _ _ => rfl) (BX.tl (PX.var (At.s (At.s At.z)) rfl (vbb rfl))) (PX.sub (PX.var (At.s (At.s (At.s (At.s (At.s (At.s (At.s At.z))))))) rfl (vbb rfl)) PX.int)) (Put.s (Put.s (Put.s Put.z)))) (SXs.cons (SX.ite (EB.eqI (EX.callIO c__law_draw rfl Wr.z rfl (vb rfl) (PAs.one PX.int)) (PX.ex PX.int)) (SXs.cons (SX.setEcV [("k", 7)] rfl rfl rfl rfl rfl (IX.ei (IX.range1 (Bm.at b_range rfl) (PX.var (At.s At.z) rfl (vb rfl)))) rfl (GX.name (PutV.s (PutV.s (PutV.s (PutV.s (PutV.s (PutV.s (PutV.s PutV.any))))))) rfl (lobb rfl)) ETz.nil (EX.add (PX.ex PX.int) (EX.callIO (calleeIO_blk c__law_draw) (gl_blk rfl) Wr.z rfl (vbb rfl) (PAs.one PX.int))) (Wp.cons Wp.nil (Put.s (Put.s (Put.s (Put.s (Put.s (Put.s (Put.s Put.z)))))))) (any_one (AnyAt.s (AnyAt.s (AnyAt.s (AnyAt.s (AnyAt.s (AnyAt.s (AnyAt.s AnyAt.z)))))))) (by decide) (Put.s (Put.s (Put.s Put.z)))) SXs.nil) SXs.nil) (SXs.cons (SX.setOP (lob rfl rfl) rfl (PL.lst (τ := (tL tI)) PIs.nil) (Put.s (Put.s (Put.s (Put.s Put.z))))) (SXs.cons (SX.setP (lob rfl rfl) rfl PX.int (Put.s (Put.s (Put.s (Put.s (Put.s Put.z)))))) (SXs.cons (SX.setP (lob rfl rfl) rfl PX.int (Put.s (Put.s (Put.s (Put.s (Put.s (Put.s Put.z))))))) (SXs.cons (SX.forP (IX.range1 (Bm.at b_range rfl) (PX.var (At.s At.z) rfl (vb rfl))) (GX.name (PutV.s (PutV.s (PutV.s (PutV.s (PutV.s (PutV.s (PutV.s PutV.any))))))) rfl (lob rfl rfl)) (SXs.post (SXs.cons (SX.setPc [("j", 9)] rfl rfl rfl rfl rfl (IX.ib (IX.range1 (Bm.at b_range rfl) (PX.var (At.s At.z) rfl (vb rfl)))) rfl (Wp.cons Wp.nil (Put.s (Put.s (Put.s (Put.s (Put.s (Put.s (Put.s (Put.s (Put.s Put.z)))))))))) (GX.name (PutV.s (PutV.s (PutV.s (PutV.s (PutV.s (PutV.s (PutV.s (PutV.s (PutV.s PutV.any))))))))) rfl (lobb rfl)) (by decide) PTz.nil PX.int (Put.s (Put.s (Put.s (Put.s (Put.s (Put.s (Put.s (Put.s Put.z))))))))) (SXs.cons (SX.setI (PX.ex (PX.add (PX.ixL (fun _ _ => rfl) (BX.var (At.s (At.s (At.s (At.s (At.s (At.s (At.s (At.s At.z)))))))) rfl (vb rfl)) (PX.var (At.s (At.s (At.s (At.s (At.s (At.s (At.s At.z))))))) rfl (vb rfl))) (PX.ixL (fun _ _ => rfl) (BX.tl (PX.var (At.s (At.s At.z)) rfl (vb rfl))) (PX.var (At.s (At.s (At.s (At.s (At.s (At.s (At.s At.z))))))) rfl (vb rfl))))) (Wr.s (Wr.s (Wr.s (Wr.s (Wr.s (Wr.s (Wr.s (Wr.s Wr.z)))))))) rfl (vb rfl) (PX.var (At.s (At.s (At.s (At.s (At.s (At.s (At.s At.z))))))) rfl (vb rfl))) (SXs.cons (SX.setI (PX.ex (PX.sub (PX.ixL (fun _ _ => rfl) (BX.var (At.s (At.s (At.s (At.s (At.s (At.s (At.s (At.s At.z)))))))) rfl (vb rfl)) (PX.mod (PX.toInt (Bm.at b_int rfl) (PX.add (PX.var (At.s (At.s (At.s (At.s (At.s (At.s (At.s At.z))))))) rfl (vb rfl)) PX.int)) (PX.var (At.s At.z) rfl (vb rfl)))) (PX.ixL (fun _ _ => rfl) (BX.tl (PX.var (At.s (At.s (At.s At.z))) rfl (vb rfl))) (PX.var (At.s (At.s (At.s (At.s (At.s (At.s (At.s At.z))))))) rfl (vb rfl))))) (Wr.s (Wr.s (Wr.s (Wr.s (Wr.s (Wr.s (Wr.s (Wr.s Wr.z)))))))) rfl (vb rfl) (PX.mod (PX.toInt (Bm.at b_int rfl) (PX.add (PX.var (At.s (At.s (At.s (At.s (At.s (At.s (At.s At.z))))))) rfl (vb rfl)) PX.int)) (PX.var (At.s At.z) rfl (vb rfl)))) (SXs.cons (SX.pre (Wk.cons Cv.same (Wk.cons Cv.same (Wk.cons Cv.same (Wk.cons Cv.same (Wk.cons Cv.same (Wk.cons Cv.same (Wk.cons Cv.same (Wk.cons Cv.same (Wk.cons Cv.freeze (Wk.cons Cv.same Wk.nil)))))))))) (SX.expr (EX.append (Wr.s (Wr.s (Wr.s (Wr.s Wr.z)))) rfl (vb rfl) (PX.ex (PX.var (At.s (At.s (At.s (At.s (At.s (At.s (At.s (At.s At.z)))))))) rfl (vb rfl))) ⟨_, _, (Wr.s (Wr.s (Wr.s (Wr.s Wr.z))))⟩))) (SXs.cons (SX.setP (lob rfl rfl) rfl (PX.mul (PX.var (At.s (At.s (At.s (At.s (At.s At.z))))) rfl (vb rfl)) (PX.ixL (fun _ _ => rfl) (BX.tl (PX.var (At.s (At.s At.z)) rfl (vb rfl))) (PX.var (At.s (At.s (At.s (At.s (At.s (At.s (At.s At.z))))))) rfl (vb rfl)))) (Put.s (Put.s (Put.s (Put.s (Put.s Put.z)))))) (SXs.cons (SX.setP (lob rfl rfl) rfl (PX.mul (PX.var (At.s (At.s (At.s (At.s (At.s (At.s At.z)))))) rfl (vb rfl)) (PX.ixL (fun _ _ => rfl) (BX.tl (PX.var (At.s (At.s (At.s At.z))) rfl (vb rfl))) (PX.var (At.s (At.s (At.s (At.s (At.s (At.s (At.s At.z))))))) rfl (vb rfl)))) (Put.s (Put.s (Put.s (Put.s (Put.s (Put.s Put.z))))))) SXs.nil)))))) (Wk.cons Cv.same (Wk.cons Cv.same (Wk.cons Cv.same (Wk.cons Cv.same (Wk.cons Cv.same (Wk.cons Cv.same (Wk.cons Cv.same (Wk.cons Cv.drop (Wk.cons Cv.drop (Wk.cons Cv.same Wk.nil)))))))))))) (SX.one (SX.pre (Wk.cons Cv.same (Wk.cons Cv.same (Wk.cons Cv.same (Wk.cons Cv.same (Wk.cons Cv.freeze (Wk.cons Cv.same (Wk.cons Cv.same (Wk.cons Cv.same (Wk.cons Cv.same (Wk.cons Cv.same Wk.nil)))))))))) (SX.retIOA (PX.ex (PX.tlup (PL.lup (PAs.cons (PX.var (At.s (At.s (At.s (At.s At.z)))) rfl (vb rfl)) (PAs.one (PX.tl (PL.lc [("k", 7)] (IX.ib (IX.range1 (Bm.at b_range rfl) (PX.var (At.s At.z) rfl (vb rfl)))) rfl (Wp.cons Wp.nil (Put.s (Put.s (Put.s (Put.s (Put.s (Put.s (Put.s Put.z)))))))) (GX.name (PutV.s (PutV.s (PutV.s (PutV.s (PutV.s (PutV.s (PutV.s PutV.any))))))) rfl (lobb rfl)) (by decide) PTz.nil (PX.le (PX.var (At.s (At.s (At.s (At.s (At.s At.z))))) rfl (vbb rfl)) (PX.var (At.s (At.s (At.s (At.s (At.s (At.s At.z)))))) rfl (vbb rfl)))))))))) At.z)))))))))))⟩
def m__law_ring (u : ((List Int) × Int × Int × Int) × Unit) : Rs (((List (List Int)) × (List Bool)) × ((List Int) × Int × Int × Int)) := (w__law_ring.1 (u.1, ((), ((), ((), ((), ((), ((), ((), ((), ((), ()))))))))))).bind (endM (fun _ => .bad))
theorem g__law_ring {P : Program} {w : World} {K : PySem.W.Frag} {mg : Str → Option Value} {base : Heap} {ca : Nat → Addr} {f : Addr} {fd : FuncData} (T : TopFn K mg "_law_ring" s__law_ring ["pool"] f fd) (z_range : mg "range" = none) (z_int : mg "int" = none) (e__law_draw : Ex P w K mg base "_law_draw" (spIO K ca (cR (.cons (tL tI) (.cons tI (.cons tI (.one tI))))) (.one tI) tI m__law_draw) 2) : FnOk P w K mg base (L2.CX P w) 3 f fd ["pool"] (spIO K ca (cR (.cons (tL tI) (.cons tI (.cons tI (.one tI))))) .nil (tLup (.cons (tL (tL tI)) (.one (tL tB)))) m__law_ring) :=
  fnIO_mk (m := 9) T.F sc__law_ring (fun q => IniO.mk' (Ini.nil (Anys.s (Anys.s (Anys.s (Anys.s (Anys.s (Anys.s (Anys.s (Anys.s (Anys.s Anys.nil))))))))))) rfl rfl (fun E q => w__law_ring.2 P w K mg base ca 2 E q ⟨z_range, rfl, by decide, by decide⟩ ⟨z_int, rfl, by decide, by decide⟩ (e__law_draw.calleeIO (by decide)))
theorem f__law_ring {P : Program} {w : World} {K : PySem.W.Frag} {mg : Str → Option Value} {base : Heap} {ca : Nat → Addr} {f : Addr} {fd : FuncData} (T : TopFn K mg "_law_ring" s__law_ring ["pool"] f fd) (z_range : mg "range" = none) (z_int : mg "int" = none) (e__law_draw : Ex P w K mg base "_law_draw" (spIO K ca (cR (.cons (tL tI) (.cons tI (.cons tI (.one tI))))) (.one tI) tI m__law_draw) 2) : Ex P w K mg base "_law_ring" (spIO K ca (cR (.cons (tL tI) (.cons tI (.cons tI (.one tI))))) .nil (tLup (.cons (tL (tL tI)) (.one (tL tB)))) m__law_ring) 3 :=
  ⟨f, fd, ["pool"], g__law_ring T z_range z_int e__law_draw, T.hm, T.F.kp, T.bd⟩
abbrev s__law_ints : Stmt := topS 31
abbrev N__law_ints : List Str := ["told", "length", "least", "number"]
theorem sc__law_ints : FnScope N__law_ints ["told", "length", "least"] (defScope s__law_ints) := ⟨rfl, rfl, rfl, by decide +kernel, rfl, by decide +kernel, by decide +kernel⟩
def w__law_ints : {f : _ → Rs (Fl Bool _ Unit) // ∀ (P : Program) (w : World) (K : PySem.W.Frag) (mg : Str → Option Value) (base : Heap) (ca : Nat → Addr) (k : Nat) (E : XK) (b_isinstance : Bm mg "isinstance" (.builtin "isinstance")) (b_tuple : Bm mg "tuple" (.type "tuple")) (b_len : Bm mg "len" (.builtin "len")) (b_int : Bm mg "int" (.type "int")) (b_bool : Bm mg "bool" (.type "bool")), SXs (ambOf P w K mg base N__law_ints s__law_ints k E) ca (defBody s__law_ints) (.cons (.val (tT tI)) (.cons (.val tI) (.cons (.val tI) (.cons .any .nil)))) (.cons (.val (tT tI)) (.cons (.val tI) (.cons (.val tI) (.cons .any .nil)))) .nil (rVal K tB) f} :=
  ⟨_, fun P w K mg base ca k E b_isinstance b_tuple b_len b_int b_bool =>
    (SXs.cons (SX.iteP (PBw.pb (PB.or (PB.not (PX.pb (PX.isi (k := true) (Bm.at b_isinstance rfl) (Bm.at b_tuple rfl) IsTy.tpl (PX.var At.z rfl (vb rfl))) (by intros; rfl))) (PB.or1 (PB.neI (PX.lenT (Bm.at b_len rfl) (PX.var At.z rfl (vb rfl))) (PX.var (At.s At.z) rfl (vb rfl)))))) (SX.one (SX.retP PX.bl)) SXs.nil) (SXs.cons (SX.forP (IX.tup (PX.var At.z rfl (vb rfl))) (GX.name (PutV.s (PutV.s (PutV.s PutV.any))) rfl (lob rfl rfl)) (SXs.post (SXs.cons (SX.iteP (PBw.pb (PB.or (PB.not (PX.pb (PX.isi (k := true) (Bm.at b_isinstance rfl) (Bm.at b_int rfl) IsTy.int (PX.var (At.s (At.s (At.s At.z))) rfl (vb rfl))) (by intros; rfl))) (PB.or (PX.pb (PX.isi (k := false) (Bm.at b_isinstance rfl) (Bm.at b_bool rfl) IsTy.int (PX.var (At.s (At.s (At.s At.z))) rfl (vb rfl))) (by intros; rfl)) (PB.or1 (PB.lt (PX.var (At.s (At.s (At.s At.z))) rfl (vb rfl)) (PX.var (At.s (At.s At.z)) rfl (vb rfl))))))) (SX.one (SX.retP PX.bl)) SXs.nil) SXs.nil) (Wk.cons Cv.same (Wk.cons Cv.same (Wk.cons Cv.same (Wk.cons Cv.drop Wk.nil)))))) (SX.one (SX.retP PX.bl))))⟩
def m__law_ints (u : (List Int) × Int × Int) : Rs Bool := (w__law_ints.1 (u.1, (u.2.1, (u.2.2, ((), ()))))).bind (endM (fun _ => .bad))
theorem g__law_ints {P : Program} {w : World} {K : PySem.W.Frag} {mg : Str → Option Value} {base : Heap} {ca : Nat → Addr} {f : Addr} {fd : FuncData} (T : TopFn K mg "_law_ints" s__law_ints ["told", "length", "least"] f fd) (z_isinstance : mg "isinstance" = none) (z_tuple : mg "tuple" = none) (z_len : mg "len" = none) (z_int : mg "int" = none) (z_bool : mg "bool" = none) : FnOk P w K mg base (L2.CX P w) 1 f fd ["told", "length", "least"] (spOf K ca (.cons (tT tI) (.cons tI (.one tI))) tB m__law_ints) :=
  fn_mk (m := 1) (dn := fun _ => .bad) T.F sc__law_ints (Ini.cons (Ini.cons (Ini.one (Anys.s Anys.nil)))) rfl rfl (fun E => w__law_ints.2 P w K mg base ca 0 E ⟨z_isinstance, rfl, by decide, by decide⟩ ⟨z_tuple, rfl, by decide, by decide⟩ ⟨z_len, rfl, by decide, by decide⟩ ⟨z_int, rfl, by decide, by decide⟩ ⟨z_bool, rfl, by decide, by decide⟩)
theorem f__law_ints {P : Program} {w : World} {K : PySem.W.Frag} {mg : Str → Option Value} {base : Heap} {ca : Nat → Addr} {f : Addr} {fd : FuncData} (T : TopFn K mg "_law_ints" s__law_ints ["told", "length", "least"] f fd) (z_isinstance : mg "isinstance" = none) (z_tuple : mg "tuple" = none) (z_len : mg "len" = none) (z_int : mg "int" = none) (z_bool : mg "bool" = none) : Ex P w K mg base "_law_ints" (spOf K ca (.cons (tT tI) (.cons tI (.one tI))) tB m__law_ints) 1 :=
  ⟨f, fd, ["told", "length", "least"], g__law_ints T z_isinstance z_tuple z_len z_int z_bool, T.hm, T.F.kp, T.bd⟩
abbrev s__law_right : Stmt := topS 32
abbrev N__law_right : List Str := ["rows", "length", "place", "told", "grows", "sums", "k", "row"]
theorem sc__law_right : FnScope N__law_right ["rows", "length", "place", "told", "grows"] (defScope s__law_right) := ⟨rfl, rfl, rfl, by decide +kernel, rfl, by decide +kernel, by decide +kernel⟩
def w__law_right : {f : _ → Rs (Fl Bool _ Unit) // ∀ (P : Program) (w : World) (K : PySem.W.Frag) (mg : Str → Option Value) (base : Heap) (ca : Nat → Addr) (k : Nat) (E : XK) (b_isinstance : Bm mg "isinstance" (.builtin "isinstance")) (b_tuple : Bm mg "tuple" (.type "tuple")) (b_len : Bm mg "len" (.builtin "len")) (b_max : Bm mg "max" (.builtin "max")) (b_range : Bm mg "range" (.type "range")) (b_min : Bm mg "min" (.builtin "min")) (c__law_ints : Callee (ambOf P w K mg base N__law_right s__law_right k E) ca "_law_ints" (.cons (tT tI) (.cons tI (.one tI))) tB m__law_ints) (c__law_dotT : Callee (ambOf P w K mg base N__law_right s__law_right k E) ca "_law_dot" (.cons (tL tI) (.one (tT tI))) tI m__law_dotT), SXs (ambOf P w K mg base N__law_right s__law_right k E) ca (defBody s__law_right) (.cons (.val (tL (tL tI))) (.cons (.val tI) (.cons (.val tI) (.cons (.val (tTup (.cons tSk (.one (tT tI))))) (.cons (.val tB) (.cons .any (.cons .any (.cons .any .nil)))))))) (.cons (.val (tL (tL tI))) (.cons (.val tI) (.cons (.val tI) (.cons (.val (tTup (.cons tSk (.one (tT tI))))) (.cons (.val tB) (.cons .any (.cons .any (.cons .any .nil)))))))) .nil (rVal K tB) f} :=
  ⟨_, fun P w K mg base ca k E b_isinstance b_tuple b_len b_max b_range b_min c__law_ints c__law_dotT =>
    (SXs.cons (SX.iteP (PBw.pb (PB.or (PB.not (PX.pb (PX.isi (k := true) (Bm.at b_isinstance rfl) (Bm.at b_tuple rfl) IsTy.tup (PX.var (At.s (At.s (At.s At.z))) rfl (vb rfl))) (by intros; rfl))) (PB.or1 (PB.neI (PX.lenP (Bm.at b_len rfl) (PX.var (At.s (At.s (At.s At.z))) rfl (vb rfl))) PX.int)))) (SX.one (SX.retP PX.bl)) SXs.nil) (SXs.cons (SX.iteP (PX.pb (PX.var (At.s (At.s (At.s (At.s At.z)))) rfl (vb rfl)) (by intros; rfl)) (SXs.cons (SX.iteP (PBw.pb (PB.or (PB.neD (EncN.strK).toEnc (PX.ixP Nth.z rfl (fun _ _ => rfl) (PX.var (At.s (At.s (At.s At.z))) rfl (vb rfl)) PX.int) (PX.strK (i := "grow"))) (PB.or (PB.not (PX.pb (PX.call c__law_ints rfl (PAs.cons (PX.ixP (Nth.s Nth.o) rfl (fun _ _ => rfl) (PX.var (At.s (At.s (At.s At.z))) rfl (vb rfl)) PX.int) (PAs.cons (PX.var (At.s At.z) rfl (vb rfl)) (PAs.one PX.int)))) (by intros; rfl))) (PB.or1 (PB.lt (PX.ixT (fun _ _ => rfl) (PX.ixP (Nth.s Nth.o) rfl (fun _ _ => rfl) (PX.var (At.s (At.s (At.s At.z))) rfl (vb rfl)) PX.int) (PX.var (At.s (At.s At.z)) rfl (vb rfl))) PX.int))))) (SX.one (SX.retP PX.bl)) SXs.nil) (SX.one (SX.retP (PX.eqI (PX.maxL (Bm.at b_max rfl) (PL.bx (PL.cat (PL.bx (PL.lst (τ := tI) (PIs.cons PX.int PIs.nil))) (PL.bx (PL.lc [("row", 7)] (IX.ib (IX.list (PX.var At.z rfl (vb rfl)))) rfl (Wp.cons Wp.nil (Put.s (Put.s (Put.s (Put.s (Put.s (Put.s (Put.s Put.z)))))))) (GX.name (PutV.s (PutV.s (PutV.s (PutV.s (PutV.s (PutV.s (PutV.s PutV.any))))))) rfl (lobb rfl)) (by decide) PTz.nil (PX.call (callee_blk c__law_dotT) (gl_blk rfl) (PAs.cons (PX.var (At.s (At.s (At.s (At.s (At.s (At.s (At.s At.z))))))) rfl (vbb rfl)) (PAs.one (PX.ixP (Nth.s Nth.o) rfl (fun _ _ => rfl) (PX.var (At.s (At.s (At.s At.z))) rfl (vbb rfl)) PX.int))))))))) PX.int)))) SXs.nil) (SXs.cons (SX.iteP (PBw.pb (PB.or (PB.neD (EncN.strK).toEnc (PX.ixP Nth.z rfl (fun _ _ => rfl) (PX.var (At.s (At.s (At.s At.z))) rfl (vb rfl)) PX.int) (PX.strK (i := "cap"))) (PB.or1 (PB.not (PX.pb (PX.call c__law_ints rfl (PAs.cons (PX.ixP (Nth.s Nth.o) rfl (fun _ _ => rfl) (PX.var (At.s (At.s (At.s At.z))) rfl (vb rfl)) PX.int) (PAs.cons (PX.lenL (Bm.at b_len rfl) (BX.tl (PX.var At.z rfl (vb rfl)))) (PAs.one PX.int)))) (by intros; rfl)))))) (SX.one (SX.retP PX.bl)) SXs.nil) (SXs.cons (SX.setPcV [("k", 6)] rfl rfl rfl rfl rfl (IX.ib (IX.range1 (Bm.at b_range rfl) (PX.var (At.s At.z) rfl (vb rfl)))) rfl (Wp.cons Wp.nil (Put.s (Put.s (Put.s (Put.s (Put.s (Put.s Put.z))))))) (GX.name (PutV.s (PutV.s (PutV.s (PutV.s (PutV.s (PutV.s PutV.any)))))) rfl (lobb rfl)) (by decide) PTz.nil (PX.call (callee_blk c__law_dotT) (gl_blk rfl) (PAs.cons (PX.tl (PL.lc [("row", 7)] (IX.ib (IX.list (PX.var At.z rfl (vbb rfl)))) rfl (Wp.cons Wp.nil (Put.s (Put.s (Put.s (Put.s (Put.s (Put.s (Put.s Put.z)))))))) (GX.name (PutV.s (PutV.s (PutV.s (PutV.s (PutV.s (PutV.s (PutV.s PutV.any))))))) rfl (lobb rfl)) (by decide) PTz.nil (PX.ixL (fun _ _ => rfl) (BX.tl (PX.var (At.s (At.s (At.s (At.s (At.s (At.s (At.s At.z))))))) rfl (vbb rfl))) (PX.var (At.s (At.s (At.s (At.s (At.s (At.s At.z)))))) rfl (vbb rfl))))) (PAs.one (PX.ixP (Nth.s Nth.o) rfl (fun _ _ => rfl) (PX.var (At.s (At.s (At.s At.z))) rfl (vbb rfl)) PX.int)))) (Put.s (Put.s (Put.s (Put.s (Put.s Put.z)))))) (SX.one (SX.retP (PX.and (PX.ge (PX.minL (Bm.at b_min rfl) (BX.tl (PX.var (At.s (At.s (At.s (At.s (At.s At.z))))) rfl (vb rfl)))) PX.int) (PX.one (PX.ge (PX.ixL (fun _ _ => rfl) (BX.tl (PX.var (At.s (At.s (At.s (At.s (At.s At.z))))) rfl (vb rfl))) (PX.var (At.s (At.s At.z)) rfl (vb rfl))) PX.int)))))))))⟩
def m__law_right (u : (List (List Int)) × Int × Int × (SK × (List Int)) × Bool) : Rs Bool := (w__law_right.1 (u.1, (u.2.1, (u.2.2.1, (u.2.2.2.1, (u.2.2.2.2, ((), ((), ((), ()))))))))).bind (endM (fun _ => .bad))
theorem g__law_right {P : Program} {w : World} {K : PySem.W.Frag} {mg : Str → Option Value} {base : Heap} {ca : Nat → Addr} {f : Addr} {fd : FuncData} (T : TopFn K mg "_law_right" s__law_right ["rows", "length", "place", "told", "grows"] f fd) (z_isinstance : mg "isinstance" = none) (z_tuple : mg "tuple" = none) (z_len : mg "len" = none) (z_max : mg "max" = none) (z_range : mg "range" = none) (z_min : mg "min" = none) (e__law_ints : Ex P w K mg base "_law_ints" (spOf K ca (.cons (tT tI) (.cons tI (.one tI))) tB m__law_ints) 1) (e__law_dotT : Ex P w K mg base "_law_dot" (spOf K ca (.cons (tL tI) (.one (tT tI))) tI m__law_dotT) 1) : FnOk P w K mg base (L2.CX P w) 2 f fd ["rows", "length", "place", "told", "grows"] (spOf K ca (.cons (tL (tL tI)) (.cons tI (.cons tI (.cons (tTup (.cons tSk (.one (tT tI)))) (.one tB))))) tB m__law_right) :=
  fn_mk (m := 3) (dn := fun _ => .bad) T.F sc__law_right (Ini.cons (Ini.cons (Ini.cons (Ini.cons (Ini.one (Anys.s (Anys.s (Anys.s Anys.nil)))))))) rfl rfl (fun E => w__law_right.2 P w K mg base ca 1 E ⟨z_isinstance, rfl, by decide, by decide⟩ ⟨z_tuple, rfl, by decide, by decide⟩ ⟨z_len, rfl, by decide, by decide⟩ ⟨z_max, rfl, by decide, by decide⟩ ⟨z_range, rfl, by decide, by decide⟩ ⟨z_min, rfl, by decide, by decide⟩ (e__law_ints.callee (by decide)) (e__law_dotT.callee (by decide)))
theorem f__law_right {P : Program} {w : World} {K : PySem.W.Frag} {mg : Str → Option Value} {base : Heap} {ca : Nat → Addr} {f : Addr} {fd : FuncData} (T : TopFn K mg "_law_right" s__law_right ["rows", "length", "place", "told", "grows"] f fd) (z_isinstance : mg "isinstance" = none) (z_tuple : mg "tuple" = none) (z_len : mg "len" = none) (z_max : mg "max" = none) (z_range : mg "range" = none) (z_min : mg "min" = none) (e__law_ints : Ex P w K mg base "_law_ints" (spOf K ca (.cons (tT tI) (.cons tI (.one tI))) tB m__law_ints) 1) (e__law_dotT : Ex P w K mg base "_law_dot" (spOf K ca (.cons (tL tI) (.one (tT tI))) tI m__law_dotT) 1) : Ex P w K mg base "_law_right" (spOf K ca (.cons (tL (tL tI)) (.cons tI (.cons tI (.cons (tTup (.cons tSk (.one (tT tI)))) (.one tB))))) tB m__law_right) 2 :=
  ⟨f, fd, ["rows", "length", "place", "told", "grows"], g__law_right T z_isinstance z_tuple z_len z_max z_range z_min e__law_ints e__law_dotT, T.hm, T.F.kp, T.bd⟩
abbrev s__law_refused : Stmt := topS 33
abbrev N__law_refused : List Str := ["rows", "length", "place", "word"]
theorem sc__law_refused : FnScope N__law_refused ["rows", "length", "place"] (defScope s__law_refused) := ⟨rfl, rfl, rfl, by decide +kernel, rfl, by decide +kernel, by decide +kernel⟩
def w__law_refused : {f : _ → Rs (Fl SK _ Unit) // ∀ (P : Program) (w : World) (K : PySem.W.Frag) (mg : Str → Option Value) (base : Heap) (ca : Nat → Addr) (k : Nat) (E : XK) (c_grow_or_cap : Callee (ambOf P w K mg base N__law_refused s__law_refused k E) ca "grow_or_cap" (.cons (tL (tLup (.cons (tL tI) (.one tI)))) (.cons tI (.one tI))) (tTup (.cons tSk (.one (tT tI)))) m_grow_or_cap) (t_exc : ExcTab K ca 2 subT) (h_Refused : mg "Refused" = some (.ref (ca 0))) (h_BadTable : mg "BadTable" = some (.ref (ca 1))), SXs (ambOf P w K mg base N__law_refused s__law_refused k E) ca (defBody s__law_refused) (.cons (.val (tL (tLup (.cons (tL tI) (.one tI))))) (.cons (.val tI) (.cons (.val tI) (.cons .any .nil)))) (.cons (.val (tL (tLup (.cons (tL tI) (.one tI))))) (.cons (.val tI) (.cons (.val tI) (.cons .any .nil)))) .nil (rVal K tSk) f} :=
  ⟨_, fun P w K mg base ca k E c_grow_or_cap t_exc h_Refused h_BadTable =>
    (SXs.cons (SX.setP (lob rfl rfl) rfl (PX.strK (i := "let by")) (Put.s (Put.s (Put.s Put.z)))) (SXs.cons (SX.tryC c_grow_or_cap rfl rfl (PAs.cons (PX.var At.z rfl (vb rfl)) (PAs.cons (PX.var (At.s At.z) rfl (vb rfl)) (PAs.one (PX.var (At.s (At.s At.z)) rfl (vb rfl))))) (HdX.cons t_exc ⟨h_BadTable, rfl, by decide⟩ (by decide) (SuX.set (v := "bad") (lob rfl rfl) rfl (Put.s (Put.s (Put.s Put.z)))) (HdX.cons t_exc ⟨h_Refused, rfl, by decide⟩ (by decide) (SuX.set (v := "other") (lob rfl rfl) rfl (Put.s (Put.s (Put.s Put.z)))) HdX.nil))) (SX.one (SX.retP (PX.var (At.s (At.s (At.s At.z))) rfl (vb rfl))))))⟩
def m__law_refused (u : (List ((List Int) × Int)) × Int × Int) : Rs SK := (w__law_refused.1 (u.1, (u.2.1, (u.2.2, ((), ()))))).bind (endM (fun _ => .bad))
theorem g__law_refused {P : Program} {w : World} {K : PySem.W.Frag} {mg : Str → Option Value} {base : Heap} {ca : Nat → Addr} {f : Addr} {fd : FuncData} (T : TopFn K mg "_law_refused" s__law_refused ["rows", "length", "place"] f fd) (e_grow_or_cap : Ex P w K mg base "grow_or_cap" (spOf K ca (.cons (tL (tLup (.cons (tL tI) (.one tI)))) (.cons tI (.one tI))) (tTup (.cons tSk (.one (tT tI)))) m_grow_or_cap) 5) (t_exc : ExcTab K ca 2 subT) (h_Refused : mg "Refused" = some (.ref (ca 0))) (h_BadTable : mg "BadTable" = some (.ref (ca 1))) : FnOk P w K mg base (L2.CX P w) 6 f fd ["rows", "length", "place"] (spOf K ca (.cons (tL (tLup (.cons (tL tI) (.one tI)))) (.cons tI (.one tI))) tSk m__law_refused) :=
  fn_mk (m := 1) (dn := fun _ => .bad) T.F sc__law_refused (Ini.cons (Ini.cons (Ini.one (Anys.s Anys.nil)))) rfl rfl (fun E => w__law_refused.2 P w K mg base ca 5 E (e_grow_or_cap.callee (by decide)) t_exc h_Refused h_BadTable)
theorem f__law_refused {P : Program} {w : World} {K : PySem.W.Frag} {mg : Str → Option Value} {base : Heap} {ca : Nat → Addr} {f : Addr} {fd : FuncData} (T : TopFn K mg "_law_refused" s__law_refused ["rows", "length", "place"] f fd) (e_grow_or_cap : Ex P w K mg base "grow_or_cap" (spOf K ca (.cons (tL (tLup (.cons (tL tI) (.one tI)))) (.cons tI (.one tI))) (tTup (.cons tSk (.one (tT tI)))) m_grow_or_cap) 5) (t_exc : ExcTab K ca 2 subT) (h_Refused : mg "Refused" = some (.ref (ca 0))) (h_BadTable : mg "BadTable" = some (.ref (ca 1))) : Ex P w K mg base "_law_refused" (spOf K ca (.cons (tL (tLup (.cons (tL tI) (.one tI)))) (.cons tI (.one tI))) tSk m__law_refused) 6 :=
  ⟨f, fd, ["rows", "length", "place"], g__law_refused T e_grow_or_cap t_exc h_Refused h_BadTable, T.hm, T.F.kp, T.bd⟩
abbrev s__law_long : Stmt := topS 34
abbrev N__law_long : List Str := ["rows", "length", "word"]
theorem sc__law_long : FnScope N__law_long ["rows", "length"] (defScope s__law_long) := ⟨rfl, rfl, rfl, by decide +kernel, rfl, by decide +kernel, by decide +kernel⟩
def w__law_long : {f : _ → Rs (Fl SK _ Unit) // ∀ (P : Program) (w : World) (K : PySem.W.Frag) (mg : Str → Option Value) (base : Heap) (ca : Nat → Addr) (k : Nat) (E : XK) (c_growing : Callee (ambOf P w K mg base N__law_long s__law_long k E) ca "growing" (.cons (tL (tLup (.cons (tL tI) (.one tI)))) (.one tI)) (tT tB) m_growing) (t_exc : ExcTab K ca 2 subT) (h_Refused : mg "Refused" = some (.ref (ca 0))) (h_BadTable : mg "BadTable" = some (.ref (ca 1))), SXs (ambOf P w K mg base N__law_long s__law_long k E) ca (defBody s__law_long) (.cons (.val (tL (tLup (.cons (tL tI) (.one tI))))) (.cons (.val tI) (.cons .any .nil))) (.cons (.val (tL (tLup (.cons (tL tI) (.one tI))))) (.cons (.val tI) (.cons .any .nil))) .nil (rVal K tSk) f} :=
  ⟨_, fun P w K mg base ca k E c_growing t_exc h_Refused h_BadTable =>
    (SXs.cons (SX.setP (lob rfl rfl) rfl (PX.strK (i := "let by")) (Put.s (Put.s Put.z))) (SXs.cons (SX.tryC c_growing rfl rfl (PAs.cons (PX.var At.z rfl (vb rfl)) (PAs.one (PX.var (At.s At.z) rfl (vb rfl)))) (HdX.cons t_exc ⟨h_BadTable, rfl, by decide⟩ (by decide) (SuX.set (v := "bad") (lob rfl rfl) rfl (Put.s (Put.s Put.z))) (HdX.cons t_exc ⟨h_Refused, rfl, by decide⟩ (by decide) (SuX.set (v := "other") (lob rfl rfl) rfl (Put.s (Put.s Put.z))) HdX.nil))) (SX.one (SX.retP (PX.var (At.s (At.s At.z)) rfl (vb rfl))))))⟩
def m__law_long (u : (List ((List Int) × Int)) × Int) : Rs SK := (w__law_long.1 (u.1, (u.2, ((), ())))).bind (endM (fun _ => .bad))
theorem g__law_long {P : Program} {w : World} {K : PySem.W.Frag} {mg : Str → Option Value} {base : Heap} {ca : Nat → Addr} {f : Addr} {fd : FuncData} (T : TopFn K mg "_law_long" s__law_long ["rows", "length"] f fd) (e_growing : Ex P w K mg base "growing" (spOf K ca (.cons (tL (tLup (.cons (tL tI) (.one tI)))) (.one tI)) (tT tB) m_growing) 5) (t_exc : ExcTab K ca 2 subT) (h_Refused : mg "Refused" = some (.ref (ca 0))) (h_BadTable : mg "BadTable" = some (.ref (ca 1))) : FnOk P w K mg base (L2.CX P w) 6 f fd ["rows", "length"] (spOf K ca (.cons (tL (tLup (.cons (tL tI) (.one tI)))) (.one tI)) tSk m__law_long) :=
  fn_mk (m := 1) (dn := fun _ => .bad) T.F sc__law_long (Ini.cons (Ini.one (Anys.s Anys.nil))) rfl rfl (fun E => w__law_long.2 P w K mg base ca 5 E (e_growing.callee (by decide)) t_exc h_Refused h_BadTable)
theorem f__law_long {P : Program} {w : World} {K : PySem.W.Frag} {mg : Str → Option Value} {base : Heap} {ca : Nat → Addr} {f : Addr} {fd : FuncData} (T : TopFn K mg "_law_long" s__law_long ["rows", "length"] f fd) (e_growing : Ex P w K mg base "growing" (spOf K ca (.cons (tL (tLup (.cons (tL tI) (.one tI)))) (.one tI)) (tT tB) m_growing) 5) (t_exc : ExcTab K ca 2 subT) (h_Refused : mg "Refused" = some (.ref (ca 0))) (h_BadTable : mg "BadTable" = some (.ref (ca 1))) : Ex P w K mg base "_law_long" (spOf K ca (.cons (tL (tLup (.cons (tL tI) (.one tI)))) (.one tI)) tSk m__law_long) 6 :=
  ⟨f, fd, ["rows", "length"], g__law_long T e_growing t_exc h_Refused h_BadTable, T.hm, T.F.kp, T.bd⟩
abbrev s_law : Stmt := topS 35
abbrev N_law : List Str := ["script", "pool", "kind", "drawn", "rows", "due", "length", "handed", "kept", "place", "told", "flags", "k", "numbers", "row", "pair"]
theorem sc_law : FnScope N_law ["script"] (defScope s_law) := ⟨rfl, rfl, rfl, by decide +kernel, rfl, by decide +kernel, by decide +kernel⟩
def w_law : {f : _ → Rs (Fl Bool _ Unit) // ∀ (P : Program) (w : World) (K : PySem.W.Frag) (mg : Str → Option Value) (base : Heap) (ca : Nat → Addr) (k : Nat) (E : XK) (b_len : Bm mg "len" (.builtin "len")) (b_list : Bm mg "list" (.type "list")) (b_range : Bm mg "range" (.type "range")) (b_isinstance : Bm mg "isinstance" (.builtin "isinstance")) (b_tuple : Bm mg "tuple" (.type "tuple")) (b_bool : Bm mg "bool" (.type "bool")) (b_all : Bm mg "all" (.builtin "all")) (b_max : Bm mg "max" (.builtin "max")) (c__law_pool : CalleeL (ambOf P w K mg base N_law s_law k E) ca "_law_pool" (.one (tF tI)) (cR (.cons (tL tI) (.cons tI (.cons tI (.one tI))))) m__law_pool) (c__law_draw : CalleeIO (ambOf P w K mg base N_law s_law k E) ca "_law_draw" (cR (.cons (tL tI) (.cons tI (.cons tI (.one tI))))) (.one tI) tI m__law_draw) (c__law_ring : CalleeIO (ambOf P w K mg base N_law s_law k E) ca "_law_ring" (cR (.cons (tL tI) (.cons tI (.cons tI (.one tI))))) .nil (tLup (.cons (tL (tL tI)) (.one (tL tB)))) m__law_ring) (c__law_drawn : CalleeIO (ambOf P w K mg base N_law s_law k E) ca "_law_drawn" (cR (.cons (tL tI) (.cons tI (.cons tI (.one tI))))) (.one tB) (tLup (.cons (tL (tL tI)) (.one (tL tB)))) m__law_drawn) (c__law_number : CalleeIO (ambOf P w K mg base N_law s_law k E) ca "_law_number" (cR (.cons (tL tI) (.cons tI (.cons tI (.one tI))))) (.one tI) tI m__law_number) (c_grow_or_cap : Callee (ambOf P w K mg base N_law s_law k E) ca "grow_or_cap" (.cons (tL (tLup (.cons (tL tI) (.one tI)))) (.cons tI (.one tI))) (tTup (.cons tSk (.one (tT tI)))) m_grow_or_cap) (c__law_right : Callee (ambOf P w K mg base N_law s_law k E) ca "_law_right" (.cons (tL (tL tI)) (.cons tI (.cons tI (.cons (tTup (.cons tSk (.one (tT tI)))) (.one tB))))) tB m__law_right) (c_growing : Callee (ambOf P w K mg base N_law s_law k E) ca "growing" (.cons (tL (tLup (.cons (tL tI) (.one tI)))) (.one tI)) (tT tB) m_growing) (c_all_growing : Callee (ambOf P w K mg base N_law s_law k E) ca "all_growing" (.cons (tT (tTup (.cons (tT tI) (.one tI)))) (.one tI)) (tO (tT tI)) m_all_growing) (c__law_ints : Callee (ambOf P w K mg base N_law s_law k E) ca "_law_ints" (.cons (tT tI) (.cons tI (.one tI))) tB m__law_ints) (c__law_dotT : Callee (ambOf P w K mg base N_law s_law k E) ca "_law_dot" (.cons (tL tI) (.one (tT tI))) tI m__law_dotT) (c__law_refused : Callee (ambOf P w K mg base N_law s_law k E) ca "_law_refused" (.cons (tL (tLup (.cons (tL tI) (.one tI)))) (.cons tI (.one tI))) tSk m__law_refused) (c__law_long : Callee (ambOf P w K mg base N_law s_law k E) ca "_law_long" (.cons (tL (tLup (.cons (tL tI) (.one tI)))) (.one tI)) tSk m__law_long), SXs (ambOf P w K mg base N_law s_law k E) ca (defBody s_law) (.cons (.val (tF tI)) (.cons .any (.cons .any (.cons .any (.cons .any (.cons .any (.cons .any (.cons .any (.cons .any (.cons .any (.cons .any (.cons .any (.cons .any (.cons .any (.cons .any (.cons .any .nil)))))))))))))))) (.cons (.val (tF tI)) (.cons .any (.cons .any (.cons .any (.cons .any (.cons .any (.cons .any (.cons .any (.cons .any (.cons .any (.cons .any (.cons .any (.cons .any (.cons .any (.cons .any (.cons .any .nil)))))))))))))))) .nil (rVal K tB) f} :=
  ⟨_, fun P w K mg base ca k E b_len b_list b_range b_isinstance b_tuple b_bool b_all b_max c__law_pool c__law_draw c__law_ring c__law_drawn c__law_number c_grow_or_cap c__law_right c_growing c_all_growing c__law_ints c__law_dotT c__law_refused c__law_long =>
    (SXs.cons (SX.setOP (lob rfl rfl) rfl (PL.call c__law_pool rfl (PAs.one (PX.var At.z rfl (vb rfl)))) (Put.s Put.z)) (SXs.cons (SX.set (k := 0) (lob rfl rfl) rfl (EX.callIO c__law_draw rfl (Wr.s Wr.z) rfl (vb rfl) (PAs.one PX.int)) (Put.s (Put.s Put.z))) (SXs.cons (SX.iteP (PB.eqI (PX.var (At.s (At.s At.z)) rfl (vb rfl)) PX.int) (SXs.cons (SX.set (k := 0) (lob rfl rfl) rfl (EX.callIO c__law_ring rfl (Wr.s Wr.z) rfl (vb rfl) PAs.nil) (Put.s (Put.s (Put.s Put.z)))) SXs.nil) (SXs.cons (SX.set (k := 0) (lob rfl rfl) rfl (EX.callIO c__law_drawn rfl (Wr.s Wr.z) rfl (vb rfl) (PAs.one (PX.eqI (PX.var (At.s (At.s At.z)) rfl (vb rfl)) PX.int))) (Put.s (Put.s (Put.s Put.z)))) SXs.nil)) (SXs.cons (SX.setP (lob rfl rfl) rfl (PX.ixR Nth.z rfl (fun _ _ => rfl) (BX.tlup (PX.var (At.s (At.s (At.s At.z))) rfl (vb rfl))) PX.int) (Put.s (Put.s (Put.s (Put.s Put.z))))) (SXs.cons (SX.setP (lob rfl rfl) rfl (PX.ixR (Nth.s Nth.o) rfl (fun _ _ => rfl) (BX.tlup (PX.var (At.s (At.s (At.s At.z))) rfl (vb rfl))) PX.int) (Put.s (Put.s (Put.s (Put.s (Put.s Put.z)))))) (SXs.cons (SX.setP (lob rfl rfl) rfl (PX.lenL (Bm.at b_len rfl) (BX.tl (PX.var (At.s (At.s (At.s (At.s (At.s At.z))))) rfl (vb rfl)))) (Put.s (Put.s (Put.s (Put.s (Put.s (Put.s Put.z))))))) (SXs.cons (SX.setEcV [("row", 14)] rfl rfl rfl rfl rfl (IX.ei (IX.list (PX.var (At.s (At.s (At.s (At.s At.z)))) rfl (vb rfl)))) rfl (GX.name (PutV.s (PutV.s (PutV.s (PutV.s (PutV.s (PutV.s (PutV.s (PutV.s (PutV.s (PutV.s (PutV.s (PutV.s (PutV.s (PutV.s PutV.any)))))))))))))) rfl (lobb rfl)) ETz.nil (EX.tlup (EL.lup (EAs.cons (PX.ex (PX.tl (PL.listL (Bm.at b_list (gl_blk rfl)) (BX.tl (PX.var (At.s (At.s (At.s (At.s (At.s (At.s (At.s (At.s (At.s (At.s (At.s (At.s (At.s (At.s At.z)))))))))))))) rfl (vbb rfl)))))) (EAs.one (EX.callIO (calleeIO_blk c__law_number) (gl_blk rfl) (Wr.s Wr.z) rfl (vbb rfl) (PAs.one PX.int)))))) (Wp.cons Wp.nil (Put.s (Put.s (Put.s (Put.s (Put.s (Put.s (Put.s (Put.s (Put.s (Put.s (Put.s (Put.s (Put.s (Put.s Put.z))))))))))))))) (any_one (AnyAt.s (AnyAt.s (AnyAt.s (AnyAt.s (AnyAt.s (AnyAt.s (AnyAt.s (AnyAt.s (AnyAt.s (AnyAt.s (AnyAt.s (AnyAt.s (AnyAt.s (AnyAt.s AnyAt.z))))))))))))))) (by decide) (Put.s (Put.s (Put.s (Put.s (Put.s (Put.s (Put.s Put.z)))))))) (SXs.cons (SX.setPcV [("pair", 15)] rfl rfl rfl rfl rfl (IX.ib (IX.list (PX.var (At.s (At.s (At.s (At.s (At.s (At.s (At.s At.z))))))) rfl (vb rfl)))) rfl (Wp.cons Wp.nil (Put.s (Put.s (Put.s (Put.s (Put.s (Put.s (Put.s (Put.s (Put.s (Put.s (Put.s (Put.s (Put.s (Put.s (Put.s Put.z)))))))))))))))) (GX.name (PutV.s (PutV.s (PutV.s (PutV.s (PutV.s (PutV.s (PutV.s (PutV.s (PutV.s (PutV.s (PutV.s (PutV.s (PutV.s (PutV.s (PutV.s PutV.any))))))))))))))) rfl (lobb rfl)) (by decide) PTz.nil (PX.tlup (PL.lup (PAs.cons (PX.tl (PL.listL (Bm.at b_list (gl_blk rfl)) (BX.tl (PX.ixR Nth.z rfl (fun _ _ => rfl) (BX.tlup (PX.var (At.s (At.s (At.s (At.s (At.s (At.s (At.s (At.s (At.s (At.s (At.s (At.s (At.s (At.s (At.s At.z))))))))))))))) rfl (vbb rfl))) PX.int)))) (PAs.one (PX.ixR (Nth.s Nth.o) rfl (fun _ _ => rfl) (BX.tlup (PX.var (At.s (At.s (At.s (At.s (At.s (At.s (At.s (At.s (At.s (At.s (At.s (At.s (At.s (At.s (At.s At.z))))))))))))))) rfl (vbb rfl))) PX.int))))) (Put.s (Put.s (Put.s (Put.s (Put.s (Put.s (Put.s (Put.s Put.z))))))))) (SXs.cons (SX.forP (IX.range1 (Bm.at b_range rfl) (PX.var (At.s (At.s (At.s (At.s (At.s (At.s At.z)))))) rfl (vb rfl))) (GX.name (PutV.s (PutV.s (PutV.s (PutV.s (PutV.s (PutV.s (PutV.s (PutV.s (PutV.s PutV.any))))))))) rfl (lob rfl rfl)) (SXs.post (SXs.cons (SX.setP (lob rfl rfl) rfl (PX.call c_grow_or_cap rfl (PAs.cons (PX.var (At.s (At.s (At.s (At.s (At.s (At.s (At.s At.z))))))) rfl (vb rfl)) (PAs.cons (PX.var (At.s (At.s (At.s (At.s (At.s (At.s At.z)))))) rfl (vb rfl)) (PAs.one (PX.var (At.s (At.s (At.s (At.s (At.s (At.s (At.s (At.s (At.s At.z))))))))) rfl (vb rfl)))))) (Put.s (Put.s (Put.s (Put.s (Put.s (Put.s (Put.s (Put.s (Put.s (Put.s Put.z))))))))))) (SXs.cons (SX.iteP (PB.not (PX.pb (PX.call c__law_right rfl (PAs.cons (PX.var (At.s (At.s (At.s (At.s At.z)))) rfl (vb rfl)) (PAs.cons (PX.var (At.s (At.s (At.s (At.s (At.s (At.s At.z)))))) rfl (vb rfl)) (PAs.cons (PX.var (At.s (At.s (At.s (At.s (At.s (At.s (At.s (At.s (At.s At.z))))))))) rfl (vb rfl)) (PAs.cons (PX.var (At.s (At.s (At.s (At.s (At.s (At.s (At.s (At.s (At.s (At.s At.z)))))))))) rfl (vb rfl)) (PAs.one (PX.ixL (fun _ _ => rfl) (BX.tl (PX.var (At.s (At.s (At.s (At.s (At.s At.z))))) rfl (vb rfl))) (PX.var (At.s (At.s (At.s (At.s (At.s (At.s (At.s (At.s (At.s At.z))))))))) rfl (vb rfl))))))))) (by intros; rfl))) (SX.one (SX.retP PX.bl)) SXs.nil) SXs.nil)) (Wk.cons Cv.same (Wk.cons Cv.same (Wk.cons Cv.same (Wk.cons Cv.same (Wk.cons Cv.same (Wk.cons Cv.same (Wk.cons Cv.same (Wk.cons Cv.same (Wk.cons Cv.same (Wk.cons Cv.drop (Wk.cons Cv.drop (Wk.cons Cv.same (Wk.cons Cv.same (Wk.cons Cv.same (Wk.cons Cv.same (Wk.cons Cv.same Wk.nil)))))))))))))))))) (SXs.cons (SX.setP (lob rfl rfl) rfl (PX.call c_growing rfl (PAs.cons (PX.var (At.s (At.s (At.s (At.s (At.s (At.s (At.s At.z))))))) rfl (vb rfl)) (PAs.one (PX.var (At.s (At.s (At.s (At.s (At.s (At.s At.z)))))) rfl (vb rfl))))) (Put.s (Put.s (Put.s (Put.s (Put.s (Put.s (Put.s (Put.s (Put.s (Put.s (Put.s Put.z)))))))))))) (SXs.cons (SX.iteP (PBw.pb (PB.or (PB.not (PX.pb (PX.isi (k := true) (Bm.at b_isinstance rfl) (Bm.at b_tuple rfl) IsTy.tpl (PX.var (At.s (At.s (At.s (At.s (At.s (At.s (At.s (At.s (At.s (At.s (At.s At.z))))))))))) rfl (vb rfl))) (by intros; rfl))) (PB.or1 (PB.neI (PX.lenT (Bm.at b_len rfl) (PX.var (At.s (At.s (At.s (At.s (At.s (At.s (At.s (At.s (At.s (At.s (At.s At.z))))))))))) rfl (vb rfl))) (PX.var (At.s (At.s (At.s (At.s (At.s (At.s At.z)))))) rfl (vb rfl)))))) (SX.one (SX.retP PX.bl)) SXs.nil) (SXs.cons (SX.forP (IX.range1 (Bm.at b_range rfl) (PX.var (At.s (At.s (At.s (At.s (At.s (At.s At.z)))))) rfl (vb rfl))) (GX.name (PutV.s (PutV.s (PutV.s (PutV.s (PutV.s (PutV.s (PutV.s (PutV.s (PutV.s (PutV.s (PutV.s (PutV.s PutV.any)))))))))))) rfl (lob rfl rfl)) (SXs.post (SXs.cons (SX.iteP (PBw.pb (PB.or (PB.not (PX.pb (PX.isi (k := true) (Bm.at b_isinstance rfl) (Bm.at b_bool rfl) IsTy.bool (PX.ixT (fun _ _ => rfl) (PX.var (At.s (At.s (At.s (At.s (At.s (At.s (At.s (At.s (At.s (At.s (At.s At.z))))))))))) rfl (vb rfl)) (PX.var (At.s (At.s (At.s (At.s (At.s (At.s (At.s (At.s (At.s (At.s (At.s (At.s At.z)))))))))))) rfl (vb rfl)))) (by intros; rfl))) (PB.or1 (PB.neD (EncN.bool).toEnc (PX.ixT (fun _ _ => rfl) (PX.var (At.s (At.s (At.s (At.s (At.s (At.s (At.s (At.s (At.s (At.s (At.s At.z))))))))))) rfl (vb rfl)) (PX.var (At.s (At.s (At.s (At.s (At.s (At.s (At.s (At.s (At.s (At.s (At.s (At.s At.z)))))))))))) rfl (vb rfl))) (PX.ixL (fun _ _ => rfl) (BX.tl (PX.var (At.s (At.s (At.s (At.s (At.s At.z))))) rfl (vb rfl))) (PX.var (At.s (At.s (At.s (At.s (At.s (At.s (At.s (At.s (At.s (At.s (At.s (At.s At.z)))))))))))) rfl (vb rfl))))))) (SX.one (SX.retP PX.bl)) SXs.nil) SXs.nil) (Wk.cons Cv.same (Wk.cons Cv.same (Wk.cons Cv.same (Wk.cons Cv.same (Wk.cons Cv.same (Wk.cons Cv.same (Wk.cons Cv.same (Wk.cons Cv.same (Wk.cons Cv.same (Wk.cons Cv.same (Wk.cons Cv.same (Wk.cons Cv.same (Wk.cons Cv.drop (Wk.cons Cv.same (Wk.cons Cv.same (Wk.cons Cv.same Wk.nil)))))))))))))))))) (SXs.cons (SX.setP (lob rfl rfl) rfl (PX.call c_all_growing rfl (PAs.cons (PX.tupleL (Bm.at b_tuple rfl) (PL.bx (PL.lc [("pair", 15)] (IX.ib (IX.list (PX.var (At.s (At.s (At.s (At.s (At.s (At.s (At.s (At.s At.z)))))))) rfl (vb rfl)))) rfl (Wp.cons Wp.nil (Put.s (Put.s (Put.s (Put.s (Put.s (Put.s (Put.s (Put.s (Put.s (Put.s (Put.s (Put.s (Put.s (Put.s (Put.s Put.z)))))))))))))))) (GX.name (PutV.s (PutV.s (PutV.s (PutV.s (PutV.s (PutV.s (PutV.s (PutV.s (PutV.s (PutV.s (PutV.s (PutV.s (PutV.s (PutV.s (PutV.s PutV.any))))))))))))))) rfl (lobb rfl)) (by decide) PTz.nil (PX.tup (PAs.cons (PX.tupleL (Bm.at b_tuple (gl_blk rfl)) (BX.tl (PX.ixR Nth.z rfl (fun _ _ => rfl) (BX.tlup (PX.var (At.s (At.s (At.s (At.s (At.s (At.s (At.s (At.s (At.s (At.s (At.s (At.s (At.s (At.s (At.s At.z))))))))))))))) rfl (vbb rfl))) PX.int))) (PAs.one (PX.ixR (Nth.s Nth.o) rfl (fun _ _ => rfl) (BX.tlup (PX.var (At.s (At.s (At.s (At.s (At.s (At.s (At.s (At.s (At.s (At.s (At.s (At.s (At.s (At.s (At.s At.z))))))))))))))) rfl (vbb rfl))) PX.int))))))) (PAs.one (PX.var (At.s (At.s (At.s (At.s (At.s (At.s At.z)))))) rfl (vb rfl))))) (Put.s (Put.s (Put.s (Put.s (Put.s (Put.s (Put.s (Put.s (Put.s (Put.s (Put.s (Put.s (Put.s Put.z)))))))))))))) (SXs.cons (SX.iteP (PBw.pb (PB.or (PB.isN NN.tpl (PX.var (At.s (At.s (At.s (At.s (At.s (At.s (At.s (At.s (At.s (At.s (At.s (At.s (At.s At.z))))))))))))) rfl (vb rfl))) (PB.or1 (PB.not (PX.pb (PX.all (Bm.at b_all rfl) (BX.tl (PX.var (At.s (At.s (At.s (At.s (At.s At.z))))) rfl (vb rfl)))) (by intros; rfl)))))) (SXs.cons (SX.iteP (PBw.pb (PB.or (PB.notN NN.tpl (PX.var (At.s (At.s (At.s (At.s (At.s (At.s (At.s (At.s (At.s (At.s (At.s (At.s (At.s At.z))))))))))))) rfl (vb rfl))) (PB.or1 (PX.pb (PX.all (Bm.at b_all rfl) (BX.tl (PX.var (At.s (At.s (At.s (At.s (At.s At.z))))) rfl (vb rfl)))) (by intros; rfl))))) (SX.one (SX.retP PX.bl)) SXs.nil) SXs.nil) (SXs.cons (SX.iteP (PBw.pb (PB.or (PB.not (PX.pb (PX.call c__law_ints rfl (PAs.cons (PX.unw (PX.var (At.s (At.s (At.s (At.s (At.s (At.s (At.s (At.s (At.s (At.s (At.s (At.s (At.s At.z))))))))))))) rfl (vb rfl))) (PAs.cons (PX.var (At.s (At.s (At.s (At.s (At.s (At.s At.z)))))) rfl (vb rfl)) (PAs.one PX.int)))) (by intros; rfl))) (PB.or1 (PB.neI (PX.maxL (Bm.at b_max rfl) (PL.bx (PL.cat (PL.bx (PL.lst (τ := tI) (PIs.cons PX.int PIs.nil))) (PL.bx (PL.lc [("row", 14)] (IX.ib (IX.list (PX.var (At.s (At.s (At.s (At.s At.z)))) rfl (vb rfl)))) rfl (Wp.cons Wp.nil (Put.s (Put.s (Put.s (Put.s (Put.s (Put.s (Put.s (Put.s (Put.s (Put.s (Put.s (Put.s (Put.s (Put.s Put.z))))))))))))))) (GX.name (PutV.s (PutV.s (PutV.s (PutV.s (PutV.s (PutV.s (PutV.s (PutV.s (PutV.s (PutV.s (PutV.s (PutV.s (PutV.s (PutV.s PutV.any)))))))))))))) rfl (lobb rfl)) (by decide) PTz.nil (PX.call (callee_blk c__law_dotT) (gl_blk rfl) (PAs.cons (PX.var (At.s (At.s (At.s (At.s (At.s (At.s (At.s (At.s (At.s (At.s (At.s (At.s (At.s (At.s At.z)))))))))))))) rfl (vbb rfl)) (PAs.one (PX.unw (PX.var (At.s (At.s (At.s (At.s (At.s (At.s (At.s (At.s (At.s (At.s (At.s (At.s (At.s At.z))))))))))))) rfl (vbb rfl))))))))))) PX.int)))) (SX.one (SX.retP PX.bl)) SXs.nil) SXs.nil)) (SXs.cons (SX.iteP (PBw.pb (PB.or (PB.neD ((EncN.lst ((EncN.lup (EncS.cons ((EncN.lst (EncN.int).toEnc)).toEnc (EncS.one (EncN.int).toEnc)))).toEnc)).toEnc (PX.var (At.s (At.s (At.s (At.s (At.s (At.s (At.s At.z))))))) rfl (vb rfl)) (PX.var (At.s (At.s (At.s (At.s (At.s (At.s (At.s (At.s At.z)))))))) rfl (vb rfl))) (PB.or1 (PB.neD ((EncN.tup (EncS.cons (EncN.strK).toEnc (EncS.one ((EncN.tpl (EncN.int).toEnc)).toEnc)))).toEnc (PX.call c_grow_or_cap rfl (PAs.cons (PX.var (At.s (At.s (At.s (At.s (At.s (At.s (At.s At.z))))))) rfl (vb rfl)) (PAs.cons (PX.var (At.s (At.s (At.s (At.s (At.s (At.s At.z)))))) rfl (vb rfl)) (PAs.one PX.int)))) (PX.call c_grow_or_cap rfl (PAs.cons (PX.var (At.s (At.s (At.s (At.s (At.s (At.s (At.s (At.s At.z)))))))) rfl (vb rfl)) (PAs.cons (PX.var (At.s (At.s (At.s (At.s (At.s (At.s At.z)))))) rfl (vb rfl)) (PAs.one PX.int)))))))) (SX.one (SX.retP PX.bl)) SXs.nil) (SXs.cons (SX.iteP (PBw.pb (PB.or (PB.neD (EncN.strK).toEnc (PX.call c__law_refused rfl (PAs.cons (PX.var (At.s (At.s (At.s (At.s (At.s (At.s (At.s (At.s At.z)))))))) rfl (vb rfl)) (PAs.cons (PX.var (At.s (At.s (At.s (At.s (At.s (At.s At.z)))))) rfl (vb rfl)) (PAs.one (PX.var (At.s (At.s (At.s (At.s (At.s (At.s At.z)))))) rfl (vb rfl)))))) (PX.strK (i := "bad"))) (PB.or1 (PB.neD (EncN.strK).toEnc (PX.call c__law_refused rfl (PAs.cons (PX.var (At.s (At.s (At.s (At.s (At.s (At.s (At.s (At.s At.z)))))))) rfl (vb rfl)) (PAs.cons (PX.var (At.s (At.s (At.s (At.s (At.s (At.s At.z)))))) rfl (vb rfl)) (PAs.one (PX.neg PX.int))))) (PX.strK (i := "bad")))))) (SX.one (SX.retP PX.bl)) SXs.nil) (SXs.cons (SX.iteP (PBw.pb (PB.and (PB.neD ((EncN.lst ((EncN.lst (EncN.int).toEnc)).toEnc)).toEnc (PX.var (At.s (At.s (At.s (At.s At.z)))) rfl (vb rfl)) (PX.tl (PL.lst (τ := (tL tI)) PIs.nil))) (PB.and1 (PB.neD (EncN.strK).toEnc (PX.call c__law_long rfl (PAs.cons (PX.var (At.s (At.s (At.s (At.s (At.s (At.s (At.s (At.s At.z)))))))) rfl (vb rfl)) (PAs.one (PX.add (PX.var (At.s (At.s (At.s (At.s (At.s (At.s At.z)))))) rfl (vb rfl)) PX.int)))) (PX.strK (i := "bad")))))) (SX.one (SX.retP PX.bl)) SXs.nil) (SX.one (SX.retP (PX.eqD (EncN.strK).toEnc (PX.call c__law_refused rfl (PAs.cons (PX.tl (PL.cat (BX.tl (PX.var (At.s (At.s (At.s (At.s (At.s (At.s (At.s (At.s At.z)))))))) rfl (vb rfl))) (PL.bx (PL.lst (τ := (tLup (.cons (tL tI) (.one tI)))) (PIs.cons (PX.tlup (PL.lup (PAs.cons (PX.tl (PL.lc [("k", 12)] (IX.ib (IX.range1 (Bm.at b_range rfl) (PX.add (PX.var (At.s (At.s (At.s (At.s (At.s (At.s At.z)))))) rfl (vb rfl)) PX.int))) rfl (Wp.cons Wp.nil (Put.s (Put.s (Put.s (Put.s (Put.s (Put.s (Put.s (Put.s (Put.s (Put.s (Put.s (Put.s Put.z))))))))))))) (GX.name (PutV.s (PutV.s (PutV.s (PutV.s (PutV.s (PutV.s (PutV.s (PutV.s (PutV.s (PutV.s (PutV.s (PutV.s PutV.any)))))))))))) rfl (lobb rfl)) (by decide) PTz.nil PX.int)) (PAs.one PX.int)))) PIs.nil))))) (PAs.cons (PX.var (At.s (At.s (At.s (At.s (At.s (At.s At.z)))))) rfl (vb rfl)) (PAs.one PX.int)))) (PX.strK (i := "bad"))))))))))))))))))))))⟩
def m_law (u : (List Int)) : Rs Bool := (w_law.1 (u, ((), ((), ((), ((), ((), ((), ((), ((), ((), ((), ((), ((), ((), ((), ((), ()))))))))))))))))).bind (endM (fun _ => .bad))
theorem g_law {P : Program} {w : World} {K : PySem.W.Frag} {mg : Str → Option Value} {base : Heap} {ca : Nat → Addr} {f : Addr} {fd : FuncData} (T : TopFn K mg "law" s_law ["script"] f fd) (z_len : mg "len" = none) (z_list : mg "list" = none) (z_range : mg "range" = none) (z_isinstance : mg "isinstance" = none) (z_tuple : mg "tuple" = none) (z_bool : mg "bool" = none) (z_all : mg "all" = none) (z_max : mg "max" = none) (e__law_pool : Ex P w K mg base "_law_pool" (spL K ca (.one (tF tI)) (cR (.cons (tL tI) (.cons tI (.cons tI (.one tI))))) m__law_pool) 1) (e__law_draw : Ex P w K mg base "_law_draw" (spIO K ca (cR (.cons (tL tI) (.cons tI (.cons tI (.one tI))))) (.one tI) tI m__law_draw) 2) (e__law_ring : Ex P w K mg base "_law_ring" (spIO K ca (cR (.cons (tL tI) (.cons tI (.cons tI (.one tI))))) .nil (tLup (.cons (tL (tL tI)) (.one (tL tB)))) m__law_ring) 3) (e__law_drawn : Ex P w K mg base "_law_drawn" (spIO K ca (cR (.cons (tL tI) (.cons tI (.cons tI (.one tI))))) (.one tB) (tLup (.cons (tL (tL tI)) (.one (tL tB)))) m__law_drawn) 4) (e__law_number : Ex P w K mg base "_law_number" (spIO K ca (cR (.cons (tL tI) (.cons tI (.cons tI (.one tI))))) (.one tI) tI m__law_number) 3) (e_grow_or_cap : Ex P w K mg base "grow_or_cap" (spOf K ca (.cons (tL (tLup (.cons (tL tI) (.one tI)))) (.cons tI (.one tI))) (tTup (.cons tSk (.one (tT tI)))) m_grow_or_cap) 5) (e__law_right : Ex P w K mg base "_law_right" (spOf K ca (.cons (tL (tL tI)) (.cons tI (.cons tI (.cons (tTup (.cons tSk (.one (tT tI)))) (.one tB))))) tB m__law_right) 2) (e_growing : Ex P w K mg base "growing" (spOf K ca (.cons (tL (tLup (.cons (tL tI) (.one tI)))) (.one tI)) (tT tB) m_growing) 5) (e_all_growing : Ex P w K mg base "all_growing" (spOf K ca (.cons (tT (tTup (.cons (tT tI) (.one tI)))) (.one tI)) (tO (tT tI)) m_all_growing) 5) (e__law_ints : Ex P w K mg base "_law_ints" (spOf K ca (.cons (tT tI) (.cons tI (.one tI))) tB m__law_ints) 1) (e__law_dotT : Ex P w K mg base "_law_dot" (spOf K ca (.cons (tL tI) (.one (tT tI))) tI m__law_dotT) 1) (e__law_refused : Ex P w K mg base "_law_refused" (spOf K ca (.cons (tL (tLup (.cons (tL tI) (.one tI)))) (.cons tI (.one tI))) tSk m__law_refused) 6) (e__law_long : Ex P w K mg base "_law_long" (spOf K ca (.cons (tL (tLup (.cons (tL tI) (.one tI)))) (.one tI)) tSk m__law_long) 6) : FnOk P w K mg base (L2.CX P w) 7 f fd ["script"] (spOf K ca (.one (tF tI)) tB m_law) :=
  fn_mk (m := 15) (dn := fun _ => .bad) T.F sc_law (Ini.one (Anys.s (Anys.s (Anys.s (Anys.s (Anys.s (Anys.s (Anys.s (Anys.s (Anys.s (Anys.s (Anys.s (Anys.s (Anys.s (Anys.s (Anys.s Anys.nil)))))))))))))))) rfl rfl (fun E => w_law.2 P w K mg base ca 6 E ⟨z_len, rfl, by decide, by decide⟩ ⟨z_list, rfl, by decide, by decide⟩ ⟨z_range, rfl, by decide, by decide⟩ ⟨z_isinstance, rfl, by decide, by decide⟩ ⟨z_tuple, rfl, by decide, by decide⟩ ⟨z_bool, rfl, by decide, by decide⟩ ⟨z_all, rfl, by decide, by decide⟩ ⟨z_max, rfl, by decide, by decide⟩ (e__law_pool.calleeL (by decide)) (e__law_draw.calleeIO (by decide)) (e__law_ring.calleeIO (by decide)) (e__law_drawn.calleeIO (by decide)) (e__law_number.calleeIO (by decide)) (e_grow_or_cap.callee (by decide)) (e__law_right.callee (by decide)) (e_growing.callee (by decide)) (e_all_growing.callee (by decide)) (e__law_ints.callee (by decide)) (e__law_dotT.callee (by decide)) (e__law_refused.callee (by decide)) (e__law_long.callee (by decide)))
theorem f_law {P : Program} {w : World} {K : PySem.W.Frag} {mg : Str → Option Value} {base : Heap} {ca : Nat → Addr} {f : Addr} {fd : FuncData} (T : TopFn K mg "law" s_law ["script"] f fd) (z_len : mg "len" = none) (z_list : mg "list" = none) (z_range : mg "range" = none) (z_isinstance : mg "isinstance" = none) (z_tuple : mg "tuple" = none) (z_bool : mg "bool" = none) (z_all : mg "all" = none) (z_max : mg "max" = none) (e__law_pool : Ex P w K mg base "_law_pool" (spL K ca (.one (tF tI)) (cR (.cons (tL tI) (.cons tI (.cons tI (.one tI))))) m__law_pool) 1) (e__law_draw : Ex P w K mg base "_law_draw" (spIO K ca (cR (.cons (tL tI) (.cons tI (.cons tI (.one tI))))) (.one tI) tI m__law_draw) 2) (e__law_ring : Ex P w K mg base "_law_ring" (spIO K ca (cR (.cons (tL tI) (.cons tI (.cons tI (.one tI))))) .nil (tLup (.cons (tL (tL tI)) (.one (tL tB)))) m__law_ring) 3) (e__law_drawn : Ex P w K mg base "_law_drawn" (spIO K ca (cR (.cons (tL tI) (.cons tI (.cons tI (.one tI))))) (.one tB) (tLup (.cons (tL (tL tI)) (.one (tL tB)))) m__law_drawn) 4) (e__law_number : Ex P w K mg base "_law_number" (spIO K ca (cR (.cons (tL tI) (.cons tI (.cons tI (.one tI))))) (.one tI) tI m__law_number) 3) (e_grow_or_cap : Ex P w K mg base "grow_or_cap" (spOf K ca (.cons (tL (tLup (.cons (tL tI) (.one tI)))) (.cons tI (.one tI))) (tTup (.cons tSk (.one (tT tI)))) m_grow_or_cap) 5) (e__law_right : Ex P w K mg base "_law_right" (spOf K ca (.cons (tL (tL tI)) (.cons tI (.cons tI (.cons (tTup (.cons tSk (.one (tT tI)))) (.one tB))))) tB m__law_right) 2) (e_growing : Ex P w K mg base "growing" (spOf K ca (.cons (tL (tLup (.cons (tL tI) (.one tI)))) (.one tI)) (tT tB) m_growing) 5) (e_all_growing : Ex P w K mg base "all_growing" (spOf K ca (.cons (tT (tTup (.cons (tT tI) (.one tI)))) (.one tI)) (tO (tT tI)) m_all_growing) 5) (e__law_ints : Ex P w K mg base "_law_ints" (spOf K ca (.cons (tT tI) (.cons tI (.one tI))) tB m__law_ints) 1) (e__law_dotT : Ex P w K mg base "_law_dot" (spOf K ca (.cons (tL tI) (.one (tT tI))) tI m__law_dotT) 1) (e__law_refused : Ex P w K mg base "_law_refused" (spOf K ca (.cons (tL (tLup (.cons (tL tI) (.one tI)))) (.cons tI (.one tI))) tSk m__law_refused) 6) (e__law_long : Ex P w K mg base "_law_long" (spOf K ca (.cons (tL (tLup (.cons (tL tI) (.one tI)))) (.one tI)) tSk m__law_long) 6) : Ex P w K mg base "law" (spOf K ca (.one (tF tI)) tB m_law) 7 :=
  ⟨f, fd, ["script"], g_law T z_len z_list z_range z_isinstance z_tuple z_bool z_all z_max e__law_pool e__law_draw e__law_ring e__law_drawn e__law_number e_grow_or_cap e__law_right e_growing e_all_growing e__law_ints e__law_dotT e__law_refused e__law_long, T.hm, T.F.kp, T.bd⟩
end T30
namespace TL
/-! M0: rules for outcomes. -/
theorem Rs.ok_bind {α β : Type} (a : α) (k : α → Rs β) : (Rs.ok a).bind k = k a := of_eq_true (eq_true rfl)
theorem Rs.bind_assoc {α β γ : Type} (r : Rs α) (k : α → Rs β) (l : β → Rs γ) : (r.bind k).bind l = r.bind fun a => (k a).bind l := by cases r <;> rfl
theorem Rs.guard_true {α : Type} (r : Rs α) : Rs.guard true r = r := rfl
theorem Rs.guard_of {α : Type} {c : Bool} (h : c = true) (r : Rs α) : Rs.guard c r = r := by rw [h]; rfl
theorem Rs.bind_ite {α β : Type} (c : Prop) [Decidable c] (a b : Rs α) (k : α → Rs β) : (if c then a else b).bind k = if c then a.bind k else b.bind k := by split <;> rfl
theorem then_nx {ρ S S' L : Type} (k : S → Rs (Fl ρ S' L)) (s : S) : Fl.then k (.nx s) = k s := of_eq_true (eq_true rfl)
theorem then_rt {ρ S S' L : Type} (k : S → Rs (Fl ρ S' L)) (r : ρ) : Fl.then k (.rt r : Fl ρ S L) = .ok (.rt r) := of_eq_true (eq_true rfl)
theorem endM_rt {ρ S : Type} (dn : S → Rs ρ) (r : ρ) : endM dn (.rt r) = .ok r := of_eq_true (eq_true rfl)
theorem endM_nx {ρ S : Type} (dn : S → Rs ρ) (s : S) : endM dn (.nx s) = dn s := of_eq_true (eq_true rfl)
theorem ofOpt_some {α : Type} (a : α) : Rs.ofOpt (some a) = .ok a := of_eq_true (eq_true rfl)
theorem forM_nil {β ρ S L : Type} (b : β → S → Rs (Fl ρ S S)) (s : S) : forM (L := L) b [] s = .ok (.nx s) := of_eq_true (eq_true rfl)
theorem forM_cons {β ρ S L : Type} (b : β → S → Rs (Fl ρ S S)) (x : β) (r : List β) (s : S) : forM (L := L) b (x :: r) s = (b x s).bind (forK (β := β) (forM b r)) := of_eq_true (eq_true rfl)
theorem forK_nx {β ρ S L : Type} (k : S → Rs (Fl ρ S L)) (s : S) : forK (β := β) k (.nx s) = k s := of_eq_true (eq_true rfl)
theorem forK_ct {β ρ S L : Type} (k : S → Rs (Fl ρ S L)) (s : S) : forK (β := β) k (.ct s) = k s := of_eq_true (eq_true rfl)
theorem forK_bk {β ρ S L : Type} (k : S → Rs (Fl ρ S L)) (s : S) : forK (β := β) k (.bk s) = .ok (.nx s) := of_eq_true (eq_true rfl)
theorem forK_rt {β ρ S L : Type} (k : S → Rs (Fl ρ S L)) (r : ρ) : forK (β := β) k (.rt r) = .ok (.rt r) := of_eq_true (eq_true rfl)
theorem whileM_succ {ρ S L : Type} (c : S → Rs (Bool × S)) (b : S → Rs (Fl ρ S S)) (n : Nat) (s : S) : whileM (L := L) c b (n + 1) s = (c s).bind fun r => if r.1 then (b r.2).bind (forK (β := Unit) (whileM c b n)) else .ok (.nx r.2) := of_eq_true (eq_true rfl)
theorem forK_nxU {ρ S L : Type} (k : S → Rs (Fl ρ S L)) (s : S) : forK (β := Unit) k (.nx s) = k s := of_eq_true (eq_true rfl)
/-- a loop that always goes on -/
theorem forM_nx {β ρ S L : Type} {b : β → S → Rs (Fl ρ S S)} (f : S → β → S) (P : S → Prop) : ∀ (xs : List β) (s : S), P s → (∀ x ∈ xs, ∀ s, P s → b x s = .ok (.nx (f s x)) ∧ P (f s x)) → forM (L := L) b xs s = .ok (.nx (xs.foldl f s)) ∧ P (xs.foldl f s)
  | [], s, hP, _ => ⟨rfl, hP⟩
  | x :: r, s, hP, h => by
    obtain ⟨h1, h2⟩ := h x List.mem_cons_self s hP
    rw [forM_cons, h1, Rs.ok_bind, forK_nx]
    exact forM_nx f P r _ h2 fun y hy => h y (List.mem_cons_of_mem _ hy)
/-- .. in a goal -/
theorem for_goal {β ρ S L α : Type} {b : β → S → Rs (Fl ρ S S)} {xs : List β} {s : S} {k : Fl ρ S L → Rs α} {r : Rs α} (f : S → β → S) (P : S → Prop) (hP : P s) (hs : ∀ x ∈ xs, ∀ s, P s → b x s = .ok (.nx (f s x)) ∧ P (f s x)) (hk : P (xs.foldl f s) → k (.nx (xs.foldl f s)) = r) : (forM b xs s).bind k = r := by
  obtain ⟨h1, h2⟩ := forM_nx (L := L) f P xs s hP hs
  rw [h1]
  exact hk h2
/-- .. with what is left -/
theorem forM_nxR {β ρ S L : Type} {b : β → S → Rs (Fl ρ S S)} (f : S → β → S) (P : List β → S → Prop) : ∀ (xs : List β) (s : S), P xs s → (∀ x r s, P (x :: r) s → b x s = .ok (.nx (f s x)) ∧ P r (f s x)) → forM (L := L) b xs s = .ok (.nx (xs.foldl f s)) ∧ P [] (xs.foldl f s)
  | [], s, hP, _ => ⟨rfl, hP⟩
  | x :: r, s, hP, h => by
    obtain ⟨h1, h2⟩ := h x r s hP
    rw [forM_cons, h1, Rs.ok_bind, forK_nx]
    exact forM_nxR f P r _ h2 h
theorem for_goalR {β ρ S L α : Type} {b : β → S → Rs (Fl ρ S S)} {xs : List β} {s : S} {k : Fl ρ S L → Rs α} {r : Rs α} (f : S → β → S) (P : List β → S → Prop) (hP : P xs s) (hs : ∀ x r s, P (x :: r) s → b x s = .ok (.nx (f s x)) ∧ P r (f s x)) (hk : P [] (xs.foldl f s) → k (.nx (xs.foldl f s)) = r) : (forM b xs s).bind k = r := by
  obtain ⟨h1, h2⟩ := forM_nxR (L := L) f P xs s hP hs
  rw [h1]
  exact hk h2
/-- .. by what stays true alone -/
theorem forM_ex {β ρ S L : Type} {b : β → S → Rs (Fl ρ S S)} (P : S → Prop) : ∀ (xs : List β) (s : S), P s → (∀ x ∈ xs, ∀ s, P s → ∃ s', b x s = .ok (.nx s') ∧ P s') → ∃ s', forM (L := L) b xs s = .ok (.nx s') ∧ P s'
  | [], s, hP, _ => ⟨s, rfl, hP⟩
  | x :: r, s, hP, h => by
    obtain ⟨s1, h1, h2⟩ := h x List.mem_cons_self s hP
    rw [forM_cons, h1, Rs.ok_bind, forK_nx]
    exact forM_ex P r _ h2 fun y hy => h y (List.mem_cons_of_mem _ hy)
theorem ex_goal {β ρ S L α : Type} {b : β → S → Rs (Fl ρ S S)} {xs : List β} {s : S} {k : Fl ρ S L → Rs α} {r : Rs α} (P : S → Prop) (hP : P s) (hs : ∀ x ∈ xs, ∀ s, P s → ∃ s', b x s = .ok (.nx s') ∧ P s') (hk : ∀ s', P s' → k (.nx s') = r) : (forM b xs s).bind k = r := by
  obtain ⟨s', h1, h2⟩ := forM_ex (L := L) P xs s hP hs
  rw [h1]
  exact hk s' h2
theorem ex_ex {β ρ S L ρ' S' L' : Type} {b : β → S → Rs (Fl ρ S S)} {xs : List β} {s : S} {k : Fl ρ S L → Rs (Fl ρ' S' L')} {Q : S' → Prop} (P : S → Prop) (hP : P s) (hs : ∀ x ∈ xs, ∀ s, P s → ∃ s', b x s = .ok (.nx s') ∧ P s') (hk : ∀ s1, P s1 → ∃ s', k (.nx s1) = .ok (.nx s') ∧ Q s') : ∃ s', (forM b xs s).bind k = .ok (.nx s') ∧ Q s' := by
  obtain ⟨s', h1, h2⟩ := forM_ex (L := L) P xs s hP hs
  rw [h1]
  exact hk s' h2
theorem forM_exR {β ρ S L : Type} {b : β → S → Rs (Fl ρ S S)} (P : List β → S → Prop) : ∀ (xs : List β) (s : S), P xs s → (∀ x r s, P (x :: r) s → ∃ s', b x s = .ok (.nx s') ∧ P r s') → ∃ s', forM (L := L) b xs s = .ok (.nx s') ∧ P [] s'
  | [], s, hP, _ => ⟨s, rfl, hP⟩
  | x :: r, s, hP, h => by
    obtain ⟨s1, h1, h2⟩ := h x r s hP
    rw [forM_cons, h1, Rs.ok_bind, forK_nx]
    exact forM_exR P r _ h2 h
theorem exR_goal {β ρ S L α : Type} {b : β → S → Rs (Fl ρ S S)} {xs : List β} {s : S} {k : Fl ρ S L → Rs α} {r : Rs α} (P : List β → S → Prop) (hP : P xs s) (hs : ∀ x r s, P (x :: r) s → ∃ s', b x s = .ok (.nx s') ∧ P r s') (hk : ∀ s', P [] s' → k (.nx s') = r) : (forM b xs s).bind k = r := by
  obtain ⟨s', h1, h2⟩ := forM_exR (L := L) P xs s hP hs
  rw [h1]
  exact hk s' h2
theorem lc2M_ok {β γ : Type} {g : β → Rs (List γ)} (f : β → List γ) : ∀ xs : List β, (∀ x ∈ xs, g x = .ok (f x)) → lc2M g xs = .ok (xs.flatMap f)
  | [], _ => rfl
  | x :: r, h => by
    unfold lc2M
    rw [h x List.mem_cons_self, Rs.ok_bind, lc2M_ok f r fun y hy => h y (List.mem_cons_of_mem _ hy)]
    rfl
theorem dcM_new {γ : Type} {g : (Int × Int) → Rs (Option ((Int × Int) × γ))} (v : γ) (hg : ∀ b, g b = .ok (some (b, v))) : ∀ (bs : List (Int × Int)) (acc : List ((Int × Int) × γ)), (acc.map (·.1) ++ bs).Nodup → dcM g bs acc = .ok (acc ++ bs.map fun b => (b, v))
  | [], acc, _ => by simp [dcM]
  | b :: r, acc, h => by
    unfold dcM
    rw [hg b, Rs.ok_bind]
    have hb : (acc.any fun q => decide (q.1 = b)) = false := by
      rw [List.any_eq_false]
      intro q hq
      have := (List.nodup_append.mp h).2.2 q.1 (List.mem_map.mpr ⟨q, hq, rfl⟩) b List.mem_cons_self
      simpa using this
    have e : putA acc b v = acc ++ [(b, v)] := by unfold putA; rw [hb]; rfl
    show dcM g r (putA acc b v) = _
    rw [e, dcM_new v hg r (acc ++ [(b, v)]) (by simpa using h)]
    simp
/-- .. a loop that may hand back: the first place where it does -/
theorem forM_find {β ρ S L : Type} {b : β → S → Rs (Fl ρ S S)} (f : S → β → S) (P : S → Prop) (q : β → Option ρ) : ∀ (xs : List β) (s : S), P s → (∀ x ∈ xs, ∀ s, P s → b x s = (match q x with | some r => .ok (.rt r) | none => .ok (.nx (f s x))) ∧ P (f s x)) → forM (L := L) b xs s = match xs.findSome? q with | some r => .ok (.rt r) | none => .ok (.nx (xs.foldl f s))
  | [], s, hP, _ => rfl
  | x :: r, s, hP, h => by
    obtain ⟨h1, h2⟩ := h x List.mem_cons_self s hP
    rw [forM_cons, h1, List.findSome?_cons]
    cases q x with
    | some z => rfl
    | none => exact forM_find f P q r _ h2 fun y hy => h y (List.mem_cons_of_mem _ hy)
theorem find_goal {β ρ S L α : Type} {b : β → S → Rs (Fl ρ S S)} {xs : List β} {s : S} {k : Fl ρ S L → Rs α} {r : Rs α} (f : S → β → S) (P : S → Prop) (q : β → Option ρ) (hP : P s) (hs : ∀ x ∈ xs, ∀ s, P s → b x s = (match q x with | some r => .ok (.rt r) | none => .ok (.nx (f s x))) ∧ P (f s x))
    (hk : P (xs.foldl f s) → (match xs.findSome? q with | some z => k (.rt z) | none => k (.nx (xs.foldl f s))) = r) : (forM b xs s).bind k = r := by
  have hk := hk (by
    clear hk
    induction xs generalizing s with
    | nil => exact hP
    | cons x l ih => exact ih (hs x List.mem_cons_self s hP).2 fun y hy => hs y (List.mem_cons_of_mem _ hy))
  rw [forM_find (L := L) f P q xs s hP hs]
  cases h : xs.findSome? q with
  | some z => rw [h] at hk; exact hk
  | none => rw [h] at hk; exact hk
/-- a comprehension without surprises -/
theorem lcM_map {β γ : Type} {g : β → Rs (Option γ)} (f : β → γ) : ∀ (xs : List β), (∀ x ∈ xs, g x = .ok (some (f x))) → lcM g xs = .ok (xs.map f)
  | [], _ => rfl
  | x :: r, h => by
    unfold lcM
    rw [h x List.mem_cons_self, Rs.ok_bind, lcM_map f r fun y hy => h y (List.mem_cons_of_mem _ hy)]
    rfl
theorem lcM_tt {β γ : Type} (f : β → γ) (xs : List β) : lcM (fun b => nox (lcT (Rs.ok true) (Rs.ok (f b)))) xs = .ok (xs.map f) := lcM_map f xs fun x _ => rfl
theorem lcM_fmap {β γ : Type} {g : β → Rs (Option γ)} (f : β → Option γ) : ∀ (xs : List β), (∀ x ∈ xs, g x = .ok (f x)) → lcM g xs = .ok (xs.filterMap f)
  | [], _ => rfl
  | x :: r, h => by
    unfold lcM
    rw [h x List.mem_cons_self, Rs.ok_bind, lcM_fmap f r fun y hy => h y (List.mem_cons_of_mem _ hy)]
    cases hx : f x <;> simp [Rs.ok_bind, List.filterMap_cons, hx]
theorem findSome_if {α β : Type} (p : α → Bool) (g : α → β) : ∀ xs : List α, xs.findSome? (fun t => if p t = true then some (g t) else none) = (xs.find? p).map g
  | [] => rfl
  | x :: r => by
    rw [List.findSome?_cons, List.find?_cons]
    cases h : p x with
    | true => simp
    | false => simp [findSome_if p g r]
theorem rangeL_mem {lo hi x : Int} (h : x ∈ rangeL lo hi) : lo ≤ x ∧ x < hi := by
  unfold rangeL at h
  obtain ⟨i, hi, rfl⟩ := List.mem_map.mp h
  have := List.mem_range.mp hi
  omega
theorem sl_take {α : Type} (xs : List α) {k : Int} (h : 0 ≤ k) : sl xs none (some k) = xs.take k.toNat := by
  unfold sl
  rw [HT.sIx_none]
  have e : HT.sIx xs.length xs.length (some k) = min k.toNat xs.length := by
    have := HT.sIx_nat xs.length xs.length k.toNat
    rwa [show ((k.toNat : Nat) : Int) = k by omega] at this
  rw [e, Nat.sub_zero, List.drop_zero]
  rcases Nat.le_total k.toNat xs.length with h | h
  · rw [Nat.min_eq_left h]
  · rw [Nat.min_eq_right h, List.take_of_length_le (Nat.le_refl _), List.take_of_length_le h]
theorem sl_drop {α : Type} (xs : List α) {k : Int} (h : 0 ≤ k) : sl xs (some k) none = xs.drop k.toNat := by
  unfold sl
  rw [HT.sIx_none]
  have e : HT.sIx xs.length 0 (some k) = min k.toNat xs.length := by
    have := HT.sIx_nat xs.length 0 k.toNat
    rwa [show ((k.toNat : Nat) : Int) = k by omega] at this
  rw [e]
  rcases Nat.le_total k.toNat xs.length with h | h
  · rw [Nat.min_eq_left h, List.take_of_length_le (by rw [List.length_drop]; exact Nat.le_refl _)]
  · rw [Nat.min_eq_right h, List.drop_eq_nil_of_le h, List.drop_eq_nil_of_le (Nat.le_refl _)]
    simp
theorem ixN_in {n : Nat} {i : Int} (h0 : 0 ≤ i) (h : i < n) : L2.ixN n i = some i.toNat := by
  unfold L2.ixN
  rw [if_pos h0, if_pos h]
theorem atI_in {α : Type} {xs : List α} {i : Int} (h0 : 0 ≤ i) (h : i < xs.length) : L2.atI xs i = xs[i.toNat]? := by
  unfold L2.atI
  rw [ixN_in h0 h]
  rfl
theorem rgOk_of {hi : Int} (h : hi ≤ 16777216) (h0 : 0 ≤ hi) : rgOk 0 hi = true := by
  unfold rgOk
  rw [decide_eq_true_eq, PySem.sizeLine_eq]
  omega
end TL
namespace TL
/-! M0b: outcomes that are values, with what is known of them. -/
def Okp {α : Type} (r : Rs α) (P : α → Prop) : Prop := ∃ a, r = .ok a ∧ P a
theorem Okp.ok {α : Type} {a : α} {P : α → Prop} (h : P a) : Okp (.ok a) P := ⟨a, rfl, h⟩
theorem Okp.bind {α β : Type} {r : Rs α} {k : α → Rs β} {P : β → Prop} (h : Okp r fun a => Okp (k a) P) : Okp (r.bind k) P := by
  obtain ⟨a, rfl, b, e, hb⟩ := h
  exact ⟨b, by rw [Rs.ok_bind, e], hb⟩
theorem Okp.mono {α : Type} {r : Rs α} {P Q : α → Prop} (h : Okp r P) (f : ∀ a, P a → Q a) : Okp r Q := let ⟨a, e, p⟩ := h; ⟨a, e, f a p⟩
theorem Okp.step {α β : Type} {r : Rs α} {k : α → Rs β} {P : β → Prop} {R : α → Prop} (h : Okp r R) (f : ∀ a, R a → Okp (k a) P) : Okp (r.bind k) P := Okp.bind (h.mono f)
theorem Okp.guard {α : Type} {c : Bool} {r : Rs α} {P : α → Prop} (hc : c = true) (h : Okp r P) : Okp (Rs.guard c r) P := by rw [Rs.guard_of hc]; exact h
theorem Okp.eq {α : Type} {r : Rs α} {x : α} (h : Okp r fun a => a = x) : r = .ok x := by
  obtain ⟨a, e, rfl⟩ := h
  exact e
theorem Okp.of {α : Type} {r : Rs α} {x : α} {P : α → Prop} (h : r = .ok x) (p : P x) : Okp r P := ⟨x, h, p⟩
theorem Okp.forR {β ρ S L α : Type} {b : β → S → Rs (Fl ρ S S)} {xs : List β} {s : S} {k : Fl ρ S L → Rs α} {Q : α → Prop} (P : List β → S → Prop) (hP : P xs s)
    (hs : ∀ x r s, P (x :: r) s → Okp (b x s) fun fl => ∃ s', (fl = .nx s' ∨ fl = .ct s') ∧ P r s') (hk : ∀ s', P [] s' → Okp (k (.nx s')) Q) : Okp ((forM b xs s).bind k) Q := by
  induction xs generalizing s with
  | nil => rw [forM_nil, Rs.ok_bind]; exact hk s hP
  | cons x r ih =>
    obtain ⟨fl, e, s', hf, p⟩ := hs x r s hP
    rw [forM_cons, e, Rs.ok_bind]
    rcases hf with rfl | rfl
    · rw [forK_nx]; exact ih p
    · rw [forK_ct]; exact ih p
theorem Okp.for {β ρ S L α : Type} {b : β → S → Rs (Fl ρ S S)} {xs : List β} {s : S} {k : Fl ρ S L → Rs α} {Q : α → Prop} (P : S → Prop) (hP : P s)
    (hs : ∀ x ∈ xs, ∀ s, P s → Okp (b x s) fun fl => ∃ s', (fl = .nx s' ∨ fl = .ct s') ∧ P s') (hk : ∀ s', P s' → Okp (k (.nx s')) Q) : Okp ((forM b xs s).bind k) Q :=
  Okp.forR (fun l s => (∀ x ∈ l, x ∈ xs) ∧ P s) ⟨fun _ h => h, hP⟩ (fun x r s h => (hs x (h.1 x List.mem_cons_self) s h.2).mono fun fl ⟨s', e, p⟩ => ⟨s', e, fun y hy => h.1 y (List.mem_cons_of_mem _ hy), p⟩) fun s' h => hk s' h.2
/-- .. with what is behind and what is left -/
theorem Okp.forS {β ρ S L α : Type} {b : β → S → Rs (Fl ρ S S)} {xs : List β} {s : S} {k : Fl ρ S L → Rs α} {Q : α → Prop} (P : List β → S → Prop) (hP : P [] s)
    (hs : ∀ d x r s, d ++ x :: r = xs → P d s → Okp (b x s) fun fl => ∃ s', (fl = .nx s' ∨ fl = .ct s') ∧ P (d ++ [x]) s') (hk : ∀ s', P xs s' → Okp (k (.nx s')) Q) : Okp ((forM b xs s).bind k) Q :=
  Okp.forR (fun l s => ∃ d, d ++ l = xs ∧ P d s) ⟨[], rfl, hP⟩ (fun x r s ⟨d, e, h⟩ => (hs d x r s e h).mono fun fl ⟨s', e', p⟩ => ⟨s', e', d ++ [x], by rw [← e]; simp, p⟩) fun s' ⟨d, e, h⟩ => hk s' (by rw [List.append_nil] at e; rw [← e]; exact h)
theorem Okp.ite {α : Type} {c : Prop} [Decidable c] {a b : Rs α} {P : α → Prop} (h1 : c → Okp a P) (h2 : ¬ c → Okp b P) : Okp (if c then a else b) P := by
  split
  · exact h1 (by assumption)
  · exact h2 (by assumption)
theorem Okp.and {x y : Rs Bool} {P : Bool → Prop} (h : Okp x fun a => (a = true → Okp y P) ∧ (a = false → P false)) : Okp (rAnd x y) P := by
  obtain ⟨a, rfl, h1, h2⟩ := h
  cases a with
  | true => exact h1 rfl
  | false => exact ⟨false, rfl, h2 rfl⟩
theorem Okp.or {x y : Rs Bool} {P : Bool → Prop} (h : Okp x fun a => (a = false → Okp y P) ∧ (a = true → P true)) : Okp (rOr x y) P := by
  obtain ⟨a, rfl, h1, h2⟩ := h
  cases a with
  | false => exact h1 rfl
  | true => exact ⟨true, rfl, h2 rfl⟩
/-- a loop that may hand back or break off -/
theorem Okp.forE {β ρ S L α : Type} {b : β → S → Rs (Fl ρ S S)} {xs : List β} {s : S} {k : Fl ρ S L → Rs α} {Q : α → Prop} (P : List β → S → Prop) (E : ρ → Prop) (B : S → Prop) (hP : P xs s)
    (hs : ∀ x r s, P (x :: r) s → Okp (b x s) fun fl => (∃ s', (fl = .nx s' ∨ fl = .ct s') ∧ P r s') ∨ (∃ z, fl = .rt z ∧ E z) ∨ ∃ s', fl = .bk s' ∧ B s') (hk : ∀ s', P [] s' → Okp (k (.nx s')) Q) (he : ∀ z, E z → Okp (k (.rt z)) Q) (hb : ∀ s', B s' → Okp (k (.nx s')) Q) : Okp ((forM b xs s).bind k) Q := by
  induction xs generalizing s with
  | nil => rw [forM_nil, Rs.ok_bind]; exact hk s hP
  | cons x r ih =>
    obtain ⟨fl, e, h⟩ := hs x r s hP
    rw [forM_cons, e, Rs.ok_bind]
    rcases h with ⟨s', rfl | rfl, p⟩ | ⟨z, rfl, p⟩ | ⟨s', rfl, p⟩
    · rw [forK_nx]; exact ih p
    · rw [forK_ct]; exact ih p
    · rw [forK_rt, Rs.ok_bind]; exact he z p
    · rw [forK_bk, Rs.ok_bind]; exact hb s' p
theorem Okp.lcE {β γ S : Type} {g : β → S → Rs (Option γ × S)} (P : List β → S → List γ → Prop) (hs : ∀ x r s ys, P (x :: r) s ys → Okp (g x s) fun o => P r o.2 (ys ++ o.1.toList)) : ∀ (xs : List β) (s : S) (acc : List γ), P xs s acc → Okp (TL.lcE g xs s) fun r => P [] r.2 (acc ++ r.1)
  | [], s, acc, h => ⟨_, rfl, by show P [] s (acc ++ []); rw [List.append_nil]; exact h⟩
  | x :: r, s, acc, h => by
    unfold TL.lcE
    refine (hs x r s acc h).step fun o ho => ?_
    refine (Okp.lcE P hs r o.2 _ ho).step fun ys hy => Okp.ok ?_
    rw [← List.append_assoc]
    exact hy
theorem Okp.nox {α : Type} {r : Rs α} {P : α → Prop} (h : Okp r P) : Okp (TL.nox r) P := by
  obtain ⟨a, rfl, p⟩ := h
  exact ⟨a, rfl, p⟩
theorem Okp.cases {α : Type} {r : Rs α} {P : α → Prop} (h : Okp r P) : ∃ a, r = .ok a ∧ P a := h
theorem Okp.go {α β : Type} {r : Rs α} {a : α} {k : α → Rs β} {P : β → Prop} (h : r = .ok a) (h2 : Okp (k a) P) : Okp (r.bind k) P := Okp.bind ⟨a, h, h2⟩
theorem Okp.goG {α β : Type} {c : Bool} {r : Rs α} {a : α} {k : α → Rs β} {P : β → Prop} (hc : c = true) (h : r = .ok a) (h2 : Okp (k a) P) : Okp ((Rs.guard c r).bind k) P := Okp.bind ⟨a, by rw [Rs.guard_of hc]; exact h, h2⟩
theorem Okp.goO {α β : Type} {o : Option α} {a : α} {k : α → Rs β} {P : β → Prop} (h : o = some a) (h2 : Okp (k a) P) : Okp ((Rs.ofOpt o).bind k) P := Okp.bind ⟨a, by rw [h]; rfl, h2⟩
end TL
/-! S15: sums, and determinants of rows by expansion along the first row. -/
namespace SP
def sm : Nat → (Nat → Int) → Int
  | 0, _ => 0
  | n + 1, f => sm n f + f n
theorem sm_congr : ∀ {n : Nat} {f g : Nat → Int}, (∀ i, i < n → f i = g i) → sm n f = sm n g
  | 0, _, _, _ => rfl
  | n + 1, f, g, h => by unfold sm; rw [sm_congr fun i hi => h i (by omega), h n (by omega)]
theorem sm_add : ∀ (n : Nat) (f g : Nat → Int), sm n (fun i => f i + g i) = sm n f + sm n g
  | 0, _, _ => rfl
  | n + 1, f, g => by
    show sm n (fun i => f i + g i) + (f n + g n) = (sm n f + f n) + (sm n g + g n)
    rw [sm_add n]; omega
theorem sm_mul : ∀ (n : Nat) (c : Int) (f : Nat → Int), sm n (fun i => c * f i) = c * sm n f
  | 0, c, _ => by simp [sm]
  | n + 1, c, f => by unfold sm; rw [sm_mul n, Int.mul_add]
theorem sm_zero : ∀ (n : Nat), sm n (fun _ => 0) = 0
  | 0 => rfl
  | n + 1 => by unfold sm; rw [sm_zero n]; rfl
theorem sm_le : ∀ {n : Nat} {f g : Nat → Int}, (∀ i, i < n → f i ≤ g i) → sm n f ≤ sm n g
  | 0, _, _, _ => Int.le_refl _
  | n + 1, f, g, h => by
    unfold sm
    have h1 : sm n f ≤ sm n g := sm_le (n := n) fun i hi => h i (by omega)
    have h2 := h n (by omega)
    omega
theorem sm_nn {n : Nat} {f : Nat → Int} (h : ∀ i, i < n → 0 ≤ f i) : 0 ≤ sm n f := by
  have := sm_le (n := n) (f := fun _ => 0) (g := f) h
  rwa [sm_zero] at this
theorem sm_neg (n : Nat) (f : Nat → Int) : sm n (fun i => -f i) = -sm n f := by
  have := sm_mul n (-1) f
  rw [show (fun i => -f i) = fun i => -1 * f i from funext fun i => by omega, this]
  omega
/-- one member alone -/
theorem sm_one : ∀ {n k : Nat} {f : Nat → Int}, k < n → (∀ i, i < n → i ≠ k → f i = 0) → sm n f = f k
  | 0, k, f, h, _ => by omega
  | n + 1, k, f, h, h0 => by
    unfold sm
    by_cases e : k = n
    · subst e
      rw [sm_congr (g := fun _ => 0) fun i hi => h0 i (by omega) (by omega), sm_zero, Int.zero_add]
    · rw [sm_one (show k < n by omega) fun i hi ne => h0 i (by omega) ne, h0 n (by omega) (by omega), Int.add_zero]
theorem sm_abs : ∀ (n : Nat) (f : Nat → Int), (sm n f).natAbs ≤ sm n fun i => ((f i).natAbs : Int)
  | 0, _ => by simp [sm]
  | n + 1, f => by
    have := sm_abs n f
    show ((sm n f + f n).natAbs : Int) ≤ (sm n fun i => ((f i).natAbs : Int)) + ((f n).natAbs : Int)
    omega
/-- what is paired off with its opposite -/
theorem sm_tri : ∀ (N : Nat) (h : Nat → Nat → Int), (∀ j l, j ≤ l → l < N → h (l + 1) j = -h j l) → sm (N + 1) (fun j => sm N (fun l => h j l)) = 0
  | 0, h, _ => by simp [sm]
  | N + 1, h, hh => by
    have ih := sm_tri N h fun j l a b => hh j l a (by omega)
    have e1 : sm (N + 1 + 1) (fun j => sm (N + 1) fun l => h j l) = sm (N + 1) (fun j => sm (N + 1) fun l => h j l) + sm (N + 1) fun l => h (N + 1) l := rfl
    have e2 : sm (N + 1) (fun j => sm (N + 1) fun l => h j l) = sm (N + 1) (fun j => sm N (fun l => h j l)) + sm (N + 1) fun j => h j N := by
      rw [← sm_add]; rfl
    have e3 : sm (N + 1) (fun l => h (N + 1) l) = -sm (N + 1) fun j => h j N := by
      rw [← sm_neg]
      exact sm_congr fun j hj => hh j N (by omega) (by omega)
    omega
def skip (j i : Nat) : Nat := if i < j then i else i + 1
def sgn : Nat → Int
  | 0 => 1
  | n + 1 => -sgn n
def dt : Nat → (Nat → Nat → Int) → Int
  | 0, _ => 1
  | m + 1, A => sm (m + 1) fun j => sgn j * A 0 j * dt m fun k i => A (k + 1) (skip j i)
theorem dt_congr : ∀ {m : Nat} {A B : Nat → Nat → Int}, (∀ k i, k < m → i < m → A k i = B k i) → dt m A = dt m B
  | 0, _, _, _ => rfl
  | m + 1, A, B, h => by
    unfold dt
    refine sm_congr fun j hj => ?_
    rw [h 0 j (by omega) hj, dt_congr fun k i hk hi => h (k + 1) (skip j i) (by omega) (by unfold skip; split <;> omega)]
def rep (A : Nat → Nat → Int) (k : Nat) (u : Nat → Int) : Nat → Nat → Int := fun k' i => if k' = k then u i else A k' i
theorem rep_same {A : Nat → Nat → Int} {k : Nat} {u : Nat → Int} : rep A k u k = u := by funext i; simp [rep]
theorem rep_ne {A : Nat → Nat → Int} {k j : Nat} {u : Nat → Int} (h : j ≠ k) : rep A k u j = A j := by funext i; simp [rep, h]
theorem rep_rep {A : Nat → Nat → Int} {k : Nat} {u w : Nat → Int} : rep (rep A k u) k w = rep A k w := by funext j i; by_cases h : j = k <;> simp [rep, h]
theorem rep_comm {A : Nat → Nat → Int} {k j : Nat} {u w : Nat → Int} (h : j ≠ k) : rep (rep A k u) j w = rep (rep A j w) k u := by
  funext a i
  by_cases h1 : a = j
  · subst h1; simp [rep, h]
  · by_cases h2 : a = k
    · subst h2; simp [rep, h1]
    · simp [rep, h1, h2]
theorem rep_self {A : Nat → Nat → Int} {k : Nat} : rep A k (A k) = A := by funext j i; by_cases h : j = k <;> simp [rep, h]
theorem dt_lin : ∀ {m : Nat} {A : Nat → Nat → Int} {k : Nat} {x y : Int} {u w : Nat → Int}, k < m → dt m (rep A k fun i => x * u i + y * w i) = x * dt m (rep A k u) + y * dt m (rep A k w)
  | m + 1, A, 0, x, y, u, w, _ => by
    unfold dt
    rw [← sm_mul, ← sm_mul, ← sm_add]
    refine sm_congr fun j hj => ?_
    have e : ∀ v : Nat → Int, (fun k i => rep A 0 v (k + 1) (skip j i)) = fun k i => A (k + 1) (skip j i) := fun v => by funext k i; simp [rep]
    rw [e, e, e]
    simp only [rep_same]
    grind
  | m + 1, A, k + 1, x, y, u, w, h => by
    unfold dt
    rw [← sm_mul, ← sm_mul, ← sm_add]
    refine sm_congr fun j hj => ?_
    have e : ∀ v : Nat → Int, (fun a i => rep A (k + 1) v (a + 1) (skip j i)) = rep (fun a i => A (a + 1) (skip j i)) k fun i => v (skip j i) := fun v => by funext a i; simp [rep]
    have z : ∀ v : Nat → Int, rep A (k + 1) v 0 = A 0 := fun v => rep_ne (by omega)
    rw [e, e, e, z, z, z, dt_lin (show k < m by omega)]
    grind
theorem skip_skip {j l i : Nat} (h : j ≤ l) : skip (l + 1) (skip j i) = skip j (skip l i) := by
  unfold skip
  repeat' split
  all_goals omega
theorem dt_adj : ∀ {m : Nat} {A : Nat → Nat → Int} {k : Nat}, k + 1 < m → A k = A (k + 1) → dt m A = 0
  | m + 2, A, 0, _, e => by
    unfold dt
    have key : ∀ j, (sgn j * A 0 j * dt (m + 1) fun k i => A (k + 1) (skip j i)) = sm (m + 1) fun l => sgn j * A 0 j * (sgn l * A 0 (skip j l) * dt m fun k i => A (k + 2) (skip j (skip l i))) := fun j => by
      rw [sm_mul]
      congr 1
      show (sm (m + 1) fun l => sgn l * A (0 + 1) (skip j l) * dt m fun k i => A (k + 1 + 1) (skip j (skip l i))) = _
      rw [← e]
    rw [sm_congr fun j _ => key j]
    refine sm_tri (m + 1) (fun j l => sgn j * A 0 j * (sgn l * A 0 (skip j l) * dt m fun k i => A (k + 2) (skip j (skip l i)))) fun j l a b => ?_
    have e1 : skip (l + 1) j = j := by unfold skip; rw [if_pos (by omega)]
    have e2 : skip j l = l + 1 := by unfold skip; rw [if_neg (by omega)]
    have e3 : (fun k i => A (k + 2) (skip (l + 1) (skip j i))) = fun k i => A (k + 2) (skip j (skip l i)) := by
      funext k i
      rw [skip_skip a]
    simp only [e1, e2, e3, sgn]
    grind
  | m + 1, A, k + 1, h, e => by
    unfold dt
    rw [sm_congr (g := fun _ => 0) fun j hj => ?_, sm_zero]
    rw [dt_adj (show k + 1 < m by omega) (by funext i; exact congrFun e (skip j i))]
    simp
theorem dt_swap {m : Nat} {A : Nat → Nat → Int} {k : Nat} {u w : Nat → Int} (h : k + 1 < m) : dt m (rep (rep A k u) (k + 1) w) = -dt m (rep (rep A k w) (k + 1) u) := by
  have zero : ∀ v : Nat → Int, dt m (rep (rep A k v) (k + 1) v) = 0 := fun v => dt_adj h (by rw [rep_same, rep_ne (by omega), rep_same])
  have l1 : ∀ z : Nat → Int, dt m (rep (rep A k fun i => 1 * u i + 1 * w i) (k + 1) z) = dt m (rep (rep A k u) (k + 1) z) + dt m (rep (rep A k w) (k + 1) z) := fun z => by
    rw [rep_comm (show k + 1 ≠ k by omega), dt_lin (show k < m by omega), rep_comm (show k ≠ k + 1 by omega), rep_comm (show k ≠ k + 1 by omega)]
    omega
  have l2 : ∀ z : Nat → Int, dt m (rep (rep A k z) (k + 1) fun i => 1 * u i + 1 * w i) = dt m (rep (rep A k z) (k + 1) u) + dt m (rep (rep A k z) (k + 1) w) := fun z => by
    rw [dt_lin h]
    omega
  have := zero fun i => 1 * u i + 1 * w i
  rw [l1, l2, l2, zero, zero] at this
  omega
theorem dt_same : ∀ (n : Nat) {m : Nat} {A : Nat → Nat → Int} {i : Nat}, i + 1 + n < m → A i = A (i + 1 + n) → dt m A = 0
  | 0, m, A, i, h, e => dt_adj h e
  | n + 1, m, A, i, h, e => by
    have e0 : A = rep (rep A (i + 1 + n) (A (i + 1 + n))) (i + 1 + n + 1) (A (i + 1 + (n + 1))) := by
      rw [rep_self]
      exact rep_self.symm
    rw [e0, dt_swap (by omega), dt_same n (A := rep (rep A (i + 1 + n) (A (i + 1 + (n + 1)))) (i + 1 + n + 1) (A (i + 1 + n))) (i := i) (by omega) ?_]
    · rfl
    · rw [rep_ne (by omega), rep_ne (by omega), rep_ne (by omega), rep_same, e]
/-- two equal rows -/
theorem dt_eq0 {m i j : Nat} {A : Nat → Nat → Int} (hi : i < m) (hj : j < m) (ne : i ≠ j) (e : A i = A j) : dt m A = 0 := by
  rcases Nat.lt_or_ge i j with h | h
  · exact dt_same (j - i - 1) (i := i) (by omega) (by rw [e]; congr 1; omega)
  · exact dt_same (i - j - 1) (i := j) (by omega) (by rw [← e]; congr 1; omega)
/-- two rows exchanged -/
theorem dt_exch {m i j : Nat} {A : Nat → Nat → Int} {u w : Nat → Int} (hi : i < m) (hj : j < m) (ne : i ≠ j) : dt m (rep (rep A i u) j w) = -dt m (rep (rep A i w) j u) := by
  have zero : ∀ v : Nat → Int, dt m (rep (rep A i v) j v) = 0 := fun v => dt_eq0 hi hj ne (by rw [rep_same, rep_ne ne, rep_same])
  have l1 : ∀ z : Nat → Int, dt m (rep (rep A i fun k => 1 * u k + 1 * w k) j z) = dt m (rep (rep A i u) j z) + dt m (rep (rep A i w) j z) := fun z => by
    rw [rep_comm (Ne.symm ne), dt_lin hi, rep_comm ne, rep_comm ne]
    omega
  have l2 : ∀ z : Nat → Int, dt m (rep (rep A i z) j fun k => 1 * u k + 1 * w k) = dt m (rep (rep A i z) j u) + dt m (rep (rep A i z) j w) := fun z => by
    rw [dt_lin hj]
    omega
  have := zero fun k => 1 * u k + 1 * w k
  rw [l1, l2, l2, zero, zero] at this
  omega
/-- a row that is a sum of many -/
theorem dt_sum {m k : Nat} {A : Nat → Nat → Int} (hk : k < m) (c : Nat → Int) (b : Nat → Nat → Int) : ∀ n : Nat, dt m (rep A k fun i => sm n fun j => c j * b j i) = sm n fun j => c j * dt m (rep A k (b j))
  | 0 => by
    have := dt_lin (A := A) (x := 0) (y := 0) (u := fun _ => 0) (w := fun _ => 0) hk
    simp only [sm]
    rw [show (fun i : Nat => (0 : Int)) = fun i => 0 * (fun _ => 0 : Nat → Int) i + 0 * (fun _ => 0 : Nat → Int) i from by funext i; simp, this]
    simp
  | n + 1 => by
    have := dt_lin (A := A) (x := 1) (y := c n) (u := fun i => sm n fun j => c j * b j i) (w := b n) hk
    simp only [sm]
    rw [← dt_sum hk c b n]
    rw [show (fun i => (sm n fun j => c j * b j i) + c n * b n i) = fun i => 1 * (fun i => sm n fun j => c j * b j i) i + c n * b n i from by funext i; simp, this]
    omega
/-- the unit rows -/
theorem dt_unit : ∀ m : Nat, dt m (fun k i => if k = i then 1 else 0) = 1
  | 0 => rfl
  | m + 1 => by
    unfold dt
    rw [sm_one (k := 0) (by omega) fun i hi ne => by simp [Ne.symm ne]]
    have e : (fun k i => if k + 1 = skip 0 i then (1 : Int) else 0) = fun k i => if k = i then 1 else 0 := by
      funext k i
      simp [skip]
    simp only [e, dt_unit m, sgn]
    simp
def pr : Nat → (Nat → Int) → Int
  | 0, _ => 1
  | n + 1, f => pr n f * f n
theorem sm_skip {f : Nat → Int} : ∀ {m j : Nat}, j ≤ m → sm m (fun i => f (skip j i)) + f j = sm (m + 1) f
  | 0, j, h => by
    obtain rfl : j = 0 := by omega
    simp [sm]
  | m + 1, j, h => by
    by_cases e : j = m + 1
    · subst e
      have : sm (m + 1) (fun i => f (skip (m + 1) i)) = sm (m + 1) f := sm_congr fun i hi => by unfold skip; rw [if_pos hi]
      rw [this]; rfl
    · have ih := sm_skip (f := f) (show j ≤ m by omega)
      have e1 : sm (m + 1) (fun i => f (skip j i)) = sm m (fun i => f (skip j i)) + f (skip j m) := rfl
      have e2 : skip j m = m + 1 := by unfold skip; rw [if_neg (by omega)]
      have e3 : sm (m + 1 + 1) f = sm (m + 1) f + f (m + 1) := rfl
      rw [e1, e2, e3, ← ih]
      omega
theorem pr_succ' : ∀ (n : Nat) (f : Nat → Int), pr (n + 1) f = f 0 * pr n fun k => f (k + 1)
  | 0, f => by simp [pr]
  | n + 1, f => by
    rw [pr, pr_succ' n f, pr, Int.mul_assoc]
theorem pr_nn : ∀ {n : Nat} {f : Nat → Int}, (∀ i, i < n → 0 ≤ f i) → 0 ≤ pr n f
  | 0, _, _ => by simp [pr]
  | n + 1, f, h => Int.mul_nonneg (pr_nn fun i hi => h i (by omega)) (h n (by omega))
theorem pr_le : ∀ {n : Nat} {f g : Nat → Int}, (∀ i, i < n → 0 ≤ f i ∧ f i ≤ g i) → pr n f ≤ pr n g
  | 0, _, _, _ => Int.le_refl _
  | n + 1, f, g, h => by
    have h1 : pr n f ≤ pr n g := pr_le (n := n) fun i hi => h i (by omega)
    have h2 := h n (by omega)
    exact Int.le_trans (Int.mul_le_mul_of_nonneg_right h1 h2.1) (Int.mul_le_mul_of_nonneg_left h2.2 (pr_nn fun i hi => by have := h i (by omega); omega))
theorem dt_abs : ∀ (m : Nat) (A : Nat → Nat → Int), ((dt m A).natAbs : Int) ≤ pr m fun k => sm m fun i => ((A k i).natAbs : Int)
  | 0, A => by simp [dt, pr]
  | m + 1, A => by
    unfold dt
    refine Int.le_trans (sm_abs _ _) ?_
    rw [pr_succ']
    have sg : ∀ j, (sgn j).natAbs = 1 := fun j => by
      induction j with
      | zero => rfl
      | succ j ih => unfold sgn; omega
    have h : ∀ j, j < m + 1 → ((sgn j * A 0 j * dt m fun k i => A (k + 1) (skip j i)).natAbs : Int) ≤ (pr m fun k => sm (m + 1) fun i => ((A (k + 1) i).natAbs : Int)) * ((A 0 j).natAbs : Int) := fun j hj => by
      rw [Int.natAbs_mul, Int.natAbs_mul, sg, Nat.one_mul, Int.natCast_mul, Int.mul_comm]
      refine Int.mul_le_mul_of_nonneg_right (Int.le_trans (dt_abs m _) (pr_le fun k hk => ⟨sm_nn fun i _ => by omega, ?_⟩)) (by omega)
      have := sm_skip (f := fun i => ((A (k + 1) i).natAbs : Int)) (show j ≤ m by omega)
      omega
    refine Int.le_trans (sm_le h) ?_
    rw [sm_mul]
    exact Int.le_of_eq (Int.mul_comm _ _)
end SP
/-! S16: tableaus without fractions; two of them; Bland's rule. -/
namespace SP
def un (k : Nat) : Nat → Int := fun i => if k = i then 1 else 0
def bas (m : Nat) (col : Nat → Nat → Int) (dn : Nat → Nat) : Nat → Nat → Int := fun k => if k < m then col (dn k) else un m
theorem bas_lt {m : Nat} {col : Nat → Nat → Int} {dn : Nat → Nat} {k : Nat} (h : k < m) : bas m col dn k = col (dn k) := if_pos h
theorem bas_m {m : Nat} {col : Nat → Nat → Int} {dn : Nat → Nat} : bas m col dn m = un m := if_neg (by omega)
structure Tb (N m : Nat) (col : Nat → Nat → Int) (F : Nat → Nat → Int) (dn : Nat → Nat) (d : Int) : Prop where
  pos : 0 < d
  det : d = dt (m + 1) (bas m col dn)
  ent : ∀ k v, k ≤ m → v < N → F k v = dt (m + 1) (rep (bas m col dn) k (col v))
  rel : ∀ v i, v < N → i ≤ m → d * col v i = sm (m + 1) fun k => F k v * bas m col dn k i
  lt : ∀ k, k < m → dn k < N
  inj : ∀ i j, i < m → j < m → dn i = dn j → i = j
def updN (f : Nat → Nat) (k v : Nat) : Nat → Nat := fun i => if i = k then v else f i
theorem bas_upd {m : Nat} {col : Nat → Nat → Int} {dn : Nat → Nat} {k0 c : Nat} (h : k0 < m) : bas m col (updN dn k0 c) = rep (bas m col dn) k0 (col c) := by
  funext k i
  unfold bas rep updN
  by_cases e : k = k0
  · subst e; simp [h]
  · simp [e]
section
variable {N m : Nat} {col F : Nat → Nat → Int} {dn : Nat → Nat} {d : Int}
theorem Tb.own (T : Tb N m col F dn d) {k : Nat} (h : k < m) : F k (dn k) = d := by
  rw [T.ent k _ (by omega) (T.lt k h), T.det, ← bas_lt (col := col) h, rep_self]
theorem Tb.other (T : Tb N m col F dn d) {k i : Nat} (h : i < m) (hk : k ≤ m) (ne : k ≠ i) : F k (dn i) = 0 := by
  rw [T.ent k _ hk (T.lt i h)]
  exact dt_eq0 (i := k) (j := i) (by omega) (by omega) ne (by rw [rep_same, rep_ne (Ne.symm ne), bas_lt h])
theorem sm_upd {n k0 : Nat} {f g : Nat → Int} (h : k0 < n) (he : ∀ k, k < n → k ≠ k0 → f k = g k) : sm n f = sm n g + (f k0 - g k0) := by
  have h1 : sm n f = sm n (fun k => g k + (f k - g k)) := sm_congr fun k _ => by omega
  rw [h1, sm_add, sm_one (n := n) (f := fun k => f k - g k) (k := k0) h fun k hk ne => by have := he k hk ne; show f k - g k = 0; omega]
/-- a sum as a row -/
theorem Tb.lin (T : Tb N m col F dn d) {v k : Nat} (hk : k ≤ m) (hv : v < N) {B : Nat → Nat → Int} : d * dt (m + 1) (rep B k (col v)) = sm (m + 1) fun i => F i v * dt (m + 1) (rep B k (bas m col dn i)) := by
  have h1 : d * dt (m + 1) (rep B k (col v)) = dt (m + 1) (rep B k fun i => d * col v i) := by
    have := dt_lin (m := m + 1) (A := B) (k := k) (x := d) (y := 0) (u := col v) (w := col v) (by omega)
    rw [show (fun i => d * col v i) = fun i => d * col v i + 0 * col v i from by funext i; omega, this]
    omega
  rw [h1, ← dt_sum (by omega)]
  refine dt_congr fun a i ha hi => ?_
  unfold rep
  split
  · exact T.rel v i hv (by omega)
  · rfl
/-- what an exchange makes -/
theorem Tb.turn (T : Tb N m col F dn d) {k0 c : Nat} (h0 : k0 < m) (hc : c < N) (hp : 0 < F k0 c) :
    ∃ F', Tb N m col F' (updN dn k0 c) (F k0 c) ∧ (∀ v, v < N → F' k0 v = F k0 v) ∧ ∀ k v, k ≤ m → k ≠ k0 → v < N → d * F' k v = F k c * (-F k0 v) + F k v * F k0 c := by
  have e0 : ∀ v, v < N → dt (m + 1) (rep (rep (bas m col dn) k0 (col c)) k0 (col v)) = F k0 v := fun v hv => by rw [rep_rep, T.ent k0 v (by omega) hv]
  have e1 : ∀ k v, k ≤ m → k ≠ k0 → v < N → d * dt (m + 1) (rep (rep (bas m col dn) k0 (col c)) k (col v)) = F k c * (-F k0 v) + F k v * F k0 c := fun k v hk ne hv => by
    rw [T.lin hk hv]
    have h2 : ∀ i, i < m + 1 → i ≠ k → i ≠ k0 → dt (m + 1) (rep (rep (bas m col dn) k0 (col c)) k (bas m col dn i)) = 0 := fun i hi n1 n2 =>
      dt_eq0 (i := k) (j := i) (by omega) hi (Ne.symm n1) (by rw [rep_same, rep_ne n1, rep_ne n2])
    have h3 : dt (m + 1) (rep (rep (bas m col dn) k0 (col c)) k (bas m col dn k)) = F k0 c := by
      rw [T.ent k0 c (by omega) hc]
      congr 1
      rw [rep_comm ne, rep_self]
    have h4 : dt (m + 1) (rep (rep (bas m col dn) k0 (col c)) k (bas m col dn k0)) = -F k c := by
      rw [dt_exch (by omega) (by omega) (Ne.symm ne), T.ent k c hk hc, rep_self]
    have h5 : sm (m + 1) (fun i => F i v * dt (m + 1) (rep (rep (bas m col dn) k0 (col c)) k (bas m col dn i))) = sm (m + 1) (fun i => (if i = k then F k v * F k0 c else 0) + if i = k0 then F k0 v * (-F k c) else 0) := sm_congr fun i hi => by
      by_cases a1 : i = k
      · subst a1
        rw [if_pos rfl, if_neg ne, h3]; omega
      · by_cases a2 : i = k0
        · subst a2
          rw [if_neg a1, if_pos rfl, h4]; omega
        · rw [if_neg a1, if_neg a2, h2 i hi a1 a2]; simp
    rw [h5, sm_add, sm_one (k := k) (by omega) (fun i _ ne => by rw [if_neg ne]), sm_one (k := k0) (by omega) (fun i _ ne => by rw [if_neg ne]), if_pos rfl, if_pos rfl]
    grind
  refine ⟨fun k v => dt (m + 1) (rep (bas m col (updN dn k0 c)) k (col v)), ⟨hp, ?_, fun _ _ _ _ => rfl, fun v i hv hi => ?_, fun k hk => ?_, fun i j hi hj e => ?_⟩, fun v hv => ?_, fun k v hk ne hv => ?_⟩
  · rw [bas_upd h0, T.ent k0 c (by omega) hc]
  · simp only [bas_upd h0]
    have hd := T.pos
    refine Int.eq_of_mul_eq_mul_left (a := d) (by omega) ?_
    rw [← sm_mul]
    have r1 := T.rel v i hv hi
    have r2 := T.rel c i hc hi
    have key : sm (m + 1) (fun k => d * (dt (m + 1) (rep (rep (bas m col dn) k0 (col c)) k (col v)) * rep (bas m col dn) k0 (col c) k i)) = sm (m + 1) (fun k => F k0 c * (F k v * bas m col dn k i) + (-F k0 v) * (F k c * bas m col dn k i)) + d * F k0 v * col c i := by
      rw [sm_upd (k0 := k0) (g := fun k => F k0 c * (F k v * bas m col dn k i) + (-F k0 v) * (F k c * bas m col dn k i)) (by omega) fun k hk ne => ?_]
      · simp only [rep_same, e0 v hv, rep_rep]
        have e2 : dt (m + 1) (rep (bas m col dn) k0 (col v)) = F k0 v := (T.ent k0 v (by omega) hv).symm
        rw [e2]
        grind
      · have := e1 k v (by omega) ne hv
        simp only [rep_ne ne]
        rw [← Int.mul_assoc, this]
        grind
    rw [key, sm_add, sm_mul, sm_mul, ← r1, ← r2]
    grind
  · unfold updN
    split
    · exact hc
    · exact T.lt k hk
  · have key : ∀ i, i < m → i ≠ k0 → dn i ≠ c := fun i hi ne e => by
      have := T.other hi (show k0 ≤ m by omega) (Ne.symm ne)
      rw [e] at this
      omega
    unfold updN at e
    by_cases a : i = k0 <;> by_cases b : j = k0
    · omega
    · rw [if_pos a, if_neg b] at e
      exact absurd e.symm (key j hj b)
    · rw [if_neg a, if_pos b] at e
      exact absurd e (key i hi a)
    · rw [if_neg a, if_neg b] at e
      exact T.inj i j hi hj e
  · show dt (m + 1) (rep (bas m col (updN dn k0 c)) k0 (col v)) = _
    rw [bas_upd h0]
    exact e0 v hv
  · show d * dt (m + 1) (rep (bas m col (updN dn k0 c)) k (col v)) = _
    rw [bas_upd h0]
    exact e1 k v hk ne hv
/-- the last row at the unit -/
theorem Tb.last (T : Tb N m col F dn d) : dt (m + 1) (rep (bas m col dn) m (un m)) = d := by
  rw [T.det, ← bas_m (m := m) (col := col) (dn := dn), rep_self]
/-- two tableaus -/
theorem Tb.two {F2 : Nat → Nat → Int} {dn2 : Nat → Nat} {d2 : Int} (T : Tb N m col F dn d) (T2 : Tb N m col F2 dn2 d2) {s : Nat} (hs : s < N) : d * F2 m s = sm m (fun k => F k s * F2 m (dn k)) + F m s * d2 := by
  rw [T2.ent m s (by omega) hs, T.lin (by omega) hs]
  show sm m (fun i => F i s * dt (m + 1) (rep (bas m col dn2) m (bas m col dn i))) + F m s * dt (m + 1) (rep (bas m col dn2) m (bas m col dn m)) = _
  rw [bas_m, T2.last]
  congr 1
  refine sm_congr fun k hk => ?_
  rw [bas_lt hk, ← T2.ent m _ (by omega) (T.lt k hk)]
theorem sm_pos : ∀ {n : Nat} {f : Nat → Int}, 0 < sm n f → ∃ i, i < n ∧ 0 < f i
  | 0, f, h => by simp [sm] at h
  | n + 1, f, h => by
    by_cases e : 0 < f n
    · exact ⟨n, by omega, e⟩
    · have h' : 0 < sm n f := by
        have : sm (n + 1) f = sm n f + f n := rfl
        omega
      obtain ⟨i, hi, h2⟩ := sm_pos h'
      exact ⟨i, by omega, h2⟩
/-- Bland: what left for s does not come back while all above it stands still -/
theorem bland {F2 : Nat → Nat → Int} {dn2 : Nat → Nat} {d2 : Int} (T : Tb N m col F dn d) (T2 : Tb N m col F2 dn2 d2) {s k1 : Nat} (hs : s < N) (h1 : k1 < m) (e1 : F m s < 0) (e2 : 0 < F k1 s) (e3 : ∀ k, k < m → 0 < F k s → dn k1 ≤ dn k)
    (e4 : F2 m (dn k1) < 0) (e5 : ∀ v, v < N → F2 m v < 0 → dn k1 ≤ v) (e6 : s < dn k1) (e7 : ∀ k, k < m → dn k1 < dn k → ∃ j, j < m ∧ dn2 j = dn k) : False := by
  have h := T.two T2 hs
  have p1 := T.pos
  have p2 := T2.pos
  have q1 : 0 ≤ F2 m s := by
    rcases Int.lt_or_le (F2 m s) 0 with q | q
    · have := e5 s hs q; omega
    · exact q
  have q2 : 0 ≤ d * F2 m s := Int.mul_nonneg (by omega) q1
  have q3 : F m s * d2 < 0 := Int.mul_neg_of_neg_of_pos e1 p2
  obtain ⟨k, hk, q4⟩ := sm_pos (show 0 < sm m fun k => F k s * F2 m (dn k) by omega)
  rcases Nat.lt_trichotomy (dn k) (dn k1) with r | r | r
  · have a : 0 ≤ F2 m (dn k) := by
      rcases Int.lt_or_le (F2 m (dn k)) 0 with q | q
      · have := e5 _ (T.lt k hk) q; omega
      · exact q
    have b : 0 < F k s := by
      rcases Int.lt_or_le 0 (F k s) with q | q
      · exact q
      · have := Int.mul_nonneg (show 0 ≤ -F k s by omega) a
        have e : -F k s * F2 m (dn k) = -(F k s * F2 m (dn k)) := Int.neg_mul _ _
        omega
    have := e3 k hk b
    omega
  · obtain rfl := T.inj k k1 hk h1 r
    have := Int.mul_neg_of_pos_of_neg e2 e4
    omega
  · obtain ⟨j, hj, e⟩ := e7 k hk r
    have := T2.other hj (show m ≤ m by omega) (by omega)
    rw [e] at this
    rw [this] at q4
    omega
end
end SP
/-! S17: a run of exchanges by Bland's rule does not come back: it is short. -/
namespace SP
structure St where
  F : Nat → Nat → Int
  dn : Nat → Nat
  d : Int
structure Stp (N m : Nat) (col : Nat → Nat → Int) (S S' : St) (s k1 : Nat) : Prop where
  T : Tb N m col S.F S.dn S.d
  T' : Tb N m col S'.F S'.dn S'.d
  hs : s < N
  neg : S.F m s < 0
  first : ∀ v, v < N → S.F m v < 0 → s ≤ v
  hk : k1 < m
  pos : 0 < S.F k1 s
  least : ∀ k, k < m → 0 < S.F k s → S.dn k1 ≤ S.dn k
  dn : ∀ k, k < m → S'.dn k = updN S.dn k1 s k
def In (m : Nat) (S : St) (v : Nat) : Prop := ∃ k, k < m ∧ S.dn k = v
section
variable {N m : Nat} {col : Nat → Nat → Int} {S S' : St} {s k1 : Nat}
theorem Stp.out (h : Stp N m col S S' s k1) : ¬ In m S s := fun ⟨k, hk, e⟩ => by
  have := h.T.other hk (show m ≤ m by omega) (by omega)
  rw [e] at this
  have := h.neg
  omega
theorem Stp.in' (h : Stp N m col S S' s k1) (v : Nat) : In m S' v ↔ (In m S v ∧ v ≠ S.dn k1) ∨ v = s := by
  constructor
  · rintro ⟨k, hk, e⟩
    rw [h.dn k hk] at e
    unfold updN at e
    split at e
    · exact .inr e.symm
    · refine .inl ⟨⟨k, hk, e⟩, fun z => ?_⟩
      have := h.T.inj k k1 hk h.hk (by omega)
      contradiction
  · rintro (⟨⟨k, hk, e⟩, ne⟩ | e)
    · refine ⟨k, hk, ?_⟩
      rw [h.dn k hk]
      unfold updN
      rw [if_neg fun z => ne (by rw [← e, z])]
      exact e
    · exact ⟨k1, h.hk, by rw [h.dn k1 h.hk]; unfold updN; rw [if_pos rfl, e]⟩
end
structure Run (N m : Nat) (col : Nat → Nat → Int) (R : Nat → St) (s k : Nat → Nat) (i j : Nat) : Prop where
  step : ∀ q, i ≤ q → q < j → Stp N m col (R q) (R (q + 1)) (s q) (k q)
section
variable {N m : Nat} {col : Nat → Nat → Int} {R : Nat → St} {s k : Nat → Nat} {i j : Nat}
/-- who is out at first and in at last came in -/
theorem Run.comes (h : Run N m col R s k i j) {v : Nat} : ∀ n a, i ≤ a → a + n ≤ j → ¬ In m (R a) v → In m (R (a + n)) v → ∃ q, a ≤ q ∧ q < a + n ∧ v = s q
  | 0, a, _, _, h1, h2 => absurd h2 h1
  | n + 1, a, ha, hb, h1, h2 => by
    by_cases z : In m (R (a + n)) v
    · obtain ⟨q, q1, q2, q3⟩ := h.comes n a ha (by omega) h1 z
      exact ⟨q, q1, by omega, q3⟩
    · rcases ((h.step (a + n) (by omega) (by omega)).in' v).mp h2 with ⟨y, _⟩ | y
      · exact absurd y z
      · exact ⟨a + n, by omega, by omega, y⟩
theorem Run.goes (h : Run N m col R s k i j) {v : Nat} : ∀ n a, i ≤ a → a + n ≤ j → In m (R a) v → ¬ In m (R (a + n)) v → ∃ q, a ≤ q ∧ q < a + n ∧ v = (R q).dn (k q)
  | 0, a, _, _, h1, h2 => absurd h1 h2
  | n + 1, a, ha, hb, h1, h2 => by
    by_cases z : In m (R (a + n)) v
    · have st := (h.step (a + n) (by omega) (by omega)).in' v
      refine ⟨a + n, by omega, by omega, ?_⟩
      by_cases y : v = (R (a + n)).dn (k (a + n))
      · exact y
      · exact absurd (st.mpr (.inl ⟨z, y⟩)) h2
    · obtain ⟨q, q1, q2, q3⟩ := h.goes n a ha (by omega) h1 z
      exact ⟨q, q1, by omega, q3⟩
/-- who never moves stays as it is -/
theorem Run.still (h : Run N m col R s k i j) {v : Nat} (hv : ∀ q, i ≤ q → q < j → v ≠ s q ∧ v ≠ (R q).dn (k q)) : ∀ n a, i ≤ a → a + n ≤ j → (In m (R a) v ↔ In m (R (a + n)) v)
  | 0, a, _, _ => Iff.rfl
  | n + 1, a, ha, hb => by
    refine (h.still hv n a ha (by omega)).trans ?_
    obtain ⟨n1, n2⟩ := hv (a + n) (by omega) (by omega)
    rw [show a + (n + 1) = a + n + 1 by omega, (h.step (a + n) (by omega) (by omega)).in' v]
    constructor
    · exact fun z => .inl ⟨z, n2⟩
    · rintro (z | z)
      · exact z.1
      · exact absurd z n1
def Mv (R : Nat → St) (s k : Nat → Nat) (i j v : Nat) : Prop := ∃ q, i ≤ q ∧ q < j ∧ (v = s q ∨ v = (R q).dn (k q))
theorem top_of {P : Nat → Prop} : ∀ N : Nat, (∃ v, v < N ∧ P v) → ∃ t, t < N ∧ P t ∧ ∀ v, v < N → P v → v ≤ t
  | 0, ⟨v, h, _⟩ => by omega
  | N + 1, ⟨v, h, hv⟩ => by
    by_cases e : P N
    · exact ⟨N, by omega, e, fun v h _ => by omega⟩
    · have hv' : v < N := by
        rcases Nat.lt_or_ge v N with z | z
        · exact z
        · obtain rfl : v = N := by omega
          exact absurd hv e
      obtain ⟨t, t1, t2, t3⟩ := top_of N ⟨v, hv', hv⟩
      refine ⟨t, by omega, t2, fun u hu pu => ?_⟩
      rcases Nat.lt_or_ge u N with z | z
      · exact t3 u z pu
      · obtain rfl : u = N := by omega
        exact absurd pu e
theorem Run.no_cycle (h : Run N m col R s k i j) (hij : i < j) : ¬ ∀ v, v < N → (In m (R i) v ↔ In m (R j) v) := fun same => by
  have lt : ∀ v, Mv R s k i j v → v < N := by
    rintro v ⟨q, q1, q2, rfl | rfl⟩
    · exact (h.step q q1 q2).hs
    · exact (h.step q q1 q2).T.lt _ (h.step q q1 q2).hk
  obtain ⟨t, t1, t2, t3⟩ := top_of (P := Mv R s k i j) N ⟨s i, lt _ ⟨i, by omega, hij, .inl rfl⟩, i, by omega, hij, .inl rfl⟩
  have same := same t t1
  have lv : ∀ q, i ≤ q → q < j → ∀ v, v = (R q).dn (k q) → In m (R q) v ∧ ¬ In m (R (q + 1)) v := fun q a b v e => by
    have st := h.step q a b
    have hin : In m (R q) v := ⟨k q, st.hk, e.symm⟩
    refine ⟨hin, fun z => ?_⟩
    rcases (st.in' v).mp z with y | y
    · exact y.2 e
    · exact st.out (by rw [← y]; exact hin)
  have en : ∀ q, i ≤ q → q < j → ∀ v, v = s q → ¬ In m (R q) v ∧ In m (R (q + 1)) v := fun q a b v e => by
    have st := h.step q a b
    exact ⟨by rw [e]; exact st.out, (st.in' v).mpr (.inr e)⟩
  have both : (∃ q, i ≤ q ∧ q < j ∧ t = s q) ∧ ∃ q, i ≤ q ∧ q < j ∧ t = (R q).dn (k q) := by
    obtain ⟨q, q1, q2, e | e⟩ := t2
    · refine ⟨⟨q, q1, q2, e⟩, ?_⟩
      obtain ⟨a, b⟩ := en q q1 q2 t e
      by_cases z : In m (R i) t
      · obtain ⟨p, p1, p2, p3⟩ := h.goes (q - i) i (by omega) (by omega) z (by rw [show i + (q - i) = q by omega]; exact a)
        exact ⟨p, p1, by omega, p3⟩
      · obtain ⟨p, p1, p2, p3⟩ := h.goes (j - (q + 1)) (q + 1) (by omega) (by omega) b (by rw [show q + 1 + (j - (q + 1)) = j by omega]; exact fun y => z (same.mpr y))
        exact ⟨p, by omega, by omega, p3⟩
    · refine ⟨?_, ⟨q, q1, q2, e⟩⟩
      obtain ⟨a, b⟩ := lv q q1 q2 t e
      by_cases z : In m (R i) t
      · obtain ⟨p, p1, p2, p3⟩ := h.comes (j - (q + 1)) (q + 1) (by omega) (by omega) b (by rw [show q + 1 + (j - (q + 1)) = j by omega]; exact same.mp z)
        exact ⟨p, by omega, by omega, p3⟩
      · obtain ⟨p, p1, p2, p3⟩ := h.comes (q - i) i (by omega) (by omega) z (by rw [show i + (q - i) = q by omega]; exact a)
        exact ⟨p, p1, by omega, p3⟩
  obtain ⟨⟨q2, a2, b2, e2⟩, q1, a1, b1, e1⟩ := both
  have s1 := h.step q1 a1 b1
  have s2 := h.step q2 a2 b2
  refine bland s1.T s2.T s1.hs s1.hk s1.neg s1.pos s1.least (by rw [← e1, e2]; exact s2.neg) (fun v hv hn => by rw [← e1, e2]; exact s2.first v hv hn) ?_ fun x hx hlt => ?_
  · have le := t3 (s q1) s1.hs ⟨q1, a1, b1, .inl rfl⟩
    have ne : s q1 ≠ t := fun z => s1.out (by rw [z]; exact (lv q1 a1 b1 t e1).1)
    omega
  · have hv : ∀ q, i ≤ q → q < j → (R q1).dn x ≠ s q ∧ (R q1).dn x ≠ (R q).dn (k q) := fun q a b => by
      have hN := s1.T.lt x hx
      refine ⟨fun z => ?_, fun z => ?_⟩
      · have := t3 _ hN ⟨q, a, b, .inl z⟩; omega
      · have := t3 _ hN ⟨q, a, b, .inr z⟩; omega
    have hin : In m (R q1) ((R q1).dn x) := ⟨x, hx, rfl⟩
    rcases Nat.le_total q1 q2 with z | z
    · have := (h.still hv (q2 - q1) q1 a1 (by omega)).mp hin
      rw [show q1 + (q2 - q1) = q2 by omega] at this
      exact this
    · have := h.still hv (q1 - q2) q2 a2 (by omega)
      rw [show q2 + (q1 - q2) = q1 by omega] at this
      exact this.mpr hin
/-! ### how many -/
def code : List Bool → Nat
  | [] => 0
  | b :: r => (if b then 1 else 0) + 2 * code r
theorem code_lt : ∀ l : List Bool, code l < 2 ^ l.length
  | [] => by simp [code]
  | b :: r => by
    have := code_lt r
    unfold code
    rw [List.length_cons, Nat.pow_succ]
    split <;> omega
theorem code_inj : ∀ {l m : List Bool}, l.length = m.length → code l = code m → l = m
  | [], [], _, _ => rfl
  | b :: r, c :: t, h, e => by
    unfold code at e
    rw [List.length_cons, List.length_cons] at h
    have e2 : code r = code t ∧ b = c := by
      cases b <;> cases c <;> simp at e ⊢ <;> omega
    rw [code_inj (by omega) e2.1, e2.2]
open Classical in
noncomputable def mask (N m : Nat) (S : St) : Nat := code ((List.range N).map fun v => decide (In m S v))
theorem mask_lt {S : St} : mask N m S < 2 ^ N := by
  classical
  have := code_lt ((List.range N).map fun v => decide (In m S v))
  rw [List.length_map, List.length_range] at this
  unfold mask
  exact this
theorem mask_inj {S S' : St} (e : mask N m S = mask N m S') : ∀ v, v < N → (In m S v ↔ In m S' v) := fun v hv => by
  classical
  unfold mask at e
  have := code_inj (by simp) e
  have h := List.map_inj_left.mp this v (List.mem_range.mpr hv)
  exact decide_eq_decide.mp h
theorem Run.short (h : Run N m col R s k 0 j) : j + 1 ≤ 2 ^ N := by
  have nd : ((List.range (j + 1)).map fun q => mask N m (R q)).Nodup := by
    rw [List.nodup_iff_pairwise_ne, List.pairwise_map]
    have pw : (List.range (j + 1)).Pairwise (· < ·) := List.pairwise_lt_range
    have : (List.range (j + 1)).Pairwise (fun a b => a < b ∧ b < j + 1) := by
      rw [List.pairwise_iff_getElem] at pw ⊢
      intro a b ha hb hab
      refine ⟨pw a b ha hb hab, ?_⟩
      simp at hb ⊢
      exact hb
    refine this.imp fun {a b} hab e => ?_
    exact Run.no_cycle (R := R) (s := s) (k := k) (i := a) (j := b) ⟨fun q _ q2 => h.step q (by omega) (by omega)⟩ hab.1 (mask_inj e)
  have hs : ((List.range (j + 1)).map fun q => mask N m (R q)) ⊆ List.range (2 ^ N) := fun x hx => by
    obtain ⟨q, _, rfl⟩ := List.mem_map.mp hx
    exact List.mem_range.mpr mask_lt
  have := List.Nodup.length_le_of_subset nd hs
  simpa using this
end
end SP
/-! S18: rows beside the unit rows: the first tableau; what the last one tells. -/
namespace SP
theorem dt_unit_rep {M k : Nat} {u : Nat → Int} (hk : k < M) : dt M (rep (fun a => un a) k u) = u k := by
  have e : dt M (rep (fun a => un a) k u) = dt M (rep (fun a => un a) k fun i => sm M fun j => u j * un j i) := by
    refine dt_congr fun a i _ hi => ?_
    unfold rep
    split
    · show u i = sm M fun j => u j * un j i
      rw [sm_one (f := fun j => u j * un j i) (k := i) hi fun j _ ne => by unfold un; rw [if_neg ne]; omega]
      unfold un; simp
    · rfl
  rw [e, dt_sum hk, sm_one (k := k) hk fun i hi ne => ?_]
  · have : rep (fun a => un a) k (un k) = fun a => un a := rep_self (A := fun a => un a)
    rw [this]
    have h1 : dt M (fun a => un a) = 1 := by rw [← dt_unit M]; rfl
    rw [h1]; omega
  · rw [dt_eq0 (i := k) (j := i) hk hi (Ne.symm ne) (by rw [rep_same, rep_ne ne])]
    omega
section
variable {n m : Nat} {A : Nat → Nat → Int} {g : Nat → Int}
def colA (n m : Nat) (A : Nat → Nat → Int) (g : Nat → Int) (v : Nat) : Nat → Int := fun i => if v < n then (if i < m then A i v else -(g v)) else un (v - n) i
theorem colA_s {k : Nat} : colA n m A g (n + k) = un k := by
  funext i
  unfold colA
  rw [if_neg (by omega), show n + k - n = k by omega]
theorem bas0 {k : Nat} (h : k ≤ m) : bas m (colA n m A g) (fun k => n + k) k = un k := by
  unfold bas
  split
  · exact colA_s
  · rw [show k = m by omega]
theorem Tb.start : Tb (n + m) m (colA n m A g) (fun k v => colA n m A g v k) (fun k => n + k) 1 := by
  refine ⟨by omega, ?_, fun k v hk hv => ?_, fun v i hv hi => ?_, fun k hk => by omega, fun i j _ _ e => by omega⟩
  · rw [← dt_unit (m + 1)]
    exact dt_congr fun k i hk hi => by rw [bas0 (by omega)]; rfl
  · show colA n m A g v k = _
    rw [← dt_unit_rep (M := m + 1) (u := colA n m A g v) (show k < m + 1 by omega)]
    refine dt_congr fun a i ha hi => ?_
    unfold rep
    split
    · rfl
    · rw [bas0 (by omega)]
  · rw [sm_one (k := i) (by omega) fun k hk ne => by rw [bas0 (by omega)]; unfold un; rw [if_neg ne]; omega, bas0 hi]
    unfold un
    simp
variable {F : Nat → Nat → Int} {dn : Nat → Nat} {d : Int}
/-- the weights -/
theorem Tb.weights (T : Tb (n + m) m (colA n m A g) F dn d) {j : Nat} (hj : j < n) : sm m (fun i => A i j * F m (n + i)) = F m j + d * g j := by
  have e : F m j = dt (m + 1) (rep (bas m (colA n m A g) dn) m fun i => sm (m + 1) fun k => colA n m A g j k * un k i) := by
    rw [T.ent m j (by omega) (by omega)]
    refine dt_congr fun a i _ hi => ?_
    unfold rep
    split
    · show colA n m A g j i = sm (m + 1) fun k => colA n m A g j k * un k i
      rw [sm_one (f := fun k => colA n m A g j k * un k i) (k := i) hi fun k _ ne => by unfold un; rw [if_neg ne]; omega]
      unfold un; simp
    · rfl
  rw [dt_sum (by omega)] at e
  have e2 : F m j = sm m (fun k => colA n m A g j k * dt (m + 1) (rep (bas m (colA n m A g) dn) m (un k))) + colA n m A g j m * dt (m + 1) (rep (bas m (colA n m A g) dn) m (un m)) := e
  rw [T.last] at e2
  have e3 : colA n m A g j m = -(g j) := by unfold colA; rw [if_pos hj, if_neg (by omega)]
  have e4 : sm m (fun k => colA n m A g j k * dt (m + 1) (rep (bas m (colA n m A g) dn) m (un k))) = sm m (fun i => A i j * F m (n + i)) := sm_congr fun i hi => by
    rw [T.ent m (n + i) (by omega) (by omega), colA_s]
    congr 1
    unfold colA
    rw [if_pos hj, if_pos hi]
  rw [e3, e4] at e2
  grind
def X (m : Nat) (F : Nat → Nat → Int) (dn : Nat → Nat) (d : Int) (s v : Nat) : Int := (if v = s then d else 0) - sm m fun k => if v = dn k then F k s else 0
theorem sm_comm : ∀ (N m : Nat) (f : Nat → Nat → Int), sm N (fun v => sm m fun k => f v k) = sm m fun k => sm N fun v => f v k
  | 0, m, f => by
    show (0 : Int) = sm m fun k => 0
    rw [sm_zero]
  | N + 1, m, f => by
    show sm N (fun v => sm m fun k => f v k) + sm m (fun k => f N k) = sm m fun k => sm N (fun v => f v k) + f N k
    rw [sm_comm N m f, sm_add]
theorem Tb.numbers (T : Tb (n + m) m (colA n m A g) F dn d) {s i : Nat} (hs : s < n + m) (hi : i ≤ m) : sm (n + m) (fun v => colA n m A g v i * X m F dn d s v) = F m s * un m i := by
  have h1 : sm (n + m) (fun v => colA n m A g v i * X m F dn d s v) = sm (n + m) (fun v => colA n m A g v i * (if v = s then d else 0)) - sm (n + m) (fun v => sm m fun k => colA n m A g v i * (if v = dn k then F k s else 0)) := by
    have : sm (n + m) (fun v => colA n m A g v i * X m F dn d s v) = sm (n + m) (fun v => colA n m A g v i * (if v = s then d else 0) + -(sm m fun k => colA n m A g v i * (if v = dn k then F k s else 0))) := sm_congr fun v _ => by
      rw [sm_mul]
      unfold X
      rw [Int.mul_sub]
      omega
    rw [this, sm_add, sm_neg]
    omega
  have h2 : sm (n + m) (fun v => colA n m A g v i * (if v = s then d else 0)) = colA n m A g s i * d := by
    rw [sm_one (k := s) hs fun v _ ne => by rw [if_neg ne]; omega, if_pos rfl]
  have h3 : sm (n + m) (fun v => sm m fun k => colA n m A g v i * (if v = dn k then F k s else 0)) = sm m fun k => colA n m A g (dn k) i * F k s := by
    rw [sm_comm]
    refine sm_congr fun k hk => ?_
    rw [sm_one (k := dn k) (T.lt k hk) fun v _ ne => by rw [if_neg ne]; omega, if_pos rfl]
  have h4 := T.rel s i hs hi
  have h5 : sm (m + 1) (fun k => F k s * bas m (colA n m A g) dn k i) = sm m (fun k => colA n m A g (dn k) i * F k s) + F m s * un m i := by
    show sm m (fun k => F k s * bas m (colA n m A g) dn k i) + F m s * bas m (colA n m A g) dn m i = _
    rw [bas_m]
    congr 1
    exact sm_congr fun k hk => by rw [bas_lt hk]; exact Int.mul_comm _ _
  rw [h1, h2, h3]
  rw [h5] at h4
  have : colA n m A g s i * d = d * colA n m A g s i := Int.mul_comm _ _
  omega
theorem sm_split (f : Nat → Int) (n : Nat) : ∀ m, sm (n + m) f = sm n f + sm m fun i => f (n + i)
  | 0 => by simp [sm]
  | m + 1 => by
    show sm (n + m) f + f (n + m) = sm n f + (sm m (fun i => f (n + i)) + f (n + m))
    rw [sm_split f n m]
    omega
theorem Tb.nums_row (T : Tb (n + m) m (colA n m A g) F dn d) {s i : Nat} (hs : s < n + m) (hi : i < m) : sm n (fun v => A i v * X m F dn d s v) = -(X m F dn d s (n + i)) := by
  have h := T.numbers hs (show i ≤ m by omega)
  rw [sm_split, show un m i = 0 by unfold un; rw [if_neg (by omega)]] at h
  have h1 : sm n (fun v => colA n m A g v i * X m F dn d s v) = sm n (fun v => A i v * X m F dn d s v) := sm_congr fun v hv => by
    unfold colA
    rw [if_pos hv, if_pos hi]
  have h2 : sm m (fun j => colA n m A g (n + j) i * X m F dn d s (n + j)) = X m F dn d s (n + i) := by
    rw [sm_one (k := i) hi fun j _ ne => by rw [colA_s]; unfold un; rw [if_neg ne]; omega, colA_s]
    unfold un
    simp
  rw [h1, h2] at h
  omega
theorem Tb.nums_goal (T : Tb (n + m) m (colA n m A g) F dn d) {s : Nat} (hs : s < n + m) : sm n (fun v => g v * X m F dn d s v) = -(F m s) := by
  have h := T.numbers hs (Nat.le_refl m)
  rw [sm_split, show un m m = 1 by unfold un; rw [if_pos rfl]] at h
  have h1 : sm n (fun v => colA n m A g v m * X m F dn d s v) = -sm n (fun v => g v * X m F dn d s v) := by
    rw [← sm_neg]
    refine sm_congr fun v hv => ?_
    unfold colA
    rw [if_pos hv, if_neg (by omega), Int.neg_mul]
  have h2 : sm m (fun j => colA n m A g (n + j) m * X m F dn d s (n + j)) = 0 := by
    rw [← sm_zero m]
    refine sm_congr fun j hj => ?_
    rw [colA_s]
    unfold un
    rw [if_neg (by omega)]
    omega
  rw [h1, h2] at h
  omega
theorem X_nn {s : Nat} (hd : 0 < d) (h : ∀ k, k < m → F k s ≤ 0) (v : Nat) : 0 ≤ X m F dn d s v := by
  have : sm m (fun k => if v = dn k then F k s else 0) ≤ sm m fun _ => 0 := sm_le fun k hk => by
    split
    · exact h k hk
    · exact Int.le_refl 0
  rw [sm_zero] at this
  unfold X
  split <;> omega
end
/-! ### how great the members are -/
theorem pr_rep {x : Int} {k : Nat} {y : Nat → Int} (hx : 0 ≤ x) : ∀ n : Nat, (∀ i, i < n → 1 ≤ y i) → k < n → pr n (fun i => if i = k then x else y i) ≤ x * pr n y
  | 0, _, h => by omega
  | n + 1, hy, hk => by
    show pr n (fun i => if i = k then x else y i) * (if n = k then x else y n) ≤ x * (pr n y * y n)
    have hp : 0 ≤ pr n y := pr_nn fun i hi => by have := hy i (by omega); omega
    have hn := hy n (by omega)
    by_cases e : n = k
    · subst e
      rw [if_pos rfl]
      have e2 : pr n (fun i => if i = n then x else y i) ≤ pr n y := pr_le fun i hi => by
        rw [if_neg (by omega)]
        have := hy i (by omega)
        omega
      refine Int.le_trans (Int.mul_le_mul_of_nonneg_right e2 hx) ?_
      rw [Int.mul_comm]
      refine Int.mul_le_mul_of_nonneg_left ?_ hx
      have := Int.mul_le_mul_of_nonneg_left hn hp
      omega
    · rw [if_neg e]
      have ih := pr_rep (k := k) hx n (fun i hi => hy i (by omega)) (by omega)
      have := Int.mul_le_mul_of_nonneg_right ih (show 0 ≤ y n by omega)
      rw [← Int.mul_assoc]
      exact this
theorem pr_cnt {C : Int} (p : Nat → Bool) : ∀ m : Nat, pr m (fun k => if p k = true then C else 1) = C ^ ((List.range m).countP p)
  | 0 => by simp [pr]
  | m + 1 => by
    show pr m (fun k => if p k = true then C else 1) * (if p m = true then C else 1) = _
    rw [pr_cnt p m, List.range_succ, List.countP_append]
    by_cases e : p m = true
    · rw [if_pos e, List.countP_singleton, if_pos e, Int.pow_succ]
    · rw [if_neg e, List.countP_singleton, if_neg e, Int.mul_one, Nat.add_zero]
theorem sm_single {M i : Nat} (h : i < M) : sm M (fun k => ((un i k).natAbs : Int)) = 1 := by
  rw [sm_one (k := i) h fun k _ ne => by unfold un; rw [if_neg (Ne.symm ne)]; rfl]
  unfold un
  rw [if_pos rfl]
  rfl
theorem pow_pos1 {C : Int} (hC : 1 ≤ C) : ∀ e : Nat, (1 : Int) ≤ C ^ e
  | 0 => by simp
  | e + 1 => by
    rw [Int.pow_succ]
    have h := pow_pos1 hC e
    have := Int.mul_le_mul_of_nonneg_left hC (show 0 ≤ C ^ e by omega)
    omega
theorem pow_up {C : Int} (hC : 1 ≤ C) {a b : Nat} (h : a ≤ b) : C ^ a ≤ C ^ b := by
  obtain ⟨e, rfl⟩ : ∃ e, b = a + e := ⟨b - a, by omega⟩
  rw [Int.pow_add]
  have h1 := pow_pos1 hC a
  have := Int.mul_le_mul_of_nonneg_left (pow_pos1 hC e) (show (0 : Int) ≤ C ^ a by omega)
  omega
section
variable {n m : Nat} {A : Nat → Nat → Int} {g : Nat → Int} {F : Nat → Nat → Int} {dn : Nat → Nat} {d C : Int}
/-- rows that are columns of names, each but once, and short rows -/
theorem dt_small (hC : 1 ≤ C) (hw : ∀ v, v < n → sm (m + 1) (fun i => ((colA n m A g v i).natAbs : Int)) ≤ C) {B : Nat → Nat → Int} {q : Nat → Nat} {live : Nat → Bool} (h1 : ∀ i, i < m + 1 → live i = true → B i = colA n m A g (q i) ∧ q i < n + m)
    (h2 : ∀ i, i < m + 1 → live i = false → sm (m + 1) (fun k => ((B i k).natAbs : Int)) ≤ 1) (h3 : ∀ i j, i < m + 1 → j < m + 1 → live i = true → live j = true → q i = q j → i = j) : ((dt (m + 1) B).natAbs : Int) ≤ C ^ n := by
  have w1 : ∀ v, v < n + m → sm (m + 1) (fun i => ((colA n m A g v i).natAbs : Int)) ≤ if v < n then C else 1 := fun v hv => by
    split
    · exact hw v (by assumption)
    · obtain ⟨k, rfl⟩ : ∃ k, v = n + k := ⟨v - n, by omega⟩
      rw [colA_s, sm_single (by omega)]
      omega
  have w2 : ∀ k, k < m + 1 → 0 ≤ sm (m + 1) (fun i => ((B k i).natAbs : Int)) ∧ sm (m + 1) (fun i => ((B k i).natAbs : Int)) ≤ if (live k && decide (q k < n)) = true then C else 1 := fun k hk => by
    refine ⟨sm_nn fun i _ => by omega, ?_⟩
    cases e : live k with
    | true =>
      obtain ⟨e1, e2⟩ := h1 k hk e
      rw [e1]
      have := w1 (q k) e2
      simpa using this
    | false =>
      have := h2 k hk e
      simpa using this
  have cnt : (List.range (m + 1)).countP (fun k => live k && decide (q k < n)) ≤ n := by
    rw [List.countP_eq_length_filter]
    have nd : (((List.range (m + 1)).filter fun k => live k && decide (q k < n)).map q).Nodup := by
      rw [List.nodup_iff_pairwise_ne, List.pairwise_map]
      have h1 : ((List.range (m + 1)).filter fun k => live k && decide (q k < n)).Pairwise (· ≠ ·) := List.nodup_iff_pairwise_ne.mp (List.nodup_range.sublist List.filter_sublist)
      refine (List.Pairwise.imp_of_mem ?_ h1)
      intro a b ha hb ne e
      obtain ⟨a1, a2⟩ := List.mem_filter.mp ha
      obtain ⟨b1, b2⟩ := List.mem_filter.mp hb
      rw [Bool.and_eq_true, decide_eq_true_eq] at a2 b2
      exact ne (h3 a b (List.mem_range.mp a1) (List.mem_range.mp b1) a2.1 b2.1 e)
    have hs : (((List.range (m + 1)).filter fun k => live k && decide (q k < n)).map q) ⊆ List.range n := fun x hx => by
      obtain ⟨k, hk, rfl⟩ := List.mem_map.mp hx
      have := (List.mem_filter.mp hk).2
      rw [Bool.and_eq_true, decide_eq_true_eq] at this
      exact List.mem_range.mpr this.2
    have := List.Nodup.length_le_of_subset nd hs
    simpa using this
  refine Int.le_trans (dt_abs _ _) (Int.le_trans (pr_le w2) ?_)
  rw [pr_cnt (fun k => live k && decide (q k < n))]
  exact pow_up hC cnt
theorem Tb.small (T : Tb (n + m) m (colA n m A g) F dn d) (hC : 1 ≤ C) (hw : ∀ v, v < n → sm (m + 1) (fun i => ((colA n m A g v i).natAbs : Int)) ≤ C) : d ≤ C ^ n ∧ ∀ k v, k ≤ m → v < n + m → ((F k v).natAbs : Int) ≤ C ^ n := by
  refine ⟨?_, fun k v hk hv => ?_⟩
  · have h1 := dt_small (B := bas m (colA n m A g) dn) (q := dn) (live := fun i => decide (i < m)) hC hw (fun i _ e => by rw [decide_eq_true_eq] at e; exact ⟨bas_lt e, T.lt i e⟩) (fun i hi e => by
      rw [decide_eq_false_iff_not] at e
      obtain rfl : i = m := by omega
      rw [bas_m, sm_single (by omega)]
      exact Int.le_refl 1) (fun i j _ _ a b e => by rw [decide_eq_true_eq] at a b; exact T.inj i j a b e)
    rw [← T.det] at h1
    have := T.pos
    omega
  · by_cases ex : ∃ i, i < m ∧ i ≠ k ∧ dn i = v
    · obtain ⟨i, hi, ne, e⟩ := ex
      have := T.other hi hk (Ne.symm ne)
      rw [e] at this
      rw [this]
      have := pow_pos1 hC n
      show (0 : Int) ≤ _
      omega
    · have no : ∀ i, i < m → i ≠ k → dn i ≠ v := fun i a b c => ex ⟨i, a, b, c⟩
      rw [T.ent k v hk hv]
      refine dt_small (q := fun i => if i = k then v else dn i) (live := fun i => decide (i < m) || decide (i = k)) hC hw (fun i hi e => ?_) (fun i hi e => ?_) (fun i j hi hj a b e => ?_)
      · rw [Bool.or_eq_true, decide_eq_true_eq, decide_eq_true_eq] at e
        by_cases z : i = k
        · subst z
          rw [rep_same, if_pos rfl]
          exact ⟨rfl, hv⟩
        · rw [rep_ne z, if_neg z]
          exact ⟨bas_lt (by omega), T.lt i (by omega)⟩
      · rw [Bool.or_eq_false_iff, decide_eq_false_iff_not, decide_eq_false_iff_not] at e
        obtain rfl : i = m := by omega
        rw [rep_ne e.2, bas_m, sm_single (by omega)]
        exact Int.le_refl 1
      · rw [Bool.or_eq_true, decide_eq_true_eq, decide_eq_true_eq] at a b
        by_cases z : i = k <;> by_cases y : j = k
        · omega
        · rw [if_pos z, if_neg y] at e
          exact absurd e.symm (no j (by omega) y)
        · rw [if_neg z, if_pos y] at e
          exact absurd e (no i (by omega) z)
        · rw [if_neg z, if_neg y] at e
          exact T.inj i j (by omega) (by omega) e
end
end SP
/-! S19: tableaus as lists. -/
namespace SP
open TL
def en (t : List (List Int)) (k j : Nat) : Int := (t.getD k []).getD j 0
def turnRow (t : List (List Int)) (a p : Nat) (b : Int) (k : Nat) (row : List Int) : List Int :=
  if k = a then row.set p b else ((row.zip (t.getD a [])).map fun x => (x.1 * en t a p - row.getD p 0 * x.2).fdiv b).set p (-(row.getD p 0))
def turnT (t : List (List Int)) (a p : Nat) (b : Int) : List (List Int) := t.mapIdx fun k row => turnRow t a p b k row
def Rect (t : List (List Int)) (M n : Nat) : Prop := t.length = M ∧ ∀ r ∈ t, r.length = n
theorem Rect.row {t : List (List Int)} {M n k : Nat} (h : Rect t M n) (hk : k < M) : (t.getD k []).length = n := by
  have h1 := h.1
  have : t.getD k [] = t[k] := by rw [List.getD_eq_getElem?_getD, List.getElem?_eq_getElem (by omega)]; rfl
  rw [this]
  exact h.2 _ (List.getElem_mem _)
theorem turn_get {t : List (List Int)} {a p k : Nat} {b : Int} {M n : Nat} (h : Rect t M n) (hk : k < M) : (turnT t a p b).getD k [] = turnRow t a p b k (t.getD k []) := by
  have h1 := h.1
  unfold turnT
  rw [List.getD_eq_getElem?_getD, List.getElem?_mapIdx, List.getD_eq_getElem?_getD, List.getElem?_eq_getElem (show k < t.length by omega)]
  rfl
theorem turnRow_len {t : List (List Int)} {a p k : Nat} {b : Int} {M n : Nat} (h : Rect t M n) (ha : a < M) (hk : k < M) : (turnRow t a p b k (t.getD k [])).length = n := by
  have h1 := h.row ha
  have h2 := h.row hk
  unfold turnRow
  split
  · rw [List.length_set, h2]
  · rw [List.length_set, List.length_map, List.length_zip, h1, h2]; omega
theorem turn_rect {t : List (List Int)} {a p : Nat} {b : Int} {M n : Nat} (h : Rect t M n) (ha : a < M) : Rect (turnT t a p b) M n := by
  refine ⟨by unfold turnT; rw [List.length_mapIdx]; exact h.1, fun r hr => ?_⟩
  obtain ⟨k, hk, rfl⟩ := List.mem_iff_getElem.mp hr
  have hk' : k < M := by unfold turnT at hk; rw [List.length_mapIdx, h.1] at hk; exact hk
  have := turn_get (a := a) (p := p) (b := b) h hk'
  rw [List.getD_eq_getElem?_getD, List.getElem?_eq_getElem hk] at this
  rw [show (turnT t a p b)[k] = _ from this]
  exact turnRow_len h ha hk'
theorem getD_set {l : List Int} {p j : Nat} {x : Int} (hp : p < l.length) : (l.set p x).getD j 0 = if j = p then x else l.getD j 0 := by
  rw [List.getD_eq_getElem?_getD, List.getElem?_set]
  by_cases e : p = j
  · subst e; simp [hp]
  · rw [if_neg e, if_neg (Ne.symm e), List.getD_eq_getElem?_getD]
theorem turn_en {t : List (List Int)} {a p k j : Nat} {b : Int} {M n : Nat} (h : Rect t M n) (ha : a < M) (hk : k < M) (hp : p < n) (hj : j < n) :
    en (turnT t a p b) k j = if k = a then (if j = p then b else en t a j) else if j = p then -(en t k p) else (en t k j * en t a p - en t k p * en t a j).fdiv b := by
  have h1 := h.row ha
  have h2 := h.row hk
  unfold en
  rw [turn_get h hk]
  unfold turnRow
  by_cases e : k = a
  · subst e
    rw [if_pos rfl, if_pos rfl, getD_set (by omega)]
  · rw [if_neg e, if_neg e, getD_set (by rw [List.length_map, List.length_zip]; omega)]
    by_cases e2 : j = p
    · rw [if_pos e2, if_pos e2]
    · rw [if_neg e2, if_neg e2, List.getD_eq_getElem?_getD, List.getElem?_map, List.getElem?_eq_getElem (by rw [List.length_zip]; omega)]
      simp only [List.getElem_zip, Option.map_some, Option.getD_some]
      rw [List.getD_eq_getElem?_getD (l := t.getD k []) (i := j), List.getElem?_eq_getElem (by omega), List.getD_eq_getElem?_getD (l := t.getD a []) (i := j), List.getElem?_eq_getElem (by omega)]
      rfl
structure Gt (n m : Nat) (A : Nat → Nat → Int) (g : Nat → Int) (t : List (List Int)) (ac dn : List Int) (d : Int) (S : St) : Prop where
  T : Tb (n + m) m (colA n m A g) S.F S.dn S.d
  hd : S.d = d
  rect : Rect t (m + 1) n
  la : ac.length = n
  ld : dn.length = m
  hdn : ∀ k, k < m → dn.getD k 0 = (S.dn k : Int)
  hac : ∀ j, j < n → ∃ v, v < n + m ∧ ac.getD j 0 = (v : Int)
  ne : ∀ j k, j < n → k < m → ac.getD j 0 ≠ (S.dn k : Int)
  inj : ∀ i j, i < n → j < n → ac.getD i 0 = ac.getD j 0 → i = j
  all : ∀ v, v < n + m → (∃ j, j < n ∧ ac.getD j 0 = (v : Int)) ∨ ∃ k, k < m ∧ S.dn k = v
  ent : ∀ k j v, k ≤ m → j < n → ac.getD j 0 = ((v : Nat) : Int) → en t k j = S.F k v
section
variable {n m : Nat} {A : Nat → Nat → Int} {g : Nat → Int} {t : List (List Int)} {ac dn : List Int} {d : Int} {S : St}
theorem Gt.turn (G : Gt n m A g t ac dn d S) {p a s : Nat} (hp : p < n) (ha : a < m) (es : ac.getD p 0 = (s : Int)) (pos : 0 < en t a p) :
    ∃ S', Gt n m A g (turnT t a p d) (ac.set p (dn.getD a 0)) (dn.set a (ac.getD p 0)) (en t a p) S' ∧ S'.dn = updN S.dn a s := by
  have T := G.T
  have hs : s < n + m := by
    obtain ⟨v, hv, e⟩ := G.hac p hp
    omega
  have e1 := G.ent a p s (by omega) hp es
  have hpos : 0 < S.F a s := by rw [← e1]; exact pos
  obtain ⟨F', T', q1, q2⟩ := T.turn ha hs hpos
  have hd := G.hd
  have d0 := T.pos
  have hla := G.la
  have hld := G.ld
  have sdn : ∀ k, k < m → S.dn k ≠ s := fun k hk e => G.ne p k hp hk (by rw [es, e])
  have gac : ∀ j, j < n → (ac.set p (dn.getD a 0)).getD j 0 = if j = p then (S.dn a : Int) else ac.getD j 0 := fun j hj => by
    rw [getD_set (by omega), G.hdn a ha]
  have gdn : ∀ k, k < m → (dn.set a (ac.getD p 0)).getD k 0 = if k = a then (s : Int) else dn.getD k 0 := fun k hk => by
    rw [getD_set (by omega), es]
  refine ⟨⟨F', updN S.dn a s, S.F a s⟩, ⟨T', e1.symm, turn_rect G.rect (by omega), by rw [List.length_set]; exact hla, by rw [List.length_set]; exact hld, fun k hk => ?_, fun j hj => ?_, fun j k hj hk => ?_, fun i j hi hj e => ?_, fun v hv => ?_, fun k j v hk hj e => ?_⟩, rfl⟩
  · rw [gdn k hk]
    show _ = ((updN S.dn a s k : Nat) : Int)
    unfold updN
    by_cases e : k = a
    · rw [if_pos e, if_pos e]
    · rw [if_neg e, if_neg e, G.hdn k hk]
  · rw [gac j hj]
    split
    · exact ⟨S.dn a, T.lt a ha, rfl⟩
    · exact G.hac j hj
  · rw [gac j hj]
    show _ ≠ ((updN S.dn a s k : Nat) : Int)
    unfold updN
    by_cases e : j = p <;> by_cases e2 : k = a
    · rw [if_pos e, if_pos e2]
      have := sdn a ha
      omega
    · rw [if_pos e, if_neg e2]
      intro z
      exact e2 (T.inj k a hk ha (by omega))
    · rw [if_neg e, if_pos e2]
      intro z
      exact e (G.inj j p hj hp (by rw [z, es]))
    · rw [if_neg e, if_neg e2]
      exact G.ne j k hj hk
  · rw [gac i hi, gac j hj] at e
    by_cases a1 : i = p <;> by_cases a2 : j = p
    · omega
    · rw [if_pos a1, if_neg a2] at e
      exact absurd e.symm (G.ne j a hj ha)
    · rw [if_neg a1, if_pos a2] at e
      exact absurd e (G.ne i a hi ha)
    · rw [if_neg a1, if_neg a2] at e
      exact G.inj i j hi hj e
  · show _ ∨ ∃ k, k < m ∧ updN S.dn a s k = v
    unfold updN
    rcases G.all v hv with ⟨j, hj, e⟩ | ⟨k, hk, e⟩
    · by_cases a1 : j = p
      · right
        refine ⟨a, ha, ?_⟩
        rw [if_pos rfl]
        rw [a1, es] at e
        omega
      · exact .inl ⟨j, hj, by rw [gac j hj, if_neg a1]; exact e⟩
    · by_cases a1 : k = a
      · exact .inl ⟨p, hp, by rw [gac p hp, if_pos rfl, ← a1, e]⟩
      · exact .inr ⟨k, hk, by rw [if_neg a1]; exact e⟩
  · show _ = F' k v
    rw [gac j hj] at e
    rw [turn_en G.rect (show a < m + 1 by omega) (show k < m + 1 by omega) hp hj]
    by_cases a1 : k = a
    · rw [if_pos a1, a1]
      by_cases a2 : j = p
      · rw [if_pos a2] at e ⊢
        have : v = S.dn a := by omega
        rw [this, q1 _ (T.lt a ha), T.own ha, hd]
      · rw [if_neg a2] at e ⊢
        obtain ⟨v', hv', e'⟩ := G.hac j hj
        have : v' = v := by omega
        rw [q1 v (by omega), G.ent a j v (by omega) hj e]
    · rw [if_neg a1]
      by_cases a2 : j = p
      · rw [if_pos a2] at e ⊢
        have ev : v = S.dn a := by omega
        have h := q2 k v hk a1 (by rw [ev]; exact T.lt a ha)
        rw [ev, T.own ha, T.other ha hk a1, Int.zero_mul, Int.add_zero] at h
        rw [ev, G.ent k p s hk hp es]
        refine Int.eq_of_mul_eq_mul_left (a := S.d) (by omega) ?_
        rw [h]
        grind
      · rw [if_neg a2] at e ⊢
        obtain ⟨v', hv', e'⟩ := G.hac j hj
        have hv : v < n + m := by omega
        have h := q2 k v hk a1 hv
        rw [G.ent k j v hk hj e, G.ent a p s (by omega) hp es, G.ent k p s hk hp es, G.ent a j v (by omega) hj e]
        have h2 : S.F k v * S.F a s - S.F k s * S.F a v = S.d * F' k v := by rw [h]; grind
        rw [h2, ← hd, Int.mul_fdiv_cancel_left _ (by omega)]
/-- the first one -/
theorem Gt.start {t0 : List (List Int)} {gl : List Int} (h : Rect t0 m n) (hg : gl.length = n) :
    Gt n m (fun i j => en t0 i j) (fun j => gl.getD j 0) (t0 ++ [gl.map fun a => -a]) (rangeL 0 n) ((rangeL 0 m).map fun k => n + k) 1 ⟨fun k v => colA n m (fun i j => en t0 i j) (fun j => gl.getD j 0) v k, fun k => n + k, 1⟩ := by
  have h1 := h.1
  have rl : ∀ (N : Nat) (j : Nat), j < N → (rangeL 0 N)[j]? = some (j : Int) := fun N j hj => by
    unfold rangeL
    rw [List.getElem?_map, List.getElem?_range (by omega)]
    simp
  have ra : ∀ j, j < n → (rangeL 0 n).getD j 0 = (j : Int) := fun j hj => by rw [List.getD_eq_getElem?_getD, rl n j hj]; rfl
  have rd : ∀ k, k < m → ((rangeL 0 m).map fun k => (n : Int) + k).getD k 0 = ((n + k : Nat) : Int) := fun k hk => by
    rw [List.getD_eq_getElem?_getD, List.getElem?_map, rl m k hk]
    simp
  refine ⟨Tb.start, rfl, ⟨by simp [h1], fun r hr => ?_⟩, by unfold rangeL; simp, by unfold rangeL; simp, fun k hk => ?_, fun j hj => ⟨j, by omega, ra j hj⟩, fun j k hj hk => ?_, fun i j hi hj e => ?_, fun v hv => ?_, fun k j v hk hj e => ?_⟩
  · rcases List.mem_append.mp hr with z | z
    · exact h.2 r z
    · rw [List.mem_singleton] at z
      rw [z, List.length_map, hg]
  · rw [rd k hk]
  · rw [ra j hj]
    show (j : Int) ≠ ((n + k : Nat) : Int)
    omega
  · rw [ra i hi, ra j hj] at e
    omega
  · by_cases e : v < n
    · exact .inl ⟨v, e, ra v e⟩
    · exact .inr ⟨v - n, by omega, show n + (v - n) = v by omega⟩
  · rw [ra j hj] at e
    have ev : v = j := by omega
    subst ev
    show en (t0 ++ [gl.map fun a => -a]) k v = colA n m (fun i j => en t0 i j) (fun j => gl.getD j 0) v k
    unfold en colA
    rw [if_pos hj]
    by_cases z : k < m
    · have : (t0 ++ [gl.map fun a => -a]).getD k [] = t0.getD k [] := by
        rw [List.getD_eq_getElem?_getD, List.getElem?_append_left (by omega), List.getD_eq_getElem?_getD (l := t0)]
      rw [if_pos z, this]
    · obtain rfl : k = m := by omega
      have : (t0 ++ [gl.map fun a => -a]).getD k [] = gl.map fun a => -a := by
        rw [List.getD_eq_getElem?_getD, List.getElem?_append_right (by omega), h1]
        simp
      have h2 : gl.getD v 0 = gl[v] := by rw [List.getD_eq_getElem?_getD, List.getElem?_eq_getElem (by omega)]; rfl
      rw [if_neg (by omega), this, List.getD_eq_getElem?_getD, List.getElem?_map, List.getElem?_eq_getElem (by omega)]
      show -gl[v] = -(gl.getD v 0)
      rw [h2]
end
end SP
/-! S20: lists: sums of products, greatest divisors, places that are written; a while that ends. -/
namespace SP
open TL
theorem small {n : Nat} (h : n ≤ 1000) : n ≤ PySem.sizeLine := by rw [PySem.sizeLine_eq]; omega
theorem smallx {n : Nat} (h : n ≤ 1000000) : n ≤ PySem.sizeLine := by rw [PySem.sizeLine_eq]; omega
theorem rangeL_len (n : Int) : (rangeL 0 n).length = n.toNat := by
  unfold rangeL
  rw [List.length_map, List.length_range]
  congr 1
  omega
theorem getD_at {α : Type} {l : List α} {x : Int} (d : α) (h : 0 ≤ x ∧ x < l.length) : L2.atI l x = some (l.getD x.toNat d) := by
  rw [atI_in h.1 h.2, List.getD_eq_getElem?_getD, List.getElem?_eq_getElem (by omega)]
  rfl
theorem rangeL_get {n : Int} {i : Nat} (h : (i : Int) < n) : (rangeL 0 n)[i]? = some (i : Int) := by
  unfold rangeL
  rw [List.getElem?_map, List.getElem?_range (by omega)]
  simp
theorem range_pre {n : Int} {d r : List Int} {x : Int} (h : d ++ x :: r = rangeL 0 n) : x = (d.length : Int) ∧ (d.length : Int) < n := by
  have hl := congrArg List.length h
  rw [rangeL_len, List.length_append, List.length_cons] at hl
  have h2 : (rangeL 0 n)[d.length]? = some x := by rw [← h, List.getElem?_append_right (Nat.le_refl _)]; simp
  rw [rangeL_get (by omega)] at h2
  exact ⟨(Option.some.inj h2).symm, by omega⟩
theorem rangeL_mem' {n x : Int} : x ∈ rangeL 0 n ↔ 0 ≤ x ∧ x < n := by
  refine ⟨rangeL_mem, fun h => ?_⟩
  refine List.mem_iff_getElem?.mpr ⟨x.toNat, ?_⟩
  rw [rangeL_get (by omega)]
  congr 1
  omega
theorem enum_get {α : Type} {l : List α} {i : Nat} (h : i < l.length) : (enumL l)[i]? = some ((i : Int), l[i]) := by
  unfold enumL
  rw [List.getElem?_map, List.getElem?_zipIdx, List.getElem?_eq_getElem h]
  simp
theorem enum_mem {α : Type} {l : List α} {p : Int × α} : p ∈ enumL l ↔ ∃ i : Nat, ∃ h : i < l.length, p = ((i : Int), l[i]) := by
  constructor
  · intro h
    obtain ⟨i, hi⟩ := List.mem_iff_getElem?.mp h
    have hl : i < l.length := by
      rcases Nat.lt_or_ge i l.length with z | z
      · exact z
      · rw [List.getElem?_eq_none (by rw [enumL_len]; exact z)] at hi
        cases hi
    rw [enum_get hl] at hi
    exact ⟨i, hl, (Option.some.inj hi).symm⟩
  · rintro ⟨i, h, rfl⟩
    exact List.mem_iff_getElem?.mpr ⟨i, enum_get h⟩
theorem getD_el {l : List Int} {i : Nat} (h : i < l.length) : l.getD i 0 = l[i] := by rw [List.getD_eq_getElem?_getD, List.getElem?_eq_getElem h]; rfl
theorem getD_mem {l : List Int} {i : Nat} (h : i < l.length) : l.getD i 0 ∈ l := by rw [getD_el h]; exact List.getElem_mem _
theorem getD_out {l : List Int} {i : Nat} (h : l.length ≤ i) : l.getD i 0 = 0 := by rw [List.getD_eq_getElem?_getD, List.getElem?_eq_none h]; rfl
theorem list_ext {a b : List Int} (h : a.length = b.length) (he : ∀ i, i < a.length → a.getD i 0 = b.getD i 0) : a = b := by
  refine List.ext_getElem h fun i h1 h2 => ?_
  have := he i h1
  rwa [getD_el h1, getD_el h2] at this
theorem getD_map {l : List Int} {f : Int → Int} {i : Nat} (h : i < l.length) : (l.map f).getD i 0 = f (l.getD i 0) := by
  rw [getD_el (by rw [List.length_map]; exact h), List.getElem_map, getD_el h]
theorem getD_rep {n i : Nat} {x : Int} (h : i < n) : (List.replicate n x).getD i 0 = x := by rw [getD_el (by rw [List.length_replicate]; exact h), List.getElem_replicate]
theorem zeros_flat (n : Nat) : (List.replicate n [(0 : Int)]).flatten = List.replicate n 0 := by
  induction n with
  | zero => rfl
  | succ n ih => rw [List.replicate_succ, List.replicate_succ, List.flatten_cons, ih]; rfl
/-! ### sums of products -/
def dot (a b : List Int) : Int := sm a.length fun i => a.getD i 0 * b.getD i 0
theorem dot_scale {a b c : List Int} {k : Int} (h : ∀ i, i < a.length → b.getD i 0 = k * c.getD i 0) : dot a b = k * dot a c := by
  unfold dot
  rw [← sm_mul]
  refine sm_congr fun i hi => ?_
  rw [h i hi]
  grind
/-! ### the greatest divisor -/
def gcdL (t : List Int) : Int := t.foldl (fun s b => ((s.natAbs.gcd b.natAbs : Nat) : Int)) 0
def lessen (t : List Int) : List Int := if gcdL t < 2 then t else t.map fun x => x.fdiv (gcdL t)
theorem gcd_fold : ∀ (t : List Int) (s : Int), 0 ≤ s → 0 ≤ t.foldl (fun s b => ((s.natAbs.gcd b.natAbs : Nat) : Int)) s ∧ t.foldl (fun s b => ((s.natAbs.gcd b.natAbs : Nat) : Int)) s ∣ s ∧ ∀ x ∈ t, t.foldl (fun s b => ((s.natAbs.gcd b.natAbs : Nat) : Int)) s ∣ x
  | [], s, h => ⟨h, Int.dvd_refl s, fun x hx => by simp at hx⟩
  | y :: r, s, h => by
    obtain ⟨h1, h2, h3⟩ := gcd_fold r ((s.natAbs.gcd y.natAbs : Nat) : Int) (by omega)
    rw [List.foldl_cons]
    have d1 : ((s.natAbs.gcd y.natAbs : Nat) : Int) ∣ s := Int.natAbs_dvd_natAbs.mp (by rw [Int.natAbs_natCast]; exact Nat.gcd_dvd_left _ _)
    have d2 : ((s.natAbs.gcd y.natAbs : Nat) : Int) ∣ y := Int.natAbs_dvd_natAbs.mp (by rw [Int.natAbs_natCast]; exact Nat.gcd_dvd_right _ _)
    refine ⟨h1, Int.dvd_trans h2 d1, fun x hx => ?_⟩
    rcases List.mem_cons.mp hx with rfl | hx
    · exact Int.dvd_trans h2 d2
    · exact h3 x hx
theorem gcdL_nn (t : List Int) : 0 ≤ gcdL t := (gcd_fold t 0 (Int.le_refl 0)).1
theorem gcdL_dvd {t : List Int} {x : Int} (h : x ∈ t) : gcdL t ∣ x := (gcd_fold t 0 (Int.le_refl 0)).2.2 x h
theorem gcdL_le {t : List Int} {C : Int} (h0 : 0 ≤ C) (h : ∀ x ∈ t, (x.natAbs : Int) ≤ C) : gcdL t ≤ C := by
  by_cases z : ∃ x ∈ t, x ≠ 0
  · obtain ⟨x, hx, ne⟩ := z
    have h1 := gcdL_dvd hx
    have h2 : (gcdL t).natAbs ≤ x.natAbs := Nat.le_of_dvd (by omega) (Int.natAbs_dvd_natAbs.mpr h1)
    have := h x hx
    have := gcdL_nn t
    omega
  · have all0 : ∀ x ∈ t, x = 0 := fun x hx => Classical.byContradiction fun ne => z ⟨x, hx, ne⟩
    have : ∀ (t : List Int), (∀ x ∈ t, x = 0) → t.foldl (fun s b => ((s.natAbs.gcd b.natAbs : Nat) : Int)) 0 = 0 := fun t => by
      induction t with
      | nil => intro _; rfl
      | cons y r ih =>
        intro h
        rw [List.foldl_cons, h y List.mem_cons_self]
        exact ih fun x hx => h x (List.mem_cons_of_mem _ hx)
    have e : gcdL t = 0 := this t all0
    omega
theorem lessen_len (t : List Int) : (lessen t).length = t.length := by unfold lessen; split <;> simp
/-- the numbers are a multiple of the lessened ones -/
theorem lessen_scale (t : List Int) : ∃ k : Int, 1 ≤ k ∧ ∀ i, t.getD i 0 = k * (lessen t).getD i 0 := by
  unfold lessen
  split
  · exact ⟨1, by omega, fun i => by omega⟩
  · rename_i h
    refine ⟨gcdL t, by omega, fun i => ?_⟩
    rcases Nat.lt_or_ge i t.length with hi | hi
    · rw [getD_map hi, Int.mul_fdiv_cancel' (gcdL_dvd (getD_mem hi))]
    · rw [getD_out hi, getD_out (by rw [List.length_map]; exact hi), Int.mul_zero]
/-! ### places written -/
def putQ (l : List Int) (p : Int × Int) : List Int := if 0 ≤ p.1 then l.set p.1.toNat p.2 else l
theorem putQ_len (l : List Int) (p : Int × Int) : (putQ l p).length = l.length := by unfold putQ; split <;> simp
theorem put_len : ∀ (ps : List (Int × Int)) (l : List Int), (ps.foldl putQ l).length = l.length
  | [], l => rfl
  | p :: r, l => by rw [List.foldl_cons, put_len r, putQ_len]
theorem put_miss {k : Nat} : ∀ (ps : List (Int × Int)) (l : List Int), (∀ p ∈ ps, p.1 ≠ (k : Int)) → (ps.foldl putQ l).getD k 0 = l.getD k 0
  | [], l, _ => rfl
  | p :: r, l, h => by
    rw [List.foldl_cons, put_miss r _ fun q hq => h q (List.mem_cons_of_mem _ hq)]
    unfold putQ
    split
    · have := h p List.mem_cons_self
      rw [List.getD_eq_getElem?_getD, List.getElem?_set_ne (by omega), List.getD_eq_getElem?_getD]
    · rfl
theorem put_hit {k : Nat} : ∀ (ps : List (Int × Int)) (l : List Int) (p : Int × Int), (ps.map (·.1)).Nodup → p ∈ ps → p.1 = (k : Int) → k < l.length → (ps.foldl putQ l).getD k 0 = p.2
  | [], l, p, _, h, _, _ => by simp at h
  | q :: r, l, p, nd, h, e, hk => by
    rw [List.map_cons, List.nodup_cons] at nd
    rw [List.foldl_cons]
    rcases List.mem_cons.mp h with rfl | h
    · rw [put_miss r _ fun z hz w => nd.1 (List.mem_map.mpr ⟨z, hz, by rw [w, e]⟩)]
      unfold putQ
      rw [if_pos (by omega), e, Int.toNat_natCast, getD_el (by rw [List.length_set]; exact hk), List.getElem_set_self]
    · exact put_hit r _ p nd.2 h e (by rw [putQ_len]; exact hk)
/-! ### a while that ends -/
theorem for_goal_okp {β ρ S L α : Type} {b : β → S → Rs (Fl ρ S S)} {xs : List β} {s : S} {k : Fl ρ S L → Rs α} {Q : α → Prop} (f : S → β → S) (hs : ∀ x s, b x s = .ok (.nx (f s x))) (hk : Okp (k (.nx (xs.foldl f s))) Q) : Okp ((forM b xs s).bind k) Q := by
  have h := (forM_nx (L := L) f (fun _ => True) xs s trivial fun x _ s _ => ⟨hs x s, trivial⟩).1
  rw [h, Rs.ok_bind]
  exact hk
theorem Okp.while {ρ S L α : Type} {c : S → Rs (Bool × S)} {b : S → Rs (Fl ρ S S)} {k : Fl ρ S L → Rs α} {Q : α → Prop} (P : Nat → S → Prop) (E : ρ → Prop) (B : Nat) (hB : ∀ i s, P i s → i < B)
    (hs : ∀ i s, P i s → ∃ s1, c s = .ok (true, s1) ∧ Okp (b s1) fun fl => (∃ s', fl = .nx s' ∧ P (i + 1) s') ∨ ∃ z, fl = .rt z ∧ E z) (he : ∀ z, E z → Okp (k (.rt z)) Q) : ∀ (n i : Nat) (s : S), P i s → B ≤ n + i → Okp ((whileM c b n s).bind k) Q
  | 0, i, s, hP, hn => by have := hB i s hP; omega
  | n + 1, i, s, hP, hn => by
    obtain ⟨s1, e, fl, e2, h⟩ := hs i s hP
    rw [whileM_succ, e, Rs.ok_bind]
    dsimp only
    rw [if_pos rfl, e2, Rs.ok_bind]
    rcases h with ⟨s', rfl, p⟩ | ⟨z, rfl, p⟩
    · rw [forK_nxU]
      exact Okp.while P E B hB hs he n (i + 1) s' p (by omega)
    · show Okp ((forK (β := Unit) _ (Fl.rt z)).bind k) Q
      rw [show forK (β := Unit) (whileM (L := L) c b n) (Fl.rt z) = .ok (.rt z) from rfl, Rs.ok_bind]
      exact he z p
end SP
/-! S21: what grows: numbers from 0 on at which no row is above 0. -/
namespace SP
open TL
def Grows (A : Nat → Nat → Int) (m n p : Nat) : Prop := ∃ h : Nat → Int, (∀ v, v < n → 0 ≤ h v) ∧ (∀ i, i < m → sm n (fun v => A i v * h v) ≤ 0) ∧ 1 ≤ h p
/-- weights that bound it -/
theorem cap_stops {A : Nat → Nat → Int} {m n p : Nat} {y : Nat → Int} (hp : p < n) (hy : ∀ i, i < m → 0 ≤ y i) (hs : ∀ j, j < n → 0 ≤ sm m fun i => A i j * y i) (h1 : 1 ≤ sm m fun i => A i p * y i) : ¬ Grows A m n p := fun ⟨h, a, b, c⟩ => by
  have e : sm m (fun i => y i * sm n fun v => A i v * h v) = sm n (fun v => h v * sm m fun i => A i v * y i) := by
    have e1 : sm m (fun i => y i * sm n fun v => A i v * h v) = sm m (fun i => sm n fun v => y i * (A i v * h v)) := sm_congr fun i _ => (sm_mul _ _ _).symm
    have e2 : sm n (fun v => h v * sm m fun i => A i v * y i) = sm n (fun v => sm m fun i => h v * (A i v * y i)) := sm_congr fun i _ => (sm_mul _ _ _).symm
    rw [e1, e2, ← sm_comm]
    exact sm_congr fun i _ => sm_congr fun v _ => by grind
  have l1 : sm m (fun i => y i * sm n fun v => A i v * h v) ≤ sm m fun _ => 0 := sm_le fun i hi => by
    have := Int.mul_nonneg (hy i hi) (show 0 ≤ -(sm n fun v => A i v * h v) by have := b i hi; omega)
    rw [Int.mul_neg] at this
    omega
  rw [sm_zero] at l1
  have l2 : sm n (fun v => if v = p then 1 else 0) ≤ sm n (fun v => h v * sm m fun i => A i v * y i) := sm_le fun v hv => by
    have h0 := Int.mul_nonneg (a v hv) (hs v hv)
    split
    · rename_i e
      subst e
      have := Int.mul_le_mul c h1 (by omega) (a v hv)
      omega
    · exact h0
  rw [sm_one (f := fun v => if v = p then 1 else 0) (k := p) hp fun v _ ne => if_neg ne, if_pos rfl] at l2
  omega
def unitL (n p : Int) : List Int := (rangeL 0 n).map fun k => if k = p then 1 else 0
theorem unitL_len (n : Nat) (p : Int) : (unitL n p).length = n := by unfold unitL; rw [List.length_map, rangeL_len]; omega
theorem unitL_at {n v : Nat} {p : Int} (h : v < n) : (unitL n p).getD v 0 = if (v : Int) = p then 1 else 0 := by
  unfold unitL
  rw [List.getD_eq_getElem?_getD, List.getElem?_map, rangeL_get (by omega)]
  rfl
theorem sm_unit {n : Nat} {p : Int} {f : Nat → Int} (hp : 0 ≤ p ∧ p < n) : sm n (fun v => (unitL n p).getD v 0 * f v) = f p.toNat := by
  rw [sm_one (k := p.toNat) (by omega) fun v hv ne => by rw [unitL_at hv, if_neg (by omega)]; omega, unitL_at (by omega), if_pos (by omega)]
  omega
end SP
/-! S22: cones in space: who grows does so along a corner ray. -/
namespace SP
abbrev V3 := Int × Int × Int
def d3 (a b : V3) : Int := a.1 * b.1 + a.2.1 * b.2.1 + a.2.2 * b.2.2
def x3 (a b : V3) : V3 := (a.2.1 * b.2.2 - a.2.2 * b.2.1, a.2.2 * b.1 - a.1 * b.2.2, a.1 * b.2.1 - a.2.1 * b.1)
def s3 (k : Int) (a : V3) : V3 := (k * a.1, k * a.2.1, k * a.2.2)
def c3 (p : Int) (a : V3) (q : Int) (b : V3) : V3 := (p * a.1 + q * b.1, p * a.2.1 + q * b.2.1, p * a.2.2 + q * b.2.2)
def e3 : Nat → V3
  | 0 => (1, 0, 0)
  | 1 => (0, 1, 0)
  | _ => (0, 0, 1)
theorem d3_c3 (c a b : V3) (p q : Int) : d3 c (c3 p a q b) = p * d3 c a + q * d3 c b := by unfold d3 c3; grind
theorem d3_s3 (c a : V3) (k : Int) : d3 c (s3 k a) = k * d3 c a := by unfold d3 s3; grind
/-- the constraint that stops first -/
theorem first_stop (h v : V3) : ∀ L : List V3, (∃ c ∈ L, 0 < d3 c v) → ∃ c ∈ L, 0 < d3 c v ∧ ∀ c' ∈ L, 0 < d3 c' v → -(d3 c h) * d3 c' v ≤ -(d3 c' h) * d3 c v
  | [], ⟨c, hc, _⟩ => by simp at hc
  | x :: L, ⟨c, hc, pc⟩ => by
    by_cases z : ∃ c ∈ L, 0 < d3 c v
    · obtain ⟨c1, m1, p1, l1⟩ := first_stop h v L z
      by_cases y : 0 < d3 x v ∧ -(d3 x h) * d3 c1 v < -(d3 c1 h) * d3 x v
      · refine ⟨x, List.mem_cons_self, y.1, fun c' hc' p' => ?_⟩
        rcases List.mem_cons.mp hc' with rfl | hc'
        · exact Int.le_refl _
        · have h1 := l1 c' hc' p'
          have h2 := y.2
          refine (fun w => Int.le_of_mul_le_mul_right w p1) ?_
          have a1 := Int.mul_le_mul_of_nonneg_right h1 (show 0 ≤ d3 x v by omega)
          have a2 := Int.mul_le_mul_of_nonneg_right (show -(d3 x h) * d3 c1 v ≤ -(d3 c1 h) * d3 x v by omega) (show 0 ≤ d3 c' v by omega)
          have e1 : -(d3 x h) * d3 c' v * d3 c1 v = -(d3 x h) * d3 c1 v * d3 c' v := by grind
          have e2 : -(d3 c1 h) * d3 x v * d3 c' v = -(d3 c1 h) * d3 c' v * d3 x v := by grind
          have e3 : -(d3 c' h) * d3 x v * d3 c1 v = -(d3 c' h) * d3 c1 v * d3 x v := by grind
          omega
      · refine ⟨c1, List.mem_cons_of_mem _ m1, p1, fun c' hc' p' => ?_⟩
        rcases List.mem_cons.mp hc' with rfl | hc'
        · rcases Int.lt_or_le (-(d3 c' h) * d3 c1 v) (-(d3 c1 h) * d3 c' v) with w | w
          · exact absurd ⟨p', w⟩ y
          · exact w
        · exact l1 c' hc' p'
    · rcases List.mem_cons.mp hc with rfl | hc
      · refine ⟨c, List.mem_cons_self, pc, fun c' hc' p' => ?_⟩
        rcases List.mem_cons.mp hc' with rfl | hc'
        · exact Int.le_refl _
        · exact absurd ⟨c', hc', p'⟩ z
      · exact absurd ⟨c, hc, pc⟩ z
/-- moved until it is stopped -/
theorem moved {h v e : V3} {L : List V3} (hh : ∀ c ∈ L, d3 c h ≤ 0) (hv : ∃ c ∈ L, 0 < d3 c v) (he : d3 e v = 0) (hp : 0 < d3 e h) :
    ∃ c ∈ L, 0 < d3 c v ∧ ∃ h', (∀ c' ∈ L, d3 c' h' ≤ 0) ∧ d3 c h' = 0 ∧ 0 < d3 e h' ∧ ∀ a, d3 a h = 0 → d3 a v = 0 → d3 a h' = 0 := by
  obtain ⟨c, mc, pc, lc⟩ := first_stop h v L hv
  have hc := hh c mc
  refine ⟨c, mc, pc, c3 (d3 c v) h (-(d3 c h)) v, fun c' hc' => ?_, ?_, ?_, fun a h1 h2 => ?_⟩
  · rw [d3_c3]
    have h' := hh c' hc'
    rcases Int.lt_or_le 0 (d3 c' v) with z | z
    · have := lc c' hc' z
      have e1 : d3 c v * d3 c' h = -(-(d3 c' h) * d3 c v) := by grind
      omega
    · have a1 := Int.mul_nonneg (show 0 ≤ d3 c v by omega) (show 0 ≤ -(d3 c' h) by omega)
      have a2 := Int.mul_nonneg (show 0 ≤ -(d3 c h) by omega) (show 0 ≤ -(d3 c' v) by omega)
      rw [Int.mul_neg] at a1 a2
      omega
  · rw [d3_c3]; grind
  · rw [d3_c3, he]
    have := Int.mul_pos pc hp
    omega
  · rw [d3_c3, h1, h2]; simp
def low (planes : List V3) : List V3 := planes ++ [s3 (-1) (e3 0), s3 (-1) (e3 1), s3 (-1) (e3 2)]
theorem corner {h : V3} {planes : List V3} {k : Nat} (hh : ∀ c ∈ low planes, d3 c h ≤ 0) (hp : 0 < d3 (e3 k) h) :
    ∃ a ∈ low planes, ∃ b ∈ low planes, ∃ s : Int, (s = 1 ∨ s = -1) ∧ (∀ c ∈ low planes, d3 c (s3 s (x3 a b)) ≤ 0) ∧ 0 < d3 (e3 k) (s3 s (x3 a b)) := by
  -- one that is met
  obtain ⟨v1, hv1, hk1, hz⟩ : ∃ v1 : V3, (∃ c ∈ low planes, 0 < d3 c v1) ∧ d3 (e3 k) v1 = 0 ∧ ∀ a : V3, 0 < d3 a v1 → x3 a (e3 k) ≠ (0, 0, 0) := by
    match k with
    | 0 => exact ⟨s3 (-1) (e3 1), ⟨s3 (-1) (e3 1), by simp [low], by decide⟩, by decide, fun a h1 h2 => by
        simp only [x3, e3, s3, d3, Prod.mk.injEq] at h1 h2
        omega⟩
    | 1 => exact ⟨s3 (-1) (e3 0), ⟨s3 (-1) (e3 0), by simp [low], by decide⟩, by decide, fun a h1 h2 => by
        simp only [x3, e3, s3, d3, Prod.mk.injEq] at h1 h2
        omega⟩
    | k + 2 => exact ⟨s3 (-1) (e3 0), ⟨s3 (-1) (e3 0), by simp [low], by decide⟩, by simp [d3, s3, e3], fun a h1 h2 => by
        simp only [x3, e3, s3, d3, Prod.mk.injEq] at h1 h2
        omega⟩
  obtain ⟨a, ma, pa, h1, c1, t1, p1, _⟩ := moved hh hv1 hk1 hp
  have nz := hz a pa
  have i1 : d3 (e3 k) (x3 a (e3 k)) = 0 := by unfold d3 x3; grind
  have i2 : d3 a (x3 a (e3 k)) = 0 := by unfold d3 x3; grind
  obtain ⟨s2, hs2, hv2⟩ : ∃ s : Int, (s = 1 ∨ s = -1) ∧ ∃ c ∈ low planes, 0 < d3 c (s3 s (x3 a (e3 k))) := by
    generalize x3 a (e3 k) = w at nz
    have key : ∀ j, s3 (-1) (e3 j) ∈ low planes → d3 (e3 j) w ≠ 0 → ∃ s : Int, (s = 1 ∨ s = -1) ∧ ∃ c ∈ low planes, 0 < d3 c (s3 s w) := fun j hj hne => by
      have e : d3 (s3 (-1) (e3 j)) w = -(d3 (e3 j) w) := by unfold d3 s3; grind
      rcases Int.lt_or_le (d3 (e3 j) w) 0 with z | z
      · exact ⟨1, .inl rfl, _, hj, by rw [d3_s3, e]; omega⟩
      · exact ⟨-1, .inr rfl, _, hj, by rw [d3_s3, e]; omega⟩
    by_cases z0 : d3 (e3 0) w = 0
    · by_cases z1 : d3 (e3 1) w = 0
      · by_cases z2 : d3 (e3 2) w = 0
        · exfalso
          apply nz
          simp only [d3, e3] at z0 z1 z2
          obtain ⟨w0, w1, w2⟩ := w
          simp only [Prod.mk.injEq]
          simp only at z0 z1 z2
          omega
        · exact key 2 (by simp [low]) z2
      · exact key 1 (by simp [low]) z1
    · exact key 0 (by simp [low]) z0
  obtain ⟨b, mb, pb, h2, c2, t2, p2, k2⟩ := moved (e := e3 k) c1 hv2 (by rw [d3_s3, i1]; omega) p1
  have a2 : d3 a h2 = 0 := k2 a t1 (by rw [d3_s3, i2]; omega)
  have wk : d3 (e3 k) (x3 a b) = -(d3 b (x3 a (e3 k))) := by unfold d3 x3; grind
  have wne : d3 (e3 k) (x3 a b) ≠ 0 := fun z => by
    rw [d3_s3] at pb
    rw [z] at wk
    rw [show d3 b (x3 a (e3 k)) = 0 by omega] at pb
    omega
  -- along h2
  have par : ∀ c : V3, d3 (e3 k) h2 * d3 c (x3 a b) = d3 (e3 k) (x3 a b) * d3 c h2 := fun c => by
    have g : ∀ c e h : V3, d3 a h = 0 → d3 b h = 0 → d3 e h * d3 c (x3 a b) = d3 e (x3 a b) * d3 c h := by
      intro c e h ha hb
      obtain ⟨a0, a1, a2⟩ := a
      obtain ⟨b0, b1, b2⟩ := b
      obtain ⟨c0, c1, c2⟩ := c
      obtain ⟨f0, f1, f2⟩ := e
      obtain ⟨h0, h1, h2⟩ := h
      simp only [d3, x3] at ha hb ⊢
      grind
    exact g c (e3 k) h2 a2 t2
  have fin : ∀ s : Int, (s = 1 ∨ s = -1) → 0 < s * d3 (e3 k) (x3 a b) → ∃ a ∈ low planes, ∃ b ∈ low planes, ∃ s : Int, (s = 1 ∨ s = -1) ∧ (∀ c ∈ low planes, d3 c (s3 s (x3 a b)) ≤ 0) ∧ 0 < d3 (e3 k) (s3 s (x3 a b)) := fun s hs pos => by
    refine ⟨a, ma, b, mb, s, hs, fun c hc => ?_, by rw [d3_s3]; exact pos⟩
    rw [d3_s3]
    have h3 := par c
    have h4 := c2 c hc
    rcases Int.lt_or_le 0 (s * d3 c (x3 a b)) with z | z
    · have a1 := Int.mul_pos p2 z
      have a3 := Int.mul_nonneg (show 0 ≤ s * d3 (e3 k) (x3 a b) by omega) (show 0 ≤ -(d3 c h2) by omega)
      have e1 : d3 (e3 k) h2 * (s * d3 c (x3 a b)) = s * d3 (e3 k) (x3 a b) * d3 c h2 := by
        have : d3 (e3 k) h2 * (s * d3 c (x3 a b)) = s * (d3 (e3 k) h2 * d3 c (x3 a b)) := by grind
        rw [this, h3]
        grind
      rw [Int.mul_neg] at a3
      omega
    · exact z
  rcases Int.lt_or_le (d3 (e3 k) (x3 a b)) 0 with z | z
  · exact fin (-1) (.inr rfl) (by omega)
  · exact fin 1 (.inl rfl) (by omega)
end SP
/-! S23: the corner rays as lists. -/
namespace SP
open TL
def crossL (a b : List Int) : List Int := [a.getD 1 0 * b.getD 2 0 - a.getD 2 0 * b.getD 1 0, a.getD 2 0 * b.getD 0 0 - a.getD 0 0 * b.getD 2 0, a.getD 0 0 * b.getD 1 0 - a.getD 1 0 * b.getD 0 0]
def okR (planes : List (List Int)) (t : List Int) : Bool := t.all (fun x => decide (0 ≤ x)) && (t.any (fun x => decide (0 < x)) && planes.all fun r => decide (dot r t ≤ 0))
def flatL (planes : List (List Int)) : List (List Int) := planes ++ [[1, 0, 0], [0, 1, 0], [0, 0, 1]]
def rayOf (planes : List (List Int)) (i j s : Int) : List Int := (crossL ((flatL planes).getD j.toNat []) ((flatL planes).getD i.toNat [])).map fun x => s * x
def raysL (planes : List (List Int)) : List (List Int) := (rangeL 0 (flatL planes).length).flatMap fun i => (rangeL 0 i).flatMap fun j => ([1, -1] : List Int).filterMap fun s => if okR planes (rayOf planes i j s) = true then some (rayOf planes i j s) else none
def toV (l : List Int) : V3 := (l.getD 0 0, l.getD 1 0, l.getD 2 0)
theorem dot3 {r t : List Int} (h : r.length = 3) : dot r t = d3 (toV r) (toV t) := by
  unfold dot d3 toV
  rw [h]
  simp only [sm]
  omega
theorem toV_ray (planes : List (List Int)) (i j s : Int) : toV (rayOf planes i j s) = s3 s (x3 (toV ((flatL planes).getD j.toNat [])) (toV ((flatL planes).getD i.toNat []))) := rfl
theorem ray_len (planes : List (List Int)) (i j s : Int) : (rayOf planes i j s).length = 3 := rfl
theorem mem_rays {planes : List (List Int)} {t : List Int} : t ∈ raysL planes ↔ ∃ i j s : Int, (0 ≤ j ∧ j < i ∧ i < (flatL planes).length) ∧ (s = 1 ∨ s = -1) ∧ okR planes (rayOf planes i j s) = true ∧ t = rayOf planes i j s := by
  unfold raysL
  simp only [List.mem_flatMap, List.mem_filterMap, rangeL_mem']
  constructor
  · rintro ⟨i, ⟨i0, i1⟩, j, ⟨j0, j1⟩, s, hs, e⟩
    split at e
    · rename_i z
      cases e
      exact ⟨i, j, s, ⟨j0, j1, i1⟩, by simpa using hs, z, rfl⟩
    · cases e
  · rintro ⟨i, j, s, ⟨j0, j1, i1⟩, hs, z, rfl⟩
    exact ⟨i, ⟨by omega, i1⟩, j, ⟨j0, j1⟩, s, by simpa using hs, by rw [if_pos z]⟩
theorem okR_iff {planes : List (List Int)} {t : List Int} (ht : t.length = 3) (hp : ∀ r ∈ planes, r.length = 3) : okR planes t = true ↔ (∀ c ∈ low (planes.map toV), d3 c (toV t) ≤ 0) ∧ ∃ k, k < 3 ∧ 0 < t.getD k 0 := by
  obtain ⟨a, b, c, rfl⟩ : ∃ a b c, t = [a, b, c] := by
    match t, ht with
    | [a, b, c], _ => exact ⟨a, b, c, rfl⟩
  unfold okR low
  simp only [List.all_cons, List.all_nil, List.any_cons, List.any_nil, Bool.and_true, Bool.or_false, Bool.and_eq_true, Bool.or_eq_true, decide_eq_true_eq, List.all_eq_true, List.mem_append, List.mem_map]
  constructor
  · rintro ⟨⟨a0, b0, c0⟩, h1, h2⟩
    refine ⟨fun x hx => ?_, ?_⟩
    · rcases hx with ⟨r, hr, rfl⟩ | hx
      · rw [← dot3 (hp r hr)]; exact h2 r hr
      · simp only [List.mem_cons, List.mem_nil_iff, or_false] at hx
        rcases hx with rfl | rfl | rfl
        · show -1 * 1 * a + -1 * 0 * b + -1 * 0 * c ≤ 0; omega
        · show -1 * 0 * a + -1 * 1 * b + -1 * 0 * c ≤ 0; omega
        · show -1 * 0 * a + -1 * 0 * b + -1 * 1 * c ≤ 0; omega
    · rcases h1 with h | h | h
      · exact ⟨0, by omega, h⟩
      · exact ⟨1, by omega, h⟩
      · exact ⟨2, by omega, h⟩
  · rintro ⟨h1, k, hk, h2⟩
    have l0 := h1 (s3 (-1) (e3 0)) (.inr (by simp))
    have l1 := h1 (s3 (-1) (e3 1)) (.inr (by simp))
    have l2 := h1 (s3 (-1) (e3 2)) (.inr (by simp))
    have l0 : -1 * 1 * a + -1 * 0 * b + -1 * 0 * c ≤ 0 := l0
    have l1 : -1 * 0 * a + -1 * 1 * b + -1 * 0 * c ≤ 0 := l1
    have l2 : -1 * 0 * a + -1 * 0 * b + -1 * 1 * c ≤ 0 := l2
    refine ⟨⟨by omega, by omega, by omega⟩, ?_, fun r hr => by rw [dot3 (hp r hr)]; exact h1 _ (.inl ⟨r, hr, rfl⟩)⟩
    match k, hk with
    | 0, _ => exact .inl h2
    | 1, _ => exact .inr (.inl h2)
    | 2, _ => exact .inr (.inr h2)
theorem low_flat {planes : List (List Int)} {c : V3} (h : c ∈ low (planes.map toV)) : ∃ i : Nat, i < (flatL planes).length ∧ ∃ s : Int, (s = 1 ∨ s = -1) ∧ c = s3 s (toV ((flatL planes).getD i [])) := by
  have one : ∀ v : V3, v = s3 1 v := fun v => by unfold s3; simp
  unfold low at h
  rcases List.mem_append.mp h with h | h
  · obtain ⟨r, hr, rfl⟩ := List.mem_map.mp h
    obtain ⟨i, hi, rfl⟩ := List.mem_iff_getElem.mp hr
    refine ⟨i, by unfold flatL; simp; omega, 1, .inl rfl, ?_⟩
    have : (flatL planes).getD i [] = planes[i] := by
      unfold flatL
      rw [List.getD_eq_getElem?_getD, List.getElem?_append_left hi, List.getElem?_eq_getElem hi]
      rfl
    rw [this]
    exact one _
  · have g : ∀ j, (flatL planes).getD (planes.length + j) [] = ([[1, 0, 0], [0, 1, 0], [0, 0, 1]] : List (List Int)).getD j [] := fun j => by
      unfold flatL
      rw [List.getD_eq_getElem?_getD, List.getElem?_append_right (by omega), List.getD_eq_getElem?_getD]
      congr 2
      omega
    have hl : (flatL planes).length = planes.length + 3 := by unfold flatL; simp
    simp only [List.mem_cons, List.mem_nil_iff, or_false] at h
    rcases h with rfl | rfl | rfl
    · exact ⟨planes.length + 0, by omega, -1, .inr rfl, by rw [g]; rfl⟩
    · exact ⟨planes.length + 1, by omega, -1, .inr rfl, by rw [g]; rfl⟩
    · exact ⟨planes.length + 2, by omega, -1, .inr rfl, by rw [g]; rfl⟩
theorem e3_get {k : Nat} {t : List Int} (hk : k < 3) : d3 (e3 k) (toV t) = t.getD k 0 := by
  match k, hk with
  | 0, _ => simp [d3, e3, toV]
  | 1, _ => simp [d3, e3, toV]
  | 2, _ => simp [d3, e3, toV]
theorem rays_of {planes : List (List Int)} (hp : ∀ r ∈ planes, r.length = 3) {k : Nat} (hk : k < 3) {h : V3} (hh : ∀ c ∈ low (planes.map toV), d3 c h ≤ 0) (pos : 0 < d3 (e3 k) h) : ∃ t ∈ raysL planes, 0 < t.getD k 0 := by
  obtain ⟨a, ma, b, mb, s, hs, h1, h2⟩ := corner hh pos
  obtain ⟨i, hi, p, hp1, ea⟩ := low_flat ma
  obtain ⟨j, hj, q, hq1, eb⟩ := low_flat mb
  have sx : ∀ u v : V3, x3 (s3 p u) (s3 q v) = s3 (p * q) (x3 u v) := fun u v => by
    unfold x3 s3
    simp only [Prod.mk.injEq]
    refine ⟨?_, ?_, ?_⟩ <;> grind
  have ss : ∀ (k l : Int) (u : V3), s3 k (s3 l u) = s3 (k * l) u := fun k l u => by
    unfold s3
    simp only [Prod.mk.injEq]
    refine ⟨?_, ?_, ?_⟩ <;> grind
  have fl : ∀ u v : V3, x3 u v = s3 (-1) (x3 v u) := fun u v => by
    unfold x3 s3
    simp only [Prod.mk.injEq]
    refine ⟨?_, ?_, ?_⟩ <;> grind
  rw [ea, eb, sx, ss] at h1 h2
  have sgn : ∀ σ : Int, (σ = s * (p * q) ∨ σ = s * (p * q) * -1) → σ = 1 ∨ σ = -1 := fun σ h => by
    rcases hs with rfl | rfl <;> rcases hp1 with rfl | rfl <;> rcases hq1 with rfl | rfl <;> omega
  have fin : ∀ (i j : Nat) (σ : Int), j < i → i < (flatL planes).length → (σ = 1 ∨ σ = -1) → s3 (s * (p * q)) (x3 a b) = s3 (s * (p * q)) (x3 a b) → (∀ c ∈ low (planes.map toV), d3 c (s3 σ (x3 (toV ((flatL planes).getD j [])) (toV ((flatL planes).getD i [])))) ≤ 0) → 0 < d3 (e3 k) (s3 σ (x3 (toV ((flatL planes).getD j [])) (toV ((flatL planes).getD i [])))) → ∃ t ∈ raysL planes, 0 < t.getD k 0 := fun i j σ hij hi hσ _ g1 g2 => by
    have e : toV (rayOf planes i j σ) = s3 σ (x3 (toV ((flatL planes).getD j [])) (toV ((flatL planes).getD i []))) := by
      rw [toV_ray, Int.toNat_natCast, Int.toNat_natCast]
    rw [← e] at g1 g2
    rw [e3_get hk] at g2
    exact ⟨rayOf planes i j σ, mem_rays.mpr ⟨i, j, σ, ⟨by omega, by omega, by omega⟩, hσ, (okR_iff (ray_len _ _ _ _) hp).mpr ⟨g1, k, hk, g2⟩, rfl⟩, g2⟩
  rcases Nat.lt_trichotomy i j with z | z | z
  · exact fin j i (s * (p * q)) z hj (sgn _ (.inl rfl)) rfl h1 h2
  · subst z
    exfalso
    have : x3 (toV ((flatL planes).getD i [])) (toV ((flatL planes).getD i [])) = (0, 0, 0) := by
      unfold x3
      simp only [Prod.mk.injEq]
      refine ⟨?_, ?_, ?_⟩ <;> grind
    rw [this] at h2
    simp [d3, s3] at h2
  · rw [fl, ss] at h1 h2
    exact fin i j (s * (p * q) * -1) z hi (sgn _ (.inr rfl)) rfl h1 h2
/-! ### rows of one to three places -/
def pad (r : List Int) : List Int := r ++ List.replicate (3 - r.length) 0
theorem pad_len {r : List Int} (h : r.length ≤ 3) : (pad r).length = 3 := by unfold pad; simp; omega
theorem pad_get (r : List Int) (v : Nat) : (pad r).getD v 0 = r.getD v 0 := by
  unfold pad
  rcases Nat.lt_or_ge v r.length with h | h
  · rw [List.getD_eq_getElem?_getD, List.getElem?_append_left h, List.getD_eq_getElem?_getD]
  · rw [List.getD_eq_getElem?_getD, List.getElem?_append_right h, List.getElem?_replicate, getD_out h]
    split <;> rfl
theorem sm3 {n : Nat} (hn : n ≤ 3) {f : Nat → Int} (h : ∀ v, n ≤ v → f v = 0) : f 0 + f 1 + f 2 = sm n f := by
  match n, hn with
  | 0, _ => simp [sm, h 0 (by omega), h 1 (by omega), h 2 (by omega)]
  | 1, _ => simp [sm, h 1 (by omega), h 2 (by omega)]
  | 2, _ => simp [sm, h 2 (by omega)]
  | 3, _ => simp [sm]
theorem rays_iff {rows : List (List Int)} {n k : Nat} (hn : n ≤ 3) (hl : ∀ r ∈ rows, r.length = n) (hk : k < n) : (∃ t ∈ raysL (rows.map pad), 0 < t.getD k 0) ↔ Grows (fun i v => en rows i v) rows.length n k := by
  have hp : ∀ r ∈ rows.map pad, r.length = 3 := fun r hr => by
    obtain ⟨q, hq, rfl⟩ := List.mem_map.mp hr
    exact pad_len (by rw [hl q hq]; exact hn)
  constructor
  · rintro ⟨t, ht, pos⟩
    obtain ⟨i, j, s, _, _, ok, rfl⟩ := mem_rays.mp ht
    obtain ⟨h1, _⟩ := (okR_iff (ray_len _ _ _ _) hp).mp ok
    refine ⟨fun v => (rayOf (rows.map pad) i j s).getD v 0, fun v hv => ?_, fun a ha => ?_, by show 1 ≤ (rayOf (rows.map pad) i j s).getD k 0; omega⟩
    · have := h1 (s3 (-1) (e3 v)) (by
        unfold low
        refine List.mem_append_right _ ?_
        match v, (show v < 3 by omega) with
        | 0, _ => simp
        | 1, _ => simp
        | 2, _ => simp)
      have e : d3 (s3 (-1) (e3 v)) (toV (rayOf (rows.map pad) i j s)) = -(d3 (e3 v) (toV (rayOf (rows.map pad) i j s))) := by unfold d3 s3; grind
      rw [e, e3_get (by omega)] at this
      show 0 ≤ (rayOf (rows.map pad) i j s).getD v 0
      omega
    · have hm : pad (rows.getD a []) ∈ rows.map pad := List.mem_map.mpr ⟨rows.getD a [], by rw [List.getD_eq_getElem?_getD, List.getElem?_eq_getElem ha]; exact List.getElem_mem _, rfl⟩
      have := h1 (toV (pad (rows.getD a []))) (List.mem_append_left _ (List.mem_map.mpr ⟨_, hm, rfl⟩))
      have hr : (rows.getD a []).length = n := by
        rw [List.getD_eq_getElem?_getD, List.getElem?_eq_getElem ha]
        exact hl _ (List.getElem_mem _)
      have e := sm3 hn (f := fun v => en rows a v * (rayOf (rows.map pad) i j s).getD v 0) fun v hv => by
        show en rows a v * _ = 0
        unfold en
        rw [getD_out (by omega)]
        simp
      rw [← e]
      unfold d3 toV at this
      simp only [pad_get] at this
      exact this
  · rintro ⟨h, h1, h2, h3⟩
    let w : Nat → Int := fun v => if v < n then h v else 0
    have ww : ∀ v, v < n → w v = h v := fun v hv => if_pos hv
    have w0 : ∀ v, n ≤ v → w v = 0 := fun v hv => if_neg (by omega)
    have wn : ∀ v, 0 ≤ w v := fun v => by
      by_cases z : v < n
      · rw [ww v z]; exact h1 v z
      · rw [w0 v (by omega)]; exact Int.le_refl 0
    refine rays_of hp (show k < 3 by omega) (h := (w 0, w 1, w 2)) (fun c hc => ?_) ?_
    · unfold low at hc
      rcases List.mem_append.mp hc with hc | hc
      · obtain ⟨r, hr, rfl⟩ := List.mem_map.mp hc
        obtain ⟨q, hq, rfl⟩ := List.mem_map.mp hr
        obtain ⟨a, ha, rfl⟩ := List.mem_iff_getElem.mp hq
        have e := sm3 hn (f := fun v => en rows a v * w v) fun v hv => by show _ * w v = 0; rw [w0 v hv]; simp
        have e2 : sm n (fun v => en rows a v * w v) = sm n (fun v => en rows a v * h v) := sm_congr fun v hv => by rw [ww v hv]
        have : sm n (fun v => en rows a v * h v) ≤ 0 := h2 a ha
        have g : ∀ v, (pad rows[a]).getD v 0 = en rows a v := fun v => by
          rw [pad_get]
          unfold en
          rw [List.getD_eq_getElem?_getD (l := rows), List.getElem?_eq_getElem ha]
          rfl
        unfold d3 toV
        simp only [g]
        omega
      · simp only [List.mem_cons, List.mem_nil_iff, or_false] at hc
        have a0 := wn 0
        have a1 := wn 1
        have a2 := wn 2
        rcases hc with rfl | rfl | rfl
        · show -1 * 1 * w 0 + -1 * 0 * w 1 + -1 * 0 * w 2 ≤ 0; omega
        · show -1 * 0 * w 0 + -1 * 1 * w 1 + -1 * 0 * w 2 ≤ 0; omega
        · show -1 * 0 * w 0 + -1 * 0 * w 1 + -1 * 1 * w 2 ≤ 0; omega
    · have := ww k hk
      match k, (show k < 3 by omega) with
      | 0, _ => show 0 < 1 * w 0 + 0 * w 1 + 0 * w 2; omega
      | 1, _ => show 0 < 0 * w 0 + 1 * w 1 + 0 * w 2; omega
      | 2, _ => show 0 < 0 * w 0 + 0 * w 1 + 1 * w 2; omega
end SP
/-! S24: least and greatest; draws one behind another; rings. -/
namespace SP
open TL
theorem minL_cons (x : Int) (r : List Int) : minL (x :: r) = .ok (r.foldl min x) := rfl
theorem maxL_cons (x : Int) (r : List Int) : maxL (x :: r) = .ok (r.foldl max x) := rfl
theorem min_ge {x c : Int} {r : List Int} : c ≤ r.foldl min x ↔ ∀ y ∈ x :: r, c ≤ y := by
  obtain ⟨h1, h2⟩ := foldl_min_le r x
  refine ⟨fun h y hy => ?_, fun h => ?_⟩
  · rcases List.mem_cons.mp hy with rfl | hy
    · omega
    · have := h2 y hy; omega
  · rcases foldl_min_mem r x with e | e
    · rw [e]; exact h x List.mem_cons_self
    · exact h _ (List.mem_cons_of_mem _ e)
theorem max_gt {x c : Int} {r : List Int} : c < r.foldl max x ↔ ∃ y ∈ x :: r, c < y := by
  obtain ⟨h1, h2⟩ := foldl_max_ge r x
  refine ⟨fun h => ?_, fun ⟨y, hy, h⟩ => ?_⟩
  · rcases foldl_max_mem r x with e | e
    · exact ⟨x, List.mem_cons_self, by omega⟩
    · exact ⟨_, List.mem_cons_of_mem _ e, h⟩
  · rcases List.mem_cons.mp hy with rfl | hy
    · omega
    · have := h2 y hy; omega
theorem max_lt {x c : Int} {r : List Int} : r.foldl max x < c ↔ ∀ y ∈ x :: r, y < c := by
  obtain ⟨h1, h2⟩ := foldl_max_ge r x
  refine ⟨fun h y hy => ?_, fun h => ?_⟩
  · rcases List.mem_cons.mp hy with rfl | hy
    · omega
    · have := h2 y hy; omega
  · rcases foldl_max_mem r x with e | e
    · rw [e]; exact h x List.mem_cons_self
    · exact h _ (List.mem_cons_of_mem _ e)
/-- max([0] + ..) = 0 -/
theorem max0 {r : List Int} : r.foldl max 0 = 0 ↔ ∀ y ∈ r, y ≤ 0 := by
  have h := max_lt (x := 0) (c := 1) (r := r)
  obtain ⟨h1, h2⟩ := foldl_max_ge r 0
  constructor
  · intro e y hy
    have := h2 y hy
    omega
  · intro a
    have := h.mpr fun y hy => by
      rcases List.mem_cons.mp hy with rfl | hy
      · omega
      · have := a y hy; omega
    omega
abbrev PoolT := List Int × Int × Int × Int
/-- draws one behind another -/
theorem draws {β γ δ S : Type} {g : β → (PoolT × S) → Rs (Option γ × (PoolT × S))} (rest : S) (Q : γ → Prop) (hh : γ → δ) (kk : β → δ) : ∀ (xs : List β) (p : PoolT), (∀ b ∈ xs, ∀ p : PoolT, 0 ≤ p.2.1 → Okp (g b (p, rest)) fun o => ∃ y p', o = (some y, (p', rest)) ∧ Q y ∧ hh y = kk b ∧ 0 ≤ p'.2.1) → 0 ≤ p.2.1 →
    Okp (lcE g xs (p, rest)) fun r => r.1.map hh = xs.map kk ∧ (∀ y ∈ r.1, Q y) ∧ ∃ p', r.2 = (p', rest) ∧ 0 ≤ p'.2.1
  | [], p, _, hp => ⟨_, rfl, rfl, fun y hy => by simp at hy, p, rfl, hp⟩
  | x :: r, p, hg, hp => by
    unfold TL.lcE
    refine (hg x List.mem_cons_self p hp).step fun o ho => ?_
    obtain ⟨y, p', rfl, q1, q2, q3⟩ := ho
    refine (draws rest Q hh kk r p' (fun b hb => hg b (List.mem_cons_of_mem _ hb)) q3).step fun z hz => ?_
    obtain ⟨z1, z2, p'', z3, z4⟩ := hz
    refine Okp.ok ⟨?_, fun w hw => ?_, p'', z3, z4⟩
    · show (y :: z.1).map hh = _
      rw [List.map_cons, List.map_cons, q2, z1]
    · have hw : w ∈ y :: z.1 := hw
      rcases List.mem_cons.mp hw with rfl | hw
      · exact q1
      · exact z2 w hw
/-- .. the pool anywhere in the state -/
theorem drawsE {β γ δ σ : Type} {g : β → σ → Rs (Option γ × σ)} (emb : PoolT → σ) (Q : γ → Prop) (hh : γ → δ) (kk : β → δ) : ∀ (xs : List β) (p : PoolT), (∀ b ∈ xs, ∀ p : PoolT, 0 ≤ p.2.1 → Okp (g b (emb p)) fun o => ∃ y p', o = (some y, emb p') ∧ Q y ∧ hh y = kk b ∧ 0 ≤ p'.2.1) → 0 ≤ p.2.1 →
    Okp (lcE g xs (emb p)) fun r => r.1.map hh = xs.map kk ∧ (∀ y ∈ r.1, Q y) ∧ ∃ p', r.2 = emb p' ∧ 0 ≤ p'.2.1
  | [], p, _, hp => ⟨_, rfl, rfl, fun y hy => by simp at hy, p, rfl, hp⟩
  | x :: r, p, hg, hp => by
    unfold TL.lcE
    refine (hg x List.mem_cons_self p hp).step fun o ho => ?_
    obtain ⟨y, p', rfl, q1, q2, q3⟩ := ho
    refine (drawsE emb Q hh kk r p' (fun b hb => hg b (List.mem_cons_of_mem _ hb)) q3).step fun z hz => ?_
    obtain ⟨z1, z2, p'', z3, z4⟩ := hz
    refine Okp.ok ⟨?_, fun w hw => ?_, p'', z3, z4⟩
    · show (y :: z.1).map hh = _
      rw [List.map_cons, List.map_cons, q2, z1]
    · have hw : w ∈ y :: z.1 := hw
      rcases List.mem_cons.mp hw with rfl | hw
      · exact q1
      · exact z2 w hw
/-! ### rings -/
def ringA (L : Nat) (N R : Nat → Int) (k v : Nat) : Int := (if v = k then N k else 0) - (if v = (k + 1) % L then R k else 0)
theorem ring_row {L k : Nat} {N R h : Nat → Int} (hk : k < L) : sm L (fun v => ringA L N R k v * h v) = N k * h k - R k * h ((k + 1) % L) := by
  have e : sm L (fun v => ringA L N R k v * h v) = sm L (fun v => (if v = k then N k * h k else 0) + -(if v = (k + 1) % L then R k * h ((k + 1) % L) else 0)) := sm_congr fun v _ => by
    unfold ringA
    rw [Int.sub_mul]
    by_cases a : v = k <;> by_cases b : v = (k + 1) % L
    · rw [if_pos a, if_pos b, if_pos a, if_pos b, ← b, ← a]; omega
    · rw [if_pos a, if_neg b, if_pos a, if_neg b, a]; omega
    · rw [if_neg a, if_pos b, if_neg a, if_pos b, ← b]; omega
    · rw [if_neg a, if_neg b, if_neg a, if_neg b]; omega
  have hm : (k + 1) % L < L := Nat.mod_lt _ (by omega)
  rw [e, sm_add, sm_neg, sm_one (f := fun v => if v = k then N k * h k else 0) (k := k) hk fun i _ ne => if_neg ne, sm_one (f := fun v => if v = (k + 1) % L then R k * h ((k + 1) % L) else 0) (k := (k + 1) % L) hm fun i _ ne => if_neg ne, if_pos rfl, if_pos rfl]
  omega
theorem pr_pos {n : Nat} {f : Nat → Int} (h : ∀ i, i < n → 1 ≤ f i) : 1 ≤ pr n f := by
  induction n with
  | zero => simp [pr]
  | succ n ih =>
    have h1 := ih fun i hi => h i (by omega)
    have h2 := h n (by omega)
    have := Int.mul_le_mul h1 h2 (by omega) (by omega)
    show 1 ≤ pr n f * f n
    omega
theorem ring_grows {L p : Nat} {N R : Nat → Int} (hL : 1 ≤ L) (hp : p < L) (hN : ∀ k, k < L → 1 ≤ N k) (hR : ∀ k, k < L → 1 ≤ R k) : Grows (ringA L N R) L L p ↔ pr L N ≤ pr L R := by
  constructor
  · rintro ⟨h, h1, h2, h3⟩
    have H : ∀ k, k < L → N k * h k ≤ R k * h ((k + 1) % L) := fun k hk => by
      have := h2 k hk
      rw [ring_row hk] at this
      omega
    -- all above 0
    have up : ∀ k, k < L → 0 < h k → 0 < h ((k + 1) % L) := fun k hk pos => by
      have a := H k hk
      have b := Int.mul_pos (show 0 < N k by have := hN k hk; omega) pos
      rcases Int.lt_or_le 0 (h ((k + 1) % L)) with z | z
      · exact z
      · have := Int.mul_nonneg (show 0 ≤ R k by have := hR k hk; omega) (show 0 ≤ -h ((k + 1) % L) by omega)
        rw [Int.mul_neg] at this
        omega
    have all : ∀ j, p + j ≤ L → 0 < h ((p + j) % L) := fun j => by
      induction j with
      | zero => intro _; rw [Nat.add_zero, Nat.mod_eq_of_lt hp]; omega
      | succ j ih =>
        intro hj
        have hlt : p + j < L := by omega
        have := ih (by omega)
        rw [Nat.mod_eq_of_lt hlt] at this
        exact up (p + j) hlt this
    have h0 : 0 < h 0 := by
      have := all (L - p) (by omega)
      rwa [show p + (L - p) = L by omega, Nat.mod_self] at this
    have chain : ∀ k, k ≤ L → pr k N * h 0 ≤ pr k R * h (k % L) := fun k => by
      induction k with
      | zero => intro _; simp [pr]
      | succ k ih =>
        intro hk
        have i1 := ih (by omega)
        rw [Nat.mod_eq_of_lt (show k < L by omega)] at i1
        have i2 := H k (by omega)
        have p1 := pr_pos (n := k) (f := R) fun i hi => hR i (by omega)
        have a1 := Int.mul_le_mul_of_nonneg_left i1 (show 0 ≤ N k by have := hN k (by omega); omega)
        have a2 := Int.mul_le_mul_of_nonneg_left i2 (show 0 ≤ pr k R by omega)
        show pr k N * N k * h 0 ≤ pr k R * R k * h ((k + 1) % L)
        have e1 : pr k N * N k * h 0 = N k * (pr k N * h 0) := by grind
        have e2 : N k * (pr k R * h k) = pr k R * (N k * h k) := by grind
        have e3 : pr k R * R k * h ((k + 1) % L) = pr k R * (R k * h ((k + 1) % L)) := by grind
        omega
    have c := chain L (Nat.le_refl _)
    rw [Nat.mod_self] at c
    exact Int.le_of_mul_le_mul_right c h0
  · intro hle
    let h : Nat → Int := fun k => pr k N * pr (L - k) fun i => R (k + i)
    have pos : ∀ k, k ≤ L → 1 ≤ h k := fun k hk => by
      have a := pr_pos (n := k) (f := N) fun i hi => hN i (by omega)
      have b := pr_pos (n := L - k) (f := fun i => R (k + i)) fun i hi => hR _ (by omega)
      have := Int.mul_le_mul a b (by omega) (by omega)
      show 1 ≤ pr k N * pr (L - k) fun i => R (k + i)
      omega
    have stp : ∀ k, k < L → N k * h k = R k * h (k + 1) := fun k hk => by
      show N k * (pr k N * pr (L - k) fun i => R (k + i)) = R k * (pr k N * N k * pr (L - (k + 1)) fun i => R (k + 1 + i))
      have e : (pr (L - k) fun i => R (k + i)) = R k * pr (L - (k + 1)) fun i => R (k + 1 + i) := by
        rw [show L - k = (L - (k + 1)) + 1 by omega, pr_succ']
        congr 1
        congr 1
        funext i
        congr 1
        omega
      rw [e]
      grind
    refine ⟨h, fun v hv => by have := pos v (by omega); omega, fun i hi => ?_, pos p (by omega)⟩
    rw [ring_row hi, stp i hi]
    by_cases z : i + 1 < L
    · rw [Nat.mod_eq_of_lt z]; omega
    · have ei : i + 1 = L := by omega
      rw [ei, Nat.mod_self]
      have e1 : h L = pr L N := by show pr L N * pr (L - L) _ = _; rw [Nat.sub_self]; simp [pr]
      have e2 : h 0 = pr L R := by show pr 0 N * pr (L - 0) (fun i => R (0 + i)) = _; simp [pr]
      rw [e1, e2]
      have := Int.mul_le_mul_of_nonneg_left hle (show 0 ≤ R i by have := hR i hi; omega)
      omega
end SP
namespace T30
open TL SP
theorem e_mixed (a b : Int) : ∃ r, m__law_mixed (a, b) = .ok r := by
  unfold m__law_mixed w__law_mixed
  simp only [Rs.bind_assoc, Rs.ok_bind, then_nx, then_rt, endM_rt, endM_nx]
  have c1 : ∀ x : Int, L2.CMul x 48271 := fun x => .inr (by decide)
  have c2 : ∀ x : Int, L2.CMul x 69621 := fun x => .inr (by decide)
  have c3 : ∀ x : Int, L2.CMul 16807 x := fun x => .inl (by decide)
  have c4 : ∀ x : Int, L2.CMul (x.fmod 2147483647) (x.fmod 2147483647) := fun x => by
    have h1 := Int.fmod_nonneg_of_pos x (show (0 : Int) < 2147483647 by decide)
    have h2 := Int.fmod_lt_of_pos x (show (0 : Int) < 2147483647 by decide)
    exact .inl ⟨by omega, by omega⟩
  have c5 : ∀ x : Int, L2.CDivN x 8 := fun x => by unfold L2.CDivN; decide
  have n1 : (2147483647 : Int) ≠ 0 := by decide
  have n2 : (268435399 : Int) ≠ 0 := by decide
  rw [Rs.guard_of (decide_eq_true (c1 _)), Rs.ok_bind, Rs.guard_of (decide_eq_true (c2 _)), Rs.ok_bind, Rs.guard_of (decide_eq_true n1), Rs.ok_bind, Rs.guard_of (decide_eq_true (c4 _)), Rs.ok_bind, Rs.guard_of (decide_eq_true (c3 _)), Rs.ok_bind, Rs.guard_of (decide_eq_true n1), Rs.ok_bind, Rs.guard_of (decide_eq_true (c5 _)), Rs.ok_bind, Rs.guard_of (decide_eq_true n2), Rs.ok_bind]
  exact ⟨_, rfl⟩
abbrev Pool := List Int × Int × Int × Int
theorem e_draw (p : Pool) (b : Int) (hb : 0 < b) (hb2 : b < 1073741824) (hi : 0 ≤ p.2.1) : ∃ d p', m__law_draw (p, b) = .ok (d, p') ∧ 0 ≤ d ∧ d < b ∧ 0 ≤ p'.2.1 := by
  obtain ⟨l, i, n, k⟩ := p
  have hi : 0 ≤ i := hi
  have hb0 : b ≠ 0 := by omega
  have cd : ∀ x, L2.CDivN x b := fun x => ⟨hb0, by omega⟩
  have fm : ∀ x : Int, 0 ≤ x.fmod b ∧ x.fmod b < b := fun x => ⟨Int.fmod_nonneg_of_pos x hb, Int.fmod_lt_of_pos x hb⟩
  unfold m__law_draw w__law_draw
  simp only [Rs.bind_assoc, Rs.ok_bind, then_nx, then_rt, endM_rt, endM_nx]
  by_cases hk : 0 < k
  · rw [decide_eq_true hk, if_pos rfl, Rs.guard_of (decide_eq_true hb0), Rs.ok_bind, Rs.guard_of (decide_eq_true (cd n)), Rs.ok_bind, Rs.ok_bind, then_rt, Rs.ok_bind, endM_rt]
    exact ⟨_, _, rfl, (fm n).1, (fm n).2, hi⟩
  · rw [decide_eq_false hk, if_neg (by simp), Rs.ok_bind, then_nx]
    dsimp only
    rw [Rs.bind_assoc]
    by_cases hl : (l.length : Int) ≤ i
    · rw [decide_eq_true hl, if_pos rfl, Rs.ok_bind, then_rt, Rs.ok_bind, endM_rt]
      exact ⟨_, _, rfl, Int.le_refl 0, hb, hi⟩
    · rw [decide_eq_false hl, if_neg (by simp), Rs.ok_bind, then_nx]
      dsimp only
      rw [Rs.bind_assoc, getD_at 0 ⟨hi, by omega⟩, ofOpt_some, Rs.ok_bind]
      have c10 : L2.CPow 10 18 := by unfold L2.CPow; decide
      generalize l.getD i.toNat 0 = cell
      have fin : ∀ c : Int, ∃ d p', (((Rs.guard (decide (L2.CPow 10 18)) (Rs.ok ((10 : Int) ^ Int.toNat 18))).bind fun a =>
          (if decide (a ≤ c) = true then
                (Rs.guard (decide (L2.CDivN c b)) (Rs.ok (c.fdiv b))).bind fun a => (Rs.guard (decide (b ≠ 0)) (Rs.ok (c.fmod b))).bind fun a_1 => Rs.ok (Fl.rt (S := Pool × Int × Unit × Int × Unit) (L := Unit) (a_1, ((l, i + 1, a, (40 : Int)) : Pool)))
              else Rs.ok (Fl.nx ((l, i + 1, n, k), b, (), c, ()))).bind
            (Fl.then fun s => (m__law_mixed (s.2.2.2.1, s.1.2.1)).bind fun a => (Rs.guard (decide (s.2.1 ≠ 0)) (Rs.ok (a.fmod s.2.1))).bind fun a => Rs.ok (Fl.rt (S := Pool × Int × Unit × Unit × Unit) (L := Unit) (a, s.1)))).bind (endM fun x => Rs.bad)) = .ok (d, p') ∧ 0 ≤ d ∧ d < b ∧ 0 ≤ p'.2.1 := fun c => by
        rw [Rs.guard_of (decide_eq_true c10), Rs.ok_bind]
        by_cases h : (10 : Int) ^ Int.toNat 18 ≤ c
        · rw [decide_eq_true h, if_pos rfl, Rs.guard_of (decide_eq_true (cd c)), Rs.ok_bind, Rs.guard_of (decide_eq_true hb0), Rs.ok_bind, Rs.ok_bind, then_rt, Rs.ok_bind, endM_rt]
          exact ⟨_, _, rfl, (fm c).1, (fm c).2, by show 0 ≤ i + 1; omega⟩
        · obtain ⟨r, hr⟩ := e_mixed c (i + 1)
          rw [decide_eq_false h, if_neg (by simp), Rs.ok_bind, then_nx]
          dsimp only
          rw [hr, Rs.ok_bind, Rs.guard_of (decide_eq_true hb0), Rs.ok_bind, Rs.ok_bind, endM_rt]
          exact ⟨_, _, rfl, (fm r).1, (fm r).2, by show 0 ≤ i + 1; omega⟩
      by_cases h : cell < 0
      · rw [decide_eq_true h, if_pos rfl, Rs.ok_bind, then_nx]
        dsimp only
        exact fin (1 - cell)
      · rw [decide_eq_false h, if_neg (by simp), Rs.ok_bind, then_nx]
        dsimp only
        exact fin cell
end T30
namespace T30
open TL SP
theorem log_ok {n : Int} (h : n.natAbs < 2 ^ 64) : n.natAbs.log2 < 1920 := by
  by_cases e : n.natAbs = 0
  · rw [e]; decide
  · have := (Nat.log2_lt e (k := 64)).mpr h
    omega
theorem len_ok {r : List Int} {n : Int} {w : SK} (h : (r.length : Int) = n) : m_sum_length (r, n, w) = .ok () := by
  unfold m_sum_length w_sum_length
  try simp only [Rs.bind_assoc, Rs.ok_bind, then_nx, then_rt, endM_rt, endM_nx, ofOpt_some, if_true, Bool.false_eq_true, if_false, Bool.not_true, Bool.not_false]
  rw [decide_eq_true h]
  rfl
theorem len_okT {r : List Int} {n : Int} {w : SK} (h : (r.length : Int) = n) : m_sum_lengthT (r, n, w) = .ok () := by
  unfold m_sum_lengthT w_sum_lengthT
  try simp only [Rs.bind_assoc, Rs.ok_bind, then_nx, then_rt, endM_rt, endM_nx, ofOpt_some, if_true, Bool.false_eq_true, if_false, Bool.not_true, Bool.not_false]
  rw [decide_eq_true h]
  rfl
theorem len_bad {r : List Int} {n : Int} {w : SK} (h : (r.length : Int) ≠ n) (h1 : r.length ≤ 1000) (h2 : n.natAbs < 2 ^ 64) (hw : w.1.length ≤ 2000) : m_sum_length (r, n, w) = .exc 1 := by
  unfold m_sum_length w_sum_length
  try simp only [Rs.bind_assoc, Rs.ok_bind, then_nx, then_rt, endM_rt, endM_nx, ofOpt_some, if_true, Bool.false_eq_true, if_false, Bool.not_true, Bool.not_false]
  rw [decide_eq_false h, Rs.guard_of (decide_eq_true hw), Rs.guard_of (decide_eq_true (log_ok (by omega))), Rs.guard_of (decide_eq_true (log_ok h2))]
  rfl
theorem place_ok {p n : Int} (h : 0 ≤ p ∧ p < n) : m_sum_place (p, n) = .ok () := by
  have e : m_whole_from (p, 0) = .ok true := by
    unfold m_whole_from w_whole_from
    try simp only [Rs.bind_assoc, Rs.ok_bind, then_nx, then_rt, endM_rt, endM_nx, ofOpt_some, if_true, Bool.false_eq_true, if_false, Bool.not_true, Bool.not_false]
    simp [rAnd, Rs.ok_bind, h.1]
  unfold m_sum_place w_sum_place
  try simp only [Rs.bind_assoc, Rs.ok_bind, then_nx, then_rt, endM_rt, endM_nx, ofOpt_some, if_true, Bool.false_eq_true, if_false, Bool.not_true, Bool.not_false]
  rw [e]
  have : ¬ n ≤ p := by omega
  simp [rOr, Rs.ok_bind, this, then_nx, endM_nx]
theorem place_bad {p n : Int} (h : p < 0 ∨ n ≤ p) (h1 : p.natAbs < 2 ^ 64) (h2 : n.natAbs < 2 ^ 64) : m_sum_place (p, n) = .exc 1 := by
  have e : m_whole_from (p, 0) = .ok (decide (0 ≤ p)) := by
    unfold m_whole_from w_whole_from
    try simp only [Rs.bind_assoc, Rs.ok_bind, then_nx, then_rt, endM_rt, endM_nx, ofOpt_some, if_true, Bool.false_eq_true, if_false, Bool.not_true, Bool.not_false]
    by_cases z : 0 ≤ p <;> simp [rAnd, Rs.ok_bind, z]
  unfold m_sum_place w_sum_place
  try simp only [Rs.bind_assoc, Rs.ok_bind, then_nx, then_rt, endM_rt, endM_nx, ofOpt_some, if_true, Bool.false_eq_true, if_false, Bool.not_true, Bool.not_false]
  rw [e]
  have : (rOr ((Rs.ok (decide (0 ≤ p))).bind fun c => Rs.ok (!c)) (Rs.ok (decide (n ≤ p)))) = .ok true := by
    by_cases z : 0 ≤ p
    · have : n ≤ p := by omega
      simp [rOr, Rs.ok_bind, z, this]
    · simp [rOr, Rs.ok_bind, z]
  simp only [Rs.ok_bind] at this ⊢
  rw [this, Rs.ok_bind, if_pos rfl, Rs.guard_of (decide_eq_true (log_ok h1)), Rs.guard_of (decide_eq_true (log_ok h2))]
  rfl
theorem rows_ok {r : List (List Int × Int)} {n : Int} (h : ∀ p ∈ r, (p.1.length : Int) = n) (hl : r.length ≤ 1000) : m_sum_rows (r, n) = .ok r := by
  refine Okp.eq ?_
  unfold m_sum_rows w_sum_rows
  try simp only [Rs.bind_assoc, Rs.ok_bind, then_nx, then_rt, endM_rt, endM_nx, ofOpt_some, if_true, Bool.false_eq_true, if_false, Bool.not_true, Bool.not_false]
  refine Okp.forS (fun d s => s.2.1 = n ∧ s.2.2.1 = d) ⟨rfl, rfl⟩ (fun d x l s e hP => ?_) (fun s hP => ?_)
  · obtain ⟨p1, p2⟩ := hP
    have hx : x ∈ r := by rw [← e]; simp
    have hd : d.length < r.length := by rw [← e]; simp
    rw [p1, p2]
    refine Okp.go (len_ok (h x hx)) ?_
    refine Okp.goG (decide_eq_true (by rw [PySem.sizeLine_eq]; omega)) rfl (Okp.ok ⟨_, .inl rfl, rfl, rfl⟩)
  · rw [then_nx, Rs.ok_bind, endM_rt]
    exact Okp.ok hP.2
theorem rows_okT {r : List (List Int × Int)} {n : Int} (h : ∀ p ∈ r, (p.1.length : Int) = n) (hl : r.length ≤ 1000) : m_sum_rowsT (r, n) = .ok r := by
  refine Okp.eq ?_
  unfold m_sum_rowsT w_sum_rowsT
  try simp only [Rs.bind_assoc, Rs.ok_bind, then_nx, then_rt, endM_rt, endM_nx, ofOpt_some, if_true, Bool.false_eq_true, if_false, Bool.not_true, Bool.not_false]
  refine Okp.forS (fun d s => s.2.1 = n ∧ s.2.2.1 = d) ⟨rfl, rfl⟩ (fun d x l s e hP => ?_) (fun s hP => ?_)
  · obtain ⟨p1, p2⟩ := hP
    have hx : x ∈ r := by rw [← e]; simp
    have hd : d.length < r.length := by rw [← e]; simp
    rw [p1, p2]
    refine Okp.go (len_okT (h x hx)) ?_
    refine Okp.goG (decide_eq_true (by rw [PySem.sizeLine_eq]; omega)) rfl (Okp.ok ⟨_, .inl rfl, rfl, rfl⟩)
  · rw [then_nx, Rs.ok_bind, endM_rt]
    exact Okp.ok hP.2
/-- a loop that is broken off by an exception -/
theorem for_exc {β ρ S L : Type} {b : β → S → Rs (Fl ρ S S)} {c : Nat} (P : S → Prop) : ∀ (xs : List β) (s : S), P s → (∀ x ∈ xs, ∀ s, P s → b x s = .exc c ∨ ∃ s', b x s = .ok (.nx s') ∧ P s') → (∃ x ∈ xs, ∀ s, P s → b x s = .exc c) → forM (L := L) b xs s = .exc c
  | [], s, _, _, ⟨x, hx, _⟩ => by simp at hx
  | y :: r, s, hP, hs, ⟨x, hx, hb⟩ => by
    rw [forM_cons]
    rcases hs y List.mem_cons_self s hP with h | ⟨s', h, p⟩
    · rw [h]; rfl
    · rw [h, Rs.ok_bind, forK_nx]
      rcases List.mem_cons.mp hx with rfl | hx
      · rw [hb s hP] at h
        cases h
      · exact for_exc P r s' p (fun z hz => hs z (List.mem_cons_of_mem _ hz)) ⟨x, hx, hb⟩
theorem rows_bad {r : List (List Int × Int)} {n : Int} (h : ∃ p ∈ r, (p.1.length : Int) ≠ n) (hl : r.length ≤ 1000) (h1 : ∀ p ∈ r, p.1.length ≤ 1000) (h2 : n.natAbs < 2 ^ 64) : m_sum_rows (r, n) = .exc 1 := by
  unfold m_sum_rows w_sum_rows
  try simp only [Rs.bind_assoc, Rs.ok_bind, then_nx, then_rt, endM_rt, endM_nx, ofOpt_some, if_true, Bool.false_eq_true, if_false, Bool.not_true, Bool.not_false]
  have go : ∀ (xs : List (List Int × Int)) (s : List (List Int × Int) × Int × List (List Int × Int) × Unit × Unit × Unit), s.2.1 = n → s.2.2.1.length + xs.length ≤ 1000 → (∀ p ∈ xs, p.1.length ≤ 1000) → (∃ p ∈ xs, (p.1.length : Int) ≠ n) →
      TL.forM (L := Unit) (ρ := List (List Int × Int)) (fun b s => (m_sum_length (b.fst, s.snd.fst, ⟨PySem.Str.ofString "a row", w_sum_rows._proof_1⟩)).bind fun a => (Rs.guard (decide (s.snd.snd.fst.length < PySem.sizeLine)) (Rs.ok ((), s.fst, s.snd.fst, s.snd.snd.fst ++ [(b.fst, b.snd)], b.fst, b.snd, s.snd.snd.snd.snd.snd))).bind fun a => Rs.ok (Fl.nx (a.snd.fst, a.snd.snd.fst, a.snd.snd.snd.fst, (), (), a.snd.snd.snd.snd.snd.snd))) xs s = .exc 1 := by
    intro xs
    induction xs with
    | nil => intro s _ _ _ ⟨p, hp, _⟩; simp at hp
    | cons x l ih =>
      intro s e1 e2 e3 ⟨p, hp, ne⟩
      rw [forM_cons, e1]
      by_cases z : (x.1.length : Int) = n
      · rw [len_ok z, Rs.ok_bind, Rs.guard_of (decide_eq_true (by rw [PySem.sizeLine_eq]; omega)), Rs.ok_bind, Rs.ok_bind, forK_nx]
        refine ih _ rfl ?_ (fun p hp => e3 p (List.mem_cons_of_mem _ hp)) ⟨p, ?_, ne⟩
        · simp only [List.length_append, List.length_cons, List.length_nil] at e2 ⊢
          omega
        · rcases List.mem_cons.mp hp with rfl | hp
          · exact absurd z ne
          · exact hp
      · rw [len_bad z (e3 x List.mem_cons_self) h2 (by decide +kernel)]
        rfl
  have := go r (r, n, [], (), (), ()) rfl (by simpa using hl) h1 h
  rw [this]
  rfl
theorem e_lessened {t : List Int} (hl : t.length ≤ 1000) (h : ∀ x ∈ t, (x.natAbs : Int) < 1073741824) : m_lessened t = .ok (lessen t) := by
  refine Okp.eq ?_
  unfold m_lessened w_lessened
  try simp only [Rs.bind_assoc, Rs.ok_bind, then_nx, then_rt, endM_rt, endM_nx, ofOpt_some, if_true, Bool.false_eq_true, if_false, Bool.not_true, Bool.not_false]
  refine for_goal_okp (fun s b => (s.1, (((s.2.1).natAbs.gcd b.natAbs : Nat) : Int), (), s.2.2.2)) (fun _ _ => rfl) ?_
  have hf : ∀ (l : List Int) (s : List Int × Int × Unit × Unit), (l.foldl (fun s b => (s.1, (((s.2.1).natAbs.gcd b.natAbs : Nat) : Int), (), s.2.2.2)) s) = (s.1, l.foldl (fun s b => ((s.natAbs.gcd b.natAbs : Nat) : Int)) s.2.1, (), ()) := fun l => by
    induction l with
    | nil => intro s; rfl
    | cons y r ih => intro s; rw [List.foldl_cons, ih, List.foldl_cons]
  rw [hf, then_nx]
  dsimp only
  rw [show List.foldl (fun s b => ((s.natAbs.gcd b.natAbs : Nat) : Int)) 0 t = gcdL t from rfl]
  unfold lessen
  by_cases z : gcdL t < 2
  · rw [decide_eq_true z, if_pos rfl, if_pos z]
    exact Okp.ok rfl
  · rw [decide_eq_false z, if_neg (by simp), if_neg z, Rs.ok_bind, then_nx, Rs.bind_assoc]
    refine Okp.goG (a := t.map fun x => x.fdiv (gcdL t)) (decide_eq_true (small hl)) (lcM_map _ t fun x _ => ?_) (Okp.ok rfl)
    have hg := gcdL_le (C := 1073741823) (by omega) fun x hx => by have := h x hx; omega
    have c : L2.CDivN x (gcdL t) := ⟨by omega, by omega⟩
    show nox (lcT (Rs.ok true) (Rs.guard (decide (L2.CDivN x (gcdL t))) _)) = _
    rw [Rs.guard_of (decide_eq_true c)]
    rfl
end T30
namespace T30
open TL SP
theorem rect_row {t : List (List Int)} {M n : Nat} (h : Rect t M n) {k : Int} (hk : 0 ≤ k ∧ k < M) : L2.atI t k = some (t.getD k.toNat []) := getD_at [] ⟨hk.1, by have := h.1; omega⟩
theorem en_at {t : List (List Int)} {M n : Nat} (h : Rect t M n) {k j : Int} (hk : 0 ≤ k ∧ k < M) (hj : 0 ≤ j ∧ j < n) : L2.atI (t.getD k.toNat []) j = some (en t k.toNat j.toNat) := by
  have := h.row (k := k.toNat) (by omega)
  exact getD_at 0 ⟨hj.1, by omega⟩
theorem cmul_l {a b : Int} (h : a.natAbs < 2 ^ 63) : L2.CMul a b := .inl ⟨by omega, by omega⟩
theorem cmul_r {a b : Int} (h : b.natAbs < 2 ^ 63) : L2.CMul a b := .inr ⟨by omega, by omega⟩
theorem rect_small {t : List (List Int)} {M n : Nat} (h : Rect t M n) {C : Int} (hs : ∀ k j, k < M → j < n → ((en t k j).natAbs : Int) ≤ C) : ∀ r ∈ t, ∀ x ∈ r, (x.natAbs : Int) ≤ C := fun r hr x hx => by
  obtain ⟨k, hk, rfl⟩ := List.mem_iff_getElem.mp hr
  obtain ⟨j, hj, rfl⟩ := List.mem_iff_getElem.mp hx
  have h1 := h.1
  have := hs k j (by omega) (by rw [h.2 _ hr] at hj; exact hj)
  unfold en at this
  rw [List.getD_eq_getElem?_getD (l := t), List.getElem?_eq_getElem hk] at this
  simp only [Option.getD_some] at this
  rwa [getD_el hj] at this
theorem e_turn {t : List (List Int)} {M n : Nat} (h : Rect t M n) {a p b : Int} (ha : 0 ≤ a ∧ a < M) (hp : 0 ≤ p ∧ p < n) (hb : 0 < b ∧ b < 1073741824) (hs : ∀ r ∈ t, ∀ x ∈ r, x.natAbs < 2 ^ 63) (hM : M ≤ 1000) (hn : n ≤ 1000) : m_grow_turn (t, a, p, b) = .ok (turnT t a.toNat p.toNat b) := by
  have l1 := h.1
  refine Okp.eq ?_
  unfold m_grow_turn w_grow_turn
  try simp only [Rs.bind_assoc, Rs.ok_bind, then_nx, then_rt, endM_rt, endM_nx, ofOpt_some, if_true, Bool.false_eq_true, if_false, Bool.not_true, Bool.not_false]
  refine Okp.goO (rect_row h ha) (Okp.goO (en_at h ha hp) ?_)
  refine Okp.forS (fun d s => s.1 = t ∧ s.2.1 = a ∧ s.2.2.1 = p ∧ s.2.2.2.1 = b ∧ s.2.2.2.2.1 = en t a.toNat p.toNat ∧ s.2.2.2.2.2.1 = d.map fun x => turnRow t a.toNat p.toNat b x.1.toNat x.2) ⟨rfl, rfl, rfl, rfl, rfl, rfl⟩ (fun d x l s e hP => ?_) (fun s hP => ?_)
  · obtain ⟨p1, p2, p3, p4, p5, p6⟩ := hP
    have hd : d.length < t.length := by
      have := congrArg List.length e
      rw [enumL_len, List.length_append, List.length_cons] at this
      omega
    have hx : x = ((d.length : Int), t[d.length]) := by
      have h2 : (enumL t)[d.length]? = some x := by rw [← e, List.getElem?_append_right (Nat.le_refl _)]; simp
      rw [enum_get hd] at h2
      exact (Option.some.inj h2).symm
    have hr : x.2.length = n := by rw [hx]; exact h.2 _ (List.getElem_mem _)
    have hm : x.2 ∈ t := by rw [hx]; exact List.getElem_mem _
    have hz : d.length < PySem.sizeLine := by rw [PySem.sizeLine_eq]; omega
    simp only [p1, p2, p3, p4, p5]
    have fin : ∀ (nw : List Int), nw = turnRow t a.toNat p.toNat b x.1.toNat x.2 → d.map (fun x => turnRow t a.toNat p.toNat b x.1.toNat x.2) ++ [nw] = (d ++ [x]).map fun x => turnRow t a.toNat p.toNat b x.1.toNat x.2 := fun nw e => by rw [e, List.map_append]; rfl
    have hxt : (x.1 = a) = (x.1.toNat = a.toNat) := by
      have : x.1 = (d.length : Int) := by rw [hx]
      rw [this]
      exact propext ⟨fun z => by omega, fun z => by omega⟩
    by_cases z : x.1 = a
    · rw [decide_eq_true z, if_pos rfl, Rs.bind_assoc]
      refine Okp.goO (a := p.toNat) (ixN_in hp.1 (by omega)) ?_
      rw [Rs.ok_bind, then_nx, Rs.bind_assoc]
      refine Okp.goG (decide_eq_true (by dsimp only; rw [p6, List.length_map]; exact hz)) rfl ?_
      rw [Rs.ok_bind, then_nx]
      refine Okp.ok ⟨_, .inl rfl, rfl, rfl, rfl, rfl, rfl, ?_⟩
      dsimp only
      rw [p6]
      refine fin _ ?_
      unfold turnRow
      rw [if_pos (hxt ▸ z)]
    · rw [decide_eq_false z, if_neg (by simp)]
      have ra : (t.getD a.toNat []).length = n := h.row (by omega)
      have hma : t.getD a.toNat [] ∈ t := by
        rw [List.getD_eq_getElem?_getD, List.getElem?_eq_getElem (by omega)]
        exact List.getElem_mem _
      have hxp : L2.atI x.2 p = some (x.2.getD p.toNat 0) := getD_at 0 ⟨hp.1, by omega⟩
      rw [Rs.bind_assoc]
      refine Okp.goO (rect_row h ha) ?_
      rw [Rs.bind_assoc]
      refine Okp.goG (a := (x.2.zip (t.getD a.toNat [])).map fun y => (y.1 * en t a.toNat p.toNat - x.2.getD p.toNat 0 * y.2).fdiv b) (decide_eq_true (small (by rw [List.length_zip]; omega))) (lcM_map _ _ fun y hy => ?_) ?_
      · have hy1 : y.1.natAbs < 2 ^ 63 := hs _ hm _ (List.of_mem_zip hy).1
        have hy2 : y.2.natAbs < 2 ^ 63 := hs _ hma _ (List.of_mem_zip hy).2
        have c3 : L2.CDivN (y.1 * en t a.toNat p.toNat - x.2.getD p.toNat 0 * y.2) b := ⟨by omega, by omega⟩
        rw [Rs.guard_of (decide_eq_true (cmul_l hy1)), Rs.ok_bind, hxp, ofOpt_some, Rs.ok_bind, Rs.guard_of (decide_eq_true (cmul_r hy2)), Rs.ok_bind, Rs.guard_of (decide_eq_true c3)]
        rfl
      · rw [Rs.bind_assoc]
        refine Okp.goO hxp ?_
        rw [Rs.bind_assoc]
        refine Okp.goO (a := p.toNat) (ixN_in hp.1 (by rw [List.length_map, List.length_zip]; omega)) ?_
        rw [Rs.ok_bind, then_nx, Rs.bind_assoc]
        refine Okp.goG (decide_eq_true (by dsimp only; rw [p6, List.length_map]; exact hz)) rfl ?_
        rw [Rs.ok_bind, then_nx]
        refine Okp.ok ⟨_, .inl rfl, rfl, rfl, rfl, rfl, rfl, ?_⟩
        dsimp only
        rw [p6]
        refine fin _ ?_
        unfold turnRow
        rw [if_neg (hxt ▸ z)]
  · rw [then_nx, Rs.ok_bind, endM_rt]
    refine Okp.ok ?_
    rw [hP.2.2.2.2.2]
    unfold turnT enumL
    rw [List.map_map, List.mapIdx_eq_zipIdx_map]
    refine List.map_congr_left fun y hy => ?_
    show turnRow _ _ _ _ ((y.2 : Int)).toNat y.1 = _
    rw [Int.toNat_natCast]
/-- the pairs of which the weights are made -/
def wPs (last ac : List Int) (n : Int) : List (Int × Int) := (enumL ac).map fun p => (p.2 - n, last.getD p.1.toNat 0)
theorem e_weights {last ac : List Int} {n m : Nat} (hl : last.length = n) (ha : ac.length = n) (hn : n ≤ 1000) (hm : m ≤ 1000) (hr : ∀ x ∈ ac, 0 ≤ x ∧ x < (n : Int) + m) : m_grow_weights (last, ac, n, m) = .ok ((wPs last ac n).foldl putQ (List.replicate m 0)) := by
  refine Okp.eq ?_
  unfold m_grow_weights w_grow_weights
  try simp only [Rs.bind_assoc, Rs.ok_bind, then_nx, then_rt, endM_rt, endM_nx, ofOpt_some, if_true, Bool.false_eq_true, if_false, Bool.not_true, Bool.not_false]
  refine Okp.goG (decide_eq_true ⟨by omega, by omega, by rw [PySem.sizeLine_eq]; simp; omega⟩) rfl ?_
  rw [Int.toNat_natCast, zeros_flat]
  refine Okp.forS (fun d s => s.1 = last ∧ s.2.1 = ac ∧ s.2.2.1 = (n : Int) ∧ s.2.2.2.2.1 = (d.map fun p : Int × Int => (p.2 - (n : Int), last.getD p.1.toNat 0)).foldl putQ (List.replicate m 0)) ⟨rfl, rfl, rfl, rfl⟩ (fun d x l s e hP => ?_) (fun s hP => ?_)
  · obtain ⟨p1, p2, p3, p4⟩ := hP
    have hx : x ∈ enumL ac := by rw [← e]; simp
    obtain ⟨i, hi, rfl⟩ := enum_mem.mp hx
    have hv := hr _ (List.getElem_mem hi)
    have hlen : s.2.2.2.2.1.length = m := by rw [p4, put_len, List.length_replicate]
    simp only [p1, p3]
    by_cases z : (n : Int) ≤ ac[i]
    · rw [decide_eq_true z, if_pos rfl, Rs.bind_assoc]
      refine Okp.goO (getD_at 0 ⟨by omega, by omega⟩) ?_
      rw [Rs.bind_assoc]
      refine Okp.goO (a := (ac[i] - (n : Int)).toNat) (ixN_in (by omega) (by omega)) ?_
      rw [Rs.ok_bind, then_nx, Rs.ok_bind, then_nx]
      refine Okp.ok ⟨_, .inl rfl, rfl, p2, rfl, ?_⟩
      dsimp only
      rw [List.map_append, List.foldl_append, ← p4]
      show _ = putQ _ _
      unfold putQ
      rw [if_pos (by show 0 ≤ ac[i] - (n : Int); omega)]
    · rw [decide_eq_false z, if_neg (by simp), Rs.ok_bind, then_nx, Rs.ok_bind, then_nx]
      refine Okp.ok ⟨_, .inl rfl, rfl, p2, rfl, ?_⟩
      dsimp only
      rw [List.map_append, List.foldl_append, ← p4]
      show _ = putQ _ _
      unfold putQ
      rw [if_neg (by show ¬ 0 ≤ ac[i] - (n : Int); omega)]
  · rw [then_nx, Rs.ok_bind, endM_rt]
    exact Okp.ok hP.2.2.2
/-- the pairs of which the numbers are made -/
def nPs (t : List (List Int)) (ac dn : List Int) (p b : Int) : List (Int × Int) := [(ac.getD p.toNat 0, b)] ++ (enumL dn).map fun x => (x.2, -(en t x.1.toNat p.toNat))
theorem e_numbers {t : List (List Int)} {ac dn : List Int} {m n : Nat} {p b : Int} (h : Rect t (m + 1) n) (ha : ac.length = n) (hd : dn.length = m) (hp : 0 ≤ p ∧ p < n) (hn : n ≤ 1000) (hm : m ≤ 900) (ha0 : ∀ x ∈ ac, 0 ≤ x) (hd0 : ∀ x ∈ dn, 0 ≤ x)
    (hb : (b.natAbs : Int) < 1073741824) (hs : ∀ r ∈ t, ∀ x ∈ r, (x.natAbs : Int) < 1073741824) : m_grow_numbers (t, ac, dn, p, b) = .ok (lessen ((nPs t ac dn p b).foldl putQ (List.replicate n 0))) := by
  refine Okp.eq ?_
  unfold m_grow_numbers w_grow_numbers
  try simp only [Rs.bind_assoc, Rs.ok_bind, then_nx, then_rt, endM_rt, endM_nx, ofOpt_some, if_true, Bool.false_eq_true, if_false, Bool.not_true, Bool.not_false]
  refine Okp.goG (decide_eq_true ⟨by omega, by omega, by rw [PySem.sizeLine_eq]; simp; omega⟩) rfl ?_
  rw [Int.toNat_natCast, zeros_flat, ha]
  refine Okp.goO (getD_at 0 ⟨hp.1, by omega⟩) ?_
  refine Okp.goG (a := (enumL dn).map fun x => (x.2, -(en t x.1.toNat p.toNat))) (decide_eq_true (small (by rw [enumL_len]; omega))) (lcM_map _ _ fun x hx => ?_) ?_
  · obtain ⟨i, hi, rfl⟩ := enum_mem.mp hx
    have hk : 0 ≤ ((i : Nat) : Int) ∧ ((i : Nat) : Int) < ((m + 1 : Nat) : Int) := ⟨by omega, by omega⟩
    rw [rect_row h hk, ofOpt_some, Rs.ok_bind, en_at h hk hp, ofOpt_some]
    rfl
  · refine Okp.goG (decide_eq_true (small (by rw [List.length_map, enumL_len]; show 1 + _ ≤ _; omega))) rfl ?_
    refine Okp.forS (fun d s => s.2.1 = ac ∧ s.2.2.2.2.2.1 = d.foldl putQ (List.replicate n 0)) ⟨rfl, rfl⟩ (fun d x l s e hP => ?_) (fun s hP => ?_)
    · obtain ⟨p1, p2⟩ := hP
      have hx : x ∈ nPs t ac dn p b := by unfold nPs; rw [← e]; simp
      have h0 : 0 ≤ x.1 := by
        unfold nPs at hx
        rcases List.mem_append.mp hx with z | z
        · rw [List.mem_singleton] at z
          rw [z]
          exact ha0 _ (getD_mem (by omega))
        · obtain ⟨y, hy, rfl⟩ := List.mem_map.mp z
          obtain ⟨i, hi, rfl⟩ := enum_mem.mp hy
          exact hd0 _ (List.getElem_mem hi)
      have hlen : s.2.2.2.2.2.1.length = n := by rw [p2, put_len, List.length_replicate]
      simp only [p1]
      by_cases z : x.1 < (ac.length : Int)
      · rw [decide_eq_true z, if_pos rfl, Rs.bind_assoc]
        refine Okp.goO (a := x.1.toNat) (ixN_in h0 (by omega)) ?_
        rw [Rs.ok_bind, then_nx, Rs.ok_bind, then_nx]
        refine Okp.ok ⟨_, .inl rfl, rfl, ?_⟩
        dsimp only
        rw [List.foldl_append, ← p2]
        show _ = putQ _ _
        unfold putQ
        rw [if_pos h0]
      · rw [decide_eq_false z, if_neg (by simp), Rs.ok_bind, then_nx, Rs.ok_bind, then_nx]
        refine Okp.ok ⟨_, .inl rfl, rfl, ?_⟩
        dsimp only
        rw [List.foldl_append, ← p2]
        show _ = putQ _ _
        unfold putQ
        rw [if_pos h0, List.set_eq_of_length_le (by omega)]
    · rw [then_nx, Rs.bind_assoc, hP.2]
      have : m_lessened ((nPs t ac dn p b).foldl putQ (List.replicate n 0)) = .ok (lessen ((nPs t ac dn p b).foldl putQ (List.replicate n 0))) := by
        refine e_lessened (by rw [put_len, List.length_replicate]; exact hn) fun x hx => ?_
        have : ∀ (ps : List (Int × Int)) (l : List Int), (∀ x ∈ l, (x.natAbs : Int) < 1073741824) → (∀ q ∈ ps, (q.2.natAbs : Int) < 1073741824) → ∀ x ∈ ps.foldl putQ l, (x.natAbs : Int) < 1073741824 := fun ps => by
          induction ps with
          | nil => intro l h _; exact h
          | cons q r ih =>
            intro l h1 h2
            rw [List.foldl_cons]
            refine ih _ (fun x hx => ?_) fun q hq => h2 q (List.mem_cons_of_mem _ hq)
            unfold putQ at hx
            split at hx
            · rcases List.mem_or_eq_of_mem_set hx with z | z
              · exact h1 x z
              · rw [z]; exact h2 q List.mem_cons_self
            · exact h1 x hx
        refine this _ _ (fun x hx => ?_) (fun q hq => ?_) x hx
        · rw [(List.mem_replicate.mp hx).2]; decide
        · unfold nPs at hq
          rcases List.mem_append.mp hq with z | z
          · rw [List.mem_singleton] at z
            rw [z]; exact hb
          · obtain ⟨y, hy, rfl⟩ := List.mem_map.mp z
            obtain ⟨i, hi, rfl⟩ := enum_mem.mp hy
            have hr := h.row (k := i) (by omega)
            have hm : t.getD i [] ∈ t := by
              rw [List.getD_eq_getElem?_getD, List.getElem?_eq_getElem (by have := h.1; omega)]
              exact List.getElem_mem _
            have := hs _ hm _ (getD_mem (l := t.getD i []) (i := p.toNat) (by omega))
            show ((-(en t ((i : Int)).toNat p.toNat)).natAbs : Int) < _
            rw [Int.natAbs_neg, Int.toNat_natCast]
            exact this
      refine Okp.go this (Okp.ok ?_)
      rfl
end T30
namespace T30
open TL SP
theorem minP0_spec : ∀ (r : List (Int × Int)) (x : Int × Int), minP0 x r ∈ x :: r ∧ ∀ y ∈ x :: r, (minP0 x r).1 ≤ y.1
  | [], x => ⟨by simp [minP0], fun y hy => by simp at hy; rw [hy]; exact Int.le_refl _⟩
  | z :: r, x => by
    have e : minP0 x (z :: r) = minP0 (if ltPB z x = true then z else x) r := rfl
    obtain ⟨h1, h2⟩ := minP0_spec r (if ltPB z x = true then z else x)
    rw [e]
    refine ⟨?_, fun y hy => ?_⟩
    · rcases List.mem_cons.mp h1 with w | w
      · rw [w]
        split <;> simp
      · exact List.mem_cons_of_mem _ (List.mem_cons_of_mem _ w)
    · have h3 := h2 _ List.mem_cons_self
      have key : (if ltPB z x = true then z else x).1 ≤ x.1 ∧ (if ltPB z x = true then z else x).1 ≤ z.1 := by
        unfold ltPB
        split
        · rename_i w
          rw [decide_eq_true_eq] at w
          omega
        · rename_i w
          rw [decide_eq_true_eq] at w
          omega
      rcases List.mem_cons.mp hy with w | w
      · rw [w]; omega
      · rcases List.mem_cons.mp w with w | w
        · rw [w]; omega
        · exact h2 y (List.mem_cons_of_mem _ w)
def Grow (t0 : List (List Int)) (n m : Nat) (g : List Int) (D : Int) (h : List Int) : Prop :=
  h.length = n ∧ (∀ v, v < n → 0 ≤ h.getD v 0) ∧ (∀ i, i < m → sm n (fun v => en t0 i v * h.getD v 0) ≤ 0) ∧ 1 ≤ sm n (fun v => g.getD v 0 * h.getD v 0) ∧ ∀ x ∈ h, (x.natAbs : Int) ≤ D
def Capd (t0 : List (List Int)) (n m : Nat) (g : List Int) (D : Int) (y : List Int) (b : Int) : Prop :=
  y.length = m ∧ (∀ i, i < m → 0 ≤ y.getD i 0) ∧ 1 ≤ b ∧ b ≤ D ∧ (∀ j, j < n → b * g.getD j 0 ≤ sm m fun i => en t0 i j * y.getD i 0) ∧ ∀ x ∈ y, (x.natAbs : Int) ≤ D
structure Few (t0 : List (List Int)) (n m : Nat) (g : List Int) (C : Int) : Prop where
  rect : Rect t0 m n
  hg : g.length = n
  hC : 1 ≤ C
  hw : ∀ v, v < n → sm (m + 1) (fun i => ((colA n m (fun i j => en t0 i j) (fun j => g.getD j 0) v i).natAbs : Int)) ≤ C
  pw : C ^ n < 1073741824
  nm : n + m ≤ 19
section
variable {t0 : List (List Int)} {n m : Nat} {g : List Int} {C : Int} {tab : List (List Int)} {ac dn : List Int} {d : Int} {S : St}
abbrev GtL (t0 : List (List Int)) (n m : Nat) (g : List Int) := Gt n m (fun i j => en t0 i j) (fun j => g.getD j 0)
theorem gt_small (W : Few t0 n m g C) (G : GtL t0 n m g tab ac dn d S) : (0 < d ∧ d < 1073741824) ∧ ∀ r ∈ tab, ∀ x ∈ r, (x.natAbs : Int) < 1073741824 := by
  obtain ⟨h1, h2⟩ := G.T.small W.hC W.hw
  have hd := G.hd
  have h0 := G.T.pos
  have hp := W.pw
  refine ⟨⟨by omega, by omega⟩, fun r hr x hx => ?_⟩
  have := rect_small G.rect (C := C ^ n) (fun k j hk hj => by
    obtain ⟨v, hv, e⟩ := G.hac j hj
    rw [G.ent k j v (by omega) hj e]
    exact h2 k v (by omega) hv) r hr x hx
  omega
theorem el_nat {l : List Int} {k : Nat} (h : k < l.length) : l.getD k 0 ∈ l := getD_mem h
theorem gt_ac0 (G : GtL t0 n m g tab ac dn d S) : ∀ x ∈ ac, 0 ≤ x ∧ x < (n : Int) + m := fun x hx => by
  obtain ⟨j, hj, rfl⟩ := List.mem_iff_getElem.mp hx
  obtain ⟨v, hv, e⟩ := G.hac j (by rw [← G.la]; exact hj)
  rw [getD_el hj] at e
  omega
theorem gt_dn0 (G : GtL t0 n m g tab ac dn d S) : ∀ x ∈ dn, 0 ≤ x := fun x hx => by
  obtain ⟨j, hj, rfl⟩ := List.mem_iff_getElem.mp hx
  have e := G.hdn j (by rw [← G.ld]; exact hj)
  rw [getD_el hj] at e
  omega
/-- the end at weights -/
theorem gt_weights (W : Few t0 n m g C) (G : GtL t0 n m g tab ac dn d S) (h : ∀ j, j < n → 0 ≤ en tab m j) : Capd t0 n m g (C ^ n) ((wPs (tab.getD m []) ac n).foldl putQ (List.replicate m 0)) d := by
  have hm : m < m + 1 := by omega
  have hrow := G.rect.row hm
  have la := G.la
  obtain ⟨⟨d0, d1⟩, hs⟩ := gt_small W G
  have len : ((wPs (tab.getD m []) ac n).foldl putQ (List.replicate m 0)).length = m := by rw [put_len, List.length_replicate]
  have nd : ((wPs (tab.getD m []) ac n).map (·.1)).Nodup := by
    unfold wPs
    rw [List.map_map, List.nodup_iff_pairwise_ne, List.pairwise_map, List.pairwise_iff_getElem]
    intro i j hi hj hij e
    rw [enumL_len] at hi hj
    have e1 : (enumL ac)[i]'(by rw [enumL_len]; exact hi) = ((i : Int), ac[i]) := by
      have := enum_get hi
      rw [List.getElem?_eq_getElem (by rw [enumL_len]; exact hi)] at this
      exact Option.some.inj this
    have e2 : (enumL ac)[j]'(by rw [enumL_len]; exact hj) = ((j : Int), ac[j]) := by
      have := enum_get hj
      rw [List.getElem?_eq_getElem (by rw [enumL_len]; exact hj)] at this
      exact Option.some.inj this
    rw [e1, e2] at e
    have e : ac[i] - (n : Int) = ac[j] - (n : Int) := e
    have := G.inj i j (by omega) (by omega) (by rw [getD_el hi, getD_el hj]; omega)
    omega
  have val : ∀ k, k < m → ((wPs (tab.getD m []) ac n).foldl putQ (List.replicate m 0)).getD k 0 = S.F m (n + k) := fun k hk => by
    rcases G.all (n + k) (by omega) with ⟨j, hj, e⟩ | ⟨i, hi, e⟩
    · have hj' : j < ac.length := by omega
      rw [put_hit (k := k) _ _ (((n + k : Nat) : Int) - n, en tab m j) nd ?_ (by show ((n + k : Nat) : Int) - n = k; omega) (by rw [List.length_replicate]; exact hk)]
      · exact G.ent m j _ (Nat.le_refl _) hj e
      · unfold wPs
        refine List.mem_map.mpr ⟨((j : Int), ac[j]), enum_mem.mpr ⟨j, hj', rfl⟩, ?_⟩
        rw [getD_el hj'] at e
        show (ac[j] - (n : Int), (tab.getD m []).getD ((j : Int)).toNat 0) = _
        rw [e, Int.toNat_natCast]
        rfl
    · rw [put_miss _ _ fun p hp z => ?_, getD_rep hk]
      · have := G.T.other hi (Nat.le_refl m) (by omega)
        rw [e] at this
        exact this.symm
      · unfold wPs at hp
        obtain ⟨q, hq, rfl⟩ := List.mem_map.mp hp
        obtain ⟨j, hj, rfl⟩ := enum_mem.mp hq
        have z : ac[j] - (n : Int) = (k : Int) := z
        refine G.ne j i (by omega) hi ?_
        rw [getD_el hj, e]
        omega
  have pos : ∀ v, v < n + m → 0 ≤ S.F m v := fun v hv => by
    rcases G.all v hv with ⟨j, hj, e⟩ | ⟨i, hi, e⟩
    · rw [← G.ent m j v (Nat.le_refl _) hj e]; exact h j hj
    · have := G.T.other hi (Nat.le_refl m) (by omega)
      rw [e] at this
      omega
  refine ⟨len, fun i hi => by rw [val i hi]; exact pos _ (by omega), by omega, by rw [← G.hd]; exact (G.T.small W.hC W.hw).1, fun j hj => ?_, fun x hx => ?_⟩
  · have e := G.T.weights hj
    have : sm m (fun i => en t0 i j * ((wPs (tab.getD m []) ac n).foldl putQ (List.replicate m 0)).getD i 0) = sm m (fun i => en t0 i j * S.F m (n + i)) := sm_congr fun i hi => by rw [val i hi]
    rw [this, e, G.hd]
    have := pos j (by omega)
    omega
  · obtain ⟨i, hi, rfl⟩ := List.mem_iff_getElem.mp hx
    rw [← getD_el hi, val i (by omega)]
    exact (G.T.small W.hC W.hw).2 m (n + i) (Nat.le_refl _) (by omega)
/-- the end at numbers -/
theorem gt_numbers (W : Few t0 n m g C) (G : GtL t0 n m g tab ac dn d S) {p s : Nat} (hp : p < n) (es : ac.getD p 0 = (s : Int)) (h : ∀ k, k < m → en tab k p ≤ 0) (hneg : en tab m p < 0) : Grow t0 n m g (C ^ n) (lessen ((nPs tab ac dn p d).foldl putQ (List.replicate n 0))) := by
  have la := G.la
  have ld := G.ld
  obtain ⟨⟨d0, d1⟩, hs⟩ := gt_small W G
  have hsN : s < n + m := by
    obtain ⟨v, hv, e⟩ := G.hac p hp
    omega
  have Fk : ∀ k, k ≤ m → en tab k p = S.F k s := fun k hk => G.ent k p s hk hp es
  have len : ((nPs tab ac dn p d).foldl putQ (List.replicate n 0)).length = n := by rw [put_len, List.length_replicate]
  have eac : ac.getD ((p : Int)).toNat 0 = (s : Int) := by rw [Int.toNat_natCast, es]
  have mem : ∀ q, q ∈ nPs tab ac dn p d ↔ q = ((s : Int), d) ∨ ∃ k, k < m ∧ q = ((S.dn k : Int), -(S.F k s)) := fun q => by
    unfold nPs
    rw [List.mem_append, List.mem_singleton, eac, List.mem_map]
    refine or_congr Iff.rfl ⟨?_, ?_⟩
    · rintro ⟨x, hx, rfl⟩
      obtain ⟨k, hk, rfl⟩ := enum_mem.mp hx
      refine ⟨k, by omega, ?_⟩
      show (dn[k], -(en tab ((k : Int)).toNat ((p : Int)).toNat)) = _
      rw [Int.toNat_natCast, Int.toNat_natCast, Fk k (by omega), ← getD_el hk, G.hdn k (by omega)]
    · rintro ⟨k, hk, rfl⟩
      have hk' : k < dn.length := by omega
      refine ⟨((k : Int), dn[k]), enum_mem.mpr ⟨k, hk', rfl⟩, ?_⟩
      show (dn[k], -(en tab ((k : Int)).toNat ((p : Int)).toNat)) = _
      rw [Int.toNat_natCast, Int.toNat_natCast, Fk k (by omega), ← getD_el hk', G.hdn k hk]
  have ne : ∀ k, k < m → (S.dn k : Int) ≠ s := fun k hk e => G.ne p k hp hk (by rw [es, e])
  have nd : ((nPs tab ac dn p d).map (·.1)).Nodup := by
    unfold nPs
    rw [List.map_append, List.map_map, eac]
    show (([(s : Int)] : List Int) ++ _).Nodup
    rw [List.singleton_append, List.nodup_cons]
    refine ⟨fun hm => ?_, ?_⟩
    · obtain ⟨x, hx, e⟩ := List.mem_map.mp hm
      obtain ⟨k, hk, rfl⟩ := enum_mem.mp hx
      have e : dn[k] = (s : Int) := e
      rw [← getD_el hk, G.hdn k (by omega)] at e
      exact ne k (by omega) e
    · rw [List.nodup_iff_pairwise_ne, List.pairwise_map, List.pairwise_iff_getElem]
      intro i j hi hj hij e
      rw [enumL_len] at hi hj
      have e1 : (enumL dn)[i]'(by rw [enumL_len]; exact hi) = ((i : Int), dn[i]) := by
        have := enum_get hi
        rw [List.getElem?_eq_getElem (by rw [enumL_len]; exact hi)] at this
        exact Option.some.inj this
      have e2 : (enumL dn)[j]'(by rw [enumL_len]; exact hj) = ((j : Int), dn[j]) := by
        have := enum_get hj
        rw [List.getElem?_eq_getElem (by rw [enumL_len]; exact hj)] at this
        exact Option.some.inj this
      rw [e1, e2] at e
      have e : dn[i] = dn[j] := e
      rw [← getD_el hi, ← getD_el hj, G.hdn i (by omega), G.hdn j (by omega)] at e
      have := G.T.inj i j (by omega) (by omega) (by omega)
      omega
  have Xs : X m S.F S.dn S.d s s = d := by
    have : sm m (fun k => if s = S.dn k then S.F k s else 0) = 0 :=
      (sm_congr (g := fun _ => 0) fun k hk => if_neg fun e => ne k hk (by omega)).trans (sm_zero m)
    unfold X
    rw [if_pos rfl, this, G.hd]; omega
  have Xd : ∀ k, k < m → X m S.F S.dn S.d s (S.dn k) = -(S.F k s) := fun k hk => by
    unfold X
    rw [if_neg (by have := ne k hk; omega), sm_one (f := fun i => if S.dn k = S.dn i then S.F i s else 0) (k := k) hk fun i hi nei => if_neg fun e => nei (G.T.inj i k hi hk e.symm)]
    simp
  have Xo : ∀ v, v ≠ s → (∀ k, k < m → S.dn k ≠ v) → X m S.F S.dn S.d s v = 0 := fun v n1 n2 => by
    have : sm m (fun k => if v = S.dn k then S.F k s else 0) = 0 :=
      (sm_congr (g := fun _ => 0) fun k hk => if_neg fun e => n2 k hk e.symm).trans (sm_zero m)
    unfold X
    rw [if_neg n1, this]; rfl
  have val : ∀ v, v < n → ((nPs tab ac dn p d).foldl putQ (List.replicate n 0)).getD v 0 = X m S.F S.dn S.d s v := fun v hv => by
    by_cases e1 : v = s
    · subst e1
      rw [put_hit (k := v) _ _ ((v : Int), d) nd ((mem _).mpr (.inl rfl)) rfl (by rw [List.length_replicate]; exact hv), Xs]
    · by_cases e2 : ∃ k, k < m ∧ S.dn k = v
      · obtain ⟨k, hk, e⟩ := e2
        rw [put_hit (k := v) _ _ ((S.dn k : Int), -(S.F k s)) nd ((mem _).mpr (.inr ⟨k, hk, rfl⟩)) (by rw [e]) (by rw [List.length_replicate]; exact hv), ← Xd k hk, e]
      · rw [put_miss _ _ fun q hq z => ?_, getD_rep hv, Xo v e1 fun k hk e => e2 ⟨k, hk, e⟩]
        rcases (mem q).mp hq with rfl | ⟨k, hk, rfl⟩
        · have z : (s : Int) = v := z
          omega
        · have z : (S.dn k : Int) = v := z
          exact e2 ⟨k, hk, by omega⟩
  have nn := fun v => X_nn (m := m) (F := S.F) (dn := S.dn) (d := S.d) (s := s) G.T.pos (fun k hk => by rw [← Fk k (by omega)]; exact h k hk) v
  obtain ⟨q, q1, q2⟩ := lessen_scale ((nPs tab ac dn p d).foldl putQ (List.replicate n 0))
  have q3 : ∀ v, v < n → X m S.F S.dn S.d s v = q * (lessen ((nPs tab ac dn p d).foldl putQ (List.replicate n 0))).getD v 0 := fun v hv => by rw [← val v hv, q2]
  have le0 : ∀ x : Int, 0 ≤ q * x → 0 ≤ x := fun x hx => by
    rcases Int.lt_or_le x 0 with z | z
    · have := Int.mul_neg_of_pos_of_neg (show 0 < q by omega) z
      omega
    · exact z
  refine ⟨by rw [lessen_len, len], fun v hv => le0 _ (by rw [← q3 v hv]; exact nn v), fun i hi => ?_, ?_, fun x hx => ?_⟩
  · have e := G.T.nums_row hsN hi
    have e2 : sm n (fun v => en t0 i v * X m S.F S.dn S.d s v) = q * sm n (fun v => en t0 i v * (lessen ((nPs tab ac dn p d).foldl putQ (List.replicate n 0))).getD v 0) := by
      rw [← sm_mul]
      exact sm_congr fun v hv => by rw [q3 v hv]; grind
    rw [e2] at e
    have := nn (n + i)
    have := le0 (-(sm n (fun v => en t0 i v * (lessen ((nPs tab ac dn p d).foldl putQ (List.replicate n 0))).getD v 0))) (by rw [Int.mul_neg]; omega)
    omega
  · have e := G.T.nums_goal hsN
    have e2 : sm n (fun v => g.getD v 0 * X m S.F S.dn S.d s v) = q * sm n (fun v => g.getD v 0 * (lessen ((nPs tab ac dn p d).foldl putQ (List.replicate n 0))).getD v 0) := by
      rw [← sm_mul]
      exact sm_congr fun v hv => by rw [q3 v hv]; grind
    rw [e2] at e
    have h4 := Fk m (Nat.le_refl _)
    rcases Int.lt_or_le (sm n fun v => g.getD v 0 * (lessen ((nPs tab ac dn p d).foldl putQ (List.replicate n 0))).getD v 0) 1 with z | z
    · have := Int.mul_nonneg (show 0 ≤ q by omega) (show 0 ≤ -(sm n fun v => g.getD v 0 * (lessen ((nPs tab ac dn p d).foldl putQ (List.replicate n 0))).getD v 0) by omega)
      rw [Int.mul_neg] at this
      omega
    · exact z
  · obtain ⟨v, hv, rfl⟩ := List.mem_iff_getElem.mp hx
    rw [lessen_len, len] at hv
    rw [← getD_el (by rw [lessen_len, len]; exact hv)]
    have h3 := q3 v hv
    have b1 : ((X m S.F S.dn S.d s v).natAbs : Int) ≤ C ^ n := by
      have sml := (G.T.small W.hC W.hw)
      have hpw := W.pw
      by_cases e1 : v = s
      · subst e1; rw [Xs]; have := sml.1; have := G.hd; omega
      · by_cases e2 : ∃ k, k < m ∧ S.dn k = v
        · obtain ⟨k, hk, e⟩ := e2
          rw [← e, Xd k hk, Int.natAbs_neg]
          have := sml.2 k s (by omega) hsN
          omega
        · rw [Xo v e1 fun k hk e => e2 ⟨k, hk, e⟩]; have := pow_pos1 W.hC n; show (0 : Int) ≤ _; omega
    have a1 := nn v
    have a2 := le0 _ (by rw [← h3]; exact a1)
    have a3 : (lessen ((nPs tab ac dn p d).foldl putQ (List.replicate n 0))).getD v 0 ≤ X m S.F S.dn S.d s v := by
      rw [h3]
      have := Int.mul_le_mul_of_nonneg_right q1 a2
      omega
    omega
end
end T30
namespace T30
open TL SP
theorem lcM_id {β : Type} (xs : List β) : lcM (fun b => nox (lcT (Rs.ok true) (Rs.ok b))) xs = .ok xs := by
  have := lcM_tt (fun b : β => b) xs
  rwa [List.map_id'] at this
theorem fm_nil {α β : Type} {f : α → Option β} {l : List α} (h : l.filterMap f = []) : ∀ x ∈ l, f x = none := fun x hx => by
  cases e : f x with
  | none => rfl
  | some y =>
    have : y ∈ l.filterMap f := List.mem_filterMap.mpr ⟨x, hx, e⟩
    rw [h] at this
    simp at this
section
variable {t0 : List (List Int)} {n m : Nat} {g : List Int} {C : Int}
/-- the columns that may come in; the rows that stop -/
def readyL (tab : List (List Int)) (ac : List Int) (n m : Nat) : List (Int × Int) := (rangeL 0 n).filterMap fun c => if en tab m c.toNat < 0 then some (ac.getD c.toNat 0, c) else none
def stopsL (tab : List (List Int)) (dn : List Int) (m : Nat) (p : Int) : List (Int × Int) := (rangeL 0 m).filterMap fun k => if 0 < en tab k.toNat p.toNat then some (dn.getD k.toNat 0, k) else none
theorem mem_ready {tab : List (List Int)} {ac : List Int} {x : Int × Int} : x ∈ readyL tab ac n m ↔ (0 ≤ x.2 ∧ x.2 < n) ∧ en tab m x.2.toNat < 0 ∧ x.1 = ac.getD x.2.toNat 0 := by
  unfold readyL
  rw [List.mem_filterMap]
  constructor
  · rintro ⟨c, hc, e⟩
    have hc := rangeL_mem'.mp hc
    split at e
    · rename_i h
      cases e
      exact ⟨hc, h, rfl⟩
    · cases e
  · rintro ⟨h1, h2, h3⟩
    refine ⟨x.2, rangeL_mem'.mpr h1, ?_⟩
    rw [if_pos h2, ← h3]
theorem mem_stops {tab : List (List Int)} {dn : List Int} {p : Int} {x : Int × Int} : x ∈ stopsL tab dn m p ↔ (0 ≤ x.2 ∧ x.2 < m) ∧ 0 < en tab x.2.toNat p.toNat ∧ x.1 = dn.getD x.2.toNat 0 := by
  unfold stopsL
  rw [List.mem_filterMap]
  constructor
  · rintro ⟨c, hc, e⟩
    have hc := rangeL_mem'.mp hc
    split at e
    · rename_i h
      cases e
      exact ⟨hc, h, rfl⟩
    · cases e
  · rintro ⟨h1, h2, h3⟩
    refine ⟨x.2, rangeL_mem'.mpr h1, ?_⟩
    rw [if_pos h2, ← h3]
theorem fm_len {α β : Type} (f : α → Option β) (l : List α) : (l.filterMap f).length ≤ l.length := by
  induction l with
  | nil => simp
  | cons x r ih => rw [List.filterMap_cons]; split <;> simp <;> omega
/-- one more exchange -/
theorem run_more {N m : Nat} {col : Nat → Nat → Int} {R : Nat → St} {s k : Nat → Nat} {i : Nat} (h : Run N m col R s k 0 i) {S' : St} {s1 k1 : Nat} (st : Stp N m col (R i) S' s1 k1) :
    Run N m col (fun q => if q ≤ i then R q else S') (fun q => if q < i then s q else s1) (fun q => if q < i then k q else k1) 0 (i + 1) := ⟨fun q _ hq => by
  by_cases e : q < i
  · simp only [show q ≤ i by omega, show q + 1 ≤ i by omega, e, if_true]
    exact h.step q (by omega) e
  · obtain rfl : q = i := by omega
    simp only [Nat.le_refl, show ¬ q + 1 ≤ q by omega, show ¬ q < q by omega, if_true, if_false]
    exact st⟩
theorem e_towards (W : Few t0 n m g C) : Okp (m_grow_towards (t0, (n : Int), g)) fun r => (r.1 = true ∧ r.2.2 = 0 ∧ Grow t0 n m g (C ^ n) r.2.1) ∨ (r.1 = false ∧ Capd t0 n m g (C ^ n) r.2.1 r.2.2) := by
  have hr := W.rect
  have l0 := hr.1
  have hg := W.hg
  have nm := W.nm
  unfold m_grow_towards w_grow_towards
  try simp only [Rs.bind_assoc, Rs.ok_bind, then_nx, then_rt, endM_rt, endM_nx, ofOpt_some, if_true, Bool.false_eq_true, if_false, Bool.not_true, Bool.not_false]
  refine Okp.goG (decide_eq_true (small (by omega))) (lcM_id _) ?_
  refine Okp.goG (decide_eq_true (small (by omega))) (lcM_tt (fun b => -b) g) ?_
  refine Okp.goG (decide_eq_true (small (by show t0.length + 1 ≤ _; omega))) rfl ?_
  refine Okp.goG (decide_eq_true ⟨by omega, by omega⟩) rfl ?_
  refine Okp.goG (rgOk_of (by omega) (by omega)) rfl ?_
  refine Okp.goG (decide_eq_true (small (by rw [rangeL_len]; omega))) (lcM_tt (fun b => (n : Int) + b) _) ?_
  rw [l0]
  refine Okp.while (fun i s => s.1 = t0 ∧ s.2.1 = (n : Int) ∧ s.2.2.1 = g ∧ s.2.2.2.1 = (m : Int) ∧ ∃ R sq kq, Run (n + m) m (colA n m (fun i j => en t0 i j) fun j => g.getD j 0) R sq kq 0 i ∧ GtL t0 n m g s.2.2.2.2.1 s.2.2.2.2.2.1 s.2.2.2.2.2.2.1 s.2.2.2.2.2.2.2.1 (R i))
    (fun r => (r.1 = true ∧ r.2.2 = 0 ∧ Grow t0 n m g (C ^ n) r.2.1) ∨ (r.1 = false ∧ Capd t0 n m g (C ^ n) r.2.1 r.2.2)) (2 ^ (n + m)) (fun i s hP => ?_) (fun i s hP => ⟨s, rfl, ?_⟩) (fun z hz => ?_) 1000000 0 _ ⟨rfl, rfl, rfl, rfl, fun _ => ⟨fun k v => colA n m (fun i j => en t0 i j) (fun j => g.getD j 0) v k, fun k => n + k, 1⟩, fun _ => 0, fun _ => 0, ⟨fun q _ hq => by omega⟩, Gt.start hr hg⟩ ?_
  · obtain ⟨_, _, _, _, R, sq, kq, run, _⟩ := hP
    have := run.short
    omega
  · obtain ⟨e1, e2, e3, e4, R, sq, kq, run, G⟩ := hP
    obtain ⟨s1, s2, s3, s4, tab, ac, dn, d, rest⟩ := s
    dsimp only at e1 e2 e3 e4 G ⊢
    subst e1 e2 e3 e4
    have la := G.la
    have ld := G.ld
    obtain ⟨⟨d0, d1⟩, hsm⟩ := gt_small W G
    have hm1 : 0 ≤ (m : Int) ∧ (m : Int) < ((m + 1 : Nat) : Int) := ⟨by omega, by omega⟩
    refine Okp.goG (rgOk_of (by omega) (by omega)) rfl ?_
    refine Okp.goG (a := readyL tab ac n m) (decide_eq_true (small (by rw [rangeL_len]; omega))) (lcM_fmap _ _ fun c hc => ?_) ?_
    · have hc := rangeL_mem'.mp hc
      rw [rect_row G.rect hm1, ofOpt_some, Rs.ok_bind, en_at G.rect hm1 hc, ofOpt_some, Rs.ok_bind, getD_at 0 ⟨hc.1, by omega⟩, ofOpt_some, Rs.ok_bind, Int.toNat_natCast]
      by_cases z : en tab m c.toNat < 0 <;> simp [lcT, Rs.ok_bind, z, nox]
    cases hrd : readyL tab ac n m with
    | nil =>
      simp only [List.length_nil, Int.natCast_zero, decide_true, if_true]
      rw [Rs.bind_assoc]
      refine Okp.goO (rect_row G.rect hm1) ?_
      rw [Rs.bind_assoc, Int.toNat_natCast]
      refine Okp.go (e_weights (n := n) (m := m) (G.rect.row (by omega)) la (by omega) (by omega) (gt_ac0 G)) ?_
      rw [Rs.ok_bind, then_rt]
      refine Okp.ok (.inr ⟨_, rfl, .inr ⟨rfl, gt_weights W G fun j hj => ?_⟩⟩)
      have := fm_nil hrd (j : Int) (rangeL_mem'.mpr ⟨by omega, by omega⟩)
      rw [Int.toNat_natCast] at this
      split at this
      · cases this
      · omega
    | cons x xs =>
      obtain ⟨p1, p2⟩ := minP0_spec xs x
      rw [← hrd] at p1 p2
      generalize hpl : minP0 x xs = pl at p1 p2 ⊢
      have hx1 : ¬ ((x :: xs).length : Int) = 0 := by rw [List.length_cons]; omega
      rw [decide_eq_false hx1, if_neg (by simp), Rs.ok_bind, then_nx]
      have hmin : minPr (x :: xs) = .ok pl := by rw [← hpl]; rfl
      obtain ⟨q1, q2, q3⟩ := mem_ready.mp p1
      obtain ⟨v, hv, ev⟩ := G.hac pl.2.toNat (by omega)
      have q1n : pl.2.toNat < n := by omega
      rw [Rs.bind_assoc]
      refine Okp.go hmin ?_
      rw [Rs.bind_assoc]
      refine Okp.goG (rgOk_of (by dsimp only; omega) (by dsimp only; omega)) rfl ?_
      rw [Rs.bind_assoc]
      refine Okp.goG (a := stopsL tab dn m pl.2) (decide_eq_true (small (by dsimp only; rw [rangeL_len]; omega))) (lcM_fmap _ _ fun c hc => ?_) ?_
      · have hc : 0 ≤ c ∧ c < (m : Int) := rangeL_mem'.mp hc
        dsimp only
        have hc' : 0 ≤ c ∧ c < ((m + 1 : Nat) : Int) := ⟨hc.1, by omega⟩
        rw [rect_row G.rect hc', ofOpt_some, Rs.ok_bind, en_at G.rect hc' q1, ofOpt_some, Rs.ok_bind, getD_at 0 ⟨hc.1, by omega⟩, ofOpt_some, Rs.ok_bind]
        by_cases z : 0 < en tab c.toNat pl.2.toNat <;> simp [lcT, Rs.ok_bind, z, nox]
      cases hst : stopsL tab dn m pl.2 with
      | nil =>
        simp only [List.length_nil, Int.natCast_zero, decide_true, if_true]
        simp only [Rs.bind_assoc]
        have hz : ∀ k, k < m → en tab k pl.2.toNat ≤ 0 := fun k hk => by
          have := fm_nil hst (k : Int) (rangeL_mem'.mpr ⟨by omega, by omega⟩)
          rw [Int.toNat_natCast] at this
          split at this
          · cases this
          · omega
        refine Okp.go (e_numbers (n := n) (m := m) G.rect la ld q1 (by omega) (by omega) (fun x hx => (gt_ac0 G x hx).1) (gt_dn0 G) (by omega) hsm) ?_
        rw [Rs.ok_bind, then_rt, Rs.ok_bind, then_rt]
        refine Okp.ok (.inr ⟨_, rfl, .inl ⟨rfl, rfl, ?_⟩⟩)
        have := gt_numbers W G q1n ev hz q2
        rwa [show ((pl.2.toNat : Nat) : Int) = pl.2 by omega] at this
      | cons y ys =>
        obtain ⟨r1, r2⟩ := minP0_spec ys y
        rw [← hst] at r1 r2
        generalize hat : minP0 y ys = at_ at r1 r2 ⊢
        have hy1 : ¬ ((y :: ys).length : Int) = 0 := by rw [List.length_cons]; omega
        rw [decide_eq_false hy1, if_neg (by simp), Rs.ok_bind, then_nx]
        have hmin2 : minPr (y :: ys) = .ok at_ := by rw [← hat]; rfl
        obtain ⟨w1, w2, w3⟩ := mem_stops.mp r1
        have w1' : 0 ≤ at_.2 ∧ at_.2 < ((m + 1 : Nat) : Int) := ⟨w1.1, by omega⟩
        have w1n : at_.2.toNat < m := by omega
        rw [Rs.bind_assoc]
        refine Okp.go hmin2 ?_
        simp only [Rs.bind_assoc]
        refine Okp.goO (rect_row G.rect w1') ?_
        refine Okp.goO (en_at G.rect w1' q1) ?_
        refine Okp.go (e_turn G.rect w1' q1 ⟨d0, d1⟩ (fun r hr x hx => by have := hsm r hr x hx; omega) (by omega) (by omega)) ?_
        refine Okp.goO (getD_at 0 ⟨w1.1, by omega⟩) ?_
        refine Okp.goO (getD_at 0 ⟨q1.1, by omega⟩) ?_
        refine Okp.goO (a := pl.2.toNat) (ixN_in q1.1 (by omega)) ?_
        refine Okp.goO (a := at_.2.toNat) (ixN_in w1.1 (by omega)) ?_
        obtain ⟨S', G', edn⟩ := G.turn q1n w1n ev w2
        have ok : Stp (n + m) m (colA n m (fun i j => en s1 i j) fun j => s3.getD j 0) (R i) S' v at_.2.toNat := by
          refine ⟨G.T, G'.T, hv, ?_, fun u hu hn => ?_, w1n, ?_, fun k hk hp => ?_, fun k hk => by rw [edn]⟩
          · rw [← G.ent m pl.2.toNat v (Nat.le_refl _) q1n ev]; exact q2
          · rcases G.all u hu with ⟨j, hj, e⟩ | ⟨k, hk, e⟩
            · have := p2 (ac.getD j 0, (j : Int)) (mem_ready.mpr ⟨⟨by show 0 ≤ (j : Int); omega, by show (j : Int) < n; omega⟩, by show en tab m ((j : Int)).toNat < 0; rw [Int.toNat_natCast, G.ent m j u (Nat.le_refl _) hj e]; exact hn, by show _ = ac.getD ((j : Int)).toNat 0; rw [Int.toNat_natCast]⟩)
              have : pl.1 ≤ ac.getD j 0 := this
              omega
            · have := G.T.other hk (Nat.le_refl m) (by omega)
              rw [e] at this
              omega
          · rw [← G.ent at_.2.toNat pl.2.toNat v (by omega) q1n ev]; exact w2
          · have := r2 (dn.getD k 0, (k : Int)) (mem_stops.mpr ⟨⟨by show 0 ≤ (k : Int); omega, by show (k : Int) < m; omega⟩, by show 0 < en tab ((k : Int)).toNat pl.2.toNat; rw [Int.toNat_natCast, G.ent k pl.2.toNat v (by omega) q1n ev]; exact hp, by show _ = dn.getD ((k : Int)).toNat 0; rw [Int.toNat_natCast]⟩)
            have : at_.1 ≤ dn.getD k 0 := this
            rw [w3, G.hdn _ w1n, G.hdn k hk] at this
            omega
        refine Okp.ok (.inl ⟨_, rfl, rfl, rfl, rfl, rfl, _, _, _, run_more run ok, ?_⟩)
        dsimp only
        rw [if_neg (by omega)]
        exact G'
  · rw [then_rt, Rs.ok_bind, endM_rt]
    exact Okp.ok hz
  · have : 2 ^ (n + m) ≤ 2 ^ 19 := Nat.pow_le_pow_right (by omega) nm
    omega
end
end T30
namespace T30
open TL SP
abbrev Rows := List (List Int × Int)
def mat (r : Rows) : List (List Int) := r.map (·.1)
structure Rw (r : Rows) (n : Nat) (C : Int) : Prop where
  len : ∀ p ∈ r, p.1.length = n
  hC : 1 ≤ C
  hw : ∀ v, v < n → sm r.length (fun i => ((en (mat r) i v).natAbs : Int)) + 1 ≤ C
  pw : 8 * C ^ n < 1073741824
  n8 : n < 8
  nm : n + r.length ≤ 19
section
variable {r : Rows} {n : Nat} {C : Int}
theorem Rw.rect (W : Rw r n C) : Rect (mat r) r.length n := ⟨by unfold mat; rw [List.length_map], fun x hx => by
  unfold mat at hx
  obtain ⟨p, hp, rfl⟩ := List.mem_map.mp hx
  exact W.len p hp⟩
theorem few_of {t0 : List (List Int)} {m : Nat} {g : List Int} (hr : Rect t0 m n) (hC : 1 ≤ C) (pw : C ^ n < 1073741824) (nm : n + m ≤ 19) (hg : g.length = n) (hw : ∀ v, v < n → sm m (fun i => ((en t0 i v).natAbs : Int)) + ((g.getD v 0).natAbs : Int) ≤ C) : Few t0 n m g C := by
  refine ⟨hr, hg, hC, fun v hv => ?_, pw, nm⟩
  have e : sm (m + 1) (fun i => ((colA n m (fun i j => en t0 i j) (fun j => g.getD j 0) v i).natAbs : Int)) = sm m (fun i => ((en t0 i v).natAbs : Int)) + ((g.getD v 0).natAbs : Int) := by
    show sm m _ + _ = _
    congr 1
    · refine sm_congr fun i hi => ?_
      unfold colA
      rw [if_pos hv, if_pos hi]
    · show ((colA n m (fun i j => en t0 i j) (fun j => g.getD j 0) v m).natAbs : Int) = _
      unfold colA
      rw [if_pos hv, if_neg (by omega), Int.natAbs_neg]
  rw [e]
  exact hw v hv
theorem Rw.few (W : Rw r n C) (p : Int) : Few (mat r) n r.length (unitL n p) C := by
  refine few_of W.rect W.hC (by have := W.pw; have := pow_pos1 W.hC n; omega) W.nm (unitL_len n p) fun v hv => ?_
  have := W.hw v hv
  rw [unitL_at hv]
  split
  · exact this
  · show _ + (0 : Int) ≤ _
    omega
theorem e_unit (n : Nat) (p : Int) (hn : n ≤ 1000) : m_grow_unit ((n : Int), p) = .ok (unitL n p) := by
  refine Okp.eq ?_
  unfold m_grow_unit w_grow_unit
  try simp only [Rs.bind_assoc, Rs.ok_bind, then_nx, then_rt, endM_rt, endM_nx, ofOpt_some, if_true, Bool.false_eq_true, if_false, Bool.not_true, Bool.not_false]
  refine Okp.goG (rgOk_of (by omega) (by omega)) rfl ?_
  refine Okp.goG (a := unitL n p) (decide_eq_true (small (by rw [rangeL_len]; omega))) (lcM_map _ _ fun x _ => ?_) (Okp.ok rfl)
  by_cases z : x = p <;> simp [z, lcT, nox, Rs.ok_bind]
/-- a place: numbers or weights -/
theorem e_side (W : Rw r n C) {p : Int} (hp : 0 ≤ p ∧ p < n) : Okp (m_grow_towards (mat r, (n : Int), unitL n p)) fun z =>
    (z.1 = true ∧ z.2.1.length = n ∧ (∀ v, v < n → 0 ≤ z.2.1.getD v 0) ∧ (∀ i, i < r.length → sm n (fun v => en (mat r) i v * z.2.1.getD v 0) ≤ 0) ∧ 1 ≤ z.2.1.getD p.toNat 0 ∧ ∀ x ∈ z.2.1, (x.natAbs : Int) ≤ C ^ n) ∨
    (z.1 = false ∧ z.2.1.length = r.length ∧ (∀ i, i < r.length → 0 ≤ z.2.1.getD i 0) ∧ (∀ j, j < n → 0 ≤ sm r.length fun i => en (mat r) i j * z.2.1.getD i 0) ∧ (1 ≤ sm r.length fun i => en (mat r) i p.toNat * z.2.1.getD i 0) ∧ ∀ x ∈ z.2.1, (x.natAbs : Int) ≤ C ^ n) := by
  refine (e_towards (W.few p)).mono fun z hz => ?_
  rcases hz with ⟨a, _, b1, b2, b3, b4, b5⟩ | ⟨a, b1, b2, b3, _, b4, b5⟩
  · rw [sm_unit hp] at b4
    exact .inl ⟨a, b1, b2, b3, b4, b5⟩
  · refine .inr ⟨a, b1, b2, fun j hj => ?_, ?_, b5⟩
    · have := b4 j hj
      rw [unitL_at hj] at this
      split at this <;> omega
    · have := b4 p.toNat (by omega)
      rw [unitL_at (by omega), if_pos (by omega)] at this
      omega
def gT : SK := ⟨PySem.Str.ofString "grow", w_grow_or_cap._proof_1⟩
def cT : SK := ⟨PySem.Str.ofString "cap", w_grow_or_cap._proof_2⟩
def GrowsR (r : Rows) (n p : Nat) : Prop := Grows (fun i v => en (mat r) i v) r.length n p
theorem e_grow_or_cap (W : Rw r n C) {p : Int} (hp : 0 ≤ p ∧ p < n) : Okp (m_grow_or_cap (r, (n : Int), p)) fun z =>
    (z.1 = gT ∧ GrowsR r n p.toNat ∧ z.2.length = n ∧ (∀ v, v < n → 0 ≤ z.2.getD v 0) ∧ (∀ i, i < r.length → sm n (fun v => en (mat r) i v * z.2.getD v 0) ≤ 0) ∧ 1 ≤ z.2.getD p.toNat 0) ∨
    (z.1 = cT ∧ ¬ GrowsR r n p.toNat ∧ z.2.length = r.length ∧ (∀ i, i < r.length → 0 ≤ z.2.getD i 0) ∧ (∀ j, j < n → 0 ≤ sm r.length fun i => en (mat r) i j * z.2.getD i 0) ∧ (1 ≤ sm r.length fun i => en (mat r) i p.toNat * z.2.getD i 0)) := by
  have nm := W.nm
  unfold m_grow_or_cap w_grow_or_cap
  try simp only [Rs.bind_assoc, Rs.ok_bind, then_nx, then_rt, endM_rt, endM_nx, ofOpt_some, if_true, Bool.false_eq_true, if_false, Bool.not_true, Bool.not_false]
  refine Okp.go (rows_ok (fun q hq => by rw [W.len q hq]) (by omega)) ?_
  refine Okp.go (place_ok hp) ?_
  refine Okp.goG (decide_eq_true (small (by omega))) (lcM_tt (fun b : List Int × Int => b.1) r) ?_
  refine Okp.go (e_unit n p (by omega)) ?_
  refine (e_side W hp).step fun z hz => ?_
  rcases hz with ⟨a, b1, b2, b3, b4, b5⟩ | ⟨a, b1, b2, b3, b4, b5⟩
  · rw [if_pos a, Rs.ok_bind, then_rt, Rs.ok_bind, endM_rt]
    exact Okp.ok (.inl ⟨rfl, ⟨fun v => z.2.1.getD v 0, b2, b3, b4⟩, b1, b2, b3, b4⟩)
  · rw [if_neg (by rw [a]; simp), Rs.ok_bind, then_nx, Rs.bind_assoc]
    have pw := W.pw
    have := pow_pos1 W.hC n
    dsimp only
    refine Okp.go (e_lessened (by omega) fun x hx => by have := b5 x hx; omega) ?_
    rw [Rs.ok_bind, endM_rt]
    obtain ⟨k, k1, k2⟩ := lessen_scale z.2.1
    have le0 : ∀ x : Int, 0 ≤ k * x → 0 ≤ x := fun x hx => by
      rcases Int.lt_or_le x 0 with z | z
      · have := Int.mul_neg_of_pos_of_neg (show 0 < k by omega) z
        omega
      · exact z
    have sc : ∀ j, (sm r.length fun i => en (mat r) i j * z.2.1.getD i 0) = k * sm r.length fun i => en (mat r) i j * (lessen z.2.1).getD i 0 := fun j => by
      rw [← sm_mul]
      exact sm_congr fun i _ => by rw [k2]; grind
    refine Okp.ok (.inr ⟨rfl, cap_stops (by omega) b2 b3 b4, by rw [← b1]; exact lessen_len _, fun i hi => le0 _ (by rw [← k2]; exact b2 i hi), fun j hj => le0 _ (by rw [← sc]; exact b3 j hj), ?_⟩)
    rw [sc] at b4
    rcases Int.lt_or_le (sm r.length fun i => en (mat r) i p.toNat * (lessen z.2.1).getD i 0) 1 with y | y
    · have := Int.mul_nonneg (show 0 ≤ k by omega) (show 0 ≤ -(sm r.length fun i => en (mat r) i p.toNat * (lessen z.2.1).getD i 0) by omega)
      rw [Int.mul_neg] at this
      omega
    · exact y
theorem getD_zip {a b : List Int} {f : Int → Int → Int} {i : Nat} (h : i < a.length) (h2 : i < b.length) : ((a.zip b).map fun x => f x.1 x.2).getD i 0 = f (a.getD i 0) (b.getD i 0) := by
  rw [getD_el (by rw [List.length_map, List.length_zip]; omega), List.getElem_map, List.getElem_zip, getD_el h, getD_el h2]
theorem e_grow_sum (W : Rw r n C) : Okp (m_grow_sum (r, (n : Int))) fun N =>
    N.length = n ∧ (∀ v, v < n → 0 ≤ N.getD v 0) ∧ (∀ i, i < r.length → sm n (fun v => en (mat r) i v * N.getD v 0) ≤ 0) ∧ (∀ v, v < n → (0 < N.getD v 0 ↔ GrowsR r n v)) ∧ ∀ x ∈ N, (x.natAbs : Int) < 1073741824 := by
  have nm := W.nm
  have n8 := W.n8
  unfold m_grow_sum w_grow_sum
  try simp only [Rs.bind_assoc, Rs.ok_bind, then_nx, then_rt, endM_rt, endM_nx, ofOpt_some, if_true, Bool.false_eq_true, if_false, Bool.not_true, Bool.not_false]
  refine Okp.goG (decide_eq_true (small (by omega))) (lcM_tt (fun b : List Int × Int => b.1) r) ?_
  refine Okp.goG (decide_eq_true ⟨by omega, by omega, by rw [PySem.sizeLine_eq]; simp; omega⟩) rfl ?_
  refine Okp.goG (rgOk_of (by omega) (by omega)) rfl ?_
  rw [Int.toNat_natCast, zeros_flat]
  have c0 := pow_pos1 W.hC n
  have pw := W.pw
  refine Okp.forS (fun d s => s.2.1 = (n : Int) ∧ s.2.2.1 = mat r ∧ s.2.2.2.1.length = n ∧ (∀ v, v < n → 0 ≤ s.2.2.2.1.getD v 0) ∧ (∀ i, i < r.length → sm n (fun v => en (mat r) i v * s.2.2.2.1.getD v 0) ≤ 0) ∧ (∀ v, v < d.length → GrowsR r n v → 0 < s.2.2.2.1.getD v 0) ∧ ∀ v, v < n → s.2.2.2.1.getD v 0 ≤ d.length * C ^ n)
    ⟨rfl, rfl, by simp, fun v hv => by show 0 ≤ (List.replicate n (0 : Int)).getD v 0; rw [getD_rep hv]; omega, fun i hi => ?_, fun v hv => by simp at hv, fun v hv => by show (List.replicate n (0 : Int)).getD v 0 ≤ _; rw [getD_rep hv]; simp⟩ (fun d x l s e hP => ?_) (fun s hP => ?_)
  · show sm n (fun v => en (mat r) i v * (List.replicate n (0 : Int)).getD v 0) ≤ 0
    rw [sm_congr (g := fun _ => 0) fun v hv => by rw [getD_rep hv]; omega, sm_zero]
    omega
  · obtain ⟨p1, p2, p3, p4, p5, p6, p7⟩ := hP
    obtain ⟨hx, hdn⟩ := range_pre e
    have hx2 : 0 ≤ x ∧ x < n := ⟨by omega, by omega⟩
    have hl1 : ((d ++ [x]).length : Int) = d.length + 1 := by simp
    have mono : (d.length : Int) * C ^ n ≤ ((d ++ [x]).length : Int) * C ^ n := by
      rw [hl1, Int.add_mul]
      omega
    have dl : (d.length : Int) * C ^ n ≤ 7 * C ^ n := Int.mul_le_mul_of_nonneg_right (by omega) (by omega)
    refine Okp.goO (getD_at 0 ⟨hx2.1, by omega⟩) ?_
    by_cases z : s.2.2.2.1.getD x.toNat 0 = 0
    · rw [decide_eq_true z, if_pos rfl, p1, p2]
      simp only [Rs.bind_assoc]
      refine Okp.go (e_unit n x (by omega)) ?_
      refine (e_side W hx2).step fun q hq => ?_
      rcases hq with ⟨a, b1, b2, b3, b4, b5⟩ | ⟨a, b1, b2, b3, b4, b5⟩
      · rw [if_pos a, Rs.bind_assoc]
        refine Okp.goG (a := (s.2.2.2.1.zip q.2.1).map fun y => y.1 + y.2) (decide_eq_true (small (by rw [List.length_zip]; omega))) (lcM_tt _ _) ?_
        rw [Rs.ok_bind, then_nx, Rs.ok_bind, then_nx, Rs.ok_bind, then_nx, Rs.ok_bind, then_nx]
        have gz : ∀ v, v < n → ((s.2.2.2.1.zip q.2.1).map fun y => y.1 + y.2).getD v 0 = s.2.2.2.1.getD v 0 + q.2.1.getD v 0 := fun v hv => getD_zip (f := fun a b => a + b) (by omega) (by omega)
        refine Okp.ok ⟨_, .inl rfl, rfl, rfl, by dsimp only; rw [List.length_map, List.length_zip]; omega, fun v hv => ?_, fun i hi => ?_, fun v hv gv => ?_, fun v hv => ?_⟩
        · have := p4 v hv
          have := b2 v hv
          dsimp only
          rw [gz v hv]
          omega
        · dsimp only
          have : sm n (fun v => en (mat r) i v * ((s.2.2.2.1.zip q.2.1).map fun y => y.1 + y.2).getD v 0) = sm n (fun v => en (mat r) i v * s.2.2.2.1.getD v 0) + sm n (fun v => en (mat r) i v * q.2.1.getD v 0) := by
            rw [← sm_add]
            exact sm_congr fun v hv => by rw [gz v hv, Int.mul_add]
          rw [this]
          have := p5 i hi
          have := b3 i hi
          omega
        · dsimp only
          rw [List.length_append, List.length_singleton] at hv
          have hvn : v < n := by omega
          rw [gz v hvn]
          have h2 := b2 v hvn
          have h4 := p4 v hvn
          by_cases ev : v = d.length
          · have : v = x.toNat := by omega
            rw [this] at h4 ⊢
            omega
          · have := p6 v (by omega) gv
            omega
        · dsimp only
          rw [gz v hv, hl1, Int.add_mul]
          have h7 := p7 v hv
          have := b5 _ (getD_mem (l := q.2.1) (i := v) (by omega))
          omega
      · rw [if_neg (by rw [a]; simp), Rs.ok_bind, then_nx, Rs.ok_bind, then_nx, Rs.ok_bind, then_nx, Rs.ok_bind, then_nx]
        refine Okp.ok ⟨_, .inl rfl, rfl, rfl, p3, p4, p5, fun v hv gv => ?_, fun v hv => ?_⟩
        · rw [List.length_append, List.length_singleton] at hv
          by_cases ev : v = d.length
          · have : v = x.toNat := by omega
            rw [this] at gv
            exact absurd gv (cap_stops (by omega) b2 b3 b4)
          · exact p6 v (by omega) gv
        · have := p7 v hv
          dsimp only
          omega
    · rw [decide_eq_false z, if_neg (by simp), Rs.ok_bind, then_nx, Rs.ok_bind, then_nx]
      refine Okp.ok ⟨_, .inl rfl, p1, p2, p3, p4, p5, fun v hv gv => ?_, fun v hv => ?_⟩
      · rw [List.length_append, List.length_singleton] at hv
        by_cases ev : v = d.length
        · have : v = x.toNat := by omega
          dsimp only
          rw [this]
          have := p4 x.toNat (by omega)
          omega
        · exact p6 v (by omega) gv
      · have := p7 v hv
        dsimp only
        omega
  · obtain ⟨p1, p2, p3, p4, p5, p6, p7⟩ := hP
    rw [rangeL_len, Int.toNat_natCast] at p6 p7
    have sml : ∀ x ∈ s.2.2.2.1, (x.natAbs : Int) < 1073741824 := fun x hx => by
      obtain ⟨v, hv, rfl⟩ := List.mem_iff_getElem.mp hx
      rw [← getD_el hv]
      have h1 := p7 v (by omega)
      have h2 := p4 v (by omega)
      have : (n : Int) * C ^ n ≤ 7 * C ^ n := Int.mul_le_mul_of_nonneg_right (by omega) (by omega)
      omega
    rw [then_nx, Rs.bind_assoc]
    refine Okp.go (e_lessened (by omega) sml) ?_
    rw [Rs.ok_bind, endM_rt]
    obtain ⟨k, k1, k2⟩ := lessen_scale s.2.2.2.1
    have le0 : ∀ x : Int, 0 ≤ k * x → 0 ≤ x := fun x hx => by
      rcases Int.lt_or_le x 0 with z | z
      · have := Int.mul_neg_of_pos_of_neg (show 0 < k by omega) z
        omega
      · exact z
    have nn : ∀ v, v < n → 0 ≤ (lessen s.2.2.2.1).getD v 0 := fun v hv => le0 _ (by rw [← k2]; exact p4 v hv)
    have dots : ∀ i, i < r.length → sm n (fun v => en (mat r) i v * (lessen s.2.2.2.1).getD v 0) ≤ 0 := fun i hi => by
      have h := p5 i hi
      have sc : sm n (fun v => en (mat r) i v * s.2.2.2.1.getD v 0) = k * sm n fun v => en (mat r) i v * (lessen s.2.2.2.1).getD v 0 := by
        rw [← sm_mul]
        exact sm_congr fun v _ => by rw [k2]; grind
      rw [sc] at h
      have := le0 (-(sm n fun v => en (mat r) i v * (lessen s.2.2.2.1).getD v 0)) (by rw [Int.mul_neg]; omega)
      omega
    have pos : ∀ v, 0 < s.2.2.2.1.getD v 0 → 0 < (lessen s.2.2.2.1).getD v 0 := fun v h => by
      rw [k2] at h
      rcases Int.lt_or_le 0 ((lessen s.2.2.2.1).getD v 0) with z | z
      · exact z
      · have := Int.mul_nonneg (show 0 ≤ k by omega) (show 0 ≤ -((lessen s.2.2.2.1).getD v 0) by omega)
        rw [Int.mul_neg] at this
        omega
    refine Okp.ok ⟨by rw [lessen_len]; exact p3, nn, dots, fun v hv => ⟨fun h => ⟨fun v => (lessen s.2.2.2.1).getD v 0, nn, dots, by show 1 ≤ (lessen s.2.2.2.1).getD v 0; omega⟩, fun h => pos v (p6 v hv h)⟩, fun x hx => ?_⟩
    obtain ⟨v, hv, rfl⟩ := List.mem_iff_getElem.mp hx
    rw [← getD_el hv]
    rw [lessen_len] at hv
    have h1 := sml _ (getD_mem hv)
    have h2 := k2 v
    have h3 := nn v (by omega)
    have : (lessen s.2.2.2.1).getD v 0 ≤ s.2.2.2.1.getD v 0 := by
      rw [h2]
      have := Int.mul_le_mul_of_nonneg_right k1 h3
      omega
    omega
theorem e_growing (W : Rw r n C) : Okp (m_growing (r, (n : Int))) fun z => z.length = n ∧ ∀ v (h : v < z.length), (z[v] = true ↔ GrowsR r n v) := by
  have nm := W.nm
  unfold m_growing w_growing
  try simp only [Rs.bind_assoc, Rs.ok_bind, then_nx, then_rt, endM_rt, endM_nx, ofOpt_some, if_true, Bool.false_eq_true, if_false, Bool.not_true, Bool.not_false]
  refine Okp.go (rows_ok (fun q hq => by rw [W.len q hq]) (by omega)) ?_
  refine (e_grow_sum W).step fun N hN => ?_
  obtain ⟨n1, n2, n3, n4, n5⟩ := hN
  refine Okp.goG (decide_eq_true (small (by omega))) (lcM_tt (fun b : Int => decide (0 < b)) N) ?_
  refine Okp.ok ⟨by rw [List.length_map, n1], fun v hv => ?_⟩
  rw [List.length_map] at hv
  rw [List.getElem_map, decide_eq_true_eq, ← getD_el hv]
  exact n4 v (by omega)
theorem e_all_growing (W : Rw r n C) : Okp (m_all_growing (r, (n : Int))) fun z => match z with
    | none => ∃ v, v < n ∧ ¬ GrowsR r n v
    | some N => N.length = n ∧ (∀ v, v < n → 1 ≤ N.getD v 0) ∧ (∀ i, i < r.length → sm n (fun v => en (mat r) i v * N.getD v 0) ≤ 0) ∧ ∀ v, v < n → GrowsR r n v := by
  have nm := W.nm
  unfold m_all_growing w_all_growing
  try simp only [Rs.bind_assoc, Rs.ok_bind, then_nx, then_rt, endM_rt, endM_nx, ofOpt_some, if_true, Bool.false_eq_true, if_false, Bool.not_true, Bool.not_false]
  refine Okp.go (rows_okT (fun q hq => by rw [W.len q hq]) (by omega)) ?_
  refine (e_grow_sum W).step fun N hN => ?_
  obtain ⟨n1, n2, n3, n4, n5⟩ := hN
  by_cases z : (0 : Int) ∈ N
  · rw [decide_eq_true z, if_pos rfl, Rs.ok_bind, then_rt, Rs.ok_bind, endM_rt]
    refine Okp.ok ?_
    obtain ⟨v, hv, e⟩ := List.mem_iff_getElem.mp z
    refine ⟨v, by omega, fun g => ?_⟩
    have := (n4 v (by omega)).mpr g
    rw [getD_el hv, e] at this
    omega
  · rw [decide_eq_false z, if_neg (by simp), Rs.ok_bind, then_nx, Rs.ok_bind, endM_rt]
    have pos : ∀ v, v < n → 0 < N.getD v 0 := fun v hv => by
      have h1 := n2 v hv
      have h2 : N.getD v 0 ≠ 0 := fun e => z (by rw [← e]; exact getD_mem (by omega))
      omega
    exact Okp.ok ⟨n1, fun v hv => by have := pos v hv; show 1 ≤ N.getD v 0; omega, n3, fun v hv => (n4 v hv).mp (pos v hv)⟩
end
end T30
namespace T30
open TL SP
theorem e_number (p : Pool) (n : Int) (h0 : 0 ≤ n) (h1 : n ≤ 1000) (hi : 0 ≤ p.2.1) : ∃ x p', m__law_number (p, n) = .ok (x, p') ∧ -n ≤ x ∧ x ≤ n ∧ 0 ≤ p'.2.1 := by
  obtain ⟨d, p', e1, e2, e3, e4⟩ := e_draw p (2 * n + 1) (by omega) (by omega) hi
  have : Okp (m__law_number (p, n)) fun r => -n ≤ r.1 ∧ r.1 ≤ n ∧ 0 ≤ r.2.2.1 := by
    unfold m__law_number w__law_number
    try simp only [Rs.bind_assoc, Rs.ok_bind, then_nx, then_rt, endM_rt, endM_nx, ofOpt_some, if_true, Bool.false_eq_true, if_false, Bool.not_true, Bool.not_false]
    refine Okp.goG (decide_eq_true (cmul_l (by decide))) rfl ?_
    refine Okp.go e1 ?_
    refine Okp.goG (decide_eq_true (by decide)) rfl ?_
    have c2 : ∀ x, L2.CDivN x 2 := fun x => ⟨by decide, by decide⟩
    have f2 : ∀ x : Int, x.fdiv 2 = x / 2 := fun x => Int.fdiv_eq_ediv_of_nonneg x (by decide)
    by_cases z : d.fmod 2 = 1
    · rw [decide_eq_true z, if_pos rfl, Rs.bind_assoc]
      refine Okp.goG (decide_eq_true (c2 _)) rfl ?_
      rw [Rs.ok_bind, then_rt, Rs.ok_bind, endM_rt]
      refine Okp.ok ⟨?_, ?_, e4⟩
      · show -n ≤ (d + 1).fdiv 2
        rw [f2]; omega
      · show (d + 1).fdiv 2 ≤ n
        rw [f2]; omega
    · rw [decide_eq_false z, if_neg (by simp), Rs.ok_bind, then_nx, Rs.bind_assoc]
      refine Okp.goG (decide_eq_true (c2 _)) rfl ?_
      rw [Rs.ok_bind, endM_rt]
      refine Okp.ok ⟨?_, ?_, e4⟩
      · show -n ≤ 0 - d.fdiv 2
        rw [f2]; omega
      · show 0 - d.fdiv 2 ≤ n
        rw [f2]; omega
  obtain ⟨r, e, a, b, c⟩ := this
  exact ⟨r.1, r.2, e, a, b, c⟩
theorem e_dot {a b : List Int} (h : a.length ≤ b.length) (hl : a.length ≤ 1000) (hm : (∀ x ∈ a, x.natAbs < 2 ^ 63) ∨ ∀ x ∈ b, x.natAbs < 2 ^ 63) : m__law_dot (a, b) = .ok (dot a b) := by
  refine Okp.eq ?_
  unfold m__law_dot w__law_dot
  try simp only [Rs.bind_assoc, Rs.ok_bind, then_nx, then_rt, endM_rt, endM_nx, ofOpt_some, if_true, Bool.false_eq_true, if_false, Bool.not_true, Bool.not_false]
  refine Okp.goG (rgOk_of (by omega) (by omega)) rfl ?_
  refine Okp.forS (fun d s => s.1 = a ∧ s.2.1 = b ∧ s.2.2.1 = sm d.length fun i => a.getD i 0 * b.getD i 0) ⟨rfl, rfl, rfl⟩ (fun d x l s e hP => ?_) (fun s hP => ?_)
  · obtain ⟨p1, p2, p3⟩ := hP
    obtain ⟨hx, hd⟩ := range_pre e
    have hd : d.length < a.length := by omega
    rw [p1, p2, hx]
    refine Okp.goO (getD_at 0 ⟨by omega, by omega⟩) ?_
    refine Okp.goO (getD_at 0 ⟨by omega, by omega⟩) ?_
    rw [Int.toNat_natCast]
    refine Okp.goG (decide_eq_true ?_) rfl (Okp.ok ⟨_, .inl rfl, rfl, rfl, ?_⟩)
    · rcases hm with hm | hm
      · exact cmul_l (hm _ (getD_mem hd))
      · exact cmul_r (hm _ (getD_mem (by omega)))
    · dsimp only
      rw [p3, List.length_append]
      rfl
  · rw [then_nx, Rs.ok_bind, endM_rt]
    refine Okp.ok ?_
    rw [hP.2.2, rangeL_len]
    unfold dot
    rw [Int.toNat_natCast]
theorem e_dotT {a b : List Int} (h : a.length ≤ b.length) (hl : a.length ≤ 1000) (hm : (∀ x ∈ a, x.natAbs < 2 ^ 63) ∨ ∀ x ∈ b, x.natAbs < 2 ^ 63) : m__law_dotT (a, b) = .ok (dot a b) := by
  refine Okp.eq ?_
  unfold m__law_dotT w__law_dotT
  try simp only [Rs.bind_assoc, Rs.ok_bind, then_nx, then_rt, endM_rt, endM_nx, ofOpt_some, if_true, Bool.false_eq_true, if_false, Bool.not_true, Bool.not_false]
  refine Okp.goG (rgOk_of (by omega) (by omega)) rfl ?_
  refine Okp.forS (fun d s => s.1 = a ∧ s.2.1 = b ∧ s.2.2.1 = sm d.length fun i => a.getD i 0 * b.getD i 0) ⟨rfl, rfl, rfl⟩ (fun d x l s e hP => ?_) (fun s hP => ?_)
  · obtain ⟨p1, p2, p3⟩ := hP
    obtain ⟨hx, hd⟩ := range_pre e
    have hd : d.length < a.length := by omega
    rw [p1, p2, hx]
    refine Okp.goO (getD_at 0 ⟨by omega, by omega⟩) ?_
    refine Okp.goO (getD_at 0 ⟨by omega, by omega⟩) ?_
    rw [Int.toNat_natCast]
    refine Okp.goG (decide_eq_true ?_) rfl (Okp.ok ⟨_, .inl rfl, rfl, rfl, ?_⟩)
    · rcases hm with hm | hm
      · exact cmul_l (hm _ (getD_mem hd))
      · exact cmul_r (hm _ (getD_mem (by omega)))
    · dsimp only
      rw [p3, List.length_append]
      rfl
  · rw [then_nx, Rs.ok_bind, endM_rt]
    refine Okp.ok ?_
    rw [hP.2.2, rangeL_len]
    unfold dot
    rw [Int.toNat_natCast]
theorem e_cross {a b : List Int} (ha : a.length = 3) (hb : b.length = 3) (hs : ∀ x ∈ a, x.natAbs < 2 ^ 63) : m__law_cross (a, b) = .ok (crossL a b) := by
  refine Okp.eq ?_
  unfold m__law_cross w__law_cross
  try simp only [Rs.bind_assoc, Rs.ok_bind, then_nx, then_rt, endM_rt, endM_nx, ofOpt_some, if_true, Bool.false_eq_true, if_false, Bool.not_true, Bool.not_false]
  have ia : ∀ k : Int, 0 ≤ k ∧ k < 3 → L2.atI a k = some (a.getD k.toNat 0) := fun k hk => getD_at 0 ⟨hk.1, by omega⟩
  have ib : ∀ k : Int, 0 ≤ k ∧ k < 3 → L2.atI b k = some (b.getD k.toNat 0) := fun k hk => getD_at 0 ⟨hk.1, by omega⟩
  have cm : ∀ (k : Nat) (y : Int), k < 3 → L2.CMul (a.getD k 0) y := fun k y hk => cmul_l (hs _ (getD_mem (by omega)))
  refine Okp.goO (ia 1 (by omega)) (Okp.goO (ib 2 (by omega)) (Okp.goG (decide_eq_true (cm 1 _ (by omega))) rfl ?_))
  refine Okp.goO (ia 2 (by omega)) (Okp.goO (ib 1 (by omega)) (Okp.goG (decide_eq_true (cm 2 _ (by omega))) rfl ?_))
  refine Okp.goO (ia 2 (by omega)) (Okp.goO (ib 0 (by omega)) (Okp.goG (decide_eq_true (cm 2 _ (by omega))) rfl ?_))
  refine Okp.goO (ia 0 (by omega)) (Okp.goO (ib 2 (by omega)) (Okp.goG (decide_eq_true (cm 0 _ (by omega))) rfl ?_))
  refine Okp.goO (ia 0 (by omega)) (Okp.goO (ib 1 (by omega)) (Okp.goG (decide_eq_true (cm 0 _ (by omega))) rfl ?_))
  refine Okp.goO (ia 1 (by omega)) (Okp.goO (ib 0 (by omega)) (Okp.goG (decide_eq_true (cm 1 _ (by omega))) rfl ?_))
  exact Okp.ok rfl
/-- small planes -/
structure Pl (planes : List (List Int)) : Prop where
  len : ∀ r ∈ planes, r.length = 3
  sml : ∀ r ∈ planes, ∀ x ∈ r, x.natAbs ≤ 1000000
  many : planes.length ≤ 20
theorem Pl.flat {planes : List (List Int)} (h : Pl planes) : (flatL planes).length = planes.length + 3 ∧ (∀ r ∈ flatL planes, r.length = 3) ∧ ∀ r ∈ flatL planes, ∀ x ∈ r, x.natAbs ≤ 1000000 := by
  unfold flatL
  refine ⟨by simp, fun r hr => ?_, fun r hr x hx => ?_⟩
  · rcases List.mem_append.mp hr with hr | hr
    · exact h.len r hr
    · simp only [List.mem_cons, List.mem_nil_iff, or_false] at hr
      rcases hr with rfl | rfl | rfl <;> rfl
  · rcases List.mem_append.mp hr with hr | hr
    · exact h.sml r hr x hx
    · simp only [List.mem_cons, List.mem_nil_iff, or_false] at hr
      rcases hr with rfl | rfl | rfl <;> (simp only [List.mem_cons, List.mem_nil_iff, or_false] at hx; rcases hx with rfl | rfl | rfl <;> decide)
theorem okR_eq {planes : List (List Int)} {t : List Int} (h : Pl planes) (ht : t.length = 3) :
    rAnd ((minL t).bind fun x => Rs.ok (decide (0 ≤ x))) (rAnd ((maxL t).bind fun x => Rs.ok (decide (0 < x)))
      ((Rs.guard (decide (planes.length ≤ PySem.sizeLine)) (lcM (fun b => nox (lcT (Rs.ok true) (m__law_dot (b, t)))) planes)).bind fun a =>
        (Rs.guard (decide (([0] : List Int).length + a.length ≤ PySem.sizeLine)) (Rs.ok ([0] ++ a))).bind fun a => (maxL a).bind fun x => Rs.ok (decide (x = 0)))) = .ok (okR planes t) := by
  obtain ⟨x, r, rfl⟩ : ∃ x r, t = x :: r := by
    match t, ht with
    | x :: r, _ => exact ⟨x, r, rfl⟩
  have e1 : lcM (fun b => nox (lcT (Rs.ok true) (m__law_dot (b, x :: r)))) planes = .ok (planes.map fun b => dot b (x :: r)) := lcM_map _ _ fun b hb => by
    rw [e_dot (by rw [h.len b hb, ht]; exact Nat.le_refl _) (by rw [h.len b hb]; decide) (.inl fun y hy => by have := h.sml b hb y hy; omega)]
    rfl
  have hm := h.many
  rw [minL_cons, maxL_cons, Rs.ok_bind, Rs.ok_bind, e1, Rs.guard_of (decide_eq_true (small (by omega))), Rs.ok_bind, Rs.guard_of (decide_eq_true (small (by rw [List.length_map]; show 1 + _ ≤ _; omega))), Rs.ok_bind]
  show rAnd _ (rAnd _ ((maxL (0 :: _)).bind _)) = _
  rw [maxL_cons, Rs.ok_bind]
  unfold okR
  have b1 : decide (0 ≤ r.foldl min x) = (x :: r).all fun x => decide (0 ≤ x) := by
    rw [Bool.eq_iff_iff, decide_eq_true_eq, List.all_eq_true, min_ge]
    simp
  have b2 : decide (0 < r.foldl max x) = (x :: r).any fun x => decide (0 < x) := by
    rw [Bool.eq_iff_iff, decide_eq_true_eq, List.any_eq_true, max_gt]
    simp
  have b3 : decide ((planes.map fun b => dot b (x :: r)).foldl max 0 = 0) = planes.all fun b => decide (dot b (x :: r) ≤ 0) := by
    rw [Bool.eq_iff_iff, decide_eq_true_eq, List.all_eq_true, max0]
    simp
  rw [b1, b2]
  show rAnd _ (rAnd _ (Rs.ok (decide ((planes.map fun b => dot b (x :: r)).foldl max 0 = 0)))) = _
  rw [b3]
  cases (x :: r).all fun x => decide (0 ≤ x) <;> cases (x :: r).any fun x => decide (0 < x) <;> rfl
theorem e_rays {rows : List (List Int)} (hm : rows.length ≤ 20) (hl : ∀ r ∈ rows, r.length ≤ 3) (hs : ∀ r ∈ rows, ∀ x ∈ r, x.natAbs ≤ 1000000) : m__law_rays rows = .ok (raysL (rows.map pad)) := by
  have hp : Pl (rows.map pad) := by
    refine ⟨fun r hr => ?_, fun r hr x hx => ?_, by rw [List.length_map]; exact hm⟩
    · obtain ⟨q, hq, rfl⟩ := List.mem_map.mp hr
      exact pad_len (hl q hq)
    · obtain ⟨q, hq, rfl⟩ := List.mem_map.mp hr
      unfold pad at hx
      rcases List.mem_append.mp hx with hx | hx
      · exact hs q hq x hx
      · rw [(List.mem_replicate.mp hx).2]; decide
  obtain ⟨f1, f2, f3⟩ := hp.flat
  refine Okp.eq ?_
  unfold m__law_rays w__law_rays
  try simp only [Rs.bind_assoc, Rs.ok_bind, then_nx, then_rt, endM_rt, endM_nx, ofOpt_some, if_true, Bool.false_eq_true, if_false, Bool.not_true, Bool.not_false]
  refine Okp.goG (a := rows.map pad) (decide_eq_true (small (by omega))) (lcM_map _ _ fun b hb => ?_) ?_
  · have h3 := hl b hb
    have ez : lcM (fun b : Int => nox (lcT (Rs.ok true) (Rs.ok (0 : Int)))) (rangeL 0 (3 - (b.length : Int))) = .ok (List.replicate (3 - b.length) 0) := by
      rw [lcM_tt (fun _ => (0 : Int))]
      congr 1
      rw [List.map_const', rangeL_len]
      congr 1
      omega
    rw [Rs.guard_of (rgOk_of (by omega) (by omega)), Rs.ok_bind, ez, Rs.guard_of (decide_eq_true (small (by rw [rangeL_len]; omega))), Rs.ok_bind, Rs.guard_of (decide_eq_true (small (by simp; omega)))]
    rfl
  refine Okp.goG (a := flatL (rows.map pad)) (decide_eq_true (small (by rw [List.length_map]; show _ + 3 ≤ _; omega))) rfl ?_
  rw [List.length_map] at f1
  generalize hpl : rows.map pad = planes at *
  refine Okp.goG (rgOk_of (by omega) (by omega)) rfl ?_
  have at_flat : ∀ i : Int, 0 ≤ i ∧ i < (flatL planes).length → L2.atI (flatL planes) i = some ((flatL planes).getD i.toNat []) := fun i hi => getD_at [] hi
  have mem_flat : ∀ i : Int, 0 ≤ i ∧ i < (flatL planes).length → (flatL planes).getD i.toNat [] ∈ flatL planes := fun i hi => by
    rw [List.getD_eq_getElem?_getD, List.getElem?_eq_getElem (by omega)]
    exact List.getElem_mem _
  let inner : Int → Int → List (List Int) := fun i j => ([1, -1] : List Int).filterMap fun s => if okR planes (rayOf planes i j s) = true then some (rayOf planes i j s) else none
  let outer : Int → List (List Int) := fun i => (rangeL 0 i).flatMap (inner i)
  have li : ∀ i j, (inner i j).length ≤ 2 := fun i j => fm_len _ _
  have lo : ∀ i : Int, 0 ≤ i → (outer i).length ≤ 2 * i.toNat := fun i hi => by
    have : ∀ l : List Int, (l.flatMap (inner i)).length ≤ 2 * l.length := fun l => by
      induction l with
      | nil => simp
      | cons x r ih =>
        rw [List.flatMap_cons, List.length_append, List.length_cons]
        have := li i x
        omega
    have := this (rangeL 0 i)
    rwa [rangeL_len] at this
  refine Okp.forS (fun d s => s.2.1 = planes ∧ s.2.2.1 = flatL planes ∧ s.2.2.2.1 = d.flatMap outer ∧ s.2.2.2.1.length ≤ 46 * d.length) ⟨rfl, rfl, rfl, by simp⟩ (fun d i l s e hP => ?_) (fun s hP => ?_)
  · obtain ⟨p1, p2, p3, p4⟩ := hP
    obtain ⟨hx, hd⟩ := range_pre e
    have hi : 0 ≤ i ∧ i < (flatL planes).length := ⟨by omega, by omega⟩
    refine Okp.goG (rgOk_of (by omega) hi.1) rfl ?_
    refine Okp.forS (fun d' s' => s'.2.1 = planes ∧ s'.2.2.1 = flatL planes ∧ s'.2.2.2.1 = d.flatMap outer ++ d'.flatMap (inner i) ∧ s'.2.2.2.2.1 = i ∧ s'.2.2.2.1.length ≤ 46 * d.length + 2 * d'.length) ⟨p1, p2, by dsimp only; rw [p3]; simp, rfl, by dsimp only; simpa using p4⟩ (fun d' j l' s' e' hP' => ?_) (fun s' hP' => ?_)
    · obtain ⟨q1, q2, q3, q4, q5⟩ := hP'
      obtain ⟨hj, hd'⟩ := range_pre e'
      have hj2 : 0 ≤ j ∧ j < (flatL planes).length := ⟨by omega, by omega⟩
      rw [q2, q4]
      refine Okp.goO (at_flat j hj2) ?_
      refine Okp.goO (at_flat i hi) ?_
      refine Okp.go (e_cross (f2 _ (mem_flat j hj2)) (f2 _ (mem_flat i hi)) fun x hx => by have := f3 _ (mem_flat j hj2) x hx; omega) ?_
      have cs : ∀ x ∈ crossL ((flatL planes).getD j.toNat []) ((flatL planes).getD i.toNat []), True := fun _ _ => trivial
      refine Okp.forS (fun d2 s2 => s2.2.1 = planes ∧ s2.2.2.1 = flatL planes ∧ s2.2.2.2.1 = d.flatMap outer ++ d'.flatMap (inner i) ++ d2.filterMap (fun s => if okR planes (rayOf planes i j s) = true then some (rayOf planes i j s) else none) ∧ s2.2.2.2.2.1 = i ∧ s2.2.2.2.2.2.2.1 = crossL ((flatL planes).getD j.toNat []) ((flatL planes).getD i.toNat []) ∧ s2.2.2.2.1.length ≤ 46 * d.length + 2 * d'.length + d2.length) ⟨q1, rfl, by dsimp only; rw [q3]; simp, rfl, rfl, by dsimp only; simpa using q5⟩ (fun d2 sg l2 s2 e2 hP2 => ?_) (fun s2 hP2 => ?_)
      · obtain ⟨r1, r2, r3, r4, r5, r6⟩ := hP2
        have hsg : sg = 1 ∨ sg = -1 := by
          have : sg ∈ ([1, -1] : List Int) := by rw [← e2]; simp
          simpa using this
        have hd2 : d2.length < 2 := by
          have := congrArg List.length e2
          simp only [List.length_append, List.length_cons, List.length_nil] at this
          omega
        rw [r5, r1]
        refine Okp.goG (a := rayOf planes i j sg) (decide_eq_true (small (by show 3 ≤ 1000; decide))) (lcM_map _ _ fun x hx => ?_) ?_
        · rw [Rs.guard_of (decide_eq_true (cmul_l (a := sg) (b := x) (by rcases hsg with rfl | rfl <;> decide)))]
          rfl
        refine Okp.go (okR_eq hp (ray_len planes i j sg)) ?_
        have hsz : s2.2.2.2.1.length < PySem.sizeLine := by rw [PySem.sizeLine_eq]; omega
        by_cases z : okR planes (rayOf planes i j sg) = true
        · rw [if_pos z, Rs.guard_of (decide_eq_true hsz), Rs.ok_bind, Rs.ok_bind, then_nx, Rs.ok_bind, then_nx]
          refine Okp.ok ⟨_, .inl rfl, rfl, r2, ?_, r4, rfl, ?_⟩
          · dsimp only
            rw [r3, List.filterMap_append, ← List.append_assoc]
            simp [z]
          · dsimp only
            rw [List.length_append, List.length_append]
            simp only [List.length_singleton]
            omega
        · rw [if_neg z, Rs.ok_bind, then_nx, Rs.ok_bind, then_nx]
          refine Okp.ok ⟨_, .inl rfl, rfl, r2, ?_, r4, rfl, ?_⟩
          · dsimp only
            rw [r3, List.filterMap_append]
            simp [z]
          · dsimp only
            rw [List.length_append]
            omega
      · obtain ⟨r1, r2, r3, r4, r5, r6⟩ := hP2
        rw [then_nx, Rs.ok_bind, then_nx]
        refine Okp.ok ⟨_, .inl rfl, r1, r2, ?_, r4, ?_⟩
        · dsimp only
          rw [r3, List.flatMap_append, ← List.append_assoc]
          simp [inner]
        · dsimp only
          rw [List.length_append]
          simp only [List.length_singleton, List.length_cons, List.length_nil] at r6 ⊢
          omega
    · obtain ⟨q1, q2, q3, q4, q5⟩ := hP'
      rw [then_nx, Rs.ok_bind, then_nx]
      refine Okp.ok ⟨_, .inl rfl, q1, q2, ?_, ?_⟩
      · dsimp only
        rw [q3, List.flatMap_append]
        simp [outer]
      · dsimp only
        rw [rangeL_len] at q5
        rw [List.length_append, List.length_singleton]
        omega
  · rw [then_nx, Rs.ok_bind, endM_rt]
    refine Okp.ok ?_
    rw [hP.2.2.1]
    rfl
end T30
namespace T30
open TL SP
theorem maxL_ok {l : List Int} (h : l ≠ []) : ∃ m, maxL l = .ok m ∧ ∀ c, (m < c ↔ ∀ y ∈ l, y < c) := by
  match l, h with
  | x :: r, _ => exact ⟨_, maxL_cons x r, fun c => max_lt⟩
theorem minL_ok {l : List Int} (h : l ≠ []) : ∃ m, minL l = .ok m ∧ ∀ c, (c ≤ m ↔ ∀ y ∈ l, c ≤ y) := by
  match l, h with
  | x :: r, _ => exact ⟨_, minL_cons x r, fun c => min_ge⟩
theorem sm_const (c : Int) : ∀ n : Nat, sm n (fun _ => c) = n * c
  | 0 => by simp [sm]
  | n + 1 => by
    show sm n (fun _ => c) + c = _
    rw [sm_const c n]
    have : ((n + 1 : Nat) : Int) * c = n * c + c := by rw [Int.natCast_add, Int.add_mul]; omega
    omega
theorem units_len {α β : Type} {l : List α} {m : List β} (h : l.map (fun _ => ()) = m.map (fun _ => ())) : l.length = m.length := by
  have := congrArg List.length h
  simpa using this
theorem flatMap_len {α β : Type} {f : α → List β} {c : Nat} : ∀ {l : List α}, (∀ x ∈ l, (f x).length ≤ c) → (l.flatMap f).length ≤ c * l.length
  | [], _ => by simp
  | x :: r, h => by
    rw [List.flatMap_cons, List.length_append, List.length_cons, Nat.mul_add]
    have := h x List.mem_cons_self
    have := flatMap_len (l := r) fun y hy => h y (List.mem_cons_of_mem _ hy)
    omega
theorem rays_len {planes : List (List Int)} (h : planes.length ≤ 20) : (raysL planes).length ≤ 1058 := by
  unfold raysL
  have hl : (flatL planes).length = planes.length + 3 := by unfold flatL; simp
  have := flatMap_len (c := 46) (l := rangeL 0 (flatL planes).length) (f := fun i => (rangeL 0 i).flatMap fun j => ([1, -1] : List Int).filterMap fun s => if okR planes (rayOf planes i j s) = true then some (rayOf planes i j s) else none) fun i hi => by
    have hi := rangeL_mem'.mp hi
    have := flatMap_len (c := 2) (l := rangeL 0 i) (f := fun j => ([1, -1] : List Int).filterMap fun s => if okR planes (rayOf planes i j s) = true then some (rayOf planes i j s) else none) fun j _ => fm_len _ _
    rw [rangeL_len] at this
    omega
  rw [rangeL_len] at this
  omega
theorem atI_mem {α : Type} {xs : List α} {i : Int} (h : -(xs.length : Int) ≤ i ∧ i < xs.length) : ∃ y ∈ xs, L2.atI xs i = some y := by
  unfold L2.atI L2.ixN
  by_cases z : 0 ≤ i
  · rw [if_pos z, if_pos h.2]
    refine ⟨xs[i.toNat]'(by omega), List.getElem_mem _, ?_⟩
    show xs[i.toNat]? = _
    rw [List.getElem?_eq_getElem]
  · rw [if_neg z, if_pos (by omega)]
    refine ⟨xs[(i + (xs.length : Int)).toNat]'(by omega), List.getElem_mem _, ?_⟩
    show xs[(i + (xs.length : Int)).toNat]? = _
    rw [List.getElem?_eq_getElem]
/-- what is drawn -/
structure Drw (rows : List (List Int)) (due : List Bool) (C : Int) : Prop where
  n1 : 1 ≤ due.length
  n8 : due.length < 8
  len : ∀ r ∈ rows, r.length = due.length
  many : rows.length ≤ 6
  sml : ∀ r ∈ rows, ∀ x ∈ r, x.natAbs ≤ 1000
  hC : 1 ≤ C
  hw : ∀ v, v < due.length → sm rows.length (fun i => ((en rows i v).natAbs : Int)) + 1 ≤ C
  pw : 8 * C ^ due.length < 1073741824
  due : ∀ k (h : k < due.length), due[k] = true ↔ Grows (fun i v => en rows i v) rows.length due.length k
theorem en_mem {rows : List (List Int)} {i v n : Nat} (hi : i < rows.length) (hl : ∀ r ∈ rows, r.length = n) (hv : v < n) : ∃ r ∈ rows, en rows i v ∈ r := by
  refine ⟨rows[i], List.getElem_mem _, ?_⟩
  unfold en
  rw [List.getD_eq_getElem?_getD (l := rows), List.getElem?_eq_getElem hi]
  exact getD_mem (by show v < rows[i].length; rw [hl _ (List.getElem_mem _)]; exact hv)
theorem dueL {n : Nat} {f : Int → Bool} {k : Nat} (hk : k < ((rangeL 0 (n : Int)).map f).length) : ((rangeL 0 (n : Int)).map f)[k] = f k := by
  rw [List.getElem_map]
  rw [List.length_map, rangeL_len] at hk
  have := rangeL_get (n := (n : Int)) (i := k) (by omega)
  rw [List.getElem?_eq_getElem (by rw [rangeL_len]; omega)] at this
  rw [Option.some.inj this]
theorem e_drawn (p : Pool) (turned : Bool) (hp : 0 ≤ p.2.1) : Okp (m__law_drawn (p, turned)) fun r => (∃ C, Drw r.1.1 r.1.2 C) ∧ 0 ≤ r.2.2.1 := by
  obtain ⟨d1, p1, a1, a2, a3, a4⟩ := e_draw p 3 (by decide) (by decide) hp
  obtain ⟨d2, p2, b1, b2, b3, b4⟩ := e_draw p1 3 (by decide) (by decide) a4
  unfold m__law_drawn w__law_drawn
  try simp only [Rs.bind_assoc, Rs.ok_bind, then_nx, then_rt, endM_rt, endM_nx, ofOpt_some, if_true, Bool.false_eq_true, if_false, Bool.not_true, Bool.not_false]
  refine Okp.go a1 ?_
  refine Okp.go b1 ?_
  obtain ⟨most, hm, em⟩ := atI_mem (xs := ([2, 5, 99] : List Int)) (i := d2) ⟨by omega, by show d2 < 3; omega⟩
  have hmost : 0 ≤ most ∧ most ≤ 99 := by
    simp only [List.mem_cons, List.mem_nil_iff, or_false] at hm
    omega
  refine Okp.goO em ?_
  obtain ⟨n, hn⟩ : ∃ n : Nat, 1 + d1 = (n : Int) := ⟨(1 + d1).toNat, by omega⟩
  simp only [hn]
  have n1 : 1 ≤ n := by omega
  have n3 : n ≤ 3 := by omega
  refine Okp.goG (rgOk_of (by omega) (by omega)) rfl ?_
  rw [Rs.guard_of (decide_eq_true (small (by rw [rangeL_len]; omega)))]
  refine (draws (g := _) _ (fun y : Int => 1 ≤ y ∧ y ≤ 3) (fun _ => ()) (fun _ => ()) _ p2 (fun b _ q hq => ?_) b4).step fun r hr => ?_
  · obtain ⟨d, q', c1, c2, c3, c4⟩ := e_draw q 3 (by decide) (by decide) hq
    refine Okp.nox (Okp.go c1 (Okp.ok ⟨_, q', rfl, ⟨by show 1 ≤ 1 + d; omega, by show 1 + d ≤ 3; omega⟩, rfl, c4⟩))
  obtain ⟨r1, r2, p3, r3, r4⟩ := hr
  have lnum : r.1.length = n := by have := units_len r1; rw [this, rangeL_len]; omega
  obtain ⟨numbers, st⟩ := r
  dsimp only at r1 r2 r3 lnum
  subst r3
  obtain ⟨d3, p4, c1, c2, c3, c4⟩ := e_draw p3 6 (by decide) (by decide) r4
  dsimp only
  refine Okp.go c1 ?_
  refine Okp.goG (rgOk_of (by omega) c2) rfl ?_
  refine Okp.forS (fun d s => 0 ≤ s.1.2.1 ∧ s.2.2.1 = (n : Int) ∧ s.2.2.2.1 = most ∧ s.2.2.2.2.1 = numbers ∧ s.2.2.2.2.2.1.length ≤ d.length ∧ ∀ r ∈ s.2.2.2.2.2.1, r.length = n ∧ ∀ x ∈ r, x.natAbs < 100) ⟨c4, rfl, rfl, rfl, by simp, fun r hr => by simp at hr⟩ (fun d x l s e hP => ?_) (fun s hP => ?_)
  · obtain ⟨q1, q2, q3, q4, q5, q6⟩ := hP
    obtain ⟨hx, hd⟩ := range_pre e
    rw [q2]
    refine Okp.goG (rgOk_of (by omega) (by omega)) rfl ?_
    rw [Rs.guard_of (decide_eq_true (small (by rw [rangeL_len]; omega)))]
    refine (draws (g := _) _ (fun y : Int => y.natAbs ≤ 99) (fun _ => ()) (fun _ => ()) _ s.1 (fun b _ q hq => ?_) q1).step fun r hr => ?_
    · dsimp only
      rw [q3]
      obtain ⟨y, q', c1, c2, c3, c4⟩ := e_number q most hmost.1 (by omega) hq
      exact Okp.nox (Okp.go c1 (Okp.ok ⟨_, q', rfl, by show y.natAbs ≤ 99; omega, rfl, c4⟩))
    obtain ⟨t1, t2, p5, t3, t4⟩ := hr
    have lrow : r.1.length = n := by have := units_len t1; rw [this, rangeL_len]; omega
    obtain ⟨row, st⟩ := r
    dsimp only at t1 t2 t3 lrow
    subst t3
    dsimp only
    rw [q4]
    refine Okp.go (e_dot (by omega) (by omega) (.inl fun y hy => by have := t2 y hy; omega)) ?_
    have hand : ∀ b c : Bool, rAnd (Rs.ok b) (Rs.ok c) = .ok (b && c) := fun b c => by cases b <;> rfl
    rw [hand, Rs.ok_bind]
    -- the rest, with a row of this length
    have fin : ∀ (row2 : List Int), row2.length = n → ∃ m, (Rs.guard (decide (row2.length ≤ PySem.sizeLine)) (lcM (fun b => nox (lcT (Rs.ok true) (Rs.ok (if b < 0 then -b else b)))) row2)).bind TL.maxL = .ok m ∧ (m < 100 ↔ ∀ y ∈ row2, y.natAbs < 100) := fun row2 hl => by
      rw [Rs.guard_of (decide_eq_true (small (by omega))), lcM_tt (fun b : Int => if b < 0 then -b else b), Rs.ok_bind]
      obtain ⟨m, e1, e2⟩ := maxL_ok (l := row2.map fun b : Int => if b < 0 then -b else b) (fun z => by have := congrArg List.length z; simp at this; rw [this] at hl; simp at hl; omega)
      refine ⟨m, e1, (e2 100).trans ?_⟩
      simp only [List.mem_map, forall_exists_index, and_imp, forall_apply_eq_imp_iff₂]
      refine forall_congr' fun y => imp_congr_right fun _ => ?_
      split <;> omega
    have tail : ∀ (row2 : List Int) (po : Pool), row2.length = n → 0 ≤ po.2.1 → True := fun _ _ _ _ => trivial
    have hsz : s.2.2.2.2.2.1.length < PySem.sizeLine := by rw [PySem.sizeLine_eq]; omega
    by_cases z : (s.2.1 && decide (0 < dot row numbers)) = true
    · rw [if_pos z]
      obtain ⟨d5, p6, u1, u2, u3, u4⟩ := e_draw p5 n (by omega) (by omega) t4
      simp only [Rs.bind_assoc]
      refine Okp.go u1 ?_
      have hmem : numbers.getD d5.toNat 0 ∈ numbers := getD_mem (by omega)
      have hnb := r2 _ hmem
      refine Okp.goO (getD_at 0 ⟨u2, by omega⟩) ?_
      refine Okp.goO (getD_at 0 ⟨u2, by omega⟩) ?_
      refine Okp.goO (getD_at 0 ⟨u2, by omega⟩) ?_
      refine Okp.goG (decide_eq_true ⟨by show numbers.getD d5.toNat 0 ≠ 0; omega, by show (numbers.getD d5.toNat 0).natAbs < 1073741824; omega⟩) rfl ?_
      refine Okp.goO (a := d5.toNat) (ixN_in u2 (by omega)) ?_
      rw [Rs.ok_bind, then_nx]
      obtain ⟨m, e1, e2⟩ := fin (row.set d5.toNat (row.getD d5.toNat 0 - (dot row numbers + numbers.getD d5.toNat 0 - 1).fdiv (numbers.getD d5.toNat 0))) (by rw [List.length_set]; exact lrow)
      rw [← Rs.bind_assoc (k := TL.maxL)]
      simp only [Rs.bind_assoc]
      rw [← Rs.bind_assoc (k := TL.maxL)]
      refine Okp.go e1 ?_
      by_cases y : m < 100
      · rw [decide_eq_true y, if_pos rfl, Rs.bind_assoc]
        refine Okp.goG (decide_eq_true hsz) rfl ?_
        rw [Rs.ok_bind, then_nx, Rs.ok_bind, then_nx]
        refine Okp.ok ⟨_, .inl rfl, u4, rfl, q3, rfl, ?_, fun r hr => ?_⟩
        · dsimp only
          rw [List.length_append, List.length_append, List.length_singleton, List.length_singleton]
          omega
        · rcases List.mem_append.mp hr with hr | hr
          · exact q6 r hr
          · rw [List.mem_singleton] at hr
            rw [hr]
            exact ⟨by rw [List.length_set]; exact lrow, e2.mp y⟩
      · rw [decide_eq_false y, if_neg (by simp), Rs.ok_bind, then_nx, Rs.ok_bind, then_nx]
        refine Okp.ok ⟨_, .inl rfl, u4, rfl, q3, rfl, ?_, q6⟩
        dsimp only
        rw [List.length_append]
        omega
    · rw [if_neg z, Rs.ok_bind, then_nx]
      obtain ⟨m, e1, e2⟩ := fin row lrow
      simp only [Rs.bind_assoc]
      rw [← Rs.bind_assoc (k := TL.maxL)]
      refine Okp.go e1 ?_
      by_cases y : m < 100
      · rw [decide_eq_true y, if_pos rfl, Rs.bind_assoc]
        refine Okp.goG (decide_eq_true hsz) rfl ?_
        rw [Rs.ok_bind, then_nx, Rs.ok_bind, then_nx]
        refine Okp.ok ⟨_, .inl rfl, t4, rfl, q3, rfl, ?_, fun r hr => ?_⟩
        · dsimp only
          rw [List.length_append, List.length_append, List.length_singleton, List.length_singleton]
          omega
        · rcases List.mem_append.mp hr with hr | hr
          · exact q6 r hr
          · rw [List.mem_singleton] at hr
            rw [hr]
            exact ⟨lrow, e2.mp y⟩
      · rw [decide_eq_false y, if_neg (by simp), Rs.ok_bind, then_nx, Rs.ok_bind, then_nx]
        refine Okp.ok ⟨_, .inl rfl, t4, rfl, q3, rfl, ?_, q6⟩
        dsimp only
        rw [List.length_append]
        omega
  · obtain ⟨q1, q2, q3, q4, q5, q6⟩ := hP
    rw [rangeL_len] at q5
    have hrl : s.2.2.2.2.2.1.length ≤ 5 := by omega
    rw [then_nx, Rs.bind_assoc]
    refine Okp.go (e_rays (by omega) (fun r hr => by rw [(q6 r hr).1]; exact n3) fun r hr x hx => by have := (q6 r hr).2 x hx; omega) ?_
    rw [q2, Rs.bind_assoc]
    refine Okp.goG (rgOk_of (by omega) (by omega)) rfl ?_
    have hp : ∀ r ∈ s.2.2.2.2.2.1.map pad, r.length = 3 := fun r hr => by
      obtain ⟨q, hq, rfl⟩ := List.mem_map.mp hr
      exact pad_len (by rw [(q6 q hq).1]; exact n3)
    have rl : (raysL (s.2.2.2.2.2.1.map pad)).length ≤ 1058 := rays_len (by rw [List.length_map]; omega)
    have ray3 : ∀ t ∈ raysL (s.2.2.2.2.2.1.map pad), t.length = 3 := fun t ht => by
      obtain ⟨i, j, sg, _, _, _, rfl⟩ := mem_rays.mp ht
      rfl
    rw [Rs.bind_assoc]
    refine Okp.goG (a := (rangeL 0 (n : Int)).map fun k => decide (0 < ((raysL (s.2.2.2.2.2.1.map pad)).map fun t => t.getD k.toNat 0).foldl max 0)) (decide_eq_true (small (by rw [rangeL_len]; omega))) (lcM_map _ _ fun k hk => ?_) ?_
    · have hk := rangeL_mem'.mp hk
      have e1 : lcM (fun b_1 : List Int => nox (lcT (Rs.ok true) (Rs.ofOpt (L2.atI b_1 k)))) (raysL (s.2.2.2.2.2.1.map pad)) = .ok ((raysL (s.2.2.2.2.2.1.map pad)).map fun t => t.getD k.toNat 0) := lcM_map _ _ fun t ht => by
        rw [getD_at 0 ⟨hk.1, by rw [ray3 t ht]; omega⟩, ofOpt_some]
        rfl
      rw [Rs.guard_of (decide_eq_true (smallx (by omega))), e1, Rs.ok_bind, Rs.guard_of (decide_eq_true (smallx (by rw [List.length_map]; show 1 + _ ≤ _; omega))), Rs.ok_bind]
      rfl
    rw [Rs.ok_bind, endM_rt]
    refine Okp.ok ⟨⟨496, ?_⟩, q1⟩
    generalize hrows : s.2.2.2.2.2.1 = rows at *
    have ld : ((rangeL 0 (n : Int)).map fun k => decide (0 < ((raysL (rows.map pad)).map fun t => t.getD k.toNat 0).foldl max 0)).length = n := by rw [List.length_map, rangeL_len]; omega
    refine ⟨by rw [ld]; exact n1, by rw [ld]; omega, fun r hr => by rw [ld]; exact (q6 r hr).1, by show rows.length ≤ 6; omega, fun r hr x hx => by have := (q6 r hr).2 x hx; omega, by decide, fun v hv => ?_, ?_, fun k hk => ?_⟩
    · rw [ld] at hv
      have : sm rows.length (fun i => ((en rows i v).natAbs : Int)) ≤ sm rows.length (fun _ => 99) := sm_le fun i hi => by
        obtain ⟨r, hr, hx⟩ := en_mem hi (fun r hr => (q6 r hr).1) hv
        have := (q6 r hr).2 _ hx
        omega
      rw [sm_const] at this
      show sm rows.length (fun i => ((en rows i v).natAbs : Int)) + 1 ≤ 496
      omega
    · rw [ld]
      rcases (show n = 1 ∨ n = 2 ∨ n = 3 by omega) with rfl | rfl | rfl <;> decide
    · have hkn : k < n := by rw [ld] at hk; exact hk
      show ((rangeL 0 (n : Int)).map _)[k] = true ↔ _
      rw [dueL, decide_eq_true_eq, max_gt, ld]
      refine Iff.trans ?_ (rays_iff n3 (fun r hr => (q6 r hr).1) hkn)
      rw [Int.toNat_natCast]
      constructor
      · rintro ⟨y, hy, h0⟩
        rcases List.mem_cons.mp hy with rfl | hy
        · omega
        · obtain ⟨t, ht, rfl⟩ := List.mem_map.mp hy
          exact ⟨t, ht, h0⟩
      · rintro ⟨t, ht, h0⟩
        exact ⟨_, List.mem_cons_of_mem _ (List.mem_map.mpr ⟨t, ht, rfl⟩), h0⟩
end T30
namespace T30
open TL SP
theorem mod1 {L i : Nat} (h : i < L) : (i + 1) % L = if i + 1 < L then i + 1 else 0 := by
  split
  · rename_i z; exact Nat.mod_eq_of_lt z
  · rw [show i + 1 = L by omega, Nat.mod_self]
theorem ring_cols {L : Nat} {N R : Nat → Int} (hN : ∀ k, k < L → 1 ≤ N k ∧ N k ≤ 5) (hR : ∀ k, k < L → 1 ≤ R k ∧ R k ≤ 5) {v : Nat} (hv : v < L) : sm L (fun i => ((ringA L N R i v).natAbs : Int)) + 1 ≤ 11 := by
  have h1 : sm L (fun i => ((ringA L N R i v).natAbs : Int)) ≤ sm L (fun i => (if i = v then 5 else 0) + (if v = (i + 1) % L then 5 else 0)) := sm_le fun i hi => by
    have a := hN i hi
    have b := hR i hi
    unfold ringA
    by_cases x : v = i <;> by_cases y : v = (i + 1) % L
    · rw [if_pos x, if_pos y, if_pos x.symm, if_pos y]; omega
    · rw [if_pos x, if_neg y, if_pos x.symm, if_neg y]; omega
    · rw [if_neg x, if_pos y, if_neg (Ne.symm x), if_pos y]; omega
    · rw [if_neg x, if_neg y, if_neg (Ne.symm x), if_neg y]; omega
  have h2 : sm L (fun i => if i = v then (5 : Int) else 0) = 5 := by
    rw [sm_one (k := v) hv fun i _ ne => if_neg ne, if_pos rfl]
  have h3 : sm L (fun i => if v = (i + 1) % L then (5 : Int) else 0) = 5 := by
    have hw : (if v = 0 then L - 1 else v - 1) < L := by split <;> omega
    rw [sm_one (k := if v = 0 then L - 1 else v - 1) hw fun i hi ne => if_neg fun e => ne (by
      rw [mod1 hi] at e
      split at e <;> split <;> omega), if_pos]
    rw [mod1 hw]
    split <;> split <;> omega
  rw [sm_add, h2, h3] at h1
  omega
theorem e_ring (p : Pool) (hp : 0 ≤ p.2.1) : Okp (m__law_ring (p, ())) fun r => (∃ C, Drw r.1.1 r.1.2 C) ∧ 0 ≤ r.2.2.1 := by
  obtain ⟨d1, p1, a1, a2, a3, a4⟩ := e_draw p 6 (by decide) (by decide) hp
  unfold m__law_ring w__law_ring
  try simp only [Rs.bind_assoc, Rs.ok_bind, then_nx, then_rt, endM_rt, endM_nx, ofOpt_some, if_true, Bool.false_eq_true, if_false, Bool.not_true, Bool.not_false]
  refine Okp.go a1 ?_
  obtain ⟨n, hn⟩ : ∃ n : Nat, 1 + d1 = (n : Int) := ⟨(1 + d1).toNat, by omega⟩
  simp only [hn]
  have n1 : 1 ≤ n := by omega
  have n6 : n ≤ 6 := by omega
  refine Okp.goG (rgOk_of (by omega) (by omega)) rfl ?_
  rw [Rs.guard_of (decide_eq_true (small (by rw [rangeL_len]; omega)))]
  refine (draws (g := _) _ (fun y : Int => 1 ≤ y ∧ y ≤ 5) (fun _ => ()) (fun _ => ()) _ p1 (fun b _ q hq => ?_) a4).step fun r hr => ?_
  · obtain ⟨d, q', c1, c2, c3, c4⟩ := e_draw q 5 (by decide) (by decide) hq
    exact Okp.nox (Okp.go c1 (Okp.ok ⟨_, q', rfl, ⟨by show 1 ≤ 1 + d; omega, by show 1 + d ≤ 5; omega⟩, rfl, c4⟩))
  obtain ⟨r1, r2, p3, r3, r4⟩ := hr
  have lnum : r.1.length = n := by have := units_len r1; rw [this, rangeL_len]; omega
  obtain ⟨needs, st⟩ := r
  dsimp only at r1 r2 r3 lnum
  subst r3
  dsimp only
  refine Okp.goG (rgOk_of (by omega) (by omega)) rfl ?_
  have first : ∀ b : Int, 0 ≤ b ∧ b < n → ∃ y ∈ needs, L2.atI needs (b - 1) = some y := fun b hb => atI_mem ⟨by omega, by omega⟩
  have hrooms : Okp (lcM (fun b => nox (lcT (Rs.ok true) (Rs.ofOpt (L2.atI needs (b - 1))))) (rangeL 0 (n : Int))) fun rooms => rooms.length = n ∧ ∀ y ∈ rooms, 1 ≤ y ∧ y ≤ 5 := by
    refine ⟨(rangeL 0 (n : Int)).map fun b => (L2.atI needs (b - 1)).getD 1, lcM_map _ _ fun b hb => ?_, by rw [List.length_map, rangeL_len]; omega, fun y hy => ?_⟩
    · obtain ⟨y, _, e⟩ := first b (rangeL_mem'.mp hb)
      rw [e]; rfl
    · obtain ⟨b, hb, rfl⟩ := List.mem_map.mp hy
      obtain ⟨y, hy, e⟩ := first b (rangeL_mem'.mp hb)
      rw [e]
      exact r2 y hy
  rw [Rs.guard_of (decide_eq_true (small (by rw [rangeL_len]; omega)))]
  refine hrooms.step fun rooms0 ⟨l0, h0⟩ => ?_
  obtain ⟨d2, p4, b1, b2, b3, b4⟩ := e_draw p3 2 (by decide) (by decide) r4
  refine Okp.go b1 ?_
  have two : Okp (if decide (d2 = 1) = true then
      (Rs.guard (rgOk 0 (n : Int)) (Rs.ok (rangeL 0 (n : Int)))).bind fun a_5 =>
        (Rs.guard (decide (a_5.length ≤ PySem.sizeLine)) (lcE (fun b (s : Pool × Int × List Int × List Int × Unit × Unit × Unit × Unit × Unit × Unit × Unit) => nox ((m__law_draw (s.fst, 5)).bind fun a => Rs.ok (some (1 + a.fst), a.snd, s.snd.fst, s.snd.snd.fst, s.snd.snd.snd.fst, s.snd.snd.snd.snd.fst, s.snd.snd.snd.snd.snd.fst, s.snd.snd.snd.snd.snd.snd.fst, (), s.snd.snd.snd.snd.snd.snd.snd.snd))) a_5 (p4, (n : Int), needs, rooms0, (), (), (), (), (), (), ()))).bind fun r =>
          (Rs.ok (Fl.nx (r.snd.fst, r.snd.snd.fst, r.snd.snd.snd.fst, r.fst, r.snd.snd.snd.snd.snd)) : Rs (Fl ((List (List Int) × List Bool) × Pool) (Pool × Int × List Int × List Int × Unit × Unit × Unit × Unit × Unit × Unit × Unit) Unit))
      else Rs.ok (Fl.nx (p4, (n : Int), needs, rooms0, (), (), (), (), (), (), ()))) fun fl => ∃ (po : Pool) (rooms : List Int), fl = .nx (po, (n : Int), needs, rooms, (), (), (), (), (), (), ()) ∧ 0 ≤ po.2.1 ∧ rooms.length = n ∧ ∀ y ∈ rooms, 1 ≤ y ∧ y ≤ 5 := by
    by_cases z : d2 = 1
    · rw [decide_eq_true z, if_pos rfl]
      refine Okp.goG (rgOk_of (by omega) (by omega)) rfl ?_
      rw [Rs.guard_of (decide_eq_true (small (by rw [rangeL_len]; omega)))]
      refine (draws (g := _) _ (fun y : Int => 1 ≤ y ∧ y ≤ 5) (fun _ => ()) (fun _ => ()) _ p4 (fun b _ q hq => ?_) b4).step fun r hr => ?_
      · obtain ⟨d, q', c1, c2, c3, c4⟩ := e_draw q 5 (by decide) (by decide) hq
        exact Okp.nox (Okp.go c1 (Okp.ok ⟨_, q', rfl, ⟨by show 1 ≤ 1 + d; omega, by show 1 + d ≤ 5; omega⟩, rfl, c4⟩))
      obtain ⟨t1, t2, p5, t3, t4⟩ := hr
      have lr : r.1.length = n := by have := units_len t1; rw [this, rangeL_len]; omega
      refine Okp.ok ⟨p5, r.1, ?_, t4, lr, t2⟩
      rw [t3]
    · rw [decide_eq_false z, if_neg (by simp)]
      exact Okp.ok ⟨p4, rooms0, rfl, b4, l0, h0⟩
  refine two.step fun fl hfl => ?_
  obtain ⟨po, rooms, rfl, w1, w2, w3⟩ := hfl
  rw [then_nx]
  dsimp only
  rw [Rs.bind_assoc]
  refine Okp.goG (rgOk_of (by omega) (by omega)) rfl ?_
  rw [Rs.bind_assoc]
  let N : Nat → Int := fun i => needs.getD i 0
  let R : Nat → Int := fun i => rooms.getD i 0
  have hN : ∀ k, k < n → 1 ≤ N k ∧ N k ≤ 5 := fun k hk => r2 _ (getD_mem (by omega))
  have hR : ∀ k, k < n → 1 ≤ R k ∧ R k ≤ 5 := fun k hk => w3 _ (getD_mem (by omega))
  refine Okp.forS (fun d s => s.1 = po ∧ s.2.1 = (n : Int) ∧ s.2.2.1 = needs ∧ s.2.2.2.1 = rooms ∧ s.2.2.2.2.1.length = d.length ∧ (∀ i, i < d.length → (s.2.2.2.2.1.getD i []).length = n ∧ ∀ v, v < n → (s.2.2.2.2.1.getD i []).getD v 0 = ringA n N R i v) ∧ s.2.2.2.2.2.1 = pr d.length N ∧ s.2.2.2.2.2.2.1 = pr d.length R) ⟨rfl, rfl, rfl, rfl, rfl, fun i hi => by simp at hi, rfl, rfl⟩ (fun d x l s e hP => ?_) (fun s hP => ?_)
  · obtain ⟨q1, q2, q3, q4, q5, q6, q7, q8⟩ := hP
    obtain ⟨hx, hd⟩ := range_pre e
    have hd : d.length < n := by omega
    rw [q2, q3, q4]
    refine Okp.goG (rgOk_of (by omega) (by omega)) rfl ?_
    have ez : lcM (fun b : Int => nox (lcT (Rs.ok true) (Rs.ok (0 : Int)))) (rangeL 0 (n : Int)) = .ok (List.replicate n 0) := by
      rw [lcM_tt (fun _ => (0 : Int))]
      congr 1
      rw [List.map_const', rangeL_len]
      congr 1
    refine Okp.goG (decide_eq_true (small (by rw [rangeL_len]; omega))) ez ?_
    refine Okp.goO (getD_at 0 ⟨by omega, by simp; omega⟩) ?_
    refine Okp.goO (getD_at 0 ⟨by omega, by omega⟩) ?_
    refine Okp.goO (a := x.toNat) (ixN_in (by omega) (by simp; omega)) ?_
    have hne : (n : Int) ≠ 0 := by omega
    obtain ⟨q, hq, hml⟩ : ∃ q, q = (d.length + 1) % n ∧ q < n := ⟨_, rfl, Nat.mod_lt _ (by omega)⟩
    have hfm : (x + 1).fmod (n : Int) = (q : Int) := by
      rw [hx, hq, Int.fmod_eq_emod_of_nonneg _ (by omega)]
      rfl
    refine Okp.goG (decide_eq_true hne) rfl ?_
    rw [hfm]
    refine Okp.goO (getD_at 0 ⟨by omega, by simp; omega⟩) ?_
    refine Okp.goO (getD_at 0 ⟨by omega, by omega⟩) ?_
    refine Okp.goG (decide_eq_true hne) rfl ?_
    refine Okp.goO (a := q) (by rw [ixN_in (by omega) (by simp; omega), Int.toNat_natCast]) ?_
    refine Okp.goG (decide_eq_true (by rw [PySem.sizeLine_eq]; omega)) rfl ?_
    dsimp only
    refine Okp.goO (getD_at 0 ⟨by omega, by omega⟩) ?_
    have hxn : x.toNat = d.length := by omega
    rw [hxn]
    have hn1 := hN d.length hd
    have hr1 := hR d.length hd
    refine Okp.goG (decide_eq_true (cmul_r (by show (N d.length).natAbs < _; omega))) rfl ?_
    refine Okp.goO (getD_at 0 ⟨by omega, by omega⟩) ?_
    rw [hxn]
    refine Okp.goG (decide_eq_true (cmul_r (by show (R d.length).natAbs < _; omega))) rfl ?_
    refine Okp.ok ⟨_, .inl rfl, q1, rfl, rfl, rfl, ?_, fun i hi => ?_, ?_, ?_⟩
    · dsimp only
      rw [List.length_append, List.length_append, q5]; rfl
    · rw [List.length_append, List.length_singleton] at hi
      dsimp only
      by_cases z : i < d.length
      · have : (s.2.2.2.2.1 ++ [((List.replicate n (0 : Int)).set d.length ((List.replicate n (0 : Int)).getD d.length 0 + needs.getD d.length 0)).set q (((List.replicate n (0 : Int)).set d.length ((List.replicate n (0 : Int)).getD d.length 0 + needs.getD d.length 0)).getD ((q : Int)).toNat 0 - rooms.getD d.length 0)]).getD i [] = s.2.2.2.2.1.getD i [] := by
          rw [List.getD_eq_getElem?_getD, List.getElem?_append_left (by omega), List.getD_eq_getElem?_getD]
        rw [this]
        exact q6 i z
      · have ei : i = d.length := by omega
        have : (s.2.2.2.2.1 ++ [((List.replicate n (0 : Int)).set d.length ((List.replicate n (0 : Int)).getD d.length 0 + needs.getD d.length 0)).set q (((List.replicate n (0 : Int)).set d.length ((List.replicate n (0 : Int)).getD d.length 0 + needs.getD d.length 0)).getD ((q : Int)).toNat 0 - rooms.getD d.length 0)]).getD i [] = ((List.replicate n (0 : Int)).set d.length ((List.replicate n (0 : Int)).getD d.length 0 + needs.getD d.length 0)).set q (((List.replicate n (0 : Int)).set d.length ((List.replicate n (0 : Int)).getD d.length 0 + needs.getD d.length 0)).getD ((q : Int)).toNat 0 - rooms.getD d.length 0) := by
          rw [List.getD_eq_getElem?_getD, List.getElem?_append_right (by omega), ei, q5]
          simp
        rw [this, Int.toNat_natCast]
        refine ⟨by simp, fun v hv => ?_⟩
        rw [getD_set (by simp; exact hml), getD_set (by simp; exact hd), getD_set (by simp; exact hd), getD_rep hd, ei]
        unfold ringA
        show _ = (if v = d.length then N d.length else 0) - if v = (d.length + 1) % n then R d.length else 0
        rw [← hq]
        by_cases a : v = q
        · rw [if_pos a, if_pos a]
          by_cases b : q = d.length
          · rw [if_pos b, if_pos (by omega)]
            show 0 + N d.length - R d.length = _
            omega
          · rw [if_neg b, if_neg (by omega), getD_rep hml]
        · rw [if_neg a, if_neg a]
          by_cases b : v = d.length
          · rw [if_pos b, if_pos b]
            show 0 + N d.length = _
            omega
          · rw [if_neg b, if_neg b, getD_rep hv]
            omega
    · dsimp only
      rw [q7, List.length_append]
      rfl
    · dsimp only
      rw [q8, List.length_append]
      rfl
  · obtain ⟨q1, q2, q3, q4, q5, q6, q7, q8⟩ := hP
    rw [rangeL_len, Int.toNat_natCast] at q5 q6 q7 q8
    rw [then_nx, q2]
    simp only [Rs.bind_assoc]
    refine Okp.goG (rgOk_of (by omega) (by omega)) rfl ?_
    refine Okp.goG (a := (rangeL 0 (n : Int)).map fun _ => decide (s.2.2.2.2.2.1 ≤ s.2.2.2.2.2.2.1)) (decide_eq_true (small (by rw [rangeL_len]; omega))) (lcM_tt _ _) ?_
    rw [Rs.ok_bind, endM_rt]
    refine Okp.ok ⟨⟨11, ?_⟩, by rw [q1]; exact w1⟩
    have ld : ((rangeL 0 (n : Int)).map fun _ => decide (s.2.2.2.2.2.1 ≤ s.2.2.2.2.2.2.1)).length = n := by rw [List.length_map, rangeL_len]; omega
    have hen : ∀ i v, i < n → v < n → en s.2.2.2.2.1 i v = ringA n N R i v := fun i v hi hv => (q6 i hi).2 v hv
    have hrow : ∀ r ∈ s.2.2.2.2.1, r.length = n := fun r hr => by
      obtain ⟨i, hi, rfl⟩ := List.mem_iff_getElem.mp hr
      have := (q6 i (by omega)).1
      rwa [List.getD_eq_getElem?_getD, List.getElem?_eq_getElem hi] at this
    refine ⟨by rw [ld]; exact n1, by rw [ld]; omega, fun r hr => by rw [ld]; exact hrow r hr, by show s.2.2.2.2.1.length ≤ 6; omega, fun r hr x hx => ?_, by decide, fun v hv => ?_, ?_, fun k hk => ?_⟩
    · obtain ⟨i, hi, rfl⟩ := List.mem_iff_getElem.mp hr
      have hi : i < s.2.2.2.2.1.length := hi
      have hr : s.2.2.2.2.1[i] ∈ s.2.2.2.2.1 := hr
      have hx : x ∈ s.2.2.2.2.1[i] := hx
      obtain ⟨v, hv, rfl⟩ := List.mem_iff_getElem.mp hx
      have hv' : v < n := by rw [← hrow _ hr]; exact hv
      have h1 := (q6 i (by omega)).2 v hv'
      rw [List.getD_eq_getElem?_getD (l := s.2.2.2.2.1), List.getElem?_eq_getElem hi, Option.getD_some, getD_el hv] at h1
      rw [h1]
      have a := hN i (by omega)
      have b := hR i (by omega)
      unfold ringA
      split <;> split <;> omega
    · rw [ld] at hv
      have : sm s.2.2.2.2.1.length (fun i => ((en s.2.2.2.2.1 i v).natAbs : Int)) = sm n (fun i => ((ringA n N R i v).natAbs : Int)) := by
        rw [q5]
        exact sm_congr fun i hi => by rw [hen i v hi hv]
      show sm s.2.2.2.2.1.length (fun i => ((en s.2.2.2.2.1 i v).natAbs : Int)) + 1 ≤ 11
      rw [this]
      exact ring_cols hN hR hv
    · rw [ld]
      have := pow_up (C := 11) (by decide) n6
      have : (11 : Int) ^ 6 = 1771561 := by decide
      omega
    · show ((rangeL 0 (n : Int)).map _)[k] = true ↔ Grows (fun i v => en s.2.2.2.2.1 i v) s.2.2.2.2.1.length ((rangeL 0 (n : Int)).map fun _ => decide (s.2.2.2.2.2.1 ≤ s.2.2.2.2.2.2.1)).length k
      have hkn : k < n := by rw [ld] at hk; exact hk
      rw [dueL, decide_eq_true_eq, ld, q5, q7, q8, ← ring_grows n1 hkn (fun k hk => (hN k hk).1) (fun k hk => (hR k hk).1)]
      have gre : ∀ (B : Nat → Nat → Int) (h : Nat → Int) (i : Nat), i < n → (∀ i v, i < n → v < n → B i v = ringA n N R i v) → sm n (fun v => B i v * h v) = sm n (fun v => ringA n N R i v * h v) := fun B h i hi hB => sm_congr fun v hv => by rw [hB i v hi hv]
      have gr : ∀ B : Nat → Nat → Int, (∀ i v, i < n → v < n → B i v = ringA n N R i v) → (Grows B n n k ↔ Grows (ringA n N R) n n k) := fun B hB => by
        constructor
        · rintro ⟨h, h1, h2, h3⟩
          exact ⟨h, h1, fun i hi => by rw [← gre B h i hi hB]; exact h2 i hi, h3⟩
        · rintro ⟨h, h1, h2, h3⟩
          exact ⟨h, h1, fun i hi => by rw [gre B h i hi hB]; exact h2 i hi, h3⟩
      exact (gr _ hen).symm
end T30
namespace T30
open TL SP
theorem e_ints (t : List Int) (n c : Int) : m__law_ints (t, n, c) = .ok (decide ((t.length : Int) = n) && t.all fun x => decide (c ≤ x)) := by
  refine Okp.eq ?_
  unfold m__law_ints w__law_ints
  try simp only [Rs.bind_assoc, Rs.ok_bind, then_nx, then_rt, endM_rt, endM_nx, ofOpt_some, if_true, Bool.false_eq_true, if_false, Bool.not_true, Bool.not_false]
  have o1 : ∀ b : Bool, rOr (Rs.ok false) (Rs.ok b) = .ok b := fun b => by cases b <;> rfl
  rw [o1, Rs.ok_bind]
  by_cases z : (t.length : Int) = n
  · rw [decide_eq_true z]
    simp only [Bool.not_true, Bool.false_eq_true, if_false, Rs.ok_bind, then_nx, Bool.true_and]
    rw [Rs.bind_assoc]
    refine Okp.forE (fun l s => s.2.2.1 = c ∧ (t.all fun x => decide (c ≤ x)) = l.all fun x => decide (c ≤ x)) (fun z => z = false ∧ (t.all fun x => decide (c ≤ x)) = false) (fun _ => False) ⟨rfl, rfl⟩ (fun x l s hP => ?_) (fun s hP => ?_) (fun z hz => ?_) (fun _ h => h.elim)
    · obtain ⟨p1, p2⟩ := hP
      rw [o1, o1, Rs.ok_bind, p1]
      rw [List.all_cons] at p2
      by_cases y : x < c
      · rw [decide_eq_true y, if_pos rfl, Rs.ok_bind, then_rt, Rs.ok_bind, then_rt]
        refine Okp.ok (.inr (.inl ⟨_, rfl, rfl, ?_⟩))
        rw [p2, decide_eq_false (by omega)]
        rfl
      · rw [decide_eq_false y, if_neg (by simp), Rs.ok_bind, then_nx, Rs.ok_bind, then_nx]
        refine Okp.ok (.inl ⟨_, .inl rfl, rfl, ?_⟩)
        rw [p2, decide_eq_true (by omega)]
        rfl
    · rw [then_nx, Rs.ok_bind, endM_rt]
      exact Okp.ok hP.2.symm
    · rw [then_rt, Rs.ok_bind, endM_rt, hz.1]
      exact Okp.ok hz.2.symm
  · rw [decide_eq_false z]
    simp only [Bool.not_false, if_true, Rs.ok_bind, then_rt, endM_rt, Bool.false_and]
    exact Okp.ok rfl
def bT : SK := ⟨PySem.Str.ofString "bad", w__law_refused._proof_2⟩
theorem e_refused {r : Rows} {n p : Int} (h : m_grow_or_cap (r, n, p) = .exc 1) : m__law_refused (r, n, p) = .ok bT := by
  unfold m__law_refused w__law_refused
  try simp only [Rs.bind_assoc, Rs.ok_bind, then_nx, then_rt, endM_rt, endM_nx, ofOpt_some, if_true, Bool.false_eq_true, if_false, Bool.not_true, Bool.not_false]
  unfold tryM
  rw [show nox (Rs.ok (r, n, p)) = .ok (r, n, p) from rfl, Rs.ok_bind, h]
  rfl
theorem e_long {r : Rows} {n : Int} (h : m_growing (r, n) = .exc 1) : m__law_long (r, n) = .ok bT := by
  unfold m__law_long w__law_long
  try simp only [Rs.bind_assoc, Rs.ok_bind, then_nx, then_rt, endM_rt, endM_nx, ofOpt_some, if_true, Bool.false_eq_true, if_false, Bool.not_true, Bool.not_false]
  unfold tryM
  rw [show nox (Rs.ok (r, n)) = .ok (r, n) from rfl, Rs.ok_bind, h]
  rfl
theorem goc_place {r : Rows} {n : Nat} {p : Int} (hl : ∀ q ∈ r, q.1.length = n) (hm : r.length ≤ 1000) (hn : n ≤ 1000) (h : p < 0 ∨ (n : Int) ≤ p) (h1 : p.natAbs < 2 ^ 64) : m_grow_or_cap (r, (n : Int), p) = .exc 1 := by
  unfold m_grow_or_cap w_grow_or_cap
  try simp only [Rs.bind_assoc, Rs.ok_bind, then_nx, then_rt, endM_rt, endM_nx, ofOpt_some, if_true, Bool.false_eq_true, if_false, Bool.not_true, Bool.not_false]
  rw [rows_ok (fun q hq => by rw [hl q hq]) hm, Rs.ok_bind, place_bad h h1 (by omega)]
  rfl
theorem goc_rows {r : Rows} {n p : Int} (h : ∃ q ∈ r, (q.1.length : Int) ≠ n) (hm : r.length ≤ 1000) (h1 : ∀ q ∈ r, q.1.length ≤ 1000) (h2 : n.natAbs < 2 ^ 64) : m_grow_or_cap (r, n, p) = .exc 1 := by
  unfold m_grow_or_cap w_grow_or_cap
  try simp only [Rs.bind_assoc, Rs.ok_bind, then_nx, then_rt, endM_rt, endM_nx, ofOpt_some, if_true, Bool.false_eq_true, if_false, Bool.not_true, Bool.not_false]
  rw [rows_bad h hm h1 h2]
  rfl
theorem gr_rows {r : Rows} {n : Int} (h : ∃ q ∈ r, (q.1.length : Int) ≠ n) (hm : r.length ≤ 1000) (h1 : ∀ q ∈ r, q.1.length ≤ 1000) (h2 : n.natAbs < 2 ^ 64) : m_growing (r, n) = .exc 1 := by
  unfold m_growing w_growing
  try simp only [Rs.bind_assoc, Rs.ok_bind, then_nx, then_rt, endM_rt, endM_nx, ofOpt_some, if_true, Bool.false_eq_true, if_false, Bool.not_true, Bool.not_false]
  rw [rows_bad h hm h1 h2]
  rfl
theorem dot_row {rows : List (List Int)} {n i : Nat} {t : List Int} (hi : i < rows.length) (hl : ∀ r ∈ rows, r.length = n) : dot rows[i] t = sm n fun v => en rows i v * t.getD v 0 := by
  unfold dot en
  rw [hl _ (List.getElem_mem _), List.getD_eq_getElem?_getD (l := rows), List.getElem?_eq_getElem hi]
  rfl
theorem all_dots {rows : List (List Int)} {n : Nat} {t : List Int} (hl : ∀ r ∈ rows, r.length = n) : (∀ y ∈ rows.map fun b => dot b t, y ≤ 0) ↔ ∀ i, i < rows.length → sm n (fun v => en rows i v * t.getD v 0) ≤ 0 := by
  constructor
  · intro h i hi
    rw [← dot_row hi hl]
    exact h _ (List.mem_map.mpr ⟨_, List.getElem_mem _, rfl⟩)
  · intro h y hy
    obtain ⟨b, hb, rfl⟩ := List.mem_map.mp hy
    obtain ⟨i, hi, rfl⟩ := List.mem_iff_getElem.mp hb
    rw [dot_row hi hl]
    exact h i hi
theorem all_get {t : List Int} {c : Int} : (t.all fun x => decide (c ≤ x)) = true ↔ ∀ v, v < t.length → c ≤ t.getD v 0 := by
  rw [List.all_eq_true]
  constructor
  · intro h v hv
    exact of_decide_eq_true (h _ (getD_mem hv))
  · intro h x hx
    obtain ⟨v, hv, rfl⟩ := List.mem_iff_getElem.mp hx
    rw [← getD_el hv]
    exact decide_eq_true (h v hv)
section
variable {rows : List (List Int)} {due : List Bool} {C : Int}
theorem e_right (W : Drw rows due C) {p : Int} (hp : 0 ≤ p ∧ p < due.length) {z : SK × List Int} {g : Bool} (hg : g = true ↔ Grows (fun i v => en rows i v) rows.length due.length p.toNat)
    (hz : (z.1 = gT ∧ Grows (fun i v => en rows i v) rows.length due.length p.toNat ∧ z.2.length = due.length ∧ (∀ v, v < due.length → 0 ≤ z.2.getD v 0) ∧ (∀ i, i < rows.length → sm due.length (fun v => en rows i v * z.2.getD v 0) ≤ 0) ∧ 1 ≤ z.2.getD p.toNat 0) ∨
      (z.1 = cT ∧ ¬ Grows (fun i v => en rows i v) rows.length due.length p.toNat ∧ z.2.length = rows.length ∧ (∀ i, i < rows.length → 0 ≤ z.2.getD i 0) ∧ (∀ j, j < due.length → 0 ≤ sm rows.length fun i => en rows i j * z.2.getD i 0) ∧ (1 ≤ sm rows.length fun i => en rows i p.toNat * z.2.getD i 0))) :
    m__law_right (rows, (due.length : Int), p, z, g) = .ok true := by
  have n8 := W.n8
  have many := W.many
  have n1 := W.n1
  refine Okp.eq ?_
  unfold m__law_right w__law_right
  try simp only [Rs.bind_assoc, Rs.ok_bind, then_nx, then_rt, endM_rt, endM_nx, ofOpt_some, if_true, Bool.false_eq_true, if_false, Bool.not_true, Bool.not_false]
  have o1 : ∀ b : Bool, rOr (Rs.ok false) (Rs.ok b) = .ok b := fun b => by cases b <;> rfl
  have o2 : ∀ x : Rs Bool, rOr (Rs.ok false) x = x := fun x => rfl
  rw [o1, Rs.ok_bind]
  rw [if_neg (by decide), Rs.ok_bind, then_nx]
  rcases hz with ⟨z1, z2, z3, z4, z5, z6⟩ | ⟨z1, z2, z3, z4, z5, z6⟩
  · have g1 : g = true := hg.mpr z2
    dsimp only
    rw [if_pos g1, z1]
    have i1 : m__law_ints (z.2, (due.length : Int), 0) = .ok true := by
      rw [e_ints, decide_eq_true (by omega), all_get.mpr fun v hv => z4 v (by omega)]
      rfl
    have t1 : decide (gT = ⟨PySem.Str.ofString "grow", w_grow_or_cap._proof_1⟩) = true := decide_eq_true rfl
    rw [t1, i1, getD_at 0 (x := p) ⟨hp.1, by omega⟩]
    simp only [Bool.not_true, o2, Rs.ok_bind, ofOpt_some]
    rw [decide_eq_false (show ¬ z.2.getD p.toNat 0 < 1 by omega), if_neg (by simp), Rs.ok_bind, then_nx]
    simp only [Rs.bind_assoc]
    refine Okp.goG (a := rows.map fun b => dot b z.2) (decide_eq_true (small (by omega))) (lcM_map _ _ fun b hb => ?_) ?_
    · have hb' := W.len b hb
      rw [e_dotT (by omega) (by omega) (.inl fun x hx => by have := W.sml b hb x hx; omega)]
      rfl
    refine Okp.goG (decide_eq_true (small (by rw [List.length_map]; show 1 + _ ≤ _; omega))) rfl ?_
    refine Okp.go (maxL_cons _ _) ?_
    rw [Rs.ok_bind, then_rt, Rs.ok_bind, endM_rt]
    refine Okp.ok (decide_eq_true ?_)
    show List.foldl max 0 (rows.map fun b => dot b z.2) = 0
    exact max0.mpr ((all_dots W.len).mpr z5)
  · have g1 : g = false := by
      cases hgg : g with
      | false => rfl
      | true => exact absurd (hg.mp hgg) z2
    dsimp only
    rw [g1, if_neg (by simp), Rs.ok_bind, then_nx, z1]
    dsimp only
    have i1 : m__law_ints (z.2, (rows.length : Int), 0) = .ok true := by
      rw [e_ints, decide_eq_true (by omega), all_get.mpr fun v hv => z4 v (by omega)]
      rfl
    have t1 : decide (cT = ⟨PySem.Str.ofString "cap", w_grow_or_cap._proof_2⟩) = true := decide_eq_true rfl
    rw [t1, i1]
    simp only [Bool.not_true, o2, Rs.ok_bind]
    rw [if_neg (by simp), Rs.ok_bind, then_nx]
    simp only [Rs.bind_assoc]
    refine Okp.goG (rgOk_of (by omega) (by omega)) rfl ?_
    have col : ∀ k : Int, 0 ≤ k ∧ k < due.length → lcM (fun b_1 : List Int => nox (lcT (Rs.ok true) (Rs.ofOpt (L2.atI b_1 k)))) rows = .ok (rows.map fun r => r.getD k.toNat 0) := fun k hk => lcM_map _ _ fun r hr => by
      rw [getD_at 0 ⟨hk.1, by rw [W.len r hr]; omega⟩, ofOpt_some]
      rfl
    refine Okp.goG (a := (rangeL 0 (due.length : Int)).map fun k => dot (rows.map fun r => r.getD k.toNat 0) z.2) (decide_eq_true (small (by rw [rangeL_len]; omega))) (lcM_map _ _ fun k hk => ?_) ?_
    · have hk := rangeL_mem'.mp hk
      rw [col k hk, Rs.guard_of (decide_eq_true (small (by omega))), Rs.ok_bind, e_dotT (by rw [List.length_map]; omega) (by rw [List.length_map]; omega) (.inl fun x hx => ?_)]
      · rfl
      · obtain ⟨r, hr, rfl⟩ := List.mem_map.mp hx
        have := W.sml r hr _ (getD_mem (l := r) (i := k.toNat) (by rw [W.len r hr]; omega))
        omega
    have dc : ∀ k : Int, dot (rows.map fun r => r.getD k.toNat 0) z.2 = sm rows.length fun i => en rows i k.toNat * z.2.getD i 0 := fun k => by
      unfold dot
      rw [List.length_map]
      refine sm_congr fun i hi => ?_
      congr 1
      rw [getD_el (by rw [List.length_map]; exact hi), List.getElem_map]
      unfold en
      rw [List.getD_eq_getElem?_getD (l := rows), List.getElem?_eq_getElem hi]
      rfl
    have lsum : ((rangeL 0 (due.length : Int)).map fun k => dot (rows.map fun r => r.getD k.toNat 0) z.2).length = due.length := by rw [List.length_map, rangeL_len]; omega
    obtain ⟨mn, e1, e2⟩ := minL_ok (l := (rangeL 0 (due.length : Int)).map fun k => dot (rows.map fun r => r.getD k.toNat 0) z.2) (fun w => by rw [w] at lsum; simp at lsum; omega)
    rw [e1, Rs.ok_bind, decide_eq_true ((e2 0).mpr fun y hy => by
      obtain ⟨k, hk, rfl⟩ := List.mem_map.mp hy
      have hk := rangeL_mem'.mp hk
      rw [dc]
      exact z5 _ (by omega))]
    rw [getD_at 0 (x := p) ⟨hp.1, by rw [lsum]; omega⟩, ofOpt_some, Rs.ok_bind]
    have gp : ((rangeL 0 (due.length : Int)).map fun k => dot (rows.map fun r => r.getD k.toNat 0) z.2).getD p.toNat 0 = sm rows.length fun i => en rows i p.toNat * z.2.getD i 0 := by
      rw [List.getD_eq_getElem?_getD, List.getElem?_map, rangeL_get (by omega), ← dc]
      simp only [Option.map_some, Option.getD_some]
      rw [Int.toNat_natCast]
    rw [gp, decide_eq_true z6]
    exact Okp.ok rfl
theorem mat_pairs (hd : Rows) (h : hd.map (·.1) = rows) : mat hd = rows := h
theorem Drw.rw (W : Drw rows due C) {hd : Rows} (h : hd.map (·.1) = rows) : Rw hd due.length C := by
  have hl : hd.length = rows.length := by rw [← h, List.length_map]
  have n8 := W.n8
  have many := W.many
  refine ⟨fun q hq => W.len _ (by rw [← h]; exact List.mem_map.mpr ⟨q, hq, rfl⟩), W.hC, fun v hv => ?_, W.pw, n8, by omega⟩
  unfold mat
  rw [h, hl]
  exact W.hw v hv
end
end T30
namespace T30
open TL SP
theorem e_pool (ns : List Int) (h : ns.length ≤ 63) : m__law_pool ns = .ok (ns, 0, 0, 0) := by
  refine Okp.eq ?_
  unfold m__law_pool w__law_pool
  try simp only [Rs.bind_assoc, Rs.ok_bind, then_nx, then_rt, endM_rt, endM_nx, ofOpt_some, if_true, Bool.false_eq_true, if_false, Bool.not_true, Bool.not_false]
  have e : sl ns none (some 63) = ns := by
    rw [sl_take ns (by decide)]
    exact List.take_of_length_le h
  rw [e]
  exact Okp.ok rfl
theorem law_true (ns : List Int) (h : ns.length ≤ 63) : m_law ns = .ok true := by
  refine Okp.eq ?_
  unfold m_law w_law
  try simp only [Rs.bind_assoc, Rs.ok_bind, then_nx, then_rt, endM_rt, endM_nx, ofOpt_some, if_true, Bool.false_eq_true, if_false, Bool.not_true, Bool.not_false]
  refine Okp.go (e_pool ns h) ?_
  obtain ⟨d1, p1, a1, a2, a3, a4⟩ := e_draw (ns, 0, 0, 0) 3 (by decide) (by decide) (Int.le_refl 0)
  refine Okp.go a1 ?_
  dsimp only
  refine Okp.step (R := fun fl => ∃ (po : Pool) (rows : List (List Int)) (due : List Bool) (C : Int), fl = .nx (ns, po, d1, (rows, due), (), (), (), (), (), (), (), (), (), (), (), (), ()) ∧ 0 ≤ po.2.1 ∧ Drw rows due C) ?_ fun fl hfl => ?_
  · by_cases z : d1 = 2
    · rw [decide_eq_true z, if_pos rfl]
      refine (e_ring p1 a4).step fun r ⟨⟨C, W⟩, hp⟩ => Okp.ok ⟨r.2, r.1.1, r.1.2, C, rfl, hp, W⟩
    · rw [decide_eq_false z, if_neg (by simp)]
      refine (e_drawn p1 _ a4).step fun r ⟨⟨C, W⟩, hp⟩ => Okp.ok ⟨r.2, r.1.1, r.1.2, C, rfl, hp, W⟩
  obtain ⟨po, rows, due, C, rfl, hpo, W⟩ := hfl
  have n1 := W.n1
  have n8 := W.n8
  have many := W.many
  rw [then_nx]
  dsimp only
  rw [Rs.bind_assoc, Rs.guard_of (decide_eq_true (small (by omega)))]
  refine (drawsE (fun p : PoolT => ((ns, p, d1, (rows, due), rows, due, (due.length : Int), (), (), (), (), (), (), (), (), (), ()) : _ × _ × _ × _ × _ × _ × _ × _ × _ × _ × _ × _ × _ × _ × _ × _ × _)) (fun y : List Int × Int => y.2.natAbs ≤ 9) (fun y => y.1) (fun b => b) rows po (fun b _ q hq => ?_) hpo).step fun r hr => ?_
  · obtain ⟨y, q', c1, c2, c3, c4⟩ := e_number q 9 (by decide) (by decide) hq
    exact Okp.nox (Okp.go c1 (Okp.ok ⟨(b, y), q', rfl, by show y.natAbs ≤ 9; omega, rfl, c4⟩))
  obtain ⟨r1, r2, p2, r3, r4⟩ := hr
  obtain ⟨hd, st⟩ := r
  dsimp only at r1 r2 r3
  subst r3
  rw [List.map_id'] at r1
  have lhd : hd.length = rows.length := by rw [← r1, List.length_map]
  have hdl : ∀ q ∈ hd, q.1.length = due.length := fun q hq => W.len _ (by rw [← r1]; exact List.mem_map.mpr ⟨q, hq, rfl⟩)
  have R := W.rw r1
  have gro : ∀ k, GrowsR hd due.length k ↔ Grows (fun i v => en rows i v) rows.length due.length k := fun k => by
    unfold GrowsR mat
    rw [r1, lhd]
  dsimp only
  rw [Rs.bind_assoc]
  refine Okp.goG (a := hd) (decide_eq_true (small (by omega))) (by rw [lcM_tt (fun b : List Int × Int => (b.1, b.2))]; congr 1; exact List.map_id' hd) ?_
  rw [Rs.bind_assoc]
  refine Okp.goG (rgOk_of (by omega) (by omega)) rfl ?_
  rw [Rs.bind_assoc]
  have goc : ∀ p : Int, 0 ≤ p ∧ p < due.length → Okp (m_grow_or_cap (hd, (due.length : Int), p)) fun z =>
    (z.1 = gT ∧ Grows (fun i v => en rows i v) rows.length due.length p.toNat ∧ z.2.length = due.length ∧ (∀ v, v < due.length → 0 ≤ z.2.getD v 0) ∧ (∀ i, i < rows.length → sm due.length (fun v => en rows i v * z.2.getD v 0) ≤ 0) ∧ 1 ≤ z.2.getD p.toNat 0) ∨
      (z.1 = cT ∧ ¬ Grows (fun i v => en rows i v) rows.length due.length p.toNat ∧ z.2.length = rows.length ∧ (∀ i, i < rows.length → 0 ≤ z.2.getD i 0) ∧ (∀ j, j < due.length → 0 ≤ sm rows.length fun i => en rows i j * z.2.getD i 0) ∧ (1 ≤ sm rows.length fun i => en rows i p.toNat * z.2.getD i 0)) := fun p hp => by
    have := e_grow_or_cap R hp
    simp only [gro, lhd, mat_pairs hd r1] at this
    exact this
  have due_at : ∀ p : Int, 0 ≤ p ∧ p < due.length → ∃ g, L2.atI due p = some g ∧ (g = true ↔ Grows (fun i v => en rows i v) rows.length due.length p.toNat) := fun p hp => by
    refine ⟨due[p.toNat]'(by omega), ?_, W.due _ _⟩
    rw [atI_in hp.1 hp.2, List.getElem?_eq_getElem]
  refine Okp.for (fun s => s.2.2.2.2.1 = rows ∧ s.2.2.2.2.2.1 = due ∧ s.2.2.2.2.2.2.1 = (due.length : Int) ∧ s.2.2.2.2.2.2.2.1 = hd ∧ s.2.2.2.2.2.2.2.2.1 = hd) ⟨rfl, rfl, rfl, rfl, rfl⟩ (fun b hb s hP => ?_) (fun s hP => ?_)
  · obtain ⟨q1, q2, q3, q4, q5⟩ := hP
    have hb := rangeL_mem'.mp hb
    rw [q1, q2, q3, q4]
    refine (goc b hb).step fun z hz => ?_
    obtain ⟨g, g1, g2⟩ := due_at b hb
    refine Okp.goO g1 ?_
    refine Okp.go (e_right W hb g2 hz) ?_
    rw [if_neg (by simp), Rs.ok_bind, then_nx, Rs.ok_bind, then_nx]
    exact Okp.ok ⟨_, .inl rfl, rfl, rfl, rfl, rfl, q5⟩
  obtain ⟨q1, q2, q3, q4, q5⟩ := hP
  rw [then_nx, q3, q4, Rs.bind_assoc]
  refine (e_growing R).step fun fl ⟨f1, f2⟩ => ?_
  have o1 : ∀ b : Bool, rOr (Rs.ok false) (Rs.ok b) = .ok b := fun b => by cases b <;> rfl
  have o2 : ∀ x : Rs Bool, rOr (Rs.ok false) x = x := fun x => rfl
  rw [o1, decide_eq_true (show (fl.length : Int) = (due.length : Int) by omega), Rs.bind_assoc, Rs.ok_bind, if_neg (by simp), Rs.ok_bind, then_nx]
  dsimp only
  rw [Rs.bind_assoc]
  refine Okp.goG (rgOk_of (by omega) (by omega)) rfl ?_
  rw [Rs.bind_assoc]
  refine Okp.for (fun s => s.2.2.2.2.1 = rows ∧ s.2.2.2.2.2.1 = due ∧ s.2.2.2.2.2.2.1 = (due.length : Int) ∧ s.2.2.2.2.2.2.2.1 = hd ∧ s.2.2.2.2.2.2.2.2.1 = hd ∧ s.2.2.2.2.2.2.2.2.2.2.2.1 = fl) ⟨q1, q2, rfl, rfl, q5, rfl⟩ (fun b hb s hP => ?_) (fun s hP => ?_)
  · obtain ⟨q1, q2, q3, q4, q5, q6⟩ := hP
    have hb := rangeL_mem'.mp hb
    rw [q2, q6]
    have e1 : L2.atI fl b = some (fl[b.toNat]'(by omega)) := by rw [atI_in hb.1 (by omega), List.getElem?_eq_getElem]
    obtain ⟨g, g1, g2⟩ := due_at b hb
    have e3 : fl[b.toNat]'(by omega) = g := by
      have h1 := f2 b.toNat (by omega)
      rw [gro] at h1
      rw [Bool.eq_iff_iff]
      exact h1.trans g2.symm
    rw [e1, g1, ofOpt_some, ofOpt_some, Rs.ok_bind, Rs.ok_bind, Rs.ok_bind, o1, decide_eq_true e3, Rs.ok_bind, if_neg (by simp), Rs.ok_bind, then_nx, Rs.ok_bind, then_nx]
    exact Okp.ok ⟨_, .inl rfl, q1, rfl, q3, q4, q5, rfl⟩
  obtain ⟨q1, q2, q3, q4, q5, q6⟩ := hP
  rw [then_nx, q5, Rs.bind_assoc]
  refine Okp.goG (a := hd) (decide_eq_true (small (by omega))) (by rw [lcM_tt (fun b : List Int × Int => (b.1, b.2))]; congr 1; exact List.map_id' hd) ?_
  rw [q3, Rs.bind_assoc]
  refine (e_all_growing R).step fun ag hag => ?_
  have nk : ∀ (l : List Int), l.length = due.length → (∀ v, v < due.length → 1 ≤ l.getD v 0) → m__law_ints (l, (due.length : Int), 1) = .ok true := fun l h1 h2 => by
    rw [e_ints, decide_eq_true (by omega), all_get.mpr fun v hv => h2 v (by omega)]
    rfl
  have dall : due.all id = true ↔ ∀ k, k < due.length → Grows (fun i v => en rows i v) rows.length due.length k := by
    rw [List.all_eq_true]
    constructor
    · intro h k hk
      exact (W.due k hk).mp (h _ (List.getElem_mem hk))
    · intro h x hx
      obtain ⟨k, hk, rfl⟩ := List.mem_iff_getElem.mp hx
      exact (W.due k hk).mpr (h k hk)
  rw [q2]
  rcases ag with _ | N
  case' none =>
    have hf : due.all id = false := by
      obtain ⟨v, hv, ng⟩ := hag
      cases e : due.all id with
      | false => rfl
      | true => exact absurd ((gro v).mpr (dall.mp e v hv)) ng
    rw [hf]
    simp only [Option.isNone_none, Option.isSome_none, Bool.not_false, o1, Rs.ok_bind]
    rw [show rOr (Rs.ok true) (Rs.ok true) = .ok true from rfl, Rs.ok_bind, if_pos rfl]
    simp only [Bool.false_eq_true, if_false, Rs.ok_bind, then_nx]
  case' some =>
    obtain ⟨g1, g2, g3, g4⟩ := hag
    have ht : due.all id = true := dall.mpr fun k hk => (gro k).mp (g4 k hk)
    rw [ht]
    simp only [Option.isNone_some, Bool.not_true, o1, Rs.ok_bind, ofOpt_some, Bool.false_eq_true, if_false]
    rw [nk N g1 g2, Rs.ok_bind, Bool.not_true, o2, q1]
    have dots : lcM (fun b => nox (lcT (Rs.ok true) (m__law_dotT (b, N)))) rows = .ok (rows.map fun b => dot b N) := lcM_map _ _ fun b hb => by
      have hb' := W.len b hb
      rw [e_dotT (by omega) (by omega) (.inl fun x hx => by have := W.sml b hb x hx; omega)]
      rfl
    rw [dots, Rs.guard_of (decide_eq_true (small (by omega))), Rs.ok_bind, Rs.guard_of (decide_eq_true (small (by rw [List.length_map]; show 1 + _ ≤ _; omega))), Rs.ok_bind]
    have h0 : List.foldl max 0 (rows.map fun b => dot b N) = 0 := max0.mpr ((all_dots W.len).mpr fun i hi => by
      have := g3 i (by omega)
      rwa [mat_pairs hd r1] at this)
    rw [show maxL ([0] ++ rows.map fun b => dot b N) = .ok 0 by rw [show ([0] ++ rows.map fun b => dot b N) = 0 :: rows.map fun b => dot b N from rfl, maxL_cons, h0], Rs.ok_bind]
    simp only [decide_true, Bool.not_true, Bool.false_eq_true, if_false, Rs.ok_bind, then_nx]
  all_goals
    rw [q4]
    obtain ⟨z0, hz0, _⟩ := goc 0 ⟨Int.le_refl 0, by omega⟩
    rw [hz0]
    simp only [decide_true, Bool.not_true, o2, Rs.ok_bind, Bool.false_eq_true, if_false, then_nx]
    rw [e_refused (goc_place hdl (by omega) (by omega) (.inr (Int.le_refl _)) (by omega)), e_refused (goc_place hdl (by omega) (by omega) (.inl (by decide)) (by decide))]
    have tb : decide (bT = ⟨PySem.Str.ofString "bad", w__law_refused._proof_2⟩) = true := decide_eq_true rfl
    simp only [tb, Bool.not_true, o2, Rs.ok_bind, Bool.false_eq_true, if_false, then_nx]
    have lg : rAnd (Rs.ok !decide (rows = [])) ((m__law_long (hd, (due.length : Int) + 1)).bind fun x => Rs.ok !decide (x = ⟨PySem.Str.ofString "bad", w__law_refused._proof_2⟩)) = .ok false := by
      by_cases e : rows = []
      · rw [decide_eq_true e]; rfl
      · have hne : ∃ q ∈ hd, (q.1.length : Int) ≠ (due.length : Int) + 1 := by
          match hhd : hd with
          | [] => exact absurd (by rw [← r1]; rfl) e
          | q :: l => exact ⟨q, List.mem_cons_self, by rw [hdl q List.mem_cons_self]; omega⟩
        rw [decide_eq_false e, e_long (gr_rows hne (by omega) (fun q hq => by rw [hdl q hq]; omega) (by omega)), Rs.ok_bind, tb]
        rfl
    try simp only [q1]
    rw [lg, Rs.ok_bind]
    simp only [Bool.false_eq_true, if_false, Rs.ok_bind, then_nx]
    rw [Rs.guard_of (rgOk_of (by omega) (by omega)), Rs.ok_bind, lcM_tt (fun _ => (1 : Int)), Rs.guard_of (decide_eq_true (small (by rw [rangeL_len]; omega))), Rs.ok_bind, Rs.guard_of (decide_eq_true (small (by show _ + 1 ≤ _; omega))), Rs.ok_bind]
    rw [e_refused (goc_rows ⟨_, List.mem_append_right _ List.mem_cons_self, by show ((((rangeL 0 ((due.length : Int) + 1)).map fun _ => (1 : Int)).length : Nat) : Int) ≠ _; rw [List.length_map, rangeL_len]; omega⟩ (by rw [List.length_append]; show _ + 1 ≤ _; omega) (fun q hq => by
      rcases List.mem_append.mp hq with hq | hq
      · rw [hdl q hq]; omega
      · rw [List.mem_singleton] at hq
        rw [hq]
        show ((rangeL 0 ((due.length : Int) + 1)).map fun _ => (1 : Int)).length ≤ 1000
        rw [List.length_map, rangeL_len]; omega) (by omega)), Rs.ok_bind, Rs.ok_bind, endM_rt, tb]
    exact Okp.ok rfl
end T30
namespace T30
open PySem PySem.Spec PyProof.Rows L2 TL
section
abbrev s_init_Refused : Stmt := (match topS 2 with | .ClassDef _ _ _ b .. => b | _ => []).getD 0 (.Pass ⟨0, 0, 0, 0⟩)
theorem sc_init_Refused : FnScope ["self", "why"] ["self", "why"] (defScope s_init_Refused) := ⟨rfl, rfl, rfl, by decide +kernel, rfl, by decide +kernel, by decide +kernel⟩
theorem all_mk {P : Program} {w : World} {K : PySem.W.Frag} {h : Heap} {mg : Str → Option Value} {fa : Addr} (ca : Nat → Addr) (X : K.In h) (G : h.Ns mainGlobals mg) (hfa : mg "law" = some (.ref fa))
    {f0 : Addr} {od0 an0 : Option Addr} {sl0 : Array (Option Value)} {oc0 kV0 dc0 pm0 cd0 ct0 : Value}
    (a0 : PySem.W.nsIn K mainGlobals "whole_from" = some (some (.ref f0))) (l0 : K.lookup f0 = some ⟨oc0, od0, .func (PySem.W.fnOf "whole_from" "whole_from" (defArgs s_whole_from) (defBody s_whole_from) (defScope s_whole_from) .none kV0 dc0 pm0 an0 cd0 ct0), sl0⟩) (q0 : PySem.W.codeIn K cd0 "whole_from" = true) (k0 : PySem.W.keepIn K (.ref f0) = true)
    {f1 : Addr} {od1 an1 : Option Addr} {sl1 : Array (Option Value)} {oc1 kV1 dc1 pm1 cd1 ct1 : Value}
    (a1 : PySem.W.nsIn K mainGlobals "sum_length" = some (some (.ref f1))) (l1 : K.lookup f1 = some ⟨oc1, od1, .func (PySem.W.fnOf "sum_length" "sum_length" (defArgs s_sum_length) (defBody s_sum_length) (defScope s_sum_length) .none kV1 dc1 pm1 an1 cd1 ct1), sl1⟩) (q1 : PySem.W.codeIn K cd1 "sum_length" = true) (k1 : PySem.W.keepIn K (.ref f1) = true)
    {f2 : Addr} {od2 an2 : Option Addr} {sl2 : Array (Option Value)} {oc2 kV2 dc2 pm2 cd2 ct2 : Value}
    (a2 : PySem.W.nsIn K mainGlobals "sum_place" = some (some (.ref f2))) (l2 : K.lookup f2 = some ⟨oc2, od2, .func (PySem.W.fnOf "sum_place" "sum_place" (defArgs s_sum_place) (defBody s_sum_place) (defScope s_sum_place) .none kV2 dc2 pm2 an2 cd2 ct2), sl2⟩) (q2 : PySem.W.codeIn K cd2 "sum_place" = true) (k2 : PySem.W.keepIn K (.ref f2) = true)
    {f3 : Addr} {od3 an3 : Option Addr} {sl3 : Array (Option Value)} {oc3 kV3 dc3 pm3 cd3 ct3 : Value}
    (a3 : PySem.W.nsIn K mainGlobals "sum_rows" = some (some (.ref f3))) (l3 : K.lookup f3 = some ⟨oc3, od3, .func (PySem.W.fnOf "sum_rows" "sum_rows" (defArgs s_sum_rows) (defBody s_sum_rows) (defScope s_sum_rows) .none kV3 dc3 pm3 an3 cd3 ct3), sl3⟩) (q3 : PySem.W.codeIn K cd3 "sum_rows" = true) (k3 : PySem.W.keepIn K (.ref f3) = true)
    {f4 : Addr} {od4 an4 : Option Addr} {sl4 : Array (Option Value)} {oc4 kV4 dc4 pm4 cd4 ct4 : Value}
    (a4 : PySem.W.nsIn K mainGlobals "lessened" = some (some (.ref f4))) (l4 : K.lookup f4 = some ⟨oc4, od4, .func (PySem.W.fnOf "lessened" "lessened" (defArgs s_lessened) (defBody s_lessened) (defScope s_lessened) .none kV4 dc4 pm4 an4 cd4 ct4), sl4⟩) (q4 : PySem.W.codeIn K cd4 "lessened" = true) (k4 : PySem.W.keepIn K (.ref f4) = true)
    {f5 : Addr} {od5 an5 : Option Addr} {sl5 : Array (Option Value)} {oc5 kV5 dc5 pm5 cd5 ct5 : Value}
    (a5 : PySem.W.nsIn K mainGlobals "grow_turn" = some (some (.ref f5))) (l5 : K.lookup f5 = some ⟨oc5, od5, .func (PySem.W.fnOf "grow_turn" "grow_turn" (defArgs s_grow_turn) (defBody s_grow_turn) (defScope s_grow_turn) .none kV5 dc5 pm5 an5 cd5 ct5), sl5⟩) (q5 : PySem.W.codeIn K cd5 "grow_turn" = true) (k5 : PySem.W.keepIn K (.ref f5) = true)
    {f6 : Addr} {od6 an6 : Option Addr} {sl6 : Array (Option Value)} {oc6 kV6 dc6 pm6 cd6 ct6 : Value}
    (a6 : PySem.W.nsIn K mainGlobals "grow_weights" = some (some (.ref f6))) (l6 : K.lookup f6 = some ⟨oc6, od6, .func (PySem.W.fnOf "grow_weights" "grow_weights" (defArgs s_grow_weights) (defBody s_grow_weights) (defScope s_grow_weights) .none kV6 dc6 pm6 an6 cd6 ct6), sl6⟩) (q6 : PySem.W.codeIn K cd6 "grow_weights" = true) (k6 : PySem.W.keepIn K (.ref f6) = true)
    {f7 : Addr} {od7 an7 : Option Addr} {sl7 : Array (Option Value)} {oc7 kV7 dc7 pm7 cd7 ct7 : Value}
    (a7 : PySem.W.nsIn K mainGlobals "grow_numbers" = some (some (.ref f7))) (l7 : K.lookup f7 = some ⟨oc7, od7, .func (PySem.W.fnOf "grow_numbers" "grow_numbers" (defArgs s_grow_numbers) (defBody s_grow_numbers) (defScope s_grow_numbers) .none kV7 dc7 pm7 an7 cd7 ct7), sl7⟩) (q7 : PySem.W.codeIn K cd7 "grow_numbers" = true) (k7 : PySem.W.keepIn K (.ref f7) = true)
    {f8 : Addr} {od8 an8 : Option Addr} {sl8 : Array (Option Value)} {oc8 kV8 dc8 pm8 cd8 ct8 : Value}
    (a8 : PySem.W.nsIn K mainGlobals "grow_towards" = some (some (.ref f8))) (l8 : K.lookup f8 = some ⟨oc8, od8, .func (PySem.W.fnOf "grow_towards" "grow_towards" (defArgs s_grow_towards) (defBody s_grow_towards) (defScope s_grow_towards) .none kV8 dc8 pm8 an8 cd8 ct8), sl8⟩) (q8 : PySem.W.codeIn K cd8 "grow_towards" = true) (k8 : PySem.W.keepIn K (.ref f8) = true)
    {f9 : Addr} {od9 an9 : Option Addr} {sl9 : Array (Option Value)} {oc9 kV9 dc9 pm9 cd9 ct9 : Value}
    (a9 : PySem.W.nsIn K mainGlobals "grow_unit" = some (some (.ref f9))) (l9 : K.lookup f9 = some ⟨oc9, od9, .func (PySem.W.fnOf "grow_unit" "grow_unit" (defArgs s_grow_unit) (defBody s_grow_unit) (defScope s_grow_unit) .none kV9 dc9 pm9 an9 cd9 ct9), sl9⟩) (q9 : PySem.W.codeIn K cd9 "grow_unit" = true) (k9 : PySem.W.keepIn K (.ref f9) = true)
    {f10 : Addr} {od10 an10 : Option Addr} {sl10 : Array (Option Value)} {oc10 kV10 dc10 pm10 cd10 ct10 : Value}
    (a10 : PySem.W.nsIn K mainGlobals "grow_sum" = some (some (.ref f10))) (l10 : K.lookup f10 = some ⟨oc10, od10, .func (PySem.W.fnOf "grow_sum" "grow_sum" (defArgs s_grow_sum) (defBody s_grow_sum) (defScope s_grow_sum) .none kV10 dc10 pm10 an10 cd10 ct10), sl10⟩) (q10 : PySem.W.codeIn K cd10 "grow_sum" = true) (k10 : PySem.W.keepIn K (.ref f10) = true)
    {f11 : Addr} {od11 an11 : Option Addr} {sl11 : Array (Option Value)} {oc11 kV11 dc11 pm11 cd11 ct11 : Value}
    (a11 : PySem.W.nsIn K mainGlobals "grow_or_cap" = some (some (.ref f11))) (l11 : K.lookup f11 = some ⟨oc11, od11, .func (PySem.W.fnOf "grow_or_cap" "grow_or_cap" (defArgs s_grow_or_cap) (defBody s_grow_or_cap) (defScope s_grow_or_cap) .none kV11 dc11 pm11 an11 cd11 ct11), sl11⟩) (q11 : PySem.W.codeIn K cd11 "grow_or_cap" = true) (k11 : PySem.W.keepIn K (.ref f11) = true)
    {f12 : Addr} {od12 an12 : Option Addr} {sl12 : Array (Option Value)} {oc12 kV12 dc12 pm12 cd12 ct12 : Value}
    (a12 : PySem.W.nsIn K mainGlobals "growing" = some (some (.ref f12))) (l12 : K.lookup f12 = some ⟨oc12, od12, .func (PySem.W.fnOf "growing" "growing" (defArgs s_growing) (defBody s_growing) (defScope s_growing) .none kV12 dc12 pm12 an12 cd12 ct12), sl12⟩) (q12 : PySem.W.codeIn K cd12 "growing" = true) (k12 : PySem.W.keepIn K (.ref f12) = true)
    {f13 : Addr} {od13 an13 : Option Addr} {sl13 : Array (Option Value)} {oc13 kV13 dc13 pm13 cd13 ct13 : Value}
    (a13 : PySem.W.nsIn K mainGlobals "all_growing" = some (some (.ref f13))) (l13 : K.lookup f13 = some ⟨oc13, od13, .func (PySem.W.fnOf "all_growing" "all_growing" (defArgs s_all_growing) (defBody s_all_growing) (defScope s_all_growing) .none kV13 dc13 pm13 an13 cd13 ct13), sl13⟩) (q13 : PySem.W.codeIn K cd13 "all_growing" = true) (k13 : PySem.W.keepIn K (.ref f13) = true)
    {f14 : Addr} {od14 an14 : Option Addr} {sl14 : Array (Option Value)} {oc14 kV14 dc14 pm14 cd14 ct14 : Value}
    (a14 : PySem.W.nsIn K mainGlobals "_law_pool" = some (some (.ref f14))) (l14 : K.lookup f14 = some ⟨oc14, od14, .func (PySem.W.fnOf "_law_pool" "_law_pool" (defArgs s__law_pool) (defBody s__law_pool) (defScope s__law_pool) .none kV14 dc14 pm14 an14 cd14 ct14), sl14⟩) (q14 : PySem.W.codeIn K cd14 "_law_pool" = true) (k14 : PySem.W.keepIn K (.ref f14) = true)
    {f15 : Addr} {od15 an15 : Option Addr} {sl15 : Array (Option Value)} {oc15 kV15 dc15 pm15 cd15 ct15 : Value}
    (a15 : PySem.W.nsIn K mainGlobals "_law_mixed" = some (some (.ref f15))) (l15 : K.lookup f15 = some ⟨oc15, od15, .func (PySem.W.fnOf "_law_mixed" "_law_mixed" (defArgs s__law_mixed) (defBody s__law_mixed) (defScope s__law_mixed) .none kV15 dc15 pm15 an15 cd15 ct15), sl15⟩) (q15 : PySem.W.codeIn K cd15 "_law_mixed" = true) (k15 : PySem.W.keepIn K (.ref f15) = true)
    {f16 : Addr} {od16 an16 : Option Addr} {sl16 : Array (Option Value)} {oc16 kV16 dc16 pm16 cd16 ct16 : Value}
    (a16 : PySem.W.nsIn K mainGlobals "_law_draw" = some (some (.ref f16))) (l16 : K.lookup f16 = some ⟨oc16, od16, .func (PySem.W.fnOf "_law_draw" "_law_draw" (defArgs s__law_draw) (defBody s__law_draw) (defScope s__law_draw) .none kV16 dc16 pm16 an16 cd16 ct16), sl16⟩) (q16 : PySem.W.codeIn K cd16 "_law_draw" = true) (k16 : PySem.W.keepIn K (.ref f16) = true)
    {f17 : Addr} {od17 an17 : Option Addr} {sl17 : Array (Option Value)} {oc17 kV17 dc17 pm17 cd17 ct17 : Value}
    (a17 : PySem.W.nsIn K mainGlobals "_law_dot" = some (some (.ref f17))) (l17 : K.lookup f17 = some ⟨oc17, od17, .func (PySem.W.fnOf "_law_dot" "_law_dot" (defArgs s__law_dot) (defBody s__law_dot) (defScope s__law_dot) .none kV17 dc17 pm17 an17 cd17 ct17), sl17⟩) (q17 : PySem.W.codeIn K cd17 "_law_dot" = true) (k17 : PySem.W.keepIn K (.ref f17) = true)
    {f18 : Addr} {od18 an18 : Option Addr} {sl18 : Array (Option Value)} {oc18 kV18 dc18 pm18 cd18 ct18 : Value}
    (a18 : PySem.W.nsIn K mainGlobals "_law_cross" = some (some (.ref f18))) (l18 : K.lookup f18 = some ⟨oc18, od18, .func (PySem.W.fnOf "_law_cross" "_law_cross" (defArgs s__law_cross) (defBody s__law_cross) (defScope s__law_cross) .none kV18 dc18 pm18 an18 cd18 ct18), sl18⟩) (q18 : PySem.W.codeIn K cd18 "_law_cross" = true) (k18 : PySem.W.keepIn K (.ref f18) = true)
    {f19 : Addr} {od19 an19 : Option Addr} {sl19 : Array (Option Value)} {oc19 kV19 dc19 pm19 cd19 ct19 : Value}
    (a19 : PySem.W.nsIn K mainGlobals "_law_rays" = some (some (.ref f19))) (l19 : K.lookup f19 = some ⟨oc19, od19, .func (PySem.W.fnOf "_law_rays" "_law_rays" (defArgs s__law_rays) (defBody s__law_rays) (defScope s__law_rays) .none kV19 dc19 pm19 an19 cd19 ct19), sl19⟩) (q19 : PySem.W.codeIn K cd19 "_law_rays" = true) (k19 : PySem.W.keepIn K (.ref f19) = true)
    {f20 : Addr} {od20 an20 : Option Addr} {sl20 : Array (Option Value)} {oc20 kV20 dc20 pm20 cd20 ct20 : Value}
    (a20 : PySem.W.nsIn K mainGlobals "_law_number" = some (some (.ref f20))) (l20 : K.lookup f20 = some ⟨oc20, od20, .func (PySem.W.fnOf "_law_number" "_law_number" (defArgs s__law_number) (defBody s__law_number) (defScope s__law_number) .none kV20 dc20 pm20 an20 cd20 ct20), sl20⟩) (q20 : PySem.W.codeIn K cd20 "_law_number" = true) (k20 : PySem.W.keepIn K (.ref f20) = true)
    {f21 : Addr} {od21 an21 : Option Addr} {sl21 : Array (Option Value)} {oc21 kV21 dc21 pm21 cd21 ct21 : Value}
    (a21 : PySem.W.nsIn K mainGlobals "_law_drawn" = some (some (.ref f21))) (l21 : K.lookup f21 = some ⟨oc21, od21, .func (PySem.W.fnOf "_law_drawn" "_law_drawn" (defArgs s__law_drawn) (defBody s__law_drawn) (defScope s__law_drawn) .none kV21 dc21 pm21 an21 cd21 ct21), sl21⟩) (q21 : PySem.W.codeIn K cd21 "_law_drawn" = true) (k21 : PySem.W.keepIn K (.ref f21) = true)
    {f22 : Addr} {od22 an22 : Option Addr} {sl22 : Array (Option Value)} {oc22 kV22 dc22 pm22 cd22 ct22 : Value}
    (a22 : PySem.W.nsIn K mainGlobals "_law_ring" = some (some (.ref f22))) (l22 : K.lookup f22 = some ⟨oc22, od22, .func (PySem.W.fnOf "_law_ring" "_law_ring" (defArgs s__law_ring) (defBody s__law_ring) (defScope s__law_ring) .none kV22 dc22 pm22 an22 cd22 ct22), sl22⟩) (q22 : PySem.W.codeIn K cd22 "_law_ring" = true) (k22 : PySem.W.keepIn K (.ref f22) = true)
    {f23 : Addr} {od23 an23 : Option Addr} {sl23 : Array (Option Value)} {oc23 kV23 dc23 pm23 cd23 ct23 : Value}
    (a23 : PySem.W.nsIn K mainGlobals "_law_ints" = some (some (.ref f23))) (l23 : K.lookup f23 = some ⟨oc23, od23, .func (PySem.W.fnOf "_law_ints" "_law_ints" (defArgs s__law_ints) (defBody s__law_ints) (defScope s__law_ints) .none kV23 dc23 pm23 an23 cd23 ct23), sl23⟩) (q23 : PySem.W.codeIn K cd23 "_law_ints" = true) (k23 : PySem.W.keepIn K (.ref f23) = true)
    {f24 : Addr} {od24 an24 : Option Addr} {sl24 : Array (Option Value)} {oc24 kV24 dc24 pm24 cd24 ct24 : Value}
    (a24 : PySem.W.nsIn K mainGlobals "_law_right" = some (some (.ref f24))) (l24 : K.lookup f24 = some ⟨oc24, od24, .func (PySem.W.fnOf "_law_right" "_law_right" (defArgs s__law_right) (defBody s__law_right) (defScope s__law_right) .none kV24 dc24 pm24 an24 cd24 ct24), sl24⟩) (q24 : PySem.W.codeIn K cd24 "_law_right" = true) (k24 : PySem.W.keepIn K (.ref f24) = true)
    {f25 : Addr} {od25 an25 : Option Addr} {sl25 : Array (Option Value)} {oc25 kV25 dc25 pm25 cd25 ct25 : Value}
    (a25 : PySem.W.nsIn K mainGlobals "_law_refused" = some (some (.ref f25))) (l25 : K.lookup f25 = some ⟨oc25, od25, .func (PySem.W.fnOf "_law_refused" "_law_refused" (defArgs s__law_refused) (defBody s__law_refused) (defScope s__law_refused) .none kV25 dc25 pm25 an25 cd25 ct25), sl25⟩) (q25 : PySem.W.codeIn K cd25 "_law_refused" = true) (k25 : PySem.W.keepIn K (.ref f25) = true)
    {f26 : Addr} {od26 an26 : Option Addr} {sl26 : Array (Option Value)} {oc26 kV26 dc26 pm26 cd26 ct26 : Value}
    (a26 : PySem.W.nsIn K mainGlobals "_law_long" = some (some (.ref f26))) (l26 : K.lookup f26 = some ⟨oc26, od26, .func (PySem.W.fnOf "_law_long" "_law_long" (defArgs s__law_long) (defBody s__law_long) (defScope s__law_long) .none kV26 dc26 pm26 an26 cd26 ct26), sl26⟩) (q26 : PySem.W.codeIn K cd26 "_law_long" = true) (k26 : PySem.W.keepIn K (.ref f26) = true)
    {f27 : Addr} {od27 an27 : Option Addr} {sl27 : Array (Option Value)} {oc27 kV27 dc27 pm27 cd27 ct27 : Value}
    (a27 : PySem.W.nsIn K mainGlobals "law" = some (some (.ref f27))) (l27 : K.lookup f27 = some ⟨oc27, od27, .func (PySem.W.fnOf "law" "law" (defArgs s_law) (defBody s_law) (defScope s_law) .none kV27 dc27 pm27 an27 cd27 ct27), sl27⟩) (q27 : PySem.W.codeIn K cd27 "law" = true) (k27 : PySem.W.keepIn K (.ref f27) = true)
    (z0 : PySem.W.nsIn K mainGlobals "isinstance" = some none)
    (z1 : PySem.W.nsIn K mainGlobals "int" = some none)
    (z2 : PySem.W.nsIn K mainGlobals "bool" = some none)
    (z3 : PySem.W.nsIn K mainGlobals "len" = some none)
    (z4 : PySem.W.nsIn K mainGlobals "tuple" = some none)
    (z5 : PySem.W.nsIn K mainGlobals "list" = some none)
    (z6 : PySem.W.nsIn K mainGlobals "enumerate" = some none)
    (z7 : PySem.W.nsIn K mainGlobals "zip" = some none)
    (z8 : PySem.W.nsIn K mainGlobals "range" = some none)
    (z9 : PySem.W.nsIn K mainGlobals "min" = some none)
    (z10 : PySem.W.nsIn K mainGlobals "max" = some none)
    (z11 : PySem.W.nsIn K mainGlobals "abs" = some none)
    (z12 : PySem.W.nsIn K mainGlobals "all" = some none)
    (gg0 : PySem.W.nsIn K mainGlobals "gcd" = some (some (.builtin "math.gcd")))
    {jf0 : Addr} {jd0 ja0 : Option Addr} {jsl0 : Array (Option Value)} {jc0 jV0 jdc0 jpm0 jcd0 jct0 : Value}
    {C0 : Addr} (xa0 : PySem.W.nsIn K mainGlobals "Refused" = some (some (.ref C0))) (xb0 : TLE.excE K C0 = true) (xc0 : PySem.W.findIn K (.ref C0) "__setattr__" = some (some (.builtin "object.__setattr__"))) (xd0 : PySem.W.subIn K (.ref C0) (.type "BaseException") = some true) (xe0 : PySem.W.typeIn K (.ref C0) = some (.type "type")) (xf0 : PySem.W.keepIn K (.ref C0) = true) (xg0 : PySem.W.findIn K (.ref C0) "why" = some none) (xh0 : PySem.W.findIn K (.ref C0) "__init__" = some (some (.ref jf0)))
    {C1 : Addr} (xa1 : PySem.W.nsIn K mainGlobals "BadTable" = some (some (.ref C1))) (xb1 : TLE.excE K C1 = true) (xc1 : PySem.W.findIn K (.ref C1) "__setattr__" = some (some (.builtin "object.__setattr__"))) (xd1 : PySem.W.subIn K (.ref C1) (.type "BaseException") = some true) (xe1 : PySem.W.typeIn K (.ref C1) = some (.type "type")) (xf1 : PySem.W.keepIn K (.ref C1) = true) (xg1 : PySem.W.findIn K (.ref C1) "why" = some none) (xh1 : PySem.W.findIn K (.ref C1) "__init__" = some (some (.ref jf0)))
    (ya0 : PySem.W.typeIn K (.ref jf0) = some (.type "function")) (yb0 : K.lookup jf0 = some ⟨jc0, jd0, .func (PySem.W.fnOf "__init__" "Refused.__init__" (defArgs s_init_Refused) (defBody s_init_Refused) (defScope s_init_Refused) .none jV0 jdc0 jpm0 ja0 jcd0 jct0), jsl0⟩) (yc0 : PySem.W.codeIn K jcd0 "Refused.__init__" = true) (yd0 : PySem.W.keepIn K (.ref jf0) = true) (t0_0 : PySem.W.exmOne K (.ref C0) (.ref C0) = some true) (t0_1 : PySem.W.exmOne K (.ref C0) (.ref C1) = some false) (t1_0 : PySem.W.exmOne K (.ref C1) (.ref C0) = some true) (t1_1 : PySem.W.exmOne K (.ref C1) (.ref C1) = some true) :
    ∃ fd : FuncData, (∀ (s : Shared) (v : Value), BindsTo s fd ⟨[v], []⟩ [("script", v)]) ∧ ∀ base : Heap, K.In base → base.Ns mainGlobals mg → FnOk P w K mg base (L2.CX P w) 7 fa fd ["script"] (spOf K ca (.one (tF tI)) tB (fun u => nox (m_law u))) := by
  have e := hfa.symm.trans (PySem.W.mg_of X G a27)
  cases e
  have T0 : TopFn K mg "whole_from" s_whole_from ["number", "least"] f0 _ := ⟨fun_mk (st := s_whole_from) l0 q0 k0, PySem.W.mg_of X G a0, (fun_mk (st := s_whole_from) l0 q0 k0).binds (ps := ["number", "least"]) fun _ _ _ _ _ _ us hl => match us, hl with | [_, _], _ => rfl⟩
  have T1 : TopFn K mg "sum_length" s_sum_length ["row", "length", "what"] f1 _ := ⟨fun_mk (st := s_sum_length) l1 q1 k1, PySem.W.mg_of X G a1, (fun_mk (st := s_sum_length) l1 q1 k1).binds (ps := ["row", "length", "what"]) fun _ _ _ _ _ _ us hl => match us, hl with | [_, _, _], _ => rfl⟩
  have T2 : TopFn K mg "sum_place" s_sum_place ["place", "length"] f2 _ := ⟨fun_mk (st := s_sum_place) l2 q2 k2, PySem.W.mg_of X G a2, (fun_mk (st := s_sum_place) l2 q2 k2).binds (ps := ["place", "length"]) fun _ _ _ _ _ _ us hl => match us, hl with | [_, _], _ => rfl⟩
  have T3 : TopFn K mg "sum_rows" s_sum_rows ["rows", "length"] f3 _ := ⟨fun_mk (st := s_sum_rows) l3 q3 k3, PySem.W.mg_of X G a3, (fun_mk (st := s_sum_rows) l3 q3 k3).binds (ps := ["rows", "length"]) fun _ _ _ _ _ _ us hl => match us, hl with | [_, _], _ => rfl⟩
  have T4 : TopFn K mg "lessened" s_lessened ["numbers"] f4 _ := ⟨fun_mk (st := s_lessened) l4 q4 k4, PySem.W.mg_of X G a4, (fun_mk (st := s_lessened) l4 q4 k4).binds (ps := ["numbers"]) fun _ _ _ _ _ _ us hl => match us, hl with | [_], _ => rfl⟩
  have T5 : TopFn K mg "grow_turn" s_grow_turn ["tableau", "at", "place", "below"] f5 _ := ⟨fun_mk (st := s_grow_turn) l5 q5 k5, PySem.W.mg_of X G a5, (fun_mk (st := s_grow_turn) l5 q5 k5).binds (ps := ["tableau", "at", "place", "below"]) fun _ _ _ _ _ _ us hl => match us, hl with | [_, _, _, _], _ => rfl⟩
  have T6 : TopFn K mg "grow_weights" s_grow_weights ["last", "across", "length", "many"] f6 _ := ⟨fun_mk (st := s_grow_weights) l6 q6 k6, PySem.W.mg_of X G a6, (fun_mk (st := s_grow_weights) l6 q6 k6).binds (ps := ["last", "across", "length", "many"]) fun _ _ _ _ _ _ us hl => match us, hl with | [_, _, _, _], _ => rfl⟩
  have T7 : TopFn K mg "grow_numbers" s_grow_numbers ["tableau", "across", "down", "place", "below"] f7 _ := ⟨fun_mk (st := s_grow_numbers) l7 q7 k7, PySem.W.mg_of X G a7, (fun_mk (st := s_grow_numbers) l7 q7 k7).binds (ps := ["tableau", "across", "down", "place", "below"]) fun _ _ _ _ _ _ us hl => match us, hl with | [_, _, _, _, _], _ => rfl⟩
  have T8 : TopFn K mg "grow_towards" s_grow_towards ["matrix", "length", "goal"] f8 _ := ⟨fun_mk (st := s_grow_towards) l8 q8 k8, PySem.W.mg_of X G a8, (fun_mk (st := s_grow_towards) l8 q8 k8).binds (ps := ["matrix", "length", "goal"]) fun _ _ _ _ _ _ us hl => match us, hl with | [_, _, _], _ => rfl⟩
  have T9 : TopFn K mg "grow_unit" s_grow_unit ["length", "place"] f9 _ := ⟨fun_mk (st := s_grow_unit) l9 q9 k9, PySem.W.mg_of X G a9, (fun_mk (st := s_grow_unit) l9 q9 k9).binds (ps := ["length", "place"]) fun _ _ _ _ _ _ us hl => match us, hl with | [_, _], _ => rfl⟩
  have T10 : TopFn K mg "grow_sum" s_grow_sum ["told", "length"] f10 _ := ⟨fun_mk (st := s_grow_sum) l10 q10 k10, PySem.W.mg_of X G a10, (fun_mk (st := s_grow_sum) l10 q10 k10).binds (ps := ["told", "length"]) fun _ _ _ _ _ _ us hl => match us, hl with | [_, _], _ => rfl⟩
  have T11 : TopFn K mg "grow_or_cap" s_grow_or_cap ["rows", "length", "place"] f11 _ := ⟨fun_mk (st := s_grow_or_cap) l11 q11 k11, PySem.W.mg_of X G a11, (fun_mk (st := s_grow_or_cap) l11 q11 k11).binds (ps := ["rows", "length", "place"]) fun _ _ _ _ _ _ us hl => match us, hl with | [_, _, _], _ => rfl⟩
  have T12 : TopFn K mg "growing" s_growing ["rows", "length"] f12 _ := ⟨fun_mk (st := s_growing) l12 q12 k12, PySem.W.mg_of X G a12, (fun_mk (st := s_growing) l12 q12 k12).binds (ps := ["rows", "length"]) fun _ _ _ _ _ _ us hl => match us, hl with | [_, _], _ => rfl⟩
  have T13 : TopFn K mg "all_growing" s_all_growing ["rows", "length"] f13 _ := ⟨fun_mk (st := s_all_growing) l13 q13 k13, PySem.W.mg_of X G a13, (fun_mk (st := s_all_growing) l13 q13 k13).binds (ps := ["rows", "length"]) fun _ _ _ _ _ _ us hl => match us, hl with | [_, _], _ => rfl⟩
  have T14 : TopFn K mg "_law_pool" s__law_pool ["script"] f14 _ := ⟨fun_mk (st := s__law_pool) l14 q14 k14, PySem.W.mg_of X G a14, (fun_mk (st := s__law_pool) l14 q14 k14).binds (ps := ["script"]) fun _ _ _ _ _ _ us hl => match us, hl with | [_], _ => rfl⟩
  have T15 : TopFn K mg "_law_mixed" s__law_mixed ["number", "place"] f15 _ := ⟨fun_mk (st := s__law_mixed) l15 q15 k15, PySem.W.mg_of X G a15, (fun_mk (st := s__law_mixed) l15 q15 k15).binds (ps := ["number", "place"]) fun _ _ _ _ _ _ us hl => match us, hl with | [_, _], _ => rfl⟩
  have T16 : TopFn K mg "_law_draw" s__law_draw ["pool", "base"] f16 _ := ⟨fun_mk (st := s__law_draw) l16 q16 k16, PySem.W.mg_of X G a16, (fun_mk (st := s__law_draw) l16 q16 k16).binds (ps := ["pool", "base"]) fun _ _ _ _ _ _ us hl => match us, hl with | [_, _], _ => rfl⟩
  have T17 : TopFn K mg "_law_dot" s__law_dot ["one", "two"] f17 _ := ⟨fun_mk (st := s__law_dot) l17 q17 k17, PySem.W.mg_of X G a17, (fun_mk (st := s__law_dot) l17 q17 k17).binds (ps := ["one", "two"]) fun _ _ _ _ _ _ us hl => match us, hl with | [_, _], _ => rfl⟩
  have T18 : TopFn K mg "_law_cross" s__law_cross ["one", "two"] f18 _ := ⟨fun_mk (st := s__law_cross) l18 q18 k18, PySem.W.mg_of X G a18, (fun_mk (st := s__law_cross) l18 q18 k18).binds (ps := ["one", "two"]) fun _ _ _ _ _ _ us hl => match us, hl with | [_, _], _ => rfl⟩
  have T19 : TopFn K mg "_law_rays" s__law_rays ["rows"] f19 _ := ⟨fun_mk (st := s__law_rays) l19 q19 k19, PySem.W.mg_of X G a19, (fun_mk (st := s__law_rays) l19 q19 k19).binds (ps := ["rows"]) fun _ _ _ _ _ _ us hl => match us, hl with | [_], _ => rfl⟩
  have T20 : TopFn K mg "_law_number" s__law_number ["pool", "most"] f20 _ := ⟨fun_mk (st := s__law_number) l20 q20 k20, PySem.W.mg_of X G a20, (fun_mk (st := s__law_number) l20 q20 k20).binds (ps := ["pool", "most"]) fun _ _ _ _ _ _ us hl => match us, hl with | [_, _], _ => rfl⟩
  have T21 : TopFn K mg "_law_drawn" s__law_drawn ["pool", "turned"] f21 _ := ⟨fun_mk (st := s__law_drawn) l21 q21 k21, PySem.W.mg_of X G a21, (fun_mk (st := s__law_drawn) l21 q21 k21).binds (ps := ["pool", "turned"]) fun _ _ _ _ _ _ us hl => match us, hl with | [_, _], _ => rfl⟩
  have T22 : TopFn K mg "_law_ring" s__law_ring ["pool"] f22 _ := ⟨fun_mk (st := s__law_ring) l22 q22 k22, PySem.W.mg_of X G a22, (fun_mk (st := s__law_ring) l22 q22 k22).binds (ps := ["pool"]) fun _ _ _ _ _ _ us hl => match us, hl with | [_], _ => rfl⟩
  have T23 : TopFn K mg "_law_ints" s__law_ints ["told", "length", "least"] f23 _ := ⟨fun_mk (st := s__law_ints) l23 q23 k23, PySem.W.mg_of X G a23, (fun_mk (st := s__law_ints) l23 q23 k23).binds (ps := ["told", "length", "least"]) fun _ _ _ _ _ _ us hl => match us, hl with | [_, _, _], _ => rfl⟩
  have T24 : TopFn K mg "_law_right" s__law_right ["rows", "length", "place", "told", "grows"] f24 _ := ⟨fun_mk (st := s__law_right) l24 q24 k24, PySem.W.mg_of X G a24, (fun_mk (st := s__law_right) l24 q24 k24).binds (ps := ["rows", "length", "place", "told", "grows"]) fun _ _ _ _ _ _ us hl => match us, hl with | [_, _, _, _, _], _ => rfl⟩
  have T25 : TopFn K mg "_law_refused" s__law_refused ["rows", "length", "place"] f25 _ := ⟨fun_mk (st := s__law_refused) l25 q25 k25, PySem.W.mg_of X G a25, (fun_mk (st := s__law_refused) l25 q25 k25).binds (ps := ["rows", "length", "place"]) fun _ _ _ _ _ _ us hl => match us, hl with | [_, _, _], _ => rfl⟩
  have T26 : TopFn K mg "_law_long" s__law_long ["rows", "length"] f26 _ := ⟨fun_mk (st := s__law_long) l26 q26 k26, PySem.W.mg_of X G a26, (fun_mk (st := s__law_long) l26 q26 k26).binds (ps := ["rows", "length"]) fun _ _ _ _ _ _ us hl => match us, hl with | [_, _], _ => rfl⟩
  have T27 : TopFn K mg "law" s_law ["script"] fa _ := ⟨fun_mk (st := s_law) l27 q27 k27, PySem.W.mg_of X G a27, (fun_mk (st := s_law) l27 q27 k27).binds (ps := ["script"]) fun _ _ _ _ _ _ us hl => match us, hl with | [_], _ => rfl⟩
  have n_isinstance : mg "isinstance" = none := PySem.W.mg_none_of X G z0
  have n_int : mg "int" = none := PySem.W.mg_none_of X G z1
  have n_bool : mg "bool" = none := PySem.W.mg_none_of X G z2
  have n_len : mg "len" = none := PySem.W.mg_none_of X G z3
  have n_tuple : mg "tuple" = none := PySem.W.mg_none_of X G z4
  have n_list : mg "list" = none := PySem.W.mg_none_of X G z5
  have n_enumerate : mg "enumerate" = none := PySem.W.mg_none_of X G z6
  have n_zip : mg "zip" = none := PySem.W.mg_none_of X G z7
  have n_range : mg "range" = none := PySem.W.mg_none_of X G z8
  have n_min : mg "min" = none := PySem.W.mg_none_of X G z9
  have n_max : mg "max" = none := PySem.W.mg_none_of X G z10
  have n_abs : mg "abs" = none := PySem.W.mg_none_of X G z11
  have n_all : mg "all" = none := PySem.W.mg_none_of X G z12
  have u_gcd : mg "gcd" = some (.builtin "math.gcd") := PySem.W.mg_of X G gg0
  refine ⟨PySem.W.fnOf "law" "law" (defArgs s_law) (defBody s_law) (defScope s_law) .none kV27 dc27 pm27 an27 cd27 ct27, fun s v => .of_eq rfl, fun base _ _ => ?_⟩
  have J0 : Fun K "__init__" "Refused.__init__" s_init_Refused jf0 _ := fun_mk (st := s_init_Refused) yb0 yc0 yd0
  have W0 := fn_why (P := P) (w := w) (K := K) (mg := mg) (base := base) (y := "why") J0 sc_init_Refused rfl (vb rfl) (vb rfl)
  have B0 : Binds K _ ["self", "why"] [] := J0.binds (ps := ["self", "why"]) fun _ _ _ _ _ _ us hl => match us, hl with | [_, _], _ => rfl
  have X_Refused : ExcN P w K mg base (fun c => ([C0, C1] : List Addr).getD c 0) 0 "Refused" := ⟨PySem.W.mg_of X G xa0, ⟨xb0, xc0, xd0, xe0, xf0⟩, "why", jf0, _, W0, xg0, xh0, ya0, B0⟩
  have X_BadTable : ExcN P w K mg base (fun c => ([C0, C1] : List Addr).getD c 0) 1 "BadTable" := ⟨PySem.W.mg_of X G xa1, ⟨xb1, xc1, xd1, xe1, xf1⟩, "why", jf0, _, W0, xg1, xh1, ya0, B0⟩
  have t_exc : ExcTab K (fun c => ([C0, C1] : List Addr).getD c 0) 2 subT := ⟨fun c k hc hk => by
    rcases c with _ | _ | q <;> rcases k with _ | _ | q <;> first | exact t0_0 | exact t0_1 | exact t1_0 | exact t1_1 | omega⟩
  have e_whole_from := f_whole_from (P := P) (w := w) (base := base) (ca := (fun c => ([C0, C1] : List Addr).getD c 0)) T0 n_isinstance n_int n_bool
  have e_sum_length := f_sum_length (P := P) (w := w) (base := base) (ca := (fun c => ([C0, C1] : List Addr).getD c 0)) T1 n_len X_BadTable
  have e_sum_lengthT := f_sum_lengthT (P := P) (w := w) (base := base) (ca := (fun c => ([C0, C1] : List Addr).getD c 0)) T1 n_len X_BadTable
  have e_sum_place := f_sum_place (P := P) (w := w) (base := base) (ca := (fun c => ([C0, C1] : List Addr).getD c 0)) T2 e_whole_from X_BadTable
  have e_sum_rows := f_sum_rows (P := P) (w := w) (base := base) (ca := (fun c => ([C0, C1] : List Addr).getD c 0)) T3 n_tuple e_sum_length
  have e_sum_rowsT := f_sum_rowsT (P := P) (w := w) (base := base) (ca := (fun c => ([C0, C1] : List Addr).getD c 0)) T3 n_tuple e_sum_lengthT
  have e_lessened := f_lessened (P := P) (w := w) (base := base) (ca := (fun c => ([C0, C1] : List Addr).getD c 0)) T4 u_gcd n_list
  have e_grow_turn := f_grow_turn (P := P) (w := w) (base := base) (ca := (fun c => ([C0, C1] : List Addr).getD c 0)) T5 n_enumerate n_list n_zip
  have e_grow_weights := f_grow_weights (P := P) (w := w) (base := base) (ca := (fun c => ([C0, C1] : List Addr).getD c 0)) T6 n_enumerate
  have e_grow_numbers := f_grow_numbers (P := P) (w := w) (base := base) (ca := (fun c => ([C0, C1] : List Addr).getD c 0)) T7 n_len n_enumerate e_lessened
  have e_grow_towards := f_grow_towards (P := P) (w := w) (base := base) (ca := (fun c => ([C0, C1] : List Addr).getD c 0)) T8 n_len n_list n_range n_min e_grow_weights e_grow_numbers e_grow_turn
  have e_grow_unit := f_grow_unit (P := P) (w := w) (base := base) (ca := (fun c => ([C0, C1] : List Addr).getD c 0)) T9 n_range
  have e_grow_sum := f_grow_sum (P := P) (w := w) (base := base) (ca := (fun c => ([C0, C1] : List Addr).getD c 0)) T10 n_range n_zip e_grow_unit e_grow_towards e_lessened
  have e_grow_or_cap := f_grow_or_cap (P := P) (w := w) (base := base) (ca := (fun c => ([C0, C1] : List Addr).getD c 0)) T11 n_tuple e_sum_rows e_sum_place e_grow_unit e_grow_towards e_lessened
  have e_growing := f_growing (P := P) (w := w) (base := base) (ca := (fun c => ([C0, C1] : List Addr).getD c 0)) T12 n_tuple e_sum_rows e_grow_sum
  have e_all_growing := f_all_growing (P := P) (w := w) (base := base) (ca := (fun c => ([C0, C1] : List Addr).getD c 0)) T13 n_tuple e_sum_rowsT e_grow_sum
  have e__law_pool := f__law_pool (P := P) (w := w) (base := base) (ca := (fun c => ([C0, C1] : List Addr).getD c 0)) T14 n_list
  have e__law_mixed := f__law_mixed (P := P) (w := w) (base := base) (ca := (fun c => ([C0, C1] : List Addr).getD c 0)) T15 n_int
  have e__law_draw := f__law_draw (P := P) (w := w) (base := base) (ca := (fun c => ([C0, C1] : List Addr).getD c 0)) T16 n_int n_len e__law_mixed
  have e__law_dot := f__law_dot (P := P) (w := w) (base := base) (ca := (fun c => ([C0, C1] : List Addr).getD c 0)) T17 n_range n_len
  have e__law_dotT := f__law_dotT (P := P) (w := w) (base := base) (ca := (fun c => ([C0, C1] : List Addr).getD c 0)) T17 n_range n_len
  have e__law_cross := f__law_cross (P := P) (w := w) (base := base) (ca := (fun c => ([C0, C1] : List Addr).getD c 0)) T18
  have e__law_rays := f__law_rays (P := P) (w := w) (base := base) (ca := (fun c => ([C0, C1] : List Addr).getD c 0)) T19 n_list n_range n_len n_min n_max e__law_cross e__law_dot
  have e__law_number := f__law_number (P := P) (w := w) (base := base) (ca := (fun c => ([C0, C1] : List Addr).getD c 0)) T20 n_int e__law_draw
  have e__law_drawn := f__law_drawn (P := P) (w := w) (base := base) (ca := (fun c => ([C0, C1] : List Addr).getD c 0)) T21 n_range n_max n_abs e__law_draw e__law_number e__law_dot e__law_rays
  have e__law_ring := f__law_ring (P := P) (w := w) (base := base) (ca := (fun c => ([C0, C1] : List Addr).getD c 0)) T22 n_range n_int e__law_draw
  have e__law_ints := f__law_ints (P := P) (w := w) (base := base) (ca := (fun c => ([C0, C1] : List Addr).getD c 0)) T23 n_isinstance n_tuple n_len n_int n_bool
  have e__law_right := f__law_right (P := P) (w := w) (base := base) (ca := (fun c => ([C0, C1] : List Addr).getD c 0)) T24 n_isinstance n_tuple n_len n_max n_range n_min e__law_ints e__law_dotT
  have e__law_refused := f__law_refused (P := P) (w := w) (base := base) (ca := (fun c => ([C0, C1] : List Addr).getD c 0)) T25 e_grow_or_cap t_exc X_Refused.hm X_BadTable.hm
  have e__law_long := f__law_long (P := P) (w := w) (base := base) (ca := (fun c => ([C0, C1] : List Addr).getD c 0)) T26 e_growing t_exc X_Refused.hm X_BadTable.hm
  exact (g_law (ca := (fun c => ([C0, C1] : List Addr).getD c 0)) T27 n_len n_list n_range n_isinstance n_tuple n_bool n_all n_max e__law_pool e__law_draw e__law_ring e__law_drawn e__law_number e_grow_or_cap e__law_right e_growing e_all_growing e__law_ints e__law_dotT e__law_refused e__law_long).imp spOf_nox
end
end T30
open PySem PySem.W PyProof.Rows
set_option maxHeartbeats 0 in
theorem PySem.Challenge.cw_somanyties_k30_grow_or_cap_holds : PySem.Challenge.rw_somanyties_k30_grow_or_cap.Holds := by
  w_on; o_law; k_head; (case hw => w_witness2)
  k_fill
  refine L2.walk_of (l := PySem.Challenge.rw_somanyties_k30_grow_or_cap) (n := 63) (k := 7) (x := "script") (CX := fun w => L2.CX PySem.Challenge.pw_somanyties_k30_grow_or_cap w) (sp := fun w => TL.spOf _ (fun _ => 0) (.one (TL.tF TL.tI)) TL.tB (fun u => TL.nox (T30.m_law u))) rfl (by decide) rfl ⟨rfl, by decide, by decide⟩ (fun w h Y => PySem.W.kIn_of Y) ?F (fun _ _ a ns hl _ hS => TL.law_sp (by decide) hl hS (by rw [T30.law_true ns hl]; rfl)) (fun _ _ _ _ _ h => by
    obtain ⟨_, _, _, _, _, _, _, _, _, _, _, _, bad⟩ := h
    exact bad)
  case F =>
    intro w mg fa h KX G hmg
    refine' T30.all_mk (fun _ => 0) KX G hmg ?a0 ?l0 ?q0 ?k0 ?a1 ?l1 ?q1 ?k1 ?a2 ?l2 ?q2 ?k2 ?a3 ?l3 ?q3 ?k3 ?a4 ?l4 ?q4 ?k4 ?a5 ?l5 ?q5 ?k5 ?a6 ?l6 ?q6 ?k6 ?a7 ?l7 ?q7 ?k7 ?a8 ?l8 ?q8 ?k8 ?a9 ?l9 ?q9 ?k9 ?a10 ?l10 ?q10 ?k10 ?a11 ?l11 ?q11 ?k11 ?a12 ?l12 ?q12 ?k12 ?a13 ?l13 ?q13 ?k13 ?a14 ?l14 ?q14 ?k14 ?a15 ?l15 ?q15 ?k15 ?a16 ?l16 ?q16 ?k16 ?a17 ?l17 ?q17 ?k17 ?a18 ?l18 ?q18 ?k18 ?a19 ?l19 ?q19 ?k19 ?a20 ?l20 ?q20 ?k20 ?a21 ?l21 ?q21 ?k21 ?a22 ?l22 ?q22 ?k22 ?a23 ?l23 ?q23 ?k23 ?a24 ?l24 ?q24 ?k24 ?a25 ?l25 ?q25 ?k25 ?a26 ?l26 ?q26 ?k26 ?a27 ?l27 ?q27 ?k27 ?z0 ?z1 ?z2 ?z3 ?z4 ?z5 ?z6 ?z7 ?z8 ?z9 ?z10 ?z11 ?z12 ?gg0 ?xa0 ?xb0 ?xc0 ?xd0 ?xe0 ?xf0 ?xg0 ?xh0 ?xa1 ?xb1 ?xc1 ?xd1 ?xe1 ?xf1 ?xg1 ?xh1 ?ya0 ?yb0 ?yc0 ?yd0 ?t0_0 ?t0_1 ?t1_0 ?t1_1
    (case a0 => first | k_is | kernel_rfl | rfl); (case l0 => first | k_is | kernel_rfl | rfl); (case q0 => first | k_is | kernel_rfl | rfl); (case k0 => first | k_is | kernel_rfl | rfl); (case a1 => first | k_is | kernel_rfl | rfl); (case l1 => first | k_is | kernel_rfl | rfl); (case q1 => first | k_is | kernel_rfl | rfl); (case k1 => first | k_is | kernel_rfl | rfl); (case a2 => first | k_is | kernel_rfl | rfl); (case l2 => first | k_is | kernel_rfl | rfl); (case q2 => first | k_is | kernel_rfl | rfl); (case k2 => first | k_is | kernel_rfl | rfl); (case a3 => first | k_is | kernel_rfl | rfl); (case l3 => first | k_is | kernel_rfl | rfl); (case q3 => first | k_is | kernel_rfl | rfl); (case k3 => first | k_is | kernel_rfl | rfl); (case a4 => first | k_is | kernel_rfl | rfl); (case l4 => first | k_is | kernel_rfl | rfl); (case q4 => first | k_is | kernel_rfl | rfl); (case k4 => first | k_is | kernel_rfl | rfl); (case a5 => first | k_is | kernel_rfl | rfl); (case l5 => first | k_is | kernel_rfl | rfl); (case q5 => first | k_is | kernel_rfl | rfl); (case k5 => first | k_is | kernel_rfl | rfl); (case a6 => first | k_is | kernel_rfl | rfl); (case l6 => first | k_is | kernel_rfl | rfl); (case q6 => first | k_is | kernel_rfl | rfl); (case k6 => first | k_is | kernel_rfl | rfl); (case a7 => first | k_is | kernel_rfl | rfl); (case l7 => first | k_is | kernel_rfl | rfl); (case q7 => first | k_is | kernel_rfl | rfl); (case k7 => first | k_is | kernel_rfl | rfl); (case a8 => first | k_is | kernel_rfl | rfl); (case l8 => first | k_is | kernel_rfl | rfl); (case q8 => first | k_is | kernel_rfl | rfl); (case k8 => first | k_is | kernel_rfl | rfl); (case a9 => first | k_is | kernel_rfl | rfl); (case l9 => first | k_is | kernel_rfl | rfl); (case q9 => first | k_is | kernel_rfl | rfl); (case k9 => first | k_is | kernel_rfl | rfl); (case a10 => first | k_is | kernel_rfl | rfl); (case l10 => first | k_is | kernel_rfl | rfl); (case q10 => first | k_is | kernel_rfl | rfl); (case k10 => first | k_is | kernel_rfl | rfl); (case a11 => first | k_is | kernel_rfl | rfl); (case l11 => first | k_is | kernel_rfl | rfl); (case q11 => first | k_is | kernel_rfl | rfl); (case k11 => first | k_is | kernel_rfl | rfl); (case a12 => first | k_is | kernel_rfl | rfl); (case l12 => first | k_is | kernel_rfl | rfl); (case q12 => first | k_is | kernel_rfl | rfl); (case k12 => first | k_is | kernel_rfl | rfl); (case a13 => first | k_is | kernel_rfl | rfl); (case l13 => first | k_is | kernel_rfl | rfl); (case q13 => first | k_is | kernel_rfl | rfl); (case k13 => first | k_is | kernel_rfl | rfl); (case a14 => first | k_is | kernel_rfl | rfl); (case l14 => first | k_is | kernel_rfl | rfl); (case q14 => first | k_is | kernel_rfl | rfl); (case k14 => first | k_is | kernel_rfl | rfl); (case a15 => first | k_is | kernel_rfl | rfl); (case l15 => first | k_is | kernel_rfl | rfl); (case q15 => first | k_is | kernel_rfl | rfl); (case k15 => first | k_is | kernel_rfl | rfl); (case a16 => first | k_is | kernel_rfl | rfl); (case l16 => first | k_is | kernel_rfl | rfl); (case q16 => first | k_is | kernel_rfl | rfl); (case k16 => first | k_is | kernel_rfl | rfl); (case a17 => first | k_is | kernel_rfl | rfl); (case l17 => first | k_is | kernel_rfl | rfl); (case q17 => first | k_is | kernel_rfl | rfl); (case k17 => first | k_is | kernel_rfl | rfl); (case a18 => first | k_is | kernel_rfl | rfl); (case l18 => first | k_is | kernel_rfl | rfl); (case q18 => first | k_is | kernel_rfl | rfl); (case k18 => first | k_is | kernel_rfl | rfl); (case a19 => first | k_is | kernel_rfl | rfl); (case l19 => first | k_is | kernel_rfl | rfl); (case q19 => first | k_is | kernel_rfl | rfl); (case k19 => first | k_is | kernel_rfl | rfl); (case a20 => first | k_is | kernel_rfl | rfl); (case l20 => first | k_is | kernel_rfl | rfl); (case q20 => first | k_is | kernel_rfl | rfl); (case k20 => first | k_is | kernel_rfl | rfl); (case a21 => first | k_is | kernel_rfl | rfl); (case l21 => first | k_is | kernel_rfl | rfl); (case q21 => first | k_is | kernel_rfl | rfl); (case k21 => first | k_is | kernel_rfl | rfl); (case a22 => first | k_is | kernel_rfl | rfl); (case l22 => first | k_is | kernel_rfl | rfl); (case q22 => first | k_is | kernel_rfl | rfl); (case k22 => first | k_is | kernel_rfl | rfl); (case a23 => first | k_is | kernel_rfl | rfl); (case l23 => first | k_is | kernel_rfl | rfl); (case q23 => first | k_is | kernel_rfl | rfl); (case k23 => first | k_is | kernel_rfl | rfl); (case a24 => first | k_is | kernel_rfl | rfl); (case l24 => first | k_is | kernel_rfl | rfl); (case q24 => first | k_is | kernel_rfl | rfl); (case k24 => first | k_is | kernel_rfl | rfl); (case a25 => first | k_is | kernel_rfl | rfl); (case l25 => first | k_is | kernel_rfl | rfl); (case q25 => first | k_is | kernel_rfl | rfl); (case k25 => first | k_is | kernel_rfl | rfl); (case a26 => first | k_is | kernel_rfl | rfl); (case l26 => first | k_is | kernel_rfl | rfl); (case q26 => first | k_is | kernel_rfl | rfl); (case k26 => first | k_is | kernel_rfl | rfl); (case a27 => first | k_is | kernel_rfl | rfl); (case l27 => first | k_is | kernel_rfl | rfl); (case q27 => first | k_is | kernel_rfl | rfl); (case k27 => first | k_is | kernel_rfl | rfl); (case z0 => first | k_is | kernel_rfl | rfl); (case z1 => first | k_is | kernel_rfl | rfl); (case z2 => first | k_is | kernel_rfl | rfl); (case z3 => first | k_is | kernel_rfl | rfl); (case z4 => first | k_is | kernel_rfl | rfl); (case z5 => first | k_is | kernel_rfl | rfl); (case z6 => first | k_is | kernel_rfl | rfl); (case z7 => first | k_is | kernel_rfl | rfl); (case z8 => first | k_is | kernel_rfl | rfl); (case z9 => first | k_is | kernel_rfl | rfl); (case z10 => first | k_is | kernel_rfl | rfl); (case z11 => first | k_is | kernel_rfl | rfl); (case z12 => first | k_is | kernel_rfl | rfl); (case gg0 => first | k_is | kernel_rfl | rfl); (case xa0 => first | k_is | kernel_rfl | rfl); (case xb0 => first | k_is | kernel_rfl | rfl); (case xc0 => first | k_is | kernel_rfl | rfl); (case xd0 => first | k_is | kernel_rfl | rfl); (case xe0 => first | k_is | kernel_rfl | rfl); (case xf0 => first | k_is | kernel_rfl | rfl); (case xg0 => first | k_is | kernel_rfl | rfl); (case xh0 => first | k_is | kernel_rfl | rfl); (case xa1 => first | k_is | kernel_rfl | rfl); (case xb1 => first | k_is | kernel_rfl | rfl); (case xc1 => first | k_is | kernel_rfl | rfl); (case xd1 => first | k_is | kernel_rfl | rfl); (case xe1 => first | k_is | kernel_rfl | rfl); (case xf1 => first | k_is | kernel_rfl | rfl); (case xg1 => first | k_is | kernel_rfl | rfl); (case xh1 => first | k_is | kernel_rfl | rfl); (case ya0 => first | k_is | kernel_rfl | rfl); (case yb0 => first | k_is | kernel_rfl | rfl); (case yc0 => first | k_is | kernel_rfl | rfl); (case yd0 => first | k_is | kernel_rfl | rfl); (case t0_0 => first | k_is | kernel_rfl | rfl); (case t0_1 => first | k_is | kernel_rfl | rfl); (case t1_0 => first | k_is | kernel_rfl | rfl); (case t1_1 => first | k_is | kernel_rfl | rfl)
