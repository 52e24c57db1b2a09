import PyProof.Rows.All
import PySem.Challenge.RW_somanyties_k16_one_side
import Wide.All
import OpenK.AllK
import Wide.FinOn
import HandS.ForMost
import HandS.Exc
import HandS.ExcOwn
import HandS.WordsExc
import HandS.IsInst
import HandS.SortInts
import HandS.SortRule
import HandS.Conv
import HandS.Zip
import HandS.Deep
import HandS.Style
import KE.SortKeyHeap
import HandS.Keys
import HandS.SortKw
import HandS.DictComp
import HandS.SetBool
import HandS.Strs
import KE.KExcInit
import HandS.ExcInit
import HandS.TryMany
import HandS.FStr
import HandS.Flow
set_option Elab.async false
set_option linter.all false
set_option maxRecDepth 100000
set_option maxHeartbeats 4000000
/-! TL1: outcomes, types of values, contexts of slots. -/
namespace TL
open PySem PySem.Spec PyProof.Rows L2
/-! ### outcomes -/
inductive Rs (α : Type) where
  | ok (a : α)
  | exc (c : Nat)
  | bad
  deriving DecidableEq
namespace Rs
@[simp] def bind {α β : Type} (r : Rs α) (k : α → Rs β) : Rs β := match r with
  | .ok a => k a
  | .exc c => .exc c
  | .bad => .bad
def Post {α : Type} (r : Rs α) (P : α → Prop) (E : Nat → Prop) : Prop := match r with
  | .ok a => P a
  | .exc c => E c
  | .bad => False
theorem post_bind {α β : Type} {r : Rs α} {k : α → Rs β} {P : β → Prop} {E : Nat → Prop} (h : (r.bind k).Post P E) : r.Post (fun a => (k a).Post P E) E := by
  cases r <;> exact h
theorem Post.mono {α : Type} {r : Rs α} {P P' : α → Prop} {E E' : Nat → Prop} (h : r.Post P E) (hP : ∀ a, P a → P' a) (hE : ∀ c, E c → E' c) : r.Post P' E' := by
  cases r with
  | ok a => exact hP a h
  | exc c => exact hE c h
  | bad => exact h
def guard (c : Bool) {α : Type} (r : Rs α) : Rs α := if c then r else .bad
theorem post_guard {c : Bool} {α : Type} {r : Rs α} {P : α → Prop} {E : Nat → Prop} (h : (guard c r).Post P E) : c = true ∧ r.Post P E := by
  cases c with
  | true => exact ⟨rfl, h⟩
  | false => exact h.elim
/-- none is bad -/
def ofOpt {α : Type} : Option α → Rs α
  | some a => .ok a
  | none => .bad
theorem post_ofOpt {α : Type} {o : Option α} {P : α → Prop} {E : Nat → Prop} (h : (ofOpt o).Post P E) : ∃ a, o = some a ∧ P a := by
  cases o with
  | some a => exact ⟨a, rfl, h⟩
  | none => exact h.elim
end Rs
/-! ### what is to be seen of a heap -/
def cut (H : Hp) (O : List Addr) : Hp := fun a => if a ∈ O then none else H a
theorem cut_in {H : Hp} {O : List Addr} {a : Addr} (h : a ∈ O) : cut H O a = none := by unfold cut; rw [if_pos h]
theorem cut_out {H : Hp} {O : List Addr} {a : Addr} (h : a ∉ O) : cut H O a = H a := by unfold cut; rw [if_neg h]
theorem cut_le {H : Hp} {O : List Addr} : Same (cut H O) H := fun b o e => by
  by_cases h : b ∈ O
  · rw [cut_in h] at e; cases e
  · rw [cut_out h] at e; exact e
theorem cut_grow {H H' : Hp} {O : List Addr} (s : Same H H') : Same (cut H O) (cut H' O) := fun b o e => by
  by_cases h : b ∈ O
  · rw [cut_in h] at e; cases e
  · rw [cut_out h] at e ⊢; exact s b o e
theorem cut_sub {H : Hp} {O O' : List Addr} (h : ∀ p ∈ O', p ∈ O) : Same (cut H O) (cut H O') := fun b o e => by
  by_cases hb : b ∈ O
  · rw [cut_in hb] at e; cases e
  · rw [cut_out hb] at e
    rw [cut_out fun z => hb (h b z)]; exact e
theorem cut_upd {H : Hp} {O : List Addr} {p : Addr} {o : HO} (h : p ∈ O) : cut (upd H p o) O = cut H O := by
  funext b
  by_cases hb : b ∈ O
  · rw [cut_in hb, cut_in hb]
  · rw [cut_out hb, cut_out hb, upd_ne (show b ≠ p from fun e => hb (by rw [e]; exact h))]
theorem cut_nil {H : Hp} : cut H [] = H := by funext b; exact cut_out (by simp)
theorem same_upd {H : Hp} {p : Addr} {o : HO} (h : H p = none) : Same H (upd H p o) := fun b x e => by
  rw [upd_ne (ne_of_none e h)]; exact e
theorem Same.sqT {K : PySem.W.Frag} {H H' : Hp} {a : Addr} {xs : List V} (e : Same H H') (h : SqT K H a xs) : SqT K H' a xs := by
  rcases h with (h | ⟨o, h⟩) | h
  · exact .inl (.inl (e _ _ h))
  · exact .inl (.inr ⟨o, e _ _ h⟩)
  · exact .inr h
/-! ### types of values -/
structure Ty (α : Type) where
  rep : PySem.W.Frag → Hp → V → α → Prop
  mono : ∀ {K : PySem.W.Frag} {H H' : Hp} {v : V} {a : α}, Same H H' → rep K H v a → rep K H' v a
def tI : Ty Int := ⟨fun _ _ v a => v = .int a, fun _ h => h⟩
def tB : Ty Bool := ⟨fun _ _ v a => v = .bl a, fun _ h => h⟩
def tN : Ty Unit := ⟨fun _ _ v _ => v = .non, fun _ h => h⟩
def tS : Ty Str := ⟨fun _ _ v a => v = .str a, fun _ h => h⟩
def optRep {α : Type} (r : V → α → Prop) (v : V) : Option α → Prop
  | none => v = .non
  | some a => r v a
def tO {α : Type} (τ : Ty α) : Ty (Option α) := ⟨fun K H v a => optRep (τ.rep K H) v a, fun {K H H' v a} s h => by
  cases a with
  | none => exact h
  | some a => exact τ.mono s h⟩
theorem Paired.mono' {α : Type} {τ : Ty α} {K : PySem.W.Frag} {H H' : Hp} (s : Same H H') {vs : List V} {as : List α} (h : Paired (τ.rep K H) vs as) : Paired (τ.rep K H') vs as :=
  L2.Paired.mapP h fun _ _ r => τ.mono s r
def tL {α : Type} (τ : Ty α) : Ty (List α) := ⟨fun K H v as => ∃ p vs, v = .ref p ∧ H p = some (.lst vs) ∧ vs.length ≤ sizeLine ∧ Paired (τ.rep K H) vs as,
  fun s ⟨p, vs, e, q, z, r⟩ => ⟨p, vs, e, s _ _ q, z, Paired.mono' s r⟩⟩
/-- a list that is read alone (the script) -/
def tF {α : Type} (τ : Ty α) : Ty (List α) := ⟨fun K H v as => ∃ p vs, v = .ref p ∧ SqL K H p vs ∧ vs.length ≤ sizeLine ∧ Paired (τ.rep K H) vs as,
  fun s ⟨p, vs, e, q, z, r⟩ => ⟨p, vs, e, s.seq q, z, Paired.mono' s r⟩⟩
def tT {α : Type} (τ : Ty α) : Ty (List α) := ⟨fun K H v as => ∃ p vs, v = .ref p ∧ H p = some (.tup vs) ∧ vs.length ≤ sizeLine ∧ Paired (τ.rep K H) vs as,
  fun s ⟨p, vs, e, q, z, r⟩ => ⟨p, vs, e, s _ _ q, z, Paired.mono' s r⟩⟩
/-- several values in a row -/
inductive Tys : Type → Type 1 where
  | nil : Tys Unit
  | one {α : Type} (τ : Ty α) : Tys α
  | cons {α β : Type} (τ : Ty α) (ts : Tys β) : Tys (α × β)
def Tys.rep (K : PySem.W.Frag) (H : Hp) : {α : Type} → Tys α → List V → α → Prop
  | _, .nil, vs, _ => vs = []
  | _, .one τ, vs, a => ∃ v, vs = [v] ∧ τ.rep K H v a
  | _, .cons τ ts, vs, a => ∃ v r, vs = v :: r ∧ τ.rep K H v a.1 ∧ ts.rep K H r a.2
theorem Tys.mono {K : PySem.W.Frag} {H H' : Hp} (s : Same H H') : ∀ {α : Type} (ts : Tys α) {vs : List V} {a : α}, ts.rep K H vs a → ts.rep K H' vs a
  | _, .nil, _, _, h => h
  | _, .one τ, _, _, h => by obtain ⟨v, e, r⟩ := h; exact ⟨v, e, τ.mono s r⟩
  | _, .cons τ ts, _, _, h => by obtain ⟨v, r, e, h1, h2⟩ := h; exact ⟨v, r, e, τ.mono s h1, ts.mono s h2⟩
def Tys.len : {α : Type} → Tys α → Nat
  | _, .nil => 0
  | _, .one _ => 1
  | _, .cons _ ts => ts.len + 1
theorem Tys.length {K : PySem.W.Frag} {H : Hp} : ∀ {α : Type} (ts : Tys α) {vs : List V} {a : α}, ts.rep K H vs a → vs.length = ts.len
  | _, .nil, _, _, h => by cases h; rfl
  | _, .one τ, _, _, h => by obtain ⟨v, e, r⟩ := h; rw [e]; rfl
  | _, .cons τ ts, _, _, h => by obtain ⟨v, r, e, h1, h2⟩ := h; rw [e, List.length_cons, ts.length h2]; rfl
/-- a tuple, a list of fixed places -/
def tTup {α : Type} (ts : Tys α) : Ty α := ⟨fun K H v a => ∃ p vs, v = .ref p ∧ H p = some (.tup vs) ∧ ts.rep K H vs a, fun s ⟨p, vs, e, q, r⟩ => ⟨p, vs, e, s _ _ q, ts.mono s r⟩⟩
def tLup {α : Type} (ts : Tys α) : Ty α := ⟨fun K H v a => ∃ p vs, v = .ref p ∧ H p = some (.lst vs) ∧ vs.length ≤ sizeLine ∧ ts.rep K H vs a, fun s ⟨p, vs, e, q, z, r⟩ => ⟨p, vs, e, s _ _ q, z, ts.mono s r⟩⟩
/-- what stands in a list that one slot owns -/
structure Ct (α : Type) where
  rep : PySem.W.Frag → Hp → List V → α → Prop
  mono : ∀ {K : PySem.W.Frag} {H H' : Hp} {v : List V} {a : α}, Same H H' → rep K H v a → rep K H' v a
def cL {α : Type} (τ : Ty α) : Ct (List α) := ⟨fun K H vs as => Paired (τ.rep K H) vs as, fun s h => Paired.mono' s h⟩
def cR {α : Type} (ts : Tys α) : Ct α := ⟨fun K H vs as => ts.rep K H vs as, fun s h => ts.mono s h⟩
/-- .. as a value -/
def Ct.ty {α : Type} (c : Ct α) : Ty α := ⟨fun K H v a => ∃ p vs, v = .ref p ∧ H p = some (.lst vs) ∧ vs.length ≤ sizeLine ∧ c.rep K H vs a, fun s ⟨p, vs, e, q, z, r⟩ => ⟨p, vs, e, s _ _ q, z, c.mono s r⟩⟩
/-- what stands in a dict (its keys tuples) that one slot owns -/
structure Cd (α : Type) where
  rep : PySem.W.Frag → Hp → List (List L2.Key × V) → α → Prop
  mono : ∀ {K : PySem.W.Frag} {H H' : Hp} {v : List (List L2.Key × V)} {a : α}, Same H H' → rep K H v a → rep K H' v a
/-! ### slots -/
inductive Sl : Type → Type 1 where
  | any : Sl Unit
  | val {α : Type} (τ : Ty α) : Sl α
  | own {α : Type} (q : Option Addr) (c : Ct α) : Sl α
  | ownD {α : Type} (c : Cd α) : Sl α
inductive Cxt : Type → Type 1 where
  | nil : Cxt Unit
  | cons {α S : Type} (k : Sl α) (Γ : Cxt S) : Cxt (α × S)
def Sl.rep (K : PySem.W.Frag) (G H : Hp) : {α : Type} → Sl α → Option V → List Addr → α → Prop
  | _, .any, _, O, _ => O = []
  | _, .val τ, x, O, a => O = [] ∧ ∃ v, x = some v ∧ τ.rep K G v a
  | _, .own q c, x, O, a => ∃ p vs, (∀ z, q = some z → p = z) ∧ O = [p] ∧ x = some (.ref p) ∧ H p = some (.lst vs) ∧ vs.length ≤ sizeLine ∧ c.rep K G vs a
  | _, .ownD c, x, O, a => ∃ p vs, O = [p] ∧ x = some (.ref p) ∧ H p = some (.dT vs) ∧ vs.length ≤ sizeLine ∧ c.rep K G vs a
def Cxt.rep (K : PySem.W.Frag) (G H : Hp) : {S : Type} → Cxt S → L2.St → List Addr → S → Prop
  | _, .nil, σ, O, _ => σ = [] ∧ O = []
  | _, .cons k Γ, σ, O, s => ∃ x σ' O1 O2, σ = x :: σ' ∧ O = O1 ++ O2 ∧ k.rep K G H x O1 s.1 ∧ Γ.rep K G H σ' O2 s.2
theorem Sl.mono {K : PySem.W.Frag} {G G' H H' : Hp} (sG : Same G G') : ∀ {α : Type} (k : Sl α) {x : Option V} {O : List Addr} {a : α}, (∀ p ∈ O, ∀ o, H p = some o → H' p = some o) → k.rep K G H x O a → k.rep K G' H' x O a
  | _, .any, _, _, _, _, h => h
  | _, .val τ, _, _, _, _, h => by obtain ⟨e, v, e2, r⟩ := h; exact ⟨e, v, e2, τ.mono sG r⟩
  | _, .own q c, _, _, _, hH, h => by obtain ⟨p, vs, eq, e, e2, e3, z, r⟩ := h; exact ⟨p, vs, eq, e, e2, hH p (by rw [e]; simp) _ e3, z, c.mono sG r⟩
  | _, .ownD c, _, _, _, hH, h => by obtain ⟨p, vs, e, e2, e3, z, r⟩ := h; exact ⟨p, vs, e, e2, hH p (by rw [e]; simp) _ e3, z, c.mono sG r⟩
theorem Cxt.mono {K : PySem.W.Frag} {G G' H H' : Hp} (sG : Same G G') : ∀ {S : Type} (Γ : Cxt S) {σ : L2.St} {O : List Addr} {s : S}, (∀ p ∈ O, ∀ o, H p = some o → H' p = some o) → Γ.rep K G H σ O s → Γ.rep K G' H' σ O s
  | _, .nil, _, _, _, _, h => h
  | _, .cons k Γ, _, _, _, hH, h => by
    obtain ⟨x, σ', O1, O2, e, e2, h1, h2⟩ := h
    exact ⟨x, σ', O1, O2, e, e2, k.mono sG (fun p hp => hH p (by rw [e2]; exact List.mem_append_left _ hp)) h1, Γ.mono sG (fun p hp => hH p (by rw [e2]; exact List.mem_append_right _ hp)) h2⟩
/-- slot i is of the kind k, g its part of the state -/
structure At {S : Type} (Γ : Cxt S) (i : Nat) {α : Type} (k : Sl α) (g : S → α) : Prop where
  val : ∀ {K : PySem.W.Frag} {G H : Hp} {σ : L2.St} {O : List Addr} {s : S}, Γ.rep K G H σ O s → ∃ x Oi, σ[i]? = some x ∧ (∀ p ∈ Oi, p ∈ O) ∧ k.rep K G H x Oi (g s)
theorem At.z {α S : Type} {k : Sl α} {Γ : Cxt S} : At (.cons k Γ) 0 k (fun s => s.1) := ⟨by
  rintro K G H σ O s ⟨x, σ', O1, O2, rfl, rfl, h1, h2⟩
  exact ⟨x, O1, rfl, fun p hp => List.mem_append_left _ hp, h1⟩⟩
theorem At.s {α β S : Type} {k : Sl α} {j : Sl β} {Γ : Cxt S} {i : Nat} {g : S → α} (h : At Γ i k g) : At (.cons j Γ) (i + 1) k (fun s => g s.2) := ⟨by
  rintro K G H σ O s ⟨x, σ', O1, O2, rfl, rfl, h1, h2⟩
  obtain ⟨y, Oi, e, hs, r⟩ := h.val h2
  exact ⟨y, Oi, by simpa using e, fun p hp => List.mem_append_right _ (hs p hp), r⟩⟩
/-- slot i becomes of the kind k -/
structure Put {S : Type} (Γ : Cxt S) (i : Nat) {β : Type} (k : Sl β) {S' : Type} (Γ' : Cxt S') (p : S → β → S') : Prop where
  set : ∀ {K : PySem.W.Frag} {G H : Hp} {σ : L2.St} {O : List Addr} {s : S} {x : Option V} {Ox : List Addr} {b : β},
    Γ.rep K G H σ O s → k.rep K G H x Ox b → ∃ Oa Oi Ob, O = Oa ++ (Oi ++ Ob) ∧ Γ'.rep K G H (σ.set i x) (Oa ++ (Ox ++ Ob)) (p s b)
theorem Put.z {α β S : Type} {j : Sl α} {k : Sl β} {Γ : Cxt S} : Put (.cons j Γ) 0 k (.cons k Γ) (fun s b => (b, s.2)) := ⟨by
  rintro K G H σ O s x Ox b ⟨y, σ', O1, O2, rfl, rfl, h1, h2⟩ hk
  exact ⟨[], O1, O2, rfl, x, σ', Ox, O2, rfl, rfl, hk, h2⟩⟩
theorem Put.s {α β S S' : Type} {k : Sl β} {j : Sl α} {Γ : Cxt S} {Γ' : Cxt S'} {i : Nat} {p : S → β → S'} (h : Put Γ i k Γ' p) : Put (.cons j Γ) (i + 1) k (.cons j Γ') (fun s b => (s.1, p s.2 b)) := ⟨by
  rintro K G H σ O s x Ox b ⟨y, σ', O1, O2, rfl, rfl, h1, h2⟩ hk
  obtain ⟨Oa, Oi, Ob, rfl, r⟩ := h.set h2 hk
  exact ⟨O1 ++ Oa, Oi, Ob, by simp, y, _, O1, Oa ++ (Ox ++ Ob), rfl, by simp, h1, r⟩⟩
/-- what slot i owns is written: the rest stands -/
structure Wr {S : Type} (Γ : Cxt S) (i : Nat) (w : Option Addr) {α β : Type} (c : Ct α) (g : S → α) (d : Ct β) {S' : Type} (Γ' : Cxt S') (p : S → β → S') : Prop where
  write : ∀ {K : PySem.W.Frag} {G H : Hp} {σ : L2.St} {O : List Addr} {s : S}, Γ.rep K G H σ O s → O.Nodup →
    ∃ q vs, (∀ z, w = some z → q = z) ∧ σ[i]? = some (some (.ref q)) ∧ q ∈ O ∧ H q = some (.lst vs) ∧ vs.length ≤ sizeLine ∧ c.rep K G vs (g s) ∧ ∀ (ws : List V) (b : β), ws.length ≤ sizeLine → d.rep K G ws b → Γ'.rep K G (upd H q (.lst ws)) σ O (p s b)
theorem Wr.z {α β S : Type} {w : Option Addr} {c : Ct α} {d : Ct β} {Γ : Cxt S} : Wr (.cons (.own w c) Γ) 0 w c (fun s => s.1) d (.cons (.own w d) Γ) (fun s b => (b, s.2)) := ⟨by
  rintro K G H σ O s hr nd
  obtain ⟨y, σ', O1, O2, rfl, rfl, h1, h2⟩ := hr
  obtain ⟨q, vs, eq, rfl, rfl, e3, z3, r⟩ := h1
  refine ⟨q, vs, eq, rfl, by simp, e3, z3, r, fun ws b hz hb => ⟨_, σ', [q], O2, rfl, rfl, ⟨q, ws, eq, rfl, rfl, upd_same, hz, hb⟩, ?_⟩⟩
  refine Cxt.mono (fun _ _ h => h) _ (fun z hz o e => ?_) h2
  have : z ≠ q := fun e => by
    subst e
    simp at nd
    exact nd.1 hz
  rw [upd_ne this]; exact e⟩
theorem Wr.s {α β γ S S' : Type} {c : Ct α} {d : Ct β} {j : Sl γ} {Γ : Cxt S} {Γ' : Cxt S'} {i : Nat} {w : Option Addr} {g : S → α} {p : S → β → S'} (h : Wr Γ i w c g d Γ' p) : Wr (.cons j Γ) (i + 1) w c (fun s => g s.2) d (.cons j Γ') (fun s b => (s.1, p s.2 b)) := ⟨by
  rintro K G H σ O s hr nd
  obtain ⟨y, σ', O1, O2, rfl, rfl, h1, h2⟩ := hr
  obtain ⟨q, vs, eq, e1, e2, e3, z3, r, hw⟩ := h.write h2 (List.nodup_append.mp nd).2.1
  refine ⟨q, vs, eq, by simpa using e1, List.mem_append_right _ e2, e3, z3, r, fun ws b hz hb => ⟨_, σ', O1, O2, rfl, rfl, ?_, hw ws b hz hb⟩⟩
  refine Sl.mono (fun _ _ h => h) _ (fun z hz o e => ?_) h1
  have : z ≠ q := fun e => (List.nodup_append.mp nd).2.2 z hz q e2 e
  rw [upd_ne this]; exact e⟩
/-- a dict that slot i owns is written -/
structure WrD {S : Type} (Γ : Cxt S) (i : Nat) {α : Type} (c : Cd α) (g : S → α) (p : S → α → S) : Prop where
  write : ∀ {K : PySem.W.Frag} {G H : Hp} {σ : L2.St} {O : List Addr} {s : S}, Γ.rep K G H σ O s → O.Nodup →
    ∃ q vs, σ[i]? = some (some (.ref q)) ∧ q ∈ O ∧ H q = some (.dT vs) ∧ vs.length ≤ sizeLine ∧ c.rep K G vs (g s) ∧ ∀ (ws : List (List L2.Key × V)) (b : α), ws.length ≤ sizeLine → c.rep K G ws b → Γ.rep K G (upd H q (.dT ws)) σ O (p s b)
theorem WrD.z {α S : Type} {c : Cd α} {Γ : Cxt S} : WrD (.cons (.ownD c) Γ) 0 c (fun s => s.1) (fun s b => (b, s.2)) := ⟨by
  rintro K G H σ O s hr nd
  obtain ⟨y, σ', O1, O2, rfl, rfl, h1, h2⟩ := hr
  obtain ⟨q, vs, rfl, rfl, e3, z3, r⟩ := h1
  refine ⟨q, vs, rfl, by simp, e3, z3, r, fun ws b hz hb => ⟨_, σ', [q], O2, rfl, rfl, ⟨q, ws, rfl, rfl, upd_same, hz, hb⟩, ?_⟩⟩
  refine Cxt.mono (fun _ _ h => h) _ (fun z hz o e => ?_) h2
  have : z ≠ q := fun e => by
    subst e
    simp at nd
    exact nd.1 hz
  rw [upd_ne this]; exact e⟩
theorem WrD.s {α γ S : Type} {c : Cd α} {j : Sl γ} {Γ : Cxt S} {i : Nat} {g : S → α} {p : S → α → S} (h : WrD Γ i c g p) : WrD (.cons j Γ) (i + 1) c (fun s => g s.2) (fun s b => (s.1, p s.2 b)) := ⟨by
  rintro K G H σ O s hr nd
  obtain ⟨y, σ', O1, O2, rfl, rfl, h1, h2⟩ := hr
  obtain ⟨q, vs, e1, e2, e3, z3, r, hw⟩ := h.write h2 (List.nodup_append.mp nd).2.1
  refine ⟨q, vs, by simpa using e1, List.mem_append_right _ e2, e3, z3, r, fun ws b hz hb => ⟨_, σ', O1, O2, rfl, rfl, ?_, hw ws b hz hb⟩⟩
  refine Sl.mono (fun _ _ h => h) _ (fun z hz o e => ?_) h1
  have : z ≠ q := fun e => (List.nodup_append.mp nd).2.2 z hz q e2 e
  rw [upd_ne this]; exact e⟩
/-! ### forgetting, widening, freezing -/
structure Tc {α β : Type} (τ : Ty α) (τ' : Ty β) (g : α → β) : Prop where
  to : ∀ {K : PySem.W.Frag} {H : Hp} {v : V} {a : α}, τ.rep K H v a → τ'.rep K H v (g a)
structure Cv {α β : Type} (k : Sl α) (j : Sl β) (g : α → β) : Prop where
  to : ∀ {K : PySem.W.Frag} {G H : Hp} {x : Option V} {O : List Addr} {a : α}, k.rep K G H x O a → ∃ O', O'.Sublist O ∧ ∀ {G' : Hp}, Same G G' → (∀ p ∈ O, p ∉ O' → G' p = H p) → j.rep K G' H x O' (g a)
theorem Cv.same {α : Type} {k : Sl α} : Cv k k (fun a => a) := ⟨fun {K G H x O a} h => ⟨O, List.Sublist.refl O, fun s _ => Sl.mono s k (fun _ _ _ e => e) h⟩⟩
theorem Cv.drop {α : Type} {k : Sl α} : Cv k .any (fun _ => ()) := ⟨fun {K G H x O a} h => ⟨[], List.nil_sublist O, fun s _ => rfl⟩⟩
theorem Cv.val {α β : Type} {τ : Ty α} {τ' : Ty β} {g : α → β} (h : Tc τ τ' g) : Cv (.val τ) (.val τ') g := ⟨fun {K G H x O a} r => by
  obtain ⟨e, v, e2, r⟩ := r
  exact ⟨[], List.nil_sublist O, fun s _ => ⟨rfl, v, e2, h.to (τ.mono s r)⟩⟩⟩
theorem Cv.freeze {α : Type} {w : Option Addr} {c : Ct α} : Cv (.own w c) (.val c.ty) (fun a => a) := ⟨fun {K G H x O a} r => by
  obtain ⟨p, vs, eq, e, e2, e3, z, r⟩ := r
  refine ⟨[], List.nil_sublist O, fun s h => ⟨rfl, _, e2, p, vs, rfl, ?_, z, c.mono s r⟩⟩
  rw [h p (by rw [e]; simp) (by simp)]; exact e3⟩
structure Wk {S S' : Type} (Γ : Cxt S) (Γ' : Cxt S') (g : S → S') : Prop where
  to : ∀ {K : PySem.W.Frag} {G H : Hp} {σ : L2.St} {O : List Addr} {s : S}, Γ.rep K G H σ O s → O.Nodup → ∃ O', O'.Sublist O ∧ ∀ {G' : Hp}, Same G G' → (∀ p ∈ O, p ∉ O' → G' p = H p) → Γ'.rep K G' H σ O' (g s)
theorem Wk.nil : Wk .nil .nil (fun s => s) := ⟨fun {K G H σ O s} h _ => ⟨O, List.Sublist.refl O, fun _ _ => h⟩⟩
theorem Wk.cons {α β S S' : Type} {k : Sl α} {j : Sl β} {Γ : Cxt S} {Γ' : Cxt S'} {f : α → β} {g : S → S'} (h1 : Cv k j f) (h2 : Wk Γ Γ' g) : Wk (.cons k Γ) (.cons j Γ') (fun s => (f s.1, g s.2)) := ⟨by
  rintro K G H σ O s ⟨x, σ', O1, O2, rfl, rfl, r1, r2⟩ nd
  obtain ⟨n1, n2, n3⟩ := List.nodup_append.mp nd
  obtain ⟨P1, s1, q1⟩ := h1.to r1
  obtain ⟨P2, s2, q2⟩ := h2.to r2 n2
  refine ⟨P1 ++ P2, s1.append s2, fun {G'} sm hp => ⟨x, σ', P1, P2, rfl, rfl, q1 sm fun p h h' => hp p (List.mem_append_left _ h) fun z => ?_, q2 sm fun p h h' => hp p (List.mem_append_right _ h) fun z => ?_⟩⟩
  · rcases List.mem_append.mp z with z | z
    · exact h' z
    · exact n3 p h p (s2.subset z) rfl
  · rcases List.mem_append.mp z with z | z
    · exact n3 p (s1.subset z) p h rfl
    · exact h' z⟩
end TL
/-! TL2: expressions that change nothing. -/
namespace TL
open PySem PySem.Spec PyProof.Rows L2
/-- what may be hidden: it stands, and is no tuple -/
def Hidn (H : Hp) (p : Addr) : Prop := ∃ o, H p = some o ∧ ∀ xs, o ≠ .tup xs
theorem Hidn.ne {H : Hp} {p : Addr} (h : Hidn H p) : H p ≠ none := fun z => by
  obtain ⟨o, e, _⟩ := h
  rw [e] at z
  cases z
theorem Hidn.same {H H' : Hp} {p : Addr} (h : Hidn H p) (s : Same H H') : Hidn H' p := by
  obtain ⟨o, e, n⟩ := h
  exact ⟨o, s _ _ e, n⟩
theorem Hidn.lst {H : Hp} {p : Addr} {vs : List V} (e : H p = some (.lst vs)) : Hidn H p := ⟨_, e, fun _ h => by cases h⟩
theorem Hidn.dT {H : Hp} {p : Addr} {vs : List (List L2.Key × V)} (e : H p = some (.dT vs)) : Hidn H p := ⟨_, e, fun _ h => by cases h⟩
/-- the slots at a heap, O hidden -/
structure Sx (K : PySem.W.Frag) (O : List Addr) {S : Type} (Γ : Cxt S) (σ : L2.St) (H : Hp) (s : S) : Prop where
  ex : ∃ Og, (∀ p ∈ Og, p ∈ O) ∧ Γ.rep K (cut H O) H σ Og s
  hid : ∀ p ∈ O, Hidn H p
/-- the wish of the exception number c -/
def Exw (E : XK) (ca : Nat → Addr) (H : Hp) (c : Nat) : Prop := ∀ d H', Same H H' → E (.ref (ca c)) d H'
theorem Exw.grow {E : XK} {ca : Nat → Addr} {H H' : Hp} {c : Nat} (s : Same H H') (h : Exw E ca H c) : Exw E ca H' c := fun d H2 s2 => h d H2 (s.trans s2)
section
variable {K : PySem.W.Frag} {O : List Addr} {S : Type} {Γ : Cxt S} {σ : L2.St} {H H' : Hp} {s : S}
theorem Sx.grow (h : Sx K O Γ σ H s) (e : Same H H') : Sx K O Γ σ H' s := by
  obtain ⟨⟨Og, h1, h2⟩, hd⟩ := h
  refine ⟨⟨Og, h1, Γ.mono (cut_grow e) (fun p _ o z => e p o z) h2⟩, fun p hp => (hd p hp).same e⟩
/-- a new address is not hidden -/
theorem Sx.out (h : Sx K O Γ σ H s) {p : Addr} (n : H p = none) : p ∉ O := fun hp => (h.hid p hp).ne n
/-- .. with one more hidden -/
theorem Sx.hide (h : Sx K O Γ σ H s) {p : Addr} {o : HO} (n : H p = none) (no : ∀ xs, o ≠ .tup xs) : Sx K (p :: O) Γ σ (upd H p o) s := by
  obtain ⟨⟨Og, h1, h2⟩, hd⟩ := h
  have hp : p ∉ O := fun z => (hd p z).ne n
  refine ⟨⟨Og, fun q hq => List.mem_cons_of_mem _ (h1 q hq), Γ.mono (fun b x e => ?_) (fun q hq x e => ?_) h2⟩, fun q hq => ?_⟩
  · have hb : b ≠ p := fun z => by
      subst z
      rw [cut_out hp, n] at e
      cases e
    by_cases hO : b ∈ O
    · rw [cut_in hO] at e; cases e
    · rw [cut_out hO] at e
      rw [cut_out (by simp [hb, hO]), upd_ne hb]; exact e
  · rw [upd_ne (ne_of_none e n)]; exact e
  · rcases List.mem_cons.mp hq with rfl | hq
    · exact ⟨o, upd_same, no⟩
    · have : q ≠ p := fun e => hp (by rw [← e]; exact hq)
      obtain ⟨o', e, n'⟩ := hd q hq
      exact ⟨o', by rw [upd_ne this]; exact e, n'⟩
end
/-- a class of contexts: what the walk may use of them -/
structure Amb where
  P : Program
  w : World
  K : PySem.W.Frag
  mg : Str → Option Value
  base : Heap
  N : List Str
  sc : Scope
  E : XK
  k : Nat
  fn : Str → Bool
structure Amb.In (A : Amb) (X : Cx) : Prop where
  prog : X.prog = A.P
  w : X.w = A.w
  K : X.K = A.K
  mg : X.mg = A.mg
  base : X.base = A.base
  N : X.N = A.N
  sc : X.env.scope = A.sc
  fn : X.fn = A.fn
  nd : A.N.Nodup
  calm : X.calm = true
  room : Room A.k X.A
  pass : Passes (L2.CX A.P A.w) X A.E
  own : PassesOwn (model X.prog X.w) X.A X.env X.xe
  takes : Takes X (fun c d _ H => A.E c d H)
  top : (A.fn = fun _ => true) → X.stack = X.env :: X.outer ∧ X.env.frame = some X.env.locals
variable {A : Amb} {ca : Nat → Addr}
/-- a global name -/
def GlA (A : Amb) (x : Str) : Prop := A.sc.names.lookup x = some .globalImplicit
theorem Amb.In.gl {X : Cx} (h : A.In X) {x : Str} (g : GlA A x) : Gl X x := by
  show X.env.scope.names.lookup x = some .globalImplicit
  rw [h.sc]; exact g
/-- an expression: a value of the type τ, worth f -/
def PX (A : Amb) (ca : Nat → Addr) (e : Expr) {S α : Type} (Γ : Cxt S) (τ : Ty α) (f : S → Rs α) : Prop :=
  ∃ t, (∀ X, A.In X → PE X e t) ∧ ∀ (O : List Addr) (σ : L2.St) (H : Hp) (s : S) (Q : VK), Sx A.K O Γ σ H s →
    (f s).Post (fun a => ∀ v H', Same H H' → τ.rep A.K (cut H' O) v a → Q v H') (Exw A.E ca H) → t σ H Q
/-- .. a new list -/
def PL (A : Amb) (ca : Nat → Addr) (e : Expr) {S α : Type} (Γ : Cxt S) (c : Ct α) (f : S → Rs α) : Prop :=
  ∃ t, (∀ X, A.In X → PE X e t) ∧ ∀ (O : List Addr) (σ : L2.St) (H : Hp) (s : S) (Q : VK), Sx A.K O Γ σ H s →
    (f s).Post (fun a => ∀ p vs H', H p = none → Same H H' → H' p = some (.lst vs) → vs.length ≤ sizeLine → c.rep A.K (cut H' (p :: O)) vs a → Q (.ref p) H') (Exw A.E ca H) → t σ H Q
/-- .. a list that is looked at -/
def BX (A : Amb) (ca : Nat → Addr) (e : Expr) {S α : Type} (Γ : Cxt S) (c : Ct α) (f : S → Rs α) : Prop :=
  ∃ t, (∀ X, A.In X → PE X e t) ∧ ∀ (O : List Addr) (σ : L2.St) (H : Hp) (s : S) (Q : VK), Sx A.K O Γ σ H s →
    (f s).Post (fun a => ∀ p vs H', Same H H' → H' p = some (.lst vs) → vs.length ≤ sizeLine → c.rep A.K (cut H' O) vs a → Q (.ref p) H') (Exw A.E ca H) → t σ H Q
/-- a test -/
def PB (A : Amb) (ca : Nat → Addr) (e : Expr) {S : Type} (Γ : Cxt S) (f : S → Rs Bool) : Prop :=
  ∃ t, (∀ X, A.In X → PT X e t) ∧ ∀ (O : List Addr) (σ : L2.St) (H : Hp) (s : S) (Q : Bool → Hp → Prop), Sx A.K O Γ σ H s →
    (f s).Post (fun a => ∀ H', Same H H' → Q a H') (Exw A.E ca H) → t σ H Q
/-- arguments -/
def PAs (A : Amb) (ca : Nat → Addr) (es : List Expr) {S U : Type} (Γ : Cxt S) (ts : Tys U) (f : S → Rs U) : Prop :=
  ∃ t, (∀ X, A.In X → PA X es t) ∧ ∀ (O : List Addr) (σ : L2.St) (H : Hp) (s : S) (Q : List V → Hp → Prop), Sx A.K O Γ σ H s →
    (f s).Post (fun u => ∀ vs H', Same H H' → ts.rep A.K (cut H' O) vs u → Q vs H') (Exw A.E ca H) → t σ H Q
section
variable {S α β γ : Type} {Γ : Cxt S} {τ : Ty α} {τ' : Ty β} {c : Ct α} {e a b d : Expr} {f : S → Rs α} {g : S → Rs β} {pos p p2 : Pos}
theorem cut_cons {H : Hp} {O : List Addr} {p : Addr} : Same (cut H (p :: O)) (cut H O) := cut_sub fun q hq => List.mem_cons_of_mem _ hq
theorem PL.px (h : PL A ca e Γ c f) : PX A ca e Γ c.ty f := by
  obtain ⟨t, ht, q⟩ := h
  refine ⟨t, ht, fun O σ H s Q hs hp => q O σ H s Q hs (hp.mono (fun a k p vs H' n sm e z r => k _ H' sm ⟨p, vs, rfl, ?_, z, c.mono cut_cons r⟩) fun _ z => z)⟩
  rw [cut_out (hs.out n)]; exact e
theorem PL.bx (h : PL A ca e Γ c f) : BX A ca e Γ c f := by
  obtain ⟨t, ht, q⟩ := h
  exact ⟨t, ht, fun O σ H s Q hs hp => q O σ H s Q hs (hp.mono (fun a k p vs H' n sm e z r => k p vs H' sm e z (c.mono cut_cons r)) fun _ z => z)⟩
theorem PX.bx (h : PX A ca e Γ c.ty f) : BX A ca e Γ c f := by
  obtain ⟨t, ht, q⟩ := h
  refine ⟨t, ht, fun O σ H s Q hs hp => q O σ H s Q hs (hp.mono (fun a k v H' sm r => ?_) fun _ z => z)⟩
  obtain ⟨p, vs, rfl, e, z, r⟩ := r
  exact k p vs H' sm (cut_le _ _ e) z r
theorem PX.co {g : α → β} (h : PX A ca e Γ τ f) (hc : Tc τ τ' g) : PX A ca e Γ τ' (fun s => (f s).bind fun a => .ok (g a)) := by
  obtain ⟨t, ht, q⟩ := h
  exact ⟨t, ht, fun O σ H s Q hs hp => q O σ H s Q hs ((Rs.post_bind hp).mono (fun a k v H' sm r => k v H' sm (hc.to r)) fun _ z => z)⟩
theorem PX.eq {f' : S → Rs α} (h : PX A ca e Γ τ f) (hf : ∀ s, f s = f' s) : PX A ca e Γ τ f' := by
  have : f = f' := funext hf
  rw [← this]; exact h
/-! ### names, constants -/
theorem PX.var {g : S → α} {i : Nat} {x : Str} (at_ : At Γ i (.val τ) g) (hN : A.N[i]? = some x) (hv : Vis A.sc x) (hd : (x == ("__debug__" : Str)) = false := by decide) (hcd : (x == ("__classdict__" : Str)) = false := by decide) :
    PX A ca (.Name x pos) Γ τ (fun s => .ok (g s)) := by
  refine ⟨_, fun X hX => pe_var (by rw [hX.N]; exact hN) (by rw [hX.sc]; exact hv) hd hcd, fun O σ H s Q hs hp => ?_⟩
  obtain ⟨⟨Og, h1, h2⟩, hd⟩ := hs
  obtain ⟨x, Oi, e, _, rfl, v, rfl, r⟩ := at_.val h2
  exact ⟨v, e, hp v H (Same.refl H) r⟩
theorem BX.var {g : S → α} {i : Nat} {w : Option Addr} {x : Str} (at_ : At Γ i (.own w c) g) (hN : A.N[i]? = some x) (hv : Vis A.sc x) (hd : (x == ("__debug__" : Str)) = false := by decide) (hcd : (x == ("__classdict__" : Str)) = false := by decide) :
    BX A ca (.Name x pos) Γ c (fun s => .ok (g s)) := by
  refine ⟨_, fun X hX => pe_var (by rw [hX.N]; exact hN) (by rw [hX.sc]; exact hv) hd hcd, fun O σ H s Q hs hp => ?_⟩
  obtain ⟨⟨Og, h1, h2⟩, hd⟩ := hs
  obtain ⟨x, Oi, e, _, q, vs, _, rfl, rfl, e3, z3, r⟩ := at_.val h2
  exact ⟨_, e, hp q vs H (Same.refl H) e3 z3 r⟩
theorem PX.int {i : Int} {j : Nat} : PX A ca (.Constant (.int i) j pos) Γ tI (fun _ => .ok i) := ⟨_, fun X hX => pe_int, fun O σ H s Q hs hp => hp _ H (Same.refl H) rfl⟩
theorem PX.bl {i : Bool} {j : Nat} : PX A ca (.Constant (.bool i) j pos) Γ tB (fun _ => .ok i) := ⟨_, fun X hX => pe_bl, fun O σ H s Q hs hp => hp _ H (Same.refl H) rfl⟩
theorem PX.non {j : Nat} : PX A ca (.Constant .none j pos) Γ tN (fun _ => .ok ()) := ⟨_, fun X hX => pe_non, fun O σ H s Q hs hp => hp _ H (Same.refl H) rfl⟩
theorem PX.str {i : Str} {j : Nat} : PX A ca (.Constant (.str i) j pos) Γ tS (fun _ => .ok i) := ⟨_, fun X hX => pe_str, fun O σ H s Q hs hp => hp _ H (Same.refl H) rfl⟩
/-- a module's int -/
theorem PX.globI {x : Str} {i : Int} {u : Value} (hg : GlA A x) (hm : A.mg x = some u) (r : RelV (.int i) u) (hd : (x == ("__debug__" : Str)) = false := by decide) : PX A ca (.Name x pos) Γ tI (fun _ => .ok i) :=
  ⟨_, fun X hX => pe_glob (hX.gl hg) (by rw [hX.mg]; exact hm) r hd, fun O σ H s Q hs hp => hp _ H (Same.refl H) rfl⟩
/-! ### two operands -/
theorem PX.two {R : V → V → Hp → Prop} {δ : Type} {k : α → β → Rs δ} {P : δ → Prop} {O : List Addr} {σ : L2.St} {H : Hp} {s : S} {ta tb : TE}
    (ha : ∀ (O : List Addr) (σ : L2.St) (H : Hp) (s : S) (Q : VK), Sx A.K O Γ σ H s → (f s).Post (fun a => ∀ v H', Same H H' → τ.rep A.K (cut H' O) v a → Q v H') (Exw A.E ca H) → ta σ H Q)
    (hb : ∀ (O : List Addr) (σ : L2.St) (H : Hp) (s : S) (Q : VK), Sx A.K O Γ σ H s → (g s).Post (fun a => ∀ v H', Same H H' → τ'.rep A.K (cut H' O) v a → Q v H') (Exw A.E ca H) → tb σ H Q)
    (hs : Sx A.K O Γ σ H s) (hp : ((f s).bind fun x => (g s).bind fun y => k x y).Post P (Exw A.E ca H))
    (h : ∀ x y v u H2, Same H H2 → τ.rep A.K (cut H2 O) v x → τ'.rep A.K (cut H2 O) u y → (k x y).Post P (Exw A.E ca H) → R v u H2) : ta σ H fun v H1 => tb σ H1 fun u H2 => R v u H2 := by
  refine ha O σ H s _ hs ((Rs.post_bind hp).mono (fun x hx v H1 s1 r1 => ?_) fun _ z => z)
  refine hb O σ H1 s _ (hs.grow s1) ((Rs.post_bind hx).mono (fun y hy u H2 s2 r2 => ?_) fun _ z => z.grow s1)
  exact h x y v u H2 (s1.trans s2) (τ.mono (cut_grow s2) r1) r2 hy
/-- an operation on two ints -/
theorem PX.opI {op : Operator} {C : Int → Int → Prop} [hC : ∀ i j, Decidable (C i j)] {fn : Int → Int → Int} {f g : S → Rs Int} (ho : ∀ X, OpR X (binaryOp op) (rI C fun i j => .int (fn i j))) (ha : PX A ca a Γ tI f) (hb : PX A ca b Γ tI g) :
    PX A ca (.BinOp a op b pos) Γ tI (fun s => (f s).bind fun x => (g s).bind fun y => Rs.guard (decide (C x y)) (.ok (fn x y))) := by
  obtain ⟨ta, pa, qa⟩ := ha
  obtain ⟨tb, pb, qb⟩ := hb
  refine ⟨_, fun X hX => pe_op (ho X) (pa X hX) (pb X hX), fun O σ H s Q hs hp => PX.two qa qb hs hp fun x y v u H2 sm r1 r2 k => ?_⟩
  obtain ⟨hc, k⟩ := Rs.post_guard k
  exact ⟨x, y, r1, r2, of_decide_eq_true hc, k _ H2 sm rfl⟩
theorem PX.opI0 {op : Operator} {fn : Int → Int → Int} {f g : S → Rs Int} (ho : ∀ X, OpR X (binaryOp op) (rI0 fun i j => .int (fn i j))) (ha : PX A ca a Γ tI f) (hb : PX A ca b Γ tI g) :
    PX A ca (.BinOp a op b pos) Γ tI (fun s => (f s).bind fun x => (g s).bind fun y => .ok (fn x y)) := by
  obtain ⟨ta, pa, qa⟩ := ha
  obtain ⟨tb, pb, qb⟩ := hb
  exact ⟨_, fun X hX => pe_op (ho X) (pa X hX) (pb X hX), fun O σ H s Q hs hp => PX.two qa qb hs hp fun x y v u H2 sm r1 r2 k => ⟨x, y, r1, r2, k _ H2 sm rfl⟩⟩
instance {i j : Int} : Decidable (CMul i j) := by unfold CMul; exact inferInstance
instance {i j : Int} : Decidable (CDivN i j) := by unfold CDivN; exact inferInstance
instance {i j : Int} : Decidable (CPow i j) := by unfold CPow; exact inferInstance
theorem PX.add {f g : S → Rs Int} (ha : PX A ca a Γ tI f) (hb : PX A ca b Γ tI g) : PX A ca (.BinOp a .Add b pos) Γ tI (fun s => (f s).bind fun x => (g s).bind fun y => .ok (x + y)) := PX.opI0 (fun _ => op_add) ha hb
theorem PX.sub {f g : S → Rs Int} (ha : PX A ca a Γ tI f) (hb : PX A ca b Γ tI g) : PX A ca (.BinOp a .Sub b pos) Γ tI (fun s => (f s).bind fun x => (g s).bind fun y => .ok (x - y)) := PX.opI0 (fun _ => op_sub) ha hb
theorem PX.mul {f g : S → Rs Int} (ha : PX A ca a Γ tI f) (hb : PX A ca b Γ tI g) : PX A ca (.BinOp a .Mult b pos) Γ tI (fun s => (f s).bind fun x => (g s).bind fun y => Rs.guard (decide (CMul x y)) (.ok (x * y))) := PX.opI (fun _ => op_mul) ha hb
theorem PX.fdiv {f g : S → Rs Int} (ha : PX A ca a Γ tI f) (hb : PX A ca b Γ tI g) : PX A ca (.BinOp a .FloorDiv b pos) Γ tI (fun s => (f s).bind fun x => (g s).bind fun y => Rs.guard (decide (CDivN x y)) (.ok (x.fdiv y))) := PX.opI (fun _ => op_fdivN) ha hb
theorem PX.mod {f g : S → Rs Int} (ha : PX A ca a Γ tI f) (hb : PX A ca b Γ tI g) : PX A ca (.BinOp a .Mod b pos) Γ tI (fun s => (f s).bind fun x => (g s).bind fun y => Rs.guard (decide (y ≠ 0)) (.ok (x.fmod y))) := PX.opI (fun _ => op_modN) ha hb
theorem PX.pow {f g : S → Rs Int} (ha : PX A ca a Γ tI f) (hb : PX A ca b Γ tI g) : PX A ca (.BinOp a .Pow b pos) Γ tI (fun s => (f s).bind fun x => (g s).bind fun y => Rs.guard (decide (CPow x y)) (.ok (x ^ y.toNat))) := PX.opI (fun _ => op_pow) ha hb
theorem PX.neg {f : S → Rs Int} (ha : PX A ca a Γ tI f) : PX A ca (.UnaryOp .USub a pos) Γ tI (fun s => (f s).bind fun x => .ok (-x)) := by
  obtain ⟨ta, pa, qa⟩ := ha
  refine ⟨_, fun X hX => pe_un un_neg (pa X hX), fun O σ H s Q hs hp => qa O σ H s _ hs ((Rs.post_bind hp).mono (fun x k v H' sm r => ⟨x, r, k _ H' sm rfl⟩) fun _ z => z)⟩
/-! ### comparisons -/
theorem PX.cmpI {op : CmpOp} {fn : Int → Int → Bool} {f g : S → Rs Int} (ho : ∀ X, OpR X (compareOp op) (rI0 fun i j => .bl (fn i j))) (hm : behindInMarks op b = false) (ha : PX A ca a Γ tI f) (hb : PX A ca b Γ tI g) :
    PX A ca (.Compare a [op] [b] pos) Γ tB (fun s => (f s).bind fun x => (g s).bind fun y => .ok (fn x y)) := by
  obtain ⟨ta, pa, qa⟩ := ha
  obtain ⟨tb, pb, qb⟩ := hb
  exact ⟨_, fun X hX => pe_cmpR (ho X) (pa X hX) (pb X hX) hm, fun O σ H s Q hs hp => PX.two qa qb hs hp fun x y v u H2 sm r1 r2 k => ⟨x, y, r1, r2, k _ H2 sm rfl⟩⟩
theorem PB.cmpI {op : CmpOp} {fn : Int → Int → Bool} {f g : S → Rs Int} (ho : ∀ X, OpR X (compareOp op) (rI0 fun i j => .bl (fn i j))) (hm : behindInMarks op b = false) (ha : PX A ca a Γ tI f) (hb : PX A ca b Γ tI g) :
    PB A ca (.Compare a [op] [b] pos) Γ (fun s => (f s).bind fun x => (g s).bind fun y => .ok (fn x y)) := by
  obtain ⟨ta, pa, qa⟩ := ha
  obtain ⟨tb, pb, qb⟩ := hb
  exact ⟨_, fun X hX => pt_cmpR (ho X) (pa X hX) (pb X hX) hm, fun O σ H s Q hs hp => PX.two qa qb hs hp fun x y v u H2 sm r1 r2 k => ⟨x, y, r1, r2, _, rfl, k H2 sm⟩⟩
theorem op_eqI {X : Cx} : OpR X (compareOp .Eq) (rI0 fun i j => .bl (decide (i = j))) := fun pins s σ H x y v u Q I rx ry ⟨i, j, hx, hy, q⟩ => by
  subst hx hy
  refine op_eq pins s σ H _ _ v u Q I rx ry ⟨rfl, ?_⟩
  have : decide (V.int i = V.int j) = decide (i = j) := by
    by_cases h : i = j
    · rw [decide_eq_true h, decide_eq_true (by rw [h])]
    · rw [decide_eq_false h, decide_eq_false fun z => h (V.int.inj z)]
  rw [this]; exact q
theorem op_neI {X : Cx} : OpR X (compareOp .NotEq) (rI0 fun i j => .bl (!decide (i = j))) := fun pins s σ H x y v u Q I rx ry ⟨i, j, hx, hy, q⟩ => by
  subst hx hy
  refine op_ne pins s σ H _ _ v u Q I rx ry ⟨rfl, ?_⟩
  have : decide (V.int i = V.int j) = decide (i = j) := by
    by_cases h : i = j
    · rw [decide_eq_true h, decide_eq_true (by rw [h])]
    · rw [decide_eq_false h, decide_eq_false fun z => h (V.int.inj z)]
  rw [this]; exact q
theorem PX.lt {f g : S → Rs Int} (ha : PX A ca a Γ tI f) (hb : PX A ca b Γ tI g) : PX A ca (.Compare a [.Lt] [b] pos) Γ tB (fun s => (f s).bind fun x => (g s).bind fun y => .ok (decide (x < y))) := PX.cmpI (fun _ => op_lt) (nomark _) ha hb
theorem PX.le {f g : S → Rs Int} (ha : PX A ca a Γ tI f) (hb : PX A ca b Γ tI g) : PX A ca (.Compare a [.LtE] [b] pos) Γ tB (fun s => (f s).bind fun x => (g s).bind fun y => .ok (decide (x ≤ y))) := PX.cmpI (fun _ => op_le) (nomark _) ha hb
theorem PX.gt {f g : S → Rs Int} (ha : PX A ca a Γ tI f) (hb : PX A ca b Γ tI g) : PX A ca (.Compare a [.Gt] [b] pos) Γ tB (fun s => (f s).bind fun x => (g s).bind fun y => .ok (decide (y < x))) := PX.cmpI (fun _ => op_gt) (nomark _) ha hb
theorem PX.ge {f g : S → Rs Int} (ha : PX A ca a Γ tI f) (hb : PX A ca b Γ tI g) : PX A ca (.Compare a [.GtE] [b] pos) Γ tB (fun s => (f s).bind fun x => (g s).bind fun y => .ok (decide (y ≤ x))) := PX.cmpI (fun _ => op_ge) (nomark _) ha hb
theorem PX.eqI {f g : S → Rs Int} (ha : PX A ca a Γ tI f) (hb : PX A ca b Γ tI g) : PX A ca (.Compare a [.Eq] [b] pos) Γ tB (fun s => (f s).bind fun x => (g s).bind fun y => .ok (decide (x = y))) := PX.cmpI (fun _ => op_eqI) (nomark _) ha hb
theorem PX.neI {f g : S → Rs Int} (ha : PX A ca a Γ tI f) (hb : PX A ca b Γ tI g) : PX A ca (.Compare a [.NotEq] [b] pos) Γ tB (fun s => (f s).bind fun x => (g s).bind fun y => .ok (!decide (x = y))) := PX.cmpI (fun _ => op_neI) (nomark _) ha hb
theorem PB.lt {f g : S → Rs Int} (ha : PX A ca a Γ tI f) (hb : PX A ca b Γ tI g) : PB A ca (.Compare a [.Lt] [b] pos) Γ (fun s => (f s).bind fun x => (g s).bind fun y => .ok (decide (x < y))) := PB.cmpI (fun _ => op_lt) (nomark _) ha hb
theorem PB.le {f g : S → Rs Int} (ha : PX A ca a Γ tI f) (hb : PX A ca b Γ tI g) : PB A ca (.Compare a [.LtE] [b] pos) Γ (fun s => (f s).bind fun x => (g s).bind fun y => .ok (decide (x ≤ y))) := PB.cmpI (fun _ => op_le) (nomark _) ha hb
theorem PB.gt {f g : S → Rs Int} (ha : PX A ca a Γ tI f) (hb : PX A ca b Γ tI g) : PB A ca (.Compare a [.Gt] [b] pos) Γ (fun s => (f s).bind fun x => (g s).bind fun y => .ok (decide (y < x))) := PB.cmpI (fun _ => op_gt) (nomark _) ha hb
theorem PB.ge {f g : S → Rs Int} (ha : PX A ca a Γ tI f) (hb : PX A ca b Γ tI g) : PB A ca (.Compare a [.GtE] [b] pos) Γ (fun s => (f s).bind fun x => (g s).bind fun y => .ok (decide (y ≤ x))) := PB.cmpI (fun _ => op_ge) (nomark _) ha hb
theorem PB.eqI {f g : S → Rs Int} (ha : PX A ca a Γ tI f) (hb : PX A ca b Γ tI g) : PB A ca (.Compare a [.Eq] [b] pos) Γ (fun s => (f s).bind fun x => (g s).bind fun y => .ok (decide (x = y))) := PB.cmpI (fun _ => op_eqI) (nomark _) ha hb
theorem PB.neI {f g : S → Rs Int} (ha : PX A ca a Γ tI f) (hb : PX A ca b Γ tI g) : PB A ca (.Compare a [.NotEq] [b] pos) Γ (fun s => (f s).bind fun x => (g s).bind fun y => .ok (!decide (x = y))) := PB.cmpI (fun _ => op_neI) (nomark _) ha hb
/-- not None: the values of τ are never None -/
structure NN {α : Type} (τ : Ty α) : Prop where
  nn : ∀ {K : PySem.W.Frag} {H : Hp} {v : V} {a : α}, τ.rep K H v a → v ≠ .non
theorem NN.int : NN tI := ⟨fun h z => by rw [h] at z; cases z⟩
theorem NN.bl : NN tB := ⟨fun h z => by rw [h] at z; cases z⟩
theorem NN.str : NN tS := ⟨fun h z => by rw [h] at z; cases z⟩
theorem NN.tup {α : Type} {ts : Tys α} : NN (tTup ts) := ⟨fun h z => by obtain ⟨_, _, e, _⟩ := h; rw [e] at z; cases z⟩
theorem NN.lup {α : Type} {ts : Tys α} : NN (tLup ts) := ⟨fun h z => by obtain ⟨_, _, e, _⟩ := h; rw [e] at z; cases z⟩
theorem NN.lst {α : Type} {τ : Ty α} : NN (tL τ) := ⟨fun h z => by obtain ⟨_, _, e, _⟩ := h; rw [e] at z; cases z⟩
theorem NN.tpl {α : Type} {τ : Ty α} : NN (tT τ) := ⟨fun h z => by obtain ⟨_, _, e, _⟩ := h; rw [e] at z; cases z⟩
theorem NN.is {α : Type} {τ : Ty α} (n : NN τ) {K : PySem.W.Frag} {H : Hp} {v : V} {o : Option α} (r : (tO τ).rep K H v o) : decide (v = .non) = o.isNone := by
  cases o with
  | none => rw [show v = .non from r]; rfl
  | some a => exact decide_eq_false (n.nn r)
theorem PX.isN {f : S → Rs (Option α)} (n : NN τ) (ha : PX A ca a Γ (tO τ) f) {j : Nat} : PX A ca (.Compare a [.Is] [.Constant .none j p] pos) Γ tB (fun s => (f s).bind fun x => .ok x.isNone) := by
  obtain ⟨ta, pa, qa⟩ := ha
  refine ⟨_, fun X hX => pe_cmp (pc_isN (pa X hX)) rfl, fun O σ H s Q hs hp => qa O σ H s _ hs ((Rs.post_bind hp).mono (fun x k v H' sm r => ?_) fun _ z => z)⟩
  rw [n.is r]; exact k _ H' sm rfl
theorem PX.notN {f : S → Rs (Option α)} (n : NN τ) (ha : PX A ca a Γ (tO τ) f) {j : Nat} : PX A ca (.Compare a [.IsNot] [.Constant .none j p] pos) Γ tB (fun s => (f s).bind fun x => .ok x.isSome) := by
  obtain ⟨ta, pa, qa⟩ := ha
  refine ⟨_, fun X hX => pe_cmp (pc_notN (pa X hX)) rfl, fun O σ H s Q hs hp => qa O σ H s _ hs ((Rs.post_bind hp).mono (fun x k v H' sm r => ?_) fun _ z => z)⟩
  rw [n.is r]
  have : (!x.isNone) = x.isSome := by cases x <;> rfl
  rw [this]; exact k _ H' sm rfl
/-- a value that is True or False, as a test -/
theorem PX.pb {f : S → Rs Bool} (h : PX A ca e Γ tB f) (he : ∀ env whole, isTrue e env whole = (do let v ← whole; standAt e.pos; holding [v] (truthy v))) : PB A ca e Γ f := by
  obtain ⟨t, ht, q⟩ := h
  exact ⟨_, fun X hX => pt_val (ht X hX) (he X.env), fun O σ H s Q hs hp => q O σ H s _ hs (hp.mono (fun x k v H' sm r => ⟨x, r, k H' sm⟩) fun _ z => z)⟩
/-- a comparison as a test -/
theorem PB.isN {f : S → Rs (Option α)} (n : NN τ) (ha : PX A ca a Γ (tO τ) f) {j : Nat} : PB A ca (.Compare a [.Is] [.Constant .none j p] pos) Γ (fun s => (f s).bind fun x => .ok x.isNone) := by
  obtain ⟨ta, pa, qa⟩ := ha
  refine ⟨_, fun X hX => pt_cmp (pc_isN (pa X hX)) rfl, fun O σ H s Q hs hp => qa O σ H s _ hs ((Rs.post_bind hp).mono (fun x k v H' sm r => ⟨_, rfl, ?_⟩) fun _ z => z)⟩
  rw [n.is r]; exact k H' sm
theorem PB.notN {f : S → Rs (Option α)} (n : NN τ) (ha : PX A ca a Γ (tO τ) f) {j : Nat} : PB A ca (.Compare a [.IsNot] [.Constant .none j p] pos) Γ (fun s => (f s).bind fun x => .ok x.isSome) := by
  obtain ⟨ta, pa, qa⟩ := ha
  refine ⟨_, fun X hX => pt_cmp (pc_notN (pa X hX)) rfl, fun O σ H s Q hs hp => qa O σ H s _ hs ((Rs.post_bind hp).mono (fun x k v H' sm r => ⟨_, rfl, ?_⟩) fun _ z => z)⟩
  rw [n.is r]
  have : (!x.isNone) = x.isSome := by cases x <;> rfl
  rw [this]; exact k H' sm
/-! ### and, or, not -/
/-- a chain of and, or -/
def PBw (A : Amb) (ca : Nat → Addr) (e : Expr) {S : Type} (Γ : Cxt S) (f : S → Rs Bool) : Prop :=
  ∃ t, (∀ X, A.In X → PW X e t) ∧ ∀ (O : List Addr) (σ : L2.St) (H : Hp) (s : S) (Q : Bool → Hp → Prop), Sx A.K O Γ σ H s → (f s).Post (fun a => ∀ H', Same H H' → Q a H') (Exw A.E ca H) → t σ H Q
variable {rest : List Expr} {f1 f2 : S → Rs Bool}
def rAnd (x y : Rs Bool) : Rs Bool := x.bind fun c => if c then y else .ok false
def rOr (x y : Rs Bool) : Rs Bool := x.bind fun c => if c then .ok true else y
theorem PBw.pb (h : PBw A ca e Γ f1) : PB A ca e Γ f1 := let ⟨t, p, q⟩ := h; ⟨t, fun X hX => (p X hX).pt, q⟩
theorem PB.and1 (h : PB A ca a Γ f1) : PBw A ca (.BoolOp .And [a] pos) Γ f1 := let ⟨t, p, q⟩ := h; ⟨t, fun X hX => pw_and1 (p X hX), q⟩
theorem PB.or1 (h : PB A ca a Γ f1) : PBw A ca (.BoolOp .Or [a] pos) Γ f1 := let ⟨t, p, q⟩ := h; ⟨t, fun X hX => pw_or1 (p X hX), q⟩
theorem PB.and (ha : PB A ca a Γ f1) (hb : PBw A ca (.BoolOp .And (b :: rest) pos) Γ f2) : PBw A ca (.BoolOp .And (a :: b :: rest) pos) Γ (fun s => rAnd (f1 s) (f2 s)) := by
  obtain ⟨ta, pa, qa⟩ := ha
  obtain ⟨tb, pb, qb⟩ := hb
  refine ⟨_, fun X hX => pw_and (pa X hX) (pb X hX), fun O σ H s Q hs hp => qa O σ H s _ hs ((Rs.post_bind hp).mono (fun c k H' sm => ?_) fun _ z => z)⟩
  cases c with
  | true => exact iteT (qb O σ H' s _ (hs.grow sm) (k.mono (fun a k H2 s2 => k H2 (sm.trans s2)) fun _ z => z.grow sm))
  | false => exact iteF (k H' sm)
theorem PB.or (ha : PB A ca a Γ f1) (hb : PBw A ca (.BoolOp .Or (b :: rest) pos) Γ f2) : PBw A ca (.BoolOp .Or (a :: b :: rest) pos) Γ (fun s => rOr (f1 s) (f2 s)) := by
  obtain ⟨ta, pa, qa⟩ := ha
  obtain ⟨tb, pb, qb⟩ := hb
  refine ⟨_, fun X hX => pw_or (pa X hX) (pb X hX), fun O σ H s Q hs hp => qa O σ H s _ hs ((Rs.post_bind hp).mono (fun c k H' sm => ?_) fun _ z => z)⟩
  cases c with
  | true => exact iteT (k H' sm)
  | false => exact iteF (qb O σ H' s _ (hs.grow sm) (k.mono (fun a k H2 s2 => k H2 (sm.trans s2)) fun _ z => z.grow sm))
theorem PB.not (ha : PB A ca a Γ f1) : PB A ca (.UnaryOp .Not a pos) Γ (fun s => (f1 s).bind fun c => .ok (!c)) := by
  obtain ⟨ta, pa, qa⟩ := ha
  exact ⟨_, fun X hX => pt_not (pa X hX), fun O σ H s Q hs hp => qa O σ H s _ hs ((Rs.post_bind hp).mono (fun c k H' sm => k H' sm) fun _ z => z)⟩
/-- .. as values -/
theorem PX.one {op : BoolOp} (h : PX A ca a Γ tB f1) : PX A ca (.BoolOp op [a] pos) Γ tB f1 := let ⟨t, p, q⟩ := h; ⟨t, fun X hX => pe_one (p X hX), q⟩
theorem PX.and (ha : PX A ca a Γ tB f1) (hb : PX A ca (.BoolOp .And (b :: rest) pos) Γ tB f2) : PX A ca (.BoolOp .And (a :: b :: rest) pos) Γ tB (fun s => rAnd (f1 s) (f2 s)) := by
  obtain ⟨ta, pa, qa⟩ := ha
  obtain ⟨tb, pb, qb⟩ := hb
  refine ⟨_, fun X hX => pe_and (pa X hX) (pb X hX), fun O σ H s Q hs hp => qa O σ H s _ hs ((Rs.post_bind hp).mono (fun c k v H' sm r => ⟨c, r, ?_⟩) fun _ z => z)⟩
  cases c with
  | true => exact iteT (qb O σ H' s _ (hs.grow sm) (k.mono (fun a k v H2 s2 r => k v H2 (sm.trans s2) r) fun _ z => z.grow sm))
  | false => exact iteF (k _ H' sm rfl)
theorem PX.or (ha : PX A ca a Γ tB f1) (hb : PX A ca (.BoolOp .Or (b :: rest) pos) Γ tB f2) : PX A ca (.BoolOp .Or (a :: b :: rest) pos) Γ tB (fun s => rOr (f1 s) (f2 s)) := by
  obtain ⟨ta, pa, qa⟩ := ha
  obtain ⟨tb, pb, qb⟩ := hb
  refine ⟨_, fun X hX => pe_or (pa X hX) (pb X hX), fun O σ H s Q hs hp => qa O σ H s _ hs ((Rs.post_bind hp).mono (fun c k v H' sm r => ⟨c, r, ?_⟩) fun _ z => z)⟩
  cases c with
  | true => exact iteT (k _ H' sm rfl)
  | false => exact iteF (qb O σ H' s _ (hs.grow sm) (k.mono (fun a k v H2 s2 r => k v H2 (sm.trans s2) r) fun _ z => z.grow sm))
theorem PX.not (ha : PX A ca a Γ tB f1) : PX A ca (.UnaryOp .Not a pos) Γ tB (fun s => (f1 s).bind fun c => .ok (!c)) := by
  obtain ⟨ta, pa, qa⟩ := ha
  exact ⟨_, fun X hX => pe_not (pa X hX), fun O σ H s Q hs hp => qa O σ H s _ hs ((Rs.post_bind hp).mono (fun c k v H' sm r => ⟨c, r, k _ H' sm rfl⟩) fun _ z => z)⟩
theorem PX.ifx {f g : S → Rs α} (hc : PB A ca d Γ f1) (ha : PX A ca a Γ τ f) (hb : PX A ca b Γ τ g) : PX A ca (.IfExp d a b pos) Γ τ (fun s => (f1 s).bind fun c => if c then f s else g s) := by
  obtain ⟨tc, pc, qc⟩ := hc
  obtain ⟨ta, pa, qa⟩ := ha
  obtain ⟨tb, pb, qb⟩ := hb
  refine ⟨_, fun X hX => pe_ifExp (pc X hX) (pa X hX) (pb X hX), fun O σ H s Q hs hp => qc O σ H s _ hs ((Rs.post_bind hp).mono (fun c k H' sm => ?_) fun _ z => z)⟩
  cases c with
  | true => exact iteT (qa O σ H' s _ (hs.grow sm) (k.mono (fun a k v H2 s2 r => k v H2 (sm.trans s2) r) fun _ z => z.grow sm))
  | false => exact iteF (qb O σ H' s _ (hs.grow sm) (k.mono (fun a k v H2 s2 r => k v H2 (sm.trans s2) r) fun _ z => z.grow sm))
/-! ### arguments, tuples, lists -/
def star : Expr → Bool
  | .Starred _ _ => true
  | _ => false
theorem star_each {e : Expr} {es : List Expr} {env : Env} (h : star e = false) : starEach (e :: es) env = (false, eval e env) :: starEach es env := by
  cases e <;> first | rfl | (exact absurd h (by simp [star]))
theorem star_any {pos : Pos} {env : Env} : ∀ {es : List Expr}, es.any star = false → (backTo pos (starEach es env)).any (·.1) = false := by
  intro es h
  have key : ∀ es : List Expr, es.any star = false → ∀ x ∈ starEach es env, x.1 = false := by
    intro es
    induction es with
    | nil => intro _ x hx; simp [starEach] at hx
    | cons e r ih =>
      intro h x hx
      simp only [List.any_cons, Bool.or_eq_false_iff] at h
      rw [star_each h.1] at hx
      rcases List.mem_cons.mp hx with rfl | hx
      · rfl
      · exact ih h.2 x hx
  unfold backTo
  rw [List.any_eq_false]
  intro x hx
  obtain ⟨y, hy, rfl⟩ := List.mem_map.mp hx
  simpa using key es h y hy
theorem PAs.nil : PAs A ca [] Γ .nil (fun _ => .ok ()) := ⟨_, fun X hX => pa_nil, fun O σ H s Q hs hp => hp _ H (Same.refl H) rfl⟩
theorem PAs.one (h : PX A ca e Γ τ f) (hs : star e = false := by rfl) : PAs A ca [e] Γ (.one τ) f := by
  obtain ⟨t, ht, q⟩ := h
  exact ⟨_, fun X hX => pa_cons (ht X hX) pa_nil (star_each hs), fun O σ H s Q hs hp => q O σ H s _ hs (hp.mono (fun a k v H' sm r => k _ H' sm ⟨v, rfl, r⟩) fun _ z => z)⟩
theorem PAs.cons {es : List Expr} {ts : Tys β} (h : PX A ca e Γ τ f) (hr : PAs A ca es Γ ts g) (hs : star e = false := by rfl) : PAs A ca (e :: es) Γ (.cons τ ts) (fun s => (f s).bind fun x => (g s).bind fun y => .ok (x, y)) := by
  obtain ⟨t, ht, q⟩ := h
  obtain ⟨tr, hr, qr⟩ := hr
  refine ⟨_, fun X hX => pa_cons (ht X hX) (hr X hX) (star_each hs), fun O σ H s Q hs hp => q O σ H s _ hs ((Rs.post_bind hp).mono (fun x k v H1 s1 r => ?_) fun _ z => z)⟩
  exact qr O σ H1 s _ (hs.grow s1) ((Rs.post_bind k).mono (fun y k us H2 s2 r2 => k _ H2 (s1.trans s2) ⟨v, us, rfl, τ.mono (cut_grow s2) r, r2⟩) fun _ z => z.grow s1)
theorem upd_cut {H : Hp} {O : List Addr} {p : Addr} {o : HO} (h : p ∉ O) : cut (upd H p o) O p = some o := by rw [cut_out h, upd_same]
theorem Sx.out' {K : PySem.W.Frag} {O : List Addr} {σ : L2.St} {H H' : Hp} {s : S} (h : Sx K O Γ σ H s) (e : Same H H') {p : Addr} (n : H' p = none) : p ∉ O := h.out (e.free n)
theorem PX.tup {es : List Expr} {ts : Tys α} {k : Nat} (h : PAs A ca es Γ ts f) (hl : ts.len ≤ 1000 := by decide) : PX A ca (.Tuple es k pos) Γ (tTup ts) f := by
  obtain ⟨t, ht, q⟩ := h
  refine ⟨_, fun X hX => pe_tup (ht X hX), fun O σ H s Q hs hp => q O σ H s _ hs (hp.mono (fun a k vs H' sm r => ⟨?_, fun p n => ?_⟩) fun _ z => z)⟩
  · rw [ts.length r]; exact Nat.le_of_lt (small1000 hl)
  · refine k _ _ (sm.trans (same_upd n)) ⟨p, vs, rfl, upd_cut (hs.out' sm n), ts.mono (cut_grow (same_upd n)) r⟩
/-- (): the empty tuple of anything -/
theorem PX.tup0 {k : Nat} : PX A ca (.Tuple [] k pos) Γ (tT τ) (fun _ => .ok []) := by
  refine ⟨_, fun X hX => pe_tup pa_nil, fun O σ H s Q hs hp => ⟨Nat.zero_le _, fun p n => ?_⟩⟩
  exact hp _ _ (same_upd n) ⟨p, [], rfl, upd_cut (hs.out n), Nat.zero_le _, .nil⟩
theorem cut_new {H : Hp} {O : List Addr} {p : Addr} {o : HO} (n : H p = none) : Same (cut H O) (cut (upd H p o) (p :: O)) := fun b x e => by
  by_cases hO : b ∈ O
  · rw [cut_in hO] at e; cases e
  · rw [cut_out hO] at e
    have hb : b ≠ p := ne_of_none e n
    rw [cut_out (by simp [hb, hO]), upd_ne hb]; exact e
/-- a list of fixed places -/
theorem PL.lup {es : List Expr} {ts : Tys α} (h : PAs A ca es Γ ts f) (hl : ts.len ≤ 1000 := by decide) : PL A ca (.List es pos) Γ (cR ts) f := by
  obtain ⟨t, ht, q⟩ := h
  refine ⟨_, fun X hX => pe_lst (ht X hX), fun O σ H s Q hs hp => q O σ H s _ hs (hp.mono (fun a k vs H' sm r => ⟨?_, fun p n => ?_⟩) fun _ z => z)⟩
  · rw [ts.length r]; exact Nat.le_of_lt (small1000 hl)
  · exact k p vs _ (sm.free n) (sm.trans (same_upd n)) upd_same (by rw [ts.length r]; exact Nat.le_of_lt (small1000 hl)) (ts.mono (cut_new n) r)
/-- items of one type -/
inductive PIs (A : Amb) (ca : Nat → Addr) {S α : Type} (Γ : Cxt S) (τ : Ty α) : List Expr → (S → Rs (List α)) → Prop where
  | nil : PIs A ca Γ τ [] (fun _ => .ok [])
  | cons {e : Expr} {es : List Expr} {f : S → Rs α} {g : S → Rs (List α)} (h : PX A ca e Γ τ f) (r : PIs A ca Γ τ es g) (hs : star e = false := by rfl) : PIs A ca Γ τ (e :: es) (fun s => (f s).bind fun x => (g s).bind fun y => .ok (x :: y))
theorem PIs.pa {es : List Expr} {g : S → Rs (List α)} (h : PIs A ca Γ τ es g) : ∃ t, (∀ X, A.In X → PA X es t) ∧ ∀ (O : List Addr) (σ : L2.St) (H : Hp) (s : S) (Q : List V → Hp → Prop), Sx A.K O Γ σ H s →
    (g s).Post (fun u => ∀ vs H', Same H H' → vs.length = es.length → Paired (τ.rep A.K (cut H' O)) vs u → Q vs H') (Exw A.E ca H) → t σ H Q := by
  induction h with
  | nil => exact ⟨_, fun X hX => pa_nil, fun O σ H s Q hs hp => hp _ H (Same.refl H) rfl .nil⟩
  | cons h r hs ih =>
    obtain ⟨t, ht, q⟩ := h
    obtain ⟨tr, hr, qr⟩ := ih
    refine ⟨_, fun X hX => pa_cons (ht X hX) (hr X hX) (star_each hs), fun O σ H s Q hs hp => q O σ H s _ hs ((Rs.post_bind hp).mono (fun x k v H1 s1 r => ?_) fun _ z => z)⟩
    exact qr O σ H1 s _ (hs.grow s1) ((Rs.post_bind k).mono (fun y k us H2 s2 l2 r2 => k _ H2 (s1.trans s2) (by rw [List.length_cons, List.length_cons, l2]) (.cons (τ.mono (cut_grow s2) r) r2)) fun _ z => z.grow s1)
theorem PL.lst {es : List Expr} {g : S → Rs (List α)} (h : PIs A ca Γ τ es g) (hl : es.length ≤ 1000 := by decide) : PL A ca (.List es pos) Γ (cL τ) g := by
  obtain ⟨t, ht, q⟩ := h.pa
  refine ⟨_, fun X hX => pe_lst (ht X hX), fun O σ H s Q hs hp => q O σ H s _ hs (hp.mono (fun a k vs H' sm l r => ⟨?_, fun p n => ?_⟩) fun _ z => z)⟩
  · rw [l]; exact Nat.le_of_lt (small1000 hl)
  · exact k p vs _ (sm.free n) (sm.trans (same_upd n)) upd_same (by rw [l]; exact Nat.le_of_lt (small1000 hl)) (Paired.mono' (cut_new n) r)
end
end TL
/-! TL3: places, lengths, built-ins, slices, sorting, in, calls of defs. -/
namespace TL
open PySem PySem.Spec PyProof.Rows L2
variable {A : Amb} {ca : Nat → Addr}
/-- a built-in's name -/
structure Blt (A : Amb) (x : Str) (u : Value) : Prop where
  gl : GlA A x
  mg : A.mg x = none
  bt : bootBuiltins x = some u
  nn : x ≠ "__name__" := by decide
  db : (x == ("__debug__" : Str)) = false := by decide
section
variable {S α β γ U : Type} {Γ : Cxt S} {τ : Ty α} {τ' : Ty β} {c : Ct α} {e a b d : Expr} {f : S → Rs α} {g : S → Rs β} {pos p p2 : Pos} {x : Str}
theorem call1 {X : Cx} {id : String} {r : List V → Hp → VK → Prop} {ta : TE} (hX : A.In X) (B : Blt A x (.builtin id)) (hr : CallR X (.builtin id) r) (pa : PE X a ta) (hs : star a = false) : PE X (.Call (.Name x p) [a] [] pos) (tCB r (tCons ta tNil)) :=
  pe_callB hr (hX.gl B.gl) (by rw [hX.mg]; exact B.mg) B.bt (pa_cons pa pa_nil (star_each hs)) B.nn B.db (star_each hs) (star_any rfl)
theorem call2 {X : Cx} {id : String} {r : List V → Hp → VK → Prop} {ta tb : TE} (hX : A.In X) (B : Blt A x (.builtin id)) (hr : CallR X (.builtin id) r) (pa : PE X a ta) (pb : PE X b tb) (hs : star a = false) (hs2 : star b = false) : PE X (.Call (.Name x p) [a, b] [] pos) (tCB r (tCons ta (tCons tb tNil))) :=
  pe_callB hr (hX.gl B.gl) (by rw [hX.mg]; exact B.mg) B.bt (pa_cons pa (pa_cons pb pa_nil (star_each hs2)) (star_each hs)) B.nn B.db (star_each hs) (star_any (by simp [hs2]))
theorem callT1 {X : Cx} {T : String} {r : List V → Hp → VK → Prop} {ta : TE} (hX : A.In X) (B : Blt A x (.type T)) (hr : CallR X (.type T) r) (pa : PE X a ta) (hs : star a = false) : PE X (.Call (.Name x p) [a] [] pos) (tCB r (tCons ta tNil)) :=
  pe_callTy hr (hX.gl B.gl) (by rw [hX.mg]; exact B.mg) B.bt (pa_cons pa pa_nil (star_each hs)) B.nn B.db (star_each hs) (star_any rfl)
/-! ### places -/
theorem Paired.get {F : V → α → Prop} {vs : List V} {as : List α} (h : Paired F vs as) : ∀ {i : Nat} {a : α}, as[i]? = some a → ∃ v, vs[i]? = some v ∧ F v a := by
  induction h with
  | nil => intro i a e; simp at e
  | cons r _ ih =>
    intro i a e
    cases i with
    | zero => simp at e; subst e; exact ⟨_, rfl, r⟩
    | succ i => simpa using ih (i := i) (a := a) (by simpa using e)
theorem Paired.atI {F : V → α → Prop} {vs : List V} {as : List α} (h : Paired F vs as) {i : Int} {a : α} (e : atI as i = some a) : ∃ v, atI vs i = some v ∧ F v a := by
  unfold L2.atI at e ⊢
  rw [Paired.length h]
  cases q : ixN as.length i with
  | none => rw [q] at e; cases e
  | some j =>
    rw [q] at e
    obtain ⟨v, h1, h2⟩ := Paired.get h (i := j) e
    exact ⟨v, h1, h2⟩
def PlainA (b : Expr) : Prop := PlainIx b
theorem PX.ixL {f : S → Rs (List α)} {g : S → Rs Int} (hs : PlainIx b) (ha : BX A ca a Γ (cL τ) f) (hb : PX A ca b Γ tI g) : PX A ca (.Subscript a b pos) Γ τ (fun s => (f s).bind fun xs => (g s).bind fun i => Rs.ofOpt (atI xs i)) := by
  obtain ⟨ta, pa, qa⟩ := ha
  obtain ⟨tb, pb, qb⟩ := hb
  refine ⟨tOp (rIxL A.K) ta tb, fun X hX => by rw [← hX.K]; exact pe_ix ix_list (pa X hX) (pb X hX) hs, fun O σ H s Q hs hp => ?_⟩
  refine qa O σ H s _ hs ((Rs.post_bind hp).mono (fun xs k p vs H1 s1 e z r => ?_) fun _ z => z)
  refine qb O σ H1 s _ (hs.grow s1) ((Rs.post_bind k).mono (fun i k v H2 s2 ri => ?_) fun _ z => z.grow s1)
  obtain ⟨y, ey, k⟩ := Rs.post_ofOpt k
  obtain ⟨w, ew, rw⟩ := Paired.atI r ey
  exact ⟨p, vs, i, w, rfl, ri, .inl (.inl (s2 _ _ e)), ew, k w H2 (s1.trans s2) (τ.mono (cut_grow s2) rw)⟩
theorem PX.ixF {f : S → Rs (List α)} {g : S → Rs Int} (hs : PlainIx b) (ha : PX A ca a Γ (tF τ) f) (hb : PX A ca b Γ tI g) : PX A ca (.Subscript a b pos) Γ τ (fun s => (f s).bind fun xs => (g s).bind fun i => Rs.ofOpt (atI xs i)) := by
  obtain ⟨ta, pa, qa⟩ := ha
  obtain ⟨tb, pb, qb⟩ := hb
  refine ⟨tOp (rIxL A.K) ta tb, fun X hX => by rw [← hX.K]; exact pe_ix ix_list (pa X hX) (pb X hX) hs, fun O σ H s Q hs hp => ?_⟩
  refine qa O σ H s _ hs ((Rs.post_bind hp).mono (fun xs k v H1 s1 r => ?_) fun _ z => z)
  obtain ⟨p, vs, rfl, e, z, r⟩ := r
  refine qb O σ H1 s _ (hs.grow s1) ((Rs.post_bind k).mono (fun i k v H2 s2 ri => ?_) fun _ z => z.grow s1)
  obtain ⟨y, ey, k⟩ := Rs.post_ofOpt k
  obtain ⟨w, ew, rw⟩ := Paired.atI r ey
  exact ⟨p, vs, i, w, rfl, ri, s2.seq ((cut_le (O := O)).seq e), ew, k w H2 (s1.trans s2) (τ.mono (cut_grow s2) rw)⟩
theorem PX.ixT {f : S → Rs (List α)} {g : S → Rs Int} (hs : PlainIx b) (ha : PX A ca a Γ (tT τ) f) (hb : PX A ca b Γ tI g) : PX A ca (.Subscript a b pos) Γ τ (fun s => (f s).bind fun xs => (g s).bind fun i => Rs.ofOpt (atI xs i)) := by
  obtain ⟨ta, pa, qa⟩ := ha
  obtain ⟨tb, pb, qb⟩ := hb
  refine ⟨tOp (rIxT A.K) ta tb, fun X hX => by rw [← hX.K]; exact pe_ix ix_tup (pa X hX) (pb X hX) hs, fun O σ H s Q hs hp => ?_⟩
  refine qa O σ H s _ hs ((Rs.post_bind hp).mono (fun xs k v H1 s1 r => ?_) fun _ z => z)
  obtain ⟨p, vs, rfl, e, z, r⟩ := r
  refine qb O σ H1 s _ (hs.grow s1) ((Rs.post_bind k).mono (fun i k v H2 s2 ri => ?_) fun _ z => z.grow s1)
  obtain ⟨y, ey, k⟩ := Rs.post_ofOpt k
  obtain ⟨w, ew, rw⟩ := Paired.atI r ey
  exact ⟨p, vs, i, w, rfl, ri, .inl (.inl (s2 _ _ (cut_le _ _ e))), ew, k w H2 (s1.trans s2) (τ.mono (cut_grow s2) rw)⟩
/-- a fixed place -/
structure Nth {α β : Type} (ts : Tys α) (i : Nat) (τ : Ty β) (g : α → β) : Prop where
  to : ∀ {K : PySem.W.Frag} {H : Hp} {vs : List V} {a : α}, ts.rep K H vs a → ∃ v, vs[i]? = some v ∧ τ.rep K H v (g a)
theorem Nth.o {τ : Ty α} : Nth (.one τ) 0 τ (fun a => a) := ⟨fun h => by obtain ⟨v, rfl, r⟩ := h; exact ⟨v, rfl, r⟩⟩
theorem Nth.z {τ : Ty α} {ts : Tys β} : Nth (.cons τ ts) 0 τ (fun a => a.1) := ⟨fun h => by obtain ⟨v, r, rfl, h1, h2⟩ := h; exact ⟨v, rfl, h1⟩⟩
theorem Nth.s {τ : Ty α} {ts : Tys β} {i : Nat} {τ' : Ty γ} {g : β → γ} (n : Nth ts i τ' g) : Nth (.cons τ ts) (i + 1) τ' (fun a => g a.2) := ⟨fun h => by
  obtain ⟨v, r, rfl, h1, h2⟩ := h
  obtain ⟨w, e, q⟩ := n.to h2
  exact ⟨w, by simpa using e, q⟩⟩
theorem PX.ixP {ts : Tys α} {i : Nat} {j : Int} {π : α → β} (n : Nth ts i τ' π) (hj : ixN ts.len j = some i) (hs : PlainIx b) (ha : PX A ca a Γ (tTup ts) f) (hb : PX A ca b Γ tI (fun _ => .ok j)) : PX A ca (.Subscript a b pos) Γ τ' (fun s => (f s).bind fun t => .ok (π t)) := by
  obtain ⟨ta, pa, qa⟩ := ha
  obtain ⟨tb, pb, qb⟩ := hb
  refine ⟨tOp (rIxT A.K) ta tb, fun X hX => by rw [← hX.K]; exact pe_ix ix_tup (pa X hX) (pb X hX) hs, fun O σ H s Q hs hp => ?_⟩
  refine qa O σ H s _ hs ((Rs.post_bind hp).mono (fun t k v H1 s1 r => ?_) fun _ z => z)
  obtain ⟨p, vs, rfl, e, r⟩ := r
  refine qb O σ H1 s _ (hs.grow s1) (fun v H2 s2 ri => ?_)
  obtain ⟨w, ew, rw⟩ := n.to r
  refine ⟨p, vs, j, w, rfl, ri, .inl (.inl (s2 _ _ (cut_le _ _ e))), ?_, k w H2 (s1.trans s2) (τ'.mono (cut_grow s2) rw)⟩
  unfold L2.atI
  rw [ts.length r, hj]; exact ew
/-- .. of a list -/
theorem PX.ixR {ts : Tys α} {i : Nat} {j : Int} {π : α → β} (n : Nth ts i τ' π) (hj : ixN ts.len j = some i) (hs : PlainIx b) (ha : BX A ca a Γ (cR ts) f) (hb : PX A ca b Γ tI (fun _ => .ok j)) : PX A ca (.Subscript a b pos) Γ τ' (fun s => (f s).bind fun t => .ok (π t)) := by
  obtain ⟨ta, pa, qa⟩ := ha
  obtain ⟨tb, pb, qb⟩ := hb
  refine ⟨tOp (rIxL A.K) ta tb, fun X hX => by rw [← hX.K]; exact pe_ix ix_list (pa X hX) (pb X hX) hs, fun O σ H s Q hs hp => ?_⟩
  refine qa O σ H s _ hs ((Rs.post_bind hp).mono (fun t k p vs H1 s1 e z r => ?_) fun _ z => z)
  refine qb O σ H1 s _ (hs.grow s1) (fun v H2 s2 ri => ?_)
  obtain ⟨w, ew, rw⟩ := n.to r
  refine ⟨p, vs, j, w, rfl, ri, .inl (.inl (s2 _ _ e)), ?_, k w H2 (s1.trans s2) (τ'.mono (cut_grow s2) rw)⟩
  unfold L2.atI
  rw [ts.length r, hj]; exact ew
/-! ### len -/
def rLen (K : PySem.W.Frag) : List V → Hp → VK → Prop := fun xs H Q => ∃ x n, xs = [x] ∧ LenV K x H n ∧ Q (.int n) H
theorem PX.lenL {f : S → Rs (List α)} (B : Blt A x (.builtin "len")) (ha : BX A ca a Γ (cL τ) f) (hs : star a = false := by rfl) : PX A ca (.Call (.Name x p) [a] [] pos) Γ tI (fun s => (f s).bind fun xs => .ok (xs.length : Nat)) := by
  obtain ⟨ta, pa, qa⟩ := ha
  refine ⟨_, fun X hX => call1 (r := rLen A.K) hX B (by rw [← hX.K]; exact call_len) (pa X hX) hs, fun O σ H s Q hs hp => ?_⟩
  refine qa O σ H s _ hs ((Rs.post_bind hp).mono (fun xs k p vs H1 s1 e z r => ?_) fun _ z => z)
  exact ⟨_, xs.length, rfl, .inl ⟨vs, .inl (.inl e), (Paired.length r).symm⟩, k _ H1 s1 rfl⟩
theorem PX.lenF {f : S → Rs (List α)} (B : Blt A x (.builtin "len")) (ha : PX A ca a Γ (tF τ) f) (hs : star a = false := by rfl) : PX A ca (.Call (.Name x p) [a] [] pos) Γ tI (fun s => (f s).bind fun xs => .ok (xs.length : Nat)) := by
  obtain ⟨ta, pa, qa⟩ := ha
  refine ⟨_, fun X hX => call1 (r := rLen A.K) hX B (by rw [← hX.K]; exact call_len) (pa X hX) hs, fun O σ H s Q hs hp => ?_⟩
  refine qa O σ H s _ hs ((Rs.post_bind hp).mono (fun xs k v H1 s1 r => ?_) fun _ z => z)
  obtain ⟨p, vs, rfl, e, z, r⟩ := r
  exact ⟨_, xs.length, rfl, .inl ⟨vs, (cut_le (O := O)).seq e, (Paired.length r).symm⟩, k _ H1 s1 rfl⟩
theorem PX.lenT {f : S → Rs (List α)} (B : Blt A x (.builtin "len")) (ha : PX A ca a Γ (tT τ) f) (hs : star a = false := by rfl) : PX A ca (.Call (.Name x p) [a] [] pos) Γ tI (fun s => (f s).bind fun xs => .ok (xs.length : Nat)) := by
  obtain ⟨ta, pa, qa⟩ := ha
  refine ⟨_, fun X hX => call1 (r := rLen A.K) hX B (by rw [← hX.K]; exact call_len) (pa X hX) hs, fun O σ H s Q hs hp => ?_⟩
  refine qa O σ H s _ hs ((Rs.post_bind hp).mono (fun xs k v H1 s1 r => ?_) fun _ z => z)
  obtain ⟨p, vs, rfl, e, z, r⟩ := r
  exact ⟨_, xs.length, rfl, .inr ⟨vs, .inl (.inl (cut_le _ _ e)), (Paired.length r).symm⟩, k _ H1 s1 rfl⟩
theorem PX.lenP {ts : Tys α} (B : Blt A x (.builtin "len")) (ha : PX A ca a Γ (tTup ts) f) (hs : star a = false := by rfl) : PX A ca (.Call (.Name x p) [a] [] pos) Γ tI (fun s => (f s).bind fun _ => .ok (ts.len : Nat)) := by
  obtain ⟨ta, pa, qa⟩ := ha
  refine ⟨_, fun X hX => call1 (r := rLen A.K) hX B (by rw [← hX.K]; exact call_len) (pa X hX) hs, fun O σ H s Q hs hp => ?_⟩
  refine qa O σ H s _ hs ((Rs.post_bind hp).mono (fun xs k v H1 s1 r => ?_) fun _ z => z)
  obtain ⟨p, vs, rfl, e, r⟩ := r
  exact ⟨_, ts.len, rfl, .inr ⟨vs, .inl (.inl (cut_le _ _ e)), (ts.length r).symm⟩, k _ H1 s1 rfl⟩
/-! ### min, max, sum, int -/
theorem PX.max2 {f g : S → Rs Int} (B : Blt A x (.builtin "max")) (ha : PX A ca a Γ tI f) (hb : PX A ca b Γ tI g) (h1 : star a = false := by rfl) (h2 : star b = false := by rfl) : PX A ca (.Call (.Name x p) [a, b] [] pos) Γ tI (fun s => (f s).bind fun i => (g s).bind fun j => .ok (max i j)) := by
  obtain ⟨ta, pa, qa⟩ := ha
  obtain ⟨tb, pb, qb⟩ := hb
  refine ⟨_, fun X hX => call2 hX B (call_max2 hX.calm) (pa X hX) (pb X hX) h1 h2, fun O σ H s Q hs hp => PX.two qa qb hs hp fun i j v u H2 sm r1 r2 k => ?_⟩
  refine ⟨i, j, by rw [r1, r2], ?_⟩
  have : (if j > i then j else i) = max i j := by omega
  rw [this]; exact k _ H2 sm rfl
theorem PX.min2 {f g : S → Rs Int} (B : Blt A x (.builtin "min")) (ha : PX A ca a Γ tI f) (hb : PX A ca b Γ tI g) (h1 : star a = false := by rfl) (h2 : star b = false := by rfl) : PX A ca (.Call (.Name x p) [a, b] [] pos) Γ tI (fun s => (f s).bind fun i => (g s).bind fun j => .ok (min i j)) := by
  obtain ⟨ta, pa, qa⟩ := ha
  obtain ⟨tb, pb, qb⟩ := hb
  refine ⟨_, fun X hX => call2 hX B (call_min2 hX.calm) (pa X hX) (pb X hX) h1 h2, fun O σ H s Q hs hp => PX.two qa qb hs hp fun i j v u H2 sm r1 r2 k => ?_⟩
  refine ⟨i, j, by rw [r1, r2], ?_⟩
  have : (if j < i then j else i) = min i j := by omega
  rw [this]; exact k _ H2 sm rfl
theorem Paired.ints {K : PySem.W.Frag} {H : Hp} : ∀ {vs : List V} {ns : List Int}, Paired (tI.rep K H) vs ns → vs = ns.map V.int := by
  intro vs ns h
  induction h with
  | nil => rfl
  | cons r _ ih => rw [show _ = _ from r, ih]; rfl
theorem Paired.ofInts {K : PySem.W.Frag} {H : Hp} : ∀ (ns : List Int), Paired (tI.rep K H) (ns.map V.int) ns
  | [] => .nil
  | n :: r => .cons rfl (Paired.ofInts r)
theorem Paired.bls {K : PySem.W.Frag} {H : Hp} : ∀ {vs : List V} {ns : List Bool}, Paired (tB.rep K H) vs ns → vs = ns.map V.bl := by
  intro vs ns h
  induction h with
  | nil => rfl
  | cons r _ ih => rw [show _ = _ from r, ih]; rfl
def maxL : List Int → Rs Int
  | [] => .bad
  | x :: r => .ok (r.foldl max x)
def minL : List Int → Rs Int
  | [] => .bad
  | x :: r => .ok (r.foldl min x)
theorem foldl_max_ge : ∀ (r : List Int) (x : Int), x ≤ r.foldl max x ∧ ∀ y ∈ r, y ≤ r.foldl max x
  | [], x => ⟨Int.le_refl x, fun y h => by simp at h⟩
  | z :: r, x => by
    obtain ⟨h1, h2⟩ := foldl_max_ge r (max x z)
    refine ⟨by simp only [List.foldl_cons]; omega, fun y hy => ?_⟩
    simp only [List.foldl_cons]
    rcases List.mem_cons.mp hy with rfl | hy
    · omega
    · exact h2 y hy
theorem foldl_max_mem : ∀ (r : List Int) (x : Int), r.foldl max x = x ∨ r.foldl max x ∈ r
  | [], x => .inl rfl
  | z :: r, x => by
    simp only [List.foldl_cons]
    rcases foldl_max_mem r (max x z) with h | h
    · rw [h]
      by_cases q : x ≤ z
      · exact .inr (by rw [Int.max_eq_right q]; simp)
      · exact .inl (by omega)
    · exact .inr (List.mem_cons_of_mem _ h)
theorem foldl_min_le : ∀ (r : List Int) (x : Int), r.foldl min x ≤ x ∧ ∀ y ∈ r, r.foldl min x ≤ y
  | [], x => ⟨Int.le_refl x, fun y h => by simp at h⟩
  | z :: r, x => by
    obtain ⟨h1, h2⟩ := foldl_min_le r (min x z)
    refine ⟨by simp only [List.foldl_cons]; omega, fun y hy => ?_⟩
    simp only [List.foldl_cons]
    rcases List.mem_cons.mp hy with rfl | hy
    · omega
    · exact h2 y hy
theorem foldl_min_mem : ∀ (r : List Int) (x : Int), r.foldl min x = x ∨ r.foldl min x ∈ r
  | [], x => .inl rfl
  | z :: r, x => by
    simp only [List.foldl_cons]
    rcases foldl_min_mem r (min x z) with h | h
    · rw [h]
      by_cases q : z ≤ x
      · exact .inr (by rw [Int.min_eq_right q]; simp)
      · exact .inl (by omega)
    · exact .inr (List.mem_cons_of_mem _ h)
theorem PX.maxL {f : S → Rs (List Int)} (B : Blt A x (.builtin "max")) (ha : BX A ca a Γ (cL tI) f) (hs : star a = false := by rfl) : PX A ca (.Call (.Name x p) [a] [] pos) Γ tI (fun s => (f s).bind TL.maxL) := by
  obtain ⟨ta, pa, qa⟩ := ha
  refine ⟨_, fun X hX => call1 (r := rMax A.K) hX B (by rw [← hX.K]; exact cr_max hX.calm) (pa X hX) hs, fun O σ H s Q hs hp => ?_⟩
  refine qa O σ H s _ hs ((Rs.post_bind hp).mono (fun xs k p vs H1 s1 e z r => ?_) fun _ z => z)
  rw [Paired.ints r] at e
  refine ⟨p, xs, rfl, .inl (.inl e), ?_⟩
  cases xs with
  | nil => exact k.elim
  | cons y w =>
    refine ⟨Nat.zero_lt_succ _, fun m hm hle => ?_⟩
    have : m = w.foldl max y := by
      obtain ⟨h1, h2⟩ := foldl_max_ge w y
      have h3 := hle (w.foldl max y) (by rcases foldl_max_mem w y with h | h; rw [h]; simp; exact List.mem_cons_of_mem _ h)
      rcases List.mem_cons.mp hm with rfl | hm
      · omega
      · have := h2 m hm; omega
    rw [this]; exact k _ H1 s1 rfl
theorem PX.minL {f : S → Rs (List Int)} (B : Blt A x (.builtin "min")) (ha : BX A ca a Γ (cL tI) f) (hs : star a = false := by rfl) : PX A ca (.Call (.Name x p) [a] [] pos) Γ tI (fun s => (f s).bind TL.minL) := by
  obtain ⟨ta, pa, qa⟩ := ha
  refine ⟨_, fun X hX => call1 (r := rMin A.K) hX B (by rw [← hX.K]; exact cr_min hX.calm) (pa X hX) hs, fun O σ H s Q hs hp => ?_⟩
  refine qa O σ H s _ hs ((Rs.post_bind hp).mono (fun xs k p vs H1 s1 e z r => ?_) fun _ z => z)
  rw [Paired.ints r] at e
  refine ⟨p, xs, rfl, .inl (.inl e), ?_⟩
  cases xs with
  | nil => exact k.elim
  | cons y w =>
    refine ⟨Nat.zero_lt_succ _, fun m hm hle => ?_⟩
    have : m = w.foldl min y := by
      obtain ⟨h1, h2⟩ := foldl_min_le w y
      have h3 := hle (w.foldl min y) (by rcases foldl_min_mem w y with h | h; rw [h]; simp; exact List.mem_cons_of_mem _ h)
      rcases List.mem_cons.mp hm with rfl | hm
      · omega
      · have := h2 m hm; omega
    rw [this]; exact k _ H1 s1 rfl
theorem PX.sum {f : S → Rs (List Int)} (B : Blt A x (.builtin "sum")) (ha : BX A ca a Γ (cL tI) f) (hs : star a = false := by rfl) : PX A ca (.Call (.Name x p) [a] [] pos) Γ tI (fun s => (f s).bind fun xs => .ok xs.sum) := by
  obtain ⟨ta, pa, qa⟩ := ha
  refine ⟨_, fun X hX => call1 (r := rSum A.K) hX B (by rw [← hX.K]; exact cr_sum hX.calm) (pa X hX) hs, fun O σ H s Q hs hp => ?_⟩
  refine qa O σ H s _ hs ((Rs.post_bind hp).mono (fun xs k p vs H1 s1 e z r => ?_) fun _ z => z)
  rw [Paired.ints r] at e
  exact ⟨p, xs, rfl, .inl (.inl e), k _ H1 s1 rfl⟩
theorem PX.all {f : S → Rs (List Bool)} (B : Blt A x (.builtin "all")) (ha : BX A ca a Γ (cL tB) f) (hs : star a = false := by rfl) : PX A ca (.Call (.Name x p) [a] [] pos) Γ tB (fun s => (f s).bind fun xs => .ok (xs.all id)) := by
  obtain ⟨ta, pa, qa⟩ := ha
  refine ⟨_, fun X hX => call1 (r := rAll A.K) hX B (by rw [← hX.K]; exact cr_all hX.calm) (pa X hX) hs, fun O σ H s Q hs hp => ?_⟩
  refine qa O σ H s _ hs ((Rs.post_bind hp).mono (fun xs k p vs H1 s1 e z r => ?_) fun _ z => z)
  rw [Paired.bls r] at e
  exact ⟨p, xs, rfl, .inl (.inl e), k _ H1 s1 rfl⟩
theorem PX.any {f : S → Rs (List Bool)} (B : Blt A x (.builtin "any")) (ha : BX A ca a Γ (cL tB) f) (hs : star a = false := by rfl) : PX A ca (.Call (.Name x p) [a] [] pos) Γ tB (fun s => (f s).bind fun xs => .ok (xs.any id)) := by
  obtain ⟨ta, pa, qa⟩ := ha
  refine ⟨_, fun X hX => call1 (r := rAny A.K) hX B (by rw [← hX.K]; exact cr_any hX.calm) (pa X hX) hs, fun O σ H s Q hs hp => ?_⟩
  refine qa O σ H s _ hs ((Rs.post_bind hp).mono (fun xs k p vs H1 s1 e z r => ?_) fun _ z => z)
  rw [Paired.bls r] at e
  exact ⟨p, xs, rfl, .inl (.inl e), k _ H1 s1 rfl⟩
theorem PX.toInt {f : S → Rs Int} (B : Blt A x (.type "int")) (ha : PX A ca a Γ tI f) (hs : star a = false := by rfl) : PX A ca (.Call (.Name x p) [a] [] pos) Γ tI f := by
  obtain ⟨ta, pa, qa⟩ := ha
  refine ⟨_, fun X hX => callT1 hX B call_int1 (pa X hX) hs, fun O σ H s Q hs hp => qa O σ H s _ hs (hp.mono (fun i k v H1 s1 r => .inl ⟨i, by rw [show v = .int i from r], k _ H1 s1 rfl⟩) fun _ z => z)⟩
theorem PX.toIntB {f : S → Rs Bool} (B : Blt A x (.type "int")) (ha : PX A ca a Γ tB f) (hs : star a = false := by rfl) : PX A ca (.Call (.Name x p) [a] [] pos) Γ tI (fun s => (f s).bind fun c => .ok (if c then 1 else 0)) := by
  obtain ⟨ta, pa, qa⟩ := ha
  refine ⟨_, fun X hX => callT1 hX B call_int1 (pa X hX) hs, fun O σ H s Q hs hp => qa O σ H s _ hs ((Rs.post_bind hp).mono (fun i k v H1 s1 r => .inr ⟨i, by rw [show v = .bl i from r], k _ H1 s1 rfl⟩) fun _ z => z)⟩
theorem PX.abs {f : S → Rs Int} (B : Blt A x (.builtin "abs")) (ha : PX A ca a Γ tI f) (hs : star a = false := by rfl) : PX A ca (.Call (.Name x p) [a] [] pos) Γ tI (fun s => (f s).bind fun i => .ok (if i < 0 then -i else i)) := by
  obtain ⟨ta, pa, qa⟩ := ha
  refine ⟨_, fun X hX => call1 hX B call_abs (pa X hX) hs, fun O σ H s Q hs hp => qa O σ H s _ hs ((Rs.post_bind hp).mono (fun i k v H1 s1 r => ⟨i, by rw [show v = .int i from r], k _ H1 s1 rfl⟩) fun _ z => z)⟩
/-! ### list(x), tuple(x) -/
def rList (K : PySem.W.Frag) : List V → Hp → VK → Prop := fun xs H Q => ∃ p ys, xs = [.ref p] ∧ (SqL K H p ys ∨ SqT K H p ys) ∧ ∀ l, H l = none → Q (.ref l) (upd H l (.lst ys))
def rTuple (K : PySem.W.Frag) : List V → Hp → VK → Prop := fun xs H Q => ∃ p ys, xs = [.ref p] ∧ ((SqL K H p ys ∧ ∀ l, H l = none → Q (.ref l) (upd H l (.tup ys))) ∨ (SqT K H p ys ∧ Q (.ref p) H))
theorem PL.listL (B : Blt A x (.type "list")) (ha : BX A ca a Γ c f) (hs : star a = false := by rfl) : PL A ca (.Call (.Name x p) [a] [] pos) Γ c f := by
  obtain ⟨ta, pa, qa⟩ := ha
  refine ⟨_, fun X hX => callT1 (r := rList A.K) hX B (by rw [← hX.K]; exact call_list_of) (pa X hX) hs, fun O σ H s Q hs hp => ?_⟩
  refine qa O σ H s _ hs (hp.mono (fun xs k p vs H1 s1 e z r => ?_) fun _ z => z)
  exact ⟨p, vs, rfl, .inl (.inl (.inl e)), fun l n => k l vs _ (s1.free n) (s1.trans (same_upd n)) upd_same z (c.mono (cut_new n) r)⟩
theorem PL.listF {f : S → Rs (List α)} (B : Blt A x (.type "list")) (ha : PX A ca a Γ (tF τ) f) (hs : star a = false := by rfl) : PL A ca (.Call (.Name x p) [a] [] pos) Γ (cL τ) f := by
  obtain ⟨ta, pa, qa⟩ := ha
  refine ⟨_, fun X hX => callT1 (r := rList A.K) hX B (by rw [← hX.K]; exact call_list_of) (pa X hX) hs, fun O σ H s Q hs hp => ?_⟩
  refine qa O σ H s _ hs (hp.mono (fun xs k v H1 s1 r => ?_) fun _ z => z)
  obtain ⟨p, vs, rfl, e, z, r⟩ := r
  exact ⟨p, vs, rfl, .inl ((cut_le (O := O)).seq e), fun l n => k l vs _ (s1.free n) (s1.trans (same_upd n)) upd_same z (Paired.mono' (cut_new n) r)⟩
theorem PL.listT {f : S → Rs (List α)} (B : Blt A x (.type "list")) (ha : PX A ca a Γ (tT τ) f) (hs : star a = false := by rfl) : PL A ca (.Call (.Name x p) [a] [] pos) Γ (cL τ) f := by
  obtain ⟨ta, pa, qa⟩ := ha
  refine ⟨_, fun X hX => callT1 (r := rList A.K) hX B (by rw [← hX.K]; exact call_list_of) (pa X hX) hs, fun O σ H s Q hs hp => ?_⟩
  refine qa O σ H s _ hs (hp.mono (fun xs k v H1 s1 r => ?_) fun _ z => z)
  obtain ⟨p, vs, rfl, e, z, r⟩ := r
  exact ⟨p, vs, rfl, .inr (.inl (.inl (cut_le _ _ e))), fun l n => k l vs _ (s1.free n) (s1.trans (same_upd n)) upd_same z (Paired.mono' (cut_new n) r)⟩
theorem PX.tupleL {f : S → Rs (List α)} (B : Blt A x (.type "tuple")) (ha : BX A ca a Γ (cL τ) f) (hs : star a = false := by rfl) : PX A ca (.Call (.Name x p) [a] [] pos) Γ (tT τ) f := by
  obtain ⟨ta, pa, qa⟩ := ha
  refine ⟨_, fun X hX => callT1 (r := rTuple A.K) hX B (by rw [← hX.K]; exact call_tuple_of) (pa X hX) hs, fun O σ H s Q hs hp => ?_⟩
  refine qa O σ H s _ hs (hp.mono (fun xs k p vs H1 s1 e z r => ?_) fun _ z => z)
  exact ⟨p, vs, rfl, .inl ⟨.inl (.inl e), fun l n => k _ _ (s1.trans (same_upd n)) ⟨l, vs, rfl, upd_cut (hs.out' s1 n), z, Paired.mono' (cut_grow (same_upd n)) r⟩⟩⟩
theorem PX.tupleT {f : S → Rs (List α)} (B : Blt A x (.type "tuple")) (ha : PX A ca a Γ (tT τ) f) (hs : star a = false := by rfl) : PX A ca (.Call (.Name x p) [a] [] pos) Γ (tT τ) f := by
  obtain ⟨ta, pa, qa⟩ := ha
  refine ⟨_, fun X hX => callT1 (r := rTuple A.K) hX B (by rw [← hX.K]; exact call_tuple_of) (pa X hX) hs, fun O σ H s Q hs hp => ?_⟩
  refine qa O σ H s _ hs (hp.mono (fun xs k v H1 s1 r => ?_) fun _ z => z)
  obtain ⟨p, vs, rfl, e, z, r⟩ := r
  exact ⟨p, vs, rfl, .inr ⟨.inl (.inl (cut_le _ _ e)), k _ _ s1 ⟨p, vs, rfl, e, z, r⟩⟩⟩
/-! ### list + list, list * int, slices -/
theorem Paired.append {F : V → α → Prop} {vs ws : List V} {as bs : List α} (h : Paired F vs as) (h' : Paired F ws bs) : Paired F (vs ++ ws) (as ++ bs) := by
  induction h with
  | nil => exact h'
  | cons r _ ih => exact .cons r ih
theorem Paired.drop {F : V → α → Prop} : ∀ (n : Nat) {vs : List V} {as : List α}, Paired F vs as → Paired F (vs.drop n) (as.drop n)
  | 0, _, _, h => h
  | _ + 1, _, _, .nil => .nil
  | n + 1, _, _, .cons _ t => Paired.drop n t
theorem Paired.take {F : V → α → Prop} : ∀ (n : Nat) {vs : List V} {as : List α}, Paired F vs as → Paired F (vs.take n) (as.take n)
  | 0, _, _, h => .nil
  | _ + 1, _, _, .nil => .nil
  | n + 1, _, _, .cons r t => .cons r (Paired.take n t)
theorem Paired.rep {F : V → α → Prop} {vs : List V} {as : List α} (h : Paired F vs as) : ∀ (n : Nat), Paired F (List.replicate n vs).flatten (List.replicate n as).flatten
  | 0 => .nil
  | n + 1 => by rw [List.replicate_succ, List.replicate_succ, List.flatten_cons, List.flatten_cons]; exact Paired.append h (Paired.rep h n)
theorem PL.cat {f g : S → Rs (List α)} (ha : BX A ca a Γ (cL τ) f) (hb : BX A ca b Γ (cL τ) g) : PL A ca (.BinOp a .Add b pos) Γ (cL τ) (fun s => (f s).bind fun xs => (g s).bind fun ys => Rs.guard (decide (xs.length + ys.length ≤ sizeLine)) (.ok (xs ++ ys))) := by
  obtain ⟨ta, pa, qa⟩ := ha
  obtain ⟨tb, pb, qb⟩ := hb
  refine ⟨_, fun X hX => pe_op op_cat (pa X hX) (pb X hX), fun O σ H s Q hs hp => ?_⟩
  refine qa O σ H s _ hs ((Rs.post_bind hp).mono (fun xs k p vs H1 s1 e z r => ?_) fun _ z => z)
  refine qb O σ H1 s _ (hs.grow s1) ((Rs.post_bind k).mono (fun ys k q ws H2 s2 e2 z2 r2 => ?_) fun _ z => z.grow s1)
  obtain ⟨hc, k⟩ := Rs.post_guard k
  have hz : vs.length + ws.length ≤ sizeLine := by rw [Paired.length r, Paired.length r2]; exact of_decide_eq_true hc
  exact ⟨p, q, vs, ws, rfl, rfl, s2 _ _ e, e2, hz, fun l n => k l _ _ ((s1.trans s2).free n) ((s1.trans s2).trans (same_upd n)) upd_same (by rw [List.length_append]; exact hz) (Paired.append (Paired.mono' (cut_grow s2 |>.trans (cut_new n)) r) (Paired.mono' (cut_new n) r2))⟩
theorem PL.mulI {f : S → Rs (List α)} {g : S → Rs Int} (ha : BX A ca a Γ (cL τ) f) (hb : PX A ca b Γ tI g) : PL A ca (.BinOp a .Mult b pos) Γ (cL τ) (fun s => (f s).bind fun xs => (g s).bind fun n => Rs.guard (decide (-(2 ^ 63) ≤ n ∧ n < 2 ^ 63 ∧ xs.length * n.toNat ≤ sizeLine)) (.ok (List.replicate n.toNat xs).flatten)) := by
  obtain ⟨ta, pa, qa⟩ := ha
  obtain ⟨tb, pb, qb⟩ := hb
  refine ⟨_, fun X hX => pe_op op_rep (pa X hX) (pb X hX), fun O σ H s Q hs hp => ?_⟩
  refine qa O σ H s _ hs ((Rs.post_bind hp).mono (fun xs k p vs H1 s1 e z r => ?_) fun _ z => z)
  refine qb O σ H1 s _ (hs.grow s1) ((Rs.post_bind k).mono (fun n k v H2 s2 rn => ?_) fun _ z => z.grow s1)
  obtain ⟨hc, k⟩ := Rs.post_guard k
  obtain ⟨c1, c2, c3⟩ := of_decide_eq_true hc
  have hz : vs.length * n.toNat ≤ sizeLine := by rw [Paired.length r]; exact c3
  refine ⟨p, n, vs, rfl, rn, s2 _ _ e, c1, c2, hz, fun l nl => k l _ _ ((s1.trans s2).free nl) ((s1.trans s2).trans (same_upd nl)) upd_same ?_ (Paired.rep (Paired.mono' (cut_grow s2 |>.trans (cut_new nl)) r) _)⟩
  have : (List.replicate n.toNat vs).flatten.length = n.toNat * vs.length := by simp
  rw [this, Nat.mul_comm]; exact hz
/-- xs[lo:hi] -/
def sl (xs : List α) (lo hi : Option Int) : List α := (xs.drop (HT.sIx xs.length 0 lo)).take (HT.sIx xs.length xs.length hi - HT.sIx xs.length 0 lo)
theorem Paired.sl {F : V → α → Prop} {vs : List V} {as : List α} (h : Paired F vs as) (lo hi : Option Int) : Paired F (cutV vs lo hi) (TL.sl as lo hi) := by
  unfold cutV TL.sl
  rw [Paired.length h]
  exact Paired.take _ (Paired.drop _ h)
/-- a part of a slice -/
def PPo (A : Amb) (ca : Nat → Addr) (e : Option Expr) {S : Type} (Γ : Cxt S) (f : S → Rs (Option Int)) : Prop :=
  ∃ t, (∀ X, A.In X → PO X e t) ∧ ∀ (O : List Addr) (σ : L2.St) (H : Hp) (s : S) (Q : Option Int → Hp → Prop), Sx A.K O Γ σ H s →
    (f s).Post (fun u => ∀ H', Same H H' → Q u H') (Exw A.E ca H) → t σ H Q
theorem PPo.none : PPo A ca Option.none Γ (fun _ => .ok Option.none) := ⟨_, fun X hX => po_none, fun O σ H s Q hs hp => hp H (Same.refl H)⟩
theorem PPo.some {f : S → Rs Int} (h : PX A ca e Γ tI f) : PPo A ca (Option.some e) Γ (fun s => (f s).bind fun i => .ok (Option.some i)) := by
  obtain ⟨t, ht, q⟩ := h
  exact ⟨_, fun X hX => po_some (ht X hX), fun O σ H s Q hs hp => q O σ H s _ hs ((Rs.post_bind hp).mono (fun i k v H1 s1 r => ⟨i, r, k H1 s1⟩) fun _ z => z)⟩
theorem PL.slice {f : S → Rs (List α)} {l u : S → Rs (Option Int)} {lo hi : Option Expr} (ha : BX A ca a Γ (cL τ) f) (hl : PPo A ca lo Γ l) (hu : PPo A ca hi Γ u) :
    PL A ca (.Subscript a (.Slice lo hi none p2) pos) Γ (cL τ) (fun s => (f s).bind fun xs => (l s).bind fun i => (u s).bind fun j => .ok (TL.sl xs i j)) := by
  obtain ⟨ta, pa, qa⟩ := ha
  obtain ⟨tl, pl, ql⟩ := hl
  obtain ⟨th, ph, qh⟩ := hu
  refine ⟨tSl (rSlL A.K) ta tl th, fun X hX => by rw [← hX.K]; exact pe_slice sl_list (pa X hX) (pl X hX) (ph X hX), fun O σ H s Q hs hp => ?_⟩
  refine qa O σ H s _ hs ((Rs.post_bind hp).mono (fun xs k p vs H1 s1 e z r => ?_) fun _ z => z)
  refine ql O σ H1 s _ (hs.grow s1) ((Rs.post_bind k).mono (fun i k H2 s2 => ?_) fun _ z => z.grow s1)
  refine qh O σ H2 s _ (hs.grow (s1.trans s2)) ((Rs.post_bind k).mono (fun j k H3 s3 => ?_) fun _ z => z.grow (s1.trans s2))
  have s13 := (s1.trans s2).trans s3
  exact ⟨p, vs, rfl, .inl (.inl ((s2.trans s3) _ _ e)), fun q n => k q _ _ (s13.free n) (s13.trans (same_upd n)) upd_same (Nat.le_trans (cutV_length _ _ _) z) (Paired.sl (Paired.mono' (cut_grow (s2.trans s3) |>.trans (cut_new n)) r) _ _)⟩
/-! ### sorted -/
def srt (ns : List Int) : List Int := ns.mergeSort (fun a b => decide (a ≤ b))
theorem srt_perm (ns : List Int) : (srt ns).Perm ns := List.mergeSort_perm ns _
theorem srt_le (ns : List Int) : (srt ns).Pairwise (· ≤ ·) := by
  have h := List.pairwise_mergeSort (le := fun a b : Int => decide (a ≤ b)) (fun a b c h1 h2 => by simp at h1 h2 ⊢; omega) (fun a b => by simp; omega) ns
  exact h.imp fun h => by simpa using h
theorem srt_uniq : ∀ {l m : List Int}, l.Perm m → l.Pairwise (· ≤ ·) → m.Pairwise (· ≤ ·) → l = m := fun h1 h2 h3 =>
  List.Perm.eq_of_pairwise (le := fun a b : Int => decide (a ≤ b)) (fun a b _ _ h h' => by simp at h h'; omega) (h2.imp fun h => by simpa using h) (h3.imp fun h => by simpa using h) h1
theorem PL.sortedI {f : S → Rs (List Int)} (B : Blt A x (.builtin "sorted")) (ha : BX A ca a Γ (cL tI) f) (hs : star a = false := by rfl) : PL A ca (.Call (.Name x p) [a] [] pos) Γ (cL tI) (fun s => (f s).bind fun xs => .ok (srt xs)) := by
  obtain ⟨ta, pa, qa⟩ := ha
  refine ⟨_, fun X hX => call1 (r := rSortedI A.K) hX B (by rw [← hX.K]; exact cr_sortedI) (pa X hX) hs, fun O σ H s Q hs hp => ?_⟩
  refine qa O σ H s _ hs ((Rs.post_bind hp).mono (fun xs k p vs H1 s1 e z r => ?_) fun _ z => z)
  have ev := Paired.ints r
  rw [ev] at e
  refine ⟨p, xs, rfl, .inl (.inl e), fun ns' q pm pw n => ?_⟩
  have : ns' = srt xs := srt_uniq (pm.trans (srt_perm xs).symm) pw (srt_le xs)
  subst this
  refine k q _ _ (s1.free n) (s1.trans (same_upd n)) upd_same ?_ (Paired.ofInts _)
  rw [List.length_map, (srt_perm xs).length_eq, ← Paired.length r]; exact z
/-! ### calls of defs -/
/-- a def's promise: worth m; O is hidden from it -/
def spOf (K : PySem.W.Frag) (ca : Nat → Addr) {U β : Type} (ts : Tys U) (τ : Ty β) (m : U → Rs β) : Sp := fun vs H Q E => ∃ (O : List Addr) (u : U), (∀ p ∈ O, Hidn H p) ∧ ts.rep K (cut H O) vs u ∧
  (m u).Post (fun b => ∀ v H', Same H H' → τ.rep K (cut H' O) v b → Q v H') (Exw E ca H)
/-- a def of the module that keeps it -/
structure Callee (A : Amb) (ca : Nat → Addr) (x : Str) {U β : Type} (ts : Tys U) (τ : Ty β) (m : U → Rs β) : Prop where
  ex : ∃ (f : Addr) (fd : FuncData) (ps : List Str) (k : Nat), k ≤ A.k ∧ FnOk A.P A.w A.K A.mg A.base (L2.CX A.P A.w) k f fd ps (spOf A.K ca ts τ m) ∧ A.mg x = some (.ref f) ∧ PySem.W.keepIn A.K (.ref f) = true ∧ Binds A.K fd ps []
  db : (x == ("__debug__" : Str)) = false := by decide
theorem PX.call {ts : Tys U} {h : S → Rs U} {m : U → Rs β} {es : List Expr} (C : Callee A ca x ts τ' m) (hg : GlA A x) (ha : PAs A ca (e :: es) Γ ts h) (h1 : star e = false := by rfl) (h2 : es.any star = false := by rfl) :
    PX A ca (.Call (.Name x p) (e :: es) [] pos) Γ τ' (fun s => (h s).bind m) := by
  obtain ⟨ta, pa, qa⟩ := ha
  obtain ⟨fa, fd, ps, k, hk, F, hm, kp, hb⟩ := C.ex
  refine ⟨tCall (spOf A.K ca ts τ' m) [] A.E ta, fun X hX => ?_, fun O σ H s Q hs hp => qa O σ H s _ hs ((Rs.post_bind hp).mono (fun u k vs H1 s1 r => ?_) fun _ z => z)⟩
  · obtain ⟨prog, w, K, mg, base, N, sc, fn, nd, calm, room, pass, own, takes, top⟩ := hX
    exact pe_call (k := k) (fd := fd) (ps := ps) (ds := []) (by rw [prog, w, K, mg, base]; exact F) (room.mono hk) (show Gl X x by show X.env.scope.names.lookup x = _; rw [sc]; exact hg) (by rw [mg]; exact hm) (by rw [K]; exact kp) (by rw [K]; exact hb) .nil pass (pa X ⟨prog, w, K, mg, base, N, sc, fn, nd, calm, room, pass, own, takes, top⟩) C.db (star_each h1) (star_any h2)
  · refine ⟨O, u, fun p hp => (hs.grow s1).hid p hp, by rw [List.append_nil]; exact r, k.mono (fun b k v H2 s2 r2 => k v H2 (s1.trans s2) r2) fun _ z => z.grow s1⟩
end
end TL
/-! TL4: what is walked, targets, comprehensions whose elements change nothing. -/
namespace TL
open PySem PySem.Spec PyProof.Rows L2
variable {A : Amb} {ca : Nat → Addr}
/-! ### what is walked -/
structure Wkg (K : PySem.W.Frag) (J : It) (G : Hp) (O : List Addr) {β : Type} (τ : Ty β) (bs : List β) : Prop where
  go : ∀ i H', Same G H' → i < bs.length → J.go i H'
  yl : ∀ i b x H' H'', Same G H' → bs[i]? = some b → J.yld i H' x H'' → Same H' H'' ∧ ∀ O', (∀ p ∈ O', p ∈ O ∨ G p = none) → (∀ p ∈ O', H' p ≠ none) → τ.rep K (cut H'' O') x b
  st : ∀ H', Same G H' → J.stop bs.length H'
theorem Wkg.wide {K : PySem.W.Frag} {J : It} {H1 : Hp} {O : List Addr} {β : Type} {τ : Ty β} {bs : List β} (h : Wkg K J (cut H1 O) [] τ bs) : Wkg K J H1 O τ bs :=
  ⟨fun i H' s hi => h.go i H' (cut_le.trans s) hi, fun i b x H' H'' s hb y => by
    obtain ⟨h1, h2⟩ := h.yl i b x H' H'' (cut_le.trans s) hb y
    refine ⟨h1, fun O' hO hn => h2 O' (fun p hp => ?_) hn⟩
    rcases hO p hp with z | z
    · exact .inr (cut_in z)
    · exact .inr (by
        by_cases q : p ∈ O
        · exact cut_in q
        · rw [cut_out q]; exact z), fun H' s => h.st H' (cut_le.trans s)⟩
theorem cut_sees {G H : Hp} {O O' : List Addr} (s : Same G H) (h : ∀ p ∈ O', p ∈ O ∨ G p = none) : Same (cut G O) (cut H O') := fun b x e => by
  by_cases hb : b ∈ O
  · rw [cut_in hb] at e; cases e
  · rw [cut_out hb] at e
    have : b ∉ O' := fun z => by
      rcases h b z with q | q
      · exact hb q
      · rw [e] at q; cases q
    rw [cut_out this]; exact s _ _ e
section
variable {S α β γ : Type} {Γ : Cxt S} {τ : Ty α} {τ' : Ty β} {c : Ct α} {e a b d tg iter : Expr} {pos p p2 : Pos} {x : Str}
/-- a source that stands while other things change -/
def IX (A : Amb) (ca : Nat → Addr) (tg iter : Expr) {S β : Type} (Γ : Cxt S) (τ : Ty β) (f : S → Rs (List β)) : Prop :=
  ∃ wi, (∀ X, A.In X → PI X tg iter wi) ∧ ∀ (O : List Addr) (σ : L2.St) (H : Hp) (s : S) (R : It → Hp → Prop), Sx A.K O Γ σ H s →
    (f s).Post (fun bs => ∀ J H1, Same H H1 → Wkg A.K J (cut H1 O) [] τ bs → R J H1) (Exw A.E ca H) → wi σ H R
/-- a source that stands while nothing changes -/
def IB (A : Amb) (ca : Nat → Addr) (tg iter : Expr) {S β : Type} (Γ : Cxt S) (τ : Ty β) (f : S → Rs (List β)) : Prop :=
  ∃ wi, (∀ X, A.In X → PI X tg iter wi) ∧ ∀ (O : List Addr) (σ : L2.St) (H : Hp) (s : S) (R : It → Hp → Prop), Sx A.K O Γ σ H s →
    (f s).Post (fun bs => ∀ J H1, Same H H1 → Wkg A.K J H1 O τ bs → R J H1) (Exw A.E ca H) → wi σ H R
theorem IX.ib {f : S → Rs (List β)} (h : IX A ca tg iter Γ τ' f) : IB A ca tg iter Γ τ' f := by
  obtain ⟨wi, hi, q⟩ := h
  exact ⟨wi, hi, fun O σ H s R hs hp => q O σ H s R hs (hp.mono (fun bs k J H1 s1 w => k J H1 s1 w.wide) fun _ z => z)⟩
theorem Wkg.list {K : PySem.W.Frag} {p : Addr} {vs : List V} {G : Hp} {O : List Addr} {bs : List α} (e : SqL K G p vs) (hu : ∀ H' ys, Same G H' → SqL K H' p ys → ys = vs) (r : Paired (τ.rep K (cut G O)) vs bs) : Wkg K (Itl K p) G O τ bs := by
  refine ⟨fun i H' s hi => ?_, fun i b x H' H'' s hb hy => ?_, fun H' s => ⟨vs, s.seq e, by rw [Paired.length r]; exact Nat.le_refl _⟩⟩
  · obtain ⟨v, h1, _⟩ := Paired.get r (List.getElem?_eq_getElem hi)
    exact ⟨vs, v, s.seq e, h1⟩
  · obtain ⟨rfl, hx⟩ := hy
    have h1 := hx _ (s.seq e)
    obtain ⟨v, h2, h3⟩ := Paired.get r hb
    rw [h1] at h2; cases h2
    exact ⟨Same.refl _, fun O' hO hn => τ.mono (cut_sees s hO) h3⟩
theorem Wkg.listT {K : PySem.W.Frag} {p : Addr} {vs : List V} {G : Hp} {O : List Addr} {bs : List α} (e : SqL K G p vs) (r : Paired (τ.rep K (cut G O)) vs bs) : Wkg K (Itl K p) G O τ bs := by
  refine ⟨fun i H' s hi => ?_, fun i b x H' H'' s hb hy => ?_, fun H' s => ⟨vs, s.seq e, by rw [Paired.length r]; exact Nat.le_refl _⟩⟩
  · obtain ⟨v, h1, _⟩ := Paired.get r (List.getElem?_eq_getElem hi)
    exact ⟨vs, v, s.seq e, h1⟩
  · obtain ⟨rfl, hx⟩ := hy
    have h1 := hx _ (s.seq e)
    obtain ⟨v, h2, h3⟩ := Paired.get r hb
    rw [h1] at h2; cases h2
    exact ⟨Same.refl _, fun O' hO hn => τ.mono (cut_sees s hO) h3⟩
theorem IX.list {f : S → Rs (List α)} (h : PX A ca iter Γ (tL τ) f) : IX A ca tg iter Γ τ f := by
  obtain ⟨t, ht, q⟩ := h
  refine ⟨iList A.K t, fun X hX => by rw [← hX.K]; exact pi_list (ht X hX), fun O σ H s R hs hp => q O σ H s _ hs (hp.mono (fun bs k v H1 s1 r => ?_) fun _ z => z)⟩
  obtain ⟨p, vs, rfl, e, z, r⟩ := r
  refine ⟨p, rfl, ⟨vs, .inl (.inl (cut_le _ _ e))⟩, k _ H1 s1 (Wkg.listT (vs := vs) (.inl (.inl e)) (by rw [cut_nil]; exact r))⟩
theorem IX.listF {f : S → Rs (List α)} (h : PX A ca iter Γ (tF τ) f) : IX A ca tg iter Γ τ f := by
  obtain ⟨t, ht, q⟩ := h
  refine ⟨iList A.K t, fun X hX => by rw [← hX.K]; exact pi_list (ht X hX), fun O σ H s R hs hp => q O σ H s _ hs (hp.mono (fun bs k v H1 s1 r => ?_) fun _ z => z)⟩
  obtain ⟨p, vs, rfl, e, z, r⟩ := r
  refine ⟨p, rfl, ⟨vs, (cut_le (O := O)).seq e⟩, k _ H1 s1 (Wkg.listT (vs := vs) e (by rw [cut_nil]; exact r))⟩
theorem IB.list {f : S → Rs (List α)} (h : BX A ca iter Γ (cL τ) f) : IB A ca tg iter Γ τ f := by
  obtain ⟨t, ht, q⟩ := h
  refine ⟨iList A.K t, fun X hX => by rw [← hX.K]; exact pi_list (ht X hX), fun O σ H s R hs hp => q O σ H s _ hs (hp.mono (fun bs k p vs H1 s1 e z r => ?_) fun _ z => z)⟩
  exact ⟨p, rfl, ⟨vs, .inl (.inl e)⟩, k _ H1 s1 (Wkg.listT (vs := vs) (.inl (.inl e)) r)⟩
theorem IX.tup {f : S → Rs (List α)} (h : PX A ca iter Γ (tT τ) f) : IX A ca tg iter Γ τ f := by
  obtain ⟨t, ht, q⟩ := h
  refine ⟨iTup A.K t, fun X hX => by rw [← hX.K]; exact pi_tup (ht X hX), fun O σ H s R hs hp => q O σ H s _ hs (hp.mono (fun bs k v H1 s1 r => ?_) fun _ z => z)⟩
  obtain ⟨p, vs, rfl, e, z, r⟩ := r
  refine ⟨p, rfl, ⟨vs, .inl (.inl (cut_le _ _ e))⟩, k _ H1 s1 ⟨fun i H' s2 hi => ?_, fun i b x H' H'' s2 hb hy => ?_, fun H' s2 => ⟨vs, .inl (.inl (s2 _ _ e)), by rw [Paired.length r]; exact Nat.le_refl _⟩⟩⟩
  · obtain ⟨v, h1, _⟩ := Paired.get r (List.getElem?_eq_getElem hi)
    exact ⟨vs, v, .inl (.inl (s2 _ _ e)), h1⟩
  · obtain ⟨rfl, hx⟩ := hy
    have h1 := hx vs (.inl (.inl (s2 _ _ e)))
    obtain ⟨v, h2, h3⟩ := Paired.get r hb
    rw [h1] at h2; cases h2
    refine ⟨Same.refl _, fun O' hO hn => τ.mono ?_ h3⟩
    have := cut_sees (O := []) s2 hO
    rwa [cut_nil] at this
/-- lo .. hi - 1 -/
def rangeL (lo hi : Int) : List Int := (List.range (hi - lo).toNat).map fun (i : Nat) => lo + (i : Int)
theorem Wkg.range {K : PySem.W.Frag} {lo hi : Int} {G : Hp} {n : Nat} (hn : n = (hi - lo).toNat) : Wkg K (Itr lo n) G [] tI (rangeL lo hi) := by
  have hl : (rangeL lo hi).length = n := by unfold rangeL; simp [hn]
  refine ⟨fun i H' s h => by rw [hl] at h; exact h, fun i b x H' H'' s hb hy => ?_, fun H' s => by rw [hl]; exact Nat.le_refl _⟩
  obtain ⟨rfl, rfl⟩ := hy
  refine ⟨Same.refl _, fun _ _ _ => ?_⟩
  unfold rangeL at hb
  rw [List.getElem?_map] at hb
  cases q : (List.range (hi - lo).toNat)[i]? with
  | none => rw [q] at hb; cases hb
  | some j =>
    rw [q] at hb
    have : j = i := by
      obtain ⟨h1, h2⟩ := List.getElem?_eq_some_iff.mp q
      simp at h2; exact h2.symm
    subst this
    simp at hb
    rw [← hb]; rfl
def rgOk (i j : Int) : Bool := decide (-(2 ^ 62) ≤ i ∧ i < 2 ^ 62 ∧ -(2 ^ 62) ≤ j ∧ j < 2 ^ 62 ∧ (j - i).toNat ≤ sizeLine)
theorem IX.range1 {f : S → Rs Int} (B : Blt A "range" (.type "range")) (h : PX A ca a Γ tI f) (hs : star a = false := by rfl) : IX A ca tg (.Call (.Name "range" p) [a] [] pos) Γ tI (fun s => (f s).bind fun n => Rs.guard (rgOk 0 n) (.ok (rangeL 0 n))) := by
  obtain ⟨t, ht, q⟩ := h
  refine ⟨_, fun X hX => pi_range1 (hX.gl B.gl) (by rw [hX.mg]; exact B.mg) (pa_cons (ht X hX) pa_nil (star_each hs)) (star_each hs), fun O σ H s R hs hp => q O σ H s _ hs ((Rs.post_bind hp).mono (fun n k v H1 s1 r => ?_) fun _ z => z)⟩
  obtain ⟨hc, k⟩ := Rs.post_guard k
  obtain ⟨c1, c2, c3, c4, c5⟩ := of_decide_eq_true hc
  exact ⟨n, by rw [show v = .int n from r], c3, c4, k _ H1 s1 (Wkg.range (by simp))⟩
theorem IX.range2 {f g : S → Rs Int} (B : Blt A "range" (.type "range")) (ha : PX A ca a Γ tI f) (hb : PX A ca b Γ tI g) (h1 : star a = false := by rfl) (h2 : star b = false := by rfl) : IX A ca tg (.Call (.Name "range" p) [a, b] [] pos) Γ tI (fun s => (f s).bind fun m => (g s).bind fun n => Rs.guard (rgOk m n) (.ok (rangeL m n))) := by
  obtain ⟨ta, pa, qa⟩ := ha
  obtain ⟨tb, pb, qb⟩ := hb
  refine ⟨_, fun X hX => pi_range2 (hX.gl B.gl) (by rw [hX.mg]; exact B.mg) (pa_cons (pa X hX) (pa_cons (pb X hX) pa_nil (star_each h2)) (star_each h1)) (by rw [star_each h1, star_each h2]; rfl) (star_each h2), fun O σ H s R hs hp => PX.two qa qb hs hp fun m n v u H2 sm r1 r2 k => ?_⟩
  obtain ⟨hc, k⟩ := Rs.post_guard k
  obtain ⟨c1, c2, c3, c4, c5⟩ := of_decide_eq_true hc
  exact ⟨m, n, by rw [show v = .int m from r1, show u = .int n from r2], ⟨c1, c2, c3, c4⟩, k _ H2 sm (Wkg.range rfl)⟩
/-- enumerate -/
def enumL {α : Type} (xs : List α) : List (Int × α) := xs.zipIdx.map fun p => ((p.2 : Int), p.1)
theorem enumL_get {xs : List α} {i : Nat} {b : Int × α} (h : (enumL xs)[i]? = some b) : b.1 = i ∧ xs[i]? = some b.2 := by
  unfold enumL at h
  rw [List.getElem?_map, List.getElem?_zipIdx] at h
  cases q : xs[i]? with
  | none => rw [q] at h; cases h
  | some y =>
    rw [q] at h
    simp at h
    rw [← h]; exact ⟨rfl, rfl⟩
theorem enumL_len {xs : List α} : (enumL xs).length = xs.length := by unfold enumL; simp
abbrev tPr {α β : Type} (τ : Ty α) (τ' : Ty β) : Ty (α × β) := tTup (.cons τ (.one τ'))
theorem IX.enum {f : S → Rs (List α)} {elts : List Expr} {kk : Nat} {tpos : Pos} (B : Blt A "enumerate" (.type "enumerate")) (h : PX A ca a Γ (tL τ) f) (hs : star a = false := by rfl) :
    IX A ca (.Tuple elts kk tpos) (.Call (.Name "enumerate" p) [a] [] pos) Γ (tPr tI τ) (fun s => (f s).bind fun xs => .ok (enumL xs)) := by
  obtain ⟨t, ht, q⟩ := h
  refine ⟨iEnum A.K (tCons t tNil), fun X hX => by rw [← hX.K]; exact pi_enum (hX.gl B.gl) (by rw [hX.mg]; exact B.mg) (pa_cons (ht X hX) pa_nil (star_each hs)) (star_each hs), fun O σ H s R hs hp => ?_⟩
  show t σ H _
  refine q O σ H s _ hs ((Rs.post_bind hp).mono (fun xs k v H1 s1 r => ?_) fun _ z => z)
  obtain ⟨p, vs, rfl, e, z, r⟩ := r
  refine ⟨p, vs, rfl, .inl (.inl (cut_le _ _ e)), k _ H1 s1 ⟨fun i H' s2 hi => ?_, fun i b x H' H'' s2 hb hy => ?_, fun H' s2 => ⟨vs, .inl (.inl (s2 _ _ e)), by rw [enumL_len, Paired.length r]; exact Nat.le_refl _⟩⟩⟩
  · rw [enumL_len] at hi
    obtain ⟨v, h1, _⟩ := Paired.get r (List.getElem?_eq_getElem hi)
    exact ⟨vs, v, .inl (.inl (s2 _ _ e)), h1⟩
  · obtain ⟨T, y, rfl, nT, rfl, hx⟩ := hy
    have h1 := hx vs (.inl (.inl (s2 _ _ e)))
    obtain ⟨b1, b2⟩ := enumL_get hb
    obtain ⟨v, h2, h3⟩ := Paired.get r b2
    rw [h1] at h2; cases h2
    refine ⟨same_upd nT, fun O' hO hn => ?_⟩
    have sG := cut_sees (O := []) (s2.trans (same_upd (o := .tup [.int (i : Nat), y]) nT)) hO
    rw [cut_nil] at sG
    refine ⟨T, [.int (i : Nat), y], rfl, ?_, .int (i : Nat), [y], rfl, ?_, y, rfl, τ.mono sG h3⟩
    · rw [cut_out fun z => hn T z nT, upd_same]
    · rw [b1]; rfl
theorem zip_get {xs : List α} {ys : List β} {i : Nat} {b : α × β} (h : (xs.zip ys)[i]? = some b) : xs[i]? = some b.1 ∧ ys[i]? = some b.2 := by
  rw [List.getElem?_zip_eq_some] at h
  exact h
theorem IX.zip {f : S → Rs (List α)} {g : S → Rs (List β)} {elts : List Expr} {kk : Nat} {tpos : Pos} (B : Blt A "zip" (.type "zip")) (ha : PX A ca a Γ (tL τ) f) (hb : PX A ca b Γ (tL τ') g) (h1 : star a = false := by rfl) (h2 : star b = false := by rfl) :
    IX A ca (.Tuple elts kk tpos) (.Call (.Name "zip" p) [a, b] [] pos) Γ (tPr τ τ') (fun s => (f s).bind fun xs => (g s).bind fun ys => .ok (xs.zip ys)) := by
  obtain ⟨ta, pa, qa⟩ := ha
  obtain ⟨tb, pb, qb⟩ := hb
  refine ⟨iZip A.K (tCons ta (tCons tb tNil)), fun X hX => by rw [← hX.K]; exact pi_zip (hX.gl B.gl) (by rw [hX.mg]; exact B.mg) (pa_cons (pa X hX) (pa_cons (pb X hX) pa_nil (star_each h2)) (star_each h1)) (star_each h1) (star_any (by simp [h2])), fun O σ H s R hs hp => ?_⟩
  show ta σ H fun v H1 => tb σ H1 fun u H2 => _
  refine PX.two qa qb hs hp fun xs ys v u H2 sm r1 r2 k => ?_
  obtain ⟨p, vs, rfl, e, z, r1⟩ := r1
  obtain ⟨q, us, rfl, e2, z2, r2⟩ := r2
  refine ⟨p, q, vs, us, rfl, .inl (.inl (cut_le _ _ e)), .inl (.inl (cut_le _ _ e2)), k _ H2 sm ⟨fun i H' s2 hi => ?_, fun i b x H' H'' s2 hb hy => ?_, fun H' s2 => ⟨vs, us, .inl (.inl (s2 _ _ e)), .inl (.inl (s2 _ _ e2)), ?_⟩⟩⟩
  · rw [List.length_zip] at hi
    obtain ⟨v, h1, _⟩ := Paired.get r1 (List.getElem?_eq_getElem (show i < xs.length by omega))
    obtain ⟨w, h2, _⟩ := Paired.get r2 (List.getElem?_eq_getElem (show i < ys.length by omega))
    exact ⟨vs, us, v, w, .inl (.inl (s2 _ _ e)), .inl (.inl (s2 _ _ e2)), h1, h2⟩
  · obtain ⟨T, y, w, rfl, nT, rfl, hx, hw⟩ := hy
    have h1 := hx vs (.inl (.inl (s2 _ _ e)))
    have h2 := hw us (.inl (.inl (s2 _ _ e2)))
    obtain ⟨b1, b2⟩ := zip_get hb
    obtain ⟨v, g1, g2⟩ := Paired.get r1 b1
    rw [h1] at g1; cases g1
    obtain ⟨v, g1, g3⟩ := Paired.get r2 b2
    rw [h2] at g1; cases g1
    refine ⟨same_upd nT, fun O' hO hn => ?_⟩
    have sG := cut_sees (O := []) (s2.trans (same_upd (o := .tup [y, w]) nT)) hO
    rw [cut_nil] at sG
    exact ⟨T, _, rfl, by rw [cut_out fun z => hn T z nT, upd_same], _, _, rfl, τ.mono sG g2, _, rfl, τ'.mono sG g3⟩
  · rw [List.length_zip, Paired.length r1, Paired.length r2]; omega
/-! ### targets -/
structure LocA (A : Amb) (x : Str) : Prop where
  loc : Loc A.sc x
  fn : A.fn x = true ∨ A.sc.names.lookup x = some .local
/-- a slot that owns nothing is stored -/
structure PutV {S : Type} (Γ : Cxt S) (i : Nat) {β : Type} (τ : Ty β) {S' : Type} (Γ' : Cxt S') (p : S → β → S') : Prop where
  set : ∀ {K : PySem.W.Frag} {G H : Hp} {σ : L2.St} {O : List Addr} {s : S} {v : V} {b : β}, Γ.rep K G H σ O s → τ.rep K G v b → Γ'.rep K G H (σ.set i (some v)) O (p s b)
theorem PutV.any {S : Type} {τ : Ty β} {Γ : Cxt S} : PutV (.cons .any Γ) 0 τ (.cons (.val τ) Γ) (fun s b => (b, s.2)) := ⟨by
  rintro K G H σ O s v b ⟨y, σ', O1, O2, rfl, rfl, h1, h2⟩ hk
  exact ⟨_, σ', O1, O2, rfl, rfl, ⟨h1, v, rfl, hk⟩, h2⟩⟩
theorem PutV.val {S : Type} {τ : Ty β} {τ' : Ty α} {Γ : Cxt S} : PutV (.cons (.val τ') Γ) 0 τ (.cons (.val τ) Γ) (fun s b => (b, s.2)) := ⟨by
  rintro K G H σ O s v b ⟨y, σ', O1, O2, rfl, rfl, h1, h2⟩ hk
  exact ⟨_, σ', O1, O2, rfl, rfl, ⟨h1.1, v, rfl, hk⟩, h2⟩⟩
theorem PutV.s {S S' : Type} {τ : Ty β} {j : Sl α} {Γ : Cxt S} {Γ' : Cxt S'} {i : Nat} {p : S → β → S'} (h : PutV Γ i τ Γ' p) : PutV (.cons j Γ) (i + 1) τ (.cons j Γ') (fun s b => (s.1, p s.2 b)) := ⟨by
  rintro K G H σ O s v b ⟨y, σ', O1, O2, rfl, rfl, h1, h2⟩ hk
  exact ⟨y, _, O1, O2, rfl, rfl, h1, h.set h2 hk⟩⟩
/-- a target takes a value; the slots ix are stored -/
def GX (A : Amb) (tg : Expr) {S S' α : Type} (Γ : Cxt S) (Γ' : Cxt S') (τ : Ty α) (put : S → α → S') (ix : List Nat) : Prop :=
  ∃ g, (∀ X, A.In X → PG X tg g) ∧ ∀ (G H : Hp) (σ : L2.St) (O : List Addr) (s : S) (v : V) (a : α) (Q : L2.St → Hp → Prop), Same G H → Γ.rep A.K G H σ O s → τ.rep A.K G v a →
    (∀ σ', (∀ vs, (∀ i ∈ ix, i ∈ vs) → wipe σ' vs = wipe σ vs) → Γ'.rep A.K G H σ' O (put s a) → Q σ' H) → g v σ H Q
def GXs (A : Amb) (tgs : List Expr) {S S' α : Type} (Γ : Cxt S) (Γ' : Cxt S') (ts : Tys α) (put : S → α → S') (ix : List Nat) : Prop :=
  ∃ g, (∀ X, A.In X → PGs X tgs g) ∧ ∀ (G H : Hp) (σ : L2.St) (O : List Addr) (s : S) (v : List V) (a : α) (Q : L2.St → Hp → Prop), Same G H → Γ.rep A.K G H σ O s → ts.rep A.K G v a →
    (∀ σ', (∀ vs, (∀ i ∈ ix, i ∈ vs) → wipe σ' vs = wipe σ vs) → Γ'.rep A.K G H σ' O (put s a) → Q σ' H) → g v σ H Q
theorem wipe_set {i : Nat} {x : Option V} : ∀ (vs : List Nat) (σ : L2.St), i ∈ vs → wipe (σ.set i x) vs = wipe σ vs
  | [], _, h => by simp at h
  | v :: vs, σ, h => by
    have key : ∀ (us : List Nat) (σ : L2.St), i ∉ us → wipe (σ.set i x) us = (wipe σ us).set i x := by
      intro us
      induction us with
      | nil => intro σ _; rfl
      | cons u us ih =>
        intro σ hn
        simp only [List.mem_cons, not_or] at hn
        unfold wipe
        rw [ih σ hn.2, List.set_comm _ _ hn.1]
    by_cases hi : i ∈ vs
    · unfold wipe
      rw [wipe_set vs σ hi]
    · have e : i = v := by
        rcases List.mem_cons.mp h with e | e
        · exact e
        · exact absurd e hi
      subst e
      unfold wipe
      rw [key vs σ hi, List.set_set]
theorem wipe_wipe {σ : L2.St} {us : List Nat} : ∀ (vs : List Nat), (∀ i ∈ vs, i ∈ us) → wipe (wipe σ vs) us = wipe σ us
  | [], _ => rfl
  | v :: vs, h => by
    show wipe ((wipe σ vs).set v none) us = _
    rw [wipe_set us _ (h v (by simp)), wipe_wipe vs fun i hi => h i (List.mem_cons_of_mem _ hi)]
theorem GX.name {S S' : Type} {Γ : Cxt S} {Γ' : Cxt S'} {i : Nat} {put : S → α → S'} (h : PutV Γ i τ Γ' put) (hi : A.N[i]? = some x) (hx : LocA A x) : GX A (.Name x pos) Γ Γ' τ put [i] := by
  refine ⟨_, fun X hX => pg_name (by rw [hX.N]; exact hX.nd) (by rw [hX.N]; exact hi) (by rw [hX.sc]; exact hx.loc) (by rw [hX.fn, hX.sc]; exact hx.fn), fun G H σ O s v a Q sG hr hv hq => ?_⟩
  exact hq _ (fun vs hv => wipe_set vs σ (hv i (by simp))) (h.set hr hv)
def starT : Expr → Bool
  | .Starred _ _ => true
  | _ => false
theorem assign_each {e : Expr} {es : List Expr} {env : Env} (h : star e = false) : assignEach (e :: es) env = (false, assign e env) :: assignEach es env := by
  cases e <;> first | rfl | (exact absurd h (by simp [star]))
theorem GXs.one {S S' : Type} {Γ : Cxt S} {Γ' : Cxt S'} {put : S → α → S'} {ix : List Nat} (h : GX A tg Γ Γ' τ put ix) (hs : star tg = false := by rfl) : GXs A [tg] Γ Γ' (.one τ) put ix := by
  obtain ⟨g, hg, q⟩ := h
  refine ⟨_, fun X hX => pgs_cons (hg X hX) pgs_nil (by rw [assign_each hs]; rfl), fun G H σ O s v a Q sG hr hv hq => ?_⟩
  obtain ⟨w, rfl, r⟩ := hv
  exact ⟨w, [], rfl, q G H σ O s w a _ sG hr r fun σ' hw hr' => ⟨rfl, hq σ' hw hr'⟩⟩
theorem GXs.cons {S S' S'' : Type} {Γ : Cxt S} {Γ' : Cxt S'} {Γ'' : Cxt S''} {ts : Tys β} {tgs : List Expr} {put : S → α → S'} {put' : S' → β → S''} {ix ix' : List Nat} (h : GX A tg Γ Γ' τ put ix) (h' : GXs A tgs Γ' Γ'' ts put' ix') (hs : star tg = false := by rfl) :
    GXs A (tg :: tgs) Γ Γ'' (.cons τ ts) (fun s a => put' (put s a.1) a.2) (ix ++ ix') := by
  obtain ⟨g, hg, q⟩ := h
  obtain ⟨g', hg', q'⟩ := h'
  refine ⟨_, fun X hX => pgs_cons (hg X hX) (hg' X hX) (by rw [assign_each hs]; rfl), fun G H σ O s v a Q sG hr hv hq => ?_⟩
  obtain ⟨w, r, rfl, r1, r2⟩ := hv
  refine ⟨w, r, rfl, q G H σ O s w a.1 _ sG hr r1 fun σ' hw hr' => q' G H σ' O _ r a.2 _ sG hr' r2 fun σ'' hw' hr'' => hq σ'' (fun vs hv => ?_) hr''⟩
  rw [hw' vs fun i hi => hv i (List.mem_append_right _ hi), hw vs fun i hi => hv i (List.mem_append_left _ hi)]
theorem star_tgs {env : Env} : ∀ {es : List Expr}, es.any star = false → (assignEach es env).length = es.length ∧ (assignEach es env).findIdx? (·.1) = none := by
  intro es
  induction es with
  | nil => intro _; exact ⟨rfl, rfl⟩
  | cons e r ih =>
    intro h
    simp only [List.any_cons, Bool.or_eq_false_iff] at h
    obtain ⟨h1, h2⟩ := ih h.2
    rw [assign_each h.1]
    refine ⟨by rw [List.length_cons, List.length_cons, h1], ?_⟩
    rw [List.findIdx?_cons]
    simp [h2]
theorem GX.tup {S S' : Type} {Γ : Cxt S} {Γ' : Cxt S'} {ts : Tys α} {tgs : List Expr} {put : S → α → S'} {ix : List Nat} {kk : Nat} (h : GXs A tgs Γ Γ' ts put ix) (hl : tgs.length = ts.len := by rfl) (hs : tgs.any star = false := by rfl) : GX A (.Tuple tgs kk pos) Γ Γ' (tTup ts) put ix := by
  obtain ⟨g, hg, q⟩ := h
  refine ⟨gTup A.K tgs.length g, fun X hX => by rw [← hX.K]; exact pg_tup hX.calm (hg X hX) (star_tgs hs).1 (star_tgs hs).2, fun G H σ O s v a Q sG hr hv hq => ?_⟩
  obtain ⟨p, vs, rfl, e, r⟩ := hv
  exact ⟨p, vs, rfl, .inl (.inl (sG _ _ e)), by rw [ts.length r, hl], q G H σ O s vs a Q sG hr r hq⟩
/-! ### a comprehension's block -/
abbrev Amb.blk (A : Amb) (scope : Scope) : Amb := { A with sc := relS scope A.sc, E := E0, fn := fun x => scope.names.lookup x == some .cell }
theorem lookup_far : ∀ l : List (Str × NameKind), ∃ m : Nat, ∀ x : Str, m ≤ x.length → l.lookup x = none
  | [] => ⟨0, fun _ _ => rfl⟩
  | (k, v) :: l => by
    obtain ⟨m, h⟩ := lookup_far l
    refine ⟨m + (k.length + 1), fun x hx => ?_⟩
    have : (x == k) = false := by
      rw [beq_eq_false_iff_ne]
      intro e
      rw [e] at hx
      omega
    rw [List.lookup, this]
    exact h x (by omega)
theorem no_all (l : List (Str × NameKind)) : ¬ (fun x : Str => l.lookup x == some NameKind.cell) = fun _ => true := fun z => by
  obtain ⟨m, h⟩ := lookup_far l
  have e := congrFun z (Str.ofString (String.ofList (List.replicate m 'a')))
  rw [h _ (by rw [PySem.ofString_length]; simp)] at e
  cases e
theorem Amb.In.blk {X : Cx} (hX : A.In X) (scope : Scope) (s : Shared) (H : Hp) (C : Addr) (cl : List (Str × Addr)) (fp : List Addr) : (A.blk scope).In (X.blk s H scope (compEnvC scope cl C X.env) fp) := by
  refine ⟨hX.prog, hX.w, hX.K, hX.mg, hX.base, hX.N, ?_, rfl, hX.nd, hX.calm, hX.room, ?_, PassesOwn.never, takes0, fun z => absurd z (no_all _)⟩
  · show relS scope X.env.scope = relS scope A.sc
    rw [hX.sc]
  · have := @passL (X.blk s H scope (compEnvC scope cl C X.env) fp)
    rw [show (X.blk s H scope (compEnvC scope cl C X.env) fp).prog = A.P from hX.prog, show (X.blk s H scope (compEnvC scope cl C X.env) fp).w = A.w from hX.w] at this
    exact this
theorem vis_blk {scope : Scope} {k : NameKind} (h : scope.names.lookup x = some k) (hk : k = .local ∨ k = .cell ∨ k = .free) : Vis (relS scope A.sc) x := by
  rcases hk with rfl | rfl | rfl
  · exact .inl (lookup_relS_keep (by decide) h)
  · exact .inr (.inl (lookup_relS_keep (by decide) h))
  · have : ∀ (names : List (Str × NameKind)), names.lookup x = some .free → ∃ k', (names.map fun (n, k) => if (k == NameKind.free && A.sc.kind == .function && A.sc.names.lookup n == some .cell) then (n, NameKind.cell) else (n, k)).lookup x = some k' ∧ (k' = .free ∨ k' = .cell) := by
      intro names
      induction names with
      | nil => intro h; simp at h
      | cons y r ih =>
        intro h
        obtain ⟨n, k⟩ := y
        rw [List.map_cons]
        dsimp only
        by_cases e : x = n
        · subst e
          simp at h
          subst h
          by_cases q : (NameKind.free == NameKind.free && A.sc.kind == .function && A.sc.names.lookup x == some .cell) = true
          · rw [if_pos q]; exact ⟨.cell, by simp, .inr rfl⟩
          · rw [if_neg q]; exact ⟨.free, by simp, .inl rfl⟩
        · have e' : (x == n) = false := by simp [e]
          simp only [List.lookup_cons, e'] at h
          obtain ⟨k', h1, h2⟩ := ih h
          refine ⟨k', ?_, h2⟩
          by_cases q : (k == NameKind.free && A.sc.kind == .function && A.sc.names.lookup n == some .cell) = true
          · rw [if_pos q, List.lookup_cons, e']; exact h1
          · rw [if_neg q, List.lookup_cons, e']; exact h1
    obtain ⟨k', h1, h2⟩ := this scope.names h
    rcases h2 with rfl | rfl
    · exact .inr (.inr h1)
    · exact .inr (.inl h1)
theorem gl_blk {scope : Scope} (h : scope.names.lookup x = some .globalImplicit) : GlA (A.blk scope) x := lookup_relS_keep (by decide) h
theorem loc_blk {scope : Scope} (h : scope.names.lookup x = some .local) : LocA (A.blk scope) x := ⟨.inl (lookup_relS_keep (by decide) h), .inr (lookup_relS_keep (by decide) h)⟩
theorem locC_blk {scope : Scope} (h : scope.names.lookup x = some .cell) : LocA (A.blk scope) x := ⟨.inr (lookup_relS_keep (by decide) h), .inl (by show (scope.names.lookup x == some .cell) = true; rw [h]; rfl)⟩
theorem blt_blk {scope : Scope} {u : Value} (B : Blt A x u) (h : scope.names.lookup x = some .globalImplicit) : Blt (A.blk scope) x u := ⟨gl_blk h, B.mg, B.bt, B.nn, B.db⟩
theorem callee_blk {scope : Scope} {U : Type} {ts : Tys U} {m : U → Rs β} (C : Callee A ca x ts τ' m) : Callee (A.blk scope) ca x ts τ' m := ⟨C.ex, C.db⟩
/-- slots wiped -/
structure Wp {S S' : Type} (Γ : Cxt S) (vs : List Nat) (Γ' : Cxt S') (w : S → S') : Prop where
  to : ∀ {K : PySem.W.Frag} {G H : Hp} {σ : L2.St} {O : List Addr} {s : S}, Γ.rep K G H σ O s → ∃ O', (∀ p ∈ O', p ∈ O) ∧ O'.Sublist O ∧ Γ'.rep K G H (wipe σ vs) O' (w s)
theorem Wp.nil {S : Type} {Γ : Cxt S} : Wp Γ [] Γ (fun s => s) := ⟨fun {K G H σ O s} h => ⟨O, fun _ h => h, List.Sublist.refl O, h⟩⟩
theorem Wp.cons {S S' S'' : Type} {Γ : Cxt S} {Γ' : Cxt S'} {Γ'' : Cxt S''} {vs : List Nat} {v : Nat} {w : S → S'} {q : S' → Unit → S''} (h : Wp Γ vs Γ' w) (hp : Put Γ' v .any Γ'' q) : Wp Γ (v :: vs) Γ'' (fun s => q (w s) ()) := ⟨fun {K G H σ O s} r => by
  obtain ⟨O', h1, h2, h3⟩ := h.to r
  obtain ⟨Oa, Oi, Ob, rfl, r'⟩ := hp.set (x := none) (Ox := []) (b := ()) h3 rfl
  have hsub : (Oa ++ ([] ++ Ob)).Sublist (Oa ++ (Oi ++ Ob)) := (List.Sublist.refl Oa).append ((List.nil_sublist Oi).append (List.Sublist.refl Ob))
  exact ⟨_, fun p hp => h1 p (hsub.subset hp), hsub.trans h2, r'⟩⟩
theorem Wp.sx {S S' : Type} {Γ : Cxt S} {vs : List Nat} {Γ' : Cxt S'} {w : S → S'} (h : Wp Γ vs Γ' w) {K : PySem.W.Frag} {O : List Addr} {σ : L2.St} {H : Hp} {s : S} (hs : Sx K O Γ σ H s) : Sx K O Γ' (wipe σ vs) H (w s) := by
  obtain ⟨⟨Og, h1, h2⟩, hd⟩ := hs
  obtain ⟨O', h3, _, h4⟩ := h.to h2
  exact ⟨⟨O', fun p hp => h1 p (h3 p hp), h4⟩, hd⟩
/-- the tests of a comprehension -/
def PTz (A : Amb) (ca : Nat → Addr) (ifs : List Expr) {S : Type} (Γ : Cxt S) (f : S → Rs Bool) : Prop :=
  ∃ t, (∀ X, A.In X → PTs X ifs t) ∧ ∀ (O : List Addr) (σ : L2.St) (H : Hp) (s : S) (Q : Bool → Hp → Prop), Sx A.K O Γ σ H s → (f s).Post (fun a => ∀ H', Same H H' → Q a H') (Exw A.E ca H) → t σ H Q
theorem PTz.nil : PTz A ca [] Γ (fun _ => .ok true) := ⟨_, fun X hX => pts_nil, fun O σ H s Q hs hp => hp H (Same.refl H)⟩
theorem PTz.one {f : S → Rs Bool} (h : PB A ca e Γ f) : PTz A ca [e] Γ f := let ⟨t, ht, q⟩ := h; ⟨t, fun X hX => pts_one (ht X hX), q⟩
/-- what a comprehension makes -/
def lcM {β γ : Type} (g : β → Rs (Option γ)) : List β → Rs (List γ)
  | [] => .ok []
  | x :: r => (g x).bind fun o => (lcM g r).bind fun ys => .ok (match o with | some y => y :: ys | none => ys)
/-- no exception leaves a comprehension's block -/
def nox {α : Type} : Rs α → Rs α
  | .ok a => .ok a
  | _ => .bad
theorem post_nox {r : Rs α} {P : α → Prop} {E E' : Nat → Prop} (h : (nox r).Post P E) : r.Post P E' := by
  cases r with
  | ok a => exact h
  | exc c => exact h.elim
  | bad => exact h
def lcT {α : Type} (t : Rs Bool) (y : Rs α) : Rs (Option α) := t.bind fun c => if c then y.bind fun a => .ok (some a) else .ok none
theorem lcM_snoc {β γ : Type} (g : β → Rs (Option γ)) : ∀ (l : List β) (x : β), lcM g (l ++ [x]) = (lcM g l).bind fun ys => (g x).bind fun o => .ok (ys ++ o.toList)
  | [], x => by
    show (g x).bind _ = (g x).bind _
    cases g x with
    | ok o => cases o <;> rfl
    | exc c => rfl
    | bad => rfl
  | z :: l, x => by
    show (g z).bind _ = ((g z).bind _).bind _
    cases hz : g z with
    | exc c => rfl
    | bad => rfl
    | ok o =>
      show (lcM g (l ++ [x])).bind _ = ((lcM g l).bind _).bind _
      rw [lcM_snoc g l x]
      cases lcM g l with
      | exc c => rfl
      | bad => rfl
      | ok ys =>
        show ((g x).bind _).bind _ = (g x).bind _
        cases g x with
        | exc c => rfl
        | bad => rfl
        | ok o' => cases o <;> rfl
theorem lcM_cons {β γ : Type} (g : β → Rs (Option γ)) (x : β) (r : List β) : lcM g (x :: r) = (g x).bind fun o => (lcM g r).bind fun ys => .ok (o.toList ++ ys) := by
  show (g x).bind _ = _
  congr 1
  funext o
  cases o <;> rfl
/-- a comprehension's reading -/
theorem lc_spec {S1 S2 : Type} {Γw : Cxt S1} {Γt : Cxt S2} {τ1 : Ty β} {τ2 : Ty γ} {fi : S → Rs (List β)} {w : S → S1} {put : S1 → β → S2} {ix : List Nat} {ft : S2 → Rs Bool} {fe : S2 → Rs γ} {wi : TI} {g : TG} {tt : TT} {te : TE}
    {own : List (Str × Nat)} (hw : Wp Γ (own.map (·.2)) Γw w) (hix : ∀ i ∈ ix, i ∈ own.map (·.2))
    (qi : ∀ (O : List Addr) (σ : L2.St) (H : Hp) (s : S) (R : It → Hp → Prop), Sx A.K O Γ σ H s → (fi s).Post (fun bs => ∀ J H1, Same H H1 → Wkg A.K J H1 O τ1 bs → R J H1) (Exw A.E ca H) → wi σ H R)
    (qg : ∀ (G H : Hp) (σ : L2.St) (O : List Addr) (s : S1) (v : V) (a : β) (Q : L2.St → Hp → Prop), Same G H → Γw.rep A.K G H σ O s → τ1.rep A.K G v a →
      (∀ σ', (∀ vs, (∀ i ∈ ix, i ∈ vs) → wipe σ' vs = wipe σ vs) → Γt.rep A.K G H σ' O (put s a) → Q σ' H) → g v σ H Q)
    (qt : ∀ (O : List Addr) (σ : L2.St) (H : Hp) (s : S2) (Q : Bool → Hp → Prop), Sx A.K O Γt σ H s → (ft s).Post (fun a => ∀ H', Same H H' → Q a H') (Exw E0 ca H) → tt σ H Q)
    (qe : ∀ (O : List Addr) (σ : L2.St) (H : Hp) (s : S2) (Q : VK), Sx A.K O Γt σ H s → (fe s).Post (fun a => ∀ v H', Same H H' → τ2.rep A.K (cut H' O) v a → Q v H') (Exw E0 ca H) → te σ H Q)
    (O : List Addr) (σ : L2.St) (H : Hp) (s : S) (Q : VK) (hs : Sx A.K O Γ σ H s)
    (hp : ((fi s).bind fun bs => Rs.guard (decide (bs.length ≤ sizeLine)) (lcM (fun b => nox (lcT (ft (put (w s) b)) (fe (put (w s) b)))) bs)).Post (fun a => ∀ p vs H', H p = none → Same H H' → H' p = some (.lst vs) → vs.length ≤ sizeLine → (cL τ2).rep A.K (cut H' (p :: O)) vs a → Q (.ref p) H') (Exw A.E ca H)) :
    tLc wi g tt te (own.map (·.2)) σ H Q := by
  refine qi O σ H s _ hs ((Rs.post_bind hp).mono (fun bs k J H1 s1 wk => ?_) fun _ z => z)
  obtain ⟨hz, k⟩ := Rs.post_guard k
  have hz : bs.length ≤ sizeLine := of_decide_eq_true hz
  intro D nD
  generalize hgg : (fun b => nox (lcT (ft (put (w s) b)) (fe (put (w s) b)))) = gg at k
  have hDO : D ∉ O := hs.out' s1 nD
  -- the invariant: what is made so far, and what is left is wanted
  let Wv : Nat → Nat → Hp → Prop := fun i m H' => i + m = bs.length ∧ Same H1 H' ∧ ∃ acc ys, H' D = some (.lst acc) ∧ acc.length ≤ i ∧ Paired (τ2.rep A.K (cut H' (D :: O))) acc ys ∧
    (lcM gg (bs.drop i)).Post (fun zs => ∀ p vs H'', H p = none → Same H H'' → H'' p = some (.lst vs) → vs.length ≤ sizeLine → (cL τ2).rep A.K (cut H'' (p :: O)) vs (ys ++ zs) → Q (.ref p) H'') (Exw A.E ca H)
  refine ⟨Wv, ⟨bs.length, by omega, same_upd nD, [], [], upd_same, Nat.zero_le _, .nil, ?_⟩, fun i m H' hW => ?_⟩
  · rw [List.drop_zero]; exact k
  · obtain ⟨him, sm, acc, ys, eD, hacc, hr, hk⟩ := hW
    by_cases hi : i < bs.length
    · refine .inr ⟨wk.go i H' sm hi, Wv (i + 1) (m - 1), fun H'' h => ⟨m - 1, by omega, h⟩, fun x H2 hy => ?_⟩
      have hbi : bs[i]? = some bs[i] := List.getElem?_eq_getElem hi
      obtain ⟨s2, rx⟩ := wk.yl i _ x H' H2 sm hbi hy
      have hdrop : bs.drop i = bs[i] :: bs.drop (i + 1) := List.drop_eq_getElem_cons hi
      rw [hdrop, lcM_cons] at hk
      have sH2 : Same H1 H2 := sm.trans s2
      have eD2 : H2 D = some (.lst acc) := s2 _ _ eD
      have hsx : Sx A.K (D :: O) Γw (wipe σ (own.map (·.2))) H2 (w s) := by
        obtain ⟨⟨Og, b1, b2⟩, b3⟩ := hw.sx (hs.grow s1)
        refine ⟨⟨Og, fun p hp => List.mem_cons_of_mem _ (b1 p hp), Γw.mono (fun b o e => ?_) (fun p hp o e => sH2 _ _ e) b2⟩, fun p hp => ?_⟩
        · by_cases hO : b ∈ O
          · rw [cut_in hO] at e; cases e
          · rw [cut_out hO] at e
            have hb : b ≠ D := ne_of_none e nD
            rw [cut_out (by simp [hb, hO])]; exact sH2 _ _ e
        · rcases List.mem_cons.mp hp with rfl | hp
          · exact Hidn.lst eD2
          · exact (hs.grow (s1.trans sH2)).hid p hp
      obtain ⟨⟨Og, c1, c2⟩, c3⟩ := hsx
      have rx' := rx (D :: O) (fun p hp => by
        rcases List.mem_cons.mp hp with rfl | hp
        · exact .inr nD
        · exact .inl hp) (fun p hp z => by
        rcases List.mem_cons.mp hp with rfl | hp
        · rw [eD] at z; cases z
        · exact ((hs.grow (s1.trans sm)).hid p hp).ne z)
      refine qg _ H2 _ Og (w s) x bs[i] _ cut_le c2 rx' fun σ' hwp hr' => ⟨(hwp _ hix).trans (wipe_wipe _ fun _ h => h), ?_⟩
      have hsx' : Sx A.K (D :: O) Γt σ' H2 (put (w s) bs[i]) := ⟨⟨Og, c1, hr'⟩, c3⟩
      have hk1 := Rs.post_bind hk
      rw [← hgg] at hk1
      have hk2 := Rs.post_bind (post_nox (E' := Exw E0 ca H2) hk1)
      rw [hgg] at hk2
      refine qt (D :: O) σ' H2 _ _ hsx' (hk2.mono (fun c kc H3 s3 => ?_) fun _ z => z)
      cases c with
      | true =>
        refine iteT (qe (D :: O) σ' H3 _ _ (hsx'.grow s3) ((Rs.post_bind kc).mono (fun a ka v H4 s4 ra => ?_) fun _ z => z.grow s3))
        have s34 := s3.trans s4
        have hka := Rs.post_bind ka
        refine ⟨acc, s34 _ _ eD2, by omega, by omega, ?_, acc ++ [v], ys ++ [a], upd_same, by rw [List.length_append]; exact Nat.succ_le_succ hacc, ?_, ?_⟩
        · exact fun b o e => by
            have hb : b ≠ D := ne_of_none e nD
            rw [upd_ne hb]; exact s34 _ _ (sH2 _ _ e)
        · rw [cut_upd (by simp)]
          exact Paired.append (Paired.mono' (cut_grow (s2.trans s34)) hr) (.cons ra .nil)
        · exact hka.mono (fun zs kz p vs H'' n sm' e' z' r' => kz p vs H'' n sm' e' z' (by simpa using r')) fun _ z => z
      | false =>
        refine iteF ?_
        have hka := Rs.post_bind (show (Rs.bind (Rs.ok none) _).Post _ _ from kc)
        refine ⟨by omega, sH2.trans s3, acc, ys, s3 _ _ eD2, by omega, Paired.mono' (cut_grow (s2.trans s3)) hr, ?_⟩
        exact (Rs.post_bind hka).mono (fun zs kz p vs H'' n sm' e' z' r' => kz p vs H'' n sm' e' z' (by simpa using r')) fun _ z => z
    · refine .inl ⟨?_, ?_⟩
      · have : i = bs.length := by omega
        rw [this]; exact wk.st H' sm
      · rw [List.drop_eq_nil_of_le (by omega)] at hk
        exact hk D acc H' (s1.free nD) (s1.trans sm) eD (by omega) (by rw [List.append_nil]; exact hr)
theorem PL.lc {S1 S2 : Type} {Γw : Cxt S1} {Γt : Cxt S2} {τ1 : Ty β} {τ2 : Ty γ} {elt : Expr} {ifs : List Expr} {scope : Scope} {fi : S → Rs (List β)} {w : S → S1} {put : S1 → β → S2} {ix : List Nat} {ft : S2 → Rs Bool} {fe : S2 → Rs γ}
    (own : List (Str × Nat)) (hi : IB A ca tg iter Γ τ1 fi) (hb : blkC A.N A.sc scope own = true) (hw : Wp Γ (own.map (·.2)) Γw w) (hg : GX (A.blk scope) tg Γw Γt τ1 put ix) (hix : ∀ i ∈ ix, i ∈ own.map (·.2))
    (ht : PTz (A.blk scope) ca ifs Γt ft) (he : PX (A.blk scope) ca elt Γt τ2 fe) (hf : ∀ env x, foldedSetIterable iter env x = pure x := by intro _ _; rfl) :
    PL A ca (.ListComp elt [⟨tg, iter, ifs, 0⟩] scope pos) Γ (cL τ2) (fun s => (fi s).bind fun bs => Rs.guard (decide (bs.length ≤ sizeLine)) (lcM (fun b => nox (lcT (ft (put (w s) b)) (fe (put (w s) b)))) bs)) := by
  obtain ⟨wi, pi, qi⟩ := hi
  obtain ⟨g, pg, qg⟩ := hg
  obtain ⟨tt, ptt, qt⟩ := ht
  obtain ⟨te, pe, qe⟩ := he
  refine ⟨tLc wi g tt te (own.map (·.2)), fun X hX => pe_lc hX.calm (by rw [hX.N]; exact hX.nd) (pi X hX) (blkOk_by (by rw [hX.N, hX.sc]; exact hb)) (fun s H C cl fp => pg _ (hX.blk scope s H C cl fp)) (fun s H C cl fp => ptt _ (hX.blk scope s H C cl fp)) (fun s H C cl fp => pe _ (hX.blk scope s H C cl fp)) (hf X.env), fun O σ H s Q hs hp => lc_spec hw hix qi qg qt qe O σ H s Q hs hp⟩
end
end TL
/-! TL5: the state of a def's run; expressions that may change what a slot owns. -/
namespace TL
open PySem PySem.Spec PyProof.Rows L2
variable {A : Amb} {ca : Nat → Addr}
/-- a def's run: the heap at its entry, what is hidden from it, what it may write -/
structure Fm where
  H0 : Hp
  B : List Addr
  I : List Addr
def Fm.Ok (F : Fm) (H : Hp) : Prop := ∀ b o, F.H0 b = some o → b ∉ F.I → H b = some o
/-- something that stays true as more is to be seen -/
structure Mn where
  p : Hp → Prop
  mono : ∀ {G G' : Hp}, Same G G' → p G → p G'
def Mn.top : Mn := ⟨fun _ => True, fun _ _ => trivial⟩
def Mn.and (R R' : Mn) : Mn := ⟨fun G => R.p G ∧ R'.p G, fun s h => ⟨R.mono s h.1, R'.mono s h.2⟩⟩
def Mn.val (K : PySem.W.Frag) {α : Type} (τ : Ty α) (v : V) (a : α) : Mn := ⟨fun G => τ.rep K G v a, fun s h => τ.mono s h⟩
def Mn.lst (K : PySem.W.Frag) {α : Type} (c : Ct α) (vs : List V) (a : α) : Mn := ⟨fun G => c.rep K G vs a, fun s h => c.mono s h⟩
def Mn.tys (K : PySem.W.Frag) {α : Type} (ts : Tys α) (vs : List V) (a : α) : Mn := ⟨fun G => ts.rep K G vs a, fun s h => ts.mono s h⟩
abbrev Lo := List (Addr × List V)
def hid (F : Fm) (L : Lo) (Og : List Addr) : List Addr := F.B ++ (L.map (·.1) ++ Og)
structure RSo (K : PySem.W.Frag) (F : Fm) (L : Lo) (R : Mn) (Og : List Addr) {S : Type} (Γ : Cxt S) (σ : L2.St) (H : Hp) (s : S) : Prop where
  rep : Γ.rep K (cut H (hid F L Og)) H σ Og s
  rs : R.p (cut H (hid F L Og))
  nd : (L.map (·.1) ++ Og).Nodup
  ow : ∀ p ∈ L.map (·.1) ++ Og, (F.H0 p = none ∨ p ∈ F.I) ∧ p ∉ F.B ∧ Hidn H p
  lo : ∀ x ∈ L, H x.1 = some (.lst x.2)
  fr : F.Ok H
  hb : ∀ p ∈ F.B, Hidn F.H0 p ∧ p ∉ F.I
  hi : ∀ p ∈ F.I, Hidn H p
def RS (K : PySem.W.Frag) (F : Fm) (L : Lo) (R : Mn) {S : Type} (Γ : Cxt S) (σ : L2.St) (H : Hp) (s : S) : Prop := ∃ Og, RSo K F L R Og Γ σ H s
/-- the wish of an exception of the run -/
def ExF (E : XK) (ca : Nat → Addr) (F : Fm) (c : Nat) : Prop := ∀ d H', F.Ok H' → E (.ref (ca c)) d H'
section
variable {K : PySem.W.Frag} {F : Fm} {L : Lo} {R R' : Mn} {Og : List Addr} {S S' : Type} {Γ : Cxt S} {Γ' : Cxt S'} {σ : L2.St} {H H' : Hp} {s : S}
theorem RSo.hidden (h : RSo K F L R Og Γ σ H s) : ∀ p ∈ hid F L Og, Hidn H p := fun p hp => by
  rcases List.mem_append.mp hp with hp | hp
  · obtain ⟨h1, h2⟩ := h.hb p hp
    obtain ⟨o, q, n⟩ := h1
    exact ⟨o, h.fr p o q h2, n⟩
  · exact (h.ow p hp).2.2
theorem RSo.sx (h : RSo K F L R Og Γ σ H s) : Sx K (hid F L Og) Γ σ H s := ⟨⟨Og, fun p hp => List.mem_append_right _ (List.mem_append_right _ hp), h.rep⟩, h.hidden⟩
theorem RSo.grow (h : RSo K F L R Og Γ σ H s) (e : Same H H') : RSo K F L R Og Γ σ H' s :=
  ⟨Γ.mono (cut_grow e) (fun p _ o z => e p o z) h.rep, R.mono (cut_grow e) h.rs, h.nd, fun p hp => ⟨(h.ow p hp).1, (h.ow p hp).2.1, (h.ow p hp).2.2.same e⟩, fun x hx => e _ _ (h.lo x hx), fun b o q hb => e _ _ (h.fr b o q hb), h.hb, fun p hp => (h.hi p hp).same e⟩
theorem RSo.with (h : RSo K F L R Og Γ σ H s) (r : R'.p (cut H (hid F L Og))) : RSo K F L R' Og Γ σ H s := ⟨h.rep, r, h.nd, h.ow, h.lo, h.fr, h.hb, h.hi⟩
theorem RSo.more (h : RSo K F L R Og Γ σ H s) (r : R'.p (cut H (hid F L Og))) : RSo K F L (R.and R') Og Γ σ H s := h.with ⟨h.rs, r⟩
theorem RS.grow (h : RS K F L R Γ σ H s) (e : Same H H') : RS K F L R Γ σ H' s := let ⟨Og, h⟩ := h; ⟨Og, h.grow e⟩
theorem RS.map (h : RS K F L R Γ σ H s) (f : ∀ G, R.p G → R'.p G) : RS K F L R' Γ σ H s := let ⟨Og, h⟩ := h; ⟨Og, h.with (f _ h.rs)⟩
theorem RS.fr (h : RS K F L R Γ σ H s) : F.Ok H := let ⟨Og, h⟩ := h; h.fr
theorem ExF.exw {E : XK} {ca : Nat → Addr} {c : Nat} (h : ExF E ca F c) (hf : F.Ok H) : Exw E ca H c := fun d H' s => h d H' fun b o q hb => s _ _ (hf b o q hb)
/-- a new list is loose -/
theorem RSo.loose {p : Addr} {vs : List V} (h : RSo K F L R Og Γ σ H s) (n : H p = none) (sm : Same H H') (e : H' p = some (.lst vs)) (r : R'.p (cut H' (p :: hid F L Og))) : RSo K F ((p, vs) :: L) (R.and R') Og Γ σ H' s := by
  have hp : p ∉ hid F L Og := fun z => (h.hidden p z).ne n
  have key : Same (cut H' (p :: hid F L Og)) (cut H' (hid F ((p, vs) :: L) Og)) := cut_sub fun q hq => by
    unfold hid at hq ⊢
    simp only [List.map_cons, List.cons_append, List.mem_append, List.mem_cons] at hq ⊢
    rcases hq with z | z | z | z
    · exact .inr (.inl z)
    · exact .inl z
    · exact .inr (.inr (.inl z))
    · exact .inr (.inr (.inr z))
  have key2 : Same (cut H (hid F L Og)) (cut H' (p :: hid F L Og)) := fun b o e => by
    by_cases hO : b ∈ hid F L Og
    · rw [cut_in hO] at e; cases e
    · rw [cut_out hO] at e
      have hb : b ≠ p := ne_of_none e n
      rw [cut_out (by simp [hb, hO])]; exact sm _ _ e
  have nI : p ∉ F.I := fun z => (h.hi p z).ne n
  have nH : F.H0 p = none := by
    cases q : F.H0 p with
    | none => rfl
    | some o => have := h.fr p o q nI; rw [n] at this; cases this
  have nL : p ∉ L.map (·.1) ++ Og := fun z => hp (List.mem_append_right _ z)
  refine ⟨Γ.mono (key2.trans key) (fun q _ o z => sm q o z) h.rep, ⟨R.mono (key2.trans key) h.rs, R'.mono key r⟩, List.nodup_cons.mpr ⟨nL, h.nd⟩, fun q hq => ?_, fun x hx => ?_, fun b o q hb => sm _ _ (h.fr b o q hb), h.hb, fun q hq => (h.hi q hq).same sm⟩
  · rcases List.mem_cons.mp (show q ∈ p :: (L.map (·.1) ++ Og) from hq) with rfl | hq
    · exact ⟨.inl nH, fun z => hp (List.mem_append_left _ z), Hidn.lst e⟩
    · exact ⟨(h.ow q hq).1, (h.ow q hq).2.1, (h.ow q hq).2.2.same sm⟩
  · rcases List.mem_cons.mp hx with rfl | hx
    · exact e
    · exact sm _ _ (h.lo x hx)
/-- a loose list is let go: it is to be seen -/
theorem RSo.tight {p : Addr} {vs : List V} (h : RSo K F ((p, vs) :: L) R Og Γ σ H s) (r : ∀ G, R.p G → G p = some (.lst vs) → R'.p G) : RSo K F L R' Og Γ σ H s := by
  have nd : (p :: (L.map (·.1) ++ Og)).Nodup := h.nd
  obtain ⟨n1, n2⟩ := List.nodup_cons.mp nd
  have hin : ∀ q ∈ hid F L Og, q ∈ hid F ((p, vs) :: L) Og := fun q hq => by
    rcases List.mem_append.mp hq with z | z
    · exact List.mem_append_left _ z
    · exact List.mem_append_right _ (List.mem_cons_of_mem _ z)
  have sm : Same (cut H (hid F ((p, vs) :: L) Og)) (cut H (hid F L Og)) := cut_sub hin
  have hp : p ∉ hid F L Og := fun z => by
    rcases List.mem_append.mp z with z | z
    · exact (h.ow p (List.mem_cons_self)).2.1 z
    · exact n1 z
  refine ⟨Γ.mono sm (fun _ _ _ z => z) h.rep, r _ (R.mono sm h.rs) ?_, n2, fun q hq => h.ow q (List.mem_cons_of_mem _ hq), fun x hx => h.lo x (List.mem_cons_of_mem _ hx), h.fr, h.hb, h.hi⟩
  rw [cut_out hp]; exact h.lo (p, vs) (by simp)
theorem hid_sub {Og Og' : List Addr} (h : ∀ p ∈ Og', p ∈ Og) : ∀ p ∈ hid F L Og', p ∈ hid F L Og := fun p hp => by
  rcases List.mem_append.mp hp with z | z
  · exact List.mem_append_left _ z
  · rcases List.mem_append.mp z with z | z
    · exact List.mem_append_right _ (List.mem_append_left _ z)
    · exact List.mem_append_right _ (List.mem_append_right _ (h p z))
/-- a slot is stored -/
theorem RSo.store {β : Type} {k : Sl β} {i : Nat} {x : Option V} {b : β} {put : S → β → S'} (h : RSo K F L R Og Γ σ H s) (hp : Put Γ i k Γ' put) (hk : ∀ G, R.p G → k.rep K G H x [] b) (hr : ∀ G, R.p G → R'.p G) : RS K F L R' Γ' (σ.set i x) H (put s b) := by
  obtain ⟨Oa, Oi, Ob, rfl, r⟩ := hp.set h.rep (hk _ h.rs)
  have hsub : (Oa ++ ([] ++ Ob)).Sublist (Oa ++ (Oi ++ Ob)) := (List.Sublist.refl Oa).append ((List.nil_sublist Oi).append (List.Sublist.refl Ob))
  have sm : Same (cut H (hid F L (Oa ++ (Oi ++ Ob)))) (cut H (hid F L (Oa ++ ([] ++ Ob)))) := cut_sub (hid_sub fun p hp => hsub.subset hp)
  have hs2 := (List.Sublist.refl (L.map (·.1))).append hsub
  exact ⟨_, Γ'.mono sm (fun _ _ _ z => z) r, hr _ (R.mono sm h.rs), hs2.nodup h.nd, fun p hp => h.ow p (hs2.subset hp), h.lo, h.fr, h.hb, h.hi⟩
theorem RSo.storeO {β : Type} {c : Ct β} {i : Nat} {p : Addr} {vs : List V} {b : β} {put : S → β → S'} (h : RSo K F ((p, vs) :: L) R Og Γ σ H s) (hp : Put Γ i (.own none c) Γ' put) (hz : vs.length ≤ sizeLine) (hk : ∀ G, R.p G → c.rep K G vs b) (hr : ∀ G, R.p G → R'.p G) : RS K F L R' Γ' (σ.set i (some (.ref p))) H (put s b) := by
  obtain ⟨Oa, Oi, Ob, rfl, r⟩ := hp.set (x := some (.ref p)) (Ox := [p]) (b := b) h.rep ⟨p, vs, (fun _ z => by cases z), rfl, rfl, h.lo (p, vs) (by simp), hz, hk _ h.rs⟩
  have hin : ∀ q ∈ L.map (·.1) ++ (Oa ++ ([p] ++ Ob)), q ∈ p :: (L.map (·.1) ++ (Oa ++ (Oi ++ Ob))) := fun q hq => by
    simp only [List.mem_append, List.mem_cons, List.mem_nil_iff, or_false] at hq ⊢
    rcases hq with z | z | z | z
    · exact .inr (.inl z)
    · exact .inr (.inr (.inl z))
    · exact .inl z
    · exact .inr (.inr (.inr (.inr z)))
  have sm : Same (cut H (hid F ((p, vs) :: L) (Oa ++ (Oi ++ Ob)))) (cut H (hid F L (Oa ++ ([p] ++ Ob)))) := cut_sub fun q hq => by
    rcases List.mem_append.mp hq with z | z
    · exact List.mem_append_left _ z
    · exact List.mem_append_right _ (hin q z)
  have nd : (L.map (·.1) ++ (Oa ++ ([p] ++ Ob))).Nodup := by
    have nd : (p :: (L.map (·.1) ++ (Oa ++ (Oi ++ Ob)))).Nodup := h.nd
    have hperm : (p :: (L.map (·.1) ++ (Oa ++ Ob))).Perm (L.map (·.1) ++ (Oa ++ ([p] ++ Ob))) := by
      have h1 : (L.map (·.1) ++ (Oa ++ ([p] ++ Ob))) = (L.map (·.1) ++ Oa) ++ p :: Ob := by simp
      have h2 : (p :: (L.map (·.1) ++ (Oa ++ Ob))) = p :: ((L.map (·.1) ++ Oa) ++ Ob) := by simp
      rw [h1, h2]
      exact List.perm_middle.symm
    refine hperm.nodup (List.Sublist.nodup ?_ nd)
    exact ((List.Sublist.refl _).append ((List.Sublist.refl Oa).append (List.sublist_append_right Oi Ob))).cons_cons p
  exact ⟨_, Γ'.mono sm (fun _ _ _ z => z) r, hr _ (R.mono sm h.rs), nd, fun q hq => h.ow q (hin q hq), fun x hx => h.lo x (List.mem_cons_of_mem _ hx), h.fr, h.hb, h.hi⟩
/-- what a slot owns is written -/
theorem RSo.write {α β : Type} {w : Option Addr} {c : Ct α} {d : Ct β} {g : S → α} {put : S → β → S'} {i : Nat} (h : RSo K F L R Og Γ σ H s) (hw : Wr Γ i w c g d Γ' put) :
    ∃ q vs, (∀ z, w = some z → q = z) ∧ σ[i]? = some (some (.ref q)) ∧ q ∈ hid F L Og ∧ (∀ x ∈ L, x.1 ≠ q) ∧ q ∈ Og ∧ H q = some (.lst vs) ∧ vs.length ≤ sizeLine ∧ c.rep K (cut H (hid F L Og)) vs (g s) ∧
      ∀ (ws : List V) (b : β) (H' : Hp), ws.length ≤ sizeLine → (∀ p o, p ≠ q → H p = some o → H' p = some o) → H' q = some (.lst ws) → d.rep K (cut H' (hid F L Og)) ws b → RSo K F L R Og Γ' σ H' (put s b) := by
  obtain ⟨q, vs, e0, e1, e2, e3, z3, r, hq⟩ := hw.write h.rep (List.nodup_append.mp h.nd).2.1
  have hO : q ∈ hid F L Og := List.mem_append_right _ (List.mem_append_right _ e2)
  have hL : ∀ x ∈ L, x.1 ≠ q := fun x hx e => (List.nodup_append.mp h.nd).2.2 x.1 (List.mem_map.mpr ⟨x, hx, rfl⟩) q e2 e
  refine ⟨q, vs, e0, e1, hO, hL, e2, e3, z3, r, fun ws b H' hz hk he hd => ?_⟩
  have sm : Same (cut H (hid F L Og)) (cut H' (hid F L Og)) := fun a o e => by
    by_cases ha : a ∈ hid F L Og
    · rw [cut_in ha] at e; cases e
    · rw [cut_out ha] at e ⊢
      exact hk _ _ (fun z => ha (by rw [z]; exact hO)) e
  obtain ⟨q', vs', _, e1', e2', e3', _, _, hq'⟩ := hw.write (Γ.mono (K := K) (H' := H) sm (fun _ _ _ z => z) h.rep) (List.nodup_append.mp h.nd).2.1
  have eq : q' = q := by rw [e1] at e1'; simpa using e1'.symm
  subst eq
  have hq2 := hq' ws b hz hd
  have other : ∀ p, p ≠ q' → ∀ o, H p = some o → H' p = some o := fun p hp o e => hk p o hp e
  refine ⟨Γ'.mono (fun _ _ z => z) (fun p hp o e => ?_) hq2, R.mono sm h.rs, h.nd, fun p hp => ⟨(h.ow p hp).1, (h.ow p hp).2.1, ?_⟩, fun x hx => other _ (hL x hx) _ (h.lo x hx), fun b o e hb => ?_, h.hb, fun p hp => ?_⟩
  · by_cases hp' : p = q'
    · subst hp'; rw [upd_same] at e; rw [he]; exact e
    · rw [upd_ne hp'] at e; exact other p hp' o e
  · by_cases hp' : p = q'
    · subst hp'; exact Hidn.lst he
    · obtain ⟨o, e, n⟩ := (h.ow p hp).2.2
      exact ⟨o, other p hp' o e, n⟩
  · by_cases hb' : b = q'
    · subst hb'
      rcases (h.ow b (List.mem_append_right _ e2)).1 with z | z
      · rw [e] at z; cases z
      · exact absurd z hb
    · exact other b hb' o (h.fr b o e hb)
  · by_cases hp' : p = q'
    · subst hp'; exact Hidn.lst he
    · obtain ⟨o, e, n⟩ := h.hi p hp
      exact ⟨o, other p hp' o e, n⟩
/-- forgetting -/
theorem RS.weak {g : S → S'} (h : RS K F L R Γ σ H s) (w : Wk Γ Γ' g) : RS K F L R Γ' σ H (g s) := by
  obtain ⟨Og, h⟩ := h
  obtain ⟨O', hs, hr⟩ := w.to h.rep (List.nodup_append.mp h.nd).2.1
  have sm : Same (cut H (hid F L Og)) (cut H (hid F L O')) := cut_sub (hid_sub fun p hp => hs.subset hp)
  have hs2 := (List.Sublist.refl (L.map (·.1))).append hs
  refine ⟨O', hr sm (fun p hp hn => cut_out fun z => ?_), R.mono sm h.rs, hs2.nodup h.nd, fun p hp => h.ow p (hs2.subset hp), h.lo, h.fr, h.hb, h.hi⟩
  rcases List.mem_append.mp z with z | z
  · exact (h.ow p (List.mem_append_right _ hp)).2.1 z
  · rcases List.mem_append.mp z with z | z
    · exact (List.nodup_append.mp h.nd).2.2 p z p hp rfl
    · exact hn z
theorem RS.wipe {vs : List Nat} {w : S → S'} (h : RS K F L R Γ σ H s) (hw : Wp Γ vs Γ' w) : RS K F L R Γ' (L2.wipe σ vs) H (w s) := by
  obtain ⟨Og, h⟩ := h
  obtain ⟨O', h1, hs, hr⟩ := hw.to h.rep
  have sm : Same (cut H (hid F L Og)) (cut H (hid F L O')) := cut_sub (hid_sub fun p hp => hs.subset hp)
  have hs2 := (List.Sublist.refl (L.map (·.1))).append hs
  exact ⟨O', Γ'.mono sm (fun _ _ _ z => z) hr, R.mono sm h.rs, hs2.nodup h.nd, fun p hp => h.ow p (hs2.subset hp), h.lo, h.fr, h.hb, h.hi⟩
end
/-! ### expressions -/
def EX (A : Amb) (ca : Nat → Addr) (e : Expr) {S S' α : Type} (Γ : Cxt S) (Γ' : Cxt S') (τ : Ty α) (f : S → Rs (α × S')) : Prop :=
  ∃ t, (∀ X, A.In X → PE X e t) ∧ ∀ (F : Fm) (L : Lo) (R : Mn) (σ : L2.St) (H : Hp) (s : S) (Q : VK), RS A.K F L R Γ σ H s →
    (f s).Post (fun r => ∀ v H', RS A.K F L (R.and (Mn.val A.K τ v r.1)) Γ' σ H' r.2 → Q v H') (ExF A.E ca F) → t σ H Q
def EL (A : Amb) (ca : Nat → Addr) (e : Expr) {S S' α : Type} (Γ : Cxt S) (Γ' : Cxt S') (c : Ct α) (f : S → Rs (α × S')) : Prop :=
  ∃ t, (∀ X, A.In X → PE X e t) ∧ ∀ (F : Fm) (L : Lo) (R : Mn) (σ : L2.St) (H : Hp) (s : S) (Q : VK), RS A.K F L R Γ σ H s →
    (f s).Post (fun r => ∀ p vs H', vs.length ≤ sizeLine → RS A.K F ((p, vs) :: L) (R.and (Mn.lst A.K c vs r.1)) Γ' σ H' r.2 → Q (.ref p) H') (ExF A.E ca F) → t σ H Q
def EB (A : Amb) (ca : Nat → Addr) (e : Expr) {S S' : Type} (Γ : Cxt S) (Γ' : Cxt S') (f : S → Rs (Bool × S')) : Prop :=
  ∃ t, (∀ X, A.In X → PT X e t) ∧ ∀ (F : Fm) (L : Lo) (R : Mn) (σ : L2.St) (H : Hp) (s : S) (Q : Bool → Hp → Prop), RS A.K F L R Γ σ H s →
    (f s).Post (fun r => ∀ H', RS A.K F L R Γ' σ H' r.2 → Q r.1 H') (ExF A.E ca F) → t σ H Q
def EBw (A : Amb) (ca : Nat → Addr) (e : Expr) {S S' : Type} (Γ : Cxt S) (Γ' : Cxt S') (f : S → Rs (Bool × S')) : Prop :=
  ∃ t, (∀ X, A.In X → PW X e t) ∧ ∀ (F : Fm) (L : Lo) (R : Mn) (σ : L2.St) (H : Hp) (s : S) (Q : Bool → Hp → Prop), RS A.K F L R Γ σ H s →
    (f s).Post (fun r => ∀ H', RS A.K F L R Γ' σ H' r.2 → Q r.1 H') (ExF A.E ca F) → t σ H Q
def EAs (A : Amb) (ca : Nat → Addr) (es : List Expr) {S S' U : Type} (Γ : Cxt S) (Γ' : Cxt S') (ts : Tys U) (f : S → Rs (U × S')) : Prop :=
  ∃ t, (∀ X, A.In X → PA X es t) ∧ ∀ (F : Fm) (L : Lo) (R : Mn) (σ : L2.St) (H : Hp) (s : S) (Q : List V → Hp → Prop), RS A.K F L R Γ σ H s →
    (f s).Post (fun r => ∀ vs H', RS A.K F L (R.and (Mn.tys A.K ts vs r.1)) Γ' σ H' r.2 → Q vs H') (ExF A.E ca F) → t σ H Q
section
variable {S S' S'' α β γ U : Type} {Γ : Cxt S} {Γ' : Cxt S'} {Γ'' : Cxt S''} {τ : Ty α} {τ' : Ty β} {c : Ct α} {e a b d : Expr} {pos p p2 : Pos} {x : Str}
theorem PX.ex {f : S → Rs α} (h : PX A ca e Γ τ f) : EX A ca e Γ Γ τ (fun s => (f s).bind fun a => .ok (a, s)) := by
  obtain ⟨t, ht, q⟩ := h
  refine ⟨t, ht, fun F L R σ H s Q ⟨Og, hs⟩ hp => q _ σ H s _ hs.sx ((Rs.post_bind hp).mono (fun a k v H' sm r => k v H' ⟨Og, (hs.grow sm).more r⟩) fun c z => z.exw hs.fr)⟩
theorem PL.el {f : S → Rs α} (h : PL A ca e Γ c f) : EL A ca e Γ Γ c (fun s => (f s).bind fun a => .ok (a, s)) := by
  obtain ⟨t, ht, q⟩ := h
  refine ⟨t, ht, fun F L R σ H s Q ⟨Og, hs⟩ hp => q _ σ H s _ hs.sx ((Rs.post_bind hp).mono (fun a k p vs H' n sm e z r => k p vs H' z ⟨Og, hs.loose n sm e r⟩) fun c z => z.exw hs.fr)⟩
theorem EL.ex {f : S → Rs (α × S')} (h : EL A ca e Γ Γ' c f) : EX A ca e Γ Γ' c.ty f := by
  obtain ⟨t, ht, q⟩ := h
  exact ⟨t, ht, fun F L R σ H s Q hs hp => q F L R σ H s _ hs (hp.mono (fun a k p vs H' z ⟨Og, r⟩ => k _ H' ⟨Og, r.tight fun G h e => ⟨h.1, p, vs, rfl, e, z, h.2⟩⟩) fun _ z => z)⟩
theorem PB.eb {f : S → Rs Bool} (h : PB A ca e Γ f) : EB A ca e Γ Γ (fun s => (f s).bind fun a => .ok (a, s)) := by
  obtain ⟨t, ht, q⟩ := h
  refine ⟨t, ht, fun F L R σ H s Q ⟨Og, hs⟩ hp => q _ σ H s _ hs.sx ((Rs.post_bind hp).mono (fun a k H' sm => k H' ⟨Og, hs.grow sm⟩) fun c z => z.exw hs.fr)⟩
theorem PAs.eas {es : List Expr} {ts : Tys U} {f : S → Rs U} (h : PAs A ca es Γ ts f) : EAs A ca es Γ Γ ts (fun s => (f s).bind fun a => .ok (a, s)) := by
  obtain ⟨t, ht, q⟩ := h
  refine ⟨t, ht, fun F L R σ H s Q ⟨Og, hs⟩ hp => q _ σ H s _ hs.sx ((Rs.post_bind hp).mono (fun a k v H' sm r => k v H' ⟨Og, (hs.grow sm).more r⟩) fun c z => z.exw hs.fr)⟩
theorem EX.co {f : S → Rs (α × S')} {g : α → β} (h : EX A ca e Γ Γ' τ f) (hc : Tc τ τ' g) : EX A ca e Γ Γ' τ' (fun s => (f s).bind fun r => .ok (g r.1, r.2)) := by
  obtain ⟨t, ht, q⟩ := h
  exact ⟨t, ht, fun F L R σ H s Q hs hp => q F L R σ H s _ hs ((Rs.post_bind hp).mono (fun r k v H' h => k v H' (h.map fun G q => ⟨q.1, hc.to q.2⟩)) fun _ z => z)⟩
/-- two operands -/
theorem EX.two {f : S → Rs (α × S')} {g : S' → Rs (β × S'')} {δ : Type} {k : α → β → S'' → Rs δ} {P : δ → Prop} {F : Fm} {L : Lo} {R : Mn} {σ : L2.St} {H : Hp} {s : S} {ta tb : TE} {Rv : V → V → Hp → Prop}
    (qa : ∀ (F : Fm) (L : Lo) (R : Mn) (σ : L2.St) (H : Hp) (s : S) (Q : VK), RS A.K F L R Γ σ H s → (f s).Post (fun r => ∀ v H', RS A.K F L (R.and (Mn.val A.K τ v r.1)) Γ' σ H' r.2 → Q v H') (ExF A.E ca F) → ta σ H Q)
    (qb : ∀ (F : Fm) (L : Lo) (R : Mn) (σ : L2.St) (H : Hp) (s : S') (Q : VK), RS A.K F L R Γ' σ H s → (g s).Post (fun r => ∀ v H', RS A.K F L (R.and (Mn.val A.K τ' v r.1)) Γ'' σ H' r.2 → Q v H') (ExF A.E ca F) → tb σ H Q)
    (hs : RS A.K F L R Γ σ H s) (hp : ((f s).bind fun x => (g x.2).bind fun y => k x.1 y.1 y.2).Post P (ExF A.E ca F))
    (h : ∀ x y s2 v u H2, RS A.K F L ((R.and (Mn.val A.K τ v x)).and (Mn.val A.K τ' u y)) Γ'' σ H2 s2 → (k x y s2).Post P (ExF A.E ca F) → Rv v u H2) : ta σ H fun v H1 => tb σ H1 fun u H2 => Rv v u H2 := by
  refine qa F L R σ H s _ hs ((Rs.post_bind hp).mono (fun x hx v H1 h1 => ?_) fun _ z => z)
  refine qb F L _ σ H1 x.2 _ h1 ((Rs.post_bind hx).mono (fun y hy u H2 h2 => ?_) fun _ z => z)
  exact h x.1 y.1 y.2 v u H2 h2 hy
theorem EX.opI {op : Operator} {C : Int → Int → Prop} [hC : ∀ i j, Decidable (C i j)] {fn : Int → Int → Int} {f : S → Rs (Int × S')} {g : S' → Rs (Int × S'')} (ho : ∀ X, OpR X (binaryOp op) (rI C fun i j => .int (fn i j))) (ha : EX A ca a Γ Γ' tI f) (hb : EX A ca b Γ' Γ'' tI g) :
    EX A ca (.BinOp a op b pos) Γ Γ'' tI (fun s => (f s).bind fun x => (g x.2).bind fun y => Rs.guard (decide (C x.1 y.1)) (.ok (fn x.1 y.1, y.2))) := by
  obtain ⟨ta, pa, qa⟩ := ha
  obtain ⟨tb, pb, qb⟩ := hb
  refine ⟨_, fun X hX => pe_op (ho X) (pa X hX) (pb X hX), fun F L R σ H s Q hs hp => EX.two (k := fun x y s2 => Rs.guard (decide (C x y)) (.ok (fn x y, s2))) qa qb hs hp fun x y s2 v u H2 h2 k => ?_⟩
  obtain ⟨hc, k⟩ := Rs.post_guard k
  obtain ⟨Og, h2⟩ := h2
  obtain ⟨⟨r0, r1⟩, r2⟩ := h2.rs
  exact ⟨x, y, r1, r2, of_decide_eq_true hc, k _ H2 ⟨Og, h2.with ⟨r0, rfl⟩⟩⟩
theorem EX.opI0 {op : Operator} {fn : Int → Int → Int} {f : S → Rs (Int × S')} {g : S' → Rs (Int × S'')} (ho : ∀ X, OpR X (binaryOp op) (rI0 fun i j => .int (fn i j))) (ha : EX A ca a Γ Γ' tI f) (hb : EX A ca b Γ' Γ'' tI g) :
    EX A ca (.BinOp a op b pos) Γ Γ'' tI (fun s => (f s).bind fun x => (g x.2).bind fun y => .ok (fn x.1 y.1, y.2)) := by
  obtain ⟨ta, pa, qa⟩ := ha
  obtain ⟨tb, pb, qb⟩ := hb
  refine ⟨_, fun X hX => pe_op (ho X) (pa X hX) (pb X hX), fun F L R σ H s Q hs hp => EX.two (k := fun x y s2 => .ok (fn x y, s2)) qa qb hs hp fun x y s2 v u H2 h2 k => ?_⟩
  obtain ⟨Og, h2⟩ := h2
  obtain ⟨⟨r0, r1⟩, r2⟩ := h2.rs
  exact ⟨x, y, r1, r2, k _ H2 ⟨Og, h2.with ⟨r0, rfl⟩⟩⟩
theorem EX.add {f : S → Rs (Int × S')} {g : S' → Rs (Int × S'')} (ha : EX A ca a Γ Γ' tI f) (hb : EX A ca b Γ' Γ'' tI g) : EX A ca (.BinOp a .Add b pos) Γ Γ'' tI (fun s => (f s).bind fun x => (g x.2).bind fun y => .ok (x.1 + y.1, y.2)) := EX.opI0 (fun _ => op_add) ha hb
theorem EX.sub {f : S → Rs (Int × S')} {g : S' → Rs (Int × S'')} (ha : EX A ca a Γ Γ' tI f) (hb : EX A ca b Γ' Γ'' tI g) : EX A ca (.BinOp a .Sub b pos) Γ Γ'' tI (fun s => (f s).bind fun x => (g x.2).bind fun y => .ok (x.1 - y.1, y.2)) := EX.opI0 (fun _ => op_sub) ha hb
theorem EX.mul {f : S → Rs (Int × S')} {g : S' → Rs (Int × S'')} (ha : EX A ca a Γ Γ' tI f) (hb : EX A ca b Γ' Γ'' tI g) : EX A ca (.BinOp a .Mult b pos) Γ Γ'' tI (fun s => (f s).bind fun x => (g x.2).bind fun y => Rs.guard (decide (CMul x.1 y.1)) (.ok (x.1 * y.1, y.2))) := EX.opI (fun _ => op_mul) ha hb
theorem EB.cmpI {op : CmpOp} {fn : Int → Int → Bool} {f : S → Rs (Int × S')} {g : S' → Rs (Int × S'')} (ho : ∀ X, OpR X (compareOp op) (rI0 fun i j => .bl (fn i j))) (hm : behindInMarks op b = false) (ha : EX A ca a Γ Γ' tI f) (hb : EX A ca b Γ' Γ'' tI g) :
    EB A ca (.Compare a [op] [b] pos) Γ Γ'' (fun s => (f s).bind fun x => (g x.2).bind fun y => .ok (fn x.1 y.1, y.2)) := by
  obtain ⟨ta, pa, qa⟩ := ha
  obtain ⟨tb, pb, qb⟩ := hb
  refine ⟨_, fun X hX => pt_cmpR (ho X) (pa X hX) (pb X hX) hm, fun F L R σ H s Q hs hp => EX.two (k := fun x y s2 => .ok (fn x y, s2)) qa qb hs hp fun x y s2 v u H2 h2 k => ?_⟩
  obtain ⟨Og, h2⟩ := h2
  obtain ⟨⟨r0, r1⟩, r2⟩ := h2.rs
  exact ⟨x, y, r1, r2, _, rfl, k H2 ⟨Og, h2.with r0⟩⟩
theorem EB.eqI {f : S → Rs (Int × S')} {g : S' → Rs (Int × S'')} (ha : EX A ca a Γ Γ' tI f) (hb : EX A ca b Γ' Γ'' tI g) : EB A ca (.Compare a [.Eq] [b] pos) Γ Γ'' (fun s => (f s).bind fun x => (g x.2).bind fun y => .ok (decide (x.1 = y.1), y.2)) := EB.cmpI (fun _ => op_eqI) (nomark _) ha hb
theorem EB.gt {f : S → Rs (Int × S')} {g : S' → Rs (Int × S'')} (ha : EX A ca a Γ Γ' tI f) (hb : EX A ca b Γ' Γ'' tI g) : EB A ca (.Compare a [.Gt] [b] pos) Γ Γ'' (fun s => (f s).bind fun x => (g x.2).bind fun y => .ok (decide (y.1 < x.1), y.2)) := EB.cmpI (fun _ => op_gt) (nomark _) ha hb
theorem EB.lt {f : S → Rs (Int × S')} {g : S' → Rs (Int × S'')} (ha : EX A ca a Γ Γ' tI f) (hb : EX A ca b Γ' Γ'' tI g) : EB A ca (.Compare a [.Lt] [b] pos) Γ Γ'' (fun s => (f s).bind fun x => (g x.2).bind fun y => .ok (decide (x.1 < y.1), y.2)) := EB.cmpI (fun _ => op_lt) (nomark _) ha hb
/-! ### and, or, not -/
variable {rest : List Expr}
theorem EBw.eb {f1 : S → Rs (Bool × S')} (h : EBw A ca e Γ Γ' f1) : EB A ca e Γ Γ' f1 := let ⟨t, p, q⟩ := h; ⟨t, fun X hX => (p X hX).pt, q⟩
theorem EB.and1 {f1 : S → Rs (Bool × S')} (h : EB A ca a Γ Γ' f1) : EBw A ca (.BoolOp .And [a] pos) Γ Γ' f1 := let ⟨t, p, q⟩ := h; ⟨t, fun X hX => pw_and1 (p X hX), q⟩
theorem EB.or1 {f1 : S → Rs (Bool × S')} (h : EB A ca a Γ Γ' f1) : EBw A ca (.BoolOp .Or [a] pos) Γ Γ' f1 := let ⟨t, p, q⟩ := h; ⟨t, fun X hX => pw_or1 (p X hX), q⟩
theorem EB.and {f1 : S → Rs (Bool × S)} {f2 : S → Rs (Bool × S)} (ha : EB A ca a Γ Γ f1) (hb : EBw A ca (.BoolOp .And (b :: rest) pos) Γ Γ f2) : EBw A ca (.BoolOp .And (a :: b :: rest) pos) Γ Γ (fun s => (f1 s).bind fun r => if r.1 then f2 r.2 else .ok (false, r.2)) := by
  obtain ⟨ta, pa, qa⟩ := ha
  obtain ⟨tb, pb, qb⟩ := hb
  refine ⟨_, fun X hX => pw_and (pa X hX) (pb X hX), fun F L R σ H s Q hs hp => qa F L R σ H s _ hs ((Rs.post_bind hp).mono (fun r k H' h' => ?_) fun _ z => z)⟩
  obtain ⟨c, s'⟩ := r
  cases c with
  | true => exact iteT (qb F L R σ H' s' _ h' k)
  | false => exact iteF (k H' h')
theorem EB.or {f1 : S → Rs (Bool × S)} {f2 : S → Rs (Bool × S)} (ha : EB A ca a Γ Γ f1) (hb : EBw A ca (.BoolOp .Or (b :: rest) pos) Γ Γ f2) : EBw A ca (.BoolOp .Or (a :: b :: rest) pos) Γ Γ (fun s => (f1 s).bind fun r => if r.1 then .ok (true, r.2) else f2 r.2) := by
  obtain ⟨ta, pa, qa⟩ := ha
  obtain ⟨tb, pb, qb⟩ := hb
  refine ⟨_, fun X hX => pw_or (pa X hX) (pb X hX), fun F L R σ H s Q hs hp => qa F L R σ H s _ hs ((Rs.post_bind hp).mono (fun r k H' h' => ?_) fun _ z => z)⟩
  obtain ⟨c, s'⟩ := r
  cases c with
  | true => exact iteT (k H' h')
  | false => exact iteF (qb F L R σ H' s' _ h' k)
theorem EB.not {f1 : S → Rs (Bool × S')} (ha : EB A ca a Γ Γ' f1) : EB A ca (.UnaryOp .Not a pos) Γ Γ' (fun s => (f1 s).bind fun r => .ok (!r.1, r.2)) := by
  obtain ⟨ta, pa, qa⟩ := ha
  exact ⟨_, fun X hX => pt_not (pa X hX), fun F L R σ H s Q hs hp => qa F L R σ H s _ hs ((Rs.post_bind hp).mono (fun r k H' h' => k H' h') fun _ z => z)⟩
theorem EX.eb {f : S → Rs (Bool × S')} (h : EX A ca e Γ Γ' tB f) (he : ∀ env whole, isTrue e env whole = (do let v ← whole; standAt e.pos; holding [v] (truthy v))) : EB A ca e Γ Γ' f := by
  obtain ⟨t, ht, q⟩ := h
  exact ⟨_, fun X hX => pt_val (ht X hX) (he X.env), fun F L R σ H s Q hs hp => q F L R σ H s _ hs (hp.mono (fun r k v H' h' => ⟨r.1, (let ⟨_, h⟩ := h'; h.rs.2), k H' (h'.map fun _ z => z.1)⟩) fun _ z => z)⟩
/-! ### arguments -/
theorem EAs.one {f : S → Rs (α × S')} (h : EX A ca e Γ Γ' τ f) (hs : star e = false := by rfl) : EAs A ca [e] Γ Γ' (.one τ) f := by
  obtain ⟨t, ht, q⟩ := h
  exact ⟨_, fun X hX => pa_cons (ht X hX) pa_nil (star_each hs), fun F L R σ H s Q h0 hp => q F L R σ H s _ h0 (hp.mono (fun r k v H' h' => k _ H' (h'.map fun G q => ⟨q.1, v, rfl, q.2⟩)) fun _ z => z)⟩
theorem EAs.nil : EAs A ca [] Γ Γ .nil (fun s => .ok ((), s)) := ⟨_, fun X hX => pa_nil, fun F L R σ H s Q h0 hp => hp _ H (h0.map fun G q => ⟨q, rfl⟩)⟩
theorem EAs.cons {es : List Expr} {ts : Tys β} {f : S → Rs (α × S')} {g : S' → Rs (β × S'')} (h : EX A ca e Γ Γ' τ f) (hr : EAs A ca es Γ' Γ'' ts g) (hs : star e = false := by rfl) : EAs A ca (e :: es) Γ Γ'' (.cons τ ts) (fun s => (f s).bind fun x => (g x.2).bind fun y => .ok ((x.1, y.1), y.2)) := by
  obtain ⟨t, ht, q⟩ := h
  obtain ⟨tr, hr, qr⟩ := hr
  refine ⟨_, fun X hX => pa_cons (ht X hX) (hr X hX) (star_each hs), fun F L R σ H s Q h0 hp => q F L R σ H s _ h0 ((Rs.post_bind hp).mono (fun x k v H1 h1 => ?_) fun _ z => z)⟩
  exact qr F L _ σ H1 x.2 _ h1 ((Rs.post_bind k).mono (fun y k us H2 h2 => k _ H2 (h2.map fun G q => ⟨q.1.1, v, us, rfl, q.1.2, q.2⟩)) fun _ z => z)
theorem EX.tup {es : List Expr} {ts : Tys α} {f : S → Rs (α × S')} {k : Nat} (h : EAs A ca es Γ Γ' ts f) (hl : ts.len ≤ 1000 := by decide) : EX A ca (.Tuple es k pos) Γ Γ' (tTup ts) f := by
  obtain ⟨t, ht, q⟩ := h
  refine ⟨_, fun X hX => pe_tup (ht X hX), fun F L R σ H s Q h0 hp => q F L R σ H s _ h0 (hp.mono (fun r k vs H' ⟨Og, h'⟩ => ⟨?_, fun p n => ?_⟩) fun _ z => z)⟩
  · rw [ts.length h'.rs.2]; exact Nat.le_of_lt (small1000 hl)
  · have h2 := h'.grow (same_upd (o := .tup vs) n)
    exact k _ _ ⟨Og, h2.with ⟨h2.rs.1, p, vs, rfl, by rw [cut_out fun z => (h'.hidden p z).ne n, upd_same], h2.rs.2⟩⟩
theorem EL.lup {es : List Expr} {ts : Tys α} {f : S → Rs (α × S')} (h : EAs A ca es Γ Γ' ts f) (hl : ts.len ≤ 1000 := by decide) : EL A ca (.List es pos) Γ Γ' (cR ts) f := by
  obtain ⟨t, ht, q⟩ := h
  refine ⟨_, fun X hX => pe_lst (ht X hX), fun F L R σ H s Q h0 hp => q F L R σ H s _ h0 (hp.mono (fun r k vs H' ⟨Og, h'⟩ => ⟨?_, fun p n => ?_⟩) fun _ z => z)⟩
  · rw [ts.length h'.rs.2]; exact Nat.le_of_lt (small1000 hl)
  · have h2 : RSo A.K F L R Og Γ' σ H' r.2 := h'.with h'.rs.1
    exact k p vs _ (by rw [ts.length h'.rs.2]; exact Nat.le_of_lt (small1000 hl)) ⟨Og, h2.loose n (same_upd n) upd_same (ts.mono (cut_new n) h'.rs.2)⟩
/-- a call of a def with such arguments -/
theorem EX.call {ts : Tys U} {f : S → Rs (U × S')} {m : U → Rs β} {es : List Expr} (C : Callee A ca x ts τ' m) (hg : GlA A x) (ha : EAs A ca (e :: es) Γ Γ' ts f) (h1 : star e = false := by rfl) (h2 : es.any star = false := by rfl) :
    EX A ca (.Call (.Name x p) (e :: es) [] pos) Γ Γ' τ' (fun s => (f s).bind fun r => (m r.1).bind fun b => .ok (b, r.2)) := by
  obtain ⟨ta, pa, qa⟩ := ha
  obtain ⟨fa, fd, ps, k, hk, F, hm, kp, hb⟩ := C.ex
  refine ⟨tCall (spOf A.K ca ts τ' m) [] A.E ta, fun X hX => ?_, fun Fm L R σ H s Q hs hp => qa Fm L R σ H s _ hs ((Rs.post_bind hp).mono (fun u k vs H1 ⟨Og, h1⟩ => ?_) fun _ z => z)⟩
  · obtain ⟨prog, w, K, mg, base, N, sc, fn, nd, calm, room, pass, own, takes, top⟩ := hX
    exact pe_call (k := k) (fd := fd) (ps := ps) (ds := []) (by rw [prog, w, K, mg, base]; exact F) (room.mono hk) (show Gl X x by show X.env.scope.names.lookup x = _; rw [sc]; exact hg) (by rw [mg]; exact hm) (by rw [K]; exact kp) (by rw [K]; exact hb) .nil pass (pa X ⟨prog, w, K, mg, base, N, sc, fn, nd, calm, room, pass, own, takes, top⟩) C.db (star_each h1) (star_any h2)
  · refine ⟨hid Fm L Og, u.1, h1.hidden, by rw [List.append_nil]; exact h1.rs.2, (Rs.post_bind k).mono (fun b k v H2 s2 r2 => k v H2 ⟨Og, ?_⟩) fun _ z => z.exw h1.fr⟩
    have h2 := h1.grow s2
    exact h2.with ⟨h2.rs.1, r2⟩
/-! ### calls that write their first argument -/
/-- a promise of a def that may write the list that is its first argument -/
def spIO (K : PySem.W.Frag) (ca : Nat → Addr) {γ U β : Type} (c : Ct γ) (ts : Tys U) (τ : Ty β) (m : γ × U → Rs (β × γ)) : Sp := fun vs H Q E => ∃ (B : List Addr) (q : Addr) (xs : List V) (us : List V) (a : γ) (u : U),
  vs = .ref q :: us ∧ H q = some (.lst xs) ∧ xs.length ≤ sizeLine ∧ q ∉ B ∧ (∀ p ∈ B, Hidn H p) ∧ c.rep K (cut H (q :: B)) xs a ∧ ts.rep K (cut H (q :: B)) us u ∧
  (m (a, u)).Post (fun r => ∀ v H' ys, (∀ p o, p ≠ q → H p = some o → H' p = some o) → H' q = some (.lst ys) → ys.length ≤ sizeLine → c.rep K (cut H' (q :: B)) ys r.2 → τ.rep K (cut H' (q :: B)) v r.1 → Q v H')
    (fun n => ∀ d H', (∀ p o, p ≠ q → H p = some o → H' p = some o) → E (.ref (ca n)) d H')
structure CalleeIO (A : Amb) (ca : Nat → Addr) (x : Str) {γ U β : Type} (c : Ct γ) (ts : Tys U) (τ : Ty β) (m : γ × U → Rs (β × γ)) : Prop where
  ex : ∃ (f : Addr) (fd : FuncData) (ps : List Str) (k : Nat), k ≤ A.k ∧ FnOk A.P A.w A.K A.mg A.base (L2.CX A.P A.w) k f fd ps (spIO A.K ca c ts τ m) ∧ A.mg x = some (.ref f) ∧ PySem.W.keepIn A.K (.ref f) = true ∧ Binds A.K fd ps []
  db : (x == ("__debug__" : Str)) = false := by decide
theorem calleeIO_blk {scope : Scope} {c : Ct γ} {ts : Tys U} {m : γ × U → Rs (β × γ)} (C : CalleeIO A ca x c ts τ' m) : CalleeIO (A.blk scope) ca x c ts τ' m := ⟨C.ex, C.db⟩
theorem EX.callIO {c : Ct γ} {ts : Tys U} {m : γ × U → Rs (β × γ)} {es : List Expr} {g : S → γ} {put : S → γ → S'} {w : Option Addr} {f : S → Rs U} {i : Nat} {y : Str} {yp : Pos} (C : CalleeIO A ca x c ts τ' m) (hg : GlA A x) (hw : Wr Γ i w c g c Γ' put) (hN : A.N[i]? = some y) (hv : Vis A.sc y) (ha : PAs A ca es Γ ts f)
    (h2 : es.any star = false := by rfl) (hd : (y == ("__debug__" : Str)) = false := by decide) (hcd : (y == ("__classdict__" : Str)) = false := by decide) :
    EX A ca (.Call (.Name x p) (.Name y yp :: es) [] pos) Γ Γ' τ' (fun s => (f s).bind fun u => (m (g s, u)).bind fun r => .ok (r.1, put s r.2)) := by
  obtain ⟨ta, pa, qa⟩ := ha
  obtain ⟨fa, fd, ps, k, hk, F, hm, kp, hb⟩ := C.ex
  refine ⟨tCall (spIO A.K ca c ts τ' m) [] A.E (tCons (tVar i) ta), fun X hX => ?_, fun Fm L R σ H s Q ⟨Og, hs⟩ hp => ?_⟩
  · have hX' := hX
    obtain ⟨prog, w, K, mg, base, N, sc, fn, nd, calm, room, pass, own, takes, top⟩ := hX
    exact pe_call (k := k) (fd := fd) (ps := ps) (ds := []) (by rw [prog, w, K, mg, base]; exact F) (room.mono hk) (show Gl X x by show X.env.scope.names.lookup x = _; rw [sc]; exact hg) (by rw [mg]; exact hm) (by rw [K]; exact kp) (by rw [K]; exact hb) .nil pass
      (pa_cons (pe_var (by rw [N]; exact hN) (by rw [sc]; exact hv) hd hcd) (pa X hX') (star_each rfl)) C.db (star_each rfl) (star_any h2)
  · obtain ⟨q, vs, e0, e1, e2, eL, eO, e3, z3, r, hwr⟩ := hs.write hw
    refine ⟨.ref q, e1, qa _ σ H s _ hs.sx ((Rs.post_bind hp).mono (fun u k us H1 s1 ru => ?_) fun _ z => z.exw hs.fr)⟩
    have h1 := hs.grow s1
    have mem : ∀ p, p ∈ q :: (hid Fm L Og).filter (· ≠ q) ↔ p ∈ hid Fm L Og := fun p => by
      simp only [List.mem_cons, List.mem_filter, decide_eq_true_eq]
      constructor
      · rintro (rfl | ⟨h, _⟩)
        · exact e2
        · exact h
      · intro h
        by_cases hp : p = q
        · exact .inl hp
        · exact .inr ⟨h, hp⟩
    have ceq : ∀ H : Hp, cut H (q :: (hid Fm L Og).filter (· ≠ q)) = cut H (hid Fm L Og) := fun H => by
      funext b
      by_cases hb : b ∈ hid Fm L Og
      · rw [cut_in hb, cut_in ((mem b).mpr hb)]
      · rw [cut_out hb, cut_out fun z => hb ((mem b).mp z)]
    refine ⟨(hid Fm L Og).filter (· ≠ q), q, vs, us, g s, u, by rw [List.append_nil], s1 _ _ e3, z3, by simp, fun p hp => h1.hidden p (List.mem_filter.mp hp).1, by rw [ceq]; exact c.mono (cut_grow s1) r, by rw [ceq]; exact ru, ?_⟩
    refine (Rs.post_bind k).mono (fun b k v H2 ys hk2 hq2 hz2 hc2 hv2 => k v H2 ?_) fun n z d H2 hk2 => z d H2 fun b o e hb => ?_
    · rw [ceq] at hc2 hv2
      obtain ⟨q', vs', _, e1', _, _, _, _, _, _, hwr'⟩ := h1.write hw
      have : q' = q := by rw [e1] at e1'; simpa using e1'.symm
      subst this
      have h3 := hwr' ys b.2 H2 hz2 (fun p o hp e => hk2 p o hp e) hq2 hc2
      exact ⟨Og, h3.more hv2⟩
    · by_cases hb' : b = q
      · subst hb'
        rcases (h1.ow b (List.mem_append_right _ eO)).1 with z | z
        · rw [e] at z; cases z
        · exact absurd z hb
      · exact hk2 b o hb' (h1.fr b o e hb)
end
end TL
/-! TL6: statements, defs. -/
namespace TL
open PySem PySem.Spec PyProof.Rows L2
variable {A : Amb} {ca : Nat → Addr}
/-- how a statement ends -/
inductive Fl (ρ S L : Type) where
  | nx (s : S)
  | rt (r : ρ)
  | bk (s : L)
  | ct (s : L)
abbrev Rr (ρ : Type) := Fm → V → Hp → ρ → Prop
def FlP (K : PySem.W.Frag) (F : Fm) (R : Mn) {ρ S L : Type} (Γ : Cxt S) (Γl : Cxt L) (rr : Rr ρ) (D : Ends) : Fl ρ S L → Prop
  | .nx s => ∀ σ H, RS K F [] R Γ σ H s → D.nx σ H
  | .rt r => ∀ v H, rr F v H r → D.rt v H
  | .bk s => ∀ σ H, RS K F [] R Γl σ H s → D.bk σ H
  | .ct s => ∀ σ H, RS K F [] R Γl σ H s → D.ct σ H
def SX (A : Amb) (ca : Nat → Addr) (st : Stmt) {ρ S S' L : Type} (Γ : Cxt S) (Γ' : Cxt S') (Γl : Cxt L) (rr : Rr ρ) (f : S → Rs (Fl ρ S' L)) : Prop :=
  ∃ t, (∀ X, A.In X → PS X st t) ∧ ∀ (F : Fm) (R : Mn) (σ : L2.St) (H : Hp) (s : S) (D : Ends), RS A.K F [] R Γ σ H s → (f s).Post (FlP A.K F R Γ' Γl rr D) (ExF A.E ca F) → t D σ H
def SXs (A : Amb) (ca : Nat → Addr) (sts : List Stmt) {ρ S S' L : Type} (Γ : Cxt S) (Γ' : Cxt S') (Γl : Cxt L) (rr : Rr ρ) (f : S → Rs (Fl ρ S' L)) : Prop :=
  ∃ t, (∀ X, A.In X → PSs X sts t) ∧ ∀ (F : Fm) (R : Mn) (σ : L2.St) (H : Hp) (s : S) (D : Ends), RS A.K F [] R Γ σ H s → (f s).Post (FlP A.K F R Γ' Γl rr D) (ExF A.E ca F) → t D σ H
@[simp] def Fl.then {ρ S S' L : Type} (k : S → Rs (Fl ρ S' L)) : Fl ρ S L → Rs (Fl ρ S' L)
  | .nx s => k s
  | .rt r => .ok (.rt r)
  | .bk s => .ok (.bk s)
  | .ct s => .ok (.ct s)
section
variable {ρ S S' S'' L α β γ U : Type} {Γ : Cxt S} {Γ' : Cxt S'} {Γ'' : Cxt S''} {Γl : Cxt L} {rr : Rr ρ} {τ : Ty α} {τ' : Ty β} {c : Ct α} {e a b d tg iter : Expr} {pos p p2 py : Pos} {x y : Str} {st : Stmt} {sts : List Stmt} {i : Nat}
theorem SXs.nil : SXs A ca [] Γ Γ Γl rr (fun s => .ok (.nx s)) := ⟨_, fun X hX => pss_nil, fun F R σ H s D hs hp => hp σ H hs⟩
theorem SX.one {f : S → Rs (Fl ρ S' L)} (h : SX A ca st Γ Γ' Γl rr f) : SXs A ca [st] Γ Γ' Γl rr f := let ⟨t, ht, q⟩ := h; ⟨t, fun X hX => pss_one (ht X hX), q⟩
theorem SXs.cons {f : S → Rs (Fl ρ S' L)} {g : S' → Rs (Fl ρ S'' L)} (h : SX A ca st Γ Γ' Γl rr f) (hr : SXs A ca sts Γ' Γ'' Γl rr g) : SXs A ca (st :: sts) Γ Γ'' Γl rr (fun s => (f s).bind (Fl.then g)) := by
  obtain ⟨t, ht, q⟩ := h
  obtain ⟨u, hu, qu⟩ := hr
  refine ⟨_, fun X hX => pss_cons (ht X hX) (hu X hX), fun F R σ H s D hs hp => q F R σ H s _ hs ((Rs.post_bind hp).mono (fun fl k => ?_) fun _ z => z)⟩
  cases fl with
  | nx s' => exact fun σ' H' h' => qu F R σ' H' s' D h' k
  | rt r => exact fun v H' h' => k v H' h'
  | bk s' => exact fun σ' H' h' => k σ' H' h'
  | ct s' => exact fun σ' H' h' => k σ' H' h'
/-- forgetting ahead, behind -/
theorem SXs.pre {w : S → S'} {f : S' → Rs (Fl ρ S'' L)} (hw : Wk Γ Γ' w) (h : SXs A ca sts Γ' Γ'' Γl rr f) : SXs A ca sts Γ Γ'' Γl rr (fun s => f (w s)) := by
  obtain ⟨t, ht, q⟩ := h
  exact ⟨t, ht, fun F R σ H s D hs hp => q F R σ H _ D (hs.weak hw) hp⟩
theorem SX.pre {w : S → S'} {f : S' → Rs (Fl ρ S'' L)} (hw : Wk Γ Γ' w) (h : SX A ca st Γ' Γ'' Γl rr f) : SX A ca st Γ Γ'' Γl rr (fun s => f (w s)) := by
  obtain ⟨t, ht, q⟩ := h
  exact ⟨t, ht, fun F R σ H s D hs hp => q F R σ H _ D (hs.weak hw) hp⟩
theorem SXs.post {w : S' → S''} {f : S → Rs (Fl ρ S' L)} (h : SXs A ca sts Γ Γ' Γl rr f) (hw : Wk Γ' Γ'' w) : SXs A ca sts Γ Γ'' Γl rr (fun s => (f s).bind (Fl.then fun s' => .ok (.nx (w s')))) := by
  obtain ⟨t, ht, q⟩ := h
  refine ⟨t, ht, fun F R σ H s D hs hp => q F R σ H s D hs ((Rs.post_bind hp).mono (fun fl k => ?_) fun _ z => z)⟩
  cases fl with
  | nx s' => exact fun σ' H' h' => k σ' H' (h'.weak hw)
  | rt r => exact fun v H' h' => k v H' h'
  | bk s' => exact fun σ' H' h' => k σ' H' h'
  | ct s' => exact fun σ' H' h' => k σ' H' h'
/-! ### names -/
theorem SX.set {k : Nat} {f : S → Rs (α × S')} {put : S' → α → S''} (hx : LocA A x) (hN : A.N[i]? = some x) (he : EX A ca e Γ Γ' τ f) (hp : Put Γ' i (.val τ) Γ'' put) (hs : ∀ X, A.In X → swapsWith e (some (.Name x py)) pos.line X.env = pure false := by intro _ _; rfl) :
    SX A ca (.Assign [.Name x py] e pos) Γ Γ'' Γl rr (fun s => (f s).bind fun r => .ok (.nx (put r.2 r.1))) := by
  obtain ⟨t, ht, q⟩ := he
  refine ⟨_, fun X hX => ps_set (i := i) (by rw [hX.N]; exact hX.nd) (by rw [hX.N]; exact hN) (by rw [hX.sc]; exact hx.loc) (ht X hX) (hs X hX) (by rw [hX.fn, hX.sc]; exact hx.fn), fun F R σ H s D h0 hp' => q F [] R σ H s _ h0 ((Rs.post_bind hp').mono (fun r k v H' ⟨Og, h'⟩ => ?_) fun _ z => z)⟩
  exact k _ _ (h'.store hp (fun G z => ⟨rfl, v, rfl, z.2⟩) fun G z => z.1)
theorem SX.setO {k : Nat} {f : S → Rs (α × S')} {put : S' → α → S''} (hx : LocA A x) (hN : A.N[i]? = some x) (he : EL A ca e Γ Γ' c f) (hp : Put Γ' i (.own none c) Γ'' put) (hs : ∀ X, A.In X → swapsWith e (some (.Name x py)) pos.line X.env = pure false := by intro _ _; rfl) :
    SX A ca (.Assign [.Name x py] e pos) Γ Γ'' Γl rr (fun s => (f s).bind fun r => .ok (.nx (put r.2 r.1))) := by
  obtain ⟨t, ht, q⟩ := he
  refine ⟨_, fun X hX => ps_set (i := i) (by rw [hX.N]; exact hX.nd) (by rw [hX.N]; exact hN) (by rw [hX.sc]; exact hx.loc) (ht X hX) (hs X hX) (by rw [hX.fn, hX.sc]; exact hx.fn), fun F R σ H s D h0 hp' => q F [] R σ H s _ h0 ((Rs.post_bind hp').mono (fun r k p vs H' hz ⟨Og, h'⟩ => ?_) fun _ z => z)⟩
  exact k _ _ (h'.storeO hp hz (fun G z => z.2) fun G z => z.1)
/-- target = e -/
theorem SX.asg {f : S → Rs (α × S')} {put : S' → α → S''} {ix : List Nat} (he : EX A ca e Γ Γ' τ f) (hg : GX A tg Γ' Γ'' τ put ix) (hs : ∀ env, swapsWithSole [tg] e pos.line env = pure false := by intro _; rfl) (hw : ∀ X, A.In X → swappedStores [tg] e X.env = pure none := by intro _ _; rfl) (hst : star tg = false := by rfl) :
    SX A ca (.Assign [tg] e pos) Γ Γ'' Γl rr (fun s => (f s).bind fun r => .ok (.nx (put r.2 r.1))) := by
  obtain ⟨t, ht, q⟩ := he
  obtain ⟨g, pg, qg⟩ := hg
  refine ⟨_, fun X hX => ps_asg (ht X hX) (pg X hX) (hs X.env) (hw X hX) (by rw [assign_each hst]; rfl), fun F R σ H s D h0 hp' => q F [] R σ H s _ h0 ((Rs.post_bind hp').mono (fun r k v H' ⟨Og, h'⟩ => ?_) fun _ z => z)⟩
  exact qg _ H' σ Og _ v r.1 _ cut_le h'.rep h'.rs.2 fun σ' _ hr => k _ _ ⟨Og, hr, h'.rs.1, h'.nd, h'.ow, h'.lo, h'.fr, h'.hb, h'.hi⟩
/-- x, y = a, b of plain local names: stored from the right; both plain values -/
theorem SX.par {j : Nat} {px pyy pt pt2 : Pos} {kt k2 : Nat} {f : S → Rs ((α × β) × S')} {S3 : Type} {Γ3 : Cxt S3} {put : S' → α → S''} {put2 : S'' → β → S3} (hi : A.N[i]? = some x) (hj : A.N[j]? = some y) (hij : i ≠ j) (hx : A.sc.names.lookup x = some .local) (hy : A.sc.names.lookup y = some .local)
    (ha : EAs A ca [a, b] Γ Γ' (.cons τ (.one τ')) f) (hp : Put Γ' i (.val τ) Γ'' put) (hp2 : Put Γ'' j (.val τ') Γ3 put2) (hw : ∀ X, A.In X → swappedStores [.Tuple [.Name x px, .Name y pyy] kt pt] (.Tuple [a, b] k2 pt2) X.env = pure (some [x, y])) :
    SX A ca (.Assign [.Tuple [.Name x px, .Name y pyy] kt pt] (.Tuple [a, b] k2 pt2) pos) Γ Γ3 Γl rr (fun s => (f s).bind fun r => .ok (.nx (put2 (put r.2 r.1.1) r.1.2))) := by
  obtain ⟨t, ht, q⟩ := ha
  refine ⟨_, fun X hX => ps_par hX.calm (by rw [hX.N]; exact hX.nd) (by rw [hX.N]; exact hi) (by rw [hX.N]; exact hj) hij (by rw [hX.sc]; exact hx) (by rw [hX.sc]; exact hy) (ht X hX) (hw X hX), fun F R σ H s D h0 hp' => q F [] R σ H s _ h0 ((Rs.post_bind hp').mono (fun r k vs H' ⟨Og, h'⟩ => ?_) fun _ z => z)⟩
  obtain ⟨v, rest, e1, q1, u, e2, q2⟩ := h'.rs.2
  subst e2
  obtain ⟨Og2, h2⟩ := h'.store (R' := R.and (Mn.val A.K τ' u r.1.2)) hp (x := some v) (b := r.1.1) (fun G z => ⟨rfl, v, rfl, by
    obtain ⟨_, w, r', e3, q3, u', e4, q4⟩ := z
    rw [e1] at e3; cases e3; exact q3⟩) fun G z => ⟨z.1, by
    obtain ⟨_, w, r', e3, q3, u', e4, q4⟩ := z
    rw [e1] at e3; cases e3; cases e4; exact q4⟩
  exact ⟨v, u, e1, k _ _ (h2.store hp2 (fun G z => ⟨rfl, u, rfl, z.2⟩) fun G z => z.1)⟩
/-! ### ends -/
/-- the value that a def hands back -/
def rVal (K : PySem.W.Frag) (τ : Ty α) : Rr α := fun F v H r => F.Ok H ∧ τ.rep K (cut H F.B) v r
def rIO (K : PySem.W.Frag) (q : Addr) {γ : Type} (c : Ct γ) (τ : Ty α) : Rr (α × γ) := fun F v H r => F.I = [q] → F.Ok H ∧ ∃ xs, H q = some (.lst xs) ∧ xs.length ≤ sizeLine ∧ c.rep K (cut H (q :: F.B)) xs r.2 ∧ τ.rep K (cut H (q :: F.B)) v r.1
theorem hid_B {F : Fm} {L : Lo} {Og : List Addr} : ∀ p ∈ F.B, p ∈ hid F L Og := fun p hp => List.mem_append_left _ hp
theorem SX.ret {f : S → Rs (α × S')} (he : EX A ca e Γ Γ' τ f) : SX A ca (.Return (some e) pos) Γ Γ' Γl (rVal A.K τ) (fun s => (f s).bind fun r => .ok (.rt r.1)) := by
  obtain ⟨t, ht, q⟩ := he
  exact ⟨_, fun X hX => ps_ret (ht X hX), fun F R σ H s D h0 hp => q F [] R σ H s _ h0 ((Rs.post_bind hp).mono (fun r k v H' ⟨Og, h'⟩ => k v H' ⟨h'.fr, τ.mono (cut_sub hid_B) h'.rs.2⟩) fun _ z => z)⟩
theorem SX.retIO {f : S → Rs (α × S')} {q : Addr} {c : Ct γ} {g : S' → γ} (he : EX A ca e Γ Γ' τ f) (h0 : At Γ' 0 (.own (some q) c) g) : SX A ca (.Return (some e) pos) Γ Γ' Γl (rIO A.K q c τ) (fun s => (f s).bind fun r => .ok (.rt (r.1, g r.2))) := by
  obtain ⟨t, ht, qe⟩ := he
  refine ⟨_, fun X hX => ps_ret (ht X hX), fun F R σ H s D hs hp => qe F [] R σ H s _ hs ((Rs.post_bind hp).mono (fun r k v H' ⟨Og, h'⟩ => k v H' fun hI => ?_) fun _ z => z)⟩
  obtain ⟨xx, Oi, e1, e2, p, vs, e3, rfl, rfl, e4, z4, r4⟩ := h0.val h'.rep
  have : p = q := e3 q rfl
  subst this
  have sub : ∀ z ∈ p :: F.B, z ∈ hid F [] Og := fun z hz => by
    rcases List.mem_cons.mp hz with rfl | hz
    · exact List.mem_append_right _ (List.mem_append_right _ (e2 z (by simp)))
    · exact hid_B z hz
  exact ⟨h'.fr, vs, e4, z4, c.mono (cut_sub sub) r4, τ.mono (cut_sub sub) h'.rs.2⟩
theorem SX.retN {dflt : α} (hd : ∀ {H : Hp}, τ.rep A.K H .non dflt) : SX A ca (.Return none pos) Γ Γ' Γl (rVal A.K τ) (fun _ => .ok (.rt dflt)) :=
  ⟨_, fun X hX => ps_retN, fun F R σ H s D hs hp => hp .non H ⟨hs.fr, hd⟩⟩
theorem SX.brk : SX A ca (.Break pos) Γ Γ' Γ rr (fun s => .ok (.bk s)) := ⟨_, fun X hX => ps_break, fun F R σ H s D hs hp => hp σ H hs⟩
theorem SX.cnt : SX A ca (.Continue pos) Γ Γ' Γ rr (fun s => .ok (.ct s)) := ⟨_, fun X hX => ps_continue, fun F R σ H s D hs hp => hp σ H hs⟩
theorem SX.pass : SX A ca (.Pass pos) Γ Γ Γl rr (fun s => .ok (.nx s)) := ⟨_, fun X hX => ps_pass, fun F R σ H s D hs hp => hp σ H hs⟩
/-- a statement that is never come to -/
theorem SX.never : SX A ca st Γ Γ' Γl rr (fun _ => .bad) := ⟨_, fun X hX => ps_never, fun F R σ H s D hs hp => hp.elim⟩
theorem SX.expr {f : S → Rs (α × S')} (he : EX A ca e Γ Γ' τ f) (hs : ∀ env, swapsWith e none pos.line env = pure false := by intro _; rfl) : SX A ca (.Expr e pos) Γ Γ' Γl rr (fun s => (f s).bind fun r => .ok (.nx r.2)) := by
  obtain ⟨t, ht, q⟩ := he
  exact ⟨_, fun X hX => ps_expr (ht X hX) (hs X.env), fun F R σ H s D h0 hp => q F [] R σ H s _ h0 ((Rs.post_bind hp).mono (fun r k v H' h' => k _ _ (h'.map fun _ z => z.1)) fun _ z => z)⟩
theorem SX.doc {z : Str} {j : Nat} : SX A ca (.Expr (.Constant (.str z) j p) pos) Γ Γ Γl rr (fun s => .ok (.nx s)) := ⟨_, fun X hX => ps_doc, fun F R σ H s D hs hp => hp σ H hs⟩
/-! ### if -/
theorem SX.ite {sa sb : List Stmt} {f : S → Rs (Bool × S')} {g1 g2 : S' → Rs (Fl ρ S'' L)} (hc : EB A ca e Γ Γ' f) (h1 : SXs A ca sa Γ' Γ'' Γl rr g1) (h2 : SXs A ca sb Γ' Γ'' Γl rr g2) : SX A ca (.If e sa sb pos) Γ Γ'' Γl rr (fun s => (f s).bind fun r => if r.1 then g1 r.2 else g2 r.2) := by
  obtain ⟨t, ht, q⟩ := hc
  obtain ⟨t1, ht1, q1⟩ := h1
  obtain ⟨t2, ht2, q2⟩ := h2
  refine ⟨_, fun X hX => ps_if (ht X hX) (ht1 X hX) (ht2 X hX), fun F R σ H s D h0 hp => q F [] R σ H s _ h0 ((Rs.post_bind hp).mono (fun r k H' h' => ?_) fun _ z => z)⟩
  obtain ⟨c, s'⟩ := r
  cases c with
  | true => exact iteT (q1 F R σ H' s' D h' k)
  | false => exact iteF (q2 F R σ H' s' D h' k)
/-! ### for -/
def Mn.walk (K : PySem.W.Frag) (J : It) (τ : Ty β) (bs : List β) : Mn := ⟨fun G => Wkg K J G [] τ bs, fun {G G'} s h =>
  ⟨fun i H' s2 hi => h.go i H' (s.trans s2) hi, fun i b x H' H'' s2 hb hy => by
    obtain ⟨h1, h2⟩ := h.yl i b x H' H'' (s.trans s2) hb hy
    exact ⟨h1, fun O' hO hn => h2 O' (fun p hp => by
      rcases hO p hp with z | z
      · exact .inl z
      · exact .inr (s.free z)) hn⟩, fun H' s2 => h.st H' (s.trans s2)⟩⟩
/-- a source, which may change what a slot owns ahead of the walk -/
def EI (A : Amb) (ca : Nat → Addr) (tg iter : Expr) {S S' β : Type} (Γ : Cxt S) (Γ' : Cxt S') (τ : Ty β) (f : S → Rs (List β × S')) : Prop :=
  ∃ wi, (∀ X, A.In X → PI X tg iter wi) ∧ ∀ (F : Fm) (L : Lo) (R : Mn) (σ : L2.St) (H : Hp) (s : S) (Rk : It → Hp → Prop), RS A.K F L R Γ σ H s →
    (f s).Post (fun r => ∀ J H1, RS A.K F L (R.and (Mn.walk A.K J τ r.1)) Γ' σ H1 r.2 → Rk J H1) (ExF A.E ca F) → wi σ H Rk
theorem IX.ei {f : S → Rs (List β)} (h : IX A ca tg iter Γ τ' f) : EI A ca tg iter Γ Γ τ' (fun s => (f s).bind fun bs => .ok (bs, s)) := by
  obtain ⟨wi, hi, q⟩ := h
  exact ⟨wi, hi, fun F L R σ H s Rk ⟨Og, hs⟩ hp => q _ σ H s Rk hs.sx ((Rs.post_bind hp).mono (fun bs k J H1 sm w => k J H1 ⟨Og, (hs.grow sm).more w⟩) fun _ z => z.exw hs.fr)⟩
theorem EI.range1 {f : S → Rs (Int × S')} (B : Blt A "range" (.type "range")) (h : EX A ca a Γ Γ' tI f) (hs : star a = false := by rfl) : EI A ca tg (.Call (.Name "range" p) [a] [] pos) Γ Γ' tI (fun s => (f s).bind fun n => Rs.guard (rgOk 0 n.1) (.ok (rangeL 0 n.1, n.2))) := by
  obtain ⟨t, ht, q⟩ := h
  refine ⟨_, fun X hX => pi_range1 (hX.gl B.gl) (by rw [hX.mg]; exact B.mg) (pa_cons (ht X hX) pa_nil (star_each hs)) (star_each hs), fun F L R σ H s Rk h0 hp => q F L R σ H s _ h0 ((Rs.post_bind hp).mono (fun n k v H1 ⟨Og, h1⟩ => ?_) fun _ z => z)⟩
  obtain ⟨hc, k⟩ := Rs.post_guard k
  obtain ⟨c1, c2, c3, c4, c5⟩ := of_decide_eq_true hc
  exact ⟨n.1, by rw [show v = .int n.1 from h1.rs.2], c3, c4, k _ H1 ⟨Og, h1.with ⟨h1.rs.1, Wkg.range (by simp)⟩⟩⟩
theorem EI.range2 {f : S → Rs (Int × S')} {g : S' → Rs (Int × S'')} (B : Blt A "range" (.type "range")) (ha : EX A ca a Γ Γ' tI f) (hb : EX A ca b Γ' Γ'' tI g) (h1 : star a = false := by rfl) (h2 : star b = false := by rfl) :
    EI A ca tg (.Call (.Name "range" p) [a, b] [] pos) Γ Γ'' tI (fun s => (f s).bind fun m => (g m.2).bind fun n => Rs.guard (rgOk m.1 n.1) (.ok (rangeL m.1 n.1, n.2))) := by
  obtain ⟨ta, pa, qa⟩ := ha
  obtain ⟨tb, pb, qb⟩ := hb
  refine ⟨_, fun X hX => pi_range2 (hX.gl B.gl) (by rw [hX.mg]; exact B.mg) (pa_cons (pa X hX) (pa_cons (pb X hX) pa_nil (star_each h2)) (star_each h1)) (by rw [star_each h1, star_each h2]; rfl) (star_each h2), fun F L R σ H s Rk h0 hp => EX.two (k := fun m n s2 => Rs.guard (rgOk m n) (.ok (rangeL m n, s2))) qa qb h0 hp fun m n s2 v u H2 hh k => ?_⟩
  obtain ⟨Og, hh⟩ := hh
  obtain ⟨hc, k⟩ := Rs.post_guard k
  obtain ⟨c1, c2, c3, c4, c5⟩ := of_decide_eq_true hc
  exact ⟨m, n, by rw [show v = .int m from hh.rs.1.2, show u = .int n from hh.rs.2], ⟨c1, c2, c3, c4⟩, k _ H2 ⟨Og, hh.with ⟨hh.rs.1.1, Wkg.range rfl⟩⟩⟩
theorem EI.list {f : S → Rs (List α × S')} (h : EX A ca iter Γ Γ' (tL τ) f) : EI A ca tg iter Γ Γ' τ f := by
  obtain ⟨t, ht, q⟩ := h
  refine ⟨iList A.K t, fun X hX => by rw [← hX.K]; exact pi_list (ht X hX), fun F L R σ H s Rk h0 hp => q F L R σ H s _ h0 (hp.mono (fun n k v H1 ⟨Og, h1⟩ => ?_) fun _ z => z)⟩
  obtain ⟨p, vs, rfl, e, z, r⟩ := h1.rs.2
  exact ⟨p, rfl, ⟨vs, .inl (.inl (cut_le _ _ e))⟩, k _ H1 ⟨Og, h1.with ⟨h1.rs.1, Wkg.listT (vs := vs) (.inl (.inl e)) (by rw [cut_nil]; exact r)⟩⟩⟩
@[simp] def forK {β ρ S L : Type} (rec : S → Rs (Fl ρ S L)) : Fl ρ S S → Rs (Fl ρ S L)
  | .nx s => rec s
  | .ct s => rec s
  | .bk s => .ok (.nx s)
  | .rt r => .ok (.rt r)
def forM {β ρ S L : Type} (b : β → S → Rs (Fl ρ S S)) : List β → S → Rs (Fl ρ S L)
  | [], s => .ok (.nx s)
  | x :: r, s => (b x s).bind (forK (β := β) (forM b r))
theorem SX.forS {St2 : Type} {Γt : Cxt St2} {f : S → Rs (List β × S')} {put : S' → β → St2} {ix : List Nat} {body : List Stmt} {g : St2 → Rs (Fl ρ S' S')} (hi : EI A ca tg iter Γ Γ' τ' f) (hg : GX A tg Γ' Γt τ' put ix) (hb : SXs A ca body Γt Γ' Γ' rr g)
    (hf : ∀ env x, foldedSetIterable iter env x = pure x := by intro _ _; rfl) : SX A ca (.For tg iter body [] pos) Γ Γ' Γl rr (fun s => (f s).bind fun r => forM (fun b s => g (put s b)) r.1 r.2) := by
  obtain ⟨wi, pi, qi⟩ := hi
  obtain ⟨tgt, pg, qg⟩ := hg
  obtain ⟨tb, pb, qb⟩ := hb
  refine ⟨_, fun X hX => ps_for hX.own hX.calm (pi X hX) (pg X hX) (pb X hX) (hf X.env), fun F R σ H s D h0 hp => qi F [] R σ H s _ h0 ((Rs.post_bind hp).mono (fun r k J H1 h1 => ?_) fun _ z => z)⟩
  obtain ⟨bs, s1⟩ := r
  refine ⟨fun i m σ H => i + m = bs.length ∧ ∃ s, RS A.K F [] (R.and (Mn.walk A.K J τ' bs)) Γ' σ H s ∧ (forM (fun b s => g (put s b)) (bs.drop i) s).Post (FlP A.K F R Γ' Γl rr D) (ExF A.E ca F), ⟨bs.length, by omega, s1, h1, by rw [List.drop_zero]; exact k⟩, fun i m σ H hW => ?_⟩
  obtain ⟨him, s2, h2, k2⟩ := hW
  by_cases hlt : i < bs.length
  · obtain ⟨Og, h2⟩ := h2
    have wk := h2.rs.2
    refine .inr ⟨wk.go i H cut_le hlt, fun σ' H' => ∃ s, RS A.K F [] (R.and (Mn.walk A.K J τ' bs)) Γ' σ' H' s ∧ (forM (fun b s => g (put s b)) (bs.drop (i + 1)) s).Post (FlP A.K F R Γ' Γl rr D) (ExF A.E ca F), fun σ' H' ⟨s', h', k'⟩ => ⟨m - 1, by omega, by omega, s', h', k'⟩, fun x H' hy => ?_⟩
    have hbi : bs[i]? = some bs[i] := List.getElem?_eq_getElem hlt
    obtain ⟨sm, rx⟩ := wk.yl i _ x H H' cut_le hbi hy
    have h3 := h2.grow sm
    have rx' := rx (hid F [] Og) (fun p hp => .inr (cut_in hp)) (fun p hp => (h2.hidden p hp).ne)
    rw [List.drop_eq_getElem_cons hlt] at k2
    refine qg _ H' σ Og s2 x bs[i] _ cut_le h3.rep rx' fun σ' _ hr => ?_
    have h4 : RS A.K F [] (R.and (Mn.walk A.K J τ' bs)) Γt σ' H' (put s2 bs[i]) := ⟨Og, hr, h3.rs, h3.nd, h3.ow, h3.lo, h3.fr, h3.hb, h3.hi⟩
    refine qb F _ σ' H' _ _ h4 ((Rs.post_bind k2).mono (fun fl kf => ?_) fun _ z => z)
    cases fl with
    | nx s' => exact fun σ2 H2 h5 => ⟨s', h5, kf⟩
    | ct s' => exact fun σ2 H2 h5 => ⟨s', h5, kf⟩
    | bk s' => exact fun σ2 H2 h5 => kf σ2 H2 (h5.map fun _ z => z.1)
    | rt r => exact fun v H2 h5 => kf v H2 h5
  · refine .inl ⟨?_, ?_⟩
    · obtain ⟨Og, h2⟩ := h2
      have : i = bs.length := by omega
      rw [this]; exact h2.rs.2.st H cut_le
    · rw [List.drop_eq_nil_of_le (by omega)] at k2
      exact k2 σ H (h2.map fun _ z => z.1)
/-! ### while -/
def whileM {ρ S L : Type} (c : S → Rs (Bool × S)) (b : S → Rs (Fl ρ S S)) : Nat → S → Rs (Fl ρ S L)
  | 0, _ => .bad
  | n + 1, s => (c s).bind fun r => if r.1 then (b r.2).bind (forK (β := Unit) (whileM c b n)) else .ok (.nx r.2)
theorem SX.whileS {f : S → Rs (Bool × S)} {body : List Stmt} {g : S → Rs (Fl ρ S S)} (n : Nat) (hc : EB A ca e Γ Γ f) (hb : SXs A ca body Γ Γ Γ rr g) : SX A ca (.While e body [] pos) Γ Γ Γl rr (fun s => whileM f g n s) := by
  obtain ⟨t, ht, q⟩ := hc
  obtain ⟨tb, pb, qb⟩ := hb
  refine ⟨_, fun X hX => ps_while hX.own (ht X hX) (pb X hX), fun F R σ H s D h0 hp => ⟨fun m σ H => ∃ s, RS A.K F [] R Γ σ H s ∧ (whileM f g m s).Post (FlP A.K F R Γ Γl rr D) (ExF A.E ca F), ⟨n, s, h0, hp⟩, fun m σ H ⟨s1, h1, k1⟩ => ?_⟩⟩
  cases m with
  | zero => exact k1.elim
  | succ m =>
    refine q F [] R σ H s1 _ h1 ((Rs.post_bind k1).mono (fun r k H' h' => ?_) fun _ z => z)
    obtain ⟨c, s2⟩ := r
    cases c with
    | false => exact iteF (k σ H' h')
    | true =>
      refine iteT ⟨fun σ' H' => ∃ s, RS A.K F [] R Γ σ' H' s ∧ (whileM f g m s).Post (FlP A.K F R Γ Γl rr D) (ExF A.E ca F), fun σ' H' h => ⟨m, by omega, h⟩, ?_⟩
      refine qb F R σ H' s2 _ h' ((Rs.post_bind k).mono (fun fl kf => ?_) fun _ z => z)
      cases fl with
      | nx s' => exact fun σ2 H2 h5 => ⟨s', h5, kf⟩
      | ct s' => exact fun σ2 H2 h5 => ⟨s', h5, kf⟩
      | bk s' => exact fun σ2 H2 h5 => kf σ2 H2 h5
      | rt r => exact fun v H2 h5 => kf v H2 h5
/-! ### lists that a slot owns are changed -/
theorem Paired.set' {F : V → α → Prop} {v : V} {a : α} (hr : F v a) : ∀ {vs : List V} {as : List α}, Paired F vs as → ∀ (n : Nat), Paired F (vs.set n v) (as.set n a)
  | _, _, .nil, _ => .nil
  | _, _, .cons r t, 0 => .cons hr t
  | _, _, .cons r t, n + 1 => .cons r (Paired.set' hr t n)
theorem atSeq {n : Nat} {i : Int} {j : Nat} (h : ixN n i = some j) : True := trivial
/-- xs[i] = e -/
theorem SX.setI {w : Option Addr} {f : S → Rs (α × S')} {g : S' → List α} {put : S' → List α → S''} {fi : S' → Rs Int} {xp xp2 : Pos} (he : EX A ca e Γ Γ' τ f) (hw : Wr Γ' i w (cL τ) g (cL τ) Γ'' put) (hN : A.N[i]? = some x) (hv : Vis A.sc x) (hix : PX A ca b Γ' tI fi)
    (hs : ∀ env, swapsWithSole [.Subscript (.Name x xp) b xp2] e pos.line env = pure false := by intro _; rfl) (hw2 : ∀ X, A.In X → swappedStores [.Subscript (.Name x xp) b xp2] e X.env = pure none := by intro _ _; rfl)
    (hd : (x == ("__debug__" : Str)) = false := by decide) (hcd : (x == ("__classdict__" : Str)) = false := by decide)
    (hsub : ∀ env v, assign (.Subscript (.Name x xp) b xp2) env v = (do let ov ← holding [v] (eval (.Name x xp) env); let iv ← holding [v, ov] (eval b env); standAt xp2; holding [v, ov, iv] (setItem ov iv v); release [v, ov, iv] []) := by intro _ _; rfl) :
    SX A ca (.Assign [.Subscript (.Name x xp) b xp2] e pos) Γ Γ'' Γl rr (fun s => (f s).bind fun r => (fi r.2).bind fun j => (Rs.ofOpt (ixN (g r.2).length j)).bind fun n => .ok (.nx (put r.2 ((g r.2).set n r.1)))) := by
  obtain ⟨t, ht, q⟩ := he
  obtain ⟨ti, hti, qi⟩ := hix
  refine ⟨_, fun X hX => ps_asg (ht X hX) (pg_sub (pe_var (i := i) (by rw [hX.N]; exact hN) (by rw [hX.sc]; exact hv) hd hcd) (hti X hX) set_list (hsub X.env)) (hs X.env) (hw2 X hX) (by rw [assign_each rfl]; rfl), fun F R σ H s D h0 hp => q F [] R σ H s _ h0 ((Rs.post_bind hp).mono (fun r k v H' ⟨Og, h'⟩ => ?_) fun _ z => z)⟩
  obtain ⟨l, vs, e0, e1, _, _, _, e3, z3, r3, _⟩ := h'.write hw
  refine ⟨.ref l, e1, qi _ σ H' r.2 _ h'.sx ((Rs.post_bind k).mono (fun j kj u H2 s2 ru => ?_) fun _ z => z.exw h'.fr)⟩
  obtain ⟨n, en, kn⟩ := Rs.post_ofOpt (Rs.post_bind kj)
  have h2 := h'.grow s2
  obtain ⟨l2, vs2, _, e12, e22, _, _, e32, z32, r32, hwr⟩ := h2.write hw
  have : l2 = l := by rw [e1] at e12; simpa using e12.symm
  subst this
  refine ⟨l2, vs2, j, n, rfl, ru, e32, by rw [Paired.length r32]; exact en, kn _ _ ⟨Og, ?_⟩⟩
  have h3 := hwr (vs2.set n v) ((g r.2).set n r.1) _ (by rw [List.length_set]; exact z32) (fun p o hp e => by rw [upd_ne hp]; exact e) upd_same (by
    rw [cut_upd e22]
    exact Paired.set' (τ.mono (cut_grow s2) h'.rs.2) r32 n)
  exact h3.with (R.mono (by rw [cut_upd e22]; exact cut_grow s2) h'.rs.1)
end
end TL
/-! TL7: comprehensions whose elements change what slots own; comprehensions given to a name; methods of lists; defs. -/
namespace TL
open PySem PySem.Spec PyProof.Rows L2
variable {A : Amb} {ca : Nat → Addr}
section
variable {ρ S S' S'' L α β γ U : Type} {Γ : Cxt S} {Γ' : Cxt S'} {Γ'' : Cxt S''} {Γl : Cxt L} {rr : Rr ρ} {τ : Ty α} {τ' : Ty β} {c : Ct α} {e a b d tg iter : Expr} {pos p p2 py : Pos} {x y : Str} {st : Stmt} {sts : List Stmt} {i : Nat}
/-- slot i is not looked at -/
structure AnyAt {S : Type} (Γ : Cxt S) (i : Nat) : Prop where
  iff : ∀ {K : PySem.W.Frag} {G H : Hp} {σ : L2.St} {O : List Addr} {s : S} {x : Option V}, Γ.rep K G H (σ.set i x) O s ↔ Γ.rep K G H σ O s
theorem AnyAt.z {S : Type} {Γ : Cxt S} : AnyAt (.cons .any Γ) 0 := ⟨by
  intro K G H σ O s x
  constructor
  · rintro ⟨y, σ', O1, O2, e, rfl, h1, h2⟩
    cases σ with
    | nil => cases e
    | cons u σ => cases e; exact ⟨_, _, O1, O2, rfl, rfl, h1, h2⟩
  · rintro ⟨y, σ', O1, O2, rfl, rfl, h1, h2⟩
    exact ⟨x, σ', O1, O2, rfl, rfl, h1, h2⟩⟩
theorem AnyAt.s {S α : Type} {k : Sl α} {Γ : Cxt S} {i : Nat} (h : AnyAt Γ i) : AnyAt (.cons k Γ) (i + 1) := ⟨by
  intro K G H σ O s x
  constructor
  · rintro ⟨y, σ', O1, O2, e, rfl, h1, h2⟩
    cases σ with
    | nil => cases e
    | cons u σ =>
      rw [List.set_cons_succ] at e
      cases e
      exact ⟨_, σ, O1, O2, rfl, rfl, h1, h.iff.mp h2⟩
  · rintro ⟨y, σ', O1, O2, rfl, rfl, h1, h2⟩
    exact ⟨y, _, O1, O2, rfl, rfl, h1, h.iff.mpr h2⟩⟩
theorem AnyAt.wipe {S : Type} {Γ : Cxt S} {K : PySem.W.Frag} {G H : Hp} {σ : L2.St} {O : List Addr} {s : S} : ∀ {vs : List Nat}, (∀ i ∈ vs, AnyAt Γ i) → (Γ.rep K G H (L2.wipe σ vs) O s ↔ Γ.rep K G H σ O s)
  | [], _ => Iff.rfl
  | v :: vs, h => by
    show Γ.rep K G H ((L2.wipe σ vs).set v none) O s ↔ _
    rw [(h v (by simp)).iff]
    exact AnyAt.wipe fun i hi => h i (List.mem_cons_of_mem _ hi)
theorem RS.sigma {K : PySem.W.Frag} {F : Fm} {L : Lo} {R : Mn} {S : Type} {Γ : Cxt S} {σ σ' : L2.St} {H : Hp} {s : S} (h : RS K F L R Γ σ H s) (f : ∀ G O, Γ.rep K G H σ O s → Γ.rep K G H σ' O s) : RS K F L R Γ σ' H s :=
  let ⟨Og, h⟩ := h
  ⟨Og, f _ _ h.rep, h.rs, h.nd, h.ow, h.lo, h.fr, h.hb, h.hi⟩
/-- what a comprehension with changes makes -/
def lcE {β γ S : Type} (g : β → S → Rs (Option γ × S)) : List β → S → Rs (List γ × S)
  | [], s => .ok ([], s)
  | x :: r, s => (g x s).bind fun o => (lcE g r o.2).bind fun ys => .ok (o.1.toList ++ ys.1, ys.2)
theorem elc_spec {S2 : Type} {Γt : Cxt S2} {τ1 : Ty β} {τ2 : Ty γ} {fi : S → Rs (List β × S')} {put : S' → β → S2} {w : S2 → S'} {ix : List Nat} {ft : S2 → Rs (Bool × S2)} {fe : S2 → Rs (γ × S2)} {wi : TI} {g : TG} {tt : TT} {te : TE}
    {vs : List Nat} (hw : Wp Γt vs Γ' w) (hany : ∀ i ∈ vs, AnyAt Γ' i) (hix : ∀ i ∈ ix, i ∈ vs)
    (qi : ∀ (F : Fm) (L : Lo) (R : Mn) (σ : L2.St) (H : Hp) (s : S) (Rk : It → Hp → Prop), RS A.K F L R Γ σ H s → (fi s).Post (fun r => ∀ J H1, RS A.K F L (R.and (Mn.walk A.K J τ1 r.1)) Γ' σ H1 r.2 → Rk J H1) (ExF A.E ca F) → wi σ H Rk)
    (qg : ∀ (G H : Hp) (σ : L2.St) (O : List Addr) (s : S') (v : V) (a : β) (Q : L2.St → Hp → Prop), Same G H → Γ'.rep A.K G H σ O s → τ1.rep A.K G v a →
      (∀ σ', (∀ vs, (∀ i ∈ ix, i ∈ vs) → L2.wipe σ' vs = L2.wipe σ vs) → Γt.rep A.K G H σ' O (put s a) → Q σ' H) → g v σ H Q)
    (qt : ∀ (F : Fm) (L : Lo) (R : Mn) (σ : L2.St) (H : Hp) (s : S2) (Q : Bool → Hp → Prop), RS A.K F L R Γt σ H s → (ft s).Post (fun r => ∀ H', RS A.K F L R Γt σ H' r.2 → Q r.1 H') (ExF E0 ca F) → tt σ H Q)
    (qe : ∀ (F : Fm) (L : Lo) (R : Mn) (σ : L2.St) (H : Hp) (s : S2) (Q : VK), RS A.K F L R Γt σ H s → (fe s).Post (fun r => ∀ v H', RS A.K F L (R.and (Mn.val A.K τ2 v r.1)) Γt σ H' r.2 → Q v H') (ExF E0 ca F) → te σ H Q)
    (F : Fm) (L : Lo) (R : Mn) (σ : L2.St) (H : Hp) (s : S) (Q : VK) (hs : RS A.K F L R Γ σ H s)
    (hp : ((fi s).bind fun r => Rs.guard (decide (r.1.length ≤ sizeLine)) (lcE (fun b s => nox ((ft (put s b)).bind fun r => if r.1 then (fe r.2).bind fun a => .ok (some a.1, w a.2) else .ok (none, w r.2))) r.1 r.2)).Post
      (fun r => ∀ p vs H', vs.length ≤ sizeLine → RS A.K F ((p, vs) :: L) (R.and (Mn.lst A.K (cL τ2) vs r.1)) Γ' σ H' r.2 → Q (.ref p) H') (ExF A.E ca F)) :
    tLc wi g tt te vs σ H Q := by
  refine qi F L R σ H s _ hs ((Rs.post_bind hp).mono (fun r k J H1 h1 => ?_) fun _ z => z)
  obtain ⟨bs, s1⟩ := r
  obtain ⟨hz, k⟩ := Rs.post_guard k
  have hz : bs.length ≤ sizeLine := of_decide_eq_true hz
  intro D nD
  generalize hgg : (fun b (s : S') => nox ((ft (put s b)).bind fun r => if r.1 then (fe r.2).bind fun a => .ok (some a.1, w a.2) else .ok (none, w r.2))) = gg at k
  obtain ⟨Og, h1⟩ := h1
  have hD := h1.loose (R' := Mn.lst A.K (cL τ2) [] []) nD (same_upd (o := .lst []) nD) upd_same .nil
  let Inv : List V → List γ → Mn := fun acc ys => (R.and (Mn.walk A.K J τ1 bs)).and (Mn.lst A.K (cL τ2) acc ys)
  let Wv : Nat → Nat → Hp → Prop := fun i m H' => i + m = bs.length ∧ ∃ s acc ys, RS A.K F ((D, acc) :: L) (Inv acc ys) Γ' σ H' s ∧ acc.length ≤ i ∧
    (lcE gg (bs.drop i) s).Post (fun r => ∀ p vs H', vs.length ≤ sizeLine → RS A.K F ((p, vs) :: L) (R.and (Mn.lst A.K (cL τ2) vs (ys ++ r.1))) Γ' σ H' r.2 → Q (.ref p) H') (ExF A.E ca F)
  refine ⟨Wv, ⟨bs.length, by omega, s1, [], [], ⟨Og, hD⟩, Nat.zero_le _, by rw [List.drop_zero]; exact k⟩, fun i m H' hW => ?_⟩
  obtain ⟨him, s2, acc, ys, h2, hacc, hk⟩ := hW
  by_cases hi : i < bs.length
  · obtain ⟨Og2, h2⟩ := h2
    have wk : Wkg A.K J _ [] τ1 bs := h2.rs.1.2
    refine .inr ⟨wk.go i H' cut_le hi, Wv (i + 1) (m - 1), fun H'' h => ⟨m - 1, by omega, h⟩, fun x H2 hy => ?_⟩
    have hbi : bs[i]? = some bs[i] := List.getElem?_eq_getElem hi
    obtain ⟨sm, rx⟩ := wk.yl i _ x H' H2 cut_le hbi hy
    have h3 := h2.grow sm
    have rx' := rx (hid F ((D, acc) :: L) Og2) (fun p hp => .inr (cut_in hp)) (fun p hp => (h2.hidden p hp).ne)
    rw [List.drop_eq_getElem_cons hi] at hk
    refine qg _ H2 (L2.wipe σ vs) Og2 s2 x bs[i] _ cut_le ((AnyAt.wipe hany).mpr h3.rep) rx' fun σ' hwp hr' => ⟨(hwp _ hix).trans (wipe_wipe _ fun _ h => h), ?_⟩
    have hwσ : L2.wipe σ' vs = L2.wipe σ vs := (hwp _ hix).trans (wipe_wipe _ fun _ h => h)
    have h4 : RS A.K F ((D, acc) :: L) (Inv acc ys) Γt σ' H2 (put s2 bs[i]) := ⟨Og2, hr', h3.rs, h3.nd, h3.ow, h3.lo, h3.fr, h3.hb, h3.hi⟩
    have back : ∀ {R : Mn} {acc : List V} {H : Hp} {s : S2}, RS A.K F ((D, acc) :: L) R Γt σ' H s → RS A.K F ((D, acc) :: L) R Γ' σ H (w s) := fun {R acc H s} h => (h.wipe hw).sigma fun G O r => by
      rw [hwσ] at r
      exact (AnyAt.wipe hany).mp r
    have hk1 := Rs.post_bind hk
    rw [← hgg] at hk1
    have hk2 := Rs.post_bind (post_nox (E' := ExF E0 ca F) hk1)
    rw [hgg] at hk2
    refine qt F _ _ σ' H2 _ _ h4 (hk2.mono (fun r kr H3 h5 => ?_) fun _ z => z)
    obtain ⟨cc, s5⟩ := r
    cases cc with
    | true =>
      refine iteT (qe F _ _ σ' H3 s5 _ h5 ((Rs.post_bind kr).mono (fun a ka v H4 h6 => ?_) fun _ z => z))
      obtain ⟨Og6, h6⟩ := back h6
      have hka := Rs.post_bind ka
      have eD : H4 D = some (.lst acc) := h6.lo (D, acc) (by simp)
      have inD : D ∈ hid F ((D, acc) :: L) Og6 := List.mem_append_right _ (by simp)
      have ceq : cut (upd H4 D (.lst (acc ++ [v]))) (hid F ((D, acc) :: L) Og6) = cut H4 (hid F ((D, acc) :: L) Og6) := cut_upd inD
      have nd : (D :: (L.map (·.1) ++ Og6)).Nodup := h6.nd
      obtain ⟨nD1, _⟩ := List.nodup_cons.mp nd
      refine ⟨acc, eD, by omega, by omega, w a.2, acc ++ [v], ys ++ [a.1], ⟨Og6, ?_⟩, by rw [List.length_append]; exact Nat.succ_le_succ hacc, ?_⟩
      · have hr6 : (Inv (acc ++ [v]) (ys ++ [a.1])).p (cut H4 (hid F ((D, acc) :: L) Og6)) := ⟨h6.rs.1.1, Paired.append h6.rs.1.2 (.cons h6.rs.2 .nil)⟩
        have hh : hid F ((D, acc ++ [v]) :: L) Og6 = hid F ((D, acc) :: L) Og6 := rfl
        refine ⟨?_, ?_, h6.nd, fun p hp => ⟨(h6.ow p hp).1, (h6.ow p hp).2.1, ?_⟩, fun x hx => ?_, fun b o q hb => ?_, h6.hb, fun p hp => ?_⟩
        · rw [hh, ceq]
          refine Γ'.mono (fun _ _ z => z) (fun p hp o e => ?_) h6.rep
          rw [upd_ne (show p ≠ D from fun z => nD1 (by rw [← z]; exact List.mem_append_right _ hp))]; exact e
        · rw [hh, ceq]; exact hr6
        · by_cases q : p = D
          · subst q; exact Hidn.lst upd_same
          · obtain ⟨o, e, n⟩ := (h6.ow p hp).2.2
            exact ⟨o, by rw [upd_ne q]; exact e, n⟩
        · rcases List.mem_cons.mp hx with rfl | hx
          · exact upd_same
          · have : x.1 ≠ D := fun z => nD1 (by rw [← z]; exact List.mem_append_left _ (List.mem_map.mpr ⟨x, hx, rfl⟩))
            rw [upd_ne this]; exact h6.lo x (List.mem_cons_of_mem _ hx)
        · have : b ≠ D := fun z => by
            subst z
            rcases (h6.ow b (by simp)).1 with z | z
            · rw [q] at z; cases z
            · exact hb z
          rw [upd_ne this]; exact h6.fr b o q hb
        · by_cases q : p = D
          · subst q; exact Hidn.lst upd_same
          · obtain ⟨o, e, n⟩ := h6.hi p hp
            exact ⟨o, by rw [upd_ne q]; exact e, n⟩
      · exact hka.mono (fun zs kz p vs H'' z' r' => kz p vs H'' z' (by simpa using r')) fun _ z => z
    | false =>
      refine iteF ⟨by omega, w s5, acc, ys, back h5, by omega, ?_⟩
      have hka := Rs.post_bind (show (Rs.bind (Rs.ok ((none : Option γ), w s5)) _).Post _ _ from kr)
      exact (Rs.post_bind hka).mono (fun zs kz p vs H'' z' r' => kz p vs H'' z' (by simpa using r')) fun _ z => z
  · refine .inl ⟨?_, ?_⟩
    · obtain ⟨Og2, h2⟩ := h2
      have wk : Wkg A.K J _ [] τ1 bs := h2.rs.1.2
      have : i = bs.length := by omega
      rw [this]; exact wk.st H' cut_le
    · rw [List.drop_eq_nil_of_le (by omega)] at hk
      exact hk D acc H' (by omega) (by rw [List.append_nil]; exact h2.map fun G z => ⟨z.1.1, z.2⟩)
/-- tests with changes -/
def ETz (A : Amb) (ca : Nat → Addr) (ifs : List Expr) {S : Type} (Γ : Cxt S) (f : S → Rs (Bool × S)) : Prop :=
  ∃ t, (∀ X, A.In X → PTs X ifs t) ∧ ∀ (F : Fm) (L : Lo) (R : Mn) (σ : L2.St) (H : Hp) (s : S) (Q : Bool → Hp → Prop), RS A.K F L R Γ σ H s → (f s).Post (fun r => ∀ H', RS A.K F L R Γ σ H' r.2 → Q r.1 H') (ExF A.E ca F) → t σ H Q
theorem ETz.nil : ETz A ca [] Γ (fun s => .ok (true, s)) := ⟨_, fun X hX => pts_nil, fun F L R σ H s Q hs hp => hp H hs⟩
theorem ETz.one {f : S → Rs (Bool × S)} (h : EB A ca e Γ Γ f) : ETz A ca [e] Γ f := let ⟨t, ht, q⟩ := h; ⟨t, fun X hX => pts_one (ht X hX), q⟩
theorem EL.lc {S2 : Type} {Γt : Cxt S2} {τ1 : Ty β} {τ2 : Ty γ} {elt : Expr} {ifs : List Expr} {scope : Scope} {fi : S → Rs (List β × S')} {w : S2 → S'} {put : S' → β → S2} {ix : List Nat} {ft : S2 → Rs (Bool × S2)} {fe : S2 → Rs (γ × S2)}
    (own : List (Str × Nat)) (hi : EI A ca tg iter Γ Γ' τ1 fi) (hb : blkC A.N A.sc scope own = true) (hg : GX (A.blk scope) tg Γ' Γt τ1 put ix) (ht : ETz (A.blk scope) ca ifs Γt ft) (he : EX (A.blk scope) ca elt Γt Γt τ2 fe)
    (hw : Wp Γt (own.map (·.2)) Γ' w) (hany : ∀ i ∈ own.map (·.2), AnyAt Γ' i) (hix : ∀ i ∈ ix, i ∈ own.map (·.2)) (hf : ∀ env x, foldedSetIterable iter env x = pure x := by intro _ _; rfl) :
    EL A ca (.ListComp elt [⟨tg, iter, ifs, 0⟩] scope pos) Γ Γ' (cL τ2) (fun s => (fi s).bind fun r => Rs.guard (decide (r.1.length ≤ sizeLine)) (lcE (fun b s => nox ((ft (put s b)).bind fun r => if r.1 then (fe r.2).bind fun a => .ok (some a.1, w a.2) else .ok (none, w r.2))) r.1 r.2)) := by
  obtain ⟨wi, pi, qi⟩ := hi
  obtain ⟨g, pg, qg⟩ := hg
  obtain ⟨tt, ptt, qt⟩ := ht
  obtain ⟨te, pe, qe⟩ := he
  exact ⟨tLc wi g tt te (own.map (·.2)), fun X hX => pe_lc hX.calm (by rw [hX.N]; exact hX.nd) (pi X hX) (blkOk_by (by rw [hX.N, hX.sc]; exact hb)) (fun s H C cl fp => pg _ (hX.blk scope s H C cl fp)) (fun s H C cl fp => ptt _ (hX.blk scope s H C cl fp)) (fun s H C cl fp => pe _ (hX.blk scope s H C cl fp)) (hf X.env),
    fun F L R σ H s Q hs hp => elc_spec hw hany hix qi qg qt qe F L R σ H s Q hs hp⟩
/-- name = [..] on one line, the name a local: either way of keeping it -/
theorem SX.setEc {S2 S3 : Type} {Γt : Cxt S2} {Γ3 : Cxt S3} {τ1 : Ty β} {τ2 : Ty γ} {elt : Expr} {ifs : List Expr} {scope : Scope} {fi : S → Rs (List β × S')} {w : S2 → S'} {put : S' → β → S2} {ix : List Nat} {ft : S2 → Rs (Bool × S2)} {fe : S2 → Rs (γ × S2)} {put2 : S' → List γ → S3}
    (own : List (Str × Nat)) (hN : A.N[i]? = some y) (hy : A.sc.names.lookup y = some .local) (hl : (py.line == p.line) = true) (hn : (scope.names.any fun (n, k) => n == y && (k == .local || k == .cell)) = false) (hk : A.sc.kind = .function)
    (hi : EI A ca tg iter Γ Γ' τ1 fi) (hb : blkC A.N A.sc scope own = true) (hg : GX (A.blk scope) tg Γ' Γt τ1 put ix) (ht : ETz (A.blk scope) ca ifs Γt ft) (he : EX (A.blk scope) ca elt Γt Γt τ2 fe)
    (hw : Wp Γt (own.map (·.2)) Γ' w) (hany : ∀ i ∈ own.map (·.2), AnyAt Γ' i) (hix : ∀ i ∈ ix, i ∈ own.map (·.2)) (hp2 : Put Γ' i (.own none (cL τ2)) Γ3 put2) (hf : ∀ env x, foldedSetIterable iter env x = pure x := by intro _ _; rfl) :
    SX A ca (.Assign [.Name y py] (.ListComp elt [⟨tg, iter, ifs, 0⟩] scope p) pos) Γ Γ3 Γl rr (fun s => ((fi s).bind fun r => Rs.guard (decide (r.1.length ≤ sizeLine)) (lcE (fun b s => nox ((ft (put s b)).bind fun r => if r.1 then (fe r.2).bind fun a => .ok (some a.1, w a.2) else .ok (none, w r.2))) r.1 r.2)).bind fun r => .ok (.nx (put2 r.2 r.1))) := by
  obtain ⟨wi, pi, qi⟩ := hi
  obtain ⟨g, pg, qg⟩ := hg
  obtain ⟨tt, ptt, qt⟩ := ht
  obtain ⟨te, pe, qe⟩ := he
  refine ⟨tAsg (tLc wi g tt te (own.map (·.2))) (gName i), fun X hX => ?_, fun F R σ H s D hs hp => ?_⟩
  · exact ps_setLc hX.calm (by rw [hX.N]; exact hX.nd) (by rw [hX.N]; exact hN) (by rw [hX.sc]; exact hy) (sw_true (by rw [hX.sc]; exact hk) (by rw [hX.sc]; exact hy) hl hn) (pi X hX) (blkOk_by (by rw [hX.N, hX.sc]; exact hb)) (fun s H C cl fp => pg _ (hX.blk scope s H C cl fp)) (fun s H C cl fp => ptt _ (hX.blk scope s H C cl fp)) (fun s H C cl fp => pe _ (hX.blk scope s H C cl fp)) (hf X.env)
  show tLc wi g tt te (own.map (·.2)) σ H fun x H1 => gName i x σ H1 D.nx
  refine elc_spec hw hany hix qi qg qt qe F [] R σ H s _ hs ((Rs.post_bind hp).mono (fun r k p vs H' hz ⟨Og, h'⟩ => ?_) fun _ z => z)
  exact k _ _ (h'.storeO hp2 hz (fun G z => z.2) fun G z => z.1)
/-! ### methods of a list that a slot owns -/
theorem EX.append {w : Option Addr} {f : S → Rs (α × S')} {g : S' → List α} {put : S' → List α → S''} {xp apos : Pos} (hw : Wr Γ' i w (cL τ) g (cL τ) Γ'' put) (hN : A.N[i]? = some x) (hv : Vis A.sc x) (he : EX A ca e Γ Γ' τ f) (h0 : ∃ (g0 : S → List α) (p0 : S → List α → S), Wr Γ i w (cL τ) g0 (cL τ) Γ p0)
    (hs : star e = false := by rfl) (hline : (apos.endLine == pos.line) = true := by rfl) (hd : (x == ("__debug__" : Str)) = false := by decide) (hcd : (x == ("__classdict__" : Str)) = false := by decide) :
    EX A ca (.Call (.Attribute (.Name x xp) "append" apos) [e] [] pos) Γ Γ'' tN (fun s => (f s).bind fun r => Rs.guard (decide ((g r.2).length < sizeLine)) (.ok ((), put r.2 (g r.2 ++ [r.1])))) := by
  obtain ⟨t, ht, q⟩ := he
  obtain ⟨g0, p0, h0⟩ := h0
  refine ⟨tBM A.K "list" rAppend (tVar i) (tCons t tNil), fun X hX => by
    rw [← hX.K]
    exact pe_bm PySem.F.plainAttrs_list PySem.F.slot_list_append PySem.F.type_list_append mt_append (pe_var (by rw [hX.N]; exact hN) (by rw [hX.sc]; exact hv) hd hcd) (pa_cons (ht X hX) pa_nil (star_each hs)) rfl (by rw [star_each hs]; rfl) hline (star_each hs) (star_any rfl), fun F L R σ H s Q hs0 hp => ?_⟩
  obtain ⟨Og0, hs1⟩ := hs0
  obtain ⟨l, vs, _, e1, _, _, _, e3, z3, r3, _⟩ := hs1.write h0
  refine ⟨.ref l, e1, .inl ⟨rfl, vs, .inl (.inl e3)⟩, q F L R σ H s _ ⟨Og0, hs1⟩ ((Rs.post_bind hp).mono (fun r k v H' ⟨Og, h'⟩ => ?_) fun _ z => z)⟩
  obtain ⟨hc, k⟩ := Rs.post_guard k
  obtain ⟨l2, vs2, _, e12, e22, _, _, e32, z32, r32, hwr⟩ := h'.write hw
  have : l2 = l := by rw [e1] at e12; simpa using e12.symm
  subst this
  have hlt : vs2.length < sizeLine := by rw [Paired.length r32]; exact of_decide_eq_true hc
  refine ⟨l2, vs2, v, rfl, rfl, e32, hlt, k _ _ ⟨Og, ?_⟩⟩
  have h3 := hwr (vs2 ++ [v]) (g r.2 ++ [r.1]) _ (by rw [List.length_append]; exact hlt) (fun p o hp e => by rw [upd_ne hp]; exact e) upd_same (by
    rw [cut_upd e22]
    exact Paired.append r32 (.cons h'.rs.2 .nil))
  exact h3.with ⟨by rw [cut_upd e22]; exact h'.rs.1, rfl⟩
end
end TL
/-! TL8: comprehensions given to a name; lists of fixed places written; defs. -/
namespace TL
open PySem PySem.Spec PyProof.Rows L2
variable {A : Amb} {ca : Nat → Addr}
section
variable {ρ S S' S'' L α β γ U : Type} {Γ : Cxt S} {Γ' : Cxt S'} {Γ'' : Cxt S''} {Γl : Cxt L} {rr : Rr ρ} {τ : Ty α} {τ' : Ty β} {c : Ct α} {e a b d tg iter : Expr} {pos p p2 py : Pos} {x y : Str} {st : Stmt} {sts : List Stmt} {i : Nat}
/-- name = [..] on one line, the name a local, the name's kind by K -/
theorem SX.setPc {S1 S2 S3 : Type} {Γw : Cxt S1} {Γt : Cxt S2} {Γ3 : Cxt S3} {τ1 : Ty β} {τ2 : Ty γ} {elt : Expr} {ifs : List Expr} {scope : Scope} {fi : S → Rs (List β)} {w : S → S1} {put : S1 → β → S2} {ix : List Nat} {ft : S2 → Rs Bool} {fe : S2 → Rs γ} {put2 : S → List γ → S3}
    (own : List (Str × Nat)) (hN : A.N[i]? = some y) (hy : A.sc.names.lookup y = some .local) (hl : (py.line == p.line) = true) (hn : (scope.names.any fun (n, k) => n == y && (k == .local || k == .cell)) = false) (hk : A.sc.kind = .function)
    (hi : IB A ca tg iter Γ τ1 fi) (hb : blkC A.N A.sc scope own = true) (hw : Wp Γ (own.map (·.2)) Γw w) (hg : GX (A.blk scope) tg Γw Γt τ1 put ix) (hix : ∀ i ∈ ix, i ∈ own.map (·.2))
    (ht : PTz (A.blk scope) ca ifs Γt ft) (he : PX (A.blk scope) ca elt Γt τ2 fe) (hp2 : Put Γ i (.own none (cL τ2)) Γ3 put2) (hf : ∀ env x, foldedSetIterable iter env x = pure x := by intro _ _; rfl) :
    SX A ca (.Assign [.Name y py] (.ListComp elt [⟨tg, iter, ifs, 0⟩] scope p) pos) Γ Γ3 Γl rr (fun s => ((fi s).bind fun bs => Rs.guard (decide (bs.length ≤ sizeLine)) (lcM (fun b => nox (lcT (ft (put (w s) b)) (fe (put (w s) b)))) bs)).bind fun r => .ok (.nx (put2 s r))) := by
  obtain ⟨wi, pi, qi⟩ := hi
  obtain ⟨g, pg, qg⟩ := hg
  obtain ⟨tt, ptt, qt⟩ := ht
  obtain ⟨te, pe, qe⟩ := he
  refine ⟨tAsg (tLc wi g tt te (own.map (·.2))) (gName i), fun X hX => ?_, fun F R σ H s D ⟨Og, hs⟩ hp => ?_⟩
  · exact ps_setLc hX.calm (by rw [hX.N]; exact hX.nd) (by rw [hX.N]; exact hN) (by rw [hX.sc]; exact hy) (sw_true (by rw [hX.sc]; exact hk) (by rw [hX.sc]; exact hy) hl hn) (pi X hX) (blkOk_by (by rw [hX.N, hX.sc]; exact hb)) (fun s H C cl fp => pg _ (hX.blk scope s H C cl fp)) (fun s H C cl fp => ptt _ (hX.blk scope s H C cl fp)) (fun s H C cl fp => pe _ (hX.blk scope s H C cl fp)) (hf X.env)
  show tLc wi g tt te (own.map (·.2)) σ H fun x H1 => gName i x σ H1 D.nx
  refine lc_spec hw hix qi qg qt qe _ σ H s _ hs.sx ((Rs.post_bind hp).mono (fun r k p vs H' n sm e z q => ?_) fun _ z => z.exw hs.fr)
  exact k _ _ ((hs.loose n sm e (R' := Mn.lst A.K (cL τ2) vs r) q).storeO hp2 z (fun G z => z.2) fun G z => z.1)
theorem SX.setPcV {S1 S2 S3 : Type} {Γw : Cxt S1} {Γt : Cxt S2} {Γ3 : Cxt S3} {τ1 : Ty β} {τ2 : Ty γ} {elt : Expr} {ifs : List Expr} {scope : Scope} {fi : S → Rs (List β)} {w : S → S1} {put : S1 → β → S2} {ix : List Nat} {ft : S2 → Rs Bool} {fe : S2 → Rs γ} {put2 : S → List γ → S3}
    (own : List (Str × Nat)) (hN : A.N[i]? = some y) (hy : A.sc.names.lookup y = some .local) (hl : (py.line == p.line) = true) (hn : (scope.names.any fun (n, k) => n == y && (k == .local || k == .cell)) = false) (hk : A.sc.kind = .function)
    (hi : IB A ca tg iter Γ τ1 fi) (hb : blkC A.N A.sc scope own = true) (hw : Wp Γ (own.map (·.2)) Γw w) (hg : GX (A.blk scope) tg Γw Γt τ1 put ix) (hix : ∀ i ∈ ix, i ∈ own.map (·.2))
    (ht : PTz (A.blk scope) ca ifs Γt ft) (he : PX (A.blk scope) ca elt Γt τ2 fe) (hp2 : Put Γ i (.val (tL τ2)) Γ3 put2) (hf : ∀ env x, foldedSetIterable iter env x = pure x := by intro _ _; rfl) :
    SX A ca (.Assign [.Name y py] (.ListComp elt [⟨tg, iter, ifs, 0⟩] scope p) pos) Γ Γ3 Γl rr (fun s => ((fi s).bind fun bs => Rs.guard (decide (bs.length ≤ sizeLine)) (lcM (fun b => nox (lcT (ft (put (w s) b)) (fe (put (w s) b)))) bs)).bind fun r => .ok (.nx (put2 s r))) := by
  obtain ⟨wi, pi, qi⟩ := hi
  obtain ⟨g, pg, qg⟩ := hg
  obtain ⟨tt, ptt, qt⟩ := ht
  obtain ⟨te, pe, qe⟩ := he
  refine ⟨tAsg (tLc wi g tt te (own.map (·.2))) (gName i), fun X hX => ?_, fun F R σ H s D ⟨Og, hs⟩ hp => ?_⟩
  · exact ps_setLc hX.calm (by rw [hX.N]; exact hX.nd) (by rw [hX.N]; exact hN) (by rw [hX.sc]; exact hy) (sw_true (by rw [hX.sc]; exact hk) (by rw [hX.sc]; exact hy) hl hn) (pi X hX) (blkOk_by (by rw [hX.N, hX.sc]; exact hb)) (fun s H C cl fp => pg _ (hX.blk scope s H C cl fp)) (fun s H C cl fp => ptt _ (hX.blk scope s H C cl fp)) (fun s H C cl fp => pe _ (hX.blk scope s H C cl fp)) (hf X.env)
  show tLc wi g tt te (own.map (·.2)) σ H fun x H1 => gName i x σ H1 D.nx
  refine lc_spec hw hix qi qg qt qe _ σ H s _ hs.sx ((Rs.post_bind hp).mono (fun r k p vs H' n sm e z q => ?_) fun _ z => z.exw hs.fr)
  have h1 := (hs.loose n sm e (R' := Mn.lst A.K (cL τ2) vs r) q).tight (R' := R.and (Mn.val A.K (tL τ2) (.ref p) r)) fun G h e => ⟨h.1, p, vs, rfl, e, z, h.2⟩
  exact k _ _ (h1.store hp2 (fun G z => ⟨rfl, _, rfl, z.2⟩) fun G z => z.1)
theorem SX.setEcV {S2 S3 : Type} {Γt : Cxt S2} {Γ3 : Cxt S3} {τ1 : Ty β} {τ2 : Ty γ} {elt : Expr} {ifs : List Expr} {scope : Scope} {fi : S → Rs (List β × S')} {w : S2 → S'} {put : S' → β → S2} {ix : List Nat} {ft : S2 → Rs (Bool × S2)} {fe : S2 → Rs (γ × S2)} {put2 : S' → List γ → S3}
    (own : List (Str × Nat)) (hN : A.N[i]? = some y) (hy : A.sc.names.lookup y = some .local) (hl : (py.line == p.line) = true) (hn : (scope.names.any fun (n, k) => n == y && (k == .local || k == .cell)) = false) (hk : A.sc.kind = .function)
    (hi : EI A ca tg iter Γ Γ' τ1 fi) (hb : blkC A.N A.sc scope own = true) (hg : GX (A.blk scope) tg Γ' Γt τ1 put ix) (ht : ETz (A.blk scope) ca ifs Γt ft) (he : EX (A.blk scope) ca elt Γt Γt τ2 fe)
    (hw : Wp Γt (own.map (·.2)) Γ' w) (hany : ∀ i ∈ own.map (·.2), AnyAt Γ' i) (hix : ∀ i ∈ ix, i ∈ own.map (·.2)) (hp2 : Put Γ' i (.val (tL τ2)) Γ3 put2) (hf : ∀ env x, foldedSetIterable iter env x = pure x := by intro _ _; rfl) :
    SX A ca (.Assign [.Name y py] (.ListComp elt [⟨tg, iter, ifs, 0⟩] scope p) pos) Γ Γ3 Γl rr (fun s => ((fi s).bind fun r => Rs.guard (decide (r.1.length ≤ sizeLine)) (lcE (fun b s => nox ((ft (put s b)).bind fun r => if r.1 then (fe r.2).bind fun a => .ok (some a.1, w a.2) else .ok (none, w r.2))) r.1 r.2)).bind fun r => .ok (.nx (put2 r.2 r.1))) := by
  obtain ⟨wi, pi, qi⟩ := hi
  obtain ⟨g, pg, qg⟩ := hg
  obtain ⟨tt, ptt, qt⟩ := ht
  obtain ⟨te, pe, qe⟩ := he
  refine ⟨tAsg (tLc wi g tt te (own.map (·.2))) (gName i), fun X hX => ?_, fun F R σ H s D hs hp => ?_⟩
  · exact ps_setLc hX.calm (by rw [hX.N]; exact hX.nd) (by rw [hX.N]; exact hN) (by rw [hX.sc]; exact hy) (sw_true (by rw [hX.sc]; exact hk) (by rw [hX.sc]; exact hy) hl hn) (pi X hX) (blkOk_by (by rw [hX.N, hX.sc]; exact hb)) (fun s H C cl fp => pg _ (hX.blk scope s H C cl fp)) (fun s H C cl fp => ptt _ (hX.blk scope s H C cl fp)) (fun s H C cl fp => pe _ (hX.blk scope s H C cl fp)) (hf X.env)
  show tLc wi g tt te (own.map (·.2)) σ H fun x H1 => gName i x σ H1 D.nx
  refine elc_spec hw hany hix qi qg qt qe F [] R σ H s _ hs ((Rs.post_bind hp).mono (fun r k p vs H' hz ⟨Og, h'⟩ => ?_) fun _ z => z)
  have h1 := h'.tight (R' := R.and (Mn.val A.K (tL τ2) (.ref p) r.1)) fun G h e => ⟨h.1, p, vs, rfl, e, hz, h.2⟩
  exact k _ _ (h1.store hp2 (fun G z => ⟨rfl, _, rfl, z.2⟩) fun G z => z.1)
/-! ### a list of fixed places is written -/
structure Tst {α β : Type} (ts : Tys α) (i : Nat) (τ : Ty β) (u : α → β → α) : Prop where
  to : ∀ {K : PySem.W.Frag} {H : Hp} {vs : List V} {a : α} {v : V} {b : β}, ts.rep K H vs a → τ.rep K H v b → ts.rep K H (vs.set i v) (u a b)
theorem Tst.o : Tst (.one τ) 0 τ (fun _ b => b) := ⟨fun h r => by obtain ⟨w, rfl, _⟩ := h; exact ⟨_, rfl, r⟩⟩
theorem Tst.z {ts : Tys β} : Tst (.cons τ ts) 0 τ (fun a b => (b, a.2)) := ⟨fun h r => by obtain ⟨w, q, rfl, h1, h2⟩ := h; exact ⟨_, q, rfl, r, h2⟩⟩
theorem Tst.s {ts : Tys β} {i : Nat} {τ' : Ty γ} {u : β → γ → β} (h : Tst ts i τ' u) : Tst (.cons τ ts) (i + 1) τ' (fun a b => (a.1, u a.2 b)) := ⟨fun h' r => by obtain ⟨w, q, rfl, h1, h2⟩ := h'; exact ⟨_, _, rfl, h1, h.to h2 r⟩⟩
theorem SX.setR {w : Option Addr} {ts : Tys γ} {f : S → Rs (α × S')} {g : S' → γ} {put : S' → γ → S''} {u : γ → α → γ} {n : Nat} {j : Int} {xp xp2 : Pos} (he : EX A ca e Γ Γ' τ f) (hw : Wr Γ' i w (cR ts) g (cR ts) Γ'' put) (hN : A.N[i]? = some x) (hv : Vis A.sc x) (hu : Tst ts n τ u) (hj : ixN ts.len j = some n) (hix : PX A ca b Γ' tI (fun _ => .ok j))
    (hs : ∀ env, swapsWithSole [.Subscript (.Name x xp) b xp2] e pos.line env = pure false := by intro _; rfl) (hw2 : ∀ X, A.In X → swappedStores [.Subscript (.Name x xp) b xp2] e X.env = pure none := by intro _ _; rfl)
    (hd : (x == ("__debug__" : Str)) = false := by decide) (hcd : (x == ("__classdict__" : Str)) = false := by decide)
    (hsub : ∀ env v, assign (.Subscript (.Name x xp) b xp2) env v = (do let ov ← holding [v] (eval (.Name x xp) env); let iv ← holding [v, ov] (eval b env); standAt xp2; holding [v, ov, iv] (setItem ov iv v); release [v, ov, iv] []) := by intro _ _; rfl) :
    SX A ca (.Assign [.Subscript (.Name x xp) b xp2] e pos) Γ Γ'' Γl rr (fun s => (f s).bind fun r => .ok (.nx (put r.2 (u (g r.2) r.1)))) := by
  obtain ⟨t, ht, q⟩ := he
  obtain ⟨ti, hti, qi⟩ := hix
  refine ⟨_, fun X hX => ps_asg (ht X hX) (pg_sub (pe_var (i := i) (by rw [hX.N]; exact hN) (by rw [hX.sc]; exact hv) hd hcd) (hti X hX) set_list (hsub X.env)) (hs X.env) (hw2 X hX) (by rw [assign_each rfl]; rfl), fun F R σ H s D h0 hp => q F [] R σ H s _ h0 ((Rs.post_bind hp).mono (fun r k v H' ⟨Og, h'⟩ => ?_) fun _ z => z)⟩
  obtain ⟨l, vs, e0, e1, _, _, _, e3, z3, r3, _⟩ := h'.write hw
  refine ⟨.ref l, e1, qi _ σ H' r.2 _ h'.sx (fun uu H2 s2 ru => ?_)⟩
  have h2 := h'.grow s2
  obtain ⟨l2, vs2, _, e12, e22, _, _, e32, z32, r32, hwr⟩ := h2.write hw
  have : l2 = l := by rw [e1] at e12; simpa using e12.symm
  subst this
  refine ⟨l2, vs2, j, n, rfl, ru, e32, by rw [ts.length r32]; exact hj, k _ _ ⟨Og, ?_⟩⟩
  have h3 := hwr (vs2.set n v) (u (g r.2) r.1) _ (by rw [List.length_set]; exact z32) (fun p o hp e => by rw [upd_ne hp]; exact e) upd_same (by
    rw [cut_upd e22]
    exact hu.to r32 (τ.mono (cut_grow s2) h'.rs.2))
  exact h3.with (R.mono (by rw [cut_upd e22]; exact cut_grow s2) h'.rs.1)
end
/-! ### defs -/
/-- slots without a value -/
structure Anys (m : Nat) {S : Type} (Γ : Cxt S) (z : S) : Prop where
  rep : ∀ {K : PySem.W.Frag} {G H : Hp}, Γ.rep K G H (List.replicate m none) [] z
theorem Anys.nil : Anys 0 .nil () := ⟨⟨rfl, rfl⟩⟩
theorem Anys.s {m : Nat} {S : Type} {Γ : Cxt S} {z : S} (h : Anys m Γ z) : Anys (m + 1) (.cons .any Γ) ((), z) := ⟨⟨none, _, [], [], rfl, rfl, rfl, h.rep⟩⟩
/-- the parameters, then slots without a value -/
structure Ini {U S : Type} (ts : Tys U) (m : Nat) (Γ : Cxt S) (ini : U → S) : Prop where
  rep : ∀ {K : PySem.W.Frag} {G H : Hp} {vs : List V} {u : U}, ts.rep K G vs u → Γ.rep K G H (vs.map some ++ List.replicate m none) [] (ini u)
theorem Ini.nil {m : Nat} {S : Type} {Γ : Cxt S} {z : S} (h : Anys m Γ z) : Ini .nil m Γ (fun _ => z) := ⟨fun {K G H vs u} r => by
  have e : vs = [] := r
  subst e; exact h.rep⟩
theorem Ini.one {m : Nat} {S α : Type} {τ : Ty α} {Γ : Cxt S} {z : S} (h : Anys m Γ z) : Ini (.one τ) m (.cons (.val τ) Γ) (fun a => (a, z)) := ⟨fun {K G H vs u} r => by
  obtain ⟨v, rfl, r⟩ := r
  exact ⟨some v, _, [], [], rfl, rfl, ⟨rfl, v, rfl, r⟩, h.rep⟩⟩
theorem Ini.cons {m : Nat} {S α U : Type} {τ : Ty α} {ts : Tys U} {Γ : Cxt S} {ini : U → S} (h : Ini ts m Γ ini) : Ini (.cons τ ts) m (.cons (.val τ) Γ) (fun u => (u.1, ini u.2)) := ⟨fun {K G H vs u} r => by
  obtain ⟨v, w, rfl, r1, r2⟩ := r
  exact ⟨some v, _, [], [], rfl, rfl, ⟨rfl, v, rfl, r1⟩, h.rep r2⟩⟩
/-- what a body hands back; at its end it hands back None -/
def endM {ρ S : Type} (dn : S → Rs ρ) : Fl ρ S Unit → Rs ρ
  | .rt r => .ok r
  | .nx s => dn s
  | _ => .bad
section
variable {P : Program} {w : World} {K : PySem.W.Frag} {mg : Str → Option Value} {base : Heap}
/-- the context of a def's body -/
abbrev ambOf (P : Program) (w : World) (K : PySem.W.Frag) (mg : Str → Option Value) (base : Heap) (N : List Str) (st : Stmt) (k : Nat) (E : XK) : Amb := ⟨P, w, K, mg, base, N, defScope st, E, k, fun _ => true⟩
theorem amb_in {x qual : Str} {st : Stmt} {f : Addr} {fd : FuncData} {N ps : List Str} {k : Nat} (S : FnScope N ps (defScope st)) {cdv : Value} {A : Around} {outer : List Env} {s : Shared} {H : Hp} {E : XK} (hr : Room k (A.deeper (envOfC qual (defScope st) s.heap.objs.size f cdv))) :
    (ambOf P w K mg base N st k E).In (cxOf (L2.CX P w) P w K mg base N qual (defScope st) f cdv A outer s H E) := by
  have tk : Takes (cxOf (L2.CX P w) P w K mg base N qual (defScope st) f cdv A outer s H E) (fun c d _ H => E c d H) := takes_of rfl rfl rfl rfl
  exact ⟨rfl, rfl, rfl, rfl, rfl, rfl, rfl, rfl, S.nd, rfl, hr, passes_call tk (fun _ _ _ _ h => h), passes_of rfl, tk, fun _ => ⟨rfl, rfl⟩⟩
/-- a def from its body -/
theorem fn_mk {x qual : Str} {st : Stmt} {f : Addr} {fd : FuncData} {N ps : List Str} {k m : Nat} {U S S' β : Type} {ts : Tys U} {τ : Ty β} {Γ : Cxt S} {Γ' : Cxt S'} {ini : U → S} {body : S → Rs (Fl β S' Unit)} {dn : S' → Rs β}
    (F : Fun K x qual st f fd) (Sc : FnScope N ps (defScope st)) (hI : Ini ts m Γ ini) (hl : ts.len = ps.length) (hm : N.length = ts.len + m)
    (hb : ∀ E : XK, SXs (ambOf P w K mg base N st k E) ca (defBody st) Γ Γ' .nil (rVal K τ) body) (hd : ∀ s, (dn s).Post (fun b => ∀ H, τ.rep K H .non b) (fun _ => False) ∨ dn s = .bad := by intro _; exact .inr rfl) :
    FnOk P w K mg base (L2.CX P w) (k + 1) f fd ps (spOf K ca ts τ (fun u => (body (ini u)).bind (endM dn))) := by
  refine F.okX Sc (fun vs H Q E h => ?_) (fun cdv A outer s H vs Q E hr h => ?_)
  · obtain ⟨O, u, _, r, _⟩ := h
    rw [ts.length r, hl]
  · obtain ⟨O, u, hO, r, hp⟩ := h
    obtain ⟨t, ht, q⟩ := hb E
    refine ⟨t, ht _ (amb_in (x := x) (fd := fd) Sc hr), q ⟨H, O, []⟩ Mn.top _ H (ini u) _ ⟨[], ?_⟩ ((Rs.post_bind hp).mono (fun fl k => ?_) fun c z d H' hf => z d H' fun b o e => hf b o e (by simp))⟩
    · have hc : hid ⟨H, O, []⟩ [] [] = O := by simp [hid]
      refine ⟨?_, trivial, by simp, fun p hp => by simp at hp, fun x hx => by simp at hx, fun b o e _ => e, fun p hp => ⟨hO p hp, by simp⟩, fun p hp => by simp at hp⟩
      have hs : L2.start N vs = vs.map some ++ List.replicate m none := by
        unfold L2.start
        rw [ts.length r, hm, Nat.add_sub_cancel_left]
      rw [hs]
      show Γ.rep K (cut H (hid ⟨H, O, []⟩ [] [])) H _ [] _
      rw [hc]
      exact hI.rep r
    · cases fl with
      | rt r =>
        intro v H' hv
        exact k v H' (fun b o e => hv.1 b o e (by simp)) hv.2
      | nx s' =>
        intro σ' H' h'
        rcases hd s' with h1 | h1
        · have k : (dn s').Post _ _ := k
          cases e : dn s' with
          | ok b =>
            rw [e] at h1 k
            exact k .non H' (fun b o e => h'.fr b o e (by simp)) (h1 _)
          | exc c => rw [e] at h1; exact h1.elim
          | bad => rw [e] at h1; exact h1.elim
        · have k : (dn s').Post _ _ := k
          rw [h1] at k; exact k.elim
      | bk s' => exact k.elim
      | ct s' => exact k.elim
/-- a def that may write its first argument -/
structure IniO {γ U S : Type} (q : Addr) (c : Ct γ) (ts : Tys U) (m : Nat) (Γ : Cxt S) (ini : γ × U → S) : Prop where
  rep : ∀ {K : PySem.W.Frag} {G H : Hp} {xs vs : List V} {a : γ} {u : U}, H q = some (.lst xs) → xs.length ≤ sizeLine → c.rep K G xs a → ts.rep K G vs u → Γ.rep K G H (some (.ref q) :: (vs.map some ++ List.replicate m none)) [q] (ini (a, u))
theorem IniO.mk' {γ U S : Type} {q : Addr} {c : Ct γ} {ts : Tys U} {m : Nat} {Γ : Cxt S} {ini : U → S} (h : Ini ts m Γ ini) : IniO q c ts m (.cons (.own (some q) c) Γ) (fun u => (u.1, ini u.2)) := ⟨fun {K G H xs vs a u} e z r1 r2 => ⟨_, _, [q], [], rfl, rfl, ⟨q, xs, (fun z h => Option.some.inj h), rfl, rfl, e, z, r1⟩, h.rep r2⟩⟩
theorem fnIO_mk {x qual : Str} {st : Stmt} {f : Addr} {fd : FuncData} {N ps : List Str} {k m : Nat} {γ U S S' β : Type} {c : Ct γ} {ts : Tys U} {τ : Ty β} {Γ : Addr → Cxt S} {Γ' : Addr → Cxt S'} {ini : γ × U → S} {body : S → Rs (Fl (β × γ) S' Unit)}
    (F : Fun K x qual st f fd) (Sc : FnScope N ps (defScope st)) (hI : ∀ q, IniO q c ts m (Γ q) ini) (hl : ts.len + 1 = ps.length) (hm : N.length = ts.len + 1 + m)
    (hb : ∀ (E : XK) (q : Addr), SXs (ambOf P w K mg base N st k E) ca (defBody st) (Γ q) (Γ' q) .nil (rIO K q c τ) body) :
    FnOk P w K mg base (L2.CX P w) (k + 1) f fd ps (spIO K ca c ts τ (fun u => (body (ini u)).bind (endM fun _ => .bad))) := by
  refine F.okX Sc (fun vs H Q E h => ?_) (fun cdv A outer s H vs Q E hr h => ?_)
  · obtain ⟨B, q, xs, us, a, u, rfl, _, _, _, _, _, r, _⟩ := h
    rw [List.length_cons, ts.length r, hl]
  · obtain ⟨B, q, xs, us, a, u, rfl, eq, zq, nq, hB, rc, r, hp⟩ := h
    obtain ⟨t, ht, qq⟩ := hb E q
    have mem : ∀ H : Hp, cut H (q :: B) = cut H (B ++ [q]) := fun H => by
      funext b
      by_cases hb : b ∈ B ++ [q]
      · rw [cut_in hb, cut_in (by simp at hb ⊢; rcases hb with h | h; exact .inr h; exact .inl h)]
      · rw [cut_out hb, cut_out (by simp at hb ⊢; exact ⟨hb.2, hb.1⟩)]
    refine ⟨t, ht _ (amb_in (x := x) (fd := fd) Sc hr), qq ⟨H, B, [q]⟩ Mn.top _ H (ini (a, u)) _ ⟨[q], ?_⟩ ((Rs.post_bind hp).mono (fun fl k => ?_) fun c z d H' hf => z d H' fun p o hpq e => hf p o e (by simp [hpq]))⟩
    · have hc : hid ⟨H, B, [q]⟩ [] [q] = B ++ [q] := by simp [hid]
      refine ⟨?_, trivial, by simp, fun p hp => ?_, fun x hx => by simp at hx, fun b o e _ => e, fun p hp => ⟨hB p hp, ?_⟩, fun p hp => ?_⟩
      · have hs : L2.start N (.ref q :: us) = some (.ref q) :: (us.map some ++ List.replicate m none) := by
          unfold L2.start
          rw [List.length_cons, ts.length r, hm, Nat.add_sub_cancel_left]
          rfl
        rw [hs]
        show (Γ q).rep K (cut H (hid ⟨H, B, [q]⟩ [] [q])) H _ [q] _
        rw [hc, ← mem]
        exact (hI q).rep eq zq rc r
      · have : p = q := by simpa using hp
        subst this
        exact ⟨.inr (by simp), nq, Hidn.lst eq⟩
      · simp only [List.mem_singleton]; exact fun e => nq (by rw [← e]; exact hp)
      · have : p = q := by simpa using hp
        subst this; exact Hidn.lst eq
    · cases fl with
      | rt r =>
        intro v H' hv
        obtain ⟨h1, ys, e1, z1, c1, t1⟩ := hv rfl
        exact k v H' ys (fun p o hpq e => h1 p o e (by simp [hpq])) e1 z1 c1 t1
      | nx s' => exact k.elim
      | bk s' => exact k.elim
      | ct s' => exact k.elim
end
end TL
/-! TL9: widening, data: ==, in; isinstance; sorted pairs; more of lists. -/
namespace TL
open PySem PySem.Spec PyProof.Rows L2
variable {A : Amb} {ca : Nat → Addr}
section
variable {ρ S S' S'' L α β γ U : Type} {Γ : Cxt S} {Γ' : Cxt S'} {Γ'' : Cxt S''} {Γl : Cxt L} {rr : Rr ρ} {τ : Ty α} {τ' : Ty β} {c : Ct α} {e a b d tg iter : Expr} {pos p p2 p3 p4 py : Pos} {x y : Str} {st : Stmt} {sts : List Stmt} {i : Nat}
/-! ### widening -/
theorem Tc.id : Tc τ τ (fun a => a) := ⟨fun h => h⟩
theorem Tc.some : Tc τ (tO τ) (fun a => Option.some a) := ⟨fun h => h⟩
theorem Tc.none : Tc tN (tO τ) (fun _ => Option.none) := ⟨fun h => h⟩
theorem Tc.opt {g : α → β} (h : Tc τ τ' g) : Tc (tO τ) (tO τ') (fun o => o.map g) := ⟨fun {K H v o} r => by
  cases o with
  | none => exact r
  | some a => exact h.to (K := K) (H := H) r⟩
theorem Paired.co {K : PySem.W.Frag} {H : Hp} {g : α → β} (h : Tc τ τ' g) {vs : List V} {as : List α} (r : Paired (τ.rep K H) vs as) : Paired (τ'.rep K H) vs (as.map g) := by
  induction r with
  | nil => exact .nil
  | cons r _ ih => exact .cons (h.to r) ih
theorem Tc.lst {g : α → β} (h : Tc τ τ' g) : Tc (tL τ) (tL τ') (fun l => l.map g) := ⟨fun {K H v o} r => by
  obtain ⟨p, vs, e, q, z, r⟩ := r
  exact ⟨p, vs, e, q, z, Paired.co h r⟩⟩
theorem Tc.tpl {g : α → β} (h : Tc τ τ' g) : Tc (tT τ) (tT τ') (fun l => l.map g) := ⟨fun {K H v o} r => by
  obtain ⟨p, vs, e, q, z, r⟩ := r
  exact ⟨p, vs, e, q, z, Paired.co h r⟩⟩
structure Tcs (ts : Tys α) (us : Tys β) (g : α → β) : Prop where
  to : ∀ {K : PySem.W.Frag} {H : Hp} {v : List V} {a : α}, ts.rep K H v a → us.rep K H v (g a)
theorem Tcs.one {g : α → β} (h : Tc τ τ' g) : Tcs (.one τ) (.one τ') g := ⟨fun r => by obtain ⟨v, e, r⟩ := r; exact ⟨v, e, h.to r⟩⟩
theorem Tcs.cons {δ ε : Type} {ts : Tys δ} {us : Tys ε} {g : α → β} {f : δ → ε} (h : Tc τ τ' g) (h' : Tcs ts us f) : Tcs (.cons τ ts) (.cons τ' us) (fun a => (g a.1, f a.2)) := ⟨fun r => by obtain ⟨v, w, e, r1, r2⟩ := r; exact ⟨v, w, e, h.to r1, h'.to r2⟩⟩
theorem Tc.tup {ts : Tys α} {us : Tys β} {g : α → β} (h : Tcs ts us g) : Tc (tTup ts) (tTup us) g := ⟨fun {K H v o} r => by
  obtain ⟨p, vs, e, q, r⟩ := r
  exact ⟨p, vs, e, q, h.to r⟩⟩
theorem Tc.lup {ts : Tys α} {us : Tys β} {g : α → β} (h : Tcs ts us g) : Tc (tLup ts) (tLup us) g := ⟨fun {K H v o} r => by
  obtain ⟨p, vs, e, q, z, r⟩ := r
  exact ⟨p, vs, e, q, z, h.to r⟩⟩
/-- a list of fixed places as a value, and back -/
theorem Tc.cR {ts : Tys α} : Tc (Ct.ty (cR ts)) (tLup ts) (fun a => a) := ⟨fun h => h⟩
/-- it is not None here -/
theorem PX.unw {f : S → Rs (Option α)} (h : PX A ca e Γ (tO τ) f) : PX A ca e Γ τ (fun s => (f s).bind Rs.ofOpt) := by
  obtain ⟨t, ht, q⟩ := h
  refine ⟨t, ht, fun O σ H s Q hs hp => q O σ H s Q hs ((Rs.post_bind hp).mono (fun o k v H' sm r => ?_) fun _ z => z)⟩
  obtain ⟨y, rfl, k⟩ := Rs.post_ofOpt k
  exact k v H' sm r
theorem EX.unw {f : S → Rs (Option α × S')} (h : EX A ca e Γ Γ' (tO τ) f) : EX A ca e Γ Γ' τ (fun s => (f s).bind fun r => (Rs.ofOpt r.1).bind fun a => .ok (a, r.2)) := by
  obtain ⟨t, ht, q⟩ := h
  refine ⟨t, ht, fun F L R σ H s Q hs hp => q F L R σ H s _ hs ((Rs.post_bind hp).mono (fun r k v H' h' => ?_) fun _ z => z)⟩
  obtain ⟨o, s'⟩ := r
  obtain ⟨y, ey, k⟩ := Rs.post_ofOpt (Rs.post_bind k)
  cases ey
  exact k v H' h'
/-! ### data -/
structure Enc {α : Type} (τ : Ty α) (enc : α → PyData) (n : Nat) : Prop where
  to : ∀ {K : PySem.W.Frag} {H : Hp} {v : V} {a : α}, τ.rep K H v a → Dp K H v (enc a)
  lay : ∀ a, (enc a).canLay0 = true
  dep : ∀ a, (enc a).depth ≤ n
  inj : ∀ a b, PyData.eqv (enc a) (enc b) = true ↔ a = b
/-- .. and none of it is None -/
structure EncN {α : Type} (τ : Ty α) (enc : α → PyData) (n : Nat) : Prop extends Enc τ enc n where
  nn : ∀ a, PyData.eqv .none (enc a) = false ∧ PyData.eqv (enc a) .none = false
theorem EncN.int : EncN tI PyData.int 0 := ⟨⟨fun h => by rw [show _ = V.int _ from h]; exact .int _, fun _ => by simp [PyData.canLay0], fun _ => by simp [PyData.depth], fun a b => by simp [PyData.eqv]⟩, fun a => ⟨rfl, rfl⟩⟩
theorem EncN.bool : EncN tB PyData.bool 0 := ⟨⟨fun h => by rw [show _ = V.bl _ from h]; exact .bl _, fun _ => by simp [PyData.canLay0], fun _ => by simp [PyData.depth], fun a b => by simp [PyData.eqv]⟩, fun a => ⟨rfl, rfl⟩⟩
def encO (enc : α → PyData) : Option α → PyData
  | none => .none
  | some a => enc a
theorem Enc.opt {enc : α → PyData} {n : Nat} (h : EncN τ enc n) : Enc (tO τ) (encO enc) n := by
  refine ⟨fun {K H v o} r => ?_, fun o => ?_, fun o => ?_, fun a b => ?_⟩
  · cases o with
    | none => rw [show v = .non from r]; exact .non
    | some a => exact h.to r
  · cases o with
    | none => rfl
    | some a => exact h.lay a
  · cases o with
    | none => exact Nat.zero_le _
    | some a => exact h.dep a
  · cases a with
    | none =>
      cases b with
      | none => simp [encO, PyData.eqv]
      | some b => simp [encO, (h.nn b).1]
    | some a =>
      cases b with
      | none => simp [encO, (h.nn a).2]
      | some b => simp [encO, h.inj a b]
theorem Enc.dps {enc : α → PyData} {n : Nat} (h : Enc τ enc n) {K : PySem.W.Frag} {H : Hp} {vs : List V} {as : List α} (r : Paired (τ.rep K H) vs as) : DpAll K H vs (as.map enc) := by
  induction r with
  | nil => exact .nil
  | cons r _ ih => exact .cons (h.to r) ih
theorem Enc.lays {enc : α → PyData} {n : Nat} (h : Enc τ enc n) : ∀ as : List α, PyData.canLayAll0 (as.map enc) = true
  | [] => rfl
  | a :: r => by rw [List.map_cons]; simp [PyData.canLayAll0, h.lay a, Enc.lays h r]
theorem Enc.deps {enc : α → PyData} {n : Nat} (h : Enc τ enc n) : ∀ as : List α, PyData.depthAll (as.map enc) ≤ n
  | [] => Nat.zero_le _
  | a :: r => by
    rw [List.map_cons]
    show max _ _ ≤ n
    exact Nat.max_le.mpr ⟨h.dep a, Enc.deps h r⟩
theorem Enc.injs {enc : α → PyData} {n : Nat} (h : Enc τ enc n) : ∀ as bs : List α, PyData.eqvAll (as.map enc) (bs.map enc) = true ↔ as = bs
  | [], [] => by simp [PyData.eqvAll]
  | a :: r, [] => by simp [PyData.eqvAll]
  | [], b :: r => by simp [PyData.eqvAll]
  | a :: r, b :: q => by simp [PyData.eqvAll, h.inj a b, Enc.injs h r q]
theorem EncN.lst {enc : α → PyData} {n : Nat} (h : Enc τ enc n) : EncN (tL τ) (fun as => .list (as.map enc)) (n + 1) :=
  ⟨⟨fun r => by obtain ⟨p, vs, rfl, e, z, r⟩ := r; exact .lst (.inl (.inl e)) (h.dps r), fun as => by simp [PyData.canLay0, h.lays as], fun as => by show _ + 1 ≤ _; exact Nat.succ_le_succ (h.deps as), fun a b => by simp [PyData.eqv, h.injs a b]⟩, fun a => ⟨rfl, rfl⟩⟩
theorem EncN.tpl {enc : α → PyData} {n : Nat} (h : Enc τ enc n) : EncN (tT τ) (fun as => .tuple (as.map enc)) (n + 1) :=
  ⟨⟨fun r => by obtain ⟨p, vs, rfl, e, z, r⟩ := r; exact .tup (.inl (.inl e)) (h.dps r), fun as => by simp [PyData.canLay0, h.lays as], fun as => by show _ + 1 ≤ _; exact Nat.succ_le_succ (h.deps as), fun a b => by simp [PyData.eqv, h.injs a b]⟩, fun a => ⟨rfl, rfl⟩⟩
structure EncS {α : Type} (ts : Tys α) (enc : α → List PyData) (n : Nat) : Prop where
  to : ∀ {K : PySem.W.Frag} {H : Hp} {vs : List V} {a : α}, ts.rep K H vs a → DpAll K H vs (enc a)
  lay : ∀ a, PyData.canLayAll0 (enc a) = true
  dep : ∀ a, PyData.depthAll (enc a) ≤ n
  inj : ∀ a b, PyData.eqvAll (enc a) (enc b) = true ↔ a = b
theorem EncS.one {enc : α → PyData} {n : Nat} (h : Enc τ enc n) : EncS (.one τ) (fun a => [enc a]) n :=
  ⟨fun r => by obtain ⟨v, rfl, r⟩ := r; exact .cons (h.to r) .nil, fun a => by simp [PyData.canLayAll0, h.lay a], fun a => by show max _ _ ≤ n; exact Nat.max_le.mpr ⟨h.dep a, Nat.zero_le _⟩, fun a b => by simp [PyData.eqvAll, h.inj a b]⟩
theorem EncS.cons {ts : Tys β} {enc : α → PyData} {encs : β → List PyData} {n m : Nat} (h : Enc τ enc n) (h' : EncS ts encs m) : EncS (.cons τ ts) (fun a => enc a.1 :: encs a.2) (max n m) :=
  ⟨fun r => by obtain ⟨v, w, rfl, r1, r2⟩ := r; exact .cons (h.to r1) (h'.to r2), fun a => by simp [PyData.canLayAll0, h.lay a.1, h'.lay a.2], fun a => by show max _ _ ≤ _; exact Nat.max_le.mpr ⟨Nat.le_trans (h.dep a.1) (Nat.le_max_left _ _), Nat.le_trans (h'.dep a.2) (Nat.le_max_right _ _)⟩, fun a b => by
    simp only [PyData.eqvAll, Bool.and_eq_true, h.inj, h'.inj]
    exact ⟨fun ⟨h1, h2⟩ => Prod.ext h1 h2, fun h => by rw [h]; exact ⟨rfl, rfl⟩⟩⟩
theorem EncN.tup {ts : Tys α} {encs : α → List PyData} {n : Nat} (h : EncS ts encs n) : EncN (tTup ts) (fun a => .tuple (encs a)) (n + 1) :=
  ⟨⟨fun r => by obtain ⟨p, vs, rfl, e, r⟩ := r; exact .tup (.inl (.inl e)) (h.to r), fun a => by simp [PyData.canLay0, h.lay a], fun a => by show _ + 1 ≤ _; exact Nat.succ_le_succ (h.dep a), fun a b => by simp [PyData.eqv, h.inj a b]⟩, fun a => ⟨rfl, rfl⟩⟩
theorem EncN.lup {ts : Tys α} {encs : α → List PyData} {n : Nat} (h : EncS ts encs n) : EncN (tLup ts) (fun a => .list (encs a)) (n + 1) :=
  ⟨⟨fun r => by obtain ⟨p, vs, rfl, e, z, r⟩ := r; exact .lst (.inl (.inl e)) (h.to r), fun a => by simp [PyData.canLay0, h.lay a], fun a => by show _ + 1 ≤ _; exact Nat.succ_le_succ (h.dep a), fun a b => by simp [PyData.eqv, h.inj a b]⟩, fun a => ⟨rfl, rfl⟩⟩
theorem Enc.shaped {enc : α → PyData} {n : Nat} (h : Enc τ enc n) (hn : n ≤ 64) (a : α) : SeqAt.shaped (enc a) = true := by
  unfold SeqAt.shaped
  rw [h.lay a, Bool.true_and]
  exact decide_eq_true (Nat.le_trans (h.dep a) hn)
theorem Enc.dec [DecidableEq α] {enc : α → PyData} {n : Nat} (h : Enc τ enc n) (a b : α) : PyData.eqv (enc a) (enc b) = decide (a = b) := by
  by_cases q : a = b
  · rw [decide_eq_true q]; exact (h.inj a b).mpr q
  · rw [decide_eq_false q]
    cases e : PyData.eqv (enc a) (enc b) with
    | false => rfl
    | true => exact absurd ((h.inj a b).mp e) q
theorem Dp.mono' {K : PySem.W.Frag} {H H' : Hp} (s : Same H H') : ∀ {v : V} {d : PyData}, Dp K H v d → Dp K H' v d
  | _, _, .non => .non
  | _, _, .bl b => .bl b
  | _, _, .int i => .int i
  | _, _, .str x => .str x
  | _, _, .lst h r => .lst (s.seq h) (Dps r)
  | _, _, .tup h r => .tup (Same.sqT s h) (Dps r)
where Dps : ∀ {vs : List V} {ds : List PyData}, DpAll K H vs ds → DpAll K H' vs ds
  | _, _, .nil => .nil
  | _, _, .cons h r => .cons (Dp.mono' s h) (Dps r)
variable [DecidableEq α]
theorem PX.eqD {enc : α → PyData} {n : Nat} {f g : S → Rs α} (h : Enc τ enc n) (ha : PX A ca a Γ τ f) (hb : PX A ca b Γ τ g) (hn : n ≤ 64 := by decide) : PX A ca (.Compare a [.Eq] [b] pos) Γ tB (fun s => (f s).bind fun x => (g s).bind fun y => .ok (decide (x = y))) := by
  obtain ⟨ta, pa, qa⟩ := ha
  obtain ⟨tb, pb, qb⟩ := hb
  refine ⟨tOp (rEqD A.K) ta tb, fun X hX => by rw [← hX.K]; exact pe_cmpR (op_eqD hX.room.units) (pa X hX) (pb X hX) (nomark _), fun O σ H s Q hs hp => PX.two qa qb hs hp fun x y v u H2 sm r1 r2 k => ?_⟩
  refine ⟨enc x, enc y, Dp.mono' cut_le (h.to r1), Dp.mono' cut_le (h.to r2), h.shaped hn x, h.shaped hn y, ?_⟩
  rw [h.dec]; exact k _ H2 sm rfl
theorem PX.neD {enc : α → PyData} {n : Nat} {f g : S → Rs α} (h : Enc τ enc n) (ha : PX A ca a Γ τ f) (hb : PX A ca b Γ τ g) (hn : n ≤ 64 := by decide) : PX A ca (.Compare a [.NotEq] [b] pos) Γ tB (fun s => (f s).bind fun x => (g s).bind fun y => .ok (!decide (x = y))) := by
  obtain ⟨ta, pa, qa⟩ := ha
  obtain ⟨tb, pb, qb⟩ := hb
  refine ⟨tOp (rNeD A.K) ta tb, fun X hX => by rw [← hX.K]; exact pe_cmpR (op_neD hX.room.units) (pa X hX) (pb X hX) (nomark _), fun O σ H s Q hs hp => PX.two qa qb hs hp fun x y v u H2 sm r1 r2 k => ?_⟩
  refine ⟨enc x, enc y, Dp.mono' cut_le (h.to r1), Dp.mono' cut_le (h.to r2), h.shaped hn x, h.shaped hn y, ?_⟩
  rw [h.dec]; exact k _ H2 sm rfl
theorem PB.eqD {enc : α → PyData} {n : Nat} {f g : S → Rs α} (h : Enc τ enc n) (ha : PX A ca a Γ τ f) (hb : PX A ca b Γ τ g) (hn : n ≤ 64 := by decide) : PB A ca (.Compare a [.Eq] [b] pos) Γ (fun s => (f s).bind fun x => (g s).bind fun y => .ok (decide (x = y))) := by
  obtain ⟨ta, pa, qa⟩ := ha
  obtain ⟨tb, pb, qb⟩ := hb
  refine ⟨tTest (tOp (rEqD A.K) ta tb), fun X hX => by rw [← hX.K]; exact pt_cmpR (op_eqD hX.room.units) (pa X hX) (pb X hX) (nomark _), fun O σ H s Q hs hp => PX.two qa qb hs hp fun x y v u H2 sm r1 r2 k => ?_⟩
  refine ⟨enc x, enc y, Dp.mono' cut_le (h.to r1), Dp.mono' cut_le (h.to r2), h.shaped hn x, h.shaped hn y, _, rfl, ?_⟩
  rw [h.dec]; exact k H2 sm
theorem PB.neD {enc : α → PyData} {n : Nat} {f g : S → Rs α} (h : Enc τ enc n) (ha : PX A ca a Γ τ f) (hb : PX A ca b Γ τ g) (hn : n ≤ 64 := by decide) : PB A ca (.Compare a [.NotEq] [b] pos) Γ (fun s => (f s).bind fun x => (g s).bind fun y => .ok (!decide (x = y))) := by
  obtain ⟨ta, pa, qa⟩ := ha
  obtain ⟨tb, pb, qb⟩ := hb
  refine ⟨tTest (tOp (rNeD A.K) ta tb), fun X hX => by rw [← hX.K]; exact pt_cmpR (op_neD hX.room.units) (pa X hX) (pb X hX) (nomark _), fun O σ H s Q hs hp => PX.two qa qb hs hp fun x y v u H2 sm r1 r2 k => ?_⟩
  refine ⟨enc x, enc y, Dp.mono' cut_le (h.to r1), Dp.mono' cut_le (h.to r2), h.shaped hn x, h.shaped hn y, _, rfl, ?_⟩
  rw [h.dec]; exact k H2 sm
/-! ### in -/
theorem anyD {enc : α → PyData} {n : Nat} (h : Enc τ enc n) (x : α) : ∀ as : List α, ((as.map enc).any fun z => PyData.eqv z (enc x)) = decide (x ∈ as)
  | [] => by simp
  | a :: r => by
    rw [List.map_cons, List.any_cons, anyD h x r, h.dec]
    by_cases q : a = x
    · simp [q]
    · have q' : ¬ x = a := fun e => q e.symm
      simp [q, q']
theorem PB.inL {enc : α → PyData} {n : Nat} {f : S → Rs α} {g : S → Rs (List α)} (h : Enc τ enc n) (ha : PX A ca a Γ τ f) (hb : BX A ca b Γ (cL τ) g) (hm : behindInMarks .In b = false := by rfl) (hn : n + 1 ≤ 64 := by decide) : PB A ca (.Compare a [.In] [b] pos) Γ (fun s => (f s).bind fun x => (g s).bind fun ys => .ok (decide (x ∈ ys))) := by
  obtain ⟨ta, pa, qa⟩ := ha
  obtain ⟨tb, pb, qb⟩ := hb
  refine ⟨tTest (tOp (rInD A.K) ta tb), fun X hX => by rw [← hX.K]; exact pt_cmpR (op_inD (by have := hX.room.un; omega)) (pa X hX) (pb X hX) hm, fun O σ H s Q hs hp => ?_⟩
  refine qa O σ H s _ hs ((Rs.post_bind hp).mono (fun x k v H1 s1 r => ?_) fun _ z => z)
  refine qb O σ H1 s _ (hs.grow s1) ((Rs.post_bind k).mono (fun ys k p vs H2 s2 e2 z2 r2 => ?_) fun _ z => z.grow s1)
  refine ⟨enc x, ys.map enc, Dp.mono' (cut_le.trans s2) (h.to r), .lst (.inl (.inl e2)) (Dp.mono'.Dps cut_le (h.dps r2)), h.shaped (Nat.le_of_succ_le hn) x, (EncN.lst h).shaped hn ys, _, rfl, ?_⟩
  rw [anyD h]; exact k H2 (s1.trans s2)
theorem PB.notInL {enc : α → PyData} {n : Nat} {f : S → Rs α} {g : S → Rs (List α)} (h : Enc τ enc n) (ha : PX A ca a Γ τ f) (hb : BX A ca b Γ (cL τ) g) (hm : behindInMarks .NotIn b = false := by rfl) (hn : n + 1 ≤ 64 := by decide) : PB A ca (.Compare a [.NotIn] [b] pos) Γ (fun s => (f s).bind fun x => (g s).bind fun ys => .ok (!decide (x ∈ ys))) := by
  obtain ⟨ta, pa, qa⟩ := ha
  obtain ⟨tb, pb, qb⟩ := hb
  refine ⟨tTest (tOp (rNotInD A.K) ta tb), fun X hX => by rw [← hX.K]; exact pt_cmpR (op_notInD (by have := hX.room.un; omega)) (pa X hX) (pb X hX) hm, fun O σ H s Q hs hp => ?_⟩
  refine qa O σ H s _ hs ((Rs.post_bind hp).mono (fun x k v H1 s1 r => ?_) fun _ z => z)
  refine qb O σ H1 s _ (hs.grow s1) ((Rs.post_bind k).mono (fun ys k p vs H2 s2 e2 z2 r2 => ?_) fun _ z => z.grow s1)
  refine ⟨enc x, ys.map enc, Dp.mono' (cut_le.trans s2) (h.to r), .lst (.inl (.inl e2)) (Dp.mono'.Dps cut_le (h.dps r2)), h.shaped (Nat.le_of_succ_le hn) x, (EncN.lst h).shaped hn ys, _, rfl, ?_⟩
  rw [anyD h]; exact k H2 (s1.trans s2)
theorem inV_ints (x : Int) : ∀ ns : List Int, inV (.int x) (ns.map V.int) = decide (x ∈ ns)
  | [] => rfl
  | n :: r => by
    show (eqV (.int n) (.int x) || inV (.int x) (r.map V.int)) = _
    rw [inV_ints x r]
    show ((n == x) || _) = _
    by_cases q : n = x
    · simp [q]
    · have q' : ¬ x = n := fun e => q e.symm
      simp [q, q']
theorem flat_ints : ∀ ns : List Int, (ns.map V.int).all flatV = true
  | [] => rfl
  | _ :: r => by simp [flatV]
theorem PB.inT {f : S → Rs Int} {g : S → Rs (List Int)} (ha : PX A ca a Γ tI f) (hb : PX A ca b Γ (tT tI) g) (hm : behindInMarks .In b = false := by rfl) : PB A ca (.Compare a [.In] [b] pos) Γ (fun s => (f s).bind fun x => (g s).bind fun ys => .ok (decide (x ∈ ys))) := by
  obtain ⟨ta, pa, qa⟩ := ha
  obtain ⟨tb, pb, qb⟩ := hb
  refine ⟨tTest (tOp (rIn A.K false) ta tb), fun X hX => by rw [← hX.K]; exact pt_cmpR op_in_seq (pa X hX) (pb X hX) hm, fun O σ H s Q hs hp => PX.two qa qb hs hp fun x ys v u H2 sm r1 r2 k => ?_⟩
  obtain ⟨p, vs, rfl, e, z, r⟩ := r2
  have ev := Paired.ints r
  subst ev
  refine ⟨p, ys.map V.int, rfl, .inr (.inl (.inl (cut_le _ _ e))), by rw [show v = .int x from r1]; rfl, flat_ints ys, _, rfl, ?_⟩
  rw [show v = .int x from r1, if_neg Bool.false_ne_true, inV_ints]
  exact k H2 sm
theorem PB.notInT {f : S → Rs Int} {g : S → Rs (List Int)} (ha : PX A ca a Γ tI f) (hb : PX A ca b Γ (tT tI) g) (hm : behindInMarks .NotIn b = false := by rfl) : PB A ca (.Compare a [.NotIn] [b] pos) Γ (fun s => (f s).bind fun x => (g s).bind fun ys => .ok (!decide (x ∈ ys))) := by
  obtain ⟨ta, pa, qa⟩ := ha
  obtain ⟨tb, pb, qb⟩ := hb
  refine ⟨tTest (tOp (rIn A.K true) ta tb), fun X hX => by rw [← hX.K]; exact pt_cmpR op_notIn_seq (pa X hX) (pb X hX) hm, fun O σ H s Q hs hp => PX.two qa qb hs hp fun x ys v u H2 sm r1 r2 k => ?_⟩
  obtain ⟨p, vs, rfl, e, z, r⟩ := r2
  have ev := Paired.ints r
  subst ev
  refine ⟨p, ys.map V.int, rfl, .inr (.inl (.inl (cut_le _ _ e))), by rw [show v = .int x from r1]; rfl, flat_ints ys, _, rfl, ?_⟩
  rw [show v = .int x from r1, if_pos rfl, inV_ints]
  exact k H2 sm
end
section
variable {ρ S S' S'' L α β γ U : Type} {Γ : Cxt S} {Γ' : Cxt S'} {Γ'' : Cxt S''} {Γl : Cxt L} {rr : Rr ρ} {τ : Ty α} {τ' : Ty β} {c : Ct α} {e a b d tg iter : Expr} {pos p p2 p3 p4 py : Pos} {x y : Str} {st : Stmt} {sts : List Stmt} {i : Nat}
/-! ### isinstance -/
structure IsTy {α : Type} (τ : Ty α) (n : String) : Prop where
  is : ∀ {K : PySem.W.Frag} {H : Hp} {v : V} {a : α}, τ.rep K H v a → TyX K H v (.type n)
theorem IsTy.int : IsTy tI "int" := ⟨fun h => by rw [show _ = V.int _ from h]; exact .base (.int _)⟩
theorem IsTy.bool : IsTy tB "bool" := ⟨fun h => by rw [show _ = V.bl _ from h]; exact .base (.bl _)⟩
theorem IsTy.str : IsTy tS "str" := ⟨fun h => by rw [show _ = V.str _ from h]; exact .base (.str _)⟩
theorem IsTy.non : IsTy tN "NoneType" := ⟨fun h => by rw [show _ = V.non from h]; exact .base .non⟩
theorem IsTy.lst : IsTy (tL τ) "list" := ⟨fun h => by obtain ⟨p, vs, rfl, e, _⟩ := h; exact .base (.lst e)⟩
theorem IsTy.lup {ts : Tys α} : IsTy (tLup ts) "list" := ⟨fun h => by obtain ⟨p, vs, rfl, e, _⟩ := h; exact .base (.lst e)⟩
theorem IsTy.tpl : IsTy (tT τ) "tuple" := ⟨fun h => by obtain ⟨p, vs, rfl, e, _⟩ := h; exact .base (.tup e)⟩
theorem IsTy.tup {ts : Tys α} : IsTy (tTup ts) "tuple" := ⟨fun h => by obtain ⟨p, vs, rfl, e, _⟩ := h; exact .base (.tup e)⟩
theorem TyX.mono {K : PySem.W.Frag} {H H' : Hp} {v : V} {n : String} {α : Type} {τ : Ty α} {a : α} (h : IsTy τ n) (s : Same H H') (r : τ.rep K H v a) : TyX K H' v (.type n) := h.is (τ.mono s r)
/-- isinstance(x, T) -/
theorem PX.isi {f : S → Rs α} {n m : String} {k : Bool} (B : Blt A x (.builtin "isinstance")) (Bm : Blt A y (.type m)) (h : IsTy τ n) (ha : PX A ca a Γ τ f) (hk : kitB n m = some k := by decide +kernel) (hs : star a = false := by rfl) : PX A ca (.Call (.Name x p) [a, .Name y p2] [] pos) Γ tB (fun s => (f s).bind fun _ => .ok k) := by
  obtain ⟨ta, pa, qa⟩ := ha
  refine ⟨_, fun X hX => call2 (r := rIsi A.K) (tb := tC (.ty m)) hX B (by rw [← hX.K]; exact call_isi) (pa X hX) (pe_bltn (hX.gl Bm.gl) (by rw [hX.mg]; exact Bm.mg) Bm.bt rfl Bm.nn Bm.db) hs rfl, fun O σ H s Q h0 hp => qa O σ H s _ h0 ((Rs.post_bind hp).mono (fun a ka v H1 s1 r => ?_) fun _ z => z)⟩
  exact ⟨v, .ty m, _, _, k, rfl, .ty m, TyX.mono h cut_le r, kit_ty hk, ka _ H1 s1 rfl⟩
theorem PX.isiO {f : S → Rs (Option α)} {n m : String} {k : Bool} (B : Blt A x (.builtin "isinstance")) (Bm : Blt A y (.type m)) (h : IsTy τ n) (ha : PX A ca a Γ (tO τ) f) (hk : kitB n m = some k := by decide +kernel) (hn : kitB "NoneType" m = some false := by decide +kernel) (hs : star a = false := by rfl) : PX A ca (.Call (.Name x p) [a, .Name y p2] [] pos) Γ tB (fun s => (f s).bind fun o => .ok (o.isSome && k)) := by
  obtain ⟨ta, pa, qa⟩ := ha
  refine ⟨_, fun X hX => call2 (r := rIsi A.K) (tb := tC (.ty m)) hX B (by rw [← hX.K]; exact call_isi) (pa X hX) (pe_bltn (hX.gl Bm.gl) (by rw [hX.mg]; exact Bm.mg) Bm.bt rfl Bm.nn Bm.db) hs rfl, fun O σ H s Q h0 hp => qa O σ H s _ h0 ((Rs.post_bind hp).mono (fun o ka v H1 s1 r => ?_) fun _ z => z)⟩
  cases o with
  | none => exact ⟨v, .ty m, _, _, false, rfl, .ty m, (by rw [show v = .non from r]; exact .base .non), kit_ty hn, ka _ H1 s1 rfl⟩
  | some a => exact ⟨v, .ty m, _, _, k, rfl, .ty m, TyX.mono h cut_le (show τ.rep A.K (cut H1 O) v a from r), kit_ty hk, ka _ H1 s1 rfl⟩
/-- isinstance(x, (T, U)) -/
theorem PX.isi2 {f : S → Rs α} {n m m2 : String} {k : Bool} {y2 : Str} {kk : Nat} (B : Blt A x (.builtin "isinstance")) (Bm : Blt A y (.type m)) (Bm2 : Blt A y2 (.type m2)) (h : IsTy τ n) (ha : PX A ca a Γ τ f) (hk : ∀ K, PySem.W.kitAny K (.type n) [.type m, .type m2] = some k := by intro _; rfl) (hs : star a = false := by rfl) :
    PX A ca (.Call (.Name x p) [a, .Tuple [.Name y p2, .Name y2 p3] kk p4] [] pos) Γ tB (fun s => (f s).bind fun _ => .ok k) := by
  obtain ⟨ta, pa, qa⟩ := ha
  have pt : ∀ X, A.In X → PE X (.Tuple [.Name y p2, .Name y2 p3] kk p4) (L2.tTup (tCons (tC (.ty m)) (tCons (tC (.ty m2)) tNil))) := fun X hX =>
    pe_tup (pa_cons (pe_bltn (hX.gl Bm.gl) (by rw [hX.mg]; exact Bm.mg) Bm.bt rfl Bm.nn Bm.db) (pa_cons (pe_bltn (hX.gl Bm2.gl) (by rw [hX.mg]; exact Bm2.mg) Bm2.bt rfl Bm2.nn Bm2.db) pa_nil (star_each rfl)) (star_each rfl))
  refine ⟨_, fun X hX => call2 (r := rIsiT A.K) hX B (by rw [← hX.K]; exact call_isiT) (pa X hX) (pt X hX) hs rfl, fun O σ H s Q h0 hp => qa O σ H s _ h0 ((Rs.post_bind hp).mono (fun a ka v H1 s1 r => ?_) fun _ z => z)⟩
  refine ⟨(by decide : 2 ≤ sizeLine), fun q nq => ?_⟩
  exact ⟨v, q, [.ty m, .ty m2], _, [.type m, .type m2], k, rfl, upd_same, .cons (.ty m) (.cons (.ty m2) .nil), TyX.mono h (cut_le.trans (same_upd nq)) r, hk _, ka _ _ (s1.trans (same_upd nq)) rfl⟩
/-! ### sorted pairs -/
def lexLe (x y : Int × Int) : Bool := decide (x.1 < y.1) || (decide (x.1 = y.1) && decide (x.2 ≤ y.2))
def srtP (xs : List (Int × Int)) : List (Int × Int) := xs.mergeSort lexLe
theorem lexLe_total (a b : Int × Int) : (lexLe a b || lexLe b a) = true := by
  unfold lexLe
  rcases Int.lt_trichotomy a.1 b.1 with h | h | h
  · simp [h]
  · rcases Int.le_total a.2 b.2 with q | q <;> simp [h, q]
  · simp [h]
theorem lexLe_trans (a b c : Int × Int) (h1 : lexLe a b = true) (h2 : lexLe b c = true) : lexLe a c = true := by
  unfold lexLe at *
  simp only [Bool.or_eq_true, decide_eq_true_eq, Bool.and_eq_true] at *
  omega
theorem lexLe_anti (a b : Int × Int) (h1 : lexLe a b = true) (h2 : lexLe b a = true) : a = b := by
  unfold lexLe at *
  simp only [Bool.or_eq_true, decide_eq_true_eq, Bool.and_eq_true] at *
  exact Prod.ext (by omega) (by omega)
theorem srtP_uniq {l m : List (Int × Int)} (h : l.Perm m) (hl : l.Pairwise (fun a b => lexLe a b = true)) : l = srtP m := by
  have h2 : (srtP m).Pairwise (fun a b => lexLe a b = true) := List.pairwise_mergeSort (le := lexLe) (fun a b c => lexLe_trans a b c) (fun a b => lexLe_total a b) m
  exact List.Perm.eq_of_pairwise (fun a b _ _ => lexLe_anti a b) hl h2 (h.trans (List.mergeSort_perm m lexLe).symm)
def keyAt (H : Hp) (v : V) : Int × Int := match v with
  | .ref t => match H t with
    | some (.tup [.int i, .int j]) => (i, j)
    | _ => (0, 0)
  | _ => (0, 0)
theorem keyAt_of {K : PySem.W.Frag} {H G : Hp} {v : V} {a : Int × Int} (s : Same G H) (r : (tPr tI tI).rep K G v a) : ∃ t, v = .ref t ∧ H t = some (.tup [.int a.1, .int a.2]) ∧ keyAt H v = a := by
  obtain ⟨t, vs, rfl, e, v1, r1, rfl, q1, v2, rfl, q2⟩ := r
  have e1 : v1 = .int a.1 := q1
  have e2 : v2 = .int a.2 := q2
  subst e1 e2
  exact ⟨t, rfl, s _ _ e, by unfold keyAt; simp [s _ _ e]⟩
theorem paired_map {F : V → α → Prop} {g : V → α} {ys : List V} (h : ∀ v ∈ ys, F v (g v)) : Paired F ys (ys.map g) := by
  induction ys with
  | nil => exact .nil
  | cons v r ih => exact .cons (h v List.mem_cons_self) (ih fun w hw => h w (List.mem_cons_of_mem _ hw))
theorem PL.sortedP {f : S → Rs (List (Int × Int))} (B : Blt A x (.builtin "sorted")) (ha : BX A ca a Γ (cL (tPr tI tI)) f) (hs : star a = false := by rfl) : PL A ca (.Call (.Name x p) [a] [] pos) Γ (cL (tPr tI tI)) (fun s => (f s).bind fun xs => .ok (srtP xs)) := by
  obtain ⟨ta, pa, qa⟩ := ha
  refine ⟨_, fun X hX => call1 (r := rSortedPO A.K) hX B (by rw [← hX.K]; exact cr_sortedPO) (pa X hX) hs, fun O σ H s Q hs hp => ?_⟩
  refine qa O σ H s _ hs ((Rs.post_bind hp).mono (fun xs k q vs H1 s1 e z r => ?_) fun _ z => z)
  have key : ∀ v ∈ vs, ∃ a, a ∈ xs ∧ (tPr tI tI).rep A.K (cut H1 O) v a := by
    intro v hv
    clear k e z
    induction r with
    | nil => simp at hv
    | cons r _ ih =>
      rcases List.mem_cons.mp hv with rfl | hv
      · exact ⟨_, List.mem_cons_self, r⟩
      · obtain ⟨a, h1, h2⟩ := ih hv
        exact ⟨a, List.mem_cons_of_mem _ h1, h2⟩
  have hmap : vs.map (keyAt H1) = xs := by
    clear k e z key
    induction r with
    | nil => rfl
    | cons r _ ih =>
      obtain ⟨t, h1, h2, h3⟩ := keyAt_of cut_le r
      rw [List.map_cons, h3, ih]
  refine ⟨q, vs, keyAt H1, rfl, .inl (.inl e), fun v hv => ?_, fun ys l srtd stb n => ?_⟩
  · obtain ⟨a, _, h2⟩ := key v hv
    obtain ⟨t, g1, g2, g3⟩ := keyAt_of cut_le h2
    exact ⟨t, g1, by rw [g3]; exact g2⟩
  · have pm : ys.Perm vs := stb.perm
    have hys : ys.map (keyAt H1) = srtP xs := by
      refine srtP_uniq (by rw [← hmap]; exact pm.map _) ?_
      have : ys.Pairwise fun a b => ltP (keyAt H1) b a = false := by
        have h := srtd
        exact h
      rw [List.pairwise_map]
      refine this.imp fun {a b} h => ?_
      have h : SrtO.lexB (keyAt H1 b) (keyAt H1 a) = false := h
      unfold SrtO.lexB at h
      unfold lexLe
      simp only [Bool.or_eq_true, decide_eq_true_eq, Bool.and_eq_true]
      split at h
      · have := of_decide_eq_false h
        omega
      · have := of_decide_eq_false h
        omega
    refine k l ys _ (s1.free n) (s1.trans (same_upd n)) upd_same (by rw [pm.length_eq]; exact z) ?_
    rw [← hys]
    have all : ∀ v ∈ ys, (tPr tI tI).rep A.K (cut (upd H1 l (.lst ys)) (l :: O)) v (keyAt H1 v) := fun v hv => by
      obtain ⟨a, _, h2⟩ := key v (pm.subset hv)
      obtain ⟨t, g1, g2, g3⟩ := keyAt_of cut_le h2
      rw [g3]
      exact (tPr tI tI).mono (cut_new n) h2
    exact paired_map all
/-! ### more of lists -/
theorem Paired.reverse {F : V → α → Prop} {vs : List V} {as : List α} (h : Paired F vs as) : Paired F vs.reverse as.reverse := by
  induction h with
  | nil => exact .nil
  | cons r _ ih => rw [List.reverse_cons, List.reverse_cons]; exact Paired.append ih (.cons r .nil)
/-- xs[::-1] -/
theorem PL.rev {f : S → Rs (List α)} {k : Nat} (ha : BX A ca a Γ (cL τ) f) : PL A ca (.Subscript a (.Slice none none (some (.UnaryOp .USub (.Constant (.int 1) k p) p2)) p3) pos) Γ (cL τ) (fun s => (f s).bind fun xs => .ok xs.reverse) := by
  obtain ⟨ta, pa, qa⟩ := ha
  refine ⟨tRevL A.K ta, fun X hX => by rw [← hX.K]; exact pe_revL (pa X hX), fun O σ H s Q hs hp => ?_⟩
  refine qa O σ H s _ hs ((Rs.post_bind hp).mono (fun xs k q vs H1 s1 e z r => ?_) fun _ z => z)
  exact ⟨q, vs, rfl, .inl (.inl e), fun l n => k l _ _ (s1.free n) (s1.trans (same_upd n)) upd_same (by rw [List.length_reverse]; exact z) (Paired.reverse (Paired.mono' (cut_new n) r))⟩
/-- xs[i], i with changes -/
theorem EX.ixL {f : S → Rs (List α)} {g : S → Rs (Int × S')} (hs : PlainIx b) (ha : PX A ca a Γ (tL τ) f) (hb : EX A ca b Γ Γ' tI g) : EX A ca (.Subscript a b pos) Γ Γ' τ (fun s => (f s).bind fun xs => (g s).bind fun i => (Rs.ofOpt (atI xs i.1)).bind fun y => .ok (y, i.2)) := by
  obtain ⟨ta, pa, qa⟩ := PX.ex ha
  obtain ⟨tb, pb, qb⟩ := hb
  refine ⟨tOp (rIxL A.K) ta tb, fun X hX => by rw [← hX.K]; exact pe_ix ix_list (pa X hX) (pb X hX) hs, fun F L R σ H s Q h0 hp => ?_⟩
  refine EX.two (f := fun s => (f s).bind fun a => .ok (a, s)) (k := fun xs i s2 => (Rs.ofOpt (atI xs i)).bind fun y => .ok (y, s2)) (P := fun r => ∀ (v : V) (H' : Hp), RS A.K F L (R.and (Mn.val A.K τ v r.fst)) Γ' σ H' r.snd → Q v H') qa qb h0 ?_ fun xs i s2 v u H2 h2 k => ?_
  · have : (((f s).bind fun a => Rs.ok (a, s)).bind fun x => (g x.2).bind fun y => (Rs.ofOpt (atI x.1 y.1)).bind fun z => .ok (z, y.2)) = ((f s).bind fun xs => (g s).bind fun i => (Rs.ofOpt (atI xs i.1)).bind fun y => .ok (y, i.2)) := by
      cases f s <;> rfl
    exact this ▸ hp
  · obtain ⟨Og, h2⟩ := h2
    obtain ⟨⟨r0, r1⟩, r2⟩ := h2.rs
    obtain ⟨p, vs, rfl, e, z, r1⟩ := r1
    obtain ⟨y, ey, k⟩ := Rs.post_ofOpt (Rs.post_bind k)
    obtain ⟨w, ew, rw⟩ := Paired.atI r1 ey
    exact ⟨p, vs, i, w, rfl, r2, .inl (.inl (cut_le _ _ e)), ew, k w H2 ⟨Og, h2.with ⟨r0, rw⟩⟩⟩
/-- xs.extend(ys) -/
theorem EX.extend {w : Option Addr} {f : S → Rs (List α)} {g : S → List α} {put : S → List α → S'} {xp apos : Pos} (hw : Wr Γ i w (cL τ) g (cL τ) Γ' put) (hN : A.N[i]? = some x) (hv : Vis A.sc x) (he : BX A ca e Γ (cL τ) f)
    (hs : star e = false := by rfl) (hline : (apos.endLine == pos.line) = true := by rfl) (hd : (x == ("__debug__" : Str)) = false := by decide) (hcd : (x == ("__classdict__" : Str)) = false := by decide) :
    EX A ca (.Call (.Attribute (.Name x xp) "extend" apos) [e] [] pos) Γ Γ' tN (fun s => (f s).bind fun ys => Rs.guard (decide ((g s).length + ys.length ≤ sizeLine)) (.ok ((), put s (g s ++ ys)))) := by
  obtain ⟨t, ht, q⟩ := he
  refine ⟨tBM A.K "list" rExtend (tVar i) (tCons t tNil), fun X hX => by
    rw [← hX.K]
    exact pe_bm PySem.F.plainAttrs_list PySem.F.slot_list_extend PySem.F.type_list_extend mt_extend (pe_var (by rw [hX.N]; exact hN) (by rw [hX.sc]; exact hv) hd hcd) (pa_cons (ht X hX) pa_nil (star_each hs)) rfl (by rw [star_each hs]; rfl) hline (star_each hs) (star_any rfl), fun F L R σ H s Q hs0 hp => ?_⟩
  obtain ⟨Og, hs1⟩ := hs0
  obtain ⟨l, vs, _, e1, _, _, _, e3, z3, r3, _⟩ := hs1.write hw
  refine ⟨.ref l, e1, .inl ⟨rfl, vs, .inl (.inl e3)⟩, q _ σ H s _ hs1.sx ((Rs.post_bind hp).mono (fun ys k b ws H' sm e z r => ?_) fun _ z => z.exw hs1.fr)⟩
  obtain ⟨hc, k⟩ := Rs.post_guard k
  have h' := hs1.grow sm
  obtain ⟨l2, vs2, _, e12, e22, _, _, e32, z32, r32, hwr⟩ := h'.write hw
  have : l2 = l := by rw [e1] at e12; simpa using e12.symm
  subst this
  have hz : vs2.length + ws.length ≤ sizeLine := by rw [Paired.length r32, Paired.length r]; exact of_decide_eq_true hc
  refine ⟨l2, b, vs2, ws, rfl, rfl, e32, e, hz, k _ _ ⟨Og, ?_⟩⟩
  have h3 := hwr (vs2 ++ ws) (g s ++ ys) _ (by rw [List.length_append]; exact hz) (fun p o hp e => by rw [upd_ne hp]; exact e) upd_same (by
    rw [cut_upd e22]
    exact Paired.append r32 r)
  exact h3.with ⟨by rw [cut_upd e22]; exact h'.rs, rfl⟩
/-- xs.pop() as a value -/
theorem EX.pop {w : Option Addr} {g : S → List α} {put : S → List α → S'} {xp apos : Pos} (hw : Wr Γ i w (cL τ) g (cL τ) Γ' put) (hN : A.N[i]? = some x) (hv : Vis A.sc x)
    (hline : (apos.endLine == pos.line) = true := by rfl) (hd : (x == ("__debug__" : Str)) = false := by decide) (hcd : (x == ("__classdict__" : Str)) = false := by decide) :
    EX A ca (.Call (.Attribute (.Name x xp) "pop" apos) [] [] pos) Γ Γ' τ (fun s => (Rs.ofOpt (g s).getLast?).bind fun y => .ok (y, put s (g s).dropLast)) := by
  refine ⟨tBM0 A.K "list" rPop (tVar i), fun X hX => by
    rw [← hX.K]
    exact pe_bm0 PySem.F.plainAttrs_list PySem.F.slot_list_pop PySem.F.type_list_pop mt_pop (pe_var (by rw [hX.N]; exact hN) (by rw [hX.sc]; exact hv) hd hcd) rfl hline, fun F L R σ H s Q hs0 hp => ?_⟩
  obtain ⟨Og, hs1⟩ := hs0
  obtain ⟨l, vs, _, e1, e2, _, _, e3, z3, r3, hwr⟩ := hs1.write hw
  obtain ⟨y, ey, k⟩ := Rs.post_ofOpt (Rs.post_bind hp)
  have hlast : (g s)[(g s).length - 1]? = some y := by rw [← List.getLast?_eq_getElem?]; exact ey
  obtain ⟨v, hv1, hv2⟩ := Paired.get (show Paired (τ.rep A.K _) vs (g s) from r3) hlast
  refine ⟨.ref l, e1, .inl ⟨rfl, vs, .inl (.inl e3)⟩, l, vs, v, rfl, rfl, e3, by rw [Paired.length r3]; exact hv1, k v _ ⟨Og, ?_⟩⟩
  have hdl : ∀ {vs : List V} {as : List α}, Paired (τ.rep A.K (cut H (hid F L Og))) vs as → Paired (τ.rep A.K (cut H (hid F L Og))) vs.dropLast as.dropLast := fun {vs as} h => by
    rw [List.dropLast_eq_take, List.dropLast_eq_take, Paired.length h]
    exact Paired.take _ h
  have h3 := hwr vs.dropLast (g s).dropLast _ (by rw [List.length_dropLast]; omega) (fun p o hp e => by rw [upd_ne hp]; exact e) upd_same (by
    rw [cut_upd e2]
    exact hdl r3)
  exact h3.with ⟨by rw [cut_upd e2]; exact hs1.rs, by rw [cut_upd e2]; exact hv2⟩
end
end TL
/-! TL10: helps for the printed walks. -/
namespace TL
open PySem PySem.Spec PyProof.Rows L2
variable {A : Amb} {ca : Nat → Addr}
def visB (sc : Scope) (x : Str) : Bool := match sc.names.lookup x with
  | some .local => true
  | some .cell => true
  | some .free => true
  | _ => false
def locB (sc : Scope) (x : Str) : Bool := match sc.names.lookup x with
  | some .local => true
  | some .cell => true
  | _ => false
theorem vb {sc : Scope} {x : Str} (h : visB sc x = true) : Vis sc x := by
  unfold visB at h
  split at h
  · exact .inl (by assumption)
  · exact .inr (.inl (by assumption))
  · exact .inr (.inr (by assumption))
  · cases h
theorem vbb {scope : Scope} {x : Str} (h : visB scope x = true) : Vis (relS scope A.sc) x := by
  unfold visB at h
  split at h
  · exact vis_blk (by assumption) (.inl rfl)
  · exact vis_blk (by assumption) (.inr (.inl rfl))
  · exact vis_blk (by assumption) (.inr (.inr rfl))
  · cases h
theorem lob {x : Str} (hf : A.fn = fun _ => true) (h : locB A.sc x = true) : LocA A x := by
  unfold locB at h
  split at h
  · exact ⟨.inl (by assumption), .inl (by rw [hf])⟩
  · exact ⟨.inr (by assumption), .inl (by rw [hf])⟩
  · cases h
theorem lobb {scope : Scope} {x : Str} (h : locB scope x = true) : LocA (A.blk scope) x := by
  unfold locB at h
  split at h
  · exact loc_blk (by assumption)
  · exact locC_blk (by assumption)
  · cases h
section
variable {ρ S S' S'' L α β γ U : Type} {Γ : Cxt S} {Γ' : Cxt S'} {Γ'' : Cxt S''} {Γl : Cxt L} {rr : Rr ρ} {τ : Ty α} {τ' : Ty β} {c : Ct α} {e a b d tg iter : Expr} {pos p p2 py : Pos} {x y : Str} {st : Stmt} {sts : List Stmt} {i : Nat}
theorem SX.retA {f : S → Rs (α × S')} (he : EX A ca e Γ Γ' τ f) : SX A ca (.Return (some e) pos) Γ Γ'' Γl (rVal A.K τ) (fun s => (f s).bind fun r => .ok (.rt r.1)) := by
  obtain ⟨t, ht, q⟩ := he
  exact ⟨_, fun X hX => ps_ret (ht X hX), fun F R σ H s D h0 hp => q F [] R σ H s _ h0 ((Rs.post_bind hp).mono (fun r k v H' ⟨Og, h'⟩ => k v H' ⟨h'.fr, τ.mono (cut_sub hid_B) h'.rs.2⟩) fun _ z => z)⟩
/-- a pure value is handed back -/
theorem SX.retP {f : S → Rs α} (he : PX A ca e Γ τ f) : SX A ca (.Return (some e) pos) Γ Γ'' Γl (rVal A.K τ) (fun s => (f s).bind fun r => .ok (.rt r)) := by
  have h := SX.retA (Γ'' := Γ'') (Γl := Γl) (pos := pos) (PX.ex he)
  have : (fun s => ((fun s => (f s).bind fun a => Rs.ok (a, s)) s).bind fun r => Rs.ok (Fl.rt (S := S'') (L := L) r.1)) = fun s => (f s).bind fun r => .ok (.rt r) := by
    funext s
    dsimp only
    cases f s <;> rfl
  exact this ▸ h
/-- .. is stored -/
theorem SX.setP {f : S → Rs α} {put : S → α → S''} (hx : LocA A x) (hN : A.N[i]? = some x) (he : PX A ca e Γ τ f) (hp : Put Γ i (.val τ) Γ'' put) (hs : ∀ X, A.In X → swapsWith e (some (.Name x py)) pos.line X.env = pure false := by intro _ _; rfl) :
    SX A ca (.Assign [.Name x py] e pos) Γ Γ'' Γl rr (fun s => (f s).bind fun r => .ok (.nx (put s r))) := by
  have h := SX.set (k := 0) (Γl := Γl) (rr := rr) hx hN (PX.ex he) hp hs
  have : (fun s => ((fun s => (f s).bind fun a => Rs.ok (a, s)) s).bind fun r => Rs.ok (Fl.nx (ρ := ρ) (L := L) (put r.2 r.1))) = fun s => (f s).bind fun r => .ok (.nx (put s r)) := by
    funext s
    dsimp only
    cases f s <;> rfl
  exact this ▸ h
theorem SX.setOP {f : S → Rs α} {put : S → α → S''} (hx : LocA A x) (hN : A.N[i]? = some x) (he : PL A ca e Γ c f) (hp : Put Γ i (.own none c) Γ'' put) (hs : ∀ X, A.In X → swapsWith e (some (.Name x py)) pos.line X.env = pure false := by intro _ _; rfl) :
    SX A ca (.Assign [.Name x py] e pos) Γ Γ'' Γl rr (fun s => (f s).bind fun r => .ok (.nx (put s r))) := by
  have h := SX.setO (k := 0) (Γl := Γl) (rr := rr) hx hN (PL.el he) hp hs
  have : (fun s => ((fun s => (f s).bind fun a => Rs.ok (a, s)) s).bind fun r => Rs.ok (Fl.nx (ρ := ρ) (L := L) (put r.2 r.1))) = fun s => (f s).bind fun r => .ok (.nx (put s r)) := by
    funext s
    dsimp only
    cases f s <;> rfl
  exact this ▸ h
theorem SX.asgP {f : S → Rs α} {put : S → α → S''} {ix : List Nat} (he : PX A ca e Γ τ f) (hg : GX A tg Γ Γ'' τ put ix) (hs : ∀ env, swapsWithSole [tg] e pos.line env = pure false := by intro _; rfl) (hw : ∀ X, A.In X → swappedStores [tg] e X.env = pure none := by intro _ _; rfl) (hst : star tg = false := by rfl) :
    SX A ca (.Assign [tg] e pos) Γ Γ'' Γl rr (fun s => (f s).bind fun r => .ok (.nx (put s r))) := by
  have h := SX.asg (Γl := Γl) (rr := rr) (PX.ex he) hg hs hw hst
  have : (fun s => ((fun s => (f s).bind fun a => Rs.ok (a, s)) s).bind fun r => Rs.ok (Fl.nx (ρ := ρ) (L := L) (put r.2 r.1))) = fun s => (f s).bind fun r => .ok (.nx (put s r)) := by
    funext s
    dsimp only
    cases f s <;> rfl
  exact this ▸ h
theorem SX.iteP {sa sb : List Stmt} {f : S → Rs Bool} {g1 g2 : S → Rs (Fl ρ S'' L)} (hc : PB A ca e Γ f) (h1 : SXs A ca sa Γ Γ'' Γl rr g1) (h2 : SXs A ca sb Γ Γ'' Γl rr g2) : SX A ca (.If e sa sb pos) Γ Γ'' Γl rr (fun s => (f s).bind fun r => if r then g1 s else g2 s) := by
  have h := SX.ite (pos := pos) (PB.eb hc) h1 h2
  have : (fun s => ((fun s => (f s).bind fun a => Rs.ok (a, s)) s).bind fun r => if r.1 = true then g1 r.2 else g2 r.2) = fun s => (f s).bind fun r => if r then g1 s else g2 s := by
    funext s
    dsimp only
    cases f s <;> rfl
  exact this ▸ h
theorem SX.forP {St2 : Type} {Γt : Cxt St2} {f : S → Rs (List β)} {put : S → β → St2} {ix : List Nat} {body : List Stmt} {g : St2 → Rs (Fl ρ S S)} (hi : IX A ca tg iter Γ τ' f) (hg : GX A tg Γ Γt τ' put ix) (hb : SXs A ca body Γt Γ Γ rr g) (hf : ∀ env x, foldedSetIterable iter env x = pure x := by intro _ _; rfl) : SX A ca (.For tg iter body [] pos) Γ Γ Γl rr (fun s => (f s).bind fun r => forM (fun b s => g (put s b)) r s) := by
  have h := SX.forS (pos := pos) (Γl := Γl) (IX.ei hi) hg hb hf
  have : (fun s => ((fun s => (f s).bind fun a => Rs.ok (a, s)) s).bind fun r => forM (fun b s => g (put s b)) r.1 r.2) = fun s => (f s).bind fun r => forM (L := L) (fun b s => g (put s b)) r s := by
    funext s
    dsimp only
    cases f s <;> rfl
  exact this ▸ h
/-- a value that is never come to -/
theorem PX.never : PX A ca e Γ τ (fun _ => .bad) := ⟨fun _ _ _ => False, fun X hX => ⟨fun _ _ _ _ _ _ h => h.elim⟩, fun O σ H s Q hs hp => hp.elim⟩
theorem PB.never : PB A ca e Γ (fun _ => .bad) := ⟨fun _ _ _ => False, fun X hX => ⟨fun _ _ _ _ _ _ h => h.elim⟩, fun O σ H s Q hs hp => hp.elim⟩
theorem PL.never : PL A ca e Γ c (fun _ => .bad) := ⟨fun _ _ _ => False, fun X hX => ⟨fun _ _ _ _ _ _ h => h.elim⟩, fun O σ H s Q hs hp => hp.elim⟩
/-- a captured name takes a comprehension as other names take other values -/
theorem sw_cell {elt : Expr} {gs : List Comprehension} {scope : Scope} {l : Nat} (hy : A.sc.names.lookup y = some .cell) : ∀ X, A.In X → swapsWith (.ListComp elt gs scope pos) (some (.Name y py)) l X.env = pure false := by
  intro X hX
  have ky : X.env.kindOf y = some .cell := by
    show X.env.scope.names.lookup y = _
    rw [hX.sc]
    exact hy
  unfold swapsWith
  simp only [ky]
  cases X.env.blockKind <;> rfl
theorem PX.tl {τ : Ty α} {f : S → Rs (List α)} (h : PL A ca e Γ (cL τ) f) : PX A ca e Γ (tL τ) f := h.px
theorem PX.tlup {ts : Tys α} {f : S → Rs α} (h : PL A ca e Γ (cR ts) f) : PX A ca e Γ (tLup ts) f := h.px
theorem BX.tl {τ : Ty α} {f : S → Rs (List α)} (h : PX A ca e Γ (tL τ) f) : BX A ca e Γ (cL τ) f := PX.bx (c := cL τ) h
theorem BX.tlup {ts : Tys α} {f : S → Rs α} (h : PX A ca e Γ (tLup ts) f) : BX A ca e Γ (cR ts) f := PX.bx (c := cR ts) h
theorem EX.tl {τ : Ty α} {f : S → Rs (List α × S')} (h : EL A ca e Γ Γ' (cL τ) f) : EX A ca e Γ Γ' (tL τ) f := h.ex
theorem EX.tlup {ts : Tys α} {f : S → Rs (α × S')} (h : EL A ca e Γ Γ' (cR ts) f) : EX A ca e Γ Γ' (tLup ts) f := h.ex
end
end TL
/-! TL11: more helps for the printed walks. -/
namespace TL
open PySem PySem.Spec PyProof.Rows L2
variable {A : Amb} {ca : Nat → Addr}
section
variable {ρ S S' S'' L α β γ U : Type} {Γ : Cxt S} {Γ' : Cxt S'} {Γ'' : Cxt S''} {Γl : Cxt L} {rr : Rr ρ} {τ : Ty α} {τ' : Ty β} {c : Ct α} {e a b d tg iter : Expr} {pos p p2 py : Pos} {x y : Str} {st : Stmt} {sts : List Stmt} {i : Nat}
theorem Tc.someC {g : α → β} (h : Tc τ τ' g) : Tc τ (tO τ') (fun a => Option.some (g a)) := ⟨fun r => h.to r⟩
/-- a text without lone halves -/
abbrev SK := {s : Str // PyData.strOk s = true}
def tSk : Ty SK := ⟨fun _ _ v a => v = .str a.1, fun _ h => h⟩
theorem NN.strK : NN tSk := ⟨fun h => by rw [show _ = V.str _ from h]; simp⟩
theorem PX.strK {i : Str} {j : Nat} (h : PyData.strOk i = true := by decide +kernel) : PX A ca (.Constant (.str i) j pos) Γ tSk (fun _ => .ok ⟨i, h⟩) := by
  obtain ⟨t, ht, q⟩ := PX.str (A := A) (ca := ca) (pos := pos) (Γ := Γ) (i := i) (j := j)
  exact ⟨t, ht, fun O σ H s Q hs hp => q O σ H s Q hs fun v H' sm r => hp v H' sm r⟩
theorem EncN.strK : EncN tSk (fun s => PyData.str s.1) 0 := ⟨⟨fun h => by rw [show _ = V.str _ from h]; exact .str _, fun a => by simp [PyData.canLay0, a.2], fun _ => by simp [PyData.depth], fun a b => by simp [PyData.eqv, Subtype.ext_iff]⟩, fun a => ⟨rfl, rfl⟩⟩
theorem IsTy.strK : IsTy tSk "str" := ⟨fun h => by rw [show _ = V.str _ from h]; exact .base (.str _)⟩
theorem SX.retIOA {f : S → Rs (α × S')} {q : Addr} {c : Ct γ} {g : S' → γ} (he : EX A ca e Γ Γ' τ f) (h0 : At Γ' 0 (.own (some q) c) g) : SX A ca (.Return (some e) pos) Γ Γ'' Γl (rIO A.K q c τ) (fun s => (f s).bind fun r => .ok (.rt (r.1, g r.2))) := by
  obtain ⟨t, ht, h⟩ := SX.retIO (Γl := Γl) (pos := pos) he h0
  refine ⟨t, ht, fun F R σ H s D hs hp => h F R σ H s D hs ?_⟩
  cases hf : f s with
  | ok r => simp only [hf, Rs.bind] at hp ⊢; exact hp
  | exc n => simp only [hf, Rs.bind] at hp ⊢; exact hp
  | bad => simp only [hf, Rs.bind] at hp ⊢; exact hp
theorem par_some {kt k2 : Nat} {px pyy pt pt2 : Pos} (hk : A.sc.kind = .function) (hx : A.sc.names.lookup x = some .local) (hy : A.sc.names.lookup y = some .local) (hl2 : (pyy.line == px.line) = true) (hne : [x, y].eraseDups.length = 2)
    (h1 : star a = false) (h2 : star b = false) (hf : [a, b].all (foldedForSure 8) = false) (hc : [a, b].all (constantsAlone 8) = false) :
    ∀ X, A.In X → swappedStores [.Tuple [.Name x px, .Name y pyy] kt pt] (.Tuple [a, b] k2 pt2) X.env = pure (some [x, y]) := by
  intro X hX
  have kx : X.env.kindOf x = some .local := by show X.env.scope.names.lookup x = _; rw [hX.sc]; exact hx
  have ky : X.env.kindOf y = some .local := by show X.env.scope.names.lookup y = _; rw [hX.sc]; exact hy
  have hb : X.env.blockKind = .function := by unfold Env.blockKind; rw [hX.sc, hk]; rfl
  unfold swappedStores
  have b1 : (NameKind.local == NameKind.local) = true := rfl
  simp only [hb, List.length_cons, List.length_nil, hf, hc, List.filterMap, kx, ky, Expr.pos, List.head?, Option.map, Option.getD, hl2, BEq.rfl, Bool.and_true, Bool.and_self, if_true, hne]
  simp [hf, hc, hne, b1, show (ScopeKind.function != ScopeKind.function) = false from rfl, show ((some NameKind.local : Option NameKind) == some .local) = true from rfl, hl2]
  intro h
  exfalso
  rcases h with h | h
  · cases a <;> first | (cases h; done) | (cases h1; done)
  · cases b <;> first | (cases h; done) | (cases h2; done)
end
end TL
/-! TL12: sorted(xs, key=f), f a def of the module whose keys are pairs of ints. -/
namespace TL
open PySem PySem.Spec PyProof.Rows L2
def kdat (k : Int × Int) : PyData := .tuple [.int k.1, .int k.2]
theorem kdat_le {β : Type} (g : β → Int × Int) (b c : β) : PySem.W.dataLe false (fun b => kdat (g b)) b c = lexLe (g b) (g c) := by
  have e : ∀ p : Int × Int, PySem.W.keyToks (kdat p) = [.inl 1, .inl p.1, .inl 1, .inl p.2, .inl 0] := fun p => by
    simp [kdat, PySem.W.keyToks, PySem.W.keyToksAll]
  have lt : ∀ a b : Int, itemLt (.inl a) (.inl b) = decide (a < b) := fun a b => rfl
  show (!PyProof.Rows.lexLt itemOrd (PySem.W.keyToks (kdat (g c))) (PySem.W.keyToks (kdat (g b)))) = _
  rw [e, e]
  generalize g b = x
  generalize g c = y
  simp only [PyProof.Rows.lexLt, lt, lexLe]
  by_cases h1 : y.1 < x.1
  · have h2 : ¬ x.1 < y.1 := by omega
    have h3 : ¬ x.1 = y.1 := by omega
    simp [h1, h2, h3]
  · by_cases h2 : x.1 < y.1
    · simp [h1, h2]
    · have h3 : x.1 = y.1 := by omega
      by_cases h4 : y.2 < x.2
      · have h5 : ¬ x.2 ≤ y.2 := by omega
        simp [h1, h2, h3, h4, h5]
      · have h5 : x.2 ≤ y.2 := by omega
        by_cases h6 : x.2 < y.2 <;> simp [h1, h2, h3, h4, h5, h6]
section
variable {X : Cx} {k : Nat} {f : Addr} {fd : FuncData} {ps : List Str} {sp : Sp} {pins : List (Addr × Obj)} {σ : L2.St} {H : Hp} {s : Shared} {Q : VK}
/-- a call of the key's def two built-ins deep; it raises nothing -/
theorem run_in2 (F : FnOk X.prog X.w X.K X.mg X.base (L2.CX X.prog X.w) k f fd ps sp) (hr : Room (k + 1) X.A) (hb : Binds X.K fd ps []) {u : Value} {v : V} (I : Inv X pins σ H s) (r : RelV v u) (h : sp [v] H Q fun _ _ _ => False) {E : Value → Shared → Prop} :
    wpAny (model X.prog X.w) X.A.in1.in1 (call (.ref f) [u]) (EP X pins σ Q) E s := by
  have rm : Room k X.A.in1.in1 := by
    refine ⟨hr.hd, ?_, ?_⟩
    · have := hr.dp
      show X.A.depth + 3 * k + 5 < _
      omega
    · have := hr.un
      show X.A.units + 1 + 1 + 16 * k + 200 < _
      omega
  have vv : Vals [v] [u] := .cons r .nil
  have hl : ([u] ++ []).length = ps.length := (F.len _ _ _ _ h)
  have go := F.run X.A.in1.in1 X.stack s H ⟨[u], []⟩ ([u] ++ []) [v] Q (fun _ _ _ => False) rm I.env0.in1.in1 (hb s [u] I.kIn hl) vv h
  refine wpAny_call (codeAny_mono go fun z s' hq => ?_)
  match z, hq with
  | .error e, hq =>
    obtain ⟨_, _, _, _, _, _, _, _, _, _, _, _, bad⟩ := hq
    exact bad.elim
  | .ok (.ret w), hq => exact I.after hq
/-- all that was there stands, and more may stand -/
theorem inv_more {h' : Heap} {t' : Nat} (I : Inv X pins σ H s) (kp : ∀ b o, s.heap.get? b = some o → h'.get? b = some o) : Inv X pins σ H { s with heap := h', toks := t' } := by
  have hf := I.fpOk (b := s.heap.objs.size) (Nat.le_refl _) (I.hok.fresh (Nat.le_refl _))
  obtain ⟨hn, h1, _, h2, h3, h4⟩ := hf
  exact I.turned (fun b o _ e => kp b o e) hn h1 h2 h3 h4
theorem inv_pin {p : Addr × Obj} (I : Inv X pins σ H s) (hg : s.heap.get? p.1 = some p.2) (hf : FpOk X pins H p.1) (hc : ∀ v, p.2.data ≠ .cell v) : Inv X (p :: pins) σ H s := by
  refine { I with pin := fun z hz => ?_ }
  rcases List.mem_append.mp hz with hz | hz
  · exact I.pin z (List.mem_append_left _ hz)
  · rcases List.mem_cons.mp hz with rfl | hz
    · exact ⟨hg, hf.1, hf.2.1, hf.2.2.1, hc⟩
    · exact I.pin z (List.mem_append_right _ hz)
theorem inv_unpin {p : Addr × Obj} (I : Inv X (p :: pins) σ H s) : Inv X pins σ H s :=
  { I with pin := fun z hz => I.pin z (by
      rcases List.mem_append.mp hz with hz | hz
      · exact List.mem_append_left _ hz
      · exact List.mem_append_right _ (List.mem_cons_of_mem _ hz)) }
theorem vals_snoc {vs : List V} {us : List Value} {v : V} {u : Value} (h : Vals vs us) (r : RelV v u) : Vals (vs ++ [v]) (us ++ [u]) := h.append (.cons r .nil)
/-- the key kk stands at v -/
def KeyIs (H : Hp) (v : V) (kk : Int × Int) : Prop := ∃ t, v = .ref t ∧ H t = some (.tup [.int kk.1, .int kk.2])
theorem KeyIs.mono {H H' : Hp} {v : V} {kk : Int × Int} (s : Same H H') (h : KeyIs H v kk) : KeyIs H' v kk := by
  obtain ⟨t, e, q⟩ := h
  exact ⟨t, e, s _ _ q⟩
theorem paired_mono {α β : Type} {R R' : α → β → Prop} (f : ∀ a b, R a b → R' a b) {as : List α} {bs : List β} (h : Paired R as bs) : Paired R' as bs := by
  induction h with
  | nil => exact .nil
  | cons r _ ih => exact .cons (f _ _ r) ih
theorem keys_reads (I : Inv X pins σ H s) {vs : List V} {us : List Value} {ks : List (Int × Int)} (r : Vals vs us) (h : Paired (KeyIs H) vs ks) : PySem.W.EachIs (fun u d => ∃ as, Reads s.heap u d as) us (ks.map kdat) := by
  induction h generalizing us with
  | nil => cases r; exact .nil
  | cons q _ ih =>
    cases r with
    | cons r1 r2 =>
      refine .cons ?_ (ih r2)
      obtain ⟨t, rfl, e⟩ := q
      exact Dp.reads I _ _ _ (.tup (.inl (.inl e)) (.cons (.int _) (.cons (.int _) .nil))) r1
theorem each_zip {xs : List V} {us : List Value} {ks : List (Int × Int)} (r : Vals xs us) (hk : ks.length = xs.length) : PySem.W.EachIs (fun (u : Value) (b : V × (Int × Int)) => RelV b.1 u) us (xs.zip ks) := by
  induction r generalizing ks with
  | nil => exact .nil
  | cons r1 _ ih =>
    cases ks with
    | nil => simp at hk
    | cons k ks => exact .cons r1 (ih (by simpa using hk))
theorem each_vals {us : List Value} {bs : List (V × (Int × Int))} (h : PySem.W.EachIs (fun (u : Value) (b : V × (Int × Int)) => RelV b.1 u) us bs) : Vals (bs.map (·.1)) us := by
  induction h with
  | nil => exact .nil
  | cons r _ ih => exact .cons r ih
theorem vals_at {vs : List V} {us : List Value} (r : Vals vs us) : ∀ {j : Nat} {u : Value}, us[j]? = some u → ∃ v, vs[j]? = some v ∧ RelV v u := by
  induction r with
  | nil => intro j u h; simp at h
  | cons r1 _ ih =>
    intro j u h
    cases j with
    | zero =>
      simp only [List.getElem?_cons_zero, Option.some.injEq] at h
      subst h
      exact ⟨_, rfl, r1⟩
    | succ j =>
      simp only [List.getElem?_cons_succ] at h ⊢
      exact ih h
/-- sorted(xs, key=f) -/
theorem sortedK_run {l : Addr} {xs : List V} {ks : List (Int × Int)} (F : FnOk X.prog X.w X.K X.mg X.base (L2.CX X.prog X.w) k f fd ps sp) (hr : Room (k + 1) X.A) (hb : Binds X.K fd ps []) (I : Inv X pins σ H s) (hl : H l = some (.lst xs)) (hk : ks.length = xs.length)
    (hs : ∀ (i : Nat) (v : V) (kk : Int × Int), xs[i]? = some v → ks[i]? = some kk → ∀ H1, Same H H1 → sp [v] H1 (fun u H2 => Same H1 H2 ∧ KeyIs H2 u kk) fun _ _ _ => False)
    (q : ∀ a H1, Same H H1 → H1 a = none → Q (.ref a) (upd H1 a (.lst (((xs.zip ks).mergeSort fun p q => lexLe p.2 q.2).map (·.1))))) :
    wpAny (model X.prog X.w) X.A (call (.builtin "sorted") [.ref l] [(Str.ofString "key", .ref f)]) (EP X pins σ Q) X.xe s := by
  obtain ⟨its, rv, pl, hz⟩ := I.list (.inl (.inl hl))
  have hzi : its.length ≤ sizeLine := by rw [← rv.length]; exact hz
  refine PySem.W.sorted_of_sort pl.isList hzi (ksk_s1 _ _) (fun _ => ksk_l1 _ _) fun E' => ?_
  rw [ksk_t1]
  have hfr : s.heap.objs.size ≤ s.heap.objs.size + 1 := Nat.le_succ _
  generalize ha : s.heap.objs.size + 1 = a at *
  have at1 : (PySem.W.copyHeap s.heap its).get? a = some (seqObj "list" its.toArray 0) := by rw [← ha]; exact PySem.W.copyHeap_at s.heap its
  obtain ⟨e1, at2⟩ : ∃ e1, ((PySem.W.copyHeap s.heap its).update a (Obj.mapSeq fun _ => (#[] : Array Value))).get? a = some (seqObj "list" #[] e1) := ⟨_, get?_update_seq at1 fun _ => #[]⟩
  have hz2 : a < (PySem.W.copyHeap s.heap its).objs.size := Heap.lt_size at1
  obtain ⟨g1, hg1⟩ : ∃ g1, g1 = ((PySem.W.copyHeap s.heap its).update a (Obj.mapSeq fun _ => (#[] : Array Value))).push (seqObj "tuple" its.toArray 0) := ⟨_, rfl⟩
  have up1 : ∀ b o, s.heap.get? b = some o → g1.get? b = some o := fun b o e => by
    have hb : b < s.heap.objs.size := Heap.lt_size e
    rw [hg1]
    refine Heap.get?_push_of_some _ ?_
    rw [Heap.get?_update_ne _ _ _ _ (Nat.ne_of_lt (Nat.lt_of_lt_of_le hb hfr))]
    exact PySem.W.copyHeap_old e
  have a1 : g1.get? a = some (seqObj "list" #[] e1) := by rw [hg1]; exact Heap.get?_push_of_some _ at2
  have I1 : Inv X pins σ H { s with heap := g1, toks := s.toks } := inv_more I up1
  have fa : FpOk X pins H a := I.fpOk hfr (I.hok.fresh hfr)
  have P1 := inv_pin (p := (a, seqObj "list" #[] e1)) I1 a1 fa (fun v e => by cases e)
  have hgs : s.heap.objs.size ≤ g1.objs.size := Nat.le_trans hfr (Nat.le_of_lt (Heap.lt_size a1))
  have fk : FpOk X ((a, seqObj "list" #[] e1) :: pins) H g1.objs.size := P1.fpOk (Nat.le_refl _) (I.hok.fresh hgs)
  have hka : g1.objs.size ≠ a := Nat.ne_of_gt (Heap.lt_size a1)
  have k2 : (g1.push (seqObj "list" #[] 0)).get? g1.objs.size = some (seqObj "list" #[] 0) := Heap.get?_push_size _ rfl
  have I2 : Inv X ((a, seqObj "list" #[] e1) :: pins) σ H { s with heap := g1.push (seqObj "list" #[] 0), toks := s.toks } := inv_more (s := { s with heap := g1, toks := s.toks }) P1 fun b o e => Heap.get?_push_of_some _ e
  have P2 := inv_pin (p := (g1.objs.size, seqObj "list" #[] 0)) I2 k2 fk (fun v e => by cases e)
  clear I1 P1 I2 k2
  generalize hkS : g1.objs.size = kS at *
  unfold ksk_tree
  refine wpAny_bind (listItems_at at1 rfl ?_)
  refine wpAny_bind (listUpdate_at at1 rfl ?_ (by rw [List.size_toArray]; exact hzi) (Nat.zero_le _))
  refine wpAny_bind (seqEpoch_at at2 rfl ?_)
  refine wpAny_bind (wpAny_newTuple ?_ hzi)
  refine wpAny_bind (wpAny_newList ?_ (Nat.zero_le _))
  refine wpAny_holding ?_
  have hkS' : (((PySem.W.copyHeap s.heap its).update a (Obj.mapSeq fun _ => (#[] : Array Value))).push { cls := .type "tuple", data := .seq its.toArray }).objs.size = kS := by rw [← hkS, hg1]
  rw [hkS']
  unfold ksk_rest
  refine wpAny_bind (wpAny_rule ?_)
  rw [List.forIn_toArray]
  refine wpAny_bind (ksk_fold (fun i s' => ∃ Hi kA e vs, Inv X ((kS, seqObj "list" kA e) :: (a, seqObj "list" #[] e1) :: pins) σ Hi s' ∧ Same H Hi ∧ Vals vs kA.toList ∧ Paired (KeyIs Hi) vs (ks.take i)) its 0 _
    ⟨H, #[], 0, [], by rw [hg1] at P2; exact P2, Same.refl _, .nil, by rw [List.take_zero]; exact .nil⟩ ?step ?done)
  case step =>
    rintro j x s' hx ⟨Hi, kA, e, vs, Ii, sm, vv, kp⟩
    simp only [Nat.zero_add] at kp ⊢
    obtain ⟨v, hv, rx⟩ := vals_at rv hx
    have hj : j < ks.length := by
      have := (List.getElem?_eq_some_iff.mp hv).1
      omega
    obtain ⟨kk, hkk⟩ : ∃ kk, ks[j]? = some kk := ⟨_, List.getElem?_eq_getElem hj⟩
    have hsz : kA.size ≤ its.length := by
      have h1 : vs.length = kA.toList.length := vv.length
      have h2 : vs.length = (ks.take j).length := Paired.length kp
      have h3 : xs.length = its.length := rv.length
      have h4 : kA.toList.length = kA.size := Array.length_toList
      have h5 : (ks.take j).length ≤ j := List.length_take_le ..
      omega
    refine wpAny_bind (wpAny_attempt (wpAny_mono (run_in2 (E := fun _ _ => False) F hr hb Ii rx (hs j v kk hv hkk Hi sm)) (fun u s2 he => ?_) fun _ _ hF => hF.elim))
    obtain ⟨vk, H2, I2, rk, sm2, ki⟩ := he
    try dsimp only
    obtain ⟨nk, hkn, _⟩ := I2.pin (kS, seqObj "list" kA e) (List.mem_append_right _ List.mem_cons_self)
    have s1 := Heap.SameBut.update s2.heap kS (Obj.mapSeq (·.push u))
    refine wpAny_bind (listUpdate_at nk rfl ?_ (Nat.le_trans hsz hzi) (by rw [Array.size_push]; omega))
    have I3 : Inv X ((a, seqObj "list" #[] e1) :: pins) σ H2 { s2 with heap := s2.heap.update kS (Obj.mapSeq (·.push u)), toks := s2.toks } :=
      (inv_unpin I2).turned (fun b o hb e => (s1.2 b hb).trans e) hkn fk.2.1 fk.2.2.2.1 fk.2.2.2.2.1 fk.2.2.2.2.2
    have P3 := inv_pin (p := (kS, seqObj "list" (kA.push u) _)) I3 (get?_update_seq nk (·.push u)) ⟨hkn, fk.2⟩ (fun v e => by cases e)
    refine wpAny_pure ⟨rfl, H2, kA.push u, _, vs ++ [vk], P3, sm.trans sm2, ?_, ?_⟩
    · rw [Array.toList_push]
      exact vals_snoc vv rk
    · rw [List.take_add_one, hkk]
      exact Paired.append (paired_mono (fun _ _ q => KeyIs.mono sm2 q) kp) (.cons ki .nil)
  case done =>
    rintro s' ⟨Hn, kA, e, vs, In, sm, vv, kp⟩
    have hlen := rv.length
    have ek : ks.take (0 + its.length) = ks := List.take_of_length_le (by omega)
    rw [ek] at kp
    obtain ⟨nk, hkn, _⟩ := In.pin (kS, seqObj "list" kA e) (List.mem_append_right _ List.mem_cons_self)
    obtain ⟨na, han, _⟩ := In.pin (a, seqObj "list" #[] e1) (List.mem_append_right _ (List.mem_cons_of_mem _ List.mem_cons_self))
    have hzip : (xs.zip ks).map (fun b => kdat b.2) = ks.map kdat := by
      have e2 : (xs.zip ks).map Prod.snd = ks := List.map_snd_zip (by omega)
      have e3 : (xs.zip ks).map (fun b => kdat b.2) = ((xs.zip ks).map Prod.snd).map kdat := by rw [List.map_map]; rfl
      rw [e3, e2]
    have hal : PySem.W.AllAlike (ks.map kdat) := by
      intro d hd d' hd'
      obtain ⟨x, _, rfl⟩ := List.mem_map.mp hd
      obtain ⟨y, _, rfl⟩ := List.mem_map.mp hd'
      simp [kdat, PySem.W.alike, PySem.W.alikeAll]
    have hso : PySem.W.Sortable (ks.map kdat) := .inl fun d hd => by
      obtain ⟨x, _, rfl⟩ := List.mem_map.mp hd
      exact ⟨_, _, rfl⟩
    have hrd := keys_reads In vv kp
    have hu : ∀ d, d ∈ ks.map kdat → X.A.in1.in1.units + d.depth < cLine := fun d hd => by
      obtain ⟨x, _, rfl⟩ := List.mem_map.mp hd
      have := hr.units
      show X.A.units + 1 + 1 + (kdat x).depth < cLine
      have : (kdat x).depth ≤ 4 := by simp [kdat, PyData.depth, PyData.depthAll]
      omega
    have hks : kA.size = its.length := by
      have h1 : vs.length = kA.toList.length := vv.length
      have h2 : vs.length = ks.length := Paired.length kp
      have h4 : kA.toList.length = kA.size := Array.length_toList
      omega
    obtain ⟨G, g1', g2'⟩ := restrict s'.heap fun b => decide (b ≠ kS)
    refine wpAny_bind (listItems_at nk rfl ?_)
    refine PySem.W.keyH_end (κ := PySem.W.dataKind s'.heap (ks.map kdat)) (h₁ := G) (fun b o _ q => ?_) (g2' kS (by simp)) nk na hka (PySem.W.SortsAt.data hrd hal hso hu) hks hzi fun h' tk c kb hD => ⟨rfl, ?_⟩
    · by_cases hb : b = kS
      · rw [hb, g2' kS (by simp)] at q
        cases q
      · rw [← g1' b (by simp [hb])]
        exact q
    have In0 := inv_unpin (inv_unpin In)
    have IG : Inv X pins σ Hn { s' with heap := G, toks := s'.toks } := In0.turned (it := kS) (fun b o hb q => by rw [g1' b (by simp [hb])]; exact q) hkn fk.2.1 fk.2.2.2.1 fk.2.2.2.2.1 (fun p hp => fk.2.2.2.2.2 p (by
      rcases List.mem_append.mp hp with hp | hp
      · exact List.mem_append_left _ hp
      · exact List.mem_append_right _ (List.mem_cons_of_mem _ hp)))
    have ko : PySem.W.KeyedOut false ((xs.zip ks).map fun b => kdat b.2) its (PySem.W.sortVals (PySem.W.dataKind s'.heap (ks.map kdat)) false kA.toList its) := ⟨s'.heap, kA.toList, by rw [hzip]; exact hal, by rw [hzip], by rw [hzip]; exact hrd⟩
    have ea := PySem.W.keyedOut_each (R := fun (u : Value) (b : V × (Int × Int)) => RelV b.1 u) (fun b => kdat b.2) ko (each_zip rv hk)
    have ele : PySem.W.dataLe false (fun b : V × (Int × Int) => kdat b.2) = fun p q => lexLe p.2 q.2 := by
      funext b c
      exact kdat_le (fun b : V × (Int × Int) => b.2) b c
    rw [ele] at ea
    have hlz : (((xs.zip ks).mergeSort fun p q => lexLe p.2 q.2).map (·.1)).length ≤ sizeLine := by
      rw [List.length_map, List.length_mergeSort, List.length_zip]
      omega
    have hob : ObjOk X.prog X.w (upd Hn a (.lst (((xs.zip ks).mergeSort fun p q => lexLe p.2 q.2).map (·.1)))) h' a (.lst (((xs.zip ks).mergeSort fun p q => lexLe p.2 q.2).map (·.1))) := ⟨hlz, _, c, each_vals ea, hD⟩
    have If := Inv.take (s := { s' with heap := G, toks := s'.toks }) (t' := tk) IG (fun b o hb q => kb b o hb q) ⟨han, fa.2⟩ hob
    exact ⟨.ref a, _, If, rfl, q a Hn sm han⟩
end
/-- a def of the module that may be a key of sorted -/
structure CalleeK (A : Amb) (ca : Nat → Addr) (x : Str) {U β : Type} (ts : Tys U) (τ : Ty β) (m : U → Rs β) : Prop where
  ex : ∃ (f : Addr) (fd : FuncData) (ps : List Str) (k : Nat), k + 1 ≤ A.k ∧ FnOk A.P A.w A.K A.mg A.base (L2.CX A.P A.w) k f fd ps (spOf A.K ca ts τ m) ∧ A.mg x = some (.ref f) ∧ PySem.W.keepIn A.K (.ref f) = true ∧ Binds A.K fd ps []
  db : (x == ("__debug__" : Str)) = false := by decide
variable {A : Amb} {ca : Nat → Addr}
theorem calleeK_blk {scope : Scope} {U β : Type} {x : Str} {τ' : Ty β} {ts : Tys U} {m : U → Rs β} (C : CalleeK A ca x ts τ' m) : CalleeK (A.blk scope) ca x ts τ' m := ⟨C.ex, C.db⟩
def keysM {α κ : Type} (key : α → Rs κ) : List α → Rs (List κ)
  | [] => .ok []
  | x :: r => (key x).bind fun k => (keysM key r).bind fun ks => .ok (k :: ks)
def srtK {α : Type} (key : α → Rs (Int × Int)) (xs : List α) : Rs (List α) := (nox (keysM key xs)).bind fun ks => .ok (((xs.zip ks).mergeSort fun p q => lexLe p.2 q.2).map (·.1))
theorem keysM_len {α κ : Type} {key : α → Rs κ} : ∀ {xs : List α} {ks : List κ}, keysM key xs = .ok ks → ks.length = xs.length ∧ ∀ (i : Nat) (x : α) (k : κ), xs[i]? = some x → ks[i]? = some k → key x = .ok k
  | [], ks, h => by
    cases h
    exact ⟨rfl, fun i x k h => by simp at h⟩
  | x :: r, ks, h => by
    unfold keysM at h
    cases hk : key x with
    | ok k =>
      rw [hk] at h
      simp only [Rs.bind] at h
      cases hr : keysM key r with
      | ok ks' =>
        rw [hr] at h
        cases h
        obtain ⟨h1, h2⟩ := keysM_len hr
        refine ⟨by simp [h1], fun i y k' hx hk' => ?_⟩
        cases i with
        | zero =>
          simp only [List.getElem?_cons_zero, Option.some.injEq] at hx hk'
          rw [← hx, ← hk']
          exact hk
        | succ i =>
          simp only [List.getElem?_cons_succ] at hx hk'
          exact h2 i y k' hx hk'
      | exc c => rw [hr] at h; cases h
      | bad => rw [hr] at h; cases h
    | exc c => rw [hk] at h; cases h
    | bad => rw [hk] at h; cases h
theorem paired_sort {α β κ : Type} {R : α → β → Prop} {le : κ → κ → Bool} {vs : List α} {as : List β} {ks : List κ} (h : Paired R vs as) (hk : ks.length = vs.length) : Paired R (((vs.zip ks).mergeSort fun p q => le p.2 q.2).map (·.1)) (((as.zip ks).mergeSort fun p q => le p.2 q.2).map (·.1)) := by
  obtain ⟨zs, h1, h2, h3⟩ : ∃ zs : List ((α × β) × κ), zs.map (fun z => (z.1.1, z.2)) = vs.zip ks ∧ zs.map (fun z => (z.1.2, z.2)) = as.zip ks ∧ ∀ z ∈ zs, R z.1.1 z.1.2 := by
    clear hk
    induction h generalizing ks with
    | nil => exact ⟨[], rfl, rfl, fun z hz => by simp at hz⟩
    | cons r _ ih =>
      cases ks with
      | nil => exact ⟨[], rfl, rfl, fun z hz => by simp at hz⟩
      | cons k ks =>
        obtain ⟨zs, h1, h2, h3⟩ := ih (ks := ks)
        refine ⟨((_, _), k) :: zs, by rw [List.map_cons, h1]; rfl, by rw [List.map_cons, h2]; rfl, fun z hz => ?_⟩
        rcases List.mem_cons.mp hz with rfl | hz
        · exact r
        · exact h3 z hz
  have e1 := List.map_mergeSort (r := fun z z' : (α × β) × κ => le z.2 z'.2) (s := fun p q : α × κ => le p.2 q.2) (f := fun z : (α × β) × κ => (z.1.1, z.2)) (l := zs) (fun _ _ _ _ => rfl)
  have e2 := List.map_mergeSort (r := fun z z' : (α × β) × κ => le z.2 z'.2) (s := fun p q : β × κ => le p.2 q.2) (f := fun z : (α × β) × κ => (z.1.2, z.2)) (l := zs) (fun _ _ _ _ => rfl)
  rw [← h1, ← h2, ← e1, ← e2, List.map_map, List.map_map]
  have h4 : ∀ z ∈ zs.mergeSort (fun z z' : (α × β) × κ => le z.2 z'.2), R z.1.1 z.1.2 := fun z hz => h3 z ((List.mergeSort_perm zs _).mem_iff.mp hz)
  generalize zs.mergeSort (fun z z' : (α × β) × κ => le z.2 z'.2) = ws at h4
  induction ws with
  | nil => exact .nil
  | cons w r ih => exact .cons (h4 w List.mem_cons_self) (ih fun z hz => h4 z (List.mem_cons_of_mem _ hz))
section
variable {S α : Type} {Γ : Cxt S} {τ : Ty α} {a : Expr} {pos p p2 p3 : Pos} {x y : Str} {f : S → Rs (List α)}
def rSortKD (F : Addr) (sp : Sp) : List V → List V → Hp → VK → Prop := fun vs zs H Q => ∃ (l : Addr) (xs : List V) (ks : List (Int × Int)), vs = [.ref l] ∧ zs = [.ref F] ∧ H l = some (.lst xs) ∧ ks.length = xs.length ∧
  (∀ (i : Nat) (v : V) (kk : Int × Int), xs[i]? = some v → ks[i]? = some kk → ∀ H1, Same H H1 → sp [v] H1 (fun u H2 => Same H1 H2 ∧ KeyIs H2 u kk) fun _ _ _ => False) ∧
  ∀ a H1, Same H H1 → H1 a = none → Q (.ref a) (upd H1 a (.lst (((xs.zip ks).mergeSort fun p q => lexLe p.2 q.2).map (·.1))))
theorem PL.sortedK {m : α → Rs (Int × Int)} (B : Blt A x (.builtin "sorted")) (C : CalleeK A ca y (.one τ) (tTup (.cons tI (.one tI))) m) (hg : GlA A y) (ha : BX A ca a Γ (cL τ) f) (h1 : star a = false := by rfl) : PL A ca (.Call (.Name x p) [a] [⟨some "key", .Name y p2, p3⟩] pos) Γ (cL τ) (fun s => (f s).bind (srtK m)) := by
  obtain ⟨ta, pa, qa⟩ := ha
  obtain ⟨fa, fd, ps, k, hk, F, hm, kp, hb⟩ := C.ex
  refine ⟨tCKw (rSortKD fa (spOf A.K ca (.one τ) (tTup (.cons tI (.one tI))) m)) (tCons ta tNil) (tCons (tC (.ref fa)) tNil), fun X hX => ?_, fun O σ H s Q hs hp => ?_⟩
  · have hcr : CallRK X (.builtin "sorted") [Str.ofString "key"] (rSortKD fa (spOf A.K ca (.one τ) (tTup (.cons tI (.one tI))) m)) := by
      intro pins s σ H vs zs us ws Q I rv rz h
      obtain ⟨l, xs, ks, rfl, rfl, h1, h2, h3, h4⟩ := h
      obtain rfl := Vals.ref1 rv
      obtain rfl := Vals.ref1 rz
      obtain ⟨prog, w, K, mg, base, N, sc, fn, nd, calm, room, pass, own, takes, top⟩ := hX
      exact sortedK_run (k := k) (fd := fd) (ps := ps) (by rw [prog, w, K, mg, base]; exact F) (room.mono hk) (by rw [K]; exact hb) I h1 h2 h3 h4
    exact pe_callBK hcr (hX.gl B.gl) (by rw [hX.mg]; exact B.mg) B.bt (pa_cons (pa X hX) pa_nil (star_each h1)) (pk_cons (pe_glob (hX.gl hg) (by rw [hX.mg]; exact hm) rfl C.db) pk_nil) B.nn B.db (by rw [star_each h1]; rfl) (by rw [star_each h1]; rfl)
  · refine qa O σ H s _ hs ((Rs.post_bind hp).mono (fun xs k2 l vs H1 s1 e z r => ?_) fun _ z => z)
    unfold srtK at k2
    cases hkm : keysM m xs with
    | exc c => rw [hkm] at k2; exact k2.elim
    | bad => rw [hkm] at k2; exact k2.elim
    | ok ks =>
      rw [hkm] at k2
      obtain ⟨hl, hkey⟩ := keysM_len hkm
      have hvl := Paired.length r
      refine ⟨l, vs, ks, rfl, rfl, e, by omega, fun i v kk hv hkk H2 s2 => ?_, fun q H2 s2 n => ?_⟩
      · obtain ⟨hi, _⟩ := List.getElem?_eq_some_iff.mp hkk
        obtain ⟨x', hx'⟩ : ∃ x', xs[i]? = some x' := ⟨_, List.getElem?_eq_getElem (by omega)⟩
        obtain ⟨v', hv', rv⟩ := Paired.get r hx'
        rw [hv] at hv'
        cases hv'
        have e1 := hkey i x' kk hx' hkk
        refine ⟨O, x', fun p hp => ?_, ⟨v, rfl, τ.mono (cut_grow s2) rv⟩, ?_⟩
        · have h0 := (hs.grow (s1.trans s2)).hid p hp
          exact h0
        · rw [e1]
          intro u H3 s3 rep
          obtain ⟨t, us, rfl, et, v1, r1, rfl, q1, v2, rfl, q2⟩ := rep
          refine ⟨s3, t, rfl, ?_⟩
          rw [show v1 = .int kk.1 from q1, show v2 = .int kk.2 from q2] at et
          exact cut_le _ _ et
      · have hle : (((vs.zip ks).mergeSort fun p q => lexLe p.2 q.2).map (·.1)).length ≤ sizeLine := by
          rw [List.length_map, List.length_mergeSort, List.length_zip]
          omega
        refine k2 q _ _ ((s1.trans s2).free n) ((s1.trans s2).trans (same_upd n)) upd_same hle ?_
        exact Paired.mono' (cut_new n) (paired_sort (Paired.mono' (cut_grow s2) r) (by omega))
end
end TL
/-! TL13: dict comprehensions whose keys are tuples. -/
namespace TL
open PySem PySem.Spec PyProof.Rows L2
section
variable {X : Cx}
/-- d[k] = v of a new dict, k a tuple -/
theorem set_tup {pins : List (Addr × Obj)} {σ : L2.St} {H : Hp} {s : Shared} {E : Value → Shared → Prop} {D b : Addr} {kvs : List (List L2.Key × V)} {ks : List L2.Key} {v : V} {u r : Value} {Q : Unit → Shared → Prop} (hu : X.A.units < cLine) (I : Inv X pins σ H s)
    (hD : H D = some (.dT kvs)) (hb : H b = some (.tup (ks.map kV))) (hz : kvs.length < sizeLine) (ry : RelV (.ref b) u) (rv : RelV v r) (h : ∀ s', Inv X pins σ (upd H D (.dT (putK kvs ks v))) s' → Q () s') : wpAny (model X.prog X.w) X.A (dictSet D u r) Q E s := by
  cases (show u = Value.ref b from ry)
  obtain ⟨z, hd, xs, rel, dd⟩ := dt_of I.hok hD
  have hl : (putK kvs ks v).length ≤ sizeLine := by
    have := length_putK kvs ks v
    omega
  refine wpAny_dictSet_heap (knd := tupleKind (mixKind X.prog X.w)) (hsz := by rw [← Paired.length rel]; exact z) hu (key_of I.hok hb) dd fun h' dd' same => h _ ?_
  obtain ⟨q, es, ep, hq, h2, h3, h4, _, h5⟩ := dd'
  exact d_write I (by rw [hD]; exact True.intro) same ⟨q, hq⟩ ⟨hl, hd, _, (rel.put ks hb rv).keeps fun c ys ec => by rw [upd_ne (ne_of ec hD (fun z => nomatch z))]; exact ec, q, es, ep, hq, h2, h3, h4, h5⟩
/-- {k: v for target in iter if ..}: D the new dict, its keys tuples -/
def tDcT (wi : TI) (g : TG) (tt : TT) (tk tv : TE) (vs : List Nat) : TE := fun σ H Q => wi σ H fun J H1 => ∀ D, H1 D = none → ∃ W : Nat → Nat → Hp → Prop, (∃ m, W 0 m (upd H1 D (.dT []))) ∧
  ∀ i m H, W i m H → (J.stop i H ∧ Q (.ref D) H) ∨ (J.go i H ∧ ∃ Nx : Hp → Prop, (∀ H', Nx H' → ∃ m', m' < m ∧ W (i + 1) m' H') ∧
    ∀ x H', J.yld i H x H' → g x (wipe σ vs) H' fun σ2 H2 => wipe σ2 vs = wipe σ vs ∧ tt σ2 H2 fun b H3 =>
      if b = true then tk σ2 H3 fun y H4 => tv σ2 H4 fun z H5 => ∃ kvs ks a, y = .ref a ∧ H5 a = some (.tup (ks.map kV)) ∧ H5 D = some (.dT kvs) ∧ kvs.length < sizeLine ∧ Nx (upd H5 D (.dT (putK kvs ks z))) else Nx H3)
theorem dcT_core {pins : List (Addr × Obj)} {s0 : Shared} {σ : L2.St} {H : Hp} {Q : VK} {kx vx tg iter : Expr} {ifs : List Expr} {scope : Scope} {own : List (Str × Nat)} {pos pos' : Pos} {wi : TI} {g : TG} {tt : TT} {tk tv : TE} {use : Option (Value → Sem Unit)} {Qf : Value → Shared → Prop} (calm : X.calm = true) (hu : X.A.units < cLine) (nd : X.N.Nodup) (I : Inv X pins σ H s0) (pi : PI X tg iter wi) (ok : BlkOk X.N X.env.scope scope own)
    (pg0 : ∀ (z : Shared) (G : Hp) (C : Addr) (cs : List (Str × Addr)) (fp : List Addr), PG (X.blk z G scope (compEnvC scope cs C X.env) fp) tg g)
    (pt0 : ∀ (z : Shared) (G : Hp) (C : Addr) (cs : List (Str × Addr)) (fp : List Addr), PTs (X.blk z G scope (compEnvC scope cs C X.env) fp) ifs tt)
    (pk0 : ∀ (z : Shared) (G : Hp) (C : Addr) (cs : List (Str × Addr)) (fp : List Addr), PE (X.blk z G scope (compEnvC scope cs C X.env) fp) kx tk)
    (pv0 : ∀ (z : Shared) (G : Hp) (C : Addr) (cs : List (Str × Addr)) (fp : List Addr), PE (X.blk z G scope (compEnvC scope cs C X.env) fp) vx tv)
    (fold : ∀ x, foldedSetIterable iter X.env x = pure x) (h : tDcT wi g tt tk tv (own.map (·.2)) σ H Q)
    (done : ∀ D C z m G, Inv X pins σ G z → Q (.ref D) G → z.heap.Ns C m → FpOk X pins G C → compPost (model X.prog X.w) X.A X.xe use Qf (.ref D) C (.ok .next) z) :
    wpAny (model X.prog X.w) X.A (comprehension (.DictComp kx vx [⟨tg, iter, ifs, 0⟩] scope pos) scope X.env pos' newDict false (eval iter X.env) use) Qf X.xe s0 := by
  have closed : ∀ y ∈ scope.names, y.2 = .free → ∃ c, X.env.cells.lookup y.1 = some c := fun y hy e => (ok.free y hy e).elim (fun k => I.ok.has _ (.inl k)) fun k => I.ok.has _ (.inr k)
  refine wpAny_comprehension_free (use := use) rfl fold (closure_ok closed) ok.kind (fun y hy e => by rw [ok.uniq y hy, e]) (thn (pi.run pins s0 σ H _ I h) fun xv sA hx => thn hx fun itv sB hB => ?_)
  obtain ⟨it, fp, tn, J, HB, rfl, IB, T, stB, fB, q⟩ := hB
  refine wpAny_newObj_type (newEnv_comp ?_)
  generalize hD : sB.heap.objs.size = D
  have nD : HB D = none := IB.hok.fresh (Nat.le_of_eq hD)
  obtain ⟨W, ⟨m0, w0⟩, turn⟩ := q D nD
  generalize hC : ({ sB with heap := sB.heap.push { cls := .type "dict", data := .dict #[] } } : Shared) = sC
  have hCh : sC.heap = sB.heap.push { cls := .type "dict", data := .dict #[] } := by rw [← hC]
  have IC : Inv X pins σ (upd HB D (.dT [])) sC := by
    subst hC
    exact IB.laid (t' := sB.toks) (fun b o e => Heap.get?_push_of_some _ e) (Nat.le_of_eq hD) (by rw [← hD]; exact dt_empty sB.heap IB.big)
  have low : ∀ b ∈ fp, b < sB.heap.objs.size := fun b hb => let ⟨_, e, _⟩ := T.obj _ _ stB b hb; Heap.lt_size e
  have fC : ∀ b ∈ fp, FpOk X pins (upd HB D (.dT [])) b ∧ b < sC.heap.objs.size := fun b hb => by
    have lt := low b hb
    refine ⟨⟨?_, (fB b hb).2⟩, by rw [hCh, Heap.size_push]; exact Nat.lt_succ_of_lt lt⟩
    rw [upd_ne (Nat.ne_of_lt (by rw [← hD]; exact lt))]
    exact (fB b hb).1
  have stC : tn 0 sC.heap := T.keep _ _ _ stB fun b _ o e => by rw [hCh]; exact Heap.get?_push_of_some _ e
  have ID := block_start IC ok nd fC
  obtain ⟨cs, hcs⟩ : ∃ cs, cs = cellsFrom (sC.heap.objs.size + 1) scope.names (cloFrom X.env.cells scope.names []) := ⟨_, rfl⟩
  obtain ⟨ce, hce⟩ : ∃ ce, ce = compEnvC scope cs sC.heap.objs.size X.env := ⟨_, rfl⟩
  obtain ⟨HC, hHC⟩ : ∃ HC, HC = upd HB D (.dT []) := ⟨_, rfl⟩
  have pg := pg0 sC HC sC.heap.objs.size cs fp
  have pt := pt0 sC HC sC.heap.objs.size cs fp
  have pk := pk0 sC HC sC.heap.objs.size cs fp
  have pv := pv0 sC HC sC.heap.objs.size cs fp
  rw [← hcs, ← hce, ← hHC] at ID
  rw [← hce] at pg pt pk pv
  rw [← hHC] at IC fC w0
  have cL : ce.locals = sC.heap.objs.size := by rw [hce]; rfl
  have nfp : ∀ b ∈ fp, HC b = none := fun b hb => (fC b hb).1.1
  show codeAny _ _ (.compStart (.DictComp kx vx [⟨tg, iter, ifs, 0⟩] scope pos) 0 (.ref it) (.ref D) (compEnvC scope (cellsFrom (sC.heap.objs.size + 1) scope.names (cloFrom X.env.cells scope.names [])) sC.heap.objs.size X.env)) (compPost (model X.prog X.w) X.A X.xe use Qf (.ref D) sC.heap.objs.size) { sC with heap := pushCells (sC.heap.push { cls := .type "dict", data := .dict #[] }) scope.names }
  rw [← hcs, ← hce]
  generalize hsD : ({ sC with heap := pushCells (sC.heap.push { cls := .type "dict", data := .dict #[] }) scope.names } : Shared) = sD at ID ⊢
  have stD : tn 0 sD.heap := T.keep _ _ _ stC fun b _ o e => by rw [← hsD]; exact pushCells_keeps _ _ _ _ (Heap.get?_push_of_some _ e)
  have stat : ∀ {σ' : L2.St} {H' : Hp} {s' : Shared}, Inv (X.blk sC HC scope ce fp) [] σ' H' s' → (∀ b ∈ fp, H' b = none) → ∀ b ∈ fp, FpOk (X.blk sC HC scope ce fp) [] H' b := fun I' hn b hb =>
    ⟨hn b hb, (I'.ok.exf b hb).1, I'.ok.exfs b hb, .inl hb, fun x c e => (I'.ok.exf b hb).2 x c e, fun p hp => absurd (show p ∈ ([] : List (Addr × Obj)) ++ [] from hp) (by simp)⟩
  refine codeAny_compStart_dict ?go (T.self X.A 0 _ _ _ stD ?go)
  refine compLoop_anyD (fun n z => ∃ i G, Inv (X.blk sC HC scope ce fp) [] (wipe σ (own.map (·.2))) G z ∧ tn i z.heap ∧ (∀ b ∈ fp, G b = none) ∧ W i n G) ?_ m0 ⟨0, HC, ID, stD, nfp, w0⟩
  rintro n z1 ⟨i, G1, J1, t1, n1, w1⟩
  rcases turn i n G1 w1 with ⟨stop, fin⟩ | ⟨go, Nx, hNx, step⟩
  · refine thnF (T.done (X.blk sC HC scope ce fp) rfl rfl rfl calm i [] z1 _ G1 (fun _ _ => False) J1 (stat J1 n1) t1 stop) fun r z2 ⟨hr, J2⟩ => ?_
    subst hr
    have back : Inv X pins σ G1 z2 := IC.call' (ch := fp) J2.os J2.base J2.hok J2.bare fun b hb => ⟨(fC b hb).1.2.2.2.1, (fC b hb).1.2.1, (fC b hb).1.2.2.2.2.1, (fC b hb).1.2.2.2.2.2⟩
    obtain ⟨m, hn, _⟩ := J2.loc
    have nC : G1 sC.heap.objs.size = none := by rw [← cL]; exact J2.free
    exact done D _ z2 m G1 back fin (by rw [← cL]; exact hn) (IC.fpOk (Nat.le_refl _) nC)
  · refine thnF (T.item (X.blk sC HC scope ce fp) rfl rfl rfl calm i [] z1 _ G1 (fun _ _ => False) J1 (stat J1 n1) t1 go) fun r z2 ⟨u, hr, h2⟩ => ?_
    subst hr
    refine thnF h2 fun _ z3 ⟨x, G3, J3, r3, y3, t3, n3⟩ => ?_
    have J3' := J3.pinned (stat J3 n3) (T.obj _ _ t3)
    refine thnF (pg.run _ z3 _ G3 x u _ J3' r3 (step x G3 y3)) fun _ z4 ⟨τ4, G4, J4, hw, q4⟩ => thnF (pt.run _ z4 τ4 G4 _ J4 q4) fun b z5 ⟨G5, J5, q5⟩ => ?_
    have over : ∀ {z' : Shared} {G' : Hp}, Inv (X.blk sC HC scope ce fp) ([] ++ pinsAt fp z3.heap) τ4 G' z' → Nx G' → ∃ m, m < n ∧ ∃ i G, Inv (X.blk sC HC scope ce fp) [] (wipe σ (own.map (·.2))) G z' ∧ tn i z'.heap ∧ (∀ b ∈ fp, G b = none) ∧ W i m G := fun {z' G'} J' nx => by
      obtain ⟨m', hm, w'⟩ := hNx G' nx
      have held : ∀ b ∈ fp, ∀ o, z3.heap.get? b = some o → z'.heap.get? b = some o ∧ G' b = none := fun b hb o e => by
        have zz := J'.pin (b, o) (List.mem_append_right _ (List.mem_append_right _ (mem_pinsAt hb e)))
        exact ⟨zz.1, zz.2.1⟩
      refine ⟨m', hm, i + 1, G', (J'.unpinned (pins := [])).weak (by rw [← hw, wipe_length]) (fun j v e => ?_), T.keep _ _ _ t3 fun b hb o e => (held b hb o e).1, fun b hb => ?_, w'⟩
      · rw [← hw] at e
        exact (wipe_some e).1
      · obtain ⟨o, e, _⟩ := T.obj _ _ t3 b hb
        exact (held b hb o e).2
    cases b with
    | false => exact over J5 q5
    | true =>
      refine thnF (pk.run _ z5 τ4 G5 _ J5 q5) fun c6 z6 ⟨y6, G6, J6, r6, q6⟩ => thnF (pv.run _ z6 τ4 G6 _ J6 q6) fun c7 z7 ⟨y7, G7, J7, r7, kvs, ks, a, ea, ek, eD, hz, nx⟩ => ?_
      subst ea
      exact set_tup (X := X.blk sC HC scope ce fp) hu J7 eD ek hz r6 r7 fun z8 J8 => over J8 nx
/-- .. as a value -/
theorem pe_dcT {kx vx tg iter : Expr} {ifs : List Expr} {scope : Scope} {own : List (Str × Nat)} {pos : Pos} {wi : TI} {g : TG} {tt : TT} {tk tv : TE} (calm : X.calm = true) (hu : X.A.units < cLine) (nd : X.N.Nodup) (pi : PI X tg iter wi) (ok : BlkOk X.N X.env.scope scope own)
    (pg0 : ∀ (z : Shared) (G : Hp) (C : Addr) (cs : List (Str × Addr)) (fp : List Addr), PG (X.blk z G scope (compEnvC scope cs C X.env) fp) tg g)
    (pt0 : ∀ (z : Shared) (G : Hp) (C : Addr) (cs : List (Str × Addr)) (fp : List Addr), PTs (X.blk z G scope (compEnvC scope cs C X.env) fp) ifs tt)
    (pk0 : ∀ (z : Shared) (G : Hp) (C : Addr) (cs : List (Str × Addr)) (fp : List Addr), PE (X.blk z G scope (compEnvC scope cs C X.env) fp) kx tk)
    (pv0 : ∀ (z : Shared) (G : Hp) (C : Addr) (cs : List (Str × Addr)) (fp : List Addr), PE (X.blk z G scope (compEnvC scope cs C X.env) fp) vx tv)
    (fold : ∀ x, foldedSetIterable iter X.env x = pure x := by intro _; rfl) : PE X (.DictComp kx vx [⟨tg, iter, ifs, 0⟩] scope pos) (tDcT wi g tt tk tv (own.map (·.2))) := by
  refine ⟨fun pins s0 σ H Q I h => ?_⟩
  rw [arm_eval_DictComp]
  refine dcT_core calm hu nd I pi ok pg0 pt0 pk0 pv0 fold h fun D C z m G I' q hn f => ⟨m, hn, fun h2 same => ?_⟩
  obtain ⟨f0, f1, _, f3, f4, f5⟩ := f
  exact ⟨.ref D, G, I'.turned (t' := z.toks) (fun b o hb e => (same.2 b hb).trans e) f0 f1 f3 f4 f5, rfl, q⟩
/-- name = {..} on one line, the name a local -/
theorem ps_setDcT {i : Nat} {y : Str} {py spos : Pos} {kx vx tg iter : Expr} {ifs : List Expr} {scope : Scope} {own : List (Str × Nat)} {pos : Pos} {wi : TI} {g : TG} {tt : TT} {tk tv : TE} (calm : X.calm = true) (hu : X.A.units < cLine) (nd : X.N.Nodup) (hN : X.N[i]? = some y) (hy : X.env.scope.names.lookup y = some .local)
    (sw : swapsWith (.DictComp kx vx [⟨tg, iter, ifs, 0⟩] scope pos) (some (.Name y py)) spos.line X.env = pure true) (pi : PI X tg iter wi) (ok : BlkOk X.N X.env.scope scope own)
    (pg0 : ∀ (z : Shared) (G : Hp) (C : Addr) (cs : List (Str × Addr)) (fp : List Addr), PG (X.blk z G scope (compEnvC scope cs C X.env) fp) tg g)
    (pt0 : ∀ (z : Shared) (G : Hp) (C : Addr) (cs : List (Str × Addr)) (fp : List Addr), PTs (X.blk z G scope (compEnvC scope cs C X.env) fp) ifs tt)
    (pk0 : ∀ (z : Shared) (G : Hp) (C : Addr) (cs : List (Str × Addr)) (fp : List Addr), PE (X.blk z G scope (compEnvC scope cs C X.env) fp) kx tk)
    (pv0 : ∀ (z : Shared) (G : Hp) (C : Addr) (cs : List (Str × Addr)) (fp : List Addr), PE (X.blk z G scope (compEnvC scope cs C X.env) fp) vx tv)
    (fold : ∀ x, foldedSetIterable iter X.env x = pure x) : PS X (.Assign [.Name y py] (.DictComp kx vx [⟨tg, iter, ifs, 0⟩] scope pos) spos) (tAsg (tDcT wi g tt tk tv (own.map (·.2))) (gName i)) := by
  refine ⟨fun pins s0 σ H D I h => ?_⟩
  rw [exec_Assign_Name_used _ _ _ _ sw]
  refine wpAny_bind (wpAny_standAt (wpAny_bind ?_))
  show wpAny _ X.A (do let _ ← comprehension (.DictComp kx vx [⟨tg, iter, ifs, 0⟩] scope pos) scope X.env (firstIterPos [⟨tg, iter, ifs, 0⟩] pos) newDict false (eval iter X.env) (some (assign (.Name y py) X.env))) _ _ s0
  have h : tDcT wi g tt tk tv (own.map (·.2)) σ H (fun x G => gName i x σ G D.nx) := h
  refine wpAny_bind (thn (dcT_core (Qf := fun _ z => SP X pins D .next z) calm hu nd I pi ok pg0 pt0 pk0 pv0 fold h fun L C z m G I' q hn f => ?_) fun _ z hq => wpAny_pure (wpAny_pure hq))
  show wpAny _ _ (assign (.Name y py) X.env (.ref L)) _ _ _
  obtain ⟨f0, f1, _, f3, f4, f5⟩ := f
  refine wpAny_assign_Name (store_ok2 (v := V.ref L) I' nd hN (.inl hy) rfl (fun z2 I2 ⟨a, sb, at_⟩ => ?_) (.inr hy))
  have ne : C ≠ a := fun e => at_.elim (fun u => f1 (e.trans u)) fun u => f4 y a u e.symm
  exact ⟨m, hn.sameBut sb ne, fun h3 sb3 => ⟨_, G, I2.turned (t' := z2.toks) (fun b o hb e => (sb3.2 b hb).trans e) f0 f1 f3 f4 f5, q⟩⟩
theorem sw_trueD {kx vx : Expr} {gs : List Comprehension} {scope : Scope} {pos py : Pos} {y : Str} {l : Nat} {env : Env} (hk : env.scope.kind = .function) (hy : env.scope.names.lookup y = some .local) (hl : (py.line == pos.line) = true)
    (hn : (scope.names.any fun (n, k) => n == y && (k == .local || k == .cell)) = false) : swapsWith (.DictComp kx vx gs scope pos) (some (.Name y py)) l env = pure true := by
  have ky : env.kindOf y = some .local := hy
  have bk : env.blockKind = .function := by
    unfold Env.blockKind
    rw [hk]
    rfl
  unfold swapsWith
  simp only [bk, ky, hn, Expr.pos, hl]
  rfl
end
end TL
/-! TL14: dicts whose keys are pairs of ints; the truth of lists; two names at once. -/
namespace TL
open PySem PySem.Spec PyProof.Rows L2
variable {A : Amb} {ca : Nat → Addr}
theorem paired_append {α β : Type} {R : α → β → Prop} {as cs : List α} {bs ds : List β} (h : Paired R as bs) (h' : Paired R cs ds) : Paired R (as ++ cs) (bs ++ ds) := by
  induction h with
  | nil => exact h'
  | cons r _ ih => exact .cons r ih
/-! ### keys -/
def pk (k : Int × Int) : List L2.Key := [.inl k.1, .inl k.2]
theorem pk_inj {a b : Int × Int} : pk a = pk b ↔ a = b := by
  unfold pk
  constructor
  · intro h
    simp only [List.cons.injEq, Sum.inl.injEq] at h
    exact Prod.ext h.1 h.2.1
  · intro h
    rw [h]
theorem pk_V (k : Int × Int) : (pk k).map kV = [.int k.1, .int k.2] := rfl
def putA {α : Type} (as : List ((Int × Int) × α)) (k : Int × Int) (a : α) : List ((Int × Int) × α) :=
  if (as.any fun q => decide (q.1 = k)) = true then as.map (fun q => if q.1 = k then (q.1, a) else q) else as ++ [(k, a)]
def getA {α : Type} (as : List ((Int × Int) × α)) (k : Int × Int) : Option α := (as.find? fun q => decide (q.1 = k)).map (·.2)
def DRel {α : Type} (τ : Ty α) (K : PySem.W.Frag) (H : Hp) (p : List L2.Key × V) (a : (Int × Int) × α) : Prop := p.1 = pk a.1 ∧ τ.rep K H p.2 a.2
theorem DRel.mono {α : Type} {τ : Ty α} {K : PySem.W.Frag} {H H' : Hp} (s : Same H H') {kvs : List (List L2.Key × V)} {as : List ((Int × Int) × α)} (h : Paired (DRel τ K H) kvs as) : Paired (DRel τ K H') kvs as :=
  paired_mono (fun _ _ q => ⟨q.1, τ.mono s q.2⟩) h
section
variable {α : Type} {τ : Ty α} {K : PySem.W.Frag} {H : Hp} {kvs : List (List L2.Key × V)} {as : List ((Int × Int) × α)}
theorem drel_any (h : Paired (DRel τ K H) kvs as) (k : Int × Int) : (kvs.any fun q => decide (q.1 = pk k)) = as.any fun q => decide (q.1 = k) := by
  induction h with
  | nil => rfl
  | cons r _ ih =>
    rw [List.any_cons, List.any_cons, ih, r.1]
    congr 1
    exact decide_eq_decide.mpr pk_inj
theorem drel_put (h : Paired (DRel τ K H) kvs as) (k : Int × Int) {v : V} {a : α} (r : τ.rep K H v a) : Paired (DRel τ K H) (putK kvs (pk k) v) (putA as k a) := by
  unfold putK putA
  rw [drel_any h k]
  split
  · have key : ∀ {kvs : List (List L2.Key × V)} {as : List ((Int × Int) × α)}, Paired (DRel τ K H) kvs as → Paired (DRel τ K H) (kvs.map fun kv => if kv.1 = pk k then (kv.1, v) else kv) (as.map fun q => if q.1 = k then (q.1, a) else q) := fun h => by
      induction h with
      | nil => exact .nil
      | @cons p q ps qs r1 _ ih =>
        refine .cons ?_ ih
        dsimp only
        by_cases e : q.1 = k
        · rw [if_pos e, if_pos (by rw [r1.1, e])]
          exact ⟨r1.1, r⟩
        · rw [if_neg e, if_neg (by rw [r1.1]; exact fun z => e (pk_inj.mp z))]
          exact r1
    exact key h
  · exact paired_append h (.cons ⟨rfl, r⟩ .nil)
theorem drel_get (h : Paired (DRel τ K H) kvs as) (k : Int × Int) : (valV kvs (pk k)).isSome = (getA as k).isSome ∧ ∀ a, getA as k = some a → ∃ v, valV kvs (pk k) = some v ∧ τ.rep K H v a := by
  induction h with
  | nil => exact ⟨rfl, fun a e => by cases e⟩
  | @cons p q ps qs r1 _ ih =>
    by_cases e : q.1 = k
    · have e1 : p.1 = pk k := by rw [r1.1, e]
      rw [valV_pos e1]
      have e2 : getA (q :: qs) k = some q.2 := by simp [getA, List.find?_cons, e]
      rw [e2]
      refine ⟨rfl, fun a h => ?_⟩
      cases h
      exact ⟨_, rfl, r1.2⟩
    · have e1 : ¬ p.1 = pk k := by rw [r1.1]; exact fun z => e (pk_inj.mp z)
      rw [valV_neg e1]
      have e2 : getA (q :: qs) k = getA qs k := by simp [getA, List.find?_cons, e]
      rw [e2]
      exact ih
theorem putA_len (as : List ((Int × Int) × α)) (k : Int × Int) (a : α) : (putA as k a).length ≤ as.length + 1 := by
  unfold putA
  split
  · rw [List.length_map]; omega
  · rw [List.length_append]; simp
end
/-- a dict from pairs of ints -/
def tD {α : Type} (τ : Ty α) : Ty (List ((Int × Int) × α)) := ⟨fun K H v as => ∃ p kvs, v = .ref p ∧ H p = some (.dT kvs) ∧ kvs.length ≤ sizeLine ∧ Paired (DRel τ K H) kvs as,
  fun s ⟨p, kvs, e, q, z, r⟩ => ⟨p, kvs, e, s _ _ q, z, DRel.mono s r⟩⟩
def cD {α : Type} (τ : Ty α) : Cd (List ((Int × Int) × α)) := ⟨fun K H kvs as => Paired (DRel τ K H) kvs as, fun s h => DRel.mono s h⟩
section
variable {ρ S S' S'' L α β γ U : Type} {Γ : Cxt S} {Γ' : Cxt S'} {Γ'' : Cxt S''} {Γl : Cxt L} {rr : Rr ρ} {τ : Ty α} {τ' : Ty β} {c : Ct α} {e a b d tg iter : Expr} {pos p p2 py : Pos} {x y : Str} {st : Stmt} {sts : List Stmt} {i : Nat}
/-- d[k] -/
theorem PX.getD {f : S → Rs (List ((Int × Int) × α))} {g : S → Rs (Int × Int)} (hs : NoSl b) (ha : PX A ca a Γ (tD τ) f) (hb : PX A ca b Γ (tTup (.cons tI (.one tI))) g) : PX A ca (.Subscript a b pos) Γ τ (fun s => (f s).bind fun d => (g s).bind fun k => Rs.ofOpt (getA d k)) := by
  obtain ⟨ta, pa, qa⟩ := ha
  obtain ⟨tb, pb, qb⟩ := hb
  refine ⟨tDGet ta tb, fun X hX => pe_dget (by have := hX.room.un; omega) (pa X hX) (pb X hX) hs, fun O σ H s Q h0 hp => PX.two (k := fun d k => Rs.ofOpt (getA d k)) qa qb h0 hp fun d k v u H2 sm r1 r2 kk => ?_⟩
  obtain ⟨q, kvs, rfl, e, z, r⟩ := r1
  obtain ⟨t, us, rfl, et, v1, r1, rfl, q1, v2, rfl, q2⟩ := r2
  rw [show v1 = .int k.1 from q1, show v2 = .int k.2 from q2] at et
  obtain ⟨y, ey, kk⟩ := Rs.post_ofOpt kk
  obtain ⟨w, ew, rw'⟩ := (drel_get r k).2 y ey
  exact ⟨q, w, rfl, by rw [← ew]; exact DGet.t (cut_le _ _ e) (cut_le _ _ et), kk w H2 sm rw'⟩
/-- k not in d, d a slot's own dict -/
theorem PB.notInDo {f : S → Rs (Int × Int)} {g : S → List ((Int × Int) × β)} (ha : PX A ca a Γ (tTup (.cons tI (.one tI))) f) (hb : At Γ i (.ownD (cD τ')) g) (hN : A.N[i]? = some x) (hv : Vis A.sc x) (hd : (x == ("__debug__" : Str)) = false := by decide) (hcd : (x == ("__classdict__" : Str)) = false := by decide) :
    PB A ca (.Compare a [.NotIn] [.Name x p] pos) Γ (fun s => (f s).bind fun k => .ok (!(getA (g s) k).isSome)) := by
  obtain ⟨ta, pa, qa⟩ := ha
  refine ⟨L2.tB (tDNotIn ta (tVar i)), fun X hX => pt_cmp (pc_dnotin (by have := hX.room.un; omega) (pa X hX) (pe_var (by rw [hX.N]; exact hN) (by rw [hX.sc]; exact hv) hd hcd)) rfl, fun O σ H s Q h0 hp => qa O σ H s _ h0 ((Rs.post_bind hp).mono (fun k kq v H1 s1 r => ?_) fun _ z => z)⟩
  obtain ⟨t, us, rfl, et, v1, r1, rfl, q1, v2, rfl, q2⟩ := r
  rw [show v1 = .int k.1 from q1, show v2 = .int k.2 from q2] at et
  obtain ⟨⟨Og, h1, h2⟩, h3⟩ := h0.grow s1
  obtain ⟨xv, Oi, e1, e2, q, kvs, rfl, rfl, e4, z4, r4⟩ := hb.val h2
  refine ⟨.ref q, e1, q, valV kvs (pk k), rfl, DGet.t e4 (cut_le _ _ et), _, rfl, ?_⟩
  rw [(drel_get r4 k).1]
  exact kq H1 s1
/-- the truth of a list -/
theorem PB.truth {f : S → Rs (List α)} (h : BX A ca e Γ (cL τ) f) (he : ∀ env whole, isTrue e env whole = (do let v ← whole; standAt e.pos; holding [v] (truthy v))) : PB A ca e Γ (fun s => (f s).bind fun xs => .ok (!xs.isEmpty)) := by
  obtain ⟨t, ht, q⟩ := h
  refine ⟨fun σ H Q => t σ H fun x H' => ∃ k, TruV A.K x H' k ∧ Q k H', fun X hX => by rw [← hX.K]; exact pt_truth (ht X hX) (he X.env), fun O σ H s Q hs hp => q O σ H s _ hs ((Rs.post_bind hp).mono (fun xs k p vs H' sm e z r => ?_) fun _ z => z)⟩
  refine ⟨_, .inl ⟨vs, .inl (.inl e), rfl⟩, ?_⟩
  have : (!vs.isEmpty) = !xs.isEmpty := by
    have h : Paired (τ.rep A.K (cut H' O)) vs xs := r
    cases h <;> rfl
  rw [this]
  exact k H' sm
/-- list(d) -/
theorem PL.listD {f : S → Rs (List ((Int × Int) × α))} (B : Blt A x (.type "list")) (ha : PX A ca a Γ (tD τ) f) (hs : star a = false := by rfl) : PL A ca (.Call (.Name x p) [a] [] pos) Γ (cL (tTup (.cons tI (.one tI)))) (fun s => (f s).bind fun d => .ok (d.map (·.1))) := by
  obtain ⟨ta, pa, qa⟩ := ha
  refine ⟨_, fun X hX => callT1 hX B (call_list_dT hX.calm) (pa X hX) hs, fun O σ H s Q h0 hp => qa O σ H s _ h0 ((Rs.post_bind hp).mono (fun d k v H1 s1 r => ?_) fun _ z => z)⟩
  obtain ⟨q, kvs, rfl, e, z, r⟩ := r
  refine ⟨q, kvs, rfl, .inl (cut_le _ _ e), fun l bs n ik => ?_⟩
  have hlen : (bs.map V.ref).length ≤ sizeLine := by
    rw [List.length_map, ← Paired.length ik]
    exact z
  refine k l (bs.map V.ref) _ (s1.free n) (s1.trans (same_upd n)) upd_same hlen ?_
  have hid := (h0.grow s1).hid
  have key : ∀ {kvs : List (List L2.Key × V)} {bs : List Addr} {d : List ((Int × Int) × α)}, IsKeys H1 kvs bs → Paired (DRel τ A.K (cut H1 O)) kvs d → Paired ((tTup (.cons tI (.one tI))).rep A.K (cut (upd H1 l (.lst (bs.map V.ref))) (l :: O))) (bs.map V.ref) (d.map (·.1)) := fun {kvs bs d} h1 h2 => by
    have gen : ∀ {G : Hp} {kvs : List (List L2.Key × V)} {bs : List Addr} {d : List ((Int × Int) × α)}, (∀ b us, H1 b = some (.tup us) → G b = some (.tup us)) → IsKeys H1 kvs bs → Paired (DRel τ A.K (cut H1 O)) kvs d → Paired ((tTup (.cons tI (.one tI))).rep A.K G) (bs.map V.ref) (d.map (·.1)) := fun {G kvs bs d} hG h1 h2 => by
      induction h2 generalizing bs with
      | nil => cases h1; exact .nil
      | cons r2 _ ih =>
        cases h1 with
        | cons r1 r1' =>
          refine .cons ?_ (ih r1')
          rw [r2.1, pk_V] at r1
          exact ⟨_, _, rfl, hG _ _ r1, _, _, rfl, rfl, _, rfl, rfl⟩
    refine gen (fun b us eb => ?_) h1 h2
    have b1 : b ≠ l := ne_of_none eb n
    have b2 : b ∉ O := fun z => by
      obtain ⟨o, e1, e2⟩ := hid b z
      rw [eb] at e1
      cases e1
      exact e2 _ rfl
    rw [cut_out (by simp [b1, b2]), upd_ne b1]
    exact eb
  exact key ik r
/-! ### a dict that a slot owns is written -/
theorem RSo.writeD {K : PySem.W.Frag} {F : Fm} {L : Lo} {R : Mn} {Og : List Addr} {σ : L2.St} {H : Hp} {s : S} {c : Cd β} {g : S → β} {put : S → β → S} (h : RSo K F L R Og Γ σ H s) (hw : WrD Γ i c g put) :
    ∃ q vs, σ[i]? = some (some (.ref q)) ∧ H q = some (.dT vs) ∧ vs.length ≤ sizeLine ∧ c.rep K (cut H (hid F L Og)) vs (g s) ∧
      ∀ (ws : List (List L2.Key × V)) (b : β), ws.length ≤ sizeLine → c.rep K (cut H (hid F L Og)) ws b → RSo K F L R Og Γ σ (upd H q (.dT ws)) (put s b) := by
  obtain ⟨q, vs, e1, e2, e3, z3, r, hq⟩ := hw.write h.rep (List.nodup_append.mp h.nd).2.1
  have hO : q ∈ hid F L Og := List.mem_append_right _ (List.mem_append_right _ e2)
  have hL : ∀ x ∈ L, x.1 ≠ q := fun x hx e => (List.nodup_append.mp h.nd).2.2 x.1 (List.mem_map.mpr ⟨x, hx, rfl⟩) q e2 e
  refine ⟨q, vs, e1, e3, z3, r, fun ws b hz hd => ?_⟩
  have nw := hq ws b hz hd
  have hn : ∀ p, Hidn H p → Hidn (upd H q (.dT ws)) p := fun p hp => by
    by_cases e : p = q
    · rw [e]; exact Hidn.dT upd_same
    · obtain ⟨o, h1, h2⟩ := hp
      exact ⟨o, by rw [upd_ne e]; exact h1, h2⟩
  refine ⟨by rw [cut_upd hO]; exact nw, by rw [cut_upd hO]; exact h.rs, h.nd, fun p hp => ⟨(h.ow p hp).1, (h.ow p hp).2.1, hn p (h.ow p hp).2.2⟩, fun x hx => by rw [upd_ne (hL x hx)]; exact h.lo x hx, fun b o e hb => ?_, h.hb, fun p hp => hn p (h.hi p hp)⟩
  have : b ≠ q := fun z => by
    rw [z] at e hb
    rcases (h.ow q (List.mem_append_right _ e2)).1 with n | n
    · rw [e] at n; cases n
    · exact hb n
  rw [upd_ne this]
  exact h.fr b o e hb
/-- d[k] = e -/
theorem SX.setDo {f : S → Rs α} {g : S → List ((Int × Int) × α)} {put : S → List ((Int × Int) × α) → S} {fi : S → Rs (Int × Int)} {xp xp2 : Pos} (he : PX A ca e Γ τ f) (hw : WrD Γ i (cD τ) g put) (hN : A.N[i]? = some x) (hv : Vis A.sc x) (hix : PX A ca b Γ (tTup (.cons tI (.one tI))) fi)
    (hs : ∀ env, swapsWith e (some (.Subscript (.Name x xp) b xp2)) pos.line env = pure false := by intro _; rfl) (hd : (x == ("__debug__" : Str)) = false := by decide) (hcd : (x == ("__classdict__" : Str)) = false := by decide) :
    SX A ca (.Assign [.Subscript (.Name x xp) b xp2] e pos) Γ Γ Γl rr (fun s => (f s).bind fun r => (fi s).bind fun k => Rs.guard (decide ((g s).length < sizeLine)) (.ok (.nx (put s (putA (g s) k r))))) := by
  obtain ⟨t, ht, q⟩ := he
  obtain ⟨ti, hti, qi⟩ := hix
  refine ⟨_, fun X hX => ps_dput (by have := hX.room.un; omega) (pe_var (i := i) (by rw [hX.N]; exact hN) (by rw [hX.sc]; exact hv) hd hcd) (hti X hX) (ht X hX) (hs X.env), fun F R σ H s D ⟨Og, h0⟩ hp => q _ σ H s _ h0.sx ((Rs.post_bind hp).mono (fun r k v H1 s1 rv => ?_) fun _ z => z.exw h0.fr)⟩
  have h1 := h0.grow s1
  obtain ⟨l, vs, e1, _, _, _, _⟩ := h1.writeD hw
  refine ⟨.ref l, e1, qi _ σ H1 s _ h1.sx ((Rs.post_bind k).mono (fun j kj u H2 s2 ru => ?_) fun _ z => z.exw h1.fr)⟩
  obtain ⟨hc, kj⟩ := Rs.post_guard kj
  have h2 := h1.grow s2
  obtain ⟨l2, vs2, e12, e32, z32, r32, hwr⟩ := h2.writeD hw
  have : l2 = l := by rw [e1] at e12; simpa using e12.symm
  subst this
  obtain ⟨t2, us, rfl, et, v1, r1, rfl, q1, v2, rfl, q2⟩ := ru
  rw [show v1 = .int j.1 from q1, show v2 = .int j.2 from q2] at et
  have hlen : vs2.length = (g s).length := Paired.length (show Paired _ vs2 (g s) from r32)
  have hlt : vs2.length < sizeLine := by rw [hlen]; exact of_decide_eq_true hc
  refine ⟨l2, _, rfl, DPut.t e32 (k := pk j) (cut_le _ _ et) hlt, ?_⟩
  have hz : (putK vs2 (pk j) v).length ≤ sizeLine := by
    have := length_putK vs2 (pk j) v
    omega
  exact kj σ _ ⟨Og, hwr _ _ hz (drel_put r32 j (τ.mono (cut_grow s2) rv))⟩
end
end TL
/-! TL15: two names at once that own what they get; dict comprehensions. -/
namespace TL
open PySem PySem.Spec PyProof.Rows L2
variable {A : Amb} {ca : Nat → Addr}
section
variable {ρ S S' S'' L α β γ U : Type} {Γ : Cxt S} {Γ' : Cxt S'} {Γ'' : Cxt S''} {Γl : Cxt L} {rr : Rr ρ} {τ : Ty α} {τ' : Ty β} {c : Ct α} {c' : Ct β} {e a b d tg iter : Expr} {pos p p2 py : Pos} {x y : Str} {st : Stmt} {sts : List Stmt} {i j : Nat}
/-- x, y = [..], [..] -/
theorem SX.parLL {px pyy pt pt2 : Pos} {kt k2 : Nat} {f : S → Rs α} {g : S → Rs β} {S3 : Type} {Γ3 : Cxt S3} {put : S → β → S''} {put2 : S'' → α → S3} (hi : A.N[i]? = some x) (hj : A.N[j]? = some y) (hij : i ≠ j) (hx : A.sc.names.lookup x = some .local) (hy : A.sc.names.lookup y = some .local)
    (ha : PL A ca a Γ c f) (hb : PL A ca b Γ c' g) (hp : Put Γ j (.own none c') Γ'' put) (hp2 : Put Γ'' i (.own none c) Γ3 put2) (hw : ∀ X, A.In X → swappedStores [.Tuple [.Name x px, .Name y pyy] kt pt] (.Tuple [a, b] k2 pt2) X.env = pure (some [x, y])) (h1 : star a = false := by rfl) (h2 : star b = false := by rfl) :
    SX A ca (.Assign [.Tuple [.Name x px, .Name y pyy] kt pt] (.Tuple [a, b] k2 pt2) pos) Γ Γ3 Γl rr (fun s => (f s).bind fun u => (g s).bind fun v => .ok (.nx (put2 (put s v) u))) := by
  obtain ⟨ta, pa, qa⟩ := ha
  obtain ⟨tb, pb, qb⟩ := hb
  refine ⟨_, fun X hX => ps_par hX.calm (by rw [hX.N]; exact hX.nd) (by rw [hX.N]; exact hi) (by rw [hX.N]; exact hj) hij (by rw [hX.sc]; exact hx) (by rw [hX.sc]; exact hy) (pa_cons (pa X hX) (pa_cons (pb X hX) pa_nil (star_each h2)) (star_each h1)) (hw X hX), fun F R σ H s D ⟨Og, h0⟩ hq => ?_⟩
  refine qa _ σ H s _ h0.sx ((Rs.post_bind hq).mono (fun u ku q1 vs1 H1 n1 s1 e1 z1 r1 => ?_) fun _ z => z.exw h0.fr)
  have l1 := h0.loose (R' := Mn.lst A.K c vs1 u) n1 s1 e1 r1
  refine qb _ σ H1 s _ l1.sx ((Rs.post_bind ku).mono (fun v kv q2 vs2 H2 n2 s2 e2 z2 r2 => ?_) fun _ z => z.exw l1.fr)
  have l2 := l1.loose (R' := Mn.lst A.K c' vs2 v) n2 s2 e2 r2
  refine ⟨_, _, rfl, ?_⟩
  obtain ⟨Og2, m1⟩ := l2.storeO (R' := R.and (Mn.lst A.K c vs1 u)) hp z2 (fun G z => z.2) fun G z => z.1
  have m2 := m1.storeO (R' := R) hp2 z1 (fun G z => z.2) fun G z => z.1
  rw [List.set_comm _ _ (Ne.symm hij)] at m2
  exact kv _ _ m2
/-- a new dict goes to a slot -/
theorem RSo.storeD {K : PySem.W.Frag} {F : Fm} {L : Lo} {R : Mn} {Og : List Addr} {σ : L2.St} {H : Hp} {s : S} {c : Cd β} {q : Addr} {b : β} {put : S → β → S'} (h : RSo K F L R Og Γ σ H s) (n : H q = none) (hp : Put Γ i (.ownD c) Γ' put) (hk : ∀ G, c.rep K G [] b) :
    ∃ Og2, (∀ z ∈ Og2, z ∈ q :: Og) ∧ RSo K F L R Og2 Γ' (σ.set i (some (.ref q))) (upd H q (.dT [])) (put s b) := by
  have hq : q ∉ hid F L Og := fun z => (h.hidden q z).ne n
  have key : Same (cut H (hid F L Og)) (cut (upd H q (.dT [])) (q :: hid F L Og)) := cut_new n
  have rep : Γ.rep K (cut (upd H q (.dT [])) (q :: hid F L Og)) (upd H q (.dT [])) σ Og s := Γ.mono key (fun z _ o e => same_upd n _ _ e) h.rep
  obtain ⟨Oa, Oi, Ob, rfl, r⟩ := hp.set (x := some (.ref q)) (Ox := [q]) (b := b) rep ⟨q, [], rfl, rfl, upd_same, Nat.zero_le _, hk _⟩
  have hin : ∀ z ∈ L.map (·.1) ++ (Oa ++ ([q] ++ Ob)), z ∈ q :: (L.map (·.1) ++ (Oa ++ (Oi ++ Ob))) := fun z hz => by
    simp only [List.mem_append, List.mem_cons, List.mem_nil_iff, or_false] at hz ⊢
    rcases hz with y | y | y | y
    · exact .inr (.inl y)
    · exact .inr (.inr (.inl y))
    · exact .inl y
    · exact .inr (.inr (.inr (.inr y)))
  have sub : ∀ z ∈ hid F L (Oa ++ ([q] ++ Ob)), z ∈ q :: hid F L (Oa ++ (Oi ++ Ob)) := fun z hz => by
    rcases List.mem_append.mp hz with y | y
    · exact List.mem_cons_of_mem _ (List.mem_append_left _ y)
    · rcases List.mem_cons.mp (hin z y) with y | y
      · rw [y]; exact List.mem_cons_self
      · exact List.mem_cons_of_mem _ (List.mem_append_right _ y)
  have sm : Same (cut (upd H q (.dT [])) (q :: hid F L (Oa ++ (Oi ++ Ob)))) (cut (upd H q (.dT [])) (hid F L (Oa ++ ([q] ++ Ob)))) := cut_sub sub
  have nqL : q ∉ L.map (·.1) ++ (Oa ++ (Oi ++ Ob)) := fun z => hq (List.mem_append_right _ z)
  have nd : (L.map (·.1) ++ (Oa ++ ([q] ++ Ob))).Nodup := by
    have nd0 : (q :: (L.map (·.1) ++ (Oa ++ (Oi ++ Ob)))).Nodup := List.nodup_cons.mpr ⟨nqL, h.nd⟩
    have hperm : (q :: (L.map (·.1) ++ (Oa ++ Ob))).Perm (L.map (·.1) ++ (Oa ++ ([q] ++ Ob))) := by
      have h1 : (L.map (·.1) ++ (Oa ++ ([q] ++ Ob))) = (L.map (·.1) ++ Oa) ++ q :: Ob := by simp
      have h2 : (q :: (L.map (·.1) ++ (Oa ++ Ob))) = q :: ((L.map (·.1) ++ Oa) ++ Ob) := by simp
      rw [h1, h2]
      exact List.perm_middle.symm
    refine hperm.nodup (List.Sublist.nodup ?_ nd0)
    exact ((List.Sublist.refl _).append ((List.Sublist.refl Oa).append (List.sublist_append_right Oi Ob))).cons_cons q
  have nI : q ∉ F.I := fun z => (h.hi q z).ne n
  have nH : F.H0 q = none := by
    cases w : F.H0 q with
    | none => rfl
    | some o => have := h.fr q o w nI; rw [n] at this; cases this
  refine ⟨_, fun z hz => ?_, Γ'.mono sm (fun _ _ _ z => z) r, R.mono (key.trans sm) h.rs, nd, fun z hz => ?_, fun x hx => same_upd n _ _ (h.lo x hx), fun b o e hb => same_upd n _ _ (h.fr b o e hb), h.hb, fun z hz => (h.hi z hz).same (same_upd n)⟩
  · simp only [List.mem_append, List.mem_cons, List.mem_nil_iff, or_false] at hz ⊢
    rcases hz with y | y | y
    · exact .inr (.inl y)
    · exact .inl y
    · exact .inr (.inr (.inr y))
  · rcases List.mem_cons.mp (hin z hz) with y | y
    · rw [y]
      exact ⟨.inl nH, fun z => hq (List.mem_append_left _ z), Hidn.dT upd_same⟩
    · exact ⟨(h.ow z y).1, (h.ow z y).2.1, (h.ow z y).2.2.same (same_upd n)⟩
/-- x, y = {}, [..] -/
theorem SX.parDL {px pyy pt pt2 : Pos} {kt k2 : Nat} {g : S → Rs β} {S3 : Type} {Γ3 : Cxt S3} {put : S → List ((Int × Int) × α) → S''} {put2 : S'' → β → S3} (hi : A.N[i]? = some x) (hj : A.N[j]? = some y) (hij : i ≠ j) (hx : A.sc.names.lookup x = some .local) (hy : A.sc.names.lookup y = some .local)
    (hb : PL A ca b Γ c' g) (hp : Put Γ i (.ownD (cD τ)) Γ'' put) (hp2 : Put Γ'' j (.own none c') Γ3 put2) (hw : ∀ X, A.In X → swappedStores [.Tuple [.Name x px, .Name y pyy] kt pt] (.Tuple [.Dict [] [] p2, b] k2 pt2) X.env = pure (some [x, y])) (h2 : star b = false := by rfl) :
    SX A ca (.Assign [.Tuple [.Name x px, .Name y pyy] kt pt] (.Tuple [.Dict [] [] p2, b] k2 pt2) pos) Γ Γ3 Γl rr (fun s => (g s).bind fun v => .ok (.nx (put2 (put s []) v))) := by
  obtain ⟨tb, pb, qb⟩ := hb
  refine ⟨_, fun X hX => ps_par hX.calm (by rw [hX.N]; exact hX.nd) (by rw [hX.N]; exact hi) (by rw [hX.N]; exact hj) hij (by rw [hX.sc]; exact hx) (by rw [hX.sc]; exact hy) (pa_cons pe_dnewT (pa_cons (pb X hX) pa_nil (star_each h2)) (star_each rfl)) (hw X hX), fun F R σ H s D ⟨Og, h0⟩ hq => ?_⟩
  intro q1 n1
  have hsx : Sx A.K (q1 :: hid F [] Og) Γ σ (upd H q1 (.dT [])) s := h0.sx.hide n1 (fun _ z => by cases z)
  refine qb _ σ _ s _ hsx ((Rs.post_bind hq).mono (fun v kv q2 vs2 H2 n2 s2 e2 z2 r2 => ?_) fun _ z => (z.exw h0.fr).grow (same_upd n1))
  refine ⟨_, _, rfl, ?_⟩
  obtain ⟨Og2, sub, m1⟩ := h0.storeD (b := []) n1 hp (fun G => .nil)
  have r2' : c'.rep A.K (cut H2 (q2 :: hid F [] Og2)) vs2 v := c'.mono (cut_sub fun z hz => by
    rcases List.mem_cons.mp hz with y | y
    · rw [y]; exact List.mem_cons_self
    · refine List.mem_cons_of_mem _ ?_
      rcases List.mem_append.mp y with w | w
      · exact List.mem_cons_of_mem _ (List.mem_append_left _ w)
      · rcases List.mem_cons.mp (sub z w) with u | u
        · rw [u]; exact List.mem_cons_self
        · exact List.mem_cons_of_mem _ (List.mem_append_right _ u)) r2
  have m2 := m1.loose (R' := Mn.lst A.K c' vs2 v) n2 s2 e2 r2'
  exact kv _ _ (m2.storeO (R' := R) hp2 z2 (fun G z => z.2) fun G z => z.1)
/-- what a dict comprehension makes -/
def dcM {β γ : Type} (g : β → Rs (Option ((Int × Int) × γ))) : List β → List ((Int × Int) × γ) → Rs (List ((Int × Int) × γ))
  | [], acc => .ok acc
  | x :: r, acc => (g x).bind fun o => dcM g r (match o with | some y => putA acc y.1 y.2 | none => acc)
theorem dc_spec {S1 S2 : Type} {Γw : Cxt S1} {Γt : Cxt S2} {τ1 : Ty β} {τ2 : Ty γ} {scope : Scope} {fi : S → Rs (List β)} {w : S → S1} {put : S1 → β → S2} {ix : List Nat} {ft : S2 → Rs Bool} {fk : S2 → Rs (Int × Int)} {fe : S2 → Rs γ} {wi : TI} {g : TG} {tt : TT} {tk te : TE}
    {own : List (Str × Nat)} (hw : Wp Γ (own.map (·.2)) Γw w) (hix : ∀ i ∈ ix, i ∈ own.map (·.2))
    (qi : ∀ (O : List Addr) (σ : L2.St) (H : Hp) (s : S) (R : It → Hp → Prop), Sx A.K O Γ σ H s → (fi s).Post (fun bs => ∀ J H1, Same H H1 → Wkg A.K J H1 O τ1 bs → R J H1) (Exw A.E ca H) → wi σ H R)
    (qg : ∀ (G H : Hp) (σ : L2.St) (O : List Addr) (s : S1) (v : V) (a : β) (Q : L2.St → Hp → Prop), Same G H → Γw.rep A.K G H σ O s → τ1.rep A.K G v a →
      (∀ σ', (∀ vs, (∀ i ∈ ix, i ∈ vs) → wipe σ' vs = wipe σ vs) → Γt.rep A.K G H σ' O (put s a) → Q σ' H) → g v σ H Q)
    (qt : ∀ (O : List Addr) (σ : L2.St) (H : Hp) (s : S2) (Q : Bool → Hp → Prop), Sx A.K O Γt σ H s → (ft s).Post (fun a => ∀ H', Same H H' → Q a H') (Exw E0 ca H) → tt σ H Q)
    (qk : ∀ (O : List Addr) (σ : L2.St) (H : Hp) (s : S2) (Q : VK), Sx A.K O Γt σ H s → (fk s).Post (fun a => ∀ v H', Same H H' → (tTup (.cons tI (.one tI))).rep A.K (cut H' O) v a → Q v H') (Exw E0 ca H) → tk σ H Q)
    (qe : ∀ (O : List Addr) (σ : L2.St) (H : Hp) (s : S2) (Q : VK), Sx A.K O Γt σ H s → (fe s).Post (fun a => ∀ v H', Same H H' → τ2.rep A.K (cut H' O) v a → Q v H') (Exw E0 ca H) → te σ H Q)
    (O : List Addr) (σ : L2.St) (H : Hp) (s : S) (Q : VK) (hs : Sx A.K O Γ σ H s)
    (hp : ((fi s).bind fun bs => Rs.guard (decide (bs.length ≤ sizeLine)) (dcM (fun b => nox (lcT (ft (put (w s) b)) ((fk (put (w s) b)).bind fun k => (fe (put (w s) b)).bind fun v => .ok (k, v)))) bs [])).Post (fun a => ∀ v H', Same H H' → (tD τ2).rep A.K (cut H' O) v a → Q v H') (Exw A.E ca H)) :
    tDcT wi g tt tk te (own.map (·.2)) σ H Q := by
  refine qi O σ H s _ hs ((Rs.post_bind hp).mono (fun bs k J H1 s1 wk => ?_) fun _ z => z)
  obtain ⟨hz, k⟩ := Rs.post_guard k
  have hz : bs.length ≤ sizeLine := of_decide_eq_true hz
  intro D nD
  generalize hgg : (fun b => nox (lcT (ft (put (w s) b)) ((fk (put (w s) b)).bind fun k => (fe (put (w s) b)).bind fun v => .ok (k, v)))) = gg at k
  have hDO : D ∉ O := hs.out' s1 nD
  let Wv : Nat → Nat → Hp → Prop := fun i m H' => i + m = bs.length ∧ Same H1 H' ∧ ∃ kvs as, H' D = some (.dT kvs) ∧ kvs.length ≤ i ∧ Paired (DRel τ2 A.K (cut H' (D :: O))) kvs as ∧
    (dcM gg (bs.drop i) as).Post (fun zs => ∀ v H'', Same H H'' → (tD τ2).rep A.K (cut H'' O) v zs → Q v H'') (Exw A.E ca H)
  refine ⟨Wv, ⟨bs.length, by omega, same_upd nD, [], [], upd_same, Nat.zero_le _, .nil, ?_⟩, fun i m H' hW => ?_⟩
  · rw [List.drop_zero]; exact k
  · obtain ⟨him, sm, kvs, as, eD, hacc, hr, hk⟩ := hW
    by_cases hi : i < bs.length
    · refine .inr ⟨wk.go i H' sm hi, Wv (i + 1) (m - 1), fun H'' h => ⟨m - 1, by omega, h⟩, fun x H2 hy => ?_⟩
      obtain ⟨s2, rx⟩ := wk.yl i _ x H' H2 sm (List.getElem?_eq_getElem hi) hy
      rw [List.drop_eq_getElem_cons hi] at hk
      have sH2 : Same H1 H2 := sm.trans s2
      have eD2 : H2 D = some (.dT kvs) := s2 _ _ eD
      have hsx : Sx A.K (D :: O) Γw (wipe σ (own.map (·.2))) H2 (w s) := by
        obtain ⟨⟨Og, b1, b2⟩, b3⟩ := hw.sx (hs.grow s1)
        refine ⟨⟨Og, fun p hp => List.mem_cons_of_mem _ (b1 p hp), Γw.mono (fun b o e => ?_) (fun p hp o e => sH2 _ _ e) b2⟩, fun p hp => ?_⟩
        · by_cases hO : b ∈ O
          · rw [cut_in hO] at e; cases e
          · rw [cut_out hO] at e
            have hb : b ≠ D := ne_of_none e nD
            rw [cut_out (by simp [hb, hO])]; exact sH2 _ _ e
        · rcases List.mem_cons.mp hp with rfl | hp
          · exact Hidn.dT eD2
          · exact (hs.grow (s1.trans sH2)).hid p hp
      obtain ⟨⟨Og, c1, c2⟩, c3⟩ := hsx
      have rx' := rx (D :: O) (fun p hp => by
        rcases List.mem_cons.mp hp with rfl | hp
        · exact .inr nD
        · exact .inl hp) (fun p hp z => by
        rcases List.mem_cons.mp hp with rfl | hp
        · rw [eD] at z; cases z
        · exact ((hs.grow (s1.trans sm)).hid p hp).ne z)
      refine qg _ H2 _ Og (w s) x bs[i] _ cut_le c2 rx' fun σ' hwp hr' => ⟨(hwp _ hix).trans (wipe_wipe _ fun _ h => h), ?_⟩
      have hsx' : Sx A.K (D :: O) Γt σ' H2 (put (w s) bs[i]) := ⟨⟨Og, c1, hr'⟩, c3⟩
      have hk1 := Rs.post_bind hk
      rw [← hgg] at hk1
      have hk2 := Rs.post_bind (post_nox (E' := Exw E0 ca H2) hk1)
      rw [hgg] at hk2
      refine qt (D :: O) σ' H2 _ _ hsx' (hk2.mono (fun c kc H3 s3 => ?_) fun _ z => z)
      cases c with
      | true =>
        refine iteT (qk (D :: O) σ' H3 _ _ (hsx'.grow s3) ((Rs.post_bind (Rs.post_bind kc)).mono (fun kk ka v H4 s4 ra => ?_) fun _ z => z.grow s3))
        refine qe (D :: O) σ' H4 _ _ ((hsx'.grow s3).grow s4) ((Rs.post_bind ka).mono (fun vv kb u H5 s5 rv => ?_) fun _ z => (z.grow s3).grow s4)
        have s34 := s3.trans (s4.trans s5)
        obtain ⟨t2, us, rfl, et, v1, r1, rfl, q1, v2, rfl, q2⟩ := ra
        rw [show v1 = .int kk.1 from q1, show v2 = .int kk.2 from q2] at et
        refine ⟨kvs, pk kk, t2, rfl, s5 _ _ (cut_le _ _ et), s34 _ _ eD2, by omega, by omega, ?_, _, putA as kk vv, upd_same, ?_, ?_, ?_⟩
        · exact fun b o e => by
            have hb : b ≠ D := ne_of_none e nD
            rw [upd_ne hb]; exact s34 _ _ (sH2 _ _ e)
        · have := length_putK kvs (pk kk) u
          omega
        · rw [cut_upd (by simp)]
          exact drel_put (DRel.mono (cut_grow (s2.trans s34)) hr) kk rv
        · exact kb
      | false =>
        refine iteF ?_
        exact ⟨by omega, sH2.trans s3, kvs, as, s3 _ _ eD2, by omega, DRel.mono (cut_grow (s2.trans s3)) hr, kc⟩
    · refine .inl ⟨?_, ?_⟩
      · have : i = bs.length := by omega
        rw [this]; exact wk.st H' sm
      · rw [List.drop_eq_nil_of_le (by omega)] at hk
        exact hk (.ref D) H' (s1.trans sm) ⟨D, kvs, rfl, by rw [cut_out hDO]; exact eD, by omega, DRel.mono cut_cons hr⟩
theorem PX.dcT {S1 S2 : Type} {Γw : Cxt S1} {Γt : Cxt S2} {τ1 : Ty β} {τ2 : Ty γ} {kx vx : Expr} {ifs : List Expr} {scope : Scope} {fi : S → Rs (List β)} {w : S → S1} {put : S1 → β → S2} {ix : List Nat} {ft : S2 → Rs Bool} {fk : S2 → Rs (Int × Int)} {fe : S2 → Rs γ}
    (own : List (Str × Nat)) (hi : IB A ca tg iter Γ τ1 fi) (hb : blkC A.N A.sc scope own = true) (hw : Wp Γ (own.map (·.2)) Γw w) (hg : GX (A.blk scope) tg Γw Γt τ1 put ix) (hix : ∀ i ∈ ix, i ∈ own.map (·.2))
    (ht : PTz (A.blk scope) ca ifs Γt ft) (hk : PX (A.blk scope) ca kx Γt (tTup (.cons tI (.one tI))) fk) (he : PX (A.blk scope) ca vx Γt τ2 fe) (hf : ∀ env x, foldedSetIterable iter env x = pure x := by intro _ _; rfl) :
    PX A ca (.DictComp kx vx [⟨tg, iter, ifs, 0⟩] scope pos) Γ (tD τ2) (fun s => (fi s).bind fun bs => Rs.guard (decide (bs.length ≤ sizeLine)) (dcM (fun b => nox (lcT (ft (put (w s) b)) ((fk (put (w s) b)).bind fun k => (fe (put (w s) b)).bind fun v => .ok (k, v)))) bs [])) := by
  obtain ⟨wi, pi, qi⟩ := hi
  obtain ⟨g, pg, qg⟩ := hg
  obtain ⟨tt, ptt, qt⟩ := ht
  obtain ⟨tk, ppk, qk⟩ := hk
  obtain ⟨te, pe, qe⟩ := he
  refine ⟨tDcT wi g tt tk te (own.map (·.2)), fun X hX => pe_dcT hX.calm (by have := hX.room.un; omega) (by rw [hX.N]; exact hX.nd) (pi X hX) (blkOk_by (by rw [hX.N, hX.sc]; exact hb)) (fun s H C cl fp => pg _ (hX.blk scope s H C cl fp)) (fun s H C cl fp => ptt _ (hX.blk scope s H C cl fp)) (fun s H C cl fp => ppk _ (hX.blk scope s H C cl fp)) (fun s H C cl fp => pe _ (hX.blk scope s H C cl fp)) (hf X.env), fun O σ H s Q hs hp => dc_spec (scope := scope) hw hix qi qg qt qk qe O σ H s Q hs hp⟩
/-- name = {..} on one line, the name a local -/
theorem SX.setDc {S1 S2 S3 : Type} {Γw : Cxt S1} {Γt : Cxt S2} {Γ3 : Cxt S3} {τ1 : Ty β} {τ2 : Ty γ} {kx vx : Expr} {ifs : List Expr} {scope : Scope} {fi : S → Rs (List β)} {w : S → S1} {put : S1 → β → S2} {ix : List Nat} {ft : S2 → Rs Bool} {fk : S2 → Rs (Int × Int)} {fe : S2 → Rs γ} {put2 : S → List ((Int × Int) × γ) → S3}
    (own : List (Str × Nat)) (hN : A.N[i]? = some y) (hy : A.sc.names.lookup y = some .local) (hl : (py.line == p.line) = true) (hn : (scope.names.any fun (n, k) => n == y && (k == .local || k == .cell)) = false) (hk : A.sc.kind = .function)
    (hi : IB A ca tg iter Γ τ1 fi) (hb : blkC A.N A.sc scope own = true) (hw : Wp Γ (own.map (·.2)) Γw w) (hg : GX (A.blk scope) tg Γw Γt τ1 put ix) (hix : ∀ i ∈ ix, i ∈ own.map (·.2))
    (ht : PTz (A.blk scope) ca ifs Γt ft) (hkx : PX (A.blk scope) ca kx Γt (tTup (.cons tI (.one tI))) fk) (he : PX (A.blk scope) ca vx Γt τ2 fe) (hp2 : Put Γ i (.val (tD τ2)) Γ3 put2) (hf : ∀ env x, foldedSetIterable iter env x = pure x := by intro _ _; rfl) :
    SX A ca (.Assign [.Name y py] (.DictComp kx vx [⟨tg, iter, ifs, 0⟩] scope p) pos) Γ Γ3 Γl rr (fun s => ((fi s).bind fun bs => Rs.guard (decide (bs.length ≤ sizeLine)) (dcM (fun b => nox (lcT (ft (put (w s) b)) ((fk (put (w s) b)).bind fun k => (fe (put (w s) b)).bind fun v => .ok (k, v)))) bs [])).bind fun r => .ok (.nx (put2 s r))) := by
  obtain ⟨wi, pi, qi⟩ := hi
  obtain ⟨g, pg, qg⟩ := hg
  obtain ⟨tt, ptt, qt⟩ := ht
  obtain ⟨tk, ppk, qk⟩ := hkx
  obtain ⟨te, pe, qe⟩ := he
  refine ⟨tAsg (tDcT wi g tt tk te (own.map (·.2))) (gName i), fun X hX => ps_setDcT hX.calm (by have := hX.room.un; omega) (by rw [hX.N]; exact hX.nd) (by rw [hX.N]; exact hN) (by rw [hX.sc]; exact hy) (sw_trueD (by rw [hX.sc]; exact hk) (by rw [hX.sc]; exact hy) hl hn) (pi X hX) (blkOk_by (by rw [hX.N, hX.sc]; exact hb)) (fun s H C cl fp => pg _ (hX.blk scope s H C cl fp)) (fun s H C cl fp => ptt _ (hX.blk scope s H C cl fp)) (fun s H C cl fp => ppk _ (hX.blk scope s H C cl fp)) (fun s H C cl fp => pe _ (hX.blk scope s H C cl fp)) (hf X.env), fun F R σ H s D ⟨Og, hs⟩ hp => ?_⟩
  refine dc_spec (scope := scope) hw hix qi qg qt qk qe (hid F [] Og) σ H s _ hs.sx ((Rs.post_bind hp).mono (fun r k v H' sm rv => ?_) fun _ z => z.exw hs.fr)
  have h1 := (hs.grow sm).more (R' := Mn.val A.K (tD τ2) v r) rv
  exact k _ _ (h1.store (R' := R) hp2 (fun G z => ⟨rfl, v, rfl, z.2⟩) fun G z => z.1)
end
end TL
/-! TL16: set comprehensions of ints, sorted. -/
namespace TL
open PySem PySem.Spec PyProof.Rows L2 PpSet
section
variable {X : Cx}
theorem addI_ok {pins : List (Addr × Obj)} {σ : L2.St} {H : Hp} {s : Shared} {E : Value → Shared → Prop} {D : Addr} {S : Int → Bool} {n : Nat} {y : Int} {u : Value} {Q : Value → Shared → Prop} (I : Inv X pins σ H s) (hD : H D = some (SetO X.w D S n)) (room : n + 1 < scanBound) (r : RelV (.int y) u)
    (h : ∀ s', Inv X pins σ (upd H D (SetO X.w D (fun j => S j || decide (j = y)) (if S y = true then n else n + 1))) s' → Q .none s') : wpAny (model X.prog X.w) X.A (call (.builtin "set.add") [.ref D, u]) Q E s := by
  obtain ⟨t, rfl⟩ := r
  refine setR_add (setO_get I hD) room fun h' same new => ?_
  have he : ∃ u, h'.get? D = some u := let ⟨o, _, _, _, ho, _⟩ := new; ⟨o, ho⟩
  exact h _ (I.write (e := D) (t' := s.toks + 1) (by rw [hD]; exact True.intro) (.inl rfl) (fun b u hb hu => (same.2 b hb).trans hu) he (setO_new new))
/-- {elt for target in iter if ..}, elt an int: D the new set -/
def tScI (w : World) (wi : TI) (g : TG) (tt : TT) (te : TE) (vs : List Nat) : TE := fun σ H Q => wi σ H fun J H1 => ∀ D, H1 D = none → ∃ W : Nat → Nat → Hp → Prop, (∃ m, W 0 m (upd H1 D (SetO w D (fun _ => false) 0))) ∧
  ∀ i m H, W i m H → (J.stop i H ∧ Q (.ref D) H) ∨ (J.go i H ∧ ∃ Nx : Hp → Prop, (∀ H', Nx H' → ∃ m', m' < m ∧ W (i + 1) m' H') ∧
    ∀ x H', J.yld i H x H' → g x (wipe σ vs) H' fun σ2 H2 => wipe σ2 vs = wipe σ vs ∧ tt σ2 H2 fun b H3 =>
      if b = true then te σ2 H3 fun y H4 => ∃ (k : Int) (S : Int → Bool) (n : Nat), y = .int k ∧ H4 D = some (SetO w D S n) ∧ n + 1 < scanBound ∧ Nx (upd H4 D (SetO w D (fun j => S j || decide (j = k)) (if S k = true then n else n + 1))) else Nx H3)
theorem pe_scI {elt tg iter : Expr} {ifs : List Expr} {scope : Scope} {own : List (Str × Nat)} {pos : Pos} {wi : TI} {g : TG} {tt : TT} {te : TE} (calm : X.calm = true) (nd : X.N.Nodup) (pi : PI X tg iter wi) (ok : BlkOk X.N X.env.scope scope own)
    (pg0 : ∀ (z : Shared) (G : Hp) (C : Addr) (cs : List (Str × Addr)) (fp : List Addr), PG (X.blk z G scope (compEnvC scope cs C X.env) fp) tg g)
    (pt0 : ∀ (z : Shared) (G : Hp) (C : Addr) (cs : List (Str × Addr)) (fp : List Addr), PTs (X.blk z G scope (compEnvC scope cs C X.env) fp) ifs tt)
    (pv0 : ∀ (z : Shared) (G : Hp) (C : Addr) (cs : List (Str × Addr)) (fp : List Addr), PE (X.blk z G scope (compEnvC scope cs C X.env) fp) elt te)
    (fold : ∀ x, foldedSetIterable iter X.env x = pure x := by intro _; rfl) : PE X (.SetComp elt [⟨tg, iter, ifs, 0⟩] scope pos) (tScI X.w wi g tt te (own.map (·.2))) := by
  refine ⟨fun pins s0 σ H Q I h => ?_⟩
  rw [eval_SetComp]
  have closed : ∀ y ∈ scope.names, y.2 = .free → ∃ c, X.env.cells.lookup y.1 = some c := fun y hy e => (ok.free y hy e).elim (fun k => I.ok.has _ (.inl k)) fun k => I.ok.has _ (.inr k)
  refine wpAny_comprehension_free rfl fold (closure_ok closed) ok.kind (fun y hy e => by rw [ok.uniq y hy, e]) (thn (pi.run pins s0 σ H _ I h) fun xv sA hx => thn hx fun itv sB hB => ?_)
  obtain ⟨it, fp, tn, J, HB, rfl, IB, T, stB, fB, q⟩ := hB
  refine newSet_ok (newEnv_comp ?_)
  generalize hD : sB.heap.objs.size = D
  have nD : HB D = none := IB.hok.fresh (Nat.le_of_eq hD)
  obtain ⟨W, ⟨m0, w0⟩, turn⟩ := q D nD
  obtain ⟨ob, hob⟩ : ∃ ob : Obj, ob = { cls := .type "set", dict := none, data := .set #[] 0 (.fresh 0 0 (!X.w.params.followText "set-order")) } := ⟨_, rfl⟩
  generalize hC : ({ sB with heap := sB.heap.push { cls := .type "set", dict := none, data := .set #[] 0 (.fresh 0 0 (!X.w.params.followText "set-order")) } } : Shared) = sC
  have hCh : sC.heap = sB.heap.push ob := by rw [← hC, hob]
  have IC : Inv X pins σ (upd HB D (SetO X.w D (fun _ => false) 0)) sC := by
    subst hC
    refine IB.laid (t' := sB.toks) (fun b o e => Heap.get?_push_of_some _ e) (Nat.le_of_eq hD) ?_
    rw [← hD]
    exact setO_new (setR_fresh X.w)
  have low : ∀ b ∈ fp, b < sB.heap.objs.size := fun b hb => let ⟨_, e, _⟩ := T.obj _ _ stB b hb; Heap.lt_size e
  have fC : ∀ b ∈ fp, FpOk X pins (upd HB D (SetO X.w D (fun _ => false) 0)) b ∧ b < sC.heap.objs.size := fun b hb => by
    have lt := low b hb
    refine ⟨⟨?_, (fB b hb).2⟩, by rw [hCh, Heap.size_push]; exact Nat.lt_succ_of_lt lt⟩
    rw [upd_ne (Nat.ne_of_lt (by rw [← hD]; exact lt))]
    exact (fB b hb).1
  have stC : tn 0 sC.heap := T.keep _ _ _ stB fun b _ o e => by rw [hCh]; exact Heap.get?_push_of_some _ e
  have ID := block_start IC ok nd fC
  obtain ⟨cs, hcs⟩ : ∃ cs, cs = cellsFrom (sC.heap.objs.size + 1) scope.names (cloFrom X.env.cells scope.names []) := ⟨_, rfl⟩
  obtain ⟨ce, hce⟩ : ∃ ce, ce = compEnvC scope cs sC.heap.objs.size X.env := ⟨_, rfl⟩
  obtain ⟨HC, hHC⟩ : ∃ HC, HC = upd HB D (SetO X.w D (fun _ => false) 0) := ⟨_, rfl⟩
  have pg := pg0 sC HC sC.heap.objs.size cs fp
  have pt := pt0 sC HC sC.heap.objs.size cs fp
  have pv := pv0 sC HC sC.heap.objs.size cs fp
  rw [← hcs, ← hce, ← hHC] at ID
  rw [← hce] at pg pt pv
  rw [← hHC] at IC fC w0
  have cL : ce.locals = sC.heap.objs.size := by rw [hce]; rfl
  have nfp : ∀ b ∈ fp, HC b = none := fun b hb => (fC b hb).1.1
  show codeAny _ _ (.compStart (.SetComp elt [⟨tg, iter, ifs, 0⟩] scope pos) 0 (.ref it) (.ref D) (compEnvC scope (cellsFrom (sC.heap.objs.size + 1) scope.names (cloFrom X.env.cells scope.names [])) sC.heap.objs.size X.env)) (compPost (model X.prog X.w) X.A X.xe none _ (.ref D) sC.heap.objs.size) { sC with heap := pushCells (sC.heap.push { cls := .type "dict", data := .dict #[] }) scope.names }
  rw [← hcs, ← hce]
  generalize hsD : ({ sC with heap := pushCells (sC.heap.push { cls := .type "dict", data := .dict #[] }) scope.names } : Shared) = sD at ID ⊢
  have stD : tn 0 sD.heap := T.keep _ _ _ stC fun b _ o e => by rw [← hsD]; exact pushCells_keeps _ _ _ _ (Heap.get?_push_of_some _ e)
  have stat : ∀ {σ' : L2.St} {H' : Hp} {s' : Shared}, Inv (X.blk sC HC scope ce fp) [] σ' H' s' → (∀ b ∈ fp, H' b = none) → ∀ b ∈ fp, FpOk (X.blk sC HC scope ce fp) [] H' b := fun I' hn b hb =>
    ⟨hn b hb, (I'.ok.exf b hb).1, I'.ok.exfs b hb, .inl hb, fun x c e => (I'.ok.exf b hb).2 x c e, fun p hp => absurd (show p ∈ ([] : List (Addr × Obj)) ++ [] from hp) (by simp)⟩
  refine codeAny_compStart_set ?go (T.self X.A 0 _ _ _ stD ?go)
  refine compLoopS_any (fun n z => ∃ i G, Inv (X.blk sC HC scope ce fp) [] (wipe σ (own.map (·.2))) G z ∧ tn i z.heap ∧ (∀ b ∈ fp, G b = none) ∧ W i n G) ?_ m0 ⟨0, HC, ID, stD, nfp, w0⟩
  rintro n z1 ⟨i, G1, J1, t1, n1, w1⟩
  rcases turn i n G1 w1 with ⟨stop, fin⟩ | ⟨go, Nx, hNx, step⟩
  · refine thnF (T.done (X.blk sC HC scope ce fp) rfl rfl rfl calm i [] z1 _ G1 (fun _ _ => False) J1 (stat J1 n1) t1 stop) fun r z2 ⟨hr, J2⟩ => ?_
    subst hr
    have back : Inv X pins σ G1 z2 := IC.call' (ch := fp) J2.os J2.base J2.hok J2.bare fun b hb => ⟨(fC b hb).1.2.2.2.1, (fC b hb).1.2.1, (fC b hb).1.2.2.2.2.1, (fC b hb).1.2.2.2.2.2⟩
    obtain ⟨m, hn, _⟩ := J2.loc
    have nC : G1 sC.heap.objs.size = none := by rw [← cL]; exact J2.free
    obtain ⟨f0, f1, _, f3, f4, f5⟩ := IC.fpOk (Nat.le_refl _) nC
    refine ⟨m, by rw [← cL]; exact hn, fun h2 same => ⟨.ref D, G1, back.turned (t' := z2.toks) (fun b o hb e => (same.2 b hb).trans e) f0 f1 f3 f4 f5, rfl, fin⟩⟩
  · refine thnF (T.item (X.blk sC HC scope ce fp) rfl rfl rfl calm i [] z1 _ G1 (fun _ _ => False) J1 (stat J1 n1) t1 go) fun r z2 ⟨u, hr, h2⟩ => ?_
    subst hr
    refine thnF h2 fun _ z3 ⟨x, G3, J3, r3, y3, t3, n3⟩ => ?_
    have J3' := J3.pinned (stat J3 n3) (T.obj _ _ t3)
    refine thnF (pg.run _ z3 _ G3 x u _ J3' r3 (step x G3 y3)) fun _ z4 ⟨τ4, G4, J4, hw, q4⟩ => thnF (pt.run _ z4 τ4 G4 _ J4 q4) fun b z5 ⟨G5, J5, q5⟩ => ?_
    have over : ∀ {z' : Shared} {G' : Hp}, Inv (X.blk sC HC scope ce fp) ([] ++ pinsAt fp z3.heap) τ4 G' z' → Nx G' → ∃ m, m < n ∧ ∃ i G, Inv (X.blk sC HC scope ce fp) [] (wipe σ (own.map (·.2))) G z' ∧ tn i z'.heap ∧ (∀ b ∈ fp, G b = none) ∧ W i m G := fun {z' G'} J' nx => by
      obtain ⟨m', hm, w'⟩ := hNx G' nx
      have held : ∀ b ∈ fp, ∀ o, z3.heap.get? b = some o → z'.heap.get? b = some o ∧ G' b = none := fun b hb o e => by
        have zz := J'.pin (b, o) (List.mem_append_right _ (List.mem_append_right _ (mem_pinsAt hb e)))
        exact ⟨zz.1, zz.2.1⟩
      refine ⟨m', hm, i + 1, G', (J'.unpinned (pins := [])).weak (by rw [← hw, wipe_length]) (fun j v e => ?_), T.keep _ _ _ t3 fun b hb o e => (held b hb o e).1, fun b hb => ?_, w'⟩
      · rw [← hw] at e
        exact (wipe_some e).1
      · obtain ⟨o, e, _⟩ := T.obj _ _ t3 b hb
        exact (held b hb o e).2
    cases b with
    | false => exact over J5 q5
    | true =>
      refine thnF (pv.run _ z5 τ4 G5 _ J5 q5) fun c7 z7 ⟨y7, G7, J7, r7, k, S0, n0, ek, eD, hz, nx⟩ => ?_
      subst ek
      exact addI_ok (X := X.blk sC HC scope ce fp) J7 eD hz r7 fun z8 J8 => over J8 nx
end
/-- the ints of a list, each once, in order -/
def insU (x : Int) : List Int → List Int
  | [] => [x]
  | y :: r => if x < y then x :: y :: r else if x = y then y :: r else y :: insU x r
def usrt (xs : List Int) : List Int := xs.foldr insU []
theorem insU_mem (x k : Int) : ∀ l : List Int, k ∈ insU x l ↔ k = x ∨ k ∈ l
  | [] => by simp [insU]
  | y :: r => by
    unfold insU
    by_cases h1 : x < y
    · rw [if_pos h1]; simp
    · rw [if_neg h1]
      by_cases h2 : x = y
      · rw [if_pos h2, h2]; simp
      · rw [if_neg h2, List.mem_cons, insU_mem x k r, List.mem_cons]
        constructor
        · rintro (h | h | h)
          · exact .inr (.inl h)
          · exact .inl h
          · exact .inr (.inr h)
        · rintro (h | h | h)
          · exact .inr (.inl h)
          · exact .inl h
          · exact .inr (.inr h)
theorem insU_lt (x : Int) : ∀ l : List Int, l.Pairwise (· < ·) → (insU x l).Pairwise (· < ·)
  | [], _ => by simp [insU]
  | y :: r, h => by
    obtain ⟨h3, h4⟩ := List.pairwise_cons.mp h
    unfold insU
    by_cases h1 : x < y
    · rw [if_pos h1]
      refine List.pairwise_cons.mpr ⟨fun z hz => ?_, h⟩
      rcases List.mem_cons.mp hz with rfl | hz
      · exact h1
      · exact Int.lt_trans h1 (h3 z hz)
    · rw [if_neg h1]
      by_cases h2 : x = y
      · rw [if_pos h2]; exact h
      · rw [if_neg h2]
        refine List.pairwise_cons.mpr ⟨fun z hz => ?_, insU_lt x r h4⟩
        rcases (insU_mem x z r).mp hz with rfl | hz
        · omega
        · exact h3 z hz
theorem usrt_mem (k : Int) : ∀ xs : List Int, k ∈ usrt xs ↔ k ∈ xs
  | [] => by simp [usrt]
  | x :: r => by
    show k ∈ insU x (usrt r) ↔ _
    rw [insU_mem, usrt_mem k r, List.mem_cons]
theorem usrt_lt : ∀ xs : List Int, (usrt xs).Pairwise (· < ·)
  | [] => by simp [usrt]
  | x :: r => insU_lt x _ (usrt_lt r)
theorem lt_uniq : ∀ {l m : List Int}, l.Pairwise (· < ·) → m.Pairwise (· < ·) → (∀ k, k ∈ l ↔ k ∈ m) → l = m
  | [], [], _, _, _ => rfl
  | [], b :: m, _, _, h => by have := (h b).mpr List.mem_cons_self; simp at this
  | a :: l, [], _, _, h => by have := (h a).mp List.mem_cons_self; simp at this
  | a :: l, b :: m, h1, h2, h => by
    obtain ⟨a1, a2⟩ := List.pairwise_cons.mp h1
    obtain ⟨b1, b2⟩ := List.pairwise_cons.mp h2
    have e : a = b := by
      rcases List.mem_cons.mp ((h a).mp List.mem_cons_self) with z | z
      · exact z
      · rcases List.mem_cons.mp ((h b).mpr List.mem_cons_self) with y | y
        · exact y.symm
        · have := b1 a z
          have := a1 b y
          omega
    subst e
    congr 1
    refine lt_uniq a2 b2 fun k => ⟨fun hk => ?_, fun hk => ?_⟩
    · rcases List.mem_cons.mp ((h k).mp (List.mem_cons_of_mem _ hk)) with z | z
      · have := a1 k hk
        omega
      · exact z
    · rcases List.mem_cons.mp ((h k).mpr (List.mem_cons_of_mem _ hk)) with z | z
      · have := b1 k hk
        omega
      · exact z
variable {A : Amb} {ca : Nat → Addr}
section
variable {S α β γ : Type} {Γ : Cxt S} {τ : Ty α} {tg iter : Expr} {pos p p2 : Pos} {x y : Str}
/-- sorted({elt for target in iter if ..}) -/
theorem PL.sortedSC {S1 S2 : Type} {Γw : Cxt S1} {Γt : Cxt S2} {τ1 : Ty β} {elt : Expr} {ifs : List Expr} {scope : Scope} {fi : S → Rs (List β)} {w : S → S1} {put : S1 → β → S2} {ix : List Nat} {ft : S2 → Rs Bool} {fe : S2 → Rs Int}
    (B : Blt A x (.builtin "sorted")) (own : List (Str × Nat)) (hi : IB A ca tg iter Γ τ1 fi) (hb : blkC A.N A.sc scope own = true) (hw : Wp Γ (own.map (·.2)) Γw w) (hg : GX (A.blk scope) tg Γw Γt τ1 put ix) (hix : ∀ i ∈ ix, i ∈ own.map (·.2))
    (ht : PTz (A.blk scope) ca ifs Γt ft) (he : PX (A.blk scope) ca elt Γt tI fe) (hf : ∀ env x, foldedSetIterable iter env x = pure x := by intro _ _; rfl) :
    PL A ca (.Call (.Name x p) [.SetComp elt [⟨tg, iter, ifs, 0⟩] scope p2] [] pos) Γ (cL tI) (fun s => (fi s).bind fun bs => Rs.guard (decide (bs.length < 64)) ((lcM (fun b => nox (lcT (ft (put (w s) b)) (fe (put (w s) b)))) bs).bind fun xs => .ok (usrt xs))) := by
  obtain ⟨wi, pi, qi⟩ := hi
  obtain ⟨g, pg, qg⟩ := hg
  obtain ⟨tt, ptt, qt⟩ := ht
  obtain ⟨te, pe, qe⟩ := he
  refine ⟨tCB (rSortedSet A.w) (tCons (tScI A.w wi g tt te (own.map (·.2))) tNil), fun X hX => call1 (r := rSortedSet A.w) hX B (by rw [← hX.w]; exact cr_sortedSet hX.calm) (by rw [← hX.w]; exact pe_scI hX.calm (by rw [hX.N]; exact hX.nd) (pi X hX) (blkOk_by (by rw [hX.N, hX.sc]; exact hb)) (fun s H C cl fp => pg _ (hX.blk scope s H C cl fp)) (fun s H C cl fp => ptt _ (hX.blk scope s H C cl fp)) (fun s H C cl fp => pe _ (hX.blk scope s H C cl fp)) (hf X.env)) rfl, fun O σ H s Q hs hp => ?_⟩
  refine qi O σ H s _ hs ((Rs.post_bind hp).mono (fun bs k J H1 s1 wk => ?_) fun _ z => z)
  obtain ⟨hz, k⟩ := Rs.post_guard k
  have hz : bs.length < 64 := of_decide_eq_true hz
  intro D nD
  generalize hgg : (fun b => nox (lcT (ft (put (w s) b)) (fe (put (w s) b)))) = gg at k
  have hDO : D ∉ O := hs.out' s1 nD
  let Wv : Nat → Nat → Hp → Prop := fun i m H' => i + m = bs.length ∧ Same H1 H' ∧ ∃ (T : Int → Bool) (n : Nat) (xs : List Int), H' D = some (SetO A.w D T n) ∧ n ≤ i ∧ (∀ k, T k = true ↔ k ∈ xs) ∧
    ((lcM gg (bs.drop i)).bind fun zs => .ok (usrt (xs ++ zs))).Post (fun a => ∀ p vs H'', H p = none → Same H H'' → H'' p = some (.lst vs) → vs.length ≤ sizeLine → (cL tI).rep A.K (cut H'' (p :: O)) vs a → Q (.ref p) H'') (Exw A.E ca H)
  refine ⟨Wv, ⟨bs.length, by omega, same_upd nD, (fun _ => false), 0, [], upd_same, Nat.zero_le _, fun k => by simp, ?_⟩, fun i m H' hW => ?_⟩
  · rw [List.drop_zero]; exact k
  · obtain ⟨him, sm, T, n, xs, eD, hacc, hr, hk⟩ := hW
    by_cases hi : i < bs.length
    · refine .inr ⟨wk.go i H' sm hi, Wv (i + 1) (m - 1), fun H'' h => ⟨m - 1, by omega, h⟩, fun x H2 hy => ?_⟩
      obtain ⟨s2, rx⟩ := wk.yl i _ x H' H2 sm (List.getElem?_eq_getElem hi) hy
      rw [List.drop_eq_getElem_cons hi, lcM_cons] at hk
      have sH2 : Same H1 H2 := sm.trans s2
      have eD2 : H2 D = some (SetO A.w D T n) := s2 _ _ eD
      have hsx : Sx A.K (D :: O) Γw (wipe σ (own.map (·.2))) H2 (w s) := by
        obtain ⟨⟨Og, b1, b2⟩, b3⟩ := hw.sx (hs.grow s1)
        refine ⟨⟨Og, fun p hp => List.mem_cons_of_mem _ (b1 p hp), Γw.mono (fun b o e => ?_) (fun p hp o e => sH2 _ _ e) b2⟩, fun p hp => ?_⟩
        · by_cases hO : b ∈ O
          · rw [cut_in hO] at e; cases e
          · rw [cut_out hO] at e
            have hb : b ≠ D := ne_of_none e nD
            rw [cut_out (by simp [hb, hO])]; exact sH2 _ _ e
        · rcases List.mem_cons.mp hp with rfl | hp
          · exact ⟨_, eD2, fun _ z => by cases z⟩
          · exact (hs.grow (s1.trans sH2)).hid p hp
      obtain ⟨⟨Og, c1, c2⟩, c3⟩ := hsx
      have rx' := rx (D :: O) (fun p hp => by
        rcases List.mem_cons.mp hp with rfl | hp
        · exact .inr nD
        · exact .inl hp) (fun p hp z => by
        rcases List.mem_cons.mp hp with rfl | hp
        · rw [eD] at z; cases z
        · exact ((hs.grow (s1.trans sm)).hid p hp).ne z)
      refine qg _ H2 _ Og (w s) x bs[i] _ cut_le c2 rx' fun σ' hwp hr' => ⟨(hwp _ hix).trans (wipe_wipe _ fun _ h => h), ?_⟩
      have hsx' : Sx A.K (D :: O) Γt σ' H2 (put (w s) bs[i]) := ⟨⟨Og, c1, hr'⟩, c3⟩
      have hk1 := Rs.post_bind (Rs.post_bind hk)
      rw [← hgg] at hk1
      have hk2 := Rs.post_bind (post_nox (E' := Exw E0 ca H2) hk1)
      rw [hgg] at hk2
      refine qt (D :: O) σ' H2 _ _ hsx' (hk2.mono (fun c kc H3 s3 => ?_) fun _ z => z)
      cases c with
      | true =>
        refine iteT (qe (D :: O) σ' H3 _ _ (hsx'.grow s3) ((Rs.post_bind kc).mono (fun a ka v H4 s4 ra => ?_) fun _ z => z.grow s3))
        have s34 := s3.trans s4
        have hka := Rs.post_bind ka
        refine ⟨a, T, n, ra, s34 _ _ eD2, Nat.lt_of_lt_of_le (Nat.succ_lt_succ (Nat.lt_of_le_of_lt hacc (Nat.lt_trans hi hz))) (by decide), by omega, ?_, _, _, xs ++ [a], upd_same, ?_, fun k => ?_, ?_⟩
        · exact fun b o e => by
            have hb : b ≠ D := ne_of_none e nD
            rw [upd_ne hb]; exact s34 _ _ (sH2 _ _ e)
        · split <;> omega
        · rw [Bool.or_eq_true, hr k, List.mem_append, decide_eq_true_eq]; simp
        · cases hl : lcM gg (bs.drop (i + 1)) with
          | ok zs =>
            rw [hl] at hka
            show Rs.Post (Rs.ok (usrt (xs ++ [a] ++ zs))) _ _
            rw [List.append_assoc]
            exact hka
          | exc n => rw [hl] at hka; exact hka
          | bad => rw [hl] at hka; exact hka
      | false =>
        refine iteF ?_
        refine ⟨by omega, sH2.trans s3, T, n, xs, s3 _ _ eD2, by omega, hr, ?_⟩
        cases hl : lcM gg (bs.drop (i + 1)) with
        | ok zs => rw [hl] at kc; exact kc
        | exc n => rw [hl] at kc; exact kc
        | bad => rw [hl] at kc; exact kc
    · refine .inl ⟨?_, ?_⟩
      · have : i = bs.length := by omega
        rw [this]; exact wk.st H' sm
      · rw [List.drop_eq_nil_of_le (by omega)] at hk
        have hk : Rs.Post (Rs.ok (usrt (xs ++ []))) _ _ := hk
        rw [List.append_nil] at hk
        refine ⟨D, T, n, rfl, eD, by omega, fun ns l lt mem hl nl => ?_⟩
        have e : ns = usrt xs := lt_uniq lt (usrt_lt xs) fun k => by rw [mem k, hr k, usrt_mem]
        subst e
        exact hk l _ _ ((s1.trans sm).free nl) ((s1.trans sm).trans (same_upd nl)) upd_same (by rw [List.length_map, hl]; exact Nat.le_trans (by omega : n ≤ 64) (by decide)) (Paired.ofInts _)
end
end TL
/-! TL17: comprehensions of two clauses. -/
namespace TL
open PySem PySem.Spec PyProof.Rows L2
variable {A : Amb} {ca : Nat → Addr}
def lc2M {β γ : Type} (g : β → Rs (List γ)) : List β → Rs (List γ)
  | [] => .ok []
  | x :: r => (g x).bind fun ys => (lc2M g r).bind fun zs => .ok (ys ++ zs)
theorem Rs.bind_ok {α β : Type} {r : Rs α} {k : α → Rs β} {b : β} (h : r.bind k = .ok b) : ∃ a, r = .ok a ∧ k a = .ok b := by
  cases r with
  | ok a => exact ⟨a, rfl, h⟩
  | exc c => cases h
  | bad => cases h
theorem nox_ok {α : Type} {r : Rs α} {a : α} (h : nox r = .ok a) : r = .ok a := by
  cases r with
  | ok b => exact h
  | exc c => cases h
  | bad => cases h
def SameX (D : Addr) (H H' : Hp) : Prop := ∀ p o, p ≠ D → H p = some o → H' p = some o
theorem SameX.cut {D : Addr} {H H' : Hp} {O : List Addr} (s : SameX D H H') : Same (cut H (D :: O)) (cut H' (D :: O)) := fun p o e => by
  by_cases h : p ∈ D :: O
  · rw [cut_in h] at e; cases e
  · rw [cut_out h] at e ⊢
    exact s p o (fun z => h (by rw [z]; exact List.mem_cons_self)) e
section
variable {S α β γ δ : Type} {Γ : Cxt S} {τ : Ty α} {tg iter tg1 iter1 : Expr} {pos p p2 : Pos} {x y : Str}
theorem PL.lc2 {S1 S2 S3 S4 : Type} {Γw : Cxt S1} {Γt : Cxt S2} {Γw1 : Cxt S3} {Γt1 : Cxt S4} {τ1 : Ty β} {τ2 : Ty δ} {τ3 : Ty γ} {elt : Expr} {ifs1 : List Expr} {scope : Scope} {fi : S → Rs (List β)} {w : S → S1} {put : S1 → β → S2} {ix ix1 vs1 : List Nat} {f1 : S2 → Rs (List δ)} {w1 : S2 → S3} {put1 : S3 → δ → S4} {ft : S4 → Rs Bool} {fe : S4 → Rs γ}
    (own : List (Str × Nat)) (hi : IB A ca tg iter Γ τ1 fi) (hb : blkC A.N A.sc scope own = true) (hv : ∀ i ∈ vs1, i ∈ own.map (·.2)) (hw : Wp Γ (own.map (·.2)) Γw w) (hg : GX (A.blk scope) tg Γw Γt τ1 put ix) (hix : ∀ i ∈ ix, i ∈ own.map (·.2))
    (hi1 : IX (A.blk scope) ca tg1 iter1 Γt τ2 f1) (hw1 : Wp Γt vs1 Γw1 w1) (hg1 : GX (A.blk scope) tg1 Γw1 Γt1 τ2 put1 ix1) (hix1 : ∀ i ∈ ix1, i ∈ vs1)
    (ht : PTz (A.blk scope) ca ifs1 Γt1 ft) (he : PX (A.blk scope) ca elt Γt1 τ3 fe) (hf : ∀ env x, foldedSetIterable iter env x = pure x := by intro _ _; rfl) (hf1 : ∀ env x, foldedSetIterable iter1 env x = pure x := by intro _ _; rfl) :
    PL A ca (.ListComp elt [⟨tg, iter, [], 0⟩, ⟨tg1, iter1, ifs1, 0⟩] scope pos) Γ (cL τ3) (fun s => (fi s).bind fun bs => (nox (lc2M (fun b => (f1 (put (w s) b)).bind fun cs => lcM (fun c => lcT (ft (put1 (w1 (put (w s) b)) c)) (fe (put1 (w1 (put (w s) b)) c))) cs) bs)).bind fun zs => Rs.guard (decide (zs.length ≤ sizeLine)) (.ok zs)) := by
  obtain ⟨wi, pi, qi⟩ := hi
  obtain ⟨g, pg, qg⟩ := hg
  obtain ⟨wi1, pi1, qi1⟩ := hi1
  obtain ⟨g1, pg1, qg1⟩ := hg1
  obtain ⟨tt, ptt, qt⟩ := ht
  obtain ⟨te, pe, qe⟩ := he
  refine ⟨_, fun X hX => pe_lc2 hX.calm (by rw [hX.N]; exact hX.nd) (pi X hX) (blkOk_by (by rw [hX.N, hX.sc]; exact hb)) hv (fun s H C cl fp => pg _ (hX.blk scope s H C cl fp)) (fun s H C cl fp => pts_nil) (fun s H C cl fp => pi1 _ (hX.blk scope s H C cl fp)) (fun s H C cl fp => pg1 _ (hX.blk scope s H C cl fp)) (fun s H C cl fp => ptt _ (hX.blk scope s H C cl fp)) (fun s H C cl fp => pe _ (hX.blk scope s H C cl fp)) (hf X.env) hf1, fun O σ H s Q hs hp => ?_⟩
  refine qi O σ H s _ hs ((Rs.post_bind hp).mono (fun bs k J H1 s1 wk => ?_) fun _ z => z)
  generalize hgg : (fun b => (f1 (put (w s) b)).bind fun cs => lcM (fun c => lcT (ft (put1 (w1 (put (w s) b)) c)) (fe (put1 (w1 (put (w s) b)) c))) cs) = gg at k
  obtain ⟨zs, hzs⟩ : ∃ zs, nox (lc2M gg bs) = .ok zs := by
    cases h : lc2M gg bs with
    | ok zs => exact ⟨zs, rfl⟩
    | exc c => rw [h] at k; exact k.elim
    | bad => rw [h] at k; exact k.elim
  rw [hzs] at k
  obtain ⟨hz, k⟩ := Rs.post_guard (show (Rs.guard _ (Rs.ok zs)).Post _ _ from k)
  have hz : zs.length ≤ sizeLine := of_decide_eq_true hz
  have hzs := nox_ok hzs
  intro D nD
  have hDO : D ∉ O := hs.out' s1 nD
  let Wv : Nat → Nat → Hp → Prop := fun i m H' => i + m = bs.length ∧ Same H1 H' ∧ ∃ acc ys zs', H' D = some (.lst acc) ∧ Paired (τ3.rep A.K (cut H' (D :: O))) acc ys ∧ lc2M gg (bs.drop i) = .ok zs' ∧ ys ++ zs' = zs
  refine ⟨Wv, ⟨bs.length, by omega, same_upd nD, [], [], zs, upd_same, .nil, by rw [List.drop_zero]; exact hzs, rfl⟩, fun i m H' hW => ?_⟩
  obtain ⟨him, sm, acc, ys, zs', eD, hr, hk, hzz⟩ := hW
  by_cases hi : i < bs.length
  · refine .inr ⟨wk.go i H' sm hi, Wv (i + 1) (m - 1), fun H'' h => ⟨m - 1, by omega, h⟩, fun x H2 hy => ?_⟩
    obtain ⟨s2, rx⟩ := wk.yl i _ x H' H2 sm (List.getElem?_eq_getElem hi) hy
    rw [List.drop_eq_getElem_cons hi] at hk
    obtain ⟨us, hus, hk⟩ := Rs.bind_ok hk
    obtain ⟨zs2, hz2, hk⟩ := Rs.bind_ok hk
    cases hk
    have sH2 : Same H1 H2 := sm.trans s2
    have eD2 : H2 D = some (.lst acc) := s2 _ _ eD
    obtain ⟨⟨Og, b1, b2⟩, b3⟩ := hw.sx (hs.grow s1)
    have hDg : ∀ p ∈ Og, p ≠ D := fun p hp z => hDO (by rw [← z]; exact b1 p hp)
    have c2 : Γw.rep A.K (cut H2 (D :: O)) H2 (wipe σ (own.map (·.2))) Og (w s) := Γw.mono (fun b o e => by
        by_cases hO : b ∈ O
        · rw [cut_in hO] at e; cases e
        · rw [cut_out hO] at e
          have hb : b ≠ D := ne_of_none e nD
          rw [cut_out (by simp [hb, hO])]; exact sH2 _ _ e) (fun p hp o e => sH2 _ _ e) b2
    have hidn : ∀ {G : Hp} {vs : List V}, Same H1 G ∨ SameX D H2 G → G D = some (.lst vs) → ∀ p ∈ D :: O, Hidn G p := fun {G vs} sG eG p hp => by
      rcases List.mem_cons.mp hp with rfl | hp
      · exact Hidn.lst eG
      · have h0 := (hs.grow s1).hid p hp
        rcases sG with sG | sG
        · exact h0.same sG
        · obtain ⟨o, e, n⟩ := h0.same sH2
          exact ⟨o, sG p o (fun z => hDO (by rw [← z]; exact hp)) e, n⟩
    have rx' := rx (D :: O) (fun p hp => by
      rcases List.mem_cons.mp hp with rfl | hp
      · exact .inr nD
      · exact .inl hp) (fun p hp => (hidn (.inl sm) eD p hp).ne)
    refine qg _ H2 _ Og (w s) x bs[i] _ cut_le c2 rx' fun σ2 hwp hr2 => ⟨(hwp _ hix).trans (wipe_wipe _ fun _ h => h), ?_⟩
    refine iteT (B := Wv (i + 1) (m - 1) H2) ?_
    rw [← hgg] at hus
    obtain ⟨cs, hcs, hus⟩ := Rs.bind_ok hus
    have hsx2 : Sx A.K (D :: O) Γt σ2 H2 (put (w s) bs[i]) := ⟨⟨Og, fun p hp => List.mem_cons_of_mem _ (b1 p hp), hr2⟩, hidn (.inl sH2) eD2⟩
    refine qi1 (D :: O) σ2 H2 _ _ hsx2 ?_
    rw [hcs]
    intro J1 H4 s4 wk1
    generalize hg1 : (fun c => lcT (ft (put1 (w1 (put (w s) bs[i])) c)) (fe (put1 (w1 (put (w s) bs[i])) c))) = gc at hus
    let W1 : Nat → Nat → Hp → Prop := fun j k G => j + k = cs.length ∧ SameX D H4 G ∧ ∃ acc2 ys2 rest, G D = some (.lst acc2) ∧ Paired (τ3.rep A.K (cut G (D :: O))) acc2 ys2 ∧ lcM gc (cs.drop j) = .ok rest ∧ ys2 ++ (rest ++ zs2) = zs
    refine ⟨W1, ⟨cs.length, by omega, fun p o _ e => e, acc, ys, us, s4 _ _ eD2, Paired.mono' (cut_grow (s2.trans s4)) hr, by rw [List.drop_zero]; exact hus, hzz⟩, fun j k G hG => ?_⟩
    obtain ⟨hjk, sG, acc2, ys2, rest, eG, hrG, hkG, hzG⟩ := hG
    have sH4 : Same H1 H4 := sH2.trans s4
    by_cases hj : j < cs.length
    · have gD : Same (cut H4 (D :: O)) G := fun p o e => by
        by_cases hO : p ∈ D :: O
        · rw [cut_in hO] at e; cases e
        · rw [cut_out hO] at e
          exact sG p o (fun z => hO (by rw [z]; exact List.mem_cons_self)) e
      refine .inr ⟨wk1.go j G gD hj, W1 (j + 1) (k - 1), fun H'' h => ⟨k - 1, by omega, h⟩, fun x5 H5 hy5 => ?_⟩
      obtain ⟨s5, rx5⟩ := wk1.yl j _ x5 G H5 gD (List.getElem?_eq_getElem hj) hy5
      have eD5 : H5 D = some (.lst acc2) := s5 _ _ eG
      have sX5 : SameX D H2 H5 := fun p o hp e => s5 _ _ (sG p o hp (s4 _ _ e))
      have r5 := rx5 (D :: O) (fun p hp => .inr (cut_in hp)) (fun p hp => (hidn (.inr fun p o hp e => sG p o hp (s4 _ _ e)) eG p hp).ne)
      have rt5 : Γt.rep A.K (cut H5 (D :: O)) H5 σ2 Og (put (w s) bs[i]) := Γt.mono sX5.cut (fun p hp o e => sX5 p o (hDg p hp) e) hr2
      have hsx5 : Sx A.K (D :: O) Γt σ2 H5 (put (w s) bs[i]) := ⟨⟨Og, fun p hp => List.mem_cons_of_mem _ (b1 p hp), rt5⟩, hidn (.inr sX5) eD5⟩
      obtain ⟨⟨Oh, d1, d2⟩, d3⟩ := hw1.sx hsx5
      refine qg1 _ H5 _ Oh (w1 (put (w s) bs[i])) x5 cs[j] _ cut_le d2 r5 fun σ3 hwp3 hr3 => ⟨(hwp3 _ hix1).trans (wipe_wipe _ fun _ h => h), ?_⟩
      have hsx6 : Sx A.K (D :: O) Γt1 σ3 H5 (put1 (w1 (put (w s) bs[i])) cs[j]) := ⟨⟨Oh, d1, hr3⟩, d3⟩
      rw [List.drop_eq_getElem_cons hj, lcM_cons] at hkG
      obtain ⟨ov, hov, hkG⟩ := Rs.bind_ok hkG
      obtain ⟨rest2, hrest, hkG⟩ := Rs.bind_ok hkG
      rw [← hg1] at hov
      obtain ⟨cb, hcb, hov⟩ := Rs.bind_ok hov
      refine qt (D :: O) σ3 H5 _ _ hsx6 ?_
      rw [hcb]
      intro H6 s6
      cases cb with
      | true =>
        refine iteT (qe (D :: O) σ3 H6 _ _ (hsx6.grow s6) ?_)
        obtain ⟨a, ha, hov⟩ := Rs.bind_ok (show (fe _).bind _ = _ from hov)
        cases hov
        cases hkG
        rw [ha]
        intro v H7 s7 ra
        have s67 := s6.trans s7
        have sX7 : SameX D H4 H7 := fun p o hp e => s67 _ _ (s5 _ _ (sG p o hp e))
        have hl1 : acc2.length = ys2.length := Paired.length hrG
        have hl2 : acc2.length < sizeLine := by
          rw [← hzG] at hz
          simp only [List.length_append, Option.toList, List.length_cons, List.length_nil] at hz
          omega
        refine ⟨acc2, s67 _ _ eD5, hl2, by omega, fun p o hp e => by rw [upd_ne hp]; exact sX7 p o hp e, acc2 ++ [v], ys2 ++ [a], rest2, upd_same, ?_, hrest, ?_⟩
        · rw [cut_upd (by simp)]
          exact Paired.append (Paired.mono' (cut_grow (s5.trans s67)) hrG) (.cons ra .nil)
        · rw [← hzG]; simp
      | false =>
        refine iteF ?_
        cases hov
        cases hkG
        exact ⟨by omega, fun p o hp e => s6 _ _ (s5 _ _ (sG p o hp e)), acc2, ys2, rest2, s6 _ _ eD5, Paired.mono' (cut_grow (s5.trans s6)) hrG, hrest, hzG⟩
    · have ej : j = cs.length := by omega
      rw [List.drop_eq_nil_of_le (by omega)] at hkG
      cases hkG
      refine .inl ⟨by rw [ej]; exact wk1.st G (fun p o e => by
        by_cases hO : p ∈ D :: O
        · rw [cut_in hO] at e; cases e
        · rw [cut_out hO] at e
          exact sG p o (fun z => hO (by rw [z]; exact List.mem_cons_self)) e), by omega, fun p o e => ?_, acc2, ys2, zs2, eG, hrG, hz2, hzG⟩
      exact sG p o (ne_of_none e nD) (sH4 _ _ e)
  · refine .inl ⟨?_, ?_⟩
    · have : i = bs.length := by omega
      rw [this]; exact wk.st H' sm
    · rw [List.drop_eq_nil_of_le (by omega)] at hk
      cases hk
      rw [List.append_nil] at hzz
      subst hzz
      exact k D acc H' (s1.free nD) (s1.trans sm) eD (by rw [Paired.length hr]; exact hz) hr
end
end TL
/-! TL18: small helps. -/
namespace TL
open PySem PySem.Spec PyProof.Rows L2
variable {A : Amb} {ca : Nat → Addr}
theorem SXs.never {ρ S S' L : Type} {sts : List Stmt} {Γ : Cxt S} {Γ' : Cxt S'} {Γl : Cxt L} {rr : Rr ρ} : SXs A ca sts Γ Γ' Γl rr (fun _ => .bad) := ⟨_, fun X hX => pss_never, fun F R σ H s D hs hp => hp.elim⟩
section
variable {S α β : Type} {Γ : Cxt S} {τ : Ty α} {e : Expr} {pos : Pos}
/-- a pair as a row -/
theorem Tc.pr2 : Tc (tTup (.cons τ (.one τ))) (tT τ) (fun p => [p.1, p.2]) := ⟨fun {K H v a} r => by
  obtain ⟨p, vs, rfl, e, v1, r1, rfl, q1, v2, rfl, q2⟩ := r
  exact ⟨p, [v1, v2], rfl, e, (by decide : 2 ≤ sizeLine), .cons q1 (.cons q2 .nil)⟩⟩
/-- (a, b, ..), all of one type -/
theorem PX.tpl {es : List Expr} {g : S → Rs (List α)} {k : Nat} (h : PIs A ca Γ τ es g) (hl : es.length ≤ 1000 := by decide) : PX A ca (.Tuple es k pos) Γ (tT τ) g := by
  obtain ⟨t, ht, q⟩ := h.pa
  refine ⟨_, fun X hX => pe_tup (ht X hX), fun O σ H s Q hs hp => q O σ H s _ hs (hp.mono (fun a k vs H' sm l r => ⟨?_, fun p n => ?_⟩) fun _ z => z)⟩
  · rw [l]; exact Nat.le_of_lt (small1000 hl)
  · exact k (.ref p) _ (sm.trans (same_upd n)) ⟨p, vs, rfl, by rw [cut_out (hs.out' sm n)]; exact upd_same, by rw [l]; exact Nat.le_of_lt (small1000 hl), Paired.mono' (cut_grow (same_upd n)) r⟩
end
end TL
/-! TL19: defs that hand back a new list. -/
namespace TL
open PySem PySem.Spec PyProof.Rows L2
variable {A : Amb} {ca : Nat → Addr}
/-- a new list is handed back -/
def rLst (K : PySem.W.Frag) {α : Type} (c : Ct α) : Rr α := fun F v H r => F.Ok H ∧ ∃ p vs, v = .ref p ∧ F.H0 p = none ∧ H p = some (.lst vs) ∧ vs.length ≤ sizeLine ∧ c.rep K (cut H (p :: F.B)) vs r
def spL (K : PySem.W.Frag) (ca : Nat → Addr) {U β : Type} (ts : Tys U) (c : Ct β) (m : U → Rs β) : Sp := fun vs H Q E => ∃ (O : List Addr) (u : U), (∀ p ∈ O, Hidn H p) ∧ ts.rep K (cut H O) vs u ∧
  (m u).Post (fun b => ∀ p ws H', H p = none → Same H H' → H' p = some (.lst ws) → ws.length ≤ sizeLine → c.rep K (cut H' (p :: O)) ws b → Q (.ref p) H') (Exw E ca H)
structure CalleeL (A : Amb) (ca : Nat → Addr) (x : Str) {U β : Type} (ts : Tys U) (c : Ct β) (m : U → Rs β) : Prop where
  ex : ∃ (f : Addr) (fd : FuncData) (ps : List Str) (k : Nat), k ≤ A.k ∧ FnOk A.P A.w A.K A.mg A.base (L2.CX A.P A.w) k f fd ps (spL A.K ca ts c m) ∧ A.mg x = some (.ref f) ∧ PySem.W.keepIn A.K (.ref f) = true ∧ Binds A.K fd ps []
  db : (x == ("__debug__" : Str)) = false := by decide
section
variable {S S' S'' L α β γ U : Type} {Γ : Cxt S} {Γ' : Cxt S'} {Γ'' : Cxt S''} {Γl : Cxt L} {τ : Ty α} {τ' : Ty β} {c : Ct α} {e a b d : Expr} {pos p p2 : Pos} {x : Str}
theorem PL.call {ts : Tys U} {h : S → Rs U} {c : Ct β} {m : U → Rs β} {es : List Expr} (C : CalleeL A ca x ts c m) (hg : GlA A x) (ha : PAs A ca (e :: es) Γ ts h) (h1 : star e = false := by rfl) (h2 : es.any star = false := by rfl) :
    PL A ca (.Call (.Name x p) (e :: es) [] pos) Γ c (fun s => (h s).bind m) := by
  obtain ⟨ta, pa, qa⟩ := ha
  obtain ⟨fa, fd, ps, k, hk, F, hm, kp, hb⟩ := C.ex
  refine ⟨tCall (spL A.K ca ts c m) [] A.E ta, fun X hX => ?_, fun O σ H s Q hs hp => qa O σ H s _ hs ((Rs.post_bind hp).mono (fun u k vs H1 s1 r => ?_) fun _ z => z)⟩
  · obtain ⟨prog, w, K, mg, base, N, sc, fn, nd, calm, room, pass, own, takes, top⟩ := hX
    exact pe_call (k := k) (fd := fd) (ps := ps) (ds := []) (by rw [prog, w, K, mg, base]; exact F) (room.mono hk) (show Gl X x by show X.env.scope.names.lookup x = _; rw [sc]; exact hg) (by rw [mg]; exact hm) (by rw [K]; exact kp) (by rw [K]; exact hb) .nil pass (pa X ⟨prog, w, K, mg, base, N, sc, fn, nd, calm, room, pass, own, takes, top⟩) C.db (star_each h1) (star_any h2)
  · refine ⟨O, u, (hs.grow s1).hid, by rw [List.append_nil]; exact r, k.mono (fun b k q ws H2 n s2 e2 z2 r2 => k q ws H2 (s1.free n) (s1.trans s2) e2 z2 r2) fun _ z => z.grow s1⟩
theorem SX.retL {f : S → Rs α} (he : PL A ca e Γ c f) : SX A ca (.Return (some e) pos) Γ Γ'' Γl (rLst A.K c) (fun s => (f s).bind fun r => .ok (.rt r)) := by
  obtain ⟨t, ht, q⟩ := he
  refine ⟨_, fun X hX => ps_ret (ht X hX), fun F R σ H s D ⟨Og, h0⟩ hp => q _ σ H s _ h0.sx ((Rs.post_bind hp).mono (fun r k p vs H' n sm ep z rp => ?_) fun _ z => z.exw h0.fr)⟩
  have nI : p ∉ F.I := fun z => (h0.hi p z).ne n
  have nH : F.H0 p = none := by
    cases w : F.H0 p with
    | none => rfl
    | some o => have := h0.fr p o w nI; rw [n] at this; cases this
  refine k _ _ ⟨fun b o e hb => sm _ _ (h0.fr b o e hb), p, vs, rfl, nH, ep, z, c.mono (cut_sub fun q hq => ?_) rp⟩
  rcases List.mem_cons.mp hq with w | w
  · rw [w]; exact List.mem_cons_self
  · exact List.mem_cons_of_mem _ (hid_B q w)
end
section
variable {P : Program} {w : World} {K : PySem.W.Frag} {mg : Str → Option Value} {base : Heap}
theorem fnL_mk {x qual : Str} {st : Stmt} {f : Addr} {fd : FuncData} {N ps : List Str} {k m : Nat} {U S S' β : Type} {ts : Tys U} {c : Ct β} {Γ : Cxt S} {Γ' : Cxt S'} {ini : U → S} {body : S → Rs (Fl β S' Unit)}
    (F : Fun K x qual st f fd) (Sc : FnScope N ps (defScope st)) (hI : Ini ts m Γ ini) (hl : ts.len = ps.length) (hm : N.length = ts.len + m)
    (hb : ∀ E : XK, SXs (ambOf P w K mg base N st k E) ca (defBody st) Γ Γ' .nil (rLst K c) body) :
    FnOk P w K mg base (L2.CX P w) (k + 1) f fd ps (spL K ca ts c (fun u => (body (ini u)).bind (endM fun _ => .bad))) := by
  refine F.okX Sc (fun vs H Q E h => ?_) (fun cdv A outer s H vs Q E hr h => ?_)
  · obtain ⟨O, u, _, r, _⟩ := h
    rw [ts.length r, hl]
  · obtain ⟨O, u, hO, r, hp⟩ := h
    obtain ⟨t, ht, q⟩ := hb E
    refine ⟨t, ht _ (amb_in (x := x) (fd := fd) Sc hr), q ⟨H, O, []⟩ Mn.top _ H (ini u) _ ⟨[], ?_⟩ ((Rs.post_bind hp).mono (fun fl k => ?_) fun c z d H' hf => z d H' fun b o e => hf b o e (by simp))⟩
    · have hc : hid ⟨H, O, []⟩ [] [] = O := by simp [hid]
      refine ⟨?_, trivial, by simp, fun p hp => by simp at hp, fun x hx => by simp at hx, fun b o e _ => e, fun p hp => ⟨hO p hp, by simp⟩, fun p hp => by simp at hp⟩
      have hs : L2.start N vs = vs.map some ++ List.replicate m none := by
        unfold L2.start
        rw [ts.length r, hm, Nat.add_sub_cancel_left]
      rw [hs]
      show Γ.rep K (cut H (hid ⟨H, O, []⟩ [] [])) H _ [] _
      rw [hc]
      exact hI.rep r
    · cases fl with
      | rt r =>
        intro v H' hv
        obtain ⟨ok, p, ws, rfl, n, e, z, rp⟩ := hv
        exact k p ws H' n (fun b o e => ok b o e (by simp)) e z rp
      | nx s => exact k.elim
      | bk s => exact k.elim
      | ct s => exact k.elim
end
/-! ### the facts of a def -/
theorem Callee.of {P : Program} {w : World} {K : PySem.W.Frag} {mg : Str → Option Value} {base : Heap} {N : List Str} {st : Stmt} {k : Nat} {E : XK} {x : Str} {U β : Type} {ts : Tys U} {τ : Ty β} {m : U → Rs β} {f : Addr} {fd : FuncData} {ps : List Str} {j : Nat}
    (F : FnOk P w K mg base (L2.CX P w) j f fd ps (spOf K ca ts τ m)) (hm : mg x = some (.ref f)) (kp : PySem.W.keepIn K (.ref f) = true) (hb : Binds K fd ps []) (hj : j ≤ k) (db : (x == ("__debug__" : Str)) = false := by decide) : Callee (ambOf P w K mg base N st k E) ca x ts τ m := ⟨⟨f, fd, ps, j, hj, F, hm, kp, hb⟩, db⟩
theorem CalleeK.of {P : Program} {w : World} {K : PySem.W.Frag} {mg : Str → Option Value} {base : Heap} {N : List Str} {st : Stmt} {k : Nat} {E : XK} {x : Str} {U β : Type} {ts : Tys U} {τ : Ty β} {m : U → Rs β} {f : Addr} {fd : FuncData} {ps : List Str} {j : Nat}
    (F : FnOk P w K mg base (L2.CX P w) j f fd ps (spOf K ca ts τ m)) (hm : mg x = some (.ref f)) (kp : PySem.W.keepIn K (.ref f) = true) (hb : Binds K fd ps []) (hj : j + 1 ≤ k) (db : (x == ("__debug__" : Str)) = false := by decide) : CalleeK (ambOf P w K mg base N st k E) ca x ts τ m := ⟨⟨f, fd, ps, j, hj, F, hm, kp, hb⟩, db⟩
theorem CalleeIO.of {P : Program} {w : World} {K : PySem.W.Frag} {mg : Str → Option Value} {base : Heap} {N : List Str} {st : Stmt} {k : Nat} {E : XK} {x : Str} {γ U β : Type} {c : Ct γ} {ts : Tys U} {τ : Ty β} {m : γ × U → Rs (β × γ)} {f : Addr} {fd : FuncData} {ps : List Str} {j : Nat}
    (F : FnOk P w K mg base (L2.CX P w) j f fd ps (spIO K ca c ts τ m)) (hm : mg x = some (.ref f)) (kp : PySem.W.keepIn K (.ref f) = true) (hb : Binds K fd ps []) (hj : j ≤ k) (db : (x == ("__debug__" : Str)) = false := by decide) : CalleeIO (ambOf P w K mg base N st k E) ca x c ts τ m := ⟨⟨f, fd, ps, j, hj, F, hm, kp, hb⟩, db⟩
theorem CalleeL.of {P : Program} {w : World} {K : PySem.W.Frag} {mg : Str → Option Value} {base : Heap} {N : List Str} {st : Stmt} {k : Nat} {E : XK} {x : Str} {U β : Type} {ts : Tys U} {c : Ct β} {m : U → Rs β} {f : Addr} {fd : FuncData} {ps : List Str} {j : Nat}
    (F : FnOk P w K mg base (L2.CX P w) j f fd ps (spL K ca ts c m)) (hm : mg x = some (.ref f)) (kp : PySem.W.keepIn K (.ref f) = true) (hb : Binds K fd ps []) (hj : j ≤ k) (db : (x == ("__debug__" : Str)) = false := by decide) : CalleeL (ambOf P w K mg base N st k E) ca x ts c m := ⟨⟨f, fd, ps, j, hj, F, hm, kp, hb⟩, db⟩
/-- the law, worth m at a script -/
theorem law_sp {K : PySem.W.Frag} {m : List Int → Rs Bool} {n : Nat} {H : Hp} {a : Addr} {ns : List Int} (hn : n ≤ sizeLine) (hl : ns.length ≤ n) (hS : SqL K H a (ns.map V.int)) (hm : m ns = .ok true) : spOf K ca (.one (tF tI)) tB m [.ref a] H (fun v _ => v = .bl true) fun _ _ _ => False := by
  refine ⟨[], ns, fun p hp => by simp at hp, ⟨.ref a, rfl, a, ns.map V.int, rfl, by rw [cut_nil]; exact hS, by rw [List.length_map]; exact Nat.le_trans hl hn, Paired.ofInts ns⟩, ?_⟩
  rw [hm]
  exact fun v H' sm r => r
end TL
/-! TL20: the facts of the defs. -/
namespace TL
open PySem PySem.Spec PyProof.Rows L2
/-- a built-in's name that the module does not write -/
structure Bm (mg : Str → Option Value) (x : Str) (u : Value) : Prop where
  mg : mg x = none
  bt : bootBuiltins x = some u
  nn : x ≠ "__name__" := by decide
  db : (x == ("__debug__" : Str)) = false := by decide
theorem Bm.at {A : Amb} {x : Str} {u : Value} (M : Bm A.mg x u) (h : GlA A x) : Blt A x u := ⟨h, M.mg, M.bt, M.nn, M.db⟩
/-- a def of the module as it stands behind the top -/
structure TopFn (K : PySem.W.Frag) (mg : Str → Option Value) (x : Str) (st : Stmt) (ps : List Str) (f : Addr) (fd : FuncData) : Prop where
  F : Fun K x x st f fd
  hm : mg x = some (.ref f)
  bd : Binds K fd ps []
/-- a def that keeps a promise -/
def Ex (P : Program) (w : World) (K : PySem.W.Frag) (mg : Str → Option Value) (base : Heap) (x : Str) (sp : Sp) (j : Nat) : Prop :=
  ∃ (f : Addr) (fd : FuncData) (ps : List Str), FnOk P w K mg base (L2.CX P w) j f fd ps sp ∧ mg x = some (.ref f) ∧ PySem.W.keepIn K (.ref f) = true ∧ Binds K fd ps []
section
variable {P : Program} {w : World} {K : PySem.W.Frag} {mg : Str → Option Value} {base : Heap} {ca : Nat → Addr} {N : List Str} {st : Stmt} {k : Nat} {E : XK} {x : Str} {γ U β : Type} {j : Nat} {ts : Tys U} {τ : Ty β}
theorem Ex.callee {m : U → Rs β} (h : Ex P w K mg base x (spOf K ca ts τ m) j) (hj : j ≤ k) (db : (x == ("__debug__" : Str)) = false := by decide) : Callee (ambOf P w K mg base N st k E) ca x ts τ m :=
  let ⟨f, fd, ps, F, hm, kp, hb⟩ := h; Callee.of F hm kp hb hj db
theorem Ex.calleeK {m : U → Rs β} (h : Ex P w K mg base x (spOf K ca ts τ m) j) (hj : j + 1 ≤ k) (db : (x == ("__debug__" : Str)) = false := by decide) : CalleeK (ambOf P w K mg base N st k E) ca x ts τ m :=
  let ⟨f, fd, ps, F, hm, kp, hb⟩ := h; CalleeK.of F hm kp hb hj db
theorem Ex.calleeIO {c : Ct γ} {m : γ × U → Rs (β × γ)} (h : Ex P w K mg base x (spIO K ca c ts τ m) j) (hj : j ≤ k) (db : (x == ("__debug__" : Str)) = false := by decide) : CalleeIO (ambOf P w K mg base N st k E) ca x c ts τ m :=
  let ⟨f, fd, ps, F, hm, kp, hb⟩ := h; CalleeIO.of F hm kp hb hj db
theorem Ex.calleeL {c : Ct β} {m : U → Rs β} (h : Ex P w K mg base x (spL K ca ts c m) j) (hj : j ≤ k) (db : (x == ("__debug__" : Str)) = false := by decide) : CalleeL (ambOf P w K mg base N st k E) ca x ts c m :=
  let ⟨f, fd, ps, F, hm, kp, hb⟩ := h; CalleeL.of F hm kp hb hj db
end
end TL
/-! TL21: own lists lent to a call; sorted sets of few different numbers. -/
namespace TL
open PySem PySem.Spec PyProof.Rows L2
variable {A : Amb} {ca : Nat → Addr}
/-- a value whose reading asks nothing of the heap -/
def Flat {α : Type} (τ : Ty α) : Prop := ∀ {K : PySem.W.Frag} {H H' : Hp} {v : V} {a : α}, τ.rep K H v a → τ.rep K H' v a
theorem Flat.int : Flat tI := fun h => h
theorem Flat.bool : Flat tB := fun h => h
theorem Flat.non : Flat tN := fun h => h
theorem Flat.strK : Flat tSk := fun h => h
theorem Flat.opt {α : Type} {τ : Ty α} (h : Flat τ) : Flat (tO τ) := fun {K H H' v a} r => by
  cases a with
  | none => exact r
  | some a => exact h r
section
variable {S α β γ U : Type} {Γ : Cxt S} {τ : Ty α} {τ' : Ty β} {c : Ct α} {e a b d tg iter : Expr} {pos p p2 : Pos} {x : Str} {f : S → Rs α}
/-- a value that is read for the length of a call -/
def LX (A : Amb) (ca : Nat → Addr) (e : Expr) {S α : Type} (Γ : Cxt S) (τ : Ty α) (f : S → Rs α) : Prop :=
  ∃ t, (∀ X, A.In X → PE X e t) ∧ ∀ (O : List Addr) (σ : L2.St) (H : Hp) (s : S) (Q : VK), Sx A.K O Γ σ H s →
    (f s).Post (fun a => ∀ v H', Same H H' → τ.rep A.K H' v a → Q v H') (Exw A.E ca H) → t σ H Q
theorem PX.lx (h : PX A ca e Γ τ f) : LX A ca e Γ τ f := by
  obtain ⟨t, ht, q⟩ := h
  exact ⟨t, ht, fun O σ H s Q hs hp => q O σ H s Q hs (hp.mono (fun a k v H' sm r => k v H' sm (τ.mono cut_le r)) fun _ z => z)⟩
theorem BX.lx (h : BX A ca e Γ c f) : LX A ca e Γ c.ty f := by
  obtain ⟨t, ht, q⟩ := h
  exact ⟨t, ht, fun O σ H s Q hs hp => q O σ H s Q hs (hp.mono (fun a k p vs H' sm e z r => k _ H' sm ⟨p, vs, rfl, e, z, c.mono cut_le r⟩) fun _ z => z)⟩
theorem LX.tl {τ : Ty α} {f : S → Rs (List α)} (h : BX A ca e Γ (cL τ) f) : LX A ca e Γ (tL τ) f := h.lx
theorem LX.tlup {ts : Tys α} (h : BX A ca e Γ (cR ts) f) : LX A ca e Γ (tLup ts) f := h.lx
theorem LX.co {g : α → β} (h : LX A ca e Γ τ f) (hc : Tc τ τ' g) : LX A ca e Γ τ' (fun s => (f s).bind fun a => .ok (g a)) := by
  obtain ⟨t, ht, q⟩ := h
  exact ⟨t, ht, fun O σ H s Q hs hp => q O σ H s Q hs ((Rs.post_bind hp).mono (fun a k v H' sm r => k v H' sm (hc.to r)) fun _ z => z)⟩
def LAs (A : Amb) (ca : Nat → Addr) (es : List Expr) {S U : Type} (Γ : Cxt S) (ts : Tys U) (f : S → Rs U) : Prop :=
  ∃ t, (∀ X, A.In X → PA X es t) ∧ ∀ (O : List Addr) (σ : L2.St) (H : Hp) (s : S) (Q : List V → Hp → Prop), Sx A.K O Γ σ H s →
    (f s).Post (fun u => ∀ vs H', Same H H' → ts.rep A.K H' vs u → Q vs H') (Exw A.E ca H) → t σ H Q
theorem LAs.one (h : LX A ca e Γ τ f) (hs : star e = false := by rfl) : LAs A ca [e] Γ (.one τ) f := by
  obtain ⟨t, ht, q⟩ := h
  exact ⟨_, fun X hX => pa_cons (ht X hX) pa_nil (star_each hs), fun O σ H s Q h0 hp => q O σ H s _ h0 (hp.mono (fun a k v H' sm r => k _ H' sm ⟨v, rfl, r⟩) fun _ z => z)⟩
theorem LAs.cons {es : List Expr} {ts : Tys β} {g : S → Rs β} (h : LX A ca e Γ τ f) (hr : LAs A ca es Γ ts g) (hs : star e = false := by rfl) : LAs A ca (e :: es) Γ (.cons τ ts) (fun s => (f s).bind fun a => (g s).bind fun b => .ok (a, b)) := by
  obtain ⟨t, ht, q⟩ := h
  obtain ⟨tr, hr, qr⟩ := hr
  refine ⟨_, fun X hX => pa_cons (ht X hX) (hr X hX) (star_each hs), fun O σ H s Q h0 hp => q O σ H s _ h0 ((Rs.post_bind hp).mono (fun a k v H1 s1 r1 => ?_) fun _ z => z)⟩
  exact qr O σ H1 s _ (h0.grow s1) ((Rs.post_bind k).mono (fun b k vs H2 s2 r2 => k _ H2 (s1.trans s2) ⟨v, vs, rfl, τ.mono s2 r1, r2⟩) fun _ z => z.grow s1)
theorem PX.callF {ts : Tys U} {h : S → Rs U} {m : U → Rs β} {es : List Expr} (hf : Flat τ') (C : Callee A ca x ts τ' m) (hg : GlA A x) (ha : LAs A ca (e :: es) Γ ts h) (h1 : star e = false := by rfl) (h2 : es.any star = false := by rfl) :
    PX A ca (.Call (.Name x p) (e :: es) [] pos) Γ τ' (fun s => (h s).bind m) := by
  obtain ⟨ta, pa, qa⟩ := ha
  obtain ⟨fa, fd, ps, k, hk, F, hm, kp, hb⟩ := C.ex
  refine ⟨tCall (spOf A.K ca ts τ' m) [] A.E ta, fun X hX => ?_, fun O σ H s Q hs hp => qa O σ H s _ hs ((Rs.post_bind hp).mono (fun u k vs H1 s1 r => ?_) fun _ z => z)⟩
  · obtain ⟨prog, w, K, mg, base, N, sc, fn, nd, calm, room, pass, own, takes, top⟩ := hX
    exact pe_call (k := k) (fd := fd) (ps := ps) (ds := []) (by rw [prog, w, K, mg, base]; exact F) (room.mono hk) (show Gl X x by show X.env.scope.names.lookup x = _; rw [sc]; exact hg) (by rw [mg]; exact hm) (by rw [K]; exact kp) (by rw [K]; exact hb) .nil pass (pa X ⟨prog, w, K, mg, base, N, sc, fn, nd, calm, room, pass, own, takes, top⟩) C.db (star_each h1) (star_any h2)
  · refine ⟨[], u, fun p hp => (by simp at hp), by rw [List.append_nil, cut_nil]; exact r, k.mono (fun b k v H2 s2 r2 => k v H2 (s1.trans s2) (hf r2)) fun _ z => z.grow s1⟩
end
theorem lcM_no_exc {β γ : Type} {g : β → Rs (Option γ)} (hg : ∀ x n, g x ≠ .exc n) : ∀ (l : List β) (n : Nat), lcM g l ≠ .exc n
  | [], n => fun z => by cases z
  | x :: r, n => fun z => by
    rw [lcM_cons] at z
    cases hx : g x with
    | ok o =>
      rw [hx] at z
      cases hr : lcM g r with
      | ok ys => rw [hr] at z; cases z
      | exc c => exact lcM_no_exc hg r c hr
      | bad => rw [hr] at z; cases z
    | exc c => exact hg x c hx
    | bad => rw [hx] at z; cases z
theorem lcM_nox_exc {β γ : Type} {h : β → Rs (Option γ)} (l : List β) (n : Nat) : lcM (fun b => nox (h b)) l ≠ .exc n :=
  lcM_no_exc (fun x n z => by cases hx : h x <;> rw [hx] at z <;> cases z) l n
theorem usrt_snoc (xs : List Int) (a : Int) : (usrt (xs ++ [a])).length ≤ (if a ∈ xs then 0 else 1) + (usrt xs).length ∧ (usrt xs).length + (if a ∈ xs then 0 else 1) ≤ (usrt (xs ++ [a])).length := by
  have h1 : ∀ xs : List Int, (usrt xs).Nodup := fun xs => List.nodup_iff_pairwise_ne.mpr ((usrt_lt xs).imp fun h => by omega)
  by_cases h : a ∈ xs
  · rw [if_pos h]
    have : usrt (xs ++ [a]) = usrt xs := lt_uniq (usrt_lt _) (usrt_lt _) fun k => by
      rw [usrt_mem, usrt_mem, List.mem_append, List.mem_singleton]
      exact ⟨fun z => z.elim id fun z => z ▸ h, .inl⟩
    rw [this]; omega
  · rw [if_neg h]
    have hp : (usrt (xs ++ [a])).Perm (a :: usrt xs) := (List.perm_ext_iff_of_nodup (h1 _) (List.nodup_cons.mpr ⟨fun z => h ((usrt_mem _ _).mp z), h1 _⟩)).mpr fun k => by
      rw [usrt_mem, List.mem_append, List.mem_singleton, List.mem_cons, usrt_mem]
      exact or_comm
    rw [hp.length_eq, List.length_cons]; omega
theorem usrt_more : ∀ (zs xs : List Int), (usrt xs).length ≤ (usrt (xs ++ zs)).length
  | [], xs => by rw [List.append_nil]; exact Nat.le_refl _
  | z :: zs, xs => by
    have h1 := (usrt_snoc xs z).2
    have h2 := usrt_more zs (xs ++ [z])
    rw [List.append_assoc] at h2
    exact Nat.le_trans (by omega) h2
section
variable {S α β γ : Type} {Γ : Cxt S} {τ : Ty α} {tg iter : Expr} {pos p p2 : Pos} {x y : Str}
/-- sorted({elt for target in iter if ..}), fewer than 64 different ones -/
theorem PL.sortedSD {S1 S2 : Type} {Γw : Cxt S1} {Γt : Cxt S2} {τ1 : Ty β} {elt : Expr} {ifs : List Expr} {scope : Scope} {fi : S → Rs (List β)} {w : S → S1} {put : S1 → β → S2} {ix : List Nat} {ft : S2 → Rs Bool} {fe : S2 → Rs Int}
    (B : Blt A x (.builtin "sorted")) (own : List (Str × Nat)) (hi : IB A ca tg iter Γ τ1 fi) (hb : blkC A.N A.sc scope own = true) (hw : Wp Γ (own.map (·.2)) Γw w) (hg : GX (A.blk scope) tg Γw Γt τ1 put ix) (hix : ∀ i ∈ ix, i ∈ own.map (·.2))
    (ht : PTz (A.blk scope) ca ifs Γt ft) (he : PX (A.blk scope) ca elt Γt tI fe) (hf : ∀ env x, foldedSetIterable iter env x = pure x := by intro _ _; rfl) :
    PL A ca (.Call (.Name x p) [.SetComp elt [⟨tg, iter, ifs, 0⟩] scope p2] [] pos) Γ (cL tI) (fun s => (fi s).bind fun bs => (lcM (fun b => nox (lcT (ft (put (w s) b)) (fe (put (w s) b)))) bs).bind fun xs => Rs.guard (decide ((usrt xs).length < 64)) (.ok (usrt xs))) := by
  obtain ⟨wi, pi, qi⟩ := hi
  obtain ⟨g, pg, qg⟩ := hg
  obtain ⟨tt, ptt, qt⟩ := ht
  obtain ⟨te, pe, qe⟩ := he
  refine ⟨tCB (rSortedSet A.w) (tCons (tScI A.w wi g tt te (own.map (·.2))) tNil), fun X hX => call1 (r := rSortedSet A.w) hX B (by rw [← hX.w]; exact cr_sortedSet hX.calm) (by rw [← hX.w]; exact pe_scI hX.calm (by rw [hX.N]; exact hX.nd) (pi X hX) (blkOk_by (by rw [hX.N, hX.sc]; exact hb)) (fun s H C cl fp => pg _ (hX.blk scope s H C cl fp)) (fun s H C cl fp => ptt _ (hX.blk scope s H C cl fp)) (fun s H C cl fp => pe _ (hX.blk scope s H C cl fp)) (hf X.env)) rfl, fun O σ H s Q hs hp => ?_⟩
  refine qi O σ H s _ hs ((Rs.post_bind hp).mono (fun bs k J H1 s1 wk => ?_) fun _ z => z)
  intro D nD
  generalize hgg : (fun b => nox (lcT (ft (put (w s) b)) (fe (put (w s) b)))) = gg at k
  have hDO : D ∉ O := hs.out' s1 nD
  let Wv : Nat → Nat → Hp → Prop := fun i m H' => i + m = bs.length ∧ Same H1 H' ∧ ∃ (T : Int → Bool) (n : Nat) (xs : List Int), H' D = some (SetO A.w D T n) ∧ n ≤ (usrt xs).length ∧ (∀ k, T k = true ↔ k ∈ xs) ∧
    ((lcM gg (bs.drop i)).bind fun zs => Rs.guard (decide ((usrt (xs ++ zs)).length < 64)) (.ok (usrt (xs ++ zs)))).Post (fun a => ∀ p vs H'', H p = none → Same H H'' → H'' p = some (.lst vs) → vs.length ≤ sizeLine → (cL tI).rep A.K (cut H'' (p :: O)) vs a → Q (.ref p) H'') (Exw A.E ca H)
  refine ⟨Wv, ⟨bs.length, by omega, same_upd nD, (fun _ => false), 0, [], upd_same, Nat.zero_le _, fun k => by simp, ?_⟩, fun i m H' hW => ?_⟩
  · rw [List.drop_zero]; exact k
  · obtain ⟨him, sm, T, n, xs, eD, hacc, hr, hk⟩ := hW
    by_cases hi : i < bs.length
    · refine .inr ⟨wk.go i H' sm hi, Wv (i + 1) (m - 1), fun H'' h => ⟨m - 1, by omega, h⟩, fun x H2 hy => ?_⟩
      obtain ⟨s2, rx⟩ := wk.yl i _ x H' H2 sm (List.getElem?_eq_getElem hi) hy
      have sH2 : Same H1 H2 := sm.trans s2
      have eD2 : H2 D = some (SetO A.w D T n) := s2 _ _ eD
      have hsx : Sx A.K (D :: O) Γw (wipe σ (own.map (·.2))) H2 (w s) := by
        obtain ⟨⟨Og, b1, b2⟩, b3⟩ := hw.sx (hs.grow s1)
        refine ⟨⟨Og, fun p hp => List.mem_cons_of_mem _ (b1 p hp), Γw.mono (fun b o e => ?_) (fun p hp o e => sH2 _ _ e) b2⟩, fun p hp => ?_⟩
        · by_cases hO : b ∈ O
          · rw [cut_in hO] at e; cases e
          · rw [cut_out hO] at e
            have hb : b ≠ D := ne_of_none e nD
            rw [cut_out (by simp [hb, hO])]; exact sH2 _ _ e
        · rcases List.mem_cons.mp hp with rfl | hp
          · exact ⟨_, eD2, fun _ z => by cases z⟩
          · exact (hs.grow (s1.trans sH2)).hid p hp
      obtain ⟨⟨Og, c1, c2⟩, c3⟩ := hsx
      have rx' := rx (D :: O) (fun p hp => by
        rcases List.mem_cons.mp hp with rfl | hp
        · exact .inr nD
        · exact .inl hp) (fun p hp z => by
        rcases List.mem_cons.mp hp with rfl | hp
        · rw [eD] at z; cases z
        · exact ((hs.grow (s1.trans sm)).hid p hp).ne z)
      refine qg _ H2 _ Og (w s) x bs[i] _ cut_le c2 rx' fun σ' hwp hr' => ⟨(hwp _ hix).trans (wipe_wipe _ fun _ h => h), ?_⟩
      have hsx' : Sx A.K (D :: O) Γt σ' H2 (put (w s) bs[i]) := ⟨⟨Og, c1, hr'⟩, c3⟩
      have hk0 := hk
      rw [List.drop_eq_getElem_cons hi, lcM_cons] at hk0
      have hk1 := Rs.post_bind (Rs.post_bind hk0)
      rw [← hgg] at hk1
      have hk2 := Rs.post_bind (post_nox (E' := Exw E0 ca H2) hk1)
      rw [hgg] at hk2
      refine qt (D :: O) σ' H2 _ _ hsx' (hk2.mono (fun c kc H3 s3 => ?_) fun _ z => z)
      cases c with
      | true =>
        refine iteT (qe (D :: O) σ' H3 _ _ (hsx'.grow s3) ((Rs.post_bind kc).mono (fun a ka v H4 s4 ra => ?_) fun _ z => z.grow s3))
        have s34 := s3.trans s4
        have hka := Rs.post_bind ka
        have hz : (usrt xs).length < 64 := by
          cases hl : lcM gg (bs.drop (i + 1)) with
          | ok zs =>
            rw [hl] at hka
            have hka : (Rs.guard (decide ((usrt (xs ++ ([a] ++ zs))).length < 64)) (Rs.ok (usrt (xs ++ ([a] ++ zs))))).Post _ _ := hka
            have h1 := of_decide_eq_true (Rs.post_guard hka).1
            have h2 := usrt_more ([a] ++ zs) xs
            omega
          | exc n => exact absurd hl (by
              rw [← hgg]
              exact lcM_nox_exc _ _)
          | bad => rw [hl] at hka; exact hka.elim
        have hun := (usrt_snoc xs a).2
        refine ⟨a, T, n, ra, s34 _ _ eD2, Nat.lt_of_lt_of_le (Nat.succ_lt_succ (Nat.lt_of_le_of_lt hacc hz)) (by decide), by omega, ?_, _, _, xs ++ [a], upd_same, ?_, fun k => ?_, ?_⟩
        · exact fun b o e => by
            have hb : b ≠ D := ne_of_none e nD
            rw [upd_ne hb]; exact s34 _ _ (sH2 _ _ e)
        · by_cases hT : T a = true
          · simp only [hT, if_true]
            rw [if_pos ((hr a).mp hT)] at hun
            omega
          · simp only [hT]
            rw [if_neg fun z => hT ((hr a).mpr z)] at hun
            simp
            omega
        · rw [Bool.or_eq_true, hr k, List.mem_append, decide_eq_true_eq]; simp
        · cases hl : lcM gg (bs.drop (i + 1)) with
          | ok zs =>
            rw [hl] at hka
            show Rs.Post (Rs.guard (decide ((usrt (xs ++ [a] ++ zs)).length < 64)) (Rs.ok (usrt (xs ++ [a] ++ zs)))) _ _
            rw [List.append_assoc]
            exact hka
          | exc n => rw [hl] at hka; exact hka
          | bad => rw [hl] at hka; exact hka
      | false =>
        refine iteF ?_
        refine ⟨by omega, sH2.trans s3, T, n, xs, s3 _ _ eD2, by omega, hr, ?_⟩
        cases hl : lcM gg (bs.drop (i + 1)) with
        | ok zs => rw [hl] at kc; exact kc
        | exc n => rw [hl] at kc; exact kc
        | bad => rw [hl] at kc; exact kc
    · refine .inl ⟨?_, ?_⟩
      · have : i = bs.length := by omega
        rw [this]; exact wk.st H' sm
      · rw [List.drop_eq_nil_of_le (by omega)] at hk
        have hk : Rs.Post (Rs.guard (decide ((usrt (xs ++ [])).length < 64)) (Rs.ok (usrt (xs ++ [])))) _ _ := hk
        rw [List.append_nil] at hk
        obtain ⟨hz, hk⟩ := Rs.post_guard hk
        have hz : (usrt xs).length < 64 := of_decide_eq_true hz
        refine ⟨D, T, n, rfl, eD, by omega, fun ns l lt mem hl nl => ?_⟩
        have e : ns = usrt xs := lt_uniq lt (usrt_lt xs) fun k => by rw [mem k, hr k, usrt_mem]
        subst e
        exact hk l _ _ ((s1.trans sm).free nl) ((s1.trans sm).trans (same_upd nl)) upd_same (by rw [List.length_map, hl]; exact Nat.le_trans (by omega : n ≤ 64) (by decide)) (Paired.ofInts _)
end
end TL
/-! TL22: own exception classes over Exception whose __init__ is walked. -/
namespace TLE
open PySem PySem.W PySem.Calls PyProof.Rows PySem.HandSPX
open Builtin Builtin.ObjectAttr
abbrev exT : List Value := [.type "Exception", .type "BaseException", .type "object"]
section
variable {prog : Program} {w : World} {A : Around} {R : Result → Shared → Prop} {hp : Heap} {g : Array GenState} {d : Drawn} {t : Nat} {os : OsState}
theorem osaE {K : W.Frag} {name : Str} {tk : Tok} {v : Value} {x C : Addr} {fv : Array Value} {cd : ClassData}
    (X : K.In hp) (hx : hp.get? x = some { cls := .ref C, data := .fields fv }) (hcd : W.clsIn K C = some cd) (hm : excTail exT cd.mro = true) (hh : cd.hasDict = true) (ha : W.findIn K (.ref C) name = some none)
    (hq : ∀ h' tk' dx, (∀ b o, b ≠ x → hp.get? b = some o → h'.get? b = some o) → hp.objs.size ≤ dx → dx ≠ x → h'.get? x = some { cls := .ref C, dict := some dx, data := .fields fv } →
      h'.Ns1 dx (fun y => if y = name then some v else none) → R (.ok (.ret .none)) ⟨h', g, d, tk', os⟩) :
    codeAny (model prog w) A (.call (.builtin "object.__setattr__") ⟨[.ref x, .str name tk, v], []⟩) R ⟨hp, g, d, t, os⟩ := by
  have I : W.InstAt hp x { cls := .ref C, data := .fields fv } C none := ⟨hx, rfl, rfl, trivial⟩
  have SF := F.store_object
  have hc := excTail_contains (bmB := exT) "object" _ hm
  have ne : cd.mro.isEmpty = false := by
    cases e : cd.mro with
    | nil =>
      rw [e] at hc
      exact absurd hc (by decide)
    | cons _ _ => rfl
  have hob : cd.mro.contains (.type "object") = true := hc.trans (by decide +kernel)
  have hxs : x ≠ hp.objs.size := Nat.ne_of_lt (Heap.lt_size hx)
  have sub : W.Looks (model prog w) hp (isInstance (.ref x) (.type "object")) true := I.type.andThen (W.looks_mroIn X (by unfold W.mroIn; rw [hcd, Option.bind_some, if_neg (by rw [ne]; decide), hob]))
  refine codeAny_call_builtin SF.slot.plain SF.entry (@W.check_slot (model prog w) _ _ ⟨hp, g, d, t, os⟩ "object.__setattr__" "object" "__setattr__" (.ref x) [.str name tk, v] [] _ SF.kind SF.split sub (SF.args (.ref x) (.str name tk) v) ?_)
  have hmr : W.Looks (model prog w) hp (mroOf (.ref C)) cd.mro := (W.looks_clsIn X hcd).andThen .now
  have L3 : W.Looks (model prog w) hp (storeTaker? none) none := .now
  have hcls : W.Looks (model prog w) hp (classData C) cd := W.looks_clsIn X hcd
  rw [W.osa_eq, refuse_eq]
  refine wpAny_bind (wpAny_bind (I.type.at (wpAny_bind (hmr.at ?_))))
  rw [excTail_pass (bmB := exT) _ (F.store_Exception.passes _) _ hm]
  refine wpAny_pure (wpAny_bind (I.type.at (wpAny_bind ((W.looks_findIn X ha).at (wpAny_bind (L3.at ?_))))))
  show wpAny _ _ (storeInOwnDict (.ref x) (.ref C) (.str name tk) name v false) _ _ _
  obtain ⟨nm, bs, mro, ns, qn, hd, sn, sb, ab, col, del⟩ := cd
  dsimp only at hh
  subst hh
  unfold storeInOwnDict ownDictForStores
  repeat (first | with_reducible refine store_in_new ?_ ?_ | with_reducible refine wpAny_loadPart_at hx ?_ | with_reducible refine hcls.at ?_ | wp_step)
  · exact ⟨_, #[], _, (Heap.get?_update_ne _ _ _ _ hxs.symm).trans (Heap.get?_push_at rfl rfl), rfl, fun e he => absurd he (by simp), fun _ => rfl⟩
  · intro h' tk' hn' hs
    have hx₁ : (hp.push { cls := .type "dict", data := .dict #[] }).get? x = some { cls := .ref C, data := .fields fv } := Heap.get?_push_of_some _ hx
    refine hq h' tk' hp.objs.size (fun b o hb ho => ?_) (Nat.le_refl _) hxs.symm ?_ hn'
    · exact (hs.2 b (Nat.ne_of_lt (Heap.lt_size ho))).trans ((Heap.get?_update_ne _ _ _ _ hb).trans (Heap.get?_push_of_some _ ho))
    · exact (hs.2 x hxs).trans (Heap.get?_update_self _ hx₁ rfl)
end
/-- an own class over Exception, as the written part has it -/
def excE (K : Frag) (C : Addr) : Bool := match K.lookup C with
  | some ⟨.type "type", _, .cls cd, sl⟩ => (match cd.mro, sl.toList with
    | .ref C' :: bm, [_, _, _, _, some (.builtin n), _] => C' == C && n == "Exception.__new__" && !cd.hasDel && cd.hasDict && excTail exT bm
    | _, _ => false)
  | _ => false
theorem excE_of {K : Frag} {C : Addr} (q : excE K C = true) : ∃ nm qn N bs bm sn sub ab col dd k0 k1 k2 k3 k5, K.lookup C = some (excClassObj nm qn C N bs bm true sn sub ab col dd k0 k1 k2 k3 k5 "Exception.__new__") ∧ excTail exT bm = true := by
  unfold excE at q
  split at q
  · rename_i dd cd sl ho
    split at q
    · rename_i C' bm k0 k1 k2 k3 n k5 hm hs
      simp only [Bool.and_eq_true, beq_iff_eq, Bool.not_eq_true'] at q
      obtain ⟨⟨⟨⟨rfl, rfl⟩, hdel⟩, hdd⟩, ht⟩ := q
      obtain ⟨nm, bs, mro, ns, qn, hd, sn, sub, ab, col, del⟩ := cd
      dsimp only at hm hdel hdd
      subst hm hdel hdd
      have hsl : sl = #[k0, k1, k2, k3, some (.builtin "Exception.__new__"), k5] := by
        obtain ⟨l⟩ := sl
        simp only at hs
        rw [hs]
      subst hsl
      exact ⟨nm, qn, ns, bs, bm, sn, sub, ab, col, dd, k0, k1, k2, k3, k5, ho, ht⟩
    · cases q
  · cases q
end TLE
namespace L2
open PySem PySem.Spec PyProof.Rows
/-- what the written part says of an own class over Exception -/
structure OexE (K : PySem.W.Frag) (C : Addr) : Prop where
  cls : TLE.excE K C = true
  sa : PySem.W.findIn K (.ref C) "__setattr__" = some (some (.builtin "object.__setattr__"))
  exC : PySem.W.subIn K (.ref C) (.type "BaseException") = some true
  tyC : PySem.W.typeIn K (.ref C) = some (.type "type")
  kC : PySem.W.keepIn K (.ref C) = true
section
variable {X : Cx} {pins : List (Addr × Obj)} {σ : St} {H : Hp} {s : Shared} {a C dx : Addr} {f : Str} {y : V} {u : Value} {Q : Unit → Shared → Prop} {E : Value → Shared → Prop} {A : Around}
/-- self.f = y, the first one -/
theorem osE_new (T : OexE X.K C) (I : Inv X pins σ H s) (e : H a = some (exo a C none)) (hno : PySem.W.findIn X.K (.ref C) f = some none) (ry : RelV y u)
    (h : ∀ dx s', H dx = none → dx ≠ a → Inv X pins σ (upd (upd H dx (exd dx [(f, y)])) a (exo a C (some dx))) s' → Q () s') : wpAny (model X.prog X.w) A (setAttr (.ref a) f u) Q E s := by
  obtain ⟨nm, q, N, bs, bm, sn, sub, ab, col, dd, k0, k1, k2, k3, k5, hC, hbm⟩ := TLE.excE_of T.cls
  have hcl : PySem.W.clsIn X.K C = some { name := nm, bases := bs, mro := .ref C :: bm, ns := N, qualname := q, hasDict := true, slotNames := sn, subclasses := sub, abstract := ab, collection := col, hasDel := false } := by unfold PySem.W.clsIn; rw [hC] <;> rfl
  obtain ⟨t1, ho⟩ := exo_at I.hok e
  obtain ⟨hp, g, d, t, os⟩ := s
  refine PySem.W.set_plain I.kIn (ox := { cls := .ref C, dict := none, data := .fields #[.ref t1, .none, .none, .none, .bool false, .none] }) (od := none) ⟨ho, rfl, rfl, trivial⟩ T.sa ?_
  refine TLE.osaE I.kIn ho hcl (show PySem.W.excTail TLE.exT (.ref C :: bm) = true from hbm) rfl hno (fun h' tk' dx k dn dne hx hn => ?_)
  have hnd : H dx = none := I.hok.fresh dn
  have nd : ∀ {b : Addr} {o : Obj}, hp.get? b = some o → b ≠ dx := fun {b o} q => Nat.ne_of_lt (Nat.lt_of_lt_of_le (Heap.lt_size q) dn)
  have na : ∀ {b : Addr}, H b = none → b ≠ a := fun {b} n z => by
    rw [z, e] at n
    cases n
  have Un1 : Un X.fs [] H (upd (upd H dx (exd dx [(f, y)])) a (exo a C (some dx))) hp h' := {
    keep := fun b o q n _ _ => k b o (na n) q
    slot := fun b o q n _ _ => ⟨o.slots, k b o (na n) q⟩
    free := fun b o q n _ => by rw [upd_ne (na n), upd_ne (nd q)]; exact n
    there := fun b o q _ => by
      by_cases hb : b = a
      · exact ⟨_, by rw [hb]; exact hx⟩
      · exact ⟨o, k b o hb q⟩
    tups := fun b xs q => by rw [upd_ne (at_ne e q exo_tup), upd_ne (ne_of_none q hnd)]; exact q
    frzs := fun b o v q => by rw [upd_ne (at_ne e q exo_frz), upd_ne (ne_of_none q hnd)]; exact q
    tbls := fun b ps q => ⟨#[], by rw [upd_ne (at_ne e q exo_tbl), upd_ne (ne_of_none q hnd), q]; simp⟩ }
  refine h dx _ hnd dne (I.un (t' := tk') Un1 fun b o q => ?_)
  by_cases hb : b = a
  · subst hb
    rw [upd_same] at q
    cases q
    exact exo_ok hx
  · rw [upd_ne hb] at q
    by_cases hd : b = dx
    · subst hd
      rw [upd_same] at q
      cases q
      exact exd_ok hn (relO_put (fs := []) ry fun g => True.intro)
    · rw [upd_ne hd] at q
      exact (I.hok b o q).stay (fun c v hc z => k c v (by
          rcases hc with hc | hc
          · rw [hc]
            exact hb
          · exact at_ne e hc exo_own) z)
        (fun c hc => by rw [upd_ne (at_ne e hc exo_own), upd_ne (ne_of_none hc hnd)]; exact hc) (fun c xs hc => by rw [upd_ne (at_ne e hc exo_tup), upd_ne (ne_of_none hc hnd)]; exact hc)
end
/-- self.f = e -/
def tOsE (K : PySem.W.Frag) (f : Str) (to te : TE) : TS := fun D σ H => te σ H fun y H1 => to σ H1 fun x H2 => ∃ a C : Addr, x = .ref a ∧ OexE K C ∧ PySem.W.findIn K (.ref C) f = some none ∧
  H2 a = some (exo a C none) ∧ ∀ dx, H2 dx = none → dx ≠ a → D.nx σ (upd (upd H2 dx (exd dx [(f, y)])) a (exo a C (some dx)))
section
variable {X : Cx} {o e : Expr} {es : List Expr} {to te : TE} {ta : TA} {f : Str} {p p' p1 p2 pos : Pos}
theorem ps_osE (ho : PE X o to) (he : PE X e te) (hs : swapsWith e (some (.Attribute o f p')) pos.line X.env = pure false := by rfl) : PS X (.Assign [.Attribute o f p'] e pos) (tOsE X.K f to te) := by
  refine ⟨fun pins s σ H D I h => ?_⟩
  refine plainObj_wpAny_Assign_Attribute (thn (he.run pins s σ H _ I h) fun v s1 ⟨y, H1, I1, r1, q1⟩ => thn (ho.run pins s1 σ H1 _ I1 q1) fun u s2 ⟨x, H2, I2, r2, a, C, ex, T, hno, ea, q⟩ => ?_) hs
  subst ex
  obtain rfl : u = Value.ref a := r2
  exact osE_new T I2 ea hno r1 fun dx s' n ne J => ⟨σ, _, J, q dx n ne⟩
theorem pmk_oexE {CX : CXT} {x : Str} {C fI : Addr} {k : Nat} {fd : FuncData} {ps : List Str} {sp : Sp} {ds : List Value} {dvs : List V} (T : OexE X.K C) (iC : PySem.W.findIn X.K (.ref C) "__init__" = some (some (.ref fI))) (tI : PySem.W.typeIn X.K (.ref fI) = some (.type "function"))
    (F1 : FnOk X.prog X.w X.K X.mg X.base CX k fI fd ps sp) (hr : Room (k + 1) X.A) (hb : Binds X.K fd ps ds) (hd : Vals dvs ds) (hx : Passes CX X (fun _ _ _ => False)) (hg : Gl X x) (hm : X.mg x = some (.ref C)) (ha : PA X (e :: es) ta)
    (hdb : (x == ("__debug__" : Str)) = false := by decide) (he : starEach (e :: es) X.env = (false, eval e X.env) :: starEach es X.env := by rfl) (hpl : (backTo pos (starEach es X.env)).any (·.1) = false := by rfl) :
    PMk X (.Call (.Name x p) (e :: es) [] pos) (tMkO C sp dvs ta) := by
  intro pins s σ H Q I h
  obtain ⟨nm, q, N, bs, bm, sn, sub, ab, col, dd, k0, k1, k2, k3, k5, hC, hbm⟩ := TLE.excE_of T.cls
  refine wpAny_Call_Name_kw (ld_glob I hg hm ?_ hdb)
  refine PySem.W.callWith_K (h₀ := X.base) I.ok.mod.kin T.kC (thn (ha.run pos pins s σ H _ I h) fun us s1 ⟨vs, H1, I1, r1, hz, q1⟩ => ⟨I1.kIn, ?_⟩) he hpl
  show wpAny _ _ (call (.ref C) us) _ _ _
  obtain ⟨hp, g, dr, tk, os⟩ := s1
  have hsz : hp.objs.size ≤ hp.objs.size + 1 := Nat.le_succ _
  have hn : H1 (hp.objs.size + 1) = none := I1.hok.fresh hsz
  have hq := q1 (hp.objs.size + 1) hn
  have kk : ∀ b o, hp.get? b = some o → ((hp.push (PySem.W.kdv_tup us)).push (PySem.HandSPX.excO C hp.objs.size)).get? b = some o := fun b o e => Heap.get?_push_of_some _ (Heap.get?_push_of_some _ e)
  have hget : ((hp.push (PySem.W.kdv_tup us)).push (PySem.HandSPX.excO C hp.objs.size)).get? (hp.objs.size + 1) = some (PySem.HandSPX.excO C hp.objs.size) := by heap_get
  have I2 : Inv X pins σ (upd H1 (hp.objs.size + 1) (exo (hp.objs.size + 1) C none)) ⟨(hp.push (PySem.W.kdv_tup us)).push (PySem.HandSPX.excO C hp.objs.size), g, dr, tk, os⟩ :=
    I1.laid (t' := tk) (a := hp.objs.size + 1) (o := exo (hp.objs.size + 1) C none) (h' := (hp.push (PySem.W.kdv_tup us)).push (PySem.HandSPX.excO C hp.objs.size)) kk hsz (exo_ok hget)
  have r2 : Vals (V.ref (hp.objs.size + 1) :: (vs ++ dvs)) (Value.ref (hp.objs.size + 1) :: (us ++ ds)) := .cons rfl (r1.append hd)
  have hl : (Value.ref (hp.objs.size + 1) :: us ++ ds).length = ps.length := by
    have e := r2.length
    rw [F1.len _ _ _ _ hq] at e
    exact e.symm
  have hus : us.length ≤ sizeLine := by
    rw [← Paired.length r1, sizeLine_eq]
    omega
  refine wpAny_call (PySem.HandSPX.call_own F.excBase_Exception (fun Y => PySem.W.excTail_contains Y bm hbm) (I1.kIn _ _ hC) (PySem.W.looks_findIn I1.kIn iC) (fun self => PySem.W.bind_fn I1.kIn self tI) hus
    (codeAny_mono (F1.run _ X.stack _ _ ⟨Value.ref (hp.objs.size + 1) :: us, []⟩ (Value.ref (hp.objs.size + 1) :: (us ++ ds)) _ _ (fun _ _ _ => False) (hr.make C us []) (I2.env0.make C us []) (hb _ (Value.ref (hp.objs.size + 1) :: us) I2.kIn hl) r2 hq) fun r s' hq' => ?_))
  cases r with
  | error er => exact hx pins σ _ _ er s' I2 hq'
  | ok fl =>
    cases fl with
    | ret u =>
      obtain ⟨v, H2, os2, bare2, un2, hok2, rv, ev, d, fs, ea, ed, hd1, q2⟩ := hq'
      subst ev
      obtain ⟨h2, g2, d2, t2, os'⟩ := s'
      exact ⟨rv, mk_end (raises_own T.exC T.tyC) I1 hsz kk un2 hok2 os2 bare2 ea ed hd1 q2⟩
    | next => exact False.elim hq'
    | brk => exact False.elim hq'
    | cont => exact False.elim hq'
end
end L2
/-! TL23: raise, try. -/
namespace TL
open PySem PySem.Spec PyProof.Rows L2
variable {A : Amb} {ca : Nat → Addr}
/-! ### texts that are made and not read -/
section
variable {S α β γ U : Type} {Γ : Cxt S} {τ : Ty α} {e a b d : Expr} {es : List Expr} {pos p p2 : Pos} {x : Str} {n m : Nat}
def PF (A : Amb) (ca : Nat → Addr) (e : Expr) {S : Type} (Γ : Cxt S) (n : Nat) (f : S → Rs Unit) : Prop :=
  ∃ t, (∀ X, A.In X → PE X e t) ∧ ∀ (O : List Addr) (σ : L2.St) (H : Hp) (s : S) (Q : VK), Sx A.K O Γ σ H s →
    (f s).Post (fun _ => ∀ (y : Str) H', Same H H' → y.length ≤ n → Q (.str y) H') (Exw A.E ca H) → t σ H Q
theorem PF.lit {z : Str} {j : Nat} (n : Nat) (h : z.length ≤ n := by decide +kernel) : PF A ca (.Constant (.str z) j pos) Γ n (fun _ => .ok ()) :=
  ⟨_, fun X hX => pe_str, fun O σ H s Q hs hp => hp z H (Same.refl H) h⟩
theorem PF.int {f : S → Rs Int} (h : PX A ca e Γ tI f) : PF A ca (.FormattedValue e (-1) none pos) Γ 2000 (fun s => (f s).bind fun i => Rs.guard (decide (i.natAbs.log2 < 1920)) (.ok ())) := by
  obtain ⟨t, ht, q⟩ := h
  refine ⟨_, fun X hX => pe_fmt (ht X hX), fun O σ H s Q hs hp => q O σ H s _ hs ((Rs.post_bind hp).mono (fun i k v H' sm r => ?_) fun _ z => z)⟩
  obtain ⟨hc, k⟩ := Rs.post_guard k
  have hc := of_decide_eq_true hc
  refine .inr ⟨i, r, hc, k _ H' sm ?_⟩
  show (Str.ofString (toString i)).length ≤ _
  rw [PySem.ofString_length]
  exact Nat.le_trans (int_text_length_le (k := 1920) (by decide) hc) (by decide)
theorem PF.sk {f : S → Rs SK} (h : PX A ca e Γ tSk f) : PF A ca (.FormattedValue e (-1) none pos) Γ 2000 (fun s => (f s).bind fun y => Rs.guard (decide (y.1.length ≤ 2000)) (.ok ())) := by
  obtain ⟨t, ht, q⟩ := h
  refine ⟨_, fun X hX => pe_fmt (ht X hX), fun O σ H s Q hs hp => q O σ H s _ hs ((Rs.post_bind hp).mono (fun y k v H' sm r => ?_) fun _ z => z)⟩
  obtain ⟨hc, k⟩ := Rs.post_guard k
  have hc := of_decide_eq_true hc
  exact .inl ⟨y.1, r, by rw [sizeLine_eq]; omega, k _ H' sm hc⟩
theorem PF.skR {f : S → Rs SK} (h : PX A ca e Γ tSk f) : PF A ca (.FormattedValue e 114 none pos) Γ 2000 (fun s => (f s).bind fun y => Rs.guard (decide ((reprText y.1).length ≤ 2000)) (.ok ())) := by
  obtain ⟨t, ht, q⟩ := h
  refine ⟨_, fun X hX => pe_fmtR (ht X hX), fun O σ H s Q hs hp => q O σ H s _ hs ((Rs.post_bind hp).mono (fun y k v H' sm r => ?_) fun _ z => z)⟩
  obtain ⟨hc, k⟩ := Rs.post_guard k
  have hc := of_decide_eq_true hc
  exact .inl ⟨y.1, r, by rw [sizeLine_eq]; omega, k _ H' sm hc⟩
def PFs (A : Amb) (ca : Nat → Addr) (es : List Expr) {S : Type} (Γ : Cxt S) (n : Nat) (f : S → Rs Unit) : Prop :=
  ∃ ts : List TE, (∀ X, A.In X → PJ X es ts) ∧ ∀ (O : List Addr) (σ : L2.St) (H : Hp) (s : S) (acc : Str) (Q : Str → Hp → Prop), Sx A.K O Γ σ H s → acc.length + n ≤ sizeLine →
    (f s).Post (fun _ => ∀ (y : Str) H', Same H H' → y.length ≤ acc.length + n → Q y H') (Exw A.E ca H) → tJs ts acc σ H Q
theorem PFs.nil : PFs A ca [] Γ 0 (fun _ => .ok ()) := ⟨[], fun X hX => .nil, fun O σ H s acc Q hs hz hp => hp acc H (Same.refl H) (Nat.le_refl _)⟩
theorem PFs.cons {f g : S → Rs Unit} (h : PF A ca e Γ n f) (hr : PFs A ca es Γ m g) : PFs A ca (e :: es) Γ (n + m) (fun s => (f s).bind fun _ => g s) := by
  obtain ⟨t, ht, q⟩ := h
  obtain ⟨ts, hts, qs⟩ := hr
  refine ⟨t :: ts, fun X hX => .cons (ht X hX) (hts X hX), fun O σ H s acc Q hs hz hp => ?_⟩
  refine q O σ H s _ hs ((Rs.post_bind hp).mono (fun _ k y H1 s1 hy => ?_) fun _ z => z)
  have ha : (acc ++ y).length = acc.length + y.length := Str.length_append acc y
  exact ⟨y, rfl, by omega, qs O σ H1 s (acc ++ y) Q (hs.grow s1) (by omega) (k.mono (fun _ k z H2 s2 hz2 => k z H2 (s1.trans s2) (by omega)) fun _ z => z.grow s1)⟩
theorem PF.join {e2 : Expr} {f : S → Rs Unit} (h : PFs A ca (e :: e2 :: es) Γ n f) (hn : n ≤ 100000 := by decide) : PF A ca (.JoinedStr (e :: e2 :: es) pos) Γ n f := by
  obtain ⟨ts, hts, q⟩ := h
  refine ⟨_, fun X hX => pe_joined (hts X hX), fun O σ H s Q hs hp => q O σ H s Str.empty _ hs (by rw [sizeLine_eq]; show 0 + n ≤ _; omega) (hp.mono (fun _ k y H' sm hy => k y H' sm (by have : Str.empty.length = 0 := rfl; omega)) fun _ z => z)⟩
theorem PF.join1 {f : S → Rs Unit} (h : PF A ca e Γ n f) : PF A ca (.JoinedStr [e] pos) Γ n f := by
  obtain ⟨t, ht, q⟩ := h
  exact ⟨_, fun X hX => pe_joined1 (ht X hX), q⟩
theorem PF.sub {f : S → Rs Unit} (h : PF A ca e Γ n f) : PF A ca e Γ n f := h
end
/-! ### raise -/
/-- __init__(self, f): self.f = f -/
def spWhy (K : PySem.W.Frag) (f : Str) : Sp := fun vs H Q _ => ∃ (a C : Addr) (y : V), vs = [.ref a, y] ∧ OexE K C ∧ PySem.W.findIn K (.ref C) f = some none ∧ H a = some (exo a C none) ∧
  ∀ dx, H dx = none → dx ≠ a → Q .non (upd (upd H dx (exd dx [(f, y)])) a (exo a C (some dx)))
section
variable {P : Program} {w : World} {K : PySem.W.Frag} {mg : Str → Option Value} {base : Heap}
theorem fn_why {x qual : Str} {st : Stmt} {f : Addr} {fd : FuncData} {y : Str} {p1 p2 p3 p4 : Pos} (F : Fun K x qual st f fd) (Sc : FnScope ["self", y] ["self", y] (defScope st))
    (hb : defBody st = [.Assign [.Attribute (.Name "self" p1) y p2] (.Name y p3) p4]) (hv1 : Vis (defScope st) "self") (hv2 : Vis (defScope st) y) (hd : (y == ("__debug__" : Str)) = false := by decide) (hcd : (y == ("__classdict__" : Str)) = false := by decide) :
    FnOk P w K mg base (L2.CX P w) 1 f fd ["self", y] (spWhy K y) := by
  refine F.okX (k := 0) Sc (fun vs H Q E h => ?_) (fun cdv A outer s H vs Q E hr h => ?_)
  · obtain ⟨a, C, z, rfl, _⟩ := h
    rfl
  · obtain ⟨a, C, z, rfl, T, nf, ea, q⟩ := h
    rw [hb]
    refine ⟨_, pss_one (ps_osE (pe_var (i := 0) rfl hv1 (by decide) (by decide)) (pe_var (i := 1) rfl hv2 hd hcd)), ?_⟩
    exact ⟨z, rfl, .ref a, rfl, a, C, rfl, T, nf, ea, fun dx n ne => q dx n ne⟩
end
/-- the exception number c is the class x -/
structure ExcN (P : Program) (w : World) (K : PySem.W.Frag) (mg : Str → Option Value) (base : Heap) (ca : Nat → Addr) (c : Nat) (x : Str) : Prop where
  hm : mg x = some (.ref (ca c))
  T : OexE K (ca c)
  init : ∃ (y : Str) (fI : Addr) (fd : FuncData), FnOk P w K mg base (L2.CX P w) 1 fI fd ["self", y] (spWhy K y) ∧ PySem.W.findIn K (.ref (ca c)) y = some none ∧ PySem.W.findIn K (.ref (ca c)) "__init__" = some (some (.ref fI)) ∧ PySem.W.typeIn K (.ref fI) = some (.type "function") ∧ Binds K fd ["self", y] []
structure ExcA (A : Amb) (ca : Nat → Addr) (c : Nat) (x : Str) : Prop where
  N : ExcN A.P A.w A.K A.mg A.base ca c x
  hk : 2 ≤ A.k
  db : (x == ("__debug__" : Str)) = false := by decide
theorem passes_none {P : Program} {w : World} {X : Cx} : Passes (L2.CX P w) X (fun _ _ _ => False) := by
  intro _ _ _ _ _ _ _ h
  obtain ⟨_, _, _, _, _, _, _, _, _, _, _, _, bad⟩ := h
  exact bad.elim
section
variable {ρ S S' S'' L α β γ U : Type} {Γ : Cxt S} {Γ' : Cxt S'} {Γ'' : Cxt S''} {Γl : Cxt L} {rr : Rr ρ} {τ : Ty α} {τ' : Ty β} {e a b d : Expr} {es : List Expr} {pos p p2 py : Pos} {x y : Str} {st : Stmt} {sts : List Stmt} {i n : Nat}
theorem SX.raise {c : Nat} {f : S → Rs Unit} (N : ExcA A ca c x) (hg : GlA A x) (he : PF A ca e Γ n f) (hs : star e = false := by rfl) : SX A ca (.Raise (some (.Call (.Name x p) [e] [] p2)) none pos) Γ Γ' Γl rr (fun s => (f s).bind fun _ => .exc c) := by
  obtain ⟨t, ht, q⟩ := he
  obtain ⟨yf, fI, fd, FF, nf, iI, tI, hb⟩ := N.N.init
  refine ⟨fun D σ H => tMkO (ca c) (spWhy A.K yf) [] (tCons t tNil) σ H fun cls d H' => A.E cls d H', fun X hX => ?_, fun F R σ H s D h0 hp => ?_⟩
  · obtain ⟨prog, w, K, mg, base, N', sc, fn, nd, calm, room, pass, own, takes, top⟩ := hX
    exact ps_raise calm takes (pmk_oexE (k := 1) (fd := fd) (ps := ["self", yf]) (ds := []) (by rw [K]; exact N.N.T) (by rw [K]; exact iI) (by rw [K]; exact tI) (by rw [prog, w, K, mg, base]; exact FF) (room.mono N.hk) (by rw [K]; exact hb) .nil
      passes_none (show X.env.scope.names.lookup x = _ by rw [sc]; exact hg) (by rw [mg]; exact N.N.hm) (pa_cons (ht X ⟨prog, w, K, mg, base, N', sc, fn, nd, calm, room, pass, own, takes, top⟩) pa_nil (star_each hs)) N.db (star_each hs) rfl)
  · obtain ⟨Og, h0⟩ := h0
    show t σ H _
    refine q _ σ H s _ h0.sx ((Rs.post_bind hp).mono (fun _ k y H1 s1 hy => ?_) fun _ z => z.exw h0.fr)
    refine ⟨by simp, fun a na => ⟨a, ca c, .str y, by simp, N.N.T, nf, upd_same, fun dx ndx dne => ⟨rfl, dx, [(yf, .str y)], upd_same, by rw [upd_ne dne, upd_same], by rwa [upd_ne dne] at ndx, k (some dx) _ fun b o eb hb => ?_⟩⟩⟩
    have ndx : H1 dx = none := by rwa [upd_ne dne] at ndx
    have h1 := s1 _ _ (h0.fr b o eb hb)
    have b1 : b ≠ a := ne_of_none h1 na
    have b2 : b ≠ dx := ne_of_none h1 ndx
    rw [upd_ne b2, del_ne b1, upd_ne b1, upd_ne b2, upd_ne b1]
    exact h1
end
end TL
/-! TL24: try. -/
namespace TL
open PySem PySem.Spec PyProof.Rows L2
variable {A : Amb} {ca : Nat → Addr}
abbrev Amb.noE (A : Amb) : Amb := { A with E := fun _ _ _ => False }
/-- which class stands below which -/
structure ExcTab (K : PySem.W.Frag) (ca : Nat → Addr) (n : Nat) (sub : Nat → Nat → Bool) : Prop where
  one : ∀ c k, c < n → k < n → PySem.W.exmOne K (.ref (ca c)) (.ref (ca k)) = some (sub c k)
/-- a class's name in a clause -/
structure ExcH (A : Amb) (ca : Nat → Addr) (k : Nat) (x : Str) : Prop where
  hm : A.mg x = some (.ref (ca k))
  gl : GlA A x
  db : (x == ("__debug__" : Str)) = false := by decide
section
variable {ρ S S' S'' L α β γ U : Type} {Γ : Cxt S} {Γ' : Cxt S'} {Γ'' : Cxt S''} {Γl : Cxt L} {rr : Rr ρ} {τ : Ty α} {τ' : Ty β} {e a b d : Expr} {es : List Expr} {pos p p2 p3 py : Pos} {x y : Str} {st : Stmt} {sts : List Stmt} {i n : Nat}
/-- a clause's suite -/
def SuX (A : Amb) (ca : Nat → Addr) (suite : List Stmt) {ρ S S' L : Type} (Γ : Cxt S) (Γ' : Cxt S') (Γl : Cxt L) (rr : Rr ρ) (g : S → Rs (Fl ρ S' L)) : Prop :=
  ∃ ts : TS, (∀ X, A.In X → ∀ (a : Addr) (oe : Obj) (pn : List (Addr × Obj)), (∃ vs, oe.data = .fields vs) → PSs (X.suite a ((a, oe) :: pn)) suite ts) ∧
    ∀ (F : Fm) (R : Mn) (σ : L2.St) (H : Hp) (s : S) (D : Ends), RS A.K F [] R Γ σ H s → (g s).Post (FlP A.K F R Γ' Γl rr D) (ExF A.E ca F) → ts D σ H
theorem SuX.set {v : Str} {j : Nat} {put : S → SK → S'} (hx : LocA A x) (hN : A.N[i]? = some x) (hp : Put Γ i (.val tSk) Γ' put) (h : PyData.strOk v = true := by decide +kernel) : SuX A ca [.Assign [.Name x py] (.Constant (.str v) j p) pos] Γ Γ' Γl rr (fun s => .ok (.nx (put s ⟨v, h⟩))) := by
  refine ⟨_, fun X hX a oe pn _ => pss_one (ps_set (i := i) (show X.N.Nodup by rw [hX.N]; exact hX.nd) (show X.N[i]? = _ by rw [hX.N]; exact hN) (show Loc X.env.scope x by rw [hX.sc]; exact hx.loc) pe_str rfl (show X.fn x = true ∨ X.env.scope.names.lookup x = some .local by rw [hX.fn, hX.sc]; exact hx.fn)), fun F R σ H s D ⟨Og, h0⟩ hp' => ?_⟩
  exact hp' _ _ (h0.store hp (fun G z => ⟨rfl, _, rfl, rfl⟩) fun G z => z)
theorem SuX.pass : SuX A ca [.Pass pos] Γ Γ Γl rr (fun s => .ok (.nx s)) := ⟨_, fun X hX a oe pn _ => pss_one ps_pass, fun F R σ H s D h0 hp => hp σ H h0⟩
/-- the clauses: what they do with the exception number c -/
def HdX (A : Amb) (ca : Nat → Addr) (hds : List ExceptHandler) {ρ S S' L : Type} (Γ : Cxt S) (Γ' : Cxt S') (Γl : Cxt L) (rr : Rr ρ) (hd : Nat → S → Rs (Fl ρ S' L)) : Prop :=
  ∃ l, (∀ X, A.In X → HdsOk X hds l) ∧ ∀ (F : Fm) (R : Mn) (σ : L2.St) (H : Hp) (s : S) (D : Ends) (c : Nat) (d : Option Addr), RS A.K F [] R Γ σ H s → (hd c s).Post (FlP A.K F R Γ' Γl rr D) (ExF A.E ca F) → wMany A.K (fun c d _ H => A.E c d H) D l (.ref (ca c)) d σ H
theorem HdX.nil : HdX A ca [] Γ Γ' Γl rr (fun c _ => .exc c) := ⟨[], fun X hX => .nil, fun F R σ H s D c d h0 hp => hp d H h0.fr⟩
theorem HdX.cons {k : Nat} {sub : Nat → Nat → Bool} {b₀ : Stmt} {suite : List Stmt} {np pos' : Pos} {hds : List ExceptHandler} {g : S → Rs (Fl ρ S' L)} {hd : Nat → S → Rs (Fl ρ S' L)} (T : ExcTab A.K ca n sub) (N : ExcH A ca k x) (hk : k < n) (hs : SuX A ca (b₀ :: suite) Γ Γ' Γl rr g) (hr : HdX A ca hds Γ Γ' Γl rr hd) :
    HdX A ca (.ExceptHandler (some (.Name x np)) none (b₀ :: suite) pos' :: hds) Γ Γ' Γl rr (fun c s => if c < n then if sub c k then g s else hd c s else .bad) := by
  obtain ⟨ts, hts, qs⟩ := hs
  obtain ⟨l, hl, ql⟩ := hr
  refine ⟨(.ref (ca k), fun _ _ _ => ts) :: l, fun X hX => .cons ?_ (fun a oe cls d pn _ hv => hts X hX a oe pn hv) (hl X hX), fun F R σ H s D c d h0 hp => ?_⟩
  · exact ⟨show X.env.scope.names.lookup x = _ by rw [hX.sc]; exact N.gl, N.db, .inl (by rw [hX.mg]; exact N.hm)⟩
  · dsimp only at hp
    by_cases hc : c < n
    · rw [if_pos hc] at hp
      refine ⟨sub c k, T.one c k hc hk, fun e a na => ?_, fun e => ?_⟩
      · rw [if_pos e] at hp
        exact qs F R σ H s D h0 hp
      · rw [if_neg (by rw [e]; simp)] at hp
        exact ql F R σ H s D c d h0 hp
    · rw [if_neg hc] at hp
      exact hp.elim
def tryM {U β S ρ S' L : Type} (f : Rs U) (m : U → Rs β) (k : Fl ρ S' L) (hd : Nat → Rs (Fl ρ S' L)) : Rs (Fl ρ S' L) := (nox f).bind fun u => match m u with
  | .ok _ => .ok k
  | .exc c => hd c
  | .bad => .bad
/-- try: f(..); except .. -/
theorem SX.tryC {ts : Tys U} {f : S → Rs U} {m : U → Rs β} {h₀ : ExceptHandler} {hds : List ExceptHandler} {hd : Nat → S → Rs (Fl ρ S L)} (C : Callee A ca x ts τ' m) (hg : GlA A x) (hfn : A.fn = fun _ => true) (ha : PAs A.noE ca (e :: es) Γ ts f) (hh : HdX A ca (h₀ :: hds) Γ Γ Γl rr hd)
    (h1 : star e = false := by rfl) (h2 : es.any star = false := by rfl) :
    SX A ca (.Try [.Expr (.Call (.Name x p) (e :: es) [] p2) p3] (h₀ :: hds) [] [] pos) Γ Γ Γl rr (fun s => tryM (S := S) (f s) m (.nx s) fun c => hd c s) := by
  obtain ⟨ta, pa, qa⟩ := ha
  obtain ⟨l, hl, ql⟩ := hh
  obtain ⟨fa, fd, ps, k, hk, F, hm, kp, hb⟩ := C.ex
  refine ⟨fun D σ H => tDrop (tCallS (spOf A.K ca ts τ' m) (WE (wMany A.K (fun c d _ H => A.E c d H) D l)) ta) D σ H, fun X hX => ?_, fun Fm R σ H s D h0 hp => ?_⟩
  · obtain ⟨hstk, hfr⟩ := hX.top hfn
    have hX' := hX
    obtain ⟨prog, w, K, mg, base, N, sc, fn, nd, calm, room, pass, own, takes, top⟩ := hX
    rw [← K]
    refine ps_try_many (tb := fun W => fun D σ H => tDrop (tCallS (spOf X.K ca ts τ' m) (WE W) ta) D σ H) hstk hfr takes (fun W pn xe tk po => ?_) (hl X hX')
    have hX2 : A.noE.In (X.tr pn xe) := ⟨prog, w, K, mg, base, N, sc, fn, nd, calm, room, passes_none, po, takes_none5, fun _ => ⟨hstk, hfr⟩⟩
    refine pss_one (ps_expr ?_ rfl)
    exact pe_callS (X := X.tr pn xe) (k := k) (fd := fd) (ps := ps) (by show FnOk X.prog X.w X.K X.mg X.base _ _ _ _ _ _; rw [prog, w, K, mg, base]; exact F) (room.mono hk) (show X.env.scope.names.lookup x = _ by rw [sc]; exact hg) (show X.mg x = _ by rw [mg]; exact hm) (show PySem.W.keepIn X.K _ = _ by rw [K]; exact kp) (show Binds X.K _ _ _ by rw [K]; exact hb) (fun σ => passAt tk σ) (pa _ hX2) C.db (star_each h1) (star_any h2)
  · obtain ⟨Og, h1'⟩ := id h0
    show ta σ H _
    unfold tryM at hp
    have hp1 := Rs.post_bind hp
    have hp2 := post_nox (E' := Exw A.noE.E ca H) hp1
    refine qa _ σ H s _ h1'.sx (hp2.mono (fun u k vs H1 s1 r => ?_) fun _ z => z)
    refine ⟨hid Fm [] Og, u, (h1'.grow s1).hidden, r, ?_⟩
    cases hm : m u with
    | ok b =>
      rw [hm] at k
      exact fun v H2 s2 _ => k σ H2 (h0.grow (s1.trans s2))
    | exc c =>
      rw [hm] at k
      exact fun d H2 s2 => ql Fm R σ H2 s D c d (h0.grow (s1.trans s2)) k
    | bad =>
      rw [hm] at k
      exact k.elim
end
section
variable {S : Type} {Γ : Cxt S} {a b : Expr} {rest : List Expr} {pos : Pos}
/-- a or b, a an int or None -/
theorem PX.orO {f : S → Rs (Option Int)} {g : S → Rs Int} (ha : PX A ca a Γ (tO tI) f) (hb : PX A ca (.BoolOp .Or (b :: rest) pos) Γ tI g) : PX A ca (.BoolOp .Or (a :: b :: rest) pos) Γ tI (fun s => (f s).bind fun x => match x with
    | some i => if i = 0 then g s else .ok i
    | none => g s) := by
  obtain ⟨ta, pa, qa⟩ := ha
  obtain ⟨tb, pb, qb⟩ := hb
  refine ⟨tOrT A.K ta tb, fun X hX => by rw [← hX.K]; exact pe_orT (pa X hX) (pb X hX), fun O σ H s Q hs hp => qa O σ H s _ hs ((Rs.post_bind hp).mono (fun x k v H1 s1 r => ?_) fun _ z => z)⟩
  have go : (g s).Post (fun a => ∀ v H', Same H H' → tI.rep A.K (cut H' O) v a → Q v H') (Exw A.E ca H) → tb σ H1 Q := fun k => qb O σ H1 s Q (hs.grow s1) (k.mono (fun a k v H2 s2 r => k v H2 (s1.trans s2) r) fun _ z => z.grow s1)
  cases x with
  | none =>
    obtain rfl : v = .non := r
    exact ⟨false, (rfl : TruV A.K .non H1 false), by rw [if_neg (by simp)]; exact go k⟩
  | some i =>
    obtain rfl : v = .int i := r
    by_cases h : i = 0
    · simp only [h, if_true] at k
      exact ⟨false, (show (false : Bool) = (i != 0) by simp [h]), by rw [if_neg (by simp)]; exact go k⟩
    · simp only [h, if_false] at k
      exact ⟨true, (show (true : Bool) = (i != 0) by simp [h]), by rw [if_pos rfl]; exact k _ H1 s1 rfl⟩
end
end TL
/-! TL25: sorted(tuple, key=f); is, is not of truth values. -/
namespace PySem.W
open PySem PySem.Calls PyProof.Rows
section
variable {prog : Program} {w : World} {A : Around} {s : Shared} {E : Value → Shared → Prop}
theorem collect_tupT {l : Addr} {vs : List Value} {Q : List Value → Shared → Prop} (hl : ∃ o, s.heap.get? l = some o ∧ o.cls = .type "tuple" ∧ ∃ n, o.data = .seq vs.toArray n)
    (h : Q vs { s with heap := (s.heap.push (seqObj "list" #[] 0)).update s.heap.objs.size (Obj.mapSeq (· ++ vs.toArray)) }) (hsz : vs.length ≤ sizeLine) :
    wpAny (model prog w) A (collect (.ref l)) Q E s := by
  obtain ⟨o, ho, hc, n, hd⟩ := id hl
  unfold collect
  refine wpAny_bind (wpAny_runValue (codeAny_builtin entry_proto_collect' ?_))
  show wpAny _ _ (do again (.builtin "list.__iadd__" ⟨[← newList [], .ref l], []⟩)) _ _ s
  refine wpAny_bind (wpAny_newList (wpAny_pure ⟨Code.quiet_builtin _ (by decide +kernel), codeAny_builtin entry_list_iadd' ?_⟩))
  show wpAny _ _ (Builtin.List.listExtendWith (.ref s.heap.objs.size) (.ref l) (.ref s.heap.objs.size)) _ _ { s with heap := s.heap.push (seqObj "list" #[] 0) }
  unfold Builtin.List.listExtendWith
  have ho' : (s.heap.push (seqObj "list" #[] 0)).get? l = some o := Heap.get?_push_of_some _ ho
  refine wpAny_bind (wpAny_typeOf (T := "tuple") ⟨o, ho', hc⟩ ?_)
  have ht : (Value.type "tuple" == Value.type "tuple") = true := by rfl
  rw [if_pos (by rw [ht]; simp)]
  refine wpAny_bind (listItems_at ho' hd ?_)
  refine wpAny_bind (listItems_at (xs := #[]) (n := 0) (Heap.get?_push_size _ rfl) rfl ?_)
  rw [if_neg (by simp)]
  refine wpAny_bind (listUpdate_at (xs := #[]) (n := 0) (Heap.get?_push_size _ rfl) rfl ?_ (Nat.zero_le _) (by show (#[] ++ vs.toArray).size ≤ sizeLine + 1; simp only [Array.size_append, List.size_toArray, List.length_nil]; omega))
  refine wpAny_pure ?_
  show wpAny (model prog w) A (do
      let o ← load s.heap.objs.size
      match o.data with
      | .seq xs _ => pure xs.toList
      | _ => unsupported "internal:collect") Q E { s with heap := (s.heap.push (seqObj "list" #[] 0)).update s.heap.objs.size (Obj.mapSeq (· ++ vs.toArray)) }
  refine wpAny_bind (wpAny_load (get?_update_seq (Heap.get?_push_size _ rfl) _) ?_)
  show wpAny _ _ (pure ((#[] : Array Value) ++ vs.toArray).toList) Q E _
  rw [show ((#[] : Array Value) ++ vs.toArray).toList = vs by simp]
  exact wpAny_pure h
theorem sorted_of_sortT {l : Addr} {vs : List Value} {kw : List (Str × Value)} {Q : Value → Shared → Prop} (hl : ∃ o, s.heap.get? l = some o ∧ o.cls = .type "tuple" ∧ ∃ n, o.data = .seq vs.toArray n) (hL : vs.length ≤ sizeLine) (ha1 : argsOk "sorted" ⟨[.ref l], kw⟩) (ha2 : ∀ x, argsOk "list.sort" ⟨[.ref x], kw⟩)
    (body : ∀ E' : Value → Shared → Prop, wpAny (model prog w) A.in1.in1 (Builtin.«list.sort» ⟨[.ref (s.heap.objs.size + 1)], kw⟩) (fun f s' => f = .done (.ret .none) ∧ Q (.ref (s.heap.objs.size + 1)) s') E' { s with heap := copyHeap s.heap vs }) :
    wpAny (model prog w) A (call (.builtin "sorted") [.ref l] kw) Q E s := by
  refine call_function_entry_kw kind_sorted plain_sorted entry_sorted ha1 ?_
  unfold Builtin.«sorted»
  refine wpAny_bind (m := checkCount "sorted" 1 1 _) (wpAny_pure ?_)
  refine wpAny_bind (collect_tupT hl ?_ hL)
  refine wpAny_bind (wpAny_newList ?_ hL)
  have hsz : ((s.heap.push (seqObj "list" #[] 0)).update s.heap.objs.size (Obj.mapSeq (· ++ vs.toArray))).objs.size = s.heap.objs.size + 1 := by
    rw [Heap.size_update, size_push']
  show wpAny _ _ _ _ _ { s with heap := copyHeap s.heap vs }
  rw [hsz]
  refine wpAny_bind (wpAny_holding (wpAny_call_entry_kw slot_list_sort ⟨_, copyHeap_at s.heap vs, rfl⟩ entry_list_sort ?body (ha2 _)))
  case body =>
    show wpAny (model prog w) A.in1.in1 (Builtin.«list.sort» ⟨[.ref (s.heap.objs.size + 1)], kw⟩) _ _ _
    refine wpAny_mono (body _) (fun f s' hf => ?_) fun _ _ e => e
    obtain ⟨rfl, hq⟩ := hf
    exact ⟨_, rfl, wpAny_pure ⟨_, rfl, hq⟩⟩
end
end PySem.W
namespace TL
open PySem PySem.Spec PyProof.Rows L2
section
variable {X : Cx} {k : Nat} {f : Addr} {fd : FuncData} {ps : List Str} {sp : Sp} {pins : List (Addr × Obj)} {σ : L2.St} {H : Hp} {s : Shared} {Q : VK}
theorem sortedK_runT {l : Addr} {xs : List V} {ks : List (Int × Int)} (F : FnOk X.prog X.w X.K X.mg X.base (L2.CX X.prog X.w) k f fd ps sp) (hr : Room (k + 1) X.A) (hb : Binds X.K fd ps []) (I : Inv X pins σ H s) (hl : SqT X.K H l xs) (hk : ks.length = xs.length)
    (hs : ∀ (i : Nat) (v : V) (kk : Int × Int), xs[i]? = some v → ks[i]? = some kk → ∀ H1, Same H H1 → sp [v] H1 (fun u H2 => Same H1 H2 ∧ KeyIs H2 u kk) fun _ _ _ => False)
    (q : ∀ a H1, Same H H1 → H1 a = none → Q (.ref a) (upd H1 a (.lst (((xs.zip ks).mergeSort fun p q => lexLe p.2 q.2).map (·.1))))) :
    wpAny (model X.prog X.w) X.A (call (.builtin "sorted") [.ref l] [(Str.ofString "key", .ref f)]) (EP X pins σ Q) X.xe s := by
  obtain ⟨its, rv, pl, hz⟩ := I.tuple hl
  have hzi : its.length ≤ sizeLine := by rw [← rv.length]; exact hz
  refine PySem.W.sorted_of_sortT pl hzi (ksk_s1 _ _) (fun _ => ksk_l1 _ _) fun E' => ?_
  rw [ksk_t1]
  have hfr : s.heap.objs.size ≤ s.heap.objs.size + 1 := Nat.le_succ _
  generalize ha : s.heap.objs.size + 1 = a at *
  have at1 : (PySem.W.copyHeap s.heap its).get? a = some (seqObj "list" its.toArray 0) := by rw [← ha]; exact PySem.W.copyHeap_at s.heap its
  obtain ⟨e1, at2⟩ : ∃ e1, ((PySem.W.copyHeap s.heap its).update a (Obj.mapSeq fun _ => (#[] : Array Value))).get? a = some (seqObj "list" #[] e1) := ⟨_, get?_update_seq at1 fun _ => #[]⟩
  have hz2 : a < (PySem.W.copyHeap s.heap its).objs.size := Heap.lt_size at1
  obtain ⟨g1, hg1⟩ : ∃ g1, g1 = ((PySem.W.copyHeap s.heap its).update a (Obj.mapSeq fun _ => (#[] : Array Value))).push (seqObj "tuple" its.toArray 0) := ⟨_, rfl⟩
  have up1 : ∀ b o, s.heap.get? b = some o → g1.get? b = some o := fun b o e => by
    have hb : b < s.heap.objs.size := Heap.lt_size e
    rw [hg1]
    refine Heap.get?_push_of_some _ ?_
    rw [Heap.get?_update_ne _ _ _ _ (Nat.ne_of_lt (Nat.lt_of_lt_of_le hb hfr))]
    exact PySem.W.copyHeap_old e
  have a1 : g1.get? a = some (seqObj "list" #[] e1) := by rw [hg1]; exact Heap.get?_push_of_some _ at2
  have I1 : Inv X pins σ H { s with heap := g1, toks := s.toks } := inv_more I up1
  have fa : FpOk X pins H a := I.fpOk hfr (I.hok.fresh hfr)
  have P1 := inv_pin (p := (a, seqObj "list" #[] e1)) I1 a1 fa (fun v e => by cases e)
  have hgs : s.heap.objs.size ≤ g1.objs.size := Nat.le_trans hfr (Nat.le_of_lt (Heap.lt_size a1))
  have fk : FpOk X ((a, seqObj "list" #[] e1) :: pins) H g1.objs.size := P1.fpOk (Nat.le_refl _) (I.hok.fresh hgs)
  have hka : g1.objs.size ≠ a := Nat.ne_of_gt (Heap.lt_size a1)
  have k2 : (g1.push (seqObj "list" #[] 0)).get? g1.objs.size = some (seqObj "list" #[] 0) := Heap.get?_push_size _ rfl
  have I2 : Inv X ((a, seqObj "list" #[] e1) :: pins) σ H { s with heap := g1.push (seqObj "list" #[] 0), toks := s.toks } := inv_more (s := { s with heap := g1, toks := s.toks }) P1 fun b o e => Heap.get?_push_of_some _ e
  have P2 := inv_pin (p := (g1.objs.size, seqObj "list" #[] 0)) I2 k2 fk (fun v e => by cases e)
  clear I1 P1 I2 k2
  generalize hkS : g1.objs.size = kS at *
  unfold ksk_tree
  refine wpAny_bind (listItems_at at1 rfl ?_)
  refine wpAny_bind (listUpdate_at at1 rfl ?_ (by rw [List.size_toArray]; exact hzi) (Nat.zero_le _))
  refine wpAny_bind (seqEpoch_at at2 rfl ?_)
  refine wpAny_bind (wpAny_newTuple ?_ hzi)
  refine wpAny_bind (wpAny_newList ?_ (Nat.zero_le _))
  refine wpAny_holding ?_
  have hkS' : (((PySem.W.copyHeap s.heap its).update a (Obj.mapSeq fun _ => (#[] : Array Value))).push { cls := .type "tuple", data := .seq its.toArray }).objs.size = kS := by rw [← hkS, hg1]
  rw [hkS']
  unfold ksk_rest
  refine wpAny_bind (wpAny_rule ?_)
  rw [List.forIn_toArray]
  refine wpAny_bind (ksk_fold (fun i s' => ∃ Hi kA e vs, Inv X ((kS, seqObj "list" kA e) :: (a, seqObj "list" #[] e1) :: pins) σ Hi s' ∧ Same H Hi ∧ Vals vs kA.toList ∧ Paired (KeyIs Hi) vs (ks.take i)) its 0 _
    ⟨H, #[], 0, [], by rw [hg1] at P2; exact P2, Same.refl _, .nil, by rw [List.take_zero]; exact .nil⟩ ?step ?done)
  case step =>
    rintro j x s' hx ⟨Hi, kA, e, vs, Ii, sm, vv, kp⟩
    simp only [Nat.zero_add] at kp ⊢
    obtain ⟨v, hv, rx⟩ := vals_at rv hx
    have hj : j < ks.length := by
      have := (List.getElem?_eq_some_iff.mp hv).1
      omega
    obtain ⟨kk, hkk⟩ : ∃ kk, ks[j]? = some kk := ⟨_, List.getElem?_eq_getElem hj⟩
    have hsz : kA.size ≤ its.length := by
      have h1 : vs.length = kA.toList.length := vv.length
      have h2 : vs.length = (ks.take j).length := Paired.length kp
      have h3 : xs.length = its.length := rv.length
      have h4 : kA.toList.length = kA.size := Array.length_toList
      have h5 : (ks.take j).length ≤ j := List.length_take_le ..
      omega
    refine wpAny_bind (wpAny_attempt (wpAny_mono (run_in2 (E := fun _ _ => False) F hr hb Ii rx (hs j v kk hv hkk Hi sm)) (fun u s2 he => ?_) fun _ _ hF => hF.elim))
    obtain ⟨vk, H2, I2, rk, sm2, ki⟩ := he
    try dsimp only
    obtain ⟨nk, hkn, _⟩ := I2.pin (kS, seqObj "list" kA e) (List.mem_append_right _ List.mem_cons_self)
    have s1 := Heap.SameBut.update s2.heap kS (Obj.mapSeq (·.push u))
    refine wpAny_bind (listUpdate_at nk rfl ?_ (Nat.le_trans hsz hzi) (by rw [Array.size_push]; omega))
    have I3 : Inv X ((a, seqObj "list" #[] e1) :: pins) σ H2 { s2 with heap := s2.heap.update kS (Obj.mapSeq (·.push u)), toks := s2.toks } :=
      (inv_unpin I2).turned (fun b o hb e => (s1.2 b hb).trans e) hkn fk.2.1 fk.2.2.2.1 fk.2.2.2.2.1 fk.2.2.2.2.2
    have P3 := inv_pin (p := (kS, seqObj "list" (kA.push u) _)) I3 (get?_update_seq nk (·.push u)) ⟨hkn, fk.2⟩ (fun v e => by cases e)
    refine wpAny_pure ⟨rfl, H2, kA.push u, _, vs ++ [vk], P3, sm.trans sm2, ?_, ?_⟩
    · rw [Array.toList_push]
      exact vals_snoc vv rk
    · rw [List.take_add_one, hkk]
      exact Paired.append (paired_mono (fun _ _ q => KeyIs.mono sm2 q) kp) (.cons ki .nil)
  case done =>
    rintro s' ⟨Hn, kA, e, vs, In, sm, vv, kp⟩
    have hlen := rv.length
    have ek : ks.take (0 + its.length) = ks := List.take_of_length_le (by omega)
    rw [ek] at kp
    obtain ⟨nk, hkn, _⟩ := In.pin (kS, seqObj "list" kA e) (List.mem_append_right _ List.mem_cons_self)
    obtain ⟨na, han, _⟩ := In.pin (a, seqObj "list" #[] e1) (List.mem_append_right _ (List.mem_cons_of_mem _ List.mem_cons_self))
    have hzip : (xs.zip ks).map (fun b => kdat b.2) = ks.map kdat := by
      have e2 : (xs.zip ks).map Prod.snd = ks := List.map_snd_zip (by omega)
      have e3 : (xs.zip ks).map (fun b => kdat b.2) = ((xs.zip ks).map Prod.snd).map kdat := by rw [List.map_map]; rfl
      rw [e3, e2]
    have hal : PySem.W.AllAlike (ks.map kdat) := by
      intro d hd d' hd'
      obtain ⟨x, _, rfl⟩ := List.mem_map.mp hd
      obtain ⟨y, _, rfl⟩ := List.mem_map.mp hd'
      simp [kdat, PySem.W.alike, PySem.W.alikeAll]
    have hso : PySem.W.Sortable (ks.map kdat) := .inl fun d hd => by
      obtain ⟨x, _, rfl⟩ := List.mem_map.mp hd
      exact ⟨_, _, rfl⟩
    have hrd := keys_reads In vv kp
    have hu : ∀ d, d ∈ ks.map kdat → X.A.in1.in1.units + d.depth < cLine := fun d hd => by
      obtain ⟨x, _, rfl⟩ := List.mem_map.mp hd
      have := hr.units
      show X.A.units + 1 + 1 + (kdat x).depth < cLine
      have : (kdat x).depth ≤ 4 := by simp [kdat, PyData.depth, PyData.depthAll]
      omega
    have hks : kA.size = its.length := by
      have h1 : vs.length = kA.toList.length := vv.length
      have h2 : vs.length = ks.length := Paired.length kp
      have h4 : kA.toList.length = kA.size := Array.length_toList
      omega
    obtain ⟨G, g1', g2'⟩ := restrict s'.heap fun b => decide (b ≠ kS)
    refine wpAny_bind (listItems_at nk rfl ?_)
    refine PySem.W.keyH_end (κ := PySem.W.dataKind s'.heap (ks.map kdat)) (h₁ := G) (fun b o _ q => ?_) (g2' kS (by simp)) nk na hka (PySem.W.SortsAt.data hrd hal hso hu) hks hzi fun h' tk c kb hD => ⟨rfl, ?_⟩
    · by_cases hb : b = kS
      · rw [hb, g2' kS (by simp)] at q
        cases q
      · rw [← g1' b (by simp [hb])]
        exact q
    have In0 := inv_unpin (inv_unpin In)
    have IG : Inv X pins σ Hn { s' with heap := G, toks := s'.toks } := In0.turned (it := kS) (fun b o hb q => by rw [g1' b (by simp [hb])]; exact q) hkn fk.2.1 fk.2.2.2.1 fk.2.2.2.2.1 (fun p hp => fk.2.2.2.2.2 p (by
      rcases List.mem_append.mp hp with hp | hp
      · exact List.mem_append_left _ hp
      · exact List.mem_append_right _ (List.mem_cons_of_mem _ hp)))
    have ko : PySem.W.KeyedOut false ((xs.zip ks).map fun b => kdat b.2) its (PySem.W.sortVals (PySem.W.dataKind s'.heap (ks.map kdat)) false kA.toList its) := ⟨s'.heap, kA.toList, by rw [hzip]; exact hal, by rw [hzip], by rw [hzip]; exact hrd⟩
    have ea := PySem.W.keyedOut_each (R := fun (u : Value) (b : V × (Int × Int)) => RelV b.1 u) (fun b => kdat b.2) ko (each_zip rv hk)
    have ele : PySem.W.dataLe false (fun b : V × (Int × Int) => kdat b.2) = fun p q => lexLe p.2 q.2 := by
      funext b c
      exact kdat_le (fun b : V × (Int × Int) => b.2) b c
    rw [ele] at ea
    have hlz : (((xs.zip ks).mergeSort fun p q => lexLe p.2 q.2).map (·.1)).length ≤ sizeLine := by
      rw [List.length_map, List.length_mergeSort, List.length_zip]
      omega
    have hob : ObjOk X.prog X.w (upd Hn a (.lst (((xs.zip ks).mergeSort fun p q => lexLe p.2 q.2).map (·.1)))) h' a (.lst (((xs.zip ks).mergeSort fun p q => lexLe p.2 q.2).map (·.1))) := ⟨hlz, _, c, each_vals ea, hD⟩
    have If := Inv.take (s := { s' with heap := G, toks := s'.toks }) (t' := tk) IG (fun b o hb q => kb b o hb q) ⟨han, fa.2⟩ hob
    exact ⟨.ref a, _, If, rfl, q a Hn sm han⟩
def rSortKT (K : PySem.W.Frag) (F : Addr) (sp : Sp) : List V → List V → Hp → VK → Prop := fun vs zs H Q => ∃ (l : Addr) (xs : List V) (ks : List (Int × Int)), vs = [.ref l] ∧ zs = [.ref F] ∧ SqT K H l xs ∧ ks.length = xs.length ∧
  (∀ (i : Nat) (v : V) (kk : Int × Int), xs[i]? = some v → ks[i]? = some kk → ∀ H1, Same H H1 → sp [v] H1 (fun u H2 => Same H1 H2 ∧ KeyIs H2 u kk) fun _ _ _ => False) ∧
  ∀ a H1, Same H H1 → H1 a = none → Q (.ref a) (upd H1 a (.lst (((xs.zip ks).mergeSort fun p q => lexLe p.2 q.2).map (·.1))))
end
variable {A : Amb} {ca : Nat → Addr}
section
variable {S α : Type} {Γ : Cxt S} {τ : Ty α} {a b : Expr} {pos p p2 p3 : Pos} {x y : Str} {f : S → Rs (List α)}
theorem PL.sortedKT {m : α → Rs (Int × Int)} (B : Blt A x (.builtin "sorted")) (C : CalleeK A ca y (.one τ) (tTup (.cons tI (.one tI))) m) (hg : GlA A y) (ha : PX A ca a Γ (tT τ) f) (h1 : star a = false := by rfl) : PL A ca (.Call (.Name x p) [a] [⟨some "key", .Name y p2, p3⟩] pos) Γ (cL τ) (fun s => (f s).bind (srtK m)) := by
  obtain ⟨ta, pa, qa⟩ := ha
  obtain ⟨fa, fd, ps, k, hk, F, hm, kp, hb⟩ := C.ex
  refine ⟨tCKw (rSortKT A.K fa (spOf A.K ca (.one τ) (tTup (.cons tI (.one tI))) m)) (tCons ta tNil) (tCons (tC (.ref fa)) tNil), fun X hX => ?_, fun O σ H s Q hs hp => ?_⟩
  · have hcr : CallRK X (.builtin "sorted") [Str.ofString "key"] (rSortKT A.K fa (spOf A.K ca (.one τ) (tTup (.cons tI (.one tI))) m)) := by
      intro pins s σ H vs zs us ws Q I rv rz h
      obtain ⟨l, xs, ks, rfl, rfl, h1, h2, h3, h4⟩ := h
      obtain rfl := Vals.ref1 rv
      obtain rfl := Vals.ref1 rz
      obtain ⟨prog, w, K, mg, base, N, sc, fn, nd, calm, room, pass, own, takes, top⟩ := hX
      exact sortedK_runT (k := k) (fd := fd) (ps := ps) (by rw [prog, w, K, mg, base]; exact F) (room.mono hk) (by rw [K]; exact hb) I (by rw [K]; exact h1) h2 h3 h4
    exact pe_callBK hcr (hX.gl B.gl) (by rw [hX.mg]; exact B.mg) B.bt (pa_cons (pa X hX) pa_nil (star_each h1)) (pk_cons (pe_glob (hX.gl hg) (by rw [hX.mg]; exact hm) rfl C.db) pk_nil) B.nn B.db (by rw [star_each h1]; rfl) (by rw [star_each h1]; rfl)
  · refine qa O σ H s _ hs ((Rs.post_bind hp).mono (fun xs k2 v0 H1 s1 rr0 => ?_) fun _ z => z)
    obtain ⟨l, vs, rfl, e, z, r⟩ := rr0
    unfold srtK at k2
    cases hkm : keysM m xs with
    | exc c => rw [hkm] at k2; exact k2.elim
    | bad => rw [hkm] at k2; exact k2.elim
    | ok ks =>
      rw [hkm] at k2
      obtain ⟨hl, hkey⟩ := keysM_len hkm
      have hvl := Paired.length r
      refine ⟨l, vs, ks, rfl, rfl, .inl (.inl (cut_le _ _ e)), by omega, fun i v kk hv hkk H2 s2 => ?_, fun q H2 s2 n => ?_⟩
      · obtain ⟨hi, _⟩ := List.getElem?_eq_some_iff.mp hkk
        obtain ⟨x', hx'⟩ : ∃ x', xs[i]? = some x' := ⟨_, List.getElem?_eq_getElem (by omega)⟩
        obtain ⟨v', hv', rv⟩ := Paired.get r hx'
        rw [hv] at hv'
        cases hv'
        have e1 := hkey i x' kk hx' hkk
        refine ⟨O, x', fun p hp => ?_, ⟨v, rfl, τ.mono (cut_grow s2) rv⟩, ?_⟩
        · have h0 := (hs.grow (s1.trans s2)).hid p hp
          exact h0
        · rw [e1]
          intro u H3 s3 rep
          obtain ⟨t, us, rfl, et, v1, r1, rfl, q1, v2, rfl, q2⟩ := rep
          refine ⟨s3, t, rfl, ?_⟩
          rw [show v1 = .int kk.1 from q1, show v2 = .int kk.2 from q2] at et
          exact cut_le _ _ et
      · have hle : (((vs.zip ks).mergeSort fun p q => lexLe p.2 q.2).map (·.1)).length ≤ sizeLine := by
          rw [List.length_map, List.length_mergeSort, List.length_zip]
          omega
        refine k2 q _ _ ((s1.trans s2).free n) ((s1.trans s2).trans (same_upd n)) upd_same hle ?_
        exact Paired.mono' (cut_new n) (paired_sort (Paired.mono' (cut_grow s2) r) (by omega))
theorem PX.isB {f g : S → Rs Bool} (hm : behindInMarks .Is b = false) (ha : PX A ca a Γ tB f) (hb : PX A ca b Γ tB g) : PX A ca (.Compare a [.Is] [b] pos) Γ tB (fun s => (f s).bind fun x => (g s).bind fun y => .ok (decide (x = y))) := by
  obtain ⟨ta, pa, qa⟩ := ha
  obtain ⟨tb, pb, qb⟩ := hb
  refine ⟨_, fun X hX => pe_cmpR op_isBl (pa X hX) (pb X hX) hm, fun O σ H s Q hs hp => PX.two qa qb hs hp fun x y v u H2 sm r1 r2 k => ?_⟩
  exact ⟨x, y, r1, r2, k _ H2 sm rfl⟩
theorem PB.isB {f g : S → Rs Bool} (hm : behindInMarks .Is b = false) (ha : PX A ca a Γ tB f) (hb : PX A ca b Γ tB g) : PB A ca (.Compare a [.Is] [b] pos) Γ (fun s => (f s).bind fun x => (g s).bind fun y => .ok (decide (x = y))) := by
  obtain ⟨ta, pa, qa⟩ := ha
  obtain ⟨tb, pb, qb⟩ := hb
  refine ⟨_, fun X hX => pt_cmpR op_isBl (pa X hX) (pb X hX) hm, fun O σ H s Q hs hp => PX.two qa qb hs hp fun x y v u H2 sm r1 r2 k => ?_⟩
  exact ⟨x, y, r1, r2, _, rfl, k H2 sm⟩
theorem PX.notB {f g : S → Rs Bool} (hm : behindInMarks .IsNot b = false) (ha : PX A ca a Γ tB f) (hb : PX A ca b Γ tB g) : PX A ca (.Compare a [.IsNot] [b] pos) Γ tB (fun s => (f s).bind fun x => (g s).bind fun y => .ok (!decide (x = y))) := by
  obtain ⟨ta, pa, qa⟩ := ha
  obtain ⟨tb, pb, qb⟩ := hb
  refine ⟨_, fun X hX => pe_cmpR op_notBl (pa X hX) (pb X hX) hm, fun O σ H s Q hs hp => PX.two qa qb hs hp fun x y v u H2 sm r1 r2 k => ?_⟩
  exact ⟨x, y, r1, r2, k _ H2 sm rfl⟩
theorem PB.notB {f g : S → Rs Bool} (hm : behindInMarks .IsNot b = false) (ha : PX A ca a Γ tB f) (hb : PX A ca b Γ tB g) : PB A ca (.Compare a [.IsNot] [b] pos) Γ (fun s => (f s).bind fun x => (g s).bind fun y => .ok (!decide (x = y))) := by
  obtain ⟨ta, pa, qa⟩ := ha
  obtain ⟨tb, pb, qb⟩ := hb
  refine ⟨_, fun X hX => pt_cmpR op_notBl (pa X hX) (pb X hX) hm, fun O σ H s Q hs hp => PX.two qa qb hs hp fun x y v u H2 sm r1 r2 k => ?_⟩
  exact ⟨x, y, r1, r2, _, rfl, k H2 sm⟩
end
end TL
/-! TL26: types made narrower, where the value allows it. -/
namespace TL
open PySem PySem.Spec PyProof.Rows L2
variable {A : Amb} {ca : Nat → Addr}
structure Tp {α β : Type} (τ : Ty α) (τ' : Ty β) (g : α → Option β) : Prop where
  to : ∀ {K : PySem.W.Frag} {H : Hp} {v : V} {a : α} {b : β}, g a = some b → τ.rep K H v a → τ'.rep K H v b
theorem Tp.of {α β : Type} {τ : Ty α} {τ' : Ty β} {g : α → β} (h : Tc τ τ' g) : Tp τ τ' (fun a => some (g a)) := ⟨fun e r => by cases e; exact h.to r⟩
theorem Tp.unw {α : Type} {τ : Ty α} : Tp (tO τ) τ (fun a => a) := ⟨fun {K H v a b} e r => by subst e; exact r⟩
theorem Tp.comp {α β γ : Type} {τ : Ty α} {τ' : Ty β} {τ'' : Ty γ} {g : α → Option β} {h : β → Option γ} (p : Tp τ τ' g) (q : Tp τ' τ'' h) : Tp τ τ'' (fun a => (g a).bind h) := ⟨fun {K H v a c} e r => by
  cases hg : g a with
  | none => rw [hg] at e; cases e
  | some b => rw [hg] at e; exact q.to e (p.to hg r)⟩
structure Tps {α β : Type} (ts : Tys α) (us : Tys β) (g : α → Option β) : Prop where
  to : ∀ {K : PySem.W.Frag} {H : Hp} {vs : List V} {a : α} {b : β}, g a = some b → ts.rep K H vs a → us.rep K H vs b
theorem Tps.one {α β : Type} {τ : Ty α} {τ' : Ty β} {g : α → Option β} (p : Tp τ τ' g) : Tps (.one τ) (.one τ') g := ⟨fun e r => by
  obtain ⟨v, rfl, r⟩ := r
  exact ⟨v, rfl, p.to e r⟩⟩
theorem Tps.cons {α β γ δ : Type} {τ : Ty α} {τ' : Ty β} {ts : Tys γ} {us : Tys δ} {g : α → Option β} {h : γ → Option δ} (p : Tp τ τ' g) (q : Tps ts us h) : Tps (.cons τ ts) (.cons τ' us) (fun a => (g a.1).bind fun x => (h a.2).map fun y => (x, y)) := ⟨fun {K H vs a b} e r => by
  obtain ⟨v, w, rfl, r1, r2⟩ := r
  cases hg : g a.1 with
  | none => rw [hg] at e; cases e
  | some x =>
    cases hh : h a.2 with
    | none => rw [hg, hh] at e; cases e
    | some y =>
      rw [hg, hh] at e
      cases e
      exact ⟨v, w, rfl, p.to hg r1, q.to hh r2⟩⟩
theorem Tp.tup {α β : Type} {ts : Tys α} {us : Tys β} {g : α → Option β} (p : Tps ts us g) : Tp (tTup ts) (tTup us) g := ⟨fun e r => by
  obtain ⟨a, vs, rfl, h, r⟩ := r
  exact ⟨a, vs, rfl, h, p.to e r⟩⟩
def mapO {α β : Type} (g : α → Option β) : List α → Option (List β)
  | [] => some []
  | x :: r => (g x).bind fun y => (mapO g r).map fun ys => y :: ys
theorem paired_mapO {α β : Type} {τ : Ty α} {τ' : Ty β} {g : α → Option β} (p : Tp τ τ' g) {K : PySem.W.Frag} {H : Hp} : ∀ {as : List α} {vs : List V} {bs : List β}, mapO g as = some bs → Paired (τ.rep K H) vs as → Paired (τ'.rep K H) vs bs
  | [], vs, bs, e, h => by
    cases h
    cases e
    exact .nil
  | a :: as, vs, bs, e, h => by
    cases h with
    | cons h r =>
      unfold mapO at e
      cases hg : g a with
      | none => rw [hg] at e; cases e
      | some y =>
        cases hr : mapO g as with
        | none => rw [hg, hr] at e; cases e
        | some ys =>
          rw [hg, hr] at e
          cases e
          exact .cons (p.to hg h) (paired_mapO p hr r)
theorem Tp.lst {α β : Type} {τ : Ty α} {τ' : Ty β} {g : α → Option β} (p : Tp τ τ' g) : Tp (tL τ) (tL τ') (mapO g) := ⟨fun e r => by
  obtain ⟨a, vs, rfl, h, z, r⟩ := r
  exact ⟨a, vs, rfl, h, z, paired_mapO p e r⟩⟩
theorem Tp.tpl {α β : Type} {τ : Ty α} {τ' : Ty β} {g : α → Option β} (p : Tp τ τ' g) : Tp (tT τ) (tT τ') (mapO g) := ⟨fun e r => by
  obtain ⟨a, vs, rfl, h, z, r⟩ := r
  exact ⟨a, vs, rfl, h, z, paired_mapO p e r⟩⟩
theorem PX.pa {S α β : Type} {Γ : Cxt S} {τ : Ty α} {τ' : Ty β} {e : Expr} {f : S → Rs α} {g : α → Option β} (h : PX A ca e Γ τ f) (p : Tp τ τ' g) : PX A ca e Γ τ' (fun s => (f s).bind fun a => Rs.ofOpt (g a)) := by
  obtain ⟨t, ht, q⟩ := h
  refine ⟨t, ht, fun O σ H s Q hs hp => q O σ H s Q hs ((Rs.post_bind hp).mono (fun a k v H' sm r => ?_) fun _ z => z)⟩
  obtain ⟨b, e, k⟩ := Rs.post_ofOpt k
  exact k v H' sm (p.to e r)
theorem any_one {S : Type} {Γ : Cxt S} {i : Nat} (h : AnyAt Γ i) : ∀ j ∈ [i], AnyAt Γ j := fun j hj => by rw [List.mem_singleton.mp hj]; exact h
theorem any_cons {S : Type} {Γ : Cxt S} {i : Nat} {l : List Nat} (h : AnyAt Γ i) (r : ∀ j ∈ l, AnyAt Γ j) : ∀ j ∈ i :: l, AnyAt Γ j := fun j hj => by
  rcases List.mem_cons.mp hj with z | z
  · rw [z]; exact h
  · exact r j z
theorem PX.oneV {S α : Type} {Γ : Cxt S} {τ : Ty α} {a : Expr} {pos : Pos} {f1 : S → Rs α} {op : BoolOp} (h : PX A ca a Γ τ f1) : PX A ca (.BoolOp op [a] pos) Γ τ f1 := let ⟨t, p, q⟩ := h; ⟨t, fun X hX => pe_one (p X hX), q⟩
theorem spOf_nox {K : PySem.W.Frag} {ca ca' : Nat → Addr} {U β : Type} {ts : Tys U} {τ : Ty β} {m : U → Rs β} : ∀ vs H Q E, spOf K ca' ts τ (fun u => nox (m u)) vs H Q E → spOf K ca ts τ m vs H Q E := fun vs H Q E ⟨O, u, h1, h2, h3⟩ => ⟨O, u, h1, h2, by
  dsimp only at h3
  cases hm : m u with
  | ok b => rw [hm] at h3; exact h3
  | exc c => rw [hm] at h3; exact h3.elim
  | bad => rw [hm] at h3; exact h3.elim⟩
end TL
namespace T16
open PySem PySem.Spec PyProof.Rows L2 TL
def topS (i : Nat) : Stmt := PySem.Challenge.pw_somanyties_k16_one_side.main.body.getD i (.Pass ⟨0, 0, 0, 0⟩)
def subT (c k : Nat) : Bool := (([[true, false], [true, true]] : List (List Bool)).getD c []).getD k false
abbrev s_row_bound : Stmt := topS 5
abbrev N_row_bound : List Str := ["many"]
theorem sc_row_bound : FnScope N_row_bound ["many"] (defScope s_row_bound) := ⟨rfl, rfl, rfl, by decide +kernel, rfl, by decide +kernel, by decide +kernel⟩
def w_row_bound : {f : _ → Rs (Fl Unit _ Unit) // ∀ (P : Program) (w : World) (K : PySem.W.Frag) (mg : Str → Option Value) (base : Heap) (ca : Nat → Addr) (k : Nat) (E : XK) (u_ROW_MOST : Value) (g_ROW_MOST : mg "ROW_MOST" = some u_ROW_MOST) (r_ROW_MOST : RelV (.int 60) u_ROW_MOST) (x_TooMany : ExcA (ambOf P w K mg base N_row_bound s_row_bound k E) ca 1 "TooMany"), SXs (ambOf P w K mg base N_row_bound s_row_bound k E) ca (defBody s_row_bound) (.cons (.val tI) .nil) (.cons (.val tI) .nil) .nil (rVal K tN) f} :=
  ⟨_, fun P w K mg base ca k E u_ROW_MOST g_ROW_MOST r_ROW_MOST x_TooMany =>
    (SXs.cons (SX.iteP (PB.gt (PX.var At.z rfl (vb rfl)) (PX.globI (i := 60) rfl g_ROW_MOST r_ROW_MOST)) (SX.one (SX.raise x_TooMany rfl (PF.join (PFs.cons (PF.int (PX.var At.z rfl (vb rfl))) (PFs.cons (PF.lit 35) (PFs.cons (PF.int (PX.globI (i := 60) rfl g_ROW_MOST r_ROW_MOST)) PFs.nil)))))) SXs.nil) SXs.nil)⟩
def m_row_bound (u : Int) : Rs Unit := (w_row_bound.1 (u, ())).bind (endM (fun _ => .ok ()))
theorem g_row_bound {P : Program} {w : World} {K : PySem.W.Frag} {mg : Str → Option Value} {base : Heap} {ca : Nat → Addr} {f : Addr} {fd : FuncData} (T : TopFn K mg "row_bound" s_row_bound ["many"] f fd) {u_ROW_MOST : Value} (g_ROW_MOST : mg "ROW_MOST" = some u_ROW_MOST) (r_ROW_MOST : RelV (.int 60) u_ROW_MOST) (X_TooMany : ExcN P w K mg base ca 1 "TooMany") : FnOk P w K mg base (L2.CX P w) 3 f fd ["many"] (spOf K ca (.one tI) tN m_row_bound) :=
  fn_mk (m := 0) (dn := fun _ => .ok ()) T.F sc_row_bound (Ini.one Anys.nil) rfl rfl (fun E => w_row_bound.2 P w K mg base ca 2 E u_ROW_MOST g_ROW_MOST r_ROW_MOST ⟨X_TooMany, by show 2 ≤ 2; decide, by decide⟩) (hd := fun _ => .inl fun _ => rfl)
theorem f_row_bound {P : Program} {w : World} {K : PySem.W.Frag} {mg : Str → Option Value} {base : Heap} {ca : Nat → Addr} {f : Addr} {fd : FuncData} (T : TopFn K mg "row_bound" s_row_bound ["many"] f fd) {u_ROW_MOST : Value} (g_ROW_MOST : mg "ROW_MOST" = some u_ROW_MOST) (r_ROW_MOST : RelV (.int 60) u_ROW_MOST) (X_TooMany : ExcN P w K mg base ca 1 "TooMany") : Ex P w K mg base "row_bound" (spOf K ca (.one tI) tN m_row_bound) 3 :=
  ⟨f, fd, ["many"], g_row_bound T g_ROW_MOST r_ROW_MOST X_TooMany, T.hm, T.F.kp, T.bd⟩
abbrev s_endless_times : Stmt := topS 6
abbrev N_endless_times : List Str := ["many", "number"]
theorem sc_endless_times : FnScope N_endless_times ["many", "number"] (defScope s_endless_times) := ⟨rfl, rfl, rfl, by decide +kernel, rfl, by decide +kernel, by decide +kernel⟩
def w_endless_times : {f : _ → Rs (Fl (Option Int) _ Unit) // ∀ (P : Program) (w : World) (K : PySem.W.Frag) (mg : Str → Option Value) (base : Heap) (ca : Nat → Addr) (k : Nat) (E : XK), SXs (ambOf P w K mg base N_endless_times s_endless_times k E) ca (defBody s_endless_times) (.cons (.val (tO tI)) (.cons (.val (tO tI)) .nil)) (.cons (.val (tO tI)) (.cons (.val (tO tI)) .nil)) .nil (rVal K (tO tI)) f} :=
  ⟨_, fun P w K mg base ca k E =>
    (SXs.cons (SX.iteP (PBw.pb (PB.or (PB.eqD (Enc.opt EncN.int) (PX.var At.z rfl (vb rfl)) (PX.co PX.int Tc.some)) (PB.or1 (PB.eqD (Enc.opt EncN.int) (PX.var (At.s At.z) rfl (vb rfl)) (PX.co PX.int Tc.some))))) (SX.one (SX.retP (PX.co PX.int Tc.some))) SXs.nil) (SXs.cons (SX.iteP (PBw.pb (PB.or (PB.isN NN.int (PX.var At.z rfl (vb rfl))) (PB.or1 (PB.isN NN.int (PX.var (At.s At.z) rfl (vb rfl)))))) (SX.one (SX.retP (PX.co PX.non Tc.none))) SXs.nil) (SX.one (SX.retP (PX.co (PX.mul (PX.unw (PX.var At.z rfl (vb rfl))) (PX.unw (PX.var (At.s At.z) rfl (vb rfl)))) Tc.some)))))⟩
def m_endless_times (u : (Option Int) × (Option Int)) : Rs (Option Int) := (w_endless_times.1 (u.1, (u.2, ()))).bind (endM (fun _ => .bad))
theorem g_endless_times {P : Program} {w : World} {K : PySem.W.Frag} {mg : Str → Option Value} {base : Heap} {ca : Nat → Addr} {f : Addr} {fd : FuncData} (T : TopFn K mg "endless_times" s_endless_times ["many", "number"] f fd) : FnOk P w K mg base (L2.CX P w) 1 f fd ["many", "number"] (spOf K ca (.cons (tO tI) (.one (tO tI))) (tO tI) m_endless_times) :=
  fn_mk (m := 0) (dn := fun _ => .bad) T.F sc_endless_times (Ini.cons (Ini.one Anys.nil)) rfl rfl (fun E => w_endless_times.2 P w K mg base ca 0 E)
theorem f_endless_times {P : Program} {w : World} {K : PySem.W.Frag} {mg : Str → Option Value} {base : Heap} {ca : Nat → Addr} {f : Addr} {fd : FuncData} (T : TopFn K mg "endless_times" s_endless_times ["many", "number"] f fd) : Ex P w K mg base "endless_times" (spOf K ca (.cons (tO tI) (.one (tO tI))) (tO tI) m_endless_times) 1 :=
  ⟨f, fd, ["many", "number"], g_endless_times T, T.hm, T.F.kp, T.bd⟩
abbrev s_endless_plus : Stmt := topS 7
abbrev N_endless_plus : List Str := ["one", "other"]
theorem sc_endless_plus : FnScope N_endless_plus ["one", "other"] (defScope s_endless_plus) := ⟨rfl, rfl, rfl, by decide +kernel, rfl, by decide +kernel, by decide +kernel⟩
def w_endless_plus : {f : _ → Rs (Fl (Option Int) _ Unit) // ∀ (P : Program) (w : World) (K : PySem.W.Frag) (mg : Str → Option Value) (base : Heap) (ca : Nat → Addr) (k : Nat) (E : XK), SXs (ambOf P w K mg base N_endless_plus s_endless_plus k E) ca (defBody s_endless_plus) (.cons (.val (tO tI)) (.cons (.val (tO tI)) .nil)) (.cons (.val (tO tI)) (.cons (.val (tO tI)) .nil)) .nil (rVal K (tO tI)) f} :=
  ⟨_, fun P w K mg base ca k E =>
    (SXs.cons (SX.iteP (PBw.pb (PB.or (PB.isN NN.int (PX.var At.z rfl (vb rfl))) (PB.or1 (PB.isN NN.int (PX.var (At.s At.z) rfl (vb rfl)))))) (SX.one (SX.retP (PX.co PX.non Tc.none))) SXs.nil) (SX.one (SX.retP (PX.co (PX.add (PX.unw (PX.var At.z rfl (vb rfl))) (PX.unw (PX.var (At.s At.z) rfl (vb rfl)))) Tc.some))))⟩
def m_endless_plus (u : (Option Int) × (Option Int)) : Rs (Option Int) := (w_endless_plus.1 (u.1, (u.2, ()))).bind (endM (fun _ => .bad))
theorem g_endless_plus {P : Program} {w : World} {K : PySem.W.Frag} {mg : Str → Option Value} {base : Heap} {ca : Nat → Addr} {f : Addr} {fd : FuncData} (T : TopFn K mg "endless_plus" s_endless_plus ["one", "other"] f fd) : FnOk P w K mg base (L2.CX P w) 1 f fd ["one", "other"] (spOf K ca (.cons (tO tI) (.one (tO tI))) (tO tI) m_endless_plus) :=
  fn_mk (m := 0) (dn := fun _ => .bad) T.F sc_endless_plus (Ini.cons (Ini.one Anys.nil)) rfl rfl (fun E => w_endless_plus.2 P w K mg base ca 0 E)
theorem f_endless_plus {P : Program} {w : World} {K : PySem.W.Frag} {mg : Str → Option Value} {base : Heap} {ca : Nat → Addr} {f : Addr} {fd : FuncData} (T : TopFn K mg "endless_plus" s_endless_plus ["one", "other"] f fd) : Ex P w K mg base "endless_plus" (spOf K ca (.cons (tO tI) (.one (tO tI))) (tO tI) m_endless_plus) 1 :=
  ⟨f, fd, ["one", "other"], g_endless_plus T, T.hm, T.F.kp, T.bd⟩
abbrev s_width_place : Stmt := topS 8
abbrev N_width_place : List Str := ["one"]
theorem sc_width_place : FnScope N_width_place ["one"] (defScope s_width_place) := ⟨rfl, rfl, rfl, by decide +kernel, rfl, by decide +kernel, by decide +kernel⟩
def w_width_place : {f : _ → Rs (Fl (Int × Int) _ Unit) // ∀ (P : Program) (w : World) (K : PySem.W.Frag) (mg : Str → Option Value) (base : Heap) (ca : Nat → Addr) (k : Nat) (E : XK), SXs (ambOf P w K mg base N_width_place s_width_place k E) ca (defBody s_width_place) (.cons (.val (tTup (.cons (tO tI) (.cons tI (.one (tO tI)))))) .nil) (.cons (.val (tTup (.cons (tO tI) (.cons tI (.one (tO tI)))))) .nil) .nil (rVal K (tTup (.cons tI (.one tI)))) f} :=
  ⟨_, fun P w K mg base ca k E =>
    (SXs.cons (SX.iteP (PB.isN NN.int (PX.ixP (Nth.s (Nth.s Nth.o)) rfl (fun _ _ => rfl) (PX.var At.z rfl (vb rfl)) PX.int)) (SX.one (SX.retP (PX.tup (PAs.cons PX.int (PAs.one PX.int))))) SXs.nil) (SX.one (SX.retP (PX.tup (PAs.cons PX.int (PAs.one (PX.neg (PX.unw (PX.ixP (Nth.s (Nth.s Nth.o)) rfl (fun _ _ => rfl) (PX.var At.z rfl (vb rfl)) PX.int)))))))))⟩
def m_width_place (u : ((Option Int) × Int × (Option Int))) : Rs (Int × Int) := (w_width_place.1 (u, ())).bind (endM (fun _ => .bad))
theorem g_width_place {P : Program} {w : World} {K : PySem.W.Frag} {mg : Str → Option Value} {base : Heap} {ca : Nat → Addr} {f : Addr} {fd : FuncData} (T : TopFn K mg "width_place" s_width_place ["one"] f fd) : FnOk P w K mg base (L2.CX P w) 1 f fd ["one"] (spOf K ca (.one (tTup (.cons (tO tI) (.cons tI (.one (tO tI)))))) (tTup (.cons tI (.one tI))) m_width_place) :=
  fn_mk (m := 0) (dn := fun _ => .bad) T.F sc_width_place (Ini.one Anys.nil) rfl rfl (fun E => w_width_place.2 P w K mg base ca 0 E)
theorem f_width_place {P : Program} {w : World} {K : PySem.W.Frag} {mg : Str → Option Value} {base : Heap} {ca : Nat → Addr} {f : Addr} {fd : FuncData} (T : TopFn K mg "width_place" s_width_place ["one"] f fd) : Ex P w K mg base "width_place" (spOf K ca (.one (tTup (.cons (tO tI) (.cons tI (.one (tO tI)))))) (tTup (.cons tI (.one tI))) m_width_place) 1 :=
  ⟨f, fd, ["one"], g_width_place T, T.hm, T.F.kp, T.bd⟩
abbrev s_rest_of_rooms : Stmt := topS 9
abbrev N_rest_of_rooms : List Str := ["rooms", "t", "total", "out", "many", "lo", "hi", "gone"]
theorem sc_rest_of_rooms : FnScope N_rest_of_rooms ["rooms", "t"] (defScope s_rest_of_rooms) := ⟨rfl, rfl, rfl, by decide +kernel, rfl, by decide +kernel, by decide +kernel⟩
def w_rest_of_rooms : {f : _ → Rs (Fl (Option Int) _ Unit) // ∀ (P : Program) (w : World) (K : PySem.W.Frag) (mg : Str → Option Value) (base : Heap) (ca : Nat → Addr) (k : Nat) (E : XK) (b_sorted : Bm mg "sorted" (.builtin "sorted")) (b_min : Bm mg "min" (.builtin "min")) (c_endless_times : Callee (ambOf P w K mg base N_rest_of_rooms s_rest_of_rooms k E) ca "endless_times" (.cons (tO tI) (.one (tO tI))) (tO tI) m_endless_times) (c_endless_plus : Callee (ambOf P w K mg base N_rest_of_rooms s_rest_of_rooms k E) ca "endless_plus" (.cons (tO tI) (.one (tO tI))) (tO tI) m_endless_plus) (d_width_place : CalleeK (ambOf P w K mg base N_rest_of_rooms s_rest_of_rooms k E) ca "width_place" (.one (tTup (.cons (tO tI) (.cons tI (.one (tO tI)))))) (tTup (.cons tI (.one tI))) m_width_place), SXs (ambOf P w K mg base N_rest_of_rooms s_rest_of_rooms k E) ca (defBody s_rest_of_rooms) (.cons (.val (tL (tTup (.cons (tO tI) (.cons tI (.one (tO tI))))))) (.cons (.val tI) (.cons .any (.cons .any (.cons .any (.cons .any (.cons .any (.cons .any .nil)))))))) (.cons (.val (tL (tTup (.cons (tO tI) (.cons tI (.one (tO tI))))))) (.cons (.val tI) (.cons .any (.cons .any (.cons .any (.cons .any (.cons .any (.cons .any .nil)))))))) .nil (rVal K (tO tI)) f} :=
  ⟨_, fun P w K mg base ca k E b_sorted b_min c_endless_times c_endless_plus d_width_place =>
    (SXs.cons (SX.par rfl rfl (by decide) rfl rfl (PAs.eas (PAs.cons (PX.co PX.int Tc.some) (PAs.one (PX.var (At.s At.z) rfl (vb rfl))))) (Put.s (Put.s Put.z)) (Put.s (Put.s (Put.s Put.z))) (par_some rfl rfl rfl rfl (by decide) rfl rfl rfl rfl)) (SXs.cons (SX.forP (IX.list (PX.tl (PL.sortedK (Bm.at b_sorted rfl) d_width_place rfl (BX.tl (PX.var At.z rfl (vb rfl)))))) (GX.tup (GXs.cons (GX.name (PutV.s (PutV.s (PutV.s (PutV.s PutV.any)))) rfl (lob rfl rfl)) (GXs.cons (GX.name (PutV.s (PutV.s (PutV.s (PutV.s (PutV.s PutV.any))))) rfl (lob rfl rfl)) (GXs.one (GX.name (PutV.s (PutV.s (PutV.s (PutV.s (PutV.s (PutV.s PutV.any)))))) rfl (lob rfl rfl)))))) (SXs.post (SXs.cons (SX.iteP (PB.isN NN.int (PX.var (At.s (At.s (At.s (At.s At.z)))) rfl (vb rfl))) (SXs.cons (SX.par rfl rfl (by decide) rfl rfl (PAs.eas (PAs.cons (PX.call c_endless_plus rfl (PAs.cons (PX.var (At.s (At.s At.z)) rfl (vb rfl)) (PAs.one (PX.call c_endless_times rfl (PAs.cons (PX.co PX.non Tc.none) (PAs.one (PX.var (At.s (At.s (At.s (At.s (At.s (At.s At.z)))))) rfl (vb rfl)))))))) (PAs.one PX.int))) (Put.s (Put.s Put.z)) (Put.s (Put.s (Put.s Put.z))) (par_some rfl rfl rfl rfl (by decide) rfl rfl rfl rfl)) SXs.nil) (SXs.post (SXs.cons (SX.setP (lob rfl rfl) rfl (PX.min2 (Bm.at b_min rfl) (PX.unw (PX.var (At.s (At.s (At.s (At.s At.z)))) rfl (vb rfl))) (PX.var (At.s (At.s (At.s At.z))) rfl (vb rfl))) (Put.s (Put.s (Put.s (Put.s (Put.s (Put.s (Put.s Put.z)))))))) (SXs.cons (SX.par rfl rfl (by decide) rfl rfl (PAs.eas (PAs.cons (PX.call c_endless_plus rfl (PAs.cons (PX.var (At.s (At.s At.z)) rfl (vb rfl)) (PAs.one (PX.call c_endless_times rfl (PAs.cons (PX.co (PX.sub (PX.unw (PX.var (At.s (At.s (At.s (At.s At.z)))) rfl (vb rfl))) (PX.var (At.s (At.s (At.s (At.s (At.s (At.s (At.s At.z))))))) rfl (vb rfl))) Tc.some) (PAs.one (PX.var (At.s (At.s (At.s (At.s (At.s (At.s At.z)))))) rfl (vb rfl)))))))) (PAs.one (PX.sub (PX.var (At.s (At.s (At.s At.z))) rfl (vb rfl)) (PX.var (At.s (At.s (At.s (At.s (At.s (At.s (At.s At.z))))))) rfl (vb rfl)))))) (Put.s (Put.s Put.z)) (Put.s (Put.s (Put.s Put.z))) (par_some rfl rfl rfl rfl (by decide) rfl rfl rfl rfl)) SXs.nil)) (Wk.cons Cv.same (Wk.cons Cv.same (Wk.cons Cv.same (Wk.cons Cv.same (Wk.cons Cv.same (Wk.cons Cv.same (Wk.cons Cv.same (Wk.cons Cv.drop Wk.nil)))))))))) SXs.nil) (Wk.cons Cv.same (Wk.cons Cv.same (Wk.cons Cv.same (Wk.cons Cv.same (Wk.cons Cv.drop (Wk.cons Cv.drop (Wk.cons Cv.drop (Wk.cons Cv.same Wk.nil)))))))))) (SX.one (SX.retP (PX.var (At.s (At.s At.z)) rfl (vb rfl))))))⟩
def m_rest_of_rooms (u : (List ((Option Int) × Int × (Option Int))) × Int) : Rs (Option Int) := (w_rest_of_rooms.1 (u.1, (u.2, ((), ((), ((), ((), ((), ((), ()))))))))).bind (endM (fun _ => .bad))
theorem g_rest_of_rooms {P : Program} {w : World} {K : PySem.W.Frag} {mg : Str → Option Value} {base : Heap} {ca : Nat → Addr} {f : Addr} {fd : FuncData} (T : TopFn K mg "rest_of_rooms" s_rest_of_rooms ["rooms", "t"] f fd) (z_sorted : mg "sorted" = none) (z_min : mg "min" = none) (e_endless_times : Ex P w K mg base "endless_times" (spOf K ca (.cons (tO tI) (.one (tO tI))) (tO tI) m_endless_times) 1) (e_endless_plus : Ex P w K mg base "endless_plus" (spOf K ca (.cons (tO tI) (.one (tO tI))) (tO tI) m_endless_plus) 1) (e_width_place : Ex P w K mg base "width_place" (spOf K ca (.one (tTup (.cons (tO tI) (.cons tI (.one (tO tI)))))) (tTup (.cons tI (.one tI))) m_width_place) 1) : FnOk P w K mg base (L2.CX P w) 3 f fd ["rooms", "t"] (spOf K ca (.cons (tL (tTup (.cons (tO tI) (.cons tI (.one (tO tI)))))) (.one tI)) (tO tI) m_rest_of_rooms) :=
  fn_mk (m := 6) (dn := fun _ => .bad) T.F sc_rest_of_rooms (Ini.cons (Ini.one (Anys.s (Anys.s (Anys.s (Anys.s (Anys.s (Anys.s Anys.nil)))))))) rfl rfl (fun E => w_rest_of_rooms.2 P w K mg base ca 2 E ⟨z_sorted, rfl, by decide, by decide⟩ ⟨z_min, rfl, by decide, by decide⟩ (e_endless_times.callee (by decide)) (e_endless_plus.callee (by decide)) (e_width_place.calleeK (by decide)))
theorem f_rest_of_rooms {P : Program} {w : World} {K : PySem.W.Frag} {mg : Str → Option Value} {base : Heap} {ca : Nat → Addr} {f : Addr} {fd : FuncData} (T : TopFn K mg "rest_of_rooms" s_rest_of_rooms ["rooms", "t"] f fd) (z_sorted : mg "sorted" = none) (z_min : mg "min" = none) (e_endless_times : Ex P w K mg base "endless_times" (spOf K ca (.cons (tO tI) (.one (tO tI))) (tO tI) m_endless_times) 1) (e_endless_plus : Ex P w K mg base "endless_plus" (spOf K ca (.cons (tO tI) (.one (tO tI))) (tO tI) m_endless_plus) 1) (e_width_place : Ex P w K mg base "width_place" (spOf K ca (.one (tTup (.cons (tO tI) (.cons tI (.one (tO tI)))))) (tTup (.cons tI (.one tI))) m_width_place) 1) : Ex P w K mg base "rest_of_rooms" (spOf K ca (.cons (tL (tTup (.cons (tO tI) (.cons tI (.one (tO tI)))))) (.one tI)) (tO tI) m_rest_of_rooms) 3 :=
  ⟨f, fd, ["rooms", "t"], g_rest_of_rooms T z_sorted z_min e_endless_times e_endless_plus e_width_place, T.hm, T.F.kp, T.bd⟩
def w_rest_of_roomsT : {f : _ → Rs (Fl (Option Int) _ Unit) // ∀ (P : Program) (w : World) (K : PySem.W.Frag) (mg : Str → Option Value) (base : Heap) (ca : Nat → Addr) (k : Nat) (E : XK) (b_sorted : Bm mg "sorted" (.builtin "sorted")) (b_min : Bm mg "min" (.builtin "min")) (c_endless_times : Callee (ambOf P w K mg base N_rest_of_rooms s_rest_of_rooms k E) ca "endless_times" (.cons (tO tI) (.one (tO tI))) (tO tI) m_endless_times) (c_endless_plus : Callee (ambOf P w K mg base N_rest_of_rooms s_rest_of_rooms k E) ca "endless_plus" (.cons (tO tI) (.one (tO tI))) (tO tI) m_endless_plus) (d_width_place : CalleeK (ambOf P w K mg base N_rest_of_rooms s_rest_of_rooms k E) ca "width_place" (.one (tTup (.cons (tO tI) (.cons tI (.one (tO tI)))))) (tTup (.cons tI (.one tI))) m_width_place), SXs (ambOf P w K mg base N_rest_of_rooms s_rest_of_rooms k E) ca (defBody s_rest_of_rooms) (.cons (.val (tT (tTup (.cons (tO tI) (.cons tI (.one (tO tI))))))) (.cons (.val tI) (.cons .any (.cons .any (.cons .any (.cons .any (.cons .any (.cons .any .nil)))))))) (.cons (.val (tT (tTup (.cons (tO tI) (.cons tI (.one (tO tI))))))) (.cons (.val tI) (.cons .any (.cons .any (.cons .any (.cons .any (.cons .any (.cons .any .nil)))))))) .nil (rVal K (tO tI)) f} :=
  ⟨_, fun P w K mg base ca k E b_sorted b_min c_endless_times c_endless_plus d_width_place =>
    (SXs.cons (SX.par rfl rfl (by decide) rfl rfl (PAs.eas (PAs.cons (PX.co PX.int Tc.some) (PAs.one (PX.var (At.s At.z) rfl (vb rfl))))) (Put.s (Put.s Put.z)) (Put.s (Put.s (Put.s Put.z))) (par_some rfl rfl rfl rfl (by decide) rfl rfl rfl rfl)) (SXs.cons (SX.forP (IX.list (PX.tl (PL.sortedKT (Bm.at b_sorted rfl) d_width_place rfl (PX.var At.z rfl (vb rfl))))) (GX.tup (GXs.cons (GX.name (PutV.s (PutV.s (PutV.s (PutV.s PutV.any)))) rfl (lob rfl rfl)) (GXs.cons (GX.name (PutV.s (PutV.s (PutV.s (PutV.s (PutV.s PutV.any))))) rfl (lob rfl rfl)) (GXs.one (GX.name (PutV.s (PutV.s (PutV.s (PutV.s (PutV.s (PutV.s PutV.any)))))) rfl (lob rfl rfl)))))) (SXs.post (SXs.cons (SX.iteP (PB.isN NN.int (PX.var (At.s (At.s (At.s (At.s At.z)))) rfl (vb rfl))) (SXs.cons (SX.par rfl rfl (by decide) rfl rfl (PAs.eas (PAs.cons (PX.call c_endless_plus rfl (PAs.cons (PX.var (At.s (At.s At.z)) rfl (vb rfl)) (PAs.one (PX.call c_endless_times rfl (PAs.cons (PX.co PX.non Tc.none) (PAs.one (PX.var (At.s (At.s (At.s (At.s (At.s (At.s At.z)))))) rfl (vb rfl)))))))) (PAs.one PX.int))) (Put.s (Put.s Put.z)) (Put.s (Put.s (Put.s Put.z))) (par_some rfl rfl rfl rfl (by decide) rfl rfl rfl rfl)) SXs.nil) (SXs.post (SXs.cons (SX.setP (lob rfl rfl) rfl (PX.min2 (Bm.at b_min rfl) (PX.unw (PX.var (At.s (At.s (At.s (At.s At.z)))) rfl (vb rfl))) (PX.var (At.s (At.s (At.s At.z))) rfl (vb rfl))) (Put.s (Put.s (Put.s (Put.s (Put.s (Put.s (Put.s Put.z)))))))) (SXs.cons (SX.par rfl rfl (by decide) rfl rfl (PAs.eas (PAs.cons (PX.call c_endless_plus rfl (PAs.cons (PX.var (At.s (At.s At.z)) rfl (vb rfl)) (PAs.one (PX.call c_endless_times rfl (PAs.cons (PX.co (PX.sub (PX.unw (PX.var (At.s (At.s (At.s (At.s At.z)))) rfl (vb rfl))) (PX.var (At.s (At.s (At.s (At.s (At.s (At.s (At.s At.z))))))) rfl (vb rfl))) Tc.some) (PAs.one (PX.var (At.s (At.s (At.s (At.s (At.s (At.s At.z)))))) rfl (vb rfl)))))))) (PAs.one (PX.sub (PX.var (At.s (At.s (At.s At.z))) rfl (vb rfl)) (PX.var (At.s (At.s (At.s (At.s (At.s (At.s (At.s At.z))))))) rfl (vb rfl)))))) (Put.s (Put.s Put.z)) (Put.s (Put.s (Put.s Put.z))) (par_some rfl rfl rfl rfl (by decide) rfl rfl rfl rfl)) SXs.nil)) (Wk.cons Cv.same (Wk.cons Cv.same (Wk.cons Cv.same (Wk.cons Cv.same (Wk.cons Cv.same (Wk.cons Cv.same (Wk.cons Cv.same (Wk.cons Cv.drop Wk.nil)))))))))) SXs.nil) (Wk.cons Cv.same (Wk.cons Cv.same (Wk.cons Cv.same (Wk.cons Cv.same (Wk.cons Cv.drop (Wk.cons Cv.drop (Wk.cons Cv.drop (Wk.cons Cv.same Wk.nil)))))))))) (SX.one (SX.retP (PX.var (At.s (At.s At.z)) rfl (vb rfl))))))⟩
def m_rest_of_roomsT (u : (List ((Option Int) × Int × (Option Int))) × Int) : Rs (Option Int) := (w_rest_of_roomsT.1 (u.1, (u.2, ((), ((), ((), ((), ((), ((), ()))))))))).bind (endM (fun _ => .bad))
theorem g_rest_of_roomsT {P : Program} {w : World} {K : PySem.W.Frag} {mg : Str → Option Value} {base : Heap} {ca : Nat → Addr} {f : Addr} {fd : FuncData} (T : TopFn K mg "rest_of_rooms" s_rest_of_rooms ["rooms", "t"] f fd) (z_sorted : mg "sorted" = none) (z_min : mg "min" = none) (e_endless_times : Ex P w K mg base "endless_times" (spOf K ca (.cons (tO tI) (.one (tO tI))) (tO tI) m_endless_times) 1) (e_endless_plus : Ex P w K mg base "endless_plus" (spOf K ca (.cons (tO tI) (.one (tO tI))) (tO tI) m_endless_plus) 1) (e_width_place : Ex P w K mg base "width_place" (spOf K ca (.one (tTup (.cons (tO tI) (.cons tI (.one (tO tI)))))) (tTup (.cons tI (.one tI))) m_width_place) 1) : FnOk P w K mg base (L2.CX P w) 3 f fd ["rooms", "t"] (spOf K ca (.cons (tT (tTup (.cons (tO tI) (.cons tI (.one (tO tI)))))) (.one tI)) (tO tI) m_rest_of_roomsT) :=
  fn_mk (m := 6) (dn := fun _ => .bad) T.F sc_rest_of_rooms (Ini.cons (Ini.one (Anys.s (Anys.s (Anys.s (Anys.s (Anys.s (Anys.s Anys.nil)))))))) rfl rfl (fun E => w_rest_of_roomsT.2 P w K mg base ca 2 E ⟨z_sorted, rfl, by decide, by decide⟩ ⟨z_min, rfl, by decide, by decide⟩ (e_endless_times.callee (by decide)) (e_endless_plus.callee (by decide)) (e_width_place.calleeK (by decide)))
theorem f_rest_of_roomsT {P : Program} {w : World} {K : PySem.W.Frag} {mg : Str → Option Value} {base : Heap} {ca : Nat → Addr} {f : Addr} {fd : FuncData} (T : TopFn K mg "rest_of_rooms" s_rest_of_rooms ["rooms", "t"] f fd) (z_sorted : mg "sorted" = none) (z_min : mg "min" = none) (e_endless_times : Ex P w K mg base "endless_times" (spOf K ca (.cons (tO tI) (.one (tO tI))) (tO tI) m_endless_times) 1) (e_endless_plus : Ex P w K mg base "endless_plus" (spOf K ca (.cons (tO tI) (.one (tO tI))) (tO tI) m_endless_plus) 1) (e_width_place : Ex P w K mg base "width_place" (spOf K ca (.one (tTup (.cons (tO tI) (.cons tI (.one (tO tI)))))) (tTup (.cons tI (.one tI))) m_width_place) 1) : Ex P w K mg base "rest_of_rooms" (spOf K ca (.cons (tT (tTup (.cons (tO tI) (.cons tI (.one (tO tI)))))) (.one tI)) (tO tI) m_rest_of_roomsT) 3 :=
  ⟨f, fd, ["rooms", "t"], g_rest_of_roomsT T z_sorted z_min e_endless_times e_endless_plus e_width_place, T.hm, T.F.kp, T.bd⟩
abbrev s_sums : Stmt := topS 10
abbrev N_sums : List Str := ["needs", "rooms", "t", "asked", "many", "lo", "hi"]
theorem sc_sums : FnScope N_sums ["needs", "rooms", "t"] (defScope s_sums) := ⟨rfl, rfl, rfl, by decide +kernel, rfl, by decide +kernel, by decide +kernel⟩
def w_sums : {f : _ → Rs (Fl ((Option Int) × (Option Int)) _ Unit) // ∀ (P : Program) (w : World) (K : PySem.W.Frag) (mg : Str → Option Value) (base : Heap) (ca : Nat → Addr) (k : Nat) (E : XK) (b_max : Bm mg "max" (.builtin "max")) (c_endless_times : Callee (ambOf P w K mg base N_sums s_sums k E) ca "endless_times" (.cons (tO tI) (.one (tO tI))) (tO tI) m_endless_times) (c_endless_plus : Callee (ambOf P w K mg base N_sums s_sums k E) ca "endless_plus" (.cons (tO tI) (.one (tO tI))) (tO tI) m_endless_plus) (c_rest_of_rooms : Callee (ambOf P w K mg base N_sums s_sums k E) ca "rest_of_rooms" (.cons (tL (tTup (.cons (tO tI) (.cons tI (.one (tO tI)))))) (.one tI)) (tO tI) m_rest_of_rooms), SXs (ambOf P w K mg base N_sums s_sums k E) ca (defBody s_sums) (.cons (.val (tL (tTup (.cons (tO tI) (.cons tI (.one (tO tI))))))) (.cons (.val (tL (tTup (.cons (tO tI) (.cons tI (.one (tO tI))))))) (.cons (.val tI) (.cons .any (.cons .any (.cons .any (.cons .any .nil))))))) (.cons (.val (tL (tTup (.cons (tO tI) (.cons tI (.one (tO tI))))))) (.cons (.val (tL (tTup (.cons (tO tI) (.cons tI (.one (tO tI))))))) (.cons (.val tI) (.cons .any (.cons .any (.cons .any (.cons .any .nil))))))) .nil (rVal K (tTup (.cons (tO tI) (.one (tO tI))))) f} :=
  ⟨_, fun P w K mg base ca k E b_max c_endless_times c_endless_plus c_rest_of_rooms =>
    (SXs.cons (SX.setP (lob rfl rfl) rfl (PX.co PX.int Tc.some) (Put.s (Put.s (Put.s Put.z)))) (SXs.cons (SX.forP (IX.list (PX.var At.z rfl (vb rfl))) (GX.tup (GXs.cons (GX.name (PutV.s (PutV.s (PutV.s (PutV.s PutV.any)))) rfl (lob rfl rfl)) (GXs.cons (GX.name (PutV.s (PutV.s (PutV.s (PutV.s (PutV.s PutV.any))))) rfl (lob rfl rfl)) (GXs.one (GX.name (PutV.s (PutV.s (PutV.s (PutV.s (PutV.s (PutV.s PutV.any)))))) rfl (lob rfl rfl)))))) (SXs.post (SXs.cons (SX.setP (lob rfl rfl) rfl (PX.call c_endless_plus rfl (PAs.cons (PX.var (At.s (At.s (At.s At.z))) rfl (vb rfl)) (PAs.one (PX.call c_endless_times rfl (PAs.cons (PX.var (At.s (At.s (At.s (At.s At.z)))) rfl (vb rfl)) (PAs.one (PX.co (PX.max2 (Bm.at b_max rfl) (PX.sub (PX.var (At.s (At.s (At.s (At.s (At.s At.z))))) rfl (vb rfl)) (PX.var (At.s (At.s At.z)) rfl (vb rfl))) PX.int) Tc.some))))))) (Put.s (Put.s (Put.s Put.z)))) SXs.nil) (Wk.cons Cv.same (Wk.cons Cv.same (Wk.cons Cv.same (Wk.cons Cv.same (Wk.cons Cv.drop (Wk.cons Cv.drop (Wk.cons Cv.drop Wk.nil))))))))) (SX.one (SX.retP (PX.tup (PAs.cons (PX.var (At.s (At.s (At.s At.z))) rfl (vb rfl)) (PAs.one (PX.call c_rest_of_rooms rfl (PAs.cons (PX.var (At.s At.z) rfl (vb rfl)) (PAs.one (PX.var (At.s (At.s At.z)) rfl (vb rfl))))))))))))⟩
def m_sums (u : (List ((Option Int) × Int × (Option Int))) × (List ((Option Int) × Int × (Option Int))) × Int) : Rs ((Option Int) × (Option Int)) := (w_sums.1 (u.1, (u.2.1, (u.2.2, ((), ((), ((), ((), ())))))))).bind (endM (fun _ => .bad))
theorem g_sums {P : Program} {w : World} {K : PySem.W.Frag} {mg : Str → Option Value} {base : Heap} {ca : Nat → Addr} {f : Addr} {fd : FuncData} (T : TopFn K mg "sums" s_sums ["needs", "rooms", "t"] f fd) (z_max : mg "max" = none) (e_endless_times : Ex P w K mg base "endless_times" (spOf K ca (.cons (tO tI) (.one (tO tI))) (tO tI) m_endless_times) 1) (e_endless_plus : Ex P w K mg base "endless_plus" (spOf K ca (.cons (tO tI) (.one (tO tI))) (tO tI) m_endless_plus) 1) (e_rest_of_rooms : Ex P w K mg base "rest_of_rooms" (spOf K ca (.cons (tL (tTup (.cons (tO tI) (.cons tI (.one (tO tI)))))) (.one tI)) (tO tI) m_rest_of_rooms) 3) : FnOk P w K mg base (L2.CX P w) 4 f fd ["needs", "rooms", "t"] (spOf K ca (.cons (tL (tTup (.cons (tO tI) (.cons tI (.one (tO tI)))))) (.cons (tL (tTup (.cons (tO tI) (.cons tI (.one (tO tI)))))) (.one tI))) (tTup (.cons (tO tI) (.one (tO tI)))) m_sums) :=
  fn_mk (m := 4) (dn := fun _ => .bad) T.F sc_sums (Ini.cons (Ini.cons (Ini.one (Anys.s (Anys.s (Anys.s (Anys.s Anys.nil))))))) rfl rfl (fun E => w_sums.2 P w K mg base ca 3 E ⟨z_max, rfl, by decide, by decide⟩ (e_endless_times.callee (by decide)) (e_endless_plus.callee (by decide)) (e_rest_of_rooms.callee (by decide)))
theorem f_sums {P : Program} {w : World} {K : PySem.W.Frag} {mg : Str → Option Value} {base : Heap} {ca : Nat → Addr} {f : Addr} {fd : FuncData} (T : TopFn K mg "sums" s_sums ["needs", "rooms", "t"] f fd) (z_max : mg "max" = none) (e_endless_times : Ex P w K mg base "endless_times" (spOf K ca (.cons (tO tI) (.one (tO tI))) (tO tI) m_endless_times) 1) (e_endless_plus : Ex P w K mg base "endless_plus" (spOf K ca (.cons (tO tI) (.one (tO tI))) (tO tI) m_endless_plus) 1) (e_rest_of_rooms : Ex P w K mg base "rest_of_rooms" (spOf K ca (.cons (tL (tTup (.cons (tO tI) (.cons tI (.one (tO tI)))))) (.one tI)) (tO tI) m_rest_of_rooms) 3) : Ex P w K mg base "sums" (spOf K ca (.cons (tL (tTup (.cons (tO tI) (.cons tI (.one (tO tI)))))) (.cons (tL (tTup (.cons (tO tI) (.cons tI (.one (tO tI)))))) (.one tI))) (tTup (.cons (tO tI) (.one (tO tI)))) m_sums) 4 :=
  ⟨f, fd, ["needs", "rooms", "t"], g_sums T z_max e_endless_times e_endless_plus e_rest_of_rooms, T.hm, T.F.kp, T.bd⟩
def w_sumsT : {f : _ → Rs (Fl ((Option Int) × (Option Int)) _ Unit) // ∀ (P : Program) (w : World) (K : PySem.W.Frag) (mg : Str → Option Value) (base : Heap) (ca : Nat → Addr) (k : Nat) (E : XK) (b_max : Bm mg "max" (.builtin "max")) (c_endless_times : Callee (ambOf P w K mg base N_sums s_sums k E) ca "endless_times" (.cons (tO tI) (.one (tO tI))) (tO tI) m_endless_times) (c_endless_plus : Callee (ambOf P w K mg base N_sums s_sums k E) ca "endless_plus" (.cons (tO tI) (.one (tO tI))) (tO tI) m_endless_plus) (c_rest_of_roomsT : Callee (ambOf P w K mg base N_sums s_sums k E) ca "rest_of_rooms" (.cons (tT (tTup (.cons (tO tI) (.cons tI (.one (tO tI)))))) (.one tI)) (tO tI) m_rest_of_roomsT), SXs (ambOf P w K mg base N_sums s_sums k E) ca (defBody s_sums) (.cons (.val (tL (tTup (.cons (tO tI) (.cons tI (.one (tO tI))))))) (.cons (.val (tT (tTup (.cons (tO tI) (.cons tI (.one (tO tI))))))) (.cons (.val tI) (.cons .any (.cons .any (.cons .any (.cons .any .nil))))))) (.cons (.val (tL (tTup (.cons (tO tI) (.cons tI (.one (tO tI))))))) (.cons (.val (tT (tTup (.cons (tO tI) (.cons tI (.one (tO tI))))))) (.cons (.val tI) (.cons .any (.cons .any (.cons .any (.cons .any .nil))))))) .nil (rVal K (tTup (.cons (tO tI) (.one (tO tI))))) f} :=
  ⟨_, fun P w K mg base ca k E b_max c_endless_times c_endless_plus c_rest_of_roomsT =>
    (SXs.cons (SX.setP (lob rfl rfl) rfl (PX.co PX.int Tc.some) (Put.s (Put.s (Put.s Put.z)))) (SXs.cons (SX.forP (IX.list (PX.var At.z rfl (vb rfl))) (GX.tup (GXs.cons (GX.name (PutV.s (PutV.s (PutV.s (PutV.s PutV.any)))) rfl (lob rfl rfl)) (GXs.cons (GX.name (PutV.s (PutV.s (PutV.s (PutV.s (PutV.s PutV.any))))) rfl (lob rfl rfl)) (GXs.one (GX.name (PutV.s (PutV.s (PutV.s (PutV.s (PutV.s (PutV.s PutV.any)))))) rfl (lob rfl rfl)))))) (SXs.post (SXs.cons (SX.setP (lob rfl rfl) rfl (PX.call c_endless_plus rfl (PAs.cons (PX.var (At.s (At.s (At.s At.z))) rfl (vb rfl)) (PAs.one (PX.call c_endless_times rfl (PAs.cons (PX.var (At.s (At.s (At.s (At.s At.z)))) rfl (vb rfl)) (PAs.one (PX.co (PX.max2 (Bm.at b_max rfl) (PX.sub (PX.var (At.s (At.s (At.s (At.s (At.s At.z))))) rfl (vb rfl)) (PX.var (At.s (At.s At.z)) rfl (vb rfl))) PX.int) Tc.some))))))) (Put.s (Put.s (Put.s Put.z)))) SXs.nil) (Wk.cons Cv.same (Wk.cons Cv.same (Wk.cons Cv.same (Wk.cons Cv.same (Wk.cons Cv.drop (Wk.cons Cv.drop (Wk.cons Cv.drop Wk.nil))))))))) (SX.one (SX.retP (PX.tup (PAs.cons (PX.var (At.s (At.s (At.s At.z))) rfl (vb rfl)) (PAs.one (PX.call c_rest_of_roomsT rfl (PAs.cons (PX.var (At.s At.z) rfl (vb rfl)) (PAs.one (PX.var (At.s (At.s At.z)) rfl (vb rfl))))))))))))⟩
def m_sumsT (u : (List ((Option Int) × Int × (Option Int))) × (List ((Option Int) × Int × (Option Int))) × Int) : Rs ((Option Int) × (Option Int)) := (w_sumsT.1 (u.1, (u.2.1, (u.2.2, ((), ((), ((), ((), ())))))))).bind (endM (fun _ => .bad))
theorem g_sumsT {P : Program} {w : World} {K : PySem.W.Frag} {mg : Str → Option Value} {base : Heap} {ca : Nat → Addr} {f : Addr} {fd : FuncData} (T : TopFn K mg "sums" s_sums ["needs", "rooms", "t"] f fd) (z_max : mg "max" = none) (e_endless_times : Ex P w K mg base "endless_times" (spOf K ca (.cons (tO tI) (.one (tO tI))) (tO tI) m_endless_times) 1) (e_endless_plus : Ex P w K mg base "endless_plus" (spOf K ca (.cons (tO tI) (.one (tO tI))) (tO tI) m_endless_plus) 1) (e_rest_of_roomsT : Ex P w K mg base "rest_of_rooms" (spOf K ca (.cons (tT (tTup (.cons (tO tI) (.cons tI (.one (tO tI)))))) (.one tI)) (tO tI) m_rest_of_roomsT) 3) : FnOk P w K mg base (L2.CX P w) 4 f fd ["needs", "rooms", "t"] (spOf K ca (.cons (tL (tTup (.cons (tO tI) (.cons tI (.one (tO tI)))))) (.cons (tT (tTup (.cons (tO tI) (.cons tI (.one (tO tI)))))) (.one tI))) (tTup (.cons (tO tI) (.one (tO tI)))) m_sumsT) :=
  fn_mk (m := 4) (dn := fun _ => .bad) T.F sc_sums (Ini.cons (Ini.cons (Ini.one (Anys.s (Anys.s (Anys.s (Anys.s Anys.nil))))))) rfl rfl (fun E => w_sumsT.2 P w K mg base ca 3 E ⟨z_max, rfl, by decide, by decide⟩ (e_endless_times.callee (by decide)) (e_endless_plus.callee (by decide)) (e_rest_of_roomsT.callee (by decide)))
theorem f_sumsT {P : Program} {w : World} {K : PySem.W.Frag} {mg : Str → Option Value} {base : Heap} {ca : Nat → Addr} {f : Addr} {fd : FuncData} (T : TopFn K mg "sums" s_sums ["needs", "rooms", "t"] f fd) (z_max : mg "max" = none) (e_endless_times : Ex P w K mg base "endless_times" (spOf K ca (.cons (tO tI) (.one (tO tI))) (tO tI) m_endless_times) 1) (e_endless_plus : Ex P w K mg base "endless_plus" (spOf K ca (.cons (tO tI) (.one (tO tI))) (tO tI) m_endless_plus) 1) (e_rest_of_roomsT : Ex P w K mg base "rest_of_rooms" (spOf K ca (.cons (tT (tTup (.cons (tO tI) (.cons tI (.one (tO tI)))))) (.one tI)) (tO tI) m_rest_of_roomsT) 3) : Ex P w K mg base "sums" (spOf K ca (.cons (tL (tTup (.cons (tO tI) (.cons tI (.one (tO tI)))))) (.cons (tT (tTup (.cons (tO tI) (.cons tI (.one (tO tI)))))) (.one tI))) (tTup (.cons (tO tI) (.one (tO tI)))) m_sumsT) 4 :=
  ⟨f, fd, ["needs", "rooms", "t"], g_sumsT T z_max e_endless_times e_endless_plus e_rest_of_roomsT, T.hm, T.F.kp, T.bd⟩
abbrev s_kept : Stmt := topS 11
abbrev N_kept : List Str := ["left", "right"]
theorem sc_kept : FnScope N_kept ["left", "right"] (defScope s_kept) := ⟨rfl, rfl, rfl, by decide +kernel, rfl, by decide +kernel, by decide +kernel⟩
def w_kept : {f : _ → Rs (Fl Bool _ Unit) // ∀ (P : Program) (w : World) (K : PySem.W.Frag) (mg : Str → Option Value) (base : Heap) (ca : Nat → Addr) (k : Nat) (E : XK), SXs (ambOf P w K mg base N_kept s_kept k E) ca (defBody s_kept) (.cons (.val (tO tI)) (.cons (.val (tO tI)) .nil)) (.cons (.val (tO tI)) (.cons (.val (tO tI)) .nil)) .nil (rVal K tB) f} :=
  ⟨_, fun P w K mg base ca k E =>
    (SX.one (SX.retP (PX.or (PX.isN NN.int (PX.var (At.s At.z) rfl (vb rfl))) (PX.one (PX.and (PX.notN NN.int (PX.var At.z rfl (vb rfl))) (PX.one (PX.le (PX.unw (PX.var At.z rfl (vb rfl))) (PX.unw (PX.var (At.s At.z) rfl (vb rfl))))))))))⟩
def m_kept (u : (Option Int) × (Option Int)) : Rs Bool := (w_kept.1 (u.1, (u.2, ()))).bind (endM (fun _ => .bad))
theorem g_kept {P : Program} {w : World} {K : PySem.W.Frag} {mg : Str → Option Value} {base : Heap} {ca : Nat → Addr} {f : Addr} {fd : FuncData} (T : TopFn K mg "kept" s_kept ["left", "right"] f fd) : FnOk P w K mg base (L2.CX P w) 1 f fd ["left", "right"] (spOf K ca (.cons (tO tI) (.one (tO tI))) tB m_kept) :=
  fn_mk (m := 0) (dn := fun _ => .bad) T.F sc_kept (Ini.cons (Ini.one Anys.nil)) rfl rfl (fun E => w_kept.2 P w K mg base ca 0 E)
theorem f_kept {P : Program} {w : World} {K : PySem.W.Frag} {mg : Str → Option Value} {base : Heap} {ca : Nat → Addr} {f : Addr} {fd : FuncData} (T : TopFn K mg "kept" s_kept ["left", "right"] f fd) : Ex P w K mg base "kept" (spOf K ca (.cons (tO tI) (.one (tO tI))) tB m_kept) 1 :=
  ⟨f, fd, ["left", "right"], g_kept T, T.hm, T.F.kp, T.bd⟩
abbrev s_short : Stmt := topS 12
abbrev N_short : List Str := ["needs", "rooms", "t", "left", "right", "many", "lo", "hi"]
theorem sc_short : FnScope N_short ["needs", "rooms"] (defScope s_short) := ⟨rfl, rfl, rfl, by decide +kernel, rfl, by decide +kernel, by decide +kernel⟩
def w_short : {f : _ → Rs (Fl (Option Int) _ Unit) // ∀ (P : Program) (w : World) (K : PySem.W.Frag) (mg : Str → Option Value) (base : Heap) (ca : Nat → Addr) (k : Nat) (E : XK) (b_range : Bm mg "range" (.type "range")) (b_max : Bm mg "max" (.builtin "max")) (c_sums : Callee (ambOf P w K mg base N_short s_short k E) ca "sums" (.cons (tL (tTup (.cons (tO tI) (.cons tI (.one (tO tI)))))) (.cons (tL (tTup (.cons (tO tI) (.cons tI (.one (tO tI)))))) (.one tI))) (tTup (.cons (tO tI) (.one (tO tI)))) m_sums) (c_kept : Callee (ambOf P w K mg base N_short s_short k E) ca "kept" (.cons (tO tI) (.one (tO tI))) tB m_kept), SXs (ambOf P w K mg base N_short s_short k E) ca (defBody s_short) (.cons (.val (tL (tTup (.cons (tO tI) (.cons tI (.one (tO tI))))))) (.cons (.val (tL (tTup (.cons (tO tI) (.cons tI (.one (tO tI))))))) (.cons .any (.cons .any (.cons .any (.cons .any (.cons .any (.cons .any .nil)))))))) (.cons (.val (tL (tTup (.cons (tO tI) (.cons tI (.one (tO tI))))))) (.cons (.val (tL (tTup (.cons (tO tI) (.cons tI (.one (tO tI))))))) (.cons .any (.cons .any (.cons .any (.cons .any (.cons .any (.cons .any .nil)))))))) .nil (rVal K (tO tI)) f} :=
  ⟨_, fun P w K mg base ca k E b_range b_max c_sums c_kept =>
    (SXs.cons (SX.forP (IX.range1 (Bm.at b_range rfl) (PX.maxL (Bm.at b_max rfl) (PL.bx (PL.cat (PL.bx (PL.lst (τ := tI) (PIs.cons PX.int PIs.nil))) (PL.bx (PL.lc [("many", 5), ("lo", 6), ("hi", 7)] (IX.ib (IX.list (PX.var At.z rfl (vb rfl)))) rfl (Wp.cons (Wp.cons (Wp.cons Wp.nil (Put.s (Put.s (Put.s (Put.s (Put.s (Put.s (Put.s Put.z)))))))) (Put.s (Put.s (Put.s (Put.s (Put.s (Put.s Put.z))))))) (Put.s (Put.s (Put.s (Put.s (Put.s Put.z)))))) (GX.tup (GXs.cons (GX.name (PutV.s (PutV.s (PutV.s (PutV.s (PutV.s PutV.any))))) rfl (lobb rfl)) (GXs.cons (GX.name (PutV.s (PutV.s (PutV.s (PutV.s (PutV.s (PutV.s PutV.any)))))) rfl (lobb rfl)) (GXs.one (GX.name (PutV.s (PutV.s (PutV.s (PutV.s (PutV.s (PutV.s (PutV.s PutV.any))))))) rfl (lobb rfl)))))) (by decide) (PTz.one (PB.neD (Enc.opt EncN.int) (PX.var (At.s (At.s (At.s (At.s (At.s At.z))))) rfl (vbb rfl)) (PX.co PX.int Tc.some))) (PX.var (At.s (At.s (At.s (At.s (At.s (At.s At.z)))))) rfl (vbb rfl)))))))) (GX.name (PutV.s (PutV.s PutV.any)) rfl (lob rfl rfl)) (SXs.post (SXs.cons (SX.asgP (PX.call c_sums rfl (PAs.cons (PX.var At.z rfl (vb rfl)) (PAs.cons (PX.var (At.s At.z) rfl (vb rfl)) (PAs.one (PX.var (At.s (At.s At.z)) rfl (vb rfl)))))) (GX.tup (GXs.cons (GX.name (PutV.s (PutV.s (PutV.s PutV.any))) rfl (lob rfl rfl)) (GXs.one (GX.name (PutV.s (PutV.s (PutV.s (PutV.s PutV.any)))) rfl (lob rfl rfl)))))) (SXs.cons (SX.iteP (PB.not (PX.pb (PX.call c_kept rfl (PAs.cons (PX.var (At.s (At.s (At.s At.z))) rfl (vb rfl)) (PAs.one (PX.var (At.s (At.s (At.s (At.s At.z)))) rfl (vb rfl))))) (by intros; rfl))) (SX.one (SX.retP (PX.co (PX.var (At.s (At.s At.z)) rfl (vb rfl)) Tc.some))) SXs.nil) SXs.nil)) (Wk.cons Cv.same (Wk.cons Cv.same (Wk.cons Cv.drop (Wk.cons Cv.drop (Wk.cons Cv.drop (Wk.cons Cv.same (Wk.cons Cv.same (Wk.cons Cv.same Wk.nil)))))))))) (SX.one (SX.retP (PX.co PX.non Tc.none))))⟩
def m_short (u : (List ((Option Int) × Int × (Option Int))) × (List ((Option Int) × Int × (Option Int)))) : Rs (Option Int) := (w_short.1 (u.1, (u.2, ((), ((), ((), ((), ((), ((), ()))))))))).bind (endM (fun _ => .bad))
theorem g_short {P : Program} {w : World} {K : PySem.W.Frag} {mg : Str → Option Value} {base : Heap} {ca : Nat → Addr} {f : Addr} {fd : FuncData} (T : TopFn K mg "short" s_short ["needs", "rooms"] f fd) (z_range : mg "range" = none) (z_max : mg "max" = none) (e_sums : Ex P w K mg base "sums" (spOf K ca (.cons (tL (tTup (.cons (tO tI) (.cons tI (.one (tO tI)))))) (.cons (tL (tTup (.cons (tO tI) (.cons tI (.one (tO tI)))))) (.one tI))) (tTup (.cons (tO tI) (.one (tO tI)))) m_sums) 4) (e_kept : Ex P w K mg base "kept" (spOf K ca (.cons (tO tI) (.one (tO tI))) tB m_kept) 1) : FnOk P w K mg base (L2.CX P w) 5 f fd ["needs", "rooms"] (spOf K ca (.cons (tL (tTup (.cons (tO tI) (.cons tI (.one (tO tI)))))) (.one (tL (tTup (.cons (tO tI) (.cons tI (.one (tO tI)))))))) (tO tI) m_short) :=
  fn_mk (m := 6) (dn := fun _ => .bad) T.F sc_short (Ini.cons (Ini.one (Anys.s (Anys.s (Anys.s (Anys.s (Anys.s (Anys.s Anys.nil)))))))) rfl rfl (fun E => w_short.2 P w K mg base ca 4 E ⟨z_range, rfl, by decide, by decide⟩ ⟨z_max, rfl, by decide, by decide⟩ (e_sums.callee (by decide)) (e_kept.callee (by decide)))
theorem f_short {P : Program} {w : World} {K : PySem.W.Frag} {mg : Str → Option Value} {base : Heap} {ca : Nat → Addr} {f : Addr} {fd : FuncData} (T : TopFn K mg "short" s_short ["needs", "rooms"] f fd) (z_range : mg "range" = none) (z_max : mg "max" = none) (e_sums : Ex P w K mg base "sums" (spOf K ca (.cons (tL (tTup (.cons (tO tI) (.cons tI (.one (tO tI)))))) (.cons (tL (tTup (.cons (tO tI) (.cons tI (.one (tO tI)))))) (.one tI))) (tTup (.cons (tO tI) (.one (tO tI)))) m_sums) 4) (e_kept : Ex P w K mg base "kept" (spOf K ca (.cons (tO tI) (.one (tO tI))) tB m_kept) 1) : Ex P w K mg base "short" (spOf K ca (.cons (tL (tTup (.cons (tO tI) (.cons tI (.one (tO tI)))))) (.one (tL (tTup (.cons (tO tI) (.cons tI (.one (tO tI)))))))) (tO tI) m_short) 5 :=
  ⟨f, fd, ["needs", "rooms"], g_short T z_range z_max e_sums e_kept, T.hm, T.F.kp, T.bd⟩
def w_shortT : {f : _ → Rs (Fl (Option Int) _ Unit) // ∀ (P : Program) (w : World) (K : PySem.W.Frag) (mg : Str → Option Value) (base : Heap) (ca : Nat → Addr) (k : Nat) (E : XK) (b_range : Bm mg "range" (.type "range")) (b_max : Bm mg "max" (.builtin "max")) (c_sumsT : Callee (ambOf P w K mg base N_short s_short k E) ca "sums" (.cons (tL (tTup (.cons (tO tI) (.cons tI (.one (tO tI)))))) (.cons (tT (tTup (.cons (tO tI) (.cons tI (.one (tO tI)))))) (.one tI))) (tTup (.cons (tO tI) (.one (tO tI)))) m_sumsT) (c_kept : Callee (ambOf P w K mg base N_short s_short k E) ca "kept" (.cons (tO tI) (.one (tO tI))) tB m_kept), SXs (ambOf P w K mg base N_short s_short k E) ca (defBody s_short) (.cons (.val (tL (tTup (.cons (tO tI) (.cons tI (.one (tO tI))))))) (.cons (.val (tT (tTup (.cons (tO tI) (.cons tI (.one (tO tI))))))) (.cons .any (.cons .any (.cons .any (.cons .any (.cons .any (.cons .any .nil)))))))) (.cons (.val (tL (tTup (.cons (tO tI) (.cons tI (.one (tO tI))))))) (.cons (.val (tT (tTup (.cons (tO tI) (.cons tI (.one (tO tI))))))) (.cons .any (.cons .any (.cons .any (.cons .any (.cons .any (.cons .any .nil)))))))) .nil (rVal K (tO tI)) f} :=
  ⟨_, fun P w K mg base ca k E b_range b_max c_sumsT c_kept =>
    (SXs.cons (SX.forP (IX.range1 (Bm.at b_range rfl) (PX.maxL (Bm.at b_max rfl) (PL.bx (PL.cat (PL.bx (PL.lst (τ := tI) (PIs.cons PX.int PIs.nil))) (PL.bx (PL.lc [("many", 5), ("lo", 6), ("hi", 7)] (IX.ib (IX.list (PX.var At.z rfl (vb rfl)))) rfl (Wp.cons (Wp.cons (Wp.cons Wp.nil (Put.s (Put.s (Put.s (Put.s (Put.s (Put.s (Put.s Put.z)))))))) (Put.s (Put.s (Put.s (Put.s (Put.s (Put.s Put.z))))))) (Put.s (Put.s (Put.s (Put.s (Put.s Put.z)))))) (GX.tup (GXs.cons (GX.name (PutV.s (PutV.s (PutV.s (PutV.s (PutV.s PutV.any))))) rfl (lobb rfl)) (GXs.cons (GX.name (PutV.s (PutV.s (PutV.s (PutV.s (PutV.s (PutV.s PutV.any)))))) rfl (lobb rfl)) (GXs.one (GX.name (PutV.s (PutV.s (PutV.s (PutV.s (PutV.s (PutV.s (PutV.s PutV.any))))))) rfl (lobb rfl)))))) (by decide) (PTz.one (PB.neD (Enc.opt EncN.int) (PX.var (At.s (At.s (At.s (At.s (At.s At.z))))) rfl (vbb rfl)) (PX.co PX.int Tc.some))) (PX.var (At.s (At.s (At.s (At.s (At.s (At.s At.z)))))) rfl (vbb rfl)))))))) (GX.name (PutV.s (PutV.s PutV.any)) rfl (lob rfl rfl)) (SXs.post (SXs.cons (SX.asgP (PX.call c_sumsT rfl (PAs.cons (PX.var At.z rfl (vb rfl)) (PAs.cons (PX.var (At.s At.z) rfl (vb rfl)) (PAs.one (PX.var (At.s (At.s At.z)) rfl (vb rfl)))))) (GX.tup (GXs.cons (GX.name (PutV.s (PutV.s (PutV.s PutV.any))) rfl (lob rfl rfl)) (GXs.one (GX.name (PutV.s (PutV.s (PutV.s (PutV.s PutV.any)))) rfl (lob rfl rfl)))))) (SXs.cons (SX.iteP (PB.not (PX.pb (PX.call c_kept rfl (PAs.cons (PX.var (At.s (At.s (At.s At.z))) rfl (vb rfl)) (PAs.one (PX.var (At.s (At.s (At.s (At.s At.z)))) rfl (vb rfl))))) (by intros; rfl))) (SX.one (SX.retP (PX.co (PX.var (At.s (At.s At.z)) rfl (vb rfl)) Tc.some))) SXs.nil) SXs.nil)) (Wk.cons Cv.same (Wk.cons Cv.same (Wk.cons Cv.drop (Wk.cons Cv.drop (Wk.cons Cv.drop (Wk.cons Cv.same (Wk.cons Cv.same (Wk.cons Cv.same Wk.nil)))))))))) (SX.one (SX.retP (PX.co PX.non Tc.none))))⟩
def m_shortT (u : (List ((Option Int) × Int × (Option Int))) × (List ((Option Int) × Int × (Option Int)))) : Rs (Option Int) := (w_shortT.1 (u.1, (u.2, ((), ((), ((), ((), ((), ((), ()))))))))).bind (endM (fun _ => .bad))
theorem g_shortT {P : Program} {w : World} {K : PySem.W.Frag} {mg : Str → Option Value} {base : Heap} {ca : Nat → Addr} {f : Addr} {fd : FuncData} (T : TopFn K mg "short" s_short ["needs", "rooms"] f fd) (z_range : mg "range" = none) (z_max : mg "max" = none) (e_sumsT : Ex P w K mg base "sums" (spOf K ca (.cons (tL (tTup (.cons (tO tI) (.cons tI (.one (tO tI)))))) (.cons (tT (tTup (.cons (tO tI) (.cons tI (.one (tO tI)))))) (.one tI))) (tTup (.cons (tO tI) (.one (tO tI)))) m_sumsT) 4) (e_kept : Ex P w K mg base "kept" (spOf K ca (.cons (tO tI) (.one (tO tI))) tB m_kept) 1) : FnOk P w K mg base (L2.CX P w) 5 f fd ["needs", "rooms"] (spOf K ca (.cons (tL (tTup (.cons (tO tI) (.cons tI (.one (tO tI)))))) (.one (tT (tTup (.cons (tO tI) (.cons tI (.one (tO tI)))))))) (tO tI) m_shortT) :=
  fn_mk (m := 6) (dn := fun _ => .bad) T.F sc_short (Ini.cons (Ini.one (Anys.s (Anys.s (Anys.s (Anys.s (Anys.s (Anys.s Anys.nil)))))))) rfl rfl (fun E => w_shortT.2 P w K mg base ca 4 E ⟨z_range, rfl, by decide, by decide⟩ ⟨z_max, rfl, by decide, by decide⟩ (e_sumsT.callee (by decide)) (e_kept.callee (by decide)))
theorem f_shortT {P : Program} {w : World} {K : PySem.W.Frag} {mg : Str → Option Value} {base : Heap} {ca : Nat → Addr} {f : Addr} {fd : FuncData} (T : TopFn K mg "short" s_short ["needs", "rooms"] f fd) (z_range : mg "range" = none) (z_max : mg "max" = none) (e_sumsT : Ex P w K mg base "sums" (spOf K ca (.cons (tL (tTup (.cons (tO tI) (.cons tI (.one (tO tI)))))) (.cons (tT (tTup (.cons (tO tI) (.cons tI (.one (tO tI)))))) (.one tI))) (tTup (.cons (tO tI) (.one (tO tI)))) m_sumsT) 4) (e_kept : Ex P w K mg base "kept" (spOf K ca (.cons (tO tI) (.one (tO tI))) tB m_kept) 1) : Ex P w K mg base "short" (spOf K ca (.cons (tL (tTup (.cons (tO tI) (.cons tI (.one (tO tI)))))) (.one (tT (tTup (.cons (tO tI) (.cons tI (.one (tO tI)))))))) (tO tI) m_shortT) 5 :=
  ⟨f, fd, ["needs", "rooms"], g_shortT T z_range z_max e_sumsT e_kept, T.hm, T.F.kp, T.bd⟩
abbrev s_capped : Stmt := topS 14
abbrev N_capped : List Str := ["room", "most"]
theorem sc_capped : FnScope N_capped ["room", "most"] (defScope s_capped) := ⟨rfl, rfl, rfl, by decide +kernel, rfl, by decide +kernel, by decide +kernel⟩
def w_capped : {f : _ → Rs (Fl Int _ Unit) // ∀ (P : Program) (w : World) (K : PySem.W.Frag) (mg : Str → Option Value) (base : Heap) (ca : Nat → Addr) (k : Nat) (E : XK) (b_min : Bm mg "min" (.builtin "min")), SXs (ambOf P w K mg base N_capped s_capped k E) ca (defBody s_capped) (.cons (.val (tO tI)) (.cons (.val tI) .nil)) (.cons (.val (tO tI)) (.cons (.val tI) .nil)) .nil (rVal K tI) f} :=
  ⟨_, fun P w K mg base ca k E b_min =>
    (SXs.cons (SX.iteP (PB.isN NN.int (PX.var At.z rfl (vb rfl))) (SX.one (SX.retP (PX.var (At.s At.z) rfl (vb rfl)))) SXs.nil) (SX.one (SX.retP (PX.min2 (Bm.at b_min rfl) (PX.unw (PX.var At.z rfl (vb rfl))) (PX.var (At.s At.z) rfl (vb rfl))))))⟩
def m_capped (u : (Option Int) × Int) : Rs Int := (w_capped.1 (u.1, (u.2, ()))).bind (endM (fun _ => .bad))
theorem g_capped {P : Program} {w : World} {K : PySem.W.Frag} {mg : Str → Option Value} {base : Heap} {ca : Nat → Addr} {f : Addr} {fd : FuncData} (T : TopFn K mg "capped" s_capped ["room", "most"] f fd) (z_min : mg "min" = none) : FnOk P w K mg base (L2.CX P w) 1 f fd ["room", "most"] (spOf K ca (.cons (tO tI) (.one tI)) tI m_capped) :=
  fn_mk (m := 0) (dn := fun _ => .bad) T.F sc_capped (Ini.cons (Ini.one Anys.nil)) rfl rfl (fun E => w_capped.2 P w K mg base ca 0 E ⟨z_min, rfl, by decide, by decide⟩)
theorem f_capped {P : Program} {w : World} {K : PySem.W.Frag} {mg : Str → Option Value} {base : Heap} {ca : Nat → Addr} {f : Addr} {fd : FuncData} (T : TopFn K mg "capped" s_capped ["room", "most"] f fd) (z_min : mg "min" = none) : Ex P w K mg base "capped" (spOf K ca (.cons (tO tI) (.one tI)) tI m_capped) 1 :=
  ⟨f, fd, ["room", "most"], g_capped T z_min, T.hm, T.F.kp, T.bd⟩
abbrev s_greedy_web : Stmt := topS 15
abbrev N_greedy_web : List Str := ["limits", "rooms", "rest", "web", "limit", "order", "row", "y", "room", "less"]
theorem sc_greedy_web : FnScope N_greedy_web ["limits", "rooms"] (defScope s_greedy_web) := ⟨rfl, rfl, rfl, by decide +kernel, rfl, by decide +kernel, by decide +kernel⟩
def w_greedy_web : {f : _ → Rs (Fl (List (List Int)) _ Unit) // ∀ (P : Program) (w : World) (K : PySem.W.Frag) (mg : Str → Option Value) (base : Heap) (ca : Nat → Addr) (k : Nat) (E : XK) (b_len : Bm mg "len" (.builtin "len")) (b_range : Bm mg "range" (.type "range")) (b_sorted : Bm mg "sorted" (.builtin "sorted")) (b_tuple : Bm mg "tuple" (.type "tuple")) (c_capped : Callee (ambOf P w K mg base N_greedy_web s_greedy_web k E) ca "capped" (.cons (tO tI) (.one tI)) tI m_capped), SXs (ambOf P w K mg base N_greedy_web s_greedy_web k E) ca (defBody s_greedy_web) (.cons (.val (tL tI)) (.cons (.val (tL (tO tI))) (.cons .any (.cons .any (.cons .any (.cons .any (.cons .any (.cons .any (.cons .any (.cons .any .nil)))))))))) (.cons (.val (tL tI)) (.cons (.val (tL (tO tI))) (.cons .any (.cons .any (.cons .any (.cons .any (.cons .any (.cons .any (.cons .any (.cons .any .nil)))))))))) .nil (rVal K (tT (tT tI))) f} :=
  ⟨_, fun P w K mg base ca k E b_len b_range b_sorted b_tuple c_capped =>
    (SXs.cons (SX.setOP (lob rfl rfl) rfl (PL.lc [("room", 8)] (IX.ib (IX.list (PX.var (At.s At.z) rfl (vb rfl)))) rfl (Wp.cons Wp.nil (Put.s (Put.s (Put.s (Put.s (Put.s (Put.s (Put.s (Put.s Put.z))))))))) (GX.name (PutV.s (PutV.s (PutV.s (PutV.s (PutV.s (PutV.s (PutV.s (PutV.s PutV.any)))))))) rfl (lobb rfl)) (by decide) PTz.nil (PX.call (callee_blk c_capped) (gl_blk rfl) (PAs.cons (PX.var (At.s (At.s (At.s (At.s (At.s (At.s (At.s (At.s At.z)))))))) rfl (vbb rfl)) (PAs.one (PX.lenL (Bm.at b_len (gl_blk rfl)) (BX.tl (PX.var At.z rfl (vbb rfl)))))))) (Put.s (Put.s Put.z)) (sw_cell rfl)) (SXs.cons (SX.setOP (lob rfl rfl) rfl (PL.lst (τ := (tT tI)) PIs.nil) (Put.s (Put.s (Put.s Put.z)))) (SXs.cons (SX.forP (IX.list (PX.var At.z rfl (vb rfl))) (GX.name (PutV.s (PutV.s (PutV.s (PutV.s PutV.any)))) rfl (lob rfl rfl)) (SXs.post (SXs.cons (SX.setP (lob rfl rfl) rfl (PX.tl (PL.sortedP (Bm.at b_sorted rfl) (PL.bx (PL.lc [("y", 7)] (IX.ib (IX.range1 (Bm.at b_range rfl) (PX.lenL (Bm.at b_len rfl) (BX.var (At.s (At.s At.z)) rfl (vb rfl))))) rfl (Wp.cons Wp.nil (Put.s (Put.s (Put.s (Put.s (Put.s (Put.s (Put.s Put.z)))))))) (GX.name (PutV.s (PutV.s (PutV.s (PutV.s (PutV.s (PutV.s (PutV.s PutV.any))))))) rfl (lobb rfl)) (by decide) (PTz.one (PB.gt (PX.ixL (fun _ _ => rfl) (BX.var (At.s (At.s At.z)) rfl (vbb rfl)) (PX.var (At.s (At.s (At.s (At.s (At.s (At.s (At.s At.z))))))) rfl (vbb rfl))) PX.int)) (PX.tup (PAs.cons (PX.neg (PX.ixL (fun _ _ => rfl) (BX.var (At.s (At.s At.z)) rfl (vbb rfl)) (PX.var (At.s (At.s (At.s (At.s (At.s (At.s (At.s At.z))))))) rfl (vbb rfl)))) (PAs.one (PX.var (At.s (At.s (At.s (At.s (At.s (At.s (At.s At.z))))))) rfl (vbb rfl))))))))) (Put.s (Put.s (Put.s (Put.s (Put.s Put.z)))))) (SXs.cons (SX.setP (lob rfl rfl) rfl (PX.tl (PL.sortedI (Bm.at b_sorted rfl) (PL.bx (PL.lc [("less", 9), ("y", 7)] (IX.ib (IX.list (PX.tl (PL.slice (BX.tl (PX.var (At.s (At.s (At.s (At.s (At.s At.z))))) rfl (vb rfl))) PPo.none (PPo.some (PX.var (At.s (At.s (At.s (At.s At.z)))) rfl (vb rfl))))))) rfl (Wp.cons (Wp.cons Wp.nil (Put.s (Put.s (Put.s (Put.s (Put.s (Put.s (Put.s Put.z)))))))) (Put.s (Put.s (Put.s (Put.s (Put.s (Put.s (Put.s (Put.s (Put.s Put.z)))))))))) (GX.tup (GXs.cons (GX.name (PutV.s (PutV.s (PutV.s (PutV.s (PutV.s (PutV.s (PutV.s (PutV.s (PutV.s PutV.any))))))))) rfl (lobb rfl)) (GXs.one (GX.name (PutV.s (PutV.s (PutV.s (PutV.s (PutV.s (PutV.s (PutV.s PutV.any))))))) rfl (lobb rfl))))) (by decide) PTz.nil (PX.var (At.s (At.s (At.s (At.s (At.s (At.s (At.s At.z))))))) rfl (vbb rfl)))))) (Put.s (Put.s (Put.s (Put.s (Put.s (Put.s Put.z))))))) (SXs.cons (SX.forP (IX.list (PX.var (At.s (At.s (At.s (At.s (At.s (At.s At.z)))))) rfl (vb rfl))) (GX.name (PutV.s (PutV.s (PutV.s (PutV.s (PutV.s (PutV.s (PutV.s PutV.any))))))) rfl (lob rfl rfl)) (SXs.post (SXs.cons (SX.setI (PX.ex (PX.sub (PX.ixL (fun _ _ => rfl) (BX.var (At.s (At.s At.z)) rfl (vb rfl)) (PX.var (At.s (At.s (At.s (At.s (At.s (At.s (At.s At.z))))))) rfl (vb rfl))) PX.int)) (Wr.s (Wr.s Wr.z)) rfl (vb rfl) (PX.var (At.s (At.s (At.s (At.s (At.s (At.s (At.s At.z))))))) rfl (vb rfl))) SXs.nil) (Wk.cons Cv.same (Wk.cons Cv.same (Wk.cons Cv.same (Wk.cons Cv.same (Wk.cons Cv.same (Wk.cons Cv.same (Wk.cons Cv.same (Wk.cons Cv.drop (Wk.cons Cv.same (Wk.cons Cv.same Wk.nil)))))))))))) (SXs.cons (SX.expr (EX.append (Wr.s (Wr.s (Wr.s Wr.z))) rfl (vb rfl) (PX.ex (PX.tupleL (Bm.at b_tuple rfl) (BX.tl (PX.var (At.s (At.s (At.s (At.s (At.s (At.s At.z)))))) rfl (vb rfl))))) ⟨_, _, (Wr.s (Wr.s (Wr.s Wr.z)))⟩)) SXs.nil)))) (Wk.cons Cv.same (Wk.cons Cv.same (Wk.cons Cv.same (Wk.cons Cv.same (Wk.cons Cv.drop (Wk.cons Cv.drop (Wk.cons Cv.drop (Wk.cons Cv.same (Wk.cons Cv.same (Wk.cons Cv.same Wk.nil)))))))))))) (SX.one (SX.retP (PX.tupleL (Bm.at b_tuple rfl) (BX.var (At.s (At.s (At.s At.z))) rfl (vb rfl))))))))⟩
def m_greedy_web (u : (List Int) × (List (Option Int))) : Rs (List (List Int)) := (w_greedy_web.1 (u.1, (u.2, ((), ((), ((), ((), ((), ((), ((), ((), ()))))))))))).bind (endM (fun _ => .bad))
theorem g_greedy_web {P : Program} {w : World} {K : PySem.W.Frag} {mg : Str → Option Value} {base : Heap} {ca : Nat → Addr} {f : Addr} {fd : FuncData} (T : TopFn K mg "greedy_web" s_greedy_web ["limits", "rooms"] f fd) (z_len : mg "len" = none) (z_range : mg "range" = none) (z_sorted : mg "sorted" = none) (z_tuple : mg "tuple" = none) (e_capped : Ex P w K mg base "capped" (spOf K ca (.cons (tO tI) (.one tI)) tI m_capped) 1) : FnOk P w K mg base (L2.CX P w) 2 f fd ["limits", "rooms"] (spOf K ca (.cons (tL tI) (.one (tL (tO tI)))) (tT (tT tI)) m_greedy_web) :=
  fn_mk (m := 8) (dn := fun _ => .bad) T.F sc_greedy_web (Ini.cons (Ini.one (Anys.s (Anys.s (Anys.s (Anys.s (Anys.s (Anys.s (Anys.s (Anys.s Anys.nil)))))))))) rfl rfl (fun E => w_greedy_web.2 P w K mg base ca 1 E ⟨z_len, rfl, by decide, by decide⟩ ⟨z_range, rfl, by decide, by decide⟩ ⟨z_sorted, rfl, by decide, by decide⟩ ⟨z_tuple, rfl, by decide, by decide⟩ (e_capped.callee (by decide)))
theorem f_greedy_web {P : Program} {w : World} {K : PySem.W.Frag} {mg : Str → Option Value} {base : Heap} {ca : Nat → Addr} {f : Addr} {fd : FuncData} (T : TopFn K mg "greedy_web" s_greedy_web ["limits", "rooms"] f fd) (z_len : mg "len" = none) (z_range : mg "range" = none) (z_sorted : mg "sorted" = none) (z_tuple : mg "tuple" = none) (e_capped : Ex P w K mg base "capped" (spOf K ca (.cons (tO tI) (.one tI)) tI m_capped) 1) : Ex P w K mg base "greedy_web" (spOf K ca (.cons (tL tI) (.one (tL (tO tI)))) (tT (tT tI)) m_greedy_web) 2 :=
  ⟨f, fd, ["limits", "rooms"], g_greedy_web T z_len z_range z_sorted z_tuple e_capped, T.hm, T.F.kp, T.bd⟩
abbrev s_half : Stmt := topS 16
abbrev N_half : List Str := ["needs", "rooms", "web", "x"]
theorem sc_half : FnScope N_half ["needs", "rooms"] (defScope s_half) := ⟨rfl, rfl, rfl, by decide +kernel, rfl, by decide +kernel, by decide +kernel⟩
def w_half : {f : _ → Rs (Fl (Option (List (List Int))) _ Unit) // ∀ (P : Program) (w : World) (K : PySem.W.Frag) (mg : Str → Option Value) (base : Heap) (ca : Nat → Addr) (k : Nat) (E : XK) (b_len : Bm mg "len" (.builtin "len")) (b_range : Bm mg "range" (.type "range")) (c_row_bound : Callee (ambOf P w K mg base N_half s_half k E) ca "row_bound" (.one tI) tN m_row_bound) (c_greedy_web : Callee (ambOf P w K mg base N_half s_half k E) ca "greedy_web" (.cons (tL tI) (.one (tL (tO tI)))) (tT (tT tI)) m_greedy_web), SXs (ambOf P w K mg base N_half s_half k E) ca (defBody s_half) (.cons (.val (tL tI)) (.cons (.val (tL (tO tI))) (.cons .any (.cons .any .nil)))) (.cons (.val (tL tI)) (.cons (.val (tL (tO tI))) (.cons .any (.cons .any .nil)))) .nil (rVal K (tO (tT (tT tI)))) f} :=
  ⟨_, fun P w K mg base ca k E b_len b_range c_row_bound c_greedy_web =>
    (SXs.cons (SX.expr (PX.ex (PX.call c_row_bound rfl (PAs.one (PX.lenL (Bm.at b_len rfl) (BX.tl (PX.var At.z rfl (vb rfl)))))))) (SXs.cons (SX.expr (PX.ex (PX.call c_row_bound rfl (PAs.one (PX.lenL (Bm.at b_len rfl) (BX.tl (PX.var (At.s At.z) rfl (vb rfl)))))))) (SXs.cons (SX.setP (lob rfl rfl) rfl (PX.call c_greedy_web rfl (PAs.cons (PX.var At.z rfl (vb rfl)) (PAs.one (PX.var (At.s At.z) rfl (vb rfl))))) (Put.s (Put.s Put.z))) (SXs.cons (SX.forP (IX.range1 (Bm.at b_range rfl) (PX.lenL (Bm.at b_len rfl) (BX.tl (PX.var At.z rfl (vb rfl))))) (GX.name (PutV.s (PutV.s (PutV.s PutV.any))) rfl (lob rfl rfl)) (SXs.post (SXs.cons (SX.iteP (PB.lt (PX.lenT (Bm.at b_len rfl) (PX.ixT (fun _ _ => rfl) (PX.var (At.s (At.s At.z)) rfl (vb rfl)) (PX.var (At.s (At.s (At.s At.z))) rfl (vb rfl)))) (PX.ixL (fun _ _ => rfl) (BX.tl (PX.var At.z rfl (vb rfl))) (PX.var (At.s (At.s (At.s At.z))) rfl (vb rfl)))) (SX.one (SX.retP (PX.co PX.non Tc.none))) SXs.nil) SXs.nil) (Wk.cons Cv.same (Wk.cons Cv.same (Wk.cons Cv.same (Wk.cons Cv.drop Wk.nil)))))) (SX.one (SX.retP (PX.co (PX.var (At.s (At.s At.z)) rfl (vb rfl)) Tc.some)))))))⟩
def m_half (u : (List Int) × (List (Option Int))) : Rs (Option (List (List Int))) := (w_half.1 (u.1, (u.2, ((), ((), ()))))).bind (endM (fun _ => .bad))
theorem g_half {P : Program} {w : World} {K : PySem.W.Frag} {mg : Str → Option Value} {base : Heap} {ca : Nat → Addr} {f : Addr} {fd : FuncData} (T : TopFn K mg "half" s_half ["needs", "rooms"] f fd) (z_len : mg "len" = none) (z_range : mg "range" = none) (e_row_bound : Ex P w K mg base "row_bound" (spOf K ca (.one tI) tN m_row_bound) 3) (e_greedy_web : Ex P w K mg base "greedy_web" (spOf K ca (.cons (tL tI) (.one (tL (tO tI)))) (tT (tT tI)) m_greedy_web) 2) : FnOk P w K mg base (L2.CX P w) 4 f fd ["needs", "rooms"] (spOf K ca (.cons (tL tI) (.one (tL (tO tI)))) (tO (tT (tT tI))) m_half) :=
  fn_mk (m := 2) (dn := fun _ => .bad) T.F sc_half (Ini.cons (Ini.one (Anys.s (Anys.s Anys.nil)))) rfl rfl (fun E => w_half.2 P w K mg base ca 3 E ⟨z_len, rfl, by decide, by decide⟩ ⟨z_range, rfl, by decide, by decide⟩ (e_row_bound.callee (by decide)) (e_greedy_web.callee (by decide)))
theorem f_half {P : Program} {w : World} {K : PySem.W.Frag} {mg : Str → Option Value} {base : Heap} {ca : Nat → Addr} {f : Addr} {fd : FuncData} (T : TopFn K mg "half" s_half ["needs", "rooms"] f fd) (z_len : mg "len" = none) (z_range : mg "range" = none) (e_row_bound : Ex P w K mg base "row_bound" (spOf K ca (.one tI) tN m_row_bound) 3) (e_greedy_web : Ex P w K mg base "greedy_web" (spOf K ca (.cons (tL tI) (.one (tL (tO tI)))) (tT (tT tI)) m_greedy_web) 2) : Ex P w K mg base "half" (spOf K ca (.cons (tL tI) (.one (tL (tO tI)))) (tO (tT (tT tI))) m_half) 4 :=
  ⟨f, fd, ["needs", "rooms"], g_half T z_len z_range e_row_bound e_greedy_web, T.hm, T.F.kp, T.bd⟩
def w_greedy_webT : {f : _ → Rs (Fl (List (List Int)) _ Unit) // ∀ (P : Program) (w : World) (K : PySem.W.Frag) (mg : Str → Option Value) (base : Heap) (ca : Nat → Addr) (k : Nat) (E : XK) (b_len : Bm mg "len" (.builtin "len")) (b_range : Bm mg "range" (.type "range")) (b_sorted : Bm mg "sorted" (.builtin "sorted")) (b_tuple : Bm mg "tuple" (.type "tuple")) (c_capped : Callee (ambOf P w K mg base N_greedy_web s_greedy_web k E) ca "capped" (.cons (tO tI) (.one tI)) tI m_capped), SXs (ambOf P w K mg base N_greedy_web s_greedy_web k E) ca (defBody s_greedy_web) (.cons (.val (tT tI)) (.cons (.val (tT (tO tI))) (.cons .any (.cons .any (.cons .any (.cons .any (.cons .any (.cons .any (.cons .any (.cons .any .nil)))))))))) (.cons (.val (tT tI)) (.cons (.val (tT (tO tI))) (.cons .any (.cons .any (.cons .any (.cons .any (.cons .any (.cons .any (.cons .any (.cons .any .nil)))))))))) .nil (rVal K (tT (tT tI))) f} :=
  ⟨_, fun P w K mg base ca k E b_len b_range b_sorted b_tuple c_capped =>
    (SXs.cons (SX.setOP (lob rfl rfl) rfl (PL.lc [("room", 8)] (IX.ib (IX.tup (PX.var (At.s At.z) rfl (vb rfl)))) rfl (Wp.cons Wp.nil (Put.s (Put.s (Put.s (Put.s (Put.s (Put.s (Put.s (Put.s Put.z))))))))) (GX.name (PutV.s (PutV.s (PutV.s (PutV.s (PutV.s (PutV.s (PutV.s (PutV.s PutV.any)))))))) rfl (lobb rfl)) (by decide) PTz.nil (PX.call (callee_blk c_capped) (gl_blk rfl) (PAs.cons (PX.var (At.s (At.s (At.s (At.s (At.s (At.s (At.s (At.s At.z)))))))) rfl (vbb rfl)) (PAs.one (PX.lenT (Bm.at b_len (gl_blk rfl)) (PX.var At.z rfl (vbb rfl))))))) (Put.s (Put.s Put.z)) (sw_cell rfl)) (SXs.cons (SX.setOP (lob rfl rfl) rfl (PL.lst (τ := (tT tI)) PIs.nil) (Put.s (Put.s (Put.s Put.z)))) (SXs.cons (SX.forP (IX.tup (PX.var At.z rfl (vb rfl))) (GX.name (PutV.s (PutV.s (PutV.s (PutV.s PutV.any)))) rfl (lob rfl rfl)) (SXs.post (SXs.cons (SX.setP (lob rfl rfl) rfl (PX.tl (PL.sortedP (Bm.at b_sorted rfl) (PL.bx (PL.lc [("y", 7)] (IX.ib (IX.range1 (Bm.at b_range rfl) (PX.lenL (Bm.at b_len rfl) (BX.var (At.s (At.s At.z)) rfl (vb rfl))))) rfl (Wp.cons Wp.nil (Put.s (Put.s (Put.s (Put.s (Put.s (Put.s (Put.s Put.z)))))))) (GX.name (PutV.s (PutV.s (PutV.s (PutV.s (PutV.s (PutV.s (PutV.s PutV.any))))))) rfl (lobb rfl)) (by decide) (PTz.one (PB.gt (PX.ixL (fun _ _ => rfl) (BX.var (At.s (At.s At.z)) rfl (vbb rfl)) (PX.var (At.s (At.s (At.s (At.s (At.s (At.s (At.s At.z))))))) rfl (vbb rfl))) PX.int)) (PX.tup (PAs.cons (PX.neg (PX.ixL (fun _ _ => rfl) (BX.var (At.s (At.s At.z)) rfl (vbb rfl)) (PX.var (At.s (At.s (At.s (At.s (At.s (At.s (At.s At.z))))))) rfl (vbb rfl)))) (PAs.one (PX.var (At.s (At.s (At.s (At.s (At.s (At.s (At.s At.z))))))) rfl (vbb rfl))))))))) (Put.s (Put.s (Put.s (Put.s (Put.s Put.z)))))) (SXs.cons (SX.setP (lob rfl rfl) rfl (PX.tl (PL.sortedI (Bm.at b_sorted rfl) (PL.bx (PL.lc [("less", 9), ("y", 7)] (IX.ib (IX.list (PX.tl (PL.slice (BX.tl (PX.var (At.s (At.s (At.s (At.s (At.s At.z))))) rfl (vb rfl))) PPo.none (PPo.some (PX.var (At.s (At.s (At.s (At.s At.z)))) rfl (vb rfl))))))) rfl (Wp.cons (Wp.cons Wp.nil (Put.s (Put.s (Put.s (Put.s (Put.s (Put.s (Put.s Put.z)))))))) (Put.s (Put.s (Put.s (Put.s (Put.s (Put.s (Put.s (Put.s (Put.s Put.z)))))))))) (GX.tup (GXs.cons (GX.name (PutV.s (PutV.s (PutV.s (PutV.s (PutV.s (PutV.s (PutV.s (PutV.s (PutV.s PutV.any))))))))) rfl (lobb rfl)) (GXs.one (GX.name (PutV.s (PutV.s (PutV.s (PutV.s (PutV.s (PutV.s (PutV.s PutV.any))))))) rfl (lobb rfl))))) (by decide) PTz.nil (PX.var (At.s (At.s (At.s (At.s (At.s (At.s (At.s At.z))))))) rfl (vbb rfl)))))) (Put.s (Put.s (Put.s (Put.s (Put.s (Put.s Put.z))))))) (SXs.cons (SX.forP (IX.list (PX.var (At.s (At.s (At.s (At.s (At.s (At.s At.z)))))) rfl (vb rfl))) (GX.name (PutV.s (PutV.s (PutV.s (PutV.s (PutV.s (PutV.s (PutV.s PutV.any))))))) rfl (lob rfl rfl)) (SXs.post (SXs.cons (SX.setI (PX.ex (PX.sub (PX.ixL (fun _ _ => rfl) (BX.var (At.s (At.s At.z)) rfl (vb rfl)) (PX.var (At.s (At.s (At.s (At.s (At.s (At.s (At.s At.z))))))) rfl (vb rfl))) PX.int)) (Wr.s (Wr.s Wr.z)) rfl (vb rfl) (PX.var (At.s (At.s (At.s (At.s (At.s (At.s (At.s At.z))))))) rfl (vb rfl))) SXs.nil) (Wk.cons Cv.same (Wk.cons Cv.same (Wk.cons Cv.same (Wk.cons Cv.same (Wk.cons Cv.same (Wk.cons Cv.same (Wk.cons Cv.same (Wk.cons Cv.drop (Wk.cons Cv.same (Wk.cons Cv.same Wk.nil)))))))))))) (SXs.cons (SX.expr (EX.append (Wr.s (Wr.s (Wr.s Wr.z))) rfl (vb rfl) (PX.ex (PX.tupleL (Bm.at b_tuple rfl) (BX.tl (PX.var (At.s (At.s (At.s (At.s (At.s (At.s At.z)))))) rfl (vb rfl))))) ⟨_, _, (Wr.s (Wr.s (Wr.s Wr.z)))⟩)) SXs.nil)))) (Wk.cons Cv.same (Wk.cons Cv.same (Wk.cons Cv.same (Wk.cons Cv.same (Wk.cons Cv.drop (Wk.cons Cv.drop (Wk.cons Cv.drop (Wk.cons Cv.same (Wk.cons Cv.same (Wk.cons Cv.same Wk.nil)))))))))))) (SX.one (SX.retP (PX.tupleL (Bm.at b_tuple rfl) (BX.var (At.s (At.s (At.s At.z))) rfl (vb rfl))))))))⟩
def m_greedy_webT (u : (List Int) × (List (Option Int))) : Rs (List (List Int)) := (w_greedy_webT.1 (u.1, (u.2, ((), ((), ((), ((), ((), ((), ((), ((), ()))))))))))).bind (endM (fun _ => .bad))
theorem g_greedy_webT {P : Program} {w : World} {K : PySem.W.Frag} {mg : Str → Option Value} {base : Heap} {ca : Nat → Addr} {f : Addr} {fd : FuncData} (T : TopFn K mg "greedy_web" s_greedy_web ["limits", "rooms"] f fd) (z_len : mg "len" = none) (z_range : mg "range" = none) (z_sorted : mg "sorted" = none) (z_tuple : mg "tuple" = none) (e_capped : Ex P w K mg base "capped" (spOf K ca (.cons (tO tI) (.one tI)) tI m_capped) 1) : FnOk P w K mg base (L2.CX P w) 2 f fd ["limits", "rooms"] (spOf K ca (.cons (tT tI) (.one (tT (tO tI)))) (tT (tT tI)) m_greedy_webT) :=
  fn_mk (m := 8) (dn := fun _ => .bad) T.F sc_greedy_web (Ini.cons (Ini.one (Anys.s (Anys.s (Anys.s (Anys.s (Anys.s (Anys.s (Anys.s (Anys.s Anys.nil)))))))))) rfl rfl (fun E => w_greedy_webT.2 P w K mg base ca 1 E ⟨z_len, rfl, by decide, by decide⟩ ⟨z_range, rfl, by decide, by decide⟩ ⟨z_sorted, rfl, by decide, by decide⟩ ⟨z_tuple, rfl, by decide, by decide⟩ (e_capped.callee (by decide)))
theorem f_greedy_webT {P : Program} {w : World} {K : PySem.W.Frag} {mg : Str → Option Value} {base : Heap} {ca : Nat → Addr} {f : Addr} {fd : FuncData} (T : TopFn K mg "greedy_web" s_greedy_web ["limits", "rooms"] f fd) (z_len : mg "len" = none) (z_range : mg "range" = none) (z_sorted : mg "sorted" = none) (z_tuple : mg "tuple" = none) (e_capped : Ex P w K mg base "capped" (spOf K ca (.cons (tO tI) (.one tI)) tI m_capped) 1) : Ex P w K mg base "greedy_web" (spOf K ca (.cons (tT tI) (.one (tT (tO tI)))) (tT (tT tI)) m_greedy_webT) 2 :=
  ⟨f, fd, ["limits", "rooms"], g_greedy_webT T z_len z_range z_sorted z_tuple e_capped, T.hm, T.F.kp, T.bd⟩
def w_halfT : {f : _ → Rs (Fl (Option (List (List Int))) _ Unit) // ∀ (P : Program) (w : World) (K : PySem.W.Frag) (mg : Str → Option Value) (base : Heap) (ca : Nat → Addr) (k : Nat) (E : XK) (b_len : Bm mg "len" (.builtin "len")) (b_range : Bm mg "range" (.type "range")) (c_row_bound : Callee (ambOf P w K mg base N_half s_half k E) ca "row_bound" (.one tI) tN m_row_bound) (c_greedy_webT : Callee (ambOf P w K mg base N_half s_half k E) ca "greedy_web" (.cons (tT tI) (.one (tT (tO tI)))) (tT (tT tI)) m_greedy_webT), SXs (ambOf P w K mg base N_half s_half k E) ca (defBody s_half) (.cons (.val (tT tI)) (.cons (.val (tT (tO tI))) (.cons .any (.cons .any .nil)))) (.cons (.val (tT tI)) (.cons (.val (tT (tO tI))) (.cons .any (.cons .any .nil)))) .nil (rVal K (tO (tT (tT tI)))) f} :=
  ⟨_, fun P w K mg base ca k E b_len b_range c_row_bound c_greedy_webT =>
    (SXs.cons (SX.expr (PX.ex (PX.call c_row_bound rfl (PAs.one (PX.lenT (Bm.at b_len rfl) (PX.var At.z rfl (vb rfl))))))) (SXs.cons (SX.expr (PX.ex (PX.call c_row_bound rfl (PAs.one (PX.lenT (Bm.at b_len rfl) (PX.var (At.s At.z) rfl (vb rfl))))))) (SXs.cons (SX.setP (lob rfl rfl) rfl (PX.call c_greedy_webT rfl (PAs.cons (PX.var At.z rfl (vb rfl)) (PAs.one (PX.var (At.s At.z) rfl (vb rfl))))) (Put.s (Put.s Put.z))) (SXs.cons (SX.forP (IX.range1 (Bm.at b_range rfl) (PX.lenT (Bm.at b_len rfl) (PX.var At.z rfl (vb rfl)))) (GX.name (PutV.s (PutV.s (PutV.s PutV.any))) rfl (lob rfl rfl)) (SXs.post (SXs.cons (SX.iteP (PB.lt (PX.lenT (Bm.at b_len rfl) (PX.ixT (fun _ _ => rfl) (PX.var (At.s (At.s At.z)) rfl (vb rfl)) (PX.var (At.s (At.s (At.s At.z))) rfl (vb rfl)))) (PX.ixT (fun _ _ => rfl) (PX.var At.z rfl (vb rfl)) (PX.var (At.s (At.s (At.s At.z))) rfl (vb rfl)))) (SX.one (SX.retP (PX.co PX.non Tc.none))) SXs.nil) SXs.nil) (Wk.cons Cv.same (Wk.cons Cv.same (Wk.cons Cv.same (Wk.cons Cv.drop Wk.nil)))))) (SX.one (SX.retP (PX.co (PX.var (At.s (At.s At.z)) rfl (vb rfl)) Tc.some)))))))⟩
def m_halfT (u : (List Int) × (List (Option Int))) : Rs (Option (List (List Int))) := (w_halfT.1 (u.1, (u.2, ((), ((), ()))))).bind (endM (fun _ => .bad))
theorem g_halfT {P : Program} {w : World} {K : PySem.W.Frag} {mg : Str → Option Value} {base : Heap} {ca : Nat → Addr} {f : Addr} {fd : FuncData} (T : TopFn K mg "half" s_half ["needs", "rooms"] f fd) (z_len : mg "len" = none) (z_range : mg "range" = none) (e_row_bound : Ex P w K mg base "row_bound" (spOf K ca (.one tI) tN m_row_bound) 3) (e_greedy_webT : Ex P w K mg base "greedy_web" (spOf K ca (.cons (tT tI) (.one (tT (tO tI)))) (tT (tT tI)) m_greedy_webT) 2) : FnOk P w K mg base (L2.CX P w) 4 f fd ["needs", "rooms"] (spOf K ca (.cons (tT tI) (.one (tT (tO tI)))) (tO (tT (tT tI))) m_halfT) :=
  fn_mk (m := 2) (dn := fun _ => .bad) T.F sc_half (Ini.cons (Ini.one (Anys.s (Anys.s Anys.nil)))) rfl rfl (fun E => w_halfT.2 P w K mg base ca 3 E ⟨z_len, rfl, by decide, by decide⟩ ⟨z_range, rfl, by decide, by decide⟩ (e_row_bound.callee (by decide)) (e_greedy_webT.callee (by decide)))
theorem f_halfT {P : Program} {w : World} {K : PySem.W.Frag} {mg : Str → Option Value} {base : Heap} {ca : Nat → Addr} {f : Addr} {fd : FuncData} (T : TopFn K mg "half" s_half ["needs", "rooms"] f fd) (z_len : mg "len" = none) (z_range : mg "range" = none) (e_row_bound : Ex P w K mg base "row_bound" (spOf K ca (.one tI) tN m_row_bound) 3) (e_greedy_webT : Ex P w K mg base "greedy_web" (spOf K ca (.cons (tT tI) (.one (tT (tO tI)))) (tT (tT tI)) m_greedy_webT) 2) : Ex P w K mg base "half" (spOf K ca (.cons (tT tI) (.one (tT (tO tI)))) (tO (tT (tT tI))) m_halfT) 4 :=
  ⟨f, fd, ["needs", "rooms"], g_halfT T z_len z_range e_row_bound e_greedy_webT, T.hm, T.F.kp, T.bd⟩
abbrev s__law_pool : Stmt := topS 18
abbrev N__law_pool : List Str := ["script"]
theorem sc__law_pool : FnScope N__law_pool ["script"] (defScope s__law_pool) := ⟨rfl, rfl, rfl, by decide +kernel, rfl, by decide +kernel, by decide +kernel⟩
def w__law_pool : {f : _ → Rs (Fl ((List Int) × Int × Int × Int) _ Unit) // ∀ (P : Program) (w : World) (K : PySem.W.Frag) (mg : Str → Option Value) (base : Heap) (ca : Nat → Addr) (k : Nat) (E : XK) (b_list : Bm mg "list" (.type "list")), SXs (ambOf P w K mg base N__law_pool s__law_pool k E) ca (defBody s__law_pool) (.cons (.val (tF tI)) .nil) (.cons (.val (tF tI)) .nil) .nil (rLst K (cR (.cons (tL tI) (.cons tI (.cons tI (.one tI)))))) f} :=
  ⟨_, fun P w K mg base ca k E b_list =>
    (SX.one (SX.retL (PL.lup (PAs.cons (PX.tl (PL.slice (PL.bx (PL.listF (Bm.at b_list rfl) (PX.var At.z rfl (vb rfl)))) PPo.none (PPo.some PX.int))) (PAs.cons PX.int (PAs.cons PX.int (PAs.one PX.int)))))))⟩
def m__law_pool (u : (List Int)) : Rs ((List Int) × Int × Int × Int) := (w__law_pool.1 (u, ())).bind (endM (fun _ => .bad))
theorem g__law_pool {P : Program} {w : World} {K : PySem.W.Frag} {mg : Str → Option Value} {base : Heap} {ca : Nat → Addr} {f : Addr} {fd : FuncData} (T : TopFn K mg "_law_pool" s__law_pool ["script"] f fd) (z_list : mg "list" = none) : FnOk P w K mg base (L2.CX P w) 1 f fd ["script"] (spL K ca (.one (tF tI)) (cR (.cons (tL tI) (.cons tI (.cons tI (.one tI))))) m__law_pool) :=
  fnL_mk (m := 0) T.F sc__law_pool (Ini.one Anys.nil) rfl rfl (fun E => w__law_pool.2 P w K mg base ca 0 E ⟨z_list, rfl, by decide, by decide⟩)
theorem f__law_pool {P : Program} {w : World} {K : PySem.W.Frag} {mg : Str → Option Value} {base : Heap} {ca : Nat → Addr} {f : Addr} {fd : FuncData} (T : TopFn K mg "_law_pool" s__law_pool ["script"] f fd) (z_list : mg "list" = none) : Ex P w K mg base "_law_pool" (spL K ca (.one (tF tI)) (cR (.cons (tL tI) (.cons tI (.cons tI (.one tI))))) m__law_pool) 1 :=
  ⟨f, fd, ["script"], g__law_pool T z_list, T.hm, T.F.kp, T.bd⟩
abbrev s__law_mixed : Stmt := topS 19
abbrev N__law_mixed : List Str := ["number", "place"]
theorem sc__law_mixed : FnScope N__law_mixed ["number", "place"] (defScope s__law_mixed) := ⟨rfl, rfl, rfl, by decide +kernel, rfl, by decide +kernel, by decide +kernel⟩
def w__law_mixed : {f : _ → Rs (Fl Int _ Unit) // ∀ (P : Program) (w : World) (K : PySem.W.Frag) (mg : Str → Option Value) (base : Heap) (ca : Nat → Addr) (k : Nat) (E : XK) (b_int : Bm mg "int" (.type "int")), SXs (ambOf P w K mg base N__law_mixed s__law_mixed k E) ca (defBody s__law_mixed) (.cons (.val tI) (.cons (.val tI) .nil)) (.cons (.val tI) (.cons (.val tI) .nil)) .nil (rVal K tI) f} :=
  ⟨_, fun P w K mg base ca k E b_int =>
    (SXs.cons (SX.setP (lob rfl rfl) rfl (PX.mod (PX.toInt (Bm.at b_int rfl) (PX.add (PX.add (PX.mul (PX.var At.z rfl (vb rfl)) PX.int) (PX.mul (PX.var (At.s At.z) rfl (vb rfl)) PX.int)) PX.int)) PX.int) Put.z) (SXs.cons (SX.setP (lob rfl rfl) rfl (PX.mod (PX.toInt (Bm.at b_int rfl) (PX.add (PX.add (PX.mul (PX.var At.z rfl (vb rfl)) (PX.var At.z rfl (vb rfl))) (PX.mul PX.int (PX.var (At.s At.z) rfl (vb rfl)))) PX.int)) PX.int) Put.z) (SX.one (SX.retP (PX.mod (PX.toInt (Bm.at b_int rfl) (PX.fdiv (PX.var At.z rfl (vb rfl)) PX.int)) PX.int)))))⟩
def m__law_mixed (u : Int × Int) : Rs Int := (w__law_mixed.1 (u.1, (u.2, ()))).bind (endM (fun _ => .bad))
theorem g__law_mixed {P : Program} {w : World} {K : PySem.W.Frag} {mg : Str → Option Value} {base : Heap} {ca : Nat → Addr} {f : Addr} {fd : FuncData} (T : TopFn K mg "_law_mixed" s__law_mixed ["number", "place"] f fd) (z_int : mg "int" = none) : FnOk P w K mg base (L2.CX P w) 1 f fd ["number", "place"] (spOf K ca (.cons tI (.one tI)) tI m__law_mixed) :=
  fn_mk (m := 0) (dn := fun _ => .bad) T.F sc__law_mixed (Ini.cons (Ini.one Anys.nil)) rfl rfl (fun E => w__law_mixed.2 P w K mg base ca 0 E ⟨z_int, rfl, by decide, by decide⟩)
theorem f__law_mixed {P : Program} {w : World} {K : PySem.W.Frag} {mg : Str → Option Value} {base : Heap} {ca : Nat → Addr} {f : Addr} {fd : FuncData} (T : TopFn K mg "_law_mixed" s__law_mixed ["number", "place"] f fd) (z_int : mg "int" = none) : Ex P w K mg base "_law_mixed" (spOf K ca (.cons tI (.one tI)) tI m__law_mixed) 1 :=
  ⟨f, fd, ["number", "place"], g__law_mixed T z_int, T.hm, T.F.kp, T.bd⟩
abbrev s__law_draw : Stmt := topS 20
abbrev N__law_draw : List Str := ["pool", "base", "digit", "cell"]
theorem sc__law_draw : FnScope N__law_draw ["pool", "base"] (defScope s__law_draw) := ⟨rfl, rfl, rfl, by decide +kernel, rfl, by decide +kernel, by decide +kernel⟩
def w__law_draw : {f : _ → Rs (Fl (Int × ((List Int) × Int × Int × Int)) _ Unit) // ∀ (P : Program) (w : World) (K : PySem.W.Frag) (mg : Str → Option Value) (base : Heap) (ca : Nat → Addr) (k : Nat) (E : XK) (q : Addr) (b_int : Bm mg "int" (.type "int")) (b_len : Bm mg "len" (.builtin "len")) (c__law_mixed : Callee (ambOf P w K mg base N__law_draw s__law_draw k E) ca "_law_mixed" (.cons tI (.one tI)) tI m__law_mixed), SXs (ambOf P w K mg base N__law_draw s__law_draw k E) ca (defBody s__law_draw) (.cons (.own (some q) (cR (.cons (tL tI) (.cons tI (.cons tI (.one tI)))))) (.cons (.val tI) (.cons .any (.cons .any .nil)))) (.cons (.own (some q) (cR (.cons (tL tI) (.cons tI (.cons tI (.one tI)))))) (.cons (.val tI) (.cons .any (.cons .any .nil)))) .nil (rIO K q (cR (.cons (tL tI) (.cons tI (.cons tI (.one tI))))) tI) f} :=
  ⟨_, fun P w K mg base ca k E q b_int b_len c__law_mixed =>
    (SXs.cons (SX.iteP (PB.gt (PX.ixR (Nth.s (Nth.s (Nth.s Nth.o))) rfl (fun _ _ => rfl) (BX.var At.z rfl (vb rfl)) PX.int) PX.int) (SXs.cons (SX.setP (lob rfl rfl) rfl (PX.mod (PX.toInt (Bm.at b_int rfl) (PX.ixR (Nth.s (Nth.s Nth.z)) rfl (fun _ _ => rfl) (BX.var At.z rfl (vb rfl)) PX.int)) (PX.var (At.s At.z) rfl (vb rfl))) (Put.s (Put.s Put.z))) (SXs.cons (SX.setR (PX.ex (PX.fdiv (PX.toInt (Bm.at b_int rfl) (PX.ixR (Nth.s (Nth.s Nth.z)) rfl (fun _ _ => rfl) (BX.var At.z rfl (vb rfl)) PX.int)) (PX.var (At.s At.z) rfl (vb rfl)))) Wr.z rfl (vb rfl) (Tst.s (Tst.s Tst.z)) rfl PX.int) (SXs.cons (SX.setR (PX.ex (PX.sub (PX.ixR (Nth.s (Nth.s (Nth.s Nth.o))) rfl (fun _ _ => rfl) (BX.var At.z rfl (vb rfl)) PX.int) PX.int)) Wr.z rfl (vb rfl) (Tst.s (Tst.s (Tst.s Tst.o))) rfl PX.int) (SX.one (SX.retIOA (PX.ex (PX.var (At.s (At.s At.z)) rfl (vb rfl))) At.z))))) SXs.nil) (SXs.cons (SX.iteP (PB.ge (PX.ixR (Nth.s Nth.z) rfl (fun _ _ => rfl) (BX.var At.z rfl (vb rfl)) PX.int) (PX.lenL (Bm.at b_len rfl) (BX.tl (PX.ixR Nth.z rfl (fun _ _ => rfl) (BX.var At.z rfl (vb rfl)) PX.int)))) (SX.one (SX.retIOA (PX.ex PX.int) At.z)) SXs.nil) (SXs.cons (SX.setP (lob rfl rfl) rfl (PX.toInt (Bm.at b_int rfl) (PX.ixL (fun _ _ => rfl) (BX.tl (PX.ixR Nth.z rfl (fun _ _ => rfl) (BX.var At.z rfl (vb rfl)) PX.int)) (PX.ixR (Nth.s Nth.z) rfl (fun _ _ => rfl) (BX.var At.z rfl (vb rfl)) PX.int))) (Put.s (Put.s (Put.s Put.z)))) (SXs.cons (SX.setR (PX.ex (PX.add (PX.ixR (Nth.s Nth.z) rfl (fun _ _ => rfl) (BX.var At.z rfl (vb rfl)) PX.int) PX.int)) Wr.z rfl (vb rfl) (Tst.s Tst.z) rfl PX.int) (SXs.cons (SX.iteP (PB.lt (PX.var (At.s (At.s (At.s At.z))) rfl (vb rfl)) PX.int) (SXs.cons (SX.setP (lob rfl rfl) rfl (PX.sub PX.int (PX.var (At.s (At.s (At.s At.z))) rfl (vb rfl))) (Put.s (Put.s (Put.s Put.z)))) SXs.nil) SXs.nil) (SXs.cons (SX.iteP (PB.ge (PX.var (At.s (At.s (At.s At.z))) rfl (vb rfl)) (PX.pow PX.int PX.int)) (SXs.cons (SX.setR (PX.ex (PX.fdiv (PX.var (At.s (At.s (At.s At.z))) rfl (vb rfl)) (PX.var (At.s At.z) rfl (vb rfl)))) Wr.z rfl (vb rfl) (Tst.s (Tst.s Tst.z)) rfl PX.int) (SXs.cons (SX.setR (PX.ex PX.int) Wr.z rfl (vb rfl) (Tst.s (Tst.s (Tst.s Tst.o))) rfl PX.int) (SX.one (SX.retIOA (PX.ex (PX.mod (PX.toInt (Bm.at b_int rfl) (PX.var (At.s (At.s (At.s At.z))) rfl (vb rfl))) (PX.var (At.s At.z) rfl (vb rfl)))) At.z)))) SXs.nil) (SX.one (SX.retIOA (PX.ex (PX.mod (PX.toInt (Bm.at b_int rfl) (PX.call c__law_mixed rfl (PAs.cons (PX.var (At.s (At.s (At.s At.z))) rfl (vb rfl)) (PAs.one (PX.ixR (Nth.s Nth.z) rfl (fun _ _ => rfl) (BX.var At.z rfl (vb rfl)) PX.int))))) (PX.var (At.s At.z) rfl (vb rfl)))) At.z))))))))⟩
def m__law_draw (u : ((List Int) × Int × Int × Int) × Int) : Rs (Int × ((List Int) × Int × Int × Int)) := (w__law_draw.1 (u.1, (u.2, ((), ((), ()))))).bind (endM (fun _ => .bad))
theorem g__law_draw {P : Program} {w : World} {K : PySem.W.Frag} {mg : Str → Option Value} {base : Heap} {ca : Nat → Addr} {f : Addr} {fd : FuncData} (T : TopFn K mg "_law_draw" s__law_draw ["pool", "base"] f fd) (z_int : mg "int" = none) (z_len : mg "len" = none) (e__law_mixed : Ex P w K mg base "_law_mixed" (spOf K ca (.cons tI (.one tI)) tI m__law_mixed) 1) : FnOk P w K mg base (L2.CX P w) 2 f fd ["pool", "base"] (spIO K ca (cR (.cons (tL tI) (.cons tI (.cons tI (.one tI))))) (.one tI) tI m__law_draw) :=
  fnIO_mk (m := 2) T.F sc__law_draw (fun q => IniO.mk' (Ini.one (Anys.s (Anys.s Anys.nil)))) rfl rfl (fun E q => w__law_draw.2 P w K mg base ca 1 E q ⟨z_int, rfl, by decide, by decide⟩ ⟨z_len, rfl, by decide, by decide⟩ (e__law_mixed.callee (by decide)))
theorem f__law_draw {P : Program} {w : World} {K : PySem.W.Frag} {mg : Str → Option Value} {base : Heap} {ca : Nat → Addr} {f : Addr} {fd : FuncData} (T : TopFn K mg "_law_draw" s__law_draw ["pool", "base"] f fd) (z_int : mg "int" = none) (z_len : mg "len" = none) (e__law_mixed : Ex P w K mg base "_law_mixed" (spOf K ca (.cons tI (.one tI)) tI m__law_mixed) 1) : Ex P w K mg base "_law_draw" (spIO K ca (cR (.cons (tL tI) (.cons tI (.cons tI (.one tI))))) (.one tI) tI m__law_draw) 2 :=
  ⟨f, fd, ["pool", "base"], g__law_draw T z_int z_len e__law_mixed, T.hm, T.F.kp, T.bd⟩
abbrev s__law_pick : Stmt := topS 21
abbrev N__law_pick : List Str := ["pool", "row"]
theorem sc__law_pick : FnScope N__law_pick ["pool", "row"] (defScope s__law_pick) := ⟨rfl, rfl, rfl, by decide +kernel, rfl, by decide +kernel, by decide +kernel⟩
def w__law_pick : {f : _ → Rs (Fl ((Option Int) × ((List Int) × Int × Int × Int)) _ Unit) // ∀ (P : Program) (w : World) (K : PySem.W.Frag) (mg : Str → Option Value) (base : Heap) (ca : Nat → Addr) (k : Nat) (E : XK) (q : Addr) (b_len : Bm mg "len" (.builtin "len")) (c__law_draw : CalleeIO (ambOf P w K mg base N__law_pick s__law_pick k E) ca "_law_draw" (cR (.cons (tL tI) (.cons tI (.cons tI (.one tI))))) (.one tI) tI m__law_draw), SXs (ambOf P w K mg base N__law_pick s__law_pick k E) ca (defBody s__law_pick) (.cons (.own (some q) (cR (.cons (tL tI) (.cons tI (.cons tI (.one tI)))))) (.cons (.val (tL (tO tI))) .nil)) (.cons (.own (some q) (cR (.cons (tL tI) (.cons tI (.cons tI (.one tI)))))) (.cons (.val (tL (tO tI))) .nil)) .nil (rIO K q (cR (.cons (tL tI) (.cons tI (.cons tI (.one tI))))) (tO tI)) f} :=
  ⟨_, fun P w K mg base ca k E q b_len c__law_draw =>
    (SX.one (SX.retIOA (EX.ixL (fun _ _ => rfl) (PX.var (At.s At.z) rfl (vb rfl)) (EX.callIO c__law_draw rfl Wr.z rfl (vb rfl) (PAs.one (PX.lenL (Bm.at b_len rfl) (BX.tl (PX.var (At.s At.z) rfl (vb rfl))))))) At.z))⟩
def m__law_pick (u : ((List Int) × Int × Int × Int) × (List (Option Int))) : Rs ((Option Int) × ((List Int) × Int × Int × Int)) := (w__law_pick.1 (u.1, (u.2, ()))).bind (endM (fun _ => .bad))
theorem g__law_pick {P : Program} {w : World} {K : PySem.W.Frag} {mg : Str → Option Value} {base : Heap} {ca : Nat → Addr} {f : Addr} {fd : FuncData} (T : TopFn K mg "_law_pick" s__law_pick ["pool", "row"] f fd) (z_len : mg "len" = none) (e__law_draw : Ex P w K mg base "_law_draw" (spIO K ca (cR (.cons (tL tI) (.cons tI (.cons tI (.one tI))))) (.one tI) tI m__law_draw) 2) : FnOk P w K mg base (L2.CX P w) 3 f fd ["pool", "row"] (spIO K ca (cR (.cons (tL tI) (.cons tI (.cons tI (.one tI))))) (.one (tL (tO tI))) (tO tI) m__law_pick) :=
  fnIO_mk (m := 0) T.F sc__law_pick (fun q => IniO.mk' (Ini.one Anys.nil)) rfl rfl (fun E q => w__law_pick.2 P w K mg base ca 2 E q ⟨z_len, rfl, by decide, by decide⟩ (e__law_draw.calleeIO (by decide)))
theorem f__law_pick {P : Program} {w : World} {K : PySem.W.Frag} {mg : Str → Option Value} {base : Heap} {ca : Nat → Addr} {f : Addr} {fd : FuncData} (T : TopFn K mg "_law_pick" s__law_pick ["pool", "row"] f fd) (z_len : mg "len" = none) (e__law_draw : Ex P w K mg base "_law_draw" (spIO K ca (cR (.cons (tL tI) (.cons tI (.cons tI (.one tI))))) (.one tI) tI m__law_draw) 2) : Ex P w K mg base "_law_pick" (spIO K ca (cR (.cons (tL tI) (.cons tI (.cons tI (.one tI))))) (.one (tL (tO tI))) (tO tI) m__law_pick) 3 :=
  ⟨f, fd, ["pool", "row"], g__law_pick T z_len e__law_draw, T.hm, T.F.kp, T.bd⟩
abbrev s__law_left : Stmt := topS 22
abbrev N__law_left : List Str := ["needs", "t", "total", "sort"]
theorem sc__law_left : FnScope N__law_left ["needs", "t"] (defScope s__law_left) := ⟨rfl, rfl, rfl, by decide +kernel, rfl, by decide +kernel, by decide +kernel⟩
def w__law_left : {f : _ → Rs (Fl (Option Int) _ Unit) // ∀ (P : Program) (w : World) (K : PySem.W.Frag) (mg : Str → Option Value) (base : Heap) (ca : Nat → Addr) (k : Nat) (E : XK), SXs (ambOf P w K mg base N__law_left s__law_left k E) ca (defBody s__law_left) (.cons (.val (tL (tTup (.cons (tO tI) (.cons tI (.one (tO tI))))))) (.cons (.val tI) (.cons .any (.cons .any .nil)))) (.cons (.val (tL (tTup (.cons (tO tI) (.cons tI (.one (tO tI))))))) (.cons (.val tI) (.cons .any (.cons .any .nil)))) .nil (rVal K (tO tI)) f} :=
  ⟨_, fun P w K mg base ca k E =>
    (SXs.cons (SX.setP (lob rfl rfl) rfl PX.int (Put.s (Put.s Put.z))) (SXs.cons (SX.forP (IX.list (PX.var At.z rfl (vb rfl))) (GX.name (PutV.s (PutV.s (PutV.s PutV.any))) rfl (lob rfl rfl)) (SXs.post (SXs.cons (SX.iteP (PBw.pb (PB.and (PB.gt (PX.ixP (Nth.s Nth.z) rfl (fun _ _ => rfl) (PX.var (At.s (At.s (At.s At.z))) rfl (vb rfl)) PX.int) (PX.var (At.s At.z) rfl (vb rfl))) (PB.and1 (PB.isN NN.int (PX.ixP Nth.z rfl (fun _ _ => rfl) (PX.var (At.s (At.s (At.s At.z))) rfl (vb rfl)) PX.int))))) (SX.one (SX.retP (PX.co PX.non Tc.none))) SXs.nil) (SXs.cons (SX.iteP (PB.gt (PX.ixP (Nth.s Nth.z) rfl (fun _ _ => rfl) (PX.var (At.s (At.s (At.s At.z))) rfl (vb rfl)) PX.int) (PX.var (At.s At.z) rfl (vb rfl))) (SXs.cons (SX.setP (lob rfl rfl) rfl (PX.add (PX.var (At.s (At.s At.z)) rfl (vb rfl)) (PX.mul (PX.unw (PX.ixP Nth.z rfl (fun _ _ => rfl) (PX.var (At.s (At.s (At.s At.z))) rfl (vb rfl)) PX.int)) (PX.sub (PX.ixP (Nth.s Nth.z) rfl (fun _ _ => rfl) (PX.var (At.s (At.s (At.s At.z))) rfl (vb rfl)) PX.int) (PX.var (At.s At.z) rfl (vb rfl))))) (Put.s (Put.s Put.z))) SXs.nil) SXs.nil) SXs.nil)) (Wk.cons Cv.same (Wk.cons Cv.same (Wk.cons Cv.same (Wk.cons Cv.drop Wk.nil)))))) (SX.one (SX.retP (PX.co (PX.var (At.s (At.s At.z)) rfl (vb rfl)) Tc.some)))))⟩
def m__law_left (u : (List ((Option Int) × Int × (Option Int))) × Int) : Rs (Option Int) := (w__law_left.1 (u.1, (u.2, ((), ((), ()))))).bind (endM (fun _ => .bad))
theorem g__law_left {P : Program} {w : World} {K : PySem.W.Frag} {mg : Str → Option Value} {base : Heap} {ca : Nat → Addr} {f : Addr} {fd : FuncData} (T : TopFn K mg "_law_left" s__law_left ["needs", "t"] f fd) : FnOk P w K mg base (L2.CX P w) 1 f fd ["needs", "t"] (spOf K ca (.cons (tL (tTup (.cons (tO tI) (.cons tI (.one (tO tI)))))) (.one tI)) (tO tI) m__law_left) :=
  fn_mk (m := 2) (dn := fun _ => .bad) T.F sc__law_left (Ini.cons (Ini.one (Anys.s (Anys.s Anys.nil)))) rfl rfl (fun E => w__law_left.2 P w K mg base ca 0 E)
theorem f__law_left {P : Program} {w : World} {K : PySem.W.Frag} {mg : Str → Option Value} {base : Heap} {ca : Nat → Addr} {f : Addr} {fd : FuncData} (T : TopFn K mg "_law_left" s__law_left ["needs", "t"] f fd) : Ex P w K mg base "_law_left" (spOf K ca (.cons (tL (tTup (.cons (tO tI) (.cons tI (.one (tO tI)))))) (.one tI)) (tO tI) m__law_left) 1 :=
  ⟨f, fd, ["needs", "t"], g__law_left T, T.hm, T.F.kp, T.bd⟩
abbrev s__law_wider : Stmt := topS 23
abbrev N__law_wider : List Str := ["one", "two"]
theorem sc__law_wider : FnScope N__law_wider ["one", "two"] (defScope s__law_wider) := ⟨rfl, rfl, rfl, by decide +kernel, rfl, by decide +kernel, by decide +kernel⟩
def w__law_wider : {f : _ → Rs (Fl Bool _ Unit) // ∀ (P : Program) (w : World) (K : PySem.W.Frag) (mg : Str → Option Value) (base : Heap) (ca : Nat → Addr) (k : Nat) (E : XK), SXs (ambOf P w K mg base N__law_wider s__law_wider k E) ca (defBody s__law_wider) (.cons (.val (tO tI)) (.cons (.val (tO tI)) .nil)) (.cons (.val (tO tI)) (.cons (.val (tO tI)) .nil)) .nil (rVal K tB) f} :=
  ⟨_, fun P w K mg base ca k E =>
    (SXs.cons (SX.iteP (PB.isN NN.int (PX.var At.z rfl (vb rfl))) (SX.one (SX.retP (PX.notN NN.int (PX.var (At.s At.z) rfl (vb rfl))))) SXs.nil) (SX.one (SX.retP (PX.and (PX.notN NN.int (PX.var (At.s At.z) rfl (vb rfl))) (PX.one (PX.gt (PX.unw (PX.var At.z rfl (vb rfl))) (PX.unw (PX.var (At.s At.z) rfl (vb rfl)))))))))⟩
def m__law_wider (u : (Option Int) × (Option Int)) : Rs Bool := (w__law_wider.1 (u.1, (u.2, ()))).bind (endM (fun _ => .bad))
theorem g__law_wider {P : Program} {w : World} {K : PySem.W.Frag} {mg : Str → Option Value} {base : Heap} {ca : Nat → Addr} {f : Addr} {fd : FuncData} (T : TopFn K mg "_law_wider" s__law_wider ["one", "two"] f fd) : FnOk P w K mg base (L2.CX P w) 1 f fd ["one", "two"] (spOf K ca (.cons (tO tI) (.one (tO tI))) tB m__law_wider) :=
  fn_mk (m := 0) (dn := fun _ => .bad) T.F sc__law_wider (Ini.cons (Ini.one Anys.nil)) rfl rfl (fun E => w__law_wider.2 P w K mg base ca 0 E)
theorem f__law_wider {P : Program} {w : World} {K : PySem.W.Frag} {mg : Str → Option Value} {base : Heap} {ca : Nat → Addr} {f : Addr} {fd : FuncData} (T : TopFn K mg "_law_wider" s__law_wider ["one", "two"] f fd) : Ex P w K mg base "_law_wider" (spOf K ca (.cons (tO tI) (.one (tO tI))) tB m__law_wider) 1 :=
  ⟨f, fd, ["one", "two"], g__law_wider T, T.hm, T.F.kp, T.bd⟩
abbrev s__law_right : Stmt := topS 24
abbrev N__law_right : List Str := ["rooms", "t", "rest", "gone", "turn", "best", "i", "taken", "total", "sort"]
theorem sc__law_right : FnScope N__law_right ["rooms", "t"] (defScope s__law_right) := ⟨rfl, rfl, rfl, by decide +kernel, rfl, by decide +kernel, by decide +kernel⟩
def w__law_right : {f : _ → Rs (Fl (Option Int) _ Unit) // ∀ (P : Program) (w : World) (K : PySem.W.Frag) (mg : Str → Option Value) (base : Heap) (ca : Nat → Addr) (k : Nat) (E : XK) (b_range : Bm mg "range" (.type "range")) (b_len : Bm mg "len" (.builtin "len")) (b_min : Bm mg "min" (.builtin "min")) (c__law_wider : Callee (ambOf P w K mg base N__law_right s__law_right k E) ca "_law_wider" (.cons (tO tI) (.one (tO tI))) tB m__law_wider), SXs (ambOf P w K mg base N__law_right s__law_right k E) ca (defBody s__law_right) (.cons (.val (tL (tTup (.cons (tO tI) (.cons tI (.one (tO tI))))))) (.cons (.val tI) (.cons .any (.cons .any (.cons .any (.cons .any (.cons .any (.cons .any (.cons .any (.cons .any .nil)))))))))) (.cons (.val (tL (tTup (.cons (tO tI) (.cons tI (.one (tO tI))))))) (.cons (.val tI) (.cons .any (.cons .any (.cons .any (.cons .any (.cons .any (.cons .any (.cons .any (.cons .any .nil)))))))))) .nil (rVal K (tO tI)) f} :=
  ⟨_, fun P w K mg base ca k E b_range b_len b_min c__law_wider =>
    (SXs.cons (SX.setPc [("sort", 9)] rfl rfl rfl rfl rfl (IX.ib (IX.list (PX.var At.z rfl (vb rfl)))) rfl (Wp.cons Wp.nil (Put.s (Put.s (Put.s (Put.s (Put.s (Put.s (Put.s (Put.s (Put.s Put.z)))))))))) (GX.name (PutV.s (PutV.s (PutV.s (PutV.s (PutV.s (PutV.s (PutV.s (PutV.s (PutV.s PutV.any))))))))) rfl (lobb rfl)) (by decide) (PTz.one (PBw.pb (PB.and (PB.neD (Enc.opt EncN.int) (PX.ixP Nth.z rfl (fun _ _ => rfl) (PX.var (At.s (At.s (At.s (At.s (At.s (At.s (At.s (At.s (At.s At.z))))))))) rfl (vbb rfl)) PX.int) (PX.co PX.int Tc.some)) (PB.and1 (PB.neD (Enc.opt EncN.int) (PX.ixP (Nth.s (Nth.s Nth.o)) rfl (fun _ _ => rfl) (PX.var (At.s (At.s (At.s (At.s (At.s (At.s (At.s (At.s (At.s At.z))))))))) rfl (vbb rfl)) PX.int) (PX.co PX.int Tc.some)))))) (PX.tlup (PL.lup (PAs.cons (PX.ixP Nth.z rfl (fun _ _ => rfl) (PX.var (At.s (At.s (At.s (At.s (At.s (At.s (At.s (At.s (At.s At.z))))))))) rfl (vbb rfl)) PX.int) (PAs.one (PX.ixP (Nth.s (Nth.s Nth.o)) rfl (fun _ _ => rfl) (PX.var (At.s (At.s (At.s (At.s (At.s (At.s (At.s (At.s (At.s At.z))))))))) rfl (vbb rfl)) PX.int))))) (Put.s (Put.s Put.z))) (SXs.cons (SX.setP (lob rfl rfl) rfl (PX.var (At.s At.z) rfl (vb rfl)) (Put.s (Put.s (Put.s Put.z)))) (SXs.cons (SX.forP (IX.range1 (Bm.at b_range rfl) (PX.lenL (Bm.at b_len rfl) (BX.var (At.s (At.s At.z)) rfl (vb rfl)))) (GX.name (PutV.s (PutV.s (PutV.s (PutV.s PutV.any)))) rfl (lob rfl rfl)) (SXs.post (SXs.cons (SX.setP (lob rfl rfl) rfl (PX.co PX.non Tc.none) (Put.s (Put.s (Put.s (Put.s (Put.s Put.z)))))) (SXs.cons (SX.forP (IX.range1 (Bm.at b_range rfl) (PX.lenL (Bm.at b_len rfl) (BX.var (At.s (At.s At.z)) rfl (vb rfl)))) (GX.name (PutV.s (PutV.s (PutV.s (PutV.s (PutV.s (PutV.s PutV.any)))))) rfl (lob rfl rfl)) (SXs.post (SXs.cons (SX.iteP (PBw.pb (PB.and (PB.neD (Enc.opt EncN.int) (PX.ixR Nth.z rfl (fun _ _ => rfl) (BX.tlup (PX.ixL (fun _ _ => rfl) (BX.var (At.s (At.s At.z)) rfl (vb rfl)) (PX.var (At.s (At.s (At.s (At.s (At.s (At.s At.z)))))) rfl (vb rfl)))) PX.int) (PX.co PX.int Tc.some)) (PB.and1 (PBw.pb (PB.or (PB.isN NN.int (PX.var (At.s (At.s (At.s (At.s (At.s At.z))))) rfl (vb rfl))) (PB.or1 (PX.pb (PX.call c__law_wider rfl (PAs.cons (PX.ixR (Nth.s Nth.o) rfl (fun _ _ => rfl) (BX.tlup (PX.ixL (fun _ _ => rfl) (BX.var (At.s (At.s At.z)) rfl (vb rfl)) (PX.var (At.s (At.s (At.s (At.s (At.s (At.s At.z)))))) rfl (vb rfl)))) PX.int) (PAs.one (PX.ixR (Nth.s Nth.o) rfl (fun _ _ => rfl) (BX.tlup (PX.ixL (fun _ _ => rfl) (BX.var (At.s (At.s At.z)) rfl (vb rfl)) (PX.unw (PX.var (At.s (At.s (At.s (At.s (At.s At.z))))) rfl (vb rfl))))) PX.int)))) (by intros; rfl)))))))) (SXs.cons (SX.setP (lob rfl rfl) rfl (PX.co (PX.var (At.s (At.s (At.s (At.s (At.s (At.s At.z)))))) rfl (vb rfl)) Tc.some) (Put.s (Put.s (Put.s (Put.s (Put.s Put.z)))))) SXs.nil) SXs.nil) SXs.nil) (Wk.cons Cv.same (Wk.cons Cv.same (Wk.cons Cv.same (Wk.cons Cv.same (Wk.cons Cv.same (Wk.cons Cv.same (Wk.cons Cv.drop (Wk.cons Cv.same (Wk.cons Cv.same (Wk.cons Cv.same Wk.nil)))))))))))) (SXs.cons (SX.iteP (PBw.pb (PB.and (PB.notN NN.int (PX.var (At.s (At.s (At.s (At.s (At.s At.z))))) rfl (vb rfl))) (PB.and (PB.gt (PX.var (At.s (At.s (At.s At.z))) rfl (vb rfl)) PX.int) (PB.and1 (PB.notN NN.int (PX.ixR Nth.z rfl (fun _ _ => rfl) (BX.tlup (PX.ixL (fun _ _ => rfl) (BX.var (At.s (At.s At.z)) rfl (vb rfl)) (PX.unw (PX.var (At.s (At.s (At.s (At.s (At.s At.z))))) rfl (vb rfl))))) PX.int)))))) (SXs.post (SXs.cons (SX.setP (lob rfl rfl) rfl (PX.min2 (Bm.at b_min rfl) (PX.var (At.s (At.s (At.s At.z))) rfl (vb rfl)) (PX.unw (PX.ixR Nth.z rfl (fun _ _ => rfl) (BX.tlup (PX.ixL (fun _ _ => rfl) (BX.var (At.s (At.s At.z)) rfl (vb rfl)) (PX.unw (PX.var (At.s (At.s (At.s (At.s (At.s At.z))))) rfl (vb rfl))))) PX.int))) (Put.s (Put.s (Put.s (Put.s (Put.s (Put.s (Put.s Put.z)))))))) (SXs.cons (SX.setP (lob rfl rfl) rfl (PX.sub (PX.var (At.s (At.s (At.s At.z))) rfl (vb rfl)) (PX.var (At.s (At.s (At.s (At.s (At.s (At.s (At.s At.z))))))) rfl (vb rfl))) (Put.s (Put.s (Put.s Put.z)))) (SXs.cons (SX.setI (PX.ex (PX.tlup (PL.lup (PAs.cons (PX.co (PX.sub (PX.unw (PX.ixR Nth.z rfl (fun _ _ => rfl) (BX.tlup (PX.ixL (fun _ _ => rfl) (BX.var (At.s (At.s At.z)) rfl (vb rfl)) (PX.unw (PX.var (At.s (At.s (At.s (At.s (At.s At.z))))) rfl (vb rfl))))) PX.int)) (PX.var (At.s (At.s (At.s (At.s (At.s (At.s (At.s At.z))))))) rfl (vb rfl))) Tc.some) (PAs.one (PX.ixR (Nth.s Nth.o) rfl (fun _ _ => rfl) (BX.tlup (PX.ixL (fun _ _ => rfl) (BX.var (At.s (At.s At.z)) rfl (vb rfl)) (PX.unw (PX.var (At.s (At.s (At.s (At.s (At.s At.z))))) rfl (vb rfl))))) PX.int)))))) (Wr.s (Wr.s Wr.z)) rfl (vb rfl) (PX.unw (PX.var (At.s (At.s (At.s (At.s (At.s At.z))))) rfl (vb rfl)))) SXs.nil))) (Wk.cons Cv.same (Wk.cons Cv.same (Wk.cons Cv.same (Wk.cons Cv.same (Wk.cons Cv.same (Wk.cons Cv.same (Wk.cons Cv.same (Wk.cons Cv.drop (Wk.cons Cv.same (Wk.cons Cv.same Wk.nil))))))))))) SXs.nil) (SXs.cons (SX.iteP (PBw.pb (PB.and (PB.notN NN.int (PX.var (At.s (At.s (At.s (At.s (At.s At.z))))) rfl (vb rfl))) (PB.and (PB.gt (PX.var (At.s (At.s (At.s At.z))) rfl (vb rfl)) PX.int) (PB.and1 (PB.isN NN.int (PX.ixR Nth.z rfl (fun _ _ => rfl) (BX.tlup (PX.ixL (fun _ _ => rfl) (BX.var (At.s (At.s At.z)) rfl (vb rfl)) (PX.unw (PX.var (At.s (At.s (At.s (At.s (At.s At.z))))) rfl (vb rfl))))) PX.int)))))) (SXs.cons (SX.setP (lob rfl rfl) rfl PX.int (Put.s (Put.s (Put.s Put.z)))) SXs.nil) SXs.nil) SXs.nil)))) (Wk.cons Cv.same (Wk.cons Cv.same (Wk.cons Cv.same (Wk.cons Cv.same (Wk.cons Cv.drop (Wk.cons Cv.drop (Wk.cons Cv.same (Wk.cons Cv.same (Wk.cons Cv.same (Wk.cons Cv.same Wk.nil)))))))))))) (SXs.cons (SX.setP (lob rfl rfl) rfl PX.int (Put.s (Put.s (Put.s (Put.s (Put.s (Put.s (Put.s (Put.s Put.z))))))))) (SXs.cons (SX.pre (Wk.cons Cv.same (Wk.cons Cv.same (Wk.cons Cv.freeze (Wk.cons Cv.same (Wk.cons Cv.same (Wk.cons Cv.same (Wk.cons Cv.same (Wk.cons Cv.same (Wk.cons Cv.same (Wk.cons Cv.same Wk.nil)))))))))) (SX.forP (IX.list (PX.var (At.s (At.s At.z)) rfl (vb rfl))) (GX.name (PutV.s (PutV.s (PutV.s (PutV.s (PutV.s (PutV.s (PutV.s (PutV.s (PutV.s PutV.any))))))))) rfl (lob rfl rfl)) (SXs.post (SXs.cons (SX.iteP (PBw.pb (PB.or (PB.isN NN.int (PX.ixR Nth.z rfl (fun _ _ => rfl) (BX.tlup (PX.var (At.s (At.s (At.s (At.s (At.s (At.s (At.s (At.s (At.s At.z))))))))) rfl (vb rfl))) PX.int)) (PB.or1 (PBw.pb (PB.and (PB.gt (PX.unw (PX.ixR Nth.z rfl (fun _ _ => rfl) (BX.tlup (PX.var (At.s (At.s (At.s (At.s (At.s (At.s (At.s (At.s (At.s At.z))))))))) rfl (vb rfl))) PX.int)) PX.int) (PB.and1 (PB.isN NN.int (PX.ixR (Nth.s Nth.o) rfl (fun _ _ => rfl) (BX.tlup (PX.var (At.s (At.s (At.s (At.s (At.s (At.s (At.s (At.s (At.s At.z))))))))) rfl (vb rfl))) PX.int)))))))) (SX.one (SX.retP (PX.co PX.non Tc.none))) SXs.nil) (SXs.cons (SX.setP (lob rfl rfl) rfl (PX.add (PX.var (At.s (At.s (At.s (At.s (At.s (At.s (At.s (At.s At.z)))))))) rfl (vb rfl)) (PX.mul (PX.unw (PX.ixR Nth.z rfl (fun _ _ => rfl) (BX.tlup (PX.var (At.s (At.s (At.s (At.s (At.s (At.s (At.s (At.s (At.s At.z))))))))) rfl (vb rfl))) PX.int)) (PX.orO (PX.ixR (Nth.s Nth.o) rfl (fun _ _ => rfl) (BX.tlup (PX.var (At.s (At.s (At.s (At.s (At.s (At.s (At.s (At.s (At.s At.z))))))))) rfl (vb rfl))) PX.int) (PX.oneV PX.int)))) (Put.s (Put.s (Put.s (Put.s (Put.s (Put.s (Put.s (Put.s Put.z))))))))) SXs.nil)) (Wk.cons Cv.same (Wk.cons Cv.same (Wk.cons Cv.same (Wk.cons Cv.same (Wk.cons Cv.same (Wk.cons Cv.same (Wk.cons Cv.same (Wk.cons Cv.same (Wk.cons Cv.same (Wk.cons Cv.drop Wk.nil))))))))))))) (SX.one (SX.retP (PX.co (PX.var (At.s (At.s (At.s (At.s (At.s (At.s (At.s (At.s At.z)))))))) rfl (vb rfl)) Tc.some))))))))⟩
def m__law_right (u : (List ((Option Int) × Int × (Option Int))) × Int) : Rs (Option Int) := (w__law_right.1 (u.1, (u.2, ((), ((), ((), ((), ((), ((), ((), ((), ()))))))))))).bind (endM (fun _ => .bad))
theorem g__law_right {P : Program} {w : World} {K : PySem.W.Frag} {mg : Str → Option Value} {base : Heap} {ca : Nat → Addr} {f : Addr} {fd : FuncData} (T : TopFn K mg "_law_right" s__law_right ["rooms", "t"] f fd) (z_range : mg "range" = none) (z_len : mg "len" = none) (z_min : mg "min" = none) (e__law_wider : Ex P w K mg base "_law_wider" (spOf K ca (.cons (tO tI) (.one (tO tI))) tB m__law_wider) 1) : FnOk P w K mg base (L2.CX P w) 2 f fd ["rooms", "t"] (spOf K ca (.cons (tL (tTup (.cons (tO tI) (.cons tI (.one (tO tI)))))) (.one tI)) (tO tI) m__law_right) :=
  fn_mk (m := 8) (dn := fun _ => .bad) T.F sc__law_right (Ini.cons (Ini.one (Anys.s (Anys.s (Anys.s (Anys.s (Anys.s (Anys.s (Anys.s (Anys.s Anys.nil)))))))))) rfl rfl (fun E => w__law_right.2 P w K mg base ca 1 E ⟨z_range, rfl, by decide, by decide⟩ ⟨z_len, rfl, by decide, by decide⟩ ⟨z_min, rfl, by decide, by decide⟩ (e__law_wider.callee (by decide)))
theorem f__law_right {P : Program} {w : World} {K : PySem.W.Frag} {mg : Str → Option Value} {base : Heap} {ca : Nat → Addr} {f : Addr} {fd : FuncData} (T : TopFn K mg "_law_right" s__law_right ["rooms", "t"] f fd) (z_range : mg "range" = none) (z_len : mg "len" = none) (z_min : mg "min" = none) (e__law_wider : Ex P w K mg base "_law_wider" (spOf K ca (.cons (tO tI) (.one (tO tI))) tB m__law_wider) 1) : Ex P w K mg base "_law_right" (spOf K ca (.cons (tL (tTup (.cons (tO tI) (.cons tI (.one (tO tI)))))) (.one tI)) (tO tI) m__law_right) 2 :=
  ⟨f, fd, ["rooms", "t"], g__law_right T z_range z_len z_min e__law_wider, T.hm, T.F.kp, T.bd⟩
abbrev s__law_kept : Stmt := topS 25
abbrev N__law_kept : List Str := ["needs", "rooms", "t", "right", "left"]
theorem sc__law_kept : FnScope N__law_kept ["needs", "rooms", "t"] (defScope s__law_kept) := ⟨rfl, rfl, rfl, by decide +kernel, rfl, by decide +kernel, by decide +kernel⟩
def w__law_kept : {f : _ → Rs (Fl Bool _ Unit) // ∀ (P : Program) (w : World) (K : PySem.W.Frag) (mg : Str → Option Value) (base : Heap) (ca : Nat → Addr) (k : Nat) (E : XK) (c__law_right : Callee (ambOf P w K mg base N__law_kept s__law_kept k E) ca "_law_right" (.cons (tL (tTup (.cons (tO tI) (.cons tI (.one (tO tI)))))) (.one tI)) (tO tI) m__law_right) (c__law_left : Callee (ambOf P w K mg base N__law_kept s__law_kept k E) ca "_law_left" (.cons (tL (tTup (.cons (tO tI) (.cons tI (.one (tO tI)))))) (.one tI)) (tO tI) m__law_left), SXs (ambOf P w K mg base N__law_kept s__law_kept k E) ca (defBody s__law_kept) (.cons (.val (tL (tTup (.cons (tO tI) (.cons tI (.one (tO tI))))))) (.cons (.val (tL (tTup (.cons (tO tI) (.cons tI (.one (tO tI))))))) (.cons (.val tI) (.cons .any (.cons .any .nil))))) (.cons (.val (tL (tTup (.cons (tO tI) (.cons tI (.one (tO tI))))))) (.cons (.val (tL (tTup (.cons (tO tI) (.cons tI (.one (tO tI))))))) (.cons (.val tI) (.cons .any (.cons .any .nil))))) .nil (rVal K tB) f} :=
  ⟨_, fun P w K mg base ca k E c__law_right c__law_left =>
    (SXs.cons (SX.setP (lob rfl rfl) rfl (PX.call c__law_right rfl (PAs.cons (PX.var (At.s At.z) rfl (vb rfl)) (PAs.one (PX.var (At.s (At.s At.z)) rfl (vb rfl))))) (Put.s (Put.s (Put.s Put.z)))) (SXs.cons (SX.setP (lob rfl rfl) rfl (PX.call c__law_left rfl (PAs.cons (PX.var At.z rfl (vb rfl)) (PAs.one (PX.var (At.s (At.s At.z)) rfl (vb rfl))))) (Put.s (Put.s (Put.s (Put.s Put.z))))) (SX.one (SX.retP (PX.or (PX.isN NN.int (PX.var (At.s (At.s (At.s At.z))) rfl (vb rfl))) (PX.one (PX.and (PX.notN NN.int (PX.var (At.s (At.s (At.s (At.s At.z)))) rfl (vb rfl))) (PX.one (PX.le (PX.unw (PX.var (At.s (At.s (At.s (At.s At.z)))) rfl (vb rfl))) (PX.unw (PX.var (At.s (At.s (At.s At.z))) rfl (vb rfl))))))))))))⟩
def m__law_kept (u : (List ((Option Int) × Int × (Option Int))) × (List ((Option Int) × Int × (Option Int))) × Int) : Rs Bool := (w__law_kept.1 (u.1, (u.2.1, (u.2.2, ((), ((), ())))))).bind (endM (fun _ => .bad))
theorem g__law_kept {P : Program} {w : World} {K : PySem.W.Frag} {mg : Str → Option Value} {base : Heap} {ca : Nat → Addr} {f : Addr} {fd : FuncData} (T : TopFn K mg "_law_kept" s__law_kept ["needs", "rooms", "t"] f fd) (e__law_right : Ex P w K mg base "_law_right" (spOf K ca (.cons (tL (tTup (.cons (tO tI) (.cons tI (.one (tO tI)))))) (.one tI)) (tO tI) m__law_right) 2) (e__law_left : Ex P w K mg base "_law_left" (spOf K ca (.cons (tL (tTup (.cons (tO tI) (.cons tI (.one (tO tI)))))) (.one tI)) (tO tI) m__law_left) 1) : FnOk P w K mg base (L2.CX P w) 3 f fd ["needs", "rooms", "t"] (spOf K ca (.cons (tL (tTup (.cons (tO tI) (.cons tI (.one (tO tI)))))) (.cons (tL (tTup (.cons (tO tI) (.cons tI (.one (tO tI)))))) (.one tI))) tB m__law_kept) :=
  fn_mk (m := 2) (dn := fun _ => .bad) T.F sc__law_kept (Ini.cons (Ini.cons (Ini.one (Anys.s (Anys.s Anys.nil))))) rfl rfl (fun E => w__law_kept.2 P w K mg base ca 2 E (e__law_right.callee (by decide)) (e__law_left.callee (by decide)))
theorem f__law_kept {P : Program} {w : World} {K : PySem.W.Frag} {mg : Str → Option Value} {base : Heap} {ca : Nat → Addr} {f : Addr} {fd : FuncData} (T : TopFn K mg "_law_kept" s__law_kept ["needs", "rooms", "t"] f fd) (e__law_right : Ex P w K mg base "_law_right" (spOf K ca (.cons (tL (tTup (.cons (tO tI) (.cons tI (.one (tO tI)))))) (.one tI)) (tO tI) m__law_right) 2) (e__law_left : Ex P w K mg base "_law_left" (spOf K ca (.cons (tL (tTup (.cons (tO tI) (.cons tI (.one (tO tI)))))) (.one tI)) (tO tI) m__law_left) 1) : Ex P w K mg base "_law_kept" (spOf K ca (.cons (tL (tTup (.cons (tO tI) (.cons tI (.one (tO tI)))))) (.cons (tL (tTup (.cons (tO tI) (.cons tI (.one (tO tI)))))) (.one tI))) tB m__law_kept) 3 :=
  ⟨f, fd, ["needs", "rooms", "t"], g__law_kept T e__law_right e__law_left, T.hm, T.F.kp, T.bd⟩
abbrev s__law_short : Stmt := topS 26
abbrev N__law_short : List Str := ["needs", "rooms", "top", "t", "sort"]
theorem sc__law_short : FnScope N__law_short ["needs", "rooms"] (defScope s__law_short) := ⟨rfl, rfl, rfl, by decide +kernel, rfl, by decide +kernel, by decide +kernel⟩
def w__law_short : {f : _ → Rs (Fl (Option Int) _ Unit) // ∀ (P : Program) (w : World) (K : PySem.W.Frag) (mg : Str → Option Value) (base : Heap) (ca : Nat → Addr) (k : Nat) (E : XK) (b_max : Bm mg "max" (.builtin "max")) (b_range : Bm mg "range" (.type "range")) (c__law_kept : Callee (ambOf P w K mg base N__law_short s__law_short k E) ca "_law_kept" (.cons (tL (tTup (.cons (tO tI) (.cons tI (.one (tO tI)))))) (.cons (tL (tTup (.cons (tO tI) (.cons tI (.one (tO tI)))))) (.one tI))) tB m__law_kept), SXs (ambOf P w K mg base N__law_short s__law_short k E) ca (defBody s__law_short) (.cons (.val (tL (tTup (.cons (tO tI) (.cons tI (.one (tO tI))))))) (.cons (.val (tL (tTup (.cons (tO tI) (.cons tI (.one (tO tI))))))) (.cons .any (.cons .any (.cons .any .nil))))) (.cons (.val (tL (tTup (.cons (tO tI) (.cons tI (.one (tO tI))))))) (.cons (.val (tL (tTup (.cons (tO tI) (.cons tI (.one (tO tI))))))) (.cons .any (.cons .any (.cons .any .nil))))) .nil (rVal K (tO tI)) f} :=
  ⟨_, fun P w K mg base ca k E b_max b_range c__law_kept =>
    (SXs.cons (SX.setP (lob rfl rfl) rfl (PX.maxL (Bm.at b_max rfl) (PL.bx (PL.cat (PL.bx (PL.lst (τ := tI) (PIs.cons PX.int PIs.nil))) (PL.bx (PL.lc [("sort", 4)] (IX.ib (IX.list (PX.var At.z rfl (vb rfl)))) rfl (Wp.cons Wp.nil (Put.s (Put.s (Put.s (Put.s Put.z))))) (GX.name (PutV.s (PutV.s (PutV.s (PutV.s PutV.any)))) rfl (lobb rfl)) (by decide) (PTz.one (PB.neD (Enc.opt EncN.int) (PX.ixP Nth.z rfl (fun _ _ => rfl) (PX.var (At.s (At.s (At.s (At.s At.z)))) rfl (vbb rfl)) PX.int) (PX.co PX.int Tc.some))) (PX.ixP (Nth.s Nth.z) rfl (fun _ _ => rfl) (PX.var (At.s (At.s (At.s (At.s At.z)))) rfl (vbb rfl)) PX.int)))))) (Put.s (Put.s Put.z))) (SXs.cons (SX.forP (IX.range1 (Bm.at b_range rfl) (PX.var (At.s (At.s At.z)) rfl (vb rfl))) (GX.name (PutV.s (PutV.s (PutV.s PutV.any))) rfl (lob rfl rfl)) (SXs.post (SXs.cons (SX.iteP (PB.not (PX.pb (PX.call c__law_kept rfl (PAs.cons (PX.var At.z rfl (vb rfl)) (PAs.cons (PX.var (At.s At.z) rfl (vb rfl)) (PAs.one (PX.var (At.s (At.s (At.s At.z))) rfl (vb rfl)))))) (by intros; rfl))) (SX.one (SX.retP (PX.co (PX.var (At.s (At.s (At.s At.z))) rfl (vb rfl)) Tc.some))) SXs.nil) SXs.nil) (Wk.cons Cv.same (Wk.cons Cv.same (Wk.cons Cv.same (Wk.cons Cv.drop (Wk.cons Cv.same Wk.nil))))))) (SX.one (SX.retP (PX.co PX.non Tc.none)))))⟩
def m__law_short (u : (List ((Option Int) × Int × (Option Int))) × (List ((Option Int) × Int × (Option Int)))) : Rs (Option Int) := (w__law_short.1 (u.1, (u.2, ((), ((), ((), ())))))).bind (endM (fun _ => .bad))
theorem g__law_short {P : Program} {w : World} {K : PySem.W.Frag} {mg : Str → Option Value} {base : Heap} {ca : Nat → Addr} {f : Addr} {fd : FuncData} (T : TopFn K mg "_law_short" s__law_short ["needs", "rooms"] f fd) (z_max : mg "max" = none) (z_range : mg "range" = none) (e__law_kept : Ex P w K mg base "_law_kept" (spOf K ca (.cons (tL (tTup (.cons (tO tI) (.cons tI (.one (tO tI)))))) (.cons (tL (tTup (.cons (tO tI) (.cons tI (.one (tO tI)))))) (.one tI))) tB m__law_kept) 3) : FnOk P w K mg base (L2.CX P w) 4 f fd ["needs", "rooms"] (spOf K ca (.cons (tL (tTup (.cons (tO tI) (.cons tI (.one (tO tI)))))) (.one (tL (tTup (.cons (tO tI) (.cons tI (.one (tO tI)))))))) (tO tI) m__law_short) :=
  fn_mk (m := 3) (dn := fun _ => .bad) T.F sc__law_short (Ini.cons (Ini.one (Anys.s (Anys.s (Anys.s Anys.nil))))) rfl rfl (fun E => w__law_short.2 P w K mg base ca 3 E ⟨z_max, rfl, by decide, by decide⟩ ⟨z_range, rfl, by decide, by decide⟩ (e__law_kept.callee (by decide)))
theorem f__law_short {P : Program} {w : World} {K : PySem.W.Frag} {mg : Str → Option Value} {base : Heap} {ca : Nat → Addr} {f : Addr} {fd : FuncData} (T : TopFn K mg "_law_short" s__law_short ["needs", "rooms"] f fd) (z_max : mg "max" = none) (z_range : mg "range" = none) (e__law_kept : Ex P w K mg base "_law_kept" (spOf K ca (.cons (tL (tTup (.cons (tO tI) (.cons tI (.one (tO tI)))))) (.cons (tL (tTup (.cons (tO tI) (.cons tI (.one (tO tI)))))) (.one tI))) tB m__law_kept) 3) : Ex P w K mg base "_law_short" (spOf K ca (.cons (tL (tTup (.cons (tO tI) (.cons tI (.one (tO tI)))))) (.one (tL (tTup (.cons (tO tI) (.cons tI (.one (tO tI)))))))) (tO tI) m__law_short) 4 :=
  ⟨f, fd, ["needs", "rooms"], g__law_short T z_max z_range e__law_kept, T.hm, T.F.kp, T.bd⟩
abbrev s__law_columns : Stmt := topS 27
abbrev N__law_columns : List Str := ["web", "width", "y", "row"]
theorem sc__law_columns : FnScope N__law_columns ["web", "width"] (defScope s__law_columns) := ⟨rfl, rfl, rfl, by decide +kernel, rfl, by decide +kernel, by decide +kernel⟩
def w__law_columns : {f : _ → Rs (Fl (List (Option Int)) _ Unit) // ∀ (P : Program) (w : World) (K : PySem.W.Frag) (mg : Str → Option Value) (base : Heap) (ca : Nat → Addr) (k : Nat) (E : XK) (b_range : Bm mg "range" (.type "range")) (b_len : Bm mg "len" (.builtin "len")), SXs (ambOf P w K mg base N__law_columns s__law_columns k E) ca (defBody s__law_columns) (.cons (.val (tL (tL tI))) (.cons (.val tI) (.cons .any (.cons .any .nil)))) (.cons (.val (tL (tL tI))) (.cons (.val tI) (.cons .any (.cons .any .nil)))) .nil (rLst K (cL (tO tI))) f} :=
  ⟨_, fun P w K mg base ca k E b_range b_len =>
    (SX.one (SX.retL (PL.lc [("y", 2)] (IX.ib (IX.range1 (Bm.at b_range rfl) (PX.var (At.s At.z) rfl (vb rfl)))) rfl (Wp.cons Wp.nil (Put.s (Put.s Put.z))) (GX.name (PutV.s (PutV.s PutV.any)) rfl (lobb rfl)) (by decide) PTz.nil (PX.co (PX.lenL (Bm.at b_len (gl_blk rfl)) (PL.bx (PL.lc [("row", 3)] (IX.ib (IX.list (PX.var At.z rfl (vbb rfl)))) rfl (Wp.cons Wp.nil (Put.s (Put.s (Put.s Put.z)))) (GX.name (PutV.s (PutV.s (PutV.s PutV.any))) rfl (lobb rfl)) (by decide) (PTz.one (PB.inL (EncN.int).toEnc (PX.var (At.s (At.s At.z)) rfl (vbb rfl)) (BX.tl (PX.var (At.s (At.s (At.s At.z))) rfl (vbb rfl))))) (PX.var (At.s (At.s (At.s At.z))) rfl (vbb rfl))))) Tc.some))))⟩
def m__law_columns (u : (List (List Int)) × Int) : Rs (List (Option Int)) := (w__law_columns.1 (u.1, (u.2, ((), ((), ()))))).bind (endM (fun _ => .bad))
theorem g__law_columns {P : Program} {w : World} {K : PySem.W.Frag} {mg : Str → Option Value} {base : Heap} {ca : Nat → Addr} {f : Addr} {fd : FuncData} (T : TopFn K mg "_law_columns" s__law_columns ["web", "width"] f fd) (z_range : mg "range" = none) (z_len : mg "len" = none) : FnOk P w K mg base (L2.CX P w) 1 f fd ["web", "width"] (spL K ca (.cons (tL (tL tI)) (.one tI)) (cL (tO tI)) m__law_columns) :=
  fnL_mk (m := 2) T.F sc__law_columns (Ini.cons (Ini.one (Anys.s (Anys.s Anys.nil)))) rfl rfl (fun E => w__law_columns.2 P w K mg base ca 0 E ⟨z_range, rfl, by decide, by decide⟩ ⟨z_len, rfl, by decide, by decide⟩)
theorem f__law_columns {P : Program} {w : World} {K : PySem.W.Frag} {mg : Str → Option Value} {base : Heap} {ca : Nat → Addr} {f : Addr} {fd : FuncData} (T : TopFn K mg "_law_columns" s__law_columns ["web", "width"] f fd) (z_range : mg "range" = none) (z_len : mg "len" = none) : Ex P w K mg base "_law_columns" (spL K ca (.cons (tL (tL tI)) (.one tI)) (cL (tO tI)) m__law_columns) 1 :=
  ⟨f, fd, ["web", "width"], g__law_columns T z_range z_len, T.hm, T.F.kp, T.bd⟩
def w__law_columnsT : {f : _ → Rs (Fl (List Int) _ Unit) // ∀ (P : Program) (w : World) (K : PySem.W.Frag) (mg : Str → Option Value) (base : Heap) (ca : Nat → Addr) (k : Nat) (E : XK) (b_range : Bm mg "range" (.type "range")) (b_len : Bm mg "len" (.builtin "len")), SXs (ambOf P w K mg base N__law_columns s__law_columns k E) ca (defBody s__law_columns) (.cons (.val (tT (tT tI))) (.cons (.val tI) (.cons .any (.cons .any .nil)))) (.cons (.val (tT (tT tI))) (.cons (.val tI) (.cons .any (.cons .any .nil)))) .nil (rVal K (tL tI)) f} :=
  ⟨_, fun P w K mg base ca k E b_range b_len =>
    (SX.one (SX.retP (PX.tl (PL.lc [("y", 2)] (IX.ib (IX.range1 (Bm.at b_range rfl) (PX.var (At.s At.z) rfl (vb rfl)))) rfl (Wp.cons Wp.nil (Put.s (Put.s Put.z))) (GX.name (PutV.s (PutV.s PutV.any)) rfl (lobb rfl)) (by decide) PTz.nil (PX.lenL (Bm.at b_len (gl_blk rfl)) (PL.bx (PL.lc [("row", 3)] (IX.ib (IX.tup (PX.var At.z rfl (vbb rfl)))) rfl (Wp.cons Wp.nil (Put.s (Put.s (Put.s Put.z)))) (GX.name (PutV.s (PutV.s (PutV.s PutV.any))) rfl (lobb rfl)) (by decide) (PTz.one (PB.inT (PX.var (At.s (At.s At.z)) rfl (vbb rfl)) (PX.var (At.s (At.s (At.s At.z))) rfl (vbb rfl)))) (PX.var (At.s (At.s (At.s At.z))) rfl (vbb rfl)))))))))⟩
def m__law_columnsT (u : (List (List Int)) × Int) : Rs (List Int) := (w__law_columnsT.1 (u.1, (u.2, ((), ((), ()))))).bind (endM (fun _ => .bad))
theorem g__law_columnsT {P : Program} {w : World} {K : PySem.W.Frag} {mg : Str → Option Value} {base : Heap} {ca : Nat → Addr} {f : Addr} {fd : FuncData} (T : TopFn K mg "_law_columns" s__law_columns ["web", "width"] f fd) (z_range : mg "range" = none) (z_len : mg "len" = none) : FnOk P w K mg base (L2.CX P w) 1 f fd ["web", "width"] (spOf K ca (.cons (tT (tT tI)) (.one tI)) (tL tI) m__law_columnsT) :=
  fn_mk (m := 2) (dn := fun _ => .bad) T.F sc__law_columns (Ini.cons (Ini.one (Anys.s (Anys.s Anys.nil)))) rfl rfl (fun E => w__law_columnsT.2 P w K mg base ca 0 E ⟨z_range, rfl, by decide, by decide⟩ ⟨z_len, rfl, by decide, by decide⟩)
theorem f__law_columnsT {P : Program} {w : World} {K : PySem.W.Frag} {mg : Str → Option Value} {base : Heap} {ca : Nat → Addr} {f : Addr} {fd : FuncData} (T : TopFn K mg "_law_columns" s__law_columns ["web", "width"] f fd) (z_range : mg "range" = none) (z_len : mg "len" = none) : Ex P w K mg base "_law_columns" (spOf K ca (.cons (tT (tT tI)) (.one tI)) (tL tI) m__law_columnsT) 1 :=
  ⟨f, fd, ["web", "width"], g__law_columnsT T z_range z_len, T.hm, T.F.kp, T.bd⟩
abbrev s__law_sides : Stmt := topS 28
abbrev N__law_sides : List Str := ["pool", "style", "many", "width", "least", "needs", "rooms", "y", "web", "x", "place", "row"]
theorem sc__law_sides : FnScope N__law_sides ["pool"] (defScope s__law_sides) := ⟨rfl, rfl, rfl, by decide +kernel, rfl, by decide +kernel, by decide +kernel⟩
def w__law_sides : {f : _ → Rs (Fl (((List Int) × (List (Option Int))) × ((List Int) × Int × Int × Int)) _ Unit) // ∀ (P : Program) (w : World) (K : PySem.W.Frag) (mg : Str → Option Value) (base : Heap) (ca : Nat → Addr) (k : Nat) (E : XK) (q : Addr) (b_range : Bm mg "range" (.type "range")) (b_int : Bm mg "int" (.type "int")) (b_len : Bm mg "len" (.builtin "len")) (b_max : Bm mg "max" (.builtin "max")) (c__law_draw : CalleeIO (ambOf P w K mg base N__law_sides s__law_sides k E) ca "_law_draw" (cR (.cons (tL tI) (.cons tI (.cons tI (.one tI))))) (.one tI) tI m__law_draw) (c__law_pick : CalleeIO (ambOf P w K mg base N__law_sides s__law_sides k E) ca "_law_pick" (cR (.cons (tL tI) (.cons tI (.cons tI (.one tI))))) (.one (tL (tO tI))) (tO tI) m__law_pick) (c__law_columns : CalleeL (ambOf P w K mg base N__law_sides s__law_sides k E) ca "_law_columns" (.cons (tL (tL tI)) (.one tI)) (cL (tO tI)) m__law_columns), SXs (ambOf P w K mg base N__law_sides s__law_sides k E) ca (defBody s__law_sides) (.cons (.own (some q) (cR (.cons (tL tI) (.cons tI (.cons tI (.one tI)))))) (.cons .any (.cons .any (.cons .any (.cons .any (.cons .any (.cons .any (.cons .any (.cons .any (.cons .any (.cons .any (.cons .any .nil)))))))))))) (.cons (.own (some q) (cR (.cons (tL tI) (.cons tI (.cons tI (.one tI)))))) (.cons .any (.cons .any (.cons .any (.cons .any (.cons .any (.cons .any (.cons .any (.cons .any (.cons .any (.cons .any (.cons .any .nil)))))))))))) .nil (rIO K q (cR (.cons (tL tI) (.cons tI (.cons tI (.one tI))))) (tLup (.cons (tL tI) (.one (tL (tO tI)))))) f} :=
  ⟨_, fun P w K mg base ca k E q b_range b_int b_len b_max c__law_draw c__law_pick c__law_columns =>
    (SXs.cons (SX.set (k := 0) (lob rfl rfl) rfl (EX.callIO c__law_draw rfl Wr.z rfl (vb rfl) (PAs.one PX.int)) (Put.s Put.z)) (SXs.cons (SX.set (k := 0) (lob rfl rfl) rfl (EX.callIO c__law_draw rfl Wr.z rfl (vb rfl) (PAs.one PX.int)) (Put.s (Put.s Put.z))) (SXs.cons (SX.set (k := 0) (lob rfl rfl) rfl (EX.callIO c__law_draw rfl Wr.z rfl (vb rfl) (PAs.one PX.int)) (Put.s (Put.s (Put.s Put.z)))) (SXs.cons (SX.ite (EBw.eb (EB.and (PB.eb (PB.eqI (PX.var (At.s At.z) rfl (vb rfl)) PX.int)) (EB.and1 (EB.eqI (EX.callIO c__law_draw rfl Wr.z rfl (vb rfl) (PAs.one PX.int)) (PX.ex PX.int))))) (SXs.cons (SX.set (k := 0) (lob rfl rfl) rfl (EX.add (PX.ex PX.int) (EX.callIO c__law_draw rfl Wr.z rfl (vb rfl) (PAs.one PX.int))) (Put.s (Put.s Put.z))) (SXs.cons (SX.set (k := 0) (lob rfl rfl) rfl (EX.add (PX.ex PX.int) (EX.callIO c__law_draw rfl Wr.z rfl (vb rfl) (PAs.one PX.int))) (Put.s (Put.s (Put.s Put.z)))) (SXs.cons (SX.set (k := 0) (lob rfl rfl) rfl (EX.add (PX.ex PX.int) (EX.callIO c__law_draw rfl Wr.z rfl (vb rfl) (PAs.one PX.int))) (Put.s (Put.s (Put.s (Put.s Put.z))))) (SXs.cons (SX.setPc [("x", 9)] rfl rfl rfl rfl rfl (IX.ib (IX.range1 (Bm.at b_range rfl) (PX.var (At.s (At.s At.z)) rfl (vb rfl)))) rfl (Wp.cons Wp.nil (Put.s (Put.s (Put.s (Put.s (Put.s (Put.s (Put.s (Put.s (Put.s Put.z)))))))))) (GX.name (PutV.s (PutV.s (PutV.s (PutV.s (PutV.s (PutV.s (PutV.s (PutV.s (PutV.s PutV.any))))))))) rfl (lobb rfl)) (by decide) PTz.nil (PX.var (At.s (At.s (At.s (At.s At.z)))) rfl (vbb rfl)) (Put.s (Put.s (Put.s (Put.s (Put.s Put.z)))))) (SXs.cons (SX.setPc [("y", 7)] rfl rfl rfl rfl rfl (IX.ib (IX.range1 (Bm.at b_range rfl) (PX.var (At.s (At.s (At.s At.z))) rfl (vb rfl)))) rfl (Wp.cons Wp.nil (Put.s (Put.s (Put.s (Put.s (Put.s (Put.s (Put.s Put.z)))))))) (GX.name (PutV.s (PutV.s (PutV.s (PutV.s (PutV.s (PutV.s (PutV.s PutV.any))))))) rfl (lobb rfl)) (by decide) PTz.nil (PX.co (PX.fdiv (PX.mul (PX.var (At.s (At.s (At.s (At.s At.z)))) rfl (vbb rfl)) (PX.var (At.s (At.s At.z)) rfl (vbb rfl))) (PX.var (At.s (At.s (At.s At.z))) rfl (vbb rfl))) Tc.some) (Put.s (Put.s (Put.s (Put.s (Put.s (Put.s Put.z))))))) (SXs.cons (SX.forP (IX.range1 (Bm.at b_range rfl) (PX.mod (PX.toInt (Bm.at b_int rfl) (PX.mul (PX.var (At.s (At.s (At.s (At.s At.z)))) rfl (vb rfl)) (PX.var (At.s (At.s At.z)) rfl (vb rfl)))) (PX.var (At.s (At.s (At.s At.z))) rfl (vb rfl)))) (GX.name (PutV.s (PutV.s (PutV.s (PutV.s (PutV.s (PutV.s (PutV.s PutV.any))))))) rfl (lob rfl rfl)) (SXs.post (SXs.cons (SX.setI (PX.ex (PX.co (PX.add (PX.unw (PX.ixL (fun _ _ => rfl) (BX.var (At.s (At.s (At.s (At.s (At.s (At.s At.z)))))) rfl (vb rfl)) (PX.var (At.s (At.s (At.s (At.s (At.s (At.s (At.s At.z))))))) rfl (vb rfl)))) PX.int) Tc.some)) (Wr.s (Wr.s (Wr.s (Wr.s (Wr.s (Wr.s Wr.z)))))) rfl (vb rfl) (PX.var (At.s (At.s (At.s (At.s (At.s (At.s (At.s At.z))))))) rfl (vb rfl))) SXs.nil) (Wk.cons Cv.same (Wk.cons Cv.same (Wk.cons Cv.same (Wk.cons Cv.same (Wk.cons Cv.same (Wk.cons Cv.same (Wk.cons Cv.same (Wk.cons Cv.drop (Wk.cons Cv.same (Wk.cons Cv.same (Wk.cons Cv.same (Wk.cons Cv.same Wk.nil)))))))))))))) (SX.one (SX.pre (Wk.cons Cv.same (Wk.cons Cv.same (Wk.cons Cv.same (Wk.cons Cv.same (Wk.cons Cv.same (Wk.cons Cv.freeze (Wk.cons Cv.freeze (Wk.cons Cv.same (Wk.cons Cv.same (Wk.cons Cv.same (Wk.cons Cv.same (Wk.cons Cv.same Wk.nil)))))))))))) (SX.retIOA (PX.ex (PX.tlup (PL.lup (PAs.cons (PX.var (At.s (At.s (At.s (At.s (At.s At.z))))) rfl (vb rfl)) (PAs.one (PX.var (At.s (At.s (At.s (At.s (At.s (At.s At.z)))))) rfl (vb rfl))))))) At.z))))))))) SXs.nil) (SXs.cons (SX.iteP (PB.eqI (PX.var (At.s At.z) rfl (vb rfl)) PX.int) (SXs.cons (SX.setEc [("x", 9)] rfl rfl rfl rfl rfl (IX.ei (IX.range1 (Bm.at b_range rfl) (PX.var (At.s (At.s At.z)) rfl (vb rfl)))) rfl (GX.name (PutV.s (PutV.s (PutV.s (PutV.s (PutV.s (PutV.s (PutV.s (PutV.s (PutV.s PutV.any))))))))) rfl (lobb rfl)) ETz.nil (EX.callIO (calleeIO_blk c__law_draw) (gl_blk rfl) Wr.z rfl (vbb rfl) (PAs.one PX.int)) (Wp.cons Wp.nil (Put.s (Put.s (Put.s (Put.s (Put.s (Put.s (Put.s (Put.s (Put.s Put.z)))))))))) (any_one (AnyAt.s (AnyAt.s (AnyAt.s (AnyAt.s (AnyAt.s (AnyAt.s (AnyAt.s (AnyAt.s (AnyAt.s AnyAt.z)))))))))) (by decide) (Put.s (Put.s (Put.s (Put.s (Put.s Put.z)))))) (SXs.cons (SX.setEc [("y", 7)] rfl rfl rfl rfl rfl (IX.ei (IX.range1 (Bm.at b_range rfl) (PX.var (At.s (At.s (At.s At.z))) rfl (vb rfl)))) rfl (GX.name (PutV.s (PutV.s (PutV.s (PutV.s (PutV.s (PutV.s (PutV.s PutV.any))))))) rfl (lobb rfl)) ETz.nil (EX.callIO (calleeIO_blk c__law_pick) (gl_blk rfl) Wr.z rfl (vbb rfl) (PAs.one (PX.tl (PL.lst (τ := (tO tI)) (PIs.cons (PX.co PX.int Tc.some) (PIs.cons (PX.co PX.int Tc.some) (PIs.cons (PX.co PX.int Tc.some) (PIs.cons (PX.co PX.int Tc.some) (PIs.cons (PX.co PX.int Tc.some) (PIs.cons (PX.co PX.non Tc.none) PIs.nil)))))))))) (Wp.cons Wp.nil (Put.s (Put.s (Put.s (Put.s (Put.s (Put.s (Put.s Put.z)))))))) (any_one (AnyAt.s (AnyAt.s (AnyAt.s (AnyAt.s (AnyAt.s (AnyAt.s (AnyAt.s AnyAt.z)))))))) (by decide) (Put.s (Put.s (Put.s (Put.s (Put.s (Put.s Put.z))))))) (SX.one (SX.pre (Wk.cons Cv.same (Wk.cons Cv.same (Wk.cons Cv.same (Wk.cons Cv.same (Wk.cons Cv.same (Wk.cons Cv.freeze (Wk.cons Cv.freeze (Wk.cons Cv.same (Wk.cons Cv.same (Wk.cons Cv.same (Wk.cons Cv.same (Wk.cons Cv.same Wk.nil)))))))))))) (SX.retIOA (PX.ex (PX.tlup (PL.lup (PAs.cons (PX.var (At.s (At.s (At.s (At.s (At.s At.z))))) rfl (vb rfl)) (PAs.one (PX.var (At.s (At.s (At.s (At.s (At.s (At.s At.z)))))) rfl (vb rfl))))))) At.z))))) SXs.nil) (SXs.cons (SX.setOP (lob rfl rfl) rfl (PL.lst (τ := (tL tI)) PIs.nil) (Put.s (Put.s (Put.s (Put.s (Put.s (Put.s (Put.s (Put.s Put.z))))))))) (SXs.cons (SX.forP (IX.range1 (Bm.at b_range rfl) (PX.var (At.s (At.s At.z)) rfl (vb rfl))) (GX.name (PutV.s (PutV.s (PutV.s (PutV.s (PutV.s (PutV.s (PutV.s (PutV.s (PutV.s PutV.any))))))))) rfl (lob rfl rfl)) (SXs.post (SXs.cons (SX.expr (EX.append (Wr.s (Wr.s (Wr.s (Wr.s (Wr.s (Wr.s (Wr.s (Wr.s Wr.z)))))))) rfl (vb rfl) (EX.tl (EL.lc [("y", 7)] (IX.ei (IX.range1 (Bm.at b_range rfl) (PX.var (At.s (At.s (At.s At.z))) rfl (vb rfl)))) rfl (GX.name (PutV.s (PutV.s (PutV.s (PutV.s (PutV.s (PutV.s (PutV.s PutV.any))))))) rfl (lobb rfl)) (ETz.one (EB.eqI (EX.callIO (calleeIO_blk c__law_draw) (gl_blk rfl) Wr.z rfl (vbb rfl) (PAs.one PX.int)) (PX.ex PX.int))) (PX.ex (PX.var (At.s (At.s (At.s (At.s (At.s (At.s (At.s At.z))))))) rfl (vbb rfl))) (Wp.cons Wp.nil (Put.s (Put.s (Put.s (Put.s (Put.s (Put.s (Put.s Put.z)))))))) (any_one (AnyAt.s (AnyAt.s (AnyAt.s (AnyAt.s (AnyAt.s (AnyAt.s (AnyAt.s AnyAt.z)))))))) (by decide))) ⟨_, _, (Wr.s (Wr.s (Wr.s (Wr.s (Wr.s (Wr.s (Wr.s (Wr.s Wr.z))))))))⟩)) SXs.nil) (Wk.cons Cv.same (Wk.cons Cv.same (Wk.cons Cv.same (Wk.cons Cv.same (Wk.cons Cv.same (Wk.cons Cv.same (Wk.cons Cv.same (Wk.cons Cv.same (Wk.cons Cv.same (Wk.cons Cv.drop (Wk.cons Cv.same (Wk.cons Cv.same Wk.nil)))))))))))))) (SXs.cons (SX.setPc [("row", 11)] rfl rfl rfl rfl rfl (IB.list (BX.var (At.s (At.s (At.s (At.s (At.s (At.s (At.s (At.s At.z)))))))) rfl (vb rfl))) rfl (Wp.cons Wp.nil (Put.s (Put.s (Put.s (Put.s (Put.s (Put.s (Put.s (Put.s (Put.s (Put.s (Put.s Put.z)))))))))))) (GX.name (PutV.s (PutV.s (PutV.s (PutV.s (PutV.s (PutV.s (PutV.s (PutV.s (PutV.s (PutV.s (PutV.s PutV.any))))))))))) rfl (lobb rfl)) (by decide) PTz.nil (PX.lenL (Bm.at b_len (gl_blk rfl)) (BX.tl (PX.var (At.s (At.s (At.s (At.s (At.s (At.s (At.s (At.s (At.s (At.s (At.s At.z))))))))))) rfl (vbb rfl)))) (Put.s (Put.s (Put.s (Put.s (Put.s Put.z)))))) (SXs.cons (SX.pre (Wk.cons Cv.same (Wk.cons Cv.same (Wk.cons Cv.same (Wk.cons Cv.same (Wk.cons Cv.same (Wk.cons Cv.same (Wk.cons Cv.same (Wk.cons Cv.same (Wk.cons Cv.freeze (Wk.cons Cv.same (Wk.cons Cv.same (Wk.cons Cv.same Wk.nil)))))))))))) (SX.setOP (lob rfl rfl) rfl (PL.call c__law_columns rfl (PAs.cons (PX.var (At.s (At.s (At.s (At.s (At.s (At.s (At.s (At.s At.z)))))))) rfl (vb rfl)) (PAs.one (PX.var (At.s (At.s (At.s At.z))) rfl (vb rfl))))) (Put.s (Put.s (Put.s (Put.s (Put.s (Put.s Put.z)))))))) (SXs.cons (SX.forP (IX.range1 (Bm.at b_range rfl) (PX.var (At.s (At.s (At.s At.z))) rfl (vb rfl))) (GX.name (PutV.s (PutV.s (PutV.s (PutV.s (PutV.s (PutV.s (PutV.s PutV.any))))))) rfl (lob rfl rfl)) (SXs.post (SXs.cons (SX.setI (EX.callIO c__law_pick rfl Wr.z rfl (vb rfl) (PAs.one (PX.tl (PL.lst (τ := (tO tI)) (PIs.cons (PX.ixL (fun _ _ => rfl) (BX.var (At.s (At.s (At.s (At.s (At.s (At.s At.z)))))) rfl (vb rfl)) (PX.var (At.s (At.s (At.s (At.s (At.s (At.s (At.s At.z))))))) rfl (vb rfl))) (PIs.cons (PX.ixL (fun _ _ => rfl) (BX.var (At.s (At.s (At.s (At.s (At.s (At.s At.z)))))) rfl (vb rfl)) (PX.var (At.s (At.s (At.s (At.s (At.s (At.s (At.s At.z))))))) rfl (vb rfl))) (PIs.cons (PX.co (PX.add (PX.unw (PX.ixL (fun _ _ => rfl) (BX.var (At.s (At.s (At.s (At.s (At.s (At.s At.z)))))) rfl (vb rfl)) (PX.var (At.s (At.s (At.s (At.s (At.s (At.s (At.s At.z))))))) rfl (vb rfl)))) PX.int) Tc.some) (PIs.cons (PX.co PX.non Tc.none) PIs.nil)))))))) (Wr.s (Wr.s (Wr.s (Wr.s (Wr.s (Wr.s Wr.z)))))) rfl (vb rfl) (PX.var (At.s (At.s (At.s (At.s (At.s (At.s (At.s At.z))))))) rfl (vb rfl))) SXs.nil) (Wk.cons Cv.same (Wk.cons Cv.same (Wk.cons Cv.same (Wk.cons Cv.same (Wk.cons Cv.same (Wk.cons Cv.same (Wk.cons Cv.same (Wk.cons Cv.drop (Wk.cons Cv.same (Wk.cons Cv.same (Wk.cons Cv.same (Wk.cons Cv.same Wk.nil)))))))))))))) (SXs.cons (SX.iteP (PBw.pb (PB.and (PB.eqI (PX.var (At.s At.z) rfl (vb rfl)) PX.int) (PB.and1 (PB.gt (PX.var (At.s (At.s At.z)) rfl (vb rfl)) PX.int)))) (SXs.post (SXs.cons (SX.set (k := 0) (lob rfl rfl) rfl (EX.callIO c__law_draw rfl Wr.z rfl (vb rfl) (PAs.one (PX.var (At.s (At.s At.z)) rfl (vb rfl)))) (Put.s (Put.s (Put.s (Put.s (Put.s (Put.s (Put.s (Put.s (Put.s (Put.s Put.z))))))))))) (SXs.cons (SX.setI (PX.ex (PX.add (PX.ixL (fun _ _ => rfl) (BX.var (At.s (At.s (At.s (At.s (At.s At.z))))) rfl (vb rfl)) (PX.var (At.s (At.s (At.s (At.s (At.s (At.s (At.s (At.s (At.s (At.s At.z)))))))))) rfl (vb rfl))) PX.int)) (Wr.s (Wr.s (Wr.s (Wr.s (Wr.s Wr.z))))) rfl (vb rfl) (PX.var (At.s (At.s (At.s (At.s (At.s (At.s (At.s (At.s (At.s (At.s At.z)))))))))) rfl (vb rfl))) SXs.nil)) (Wk.cons Cv.same (Wk.cons Cv.same (Wk.cons Cv.same (Wk.cons Cv.same (Wk.cons Cv.same (Wk.cons Cv.same (Wk.cons Cv.same (Wk.cons Cv.same (Wk.cons Cv.same (Wk.cons Cv.same (Wk.cons Cv.drop (Wk.cons Cv.same Wk.nil))))))))))))) SXs.nil) (SXs.cons (SX.iteP (PBw.pb (PB.and (PB.eqI (PX.var (At.s At.z) rfl (vb rfl)) PX.int) (PB.and1 (PB.gt (PX.var (At.s (At.s (At.s At.z))) rfl (vb rfl)) PX.int)))) (SXs.post (SXs.cons (SX.set (k := 0) (lob rfl rfl) rfl (EX.callIO c__law_draw rfl Wr.z rfl (vb rfl) (PAs.one (PX.var (At.s (At.s (At.s At.z))) rfl (vb rfl)))) (Put.s (Put.s (Put.s (Put.s (Put.s (Put.s (Put.s (Put.s (Put.s (Put.s Put.z))))))))))) (SXs.cons (SX.setI (PX.ex (PX.co (PX.max2 (Bm.at b_max rfl) PX.int (PX.sub (PX.orO (PX.ixL (fun _ _ => rfl) (BX.var (At.s (At.s (At.s (At.s (At.s (At.s At.z)))))) rfl (vb rfl)) (PX.var (At.s (At.s (At.s (At.s (At.s (At.s (At.s (At.s (At.s (At.s At.z)))))))))) rfl (vb rfl))) (PX.oneV PX.int)) PX.int)) Tc.some)) (Wr.s (Wr.s (Wr.s (Wr.s (Wr.s (Wr.s Wr.z)))))) rfl (vb rfl) (PX.var (At.s (At.s (At.s (At.s (At.s (At.s (At.s (At.s (At.s (At.s At.z)))))))))) rfl (vb rfl))) SXs.nil)) (Wk.cons Cv.same (Wk.cons Cv.same (Wk.cons Cv.same (Wk.cons Cv.same (Wk.cons Cv.same (Wk.cons Cv.same (Wk.cons Cv.same (Wk.cons Cv.same (Wk.cons Cv.same (Wk.cons Cv.same (Wk.cons Cv.drop (Wk.cons Cv.same Wk.nil))))))))))))) SXs.nil) (SX.one (SX.pre (Wk.cons Cv.same (Wk.cons Cv.same (Wk.cons Cv.same (Wk.cons Cv.same (Wk.cons Cv.same (Wk.cons Cv.freeze (Wk.cons Cv.freeze (Wk.cons Cv.same (Wk.cons Cv.same (Wk.cons Cv.same (Wk.cons Cv.same (Wk.cons Cv.same Wk.nil)))))))))))) (SX.retIOA (PX.ex (PX.tlup (PL.lup (PAs.cons (PX.var (At.s (At.s (At.s (At.s (At.s At.z))))) rfl (vb rfl)) (PAs.one (PX.var (At.s (At.s (At.s (At.s (At.s (At.s At.z)))))) rfl (vb rfl))))))) At.z)))))))))))))))⟩
def m__law_sides (u : ((List Int) × Int × Int × Int) × Unit) : Rs (((List Int) × (List (Option Int))) × ((List Int) × Int × Int × Int)) := (w__law_sides.1 (u.1, ((), ((), ((), ((), ((), ((), ((), ((), ((), ((), ((), ()))))))))))))).bind (endM (fun _ => .bad))
theorem g__law_sides {P : Program} {w : World} {K : PySem.W.Frag} {mg : Str → Option Value} {base : Heap} {ca : Nat → Addr} {f : Addr} {fd : FuncData} (T : TopFn K mg "_law_sides" s__law_sides ["pool"] f fd) (z_range : mg "range" = none) (z_int : mg "int" = none) (z_len : mg "len" = none) (z_max : mg "max" = none) (e__law_draw : Ex P w K mg base "_law_draw" (spIO K ca (cR (.cons (tL tI) (.cons tI (.cons tI (.one tI))))) (.one tI) tI m__law_draw) 2) (e__law_pick : Ex P w K mg base "_law_pick" (spIO K ca (cR (.cons (tL tI) (.cons tI (.cons tI (.one tI))))) (.one (tL (tO tI))) (tO tI) m__law_pick) 3) (e__law_columns : Ex P w K mg base "_law_columns" (spL K ca (.cons (tL (tL tI)) (.one tI)) (cL (tO tI)) m__law_columns) 1) : FnOk P w K mg base (L2.CX P w) 4 f fd ["pool"] (spIO K ca (cR (.cons (tL tI) (.cons tI (.cons tI (.one tI))))) .nil (tLup (.cons (tL tI) (.one (tL (tO tI))))) m__law_sides) :=
  fnIO_mk (m := 11) T.F sc__law_sides (fun q => IniO.mk' (Ini.nil (Anys.s (Anys.s (Anys.s (Anys.s (Anys.s (Anys.s (Anys.s (Anys.s (Anys.s (Anys.s (Anys.s Anys.nil))))))))))))) rfl rfl (fun E q => w__law_sides.2 P w K mg base ca 3 E q ⟨z_range, rfl, by decide, by decide⟩ ⟨z_int, rfl, by decide, by decide⟩ ⟨z_len, rfl, by decide, by decide⟩ ⟨z_max, rfl, by decide, by decide⟩ (e__law_draw.calleeIO (by decide)) (e__law_pick.calleeIO (by decide)) (e__law_columns.calleeL (by decide)))
theorem f__law_sides {P : Program} {w : World} {K : PySem.W.Frag} {mg : Str → Option Value} {base : Heap} {ca : Nat → Addr} {f : Addr} {fd : FuncData} (T : TopFn K mg "_law_sides" s__law_sides ["pool"] f fd) (z_range : mg "range" = none) (z_int : mg "int" = none) (z_len : mg "len" = none) (z_max : mg "max" = none) (e__law_draw : Ex P w K mg base "_law_draw" (spIO K ca (cR (.cons (tL tI) (.cons tI (.cons tI (.one tI))))) (.one tI) tI m__law_draw) 2) (e__law_pick : Ex P w K mg base "_law_pick" (spIO K ca (cR (.cons (tL tI) (.cons tI (.cons tI (.one tI))))) (.one (tL (tO tI))) (tO tI) m__law_pick) 3) (e__law_columns : Ex P w K mg base "_law_columns" (spL K ca (.cons (tL (tL tI)) (.one tI)) (cL (tO tI)) m__law_columns) 1) : Ex P w K mg base "_law_sides" (spIO K ca (cR (.cons (tL tI) (.cons tI (.cons tI (.one tI))))) .nil (tLup (.cons (tL tI) (.one (tL (tO tI))))) m__law_sides) 4 :=
  ⟨f, fd, ["pool"], g__law_sides T z_range z_int z_len z_max e__law_draw e__law_pick e__law_columns, T.hm, T.F.kp, T.bd⟩
abbrev s__law_judged : Stmt := topS 29
abbrev N__law_judged : List Str := ["web", "needs", "rooms", "x", "numbers", "y"]
theorem sc__law_judged : FnScope N__law_judged ["web", "needs", "rooms"] (defScope s__law_judged) := ⟨rfl, rfl, rfl, by decide +kernel, rfl, by decide +kernel, by decide +kernel⟩
def w__law_judged : {f : _ → Rs (Fl Bool _ Unit) // ∀ (P : Program) (w : World) (K : PySem.W.Frag) (mg : Str → Option Value) (base : Heap) (ca : Nat → Addr) (k : Nat) (E : XK) (b_isinstance : Bm mg "isinstance" (.builtin "isinstance")) (b_tuple : Bm mg "tuple" (.type "tuple")) (b_len : Bm mg "len" (.builtin "len")) (b_range : Bm mg "range" (.type "range")) (b_list : Bm mg "list" (.type "list")) (b_any : Bm mg "any" (.builtin "any")) (b_bool : Bm mg "bool" (.type "bool")) (b_all : Bm mg "all" (.builtin "all")) (c__law_columnsT : Callee (ambOf P w K mg base N__law_judged s__law_judged k E) ca "_law_columns" (.cons (tT (tT tI)) (.one tI)) (tL tI) m__law_columnsT), SXs (ambOf P w K mg base N__law_judged s__law_judged k E) ca (defBody s__law_judged) (.cons (.val (tT (tT tI))) (.cons (.val (tL tI)) (.cons (.val (tL (tO tI))) (.cons .any (.cons .any (.cons .any .nil)))))) (.cons (.val (tT (tT tI))) (.cons (.val (tL tI)) (.cons (.val (tL (tO tI))) (.cons .any (.cons .any (.cons .any .nil)))))) .nil (rVal K tB) f} :=
  ⟨_, fun P w K mg base ca k E b_isinstance b_tuple b_len b_range b_list b_any b_bool b_all c__law_columnsT =>
    (SXs.cons (SX.iteP (PBw.pb (PB.or (PB.not (PX.pb (PX.isi (k := true) (Bm.at b_isinstance rfl) (Bm.at b_tuple rfl) IsTy.tpl (PX.var At.z rfl (vb rfl))) (by intros; rfl))) (PB.or1 (PB.neI (PX.lenT (Bm.at b_len rfl) (PX.var At.z rfl (vb rfl))) (PX.lenL (Bm.at b_len rfl) (BX.tl (PX.var (At.s At.z) rfl (vb rfl)))))))) (SX.one (SX.retP PX.bl)) SXs.nil) (SXs.cons (SX.forP (IX.range1 (Bm.at b_range rfl) (PX.lenL (Bm.at b_len rfl) (BX.tl (PX.var (At.s At.z) rfl (vb rfl))))) (GX.name (PutV.s (PutV.s (PutV.s PutV.any))) rfl (lob rfl rfl)) (SXs.post (SXs.cons (SX.iteP (PBw.pb (PB.or (PB.not (PX.pb (PX.isi (k := true) (Bm.at b_isinstance rfl) (Bm.at b_tuple rfl) IsTy.tpl (PX.ixT (fun _ _ => rfl) (PX.var At.z rfl (vb rfl)) (PX.var (At.s (At.s (At.s At.z))) rfl (vb rfl)))) (by intros; rfl))) (PB.or1 (PB.neI (PX.lenT (Bm.at b_len rfl) (PX.ixT (fun _ _ => rfl) (PX.var At.z rfl (vb rfl)) (PX.var (At.s (At.s (At.s At.z))) rfl (vb rfl)))) (PX.ixL (fun _ _ => rfl) (BX.tl (PX.var (At.s At.z) rfl (vb rfl))) (PX.var (At.s (At.s (At.s At.z))) rfl (vb rfl))))))) (SX.one (SX.retP PX.bl)) SXs.nil) (SXs.cons (SX.iteP (PB.neD ((EncN.lst (EncN.int).toEnc)).toEnc (PX.tl (PL.listT (Bm.at b_list rfl) (PX.ixT (fun _ _ => rfl) (PX.var At.z rfl (vb rfl)) (PX.var (At.s (At.s (At.s At.z))) rfl (vb rfl))))) (PX.tl (PL.lc [("y", 5)] (IX.ib (IX.range1 (Bm.at b_range rfl) (PX.lenL (Bm.at b_len rfl) (BX.tl (PX.var (At.s (At.s At.z)) rfl (vb rfl)))))) rfl (Wp.cons Wp.nil (Put.s (Put.s (Put.s (Put.s (Put.s Put.z)))))) (GX.name (PutV.s (PutV.s (PutV.s (PutV.s (PutV.s PutV.any))))) rfl (lobb rfl)) (by decide) (PTz.one (PB.inT (PX.var (At.s (At.s (At.s (At.s (At.s At.z))))) rfl (vbb rfl)) (PX.ixT (fun _ _ => rfl) (PX.var At.z rfl (vbb rfl)) (PX.var (At.s (At.s (At.s At.z))) rfl (vbb rfl))))) (PX.var (At.s (At.s (At.s (At.s (At.s At.z))))) rfl (vbb rfl))))) (SX.one (SX.retP PX.bl)) SXs.nil) (SXs.cons (SX.iteP (PX.pb (PX.any (Bm.at b_any rfl) (PL.bx (PL.lc [("y", 5)] (IX.ib (IX.tup (PX.ixT (fun _ _ => rfl) (PX.var At.z rfl (vb rfl)) (PX.var (At.s (At.s (At.s At.z))) rfl (vb rfl))))) rfl (Wp.cons Wp.nil (Put.s (Put.s (Put.s (Put.s (Put.s Put.z)))))) (GX.name (PutV.s (PutV.s (PutV.s (PutV.s (PutV.s PutV.any))))) rfl (lobb rfl)) (by decide) PTz.nil (PX.isi (k := false) (Bm.at b_isinstance (gl_blk rfl)) (Bm.at b_bool (gl_blk rfl)) IsTy.int (PX.var (At.s (At.s (At.s (At.s (At.s At.z))))) rfl (vbb rfl)))))) (by intros; rfl)) (SX.one (SX.retP PX.bl)) SXs.nil) SXs.nil))) (Wk.cons Cv.same (Wk.cons Cv.same (Wk.cons Cv.same (Wk.cons Cv.drop (Wk.cons Cv.same (Wk.cons Cv.same Wk.nil)))))))) (SXs.cons (SX.setP (lob rfl rfl) rfl (PX.call c__law_columnsT rfl (PAs.cons (PX.var At.z rfl (vb rfl)) (PAs.one (PX.lenL (Bm.at b_len rfl) (BX.tl (PX.var (At.s (At.s At.z)) rfl (vb rfl))))))) (Put.s (Put.s (Put.s (Put.s Put.z))))) (SX.one (SX.retP (PX.all (Bm.at b_all rfl) (PL.bx (PL.lc [("y", 5)] (IX.ib (IX.range1 (Bm.at b_range rfl) (PX.lenL (Bm.at b_len rfl) (BX.tl (PX.var (At.s (At.s At.z)) rfl (vb rfl)))))) rfl (Wp.cons Wp.nil (Put.s (Put.s (Put.s (Put.s (Put.s Put.z)))))) (GX.name (PutV.s (PutV.s (PutV.s (PutV.s (PutV.s PutV.any))))) rfl (lobb rfl)) (by decide) PTz.nil (PX.or (PX.isN NN.int (PX.ixL (fun _ _ => rfl) (BX.tl (PX.var (At.s (At.s At.z)) rfl (vbb rfl))) (PX.var (At.s (At.s (At.s (At.s (At.s At.z))))) rfl (vbb rfl)))) (PX.one (PX.le (PX.ixL (fun _ _ => rfl) (BX.tl (PX.var (At.s (At.s (At.s (At.s At.z)))) rfl (vbb rfl))) (PX.var (At.s (At.s (At.s (At.s (At.s At.z))))) rfl (vbb rfl))) (PX.unw (PX.ixL (fun _ _ => rfl) (BX.tl (PX.var (At.s (At.s At.z)) rfl (vbb rfl))) (PX.var (At.s (At.s (At.s (At.s (At.s At.z))))) rfl (vbb rfl)))))))))))))))⟩
def m__law_judged (u : (List (List Int)) × (List Int) × (List (Option Int))) : Rs Bool := (w__law_judged.1 (u.1, (u.2.1, (u.2.2, ((), ((), ((), ()))))))).bind (endM (fun _ => .bad))
theorem g__law_judged {P : Program} {w : World} {K : PySem.W.Frag} {mg : Str → Option Value} {base : Heap} {ca : Nat → Addr} {f : Addr} {fd : FuncData} (T : TopFn K mg "_law_judged" s__law_judged ["web", "needs", "rooms"] f fd) (z_isinstance : mg "isinstance" = none) (z_tuple : mg "tuple" = none) (z_len : mg "len" = none) (z_range : mg "range" = none) (z_list : mg "list" = none) (z_any : mg "any" = none) (z_bool : mg "bool" = none) (z_all : mg "all" = none) (e__law_columnsT : Ex P w K mg base "_law_columns" (spOf K ca (.cons (tT (tT tI)) (.one tI)) (tL tI) m__law_columnsT) 1) : FnOk P w K mg base (L2.CX P w) 2 f fd ["web", "needs", "rooms"] (spOf K ca (.cons (tT (tT tI)) (.cons (tL tI) (.one (tL (tO tI))))) tB m__law_judged) :=
  fn_mk (m := 3) (dn := fun _ => .bad) T.F sc__law_judged (Ini.cons (Ini.cons (Ini.one (Anys.s (Anys.s (Anys.s Anys.nil)))))) rfl rfl (fun E => w__law_judged.2 P w K mg base ca 1 E ⟨z_isinstance, rfl, by decide, by decide⟩ ⟨z_tuple, rfl, by decide, by decide⟩ ⟨z_len, rfl, by decide, by decide⟩ ⟨z_range, rfl, by decide, by decide⟩ ⟨z_list, rfl, by decide, by decide⟩ ⟨z_any, rfl, by decide, by decide⟩ ⟨z_bool, rfl, by decide, by decide⟩ ⟨z_all, rfl, by decide, by decide⟩ (e__law_columnsT.callee (by decide)))
theorem f__law_judged {P : Program} {w : World} {K : PySem.W.Frag} {mg : Str → Option Value} {base : Heap} {ca : Nat → Addr} {f : Addr} {fd : FuncData} (T : TopFn K mg "_law_judged" s__law_judged ["web", "needs", "rooms"] f fd) (z_isinstance : mg "isinstance" = none) (z_tuple : mg "tuple" = none) (z_len : mg "len" = none) (z_range : mg "range" = none) (z_list : mg "list" = none) (z_any : mg "any" = none) (z_bool : mg "bool" = none) (z_all : mg "all" = none) (e__law_columnsT : Ex P w K mg base "_law_columns" (spOf K ca (.cons (tT (tT tI)) (.one tI)) (tL tI) m__law_columnsT) 1) : Ex P w K mg base "_law_judged" (spOf K ca (.cons (tT (tT tI)) (.cons (tL tI) (.one (tL (tO tI))))) tB m__law_judged) 2 :=
  ⟨f, fd, ["web", "needs", "rooms"], g__law_judged T z_isinstance z_tuple z_len z_range z_list z_any z_bool z_all e__law_columnsT, T.hm, T.F.kp, T.bd⟩
abbrev s__law_grouped : Stmt := topS 30
abbrev N__law_grouped : List Str := ["numbers", "place", "rows", "number", "many", "other"]
theorem sc__law_grouped : FnScope N__law_grouped ["numbers", "place"] (defScope s__law_grouped) := ⟨rfl, rfl, rfl, by decide +kernel, rfl, by decide +kernel, by decide +kernel⟩
def w__law_grouped : {f : _ → Rs (Fl (List (Int × (Option Int) × (Option Int))) _ Unit) // ∀ (P : Program) (w : World) (K : PySem.W.Frag) (mg : Str → Option Value) (base : Heap) (ca : Nat → Addr) (k : Nat) (E : XK) (b_len : Bm mg "len" (.builtin "len")), SXs (ambOf P w K mg base N__law_grouped s__law_grouped k E) ca (defBody s__law_grouped) (.cons (.val (tL (tO tI))) (.cons (.val tI) (.cons .any (.cons .any (.cons .any (.cons .any .nil)))))) (.cons (.val (tL (tO tI))) (.cons (.val tI) (.cons .any (.cons .any (.cons .any (.cons .any .nil)))))) .nil (rVal K (tL (tTup (.cons tI (.cons (tO tI) (.one (tO tI))))))) f} :=
  ⟨_, fun P w K mg base ca k E b_len =>
    (SXs.cons (SX.setOP (lob rfl rfl) rfl (PL.lst (τ := (tTup (.cons tI (.cons (tO tI) (.one (tO tI)))))) (PIs.cons (PX.tup (PAs.cons PX.int (PAs.cons (PX.co PX.int Tc.some) (PAs.one (PX.co PX.int Tc.some))))) PIs.nil)) (Put.s (Put.s Put.z))) (SXs.cons (SX.forP (IX.list (PX.tl (PL.lst (τ := (tO tI)) (PIs.cons (PX.co PX.int Tc.some) (PIs.cons (PX.co PX.int Tc.some) (PIs.cons (PX.co PX.int Tc.some) (PIs.cons (PX.co PX.int Tc.some) (PIs.cons (PX.co PX.int Tc.some) (PIs.cons (PX.co PX.int Tc.some) (PIs.cons (PX.co PX.int Tc.some) (PIs.cons (PX.co PX.int Tc.some) (PIs.cons (PX.co PX.int Tc.some) (PIs.cons (PX.co PX.int Tc.some) (PIs.cons (PX.co PX.int Tc.some) (PIs.cons (PX.co PX.int Tc.some) (PIs.cons (PX.co PX.int Tc.some) (PIs.cons (PX.co PX.non Tc.none) PIs.nil))))))))))))))))) (GX.name (PutV.s (PutV.s (PutV.s PutV.any))) rfl (lob rfl rfl)) (SXs.post (SXs.cons (SX.setP (lob rfl rfl) rfl (PX.lenL (Bm.at b_len rfl) (PL.bx (PL.lc [("other", 5)] (IX.ib (IX.list (PX.var At.z rfl (vb rfl)))) rfl (Wp.cons Wp.nil (Put.s (Put.s (Put.s (Put.s (Put.s Put.z)))))) (GX.name (PutV.s (PutV.s (PutV.s (PutV.s (PutV.s PutV.any))))) rfl (lobb rfl)) (by decide) (PTz.one (PB.eqD (Enc.opt EncN.int) (PX.var (At.s (At.s (At.s (At.s (At.s At.z))))) rfl (vbb rfl)) (PX.var (At.s (At.s (At.s At.z))) rfl (vbb rfl)))) (PX.var (At.s (At.s (At.s (At.s (At.s At.z))))) rfl (vbb rfl))))) (Put.s (Put.s (Put.s (Put.s Put.z))))) (SXs.cons (SX.iteP (PB.eqI (PX.var (At.s At.z) rfl (vb rfl)) PX.int) (SXs.cons (SX.expr (EX.append (Wr.s (Wr.s Wr.z)) rfl (vb rfl) (PX.ex (PX.tup (PAs.cons (PX.var (At.s (At.s (At.s (At.s At.z)))) rfl (vb rfl)) (PAs.cons (PX.var (At.s (At.s (At.s At.z))) rfl (vb rfl)) (PAs.one (PX.var (At.s (At.s (At.s At.z))) rfl (vb rfl))))))) ⟨_, _, (Wr.s (Wr.s Wr.z))⟩)) SXs.nil) (SXs.cons (SX.expr (EX.append (Wr.s (Wr.s Wr.z)) rfl (vb rfl) (PX.ex (PX.tup (PAs.cons (PX.var (At.s (At.s (At.s (At.s At.z)))) rfl (vb rfl)) (PAs.cons (PX.co PX.int Tc.some) (PAs.one (PX.var (At.s (At.s (At.s At.z))) rfl (vb rfl))))))) ⟨_, _, (Wr.s (Wr.s Wr.z))⟩)) SXs.nil)) SXs.nil)) (Wk.cons Cv.same (Wk.cons Cv.same (Wk.cons Cv.same (Wk.cons Cv.drop (Wk.cons Cv.drop (Wk.cons Cv.same Wk.nil)))))))) (SX.one (SX.retP (PX.tl (PL.rev (BX.var (At.s (At.s At.z)) rfl (vb rfl))))))))⟩
def m__law_grouped (u : (List (Option Int)) × Int) : Rs (List (Int × (Option Int) × (Option Int))) := (w__law_grouped.1 (u.1, (u.2, ((), ((), ((), ((), ()))))))).bind (endM (fun _ => .bad))
theorem g__law_grouped {P : Program} {w : World} {K : PySem.W.Frag} {mg : Str → Option Value} {base : Heap} {ca : Nat → Addr} {f : Addr} {fd : FuncData} (T : TopFn K mg "_law_grouped" s__law_grouped ["numbers", "place"] f fd) (z_len : mg "len" = none) : FnOk P w K mg base (L2.CX P w) 1 f fd ["numbers", "place"] (spOf K ca (.cons (tL (tO tI)) (.one tI)) (tL (tTup (.cons tI (.cons (tO tI) (.one (tO tI)))))) m__law_grouped) :=
  fn_mk (m := 4) (dn := fun _ => .bad) T.F sc__law_grouped (Ini.cons (Ini.one (Anys.s (Anys.s (Anys.s (Anys.s Anys.nil)))))) rfl rfl (fun E => w__law_grouped.2 P w K mg base ca 0 E ⟨z_len, rfl, by decide, by decide⟩)
theorem f__law_grouped {P : Program} {w : World} {K : PySem.W.Frag} {mg : Str → Option Value} {base : Heap} {ca : Nat → Addr} {f : Addr} {fd : FuncData} (T : TopFn K mg "_law_grouped" s__law_grouped ["numbers", "place"] f fd) (z_len : mg "len" = none) : Ex P w K mg base "_law_grouped" (spOf K ca (.cons (tL (tO tI)) (.one tI)) (tL (tTup (.cons tI (.cons (tO tI) (.one (tO tI)))))) m__law_grouped) 1 :=
  ⟨f, fd, ["numbers", "place"], g__law_grouped T z_len, T.hm, T.F.kp, T.bd⟩
abbrev s__law_summed : Stmt := topS 31
abbrev N__law_summed : List Str := ["needs", "rooms", "top", "t", "left", "right", "told"]
theorem sc__law_summed : FnScope N__law_summed ["needs", "rooms", "top"] (defScope s__law_summed) := ⟨rfl, rfl, rfl, by decide +kernel, rfl, by decide +kernel, by decide +kernel⟩
def w__law_summed : {f : _ → Rs (Fl Bool _ Unit) // ∀ (P : Program) (w : World) (K : PySem.W.Frag) (mg : Str → Option Value) (base : Heap) (ca : Nat → Addr) (k : Nat) (E : XK) (b_range : Bm mg "range" (.type "range")) (b_isinstance : Bm mg "isinstance" (.builtin "isinstance")) (b_tuple : Bm mg "tuple" (.type "tuple")) (b_len : Bm mg "len" (.builtin "len")) (c__law_left : Callee (ambOf P w K mg base N__law_summed s__law_summed k E) ca "_law_left" (.cons (tL (tTup (.cons (tO tI) (.cons tI (.one (tO tI)))))) (.one tI)) (tO tI) m__law_left) (c__law_right : Callee (ambOf P w K mg base N__law_summed s__law_summed k E) ca "_law_right" (.cons (tL (tTup (.cons (tO tI) (.cons tI (.one (tO tI)))))) (.one tI)) (tO tI) m__law_right) (c_sums : Callee (ambOf P w K mg base N__law_summed s__law_summed k E) ca "sums" (.cons (tL (tTup (.cons (tO tI) (.cons tI (.one (tO tI)))))) (.cons (tL (tTup (.cons (tO tI) (.cons tI (.one (tO tI)))))) (.one tI))) (tTup (.cons (tO tI) (.one (tO tI)))) m_sums) (c_kept : Callee (ambOf P w K mg base N__law_summed s__law_summed k E) ca "kept" (.cons (tO tI) (.one (tO tI))) tB m_kept) (c__law_kept : Callee (ambOf P w K mg base N__law_summed s__law_summed k E) ca "_law_kept" (.cons (tL (tTup (.cons (tO tI) (.cons tI (.one (tO tI)))))) (.cons (tL (tTup (.cons (tO tI) (.cons tI (.one (tO tI)))))) (.one tI))) tB m__law_kept), SXs (ambOf P w K mg base N__law_summed s__law_summed k E) ca (defBody s__law_summed) (.cons (.val (tL (tTup (.cons (tO tI) (.cons tI (.one (tO tI))))))) (.cons (.val (tL (tTup (.cons (tO tI) (.cons tI (.one (tO tI))))))) (.cons (.val tI) (.cons .any (.cons .any (.cons .any (.cons .any .nil))))))) (.cons (.val (tL (tTup (.cons (tO tI) (.cons tI (.one (tO tI))))))) (.cons (.val (tL (tTup (.cons (tO tI) (.cons tI (.one (tO tI))))))) (.cons (.val tI) (.cons .any (.cons .any (.cons .any (.cons .any .nil))))))) .nil (rVal K tB) f} :=
  ⟨_, fun P w K mg base ca k E b_range b_isinstance b_tuple b_len c__law_left c__law_right c_sums c_kept c__law_kept =>
    (SXs.cons (SX.forP (IX.range1 (Bm.at b_range rfl) (PX.add (PX.var (At.s (At.s At.z)) rfl (vb rfl)) PX.int)) (GX.name (PutV.s (PutV.s (PutV.s PutV.any))) rfl (lob rfl rfl)) (SXs.post (SXs.cons (SX.setP (lob rfl rfl) rfl (PX.call c__law_left rfl (PAs.cons (PX.var At.z rfl (vb rfl)) (PAs.one (PX.var (At.s (At.s (At.s At.z))) rfl (vb rfl))))) (Put.s (Put.s (Put.s (Put.s Put.z))))) (SXs.cons (SX.setP (lob rfl rfl) rfl (PX.call c__law_right rfl (PAs.cons (PX.var (At.s At.z) rfl (vb rfl)) (PAs.one (PX.var (At.s (At.s (At.s At.z))) rfl (vb rfl))))) (Put.s (Put.s (Put.s (Put.s (Put.s Put.z)))))) (SXs.cons (SX.setP (lob rfl rfl) rfl (PX.call c_sums rfl (PAs.cons (PX.var At.z rfl (vb rfl)) (PAs.cons (PX.var (At.s At.z) rfl (vb rfl)) (PAs.one (PX.var (At.s (At.s (At.s At.z))) rfl (vb rfl)))))) (Put.s (Put.s (Put.s (Put.s (Put.s (Put.s Put.z))))))) (SXs.cons (SX.iteP (PBw.pb (PB.or (PB.not (PX.pb (PX.isi (k := true) (Bm.at b_isinstance rfl) (Bm.at b_tuple rfl) IsTy.tup (PX.var (At.s (At.s (At.s (At.s (At.s (At.s At.z)))))) rfl (vb rfl))) (by intros; rfl))) (PB.or (PB.neI (PX.lenP (Bm.at b_len rfl) (PX.var (At.s (At.s (At.s (At.s (At.s (At.s At.z)))))) rfl (vb rfl))) PX.int) (PB.or (PB.neD (Enc.opt EncN.int) (PX.ixP Nth.z rfl (fun _ _ => rfl) (PX.var (At.s (At.s (At.s (At.s (At.s (At.s At.z)))))) rfl (vb rfl)) PX.int) (PX.var (At.s (At.s (At.s (At.s At.z)))) rfl (vb rfl))) (PB.or1 (PB.neD (Enc.opt EncN.int) (PX.ixP (Nth.s Nth.o) rfl (fun _ _ => rfl) (PX.var (At.s (At.s (At.s (At.s (At.s (At.s At.z)))))) rfl (vb rfl)) PX.int) (PX.var (At.s (At.s (At.s (At.s (At.s At.z))))) rfl (vb rfl)))))))) (SX.one (SX.retP PX.bl)) SXs.nil) (SXs.cons (SX.iteP (PBw.pb (PB.and (PB.notB rfl (PX.call c_kept rfl (PAs.cons (PX.ixP Nth.z rfl (fun _ _ => rfl) (PX.var (At.s (At.s (At.s (At.s (At.s (At.s At.z)))))) rfl (vb rfl)) PX.int) (PAs.one (PX.ixP (Nth.s Nth.o) rfl (fun _ _ => rfl) (PX.var (At.s (At.s (At.s (At.s (At.s (At.s At.z)))))) rfl (vb rfl)) PX.int)))) PX.bl) (PB.and1 (PX.pb (PX.call c__law_kept rfl (PAs.cons (PX.var At.z rfl (vb rfl)) (PAs.cons (PX.var (At.s At.z) rfl (vb rfl)) (PAs.one (PX.var (At.s (At.s (At.s At.z))) rfl (vb rfl)))))) (by intros; rfl))))) (SX.one (SX.retP PX.bl)) SXs.nil) (SXs.cons (SX.iteP (PBw.pb (PB.and (PB.notB rfl (PX.call c_kept rfl (PAs.cons (PX.var (At.s (At.s (At.s (At.s At.z)))) rfl (vb rfl)) (PAs.one (PX.var (At.s (At.s (At.s (At.s (At.s At.z))))) rfl (vb rfl))))) PX.bl) (PB.and1 (PB.not (PX.pb (PX.call c__law_kept rfl (PAs.cons (PX.var At.z rfl (vb rfl)) (PAs.cons (PX.var (At.s At.z) rfl (vb rfl)) (PAs.one (PX.var (At.s (At.s (At.s At.z))) rfl (vb rfl)))))) (by intros; rfl)))))) (SX.one (SX.retP PX.bl)) SXs.nil) SXs.nil)))))) (Wk.cons Cv.same (Wk.cons Cv.same (Wk.cons Cv.same (Wk.cons Cv.drop (Wk.cons Cv.drop (Wk.cons Cv.drop (Wk.cons Cv.drop Wk.nil))))))))) (SX.one (SX.retP PX.bl)))⟩
def m__law_summed (u : (List ((Option Int) × Int × (Option Int))) × (List ((Option Int) × Int × (Option Int))) × Int) : Rs Bool := (w__law_summed.1 (u.1, (u.2.1, (u.2.2, ((), ((), ((), ((), ())))))))).bind (endM (fun _ => .bad))
theorem g__law_summed {P : Program} {w : World} {K : PySem.W.Frag} {mg : Str → Option Value} {base : Heap} {ca : Nat → Addr} {f : Addr} {fd : FuncData} (T : TopFn K mg "_law_summed" s__law_summed ["needs", "rooms", "top"] f fd) (z_range : mg "range" = none) (z_isinstance : mg "isinstance" = none) (z_tuple : mg "tuple" = none) (z_len : mg "len" = none) (e__law_left : Ex P w K mg base "_law_left" (spOf K ca (.cons (tL (tTup (.cons (tO tI) (.cons tI (.one (tO tI)))))) (.one tI)) (tO tI) m__law_left) 1) (e__law_right : Ex P w K mg base "_law_right" (spOf K ca (.cons (tL (tTup (.cons (tO tI) (.cons tI (.one (tO tI)))))) (.one tI)) (tO tI) m__law_right) 2) (e_sums : Ex P w K mg base "sums" (spOf K ca (.cons (tL (tTup (.cons (tO tI) (.cons tI (.one (tO tI)))))) (.cons (tL (tTup (.cons (tO tI) (.cons tI (.one (tO tI)))))) (.one tI))) (tTup (.cons (tO tI) (.one (tO tI)))) m_sums) 4) (e_kept : Ex P w K mg base "kept" (spOf K ca (.cons (tO tI) (.one (tO tI))) tB m_kept) 1) (e__law_kept : Ex P w K mg base "_law_kept" (spOf K ca (.cons (tL (tTup (.cons (tO tI) (.cons tI (.one (tO tI)))))) (.cons (tL (tTup (.cons (tO tI) (.cons tI (.one (tO tI)))))) (.one tI))) tB m__law_kept) 3) : FnOk P w K mg base (L2.CX P w) 5 f fd ["needs", "rooms", "top"] (spOf K ca (.cons (tL (tTup (.cons (tO tI) (.cons tI (.one (tO tI)))))) (.cons (tL (tTup (.cons (tO tI) (.cons tI (.one (tO tI)))))) (.one tI))) tB m__law_summed) :=
  fn_mk (m := 4) (dn := fun _ => .bad) T.F sc__law_summed (Ini.cons (Ini.cons (Ini.one (Anys.s (Anys.s (Anys.s (Anys.s Anys.nil))))))) rfl rfl (fun E => w__law_summed.2 P w K mg base ca 4 E ⟨z_range, rfl, by decide, by decide⟩ ⟨z_isinstance, rfl, by decide, by decide⟩ ⟨z_tuple, rfl, by decide, by decide⟩ ⟨z_len, rfl, by decide, by decide⟩ (e__law_left.callee (by decide)) (e__law_right.callee (by decide)) (e_sums.callee (by decide)) (e_kept.callee (by decide)) (e__law_kept.callee (by decide)))
theorem f__law_summed {P : Program} {w : World} {K : PySem.W.Frag} {mg : Str → Option Value} {base : Heap} {ca : Nat → Addr} {f : Addr} {fd : FuncData} (T : TopFn K mg "_law_summed" s__law_summed ["needs", "rooms", "top"] f fd) (z_range : mg "range" = none) (z_isinstance : mg "isinstance" = none) (z_tuple : mg "tuple" = none) (z_len : mg "len" = none) (e__law_left : Ex P w K mg base "_law_left" (spOf K ca (.cons (tL (tTup (.cons (tO tI) (.cons tI (.one (tO tI)))))) (.one tI)) (tO tI) m__law_left) 1) (e__law_right : Ex P w K mg base "_law_right" (spOf K ca (.cons (tL (tTup (.cons (tO tI) (.cons tI (.one (tO tI)))))) (.one tI)) (tO tI) m__law_right) 2) (e_sums : Ex P w K mg base "sums" (spOf K ca (.cons (tL (tTup (.cons (tO tI) (.cons tI (.one (tO tI)))))) (.cons (tL (tTup (.cons (tO tI) (.cons tI (.one (tO tI)))))) (.one tI))) (tTup (.cons (tO tI) (.one (tO tI)))) m_sums) 4) (e_kept : Ex P w K mg base "kept" (spOf K ca (.cons (tO tI) (.one (tO tI))) tB m_kept) 1) (e__law_kept : Ex P w K mg base "_law_kept" (spOf K ca (.cons (tL (tTup (.cons (tO tI) (.cons tI (.one (tO tI)))))) (.cons (tL (tTup (.cons (tO tI) (.cons tI (.one (tO tI)))))) (.one tI))) tB m__law_kept) 3) : Ex P w K mg base "_law_summed" (spOf K ca (.cons (tL (tTup (.cons (tO tI) (.cons tI (.one (tO tI)))))) (.cons (tL (tTup (.cons (tO tI) (.cons tI (.one (tO tI)))))) (.one tI))) tB m__law_summed) 5 :=
  ⟨f, fd, ["needs", "rooms", "top"], g__law_summed T z_range z_isinstance z_tuple z_len e__law_left e__law_right e_sums e_kept e__law_kept, T.hm, T.F.kp, T.bd⟩
abbrev s__law_fault : Stmt := topS 32
abbrev N__law_fault : List Str := ["needs", "rooms", "told"]
theorem sc__law_fault : FnScope N__law_fault ["needs", "rooms"] (defScope s__law_fault) := ⟨rfl, rfl, rfl, by decide +kernel, rfl, by decide +kernel, by decide +kernel⟩
def w__law_fault : {f : _ → Rs (Fl SK _ Unit) // ∀ (P : Program) (w : World) (K : PySem.W.Frag) (mg : Str → Option Value) (base : Heap) (ca : Nat → Addr) (k : Nat) (E : XK) (c_half : Callee (ambOf P w K mg base N__law_fault s__law_fault k E) ca "half" (.cons (tL tI) (.one (tL (tO tI)))) (tO (tT (tT tI))) m_half) (t_exc : ExcTab K ca 2 subT) (h_Refused : mg "Refused" = some (.ref (ca 0))) (h_TooMany : mg "TooMany" = some (.ref (ca 1))), SXs (ambOf P w K mg base N__law_fault s__law_fault k E) ca (defBody s__law_fault) (.cons (.val (tL tI)) (.cons (.val (tL (tO tI))) (.cons .any .nil))) (.cons (.val (tL tI)) (.cons (.val (tL (tO tI))) (.cons .any .nil))) .nil (rVal K tSk) f} :=
  ⟨_, fun P w K mg base ca k E c_half t_exc h_Refused h_TooMany =>
    (SXs.cons (SX.setP (lob rfl rfl) rfl (PX.strK (i := "none")) (Put.s (Put.s Put.z))) (SXs.cons (SX.tryC c_half rfl rfl (PAs.cons (PX.var At.z rfl (vb rfl)) (PAs.one (PX.var (At.s At.z) rfl (vb rfl)))) (HdX.cons t_exc ⟨h_TooMany, rfl, by decide⟩ (by decide) (SuX.set (v := "many") (lob rfl rfl) rfl (Put.s (Put.s Put.z))) (HdX.cons t_exc ⟨h_Refused, rfl, by decide⟩ (by decide) (SuX.set (v := "other") (lob rfl rfl) rfl (Put.s (Put.s Put.z))) HdX.nil))) (SX.one (SX.retP (PX.var (At.s (At.s At.z)) rfl (vb rfl))))))⟩
def m__law_fault (u : (List Int) × (List (Option Int))) : Rs SK := (w__law_fault.1 (u.1, (u.2, ((), ())))).bind (endM (fun _ => .bad))
theorem g__law_fault {P : Program} {w : World} {K : PySem.W.Frag} {mg : Str → Option Value} {base : Heap} {ca : Nat → Addr} {f : Addr} {fd : FuncData} (T : TopFn K mg "_law_fault" s__law_fault ["needs", "rooms"] f fd) (e_half : Ex P w K mg base "half" (spOf K ca (.cons (tL tI) (.one (tL (tO tI)))) (tO (tT (tT tI))) m_half) 4) (t_exc : ExcTab K ca 2 subT) (h_Refused : mg "Refused" = some (.ref (ca 0))) (h_TooMany : mg "TooMany" = some (.ref (ca 1))) : FnOk P w K mg base (L2.CX P w) 5 f fd ["needs", "rooms"] (spOf K ca (.cons (tL tI) (.one (tL (tO tI)))) tSk m__law_fault) :=
  fn_mk (m := 1) (dn := fun _ => .bad) T.F sc__law_fault (Ini.cons (Ini.one (Anys.s Anys.nil))) rfl rfl (fun E => w__law_fault.2 P w K mg base ca 4 E (e_half.callee (by decide)) t_exc h_Refused h_TooMany)
theorem f__law_fault {P : Program} {w : World} {K : PySem.W.Frag} {mg : Str → Option Value} {base : Heap} {ca : Nat → Addr} {f : Addr} {fd : FuncData} (T : TopFn K mg "_law_fault" s__law_fault ["needs", "rooms"] f fd) (e_half : Ex P w K mg base "half" (spOf K ca (.cons (tL tI) (.one (tL (tO tI)))) (tO (tT (tT tI))) m_half) 4) (t_exc : ExcTab K ca 2 subT) (h_Refused : mg "Refused" = some (.ref (ca 0))) (h_TooMany : mg "TooMany" = some (.ref (ca 1))) : Ex P w K mg base "_law_fault" (spOf K ca (.cons (tL tI) (.one (tL (tO tI)))) tSk m__law_fault) 5 :=
  ⟨f, fd, ["needs", "rooms"], g__law_fault T e_half t_exc h_Refused h_TooMany, T.hm, T.F.kp, T.bd⟩
abbrev s_law : Stmt := topS 33
abbrev N_law : List Str := ["script", "pool", "sides", "needs", "rooms", "xs", "ys", "due", "web", "told", "groups", "top", "again", "need", "room", "x", "y"]
theorem sc_law : FnScope N_law ["script"] (defScope s_law) := ⟨rfl, rfl, rfl, by decide +kernel, rfl, by decide +kernel, by decide +kernel⟩
def w_law : {f : _ → Rs (Fl Bool _ Unit) // ∀ (P : Program) (w : World) (K : PySem.W.Frag) (mg : Str → Option Value) (base : Heap) (ca : Nat → Addr) (k : Nat) (E : XK) (b_list : Bm mg "list" (.type "list")) (b_tuple : Bm mg "tuple" (.type "tuple")) (b_isinstance : Bm mg "isinstance" (.builtin "isinstance")) (b_bool : Bm mg "bool" (.type "bool")) (b_max : Bm mg "max" (.builtin "max")) (b_range : Bm mg "range" (.type "range")) (c__law_pool : CalleeL (ambOf P w K mg base N_law s_law k E) ca "_law_pool" (.one (tF tI)) (cR (.cons (tL tI) (.cons tI (.cons tI (.one tI))))) m__law_pool) (c__law_sides : CalleeIO (ambOf P w K mg base N_law s_law k E) ca "_law_sides" (cR (.cons (tL tI) (.cons tI (.cons tI (.one tI))))) .nil (tLup (.cons (tL tI) (.one (tL (tO tI))))) m__law_sides) (c__law_short : Callee (ambOf P w K mg base N_law s_law k E) ca "_law_short" (.cons (tL (tTup (.cons (tO tI) (.cons tI (.one (tO tI)))))) (.one (tL (tTup (.cons (tO tI) (.cons tI (.one (tO tI)))))))) (tO tI) m__law_short) (c_half : Callee (ambOf P w K mg base N_law s_law k E) ca "half" (.cons (tL tI) (.one (tL (tO tI)))) (tO (tT (tT tI))) m_half) (c__law_judged : Callee (ambOf P w K mg base N_law s_law k E) ca "_law_judged" (.cons (tT (tT tI)) (.cons (tL tI) (.one (tL (tO tI))))) tB m__law_judged) (c_shortT : Callee (ambOf P w K mg base N_law s_law k E) ca "short" (.cons (tL (tTup (.cons (tO tI) (.cons tI (.one (tO tI)))))) (.one (tT (tTup (.cons (tO tI) (.cons tI (.one (tO tI)))))))) (tO tI) m_shortT) (c__law_grouped : Callee (ambOf P w K mg base N_law s_law k E) ca "_law_grouped" (.cons (tL (tO tI)) (.one tI)) (tL (tTup (.cons tI (.cons (tO tI) (.one (tO tI)))))) m__law_grouped) (c_short : Callee (ambOf P w K mg base N_law s_law k E) ca "short" (.cons (tL (tTup (.cons (tO tI) (.cons tI (.one (tO tI)))))) (.one (tL (tTup (.cons (tO tI) (.cons tI (.one (tO tI)))))))) (tO tI) m_short) (c__law_summed : Callee (ambOf P w K mg base N_law s_law k E) ca "_law_summed" (.cons (tL (tTup (.cons (tO tI) (.cons tI (.one (tO tI)))))) (.cons (tL (tTup (.cons (tO tI) (.cons tI (.one (tO tI)))))) (.one tI))) tB m__law_summed) (c_halfT : Callee (ambOf P w K mg base N_law s_law k E) ca "half" (.cons (tT tI) (.one (tT (tO tI)))) (tO (tT (tT tI))) m_halfT) (c__law_fault : Callee (ambOf P w K mg base N_law s_law k E) ca "_law_fault" (.cons (tL tI) (.one (tL (tO tI)))) tSk m__law_fault), SXs (ambOf P w K mg base N_law s_law k E) ca (defBody s_law) (.cons (.val (tF tI)) (.cons .any (.cons .any (.cons .any (.cons .any (.cons .any (.cons .any (.cons .any (.cons .any (.cons .any (.cons .any (.cons .any (.cons .any (.cons .any (.cons .any (.cons .any (.cons .any .nil))))))))))))))))) (.cons (.val (tF tI)) (.cons .any (.cons .any (.cons .any (.cons .any (.cons .any (.cons .any (.cons .any (.cons .any (.cons .any (.cons .any (.cons .any (.cons .any (.cons .any (.cons .any (.cons .any (.cons .any .nil))))))))))))))))) .nil (rVal K tB) f} :=
  ⟨_, fun P w K mg base ca k E b_list b_tuple b_isinstance b_bool b_max b_range c__law_pool c__law_sides c__law_short c_half c__law_judged c_shortT c__law_grouped c_short c__law_summed c_halfT c__law_fault =>
    (SXs.cons (SX.setOP (lob rfl rfl) rfl (PL.call c__law_pool rfl (PAs.one (PX.var At.z rfl (vb rfl)))) (Put.s Put.z)) (SXs.cons (SX.set (k := 0) (lob rfl rfl) rfl (EX.callIO c__law_sides rfl (Wr.s Wr.z) rfl (vb rfl) PAs.nil) (Put.s (Put.s Put.z))) (SXs.cons (SX.setP (lob rfl rfl) rfl (PX.tl (PL.listL (Bm.at b_list rfl) (BX.tl (PX.ixR Nth.z rfl (fun _ _ => rfl) (BX.tlup (PX.var (At.s (At.s At.z)) rfl (vb rfl))) PX.int)))) (Put.s (Put.s (Put.s Put.z)))) (SXs.cons (SX.setP (lob rfl rfl) rfl (PX.tl (PL.listL (Bm.at b_list rfl) (BX.tl (PX.ixR (Nth.s Nth.o) rfl (fun _ _ => rfl) (BX.tlup (PX.var (At.s (At.s At.z)) rfl (vb rfl))) PX.int)))) (Put.s (Put.s (Put.s (Put.s Put.z))))) (SXs.cons (SX.setPcV [("need", 13)] rfl rfl rfl rfl rfl (IX.ib (IX.list (PX.var (At.s (At.s (At.s At.z))) rfl (vb rfl)))) rfl (Wp.cons Wp.nil (Put.s (Put.s (Put.s (Put.s (Put.s (Put.s (Put.s (Put.s (Put.s (Put.s (Put.s (Put.s (Put.s Put.z)))))))))))))) (GX.name (PutV.s (PutV.s (PutV.s (PutV.s (PutV.s (PutV.s (PutV.s (PutV.s (PutV.s (PutV.s (PutV.s (PutV.s (PutV.s PutV.any))))))))))))) rfl (lobb rfl)) (by decide) PTz.nil (PX.tup (PAs.cons (PX.co PX.int Tc.some) (PAs.cons (PX.var (At.s (At.s (At.s (At.s (At.s (At.s (At.s (At.s (At.s (At.s (At.s (At.s (At.s At.z))))))))))))) rfl (vbb rfl)) (PAs.one (PX.co (PX.var (At.s (At.s (At.s (At.s (At.s (At.s (At.s (At.s (At.s (At.s (At.s (At.s (At.s At.z))))))))))))) rfl (vbb rfl)) Tc.some))))) (Put.s (Put.s (Put.s (Put.s (Put.s Put.z)))))) (SXs.cons (SX.setPcV [("room", 14)] rfl rfl rfl rfl rfl (IX.ib (IX.list (PX.var (At.s (At.s (At.s (At.s At.z)))) rfl (vb rfl)))) rfl (Wp.cons Wp.nil (Put.s (Put.s (Put.s (Put.s (Put.s (Put.s (Put.s (Put.s (Put.s (Put.s (Put.s (Put.s (Put.s (Put.s Put.z))))))))))))))) (GX.name (PutV.s (PutV.s (PutV.s (PutV.s (PutV.s (PutV.s (PutV.s (PutV.s (PutV.s (PutV.s (PutV.s (PutV.s (PutV.s (PutV.s PutV.any)))))))))))))) rfl (lobb rfl)) (by decide) PTz.nil (PX.tup (PAs.cons (PX.co PX.int Tc.some) (PAs.cons PX.int (PAs.one (PX.var (At.s (At.s (At.s (At.s (At.s (At.s (At.s (At.s (At.s (At.s (At.s (At.s (At.s (At.s At.z)))))))))))))) rfl (vbb rfl)))))) (Put.s (Put.s (Put.s (Put.s (Put.s (Put.s Put.z))))))) (SXs.cons (SX.setP (lob rfl rfl) rfl (PX.call c__law_short rfl (PAs.cons (PX.var (At.s (At.s (At.s (At.s (At.s At.z))))) rfl (vb rfl)) (PAs.one (PX.var (At.s (At.s (At.s (At.s (At.s (At.s At.z)))))) rfl (vb rfl))))) (Put.s (Put.s (Put.s (Put.s (Put.s (Put.s (Put.s Put.z)))))))) (SXs.cons (SX.setP (lob rfl rfl) rfl (PX.call c_half rfl (PAs.cons (PX.var (At.s (At.s (At.s At.z))) rfl (vb rfl)) (PAs.one (PX.var (At.s (At.s (At.s (At.s At.z)))) rfl (vb rfl))))) (Put.s (Put.s (Put.s (Put.s (Put.s (Put.s (Put.s (Put.s Put.z))))))))) (SXs.cons (SX.iteP (PBw.pb (PB.or (PB.neD (EncN.bool).toEnc (PX.isN NN.tpl (PX.var (At.s (At.s (At.s (At.s (At.s (At.s (At.s (At.s At.z)))))))) rfl (vb rfl))) (PX.notN NN.int (PX.var (At.s (At.s (At.s (At.s (At.s (At.s (At.s At.z))))))) rfl (vb rfl)))) (PB.or (PB.neD ((EncN.lst (EncN.int).toEnc)).toEnc (PX.var (At.s (At.s (At.s At.z))) rfl (vb rfl)) (PX.ixR Nth.z rfl (fun _ _ => rfl) (BX.tlup (PX.var (At.s (At.s At.z)) rfl (vb rfl))) PX.int)) (PB.or1 (PB.neD ((EncN.lst (Enc.opt EncN.int))).toEnc (PX.var (At.s (At.s (At.s (At.s At.z)))) rfl (vb rfl)) (PX.ixR (Nth.s Nth.o) rfl (fun _ _ => rfl) (BX.tlup (PX.var (At.s (At.s At.z)) rfl (vb rfl))) PX.int)))))) (SX.one (SX.retP PX.bl)) SXs.nil) (SXs.cons (SX.iteP (PBw.pb (PB.and (PB.notN NN.tpl (PX.var (At.s (At.s (At.s (At.s (At.s (At.s (At.s (At.s At.z)))))))) rfl (vb rfl))) (PB.and1 (PB.not (PX.pb (PX.call c__law_judged rfl (PAs.cons (PX.unw (PX.var (At.s (At.s (At.s (At.s (At.s (At.s (At.s (At.s At.z)))))))) rfl (vb rfl))) (PAs.cons (PX.var (At.s (At.s (At.s At.z))) rfl (vb rfl)) (PAs.one (PX.var (At.s (At.s (At.s (At.s At.z)))) rfl (vb rfl)))))) (by intros; rfl)))))) (SX.one (SX.retP PX.bl)) SXs.nil) (SXs.cons (SX.setP (lob rfl rfl) rfl (PX.call c_shortT rfl (PAs.cons (PX.var (At.s (At.s (At.s (At.s (At.s At.z))))) rfl (vb rfl)) (PAs.one (PX.tupleL (Bm.at b_tuple rfl) (BX.tl (PX.var (At.s (At.s (At.s (At.s (At.s (At.s At.z)))))) rfl (vb rfl))))))) (Put.s (Put.s (Put.s (Put.s (Put.s (Put.s (Put.s (Put.s (Put.s Put.z)))))))))) (SXs.cons (SX.iteP (PBw.pb (PB.or (PB.neD (Enc.opt EncN.int) (PX.var (At.s (At.s (At.s (At.s (At.s (At.s (At.s (At.s (At.s At.z))))))))) rfl (vb rfl)) (PX.var (At.s (At.s (At.s (At.s (At.s (At.s (At.s At.z))))))) rfl (vb rfl))) (PB.or1 (PX.pb (PX.isiO (k := false) (Bm.at b_isinstance rfl) (Bm.at b_bool rfl) IsTy.int (PX.var (At.s (At.s (At.s (At.s (At.s (At.s (At.s (At.s (At.s At.z))))))))) rfl (vb rfl))) (by intros; rfl))))) (SX.one (SX.retP PX.bl)) SXs.nil) (SXs.cons (SX.setP (lob rfl rfl) rfl (PX.tl (PL.slice (BX.tl (PX.call c__law_grouped rfl (PAs.cons (PX.co (PX.var (At.s (At.s (At.s At.z))) rfl (vb rfl)) (Tc.lst Tc.some)) (PAs.one PX.int)))) (PPo.some PX.int) PPo.none)) (Put.s (Put.s (Put.s (Put.s (Put.s (Put.s (Put.s (Put.s (Put.s (Put.s Put.z))))))))))) (SXs.cons (SX.iteP (PB.neD (Enc.opt EncN.int) (PX.call c_short rfl (PAs.cons (PX.pa (PX.var (At.s (At.s (At.s (At.s (At.s (At.s (At.s (At.s (At.s (At.s At.z)))))))))) rfl (vb rfl)) (Tp.lst (Tp.tup (Tps.cons (Tp.of Tc.some) (Tps.cons Tp.unw (Tps.one (Tp.of Tc.id))))))) (PAs.one (PX.pa (PX.call c__law_grouped rfl (PAs.cons (PX.var (At.s (At.s (At.s (At.s At.z)))) rfl (vb rfl)) (PAs.one PX.int))) (Tp.lst (Tp.tup (Tps.cons (Tp.of Tc.some) (Tps.cons Tp.unw (Tps.one (Tp.of Tc.id)))))))))) (PX.var (At.s (At.s (At.s (At.s (At.s (At.s (At.s At.z))))))) rfl (vb rfl))) (SX.one (SX.retP PX.bl)) SXs.nil) (SXs.cons (SX.setP (lob rfl rfl) rfl (PX.maxL (Bm.at b_max rfl) (PL.bx (PL.cat (PL.bx (PL.lst (τ := tI) (PIs.cons PX.int PIs.nil))) (BX.tl (PX.var (At.s (At.s (At.s At.z))) rfl (vb rfl)))))) (Put.s (Put.s (Put.s (Put.s (Put.s (Put.s (Put.s (Put.s (Put.s (Put.s (Put.s Put.z)))))))))))) (SXs.cons (SX.iteP (PBw.pb (PB.or (PB.not (PX.pb (PX.call c__law_summed rfl (PAs.cons (PX.var (At.s (At.s (At.s (At.s (At.s At.z))))) rfl (vb rfl)) (PAs.cons (PX.var (At.s (At.s (At.s (At.s (At.s (At.s At.z)))))) rfl (vb rfl)) (PAs.one (PX.var (At.s (At.s (At.s (At.s (At.s (At.s (At.s (At.s (At.s (At.s (At.s At.z))))))))))) rfl (vb rfl)))))) (by intros; rfl))) (PB.or1 (PB.not (PX.pb (PX.call c__law_summed rfl (PAs.cons (PX.pa (PX.var (At.s (At.s (At.s (At.s (At.s (At.s (At.s (At.s (At.s (At.s At.z)))))))))) rfl (vb rfl)) (Tp.lst (Tp.tup (Tps.cons (Tp.of Tc.some) (Tps.cons Tp.unw (Tps.one (Tp.of Tc.id))))))) (PAs.cons (PX.pa (PX.call c__law_grouped rfl (PAs.cons (PX.var (At.s (At.s (At.s (At.s At.z)))) rfl (vb rfl)) (PAs.one PX.int))) (Tp.lst (Tp.tup (Tps.cons (Tp.of Tc.some) (Tps.cons Tp.unw (Tps.one (Tp.of Tc.id))))))) (PAs.one (PX.var (At.s (At.s (At.s (At.s (At.s (At.s (At.s (At.s (At.s (At.s (At.s At.z))))))))))) rfl (vb rfl)))))) (by intros; rfl)))))) (SX.one (SX.retP PX.bl)) SXs.nil) (SXs.cons (SX.setP (lob rfl rfl) rfl (PX.call c_halfT rfl (PAs.cons (PX.tupleL (Bm.at b_tuple rfl) (BX.tl (PX.var (At.s (At.s (At.s At.z))) rfl (vb rfl)))) (PAs.one (PX.tupleL (Bm.at b_tuple rfl) (BX.tl (PX.var (At.s (At.s (At.s (At.s At.z)))) rfl (vb rfl))))))) (Put.s (Put.s (Put.s (Put.s (Put.s (Put.s (Put.s (Put.s (Put.s (Put.s (Put.s (Put.s Put.z))))))))))))) (SXs.cons (SX.iteP (PBw.pb (PB.or (PB.neD (EncN.bool).toEnc (PX.isN NN.tpl (PX.var (At.s (At.s (At.s (At.s (At.s (At.s (At.s (At.s (At.s (At.s (At.s (At.s At.z)))))))))))) rfl (vb rfl))) (PX.isN NN.tpl (PX.var (At.s (At.s (At.s (At.s (At.s (At.s (At.s (At.s At.z)))))))) rfl (vb rfl)))) (PB.or1 (PB.neD (Enc.opt (EncN.tpl ((EncN.tpl (EncN.int).toEnc)).toEnc)) (PX.call c_half rfl (PAs.cons (PX.var (At.s (At.s (At.s At.z))) rfl (vb rfl)) (PAs.one (PX.var (At.s (At.s (At.s (At.s At.z)))) rfl (vb rfl))))) (PX.var (At.s (At.s (At.s (At.s (At.s (At.s (At.s (At.s At.z)))))))) rfl (vb rfl)))))) (SX.one (SX.retP PX.bl)) SXs.nil) (SXs.cons (SX.iteP (PBw.pb (PB.and (PB.notN NN.tpl (PX.var (At.s (At.s (At.s (At.s (At.s (At.s (At.s (At.s (At.s (At.s (At.s (At.s At.z)))))))))))) rfl (vb rfl))) (PB.and1 (PB.not (PX.pb (PX.call c__law_judged rfl (PAs.cons (PX.unw (PX.var (At.s (At.s (At.s (At.s (At.s (At.s (At.s (At.s (At.s (At.s (At.s (At.s At.z)))))))))))) rfl (vb rfl))) (PAs.cons (PX.var (At.s (At.s (At.s At.z))) rfl (vb rfl)) (PAs.one (PX.var (At.s (At.s (At.s (At.s At.z)))) rfl (vb rfl)))))) (by intros; rfl)))))) (SX.one (SX.retP PX.bl)) SXs.nil) (SXs.cons (SX.iteP (PBw.pb (PB.or (PB.neD (EncN.strK).toEnc (PX.call c__law_fault rfl (PAs.cons (PX.tl (PL.lc [("x", 15)] (IX.ib (IX.range1 (Bm.at b_range rfl) PX.int)) rfl (Wp.cons Wp.nil (Put.s (Put.s (Put.s (Put.s (Put.s (Put.s (Put.s (Put.s (Put.s (Put.s (Put.s (Put.s (Put.s (Put.s (Put.s Put.z)))))))))))))))) (GX.name (PutV.s (PutV.s (PutV.s (PutV.s (PutV.s (PutV.s (PutV.s (PutV.s (PutV.s (PutV.s (PutV.s (PutV.s (PutV.s (PutV.s (PutV.s PutV.any))))))))))))))) rfl (lobb rfl)) (by decide) PTz.nil PX.int)) (PAs.one (PX.var (At.s (At.s (At.s (At.s At.z)))) rfl (vb rfl))))) (PX.strK (i := "many"))) (PB.or1 (PB.neD (EncN.strK).toEnc (PX.call c__law_fault rfl (PAs.cons (PX.var (At.s (At.s (At.s At.z))) rfl (vb rfl)) (PAs.one (PX.tl (PL.lc [("y", 16)] (IX.ib (IX.range1 (Bm.at b_range rfl) PX.int)) rfl (Wp.cons Wp.nil (Put.s (Put.s (Put.s (Put.s (Put.s (Put.s (Put.s (Put.s (Put.s (Put.s (Put.s (Put.s (Put.s (Put.s (Put.s (Put.s Put.z))))))))))))))))) (GX.name (PutV.s (PutV.s (PutV.s (PutV.s (PutV.s (PutV.s (PutV.s (PutV.s (PutV.s (PutV.s (PutV.s (PutV.s (PutV.s (PutV.s (PutV.s (PutV.s PutV.any)))))))))))))))) rfl (lobb rfl)) (by decide) PTz.nil (PX.co PX.non Tc.none)))))) (PX.strK (i := "many")))))) (SX.one (SX.retP PX.bl)) SXs.nil) (SX.one (SX.retP (PX.eqD (Enc.opt (EncN.tpl ((EncN.tpl (EncN.int).toEnc)).toEnc)) (PX.call c_half rfl (PAs.cons (PX.tl (PL.lc [("x", 15)] (IX.ib (IX.range1 (Bm.at b_range rfl) PX.int)) rfl (Wp.cons Wp.nil (Put.s (Put.s (Put.s (Put.s (Put.s (Put.s (Put.s (Put.s (Put.s (Put.s (Put.s (Put.s (Put.s (Put.s (Put.s Put.z)))))))))))))))) (GX.name (PutV.s (PutV.s (PutV.s (PutV.s (PutV.s (PutV.s (PutV.s (PutV.s (PutV.s (PutV.s (PutV.s (PutV.s (PutV.s (PutV.s (PutV.s PutV.any))))))))))))))) rfl (lobb rfl)) (by decide) PTz.nil PX.int)) (PAs.one (PX.var (At.s (At.s (At.s (At.s At.z)))) rfl (vb rfl))))) (PX.co (PX.tupleL (Bm.at b_tuple rfl) (PL.bx (PL.lc [("x", 15)] (IX.ib (IX.range1 (Bm.at b_range rfl) PX.int)) rfl (Wp.cons Wp.nil (Put.s (Put.s (Put.s (Put.s (Put.s (Put.s (Put.s (Put.s (Put.s (Put.s (Put.s (Put.s (Put.s (Put.s (Put.s Put.z)))))))))))))))) (GX.name (PutV.s (PutV.s (PutV.s (PutV.s (PutV.s (PutV.s (PutV.s (PutV.s (PutV.s (PutV.s (PutV.s (PutV.s (PutV.s (PutV.s (PutV.s PutV.any))))))))))))))) rfl (lobb rfl)) (by decide) PTz.nil (PX.tup0 (τ := tI))))) Tc.some))))))))))))))))))))))))⟩
def m_law (u : (List Int)) : Rs Bool := (w_law.1 (u, ((), ((), ((), ((), ((), ((), ((), ((), ((), ((), ((), ((), ((), ((), ((), ((), ())))))))))))))))))).bind (endM (fun _ => .bad))
theorem g_law {P : Program} {w : World} {K : PySem.W.Frag} {mg : Str → Option Value} {base : Heap} {ca : Nat → Addr} {f : Addr} {fd : FuncData} (T : TopFn K mg "law" s_law ["script"] f fd) (z_list : mg "list" = none) (z_tuple : mg "tuple" = none) (z_isinstance : mg "isinstance" = none) (z_bool : mg "bool" = none) (z_max : mg "max" = none) (z_range : mg "range" = none) (e__law_pool : Ex P w K mg base "_law_pool" (spL K ca (.one (tF tI)) (cR (.cons (tL tI) (.cons tI (.cons tI (.one tI))))) m__law_pool) 1) (e__law_sides : Ex P w K mg base "_law_sides" (spIO K ca (cR (.cons (tL tI) (.cons tI (.cons tI (.one tI))))) .nil (tLup (.cons (tL tI) (.one (tL (tO tI))))) m__law_sides) 4) (e__law_short : Ex P w K mg base "_law_short" (spOf K ca (.cons (tL (tTup (.cons (tO tI) (.cons tI (.one (tO tI)))))) (.one (tL (tTup (.cons (tO tI) (.cons tI (.one (tO tI)))))))) (tO tI) m__law_short) 4) (e_half : Ex P w K mg base "half" (spOf K ca (.cons (tL tI) (.one (tL (tO tI)))) (tO (tT (tT tI))) m_half) 4) (e__law_judged : Ex P w K mg base "_law_judged" (spOf K ca (.cons (tT (tT tI)) (.cons (tL tI) (.one (tL (tO tI))))) tB m__law_judged) 2) (e_shortT : Ex P w K mg base "short" (spOf K ca (.cons (tL (tTup (.cons (tO tI) (.cons tI (.one (tO tI)))))) (.one (tT (tTup (.cons (tO tI) (.cons tI (.one (tO tI)))))))) (tO tI) m_shortT) 5) (e__law_grouped : Ex P w K mg base "_law_grouped" (spOf K ca (.cons (tL (tO tI)) (.one tI)) (tL (tTup (.cons tI (.cons (tO tI) (.one (tO tI)))))) m__law_grouped) 1) (e_short : Ex P w K mg base "short" (spOf K ca (.cons (tL (tTup (.cons (tO tI) (.cons tI (.one (tO tI)))))) (.one (tL (tTup (.cons (tO tI) (.cons tI (.one (tO tI)))))))) (tO tI) m_short) 5) (e__law_summed : Ex P w K mg base "_law_summed" (spOf K ca (.cons (tL (tTup (.cons (tO tI) (.cons tI (.one (tO tI)))))) (.cons (tL (tTup (.cons (tO tI) (.cons tI (.one (tO tI)))))) (.one tI))) tB m__law_summed) 5) (e_halfT : Ex P w K mg base "half" (spOf K ca (.cons (tT tI) (.one (tT (tO tI)))) (tO (tT (tT tI))) m_halfT) 4) (e__law_fault : Ex P w K mg base "_law_fault" (spOf K ca (.cons (tL tI) (.one (tL (tO tI)))) tSk m__law_fault) 5) : FnOk P w K mg base (L2.CX P w) 6 f fd ["script"] (spOf K ca (.one (tF tI)) tB m_law) :=
  fn_mk (m := 16) (dn := fun _ => .bad) T.F sc_law (Ini.one (Anys.s (Anys.s (Anys.s (Anys.s (Anys.s (Anys.s (Anys.s (Anys.s (Anys.s (Anys.s (Anys.s (Anys.s (Anys.s (Anys.s (Anys.s (Anys.s Anys.nil))))))))))))))))) rfl rfl (fun E => w_law.2 P w K mg base ca 5 E ⟨z_list, rfl, by decide, by decide⟩ ⟨z_tuple, rfl, by decide, by decide⟩ ⟨z_isinstance, rfl, by decide, by decide⟩ ⟨z_bool, rfl, by decide, by decide⟩ ⟨z_max, rfl, by decide, by decide⟩ ⟨z_range, rfl, by decide, by decide⟩ (e__law_pool.calleeL (by decide)) (e__law_sides.calleeIO (by decide)) (e__law_short.callee (by decide)) (e_half.callee (by decide)) (e__law_judged.callee (by decide)) (e_shortT.callee (by decide)) (e__law_grouped.callee (by decide)) (e_short.callee (by decide)) (e__law_summed.callee (by decide)) (e_halfT.callee (by decide)) (e__law_fault.callee (by decide)))
theorem f_law {P : Program} {w : World} {K : PySem.W.Frag} {mg : Str → Option Value} {base : Heap} {ca : Nat → Addr} {f : Addr} {fd : FuncData} (T : TopFn K mg "law" s_law ["script"] f fd) (z_list : mg "list" = none) (z_tuple : mg "tuple" = none) (z_isinstance : mg "isinstance" = none) (z_bool : mg "bool" = none) (z_max : mg "max" = none) (z_range : mg "range" = none) (e__law_pool : Ex P w K mg base "_law_pool" (spL K ca (.one (tF tI)) (cR (.cons (tL tI) (.cons tI (.cons tI (.one tI))))) m__law_pool) 1) (e__law_sides : Ex P w K mg base "_law_sides" (spIO K ca (cR (.cons (tL tI) (.cons tI (.cons tI (.one tI))))) .nil (tLup (.cons (tL tI) (.one (tL (tO tI))))) m__law_sides) 4) (e__law_short : Ex P w K mg base "_law_short" (spOf K ca (.cons (tL (tTup (.cons (tO tI) (.cons tI (.one (tO tI)))))) (.one (tL (tTup (.cons (tO tI) (.cons tI (.one (tO tI)))))))) (tO tI) m__law_short) 4) (e_half : Ex P w K mg base "half" (spOf K ca (.cons (tL tI) (.one (tL (tO tI)))) (tO (tT (tT tI))) m_half) 4) (e__law_judged : Ex P w K mg base "_law_judged" (spOf K ca (.cons (tT (tT tI)) (.cons (tL tI) (.one (tL (tO tI))))) tB m__law_judged) 2) (e_shortT : Ex P w K mg base "short" (spOf K ca (.cons (tL (tTup (.cons (tO tI) (.cons tI (.one (tO tI)))))) (.one (tT (tTup (.cons (tO tI) (.cons tI (.one (tO tI)))))))) (tO tI) m_shortT) 5) (e__law_grouped : Ex P w K mg base "_law_grouped" (spOf K ca (.cons (tL (tO tI)) (.one tI)) (tL (tTup (.cons tI (.cons (tO tI) (.one (tO tI)))))) m__law_grouped) 1) (e_short : Ex P w K mg base "short" (spOf K ca (.cons (tL (tTup (.cons (tO tI) (.cons tI (.one (tO tI)))))) (.one (tL (tTup (.cons (tO tI) (.cons tI (.one (tO tI)))))))) (tO tI) m_short) 5) (e__law_summed : Ex P w K mg base "_law_summed" (spOf K ca (.cons (tL (tTup (.cons (tO tI) (.cons tI (.one (tO tI)))))) (.cons (tL (tTup (.cons (tO tI) (.cons tI (.one (tO tI)))))) (.one tI))) tB m__law_summed) 5) (e_halfT : Ex P w K mg base "half" (spOf K ca (.cons (tT tI) (.one (tT (tO tI)))) (tO (tT (tT tI))) m_halfT) 4) (e__law_fault : Ex P w K mg base "_law_fault" (spOf K ca (.cons (tL tI) (.one (tL (tO tI)))) tSk m__law_fault) 5) : Ex P w K mg base "law" (spOf K ca (.one (tF tI)) tB m_law) 6 :=
  ⟨f, fd, ["script"], g_law T z_list z_tuple z_isinstance z_bool z_max z_range e__law_pool e__law_sides e__law_short e_half e__law_judged e_shortT e__law_grouped e_short e__law_summed e_halfT e__law_fault, T.hm, T.F.kp, T.bd⟩
end T16
namespace TL
/-! M0: rules for outcomes. -/
theorem Rs.ok_bind {α β : Type} (a : α) (k : α → Rs β) : (Rs.ok a).bind k = k a := of_eq_true (eq_true rfl)
theorem Rs.bind_assoc {α β γ : Type} (r : Rs α) (k : α → Rs β) (l : β → Rs γ) : (r.bind k).bind l = r.bind fun a => (k a).bind l := by cases r <;> rfl
theorem Rs.guard_true {α : Type} (r : Rs α) : Rs.guard true r = r := rfl
theorem Rs.guard_of {α : Type} {c : Bool} (h : c = true) (r : Rs α) : Rs.guard c r = r := by rw [h]; rfl
theorem Rs.bind_ite {α β : Type} (c : Prop) [Decidable c] (a b : Rs α) (k : α → Rs β) : (if c then a else b).bind k = if c then a.bind k else b.bind k := by split <;> rfl
theorem then_nx {ρ S S' L : Type} (k : S → Rs (Fl ρ S' L)) (s : S) : Fl.then k (.nx s) = k s := of_eq_true (eq_true rfl)
theorem then_rt {ρ S S' L : Type} (k : S → Rs (Fl ρ S' L)) (r : ρ) : Fl.then k (.rt r : Fl ρ S L) = .ok (.rt r) := of_eq_true (eq_true rfl)
theorem endM_rt {ρ S : Type} (dn : S → Rs ρ) (r : ρ) : endM dn (.rt r) = .ok r := of_eq_true (eq_true rfl)
theorem endM_nx {ρ S : Type} (dn : S → Rs ρ) (s : S) : endM dn (.nx s) = dn s := of_eq_true (eq_true rfl)
theorem ofOpt_some {α : Type} (a : α) : Rs.ofOpt (some a) = .ok a := of_eq_true (eq_true rfl)
theorem forM_nil {β ρ S L : Type} (b : β → S → Rs (Fl ρ S S)) (s : S) : forM (L := L) b [] s = .ok (.nx s) := of_eq_true (eq_true rfl)
theorem forM_cons {β ρ S L : Type} (b : β → S → Rs (Fl ρ S S)) (x : β) (r : List β) (s : S) : forM (L := L) b (x :: r) s = (b x s).bind (forK (β := β) (forM b r)) := of_eq_true (eq_true rfl)
theorem forK_nx {β ρ S L : Type} (k : S → Rs (Fl ρ S L)) (s : S) : forK (β := β) k (.nx s) = k s := of_eq_true (eq_true rfl)
theorem forK_ct {β ρ S L : Type} (k : S → Rs (Fl ρ S L)) (s : S) : forK (β := β) k (.ct s) = k s := of_eq_true (eq_true rfl)
theorem forK_bk {β ρ S L : Type} (k : S → Rs (Fl ρ S L)) (s : S) : forK (β := β) k (.bk s) = .ok (.nx s) := of_eq_true (eq_true rfl)
theorem forK_rt {β ρ S L : Type} (k : S → Rs (Fl ρ S L)) (r : ρ) : forK (β := β) k (.rt r) = .ok (.rt r) := of_eq_true (eq_true rfl)
theorem whileM_succ {ρ S L : Type} (c : S → Rs (Bool × S)) (b : S → Rs (Fl ρ S S)) (n : Nat) (s : S) : whileM (L := L) c b (n + 1) s = (c s).bind fun r => if r.1 then (b r.2).bind (forK (β := Unit) (whileM c b n)) else .ok (.nx r.2) := of_eq_true (eq_true rfl)
theorem forK_nxU {ρ S L : Type} (k : S → Rs (Fl ρ S L)) (s : S) : forK (β := Unit) k (.nx s) = k s := of_eq_true (eq_true rfl)
/-- a loop that always goes on -/
theorem forM_nx {β ρ S L : Type} {b : β → S → Rs (Fl ρ S S)} (f : S → β → S) (P : S → Prop) : ∀ (xs : List β) (s : S), P s → (∀ x ∈ xs, ∀ s, P s → b x s = .ok (.nx (f s x)) ∧ P (f s x)) → forM (L := L) b xs s = .ok (.nx (xs.foldl f s)) ∧ P (xs.foldl f s)
  | [], s, hP, _ => ⟨rfl, hP⟩
  | x :: r, s, hP, h => by
    obtain ⟨h1, h2⟩ := h x List.mem_cons_self s hP
    rw [forM_cons, h1, Rs.ok_bind, forK_nx]
    exact forM_nx f P r _ h2 fun y hy => h y (List.mem_cons_of_mem _ hy)
/-- .. in a goal -/
theorem for_goal {β ρ S L α : Type} {b : β → S → Rs (Fl ρ S S)} {xs : List β} {s : S} {k : Fl ρ S L → Rs α} {r : Rs α} (f : S → β → S) (P : S → Prop) (hP : P s) (hs : ∀ x ∈ xs, ∀ s, P s → b x s = .ok (.nx (f s x)) ∧ P (f s x)) (hk : P (xs.foldl f s) → k (.nx (xs.foldl f s)) = r) : (forM b xs s).bind k = r := by
  obtain ⟨h1, h2⟩ := forM_nx (L := L) f P xs s hP hs
  rw [h1]
  exact hk h2
/-- .. with what is left -/
theorem forM_nxR {β ρ S L : Type} {b : β → S → Rs (Fl ρ S S)} (f : S → β → S) (P : List β → S → Prop) : ∀ (xs : List β) (s : S), P xs s → (∀ x r s, P (x :: r) s → b x s = .ok (.nx (f s x)) ∧ P r (f s x)) → forM (L := L) b xs s = .ok (.nx (xs.foldl f s)) ∧ P [] (xs.foldl f s)
  | [], s, hP, _ => ⟨rfl, hP⟩
  | x :: r, s, hP, h => by
    obtain ⟨h1, h2⟩ := h x r s hP
    rw [forM_cons, h1, Rs.ok_bind, forK_nx]
    exact forM_nxR f P r _ h2 h
theorem for_goalR {β ρ S L α : Type} {b : β → S → Rs (Fl ρ S S)} {xs : List β} {s : S} {k : Fl ρ S L → Rs α} {r : Rs α} (f : S → β → S) (P : List β → S → Prop) (hP : P xs s) (hs : ∀ x r s, P (x :: r) s → b x s = .ok (.nx (f s x)) ∧ P r (f s x)) (hk : P [] (xs.foldl f s) → k (.nx (xs.foldl f s)) = r) : (forM b xs s).bind k = r := by
  obtain ⟨h1, h2⟩ := forM_nxR (L := L) f P xs s hP hs
  rw [h1]
  exact hk h2
/-- .. by what stays true alone -/
theorem forM_ex {β ρ S L : Type} {b : β → S → Rs (Fl ρ S S)} (P : S → Prop) : ∀ (xs : List β) (s : S), P s → (∀ x ∈ xs, ∀ s, P s → ∃ s', b x s = .ok (.nx s') ∧ P s') → ∃ s', forM (L := L) b xs s = .ok (.nx s') ∧ P s'
  | [], s, hP, _ => ⟨s, rfl, hP⟩
  | x :: r, s, hP, h => by
    obtain ⟨s1, h1, h2⟩ := h x List.mem_cons_self s hP
    rw [forM_cons, h1, Rs.ok_bind, forK_nx]
    exact forM_ex P r _ h2 fun y hy => h y (List.mem_cons_of_mem _ hy)
theorem ex_goal {β ρ S L α : Type} {b : β → S → Rs (Fl ρ S S)} {xs : List β} {s : S} {k : Fl ρ S L → Rs α} {r : Rs α} (P : S → Prop) (hP : P s) (hs : ∀ x ∈ xs, ∀ s, P s → ∃ s', b x s = .ok (.nx s') ∧ P s') (hk : ∀ s', P s' → k (.nx s') = r) : (forM b xs s).bind k = r := by
  obtain ⟨s', h1, h2⟩ := forM_ex (L := L) P xs s hP hs
  rw [h1]
  exact hk s' h2
theorem ex_ex {β ρ S L ρ' S' L' : Type} {b : β → S → Rs (Fl ρ S S)} {xs : List β} {s : S} {k : Fl ρ S L → Rs (Fl ρ' S' L')} {Q : S' → Prop} (P : S → Prop) (hP : P s) (hs : ∀ x ∈ xs, ∀ s, P s → ∃ s', b x s = .ok (.nx s') ∧ P s') (hk : ∀ s1, P s1 → ∃ s', k (.nx s1) = .ok (.nx s') ∧ Q s') : ∃ s', (forM b xs s).bind k = .ok (.nx s') ∧ Q s' := by
  obtain ⟨s', h1, h2⟩ := forM_ex (L := L) P xs s hP hs
  rw [h1]
  exact hk s' h2
theorem forM_exR {β ρ S L : Type} {b : β → S → Rs (Fl ρ S S)} (P : List β → S → Prop) : ∀ (xs : List β) (s : S), P xs s → (∀ x r s, P (x :: r) s → ∃ s', b x s = .ok (.nx s') ∧ P r s') → ∃ s', forM (L := L) b xs s = .ok (.nx s') ∧ P [] s'
  | [], s, hP, _ => ⟨s, rfl, hP⟩
  | x :: r, s, hP, h => by
    obtain ⟨s1, h1, h2⟩ := h x r s hP
    rw [forM_cons, h1, Rs.ok_bind, forK_nx]
    exact forM_exR P r _ h2 h
theorem exR_goal {β ρ S L α : Type} {b : β → S → Rs (Fl ρ S S)} {xs : List β} {s : S} {k : Fl ρ S L → Rs α} {r : Rs α} (P : List β → S → Prop) (hP : P xs s) (hs : ∀ x r s, P (x :: r) s → ∃ s', b x s = .ok (.nx s') ∧ P r s') (hk : ∀ s', P [] s' → k (.nx s') = r) : (forM b xs s).bind k = r := by
  obtain ⟨s', h1, h2⟩ := forM_exR (L := L) P xs s hP hs
  rw [h1]
  exact hk s' h2
theorem lc2M_ok {β γ : Type} {g : β → Rs (List γ)} (f : β → List γ) : ∀ xs : List β, (∀ x ∈ xs, g x = .ok (f x)) → lc2M g xs = .ok (xs.flatMap f)
  | [], _ => rfl
  | x :: r, h => by
    unfold lc2M
    rw [h x List.mem_cons_self, Rs.ok_bind, lc2M_ok f r fun y hy => h y (List.mem_cons_of_mem _ hy)]
    rfl
theorem dcM_new {γ : Type} {g : (Int × Int) → Rs (Option ((Int × Int) × γ))} (v : γ) (hg : ∀ b, g b = .ok (some (b, v))) : ∀ (bs : List (Int × Int)) (acc : List ((Int × Int) × γ)), (acc.map (·.1) ++ bs).Nodup → dcM g bs acc = .ok (acc ++ bs.map fun b => (b, v))
  | [], acc, _ => by simp [dcM]
  | b :: r, acc, h => by
    unfold dcM
    rw [hg b, Rs.ok_bind]
    have hb : (acc.any fun q => decide (q.1 = b)) = false := by
      rw [List.any_eq_false]
      intro q hq
      have := (List.nodup_append.mp h).2.2 q.1 (List.mem_map.mpr ⟨q, hq, rfl⟩) b List.mem_cons_self
      simpa using this
    have e : putA acc b v = acc ++ [(b, v)] := by unfold putA; rw [hb]; rfl
    show dcM g r (putA acc b v) = _
    rw [e, dcM_new v hg r (acc ++ [(b, v)]) (by simpa using h)]
    simp
/-- .. a loop that may hand back: the first place where it does -/
theorem forM_find {β ρ S L : Type} {b : β → S → Rs (Fl ρ S S)} (f : S → β → S) (P : S → Prop) (q : β → Option ρ) : ∀ (xs : List β) (s : S), P s → (∀ x ∈ xs, ∀ s, P s → b x s = (match q x with | some r => .ok (.rt r) | none => .ok (.nx (f s x))) ∧ P (f s x)) → forM (L := L) b xs s = match xs.findSome? q with | some r => .ok (.rt r) | none => .ok (.nx (xs.foldl f s))
  | [], s, hP, _ => rfl
  | x :: r, s, hP, h => by
    obtain ⟨h1, h2⟩ := h x List.mem_cons_self s hP
    rw [forM_cons, h1, List.findSome?_cons]
    cases q x with
    | some z => rfl
    | none => exact forM_find f P q r _ h2 fun y hy => h y (List.mem_cons_of_mem _ hy)
theorem find_goal {β ρ S L α : Type} {b : β → S → Rs (Fl ρ S S)} {xs : List β} {s : S} {k : Fl ρ S L → Rs α} {r : Rs α} (f : S → β → S) (P : S → Prop) (q : β → Option ρ) (hP : P s) (hs : ∀ x ∈ xs, ∀ s, P s → b x s = (match q x with | some r => .ok (.rt r) | none => .ok (.nx (f s x))) ∧ P (f s x))
    (hk : P (xs.foldl f s) → (match xs.findSome? q with | some z => k (.rt z) | none => k (.nx (xs.foldl f s))) = r) : (forM b xs s).bind k = r := by
  have hk := hk (by
    clear hk
    induction xs generalizing s with
    | nil => exact hP
    | cons x l ih => exact ih (hs x List.mem_cons_self s hP).2 fun y hy => hs y (List.mem_cons_of_mem _ hy))
  rw [forM_find (L := L) f P q xs s hP hs]
  cases h : xs.findSome? q with
  | some z => rw [h] at hk; exact hk
  | none => rw [h] at hk; exact hk
/-- a comprehension without surprises -/
theorem lcM_map {β γ : Type} {g : β → Rs (Option γ)} (f : β → γ) : ∀ (xs : List β), (∀ x ∈ xs, g x = .ok (some (f x))) → lcM g xs = .ok (xs.map f)
  | [], _ => rfl
  | x :: r, h => by
    unfold lcM
    rw [h x List.mem_cons_self, Rs.ok_bind, lcM_map f r fun y hy => h y (List.mem_cons_of_mem _ hy)]
    rfl
theorem lcM_tt {β γ : Type} (f : β → γ) (xs : List β) : lcM (fun b => nox (lcT (Rs.ok true) (Rs.ok (f b)))) xs = .ok (xs.map f) := lcM_map f xs fun x _ => rfl
theorem lcM_fmap {β γ : Type} {g : β → Rs (Option γ)} (f : β → Option γ) : ∀ (xs : List β), (∀ x ∈ xs, g x = .ok (f x)) → lcM g xs = .ok (xs.filterMap f)
  | [], _ => rfl
  | x :: r, h => by
    unfold lcM
    rw [h x List.mem_cons_self, Rs.ok_bind, lcM_fmap f r fun y hy => h y (List.mem_cons_of_mem _ hy)]
    cases hx : f x <;> simp [Rs.ok_bind, List.filterMap_cons, hx]
theorem findSome_if {α β : Type} (p : α → Bool) (g : α → β) : ∀ xs : List α, xs.findSome? (fun t => if p t = true then some (g t) else none) = (xs.find? p).map g
  | [] => rfl
  | x :: r => by
    rw [List.findSome?_cons, List.find?_cons]
    cases h : p x with
    | true => simp
    | false => simp [findSome_if p g r]
theorem rangeL_mem {lo hi x : Int} (h : x ∈ rangeL lo hi) : lo ≤ x ∧ x < hi := by
  unfold rangeL at h
  obtain ⟨i, hi, rfl⟩ := List.mem_map.mp h
  have := List.mem_range.mp hi
  omega
theorem sl_take {α : Type} (xs : List α) {k : Int} (h : 0 ≤ k) : sl xs none (some k) = xs.take k.toNat := by
  unfold sl
  rw [HT.sIx_none]
  have e : HT.sIx xs.length xs.length (some k) = min k.toNat xs.length := by
    have := HT.sIx_nat xs.length xs.length k.toNat
    rwa [show ((k.toNat : Nat) : Int) = k by omega] at this
  rw [e, Nat.sub_zero, List.drop_zero]
  rcases Nat.le_total k.toNat xs.length with h | h
  · rw [Nat.min_eq_left h]
  · rw [Nat.min_eq_right h, List.take_of_length_le (Nat.le_refl _), List.take_of_length_le h]
theorem sl_drop {α : Type} (xs : List α) {k : Int} (h : 0 ≤ k) : sl xs (some k) none = xs.drop k.toNat := by
  unfold sl
  rw [HT.sIx_none]
  have e : HT.sIx xs.length 0 (some k) = min k.toNat xs.length := by
    have := HT.sIx_nat xs.length 0 k.toNat
    rwa [show ((k.toNat : Nat) : Int) = k by omega] at this
  rw [e]
  rcases Nat.le_total k.toNat xs.length with h | h
  · rw [Nat.min_eq_left h, List.take_of_length_le (by rw [List.length_drop]; exact Nat.le_refl _)]
  · rw [Nat.min_eq_right h, List.drop_eq_nil_of_le h, List.drop_eq_nil_of_le (Nat.le_refl _)]
    simp
theorem ixN_in {n : Nat} {i : Int} (h0 : 0 ≤ i) (h : i < n) : L2.ixN n i = some i.toNat := by
  unfold L2.ixN
  rw [if_pos h0, if_pos h]
theorem atI_in {α : Type} {xs : List α} {i : Int} (h0 : 0 ≤ i) (h : i < xs.length) : L2.atI xs i = xs[i.toNat]? := by
  unfold L2.atI
  rw [ixN_in h0 h]
  rfl
theorem rgOk_of {hi : Int} (h : hi ≤ 16777216) (h0 : 0 ≤ hi) : rgOk 0 hi = true := by
  unfold rgOk
  rw [decide_eq_true_eq, PySem.sizeLine_eq]
  omega
end TL
namespace TL
/-! M0b: outcomes that are values, with what is known of them. -/
def Okp {α : Type} (r : Rs α) (P : α → Prop) : Prop := ∃ a, r = .ok a ∧ P a
theorem Okp.ok {α : Type} {a : α} {P : α → Prop} (h : P a) : Okp (.ok a) P := ⟨a, rfl, h⟩
theorem Okp.bind {α β : Type} {r : Rs α} {k : α → Rs β} {P : β → Prop} (h : Okp r fun a => Okp (k a) P) : Okp (r.bind k) P := by
  obtain ⟨a, rfl, b, e, hb⟩ := h
  exact ⟨b, by rw [Rs.ok_bind, e], hb⟩
theorem Okp.mono {α : Type} {r : Rs α} {P Q : α → Prop} (h : Okp r P) (f : ∀ a, P a → Q a) : Okp r Q := let ⟨a, e, p⟩ := h; ⟨a, e, f a p⟩
theorem Okp.step {α β : Type} {r : Rs α} {k : α → Rs β} {P : β → Prop} {R : α → Prop} (h : Okp r R) (f : ∀ a, R a → Okp (k a) P) : Okp (r.bind k) P := Okp.bind (h.mono f)
theorem Okp.guard {α : Type} {c : Bool} {r : Rs α} {P : α → Prop} (hc : c = true) (h : Okp r P) : Okp (Rs.guard c r) P := by rw [Rs.guard_of hc]; exact h
theorem Okp.eq {α : Type} {r : Rs α} {x : α} (h : Okp r fun a => a = x) : r = .ok x := by
  obtain ⟨a, e, rfl⟩ := h
  exact e
theorem Okp.of {α : Type} {r : Rs α} {x : α} {P : α → Prop} (h : r = .ok x) (p : P x) : Okp r P := ⟨x, h, p⟩
theorem Okp.forR {β ρ S L α : Type} {b : β → S → Rs (Fl ρ S S)} {xs : List β} {s : S} {k : Fl ρ S L → Rs α} {Q : α → Prop} (P : List β → S → Prop) (hP : P xs s)
    (hs : ∀ x r s, P (x :: r) s → Okp (b x s) fun fl => ∃ s', (fl = .nx s' ∨ fl = .ct s') ∧ P r s') (hk : ∀ s', P [] s' → Okp (k (.nx s')) Q) : Okp ((forM b xs s).bind k) Q := by
  induction xs generalizing s with
  | nil => rw [forM_nil, Rs.ok_bind]; exact hk s hP
  | cons x r ih =>
    obtain ⟨fl, e, s', hf, p⟩ := hs x r s hP
    rw [forM_cons, e, Rs.ok_bind]
    rcases hf with rfl | rfl
    · rw [forK_nx]; exact ih p
    · rw [forK_ct]; exact ih p
theorem Okp.for {β ρ S L α : Type} {b : β → S → Rs (Fl ρ S S)} {xs : List β} {s : S} {k : Fl ρ S L → Rs α} {Q : α → Prop} (P : S → Prop) (hP : P s)
    (hs : ∀ x ∈ xs, ∀ s, P s → Okp (b x s) fun fl => ∃ s', (fl = .nx s' ∨ fl = .ct s') ∧ P s') (hk : ∀ s', P s' → Okp (k (.nx s')) Q) : Okp ((forM b xs s).bind k) Q :=
  Okp.forR (fun l s => (∀ x ∈ l, x ∈ xs) ∧ P s) ⟨fun _ h => h, hP⟩ (fun x r s h => (hs x (h.1 x List.mem_cons_self) s h.2).mono fun fl ⟨s', e, p⟩ => ⟨s', e, fun y hy => h.1 y (List.mem_cons_of_mem _ hy), p⟩) fun s' h => hk s' h.2
/-- .. with what is behind and what is left -/
theorem Okp.forS {β ρ S L α : Type} {b : β → S → Rs (Fl ρ S S)} {xs : List β} {s : S} {k : Fl ρ S L → Rs α} {Q : α → Prop} (P : List β → S → Prop) (hP : P [] s)
    (hs : ∀ d x r s, d ++ x :: r = xs → P d s → Okp (b x s) fun fl => ∃ s', (fl = .nx s' ∨ fl = .ct s') ∧ P (d ++ [x]) s') (hk : ∀ s', P xs s' → Okp (k (.nx s')) Q) : Okp ((forM b xs s).bind k) Q :=
  Okp.forR (fun l s => ∃ d, d ++ l = xs ∧ P d s) ⟨[], rfl, hP⟩ (fun x r s ⟨d, e, h⟩ => (hs d x r s e h).mono fun fl ⟨s', e', p⟩ => ⟨s', e', d ++ [x], by rw [← e]; simp, p⟩) fun s' ⟨d, e, h⟩ => hk s' (by rw [List.append_nil] at e; rw [← e]; exact h)
theorem Okp.ite {α : Type} {c : Prop} [Decidable c] {a b : Rs α} {P : α → Prop} (h1 : c → Okp a P) (h2 : ¬ c → Okp b P) : Okp (if c then a else b) P := by
  split
  · exact h1 (by assumption)
  · exact h2 (by assumption)
theorem Okp.and {x y : Rs Bool} {P : Bool → Prop} (h : Okp x fun a => (a = true → Okp y P) ∧ (a = false → P false)) : Okp (rAnd x y) P := by
  obtain ⟨a, rfl, h1, h2⟩ := h
  cases a with
  | true => exact h1 rfl
  | false => exact ⟨false, rfl, h2 rfl⟩
theorem Okp.or {x y : Rs Bool} {P : Bool → Prop} (h : Okp x fun a => (a = false → Okp y P) ∧ (a = true → P true)) : Okp (rOr x y) P := by
  obtain ⟨a, rfl, h1, h2⟩ := h
  cases a with
  | false => exact h1 rfl
  | true => exact ⟨true, rfl, h2 rfl⟩
/-- a loop that may hand back or break off -/
theorem Okp.forE {β ρ S L α : Type} {b : β → S → Rs (Fl ρ S S)} {xs : List β} {s : S} {k : Fl ρ S L → Rs α} {Q : α → Prop} (P : List β → S → Prop) (E : ρ → Prop) (B : S → Prop) (hP : P xs s)
    (hs : ∀ x r s, P (x :: r) s → Okp (b x s) fun fl => (∃ s', (fl = .nx s' ∨ fl = .ct s') ∧ P r s') ∨ (∃ z, fl = .rt z ∧ E z) ∨ ∃ s', fl = .bk s' ∧ B s') (hk : ∀ s', P [] s' → Okp (k (.nx s')) Q) (he : ∀ z, E z → Okp (k (.rt z)) Q) (hb : ∀ s', B s' → Okp (k (.nx s')) Q) : Okp ((forM b xs s).bind k) Q := by
  induction xs generalizing s with
  | nil => rw [forM_nil, Rs.ok_bind]; exact hk s hP
  | cons x r ih =>
    obtain ⟨fl, e, h⟩ := hs x r s hP
    rw [forM_cons, e, Rs.ok_bind]
    rcases h with ⟨s', rfl | rfl, p⟩ | ⟨z, rfl, p⟩ | ⟨s', rfl, p⟩
    · rw [forK_nx]; exact ih p
    · rw [forK_ct]; exact ih p
    · rw [forK_rt, Rs.ok_bind]; exact he z p
    · rw [forK_bk, Rs.ok_bind]; exact hb s' p
theorem Okp.lcE {β γ S : Type} {g : β → S → Rs (Option γ × S)} (P : List β → S → List γ → Prop) (hs : ∀ x r s ys, P (x :: r) s ys → Okp (g x s) fun o => P r o.2 (ys ++ o.1.toList)) : ∀ (xs : List β) (s : S) (acc : List γ), P xs s acc → Okp (TL.lcE g xs s) fun r => P [] r.2 (acc ++ r.1)
  | [], s, acc, h => ⟨_, rfl, by show P [] s (acc ++ []); rw [List.append_nil]; exact h⟩
  | x :: r, s, acc, h => by
    unfold TL.lcE
    refine (hs x r s acc h).step fun o ho => ?_
    refine (Okp.lcE P hs r o.2 _ ho).step fun ys hy => Okp.ok ?_
    rw [← List.append_assoc]
    exact hy
theorem Okp.nox {α : Type} {r : Rs α} {P : α → Prop} (h : Okp r P) : Okp (TL.nox r) P := by
  obtain ⟨a, rfl, p⟩ := h
  exact ⟨a, rfl, p⟩
theorem Okp.cases {α : Type} {r : Rs α} {P : α → Prop} (h : Okp r P) : ∃ a, r = .ok a ∧ P a := h
theorem Okp.go {α β : Type} {r : Rs α} {a : α} {k : α → Rs β} {P : β → Prop} (h : r = .ok a) (h2 : Okp (k a) P) : Okp (r.bind k) P := Okp.bind ⟨a, h, h2⟩
theorem Okp.goG {α β : Type} {c : Bool} {r : Rs α} {a : α} {k : α → Rs β} {P : β → Prop} (hc : c = true) (h : r = .ok a) (h2 : Okp (k a) P) : Okp ((Rs.guard c r).bind k) P := Okp.bind ⟨a, by rw [Rs.guard_of hc]; exact h, h2⟩
theorem Okp.goO {α β : Type} {o : Option α} {a : α} {k : α → Rs β} {P : β → Prop} (h : o = some a) (h2 : Okp (k a) P) : Okp ((Rs.ofOpt o).bind k) P := Okp.bind ⟨a, by rw [h]; rfl, h2⟩
end TL
/-! S1: rows of things with needs and rooms, in plain terms. -/
namespace SP
open TL
abbrev Sort3 := Option Int × Int × Option Int
def times : Option Int → Option Int → Option Int
  | a, b => if a = some 0 ∨ b = some 0 then some 0 else match a, b with
    | some x, some y => some (x * y)
    | _, _ => none
def plus : Option Int → Option Int → Option Int
  | some x, some y => some (x + y)
  | _, _ => none
def wkey (s : Sort3) : Int × Int := match s.2.2 with
  | none => (0, 0)
  | some h => (1, -h)
def wle (a b : Sort3) : Bool := lexLe (wkey a) (wkey b)
def wsort (rs : List Sort3) : List Sort3 := rs.mergeSort wle
def step (c : Option Int × Int) (s : Sort3) : Option Int × Int := match s.1 with
  | none => (plus c.1 (times none s.2.2), 0)
  | some k => (plus c.1 (times (some (k - min k c.2)) s.2.2), c.2 - min k c.2)
def rest (rs : List Sort3) (t : Int) : Option Int := ((wsort rs).foldl step (some 0, t)).1
def asked (ns : List Sort3) (t : Int) : Option Int := ns.foldl (fun a s => plus a (times s.1 (some (max (s.2.1 - t) 0)))) (some 0)
def kept (p : Option Int × Option Int) : Bool := match p.1, p.2 with
  | _, none => true
  | none, some _ => false
  | some l, some r => decide (l ≤ r)
/-- how many of a sort: none, or a number that is no great one -/
def Few (s : Sort3) : Prop := ∀ k, s.1 = some k → 0 ≤ k ∧ k < 4294967296
def top (ns : List Sort3) : Int := (ns.filterMap fun s => if s.1 = some 0 then none else some s.2.1).foldl max 0
def fails (ns rs : List Sort3) (t : Int) : Bool := !kept (asked ns t, rest rs t)
def short (ns rs : List Sort3) : Option Int := (rangeL 0 (top ns)).find? (fails ns rs)
def capF (n : Int) : Option Int → Int
  | none => n
  | some x => min x n
end SP
/-! S2: one row after the other, always the widest rooms. -/
namespace SP
open TL
def rv (rest : List Int) (y : Int) : Int := rest.getD y.toNat 0
def prs (rest : List Int) : List (Int × Int) := (rangeL 0 rest.length).filterMap fun y => if 0 < rv rest y then some (-(rv rest y), y) else none
def order (rest : List Int) : List Int := (srtP (prs rest)).map (·.2)
def row (rest : List Int) (k : Int) : List Int := srt ((order rest).take k.toNat)
def dec (rest : List Int) (r : List Int) : List Int := r.foldl (fun l y => l.set y.toNat (rv l y - 1)) rest
def gstep (c : List Int × List (List Int)) (k : Int) : List Int × List (List Int) := (dec c.1 (row c.1 k), c.2 ++ [row c.1 k])
def caps (rs : List (Option Int)) (n : Int) : List Int := rs.map (capF n)
def greedy (ks : List Int) (rs : List (Option Int)) : List (List Int) := (ks.foldl gstep (caps rs ks.length, [])).2
def lacks (ks : List Int) (web : List (List Int)) (x : Int) : Bool := decide (((web.getD x.toNat []).length : Int) < ks.getD x.toNat 0)
def half (ks : List Int) (rs : List (Option Int)) : Option (List (List Int)) := match (rangeL 0 ks.length).find? (lacks ks (greedy ks rs)) with
  | some _ => none
  | none => some (greedy ks rs)
theorem mem_prs {rest : List Int} {p : Int × Int} : p ∈ prs rest ↔ (0 ≤ p.2 ∧ p.2 < rest.length) ∧ 0 < rv rest p.2 ∧ p.1 = -(rv rest p.2) := by
  unfold prs
  rw [List.mem_filterMap]
  constructor
  · rintro ⟨y, hy, h⟩
    by_cases hp : 0 < rv rest y
    · rw [if_pos hp] at h
      cases h
      exact ⟨rangeL_mem hy, hp, rfl⟩
    · rw [if_neg hp] at h
      cases h
  · rintro ⟨⟨h1, h2⟩, h3, h4⟩
    refine ⟨p.2, ?_, by rw [if_pos h3, ← h4]⟩
    unfold rangeL
    refine List.mem_map.mpr ⟨p.2.toNat, List.mem_range.mpr (by omega), by omega⟩
theorem rangeL_nodup (lo hi : Int) : (rangeL lo hi).Pairwise (· < ·) := by
  unfold rangeL
  rw [List.pairwise_map]
  exact List.pairwise_lt_range.imp fun h => by omega
theorem prs_pw (rest : List Int) : (prs rest).Pairwise (fun a b => a.2 < b.2) := by
  unfold prs
  rw [List.pairwise_filterMap]
  refine (rangeL_nodup 0 rest.length).imp fun {y z} h p hp q hq => ?_
  split at hp
  · split at hq
    · cases hp; cases hq; exact h
    · cases hq
  · cases hp
theorem srtP_perm (l : List (Int × Int)) : (srtP l).Perm l := List.mergeSort_perm l lexLe
theorem srtP_pw (l : List (Int × Int)) : (srtP l).Pairwise (fun a b => lexLe a b = true) := List.pairwise_mergeSort (le := lexLe) (fun a b c => lexLe_trans a b c) (fun a b => lexLe_total a b) l
theorem mem_order {rest : List Int} {y : Int} : y ∈ order rest ↔ (0 ≤ y ∧ y < rest.length) ∧ 0 < rv rest y := by
  unfold order
  rw [List.mem_map]
  constructor
  · rintro ⟨p, hp, rfl⟩
    obtain ⟨h1, h2, _⟩ := mem_prs.mp ((srtP_perm _).mem_iff.mp hp)
    exact ⟨h1, h2⟩
  · rintro ⟨h1, h2⟩
    exact ⟨(-(rv rest y), y), (srtP_perm _).mem_iff.mpr (mem_prs.mpr ⟨h1, h2, rfl⟩), rfl⟩
theorem order_nodup (rest : List Int) : (order rest).Nodup := by
  have h : ((prs rest).map (·.2)).Nodup := by
    rw [List.nodup_iff_pairwise_ne, List.pairwise_map]
    exact (prs_pw rest).imp fun h => by omega
  exact ((srtP_perm (prs rest)).map (·.2)).nodup_iff.mpr h
theorem order_down (rest : List Int) (k : Nat) : ∀ y ∈ (order rest).take k, ∀ z ∈ (order rest).drop k, rv rest z ≤ rv rest y := by
  intro y hy z hz
  unfold order at hy hz
  rw [← List.map_take] at hy
  rw [← List.map_drop] at hz
  obtain ⟨p, hp, rfl⟩ := List.mem_map.mp hy
  obtain ⟨q, hq, rfl⟩ := List.mem_map.mp hz
  have h := srtP_pw (prs rest)
  rw [← List.take_append_drop k (srtP (prs rest))] at h
  have hpq := (List.pairwise_append.mp h).2.2 p hp q hq
  have h1 := (mem_prs.mp ((srtP_perm _).mem_iff.mp (List.mem_of_mem_take hp))).2.2
  have h2 := (mem_prs.mp ((srtP_perm _).mem_iff.mp (List.mem_of_mem_drop hq))).2.2
  unfold lexLe at hpq
  simp only [Bool.or_eq_true, decide_eq_true_eq, Bool.and_eq_true] at hpq
  omega
theorem mem_row {rest : List Int} {k y : Int} : y ∈ row rest k ↔ y ∈ (order rest).take k.toNat := (srt_perm _).mem_iff
theorem row_pos {rest : List Int} {k y : Int} (h : y ∈ row rest k) : (0 ≤ y ∧ y < rest.length) ∧ 0 < rv rest y := mem_order.mp (List.mem_of_mem_take (mem_row.mp h))
theorem row_lt (rest : List Int) (k : Int) : (row rest k).Pairwise (· < ·) := by
  have h1 := srt_le ((order rest).take k.toNat)
  have h2 : (row rest k).Nodup := (srt_perm _).nodup_iff.mpr ((order_nodup rest).sublist (List.take_sublist _ _))
  have h3 := List.nodup_iff_pairwise_ne.mp h2
  exact (List.pairwise_and_iff.mpr ⟨h1, h3⟩).imp fun h => by omega
theorem row_nodup (rest : List Int) (k : Int) : (row rest k).Nodup := List.nodup_iff_pairwise_ne.mpr ((row_lt rest k).imp fun h => by omega)
theorem row_down {rest : List Int} {k y z : Int} (hy : y ∈ row rest k) (hz : (0 ≤ z ∧ z < rest.length) ∧ 0 < rv rest z) (hn : z ∉ row rest k) : rv rest z ≤ rv rest y := by
  refine order_down rest k.toNat y (mem_row.mp hy) z ?_
  have h := mem_order.mpr hz
  rw [← List.take_append_drop k.toNat (order rest)] at h
  rcases List.mem_append.mp h with h | h
  · exact absurd (mem_row.mpr h) hn
  · exact h
def npos (rest : List Int) : Nat := (List.range rest.length).countP fun (i : Nat) => decide (0 < rv rest (i : Int))
theorem order_len (rest : List Int) : (order rest).length = npos rest := by
  unfold order npos
  rw [List.length_map, (srtP_perm _).length_eq]
  unfold prs rangeL
  rw [List.filterMap_map, List.countP_eq_length_filter]
  have : ((rest.length : Int) - 0).toNat = rest.length := by omega
  rw [this]
  have hf : ((fun y => if 0 < rv rest y then some (-rv rest y, y) else none) ∘ fun (i : Nat) => (0 : Int) + (i : Int)) = fun (i : Nat) => if 0 < rv rest (i : Int) then some (-rv rest (i : Int), (i : Int)) else none := by
    funext i
    simp [Function.comp]
  rw [hf]
  generalize List.range rest.length = l
  induction l with
  | nil => rfl
  | cons i r ih =>
    rw [List.filterMap_cons, List.filter_cons]
    by_cases h : 0 < rv rest i
    · simp [h, ih]
    · simp [h, ih]
theorem row_len (rest : List Int) (k : Int) : (row rest k).length = min k.toNat (npos rest) := by
  unfold row
  rw [(srt_perm _).length_eq, List.length_take, order_len]
theorem rv_set {l : List Int} {a v y : Int} (ha : 0 ≤ a ∧ a < l.length) (hy : 0 ≤ y) : rv (l.set a.toNat v) y = if y = a then v else rv l y := by
  unfold rv
  rw [List.getD_eq_getElem?_getD, List.getD_eq_getElem?_getD, List.getElem?_set]
  by_cases h : y = a
  · rw [if_pos h, if_pos (by rw [h]), if_pos (by omega)]
    rfl
  · rw [if_neg h, if_neg (by omega)]
theorem dec_len : ∀ (r : List Int) (l : List Int), (dec l r).length = l.length
  | [], l => rfl
  | a :: r, l => by
    show (dec (l.set a.toNat (rv l a - 1)) r).length = _
    rw [dec_len r, List.length_set]
theorem rv_dec : ∀ (r : List Int) (l : List Int), r.Nodup → (∀ y ∈ r, 0 ≤ y ∧ y < l.length) → ∀ y, 0 ≤ y → rv (dec l r) y = rv l y - (if y ∈ r then 1 else 0)
  | [], l, _, _, y, _ => by
    show rv l y = _
    simp
  | a :: r, l, hn, hm, y, hy => by
    obtain ⟨h1, h2⟩ := List.nodup_cons.mp hn
    have ha := hm a List.mem_cons_self
    show rv (dec (l.set a.toNat (rv l a - 1)) r) y = _
    rw [rv_dec r _ h2 (fun z hz => by rw [List.length_set]; exact hm z (List.mem_cons_of_mem _ hz)) y hy, rv_set ha hy]
    by_cases h : y = a
    · rw [if_pos h, h, if_neg h1, if_pos List.mem_cons_self]
      omega
    · rw [if_neg h]
      by_cases h3 : y ∈ r
      · rw [if_pos h3, if_pos (List.mem_cons_of_mem _ h3)]
      · rw [if_neg h3, if_neg (by rw [List.mem_cons]; exact fun z => z.elim h h3)]
def inRows (web : List (List Int)) (y : Int) : Nat := web.countP fun r => decide (y ∈ r)
/-- what stands after some rows -/
structure G (r0 rest : List Int) (web : List (List Int)) : Prop where
  len : rest.length = r0.length
  cnt : ∀ y : Int, 0 ≤ y → y < r0.length → rv rest y = rv r0 y - inRows web y
  pos : ∀ y : Int, 0 ≤ y → y < r0.length → 0 ≤ rv rest y
  rows : ∀ r ∈ web, r.Pairwise (· < ·) ∧ ∀ y ∈ r, 0 ≤ y ∧ y < r0.length
theorem G.zero {r0 : List Int} (h : ∀ y : Int, 0 ≤ y → y < r0.length → 0 ≤ rv r0 y) : G r0 r0 [] := ⟨rfl, fun y _ _ => by simp [inRows], h, fun r hr => by simp at hr⟩
theorem G.step {r0 rest : List Int} {web : List (List Int)} (g : G r0 rest web) (k : Int) : G r0 (dec rest (row rest k)) (web ++ [row rest k]) := by
  have hm : ∀ y ∈ row rest k, 0 ≤ y ∧ y < rest.length := fun y hy => (row_pos hy).1
  refine ⟨by rw [dec_len, g.len], fun y h0 h1 => ?_, fun y h0 h1 => ?_, fun r hr => ?_⟩
  · rw [rv_dec _ _ (row_nodup _ _) hm y h0, g.cnt y h0 h1]
    unfold inRows
    rw [List.countP_append]
    by_cases h : y ∈ row rest k <;> simp [h] <;> omega
  · rw [rv_dec _ _ (row_nodup _ _) hm y h0]
    have := g.pos y h0 h1
    by_cases h : y ∈ row rest k
    · rw [if_pos h]
      have := (row_pos h).2
      omega
    · rw [if_neg h]
      omega
  · rcases List.mem_append.mp hr with hr | hr
    · exact g.rows r hr
    · rw [List.mem_singleton.mp hr]
      exact ⟨row_lt _ _, fun y hy => by rw [← g.len]; exact hm y hy⟩
theorem G.all {r0 : List Int} : ∀ (ks : List Int) (rest : List Int) (web : List (List Int)), G r0 rest web → G r0 (ks.foldl gstep (rest, web)).1 (ks.foldl gstep (rest, web)).2
  | [], rest, web, g => g
  | k :: ks, rest, web, g => G.all ks _ _ (g.step k)
theorem gfold_len : ∀ (ks : List Int) (c : List Int × List (List Int)), (ks.foldl gstep c).2.length = c.2.length + ks.length
  | [], c => rfl
  | k :: ks, c => by
    show (ks.foldl gstep (gstep c k)).2.length = _
    rw [gfold_len ks]
    show (c.2 ++ [row c.1 k]).length + ks.length = _
    simp only [List.length_append, List.length_cons, List.length_nil]
    omega
theorem greedy_len (ks : List Int) (rs : List (Option Int)) : (greedy ks rs).length = ks.length := by
  unfold greedy
  rw [gfold_len]
  simp
/-- the columns -/
def cols (web : List (List Int)) (n : Int) : List Int := (rangeL 0 n).map fun y => (inRows web y : Int)
def turned (web : List (List Int)) (n : Int) : List (List Int) := (rangeL 0 n).map fun y => (rangeL 0 web.length).filter fun x => decide (y ∈ web.getD x.toNat [])
end SP
/-! S3: two things of need a against t of great room and some of room 1. -/
namespace SP
open TL
theorem wle_trans (a b c : Sort3) (h1 : wle a b = true) (h2 : wle b c = true) : wle a c = true := lexLe_trans _ _ _ h1 h2
theorem wle_total (a b : Sort3) : (wle a b || wle b a) = true := lexLe_total _ _
/-- the sorted row is known -/
theorem wsort_eq {rs S : List Sort3} (hp : rs.Perm S) (hs : S.Pairwise fun a b => wle a b = true) (hk : ∀ a ∈ S, ∀ b ∈ S, wkey a = wkey b → a = b) : wsort rs = S := by
  have h2 : (wsort rs).Pairwise fun a b => wle a b = true := List.pairwise_mergeSort (le := wle) wle_trans wle_total rs
  have h3 : (wsort rs).Perm S := (List.mergeSort_perm rs wle).trans hp
  exact List.Perm.eq_of_pairwise (fun a b ha hb h1 h2 => hk a (h3.mem_iff.mp ha) b hb (lexLe_anti _ _ h1 h2)) h2 hs h3
theorem times_some (x y : Int) : times (some x) (some y) = some (x * y) := by
  unfold times
  by_cases hx : x = 0
  · simp [hx]
  · by_cases hy : y = 0
    · simp [hy]
    · simp [hx, hy]
theorem plus_some (x y : Int) : plus (some x) (some y) = some (x + y) := rfl
theorem step_some (s u k h : Int) (lo : Int) : step (some s, u) (some k, lo, some h) = (some (s + (k - min k u) * h), u - min k u) := by
  unfold step
  simp only [times_some, plus_some]
theorem fold_one (h : Int) : ∀ (n : Nat) (s u : Int), 0 ≤ u → (List.replicate n ((some 1, 0, some h) : Sort3)).foldl step (some s, u) = (some (s + (max 0 (n - u)) * h), max 0 (u - n))
  | 0, s, u, hu => by
    have e1 : max 0 (((0 : Nat) : Int) - u) = 0 := by omega
    have e2 : max 0 (u - ((0 : Nat) : Int)) = u := by omega
    rw [e1, e2]
    simp
  | n + 1, s, u, hu => by
    rw [List.replicate_succ, List.foldl_cons, step_some, fold_one h n _ _ (by omega)]
    rcases Int.lt_or_le 0 u with h0 | h0
    · have e1 : min 1 u = 1 := by omega
      rw [e1]
      have e2 : max 0 ((n : Int) - (u - 1)) = max 0 (((n + 1 : Nat) : Int) - u) := by omega
      have e3 : max 0 (u - 1 - (n : Int)) = max 0 (u - ((n + 1 : Nat) : Int)) := by omega
      rw [e2, e3]
      simp
    · have e0 : u = 0 := by omega
      subst e0
      have e1 : max 0 ((n : Int) - (0 - min 1 0)) = n := by omega
      have e2 : max 0 (((n + 1 : Nat) : Int) - 0) = n + 1 := by omega
      have e3 : max 0 (0 - min 1 0 - (n : Int)) = 0 := by omega
      have e4 : max 0 (0 - ((n + 1 : Nat) : Int)) = 0 := by omega
      rw [e1, e2, e3, e4]
      have e5 : min (1 : Int) 0 = 0 := rfl
      have e6 : ((n : Int) + 1) * h = n * h + h := by rw [Int.add_mul, Int.one_mul]
      rw [e5, e6, Int.sub_zero, Int.one_mul]
      congr 2
      omega
theorem times_none (k : Int) : times (some k) none = if k = 0 then some 0 else none := by
  unfold times
  by_cases h : k = 0 <;> simp [h]
theorem fold_lost : ∀ (l : List Sort3) (u : Int), (l.foldl step (none, u)).1 = none
  | [], u => rfl
  | x :: r, u => by
    rw [List.foldl_cons]
    have : ∃ u', step (none, u) x = (none, u') := by
      obtain ⟨a, b, c⟩ := x
      cases a with
      | none => exact ⟨0, by unfold step; cases times none c <;> rfl⟩
      | some k => exact ⟨u - min k u, by unfold step; cases times (some (k - min k u)) c <;> rfl⟩
    obtain ⟨u', e⟩ := this
    rw [e]
    exact fold_lost r u'
theorem fold_wide : ∀ (n : Nat) (s u : Int), 0 ≤ u → (n : Int) ≤ u → (List.replicate n ((some 1, 0, none) : Sort3)).foldl step (some s, u) = (some s, u - n)
  | 0, s, u, hu, hn => by simp
  | n + 1, s, u, hu, hn => by
    rw [List.replicate_succ, List.foldl_cons]
    have e1 : min 1 u = 1 := by omega
    have e : step (some s, u) (some 1, 0, none) = (some s, u - 1) := by
      unfold step
      simp only [e1, times_none]
      simp [plus]
    rw [e, fold_wide n s (u - 1) (by omega) (by omega)]
    congr 1
    omega
theorem fold_wide_lost (r : List Sort3) : ∀ (n : Nat) (s u : Int), 0 ≤ u → u < n → ((List.replicate n ((some 1, 0, none) : Sort3) ++ r).foldl step (some s, u)).1 = none
  | 0, s, u, hu, hn => by omega
  | n + 1, s, u, hu, hn => by
    rw [List.replicate_succ, List.cons_append, List.foldl_cons]
    rcases Int.lt_or_le 0 u with h0 | h0
    · have e1 : min 1 u = 1 := by omega
      have e : step (some s, u) (some 1, 0, none) = (some s, u - 1) := by
        unfold step
        simp only [e1, times_none]
        simp [plus]
      rw [e]
      exact fold_wide_lost r n s (u - 1) (by omega) (by omega)
    · have e0 : u = 0 := by omega
      subst e0
      have e : step (some s, 0) (some 1, 0, none) = (none, 0) := by
        unfold step
        simp only [times_none]
        rfl
      rw [e]
      exact fold_lost _ _
/-- what the law reckons -/
def due (a t : Int) (g : Option Int) (o u : Int) : Option Int × Option Int :=
  (some (2 * max 0 (a - u)), match g with
    | none => if u < t then none else some (max 0 (o - (u - t)))
    | some h => if u < t then some ((t - u) * h + o) else some (max 0 (o - (u - t))))
def great (g : Option Int) : Prop := ∀ h, g = some h → 2 ≤ h
def sorted1 (t o : Nat) (g : Option Int) : List Sort3 := List.replicate t (some 1, 0, g) ++ (List.replicate o (some 1, 0, some 1) ++ [(some 1, 0, some 0)])
theorem rest1 (t o : Nat) (g : Option Int) (hg : great g) (rs : List Sort3) (hp : rs.Perm (sorted1 t o g)) (u : Int) (hu : 0 ≤ u) : rest rs u = (due 0 t g o u).2 := by
  have hs : (sorted1 t o g).Pairwise fun a b => wle a b = true := by
    unfold sorted1
    have wg : ∀ b : Sort3, b = (some 1, 0, some 1) ∨ b = (some 1, 0, some 0) → wle (some 1, 0, g) b = true := fun b hb => by
      cases g with
      | none => rcases hb with rfl | rfl <;> rfl
      | some h =>
        have := hg h rfl
        rcases hb with rfl | rfl <;> (unfold wle lexLe wkey; simp; omega)
    have rp : ∀ (n : Nat) (x : Sort3), (List.replicate n x).Pairwise fun a b => wle a b = true := fun n x => by
      rw [List.pairwise_replicate]
      exact .inr (by have := wle_total x x; simpa using this)
    rw [List.pairwise_append]
    refine ⟨rp _ _, ?_, fun a ha b hb => ?_⟩
    · rw [List.pairwise_append]
      refine ⟨rp _ _, by simp, fun a ha b hb => ?_⟩
      rw [List.eq_of_mem_replicate ha, List.mem_singleton.mp hb]
      rfl
    · rw [List.eq_of_mem_replicate ha]
      refine wg b ?_
      rcases List.mem_append.mp hb with hb | hb
      · exact .inl (List.eq_of_mem_replicate hb)
      · exact .inr (List.mem_singleton.mp hb)
  have hk : ∀ a ∈ sorted1 t o g, ∀ b ∈ sorted1 t o g, wkey a = wkey b → a = b := by
    have form : ∀ a ∈ sorted1 t o g, ∃ r, a = (some 1, 0, r) := fun a ha => by
      unfold sorted1 at ha
      rcases List.mem_append.mp ha with h | h
      · exact ⟨g, List.eq_of_mem_replicate h⟩
      · rcases List.mem_append.mp h with h | h
        · exact ⟨_, List.eq_of_mem_replicate h⟩
        · exact ⟨_, List.mem_singleton.mp h⟩
    intro a ha b hb e
    obtain ⟨r, rfl⟩ := form a ha
    obtain ⟨q, rfl⟩ := form b hb
    cases r <;> cases q <;> simp [wkey] at e ⊢ <;> omega
  unfold rest
  rw [wsort_eq hp hs hk]
  unfold sorted1 due
  cases g with
  | none =>
    simp only
    by_cases h : u < t
    · rw [if_pos h]
      exact fold_wide_lost _ t 0 u hu h
    · rw [if_neg h, List.foldl_append, fold_wide t 0 u hu (by omega), List.foldl_append, fold_one 1 o _ _ (by omega), List.foldl_cons, step_some]
      simp
  | some h =>
    simp only
    rw [List.foldl_append, fold_one h t 0 u hu, List.foldl_append, fold_one 1 o _ _ (by omega), List.foldl_cons, step_some]
    by_cases hh : u < t
    · rw [if_pos hh]
      have e1 : max 0 ((t : Int) - u) = t - u := by omega
      have e2 : max 0 ((o : Int) - max 0 (u - t)) = o := by omega
      simp [e1, e2]
    · rw [if_neg hh]
      have e1 : max 0 ((t : Int) - u) = 0 := by omega
      have e2 : max 0 (u - (t : Int)) = u - t := by omega
      simp [e1, e2]
end SP
namespace SP
open TL
theorem rest2 (t o : Nat) (g : Option Int) (hg : great g) (u : Int) (hu : 0 ≤ u) : rest [(some (o : Int), 0, some 1), (some (t : Int), 0, g), (some 3, 0, some 0)] u = (due 0 t g o u).2 := by
  have hw : wsort [(some (o : Int), 0, some 1), (some (t : Int), 0, g), (some 3, 0, some 0)] = [(some (t : Int), 0, g), (some (o : Int), 0, some 1), (some 3, 0, some 0)] := by
    refine wsort_eq (List.Perm.swap _ _ _) ?_ ?_
    · cases g with
      | none => simp [wle, lexLe, wkey]
      | some h =>
        have := hg h rfl
        simp [wle, lexLe, wkey]
        omega
    · intro a ha b hb e
      cases g with
      | none =>
        simp only [List.mem_cons, List.mem_nil_iff, or_false] at ha hb
        rcases ha with rfl | rfl | rfl <;> rcases hb with rfl | rfl | rfl <;> first | rfl | (simp [wkey] at e)
      | some h =>
        have := hg h rfl
        simp only [List.mem_cons, List.mem_nil_iff, or_false] at ha hb
        rcases ha with rfl | rfl | rfl <;> rcases hb with rfl | rfl | rfl <;> first | rfl | (simp [wkey] at e; omega) | (simp [wkey] at e)
  unfold rest
  rw [hw]
  unfold due
  cases g with
  | none =>
    simp only
    by_cases h : u < t
    · rw [if_pos h]
      have e : step (some 0, u) (some (t : Int), 0, none) = (none, u - min (t : Int) u) := by
        unfold step
        have : ¬ ((t : Int) - min (t : Int) u = 0) := by omega
        simp only [times_none, if_neg this]
        rfl
      rw [List.foldl_cons, e]
      exact fold_lost _ _
    · rw [if_neg h]
      have e : step (some 0, u) (some (t : Int), 0, none) = (some 0, u - t) := by
        unfold step
        have e1 : min (t : Int) u = t := by omega
        have e2 : (t : Int) - t = 0 := by omega
        simp only [times_none, e1, e2]
        rfl
      rw [List.foldl_cons, e, List.foldl_cons, step_some, List.foldl_cons, step_some]
      simp
      omega
  | some h =>
    simp only
    rw [List.foldl_cons, step_some, List.foldl_cons, step_some, List.foldl_cons, step_some]
    by_cases hh : u < t
    · rw [if_pos hh]
      have e1 : min (t : Int) u = u := by omega
      have e2 : u - u = 0 := by omega
      have e3 : min (o : Int) 0 = 0 := by omega
      simp [e1, e2, e3]
    · rw [if_neg hh]
      have e1 : min (t : Int) u = t := by omega
      simp [e1]
      omega
theorem asked1 (a u : Int) (ha : 0 ≤ a) (hu : 0 ≤ u) (k : Nat) (hk : k < 3) : asked ((([a, 0, a] : List Int).drop k ++ ([a, 0, a] : List Int).take k).map fun n => ((some 1, n, some n) : Sort3)) u = some (2 * max 0 (a - u)) := by
  have hk : k = 0 ∨ k = 1 ∨ k = 2 := by omega
  rcases hk with rfl | rfl | rfl
  · simp [asked, times_some, plus_some]; omega
  · simp [asked, times_some, plus_some]; omega
  · simp [asked, times_some, plus_some]; omega
theorem asked2 (a u : Int) (hu : 0 ≤ u) : asked [(some 0, 9, some 9), (some 2, a, some a)] u = some (2 * max 0 (a - u)) := by
  simp [asked, times_some, plus_some]; omega
theorem top1 (a : Int) (ha : 0 ≤ a) (k : Nat) (hk : k < 3) : top ((([a, 0, a] : List Int).drop k ++ ([a, 0, a] : List Int).take k).map fun n => ((some 1, n, some n) : Sort3)) = a := by
  have hk : k = 0 ∨ k = 1 ∨ k = 2 := by omega
  rcases hk with rfl | rfl | rfl
  · simp [top]; omega
  · simp [top]; omega
  · simp [top]; omega
theorem top2 (a : Int) (ha : 0 ≤ a) : top [(some 0, 9, some 9), (some 2, a, some a)] = a := by
  simp [top]; omega
/-- where the sums fail first -/
def first (a t : Int) (g : Option Int) (o : Int) : Option Int := (rangeL 0 a).find? fun u => !kept (due a t g o u)
end SP
/-! S5: how many rooms are left behind a row. -/
namespace SP
open TL
theorem countP_two {α : Type} {p q r : α → Bool} : ∀ {l : List α}, (∀ i ∈ l, p i = (q i || r i) ∧ (q i && r i) = false) → l.countP p = l.countP q + l.countP r
  | [], _ => rfl
  | x :: l, h => by
    obtain ⟨h1, h2⟩ := h x List.mem_cons_self
    have ih := countP_two (p := p) (q := q) (r := r) (l := l) fun i hi => h i (List.mem_cons_of_mem _ hi)
    rw [List.countP_cons, List.countP_cons, List.countP_cons, ih, h1]
    cases hq : q x <;> cases hr : r x <;> simp [hq, hr] at h2 ⊢ <;> omega
theorem countP_range {p : Int → Bool} : ∀ (l : List Int), (List.range l.length).countP (fun i : Nat => p (l.getD i 0)) = l.countP p
  | [] => rfl
  | x :: l => by
    rw [List.length_cons, List.range_succ_eq_map, List.countP_cons, List.countP_map, List.countP_cons]
    have : (fun i : Nat => p (l.getD i 0)) = ((fun i : Nat => p ((x :: l).getD i 0)) ∘ Nat.succ) := by
      funext i
      simp
    rw [← this, countP_range l]
    simp
theorem rv_nat (l : List Int) (i : Nat) : rv l (i : Int) = l.getD i 0 := by
  unfold rv
  rw [Int.toNat_natCast]
theorem npos_eq (l : List Int) : npos l = l.countP fun v => decide (0 < v) := by
  unfold npos
  rw [← countP_range l]
  congr 1
def ntwo (l : List Int) : Nat := (List.range l.length).countP fun i : Nat => decide (2 ≤ rv l (i : Int))
theorem ntwo_eq (l : List Int) : ntwo l = l.countP fun v => decide (2 ≤ v) := by
  unfold ntwo
  rw [← countP_range l]
  congr 1
theorem row_count (rest : List Int) (k : Int) : (List.range rest.length).countP (fun i : Nat => decide ((i : Int) ∈ row rest k)) = (row rest k).length := by
  rw [List.countP_eq_length_filter]
  have h1 : ((List.range rest.length).filter fun i : Nat => decide ((i : Int) ∈ row rest k)).Nodup := List.nodup_range.sublist List.filter_sublist
  have h2 : (((List.range rest.length).filter fun i : Nat => decide ((i : Int) ∈ row rest k)).map fun i : Nat => (i : Int)).Nodup := by
    rw [List.nodup_iff_pairwise_ne, List.pairwise_map]
    exact (List.nodup_iff_pairwise_ne.mp h1).imp fun h => by omega
  have h3 : (((List.range rest.length).filter fun i : Nat => decide ((i : Int) ∈ row rest k)).map fun i : Nat => (i : Int)).Perm (row rest k) := by
    refine (List.perm_ext_iff_of_nodup h2 (row_nodup rest k)).mpr fun y => ?_
    rw [List.mem_map]
    constructor
    · rintro ⟨i, hi, rfl⟩
      exact of_decide_eq_true (List.mem_filter.mp hi).2
    · intro hy
      have := (row_pos hy).1
      refine ⟨y.toNat, List.mem_filter.mpr ⟨List.mem_range.mpr (by omega), decide_eq_true ?_⟩, by omega⟩
      rw [show ((y.toNat : Nat) : Int) = y by omega]
      exact hy
  rw [← h3.length_eq, List.length_map]
/-- a row that is wider than the great rooms takes them all -/
theorem row_all {rest : List Int} {k : Int} (h1 : ntwo rest < (row rest k).length) {z : Int} (hz : 0 ≤ z ∧ z < rest.length) (h2 : 2 ≤ rv rest z) : z ∈ row rest k := by
  apply Classical.byContradiction
  intro hn
  have h3 : (List.range rest.length).countP (fun i : Nat => decide ((i : Int) ∈ row rest k)) ≤ ntwo rest := by
    unfold ntwo
    refine List.countP_mono_left fun i hi h => ?_
    have hm := of_decide_eq_true h
    have := row_down hm ⟨hz, by omega⟩ hn
    exact decide_eq_true (by omega)
  rw [row_count] at h3
  omega
theorem npos_dec {rest : List Int} {k : Int} (h1 : ntwo rest < (row rest k).length) : npos (dec rest (row rest k)) + (row rest k).length = npos rest + ntwo rest := by
  have hv : ∀ i : Nat, rv (dec rest (row rest k)) (i : Int) = rv rest i - (if (i : Int) ∈ row rest k then 1 else 0) := fun i => rv_dec _ _ (row_nodup _ _) (fun y hy => (row_pos hy).1) i (by omega)
  have a1 : npos rest = npos (dec rest (row rest k)) + (List.range rest.length).countP fun i : Nat => decide ((i : Int) ∈ row rest k ∧ rv rest i = 1) := by
    unfold npos
    rw [dec_len]
    refine countP_two fun i hi => ?_
    rw [hv i]
    by_cases hm : (i : Int) ∈ row rest k
    · have hp := (row_pos hm).2
      rw [if_pos hm]
      by_cases e : rv rest i = 1
      · simp [hm, e]
      · have : 0 < rv rest i - 1 := by omega
        simp [hm, e, this, hp]
        omega
    · rw [if_neg hm]
      simp [hm]
  have a2 : (row rest k).length = (List.range rest.length).countP (fun i : Nat => decide ((i : Int) ∈ row rest k ∧ rv rest i = 1)) + ntwo rest := by
    rw [← row_count]
    unfold ntwo
    refine countP_two fun i hi => ?_
    have hi := List.mem_range.mp hi
    by_cases hm : (i : Int) ∈ row rest k
    · have hp := (row_pos hm).2
      by_cases e : rv rest i = 1
      · simp [hm, e]
      · have : 2 ≤ rv rest i := by omega
        simp [hm, e, this]
    · have : ¬ (2 ≤ rv rest i) := fun h => hm (row_all h1 ⟨by omega, by omega⟩ h)
      simp [hm, this]
  omega
theorem row_zero (rest : List Int) : row rest 0 = [] := by
  unfold row
  simp [srt]
theorem dec_nil (rest : List Int) : dec rest [] = rest := rfl
theorem rot_cases (a : Int) {k : Nat} (hk : k < 3) : ([a, 0, a] : List Int).drop k ++ ([a, 0, a] : List Int).take k = [a, 0, a] ∨ ([a, 0, a] : List Int).drop k ++ ([a, 0, a] : List Int).take k = [0, a, a] ∨ ([a, 0, a] : List Int).drop k ++ ([a, 0, a] : List Int).take k = [a, a, 0] := by
  have hk : k = 0 ∨ k = 1 ∨ k = 2 := by omega
  rcases hk with rfl | rfl | rfl
  · exact .inl rfl
  · exact .inr (.inl rfl)
  · exact .inr (.inr rfl)
section
variable (a : Int) (rs : List (Option Int))
abbrev c0 : List Int := caps rs 3
abbrev w1 : List Int := row (c0 rs) a
abbrev c1 : List Int := dec (c0 rs) (w1 a rs)
abbrev w2 : List Int := row (c1 a rs) a
theorem greedy_a : greedy [a, 0, a] rs = [w1 a rs, [], w2 a rs] := by simp [greedy, gstep, row_zero, dec_nil]
theorem greedy_b : greedy [0, a, a] rs = [[], w1 a rs, w2 a rs] := by simp [greedy, gstep, row_zero, dec_nil]
theorem greedy_c : greedy [a, a, 0] rs = [w1 a rs, w2 a rs, []] := by simp [greedy, gstep, row_zero, dec_nil]
theorem w1_len {n : Nat} (ha : 0 ≤ a) (hn : npos (c0 rs) = n) (h : a ≤ n) : ((w1 a rs).length : Int) = a := by
  rw [row_len, hn]
  omega
theorem w2_len {t o : Nat} (ha : 0 ≤ a) (hn : npos (c0 rs) = t + o) (ht : ntwo (c0 rs) = t) (h1 : (t : Int) < a) (h2 : a ≤ t + o) : ((w2 a rs).length : Int) = min a (t + o + t - a) := by
  have e1 : ((row (c0 rs) a).length : Int) = a := w1_len a rs (n := t + o) ha hn (by omega)
  have e2 := npos_dec (rest := c0 rs) (k := a) (by rw [ht]; omega)
  have e3 : (w2 a rs).length = min a.toNat (npos (dec (c0 rs) (row (c0 rs) a))) := row_len _ _
  rw [e3]
  omega
theorem half_rot {t o : Nat} (ks : List Int) (hk : ks = [a, 0, a] ∨ ks = [0, a, a] ∨ ks = [a, a, 0]) (ha : 0 ≤ a) (hn : npos (c0 rs) = t + o) (ht : ntwo (c0 rs) = t) (h1 : (t : Int) < a) (h2 : a ≤ t + o) :
    half ks rs = if a ≤ t + o + t - a then some (greedy ks rs) else none := by
  have e1 := w1_len a rs (n := t + o) ha hn (by omega)
  have e2 := w2_len a rs ha hn ht h1 h2
  have r3 : rangeL 0 3 = [0, 1, 2] := rfl
  unfold half
  rcases hk with rfl | rfl | rfl
  · rw [greedy_a]
    show (match (rangeL 0 3).find? (lacks [a, 0, a] [w1 a rs, [], w2 a rs]) with | some _ => none | none => some _) = _
    rw [r3]
    by_cases h : a ≤ t + o + t - a
    · have l1 : ¬ ((w1 a rs).length : Int) < a := by omega
      have l2 : ¬ ((w2 a rs).length : Int) < a := by omega
      rw [if_pos h]
      simp [List.find?_cons, lacks, l1, l2]
    · have l1 : ¬ ((w1 a rs).length : Int) < a := by omega
      have l2 : ((w2 a rs).length : Int) < a := by omega
      rw [if_neg h]
      simp [List.find?_cons, lacks, l1, l2]
  · rw [greedy_b]
    show (match (rangeL 0 3).find? (lacks [0, a, a] [[], w1 a rs, w2 a rs]) with | some _ => none | none => some _) = _
    rw [r3]
    by_cases h : a ≤ t + o + t - a
    · have l1 : ¬ ((w1 a rs).length : Int) < a := by omega
      have l2 : ¬ ((w2 a rs).length : Int) < a := by omega
      rw [if_pos h]
      simp [List.find?_cons, lacks, l1, l2]
    · have l1 : ¬ ((w1 a rs).length : Int) < a := by omega
      have l2 : ((w2 a rs).length : Int) < a := by omega
      rw [if_neg h]
      simp [List.find?_cons, lacks, l1, l2]
  · rw [greedy_c]
    show (match (rangeL 0 3).find? (lacks [a, a, 0] [w1 a rs, w2 a rs, []]) with | some _ => none | none => some _) = _
    rw [r3]
    by_cases h : a ≤ t + o + t - a
    · have l1 : ¬ ((w1 a rs).length : Int) < a := by omega
      have l2 : ¬ ((w2 a rs).length : Int) < a := by omega
      rw [if_pos h]
      simp [List.find?_cons, lacks, l1, l2]
    · have l1 : ¬ ((w1 a rs).length : Int) < a := by omega
      have l2 : ((w2 a rs).length : Int) < a := by omega
      rw [if_neg h]
      simp [List.find?_cons, lacks, l1, l2]
end
/-- the rooms: great ones, ones, a nought, in any order -/
def base (t o : Nat) (g : Option Int) : List (Option Int) := List.replicate t g ++ (List.replicate o (some 1) ++ [some 0])
theorem caps_counts {t o : Nat} {g : Option Int} (hg : great g) {rs : List (Option Int)} (hp : rs.Perm (base t o g)) : npos (caps rs 3) = t + o ∧ ntwo (caps rs 3) = t := by
  have hc : (caps rs 3).Perm (caps (base t o g) 3) := hp.map _
  have hg2 : 2 ≤ capF 3 g := by
    cases g with
    | none => decide
    | some h => have := hg h rfl; show 2 ≤ min h 3; omega
  rw [npos_eq, ntwo_eq, hc.countP_eq, hc.countP_eq]
  unfold caps base
  simp only [List.map_append, List.map_replicate, List.countP_append, List.countP_replicate, List.map_cons, List.map_nil]
  have e1 : decide (0 < capF 3 g) = true := decide_eq_true (by omega)
  have e2 : decide (2 ≤ capF 3 g) = true := decide_eq_true hg2
  have e3 : capF 3 (some 1) = 1 := rfl
  have e4 : capF 3 (some 0) = 0 := rfl
  simp [e1, e2, e3, e4, List.countP_cons]
end SP
/-! S6: where the sums fail. -/
namespace SP
open TL
theorem find_rangeL {p : Int → Bool} {n f : Int} (h0 : 0 ≤ f) (hf : f < n) (hp : p f = true) (hq : ∀ u, 0 ≤ u → u < f → p u = false) : (rangeL 0 n).find? p = some f := by
  rw [List.find?_eq_some_iff_append]
  refine ⟨hp, rangeL 0 f, (List.range (n - f - 1).toNat).map fun (i : Nat) => f + 1 + (i : Int), ?_, fun u hu => ?_⟩
  · unfold rangeL
    have e : (n - 0).toNat = (f - 0).toNat + ((n - f - 1).toNat + 1) := by omega
    rw [e, List.range_add, List.map_append]
    congr 1
    rw [List.range_succ_eq_map, List.map_cons, List.map_map, List.map_cons, List.map_map]
    congr 1
    · simp; omega
    · refine List.map_congr_left fun i _ => ?_
      simp
      omega
  · obtain ⟨h1, h2⟩ := rangeL_mem hu
    rw [hq u h1 h2]
    rfl
theorem find_none {p : Int → Bool} {n : Int} (hq : ∀ u, 0 ≤ u → u < n → p u = false) : (rangeL 0 n).find? p = none := by
  rw [List.find?_eq_none]
  intro u hu
  obtain ⟨h1, h2⟩ := rangeL_mem hu
  rw [hq u h1 h2]
  simp
theorem kept_some (l r : Int) : kept (some l, some r) = decide (l ≤ r) := rfl
theorem kept_none (l : Option Int) : kept (l, none) = true := by cases l <;> rfl
variable {a t : Int}
theorem first_wide (h0 : 0 ≤ t) (h1 : t < a) : first a t none (2 * (a - t) - 1) = some t := by
  refine find_rangeL h0 h1 ?_ fun u u0 u1 => ?_
  · unfold due
    simp only
    rw [if_neg (show ¬ t < t by omega), kept_some, decide_eq_false (by omega)]
    rfl
  · unfold due
    simp only
    rw [if_pos u1, kept_none]
    rfl
theorem first_three (h0 : 0 ≤ t) (h1 : t < a) : first a t (some 3) (2 * (a - t) - 1) = some t := by
  refine find_rangeL h0 h1 ?_ fun u u0 u1 => ?_
  · unfold due
    simp only
    rw [if_neg (show ¬ t < t by omega), kept_some, decide_eq_false (by omega)]
    rfl
  · unfold due
    simp only
    rw [if_pos u1, kept_some, decide_eq_true (by omega)]
    rfl
theorem first_two (h0 : 0 ≤ t) (h1 : t < a) : first a t (some 2) (2 * (a - t) - 1) = some 0 := by
  refine find_rangeL (Int.le_refl 0) (by omega) ?_ fun u u0 u1 => by omega
  unfold due
  simp only
  by_cases h : 0 < t
  · rw [if_pos h, kept_some, decide_eq_false (by omega)]
    rfl
  · rw [if_neg h, kept_some, decide_eq_false (by omega)]
    rfl
theorem first_more (g : Option Int) (hg : great g) (h0 : 0 ≤ t) (h1 : t < a) : first a t g (2 * (a - t) - 1 + 1) = none := by
  refine find_none fun u u0 u1 => ?_
  unfold due
  cases g with
  | none =>
    simp only
    by_cases h : u < t
    · rw [if_pos h, kept_none]
      rfl
    · rw [if_neg h, kept_some, decide_eq_true (by omega)]
      rfl
  | some g =>
    have := hg g rfl
    simp only
    by_cases h : u < t
    · have : (t - u) * 2 ≤ (t - u) * g := Int.mul_le_mul_of_nonneg_left (by omega) (by omega)
      rw [if_pos h, kept_some, decide_eq_true (by omega)]
      rfl
    · rw [if_neg h, kept_some, decide_eq_true (by omega)]
      rfl
end SP
/-! S7: when the greedy rows are whole. -/
namespace SP
open TL
/-- a sum over 0 .. n - 1 -/
def sg : Nat → (Nat → Int) → Int
  | 0, _ => 0
  | n + 1, f => sg n f + f n
theorem sg_le : ∀ {n : Nat} {f g : Nat → Int}, (∀ i, i < n → f i ≤ g i) → sg n f ≤ sg n g
  | 0, _, _, _ => Int.le_refl _
  | n + 1, f, g, h => by
    have := sg_le (n := n) (f := f) (g := g) fun i hi => h i (by omega)
    have := h n (by omega)
    show sg n f + f n ≤ sg n g + g n
    omega
theorem sg_congr {n : Nat} {f g : Nat → Int} (h : ∀ i, i < n → f i = g i) : sg n f = sg n g :=
  Int.le_antisymm (sg_le fun i hi => Int.le_of_eq (h i hi)) (sg_le fun i hi => Int.le_of_eq (h i hi).symm)
theorem sg_add : ∀ (n : Nat) (f g : Nat → Int), sg n (fun i => f i + g i) = sg n f + sg n g
  | 0, _, _ => rfl
  | n + 1, f, g => by
    show sg n (fun i => f i + g i) + (f n + g n) = sg n f + f n + (sg n g + g n)
    rw [sg_add n]; omega
theorem sg_mul : ∀ (n : Nat) (c : Int) (f : Nat → Int), sg n (fun i => c * f i) = c * sg n f
  | 0, c, _ => by simp [sg]
  | n + 1, c, f => by
    show sg n (fun i => c * f i) + c * f n = c * (sg n f + f n)
    rw [sg_mul n, Int.mul_add]
theorem sg_zero : ∀ (n : Nat), sg n (fun _ => 0) = 0
  | 0 => rfl
  | n + 1 => by
    show sg n (fun _ => 0) + 0 = 0
    rw [sg_zero n]; rfl
theorem sg_const : ∀ (n : Nat) (c : Int), sg n (fun _ => c) = n * c
  | 0, c => by simp [sg]
  | n + 1, c => by
    show sg n (fun _ => c) + c = _
    rw [sg_const n]
    have : ((n + 1 : Nat) : Int) * c = n * c + c := by
      rw [show ((n + 1 : Nat) : Int) = (n : Int) + 1 by omega, Int.add_mul, Int.one_mul]
    omega
/-- a count as a sum -/
theorem sg_count (p : Nat → Bool) : ∀ n : Nat, sg n (fun i => if p i = true then 1 else 0) = ((List.range n).countP p : Int)
  | 0 => rfl
  | n + 1 => by
    show sg n _ + _ = _
    rw [sg_count p n, List.range_succ, List.countP_append]
    cases h : p n <;> simp [h]
def minsum (r : List Int) (m : Int) : Int := sg r.length fun i => min (rv r i) m
/-- each part of the needs finds room -/
def Cond (ks r : List Int) : Prop := ∀ X : List Int, X.Sublist ks → X.sum ≤ minsum r X.length
def Nn (r : List Int) : Prop := ∀ y : Int, 0 ≤ y → y < r.length → 0 ≤ rv r y
theorem minsum_one {r : List Int} (h : Nn r) : minsum r 1 = npos r := by
  unfold minsum npos
  rw [← sg_count]
  refine sg_congr fun i hi => ?_
  have := h (i : Int) (by omega) (by omega)
  by_cases h0 : 0 < rv r (i : Int)
  · simp only [h0, decide_true, if_true]; omega
  · simp only [h0, decide_false, Bool.false_eq_true, if_false]; omega
theorem cond_row {k : Int} {ks r : List Int} (hk : 0 ≤ k) (hr : Nn r) (h : Cond (k :: ks) r) : ((row r k).length : Int) = k := by
  have h1 := h [k] (by simp)
  have h2 : minsum r (([k] : List Int).length : Int) = npos r := minsum_one hr
  rw [h2] at h1
  have h3 := row_len r k
  simp only [List.sum_cons, List.sum_nil] at h1
  omega
theorem cond_step {k : Int} {ks r : List Int} (hk : 0 ≤ k) (hr : Nn r) (h : Cond (k :: ks) r) : Cond ks (dec r (row r k)) := by
  intro X hX
  have hl : (dec r (row r k)).length = r.length := dec_len _ _
  have hv : ∀ i : Nat, i < r.length → rv (dec r (row r k)) (i : Int) = rv r i - (if (i : Int) ∈ row r k then 1 else 0) := fun i hi => rv_dec _ _ (row_nodup _ _) (fun y hy => (row_pos hy).1) i (by omega)
  unfold minsum
  rw [hl]
  by_cases hA : ∃ y ∈ row r k, rv r y ≤ X.length
  · obtain ⟨y, hy, hyX⟩ := hA
    have h1 := h (k :: X) (hX.cons₂ k)
    have h2 : sg r.length (fun i => min (rv r i) ((k :: X).length : Int)) = sg r.length (fun i => min (rv (dec r (row r k)) i) X.length) + k := by
      have hk2 : sg r.length (fun i => if decide ((i : Int) ∈ row r k) = true then 1 else 0) = k := by rw [sg_count, row_count, cond_row hk hr h]
      have hs := sg_add r.length (fun i => min (rv (dec r (row r k)) i) X.length) (fun i => if decide ((i : Int) ∈ row r k) = true then 1 else 0)
      rw [hk2] at hs
      rw [← hs]
      refine sg_congr fun i hi => ?_
      rw [hv i hi]
      have hn := hr (i : Int) (by omega) (by omega)
      have hc : ((k :: X).length : Int) = X.length + 1 := by simp
      rw [hc]
      by_cases hm : (i : Int) ∈ row r k
      · simp only [hm, decide_true, if_true]; omega
      · have : rv r i ≤ X.length := by
          by_cases h0 : 0 < rv r (i : Int)
          · have := row_down hy ⟨⟨by omega, by omega⟩, h0⟩ hm
            omega
          · omega
        simp only [hm, decide_false, Bool.false_eq_true, if_false]; omega
    have h3 : (k :: X).sum = k + X.sum := List.sum_cons
    unfold minsum at h1
    rw [h2, h3] at h1
    omega
  · have h1 := h X (hX.cons k)
    refine Int.le_trans h1 (Int.le_of_eq (sg_congr fun i hi => ?_))
    rw [hv i hi]
    by_cases hm : (i : Int) ∈ row r k
    · have : ¬ rv r (i : Int) ≤ X.length := fun z => hA ⟨_, hm, z⟩
      rw [if_pos hm]; omega
    · rw [if_neg hm]; omega
theorem nn_step {k : Int} {r : List Int} (hr : Nn r) : Nn (dec r (row r k)) := by
  intro y h0 h1
  rw [dec_len] at h1
  rw [rv_dec _ _ (row_nodup _ _) (fun y hy => (row_pos hy).1) y h0]
  by_cases hm : y ∈ row r k
  · have := (row_pos hm).2
    rw [if_pos hm]; omega
  · have := hr y h0 h1
    rw [if_neg hm]; omega
def lens (w : List (List Int)) : List Int := w.map fun r => (r.length : Int)
theorem cond_fold : ∀ (ks : List Int) (c : List Int × List (List Int)), (∀ k ∈ ks, 0 ≤ k) → Nn c.1 → Cond ks c.1 → lens (ks.foldl gstep c).2 = lens c.2 ++ ks
  | [], c, _, _, _ => by simp
  | k :: ks, c, h0, hr, h => by
    rw [List.foldl_cons]
    have hk := h0 k List.mem_cons_self
    rw [cond_fold ks (gstep c k) (fun z hz => h0 z (List.mem_cons_of_mem _ hz)) (nn_step hr) (cond_step hk hr h)]
    show lens (c.2 ++ [row c.1 k]) ++ ks = _
    unfold lens
    rw [List.map_append, List.map_singleton, cond_row hk hr h]
    simp
theorem caps_at {rs : List (Option Int)} {n : Int} {y : Int} (h0 : 0 ≤ y) (h1 : y < rs.length) : rv (caps rs n) y = capF n (rs.getD y.toNat none) := by
  unfold rv caps
  rw [List.getD_eq_getElem?_getD, List.getElem?_map, List.getD_eq_getElem?_getD, List.getElem?_eq_getElem (show y.toNat < rs.length by omega)]
  rfl
theorem caps_nn {rs : List (Option Int)} {n : Int} (hn : 0 ≤ n) (hr : ∀ r ∈ rs, ∀ h, r = some h → 0 ≤ h) : Nn (caps rs n) := by
  intro y h0 h1
  have h1 : y < rs.length := by unfold caps at h1; rwa [List.length_map] at h1
  rw [caps_at h0 h1]
  cases hx : rs.getD y.toNat none with
  | none => exact hn
  | some h =>
    have hm : some h ∈ rs := by
      rw [← hx, List.getD_eq_getElem?_getD, List.getElem?_eq_getElem (show y.toNat < rs.length by omega)]
      exact List.getElem_mem _
    have := hr _ hm h rfl
    show 0 ≤ min h n
    omega
theorem greedy_whole {ks : List Int} {rs : List (Option Int)} (h0 : ∀ k ∈ ks, 0 ≤ k) (hr : ∀ r ∈ rs, ∀ h, r = some h → 0 ≤ h) (h : Cond ks (caps rs ks.length)) : lens (greedy ks rs) = ks := by
  have := cond_fold ks (caps rs ks.length, []) h0 (caps_nn (by omega) hr) h
  exact this
theorem lacks_lens {ks : List Int} {w : List (List Int)} (h : lens w = ks) (x : Int) (h0 : 0 ≤ x) (h1 : x < ks.length) : lacks ks w x = false := by
  unfold lacks
  rw [← h] at h1 ⊢
  unfold lens at h1 ⊢
  rw [List.length_map] at h1
  rw [List.getD_eq_getElem?_getD, List.getD_eq_getElem?_getD, List.getElem?_map, List.getElem?_eq_getElem (show x.toNat < w.length by omega)]
  simp
theorem find_nothing {p : Int → Bool} {l : List Int} (h : ∀ x ∈ l, p x = false) : l.find? p = none := by
  rw [List.find?_eq_none]
  intro x hx
  rw [h x hx]; simp
theorem half_some {ks : List Int} {rs : List (Option Int)} (h : lens (greedy ks rs) = ks) : half ks rs = some (greedy ks rs) := by
  unfold half
  rw [find_nothing fun x hx => lacks_lens h x (rangeL_mem hx).1 (rangeL_mem hx).2]
/-- .. and back: whole rows are rows of the lengths asked -/
theorem half_back {ks : List Int} {rs : List (Option Int)} {w : List (List Int)} (h0 : ∀ k ∈ ks, 0 ≤ k) (h : half ks rs = some w) : w = greedy ks rs ∧ lens (greedy ks rs) = ks := by
  unfold half at h
  cases hf : (rangeL 0 ks.length).find? (lacks ks (greedy ks rs)) with
  | some x => rw [hf] at h; cases h
  | none =>
    rw [hf] at h
    refine ⟨by cases h; rfl, ?_⟩
    have hge : ∀ i : Nat, i < ks.length → ks.getD i 0 ≤ (((greedy ks rs).getD i []).length : Int) := fun i hi => by
      have := List.find?_eq_none.mp hf (i : Int) (by
        unfold rangeL
        exact List.mem_map.mpr ⟨i, List.mem_range.mpr (by omega), by omega⟩)
      unfold lacks at this
      simp only [decide_eq_true_eq, Int.toNat_natCast] at this
      omega
    have hle : ∀ (ks : List Int) (c : List Int × List (List Int)), (∀ k ∈ ks, 0 ≤ k) → (∀ i : Nat, i < c.2.length → (((ks.foldl gstep c).2).getD i []) = c.2.getD i []) ∧ ∀ i : Nat, i < ks.length → ((((ks.foldl gstep c).2).getD (c.2.length + i) []).length : Int) ≤ ks.getD i 0 := fun ks => by
      induction ks with
      | nil => intro c _; exact ⟨fun i _ => rfl, fun i hi => by simp at hi⟩
      | cons k ks ih =>
        intro c h0
        obtain ⟨a1, a2⟩ := ih (gstep c k) (fun z hz => h0 z (List.mem_cons_of_mem _ hz))
        have hl : (gstep c k).2.length = c.2.length + 1 := by show (c.2 ++ [row c.1 k]).length = _; simp
        rw [List.foldl_cons]
        refine ⟨fun i hi => ?_, fun i hi => ?_⟩
        · rw [a1 i (by omega)]
          show (c.2 ++ [row c.1 k]).getD i [] = _
          rw [List.getD_eq_getElem?_getD, List.getD_eq_getElem?_getD, List.getElem?_append_left hi]
        · cases i with
          | zero =>
            rw [a1 _ (by omega)]
            show ((((c.2 ++ [row c.1 k]).getD (c.2.length + 0) []).length : Nat) : Int) ≤ k
            rw [List.getD_eq_getElem?_getD, List.getElem?_append_right (by omega)]
            simp only [Nat.add_zero, Nat.sub_self, List.getElem?_cons_zero, Option.getD_some]
            have := row_len c.1 k
            have := h0 k List.mem_cons_self
            omega
          | succ i =>
            have := a2 i (by simp at hi; omega)
            rw [hl] at this
            rw [show c.2.length + (i + 1) = c.2.length + 1 + i by omega]
            exact this
    have hle := (hle ks (caps rs ks.length, []) h0).2
    have hgl := greedy_len ks rs
    refine List.ext_getElem? fun i => ?_
    unfold lens
    rw [List.getElem?_map]
    by_cases hi : i < ks.length
    · have h1 := hge i hi
      have h2 := hle i hi
      rw [show ((caps rs ks.length, ([] : List (List Int))).2.length + i) = i by simp] at h2
      have h2 : (((greedy ks rs).getD i []).length : Int) ≤ ks.getD i 0 := h2
      rw [List.getD_eq_getElem?_getD, List.getD_eq_getElem?_getD, List.getElem?_eq_getElem (show i < (greedy ks rs).length by omega), List.getElem?_eq_getElem hi] at h1 h2
      rw [List.getElem?_eq_getElem (show i < (greedy ks rs).length by omega), List.getElem?_eq_getElem hi]
      simp only [Option.getD_some, Option.map_some] at *
      congr 1
      omega
    · rw [List.getElem?_eq_none (by omega), List.getElem?_eq_none (by omega)]
      rfl
end SP
/-! S8: webs, parts of the needs, sums. -/
namespace SP
open TL
theorem sum_map_le {α : Type} {f g : α → Int} : ∀ {l : List α}, (∀ x ∈ l, f x ≤ g x) → (l.map f).sum ≤ (l.map g).sum
  | [], _ => Int.le_refl _
  | x :: l, h => by
    have h1 := h x List.mem_cons_self
    have h2 := sum_map_le (f := f) (g := g) (l := l) fun y hy => h y (List.mem_cons_of_mem _ hy)
    simp only [List.map_cons, List.sum_cons]; omega
theorem sum_nonneg : ∀ {l : List Int}, (∀ x ∈ l, 0 ≤ x) → 0 ≤ l.sum
  | [], _ => Int.le_refl _
  | x :: l, h => by
    have h1 := h x List.mem_cons_self
    have h2 := sum_nonneg (l := l) fun y hy => h y (List.mem_cons_of_mem _ hy)
    simp only [List.sum_cons]; omega
theorem sum_sub : ∀ {X l : List Int}, X.Sublist l → (∀ x ∈ l, 0 ≤ x) → X.sum ≤ l.sum
  | _, _, .slnil, _ => Int.le_refl _
  | _, _, .cons a h, h0 => by
    have h1 := h0 a List.mem_cons_self
    have h2 := sum_sub h fun y hy => h0 y (List.mem_cons_of_mem _ hy)
    simp only [List.sum_cons]; omega
  | _, _, .cons₂ a h, h0 => by
    have h2 := sum_sub h fun y hy => h0 y (List.mem_cons_of_mem _ hy)
    simp only [List.sum_cons]; omega
theorem sum_perm {l m : List Int} (h : l.Perm m) : l.sum = m.sum := by
  induction h with
  | nil => rfl
  | cons x _ ih => simp only [List.sum_cons, ih]
  | swap x y l => simp only [List.sum_cons]; omega
  | trans _ _ h1 h2 => exact h1.trans h2
theorem sum_const {α : Type} (c : Int) : ∀ l : List α, (l.map fun _ => c).sum = l.length * c
  | [] => by simp
  | x :: l => by
    simp only [List.map_cons, List.sum_cons, List.length_cons, sum_const c l]
    rw [show ((l.length + 1 : Nat) : Int) = (l.length : Int) + 1 by omega, Int.add_mul, Int.one_mul]; omega
theorem sum_le_len {a : Int} : ∀ {X : List Int}, (∀ x ∈ X, x ≤ a) → X.sum ≤ X.length * a
  | [], _ => by simp
  | x :: X, h => by
    have h1 := h x List.mem_cons_self
    have h2 := sum_le_len (X := X) fun y hy => h y (List.mem_cons_of_mem _ hy)
    simp only [List.sum_cons, List.length_cons]
    rw [show ((X.length + 1 : Nat) : Int) = (X.length : Int) + 1 by omega, Int.add_mul, Int.one_mul]; omega
theorem sg_cons : ∀ (n : Nat) (f : Nat → Int), sg (n + 1) f = f 0 + sg n fun i => f (i + 1)
  | 0, f => by simp [sg]
  | n + 1, f => by
    show sg (n + 1) f + f (n + 1) = f 0 + (sg n (fun i => f (i + 1)) + f (n + 1))
    rw [sg_cons n]; omega
theorem sg_list (F : Int → Int) : ∀ l : List Int, sg l.length (fun i => F (l.getD i 0)) = (l.map F).sum
  | [] => rfl
  | x :: l => by
    rw [List.length_cons, sg_cons, List.map_cons, List.sum_cons, ← sg_list F l]
    rfl
theorem minsum_list (r : List Int) (m : Int) : minsum r m = (r.map fun v => min v m).sum := by
  rw [← sg_list (fun v => min v m) r]
  exact sg_congr fun i _ => by rw [rv_nat]
/-- the room of one thing against m others -/
def mn (m : Int) : Option Int → Int
  | none => m
  | some h => min h m
def msum (rs : List (Option Int)) (m : Int) : Int := (rs.map (mn m)).sum
theorem minsum_caps (rs : List (Option Int)) {n m : Int} (h : m ≤ n) : minsum (caps rs n) m = msum rs m := by
  rw [minsum_list]
  unfold caps msum
  rw [List.map_map]
  congr 1
  refine List.map_congr_left fun r _ => ?_
  show min (capF n r) m = mn m r
  cases r with
  | none => show min n m = m; omega
  | some x => show min (min x n) m = min x m; omega
def CondO (ks : List Int) (rs : List (Option Int)) : Prop := ∀ X : List Int, X.Sublist ks → X.sum ≤ msum rs X.length
theorem condO {ks : List Int} {rs : List (Option Int)} : Cond ks (caps rs ks.length) ↔ CondO ks rs := by
  constructor
  · intro h X hX
    rw [← minsum_caps rs (show (X.length : Int) ≤ ks.length by have := hX.length_le; omega)]
    exact h X hX
  · intro h X hX
    rw [minsum_caps rs (show (X.length : Int) ≤ ks.length by have := hX.length_le; omega)]
    exact h X hX
/-! ### webs -/
theorem cnt_row {r : List Int} {n : Nat} (h1 : r.Pairwise (· < ·)) (h2 : ∀ y ∈ r, 0 ≤ y ∧ y < n) : (r.length : Int) = sg n fun i => if (i : Int) ∈ r then 1 else 0 := by
  have := sg_count (fun i => decide ((i : Int) ∈ r)) n
  simp only [decide_eq_true_eq] at this
  rw [this, List.countP_eq_length_filter]
  have g1 : ((List.range n).filter fun i : Nat => decide ((i : Int) ∈ r)).Nodup := List.nodup_range.sublist List.filter_sublist
  have g2 : (((List.range n).filter fun i : Nat => decide ((i : Int) ∈ r)).map fun i : Nat => (i : Int)).Nodup := by
    rw [List.nodup_iff_pairwise_ne, List.pairwise_map]
    exact (List.nodup_iff_pairwise_ne.mp g1).imp fun h => by omega
  have g3 : (((List.range n).filter fun i : Nat => decide ((i : Int) ∈ r)).map fun i : Nat => (i : Int)).Perm r := by
    refine (List.perm_ext_iff_of_nodup g2 (List.nodup_iff_pairwise_ne.mpr (h1.imp fun h => by omega))).mpr fun y => ?_
    rw [List.mem_map]
    constructor
    · rintro ⟨i, hi, rfl⟩
      exact of_decide_eq_true (List.mem_filter.mp hi).2
    · intro hy
      have := h2 y hy
      refine ⟨y.toNat, List.mem_filter.mpr ⟨List.mem_range.mpr (by omega), decide_eq_true ?_⟩, by omega⟩
      rw [show ((y.toNat : Nat) : Int) = y by omega]
      exact hy
  rw [← g3.length_eq, List.length_map]
def RowsOk (w : List (List Int)) (n : Nat) : Prop := ∀ r ∈ w, r.Pairwise (· < ·) ∧ ∀ y ∈ r, 0 ≤ y ∧ y < n
theorem lens_sum {n : Nat} : ∀ {w : List (List Int)}, RowsOk w n → (lens w).sum = sg n fun i => (inRows w (i : Int) : Int)
  | [], _ => by
    show (0 : Int) = _
    rw [show (fun i : Nat => ((inRows [] (i : Int) : Nat) : Int)) = fun _ => 0 from rfl, sg_zero]
  | r :: w, h => by
    obtain ⟨h1, h2⟩ := h r List.mem_cons_self
    have ih := lens_sum (w := w) fun z hz => h z (List.mem_cons_of_mem _ hz)
    show (r.length : Int) + (lens w).sum = _
    rw [ih, cnt_row h1 h2, ← sg_add]
    refine sg_congr fun i _ => ?_
    unfold inRows
    rw [List.countP_cons]
    by_cases hm : (i : Int) ∈ r <;> simp [hm] <;> omega
theorem inRows_le (w : List (List Int)) (y : Int) : inRows w y ≤ w.length := List.countP_le_length
theorem web_cond {w : List (List Int)} {rs : List (Option Int)} (hw : RowsOk w rs.length) (hc : ∀ y : Int, 0 ≤ y → y < rs.length → ∀ h, rs.getD y.toNat none = some h → (inRows w y : Int) ≤ h) : CondO (lens w) rs := by
  intro X hX
  obtain ⟨W, hW, rfl⟩ := List.sublist_map_iff.mp hX
  show (lens W).sum ≤ _
  have e : msum rs ((W.map fun r => (r.length : Int)).length : Int) = sg rs.length fun i => mn W.length (rs.getD i none) := by
    rw [List.length_map]
    unfold msum
    generalize (W.length : Int) = m
    clear hw hc
    induction rs with
    | nil => rfl
    | cons x rs ih =>
      rw [List.length_cons, sg_cons, List.map_cons, List.sum_cons, ih]
      rfl
  rw [e, lens_sum fun r hr => hw r (hW.subset hr)]
  refine sg_le fun i hi => ?_
  have h1 := inRows_le W i
  have h2 : inRows W i ≤ inRows w i := hW.countP_le
  cases hx : rs.getD i none with
  | none => show _ ≤ (W.length : Int); omega
  | some h =>
    have := hc i (by omega) (by omega) h (by rw [Int.toNat_natCast]; exact hx)
    show _ ≤ min h (W.length : Int)
    omega
/-! ### the sums -/
def Room0 (s : Sort3) : Prop := ∀ h, s.2.2 = some h → 0 ≤ h
def val (m : Int) (s : Sort3) : Int := match s.1 with
  | none => 0
  | some k => k * mn m s.2.2
theorem fold_lost' (l : List Sort3) (u : Int) (r u' : Int) : l.foldl step (none, u) ≠ (some r, u') := fun h => by
  have := fold_lost l u
  rw [h] at this
  cases this
theorem r1 {m : Int} (hm : 0 ≤ m) : ∀ (L : List Sort3) (a u r u' : Int), (∀ s ∈ L, Few s ∧ Room0 s) → 0 ≤ u → L.foldl step (some a, u) = (some r, u') → a + (L.map (val m)).sum ≤ r + u * m
  | [], a, u, r, u', _, hu, h => by
    cases h
    have := Int.mul_nonneg hu hm
    simp only [List.map_nil, List.sum_nil]; omega
  | s :: L, a, u, r, u', hs, hu, h => by
    obtain ⟨h1, h2⟩ := hs s List.mem_cons_self
    have hL := fun z hz => hs z (List.mem_cons_of_mem _ hz)
    obtain ⟨many, lo, hi⟩ := s
    rw [List.foldl_cons] at h
    simp only [List.map_cons, List.sum_cons]
    cases many with
    | none =>
      cases hi with
      | none =>
        have e : step (some a, u) (none, lo, none) = (none, 0) := by simp [step, times, plus]
        rw [e] at h
        exact absurd h (fold_lost' _ _ _ _)
      | some x =>
        by_cases hx : x = 0
        · have e : step (some a, u) (none, lo, some x) = (some a, 0) := by simp [step, times, plus, hx]
          rw [e] at h
          have := r1 hm L a 0 r u' hL (Int.le_refl _) h
          have := Int.mul_nonneg hu hm
          show a + (0 + _) ≤ _
          omega
        · have e : step (some a, u) (none, lo, some x) = (none, 0) := by simp [step, times, plus, hx]
          rw [e] at h
          exact absurd h (fold_lost' _ _ _ _)
    | some k =>
      obtain ⟨k0, _⟩ := h1 k rfl
      have g0 : 0 ≤ min k u := by omega
      have g1 : 0 ≤ k - min k u := by omega
      have g2 : 0 ≤ u - min k u := by omega
      have gm := Int.mul_nonneg g0 hm
      cases hi with
      | none =>
        by_cases hx : k - min k u = 0
        · have e : step (some a, u) (some k, lo, none) = (some a, u - min k u) := by simp [step, times, plus, hx]
          rw [e] at h
          have := r1 hm L a _ r u' hL g2 h
          show a + (k * m + _) ≤ _
          have e2 : k = min k u := by omega
          rw [Int.sub_mul] at this
          rw [← e2] at this
          omega
        · have e : step (some a, u) (some k, lo, none) = (none, u - min k u) := by simp [step, times, plus, hx]
          rw [e] at h
          exact absurd h (fold_lost' _ _ _ _)
      | some x =>
        have hx : 0 ≤ x := h2 x rfl
        rw [step_some] at h
        have := r1 hm L _ _ r u' hL g2 h
        show a + (k * min x m + _) ≤ _
        have i4 := Int.sub_mul u (min k u) m
        have i1 : (k - min k u) * min x m ≤ (k - min k u) * x := Int.mul_le_mul_of_nonneg_left (by omega) g1
        have i2 : min k u * min x m ≤ min k u * m := Int.mul_le_mul_of_nonneg_left (by omega) g0
        have i3 : (k - min k u) * min x m = k * min x m - min k u * min x m := Int.sub_mul _ _ _
        omega
theorem rest_r1 {rs : List Sort3} {t m r : Int} (hm : 0 ≤ m) (ht : 0 ≤ t) (hs : ∀ s ∈ rs, Few s ∧ Room0 s) (h : rest rs t = some r) : (rs.map (val m)).sum ≤ r + t * m := by
  have hp := List.mergeSort_perm rs wle
  unfold rest at h
  cases hf : (wsort rs).foldl step (some 0, t) with
  | mk a u' =>
    rw [hf] at h
    have h : a = some r := h
    subst h
    have := r1 hm (wsort rs) 0 t r u' (fun s hs' => hs s (hp.mem_iff.mp hs')) ht hf
    have e : ((wsort rs).map (val m)).sum = (rs.map (val m)).sum := sum_perm (hp.map _)
    rw [e] at this
    omega
theorem asked_one (t : Int) : ∀ (ks : List Int), asked (ks.map fun k => ((some 1, k, some k) : Sort3)) t = some ((ks.map fun k => max (k - t) 0).sum) := by
  have key : ∀ (ks : List Int) (a : Int), (ks.map fun k => ((some 1, k, some k) : Sort3)).foldl (fun a s => plus a (times s.1 (some (max (s.2.1 - t) 0)))) (some a) = some (a + (ks.map fun k => max (k - t) 0).sum) := fun ks => by
    induction ks with
    | nil => intro a; simp
    | cons k ks ih =>
      intro a
      simp only [List.map_cons, List.foldl_cons, List.sum_cons, times_some, plus_some]
      rw [ih]
      congr 1
      omega
  intro ks
  unfold asked
  rw [key]
  simp
theorem over_filter (t : Int) : ∀ ks : List Int, (ks.map fun k => max (k - t) 0).sum = (ks.filter fun k => decide (t < k)).sum - (ks.filter fun k => decide (t < k)).length * t
  | [] => by simp
  | k :: ks => by
    have ih := over_filter t ks
    rw [List.map_cons, List.sum_cons, ih, List.filter_cons]
    by_cases h : t < k
    · simp only [h, decide_true, if_true, List.sum_cons, List.length_cons]
      rw [show (((ks.filter fun k => decide (t < k)).length + 1 : Nat) : Int) = ((ks.filter fun k => decide (t < k)).length : Int) + 1 by omega, Int.add_mul, Int.one_mul]
      omega
    · simp only [h, decide_false, Bool.false_eq_true, if_false]; omega
/-- parts of the needs that find room: the sums are kept -/
theorem cond_kept {ks : List Int} {rs : List (Option Int)} (hr : ∀ r ∈ rs, ∀ h, r = some h → 0 ≤ h) (hc : CondO ks rs) (t : Int) (ht : 0 ≤ t) : fails (ks.map fun k => ((some 1, k, some k) : Sort3)) (rs.map fun r => ((some 1, 0, r) : Sort3)) t = false := by
  unfold fails
  rw [asked_one]
  cases h : rest (rs.map fun r => ((some 1, 0, r) : Sort3)) t with
  | none => rfl
  | some r =>
    have hX := hc (ks.filter fun k => decide (t < k)) List.filter_sublist
    have h1 := rest_r1 (m := ((ks.filter fun k => decide (t < k)).length : Int)) (by omega) ht (fun s hs => by
      obtain ⟨x, hx, rfl⟩ := List.mem_map.mp hs
      exact ⟨fun k e => by cases e; decide, fun h e => hr x hx h e⟩) h
    have e : ((rs.map fun r => ((some 1, 0, r) : Sort3)).map (val ((ks.filter fun k => decide (t < k)).length : Int))).sum = msum rs ((ks.filter fun k => decide (t < k)).length : Int) := by
      unfold msum
      rw [List.map_map]
      congr 1
      refine List.map_congr_left fun x _ => ?_
      show 1 * mn _ x = _
      rw [Int.one_mul]
    rw [e] at h1
    have h2 := over_filter t ks
    have h3 := Int.mul_comm t ((ks.filter fun k => decide (t < k)).length : Int)
    have : (ks.map fun k => max (k - t) 0).sum ≤ r := by omega
    unfold kept
    simp [this]
/-! ### much room -/
theorem much_room {a b : Int} {ks rs : List Int} (hk : ∀ k ∈ ks, 0 ≤ k ∧ k ≤ a) (hr : ∀ r ∈ rs, 0 ≤ r ∧ r ≤ b) (ha : 0 ≤ a) (h1 : a * b - 1 ≤ rs.sum) (h2 : ks.sum ≤ rs.sum) : CondO ks (rs.map some) := by
  intro X hX
  have e : msum (rs.map some) X.length = (rs.map fun r => min r (X.length : Int)).sum := by
    unfold msum
    rw [List.map_map]
    rfl
  rw [e]
  rcases Int.lt_or_le (X.length : Int) b with h | h
  · have g1 : X.sum ≤ X.length * a := sum_le_len fun x hx => (hk x (hX.subset hx)).2
    have g2 : (X.length : Int) * rs.sum ≤ b * (rs.map fun r => min r (X.length : Int)).sum := by
      clear e h1 h2 g1
      induction rs with
      | nil => simp
      | cons x rs ih =>
        have := ih fun y hy => hr y (List.mem_cons_of_mem _ hy)
        obtain ⟨x0, x1⟩ := hr x List.mem_cons_self
        simp only [List.map_cons, List.sum_cons, Int.mul_add]
        have : (X.length : Int) * x ≤ b * min x (X.length : Int) := by
          rcases Int.le_total x (X.length : Int) with z | z
          · rw [Int.min_eq_left z]
            exact Int.mul_le_mul_of_nonneg_right (by omega) x0
          · rw [Int.min_eq_right z, Int.mul_comm b]
            exact Int.mul_le_mul_of_nonneg_left x1 (by omega)
        omega
    generalize (rs.map fun r => min r (X.length : Int)).sum = M at *
    generalize hm : (X.length : Int) = m at *
    have m0 : 0 ≤ m := by omega
    have g3 : m * (a * b - 1) ≤ m * rs.sum := Int.mul_le_mul_of_nonneg_left h1 m0
    rw [Int.mul_sub, Int.mul_one] at g3
    apply Classical.byContradiction
    intro hn
    have hM : M ≤ m * a - 1 := by omega
    have g4 : b * M ≤ b * (m * a - 1) := Int.mul_le_mul_of_nonneg_left hM (by omega)
    rw [Int.mul_sub, Int.mul_one] at g4
    have g5 : b * (m * a) = m * (a * b) := by rw [Int.mul_comm b, Int.mul_assoc]
    omega
  · have g1 : X.sum ≤ ks.sum := sum_sub hX fun x hx => (hk x hx).1
    have g2 : (rs.map fun r => min r (X.length : Int)) = rs := by
      have : (rs.map fun r => min r (X.length : Int)) = rs.map id := List.map_congr_left fun r hr' => by
        have := (hr r hr').2
        show min r (X.length : Int) = r
        omega
      rw [this, List.map_id]
    rw [g2]
    omega
end SP
/-! S9: what is left of rooms, by what it is worth. -/
namespace SP
open TL
abbrev Pr := Option Int × Option Int
def pv (m : Int) (p : Pr) : Int := match p.1 with
  | none => 0
  | some k => k * mn m p.2
def pw (p : Pr) : Int := match p.2 with
  | none => p.1.getD 0
  | some _ => 0
def endl (l : List Pr) : Prop := ∃ p ∈ l, p.1 = none ∧ p.2 ≠ some 0
def Pok (p : Pr) : Prop := (∀ k, p.1 = some k → 0 ≤ k) ∧ ∀ h, p.2 = some h → 0 ≤ h
/-- r is what is left of l when g of the widest are taken -/
def RV (l : List Pr) (g : Int) : Option Int → Prop
  | none => endl l ∨ g < (l.map pw).sum
  | some v => ¬ endl l ∧ (∀ m, 0 ≤ m → (l.map (pv m)).sum ≤ v + g * m) ∧ ∃ m, 0 ≤ m ∧ v + g * m ≤ (l.map (pv m)).sum
theorem mn_mono {h : Option Int} {a b : Int} (hab : a ≤ b) : mn a h ≤ mn b h := by
  cases h with
  | none => exact hab
  | some x => show min x a ≤ min x b; omega
theorem mn_le (h : Option Int) (m : Int) : mn m h ≤ m := by
  cases h with
  | none => exact Int.le_refl _
  | some x => show min x m ≤ m; omega
theorem mn_nonneg {p : Pr} (hp : Pok p) {m : Int} (hm : 0 ≤ m) : 0 ≤ mn m p.2 := by
  cases h : p.2 with
  | none => exact hm
  | some x => have := hp.2 x h; show 0 ≤ min x m; omega
theorem pw_le {p : Pr} (hp : Pok p) {m : Int} (hm : 0 ≤ m) : pw p * m ≤ pv m p := by
  obtain ⟨a, b⟩ := p
  unfold pw pv
  cases b with
  | none =>
    cases a with
    | none => simp
    | some k => exact Int.le_refl _
  | some x =>
    cases a with
    | none => simp
    | some k =>
      have := Int.mul_nonneg (hp.1 k rfl) (mn_nonneg hp hm)
      simpa using this
theorem sum_mul_right {α : Type} (f : α → Int) (m : Int) : ∀ l : List α, (l.map fun x => f x * m).sum = (l.map f).sum * m
  | [] => by simp
  | x :: l => by simp only [List.map_cons, List.sum_cons, sum_mul_right f m l, Int.add_mul]
theorem rv_unique {l : List Pr} {g : Int} (hl : ∀ p ∈ l, Pok p) (hg : 0 ≤ g) : ∀ {a b : Option Int}, RV l g a → RV l g b → a = b := by
  have key : ∀ v, RV l g (some v) → ¬ RV l g none := fun v h1 h2 => by
    obtain ⟨n1, n2, _⟩ := h1
    rcases h2 with h2 | h2
    · exact n1 h2
    · have hv : 0 ≤ v := by
        have := n2 0 (Int.le_refl 0)
        have h0 : (l.map (pw · * 0)).sum ≤ (l.map (pv 0)).sum := sum_map_le fun p hp => pw_le (hl p hp) (Int.le_refl 0)
        simp only [Int.mul_zero] at this h0
        rw [sum_const] at h0
        omega
      have h3 := n2 (v + 1) (by omega)
      have h4 : (l.map fun p => pw p * (v + 1)).sum ≤ (l.map (pv (v + 1))).sum := sum_map_le fun p hp => pw_le (hl p hp) (by omega)
      rw [sum_mul_right] at h4
      have h5 : (g + 1) * (v + 1) ≤ (l.map pw).sum * (v + 1) := Int.mul_le_mul_of_nonneg_right (by omega) (by omega)
      rw [Int.add_mul, Int.one_mul] at h5
      omega
  intro a b h1 h2
  cases a with
  | none =>
    cases b with
    | none => rfl
    | some v => exact absurd h1 (key v h2)
  | some v =>
    cases b with
    | none => exact absurd h2 (key v h1)
    | some w =>
      obtain ⟨_, a1, m1, b1, c1⟩ := h1
      obtain ⟨_, a2, m2, b2, c2⟩ := h2
      have := a1 m2 b2
      have := a2 m1 b1
      congr 1
      omega
theorem rv_cong {l l' : List Pr} {g : Int} (h1 : endl l ↔ endl l') (h2 : (l.map pw).sum = (l'.map pw).sum) (h3 : ∀ m, 0 ≤ m → (l.map (pv m)).sum = (l'.map (pv m)).sum) {r : Option Int} (h : RV l g r) : RV l' g r := by
  cases r with
  | none => rcases h with h | h
            · exact .inl (h1.mp h)
            · exact .inr (by omega)
  | some v =>
    obtain ⟨n1, n2, m, b, c⟩ := h
    exact ⟨fun z => n1 (h1.mpr z), fun m hm => by rw [← h3 m hm]; exact n2 m hm, m, b, by rw [← h3 m b]; exact c⟩
theorem rv_perm {l l' : List Pr} {g : Int} (h : l.Perm l') {r : Option Int} (hr : RV l g r) : RV l' g r :=
  rv_cong ⟨fun ⟨p, hp, e⟩ => ⟨p, h.mem_iff.mp hp, e⟩, fun ⟨p, hp, e⟩ => ⟨p, h.mem_iff.mpr hp, e⟩⟩ (sum_perm (h.map _)) (fun m _ => sum_perm (h.map _)) hr
/-! ### the sorted row -/
def prs3 (rs : List Sort3) : List Pr := rs.map fun s => (s.1, s.2.2)
/-- wider or as wide -/
def wd (a b : Option Int) : Prop := ∀ x, a = some x → ∃ y, b = some y ∧ y ≤ x
theorem wle_wd {a b : Sort3} (h : wle a b = true) : wd a.2.2 b.2.2 := by
  intro x hx
  unfold wle lexLe wkey at h
  rw [hx] at h
  cases hb : b.2.2 with
  | none => rw [hb] at h; simp at h
  | some y => rw [hb] at h; simp at h; exact ⟨y, rfl, by omega⟩
theorem val_pv (m : Int) (s : Sort3) : val m s = pv m (s.1, s.2.2) := rfl
theorem endl_cons {p : Pr} {l : List Pr} : endl (p :: l) ↔ (p.1 = none ∧ p.2 ≠ some 0) ∨ endl l := by
  constructor
  · rintro ⟨q, hq, e⟩
    rcases List.mem_cons.mp hq with z | z
    · exact .inl (z ▸ e)
    · exact .inr ⟨q, z, e⟩
  · rintro (e | ⟨q, hq, e⟩)
    · exact ⟨p, List.mem_cons_self, e⟩
    · exact ⟨q, List.mem_cons_of_mem _ hq, e⟩
theorem narrow_wide {L : List Sort3} (h : ∀ s ∈ L, ∃ y, s.2.2 = some y) : ((prs3 L).map pw).sum = 0 := by
  have : (prs3 L).map pw = (prs3 L).map fun _ => 0 := List.map_congr_left fun p hp => by
    obtain ⟨s, hs, rfl⟩ := List.mem_map.mp hp
    obtain ⟨y, e⟩ := h s hs
    unfold pw
    rw [show ((s.1, s.2.2) : Pr).2 = some y from e]
  rw [this, sum_const]
  simp
theorem fold_lost2 (l : List Sort3) (u : Int) {p : Option Int × Int} (h : l.foldl step (none, u) = p) : p.1 = none := by rw [← h]; exact fold_lost l u
/-- the fold over a sorted row: what it tells -/
theorem rest_fold : ∀ (L : List Sort3) (a u : Int) (p : Option Int × Int), L.Pairwise (fun x y => wd x.2.2 y.2.2) → (∀ s ∈ L, Few s ∧ Room0 s) → 0 ≤ u → L.foldl step (some a, u) = p →
    (p.1 = none → endl (prs3 L) ∨ u < ((prs3 L).map pw).sum) ∧ ∀ r, p.1 = some r → ¬ endl (prs3 L) ∧ ∃ m, 0 ≤ m ∧ (∀ H, 0 ≤ H → (∀ s ∈ L, ∃ y, s.2.2 = some y ∧ y ≤ H) → m ≤ H) ∧ r + u * m ≤ a + (L.map (val m)).sum
  | [], a, u, p, _, _, hu, h => by
    subst h
    refine ⟨fun e => ?_, fun r e => ⟨fun z => ?_, 0, Int.le_refl 0, fun H h _ => h, ?_⟩⟩
    · exact absurd (show (some a : Option Int) = none from e) (by simp)
    · obtain ⟨q, hq, _⟩ := z
      simp [prs3] at hq
    · have e : some a = some r := e
      cases e
      simp
  | s :: L, a, u, p, hs, hf, hu, h => by
    obtain ⟨hs1, hs2⟩ := List.pairwise_cons.mp hs
    obtain ⟨few, room⟩ := hf s List.mem_cons_self
    have hL := fun z hz => hf z (List.mem_cons_of_mem _ hz)
    obtain ⟨many, lo, hi⟩ := s
    rw [List.foldl_cons] at h
    have hp3 : prs3 ((many, lo, hi) :: L) = (many, hi) :: prs3 L := rfl
    rw [hp3, endl_cons, List.map_cons, List.sum_cons]
    -- what stands behind is narrow when this one is
    have narrow : ∀ x, hi = some x → ∀ z ∈ L, ∃ y, z.2.2 = some y ∧ y ≤ x := fun x e z hz => hs1 z hz x e
    have zero : ∀ x, hi = some x → ((prs3 L).map pw).sum = 0 := fun x e => narrow_wide fun z hz => let ⟨y, e', _⟩ := narrow x e z hz; ⟨y, e'⟩
    cases many with
    | none =>
      cases hi with
      | none =>
        have e : step (some a, u) (none, lo, none) = (none, 0) := by simp [step, times, plus]
        rw [e] at h
        have hn := fold_lost2 _ _ h
        exact ⟨fun _ => .inl (.inl ⟨rfl, by simp⟩), fun r hr => by rw [hn] at hr; cases hr⟩
      | some x =>
        by_cases hx : x = 0
        · subst hx
          have e : step (some a, u) (none, lo, some 0) = (some a, 0) := by simp [step, times, plus]
          rw [e] at h
          obtain ⟨i1, i2⟩ := rest_fold L a 0 p hs2 hL (Int.le_refl 0) h
          refine ⟨fun hn => ?_, fun r hr => ?_⟩
          · rcases i1 hn with z | z
            · exact .inl (.inr z)
            · rw [zero 0 rfl] at z; omega
          · obtain ⟨j1, m, j2, j3, j4⟩ := i2 r hr
            refine ⟨fun z => z.elim (fun z => z.2 rfl) j1, 0, Int.le_refl 0, fun H h _ => h, ?_⟩
            have hm : m = 0 := by
              have := j3 0 (Int.le_refl 0) (narrow 0 rfl)
              omega
            subst hm
            simp only [List.map_cons, List.sum_cons]
            show r + u * 0 ≤ a + (0 + _)
            omega
        · have e : step (some a, u) (none, lo, some x) = (none, 0) := by simp [step, times, plus, hx]
          rw [e] at h
          have hn := fold_lost2 _ _ h
          exact ⟨fun _ => .inl (.inl ⟨rfl, by simpa using hx⟩), fun r hr => by rw [hn] at hr; cases hr⟩
    | some k =>
      obtain ⟨k0, _⟩ := few k rfl
      have g0 : 0 ≤ min k u := by omega
      have g1 : 0 ≤ k - min k u := by omega
      have g2 : 0 ≤ u - min k u := by omega
      cases hi with
      | none =>
        by_cases hx : k - min k u = 0
        · have e : step (some a, u) (some k, lo, none) = (some a, u - min k u) := by simp [step, times, plus, hx]
          rw [e] at h
          obtain ⟨i1, i2⟩ := rest_fold L a _ p hs2 hL g2 h
          refine ⟨fun hn => ?_, fun r hr => ?_⟩
          · rcases i1 hn with z | z
            · exact .inl (.inr z)
            · refine .inr ?_
              show u < k + _
              omega
          · obtain ⟨j1, m, j2, j3, j4⟩ := i2 r hr
            refine ⟨fun z => z.elim (fun z => by cases z.1) j1, m, j2, fun H h hw => ?_, ?_⟩
            · obtain ⟨y, e, _⟩ := hw _ List.mem_cons_self
              cases e
            · simp only [List.map_cons, List.sum_cons]
              show r + u * m ≤ a + (k * m + _)
              have e2 : k = min k u := by omega
              rw [Int.sub_mul, ← e2] at j4
              omega
        · have e : step (some a, u) (some k, lo, none) = (none, u - min k u) := by simp [step, times, plus, hx]
          rw [e] at h
          have hn := fold_lost2 _ _ h
          refine ⟨fun _ => .inr ?_, fun r hr => by rw [hn] at hr; cases hr⟩
          have : 0 ≤ ((prs3 L).map pw).sum := sum_nonneg fun y hy => by
            obtain ⟨q, hq, rfl⟩ := List.mem_map.mp hy
            obtain ⟨z, hz, rfl⟩ := List.mem_map.mp hq
            unfold pw
            cases z.2.2 with
            | none =>
              cases hz1 : z.1 with
              | none => simp
              | some k' => have := ((hL z hz).1 k' hz1).1; simpa using this
            | some _ => simp
          show u < k + _
          omega
      | some x =>
        have hx : 0 ≤ x := room x rfl
        rw [step_some] at h
        obtain ⟨i1, i2⟩ := rest_fold L _ _ p hs2 hL g2 h
        refine ⟨fun hn => ?_, fun r hr => ?_⟩
        · rcases i1 hn with z | z
          · exact .inl (.inr z)
          · rw [zero x rfl] at z; omega
        · obtain ⟨j1, m, j2, j3, j4⟩ := i2 r hr
          refine ⟨fun z => z.elim (fun z => by cases z.1) j1, ?_⟩
          by_cases hku : k < u
          · have hmx := j3 x hx (narrow x rfl)
            have e2 : min k u = k := by omega
            rw [e2, Int.sub_self, Int.zero_mul, Int.sub_mul] at j4
            refine ⟨m, j2, fun H h hw => j3 H h fun z hz => hw z (List.mem_cons_of_mem _ hz), ?_⟩
            simp only [List.map_cons, List.sum_cons]
            show r + u * m ≤ a + (k * min x m + _)
            rw [Int.min_eq_right hmx]
            omega
          · have e2 : min k u = u := by omega
            rw [e2, Int.sub_self, Int.zero_mul] at j4
            refine ⟨x, hx, fun H h hw => ?_, ?_⟩
            · obtain ⟨y, e, hy⟩ := hw _ List.mem_cons_self
              cases e; exact hy
            · have hmono : (L.map (val m)).sum ≤ (L.map (val x)).sum := sum_map_le fun z hz => by
                obtain ⟨y, e, hy⟩ := narrow x rfl z hz
                unfold val
                cases hz1 : z.1 with
                | none => exact Int.le_refl _
                | some k' =>
                  have hk' := ((hL z hz).1 k' hz1).1
                  refine Int.mul_le_mul_of_nonneg_left ?_ hk'
                  rw [e]
                  show min y m ≤ min y x
                  omega
              simp only [List.map_cons, List.sum_cons]
              show r + u * x ≤ a + (k * min x x + _)
              rw [Int.min_self]
              have e3 := Int.sub_mul k u x
              omega
theorem wsort_pw (rs : List Sort3) : (wsort rs).Pairwise (fun x y => wd x.2.2 y.2.2) :=
  (List.pairwise_mergeSort (le := wle) wle_trans wle_total rs).imp fun h => wle_wd h
theorem rv_rest {rs : List Sort3} (hf : ∀ s ∈ rs, Few s ∧ Room0 s) {t : Int} (ht : 0 ≤ t) : RV (prs3 rs) t (rest rs t) := by
  have hp := List.mergeSort_perm rs wle
  have hw : RV (prs3 (wsort rs)) t (rest rs t) := by
    have hf' : ∀ s ∈ wsort rs, Few s ∧ Room0 s := fun s hs => hf s (hp.mem_iff.mp hs)
    obtain ⟨h1, h2⟩ := rest_fold (wsort rs) 0 t _ (wsort_pw rs) hf' ht rfl
    have e : rest rs t = ((wsort rs).foldl step (some 0, t)).1 := rfl
    rw [e]
    cases hr : ((wsort rs).foldl step (some 0, t)).1 with
    | none => exact h1 hr
    | some r =>
      obtain ⟨n, m, m0, _, hm⟩ := h2 r hr
      have conv : ∀ m, ((prs3 (wsort rs)).map (pv m)).sum = ((wsort rs).map (val m)).sum := fun m => by
        unfold prs3
        rw [List.map_map]
        rfl
      refine ⟨n, fun m' hm' => ?_, m, m0, ?_⟩
      · rw [conv]
        have := r1 hm' (wsort rs) 0 t r _ hf' ht (show (wsort rs).foldl step (some 0, t) = (some r, ((wsort rs).foldl step (some 0, t)).2) by rw [← hr])
        omega
      · rw [conv]; omega
  exact rv_perm (hp.map _) hw
/-! ### kept at each t: parts of the needs find room -/
theorem kept_cond {ks : List Int} {rs : List (Option Int)} (hr : ∀ r ∈ rs, ∀ h, r = some h → 0 ≤ h) (h : ∀ t, 0 ≤ t → fails (ks.map fun k => ((some 1, k, some k) : Sort3)) (rs.map fun r => ((some 1, 0, r) : Sort3)) t = false) : CondO ks rs := by
  intro X hX
  have hf : ∀ s ∈ rs.map (fun r => ((some 1, 0, r) : Sort3)), Few s ∧ Room0 s := fun s hs => by
    obtain ⟨x, hx, rfl⟩ := List.mem_map.mp hs
    exact ⟨fun k e => by cases e; decide, fun h e => hr x hx h e⟩
  obtain ⟨m, hm⟩ : ∃ m : Int, m = X.length := ⟨_, rfl⟩
  have m0 : 0 ≤ m := by omega
  rw [← hm]
  let wi : Option Int → Bool := fun r => match r with | none => true | some x => decide (m < x)
  obtain ⟨t, ht⟩ : ∃ t : Int, t = (rs.map fun r => if wi r = true then 1 else 0).sum := ⟨_, rfl⟩
  have t0 : 0 ≤ t := by
    rw [ht]
    exact sum_nonneg fun y hy => by
      obtain ⟨r, _, rfl⟩ := List.mem_map.mp hy
      split <;> omega
  have hv := rv_rest hf t0
  have hk := h t t0
  unfold fails at hk
  rw [asked_one] at hk
  have e1 : prs3 (rs.map fun r => ((some 1, 0, r) : Sort3)) = rs.map fun r => (some 1, r) := by unfold prs3; rw [List.map_map]; rfl
  rw [e1] at hv
  have e2 : ∀ m, ((rs.map fun r => ((some 1, r) : Pr)).map (pv m)).sum = msum rs m := fun m => by
    unfold msum
    rw [List.map_map]
    congr 1
    refine List.map_congr_left fun r _ => ?_
    show 1 * mn m r = mn m r
    omega
  cases hrest : rest (rs.map fun r => ((some 1, 0, r) : Sort3)) t with
  | none =>
    rw [hrest] at hv
    exfalso
    rcases hv with ⟨p, hp, e, _⟩ | hv
    · obtain ⟨r, _, rfl⟩ := List.mem_map.mp hp
      cases e
    · have : ((rs.map fun r => ((some 1, r) : Pr)).map pw).sum ≤ t := by
        rw [ht, List.map_map]
        refine sum_map_le fun r _ => ?_
        show pw (some 1, r) ≤ _
        unfold pw
        cases r with
        | none => simp [wi]
        | some x => show (0 : Int) ≤ _; split <;> omega
      omega
  | some r =>
    rw [hrest] at hv hk
    obtain ⟨_, _, m1, m10, hm1⟩ := hv
    rw [e2] at hm1
    have h1 : (ks.map fun k => max (k - t) 0).sum ≤ r := by
      unfold kept at hk
      simpa using hk
    have h2 : msum rs m1 - t * m1 ≤ msum rs m - t * m := by
      have key : ∀ rs : List (Option Int), msum rs m1 - (rs.map fun r => if wi r = true then 1 else 0).sum * m1 ≤ msum rs m - (rs.map fun r => if wi r = true then (1 : Int) else 0).sum * m := fun rs => by
        induction rs with
        | nil => simp [msum]
        | cons x rs ih =>
          unfold msum at ih ⊢
          simp only [List.map_cons, List.sum_cons, Int.add_mul]
          have : mn m1 x - (if wi x = true then 1 else 0) * m1 ≤ mn m x - (if wi x = true then (1 : Int) else 0) * m := by
            cases x with
            | none => simp [wi, mn]
            | some x =>
              by_cases hx : m < x
              · simp only [wi, mn, hx, decide_true, if_true, Int.one_mul]; omega
              · simp only [wi, mn, hx, decide_false, Bool.false_eq_true, if_false, Int.zero_mul]; omega
          omega
      have := key rs
      rw [← ht] at this
      exact this
    have h3 : ∀ X : List Int, (∀ k ∈ X, True) → X.sum ≤ t * X.length + (X.map fun k => max (k - t) 0).sum := fun X _ => by
      induction X with
      | nil => simp
      | cons x X ih =>
        have := ih (fun _ _ => trivial)
        simp only [List.sum_cons, List.map_cons, List.length_cons]
        rw [show ((X.length + 1 : Nat) : Int) = (X.length : Int) + 1 by omega, Int.mul_add, Int.mul_one]
        omega
    have h4 := h3 X fun _ _ => trivial
    have h5 : (X.map fun k => max (k - t) 0).sum ≤ (ks.map fun k => max (k - t) 0).sum := sum_sub (hX.map _) fun x hx => by
      obtain ⟨k, _, rfl⟩ := List.mem_map.mp hx
      omega
    rw [← hm] at h4
    omega
end SP
/-! S10: taking from the widest. -/
namespace SP
open TL
def pat (l : List Pr) (i : Int) : Pr := l.getD i.toNat (none, none)
/-- strictly wider -/
def wider : Option Int → Option Int → Bool
  | none, b => b.isSome
  | some x, some y => decide (y < x)
  | some _, none => false
def Best (l : List Pr) (d : List Int) : Option Int → Prop
  | none => ∀ i ∈ d, (pat l i).1 = some 0
  | some b => b ∈ d ∧ (pat l b).1 ≠ some 0 ∧ ∀ i ∈ d, (pat l i).1 ≠ some 0 → wider (pat l i).2 (pat l b).2 = false
theorem wider_trans {a b c : Option Int} (h1 : wider a b = true) (h2 : wider c b = false) : wider c a = false := by
  cases a <;> cases b <;> cases c <;> simp [wider] at * <;> omega
theorem wider_self (a : Option Int) : wider a a = false := by
  cases a <;> simp [wider]
theorem pat_mem {l : List Pr} {i : Int} (h0 : 0 ≤ i) (h1 : i < l.length) : pat l i ∈ l := by
  unfold pat
  rw [List.getD_eq_getElem?_getD, List.getElem?_eq_getElem (show i.toNat < l.length by omega)]
  exact List.getElem_mem _
theorem mem_pat {l : List Pr} {p : Pr} (h : p ∈ l) : ∃ i : Int, 0 ≤ i ∧ i < l.length ∧ pat l i = p := by
  obtain ⟨i, hi, rfl⟩ := List.mem_iff_getElem.mp h
  refine ⟨(i : Int), by omega, by omega, ?_⟩
  unfold pat
  rw [List.getD_eq_getElem?_getD, Int.toNat_natCast, List.getElem?_eq_getElem hi]
  rfl
theorem sum_set (F : Pr → Int) : ∀ (l : List Pr) (i : Nat) (q : Pr), i < l.length → ((l.set i q).map F).sum = (l.map F).sum - F (l.getD i (none, none)) + F q
  | [], i, q, h => by simp at h
  | p :: l, 0, q, _ => by simp; omega
  | p :: l, i + 1, q, h => by
    have := sum_set F l i q (by simpa using h)
    simp only [List.set_cons_succ, List.map_cons, List.sum_cons, List.getD_cons_succ, this]
    omega
structure Lok (l : List Pr) : Prop where
  ok : ∀ p ∈ l, Pok p
  nz : ∀ p ∈ l, p.2 ≠ some 0
def cnt (l : List Pr) : Nat := l.countP fun p => decide (p.1 ≠ some 0)
theorem take_step {l : List Pr} {g b k : Int} {hi : Option Int} (hl : Lok l) (hg : 0 < g) (b0 : 0 ≤ b) (b1 : b < l.length) (hb : pat l b = (some k, hi)) (hk : k ≠ 0)
    (hw : ∀ i : Int, 0 ≤ i → i < l.length → (pat l i).1 ≠ some 0 → wider (pat l i).2 hi = false) {r : Option Int} (h : RV (l.set b.toNat (some (k - min g k), hi)) (g - min g k) r) : RV l g r := by
  obtain ⟨l', hl'⟩ : ∃ l', l' = l.set b.toNat (some (k - min g k), hi) := ⟨_, rfl⟩
  rw [← hl'] at h
  have bm := pat_mem b0 b1
  have bok := hl.ok _ bm
  rw [hb] at bok
  have k0 := bok.1 k rfl
  have tk0 : 0 ≤ min g k := by omega
  have hbn : b.toNat < l.length := by omega
  have hbd : l.getD b.toNat (none, none) = (some k, hi) := hb
  have sp : ∀ m, (l'.map (pv m)).sum = (l.map (pv m)).sum - min g k * mn m hi := fun m => by
    rw [hl', sum_set _ _ _ _ hbn, hbd]
    show _ - k * mn m hi + (k - min g k) * mn m hi = _
    rw [Int.sub_mul]; omega
  -- all that stand are not wider
  have nar : ∀ x, hi = some x → ∀ p ∈ l, p.1 ≠ some 0 → ∃ y, p.2 = some y ∧ y ≤ x := fun x e p hp hp1 => by
    obtain ⟨i, i0, i1, rfl⟩ := mem_pat hp
    have := hw i i0 i1 hp1
    rw [e] at this
    cases hy : (pat l i).2 with
    | none => rw [hy] at this; simp [wider] at this
    | some y => rw [hy] at this; simp [wider] at this; exact ⟨y, rfl, this⟩
  have endl_iff : endl l' ↔ endl l := by
    constructor
    · rintro ⟨p, hp, e1, e2⟩
      rw [hl'] at hp
      rcases List.mem_or_eq_of_mem_set hp with z | z
      · exact ⟨p, z, e1, e2⟩
      · rw [z] at e1; cases e1
    · rintro ⟨p, hp, e1, e2⟩
      obtain ⟨i, i0, i1, rfl⟩ := mem_pat hp
      have hne : i.toNat ≠ b.toNat := fun z => by
        have : i = b := by omega
        rw [this, hb] at e1; cases e1
      refine ⟨pat l i, ?_, e1, e2⟩
      rw [hl']
      refine List.mem_iff_getElem?.mpr ⟨i.toNat, ?_⟩
      rw [List.getElem?_set_ne (Ne.symm hne), List.getElem?_eq_getElem (show i.toNat < l.length by omega)]
      unfold pat
      rw [List.getD_eq_getElem?_getD, List.getElem?_eq_getElem (show i.toNat < l.length by omega)]
      rfl
  cases r with
  | none =>
    rcases h with h | h
    · exact .inl (endl_iff.mp h)
    · rw [hl', sum_set _ _ _ _ hbn, hbd] at h
      cases hi with
      | none =>
        refine .inr ?_
        have e1 : pw ((some k, none) : Pr) = k := rfl
        have e2 : pw ((some (k - min g k), none) : Pr) = k - min g k := rfl
        rw [e1, e2] at h
        omega
      | some x =>
        exfalso
        have e1 : pw ((some k, some x) : Pr) = 0 := rfl
        have e2 : pw ((some (k - min g k), some x) : Pr) = 0 := rfl
        have e3 : l.map pw = l.map fun _ => 0 := List.map_congr_left fun p hp => by
          obtain ⟨a, c⟩ := p
          unfold pw
          cases c with
          | some _ => rfl
          | none =>
            by_cases ha : a = some 0
            · rw [ha]; rfl
            · obtain ⟨y, e, _⟩ := nar x rfl _ hp ha
              cases e
        rw [e1, e2, e3, sum_const] at h
        simp at h
        omega
  | some v =>
    obtain ⟨n1, n2, m, m0, hm⟩ := h
    refine ⟨fun z => n1 (endl_iff.mpr z), fun m' hm' => ?_, ?_⟩
    · have h1 := n2 m' hm'
      rw [sp m'] at h1
      have h2 : min g k * mn m' hi ≤ min g k * m' := Int.mul_le_mul_of_nonneg_left (mn_le _ _) tk0
      have h3 := Int.sub_mul g (min g k) m'
      omega
    · rw [sp m] at hm
      have h3 := Int.sub_mul g (min g k) m
      cases hi with
      | none =>
        refine ⟨m, m0, ?_⟩
        have : mn m none = m := rfl
        rw [this] at hm
        omega
      | some x =>
        have x0 : 0 ≤ x := bok.2 x rfl
        by_cases hx : m ≤ x
        · refine ⟨m, m0, ?_⟩
          have : mn m (some x) = m := by show min x m = m; omega
          rw [this] at hm
          omega
        · refine ⟨x, x0, ?_⟩
          have h4 : (l.map (pv m)).sum ≤ (l.map (pv x)).sum := sum_map_le fun p hp => by
            obtain ⟨a, c⟩ := p
            unfold pv
            cases a with
            | none => exact Int.le_refl _
            | some a =>
              by_cases ha : a = 0
              · rw [ha]; simp
              · obtain ⟨y, e, hy⟩ := nar x rfl _ hp (by simpa using ha)
                have e : c = some y := e
                rw [e]
                show a * min y m ≤ a * min y x
                rw [show min y m = y by omega, show min y x = y by omega]
                exact Int.le_refl _
          have h5 : mn m (some x) = x := by show min x m = x; omega
          rw [h5] at hm
          have h6 := Int.sub_mul g (min g k) x
          have h7 : (g - min g k) * x ≤ (g - min g k) * m := Int.mul_le_mul_of_nonneg_left (by omega) (by omega)
          omega
theorem cnt_set {l : List Pr} {i : Nat} {q : Pr} (hi : i < l.length) (h1 : (l.getD i (none, none)).1 ≠ some 0) : cnt (l.set i q) + 1 = cnt l + (if q.1 = some 0 then 0 else 1) := by
  induction l generalizing i with
  | nil => simp at hi
  | cons p l ih =>
    unfold cnt at *
    cases i with
    | zero =>
      rw [List.set_cons_zero, List.countP_cons, List.countP_cons]
      have : p.1 ≠ some 0 := h1
      by_cases hq : q.1 = some 0 <;> simp [hq, this]
    | succ i =>
      rw [List.set_cons_succ, List.countP_cons, List.countP_cons]
      have := ih (by simpa using hi) h1
      omega
theorem cnt_zero {l : List Pr} (h : cnt l = 0) : ∀ p ∈ l, p.1 = some 0 := fun p hp => by
  unfold cnt at h
  have := List.countP_eq_zero.mp h p hp
  simpa using this
theorem lok_set {l : List Pr} {i : Nat} {k : Int} {hi : Option Int} (hl : Lok l) (hk : 0 ≤ k) (h : ∃ k', (k', hi) ∈ l) : Lok (l.set i (some k, hi)) := by
  obtain ⟨k', hm⟩ := h
  refine ⟨fun p hp => ?_, fun p hp => ?_⟩
  · rcases List.mem_or_eq_of_mem_set hp with z | z
    · exact hl.ok p z
    · rw [z]; exact ⟨fun k e => by cases e; exact hk, (hl.ok _ hm).2⟩
  · rcases List.mem_or_eq_of_mem_set hp with z | z
    · exact hl.nz p z
    · rw [z]; exact hl.nz (k', hi) hm
/-- what is told of a sort at the end -/
def lost (p : Pr) : Bool := match p with
  | (none, _) => true
  | (some k, none) => decide (0 < k)
  | (some _, some _) => false
def worth (p : Pr) : Int := match p with
  | (some k, some h) => k * h
  | _ => 0
theorem rv_end {l : List Pr} {g : Int} (hl : Lok l) (hg : 0 ≤ g) (h : g = 0 ∨ cnt l = 0) : RV l g (if l.any lost = true then none else some ((l.map worth).sum)) := by
  by_cases hl2 : l.any lost = true
  · rw [if_pos hl2]
    obtain ⟨p, hp, hlo⟩ := List.any_eq_true.mp hl2
    obtain ⟨a, c⟩ := p
    cases a with
    | none => exact .inl ⟨_, hp, rfl, hl.nz _ hp⟩
    | some k =>
      cases c with
      | some _ => simp [lost] at hlo
      | none =>
        have hk : 0 < k := by simpa [lost] using hlo
        rcases h with h | h
        · refine .inr ?_
          have h1 : (([((some k, none) : Pr)]).map pw).sum ≤ (l.map pw).sum := sum_sub ((List.singleton_sublist.mpr hp).map pw) fun x hx => by
            obtain ⟨q, hq, rfl⟩ := List.mem_map.mp hx
            obtain ⟨a', c'⟩ := q
            unfold pw
            cases c' with
            | some _ => exact Int.le_refl _
            | none =>
              cases a' with
              | none => exact Int.le_refl _
              | some k' => exact (hl.ok _ hq).1 k' rfl
          have h2 : (([((some k, none) : Pr)]).map pw).sum = k := by simp [pw]
          omega
        · have := cnt_zero h _ hp
          cases this
          omega
  · rw [if_neg hl2]
    have hno : ∀ p ∈ l, lost p = false := fun p hp => by
      cases e : lost p with
      | false => rfl
      | true => exact absurd (List.any_eq_true.mpr ⟨p, hp, e⟩) hl2
    refine ⟨fun ⟨p, hp, e1, _⟩ => ?_, fun m hm => ?_, ?_⟩
    · have := hno p hp
      obtain ⟨a, c⟩ := p
      cases e1
      simp [lost] at this
    · have h1 : (l.map (pv m)).sum ≤ (l.map worth).sum := sum_map_le fun p hp => by
        have h2 := hno p hp
        have h3 := hl.ok p hp
        obtain ⟨a, c⟩ := p
        cases a with
        | none => simp [lost] at h2
        | some k =>
          have k0 := h3.1 k rfl
          cases c with
          | none =>
            have : ¬ 0 < k := by simpa [lost] using h2
            have : k = 0 := by omega
            subst this
            simp [pv, worth]
          | some x =>
            show k * min x m ≤ k * x
            exact Int.mul_le_mul_of_nonneg_left (by omega) k0
      have := Int.mul_nonneg hg hm
      omega
    · rcases h with h | h
      · have big : ∃ M : Int, 0 ≤ M ∧ ∀ p ∈ l, ∀ x, p.2 = some x → x ≤ M := by
          clear h hno hl2 hl
          induction l with
          | nil => exact ⟨0, Int.le_refl 0, fun p hp => by simp at hp⟩
          | cons q l ih =>
            obtain ⟨M, M0, hM⟩ := ih
            refine ⟨max M (q.2.getD 0), by omega, fun p hp x e => ?_⟩
            rcases List.mem_cons.mp hp with z | z
            · rw [← z, e]; show x ≤ max M x; omega
            · have := hM p z x e; omega
        obtain ⟨M, M0, hM⟩ := big
        refine ⟨M, M0, ?_⟩
        have h1 : (l.map worth).sum ≤ (l.map (pv M)).sum := sum_map_le fun p hp => by
          have h2 := hno p hp
          have h3 := hM p hp
          obtain ⟨a, c⟩ := p
          cases a with
          | none => simp [lost] at h2
          | some k =>
            cases c with
            | none =>
              have k0 := (hl.ok _ hp).1 k rfl
              have := Int.mul_nonneg k0 M0
              simpa [pv, worth, mn] using this
            | some x =>
              have := h3 x rfl
              show k * x ≤ k * min x M
              rw [show min x M = x by omega]
              exact Int.le_refl _
        rw [h]; omega
      · have hz := cnt_zero h
        refine ⟨0, Int.le_refl 0, ?_⟩
        have h1 : l.map worth = l.map fun _ => 0 := List.map_congr_left fun p hp => by
          obtain ⟨a, c⟩ := p
          cases hz _ hp
          cases c <;> simp [worth]
        have h2 : l.map (pv 0) = l.map fun _ => 0 := List.map_congr_left fun p hp => by
          obtain ⟨a, c⟩ := p
          cases hz _ hp
          simp [pv]
        rw [h1, h2, sum_const]
        simp
/-- what is left out at the start is worth nothing -/
def live (rs : List Sort3) : List Pr := (rs.filter fun s => decide (s.1 ≠ some 0) && decide (s.2.2 ≠ some 0)).map fun s => (s.1, s.2.2)
theorem live_lok {rs : List Sort3} (hf : ∀ s ∈ rs, Few s ∧ Room0 s) : Lok (live rs) := by
  refine ⟨fun p hp => ?_, fun p hp => ?_⟩
  · obtain ⟨s, hs, rfl⟩ := List.mem_map.mp hp
    have := hf s (List.mem_filter.mp hs).1
    exact ⟨fun k e => (this.1 k e).1, this.2⟩
  · obtain ⟨s, hs, rfl⟩ := List.mem_map.mp hp
    have := (List.mem_filter.mp hs).2
    simp only [Bool.and_eq_true, decide_eq_true_eq] at this
    exact this.2
theorem rv_live {rs : List Sort3} {g : Int} {r : Option Int} (h : RV (live rs) g r) : RV (prs3 rs) g r := by
  refine rv_cong ?_ ?_ ?_ h
  · constructor
    · rintro ⟨p, hp, e⟩
      obtain ⟨s, hs, rfl⟩ := List.mem_map.mp hp
      exact ⟨_, List.mem_map.mpr ⟨s, (List.mem_filter.mp hs).1, rfl⟩, e⟩
    · rintro ⟨p, hp, e1, e2⟩
      obtain ⟨s, hs, rfl⟩ := List.mem_map.mp hp
      refine ⟨_, List.mem_map.mpr ⟨s, List.mem_filter.mpr ⟨hs, ?_⟩, rfl⟩, e1, e2⟩
      have e1 : s.1 = none := e1
      have e2 : s.2.2 ≠ some 0 := e2
      simp [e1, e2]
  · unfold live prs3
    clear h
    induction rs with
    | nil => rfl
    | cons s rs ih =>
      rw [List.filter_cons]
      simp only [List.map_cons, List.sum_cons]
      by_cases h1 : s.1 = some 0
      · have : pw (s.1, s.2.2) = 0 := by unfold pw; rw [h1]; cases s.2.2 <;> rfl
        simp only [h1, ne_eq, not_true_eq_false, decide_false, Bool.false_and, Bool.false_eq_true, if_false]
        rw [h1] at this
        simp only [ne_eq] at ih
        omega
      · by_cases h2 : s.2.2 = some 0
        · have : pw (s.1, s.2.2) = 0 := by unfold pw; rw [h2]
          simp only [h2, ne_eq, not_true_eq_false, decide_false, Bool.and_false, Bool.false_eq_true, if_false]
          rw [h2] at this
          simp only [ne_eq] at ih
          omega
        · simp only [h1, h2, ne_eq, not_false_eq_true, decide_true, Bool.and_true, if_true, List.map_cons, List.sum_cons]
          simp only [ne_eq] at ih
          omega
  · intro m hm
    unfold live prs3
    clear h
    induction rs with
    | nil => rfl
    | cons s rs ih =>
      rw [List.filter_cons]
      simp only [List.map_cons, List.sum_cons]
      by_cases h1 : s.1 = some 0
      · have : pv m (s.1, s.2.2) = 0 := by unfold pv; rw [h1]; simp
        simp only [h1, ne_eq, not_true_eq_false, decide_false, Bool.false_and, Bool.false_eq_true, if_false]
        rw [h1] at this
        simp only [ne_eq] at ih
        omega
      · by_cases h2 : s.2.2 = some 0
        · have : pv m (s.1, s.2.2) = 0 := by
            unfold pv
            rw [h2]
            cases s.1 with
            | none => rfl
            | some k =>
              show k * min 0 m = 0
              rw [show min 0 m = 0 by omega]; simp
          simp only [h2, ne_eq, not_true_eq_false, decide_false, Bool.and_false, Bool.false_eq_true, if_false]
          rw [h2] at this
          simp only [ne_eq] at ih
          omega
        · simp only [h1, h2, ne_eq, not_false_eq_true, decide_true, Bool.and_true, if_true, List.map_cons, List.sum_cons]
          simp only [ne_eq] at ih
          omega
end SP
namespace T16
open TL SP
theorem e_times (a b : Option Int) (h : ∀ x y, a = some x → b = some y → L2.CMul x y) : m_endless_times (a, b) = .ok (times a b) := by
  unfold m_endless_times w_endless_times times
  cases a with
  | none => cases b with
    | none => simp [Rs.bind_assoc, Rs.ok_bind, then_nx, then_rt, endM_rt, ofOpt_some, rOr]
    | some y => by_cases hy : y = 0 <;> simp [Rs.bind_assoc, Rs.ok_bind, then_nx, then_rt, endM_rt, ofOpt_some, rOr, hy]
  | some x => cases b with
    | none => by_cases hx : x = 0 <;> simp [Rs.bind_assoc, Rs.ok_bind, then_nx, then_rt, endM_rt, ofOpt_some, rOr, hx]
    | some y =>
      have hc := h x y rfl rfl
      by_cases hx : x = 0
      · simp [Rs.bind_assoc, Rs.ok_bind, then_nx, then_rt, endM_rt, ofOpt_some, rOr, hx]
      · by_cases hy : y = 0 <;> simp [Rs.bind_assoc, Rs.ok_bind, then_nx, then_rt, endM_rt, ofOpt_some, rOr, hx, hy, Rs.guard, hc]
theorem e_plus (a b : Option Int) : m_endless_plus (a, b) = .ok (plus a b) := by
  unfold m_endless_plus w_endless_plus plus
  cases a <;> cases b <;> simp [Rs.bind_assoc, Rs.ok_bind, then_nx, then_rt, endM_rt, ofOpt_some, rOr]
theorem e_width (s : Sort3) : m_width_place s = .ok (wkey s) := by
  obtain ⟨a, b, c⟩ := s
  unfold m_width_place w_width_place wkey
  cases c <;> simp [Rs.bind_assoc, Rs.ok_bind, then_nx, then_rt, endM_rt, ofOpt_some]
theorem e_kept (a b : Option Int) : m_kept (a, b) = .ok (kept (a, b)) := by
  unfold m_kept w_kept kept
  cases a <;> cases b <;> simp [Rs.bind_assoc, Rs.ok_bind, then_nx, then_rt, endM_rt, ofOpt_some, rOr, rAnd]
theorem e_row_bound (n : Int) (h : n ≤ 60) : m_row_bound n = .ok () := by
  unfold m_row_bound w_row_bound
  have : ¬ (60 < n) := by omega
  simp [Rs.bind_assoc, Rs.ok_bind, then_nx, then_rt, endM_rt, endM_nx, ofOpt_some, this]
theorem e_capped (r : Option Int) (n : Int) : m_capped (r, n) = .ok (capF n r) := by
  unfold m_capped w_capped capF
  cases r <;> simp [Rs.bind_assoc, Rs.ok_bind, then_nx, then_rt, endM_rt, ofOpt_some]
theorem keysM_ok {α κ : Type} {key : α → Rs κ} (f : α → κ) : ∀ xs : List α, (∀ x ∈ xs, key x = .ok (f x)) → keysM key xs = .ok (xs.map f)
  | [], _ => rfl
  | x :: r, h => by
    unfold keysM
    rw [h x List.mem_cons_self, Rs.ok_bind, keysM_ok f r fun y hy => h y (List.mem_cons_of_mem _ hy)]
    rfl
theorem e_wsort (rs : List Sort3) : srtK m_width_place rs = .ok (wsort rs) := by
  unfold srtK
  rw [keysM_ok wkey rs fun x _ => e_width x]
  have e := List.map_mergeSort (r := fun a b : Sort3 => lexLe (wkey a) (wkey b)) (s := fun p q : Sort3 × (Int × Int) => lexLe p.2 q.2) (f := fun s : Sort3 => (s, wkey s)) (l := rs) (fun _ _ _ _ => rfl)
  have e2 : rs.zip (rs.map wkey) = rs.map fun s => (s, wkey s) := by
    clear e
    induction rs with
    | nil => rfl
    | cons a r ih => simp [ih]
  show Rs.ok _ = _
  rw [e2, ← e, List.map_map]
  congr 1
  show List.map (fun s => s) _ = _
  rw [List.map_id']
  rfl
theorem e_rest (rs : List Sort3) (t : Int) (h0 : 0 ≤ t) (hf : ∀ s ∈ rs, Few s) : m_rest_of_rooms (rs, t) = .ok (rest rs t) := by
  unfold m_rest_of_rooms w_rest_of_rooms
  simp only [Rs.bind_assoc, Rs.ok_bind, then_nx, e_wsort]
  refine for_goal (fun s b => (s.1, s.2.1, (step (s.2.2.1, s.2.2.2.1) b).1, (step (s.2.2.1, s.2.2.2.1) b).2, (), (), (), (), ())) (fun s => 0 ≤ s.2.2.2.1) h0 (fun x hx s hs => ?_) fun _ => ?_
  · have fx := hf x ((List.mergeSort_perm rs wle).mem_iff.mp hx)
    obtain ⟨a, b, c⟩ := x
    obtain ⟨s1, s2, s3, s4, _⟩ := s
    cases a with
    | none => simp [Rs.bind_assoc, Rs.ok_bind, then_nx, ofOpt_some, e_times, e_plus, step]
    | some k =>
      obtain ⟨k0, k1⟩ := fx k rfl
      have hs : 0 ≤ s4 := hs
      have hc : ∀ y, L2.CMul (k - min k s4) y := fun y => .inl ⟨by omega, by omega⟩
      have e := e_times (some (k - min k s4)) c (fun x y hx hy => by cases hx; exact hc y)
      refine ⟨by simp [Rs.bind_assoc, Rs.ok_bind, then_nx, ofOpt_some, e, e_plus, step], ?_⟩
      show 0 ≤ s4 - min k s4
      omega
  · have key : ∀ (xs : List Sort3) (c : Option Int × Int), (xs.foldl (fun (s : List Sort3 × Int × Option Int × Int × Unit × Unit × Unit × Unit × Unit) b => (s.1, s.2.1, (step (s.2.2.1, s.2.2.2.1) b).1, (step (s.2.2.1, s.2.2.2.1) b).2, (), (), (), (), ())) (rs, t, c.1, c.2, (), (), (), (), ())) = (rs, t, (xs.foldl step c).1, (xs.foldl step c).2, (), (), (), (), ()) := fun xs => by
      induction xs with
      | nil => intro c; rfl
      | cons x r ih => intro c; exact ih (step c x)
    have k0 := key (wsort rs) (some 0, t)
    simp only [Rs.bind_assoc, Rs.ok_bind, then_nx, then_rt, endM_rt, k0]
    rfl
theorem e_sums (ns rs : List Sort3) (t : Int) (h0 : 0 ≤ t) (hn : ∀ s ∈ ns, Few s) (hf : ∀ s ∈ rs, Few s) : m_sums (ns, rs, t) = .ok (asked ns t, rest rs t) := by
  unfold m_sums w_sums
  simp only [Rs.bind_assoc, Rs.ok_bind, then_nx, e_wsort]
  refine for_goal (fun s b => (s.1, s.2.1, s.2.2.1, plus s.2.2.2.1 (times b.1 (some (max (b.2.1 - s.2.2.1) 0))), (), (), (), ())) (fun s => True) trivial (fun x hx s hs => ?_) fun _ => ?_
  · obtain ⟨a, b, c⟩ := x
    have fx := hn _ hx
    refine ⟨?_, trivial⟩
    have e := e_times a (some (max (b - s.2.2.1) 0)) (fun x y hx hy => by
      have := fx x hx
      exact .inl ⟨by omega, by omega⟩)
    simp [Rs.bind_assoc, Rs.ok_bind, then_nx, ofOpt_some, e, e_plus]
  · have key : ∀ (xs : List Sort3) (c : Option Int), (xs.foldl (fun (s : List Sort3 × List Sort3 × Int × Option Int × Unit × Unit × Unit × Unit) b => (s.1, s.2.1, s.2.2.1, plus s.2.2.2.1 (times b.1 (some (max (b.2.1 - s.2.2.1) 0))), (), (), (), ())) (ns, rs, t, c, (), (), (), ())) = (ns, rs, t, xs.foldl (fun a s => plus a (times s.1 (some (max (s.2.1 - t) 0)))) c, (), (), (), ()) := fun xs => by
      induction xs with
      | nil => intro c; rfl
      | cons x r ih => intro c; exact ih _
    have k0 := key ns (some 0)
    simp only [Rs.bind_assoc, Rs.ok_bind, then_nx, then_rt, endM_rt, k0, e_rest rs t h0 hf]
    rfl
theorem top_nonneg (ns : List Sort3) : 0 ≤ top ns := (foldl_max_ge _ 0).1
theorem e_short (ns rs : List Sort3) (hn : ∀ s ∈ ns, Few s) (hf : ∀ s ∈ rs, Few s) (hl : ns.length ≤ 1000) (ht : top ns ≤ 1000) : m_short (ns, rs) = .ok (short ns rs) := by
  unfold m_short w_short
  simp only [Rs.bind_assoc, Rs.ok_bind, then_nx]
  have e1 : lcM (fun b : Sort3 => nox (lcT (Rs.ok !decide (b.fst = some 0)) (Rs.ok b.snd.fst))) ns = .ok (ns.filterMap fun s => if s.1 = some 0 then none else some s.2.1) := by
    refine lcM_fmap _ ns fun x _ => ?_
    by_cases h : x.1 = some 0 <;> simp [h, lcT, nox, Rs.ok_bind]
  have hl2 : ns.length ≤ PySem.sizeLine := by rw [PySem.sizeLine_eq]; omega
  rw [e1, Rs.guard_of (decide_eq_true hl2), Rs.ok_bind]
  have hl3 : [(0 : Int)].length + (ns.filterMap fun s : Sort3 => if s.1 = some 0 then none else some s.2.1).length ≤ PySem.sizeLine := by
    have := List.length_filterMap_le (fun s : Sort3 => if s.1 = some 0 then none else some s.2.1) ns
    rw [PySem.sizeLine_eq]
    simp only [List.length_cons, List.length_nil]
    omega
  rw [Rs.guard_of (decide_eq_true hl3), Rs.ok_bind, show maxL ([0] ++ ns.filterMap fun s : Sort3 => if s.1 = some 0 then none else some s.2.1) = .ok (top ns) from rfl, Rs.ok_bind, Rs.guard_of (rgOk_of (by omega) (top_nonneg ns)), Rs.ok_bind]
  refine find_goal (fun s _ => (s.1, s.2.1, (), (), (), (), (), (), ())) (fun s => s.1 = ns ∧ s.2.1 = rs) (fun t => if fails ns rs t = true then some (some t) else none) ⟨rfl, rfl⟩ (fun t ht s hs => ?_) fun _ => ?_
  · obtain ⟨h1, h2⟩ := hs
    refine ⟨?_, h1, h2⟩
    rw [h1, h2, e_sums ns rs t (rangeL_mem ht).1 hn hf, Rs.ok_bind, e_kept, Rs.ok_bind]
    unfold fails
    cases hk : kept (asked ns t, rest rs t) <;> simp [Rs.ok_bind, then_nx, then_rt]
  · rw [findSome_if]
    unfold short
    cases h : (rangeL 0 (top ns)).find? (fails ns rs) <;> simp [Rs.ok_bind, then_nx, then_rt, endM_rt]
theorem rv_at {l : List Int} {y : Int} (h : 0 ≤ y ∧ y < l.length) : L2.atI l y = some (rv l y) := by
  rw [atI_in h.1 h.2]
  unfold rv
  rw [List.getD_eq_getElem?_getD, List.getElem?_eq_getElem (by omega)]
  rfl
theorem small {n : Nat} (h : n ≤ 1000) : n ≤ PySem.sizeLine := by rw [PySem.sizeLine_eq]; omega
theorem rangeL_len (n : Int) : (rangeL 0 n).length = n.toNat := by
  unfold rangeL
  rw [List.length_map, List.length_range]
  congr 1
  omega
theorem e_greedy (ks : List Int) (rs : List (Option Int)) (h1 : ks.length ≤ 1000) (h2 : rs.length ≤ 1000) (h3 : ∀ k ∈ ks, 0 ≤ k) : m_greedy_web (ks, rs) = .ok (greedy ks rs) := by
  unfold m_greedy_web w_greedy_web
  simp only [Rs.bind_assoc, Rs.ok_bind, then_nx, e_capped]
  have e0 : lcM (fun b => nox (lcT (Rs.ok true) (Rs.ok (capF ks.length b)))) rs = .ok (caps rs ks.length) := lcM_map (capF ks.length) rs fun x _ => rfl
  have hz := small h2
  rw [e0, Rs.guard_of (decide_eq_true hz), Rs.ok_bind]
  have hcl : (caps rs ks.length).length = rs.length := by unfold caps; rw [List.length_map]
  refine for_goalR (fun s k => (s.1, s.2.1, dec s.2.2.1 (row s.2.2.1 k), s.2.2.2.1 ++ [row s.2.2.1 k], (), (), (), (), (), (), ())) (fun l s => s.2.2.1.length = rs.length ∧ s.2.2.2.1.length + l.length ≤ 1000 ∧ ∀ k ∈ l, 0 ≤ k) ⟨hcl, by simpa using h1, h3⟩ (fun k l s hs => ?_) fun _ => ?_
  · obtain ⟨g1, g2, g3⟩ := hs
    obtain ⟨s1, s2, s3, s4, _⟩ := s
    have g1 : s3.length = rs.length := g1
    have hk : 0 ≤ k := g3 k List.mem_cons_self
    refine ⟨?_, by show (dec s3 (row s3 k)).length = _; rw [dec_len, g1], by
      show (s4 ++ [row s3 k]).length + l.length ≤ 1000
      have : s4.length + (k :: l).length ≤ 1000 := g2
      simp only [List.length_append, List.length_cons, List.length_nil] at this ⊢
      omega, fun z hz => g3 z (List.mem_cons_of_mem _ hz)⟩
    have e1 : lcM (fun b => nox (lcT ((Rs.ofOpt (L2.atI s3 b)).bind fun x => Rs.ok (decide (0 < x))) ((Rs.ofOpt (L2.atI s3 b)).bind fun a => Rs.ok (-a, b)))) (rangeL 0 s3.length) = .ok (prs s3) := by
      refine lcM_fmap _ _ fun y hy => ?_
      rw [rv_at (rangeL_mem hy), ofOpt_some, Rs.ok_bind, Rs.ok_bind]
      by_cases h : 0 < rv s3 y <;> simp [lcT, nox, Rs.ok_bind, h]
    have e2 : sl (srtP (prs s3)) none (some k) = (srtP (prs s3)).take k.toNat := sl_take _ hk
    have hpl : (srtP (prs s3)).length ≤ 1000 := by
      rw [(srtP_perm _).length_eq]
      have := List.length_filterMap_le (fun y => if 0 < rv s3 y then some (-(rv s3 y), y) else none) (rangeL 0 s3.length)
      rw [rangeL_len] at this
      have : (prs s3).length ≤ ((s3.length : Int)).toNat := this
      omega
    have e3 : lcM (fun b : Int × Int => nox (lcT (Rs.ok true) (Rs.ok b.snd))) ((srtP (prs s3)).take k.toNat) = .ok ((order s3).take k.toNat) := by
      rw [lcM_map (fun b : Int × Int => b.2) _ fun x _ => by simp [lcT, nox, Rs.ok_bind], List.map_take]
      rfl
    have hrl : (rangeL 0 (s3.length : Int)).length ≤ 1000 := by rw [rangeL_len]; omega
    dsimp only
    rw [Rs.guard_of (rgOk_of (by omega) (by omega)), Rs.ok_bind, e1, Rs.guard_of (decide_eq_true (small hrl)), Rs.ok_bind, e2, e3, Rs.guard_of (decide_eq_true (small (by rw [List.length_take]; omega))), Rs.ok_bind]
    rw [show srt ((order s3).take k.toNat) = row s3 k from rfl]
    refine for_goal (fun s y => (s.1, s.2.1, s.2.2.1.set y.toNat (rv s.2.2.1 y - 1), s.2.2.2.1, s.2.2.2.2.1, s.2.2.2.2.2.1, s.2.2.2.2.2.2.1, (), (), (), ())) (fun s => s.2.2.1.length = rs.length) g1 (fun y hy s hs => ?_) fun _ => ?_
    · have hy2 := (row_pos hy).1
      have hs : s.2.2.1.length = rs.length := hs
      refine ⟨?_, by show (s.2.2.1.set _ _).length = _; rw [List.length_set]; exact hs⟩
      have b1 : 0 ≤ y ∧ y < s.2.2.1.length := ⟨hy2.1, by omega⟩
      rw [rv_at b1, ofOpt_some, Rs.ok_bind, ixN_in b1.1 b1.2, ofOpt_some, Rs.ok_bind]
    · have key : ∀ (xs : List Int) (c : List Int), (xs.foldl (fun (s : List Int × List (Option Int) × List Int × List (List Int) × Int × List (Int × Int) × List Int × Unit × Unit × Unit × Unit) y => (s.1, s.2.1, s.2.2.1.set y.toNat (rv s.2.2.1 y - 1), s.2.2.2.1, s.2.2.2.2.1, s.2.2.2.2.2.1, s.2.2.2.2.2.2.1, (), (), (), ())) (s1, s2, c, s4, k, srtP (prs s3), row s3 k, (), (), (), ())) = (s1, s2, dec c xs, s4, k, srtP (prs s3), row s3 k, (), (), (), ()) := fun xs => by
        induction xs with
        | nil => intro c; rfl
        | cons x r ih => intro c; exact ih _
      have k0 := key (row s3 k) s3
      have hg : s4.length + (k :: l).length ≤ 1000 := g2
      have hg2 : s4.length < PySem.sizeLine := by
        rw [PySem.sizeLine_eq]
        simp only [List.length_cons] at hg
        omega
      simp only [k0, Rs.bind_assoc, Rs.ok_bind, then_nx, Rs.guard_of (decide_eq_true hg2)]
  · have key : ∀ (xs : List Int) (c : List Int × List (List Int)), (xs.foldl (fun (s : List Int × List (Option Int) × List Int × List (List Int) × Unit × Unit × Unit × Unit × Unit × Unit × Unit) k => (s.1, s.2.1, dec s.2.2.1 (row s.2.2.1 k), s.2.2.2.1 ++ [row s.2.2.1 k], (), (), (), (), (), (), ())) (ks, rs, c.1, c.2, (), (), (), (), (), (), ())) = (ks, rs, (xs.foldl gstep c).1, (xs.foldl gstep c).2, (), (), (), (), (), (), ()) := fun xs => by
      induction xs with
      | nil => intro c; rfl
      | cons x r ih => intro c; exact ih (gstep c x)
    have k0 := key ks (caps rs ks.length, [])
    simp only [k0, Rs.bind_assoc, Rs.ok_bind, then_nx, then_rt, endM_rt]
    rfl
theorem getD_at {α : Type} {l : List α} {x : Int} (d : α) (h : 0 ≤ x ∧ x < l.length) : L2.atI l x = some (l.getD x.toNat d) := by
  rw [atI_in h.1 h.2, List.getD_eq_getElem?_getD, List.getElem?_eq_getElem (by omega)]
  rfl
theorem e_half (ks : List Int) (rs : List (Option Int)) (h1 : ks.length ≤ 60) (h2 : rs.length ≤ 60) (h3 : ∀ k ∈ ks, 0 ≤ k) : m_half (ks, rs) = .ok (half ks rs) := by
  unfold m_half w_half
  simp only [Rs.bind_assoc, Rs.ok_bind, then_nx]
  rw [e_row_bound _ (by omega), Rs.ok_bind, e_row_bound _ (by omega), Rs.ok_bind, e_greedy ks rs (by omega) (by omega) h3, Rs.ok_bind, Rs.guard_of (rgOk_of (by omega) (by omega)), Rs.ok_bind]
  refine find_goal (fun s _ => (s.1, s.2.1, s.2.2.1, (), ())) (fun s => s.1 = ks ∧ s.2.2.1 = greedy ks rs) (fun x => if lacks ks (greedy ks rs) x = true then some none else none) ⟨rfl, rfl⟩ (fun x hx s hs => ?_) fun hP => ?_
  · obtain ⟨g1, g2⟩ := hs
    have hx := rangeL_mem hx
    refine ⟨?_, g1, g2⟩
    rw [g1, g2, getD_at [] ⟨hx.1, by rw [greedy_len]; exact hx.2⟩, ofOpt_some, Rs.ok_bind, getD_at 0 hx, ofOpt_some, Rs.ok_bind]
    unfold lacks
    generalize ((((greedy ks rs).getD x.toNat []).length : Nat) : Int) = u
    generalize ks.getD x.toNat 0 = v
    by_cases h : u < v <;> simp [h, Rs.ok_bind, then_nx, then_rt]
  · rw [findSome_if (lacks ks (greedy ks rs)) (fun _ => (none : Option (List (List Int))))]
    unfold half
    cases h : (rangeL 0 ks.length).find? (lacks ks (greedy ks rs)) <;> simp [Rs.ok_bind, then_nx, then_rt, endM_rt, hP.2]
theorem e_mixed (a b : Int) : ∃ r, m__law_mixed (a, b) = .ok r := by
  unfold m__law_mixed w__law_mixed
  simp only [Rs.bind_assoc, Rs.ok_bind, then_nx, then_rt, endM_rt, endM_nx]
  have c1 : ∀ x : Int, L2.CMul x 48271 := fun x => .inr (by decide)
  have c2 : ∀ x : Int, L2.CMul x 69621 := fun x => .inr (by decide)
  have c3 : ∀ x : Int, L2.CMul 16807 x := fun x => .inl (by decide)
  have c4 : ∀ x : Int, L2.CMul (x.fmod 2147483647) (x.fmod 2147483647) := fun x => by
    have h1 := Int.fmod_nonneg_of_pos x (show (0 : Int) < 2147483647 by decide)
    have h2 := Int.fmod_lt_of_pos x (show (0 : Int) < 2147483647 by decide)
    exact .inl ⟨by omega, by omega⟩
  have c5 : ∀ x : Int, L2.CDivN x 8 := fun x => by unfold L2.CDivN; decide
  have n1 : (2147483647 : Int) ≠ 0 := by decide
  have n2 : (268435399 : Int) ≠ 0 := by decide
  rw [Rs.guard_of (decide_eq_true (c1 _)), Rs.ok_bind, Rs.guard_of (decide_eq_true (c2 _)), Rs.ok_bind, Rs.guard_of (decide_eq_true n1), Rs.ok_bind, Rs.guard_of (decide_eq_true (c4 _)), Rs.ok_bind, Rs.guard_of (decide_eq_true (c3 _)), Rs.ok_bind, Rs.guard_of (decide_eq_true n1), Rs.ok_bind, Rs.guard_of (decide_eq_true (c5 _)), Rs.ok_bind, Rs.guard_of (decide_eq_true n2), Rs.ok_bind]
  exact ⟨_, rfl⟩
abbrev Pool := List Int × Int × Int × Int
theorem e_draw (p : Pool) (b : Int) (hb : 0 < b) (hb2 : b < 1073741824) (hi : 0 ≤ p.2.1) : ∃ d p', m__law_draw (p, b) = .ok (d, p') ∧ 0 ≤ d ∧ d < b ∧ 0 ≤ p'.2.1 := by
  obtain ⟨l, i, n, k⟩ := p
  have hi : 0 ≤ i := hi
  have hb0 : b ≠ 0 := by omega
  have cd : ∀ x, L2.CDivN x b := fun x => ⟨hb0, by omega⟩
  have fm : ∀ x : Int, 0 ≤ x.fmod b ∧ x.fmod b < b := fun x => ⟨Int.fmod_nonneg_of_pos x hb, Int.fmod_lt_of_pos x hb⟩
  unfold m__law_draw w__law_draw
  simp only [Rs.bind_assoc, Rs.ok_bind, then_nx, then_rt, endM_rt, endM_nx]
  by_cases hk : 0 < k
  · rw [decide_eq_true hk, if_pos rfl, Rs.guard_of (decide_eq_true hb0), Rs.ok_bind, Rs.guard_of (decide_eq_true (cd n)), Rs.ok_bind, Rs.ok_bind, then_rt, Rs.ok_bind, endM_rt]
    exact ⟨_, _, rfl, (fm n).1, (fm n).2, hi⟩
  · rw [decide_eq_false hk, if_neg (by simp), Rs.ok_bind, then_nx]
    dsimp only
    rw [Rs.bind_assoc]
    by_cases hl : (l.length : Int) ≤ i
    · rw [decide_eq_true hl, if_pos rfl, Rs.ok_bind, then_rt, Rs.ok_bind, endM_rt]
      exact ⟨_, _, rfl, Int.le_refl 0, hb, hi⟩
    · rw [decide_eq_false hl, if_neg (by simp), Rs.ok_bind, then_nx]
      dsimp only
      rw [Rs.bind_assoc, getD_at 0 ⟨hi, by omega⟩, ofOpt_some, Rs.ok_bind]
      have c10 : L2.CPow 10 18 := by unfold L2.CPow; decide
      generalize l.getD i.toNat 0 = cell
      have fin : ∀ c : Int, ∃ d p', (((Rs.guard (decide (L2.CPow 10 18)) (Rs.ok ((10 : Int) ^ Int.toNat 18))).bind fun a =>
          (if decide (a ≤ c) = true then
                (Rs.guard (decide (L2.CDivN c b)) (Rs.ok (c.fdiv b))).bind fun a => (Rs.guard (decide (b ≠ 0)) (Rs.ok (c.fmod b))).bind fun a_1 => Rs.ok (Fl.rt (S := Pool × Int × Unit × Int × Unit) (L := Unit) (a_1, ((l, i + 1, a, (40 : Int)) : Pool)))
              else Rs.ok (Fl.nx ((l, i + 1, n, k), b, (), c, ()))).bind
            (Fl.then fun s => (m__law_mixed (s.2.2.2.1, s.1.2.1)).bind fun a => (Rs.guard (decide (s.2.1 ≠ 0)) (Rs.ok (a.fmod s.2.1))).bind fun a => Rs.ok (Fl.rt (S := Pool × Int × Unit × Unit × Unit) (L := Unit) (a, s.1)))).bind (endM fun x => Rs.bad)) = .ok (d, p') ∧ 0 ≤ d ∧ d < b ∧ 0 ≤ p'.2.1 := fun c => by
        rw [Rs.guard_of (decide_eq_true c10), Rs.ok_bind]
        by_cases h : (10 : Int) ^ Int.toNat 18 ≤ c
        · rw [decide_eq_true h, if_pos rfl, Rs.guard_of (decide_eq_true (cd c)), Rs.ok_bind, Rs.guard_of (decide_eq_true hb0), Rs.ok_bind, Rs.ok_bind, then_rt, Rs.ok_bind, endM_rt]
          exact ⟨_, _, rfl, (fm c).1, (fm c).2, by show 0 ≤ i + 1; omega⟩
        · obtain ⟨r, hr⟩ := e_mixed c (i + 1)
          rw [decide_eq_false h, if_neg (by simp), Rs.ok_bind, then_nx]
          dsimp only
          rw [hr, Rs.ok_bind, Rs.guard_of (decide_eq_true hb0), Rs.ok_bind, Rs.ok_bind, endM_rt]
          exact ⟨_, _, rfl, (fm r).1, (fm r).2, by show 0 ≤ i + 1; omega⟩
      by_cases h : cell < 0
      · rw [decide_eq_true h, if_pos rfl, Rs.ok_bind, then_nx]
        dsimp only
        exact fin (1 - cell)
      · rw [decide_eq_false h, if_neg (by simp), Rs.ok_bind, then_nx]
        dsimp only
        exact fin cell
theorem filter_row {r : List Int} {n : Int} (h1 : r.Pairwise (· < ·)) (h2 : ∀ y ∈ r, 0 ≤ y ∧ y < n) : (rangeL 0 n).filter (fun y => decide (y ∈ r)) = r := by
  refine lt_uniq ((rangeL_nodup 0 n).filter _) h1 fun y => ?_
  rw [List.mem_filter, decide_eq_true_eq]
  constructor
  · exact fun h => h.2
  · intro h
    refine ⟨?_, h⟩
    obtain ⟨a, b⟩ := h2 y h
    unfold rangeL
    exact List.mem_map.mpr ⟨y.toNat, List.mem_range.mpr (by omega), by omega⟩
/-- the web that the rows make -/
def WebOk (w : List (List Int)) (n : Int) : Prop := ∀ r ∈ w, r.Pairwise (· < ·) ∧ ∀ y ∈ r, 0 ≤ y ∧ y < n
theorem greedy_good (ks : List Int) (rs : List (Option Int)) (h0 : 0 ≤ (ks.length : Int)) (hr : ∀ r ∈ rs, ∀ h, r = some h → 0 ≤ h) : WebOk (greedy ks rs) rs.length ∧ ∀ y : Int, 0 ≤ y → y < rs.length → ∀ h, rs.getD y.toNat none = some h → (inRows (greedy ks rs) y : Int) ≤ h := by
  have hcl : (caps rs ks.length).length = rs.length := by unfold caps; rw [List.length_map]
  have hcv : ∀ y : Int, 0 ≤ y → y < rs.length → rv (caps rs ks.length) y = capF ks.length (rs.getD y.toNat none) := fun y y0 y1 => by
    unfold rv caps
    rw [List.getD_eq_getElem?_getD, List.getElem?_map, List.getD_eq_getElem?_getD, List.getElem?_eq_getElem (show y.toNat < rs.length by omega)]
    rfl
  have hpos : ∀ y : Int, 0 ≤ y → y < (caps rs ks.length).length → 0 ≤ rv (caps rs ks.length) y := fun y y0 y1 => by
    rw [hcl] at y1
    rw [hcv y y0 y1]
    cases hx : rs.getD y.toNat none with
    | none => exact h0
    | some h =>
      have hm : some h ∈ rs := by
        rw [← hx, List.getD_eq_getElem?_getD, List.getElem?_eq_getElem (show y.toNat < rs.length by omega)]
        exact List.getElem_mem _
      have := hr _ hm h rfl
      show 0 ≤ min h ks.length
      omega
  have g := G.all ks _ _ (G.zero hpos)
  have hg : (ks.foldl gstep (caps rs ks.length, [])).2 = greedy ks rs := rfl
  refine ⟨fun r hm => ?_, fun y y0 y1 h hx => ?_⟩
  · have := g.rows r (by rw [hg]; exact hm)
    rw [hcl] at this
    exact this
  · have e1 := g.cnt y y0 (by rw [hcl]; exact y1)
    have e2 := g.pos y y0 (by rw [hcl]; exact y1)
    rw [hg] at e1
    have e3 := hcv y y0 y1
    rw [hx] at e3
    have e4 : capF ks.length (some h) = min h ks.length := rfl
    omega
/-- a half of noughts -/
theorem half_zero (n : Nat) (rs : List (Option Int)) : half (List.replicate n 0) rs = some (List.replicate n []) := by
  have hg : ∀ (n : Nat) (c : List Int × List (List Int)), (List.replicate n (0 : Int)).foldl gstep c = (c.1, c.2 ++ List.replicate n []) := fun n => by
    induction n with
    | zero => intro c; simp
    | succ n ih =>
      intro c
      rw [List.replicate_succ, List.foldl_cons, ih]
      simp [gstep, row_zero, dec_nil, List.replicate_succ]
  have hgr : greedy (List.replicate n 0) rs = List.replicate n [] := by
    unfold greedy
    rw [hg]
    simp
  unfold half
  rw [hgr, find_none fun u u0 u1 => ?_]
  unfold lacks
  rw [decide_eq_false]
  simp only [List.getD_eq_getElem?_getD, List.getElem?_replicate]
  split <;> simp
theorem cols_at {w : List (List Int)} {n : Nat} {i : Nat} (h : i < n) : (cols w n)[i]? = some (inRows w (i : Int) : Int) := by
  unfold cols rangeL
  rw [List.getElem?_map, List.getElem?_map, List.getElem?_range (by omega)]
  simp
theorem inRows_nil (k : Nat) (y : Int) : inRows (List.replicate k []) y = 0 := by
  unfold inRows
  rw [List.countP_replicate]
  simp
theorem e_restT (rs : List Sort3) (t : Int) (h0 : 0 ≤ t) (hf : ∀ s ∈ rs, Few s) : m_rest_of_roomsT (rs, t) = .ok (rest rs t) := by
  unfold m_rest_of_roomsT w_rest_of_roomsT
  simp only [Rs.bind_assoc, Rs.ok_bind, then_nx, e_wsort]
  refine for_goal (fun s b => (s.1, s.2.1, (step (s.2.2.1, s.2.2.2.1) b).1, (step (s.2.2.1, s.2.2.2.1) b).2, (), (), (), (), ())) (fun s => 0 ≤ s.2.2.2.1) h0 (fun x hx s hs => ?_) fun _ => ?_
  · have fx := hf x ((List.mergeSort_perm rs wle).mem_iff.mp hx)
    obtain ⟨a, b, c⟩ := x
    obtain ⟨s1, s2, s3, s4, _⟩ := s
    cases a with
    | none => simp [Rs.bind_assoc, Rs.ok_bind, then_nx, ofOpt_some, e_times, e_plus, step]
    | some k =>
      obtain ⟨k0, k1⟩ := fx k rfl
      have hs : 0 ≤ s4 := hs
      have hc : ∀ y, L2.CMul (k - min k s4) y := fun y => .inl ⟨by omega, by omega⟩
      have e := e_times (some (k - min k s4)) c (fun x y hx hy => by cases hx; exact hc y)
      refine ⟨by simp [Rs.bind_assoc, Rs.ok_bind, then_nx, ofOpt_some, e, e_plus, step], ?_⟩
      show 0 ≤ s4 - min k s4
      omega
  · have key : ∀ (xs : List Sort3) (c : Option Int × Int), (xs.foldl (fun (s : List Sort3 × Int × Option Int × Int × Unit × Unit × Unit × Unit × Unit) b => (s.1, s.2.1, (step (s.2.2.1, s.2.2.2.1) b).1, (step (s.2.2.1, s.2.2.2.1) b).2, (), (), (), (), ())) (rs, t, c.1, c.2, (), (), (), (), ())) = (rs, t, (xs.foldl step c).1, (xs.foldl step c).2, (), (), (), (), ()) := fun xs => by
      induction xs with
      | nil => intro c; rfl
      | cons x r ih => intro c; exact ih (step c x)
    have k0 := key (wsort rs) (some 0, t)
    simp only [Rs.bind_assoc, Rs.ok_bind, then_nx, then_rt, endM_rt, k0]
    rfl
theorem e_sumsT (ns rs : List Sort3) (t : Int) (h0 : 0 ≤ t) (hn : ∀ s ∈ ns, Few s) (hf : ∀ s ∈ rs, Few s) : m_sumsT (ns, rs, t) = .ok (asked ns t, rest rs t) := by
  unfold m_sumsT w_sumsT
  simp only [Rs.bind_assoc, Rs.ok_bind, then_nx, e_wsort]
  refine for_goal (fun s b => (s.1, s.2.1, s.2.2.1, plus s.2.2.2.1 (times b.1 (some (max (b.2.1 - s.2.2.1) 0))), (), (), (), ())) (fun s => True) trivial (fun x hx s hs => ?_) fun _ => ?_
  · obtain ⟨a, b, c⟩ := x
    have fx := hn _ hx
    refine ⟨?_, trivial⟩
    have e := e_times a (some (max (b - s.2.2.1) 0)) (fun x y hx hy => by
      have := fx x hx
      exact .inl ⟨by omega, by omega⟩)
    simp [Rs.bind_assoc, Rs.ok_bind, then_nx, ofOpt_some, e, e_plus]
  · have key : ∀ (xs : List Sort3) (c : Option Int), (xs.foldl (fun (s : List Sort3 × List Sort3 × Int × Option Int × Unit × Unit × Unit × Unit) b => (s.1, s.2.1, s.2.2.1, plus s.2.2.2.1 (times b.1 (some (max (b.2.1 - s.2.2.1) 0))), (), (), (), ())) (ns, rs, t, c, (), (), (), ())) = (ns, rs, t, xs.foldl (fun a s => plus a (times s.1 (some (max (s.2.1 - t) 0)))) c, (), (), (), ()) := fun xs => by
      induction xs with
      | nil => intro c; rfl
      | cons x r ih => intro c; exact ih _
    have k0 := key ns (some 0)
    simp only [Rs.bind_assoc, Rs.ok_bind, then_nx, then_rt, endM_rt, k0, e_restT rs t h0 hf]
    rfl
theorem e_shortT (ns rs : List Sort3) (hn : ∀ s ∈ ns, Few s) (hf : ∀ s ∈ rs, Few s) (hl : ns.length ≤ 1000) (ht : top ns ≤ 1000) : m_shortT (ns, rs) = .ok (short ns rs) := by
  unfold m_shortT w_shortT
  simp only [Rs.bind_assoc, Rs.ok_bind, then_nx]
  have e1 : lcM (fun b : Sort3 => nox (lcT (Rs.ok !decide (b.fst = some 0)) (Rs.ok b.snd.fst))) ns = .ok (ns.filterMap fun s => if s.1 = some 0 then none else some s.2.1) := by
    refine lcM_fmap _ ns fun x _ => ?_
    by_cases h : x.1 = some 0 <;> simp [h, lcT, nox, Rs.ok_bind]
  have hl2 : ns.length ≤ PySem.sizeLine := by rw [PySem.sizeLine_eq]; omega
  rw [e1, Rs.guard_of (decide_eq_true hl2), Rs.ok_bind]
  have hl3 : [(0 : Int)].length + (ns.filterMap fun s : Sort3 => if s.1 = some 0 then none else some s.2.1).length ≤ PySem.sizeLine := by
    have := List.length_filterMap_le (fun s : Sort3 => if s.1 = some 0 then none else some s.2.1) ns
    rw [PySem.sizeLine_eq]
    simp only [List.length_cons, List.length_nil]
    omega
  rw [Rs.guard_of (decide_eq_true hl3), Rs.ok_bind, show maxL ([0] ++ ns.filterMap fun s : Sort3 => if s.1 = some 0 then none else some s.2.1) = .ok (top ns) from rfl, Rs.ok_bind, Rs.guard_of (rgOk_of (by omega) (top_nonneg ns)), Rs.ok_bind]
  refine find_goal (fun s _ => (s.1, s.2.1, (), (), (), (), (), (), ())) (fun s => s.1 = ns ∧ s.2.1 = rs) (fun t => if fails ns rs t = true then some (some t) else none) ⟨rfl, rfl⟩ (fun t ht s hs => ?_) fun _ => ?_
  · obtain ⟨h1, h2⟩ := hs
    refine ⟨?_, h1, h2⟩
    rw [h1, h2, e_sumsT ns rs t (rangeL_mem ht).1 hn hf, Rs.ok_bind, e_kept, Rs.ok_bind]
    unfold fails
    cases hk : kept (asked ns t, rest rs t) <;> simp [Rs.ok_bind, then_nx, then_rt]
  · rw [findSome_if]
    unfold short
    cases h : (rangeL 0 (top ns)).find? (fails ns rs) <;> simp [Rs.ok_bind, then_nx, then_rt, endM_rt]
theorem e_greedyT (ks : List Int) (rs : List (Option Int)) (h1 : ks.length ≤ 1000) (h2 : rs.length ≤ 1000) (h3 : ∀ k ∈ ks, 0 ≤ k) : m_greedy_webT (ks, rs) = .ok (greedy ks rs) := by
  unfold m_greedy_webT w_greedy_webT
  simp only [Rs.bind_assoc, Rs.ok_bind, then_nx, e_capped]
  have e0 : lcM (fun b => nox (lcT (Rs.ok true) (Rs.ok (capF ks.length b)))) rs = .ok (caps rs ks.length) := lcM_map (capF ks.length) rs fun x _ => rfl
  have hz := small h2
  rw [e0, Rs.guard_of (decide_eq_true hz), Rs.ok_bind]
  have hcl : (caps rs ks.length).length = rs.length := by unfold caps; rw [List.length_map]
  refine for_goalR (fun s k => (s.1, s.2.1, dec s.2.2.1 (row s.2.2.1 k), s.2.2.2.1 ++ [row s.2.2.1 k], (), (), (), (), (), (), ())) (fun l s => s.2.2.1.length = rs.length ∧ s.2.2.2.1.length + l.length ≤ 1000 ∧ ∀ k ∈ l, 0 ≤ k) ⟨hcl, by simpa using h1, h3⟩ (fun k l s hs => ?_) fun _ => ?_
  · obtain ⟨g1, g2, g3⟩ := hs
    obtain ⟨s1, s2, s3, s4, _⟩ := s
    have g1 : s3.length = rs.length := g1
    have hk : 0 ≤ k := g3 k List.mem_cons_self
    refine ⟨?_, by show (dec s3 (row s3 k)).length = _; rw [dec_len, g1], by
      show (s4 ++ [row s3 k]).length + l.length ≤ 1000
      have : s4.length + (k :: l).length ≤ 1000 := g2
      simp only [List.length_append, List.length_cons, List.length_nil] at this ⊢
      omega, fun z hz => g3 z (List.mem_cons_of_mem _ hz)⟩
    have e1 : lcM (fun b => nox (lcT ((Rs.ofOpt (L2.atI s3 b)).bind fun x => Rs.ok (decide (0 < x))) ((Rs.ofOpt (L2.atI s3 b)).bind fun a => Rs.ok (-a, b)))) (rangeL 0 s3.length) = .ok (prs s3) := by
      refine lcM_fmap _ _ fun y hy => ?_
      rw [rv_at (rangeL_mem hy), ofOpt_some, Rs.ok_bind, Rs.ok_bind]
      by_cases h : 0 < rv s3 y <;> simp [lcT, nox, Rs.ok_bind, h]
    have e2 : sl (srtP (prs s3)) none (some k) = (srtP (prs s3)).take k.toNat := sl_take _ hk
    have hpl : (srtP (prs s3)).length ≤ 1000 := by
      rw [(srtP_perm _).length_eq]
      have := List.length_filterMap_le (fun y => if 0 < rv s3 y then some (-(rv s3 y), y) else none) (rangeL 0 s3.length)
      rw [rangeL_len] at this
      have : (prs s3).length ≤ ((s3.length : Int)).toNat := this
      omega
    have e3 : lcM (fun b : Int × Int => nox (lcT (Rs.ok true) (Rs.ok b.snd))) ((srtP (prs s3)).take k.toNat) = .ok ((order s3).take k.toNat) := by
      rw [lcM_map (fun b : Int × Int => b.2) _ fun x _ => by simp [lcT, nox, Rs.ok_bind], List.map_take]
      rfl
    have hrl : (rangeL 0 (s3.length : Int)).length ≤ 1000 := by rw [rangeL_len]; omega
    dsimp only
    rw [Rs.guard_of (rgOk_of (by omega) (by omega)), Rs.ok_bind, e1, Rs.guard_of (decide_eq_true (small hrl)), Rs.ok_bind, e2, e3, Rs.guard_of (decide_eq_true (small (by rw [List.length_take]; omega))), Rs.ok_bind]
    rw [show srt ((order s3).take k.toNat) = row s3 k from rfl]
    refine for_goal (fun s y => (s.1, s.2.1, s.2.2.1.set y.toNat (rv s.2.2.1 y - 1), s.2.2.2.1, s.2.2.2.2.1, s.2.2.2.2.2.1, s.2.2.2.2.2.2.1, (), (), (), ())) (fun s => s.2.2.1.length = rs.length) g1 (fun y hy s hs => ?_) fun _ => ?_
    · have hy2 := (row_pos hy).1
      have hs : s.2.2.1.length = rs.length := hs
      refine ⟨?_, by show (s.2.2.1.set _ _).length = _; rw [List.length_set]; exact hs⟩
      have b1 : 0 ≤ y ∧ y < s.2.2.1.length := ⟨hy2.1, by omega⟩
      rw [rv_at b1, ofOpt_some, Rs.ok_bind, ixN_in b1.1 b1.2, ofOpt_some, Rs.ok_bind]
    · have key : ∀ (xs : List Int) (c : List Int), (xs.foldl (fun (s : List Int × List (Option Int) × List Int × List (List Int) × Int × List (Int × Int) × List Int × Unit × Unit × Unit × Unit) y => (s.1, s.2.1, s.2.2.1.set y.toNat (rv s.2.2.1 y - 1), s.2.2.2.1, s.2.2.2.2.1, s.2.2.2.2.2.1, s.2.2.2.2.2.2.1, (), (), (), ())) (s1, s2, c, s4, k, srtP (prs s3), row s3 k, (), (), (), ())) = (s1, s2, dec c xs, s4, k, srtP (prs s3), row s3 k, (), (), (), ()) := fun xs => by
        induction xs with
        | nil => intro c; rfl
        | cons x r ih => intro c; exact ih _
      have k0 := key (row s3 k) s3
      have hg : s4.length + (k :: l).length ≤ 1000 := g2
      have hg2 : s4.length < PySem.sizeLine := by
        rw [PySem.sizeLine_eq]
        simp only [List.length_cons] at hg
        omega
      simp only [k0, Rs.bind_assoc, Rs.ok_bind, then_nx, Rs.guard_of (decide_eq_true hg2)]
  · have key : ∀ (xs : List Int) (c : List Int × List (List Int)), (xs.foldl (fun (s : List Int × List (Option Int) × List Int × List (List Int) × Unit × Unit × Unit × Unit × Unit × Unit × Unit) k => (s.1, s.2.1, dec s.2.2.1 (row s.2.2.1 k), s.2.2.2.1 ++ [row s.2.2.1 k], (), (), (), (), (), (), ())) (ks, rs, c.1, c.2, (), (), (), (), (), (), ())) = (ks, rs, (xs.foldl gstep c).1, (xs.foldl gstep c).2, (), (), (), (), (), (), ()) := fun xs => by
      induction xs with
      | nil => intro c; rfl
      | cons x r ih => intro c; exact ih (gstep c x)
    have k0 := key ks (caps rs ks.length, [])
    simp only [k0, Rs.bind_assoc, Rs.ok_bind, then_nx, then_rt, endM_rt]
    rfl
theorem e_halfT (ks : List Int) (rs : List (Option Int)) (h1 : ks.length ≤ 60) (h2 : rs.length ≤ 60) (h3 : ∀ k ∈ ks, 0 ≤ k) : m_halfT (ks, rs) = .ok (half ks rs) := by
  unfold m_halfT w_halfT
  simp only [Rs.bind_assoc, Rs.ok_bind, then_nx]
  rw [e_row_bound _ (by omega), Rs.ok_bind, e_row_bound _ (by omega), Rs.ok_bind, e_greedyT ks rs (by omega) (by omega) h3, Rs.ok_bind, Rs.guard_of (rgOk_of (by omega) (by omega)), Rs.ok_bind]
  refine find_goal (fun s _ => (s.1, s.2.1, s.2.2.1, (), ())) (fun s => s.1 = ks ∧ s.2.2.1 = greedy ks rs) (fun x => if lacks ks (greedy ks rs) x = true then some none else none) ⟨rfl, rfl⟩ (fun x hx s hs => ?_) fun hP => ?_
  · obtain ⟨g1, g2⟩ := hs
    have hx := rangeL_mem hx
    refine ⟨?_, g1, g2⟩
    rw [g1, g2, getD_at [] ⟨hx.1, by rw [greedy_len]; exact hx.2⟩, ofOpt_some, Rs.ok_bind, getD_at 0 hx, ofOpt_some, Rs.ok_bind]
    unfold lacks
    generalize ((((greedy ks rs).getD x.toNat []).length : Nat) : Int) = u
    generalize ks.getD x.toNat 0 = v
    by_cases h : u < v <;> simp [h, Rs.ok_bind, then_nx, then_rt]
  · rw [findSome_if (lacks ks (greedy ks rs)) (fun _ => (none : Option (List (List Int))))]
    unfold half
    cases h : (rangeL 0 ks.length).find? (lacks ks (greedy ks rs)) <;> simp [Rs.ok_bind, then_nx, then_rt, endM_rt, hP.2]
end T16
namespace T16
open TL SP
theorem foldl_none (f : Option Int → Sort3 → Option Int) (hf : ∀ s, f none s = none) : ∀ l : List Sort3, l.foldl f none = none
  | [] => rfl
  | x :: r => by rw [List.foldl_cons, hf]; exact foldl_none f hf r
theorem e_left (ns : List Sort3) (t : Int) (hn : ∀ s ∈ ns, Few s) : m__law_left (ns, t) = .ok (asked ns t) := by
  refine Okp.eq ?_
  unfold m__law_left w__law_left
  try simp only [Rs.bind_assoc, Rs.ok_bind, then_nx, then_rt, endM_rt, endM_nx, ofOpt_some, if_true, Bool.false_eq_true, if_false, Bool.not_true, Bool.not_false]
  have fn : ∀ s : Sort3, plus none (times s.1 (some (max (s.2.1 - t) 0))) = none := fun s => by cases times s.1 (some (max (s.2.1 - t) 0)) <;> rfl
  refine Okp.forE (fun l s => s.2.1 = t ∧ (∀ x ∈ l, Few x) ∧ l.foldl (fun a s => plus a (times s.1 (some (max (s.2.1 - t) 0)))) (some s.2.2.1) = asked ns t) (fun z => z = asked ns t) (fun _ => False) ⟨rfl, hn, rfl⟩ (fun x l s hP => ?_) (fun s hP => ?_) (fun z hz => ?_) (fun _ h => h.elim)
  · obtain ⟨p1, p2, p3⟩ := hP
    have hx := p2 x List.mem_cons_self
    obtain ⟨many, lo, hi⟩ := x
    rw [List.foldl_cons] at p3
    simp only at p3
    rw [p1]
    by_cases hlo : t < lo
    · rw [decide_eq_true hlo]
      simp only [rAnd]
      try simp only [Rs.bind_assoc, Rs.ok_bind, then_nx, then_rt, endM_rt, endM_nx, ofOpt_some, if_true, Bool.false_eq_true, if_false, Bool.not_true, Bool.not_false]
      cases many with
      | none =>
        simp only [Option.isNone_none]
        try simp only [Rs.bind_assoc, Rs.ok_bind, then_nx, then_rt, endM_rt, endM_nx, ofOpt_some, if_true, Bool.false_eq_true, if_false, Bool.not_true, Bool.not_false]
        refine Okp.ok (.inr (.inl ⟨_, rfl, ?_⟩))
        rw [← p3]
        have e : times none (some (max (lo - t) 0)) = none := by
          unfold times
          have : ¬ max (lo - t) 0 = 0 := by omega
          simp [this]
        rw [e, show plus (some s.2.2.1) none = none from rfl, foldl_none _ fn]
      | some k =>
        have ck : L2.CMul k (lo - t) := by have := hx k rfl; exact .inl ⟨by omega, by omega⟩
        simp only [Option.isNone_some]
        try simp only [Rs.bind_assoc, Rs.ok_bind, then_nx, then_rt, endM_rt, endM_nx, ofOpt_some, if_true, Bool.false_eq_true, if_false, Bool.not_true, Bool.not_false]
        rw [decide_eq_true hlo]
        try simp only [Rs.bind_assoc, Rs.ok_bind, then_nx, then_rt, endM_rt, endM_nx, ofOpt_some, if_true, Bool.false_eq_true, if_false, Bool.not_true, Bool.not_false]
        rw [Rs.guard_of (decide_eq_true ck)]
        try simp only [Rs.bind_assoc, Rs.ok_bind, then_nx, then_rt, endM_rt, endM_nx, ofOpt_some, if_true, Bool.false_eq_true, if_false, Bool.not_true, Bool.not_false]
        refine Okp.ok (.inl ⟨_, .inl rfl, rfl, fun y hy => p2 y (List.mem_cons_of_mem _ hy), ?_⟩)
        rw [← p3, times_some, plus_some, show max (lo - t) 0 = lo - t by omega]
    · rw [decide_eq_false hlo]
      simp only [rAnd]
      try simp only [Rs.bind_assoc, Rs.ok_bind, then_nx, then_rt, endM_rt, endM_nx, ofOpt_some, if_true, Bool.false_eq_true, if_false, Bool.not_true, Bool.not_false]
      rw [decide_eq_false hlo]
      try simp only [Rs.bind_assoc, Rs.ok_bind, then_nx, then_rt, endM_rt, endM_nx, ofOpt_some, if_true, Bool.false_eq_true, if_false, Bool.not_true, Bool.not_false]
      refine Okp.ok (.inl ⟨_, .inl rfl, rfl, fun y hy => p2 y (List.mem_cons_of_mem _ hy), ?_⟩)
      rw [← p3, show max (lo - t) 0 = 0 by omega]
      have e : times many (some 0) = some 0 := by unfold times; simp
      rw [e, plus_some, Int.add_zero]
  · try simp only [Rs.bind_assoc, Rs.ok_bind, then_nx, then_rt, endM_rt, endM_nx, ofOpt_some, if_true, Bool.false_eq_true, if_false, Bool.not_true, Bool.not_false]
    exact Okp.ok hP.2.2
  · try simp only [Rs.bind_assoc, Rs.ok_bind, then_nx, then_rt, endM_rt, endM_nx, ofOpt_some, if_true, Bool.false_eq_true, if_false, Bool.not_true, Bool.not_false]
    exact Okp.ok hz
theorem e_wider (a b : Option Int) : m__law_wider (a, b) = .ok (wider a b) := by
  unfold m__law_wider w__law_wider wider
  cases a <;> cases b <;> simp [Rs.bind_assoc, Rs.ok_bind, then_nx, then_rt, endM_rt, ofOpt_some, rAnd]
theorem pat_at {l : List Pr} {i : Int} (h0 : 0 ≤ i) (h1 : i < l.length) : L2.atI l i = some (pat l i) := getD_at _ ⟨h0, h1⟩
theorem e_right (rs : List Sort3) (t : Int) (ht : 0 ≤ t) (hl : rs.length ≤ 1000) (hf : ∀ s ∈ rs, Few s ∧ Room0 s) : m__law_right (rs, t) = .ok (rest rs t) := by
  refine Okp.eq ?_
  unfold m__law_right w__law_right
  try simp only [Rs.bind_assoc, Rs.ok_bind, then_nx, then_rt, endM_rt, endM_nx, ofOpt_some, if_true, Bool.false_eq_true, if_false, Bool.not_true, Bool.not_false]
  have e0 : lcM (fun b : Sort3 => nox (lcT (rAnd (Rs.ok !decide (b.fst = some 0)) (Rs.ok !decide (b.snd.snd = some 0))) (Rs.ok (b.fst, b.snd.snd)))) rs = .ok (live rs) := by
    rw [lcM_fmap (fun s : Sort3 => if decide (s.1 ≠ some 0) && decide (s.2.2 ≠ some 0) then some (s.1, s.2.2) else none) rs fun s _ => by
      by_cases h1 : s.1 = some 0 <;> by_cases h2 : s.2.2 = some 0 <;> simp [rAnd, lcT, nox, Rs.ok_bind, h1, h2]]
    congr 1
    unfold live
    clear hl hf
    induction rs with
    | nil => rfl
    | cons s rs ih =>
      rw [List.filterMap_cons, List.filter_cons]
      by_cases h1 : (decide (s.1 ≠ some 0) && decide (s.2.2 ≠ some 0)) = true
      · rw [if_pos h1, if_pos h1, List.map_cons, ih]
      · rw [if_neg h1, if_neg h1, ih]
  rw [e0, Rs.guard_of (decide_eq_true (small hl)), Rs.ok_bind]
  have hll : (live rs).length ≤ 1000 := by
    unfold live
    rw [List.length_map]
    exact Nat.le_trans (List.length_filter_le _ _) hl
  have hbnd : ∀ p ∈ live rs, ∀ k, p.1 = some k → k < 4294967296 := fun p hp k e => by
    obtain ⟨s, hs, rfl⟩ := List.mem_map.mp hp
    exact ((hf s (List.mem_filter.mp hs).1).1 k e).2
  obtain ⟨l0, hl0⟩ : ∃ l0, l0 = live rs := ⟨_, rfl⟩
  have hlok : Lok l0 := by rw [hl0]; exact live_lok hf
  have fin : ∀ r, RV l0 t r → r = rest rs t := fun r hr => rv_unique (fun p hp => by
    obtain ⟨s, hs, rfl⟩ := List.mem_map.mp hp
    have := hf s hs
    exact ⟨fun k e => (this.1 k e).1, this.2⟩) ht (by rw [hl0] at hr; exact rv_live hr) (rv_rest hf ht)
  rw [← hl0] at hll hbnd ⊢
  rw [Rs.guard_of (rgOk_of (by omega) (by omega)), Rs.ok_bind]
  refine Okp.forR (fun q s => s.2.2.1.length = l0.length ∧ Lok s.2.2.1 ∧ (∀ p ∈ s.2.2.1, ∀ k, p.1 = some k → k < 4294967296) ∧ 0 ≤ s.2.2.2.1 ∧ (s.2.2.2.1 = 0 ∨ cnt s.2.2.1 ≤ q.length) ∧ ∀ r, RV s.2.2.1 s.2.2.2.1 r → RV l0 t r)
    ⟨rfl, hlok, hbnd, ht, .inr (by rw [rangeL_len, Int.toNat_natCast]; exact List.countP_le_length), fun _ h => h⟩ (fun x q s hP => ?_) fun s hP => ?_
  · obtain ⟨p1, p2, p3, p4, p5, p6⟩ := hP
    obtain ⟨s0, s1, l, g, s4, s5, s6, s7, s8, s9, s10⟩ := s
    simp only at p1 p2 p3 p4 p5 p6
    rw [Rs.guard_of (rgOk_of (by dsimp only; omega) (by dsimp only; omega)), Rs.ok_bind]
    refine Okp.forS (fun d s => s.2.2.1 = l ∧ s.2.2.2.1 = g ∧ Best l d s.2.2.2.2.2.1) ⟨rfl, rfl, fun i hi => by simp at hi⟩ (fun d i r s e hB => ?_) fun s hB => ?_
    · obtain ⟨b1, b2, b3⟩ := hB
      have hi : i ∈ rangeL 0 (l.length : Int) := by rw [← e]; simp
      obtain ⟨i0, i1⟩ := rangeL_mem hi
      have hd : ∀ j ∈ d, 0 ≤ j ∧ j < l.length := fun j hj => rangeL_mem (by rw [← e]; exact List.mem_append_left _ hj)
      rw [b1, pat_at i0 i1]
      simp only [ofOpt_some, Rs.ok_bind]
      by_cases hz : (pat l i).1 = some 0
      · simp only [rAnd, Rs.ok_bind, hz, decide_true, Bool.not_true, Bool.false_eq_true, if_false]
        try simp only [Rs.bind_assoc, Rs.ok_bind, then_nx, then_rt, endM_rt, endM_nx, ofOpt_some, if_true, Bool.false_eq_true, if_false, Bool.not_true, Bool.not_false]
        refine Okp.ok ⟨_, .inl rfl, rfl, b2, ?_⟩
        show Best l (d ++ [i]) s.2.2.2.2.2.1
        cases hb : s.2.2.2.2.2.1 with
        | none =>
          rw [hb] at b3
          intro j hj
          rcases List.mem_append.mp hj with z | z
          · exact b3 j z
          · rw [List.mem_singleton.mp z]; exact hz
        | some b =>
          rw [hb] at b3
          obtain ⟨c1, c2, c3⟩ := b3
          refine ⟨List.mem_append_left _ c1, c2, fun j hj hj2 => ?_⟩
          rcases List.mem_append.mp hj with z | z
          · exact c3 j z hj2
          · rw [List.mem_singleton.mp z] at hj2; exact absurd hz hj2
      · simp only [rAnd, Rs.ok_bind, hz, decide_false, Bool.not_false, if_true]
        cases hb : s.2.2.2.2.2.1 with
        | none =>
          rw [hb] at b3
          simp only [rOr, Option.isNone_none, Rs.ok_bind, if_true]
          try simp only [Rs.bind_assoc, Rs.ok_bind, then_nx, then_rt, endM_rt, endM_nx, ofOpt_some, if_true, Bool.false_eq_true, if_false, Bool.not_true, Bool.not_false]
          refine Okp.ok ⟨_, .inl rfl, rfl, b2, ?_⟩
          show Best l (d ++ [i]) (some i)
          refine ⟨by simp, hz, fun j hj hj2 => ?_⟩
          rcases List.mem_append.mp hj with z | z
          · exact absurd (b3 j z) hj2
          · rw [List.mem_singleton.mp z]; exact wider_self _
        | some b =>
          rw [hb] at b3
          obtain ⟨c1, c2, c3⟩ := b3
          have hb1 := hd b c1
          simp only [rOr, Option.isNone_some, Rs.ok_bind, Bool.false_eq_true, if_false, ofOpt_some]
          rw [pat_at hb1.1 hb1.2]
          simp only [ofOpt_some, Rs.ok_bind, e_wider]
          by_cases hw : wider (pat l i).2 (pat l b).2 = true
          · rw [hw]
            try simp only [Rs.bind_assoc, Rs.ok_bind, then_nx, then_rt, endM_rt, endM_nx, ofOpt_some, if_true, Bool.false_eq_true, if_false, Bool.not_true, Bool.not_false]
            refine Okp.ok ⟨_, .inl rfl, rfl, b2, ?_⟩
            show Best l (d ++ [i]) (some i)
            refine ⟨by simp, hz, fun j hj hj2 => ?_⟩
            rcases List.mem_append.mp hj with z | z
            · exact wider_trans hw (c3 j z hj2)
            · rw [List.mem_singleton.mp z]; exact wider_self _
          · have hw' : wider (pat l i).2 (pat l b).2 = false := by simpa using hw
            rw [hw']
            try simp only [Rs.bind_assoc, Rs.ok_bind, then_nx, then_rt, endM_rt, endM_nx, ofOpt_some, if_true, Bool.false_eq_true, if_false, Bool.not_true, Bool.not_false]
            refine Okp.ok ⟨_, .inl rfl, rfl, b2, ?_⟩
            show Best l (d ++ [i]) (some b)
            refine ⟨List.mem_append_left _ c1, c2, fun j hj hj2 => ?_⟩
            rcases List.mem_append.mp hj with z | z
            · exact c3 j z hj2
            · rw [List.mem_singleton.mp z]; exact hw'
    · obtain ⟨b1, b2, b3⟩ := hB
      obtain ⟨u0, u1, u2, u3, u4, u5, u6, u7, u8, u9, u10⟩ := s
      simp only at b1 b2 b3
      subst b1 b2
      try simp only [Rs.bind_assoc, Rs.ok_bind, then_nx, then_rt, endM_rt, endM_nx, ofOpt_some, if_true, Bool.false_eq_true, if_false, Bool.not_true, Bool.not_false]
      simp only [List.length_cons] at p5
      cases hb : u5 with
      | none =>
        rw [hb] at b3
        have hz : cnt u2 = 0 := by
          unfold cnt
          rw [List.countP_eq_zero]
          intro p hp
          obtain ⟨i, i0, i1, rfl⟩ := mem_pat hp
          have := b3 i (by
            unfold rangeL
            exact List.mem_map.mpr ⟨i.toNat, List.mem_range.mpr (by omega), by omega⟩)
          simp [this]
        simp only [rAnd, Option.isSome_none, Rs.ok_bind, Bool.false_eq_true, if_false]
        try simp only [Rs.bind_assoc, Rs.ok_bind, then_nx, then_rt, endM_rt, endM_nx, ofOpt_some, if_true, Bool.false_eq_true, if_false, Bool.not_true, Bool.not_false]
        simp only [rAnd, Option.isSome_none, Rs.ok_bind, Bool.false_eq_true, if_false]
        try simp only [Rs.bind_assoc, Rs.ok_bind, then_nx, then_rt, endM_rt, endM_nx, ofOpt_some, if_true, Bool.false_eq_true, if_false, Bool.not_true, Bool.not_false]
        exact Okp.ok ⟨_, .inl rfl, p1, p2, p3, p4, .inr (by dsimp only; omega), p6⟩
      | some b =>
        rw [hb] at b3
        obtain ⟨c1, c2, c3⟩ := b3
        obtain ⟨c0, c4⟩ := rangeL_mem c1
        have hw : ∀ i : Int, 0 ≤ i → i < u2.length → (pat u2 i).1 ≠ some 0 → wider (pat u2 i).2 (pat u2 b).2 = false := fun i i0 i1 hi => c3 i (by
            unfold rangeL
            exact List.mem_map.mpr ⟨i.toNat, List.mem_range.mpr (by omega), by omega⟩) hi
        have hpm := pat_mem c0 c4
        simp only [rAnd, Option.isSome_some, Rs.ok_bind, if_true, ofOpt_some]
        by_cases hg : 0 < u3
        · simp only [hg, decide_true, if_true, pat_at c0 c4, ofOpt_some, Rs.ok_bind]
          cases hk : (pat u2 b).1 with
          | some k =>
            simp only [Option.isSome_some, if_true, ofOpt_some, Rs.ok_bind, ixN_in c0 c4]
            try simp only [Rs.bind_assoc, Rs.ok_bind, then_nx, then_rt, endM_rt, endM_nx, ofOpt_some, if_true, Bool.false_eq_true, if_false, Bool.not_true, Bool.not_false]
            have kb : 0 ≤ k := (p2.ok _ hpm).1 k hk
            have hk0 : k ≠ 0 := fun z => c2 (by rw [hk, z])
            have hpb : pat u2 b = (some k, (pat u2 b).2) := by
              rw [← hk]
            obtain ⟨l', hl'⟩ : ∃ l', l' = u2.set b.toNat (some (k - min u3 k), (pat u2 b).2) := ⟨_, rfl⟩
            have len' : l'.length = u2.length := by rw [hl', List.length_set]
            have hat : pat l' b = (some (k - min u3 k), (pat u2 b).2) := by
              rw [hl']
              unfold pat
              rw [List.getD_eq_getElem?_getD, List.getElem?_set_self (by omega)]
              rfl
            have lok' : Lok l' := by
              rw [hl']
              exact lok_set p2 (by omega) ⟨_, hpm⟩
            have bnd' : ∀ p ∈ l', ∀ k, p.1 = some k → k < 4294967296 := fun p hp q e => by
              rw [hl'] at hp
              rcases List.mem_or_eq_of_mem_set hp with z | z
              · exact p3 p z q e
              · rw [z] at e
                cases e
                have := p3 _ hpm k hk
                omega
            have rv' : ∀ r, RV l' (u3 - min u3 k) r → RV l0 t r := fun r hr => p6 r (take_step p2 hg c0 c4 hpb hk0 hw (by rw [← hl']; exact hr))
            have cn : u3 - min u3 k = 0 ∨ cnt l' ≤ q.length := by
              have hbn : (u2.getD b.toNat (none, none)).1 ≠ some 0 := c2
              have h1 := cnt_set (q := (some (k - min u3 k), (pat u2 b).2)) (show b.toNat < u2.length by omega) hbn
              rw [← hl'] at h1
              rcases p5 with z | z
              · omega
              · by_cases hku : k ≤ u3
                · refine .inr ?_
                  have : k - min u3 k = 0 := by omega
                  rw [this] at h1
                  simp at h1
                  omega
                · exact .inl (by omega)
            rw [← hl']
            simp only [rAnd, Option.isSome_some, Rs.ok_bind, if_true, ofOpt_some]
            by_cases hg2 : 0 < u3 - min u3 k
            · simp only [hg2, decide_true, if_true, pat_at c0 (by rw [len']; exact c4 : b < l'.length), hat, ofOpt_some, Rs.ok_bind, Option.isNone_some, Bool.false_eq_true, if_false]
              try simp only [Rs.bind_assoc, Rs.ok_bind, then_nx, then_rt, endM_rt, endM_nx, ofOpt_some, if_true, Bool.false_eq_true, if_false, Bool.not_true, Bool.not_false]
              exact Okp.ok ⟨_, .inl rfl, by dsimp only; omega, lok', bnd', by dsimp only; omega, cn, rv'⟩
            · simp only [hg2, decide_false, Bool.false_eq_true, if_false]
              try simp only [Rs.bind_assoc, Rs.ok_bind, then_nx, then_rt, endM_rt, endM_nx, ofOpt_some, if_true, Bool.false_eq_true, if_false, Bool.not_true, Bool.not_false]
              exact Okp.ok ⟨_, .inl rfl, by dsimp only; omega, lok', bnd', by dsimp only; omega, cn, rv'⟩
          | none =>
            simp only [Option.isSome_none, Bool.false_eq_true, if_false]
            try simp only [Rs.bind_assoc, Rs.ok_bind, then_nx, then_rt, endM_rt, endM_nx, ofOpt_some, if_true, Bool.false_eq_true, if_false, Bool.not_true, Bool.not_false]
            simp only [rAnd, Option.isSome_some, Rs.ok_bind, if_true, ofOpt_some, hg, decide_true, pat_at c0 c4, hk, Option.isNone_none]
            try simp only [Rs.bind_assoc, Rs.ok_bind, then_nx, then_rt, endM_rt, endM_nx, ofOpt_some, if_true, Bool.false_eq_true, if_false, Bool.not_true, Bool.not_false]
            refine Okp.ok ⟨_, .inl rfl, p1, p2, p3, Int.le_refl 0, .inl rfl, fun r hr => p6 r ?_⟩
            have hen : endl u2 := ⟨_, hpm, hk, p2.nz _ hpm⟩
            have hr : RV u2 0 r := hr
            cases r with
            | none => exact .inl hen
            | some v => exact absurd hen hr.1
        · simp only [hg, decide_false, Bool.false_eq_true, if_false]
          try simp only [Rs.bind_assoc, Rs.ok_bind, then_nx, then_rt, endM_rt, endM_nx, ofOpt_some, if_true, Bool.false_eq_true, if_false, Bool.not_true, Bool.not_false]
          simp only [rAnd, Option.isSome_some, Rs.ok_bind, if_true, ofOpt_some, hg, decide_false, Bool.false_eq_true, if_false]
          try simp only [Rs.bind_assoc, Rs.ok_bind, then_nx, then_rt, endM_rt, endM_nx, ofOpt_some, if_true, Bool.false_eq_true, if_false, Bool.not_true, Bool.not_false]
          exact Okp.ok ⟨_, .inl rfl, p1, p2, p3, p4, .inl (by dsimp only; omega), p6⟩
  · obtain ⟨p1, p2, p3, p4, p5, p6⟩ := hP
    simp only [List.length_nil, Nat.le_zero] at p5
    have hend := rv_end p2 p4 p5
    have hres := fin _ (p6 _ hend)
    try simp only [Rs.bind_assoc, Rs.ok_bind, then_nx, then_rt, endM_rt, endM_nx, ofOpt_some, if_true, Bool.false_eq_true, if_false, Bool.not_true, Bool.not_false]
    refine Okp.forE (fun q s' => (∀ p ∈ q, p ∈ s.2.2.1) ∧ (if s.2.2.1.any lost = true then none else some ((s.2.2.1.map worth).sum)) = (if q.any lost = true then none else some (s'.2.2.2.2.2.2.2.2.1 + (q.map worth).sum))) (fun z => z = rest rs t) (fun _ => False) ⟨fun _ h => h, by dsimp only; rw [Int.zero_add]⟩ (fun p q s' hP => ?_) (fun s' hP => ?_) (fun z hz => ?_) (fun _ h => h.elim)
    · obtain ⟨q1, q2⟩ := hP
      have hpm := q1 p List.mem_cons_self
      have hok := p2.ok p hpm
      have hbd := p3 p hpm
      obtain ⟨many, hi⟩ := p
      rw [List.any_cons] at q2
      cases many with
      | none =>
        simp only [rOr, Option.isNone_none, Rs.ok_bind, if_true]
        try simp only [Rs.bind_assoc, Rs.ok_bind, then_nx, then_rt, endM_rt, endM_nx, ofOpt_some, if_true, Bool.false_eq_true, if_false, Bool.not_true, Bool.not_false]
        refine Okp.ok (.inr (.inl ⟨_, rfl, ?_⟩))
        rw [← hres, q2]
        simp [lost]
      | some k =>
        have k0 := hok.1 k rfl
        have k1 := hbd k rfl
        cases hi with
        | none =>
          by_cases hk : 0 < k
          · simp only [rOr, rAnd, Option.isNone_some, Option.isNone_none, Rs.ok_bind, if_true, ofOpt_some, Bool.false_eq_true, if_false, hk, decide_true]
            try simp only [Rs.bind_assoc, Rs.ok_bind, then_nx, then_rt, endM_rt, endM_nx, ofOpt_some, if_true, Bool.false_eq_true, if_false, Bool.not_true, Bool.not_false]
            refine Okp.ok (.inr (.inl ⟨_, rfl, ?_⟩))
            rw [← hres, q2]
            simp [lost, hk]
          · have cz : L2.CMul k 0 := .inl ⟨by omega, by omega⟩
            simp only [rOr, rAnd, Option.isNone_some, Rs.ok_bind, if_true, ofOpt_some, Bool.false_eq_true, if_false, hk, decide_false]
            try simp only [Rs.bind_assoc, Rs.ok_bind, then_nx, then_rt, endM_rt, endM_nx, ofOpt_some, if_true, Bool.false_eq_true, if_false, Bool.not_true, Bool.not_false]
            rw [Rs.guard_of (decide_eq_true cz)]
            try simp only [Rs.bind_assoc, Rs.ok_bind, then_nx, then_rt, endM_rt, endM_nx, ofOpt_some, if_true, Bool.false_eq_true, if_false, Bool.not_true, Bool.not_false]
            refine Okp.ok (.inl ⟨_, .inl rfl, fun p hp => q1 p (List.mem_cons_of_mem _ hp), ?_⟩)
            have hk0 : k = 0 := by omega
            rw [q2, hk0]
            have e0 : lost ((some 0, none) : Pr) = false := rfl
            have e1 : worth ((some 0, none) : Pr) = 0 := rfl
            simp only [e0, e1, Bool.false_or, List.map_cons, List.sum_cons, Int.zero_add, Int.add_zero, Int.mul_zero]
        | some x =>
          have cx : L2.CMul k x := .inl ⟨by omega, by omega⟩
          have e : (match (some x : Option Int) with
              | some i => if i = 0 then Rs.ok (0 : Int) else Rs.ok i
              | none => Rs.ok 0) = Rs.ok x := by
            by_cases hx : x = 0
            · simp [hx]
            · simp [hx]
          by_cases hk : 0 < k
          · simp only [rOr, rAnd, Option.isNone_some, Rs.ok_bind, if_true, ofOpt_some, Bool.false_eq_true, if_false, hk, decide_true]
            try simp only [Rs.bind_assoc, Rs.ok_bind, then_nx, then_rt, endM_rt, endM_nx, ofOpt_some, if_true, Bool.false_eq_true, if_false, Bool.not_true, Bool.not_false]
            simp only at e
            rw [e]
            try simp only [Rs.bind_assoc, Rs.ok_bind, then_nx, then_rt, endM_rt, endM_nx, ofOpt_some, if_true, Bool.false_eq_true, if_false, Bool.not_true, Bool.not_false]
            rw [Rs.guard_of (decide_eq_true cx)]
            try simp only [Rs.bind_assoc, Rs.ok_bind, then_nx, then_rt, endM_rt, endM_nx, ofOpt_some, if_true, Bool.false_eq_true, if_false, Bool.not_true, Bool.not_false]
            refine Okp.ok (.inl ⟨_, .inl rfl, fun p hp => q1 p (List.mem_cons_of_mem _ hp), ?_⟩)
            rw [q2]
            simp only [lost, worth, Bool.false_or, List.map_cons, List.sum_cons, Int.add_assoc]
          · simp only [rOr, rAnd, Option.isNone_some, Rs.ok_bind, if_true, ofOpt_some, Bool.false_eq_true, if_false, hk, decide_false]
            try simp only [Rs.bind_assoc, Rs.ok_bind, then_nx, then_rt, endM_rt, endM_nx, ofOpt_some, if_true, Bool.false_eq_true, if_false, Bool.not_true, Bool.not_false]
            simp only at e
            rw [e]
            try simp only [Rs.bind_assoc, Rs.ok_bind, then_nx, then_rt, endM_rt, endM_nx, ofOpt_some, if_true, Bool.false_eq_true, if_false, Bool.not_true, Bool.not_false]
            rw [Rs.guard_of (decide_eq_true cx)]
            try simp only [Rs.bind_assoc, Rs.ok_bind, then_nx, then_rt, endM_rt, endM_nx, ofOpt_some, if_true, Bool.false_eq_true, if_false, Bool.not_true, Bool.not_false]
            refine Okp.ok (.inl ⟨_, .inl rfl, fun p hp => q1 p (List.mem_cons_of_mem _ hp), ?_⟩)
            rw [q2]
            simp only [lost, worth, Bool.false_or, List.map_cons, List.sum_cons, Int.add_assoc]
    · obtain ⟨_, q2⟩ := hP
      try simp only [Rs.bind_assoc, Rs.ok_bind, then_nx, then_rt, endM_rt, endM_nx, ofOpt_some, if_true, Bool.false_eq_true, if_false, Bool.not_true, Bool.not_false]
      refine Okp.ok ?_
      rw [← hres, q2]
      simp
    · try simp only [Rs.bind_assoc, Rs.ok_bind, then_nx, then_rt, endM_rt, endM_nx, ofOpt_some, if_true, Bool.false_eq_true, if_false, Bool.not_true, Bool.not_false]
      exact Okp.ok hz
end T16
namespace T16
open TL SP
def Srt (l : List Sort3) : Prop := ∀ s ∈ l, Few s ∧ Room0 s
theorem e_lkept (ns rs : List Sort3) (t : Int) (ht : 0 ≤ t) (hn : ∀ s ∈ ns, Few s) (hl : rs.length ≤ 1000) (hr : Srt rs) : m__law_kept (ns, rs, t) = .ok (kept (asked ns t, rest rs t)) := by
  unfold m__law_kept w__law_kept
  try simp only [Rs.bind_assoc, Rs.ok_bind, then_nx, then_rt, endM_rt, endM_nx, ofOpt_some, if_true, Bool.false_eq_true, if_false, Bool.not_true, Bool.not_false]
  rw [e_right rs t ht hl hr, Rs.ok_bind, e_left ns t hn]
  unfold kept
  cases asked ns t <;> cases rest rs t <;> simp [rOr, rAnd, Rs.ok_bind, then_rt, endM_rt, ofOpt_some]
theorem e_lshort (ns rs : List Sort3) (hn : ∀ s ∈ ns, Few s) (hl : rs.length ≤ 1000) (hr : Srt rs) (hl2 : ns.length ≤ 1000) (htop : top ns ≤ 1000) : m__law_short (ns, rs) = .ok (short ns rs) := by
  refine Okp.eq ?_
  unfold m__law_short w__law_short
  try simp only [Rs.bind_assoc, Rs.ok_bind, then_nx, then_rt, endM_rt, endM_nx, ofOpt_some, if_true, Bool.false_eq_true, if_false, Bool.not_true, Bool.not_false]
  have e1 : lcM (fun b : Sort3 => nox (lcT (Rs.ok !decide (b.fst = some 0)) (Rs.ok b.snd.fst))) ns = .ok (ns.filterMap fun s => if s.1 = some 0 then none else some s.2.1) := by
    refine lcM_fmap _ ns fun x _ => ?_
    by_cases h : x.1 = some 0 <;> simp [h, lcT, nox, Rs.ok_bind]
  have hl3 : [(0 : Int)].length + (ns.filterMap fun s : Sort3 => if s.1 = some 0 then none else some s.2.1).length ≤ PySem.sizeLine := by
    have := List.length_filterMap_le (fun s : Sort3 => if s.1 = some 0 then none else some s.2.1) ns
    rw [PySem.sizeLine_eq]
    simp only [List.length_cons, List.length_nil]
    omega
  rw [e1, Rs.guard_of (decide_eq_true (small hl2)), Rs.ok_bind, Rs.guard_of (decide_eq_true hl3), Rs.ok_bind, show maxL ([0] ++ ns.filterMap fun s : Sort3 => if s.1 = some 0 then none else some s.2.1) = .ok (top ns) from rfl, Rs.ok_bind, Rs.guard_of (rgOk_of (by omega) (top_nonneg ns)), Rs.ok_bind]
  refine Okp.forE (fun l s => s.1 = ns ∧ s.2.1 = rs ∧ (∀ t ∈ l, 0 ≤ t) ∧ short ns rs = l.find? (fails ns rs)) (fun z => z = short ns rs) (fun _ => False) ⟨rfl, rfl, fun t h => (rangeL_mem h).1, rfl⟩ (fun t l s hP => ?_) (fun s hP => ?_) (fun z hz => ?_) (fun _ h => h.elim)
  · obtain ⟨p1, p2, p3, p4⟩ := hP
    rw [List.find?_cons] at p4
    rw [p1, p2, e_lkept ns rs t (p3 t List.mem_cons_self) hn hl hr, Rs.ok_bind]
    unfold fails at p4
    cases hk : kept (asked ns t, rest rs t) with
    | true =>
      rw [hk] at p4
      try simp only [Rs.bind_assoc, Rs.ok_bind, then_nx, then_rt, endM_rt, endM_nx, ofOpt_some, if_true, Bool.false_eq_true, if_false, Bool.not_true, Bool.not_false]
      exact Okp.ok (.inl ⟨_, .inl rfl, rfl, rfl, fun y hy => p3 y (List.mem_cons_of_mem _ hy), p4⟩)
    | false =>
      rw [hk] at p4
      try simp only [Rs.bind_assoc, Rs.ok_bind, then_nx, then_rt, endM_rt, endM_nx, ofOpt_some, if_true, Bool.false_eq_true, if_false, Bool.not_true, Bool.not_false]
      exact Okp.ok (.inr (.inl ⟨_, rfl, p4.symm⟩))
  · try simp only [Rs.bind_assoc, Rs.ok_bind, then_nx, then_rt, endM_rt, endM_nx, ofOpt_some, if_true, Bool.false_eq_true, if_false, Bool.not_true, Bool.not_false]
    exact Okp.ok hP.2.2.2.symm
  · try simp only [Rs.bind_assoc, Rs.ok_bind, then_nx, then_rt, endM_rt, endM_nx, ofOpt_some, if_true, Bool.false_eq_true, if_false, Bool.not_true, Bool.not_false]
    exact Okp.ok hz
theorem in_count (w : List (List Int)) (y : Int) : (w.filterMap fun r => if y ∈ r then some r else none).length = inRows w y := by
  unfold inRows
  rw [List.countP_eq_length_filter]
  induction w with
  | nil => rfl
  | cons a r ih => by_cases h : y ∈ a <;> simp [h, ih]
theorem e_columnsT (w : List (List Int)) (n : Int) (hw : w.length ≤ 1000) (h0 : 0 ≤ n) (hn : n ≤ 1000) : m__law_columnsT (w, n) = .ok (cols w n) := by
  unfold m__law_columnsT w__law_columnsT
  try simp only [Rs.bind_assoc, Rs.ok_bind, then_nx, then_rt, endM_rt, endM_nx, ofOpt_some, if_true, Bool.false_eq_true, if_false, Bool.not_true, Bool.not_false]
  have hl : (rangeL 0 n).length ≤ 1000 := by rw [rangeL_len]; omega
  rw [Rs.guard_of (rgOk_of (by omega) h0), Rs.ok_bind, Rs.guard_of (decide_eq_true (small hl))]
  rw [lcM_map (fun y => (inRows w y : Int)) _ fun y _ => ?_]
  · rfl
  · rw [Rs.guard_of (decide_eq_true (small hw)), lcM_fmap (fun r => if y ∈ r then some r else none) w fun r _ => by by_cases h : y ∈ r <;> simp [lcT, nox, Rs.ok_bind, h]]
    simp [lcT, nox, Rs.ok_bind, in_count w y]
theorem e_columns (w : List (List Int)) (n : Int) (hw : w.length ≤ 1000) (h0 : 0 ≤ n) (hn : n ≤ 1000) : m__law_columns (w, n) = .ok ((cols w n).map some) := by
  unfold m__law_columns w__law_columns
  try simp only [Rs.bind_assoc, Rs.ok_bind, then_nx, then_rt, endM_rt, endM_nx, ofOpt_some, if_true, Bool.false_eq_true, if_false, Bool.not_true, Bool.not_false]
  have hl : (rangeL 0 n).length ≤ 1000 := by rw [rangeL_len]; omega
  rw [Rs.guard_of (rgOk_of (by omega) h0), Rs.ok_bind, Rs.guard_of (decide_eq_true (small hl))]
  rw [lcM_map (fun y => some (inRows w y : Int)) _ fun y _ => ?_]
  · unfold cols
    rw [List.map_map]
    rfl
  · rw [Rs.guard_of (decide_eq_true (small hw)), lcM_fmap (fun r => if y ∈ r then some r else none) w fun r _ => by by_cases h : y ∈ r <;> simp [lcT, nox, Rs.ok_bind, h]]
    simp [lcT, nox, Rs.ok_bind, in_count w y]
/-- half, as the row tells it -/
theorem half_iff {ks : List Int} {rs : List (Option Int)} (h0 : ∀ k ∈ ks, 0 ≤ k) (hr : ∀ r ∈ rs, ∀ h, r = some h → 0 ≤ h) : (half ks rs).isNone = (short (ks.map fun k => ((some 1, k, some k) : Sort3)) (rs.map fun r => ((some 1, 0, r) : Sort3))).isSome := by
  cases hs : short (ks.map fun k => ((some 1, k, some k) : Sort3)) (rs.map fun r => ((some 1, 0, r) : Sort3)) with
  | none =>
    have hc : CondO ks rs := kept_cond hr fun t ht => by
      by_cases htop : t < top (ks.map fun k => ((some 1, k, some k) : Sort3))
      · unfold short at hs
        have := List.find?_eq_none.mp hs t (by
          unfold rangeL
          exact List.mem_map.mpr ⟨t.toNat, List.mem_range.mpr (by omega), by omega⟩)
        simpa using this
      · have hle : ∀ k ∈ ks, k ≤ t := fun k hk => by
          have : k ≤ top (ks.map fun k => ((some 1, k, some k) : Sort3)) := by
            unfold top
            exact (foldl_max_ge _ 0).2 k (List.mem_filterMap.mpr ⟨_, List.mem_map.mpr ⟨k, hk, rfl⟩, by simp⟩)
          omega
        unfold fails
        rw [asked_one]
        have e : (ks.map fun k => max (k - t) 0) = ks.map fun _ => 0 := List.map_congr_left fun k hk => by have := hle k hk; omega
        rw [e, sum_const, Int.mul_zero]
        cases hrr : rest (rs.map fun r => ((some 1, 0, r) : Sort3)) t with
        | none => rfl
        | some v =>
          have hv := rest_r1 (m := 0) (Int.le_refl 0) ht (fun s hs => by
            obtain ⟨x, hx, rfl⟩ := List.mem_map.mp hs
            exact ⟨fun k e => by cases e; decide, fun h e => hr x hx h e⟩) hrr
          have h2 : 0 ≤ ((rs.map fun r => ((some 1, 0, r) : Sort3)).map (val 0)).sum := sum_nonneg fun y hy => by
            obtain ⟨s, hs, rfl⟩ := List.mem_map.mp hy
            obtain ⟨x, hx, rfl⟩ := List.mem_map.mp hs
            show 0 ≤ 1 * mn 0 x
            rw [Int.one_mul]
            cases x with
            | none => exact Int.le_refl 0
            | some x => have := hr _ hx x rfl; show 0 ≤ min x 0; omega
          have : 0 ≤ v := by omega
          unfold kept
          simp [this]
    rw [half_some (greedy_whole h0 hr (condO.mpr hc))]
    rfl
  | some t =>
    cases hh : half ks rs with
    | none => rfl
    | some w =>
      exfalso
      obtain ⟨_, hl⟩ := half_back h0 hh
      obtain ⟨good, cnt⟩ := greedy_good ks rs (by omega) hr
      have hc := web_cond (w := greedy ks rs) (rs := rs) good cnt
      rw [hl] at hc
      unfold short at hs
      have h5 := List.find?_some hs
      have h6 := rangeL_mem (List.mem_of_find?_eq_some hs)
      rw [cond_kept hr hc t h6.1] at h5
      cases h5
end T16
namespace T16
open TL SP
theorem e_judged (w : List (List Int)) (ks : List Int) (rs : List (Option Int)) (hl : lens w = ks) (h1 : ks.length ≤ 60) (h2 : rs.length ≤ 60) (hw : WebOk w rs.length)
    (hc : ∀ y : Int, 0 ≤ y → y < rs.length → ∀ h, rs.getD y.toNat none = some h → (inRows w y : Int) ≤ h) : m__law_judged (w, ks, rs) = .ok true := by
  have hwl : w.length = ks.length := by rw [← hl]; unfold lens; rw [List.length_map]
  have hr : ∀ x : Int, 0 ≤ x → x < ks.length → ((w.getD x.toNat []).length : Int) = ks.getD x.toNat 0 := fun x x0 x1 => by
    rw [← hl]
    unfold lens
    rw [List.getD_eq_getElem?_getD, List.getD_eq_getElem?_getD, List.getElem?_map, List.getElem?_eq_getElem (show x.toNat < w.length by omega)]
    rfl
  refine Okp.eq ?_
  unfold m__law_judged w__law_judged
  try simp only [Rs.bind_assoc, Rs.ok_bind, then_nx, then_rt, endM_rt, endM_nx, ofOpt_some, if_true, Bool.false_eq_true, if_false, Bool.not_true, Bool.not_false]
  have e0 : rOr (Rs.ok false) (Rs.ok !decide ((w.length : Int) = ks.length)) = .ok false := by
    simp [rOr, Rs.ok_bind, hwl]
  rw [e0]
  try simp only [Rs.bind_assoc, Rs.ok_bind, then_nx, then_rt, endM_rt, endM_nx, ofOpt_some, if_true, Bool.false_eq_true, if_false, Bool.not_true, Bool.not_false]
  rw [Rs.guard_of (rgOk_of (by omega) (by omega)), Rs.ok_bind]
  have hrl : (rangeL 0 (rs.length : Int)).length ≤ 1000 := by rw [rangeL_len]; omega
  refine Okp.for (fun s => s.1 = w ∧ s.2.1 = ks ∧ s.2.2.1 = rs) ⟨rfl, rfl, rfl⟩ (fun x hx s hP => ?_) fun s hP => ?_
  · obtain ⟨p1, p2, p3⟩ := hP
    obtain ⟨x0, x1⟩ := rangeL_mem hx
    have hwx : L2.atI w x = some (w.getD x.toNat []) := getD_at [] ⟨x0, by rw [hwl]; exact x1⟩
    have hmem : w.getD x.toNat [] ∈ w := by
      rw [List.getD_eq_getElem?_getD, List.getElem?_eq_getElem (show x.toNat < w.length by omega)]
      exact List.getElem_mem _
    obtain ⟨g1, g2⟩ := hw _ hmem
    have hlen := hr x x0 x1
    have hrl2 : (w.getD x.toNat []).length ≤ 1000 := by
      have h3 := cnt_row (n := rs.length) g1 g2
      have h4 : sg rs.length (fun i => if (i : Int) ∈ w.getD x.toNat [] then 1 else 0) ≤ sg rs.length (fun _ => 1) := sg_le fun i _ => by split <;> omega
      rw [sg_const] at h4
      omega
    rw [p1, p2, p3]
    have e1 : rOr ((Rs.ofOpt (L2.atI w x)).bind fun a => Rs.ok false) ((Rs.ofOpt (L2.atI w x)).bind fun a => (Rs.ofOpt (L2.atI ks x)).bind fun y => Rs.ok !decide ((a.length : Int) = y)) = .ok false := by
      rw [hwx, ofOpt_some, Rs.ok_bind, Rs.ok_bind, getD_at 0 ⟨x0, x1⟩, ofOpt_some, Rs.ok_bind, hlen]
      simp [rOr, Rs.ok_bind]
    rw [e1]
    try simp only [Rs.bind_assoc, Rs.ok_bind, then_nx, then_rt, endM_rt, endM_nx, ofOpt_some, if_true, Bool.false_eq_true, if_false, Bool.not_true, Bool.not_false]
    have e2 : lcM (fun b => nox (lcT ((Rs.ofOpt (L2.atI w x)).bind fun ys => Rs.ok (decide (b ∈ ys))) (Rs.ok b))) (rangeL 0 (rs.length : Int)) = .ok (w.getD x.toNat []) := by
      rw [lcM_fmap (fun b => if b ∈ w.getD x.toNat [] then some b else none) _ fun b _ => by
        rw [hwx, ofOpt_some, Rs.ok_bind]
        generalize w.getD x.toNat [] = u
        by_cases h : b ∈ u <;> simp [lcT, nox, Rs.ok_bind, h]]
      congr 1
      rw [← filter_row g1 g2]
      conv => lhs; rw [filter_row g1 g2]
      generalize rangeL 0 (rs.length : Int) = l
      induction l with
      | nil => rfl
      | cons a r ih =>
        rw [List.filterMap_cons, List.filter_cons]
        by_cases h : a ∈ w.getD x.toNat []
        · rw [if_pos h, if_pos (decide_eq_true h), ih]
        · rw [if_neg h, if_neg (by rw [decide_eq_false h]; simp), ih]
    rw [hwx, ofOpt_some, Rs.ok_bind, Rs.guard_of (rgOk_of (by omega) (by omega)), Rs.ok_bind]
    rw [hwx, ofOpt_some] at e2
    rw [e2, Rs.guard_of (decide_eq_true (small hrl)), Rs.ok_bind]
    simp only [decide_true]
    try simp only [Rs.bind_assoc, Rs.ok_bind, then_nx, then_rt, endM_rt, endM_nx, ofOpt_some, if_true, Bool.false_eq_true, if_false, Bool.not_true, Bool.not_false]
    rw [hwx, ofOpt_some, Rs.ok_bind, Rs.guard_of (decide_eq_true (small hrl2)), lcM_tt (fun _ : Int => false), Rs.ok_bind]
    have e3 : ((w.getD x.toNat []).map fun _ => false).any id = false := by
      rw [List.any_map]
      simp
    rw [e3]
    try simp only [Rs.bind_assoc, Rs.ok_bind, then_nx, then_rt, endM_rt, endM_nx, ofOpt_some, if_true, Bool.false_eq_true, if_false, Bool.not_true, Bool.not_false]
    exact Okp.ok ⟨_, .inl rfl, rfl, rfl, rfl⟩
  · obtain ⟨p1, p2, p3⟩ := hP
    have hcl : (cols w rs.length).length = rs.length := by unfold cols; rw [List.length_map, rangeL_len]; omega
    have hcv : ∀ y : Int, 0 ≤ y → y < rs.length → L2.atI (cols w rs.length) y = some (inRows w y : Int) := fun y h0 h1 => by
      rw [atI_in h0 (by rw [hcl]; exact h1)]
      unfold cols rangeL
      rw [List.getElem?_map, List.getElem?_map, List.getElem?_range (by omega)]
      simp only [Option.map_some]
      rw [show (0 : Int) + ((y.toNat : Nat) : Int) = y by omega]
    try simp only [Rs.bind_assoc, Rs.ok_bind, then_nx, then_rt, endM_rt, endM_nx, ofOpt_some, if_true, Bool.false_eq_true, if_false, Bool.not_true, Bool.not_false]
    rw [p1, p3, e_columnsT w _ (by omega) (by omega) (by omega), Rs.ok_bind, Rs.guard_of (rgOk_of (by omega) (by omega)), Rs.ok_bind, Rs.guard_of (decide_eq_true (small hrl))]
    rw [lcM_map (fun _ => true) _ fun y hy => by
      obtain ⟨y0, y1⟩ := rangeL_mem hy
      rw [getD_at none ⟨y0, y1⟩, hcv y y0 y1]
      have := hc y y0 y1
      cases hx : rs.getD y.toNat none with
      | none => simp [rOr, lcT, nox, Rs.ok_bind, ofOpt_some]
      | some h =>
        have := this h hx
        simp [rOr, lcT, nox, Rs.ok_bind, ofOpt_some, this]]
    try simp only [Rs.bind_assoc, Rs.ok_bind, then_nx, then_rt, endM_rt, endM_nx, ofOpt_some, if_true, Bool.false_eq_true, if_false, Bool.not_true, Bool.not_false]
    refine Okp.ok ?_
    rw [List.all_map, List.all_eq_true]
    intro x _
    rfl
/-! ### counted -/
def vals : List (Option Int) := [some 0, some 1, some 2, some 3, some 4, some 5, some 6, some 7, some 8, some 9, some 10, some 11, some 12, none]
def cv (l : List (Option Int)) (v : Option Int) : Int := (l.countP fun x => decide (x = v) : Nat)
def grp (l : List (Option Int)) (p : Int) : List (Int × Option Int × Option Int) := ((0, some 9, some 9) :: vals.map fun v => (cv l v, if p = 1 then v else some 0, v)).reverse
theorem cv_len (l : List (Option Int)) (v : Option Int) : ((l.filterMap fun x => if x = v then some x else none).length : Int) = cv l v := by
  unfold cv
  rw [List.countP_eq_length_filter]
  congr 1
  induction l with
  | nil => rfl
  | cons a r ih => by_cases h : a = v <;> simp [h, ih]
theorem e_grouped (l : List (Option Int)) (p : Int) (hl : l.length ≤ 1000) : m__law_grouped (l, p) = .ok (grp l p) := by
  refine Okp.eq ?_
  unfold m__law_grouped w__law_grouped
  try simp only [Rs.bind_assoc, Rs.ok_bind, then_nx, then_rt, endM_rt, endM_nx, ofOpt_some, if_true, Bool.false_eq_true, if_false, Bool.not_true, Bool.not_false]
  rw [show [some (0 : Int), some 1, some 2, some 3, some 4, some 5, some 6, some 7, some 8, some 9, some 10, some 11, some 12, none] = vals from rfl]
  refine Okp.forS (fun d s => s.1 = l ∧ s.2.1 = p ∧ s.2.2.1 = (0, some 9, some 9) :: d.map fun v => (cv l v, if p = 1 then v else some 0, v)) ⟨rfl, rfl, rfl⟩ (fun d v r s e hP => ?_) fun s hP => ?_
  · obtain ⟨p1, p2, p3⟩ := hP
    have hd : d.length ≤ 14 := by
      have : (d ++ v :: r).length = 14 := by rw [e]; rfl
      rw [List.length_append] at this
      omega
    have g : s.snd.snd.fst.length < PySem.sizeLine := by
      rw [p3, PySem.sizeLine_eq]
      simp only [List.length_cons, List.length_map]
      omega
    have e1 : lcM (fun b : Option Int => nox (lcT (Rs.ok (decide (b = v))) (Rs.ok b))) l = .ok (l.filterMap fun x => if x = v then some x else none) := lcM_fmap _ _ fun x _ => by by_cases h : x = v <;> simp [lcT, nox, Rs.ok_bind, h]
    rw [p1, Rs.guard_of (decide_eq_true (small hl)), e1, Rs.ok_bind, Rs.guard_of (decide_eq_true g), Rs.guard_of (decide_eq_true g), cv_len, p2, p3]
    by_cases hp : p = 1
    · rw [decide_eq_true hp]
      try simp only [Rs.bind_assoc, Rs.ok_bind, then_nx, then_rt, endM_rt, endM_nx, ofOpt_some, if_true, Bool.false_eq_true, if_false, Bool.not_true, Bool.not_false]
      refine Okp.ok ⟨_, .inl rfl, rfl, rfl, ?_⟩
      simp [hp]
    · rw [decide_eq_false hp]
      try simp only [Rs.bind_assoc, Rs.ok_bind, then_nx, then_rt, endM_rt, endM_nx, ofOpt_some, if_true, Bool.false_eq_true, if_false, Bool.not_true, Bool.not_false]
      refine Okp.ok ⟨_, .inl rfl, rfl, rfl, ?_⟩
      simp [hp]
  · try simp only [Rs.bind_assoc, Rs.ok_bind, then_nx, then_rt, endM_rt, endM_nx, ofOpt_some, if_true, Bool.false_eq_true, if_false, Bool.not_true, Bool.not_false]
    refine Okp.ok ?_
    rw [hP.2.2]
    rfl
theorem count_sum (F : Option Int → Int) : ∀ l : List (Option Int), (∀ x ∈ l, x ∈ vals) → (vals.map fun v => cv l v * F v).sum = (l.map F).sum
  | [], _ => by
    have : vals.map (fun v => cv [] v * F v) = vals.map fun _ => 0 := List.map_congr_left fun v _ => by simp [cv]
    rw [this, sum_const]
    simp
  | x :: l, h => by
    have ih := count_sum F l fun y hy => h y (List.mem_cons_of_mem _ hy)
    have hx := h x List.mem_cons_self
    have one : ∀ vs : List (Option Int), vs.Nodup → x ∈ vs → (vs.map fun v => (if x = v then 1 else 0) * F v).sum = F x := fun vs => by
      induction vs with
      | nil => intro _ h; simp at h
      | cons v vs ih =>
        intro hn hm
        obtain ⟨n1, n2⟩ := List.nodup_cons.mp hn
        rw [List.map_cons, List.sum_cons]
        by_cases e : x = v
        · have z : vs.map (fun v => (if x = v then 1 else 0) * F v) = vs.map fun _ => 0 := List.map_congr_left fun y hy => by
            have : ¬ x = y := fun z => n1 (by rw [← e, z]; exact hy)
            simp [this]
          rw [z, sum_const, if_pos e, e]
          simp
        · rw [if_neg e, ih n2 ((List.mem_cons.mp hm).resolve_left e)]
          simp
    have hs : (vals.map fun v => cv (x :: l) v * F v) = vals.map fun v => (if x = v then 1 else 0) * F v + cv l v * F v := List.map_congr_left fun v _ => by
      have : cv (x :: l) v = (if x = v then 1 else 0) + cv l v := by
        unfold cv
        rw [List.countP_cons]
        by_cases e : x = v <;> simp [e] <;> omega
      rw [this, Int.add_mul]
    have hadd : ∀ (f g : Option Int → Int) (vs : List (Option Int)), (vs.map fun v => f v + g v).sum = (vs.map f).sum + (vs.map g).sum := fun f g vs => by
      induction vs with
      | nil => rfl
      | cons v vs ih => simp only [List.map_cons, List.sum_cons, ih]; omega
    rw [hs, hadd, one vals (by decide) hx, ih]
    rfl
theorem asked_all (t : Int) : ∀ (ns : List Sort3) (a : Int), (∀ s ∈ ns, ∃ k, s.1 = some k) → ns.foldl (fun a s => plus a (times s.1 (some (max (s.2.1 - t) 0)))) (some a) = some (a + (ns.map fun s => s.1.getD 0 * max (s.2.1 - t) 0).sum)
  | [], a, _ => by simp
  | s :: ns, a, h => by
    obtain ⟨k, hk⟩ := h s List.mem_cons_self
    rw [List.foldl_cons, hk, times_some, plus_some, asked_all t ns _ fun z hz => h z (List.mem_cons_of_mem _ hz), List.map_cons, List.sum_cons, hk]
    congr 1
    show a + k * max (s.2.1 - t) 0 + _ = a + (k * max (s.2.1 - t) 0 + _)
    omega
def gN (needs : List Int) : List Sort3 := (((vals.dropLast).map fun v => ((some (cv (needs.map some) v), v.getD 0, v) : Sort3)).reverse) ++ [(some 0, 9, some 9)]
def gR (rooms : List (Option Int)) : List Sort3 := (vals.map fun v => ((some (cv rooms v), 0, v) : Sort3)).reverse ++ [(some 0, 9, some 9)]
theorem narrow_N (needs : List Int) : mapO (fun a : Int × Option Int × Option Int => (some (some a.1)).bind fun x => Option.map (fun y => (x, y)) (a.2.1.bind fun x => Option.map (fun y => (x, y)) (some a.2.2))) (sl (grp (needs.map some) 1) (some 1) none) = some (gN needs) := by
  rw [sl_drop _ (by decide)]
  rfl
theorem narrow_R (rooms : List (Option Int)) : mapO (fun a : Int × Option Int × Option Int => (some (some a.1)).bind fun x => Option.map (fun y => (x, y)) (a.2.1.bind fun x => Option.map (fun y => (x, y)) (some a.2.2))) (grp rooms 2) = some (gR rooms) := rfl
theorem vals_mem {x : Option Int} (h : ∀ k, x = some k → 0 ≤ k ∧ k ≤ 12) : x ∈ vals := by
  cases x with
  | none => simp [vals]
  | some k =>
    have := h k rfl
    simp [vals]
    omega
def Small (l : List (Option Int)) : Prop := ∀ x ∈ l, ∀ k, x = some k → 0 ≤ k ∧ k ≤ 12
theorem asked_gN {needs : List Int} (h : Small (needs.map some)) (t : Int) : asked (gN needs) t = asked (needs.map fun k => ((some 1, k, some k) : Sort3)) t := by
  rw [asked_one]
  unfold asked
  rw [asked_all t (gN needs) 0 fun s hs => by
    unfold gN at hs
    rcases List.mem_append.mp hs with z | z
    · obtain ⟨v, _, rfl⟩ := List.mem_map.mp (List.mem_reverse.mp z)
      exact ⟨_, rfl⟩
    · rw [List.mem_singleton.mp z]; exact ⟨_, rfl⟩]
  congr 1
  have hc := count_sum (fun v => match v with | some k => max (k - t) 0 | none => 0) (needs.map some) fun x hx => vals_mem (h x hx)
  have e1 : (needs.map some).map (fun v => match v with | some k => max (k - t) 0 | none => 0) = needs.map fun k => max (k - t) 0 := by rw [List.map_map]; rfl
  rw [e1] at hc
  rw [← hc]
  unfold gN
  rw [List.map_append, List.sum_append, List.map_reverse, sum_perm (List.reverse_perm _), List.map_map]
  have e2 : (vals.map fun v => cv (needs.map some) v * (match v with | some k => max (k - t) 0 | none => 0)).sum = ((vals.dropLast).map fun v => cv (needs.map some) v * (match v with | some k => max (k - t) 0 | none => 0)).sum := by
    have : vals = vals.dropLast ++ [none] := rfl
    conv => lhs; rw [this]
    rw [List.map_append, List.sum_append]
    simp
  rw [e2]
  have e3 : (vals.dropLast).map ((fun s : Sort3 => s.1.getD 0 * max (s.2.1 - t) 0) ∘ fun v => ((some (cv (needs.map some) v), v.getD 0, v) : Sort3)) = (vals.dropLast).map fun v => cv (needs.map some) v * (match v with | some k => max (k - t) 0 | none => 0) := rfl
  rw [e3]
  simp
theorem gR_ok (rooms : List (Option Int)) (hl : rooms.length ≤ 1000) (h : Small rooms) : Srt (gR rooms) := by
  intro s hs
  unfold gR at hs
  rcases List.mem_append.mp hs with z | z
  · obtain ⟨v, hv, rfl⟩ := List.mem_map.mp (List.mem_reverse.mp z)
    refine ⟨fun k e => ?_, fun x e => ?_⟩
    · cases e
      unfold cv
      have : rooms.countP (fun x => decide (x = v)) ≤ rooms.length := List.countP_le_length
      omega
    · have e : v = some x := e
      rw [e] at hv
      simp [vals] at hv
      omega
  · rw [List.mem_singleton.mp z]
    exact ⟨fun k e => by cases e; decide, fun x e => by cases e; decide⟩
theorem gN_few (needs : List Int) (hl : needs.length ≤ 1000) : ∀ s ∈ gN needs, Few s := by
  intro s hs k e
  unfold gN at hs
  rcases List.mem_append.mp hs with z | z
  · obtain ⟨v, hv, rfl⟩ := List.mem_map.mp (List.mem_reverse.mp z)
    cases e
    unfold cv
    have : (needs.map some).countP (fun x => decide (x = v)) ≤ (needs.map some).length := List.countP_le_length
    rw [List.length_map] at this
    omega
  · rw [List.mem_singleton.mp z] at e
    cases e; decide
theorem rest_gR {rooms : List (Option Int)} (hl : rooms.length ≤ 1000) (h : Small rooms) {t : Int} (ht : 0 ≤ t) : rest (gR rooms) t = rest (rooms.map fun r => ((some 1, 0, r) : Sort3)) t := by
  have hy : Srt (rooms.map fun r => ((some 1, 0, r) : Sort3)) := fun s hs => by
    obtain ⟨x, hx, rfl⟩ := List.mem_map.mp hs
    exact ⟨fun k e => by cases e; decide, fun y e => (h x hx y e).1⟩
  have h1 := rv_rest (gR_ok rooms hl h) ht
  have h2 := rv_rest hy ht
  have hP : ∀ p ∈ prs3 (rooms.map fun r => ((some 1, 0, r) : Sort3)), Pok p := fun p hp => by
    obtain ⟨s, hs, rfl⟩ := List.mem_map.mp hp
    exact ⟨fun k e => ((hy s hs).1 k e).1, (hy s hs).2⟩
  have g1 : prs3 (gR rooms) = (vals.map fun v => ((some (cv rooms v), v) : Pr)).reverse ++ [(some 0, some 9)] := by
    unfold prs3 gR
    rw [List.map_append, List.map_reverse, List.map_map]
    rfl
  have g2 : prs3 (rooms.map fun r => ((some 1, 0, r) : Sort3)) = rooms.map fun r => (some 1, r) := by unfold prs3; rw [List.map_map]; rfl
  have hsum : ∀ (F : Pr → Int) (f : Option Int → Int), (∀ k v, F (some k, v) = k * f v) → ((prs3 (gR rooms)).map F).sum = ((prs3 (rooms.map fun r => ((some 1, 0, r) : Sort3))).map F).sum := fun F f hF => by
    rw [g1, g2, List.map_append, List.sum_append, List.map_reverse, sum_perm (List.reverse_perm _), List.map_map, List.map_map]
    have e1 : vals.map (F ∘ fun v => ((some (cv rooms v), v) : Pr)) = vals.map fun v => cv rooms v * f v := List.map_congr_left fun v _ => hF _ _
    have e2 : rooms.map (F ∘ fun r => ((some 1, r) : Pr)) = rooms.map f := List.map_congr_left fun r _ => by
      show F (some 1, r) = f r
      rw [hF, Int.one_mul]
    rw [e1, e2, count_sum f rooms fun x hx => vals_mem (h x hx)]
    simp [hF]
  refine rv_unique hP ht (rv_cong ?_ ?_ (fun m _ => hsum (pv m) (mn m) fun k v => rfl) h1) h2
  · constructor
    · rintro ⟨p, hp, e, _⟩
      rw [g1] at hp
      rcases List.mem_append.mp hp with z | z
      · obtain ⟨v, _, rfl⟩ := List.mem_map.mp (List.mem_reverse.mp z)
        cases e
      · rw [List.mem_singleton.mp z] at e; cases e
    · rintro ⟨p, hp, e, _⟩
      rw [g2] at hp
      obtain ⟨v, _, rfl⟩ := List.mem_map.mp hp
      cases e
  · refine hsum pw (fun v => match v with | none => 1 | some _ => 0) fun k v => ?_
    cases v with
    | none => show k = k * 1; omega
    | some x => show (0 : Int) = k * 0; omega
theorem le_top {ns : List Sort3} {s : Sort3} (hs : s ∈ ns) (h : s.1 ≠ some 0) : s.2.1 ≤ top ns := by
  unfold top
  exact (foldl_max_ge _ 0).2 _ (List.mem_filterMap.mpr ⟨s, hs, by rw [if_neg h]⟩)
theorem foldl_max_le {b : Int} : ∀ {l : List Int} {a : Int}, a ≤ b → (∀ x ∈ l, x ≤ b) → l.foldl max a ≤ b
  | [], a, h, _ => h
  | x :: l, a, h, hl => foldl_max_le (l := l) (a := max a x) (by have := hl x List.mem_cons_self; omega) fun y hy => hl y (List.mem_cons_of_mem _ hy)
theorem top_le {ns : List Sort3} {b : Int} (h0 : 0 ≤ b) (h : ∀ s ∈ ns, s.1 ≠ some 0 → s.2.1 ≤ b) : top ns ≤ b := by
  unfold top
  refine foldl_max_le h0 fun x hx => ?_
  obtain ⟨s, hs, e⟩ := List.mem_filterMap.mp hx
  split at e
  · cases e
  · cases e; exact h s hs (by assumption)
theorem top_gN {needs : List Int} (h : Small (needs.map some)) : top (gN needs) = top (needs.map fun k => ((some 1, k, some k) : Sort3)) := by
  refine Int.le_antisymm (top_le (top_nonneg _) fun s hs h1 => ?_) (top_le (top_nonneg _) fun s hs _ => ?_)
  · unfold gN at hs
    rcases List.mem_append.mp hs with z | z
    · obtain ⟨v, hv, rfl⟩ := List.mem_map.mp (List.mem_reverse.mp z)
      have hc : cv (needs.map some) v ≠ 0 := fun e => h1 (by show some _ = _; rw [e])
      have : ∃ x ∈ needs.map some, x = v := by
        unfold cv at hc
        have : 0 < (needs.map some).countP fun x => decide (x = v) := by omega
        obtain ⟨x, hx, e⟩ := List.countP_pos_iff.mp this
        exact ⟨x, hx, of_decide_eq_true e⟩
      obtain ⟨x, hx, rfl⟩ := this
      obtain ⟨k, hk, rfl⟩ := List.mem_map.mp hx
      exact le_top (s := (some 1, k, some k)) (List.mem_map.mpr ⟨k, hk, rfl⟩) (by simp)
    · rw [List.mem_singleton.mp z] at h1; exact absurd rfl h1
  · obtain ⟨k, hk, rfl⟩ := List.mem_map.mp hs
    have hv := vals_mem (h (some k) (List.mem_map.mpr ⟨k, hk, rfl⟩))
    have hv2 : some k ∈ vals.dropLast := by
      simp [vals] at hv ⊢
      exact hv
    refine le_top (s := (some (cv (needs.map some) (some k)), k, some k)) ?_ ?_
    · unfold gN
      exact List.mem_append_left _ (List.mem_reverse.mpr (List.mem_map.mpr ⟨some k, hv2, rfl⟩))
    · have : 0 < (needs.map some).countP fun x => decide (x = some k) := List.countP_pos_iff.mpr ⟨some k, List.mem_map.mpr ⟨k, hk, rfl⟩, by simp⟩
      unfold cv
      simp
      omega
theorem find_cong {p q : Int → Bool} : ∀ {l : List Int}, (∀ x ∈ l, p x = q x) → l.find? p = l.find? q
  | [], _ => rfl
  | x :: r, h => by
    rw [List.find?_cons, List.find?_cons, h x List.mem_cons_self, find_cong fun y hy => h y (List.mem_cons_of_mem _ hy)]
theorem short_g {needs : List Int} {rooms : List (Option Int)} (hn : Small (needs.map some)) (hl : rooms.length ≤ 1000) (hr : Small rooms) : short (gN needs) (gR rooms) = short (needs.map fun k => ((some 1, k, some k) : Sort3)) (rooms.map fun r => ((some 1, 0, r) : Sort3)) := by
  unfold short
  rw [top_gN hn]
  refine find_cong fun t ht => ?_
  unfold fails
  rw [asked_gN hn, rest_gR hl hr (rangeL_mem ht).1]
theorem e_summed (ns rs : List Sort3) (c : Int) (hc : 0 ≤ c) (hc2 : c ≤ 100) (hn : ∀ s ∈ ns, Few s) (hl : rs.length ≤ 1000) (hr : Srt rs) : m__law_summed (ns, rs, c) = .ok true := by
  refine Okp.eq ?_
  unfold m__law_summed w__law_summed
  try simp only [Rs.bind_assoc, Rs.ok_bind, then_nx, then_rt, endM_rt, endM_nx, ofOpt_some, if_true, Bool.false_eq_true, if_false, Bool.not_true, Bool.not_false]
  rw [Rs.guard_of (rgOk_of (by omega) (by omega)), Rs.ok_bind]
  refine Okp.for (fun s => s.1 = ns ∧ s.2.1 = rs) ⟨rfl, rfl⟩ (fun t ht s hP => ?_) fun s hP => ?_
  · obtain ⟨p1, p2⟩ := hP
    have t0 := (rangeL_mem ht).1
    rw [p1, p2, e_left ns t hn, Rs.ok_bind, e_right rs t t0 hl hr, Rs.ok_bind, e_sums ns rs t t0 hn (fun s hs => (hr s hs).1), Rs.ok_bind]
    have e0 : rOr (Rs.ok false) (rOr (Rs.ok !decide (((Tys.cons (tO tI) (Tys.one (tO tI))).len : Int) = 2)) (rOr (Rs.ok !decide ((asked ns t, rest rs t).fst = asked ns t)) (Rs.ok !decide ((asked ns t, rest rs t).snd = rest rs t)))) = .ok false := by
      simp [rOr, Rs.ok_bind, Tys.len]
    rw [e0]
    try simp only [Rs.bind_assoc, Rs.ok_bind, then_nx, then_rt, endM_rt, endM_nx, ofOpt_some, if_true, Bool.false_eq_true, if_false, Bool.not_true, Bool.not_false]
    rw [e_kept, e_lkept ns rs t t0 hn hl hr]
    cases hk : kept (asked ns t, rest rs t) with
    | true =>
      simp only [rAnd, Rs.ok_bind, decide_true, Bool.not_true, Bool.false_eq_true, if_false]
      try simp only [Rs.bind_assoc, Rs.ok_bind, then_nx, then_rt, endM_rt, endM_nx, ofOpt_some, if_true, Bool.false_eq_true, if_false, Bool.not_true, Bool.not_false]
      rw [e_kept, e_lkept ns rs t t0 hn hl hr, hk]
      simp only [rAnd, Rs.ok_bind, Bool.true_eq_false, decide_false, Bool.not_false, if_true, Bool.not_true]
      try simp only [Rs.bind_assoc, Rs.ok_bind, then_nx, then_rt, endM_rt, endM_nx, ofOpt_some, if_true, Bool.false_eq_true, if_false, Bool.not_true, Bool.not_false]
      exact Okp.ok ⟨_, .inl rfl, rfl, rfl⟩
    | false =>
      simp only [rAnd, Rs.ok_bind, Bool.false_eq_true, decide_false, Bool.not_false, if_true, if_false]
      try simp only [Rs.bind_assoc, Rs.ok_bind, then_nx, then_rt, endM_rt, endM_nx, ofOpt_some, if_true, Bool.false_eq_true, if_false, Bool.not_true, Bool.not_false]
      rw [e_kept, e_lkept ns rs t t0 hn hl hr, hk]
      simp only [rAnd, Rs.ok_bind, decide_true, Bool.not_true, Bool.false_eq_true, if_false]
      try simp only [Rs.bind_assoc, Rs.ok_bind, then_nx, then_rt, endM_rt, endM_nx, ofOpt_some, if_true, Bool.false_eq_true, if_false, Bool.not_true, Bool.not_false]
      exact Okp.ok ⟨_, .inl rfl, rfl, rfl⟩
  · try simp only [Rs.bind_assoc, Rs.ok_bind, then_nx, then_rt, endM_rt, endM_nx, ofOpt_some, if_true, Bool.false_eq_true, if_false, Bool.not_true, Bool.not_false]
    exact Okp.ok rfl
theorem e_row61 : m_row_bound 61 = .exc 1 := by
  unfold m_row_bound w_row_bound
  try simp only [Rs.bind_assoc, Rs.ok_bind, then_nx, then_rt, endM_rt, endM_nx, ofOpt_some, if_true, Bool.false_eq_true, if_false, Bool.not_true, Bool.not_false]
  rfl
theorem half_61 (ks : List Int) (rs : List (Option Int)) (h : ks.length = 61) : m_half (ks, rs) = .exc 1 := by
  unfold m_half w_half
  try simp only [Rs.bind_assoc, Rs.ok_bind, then_nx, then_rt, endM_rt, endM_nx, ofOpt_some, if_true, Bool.false_eq_true, if_false, Bool.not_true, Bool.not_false]
  rw [h, show ((61 : Nat) : Int) = 61 from rfl, e_row61]
  rfl
theorem half_61r (ks : List Int) (rs : List (Option Int)) (h1 : ks.length ≤ 60) (h : rs.length = 61) : m_half (ks, rs) = .exc 1 := by
  unfold m_half w_half
  try simp only [Rs.bind_assoc, Rs.ok_bind, then_nx, then_rt, endM_rt, endM_nx, ofOpt_some, if_true, Bool.false_eq_true, if_false, Bool.not_true, Bool.not_false]
  rw [e_row_bound _ (by omega), Rs.ok_bind, h, show ((61 : Nat) : Int) = 61 from rfl, e_row61]
  rfl
theorem e_fault (ks : List Int) (rs : List (Option Int)) (h : m_half (ks, rs) = .exc 1) : m__law_fault (ks, rs) = .ok ⟨PySem.Str.ofString "many", w__law_fault._proof_2⟩ := by
  unfold m__law_fault w__law_fault
  try simp only [Rs.bind_assoc, Rs.ok_bind, then_nx, then_rt, endM_rt, endM_nx, ofOpt_some, if_true, Bool.false_eq_true, if_false, Bool.not_true, Bool.not_false]
  unfold tryM
  rw [show nox (Rs.ok (ks, rs)) = Rs.ok (ks, rs) from rfl, Rs.ok_bind, h]
  rfl
end T16
namespace T16
open TL SP
theorem k_draw (p : Pool) (b : Int) (hb : 0 < b) (hb2 : b < 1073741824) (hi : 0 ≤ p.2.1) : Okp (m__law_draw (p, b)) fun r => 0 ≤ r.1 ∧ r.1 < b ∧ 0 ≤ r.2.2.1 := by
  obtain ⟨d, p', h, h1, h2, h3⟩ := e_draw p b hb hb2 hi
  exact ⟨_, h, h1, h2, h3⟩
theorem k_pick (p : Pool) (l : List (Option Int)) (h0 : 0 < l.length) (h1 : l.length ≤ 1000) (hi : 0 ≤ p.2.1) : Okp (m__law_pick (p, l)) fun r => r.1 ∈ l ∧ 0 ≤ r.2.2.1 := by
  unfold m__law_pick w__law_pick
  try simp only [Rs.bind_assoc, Rs.ok_bind, then_nx, then_rt, endM_rt, endM_nx, ofOpt_some, if_true, Bool.false_eq_true, if_false, Bool.not_true, Bool.not_false]
  refine (k_draw p l.length (by omega) (by omega) hi).step fun d ⟨d1, d2, hp⟩ => ?_
  rw [getD_at none ⟨d1, d2⟩]
  try simp only [Rs.bind_assoc, Rs.ok_bind, then_nx, then_rt, endM_rt, endM_nx, ofOpt_some, if_true, Bool.false_eq_true, if_false, Bool.not_true, Bool.not_false]
  refine Okp.ok ⟨?_, hp⟩
  rw [List.getD_eq_getElem?_getD, List.getElem?_eq_getElem (show d.1.toNat < l.length by omega)]
  exact List.getElem_mem _
structure Sd (ns : List Int) (rs : List (Option Int)) : Prop where
  n : Small (ns.map some)
  r : Small rs
  ln : ns.length ≤ 12
  lr : rs.length ≤ 12
theorem small_set {l : List (Option Int)} {i : Nat} {v : Option Int} (h : Small l) (hv : ∀ k, v = some k → 0 ≤ k ∧ k ≤ 12) : Small (l.set i v) := fun x hx k e => by
  rcases List.mem_or_eq_of_mem_set hx with z | z
  · exact h x z k e
  · rw [z] at e; exact hv k e
theorem small_ints {l : List Int} (h : ∀ x ∈ l, 0 ≤ x ∧ x ≤ 12) : Small (l.map some) := fun x hx k e => by
  obtain ⟨y, hy, rfl⟩ := List.mem_map.mp hx
  cases e
  exact h _ hy
theorem atO {l : List (Option Int)} {y : Int} (h0 : 0 ≤ y) (h1 : y < l.length) : L2.atI l y = some (l.getD y.toNat none) := getD_at none ⟨h0, h1⟩
theorem getD_set_ne {l : List (Option Int)} {y z : Int} {v : Option Int} (h0 : 0 ≤ y) (h1 : 0 ≤ z) (h : y ≠ z) : (l.set y.toNat v).getD z.toNat none = l.getD z.toNat none := by
  rw [List.getD_eq_getElem?_getD, List.getD_eq_getElem?_getD, List.getElem?_set_ne (by omega)]
theorem getD_rep (n : Nat) (v : Option Int) {z : Int} (h0 : 0 ≤ z) (h1 : z < n) : (List.replicate n v).getD z.toNat none = v := by
  rw [List.getD_eq_getElem?_getD, List.getElem?_eq_getElem (by rw [List.length_replicate]; omega)]
  simp
theorem e_sides (p : Pool) (hp : 0 ≤ p.2.1) : Okp (m__law_sides (p, ())) fun r => Sd r.1.1 r.1.2 ∧ 0 ≤ r.2.2.1 := by
  unfold m__law_sides w__law_sides
  try simp only [Rs.bind_assoc, Rs.ok_bind, then_nx, then_rt, endM_rt, endM_nx, ofOpt_some, if_true, Bool.false_eq_true, if_false, Bool.not_true, Bool.not_false]
  refine (k_draw p 4 (by decide) (by decide) hp).step fun st ⟨st1, st2, hp1⟩ => ?_
  refine (k_draw st.2 7 (by decide) (by decide) hp1).step fun mn ⟨mn1, mn2, hp2⟩ => ?_
  refine (k_draw mn.2 7 (by decide) (by decide) hp2).step fun wd ⟨wd1, wd2, hp3⟩ => ?_
  refine Okp.step (R := fun r => 0 ≤ r.2.1.2.1 ∧ r.2.2 = (st.1, mn.1, wd.1, (), (), (), (), (), (), (), (), ())) ?_ fun br ⟨hbr, hst⟩ => ?_
  · by_cases h3 : st.1 = 3
    · rw [decide_eq_true h3]
      try simp only [Rs.bind_assoc, Rs.ok_bind, then_nx, then_rt, endM_rt, endM_nx, ofOpt_some, if_true, Bool.false_eq_true, if_false, Bool.not_true, Bool.not_false]
      refine (k_draw wd.2 3 (by decide) (by decide) hp3).step fun d ⟨_, _, hp4⟩ => Okp.ok ⟨hp4, rfl⟩
    · rw [decide_eq_false h3]
      try simp only [Rs.bind_assoc, Rs.ok_bind, then_nx, then_rt, endM_rt, endM_nx, ofOpt_some, if_true, Bool.false_eq_true, if_false, Bool.not_true, Bool.not_false]
      exact Okp.ok ⟨hp3, rfl⟩
  obtain ⟨bb, bp, bs⟩ := br
  simp only at hbr hst
  subst hst
  cases bb with
  | true =>
    try simp only [Rs.bind_assoc, Rs.ok_bind, then_nx, then_rt, endM_rt, endM_nx, ofOpt_some, if_true, Bool.false_eq_true, if_false, Bool.not_true, Bool.not_false]
    refine (k_draw bp 6 (by decide) (by decide) hbr).step fun a ⟨a1, a2, hq1⟩ => ?_
    refine (k_draw a.2 6 (by decide) (by decide) hq1).step fun b ⟨b1, b2, hq2⟩ => ?_
    refine (k_draw b.2 4 (by decide) (by decide) hq2).step fun c ⟨c1, c2, hq3⟩ => ?_
    obtain ⟨n, hn⟩ : ∃ n : Nat, 7 + a.1 = n := ⟨(7 + a.1).toNat, by omega⟩
    obtain ⟨w, hw⟩ : ∃ w : Nat, 7 + b.1 = w := ⟨(7 + b.1).toNat, by omega⟩
    have l1 : (rangeL 0 (n : Int)).length ≤ 1000 := by rw [rangeL_len]; omega
    have l2 : (rangeL 0 (w : Int)).length ≤ 1000 := by rw [rangeL_len]; omega
    have m1 : (rangeL 0 (n : Int)).map (fun _ => 1 + c.1) = List.replicate n (1 + c.1) := by rw [List.map_const', rangeL_len]; rfl
    obtain ⟨q, hq⟩ : ∃ q, q = ((1 + c.1) * (n : Int)).fdiv (w : Int) := ⟨_, rfl⟩
    obtain ⟨md, hmd⟩ : ∃ q, q = ((1 + c.1) * (n : Int)).fmod (w : Int) := ⟨_, rfl⟩
    have m2 : (rangeL 0 (w : Int)).map (fun _ => some q) = List.replicate w (some q) := by rw [List.map_const', rangeL_len]; rfl
    have cm : L2.CMul (1 + c.1) (n : Int) := .inl ⟨by omega, by omega⟩
    have cd : L2.CDivN ((1 + c.1) * (n : Int)) (w : Int) := ⟨by omega, by omega⟩
    have wn : (w : Int) ≠ 0 := by omega
    have hprod : 0 ≤ (1 + c.1) * (n : Int) ∧ (1 + c.1) * (n : Int) ≤ 48 := by
      have h1 : (1 + c.1) * (n : Int) ≤ 4 * 12 := Int.mul_le_mul (by omega) (by omega) (by omega) (by decide)
      exact ⟨Int.mul_nonneg (by omega) (by omega), by omega⟩
    have q0 : 0 ≤ q ∧ q ≤ 6 := by
      have e : q = ((1 + c.1) * (n : Int)) / (w : Int) := by rw [hq, Int.fdiv_eq_ediv_of_nonneg _ (by omega)]
      have h1 : 0 ≤ q := by rw [e]; exact Int.ediv_nonneg hprod.1 (by omega)
      have h2 : q * (w : Int) ≤ (1 + c.1) * (n : Int) := by rw [e]; exact Int.ediv_mul_le _ wn
      have h3 : q * 7 ≤ q * (w : Int) := Int.mul_le_mul_of_nonneg_left (by omega) h1
      omega
    have md0 : 0 ≤ md ∧ md < w := by rw [hmd]; exact ⟨Int.fmod_nonneg_of_pos _ (by omega), Int.fmod_lt_of_pos _ (by omega)⟩
    rw [hn, hw, Rs.guard_of (rgOk_of (by omega) (by omega)), Rs.ok_bind, lcM_tt (fun _ : Int => 1 + c.1), m1, Rs.guard_of (decide_eq_true (small l1)), Rs.ok_bind, Rs.guard_of (rgOk_of (by omega) (by omega)), Rs.ok_bind, Rs.guard_of (decide_eq_true cm)]
    try simp only [Rs.bind_assoc, Rs.ok_bind, then_nx, then_rt, endM_rt, endM_nx, ofOpt_some, if_true, Bool.false_eq_true, if_false, Bool.not_true, Bool.not_false]
    rw [Rs.guard_of (decide_eq_true cd)]
    try simp only [Rs.bind_assoc, Rs.ok_bind, then_nx, then_rt, endM_rt, endM_nx, ofOpt_some, if_true, Bool.false_eq_true, if_false, Bool.not_true, Bool.not_false]
    rw [← hq, lcM_tt (fun _ : Int => some q), m2, Rs.guard_of (decide_eq_true (small l2)), Rs.ok_bind]
    simp only [Rs.guard_of (decide_eq_true cm), Rs.guard_of (decide_eq_true wn)]
    try simp only [Rs.bind_assoc, Rs.ok_bind, then_nx, then_rt, endM_rt, endM_nx, ofOpt_some, if_true, Bool.false_eq_true, if_false, Bool.not_true, Bool.not_false]
    rw [← hmd, Rs.guard_of (rgOk_of (by omega) md0.1), Rs.ok_bind]
    refine Okp.forR (fun l s => 0 ≤ s.1.2.1 ∧ s.2.2.2.2.2.1 = List.replicate n (1 + c.1) ∧ s.2.2.2.2.2.2.1.length = w ∧ l.Pairwise (· < ·) ∧ (∀ y ∈ l, (0 ≤ y ∧ y < w) ∧ s.2.2.2.2.2.2.1.getD y.toNat none = some q) ∧ ∀ x ∈ s.2.2.2.2.2.2.1, ∃ h, x = some h ∧ 0 ≤ h ∧ h ≤ 7)
      ⟨hq3, rfl, by simp, rangeL_nodup _ _, fun y hy => ⟨⟨(rangeL_mem hy).1, by have := (rangeL_mem hy).2; omega⟩, getD_rep w (some q) (rangeL_mem hy).1 (by have := (rangeL_mem hy).2; omega)⟩, fun x hx => ⟨q, (List.mem_replicate.mp hx).2, by omega, by omega⟩⟩ (fun y l s hP => ?_) fun s hP => ?_
    · obtain ⟨p1, p2, p3, p4, p5, p6⟩ := hP
      obtain ⟨p7, p8⟩ := List.pairwise_cons.mp p4
      obtain ⟨⟨y0, y1⟩, y2⟩ := p5 y List.mem_cons_self
      rw [atO y0 (by rw [p3]; exact y1), y2, ixN_in y0 (by rw [p3]; exact y1)]
      try simp only [Rs.bind_assoc, Rs.ok_bind, then_nx, then_rt, endM_rt, endM_nx, ofOpt_some, if_true, Bool.false_eq_true, if_false, Bool.not_true, Bool.not_false]
      refine Okp.ok ⟨_, .inl rfl, p1, p2, by rw [List.length_set]; exact p3, p8, fun z hz => ⟨(p5 z (List.mem_cons_of_mem _ hz)).1, ?_⟩, fun x hx => ?_⟩
      · have hz2 := p5 z (List.mem_cons_of_mem _ hz)
        have := p7 z hz
        rw [getD_set_ne y0 hz2.1.1 (by omega)]
        exact hz2.2
      · rcases List.mem_or_eq_of_mem_set hx with h | h
        · exact p6 x h
        · exact ⟨q + 1, h, by omega, by omega⟩
    · obtain ⟨p1, p2, p3, p4, p5, p6⟩ := hP
      try simp only [Rs.bind_assoc, Rs.ok_bind, then_nx, then_rt, endM_rt, endM_nx, ofOpt_some, if_true, Bool.false_eq_true, if_false, Bool.not_true, Bool.not_false]
      refine Okp.ok ⟨⟨?_, fun x hx k e => ?_, ?_, ?_⟩, p1⟩
      · show Small (s.2.2.2.2.2.1.map some)
        rw [p2]
        exact small_ints fun x hx => by rw [(List.mem_replicate.mp hx).2]; omega
      · obtain ⟨h, e1, h0, h1⟩ := p6 x hx
        rw [e1] at e; cases e; omega
      · show s.2.2.2.2.2.1.length ≤ 12
        rw [p2, List.length_replicate]; omega
      · show s.2.2.2.2.2.2.1.length ≤ 12
        omega
  | false =>
    try simp only [Rs.bind_assoc, Rs.ok_bind, then_nx, then_rt, endM_rt, endM_nx, ofOpt_some, if_true, Bool.false_eq_true, if_false, Bool.not_true, Bool.not_false]
    obtain ⟨n, hn⟩ : ∃ n : Nat, mn.1 = n := ⟨mn.1.toNat, by omega⟩
    obtain ⟨w, hw⟩ : ∃ w : Nat, wd.1 = w := ⟨wd.1.toNat, by omega⟩
    rw [hn, hw]
    have l1 : (rangeL 0 (n : Int)).length ≤ 1000 := by rw [rangeL_len]; omega
    have l2 : (rangeL 0 (w : Int)).length ≤ 1000 := by rw [rangeL_len]; omega
    by_cases h0 : st.1 = 0
    · rw [decide_eq_true h0]
      try simp only [Rs.bind_assoc, Rs.ok_bind, then_nx, then_rt, endM_rt, endM_nx, ofOpt_some, if_true, Bool.false_eq_true, if_false, Bool.not_true, Bool.not_false]
      rw [Rs.guard_of (rgOk_of (by omega) (by omega)), Rs.ok_bind, Rs.guard_of (decide_eq_true (small l1))]
      refine Okp.step (Okp.lcE (fun l s ys => 0 ≤ s.1.2.1 ∧ s.2.2.2.1 = (w : Int) ∧ ys.length + l.length = n ∧ ∀ y ∈ ys, 0 ≤ y ∧ y ≤ 12) (fun x l s ys hP => ?_) _ _ [] ⟨hbr, rfl, by rw [rangeL_len]; simp, fun y hy => by simp at hy⟩) fun r hr => ?_
      · obtain ⟨p1, p2, p3, p4⟩ := hP
        refine Okp.nox ?_
        try simp only [Rs.bind_assoc, Rs.ok_bind, then_nx, then_rt, endM_rt, endM_nx, ofOpt_some, if_true, Bool.false_eq_true, if_false, Bool.not_true, Bool.not_false]
        refine (k_draw s.1 6 (by decide) (by decide) p1).step fun d ⟨d1, d2, hd⟩ => Okp.ok ⟨hd, p2, by simp at p3 ⊢; omega, fun y hy => ?_⟩
        rcases List.mem_append.mp hy with z | z
        · exact p4 y z
        · have : y = d.1 := by simpa using z
          rw [this]; omega
      · obtain ⟨p1, p2, p3, p4⟩ := hr
        simp only [List.nil_append, List.length_nil, Nat.add_zero] at p3 p4
        rw [p2, Rs.guard_of (rgOk_of (by omega) (by omega)), Rs.ok_bind, Rs.guard_of (decide_eq_true (small l2))]
        refine Okp.step (Okp.lcE (fun l s ys => 0 ≤ s.1.2.1 ∧ s.2.2.2.2.2.1 = r.1 ∧ ys.length + l.length = w ∧ Small ys) (fun x l s ys hP => ?_) _ _ [] ⟨p1, rfl, by rw [rangeL_len]; simp, fun y hy => by simp at hy⟩) fun r2 hr2 => ?_
        · obtain ⟨q1, q2, q3, q4⟩ := hP
          refine Okp.nox ?_
          try simp only [Rs.bind_assoc, Rs.ok_bind, then_nx, then_rt, endM_rt, endM_nx, ofOpt_some, if_true, Bool.false_eq_true, if_false, Bool.not_true, Bool.not_false]
          refine (k_pick s.1 _ (by decide) (by decide) q1).step fun d ⟨d1, hd⟩ => Okp.ok ⟨hd, q2, by simp at q3 ⊢; omega, fun y hy k e => ?_⟩
          rcases List.mem_append.mp hy with z | z
          · exact q4 y z k e
          · have : y = d.1 := by simpa using z
            rw [← this, e] at d1
            simp at d1
            omega
        · obtain ⟨q1, q2, q3, q4⟩ := hr2
          simp only [List.nil_append, List.length_nil, Nat.add_zero] at q3 q4
          try simp only [Rs.bind_assoc, Rs.ok_bind, then_nx, then_rt, endM_rt, endM_nx, ofOpt_some, if_true, Bool.false_eq_true, if_false, Bool.not_true, Bool.not_false]
          exact Okp.ok ⟨⟨by rw [q2]; exact small_ints p4, q4, by rw [q2]; omega, by dsimp only; omega⟩, q1⟩
    · rw [decide_eq_false h0]
      try simp only [Rs.bind_assoc, Rs.ok_bind, then_nx, then_rt, endM_rt, endM_nx, ofOpt_some, if_true, Bool.false_eq_true, if_false, Bool.not_true, Bool.not_false]
      rw [Rs.guard_of (rgOk_of (by omega) (by omega)), Rs.ok_bind]
      refine Okp.forR (fun l s => 0 ≤ s.1.2.1 ∧ s.2.1 = st.1 ∧ s.2.2.1 = (n : Int) ∧ s.2.2.2.1 = (w : Int) ∧ s.2.2.2.2.2.2.2.2.1.length + l.length = n ∧ ∀ r ∈ s.2.2.2.2.2.2.2.2.1, r.length ≤ 6) ⟨hbr, rfl, rfl, rfl, by rw [rangeL_len]; simp, fun r hr => by simp at hr⟩ (fun x l s hP => ?_) fun s hP => ?_
      · obtain ⟨p1, p2, p3, p4, p5, p6⟩ := hP
        rw [p4, Rs.guard_of (rgOk_of (by omega) (by omega)), Rs.ok_bind, Rs.guard_of (decide_eq_true (small l2))]
        refine Okp.step (Okp.lcE (fun l s' ys => 0 ≤ s'.1.2.1 ∧ s'.2.1 = st.1 ∧ s'.2.2.1 = (n : Int) ∧ s'.2.2.2.1 = (w : Int) ∧ s'.2.2.2.2.2.2.2.2.1 = s.2.2.2.2.2.2.2.2.1 ∧ ys.length + l.length ≤ w) (fun y l s' ys hP => ?_) _ _ [] ⟨p1, p2, p3, rfl, rfl, by rw [rangeL_len]; simp⟩) fun r hr => ?_
        · obtain ⟨q1, q2, q3, q4, q5, q6⟩ := hP
          refine Okp.nox ?_
          refine (k_draw s'.1 2 (by decide) (by decide) q1).step fun d ⟨_, _, hd⟩ => ?_
          by_cases hd1 : d.1 = 1
          · rw [decide_eq_true hd1]
            try simp only [Rs.bind_assoc, Rs.ok_bind, then_nx, then_rt, endM_rt, endM_nx, ofOpt_some, if_true, Bool.false_eq_true, if_false, Bool.not_true, Bool.not_false]
            exact Okp.ok ⟨hd, q2, q3, q4, q5, by simp at q6 ⊢; omega⟩
          · rw [decide_eq_false hd1]
            try simp only [Rs.bind_assoc, Rs.ok_bind, then_nx, then_rt, endM_rt, endM_nx, ofOpt_some, if_true, Bool.false_eq_true, if_false, Bool.not_true, Bool.not_false]
            exact Okp.ok ⟨hd, q2, q3, q4, q5, by simp at q6 ⊢; omega⟩
        · obtain ⟨q1, q2, q3, q4, q5, q6⟩ := hr
          simp only [List.nil_append, List.length_nil, Nat.add_zero] at q6
          simp only [List.length_cons] at p5
          have g : r.2.2.2.2.2.2.2.2.2.1.length < PySem.sizeLine := by rw [q5, PySem.sizeLine_eq]; omega
          rw [Rs.guard_of (decide_eq_true g)]
          try simp only [Rs.bind_assoc, Rs.ok_bind, then_nx, then_rt, endM_rt, endM_nx, ofOpt_some, if_true, Bool.false_eq_true, if_false, Bool.not_true, Bool.not_false]
          refine Okp.ok ⟨_, .inl rfl, q1, q2, q3, q4, by dsimp only; rw [q5, List.length_append]; simp; omega, fun z hz => ?_⟩
          rcases List.mem_append.mp hz with h | h
          · rw [q5] at h; exact p6 z h
          · rw [List.mem_singleton.mp h]; omega
      · obtain ⟨p1, p2, p3, p4, p5, p6⟩ := hP
        simp only [List.length_nil, Nat.add_zero] at p5
        try simp only [Rs.bind_assoc, Rs.ok_bind, then_nx, then_rt, endM_rt, endM_nx, ofOpt_some, if_true, Bool.false_eq_true, if_false, Bool.not_true, Bool.not_false]
        obtain ⟨W, hW⟩ : ∃ W, W = s.2.2.2.2.2.2.2.2.1 := ⟨_, rfl⟩
        rw [← hW] at p5 p6 ⊢
        have hWl : W.length ≤ 1000 := by omega
        have e1 : lcM (fun b : List Int => nox (lcT (Rs.ok true) (Rs.ok (b.length : Int)))) W = .ok (lens W) := lcM_tt _ _
        rw [Rs.guard_of (decide_eq_true (small hWl)), e1, Rs.ok_bind, p4, e_columns W w hWl (by omega) (by omega), Rs.ok_bind, Rs.guard_of (rgOk_of (by omega) (by omega)), Rs.ok_bind]
        have hcl : ((cols W w).map some).length = w := by unfold cols; rw [List.length_map, List.length_map, rangeL_len]; omega
        have hcg : ∀ y : Int, 0 ≤ y → y < w → ((cols W w).map some).getD y.toNat none = some (inRows W y : Int) := fun y y0 y1 => by
          rw [List.getD_eq_getElem?_getD, List.getElem?_map, cols_at (show y.toNat < w by omega)]
          simp only [Option.map_some, Option.getD_some]
          rw [show ((y.toNat : Nat) : Int) = y by omega]
        have hlens : lens W = s.2.2.2.2.2.2.2.2.1.map fun r => (r.length : Int) := by rw [← hW]; rfl
        refine Okp.forR (fun l s' => 0 ≤ s'.1.2.1 ∧ s'.2.1 = st.1 ∧ s'.2.2.1 = (n : Int) ∧ s'.2.2.2.1 = (w : Int) ∧ s'.2.2.2.2.2.1 = lens W ∧ s'.2.2.2.2.2.2.1.length = w ∧ l.Pairwise (· < ·) ∧ (∀ y ∈ l, (0 ≤ y ∧ y < w) ∧ ∃ h, s'.2.2.2.2.2.2.1.getD y.toNat none = some h ∧ 0 ≤ h ∧ h ≤ 6) ∧ Small s'.2.2.2.2.2.2.1)
          ⟨p1, p2, p3, rfl, rfl, hcl, rangeL_nodup _ _, fun y hy => ⟨rangeL_mem hy, _, hcg y (rangeL_mem hy).1 (rangeL_mem hy).2, by omega, by have := inRows_le W y; omega⟩, ?_⟩ (fun y l s' hP => ?_) fun s' hP => ?_
        · refine small_ints fun x hx => ?_
          unfold cols at hx
          obtain ⟨y, _, rfl⟩ := List.mem_map.mp hx
          have := inRows_le W y
          omega
        · obtain ⟨q1, q2, q3, q4, q5, q6, q7, q8, q9⟩ := hP
          obtain ⟨q10, q11⟩ := List.pairwise_cons.mp q7
          obtain ⟨⟨y0, y1⟩, h, y2, h0', h1'⟩ := q8 y List.mem_cons_self
          rw [atO y0 (by rw [q6]; exact y1), y2, ixN_in y0 (by rw [q6]; exact y1)]
          try simp only [Rs.bind_assoc, Rs.ok_bind, then_nx, then_rt, endM_rt, endM_nx, ofOpt_some, if_true, Bool.false_eq_true, if_false, Bool.not_true, Bool.not_false]
          refine (k_pick s'.1 _ (by simp) (by simp) q1).step fun d ⟨d1, hd⟩ => ?_
          refine Okp.ok ⟨_, .inl rfl, hd, q2, q3, q4, q5, by rw [List.length_set]; exact q6, q11, fun z hz => ?_, small_set q9 fun k e => ?_⟩
          · obtain ⟨hz1, hz2⟩ := q8 z (List.mem_cons_of_mem _ hz)
            have := q10 z hz
            refine ⟨hz1, ?_⟩
            show ∃ h, (s'.2.2.2.2.2.2.1.set y.toNat d.1).getD z.toNat none = some h ∧ _
            rw [getD_set_ne y0 hz1.1 (by omega)]
            exact hz2
          · rw [e] at d1
            simp at d1
            omega
        · obtain ⟨q1, q2, q3, q4, q5, q6, q7, q8, q9⟩ := hP
          have lw : (lens W).length = n := by unfold lens; rw [List.length_map]; exact p5
          have hsl : ∀ x ∈ lens W, 0 ≤ x ∧ x ≤ 6 := fun x hx => by
            obtain ⟨r, hr, rfl⟩ := List.mem_map.mp hx
            have := p6 r hr
            omega
          try simp only [Rs.bind_assoc, Rs.ok_bind, then_nx, then_rt, endM_rt, endM_nx, ofOpt_some, if_true, Bool.false_eq_true, if_false, Bool.not_true, Bool.not_false]
          rw [q2, q3]
          have hA : ∀ x y : Bool, rAnd (Rs.ok x) (Rs.ok y) = .ok (x && y) := fun x y => by cases x <;> rfl
          rw [hA]
          try simp only [Rs.bind_assoc, Rs.ok_bind, then_nx, then_rt, endM_rt, endM_nx, ofOpt_some, if_true, Bool.false_eq_true, if_false, Bool.not_true, Bool.not_false]
          refine Okp.step (R := fun (fl : Fl ((List Int × List (Option Int)) × Pool) (Pool × Int × Int × Int × Unit × List Int × List (Option Int) × Unit × List (List Int) × Unit × Unit × Unit × Unit) Unit) => ∃ s2, fl = .nx s2 ∧ 0 ≤ s2.1.2.1 ∧ s2.2.1 = st.1 ∧ s2.2.2.2.1 = (w : Int) ∧ s2.2.2.2.2.2.1.length = n ∧ (∀ x ∈ s2.2.2.2.2.2.1, 0 ≤ x ∧ x ≤ 12) ∧ s2.2.2.2.2.2.2.1.length = w ∧ Small s2.2.2.2.2.2.2.1) ?_ ?_
          · by_cases hc : (decide (st.1 = 2) && decide (0 < (n : Int))) = true
            · rw [hc]
              try simp only [Rs.bind_assoc, Rs.ok_bind, then_nx, then_rt, endM_rt, endM_nx, ofOpt_some, if_true, Bool.false_eq_true, if_false, Bool.not_true, Bool.not_false]
              simp only [Bool.and_eq_true, decide_eq_true_eq] at hc
              refine (k_draw s'.1 n (by omega) (by omega) q1).step fun d ⟨d1, d2, hd⟩ => ?_
              rw [q5, getD_at 0 ⟨d1, by omega⟩, ixN_in d1 (by omega)]
              try simp only [Rs.bind_assoc, Rs.ok_bind, then_nx, then_rt, endM_rt, endM_nx, ofOpt_some, if_true, Bool.false_eq_true, if_false, Bool.not_true, Bool.not_false]
              have hv : 0 ≤ (lens W).getD d.1.toNat 0 ∧ (lens W).getD d.1.toNat 0 ≤ 6 := by
                rw [List.getD_eq_getElem?_getD, List.getElem?_eq_getElem (show d.1.toNat < (lens W).length by omega)]
                exact hsl _ (List.getElem_mem _)
              refine Okp.ok ⟨_, rfl, hd, rfl, q4, by rw [List.length_set]; exact lw, fun x hx => ?_, q6, q9⟩
              rcases List.mem_or_eq_of_mem_set hx with z | z
              · have := hsl x z; omega
              · rw [z]; omega
            · have hc' : (decide (st.1 = 2) && decide (0 < (n : Int))) = false := by simpa using hc
              rw [hc']
              try simp only [Rs.bind_assoc, Rs.ok_bind, then_nx, then_rt, endM_rt, endM_nx, ofOpt_some, if_true, Bool.false_eq_true, if_false, Bool.not_true, Bool.not_false]
              exact Okp.ok ⟨_, rfl, q1, q2, q4, by rw [q5]; exact lw, fun x hx => by rw [q5] at hx; have := hsl x hx; omega, q6, q9⟩
          · rintro fl ⟨s2, rfl, u1, u2, u3, u4, u5, u6, u7⟩
            try simp only [Rs.bind_assoc, Rs.ok_bind, then_nx, then_rt, endM_rt, endM_nx, ofOpt_some, if_true, Bool.false_eq_true, if_false, Bool.not_true, Bool.not_false]
            rw [u2, u3, hA]
            try simp only [Rs.bind_assoc, Rs.ok_bind, then_nx, then_rt, endM_rt, endM_nx, ofOpt_some, if_true, Bool.false_eq_true, if_false, Bool.not_true, Bool.not_false]
            refine Okp.step (R := fun (fl : Fl ((List Int × List (Option Int)) × Pool) (Pool × Int × Int × Int × Unit × List Int × List (Option Int) × Unit × List (List Int) × Unit × Unit × Unit × Unit) Unit) => ∃ s2, fl = .nx s2 ∧ 0 ≤ s2.1.2.1 ∧ s2.2.2.2.2.2.1.length = n ∧ (∀ x ∈ s2.2.2.2.2.2.1, 0 ≤ x ∧ x ≤ 12) ∧ s2.2.2.2.2.2.2.1.length = w ∧ Small s2.2.2.2.2.2.2.1) ?_ ?_
            · by_cases hc : (decide (st.1 = 3) && decide (0 < (w : Int))) = true
              · rw [hc]
                try simp only [Rs.bind_assoc, Rs.ok_bind, then_nx, then_rt, endM_rt, endM_nx, ofOpt_some, if_true, Bool.false_eq_true, if_false, Bool.not_true, Bool.not_false]
                simp only [Bool.and_eq_true, decide_eq_true_eq] at hc
                refine (k_draw s2.1 w (by omega) (by omega) u1).step fun d ⟨d1, d2, hd⟩ => ?_
                rw [atO d1 (by omega), ixN_in d1 (by omega)]
                try simp only [Rs.bind_assoc, Rs.ok_bind, then_nx, then_rt, endM_rt, endM_nx, ofOpt_some, if_true, Bool.false_eq_true, if_false, Bool.not_true, Bool.not_false]
                refine Okp.step (R := fun z : Int => 0 ≤ z ∧ z ≤ 12) ?_ fun z ⟨z0, z1⟩ => ?_
                · cases hg : s2.2.2.2.2.2.2.1.getD d.1.toNat none with
                  | none => exact Okp.ok ⟨by decide, by decide⟩
                  | some i =>
                    have hm : some i ∈ s2.2.2.2.2.2.2.1 := by
                      rw [← hg, List.getD_eq_getElem?_getD, List.getElem?_eq_getElem (show d.1.toNat < s2.2.2.2.2.2.2.1.length by omega)]
                      exact List.getElem_mem _
                    have := u7 _ hm i rfl
                    by_cases hi : i = 0
                    · simp only [hi, if_true]
                      exact Okp.ok ⟨by decide, by decide⟩
                    · simp only [hi, if_false]
                      exact Okp.ok this
                exact Okp.ok ⟨_, rfl, hd, u4, u5, by rw [List.length_set]; exact u6, small_set u7 fun k e => by cases e; omega⟩
              · have hc' : (decide (st.1 = 3) && decide (0 < (w : Int))) = false := by simpa using hc
                rw [hc']
                try simp only [Rs.bind_assoc, Rs.ok_bind, then_nx, then_rt, endM_rt, endM_nx, ofOpt_some, if_true, Bool.false_eq_true, if_false, Bool.not_true, Bool.not_false]
                exact Okp.ok ⟨_, rfl, u1, u4, u5, u6, u7⟩
            · rintro fl ⟨s3, rfl, v1, v2, v3, v4, v5⟩
              try simp only [Rs.bind_assoc, Rs.ok_bind, then_nx, then_rt, endM_rt, endM_nx, ofOpt_some, if_true, Bool.false_eq_true, if_false, Bool.not_true, Bool.not_false]
              exact Okp.ok ⟨⟨small_ints v3, v5, by dsimp only; omega, by dsimp only; omega⟩, v1⟩
end T16
namespace T16
open TL SP
def xsO (ns : List Int) : List Sort3 := ns.map fun k => (some 1, k, some k)
def ysO (rs : List (Option Int)) : List Sort3 := rs.map fun r => (some 1, 0, r)
structure Fa (ns : List Int) (rs : List (Option Int)) (due : Option Int) : Prop where
  e1 : lcM (fun b : Int => nox (lcT (Rs.ok true) (Rs.ok ((some 1, b, some b) : Sort3)))) ns = .ok (xsO ns)
  e2 : lcM (fun b : Option Int => nox (lcT (Rs.ok true) (Rs.ok ((some 1, 0, b) : Sort3)))) rs = .ok (ysO rs)
  s1 : ns.length ≤ PySem.sizeLine
  s2 : rs.length ≤ PySem.sizeLine
  k1 : m__law_short (xsO ns, ysO rs) = .ok due
  k2 : m_half (ns, rs) = .ok (half ns rs)
  k3 : (half ns rs).isNone = due.isSome
  k4 : m_shortT (xsO ns, ysO rs) = .ok due
  k5 : m__law_grouped (ns.map some, 1) = .ok (grp (ns.map some) 1)
  k6 : m__law_grouped (rs, 2) = .ok (grp rs 2)
  k7 : m_short (gN ns, gR rs) = .ok due
  k8 : m__law_summed (xsO ns, ysO rs, top (xsO ns)) = .ok true
  k9 : m__law_summed (gN ns, gR rs, top (xsO ns)) = .ok true
  k10 : m_halfT (ns, rs) = .ok (half ns rs)
  hmax : maxL ([0] ++ ns) = .ok (top (xsO ns))
  g0 : [(0 : Int)].length + ns.length ≤ PySem.sizeLine
  j1 : rAnd (Rs.ok (half ns rs).isSome) ((Rs.ofOpt (half ns rs)).bind fun a => (m__law_judged (a, ns, rs)).bind fun c => Rs.ok !c) = .ok false
  f1 : m__law_fault (List.replicate 61 0, rs) = .ok ⟨PySem.Str.ofString "many", w__law_fault._proof_2⟩
  f2 : m__law_fault (ns, List.replicate 61 none) = .ok ⟨PySem.Str.ofString "many", w__law_fault._proof_2⟩
  f3 : m_half (List.replicate 60 0, rs) = .ok (some (List.replicate 60 []))
theorem facts {ns : List Int} {rs : List (Option Int)} (sd : Sd ns rs) : Fa ns rs (short (xsO ns) (ysO rs)) := by
  obtain ⟨sn, sr, ln, lr⟩ := sd
  have n0 : ∀ k ∈ ns, 0 ≤ k ∧ k ≤ 12 := fun k hk => sn (some k) (List.mem_map.mpr ⟨k, hk, rfl⟩) k rfl
  have n0' : ∀ k ∈ ns, 0 ≤ k := fun k hk => (n0 k hk).1
  have r0' : ∀ r ∈ rs, ∀ h, r = some h → 0 ≤ h := fun r hr h e => (sr r hr h e).1
  have fx : ∀ s ∈ xsO ns, Few s := fun s hs k e => by
    obtain ⟨n, _, rfl⟩ := List.mem_map.mp hs
    cases e; decide
  have fy : Srt (ysO rs) := fun s hs => by
    obtain ⟨n, hn, rfl⟩ := List.mem_map.mp hs
    exact ⟨fun k e => by cases e; decide, fun h e => r0' n hn h e⟩
  have lx : (xsO ns).length = ns.length := List.length_map _
  have ly : (ysO rs).length = rs.length := List.length_map _
  have tx : top (xsO ns) ≤ 12 := top_le (by decide) fun s hs _ => by
    obtain ⟨k, hk, rfl⟩ := List.mem_map.mp hs
    exact (n0 k hk).2
  have t0 := top_nonneg (xsO ns)
  have k11 : ∀ w, half ns rs = some w → m__law_judged (w, ns, rs) = .ok true := fun w hw => by
    obtain ⟨rfl, hl⟩ := half_back n0' hw
    obtain ⟨good, cnt⟩ := greedy_good ns rs (by omega) r0'
    exact e_judged _ _ _ hl (by omega) (by omega) good cnt
  refine ⟨lcM_tt _ _, lcM_tt _ _, small (by omega), small (by omega), e_lshort _ _ fx (by omega) fy (by omega) (by omega), e_half ns rs (by omega) (by omega) n0', half_iff n0' r0', e_shortT _ _ fx (fun s hs => (fy s hs).1) (by omega) (by omega), e_grouped _ 1 (by rw [List.length_map]; omega), e_grouped rs 2 (by omega), ?_,
    e_summed _ _ _ t0 (by omega) fx (by omega) fy, e_summed _ _ _ t0 (by omega) (gN_few ns (by omega)) (by simp [gR, vals]) (gR_ok rs (by omega) sr), e_halfT ns rs (by omega) (by omega) n0', ?_, small (by simp; omega), ?_, e_fault _ _ (half_61 _ _ (by simp)), e_fault _ _ (half_61r _ _ (by omega) (by simp)), ?_⟩
  · rw [e_short (gN ns) (gR rs) (gN_few ns (by omega)) (fun s hs => (gR_ok rs (by omega) sr s hs).1) (by simp [gN, vals]) (by rw [top_gN sn]; exact Int.le_trans tx (by decide)), short_g sn (by omega) sr]
    rfl
  · show Rs.ok (ns.foldl max 0) = _
    congr 1
    unfold top xsO
    congr 1
    rw [List.filterMap_map]
    have : ((fun s : Sort3 => if s.1 = some 0 then none else some s.2.1) ∘ fun k => ((some 1, k, some k) : Sort3)) = fun k : Int => some k := by funext k; simp
    rw [this, List.filterMap_some]
  · cases hh : half ns rs with
    | none => rfl
    | some w =>
      simp only [rAnd, Option.isSome_some, Rs.ok_bind, if_true, ofOpt_some, k11 w hh, Bool.not_true]
  · rw [e_half _ _ (by simp) (by omega) fun k hk => by rw [(List.mem_replicate.mp hk).2]; exact Int.le_refl 0, half_zero]
theorem law_true (sc : List Int) (h : sc.length ≤ 63) : m_law sc = .ok true := by
  refine Okp.eq ?_
  unfold m_law w_law
  try simp only [Rs.bind_assoc, Rs.ok_bind, then_nx, then_rt, endM_rt, endM_nx, ofOpt_some, if_true, Bool.false_eq_true, if_false, Bool.not_true, Bool.not_false]
  have hp : Okp (m__law_pool sc) fun p : Pool => 0 ≤ p.2.1 := by
    unfold m__law_pool w__law_pool
    try simp only [Rs.bind_assoc, Rs.ok_bind, then_nx, then_rt, endM_rt, endM_nx, ofOpt_some, if_true, Bool.false_eq_true, if_false, Bool.not_true, Bool.not_false]
    exact Okp.ok (Int.le_refl 0)
  refine hp.step fun p hp => ?_
  refine (e_sides p hp).step fun r ⟨sd, hp2⟩ => ?_
  have F := facts sd
  refine Okp.goG (decide_eq_true F.s1) F.e1 ?_
  refine Okp.goG (decide_eq_true F.s2) F.e2 ?_
  refine Okp.go F.k1 ?_
  refine Okp.go F.k2 ?_
  refine Okp.go (a := false) (by simp [rOr, Rs.ok_bind, F.k3]) ?_
  try simp only [Rs.bind_assoc, Rs.ok_bind, then_nx, then_rt, endM_rt, endM_nx, ofOpt_some, if_true, Bool.false_eq_true, if_false, Bool.not_true, Bool.not_false]
  refine Okp.go F.j1 ?_
  try simp only [Rs.bind_assoc, Rs.ok_bind, then_nx, then_rt, endM_rt, endM_nx, ofOpt_some, if_true, Bool.false_eq_true, if_false, Bool.not_true, Bool.not_false]
  refine Okp.go F.k4 ?_
  refine Okp.go (a := false) (by simp [rOr, Rs.ok_bind]) ?_
  try simp only [Rs.bind_assoc, Rs.ok_bind, then_nx, then_rt, endM_rt, endM_nx, ofOpt_some, if_true, Bool.false_eq_true, if_false, Bool.not_true, Bool.not_false]
  refine Okp.go F.k5 ?_
  refine Okp.goO (narrow_N _) ?_
  refine Okp.go F.k6 ?_
  refine Okp.goO (narrow_R _) ?_
  refine Okp.go F.k7 ?_
  simp only [decide_true, Bool.not_true, Bool.false_eq_true, if_false]
  try simp only [Rs.bind_assoc, Rs.ok_bind, then_nx, then_rt, endM_rt, endM_nx, ofOpt_some, if_true, Bool.false_eq_true, if_false, Bool.not_true, Bool.not_false]
  refine Okp.goG (decide_eq_true F.g0) rfl ?_
  refine Okp.go F.hmax ?_
  refine Okp.go (a := false) (by simp only [F.k8, F.k6, F.k9, narrow_N, narrow_R, Rs.ok_bind, ofOpt_some, rOr, Bool.not_true, Bool.false_eq_true, if_false]) ?_
  try simp only [Rs.bind_assoc, Rs.ok_bind, then_nx, then_rt, endM_rt, endM_nx, ofOpt_some, if_true, Bool.false_eq_true, if_false, Bool.not_true, Bool.not_false]
  refine Okp.go F.k10 ?_
  refine Okp.go (a := false) (by simp only [F.k2, Rs.ok_bind, rOr, decide_true, Bool.not_true, Bool.false_eq_true, if_false]) ?_
  try simp only [Rs.bind_assoc, Rs.ok_bind, then_nx, then_rt, endM_rt, endM_nx, ofOpt_some, if_true, Bool.false_eq_true, if_false, Bool.not_true, Bool.not_false]
  refine Okp.go F.j1 ?_
  try simp only [Rs.bind_assoc, Rs.ok_bind, then_nx, then_rt, endM_rt, endM_nx, ofOpt_some, if_true, Bool.false_eq_true, if_false, Bool.not_true, Bool.not_false]
  have l61 : (rangeL 0 61).length ≤ 1000 := by rw [rangeL_len]; decide
  have l60 : (rangeL 0 60).length ≤ 1000 := by rw [rangeL_len]; decide
  have c1 : ∀ {α : Type} (v : α), (rangeL 0 61).map (fun _ => v) = List.replicate 61 v := fun v => by rw [List.map_const', rangeL_len]; rfl
  have c2 : ∀ {α : Type} (v : α), (rangeL 0 60).map (fun _ => v) = List.replicate 60 v := fun v => by rw [List.map_const', rangeL_len]; rfl
  have z1 : (Rs.guard (rgOk 0 61) (Rs.ok (rangeL 0 61))) = .ok (rangeL 0 61) := Rs.guard_of (rgOk_of (by decide) (by decide)) _
  have z2 : (Rs.guard (rgOk 0 60) (Rs.ok (rangeL 0 60))) = .ok (rangeL 0 60) := Rs.guard_of (rgOk_of (by decide) (by decide)) _
  have y1 : ∀ {α : Type} (v : α), (Rs.guard (decide ((rangeL 0 61).length ≤ PySem.sizeLine)) (lcM (fun b : Int => nox (lcT (Rs.ok true) (Rs.ok v))) (rangeL 0 61))) = .ok (List.replicate 61 v) := fun v => by
    rw [Rs.guard_of (decide_eq_true (small l61)), lcM_tt (fun _ : Int => v), c1]
  have y2 : ∀ {α : Type} (v : α), (Rs.guard (decide ((rangeL 0 60).length ≤ PySem.sizeLine)) (lcM (fun b : Int => nox (lcT (Rs.ok true) (Rs.ok v))) (rangeL 0 60))) = .ok (List.replicate 60 v) := fun v => by
    rw [Rs.guard_of (decide_eq_true (small l60)), lcM_tt (fun _ : Int => v), c2]
  refine Okp.go (a := false) (by simp only [z1, y1, Rs.ok_bind, F.f1, F.f2, rOr, decide_true, Bool.not_true, Bool.false_eq_true, if_false]) ?_
  try simp only [Rs.bind_assoc, Rs.ok_bind, then_nx, then_rt, endM_rt, endM_nx, ofOpt_some, if_true, Bool.false_eq_true, if_false, Bool.not_true, Bool.not_false]
  refine Okp.go z2 ?_
  refine Okp.go (y2 _) ?_
  refine Okp.go F.f3 ?_
  refine Okp.go z2 ?_
  refine Okp.go (y2 _) ?_
  try simp only [Rs.bind_assoc, Rs.ok_bind, then_nx, then_rt, endM_rt, endM_nx, ofOpt_some, if_true, Bool.false_eq_true, if_false, Bool.not_true, Bool.not_false]
  exact Okp.ok (by simp)
end T16
namespace T16
open PySem PySem.Spec PyProof.Rows L2 TL
section
abbrev s_init_Refused : Stmt := (match topS 1 with | .ClassDef _ _ _ b .. => b | _ => []).getD 0 (.Pass ⟨0, 0, 0, 0⟩)
theorem sc_init_Refused : FnScope ["self", "why"] ["self", "why"] (defScope s_init_Refused) := ⟨rfl, rfl, rfl, by decide +kernel, rfl, by decide +kernel, by decide +kernel⟩
theorem all_mk {P : Program} {w : World} {K : PySem.W.Frag} {h : Heap} {mg : Str → Option Value} {fa : Addr} (ca : Nat → Addr) (X : K.In h) (G : h.Ns mainGlobals mg) (hfa : mg "law" = some (.ref fa))
    {f0 : Addr} {od0 an0 : Option Addr} {sl0 : Array (Option Value)} {oc0 kV0 dc0 pm0 cd0 ct0 : Value}
    (a0 : PySem.W.nsIn K mainGlobals "row_bound" = some (some (.ref f0))) (l0 : K.lookup f0 = some ⟨oc0, od0, .func (PySem.W.fnOf "row_bound" "row_bound" (defArgs s_row_bound) (defBody s_row_bound) (defScope s_row_bound) .none kV0 dc0 pm0 an0 cd0 ct0), sl0⟩) (q0 : PySem.W.codeIn K cd0 "row_bound" = true) (k0 : PySem.W.keepIn K (.ref f0) = true)
    {f1 : Addr} {od1 an1 : Option Addr} {sl1 : Array (Option Value)} {oc1 kV1 dc1 pm1 cd1 ct1 : Value}
    (a1 : PySem.W.nsIn K mainGlobals "endless_times" = some (some (.ref f1))) (l1 : K.lookup f1 = some ⟨oc1, od1, .func (PySem.W.fnOf "endless_times" "endless_times" (defArgs s_endless_times) (defBody s_endless_times) (defScope s_endless_times) .none kV1 dc1 pm1 an1 cd1 ct1), sl1⟩) (q1 : PySem.W.codeIn K cd1 "endless_times" = true) (k1 : PySem.W.keepIn K (.ref f1) = true)
    {f2 : Addr} {od2 an2 : Option Addr} {sl2 : Array (Option Value)} {oc2 kV2 dc2 pm2 cd2 ct2 : Value}
    (a2 : PySem.W.nsIn K mainGlobals "endless_plus" = some (some (.ref f2))) (l2 : K.lookup f2 = some ⟨oc2, od2, .func (PySem.W.fnOf "endless_plus" "endless_plus" (defArgs s_endless_plus) (defBody s_endless_plus) (defScope s_endless_plus) .none kV2 dc2 pm2 an2 cd2 ct2), sl2⟩) (q2 : PySem.W.codeIn K cd2 "endless_plus" = true) (k2 : PySem.W.keepIn K (.ref f2) = true)
    {f3 : Addr} {od3 an3 : Option Addr} {sl3 : Array (Option Value)} {oc3 kV3 dc3 pm3 cd3 ct3 : Value}
    (a3 : PySem.W.nsIn K mainGlobals "width_place" = some (some (.ref f3))) (l3 : K.lookup f3 = some ⟨oc3, od3, .func (PySem.W.fnOf "width_place" "width_place" (defArgs s_width_place) (defBody s_width_place) (defScope s_width_place) .none kV3 dc3 pm3 an3 cd3 ct3), sl3⟩) (q3 : PySem.W.codeIn K cd3 "width_place" = true) (k3 : PySem.W.keepIn K (.ref f3) = true)
    {f4 : Addr} {od4 an4 : Option Addr} {sl4 : Array (Option Value)} {oc4 kV4 dc4 pm4 cd4 ct4 : Value}
    (a4 : PySem.W.nsIn K mainGlobals "rest_of_rooms" = some (some (.ref f4))) (l4 : K.lookup f4 = some ⟨oc4, od4, .func (PySem.W.fnOf "rest_of_rooms" "rest_of_rooms" (defArgs s_rest_of_rooms) (defBody s_rest_of_rooms) (defScope s_rest_of_rooms) .none kV4 dc4 pm4 an4 cd4 ct4), sl4⟩) (q4 : PySem.W.codeIn K cd4 "rest_of_rooms" = true) (k4 : PySem.W.keepIn K (.ref f4) = true)
    {f5 : Addr} {od5 an5 : Option Addr} {sl5 : Array (Option Value)} {oc5 kV5 dc5 pm5 cd5 ct5 : Value}
    (a5 : PySem.W.nsIn K mainGlobals "sums" = some (some (.ref f5))) (l5 : K.lookup f5 = some ⟨oc5, od5, .func (PySem.W.fnOf "sums" "sums" (defArgs s_sums) (defBody s_sums) (defScope s_sums) .none kV5 dc5 pm5 an5 cd5 ct5), sl5⟩) (q5 : PySem.W.codeIn K cd5 "sums" = true) (k5 : PySem.W.keepIn K (.ref f5) = true)
    {f6 : Addr} {od6 an6 : Option Addr} {sl6 : Array (Option Value)} {oc6 kV6 dc6 pm6 cd6 ct6 : Value}
    (a6 : PySem.W.nsIn K mainGlobals "kept" = some (some (.ref f6))) (l6 : K.lookup f6 = some ⟨oc6, od6, .func (PySem.W.fnOf "kept" "kept" (defArgs s_kept) (defBody s_kept) (defScope s_kept) .none kV6 dc6 pm6 an6 cd6 ct6), sl6⟩) (q6 : PySem.W.codeIn K cd6 "kept" = true) (k6 : PySem.W.keepIn K (.ref f6) = true)
    {f7 : Addr} {od7 an7 : Option Addr} {sl7 : Array (Option Value)} {oc7 kV7 dc7 pm7 cd7 ct7 : Value}
    (a7 : PySem.W.nsIn K mainGlobals "short" = some (some (.ref f7))) (l7 : K.lookup f7 = some ⟨oc7, od7, .func (PySem.W.fnOf "short" "short" (defArgs s_short) (defBody s_short) (defScope s_short) .none kV7 dc7 pm7 an7 cd7 ct7), sl7⟩) (q7 : PySem.W.codeIn K cd7 "short" = true) (k7 : PySem.W.keepIn K (.ref f7) = true)
    {f8 : Addr} {od8 an8 : Option Addr} {sl8 : Array (Option Value)} {oc8 kV8 dc8 pm8 cd8 ct8 : Value}
    (a8 : PySem.W.nsIn K mainGlobals "capped" = some (some (.ref f8))) (l8 : K.lookup f8 = some ⟨oc8, od8, .func (PySem.W.fnOf "capped" "capped" (defArgs s_capped) (defBody s_capped) (defScope s_capped) .none kV8 dc8 pm8 an8 cd8 ct8), sl8⟩) (q8 : PySem.W.codeIn K cd8 "capped" = true) (k8 : PySem.W.keepIn K (.ref f8) = true)
    {f9 : Addr} {od9 an9 : Option Addr} {sl9 : Array (Option Value)} {oc9 kV9 dc9 pm9 cd9 ct9 : Value}
    (a9 : PySem.W.nsIn K mainGlobals "greedy_web" = some (some (.ref f9))) (l9 : K.lookup f9 = some ⟨oc9, od9, .func (PySem.W.fnOf "greedy_web" "greedy_web" (defArgs s_greedy_web) (defBody s_greedy_web) (defScope s_greedy_web) .none kV9 dc9 pm9 an9 cd9 ct9), sl9⟩) (q9 : PySem.W.codeIn K cd9 "greedy_web" = true) (k9 : PySem.W.keepIn K (.ref f9) = true)
    {f10 : Addr} {od10 an10 : Option Addr} {sl10 : Array (Option Value)} {oc10 kV10 dc10 pm10 cd10 ct10 : Value}
    (a10 : PySem.W.nsIn K mainGlobals "half" = some (some (.ref f10))) (l10 : K.lookup f10 = some ⟨oc10, od10, .func (PySem.W.fnOf "half" "half" (defArgs s_half) (defBody s_half) (defScope s_half) .none kV10 dc10 pm10 an10 cd10 ct10), sl10⟩) (q10 : PySem.W.codeIn K cd10 "half" = true) (k10 : PySem.W.keepIn K (.ref f10) = true)
    {f11 : Addr} {od11 an11 : Option Addr} {sl11 : Array (Option Value)} {oc11 kV11 dc11 pm11 cd11 ct11 : Value}
    (a11 : PySem.W.nsIn K mainGlobals "_law_pool" = some (some (.ref f11))) (l11 : K.lookup f11 = some ⟨oc11, od11, .func (PySem.W.fnOf "_law_pool" "_law_pool" (defArgs s__law_pool) (defBody s__law_pool) (defScope s__law_pool) .none kV11 dc11 pm11 an11 cd11 ct11), sl11⟩) (q11 : PySem.W.codeIn K cd11 "_law_pool" = true) (k11 : PySem.W.keepIn K (.ref f11) = true)
    {f12 : Addr} {od12 an12 : Option Addr} {sl12 : Array (Option Value)} {oc12 kV12 dc12 pm12 cd12 ct12 : Value}
    (a12 : PySem.W.nsIn K mainGlobals "_law_mixed" = some (some (.ref f12))) (l12 : K.lookup f12 = some ⟨oc12, od12, .func (PySem.W.fnOf "_law_mixed" "_law_mixed" (defArgs s__law_mixed) (defBody s__law_mixed) (defScope s__law_mixed) .none kV12 dc12 pm12 an12 cd12 ct12), sl12⟩) (q12 : PySem.W.codeIn K cd12 "_law_mixed" = true) (k12 : PySem.W.keepIn K (.ref f12) = true)
    {f13 : Addr} {od13 an13 : Option Addr} {sl13 : Array (Option Value)} {oc13 kV13 dc13 pm13 cd13 ct13 : Value}
    (a13 : PySem.W.nsIn K mainGlobals "_law_draw" = some (some (.ref f13))) (l13 : K.lookup f13 = some ⟨oc13, od13, .func (PySem.W.fnOf "_law_draw" "_law_draw" (defArgs s__law_draw) (defBody s__law_draw) (defScope s__law_draw) .none kV13 dc13 pm13 an13 cd13 ct13), sl13⟩) (q13 : PySem.W.codeIn K cd13 "_law_draw" = true) (k13 : PySem.W.keepIn K (.ref f13) = true)
    {f14 : Addr} {od14 an14 : Option Addr} {sl14 : Array (Option Value)} {oc14 kV14 dc14 pm14 cd14 ct14 : Value}
    (a14 : PySem.W.nsIn K mainGlobals "_law_pick" = some (some (.ref f14))) (l14 : K.lookup f14 = some ⟨oc14, od14, .func (PySem.W.fnOf "_law_pick" "_law_pick" (defArgs s__law_pick) (defBody s__law_pick) (defScope s__law_pick) .none kV14 dc14 pm14 an14 cd14 ct14), sl14⟩) (q14 : PySem.W.codeIn K cd14 "_law_pick" = true) (k14 : PySem.W.keepIn K (.ref f14) = true)
    {f15 : Addr} {od15 an15 : Option Addr} {sl15 : Array (Option Value)} {oc15 kV15 dc15 pm15 cd15 ct15 : Value}
    (a15 : PySem.W.nsIn K mainGlobals "_law_left" = some (some (.ref f15))) (l15 : K.lookup f15 = some ⟨oc15, od15, .func (PySem.W.fnOf "_law_left" "_law_left" (defArgs s__law_left) (defBody s__law_left) (defScope s__law_left) .none kV15 dc15 pm15 an15 cd15 ct15), sl15⟩) (q15 : PySem.W.codeIn K cd15 "_law_left" = true) (k15 : PySem.W.keepIn K (.ref f15) = true)
    {f16 : Addr} {od16 an16 : Option Addr} {sl16 : Array (Option Value)} {oc16 kV16 dc16 pm16 cd16 ct16 : Value}
    (a16 : PySem.W.nsIn K mainGlobals "_law_wider" = some (some (.ref f16))) (l16 : K.lookup f16 = some ⟨oc16, od16, .func (PySem.W.fnOf "_law_wider" "_law_wider" (defArgs s__law_wider) (defBody s__law_wider) (defScope s__law_wider) .none kV16 dc16 pm16 an16 cd16 ct16), sl16⟩) (q16 : PySem.W.codeIn K cd16 "_law_wider" = true) (k16 : PySem.W.keepIn K (.ref f16) = true)
    {f17 : Addr} {od17 an17 : Option Addr} {sl17 : Array (Option Value)} {oc17 kV17 dc17 pm17 cd17 ct17 : Value}
    (a17 : PySem.W.nsIn K mainGlobals "_law_right" = some (some (.ref f17))) (l17 : K.lookup f17 = some ⟨oc17, od17, .func (PySem.W.fnOf "_law_right" "_law_right" (defArgs s__law_right) (defBody s__law_right) (defScope s__law_right) .none kV17 dc17 pm17 an17 cd17 ct17), sl17⟩) (q17 : PySem.W.codeIn K cd17 "_law_right" = true) (k17 : PySem.W.keepIn K (.ref f17) = true)
    {f18 : Addr} {od18 an18 : Option Addr} {sl18 : Array (Option Value)} {oc18 kV18 dc18 pm18 cd18 ct18 : Value}
    (a18 : PySem.W.nsIn K mainGlobals "_law_kept" = some (some (.ref f18))) (l18 : K.lookup f18 = some ⟨oc18, od18, .func (PySem.W.fnOf "_law_kept" "_law_kept" (defArgs s__law_kept) (defBody s__law_kept) (defScope s__law_kept) .none kV18 dc18 pm18 an18 cd18 ct18), sl18⟩) (q18 : PySem.W.codeIn K cd18 "_law_kept" = true) (k18 : PySem.W.keepIn K (.ref f18) = true)
    {f19 : Addr} {od19 an19 : Option Addr} {sl19 : Array (Option Value)} {oc19 kV19 dc19 pm19 cd19 ct19 : Value}
    (a19 : PySem.W.nsIn K mainGlobals "_law_short" = some (some (.ref f19))) (l19 : K.lookup f19 = some ⟨oc19, od19, .func (PySem.W.fnOf "_law_short" "_law_short" (defArgs s__law_short) (defBody s__law_short) (defScope s__law_short) .none kV19 dc19 pm19 an19 cd19 ct19), sl19⟩) (q19 : PySem.W.codeIn K cd19 "_law_short" = true) (k19 : PySem.W.keepIn K (.ref f19) = true)
    {f20 : Addr} {od20 an20 : Option Addr} {sl20 : Array (Option Value)} {oc20 kV20 dc20 pm20 cd20 ct20 : Value}
    (a20 : PySem.W.nsIn K mainGlobals "_law_columns" = some (some (.ref f20))) (l20 : K.lookup f20 = some ⟨oc20, od20, .func (PySem.W.fnOf "_law_columns" "_law_columns" (defArgs s__law_columns) (defBody s__law_columns) (defScope s__law_columns) .none kV20 dc20 pm20 an20 cd20 ct20), sl20⟩) (q20 : PySem.W.codeIn K cd20 "_law_columns" = true) (k20 : PySem.W.keepIn K (.ref f20) = true)
    {f21 : Addr} {od21 an21 : Option Addr} {sl21 : Array (Option Value)} {oc21 kV21 dc21 pm21 cd21 ct21 : Value}
    (a21 : PySem.W.nsIn K mainGlobals "_law_sides" = some (some (.ref f21))) (l21 : K.lookup f21 = some ⟨oc21, od21, .func (PySem.W.fnOf "_law_sides" "_law_sides" (defArgs s__law_sides) (defBody s__law_sides) (defScope s__law_sides) .none kV21 dc21 pm21 an21 cd21 ct21), sl21⟩) (q21 : PySem.W.codeIn K cd21 "_law_sides" = true) (k21 : PySem.W.keepIn K (.ref f21) = true)
    {f22 : Addr} {od22 an22 : Option Addr} {sl22 : Array (Option Value)} {oc22 kV22 dc22 pm22 cd22 ct22 : Value}
    (a22 : PySem.W.nsIn K mainGlobals "_law_judged" = some (some (.ref f22))) (l22 : K.lookup f22 = some ⟨oc22, od22, .func (PySem.W.fnOf "_law_judged" "_law_judged" (defArgs s__law_judged) (defBody s__law_judged) (defScope s__law_judged) .none kV22 dc22 pm22 an22 cd22 ct22), sl22⟩) (q22 : PySem.W.codeIn K cd22 "_law_judged" = true) (k22 : PySem.W.keepIn K (.ref f22) = true)
    {f23 : Addr} {od23 an23 : Option Addr} {sl23 : Array (Option Value)} {oc23 kV23 dc23 pm23 cd23 ct23 : Value}
    (a23 : PySem.W.nsIn K mainGlobals "_law_grouped" = some (some (.ref f23))) (l23 : K.lookup f23 = some ⟨oc23, od23, .func (PySem.W.fnOf "_law_grouped" "_law_grouped" (defArgs s__law_grouped) (defBody s__law_grouped) (defScope s__law_grouped) .none kV23 dc23 pm23 an23 cd23 ct23), sl23⟩) (q23 : PySem.W.codeIn K cd23 "_law_grouped" = true) (k23 : PySem.W.keepIn K (.ref f23) = true)
    {f24 : Addr} {od24 an24 : Option Addr} {sl24 : Array (Option Value)} {oc24 kV24 dc24 pm24 cd24 ct24 : Value}
    (a24 : PySem.W.nsIn K mainGlobals "_law_summed" = some (some (.ref f24))) (l24 : K.lookup f24 = some ⟨oc24, od24, .func (PySem.W.fnOf "_law_summed" "_law_summed" (defArgs s__law_summed) (defBody s__law_summed) (defScope s__law_summed) .none kV24 dc24 pm24 an24 cd24 ct24), sl24⟩) (q24 : PySem.W.codeIn K cd24 "_law_summed" = true) (k24 : PySem.W.keepIn K (.ref f24) = true)
    {f25 : Addr} {od25 an25 : Option Addr} {sl25 : Array (Option Value)} {oc25 kV25 dc25 pm25 cd25 ct25 : Value}
    (a25 : PySem.W.nsIn K mainGlobals "_law_fault" = some (some (.ref f25))) (l25 : K.lookup f25 = some ⟨oc25, od25, .func (PySem.W.fnOf "_law_fault" "_law_fault" (defArgs s__law_fault) (defBody s__law_fault) (defScope s__law_fault) .none kV25 dc25 pm25 an25 cd25 ct25), sl25⟩) (q25 : PySem.W.codeIn K cd25 "_law_fault" = true) (k25 : PySem.W.keepIn K (.ref f25) = true)
    {f26 : Addr} {od26 an26 : Option Addr} {sl26 : Array (Option Value)} {oc26 kV26 dc26 pm26 cd26 ct26 : Value}
    (a26 : PySem.W.nsIn K mainGlobals "law" = some (some (.ref f26))) (l26 : K.lookup f26 = some ⟨oc26, od26, .func (PySem.W.fnOf "law" "law" (defArgs s_law) (defBody s_law) (defScope s_law) .none kV26 dc26 pm26 an26 cd26 ct26), sl26⟩) (q26 : PySem.W.codeIn K cd26 "law" = true) (k26 : PySem.W.keepIn K (.ref f26) = true)
    {tk0 : Tok} (v0 : PySem.W.nsIn K mainGlobals "ROW_MOST" = some (some (.int 60 tk0)))
    (z0 : PySem.W.nsIn K mainGlobals "sorted" = some none)
    (z1 : PySem.W.nsIn K mainGlobals "min" = some none)
    (z2 : PySem.W.nsIn K mainGlobals "max" = some none)
    (z3 : PySem.W.nsIn K mainGlobals "range" = some none)
    (z4 : PySem.W.nsIn K mainGlobals "len" = some none)
    (z5 : PySem.W.nsIn K mainGlobals "tuple" = some none)
    (z6 : PySem.W.nsIn K mainGlobals "list" = some none)
    (z7 : PySem.W.nsIn K mainGlobals "int" = some none)
    (z8 : PySem.W.nsIn K mainGlobals "isinstance" = some none)
    (z9 : PySem.W.nsIn K mainGlobals "any" = some none)
    (z10 : PySem.W.nsIn K mainGlobals "bool" = some none)
    (z11 : PySem.W.nsIn K mainGlobals "all" = some none)
    {jf0 : Addr} {jd0 ja0 : Option Addr} {jsl0 : Array (Option Value)} {jc0 jV0 jdc0 jpm0 jcd0 jct0 : Value}
    {C0 : Addr} (xa0 : PySem.W.nsIn K mainGlobals "Refused" = some (some (.ref C0))) (xb0 : TLE.excE K C0 = true) (xc0 : PySem.W.findIn K (.ref C0) "__setattr__" = some (some (.builtin "object.__setattr__"))) (xd0 : PySem.W.subIn K (.ref C0) (.type "BaseException") = some true) (xe0 : PySem.W.typeIn K (.ref C0) = some (.type "type")) (xf0 : PySem.W.keepIn K (.ref C0) = true) (xg0 : PySem.W.findIn K (.ref C0) "why" = some none) (xh0 : PySem.W.findIn K (.ref C0) "__init__" = some (some (.ref jf0)))
    {C1 : Addr} (xa1 : PySem.W.nsIn K mainGlobals "TooMany" = some (some (.ref C1))) (xb1 : TLE.excE K C1 = true) (xc1 : PySem.W.findIn K (.ref C1) "__setattr__" = some (some (.builtin "object.__setattr__"))) (xd1 : PySem.W.subIn K (.ref C1) (.type "BaseException") = some true) (xe1 : PySem.W.typeIn K (.ref C1) = some (.type "type")) (xf1 : PySem.W.keepIn K (.ref C1) = true) (xg1 : PySem.W.findIn K (.ref C1) "why" = some none) (xh1 : PySem.W.findIn K (.ref C1) "__init__" = some (some (.ref jf0)))
    (ya0 : PySem.W.typeIn K (.ref jf0) = some (.type "function")) (yb0 : K.lookup jf0 = some ⟨jc0, jd0, .func (PySem.W.fnOf "__init__" "Refused.__init__" (defArgs s_init_Refused) (defBody s_init_Refused) (defScope s_init_Refused) .none jV0 jdc0 jpm0 ja0 jcd0 jct0), jsl0⟩) (yc0 : PySem.W.codeIn K jcd0 "Refused.__init__" = true) (yd0 : PySem.W.keepIn K (.ref jf0) = true) (t0_0 : PySem.W.exmOne K (.ref C0) (.ref C0) = some true) (t0_1 : PySem.W.exmOne K (.ref C0) (.ref C1) = some false) (t1_0 : PySem.W.exmOne K (.ref C1) (.ref C0) = some true) (t1_1 : PySem.W.exmOne K (.ref C1) (.ref C1) = some true) :
    ∃ fd : FuncData, (∀ (s : Shared) (v : Value), BindsTo s fd ⟨[v], []⟩ [("script", v)]) ∧ ∀ base : Heap, K.In base → base.Ns mainGlobals mg → FnOk P w K mg base (L2.CX P w) 6 fa fd ["script"] (spOf K ca (.one (tF tI)) tB (fun u => nox (m_law u))) := by
  have e := hfa.symm.trans (PySem.W.mg_of X G a26)
  cases e
  have T0 : TopFn K mg "row_bound" s_row_bound ["many"] f0 _ := ⟨fun_mk (st := s_row_bound) l0 q0 k0, PySem.W.mg_of X G a0, (fun_mk (st := s_row_bound) l0 q0 k0).binds (ps := ["many"]) fun _ _ _ _ _ _ us hl => match us, hl with | [_], _ => rfl⟩
  have T1 : TopFn K mg "endless_times" s_endless_times ["many", "number"] f1 _ := ⟨fun_mk (st := s_endless_times) l1 q1 k1, PySem.W.mg_of X G a1, (fun_mk (st := s_endless_times) l1 q1 k1).binds (ps := ["many", "number"]) fun _ _ _ _ _ _ us hl => match us, hl with | [_, _], _ => rfl⟩
  have T2 : TopFn K mg "endless_plus" s_endless_plus ["one", "other"] f2 _ := ⟨fun_mk (st := s_endless_plus) l2 q2 k2, PySem.W.mg_of X G a2, (fun_mk (st := s_endless_plus) l2 q2 k2).binds (ps := ["one", "other"]) fun _ _ _ _ _ _ us hl => match us, hl with | [_, _], _ => rfl⟩
  have T3 : TopFn K mg "width_place" s_width_place ["one"] f3 _ := ⟨fun_mk (st := s_width_place) l3 q3 k3, PySem.W.mg_of X G a3, (fun_mk (st := s_width_place) l3 q3 k3).binds (ps := ["one"]) fun _ _ _ _ _ _ us hl => match us, hl with | [_], _ => rfl⟩
  have T4 : TopFn K mg "rest_of_rooms" s_rest_of_rooms ["rooms", "t"] f4 _ := ⟨fun_mk (st := s_rest_of_rooms) l4 q4 k4, PySem.W.mg_of X G a4, (fun_mk (st := s_rest_of_rooms) l4 q4 k4).binds (ps := ["rooms", "t"]) fun _ _ _ _ _ _ us hl => match us, hl with | [_, _], _ => rfl⟩
  have T5 : TopFn K mg "sums" s_sums ["needs", "rooms", "t"] f5 _ := ⟨fun_mk (st := s_sums) l5 q5 k5, PySem.W.mg_of X G a5, (fun_mk (st := s_sums) l5 q5 k5).binds (ps := ["needs", "rooms", "t"]) fun _ _ _ _ _ _ us hl => match us, hl with | [_, _, _], _ => rfl⟩
  have T6 : TopFn K mg "kept" s_kept ["left", "right"] f6 _ := ⟨fun_mk (st := s_kept) l6 q6 k6, PySem.W.mg_of X G a6, (fun_mk (st := s_kept) l6 q6 k6).binds (ps := ["left", "right"]) fun _ _ _ _ _ _ us hl => match us, hl with | [_, _], _ => rfl⟩
  have T7 : TopFn K mg "short" s_short ["needs", "rooms"] f7 _ := ⟨fun_mk (st := s_short) l7 q7 k7, PySem.W.mg_of X G a7, (fun_mk (st := s_short) l7 q7 k7).binds (ps := ["needs", "rooms"]) fun _ _ _ _ _ _ us hl => match us, hl with | [_, _], _ => rfl⟩
  have T8 : TopFn K mg "capped" s_capped ["room", "most"] f8 _ := ⟨fun_mk (st := s_capped) l8 q8 k8, PySem.W.mg_of X G a8, (fun_mk (st := s_capped) l8 q8 k8).binds (ps := ["room", "most"]) fun _ _ _ _ _ _ us hl => match us, hl with | [_, _], _ => rfl⟩
  have T9 : TopFn K mg "greedy_web" s_greedy_web ["limits", "rooms"] f9 _ := ⟨fun_mk (st := s_greedy_web) l9 q9 k9, PySem.W.mg_of X G a9, (fun_mk (st := s_greedy_web) l9 q9 k9).binds (ps := ["limits", "rooms"]) fun _ _ _ _ _ _ us hl => match us, hl with | [_, _], _ => rfl⟩
  have T10 : TopFn K mg "half" s_half ["needs", "rooms"] f10 _ := ⟨fun_mk (st := s_half) l10 q10 k10, PySem.W.mg_of X G a10, (fun_mk (st := s_half) l10 q10 k10).binds (ps := ["needs", "rooms"]) fun _ _ _ _ _ _ us hl => match us, hl with | [_, _], _ => rfl⟩
  have T11 : TopFn K mg "_law_pool" s__law_pool ["script"] f11 _ := ⟨fun_mk (st := s__law_pool) l11 q11 k11, PySem.W.mg_of X G a11, (fun_mk (st := s__law_pool) l11 q11 k11).binds (ps := ["script"]) fun _ _ _ _ _ _ us hl => match us, hl with | [_], _ => rfl⟩
  have T12 : TopFn K mg "_law_mixed" s__law_mixed ["number", "place"] f12 _ := ⟨fun_mk (st := s__law_mixed) l12 q12 k12, PySem.W.mg_of X G a12, (fun_mk (st := s__law_mixed) l12 q12 k12).binds (ps := ["number", "place"]) fun _ _ _ _ _ _ us hl => match us, hl with | [_, _], _ => rfl⟩
  have T13 : TopFn K mg "_law_draw" s__law_draw ["pool", "base"] f13 _ := ⟨fun_mk (st := s__law_draw) l13 q13 k13, PySem.W.mg_of X G a13, (fun_mk (st := s__law_draw) l13 q13 k13).binds (ps := ["pool", "base"]) fun _ _ _ _ _ _ us hl => match us, hl with | [_, _], _ => rfl⟩
  have T14 : TopFn K mg "_law_pick" s__law_pick ["pool", "row"] f14 _ := ⟨fun_mk (st := s__law_pick) l14 q14 k14, PySem.W.mg_of X G a14, (fun_mk (st := s__law_pick) l14 q14 k14).binds (ps := ["pool", "row"]) fun _ _ _ _ _ _ us hl => match us, hl with | [_, _], _ => rfl⟩
  have T15 : TopFn K mg "_law_left" s__law_left ["needs", "t"] f15 _ := ⟨fun_mk (st := s__law_left) l15 q15 k15, PySem.W.mg_of X G a15, (fun_mk (st := s__law_left) l15 q15 k15).binds (ps := ["needs", "t"]) fun _ _ _ _ _ _ us hl => match us, hl with | [_, _], _ => rfl⟩
  have T16 : TopFn K mg "_law_wider" s__law_wider ["one", "two"] f16 _ := ⟨fun_mk (st := s__law_wider) l16 q16 k16, PySem.W.mg_of X G a16, (fun_mk (st := s__law_wider) l16 q16 k16).binds (ps := ["one", "two"]) fun _ _ _ _ _ _ us hl => match us, hl with | [_, _], _ => rfl⟩
  have T17 : TopFn K mg "_law_right" s__law_right ["rooms", "t"] f17 _ := ⟨fun_mk (st := s__law_right) l17 q17 k17, PySem.W.mg_of X G a17, (fun_mk (st := s__law_right) l17 q17 k17).binds (ps := ["rooms", "t"]) fun _ _ _ _ _ _ us hl => match us, hl with | [_, _], _ => rfl⟩
  have T18 : TopFn K mg "_law_kept" s__law_kept ["needs", "rooms", "t"] f18 _ := ⟨fun_mk (st := s__law_kept) l18 q18 k18, PySem.W.mg_of X G a18, (fun_mk (st := s__law_kept) l18 q18 k18).binds (ps := ["needs", "rooms", "t"]) fun _ _ _ _ _ _ us hl => match us, hl with | [_, _, _], _ => rfl⟩
  have T19 : TopFn K mg "_law_short" s__law_short ["needs", "rooms"] f19 _ := ⟨fun_mk (st := s__law_short) l19 q19 k19, PySem.W.mg_of X G a19, (fun_mk (st := s__law_short) l19 q19 k19).binds (ps := ["needs", "rooms"]) fun _ _ _ _ _ _ us hl => match us, hl with | [_, _], _ => rfl⟩
  have T20 : TopFn K mg "_law_columns" s__law_columns ["web", "width"] f20 _ := ⟨fun_mk (st := s__law_columns) l20 q20 k20, PySem.W.mg_of X G a20, (fun_mk (st := s__law_columns) l20 q20 k20).binds (ps := ["web", "width"]) fun _ _ _ _ _ _ us hl => match us, hl with | [_, _], _ => rfl⟩
  have T21 : TopFn K mg "_law_sides" s__law_sides ["pool"] f21 _ := ⟨fun_mk (st := s__law_sides) l21 q21 k21, PySem.W.mg_of X G a21, (fun_mk (st := s__law_sides) l21 q21 k21).binds (ps := ["pool"]) fun _ _ _ _ _ _ us hl => match us, hl with | [_], _ => rfl⟩
  have T22 : TopFn K mg "_law_judged" s__law_judged ["web", "needs", "rooms"] f22 _ := ⟨fun_mk (st := s__law_judged) l22 q22 k22, PySem.W.mg_of X G a22, (fun_mk (st := s__law_judged) l22 q22 k22).binds (ps := ["web", "needs", "rooms"]) fun _ _ _ _ _ _ us hl => match us, hl with | [_, _, _], _ => rfl⟩
  have T23 : TopFn K mg "_law_grouped" s__law_grouped ["numbers", "place"] f23 _ := ⟨fun_mk (st := s__law_grouped) l23 q23 k23, PySem.W.mg_of X G a23, (fun_mk (st := s__law_grouped) l23 q23 k23).binds (ps := ["numbers", "place"]) fun _ _ _ _ _ _ us hl => match us, hl with | [_, _], _ => rfl⟩
  have T24 : TopFn K mg "_law_summed" s__law_summed ["needs", "rooms", "top"] f24 _ := ⟨fun_mk (st := s__law_summed) l24 q24 k24, PySem.W.mg_of X G a24, (fun_mk (st := s__law_summed) l24 q24 k24).binds (ps := ["needs", "rooms", "top"]) fun _ _ _ _ _ _ us hl => match us, hl with | [_, _, _], _ => rfl⟩
  have T25 : TopFn K mg "_law_fault" s__law_fault ["needs", "rooms"] f25 _ := ⟨fun_mk (st := s__law_fault) l25 q25 k25, PySem.W.mg_of X G a25, (fun_mk (st := s__law_fault) l25 q25 k25).binds (ps := ["needs", "rooms"]) fun _ _ _ _ _ _ us hl => match us, hl with | [_, _], _ => rfl⟩
  have T26 : TopFn K mg "law" s_law ["script"] fa _ := ⟨fun_mk (st := s_law) l26 q26 k26, PySem.W.mg_of X G a26, (fun_mk (st := s_law) l26 q26 k26).binds (ps := ["script"]) fun _ _ _ _ _ _ us hl => match us, hl with | [_], _ => rfl⟩
  have n_sorted : mg "sorted" = none := PySem.W.mg_none_of X G z0
  have n_min : mg "min" = none := PySem.W.mg_none_of X G z1
  have n_max : mg "max" = none := PySem.W.mg_none_of X G z2
  have n_range : mg "range" = none := PySem.W.mg_none_of X G z3
  have n_len : mg "len" = none := PySem.W.mg_none_of X G z4
  have n_tuple : mg "tuple" = none := PySem.W.mg_none_of X G z5
  have n_list : mg "list" = none := PySem.W.mg_none_of X G z6
  have n_int : mg "int" = none := PySem.W.mg_none_of X G z7
  have n_isinstance : mg "isinstance" = none := PySem.W.mg_none_of X G z8
  have n_any : mg "any" = none := PySem.W.mg_none_of X G z9
  have n_bool : mg "bool" = none := PySem.W.mg_none_of X G z10
  have n_all : mg "all" = none := PySem.W.mg_none_of X G z11
  have c_ROW_MOST : mg "ROW_MOST" = some (.int 60 tk0) := PySem.W.mg_of X G v0
  refine ⟨PySem.W.fnOf "law" "law" (defArgs s_law) (defBody s_law) (defScope s_law) .none kV26 dc26 pm26 an26 cd26 ct26, fun s v => .of_eq rfl, fun base _ _ => ?_⟩
  have J0 : Fun K "__init__" "Refused.__init__" s_init_Refused jf0 _ := fun_mk (st := s_init_Refused) yb0 yc0 yd0
  have W0 := fn_why (P := P) (w := w) (K := K) (mg := mg) (base := base) (y := "why") J0 sc_init_Refused rfl (vb rfl) (vb rfl)
  have B0 : Binds K _ ["self", "why"] [] := J0.binds (ps := ["self", "why"]) fun _ _ _ _ _ _ us hl => match us, hl with | [_, _], _ => rfl
  have X_Refused : ExcN P w K mg base (fun c => ([C0, C1] : List Addr).getD c 0) 0 "Refused" := ⟨PySem.W.mg_of X G xa0, ⟨xb0, xc0, xd0, xe0, xf0⟩, "why", jf0, _, W0, xg0, xh0, ya0, B0⟩
  have X_TooMany : ExcN P w K mg base (fun c => ([C0, C1] : List Addr).getD c 0) 1 "TooMany" := ⟨PySem.W.mg_of X G xa1, ⟨xb1, xc1, xd1, xe1, xf1⟩, "why", jf0, _, W0, xg1, xh1, ya0, B0⟩
  have t_exc : ExcTab K (fun c => ([C0, C1] : List Addr).getD c 0) 2 subT := ⟨fun c k hc hk => by
    rcases c with _ | _ | q <;> rcases k with _ | _ | q <;> first | exact t0_0 | exact t0_1 | exact t1_0 | exact t1_1 | omega⟩
  have e_row_bound := f_row_bound (P := P) (w := w) (base := base) (ca := (fun c => ([C0, C1] : List Addr).getD c 0)) T0 c_ROW_MOST ⟨_, rfl⟩ X_TooMany
  have e_endless_times := f_endless_times (P := P) (w := w) (base := base) (ca := (fun c => ([C0, C1] : List Addr).getD c 0)) T1
  have e_endless_plus := f_endless_plus (P := P) (w := w) (base := base) (ca := (fun c => ([C0, C1] : List Addr).getD c 0)) T2
  have e_width_place := f_width_place (P := P) (w := w) (base := base) (ca := (fun c => ([C0, C1] : List Addr).getD c 0)) T3
  have e_rest_of_rooms := f_rest_of_rooms (P := P) (w := w) (base := base) (ca := (fun c => ([C0, C1] : List Addr).getD c 0)) T4 n_sorted n_min e_endless_times e_endless_plus e_width_place
  have e_rest_of_roomsT := f_rest_of_roomsT (P := P) (w := w) (base := base) (ca := (fun c => ([C0, C1] : List Addr).getD c 0)) T4 n_sorted n_min e_endless_times e_endless_plus e_width_place
  have e_sums := f_sums (P := P) (w := w) (base := base) (ca := (fun c => ([C0, C1] : List Addr).getD c 0)) T5 n_max e_endless_times e_endless_plus e_rest_of_rooms
  have e_sumsT := f_sumsT (P := P) (w := w) (base := base) (ca := (fun c => ([C0, C1] : List Addr).getD c 0)) T5 n_max e_endless_times e_endless_plus e_rest_of_roomsT
  have e_kept := f_kept (P := P) (w := w) (base := base) (ca := (fun c => ([C0, C1] : List Addr).getD c 0)) T6
  have e_short := f_short (P := P) (w := w) (base := base) (ca := (fun c => ([C0, C1] : List Addr).getD c 0)) T7 n_range n_max e_sums e_kept
  have e_shortT := f_shortT (P := P) (w := w) (base := base) (ca := (fun c => ([C0, C1] : List Addr).getD c 0)) T7 n_range n_max e_sumsT e_kept
  have e_capped := f_capped (P := P) (w := w) (base := base) (ca := (fun c => ([C0, C1] : List Addr).getD c 0)) T8 n_min
  have e_greedy_web := f_greedy_web (P := P) (w := w) (base := base) (ca := (fun c => ([C0, C1] : List Addr).getD c 0)) T9 n_len n_range n_sorted n_tuple e_capped
  have e_half := f_half (P := P) (w := w) (base := base) (ca := (fun c => ([C0, C1] : List Addr).getD c 0)) T10 n_len n_range e_row_bound e_greedy_web
  have e_greedy_webT := f_greedy_webT (P := P) (w := w) (base := base) (ca := (fun c => ([C0, C1] : List Addr).getD c 0)) T9 n_len n_range n_sorted n_tuple e_capped
  have e_halfT := f_halfT (P := P) (w := w) (base := base) (ca := (fun c => ([C0, C1] : List Addr).getD c 0)) T10 n_len n_range e_row_bound e_greedy_webT
  have e__law_pool := f__law_pool (P := P) (w := w) (base := base) (ca := (fun c => ([C0, C1] : List Addr).getD c 0)) T11 n_list
  have e__law_mixed := f__law_mixed (P := P) (w := w) (base := base) (ca := (fun c => ([C0, C1] : List Addr).getD c 0)) T12 n_int
  have e__law_draw := f__law_draw (P := P) (w := w) (base := base) (ca := (fun c => ([C0, C1] : List Addr).getD c 0)) T13 n_int n_len e__law_mixed
  have e__law_pick := f__law_pick (P := P) (w := w) (base := base) (ca := (fun c => ([C0, C1] : List Addr).getD c 0)) T14 n_len e__law_draw
  have e__law_left := f__law_left (P := P) (w := w) (base := base) (ca := (fun c => ([C0, C1] : List Addr).getD c 0)) T15
  have e__law_wider := f__law_wider (P := P) (w := w) (base := base) (ca := (fun c => ([C0, C1] : List Addr).getD c 0)) T16
  have e__law_right := f__law_right (P := P) (w := w) (base := base) (ca := (fun c => ([C0, C1] : List Addr).getD c 0)) T17 n_range n_len n_min e__law_wider
  have e__law_kept := f__law_kept (P := P) (w := w) (base := base) (ca := (fun c => ([C0, C1] : List Addr).getD c 0)) T18 e__law_right e__law_left
  have e__law_short := f__law_short (P := P) (w := w) (base := base) (ca := (fun c => ([C0, C1] : List Addr).getD c 0)) T19 n_max n_range e__law_kept
  have e__law_columns := f__law_columns (P := P) (w := w) (base := base) (ca := (fun c => ([C0, C1] : List Addr).getD c 0)) T20 n_range n_len
  have e__law_columnsT := f__law_columnsT (P := P) (w := w) (base := base) (ca := (fun c => ([C0, C1] : List Addr).getD c 0)) T20 n_range n_len
  have e__law_sides := f__law_sides (P := P) (w := w) (base := base) (ca := (fun c => ([C0, C1] : List Addr).getD c 0)) T21 n_range n_int n_len n_max e__law_draw e__law_pick e__law_columns
  have e__law_judged := f__law_judged (P := P) (w := w) (base := base) (ca := (fun c => ([C0, C1] : List Addr).getD c 0)) T22 n_isinstance n_tuple n_len n_range n_list n_any n_bool n_all e__law_columnsT
  have e__law_grouped := f__law_grouped (P := P) (w := w) (base := base) (ca := (fun c => ([C0, C1] : List Addr).getD c 0)) T23 n_len
  have e__law_summed := f__law_summed (P := P) (w := w) (base := base) (ca := (fun c => ([C0, C1] : List Addr).getD c 0)) T24 n_range n_isinstance n_tuple n_len e__law_left e__law_right e_sums e_kept e__law_kept
  have e__law_fault := f__law_fault (P := P) (w := w) (base := base) (ca := (fun c => ([C0, C1] : List Addr).getD c 0)) T25 e_half t_exc X_Refused.hm X_TooMany.hm
  exact (g_law (ca := (fun c => ([C0, C1] : List Addr).getD c 0)) T26 n_list n_tuple n_isinstance n_bool n_max n_range e__law_pool e__law_sides e__law_short e_half e__law_judged e_shortT e__law_grouped e_short e__law_summed e_halfT e__law_fault).imp spOf_nox
end
end T16
open PySem PySem.W PyProof.Rows
set_option maxHeartbeats 0 in
theorem PySem.Challenge.cw_somanyties_k16_one_side_holds : PySem.Challenge.rw_somanyties_k16_one_side.Holds := by
  w_on; o_law; k_head; (case hw => w_witness2)
  k_fill
  refine L2.walk_of (l := PySem.Challenge.rw_somanyties_k16_one_side) (n := 63) (k := 6) (x := "script") (CX := fun w => L2.CX PySem.Challenge.pw_somanyties_k16_one_side w) (sp := fun w => TL.spOf _ (fun _ => 0) (.one (TL.tF TL.tI)) TL.tB (fun u => TL.nox (T16.m_law u))) rfl (by decide) rfl ⟨rfl, by decide, by decide⟩ (fun w h Y => PySem.W.kIn_of Y) ?F (fun _ _ a ns hl _ hS => TL.law_sp (by decide) hl hS (by rw [T16.law_true ns hl]; rfl)) (fun _ _ _ _ _ h => by
    obtain ⟨_, _, _, _, _, _, _, _, _, _, _, _, bad⟩ := h
    exact bad)
  case F =>
    intro w mg fa h KX G hmg
    refine' T16.all_mk (fun _ => 0) KX G hmg ?a0 ?l0 ?q0 ?k0 ?a1 ?l1 ?q1 ?k1 ?a2 ?l2 ?q2 ?k2 ?a3 ?l3 ?q3 ?k3 ?a4 ?l4 ?q4 ?k4 ?a5 ?l5 ?q5 ?k5 ?a6 ?l6 ?q6 ?k6 ?a7 ?l7 ?q7 ?k7 ?a8 ?l8 ?q8 ?k8 ?a9 ?l9 ?q9 ?k9 ?a10 ?l10 ?q10 ?k10 ?a11 ?l11 ?q11 ?k11 ?a12 ?l12 ?q12 ?k12 ?a13 ?l13 ?q13 ?k13 ?a14 ?l14 ?q14 ?k14 ?a15 ?l15 ?q15 ?k15 ?a16 ?l16 ?q16 ?k16 ?a17 ?l17 ?q17 ?k17 ?a18 ?l18 ?q18 ?k18 ?a19 ?l19 ?q19 ?k19 ?a20 ?l20 ?q20 ?k20 ?a21 ?l21 ?q21 ?k21 ?a22 ?l22 ?q22 ?k22 ?a23 ?l23 ?q23 ?k23 ?a24 ?l24 ?q24 ?k24 ?a25 ?l25 ?q25 ?k25 ?a26 ?l26 ?q26 ?k26 ?v0 ?z0 ?z1 ?z2 ?z3 ?z4 ?z5 ?z6 ?z7 ?z8 ?z9 ?z10 ?z11 ?xa0 ?xb0 ?xc0 ?xd0 ?xe0 ?xf0 ?xg0 ?xh0 ?xa1 ?xb1 ?xc1 ?xd1 ?xe1 ?xf1 ?xg1 ?xh1 ?ya0 ?yb0 ?yc0 ?yd0 ?t0_0 ?t0_1 ?t1_0 ?t1_1
    (case a0 => first | k_is | kernel_rfl | rfl); (case l0 => first | k_is | kernel_rfl | rfl); (case q0 => first | k_is | kernel_rfl | rfl); (case k0 => first | k_is | kernel_rfl | rfl); (case a1 => first | k_is | kernel_rfl | rfl); (case l1 => first | k_is | kernel_rfl | rfl); (case q1 => first | k_is | kernel_rfl | rfl); (case k1 => first | k_is | kernel_rfl | rfl); (case a2 => first | k_is | kernel_rfl | rfl); (case l2 => first | k_is | kernel_rfl | rfl); (case q2 => first | k_is | kernel_rfl | rfl); (case k2 => first | k_is | kernel_rfl | rfl); (case a3 => first | k_is | kernel_rfl | rfl); (case l3 => first | k_is | kernel_rfl | rfl); (case q3 => first | k_is | kernel_rfl | rfl); (case k3 => first | k_is | kernel_rfl | rfl); (case a4 => first | k_is | kernel_rfl | rfl); (case l4 => first | k_is | kernel_rfl | rfl); (case q4 => first | k_is | kernel_rfl | rfl); (case k4 => first | k_is | kernel_rfl | rfl); (case a5 => first | k_is | kernel_rfl | rfl); (case l5 => first | k_is | kernel_rfl | rfl); (case q5 => first | k_is | kernel_rfl | rfl); (case k5 => first | k_is | kernel_rfl | rfl); (case a6 => first | k_is | kernel_rfl | rfl); (case l6 => first | k_is | kernel_rfl | rfl); (case q6 => first | k_is | kernel_rfl | rfl); (case k6 => first | k_is | kernel_rfl | rfl); (case a7 => first | k_is | kernel_rfl | rfl); (case l7 => first | k_is | kernel_rfl | rfl); (case q7 => first | k_is | kernel_rfl | rfl); (case k7 => first | k_is | kernel_rfl | rfl); (case a8 => first | k_is | kernel_rfl | rfl); (case l8 => first | k_is | kernel_rfl | rfl); (case q8 => first | k_is | kernel_rfl | rfl); (case k8 => first | k_is | kernel_rfl | rfl); (case a9 => first | k_is | kernel_rfl | rfl); (case l9 => first | k_is | kernel_rfl | rfl); (case q9 => first | k_is | kernel_rfl | rfl); (case k9 => first | k_is | kernel_rfl | rfl); (case a10 => first | k_is | kernel_rfl | rfl); (case l10 => first | k_is | kernel_rfl | rfl); (case q10 => first | k_is | kernel_rfl | rfl); (case k10 => first | k_is | kernel_rfl | rfl); (case a11 => first | k_is | kernel_rfl | rfl); (case l11 => first | k_is | kernel_rfl | rfl); (case q11 => first | k_is | kernel_rfl | rfl); (case k11 => first | k_is | kernel_rfl | rfl); (case a12 => first | k_is | kernel_rfl | rfl); (case l12 => first | k_is | kernel_rfl | rfl); (case q12 => first | k_is | kernel_rfl | rfl); (case k12 => first | k_is | kernel_rfl | rfl); (case a13 => first | k_is | kernel_rfl | rfl); (case l13 => first | k_is | kernel_rfl | rfl); (case q13 => first | k_is | kernel_rfl | rfl); (case k13 => first | k_is | kernel_rfl | rfl); (case a14 => first | k_is | kernel_rfl | rfl); (case l14 => first | k_is | kernel_rfl | rfl); (case q14 => first | k_is | kernel_rfl | rfl); (case k14 => first | k_is | kernel_rfl | rfl); (case a15 => first | k_is | kernel_rfl | rfl); (case l15 => first | k_is | kernel_rfl | rfl); (case q15 => first | k_is | kernel_rfl | rfl); (case k15 => first | k_is | kernel_rfl | rfl); (case a16 => first | k_is | kernel_rfl | rfl); (case l16 => first | k_is | kernel_rfl | rfl); (case q16 => first | k_is | kernel_rfl | rfl); (case k16 => first | k_is | kernel_rfl | rfl); (case a17 => first | k_is | kernel_rfl | rfl); (case l17 => first | k_is | kernel_rfl | rfl); (case q17 => first | k_is | kernel_rfl | rfl); (case k17 => first | k_is | kernel_rfl | rfl); (case a18 => first | k_is | kernel_rfl | rfl); (case l18 => first | k_is | kernel_rfl | rfl); (case q18 => first | k_is | kernel_rfl | rfl); (case k18 => first | k_is | kernel_rfl | rfl); (case a19 => first | k_is | kernel_rfl | rfl); (case l19 => first | k_is | kernel_rfl | rfl); (case q19 => first | k_is | kernel_rfl | rfl); (case k19 => first | k_is | kernel_rfl | rfl); (case a20 => first | k_is | kernel_rfl | rfl); (case l20 => first | k_is | kernel_rfl | rfl); (case q20 => first | k_is | kernel_rfl | rfl); (case k20 => first | k_is | kernel_rfl | rfl); (case a21 => first | k_is | kernel_rfl | rfl); (case l21 => first | k_is | kernel_rfl | rfl); (case q21 => first | k_is | kernel_rfl | rfl); (case k21 => first | k_is | kernel_rfl | rfl); (case a22 => first | k_is | kernel_rfl | rfl); (case l22 => first | k_is | kernel_rfl | rfl); (case q22 => first | k_is | kernel_rfl | rfl); (case k22 => first | k_is | kernel_rfl | rfl); (case a23 => first | k_is | kernel_rfl | rfl); (case l23 => first | k_is | kernel_rfl | rfl); (case q23 => first | k_is | kernel_rfl | rfl); (case k23 => first | k_is | kernel_rfl | rfl); (case a24 => first | k_is | kernel_rfl | rfl); (case l24 => first | k_is | kernel_rfl | rfl); (case q24 => first | k_is | kernel_rfl | rfl); (case k24 => first | k_is | kernel_rfl | rfl); (case a25 => first | k_is | kernel_rfl | rfl); (case l25 => first | k_is | kernel_rfl | rfl); (case q25 => first | k_is | kernel_rfl | rfl); (case k25 => first | k_is | kernel_rfl | rfl); (case a26 => first | k_is | kernel_rfl | rfl); (case l26 => first | k_is | kernel_rfl | rfl); (case q26 => first | k_is | kernel_rfl | rfl); (case k26 => first | k_is | kernel_rfl | rfl); (case v0 => first | k_is | kernel_rfl | rfl); (case z0 => first | k_is | kernel_rfl | rfl); (case z1 => first | k_is | kernel_rfl | rfl); (case z2 => first | k_is | kernel_rfl | rfl); (case z3 => first | k_is | kernel_rfl | rfl); (case z4 => first | k_is | kernel_rfl | rfl); (case z5 => first | k_is | kernel_rfl | rfl); (case z6 => first | k_is | kernel_rfl | rfl); (case z7 => first | k_is | kernel_rfl | rfl); (case z8 => first | k_is | kernel_rfl | rfl); (case z9 => first | k_is | kernel_rfl | rfl); (case z10 => first | k_is | kernel_rfl | rfl); (case z11 => first | k_is | kernel_rfl | rfl); (case xa0 => first | k_is | kernel_rfl | rfl); (case xb0 => first | k_is | kernel_rfl | rfl); (case xc0 => first | k_is | kernel_rfl | rfl); (case xd0 => first | k_is | kernel_rfl | rfl); (case xe0 => first | k_is | kernel_rfl | rfl); (case xf0 => first | k_is | kernel_rfl | rfl); (case xg0 => first | k_is | kernel_rfl | rfl); (case xh0 => first | k_is | kernel_rfl | rfl); (case xa1 => first | k_is | kernel_rfl | rfl); (case xb1 => first | k_is | kernel_rfl | rfl); (case xc1 => first | k_is | kernel_rfl | rfl); (case xd1 => first | k_is | kernel_rfl | rfl); (case xe1 => first | k_is | kernel_rfl | rfl); (case xf1 => first | k_is | kernel_rfl | rfl); (case xg1 => first | k_is | kernel_rfl | rfl); (case xh1 => first | k_is | kernel_rfl | rfl); (case ya0 => first | k_is | kernel_rfl | rfl); (case yb0 => first | k_is | kernel_rfl | rfl); (case yc0 => first | k_is | kernel_rfl | rfl); (case yd0 => first | k_is | kernel_rfl | rfl); (case t0_0 => first | k_is | kernel_rfl | rfl); (case t0_1 => first | k_is | kernel_rfl | rfl); (case t1_0 => first | k_is | kernel_rfl | rfl); (case t1_1 => first | k_is | kernel_rfl | rfl)
