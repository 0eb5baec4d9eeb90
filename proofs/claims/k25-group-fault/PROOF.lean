import PyProof.Rows.All
import HandS.ForMost
import HandS.ForExc
import HandS.Wide
import HandS.Defaults
import HandS.Style
import HandS.TupAny
import HandS.IsInst
import HandS.RevRange
import HandS.Conv
import HandS.Iter
import HandS.Zip
import HandS.WideBits
import KE.KStateDown
import Lean
import HandS.Head0
import HandS.Head1
import HandS.Head2
import HandS.HeadEnd
import HandS.HeadHook1
import HandS.HeadHook2
import HandS.TupLe
import KE.BitLaws
import HandS.Rev
import HandS.SortInts
import HandS.Text
import HandS.SetFor
import HandS.Strs
import HandS.Dict
import PyProof.Rows.SetFrom
import HandS.ExcIs
import HandS.WordsExc
import HandS.ExcValue
import KE.GoesMore
import PySem.Challenge.RW_hatsight_k25_group_fault
set_option Elab.async false
set_option linter.all false
set_option maxRecDepth 100000
/-! VL1: pure values over the abstract heap: D, footprints, transport. -/
namespace VL
open PySem PySem.Spec L2
open PyProof.Rows hiding St

/-- a pure value -/
inductive D where
  | non | bl (b : Bool) | int (i : Int) | str (x : Str)
  | tup (ds : List D) | lst (ds : List D)
  | dct (ks : List Key) (ds : List D)
  | obj (C : Addr) (fn : List Str) (ds : List D)
instance : Inhabited D := ⟨.non⟩

mutual
/-- v stands for d in H; what is owned to depth n stands at fp, what is shared satisfies N -/
inductive Own (K : PySem.W.Frag) (H : Hp) (N : Addr → Prop) : Nat → D → V → List Addr → Prop
  | non {n : Nat} : Own K H N n .non .non []
  | bl {n : Nat} {b : Bool} : Own K H N n (.bl b) (.bl b) []
  | int {n : Nat} {i : Int} : Own K H N n (.int i) (.int i) []
  | str {n : Nat} {x : Str} : Own K H N n (.str x) (.str x) []
  | tup {n : Nat} {a : Addr} {ds : List D} {vs : List V} {fp : List Addr} : SqT K H a vs → OwnL K H N n ds vs fp → Own K H N n (.tup ds) (.ref a) fp
  | shl {a : Addr} {ds : List D} {vs : List V} {fp : List Addr} : N a → Rd H a (.lst vs) → OwnL K H N 0 ds vs fp → Own K H N 0 (.lst ds) (.ref a) fp
  | kl {a : Addr} {ds : List D} {vs : List V} {fp : List Addr} : SqL K (fun _ => none) a vs → OwnL K H N 0 ds vs fp → Own K H N 0 (.lst ds) (.ref a) fp
  | lst {n : Nat} {a : Addr} {ds : List D} {vs : List V} {fp : List Addr} : H a = some (.lst vs) → OwnL K H N n ds vs fp → Own K H N (n + 1) (.lst ds) (.ref a) (a :: fp)
  | shd {a : Addr} {ks : List Key} {ds : List D} {vs : List V} {fp : List Addr} : N a → H a = some (.dK (ks.zip vs)) → ks.length = vs.length → ks.Nodup → OwnL K H N 0 ds vs fp → Own K H N 0 (.dct ks ds) (.ref a) fp
  | dct {n : Nat} {a : Addr} {ks : List Key} {ds : List D} {vs : List V} {fp : List Addr} : H a = some (.dK (ks.zip vs)) → ks.length = vs.length → ks.Nodup → OwnL K H N n ds vs fp → Own K H N (n + 1) (.dct ks ds) (.ref a) (a :: fp)
  | sho {a C dx : Addr} {fn : List Str} {ds : List D} {vs : List V} {fp : List Addr} : N a → H a = some (.ins C dx (fn.zip vs)) → fn.length = vs.length → OwnL K H N 0 ds vs fp → Own K H N 0 (.obj C fn ds) (.ref a) fp
  | obj {n : Nat} {a C dx : Addr} {fn : List Str} {ds : List D} {vs : List V} {fp : List Addr} : H a = some (.ins C dx (fn.zip vs)) → fn.length = vs.length → OwnL K H N n ds vs fp → Own K H N (n + 1) (.obj C fn ds) (.ref a) (a :: fp)
inductive OwnL (K : PySem.W.Frag) (H : Hp) (N : Addr → Prop) : Nat → List D → List V → List Addr → Prop
  | nil {n : Nat} : OwnL K H N n [] [] []
  | cons {n : Nat} {d : D} {v : V} {fp : List Addr} {ds : List D} {vs : List V} {fps : List Addr} : Own K H N n d v fp → OwnL K H N n ds vs fps → OwnL K H N n (d :: ds) (v :: vs) (fp ++ fps)
end

/-- the heap has only grown -/
abbrev Ext (H H' : Hp) : Prop := Same H H'
theorem Ext.rfl' (H : Hp) : Ext H H := fun _ _ e => e
theorem ext_upd {H : Hp} {p : Addr} {o : HO} (h : H p = none) : Ext H (upd H p o) := fun b x e => by
  rw [upd_ne (ne_of_none e h)]; exact e

def notTup : HO → Prop
  | .tup _ => False
  | .frz _ _ => False
  | .own _ => False
  | _ => True

/-- what the shared things lean on stays: all tuples, all frozen things, all that N admits -/
structure Kp (N : Addr → Prop) (H H' : Hp) : Prop where
  kp : ∀ a o, H a = some o → N a → H' a = some o
  tp : ∀ a o, H a = some o → ¬ notTup o → H' a = some o
theorem Kp.of_ext {N : Addr → Prop} {H H' : Hp} (h : Ext H H') : Kp N H H' := ⟨fun a o e _ => h a o e, fun a o e _ => h a o e⟩
theorem Kp.trans {N : Addr → Prop} {H H' H'' : Hp} (h : Kp N H H') (h' : Kp N H' H'') : Kp N H H'' :=
  ⟨fun a o e n => h'.kp a o (h.kp a o e n) n, fun a o e n => h'.tp a o (h.tp a o e n) n⟩
theorem Kp.mono {N N' : Addr → Prop} {H H' : Hp} (h : Kp N H H') (i : ∀ a, N' a → N a) : Kp N' H H' := ⟨fun a o e n => h.kp a o e (i a n), h.tp⟩

theorem SqT.kp {K : PySem.W.Frag} {H H' : Hp} {a : Addr} {xs : List V} (h : SqT K H a xs) (k : ∀ a o, H a = some o → ¬ notTup o → H' a = some o) : SqT K H' a xs := by
  rcases h with (h | ⟨o, h⟩) | h
  · exact .inl (.inl (k a _ h (fun z => z)))
  · exact .inl (.inr ⟨o, k a _ h (fun z => z)⟩)
  · exact .inr h
theorem Rd.kp {H H' : Hp} {a : Addr} {u : HO} (h : Rd H a u) (k : ∀ o, H a = some o → H' a = some o) : Rd H' a u := by
  rcases h with h | ⟨o, h⟩
  · exact .inl (k _ h)
  · exact .inr ⟨o, k _ h⟩
theorem Rd.live {H : Hp} {a : Addr} {u : HO} (h : Rd H a u) : ∃ o, H a = some o := by
  rcases h with h | ⟨o, h⟩
  · exact ⟨_, h⟩
  · exact ⟨_, h⟩

variable {K : PySem.W.Frag}
mutual
/-- transport: what is owned stays, the shared stays and satisfies N' -/
theorem Own.move {H H' : Hp} {N N' : Addr → Prop} (tp : ∀ a o, H a = some o → ¬ notTup o → H' a = some o) (sh : ∀ a o, H a = some o → N a → H' a = some o ∧ N' a) : ∀ {n : Nat} {d : D} {v : V} {fp : List Addr}, Own K H N n d v fp → (∀ a ∈ fp, ∀ o, H a = some o → H' a = some o) → Own K H' N' n d v fp
  | _, _, _, _, .non, _ => .non
  | _, _, _, _, .bl, _ => .bl
  | _, _, _, _, .int, _ => .int
  | _, _, _, _, .str, _ => .str
  | _, _, _, _, .tup h l, k => .tup (SqT.kp h tp) (OwnL.move tp sh l k)
  | _, _, _, _, .shl n h l, k => .shl (let ⟨_, e⟩ := Rd.live h; (sh _ _ e n).2) (Rd.kp h fun o e => (sh _ o e n).1) (OwnL.move tp sh l k)
  | _, _, _, _, .kl h l, k => .kl h (OwnL.move tp sh l k)
  | _, _, _, _, .lst h l, k => .lst (k _ (List.mem_cons_self) _ h) (OwnL.move tp sh l fun a m => k a (List.mem_cons_of_mem _ m))
  | _, _, _, _, .shd n h e nd l, k => .shd (sh _ _ h n).2 (sh _ _ h n).1 e nd (OwnL.move tp sh l k)
  | _, _, _, _, .dct h e nd l, k => .dct (k _ (List.mem_cons_self) _ h) e nd (OwnL.move tp sh l fun a m => k a (List.mem_cons_of_mem _ m))
  | _, _, _, _, .sho n h e l, k => .sho (sh _ _ h n).2 (sh _ _ h n).1 e (OwnL.move tp sh l k)
  | _, _, _, _, .obj h e l, k => .obj (k _ (List.mem_cons_self) _ h) e (OwnL.move tp sh l fun a m => k a (List.mem_cons_of_mem _ m))
theorem OwnL.move {H H' : Hp} {N N' : Addr → Prop} (tp : ∀ a o, H a = some o → ¬ notTup o → H' a = some o) (sh : ∀ a o, H a = some o → N a → H' a = some o ∧ N' a) : ∀ {n : Nat} {d : List D} {v : List V} {fp : List Addr}, OwnL K H N n d v fp → (∀ a ∈ fp, ∀ o, H a = some o → H' a = some o) → OwnL K H' N' n d v fp
  | _, _, _, _, .nil, _ => .nil
  | _, _, _, _, .cons h l, k => .cons (Own.move tp sh h fun a m => k a (List.mem_append_left _ m)) (OwnL.move tp sh l fun a m => k a (List.mem_append_right _ m))
end
mutual
theorem Own.live {H : Hp} {N : Addr → Prop} : ∀ {n : Nat} {d : D} {v : V} {fp : List Addr}, Own K H N n d v fp → ∀ a ∈ fp, ∃ o, H a = some o ∧ notTup o
  | _, _, _, _, .non, _, m => nomatch m
  | _, _, _, _, .bl, _, m => nomatch m
  | _, _, _, _, .int, _, m => nomatch m
  | _, _, _, _, .str, _, m => nomatch m
  | _, _, _, _, .tup h l, a, m => OwnL.live l a m
  | _, _, _, _, .shl n h l, a, m => OwnL.live l a m
  | _, _, _, _, .kl h l, a, m => OwnL.live l a m
  | _, _, _, _, .lst h l, a, m => by
    rcases List.mem_cons.mp m with e | m
    · subst e; exact ⟨_, h, trivial⟩
    · exact OwnL.live l a m
  | _, _, _, _, .shd n h e nd l, a, m => OwnL.live l a m
  | _, _, _, _, .dct h e nd l, a, m => by
    rcases List.mem_cons.mp m with e | m
    · subst e; exact ⟨_, h, trivial⟩
    · exact OwnL.live l a m
  | _, _, _, _, .sho n h e l, a, m => OwnL.live l a m
  | _, _, _, _, .obj h e l, a, m => by
    rcases List.mem_cons.mp m with e | m
    · subst e; exact ⟨_, h, trivial⟩
    · exact OwnL.live l a m
theorem OwnL.live {H : Hp} {N : Addr → Prop} : ∀ {n : Nat} {d : List D} {v : List V} {fp : List Addr}, OwnL K H N n d v fp → ∀ a ∈ fp, ∃ o, H a = some o ∧ notTup o
  | _, _, _, _, .nil, _, m => nomatch m
  | _, _, _, _, .cons h l, a, m => by
    rcases List.mem_append.mp m with m | m
    · exact Own.live h a m
    · exact OwnL.live l a m
end
/-! depth 0: nothing is owned -/
mutual
theorem Own.fp0 {H : Hp} {N : Addr → Prop} : ∀ {n : Nat} {d : D} {v : V} {fp : List Addr}, Own K H N n d v fp → n = 0 → fp = []
  | _, _, _, _, .non, _ => rfl
  | _, _, _, _, .bl, _ => rfl
  | _, _, _, _, .int, _ => rfl
  | _, _, _, _, .str, _ => rfl
  | _, _, _, _, .tup h l, e => OwnL.fp0 l e
  | _, _, _, _, .shl n h l, e => OwnL.fp0 l e
  | _, _, _, _, .kl h l, e => OwnL.fp0 l e
  | _, _, _, _, .lst h l, e => nomatch e
  | _, _, _, _, .shd n h _ nd l, e => OwnL.fp0 l e
  | _, _, _, _, .dct h _ nd l, e => nomatch e
  | _, _, _, _, .sho n h _ l, e => OwnL.fp0 l e
  | _, _, _, _, .obj h _ l, e => nomatch e
theorem OwnL.fp0 {H : Hp} {N : Addr → Prop} : ∀ {n : Nat} {d : List D} {v : List V} {fp : List Addr}, OwnL K H N n d v fp → n = 0 → fp = []
  | _, _, _, _, .nil, _ => rfl
  | _, _, _, _, .cons h l, e => by rw [Own.fp0 h e, OwnL.fp0 l e]; rfl
end
/-! shared out: what was owned is shared from now on -/
mutual
theorem Own.share {H : Hp} {N N' : Addr → Prop} (hN : ∀ a, N a → N' a) : ∀ {n : Nat} {d : D} {v : V} {fp : List Addr}, Own K H N n d v fp → (∀ a ∈ fp, N' a) → Own K H N' 0 d v []
  | _, _, _, _, .non, _ => .non
  | _, _, _, _, .bl, _ => .bl
  | _, _, _, _, .int, _ => .int
  | _, _, _, _, .str, _ => .str
  | _, _, _, _, .tup h l, k => .tup h (OwnL.share hN l k)
  | _, _, _, _, .shl n h l, k => .shl (hN _ n) h (OwnL.share hN l k)
  | _, _, _, _, .kl h l, k => .kl h (OwnL.share hN l k)
  | _, _, _, _, .lst h l, k => .shl (k _ (List.mem_cons_self)) (.inl h) (OwnL.share hN l fun a m => k a (List.mem_cons_of_mem _ m))
  | _, _, _, _, .shd n h e nd l, k => .shd (hN _ n) h e nd (OwnL.share hN l k)
  | _, _, _, _, .dct h e nd l, k => .shd (k _ (List.mem_cons_self)) h e nd (OwnL.share hN l fun a m => k a (List.mem_cons_of_mem _ m))
  | _, _, _, _, .sho n h e l, k => .sho (hN _ n) h e (OwnL.share hN l k)
  | _, _, _, _, .obj h e l, k => .sho (k _ (List.mem_cons_self)) h e (OwnL.share hN l fun a m => k a (List.mem_cons_of_mem _ m))
theorem OwnL.share {H : Hp} {N N' : Addr → Prop} (hN : ∀ a, N a → N' a) : ∀ {n : Nat} {d : List D} {v : List V} {fp : List Addr}, OwnL K H N n d v fp → (∀ a ∈ fp, N' a) → OwnL K H N' 0 d v []
  | _, _, _, _, .nil, _ => .nil
  | _, _, _, _, .cons h l, k => .cons (fp := []) (fps := []) (Own.share hN h fun a m => k a (List.mem_append_left _ m)) (OwnL.share hN l fun a m => k a (List.mem_append_right _ m))
end
end VL

/-! VL2: the store relation, the judgements with a value semantics. -/
namespace VL
open PySem PySem.Spec L2
open PyProof.Rows hiding St

abbrev Store := List (Option D)
/-- the entry of a def: its heap, what is handed in to be changed (slot, depth) -/
structure Entry where
  H0 : Hp
  F0 : Nat → List Addr
  v0 : Nat → V
  io : Nat → Nat
  /-- values that a loop walks -/
  G : List (D × V)

structure StR (K : PySem.W.Frag) (E : Entry) (Γ : List Nat) (ρ : Store) (σ : St) (H : Hp) (Φ : Nat → List Addr) : Prop where
  len : σ.length = ρ.length
  gl : Γ.length ≤ ρ.length
  val : ∀ i d, ρ[i]? = some (some d) → ∃ v, σ[i]? = some (some v) ∧ Own K H (fun a => ∀ j, a ∉ Φ j) (Γ.getD i 0) d v (Φ i)
  em : ∀ i, i < ρ.length → Γ.getD i 0 = 0 → Φ i = []
  nd : ∀ i, (Φ i).Nodup
  dj : ∀ i j a, a ∈ Φ i → a ∈ Φ j → i = j
  lv : ∀ i a, a ∈ Φ i → ∃ o, H a = some o ∧ notTup o
  nw : ∀ i a, a ∈ Φ i → E.H0 a = none ∨ (E.io i ≠ 0 ∧ a ∈ E.F0 i)
  kp : Kp (fun a => ∀ i, E.io i ≠ 0 → a ∉ E.F0 i) E.H0 H
  dm : ∀ a o, E.H0 a = some o → ∃ o', H a = some o'
  iv : ∀ i, E.io i ≠ 0 → σ[i]? = some (some (E.v0 i))
  gh : ∀ p ∈ E.G, Own K H (fun a => ∀ j, a ∉ Φ j) 0 p.1 p.2 []

variable {K : PySem.W.Frag}

theorem lt_of_some {α : Type} {l : List α} {i : Nat} {x : α} (h : l[i]? = some x) : i < l.length := by
  by_cases h' : i < l.length
  · exact h'
  · rw [List.getElem?_eq_none (by omega)] at h; cases h
theorem StR.fresh {E : Entry} {Γ : List Nat} {ρ : Store} {σ : St} {H : Hp} {Φ : Nat → List Addr} (R : StR K E Γ ρ σ H Φ) {a : Addr} (n : H a = none) : E.H0 a = none := by
  cases e : E.H0 a with
  | none => rfl
  | some o => obtain ⟨o', e'⟩ := R.dm a o e; rw [n] at e'; cases e'
theorem StR.notIn {E : Entry} {Γ : List Nat} {ρ : Store} {σ : St} {H : Hp} {Φ : Nat → List Addr} (R : StR K E Γ ρ σ H Φ) {a : Addr} (n : H a = none) (j : Nat) : a ∉ Φ j := fun m => by
  obtain ⟨o, e, _⟩ := R.lv j a m; rw [n] at e; cases e

/-- the heap grows -/
theorem StR.ext {E : Entry} {Γ : List Nat} {ρ : Store} {σ : St} {H H' : Hp} {Φ : Nat → List Addr} (R : StR K E Γ ρ σ H Φ) (x : Ext H H') : StR K E Γ ρ σ H' Φ :=
  ⟨R.len, R.gl, fun i d e => let ⟨v, h1, h2⟩ := R.val i d e; ⟨v, h1, h2.move (fun a o e _ => x a o e) (fun a o e n => ⟨x a o e, n⟩) fun a _ o e => x a o e⟩, R.em, R.nd, R.dj,
    fun i a m => let ⟨o, h1, h2⟩ := R.lv i a m; ⟨o, x _ _ h1, h2⟩, R.nw, R.kp.trans (.of_ext x), fun a o e => let ⟨o', e'⟩ := R.dm a o e; ⟨o', x _ _ e'⟩, R.iv,
    fun p m => (R.gh p m).move (fun a o e _ => x a o e) (fun a o e n => ⟨x a o e, n⟩) fun a _ o e => x a o e⟩

/-- an expression's end: v stands for d, owned to depth m at new addresses; its shared parts are none of what the slots own, but those in B -/
structure Res (K : PySem.W.Frag) (B : List Nat) (Φ : Nat → List Addr) (m : Nat) (d : D) (H : Hp) (v : V) (H' : Hp) (Ψ : List Addr) : Prop where
  ext : Ext H H'
  new : ∀ a ∈ Ψ, H a = none
  nd : Ψ.Nodup
  own : Own K H' (fun a => a ∉ Ψ ∧ ∀ j, j ∉ B → a ∉ Φ j) m d v Ψ

structure SdE (K : PySem.W.Frag) (Γ : List Nat) (t : TE) (m : Nat) (B : List Nat) (f : Store → Option D) : Prop where
  run : ∀ {E : Entry} {ρ : Store} {σ : St} {H : Hp} {Φ : Nat → List Addr}, StR K E Γ ρ σ H Φ → ∀ (d : D), f ρ = some d → ∀ Q : VK, (∀ v H' Ψ, Res K B Φ m d H v H' Ψ → Q v H') → t σ H Q
structure SdT (K : PySem.W.Frag) (Γ : List Nat) (t : TT) (f : Store → Option Bool) : Prop where
  run : ∀ {E : Entry} {ρ : Store} {σ : St} {H : Hp} {Φ : Nat → List Addr}, StR K E Γ ρ σ H Φ → ∀ (b : Bool), f ρ = some b → ∀ Q : Bool → Hp → Prop, (∀ H', Ext H H' → Q b H') → t σ H Q
structure ResL (K : PySem.W.Frag) (B : List Nat) (Φ : Nat → List Addr) (m : Nat) (ds : List D) (H : Hp) (vs : List V) (H' : Hp) (Ψ : List Addr) : Prop where
  ext : Ext H H'
  new : ∀ a ∈ Ψ, H a = none
  nd : Ψ.Nodup
  own : OwnL K H' (fun a => a ∉ Ψ ∧ ∀ j, j ∉ B → a ∉ Φ j) m ds vs Ψ
structure SdA (K : PySem.W.Frag) (Γ : List Nat) (t : TA) (m : Nat) (B : List Nat) (f : Store → Option (List D)) : Prop where
  run : ∀ {E : Entry} {ρ : Store} {σ : St} {H : Hp} {Φ : Nat → List Addr}, StR K E Γ ρ σ H Φ → ∀ (ds : List D), f ρ = some ds → ∀ Q : List V → Hp → Prop, (∀ vs H' Ψ, ResL K B Φ m ds H vs H' Ψ → Q vs H') → t σ H Q

/-- an expression of the text, its reading, its value: f of the store, owned to depth m, borrowing from the slots B -/
structure Ev (X : Cx) (Γ : List Nat) (e : Expr) (m : Nat) (B : List Nat) (f : Store → Option D) (t : TE) : Prop where
  pe : PE X e t
  sd : SdE X.K Γ t m B f
structure Tv (X : Cx) (Γ : List Nat) (e : Expr) (f : Store → Option Bool) (t : TT) : Prop where
  pt : PT X e t
  sd : SdT X.K Γ t f
structure Wv (X : Cx) (Γ : List Nat) (e : Expr) (f : Store → Option Bool) (t : TT) : Prop where
  pw : PW X e t
  sd : SdT X.K Γ t f
structure Av (X : Cx) (Γ : List Nat) (es : List Expr) (m : Nat) (B : List Nat) (f : Store → Option (List D)) (t : TA) : Prop where
  pa : PA X es t
  sd : SdA X.K Γ t m B f

/-! ### nothing that may change within -/
mutual
def D.imm : D → Bool
  | .tup ds => D.immL ds
  | .lst _ => false
  | .dct _ _ => false
  | .obj _ _ _ => false
  | .non => true
  | .bl _ => true
  | .int _ => true
  | .str _ => true
def D.immL : List D → Bool
  | [] => true
  | d :: ds => d.imm && D.immL ds
end
/-! nothing that may change below depth r -/
mutual
def D.immB : Nat → D → Bool
  | 0, .tup ds => D.immL ds
  | 0, .lst _ => false
  | 0, .dct _ _ => false
  | 0, .obj _ _ _ => false
  | r + 1, .tup ds => D.immBL (r + 1) ds
  | r + 1, .lst ds => D.immBL r ds
  | r + 1, .dct _ ds => D.immBL r ds
  | r + 1, .obj _ _ ds => D.immBL r ds
  | _, .non => true
  | _, .bl _ => true
  | _, .int _ => true
  | _, .str _ => true
def D.immBL : Nat → List D → Bool
  | _, [] => true
  | r, d :: ds => D.immB r d && D.immBL r ds
end
mutual
theorem Own.imm {H H' : Hp} {N N' : Addr → Prop} (tp : ∀ a o, H a = some o → ¬ notTup o → H' a = some o) (k : Nat) : ∀ {n : Nat} {d : D} {v : V} {fp : List Addr}, Own K H N n d v fp → d.imm = true → Own K H' N' k d v []
  | _, _, _, _, .non, _ => .non
  | _, _, _, _, .bl, _ => .bl
  | _, _, _, _, .int, _ => .int
  | _, _, _, _, .str, _ => .str
  | _, _, _, _, .tup h l, i => .tup (SqT.kp h tp) (OwnL.imm tp k l (by rw [D.imm] at i; exact i))
  | _, _, _, _, .shl n h l, i => by rw [D.imm] at i; cases i
  | _, _, _, _, .kl h l, i => by rw [D.imm] at i; cases i
  | _, _, _, _, .lst h l, i => by rw [D.imm] at i; cases i
  | _, _, _, _, .shd n h e nd l, i => by rw [D.imm] at i; cases i
  | _, _, _, _, .dct h e nd l, i => by rw [D.imm] at i; cases i
  | _, _, _, _, .sho n h e l, i => by rw [D.imm] at i; cases i
  | _, _, _, _, .obj h e l, i => by rw [D.imm] at i; cases i
theorem OwnL.imm {H H' : Hp} {N N' : Addr → Prop} (tp : ∀ a o, H a = some o → ¬ notTup o → H' a = some o) (k : Nat) : ∀ {n : Nat} {d : List D} {v : List V} {fp : List Addr}, OwnL K H N n d v fp → D.immL d = true → OwnL K H' N' k d v []
  | _, _, _, _, .nil, _ => .nil
  | _, _, _, _, .cons h l, i => by
    rw [D.immL, Bool.and_eq_true] at i
    exact .cons (fp := []) (fps := []) (Own.imm tp k h i.1) (OwnL.imm tp k l i.2)
end
mutual
theorem Own.immB {H : Hp} {N N' : Addr → Prop} : ∀ {n : Nat} {d : D} {v : V} {fp : List Addr}, Own K H N n d v fp → d.immB n = true → Own K H N' n d v fp
  | _, _, _, _, .non, _ => .non
  | _, _, _, _, .bl, _ => .bl
  | _, _, _, _, .int, _ => .int
  | _, _, _, _, .str, _ => .str
  | 0, _, _, _, .tup h l, i => by
    rw [D.immB] at i
    have e := OwnL.fp0 l rfl
    subst e
    exact .tup h (OwnL.imm (fun a o e _ => e) 0 l i)
  | n + 1, _, _, _, .tup h l, i => .tup h (OwnL.immB l (by rw [D.immB] at i; exact i))
  | _, _, _, _, .shl n h l, i => by rw [D.immB] at i; cases i
  | _, _, _, _, .kl h l, i => by rw [D.immB] at i; cases i
  | _, _, _, _, .lst h l, i => .lst h (OwnL.immB l (by rw [D.immB] at i; exact i))
  | _, _, _, _, .shd n h e nd l, i => by rw [D.immB] at i; cases i
  | _, _, _, _, .dct h e nd l, i => .dct h e nd (OwnL.immB l (by rw [D.immB] at i; exact i))
  | _, _, _, _, .sho n h e l, i => by rw [D.immB] at i; cases i
  | _, _, _, _, .obj h e l, i => .obj h e (OwnL.immB l (by rw [D.immB] at i; exact i))
theorem OwnL.immB {H : Hp} {N N' : Addr → Prop} : ∀ {n : Nat} {d : List D} {v : List V} {fp : List Addr}, OwnL K H N n d v fp → D.immBL n d = true → OwnL K H N' n d v fp
  | _, _, _, _, .nil, _ => .nil
  | _, _, _, _, .cons h l, i => by
    rw [D.immBL, Bool.and_eq_true] at i
    exact .cons (Own.immB h i.1) (OwnL.immB l i.2)
end

/-! ### from mode to mode -/
theorem SdE.share {Γ : List Nat} {t : TE} {m : Nat} {B : List Nat} {f : Store → Option D} (h : SdE K Γ t m B f) : SdE K Γ t 0 B f := ⟨fun R d e Q q =>
  h.run R d e Q fun v H' Ψ r => q v H' [] ⟨r.ext, fun a m => (nomatch m), .nil, r.own.share (fun a z => ⟨List.not_mem_nil, z.2⟩) fun a m => ⟨List.not_mem_nil, fun j _ => R.notIn (r.new a m) j⟩⟩⟩
def eImm (f : Store → Option D) : Store → Option D := fun ρ => match f ρ with | some d => if d.imm = true then some d else none | none => none
theorem SdE.imm {Γ : List Nat} {t : TE} {m : Nat} {B : List Nat} {f : Store → Option D} (n : Nat) (h : SdE K Γ t m B f) : SdE K Γ t n [] (eImm f) := by
  refine ⟨fun {E ρ σ H Φ} R d e Q q => ?_⟩
  unfold eImm at e
  cases e1 : f ρ with
  | none => rw [e1] at e; cases e
  | some d' =>
    rw [e1] at e
    replace e : (if d'.imm = true then some d' else none) = some d := e
    by_cases i : d'.imm = true
    · rw [if_pos i] at e; cases e
      exact h.run R _ e1 Q fun v H' Ψ r => q v H' [] ⟨r.ext, fun a m => (nomatch m), .nil, r.own.imm (fun a o e _ => e) n i⟩
    · rw [if_neg i] at e; cases e
theorem SdE.more {Γ : List Nat} {t : TE} {m : Nat} {B B' : List Nat} {f : Store → Option D} (h : SdE K Γ t m B f) (i : ∀ j, j ∈ B → j ∈ B') : SdE K Γ t m B' f := ⟨fun R d e Q q =>
  h.run R d e Q fun v H' Ψ r => q v H' Ψ ⟨r.ext, r.new, r.nd, r.own.move (fun a o e _ => e) (fun a o e z => ⟨e, z.1, fun j n => z.2 j fun m => n (i j m)⟩) fun a _ o e => e⟩⟩

section
variable {X : Cx} {Γ : List Nat} {e : Expr} {m : Nat} {B B1 B2 : List Nat} {f g : Store → Option D} {t u : TE} {pos : Pos}
theorem Ev.share (h : Ev X Γ e m B f t) : Ev X Γ e 0 B f t := ⟨h.pe, h.sd.share⟩
theorem Ev.imm (n : Nat) (h : Ev X Γ e m B f t) : Ev X Γ e n [] (eImm f) t := ⟨h.pe, h.sd.imm n⟩

/-! ### names, constants -/
def eVar (i : Nat) : Store → Option D := fun ρ => (ρ[i]?).join
theorem eVar_some {i : Nat} {ρ : Store} {d : D} (h : eVar i ρ = some d) : ρ[i]? = some (some d) := by
  unfold eVar at h
  cases e : ρ[i]? with
  | none => rw [e] at h; cases h
  | some o => rw [e] at h; cases o with
    | none => cases h
    | some d' => cases h; rfl
theorem sd_var {i : Nat} (h0 : Γ.getD i 0 = 0) : SdE K Γ (tVar i) 0 [] (eVar i) := by
  refine ⟨fun R d e Q q => ?_⟩
  obtain ⟨v, h1, h2⟩ := R.val i d (eVar_some e)
  rw [h0, R.em i (lt_of_some (eVar_some e)) h0] at h2
  exact ⟨v, h1, q v _ [] ⟨.rfl' _, fun a m => (nomatch m), .nil, h2.move (fun a o e _ => e) (fun a o e z => ⟨e, List.not_mem_nil, fun j _ => z j⟩) fun a _ o e => e⟩⟩
theorem sd_lend {i : Nat} : SdE K Γ (tVar i) 0 [i] (eVar i) := by
  refine ⟨fun R d e Q q => ?_⟩
  obtain ⟨v, h1, h2⟩ := R.val i d (eVar_some e)
  refine ⟨v, h1, q v _ [] ⟨.rfl' _, fun a m => (nomatch m), .nil, h2.share (fun a z => ⟨List.not_mem_nil, fun j _ => z j⟩) fun a m => ⟨List.not_mem_nil, fun j n m' => n ?_⟩⟩⟩
  rw [R.dj i j a m m']; exact List.mem_singleton.mpr rfl
theorem ev_var {i : Nat} {x : Str} (hN : X.N[i]? = some x) (hv : Vis X.env.scope x) (h0 : Γ.getD i 0 = 0) (hd : (x == ("__debug__" : Str)) = false := by decide) (hcd : (x == ("__classdict__" : Str)) = false := by decide) : Ev X Γ (.Name x pos) 0 [] (eVar i) (tVar i) :=
  ⟨pe_var hN hv hd hcd, sd_var h0⟩
theorem ev_lend {i : Nat} {x : Str} (hN : X.N[i]? = some x) (hv : Vis X.env.scope x) (hd : (x == ("__debug__" : Str)) = false := by decide) (hcd : (x == ("__classdict__" : Str)) = false := by decide) : Ev X Γ (.Name x pos) 0 [i] (eVar i) (tVar i) :=
  ⟨pe_var hN hv hd hcd, sd_lend⟩
/-- a scalar as a value -/
def ofV : V → D
  | .non => .non
  | .bl b => .bl b
  | .int i => .int i
  | .str x => .str x
  | _ => .non
def scalV : V → Bool
  | .non => true
  | .bl _ => true
  | .int _ => true
  | .str _ => true
  | _ => false
theorem own_ofV {H : Hp} {N : Addr → Prop} {n : Nat} {v : V} (h : scalV v = true) : Own K H N n (ofV v) v [] := by
  cases v with
  | non => exact .non
  | bl b => exact .bl
  | int i => exact .int
  | str x => exact .str
  | byt _ => cases h
  | flt _ => cases h
  | ref _ => cases h
  | ty _ => cases h
def eC (d : D) : Store → Option D := fun _ => some d
theorem sd_c {v : V} (h : scalV v = true) : SdE K Γ (tC v) 0 [] (eC (ofV v)) := by
  refine ⟨fun R d e Q q => ?_⟩
  cases e
  exact q v _ [] ⟨.rfl' _, fun a m => (nomatch m), .nil, own_ofV h⟩
theorem ev_int {i j} : Ev X Γ (.Constant (.int i) j pos) 0 [] (eC (.int i)) (tC (.int i)) := ⟨pe_int, sd_c rfl⟩
theorem ev_bl {b j} : Ev X Γ (.Constant (.bool b) j pos) 0 [] (eC (.bl b)) (tC (.bl b)) := ⟨pe_bl, sd_c rfl⟩
theorem ev_non {j} : Ev X Γ (.Constant .none j pos) 0 [] (eC .non) (tC .non) := ⟨pe_non, sd_c rfl⟩
theorem ev_str {x j} : Ev X Γ (.Constant (.str x) j pos) 0 [] (eC (.str x)) (tC (.str x)) := ⟨pe_str, sd_c rfl⟩

/-! ### two operands, shared; what the operation asks by values -/
/-- the operation r on what stands for two values does g -/
structure Op2 (K : PySem.W.Frag) (r : R2) (m : Nat) (g : D → D → Option D) : Prop where
  run : ∀ {H : Hp} {N : Addr → Prop} {d1 d2 d : D} {v1 v2 : V}, Own K H N 0 d1 v1 [] → Own K H N 0 d2 v2 [] → g d1 d2 = some d → ∀ Q : VK,
    (∀ v H' Ψ, Ext H H' → (∀ a ∈ Ψ, H a = none) → Ψ.Nodup → Own K H' (fun a => N a ∨ (H a = none ∧ a ∉ Ψ)) m d v Ψ → Q v H') → r v1 v2 H Q
def e2 (g : D → D → Option D) (f1 f2 : Store → Option D) : Store → Option D := fun ρ => match f1 ρ with
  | some d1 => (match f2 ρ with | some d2 => g d1 d2 | none => none)
  | none => none
theorem e2_some {g : D → D → Option D} {f1 f2 : Store → Option D} {ρ : Store} {d : D} (h : e2 g f1 f2 ρ = some d) : ∃ d1 d2, f1 ρ = some d1 ∧ f2 ρ = some d2 ∧ g d1 d2 = some d := by
  unfold e2 at h
  split at h
  · rename_i d1 h1
    split at h
    · rename_i d2 h2
      exact ⟨d1, d2, h1, h2, h⟩
    · cases h
  · cases h
/-- both operands, at their common place -/
theorem two {t u : TE} {m1 m2 : Nat} {f1 f2 : Store → Option D} (h1 : SdE K Γ t m1 B1 f1) (h2 : SdE K Γ u m2 B2 f2) {E : Entry} {ρ : Store} {σ : St} {H : Hp} {Φ : Nat → List Addr} (R : StR K E Γ ρ σ H Φ) {d1 d2 : D} (e1 : f1 ρ = some d1) (e2 : f2 ρ = some d2)
    (Q : V → V → Hp → Prop) (q : ∀ v1 v2 H', Ext H H' → Own K H' (fun a => (∃ o, H' a = some o) ∧ ∀ j, j ∉ B1 ++ B2 → a ∉ Φ j) 0 d1 v1 [] → Own K H' (fun a => (∃ o, H' a = some o) ∧ ∀ j, j ∉ B1 ++ B2 → a ∉ Φ j) 0 d2 v2 [] → Q v1 v2 H') : t σ H fun x H1 => u σ H1 fun y H2 => Q x y H2 := by
  refine h1.share.run R _ e1 _ fun v1 H1 Ψ1 r1 => ?_
  refine h2.share.run (R.ext r1.ext) _ e2 _ fun v2 H2 Ψ2 r2 => ?_
  have z1 := r1.own
  have z2 := r2.own
  rw [z1.fp0 rfl] at z1
  rw [z2.fp0 rfl] at z2
  refine q v1 v2 H2 (fun a o e => r2.ext a o (r1.ext a o e)) (z1.move (fun a o e _ => r2.ext a o e) (fun a o e n => ⟨r2.ext a o e, ⟨o, r2.ext a o e⟩, fun j nj => n.2 j fun m => nj (List.mem_append_left _ m)⟩) fun a _ o e => r2.ext a o e) (z2.move (fun a o e _ => e) (fun a o e n => ⟨e, ⟨o, e⟩, fun j nj => n.2 j fun m => nj (List.mem_append_right _ m)⟩) fun a _ o e => e)
theorem sd_2 {r : R2} {g : D → D → Option D} {m1 m2 : Nat} {f1 f2 : Store → Option D} (ho : Op2 K r m g) (h1 : SdE K Γ t m1 B1 f1) (h2 : SdE K Γ u m2 B2 f2) : SdE K Γ (tOp r t u) m (B1 ++ B2) (e2 g f1 f2) := by
  refine ⟨fun {E ρ σ H Φ} R d e Q q => ?_⟩
  obtain ⟨d1, d2, x1, x2, x3⟩ := e2_some e
  refine two h1 h2 R x1 x2 _ fun v1 v2 H' x o1 o2 => ?_
  refine ho.run o1 o2 x3 Q fun v H2 Ψ x' new nd o => ?_
  refine q v H2 Ψ ⟨fun a o e => x' a o (x a o e), fun a m => ?_, nd, o.move (fun a o e _ => e) (fun a o e z => ⟨e, ?_⟩) fun a _ o e => e⟩
  · cases e : H a with
    | none => rfl
    | some o => have := x a o e; rw [new a m] at this; cases this
  · rcases z with z | ⟨z, nΨ⟩
    · refine ⟨fun m => ?_, z.2⟩
      obtain ⟨o', z'⟩ := z.1
      rw [new a m] at z'; cases z'
    · exact ⟨nΨ, fun j _ => (R.ext x).notIn z j⟩
/-- ints in, a scalar out -/
def gI (C : Int → Int → Prop) [∀ i j, Decidable (C i j)] (g : Int → Int → V) : D → D → Option D
  | .int i, .int j => if C i j then some (ofV (g i j)) else none
  | _, _ => none
theorem op2_I {C : Int → Int → Prop} [∀ i j, Decidable (C i j)] {g : Int → Int → V} (hs : ∀ i j, scalV (g i j) = true) : Op2 K (rI C g) 0 (gI C g) := by
  refine ⟨fun o1 o2 e Q q => ?_⟩
  unfold gI at e
  split at e
  · rename_i i j
    split at e
    · rename_i hc
      cases e
      cases o1; cases o2
      exact ⟨i, j, rfl, rfl, hc, q _ _ [] (.rfl' _) (fun a m => (nomatch m)) .nil (own_ofV (hs i j))⟩
    · cases e
  · cases e
def gI0 (g : Int → Int → V) : D → D → Option D
  | .int i, .int j => some (ofV (g i j))
  | _, _ => none
theorem op2_I0 {g : Int → Int → V} (hs : ∀ i j, scalV (g i j) = true) : Op2 K (rI0 g) 0 (gI0 g) := by
  refine ⟨fun o1 o2 e Q q => ?_⟩
  unfold gI0 at e
  split at e
  · rename_i i j
    cases e
    cases o1; cases o2
    exact ⟨i, j, rfl, rfl, q _ _ [] (.rfl' _) (fun a m => (nomatch m)) .nil (own_ofV (hs i j))⟩
  · cases e
end
end VL

/-! VL3: statements over the store; a def. -/
namespace VL
open PySem PySem.Spec L2
open PyProof.Rows hiding St

/-- how a block ends -/
inductive O where
  | nx (ρ : Store) | rt (d : D) (ρ : Store) | bk (ρ : Store) | ct (ρ : Store) | ex (C : Addr) (w : Option D) (ρ : Store)
/-- an exception of the class at C; w: what stands in its field line -/
def ExR (H : Hp) (w : Option D) (dx : Option Addr) : Prop := match w with
  | none => dx = none
  | some d => ∃ a v, dx = some a ∧ H a = some (.xd [("line", v)]) ∧ scalV v = true ∧ d = ofV v

variable {K : PySem.W.Frag}
/-- a return's end -/
def RtR (K : PySem.W.Frag) (E : Entry) (r : Nat) (d : D) (ρ : Store) (v : V) (H : Hp) : Prop :=
  ∃ (Γ : List Nat) (σ : St) (Φ : Nat → List Addr) (Ψ : List Addr), StR K E Γ ρ σ H Φ ∧ (∀ i, E.io i ≠ 0 → Γ.getD i 0 = E.io i) ∧ (∀ a ∈ Ψ, E.H0 a = none) ∧ Ψ.Nodup ∧ (∀ i, E.io i ≠ 0 → ∀ a ∈ Ψ, a ∉ Φ i) ∧ ∀ N, Own K H N r d v Ψ
def Post (K : PySem.W.Frag) (E : Entry) (W : WX) (r : Nat) (Γb Γ' : List Nat) (D : Ends) : O → Prop
  | .nx ρ => ∀ σ H Φ, StR K E Γ' ρ σ H Φ → D.nx σ H
  | .bk ρ => ∀ σ H Φ, StR K E Γb ρ σ H Φ → D.bk σ H
  | .ct ρ => ∀ σ H Φ, StR K E Γb ρ σ H Φ → D.ct σ H
  | .rt d ρ => ∀ v H, RtR K E r d ρ v H → D.rt v H
  | .ex C w ρ => ∀ Γ σ H Φ dx, StR K E Γ ρ σ H Φ → ExR H w dx → W (.ref C) dx σ H
structure SdS (K : PySem.W.Frag) (W : WX) (I : Nat → Nat) (r : Nat) (Γ Γb Γ' : List Nat) (t : TS) (F : Store → Option O) : Prop where
  run : ∀ {E : Entry} {ρ : Store} {σ : St} {H : Hp} {Φ : Nat → List Addr}, E.io = I → StR K E Γ ρ σ H Φ → ∀ (o : O), F ρ = some o → ∀ D : Ends, Post K E W r Γb Γ' D o → t D σ H
structure Sv (X : Cx) (W : WX) (I : Nat → Nat) (r : Nat) (Γ Γb : List Nat) (st : Stmt) (Γ' : List Nat) (F : Store → Option O) (t : TS) : Prop where
  ps : PS X st t
  sd : SdS X.K W I r Γ Γb Γ' t F
structure Lv (X : Cx) (W : WX) (I : Nat → Nat) (r : Nat) (Γ Γb : List Nat) (st : List Stmt) (Γ' : List Nat) (F : Store → Option O) (t : TS) : Prop where
  pss : PSs X st t
  sd : SdS X.K W I r Γ Γb Γ' t F

/-! ### the store changes -/
section
variable {E : Entry} {Γ : List Nat} {ρ : Store} {σ : St} {H : Hp} {Φ : Nat → List Addr}
/-- a slot is stored -/
theorem StR.set {i m : Nat} {d : D} {v : V} {H' : Hp} {Ψ : List Addr} (R : StR K E Γ ρ σ H Φ) (r : Res K [] Φ m d H v H' Ψ) (hG : i < Γ.length) (hi : E.io i = 0) :
    StR K E (Γ.set i m) (ρ.set i (some d)) (σ.set i (some v)) H' (fun j => if j = i then Ψ else Φ j) := by
  have R' := R.ext r.ext
  have nΨ : ∀ a o, H a = some o → a ∉ Ψ := fun a o e m => by have := r.new a m; rw [e] at this; cases this
  have gne : ∀ j, j ≠ i → (Γ.set i m).getD j 0 = Γ.getD j 0 := fun j n => by
    rw [List.getD_eq_getElem?_getD, List.getD_eq_getElem?_getD, List.getElem?_set_ne (Ne.symm n)]
  have geq : (Γ.set i m).getD i 0 = m := by
    rw [List.getD_eq_getElem?_getD, List.getElem?_set_self hG]; rfl
  refine ⟨by rw [List.length_set, List.length_set]; exact R.len, by rw [List.length_set, List.length_set]; exact R.gl, fun j d' e => ?_, fun j lj e => ?_, fun j => ?_, fun j k a h1 h2 => ?_, fun j a h => ?_, fun j a h => ?_, R'.kp, R'.dm, fun j n => ?_, fun p m => (R.gh p m).move (fun a o e _ => r.ext a o e) (fun a o e z => ⟨r.ext a o e, fun k => by
    show a ∉ (if k = i then Ψ else Φ k)
    split
    · exact nΨ a o e
    · exact z k⟩) fun a m => (nomatch m)⟩
  · by_cases hj : j = i
    · subst hj
      by_cases hl : j < ρ.length
      · rw [List.getElem?_set_self hl] at e
        cases e
        refine ⟨v, List.getElem?_set_self (by rw [R.len]; exact hl), ?_⟩
        rw [geq, if_pos rfl]
        refine r.own.move (fun a o e _ => e) (fun a o e z => ⟨e, fun k => ?_⟩) fun a _ o e => e
        split
        · exact z.1
        · exact z.2 k List.not_mem_nil
      · rw [List.getElem?_eq_none (by rw [List.length_set]; omega)] at e; cases e
    · rw [List.getElem?_set_ne (Ne.symm hj)] at e
      obtain ⟨v', h1, h2⟩ := R.val j d' e
      refine ⟨v', by rw [List.getElem?_set_ne (Ne.symm hj)]; exact h1, ?_⟩
      rw [gne j hj, if_neg hj]
      refine h2.move (fun a o e _ => r.ext a o e) (fun a o e z => ⟨r.ext a o e, fun k => ?_⟩) fun a _ o e => r.ext a o e
      split
      · exact nΨ a o e
      · exact z k
  · show (if j = i then Ψ else Φ j) = []
    by_cases hj : j = i
    · subst hj
      rw [geq] at e
      subst e
      rw [if_pos rfl]
      exact r.own.fp0 rfl
    · rw [gne j hj] at e
      rw [if_neg hj]
      exact R.em j (by rw [List.length_set] at lj; exact lj) e
  · show (if j = i then Ψ else Φ j).Nodup
    split
    · exact r.nd
    · exact R.nd j
  · have h1 : a ∈ (if j = i then Ψ else Φ j) := h1
    have h2 : a ∈ (if k = i then Ψ else Φ k) := h2
    split at h1
    · split at h2
      · rename_i a b; rw [a, b]
      · exact absurd h2 (R.notIn (r.new a h1) k)
    · split at h2
      · exact absurd h1 (R.notIn (r.new a h2) j)
      · exact R.dj j k a h1 h2
  · have h : a ∈ (if j = i then Ψ else Φ j) := h
    split at h
    · exact r.own.live a h
    · exact R'.lv j a h
  · have h : a ∈ (if j = i then Ψ else Φ j) := h
    split at h
    · exact .inl (R.fresh (r.new a h))
    · exact R.nw j a h
  · by_cases hj : j = i
    · subst hj; exact absurd hi n
    · rw [List.getElem?_set_ne (Ne.symm hj)]
      exact R.iv j n
/-- what a slot owns is changed -/
theorem StR.mut {i : Nat} {d : D} {v : V} {H2 : Hp} {Ψ : List Addr} (R : StR K E Γ ρ σ H Φ) (hv : σ[i]? = some (some v)) (hm : Γ.getD i 0 ≠ 0) (kp : ∀ a o, H a = some o → a ∉ Φ i → H2 a = some o) (dm : ∀ a o, H a = some o → ∃ o', H2 a = some o')
    (own : Own K H2 (fun a => a ∉ Ψ ∧ ∀ j, j ≠ i → a ∉ Φ j) (Γ.getD i 0) d v Ψ) (nd : Ψ.Nodup) (src : ∀ a ∈ Ψ, a ∈ Φ i ∨ H a = none) :
    StR K E Γ (ρ.set i (some d)) σ H2 (fun j => if j = i then Ψ else Φ j) := by
  have tp : ∀ a o, H a = some o → ¬ notTup o → H2 a = some o := fun a o e t => kp a o e fun m => by
    obtain ⟨o', e', t'⟩ := R.lv i a m
    rw [e] at e'; cases e'; exact t t'
  have nΨ : ∀ j, j ≠ i → ∀ a, a ∈ Φ j → a ∉ Ψ := fun j n a m m' => by
    rcases src a m' with z | z
    · exact n (R.dj j i a m z)
    · exact R.notIn z j m
  refine ⟨by rw [List.length_set]; exact R.len, by rw [List.length_set]; exact R.gl, fun j d' e => ?_, fun j lj e => ?_, fun j => ?_, fun j k a h1 h2 => ?_, fun j a h => ?_, fun j a h => ?_, ?_, fun a o e => ?_, R.iv, fun p m => (R.gh p m).move tp (fun a o e z => ⟨kp a o e (z i), fun k => by
    show a ∉ (if k = i then Ψ else Φ k)
    split
    · intro m'
      rcases src a m' with q | q
      · exact z i q
      · rw [e] at q; cases q
    · exact z k⟩) fun a m => (nomatch m)⟩
  · by_cases hj : j = i
    · subst hj
      by_cases hl : j < ρ.length
      · rw [List.getElem?_set_self hl] at e
        cases e
        refine ⟨v, hv, ?_⟩
        rw [if_pos rfl]
        refine own.move (fun a o e _ => e) (fun a o e z => ⟨e, fun k => ?_⟩) fun a _ o e => e
        split
        · exact z.1
        · rename_i nk; exact z.2 k nk
      · rw [List.getElem?_eq_none (by rw [List.length_set]; omega)] at e; cases e
    · rw [List.getElem?_set_ne (Ne.symm hj)] at e
      obtain ⟨v', h1, h2⟩ := R.val j d' e
      refine ⟨v', h1, ?_⟩
      rw [if_neg hj]
      refine h2.move tp (fun a o e z => ⟨kp a o e (z i), fun k => ?_⟩) fun a m o e => kp a o e fun m' => hj (R.dj j i a m m')
      split
      · intro m'
        rcases src a m' with q | q
        · exact z i q
        · rw [e] at q; cases q
      · exact z k
  · show (if j = i then Ψ else Φ j) = []
    by_cases hj : j = i
    · subst hj; exact absurd e hm
    · rw [if_neg hj]; exact R.em j (by rw [List.length_set] at lj; exact lj) e
  · show (if j = i then Ψ else Φ j).Nodup
    split
    · exact nd
    · exact R.nd j
  · have h1 : a ∈ (if j = i then Ψ else Φ j) := h1
    have h2 : a ∈ (if k = i then Ψ else Φ k) := h2
    split at h1
    · split at h2
      · rename_i a b; rw [a, b]
      · rename_i nk; exact absurd h1 (nΨ k nk a h2)
    · split at h2
      · rename_i nj _; exact absurd h2 (nΨ j nj a h1)
      · exact R.dj j k a h1 h2
  · have h : a ∈ (if j = i then Ψ else Φ j) := h
    split at h
    · exact own.live a h
    · rename_i nj
      obtain ⟨o, e, t⟩ := R.lv j a h
      exact ⟨o, kp a o e fun m => nj (R.dj j i a h m), t⟩
  · have h : a ∈ (if j = i then Ψ else Φ j) := h
    split at h
    · rename_i ej
      rcases src a h with z | z
      · rw [ej]; exact R.nw i a z
      · exact .inl (R.fresh z)
    · exact R.nw j a h
  · refine ⟨fun a o e n => kp a o (R.kp.kp a o e n) fun m => ?_, fun a o e nt => tp a o (R.kp.tp a o e nt) nt⟩
    rcases R.nw i a m with z | ⟨z, z'⟩
    · rw [e] at z; cases z
    · exact n i z z'
  · obtain ⟨o', e'⟩ := R.dm a o e
    exact dm a o' e'
end

/-! ### small statements -/
section
variable {W : WX} {I : Nat → Nat} {r : Nat} {Γ Γb Γ1 Γ2 Γ' : List Nat}
def sNx : Store → Option O := fun ρ => some (.nx ρ)
theorem sd_nx : SdS K W I r Γ Γb Γ tNext sNx := ⟨fun _ R o e D q => by cases e; exact q _ _ _ R⟩
def sSeq (F G : Store → Option O) : Store → Option O := fun ρ => match F ρ with
  | some (.nx ρ') => G ρ'
  | o => o
theorem sd_seq {t u : TS} {F G : Store → Option O} (h1 : SdS K W I r Γ Γb Γ1 t F) (h2 : SdS K W I r Γ1 Γb Γ2 u G) : SdS K W I r Γ Γb Γ2 (tSeq t u) (sSeq F G) := by
  refine ⟨fun {E ρ σ H Φ} hi R o e D q => ?_⟩
  unfold sSeq at e
  split at e
  · rename_i ρ' e1
    exact h1.run hi R _ e1 { D with nx := u D } fun σ' H' Φ' R' => h2.run hi R' o e D q
  · rename_i o' n
    refine h1.run hi R o e { D with nx := u D } ?_
    cases o with
    | nx ρ' => exact (n ρ' e).elim
    | rt d ρ' => exact q
    | bk ρ' => exact q
    | ct ρ' => exact q
    | ex C w ρ' => exact q
def sIf (c : Store → Option Bool) (F G : Store → Option O) : Store → Option O := fun ρ => match c ρ with
  | some true => F ρ
  | some false => G ρ
  | none => none
theorem sd_if {tc : TT} {t u : TS} {c : Store → Option Bool} {F G : Store → Option O} (hc : SdT K Γ tc c) (h1 : SdS K W I r Γ Γb Γ' t F) (h2 : SdS K W I r Γ Γb Γ' u G) : SdS K W I r Γ Γb Γ' (tIfS tc t u) (sIf c F G) := by
  refine ⟨fun {E ρ σ H Φ} hi R o e D q => ?_⟩
  unfold sIf at e
  split at e
  · rename_i e1
    refine hc.run R _ e1 _ fun H1 x => ?_
    rw [if_pos rfl]
    exact h1.run hi (R.ext x) o e D q
  · rename_i e1
    refine hc.run R _ e1 _ fun H1 x => ?_
    rw [if_neg Bool.false_ne_true]
    exact h2.run hi (R.ext x) o e D q
  · cases e
def sSet (i : Nat) (f : Store → Option D) : Store → Option O := fun ρ => match f ρ with
  | some d => some (.nx (ρ.set i (some d)))
  | none => none
theorem sd_set {i m : Nat} {te : TE} {f : Store → Option D} (h : SdE K Γ te m [] f) (hG : i < Γ.length) (hi : I i = 0) : SdS K W I r Γ Γb (Γ.set i m) (tAsg te (gName i)) (sSet i f) := by
  refine ⟨fun {E ρ σ H Φ} hI R o e D q => ?_⟩
  unfold sSet at e
  split at e
  · rename_i d e1
    cases e
    refine h.run R _ e1 _ fun v H' Ψ x => ?_
    exact q _ _ _ (R.set x hG (by rw [hI]; exact hi))
  · cases e
def sDrop (f : Store → Option D) : Store → Option O := fun ρ => match f ρ with
  | some _ => some (.nx ρ)
  | none => none
theorem sd_drop {m : Nat} {B : List Nat} {te : TE} {f : Store → Option D} (h : SdE K Γ te m B f) : SdS K W I r Γ Γb Γ (tDrop te) (sDrop f) := by
  refine ⟨fun {E ρ σ H Φ} hI R o e D q => ?_⟩
  unfold sDrop at e
  split at e
  · rename_i d e1
    cases e
    exact h.run R _ e1 _ fun v H' Ψ x => q _ _ _ (R.ext x.ext)
  · cases e
/-- return e: what may change in it is new -/
def sRet (r : Nat) (f : Store → Option D) : Store → Option O := fun ρ => match f ρ with
  | some d => if d.immB r = true then some (.rt d ρ) else none
  | none => none
theorem sd_ret {B : List Nat} {te : TE} {f : Store → Option D} (h : SdE K Γ te r B f) (hio : ∀ i, I i ≠ 0 → Γ.getD i 0 = I i) : SdS K W I r Γ Γb Γ' (tRet te) (sRet r f) := by
  refine ⟨fun {E ρ σ H Φ} hI R o e D q => ?_⟩
  unfold sRet at e
  split at e
  · rename_i d e1
    split at e
    · rename_i hm
      cases e
      refine h.run R _ e1 _ fun v H' Ψ x => ?_
      exact q v H' ⟨Γ, σ, Φ, Ψ, R.ext x.ext, fun i n => by rw [hI] at n ⊢; exact hio i n, fun a m => R.fresh (x.new a m), x.nd, fun i _ a m => R.notIn (x.new a m) i, fun N => x.own.immB hm⟩
    · cases e
  · cases e
/-- return x, x a slot's own -/
theorem sd_retv {i : Nat} (hi : I i = 0) (hm : Γ.getD i 0 = r) (hio : ∀ i, I i ≠ 0 → Γ.getD i 0 = I i) : SdS K W I r Γ Γb Γ' (tRet (tVar i)) (sRet r (eVar i)) := by
  refine ⟨fun {E ρ σ H Φ} hI R o e D q => ?_⟩
  unfold sRet at e
  split at e
  · rename_i d e1
    split at e
    · rename_i him
      cases e
      obtain ⟨v, h1, h2⟩ := R.val i d (eVar_some e1)
      rw [hm] at h2
      refine ⟨v, h1, q v H ⟨Γ, σ, Φ, Φ i, R, fun i n => by rw [hI] at n ⊢; exact hio i n, fun a m => ?_, R.nd i, fun j n a m m' => ?_, fun N => h2.immB him⟩⟩
      · rcases R.nw i a m with z | ⟨z, _⟩
        · exact z
        · rw [hI] at z; exact absurd hi z
      · have := R.dj i j a m m'
        subst this
        rw [hI] at n; exact n hi
    · cases e
  · cases e
def sRetN : Store → Option O := fun ρ => some (.rt .non ρ)
theorem sd_retN (hio : ∀ i, I i ≠ 0 → Γ.getD i 0 = I i) : SdS K W I r Γ Γb Γ' tRetN sRetN := by
  refine ⟨fun {E ρ σ H Φ} hI R o e D q => ?_⟩
  cases e
  exact q .non H ⟨Γ, σ, Φ, [], R, fun i n => by rw [hI] at n ⊢; exact hio i n, fun a m => (nomatch m), .nil, fun i _ a m => (nomatch m), fun N => .non⟩
def sBk : Store → Option O := fun ρ => some (.bk ρ)
theorem sd_bk : SdS K W I r Γ Γ Γ' tBreak sBk := ⟨fun _ R o e D q => by cases e; exact q _ _ _ R⟩
def sCt : Store → Option O := fun ρ => some (.ct ρ)
theorem sd_ct : SdS K W I r Γ Γ Γ' tCont sCt := ⟨fun _ R o e D q => by cases e; exact q _ _ _ R⟩
end
end VL

/-! VL4: loops, comprehensions. -/
namespace VL
open PySem PySem.Spec L2
open PyProof.Rows hiding St
variable {K : PySem.W.Frag}

theorem Own.int_inv {H : Hp} {N : Addr → Prop} {n : Nat} {i : Int} {v : V} {fp : List Addr} (o : Own K H N n (.int i) v fp) : v = .int i ∧ fp = [] := by
  cases o; exact ⟨rfl, rfl⟩
theorem Own.bl_inv {H : Hp} {N : Addr → Prop} {n : Nat} {i : Bool} {v : V} {fp : List Addr} (o : Own K H N n (.bl i) v fp) : v = .bl i ∧ fp = [] := by
  cases o; exact ⟨rfl, rfl⟩
theorem Own.str_inv {H : Hp} {N : Addr → Prop} {n : Nat} {i : Str} {v : V} {fp : List Addr} (o : Own K H N n (.str i) v fp) : v = .str i ∧ fp = [] := by
  cases o; exact ⟨rfl, rfl⟩
theorem Own.tup_inv {H : Hp} {N : Addr → Prop} {n : Nat} {ds : List D} {v : V} {fp : List Addr} (o : Own K H N n (.tup ds) v fp) : ∃ a vs, v = .ref a ∧ SqT K H a vs ∧ OwnL K H N n ds vs fp := by
  cases o with
  | tup h l => exact ⟨_, _, rfl, h, l⟩
theorem Own.lst_inv0 {H : Hp} {N : Addr → Prop} {ds : List D} {v : V} {fp : List Addr} (o : Own K H N 0 (.lst ds) v fp) : ∃ a vs, v = .ref a ∧ SqL K H a vs ∧ OwnL K H N 0 ds vs fp := by
  cases o with
  | shl n h l => exact ⟨_, _, rfl, .inl h, l⟩
  | kl h l =>
    refine ⟨_, _, rfl, ?_, l⟩
    rcases h with (h | ⟨o, h⟩) | h
    · cases h
    · cases h
    · exact .inr h
theorem Own.lst_inv {H : Hp} {N : Addr → Prop} {n : Nat} {ds : List D} {v : V} {fp : List Addr} (o : Own K H N n (.lst ds) v fp) (hn : n ≠ 0) : ∃ k a vs fp', n = k + 1 ∧ v = .ref a ∧ fp = a :: fp' ∧ H a = some (.lst vs) ∧ OwnL K H N k ds vs fp' := by
  cases o with
  | shl => exact absurd rfl hn
  | kl => exact absurd rfl hn
  | lst h l => exact ⟨_, _, _, _, rfl, rfl, rfl, h, l⟩
theorem OwnL.cons_inv {H : Hp} {N : Addr → Prop} {n : Nat} {d : D} {ds : List D} {vs : List V} {fp : List Addr} (o : OwnL K H N n (d :: ds) vs fp) : ∃ v vs' fp1 fp2, vs = v :: vs' ∧ fp = fp1 ++ fp2 ∧ Own K H N n d v fp1 ∧ OwnL K H N n ds vs' fp2 := by
  cases o with
  | cons h l => exact ⟨_, _, _, _, rfl, rfl, h, l⟩
theorem OwnL.cons_inv0 {H : Hp} {N : Addr → Prop} {d : D} {ds : List D} {vs : List V} {fp : List Addr} (o : OwnL K H N 0 (d :: ds) vs fp) : ∃ v vs', vs = v :: vs' ∧ Own K H N 0 d v [] ∧ OwnL K H N 0 ds vs' [] := by
  obtain ⟨v, vs', fp1, fp2, e1, e2, h, l⟩ := o.cons_inv
  rw [h.fp0 rfl] at h
  rw [l.fp0 rfl] at l
  exact ⟨v, vs', e1, h, l⟩
theorem OwnL.nil_inv {H : Hp} {N : Addr → Prop} {n : Nat} {vs : List V} {fp : List Addr} (o : OwnL K H N n [] vs fp) : vs = [] := by
  cases o; rfl
theorem OwnL.len {H : Hp} {N : Addr → Prop} {n : Nat} : ∀ {ds : List D} {vs : List V} {fp : List Addr}, OwnL K H N n ds vs fp → vs.length = ds.length
  | _, _, _, .nil => rfl
  | _, _, _, .cons _ l => by rw [List.length_cons, List.length_cons, OwnL.len l]
theorem OwnL.get0 {H : Hp} {N : Addr → Prop} : ∀ {ds : List D} {vs : List V} {fp : List Addr}, OwnL K H N 0 ds vs fp → ∀ {i : Nat} {d : D}, ds[i]? = some d → ∃ v, vs[i]? = some v ∧ Own K H N 0 d v []
  | _, _, _, .nil, i, d, e => by simp at e
  | _, _, _, .cons h l, 0, d, e => by
    simp at e; subst e
    rw [h.fp0 rfl] at h
    exact ⟨_, rfl, h⟩
  | _, _, _, .cons h l, i + 1, d, e => by
    obtain ⟨v, h1, h2⟩ := OwnL.get0 l (i := i) (d := d) (by simpa using e)
    exact ⟨v, by simpa using h1, h2⟩
/-- what slot i owns is shared from now on -/
theorem StR.dem {E : Entry} {Γ : List Nat} {ρ : Store} {σ : St} {H : Hp} {Φ : Nat → List Addr} (i : Nat) (R : StR K E Γ ρ σ H Φ) : StR K E (Γ.set i 0) ρ σ H (fun j => if j = i then [] else Φ j) := by
  have up : ∀ a, (∀ j, a ∉ Φ j) → ∀ j, a ∉ (if j = i then [] else Φ j) := fun a z j => by
    split
    · exact List.not_mem_nil
    · exact z j
  refine ⟨R.len, by rw [List.length_set]; exact R.gl, fun j d e => ?_, fun j lj e => ?_, fun j => ?_, fun j k a h1 h2 => ?_, fun j a h => ?_, fun j a h => ?_, R.kp, R.dm, R.iv, fun p m => (R.gh p m).move (fun a o e _ => e) (fun a o e z => ⟨e, up a z⟩) fun a m => (nomatch m)⟩
  · obtain ⟨v, h1, h2⟩ := R.val j d e
    refine ⟨v, h1, ?_⟩
    by_cases hj : j = i
    · subst hj
      have g0 : (Γ.set j 0).getD j 0 = 0 := by
        rw [List.getD_eq_getElem?_getD]
        by_cases hl : j < Γ.length
        · rw [List.getElem?_set_self hl]; rfl
        · rw [List.getElem?_eq_none (by rw [List.length_set]; omega)]; rfl
      rw [g0, if_pos rfl]
      refine h2.share up fun a m k => ?_
      split
      · exact List.not_mem_nil
      · rename_i nk; exact fun m' => nk (R.dj k j a m' m)
    · rw [if_neg hj]
      have g : (Γ.set i 0).getD j 0 = Γ.getD j 0 := by
        rw [List.getD_eq_getElem?_getD, List.getD_eq_getElem?_getD, List.getElem?_set_ne (Ne.symm hj)]
      rw [g]
      exact h2.move (fun a o e _ => e) (fun a o e z => ⟨e, up a z⟩) fun a _ o e => e
  · show (if j = i then [] else Φ j) = []
    split
    · rfl
    · rename_i hj
      refine R.em j lj ?_
      rw [List.getD_eq_getElem?_getD, List.getElem?_set_ne (Ne.symm hj), ← List.getD_eq_getElem?_getD] at e
      exact e
  · show (if j = i then [] else Φ j).Nodup
    split
    · exact .nil
    · exact R.nd j
  · have h1 : a ∈ (if j = i then [] else Φ j) := h1
    have h2 : a ∈ (if k = i then [] else Φ k) := h2
    split at h1
    · cases h1
    · split at h2
      · cases h2
      · exact R.dj j k a h1 h2
  · have h : a ∈ (if j = i then [] else Φ j) := h
    split at h
    · cases h
    · exact R.lv j a h
  · have h : a ∈ (if j = i then [] else Φ j) := h
    split at h
    · cases h
    · exact R.nw j a h
/-- new things that no slot holds are kept apart -/
theorem StR.hide {E : Entry} {Γ : List Nat} {ρ : Store} {σ : St} {H H' : Hp} {Φ : Nat → List Addr} {Ψ : List Addr} (R : StR K E Γ ρ σ H Φ) (x : Ext H H') (new : ∀ a ∈ Ψ, H a = none) (lv : ∀ a ∈ Ψ, ∃ o, H' a = some o ∧ notTup o) (nd : Ψ.Nodup) {J : Nat} (hJ : ρ.length ≤ J) :
    StR K E Γ ρ σ H' (fun j => if j = J then Φ j ++ Ψ else Φ j) := by
  have nΨ : ∀ a o, H a = some o → a ∉ Ψ := fun a o e m => by have := new a m; rw [e] at this; cases this
  have up : ∀ a o, H a = some o → (∀ j, a ∉ Φ j) → ∀ j, a ∉ (if j = J then Φ j ++ Ψ else Φ j) := fun a o e z j => by
    split
    · exact fun m => (List.mem_append.mp m).elim (z j) (nΨ a o e)
    · exact z j
  have sub : ∀ j a, a ∈ (if j = J then Φ j ++ Ψ else Φ j) → a ∈ Φ j ∨ (j = J ∧ a ∈ Ψ) := fun j a h => by
    split at h
    · rename_i ej
      exact (List.mem_append.mp h).elim .inl fun m => .inr ⟨ej, m⟩
    · exact .inl h
  have R' := R.ext x
  refine ⟨R.len, R.gl, fun j d e => ?_, fun j lj e => ?_, fun j => ?_, fun j k a h1 h2 => ?_, fun j a h => ?_, fun j a h => ?_, R'.kp, R'.dm, R.iv, fun p m => (R.gh p m).move (fun a o e _ => x a o e) (fun a o e z => ⟨x a o e, up a o e z⟩) fun a m => (nomatch m)⟩
  · obtain ⟨v, h1, h2⟩ := R.val j d e
    refine ⟨v, h1, ?_⟩
    rw [if_neg (by have := lt_of_some e; omega)]
    exact h2.move (fun a o e _ => x a o e) (fun a o e z => ⟨x a o e, up a o e z⟩) fun a _ o e => x a o e
  · rw [if_neg (by omega)]
    exact R.em j lj e
  · show (if j = J then Φ j ++ Ψ else Φ j).Nodup
    split
    · exact List.nodup_append.mpr ⟨R.nd j, nd, fun a m1 b m2 e => by subst e; exact R.notIn (new a m2) j m1⟩
    · exact R.nd j
  · rcases sub j a h1 with h1 | ⟨e1, h1⟩
    · rcases sub k a h2 with h2 | ⟨e2, h2⟩
      · exact R.dj j k a h1 h2
      · exact absurd h1 (R.notIn (new a h2) j)
    · rcases sub k a h2 with h2 | ⟨e2, h2⟩
      · exact absurd h2 (R.notIn (new a h1) k)
      · rw [e1, e2]
  · rcases sub j a h with h | ⟨_, h⟩
    · exact R'.lv j a h
    · exact lv a h
  · rcases sub j a h with h | ⟨_, h⟩
    · exact R.nw j a h
    · exact .inl (R.fresh (new a h))
section
variable {W : WX} {I : Nat → Nat} {r : Nat} {Γ Γb Γ1 Γ2 Γ' : List Nat} {t : TS} {F : Store → Option O}
theorem SdS.demIn (i : Nat) (h : SdS K W I r (Γ.set i 0) Γb Γ' t F) : SdS K W I r Γ Γb Γ' t F := ⟨fun hi R o e D q => h.run hi (R.dem i) o e D q⟩
theorem SdS.demOut (i : Nat) (h : SdS K W I r Γ Γb Γ' t F) : SdS K W I r Γ Γb (Γ'.set i 0) t F := ⟨fun {E ρ σ H Φ} hi R o e D q => h.run hi R o e D (by
  cases o with
  | nx ρ' => exact fun σ H Φ R' => q _ _ _ (R'.dem i)
  | rt d ρ' => exact q
  | bk ρ' => exact q
  | ct ρ' => exact q
  | ex C w ρ' => exact q)⟩
end
/-! ### what is walked -/
/-- the iterator J walks the items ds, while gv stands for gd -/
structure Wk (K : PySem.W.Frag) (J : It) (gd : D) (gv : V) (ds : List D) : Prop where
  go : ∀ {H : Hp} {N : Addr → Prop}, Own K H N 0 gd gv [] → ∀ i d, ds[i]? = some d → J.go i H ∧ ∀ x H2, J.yld i H x H2 → Ext H H2 ∧ Own K H2 N 0 d x []
  stop : ∀ {H : Hp} {N : Addr → Prop}, Own K H N 0 gd gv [] → J.stop ds.length H
structure SdI (K : PySem.W.Frag) (Γ : List Nat) (wi : TI) (f : Store → Option (List D)) : Prop where
  run : ∀ {E : Entry} {ρ : Store} {σ : St} {H : Hp} {Φ : Nat → List Addr}, StR K E Γ ρ σ H Φ → ∀ (ds : List D), f ρ = some ds → ∀ R : It → Hp → Prop,
    (∀ J H' gd gv, Ext H H' → Own K H' (fun a => ∀ j, a ∉ Φ j) 0 gd gv [] → Wk K J gd gv ds → R J H') → wi σ H R
structure Iv (X : Cx) (Γ : List Nat) (tg iter : Expr) (f : Store → Option (List D)) (wi : TI) : Prop where
  pi : PI X tg iter wi
  sd : SdI X.K Γ wi f
/-- where an item goes -/
structure SdG (K : PySem.W.Frag) (I : Nat → Nat) (Γ : List Nat) (g : TG) (Γ' : List Nat) (f : D → Store → Option Store) (is : List Nat) : Prop where
  run : ∀ {E : Entry} {ρ : Store} {σ : St} {H : Hp} {Φ : Nat → List Addr}, E.io = I → StR K E Γ ρ σ H Φ → ∀ {d : D} {v : V}, Own K H (fun a => ∀ j, a ∉ Φ j) 0 d v [] → ∀ {ρ' : Store}, f d ρ = some ρ' → ∀ Q : St → Hp → Prop,
    (∀ σ' Φ', StR K E Γ' ρ' σ' H Φ' → ((∀ k, k ∉ is → σ'[k]? = σ[k]?) ∧ σ'.length = σ.length) → (∀ k, k ∉ is → Φ' k = Φ k) → Q σ' H) → g v σ H Q
structure Gv (X : Cx) (I : Nat → Nat) (Γ : List Nat) (tg : Expr) (Γ' : List Nat) (f : D → Store → Option Store) (is : List Nat) (g : TG) : Prop where
  pg : PG X tg g
  sd : SdG X.K I Γ g Γ' f is
section
variable {I : Nat → Nat} {Γ : List Nat}
def gSet (i : Nat) : D → Store → Option Store := fun d ρ => some (ρ.set i (some d))
theorem sdg_name {i : Nat} (hG : i < Γ.length) (hi : I i = 0) : SdG K I Γ (gName i) (Γ.set i 0) (gSet i) [i] := by
  refine ⟨fun {E ρ σ H Φ} hI R d v o ρ' e Q q => ?_⟩
  cases e
  exact q _ _ (R.set (Ψ := []) ⟨.rfl' _, fun a m => (nomatch m), .nil, o.move (fun a o e _ => e) (fun a o e z => ⟨e, List.not_mem_nil, fun j _ => z j⟩) fun a m => (nomatch m)⟩ hG (by rw [hI]; exact hi)) ⟨fun k n => List.getElem?_set_ne fun e => n (by rw [e]; exact List.mem_singleton.mpr rfl), List.length_set⟩ fun k n => if_neg fun e => n (by rw [e]; exact List.mem_singleton.mpr rfl)
/-- a, b = an item -/
def gSet2 (i j : Nat) : D → Store → Option Store := fun d ρ => match d with
  | .tup [x, y] => some ((ρ.set i (some x)).set j (some y))
  | _ => none
theorem sdg_two {i j : Nat} (hG : i < Γ.length) (hG' : j < Γ.length) (hi : I i = 0) (hj : I j = 0) : SdG K I Γ (gTup K 2 (gCons (gName i) (gCons (gName j) gNil))) ((Γ.set i 0).set j 0) (gSet2 i j) [i, j] := by
  refine ⟨fun {E ρ σ H Φ} hI R d v o ρ' e Q q => ?_⟩
  unfold gSet2 at e
  split at e
  · rename_i x y
    cases e
    obtain ⟨a, vs, rfl, hs, hl⟩ := o.tup_inv
    obtain ⟨v1, vs1, rfl, h1, hl⟩ := hl.cons_inv0
    obtain ⟨v2, vs2, rfl, h2, hl⟩ := hl.cons_inv0
    obtain rfl := hl.nil_inv
    refine ⟨a, [v1, v2], rfl, hs, rfl, v1, [v2], rfl, ?_⟩
    have R1 := R.set (i := i) (Ψ := []) ⟨.rfl' _, fun a m => (nomatch m), .nil, h1.move (N' := fun a => a ∉ [] ∧ ∀ j, j ∉ [] → a ∉ Φ j) (fun a o e _ => e) (fun a o e z => ⟨e, List.not_mem_nil, fun j _ => z j⟩) fun a m => (nomatch m)⟩ hG (by rw [hI]; exact hi)
    have R2 := R1.set (i := j) (Ψ := []) ⟨.rfl' _, fun a m => (nomatch m), .nil, h2.move (N' := fun a => a ∉ [] ∧ ∀ k, k ∉ [] → a ∉ (if k = i then [] else Φ k)) (fun a o e _ => e) (fun a o e z => ⟨e, List.not_mem_nil, fun k _ => by
      split
      · exact List.not_mem_nil
      · exact z k⟩) fun a m => (nomatch m)⟩ (by rw [List.length_set]; exact hG') (by rw [hI]; exact hj)
    refine ⟨v2, [], rfl, rfl, q _ _ R2 ⟨fun k n => ?_, by rw [List.length_set, List.length_set]⟩ fun k n => ?_⟩
    · have n1 : j ≠ k := fun e => n (by rw [e]; exact List.mem_cons_of_mem _ (List.mem_singleton.mpr rfl))
      have n2 : i ≠ k := fun e => n (by rw [e]; exact List.mem_cons_self)
      rw [List.getElem?_set_ne n1, List.getElem?_set_ne n2]
    · have n1 : k ≠ j := fun e => n (by rw [e]; exact List.mem_cons_of_mem _ (List.mem_singleton.mpr rfl))
      have n2 : k ≠ i := fun e => n (by rw [e]; exact List.mem_cons_self)
      show (if k = j then [] else if k = i then [] else Φ k) = Φ k
      rw [if_neg n1, if_neg n2]
  · cases e
end

/-! ### for, while -/
section
variable {W : WX} {I : Nat → Nat} {r : Nat} {Γ Γt Γb Γ' : List Nat}
def forD (g : D → Store → Option Store) (F : Store → Option O) : List D → Store → Option O
  | [], ρ => some (.nx ρ)
  | d :: ds, ρ => match g d ρ with
    | none => none
    | some ρ1 => match F ρ1 with
      | some (.nx ρ2) => forD g F ds ρ2
      | some (.ct ρ2) => forD g F ds ρ2
      | some (.bk ρ2) => some (.nx ρ2)
      | o => o
def sFor (it : Store → Option (List D)) (g : D → Store → Option Store) (F : Store → Option O) : Store → Option O := fun ρ => match it ρ with
  | some ds => forD g F ds ρ
  | none => none
theorem StR.ghost {E : Entry} {ρ : Store} {σ : St} {H : Hp} {Φ : Nat → List Addr} (R : StR K E Γ ρ σ H Φ) {gd : D} {gv : V} (o : Own K H (fun a => ∀ j, a ∉ Φ j) 0 gd gv []) : StR K { E with G := (gd, gv) :: E.G } Γ ρ σ H Φ :=
  ⟨R.len, R.gl, R.val, R.em, R.nd, R.dj, R.lv, R.nw, R.kp, R.dm, R.iv, fun p m => (List.mem_cons.mp m).elim (fun e => by subst e; exact o) fun m => R.gh p m⟩
theorem StR.unghost {E : Entry} {p : D × V} {ρ : Store} {σ : St} {H : Hp} {Φ : Nat → List Addr} (R : StR K { E with G := p :: E.G } Γ ρ σ H Φ) : StR K E Γ ρ σ H Φ :=
  ⟨R.len, R.gl, R.val, R.em, R.nd, R.dj, R.lv, R.nw, R.kp, R.dm, R.iv, fun p m => R.gh p (List.mem_cons_of_mem _ m)⟩
theorem sd_for {wi : TI} {g : TG} {tb : TS} {it : Store → Option (List D)} {gf : D → Store → Option Store} {F : Store → Option O} (hi : SdI K Γ wi it) {is : List Nat} (hg : SdG K I Γ g Γt gf is) (hb : SdS K W I r Γt Γ Γ tb F) : SdS K W I r Γ Γb Γ (tFor wi g tb) (sFor it gf F) := by
  refine ⟨fun {E ρ σ H Φ} hI R o e D q => ?_⟩
  unfold sFor at e
  split at e
  · rename_i ds e1
    refine hi.run R ds e1 _ fun J H' gd gv x og wk => ?_
    have R1 := (R.ext x).ghost og
    refine ⟨fun i m σ H => ∃ ρ Φ, StR K { E with G := (gd, gv) :: E.G } Γ ρ σ H Φ ∧ m = ds.length - i ∧ i ≤ ds.length ∧ forD gf F (ds.drop i) ρ = some o, ⟨ds.length, ρ, Φ, R1, by simp, Nat.zero_le _, by rw [List.drop_zero]; exact e⟩, fun i m σ H w => ?_⟩
    obtain ⟨ρ, Φ, R, em, hle, e⟩ := w
    have og := R.gh _ List.mem_cons_self
    by_cases hlt : i < ds.length
    · right
      obtain ⟨go, yl⟩ := wk.go og i ds[i] (List.getElem?_eq_getElem hlt)
      rw [List.drop_eq_getElem_cons hlt] at e
      unfold forD at e
      split at e
      · cases e
      · rename_i ρ1 e2
        refine ⟨go, fun σ' H' => ∃ ρ Φ, StR K { E with G := (gd, gv) :: E.G } Γ ρ σ' H' Φ ∧ forD gf F (ds.drop (i + 1)) ρ = some o, fun σ' H' n => ?_, fun v H2 y => ?_⟩
        · obtain ⟨ρ, Φ, R, e⟩ := n
          exact ⟨ds.length - (i + 1), by omega, ρ, Φ, R, rfl, hlt, e⟩
        · obtain ⟨x2, ov⟩ := yl v H2 y
          refine hg.run (E := { E with G := (gd, gv) :: E.G }) hI (R.ext x2) ov e2 _ fun σ2 Φ2 R2 _ _ => ?_
          cases e3 : F ρ1 with
          | none => rw [e3] at e; cases e
          | some ob =>
            rw [e3] at e
            refine hb.run (E := { E with G := (gd, gv) :: E.G }) hI R2 ob e3 _ ?_
            cases ob with
            | nx ρ2 => exact fun σ3 H3 Φ3 R3 => ⟨ρ2, Φ3, R3, e⟩
            | ct ρ2 => exact fun σ3 H3 Φ3 R3 => ⟨ρ2, Φ3, R3, e⟩
            | bk ρ2 =>
              obtain rfl : O.nx ρ2 = o := Option.some.inj e
              exact fun σ3 H3 Φ3 R3 => q σ3 H3 Φ3 R3.unghost
            | rt d ρ2 =>
              obtain rfl : O.rt d ρ2 = o := Option.some.inj e
              rintro v' H3 ⟨Γ3, σ3, Φ3, Ψ3, R3, z⟩
              exact q v' H3 ⟨Γ3, σ3, Φ3, Ψ3, R3.unghost, z⟩
            | ex C w ρ2 =>
              obtain rfl : O.ex C w ρ2 = o := Option.some.inj e
              exact fun Γ3 σ3 H3 Φ3 dx R3 => q Γ3 σ3 H3 Φ3 dx R3.unghost
    · left
      have ei : i = ds.length := by omega
      subst ei
      rw [List.drop_length] at e
      obtain rfl : O.nx ρ = o := Option.some.inj e
      exact ⟨wk.stop og, q σ H Φ R.unghost⟩
  · cases e
def whileD (c : Store → Option Bool) (F : Store → Option O) : Nat → Store → Option O
  | 0, _ => none
  | n + 1, ρ => match c ρ with
    | none => none
    | some false => some (.nx ρ)
    | some true => match F ρ with
      | some (.nx ρ2) => whileD c F n ρ2
      | some (.ct ρ2) => whileD c F n ρ2
      | some (.bk ρ2) => some (.nx ρ2)
      | o => o
open Classical in
noncomputable def sWhile (c : Store → Option Bool) (F : Store → Option O) : Store → Option O := fun ρ => if h : ∃ n o, whileD c F n ρ = some o then some (choose (choose_spec h)) else none
theorem whileD_mono {c : Store → Option Bool} {F : Store → Option O} : ∀ {n : Nat} {ρ : Store} {o : O}, whileD c F n ρ = some o → ∀ k, whileD c F (n + k) ρ = some o
  | 0, ρ, o, e, k => by cases e
  | n + 1, ρ, o, e, k => by
    rw [Nat.succ_add]
    unfold whileD at e ⊢
    split at e
    · cases e
    · exact e
    · split at e
      · exact whileD_mono e k
      · exact whileD_mono e k
      · exact e
      · exact e
theorem sWhile_eq {c : Store → Option Bool} {F : Store → Option O} {n : Nat} {ρ : Store} {o : O} (e : whileD c F n ρ = some o) : sWhile c F ρ = some o := by
  have h : ∃ n o, whileD c F n ρ = some o := ⟨n, o, e⟩
  unfold sWhile
  rw [dif_pos h]
  have e2 := Classical.choose_spec (Classical.choose_spec h)
  have e3 := whileD_mono e (Classical.choose h)
  have e4 := whileD_mono e2 n
  rw [Nat.add_comm] at e4
  rw [e3] at e4
  exact e4.symm
theorem sWhile_of {c : Store → Option Bool} {F : Store → Option O} {ρ : Store} {o : O} (e : sWhile c F ρ = some o) : ∃ n, whileD c F n ρ = some o := by
  unfold sWhile at e
  split at e
  · rename_i h
    cases e
    exact ⟨_, Classical.choose_spec (Classical.choose_spec h)⟩
  · cases e
theorem sd_while {tc : TT} {tb : TS} {c : Store → Option Bool} {F : Store → Option O} (hc : SdT K Γ tc c) (hb : SdS K W I r Γ Γ Γ tb F) : SdS K W I r Γ Γb Γ (tWhile tc tb) (sWhile c F) := by
  refine ⟨fun {E ρ σ H Φ} hI R o e D q => ?_⟩
  obtain ⟨n, e⟩ := sWhile_of e
  refine ⟨fun m σ H => ∃ ρ Φ, StR K E Γ ρ σ H Φ ∧ whileD c F m ρ = some o, ⟨n, ρ, Φ, R, e⟩, fun m σ H w => ?_⟩
  obtain ⟨ρ, Φ, R, e⟩ := w
  cases m with
  | zero => cases e
  | succ m =>
    unfold whileD at e
    split at e
    · cases e
    · rename_i e1
      obtain rfl : O.nx ρ = o := Option.some.inj e
      refine hc.run R _ e1 _ fun H1 x => ?_
      rw [if_neg Bool.false_ne_true]
      exact q σ H1 Φ (R.ext x)
    · rename_i e1
      refine hc.run R _ e1 _ fun H1 x => ?_
      rw [if_pos rfl]
      refine ⟨fun σ' H' => ∃ ρ Φ, StR K E Γ ρ σ' H' Φ ∧ whileD c F m ρ = some o, fun σ' H' n => ⟨m, Nat.lt_succ_self _, n⟩, ?_⟩
      cases e3 : F ρ with
      | none => rw [e3] at e; cases e
      | some ob =>
        rw [e3] at e
        refine hb.run hI (R.ext x) ob e3 _ ?_
        cases ob with
        | nx ρ2 => exact fun σ3 H3 Φ3 R3 => ⟨ρ2, Φ3, R3, e⟩
        | ct ρ2 => exact fun σ3 H3 Φ3 R3 => ⟨ρ2, Φ3, R3, e⟩
        | bk ρ2 =>
          obtain rfl : O.nx ρ2 = o := Option.some.inj e
          exact fun σ3 H3 Φ3 R3 => q σ3 H3 Φ3 R3
        | rt d ρ2 =>
          obtain rfl : O.rt d ρ2 = o := Option.some.inj e
          exact q
        | ex C w ρ2 =>
          obtain rfl : O.ex C w ρ2 = o := Option.some.inj e
          exact q
end
end VL

/-! VL5: arguments, calls, defs; tests; arithmetic. -/
namespace VL
open PySem PySem.Spec L2
open PyProof.Rows hiding St
variable {K : PySem.W.Frag}

theorem le_sum_mem : ∀ {l : List Nat} {j : Nat}, j ∈ l → j ≤ l.sum
  | a :: r, j, m => by
    rw [List.sum_cons]
    rcases List.mem_cons.mp m with e | m
    · omega
    · have := le_sum_mem m; omega
section
variable {X : Cx} {Γ : List Nat} {e : Expr} {es : List Expr} {m : Nat} {B B1 B2 : List Nat} {f g : Store → Option D} {t u : TE} {ta : TA} {pos : Pos}
/-! ### argument lists -/
def aNil : Store → Option (List D) := fun _ => some []
def aCons (f : Store → Option D) (fa : Store → Option (List D)) : Store → Option (List D) := fun ρ => match f ρ with
  | some d => (match fa ρ with | some ds => some (d :: ds) | none => none)
  | none => none
theorem sd_anil : SdA K Γ tNil m [] aNil := ⟨fun R ds e Q q => by cases e; exact q [] _ [] ⟨.rfl' _, fun a m => (nomatch m), .nil, .nil⟩⟩
theorem sd_acons {fa : Store → Option (List D)} (h1 : SdE K Γ t m B1 f) (h2 : SdA K Γ ta m B2 fa) : SdA K Γ (tCons t ta) m (B1 ++ B2) (aCons f fa) := by
  refine ⟨fun {E ρ σ H Φ} R ds e Q q => ?_⟩
  unfold aCons at e
  split at e
  · rename_i d e1
    split at e
    · rename_i ds' e2
      cases e
      refine h1.run R _ e1 _ fun v H1 Ψ1 r1 => ?_
      have hJ : ∀ j ∈ B2, j ≤ B2.sum := fun j m => le_sum_mem m
      refine h2.run (R.hide r1.ext r1.new (fun a m => r1.own.live a m) r1.nd (J := ρ.length + B2.sum + 1) (by omega)) _ e2 _ fun vs H2 Ψ2 r2 => ?_
      have n2 : ∀ a ∈ Ψ2, H a = none := fun a m => by
        cases e : H a with
        | none => rfl
        | some o => have := r1.ext a o e; rw [r2.new a m] at this; cases this
      have dis : ∀ a ∈ Ψ1, a ∉ Ψ2 := fun a m1 m2 => by
        obtain ⟨o, e, _⟩ := r1.own.live a m1
        rw [r2.new a m2] at e; cases e
      refine q (v :: vs) H2 (Ψ1 ++ Ψ2) ⟨fun a o e => r2.ext a o (r1.ext a o e), fun a m => (List.mem_append.mp m).elim (r1.new a) (n2 a), List.nodup_append.mpr ⟨r1.nd, r2.nd, fun a m1 b m2 e => dis a m1 (e ▸ m2)⟩, ?_⟩
      refine .cons (r1.own.move (fun a o e _ => r2.ext a o e) (fun a o e z => ⟨r2.ext a o e, fun m => ?_, fun j nj => z.2 j fun m => nj (List.mem_append_left _ m)⟩) fun a _ o e => r2.ext a o e) (r2.own.move (fun a o e _ => e) (fun a o e z => ⟨e, fun m => ?_, fun j nj => by
        have q := z.2 j fun m => nj (List.mem_append_right _ m)
        split at q
        · exact fun m => q (List.mem_append_left _ m)
        · exact q⟩) fun a _ o e => e)
      · rcases List.mem_append.mp m with m | m
        · exact z.1 m
        · rw [r2.new a m] at e; cases e
      · rcases List.mem_append.mp m with m | m
        · have q := z.2 (ρ.length + B2.sum + 1) fun m => by have := hJ _ m; omega
          rw [if_pos rfl] at q
          exact q (List.mem_append_right _ m)
        · exact z.1 m
    · cases e
  · cases e
theorem av_nil : Av X Γ [] m [] aNil tNil := ⟨pa_nil, sd_anil⟩
theorem av_cons {fa : Store → Option (List D)} (h1 : Ev X Γ e m B1 f t) (h2 : Av X Γ es m B2 fa ta) (hs : starEach (e :: es) X.env = (false, eval e X.env) :: starEach es X.env := by rfl) : Av X Γ (e :: es) m (B1 ++ B2) (aCons f fa) (tCons t ta) :=
  ⟨pa_cons h1.pe h2.pa hs, sd_acons h1.sd h2.sd⟩
/-- shared argument lists: what is asked, and what comes -/
structure OpA (K : PySem.W.Frag) (r : List V → Hp → VK → Prop) (m : Nat) (g : List D → Option D) : Prop where
  run : ∀ {H : Hp} {N : Addr → Prop} {ds : List D} {d : D} {vs : List V}, OwnL K H N 0 ds vs [] → g ds = some d → ∀ Q : VK,
    (∀ v H' Ψ, Ext H H' → (∀ a ∈ Ψ, H a = none) → Ψ.Nodup → Own K H' (fun a => N a ∨ (H a = none ∧ a ∉ Ψ)) m d v Ψ → Q v H') → r vs H Q
def eCall (g : List D → Option D) (fa : Store → Option (List D)) : Store → Option D := fun ρ => match fa ρ with
  | some ds => g ds
  | none => none
/-- the end of an operation over shared things -/
theorem res_of {E : Entry} {ρ : Store} {σ : St} {H H1 H2 : Hp} {Φ : Nat → List Addr} (R : StR K E Γ ρ σ H Φ) (x1 : Ext H H1) {d : D} {v : V} {Ψ : List Addr} (x2 : Ext H1 H2) (new : ∀ a ∈ Ψ, H1 a = none) (nd : Ψ.Nodup)
    (o : Own K H2 (fun a => ((∃ o, H1 a = some o) ∧ ∀ j, j ∉ B → a ∉ Φ j) ∨ (H1 a = none ∧ a ∉ Ψ)) m d v Ψ) : Res K B Φ m d H v H2 Ψ := by
  refine ⟨fun a o e => x2 a o (x1 a o e), fun a m => ?_, nd, o.move (fun a o e _ => e) (fun a o e z => ⟨e, ?_⟩) fun a _ o e => e⟩
  · cases e : H a with
    | none => rfl
    | some o => have := x1 a o e; rw [new a m] at this; cases this
  · rcases z with z | ⟨z, nΨ⟩
    · refine ⟨fun m => ?_, z.2⟩
      obtain ⟨o', z'⟩ := z.1
      rw [new a m] at z'; cases z'
    · exact ⟨nΨ, fun j _ => (R.ext x1).notIn z j⟩
theorem SdA.sh {fa : Store → Option (List D)} (h : SdA K Γ ta 0 B fa) {E : Entry} {ρ : Store} {σ : St} {H : Hp} {Φ : Nat → List Addr} (R : StR K E Γ ρ σ H Φ) {ds : List D} (e : fa ρ = some ds) (Q : List V → Hp → Prop)
    (q : ∀ vs H1, Ext H H1 → OwnL K H1 (fun a => (∃ o, H1 a = some o) ∧ ∀ j, j ∉ B → a ∉ Φ j) 0 ds vs [] → Q vs H1) : ta σ H Q :=
  h.run R ds e Q fun vs H1 Ψ r => q vs H1 r.ext (by
    have o := r.own
    rw [o.fp0 rfl] at o
    exact o.move (fun a o e _ => e) (fun a o e z => ⟨e, ⟨o, e⟩, z.2⟩) fun a _ o e => e)
theorem SdE.sh (h : SdE K Γ t m B f) {E : Entry} {ρ : Store} {σ : St} {H : Hp} {Φ : Nat → List Addr} (R : StR K E Γ ρ σ H Φ) {d : D} (e : f ρ = some d) (Q : VK)
    (q : ∀ v H1, Ext H H1 → Own K H1 (fun a => (∃ o, H1 a = some o) ∧ ∀ j, j ∉ B → a ∉ Φ j) 0 d v [] → Q v H1) : t σ H Q :=
  h.share.run R d e Q fun v H1 Ψ r => q v H1 r.ext (by
    have o := r.own
    rw [o.fp0 rfl] at o
    exact o.move (fun a o e _ => e) (fun a o e z => ⟨e, ⟨o, e⟩, z.2⟩) fun a _ o e => e)
theorem sd_cb {r : List V → Hp → VK → Prop} {g : List D → Option D} {fa : Store → Option (List D)} (ho : OpA K r m g) (ha : SdA K Γ ta 0 B fa) : SdE K Γ (tCB r ta) m B (eCall g fa) := by
  refine ⟨fun {E ρ σ H Φ} R d e Q q => ?_⟩
  unfold eCall at e
  split at e
  · rename_i ds e1
    refine ha.sh R e1 _ fun vs H1 x o => ?_
    exact ho.run o e Q fun v H2 Ψ x2 new nd o2 => q v H2 Ψ (res_of R x x2 new nd o2)
  · cases e
theorem ev_callB {id : String} {x : Str} {p : Pos} {r : List V → Hp → VK → Prop} {g : List D → Option D} {fa : Store → Option (List D)} (hc : CallR X (.builtin id) r) (ho : OpA X.K r m g) (hg : Gl X x) (hm : X.mg x = none) (hv : bootBuiltins x = some (.builtin id))
    (ha : Av X Γ (e :: es) 0 B fa ta) (hn : x ≠ "__name__" := by decide) (hdb : (x == ("__debug__" : Str)) = false := by decide) (he : starEach (e :: es) X.env = (false, eval e X.env) :: starEach es X.env := by rfl) (hpl : (backTo pos (starEach es X.env)).any (·.1) = false := by rfl) :
    Ev X Γ (.Call (.Name x p) (e :: es) [] pos) m B (eCall g fa) (tCB r ta) := ⟨pe_callB hc hg hm hv ha.pa hn hdb he hpl, sd_cb ho ha.sd⟩
theorem ev_callTy {T : String} {x : Str} {p : Pos} {r : List V → Hp → VK → Prop} {g : List D → Option D} {fa : Store → Option (List D)} (hc : CallR X (.type T) r) (ho : OpA X.K r m g) (hg : Gl X x) (hm : X.mg x = none) (hv : bootBuiltins x = some (.type T))
    (ha : Av X Γ (e :: es) 0 B fa ta) (hn : x ≠ "__name__" := by decide) (hdb : (x == ("__debug__" : Str)) = false := by decide) (he : starEach (e :: es) X.env = (false, eval e X.env) :: starEach es X.env := by rfl) (hpl : (backTo pos (starEach es X.env)).any (·.1) = false := by rfl) :
    Ev X Γ (.Call (.Name x p) (e :: es) [] pos) m B (eCall g fa) (tCB r ta) := ⟨pe_callTy hc hg hm hv ha.pa hn hdb he hpl, sd_cb ho ha.sd⟩

/-! ### defs that let nothing out -/
/-- the promise: n arguments that are read; the value F of them, owned to depth r -/
def sp0 (K : PySem.W.Frag) (n r : Nat) (F : List D → Option D) : Sp := fun vs H Q _ => ∃ (ds : List D) (d : D), ds.length = n ∧ OwnL K H (fun _ => True) 0 ds vs [] ∧ F ds = some d ∧
  ∀ v H' Ψ, Ext H H' → (∀ a ∈ Ψ, H a = none) → Ψ.Nodup → (∀ N, Own K H' N r d v Ψ) → Q v H'
def fn0 (N : Nat) (F : Store → Option O) : List D → Option D := fun ds => match F (ds.map some ++ List.replicate (N - ds.length) none) with
  | some (.rt d _) => some d
  | some (.nx _) => some .non
  | _ => none
theorem opA_sp {n r : Nat} {F : List D → Option D} {E : XK} : OpA K (fun vs H Q => sp0 K n r F vs H Q E) r (fun ds => if ds.length = n then F ds else none) := by
  refine ⟨fun {H N ds d vs} o e Q q => ?_⟩
  split at e
  · rename_i hn
    exact ⟨ds, d, hn, o.move (fun a o e _ => e) (fun a o e z => ⟨e, trivial⟩) fun a _ o e => e, e, fun v H' Ψ x new nd o => q v H' Ψ x new nd (o _)⟩
  · cases e
def callF (n : Nat) (dds : List D) (F : List D → Option D) : List D → Option D := fun ds => if (ds ++ dds).length = n then F (ds ++ dds) else none
theorem sd_call {n r : Nat} {F : List D → Option D} {fa : Store → Option (List D)} {dds : List D} {dvs : List V} {E : XK} (hd : OwnL K (fun _ => none) (fun _ => True) 0 dds dvs []) (ha : SdA K Γ ta 0 B fa) :
    SdE K Γ (tCall (sp0 K n r F) dvs E ta) r [] (eCall (callF n dds F) fa) := by
  refine ⟨fun {En ρ σ H Φ} R d e Q q => ?_⟩
  unfold eCall at e
  split at e
  · rename_i ds e1
    unfold callF at e
    split at e
    · rename_i hn
      refine ha.sh R e1 _ fun vs H1 x o => ?_
      have app : ∀ {ds : List D} {vs : List V}, OwnL K H1 (fun _ => True) 0 ds vs [] → OwnL K H1 (fun _ => True) 0 (ds ++ dds) (vs ++ dvs) [] := by
        intro ds
        induction ds with
        | nil => intro vs o; cases o; exact hd.move (fun a o e => by cases e) (fun a o e => by cases e) fun a _ o e => by cases e
        | cons d ds ih =>
          intro vs o
          obtain ⟨v, vs', rfl, h, l⟩ := o.cons_inv0
          exact .cons (fp := []) (fps := []) h (ih l)
      exact ⟨ds ++ dds, d, hn, app (o.move (fun a o e _ => e) (fun a o e z => ⟨e, trivial⟩) fun a _ o e => e), e, fun v H' Ψ x2 new nd o => q v H' Ψ (res_of R x x2 new nd (o _))⟩
    · cases e
  · cases e
/-- f(e, ..) -/
theorem ev_call {CX : CXT} {k : Nat} {f₀ : Addr} {fd : FuncData} {ps : List Str} {n r : Nat} {F : List D → Option D} {fa : Store → Option (List D)} {dds : List D} {dvs : List V} {dus : List Value} {E : XK} {x : Str} {p : Pos} (G : FnOk X.prog X.w X.K X.mg X.base CX k f₀ fd ps (sp0 X.K n r F)) (hr : Room k X.A) (hg : Gl X x) (hm : X.mg x = some (.ref f₀)) (hk : PySem.W.keepIn X.K (.ref f₀) = true)
    (hb : Binds X.K fd ps dus) (hd : Vals dvs dus) (hx : Passes CX X E) (hdd : OwnL X.K (fun _ => none) (fun _ => True) 0 dds dvs []) (ha : Av X Γ (e :: es) 0 B fa ta)
    (hdb : (x == ("__debug__" : Str)) = false := by decide) (he : starEach (e :: es) X.env = (false, eval e X.env) :: starEach es X.env := by rfl) (hpl : (backTo pos (starEach es X.env)).any (·.1) = false := by rfl) :
    Ev X Γ (.Call (.Name x p) (e :: es) [] pos) r [] (eCall (callF n dds F) fa) (tCall (sp0 X.K n r F) dvs E ta) :=
  ⟨pe_call G hr hg hm hk hb hd hx ha.pa hdb he hpl, sd_call hdd ha.sd⟩
end

section
variable {P : Program} {w : World} {mg : Str → Option Value} {base : Heap}
theorem start_own {H : Hp} {N : List Str} : ∀ {ds : List D} {vs : List V}, OwnL K H (fun _ => True) 0 ds vs [] → ∀ (i : Nat) (d : D), (ds.map some ++ List.replicate (N.length - ds.length) none)[i]? = some (some d) → ∃ v : V, (L2.start N vs)[i]? = some (some v) ∧ Own K H (fun _ => True) 0 d v [] := by
  intro ds vs o i d e
  by_cases h : i < ds.length
  · rw [List.getElem?_append_left (by simpa using h), List.getElem?_map] at e
    cases e2 : ds[i]? with
    | none => rw [e2] at e; cases e
    | some d' =>
      rw [e2] at e; cases e
      obtain ⟨v, h1, h2⟩ := o.get0 e2
      refine ⟨v, ?_, h2⟩
      unfold L2.start
      rw [List.getElem?_append_left (by rw [List.length_map]; exact lt_of_some h1), List.getElem?_map, h1]; rfl
  · rw [List.getElem?_append_right (by simpa using h), List.getElem?_replicate] at e
    split at e <;> cases e
theorem fn_ok {x qual : Str} {params : Arguments} {body : List Stmt} {scope : Scope} {dfl : List V} {kws : List (Str × V)} {f : Addr} {fd : FuncData} {N ps : List Str} {k r : Nat} {F : Store → Option O} (Fn : FunD K x qual params body scope dfl kws f fd) (S : FnScope N ps scope)
    (hb : ∀ (cdv : Value) (A : Around) (outer : List Env) (s : Shared) (H : Hp) (E : XK), Room k (A.deeper (envOfC qual scope s.heap.objs.size f cdv)) →
      ∃ t Γb Γ', Lv (cxOf CX0 P w K mg base N qual scope f cdv A outer s H E).nox (fun _ _ _ _ => False) (fun _ => 0) r (List.replicate N.length 0) Γb body Γ' F t) :
    FnOk P w K mg base CX0 (k + 1) f fd ps (sp0 K ps.length r (fn0 N.length F)) := by
  refine Fn.ok S (fun vs H Q E h => ?_) (fun cdv A outer s H vs Q E hr h => ?_)
  · obtain ⟨ds, d, hn, o, _⟩ := h
    rw [o.len, hn]
  · obtain ⟨ds, d, hn, o, e, q⟩ := h
    obtain ⟨t, Γb, Γ', L⟩ := hb cdv A outer s H E hr
    refine ⟨t, PSs.nox L.pss, ?_⟩
    have hpl : ps.length ≤ N.length := by have := congrArg List.length S.pre; rw [List.length_take] at this; omega
    have gz : ∀ i, (List.replicate N.length 0).getD i 0 = 0 := fun i => by
      rw [List.getD_eq_getElem?_getD, List.getElem?_replicate]
      split <;> rfl
    have R : StR K ⟨H, fun _ => [], fun _ => .non, fun _ => 0, []⟩ (List.replicate N.length 0) (ds.map some ++ List.replicate (N.length - ds.length) none) (L2.start N vs) H (fun _ => []) := by
      refine ⟨?_, by rw [List.length_replicate, List.length_append, List.length_map, List.length_replicate]; omega, fun i d e => ?_, fun _ _ _ => rfl, fun _ => .nil, fun _ _ _ m => (nomatch m), fun _ _ m => (nomatch m), fun _ _ m => (nomatch m), .of_ext (.rfl' _), fun a o e => ⟨o, e⟩, fun i n => absurd rfl n, fun p m => (nomatch m)⟩
      · unfold L2.start
        rw [List.length_append, List.length_append, List.length_map, List.length_map, List.length_replicate, List.length_replicate, o.len]
      · obtain ⟨v, h1, h2⟩ := start_own o i d e
        refine ⟨v, h1, ?_⟩
        rw [gz i]
        exact h2.move (fun a o e _ => e) (fun a o e _ => ⟨e, fun j => List.not_mem_nil⟩) fun a m => (nomatch m)
    unfold fn0 at e
    cases eo : F (ds.map some ++ List.replicate (N.length - ds.length) none) with
    | none => rw [eo] at e; cases e
    | some ob =>
      rw [eo] at e
      have base : ∀ {Γ ρ σ H' Φ}, StR K ⟨H, fun _ => [], fun _ => .non, fun _ => 0, []⟩ Γ ρ σ H' Φ → Ext H H' := fun R' a o e => R'.kp.kp a o e fun i n => absurd rfl n
      refine L.sd.run (E := ⟨H, fun _ => [], fun _ => .non, fun _ => 0, []⟩) rfl R ob eo _ ?_
      cases ob with
      | nx ρ' =>
        cases e
        exact fun σ' H' Φ' R' => q .non H' [] (base R') (fun a m => (nomatch m)) .nil fun N => .non
      | rt d' ρ' =>
        cases e
        rintro v H' ⟨Γ2, σ2, Φ2, Ψ2, R2, _, new, nd, _, o2⟩
        exact q v H' Ψ2 (base R2) new nd o2
      | bk ρ' => cases e
      | ct ρ' => cases e
      | ex C w ρ' => cases e
/-- a def that can be called by its name: n parameters, of which the last ones may be left out (dds) -/
structure Cal (P : Program) (w : World) (K : PySem.W.Frag) (mg : Str → Option Value) (base : Heap) (k : Nat) (x : Str) (n r : Nat) (F : List D → Option D) (dds : List D) (dvs : List V) : Prop where
  ex : ∃ (f : Addr) (fd : FuncData) (ps : List Str) (dus : List Value), FnOk P w K mg base CX0 k f fd ps (sp0 K n r F) ∧ mg x = some (.ref f) ∧ PySem.W.keepIn K (.ref f) = true ∧ Binds K fd ps dus ∧ Vals dvs dus ∧ OwnL K (fun _ => none) (fun _ => True) 0 dds dvs []
theorem cal_mk {x qual : Str} {params : Arguments} {body : List Stmt} {scope : Scope} {f : Addr} {fd : FuncData} {N ps : List Str} {k r : Nat} {F : Store → Option O} (Fn : FunD K x qual params body scope [] [] f fd) (gf : mg x = some (.ref f)) (S : FnScope N ps scope)
    (hbd : ∀ (kV doc pm : Value) (an : Option Addr) (cdv ct : Value) (us : List Value), us.length = ps.length → bindArgs (PySem.W.fnOf x qual params body scope .none kV doc pm an cdv ct) ⟨us, []⟩ = pure (ps.zip us))
    (hb : ∀ (cdv : Value) (A : Around) (outer : List Env) (s : Shared) (H : Hp) (E : XK), Room k (A.deeper (envOfC qual scope s.heap.objs.size f cdv)) →
      ∃ t Γb Γ', Lv (cxOf CX0 P w K mg base N qual scope f cdv A outer s H E).nox (fun _ _ _ _ => False) (fun _ => 0) r (List.replicate N.length 0) Γb body Γ' F t) :
    Cal P w K mg base (k + 1) x ps.length r (fn0 N.length F) [] [] :=
  ⟨f, fd, ps, [], fn_ok Fn S hb, gf, Fn.kp, Fn.bindsN hbd, .nil, .nil⟩
end
section
variable {X : Cx} {Γ : List Nat} {e : Expr} {es : List Expr} {B : List Nat} {fa : Store → Option (List D)} {ta : TA} {pos p : Pos}
theorem ev_cal {k j : Nat} {n r : Nat} {F : List D → Option D} {dds : List D} {dvs : List V} {x : Str} (c : Cal X.prog X.w X.K X.mg X.base k x n r F dds dvs) (hr : Room j X.A) (hkj : k ≤ j) (hg : Gl X x) (ha : Av X Γ (e :: es) 0 B fa ta)
    (hdb : (x == ("__debug__" : Str)) = false := by decide) (he : starEach (e :: es) X.env = (false, eval e X.env) :: starEach es X.env := by rfl) (hpl : (backTo pos (starEach es X.env)).any (·.1) = false := by rfl) :
    Ev X Γ (.Call (.Name x p) (e :: es) [] pos) r [] (eCall (callF n dds F) fa) (tCall (sp0 X.K n r F) dvs E0 ta) := by
  obtain ⟨f, fd, ps, dus, G, hm, hk, hb, hd, hdd⟩ := c.ex
  exact ev_call G (hr.mono hkj) hg hm hk hb hd pass0 hdd ha hdb he hpl
end
end VL

/-! VL6: operators, comparisons, tests, displays, subscripts, slices, built-ins. -/
namespace VL
open PySem PySem.Spec L2
open PyProof.Rows hiding St
variable {K : PySem.W.Frag}

/-! ### list + list, whatever the lists -/
theorem add_meets {l b : Addr} {xs ys : Array Value} {n k : Nat} {d1 d2 : Option Addr} {z1 z2 : Array (Option Value)} (hz : xs.size + ys.size ≤ sizeLine) :
    Meets (Builtin.«list.__add__» ⟨[.ref l, .ref b], []⟩) (fun _ R s => s.heap.get? l = some ⟨.type "list", d1, .seq xs n, z1⟩ ∧ s.heap.get? b = some ⟨.type "list", d2, .seq ys k, z2⟩ ∧ R (.ok (.ret (.ref s.heap.objs.size))) { s with heap := s.heap.push { cls := .type "list", data := .seq (xs ++ ys) } }) := by
  refine .of_wp fun prog w A R s h => ?_
  obtain ⟨hp, g, d, tk, os⟩ := s
  obtain ⟨h1, h2, h3⟩ := h
  have e1 := AutoSeq1.idx_int
  have e2 := AutoSeq1.sub_tuple_tuple
  have e3 := AutoSeq1.sub_list_list
  have e4 := AutoSeq1.sub_tuple_list
  have e5 := AutoSeq1.sub_list_tuple
  wp_walk using wpAny_loadPart' h1, wpAny_loadPart' h2
  exact ⟨_, rfl, h3⟩
def rCatS (K : PySem.W.Frag) : R2 := fun x y H Q => ∃ l b xs zs, x = .ref l ∧ y = .ref b ∧ SqL K H l xs ∧ SqL K H b zs ∧ xs.length + zs.length ≤ sizeLine ∧ ∀ p, H p = none → Q (.ref p) (upd H p (.lst (xs ++ zs)))
theorem op_catS {X : Cx} : OpR X (binaryOp .Add) (rCatS X.K) := by
  intro pins s σ H x y v u Q I rx ry h
  obtain ⟨l, b, xs, zs, rfl, rfl, h1, h2, hz, q⟩ := h
  cases rx
  cases ry
  obtain ⟨its1, r1, ⟨⟨c1, d1, t1, z1⟩, n1, o1, ec1, _, ed1⟩, _⟩ := I.list h1
  obtain ⟨its2, r2, ⟨⟨c2, d2, t2, z2⟩, n2, o2, ec2, _, ed2⟩, _⟩ := I.list h2
  obtain rfl : c1 = _ := ec1
  obtain rfl : t1 = _ := ed1
  obtain rfl : c2 = _ := ec2
  obtain rfl : t2 = _ := ed2
  have hlen : its1.toArray.size + its2.toArray.size ≤ sizeLine := by
    rw [List.size_toArray, List.size_toArray, ← r1.length, ← r2.length]; exact hz
  refine concat_meets ⟨_, o1, rfl⟩ ⟨_, o2, rfl⟩ noFill_list_add seq_list_add F.slot_list_add F.entry_list_add (F.args_list_add_2 _ _) (add_meets hlen) ⟨o1, o2, ?_⟩
  have ea : its1.toArray ++ its2.toArray = (its1 ++ its2).toArray := by simp
  rw [ea]
  exact ⟨.ref _, _, I.lnew (t' := s.toks) (r1.append r2) (by rw [List.length_append]; omega), rfl, q _ I.fresh⟩

/-! ### helpers -/
theorem OwnL.app {H : Hp} {N : Addr → Prop} {n : Nat} : ∀ {ds es : List D} {vs us : List V} {fp fq : List Addr}, OwnL K H N n ds vs fp → OwnL K H N n es us fq → OwnL K H N n (ds ++ es) (vs ++ us) (fp ++ fq)
  | _, _, _, _, _, _, .nil, l => l
  | _, _, _, _, _, _, .cons h l, l2 => by
    rw [List.append_assoc]
    exact .cons h (OwnL.app l l2)
theorem OwnL.take0 {H : Hp} {N : Addr → Prop} {n : Nat} : ∀ {ds : List D} {vs : List V} {fp : List Addr}, OwnL K H N n ds vs fp → n = 0 → ∀ k, OwnL K H N 0 (ds.take k) (vs.take k) []
  | _, _, _, .nil, _, k => by cases k <;> exact .nil
  | _, _, _, .cons h l, e, 0 => .nil
  | _, _, _, .cons h l, e, k + 1 => by
    subst e
    rw [h.fp0 rfl] at h
    exact .cons (fp := []) (fps := []) h (OwnL.take0 l rfl k)
theorem OwnL.drop0 {H : Hp} {N : Addr → Prop} {n : Nat} : ∀ {ds : List D} {vs : List V} {fp : List Addr}, OwnL K H N n ds vs fp → n = 0 → ∀ k, OwnL K H N 0 (ds.drop k) (vs.drop k) []
  | _, _, _, .nil, _, k => by cases k <;> exact .nil
  | _, _, _, .cons h l, e, 0 => by
    subst e
    have o := OwnL.cons h l
    rw [o.fp0 rfl] at o
    exact o
  | _, _, _, .cons h l, e, k + 1 => by
    subst e
    exact OwnL.drop0 l rfl k
theorem OwnL.rev0 {H : Hp} {N : Addr → Prop} {n : Nat} : ∀ {ds : List D} {vs : List V} {fp : List Addr}, OwnL K H N n ds vs fp → n = 0 → OwnL K H N 0 ds.reverse vs.reverse []
  | _, _, _, .nil, _ => .nil
  | _, _, _, .cons h l, e => by
    subst e
    rw [h.fp0 rfl] at h
    rw [List.reverse_cons, List.reverse_cons]
    exact OwnL.app (fp := []) (fq := []) (OwnL.rev0 l rfl) (.cons (fp := []) (fps := []) h .nil)
theorem OwnL.set0 {H : Hp} {N : Addr → Prop} {n : Nat} {d : D} {v : V} (o : Own K H N 0 d v []) : ∀ {ds : List D} {vs : List V} {fp : List Addr}, OwnL K H N n ds vs fp → n = 0 → ∀ k, OwnL K H N 0 (ds.set k d) (vs.set k v) []
  | _, _, _, .nil, _, k => .nil
  | _, _, _, .cons h l, e, 0 => by
    subst e
    rw [l.fp0 rfl] at l
    exact .cons (fp := []) (fps := []) o l
  | _, _, _, .cons h l, e, k + 1 => by
    subst e
    rw [h.fp0 rfl] at h
    exact .cons (fp := []) (fps := []) h (OwnL.set0 o l rfl k)
theorem OwnL.at0 {H : Hp} {N : Addr → Prop} {ds : List D} {vs : List V} {fp : List Addr} (o : OwnL K H N 0 ds vs fp) {i : Int} {d : D} (e : atI ds i = some d) : ∃ v, atI vs i = some v ∧ Own K H N 0 d v [] := by
  unfold atI at e ⊢
  rw [o.len]
  cases e2 : ixN ds.length i with
  | none => rw [e2] at e; cases e
  | some j =>
    rw [e2] at e
    exact o.get0 (show ds[j]? = some d from e)
/-- a new list over shared things -/
theorem new_lst {H : Hp} {N : Addr → Prop} {ds : List D} {vs : List V} {fp : List Addr} (o : OwnL K H N 0 ds vs fp) {p : Addr} (n : H p = none) : Own K (upd H p (.lst vs)) N 1 (.lst ds) (.ref p) [p] := by
  have x := ext_upd (o := .lst vs) n
  have o' := o.move (H' := upd H p (.lst vs)) (N' := N) (fun a o e _ => x a o e) (fun a o e z => ⟨x a o e, z⟩) fun a _ o e => x a o e
  rw [o'.fp0 rfl] at o'
  exact .lst upd_same o'
theorem new_tup {H : Hp} {N : Addr → Prop} {n : Nat} {ds : List D} {vs : List V} {fp : List Addr} (o : OwnL K H N n ds vs fp) {p : Addr} (e : H p = none) : Own K (upd H p (.tup vs)) N n (.tup ds) (.ref p) fp := by
  have x := ext_upd (o := .tup vs) e
  exact .tup (.inl (.inl upd_same)) (o.move (fun a o e _ => x a o e) (fun a o e z => ⟨x a o e, z⟩) fun a _ o e => x a o e)

section
variable {X : Cx} {Γ : List Nat} {a b c e : Expr} {es : List Expr} {m m1 m2 : Nat} {B B1 B2 B3 : List Nat} {f f1 f2 f3 : Store → Option D} {t t1 t2 t3 u : TE} {ta : TA} {pos : Pos}
/-! ### operators -/
theorem ev_op {op : Operator} {r : R2} {g : D → D → Option D} (ho : OpR X (binaryOp op) r) (hs : Op2 X.K r m g) (h1 : Ev X Γ a m1 B1 f1 t1) (h2 : Ev X Γ b m2 B2 f2 t2) : Ev X Γ (.BinOp a op b pos) m (B1 ++ B2) (e2 g f1 f2) (tOp r t1 t2) :=
  ⟨pe_op ho h1.pe h2.pe, sd_2 hs h1.sd h2.sd⟩
theorem Op2.or {r r' : R2} {g g' : D → D → Option D} (h : Op2 K r m g) (h' : Op2 K r' m g') : Op2 K (fun x y H Q => r x y H Q ∨ r' x y H Q) m (fun x y => match g x y with | some d => some d | none => g' x y) := by
  refine ⟨fun o1 o2 e Q q => ?_⟩
  split at e
  · rename_i d e1
    exact .inl (h.run o1 o2 (by rw [e1]; exact e) Q q)
  · exact .inr (h'.run o1 o2 e Q q)
def mB : Int := 10 ^ 1000
theorem log2_of {i : Int} (h : -mB ≤ i ∧ i ≤ mB) : i.natAbs.log2 < 4000 := by
  have h1 : i.natAbs ≤ 10 ^ 1000 := by unfold mB at h; omega
  by_cases h0 : i.natAbs = 0
  · rw [h0]; decide
  · refine (Nat.log2_lt h0).mpr (Nat.lt_of_le_of_lt h1 (by decide +kernel))
def cMul (i j : Int) : Bool := decide (-mB ≤ i) && decide (i ≤ mB) && decide (-mB ≤ j) && decide (j ≤ mB)
def cDiv (j : Int) : Bool := decide (0 < j) && decide (j ≤ mB)
def gAdd : D → D → Option D
  | .int i, .int j => some (.int (i + j))
  | .str i, .str j => if i.length + j.length ≤ sizeLine then some (.str (i ++ j)) else none
  | .lst xs, .lst ys => if xs.length + ys.length ≤ sizeLine then some (.lst (xs ++ ys)) else none
  | .tup xs, .tup ys => if xs.length + ys.length ≤ sizeLine then some (.tup (xs ++ ys)) else none
  | _, _ => none
def rAddA (K : PySem.W.Frag) : R2 := fun x y H Q => (rI0 (fun i j => .int (i + j)) x y H Q ∨ ∃ i j, x = .str i ∧ y = .str j ∧ i.length + j.length ≤ sizeLine ∧ Q (.str (i ++ j)) H) ∨ rCatS K x y H Q ∨ rCatA K x y H Q
theorem op_addA : OpR X (binaryOp .Add) (rAddA X.K) := (op_add.or op_add_str).or (op_catS.or op_catA)
theorem fin0 {H : Hp} {N : Addr → Prop} {d : D} {v : V} {Q : VK} (q : ∀ v H' Ψ, Ext H H' → (∀ a ∈ Ψ, H a = none) → Ψ.Nodup → Own K H' (fun a => N a ∨ (H a = none ∧ a ∉ Ψ)) m d v Ψ → Q v H') (o : ∀ N, Own K H N m d v []) : Q v H :=
  q v H [] (.rfl' _) (fun a m => (nomatch m)) .nil (o _)
theorem finS {H : Hp} {N : Addr → Prop} {d : D} {v : V} {Q : VK} (q : ∀ v H' Ψ, Ext H H' → (∀ a ∈ Ψ, H a = none) → Ψ.Nodup → Own K H' (fun a => N a ∨ (H a = none ∧ a ∉ Ψ)) 0 d v Ψ → Q v H') (o : Own K H N 0 d v []) : Q v H :=
  q v H [] (.rfl' _) (fun a m => (nomatch m)) .nil (o.move (fun a o e _ => e) (fun a o e z => ⟨e, .inl z⟩) fun a m => (nomatch m))
theorem fin_lst {H : Hp} {N : Addr → Prop} {ds : List D} {vs : List V} {Q : VK} (q : ∀ v H' Ψ, Ext H H' → (∀ a ∈ Ψ, H a = none) → Ψ.Nodup → Own K H' (fun a => N a ∨ (H a = none ∧ a ∉ Ψ)) 1 (.lst ds) v Ψ → Q v H') (o : OwnL K H N 0 ds vs []) (p : Addr) (n : H p = none) : Q (.ref p) (upd H p (.lst vs)) :=
  q _ _ [p] (ext_upd n) (fun a m => by rw [List.mem_singleton.mp m]; exact n) (List.nodup_cons.mpr ⟨List.not_mem_nil, .nil⟩)
    (new_lst (o.move (N' := fun a => N a ∨ (H a = none ∧ a ∉ [p])) (fun a o e _ => e) (fun a o e z => ⟨e, .inl z⟩) fun a m => (nomatch m)) n)
theorem fin_tup {H : Hp} {N : Addr → Prop} {ds : List D} {vs : List V} {Q : VK} (q : ∀ v H' Ψ, Ext H H' → (∀ a ∈ Ψ, H a = none) → Ψ.Nodup → Own K H' (fun a => N a ∨ (H a = none ∧ a ∉ Ψ)) 0 (.tup ds) v Ψ → Q v H') (o : OwnL K H N 0 ds vs []) (p : Addr) (n : H p = none) : Q (.ref p) (upd H p (.tup vs)) :=
  q _ _ [] (ext_upd n) (fun a m => (nomatch m)) .nil (new_tup (o.move (N' := fun a => N a ∨ (H a = none ∧ a ∉ [])) (fun a o e _ => e) (fun a o e z => ⟨e, .inl z⟩) fun a m => (nomatch m)) n)
/-- what is owned at 1 is shared at 0 -/
theorem to0 {H : Hp} {N : Addr → Prop} {d : D} {Q : VK} (q : ∀ v H' Ψ, Ext H H' → (∀ a ∈ Ψ, H a = none) → Ψ.Nodup → Own K H' (fun a => N a ∨ (H a = none ∧ a ∉ Ψ)) 0 d v Ψ → Q v H') (v : V) (H' : Hp) (Ψ : List Addr) (x : Ext H H') (new : ∀ a ∈ Ψ, H a = none) (nd : Ψ.Nodup) (o : Own K H' (fun a => N a ∨ (H a = none ∧ a ∉ Ψ)) m d v Ψ) : Q v H' :=
  q v H' [] x (fun a m => (nomatch m)) .nil (o.share (fun a z => z.elim .inl fun z => .inr ⟨z.1, List.not_mem_nil⟩) fun a m => .inr ⟨new a m, List.not_mem_nil⟩)
theorem o2_add : Op2 K (rAddA K) 0 gAdd := by
  refine ⟨fun {H N d1 d2 d v1 v2} o1 o2 e Q q => ?_⟩
  unfold gAdd at e
  split at e
  · rename_i i j
    cases e; cases o1; cases o2
    exact .inl (.inl ⟨i, j, rfl, rfl, fin0 q fun _ => .int⟩)
  · rename_i i j
    split at e
    · rename_i hz
      cases e; cases o1; cases o2
      exact .inl (.inr ⟨i, j, rfl, rfl, hz, fin0 q fun _ => .str⟩)
    · cases e
  · rename_i xs ys
    split at e
    · rename_i hz
      cases e
      obtain ⟨l, vs, rfl, s1, l1⟩ := o1.lst_inv0
      obtain ⟨b, us, rfl, s2, l2⟩ := o2.lst_inv0
      exact .inr (.inl ⟨l, b, vs, us, rfl, rfl, s1, s2, by rw [l1.len, l2.len]; exact hz, fin_lst (to0 q) (l1.app l2)⟩)
    · cases e
  · rename_i xs ys
    split at e
    · rename_i hz
      cases e
      obtain ⟨l, vs, rfl, s1, l1⟩ := o1.tup_inv
      obtain ⟨b, us, rfl, s2, l2⟩ := o2.tup_inv
      refine .inr (.inr ⟨l, b, vs, us, rfl, rfl, s1, s2, by rw [l1.len, l2.len]; exact hz, fun ex => ?_, fun _ ey => ?_, fun _ _ => fin_tup q (l1.app l2)⟩)
      · subst ex
        cases l1
        exact finS q (.tup s2 l2)
      · subst ey
        cases l2
        rw [List.append_nil] at q
        exact finS q (.tup s1 l1)
    · cases e
  · cases e
def gCat : D → D → Option D
  | .lst xs, .lst ys => if xs.length + ys.length ≤ sizeLine then some (.lst (xs ++ ys)) else none
  | _, _ => none
theorem o2_cat : Op2 K (rCatS K) 1 gCat := by
  refine ⟨fun {H N d1 d2 d v1 v2} o1 o2 e Q q => ?_⟩
  unfold gCat at e
  split at e
  · rename_i xs ys
    split at e
    · rename_i hz
      cases e
      obtain ⟨l, vs, rfl, s1, l1⟩ := o1.lst_inv0
      obtain ⟨b, us, rfl, s2, l2⟩ := o2.lst_inv0
      exact ⟨l, b, vs, us, rfl, rfl, s1, s2, by rw [l1.len, l2.len]; exact hz, fin_lst q (l1.app l2)⟩
    · cases e
  · cases e
/-- ints, under c -/
def gIg (c : Int → Int → Bool) (g : Int → Int → Int) : D → D → Option D
  | .int i, .int j => if c i j = true then some (.int (g i j)) else none
  | _, _ => none
theorem o2_Ig {C : Int → Int → Prop} {c : Int → Int → Bool} {g : Int → Int → Int} (hc : ∀ i j, c i j = true → C i j) : Op2 K (rI C fun i j => .int (g i j)) 0 (gIg c g) := by
  refine ⟨fun o1 o2 e Q q => ?_⟩
  unfold gIg at e
  split at e
  · rename_i i j
    split at e
    · rename_i h
      cases e; cases o1; cases o2
      exact ⟨i, j, rfl, rfl, hc i j h, fin0 q fun _ => .int⟩
    · cases e
  · cases e
def gIu (g : Int → Int → Int) : D → D → Option D
  | .int i, .int j => some (.int (g i j))
  | _, _ => none
theorem o2_Iu {g : Int → Int → Int} : Op2 K (rI0 fun i j => .int (g i j)) 0 (gIu g) := by
  refine ⟨fun o1 o2 e Q q => ?_⟩
  unfold gIu at e
  split at e
  · rename_i i j
    cases e; cases o1; cases o2
    exact ⟨i, j, rfl, rfl, fin0 q fun _ => .int⟩
  · cases e
abbrev gSub := gIu fun i j => i - j
abbrev gAnd := gIu fun i j => Builtin.bitAnd i j
abbrev gOr := gIu fun i j => Builtin.bitOr i j
abbrev gXor := gIu fun i j => Builtin.bitXor i j
abbrev gMul := gIg cMul fun i j => i * j
abbrev gDiv := gIg (fun _ j => cDiv j) fun i j => i / j
abbrev gMod := gIg (fun _ j => decide (0 < j)) fun i j => i % j
abbrev gPow := gIg (fun i j => decide (0 ≤ j) && decide (j ≤ 1000) && decide (i.natAbs < 2 ^ 64)) fun i j => i ^ j.toNat
abbrev gShl := gIg (fun i j => decide (0 ≤ j) && decide (j ≤ 1000) && decide (i.natAbs < 2 ^ 4000)) fun i j => i * 2 ^ j.toNat
abbrev gShr := gIg (fun _ j => decide (0 ≤ j)) fun i j => i / 2 ^ j.toNat
theorem o2_mul : Op2 K (rI CMulW fun i j => .int (i * j)) 0 gMul := o2_Ig fun i j h => by
  unfold cMul at h
  simp only [Bool.and_eq_true, decide_eq_true_eq] at h
  have h1 := log2_of ⟨h.1.1.1, h.1.1.2⟩
  have h2 := log2_of ⟨h.1.2, h.2⟩
  show i.natAbs.log2 + j.natAbs.log2 < 1000000
  omega
theorem o2_div : Op2 K (rI CDivW fun i j => .int (i / j)) 0 gDiv := o2_Ig fun i j h => by
  unfold cDiv at h
  simp only [Bool.and_eq_true, decide_eq_true_eq] at h
  have h2 := log2_of (i := j) ⟨by unfold mB; omega, h.2⟩
  exact ⟨h.1, by omega⟩
theorem o2_mod : Op2 K (rI (fun _ j => 0 < j) fun i j => .int (i % j)) 0 gMod := o2_Ig fun i j h => of_decide_eq_true h
theorem o2_pow : Op2 K (rI CPow fun i j => .int (i ^ j.toNat)) 0 gPow := o2_Ig fun i j h => by
  simp only [Bool.and_eq_true, decide_eq_true_eq] at h
  exact ⟨h.1.1, by omega, h.2⟩
theorem o2_shl : Op2 K (rI CShl fun i j => .int (i * 2 ^ j.toNat)) 0 gShl := o2_Ig fun i j h => by
  simp only [Bool.and_eq_true, decide_eq_true_eq] at h
  have q := shl_ok (i := i) (j := j.toNat) h.2 (by omega)
  rw [Int.toNat_of_nonneg h.1.1] at q
  exact q
theorem o2_shr : Op2 K (rI (fun _ j => 0 ≤ j) fun i j => .int (i / 2 ^ j.toNat)) 0 gShr := o2_Ig fun i j h => of_decide_eq_true h
def eUn (g : Int → Int) (f : Store → Option D) : Store → Option D := fun ρ => match f ρ with
  | some (.int i) => some (.int (g i))
  | _ => none
theorem ev_un {op : UnaryOp} {g : Int → Int} (ho : UnR X (unaryOp op) (rU fun i => .int (g i))) (h : Ev X Γ a m B f t) : Ev X Γ (.UnaryOp op a pos) 0 B (eUn g f) (tUn (rU fun i => .int (g i)) t) := by
  refine ⟨pe_un ho h.pe, ⟨fun {E ρ σ H Φ} R d e Q q => ?_⟩⟩
  unfold eUn at e
  split at e
  · rename_i i e1
    cases e
    refine h.sd.sh R e1 _ fun v H1 x o => ?_
    cases o
    exact ⟨i, rfl, q _ _ [] ⟨x, fun a m => (nomatch m), .nil, .int⟩⟩
  · cases e

/-! ### comparisons -/
theorem ev_cmp {op : CmpOp} {r : R2} {g : D → D → Option D} (ho : OpR X (compareOp op) r) (hs : Op2 X.K r m g) (h1 : Ev X Γ a m1 B1 f1 t1) (h2 : Ev X Γ b m2 B2 f2 t2) (hm : behindInMarks op b = false) : Ev X Γ (.Compare a [op] [b] pos) m (B1 ++ B2) (e2 g f1 f2) (tOp r t1 t2) :=
  ⟨pe_cmpR ho h1.pe h2.pe hm, sd_2 hs h1.sd h2.sd⟩
def tBo (f : Store → Option D) : Store → Option Bool := fun ρ => match f ρ with
  | some (.bl b) => some b
  | _ => none
theorem sd_test (h : SdE K Γ t m B f) : SdT K Γ (tTest t) (tBo f) := by
  refine ⟨fun {E ρ σ H Φ} R b e Q q => ?_⟩
  unfold tBo at e
  split at e
  · rename_i b' e1
    cases e
    refine h.sh R e1 _ fun v H1 x o => ?_
    cases o
    exact ⟨b, rfl, q H1 x⟩
  · cases e
theorem tv_cmp {op : CmpOp} {r : R2} {g : D → D → Option D} (ho : OpR X (compareOp op) r) (hs : Op2 X.K r m g) (h1 : Ev X Γ a m1 B1 f1 t1) (h2 : Ev X Γ b m2 B2 f2 t2) (hm : behindInMarks op b = false) : Tv X Γ (.Compare a [op] [b] pos) (tBo (e2 g f1 f2)) (tTest (tOp r t1 t2)) :=
  ⟨pt_cmpR ho h1.pe h2.pe hm, sd_test (sd_2 hs h1.sd h2.sd)⟩
theorem tv_val (h : Ev X Γ e m B f t) (he : ∀ whole, isTrue e X.env whole = (do let v ← whole; standAt e.pos; holding [v] (truthy v)) := by intro _; rfl) : Tv X Γ e (tBo f) (tB t) := ⟨pt_val h.pe he, sd_test h.sd⟩
def gCmp (p : Int → Int → Bool) : D → D → Option D
  | .int i, .int j => some (.bl (p i j))
  | _, _ => none
theorem o2_cmp {p : Int → Int → Bool} : Op2 K (rI0 fun i j => .bl (p i j)) 0 (gCmp p) := by
  refine ⟨fun o1 o2 e Q q => ?_⟩
  unfold gCmp at e
  split at e
  · rename_i i j
    cases e; cases o1; cases o2
    exact ⟨i, j, rfl, rfl, fin0 q fun _ => .bl⟩
  · cases e
abbrev gLt := gCmp fun i j => decide (i < j)
abbrev gLe := gCmp fun i j => decide (i ≤ j)
abbrev gGt := gCmp fun i j => decide (j < i)
abbrev gGe := gCmp fun i j => decide (j ≤ i)
/-- is None -/
def D.isNon : D → Bool
  | .non => true
  | _ => false
def gIsN (k : Bool) : D → D → Option D
  | d, .non => some (.bl (if k then !d.isNon else d.isNon))
  | _, _ => none
theorem isNon_of {H : Hp} {N : Addr → Prop} {n : Nat} {d : D} {v : V} {fp : List Addr} (o : Own K H N n d v fp) : decide (v = .non) = d.isNon := by
  cases o <;> rfl
theorem o2_isN : Op2 K (fun x y H Q => y = .non ∧ Q (.bl (decide (x = .non))) H) 0 (gIsN false) := by
  refine ⟨fun o1 o2 e Q q => ?_⟩
  unfold gIsN at e
  split at e
  · cases e; cases o2
    refine ⟨rfl, ?_⟩
    rw [isNon_of o1]
    exact fin0 q fun _ => .bl
  · cases e
theorem o2_notN : Op2 K (fun x y H Q => y = .non ∧ Q (.bl (!decide (x = .non))) H) 0 (gIsN true) := by
  refine ⟨fun o1 o2 e Q q => ?_⟩
  unfold gIsN at e
  split at e
  · cases e; cases o2
    refine ⟨rfl, ?_⟩
    rw [isNon_of o1]
    exact fin0 q fun _ => .bl
  · cases e
end
end VL

/-! VL7: equality, membership, and or not, displays, subscripts, slices. -/
namespace VL
open PySem PySem.Spec L2
open PyProof.Rows hiding St
variable {K : PySem.W.Frag}

/-! ### == of data -/
mutual
def D.toPy : D → PyData
  | .non => .none
  | .bl b => .bool b
  | .int i => .int i
  | .str x => .str x
  | .tup ds => .tuple (D.toPyL ds)
  | .lst ds => .list (D.toPyL ds)
  | .dct _ _ => .none
  | .obj _ _ _ => .none
def D.toPyL : List D → List PyData
  | [] => []
  | d :: ds => d.toPy :: D.toPyL ds
end
mutual
def D.isData : D → Bool
  | .tup ds => D.isDataL ds
  | .lst ds => D.isDataL ds
  | .dct _ _ => false
  | .obj _ _ _ => false
  | .non => true
  | .bl _ => true
  | .int _ => true
  | .str _ => true
def D.isDataL : List D → Bool
  | [] => true
  | d :: ds => d.isData && D.isDataL ds
end
mutual
theorem Own.dp {H : Hp} {N : Addr → Prop} : ∀ {n : Nat} {d : D} {v : V} {fp : List Addr}, Own K H N n d v fp → d.isData = true → Dp K H v d.toPy
  | _, _, _, _, .non, _ => .non
  | _, _, _, _, .bl, _ => .bl _
  | _, _, _, _, .int, _ => .int _
  | _, _, _, _, .str, _ => .str _
  | _, _, _, _, .tup h l, i => .tup h (OwnL.dp l (by rw [D.isData] at i; exact i))
  | _, _, _, _, .shl n h l, i => .lst (.inl h) (OwnL.dp l (by rw [D.isData] at i; exact i))
  | _, _, _, _, .kl h l, i => by
    refine .lst ?_ (OwnL.dp l (by rw [D.isData] at i; exact i))
    rcases h with (h | ⟨o, h⟩) | h
    · cases h
    · cases h
    · exact .inr h
  | _, _, _, _, .lst h l, i => .lst (.inl (.inl h)) (OwnL.dp l (by rw [D.isData] at i; exact i))
  | _, _, _, _, .shd n h e nd l, i => by rw [D.isData] at i; cases i
  | _, _, _, _, .dct h e nd l, i => by rw [D.isData] at i; cases i
  | _, _, _, _, .sho n h e l, i => by rw [D.isData] at i; cases i
  | _, _, _, _, .obj h e l, i => by rw [D.isData] at i; cases i
theorem OwnL.dp {H : Hp} {N : Addr → Prop} : ∀ {n : Nat} {d : List D} {v : List V} {fp : List Addr}, OwnL K H N n d v fp → D.isDataL d = true → DpAll K H v (D.toPyL d)
  | _, _, _, _, .nil, _ => .nil
  | _, _, _, _, .cons h l, i => by
    rw [D.isDataL, Bool.and_eq_true] at i
    exact .cons (Own.dp h i.1) (OwnL.dp l i.2)
end
def D.okE (d : D) : Bool := d.isData && SeqAt.shaped d.toPy
def D.eqv (d e : D) : Bool := PyData.eqv d.toPy e.toPy
def gEq (neg : Bool) (d e : D) : Option D := if d.okE = true ∧ e.okE = true then some (.bl (if neg then !D.eqv d e else D.eqv d e)) else none
section
variable {m : Nat}
theorem o2_eq : Op2 K (rEqD K) 0 (gEq false) := by
  refine ⟨fun {H N d1 d2 d v1 v2} o1 o2 e Q q => ?_⟩
  unfold gEq at e
  split at e
  · rename_i h
    cases e
    unfold D.okE at h
    simp only [Bool.and_eq_true] at h
    exact ⟨_, _, o1.dp h.1.1, o2.dp h.2.1, h.1.2, h.2.2, fin0 q fun _ => .bl⟩
  · cases e
theorem o2_ne : Op2 K (rNeD K) 0 (gEq true) := by
  refine ⟨fun {H N d1 d2 d v1 v2} o1 o2 e Q q => ?_⟩
  unfold gEq at e
  split at e
  · rename_i h
    cases e
    unfold D.okE at h
    simp only [Bool.and_eq_true] at h
    exact ⟨_, _, o1.dp h.1.1, o2.dp h.2.1, h.1.2, h.2.2, fin0 q fun _ => .bl⟩
  · cases e
end

/-! ### in a list or tuple of flat items; a sign in a text -/
def D.fl : D → Bool
  | .non => true
  | .bl _ => true
  | .int _ => true
  | .str _ => true
  | _ => false
def D.toV : D → V
  | .bl b => .bl b
  | .int i => .int i
  | .str x => .str x
  | _ => .non
theorem Own.toV {H : Hp} {N : Addr → Prop} {n : Nat} {d : D} {v : V} {fp : List Addr} (o : Own K H N n d v fp) (h : d.fl = true) : v = d.toV ∧ flatV v = true := by
  cases o <;> first | exact ⟨rfl, rfl⟩ | cases h
theorem OwnL.toV {H : Hp} {N : Addr → Prop} {n : Nat} : ∀ {ds : List D} {vs : List V} {fp : List Addr}, OwnL K H N n ds vs fp → ds.all D.fl = true → vs = ds.map D.toV ∧ vs.all flatV = true
  | _, _, _, .nil, _ => ⟨rfl, rfl⟩
  | _, _, _, .cons h l, e => by
    rw [List.all_cons, Bool.and_eq_true] at e
    obtain ⟨e1, f1⟩ := h.toV e.1
    obtain ⟨e2, f2⟩ := OwnL.toV l e.2
    rw [e1] at f1
    rw [e2] at f2
    subst e1 e2
    refine ⟨rfl, ?_⟩
    rw [List.all_cons, f1, f2]; rfl
def inD (d : D) (ds : List D) : Bool := inV d.toV (ds.map D.toV)
def gIn (neg : Bool) : D → D → Option D
  | d, .lst ds => if d.fl = true ∧ ds.all D.fl = true then some (.bl (if neg then !inD d ds else inD d ds)) else none
  | d, .tup ds => if d.fl = true ∧ ds.all D.fl = true then some (.bl (if neg then !inD d ds else inD d ds)) else none
  | _, _ => none
theorem o2_in {neg : Bool} : Op2 K (rIn K neg) 0 (gIn neg) := by
  refine ⟨fun {H N d1 d2 d v1 v2} o1 o2 e Q q => ?_⟩
  unfold gIn at e
  split at e
  · rename_i x ds
    split at e
    · rename_i h
      cases e
      obtain ⟨l, vs, rfl, s, lo⟩ := o2.lst_inv0
      obtain ⟨e1, f1⟩ := o1.toV h.1
      obtain ⟨e2, f2⟩ := lo.toV h.2
      refine ⟨l, vs, rfl, .inl s, f1, f2, ?_⟩
      rw [e1, e2]
      exact fin0 q fun _ => .bl
    · cases e
  · rename_i x ds
    split at e
    · rename_i h
      cases e
      obtain ⟨l, vs, rfl, s, lo⟩ := o2.tup_inv
      obtain ⟨e1, f1⟩ := o1.toV h.1
      obtain ⟨e2, f2⟩ := lo.toV h.2
      refine ⟨l, vs, rfl, .inr s, f1, f2, ?_⟩
      rw [e1, e2]
      exact fin0 q fun _ => .bl
    · cases e
  · cases e

section
variable {X : Cx} {Γ : List Nat} {a b c e : Expr} {es rest : List Expr} {m m1 m2 m3 : Nat} {B B1 B2 B3 : List Nat} {f f1 f2 f3 : Store → Option D} {t t1 t2 t3 u : TE} {ta : TA} {pos : Pos}
/-! ### and, or, not -/
variable {p q : Store → Option Bool} {tp tq : TT}
def bAnd (p q : Store → Option Bool) : Store → Option Bool := fun ρ => match p ρ with
  | some true => q ρ
  | some false => some false
  | none => none
def bOr (p q : Store → Option Bool) : Store → Option Bool := fun ρ => match p ρ with
  | some true => some true
  | some false => q ρ
  | none => none
def bNot (p : Store → Option Bool) : Store → Option Bool := fun ρ => match p ρ with
  | some b => some (!b)
  | none => none
theorem sd_and (h1 : SdT K Γ tp p) (h2 : SdT K Γ tq q) : SdT K Γ (tAnd tp tq) (bAnd p q) := by
  refine ⟨fun {E ρ σ H Φ} R b e Q k => ?_⟩
  unfold bAnd at e
  split at e
  · rename_i e1
    refine h1.run R _ e1 _ fun H1 x => ?_
    rw [if_pos rfl]
    exact h2.run (R.ext x) _ e Q fun H2 x2 => k H2 fun a o e => x2 a o (x a o e)
  · rename_i e1
    cases e
    refine h1.run R _ e1 _ fun H1 x => ?_
    rw [if_neg Bool.false_ne_true]
    exact k H1 x
  · cases e
theorem sd_or (h1 : SdT K Γ tp p) (h2 : SdT K Γ tq q) : SdT K Γ (tOr tp tq) (bOr p q) := by
  refine ⟨fun {E ρ σ H Φ} R b e Q k => ?_⟩
  unfold bOr at e
  split at e
  · rename_i e1
    cases e
    refine h1.run R _ e1 _ fun H1 x => ?_
    rw [if_pos rfl]
    exact k H1 x
  · rename_i e1
    refine h1.run R _ e1 _ fun H1 x => ?_
    rw [if_neg Bool.false_ne_true]
    exact h2.run (R.ext x) _ e Q fun H2 x2 => k H2 fun a o e => x2 a o (x a o e)
  · cases e
theorem sd_not (h1 : SdT K Γ tp p) : SdT K Γ (tNot tp) (bNot p) := by
  refine ⟨fun {E ρ σ H Φ} R b e Q k => ?_⟩
  unfold bNot at e
  split at e
  · rename_i e1
    cases e
    exact h1.run R _ e1 _ fun H1 x => k H1 x
  · cases e
theorem wv_and1 (h : Tv X Γ a p tp) : Wv X Γ (.BoolOp .And [a] pos) p tp := ⟨pw_and1 h.pt, h.sd⟩
theorem wv_or1 (h : Tv X Γ a p tp) : Wv X Γ (.BoolOp .Or [a] pos) p tp := ⟨pw_or1 h.pt, h.sd⟩
theorem wv_and (h1 : Tv X Γ a p tp) (h2 : Wv X Γ (.BoolOp .And (b :: rest) pos) q tq) : Wv X Γ (.BoolOp .And (a :: b :: rest) pos) (bAnd p q) (tAnd tp tq) := ⟨pw_and h1.pt h2.pw, sd_and h1.sd h2.sd⟩
theorem wv_or (h1 : Tv X Γ a p tp) (h2 : Wv X Γ (.BoolOp .Or (b :: rest) pos) q tq) : Wv X Γ (.BoolOp .Or (a :: b :: rest) pos) (bOr p q) (tOr tp tq) := ⟨pw_or h1.pt h2.pw, sd_or h1.sd h2.sd⟩
theorem Wv.tv (h : Wv X Γ e p tp) : Tv X Γ e p tp := ⟨h.pw.pt, h.sd⟩
theorem tv_not (h : Tv X Γ a p tp) : Tv X Γ (.UnaryOp .Not a pos) (bNot p) (tNot tp) := ⟨pt_not h.pt, sd_not h.sd⟩
/-- as values -/
def eAnd (f g : Store → Option D) : Store → Option D := fun ρ => match f ρ with
  | some (.bl true) => g ρ
  | some (.bl false) => some (.bl false)
  | _ => none
def eOr (f g : Store → Option D) : Store → Option D := fun ρ => match f ρ with
  | some (.bl true) => some (.bl true)
  | some (.bl false) => g ρ
  | _ => none
def eNot (f : Store → Option D) : Store → Option D := fun ρ => match f ρ with
  | some (.bl b) => some (.bl !b)
  | _ => none
theorem Res.trans {Φ : Nat → List Addr} {d : D} {H H1 H2 : Hp} {v : V} {Ψ : List Addr} (x : Ext H H1) (r : Res K B Φ m d H1 v H2 Ψ) : Res K B Φ m d H v H2 Ψ :=
  ⟨fun a o e => r.ext a o (x a o e), fun a m => (by
    cases e : H a with
    | none => rfl
    | some o =>
      have z := x a o e
      rw [r.new a m] at z
      cases z), r.nd, r.own⟩
theorem Res.sc {Φ : Nat → List Addr} {d : D} {H H1 : Hp} {v : V} (x : Ext H H1) (o : ∀ N, Own K H1 N m d v []) : Res K B Φ m d H v H1 [] := ⟨x, fun a m => (nomatch m), .nil, o _⟩
theorem sd_eand (h1 : SdE K Γ t1 m1 B1 f1) (h2 : SdE K Γ t2 m B f2) : SdE K Γ (tAndV t1 t2) m B (eAnd f1 f2) := by
  refine ⟨fun {E ρ σ H Φ} R d e Q k => ?_⟩
  unfold eAnd at e
  split at e
  · rename_i e1
    refine h1.sh R e1 _ fun v H1 x o => ?_
    cases o
    refine ⟨true, rfl, ?_⟩
    rw [if_pos rfl]
    exact h2.run (R.ext x) _ e Q fun v H2 Ψ r => k v H2 Ψ (r.trans x)
  · rename_i e1
    cases e
    refine h1.sh R e1 _ fun v H1 x o => ?_
    cases o
    refine ⟨false, rfl, ?_⟩
    rw [if_neg Bool.false_ne_true]
    exact k _ _ _ (.sc x fun _ => .bl)
  · cases e
theorem sd_eor (h1 : SdE K Γ t1 m1 B1 f1) (h2 : SdE K Γ t2 m B f2) : SdE K Γ (tOrV t1 t2) m B (eOr f1 f2) := by
  refine ⟨fun {E ρ σ H Φ} R d e Q k => ?_⟩
  unfold eOr at e
  split at e
  · rename_i e1
    cases e
    refine h1.sh R e1 _ fun v H1 x o => ?_
    cases o
    refine ⟨true, rfl, ?_⟩
    rw [if_pos rfl]
    exact k _ _ _ (.sc x fun _ => .bl)
  · rename_i e1
    refine h1.sh R e1 _ fun v H1 x o => ?_
    cases o
    refine ⟨false, rfl, ?_⟩
    rw [if_neg Bool.false_ne_true]
    exact h2.run (R.ext x) _ e Q fun v H2 Ψ r => k v H2 Ψ (r.trans x)
  · cases e
theorem sd_enot (h1 : SdE K Γ t1 m1 B1 f1) : SdE K Γ (tNotV t1) 0 [] (eNot f1) := by
  refine ⟨fun {E ρ σ H Φ} R d e Q k => ?_⟩
  unfold eNot at e
  split at e
  · rename_i b e1
    cases e
    refine h1.sh R e1 _ fun v H1 x o => ?_
    cases o
    exact ⟨b, rfl, k _ _ _ (.sc x fun _ => .bl)⟩
  · cases e
theorem ev_one {op} (h : Ev X Γ a m B f t) : Ev X Γ (.BoolOp op [a] pos) m B f t := ⟨pe_one h.pe, h.sd⟩
theorem ev_and (h1 : Ev X Γ a m1 B1 f1 t1) (h2 : Ev X Γ (.BoolOp .And (b :: rest) pos) m B f2 t2) : Ev X Γ (.BoolOp .And (a :: b :: rest) pos) m B (eAnd f1 f2) (tAndV t1 t2) := ⟨pe_and h1.pe h2.pe, sd_eand h1.sd h2.sd⟩
theorem ev_or (h1 : Ev X Γ a m1 B1 f1 t1) (h2 : Ev X Γ (.BoolOp .Or (b :: rest) pos) m B f2 t2) : Ev X Γ (.BoolOp .Or (a :: b :: rest) pos) m B (eOr f1 f2) (tOrV t1 t2) := ⟨pe_or h1.pe h2.pe, sd_eor h1.sd h2.sd⟩
theorem ev_not (h1 : Ev X Γ a m1 B1 f1 t1) : Ev X Γ (.UnaryOp .Not a pos) 0 [] (eNot f1) (tNotV t1) := ⟨pe_not h1.pe, sd_enot h1.sd⟩

/-! ### a < b < c -/
def eChain (g1 g2 : D → D → Option D) (f1 f2 f3 : Store → Option D) : Store → Option D := fun ρ => match f1 ρ with
  | some x => (match f2 ρ with
    | some y => (match g1 x y with
      | some (.bl true) => (match f3 ρ with | some z => g2 y z | none => none)
      | some (.bl false) => some (.bl false)
      | _ => none)
    | none => none)
  | none => none
theorem sd_chain {r r' : R2} {g1 g2 : D → D → Option D} (ho : Op2 K r 0 g1) (ho' : Op2 K r' 0 g2) (h1 : SdE K Γ t1 m1 B1 f1) (h2 : SdE K Γ t2 m2 B2 f2) (h3 : SdE K Γ t3 m3 B3 f3) (sc : ∀ x y d, g2 x y = some d → ∃ b, d = .bl b) (sy : ∀ x y d, g2 x y = some d → ∃ i, x = .int i) :
    SdE K Γ (tChain r r' t1 t2 t3) 0 [] (eChain g1 g2 f1 f2 f3) := by
  refine ⟨fun {E ρ σ H Φ} R d e Q k => ?_⟩
  unfold eChain at e
  split at e
  · rename_i x e1
    split at e
    · rename_i y e2
      refine two h1 h2 R e1 e2 _ fun v1 v2 H1 x1 o1 o2 => ?_
      split at e
      · rename_i e3
        refine ho.run o1 o2 e3 _ fun v H2 Ψ x2 _ _ o => ?_
        cases o
        refine ⟨true, rfl, ?_⟩
        rw [if_pos rfl]
        split at e
        · rename_i z e4
          have xx : Ext H H2 := fun a o e => x2 a o (x1 a o e)
          refine h3.sh (R.ext xx) e4 _ fun v3 H3 x3 o3 => ?_
          obtain ⟨b, rfl⟩ := sc _ _ _ e
          obtain ⟨i, rfl⟩ := sy _ _ _ e
          cases o2
          exact ho'.run (N := _) .int o3 e Q fun v H4 Ψ x4 _ _ o => by
            cases o
            exact k _ _ _ (.sc (fun a o e => x4 a o (x3 a o (xx a o e))) fun _ => .bl)
        · cases e
      · rename_i e3
        cases e
        refine ho.run o1 o2 e3 _ fun v H2 Ψ x2 _ _ o => ?_
        cases o
        refine ⟨false, rfl, ?_⟩
        rw [if_neg Bool.false_ne_true]
        exact k _ _ _ (.sc (fun a o e => x2 a o (x1 a o e)) fun _ => .bl)
      · cases e
    · cases e
  · cases e
theorem gCmp_bl {p : Int → Int → Bool} : ∀ x y d, gCmp p x y = some d → ∃ b, d = .bl b := fun x y d e => by
  unfold gCmp at e
  split at e
  · cases e; exact ⟨_, rfl⟩
  · cases e
theorem gCmp_in {p : Int → Int → Bool} : ∀ x y d, gCmp p x y = some d → ∃ i, x = .int i := fun x y d e => by
  unfold gCmp at e
  split at e
  · exact ⟨_, rfl⟩
  · cases e
theorem ev_chain {op op' : CmpOp} {p1 p2 : Int → Int → Bool} (ho : OpR X (compareOp op) (rI0 fun i j => .bl (p1 i j))) (ho' : OpR X (compareOp op') (rI0 fun i j => .bl (p2 i j))) (h1 : Ev X Γ a m1 B1 f1 t1) (h2 : Ev X Γ b m2 B2 f2 t2) (h3 : Ev X Γ c m3 B3 f3 t3)
    (hm : lastMarks [op, op'] [b, c] = false := by with_unfolding_all rfl) : Ev X Γ (.Compare a [op, op'] [b, c] pos) 0 [] (eChain (gCmp p1) (gCmp p2) f1 f2 f3) (tChain (rI0 fun i j => .bl (p1 i j)) (rI0 fun i j => .bl (p2 i j)) t1 t2 t3) :=
  ⟨pe_chain ho ho' h1.pe h2.pe h3.pe hm, sd_chain o2_cmp o2_cmp h1.sd h2.sd h3.sd gCmp_bl gCmp_in⟩
theorem tv_chain {op op' : CmpOp} {p1 p2 : Int → Int → Bool} (ho : OpR X (compareOp op) (rI0 fun i j => .bl (p1 i j))) (ho' : OpR X (compareOp op') (rI0 fun i j => .bl (p2 i j))) (h1 : Ev X Γ a m1 B1 f1 t1) (h2 : Ev X Γ b m2 B2 f2 t2) (h3 : Ev X Γ c m3 B3 f3 t3)
    (hm : lastMarks [op, op'] [b, c] = false := by with_unfolding_all rfl) : Tv X Γ (.Compare a [op, op'] [b, c] pos) (tBo (eChain (gCmp p1) (gCmp p2) f1 f2 f3)) (tTest (tChain (rI0 fun i j => .bl (p1 i j)) (rI0 fun i j => .bl (p2 i j)) t1 t2 t3)) :=
  ⟨pt_chain ho ho' h1.pe h2.pe h3.pe hm, sd_test (sd_chain o2_cmp o2_cmp h1.sd h2.sd h3.sd gCmp_bl gCmp_in)⟩
end
end VL

/-! VL8: displays, subscripts, slices; lists that change; comprehensions. -/
namespace VL
open PySem PySem.Spec L2
open PyProof.Rows hiding St
variable {K : PySem.W.Frag}

section
variable {X : Cx} {Γ Γt : List Nat} {a b c e : Expr} {es rest : List Expr} {m m1 m2 m3 k : Nat} {B B1 B2 B3 : List Nat} {f f1 f2 f3 : Store → Option D} {fa : Store → Option (List D)} {t te t1 t2 t3 u : TE} {ta : TA} {pos : Pos}
/-! ### displays -/
def eLst (fa : Store → Option (List D)) : Store → Option D := fun ρ => match fa ρ with
  | some ds => if ds.length ≤ sizeLine then some (.lst ds) else none
  | none => none
def eTup (fa : Store → Option (List D)) : Store → Option D := fun ρ => match fa ρ with
  | some ds => if ds.length ≤ sizeLine then some (.tup ds) else none
  | none => none
theorem sd_lst (h : SdA K Γ ta k B fa) : SdE K Γ (tLst ta) (k + 1) B (eLst fa) := by
  refine ⟨fun {E ρ σ H Φ} R d e Q q => ?_⟩
  unfold eLst at e
  split at e
  · rename_i ds e1
    split at e
    · rename_i hz
      cases e
      refine h.run R _ e1 _ fun vs H1 Ψ r => ⟨by rw [r.own.len]; exact hz, fun p n => ?_⟩
      have x := ext_upd (o := .lst vs) n
      have np : p ∉ Ψ := fun m => by obtain ⟨o, z, _⟩ := r.own.live p m; rw [n] at z; cases z
      refine q _ _ (p :: Ψ) ⟨fun a o e => x a o (r.ext a o e), fun a m => ?_, List.nodup_cons.mpr ⟨np, r.nd⟩, .lst upd_same (r.own.move (fun a o e _ => x a o e) (fun a o e z => ⟨x a o e, fun m => ?_, z.2⟩) fun a _ o e => x a o e)⟩
      · rcases List.mem_cons.mp m with m | m
        · subst m
          cases z : H a with
          | none => rfl
          | some o => have z2 := r.ext a o z; rw [n] at z2; cases z2
        · exact r.new a m
      · rcases List.mem_cons.mp m with m | m
        · subst m; rw [n] at e; cases e
        · exact z.1 m
    · cases e
  · cases e
theorem sd_tup (h : SdA K Γ ta k B fa) : SdE K Γ (tTup ta) k B (eTup fa) := by
  refine ⟨fun {E ρ σ H Φ} R d e Q q => ?_⟩
  unfold eTup at e
  split at e
  · rename_i ds e1
    split at e
    · rename_i hz
      cases e
      refine h.run R _ e1 _ fun vs H1 Ψ r => ⟨by rw [r.own.len]; exact hz, fun p n => ?_⟩
      have x := ext_upd (o := .tup vs) n
      exact q _ _ Ψ ⟨fun a o e => x a o (r.ext a o e), r.new, r.nd, new_tup r.own n⟩
    · cases e
  · cases e
theorem ev_lst (h : Av X Γ es k B fa ta) : Ev X Γ (.List es pos) (k + 1) B (eLst fa) (tLst ta) := ⟨pe_lst h.pa, sd_lst h.sd⟩
theorem ev_tup {x1} (h : Av X Γ es k B fa ta) : Ev X Γ (.Tuple es x1 pos) k B (eTup fa) (tTup ta) := ⟨pe_tup h.pa, sd_tup h.sd⟩

/-! ### subscripts -/
def gIx : D → D → Option D
  | .lst ds, .int i => atI ds i
  | .tup ds, .int i => atI ds i
  | .str z, .int i => if z.length ≤ sizeLine then (match atI z.cps.toList i with | some c => some (.str ⟨#[c]⟩) | none => none) else none
  | _, _ => none
theorem o2_ix : Op2 K (rIx K) 0 gIx := by
  refine ⟨fun {H N d1 d2 d v1 v2} o1 o2 e Q q => ?_⟩
  unfold gIx at e
  split at e
  · rename_i ds i
    obtain ⟨l, vs, rfl, s, lo⟩ := o1.lst_inv0
    cases o2
    obtain ⟨v, hv, o⟩ := lo.at0 e
    exact .inl ⟨l, vs, i, v, rfl, rfl, s, hv, finS q o⟩
  · rename_i ds i
    obtain ⟨l, vs, rfl, s, lo⟩ := o1.tup_inv
    cases o2
    obtain ⟨v, hv, o⟩ := lo.at0 e
    exact .inr (.inl ⟨l, vs, i, v, rfl, rfl, s, hv, finS q o⟩)
  · rename_i z i
    split at e
    · rename_i hz
      split at e
      · rename_i c hc
        cases e
        cases o1; cases o2
        exact .inr (.inr ⟨z, i, c, rfl, rfl, hz, hc, fin0 q fun _ => .str⟩)
      · cases e
    · cases e
  · cases e
theorem ev_ix (h1 : Ev X Γ a m1 B1 f1 t1) (h2 : Ev X Γ b m2 B2 f2 t2) (hs : PlainIx b) : Ev X Γ (.Subscript a b pos) 0 (B1 ++ B2) (e2 gIx f1 f2) (tOp (rIx X.K) t1 t2) := ⟨pe_ix ix_seq h1.pe h2.pe hs, sd_2 o2_ix h1.sd h2.sd⟩

/-! ### slices -/
structure SdO (K : PySem.W.Frag) (Γ : List Nat) (t : TO) (f : Store → Option (Option Int)) : Prop where
  run : ∀ {E : Entry} {ρ : Store} {σ : St} {H : Hp} {Φ : Nat → List Addr}, StR K E Γ ρ σ H Φ → ∀ (o : Option Int), f ρ = some o → ∀ Q : Option Int → Hp → Prop, (∀ H', Ext H H' → Q o H') → t σ H Q
structure Ov (X : Cx) (Γ : List Nat) (e : Option Expr) (f : Store → Option (Option Int)) (t : TO) : Prop where
  po : PO X e t
  sd : SdO X.K Γ t f
def oNone : Store → Option (Option Int) := fun _ => some none
def oSome (f : Store → Option D) : Store → Option (Option Int) := fun ρ => match f ρ with
  | some (.int i) => some (some i)
  | _ => none
theorem ov_none : Ov X Γ none oNone tNoPart := ⟨po_none, ⟨fun R o e Q q => by cases e; exact q _ (.rfl' _)⟩⟩
theorem ov_some (h : Ev X Γ e m B f t) : Ov X Γ (some e) (oSome f) (tPart t) := by
  refine ⟨po_some h.pe, ⟨fun {E ρ σ H Φ} R o e Q q => ?_⟩⟩
  unfold oSome at e
  split at e
  · rename_i i e1
    cases e
    refine h.sd.sh R e1 _ fun v H1 x o => ?_
    cases o
    exact ⟨i, rfl, q _ x⟩
  · cases e
def cutD {α : Type} (xs : List α) (lo hi : Option Int) : List α := (xs.drop (HT.sIx xs.length 0 lo)).take (HT.sIx xs.length xs.length hi - HT.sIx xs.length 0 lo)
theorem OwnL.cut {H : Hp} {N : Addr → Prop} {ds : List D} {vs : List V} {fp : List Addr} (o : OwnL K H N 0 ds vs fp) (lo hi : Option Int) : OwnL K H N 0 (cutD ds lo hi) (cutV vs lo hi) [] := by
  unfold cutD cutV
  rw [o.len]
  exact (o.drop0 rfl _).take0 rfl _
/-- a slice's operation on what stands for a value -/
structure OpS (K : PySem.W.Frag) (r : V → Option Int → Option Int → Hp → VK → Prop) (m : Nat) (g : D → Option Int → Option Int → Option D) : Prop where
  run : ∀ {H : Hp} {N : Addr → Prop} {d1 d : D} {v1 : V} {lo hi : Option Int}, Own K H N 0 d1 v1 [] → g d1 lo hi = some d → ∀ Q : VK,
    (∀ v H' Ψ, Ext H H' → (∀ a ∈ Ψ, H a = none) → Ψ.Nodup → Own K H' (fun a => N a ∨ (H a = none ∧ a ∉ Ψ)) m d v Ψ → Q v H') → r v1 lo hi H Q
def gSlL : D → Option Int → Option Int → Option D
  | .lst ds, lo, hi => some (.lst (cutD ds lo hi))
  | _, _, _ => none
def gSlT : D → Option Int → Option Int → Option D
  | .tup ds, lo, hi => some (.tup (cutD ds lo hi))
  | _, _, _ => none
theorem os_list : OpS K (rSlL K) 1 gSlL := by
  refine ⟨fun {H N d1 d v1 lo hi} o1 e Q q => ?_⟩
  unfold gSlL at e
  split at e
  · rename_i ds
    cases e
    obtain ⟨l, vs, rfl, s, lo⟩ := o1.lst_inv0
    exact ⟨l, vs, rfl, s, fin_lst q (lo.cut _ _)⟩
  · cases e
theorem cut_all {α : Type} {xs : List α} {lo hi : Option Int} (h1 : HT.sIx xs.length 0 lo = 0) (h2 : HT.sIx xs.length xs.length hi = xs.length) : cutD xs lo hi = xs := by
  unfold cutD
  rw [h1, h2, List.drop_zero, Nat.sub_zero, List.take_length]
theorem os_tup : OpS K (rSlA K) 0 gSlT := by
  refine ⟨fun {H N d1 d v1 lo hi} o1 e Q q => ?_⟩
  unfold gSlT at e
  split at e
  · rename_i ds
    cases e
    obtain ⟨l, vs, rfl, s, lo⟩ := o1.tup_inv
    refine ⟨l, vs, rfl, s, fun h => ?_, fun h => fin_tup q (lo.cut _ _)⟩
    rw [lo.len] at h
    rw [cut_all h.1 h.2] at q
    exact finS q (.tup s lo)
  · cases e
def eSl (g : D → Option Int → Option Int → Option D) (f : Store → Option D) (lo hi : Store → Option (Option Int)) : Store → Option D := fun ρ => match f ρ with
  | some d => (match lo ρ with
    | some l => (match hi ρ with
      | some u => g d l u
      | none => none)
    | none => none)
  | none => none
theorem sd_sl {r : V → Option Int → Option Int → Hp → VK → Prop} {g : D → Option Int → Option Int → Option D} {lo hi : Store → Option (Option Int)} {tl th : TO} (ho : OpS K r m g) (h : SdE K Γ t m1 B f) (hl : SdO K Γ tl lo) (hh : SdO K Γ th hi) :
    SdE K Γ (tSl r t tl th) m B (eSl g f lo hi) := by
  refine ⟨fun {E ρ σ H Φ} R d e Q q => ?_⟩
  unfold eSl at e
  split at e
  · rename_i d1 e1
    split at e
    · rename_i l e2
      split at e
      · rename_i u e3
        refine h.sh R e1 _ fun v1 H1 x1 o1 => ?_
        refine hl.run (R.ext x1) _ e2 _ fun H2 x2 => ?_
        have x12 : Ext H H2 := fun a o e => x2 a o (x1 a o e)
        refine hh.run (R.ext x12) _ e3 _ fun H3 x3 => ?_
        have x13 : Ext H1 H3 := fun a o e => x3 a o (x2 a o e)
        refine ho.run (o1.move (H' := H3) (N' := fun a => (∃ o, H3 a = some o) ∧ ∀ j, j ∉ B → a ∉ Φ j) (fun a o e _ => x13 a o e) (fun a o e z => ⟨x13 a o e, ⟨o, x13 a o e⟩, z.2⟩) fun a _ o e => x13 a o e) e Q fun v H4 Ψ x4 new nd o => ?_
        exact q v H4 Ψ (res_of R (fun a o e => x13 a o (x1 a o e)) x4 new nd o)
      · cases e
    · cases e
  · cases e
theorem ev_sl {r : V → Option Int → Option Int → Hp → VK → Prop} {g : D → Option Int → Option Int → Option D} {el eh : Option Expr} {lo hi : Store → Option (Option Int)} {tl th : TO} {p2 : Pos} (hr : SlR X r) (ho : OpS X.K r m g) (h : Ev X Γ e m1 B f t) (hl : Ov X Γ el lo tl) (hh : Ov X Γ eh hi th) :
    Ev X Γ (.Subscript e (.Slice el eh none p2) pos) m B (eSl g f lo hi) (tSl r t tl th) := ⟨pe_slice hr h.pe hl.po hh.po, sd_sl ho h.sd hl.sd hh.sd⟩
/-- xs[::-1] -/
def eRev (f : Store → Option D) : Store → Option D := fun ρ => match f ρ with
  | some (.lst ds) => some (.lst ds.reverse)
  | _ => none
theorem ev_rev {kk : Nat} {p1 p2 p3 : Pos} (h : Ev X Γ e m1 B f t) : Ev X Γ (.Subscript e (.Slice none none (some (.UnaryOp .USub (.Constant (.int 1) kk p1) p2)) p3) pos) 1 B (eRev f) (tRevL X.K t) := by
  refine ⟨pe_revL h.pe, ⟨fun {E ρ σ H Φ} R d e Q q => ?_⟩⟩
  unfold eRev at e
  split at e
  · rename_i ds e1
    cases e
    refine h.sd.sh R e1 _ fun v H1 x o => ?_
    obtain ⟨l, vs, rfl, s, lo⟩ := o.lst_inv0
    exact ⟨l, vs, rfl, s, fin_lst (fun v H' Ψ x2 new nd o => q v H' Ψ (res_of R x x2 new nd o)) (lo.rev0 rfl)⟩
  · cases e

/-! ### lists that change: in a slot -/
variable {W : WX} {I : Nat → Nat} {r : Nat} {Γb : List Nat}
def sAppend (i : Nat) (f : Store → Option D) : Store → Option O := fun ρ => match eVar i ρ with
  | some (.lst ds) => (match f ρ with
    | some d => if ds.length < sizeLine then some (.nx (ρ.set i (some (.lst (ds ++ [d]))))) else none
    | none => none)
  | _ => none
theorem sd_append {i : Nat} (hm : Γ.getD i 0 = k + 1) (h : SdE K Γ te k [] f) : SdS K W I r Γ Γb Γ (tDrop (tBM K "list" rAppend (tVar i) (tCons te tNil))) (sAppend i f) := by
  refine ⟨fun {E ρ σ H Φ} hI R o e D q => ?_⟩
  unfold sAppend at e
  split at e
  · rename_i ds e0
    split at e
    · rename_i d e1
      split at e
      · rename_i hz
        cases e
        obtain ⟨v, h1, h2⟩ := R.val i _ (eVar_some e0)
        obtain ⟨k', l, vs, fp, ek, rfl, efp, hl, lo⟩ := h2.lst_inv (by rw [hm]; exact Nat.succ_ne_zero k)
        rw [hm] at ek
        cases ek
        refine ⟨_, h1, .inl ⟨rfl, _, .inl (.inl hl)⟩, ?_⟩
        refine h.run R _ e1 _ fun y H1 Ψ rs => ?_
        have hl1 := rs.ext _ _ hl
        refine ⟨l, vs, y, rfl, rfl, hl1, by rw [lo.len]; exact hz, ?_⟩
        have nf : (l :: fp).Nodup := by have := R.nd i; rw [efp] at this; exact this
        have nfl : l ∉ fp := (List.nodup_cons.mp nf).1
        have lΦ : l ∈ Φ i := by rw [efp]; exact List.mem_cons_self
        have nlΨ : l ∉ Ψ := fun m => by have z := rs.new l m; rw [hl] at z; cases z
        have st : ∀ a o, H1 a = some o → a ≠ l → upd H1 l (.lst (vs ++ [y])) a = some o := fun a o e n => by rw [upd_ne n]; exact e
        have tup1 : ∀ a o, H1 a = some o → ¬ notTup o → a ≠ l := fun a o e t z => by subst z; rw [hl1] at e; cases e; exact t trivial
        refine q _ _ _ (R.mut (i := i) (v := .ref l) (Ψ := l :: (fp ++ Ψ)) h1 (by rw [hm]; exact Nat.succ_ne_zero k) (fun a o e n => st a o (rs.ext a o e) fun z => n (by rw [z]; exact lΦ)) (fun a o e => ?_) ?_ ?_ fun a m => ?_)
        · by_cases z : a = l
          · subst z; exact ⟨_, upd_same⟩
          · exact ⟨o, st a o (rs.ext a o e) z⟩
        · rw [hm]
          refine .lst upd_same (OwnL.app ?_ ?_)
          · refine lo.move (fun a o e t => st a o (rs.ext a o e) (tup1 a o (rs.ext a o e) t)) (fun a o e z => ?_) fun a m o e => st a o (rs.ext a o e) fun z => nfl (by rw [← z]; exact m)
            have nl : a ≠ l := fun z' => z i (by rw [z']; exact lΦ)
            refine ⟨st a o (rs.ext a o e) nl, fun m => ?_, fun j _ => z j⟩
            rcases List.mem_cons.mp m with m | m
            · exact nl m
            · rcases List.mem_append.mp m with m | m
              · exact z i (by rw [efp]; exact List.mem_cons_of_mem _ m)
              · have z2 := rs.new a m; rw [e] at z2; cases z2
          · have o1 := rs.own.move (H' := upd H1 l (.lst (vs ++ [y]))) (N' := fun a => a ∉ l :: (fp ++ Ψ) ∧ ∀ j, j ≠ i → a ∉ Φ j) (fun a o e t => st a o e (tup1 a o e t)) (fun a o e z => by
              have nl : a ≠ l := fun z' => z.2 i List.not_mem_nil (by rw [z']; exact lΦ)
              refine ⟨st a o e nl, fun m => ?_, fun j _ => z.2 j List.not_mem_nil⟩
              rcases List.mem_cons.mp m with m | m
              · exact nl m
              · rcases List.mem_append.mp m with m | m
                · exact z.2 i List.not_mem_nil (by rw [efp]; exact List.mem_cons_of_mem _ m)
                · exact z.1 m) fun a m o e => st a o e fun z => nlΨ (by rw [← z]; exact m)
            have o2 : OwnL K (upd H1 l (.lst (vs ++ [y]))) (fun a => a ∉ l :: (fp ++ Ψ) ∧ ∀ j, j ≠ i → a ∉ Φ j) k [d] [y] (Ψ ++ []) := .cons o1 .nil
            rw [List.append_nil] at o2
            exact o2
        · refine List.nodup_cons.mpr ⟨fun m => (List.mem_append.mp m).elim nfl nlΨ, List.nodup_append.mpr ⟨(List.nodup_cons.mp nf).2, rs.nd, fun a m1 b m2 e => ?_⟩⟩
          subst e
          exact R.notIn (rs.new a m2) i (by rw [efp]; exact List.mem_cons_of_mem _ m1)
        · rcases List.mem_cons.mp m with m | m
          · subst m; exact .inl lΦ
          · rcases List.mem_append.mp m with m | m
            · exact .inl (by rw [efp]; exact List.mem_cons_of_mem _ m)
            · exact .inr (rs.new a m)
      · cases e
    · cases e
  · cases e
end
end VL

/-! VL9: what is walked; comprehensions. -/
namespace VL
open PySem PySem.Spec L2
open PyProof.Rows hiding St
variable {K : PySem.W.Frag}

section
variable {X : Cx} {Γ Γt : List Nat} {a b c e tg : Expr} {es rest : List Expr} {m m1 m2 m3 k : Nat} {B B1 B2 B3 : List Nat} {f f1 f2 f3 : Store → Option D} {fa : Store → Option (List D)} {t te t1 t2 t3 u : TE} {ta : TA} {pos p : Pos}
/-! ### iterators -/
def iLst (f : Store → Option D) : Store → Option (List D) := fun ρ => match f ρ with
  | some (.lst ds) => some ds
  | _ => none
def iTp (f : Store → Option D) : Store → Option (List D) := fun ρ => match f ρ with
  | some (.tup ds) => some ds
  | _ => none
theorem wk_list {ds : List D} {a : Addr} : Wk K (Itl K a) (.lst ds) (.ref a) ds := by
  refine ⟨fun {H N} o i d e => ?_, fun {H N} o => ?_⟩
  · obtain ⟨_, vs, e0, s, lo⟩ := o.lst_inv0
    cases e0
    obtain ⟨v, hv, o⟩ := lo.get0 e
    refine ⟨⟨vs, v, s, hv⟩, fun x H2 y => ?_⟩
    obtain ⟨rfl, y⟩ := y
    have z := y vs s
    rw [hv] at z
    cases z
    exact ⟨.rfl' _, o⟩
  · obtain ⟨_, vs, e0, s, lo⟩ := o.lst_inv0
    cases e0
    exact ⟨vs, s, by rw [lo.len]; exact Nat.le_refl _⟩
theorem wk_tup {ds : List D} {a : Addr} : Wk K (Itt K a) (.tup ds) (.ref a) ds := by
  refine ⟨fun {H N} o i d e => ?_, fun {H N} o => ?_⟩
  · obtain ⟨_, vs, e0, s, lo⟩ := o.tup_inv
    cases e0
    obtain ⟨v, hv, o⟩ := lo.get0 e
    refine ⟨⟨vs, v, s, hv⟩, fun x H2 y => ?_⟩
    obtain ⟨rfl, y⟩ := y
    have z := y vs s
    rw [hv] at z
    cases z
    exact ⟨.rfl' _, o⟩
  · obtain ⟨_, vs, e0, s, lo⟩ := o.tup_inv
    cases e0
    exact ⟨vs, s, by rw [lo.len]; exact Nat.le_refl _⟩
theorem own_live {H : Hp} {Φ : Nat → List Addr} {d : D} {v : V} (o : Own K H (fun a => (∃ o, H a = some o) ∧ ∀ j, j ∉ ([] : List Nat) → a ∉ Φ j) 0 d v []) : Own K H (fun a => ∀ j, a ∉ Φ j) 0 d v [] :=
  o.move (fun a o e _ => e) (fun a o e z => ⟨e, fun j => z.2 j List.not_mem_nil⟩) fun a m => (nomatch m)
theorem iv_list (h : Ev X Γ e m [] f t) : Iv X Γ tg e (iLst f) (iList X.K t) := by
  refine ⟨pi_list h.pe, ⟨fun {E ρ σ H Φ} R ds e Q q => ?_⟩⟩
  unfold iLst at e
  split at e
  · rename_i ds' e1
    cases e
    refine h.sd.sh R e1 _ fun v H1 x o => ?_
    obtain ⟨l, vs, rfl, s, lo⟩ := o.lst_inv0
    exact ⟨l, rfl, ⟨vs, s⟩, q _ _ _ _ x (own_live o) wk_list⟩
  · cases e
theorem iv_tup (h : Ev X Γ e m [] f t) : Iv X Γ tg e (iTp f) (iTup X.K t) := by
  refine ⟨pi_tup h.pe, ⟨fun {E ρ σ H Φ} R ds e Q q => ?_⟩⟩
  unfold iTp at e
  split at e
  · rename_i ds' e1
    cases e
    refine h.sd.sh R e1 _ fun v H1 x o => ?_
    obtain ⟨l, vs, rfl, s, lo⟩ := o.tup_inv
    exact ⟨l, rfl, ⟨vs, s⟩, q _ _ _ _ x (own_live o) wk_tup⟩
  · cases e
/-- lo, lo + 1, .. -/
def ups (lo : Int) (n : Nat) : List D := (List.range n).map fun i : Nat => D.int (lo + (i : Int))
theorem ups_get {lo : Int} {n i : Nat} {d : D} (e : (ups lo n)[i]? = some d) : i < n ∧ d = .int (lo + i) := by
  unfold ups at e
  have h := lt_of_some e
  rw [List.length_map, List.length_range] at h
  rw [List.getElem?_map, List.getElem?_range h] at e
  cases e
  exact ⟨h, rfl⟩
theorem ups_len {lo : Int} {n : Nat} : (ups lo n).length = n := by unfold ups; rw [List.length_map, List.length_range]
theorem wk_ups {lo : Int} {n : Nat} : Wk K (Itr lo n) .non .non (ups lo n) := by
  refine ⟨fun {H N} o i d e => ?_, fun {H N} o => ?_⟩
  · obtain ⟨h, rfl⟩ := ups_get e
    refine ⟨h, fun x H2 y => ?_⟩
    obtain ⟨rfl, rfl⟩ := y
    exact ⟨.rfl' _, .int⟩
  · show n ≤ (ups lo n).length
    rw [ups_len]; exact Nat.le_refl _
def steps (lo c : Int) (n : Nat) : List D := (List.range n).map fun i : Nat => D.int (lo + (i : Int) * c)
theorem steps_len {lo c : Int} {n : Nat} : (steps lo c n).length = n := by unfold steps; rw [List.length_map, List.length_range]
theorem wk_steps {lo c : Int} {n : Nat} : Wk K (Itc lo c n) .non .non (steps lo c n) := by
  refine ⟨fun {H N} o i d e => ?_, fun {H N} o => ?_⟩
  · unfold steps at e
    have h := lt_of_some e
    rw [List.length_map, List.length_range] at h
    rw [List.getElem?_map, List.getElem?_range h] at e
    cases e
    refine ⟨h, fun x H2 y => ?_⟩
    obtain ⟨rfl, rfl⟩ := y
    exact ⟨.rfl' _, .int⟩
  · show n ≤ (steps lo c n).length
    rw [steps_len]; exact Nat.le_refl _
def cR (j : Int) : Bool := decide (-(2 ^ 62) ≤ j) && decide (j < 2 ^ 62)
theorem cR_ok {j : Int} (h : cR j = true) : -(2 ^ 62) ≤ j ∧ j < 2 ^ 62 := by
  unfold cR at h
  simpa using h
def iR1 (fa : Store → Option (List D)) : Store → Option (List D) := fun ρ => match fa ρ with
  | some [.int j] => if cR j = true then some (ups 0 j.toNat) else none
  | _ => none
def iR2 (fa : Store → Option (List D)) : Store → Option (List D) := fun ρ => match fa ρ with
  | some [.int i, .int j] => if cR i = true ∧ cR j = true then some (ups i (j - i).toNat) else none
  | _ => none
theorem OwnL.int1 {H : Hp} {N : Addr → Prop} {i : Int} {vs : List V} {fp : List Addr} (o : OwnL K H N 0 [.int i] vs fp) : vs = [.int i] := by
  obtain ⟨v, r, rfl, h, l⟩ := o.cons_inv0
  cases h; rw [l.nil_inv]
theorem OwnL.int2 {H : Hp} {N : Addr → Prop} {i j : Int} {vs : List V} {fp : List Addr} (o : OwnL K H N 0 [.int i, .int j] vs fp) : vs = [.int i, .int j] := by
  obtain ⟨v, r, rfl, h, l⟩ := o.cons_inv0
  cases h; rw [l.int1]
theorem OwnL.int3 {H : Hp} {N : Addr → Prop} {i j k : Int} {vs : List V} {fp : List Addr} (o : OwnL K H N 0 [.int i, .int j, .int k] vs fp) : vs = [.int i, .int j, .int k] := by
  obtain ⟨v, r, rfl, h, l⟩ := o.cons_inv0
  cases h; rw [l.int2]
theorem iv_r1 (hg : Gl X "range") (hm : X.mg "range" = none) (ha : Av X Γ [a] 0 B fa ta) (hs : starEach [a] X.env = [(false, eval a X.env)] := by rfl) : Iv X Γ tg (.Call (.Name "range" p) [a] [] pos) (iR1 fa) (iRng1 ta) := by
  refine ⟨pi_range1 hg hm ha.pa hs, ⟨fun {E ρ σ H Φ} R ds e Q q => ?_⟩⟩
  unfold iR1 at e
  split at e
  · rename_i j e1
    split at e
    · rename_i h
      cases e
      refine ha.sd.sh R e1 _ fun vs H1 x o => ?_
      obtain ⟨h1, h2⟩ := cR_ok h
      exact ⟨j, o.int1, h1, h2, q _ _ _ _ x .non wk_ups⟩
    · cases e
  · cases e
theorem iv_r2 (hg : Gl X "range") (hm : X.mg "range" = none) (ha : Av X Γ [a, b] 0 B fa ta) (hs : starEach [a, b] X.env = [(false, eval a X.env), (false, eval b X.env)] := by rfl) (hs2 : starEach [b] X.env = [(false, eval b X.env)] := by rfl) : Iv X Γ tg (.Call (.Name "range" p) [a, b] [] pos) (iR2 fa) (iRng2 ta) := by
  refine ⟨pi_range2 hg hm ha.pa hs hs2, ⟨fun {E ρ σ H Φ} R ds e Q q => ?_⟩⟩
  unfold iR2 at e
  split at e
  · rename_i i j e1
    split at e
    · rename_i h
      cases e
      refine ha.sd.sh R e1 _ fun vs H1 x o => ?_
      obtain ⟨h1, h2⟩ := cR_ok h.1
      obtain ⟨h3, h4⟩ := cR_ok h.2
      exact ⟨i, j, o.int2, ⟨h1, h2, h3, h4⟩, q _ _ _ _ x .non wk_ups⟩
    · cases e
  · cases e
/-- range(i, j, c) -/
def iR3 (fa : Store → Option (List D)) : Store → Option (List D) := fun ρ => match fa ρ with
  | some [.int i, .int j, .int c] => if c ≠ 0 ∧ c.natAbs < 1073741824 ∧ Builtin.Range.small i j c = true ∧ 0 ≤ Builtin.Range.rangeSize i j c then some (steps i c (Builtin.Range.rangeSize i j c).toNat) else none
  | _ => none
theorem iv_r3 (hg : Gl X "range") (hm : X.mg "range" = none) (ha : Av X Γ [a, b, c] 0 B fa ta) (hs : starEach [a, b, c] X.env = (false, eval a X.env) :: starEach [b, c] X.env := by rfl) (hpl : (backTo pos (starEach [b, c] X.env)).any (·.1) = false := by rfl) : Iv X Γ tg (.Call (.Name "range" p) [a, b, c] [] pos) (iR3 fa) (iRng3 ta) := by
  refine ⟨pi_range3 hg hm ha.pa hs hpl, ⟨fun {E ρ σ H Φ} R ds e Q q => ?_⟩⟩
  unfold iR3 at e
  split at e
  · rename_i i j c e1
    split at e
    · rename_i h
      cases e
      refine ha.sd.sh R e1 _ fun vs H1 x o => ?_
      exact ⟨i, j, c, _, o.int3, ⟨h.1, h.2.1, h.2.2.1, by rw [Int.toNat_of_nonneg h.2.2.2]⟩, q _ _ _ _ x .non wk_steps⟩
    · cases e
  · cases e
/-- reversed(range(j)), reversed(range(i, j)) -/
def dwn (lo hi : Int) : List D := steps (lo + (((hi - lo).toNat : Nat) : Int) - 1) (-1) (hi - lo).toNat
structure SdRg (K : PySem.W.Frag) (Γ : List Nat) (t : St → Hp → (Int → Int → Hp → Prop) → Prop) (f : Store → Option (Int × Int)) : Prop where
  run : ∀ {E : Entry} {ρ : Store} {σ : St} {H : Hp} {Φ : Nat → List Addr}, StR K E Γ ρ σ H Φ → ∀ {i j : Int}, f ρ = some (i, j) → ∀ Q : Int → Int → Hp → Prop, (∀ H', Ext H H' → Q i j H') → t σ H Q
structure Rg (X : Cx) (Γ : List Nat) (e : Expr) (f : Store → Option (Int × Int)) (t : St → Hp → (Int → Int → Hp → Prop) → Prop) : Prop where
  prg : PRg X e t
  sd : SdRg X.K Γ t f
def rg1 (f : Store → Option D) : Store → Option (Int × Int) := fun ρ => match f ρ with
  | some (.int j) => some (0, j)
  | _ => none
def rg2 (f g : Store → Option D) : Store → Option (Int × Int) := fun ρ => match f ρ with
  | some (.int i) => (match g ρ with
    | some (.int j) => some (i, j)
    | _ => none)
  | _ => none
theorem rg_1 (hg : Gl X "range") (hm : X.mg "range" = none) (h : Ev X Γ a m B f t) (na : starEach [a] X.env = (false, eval a X.env) :: starEach [] X.env := by rfl) : Rg X Γ (.Call (.Name "range" p) [a] [] pos) (rg1 f) (tRg1 t) := by
  refine ⟨prg_1 hg hm h.pe na, ⟨fun {E ρ σ H Φ} R i j e Q q => ?_⟩⟩
  unfold rg1 at e
  split at e
  · rename_i j' e1
    cases e
    refine h.sd.sh R e1 _ fun v H1 x o => ?_
    cases o
    exact ⟨_, rfl, q _ x⟩
  · cases e
theorem rg_2 (hg : Gl X "range") (hm : X.mg "range" = none) (h1 : Ev X Γ a m1 B1 f1 t1) (h2 : Ev X Γ b m2 B2 f2 t2) (na : starEach [a, b] X.env = (false, eval a X.env) :: starEach [b] X.env := by rfl) (nb : starEach [b] X.env = (false, eval b X.env) :: starEach [] X.env := by rfl) (hp : ((backTo pos (starEach [b] X.env)).any fun x => x.1) = false := by rfl) :
    Rg X Γ (.Call (.Name "range" p) [a, b] [] pos) (rg2 f1 f2) (tRg2 t1 t2) := by
  refine ⟨prg_2 hg hm h1.pe h2.pe na nb hp, ⟨fun {E ρ σ H Φ} R i j e Q q => ?_⟩⟩
  unfold rg2 at e
  split at e
  · rename_i i' e1
    split at e
    · rename_i j' e2
      cases e
      refine two h1.sd h2.sd R e1 e2 _ fun v1 v2 H1 x o1 o2 => ?_
      cases o1; cases o2
      exact ⟨_, _, rfl, rfl, q _ x⟩
    · cases e
  · cases e
def iRv (f : Store → Option (Int × Int)) : Store → Option (List D) := fun ρ => match f ρ with
  | some (i, j) => if cR i = true ∧ cR j = true then some (dwn i j) else none
  | none => none
theorem iv_rev {tr : St → Hp → (Int → Int → Hp → Prop) → Prop} {fr : Store → Option (Int × Int)} (hg : Gl X "reversed") (hm : X.mg "reversed" = none) (h : Rg X Γ e fr tr) (hs : starEach [e] X.env = (false, eval e X.env) :: starEach [] X.env := by rfl) : Iv X Γ tg (.Call (.Name "reversed" p) [e] [] pos) (iRv fr) (iRevR tr) := by
  refine ⟨pi_revR hg hm h.prg hs, ⟨fun {E ρ σ H Φ} R ds e Q q => ?_⟩⟩
  unfold iRv at e
  split at e
  · rename_i i j e1
    split at e
    · rename_i hc
      cases e
      refine h.sd.run R e1 _ fun H1 x => ?_
      obtain ⟨h1, h2⟩ := cR_ok hc.1
      obtain ⟨h3, h4⟩ := cR_ok hc.2
      exact ⟨h1, h2, h3, h4, q _ _ _ _ x .non wk_steps⟩
    · cases e
  · cases e
/-- list(range(..)), tuple(range(..)) -/
theorem own_rg {H : Hp} {N : Addr → Prop} {n : Nat} {lo : Int} : ∀ (l : List Nat), OwnL K H N n (l.map fun i : Nat => D.int (lo + (i : Int))) (l.map fun i : Nat => V.int (lo + (i : Nat))) []
  | [] => .nil
  | i :: l => .cons (fp := []) (fps := []) .int (own_rg l)
def eLRg (f : Store → Option (Int × Int)) : Store → Option D := fun ρ => match f ρ with
  | some (i, j) => if cR i = true ∧ cR j = true ∧ (j - i).toNat ≤ 2 ^ 24 then some (.lst (ups i (j - i).toNat)) else none
  | none => none
theorem ev_lrg {tr : St → Hp → (Int → Int → Hp → Prop) → Prop} {fr : Store → Option (Int × Int)} (hc : X.calm = true) (hg : Gl X "list") (hm : X.mg "list" = none) (h : Rg X Γ e fr tr) (na : starEach [e] X.env = (false, eval e X.env) :: starEach [] X.env := by rfl) :
    Ev X Γ (.Call (.Name "list" p) [e] [] pos) 1 [] (eLRg fr) (tLstRg tr) := by
  refine ⟨pe_listRg hc hg hm h.prg na, ⟨fun {E ρ σ H Φ} R d e Q q => ?_⟩⟩
  unfold eLRg at e
  split at e
  · rename_i i j e1
    split at e
    · rename_i hc
      cases e
      refine h.sd.run R e1 _ fun H1 x => ?_
      obtain ⟨h1, h2⟩ := cR_ok hc.1
      obtain ⟨h3, h4⟩ := cR_ok hc.2.1
      exact ⟨⟨h1, h2, h3, h4, hc.2.2⟩, fin_lst (N := fun _ => False) (fun v H' Ψ x2 new nd o => q v H' Ψ (res_of R x x2 new nd (o.move (fun a o e _ => e) (fun a o e z => ⟨e, z.elim False.elim .inr⟩) fun a _ o e => e))) (own_rg _)⟩
    · cases e
  · cases e
def eTRg (f : Store → Option (Int × Int)) : Store → Option D := fun ρ => match f ρ with
  | some (i, j) => if cR i = true ∧ cR j = true ∧ (j - i).toNat ≤ 2 ^ 24 then some (.tup (ups i (j - i).toNat)) else none
  | none => none
theorem ev_trg {tr : St → Hp → (Int → Int → Hp → Prop) → Prop} {fr : Store → Option (Int × Int)} (hc : X.calm = true) (hg : Gl X "tuple") (hm : X.mg "tuple" = none) (h : Rg X Γ e fr tr) (na : starEach [e] X.env = (false, eval e X.env) :: starEach [] X.env := by rfl) :
    Ev X Γ (.Call (.Name "tuple" p) [e] [] pos) 0 [] (eTRg fr) (tTupRg tr) := by
  refine ⟨pe_tupRg hc hg hm h.prg na, ⟨fun {E ρ σ H Φ} R d e Q q => ?_⟩⟩
  unfold eTRg at e
  split at e
  · rename_i i j e1
    split at e
    · rename_i hc
      cases e
      refine h.sd.run R e1 _ fun H1 x => ?_
      obtain ⟨h1, h2⟩ := cR_ok hc.1
      obtain ⟨h3, h4⟩ := cR_ok hc.2.1
      exact ⟨⟨h1, h2, h3, h4, hc.2.2⟩, fin_tup (N := fun _ => False) (fun v H' Ψ x2 new nd o => q v H' Ψ (res_of R x x2 new nd (o.move (fun a o e _ => e) (fun a o e z => ⟨e, z.elim False.elim .inr⟩) fun a _ o e => e))) (own_rg _)⟩
    · cases e
  · cases e

/-! ### comprehensions -/
theorem StR.forget {E : Entry} {ρ : Store} {σ : St} {H : Hp} {Φ : Nat → List Addr} (R : StR K E Γ ρ σ H Φ) : StR K ⟨fun _ => none, fun _ => [], fun _ => .non, fun _ => 0, E.G⟩ Γ ρ σ H Φ :=
  ⟨R.len, R.gl, R.val, R.em, R.nd, R.dj, R.lv, fun _ _ _ => .inl rfl, ⟨fun _ _ e => (by cases e), fun _ _ e => (by cases e)⟩, fun _ _ e => (by cases e), fun _ n => absurd rfl n, R.gh⟩
/-- what is being made is changed -/
theorem StR.hmut {E : Entry} {ρ : Store} {σ : St} {H H2 : Hp} {Φ : Nat → List Addr} {J : Nat} {D₀ : Addr} {o₀ : HO} (R : StR K E Γ ρ σ H Φ) (hJ : ρ.length ≤ J) (hD : D₀ ∈ Φ J) (st : ∀ a o, H a = some o → a ≠ D₀ → H2 a = some o) (hD2 : H2 D₀ = some o₀) (nt : notTup o₀) :
    StR K E Γ ρ σ H2 Φ := by
  have tp : ∀ a o, H a = some o → ¬ notTup o → H2 a = some o := fun a o e t => st a o e fun z => by
    subst z
    obtain ⟨o', e', t'⟩ := R.lv J a hD
    rw [e] at e'; cases e'; exact t t'
  have sh : ∀ a o, H a = some o → (∀ j, a ∉ Φ j) → H2 a = some o ∧ ∀ j, a ∉ Φ j := fun a o e z => ⟨st a o e fun z' => z J (by rw [z']; exact hD), z⟩
  refine ⟨R.len, R.gl, fun j d e => ?_, R.em, R.nd, R.dj, fun j a m => ?_, R.nw, ?_, fun a o e => ?_, R.iv, fun p m => (R.gh p m).move tp sh fun a m => (nomatch m)⟩
  · obtain ⟨v, h1, h2⟩ := R.val j d e
    exact ⟨v, h1, h2.move tp sh fun a m o e' => st a o e' fun z => by
      subst z
      have := R.dj j J a m hD
      have := lt_of_some e
      omega⟩
  · by_cases z : a = D₀
    · subst z; exact ⟨o₀, hD2, nt⟩
    · obtain ⟨o, h1, h2⟩ := R.lv j a m
      exact ⟨o, st a o h1 z, h2⟩
  · refine ⟨fun a o e n => st a o (R.kp.kp a o e n) fun z => ?_, fun a o e nt => tp a o (R.kp.tp a o e nt) nt⟩
    subst z
    rcases R.nw J a hD with z | ⟨z, z'⟩
    · rw [e] at z; cases z
    · exact n J z z'
  · obtain ⟨o', e'⟩ := R.dm a o e
    by_cases z : a = D₀
    · subst z; exact ⟨o₀, hD2⟩
    · exact ⟨o', st a o' e' z⟩
def wipeD (ρ : Store) : List Nat → Store
  | [] => ρ
  | v :: vs => (wipeD ρ vs).set v none
theorem wipeD_len {ρ : Store} : ∀ {vs : List Nat}, (wipeD ρ vs).length = ρ.length
  | [] => rfl
  | v :: vs => by unfold wipeD; rw [List.length_set, wipeD_len]
theorem wipe_get {σ : St} : ∀ {vs : List Nat} {k : Nat}, k ∉ vs → (wipe σ vs)[k]? = σ[k]?
  | [], _, _ => rfl
  | v :: vs, k, n => by
    unfold wipe
    rw [List.getElem?_set_ne fun e => n (by rw [e]; exact List.mem_cons_self), wipe_get fun m => n (List.mem_cons_of_mem _ m)]
theorem wipe_in {σ : St} : ∀ {vs : List Nat} {k : Nat}, k ∈ vs → k < σ.length → (wipe σ vs)[k]? = some none
  | v :: vs, k, m, hl => by
    unfold wipe
    by_cases e : v = k
    · subst e
      rw [List.getElem?_set_self (by rw [wipe_length]; exact hl)]
    · rw [List.getElem?_set_ne e]
      exact wipe_in ((List.mem_cons.mp m).resolve_left fun z => e z.symm) hl
theorem wipe_eq {σ σ' : St} {vs is : List Nat} (hl : σ'.length = σ.length) (h : ∀ k, k ∉ is → σ'[k]? = σ[k]?) (s : ∀ k ∈ is, k ∈ vs) : wipe σ' vs = wipe σ vs := by
  apply List.ext_getElem?
  intro k
  by_cases m : k ∈ vs
  · by_cases hk : k < σ.length
    · rw [wipe_in m hk, wipe_in m (by rw [hl]; exact hk)]
    · rw [List.getElem?_eq_none (by rw [wipe_length]; omega), List.getElem?_eq_none (by rw [wipe_length]; omega)]
  · rw [wipe_get m, wipe_get m]
    exact h k fun mi => m (s k mi)
theorem wipe_wipe {σ : St} {vs : List Nat} : wipe (wipe σ vs) vs = wipe σ vs := by
  apply List.ext_getElem?
  intro k
  by_cases m : k ∈ vs
  · by_cases hk : k < σ.length
    · rw [wipe_in m hk, wipe_in m (by rw [wipe_length]; exact hk)]
    · rw [List.getElem?_eq_none (by rw [wipe_length, wipe_length]; omega), List.getElem?_eq_none (by rw [wipe_length]; omega)]
  · rw [wipe_get m]
theorem StR.wipe {E : Entry} {ρ : Store} {σ : St} {H : Hp} {Φ : Nat → List Addr} (R : StR K E Γ ρ σ H Φ) (hio : ∀ i, E.io i = 0) (vs : List Nat) : StR K E Γ (wipeD ρ vs) (L2.wipe σ vs) H Φ := by
  have get : ∀ (vs : List Nat) (k : Nat) (d : D), (wipeD ρ vs)[k]? = some (some d) → k ∉ vs ∧ ρ[k]? = some (some d) := by
    intro vs
    induction vs with
    | nil => exact fun k d e => ⟨List.not_mem_nil, e⟩
    | cons v vs ih =>
      intro k d e
      unfold wipeD at e
      by_cases z : v = k
      · subst z
        by_cases hl : v < (wipeD ρ vs).length
        · rw [List.getElem?_set_self hl] at e; cases e
        · rw [List.getElem?_eq_none (by rw [List.length_set]; omega)] at e; cases e
      · rw [List.getElem?_set_ne z] at e
        obtain ⟨h1, h2⟩ := ih k d e
        exact ⟨fun m => (List.mem_cons.mp m).elim (fun e => z e.symm) h1, h2⟩
  refine ⟨by rw [wipe_length, wipeD_len]; exact R.len, by rw [wipeD_len]; exact R.gl, fun k d e => ?_, fun i l => R.em i (by rw [wipeD_len] at l; exact l), R.nd, R.dj, R.lv, R.nw, R.kp, R.dm, fun i n => absurd (hio i) n, R.gh⟩
  obtain ⟨h1, h2⟩ := get vs k d e
  obtain ⟨v, h3, h4⟩ := R.val k d h2
  exact ⟨v, by rw [wipe_get h1]; exact h3, h4⟩

def lcD (g : D → Store → Option Store) (p : Store → Option Bool) (f : Store → Option D) (ρ : Store) : List D → Option (List D)
  | [] => some []
  | d :: ds => match g d ρ with
    | none => none
    | some ρ1 => match p ρ1 with
      | none => none
      | some false => lcD g p f ρ ds
      | some true => match f ρ1 with
        | none => none
        | some x => match lcD g p f ρ ds with
          | none => none
          | some xs => some (x :: xs)
def eLc (vs : List Nat) (it : Store → Option (List D)) (g : D → Store → Option Store) (p : Store → Option Bool) (f : Store → Option D) : Store → Option D := fun ρ => match it ρ with
  | some ds => if ds.length < sizeLine then (match lcD g p f (wipeD ρ vs) ds with | some xs => some (.lst xs) | none => none) else none
  | none => none
theorem lcD_len {g : D → Store → Option Store} {p : Store → Option Bool} {f : Store → Option D} {ρ : Store} : ∀ {ds xs : List D}, lcD g p f ρ ds = some xs → xs.length ≤ ds.length
  | [], xs, e => by cases e; exact Nat.le_refl _
  | d :: ds, xs, e => by
    unfold lcD at e
    split at e
    · cases e
    · split at e
      · cases e
      · exact Nat.le_succ_of_le (lcD_len e)
      · split at e
        · cases e
        · split at e
          · cases e
          · rename_i e2
            cases e
            exact Nat.succ_le_succ (lcD_len e2)
theorem sd_lc {wi : TI} {g : TG} {tt : TT} {vs is : List Nat} {it : Store → Option (List D)} {gf : D → Store → Option Store} {pf : Store → Option Bool} (hi : SdI K Γ wi it) (hg : SdG K (fun _ => 0) Γ g Γt gf is) (ht : SdT K Γt tt pf) (he : SdE K Γt te k [] f) (hs : ∀ i ∈ is, i ∈ vs) (hz0 : ∀ i ∈ is, i < Γ.length ∧ Γ.getD i 0 = 0) :
    SdE K Γ (tLc wi g tt te vs) (k + 1) [] (eLc vs it gf pf f) := by
  refine ⟨fun {E ρ σ Hs Φ} R d e Q q => ?_⟩
  unfold eLc at e
  split at e
  · rename_i ds e1
    split at e
    · rename_i hz
      split at e
      · rename_i xs e2
        cases e
        refine hi.run R ds e1 _ fun J H1 gd gv x1 og wk D₀ nD => ?_
        -- the new list is kept apart
        have R0 := ((R.ext x1).ghost og).forget
        have hJ : ρ.length ≤ ρ.length + is.sum + 1 := by omega
        generalize hJe : ρ.length + is.sum + 1 = JJ at hJ
        have nJ : JJ ∉ is := fun m => by have := le_sum_mem m; omega
        generalize hE : (⟨fun _ => none, fun _ => [], fun _ => .non, fun _ => 0, (gd, gv) :: E.G⟩ : Entry) = E0 at R0
        have gE : (gd, gv) ∈ E0.G := by rw [← hE]; exact List.mem_cons_self
        have ioE : E0.io = fun _ => 0 := by rw [← hE]
        have R1 := (R0.hide (Ψ := [D₀]) (H' := upd H1 D₀ (.lst [])) (ext_upd nD) (fun a m => by rw [List.mem_singleton.mp m]; exact nD) (fun a m => by rw [List.mem_singleton.mp m]; exact ⟨_, upd_same, trivial⟩) (List.nodup_cons.mpr ⟨List.not_mem_nil, .nil⟩) hJ).wipe (fun i => by rw [ioE]) vs
        -- what holds at each turn
        refine ⟨fun i m H => m = ds.length - i ∧ i ≤ ds.length ∧ ∃ (Φ' : Nat → List Addr) (Ψ : List Addr) (accD : List D) (acc : List V) (zs : List D), StR K E0 Γ (wipeD ρ vs) (L2.wipe σ vs) H Φ' ∧ (∀ j, j ≠ JJ → Φ' j = Φ j) ∧ Φ' JJ = Φ JJ ++ D₀ :: Ψ ∧ H D₀ = some (.lst acc) ∧
          OwnL K H (fun a => ∀ j, a ∉ Φ' j) k accD acc Ψ ∧ (∀ a o, H1 a = some o → H a = some o) ∧ (∀ a ∈ Ψ, H1 a = none) ∧ accD.length ≤ i ∧ lcD gf pf f (wipeD ρ vs) (ds.drop i) = some zs ∧ accD ++ zs = xs,
          ⟨ds.length, by simp, Nat.zero_le _, _, [], [], [], xs, R1, fun j n => if_neg n, if_pos rfl, upd_same, .nil, fun a o e => ext_upd nD a o e, fun a m => (nomatch m), Nat.le_refl _, by rw [List.drop_zero]; exact e2, rfl⟩, fun i m H w => ?_⟩
        obtain ⟨em, hle, Φ', Ψ, accD, acc, zs, R, ΦN, ΦJ, hD, lo, old, new, hlen, e2, ez⟩ := w
        have og := R.gh _ gE
        have DJ : D₀ ∈ Φ' JJ := by rw [ΦJ]; exact List.mem_append_right _ List.mem_cons_self
        have hJw : (wipeD ρ vs).length ≤ JJ := by rw [wipeD_len]; exact hJ
        by_cases hlt : i < ds.length
        · right
          obtain ⟨go, yl⟩ := wk.go og i ds[i] (List.getElem?_eq_getElem hlt)
          rw [List.drop_eq_getElem_cons hlt] at e2
          unfold lcD at e2
          split at e2
          · cases e2
          · rename_i ρ1 e3
            refine ⟨go, fun H => ∃ (Φ' : Nat → List Addr) (Ψ : List Addr) (accD : List D) (acc : List V) (zs : List D), StR K E0 Γ (wipeD ρ vs) (L2.wipe σ vs) H Φ' ∧ (∀ j, j ≠ JJ → Φ' j = Φ j) ∧ Φ' JJ = Φ JJ ++ D₀ :: Ψ ∧ H D₀ = some (.lst acc) ∧
              OwnL K H (fun a => ∀ j, a ∉ Φ' j) k accD acc Ψ ∧ (∀ a o, H1 a = some o → H a = some o) ∧ (∀ a ∈ Ψ, H1 a = none) ∧ accD.length ≤ i + 1 ∧ lcD gf pf f (wipeD ρ vs) (ds.drop (i + 1)) = some zs ∧ accD ++ zs = xs, fun H' n => ⟨ds.length - (i + 1), by omega, rfl, hlt, n⟩, fun v H2 y => ?_⟩
            obtain ⟨x2, ov⟩ := yl v H2 y
            have R2 := R.ext x2
            refine hg.run ioE R2 ov e3 _ fun σ' Φ2 R3 hσ hΦ => ⟨?_, ?_⟩
            · rw [← wipe_wipe (σ := σ)]
              exact wipe_eq hσ.2 hσ.1 hs
            · have Φ2J : Φ2 JJ = Φ' JJ := hΦ JJ nJ
              have Φ2s : ∀ a, (∀ j, a ∉ Φ2 j) → ∀ j, a ∉ Φ' j := fun a z j => by
                by_cases mj : j ∈ is
                · obtain ⟨l1, l2⟩ := hz0 j mj
                  rw [R.em j (Nat.lt_of_lt_of_le l1 R.gl) l2]
                  exact List.not_mem_nil
                · rw [← hΦ j mj]; exact z j
              split at e2
              · cases e2
              · rename_i e4
                refine ht.run R3 _ e4 _ fun H3 x3 => ?_
                rw [if_neg Bool.false_ne_true]
                have x23 : Ext H H3 := fun a o e => x3 a o (x2 a o e)
                exact ⟨Φ', Ψ, accD, acc, zs, R.ext x23, ΦN, ΦJ, x23 _ _ hD, lo.move (fun a o e _ => x23 a o e) (fun a o e z => ⟨x23 a o e, z⟩) fun a _ o e => x23 a o e, fun a o e => x23 a o (old a o e), new, by omega, e2, ez⟩
              · rename_i e4
                refine ht.run R3 _ e4 _ fun H3 x3 => ?_
                rw [if_pos rfl]
                have x23 : Ext H H3 := fun a o e => x3 a o (x2 a o e)
                split at e2
                · cases e2
                · rename_i xv e5
                  split at e2
                  · cases e2
                  · rename_i zs' e6
                    cases e2
                    refine he.run (R3.ext x3) _ e5 _ fun y H4 Ψ4 rs => ?_
                    have x24 : Ext H H4 := fun a o e => rs.ext a o (x23 a o e)
                    have n4 : ∀ a ∈ Ψ4, H a = none := fun a m => by
                      cases z : H a with
                      | none => rfl
                      | some o => have z2 := x23 a o z; rw [rs.new a m] at z2; cases z2
                    refine ⟨acc, x24 _ _ hD, by rw [lo.len]; omega, ?_⟩
                    have st : ∀ a o, H4 a = some o → a ≠ D₀ → upd H4 D₀ (.lst (acc ++ [y])) a = some o := fun a o e n => by rw [upd_ne n]; exact e
                    have tupD : ∀ a o, H4 a = some o → ¬ notTup o → a ≠ D₀ := fun a o e t z => by subst z; rw [x24 _ _ hD] at e; cases e; exact t trivial
                    have R4 := R.hide x24 n4 (fun a m => rs.own.live a m) rs.nd hJw
                    have R5 := R4.hmut (D₀ := D₀) (o₀ := .lst (acc ++ [y])) hJw (by rw [if_pos rfl]; exact List.mem_append_left _ DJ) st upd_same trivial
                    have up : ∀ a o, H a = some o → (∀ j, a ∉ Φ' j) → upd H4 D₀ (.lst (acc ++ [y])) a = some o ∧ ∀ j, a ∉ (if j = JJ then Φ' j ++ Ψ4 else Φ' j) := fun a o e z => ⟨st a o (x24 a o e) fun z' => z JJ (by rw [z']; exact DJ), fun j => by
                      split
                      · exact fun m => (List.mem_append.mp m).elim (z j) fun m => by rw [n4 a m] at e; cases e
                      · exact z j⟩
                    have DΨ : D₀ ∉ Ψ := fun m => by
                      have nd := R.nd JJ
                      rw [ΦJ] at nd
                      exact (List.nodup_cons.mp (List.nodup_append.mp nd).2.1).1 m
                    refine ⟨_, Ψ ++ Ψ4, accD ++ [xv], acc ++ [y], zs', R5, fun j n => by rw [if_neg n]; exact ΦN j n, by rw [if_pos rfl, ΦJ, List.append_assoc, List.cons_append], upd_same, OwnL.app (lo.move (fun a o e t => st a o (x24 a o e) (tupD a o (x24 a o e) t)) up fun a m o e => st a o (x24 a o e) fun z => DΨ (by rw [← z]; exact m)) ?_, fun a o e => st a o (x24 a o (old a o e)) fun z => (by rw [z, nD] at e; cases e), fun a m => ?_, by rw [List.length_append, List.length_singleton]; omega, e6, by rw [← ez, List.append_assoc]; rfl⟩
                    · have o1 := rs.own.move (H' := upd H4 D₀ (.lst (acc ++ [y]))) (N' := fun a => ∀ j, a ∉ (if j = JJ then Φ' j ++ Ψ4 else Φ' j)) (fun a o e t => st a o e (tupD a o e t)) (fun a o e z => by
                        have z2 := Φ2s a fun j => z.2 j List.not_mem_nil
                        refine ⟨st a o e fun z' => z2 JJ (by rw [z']; exact DJ), fun j => ?_⟩
                        split
                        · exact fun m => (List.mem_append.mp m).elim (z2 j) z.1
                        · exact z2 j) fun a m o e => st a o e fun z => by
                          have z2 := n4 a m
                          rw [z, hD] at z2; cases z2
                      have o2 : OwnL K (upd H4 D₀ (.lst (acc ++ [y]))) (fun a => ∀ j, a ∉ (if j = JJ then Φ' j ++ Ψ4 else Φ' j)) k [xv] [y] (Ψ4 ++ []) := .cons o1 .nil
                      rw [List.append_nil] at o2
                      exact o2
                    · rcases List.mem_append.mp m with m | m
                      · exact new a m
                      · cases z : H1 a with
                        | none => rfl
                        | some o => have z2 := old a o z; rw [n4 a m] at z2; cases z2
        · left
          have ei : i = ds.length := by omega
          subst ei
          rw [List.drop_length] at e2
          cases e2
          rw [List.append_nil] at ez
          subst ez
          refine ⟨wk.stop og, q _ _ (D₀ :: Ψ) ⟨fun a o e => old a o (x1 a o e), fun a m => ?_, ?_, .lst hD ?_⟩⟩
          · rcases List.mem_cons.mp m with m | m
            · subst m
              cases z : Hs a with
              | none => rfl
              | some o => have z2 := x1 a o z; rw [nD] at z2; cases z2
            · cases z : Hs a with
              | none => rfl
              | some o => have z2 := x1 a o z; rw [new a m] at z2; cases z2
          · have nd := R.nd JJ
            rw [ΦJ] at nd
            exact (List.nodup_append.mp nd).2.1
          · refine lo.move (fun a o e _ => e) (fun a o e z => ⟨e, fun m => z JJ (by rw [ΦJ]; exact List.mem_append_right _ m), fun j _ => ?_⟩) fun a _ o e => e
            by_cases hj : j = JJ
            · subst hj
              exact fun m => z j (by rw [ΦJ]; exact List.mem_append_left _ m)
            · rw [← ΦN j hj]; exact z j
      · cases e
    · cases e
  · cases e
end
end VL

/-! VL10: comprehensions in the text; stores and pops; built-ins. -/
namespace VL
open PySem PySem.Spec L2
open PyProof.Rows hiding St
variable {K : PySem.W.Frag}

structure Tsv (X : Cx) (Γ : List Nat) (es : List Expr) (f : Store → Option Bool) (t : TT) : Prop where
  ts : PTs X es t
  sd : SdT X.K Γ t f
section
variable {X : Cx} {W : WX} {I : Nat → Nat} {r : Nat} {Γ Γt Γb Γ' : List Nat} {a b c e tg elt iter : Expr} {es ifs rest : List Expr} {m m1 m2 m3 k : Nat} {B B1 B2 B3 : List Nat} {f f1 f2 f3 : Store → Option D} {fa : Store → Option (List D)} {t te t1 t2 t3 u : TE} {ta : TA} {tt : TT} {pos p : Pos}
def bYes : Store → Option Bool := fun _ => some true
theorem tsv_nil : Tsv X Γ [] bYes tYes := ⟨pts_nil, ⟨fun R b e Q q => by cases e; exact q _ (.rfl' _)⟩⟩
theorem tsv_one {pf : Store → Option Bool} (h : Tv X Γ c pf tt) : Tsv X Γ [c] pf tt := ⟨pts_one h.pt, h.sd⟩
theorem ev_lc {scope : Scope} {own : List (Str × Nat)} {wi : TI} {g : TG} {is : List Nat} {it : Store → Option (List D)} {gf : D → Store → Option Store} {pf : Store → Option Bool} (hc : X.calm = true) (hN : X.N.Nodup) (hi : Iv X Γ tg iter it wi) (ok : BlkOk X.N X.env.scope scope own)
    (hg : ∀ (s : Shared) (H : Hp) (C : Addr) (cl : List (Str × Addr)) (fp : List Addr), Gv (X.blk s H scope (compEnvC scope cl C X.env) fp) (fun _ => 0) Γ tg Γt gf is g) (ht : ∀ (s : Shared) (H : Hp) (C : Addr) (cl : List (Str × Addr)) (fp : List Addr), Tsv (X.blk s H scope (compEnvC scope cl C X.env) fp) Γt ifs pf tt)
    (he : ∀ (s : Shared) (H : Hp) (C : Addr) (cl : List (Str × Addr)) (fp : List Addr), Ev (X.blk s H scope (compEnvC scope cl C X.env) fp) Γt elt k [] f te) (hss : ∀ i ∈ is, i ∈ own.map (·.2)) (hz : ∀ i ∈ is, i < Γ.length ∧ Γ.getD i 0 = 0) (hs : ∀ x, foldedSetIterable iter X.env x = pure x := by intro _; rfl) :
    Ev X Γ (.ListComp elt [⟨tg, iter, ifs, 0⟩] scope pos) (k + 1) [] (eLc (own.map (·.2)) it gf pf f) (tLc wi g tt te (own.map (·.2))) :=
  ⟨pe_lc hc hN hi.pi ok (fun s H C cl fp => (hg s H C cl fp).pg) (fun s H C cl fp => (ht s H C cl fp).ts) (fun s H C cl fp => (he s H C cl fp).pe) hs, sd_lc hi.sd (hg X.s_0 X.H_0 0 [] []).sd (ht X.s_0 X.H_0 0 [] []).sd (he X.s_0 X.H_0 0 [] []).sd hss hz⟩
theorem sv_setLc {i : Nat} {y : Str} {py spos : Pos} {scope : Scope} {own : List (Str × Nat)} {wi : TI} {g : TG} {is : List Nat} {it : Store → Option (List D)} {gf : D → Store → Option Store} {pf : Store → Option Bool} (hc : X.calm = true) (hN : X.N.Nodup) (hy : X.N[i]? = some y) (hyl : X.env.scope.names.lookup y = some .local)
    (hsw : swapsWith (.ListComp elt [⟨tg, iter, ifs, 0⟩] scope pos) (some (.Name y py)) spos.line X.env = pure true) (hi : Iv X Γ tg iter it wi) (ok : BlkOk X.N X.env.scope scope own)
    (hg : ∀ (s : Shared) (H : Hp) (C : Addr) (cl : List (Str × Addr)) (fp : List Addr), Gv (X.blk s H scope (compEnvC scope cl C X.env) fp) (fun _ => 0) Γ tg Γt gf is g) (ht : ∀ (s : Shared) (H : Hp) (C : Addr) (cl : List (Str × Addr)) (fp : List Addr), Tsv (X.blk s H scope (compEnvC scope cl C X.env) fp) Γt ifs pf tt)
    (he : ∀ (s : Shared) (H : Hp) (C : Addr) (cl : List (Str × Addr)) (fp : List Addr), Ev (X.blk s H scope (compEnvC scope cl C X.env) fp) Γt elt k [] f te) (hss : ∀ i ∈ is, i ∈ own.map (·.2)) (hz : ∀ i ∈ is, i < Γ.length ∧ Γ.getD i 0 = 0) (hG : i < Γ.length) (hio : I i = 0) (hs : ∀ x, foldedSetIterable iter X.env x = pure x := by intro _; rfl) :
    Sv X W I r Γ Γb (.Assign [.Name y py] (.ListComp elt [⟨tg, iter, ifs, 0⟩] scope pos) spos) (Γ.set i (k + 1)) (sSet i (eLc (own.map (·.2)) it gf pf f)) (tAsg (tLc wi g tt te (own.map (·.2))) (gName i)) :=
  ⟨ps_setLc hc hN hy hyl hsw hi.pi ok (fun s H C cl fp => (hg s H C cl fp).pg) (fun s H C cl fp => (ht s H C cl fp).ts) (fun s H C cl fp => (he s H C cl fp).pe) hs, sd_set (sd_lc hi.sd (hg X.s_0 X.H_0 0 [] []).sd (ht X.s_0 X.H_0 0 [] []).sd (he X.s_0 X.H_0 0 [] []).sd hss hz) hG hio⟩

/-! ### statements in the text -/
variable {st : Stmt} {sts : List Stmt} {F G : Store → Option O} {ts us : TS}
theorem lv_nil : Lv X W I r Γ Γb [] Γ sNx tNext := ⟨pss_nil, sd_nx⟩
theorem lv_one (h : Sv X W I r Γ Γb st Γ' F ts) : Lv X W I r Γ Γb [st] Γ' F ts := ⟨pss_one h.ps, h.sd⟩
theorem lv_cons {Γ1 : List Nat} (h1 : Sv X W I r Γ Γb st Γ1 F ts) (h2 : Lv X W I r Γ1 Γb sts Γ' G us) : Lv X W I r Γ Γb (st :: sts) Γ' (sSeq F G) (tSeq ts us) := ⟨pss_cons h1.ps h2.pss, sd_seq h1.sd h2.sd⟩
theorem Lv.demIn (i : Nat) (h : Lv X W I r (Γ.set i 0) Γb sts Γ' F ts) : Lv X W I r Γ Γb sts Γ' F ts := ⟨h.pss, h.sd.demIn i⟩
theorem Lv.demOut (i : Nat) (h : Lv X W I r Γ Γb sts Γ' F ts) : Lv X W I r Γ Γb sts (Γ'.set i 0) F ts := ⟨h.pss, h.sd.demOut i⟩
theorem Sv.demIn (i : Nat) (h : Sv X W I r (Γ.set i 0) Γb st Γ' F ts) : Sv X W I r Γ Γb st Γ' F ts := ⟨h.ps, h.sd.demIn i⟩
theorem Sv.demOut (i : Nat) (h : Sv X W I r Γ Γb st Γ' F ts) : Sv X W I r Γ Γb st (Γ'.set i 0) F ts := ⟨h.ps, h.sd.demOut i⟩
theorem sv_set {i : Nat} {x : Str} {pos' : Pos} (hN : X.N.Nodup) (hi : X.N[i]? = some x) (hx : Loc X.env.scope x) (he : Ev X Γ e m [] f te) (hG : i < Γ.length) (hio : I i = 0) (hs : swapsWith e (some (.Name x pos')) pos.line X.env = pure false := by rfl) (hf : X.fn x = true ∨ X.env.scope.names.lookup x = some .local := by first | exact .inl rfl | exact .inr rfl | assumption) :
    Sv X W I r Γ Γb (.Assign [.Name x pos'] e pos) (Γ.set i m) (sSet i f) (tAsg te (gName i)) := ⟨ps_set hN hi hx he.pe hs hf, sd_set he.sd hG hio⟩
theorem sv_if {pf : Store → Option Bool} {as bs : List Stmt} (hc : Tv X Γ c pf tt) (h1 : Lv X W I r Γ Γb as Γ' F ts) (h2 : Lv X W I r Γ Γb bs Γ' G us) : Sv X W I r Γ Γb (.If c as bs pos) Γ' (sIf pf F G) (tIfS tt ts us) := ⟨ps_if hc.pt h1.pss h2.pss, sd_if hc.sd h1.sd h2.sd⟩
theorem sv_ret (he : Ev X Γ e r B f te) (hio : ∀ i, I i ≠ 0 → Γ.getD i 0 = I i) : Sv X W I r Γ Γb (.Return (some e) pos) Γ' (sRet r f) (tRet te) := ⟨ps_ret he.pe, sd_ret he.sd hio⟩
theorem sv_retv {i : Nat} {x : Str} {pos' : Pos} (hN : X.N[i]? = some x) (hv : Vis X.env.scope x) (hi : I i = 0) (hm : Γ.getD i 0 = r) (hio : ∀ i, I i ≠ 0 → Γ.getD i 0 = I i) (hd : (x == ("__debug__" : Str)) = false := by decide) (hcd : (x == ("__classdict__" : Str)) = false := by decide) :
    Sv X W I r Γ Γb (.Return (some (.Name x pos')) pos) Γ' (sRet r (eVar i)) (tRet (tVar i)) := ⟨ps_ret (pe_var hN hv hd hcd), sd_retv hi hm hio⟩
theorem sv_retN (hio : ∀ i, I i ≠ 0 → Γ.getD i 0 = I i) : Sv X W I r Γ Γb (.Return none pos) Γ' sRetN tRetN := ⟨ps_retN, sd_retN hio⟩
theorem sv_for {wi : TI} {g : TG} {is : List Nat} {it : Store → Option (List D)} {gf : D → Store → Option Store} {body : List Stmt} (hp : PassesOwn (model X.prog X.w) X.A X.env X.xe) (hc : X.calm = true) (hi : Iv X Γ tg iter it wi) (hg : Gv X I Γ tg Γt gf is g) (hb : Lv X W I r Γt Γ body Γ F ts)
    (hs : ∀ x, foldedSetIterable iter X.env x = pure x := by intro _; rfl) : Sv X W I r Γ Γb (.For tg iter body [] pos) Γ (sFor it gf F) (tFor wi g ts) := ⟨ps_for hp hc hi.pi hg.pg hb.pss hs, sd_for hi.sd hg.sd hb.sd⟩
theorem sv_while {pf : Store → Option Bool} {body : List Stmt} (hp : PassesOwn (model X.prog X.w) X.A X.env X.xe) (hc : Tv X Γ c pf tt) (hb : Lv X W I r Γ Γ body Γ F ts) : Sv X W I r Γ Γb (.While c body [] pos) Γ (sWhile pf F) (tWhile tt ts) := ⟨ps_while hp hc.pt hb.pss, sd_while hc.sd hb.sd⟩
theorem sv_bk : Sv X W I r Γ Γ (.Break pos) Γ' sBk tBreak := ⟨ps_break, sd_bk⟩
theorem sv_drop (he : Ev X Γ e m B f te) (hs : swapsWith e none pos.line X.env = pure false := by rfl) : Sv X W I r Γ Γb (.Expr e pos) Γ (sDrop f) (tDrop te) := ⟨ps_expr he.pe hs, sd_drop he.sd⟩
theorem gv_name {i : Nat} {x : Str} (hN : X.N.Nodup) (hi : X.N[i]? = some x) (hx : Loc X.env.scope x) (hG : i < Γ.length) (hio : I i = 0) (hf : X.fn x = true ∨ X.env.scope.names.lookup x = some .local := by first | exact .inl rfl | exact .inr rfl | assumption) : Gv X I Γ (.Name x pos) (Γ.set i 0) (gSet i) [i] (gName i) := ⟨pg_name hN hi hx hf, sdg_name hG hio⟩
theorem gv_two {i j : Nat} {x y : Str} {p1 p2 : Pos} {kk : Nat} (hc : X.calm = true) (hN : X.N.Nodup) (hi : X.N[i]? = some x) (hj : X.N[j]? = some y) (hx : Loc X.env.scope x) (hy : Loc X.env.scope y) (hG : i < Γ.length) (hG' : j < Γ.length) (hio : I i = 0) (hio' : I j = 0) (hf : X.fn x = true ∨ X.env.scope.names.lookup x = some .local := by first | exact .inl rfl | exact .inr rfl | assumption)
    (hf' : X.fn y = true ∨ X.env.scope.names.lookup y = some .local := by first | exact .inl rfl | exact .inr rfl | assumption) (hn : (assignEach [.Name x p1, .Name y p2] X.env).length = 2 := by rfl) (hst : (assignEach [.Name x p1, .Name y p2] X.env).findIdx? (·.1) = none := by rfl)
    (hs1 : (assignEach [.Name x p1, .Name y p2] X.env).map (·.2) = assign (.Name x p1) X.env :: (assignEach [.Name y p2] X.env).map (·.2) := by rfl) (hs2 : (assignEach [.Name y p2] X.env).map (·.2) = assign (.Name y p2) X.env :: (assignEach [] X.env).map (·.2) := by rfl) :
    Gv X I Γ (.Tuple [.Name x p1, .Name y p2] kk pos) ((Γ.set i 0).set j 0) (gSet2 i j) [i, j] (gTup X.K 2 (gCons (gName i) (gCons (gName j) gNil))) :=
  ⟨pg_tup hc (pgs_cons (pg_name hN hi hx hf) (pgs_cons (pg_name hN hj hy hf') pgs_nil hs2) hs1) hn hst, sdg_two hG hG' hio hio'⟩
theorem sv_append {i : Nat} {x : Str} {pn pa pc ps : Pos} (hN : X.N[i]? = some x) (hv : Vis X.env.scope x) (hm : Γ.getD i 0 = k + 1) (he : Ev X Γ e k [] f te)
    (hpe : PE X (.Call (.Attribute (.Name x pn) "append" pa) [e] [] pc) (tBM X.K "list" rAppend (tVar i) (tCons te tNil))) (hs : swapsWith (.Call (.Attribute (.Name x pn) "append" pa) [e] [] pc) none ps.line X.env = pure false := by rfl) :
    Sv X W I r Γ Γb (.Expr (.Call (.Attribute (.Name x pn) "append" pa) [e] [] pc) ps) Γ (sAppend i f) (tDrop (tBM X.K "list" rAppend (tVar i) (tCons te tNil))) := ⟨ps_expr hpe hs, sd_append hm he.sd⟩
/-- x += e, ints -/
def sAugI (g : Int → Int → Int) (i : Nat) (f : Store → Option D) : Store → Option O := fun ρ => match eVar i ρ with
  | some (.int a) => (match f ρ with
    | some (.int b) => some (.nx (ρ.set i (some (.int (g a b)))))
    | _ => none)
  | _ => none
theorem sd_augI {i : Nat} {g : Int → Int → Int} (h0 : Γ.getD i 0 = 0) (hG : i < Γ.length) (hi : I i = 0) (h : SdE K Γ te m B f) : SdS K W I r Γ Γb (Γ.set i 0) (tAug i te (ipI g)) (sAugI g i f) := by
  refine ⟨fun {E ρ σ H Φ} hI R o e D q => ?_⟩
  unfold sAugI at e
  split at e
  · rename_i x e1
    split at e
    · rename_i y e2
      cases e
      obtain ⟨v, h1, h2⟩ := R.val i _ (eVar_some e1)
      obtain ⟨rfl, _⟩ := h2.int_inv
      refine ⟨_, h1, h.sh R e2 _ fun w H1 x1 o => ?_⟩
      cases o
      exact ⟨x, y, rfl, rfl, q _ _ _ (R.set (Ψ := []) ⟨x1, fun a m => (nomatch m), .nil, .int⟩ hG (by rw [hI]; exact hi))⟩
    · cases e
  · cases e
theorem sv_augI {i : Nat} {x : Str} {op : Operator} {g : Int → Int → Int} {pos' : Pos} (hN : X.N.Nodup) (hi : X.N[i]? = some x) (hx : Loc X.env.scope x) (he : Ev X Γ e m B f te) (ho : PIp X op (ipI g)) (h0 : Γ.getD i 0 = 0) (hG : i < Γ.length) (hio : I i = 0)
    (hf : X.fn x = true ∨ X.env.scope.names.lookup x = some .local := by first | exact .inl rfl | exact .inr rfl | assumption) : Sv X W I r Γ Γb (.AugAssign (.Name x pos') op e pos) (Γ.set i 0) (sAugI g i f) (tAug i te (ipI g)) := ⟨ps_aug hN hi hx he.pe ho hf, sd_augI h0 hG hio he.sd⟩

/-! ### built-ins -/
def gLen : List D → Option D
  | [.lst ds] => some (.int ds.length)
  | [.tup ds] => some (.int ds.length)
  | [.str z] => if z.length ≤ sizeLine then some (.int z.length) else none
  | _ => none
theorem OwnL.one {H : Hp} {N : Addr → Prop} {d : D} {vs : List V} {fp : List Addr} (o : OwnL K H N 0 [d] vs fp) : ∃ v, vs = [v] ∧ Own K H N 0 d v [] := by
  obtain ⟨v, r, rfl, h, l⟩ := o.cons_inv0
  rw [l.nil_inv]; exact ⟨v, rfl, h⟩
theorem OwnL.two {H : Hp} {N : Addr → Prop} {d1 d2 : D} {vs : List V} {fp : List Addr} (o : OwnL K H N 0 [d1, d2] vs fp) : ∃ v w, vs = [v, w] ∧ Own K H N 0 d1 v [] ∧ Own K H N 0 d2 w [] := by
  obtain ⟨v, r, rfl, h, l⟩ := o.cons_inv0
  obtain ⟨w, rfl, h2⟩ := l.one
  exact ⟨v, w, rfl, h, h2⟩
theorem oa_len : OpA K (fun xs H Q => ∃ x n, xs = [x] ∧ LenV K x H n ∧ Q (.int n) H) 0 gLen := by
  refine ⟨fun {H N ds d vs} o e Q q => ?_⟩
  unfold gLen at e
  split at e
  · rename_i ds
    cases e
    obtain ⟨v, rfl, oo⟩ := o.one
    obtain ⟨l, vs, rfl, s, lo⟩ := oo.lst_inv0
    exact ⟨_, _, rfl, .inl ⟨vs, s, lo.len.symm⟩, fin0 q fun _ => .int⟩
  · rename_i ds
    cases e
    obtain ⟨v, rfl, oo⟩ := o.one
    obtain ⟨l, vs, rfl, s, lo⟩ := oo.tup_inv
    exact ⟨_, _, rfl, .inr ⟨vs, s, lo.len.symm⟩, fin0 q fun _ => .int⟩
  · rename_i z
    split at e
    · rename_i hz
      cases e
      obtain ⟨v, rfl, oo⟩ := o.one
      obtain ⟨rfl, _⟩ := oo.str_inv
      exact ⟨_, _, rfl, ⟨hz, rfl⟩, fin0 q fun _ => .int⟩
    · cases e
  · cases e
/-- all ints -/
def D.ints : List D → Option (List Int)
  | [] => some []
  | .int i :: ds => (match D.ints ds with | some ns => some (i :: ns) | none => none)
  | _ :: _ => none
theorem ints_map : ∀ ns : List Int, D.ints (ns.map D.int) = some ns
  | [] => rfl
  | n :: ns => by
    show (match D.ints (ns.map D.int) with | some ns => some (n :: ns) | none => none) = _
    rw [ints_map ns]
theorem OwnL.ints {H : Hp} {N : Addr → Prop} {n : Nat} : ∀ {ds : List D} {vs : List V} {fp : List Addr}, OwnL K H N n ds vs fp → ∀ {ns : List Int}, D.ints ds = some ns → vs = ns.map V.int
  | _, _, _, .nil, ns, e => by cases e; rfl
  | d :: ds, _, _, .cons h l, ns, e => by
    cases d with
    | int i =>
      unfold D.ints at e
      split at e
      · rename_i ns' e2
        cases e
        cases h
        rw [OwnL.ints l e2]; rfl
      · cases e
    | _ => cases e
def gSum : List D → Option D
  | [.lst ds] => (match D.ints ds with | some ns => some (.int ns.sum) | none => none)
  | _ => none
theorem oa_sum : OpA K (rSum K) 0 gSum := by
  refine ⟨fun {H N ds d vs} o e Q q => ?_⟩
  unfold gSum at e
  split at e
  · rename_i ds
    split at e
    · rename_i ns e2
      cases e
      obtain ⟨v, rfl, oo⟩ := o.one
      obtain ⟨l, vs, rfl, s, lo⟩ := oo.lst_inv0
      rw [lo.ints e2] at s
      exact ⟨l, ns, rfl, s, fin0 q fun _ => .int⟩
    · cases e
  · cases e
def maxL : List Int → Int
  | [] => 0
  | [a] => a
  | a :: b :: r => if maxL (b :: r) ≤ a then a else maxL (b :: r)
theorem maxL_mem : ∀ {ns : List Int}, ns ≠ [] → maxL ns ∈ ns
  | [a], _ => List.mem_singleton.mpr rfl
  | a :: b :: r, _ => by
    unfold maxL
    split
    · exact List.mem_cons_self
    · exact List.mem_cons_of_mem _ (maxL_mem (List.cons_ne_nil _ _))
theorem maxL_ge : ∀ {ns : List Int} {y : Int}, y ∈ ns → y ≤ maxL ns
  | [a], y, m => by rw [List.mem_singleton.mp m]; exact Int.le_refl _
  | a :: b :: r, y, m => by
    unfold maxL
    rcases List.mem_cons.mp m with e | m
    · subst e; split <;> omega
    · have := maxL_ge m
      split <;> omega
def minL (ns : List Int) : Int := -maxL (ns.map fun i => -i)
theorem minL_mem {ns : List Int} (h : ns ≠ []) : minL ns ∈ ns := by
  unfold minL
  have m := maxL_mem (ns := ns.map fun i => -i) (by simpa using h)
  obtain ⟨x, h1, h2⟩ := List.mem_map.mp m
  rw [← h2, Int.neg_neg]; exact h1
theorem minL_le {ns : List Int} {y : Int} (h : y ∈ ns) : minL ns ≤ y := by
  unfold minL
  have m := maxL_ge (ns := ns.map fun i => -i) (y := -y) (List.mem_map.mpr ⟨y, h, rfl⟩)
  omega
def gMax : List D → Option D
  | [.lst ds] => (match D.ints ds with | some ns => if 0 < ns.length then some (.int (maxL ns)) else none | none => none)
  | _ => none
theorem pos_ne {α : Type} {l : List α} (h : 0 < l.length) : l ≠ [] := fun e => by subst e; cases h
theorem oa_max : OpA K (rMax K) 0 gMax := by
  refine ⟨fun {H N ds d vs} o e Q q => ?_⟩
  unfold gMax at e
  split at e
  · rename_i ds
    split at e
    · rename_i ns e2
      split at e
      · rename_i hp
        cases e
        obtain ⟨v, rfl, oo⟩ := o.one
        obtain ⟨l, vs, rfl, s, lo⟩ := oo.lst_inv0
        rw [lo.ints e2] at s
        refine ⟨l, ns, rfl, s, hp, fun m h1 h2 => ?_⟩
        have e : m = maxL ns := Int.le_antisymm (maxL_ge h1) (h2 _ (maxL_mem (pos_ne hp)))
        rw [e]
        exact fin0 q fun _ => .int
      · cases e
    · cases e
  · cases e
def gMin : List D → Option D
  | [.lst ds] => (match D.ints ds with | some ns => if 0 < ns.length then some (.int (minL ns)) else none | none => none)
  | _ => none
theorem oa_min : OpA K (rMin K) 0 gMin := by
  refine ⟨fun {H N ds d vs} o e Q q => ?_⟩
  unfold gMin at e
  split at e
  · rename_i ds
    split at e
    · rename_i ns e2
      split at e
      · rename_i hp
        cases e
        obtain ⟨v, rfl, oo⟩ := o.one
        obtain ⟨l, vs, rfl, s, lo⟩ := oo.lst_inv0
        rw [lo.ints e2] at s
        refine ⟨l, ns, rfl, s, hp, fun m h1 h2 => ?_⟩
        have e : m = minL ns := Int.le_antisymm (h2 _ (minL_mem (pos_ne hp))) (minL_le h1)
        rw [e]
        exact fin0 q fun _ => .int
      · cases e
    · cases e
  · cases e
def gMax2 : List D → Option D
  | [.int i, .int j] => some (.int (if j > i then j else i))
  | _ => none
def gMin2 : List D → Option D
  | [.int i, .int j] => some (.int (if j < i then j else i))
  | _ => none
theorem oa_max2 : OpA K (fun xs H Q => ∃ i j, xs = [.int i, .int j] ∧ Q (.int (if j > i then j else i)) H) 0 gMax2 := by
  refine ⟨fun {H N ds d vs} o e Q q => ?_⟩
  unfold gMax2 at e
  split at e
  · cases e
    exact ⟨_, _, o.int2, fin0 q fun _ => .int⟩
  · cases e
theorem oa_min2 : OpA K (fun xs H Q => ∃ i j, xs = [.int i, .int j] ∧ Q (.int (if j < i then j else i)) H) 0 gMin2 := by
  refine ⟨fun {H N ds d vs} o e Q q => ?_⟩
  unfold gMin2 at e
  split at e
  · cases e
    exact ⟨_, _, o.int2, fin0 q fun _ => .int⟩
  · cases e
def gInt : List D → Option D
  | [.int i] => some (.int i)
  | [.bl b] => some (.int (if b then 1 else 0))
  | _ => none
theorem oa_int : OpA K (fun xs H Q => (∃ i, xs = [.int i] ∧ Q (.int i) H) ∨ ∃ k, xs = [.bl k] ∧ Q (.int (if k then 1 else 0)) H) 0 gInt := by
  refine ⟨fun {H N ds d vs} o e Q q => ?_⟩
  unfold gInt at e
  split at e
  · cases e
    exact .inl ⟨_, o.int1, fin0 q fun _ => .int⟩
  · rename_i b
    cases e
    obtain ⟨v, rfl, oo⟩ := o.one
    obtain ⟨rfl, _⟩ := oo.bl_inv
    exact .inr ⟨b, rfl, fin0 q fun _ => .int⟩
  · cases e
/-- list(x), tuple(x) -/
def gList : List D → Option D
  | [.lst ds] => some (.lst ds)
  | [.tup ds] => some (.lst ds)
  | _ => none
theorem oa_list : OpA K (fun xs H Q => ∃ p ys, xs = [.ref p] ∧ (SqL K H p ys ∨ SqT K H p ys) ∧ ∀ l, H l = none → Q (.ref l) (upd H l (.lst ys))) 1 gList := by
  refine ⟨fun {H N ds d vs} o e Q q => ?_⟩
  unfold gList at e
  split at e
  · cases e
    obtain ⟨v, rfl, oo⟩ := o.one
    obtain ⟨l, vs, rfl, s, lo⟩ := oo.lst_inv0
    exact ⟨l, vs, rfl, .inl s, fin_lst q lo⟩
  · cases e
    obtain ⟨v, rfl, oo⟩ := o.one
    obtain ⟨l, vs, rfl, s, lo⟩ := oo.tup_inv
    exact ⟨l, vs, rfl, .inr s, fin_lst q lo⟩
  · cases e
def gTuple : List D → Option D
  | [.lst ds] => some (.tup ds)
  | [.tup ds] => some (.tup ds)
  | _ => none
theorem oa_tuple : OpA K (fun xs H Q => ∃ p ys, xs = [.ref p] ∧ ((SqL K H p ys ∧ ∀ l, H l = none → Q (.ref l) (upd H l (.tup ys))) ∨ (SqT K H p ys ∧ Q (.ref p) H))) 0 gTuple := by
  refine ⟨fun {H N ds d vs} o e Q q => ?_⟩
  unfold gTuple at e
  split at e
  · cases e
    obtain ⟨v, rfl, oo⟩ := o.one
    obtain ⟨l, vs, rfl, s, lo⟩ := oo.lst_inv0
    exact ⟨l, vs, rfl, .inl ⟨s, fin_tup q lo⟩⟩
  · cases e
    obtain ⟨v, rfl, oo⟩ := o.one
    obtain ⟨l, vs, rfl, s, lo⟩ := oo.tup_inv
    exact ⟨l, vs, rfl, .inr ⟨s, finS q (.tup s lo)⟩⟩
  · cases e
/-- isinstance(x, T), T of the built-in classes -/
def D.tyN : D → String
  | .non => "NoneType"
  | .bl _ => "bool"
  | .int _ => "int"
  | .str _ => "str"
  | .tup _ => "tuple"
  | .lst _ => "list"
  | .dct _ _ => "dict"
  | .obj _ _ _ => "object"
def isT (T : String) (d : D) : Option Bool := match d with
  | .obj _ _ _ => none
  | d => kitB d.tyN T
theorem tyX_of {H : Hp} {N : Addr → Prop} {n : Nat} {d : D} {v : V} {fp : List Addr} (o : Own K H N n d v fp) (h : d.tyN ≠ "object") : TyX K H v (.type d.tyN) := by
  cases o with
  | non => exact .base .non
  | bl => exact .base (.bl _)
  | int => exact .base (.int _)
  | str => exact .base (.str _)
  | tup s l =>
    rcases s with (s | ⟨o, s⟩) | ⟨o, its, n, hk, hc, _⟩
    · exact .base (.tup s)
    · exact .fTuple s
    · exact .kTuple hk hc
  | shl n s l =>
    rcases s with s | ⟨o, s⟩
    · exact .base (.lst s)
    · exact .base (.frz s)
  | kl s l =>
    rcases s with (s | ⟨o, s⟩) | ⟨o, its, n, hk, hc, _⟩
    · cases s
    · cases s
    · exact .kList hk hc
  | lst s l => exact .base (.lst s)
  | shd _ s => exact .base (.dK s)
  | dct s => exact .base (.dK s)
  | sho => exact absurd rfl h
  | obj => exact absurd rfl h
/-- isinstance(e, T) -/
def eIsT (T : String) (f : Store → Option D) : Store → Option D := fun ρ => match f ρ with
  | some d => (match isT T d with | some b => some (.bl b) | none => none)
  | none => none
theorem ev_isT {T : String} {x : Str} {pn : Pos} {B : List Nat} (hg : Gl X "isinstance") (hm : X.mg "isinstance" = none) (hv : bootBuiltins "isinstance" = some (.builtin "isinstance")) (h : Ev X Γ e m B f t) (hgx : Gl X x) (hmx : X.mg x = none) (hvx : bootBuiltins x = some (.type T)) (hnx : x ≠ "__name__") (hdx : (x == ("__debug__" : Str)) = false)
    (he : starEach [e, .Name x pn] X.env = (false, eval e X.env) :: starEach [.Name x pn] X.env := by rfl) (he2 : starEach [.Name x pn] X.env = (false, eval (.Name x pn) X.env) :: starEach [] X.env := by rfl) (hpl : (backTo pos (starEach [.Name x pn] X.env)).any (·.1) = false := by rfl) :
    Ev X Γ (.Call (.Name "isinstance" p) [e, .Name x pn] [] pos) 0 [] (eIsT T f) (tCB (rIsi X.K) (tCons t (tCons (tC (.ty T)) tNil))) := by
  refine ⟨pe_callB call_isi hg hm hv (pa_cons h.pe (pa_cons (pe_bltn (v := .ty T) hgx hmx hvx rfl hnx hdx) pa_nil he2) he) (by decide) (by decide) he hpl, ⟨fun {E ρ σ H Φ} R d e Q q => ?_⟩⟩
  unfold eIsT at e
  split at e
  · rename_i d' e1
    split at e
    · rename_i b e2
      cases e
      refine h.sd.sh R e1 _ fun v H1 x o => ?_
      have nd : d'.tyN ≠ "object" := fun z => by
        cases d' with
        | obj _ _ _ => cases e2
        | _ => simp [D.tyN] at z
      have e3 : kitB d'.tyN T = some b := by
        cases d' with
        | obj _ _ _ => cases e2
        | _ => exact e2
      exact ⟨v, .ty T, _, _, b, rfl, .ty T, tyX_of o nd, kit_ty e3, q _ _ _ (.sc x fun _ => .bl)⟩
    · cases e
  · cases e
/-- what is borrowed is shared while it lasts -/
theorem SdE.lendIn (i : Nat) (h : SdE K (Γ.set i 0) t m B f) : SdE K Γ t m (i :: B) f := ⟨fun R d e Q q => h.run (R.dem i) d e Q fun v H' Ψ r => q v H' Ψ ⟨r.ext, r.new, r.nd, r.own.move (fun a o e _ => e) (fun a o e z => ⟨e, z.1, fun j n => by
  have z2 := z.2 j fun mm => n (List.mem_cons_of_mem _ mm)
  rw [if_neg fun e => n (by rw [e]; exact List.mem_cons_self)] at z2
  exact z2⟩) fun a _ o e => e⟩⟩
theorem Ev.lendIn (i : Nat) (h : Ev X (Γ.set i 0) e m B f t) : Ev X Γ e m (i :: B) f t := ⟨h.pe, h.sd.lendIn i⟩
theorem SdT.lendIn (i : Nat) {pf : Store → Option Bool} (h : SdT K (Γ.set i 0) tt pf) : SdT K Γ tt pf := ⟨fun R b e Q q => h.run (R.dem i) b e Q q⟩
theorem Tv.lendIn (i : Nat) {pf : Store → Option Bool} (h : Tv X (Γ.set i 0) e pf tt) : Tv X Γ e pf tt := ⟨h.pt, h.sd.lendIn i⟩
def eClr (m : Nat) (f : Store → Option D) : Store → Option D := fun ρ => match f ρ with
  | some d => if d.immB m = true then some d else none
  | none => none
theorem SdE.clr (h : SdE K Γ t m B f) : SdE K Γ t m [] (eClr m f) := by
  refine ⟨fun {E ρ σ H Φ} R d e Q q => ?_⟩
  unfold eClr at e
  split at e
  · rename_i d' e1
    split at e
    · rename_i hm
      cases e
      exact h.run R _ e1 Q fun v H' Ψ r => q v H' Ψ ⟨r.ext, r.new, r.nd, r.own.immB hm⟩
    · cases e
  · cases e
theorem Ev.clr (h : Ev X Γ e m B f t) : Ev X Γ e m [] (eClr m f) t := ⟨h.pe, h.sd.clr⟩
end
end VL

/-! VL11: a law's end; short words for the printed texts. -/
namespace VL
open PySem PySem.Spec L2
open PyProof.Rows hiding St
variable {K : PySem.W.Frag}
theorem own_ints {H : Hp} {N : Addr → Prop} {n : Nat} : ∀ ns : List Int, OwnL K H N n (ns.map D.int) (ns.map V.int) []
  | [] => .nil
  | n :: ns => .cons (fp := []) (fps := []) .int (own_ints ns)
theorem own_script {H : Hp} {a : Addr} {ns : List Int} (h : SqL K H a (ns.map V.int)) : Own K H (fun _ => True) 0 (.lst (ns.map D.int)) (.ref a) [] := by
  rcases h with h | h
  · exact .shl trivial h (own_ints ns)
  · exact .kl (.inr h) (own_ints ns)
theorem law_sp {H : Hp} {a : Addr} {ns : List Int} {F : List D → Option D} {E : XK} (h : SqL K H a (ns.map V.int)) (e : F [.lst (ns.map D.int)] = some (.bl true)) : sp0 K 1 0 F [.ref a] H (fun v _ => v = .bl true) E :=
  ⟨[.lst (ns.map D.int)], .bl true, rfl, .cons (fp := []) (fps := []) (own_script h) .nil, e, fun v H' Ψ _ _ _ o => (o fun _ => True).bl_inv.1⟩
section
variable {X : Cx} {Γ : List Nat} {W : WX} {I : Nat → Nat} {r k m : Nat} {Γb Γ' : List Nat} {e : Expr} {f : Store → Option D} {te : TE} {pos : Pos}
/-- the name in the i-th slot -/
theorem vv (i : Nat) {x : Str} (hN : X.N[i]? = some x := by rfl) (hv : Vis X.env.scope x := by first | exact Or.inl rfl | exact Or.inr (Or.inl rfl) | exact Or.inr (Or.inr rfl)) (h0 : Γ.getD i 0 = 0 := by rfl) (hd : (x == ("__debug__" : Str)) = false := by decide) (hcd : (x == ("__classdict__" : Str)) = false := by decide) :
    Ev X Γ (.Name x pos) 0 [] (eVar i) (tVar i) := ev_var hN hv h0 hd hcd
theorem s_set (i : Nat) {x : Str} {pos' : Pos} (he : Ev X Γ e m [] f te) (hN : X.N.Nodup) (hi : X.N[i]? = some x := by rfl) (hx : Loc X.env.scope x := by first | exact Or.inl rfl | exact Or.inr rfl) (hG : i < Γ.length := by decide) (hio : I i = 0 := by rfl) (hs : swapsWith e (some (.Name x pos')) pos.line X.env = pure false := by rfl) (hf : X.fn x = true ∨ X.env.scope.names.lookup x = some .local := by first | exact .inl rfl | exact .inr rfl) :
    Sv X W I r Γ Γb (.Assign [.Name x pos'] e pos) (Γ.set i m) (sSet i f) (tAsg te (gName i)) := sv_set hN hi hx he hG hio hs hf
theorem s_ret {B : List Nat} (he : Ev X Γ e r B f te) (hio : ∀ i, I i ≠ 0 → Γ.getD i 0 = I i := by exact fun i n => absurd rfl n) : Sv X W I r Γ Γb (.Return (some e) pos) Γ' (sRet r f) (tRet te) := sv_ret he hio
theorem s_retv (i : Nat) {x : Str} {pos' : Pos} (hN : X.N[i]? = some x := by rfl) (hv : Vis X.env.scope x := by first | exact Or.inl rfl | exact Or.inr (Or.inl rfl) | exact Or.inr (Or.inr rfl)) (hi : I i = 0 := by rfl) (hm : Γ.getD i 0 = r := by rfl) (hio : ∀ i, I i ≠ 0 → Γ.getD i 0 = I i := by exact fun i n => absurd rfl n) (hd : (x == ("__debug__" : Str)) = false := by decide) (hcd : (x == ("__classdict__" : Str)) = false := by decide) :
    Sv X W I r Γ Γb (.Return (some (.Name x pos')) pos) Γ' (sRet r (eVar i)) (tRet (tVar i)) := sv_retv hN hv hi hm hio hd hcd
theorem s_append (i : Nat) {x : Str} {pn pa pc ps : Pos} (he : Ev X Γ e k [] f te) (hN : X.N[i]? = some x := by rfl) (hv : Vis X.env.scope x := by first | exact Or.inl rfl | exact Or.inr (Or.inl rfl) | exact Or.inr (Or.inr rfl)) (hm : Γ.getD i 0 = k + 1 := by rfl)
    (hbase : attributeBase (.Name x pn) "append" X.env (eval (.Name x pn) X.env) = eval (.Name x pn) X.env := by rfl) (hline : (pa.endLine == pc.line) = true := by rfl)
    (hfew : ((backTo pc (starEach [e] X.env)).all (fun x => !x.1) && (backToKw pc (keywordEach [] X.env)).all (fun x => x.1.isSome) && decide ([e].length + ([] : List Keyword).length + (if ([] : List Keyword).isEmpty then 0 else 1) < 30)) = true := by rfl)
    (hss : starEach [e] X.env = (false, eval e X.env) :: starEach [] X.env := by rfl) (hplain : (backTo pc (starEach [] X.env)).any (·.1) = false := by rfl)
    (hs : swapsWith (.Call (.Attribute (.Name x pn) "append" pa) [e] [] pc) none ps.line X.env = pure false := by rfl) (hd : (x == ("__debug__" : Str)) = false := by decide) (hcd : (x == ("__classdict__" : Str)) = false := by decide) :
    Sv X W I r Γ Γb (.Expr (.Call (.Attribute (.Name x pn) "append" pa) [e] [] pc) ps) Γ (sAppend i f) (tDrop (tBM X.K "list" rAppend (tVar i) (tCons te tNil))) :=
  sv_append hN hv hm he (pe_bm PySem.F.plainAttrs_list PySem.F.slot_list_append PySem.F.type_list_append mt_append (pe_var hN hv hd hcd) (pa_cons he.pe pa_nil hss) hbase hfew hline hss hplain) hs
theorem g_name (i : Nat) {x : Str} (hN : X.N.Nodup) (hi : X.N[i]? = some x := by rfl) (hx : Loc X.env.scope x := by first | exact Or.inl rfl | exact Or.inr rfl) (hG : i < Γ.length := by decide) (hio : I i = 0 := by rfl) (hf : X.fn x = true ∨ X.env.scope.names.lookup x = some .local := by first | exact .inl rfl | exact .inr rfl) :
    Gv X I Γ (.Name x pos) (Γ.set i 0) (gSet i) [i] (gName i) := gv_name hN hi hx hG hio hf
end
end VL

/-! VL12: the rules with the written part by its own name (inside a comprehension's block). -/
namespace VL
open PySem PySem.Spec L2
open PyProof.Rows hiding St
section
variable {X : Cx} {Γ : List Nat} {K : PySem.W.Frag} {a b c e tg : Expr} {es : List Expr} {m m1 m2 : Nat} {B B1 B2 : List Nat} {f f1 f2 : Store → Option D} {fa : Store → Option (List D)} {t t1 t2 : TE} {ta : TA} {pos p : Pos}
theorem xop_addA (hK : X.K = K := by rfl) : OpR X (binaryOp .Add) (rAddA K) := by subst hK; exact op_addA
theorem xop_catS (hK : X.K = K := by rfl) : OpR X (binaryOp .Add) (rCatS K) := by subst hK; exact op_catS
theorem xop_eq (hu : X.A.units + 64 < cLine) (hK : X.K = K := by rfl) : OpR X (compareOp .Eq) (rEqD K) := by subst hK; exact op_eqD hu
theorem xop_ne (hu : X.A.units + 64 < cLine) (hK : X.K = K := by rfl) : OpR X (compareOp .NotEq) (rNeD K) := by subst hK; exact op_neD hu
theorem xop_in (hK : X.K = K := by rfl) : OpR X (compareOp .In) (rIn K false) := by subst hK; exact op_in_seq
theorem xop_nin (hK : X.K = K := by rfl) : OpR X (compareOp .NotIn) (rIn K true) := by subst hK; exact op_notIn_seq
theorem xev_ix (h1 : Ev X Γ a m1 B1 f1 t1) (h2 : Ev X Γ b m2 B2 f2 t2) (hs : PlainIx b) (hK : X.K = K := by rfl) : Ev X Γ (.Subscript a b pos) 0 (B1 ++ B2) (e2 gIx f1 f2) (tOp (rIx K) t1 t2) := by subst hK; exact ev_ix h1 h2 hs
theorem xsl_list (hK : X.K = K := by rfl) : SlR X (rSlL K) := by subst hK; exact sl_list
theorem xsl_tup (hK : X.K = K := by rfl) : SlR X (rSlA K) := by subst hK; exact sl_tupA
theorem xev_rev {kk : Nat} {p1 p2 p3 : Pos} (h : Ev X Γ e m1 B f t) (hK : X.K = K := by rfl) : Ev X Γ (.Subscript e (.Slice none none (some (.UnaryOp .USub (.Constant (.int 1) kk p1) p2)) p3) pos) 1 B (eRev f) (tRevL K t) := by subst hK; exact ev_rev h
theorem xc_len (hK : X.K = K := by rfl) : CallR X (.builtin "len") (fun xs H Q => ∃ x n, xs = [x] ∧ LenV K x H n ∧ Q (.int n) H) := by subst hK; exact call_len
theorem xc_sum (hc : X.calm = true) (hK : X.K = K := by rfl) : CallR X (.builtin "sum") (rSum K) := by subst hK; exact cr_sum hc
theorem xc_max (hc : X.calm = true) (hK : X.K = K := by rfl) : CallR X (.builtin "max") (rMax K) := by subst hK; exact cr_max hc
theorem xc_min (hc : X.calm = true) (hK : X.K = K := by rfl) : CallR X (.builtin "min") (rMin K) := by subst hK; exact cr_min hc
theorem xc_list (hK : X.K = K := by rfl) : CallR X (.type "list") (fun xs H Q => ∃ p ys, xs = [.ref p] ∧ (SqL K H p ys ∨ SqT K H p ys) ∧ ∀ l, H l = none → Q (.ref l) (upd H l (.lst ys))) := by subst hK; exact call_list_of
theorem xc_tuple (hK : X.K = K := by rfl) : CallR X (.type "tuple") (fun xs H Q => ∃ p ys, xs = [.ref p] ∧ ((SqL K H p ys ∧ ∀ l, H l = none → Q (.ref l) (upd H l (.tup ys))) ∨ (SqT K H p ys ∧ Q (.ref p) H))) := by subst hK; exact call_tuple_of
theorem xev_isT {T : String} {x : Str} {pn : Pos} (hg : Gl X "isinstance") (hm : X.mg "isinstance" = none) (hv : bootBuiltins "isinstance" = some (.builtin "isinstance")) (h : Ev X Γ e m B f t) (hgx : Gl X x) (hmx : X.mg x = none) (hvx : bootBuiltins x = some (.type T)) (hnx : x ≠ "__name__") (hdx : (x == ("__debug__" : Str)) = false)
    (hK : X.K = K := by rfl) (he : starEach [e, .Name x pn] X.env = (false, eval e X.env) :: starEach [.Name x pn] X.env := by rfl) (he2 : starEach [.Name x pn] X.env = (false, eval (.Name x pn) X.env) :: starEach [] X.env := by rfl) (hpl : (backTo pos (starEach [.Name x pn] X.env)).any (·.1) = false := by rfl) :
    Ev X Γ (.Call (.Name "isinstance" p) [e, .Name x pn] [] pos) 0 [] (eIsT T f) (tCB (rIsi K) (tCons t (tCons (tC (.ty T)) tNil))) := by subst hK; exact ev_isT hg hm hv h hgx hmx hvx hnx hdx he he2 hpl
theorem xiv_list (h : Ev X Γ e m [] f t) (hK : X.K = K := by rfl) : Iv X Γ tg e (iLst f) (iList K t) := by subst hK; exact iv_list h
theorem xiv_tup (h : Ev X Γ e m [] f t) (hK : X.K = K := by rfl) : Iv X Γ tg e (iTp f) (iTup K t) := by subst hK; exact iv_tup h
theorem xev_cal {k j : Nat} {n r : Nat} {F : List D → Option D} {dds : List D} {dvs : List V} {x : Str} {P : Program} {w : World} {mg : Str → Option Value} {base : Heap} (c : Cal P w K mg base k x n r F dds dvs) (hr : Room j X.A) (hkj : k ≤ j) (hg : Gl X x) (ha : Av X Γ (e :: es) 0 B fa ta)
    (hP : X.prog = P := by rfl) (hw : X.w = w := by rfl) (hK : X.K = K := by rfl) (hm : X.mg = mg := by rfl) (hb : X.base = base := by rfl)
    (hdb : (x == ("__debug__" : Str)) = false := by decide) (he : starEach (e :: es) X.env = (false, eval e X.env) :: starEach es X.env := by rfl) (hpl : (backTo pos (starEach es X.env)).any (·.1) = false := by rfl) :
    Ev X Γ (.Call (.Name x p) (e :: es) [] pos) r [] (eCall (callF n dds F) fa) (tCall (sp0 K n r F) dvs E0 ta) := by
  subst hP hw hK hm hb; exact ev_cal c hr hkj hg ha hdb he hpl
end
end VL

/-! VL13: the value semantics by steps (no program in sight). -/
namespace VL
open PySem
/-! ### statements -/
section
variable {F G : Store → Option O} {ρ ρ' : Store} {o : Option O} {f : Store → Option D} {d : D} {i : Nat} {c : Store → Option Bool}
theorem seq_nx (h : F ρ = some (.nx ρ')) (g : G ρ' = o) : sSeq F G ρ = o := by unfold sSeq; rw [h]; exact g
theorem seq_rt (h : F ρ = some (.rt d ρ')) : sSeq F G ρ = some (.rt d ρ') := by unfold sSeq; rw [h]
theorem seq_ct (h : F ρ = some (.ct ρ')) : sSeq F G ρ = some (.ct ρ') := by unfold sSeq; rw [h]
theorem seq_bk (h : F ρ = some (.bk ρ')) : sSeq F G ρ = some (.bk ρ') := by unfold sSeq; rw [h]
theorem set_ok (h : f ρ = some d) : sSet i f ρ = some (.nx (ρ.set i (some d))) := by unfold sSet; rw [h]
theorem seq_set (h : f ρ = some d) (g : G (ρ.set i (some d)) = o) : sSeq (sSet i f) G ρ = o := seq_nx (set_ok h) g
theorem if_t (h : c ρ = some true) (g : F ρ = o) : sIf c F G ρ = o := by unfold sIf; rw [h]; exact g
theorem if_f (h : c ρ = some false) (g : G ρ = o) : sIf c F G ρ = o := by unfold sIf; rw [h]; exact g
theorem if_b {b : Bool} (h : c ρ = some b) (g : b = true → F ρ = o) (g2 : b = false → G ρ = o) : sIf c F G ρ = o := by
  cases b
  · exact if_f h (g2 rfl)
  · exact if_t h (g rfl)
theorem if_p {p : Prop} [Decidable p] (h : c ρ = some (decide p)) (g : p → F ρ = o) (g2 : ¬ p → G ρ = o) : sIf c F G ρ = o := if_b h (fun e => g (of_decide_eq_true e)) fun e => g2 (of_decide_eq_false e)
/-- if c: leave; what follows -/
theorem seq_if_f (h : c ρ = some false) (g : G ρ = o) : sSeq (sIf c F sNx) G ρ = o := seq_nx (if_f h rfl) g
theorem ret_ok {r : Nat} (h : f ρ = some d) (hd : d.immB r = true) : sRet r f ρ = some (.rt d ρ) := by unfold sRet; rw [h]; exact if_pos hd
theorem fn0_ok {N : Nat} {ds : List D} (h : F (ds.map some ++ List.replicate (N - ds.length) none) = some (.rt d ρ')) : fn0 N F ds = some d := by unfold fn0; rw [h]
theorem fn0_nx {N : Nat} {ds : List D} (h : F (ds.map some ++ List.replicate (N - ds.length) none) = some (.nx ρ')) : fn0 N F ds = some .non := by unfold fn0; rw [h]
variable {it : Store → Option (List D)} {g : D → Store → Option Store} {ds : List D}
theorem for_ok (h : it ρ = some ds) (k : forD g F ds ρ = o) : sFor it g F ρ = o := by unfold sFor; rw [h]; exact k
/-- what holds before and after each pass -/
theorem forD_inv {α : Type} {k : α → D} {xs : List α} (P : Nat → Store → Prop) (st : ∀ (j : Nat) (h : j < xs.length) (ρ : Store), P j ρ → ∃ ρ1 ρ2, g (k xs[j]) ρ = some ρ1 ∧ (F ρ1 = some (.nx ρ2) ∨ F ρ1 = some (.ct ρ2)) ∧ P (j + 1) ρ2) :
    ∀ {ρ : Store}, P 0 ρ → ∃ ρ', forD g F (xs.map k) ρ = some (.nx ρ') ∧ P xs.length ρ' := by
  induction xs generalizing P with
  | nil => exact fun {ρ} p => ⟨ρ, rfl, p⟩
  | cons x xs ih =>
    intro ρ p
    obtain ⟨ρ1, ρ2, h1, h2, h3⟩ := st 0 (Nat.zero_lt_succ _) ρ p
    obtain ⟨ρ', h4, h5⟩ := ih (fun j => P (j + 1)) (fun j h ρ p => st (j + 1) (Nat.succ_lt_succ h) ρ p) h3
    refine ⟨ρ', ?_, h5⟩
    show forD g F (k x :: xs.map k) ρ = _
    have h1' : g (k x) ρ = some ρ1 := h1
    unfold forD
    rw [h1']
    rcases h2 with h2 | h2
    · simp only [h2]; exact h4
    · simp only [h2]; exact h4
theorem forD_ups {lo : Int} {n : Nat} (P : Nat → Store → Prop) (st : ∀ (j : Nat), j < n → ∀ (ρ : Store), P j ρ → ∃ ρ1 ρ2, g (.int (lo + j)) ρ = some ρ1 ∧ (F ρ1 = some (.nx ρ2) ∨ F ρ1 = some (.ct ρ2)) ∧ P (j + 1) ρ2) {ρ : Store} (p : P 0 ρ) : ∃ ρ', forD g F (ups lo n) ρ = some (.nx ρ') ∧ P n ρ' := by
  have := forD_inv (k := fun i : Nat => D.int (lo + (i : Int))) (xs := List.range n) (g := g) (F := F) P (fun j h ρ p => by
    rw [List.length_range] at h
    rw [List.getElem_range]
    exact st j h ρ p) p
  rw [List.length_range] at this
  exact this
theorem forD_steps {lo c : Int} {n : Nat} (P : Nat → Store → Prop) (st : ∀ (j : Nat), j < n → ∀ (ρ : Store), P j ρ → ∃ ρ1 ρ2, g (.int (lo + j * c)) ρ = some ρ1 ∧ (F ρ1 = some (.nx ρ2) ∨ F ρ1 = some (.ct ρ2)) ∧ P (j + 1) ρ2) {ρ : Store} (p : P 0 ρ) : ∃ ρ', forD g F (steps lo c n) ρ = some (.nx ρ') ∧ P n ρ' := by
  have := forD_inv (k := fun i : Nat => D.int (lo + (i : Int) * c)) (xs := List.range n) (g := g) (F := F) P (fun j h ρ p => by
    rw [List.length_range] at h
    rw [List.getElem_range]
    exact st j h ρ p) p
  rw [List.length_range] at this
  exact this
/-- a comprehension's items -/
theorem lc_map {α : Type} {k : α → D} {p : Store → Option Bool} {γ : α → Store} {q : α → Bool} {h : α → D} : ∀ {xs : List α}, (∀ x ∈ xs, g (k x) ρ = some (γ x) ∧ p (γ x) = some (q x) ∧ (q x = true → f (γ x) = some (h x))) → lcD g p f ρ (xs.map k) = some ((xs.filter q).map h)
  | [], _ => rfl
  | x :: xs, st => by
    obtain ⟨h1, h2, h3⟩ := st x List.mem_cons_self
    have ih := lc_map fun y m => st y (List.mem_cons_of_mem _ m)
    show lcD g p f ρ (k x :: xs.map k) = _
    unfold lcD
    cases hq : q x
    · rw [hq] at h2
      simp only [h1, h2, List.filter_cons, hq, ih]
      rfl
    · rw [hq] at h2
      simp only [h1, h2, h3 hq, List.filter_cons, hq, ih]
      rfl
theorem lc_ups {lo : Int} {n : Nat} {p : Store → Option Bool} {γ : Nat → Store} {q : Nat → Bool} {h : Nat → D} (st : ∀ i < n, g (.int (lo + i)) ρ = some (γ i) ∧ p (γ i) = some (q i) ∧ (q i = true → f (γ i) = some (h i))) : lcD g p f ρ (ups lo n) = some (((List.range n).filter q).map h) :=
  lc_map (k := fun i : Nat => D.int (lo + (i : Int))) fun x m => st x (List.mem_range.mp m)
theorem lc_steps {lo c : Int} {n : Nat} {p : Store → Option Bool} {γ : Nat → Store} {q : Nat → Bool} {h : Nat → D} (st : ∀ i < n, g (.int (lo + i * c)) ρ = some (γ i) ∧ p (γ i) = some (q i) ∧ (q i = true → f (γ i) = some (h i))) : lcD g p f ρ (steps lo c n) = some (((List.range n).filter q).map h) :=
  lc_map (k := fun i : Nat => D.int (lo + (i : Int) * c)) fun x m => st x (List.mem_range.mp m)
theorem eLc_ok {vs : List Nat} {p : Store → Option Bool} {xs : List D} (h : it ρ = some ds) (hl : ds.length < 16777216) (k : lcD g p f (wipeD ρ vs) ds = some xs) : eLc vs it g p f ρ = some (.lst xs) := by
  unfold eLc
  rw [h]
  show (if ds.length < sizeLine then _ else _) = _
  rw [if_pos (show ds.length < sizeLine by unfold sizeLine; omega)]
  simp only [k]
end
/-! comprehensions of ints -/
section
variable {vs : List Nat} {it : Store → Option (List D)} {g : D → Store → Option Store} {p : Store → Option Bool} {f : Store → Option D} {ρ : Store}
theorem lcI_map {α : Type} {k : α → D} {xs : List α} {γ : α → Store} {q : α → Bool} {h : α → Int} (hi : it ρ = some (xs.map k)) (hl : xs.length < 16777216) (st : ∀ x ∈ xs, g (k x) (wipeD ρ vs) = some (γ x) ∧ p (γ x) = some (q x) ∧ (q x = true → f (γ x) = some (.int (h x)))) : eLc vs it g p f ρ = some (.lst (((xs.filter q).map h).map .int)) := by
  refine eLc_ok hi (by rw [List.length_map]; exact hl) ?_
  rw [lc_map (h := fun x => .int (h x)) st, List.map_map]
  rfl
theorem lcI_all {α : Type} {k : α → D} {xs : List α} {γ : α → Store} {h : α → Int} (hi : it ρ = some (xs.map k)) (hl : xs.length < 16777216) (st : ∀ x ∈ xs, g (k x) (wipeD ρ vs) = some (γ x) ∧ p (γ x) = some true ∧ f (γ x) = some (.int (h x))) : eLc vs it g p f ρ = some (.lst ((xs.map h).map .int)) := by
  have := lcI_map (q := fun _ => true) (h := h) hi hl fun x m => ⟨(st x m).1, (st x m).2.1, fun _ => (st x m).2.2⟩
  rw [this, List.filter_eq_self.mpr fun _ _ => rfl]
theorem lcI_ups {lo : Int} {n : Nat} {γ : Nat → Store} {q : Nat → Bool} {h : Nat → Int} (hi : it ρ = some (ups lo n)) (hl : n < 16777216) (st : ∀ i < n, g (.int (lo + i)) (wipeD ρ vs) = some (γ i) ∧ p (γ i) = some (q i) ∧ (q i = true → f (γ i) = some (.int (h i)))) : eLc vs it g p f ρ = some (.lst ((((List.range n).filter q).map h).map .int)) :=
  lcI_map (k := fun i : Nat => D.int (lo + (i : Int))) hi (by rw [List.length_range]; exact hl) fun x m => st x (List.mem_range.mp m)
theorem lcI_upsA {lo : Int} {n : Nat} {γ : Nat → Store} {h : Nat → Int} (hi : it ρ = some (ups lo n)) (hl : n < 16777216) (st : ∀ i < n, g (.int (lo + i)) (wipeD ρ vs) = some (γ i) ∧ p (γ i) = some true ∧ f (γ i) = some (.int (h i))) : eLc vs it g p f ρ = some (.lst (((List.range n).map h).map .int)) :=
  lcI_all (k := fun i : Nat => D.int (lo + (i : Int))) hi (by rw [List.length_range]; exact hl) fun x m => st x (List.mem_range.mp m)
end
theorem rev_rng {α : Type} {n : Nat} {f : Nat → α} : ((List.range n).map f).reverse = (List.range n).map fun i => f (n - 1 - i) := by
  refine List.ext_getElem (by simp) fun i h1 h2 => ?_
  simp
theorem dwn_eq {n : Nat} : dwn 0 (n : Int) = (List.range n).map fun i : Nat => D.int (((n - 1 - i : Nat) : Int)) := by
  unfold dwn steps
  rw [show ((n : Int) - 0).toNat = n by omega]
  refine List.map_congr_left fun i m => ?_
  have := List.mem_range.mp m
  congr 1
  omega
/-! ### operations on ints -/
theorem mul_ok {i j : Int} (h1 : -1000000000000000000000000000000 ≤ i) (h2 : i ≤ 1000000000000000000000000000000) (h3 : -1000000000000000000000000000000 ≤ j) (h4 : j ≤ 1000000000000000000000000000000) : gMul (.int i) (.int j) = some (.int (i * j)) := by
  have e : cMul i j = true := by
    unfold cMul
    have : (1000000000000000000000000000000 : Int) ≤ mB := by unfold mB; decide +kernel
    simp only [Bool.and_eq_true, decide_eq_true_eq]
    omega
  show (if cMul i j = true then _ else _) = _
  rw [if_pos e]
theorem div_ok {i j : Int} (h1 : 0 < j) (h2 : j ≤ 1000000000000000000000000000000) : gDiv (.int i) (.int j) = some (.int (i / j)) := by
  have e : cDiv j = true := by
    unfold cDiv
    have : (1000000000000000000000000000000 : Int) ≤ mB := by unfold mB; decide +kernel
    simp only [Bool.and_eq_true, decide_eq_true_eq]
    omega
  show (if cDiv j = true then _ else _) = _
  rw [if_pos e]
theorem mod_ok {i j : Int} (h1 : 0 < j) : gMod (.int i) (.int j) = some (.int (i % j)) := by
  show (if decide (0 < j) = true then _ else _) = _
  rw [if_pos (decide_eq_true h1)]
theorem add_ii {i j : Int} : gAdd (.int i) (.int j) = some (.int (i + j)) := rfl
theorem iu_ii {g : Int → Int → Int} {i j : Int} : gIu g (.int i) (.int j) = some (.int (g i j)) := rfl
theorem cmp_ii {p : Int → Int → Bool} {i j : Int} : gCmp p (.int i) (.int j) = some (.bl (p i j)) := rfl
theorem okE_int {i : Int} : D.okE (.int i) = true := rfl
theorem okE_bl {i : Bool} : D.okE (.bl i) = true := rfl
theorem okE_non : D.okE .non = true := rfl
theorem isDataL_map {α : Type} {k : α → D} : ∀ {xs : List α}, (∀ x ∈ xs, (k x).isData = true) → D.isDataL (xs.map k) = true
  | [], _ => rfl
  | x :: xs, h => by
    show ((k x).isData && D.isDataL (xs.map k)) = true
    rw [h x List.mem_cons_self, isDataL_map fun y m => h y (List.mem_cons_of_mem _ m)]; rfl
theorem lay_map {α : Type} {k : α → D} : ∀ {xs : List α}, (∀ x ∈ xs, (k x).toPy.canLay0 = true) → PyData.canLayAll0 (D.toPyL (xs.map k)) = true
  | [], _ => rfl
  | x :: xs, h => by
    show ((k x).toPy.canLay0 && PyData.canLayAll0 (D.toPyL (xs.map k))) = true
    rw [h x List.mem_cons_self, lay_map fun y m => h y (List.mem_cons_of_mem _ m)]; rfl
theorem depth_map {α : Type} {k : α → D} {m : Nat} : ∀ {xs : List α}, (∀ x ∈ xs, (k x).toPy.depth ≤ m) → PyData.depthAll (D.toPyL (xs.map k)) ≤ m
  | [], _ => Nat.zero_le _
  | x :: xs, h => by
    show max (k x).toPy.depth (PyData.depthAll (D.toPyL (xs.map k))) ≤ m
    have h1 := h x List.mem_cons_self
    have h2 := depth_map fun y m => h y (List.mem_cons_of_mem _ m)
    omega
/-- data that == can lay, of depth at most m -/
structure Lay (d : D) (m : Nat) : Prop where
  data : d.isData = true
  lay : d.toPy.canLay0 = true
  dep : d.toPy.depth ≤ m
theorem Lay.okE {d : D} {m : Nat} (h : Lay d m) (hm : m ≤ 64) : d.okE = true := by
  unfold D.okE SeqAt.shaped
  rw [h.data, h.lay, decide_eq_true (Nat.le_trans h.dep hm)]; rfl
theorem Lay.int {i : Int} {m : Nat} : Lay (.int i) m := ⟨rfl, rfl, Nat.zero_le _⟩
theorem Lay.bl {i : Bool} {m : Nat} : Lay (.bl i) m := ⟨rfl, rfl, Nat.zero_le _⟩
theorem Lay.non {m : Nat} : Lay .non m := ⟨rfl, rfl, Nat.zero_le _⟩
theorem Lay.lst {α : Type} {k : α → D} {xs : List α} {m : Nat} (h : ∀ x ∈ xs, Lay (k x) m) : Lay (.lst (xs.map k)) (m + 1) :=
  ⟨by rw [D.isData]; exact isDataL_map fun x m => (h x m).data, by rw [D.toPy, PyData.canLay0]; exact lay_map fun x m => (h x m).lay, by rw [D.toPy, PyData.depth]; exact Nat.succ_le_succ (depth_map fun x m => (h x m).dep)⟩
theorem Lay.tup {α : Type} {k : α → D} {xs : List α} {m : Nat} (h : ∀ x ∈ xs, Lay (k x) m) : Lay (.tup (xs.map k)) (m + 1) :=
  ⟨by rw [D.isData]; exact isDataL_map fun x m => (h x m).data, by rw [D.toPy, PyData.canLay0]; exact lay_map fun x m => (h x m).lay, by rw [D.toPy, PyData.depth]; exact Nat.succ_le_succ (depth_map fun x m => (h x m).dep)⟩
theorem okE_il {xs : List Int} : D.okE (.lst (xs.map D.int)) = true := (Lay.lst (m := 0) fun _ _ => .int).okE (by decide)
theorem okE_it {xs : List Int} : D.okE (.tup (xs.map D.int)) = true := (Lay.tup (m := 0) fun _ _ => .int).okE (by decide)
theorem okE_nil : D.okE (.lst []) = true := rfl
theorem okE_nilT : D.okE (.tup []) = true := rfl
theorem eqv_ints : ∀ {xs ys : List Int}, PyData.eqvAll (D.toPyL (xs.map D.int)) (D.toPyL (ys.map D.int)) = decide (xs = ys)
  | [], [] => rfl
  | [], _ :: _ => rfl
  | _ :: _, [] => rfl
  | x :: xs, y :: ys => by
    show ((x == y) && PyData.eqvAll (D.toPyL (xs.map D.int)) (D.toPyL (ys.map D.int))) = _
    rw [eqv_ints]
    by_cases h : x = y <;> by_cases h2 : xs = ys <;> simp [h, h2]
theorem eqv_il {xs ys : List Int} : D.eqv (.lst (xs.map D.int)) (.lst (ys.map D.int)) = decide (xs = ys) := eqv_ints
theorem eqv_it {xs ys : List Int} : D.eqv (.tup (xs.map D.int)) (.tup (ys.map D.int)) = decide (xs = ys) := eqv_ints
theorem eq_ii {i j : Int} : gEq false (.int i) (.int j) = some (.bl (decide (i = j))) := by
  show some (D.bl (i == j)) = _
  rfl
theorem ne_ii {i j : Int} : gEq true (.int i) (.int j) = some (.bl (!decide (i = j))) := by
  show some (D.bl (!(i == j))) = _
  rfl
theorem gEq_ok {d e : D} {b : Bool} (h1 : d.okE = true) (h2 : e.okE = true) (h : D.eqv d e = b) : gEq false d e = some (.bl b) := by unfold gEq; rw [if_pos ⟨h1, h2⟩, h]; rfl
theorem gNe_ok {d e : D} {b : Bool} (h1 : d.okE = true) (h2 : e.okE = true) (h : D.eqv d e = b) : gEq true d e = some (.bl (!b)) := by unfold gEq; rw [if_pos ⟨h1, h2⟩, h]; rfl
theorem eq_il {xs ys : List Int} : gEq false (.lst (xs.map D.int)) (.lst (ys.map D.int)) = some (.bl (decide (xs = ys))) := gEq_ok okE_il okE_il eqv_il
theorem ne_il {xs ys : List Int} : gEq true (.lst (xs.map D.int)) (.lst (ys.map D.int)) = some (.bl (!decide (xs = ys))) := gNe_ok okE_il okE_il eqv_il
theorem eqv_nil {ds : List D} : D.eqv (.lst ds) (.lst []) = ds.isEmpty := by cases ds <;> rfl
theorem ne_nil {ds : List D} (h : (D.lst ds).okE = true) : gEq true (.lst ds) (.lst []) = some (.bl (!ds.isEmpty)) := gNe_ok h okE_nil eqv_nil
theorem eq_nil {ds : List D} (h : (D.lst ds).okE = true) : gEq false (.lst ds) (.lst []) = some (.bl ds.isEmpty) := gEq_ok h okE_nil eqv_nil
theorem ne_iln {xs : List Int} : gEq true (.lst (xs.map D.int)) (.lst []) = some (.bl (!xs.isEmpty)) := by rw [ne_nil okE_il]; cases xs <;> rfl
theorem eq_iln {xs : List Int} : gEq false (.lst (xs.map D.int)) (.lst []) = some (.bl xs.isEmpty) := by rw [eq_nil okE_il]; cases xs <;> rfl
/-! ### places -/
theorem atI_nat {α : Type} {xs : List α} {i : Int} {k : Nat} (e : i = k) (h : k < xs.length) : L2.atI xs i = some xs[k] := by
  subst e
  unfold L2.atI L2.ixN
  rw [if_pos (Int.natCast_nonneg _), if_pos (by omega)]
  show xs[(k : Int).toNat]? = _
  rw [Int.toNat_natCast]
  exact List.getElem?_eq_getElem h
theorem atI_map {α β : Type} {f : α → β} {xs : List α} {i : Int} : L2.atI (xs.map f) i = (L2.atI xs i).map f := by
  unfold L2.atI
  rw [List.length_map]
  cases L2.ixN xs.length i with
  | none => rfl
  | some j => exact List.getElem?_map ..
theorem atI_pos {α : Type} {xs : List α} {i : Int} {z : α} (h0 : 0 ≤ i) (h : i < xs.length) : L2.atI xs i = some (xs.getD i.toNat z) := by
  rw [atI_nat (k := i.toNat) (by omega) (by omega)]
  simp [List.getD, List.getElem?_eq_getElem (show i.toNat < xs.length by omega)]
/-- the k-th, 0 past the end -/
def at0 (xs : List Int) (k : Nat) : Int := xs.getD k 0
theorem at0_get {xs : List Int} {k : Nat} (h : k < xs.length) : at0 xs k = xs[k] := by
  unfold at0; rw [List.getD_eq_getElem?_getD, List.getElem?_eq_getElem h]; rfl
theorem at0_mem {xs : List Int} {k : Nat} (h : k < xs.length) : at0 xs k ∈ xs := by rw [at0_get h]; exact List.getElem_mem h
theorem at0_ext {xs ys : List Int} (hl : xs.length = ys.length) (h : ∀ k, k < xs.length → at0 xs k = at0 ys k) : xs = ys :=
  List.ext_getElem hl fun k h1 h2 => by rw [← at0_get h1, ← at0_get h2]; exact h k h1
theorem at0_rng {n k : Nat} {f : Nat → Int} (h : k < n) : at0 ((List.range n).map f) k = f k := by
  rw [at0_get (by simpa using h)]; simp
theorem ix_il {xs : List Int} {i : Int} (h0 : 0 ≤ i) (h : i < xs.length) : gIx (.lst (xs.map D.int)) (.int i) = some (.int (at0 xs i.toNat)) := by
  show L2.atI (xs.map D.int) i = _
  rw [atI_map, atI_pos (z := 0) h0 h]; rfl
theorem ix_it {xs : List Int} {i : Int} (h0 : 0 ≤ i) (h : i < xs.length) : gIx (.tup (xs.map D.int)) (.int i) = some (.int (at0 xs i.toNat)) := by
  show L2.atI (xs.map D.int) i = _
  rw [atI_map, atI_pos (z := 0) h0 h]; rfl
/-! ### ranges -/
theorem cR_t {j : Int} (h1 : -4611686018427387904 ≤ j) (h2 : j < 4611686018427387904) : cR j = true := by
  unfold cR
  simp only [Bool.and_eq_true, decide_eq_true_eq]
  have : ((2 : Int) ^ 62) = 4611686018427387904 := by decide +kernel
  omega
theorem r1_ok {fa : Store → Option (List D)} {ρ : Store} {j : Int} (h : fa ρ = some [.int j]) (h1 : -4611686018427387904 ≤ j) (h2 : j < 4611686018427387904) : iR1 fa ρ = some (ups 0 j.toNat) := by
  unfold iR1; rw [h]; exact if_pos (cR_t h1 h2)
theorem r2_ok {fa : Store → Option (List D)} {ρ : Store} {i j : Int} (h : fa ρ = some [.int i, .int j]) (h1 : -4611686018427387904 ≤ i) (h2 : i < 4611686018427387904) (h3 : -4611686018427387904 ≤ j) (h4 : j < 4611686018427387904) : iR2 fa ρ = some (ups i (j - i).toNat) := by
  unfold iR2; rw [h]; exact if_pos ⟨cR_t h1 h2, cR_t h3 h4⟩
theorem rv_ok {f : Store → Option (Int × Int)} {ρ : Store} {i j : Int} (h : f ρ = some (i, j)) (h1 : -4611686018427387904 ≤ i) (h2 : i < 4611686018427387904) (h3 : -4611686018427387904 ≤ j) (h4 : j < 4611686018427387904) : iRv f ρ = some (dwn i j) := by
  unfold iRv; rw [h]; exact if_pos ⟨cR_t h1 h2, cR_t h3 h4⟩
theorem immBL_ints : ∀ {xs : List Int}, D.immBL 0 (xs.map D.int) = true
  | [] => rfl
  | x :: xs => by
    show ((D.int x).immB 0 && D.immBL 0 (xs.map D.int)) = true
    rw [immBL_ints]; rfl
end VL

/-! VL14: what simp unfolds of the value semantics. -/
namespace VL
open PySem
section
variable {f f1 f2 : Store → Option D} {p q : Store → Option Bool} {g : D → D → Option D} {fa : Store → Option (List D)} {ρ : Store} {i j : Int} {d : D} {b : Bool} {r : Nat}
theorem s_eVar {n : Nat} : eVar n ρ = (ρ[n]?).join := rfl
@[simp] theorem s_v0 {a : Option D} : eVar 0 (a :: ρ) = a := by cases a <;> rfl
@[simp] theorem s_vs {n : Nat} {a : Option D} : eVar (n + 1) (a :: ρ) = eVar n ρ := id rfl
@[simp] theorem s_eC : eC d ρ = some d := id rfl
@[simp] theorem s_e2 : e2 g f1 f2 ρ = (match f1 ρ with | some a => (match f2 ρ with | some b => g a b | none => none) | none => none) := id rfl
@[simp] theorem s_eUn {u : Int → Int} : eUn u f ρ = (match f ρ with | some (.int i) => some (.int (u i)) | _ => none) := id rfl
@[simp] theorem s_eCall {h : List D → Option D} : eCall h fa ρ = (match fa ρ with | some ds => h ds | none => none) := id rfl
@[simp] theorem s_aNil : aNil ρ = some [] := id rfl
@[simp] theorem s_aCons : aCons f fa ρ = (match f ρ with | some d => (match fa ρ with | some ds => some (d :: ds) | none => none) | none => none) := id rfl
@[simp] theorem s_callF {n : Nat} {dds ds : List D} {F : List D → Option D} : callF n dds F ds = if (ds ++ dds).length = n then F (ds ++ dds) else none := id rfl
@[simp] theorem s_tBo : tBo f ρ = (match f ρ with | some (.bl b) => some b | _ => none) := id rfl
@[simp] theorem s_bNot : bNot p ρ = (match p ρ with | some b => some (!b) | none => none) := by unfold bNot; rfl
@[simp] theorem s_bAnd : bAnd p q ρ = (match p ρ with | some true => q ρ | some false => some false | none => none) := by
  unfold bAnd
  cases p ρ with
  | none => rfl
  | some b => cases b <;> rfl
@[simp] theorem s_bOr : bOr p q ρ = (match p ρ with | some true => some true | some false => q ρ | none => none) := by
  unfold bOr
  cases p ρ with
  | none => rfl
  | some b => cases b <;> rfl
@[simp] theorem s_bYes : bYes ρ = some true := id rfl
@[simp] theorem s_gSet {n : Nat} : gSet n d ρ = some (ρ.set n (some d)) := id rfl
@[simp] theorem s_gSet2 {n m : Nat} {x y : D} : gSet2 n m (.tup [x, y]) ρ = some ((ρ.set n (some x)).set m (some y)) := id rfl
@[simp] theorem s_lenL {ds : List D} : gLen [.lst ds] = some (.int ds.length) := id rfl
@[simp] theorem s_lenT {ds : List D} : gLen [.tup ds] = some (.int ds.length) := id rfl
@[simp] theorem s_gIntI : gInt [.int i] = some (.int i) := id rfl
@[simp] theorem s_gIntB : gInt [.bl b] = some (.int (if b then 1 else 0)) := id rfl
@[simp] theorem s_eLst : eLst fa ρ = (match fa ρ with | some ds => (if ds.length ≤ 16777216 then some (.lst ds) else none) | none => none) := by unfold eLst; rfl
@[simp] theorem s_eTup : eTup fa ρ = (match fa ρ with | some ds => (if ds.length ≤ 16777216 then some (.tup ds) else none) | none => none) := by unfold eTup; rfl
@[simp] theorem s_wipe0 : wipeD ρ [] = ρ := id rfl
@[simp] theorem s_wipe1 {v : Nat} {vs : List Nat} : wipeD ρ (v :: vs) = (wipeD ρ vs).set v none := id rfl
@[simp] theorem s_oNone : oNone ρ = some none := id rfl
@[simp] theorem s_oSome : oSome f ρ = (match f ρ with | some (.int i) => some (some i) | _ => none) := id rfl
@[simp] theorem s_add : gAdd (.int i) (.int j) = some (.int (i + j)) := id rfl
@[simp] theorem s_iu {u : Int → Int → Int} : gIu u (.int i) (.int j) = some (.int (u i j)) := id rfl
@[simp] theorem s_cmp {u : Int → Int → Bool} : gCmp u (.int i) (.int j) = some (.bl (u i j)) := id rfl
@[simp] theorem s_eq : gEq false (.int i) (.int j) = some (.bl (decide (i = j))) := eq_ii
@[simp] theorem s_ne : gEq true (.int i) (.int j) = some (.bl (!decide (i = j))) := ne_ii
@[simp] theorem s_eqL {xs ys : List Int} : gEq false (.lst (xs.map D.int)) (.lst (ys.map D.int)) = some (.bl (decide (xs = ys))) := eq_il
@[simp] theorem s_neL {xs ys : List Int} : gEq true (.lst (xs.map D.int)) (.lst (ys.map D.int)) = some (.bl (!decide (xs = ys))) := ne_il
@[simp] theorem s_neN {xs : List Int} : gEq true (.lst (xs.map D.int)) (.lst []) = some (.bl (!xs.isEmpty)) := ne_iln
@[simp] theorem s_eqN {xs : List Int} : gEq false (.lst (xs.map D.int)) (.lst []) = some (.bl xs.isEmpty) := eq_iln
@[simp] theorem s_immI : (D.int i).immB r = true := by cases r <;> rfl
@[simp] theorem s_immB : (D.bl b).immB r = true := by cases r <;> rfl
@[simp] theorem s_immN : D.non.immB r = true := by cases r <;> rfl
@[simp] theorem s_immL {ds : List D} : (D.lst ds).immB (r + 1) = D.immBL r ds := id rfl
@[simp] theorem s_immIs {xs : List Int} : D.immBL r (xs.map D.int) = true := by
  induction xs with
  | nil => exact (by cases r <;> rfl)
  | cons x xs ih =>
    rw [List.map_cons, D.immBL, ih, s_immI]; rfl
@[simp] theorem s_isI {T : String} : eIsT T f ρ = (match f ρ with | some d => (match isT T d with | some b => some (.bl b) | none => none) | none => none) := by unfold eIsT; rfl
@[simp] theorem s_inT {ds : List D} {neg : Bool} : gIn neg d (.tup ds) = if d.fl = true ∧ ds.all D.fl = true then some (.bl (if neg then !inD d ds else inD d ds)) else none := id rfl
@[simp] theorem s_inL {ds : List D} {neg : Bool} : gIn neg d (.lst ds) = if d.fl = true ∧ ds.all D.fl = true then some (.bl (if neg then !inD d ds else inD d ds)) else none := id rfl
@[simp] theorem s_fl : D.fl (.int i) = true := id rfl
@[simp] theorem s_rev : eRev f ρ = (match f ρ with | some (.lst ds) => some (.lst ds.reverse) | _ => none) := by unfold eRev; rfl
@[simp] theorem s_inn : inD d [] = false := id rfl
theorem inD_cons {e : D} {ds : List D} : inD d (e :: ds) = (L2.eqV e.toV d.toV || inD d ds) := rfl
@[simp] theorem s_inc {ds : List D} : inD (.int i) (.int j :: ds) = (decide (j = i) || inD (.int i) ds) := by
  rw [inD_cons]
  rfl
@[simp] theorem s_addL {xs ys : List D} : gAdd (.lst xs) (.lst ys) = if xs.length + ys.length ≤ 16777216 then some (.lst (xs ++ ys)) else none := by
  unfold gAdd sizeLine; rfl
@[simp] theorem s_addT {xs ys : List D} : gAdd (.tup xs) (.tup ys) = if xs.length + ys.length ≤ 16777216 then some (.tup (xs ++ ys)) else none := by
  unfold gAdd sizeLine; rfl
@[simp] theorem s_cat {xs ys : List D} : gCat (.lst xs) (.lst ys) = if xs.length + ys.length ≤ 16777216 then some (.lst (xs ++ ys)) else none := by
  unfold gCat sizeLine; rfl
@[simp] theorem s_iLst : iLst f ρ = (match f ρ with | some (.lst ds) => some ds | _ => none) := by unfold iLst; rfl
@[simp] theorem s_iTp : iTp f ρ = (match f ρ with | some (.tup ds) => some ds | _ => none) := by unfold iTp; rfl
/-- range(i, j, -1) -/
theorem r3_down {ρ : Store} {i j : Int} (h : fa ρ = some [.int i, .int j, .int (-1)]) (h1 : -4611686018427387904 ≤ i) (h2 : i < 4611686018427387904) (h3 : -4611686018427387904 ≤ j) (h4 : j < 4611686018427387904) (hn : Builtin.Range.rangeSize i j (-1) = ((i - j).toNat : Nat) := PySem.W.rangeSize_downNat _ _) : iR3 fa ρ = some (steps i (-1) (i - j).toNat) := by
  unfold iR3
  rw [h]
  obtain ⟨h5, h6⟩ := cR_ok (cR_t h1 h2)
  obtain ⟨h7, h8⟩ := cR_ok (cR_t h3 h4)
  refine (if_pos ⟨by decide, by decide, PySem.W.small_down h5 h6 h7 h8, by omega⟩).trans ?_
  rw [hn, Int.toNat_natCast]
theorem imm_il {xs : List Int} : (D.lst (xs.map D.int)).immB (r + 1) = true := s_immIs
theorem imm_it {xs : List Int} : (D.tup (xs.map D.int)).immB 0 = true := by
  show D.immL _ = true
  induction xs with
  | nil => rfl
  | cons x xs ih => exact ih
theorem cut_map {α β : Type} {u : α → β} {xs : List α} {lo hi : Option Int} : cutD (xs.map u) lo hi = (cutD xs lo hi).map u := by
  unfold cutD
  rw [List.length_map, List.map_take, List.map_drop]
@[simp] theorem s_eSl {h : D → Option Int → Option Int → Option D} {lo hi : Store → Option (Option Int)} : eSl h f lo hi ρ = (match f ρ with | some d => (match lo ρ with | some l => (match hi ρ with | some u => h d l u | none => none) | none => none) | none => none) := by unfold eSl; rfl
@[simp] theorem s_slL {xs : List Int} {lo hi : Option Int} : gSlL (.lst (xs.map .int)) lo hi = some (.lst ((cutD xs lo hi).map .int)) := by unfold gSlL; dsimp only; rw [cut_map]
@[simp] theorem s_slT {xs : List Int} {lo hi : Option Int} : gSlT (.tup (xs.map .int)) lo hi = some (.tup ((cutD xs lo hi).map .int)) := by unfold gSlT; dsimp only; rw [cut_map]
theorem cut_hi {α : Type} {xs : List α} {k : Nat} {i : Int} (e : i = k) : cutD xs none (some i) = xs.take k := by
  subst e
  unfold cutD
  rw [HT.sIx_none, HT.sIx_nat, Nat.sub_zero, List.drop_zero]
  by_cases h : k ≤ xs.length
  · rw [Nat.min_eq_left h]
  · rw [Nat.min_eq_right (by omega), List.take_of_length_le (Nat.le_refl _), List.take_of_length_le (by omega)]
theorem cut_lo {α : Type} {xs : List α} {k : Nat} {i : Int} (e : i = k) : cutD xs (some i) none = xs.drop k := by
  subst e
  unfold cutD
  rw [HT.sIx_none, HT.sIx_nat]
  by_cases h : k ≤ xs.length
  · rw [Nat.min_eq_left h, List.take_of_length_le (by rw [List.length_drop]; omega)]
  · rw [Nat.min_eq_right (by omega), List.drop_eq_nil_of_le (Nat.le_refl _), List.drop_eq_nil_of_le (by omega), List.take_nil]
/-- from the end -/
theorem cut_hiN {α : Type} {xs : List α} {k : Nat} {i : Int} (e : i = -(k : Int)) (h : 0 < k) : cutD xs none (some i) = xs.take (xs.length - k) := by
  subst e
  unfold cutD HT.sIx
  dsimp only
  rw [if_pos (by omega), Nat.sub_zero, List.drop_zero]
  congr 1
  omega
theorem cut_loN {α : Type} {xs : List α} {k : Nat} {i : Int} (e : i = -(k : Int)) (h : 0 < k) : cutD xs (some i) none = xs.drop (xs.length - k) := by
  subst e
  unfold cutD HT.sIx
  dsimp only
  rw [if_pos (by omega), show (-(k : Int) + (xs.length : Int)).toNat = xs.length - k by omega, List.take_of_length_le (by rw [List.length_drop]; omega)]
theorem append_ok {n : Nat} {ds : List D} (h : (ρ[n]?).join = some (.lst ds)) (hf : f ρ = some d) (hl : ds.length < 16777216) : sAppend n f ρ = some (.nx (ρ.set n (some (.lst (ds ++ [d]))))) := by
  unfold sAppend
  rw [s_eVar, h]
  simp only [hf]
  rw [if_pos (by unfold sizeLine; omega)]
end
end VL

/-! VL15: a, b = b, a; and short words for what is new. -/
namespace VL
open PySem PySem.Spec L2
open PyProof.Rows hiding St
section
variable {X : Cx} {K : PySem.W.Frag} {Γ : List Nat} {W : WX} {I : Nat → Nat} {r k m : Nat} {Γb Γ' : List Nat} {e a b : Expr} {f : Store → Option D} {te : TE} {pos : Pos} {fa : Store → Option (List D)} {ta : TA}
def sPar (i j : Nat) (fa : Store → Option (List D)) : Store → Option O := fun ρ => match fa ρ with
  | some [x, y] => some (.nx ((ρ.set i (some x)).set j (some y)))
  | _ => none
theorem sd_par {i j : Nat} (h : SdA K Γ ta 0 [] fa) (hG : i < Γ.length) (hG' : j < Γ.length) (hi : I i = 0) (hj : I j = 0) : SdS K W I r Γ Γb ((Γ.set i 0).set j 0) (tPar i j ta) (sPar i j fa) := by
  refine ⟨fun {E ρ σ H Φ} hI R o e D q => ?_⟩
  unfold sPar at e
  split at e
  · rename_i x y e1
    cases e
    refine h.sh R e1 _ fun vs H1 x1 ol => ?_
    obtain ⟨v1, vs1, rfl, h1, hl⟩ := ol.cons_inv0
    obtain ⟨v2, vs2, rfl, h2, hl⟩ := hl.cons_inv0
    obtain rfl := hl.nil_inv
    refine ⟨v1, v2, rfl, ?_⟩
    have R' := R.ext x1
    have R1 := R'.set (i := i) (Ψ := []) ⟨.rfl' _, fun a m => (nomatch m), .nil, h1.move (N' := fun a => a ∉ [] ∧ ∀ j, j ∉ [] → a ∉ Φ j) (fun a o e _ => e) (fun a o e z => ⟨e, List.not_mem_nil, fun j n => z.2 j n⟩) fun a m => (nomatch m)⟩ hG (by rw [hI]; exact hi)
    have R2 := R1.set (i := j) (Ψ := []) ⟨.rfl' _, fun a m => (nomatch m), .nil, h2.move (N' := fun a => a ∉ [] ∧ ∀ k, k ∉ [] → a ∉ (if k = i then [] else Φ k)) (fun a o e _ => e) (fun a o e z => ⟨e, List.not_mem_nil, fun k n => by
      split
      · exact List.not_mem_nil
      · exact z.2 k n⟩) fun a m => (nomatch m)⟩ (by rw [List.length_set]; exact hG') (by rw [hI]; exact hj)
    exact q _ _ _ R2
  · cases e
theorem s_par (i j : Nat) {x y : Str} {px py pt pos : Pos} {kt k2 pt2} (ha : Av X Γ [a, b] 0 [] fa ta) (hN : X.N.Nodup) (hc : X.calm = true := by rfl) (hi : X.N[i]? = some x := by rfl) (hj : X.N[j]? = some y := by rfl) (hij : i ≠ j := by decide)
    (hx : X.env.scope.names.lookup x = some .local := by rfl) (hy : X.env.scope.names.lookup y = some .local := by rfl)
    (hw : swappedStores [.Tuple [.Name x px, .Name y py] kt pt] (.Tuple [a, b] k2 pt2) X.env = pure (some [x, y]) := by rfl)
    (hs : swapsWithSole [.Tuple [.Name x px, .Name y py] kt pt] (.Tuple [a, b] k2 pt2) pos.line X.env = pure false := by rfl) (hG : i < Γ.length := by decide) (hG' : j < Γ.length := by decide) (hio : I i = 0 := by rfl) (hio' : I j = 0 := by rfl) :
    Sv X W I r Γ Γb (.Assign [.Tuple [.Name x px, .Name y py] kt pt] (.Tuple [a, b] k2 pt2) pos) ((Γ.set i 0).set j 0) (sPar i j fa) (tPar i j ta) :=
  ⟨ps_par hc hN hi hj hij hx hy ha.pa hw hs, sd_par ha.sd hG hG' hio hio'⟩
theorem par_ok {ρ : Store} {i j : Nat} {x y : D} (h : fa ρ = some [x, y]) : sPar i j fa ρ = some (.nx ((ρ.set i (some x)).set j (some y))) := by unfold sPar; rw [h]
theorem s_aug (i : Nat) {x : Str} {op : Operator} {g : Int → Int → Int} {B : List Nat} {pos' : Pos} (he : Ev X Γ e m B f te) (ho : PIp X op (ipI g)) (hN : X.N.Nodup) (hi : X.N[i]? = some x := by rfl) (hx : Loc X.env.scope x := by first | exact Or.inl rfl | exact Or.inr rfl) (h0 : Γ.getD i 0 = 0 := by rfl) (hG : i < Γ.length := by decide) (hio : I i = 0 := by rfl) (hf : X.fn x = true ∨ X.env.scope.names.lookup x = some .local := by first | exact .inl rfl | exact .inr rfl) :
    Sv X W I r Γ Γb (.AugAssign (.Name x pos') op e pos) (Γ.set i 0) (sAugI g i f) (tAug i te (ipI g)) := sv_augI hN hi hx he ho h0 hG hio hf
end
end VL

/-! VL16: plain tools: while by a measure, products, sums, the common divisor. -/
namespace VL
open PySem
section
variable {F G : Store → Option O} {ρ : Store} {c : Store → Option Bool}
theorem while_inv (P : Store → Prop) (μ : Store → Nat) (Q : Store → Prop) (st : ∀ ρ, P ρ → (c ρ = some false ∧ Q ρ) ∨ (c ρ = some true ∧ ∃ ρ', (F ρ = some (.nx ρ') ∨ F ρ = some (.ct ρ')) ∧ P ρ' ∧ μ ρ' < μ ρ)) {ρ : Store} (p : P ρ) : ∃ ρ', sWhile c F ρ = some (.nx ρ') ∧ Q ρ' := by
  have key : ∀ n ρ, P ρ → μ ρ < n → ∃ k ρ', whileD c F k ρ = some (.nx ρ') ∧ Q ρ' := by
    intro n
    induction n with
    | zero => exact fun ρ _ h => absurd h (Nat.not_lt_zero _)
    | succ n ih =>
      intro ρ p h
      rcases st ρ p with ⟨h1, h2⟩ | ⟨h1, ρ', h2, h3, h4⟩
      · exact ⟨1, ρ, by unfold whileD; rw [h1], h2⟩
      · obtain ⟨k, ρ2, h5, h6⟩ := ih ρ' h3 (by omega)
        refine ⟨k + 1, ρ2, ?_, h6⟩
        unfold whileD
        rw [h1]
        rcases h2 with h2 | h2 <;> simp only [h2] <;> exact h5
  obtain ⟨k, ρ', h1, h2⟩ := key (μ ρ + 1) ρ p (Nat.lt_succ_self _)
  exact ⟨ρ', sWhile_eq h1, h2⟩
end
/-- a product -/
def prodL : List Int → Int := fun xs => xs.foldl (· * ·) 1
theorem prodL_app {xs : List Int} {x : Int} : prodL (xs ++ [x]) = prodL xs * x := by
  unfold prodL; rw [List.foldl_append]; rfl
theorem foldl_mul {xs : List Int} : ∀ {a : Int}, xs.foldl (· * ·) a = a * xs.foldl (· * ·) 1 := by
  induction xs with
  | nil => intro a; simp
  | cons x xs ih =>
    intro a
    rw [List.foldl_cons, List.foldl_cons, ih, ih (a := 1 * x), Int.one_mul, Int.mul_assoc]
theorem prodL_nil : prodL [] = 1 := rfl
theorem prodL_cons {x : Int} {xs : List Int} : prodL (x :: xs) = x * prodL xs := by
  unfold prodL
  rw [List.foldl_cons, foldl_mul, Int.one_mul]
theorem prodL_pos : ∀ {xs : List Int}, (∀ x ∈ xs, 1 ≤ x) → 1 ≤ prodL xs
  | [], _ => by rw [prodL_nil]; exact Int.le_refl _
  | x :: xs, h => by
    rw [prodL_cons]
    have h1 := h x List.mem_cons_self
    have h2 := prodL_pos fun y m => h y (List.mem_cons_of_mem _ m)
    have := Int.mul_le_mul h1 h2 (by omega) (by omega)
    omega
theorem prodL_le {B : Int} : ∀ {xs : List Int}, (∀ x ∈ xs, 1 ≤ x ∧ x ≤ B) → prodL xs ≤ B ^ xs.length
  | [], _ => by rw [prodL_nil, List.length_nil, Int.pow_zero]; exact Int.le_refl _
  | x :: xs, h => by
    rw [prodL_cons, List.length_cons, Int.pow_succ, Int.mul_comm]
    have h1 := h x List.mem_cons_self
    have h2 := prodL_le fun y m => h y (List.mem_cons_of_mem _ m)
    have h3 := prodL_pos fun y m => (h y (List.mem_cons_of_mem _ m)).1
    exact Int.mul_le_mul h2 h1.2 (by omega) (by omega)
theorem prodL_dvd : ∀ {xs : List Int} {x : Int}, x ∈ xs → x ∣ prodL xs
  | y :: ys, x, m => by
    rw [prodL_cons]
    rcases List.mem_cons.mp m with rfl | m
    · exact Int.dvd_mul_right _ _
    · exact Int.dvd_trans (prodL_dvd m) (Int.dvd_mul_left _ _)
theorem take_succ {α : Type} {xs : List α} {j : Nat} (h : j < xs.length) : xs.take (j + 1) = xs.take j ++ [xs[j]] := by
  rw [List.take_succ_eq_append_getElem h]
theorem prodL_take {xs : List Int} (h : ∀ x ∈ xs, 1 ≤ x) (j : Nat) : 1 ≤ prodL (xs.take j) := prodL_pos fun x m => h x (List.mem_of_mem_take m)
theorem prodL_takeLe {B : Int} {xs : List Int} (h : ∀ x ∈ xs, 1 ≤ x ∧ x ≤ B) (hB : 1 ≤ B) {n : Nat} (hn : xs.length ≤ n) (j : Nat) : prodL (xs.take j) ≤ B ^ n := by
  have h1 := prodL_le (B := B) (xs := xs.take j) fun x m => h x (List.mem_of_mem_take m)
  refine Int.le_trans h1 ?_
  have hl : (xs.take j).length ≤ n := Nat.le_trans (List.length_take_le' ..) hn
  obtain ⟨k, rfl⟩ := Nat.exists_eq_add_of_le hl
  rw [Int.pow_add]
  have p : ∀ k : Nat, (1 : Int) ≤ B ^ k := fun k => by
    induction k with
    | zero => rw [Int.pow_zero]; exact Int.le_refl _
    | succ k ih =>
      rw [Int.pow_succ]
      have := Int.mul_le_mul ih hB (by omega) (by omega)
      omega
  have := Int.mul_le_mul (Int.le_refl (B ^ (xs.take j).length)) (p k) (by omega) (by have := p (xs.take j).length; omega)
  omega
theorem prodL_all {xs : List Int} : xs.take xs.length = xs := List.take_length
/-- times, of whole numbers from nought to 10^1000 -/
theorem mul_nn {i j : Int} (h1 : 0 ≤ i) (h2 : i ≤ mB) (h3 : 0 ≤ j) (h4 : j ≤ mB) : gMul (.int i) (.int j) = some (.int (i * j)) := by
  have e : cMul i j = true := by
    unfold cMul
    simp only [Bool.and_eq_true, decide_eq_true_eq]
    omega
  show (if cMul i j = true then _ else _) = _
  rw [if_pos e]
theorem div_nn {i j : Int} (h3 : 0 < j) (h4 : j ≤ mB) : gDiv (.int i) (.int j) = some (.int (i / j)) := by
  have e : cDiv j = true := by
    unfold cDiv
    simp only [Bool.and_eq_true, decide_eq_true_eq]
    omega
  show (if cDiv j = true then _ else _) = _
  rw [if_pos e]
theorem mB_pos : (0 : Int) < mB := by unfold mB; decide +kernel
theorem mB_ge : (10 : Int) ^ 900 ≤ mB := by unfold mB; decide +kernel
@[simp] theorem s_sum {ns : List Int} : gSum [.lst (ns.map .int)] = some (.int ns.sum) := by
  unfold gSum; dsimp only; rw [ints_map]
theorem sum_nn : ∀ {xs : List Int}, (∀ x ∈ xs, 0 ≤ x) → 0 ≤ xs.sum
  | [], _ => Int.le_refl _
  | x :: xs, h => by
    rw [List.sum_cons]
    have h1 := h x List.mem_cons_self
    have h2 := sum_nn fun y m => h y (List.mem_cons_of_mem _ m)
    omega
theorem sum_le {B : Int} : ∀ {xs : List Int}, (∀ x ∈ xs, x ≤ B) → xs.sum ≤ B * xs.length
  | [], _ => by simp
  | x :: xs, h => by
    rw [List.sum_cons, List.length_cons, Int.natCast_add, Int.mul_add]
    have h1 := h x List.mem_cons_self
    have h2 := sum_le fun y m => h y (List.mem_cons_of_mem _ m)
    simp only [Int.natCast_one, Int.mul_one]
    omega
end VL

/-! VL17: is True; bits of whole numbers. -/
namespace VL
open PySem PySem.Spec L2
open PyProof.Rows hiding St
section
variable {K : PySem.W.Frag}
def gIsB : D → D → Option D
  | .bl a, .bl b => some (.bl (decide (a = b)))
  | _, _ => none
def gIsntB : D → D → Option D
  | .bl a, .bl b => some (.bl (!decide (a = b)))
  | _, _ => none
theorem o2_isB : Op2 K (fun x y H Q => ∃ a b, x = .bl a ∧ y = .bl b ∧ Q (.bl (decide (a = b))) H) 0 gIsB := by
  refine ⟨fun {H N d1 d2 d v1 v2} o1 o2 e Q q => ?_⟩
  unfold gIsB at e
  split at e
  · cases e; cases o1; cases o2
    exact ⟨_, _, rfl, rfl, fin0 q fun _ => .bl⟩
  · cases e
theorem o2_isntB : Op2 K (fun x y H Q => ∃ a b, x = .bl a ∧ y = .bl b ∧ Q (.bl (!decide (a = b))) H) 0 gIsntB := by
  refine ⟨fun {H N d1 d2 d v1 v2} o1 o2 e Q q => ?_⟩
  unfold gIsntB at e
  split at e
  · cases e; cases o1; cases o2
    exact ⟨_, _, rfl, rfl, fin0 q fun _ => .bl⟩
  · cases e
@[simp] theorem s_isB {a b : Bool} : gIsB (.bl a) (.bl b) = some (.bl (decide (a = b))) := id rfl
@[simp] theorem s_isN {neg : Bool} {d : D} : gIsN neg d .non = some (.bl (if neg then !d.isNon else d.isNon)) := by
  cases neg <;> rfl
@[simp] theorem s_nonI {i : Int} : (D.int i).isNon = false := id rfl
@[simp] theorem s_nonN : D.non.isNon = true := id rfl
end
/-! ### bits -/
theorem xor_and (a : Nat) : ∀ b : Nat, (a ^^^ b) + 2 * (a &&& b) = a + b := by
  induction a using Nat.strongRecOn with
  | ind a ih =>
    intro b
    by_cases h : a = 0
    · subst h; simp
    · have h1 := ih (a / 2) (by omega) (b / 2)
      have h2 : (a ^^^ b) / 2 = a / 2 ^^^ b / 2 := Nat.xor_div_two
      have h3 : (a &&& b) / 2 = a / 2 &&& b / 2 := Nat.and_div_two
      have h4 : (a ^^^ b) % 2 = a % 2 ^^^ b % 2 := Nat.xor_mod_two_pow (n := 1)
      have h5 : (a &&& b) % 2 = a % 2 &&& b % 2 := Nat.and_mod_two_pow (n := 1)
      rw [← h2, ← h3] at h1
      have h6 : a % 2 = 0 ∨ a % 2 = 1 := by omega
      have h7 : b % 2 = 0 ∨ b % 2 = 1 := by omega
      rcases h6 with h6 | h6 <;> rcases h7 with h7 | h7 <;> rw [h6, h7] at h5 h4
      · have h4 : (a ^^^ b) % 2 = 0 := h4
        have h5 : (a &&& b) % 2 = 0 := h5
        omega
      · have h4 : (a ^^^ b) % 2 = 1 := h4
        have h5 : (a &&& b) % 2 = 0 := h5
        omega
      · have h4 : (a ^^^ b) % 2 = 1 := h4
        have h5 : (a &&& b) % 2 = 0 := h5
        omega
      · have h4 : (a ^^^ b) % 2 = 0 := h4
        have h5 : (a &&& b) % 2 = 1 := h5
        omega
theorem xor_cast (a b : Nat) : Builtin.bitXor (a : Int) (b : Int) = ((a ^^^ b : Nat) : Int) := by
  rw [PyProof.Rows.bitXor_and, PyProof.Rows.bitAnd_pp (Int.natCast_nonneg a) (Int.natCast_nonneg b), Int.toNat_natCast, Int.toNat_natCast]
  have := xor_and a b
  omega
theorem shr_ok {i : Int} {j : Int} (h : 0 ≤ j) : gShr (.int i) (.int j) = some (.int (i / 2 ^ j.toNat)) := by
  show (if decide (0 ≤ j) = true then _ else _) = _
  rw [if_pos (decide_eq_true h)]
theorem shr_cast (a k : Nat) : (a : Int) / 2 ^ k = ((a / 2 ^ k : Nat) : Int) := by
  rw [Int.natCast_ediv, Int.natCast_pow]; rfl
theorem shl_ok {i : Int} {j : Int} (h : 0 ≤ j) (h2 : j ≤ 1000) (h3 : -1000000000000 ≤ i) (h4 : i ≤ 1000000000000) : gShl (.int i) (.int j) = some (.int (i * 2 ^ j.toNat)) := by
  have : (i.natAbs < 2 ^ 4000) := by
    have : (1000000000001 : Nat) < 2 ^ 4000 := by decide +kernel
    omega
  show (if (decide (0 ≤ j) && decide (j ≤ 1000) && decide (i.natAbs < 2 ^ 4000)) = true then _ else _) = _
  rw [if_pos]
  simp only [Bool.and_eq_true, decide_eq_true_eq]
  exact ⟨⟨h, h2⟩, this⟩
theorem tb_iff (h k : Nat) : (((h / 2 ^ k : Nat) : Int) % 2 = 1) ↔ h.testBit k = true := by
  rw [Nat.testBit_eq_decide_div_mod_eq, decide_eq_true_eq]
  omega
theorem tb_xor (h i k : Nat) : (h ^^^ 2 ^ i).testBit k = if k = i then !h.testBit k else h.testBit k := by
  rw [Nat.testBit_xor, Nat.testBit_two_pow]
  by_cases e : k = i
  · subst e; simp
  · rw [if_neg e]
    have : ¬ i = k := fun z => e z.symm
    simp [this]
/-- all the numbers' marks on the places from 1 on -/
def markZ (p : Nat → Bool) : Nat → Nat
  | 0 => 0
  | n + 1 => if p n then markZ p n ^^^ (n + 1) else markZ p n
theorem markZ_ext {p q : Nat → Bool} : ∀ {n : Nat}, (∀ j, j < n → p j = q j) → markZ p n = markZ q n
  | 0, _ => rfl
  | n + 1, h => by
    unfold markZ
    rw [h n (Nat.lt_succ_self n), markZ_ext fun j hj => h j (by omega)]
/-! ### range with a step -/
theorem fits {i : Int} (h1 : -1000000000000 ≤ i) (h2 : i ≤ 1000000000000) : Builtin.Range.rangeFitsLong i = true := by
  unfold Builtin.Range.rangeFitsLong
  rw [Bool.and_eq_true, decide_eq_true_eq, decide_eq_true_eq]
  omega
theorem r3_up {fa : Store → Option (List D)} {ρ : Store} {i j c : Int} {n : Nat} (h : fa ρ = some [.int i, .int j, .int c]) (hn : Builtin.Range.rangeSize i j c = n) (hc : 0 < c) (hc2 : c ≤ 1000000) (h1 : -1000000000 ≤ i) (h2 : i ≤ 1000000000) (h3 : -1000000000 ≤ j) (h4 : j ≤ 1000000000) (h5 : n ≤ 1000000000) : iR3 fa ρ = some (steps i c n) := by
  have hs : Builtin.Range.small i j c = true := by
    unfold Builtin.Range.small
    rw [hn, fits (i := i) (by omega) (by omega), fits (i := j) (by omega) (by omega), fits (i := c) (by omega) (by omega), fits (i := (n : Int)) (by omega) (by omega), if_pos hc, fits (by omega) (by omega), Bool.or_true]
    rfl
  unfold iR3
  rw [h]
  refine (if_pos ⟨by omega, by omega, hs, by omega⟩).trans ?_
  rw [hn, Int.toNat_natCast]
theorem filter_range_eq {n k : Nat} (h : k < n) : (List.range n).filter (fun i => decide (i = k)) = [k] := by
  induction n with
  | zero => omega
  | succ n ih =>
    rw [List.range_succ, List.filter_append]
    by_cases e : k = n
    · subst e
      have : (List.range k).filter (fun i => decide (i = k)) = [] := List.filter_eq_nil_iff.mpr fun i mi => by
        have := List.mem_range.mp mi
        simp; omega
      rw [this]
      simp
    · rw [ih (by omega)]
      have : ¬ n = k := fun z => e z.symm
      simp [this]
section
variable {vs : List Nat} {it : Store → Option (List D)} {g : D → Store → Option Store} {p : Store → Option Bool} {f : Store → Option D} {ρ : Store}
theorem lcA_all {α : Type} {k : α → D} {xs : List α} {γ : α → Store} {h : α → D} (hi : it ρ = some (xs.map k)) (hl : xs.length < 16777216) (st : ∀ x ∈ xs, g (k x) (wipeD ρ vs) = some (γ x) ∧ p (γ x) = some true ∧ f (γ x) = some (h x)) : eLc vs it g p f ρ = some (.lst (xs.map h)) := by
  refine eLc_ok hi (by rw [List.length_map]; exact hl) ?_
  rw [lc_map (q := fun _ => true) (h := h) fun x m => ⟨(st x m).1, (st x m).2.1, fun _ => (st x m).2.2⟩, List.filter_eq_self.mpr fun _ _ => rfl]
theorem lcA_ups {lo : Int} {n : Nat} {γ : Nat → Store} {h : Nat → D} (hi : it ρ = some (ups lo n)) (hl : n < 16777216) (st : ∀ i < n, g (.int (lo + i)) (wipeD ρ vs) = some (γ i) ∧ p (γ i) = some true ∧ f (γ i) = some (h i)) : eLc vs it g p f ρ = some (.lst ((List.range n).map h)) :=
  lcA_all (k := fun i : Nat => D.int (lo + (i : Int))) hi (by rw [List.length_range]; exact hl) fun x m => st x (List.mem_range.mp m)
end
theorem ix_rng {n : Nat} {f : Nat → D} {i : Int} {k : Nat} (e : i = k) (h : k < n) : gIx (.lst ((List.range n).map f)) (.int i) = some (f k) := by
  show L2.atI _ i = _
  rw [atI_map, atI_nat e (by rw [List.length_range]; exact h), List.getElem_range]
  rfl
theorem ups_ints {lo : Int} {n : Nat} : ups lo n = ((List.range n).map fun i : Nat => lo + (i : Int)).map D.int := by
  unfold ups; rw [List.map_map]; rfl
theorem lrg_ok {f : Store → Option (Int × Int)} {ρ : Store} {n : Nat} (h : f ρ = some (0, (n : Int))) (hn : n < 16777216) : eLRg f ρ = some (.lst (((List.range n).map fun i : Nat => 0 + (i : Int)).map D.int)) := by
  unfold eLRg
  rw [h]
  have h2 : ((n : Int) - 0).toNat = n := by omega
  have h3 : n ≤ 2 ^ 24 := by omega
  refine (if_pos ⟨cR_t (by decide) (by decide), cR_t (by omega) (by omega), by rw [h2]; exact h3⟩).trans ?_
  rw [h2, ups_ints]
theorem filter_lt {n k : Nat} (h : k ≤ n) : (List.range n).filter (fun i => decide (i < k)) = List.range k := by
  induction n with
  | zero =>
    obtain rfl : k = 0 := by omega
    rfl
  | succ n ih =>
    rw [List.range_succ, List.filter_append]
    by_cases e : k = n + 1
    · subst e
      rw [List.range_succ, List.filter_eq_self.mpr fun i mi => by have := List.mem_range.mp mi; exact decide_eq_true (by omega)]
      simp
    · rw [ih (by omega)]
      have : ¬ n < k := by omega
      simp [this]
end VL

/-! VL18: arcs on a circle, plain arithmetic. -/
namespace VL
theorem emod_low {x P : Int} (h0 : 0 ≤ x) (h1 : x < P) : x % P = x := Int.emod_eq_of_lt h0 h1
theorem emod_neg1 {x P : Int} (h0 : x < 0) (h1 : -P ≤ x) : x % P = x + P := by
  have : (x + P) % P = x % P := Int.add_emod_right ..
  rw [← this]
  exact Int.emod_eq_of_lt (by omega) (by omega)
theorem emod_sub_mod (x y P : Int) : (x - y % P) % P = (x - y) % P := by
  have e : x - y % P = (x - y) + P * (y / P) := by have := Int.emod_add_mul_ediv y P; omega
  rw [e, Int.add_mul_emod_self_left]
/-- the guess hits just where the sum lies in the own arc -/
theorem guess_iff {w c g h : Int} (hw : 1 ≤ w) (hc : 1 ≤ c) (g0 : 0 ≤ g) (g1 : g < w * c) (h0 : 0 ≤ h) (h1 : h < c) : (g + w - 1) / w % c = h ↔ (w * h - g) % (w * c) < w := by
  obtain ⟨q, hq⟩ : ∃ q, q = (g + w - 1) / w := ⟨_, rfl⟩
  have q1 : w * q ≤ g + w - 1 := by rw [hq]; exact Int.mul_ediv_self_le (by omega)
  have q2 : g + w - 1 < w * q + w := by rw [hq]; exact Int.lt_mul_ediv_self_add (by omega)
  have q0 : 0 ≤ q := by rw [hq]; exact Int.ediv_nonneg (by omega) (by omega)
  rw [← hq]
  have mono : ∀ a b : Int, a + 1 ≤ b → w * a + w ≤ w * b := fun a b hab => by
    have := Int.mul_le_mul_of_nonneg_left hab (show 0 ≤ w by omega)
    rw [Int.mul_add, Int.mul_one] at this
    exact this
  have wc : w ≤ w * c := by have := mono 0 c (by omega); rw [Int.mul_zero] at this; omega
  have wh0 : 0 ≤ w * h := Int.mul_nonneg (by omega) h0
  have whc := mono h c (by omega)
  have qc : q ≤ c := Classical.byContradiction fun n => by have := mono c q (by omega); omega
  by_cases e : q = c
  · subst e
    rw [Int.emod_self]
    constructor
    · intro z
      subst z
      rw [Int.mul_zero, Int.zero_sub, emod_neg1 (by omega) (by omega)]
      omega
    · intro z
      refine Classical.byContradiction fun n => ?_
      have := mono 0 h (by omega)
      rw [Int.mul_zero] at this
      rw [emod_neg1 (by omega) (by omega)] at z
      omega
  · rw [Int.emod_eq_of_lt q0 (by omega)]
    constructor
    · rintro rfl
      rw [emod_low (by omega) (by omega)]
      omega
    · intro z
      refine Classical.byContradiction fun n => ?_
      by_cases l : q < h
      · have := mono q h (by omega)
        rw [emod_low (by omega) (by omega)] at z
        omega
      · have := mono h q (by omega)
        have := mono q c (by omega)
        rw [emod_neg1 (by omega) (by omega)] at z
        omega
/-- how many turns of S lie below x -/
def cntS (S P x : Int) : Int := (x - S + P - 1) / P
theorem cntS_step {S P A w : Int} (hP : 1 ≤ P) (h0 : 1 ≤ w) (h1 : w ≤ P) : cntS S P (A + w) - cntS S P A = if (S - A) % P < w then 1 else 0 := by
  obtain ⟨r, hr⟩ : ∃ r, r = (S - A) % P := ⟨_, rfl⟩
  obtain ⟨k, hk⟩ : ∃ k, k = (S - A) / P := ⟨_, rfl⟩
  have r0 : 0 ≤ r := by rw [hr]; exact Int.emod_nonneg _ (by omega)
  have r1 : r < P := by rw [hr]; exact Int.emod_lt_of_pos _ (by omega)
  have e : S - A = r + P * k := by rw [hr, hk]; exact (Int.emod_add_mul_ediv ..).symm
  have a1 : cntS S P A = -k := by
    unfold cntS
    rw [show A - S + P - 1 = (P - 1 - r) + P * (-k) by rw [Int.mul_neg]; omega, Int.add_mul_ediv_left _ _ (by omega), Int.ediv_eq_zero_of_lt (by omega) (by omega)]
    omega
  have a2 : cntS S P (A + w) = (w - 1 - r) / P + 1 - k := by
    unfold cntS
    rw [show A + w - S + P - 1 = (w - 1 - r) + P * (1 - k) by rw [Int.mul_sub, Int.mul_one]; omega, Int.add_mul_ediv_left _ _ (by omega)]
    omega
  rw [a1, a2, ← hr]
  split
  · rw [Int.ediv_eq_zero_of_lt (by omega) (by omega)]; omega
  · have : (w - 1 - r) / P = -1 := by
      rw [show w - 1 - r = (w - 1 - r + P) + P * (-1) by omega, Int.add_mul_ediv_left _ _ (by omega), Int.ediv_eq_zero_of_lt (by omega) (by omega)]
      omega
    omega
theorem cntS_zero {S P : Int} (h0 : 0 ≤ S) (h1 : S < P) : cntS S P 0 = 0 := by
  unfold cntS
  exact Int.ediv_eq_zero_of_lt (by omega) (by omega)
/-- as many right ones as turns -/
theorem count_arcs {S P : Int} {W : List Int} (hP : 1 ≤ P) (hS0 : 0 ≤ S) (hS1 : S < P) (hW : ∀ w ∈ W, 1 ≤ w ∧ w ≤ P) {ok : Nat → Bool} (hok : ∀ i (h : i < W.length), ok i = decide ((S - (W.take i).sum) % P < W[i])) :
    ∀ n, n ≤ W.length → ((((List.range n).filter ok).length : Nat) : Int) = cntS S P (W.take n).sum
  | 0, _ => by rw [List.take_zero, List.sum_nil, cntS_zero hS0 hS1]; rfl
  | n + 1, h => by
    have ih := count_arcs hP hS0 hS1 hW hok n (by omega)
    have hw := hW _ (List.getElem_mem (show n < W.length by omega))
    have st := cntS_step (S := S) (A := (W.take n).sum) hP hw.1 hw.2
    rw [List.range_succ, List.filter_append, List.length_append, Int.natCast_add, ih, take_succ (show n < W.length by omega), List.sum_append, List.sum_cons, List.sum_nil, Int.add_zero]
    have := hok n (by omega)
    by_cases z : (S - (W.take n).sum) % P < W[n]
    · rw [if_pos z] at st
      rw [decide_eq_true z] at this
      simp [this]
      omega
    · rw [if_neg z] at st
      rw [decide_eq_false z] at this
      simp [this]
      omega
theorem cntS_rng {S P T : Int} (hP : 1 ≤ P) (hS0 : 0 ≤ S) (hS1 : S < P) : T / P ≤ cntS S P T ∧ (cntS S P T - 1) * P < T := by
  unfold cntS
  constructor
  · exact Int.ediv_le_ediv (by omega) (by omega)
  · have := Int.mul_ediv_self_le (x := T - S + P - 1) (k := P) (by omega)
    rw [Int.sub_mul, Int.one_mul, Int.mul_comm]
    omega
end VL

/-! VL19: reversed(x) of a list or tuple; what an expression changes on its way: x.pop(i). -/
namespace VL
open PySem PySem.Spec L2 RT
open PyProof.Rows hiding St
section
variable {X : Cx} {K : PySem.W.Frag} {Γ : List Nat} {W : WX} {I : Nat → Nat} {r k m : Nat} {Γb Γ' : List Nat} {e a b tg : Expr} {f : Store → Option D} {te t : TE} {pos p : Pos}
/-! ### reversed -/
def iRva (f : Store → Option D) : Store → Option (List D) := fun ρ => match f ρ with
  | some (.lst ds) => some ds.reverse
  | some (.tup ds) => some ds.reverse
  | _ => none
theorem rev_place {α : Type} {xs : List α} {i : Nat} {d : α} (e : xs.reverse[i]? = some d) : i < xs.length ∧ xs[xs.length - 1 - i]? = some d := by
  have h := lt_of_some e
  rw [List.length_reverse] at h
  rw [List.getElem?_reverse h] at e
  exact ⟨h, e⟩
theorem wk_revL {ds : List D} {a : Addr} {n : Nat} (hn : n = ds.length) : Wk K (Itv K a n) (.lst ds) (.ref a) ds.reverse := by
  subst hn
  refine ⟨fun {H N} o i d e => ?_, fun {H N} o => ?_⟩
  · obtain ⟨_, vs, e0, s, lo⟩ := o.lst_inv0
    cases e0
    obtain ⟨h, e⟩ := rev_place e
    obtain ⟨v, hv, o⟩ := lo.get0 e
    refine ⟨⟨h, vs, v, s, hv⟩, fun x H2 y => ?_⟩
    obtain ⟨rfl, y⟩ := y
    have z := y vs s
    rw [hv] at z
    cases z
    exact ⟨.rfl' _, o⟩
  · show ds.length ≤ ds.reverse.length
    rw [List.length_reverse]; exact Nat.le_refl _
theorem wk_revT {ds : List D} {a : Addr} {n : Nat} (hn : n = ds.length) : Wk K (ItvT K a n) (.tup ds) (.ref a) ds.reverse := by
  subst hn
  refine ⟨fun {H N} o i d e => ?_, fun {H N} o => ?_⟩
  · obtain ⟨_, vs, e0, s, lo⟩ := o.tup_inv
    cases e0
    obtain ⟨h, e⟩ := rev_place e
    obtain ⟨v, hv, o⟩ := lo.get0 e
    refine ⟨⟨h, vs, v, s, hv⟩, fun x H2 y => ?_⟩
    obtain ⟨rfl, y⟩ := y
    have z := y vs s
    rw [hv] at z
    cases z
    exact ⟨.rfl' _, o⟩
  · show ds.length ≤ ds.reverse.length
    rw [List.length_reverse]; exact Nat.le_refl _
theorem iv_revA (hg : Gl X "reversed") (hm : X.mg "reversed" = none) (h : Ev X Γ e m [] f t) (hs : starEach [e] X.env = (false, eval e X.env) :: starEach [] X.env := by rfl) (hK : X.K = K := by rfl) : Iv X Γ tg (.Call (.Name "reversed" p) [e] [] pos) (iRva f) (iRevA K t) := by
  subst hK
  refine ⟨pi_revA hg hm h.pe hs, ⟨fun {E ρ σ H Φ} R ds e Q q => ?_⟩⟩
  unfold iRva at e
  split at e
  · rename_i ds' e1
    cases e
    refine h.sd.sh R e1 _ fun v H1 x o => ?_
    obtain ⟨l, vs, rfl, s, lo⟩ := o.lst_inv0
    exact ⟨l, vs, rfl, .inl ⟨s, q _ _ _ _ x (own_live o) (wk_revL lo.len)⟩⟩
  · rename_i ds' e1
    cases e
    refine h.sd.sh R e1 _ fun v H1 x o => ?_
    obtain ⟨l, vs, rfl, s, lo⟩ := o.tup_inv
    exact ⟨l, vs, rfl, .inr ⟨s, q _ _ _ _ x (own_live o) (wk_revT lo.len)⟩⟩
  · cases e
/-! ### an expression that changes a slot's own on its way; what it gives is shared -/
structure SdX (K : PySem.W.Frag) (Γ : List Nat) (t : TE) (F : Store → Option (D × Store)) : Prop where
  run : ∀ {E : Entry} {ρ : Store} {σ : St} {H : Hp} {Φ : Nat → List Addr}, StR K E Γ ρ σ H Φ → ∀ {d : D} {ρ' : Store}, F ρ = some (d, ρ') → ∀ Q : VK,
    (∀ v H' Φ', StR K E Γ ρ' σ H' Φ' → Own K H' (fun a => (∃ o, H' a = some o) ∧ ∀ j, a ∉ Φ' j) 0 d v [] → Q v H') → t σ H Q
structure Xv (X : Cx) (Γ : List Nat) (e : Expr) (F : Store → Option (D × Store)) (t : TE) : Prop where
  pe : PE X e t
  sd : SdX X.K Γ t F
def xPop (i : Nat) (f : Store → Option D) : Store → Option (D × Store) := fun ρ => match eVar i ρ with
  | some (.lst ds) => (match f ρ with
    | some (.int z) => if cR z = true then (match ixN ds.length z with
      | some k => (match ds[k]? with
        | some d => some (d, ρ.set i (some (.lst (ds.eraseIdx k))))
        | none => none)
      | none => none) else none
    | _ => none)
  | _ => none
theorem OwnL.erase0 {H : Hp} {N : Addr → Prop} : ∀ {ds : List D} {vs : List V} {fp : List Addr}, OwnL K H N 0 ds vs fp → ∀ k, OwnL K H N 0 (ds.eraseIdx k) (vs.eraseIdx k) []
  | _, _, _, .nil, _ => .nil
  | _, _, _, .cons h l, 0 => by
    have := l.fp0 rfl
    subst this
    exact l
  | _, _, _, .cons h l, k + 1 => by
    have h0 := h.fp0 rfl
    subst h0
    exact .cons h (OwnL.erase0 l k)
theorem sd_pop {i : Nat} (hm : Γ.getD i 0 = 1) (h : SdE K Γ te m [] f) : SdX K Γ (tBM K "list" rPopAt (tVar i) (tCons te tNil)) (xPop i f) := by
  refine ⟨fun {E ρ σ H Φ} R d ρ' e Q q => ?_⟩
  unfold xPop at e
  split at e
  · rename_i ds e0
    split at e
    · rename_i z e1
      split at e
      · rename_i hz
        split at e
        · rename_i j ej
          split at e
          · rename_i d' ed
            cases e
            obtain ⟨v, h1, h2⟩ := R.val i _ (eVar_some e0)
            obtain ⟨_, l, vs0, _, _, rfl, _, hl0, _⟩ := h2.lst_inv (by rw [hm]; decide)
            refine ⟨_, h1, .inl ⟨rfl, _, .inl (.inl hl0)⟩, ?_⟩
            refine h.sh R e1 _ fun y H1 x o => ?_
            cases o
            have R1 := R.ext x
            obtain ⟨v, h1', h2⟩ := R1.val i _ (eVar_some e0)
            rw [h1] at h1'
            cases h1'
            obtain ⟨k', l', vs, fp, ek, el, efp, hl, lo⟩ := h2.lst_inv (by rw [hm]; decide)
            cases el
            rw [hm] at ek
            cases ek
            have fp0 := lo.fp0 rfl
            subst fp0
            obtain ⟨z1, z2⟩ := cR_ok hz
            obtain ⟨w, hw, ow⟩ := lo.get0 ed
            obtain ⟨s1, s2, s3, s4⟩ := ixN_seq ej
            refine ⟨l, vs, z, j, w, rfl, rfl, hl, by omega, by omega, by rw [lo.len]; exact s1, hw, ?_⟩
            have st : ∀ a o, H1 a = some o → a ≠ l → upd H1 l (.lst (vs.eraseIdx j)) a = some o := fun a o e n => by rw [upd_ne n]; exact e
            have lΦ : l ∈ Φ i := by rw [efp]; exact List.mem_cons_self
            have tup1 : ∀ a o, H1 a = some o → ¬ notTup o → a ≠ l := fun a o e t z => by subst z; rw [hl] at e; cases e; exact t trivial
            have R2 := R1.mut (i := i) (d := .lst (ds.eraseIdx j)) (v := .ref l) (H2 := upd H1 l (.lst (vs.eraseIdx j))) (Ψ := [l]) h1 (by rw [hm]; decide) (fun a o e n => st a o e fun z => n (by rw [z]; exact lΦ)) (fun a o e => by
              by_cases z : a = l
              · subst z; exact ⟨_, upd_same⟩
              · exact ⟨o, st a o e z⟩) (by
              rw [hm]
              refine .lst upd_same ((lo.erase0 j).move (fun a o e t => st a o e (tup1 a o e t)) (fun a o e z => ?_) fun a m => (nomatch m))
              have nl : a ≠ l := fun z' => z i (by rw [z']; exact lΦ)
              exact ⟨st a o e nl, fun m => nl (List.mem_singleton.mp m), fun j _ => z j⟩) (List.nodup_cons.mpr ⟨List.not_mem_nil, .nil⟩) (fun a m => by rw [List.mem_singleton.mp m]; exact .inl lΦ)
            refine q _ _ _ R2 (ow.move (fun a o e t => st a o e (tup1 a o e t)) (fun a o e z => ?_) fun a m => (nomatch m))
            have nl : a ≠ l := fun z' => z i (by rw [z']; exact lΦ)
            refine ⟨st a o e nl, ⟨o, st a o e nl⟩, fun j' m => ?_⟩
            have m : a ∈ (if j' = i then [l] else Φ j') := m
            split at m
            · exact nl (List.mem_singleton.mp m)
            · exact z j' m
          · cases e
        · cases e
      · cases e
    · cases e
  · cases e
theorem xv_pop (i : Nat) {x : Str} {pn pa pc : Pos} (he : Ev X Γ e m [] f te) (hN : X.N[i]? = some x := by rfl) (hv : Vis X.env.scope x := by first | exact Or.inl rfl | exact Or.inr (Or.inl rfl) | exact Or.inr (Or.inr rfl)) (hm : Γ.getD i 0 = 1 := by rfl)
    (hbase : attributeBase (.Name x pn) "pop" X.env (eval (.Name x pn) X.env) = eval (.Name x pn) X.env := by rfl) (hline : (pa.endLine == pc.line) = true := by rfl)
    (hfew : ((backTo pc (starEach [e] X.env)).all (fun x => !x.1) && (backToKw pc (keywordEach [] X.env)).all (fun x => x.1.isSome) && decide ([e].length + ([] : List Keyword).length + (if ([] : List Keyword).isEmpty then 0 else 1) < 30)) = true := by rfl)
    (hss : starEach [e] X.env = (false, eval e X.env) :: starEach [] X.env := by rfl) (hplain : (backTo pc (starEach [] X.env)).any (·.1) = false := by rfl) (hd : (x == ("__debug__" : Str)) = false := by decide) (hcd : (x == ("__classdict__" : Str)) = false := by decide) :
    Xv X Γ (.Call (.Attribute (.Name x pn) "pop" pa) [e] [] pc) (xPop i f) (tBM X.K "list" rPopAt (tVar i) (tCons te tNil)) :=
  ⟨pe_bm PySem.F.plainAttrs_list PySem.F.slot_list_pop PySem.F.type_list_pop mt_popAt (pe_var hN hv hd hcd) (pa_cons he.pe pa_nil hss) hbase hfew hline hss hplain, sd_pop hm he.sd⟩
/-- y = x.pop(..) -/
def sSetX (i : Nat) (F : Store → Option (D × Store)) : Store → Option O := fun ρ => match F ρ with
  | some (d, ρ') => some (.nx (ρ'.set i (some d)))
  | none => none
theorem sd_setX {i : Nat} {F : Store → Option (D × Store)} (h : SdX K Γ te F) (hG : i < Γ.length) (hi : I i = 0) : SdS K W I r Γ Γb (Γ.set i 0) (tAsg te (gName i)) (sSetX i F) := by
  refine ⟨fun {E ρ σ H Φ} hI R o e D q => ?_⟩
  unfold sSetX at e
  split at e
  · rename_i d ρ' e1
    cases e
    refine h.run R e1 _ fun v H' Φ' R' ov => ?_
    exact q _ _ _ (R'.set (Ψ := []) ⟨.rfl' _, fun a m => (nomatch m), .nil, ov.move (fun a o e _ => e) (fun a o e z => ⟨e, List.not_mem_nil, fun j _ => z.2 j⟩) fun a m => (nomatch m)⟩ hG (by rw [hI]; exact hi))
  · cases e
theorem s_setX (i : Nat) {x : Str} {pos' : Pos} {F : Store → Option (D × Store)} (he : Xv X Γ e F te) (hN : X.N.Nodup) (hi : X.N[i]? = some x := by rfl) (hx : Loc X.env.scope x := by first | exact Or.inl rfl | exact Or.inr rfl) (hG : i < Γ.length := by decide) (hio : I i = 0 := by rfl) (hs : swapsWith e (some (.Name x pos')) pos.line X.env = pure false := by rfl) (hf : X.fn x = true ∨ X.env.scope.names.lookup x = some .local := by first | exact .inl rfl | exact .inr rfl) :
    Sv X W I r Γ Γb (.Assign [.Name x pos'] e pos) (Γ.set i 0) (sSetX i F) (tAsg te (gName i)) := ⟨ps_set hN hi hx he.pe hs hf, sd_setX he.sd hG hio⟩
/-- z.append(x.pop(..)) -/
def sAppX (i : Nat) (F : Store → Option (D × Store)) : Store → Option O := fun ρ => match eVar i ρ with
  | some (.lst _) => (match F ρ with
    | some (d, ρ') => (match eVar i ρ' with
      | some (.lst ds) => if ds.length < sizeLine then some (.nx (ρ'.set i (some (.lst (ds ++ [d]))))) else none
      | _ => none)
    | none => none)
  | _ => none
theorem sd_appX {i : Nat} {F : Store → Option (D × Store)} (hm : Γ.getD i 0 = 1) (h : SdX K Γ te F) : SdS K W I r Γ Γb Γ (tDrop (tBM K "list" rAppend (tVar i) (tCons te tNil))) (sAppX i F) := by
  refine ⟨fun {E ρ σ H Φ} hI R o e D q => ?_⟩
  unfold sAppX at e
  split at e
  · rename_i ds0 e0
    split at e
    · rename_i d ρ' e1
      split at e
      · rename_i ds e2
        split at e
        · rename_i hz
          cases e
          obtain ⟨v, h1, h2⟩ := R.val i _ (eVar_some e0)
          obtain ⟨_, l, vs0, _, _, rfl, _, hl0, _⟩ := h2.lst_inv (by rw [hm]; decide)
          refine ⟨_, h1, .inl ⟨rfl, _, .inl (.inl hl0)⟩, ?_⟩
          refine h.run R e1 _ fun y H1 Φ1 R1 oy => ?_
          obtain ⟨v, h1', h2⟩ := R1.val i _ (eVar_some e2)
          rw [h1] at h1'
          cases h1'
          obtain ⟨k', l', vs, fp, ek, el, efp, hl, lo⟩ := h2.lst_inv (by rw [hm]; decide)
          cases el
          rw [hm] at ek
          cases ek
          have fp0 := lo.fp0 rfl
          subst fp0
          refine ⟨l, vs, y, rfl, rfl, hl, by rw [lo.len]; exact hz, ?_⟩
          have st : ∀ a o, H1 a = some o → a ≠ l → upd H1 l (.lst (vs ++ [y])) a = some o := fun a o e n => by rw [upd_ne n]; exact e
          have lΦ : l ∈ Φ1 i := by rw [efp]; exact List.mem_cons_self
          have tup1 : ∀ a o, H1 a = some o → ¬ notTup o → a ≠ l := fun a o e t z => by subst z; rw [hl] at e; cases e; exact t trivial
          refine q _ _ _ (R1.mut (i := i) (v := .ref l) (Ψ := [l]) h1 (by rw [hm]; decide) (fun a o e n => st a o e fun z => n (by rw [z]; exact lΦ)) (fun a o e => by
            by_cases z : a = l
            · subst z; exact ⟨_, upd_same⟩
            · exact ⟨o, st a o e z⟩) ?_ (List.nodup_cons.mpr ⟨List.not_mem_nil, .nil⟩) (fun a m => by rw [List.mem_singleton.mp m]; exact .inl lΦ))
          rw [hm]
          have nn : ∀ a, (∀ j, a ∉ Φ1 j) → a ≠ l := fun a z z' => z i (by rw [z']; exact lΦ)
          refine .lst (fp := []) upd_same (OwnL.app (fp := []) (fq := []) ?_ ?_)
          · exact lo.move (fun a o e t => st a o e (tup1 a o e t)) (fun a o e z => ⟨st a o e (nn a z), fun m => nn a z (List.mem_singleton.mp m), fun j _ => z j⟩) fun a m => (nomatch m)
          · exact .cons (fp := []) (fps := []) (oy.move (fun a o e t => st a o e (tup1 a o e t)) (fun a o e z => ⟨st a o e (nn a z.2), fun m => nn a z.2 (List.mem_singleton.mp m), fun j _ => z.2 j⟩) fun a m => (nomatch m)) .nil
        · cases e
      · cases e
    · cases e
  · cases e
theorem s_appX (i : Nat) {x : Str} {pn pa pc ps : Pos} {F : Store → Option (D × Store)} (he : Xv X Γ e F te) (hN : X.N[i]? = some x := by rfl) (hv : Vis X.env.scope x := by first | exact Or.inl rfl | exact Or.inr (Or.inl rfl) | exact Or.inr (Or.inr rfl)) (hm : Γ.getD i 0 = 1 := by rfl)
    (hbase : attributeBase (.Name x pn) "append" X.env (eval (.Name x pn) X.env) = eval (.Name x pn) X.env := by rfl) (hline : (pa.endLine == pc.line) = true := by rfl)
    (hfew : ((backTo pc (starEach [e] X.env)).all (fun x => !x.1) && (backToKw pc (keywordEach [] X.env)).all (fun x => x.1.isSome) && decide ([e].length + ([] : List Keyword).length + (if ([] : List Keyword).isEmpty then 0 else 1) < 30)) = true := by rfl)
    (hss : starEach [e] X.env = (false, eval e X.env) :: starEach [] X.env := by rfl) (hplain : (backTo pc (starEach [] X.env)).any (·.1) = false := by rfl)
    (hs : swapsWith (.Call (.Attribute (.Name x pn) "append" pa) [e] [] pc) none ps.line X.env = pure false := by rfl) (hd : (x == ("__debug__" : Str)) = false := by decide) (hcd : (x == ("__classdict__" : Str)) = false := by decide) :
    Sv X W I r Γ Γb (.Expr (.Call (.Attribute (.Name x pn) "append" pa) [e] [] pc) ps) Γ (sAppX i F) (tDrop (tBM X.K "list" rAppend (tVar i) (tCons te tNil))) :=
  ⟨ps_expr (pe_bm PySem.F.plainAttrs_list PySem.F.slot_list_append PySem.F.type_list_append mt_append (pe_var hN hv hd hcd) (pa_cons he.pe pa_nil hss) hbase hfew hline hss hplain) hs, sd_appX hm he.sd⟩
end
end VL

/-! VL20: taking a tuple apart: in a for, in a comprehension, in an assignment. -/
namespace VL
open PySem PySem.Spec L2
open PyProof.Rows hiding St
section
variable {X : Cx} {K : PySem.W.Frag} {Γ Γ1 Γ2 : List Nat} {W : WX} {I : Nat → Nat} {r k m : Nat} {Γb Γ' : List Nat} {e a b tg : Expr} {f : Store → Option D} {te t : TE} {pos p : Pos}
theorem g_two (i j : Nat) {x y : Str} {p1 p2 : Pos} {kk : Nat} (hN : X.N.Nodup) (hc : X.calm = true := by rfl) (hi : X.N[i]? = some x := by rfl) (hj : X.N[j]? = some y := by rfl) (hx : Loc X.env.scope x := by first | exact Or.inl rfl | exact Or.inr rfl) (hy : Loc X.env.scope y := by first | exact Or.inl rfl | exact Or.inr rfl) (hG : i < Γ.length := by decide) (hG' : j < Γ.length := by decide) (hio : I i = 0 := by rfl) (hio' : I j = 0 := by rfl) (hf : X.fn x = true ∨ X.env.scope.names.lookup x = some .local := by first | exact .inl rfl | exact .inr rfl)
    (hf' : X.fn y = true ∨ X.env.scope.names.lookup y = some .local := by first | exact .inl rfl | exact .inr rfl) (hn : (assignEach [.Name x p1, .Name y p2] X.env).length = 2 := by rfl) (hst : (assignEach [.Name x p1, .Name y p2] X.env).findIdx? (·.1) = none := by rfl)
    (hs1 : (assignEach [.Name x p1, .Name y p2] X.env).map (·.2) = assign (.Name x p1) X.env :: (assignEach [.Name y p2] X.env).map (·.2) := by rfl) (hs2 : (assignEach [.Name y p2] X.env).map (·.2) = assign (.Name y p2) X.env :: (assignEach [] X.env).map (·.2) := by rfl) (hK : X.K = K := by rfl) :
    Gv X I Γ (.Tuple [.Name x p1, .Name y p2] kk pos) ((Γ.set i 0).set j 0) (gSet2 i j) [i, j] (gTup K 2 (gCons (gName i) (gCons (gName j) gNil))) := by
  subst hK
  exact gv_two hc hN hi hj hx hy hG hG' hio hio' hf hf' hn hst hs1 hs2
/-- a, b, c = an item -/
def gSet3 (i j l : Nat) : D → Store → Option Store := fun d ρ => match d with
  | .tup [x, y, z] => some (((ρ.set i (some x)).set j (some y)).set l (some z))
  | _ => none
theorem set_sh {E : Entry} {ρ : Store} {σ : St} {H : Hp} {Φ : Nat → List Addr} (R : StR K E Γ ρ σ H Φ) {i : Nat} {d : D} {v : V} (o : Own K H (fun a => ∀ j, a ∉ Φ j) 0 d v []) (hG : i < Γ.length) (hi : E.io i = 0) : StR K E (Γ.set i 0) (ρ.set i (some d)) (σ.set i (some v)) H (fun j => if j = i then [] else Φ j) :=
  R.set (Ψ := []) ⟨.rfl' _, fun a m => (nomatch m), .nil, o.move (fun a o e _ => e) (fun a o e z => ⟨e, List.not_mem_nil, fun j _ => z j⟩) fun a m => (nomatch m)⟩ hG hi
theorem own_less {H : Hp} {Φ : Nat → List Addr} {i : Nat} {d : D} {v : V} (o : Own K H (fun a => ∀ j, a ∉ Φ j) 0 d v []) : Own K H (fun a => ∀ j, a ∉ (if j = i then [] else Φ j)) 0 d v [] :=
  o.move (fun a o e _ => e) (fun a o e z => ⟨e, fun j m => by
    split at m
    · cases m
    · exact z j m⟩) fun a m => (nomatch m)
theorem sdg_three {i j l : Nat} (hG : i < Γ.length) (hG' : j < Γ.length) (hG2 : l < Γ.length) (hi : I i = 0) (hj : I j = 0) (hl : I l = 0) : SdG K I Γ (gTup K 3 (gCons (gName i) (gCons (gName j) (gCons (gName l) gNil)))) (((Γ.set i 0).set j 0).set l 0) (gSet3 i j l) [i, j, l] := by
  refine ⟨fun {E ρ σ H Φ} hI R d v o ρ' e Q q => ?_⟩
  unfold gSet3 at e
  split at e
  · rename_i x y z
    cases e
    obtain ⟨a, vs, rfl, hs, hl'⟩ := o.tup_inv
    obtain ⟨v1, vs1, rfl, h1, hl'⟩ := hl'.cons_inv0
    obtain ⟨v2, vs2, rfl, h2, hl'⟩ := hl'.cons_inv0
    obtain ⟨v3, vs3, rfl, h3, hl'⟩ := hl'.cons_inv0
    obtain rfl := hl'.nil_inv
    refine ⟨a, [v1, v2, v3], rfl, hs, rfl, v1, [v2, v3], rfl, v2, [v3], rfl, v3, [], rfl, rfl, ?_⟩
    have R1 := set_sh R h1 hG (by rw [hI]; exact hi)
    have R2 := set_sh R1 (own_less h2) (by rw [List.length_set]; exact hG') (by rw [hI]; exact hj)
    have R3 := set_sh R2 (own_less (own_less h3)) (by rw [List.length_set, List.length_set]; exact hG2) (by rw [hI]; exact hl)
    refine q _ _ R3 ⟨fun k n => ?_, by rw [List.length_set, List.length_set, List.length_set]⟩ fun k n => ?_
    · have n1 : j ≠ k := fun e => n (by rw [e]; exact List.mem_cons_of_mem _ List.mem_cons_self)
      have n2 : i ≠ k := fun e => n (by rw [e]; exact List.mem_cons_self)
      have n3 : l ≠ k := fun e => n (by rw [e]; exact List.mem_cons_of_mem _ (List.mem_cons_of_mem _ (List.mem_singleton.mpr rfl)))
      rw [List.getElem?_set_ne n3, List.getElem?_set_ne n1, List.getElem?_set_ne n2]
    · have n1 : k ≠ j := fun e => n (by rw [e]; exact List.mem_cons_of_mem _ List.mem_cons_self)
      have n2 : k ≠ i := fun e => n (by rw [e]; exact List.mem_cons_self)
      have n3 : k ≠ l := fun e => n (by rw [e]; exact List.mem_cons_of_mem _ (List.mem_cons_of_mem _ (List.mem_singleton.mpr rfl)))
      show (if k = l then [] else if k = j then [] else if k = i then [] else Φ k) = Φ k
      rw [if_neg n3, if_neg n1, if_neg n2]
  · cases e
theorem g_three (i j l : Nat) {x y z : Str} {p1 p2 p3 : Pos} {kk : Nat} (hN : X.N.Nodup) (hc : X.calm = true := by rfl) (hi : X.N[i]? = some x := by rfl) (hj : X.N[j]? = some y := by rfl) (hl : X.N[l]? = some z := by rfl) (hx : Loc X.env.scope x := by first | exact Or.inl rfl | exact Or.inr rfl) (hy : Loc X.env.scope y := by first | exact Or.inl rfl | exact Or.inr rfl) (hz : Loc X.env.scope z := by first | exact Or.inl rfl | exact Or.inr rfl)
    (hG : i < Γ.length := by decide) (hG' : j < Γ.length := by decide) (hG2 : l < Γ.length := by decide) (hio : I i = 0 := by rfl) (hio' : I j = 0 := by rfl) (hio2 : I l = 0 := by rfl) (hf : X.fn x = true ∨ X.env.scope.names.lookup x = some .local := by first | exact .inl rfl | exact .inr rfl)
    (hf' : X.fn y = true ∨ X.env.scope.names.lookup y = some .local := by first | exact .inl rfl | exact .inr rfl) (hf2 : X.fn z = true ∨ X.env.scope.names.lookup z = some .local := by first | exact .inl rfl | exact .inr rfl) (hn : (assignEach [.Name x p1, .Name y p2, .Name z p3] X.env).length = 3 := by rfl) (hst : (assignEach [.Name x p1, .Name y p2, .Name z p3] X.env).findIdx? (·.1) = none := by rfl)
    (hs1 : (assignEach [.Name x p1, .Name y p2, .Name z p3] X.env).map (·.2) = assign (.Name x p1) X.env :: (assignEach [.Name y p2, .Name z p3] X.env).map (·.2) := by rfl) (hs2 : (assignEach [.Name y p2, .Name z p3] X.env).map (·.2) = assign (.Name y p2) X.env :: (assignEach [.Name z p3] X.env).map (·.2) := by rfl) (hs3 : (assignEach [.Name z p3] X.env).map (·.2) = assign (.Name z p3) X.env :: (assignEach [] X.env).map (·.2) := by rfl) (hK : X.K = K := by rfl) :
    Gv X I Γ (.Tuple [.Name x p1, .Name y p2, .Name z p3] kk pos) (((Γ.set i 0).set j 0).set l 0) (gSet3 i j l) [i, j, l] (gTup K 3 (gCons (gName i) (gCons (gName j) (gCons (gName l) gNil)))) := by
  subst hK
  exact ⟨pg_tup hc (pgs_cons (pg_name hN hi hx hf) (pgs_cons (pg_name hN hj hy hf') (pgs_cons (pg_name hN hl hz hf2) pgs_nil hs3) hs2) hs1) hn hst, sdg_three hG hG' hG2 hio hio' hio2⟩
/-- a, b = e -/
def sUnp (f : Store → Option D) (g : D → Store → Option Store) : Store → Option O := fun ρ => match f ρ with
  | some d => (match g d ρ with
    | some ρ' => some (.nx ρ')
    | none => none)
  | none => none
theorem sd_unp {g : TG} {gf : D → Store → Option Store} {is : List Nat} (h : SdE K Γ te m [] f) (hg : SdG K I Γ g Γ' gf is) : SdS K W I r Γ Γb Γ' (tAsg te g) (sUnp f gf) := by
  refine ⟨fun {E ρ σ H Φ} hI R o e D q => ?_⟩
  unfold sUnp at e
  split at e
  · rename_i d e1
    split at e
    · rename_i ρ' e2
      cases e
      refine h.sh R e1 _ fun v H1 x o => ?_
      exact hg.run hI (R.ext x) (own_live o) e2 _ fun σ' Φ' R' _ _ => q _ _ _ R'
    · cases e
  · cases e
theorem s_unp {g : TG} {gf : D → Store → Option Store} {is : List Nat} (he : Ev X Γ e m [] f te) (hg : Gv X I Γ tg Γ' gf is g) (hs : swapsWithSole [tg] e pos.line X.env = pure false := by rfl) (hw : swappedStores [tg] e X.env = pure none := by rfl)
    (h1 : (assignEach [tg] X.env).map (·.2) = [assign tg X.env] := by rfl) : Sv X W I r Γ Γb (.Assign [tg] e pos) Γ' (sUnp f gf) (tAsg te g) := ⟨ps_asg he.pe hg.pg hs hw h1, sd_unp he.sd hg.sd⟩
/-! ### x.index(y): a list of flat items -/
def gIdx : D → D → Option D
  | .lst ds, y => if y.fl = true ∧ ds.all D.fl = true then (match ds.findIdx? fun z => eqV z.toV y.toV with | some j => some (.int j) | none => none) else none
  | _, _ => none
end
end VL

/-! VL21: x[i] = e, x a slot's own list. -/
namespace VL
open PySem PySem.Spec L2
open PyProof.Rows hiding St
section
variable {X : Cx} {K : PySem.W.Frag} {Γ : List Nat} {W : WX} {I : Nat → Nat} {r k m m1 m2 : Nat} {Γb Γ' : List Nat} {e a b ei : Expr} {f fi : Store → Option D} {te ti : TE} {pos p : Pos}
theorem OwnL.setAt0 {H : Hp} {N : Addr → Prop} {d : D} {v : V} (o : Own K H N 0 d v []) : ∀ {ds : List D} {vs : List V} {fp : List Addr}, OwnL K H N 0 ds vs fp → ∀ j, OwnL K H N 0 (ds.set j d) (vs.set j v) []
  | _, _, _, .nil, _ => .nil
  | _, _, _, .cons h l, 0 => by
    have := l.fp0 rfl
    subst this
    exact .cons (fp := []) (fps := []) o l
  | _, _, _, .cons h l, j + 1 => by
    have h0 := h.fp0 rfl
    subst h0
    exact .cons (fp := []) (fps := []) h (OwnL.setAt0 o l j)
def sSetI (i : Nat) (f fi : Store → Option D) : Store → Option O := fun ρ => match f ρ with
  | some d => (match eVar i ρ with
    | some (.lst ds) => (match fi ρ with
      | some (.int z) => (match ixN ds.length z with
        | some j => some (.nx (ρ.set i (some (.lst (ds.set j d)))))
        | none => none)
      | _ => none)
    | _ => none)
  | none => none
theorem sd_setI {i : Nat} (hm : Γ.getD i 0 = 1) (h : SdE K Γ te m1 [] f) (hi : SdE K Γ ti m2 [] fi) : SdS K W I r Γ Γb Γ (tAsg te (L2.gSub (tVar i) ti rSetL)) (sSetI i f fi) := by
  refine ⟨fun {E ρ σ H Φ} hI R o e D q => ?_⟩
  unfold sSetI at e
  split at e
  · rename_i d e1
    split at e
    · rename_i ds e0
      split at e
      · rename_i z e2
        split at e
        · rename_i j ej
          cases e
          refine h.sh R e1 _ fun v H1 x ov => ?_
          have R1 := R.ext x
          obtain ⟨w, h1, h2⟩ := R1.val i _ (eVar_some e0)
          obtain ⟨_, l, vs0, _, _, rfl, _, hl0, _⟩ := h2.lst_inv (by rw [hm]; decide)
          refine ⟨_, h1, ?_⟩
          refine hi.sh R1 e2 _ fun y H2 x2 oy => ?_
          cases oy
          have R2 := R1.ext x2
          obtain ⟨w, h1', h2⟩ := R2.val i _ (eVar_some e0)
          rw [h1] at h1'
          cases h1'
          obtain ⟨k', l', vs, fp, ek, el, efp, hl, lo⟩ := h2.lst_inv (by rw [hm]; decide)
          cases el
          rw [hm] at ek
          cases ek
          have fp0 := lo.fp0 rfl
          subst fp0
          refine ⟨l, vs, z, j, rfl, rfl, hl, by rw [lo.len]; exact ej, ?_⟩
          have st : ∀ a o, H2 a = some o → a ≠ l → upd H2 l (.lst (vs.set j v)) a = some o := fun a o e n => by rw [upd_ne n]; exact e
          have lΦ : l ∈ Φ i := by rw [efp]; exact List.mem_cons_self
          have tup1 : ∀ a o, H2 a = some o → ¬ notTup o → a ≠ l := fun a o e t z => by subst z; rw [hl] at e; cases e; exact t trivial
          have ov2 : Own K H2 (fun a => ∀ j, a ∉ Φ j) 0 d v [] := ov.move (fun a o e _ => x2 a o e) (fun a o e z => ⟨x2 a o e, fun j => z.2 j List.not_mem_nil⟩) fun a m => (nomatch m)
          have nn : ∀ a, (∀ j, a ∉ Φ j) → a ≠ l := fun a z z' => z i (by rw [z']; exact lΦ)
          refine q _ _ _ (R2.mut (i := i) (v := .ref l) (Ψ := [l]) h1 (by rw [hm]; decide) (fun a o e n => st a o e fun z => n (by rw [z]; exact lΦ)) (fun a o e => by
            by_cases z : a = l
            · subst z; exact ⟨_, upd_same⟩
            · exact ⟨o, st a o e z⟩) ?_ (List.nodup_cons.mpr ⟨List.not_mem_nil, .nil⟩) (fun a m => by rw [List.mem_singleton.mp m]; exact .inl lΦ))
          rw [hm]
          exact .lst (fp := []) upd_same ((OwnL.setAt0 ov2 lo j).move (fun a o e t => st a o e (tup1 a o e t)) (fun a o e z => ⟨st a o e (nn a z), fun m => nn a z (List.mem_singleton.mp m), fun j _ => z j⟩) fun a m => (nomatch m))
        · cases e
      · cases e
    · cases e
  · cases e
theorem s_seti (i : Nat) {x : Str} {pn pt : Pos} (he : Ev X Γ e m1 [] f te) (hi : Ev X Γ ei m2 [] fi ti) (hN : X.N[i]? = some x := by rfl) (hv : Vis X.env.scope x := by first | exact Or.inl rfl | exact Or.inr (Or.inl rfl) | exact Or.inr (Or.inr rfl)) (hm : Γ.getD i 0 = 1 := by rfl)
    (ha : ∀ v, assign (.Subscript (.Name x pn) ei pt) X.env v = (do
      let ov ← holding [v] (eval (.Name x pn) X.env)
      let iv ← holding [v, ov] (eval ei X.env)
      standAt pt
      holding [v, ov, iv] (setItem ov iv v)
      release [v, ov, iv] []) := by intro _; rfl)
    (hs : swapsWithSole [.Subscript (.Name x pn) ei pt] e pos.line X.env = pure false := by rfl) (hw : swappedStores [.Subscript (.Name x pn) ei pt] e X.env = pure none := by rfl) (h1 : (assignEach [.Subscript (.Name x pn) ei pt] X.env).map (·.2) = [assign (.Subscript (.Name x pn) ei pt) X.env] := by rfl)
    (hd : (x == ("__debug__" : Str)) = false := by decide) (hcd : (x == ("__classdict__" : Str)) = false := by decide) :
    Sv X W I r Γ Γb (.Assign [.Subscript (.Name x pn) ei pt] e pos) Γ (sSetI i f fi) (tAsg te (L2.gSub (tVar i) ti rSetL)) :=
  ⟨ps_asg he.pe (pg_sub (pe_var hN hv hd hcd) hi.pe set_list ha) hs hw h1, sd_setI hm he.sd hi.sd⟩
theorem setI_ok {ρ : Store} {i j : Nat} {z : Int} {d : D} {ds : List D} {ρ' : Store} (h1 : f ρ = some d) (h2 : eVar i ρ = some (.lst ds)) (h3 : fi ρ = some (.int z)) (h4 : z = j ∧ j < ds.length := by exact ⟨rfl, by omega⟩) (h5 : ρ.set i (some (.lst (ds.set j d))) = ρ') : sSetI i f fi ρ = some (.nx ρ') := by
  unfold sSetI
  obtain ⟨rfl, h4⟩ := h4
  simp only [h1, h2, h3]
  have : ixN ds.length (j : Int) = some j := by
    unfold ixN
    rw [if_pos (Int.natCast_nonneg _), if_pos (by omega), Int.toNat_natCast]
  simp only [this, h5]
end
end VL

/-! VL22: tests by their parts; more plain steps. -/
namespace VL
open PySem
section
variable {p q : Store → Option Bool} {ρ : Store} {a b : Bool} {F G : Store → Option O}
theorem bAnd_ok (h1 : p ρ = some a) (h2 : a = true → q ρ = some b) : bAnd p q ρ = some (a && b) := by
  rw [s_bAnd, h1]
  cases a
  · rfl
  · exact h2 rfl
theorem bOr_ok (h1 : p ρ = some a) (h2 : a = false → q ρ = some b) : bOr p q ρ = some (a || b) := by
  rw [s_bOr, h1]
  cases a
  · exact h2 rfl
  · rfl
theorem bNot_ok (h1 : p ρ = some a) : bNot p ρ = some (!a) := by
  rw [s_bNot, h1]
theorem r1_nat {fa : Store → Option (List D)} {n : Nat} (h : fa ρ = some [.int n]) (hn : n < 1000000000) : iR1 fa ρ = some (ups 0 n) := by
  have := r1_ok h (by omega) (by omega)
  rwa [Int.toNat_natCast] at this
@[simp] theorem t_ii {i : Int} : isT "int" (.int i) = some true := id rfl
@[simp] theorem t_bi {i : Int} : isT "bool" (.int i) = some false := id rfl
@[simp] theorem t_ib {b : Bool} : isT "int" (.bl b) = some true := id rfl
@[simp] theorem t_bb {b : Bool} : isT "bool" (.bl b) = some true := id rfl
@[simp] theorem t_tt {ds : List D} : isT "tuple" (.tup ds) = some true := id rfl
@[simp] theorem t_ll {ds : List D} : isT "list" (.lst ds) = some true := id rfl
@[simp] theorem t_ss {x : Str} : isT "str" (.str x) = some true := id rfl
theorem ups0 {n : Nat} : ups 0 n = (List.range n).map fun i : Nat => D.int (i : Int) := by
  unfold ups
  exact List.map_congr_left fun i _ => by rw [Int.zero_add]
section
variable {g : D → Store → Option Store} {n : Nat}
/-- for i in range(n) -/
theorem forD_rng (P : Nat → Store → Prop) (st : ∀ (j : Nat), j < n → ∀ (ρ : Store), P j ρ → ∃ ρ1 ρ2, g (.int j) ρ = some ρ1 ∧ (F ρ1 = some (.nx ρ2) ∨ F ρ1 = some (.ct ρ2)) ∧ P (j + 1) ρ2) {ρ : Store} (p : P 0 ρ) : ∃ ρ', forD g F (ups 0 n) ρ = some (.nx ρ') ∧ P n ρ' :=
  forD_ups P (fun j h ρ p => by rw [Int.zero_add]; exact st j h ρ p) p
variable {vs : List Nat} {it : Store → Option (List D)} {f : Store → Option D} {γ : Nat → Store}
theorem lcI_rng {q : Nat → Bool} {h : Nat → Int} (hi : it ρ = some (ups 0 n)) (hl : n < 16777216) (st : ∀ i : Nat, i < n → g (.int i) (wipeD ρ vs) = some (γ i) ∧ p (γ i) = some (q i) ∧ (q i = true → f (γ i) = some (.int (h i)))) : eLc vs it g p f ρ = some (.lst ((((List.range n).filter q).map h).map .int)) :=
  lcI_ups hi hl fun i h => by rw [Int.zero_add]; exact st i h
theorem lcI_rngA {h : Nat → Int} (hi : it ρ = some (ups 0 n)) (hl : n < 16777216) (st : ∀ i : Nat, i < n → g (.int i) (wipeD ρ vs) = some (γ i) ∧ p (γ i) = some true ∧ f (γ i) = some (.int (h i))) : eLc vs it g p f ρ = some (.lst (((List.range n).map h).map .int)) :=
  lcI_upsA hi hl fun i h => by rw [Int.zero_add]; exact st i h
theorem lcA_rng {h : Nat → D} (hi : it ρ = some (ups 0 n)) (hl : n < 16777216) (st : ∀ i : Nat, i < n → g (.int i) (wipeD ρ vs) = some (γ i) ∧ p (γ i) = some true ∧ f (γ i) = some (h i)) : eLc vs it g p f ρ = some (.lst ((List.range n).map h)) :=
  lcA_ups hi hl fun i h => by rw [Int.zero_add]; exact st i h
/-- any items, some of them left out -/
theorem lcA_map {α : Type} {k : α → D} {xs : List α} {γ : α → Store} {q : α → Bool} {h : α → D} (hi : it ρ = some (xs.map k)) (hl : xs.length < 16777216) (st : ∀ x ∈ xs, g (k x) (wipeD ρ vs) = some (γ x) ∧ p (γ x) = some (q x) ∧ (q x = true → f (γ x) = some (h x))) : eLc vs it g p f ρ = some (.lst ((xs.filter q).map h)) :=
  eLc_ok hi (by rw [List.length_map]; exact hl) (lc_map st)
theorem lcA_rngF {q : Nat → Bool} {h : Nat → D} (hi : it ρ = some (ups 0 n)) (hl : n < 16777216) (st : ∀ i : Nat, i < n → g (.int i) (wipeD ρ vs) = some (γ i) ∧ p (γ i) = some (q i) ∧ (q i = true → f (γ i) = some (h i))) : eLc vs it g p f ρ = some (.lst (((List.range n).filter q).map h)) :=
  lcA_map (k := fun i : Nat => D.int (i : Int)) (hi.trans (by rw [ups0])) (by rw [List.length_range]; exact hl) fun x m => st x (List.mem_range.mp m)
end
section
variable {f : Store → Option D} {fa : Store → Option (List D)} {d : D} {ds : List D} {n : Nat} {h : List D → Option D}
theorem clr_ok (e : f ρ = some d) (i : d.immB n = true) : eClr n f ρ = some d := by
  unfold eClr
  rw [e]
  exact if_pos i
theorem call_ok (e : fa ρ = some ds) (e' : h ds = some d) : eCall h fa ρ = some d := by rw [s_eCall, e]; exact e'
theorem callF_ok (e : fa ρ = some ds) (hn : ds.length = n) (e' : h ds = some d) : eCall (callF n [] h) fa ρ = some d := by
  rw [s_eCall, e]
  show callF n [] h ds = some d
  rw [s_callF, List.append_nil, if_pos hn]
  exact e'
theorem len_ok (e : f ρ = some (.lst ds)) (hn : ds.length = n) : eCall gLen (aCons f aNil) ρ = some (.int n) := by
  rw [s_eCall, s_aCons, e, ← hn]; rfl
theorem sum_ok {xs : List Int} (e : f ρ = some (.lst (xs.map .int))) : eCall gSum (aCons f aNil) ρ = some (.int xs.sum) := by
  rw [s_eCall, s_aCons, e]; exact s_sum
theorem tuple_ok (e : f ρ = some (.lst ds)) : eCall gTuple (aCons f aNil) ρ = some (.tup ds) := by
  rw [s_eCall, s_aCons, e]; rfl
end
theorem dec_iff {P Q : Prop} [Decidable P] [Decidable Q] (h : P ↔ Q) : some (decide P) = some (decide Q) := by rw [decide_eq_decide.mpr h]
end
end VL

/-! VL23: x = y for a slot's own; x = x + e of a slot's own; what is never reached; sum and max of tuples; sorted of ints; x.index(y) of lists. -/
namespace VL
open PySem PySem.Spec L2
open PyProof.Rows hiding St
section
variable {K : PySem.W.Frag} {E : Entry} {Γ : List Nat} {ρ : Store} {σ : St} {H H2 : Hp} {Φ : Nat → List Addr}
/-- a slot is given what it owned in part, and what is new -/
theorem StR.put {i m : Nat} {d : D} {v : V} {Ψ : List Addr} (R : StR K E Γ ρ σ H Φ) (x : Ext H H2) (own : Own K H2 (fun a => a ∉ Ψ ∧ ∀ j, j ≠ i → a ∉ Φ j) m d v Ψ) (nd : Ψ.Nodup) (src : ∀ a ∈ Ψ, a ∈ Φ i ∨ H a = none) (hG : i < Γ.length) (hi : E.io i = 0) :
    StR K E (Γ.set i m) (ρ.set i (some d)) (σ.set i (some v)) H2 (fun j => if j = i then Ψ else Φ j) := by
  have R' := R.ext x
  have gne : ∀ j, j ≠ i → (Γ.set i m).getD j 0 = Γ.getD j 0 := fun j n => by
    rw [List.getD_eq_getElem?_getD, List.getD_eq_getElem?_getD, List.getElem?_set_ne (Ne.symm n)]
  have geq : (Γ.set i m).getD i 0 = m := by
    rw [List.getD_eq_getElem?_getD, List.getElem?_set_self hG]; rfl
  have nΨ : ∀ j, j ≠ i → ∀ a, a ∈ Φ j → a ∉ Ψ := fun j n a m m' => by
    rcases src a m' with z | z
    · exact n (R.dj j i a m z)
    · exact R.notIn z j m
  have up : ∀ a o, H a = some o → (∀ j, a ∉ Φ j) → ∀ k, a ∉ (if k = i then Ψ else Φ k) := fun a o e z k => by
    split
    · intro m'
      rcases src a m' with q | q
      · exact z i q
      · rw [e] at q; cases q
    · exact z k
  refine ⟨by rw [List.length_set, List.length_set]; exact R.len, by rw [List.length_set, List.length_set]; exact R.gl, fun j d' e => ?_, fun j lj e => ?_, fun j => ?_, fun j k a h1 h2 => ?_, fun j a h => ?_, fun j a h => ?_, R'.kp, R'.dm, fun j n => ?_, fun p m => (R.gh p m).move (fun a o e _ => x a o e) (fun a o e z => ⟨x a o e, up a o e z⟩) fun a m => (nomatch m)⟩
  · by_cases hj : j = i
    · subst hj
      by_cases hl : j < ρ.length
      · rw [List.getElem?_set_self hl] at e
        cases e
        refine ⟨v, List.getElem?_set_self (by rw [R.len]; exact hl), ?_⟩
        rw [geq, if_pos rfl]
        refine own.move (fun a o e _ => e) (fun a o e z => ⟨e, fun k => ?_⟩) fun a _ o e => e
        split
        · exact z.1
        · rename_i nk; exact z.2 k nk
      · rw [List.getElem?_eq_none (by rw [List.length_set]; omega)] at e; cases e
    · rw [List.getElem?_set_ne (Ne.symm hj)] at e
      obtain ⟨v', h1, h2⟩ := R.val j d' e
      refine ⟨v', by rw [List.getElem?_set_ne (Ne.symm hj)]; exact h1, ?_⟩
      rw [gne j hj, if_neg hj]
      exact h2.move (fun a o e _ => x a o e) (fun a o e z => ⟨x a o e, up a o e z⟩) fun a _ o e => x a o e
  · show (if j = i then Ψ else Φ j) = []
    by_cases hj : j = i
    · subst hj
      rw [geq] at e
      subst e
      rw [if_pos rfl]
      exact own.fp0 rfl
    · rw [gne j hj] at e
      rw [if_neg hj]
      exact R.em j (by rw [List.length_set] at lj; exact lj) e
  · show (if j = i then Ψ else Φ j).Nodup
    split
    · exact nd
    · exact R.nd j
  · have h1 : a ∈ (if j = i then Ψ else Φ j) := h1
    have h2 : a ∈ (if k = i then Ψ else Φ k) := h2
    split at h1
    · split at h2
      · rename_i a b; rw [a, b]
      · rename_i nk; exact absurd h1 (nΨ k nk a h2)
    · split at h2
      · rename_i nj _; exact absurd h2 (nΨ j nj a h1)
      · exact R.dj j k a h1 h2
  · have h : a ∈ (if j = i then Ψ else Φ j) := h
    split at h
    · exact own.live a h
    · exact R'.lv j a h
  · have h : a ∈ (if j = i then Ψ else Φ j) := h
    split at h
    · rcases src a h with z | z
      · rename_i ej; rw [ej]; exact R.nw i a z
      · exact .inl (R.fresh z)
    · exact R.nw j a h
  · by_cases hj : j = i
    · subst hj; exact absurd hi n
    · rw [List.getElem?_set_ne (Ne.symm hj)]
      exact R.iv j n
/-- what slot j holds goes to slot i; j is given up -/
theorem StR.give {i j : Nat} {d : D} {v : V} (R : StR K E Γ ρ σ H Φ) (hij : i ≠ j) (hd : ρ[j]? = some (some d)) (hv : σ[j]? = some (some v)) (o : Own K H (fun a => ∀ k, a ∉ Φ k) (Γ.getD j 0) d v (Φ j)) (hG : i < Γ.length) (hGj : j < Γ.length) (hi : E.io i = 0) (hj : E.io j = 0) :
    StR K E ((Γ.set i (Γ.getD j 0)).set j 0) ((ρ.set i (some d)).set j none) (σ.set i (some v)) H (fun k => if k = i then Φ j else if k = j then [] else Φ k) := by
  have up : ∀ a, (∀ k, a ∉ Φ k) → ∀ k, a ∉ (if k = i then Φ j else if k = j then [] else Φ k) := fun a z k => by
    split
    · exact z j
    · split
      · exact List.not_mem_nil
      · exact z k
  have sub : ∀ k a, a ∈ (if k = i then Φ j else if k = j then [] else Φ k) → (k = i ∧ a ∈ Φ j) ∨ (k ≠ i ∧ k ≠ j ∧ a ∈ Φ k) := fun k a m => by
    split at m
    · rename_i e; exact .inl ⟨e, m⟩
    · split at m
      · cases m
      · rename_i n1 n2; exact .inr ⟨n1, n2, m⟩
  have g : ∀ k, ((Γ.set i (Γ.getD j 0)).set j 0).getD k 0 = if k = j then 0 else if k = i then Γ.getD j 0 else Γ.getD k 0 := fun k => by
    rw [List.getD_eq_getElem?_getD]
    by_cases e : k = j
    · subst e
      rw [List.getElem?_set_self (by rw [List.length_set]; exact hGj), if_pos rfl]; rfl
    · rw [if_neg e, List.getElem?_set_ne (Ne.symm e)]
      by_cases e2 : k = i
      · subst e2
        rw [List.getElem?_set_self hG, if_pos rfl]; rfl
      · rw [if_neg e2, List.getElem?_set_ne (Ne.symm e2), List.getD_eq_getElem?_getD]
  refine ⟨by rw [List.length_set, List.length_set, List.length_set]; exact R.len, by rw [List.length_set, List.length_set, List.length_set, List.length_set]; exact R.gl, fun k d' e => ?_, fun k lk e => ?_, fun k => ?_, fun k l a h1 h2 => ?_, fun k a h => ?_, fun k a h => ?_, R.kp, R.dm, fun k n => ?_, fun p m => (R.gh p m).move (fun a o e _ => e) (fun a o e z => ⟨e, up a z⟩) fun a m => (nomatch m)⟩
  · by_cases ej : k = j
    · subst ej
      by_cases hl : k < ρ.length
      · rw [List.getElem?_set_self (by rw [List.length_set]; exact hl)] at e; cases e
      · rw [List.getElem?_eq_none (by rw [List.length_set, List.length_set]; omega)] at e; cases e
    · rw [List.getElem?_set_ne (Ne.symm ej)] at e
      by_cases ei : k = i
      · subst ei
        by_cases hl : k < ρ.length
        · rw [List.getElem?_set_self hl] at e
          cases e
          refine ⟨v, List.getElem?_set_self (by rw [R.len]; exact hl), ?_⟩
          rw [g, if_neg ej, if_pos rfl, if_pos rfl]
          exact o.move (fun a o e _ => e) (fun a o e z => ⟨e, up a z⟩) fun a _ o e => e
        · rw [List.getElem?_eq_none (by rw [List.length_set]; omega)] at e; cases e
      · rw [List.getElem?_set_ne (Ne.symm ei)] at e
        obtain ⟨v', h1, h2⟩ := R.val k d' e
        refine ⟨v', by rw [List.getElem?_set_ne (Ne.symm ei)]; exact h1, ?_⟩
        rw [g, if_neg ej, if_neg ei, if_neg ei, if_neg ej]
        exact h2.move (fun a o e _ => e) (fun a o e z => ⟨e, up a z⟩) fun a _ o e => e
  · rw [List.length_set, List.length_set] at lk
    rw [g] at e
    show (if k = i then Φ j else if k = j then [] else Φ k) = []
    by_cases ei : k = i
    · subst ei
      rw [if_pos rfl]
      rw [if_neg hij, if_pos rfl] at e
      exact R.em j (lt_of_some hd) e
    · rw [if_neg ei]
      by_cases ej : k = j
      · rw [if_pos ej]
      · rw [if_neg ej]
        rw [if_neg ej, if_neg ei] at e
        exact R.em k lk e
  · show (if k = i then Φ j else if k = j then [] else Φ k).Nodup
    split
    · exact R.nd j
    · split
      · exact .nil
      · exact R.nd k
  · rcases sub k a h1 with ⟨e1, h1⟩ | ⟨n1, n2, h1⟩
    · rcases sub l a h2 with ⟨e2, h2⟩ | ⟨n3, n4, h2⟩
      · rw [e1, e2]
      · exact absurd (R.dj l j a h2 h1) n4
    · rcases sub l a h2 with ⟨e2, h2⟩ | ⟨n3, n4, h2⟩
      · exact absurd (R.dj k j a h1 h2) n2
      · exact R.dj k l a h1 h2
  · rcases sub k a h with ⟨_, h⟩ | ⟨_, _, h⟩
    · exact R.lv j a h
    · exact R.lv k a h
  · rcases sub k a h with ⟨_, h⟩ | ⟨_, _, h⟩
    · rcases R.nw j a h with z | ⟨z, _⟩
      · exact .inl z
      · exact absurd hj z
    · exact R.nw k a h
  · have : k ≠ i := fun e => by subst e; exact n hi
    rw [List.getElem?_set_ne (Ne.symm this)]
    exact R.iv k n
end
section
variable {X : Cx} {K : PySem.W.Frag} {Γ : List Nat} {W : WX} {I : Nat → Nat} {r k m m1 m2 : Nat} {Γb Γ' : List Nat} {B B1 B2 : List Nat} {e a b tg : Expr} {f f1 f2 : Store → Option D} {te t t1 t2 : TE} {pos p : Pos}
/-- x = y, y given up -/
def sGive (i j : Nat) : Store → Option O := fun ρ => match eVar j ρ with
  | some d => some (.nx ((ρ.set i (some d)).set j none))
  | none => none
theorem sd_give {i j : Nat} (hij : i ≠ j) (hG : i < Γ.length) (hGj : j < Γ.length) (hi : I i = 0) (hj : I j = 0) : SdS K W I r Γ Γb ((Γ.set i (Γ.getD j 0)).set j 0) (tAsg (tVar j) (gName i)) (sGive i j) := by
  refine ⟨fun {E ρ σ H Φ} hI R o e D q => ?_⟩
  unfold sGive at e
  split at e
  · rename_i d e1
    cases e
    obtain ⟨v, h1, h2⟩ := R.val j d (eVar_some e1)
    exact ⟨v, h1, q _ _ _ (R.give hij (eVar_some e1) h1 h2 hG hGj (by rw [hI]; exact hi) (by rw [hI]; exact hj))⟩
  · cases e
theorem s_give (i j : Nat) {x y : Str} {pos' py : Pos} (hN : X.N.Nodup) (hi : X.N[i]? = some x := by rfl) (hj : X.N[j]? = some y := by rfl) (hx : Loc X.env.scope x := by first | exact Or.inl rfl | exact Or.inr rfl) (hv : Vis X.env.scope y := by first | exact Or.inl rfl | exact Or.inr (Or.inl rfl) | exact Or.inr (Or.inr rfl)) (hij : i ≠ j := by decide) (hG : i < Γ.length := by decide) (hGj : j < Γ.length := by decide) (hio : I i = 0 := by rfl) (hjo : I j = 0 := by rfl)
    (hs : swapsWith (.Name y py) (some (.Name x pos')) pos.line X.env = pure false := by rfl) (hf : X.fn x = true ∨ X.env.scope.names.lookup x = some .local := by first | exact .inl rfl | exact .inr rfl) (hd : (y == ("__debug__" : Str)) = false := by decide) (hcd : (y == ("__classdict__" : Str)) = false := by decide) :
    Sv X W I r Γ Γb (.Assign [.Name x pos'] (.Name y py) pos) ((Γ.set i (Γ.getD j 0)).set j 0) (sGive i j) (tAsg (tVar j) (gName i)) := ⟨ps_set hN hi hx (pe_var hj hv hd hcd) hs hf, sd_give hij hG hGj hio hjo⟩
theorem give_ok {ρ : Store} {i j : Nat} {d : D} (h : eVar j ρ = some d) : sGive i j ρ = some (.nx ((ρ.set i (some d)).set j none)) := by unfold sGive; rw [h]
/-- x = x + e, x a slot's own list, whose items stay its own -/
def sCatO (i : Nat) (f : Store → Option D) : Store → Option O := fun ρ => match eVar i ρ with
  | some (.lst xs) => (match f ρ with
    | some (.lst ys) => if xs.length + ys.length ≤ sizeLine then some (.nx (ρ.set i (some (.lst (xs ++ ys))))) else none
    | _ => none)
  | _ => none
theorem sd_catO {i : Nat} (hm : Γ.getD i 0 = m + 1) (h : SdE K Γ te (m + 1) [] f) (hG : i < Γ.length) (hi : I i = 0) : SdS K W I r Γ Γb (Γ.set i (m + 1)) (tAsg (tOp (rCatS K) (tVar i) te) (gName i)) (sCatO i f) := by
  refine ⟨fun {E ρ σ H Φ} hI R o e D q => ?_⟩
  unfold sCatO at e
  split at e
  · rename_i xs e0
    split at e
    · rename_i ys e1
      split at e
      · rename_i hz
        cases e
        obtain ⟨v, h1, h2⟩ := R.val i _ (eVar_some e0)
        refine ⟨v, h1, ?_⟩
        refine h.run R _ e1 _ fun w H1 Ψ res => ?_
        have R1 := R.ext res.ext
        obtain ⟨k1, l, vs, fp, ek, rfl, efp, hl, lo⟩ := h2.lst_inv (by rw [hm]; exact Nat.succ_ne_zero _)
        rw [hm] at ek
        cases ek
        obtain ⟨k2, l2, us, fp2, ek2, rfl, efp2, hl2, lo2⟩ := res.own.lst_inv (Nat.succ_ne_zero _)
        cases ek2
        refine ⟨l, l2, vs, us, rfl, rfl, .inl (.inl (res.ext _ _ hl)), .inl (.inl hl2), by rw [lo.len, lo2.len]; exact hz, fun p hp => ?_⟩
        have x := ext_upd (o := .lst (vs ++ us)) hp
        have pΦ : ∀ j, p ∉ Φ j := fun j => R1.notIn hp j
        have pΨ : p ∉ Ψ := fun mm => by
          obtain ⟨o, e, _⟩ := res.own.live p mm
          rw [hp] at e; cases e
        have fpi : ∀ a ∈ fp, a ∈ Φ i := fun a mm => by rw [efp]; exact List.mem_cons_of_mem _ mm
        have fp2i : ∀ a ∈ fp2, a ∈ Ψ := fun a mm => by rw [efp2]; exact List.mem_cons_of_mem _ mm
        have ndi := R1.nd i
        rw [efp] at ndi
        have nd2 := res.nd
        rw [efp2] at nd2
        have dis : ∀ a ∈ fp, a ∉ fp2 := fun a m1 m2 => R.notIn (res.new a (fp2i a m2)) i (fpi a m1)
        refine q _ _ _ (R.put (i := i) (m := m + 1) (d := .lst (xs ++ ys)) (v := .ref p) (Ψ := p :: (fp ++ fp2)) (fun a o e => x a o (res.ext a o e)) ?_ ?_ ?_ hG (by rw [hI]; exact hi))
        · refine .lst upd_same (OwnL.app ?_ ?_)
          · refine lo.move (fun a o e _ => x a o (res.ext a o e)) (fun a o e z => ⟨x a o (res.ext a o e), fun mm => ?_, fun j n => z j⟩) fun a _ o e => x a o (res.ext a o e)
            rcases List.mem_cons.mp mm with z1 | mm
            · have := res.ext a o e
              rw [z1, hp] at this; cases this
            · rcases List.mem_append.mp mm with mm | mm
              · exact z i (fpi a mm)
              · rw [res.new a (fp2i a mm)] at e; cases e
          · refine lo2.move (fun a o e _ => x a o e) (fun a o e z => ⟨x a o e, fun mm => ?_, fun j n => z.2 j List.not_mem_nil⟩) fun a _ o e => x a o e
            rcases List.mem_cons.mp mm with z1 | mm
            · rw [z1, hp] at e; cases e
            · rcases List.mem_append.mp mm with mm | mm
              · exact z.2 i List.not_mem_nil (fpi a mm)
              · exact z.1 (fp2i a mm)
        · refine List.nodup_cons.mpr ⟨fun mm => ?_, List.nodup_append.mpr ⟨(List.nodup_cons.mp ndi).2, (List.nodup_cons.mp nd2).2, fun a m1 b m2 e => dis a m1 (e ▸ m2)⟩⟩
          rcases List.mem_append.mp mm with mm | mm
          · exact pΦ i (fpi p mm)
          · exact pΨ (fp2i p mm)
        · intro a mm
          rcases List.mem_cons.mp mm with z1 | mm
          · right
            cases e : H a with
            | none => rfl
            | some o => have := res.ext a o e; rw [z1, hp] at this; cases this
          · rcases List.mem_append.mp mm with mm | mm
            · exact .inl (fpi a mm)
            · exact .inr (res.new a (fp2i a mm))
      · cases e
    · cases e
  · cases e
theorem s_catO (i : Nat) {x : Str} {pos' px pb : Pos} (he : Ev X Γ e (m + 1) [] f te) (hm : Γ.getD i 0 = m + 1 := by rfl) (hN : X.N.Nodup) (hi : X.N[i]? = some x := by rfl) (hx : Loc X.env.scope x := by first | exact Or.inl rfl | exact Or.inr rfl) (hv : Vis X.env.scope x := by first | exact Or.inl rfl | exact Or.inr (Or.inl rfl) | exact Or.inr (Or.inr rfl)) (hG : i < Γ.length := by decide) (hio : I i = 0 := by rfl)
    (hs : swapsWith (.BinOp (.Name x px) .Add e pb) (some (.Name x pos')) pos.line X.env = pure false := by rfl) (hf : X.fn x = true ∨ X.env.scope.names.lookup x = some .local := by first | exact .inl rfl | exact .inr rfl) (hd : (x == ("__debug__" : Str)) = false := by decide) (hcd : (x == ("__classdict__" : Str)) = false := by decide) :
    Sv X W I r Γ Γb (.Assign [.Name x pos'] (.BinOp (.Name x px) .Add e pb) pos) (Γ.set i (m + 1)) (sCatO i f) (tAsg (tOp (rCatS X.K) (tVar i) te) (gName i)) := ⟨ps_set hN hi hx (pe_op op_catS (pe_var hi hv hd hcd) he.pe) hs hf, sd_catO hm he.sd hG hio⟩
theorem catO_ok {ρ : Store} {i : Nat} {xs ys : List D} (h : eVar i ρ = some (.lst xs)) (h2 : f ρ = some (.lst ys)) (hz : xs.length + ys.length ≤ 16777216) : sCatO i f ρ = some (.nx (ρ.set i (some (.lst (xs ++ ys))))) := by
  unfold sCatO
  simp only [h, h2]
  exact if_pos hz
/-! ### what is never reached -/
def sNever : Store → Option O := fun _ => none
theorem s_never {st : Stmt} (Γ' : List Nat) : Sv X W I r Γ Γb st Γ' sNever tNever := ⟨ps_never, ⟨fun _ _ _ e _ _ => by cases e⟩⟩
/-! ### sum, max of a tuple -/
section
variable {prog : Program} {w : World} {A : Around} {E : Value → Shared → Prop} {s : Shared} {l : Addr} {xs : Array (Int × Tok)}
theorem iter_intTup {Q : Value → Shared → Prop} (hl : s.heap.IsTuple l (intItems xs))
    (h : ∀ s₂ : Shared, s₂ = { s with heap := s.heap.push { cls := .type "tuple_iterator", data := .fields #[.ref l, .int 0 0] } } →
      (s₂.heap.IsTupleIter s.heap.objs.size l 0 ∧ s₂.heap.IsTuple l (intItems xs)) → (∀ b ∈ [s.heap.objs.size, l], b < s₂.heap.objs.size) → l ≠ s.heap.objs.size → Q (.ref s.heap.objs.size) s₂) :
    wpAny (model prog w) A (pyIter (.ref l)) Q E s := by
  have hlt : l < s.heap.objs.size := by obtain ⟨_, e, _⟩ := hl; exact Heap.lt_size e
  refine wpAny_pyIter_tuple hl (h _ rfl ⟨⟨_, Heap.get?_push_size _ rfl, rfl, rfl⟩, hl.push _⟩ (fun b hb => ?_) (Nat.ne_of_lt hlt))
  show b < (s.heap.push _).objs.size
  rw [Heap.size_push]
  rcases List.mem_cons.mp hb with rfl | hb
  · exact Nat.lt_succ_self _
  · rcases List.mem_cons.mp hb with rfl | hb
    · exact Nat.lt_succ_of_lt hlt
    · cases hb
theorem old_keptT {h' : Heap} (hk : ∀ b o, b ∉ [s.heap.objs.size] → (s.heap.push { cls := .type "tuple_iterator", data := .fields #[.ref l, .int 0 0] }).get? b = some o → h'.get? b = some o) :
    ∀ b o, s.heap.get? b = some o → h'.get? b = some o := fun b o e => by
  refine hk b o (fun hm => ?_) (Heap.get?_push_of_some _ e)
  rcases List.mem_cons.mp hm with e1 | hm
  · exact absurd (e1 ▸ Heap.lt_size e) (Nat.lt_irrefl _)
  · cases hm
variable {its : List Value} {ns : List Int} {Q : Value → Shared → Prop}
theorem sum_rawT (hh : A.handled = none) (hl : s.heap.IsTuple l its.toArray) (hi : IntsAre its ns)
    (h : ∀ h' tk t', (∀ b o, s.heap.get? b = some o → h'.get? b = some o) → Q (.int ns.sum t') { s with heap := h', toks := tk }) : wpAny (model prog w) A (call (.builtin "sum") [.ref l]) Q E s := by
  obtain ⟨xs, e⟩ := hi.allInts.items
  have hn : numsOf (intItems xs).toList = ns := by rw [← e]; exact hi.numsOf
  rw [nums_intItems] at hn
  rw [e] at hl
  refine call_sum_walkG (iter_intTup hl fun s₂ e st hfp hlI => ?_)
  subst e
  refine ⟨_, _, _, _, _, _, numAt xs, rfl, Walks.tuple (A := A.in1) hh _ l hlI (intItems xs), st, hfp, (fun _ _ => intItems_at), fun h' tk t' hk => ?_⟩
  have := h h' tk t' (old_keptT hk)
  have sz : (intItems xs).size = xs.size := by simp [intItems]
  rw [sz, preSum_eq, List.take_of_length_le (by simp), hn]; exact this
theorem max_rawT (hh : A.handled = none) (hl : s.heap.IsTuple l its.toArray) (hi : IntsAre its ns) (hne : 0 < ns.length)
    (h : ∀ h' tk M t', (∀ b o, s.heap.get? b = some o → h'.get? b = some o) → M ∈ ns → (∀ a, a ∈ ns → a ≤ M) → Q (.int M t') { s with heap := h', toks := tk }) : wpAny (model prog w) A (call (.builtin "max") [.ref l]) Q E s := by
  obtain ⟨xs, e⟩ := hi.allInts.items
  have hn : numsOf (intItems xs).toList = ns := by rw [← e]; exact hi.numsOf
  rw [nums_intItems] at hn
  subst hn
  rw [e] at hl
  have hsz : 0 < xs.size := by simpa using hne
  refine call_max_walk (iter_intTup hl fun s₂ e st hfp hlI => ?_)
  subst e
  refine ⟨_, _, _, _, _, _, _, rfl, Walks.tuple (A := A.in1) hh _ l hlI (intItems xs), st, hfp, by simpa [intItems] using hsz, CmpOf.ints_gt (numAt xs) (fun _ _ => intItems_at), fun v h' tk hP hk => ?_⟩
  have hv : (intItems xs)[argBest (fun i j => decide (numAt xs i > numAt xs j)) (xs.size - 1)]? = some v := by simpa [intItems] using hP
  obtain ⟨t, rfl⟩ := intItems_at hv
  obtain ⟨h1, h2⟩ := argBest_gt (numAt xs) (xs.size - 1)
  refine h h' tk _ t (old_keptT hk) ?_ fun a ha => ?_
  · rw [numAt_eq]; exact PySem.getD_mem (by rw [List.length_map, Array.length_toList]; omega)
  · obtain ⟨j, hj, rfl⟩ := mem_getD ha
    rw [List.length_map, Array.length_toList] at hj
    rw [← numAt_eq]; exact h2 j (by omega)
end
def rSumT (K : PySem.W.Frag) : List V → Hp → VK → Prop := fun vs H Q => ∃ (a : Addr) (ns : List Int), vs = [V.ref a] ∧ SqT K H a (ns.map V.int) ∧ Q (.int ns.sum) H
def rMaxT (K : PySem.W.Frag) : List V → Hp → VK → Prop := fun vs H Q => ∃ (a : Addr) (ns : List Int), vs = [V.ref a] ∧ SqT K H a (ns.map V.int) ∧ 0 < ns.length ∧ ∀ m, m ∈ ns → (∀ y, y ∈ ns → y ≤ m) → Q (.int m) H
theorem xc_sumT (hc : X.calm = true) (hK : X.K = K := by rfl) : CallR X (.builtin "sum") (rSumT K) := by
  subst hK
  intro pins s σ H vs us Q I r h
  obtain ⟨a, ns, rfl, hs, q⟩ := h
  obtain ⟨its, rv, hl, _⟩ := I.tuple hs
  rw [Vals.ref1 r]
  exact sum_rawT (I.ok.hd hc) hl rv.ints fun h' tk t' hk => ⟨.int _, H, I.kept hk, ⟨_, rfl⟩, q⟩
theorem xc_maxT (hc : X.calm = true) (hK : X.K = K := by rfl) : CallR X (.builtin "max") (rMaxT K) := by
  subst hK
  intro pins s σ H vs us Q I r h
  obtain ⟨a, ns, rfl, hs, hne, q⟩ := h
  obtain ⟨its, rv, hl, _⟩ := I.tuple hs
  rw [Vals.ref1 r]
  exact max_rawT (I.ok.hd hc) hl rv.ints hne fun h' tk m t' hk h1 h2 => ⟨.int _, H, I.kept hk, ⟨_, rfl⟩, q m h1 h2⟩
end
end VL

/-! VL24: sum, max of tuples; sorted; methods with one argument: index, split, join; bit_length. -/
namespace VL
open PySem PySem.Spec L2
open PyProof.Rows hiding St
section
variable {K : PySem.W.Frag}
def gSumT : List D → Option D
  | [.tup ds] => (match D.ints ds with | some ns => some (.int ns.sum) | none => none)
  | _ => none
theorem oa_sumT : OpA K (rSumT K) 0 gSumT := by
  refine ⟨fun {H N ds d vs} o e Q q => ?_⟩
  unfold gSumT at e
  split at e
  · rename_i ds
    split at e
    · rename_i ns e2
      cases e
      obtain ⟨v, rfl, oo⟩ := o.one
      obtain ⟨l, vs, rfl, s, lo⟩ := oo.tup_inv
      rw [lo.ints e2] at s
      exact ⟨l, ns, rfl, s, fin0 q fun _ => .int⟩
    · cases e
  · cases e
@[simp] theorem s_sumT {ns : List Int} : gSumT [.tup (ns.map .int)] = some (.int ns.sum) := by
  unfold gSumT; dsimp only; rw [ints_map]
def gMaxT : List D → Option D
  | [.tup ds] => (match D.ints ds with | some ns => if 0 < ns.length then some (.int (maxL ns)) else none | none => none)
  | _ => none
theorem oa_maxT : OpA K (rMaxT K) 0 gMaxT := by
  refine ⟨fun {H N ds d vs} o e Q q => ?_⟩
  unfold gMaxT at e
  split at e
  · rename_i ds
    split at e
    · rename_i ns e2
      split at e
      · rename_i hp
        cases e
        obtain ⟨v, rfl, oo⟩ := o.one
        obtain ⟨l, vs, rfl, s, lo⟩ := oo.tup_inv
        rw [lo.ints e2] at s
        refine ⟨l, ns, rfl, s, hp, fun m h1 h2 => ?_⟩
        have e : m = maxL ns := Int.le_antisymm (maxL_ge h1) (h2 _ (maxL_mem (pos_ne hp)))
        rw [e]
        exact fin0 q fun _ => .int
      · cases e
    · cases e
  · cases e
theorem s_maxT {ns : List Int} (h : 0 < ns.length) : gMaxT [.tup (ns.map .int)] = some (.int (maxL ns)) := by
  unfold gMaxT; dsimp only; rw [ints_map]; exact if_pos h
theorem s_maxL {ns : List Int} (h : 0 < ns.length) : gMax [.lst (ns.map .int)] = some (.int (maxL ns)) := by
  unfold gMax; dsimp only; rw [ints_map]; exact if_pos h
/-! ### sorted -/
def sortI (ns : List Int) : List Int := ns.mergeSort fun a b => decide (a ≤ b)
theorem sortI_perm (ns : List Int) : (sortI ns).Perm ns := List.mergeSort_perm ns _
theorem sortI_le (ns : List Int) : (sortI ns).Pairwise (· ≤ ·) := by
  have := List.pairwise_mergeSort (le := fun a b : Int => decide (a ≤ b)) (fun a b c h1 h2 => by
    rw [decide_eq_true_eq] at *; omega) (fun a b => by
    rw [Bool.or_eq_true, decide_eq_true_eq, decide_eq_true_eq]; omega) ns
  exact this.imp fun h => of_decide_eq_true h
theorem sortI_of {ns ms : List Int} (p : ms.Perm ns) (s : ms.Pairwise (· ≤ ·)) : ms = sortI ns :=
  List.Perm.eq_of_pairwise (le := fun a b : Int => a ≤ b) (fun a b _ _ h1 h2 => Int.le_antisymm h1 h2) s (sortI_le ns) (p.trans (sortI_perm ns).symm)
def gSorted : List D → Option D
  | [.lst ds] => (match D.ints ds with | some ns => some (.lst ((sortI ns).map .int)) | none => none)
  | _ => none
theorem oa_sorted : OpA K (rSortedI K) 1 gSorted := by
  refine ⟨fun {H N ds d vs} o e Q q => ?_⟩
  unfold gSorted at e
  split at e
  · rename_i ds
    split at e
    · rename_i ns e2
      cases e
      obtain ⟨v, rfl, oo⟩ := o.one
      obtain ⟨l, vs, rfl, s, lo⟩ := oo.lst_inv0
      rw [lo.ints e2] at s
      refine ⟨l, ns, rfl, s, fun ms p h1 h2 hp => ?_⟩
      rw [sortI_of h1 h2]
      exact fin_lst q (own_ints _) p hp
    · cases e
  · cases e
@[simp] theorem s_sorted {ns : List Int} : gSorted [.lst (ns.map .int)] = some (.lst ((sortI ns).map .int)) := by
  unfold gSorted; dsimp only; rw [ints_map]
theorem xc_sorted {X : Cx} (hK : X.K = K := by rfl) : CallR X (.builtin "sorted") (rSortedI K) := by subst hK; exact cr_sortedI
end
section
variable {X : Cx} {K : PySem.W.Frag} {Γ : List Nat} {m m1 m2 : Nat} {B B1 B2 : List Nat} {e a b o : Expr} {f f1 f2 : Store → Option D} {te t t1 t2 : TE} {pos p : Pos}
/-! ### o.m(e) of a built-in type -/
structure OpM (K : PySem.W.Frag) (T : String) (r : V → List V → Hp → VK → Prop) (m : Nat) (g : D → D → Option D) : Prop where
  ty : ∀ {H : Hp} {N : Addr → Prop} {d1 d2 d : D} {v1 : V}, Own K H N 0 d1 v1 [] → g d1 d2 = some d → tyV K T v1 H
  run : Op2 K (fun x y H Q => r x [y] H Q) m g
theorem sd_bm {T : String} {r : V → List V → Hp → VK → Prop} {g : D → D → Option D} (ho : OpM K T r m g) (h1 : SdE K Γ t1 m1 B1 f1) (h2 : SdE K Γ t2 m2 B2 f2) : SdE K Γ (tBM K T r t1 (tCons t2 tNil)) m (B1 ++ B2) (e2 g f1 f2) := by
  refine ⟨fun {E ρ σ H Φ} R d e Q q => ?_⟩
  obtain ⟨d1, d2, x1, x2, x3⟩ := e2_some e
  refine h1.share.run R _ x1 _ fun v1 H1 Ψ1 r1 => ?_
  have z1 := r1.own
  rw [z1.fp0 rfl] at z1
  refine ⟨ho.ty z1 x3, ?_⟩
  refine h2.share.run (R.ext r1.ext) _ x2 _ fun v2 H2 Ψ2 r2 => ?_
  have z2 := r2.own
  rw [z2.fp0 rfl] at z2
  have x : Ext H H2 := fun a o e => r2.ext a o (r1.ext a o e)
  have o1 : Own K H2 (fun a => (∃ o, H2 a = some o) ∧ ∀ j, j ∉ B1 ++ B2 → a ∉ Φ j) 0 d1 v1 [] := z1.move (fun a o e _ => r2.ext a o e) (fun a o e n => ⟨r2.ext a o e, ⟨o, r2.ext a o e⟩, fun j nj => n.2 j fun m => nj (List.mem_append_left _ m)⟩) fun a _ o e => r2.ext a o e
  have o2 : Own K H2 (fun a => (∃ o, H2 a = some o) ∧ ∀ j, j ∉ B1 ++ B2 → a ∉ Φ j) 0 d2 v2 [] := z2.move (fun a o e _ => e) (fun a o e n => ⟨e, ⟨o, e⟩, fun j nj => n.2 j fun m => nj (List.mem_append_right _ m)⟩) fun a _ o e => e
  refine ho.run.run o1 o2 x3 Q fun v H3 Ψ x' new nd o => ?_
  refine q v H3 Ψ ⟨fun a o e => x' a o (x a o e), fun a m => ?_, nd, o.move (fun a o e _ => e) (fun a o e z => ⟨e, ?_⟩) fun a _ o e => e⟩
  · cases e : H a with
    | none => rfl
    | some o => have := x a o e; rw [new a m] at this; cases this
  · rcases z with z | ⟨z, nΨ⟩
    · refine ⟨fun m => ?_, z.2⟩
      obtain ⟨o', z'⟩ := z.1
      rw [new a m] at z'; cases z'
    · exact ⟨nΨ, fun j _ => (R.ext x).notIn z j⟩
theorem ev_bm {T id : String} {r : V → List V → Hp → VK → Prop} {g : D → D → Option D} {name : Str} {apos cpos : Pos} (pa : PlainAttrs T) (slot : Slot T name id) (hty : typeOf (.builtin id) = pure (.type "method_descriptor")) (hm : MtR X id r) (ho : OpM X.K T r m g) (h1 : Ev X Γ o m1 B1 f1 t1) (h2 : Ev X Γ e m2 B2 f2 t2)
    (hbase : attributeBase o name X.env (eval o X.env) = eval o X.env := by rfl)
    (hfew : ((backTo cpos (starEach [e] X.env)).all (fun x => !x.1) && (backToKw cpos (keywordEach [] X.env)).all (fun x => x.1.isSome)
      && decide ([e].length + ([] : List Keyword).length + (if ([] : List Keyword).isEmpty then 0 else 1) < 30)) = true := by rfl)
    (hline : (apos.endLine == cpos.line) = true := by rfl) (hs : starEach [e] X.env = (false, eval e X.env) :: starEach [] X.env := by rfl) (hplain : (backTo cpos (starEach [] X.env)).any (·.1) = false := by rfl) :
    Ev X Γ (.Call (.Attribute o name apos) [e] [] cpos) m (B1 ++ B2) (e2 g f1 f2) (tBM X.K T r t1 (tCons t2 tNil)) := ⟨pe_bm pa slot hty hm h1.pe (pa_cons h2.pe pa_nil hs) hbase hfew hline hs hplain, sd_bm ho h1.sd h2.sd⟩
theorem om_idx : OpM K "list" (rIndex K) 0 gIdx := by
  refine ⟨fun {H N d1 d2 d v1} o e => ?_, ⟨fun {H N d1 d2 d v1 v2} o1 o2 e Q q => ?_⟩⟩
  · unfold gIdx at e
    split at e
    · obtain ⟨l, vs, rfl, s, lo⟩ := o.lst_inv0
      exact .inl ⟨rfl, _, s⟩
    · cases e
  · obtain ⟨ds, rfl⟩ : ∃ ds, d1 = .lst ds := by
      unfold gIdx at e
      split at e
      · exact ⟨_, rfl⟩
      · cases e
    have e : (if d2.fl = true ∧ ds.all D.fl = true then (match ds.findIdx? fun z => eqV z.toV d2.toV with | some j => some (D.int j) | none => none) else none) = some d := e
    split at e
    · rename_i h
      split at e
      · rename_i j ej
        cases e
        obtain ⟨l, vs, rfl, s, lo⟩ := o1.lst_inv0
        obtain ⟨e1, f1⟩ := o2.toV h.1
        obtain ⟨e2, f2⟩ := lo.toV h.2
        obtain ⟨hj, k1, k2⟩ := List.findIdx?_eq_some_iff_getElem.mp ej
        refine ⟨l, vs, v2, j, (ds[j]).toV, rfl, rfl, s, f1, f2, ?_, ?_, fun m' z' hm hz => ?_, fin0 q fun _ => .int⟩
        · rw [e2, List.getElem?_map, List.getElem?_eq_getElem hj]; rfl
        · rw [e1]; exact k1
        · rw [e2, List.getElem?_map, List.getElem?_eq_getElem (by omega)] at hz
          cases hz
          rw [e1]
          exact Bool.eq_false_iff.mpr (k2 m' hm)
      · cases e
    · cases e
/-- x.index(y), a list of flat items -/
theorem ev_idx {apos cpos : Pos} (h1 : Ev X Γ o m1 B1 f1 t1) (h2 : Ev X Γ e m2 B2 f2 t2)
    (hbase : attributeBase o "index" X.env (eval o X.env) = eval o X.env := by rfl)
    (hfew : ((backTo cpos (starEach [e] X.env)).all (fun x => !x.1) && (backToKw cpos (keywordEach [] X.env)).all (fun x => x.1.isSome)
      && decide ([e].length + ([] : List Keyword).length + (if ([] : List Keyword).isEmpty then 0 else 1) < 30)) = true := by rfl)
    (hline : (apos.endLine == cpos.line) = true := by rfl) (hs : starEach [e] X.env = (false, eval e X.env) :: starEach [] X.env := by rfl) (hplain : (backTo cpos (starEach [] X.env)).any (·.1) = false := by rfl) :
    Ev X Γ (.Call (.Attribute o "index" apos) [e] [] cpos) 0 (B1 ++ B2) (e2 gIdx f1 f2) (tBM X.K "list" (rIndex X.K) t1 (tCons t2 tNil)) := ev_bm PySem.F.plainAttrs_list PySem.F.slot_list_index PySem.F.type_list_index mt_index om_idx h1 h2 hbase hfew hline hs hplain
theorem xev_idx {apos cpos : Pos} (h1 : Ev X Γ o m1 B1 f1 t1) (h2 : Ev X Γ e m2 B2 f2 t2) (hK : X.K = K := by rfl)
    (hbase : attributeBase o "index" X.env (eval o X.env) = eval o X.env := by rfl)
    (hfew : ((backTo cpos (starEach [e] X.env)).all (fun x => !x.1) && (backToKw cpos (keywordEach [] X.env)).all (fun x => x.1.isSome)
      && decide ([e].length + ([] : List Keyword).length + (if ([] : List Keyword).isEmpty then 0 else 1) < 30)) = true := by rfl)
    (hline : (apos.endLine == cpos.line) = true := by rfl) (hs : starEach [e] X.env = (false, eval e X.env) :: starEach [] X.env := by rfl) (hplain : (backTo cpos (starEach [] X.env)).any (·.1) = false := by rfl) :
    Ev X Γ (.Call (.Attribute o "index" apos) [e] [] cpos) 0 (B1 ++ B2) (e2 gIdx f1 f2) (tBM K "list" (rIndex K) t1 (tCons t2 tNil)) := by subst hK; exact ev_idx h1 h2 hbase hfew hline hs hplain
theorem idx_ok {xs : List Int} {y : Int} {j : Nat} (hj : j < xs.length) (h : at0 xs j = y) (n : ∀ k, k < j → at0 xs k ≠ y) : gIdx (.lst (xs.map .int)) (.int y) = some (.int j) := by
  unfold gIdx
  have e : (xs.map D.int).findIdx? (fun z => eqV z.toV (D.int y).toV) = some j := by
    rw [List.findIdx?_eq_some_iff_getElem]
    refine ⟨by rw [List.length_map]; exact hj, ?_, fun k hk z => ?_⟩
    · rw [List.getElem_map, ← at0_get hj, h]
      show ((y : Int) == y) = true
      exact beq_self_eq_true y
    · rw [List.getElem_map, ← at0_get (by omega)] at z
      exact n k hk (eq_of_beq (show ((at0 xs k : Int) == y) = true from z))
  simp only [e]
  refine if_pos ⟨rfl, ?_⟩
  rw [List.all_map]
  exact List.all_eq_true.mpr fun _ _ => rfl
end
/-! ### plain: parts put together -/
section
variable {f f1 f2 : Store → Option D} {fa : Store → Option (List D)} {g : D → D → Option D} {ρ : Store} {a b d : D} {ds : List D}
theorem e2_ok (h1 : f1 ρ = some a) (h2 : f2 ρ = some b) (h : g a b = some d) : e2 g f1 f2 ρ = some d := by rw [s_e2, h1, h2]; exact h
theorem acons_ok (h1 : f ρ = some d) (h2 : fa ρ = some ds) : aCons f fa ρ = some (d :: ds) := by rw [s_aCons, h1, h2]
theorem anil_ok : aNil ρ = some [] := id rfl
theorem etup_ok (h : fa ρ = some ds) (hl : ds.length ≤ 16777216) : eTup fa ρ = some (.tup ds) := by rw [s_eTup, h]; exact if_pos hl
theorem elst_ok (h : fa ρ = some ds) (hl : ds.length ≤ 16777216) : eLst fa ρ = some (.lst ds) := by rw [s_eLst, h]; exact if_pos hl
theorem addT_ok {xs ys : List D} (hl : xs.length + ys.length ≤ 16777216) : gAdd (.tup xs) (.tup ys) = some (.tup (xs ++ ys)) := by rw [s_addT]; exact if_pos hl
theorem addL_ok {xs ys : List D} (hl : xs.length + ys.length ≤ 16777216) : gAdd (.lst xs) (.lst ys) = some (.lst (xs ++ ys)) := by rw [s_addL]; exact if_pos hl
theorem cat_ok {xs ys : List D} (hl : xs.length + ys.length ≤ 16777216) : gCat (.lst xs) (.lst ys) = some (.lst (xs ++ ys)) := by rw [s_cat]; exact if_pos hl
theorem tbo_ok {b : Bool} (h : f ρ = some (.bl b)) : tBo f ρ = some b := by rw [s_tBo, h]
theorem iLst_ok (h : f ρ = some (.lst ds)) : iLst f ρ = some ds := by rw [s_iLst, h]
theorem iTp_ok (h : f ρ = some (.tup ds)) : iTp f ρ = some ds := by rw [s_iTp, h]
end
end VL

/-! VL25: plain steps: pop, two greatest, texts that are the same. -/
namespace VL
open PySem
section
variable {f : Store → Option D} {F : Store → Option (D × Store)} {ρ ρ' : Store} {d : D} {ds : List D} {i : Nat}
theorem pop_ok {z : Int} {k : Nat} (h : eVar i ρ = some (.lst ds)) (h2 : f ρ = some (.int z)) (hz : z = k) (hk : k < ds.length) (hb : k < 1000000000) : xPop i f ρ = some (ds[k], ρ.set i (some (.lst (ds.eraseIdx k)))) := by
  subst hz
  have e : L2.ixN ds.length (k : Int) = some k := by
    unfold L2.ixN
    rw [if_pos (Int.natCast_nonneg _), if_pos (by omega), Int.toNat_natCast]
  unfold xPop
  simp only [h, h2, e, List.getElem?_eq_getElem hk, if_pos (cR_t (j := (k : Int)) (by omega) (by omega))]
theorem erase_map {α β : Type} (g : α → β) : ∀ (l : List α) (j : Nat), (l.map g).eraseIdx j = (l.eraseIdx j).map g
  | [], j => by simp
  | x :: l, 0 => rfl
  | x :: l, j + 1 => by
    show g x :: (l.map g).eraseIdx j = g x :: (l.eraseIdx j).map g
    rw [erase_map g l j]
theorem popI_ok {xs : List Int} {z : Int} (h : eVar i ρ = some (.lst (xs.map .int))) (h2 : f ρ = some (.int z)) (h0 : 0 ≤ z) (hk : z < xs.length) (hb : z < 1000000000) (e : ρ.set i (some (.lst ((xs.eraseIdx z.toNat).map .int))) = ρ') : xPop i f ρ = some (.int (at0 xs z.toNat), ρ') := by
  rw [pop_ok (k := z.toNat) h h2 (by omega) (by rw [List.length_map]; omega) (by omega), List.getElem_map, at0_get (by omega), erase_map, e]
theorem setX_ok {j : Nat} {ρ2 : Store} (h : F ρ = some (d, ρ')) (e : ρ'.set j (some d) = ρ2) : sSetX j F ρ = some (.nx ρ2) := by unfold sSetX; rw [h, ← e]
theorem appX_ok {j : Nat} {es : List D} {ρ2 : Store} (h0 : eVar j ρ = some (.lst es)) (h : F ρ = some (d, ρ')) (h1 : eVar j ρ' = some (.lst ds)) (hl : ds.length < 16777216) (e : ρ'.set j (some (.lst (ds ++ [d]))) = ρ2) : sAppX j F ρ = some (.nx ρ2) := by
  unfold sAppX
  rw [h0]
  simp only [h, h1, e]
  exact if_pos hl
theorem s_min2 {a b : Int} : gMin2 [.int a, .int b] = some (.int (if b < a then b else a)) := rfl
theorem s_max2 {a b : Int} : gMax2 [.int a, .int b] = some (.int (if b > a then b else a)) := rfl
end
theorem len_erase {α : Type} {xs : List α} {k : Nat} (h : k < xs.length) : (xs.eraseIdx k).length = xs.length - 1 := by rw [List.length_eraseIdx, if_pos h]
theorem append_at0 {xs : List Int} {y : Int} {k : Nat} : at0 (xs ++ [y]) k = if k < xs.length then at0 xs k else if k = xs.length then y else 0 := by
  unfold at0
  rw [List.getD_eq_getElem?_getD, List.getD_eq_getElem?_getD]
  by_cases h : k < xs.length
  · rw [List.getElem?_append_left h, if_pos h]
  · rw [if_neg h, List.getElem?_append_right (by omega)]
    by_cases e : k = xs.length
    · rw [if_pos e, show k - xs.length = 0 by omega]; rfl
    · rw [if_neg e, List.getElem?_eq_none (by rw [List.length_singleton]; omega)]; rfl
def sOk (x : Str) : Bool := x.cps.all fun c => decide (c < 0x110000)
theorem Lay.str {x : Str} {m : Nat} (h : sOk x = true) : Lay (.str x) m := ⟨rfl, by show PyData.canLay0 (.str x) = true; rw [PyData.canLay0]; exact h, Nat.zero_le _⟩
theorem eqv_str {x y : Str} : D.eqv (.str x) (.str y) = decide (x = y) := by
  show (x == y) = _
  by_cases h : x = y
  · subst h; rw [decide_eq_true rfl]; exact beq_self_eq_true x
  · rw [decide_eq_false h]; exact beq_eq_false_iff_ne.mpr h
theorem s_eqS {x y : Str} (hx : sOk x = true) (hy : sOk y = true) : gEq false (.str x) (.str y) = some (.bl (decide (x = y))) := gEq_ok ((Lay.str (m := 0) hx).okE (by decide)) ((Lay.str (m := 0) hy).okE (by decide)) eqv_str
theorem s_neS {x y : Str} (hx : sOk x = true) (hy : sOk y = true) : gEq true (.str x) (.str y) = some (.bl (!decide (x = y))) := gNe_ok ((Lay.str (m := 0) hx).okE (by decide)) ((Lay.str (m := 0) hy).okE (by decide)) eqv_str
theorem eq_tup {xs ys : List Int} : gEq false (.tup (xs.map .int)) (.tup (ys.map .int)) = some (.bl (decide (xs = ys))) := gEq_ok okE_it okE_it eqv_it
theorem ne_tup {xs ys : List Int} : gEq true (.tup (xs.map .int)) (.tup (ys.map .int)) = some (.bl (!decide (xs = ys))) := gNe_ok okE_it okE_it eqv_it
theorem eq_nilL {xs : List Int} : gEq false (.lst (xs.map .int)) (.lst []) = some (.bl (decide (xs = []))) := eq_il (ys := [])
theorem ne_nilL {xs : List Int} : gEq true (.lst (xs.map .int)) (.lst []) = some (.bl (!decide (xs = []))) := ne_il (ys := [])
theorem eq_nilT {xs : List Int} : gEq false (.tup (xs.map .int)) (.tup []) = some (.bl (decide (xs = []))) := eq_tup (ys := [])
theorem ne_nilT {xs : List Int} : gEq true (.tup (xs.map .int)) (.tup []) = some (.bl (!decide (xs = []))) := ne_tup (ys := [])
end VL

/-! VL26: sorted of a tuple of ints; len(set(x)), x a tuple or list of ints. -/
namespace VL
open PySem PySem.Spec L2
open PyProof.Rows hiding St
section
variable {prog : Program} {w : World} {A : Around} {E : Value → Shared → Prop} {s : Shared}
theorem collect_tup {l : Addr} {vs : List Value} {Q : List Value → Shared → Prop} (hl : s.heap.IsTuple l vs.toArray)
    (h : Q vs { s with heap := (s.heap.push (seqObj "list" #[] 0)).update s.heap.objs.size (Obj.mapSeq (· ++ vs.toArray)) }) (hsz : vs.length ≤ sizeLine) :
    wpAny (model prog w) A (collect (.ref l)) Q E s := by
  obtain ⟨o, ho, hc, n, hd⟩ := id hl
  unfold collect
  refine wpAny_bind (wpAny_runValue (codeAny_builtin entry_proto_collect' ?_))
  show wpAny _ _ (do again (.builtin "list.__iadd__" ⟨[← newList [], .ref l], []⟩)) _ _ s
  refine wpAny_bind (wpAny_newList (wpAny_pure ⟨Code.quiet_builtin _ (by decide +kernel), codeAny_builtin entry_list_iadd' ?_⟩))
  show wpAny _ _ (Builtin.List.listExtendWith (.ref s.heap.objs.size) (.ref l) (.ref s.heap.objs.size)) _ _ { s with heap := s.heap.push (seqObj "list" #[] 0) }
  unfold Builtin.List.listExtendWith
  have ho' : (s.heap.push (seqObj "list" #[] 0)).get? l = some o := Heap.get?_push_of_some _ ho
  refine wpAny_bind (wpAny_typeOf (T := "tuple") ⟨o, ho', hc⟩ ?_)
  have ht : (Value.type "tuple" == Value.type "tuple") = true := by rfl
  rw [if_pos (by rw [ht]; simp)]
  refine wpAny_bind (listItems_at ho' hd ?_)
  refine wpAny_bind (listItems_at (xs := #[]) (n := 0) (Heap.get?_push_size _ rfl) rfl ?_)
  rw [if_neg (by simp)]
  refine wpAny_bind (listUpdate_at (xs := #[]) (n := 0) (Heap.get?_push_size _ rfl) rfl ?_ (Nat.zero_le _) (by show (#[] ++ vs.toArray).size ≤ sizeLine + 1; simp only [Array.size_append, List.size_toArray, List.length_nil]; omega))
  refine wpAny_pure ?_
  show wpAny (model prog w) A (do
      let o ← load s.heap.objs.size
      match o.data with
      | .seq xs _ => pure xs.toList
      | _ => unsupported "internal:collect") Q E { s with heap := (s.heap.push (seqObj "list" #[] 0)).update s.heap.objs.size (Obj.mapSeq (· ++ vs.toArray)) }
  refine wpAny_bind (wpAny_load (get?_update_seq (Heap.get?_push_size _ rfl) _) ?_)
  show wpAny _ _ (pure ((#[] : Array Value) ++ vs.toArray).toList) Q E _
  rw [show ((#[] : Array Value) ++ vs.toArray).toList = vs by simp]
  exact wpAny_pure h
open Srt SrtO in
theorem sorted_ordT {l : Addr} {vs : List Value} {ltv : Value → Value → Bool} {Q : Value → Shared → Prop} (O : Swo ltv) (hl : s.heap.IsTuple l vs.toArray) (hz : vs.length ≤ sizeLine)
    (hS : 2 ≤ vs.length → ∀ (h₁ : Heap) (a : Addr), h₁.get? a = some (seqObj "list" vs.toArray 0) → (∀ b o, s.heap.get? b = some o → b ≠ a ∧ h₁.get? b = some o) → SortableO prog w A.in1.in1 { s with heap := h₁ } a vs ltv)
    (h : ∀ out : List Value, Srtd ltv out → Stb ltv out vs → Q (.ref (s.heap.objs.size + 1)) { s with heap := sortedAll s.heap vs out.toArray }) :
    wpAny (model prog w) A (call (.builtin "sorted") [.ref l]) Q E s := by
  refine Calls.call_function_entry kind_sorted plain_sorted entry_sorted (args_sorted1 _) ?_
  unfold Builtin.«sorted»
  refine wpAny_bind (m := checkCount "sorted" 1 1 _) (wpAny_pure ?_)
  refine wpAny_bind (collect_tup hl ?_ hz)
  refine wpAny_bind (wpAny_newList ?_ hz)
  have hsz : ((s.heap.push (seqObj "list" #[] 0)).update s.heap.objs.size (Obj.mapSeq (· ++ vs.toArray))).objs.size = s.heap.objs.size + 1 := by
    rw [Heap.size_update, size_push']
  have hoL : (((s.heap.push (seqObj "list" #[] 0)).update s.heap.objs.size (Obj.mapSeq (· ++ vs.toArray))).push (seqObj "list" vs.toArray 0)).get? (s.heap.objs.size + 1) = some (seqObj "list" vs.toArray 0) := by
    rw [← hsz]; exact Heap.get?_push_size _ rfl
  have keep : ∀ b o, s.heap.get? b = some o → b ≠ s.heap.objs.size + 1 ∧ (((s.heap.push (seqObj "list" #[] 0)).update s.heap.objs.size (Obj.mapSeq (· ++ vs.toArray))).push (seqObj "list" vs.toArray 0)).get? b = some o := fun b o q => by
    have hlt : b < s.heap.objs.size := Heap.lt_size q
    refine ⟨Nat.ne_of_lt (Nat.lt_succ_of_lt hlt), Heap.get?_push_of_some _ ?_⟩
    rw [Heap.get?_update_ne _ _ _ _ (Nat.ne_of_lt hlt)]
    exact Heap.get?_push_of_some _ q
  show wpAny _ _ _ _ _ { s with heap := ((s.heap.push (seqObj "list" #[] 0)).update s.heap.objs.size (Obj.mapSeq (· ++ vs.toArray))).push (seqObj "list" vs.toArray 0) }
  rw [hsz]
  refine wpAny_bind (wpAny_holding (wpAny_call_entry slot_list_sort ⟨_, hoL, rfl⟩ entry_list_sort (list_sort_ord O hoL hz (fun h2 => hS h2 _ _ hoL keep) fun out hs hb => ⟨_, rfl, ?_⟩) (args_list_sort _)))
  exact wpAny_pure ⟨_, rfl, h out hs hb⟩
end
/-- sorted(t), a tuple of ints -/
def rSortedT (K : PySem.W.Frag) : List V → Hp → VK → Prop := fun vs H Q => ∃ (a : Addr) (ns : List Int), vs = [V.ref a] ∧ SqT K H a (ns.map V.int) ∧
  ∀ (ns' : List Int) (p : Addr), ns'.Perm ns → ns'.Pairwise (· ≤ ·) → H p = none → Q (.ref p) (upd H p (.lst (ns'.map V.int)))
section
variable {X : Cx} {K : PySem.W.Frag}
theorem xc_sortedT (hK : X.K = K := by rfl) : CallR X (.builtin "sorted") (rSortedT K) := by
  subst hK
  intro pins s σ H vs us Q I r h
  obtain ⟨a, ns, rfl, hs, q⟩ := h
  obtain ⟨its, rv, hl, hz⟩ := I.tuple hs
  rw [Vals.ref1 r]
  have hi := rv.ints
  refine sorted_ordT SrtO.swo_int hl (by rw [← rv.length]; exact hz) (fun h2 h₁ a' _ _ => SrtO.ints_sortable hi h2) fun out h1 h2 => ?_
  obtain ⟨k1, k2, k3⟩ := SrtO.ints_out hi h1 h2
  obtain ⟨ep, he'⟩ := PyProof.Rows.sortedAll_at s.heap its out.toArray
  have hlen : ((out.map SrtO.iv).map V.int).length ≤ sizeLine := by
    rw [List.length_map, k2.length_eq]
    rw [List.length_map] at hz
    exact hz
  exact ⟨.ref _, upd H (s.heap.objs.size + 1) (.lst ((out.map SrtO.iv).map V.int)), I.laid (t' := s.toks) (fun _ _ => PyProof.Rows.sortedAll_old) (Nat.le_succ _) ⟨hlen, out, ep, vals_of_ints k1, he'⟩, rfl, q _ _ k2 k3 (I.hok.fresh (Nat.le_succ _))⟩
def gSortedT : List D → Option D
  | [.tup ds] => (match D.ints ds with | some ns => some (.lst ((sortI ns).map .int)) | none => none)
  | _ => none
theorem oa_sortedT : OpA K (rSortedT K) 1 gSortedT := by
  refine ⟨fun {H N ds d vs} o e Q q => ?_⟩
  unfold gSortedT at e
  split at e
  · rename_i ds
    split at e
    · rename_i ns e2
      cases e
      obtain ⟨v, rfl, oo⟩ := o.one
      obtain ⟨l, vs, rfl, s, lo⟩ := oo.tup_inv
      rw [lo.ints e2] at s
      refine ⟨l, ns, rfl, s, fun ms p h1 h2 hp => ?_⟩
      rw [sortI_of h1 h2]
      exact fin_lst q (own_ints _) p hp
    · cases e
  · cases e
theorem s_sortedT {ns : List Int} : gSortedT [.tup (ns.map .int)] = some (.lst ((sortI ns).map .int)) := by
  unfold gSortedT; dsimp only; rw [ints_map]
end
/-! ### len(set(x)) -/
/-- how many unlike ones -/
def dis : List Int → List Int
  | [] => []
  | x :: xs => if x ∈ xs then dis xs else x :: dis xs
theorem mem_dis {k : Int} : ∀ {xs : List Int}, k ∈ dis xs ↔ k ∈ xs
  | [] => Iff.rfl
  | x :: xs => by
    unfold dis
    split
    · rename_i h
      rw [mem_dis, List.mem_cons]
      exact ⟨.inr, fun z => z.elim (fun e => by rw [e]; exact h) id⟩
    · rw [List.mem_cons, List.mem_cons, mem_dis]
theorem nodup_dis : ∀ xs : List Int, (dis xs).Nodup
  | [] => .nil
  | x :: xs => by
    unfold dis
    split
    · exact nodup_dis xs
    · rename_i h
      exact List.nodup_cons.mpr ⟨fun m => h (mem_dis.mp m), nodup_dis xs⟩
def distinct (ns : List Int) : Nat := (dis ns).length
def tLenSetT (K : PySem.W.Frag) (ta : TE) : TE := fun σ H Q => ta σ H fun x H1 => ∃ l, ∃ ns : List Int, x = .ref l ∧ SqT K H1 l (ns.map V.int) ∧ ns.length ≤ 1000 ∧ Q (.int (distinct ns)) H1
section
variable {X : Cx}
theorem distinct_of {ns : List Int} {es : List Int} (nd : es.Nodup) (h : ∀ k, k ∈ es ↔ k ∈ ns) : es.length = distinct ns := by
  unfold distinct
  have n2 : (dis ns).Nodup := nodup_dis ns
  have h2 : ∀ k, k ∈ dis ns ↔ k ∈ ns := fun k => mem_dis
  have a1 := List.Nodup.length_le_of_subset nd (l₂ := dis ns) fun k m => (h2 k).mpr ((h k).mp m)
  have a2 := List.Nodup.length_le_of_subset n2 (l₂ := es) fun k m => (h k).mpr ((h2 k).mp m)
  omega
theorem pe_lenSetT {a : Expr} {ta : TE} {p p2 q pos : Pos} (hc : X.calm = true) (hg : Gl X "len") (hm : X.mg "len" = none) (hg2 : Gl X "set") (hm2 : X.mg "set" = none) (ha : PE X a ta)
    (na : starEach [a] X.env = (false, eval a X.env) :: starEach [] X.env := by rfl) : PE X (.Call (.Name "len" p) [.Call (.Name "set" p2) [a] [] q] [] pos) (tLenSetT X.K ta) := by
  refine ⟨fun pins s σ H Q I h => ?_⟩
  refine Call_ (ld_blt I hg hm boot_len ?_)
  refine PyProof.Rows.callWith_builtin1 (PyProof.Rows.args_cons ?_ rfl) rfl rfl
  refine Call_ (ld_blt I hg2 hm2 boot_set ?_)
  refine PyProof.Rows.callWith_type1 (PyProof.Rows.args_cons (thn (ha.run pins s σ H _ I h) fun v s1 ⟨x, H1, I1, r1, q1⟩ => PyProof.Rows.args_nil ?_) na) na rfl
  obtain ⟨l, ns, rfl, hq, h1, q1⟩ := q1
  cases r1
  obtain ⟨its, r, pl, hz⟩ := I1.tuple hq
  refine call_set_tupI ns (I1.ok.hd hc) pl (by simpa using r.ints) (by unfold scanBound; omega) fun h' tk c R1 hcn hk => ?_
  refine PyProof.Rows.args_nil ?_
  obtain ⟨o, es, ep, t, ho, hex, hd, g, nd, hm3, hb, hf, hn, _, _⟩ := R1
  have I2 : Inv X pins σ H1 { s1 with heap := h', toks := tk } := I1.kept fun b o e => hk b o e
  have dn : es.size = distinct ns := by
    rw [← distinct_of nd fun k => by rw [← hm3 k, decide_eq_true_eq], List.length_map, Array.length_toList]
  refine call_len_set ho hex hd hf (by omega) ⟨.int (distinct ns), H1, I2.tok _, ⟨_, by rw [dn]⟩, q1⟩
def eLenSet (f : Store → Option D) : Store → Option D := fun ρ => match f ρ with
  | some (.tup ds) => (match D.ints ds with | some ns => if ns.length ≤ 1000 then some (.int (distinct ns)) else none | none => none)
  | _ => none
variable {Γ : List Nat} {K : PySem.W.Frag} {a : Expr} {m : Nat} {B : List Nat} {f : Store → Option D} {te : TE}
theorem xev_lenSet {p p2 q pos : Pos} (hc : X.calm = true) (hg : Gl X "len") (hm : X.mg "len" = none) (hg2 : Gl X "set") (hm2 : X.mg "set" = none) (ha : Ev X Γ a m B f te) (hK : X.K = K := by rfl)
    (na : starEach [a] X.env = (false, eval a X.env) :: starEach [] X.env := by rfl) : Ev X Γ (.Call (.Name "len" p) [.Call (.Name "set" p2) [a] [] q] [] pos) 0 B (eLenSet f) (tLenSetT K te) := by
  subst hK
  refine ⟨pe_lenSetT hc hg hm hg2 hm2 ha.pe na, ⟨fun {E ρ σ H Φ} R d e Q q => ?_⟩⟩
  unfold eLenSet at e
  split at e
  · rename_i ds e1
    split at e
    · rename_i ns e2
      split at e
      · rename_i hl
        cases e
        refine ha.sd.sh R e1 _ fun v H1 x o => ?_
        obtain ⟨l, vs, rfl, s, lo⟩ := o.tup_inv
        rw [lo.ints e2] at s
        exact ⟨l, ns, rfl, s, hl, q _ _ [] ⟨x, fun a m => (nomatch m), .nil, .int⟩⟩
      · cases e
    · cases e
  · cases e
theorem lenSet_ok {ρ : Store} {ns : List Int} (h : f ρ = some (.tup (ns.map .int))) (hl : ns.length ≤ 1000) : eLenSet f ρ = some (.int (distinct ns)) := by
  unfold eLenSet
  simp only [h, ints_map]
  exact if_pos hl
theorem distinct_le (ns : List Int) : distinct ns ≤ ns.length := by
  have := List.Nodup.length_le_of_subset (nodup_dis ns) (l₂ := ns) fun k m => mem_dis.mp m
  exact this
theorem distinct_nd {ns : List Int} (h : ns.Nodup) : distinct ns = ns.length := (distinct_of h fun _ => Iff.rfl).symm
end
end VL

/-! VL27: dicts by whole numbers, a slot's own: {}, k in d, d[k] = e (a new k). -/
namespace VL
open PySem PySem.Spec L2
open PyProof.Rows hiding St
section
variable {X : Cx} {K : PySem.W.Frag} {Γ : List Nat} {W : WX} {I : Nat → Nat} {r k m m1 m2 : Nat} {B1 B2 : List Nat} {Γb Γ' : List Nat} {e a b ei : Expr} {f f1 f2 fi : Store → Option D} {te ti ty td : TE} {pos p : Pos}
def eDct0 : Store → Option D := fun _ => some (.dct [] [])
theorem sd_dct0 : SdE K Γ tDNewK 1 [] eDct0 := by
  refine ⟨fun {E ρ σ H Φ} R d e Q q => ?_⟩
  cases e
  intro p hp
  have o : Own K (upd H p (.dK [])) (fun a => a ∉ [p] ∧ ∀ j, j ∉ ([] : List Nat) → a ∉ Φ j) 1 (.dct [] []) (.ref p) [p] := .dct (ks := []) (ds := []) (vs := []) (fp := []) upd_same rfl .nil .nil
  exact q _ _ [p] ⟨ext_upd hp, fun a m => by rw [List.mem_singleton.mp m]; exact hp, List.nodup_cons.mpr ⟨List.not_mem_nil, .nil⟩, o⟩
theorem ev_dct0 : Ev X Γ (.Dict [] [] pos) 1 [] eDct0 tDNewK := ⟨pe_dnewK, sd_dct0⟩
theorem Own.dct_inv0 {H : Hp} {N : Addr → Prop} {ks : List Key} {ds : List D} {v : V} {fp : List Addr} (o : Own K H N 0 (.dct ks ds) v fp) : ∃ a vs, v = .ref a ∧ H a = some (.dK (ks.zip vs)) ∧ ks.length = vs.length ∧ OwnL K H N 0 ds vs fp := by
  cases o with
  | shd n h e nd l => exact ⟨_, _, rfl, h, e, l⟩
theorem Own.dct_inv {H : Hp} {N : Addr → Prop} {n : Nat} {ks : List Key} {ds : List D} {v : V} {fp : List Addr} (o : Own K H N n (.dct ks ds) v fp) (hn : n ≠ 0) : ∃ k a vs fp', n = k + 1 ∧ v = .ref a ∧ fp = a :: fp' ∧ H a = some (.dK (ks.zip vs)) ∧ ks.length = vs.length ∧ ks.Nodup ∧ OwnL K H N k ds vs fp' := by
  cases o with
  | shd => exact absurd rfl hn
  | dct h e nd l => exact ⟨_, _, _, _, rfl, rfl, rfl, h, e, nd, l⟩
def hasK (k : Key) (ks : List Key) : Bool := ks.any fun x => decide (x = k)
theorem hasK_iff {k : Key} {ks : List Key} : hasK k ks = true ↔ k ∈ ks := by
  unfold hasK
  rw [List.any_eq_true]
  constructor
  · rintro ⟨x, m, e⟩
    rw [← of_decide_eq_true e]; exact m
  · exact fun m => ⟨k, m, decide_eq_true rfl⟩
theorem hasK_no {k : Key} {ks : List Key} : hasK k ks = false ↔ k ∉ ks := by
  rw [← hasK_iff]
  cases hasK k ks <;> simp
theorem zip_has (k : Key) : ∀ (ks : List Key) (vs : List V), ks.length = vs.length → (valV (ks.zip vs) k).isSome = hasK k ks
  | [], _, _ => by simp [valV, hasK]
  | x :: ks, [], h => by cases h
  | x :: ks, v :: vs, h => by
    rw [List.zip_cons_cons]
    by_cases e : x = k
    · rw [valV_pos e, hasK_iff.mpr (by rw [e]; exact List.mem_cons_self)]; rfl
    · rw [valV_neg e, zip_has k ks vs (by rw [List.length_cons, List.length_cons] at h; omega)]
      show hasK k ks = (decide (x = k) || hasK k ks)
      rw [decide_eq_false e]; rfl
def gDIn (neg : Bool) : D → D → Option D
  | .int i, .dct ks _ => some (.bl (if neg then !hasK (.inl i) ks else hasK (.inl i) ks))
  | _, _ => none
theorem sd_din (h1 : SdE K Γ ty m1 B1 f1) (h2 : SdE K Γ td m2 B2 f2) : SdE K Γ (tDIn ty td) m [] (e2 (gDIn false) f1 f2) ∧ SdE K Γ (tDNotIn ty td) m [] (e2 (gDIn true) f1 f2) := by
  have key : ∀ neg, ∀ {E : Entry} {ρ : Store} {σ : St} {H : Hp} {Φ : Nat → List Addr}, StR K E Γ ρ σ H Φ → ∀ (d : D), e2 (gDIn neg) f1 f2 ρ = some d → ∀ Q : VK, (∀ v H' Ψ, Res K [] Φ m d H v H' Ψ → Q v H') →
      ty σ H fun y H1 => td σ H1 fun x H2 => ∃ a o, x = .ref a ∧ DGet H2 a y o ∧ Q (.bl (if neg then !o.isSome else o.isSome)) H2 := fun neg {E ρ σ H Φ} R d e Q q => by
    unfold e2 at e
    split at e
    · rename_i d1 e1
      split at e
      · rename_i d2 e3
        unfold gDIn at e
        split at e
        · rename_i i ks ds
          cases e
          refine h1.sh R e1 _ fun y H1 x1 o1 => ?_
          refine h2.sh (R.ext x1) e3 _ fun x H2 x2 o2 => ?_
          cases o1
          obtain ⟨a, vs, rfl, ha, hl, _⟩ := o2.dct_inv0
          refine ⟨a, _, rfl, DGet.k (k := .inl i) ha, ?_⟩
          rw [zip_has _ _ _ hl]
          exact q _ _ [] ⟨fun a o e => x2 a o (x1 a o e), fun a m => (nomatch m), .nil, .bl⟩
        · cases e
      · cases e
    · cases e
  exact ⟨⟨fun R d e Q q => key false R d e Q q⟩, ⟨fun R d e Q q => key true R d e Q q⟩⟩
section
variable {t1 t2 : TE}
theorem hu1 {u : Nat} (hu : u + 64 < cLine) : u + 1 < cLine := Nat.lt_of_le_of_lt (Nat.add_le_add_left (by decide) _) hu
theorem ev_din (hu : X.A.units + 64 < cLine) (h1 : Ev X Γ a m1 B1 f1 t1) (h2 : Ev X Γ b m2 B2 f2 t2) (hm : behindInMarks .In b = false := by rfl) : Ev X Γ (.Compare a [.In] [b] pos) m [] (e2 (gDIn false) f1 f2) (tDIn t1 t2) := ⟨pe_cmp (pc_din (hu1 hu) h1.pe h2.pe) hm, (sd_din h1.sd h2.sd).1⟩
theorem ev_dnin (hu : X.A.units + 64 < cLine) (h1 : Ev X Γ a m1 B1 f1 t1) (h2 : Ev X Γ b m2 B2 f2 t2) (hm : behindInMarks .NotIn b = false := by rfl) : Ev X Γ (.Compare a [.NotIn] [b] pos) m [] (e2 (gDIn true) f1 f2) (tDNotIn t1 t2) := ⟨pe_cmp (pc_dnotin (hu1 hu) h1.pe h2.pe) hm, (sd_din h1.sd h2.sd).2⟩
theorem tv_din (hu : X.A.units + 64 < cLine) (h1 : Ev X Γ a m1 B1 f1 t1) (h2 : Ev X Γ b m2 B2 f2 t2) (hm : behindInMarks .In b = false := by rfl) : Tv X Γ (.Compare a [.In] [b] pos) (tBo (e2 (gDIn false) f1 f2)) (tB (tDIn t1 t2)) := ⟨pt_cmp (pc_din (hu1 hu) h1.pe h2.pe) hm, sd_test (m := 0) (sd_din h1.sd h2.sd).1⟩
theorem tv_dnin (hu : X.A.units + 64 < cLine) (h1 : Ev X Γ a m1 B1 f1 t1) (h2 : Ev X Γ b m2 B2 f2 t2) (hm : behindInMarks .NotIn b = false := by rfl) : Tv X Γ (.Compare a [.NotIn] [b] pos) (tBo (e2 (gDIn true) f1 f2)) (tB (tDNotIn t1 t2)) := ⟨pt_cmp (pc_dnotin (hu1 hu) h1.pe h2.pe) hm, sd_test (m := 0) (sd_din h1.sd h2.sd).2⟩
end
def sSetD (i : Nat) (f fi : Store → Option D) : Store → Option O := fun ρ => match f ρ with
  | some d => (match eVar i ρ with
    | some (.dct ks ds) => (match fi ρ with
      | some (.int z) => if hasK (.inl z) ks = false ∧ ks.length < 16777216 then some (.nx (ρ.set i (some (.dct (ks ++ [.inl z]) (ds ++ [d]))))) else none
      | _ => none)
    | _ => none)
  | none => none
theorem OwnL.snoc0 {H : Hp} {N : Addr → Prop} {d : D} {v : V} (o : Own K H N 0 d v []) : ∀ {ds : List D} {vs : List V} {fp : List Addr}, OwnL K H N 0 ds vs fp → OwnL K H N 0 (ds ++ [d]) (vs ++ [v]) []
  | _, _, _, .nil => .cons (fp := []) (fps := []) o .nil
  | _, _, _, .cons h l => by
    have h0 := h.fp0 rfl
    subst h0
    exact .cons (fp := []) (fps := []) h (OwnL.snoc0 o l)
theorem putK_new {ks : List Key} {vs : List V} {k : Key} {v : V} (hl : ks.length = vs.length) (h : k ∉ ks) : putK (ks.zip vs) k v = (ks ++ [k]).zip (vs ++ [v]) := by
  unfold putK
  rw [valV_any, zip_has _ _ _ hl, hasK_no.mpr h, if_neg Bool.false_ne_true, List.zip_append hl]
  rfl
theorem sd_setD {i : Nat} (hm : Γ.getD i 0 = 1) (h : SdE K Γ te m1 [] f) (hi : SdE K Γ ti m2 [] fi) : SdS K W I r Γ Γb Γ (sDPut (tVar i) ti te) (sSetD i f fi) := by
  refine ⟨fun {E ρ σ H Φ} hI R o e D q => ?_⟩
  unfold sSetD at e
  split at e
  · rename_i d e1
    split at e
    · rename_i ks ds e0
      split at e
      · rename_i z e2
        split at e
        · rename_i c
          cases e
          refine h.sh R e1 _ fun v H1 x ov => ?_
          have R1 := R.ext x
          obtain ⟨w, h1, h2⟩ := R1.val i _ (eVar_some e0)
          obtain ⟨_, l, vs0, _, _, rfl, _, hl0, _⟩ := h2.dct_inv (by rw [hm]; decide)
          refine ⟨_, h1, ?_⟩
          refine hi.sh R1 e2 _ fun y H2 x2 oy => ?_
          cases oy
          have R2 := R1.ext x2
          obtain ⟨w, h1', h2⟩ := R2.val i _ (eVar_some e0)
          rw [h1] at h1'
          cases h1'
          obtain ⟨k', l', vs, fp, ek, el, efp, hl, hk, nd, lo⟩ := h2.dct_inv (by rw [hm]; decide)
          cases el
          rw [hm] at ek
          cases ek
          have fp0 := lo.fp0 rfl
          subst fp0
          refine ⟨l, _, rfl, DPut.k (k := .inl z) hl (by rw [List.length_zip, hk, Nat.min_self, ← hk]; exact c.2), ?_⟩
          have c1 := hasK_no.mp c.1
          rw [putK_new hk c1]
          have st : ∀ a o, H2 a = some o → a ≠ l → upd H2 l (.dK ((ks ++ [(Sum.inl z : Key)]).zip (vs ++ [v]))) a = some o := fun a o e n => by rw [upd_ne n]; exact e
          have lΦ : l ∈ Φ i := by rw [efp]; exact List.mem_cons_self
          have tup1 : ∀ a o, H2 a = some o → ¬ notTup o → a ≠ l := fun a o e t z => by subst z; rw [hl] at e; cases e; exact t trivial
          have ov2 : Own K H2 (fun a => ∀ j, a ∉ Φ j) 0 d v [] := ov.move (fun a o e _ => x2 a o e) (fun a o e z => ⟨x2 a o e, fun j => z.2 j List.not_mem_nil⟩) fun a m => (nomatch m)
          have nn : ∀ a, (∀ j, a ∉ Φ j) → a ≠ l := fun a z z' => z i (by rw [z']; exact lΦ)
          refine q _ _ _ (R2.mut (i := i) (v := .ref l) (Ψ := [l]) h1 (by rw [hm]; decide) (fun a o e n => st a o e fun z => n (by rw [z]; exact lΦ)) (fun a o e => by
            by_cases z : a = l
            · subst z; exact ⟨_, upd_same⟩
            · exact ⟨o, st a o e z⟩) ?_ (List.nodup_cons.mpr ⟨List.not_mem_nil, .nil⟩) (fun a m => by rw [List.mem_singleton.mp m]; exact .inl lΦ))
          rw [hm]
          exact .dct (fp := []) upd_same (by rw [List.length_append, List.length_append, hk]; rfl) (List.nodup_append.mpr ⟨nd, List.nodup_cons.mpr ⟨List.not_mem_nil, .nil⟩, fun a ma b mb e => c1 (by rw [List.mem_singleton.mp mb] at e; rw [← e]; exact ma)⟩)
            ((OwnL.snoc0 ov2 lo).move (fun a o e t => st a o e (tup1 a o e t)) (fun a o e z => ⟨st a o e (nn a z), fun m => nn a z (List.mem_singleton.mp m), fun j _ => z j⟩) fun a m => (nomatch m))
        · cases e
      · cases e
    · cases e
  · cases e
theorem s_setd (i : Nat) {x : Str} {pn pt : Pos} (hu : X.A.units + 64 < cLine) (he : Ev X Γ e m1 [] f te) (hi : Ev X Γ ei m2 [] fi ti) (hN : X.N[i]? = some x := by rfl) (hv : Vis X.env.scope x := by first | exact Or.inl rfl | exact Or.inr (Or.inl rfl) | exact Or.inr (Or.inr rfl)) (hm : Γ.getD i 0 = 1 := by rfl)
    (hs : swapsWith e (some (.Subscript (.Name x pn) ei pt)) pos.line X.env = pure false := by rfl) (hd : (x == ("__debug__" : Str)) = false := by decide) (hcd : (x == ("__classdict__" : Str)) = false := by decide) :
    Sv X W I r Γ Γb (.Assign [.Subscript (.Name x pn) ei pt] e pos) Γ (sSetD i f fi) (sDPut (tVar i) ti te) :=
  ⟨ps_dput (Nat.lt_of_le_of_lt (Nat.add_le_add_left (by decide) _) hu) (pe_var hN hv hd hcd) hi.pe he.pe hs, sd_setD hm he.sd hi.sd⟩
theorem setD_ok {ρ ρ' : Store} {i : Nat} {d : D} {ks : List Key} {ds : List D} {z : Int} (h1 : f ρ = some d) (h2 : eVar i ρ = some (.dct ks ds)) (h3 : fi ρ = some (.int z)) (h4 : hasK (.inl z) ks = false) (h5 : ks.length < 16777216) (h6 : ρ.set i (some (.dct (ks ++ [.inl z]) (ds ++ [d]))) = ρ') : sSetD i f fi ρ = some (.nx ρ') := by
  unfold sSetD
  simp only [h1, h2, h3, ← h6]
  rw [if_pos ⟨h4, h5⟩]
end
end VL

/-! VL28: x = [comprehension], where it captures a local that is lent to it. -/
namespace VL
open PySem PySem.Spec L2
open PyProof.Rows hiding St
section
variable {X : Cx} {Γ Γt Γ' Γb : List Nat} {W : WX} {I : Nat → Nat} {r k m : Nat} {e elt iter tg : Expr} {ifs : List Expr} {f : Store → Option D} {t te : TE} {tt : TT} {pos py spos : Pos}
theorem pl_setLc {i : Nat} {y : Str} {scope : Scope} {own : List (Str × Nat)} {wi : TI} {g : TG} {is : List Nat} {it : Store → Option (List D)} {gf : D → Store → Option Store} {pf : Store → Option Bool} (hc : X.calm = true) (hN : X.N.Nodup) (hy : X.N[i]? = some y) (hyl : X.env.scope.names.lookup y = some .local)
    (hsw : swapsWith (.ListComp elt [⟨tg, iter, ifs, 0⟩] scope pos) (some (.Name y py)) spos.line X.env = pure true) (hi : Iv X Γ tg iter it wi) (ok : BlkOk X.N X.env.scope scope own)
    (hg : ∀ (s : Shared) (H : Hp) (C : Addr) (cl : List (Str × Addr)) (fp : List Addr), Gv (X.blk s H scope (compEnvC scope cl C X.env) fp) (fun _ => 0) Γ tg Γt gf is g) (ht : ∀ (s : Shared) (H : Hp) (C : Addr) (cl : List (Str × Addr)) (fp : List Addr), Tsv (X.blk s H scope (compEnvC scope cl C X.env) fp) Γt ifs pf tt)
    (he : ∀ (s : Shared) (H : Hp) (C : Addr) (cl : List (Str × Addr)) (fp : List Addr), Ev (X.blk s H scope (compEnvC scope cl C X.env) fp) Γt elt k [] f te) (hss : ∀ i ∈ is, i ∈ own.map (·.2)) (hz : ∀ i ∈ is, i < Γ.length ∧ Γ.getD i 0 = 0) (hs : ∀ x, foldedSetIterable iter X.env x = pure x := by intro _; rfl) :
    PS X (.Assign [.Name y py] (.ListComp elt [⟨tg, iter, ifs, 0⟩] scope pos) spos) (tAsg (tLc wi g tt te (own.map (·.2))) (gName i)) :=
  ps_setLc hc hN hy hyl hsw hi.pi ok (fun s H C cl fp => (hg s H C cl fp).pg) (fun s H C cl fp => (ht s H C cl fp).ts) (fun s H C cl fp => (he s H C cl fp).pe) hs
theorem sv_lend {i : Nat} {y : Str} (p : PS X (.Assign [.Name y py] e spos) (tAsg t (gName i))) (ev : Ev X Γ e m [] f t) (hG : i < Γ.length) (hio : I i = 0) : Sv X W I r Γ Γb (.Assign [.Name y py] e spos) (Γ.set i m) (sSet i f) (tAsg t (gName i)) := ⟨p, sd_set ev.sd hG hio⟩
end
end VL

/-! VL29: len(set(x)), x a list of ints. -/
namespace VL
open PySem PySem.Spec L2
open PyProof.Rows hiding St
def met (ns : List Int) : Nat := (firstMet (fun i => ns.getD i 0) ns.length).length
theorem met_le (ns : List Int) : met ns ≤ ns.length := firstMet_length_le ..
theorem met_nd {ns : List Int} (nd : ns.Nodup) : met ns = ns.length := by
  have key : ∀ i, i ≤ ns.length → (firstMet (fun i => ns.getD i 0) i).length = i := fun i => by
    induction i with
    | zero => intro _; rfl
    | succ i ih =>
      intro hi
      rw [firstMet_succ, step_length, ih (by omega)]
      have : (firstMet (fun i => ns.getD i 0) i).any (· == ns.getD i 0) = false := by
        rw [firstMet_any, List.any_eq_false]
        intro x mx e
        obtain ⟨k, mk, rfl⟩ := List.mem_map.mp mx
        have hk := List.mem_range.mp mk
        have e := eq_of_beq e
        simp only [List.getD_eq_getElem?_getD, List.getElem?_eq_getElem (show k < ns.length by omega), List.getElem?_eq_getElem (show i < ns.length by omega), Option.getD_some] at e
        have := (List.getElem_inj nd).mp e
        omega
      rw [this, if_neg Bool.false_ne_true]
  exact key _ (Nat.le_refl _)
def tLenSetL (K : PySem.W.Frag) (ta : TE) : TE := fun σ H Q => ta σ H fun x H1 => ∃ l, ∃ ns : List Int, x = .ref l ∧ SqL K H1 l (ns.map V.int) ∧ ns.length ≤ 1000 ∧ Q (.int (met ns)) H1
section
variable {X : Cx}
theorem pe_lenSetL {a : Expr} {ta : TE} {p p2 q pos : Pos} (hc : X.calm = true) (hg : Gl X "len") (hm : X.mg "len" = none) (hg2 : Gl X "set") (hm2 : X.mg "set" = none) (ha : PE X a ta)
    (na : starEach [a] X.env = (false, eval a X.env) :: starEach [] X.env := by rfl) : PE X (.Call (.Name "len" p) [.Call (.Name "set" p2) [a] [] q] [] pos) (tLenSetL X.K ta) := by
  refine ⟨fun pins s σ H Q I h => ?_⟩
  refine Call_ (ld_blt I hg hm boot_len ?_)
  refine PyProof.Rows.callWith_builtin1 (PyProof.Rows.args_cons ?_ rfl) rfl rfl
  refine Call_ (ld_blt I hg2 hm2 boot_set ?_)
  refine PyProof.Rows.callWith_type1 (PyProof.Rows.args_cons (thn (ha.run pins s σ H _ I h) fun v s1 ⟨x, H1, I1, r1, q1⟩ => PyProof.Rows.args_nil ?_) na) na rfl
  obtain ⟨l, ns, rfl, hq, h1, q1⟩ := q1
  cases r1
  obtain ⟨its, r, pl, hz⟩ := I1.list hq
  have hi : IntsAre its ns := r.ints
  have hl : its.toArray.size = ns.length := by rw [List.size_toArray]; exact IntsAre.length hi
  refine PySem.call_set_list (items := its.toArray) (ns := ns) (I1.ok.hd hc) pl.isList (by simpa using hi) (by rw [hl]; unfold scanBound; omega) fun h' tk hS hk => ?_
  refine PyProof.Rows.args_nil ?_
  rw [hl] at hS
  obtain ⟨o, es, ep, t, ho, hex, hd, _, _, _, hf, hn⟩ := hS
  have I2 : Inv X pins σ H1 { s1 with heap := h', toks := tk } := I1.kept fun b o e => hk b o (Heap.lt_size e) e
  have ml := met_le ns
  have dn : es.size = met ns := hn
  refine call_len_set ho hex hd hf (by omega) ⟨.int (met ns), H1, I2.tok _, ⟨_, by rw [dn]⟩, q1⟩
def eLenSetL (f : Store → Option D) : Store → Option D := fun ρ => match f ρ with
  | some (.lst ds) => (match D.ints ds with | some ns => if ns.length ≤ 1000 then some (.int (met ns)) else none | none => none)
  | _ => none
variable {Γ : List Nat} {K : PySem.W.Frag} {a : Expr} {m : Nat} {B : List Nat} {f : Store → Option D} {te : TE}
theorem xev_lenSetL {p p2 q pos : Pos} (hc : X.calm = true) (hg : Gl X "len") (hm : X.mg "len" = none) (hg2 : Gl X "set") (hm2 : X.mg "set" = none) (ha : Ev X Γ a m B f te) (hK : X.K = K := by rfl)
    (na : starEach [a] X.env = (false, eval a X.env) :: starEach [] X.env := by rfl) : Ev X Γ (.Call (.Name "len" p) [.Call (.Name "set" p2) [a] [] q] [] pos) 0 B (eLenSetL f) (tLenSetL K te) := by
  subst hK
  refine ⟨pe_lenSetL hc hg hm hg2 hm2 ha.pe na, ⟨fun {E ρ σ H Φ} R d e Q q => ?_⟩⟩
  unfold eLenSetL at e
  split at e
  · rename_i ds e1
    split at e
    · rename_i ns e2
      split at e
      · rename_i hl
        cases e
        refine ha.sd.sh R e1 _ fun v H1 x o => ?_
        obtain ⟨l, vs, rfl, s, lo⟩ := o.lst_inv0
        rw [lo.ints e2] at s
        exact ⟨l, ns, rfl, s, hl, q _ _ [] ⟨x, fun a m => (nomatch m), .nil, .int⟩⟩
      · cases e
    · cases e
  · cases e
theorem lenSetL_ok {ρ : Store} {ns : List Int} (h : f ρ = some (.lst (ns.map .int))) (hl : ns.length ≤ 1000) : eLenSetL f ρ = some (.int (met ns)) := by
  unfold eLenSetL
  simp only [h, ints_map]
  exact if_pos hl
end
end VL

/-! VL30: defs that change their first argument, an owned list of what cannot be changed, and tell nothing: f(x, ..), x a slot. -/
namespace VL
open PySem PySem.Spec L2
open PyProof.Rows hiding St
/-- the promise: n arguments, the first one is changed to F of all -/
def sp1 (K : PySem.W.Frag) (n : Nat) (F : List D → Option D) : Sp := fun vs H Q _ => ∃ (d0 : D) (ds : List D) (d' : D) (v0 : V) (vr : List V) (fp : List Addr), vs = v0 :: vr ∧ ds.length + 1 = n ∧ Own K H (fun a => a ∉ fp) 1 d0 v0 fp ∧ fp.Nodup ∧ OwnL K H (fun a => a ∉ fp) 0 ds vr [] ∧ F (d0 :: ds) = some d' ∧
  ∀ H' Ψ, Kp (fun a => a ∉ fp) H H' → (∀ a o, H a = some o → ∃ o', H' a = some o') → Ψ.Nodup → (∀ a ∈ Ψ, a ∈ fp ∨ H a = none) → (∀ N, Own K H' N 1 d' v0 Ψ) → Q .non H'
def fn1 (N : Nat) (F : Store → Option O) : List D → Option D := fun ds => match F (ds.map some ++ List.replicate (N - ds.length) none) with
  | some (.rt .non ρ) => (match eVar 0 ρ with | some d => if d.immB 1 = true then some d else none | none => none)
  | some (.nx ρ) => (match eVar 0 ρ with | some d => if d.immB 1 = true then some d else none | none => none)
  | _ => none
theorem fn1_ok {N : Nat} {F : Store → Option O} {ds : List D} {d : D} {ρ : Store} (h : F (ds.map some ++ List.replicate (N - ds.length) none) = some (.nx ρ)) (h1 : eVar 0 ρ = some d) (h2 : d.immB 1 = true) : fn1 N F ds = some d := by
  unfold fn1
  rw [h]
  simp only [h1, h2, if_true]
section
variable {P : Program} {w : World} {mg : Str → Option Value} {base : Heap} {K : PySem.W.Frag}
theorem start_ownN {H : Hp} {M : Addr → Prop} {k : Nat} : ∀ {ds : List D} {vs : List V}, OwnL K H M 0 ds vs [] → ∀ (i : Nat) (d : D), (ds.map some ++ List.replicate k none)[i]? = some (some d) → ∃ v : V, (vs.map some ++ List.replicate k none)[i]? = some (some v) ∧ Own K H M 0 d v [] := by
  intro ds vs o i d e
  by_cases h : i < ds.length
  · rw [List.getElem?_append_left (by simpa using h), List.getElem?_map] at e
    cases e2 : ds[i]? with
    | none => rw [e2] at e; cases e
    | some d' =>
      rw [e2] at e; cases e
      obtain ⟨v, h1, h2⟩ := o.get0 e2
      refine ⟨v, ?_, h2⟩
      rw [List.getElem?_append_left (by rw [List.length_map]; exact lt_of_some h1), List.getElem?_map, h1]; rfl
  · rw [List.getElem?_append_right (by simpa using h), List.getElem?_replicate] at e
    split at e <;> cases e
def io1 : Nat → Nat := fun i => if i = 0 then 1 else 0
theorem fn_ok1 {x qual : Str} {params : Arguments} {body : List Stmt} {scope : Scope} {dfl : List V} {kws : List (Str × V)} {f : Addr} {fd : FuncData} {N ps : List Str} {k : Nat} {F : Store → Option O} (Fn : FunD K x qual params body scope dfl kws f fd) (S : FnScope N ps scope) (hN : 0 < N.length)
    (hb : ∀ (cdv : Value) (A : Around) (outer : List Env) (s : Shared) (H : Hp) (E : XK), Room k (A.deeper (envOfC qual scope s.heap.objs.size f cdv)) →
      ∃ t Γb Γ', Γ'.getD 0 0 = 1 ∧ Lv (cxOf CX0 P w K mg base N qual scope f cdv A outer s H E).nox (fun _ _ _ _ => False) io1 0 (1 :: List.replicate (N.length - 1) 0) Γb body Γ' F t) :
    FnOk P w K mg base CX0 (k + 1) f fd ps (sp1 K ps.length (fn1 N.length F)) := by
  refine Fn.ok S (fun vs H Q E h => ?_) (fun cdv A outer s H vs Q E hr h => ?_)
  · obtain ⟨d0, ds, d', v0, vr, fp, rfl, hn, _, _, o, _⟩ := h
    rw [List.length_cons, o.len, hn]
  · obtain ⟨d0, ds, d', v0, vr, fp, rfl, hn, o0, ndf, o, e, q⟩ := h
    obtain ⟨t, Γb, Γ', hΓ, L⟩ := hb cdv A outer s H E hr
    refine ⟨t, PSs.nox L.pss, ?_⟩
    have hpl : ps.length ≤ N.length := by have := congrArg List.length S.pre; rw [List.length_take] at this; omega
    have gz : ∀ i, (1 :: List.replicate (N.length - 1) 0).getD (i + 1) 0 = 0 := fun i => by
      rw [List.getD_eq_getElem?_getD, List.getElem?_cons_succ, List.getElem?_replicate]
      split <;> rfl
    obtain ⟨Φ, hΦ⟩ : ∃ Φ : Nat → List Addr, Φ = fun i => if i = 0 then fp else [] := ⟨_, rfl⟩
    have Φ0 : Φ 0 = fp := by rw [hΦ]; rfl
    have Φs : ∀ i, i ≠ 0 → Φ i = [] := fun i n => by rw [hΦ]; exact if_neg n
    have nn : ∀ a, a ∉ fp → ∀ j, a ∉ Φ j := fun a z j m => by
      by_cases j0 : j = 0
      · rw [j0, Φ0] at m; exact z m
      · rw [Φs j j0] at m; cases m
    have io0 : ∀ i, io1 i ≠ 0 → i = 0 := fun i n => Classical.byContradiction fun z => n (if_neg z)
    obtain ⟨En, hEn⟩ : ∃ En : Entry, En = ⟨H, Φ, fun _ => v0, io1, []⟩ := ⟨_, rfl⟩
    have st : L2.start N (v0 :: vr) = some v0 :: (vr.map some ++ List.replicate (N.length - (ds.length + 1)) none) := by
      unfold L2.start
      rw [List.length_cons, o.len]; rfl
    have sd : (d0 :: ds).map some ++ List.replicate (N.length - (d0 :: ds).length) none = some d0 :: (ds.map some ++ List.replicate (N.length - (ds.length + 1)) none) := rfl
    have R : StR K En (1 :: List.replicate (N.length - 1) 0) ((d0 :: ds).map some ++ List.replicate (N.length - (d0 :: ds).length) none) (L2.start N (v0 :: vr)) H Φ := by
      rw [st, sd, hEn]
      refine ⟨?_, ?_, fun i d e => ?_, fun i _ g => ?_, fun i => ?_, fun i j a m m' => ?_, fun i a m => ?_, fun i a m => ?_, .of_ext (.rfl' _), fun a o e => ⟨o, e⟩, fun i n => ?_, fun p m => (nomatch m)⟩
      · rw [List.length_cons, List.length_cons, List.length_append, List.length_append, List.length_map, List.length_map, List.length_replicate, List.length_replicate, o.len]
      · rw [List.length_cons, List.length_cons, List.length_append, List.length_map, List.length_replicate, List.length_replicate]; omega
      · cases i with
        | zero =>
          cases e
          exact ⟨v0, rfl, by rw [Φ0]; exact o0.move (fun a o e _ => e) (fun a o e z => ⟨e, nn a z⟩) fun a _ o e => e⟩
        | succ i =>
          obtain ⟨v, h1, h2⟩ := start_ownN (k := N.length - (ds.length + 1)) o i d e
          refine ⟨v, h1, ?_⟩
          rw [gz i, Φs (i + 1) (Nat.succ_ne_zero i)]
          exact h2.move (fun a o e _ => e) (fun a o e z => ⟨e, nn a z⟩) fun a m => (nomatch m)
      · by_cases i0 : i = 0
        · subst i0; cases g
        · exact Φs i i0
      · by_cases i0 : i = 0
        · rw [i0, Φ0]; exact ndf
        · rw [Φs i i0]; exact .nil
      · by_cases i0 : i = 0
        · by_cases j0 : j = 0
          · rw [i0, j0]
          · rw [Φs j j0] at m'; cases m'
        · rw [Φs i i0] at m; cases m
      · by_cases i0 : i = 0
        · rw [i0, Φ0] at m; exact o0.live a m
        · rw [Φs i i0] at m; cases m
      · by_cases i0 : i = 0
        · subst i0; exact .inr ⟨(by show io1 0 ≠ 0; decide), m⟩
        · rw [Φs i i0] at m; cases m
      · rw [io0 i n]; rfl
    have fin : ∀ {Γ2 : List Nat} {ρ' : Store} {σ' : St} {H' : Hp} {Φ' : Nat → List Addr}, Γ2.getD 0 0 = 1 → StR K En Γ2 ρ' σ' H' Φ' → eVar 0 ρ' = some d' → d'.immB 1 = true → Q .non H' := fun {Γ2 ρ' σ' H' Φ'} g R' ed im => by
      obtain ⟨v, h1, h2⟩ := R'.val 0 d' (eVar_some ed)
      have h3 := R'.iv 0 (by rw [hEn]; show io1 0 ≠ 0; decide)
      rw [h1] at h3
      have ev : v = v0 := by rw [hEn] at h3; cases h3; rfl
      subst ev
      rw [g] at h2
      refine q H' (Φ' 0) ?_ ?_ (R'.nd 0) (fun a m => ?_) fun M => h2.immB im
      · have := R'.kp
        rw [hEn] at this
        exact this.mono fun a z i n => by rw [io0 i n]; show a ∉ Φ 0; rw [Φ0]; exact z
      · have := R'.dm; rw [hEn] at this; exact this
      · rcases R'.nw 0 a m with z | z
        · rw [hEn] at z; exact .inr z
        · rw [hEn] at z
          have z2 : a ∈ Φ 0 := z.2
          rw [Φ0] at z2; exact .inl z2
    unfold fn1 at e
    cases eo : F ((d0 :: ds).map some ++ List.replicate (N.length - (d0 :: ds).length) none) with
    | none => rw [eo] at e; cases e
    | some ob =>
      rw [eo] at e
      refine L.sd.run (E := En) (by rw [hEn]) R ob eo _ ?_
      cases ob with
      | nx ρ' =>
        dsimp only at e
        split at e
        · rename_i d2 e2
          split at e
          · rename_i im
            cases e
            exact fun σ' H' Φ' R' => fin hΓ R' e2 im
          · cases e
        · cases e
      | rt d2 ρ' =>
        cases d2 with
        | non =>
          dsimp only at e
          split at e
          · rename_i d2 e2
            split at e
            · rename_i im
              cases e
              rintro v H' ⟨Γ2, σ2, Φ2, Ψ2, R2, g2, _, _, _, o2⟩
              have ov := o2 (fun _ => True)
              cases ov
              exact fin ((g2 0 (by rw [hEn]; show io1 0 ≠ 0; decide)).trans (by rw [hEn]; rfl)) R2 e2 im
            · cases e
          · cases e
        | _ => cases e
      | bk ρ' => cases e
      | ct ρ' => cases e
      | ex C w ρ' => cases e
structure Cal1 (P : Program) (w : World) (K : PySem.W.Frag) (mg : Str → Option Value) (base : Heap) (k : Nat) (x : Str) (n : Nat) (F : List D → Option D) : Prop where
  ex : ∃ (f : Addr) (fd : FuncData) (ps : List Str), FnOk P w K mg base CX0 k f fd ps (sp1 K n F) ∧ mg x = some (.ref f) ∧ PySem.W.keepIn K (.ref f) = true ∧ Binds K fd ps []
theorem cal1_mk {x qual : Str} {params : Arguments} {body : List Stmt} {scope : Scope} {f : Addr} {fd : FuncData} {N ps : List Str} {k : Nat} {F : Store → Option O} (Fn : FunD K x qual params body scope [] [] f fd) (gf : mg x = some (.ref f)) (S : FnScope N ps scope)
    (hbd : ∀ (kV doc pm : Value) (an : Option Addr) (cdv ct : Value) (us : List Value), us.length = ps.length → bindArgs (PySem.W.fnOf x qual params body scope .none kV doc pm an cdv ct) ⟨us, []⟩ = pure (ps.zip us)) (hN : 0 < N.length)
    (hb : ∀ (cdv : Value) (A : Around) (outer : List Env) (s : Shared) (H : Hp) (E : XK), Room k (A.deeper (envOfC qual scope s.heap.objs.size f cdv)) →
      ∃ t Γb Γ', Γ'.getD 0 0 = 1 ∧ Lv (cxOf CX0 P w K mg base N qual scope f cdv A outer s H E).nox (fun _ _ _ _ => False) io1 0 (1 :: List.replicate (N.length - 1) 0) Γb body Γ' F t) :
    Cal1 P w K mg base (k + 1) x ps.length (fn1 N.length F) := ⟨f, fd, ps, fn_ok1 Fn S hN hb, gf, Fn.kp, Fn.bindsN hbd⟩
end
section
variable {X : Cx} {K : PySem.W.Frag} {Γ : List Nat} {W : WX} {I : Nat → Nat} {r k m : Nat} {B Γb : List Nat} {es : List Expr} {fa : Store → Option (List D)} {ta : TA} {pos p : Pos}
theorem SdA.lendIn (i : Nat) (h : SdA K (Γ.set i 0) ta m B fa) : SdA K Γ ta m (i :: B) fa := ⟨fun R ds e Q q => h.run (R.dem i) ds e Q fun vs H' Ψ r => q vs H' Ψ ⟨r.ext, r.new, r.nd, r.own.move (fun a o e _ => e) (fun a o e z => ⟨e, z.1, fun j n => by
  have := z.2 j fun m => n (List.mem_cons_of_mem _ m)
  have ji : j ≠ i := fun e => n (by rw [e]; exact List.mem_cons_self)
  rw [if_neg ji] at this
  exact this⟩) fun a _ o e => e⟩⟩
theorem Av.lendIn (i : Nat) (h : Av X (Γ.set i 0) es m B fa ta) : Av X Γ es m (i :: B) fa ta := ⟨h.pa, h.sd.lendIn i⟩
/-- f(x, ..), x the slot i, changed -/
def sCallM (i n : Nat) (F : List D → Option D) (fa : Store → Option (List D)) : Store → Option O := fun ρ => match eVar i ρ with
  | some d0 => (match fa ρ with
    | some ds => if ds.length + 1 = n then (match F (d0 :: ds) with | some d' => some (.nx (ρ.set i (some d'))) | none => none) else none
    | none => none)
  | none => none
theorem callM_ok {i n : Nat} {F : List D → Option D} {ρ ρ' : Store} {d0 d' : D} {ds : List D} (h1 : eVar i ρ = some d0) (h2 : fa ρ = some ds) (h3 : ds.length + 1 = n) (h4 : F (d0 :: ds) = some d') (h5 : ρ.set i (some d') = ρ') : sCallM i n F fa ρ = some (.nx ρ') := by
  unfold sCallM
  simp only [h1, h2, h4, h5]
  exact if_pos h3
theorem sd_callM {i n : Nat} {F : List D → Option D} {E0 : XK} (hm : Γ.getD i 0 = 1) (iB : i ∉ B) (ha : SdA K Γ ta 0 B fa) : SdS K W I r Γ Γb Γ (tDrop (tCall (sp1 K n F) [] E0 (tCons (tVar i) ta))) (sCallM i n F fa) := by
  refine ⟨fun {E ρ σ H Φ} hI R o e D q => ?_⟩
  unfold sCallM at e
  split at e
  · rename_i d0 e0
    split at e
    · rename_i ds e1
      split at e
      · rename_i hn
        split at e
        · rename_i d' e2
          cases e
          obtain ⟨v, h1, h2⟩ := R.val i _ (eVar_some e0)
          refine ⟨v, h1, ?_⟩
          refine ha.sh R e1 _ fun vs H1 x o => ?_
          have R1 := R.ext x
          obtain ⟨v', h1', h2'⟩ := R1.val i _ (eVar_some e0)
          rw [h1] at h1'
          cases h1'
          rw [hm] at h2'
          refine ⟨d0, ds, d', v, vs, Φ i, by rw [List.append_nil], hn, h2'.move (fun a o e _ => e) (fun a o e z => ⟨e, z i⟩) fun a _ o e => e, R1.nd i, o.move (fun a o e _ => e) (fun a o e z => ⟨e, z.2 i iB⟩) fun a m => (nomatch m), e2, fun H2 Ψ kp dm nd src own => ?_⟩
          refine q _ _ _ (R1.mut (i := i) (v := v) (Ψ := Ψ) h1 (by rw [hm]; decide) (fun a o e n => kp.kp a o e n) dm ?_ nd src)
          rw [hm]
          exact own _
        · cases e
      · cases e
    · cases e
  · cases e
theorem s_callM {k j n i : Nat} {F : List D → Option D} {x y : Str} {py pc ps : Pos} (c : Cal1 X.prog X.w X.K X.mg X.base k x n F) (hr : Room j X.A) (hkj : k ≤ j) (hg : Gl X x) (hN : X.N[i]? = some y) (hm : Γ.getD i 0 = 1) (iB : i ∉ B) (ha : Av X Γ es 0 B fa ta)
    (hv : Vis X.env.scope y := by first | exact Or.inl rfl | exact Or.inr (Or.inl rfl) | exact Or.inr (Or.inr rfl)) (hd : (y == ("__debug__" : Str)) = false := by decide) (hcd : (y == ("__classdict__" : Str)) = false := by decide)
    (hdb : (x == ("__debug__" : Str)) = false := by decide) (he : starEach (.Name y py :: es) X.env = (false, eval (.Name y py) X.env) :: starEach es X.env := by rfl) (hpl : (backTo pc (starEach es X.env)).any (·.1) = false := by rfl) (hs : swapsWith (.Call (.Name x p) (.Name y py :: es) [] pc) none ps.line X.env = pure false := by rfl) :
    Sv X W I r Γ Γb (.Expr (.Call (.Name x p) (.Name y py :: es) [] pc) ps) Γ (sCallM i n F fa) (tDrop (tCall (sp1 X.K n F) [] E0 (tCons (tVar i) ta))) := by
  obtain ⟨f, fd, pl, G, hmm, hk, hb⟩ := c.ex
  exact ⟨ps_expr (pe_call (dvs := []) G (hr.mono hkj) hg hmm hk hb .nil pass0 (pa_cons (pe_var hN hv hd hcd) ha.pa he) hdb he hpl) hs, sd_callM hm iB ha.sd⟩
end
end VL

/-! VL31: defs that may raise an error of an own class (without a field), and try: x = f(..) except C as e: y = [isinstance(e, ..), ..]; y = y + [..]. -/
namespace VL
open PySem PySem.Spec L2
open PyProof.Rows hiding St
/-- what a def tells: a value, or an error, by its class's number -/
inductive R1 where
  | ret (d : D) | exc (t : Nat)
def wTag (cs : Nat → Addr) (W : WX) : WX := fun cls d σ H => ∃ t, cls = .ref t ∧ W (.ref (cs t)) d σ H
/-- the promise -/
def spX (K : PySem.W.Frag) (cs : Nat → Addr) (n r : Nat) (F : List D → Option R1) : Sp := fun vs H Q E => ∃ (ds : List D) (o : R1), ds.length = n ∧ OwnL K H (fun _ => True) 0 ds vs [] ∧ F ds = some o ∧
  (∀ d, o = .ret d → ∀ v H' Ψ, Ext H H' → (∀ a ∈ Ψ, H a = none) → Ψ.Nodup → (∀ N, Own K H' N r d v Ψ) → Q v H') ∧ (∀ t, o = .exc t → ∀ H', Ext H H' → E (.ref (cs t)) none H')
def fnX (N : Nat) (F : Store → Option O) : List D → Option R1 := fun ds => match F (ds.map some ++ List.replicate (N - ds.length) none) with
  | some (.rt d _) => some (.ret d)
  | some (.nx _) => some (.ret .non)
  | some (.ex t none _) => some (.exc t)
  | _ => none
section
variable {K : PySem.W.Frag} {P : Program} {w : World} {mg : Str → Option Value} {base : Heap} {cs : Nat → Addr}
theorem fn_okX {x qual : Str} {params : Arguments} {body : List Stmt} {scope : Scope} {dfl : List V} {kws : List (Str × V)} {f : Addr} {fd : FuncData} {N ps : List Str} {k r : Nat} {F : Store → Option O} (Fn : FunD K x qual params body scope dfl kws f fd) (S : FnScope N ps scope)
    (hb : ∀ (cdv : Value) (A : Around) (outer : List Env) (s : Shared) (H : Hp) (E : XK), Room k (A.deeper (envOfC qual scope s.heap.objs.size f cdv)) →
      ∃ t Γb Γ', Lv (cxOf (L2.CX P w) P w K mg base N qual scope f cdv A outer s H E) (wTag cs fun cls d _ H => E cls d H) (fun _ => 0) r (List.replicate N.length 0) Γb body Γ' F t) :
    FnOk P w K mg base (L2.CX P w) (k + 1) f fd ps (spX K cs ps.length r (fnX N.length F)) := by
  refine Fn.ok S (fun vs H Q E h => ?_) (fun cdv A outer s H vs Q E hr h => ?_)
  · obtain ⟨ds, d, hn, o, _⟩ := h
    rw [o.len, hn]
  · obtain ⟨ds, d, hn, o, e, q, qe⟩ := h
    obtain ⟨t, Γb, Γ', L⟩ := hb cdv A outer s H E hr
    refine ⟨t, L.pss, ?_⟩
    have hpl : ps.length ≤ N.length := by have := congrArg List.length S.pre; rw [List.length_take] at this; omega
    have gz : ∀ i, (List.replicate N.length 0).getD i 0 = 0 := fun i => by
      rw [List.getD_eq_getElem?_getD, List.getElem?_replicate]
      split <;> rfl
    have R : StR K ⟨H, fun _ => [], fun _ => .non, fun _ => 0, []⟩ (List.replicate N.length 0) (ds.map some ++ List.replicate (N.length - ds.length) none) (L2.start N vs) H (fun _ => []) := by
      refine ⟨?_, by rw [List.length_replicate, List.length_append, List.length_map, List.length_replicate]; omega, fun i d e => ?_, fun _ _ _ => rfl, fun _ => .nil, fun _ _ _ m => (nomatch m), fun _ _ m => (nomatch m), fun _ _ m => (nomatch m), .of_ext (.rfl' _), fun a o e => ⟨o, e⟩, fun i n => absurd rfl n, fun p m => (nomatch m)⟩
      · unfold L2.start
        rw [List.length_append, List.length_append, List.length_map, List.length_map, List.length_replicate, List.length_replicate, o.len]
      · obtain ⟨v, h1, h2⟩ := start_own o i d e
        refine ⟨v, h1, ?_⟩
        rw [gz i]
        exact h2.move (fun a o e _ => e) (fun a o e _ => ⟨e, fun j => List.not_mem_nil⟩) fun a m => (nomatch m)
    unfold fnX at e
    cases eo : F (ds.map some ++ List.replicate (N.length - ds.length) none) with
    | none => rw [eo] at e; cases e
    | some ob =>
      rw [eo] at e
      have base : ∀ {Γ ρ σ H' Φ}, StR K ⟨H, fun _ => [], fun _ => .non, fun _ => 0, []⟩ Γ ρ σ H' Φ → Ext H H' := fun R' a o e => R'.kp.kp a o e fun i n => absurd rfl n
      refine L.sd.run (E := ⟨H, fun _ => [], fun _ => .non, fun _ => 0, []⟩) rfl R ob eo _ ?_
      cases ob with
      | nx ρ' =>
        cases e
        exact fun σ' H' Φ' R' => q .non rfl .non H' [] (base R') (fun a m => (nomatch m)) .nil fun N => .non
      | rt d' ρ' =>
        cases e
        rintro v H' ⟨Γ2, σ2, Φ2, Ψ2, R2, _, new, nd, _, o2⟩
        exact q d' rfl v H' Ψ2 (base R2) new nd o2
      | bk ρ' => cases e
      | ct ρ' => cases e
      | ex C w ρ' =>
        cases w with
        | some _ => cases e
        | none =>
          cases e
          rintro Γ2 σ2 H' Φ2 dx R2 hx
          have hx : dx = none := hx
          subst hx
          exact ⟨C, rfl, qe C rfl H' (base R2)⟩
structure CalX (P : Program) (w : World) (K : PySem.W.Frag) (mg : Str → Option Value) (base : Heap) (cs : Nat → Addr) (k : Nat) (x : Str) (n r : Nat) (F : List D → Option R1) : Prop where
  ex : ∃ (f : Addr) (fd : FuncData) (ps : List Str), FnOk P w K mg base (L2.CX P w) k f fd ps (spX K cs n r F) ∧ mg x = some (.ref f) ∧ PySem.W.keepIn K (.ref f) = true ∧ Binds K fd ps []
theorem calX_mk {x qual : Str} {params : Arguments} {body : List Stmt} {scope : Scope} {f : Addr} {fd : FuncData} {N ps : List Str} {k r : Nat} {F : Store → Option O} (Fn : FunD K x qual params body scope [] [] f fd) (gf : mg x = some (.ref f)) (S : FnScope N ps scope)
    (hbd : ∀ (kV doc pm : Value) (an : Option Addr) (cdv ct : Value) (us : List Value), us.length = ps.length → bindArgs (PySem.W.fnOf x qual params body scope .none kV doc pm an cdv ct) ⟨us, []⟩ = pure (ps.zip us))
    (hb : ∀ (cdv : Value) (A : Around) (outer : List Env) (s : Shared) (H : Hp) (E : XK), Room k (A.deeper (envOfC qual scope s.heap.objs.size f cdv)) →
      ∃ t Γb Γ', Lv (cxOf (L2.CX P w) P w K mg base N qual scope f cdv A outer s H E) (wTag cs fun cls d _ H => E cls d H) (fun _ => 0) r (List.replicate N.length 0) Γb body Γ' F t) :
    CalX P w K mg base cs (k + 1) x ps.length r (fnX N.length F) := ⟨f, fd, ps, fn_okX Fn S hb, gf, Fn.kp, Fn.bindsN hbd⟩
end
/-! ### raise C("..") -/
/-- what the class named x says, which is raised -/
structure ExcR (K : PySem.W.Frag) (mg : Str → Option Value) (x : Str) (C : Addr) : Prop where
  g : mg x = some (.ref C)
  e : PySem.W.excIn K C He.veBase "ValueError.__new__" = true
  k : PySem.W.keepIn K (.ref C) = true
  b : PySem.W.subIn K (.ref C) (.type "BaseException") = some true
  t : PySem.W.typeIn K (.ref C) = some (.type "type")
section
variable {X : Cx} {K : PySem.W.Frag} {mg : Str → Option Value} {Γ Γ' Γb : List Nat} {W : WX} {I : Nat → Nat} {r : Nat} {cs : Nat → Addr} {C : Addr}
def sRaise (t : Nat) : Store → Option O := fun ρ => some (.ex t none ρ)
theorem s_raise {x m : Str} {j t : Nat} {p p2 pos pos' : Pos} (e : ExcR K mg x C) (hcs : cs t = C) (hc : X.calm = true) (tk : Takes X W) (hg : Gl X x) (hK : X.K = K := by rfl) (hm : X.mg = mg := by rfl) (hdb : (x == ("__debug__" : Str)) = false := by decide) :
    Sv X (wTag cs W) I r Γ Γb (.Raise (some (.Call (.Name x p) [.Constant (.str m) j p2] [] pos)) none pos') Γ' (sRaise t) (fun _ σ H => W (.ref C) none σ H) := by
  subst hK hm
  refine ⟨ps_raise hc tk (pmk_own PySem.F.excBase_ValueError e.e e.g e.k (raises_own e.b e.t) hg hdb), ⟨fun {E ρ σ H Φ} hI R o eo D q => ?_⟩⟩
  cases eo
  obtain ⟨t', et, h⟩ := q Γ σ H Φ none R rfl
  cases et
  rw [hcs] at h
  exact h
end
/-! ### isinstance(e, ..) in the suite -/
section
variable {X : Cx} {i : Nat} {a : Addr}
structure IsV (X : Cx) (i : Nat) (a : Addr) (e : Expr) (b : Bool) (t : TE) : Prop where
  pe : PE X e t
  sd : ∀ (σ : St) (H : Hp) (Q : VK), σ[i]? = some (some (.ref a)) → Q (.bl b) H → t σ H Q
structure IsA (X : Cx) (i : Nat) (a : Addr) (es : List Expr) (bs : List Bool) (t : TA) : Prop where
  pa : PA X es t
  sd : ∀ (σ : St) (H : Hp) (Q : List V → Hp → Prop), σ[i]? = some (some (.ref a)) → Q (bs.map .bl) H → t σ H Q
theorem isA_nil : IsA X i a [] [] tNil := ⟨pa_nil, fun _ _ _ _ q => q⟩
theorem isA_cons {e : Expr} {es : List Expr} {b : Bool} {bs : List Bool} {t : TE} {ta : TA} (h1 : IsV X i a e b t) (h2 : IsA X i a es bs ta) (hs : starEach (e :: es) X.env = (false, eval e X.env) :: starEach es X.env := by rfl) : IsA X i a (e :: es) (b :: bs) (tCons t ta) :=
  ⟨pa_cons h1.pe h2.pa hs, fun σ H Q hi q => h1.sd σ H _ hi (h2.sd σ H _ hi q)⟩
theorem isV_and {e1 e2 : Expr} {b1 b2 : Bool} {t1 t2 : TE} {pos : Pos} (h1 : IsV X i a e1 b1 t1) (h2 : IsV X i a e2 b2 t2) : IsV X i a (.BoolOp .And [e1, e2] pos) (b1 && b2) (tAndV t1 t2) :=
  ⟨pe_and h1.pe (pe_one h2.pe), fun σ H Q hi q => h1.sd σ H _ hi ⟨b1, rfl, by
    cases b1 with
    | true => rw [if_pos rfl]; exact h2.sd σ H _ hi q
    | false => rw [if_neg Bool.false_ne_true]; exact q⟩⟩
theorem isV_own {D C : Addr} {oe : Obj} {pn : List (Addr × Obj)} {b : Bool} {y x : Str} {p p1 p2 pos : Pos} (hC : ExcC X.K D) (hz : Zc (.ref D) none oe) (hf : ∃ vs, oe.data = .fields vs) (hg : Gl X "isinstance") (hm : X.mg "isinstance" = none) (hi : X.N[i]? = some y) (hgx : Gl X x) (hmx : X.mg x = some (.ref C))
    (hk : PySem.W.kitOne X.K (.ref D) (.ref C) = some b)
    (hv : Vis X.env.scope y := by first | exact Or.inl rfl | exact Or.inr (Or.inl rfl) | exact Or.inr (Or.inr rfl)) (hd : (y == ("__debug__" : Str)) = false := by decide) (hcd : (y == ("__classdict__" : Str)) = false := by decide) (hdx : (x == ("__debug__" : Str)) = false := by decide)
    (he : starEach [.Name y p1, .Name x p2] X.env = (false, eval (.Name y p1) X.env) :: starEach [.Name x p2] X.env := by rfl) (he2 : starEach [.Name x p2] X.env = (false, eval (.Name x p2) X.env) :: starEach [] X.env := by rfl) (hpl : (backTo pos (starEach [.Name x p2] X.env)).any (·.1) = false := by rfl) :
    IsV (X.suite a ((a, oe) :: pn)) i a (.Call (.Name "isinstance" p) [.Name y p1, .Name x p2] [] pos) b (tCB (rIsE X.K D a) (tCons (tVar i) (tCons (tC (.ref C)) tNil))) :=
  ⟨pe_callB (X := X.suite a ((a, oe) :: pn)) (call_isE hC hz hf) hg hm (by decide +kernel) (pa_cons (pe_var hi hv hd hcd) (pa_cons (pe_glob hgx hmx rfl hdx) pa_nil he2) he) (by decide) (by decide) he hpl,
    fun σ H Q h q => ⟨_, h, .ref C, .ref C, b, rfl, fun u r => r, hk, q⟩⟩
theorem isV_ty {D : Addr} {T : String} {oe : Obj} {pn : List (Addr × Obj)} {b : Bool} {y x : Str} {p p1 p2 pos : Pos} (hC : ExcC X.K D) (hz : Zc (.ref D) none oe) (hf : ∃ vs, oe.data = .fields vs) (hg : Gl X "isinstance") (hm : X.mg "isinstance" = none) (hi : X.N[i]? = some y) (hgx : Gl X x) (hmx : X.mg x = none) (hvx : bootBuiltins x = some (.type T)) (hnx : x ≠ "__name__")
    (hk : PySem.W.kitOne X.K (.ref D) (.type T) = some b)
    (hv : Vis X.env.scope y := by first | exact Or.inl rfl | exact Or.inr (Or.inl rfl) | exact Or.inr (Or.inr rfl)) (hd : (y == ("__debug__" : Str)) = false := by decide) (hcd : (y == ("__classdict__" : Str)) = false := by decide) (hdx : (x == ("__debug__" : Str)) = false := by decide)
    (he : starEach [.Name y p1, .Name x p2] X.env = (false, eval (.Name y p1) X.env) :: starEach [.Name x p2] X.env := by rfl) (he2 : starEach [.Name x p2] X.env = (false, eval (.Name x p2) X.env) :: starEach [] X.env := by rfl) (hpl : (backTo pos (starEach [.Name x p2] X.env)).any (·.1) = false := by rfl) :
    IsV (X.suite a ((a, oe) :: pn)) i a (.Call (.Name "isinstance" p) [.Name y p1, .Name x p2] [] pos) b (tCB (rIsE X.K D a) (tCons (tVar i) (tCons (tC (.ty T)) tNil))) :=
  ⟨pe_callB (X := X.suite a ((a, oe) :: pn)) (call_isE hC hz hf) hg hm (by decide +kernel) (pa_cons (pe_var hi hv hd hcd) (pa_cons (pe_bltn (v := .ty T) hgx hmx hvx rfl hnx hdx) pa_nil he2) he) (by decide) (by decide) he hpl,
    fun σ H Q h q => ⟨_, h, .ty T, .type T, b, rfl, fun u r => r, hk, q⟩⟩
end
/-! ### the suite -/
theorem ownL_bl {K : PySem.W.Frag} {H : Hp} {N : Addr → Prop} {n : Nat} : ∀ (bs : List Bool), OwnL K H N n (bs.map D.bl) (bs.map V.bl) []
  | [] => .nil
  | b :: bs => .cons (fp := []) (fps := []) .bl (ownL_bl bs)
/-- what stands in a slot that is not in use -/
theorem StR.junk {K : PySem.W.Frag} {E : Entry} {Γ : List Nat} {ρ : Store} {σ : St} {H : Hp} {Φ : Nat → List Addr} (R : StR K E Γ ρ σ H Φ) (i : Nat) (x : Option V) (hi : E.io i = 0) : StR K E Γ (ρ.set i none) (σ.set i x) H Φ := by
  refine ⟨by rw [List.length_set, List.length_set]; exact R.len, by rw [List.length_set]; exact R.gl, fun k d e => ?_, fun k lk g => R.em k (by rw [List.length_set] at lk; exact lk) g, R.nd, R.dj, R.lv, R.nw, R.kp, R.dm, fun k n => ?_, R.gh⟩
  · by_cases hk : k = i
    · subst hk
      rw [List.getElem?_set] at e
      split at e
      · split at e <;> cases e
      · rename_i z; exact absurd rfl z
    · rw [List.getElem?_set_ne (Ne.symm hk)] at e ⊢
      exact R.val k d e
  · have hk : k ≠ i := fun z => n (by rw [z]; exact hi)
    rw [List.getElem?_set_ne (Ne.symm hk)]
    exact R.iv k n
structure SuV (X : Cx) (I : Nat → Nat) (i : Nat) (a : Addr) (j : Nat) (L : List Bool) (Γ : List Nat) (st : List Stmt) (t : TS) : Prop where
  pss : PSs X st t
  sd : ∀ {E : Entry} {ρ : Store} {σ : St} {H : Hp} {Φ : Nat → List Addr}, E.io = I → StR X.K E Γ ρ σ H Φ → σ[i]? = some (some (.ref a)) → ∀ D : Ends, (∀ σ' H' Φ', StR X.K E (Γ.set j 1) (ρ.set j (some (.lst (L.map .bl)))) σ' H' Φ' → D.nx σ' H') → t D σ H
section
variable {X : Cx} {i j : Nat} {a : Addr} {I : Nat → Nat} {Γ : List Nat}
theorem su_two {K : PySem.W.Frag} {es1 es2 : List Expr} {bs1 bs2 : List Bool} {ta1 ta2 : TA} {y : Str} {py1 py2 px p1 p2 p3 q1 q2 : Pos} (h1 : IsA X i a es1 bs1 ta1) (h2 : IsA X i a es2 bs2 ta2) (hN : X.N.Nodup) (hj : X.N[j]? = some y) (hij : i ≠ j) (hG : j < Γ.length) (hio : I j = 0) (hz : bs1.length + bs2.length ≤ 16777216) (hK : X.K = K := by rfl)
    (hx : Loc X.env.scope y := by first | exact Or.inl rfl | exact Or.inr rfl) (hv : Vis X.env.scope y := by first | exact Or.inl rfl | exact Or.inr (Or.inl rfl) | exact Or.inr (Or.inr rfl))
    (hs1 : swapsWith (.List es1 q1) (some (.Name y py1)) p1.line X.env = pure false := by rfl) (hs2 : swapsWith (.BinOp (.Name y px) .Add (.List es2 q2) p2) (some (.Name y py2)) p3.line X.env = pure false := by rfl) (hf : X.fn y = true ∨ X.env.scope.names.lookup y = some .local := by first | exact .inl rfl | exact .inr rfl) (hd : (y == ("__debug__" : Str)) = false := by decide) (hcd : (y == ("__classdict__" : Str)) = false := by decide) :
    SuV X I i a j (bs1 ++ bs2) Γ [.Assign [.Name y py1] (.List es1 q1) p1, .Assign [.Name y py2] (.BinOp (.Name y px) .Add (.List es2 q2) p2) p3] (tSeq (tAsg (tLst ta1) (gName j)) (tAsg (tOp (rCatS K) (tVar j) (tLst ta2)) (gName j))) := by
  subst hK
  refine ⟨pss_cons (ps_set hN hj hx (pe_lst h1.pa) hs1 hf) (pss_one (ps_set hN hj hx (pe_op op_catS (pe_var hj hv hd hcd) (pe_lst h2.pa)) hs2 hf)), fun {E ρ σ H Φ} hI R hi D q => ?_⟩
  have z1 : bs1.length ≤ sizeLine := by rw [PySem.sizeLine_eq]; omega
  have z2 : bs2.length ≤ sizeLine := by rw [PySem.sizeLine_eq]; omega
  have z3 : bs1.length + bs2.length ≤ sizeLine := by rw [PySem.sizeLine_eq]; exact hz
  have jl : j < σ.length := by have := R.gl; have := R.len; omega
  refine h1.sd σ H _ hi ⟨by rw [List.length_map]; exact z1, fun p hp => ?_⟩
  refine ⟨.ref p, List.getElem?_set_self jl, ?_⟩
  have hi1 : (σ.set j (some (V.ref p)))[i]? = some (some (.ref a)) := by rw [List.getElem?_set_ne (Ne.symm hij)]; exact hi
  refine h2.sd _ _ _ hi1 ⟨by rw [List.length_map]; exact z2, fun q' hq => ?_⟩
  have x1 : Ext H (upd H p (.lst (bs1.map V.bl))) := ext_upd hp
  have x2 := ext_upd (o := .lst (bs2.map V.bl)) hq
  refine ⟨p, q', bs1.map .bl, bs2.map .bl, rfl, rfl, .inl (.inl (x2 _ _ upd_same)), .inl (.inl upd_same), by rw [List.length_map, List.length_map]; exact z3, fun r hr => ?_⟩
  have x3 := ext_upd (o := .lst (bs1.map V.bl ++ bs2.map V.bl)) hr
  show D.nx ((σ.set j (some (V.ref p))).set j (some (V.ref r))) _
  rw [List.set_set]
  have nr : H r = none := by
    cases e : H r with
    | none => rfl
    | some o => have := x2 _ _ (x1 _ _ e); rw [hr] at this; cases this
  refine q _ _ _ (R.set (m := 1) (Ψ := [r]) ⟨fun a o e => x3 _ _ (x2 _ _ (x1 _ _ e)), fun b m => ?_, List.nodup_cons.mpr ⟨fun m => (nomatch m), .nil⟩, ?_⟩ hG (by rw [hI]; exact hio))
  · rw [List.mem_singleton.mp m]; exact nr
  · rw [List.map_append]
    rw [← List.map_append, ← List.map_append]
    refine .lst ?_ (ownL_bl _)
    rw [List.map_append]; exact upd_same
end
/-! ### try -/
/-- try: x = f(..) except C as e: y = L (x, e, y: the slots k, i, j) -/
def sTry (k i j n t0 : Nat) (F : List D → Option R1) (fa : Store → Option (List D)) (L : List Bool) : Store → Option O := fun ρ => match fa ρ with
  | some ds => if ds.length = n then (match F ds with
    | some (.ret d) => some (.nx (ρ.set k (some d)))
    | some (.exc t) => if t = t0 then some (.nx (((ρ.set i none).set j (some (.lst (L.map .bl)))).set i none)) else none
    | none => none) else none
  | none => none
section
variable {X : Cx} {K : PySem.W.Frag} {mg : Str → Option Value} {P : Program} {w : World} {base : Heap} {Γ Γb : List Nat} {W : WX} {I : Nat → Nat} {r : Nat} {cs : Nat → Addr} {C Ch : Addr}
theorem s_try {k0 q n i j kk t0 : Nat} {F : List D → Option R1} {L : List Bool} {x nm y hx : Str} {e : Expr} {es : List Expr} {B : List Nat} {fa : Store → Option (List D)} {ta : TA} {b₀ : Stmt} {suite : List Stmt} {ts : Addr → TS} {py p pc ps np pos' pos : Pos}
    (G : CalX P w K mg base cs q x n 0 F) (hr : Room kk X.A) (hqk : q ≤ kk) (hcs : cs t0 = C) (hst : X.stack = X.env :: X.outer) (hfr : X.env.frame = some X.env.locals) (hN : X.N.Nodup)
    (hk : X.N[k0]? = some y) (hi : X.N[i]? = some nm) (hln : X.env.kindOf nm = some .local) (hgC : Gl X hx) (hmC : mg hx = some (.ref Ch)) (hexm : PySem.W.exmOne K (.ref C) (.ref Ch) = some true) (hg : Gl X x)
    (ha : ∀ pn xe, Av (X.tr pn xe) Γ (e :: es) 0 B fa ta)
    (hsu : ∀ (a : Addr) (oe : Obj) (pn : List (Addr × Obj)), Zc (.ref C) none oe → (∃ vs, oe.data = .fields vs) → SuV (X.suite a ((a, oe) :: pn)) I i a j L Γ (b₀ :: suite) (ts a))
    (hG : k0 < Γ.length) (hio : I k0 = 0) (hii : I i = 0) (hΓk : Γ.set k0 0 = Γ := by rfl) (hΓj : Γ.set j 1 = Γ := by rfl) (hil : i < Γ.length := by decide)
    (hP : X.prog = P := by rfl) (hw : X.w = w := by rfl) (hK : X.K = K := by rfl) (hm : X.mg = mg := by rfl) (hb : X.base = base := by rfl)
    (hlx : Loc X.env.scope y := by first | exact Or.inl rfl | exact Or.inr rfl) (hs : swapsWith (.Call (.Name x p) (e :: es) [] pc) (some (.Name y py)) ps.line X.env = pure false := by rfl) (hf : X.fn y = true ∨ X.env.scope.names.lookup y = some .local := by first | exact .inl rfl | exact .inr rfl)
    (hdb : (x == ("__debug__" : Str)) = false := by decide) (hdc : (hx == ("__debug__" : Str)) = false := by decide) (he : starEach (e :: es) X.env = (false, eval e X.env) :: starEach es X.env := by rfl) (hpl : (backTo pc (starEach es X.env)).any (·.1) = false := by rfl) :
    Sv X W I r Γ Γb (.Try [.Assign [.Name y py] (.Call (.Name x p) (e :: es) [] pc) ps] [.ExceptHandler (some (.Name hx np)) (some nm) (b₀ :: suite) pos'] [] [] pos) Γ (sTry k0 i j n t0 F fa L)
      (fun D σ H => tAsg (tCallS (spX K cs n 0 F) (WE (wAs K (.ref Ch) i (fun a cls d D σ H => cls = .ref C ∧ d = none ∧ ts a D σ H) (fun _ _ _ _ => False) D)) ta) (gName k0) D σ H) := by
  subst hP hw hK hm hb
  obtain ⟨f, fd, pl, Fn, hmf, hkf, hbf⟩ := G.ex
  refine ⟨ps_try_as (X := X) (tb := fun W => tAsg (tCallS (spX X.K cs n 0 F) (WE W) ta) (gName k0)) (ts := fun a cls d D σ H => cls = .ref C ∧ d = none ∧ ts a D σ H) (Wout := fun _ _ _ _ => False) hst hfr hN hi hln ⟨hgC, hdc, .inl hmC⟩ takes0
    (fun W pn xe tk _ => pss_one (ps_set (X := X.tr pn xe) hN hk hlx (pe_callS (X := X.tr pn xe) Fn (hr.mono hqk) hg hmf hkf hbf (fun σ => passAt tk σ) (ha pn xe).pa hdb he hpl) hs hf))
    (fun a oe cls d pn hz hfl => ⟨fun pins s σ H D Iv h => by
      obtain ⟨rfl, rfl, h⟩ := h
      exact (hsu a oe pn hz hfl).pss.run pins s σ H D Iv h⟩), ⟨fun {E ρ σ H Φ} hI R o eo D qq => ?_⟩⟩
  unfold sTry at eo
  split at eo
  · rename_i ds e1
    split at eo
    · rename_i hn
      refine (ha [] (fun _ _ => False)).sd.sh R e1 _ fun vs H1 x1 o1 => ?_
      have own1 : OwnL X.K H1 (fun _ => True) 0 ds vs [] := o1.move (fun a o e _ => e) (fun a o e z => ⟨e, trivial⟩) fun a m => (nomatch m)
      split at eo
      · rename_i d e2
        cases eo
        refine ⟨ds, .ret d, hn, own1, e2, fun d' ed v H2 Ψ x2 new nd ow => ?_, fun t et => by cases et⟩
        cases ed
        have R2 := R.set (i := k0) (m := 0) (res_of (B := []) R x1 x2 new nd (ow _)) hG (by rw [hI]; exact hio)
        rw [hΓk] at R2
        exact qq _ _ _ R2
      · rename_i t e2
        split at eo
        · rename_i et0
          subst et0
          cases eo
          refine ⟨ds, .exc t, hn, own1, e2, fun d' ed => (by cases ed), fun t' et H2 x2 => ?_⟩
          cases et
          rw [hcs]
          refine ⟨true, hexm, fun _ a na => ⟨rfl, rfl, ?_⟩, fun z => Bool.noConfusion z⟩
          have R2 := ((R.ext x1).ext x2).junk i (some (.ref a)) (by rw [hI]; exact hii)
          have il : i < σ.length := by have := R.gl; have := R.len; omega
          obtain ⟨oe0, hz0, hf0⟩ : ∃ oe : Obj, Zc (.ref C) none oe ∧ ∃ vs, oe.data = .fields vs := ⟨⟨.ref C, none, .fields #[], #[]⟩, ⟨rfl, rfl⟩, _, rfl⟩
          refine (hsu a oe0 [] hz0 hf0).sd hI R2 (List.getElem?_set_self il) _ fun σ3 H3 Φ3 R3 => ?_
          have R4 : StR X.K E (Γ.set j 1) _ _ _ _ := R3.junk i none (by rw [hI]; exact hii)
          rw [hΓj] at R4
          exact qq _ _ _ R4
        · cases eo
      · cases eo
    · cases eo
  · cases eo
end
end VL

/-! VL32: a, b = a list of two; return [e, y], y an owned list; the head's facts of own errors' classes. -/
namespace VLU
open PySem PySem.Spec
section
variable {prog : Program} {w : World} {A : Around} {E : Value → Shared → Prop} {s : Shared}
theorem draw_list {it l : Addr} {items : Array Value} (hne : l ≠ it) : ∀ (n i : Nat) (s : Shared) (Q : List Value → Shared → Prop), s.heap.IsListIter it l i → s.heap.IsList l items → i + n ≤ items.size →
    (∀ h', h'.IsListIter it l (i + n) → Heap.SameBut it s.heap h' → Q ((items.toList.drop i).take n) { s with heap := h' }) → wpAny (model prog w) A (draw (.ref it) n) Q E s
  | 0, i, s, Q, hit, _, _, hQ => by
    show wpAny _ _ (pure []) Q E s
    exact wpAny_pure (by simpa using hQ s.heap hit (Heap.SameBut.refl ..))
  | n + 1, i, s, Q, hit, hl, hle, hQ => by
    have hlt : i < items.size := by omega
    show wpAny _ _ (pyNext (.ref it) >>= _) Q E s
    refine wpAny_bind (wpAny_pyNext_list_item hit hl (x := items[i]) (by simp [hlt]) fun h₁ hit₁ hs₁ => ?_)
    refine wpAny_bind (wpAny_holding (draw_list hne n (i + 1) _ _ hit₁ (hl.extBut hs₁.extBut hne) (by omega) fun h₂ hit₂ hs₂ => wpAny_pure ?_))
    have hd : items.toList.drop i = items[i] :: items.toList.drop (i + 1) := by simp [List.drop_eq_getElem_cons, hlt]
    have := hQ h₂ (by rw [show i + (n + 1) = i + 1 + n by omega]; exact hit₂) (hs₁.trans hs₂)
    rw [hd, List.take_succ_cons] at this
    exact this
theorem unpackItems_list {l : Addr} {items : Array Value} {Q : List Value → Shared → Prop} (hh : A.handled = none) (hl : s.heap.IsList l items)
    (hQ : ∀ h', Heap.ExtBut s.heap.objs.size s.heap h' → Q items.toList { s with heap := h' }) : wpAny (model prog w) A (unpackItems (.ref l) items.size none) Q E s := by
  have hlt : l ≠ s.heap.objs.size := by obtain ⟨o, ho, _⟩ := hl; exact Nat.ne_of_lt (Heap.lt_size ho)
  unfold unpackItems
  refine wpAny_bind ?_
  · unfold notIterableAtAll
    refine wpAny_bind (wpAny_specialOf hl.typeIs slot_list_iter.lookup ?_)
    refine wpAny_pure ?_
    simp only [Bool.false_eq_true, if_false]
    refine wpAny_bind (wpAny_holding (wpAny_pyIter_list hl ?_))
    refine wpAny_bind (wpAny_holding (draw_list hlt items.size 0 _ _ ⟨_, Heap.get?_push_size _ rfl, rfl, rfl⟩ (hl.push _) (by omega) fun h₁ hit₁ hs₁ => ?_))
    have hall : List.take items.size (List.drop 0 items.toList) = items.toList := by
      rw [List.drop_zero]; exact List.take_of_length_le (by simp)
    rw [hall]
    rw [if_neg (by simp)]
    have hl₁ : h₁.IsList l items := (hl.push _).extBut hs₁.extBut hlt
    refine wpAny_bind (wpAny_holding (wpAny_pyNext_list_end hh hit₁ hl₁ (by simp) fun h₂ he₂ => ?_))
    simp only [Option.isSome_none, Bool.false_eq_true, if_false]
    refine wpAny_pure (hQ h₂ fun b o hb e => he₂ b o hb (hs₁.extBut b o hb (Heap.get?_push_of_some _ e)))
theorem assign_Tuple_list {env : Env} {elts : List Expr} {x1} {pos : Pos} {l : Addr} {items : Array Value} {Q : Unit → Shared → Prop} (hh : A.handled = none) (hl : s.heap.IsList l items)
    (hn : (assignEach elts env).length = items.size) (hstar : (assignEach elts env).findIdx? (·.1) = none)
    (h : ∀ h', Heap.ExtBut s.heap.objs.size s.heap h' → wpAny (model prog w) A (assignInOrder ((assignEach elts env).map (·.2)) items.toList) Q E { s with heap := h' }) :
    wpAny (model prog w) A (assign (.Tuple elts x1 pos) env (.ref l)) Q E s := by
  rw [PyProof.Rows.assign_Tuple]
  refine wpAny_bind (wpAny_standAt ?_)
  unfold unpack
  rw [hn, hstar]
  exact wpAny_bind (wpAny_holding (unpackItems_list hh hl h))
end
end VLU
namespace VL
open PySem PySem.Spec L2
open PyProof.Rows hiding St
section
variable {X : Cx} {K : PySem.W.Frag} {Γ : List Nat} {W : WX} {I : Nat → Nat} {r k m : Nat} {Γb Γ' : List Nat} {B : List Nat} {e a b tg : Expr} {f : Store → Option D} {te t : TE} {pos p : Pos}
/-- (a, b, ..) = a list of that length -/
def gTupL (K : PySem.W.Frag) (n : Nat) (t : TGs) : TG := fun v σ H Q => ∃ a xs, v = .ref a ∧ SqL K H a xs ∧ xs.length = n ∧ t xs σ H Q
theorem pg_tupL {es : List Expr} {k : Nat} {t : TGs} {n : Nat} (hc : X.calm = true) (h : PGs X es t)
    (hn : (assignEach es X.env).length = n := by rfl) (hst : (assignEach es X.env).findIdx? (·.1) = none := by rfl) : PG X (.Tuple es k pos) (gTupL X.K n t) := by
  refine ⟨fun pins s σ H v u Q I r hw => ?_⟩
  obtain ⟨a, xs, e1, hq, hl, hw⟩ := hw
  subst e1
  cases r
  obtain ⟨its, rv, ⟨o, n', h1, h2, _, h3⟩, hz⟩ := I.list hq
  refine VLU.assign_Tuple_list (I.ok.hd hc) ⟨o, h1, h2, n', h3⟩ (by simp [hn, ← hl, rv.length]) hst fun h' hx => ?_
  have I1 : Inv X pins σ H { s with heap := h' } := I.kept (t' := s.toks) fun b o e => hx b o (Nat.ne_of_lt (Heap.lt_size e)) e
  exact h.run pins _ σ H xs _ Q I1 (by simpa using rv) hw
def gSet2L (i j : Nat) : D → Store → Option Store := fun d ρ => match d with
  | .lst [x, y] => some ((ρ.set i (some x)).set j (some y))
  | _ => none
theorem sdg_twoL {i j : Nat} (hG : i < Γ.length) (hG' : j < Γ.length) (hi : I i = 0) (hj : I j = 0) : SdG K I Γ (gTupL K 2 (gCons (gName i) (gCons (gName j) gNil))) ((Γ.set i 0).set j 0) (gSet2L i j) [i, j] := by
  refine ⟨fun {E ρ σ H Φ} hI R d v o ρ' e Q q => ?_⟩
  unfold gSet2L at e
  split at e
  · rename_i x y
    cases e
    obtain ⟨a, vs, rfl, hs, hl⟩ := o.lst_inv0
    obtain ⟨v1, vs1, rfl, h1, hl⟩ := hl.cons_inv0
    obtain ⟨v2, vs2, rfl, h2, hl⟩ := hl.cons_inv0
    obtain rfl := hl.nil_inv
    refine ⟨a, [v1, v2], rfl, hs, rfl, v1, [v2], rfl, ?_⟩
    have R1 := set_sh R h1 hG (by rw [hI]; exact hi)
    have R2 := set_sh R1 (own_less h2) (by rw [List.length_set]; exact hG') (by rw [hI]; exact hj)
    refine ⟨v2, [], rfl, rfl, q _ _ R2 ⟨fun k n => ?_, by rw [List.length_set, List.length_set]⟩ fun k n => ?_⟩
    · have n1 : j ≠ k := fun e => n (by rw [e]; exact List.mem_cons_of_mem _ (List.mem_singleton.mpr rfl))
      have n2 : i ≠ k := fun e => n (by rw [e]; exact List.mem_cons_self)
      rw [List.getElem?_set_ne n1, List.getElem?_set_ne n2]
    · have n1 : k ≠ j := fun e => n (by rw [e]; exact List.mem_cons_of_mem _ (List.mem_singleton.mpr rfl))
      have n2 : k ≠ i := fun e => n (by rw [e]; exact List.mem_cons_self)
      show (if k = j then [] else if k = i then [] else Φ k) = Φ k
      rw [if_neg n1, if_neg n2]
  · cases e
theorem g_twoL (i j : Nat) {x y : Str} {p1 p2 : Pos} {kk : Nat} (hN : X.N.Nodup) (hc : X.calm = true := by rfl) (hi : X.N[i]? = some x := by rfl) (hj : X.N[j]? = some y := by rfl) (hx : Loc X.env.scope x := by first | exact Or.inl rfl | exact Or.inr rfl) (hy : Loc X.env.scope y := by first | exact Or.inl rfl | exact Or.inr rfl) (hG : i < Γ.length := by decide) (hG' : j < Γ.length := by decide) (hio : I i = 0 := by rfl) (hio' : I j = 0 := by rfl) (hf : X.fn x = true ∨ X.env.scope.names.lookup x = some .local := by first | exact .inl rfl | exact .inr rfl)
    (hf' : X.fn y = true ∨ X.env.scope.names.lookup y = some .local := by first | exact .inl rfl | exact .inr rfl) (hn : (assignEach [.Name x p1, .Name y p2] X.env).length = 2 := by rfl) (hst : (assignEach [.Name x p1, .Name y p2] X.env).findIdx? (·.1) = none := by rfl)
    (hs1 : (assignEach [.Name x p1, .Name y p2] X.env).map (·.2) = assign (.Name x p1) X.env :: (assignEach [.Name y p2] X.env).map (·.2) := by rfl) (hs2 : (assignEach [.Name y p2] X.env).map (·.2) = assign (.Name y p2) X.env :: (assignEach [] X.env).map (·.2) := by rfl) (hK : X.K = K := by rfl) :
    Gv X I Γ (.Tuple [.Name x p1, .Name y p2] kk pos) ((Γ.set i 0).set j 0) (gSet2L i j) [i, j] (gTupL K 2 (gCons (gName i) (gCons (gName j) gNil))) := by
  subst hK
  exact ⟨pg_tupL hc (pgs_cons (pg_name hN hi hx hf) (pgs_cons (pg_name hN hj hy hf') pgs_nil hs2) hs1) hn hst, sdg_twoL hG hG' hio hio'⟩
/-- return [e, y], y a slot's own list -/
def sRetL (i : Nat) (f : Store → Option D) : Store → Option O := fun ρ => match f ρ with
  | some d1 => (match eVar i ρ with
    | some d2 => if (d1.imm && d2.immB 1) = true then some (.rt (.lst [d1, d2]) ρ) else none
    | none => none)
  | none => none
theorem sd_retL {i : Nat} (h : SdE K (Γ.set i 0) te 0 [] f) (hi : I i = 0) (hm : Γ.getD i 0 = 1) (hio : ∀ i, I i ≠ 0 → Γ.getD i 0 = I i) : SdS K W I 2 Γ Γb Γ' (tRet (tLst (tCons te (tCons (tVar i) tNil)))) (sRetL i f) := by
  refine ⟨fun {E ρ σ H Φ} hI R o e D q => ?_⟩
  unfold sRetL at e
  split at e
  · rename_i d1 ef
    split at e
    · rename_i d2 ev
      split at e
      · rename_i him
        cases e
        rw [Bool.and_eq_true] at him
        have z2 : 2 ≤ sizeLine := by rw [PySem.sizeLine_eq]; omega
        obtain ⟨v2, h1, h2⟩ := R.val i d2 (eVar_some ev)
        rw [hm] at h2
        refine h.sh (R.dem i) ef _ fun v1 H1 x o => ?_
        refine ⟨v2, h1, ⟨z2, fun p hp => ?_⟩⟩
        have x2 := ext_upd (o := .lst [v1, v2]) hp
        have hpH : H p = none := by
          cases e : H p with
          | none => rfl
          | some o => have := x _ _ e; rw [hp] at this; cases this
        refine q (.ref p) _ ⟨Γ, σ, Φ, p :: Φ i, (R.ext x).ext x2, fun i n => by rw [hI] at n ⊢; exact hio i n, fun a m => ?_, List.nodup_cons.mpr ⟨R.notIn hpH i, R.nd i⟩, fun j n a m m' => ?_, fun N => ?_⟩
        · rcases List.mem_cons.mp m with rfl | m
          · exact R.fresh hpH
          · rcases R.nw i a m with z | ⟨z, _⟩
            · exact z
            · rw [hI] at z; exact absurd hi z
        · rcases List.mem_cons.mp m with rfl | m
          · exact R.notIn hpH j m'
          · have := R.dj i j a m m'
            subst this
            rw [hI] at n; exact n hi
        · have o1 : Own K (upd H1 p (.lst [v1, v2])) N 1 d1 v1 [] := Own.imm (fun a o e _ => x2 a o e) 1 o him.1
          have o2 : Own K (upd H1 p (.lst [v1, v2])) N 1 d2 v2 (Φ i) := (h2.move (N' := fun _ => True) (fun a o e _ => x2 _ _ (x _ _ e)) (fun a o e z => ⟨x2 _ _ (x _ _ e), trivial⟩) fun a _ o e => x2 _ _ (x _ _ e)).immB him.2
          have ol : OwnL K (upd H1 p (.lst [v1, v2])) N 1 [d1, d2] [v1, v2] (Φ i) := by
            have := OwnL.cons (fp := []) o1 (OwnL.cons o2 OwnL.nil)
            simpa using this
          exact .lst upd_same ol
      · cases e
    · cases e
  · cases e
theorem s_retL (i : Nat) {y : Str} {py pl : Pos} (he : Ev X (Γ.set i 0) e 0 [] f te) (hm : Γ.getD i 0 = 1 := by rfl) (hi : X.N[i]? = some y := by rfl) (hio : I i = 0 := by rfl) (hii : ∀ i, I i ≠ 0 → Γ.getD i 0 = I i := by exact fun i n => absurd rfl n) (hv : Vis X.env.scope y := by first | exact Or.inl rfl | exact Or.inr (Or.inl rfl) | exact Or.inr (Or.inr rfl)) (hd : (y == ("__debug__" : Str)) = false := by decide) (hcd : (y == ("__classdict__" : Str)) = false := by decide)
    (hs1 : starEach [e, .Name y py] X.env = (false, eval e X.env) :: starEach [.Name y py] X.env := by rfl) (hs2 : starEach [.Name y py] X.env = (false, eval (.Name y py) X.env) :: starEach [] X.env := by rfl) :
    Sv X W I 2 Γ Γb (.Return (some (.List [e, .Name y py] pl)) pos) Γ' (sRetL i f) (tRet (tLst (tCons te (tCons (tVar i) tNil)))) :=
  ⟨ps_ret (pe_lst (pa_cons he.pe (pa_cons (pe_var hi hv hd hcd) pa_nil hs2) hs1)), sd_retL he.sd hio hm hii⟩
end
/-! ### the head: facts of the errors' classes -/
def excCB (K : PySem.W.Frag) (D : Addr) : Bool := He.eqO (PySem.W.findIn K (.ref D) "__getattribute__") (some (some (.builtin "BaseException.__getattribute__"))) && (He.eqO (PySem.W.findIn K (.ref D) "__getattr__") (some none) && (decide (PySem.W.subIn K (.ref D) (.type "BaseException") = some true) && (PySem.W.hasDictIn K D &&
  (He.eqO (PySem.W.findIn K (.ref D) "__class__") (some (some (.builtin "object.__class__"))) && (He.eqO (PySem.W.specialIn K (.builtin "object.__class__") "__get__") (some (some (.builtin "getset_descriptor.__get__"))) && (decide (PySem.W.takesIn K (.builtin "object.__class__") = some true) && decide (PySem.W.mroIn K D (.type "object") = some true)))))))
theorem excC_ok {K : PySem.W.Frag} {D : Addr} (h : excCB K D = true) : ExcC K D := by
  obtain ⟨h1, h⟩ := He.ba h
  obtain ⟨h2, h⟩ := He.ba h
  obtain ⟨h3, h⟩ := He.ba h
  obtain ⟨h4, h⟩ := He.ba h
  obtain ⟨h5, h⟩ := He.ba h
  obtain ⟨h6, h⟩ := He.ba h
  obtain ⟨h7, h8⟩ := He.ba h
  exact ⟨He.eqO_ok h1, He.eqO_ok h2, of_decide_eq_true h3, h4, He.eqO_ok h5, He.eqO_ok h6, of_decide_eq_true h7, of_decide_eq_true h8⟩
/-- x's errors: class, isinstance by the classes in l (own) and t (built-in) -/
def kitsB (K : PySem.W.Frag) (x : Str) (l : List (Str × Bool)) (t : List (String × Bool)) : Bool := excCB K (He.ga K x) && ((l.all fun q => decide (PySem.W.kitOne K (.ref (He.ga K x)) (.ref (He.ga K q.1)) = some q.2)) && (t.all fun q => decide (PySem.W.kitOne K (.ref (He.ga K x)) (.type q.1) = some q.2)))
structure Kits (K : PySem.W.Frag) (x : Str) (l : List (Str × Bool)) (t : List (String × Bool)) : Prop where
  c : ExcC K (He.ga K x)
  o : ∀ {y : Str} {b : Bool}, (y, b) ∈ l → PySem.W.kitOne K (.ref (He.ga K x)) (.ref (He.ga K y)) = some b
  t : ∀ {y : String} {b : Bool}, (y, b) ∈ t → PySem.W.kitOne K (.ref (He.ga K x)) (.type y) = some b
theorem kits_ok {K : PySem.W.Frag} {x : Str} {l : List (Str × Bool)} {t : List (String × Bool)} (h : kitsB K x l t = true) : Kits K x l t := by
  obtain ⟨h1, h⟩ := He.ba h
  obtain ⟨h2, h3⟩ := He.ba h
  exact ⟨excC_ok h1, fun {y b} m => of_decide_eq_true (List.all_eq_true.mp h2 (y, b) m), fun {y b} m => of_decide_eq_true (List.all_eq_true.mp h3 (y, b) m)⟩
abbrev AlE : Type := He.AlD × Bool
def obsE (n : Nat) (fa : List He.Fa) (fn : List He.DefD) (ex : PySem.W.Frag → Bool) (g : Addr → Option Obj) : AlE := (He.obsD fa fn (He.frG g (He.asD g n)), ex (He.frG g (He.asD g n)))
def hookE (n : Nat) (fa : List He.Fa) (fn : List He.DefD) (ex : PySem.W.Frag → Bool) : PySem.W.Hook where
  α := AlE
  obs := fun s => obsE n fa fn ex s.heap.get?
  val := fun _ => (He.valD fn, true)
  says := fun _ h => ∃ K : PySem.W.Frag, K.In h ∧ (He.SaysD fa fn K ∧ ex K = true)
  of := fun _ _ e => ⟨_, He.frG_in, congrArg (fun z : AlE => z.1) e, congrArg (fun z : AlE => z.2) e⟩
  keeps := fun _ _ _ ⟨K, hK, c⟩ k => ⟨K, PySem.W.Frag.In.keeps hK k, c⟩
theorem obsE_eq {n : Nat} {fa : List He.Fa} {fn : List He.DefD} {ex : PySem.W.Frag → Bool} {g : Addr → Option Obj} {s : Shared} (h : ∀ a, g a = s.heap.get? a) : obsE n fa fn ex g = (hookE n fa fn ex).obs s := by
  have e : g = s.heap.get? := funext h
  rw [e] <;> rfl
end VL

/-! VL33: list(reversed(a list)); sorted(set(a tuple of ints)); a, (b, c) = an item; x[-1].append(e). -/
namespace VLR
open PySem PySem.Spec PyProof.Rows RT
section
variable {prog : Program} {w : World} {A : Around} {E : Value → Shared → Prop} {s : Shared}
theorem extend_rev {it l : Addr} {items : Array Value} {R : Result → Shared → Prop} (hh : A.handled = none) (hit : s.heap.IsRevIter it l ((items.size : Int) - 1)) (hl : s.heap.IsList l items) (hne : l ≠ it) (hn : items.size ≤ sizeLine)
    (S : Addr) (hSi : S ≠ it) (hSl : S ≠ l) (res : Value) (c₀ : Nat) (hS : s.heap.get? S = some { cls := .type "list", data := .seq #[] c₀ })
    (hR : ∀ (h' : Heap) (tk : Nat) (acc : Array Value) (c : Nat), (∀ b o, b ≠ S → b ≠ it → s.heap.get? b = some o → h'.get? b = some o) → h'.get? S = some { cls := .type "list", dict := none, data := .seq acc c, slots := #[] } → ItemsOf (fun i v => items[items.size - 1 - i]? = some v) acc items.size → R (.ok (.ret res)) { s with heap := h', toks := tk }) :
    wpAny (model prog w) A.in1 (Builtin.List.listExtendWith (.ref S) (.ref it) res)
      (fun fin s' => match fin with | .done f => R (.ok f) s' | .again c' => c'.quiet = true ∧ codeAny (model prog w) A c' R s') (fun e s' => R (.error e) s') s := by
  have W := (Walks.listRev (prog := prog) (w := w) (A := A.in1) hh it l hne items).toS
  have hSf : S ∉ [it, l] := by simp only [List.mem_cons, List.not_mem_nil, or_false, not_or]; exact ⟨hSi, hSl⟩
  have hT : s.TypeIs (.ref it) "list_reverseiterator" := hit.typeIs
  have h1 : Builtin.List.listSameRef (.ref S) (.ref it) = false := by simp [Builtin.List.listSameRef, hSi]
  unfold Builtin.List.listExtendWith
  refine wpAny_bind (wpAny_typeOf hT ?_)
  rw [if_neg (by rw [h1]; decide)]
  refine wpAny_bind (wpAny_pyIter_revIter hit ?_)
  refine wpAny_bind (wpAny_holding ?_)
  unfold Builtin.List.listLengthHint
  refine wpAny_bind (wpAny_specialOf hT nolen_lri ?_)
  show wpAny _ A.in1 (specialOf (Value.ref it) (Str.ofString "__length_hint__") >>= _) _ _ _
  refine wpAny_bind (wpAny_specialOf hT hint_lri ?_)
  generalize hid : ("list_reverseiterator.__length_hint__" : String) = id0
  wp_delta
  rw [show splitId id0 = some ("list_reverseiterator", "__length_hint__") from by subst hid; decide +kernel]
  subst hid
  refine wpAny_bind (wpAny_isInstance (b := true) hT (by rw [isSubtype_type]; kernel_rfl) ?_)
  refine wpAny_pure ?_
  rw [if_neg (by decide)]
  have e0 : ((items.size : Nat) : Int) - 1 - ((0 : Nat) : Int) = (items.size : Int) - 1 := by omega
  refine wpAny_pure ⟨plainId_quiet F.plain_extend_loop _, codeAny_extend_loopS W hn _ hSf _ items.size 0 _ _ _ rfl (Nat.zero_le _) ⟨Nat.zero_le _, by rw [e0]; exact hit, hl⟩ hS (ItemsOf.nil _) fun s' acc' c' hm hS' hacc => ?_⟩
  rw [Moved.eq_with hm]
  refine hR s'.heap s'.toks acc' c' (fun b o hb hb2 e => hm.heap b o (fun hmem => ?_) e) hS' hacc
  rcases List.mem_cons.mp hmem with e' | hmem
  · exact hb e'
  · exact hb2 (List.mem_singleton.mp hmem)
theorem call_list_rev {it l : Addr} {items : Array Value} {Q : Value → Shared → Prop} (hh : A.handled = none) (hit : s.heap.IsRevIter it l ((items.size : Int) - 1)) (hl : s.heap.IsList l items) (hne : l ≠ it) (hn : items.size ≤ sizeLine)
    (hQ : ∀ (h' : Heap) (tk : Nat) (acc : Array Value) (c : Nat), (∀ b o, b ≠ it → s.heap.get? b = some o → h'.get? b = some o) → h'.get? s.heap.objs.size = some { cls := .type "list", dict := none, data := .seq acc c, slots := #[] } → ItemsOf (fun i v => items[items.size - 1 - i]? = some v) acc items.size →
      Q (.ref s.heap.objs.size) { s with heap := h', toks := tk }) :
    wpAny (model prog w) A (call (.type "list") [.ref it]) Q E s := by
  obtain ⟨oi, hoi, _⟩ := id hit
  obtain ⟨ol, hol, _⟩ := id hl
  have hSi : s.heap.objs.size ≠ it := Nat.ne_of_gt (Heap.lt_size hoi)
  have hSl : s.heap.objs.size ≠ l := Nat.ne_of_gt (Heap.lt_size hol)
  refine callType_codes (Q₁ := fun obj s₁ => obj = .ref s.heap.objs.size ∧ s₁ = { s with heap := s.heap.push { cls := .type "list", data := .seq #[] } }) PySem.F.called_list (PySem.F.typeCall_list_1 _) PySem.F.entry_list_init
    (code_list_new _ ⟨rfl, rfl⟩) fun obj s₁ h₁ => ?_
  obtain ⟨rfl, rfl⟩ := h₁
  have hS : (s.heap.push { cls := .type "list", data := .seq #[] }).get? s.heap.objs.size = some { cls := .type "list", data := .seq #[] } := Heap.get?_push_size _ rfl
  refine ⟨⟨_, hS, rfl⟩, PySem.F.args_list_init_2 _ _, ?_⟩
  show wpAny _ _ (do let old ← Builtin.List.listItems (.ref s.heap.objs.size); Builtin.List.listUpdate (.ref s.heap.objs.size) (fun _ => #[]); letGo old.toList.reverse; Builtin.List.listExtendWith (.ref s.heap.objs.size) (.ref it) .none) _ _ _
  refine wpAny_bind ?_
  unfold Builtin.List.listItems
  refine wpAny_bind (wpAny_seqItems hS rfl (wpAny_pure ?_))
  show wpAny _ _ (updateSeq s.heap.objs.size (fun _ => #[]) >>= fun _ => letGo (#[] : Array Value).toList.reverse >>= fun _ => Builtin.List.listExtendWith (.ref s.heap.objs.size) (.ref it) .none) _ _ _
  refine wpAny_bind (wpAny_updateSeq hS rfl ?_)
  have hS₂ := Heap.get?_update_self (Obj.mapSeq (fun _ => (#[] : Array Value))) hS rfl
  have oth : ∀ b o, s.heap.get? b = some o → ((s.heap.push { cls := .type "list", data := .seq #[] }).update s.heap.objs.size (Obj.mapSeq (fun _ => (#[] : Array Value)))).get? b = some o :=
    fun b o e => (Heap.get?_update_other _ _ (Nat.ne_of_gt (Heap.lt_size e))).trans (Heap.get?_push_of_some _ e)
  refine wpAny_bind (wpAny_letGo ?_)
  refine extend_rev (A := A.in1) hh (hit.at fun o e => oth it o e) ?_ hne hn _ hSi hSl .none _ hS₂ fun h' tk acc c hk hS' hacc => ?_
  · obtain ⟨o, e, r⟩ := hl
    exact ⟨o, oth l o e, r⟩
  · exact ⟨rfl, hQ h' tk acc c (fun b o hb e => hk b o (Nat.ne_of_lt (Heap.lt_size e)) hb (oth b o e)) hS' hacc⟩
end
end VLR
namespace VL
open PySem PySem.Spec L2
open PyProof.Rows hiding St
section
variable {X : Cx} {K : PySem.W.Frag} {Γ : List Nat} {W : WX} {I : Nat → Nat} {r k m : Nat} {Γb Γ' : List Nat} {B : List Nat} {a e : Expr} {f fi : Store → Option D} {te : TE} {pos p : Pos}
/-! ### list(reversed(x)), x a list -/
def tLstRev (K : PySem.W.Frag) (te : TE) : TE := fun σ H Q => te σ H fun v H1 => ∃ (a : Addr) (xs : List V), v = .ref a ∧ SqL K H1 a xs ∧ ∀ q, H1 q = none → Q (.ref q) (upd H1 q (.lst xs.reverse))
theorem pe_lstRev {p p2 pos pos2 : Pos} (hc : X.calm = true) (hg : Gl X "list") (hm : X.mg "list" = none) (hg2 : Gl X "reversed") (hm2 : X.mg "reversed" = none) (he : PE X e te)
    (hs : starEach [e] X.env = (false, eval e X.env) :: starEach [] X.env := by rfl)
    (hs2 : starEach [.Call (.Name "reversed" p2) [e] [] pos2] X.env = (false, eval (.Call (.Name "reversed" p2) [e] [] pos2) X.env) :: starEach [] X.env := by rfl) :
    PE X (.Call (.Name "list" p) [.Call (.Name "reversed" p2) [e] [] pos2] [] pos) (tLstRev X.K te) := by
  refine ⟨fun pins s σ H Q I h => ?_⟩
  refine Call_ (ld_blt I hg hm (show bootBuiltins "list" = some (.type "list") by decide +kernel) (PyProof.Rows.callWith_type1 (PyProof.Rows.args_cons (Call_ (ld_blt I hg2 hm2 PyProof.Rows.boot_reversed (PyProof.Rows.callWith_type1 (PyProof.Rows.args_cons (thn (he.run pins s σ H _ I h) fun u s1 ⟨v, H1, I1, r1, q1⟩ => PyProof.Rows.args_nil ?_) hs) hs rfl))) hs2) hs2 rfl))
  obtain ⟨a, xs, ev, hq, q⟩ := q1
  subst ev
  obtain rfl : u = Value.ref a := r1
  obtain ⟨its, rv, p', hz⟩ := I1.list hq
  refine call_reversed_list p'.isList (PyProof.Rows.args_nil ?_)
  have k0 : ∀ b o, s1.heap.get? b = some o → (s1.heap.push (revObj a ((its.toArray.size : Int) - 1))).get? b = some o := fun b o e => Heap.get?_push_of_some _ e
  have I2 : Inv X pins σ H1 { s1 with heap := s1.heap.push (revObj a ((its.toArray.size : Int) - 1)) } := I1.kept (t' := s1.toks) k0
  obtain ⟨f0, f1, f2, f3, f4, f5⟩ := I1.fpOk (H' := H1) (b := s1.heap.objs.size) (Nat.le_refl _) (I1.hok.fresh (Nat.le_refl _))
  have hl := p'.isList
  obtain ⟨ol, hol, _⟩ := id hl
  have hne : a ≠ s1.heap.objs.size := Nat.ne_of_lt (Heap.lt_size hol)
  have hn : its.toArray.size ≤ sizeLine := by rw [List.size_toArray, ← rv.length]; exact hz
  refine VLR.call_list_rev (s := { s1 with heap := s1.heap.push (revObj a ((its.toArray.size : Int) - 1)) }) (I1.ok.hd hc) ⟨_, Heap.get?_push_size _ rfl, rfl, rfl⟩ (hl.push _) hne hn fun h' tk acc c hk hS hi => ?_
  obtain ⟨G, g1, g2⟩ := restrict h' fun b => decide (b ≠ (s1.heap.push (revObj a ((its.toArray.size : Int) - 1))).objs.size)
  have hsz : s1.heap.objs.size < (s1.heap.push (revObj a ((its.toArray.size : Int) - 1))).objs.size := by rw [Heap.size_push]; exact Nat.lt_succ_self _
  have gk : ∀ b, b ≠ (s1.heap.push (revObj a ((its.toArray.size : Int) - 1))).objs.size → G.get? b = h'.get? b := fun b hb => g1 b (decide_eq_true hb)
  have I3 : Inv X pins σ H1 { s1 with heap := G, toks := tk } := I2.turned (t' := tk) (fun b o hb e => by
    rw [gk b (Nat.ne_of_lt (Heap.lt_size e))]
    exact hk b o hb e) f0 f1 f3 f4 f5
  have fr : (s1.heap.push (revObj a ((its.toArray.size : Int) - 1))).objs.size = s1.heap.objs.size + 1 := Heap.size_push _ _
  have hnone : H1 (s1.heap.push (revObj a ((its.toArray.size : Int) - 1))).objs.size = none := I1.hok.fresh (by rw [fr]; exact Nat.le_succ _)
  have k2 : ∀ b o, G.get? b = some o → h'.get? b = some o := fun b o e => by
    by_cases hb : b = (s1.heap.push (revObj a ((its.toArray.size : Int) - 1))).objs.size
    · rw [hb, g2 _ (by simp)] at e; cases e
    · rw [← gk b hb]; exact e
  exact ⟨.ref _, upd H1 (s1.heap.push (revObj a ((its.toArray.size : Int) - 1))).objs.size (.lst xs.reverse), I3.laidN (t' := tk) k2 (g2 _ (by simp)) hnone (show ObjOk X.prog X.w _ _ _ (.lst xs.reverse) from ⟨by rw [List.length_reverse]; exact hz, acc.toList, c, RT.vals_rev rv hi, by rw [Array.toArray_toList]; exact hS⟩), rfl, q _ hnone⟩
def eLRev (f : Store → Option D) : Store → Option D := fun ρ => match f ρ with
  | some (.lst ds) => some (.lst ds.reverse)
  | _ => none
theorem xev_lrev {p p2 pos pos2 : Pos} (hc : X.calm = true) (hg : Gl X "list") (hm : X.mg "list" = none) (hg2 : Gl X "reversed") (hm2 : X.mg "reversed" = none) (he : Ev X Γ e m B f te) (hK : X.K = K := by rfl)
    (hs : starEach [e] X.env = (false, eval e X.env) :: starEach [] X.env := by rfl)
    (hs2 : starEach [.Call (.Name "reversed" p2) [e] [] pos2] X.env = (false, eval (.Call (.Name "reversed" p2) [e] [] pos2) X.env) :: starEach [] X.env := by rfl) :
    Ev X Γ (.Call (.Name "list" p) [.Call (.Name "reversed" p2) [e] [] pos2] [] pos) 1 B (eLRev f) (tLstRev K te) := by
  subst hK
  refine ⟨pe_lstRev hc hg hm hg2 hm2 he.pe hs hs2, ⟨fun {E ρ σ H Φ} R d e Q q => ?_⟩⟩
  unfold eLRev at e
  split at e
  · rename_i ds e1
    cases e
    refine he.sd.sh R e1 _ fun v H1 x o => ?_
    obtain ⟨l, vs, rfl, s, lo⟩ := o.lst_inv0
    refine ⟨l, vs, rfl, s, fun p hp => ?_⟩
    exact fin_lst (fun v H2 Ψ x2 new nd o2 => q v H2 Ψ (res_of R x x2 new nd o2)) (lo.rev0 rfl) p hp
  · cases e
theorem lrev_ok {ρ : Store} {ds : List D} (h : f ρ = some (.lst ds)) : eLRev f ρ = some (.lst ds.reverse) := by unfold eLRev; rw [h]
/-! ### sorted(set(t)), t a tuple of ints -/
def tSortedSetT (K : PySem.W.Frag) (ta : TE) : TE := fun σ H Q => ta σ H fun x H1 => ∃ l, ∃ ns : List Int, x = .ref l ∧ SqT K H1 l (ns.map V.int) ∧ ns.length < 64 ∧ ∀ p, H1 p = none → Q (.ref p) (upd H1 p (.lst ((sortI (dis ns)).map V.int)))
theorem pe_sortedSetT {ta : TE} {p p2 q pos : Pos} (hc : X.calm = true) (hg : Gl X "sorted") (hm : X.mg "sorted" = none) (hg2 : Gl X "set") (hm2 : X.mg "set" = none) (ha : PE X a ta)
    (na : starEach [a] X.env = (false, eval a X.env) :: starEach [] X.env := by rfl) : PE X (.Call (.Name "sorted" p) [.Call (.Name "set" p2) [a] [] q] [] pos) (tSortedSetT X.K ta) := by
  refine ⟨fun pins s σ H Q I h => ?_⟩
  refine Call_ (ld_blt I hg hm (show bootBuiltins "sorted" = some (.builtin "sorted") by decide +kernel) ?_)
  refine PyProof.Rows.callWith_builtin1 (PyProof.Rows.args_cons ?_ rfl) rfl rfl
  refine Call_ (ld_blt I hg2 hm2 boot_set ?_)
  refine PyProof.Rows.callWith_type1 (PyProof.Rows.args_cons (thn (ha.run pins s σ H _ I h) fun v s1 ⟨x, H1, I1, r1, q1⟩ => PyProof.Rows.args_nil ?_) na) na rfl
  obtain ⟨l, ns, rfl, hq, h1, q1⟩ := q1
  cases r1
  obtain ⟨its, r, pl, hz⟩ := I1.tuple hq
  refine call_set_tupI ns (I1.ok.hd hc) pl (by simpa using r.ints) (by unfold scanBound; omega) fun h' tk c R1 hcn hk => ?_
  refine PyProof.Rows.args_nil ?_
  have I2 : Inv X pins σ H1 { s1 with heap := h', toks := tk } := I1.kept fun b o e => hk b o e
  have hc64 : c < 64 := by omega
  have R1 : SetR X.w ({ s1 with heap := h', toks := tk } : Shared).heap s1.heap.objs.size (fun j => decide (j ∈ ns)) c := R1
  generalize ({ s1 with heap := h', toks := tk } : Shared) = s2 at I2 R1 ⊢
  refine sorted_set (s := s2) R1 (I2.ok.hd hc) hc64 fun s' p out c' ns' k g o hp hg hi hs hm hl => ?_
  have hlen : (ns'.map V.int).length ≤ sizeLine := by rw [List.length_map, hl, sizeLine_eq]; omega
  have hn : H1 p = none := I2.hok.fresh hp
  have J : Inv X pins σ (upd H1 p (.lst (ns'.map V.int))) { s2 with heap := s'.heap, gens := s'.gens, drawn := s'.drawn, toks := s'.toks } :=
    I2.call (ch := []) (Un.laid k hp hn) (I2.hok.laid k hp ⟨hlen, out.toList, c', vals_of_ints hi, hg⟩) (by rw [g]; exact I2.bare) (fun _ z => nomatch z)
  have e : s' = { s2 with heap := s'.heap, gens := s'.gens, drawn := s'.drawn, toks := s'.toks } := by
    cases s'
    cases s2
    cases o
    rfl
  have es : ns' = sortI (dis ns) := by
    refine sortI_of ?_ (hs.imp fun h => Int.le_of_lt h)
    refine (List.perm_ext_iff_of_nodup (hs.imp fun h => Int.ne_of_lt h) (nodup_dis ns)).mpr fun z => ?_
    rw [hm z, mem_dis, decide_eq_true_eq]
  rw [es] at J
  rw [e]
  exact ⟨.ref p, _, J, rfl, q1 p hn⟩
def eSortedSet (f : Store → Option D) : Store → Option D := fun ρ => match f ρ with
  | some (.tup ds) => (match D.ints ds with | some ns => if ns.length < 64 then some (.lst ((sortI (dis ns)).map .int)) else none | none => none)
  | _ => none
theorem xev_sortedSet {p p2 q pos : Pos} (hc : X.calm = true) (hg : Gl X "sorted") (hm : X.mg "sorted" = none) (hg2 : Gl X "set") (hm2 : X.mg "set" = none) (ha : Ev X Γ a m B f te) (hK : X.K = K := by rfl)
    (na : starEach [a] X.env = (false, eval a X.env) :: starEach [] X.env := by rfl) : Ev X Γ (.Call (.Name "sorted" p) [.Call (.Name "set" p2) [a] [] q] [] pos) 1 B (eSortedSet f) (tSortedSetT K te) := by
  subst hK
  refine ⟨pe_sortedSetT hc hg hm hg2 hm2 ha.pe na, ⟨fun {E ρ σ H Φ} R d e Q q => ?_⟩⟩
  unfold eSortedSet at e
  split at e
  · rename_i ds e1
    split at e
    · rename_i ns e2
      split at e
      · rename_i hl
        cases e
        refine ha.sd.sh R e1 _ fun v H1 x o => ?_
        obtain ⟨l, vs, rfl, s, lo⟩ := o.tup_inv
        rw [lo.ints e2] at s
        refine ⟨l, ns, rfl, s, hl, fun p hp => ?_⟩
        exact fin_lst (fun v H2 Ψ x2 new nd o2 => q v H2 Ψ (res_of R x x2 new nd o2)) (own_ints _) p hp
      · cases e
    · cases e
  · cases e
theorem sortedSet_ok {ρ : Store} {ns : List Int} (h : f ρ = some (.tup (ns.map .int))) (hl : ns.length < 64) : eSortedSet f ρ = some (.lst ((sortI (dis ns)).map .int)) := by
  unfold eSortedSet
  simp only [h, ints_map]
  exact if_pos hl
/-! ### a, (b, c) = an item -/
def gSetN (i j l : Nat) : D → Store → Option Store := fun d ρ => match d with
  | .tup [x, .tup [y, z]] => some (((ρ.set i (some x)).set j (some y)).set l (some z))
  | _ => none
theorem sdg_nest {i j l : Nat} (hG : i < Γ.length) (hG' : j < Γ.length) (hG2 : l < Γ.length) (hi : I i = 0) (hj : I j = 0) (hl : I l = 0) : SdG K I Γ (gTup K 2 (gCons (gName i) (gCons (gTup K 2 (gCons (gName j) (gCons (gName l) gNil))) gNil))) (((Γ.set i 0).set j 0).set l 0) (gSetN i j l) [i, j, l] := by
  refine ⟨fun {E ρ σ H Φ} hI R d v o ρ' e Q q => ?_⟩
  unfold gSetN at e
  split at e
  · rename_i x y z
    cases e
    obtain ⟨a, vs, rfl, hs, hl'⟩ := o.tup_inv
    obtain ⟨v1, vs1, rfl, h1, hl'⟩ := hl'.cons_inv0
    obtain ⟨v2, vs2, rfl, h2, hl'⟩ := hl'.cons_inv0
    obtain rfl := hl'.nil_inv
    obtain ⟨a2, ws, rfl, hs2, hl2⟩ := h2.tup_inv
    obtain ⟨w1, ws1, rfl, g1, hl2⟩ := hl2.cons_inv0
    obtain ⟨w2, ws2, rfl, g2, hl2⟩ := hl2.cons_inv0
    obtain rfl := hl2.nil_inv
    refine ⟨a, [v1, .ref a2], rfl, hs, rfl, v1, [.ref a2], rfl, .ref a2, [], rfl, a2, [w1, w2], rfl, hs2, rfl, w1, [w2], rfl, w2, [], rfl, rfl, rfl, ?_⟩
    have R1 := set_sh R h1 hG (by rw [hI]; exact hi)
    have R2 := set_sh R1 (own_less g1) (by rw [List.length_set]; exact hG') (by rw [hI]; exact hj)
    have R3 := set_sh R2 (own_less (own_less g2)) (by rw [List.length_set, List.length_set]; exact hG2) (by rw [hI]; exact hl)
    refine q _ _ R3 ⟨fun k n => ?_, by rw [List.length_set, List.length_set, List.length_set]⟩ fun k n => ?_
    · have n1 : j ≠ k := fun e => n (by rw [e]; exact List.mem_cons_of_mem _ List.mem_cons_self)
      have n2 : i ≠ k := fun e => n (by rw [e]; exact List.mem_cons_self)
      have n3 : l ≠ k := fun e => n (by rw [e]; exact List.mem_cons_of_mem _ (List.mem_cons_of_mem _ (List.mem_singleton.mpr rfl)))
      rw [List.getElem?_set_ne n3, List.getElem?_set_ne n1, List.getElem?_set_ne n2]
    · have n1 : k ≠ j := fun e => n (by rw [e]; exact List.mem_cons_of_mem _ List.mem_cons_self)
      have n2 : k ≠ i := fun e => n (by rw [e]; exact List.mem_cons_self)
      have n3 : k ≠ l := fun e => n (by rw [e]; exact List.mem_cons_of_mem _ (List.mem_cons_of_mem _ (List.mem_singleton.mpr rfl)))
      show (if k = l then [] else if k = j then [] else if k = i then [] else Φ k) = Φ k
      rw [if_neg n3, if_neg n1, if_neg n2]
  · cases e
theorem g_nest (i j l : Nat) {x y z : Str} {p1 p2 p3 p4 : Pos} {kk k2 : Nat} (hN : X.N.Nodup) (hc : X.calm = true := by rfl) (hi : X.N[i]? = some x := by rfl) (hj : X.N[j]? = some y := by rfl) (hl : X.N[l]? = some z := by rfl) (hx : Loc X.env.scope x := by first | exact Or.inl rfl | exact Or.inr rfl) (hy : Loc X.env.scope y := by first | exact Or.inl rfl | exact Or.inr rfl) (hz : Loc X.env.scope z := by first | exact Or.inl rfl | exact Or.inr rfl)
    (hG : i < Γ.length := by decide) (hG' : j < Γ.length := by decide) (hG2 : l < Γ.length := by decide) (hio : I i = 0 := by rfl) (hio' : I j = 0 := by rfl) (hio2 : I l = 0 := by rfl) (hf : X.fn x = true ∨ X.env.scope.names.lookup x = some .local := by first | exact .inl rfl | exact .inr rfl)
    (hf' : X.fn y = true ∨ X.env.scope.names.lookup y = some .local := by first | exact .inl rfl | exact .inr rfl) (hf2 : X.fn z = true ∨ X.env.scope.names.lookup z = some .local := by first | exact .inl rfl | exact .inr rfl)
    (hn : (assignEach [.Name x p1, .Tuple [.Name y p2, .Name z p3] k2 p4] X.env).length = 2 := by rfl) (hst : (assignEach [.Name x p1, .Tuple [.Name y p2, .Name z p3] k2 p4] X.env).findIdx? (·.1) = none := by rfl)
    (hs1 : (assignEach [.Name x p1, .Tuple [.Name y p2, .Name z p3] k2 p4] X.env).map (·.2) = assign (.Name x p1) X.env :: (assignEach [.Tuple [.Name y p2, .Name z p3] k2 p4] X.env).map (·.2) := by rfl) (hs2 : (assignEach [.Tuple [.Name y p2, .Name z p3] k2 p4] X.env).map (·.2) = assign (.Tuple [.Name y p2, .Name z p3] k2 p4) X.env :: (assignEach [] X.env).map (·.2) := by rfl)
    (hn' : (assignEach [.Name y p2, .Name z p3] X.env).length = 2 := by rfl) (hst' : (assignEach [.Name y p2, .Name z p3] X.env).findIdx? (·.1) = none := by rfl)
    (hs3 : (assignEach [.Name y p2, .Name z p3] X.env).map (·.2) = assign (.Name y p2) X.env :: (assignEach [.Name z p3] X.env).map (·.2) := by rfl) (hs4 : (assignEach [.Name z p3] X.env).map (·.2) = assign (.Name z p3) X.env :: (assignEach [] X.env).map (·.2) := by rfl) (hK : X.K = K := by rfl) :
    Gv X I Γ (.Tuple [.Name x p1, .Tuple [.Name y p2, .Name z p3] k2 p4] kk pos) (((Γ.set i 0).set j 0).set l 0) (gSetN i j l) [i, j, l] (gTup K 2 (gCons (gName i) (gCons (gTup K 2 (gCons (gName j) (gCons (gName l) gNil))) gNil))) := by
  subst hK
  exact ⟨pg_tup hc (pgs_cons (pg_name hN hi hx hf) (pgs_cons (pg_tup hc (pgs_cons (pg_name hN hj hy hf') (pgs_cons (pg_name hN hl hz hf2) pgs_nil hs4) hs3) hn' hst') pgs_nil hs2) hs1) hn hst, sdg_nest hG hG' hG2 hio hio' hio2⟩
end
end VL

/-! VL34: x[i].append(e), x a slot's own list of own lists. -/
namespace VL
open PySem PySem.Spec L2
open PyProof.Rows hiding St
section
variable {X : Cx} {K : PySem.W.Frag} {Γ : List Nat} {W : WX} {I : Nat → Nat} {r k m mi : Nat} {Γb Γ' : List Nat} {B : List Nat} {a e ei : Expr} {f fi : Store → Option D} {te ti : TE} {pos p : Pos}
theorem OwnL.appAt {H : Hp} {N : Addr → Prop} : ∀ {ds : List D} {vs : List V} {fp : List Addr}, OwnL K H N 1 ds vs fp → fp.Nodup → ∀ (j : Nat) (ws : List D), ds[j]? = some (.lst ws) →
    ∃ (l : Addr) (wv : List V), vs[j]? = some (.ref l) ∧ l ∈ fp ∧ H l = some (.lst wv) ∧ wv.length = ws.length ∧
      ∀ (H' : Hp) (N' : Addr → Prop) (d : D) (y : V), Own K H' N' 0 d y [] → (∀ a o, H a = some o → ¬ notTup o → H' a = some o) → (∀ a o, H a = some o → N a → H' a = some o ∧ N' a) → (∀ a ∈ fp, a ≠ l → ∀ o, H a = some o → H' a = some o) → H' l = some (.lst (wv ++ [y])) →
        OwnL K H' N' 1 (ds.set j (.lst (ws ++ [d]))) vs fp
  | _, _, _, .nil, _, j, ws, e => by cases e
  | _, _, _, .cons (fp := fp1) (fps := fps) h l, nd, 0, ws, e => by
    cases e
    obtain ⟨hn1, hn2, hn3⟩ := List.nodup_append.mp nd
    obtain ⟨k', a, wv, fp', ek, rfl, rfl, ha, lo⟩ := h.lst_inv (by decide)
    cases ek
    have := lo.fp0 rfl
    subst this
    refine ⟨a, wv, rfl, List.mem_append_left _ List.mem_cons_self, ha, lo.len, fun H' N' d y o tp sh kp hl => ?_⟩
    refine .cons (.lst hl (OwnL.snoc0 o (lo.move tp sh fun a m => (nomatch m)))) (l.move tp sh fun b m ob e => kp b (List.mem_append_right _ m) (fun z => hn3 a List.mem_cons_self b m z.symm) ob e)
  | _, _, _, .cons (fp := fp1) (fps := fps) h l, nd, j + 1, ws, e => by
    obtain ⟨hn1, hn2, hn3⟩ := List.nodup_append.mp nd
    obtain ⟨a, wv, e1, am, ha, hlen, k⟩ := OwnL.appAt l hn2 j ws (by simpa using e)
    refine ⟨a, wv, by simpa using e1, List.mem_append_right _ am, ha, hlen, fun H' N' d y o tp sh kp hl => ?_⟩
    exact .cons (h.move tp sh fun b m ob e => kp b (List.mem_append_left _ m) (fun z => hn3 b m a am z) ob e) (k H' N' d y o tp sh (fun b m n ob e => kp b (List.mem_append_right _ m) n ob e) hl)
def sAppAt (i : Nat) (fi f : Store → Option D) : Store → Option O := fun ρ => match eVar i ρ with
  | some (.lst ds) => (match fi ρ with
    | some (.int z) => (match f ρ with
      | some d => (match ixN ds.length z with
        | some j => (match ds[j]? with
          | some (.lst ws) => if ws.length < sizeLine then some (.nx (ρ.set i (some (.lst (ds.set j (.lst (ws ++ [d]))))))) else none
          | _ => none)
        | none => none)
      | none => none)
    | _ => none)
  | _ => none
theorem sd_appAt {i : Nat} (hm : Γ.getD i 0 = 2) (hi : SdE K Γ ti mi [] fi) (h : SdE K Γ te m [] f) : SdS K W I r Γ Γb Γ (tDrop (tBM K "list" rAppend (tOp (rIx K) (tVar i) ti) (tCons te tNil))) (sAppAt i fi f) := by
  refine ⟨fun {E ρ σ H Φ} hI R o e D q => ?_⟩
  unfold sAppAt at e
  split at e
  · rename_i ds e0
    split at e
    · rename_i z ez
      split at e
      · rename_i d e1
        split at e
        · rename_i j ej
          split at e
          · rename_i ws ew
            split at e
            · rename_i hz
              cases e
              obtain ⟨v, h1, h2⟩ := R.val i _ (eVar_some e0)
              obtain ⟨k', l, vs, fp, ek, rfl, efp, hl, lo⟩ := h2.lst_inv (by rw [hm]; decide)
              rw [hm] at ek
              cases ek
              have ndf : (l :: fp).Nodup := by have := R.nd i; rw [efp] at this; exact this
              obtain ⟨a, wv, ev, am, ha, hlen, kk⟩ := lo.appAt (List.nodup_cons.mp ndf).2 j ws ew
              refine ⟨_, h1, ?_⟩
              refine hi.sh R ez _ fun y H1 x1 oy => ?_
              cases oy
              have at_ : atI vs z = some (.ref a) := by
                unfold atI
                rw [lo.len, ej]
                exact ev
              refine .inl ⟨l, vs, z, .ref a, rfl, rfl, .inl (.inl (x1 _ _ hl)), at_, ?_⟩
              refine ⟨.inl ⟨rfl, _, .inl (.inl (x1 _ _ ha))⟩, ?_⟩
              refine h.sh (R.ext x1) e1 _ fun y H2 x2 oy => ?_
              have x12 : ∀ b o, H b = some o → H2 b = some o := fun b o e => x2 b o (x1 b o e)
              refine ⟨a, wv, y, rfl, rfl, x12 _ _ ha, by rw [hlen]; exact hz, ?_⟩
              have R2 := (R.ext x1).ext x2
              have aΦ : a ∈ Φ i := by rw [efp]; exact List.mem_cons_of_mem _ am
              have al : a ≠ l := fun z => (List.nodup_cons.mp ndf).1 (z ▸ am)
              have st : ∀ b o, H2 b = some o → b ≠ a → upd H2 a (.lst (wv ++ [y])) b = some o := fun b o e n => by rw [upd_ne n]; exact e
              have tupH : ∀ b o, H b = some o → ¬ notTup o → b ≠ a := fun b o e t z => by subst z; rw [ha] at e; cases e; exact t trivial
              have tup2 : ∀ b o, H2 b = some o → ¬ notTup o → b ≠ a := fun b o e t z => by subst z; rw [x12 _ _ ha] at e; cases e; exact t trivial
              refine q _ _ _ (R2.mut (i := i) (v := .ref l) (Ψ := Φ i) h1 (by rw [hm]; decide) (fun b o e n => st b o e fun z => n (by rw [z]; exact aΦ)) (fun b o e => by
                by_cases z : b = a
                · subst z; exact ⟨_, upd_same⟩
                · exact ⟨o, st b o e z⟩) ?_ (R.nd i) fun b m => .inl m)
              rw [hm, efp]
              have oy2 : Own K (upd H2 a (.lst (wv ++ [y]))) (fun b => b ∉ l :: fp ∧ ∀ j, j ≠ i → b ∉ Φ j) 0 d y [] := oy.move (fun b o e t => st b o e (tup2 b o e t)) (fun b o e z => by
                have nb : b ≠ a := fun z' => z.2 i List.not_mem_nil (by rw [z']; exact aΦ)
                exact ⟨st b o e nb, by rw [← efp]; exact z.2 i List.not_mem_nil, fun j _ => z.2 j List.not_mem_nil⟩) fun b m => (nomatch m)
              exact .lst (st _ _ (x12 _ _ hl) (Ne.symm al)) (kk _ _ d y oy2 (fun b o e t => st b o (x12 b o e) (tupH b o e t)) (fun b o e z => by
                have nb : b ≠ a := fun z' => z i (by rw [z']; exact aΦ)
                exact ⟨st b o (x12 b o e) nb, by rw [← efp]; exact z i, fun j _ => z j⟩) (fun b m n o e => st b o (x12 b o e) n) upd_same)
            · cases e
          · cases e
        · cases e
      · cases e
    · cases e
  · cases e
theorem s_appAt (i : Nat) {x : Str} {pn pix pa pc ps : Pos} (hi : Ev X Γ ei mi [] fi ti) (he : Ev X Γ e m [] f te) (hN : X.N[i]? = some x := by rfl) (hv : Vis X.env.scope x := by first | exact Or.inl rfl | exact Or.inr (Or.inl rfl) | exact Or.inr (Or.inr rfl)) (hm : Γ.getD i 0 = 2 := by rfl) (hpi : PlainIx ei := by exact fun _ _ => rfl)
    (hbase : attributeBase (.Subscript (.Name x pn) ei pix) "append" X.env (eval (.Subscript (.Name x pn) ei pix) X.env) = eval (.Subscript (.Name x pn) ei pix) X.env := by rfl) (hline : (pa.endLine == pc.line) = true := by rfl)
    (hfew : ((backTo pc (starEach [e] X.env)).all (fun x => !x.1) && (backToKw pc (keywordEach [] X.env)).all (fun x => x.1.isSome) && decide ([e].length + ([] : List Keyword).length + (if ([] : List Keyword).isEmpty then 0 else 1) < 30)) = true := by rfl)
    (hss : starEach [e] X.env = (false, eval e X.env) :: starEach [] X.env := by rfl) (hplain : (backTo pc (starEach [] X.env)).any (·.1) = false := by rfl)
    (hs : swapsWith (.Call (.Attribute (.Subscript (.Name x pn) ei pix) "append" pa) [e] [] pc) none ps.line X.env = pure false := by rfl) (hd : (x == ("__debug__" : Str)) = false := by decide) (hcd : (x == ("__classdict__" : Str)) = false := by decide) :
    Sv X W I r Γ Γb (.Expr (.Call (.Attribute (.Subscript (.Name x pn) ei pix) "append" pa) [e] [] pc) ps) Γ (sAppAt i fi f) (tDrop (tBM X.K "list" rAppend (tOp (rIx X.K) (tVar i) ti) (tCons te tNil))) :=
  ⟨ps_expr (pe_bm PySem.F.plainAttrs_list PySem.F.slot_list_append PySem.F.type_list_append mt_append (pe_ix ix_seq (pe_var hN hv hd hcd) hi.pe hpi) (pa_cons he.pe pa_nil hss) hbase hfew hline hss hplain) hs, sd_appAt hm hi.sd he.sd⟩
theorem appAt_ok {ρ ρ' : Store} {i j : Nat} {z : Int} {d : D} {ds ws : List D} (h1 : eVar i ρ = some (.lst ds)) (h2 : fi ρ = some (.int z)) (h3 : f ρ = some d) (h4 : ixN ds.length z = some j) (h5 : ds[j]? = some (.lst ws)) (h6 : ws.length < 16777216) (h7 : ρ.set i (some (.lst (ds.set j (.lst (ws ++ [d]))))) = ρ') : sAppAt i fi f ρ = some (.nx ρ') := by
  unfold sAppAt
  simp only [h1, h2, h3, h4, h5, h7]
  exact if_pos (by rw [PySem.sizeLine_eq]; exact h6)
end
end VL

set_option maxHeartbeats 1000000
/-! VL35: for a, (b, c) in enumerate(a tuple). -/
namespace VLN
open PySem
open AutoSeq1 (wpAny_loadPart')
theorem meets_enum_tup (l : Addr) (items : Array Value) (n : Nat) (dct : Option Addr) (sl : Array (Option Value)) :
    Meets (Builtin.«enumerate.__new__» ⟨[.type "enumerate", .ref l], []⟩) (fun _ R s => s.heap.get? l = some { cls := .type "tuple", dict := dct, data := .seq items n, slots := sl } ∧
      R (.ok (.ret (.ref (s.heap.push { cls := .type "tuple_iterator", data := .fields #[.ref l, .int 0 0] }).objs.size)))
        { s with heap := (s.heap.push { cls := .type "tuple_iterator", data := .fields #[.ref l, .int 0 0] }).push { cls := .type "enumerate", data := .fields #[.none, .bool false, .ref s.heap.objs.size, rawInt 0, .none, .none] } }) :=
  .of_wp fun prog w A R s h => by
    obtain ⟨hp, g, d, tk, os⟩ := s; obtain ⟨hl, h⟩ := h
    have hsub := sub_enumerate
    have hL : Heap.IsTuple (Shared.heap ⟨hp, g, d, tk, os⟩) l items := ⟨_, hl, rfl, n, rfl⟩
    wp_walk using wpAny_loadPart' hl
    refine wpAny_stack_any fun st => wpAny_pure ?_
    split
    · rename_i c _ _ _ _ _
      cases (c == Value.type "enumerate")
      · wp_walk using wpAny_loadPart' hl, wpAny_pyIter_tuple hL
        exact ⟨_, rfl, h⟩
      · wp_walk using wpAny_loadPart' hl, wpAny_pyIter_tuple hL
        exact ⟨_, rfl, h⟩
    · wp_walk using wpAny_loadPart' hl, wpAny_pyIter_tuple hL
      exact ⟨_, rfl, h⟩
section
variable {prog : Program} {w : World} {A : Around} {E : Value → Shared → Prop} {s : Shared}
theorem call_enum_tup {l : Addr} {items : Array Value} {Q : Value → Shared → Prop} (hL : s.heap.IsTuple l items)
    (h : ∀ h', IsEnum h' (s.heap.objs.size + 1) s.heap.objs.size 0 .none → h'.IsTupleIter s.heap.objs.size l 0 → h'.objs.size = s.heap.objs.size + 2 →
      (∀ b o, s.heap.get? b = some o → h'.get? b = some o) → Q (.ref (s.heap.objs.size + 1)) { s with heap := h' }) :
    wpAny (model prog w) A (call (.type "enumerate") [.ref l]) Q E s := by
  obtain ⟨⟨c, dct, dt, sl⟩, hl, hc, n, hd⟩ := hL
  replace hc : c = .type "tuple" := hc
  replace hd : dt = .seq items n := hd
  subst hc hd
  refine callType_new F.called_enumerate (by decide) (F.typeCall_enumerate_1 _) (F.newCall_enumerate_1 _) (fun obj => F.args_object_init_2 obj _) F.entry_enumerate_new
    (meets_enum_tup l items n dct sl) ⟨hl, ?_⟩
  have hz : (s.heap.push { cls := .type "tuple_iterator", data := .fields #[.ref l, .int 0 0] }).objs.size = s.heap.objs.size + 1 := Heap.size_push ..
  show _ ∧ _
  rw [hz]
  have he : IsEnum ((s.heap.push { cls := .type "tuple_iterator", data := .fields #[.ref l, .int 0 0] }).push
      { cls := .type "enumerate", data := .fields #[.none, .bool false, .ref s.heap.objs.size, rawInt 0, .none, .none] }) (s.heap.objs.size + 1) s.heap.objs.size 0 .none := by
    have := Heap.get?_push_size (s.heap.push { cls := .type "tuple_iterator", data := .fields #[.ref l, .int 0 0] })
      (o := { cls := .type "enumerate", data := .fields #[.none, .bool false, .ref s.heap.objs.size, rawInt 0, .none, .none] }) rfl
    rw [hz] at this; exact this
  refine ⟨⟨_, he, rfl⟩, h _ he ⟨_, Heap.get?_push_of_some _ (Heap.get?_push_size _ rfl), rfl, rfl⟩ (by rw [Heap.size_push, hz]) fun b o x => Heap.get?_push_of_some _ (Heap.get?_push_of_some _ x)⟩
end
end VLN
namespace VL
open PySem PySem.Spec L2
open PyProof.Rows hiding St
/-- the tuple at a, each item in a new pair -/
def IteT (K : PySem.W.Frag) (a : Addr) : It :=
  ⟨fun i H => ∃ (xs : List V) (x : V), SqT K H a xs ∧ xs[i]? = some x, fun i H v H' => ∃ T x, v = .ref T ∧ H T = none ∧ H' = upd H T (.tup [.int (i : Nat), x]) ∧ ∀ xs, SqT K H a xs → xs[i]? = some x, fun i H => ∃ xs : List V, SqT K H a xs ∧ xs.length ≤ i⟩
theorem turn_enumT {P : Program} {w : World} {K : PySem.W.Frag} {elts : List Expr} {kk : Nat} {tpos : Pos} (a e it : Addr) (items : Array Value) (hai : a ≠ it) (hea : e ≠ a) :
    Turn P w K (.Tuple elts kk tpos) (IteT K a) [e, it] e (fun i h => (∃ old, IsEnum h e it ((i : Nat) : Int) old) ∧ h.IsTupleIter it a i ∧ e ≠ it) where
  mem := by simp
  obj := fun i h st b hb => by
    obtain ⟨⟨old, he⟩, ⟨o, ho, hc, hd⟩, _⟩ := st
    have e' : b = e ∨ b = it := by simpa using hb
    rcases e' with z | z
    · rw [z]; exact ⟨_, he, fun v q => nomatch q⟩
    · rw [z]; exact ⟨o, ho, fun v q => by rw [hd] at q; cases q⟩
  keep := fun i h h' st k => let ⟨⟨old, he⟩, hi, hne⟩ := st; ⟨⟨old, k e (by simp) _ he⟩, hi.at fun o q => k it (by simp) o q, hne⟩
  item := by
    intro X hP hw hK hc i pins s σ H E I hf st hg
    subst hP hw hK
    obtain ⟨⟨old, he⟩, hit, hne⟩ := st
    obtain ⟨xs, x, hq, hx⟩ := hg
    obtain ⟨its, rv, p, hz⟩ := I.tuple hq
    obtain ⟨u, hu, ru⟩ := rv.get hx
    have hel : e < s.heap.objs.size := Heap.lt_size he
    have hil : it < s.heap.objs.size := by obtain ⟨_, q, _⟩ := hit; exact Heap.lt_size q
    have hlt : i < its.toArray.size := by
      rw [List.size_toArray]
      exact (List.getElem?_eq_some_iff.mp hu).1
    refine wpAny_pyNext_enum_itemD (fp := [it, a]) (P := fun i v => its.toArray[i]? = some v) (Draws.tuple (A := X.A.in1) (I.ok.hd hc) it a hai its.toArray) he ⟨hit, p⟩ hlt hne (by simp only [List.mem_cons, List.not_mem_nil, or_false, not_or]; exact ⟨hne, hea⟩) fun x' h' tk hP ho hst' hT hsz hk => ?_
    have ex : x' = u := by
      have e1 : its.toArray[i]? = some u := by simpa using hu
      rw [e1] at hP
      cases hP
      rfl
    subst ex
    obtain ⟨hit', _⟩ := hst'
    refine ⟨_, rfl, wpAny_letOwnedTupleGo_enum (s := { s with heap := h', toks := tk + 1 }) ho fun h'' he' sb => ?_⟩
    have hT2 : h''.get? s.heap.objs.size = some { cls := .type "tuple", data := .seq #[.int i tk, x'] } := (sb.2 _ (Nat.ne_of_gt hel)).trans hT
    have new : ObjOk X.prog X.w (upd H s.heap.objs.size (.tup [.int (i : Nat), x])) h'' s.heap.objs.size (.tup [.int (i : Nat), x]) :=
      ⟨by show 2 ≤ sizeLine; decide, [.int i tk, x'], .cons ⟨_, rfl⟩ (.cons ru .nil), ⟨_, hT2, rfl, _, rfl⟩⟩
    have I1 : Inv X pins σ (upd H s.heap.objs.size (.tup [.int (i : Nat), x])) { s with heap := h'', toks := tk + 1 } :=
      I.turnedNew (ch := [e, it]) (fun b ob hb q => (sb.2 b (fun z => hb (by simp [z]))).trans (hk b ob (fun z => hb (by simp [z])) (fun z => hb (by simp [z])) q)) hf (Nat.le_refl _) new
    refine ⟨.ref s.heap.objs.size, _, I1, rfl, ⟨_, x, rfl, I.hok.fresh (Nat.le_refl _), rfl, fun ys hy => by rw [I.tuple_inj hy hq]; exact hx⟩, ⟨⟨x', ?_⟩, hit'.at fun o q => (sb.2 it (Ne.symm hne)).trans q, hne⟩, fun b hb => ?_⟩
    · have e1 : ((i + 1 : Nat) : Int) = (i : Int) + 1 := by omega
      rw [e1]; exact he'
    · have hb' : b < s.heap.objs.size := by
        have e' : b = e ∨ b = it := by simpa using hb
        rcases e' with z | z
        · rw [z]; exact hel
        · rw [z]; exact hil
      rw [upd_ne (Nat.ne_of_lt hb')]
      exact (hf b hb).1
  done := by
    intro X hP hw hK hc i pins s σ H E I hf st hg
    subst hP hw hK
    obtain ⟨⟨old, he⟩, hit, hne⟩ := st
    obtain ⟨xs, hq, hx⟩ := hg
    obtain ⟨its, rv, p, hz⟩ := I.tuple hq
    obtain ⟨f0, f1, f2, f3, f4, f5⟩ := hf it (by simp)
    have hl := rv.length
    have hT : s.TypeIs (.ref e) "enumerate" := ⟨_, he, rfl⟩
    unfold pyNext
    refine wpAny_bind (wpAny_attempt (wpAny_callSpecial?_slot (name := Str.ofString "__next__") hT F.slot_enumerate_next
      (wpAny_call_entry F.slot_enumerate_next hT F.entry_enumerate_next ?_ (F.args_enumerate_next_1 _))))
    show wpAny _ _ (field (.ref e) 2 >>= _) _ _ _
    refine wpAny_bind (wpAny_field he rfl (x := .ref it) rfl ?_)
    have hnone : its.toArray[i]? = none := by
      rw [List.getElem?_toArray]
      exact List.getElem?_eq_none (by omega)
    refine wpAny_bind (wpAny_nextOf_tuple_end (I.ok.hd hc) hit p hnone fun h' x he' hx' => ?_)
    obtain ⟨o, ho, hc'⟩ := hx'
    refine wpAny_bind (wpAny_isInstance (T := "StopIteration") (b := true) ⟨o, ho, hc'⟩ isSubtype_stop ?_)
    exact wpAny_pure ⟨rfl, I.turned (t' := s.toks) (fun b o hb q => he' b o hb q) f0 f1 f3 f4 f5⟩
  self := fun A i s Q E st h => let ⟨⟨_, he⟩, _⟩ := st; wpAny_pyIter_enum he h
def iEnumT (K : PySem.W.Frag) (te : TE) : TI := fun σ H R => te σ H fun v H1 => ∃ a xs, v = .ref a ∧ SqT K H1 a xs ∧ R (IteT K a) H1
theorem pi_enumT {X : Cx} {e : Expr} {te : TE} {p pos tpos : Pos} {elts : List Expr} {kk : Nat} (hg : Gl X "enumerate") (hm : X.mg "enumerate" = none) (he : PE X e te) (hs : starEach [e] X.env = (false, eval e X.env) :: starEach [] X.env := by rfl) :
    PI X (.Tuple elts kk tpos) (.Call (.Name "enumerate" p) [e] [] pos) (iEnumT X.K te) := by
  refine ⟨fun pins s σ H R I h => ?_⟩
  refine Call_ (ld_blt I hg hm (show bootBuiltins "enumerate" = some (.type "enumerate") by decide +kernel) (PyProof.Rows.callWith_type1 (PyProof.Rows.args_cons (thn (he.run pins s σ H _ I h) fun u s1 ⟨v, H1, I1, r1, q1⟩ => PyProof.Rows.args_nil ?_) hs) hs rfl))
  obtain ⟨a, xs, ex, hq, q⟩ := q1
  subst ex
  obtain rfl : u = Value.ref a := r1
  obtain ⟨its, rv, p', hz⟩ := I1.tuple hq
  have hla : a < s1.heap.objs.size := by obtain ⟨_, q, _⟩ := p'; exact Heap.lt_size q
  refine VLN.call_enum_tup p' fun h' he hit hsz hk => wpAny_pyIter_enum he ?_
  have I2 : Inv X pins σ H1 { s1 with heap := h' } := I1.kept (t' := s1.toks) hk
  refine ⟨s1.heap.objs.size + 1, [s1.heap.objs.size + 1, s1.heap.objs.size], _, _, H1, rfl, I2, turn_enumT a (s1.heap.objs.size + 1) s1.heap.objs.size its.toArray (Nat.ne_of_lt hla) (Nat.ne_of_gt (Nat.lt_succ_of_lt hla)), ⟨⟨.none, he⟩, hit, Nat.succ_ne_self _⟩, fun b hb => ?_, q⟩
  have e' : b = s1.heap.objs.size + 1 ∨ b = s1.heap.objs.size := by simpa using hb
  have hle : s1.heap.objs.size ≤ b := by
    rcases e' with z | z
    · rw [z]; exact Nat.le_add_right _ _
    · rw [z]; exact Nat.le_refl _
  exact I1.fpOk hle (I1.hok.fresh hle)
/-- the items, numbered -/
def enm : Nat → List D → List D
  | _, [] => []
  | i, d :: ds => .tup [.int (i : Nat), d] :: enm (i + 1) ds
theorem enm_len : ∀ (i : Nat) (ds : List D), (enm i ds).length = ds.length
  | _, [] => rfl
  | i, d :: ds => by show (enm (i + 1) ds).length + 1 = ds.length + 1; rw [enm_len]
theorem enm_get : ∀ (ds : List D) (k i : Nat), (enm k ds)[i]? = (ds[i]?).map fun d => D.tup [.int ((k + i : Nat) : Int), d]
  | [], _, _ => rfl
  | d :: ds, k, 0 => rfl
  | d :: ds, k, i + 1 => by
    show (enm (k + 1) ds)[i]? = _
    rw [enm_get ds (k + 1) i, List.getElem?_cons_succ, show k + 1 + i = k + (i + 1) by omega]
def iEnm (f : Store → Option D) : Store → Option (List D) := fun ρ => match f ρ with
  | some (.tup ds) => some (enm 0 ds)
  | _ => none
section
variable {X : Cx} {K : PySem.W.Frag} {Γ : List Nat} {m : Nat} {e : Expr} {f : Store → Option D} {t : TE} {pos p : Pos}
theorem wk_enumT {ds : List D} {a : Addr} : Wk K (IteT K a) (.tup ds) (.ref a) (enm 0 ds) := by
  refine ⟨fun {H N} o i d e => ?_, fun {H N} o => ?_⟩
  · obtain ⟨_, vs, e0, s, lo⟩ := o.tup_inv
    cases e0
    rw [enm_get] at e
    cases e1 : ds[i]? with
    | none => rw [e1] at e; cases e
    | some d1 =>
      rw [e1] at e
      cases e
      obtain ⟨v, hv, o⟩ := lo.get0 e1
      refine ⟨⟨vs, v, s, hv⟩, fun x H2 y => ?_⟩
      obtain ⟨T, x1, rfl, hT, rfl, y⟩ := y
      have z := y vs s
      rw [hv] at z
      cases z
      have x := ext_upd (o := .tup [.int (i : Nat), v]) hT
      refine ⟨x, .tup (fp := []) (.inl (.inl upd_same)) ?_⟩
      have o2 : Own K (upd H T (.tup [.int (i : Nat), v])) N 0 d1 v [] := o.move (fun a o e _ => x a o e) (fun a o e n => ⟨x a o e, n⟩) fun a m => (nomatch m)
      rw [Nat.zero_add]
      exact .cons (fp := []) (fps := []) .int (.cons (fp := []) (fps := []) o2 .nil)
  · obtain ⟨_, vs, e0, s, lo⟩ := o.tup_inv
    cases e0
    exact ⟨vs, s, by rw [lo.len, enm_len]; exact Nat.le_refl _⟩
theorem xiv_enumT {elts : List Expr} {kk : Nat} {tpos : Pos} (hg : Gl X "enumerate") (hm : X.mg "enumerate" = none) (h : Ev X Γ e m [] f t) (hs : starEach [e] X.env = (false, eval e X.env) :: starEach [] X.env := by rfl) (hK : X.K = K := by rfl) :
    Iv X Γ (.Tuple elts kk tpos) (.Call (.Name "enumerate" p) [e] [] pos) (iEnm f) (iEnumT K t) := by
  subst hK
  refine ⟨pi_enumT hg hm h.pe hs, ⟨fun {E ρ σ H Φ} R ds e Q q => ?_⟩⟩
  unfold iEnm at e
  split at e
  · rename_i ds' e1
    cases e
    refine h.sd.sh R e1 _ fun v H1 x o => ?_
    obtain ⟨l, vs, rfl, s, lo⟩ := o.tup_inv
    exact ⟨l, vs, rfl, s, q _ _ _ _ x (own_live o) wk_enumT⟩
  · cases e
end
end VL

namespace K25
open PySem VL
noncomputable section
def body_sees : Store → Option O := (sRet 0 (e2 (gEq false) (e2 gAnd (e2 gShr (e2 gIx (eVar 0) (eVar 1)) (eVar 2)) (eC (.int 1))) (eC (.int 1))))
def sem_sees : List D → Option D := fn0 3 body_sees
def if_is_circle_1 : Store → Option O := (sIf (bAnd (tBo (e2 (gEq true) (eVar 2) (eVar 3))) (bNot (tBo (eCall (callF 3 [] sem_sees) (aCons (eVar 0) (aCons (eVar 2) (aCons (eVar 3) aNil))))))) (sRet 0 (eC (.bl false))) sNx)
def lp_is_circle_2 : Store → Option O := if_is_circle_1
def lp_is_circle_3 : Store → Option O := (sFor (iTp (eVar 1)) (gSet 3) lp_is_circle_2)
def body_is_circle : Store → Option O := (sSeq (sFor (iTp (eVar 1)) (gSet 2) lp_is_circle_3) (sRet 0 (eC (.bl true))))
def sem_is_circle : List D → Option D := fn0 4 body_is_circle
def if_is_ring_1 : Store → Option O := (sIf (bOr (tBo (e2 gLt (eCall gLen (aCons (eVar 1) aNil)) (eC (.int 2)))) (tBo (e2 gLt (eLenSet (eVar 1)) (eCall gLen (aCons (eVar 1) aNil))))) (sRet 0 (eC (.bl false))) sNx)
def if_is_ring_2 : Store → Option O := (sIf (bNot (tBo (eCall (callF 3 [] sem_sees) (aCons (eVar 0) (aCons (e2 gIx (eVar 1) (e2 gSub (eVar 2) (eC (.int 1)))) (aCons (e2 gIx (eVar 1) (eVar 2)) aNil)))))) (sRet 0 (eC (.bl false))) sNx)
def lp_is_ring_3 : Store → Option O := if_is_ring_2
def body_is_ring : Store → Option O := (sSeq if_is_ring_1 (sSeq (sFor (iR1 (aCons (eCall gLen (aCons (eVar 1) aNil)) aNil)) (gSet 2) lp_is_ring_3) (sRet 0 (eC (.bl true)))))
def sem_is_ring : List D → Option D := fn0 3 body_is_ring
def if_is_group_1 : Store → Option O := (sIf (bOr (tBo (e2 gLt (eVar 4) (eC (.int 0)))) (tBo (e2 gGe (eVar 4) (eCall gLen (aCons (eVar 0) aNil))))) (sRet 0 (eC (.bl false))) sNx)
def lp_is_group_2 : Store → Option O := if_is_group_1
def if_is_group_3 : Store → Option O := (sIf (tBo (e2 (gEq false) (eVar 2) (eC (.str "ring")))) (sRet 0 (eAnd (eCall (callF 2 [] sem_is_ring) (aCons (eVar 1) (aCons (eVar 3) aNil))) (e2 (gEq false) (eLc [4] (iTp (eVar 3)) (gSet 4) (tBo (e2 (gEq true) (e2 gIx (eVar 0) (eVar 4)) (eC (.int 2)))) (eVar 4)) (eLst aNil)))) sNx)
def body_is_group : Store → Option O := (sSeq (sFor (iTp (eVar 3)) (gSet 4) lp_is_group_2) (sSeq if_is_group_3 (sRet 0 (eAnd (e2 (gEq false) (eCall gList (aCons (eVar 3) aNil)) (eSortedSet (eVar 3))) (eCall (callF 2 [] sem_is_circle) (aCons (eVar 1) (aCons (eVar 3) aNil)))))))
def sem_is_group : List D → Option D := fn0 5 body_is_group
def if_group_fault_1 : Store → Option O := (sIf (bOr (bNot (tBo (eCall (callF 4 [] sem_is_group) (aCons (eVar 0) (aCons (eVar 1) (aCons (eVar 5) (aCons (eVar 6) aNil))))))) (tBo (e2 (gEq true) (eLc [7] (iTp (eVar 6)) (gSet 7) (tBo (e2 (gDIn false) (eVar 7) (eVar 3))) (eVar 7)) (eLst aNil)))) (sRet 0 (eVar 4)) sNx)
def lp_group_fault_2 : Store → Option O := (sSetD 3 (eC (.bl true)) (eVar 7))
def lp_group_fault_3 : Store → Option O := (sSeq if_group_fault_1 (sFor (iTp (eVar 6)) (gSet 7) lp_group_fault_2))
def body_group_fault : Store → Option O := (sSeq (sSet 3 eDct0) (sSeq (sFor (iEnm (eVar 2)) (gSetN 4 5 6) lp_group_fault_3) (sRet 0 (eC .non))))
def sem_group_fault : List D → Option D := fn0 8 body_group_fault
def if__law_cell_at_1 : Store → Option O := (sIf (tBo (e2 gLt (eVar 1) (eCall gLen (aCons (eVar 0) aNil)))) (sRet 0 (e2 gIx (eVar 0) (eVar 1))) sNx)
def body__law_cell_at : Store → Option O := (sSeq if__law_cell_at_1 (sRet 0 (eC (.int 0))))
def sem__law_cell_at : List D → Option D := fn0 2 body__law_cell_at
def body__law_draw : Store → Option O := (sSeq (sSet 2 (e2 gMod (e2 gAdd (e2 gAdd (e2 gAdd (e2 gMod (eVar 0) (eC (.int 1999998563))) (e2 gMul (eC (.int 43000003)) (eVar 1))) (e2 gMul (e2 gMul (eC (.int 389)) (eVar 1)) (eVar 1))) (eC (.int 139))) (eC (.int 1999998563)))) (sSeq (sSet 2 (e2 gMod (e2 gMul (eVar 2) (eVar 2)) (eC (.int 1999998547)))) (sRet 0 (e2 gDiv (e2 gMod (e2 gMul (eVar 2) (e2 gAdd (eC (.int 52009)) (e2 gMul (eC (.int 48)) (eVar 1)))) (eC (.int 1999998523))) (eC (.int 3))))))
def sem__law_draw : List D → Option D := fn0 3 body__law_draw
def lp__law_counts_1 : Store → Option O := (sSeq (sSet 4 (e2 gMod (eCall (callF 2 [] sem__law_draw) (aCons (eVar 0) (aCons (e2 gAdd (eC (.int 10)) (eVar 3)) aNil))) (eC (.int 8)))) (sSeq (sSet 5 (e2 gAdd (e2 gMul (eCall (callF 2 [] sem__law_draw) (aCons (eVar 0) (aCons (e2 gAdd (eC (.int 20)) (eVar 3)) aNil))) (e2 gPow (eC (.int 10)) (eC (.int 18)))) (eCall (callF 2 [] sem__law_draw) (aCons (eVar 0) (aCons (e2 gAdd (eC (.int 60)) (eVar 3)) aNil))))) (sAppend 2 (e2 gIx (eLst (aCons (eC (.int 2)) (aCons (eC (.int 2)) (aCons (eC (.int 2)) (aCons (eC (.int 2)) (aCons (eC (.int 2)) (aCons (eC (.int 1)) (aCons (e2 gAdd (eC (.int 1)) (e2 gMod (eVar 5) (eC (.int 40)))) (aCons (e2 gAdd (eC (.int 1)) (e2 gMod (e2 gMul (eVar 5) (e2 gPow (eC (.int 10)) (eC (.int 5)))) (e2 gSub (e2 gPow (eC (.int 10)) (eC (.int 30))) (eC (.int 1))))) aNil))))))))) (eVar 4)))))
def body__law_counts : Store → Option O := (sSeq (sSet 2 (eLst aNil)) (sSeq (sFor (iR1 (aCons (eVar 1) aNil)) (gSet 3) lp__law_counts_1) (sRet 0 (eCall gTuple (aCons (eVar 2) aNil)))))
def sem__law_counts : List D → Option D := fn0 6 body__law_counts
def lp__law_blocks_1 : Store → Option O := (sAppX 3 (xPop 2 (eClr 0 (e2 gMod (eCall (callF 2 [] sem__law_draw) (aCons (eVar 0) (aCons (e2 gAdd (eC (.int 30)) (eVar 4)) aNil))) (eCall gLen (aCons (eVar 2) aNil))))))
def if__law_blocks_2 : Store → Option O := (sIf (bOr (tBo (e2 (gEq false) (eVar 5) (eLst aNil))) (tBo (e2 (gEq false) (e2 gMod (eCall (callF 2 [] sem__law_draw) (aCons (eVar 0) (aCons (e2 gAdd (eC (.int 40)) (eVar 4)) aNil))) (eC (.int 3))) (eC (.int 0))))) (sAppend 5 (eLst aNil)) sNx)
def lp__law_blocks_3 : Store → Option O := (sSeq if__law_blocks_2 (sAppAt 5 (eUn (fun i => -i) (eC (.int 1))) (eClr 0 (e2 gIx (eVar 3) (eVar 4)))))
def body__law_blocks : Store → Option O := (sSeq (sSet 2 (eLRg (rg1 (eVar 1)))) (sSeq (sSet 3 (eLst aNil)) (sSeq (sFor (iR1 (aCons (eVar 1) aNil)) (gSet 4) lp__law_blocks_1) (sSeq (sSet 5 (eLst aNil)) (sSeq (sFor (iR1 (aCons (eVar 1) aNil)) (gSet 4) lp__law_blocks_3) (sRet 2 (eVar 5)))))))
def sem__law_blocks : List D → Option D := fn0 6 body__law_blocks
def if__law_web_1 : Store → Option O := (sIf (tBo (e2 (gEq true) (eVar 8) (e2 gIx (eVar 6) (eVar 7)))) (sSetI 3 (eClr 0 (e2 gOr (e2 gIx (eVar 3) (e2 gIx (eVar 6) (eVar 7))) (e2 gShl (eC (.int 1)) (eVar 8)))) (e2 gIx (eVar 6) (eVar 7))) sNx)
def lp__law_web_2 : Store → Option O := if__law_web_1
def if__law_web_3 : Store → Option O := (sIf (tBo (e2 gGt (eCall gLen (aCons (eVar 6) aNil)) (eC (.int 1)))) (sSeq (sSet 9 (e2 gIx (eVar 6) (e2 gMod (e2 gAdd (eVar 7) (eC (.int 1))) (eCall gLen (aCons (eVar 6) aNil))))) (sSetI 3 (eClr 0 (e2 gOr (e2 gIx (eVar 3) (e2 gIx (eVar 6) (eVar 7))) (e2 gShl (eC (.int 1)) (eVar 9)))) (e2 gIx (eVar 6) (eVar 7)))) sNx)
def if__law_web_4 : Store → Option O := (sIf (tBo (e2 (gEq false) (e2 gMod (eCall (callF 2 [] sem__law_draw) (aCons (eVar 0) (aCons (e2 gAdd (eC (.int 50)) (eVar 5)) aNil))) (eC (.int 2))) (eC (.int 0)))) (sFor (iLst (eVar 6)) (gSet 8) lp__law_web_2) if__law_web_3)
def lp__law_web_5 : Store → Option O := if__law_web_4
def lp__law_web_6 : Store → Option O := (sSeq (sSet 6 (e2 gIx (eVar 2) (eVar 5))) (sFor (iR1 (aCons (eCall gLen (aCons (eVar 6) aNil)) aNil)) (gSet 7) lp__law_web_5))
def body__law_web : Store → Option O := (sSeq (sSet 3 (eLc [4] (iR1 (aCons (eVar 1) aNil)) (gSet 4) bYes (eC (.int 0)))) (sSeq (sFor (iR1 (aCons (eCall gLen (aCons (eVar 2) aNil)) aNil)) (gSet 5) lp__law_web_6) (sRet 1 (eVar 3))))
def sem__law_web : List D → Option D := fn0 10 body__law_web
def body__law_number : Store → Option O := (sSeq (sSet 3 (eLst (aCons (e2 gMod (eCall (callF 2 [] sem__law_draw) (aCons (eVar 0) (aCons (eVar 1) aNil))) (eCall gMax2 (aCons (eC (.int 1)) (aCons (eVar 2) aNil)))) (aCons (e2 gSub (e2 gMod (eCall (callF 2 [] sem__law_draw) (aCons (eVar 0) (aCons (eVar 1) aNil))) (e2 gAdd (eVar 2) (eC (.int 3)))) (eC (.int 1))) aNil)))) (sSeq (sSet 3 (e2 gAdd (eVar 3) (eLst (aCons (e2 gMod (eVar 0) (e2 gPow (eC (.int 10)) (eC (.int 60)))) (aCons (e2 gSub (eC (.int 0)) (e2 gMod (eVar 0) (e2 gPow (eC (.int 10)) (eC (.int 50))))) aNil))))) (sRet 0 (e2 gIx (eVar 3) (e2 gIx (eLst (aCons (eC (.int 0)) (aCons (eC (.int 0)) (aCons (eC (.int 0)) (aCons (eC (.int 0)) (aCons (eC (.int 0)) (aCons (eC (.int 1)) (aCons (eC (.int 2)) (aCons (eC (.int 3)) aNil))))))))) (e2 gMod (eCall (callF 2 [] sem__law_draw) (aCons (eVar 0) (aCons (e2 gAdd (eVar 1) (eC (.int 1))) aNil))) (eC (.int 8))))))))
def sem__law_number : List D → Option D := fn0 4 body__law_number
def if__law_pair_1 : Store → Option O := (sIf (bOr (tBo (e2 (gEq false) (eVar 4) (eC (.int 0)))) (tBo (e2 (gEq false) (eVar 2) (eLst aNil)))) (sRet 0 (eTup (aCons (eVar 3) (aCons (eCall gTuple (aCons (eLc [5] (iR1 (aCons (e2 gAdd (eC (.int 1)) (e2 gMod (eCall (callF 2 [] sem__law_draw) (aCons (eVar 0) (aCons (eC (.int 3)) aNil))) (eC (.int 10)))) aNil)) (gSet 5) bYes (eCall (callF 3 [] sem__law_number) (aCons (eVar 0) (aCons (e2 gAdd (eC (.int 10)) (e2 gMul (eC (.int 2)) (eVar 5))) (aCons (eVar 1) aNil))))) aNil)) aNil)))) sNx)
def if__law_pair_2 : Store → Option O := (sIf (tBo (e2 (gEq false) (eVar 4) (eC (.int 1)))) (sSet 7 (eClr 1 (eSl gSlL (eVar 7) oNone (oSome (e2 gAdd (eC (.int 1)) (e2 gMod (eCall (callF 2 [] sem__law_draw) (aCons (eVar 0) (aCons (eC (.int 5)) aNil))) (eCall gLen (aCons (eVar 7) aNil)))))))) sNx)
def if__law_pair_3 : Store → Option O := (sIf (tBo (e2 (gEq false) (eVar 4) (eC (.int 2)))) (sSet 7 (eClr 1 (eLRev (eVar 7)))) sNx)
def if__law_pair_4 : Store → Option O := (sIf (tBo (e2 (gEq false) (eVar 4) (eC (.int 3)))) (sSet 7 (eClr 1 (e2 gCat (eVar 7) (eSl gSlL (e2 gIx (eVar 2) (e2 gMod (e2 gAdd (eVar 6) (eC (.int 1))) (eCall gLen (aCons (eVar 2) aNil)))) oNone (oSome (eC (.int 1))))))) sNx)
def if__law_pair_5 : Store → Option O := (sIf (bAnd (tBo (e2 (gEq false) (eVar 3) (eC (.str "circle")))) (tBo (e2 (gEq true) (eVar 4) (eC (.int 4))))) (sSet 7 (eClr 1 (eCall gSorted (aCons (eVar 7) aNil)))) sNx)
def if__law_pair_6 : Store → Option O := (sIf (tBo (e2 (gEq false) (eVar 3) (eC (.str "ring")))) (sSet 7 (eClr 1 (e2 gCat (eSl gSlL (eVar 7) (oSome (eVar 8)) oNone) (eSl gSlL (eVar 7) oNone (oSome (eVar 8)))))) sNx)
def if__law_pair_7 : Store → Option O := (sIf (bAnd (tBo (e2 (gEq false) (eVar 4) (eC (.int 5)))) (tBo (e2 (gEq false) (e2 gMod (eCall (callF 2 [] sem__law_draw) (aCons (eVar 0) (aCons (eC (.int 7)) aNil))) (eC (.int 3))) (eC (.int 0))))) (sSetI 7 (eCall (callF 3 [] sem__law_number) (aCons (eVar 0) (aCons (eC (.int 8)) (aCons (eVar 1) aNil)))) (eVar 8)) sNx)
def body__law_pair : Store → Option O := (sSeq (sSet 3 (e2 gIx (eLst (aCons (eC (.str "circle")) (aCons (eC (.str "ring")) aNil))) (e2 gMod (eCall (callF 2 [] sem__law_draw) (aCons (eVar 0) (aCons (eC (.int 1)) aNil))) (eC (.int 2))))) (sSeq (sSet 4 (e2 gMod (eCall (callF 2 [] sem__law_draw) (aCons (eVar 0) (aCons (eC (.int 2)) aNil))) (eC (.int 8)))) (sSeq if__law_pair_1 (sSeq (sSet 6 (e2 gMod (eCall (callF 2 [] sem__law_draw) (aCons (eVar 0) (aCons (eC (.int 4)) aNil))) (eCall gLen (aCons (eVar 2) aNil)))) (sSeq (sSet 7 (eCall gList (aCons (e2 gIx (eVar 2) (eVar 6)) aNil))) (sSeq if__law_pair_2 (sSeq if__law_pair_3 (sSeq if__law_pair_4 (sSeq if__law_pair_5 (sSeq (sSet 8 (eClr 0 (e2 gMod (eCall (callF 2 [] sem__law_draw) (aCons (eVar 0) (aCons (eC (.int 6)) aNil))) (eCall gLen (aCons (eVar 7) aNil))))) (sSeq if__law_pair_6 (sSeq if__law_pair_7 (sRet 0 (eTup (aCons (eVar 3) (aCons (eCall gTuple (aCons (eVar 7) aNil)) aNil))))))))))))))))
def sem__law_pair : List D → Option D := fn0 9 body__law_pair
def if__law_is_group_1 : Store → Option O := (sIf (bOr (bNot (tBo (eChain gLe gLt (eC (.int 0)) (e2 gIx (eVar 4) (eVar 5)) (eCall gLen (aCons (eVar 0) aNil))))) (tBo (e2 (gIn false) (e2 gIx (eVar 4) (eVar 5)) (eSl gSlT (eVar 4) oNone (oSome (eVar 5)))))) (sRet 0 (eC (.bl false))) sNx)
def lp__law_is_group_2 : Store → Option O := if__law_is_group_1
def if__law_is_group_3 : Store → Option O := (sIf (bOr (tBo (e2 gLt (eCall gLen (aCons (eVar 4) aNil)) (eC (.int 2)))) (bOr (tBo (e2 (gEq true) (e2 gIx (eVar 0) (eVar 6)) (eC (.int 2)))) (tBo (e2 (gEq false) (e2 gAnd (e2 gShr (e2 gIx (eVar 1) (eVar 6)) (e2 gIx (eVar 4) (e2 gMod (e2 gAdd (eVar 5) (eC (.int 1))) (eCall gLen (aCons (eVar 4) aNil))))) (eC (.int 1))) (eC (.int 0)))))) (sRet 0 (eC (.bl false))) sNx)
def if__law_is_group_4 : Store → Option O := (sIf (bOr (tBo (e2 (gEq true) (eLc [7] (iTp (eVar 4)) (gSet 7) (bAnd (tBo (e2 (gEq true) (eVar 7) (eVar 6))) (tBo (e2 (gEq false) (e2 gAnd (e2 gShr (e2 gIx (eVar 1) (eVar 6)) (eVar 7)) (eC (.int 1))) (eC (.int 0))))) (eVar 7)) (eLst aNil))) (bAnd (tBo (e2 gGt (eVar 5) (eC (.int 0)))) (tBo (e2 gGt (e2 gIx (eVar 4) (e2 gSub (eVar 5) (eC (.int 1)))) (eVar 6))))) (sRet 0 (eC (.bl false))) sNx)
def if__law_is_group_5 : Store → Option O := (sIf (tBo (e2 (gEq false) (eVar 3) (eC (.str "ring")))) if__law_is_group_3 if__law_is_group_4)
def lp__law_is_group_6 : Store → Option O := (sSeq (sSet 6 (e2 gIx (eVar 4) (eVar 5))) if__law_is_group_5)
def body__law_is_group : Store → Option O := (sSeq (sUnp (eVar 2) (gSet2 3 4)) (sSeq (sFor (iR1 (aCons (eCall gLen (aCons (eVar 4) aNil)) aNil)) (gSet 5) lp__law_is_group_2) (sSeq (sFor (iR1 (aCons (eCall gLen (aCons (eVar 4) aNil)) aNil)) (gSet 5) lp__law_is_group_6) (sRet 0 (eC (.bl true))))))
def sem__law_is_group : List D → Option D := fn0 8 body__law_is_group
def if__law_due_1 : Store → Option O := (sIf (bOr (bNot (tBo (eCall (callF 3 [] sem__law_is_group) (aCons (eVar 0) (aCons (eVar 1) (aCons (e2 gIx (eVar 2) (eVar 4)) aNil)))))) (tBo (e2 (gEq true) (eLc [5] (iTp (e2 gIx (e2 gIx (eVar 2) (eVar 4)) (eC (.int 1)))) (gSet 5) (tBo (e2 (gIn false) (eVar 5) (eVar 3))) (eVar 5)) (eLst aNil)))) (sRet 0 (eVar 4)) sNx)
def lp__law_due_2 : Store → Option O := (sSeq if__law_due_1 (sSet 3 (e2 gAdd (eVar 3) (eCall gList (aCons (e2 gIx (e2 gIx (eVar 2) (eVar 4)) (eC (.int 1))) aNil)))))
def body__law_due : Store → Option O := (sSeq (sSet 3 (eLst aNil)) (sSeq (sFor (iR1 (aCons (eCall gLen (aCons (eVar 2) aNil)) aNil)) (gSet 4) lp__law_due_2) (sRet 0 (eC .non))))
def sem__law_due : List D → Option D := fn0 6 body__law_due
def if__law_right_1 : Store → Option O := (sIf (tBo (e2 (gIsN false) (eVar 4) (eC .non))) (sRet 0 (e2 (gIsN false) (eVar 3) (eC .non))) sNx)
def body__law_right : Store → Option O := (sSeq (sSet 3 (eCall (callF 3 [] sem_group_fault) (aCons (eVar 0) (aCons (eCall gTuple (aCons (eVar 1) aNil)) (aCons (eCall gTuple (aCons (eVar 2) aNil)) aNil))))) (sSeq (sSet 4 (eCall (callF 3 [] sem__law_due) (aCons (eVar 0) (aCons (eVar 1) (aCons (eVar 2) aNil))))) (sSeq if__law_right_1 (sRet 0 (eAnd (eIsT "int" (eVar 3)) (eAnd (eNot (eIsT "bool" (eVar 3))) (e2 (gEq false) (eVar 3) (eVar 4))))))))
def sem__law_right : List D → Option D := fn0 5 body__law_right
def if_law_1 : Store → Option O := (sIf (tBo (e2 gLt (eCall gLen (aCons (eVar 6) aNil)) (eC (.int 20)))) (sAppend 6 (eCall (callF 3 [] sem__law_pair) (aCons (eVar 7) (aCons (eVar 2) (aCons (eVar 4) aNil))))) sNx)
def if_law_2 : Store → Option O := (sIf (bAnd (tBo (e2 (gEq false) (eVar 8) (eC (.int 0)))) (tBo (e2 gGt (eVar 2) (eC (.int 1))))) (sSeq (sSet 9 (e2 gMod (eCall (callF 2 [] sem__law_draw) (aCons (eVar 7) (aCons (eC (.int 1)) aNil))) (eVar 2))) (sSeq (sSet 10 (e2 gMod (e2 gAdd (e2 gAdd (eVar 9) (eC (.int 1))) (e2 gMod (eCall (callF 2 [] sem__law_draw) (aCons (eVar 7) (aCons (eC (.int 2)) aNil))) (e2 gSub (eVar 2) (eC (.int 1))))) (eVar 2))) (sSetI 5 (eClr 0 (e2 gXor (e2 gIx (eVar 5) (eVar 9)) (e2 gShl (eC (.int 1)) (eVar 10)))) (eVar 9)))) if_law_1)
def lp_law_3 : Store → Option O := (sSeq (sSet 8 (e2 gMod (eCall (callF 2 [] sem__law_draw) (aCons (eVar 7) (aCons (eC (.int 0)) aNil))) (eC (.int 8)))) if_law_2)
def if_law_4 : Store → Option O := (sIf (bAnd (tBo (e2 (gIsN true) (eVar 11) (eC .non))) (bNot (tBo (eCall (callF 3 [] sem__law_right) (aCons (eVar 3) (aCons (eVar 5) (aCons (eSl gSlL (eVar 6) oNone (oSome (eVar 11))) aNil))))))) (sRet 0 (eC (.bl false))) sNx)
def body_law : Store → Option O := (sSeq (sSet 1 (eCall (callF 2 [] sem__law_cell_at) (aCons (eVar 0) (aCons (eC (.int 0)) aNil)))) (sSeq (sSet 2 (e2 gIx (eLst (aCons (eC (.int 1)) (aCons (eC (.int 2)) (aCons (eC (.int 3)) (aCons (eC (.int 4)) (aCons (eC (.int 5)) (aCons (eC (.int 6)) (aCons (eC (.int 7)) (aCons (eC (.int 8)) (aCons (eC (.int 8)) (aCons (eC (.int 8)) (aCons (eC (.int 5)) (aCons (eC (.int 6)) (aCons (eC (.int 7)) (aCons (eC (.int 8)) (aCons (eC (.int 4)) (aCons (eC (.int 0)) aNil))))))))))))))))) (e2 gMod (eCall (callF 2 [] sem__law_draw) (aCons (eVar 1) (aCons (eC (.int 0)) aNil))) (eC (.int 16))))) (sSeq (sSet 3 (eCall (callF 2 [] sem__law_counts) (aCons (eVar 1) (aCons (eVar 2) aNil)))) (sSeq (sSet 4 (eCall (callF 2 [] sem__law_blocks) (aCons (eCall (callF 2 [] sem__law_cell_at) (aCons (eVar 0) (aCons (eC (.int 1)) aNil))) (aCons (eVar 2) aNil)))) (sSeq (sSet 5 (eCall (callF 3 [] sem__law_web) (aCons (eCall (callF 2 [] sem__law_cell_at) (aCons (eVar 0) (aCons (eC (.int 1)) aNil))) (aCons (eVar 2) (aCons (eVar 4) aNil))))) (sSeq (sSet 6 (eLst aNil)) (sSeq (sFor (iLst (eSl gSlL (eVar 0) (oSome (eC (.int 2))) oNone)) (gSet 7) lp_law_3) (sSeq (sSet 11 (eClr 0 (eCall (callF 3 [] sem__law_due) (aCons (eVar 3) (aCons (eVar 5) (aCons (eVar 6) aNil)))))) (sSeq if_law_4 (sRet 0 (eCall (callF 3 [] sem__law_right) (aCons (eVar 3) (aCons (eVar 5) (aCons (eVar 6) aNil))))))))))))))
def sem_law : List D → Option D := fn0 12 body_law
end
end K25

namespace K25
open PySem VL
def ci (xs : List Nat) : List Int := xs.map fun j : Nat => (j : Int)
/-! who is put behind whom: O the people so far, d their mask; each sees only people ahead -/
structure Gd (ws : List Nat) (O : List Nat) (d : Nat) : Prop where
  bit : ∀ p, d.testBit p = true ↔ p ∈ O
  nd : O.Nodup
  lt : ∀ p ∈ O, p < ws.length
  see : ∀ k (h : k < O.length), ∀ j, (ws.getD O[k] 0).testBit j = true → j ∈ O.take k
/-- nobody more can be put -/
def Cl (ws : List Nat) (d : Nat) : Prop := ∀ p, p < ws.length → d.testBit p = false → ∃ j, (ws.getD p 0).testBit j = true ∧ d.testBit j = false
theorem Gd.nil {ws : List Nat} : Gd ws [] 0 := ⟨fun p => by simp, .nil, fun _ m => (nomatch m), fun k h => absurd h (Nat.not_lt_zero k)⟩
section
variable {ws O O' : List Nat} {d d' : Nat}
theorem Gd.len (g : Gd ws O d) : O.length ≤ ws.length := by
  have := List.Nodup.length_le_of_subset g.nd (l₂ := List.range ws.length) fun p m => List.mem_range.mpr (g.lt p m)
  rwa [List.length_range] at this
theorem Gd.add (g : Gd ws O d) {p : Nat} (hp : p < ws.length) (h0 : d.testBit p = false) (hs : ∀ j, (ws.getD p 0).testBit j = true → d.testBit j = true) : Gd ws (O ++ [p]) (d ||| 2 ^ p) := by
  have np : p ∉ O := fun m => by rw [(g.bit p).mpr m] at h0; cases h0
  refine ⟨fun q => ?_, ?_, fun q m => ?_, fun k h j hj => ?_⟩
  · rw [Nat.testBit_or, Nat.testBit_two_pow, Bool.or_eq_true, g.bit q, decide_eq_true_eq, List.mem_append, List.mem_singleton]
    constructor
    · rintro (m | m)
      · exact .inl m
      · exact .inr m.symm
    · rintro (m | m)
      · exact .inl m
      · exact .inr m.symm
  · exact List.nodup_append.mpr ⟨g.nd, List.nodup_cons.mpr ⟨List.not_mem_nil, .nil⟩, fun a ma b mb e => np (by rw [List.mem_singleton.mp mb] at e; rw [← e]; exact ma)⟩
  · rcases List.mem_append.mp m with m | m
    · exact g.lt q m
    · rw [List.mem_singleton.mp m]; exact hp
  · rw [List.length_append] at h
    have h : k < O.length + 1 := h
    by_cases e : k < O.length
    · rw [List.getElem_append_left e] at hj
      rw [List.take_append_of_le_length (by omega)]
      exact g.see k e j hj
    · obtain rfl : k = O.length := by omega
      rw [List.getElem_append_right (Nat.le_refl _)] at hj
      simp only [Nat.sub_self, List.getElem_cons_zero] at hj
      rw [List.take_append_of_le_length (Nat.le_refl _), List.take_length]
      exact (g.bit j).mp (hs j hj)
theorem Gd.sub (g : Gd ws O d) (g' : Gd ws O' d') (c' : Cl ws d') : ∀ k (h : k < O.length), O[k] ∈ O' := by
  intro k
  induction k using Nat.strongRecOn with
  | ind k ih =>
    intro h
    refine Classical.byContradiction fun n => ?_
    have h0 : d'.testBit O[k] = false := by
      cases e : d'.testBit O[k] with
      | false => rfl
      | true => exact absurd ((g'.bit _).mp e) n
    obtain ⟨j, j1, j2⟩ := c' _ (g.lt _ (List.getElem_mem h)) h0
    have m := g.see k h j j1
    obtain ⟨l, hl, el⟩ := List.getElem_of_mem m
    rw [List.length_take] at hl
    rw [List.getElem_take] at el
    have := ih l (by omega) (by omega)
    rw [el] at this
    rw [(g'.bit j).mpr this] at j2
    cases j2
theorem Gd.same (g : Gd ws O d) (c : Cl ws d) (g' : Gd ws O' d') (c' : Cl ws d') : O.length = O'.length := by
  have h1 := List.Nodup.length_le_of_subset g.nd (l₂ := O') fun p m => by
    obtain ⟨k, hk, rfl⟩ := List.getElem_of_mem m
    exact g.sub g' c' k hk
  have h2 := List.Nodup.length_le_of_subset g'.nd (l₂ := O) fun p m => by
    obtain ⟨k, hk, rfl⟩ := List.getElem_of_mem m
    exact g'.sub g c k hk
  omega
/-- all of them -/
theorem Gd.full (g : Gd ws O d) (h : O.length = ws.length) {i : Nat} (hi : i < ws.length) : i ∈ O := by
  refine Classical.byContradiction fun n => ?_
  have := List.Nodup.length_le_of_subset (List.nodup_cons.mpr ⟨n, g.nd⟩) (l₂ := List.range ws.length) fun p m => by
    rcases List.mem_cons.mp m with rfl | m
    · exact List.mem_range.mpr hi
    · exact List.mem_range.mpr (g.lt p m)
  rw [List.length_cons, List.length_range] at this
  omega
theorem Gd.mask (g : Gd ws O d) : d < 2 ^ ws.length := by
  refine Nat.lt_pow_two_of_testBit d fun i hi => ?_
  cases e : d.testBit i with
  | false => rfl
  | true => exact absurd (g.lt i ((g.bit i).mp e)) (by omega)
end
theorem bit0_iff (d p : Nat) : (((d / 2 ^ p : Nat) : Int) % 2 = 0) ↔ d.testBit p = false := by
  have := tb_iff d p
  cases e : d.testBit p
  · rw [e] at this
    constructor
    · intro _; rfl
    · intro _
      have h : ¬ (((d / 2 ^ p : Nat) : Int) % 2 = 1) := fun z => by have := this.mp z; cases this
      omega
  · rw [e] at this
    have := this.mpr rfl
    constructor
    · intro z; omega
    · intro z; cases z
theorem subV (w d : Nat) : Builtin.bitAnd (w : Int) (Builtin.bitNot (d : Int)) = (w : Int) - ((w &&& d : Nat) : Int) := by
  rw [PyProof.Rows.bitAnd_not, PyProof.Rows.bitAnd_pp (Int.natCast_nonneg _) (Int.natCast_nonneg _), Int.toNat_natCast, Int.toNat_natCast]
theorem sub_iff (w d : Nat) : ((w : Int) - ((w &&& d : Nat) : Int) = 0) ↔ ∀ j, w.testBit j = true → d.testBit j = true := by
  constructor
  · intro h j hj
    have e : w &&& d = w := by omega
    rw [← e, Nat.testBit_and, Bool.and_eq_true] at hj
    exact hj.2
  · intro h
    have e : w &&& d = w := by
      apply Nat.eq_of_testBit_eq
      intro j
      rw [Nat.testBit_and]
      cases e : w.testBit j
      · rfl
      · rw [h j e]; rfl
    rw [e]; omega
theorem orV (d p : Nat) : Builtin.bitOr (d : Int) ((2 ^ p : Nat) : Int) = ((d ||| 2 ^ p : Nat) : Int) := by
  rw [PyProof.Rows.bitOr_and, PyProof.Rows.bitAnd_pp (Int.natCast_nonneg _) (Int.natCast_nonneg _), Int.toNat_natCast, Int.toNat_natCast]
  have h1 := xor_and d (2 ^ p)
  have h2 : (d ||| 2 ^ p) = (d ^^^ 2 ^ p) + (d &&& 2 ^ p) := by
    have h3 := xor_and (d ^^^ 2 ^ p) (d &&& 2 ^ p)
    have e1 : (d ^^^ 2 ^ p) &&& (d &&& 2 ^ p) = 0 := by
      apply Nat.eq_of_testBit_eq
      intro j
      rw [Nat.testBit_and, Nat.testBit_and, Nat.testBit_xor, Nat.zero_testBit]
      cases d.testBit j <;> cases (2 ^ p).testBit j <;> rfl
    have e2 : (d ^^^ 2 ^ p) ^^^ (d &&& 2 ^ p) = d ||| 2 ^ p := by
      apply Nat.eq_of_testBit_eq
      intro j
      rw [Nat.testBit_xor, Nat.testBit_and, Nat.testBit_xor, Nat.testBit_or]
      cases d.testBit j <;> cases (2 ^ p).testBit j <;> rfl
    rw [e1, e2] at h3
    omega
  omega
theorem p2c (k : Nat) : (1 : Int) * 2 ^ k = ((2 ^ k : Nat) : Int) := by rw [Int.one_mul, Int.natCast_pow]; rfl
theorem sh1 (i : Nat) (h : i ≤ 1000) : gShl (.int 1) (.int i) = some (.int ((2 ^ i : Nat) : Int)) := by
  have := shl_ok (i := 1) (j := i) (by omega) (by omega) (by decide) (by decide)
  rw [Int.toNat_natCast, p2c] at this
  exact this
theorem shrN (d p : Nat) : gShr (.int d) (.int p) = some (.int ((d / 2 ^ p : Nat) : Int)) := by rw [shr_ok (by omega), Int.toNat_natCast, shr_cast]
theorem cwT {ws : List Nat} {p : Nat} (hp : p < ws.length) : gIx (.tup ((ci ws).map .int)) (.int p) = some (.int (ws.getD p 0 : Nat)) := by
  rw [ix_it (by omega) (by unfold ci; rw [List.length_map]; omega), Int.toNat_natCast, at0_get (by unfold ci; rw [List.length_map]; omega)]
  unfold ci
  rw [List.getElem_map, List.getD_eq_getElem?_getD, List.getElem?_eq_getElem hp]; rfl
theorem cwL {ws : List Nat} {p : Nat} (hp : p < ws.length) : gIx (.lst ((ci ws).map .int)) (.int p) = some (.int (ws.getD p 0 : Nat)) := by
  rw [ix_il (by omega) (by unfold ci; rw [List.length_map]; omega), Int.toNat_natCast, at0_get (by unfold ci; rw [List.length_map]; omega)]
  unfold ci
  rw [List.getElem_map, List.getD_eq_getElem?_getD, List.getElem?_eq_getElem hp]; rfl
theorem ci_at {O : List Nat} {k : Nat} (h : k < O.length) : at0 (ci O) k = (O[k] : Nat) := by
  rw [at0_get (by unfold ci; rw [List.length_map]; exact h)]
  unfold ci
  rw [List.getElem_map]
theorem ci_len (O : List Nat) : (ci O).length = O.length := by unfold ci; rw [List.length_map]
theorem ci_rg (n : Nat) (hn : n ≤ 64) {f : Store → Option D} {ρ : Store} (h : f ρ = some (.int n)) : eLRg (rg1 f) ρ = some (.lst ((ci (List.range n)).map .int)) := by
  rw [lrg_ok (n := n) (by unfold rg1; rw [h]) (by omega)]
  unfold ci
  simp only [Int.zero_add]
theorem ci_idx {O : List Nat} (nd : O.Nodup) {p : Nat} (m : p ∈ O) : ∃ k, k < O.length ∧ gIdx (.lst ((ci O).map .int)) (.int p) = some (.int (k : Nat)) := by
  obtain ⟨k, hk, e⟩ := List.getElem_of_mem m
  refine ⟨k, hk, idx_ok (by rw [ci_len]; exact hk) (by rw [ci_at hk, e]) fun j hj z => ?_⟩
  rw [ci_at (by omega)] at z
  have := (List.getElem_inj nd).mp ((show O[j]'(by omega) = p by omega).trans e.symm)
  omega
theorem perm_er : ∀ (l : List Nat) (k : Nat) (h : k < l.length), (l[k] :: l.eraseIdx k).Perm l
  | x :: l, 0, _ => .refl _
  | x :: l, k + 1, h => (List.Perm.swap ..).trans ((perm_er l k (Nat.lt_of_succ_lt_succ h)).cons x)
theorem add_or {d p : Nat} (h : d.testBit p = false) : d + 2 ^ p = d ||| 2 ^ p := by
  have h1 := xor_and d (2 ^ p)
  have z : d &&& 2 ^ p = 0 := by
    apply Nat.eq_of_testBit_eq
    intro j
    rw [Nat.testBit_and, Nat.zero_testBit, Nat.testBit_two_pow]
    by_cases e : p = j
    · subst e; rw [h]; rfl
    · rw [decide_eq_false e, Bool.and_false]
  have x : d ^^^ 2 ^ p = d ||| 2 ^ p := by
    apply Nat.eq_of_testBit_eq
    intro j
    rw [Nat.testBit_xor, Nat.testBit_or, Nat.testBit_two_pow]
    by_cases e : p = j
    · subst e; rw [h]; simp
    · rw [decide_eq_false e, Bool.xor_false, Bool.or_false]
  rw [z, x] at h1
  omega
theorem ix_m1 {xs : List Int} (h : 0 < xs.length) : gIx (.tup (xs.map .int)) (.int (-1)) = some (.int (at0 xs (xs.length - 1))) := by
  show L2.atI (xs.map D.int) (-1) = _
  rw [atI_map]
  have : L2.atI xs (-1) = some (at0 xs (xs.length - 1)) := by
    unfold L2.atI L2.ixN
    rw [if_neg (by decide), if_pos (by omega)]
    show xs[(-1 + (xs.length : Int)).toNat]? = _
    rw [show (-1 + (xs.length : Int)).toNat = xs.length - 1 by omega, List.getElem?_eq_getElem (by omega), at0_get (by omega)]
  rw [this]; rfl
theorem ci_set (ws : List Nat) (i w : Nat) : ((ci ws).map D.int).set i (.int (w : Nat)) = (ci (ws.set i w)).map .int := by
  unfold ci
  rw [List.map_set, List.map_set]
/-- who sees whom: n people, none sees itself -/
structure Wb (ws : List Nat) (n : Nat) : Prop where
  len : ws.length = n
  lt : ∀ w ∈ ws, w < 2 ^ n
  own : ∀ i, i < n → (ws.getD i 0).testBit i = false
theorem Wb.set {ws : List Nat} {n i w : Nat} (h : Wb ws n) (hi : i < n) (hw : w < 2 ^ n) (ho : w.testBit i = false) : Wb (ws.set i w) n := by
  refine ⟨by rw [List.length_set]; exact h.len, fun x m => ?_, fun j hj => ?_⟩
  · rcases List.mem_or_eq_of_mem_set m with m | rfl
    · exact h.lt x m
    · exact hw
  · have l := h.len
    rw [List.getD_eq_getElem?_getD, List.getElem?_set]
    by_cases e : i = j
    · subst e; rw [if_pos rfl, if_pos (by omega)]; exact ho
    · rw [if_neg e, ← List.getD_eq_getElem?_getD]; exact h.own j hj
/-- a bit, as the law asks for it -/
theorem lawbit (w j : Nat) (hj : j ≤ 8) {f g : Store → Option D} {ρ : Store} (h1 : f ρ = some (.int w)) (h2 : g ρ = some (.int j)) : tBo (e2 (gEq false) (e2 gMod (e2 gDiv f (e2 gShl (eC (.int 1)) g)) (eC (.int 2))) (eC (.int 1))) ρ = some (w.testBit j) := by
  have p64 : (2 : Nat) ^ j ≤ 256 := Nat.le_trans (Nat.pow_le_pow_right (by decide) hj) (by decide)
  have pp := Nat.two_pow_pos j
  have dv : gDiv (.int (w : Nat)) (.int ((2 ^ j : Nat) : Int)) = some (.int ((w / 2 ^ j : Nat) : Int)) := by rw [div_ok (by omega) (by omega), Int.natCast_ediv]
  refine tbo_ok (e2_ok (e2_ok (e2_ok h1 (e2_ok rfl h2 (sh1 j (by omega))) dv) rfl (mod_ok (by decide))) rfl (s_eq.trans ?_))
  have := tb_iff w j
  cases e : w.testBit j
  · rw [decide_eq_false fun z => by rw [this, e] at z; cases z]
  · rw [decide_eq_true (this.mpr e)]
theorem getD_get {R : List Nat} {k : Nat} (h : k < R.length) : R.getD k 0 = R[k] := by
  rw [List.getD_eq_getElem?_getD, List.getElem?_eq_getElem h]; rfl
theorem sumN : ∀ (M : List Nat) (n : Nat), M.Nodup → (∀ q ∈ M, q < n) → ∃ v : Nat, v < 2 ^ n ∧ (M.map fun q => ((2 ^ q : Nat) : Int)).sum = (v : Int) ∧ ∀ q, v.testBit q = true ↔ q ∈ M
  | [], n, _, _ => ⟨0, Nat.two_pow_pos n, rfl, fun q => by simp⟩
  | p :: M, n, nd, lt => by
    obtain ⟨h1, h2⟩ := List.nodup_cons.mp nd
    obtain ⟨v, v1, v2, v3⟩ := sumN M n h2 fun q m => lt q (List.mem_cons_of_mem _ m)
    have hb : v.testBit p = false := by
      cases e : v.testBit p with
      | false => rfl
      | true => exact absurd ((v3 p).mp e) h1
    have ad := add_or hb
    refine ⟨v ||| 2 ^ p, Nat.or_lt_two_pow v1 (Nat.pow_lt_pow_right (by decide) (lt p List.mem_cons_self)), ?_, fun q => ?_⟩
    · rw [List.map_cons, List.sum_cons, v2, ← ad]; omega
    · rw [Nat.testBit_or, Nat.testBit_two_pow, Bool.or_eq_true, v3 q, decide_eq_true_eq, List.mem_cons]
      constructor
      · rintro (m | m)
        · exact .inr m
        · exact .inl m.symm
      · rintro (m | m)
        · exact .inr m.symm
        · exact .inl m
theorem ring_at {n : Nat} {r : List Nat} (lt : ∀ p ∈ r, p < n) (two : 2 ≤ r.length) (i : Nat) (h : i < r.length) : ∃ p, p < n ∧ gIx (.tup ((ci r).map .int)) (.int ((i : Int) - 1)) = some (.int (p : Nat)) ∧ p = r.getD (if i = 0 then r.length - 1 else i - 1) 0 := by
  cases i with
  | zero =>
    rw [if_pos rfl]
    refine ⟨r[r.length - 1]'(by omega), lt _ (List.getElem_mem _), ?_, by rw [getD_get (by omega)]⟩
    refine (ix_m1 (xs := ci r) (by rw [ci_len]; omega)).trans ?_
    rw [ci_len, ci_at (by omega)]
  | succ i =>
    rw [if_neg (by omega)]
    refine ⟨r[i]'(by omega), lt _ (List.getElem_mem _), ?_, by rw [getD_get (by omega)]; rfl⟩
    rw [show (((i + 1 : Nat) : Int) - 1) = (i : Nat) by omega, cwT (by omega), getD_get (by omega)]
theorem cell_at (ns : List Int) (k : Nat) (hk : k ≤ 100) : sem__law_cell_at [.lst (ns.map .int), .int k] = some (.int (at0 ns k)) := by
  by_cases h : k < ns.length
  · refine fn0_ok (seq_rt (if_t (by simp; omega) (ret_ok (d := .int (at0 ns k)) ?_ (by simp))))
    have := ix_il (xs := ns) (i := (k : Int)) (by omega) (by omega)
    rw [Int.toNat_natCast] at this
    rw [s_e2]
    exact this
  · refine fn0_ok (seq_nx (if_f (by simp; omega) rfl) (ret_ok (d := .int (at0 ns k)) ?_ (by simp)))
    unfold at0
    rw [List.getD_eq_getElem?_getD, List.getElem?_eq_none (by omega)]
    rfl
theorem len_ci' (O : List Nat) : ((ci O).map D.int).length = O.length := by rw [List.length_map, ci_len]
theorem isT_ok {f : Store → Option D} {ρ : Store} {d : D} {T : String} {b : Bool} (h : f ρ = some d) (h2 : isT T d = some b) : eIsT T f ρ = some (.bl b) := by
  rw [s_isI, h]
  simp only [h2]
/-- a loop that ends at the first that is not right -/
theorem forD_all {α : Type} {k : α → D} {g : D → Store → Option Store} {F : Store → Option O} {d : D} {ok : α → Bool} (P : Store → Prop) : ∀ {xs : List α} (st : ∀ x ∈ xs, ∀ ρ, P ρ → ∃ ρ1, g (k x) ρ = some ρ1 ∧ ((ok x = true ∧ ∃ ρ2, F ρ1 = some (.nx ρ2) ∧ P ρ2) ∨ (ok x = false ∧ ∃ ρ2, F ρ1 = some (.rt d ρ2)))) {ρ : Store}, P ρ →
    (xs.all ok = true ∧ ∃ ρ', forD g F (xs.map k) ρ = some (.nx ρ') ∧ P ρ') ∨ (xs.all ok = false ∧ ∃ ρ', forD g F (xs.map k) ρ = some (.rt d ρ'))
  | [], _, ρ, p => .inl ⟨rfl, ρ, rfl, p⟩
  | x :: xs, st, ρ, p => by
    obtain ⟨ρ1, h1, h2⟩ := st x List.mem_cons_self ρ p
    have e : forD g F ((x :: xs).map k) ρ = match F ρ1 with | some (.nx ρ2) => forD g F (xs.map k) ρ2 | some (.ct ρ2) => forD g F (xs.map k) ρ2 | some (.bk ρ2) => some (.nx ρ2) | o => o := by
      rw [List.map_cons]
      show (match g (k x) ρ with | none => none | some ρ1 => _) = _
      first | (rw [h1]; done) | (rw [h1]; rfl)
    rcases h2 with ⟨o, ρ2, h3, h4⟩ | ⟨o, ρ2, h3⟩
    · rw [e, h3, List.all_cons, o, Bool.true_and]
      exact forD_all P (fun y my => st y (List.mem_cons_of_mem _ my)) h4
    · rw [e, h3, List.all_cons, o, Bool.false_and]
      exact .inr ⟨rfl, ρ2, rfl⟩
theorem sees {ws : List Nat} {p o : Nat} (hp : p < ws.length) : sem_sees [.tup ((ci ws).map .int), .int p, .int o] = some (.bl ((ws.getD p 0).testBit o)) := by
  refine fn0_ok (ρ' := [some (.tup ((ci ws).map .int)), some (.int p), some (.int o)]) (ret_ok (e2_ok (e2_ok (e2_ok rfl rfl (cwT hp)) rfl (shrN _ o)) rfl s_iu |> fun h => e2_ok h rfl (s_eq.trans ?_)) rfl)
  rw [PyProof.Rows.bitAnd_m1]
  have := tb_iff (ws.getD p 0) o
  cases e : (ws.getD p 0).testBit o
  · rw [decide_eq_false fun z => by rw [this, e] at z; cases z]
  · rw [decide_eq_true (this.mpr e)]
/-- each sees each other one -/
def circ (ws M : List Nat) : Bool := M.all fun p => M.all fun q => !(decide (p ≠ q) && !(ws.getD p 0).testBit q)
theorem is_circle {ws M : List Nat} (hM : ∀ p ∈ M, p < ws.length) (hl : ws.length ≤ 8) : sem_is_circle [.tup ((ci ws).map .int), .tup ((ci M).map .int)] = some (.bl (circ ws M)) := by
  have se := fun (p o : Nat) (hp : p < ws.length) => sees (ws := ws) (p := p) (o := o) hp
  obtain ⟨WT, hWT⟩ : ∃ WT, WT = D.tup ((ci ws).map .int) := ⟨_, rfl⟩
  have it : ∀ ρ : Store, eVar 1 ρ = some (.tup ((ci M).map .int)) → iTp (eVar 1) ρ = some (M.map fun o : Nat => D.int o) := fun ρ e => by
    refine (iTp_ok e).trans ?_
    unfold ci
    rw [List.map_map]; rfl
  obtain ⟨MT, hMT⟩ : ∃ MT, MT = D.tup ((ci M).map .int) := ⟨_, rfl⟩
  simp only [← hWT, ← hMT] at se it ⊢
  have inner : ∀ p ∈ M, ∀ a, (M.all (fun q => !(decide (p ≠ q) && !(ws.getD p 0).testBit q)) = true ∧ ∃ ρ', lp_is_circle_3 [some WT, some MT, some (.int (p : Nat)), a] = some (.nx ρ') ∧ ∃ a, ρ' = [some WT, some MT, some (.int (p : Nat)), a]) ∨ (M.all (fun q => !(decide (p ≠ q) && !(ws.getD p 0).testBit q)) = false ∧ ∃ ρ', lp_is_circle_3 [some WT, some MT, some (.int (p : Nat)), a] = some (.rt (.bl false) ρ')) := fun p hp a => by
    have := forD_all (k := fun o : Nat => D.int o) (g := gSet 3) (F := lp_is_circle_2) (d := .bl false) (ok := fun q => !(decide (p ≠ q) && !(ws.getD p 0).testBit q)) (fun ρ => ∃ a, ρ = [some WT, some MT, some (.int (p : Nat)), a]) (xs := M) (fun q hq ρ r => by
      obtain ⟨a, rfl⟩ := r
      have t := bAnd_ok (ρ := [some WT, some MT, some (.int (p : Nat)), some (.int (q : Nat))]) (a := decide (p ≠ q)) (b := !(ws.getD p 0).testBit q) (p := tBo (e2 (gEq true) (eVar 2) (eVar 3))) (q := bNot (tBo (eCall (callF 3 [] sem_sees) (aCons (eVar 0) (aCons (eVar 2) (aCons (eVar 3) aNil)))))) (tbo_ok (e2_ok rfl rfl (s_ne.trans (by rw [show (!decide ((p : Int) = (q : Int))) = decide (p ≠ q) by rw [← decide_not]; exact decide_eq_decide.mpr (by omega)])))) fun _ => bNot_ok (tbo_ok (callF_ok (ds := [WT, .int p, .int q]) rfl rfl (se p q (hM p hp))))
      refine ⟨_, rfl, ?_⟩
      cases e : (decide (p ≠ q) && !(ws.getD p 0).testBit q) with
      | true => rw [e] at t; exact .inr ⟨rfl, _, if_t t (ret_ok (d := .bl false) rfl rfl)⟩
      | false => rw [e] at t; exact .inl ⟨rfl, _, if_f t rfl, _, rfl⟩) (ρ := [some WT, some MT, some (.int (p : Nat)), a]) ⟨a, rfl⟩
    rcases this with ⟨h, ρ', h1, h2⟩ | ⟨h, ρ', h1⟩
    · exact .inl ⟨h, ρ', for_ok (it _ rfl) h1, h2⟩
    · exact .inr ⟨h, ρ', for_ok (it _ rfl) h1⟩
  have := forD_all (k := fun o : Nat => D.int o) (g := gSet 2) (F := lp_is_circle_3) (d := .bl false) (ok := fun p => M.all fun q => !(decide (p ≠ q) && !(ws.getD p 0).testBit q)) (fun ρ => ∃ a b, ρ = [some WT, some MT, a, b]) (xs := M) (fun p hp ρ r => by
    obtain ⟨a, b, rfl⟩ := r
    refine ⟨_, rfl, ?_⟩
    rcases inner p hp b with ⟨h, ρ', h1, a', rfl⟩ | ⟨h, ρ', h1⟩
    · exact .inl ⟨h, _, h1, _, _, rfl⟩
    · exact .inr ⟨h, _, h1⟩) (ρ := [some WT, some MT, none, none]) ⟨none, none, rfl⟩
  unfold circ
  rcases this with ⟨h, ρ', h1, a, b, rfl⟩ | ⟨h, ρ', h1⟩
  · rw [h]; exact fn0_ok (seq_nx (for_ok (it _ rfl) h1) (ret_ok (d := .bl true) rfl rfl))
  · rw [h]; exact fn0_ok (seq_rt (for_ok (it _ rfl) h1))
/-- each sees the next, the last the first -/
def rng (ws R : List Nat) : Bool := !(decide (R.length < 2) || decide (distinct (ci R) < R.length)) && (List.range R.length).all fun i => (ws.getD (R.getD (if i = 0 then R.length - 1 else i - 1) 0) 0).testBit (R.getD i 0)
theorem is_ring {ws R : List Nat} (hR : ∀ p ∈ R, p < ws.length) (hl : ws.length ≤ 8) (lR : R.length ≤ 20) : sem_is_ring [.tup ((ci ws).map .int), .tup ((ci R).map .int)] = some (.bl (rng ws R)) := by
  have se := fun (p o : Nat) (hp : p < ws.length) => sees (ws := ws) (p := p) (o := o) hp
  have rat := fun (two : 2 ≤ R.length) (i : Nat) (h : i < R.length) => ring_at hR two i h
  have rx := fun (i : Nat) (h : i < R.length) => cwT (ws := R) h
  have st := lenSet_ok (f := eVar 1) (ρ := [some (.tup ((ci ws).map .int)), some (.tup ((ci R).map .int)), none]) (ns := ci R) rfl (by rw [ci_len]; omega)
  have ln : ∀ ρ : Store, eVar 1 ρ = some (.tup ((ci R).map .int)) → eCall gLen (aCons (eVar 1) aNil) ρ = some (.int R.length) := fun ρ e => call_ok (acons_ok e anil_ok) (by rw [s_lenT, List.length_map, ci_len])
  obtain ⟨WT, hWT⟩ : ∃ WT, WT = D.tup ((ci ws).map .int) := ⟨_, rfl⟩
  obtain ⟨RT, hRT⟩ : ∃ RT, RT = D.tup ((ci R).map .int) := ⟨_, rfl⟩
  simp only [← hWT, ← hRT] at se rat rx st ln ⊢
  have t := bOr_ok (ρ := [some WT, some RT, none]) (p := tBo (e2 gLt (eCall gLen (aCons (eVar 1) aNil)) (eC (.int 2)))) (q := tBo (e2 gLt (eLenSet (eVar 1)) (eCall gLen (aCons (eVar 1) aNil)))) (a := decide (R.length < 2)) (b := decide (distinct (ci R) < R.length)) (tbo_ok (e2_ok (ln _ rfl) rfl (s_cmp.trans (by rw [decide_eq_decide.mpr (show ((R.length : Int) < 2) ↔ R.length < 2 by omega)])))) fun _ => tbo_ok (e2_ok st (ln _ rfl) (s_cmp.trans (by rw [decide_eq_decide.mpr (show ((distinct (ci R) : Int) < (R.length : Int)) ↔ distinct (ci R) < R.length by omega)])))
  unfold rng
  cases e : (decide (R.length < 2) || decide (distinct (ci R) < R.length)) with
  | true => rw [e] at t; exact fn0_ok (seq_rt (if_t t (ret_ok (d := .bl false) rfl rfl)))
  | false =>
    rw [e] at t
    have two : 2 ≤ R.length := by
      rw [Bool.or_eq_false_iff, decide_eq_false_iff_not] at e; omega
    have := forD_all (k := fun o : Nat => D.int o) (g := gSet 2) (F := lp_is_ring_3) (d := .bl false) (ok := fun i => (ws.getD (R.getD (if i = 0 then R.length - 1 else i - 1) 0) 0).testBit (R.getD i 0)) (fun ρ => ∃ a, ρ = [some WT, some RT, a]) (xs := List.range R.length) (fun i mi ρ r => by
      obtain ⟨a, rfl⟩ := r
      have hi := List.mem_range.mp mi
      obtain ⟨p, p1, p2, p3⟩ := rat two i hi
      have cc : eCall (callF 3 [] sem_sees) (aCons (eVar 0) (aCons (e2 gIx (eVar 1) (e2 gSub (eVar 2) (eC (.int 1)))) (aCons (e2 gIx (eVar 1) (eVar 2)) aNil))) [some WT, some RT, some (.int i)] = some (.bl ((ws.getD p 0).testBit (R.getD i 0))) := callF_ok (ds := [WT, .int p, .int (R.getD i 0 : Nat)]) (acons_ok rfl (acons_ok (e2_ok rfl (e2_ok rfl rfl s_iu) p2) (acons_ok (e2_ok rfl rfl (rx i hi)) anil_ok))) rfl (se p _ p1)
      have t := bNot_ok (tbo_ok cc)
      refine ⟨_, rfl, ?_⟩
      rw [← p3]
      cases e : (ws.getD p 0).testBit (R.getD i 0) with
      | true => rw [e] at t; exact .inl ⟨rfl, _, if_f t rfl, _, rfl⟩
      | false => rw [e] at t; exact .inr ⟨rfl, _, if_t t (ret_ok (d := .bl false) rfl rfl)⟩) (ρ := [some WT, some RT, none]) ⟨none, rfl⟩
    have fo : ∀ o, forD (gSet 2) lp_is_ring_3 ((List.range R.length).map fun o : Nat => D.int o) [some WT, some RT, none] = o → sFor (iR1 (aCons (eCall gLen (aCons (eVar 1) aNil)) aNil)) (gSet 2) lp_is_ring_3 [some WT, some RT, none] = o := fun o h => for_ok ((r1_nat (n := R.length) (acons_ok (ln _ rfl) anil_ok) (by omega)).trans (by rw [ups0])) h
    rcases this with ⟨h, ρ', h1, a, rfl⟩ | ⟨h, ρ', h1⟩
    · rw [h]; exact fn0_ok (seq_nx (if_f t rfl) (seq_nx (fo _ h1) (ret_ok (d := .bl true) rfl rfl)))
    · rw [h]; exact fn0_ok (seq_nx (if_f t rfl) (seq_rt (fo _ h1)))
def lsD (L : List (List Nat)) : D := .lst (L.map fun o => D.lst ((ci o).map .int))
theorem ne_lsD (L : List (List Nat)) : gEq true (lsD L) (.lst []) = some (.bl (!L.isEmpty)) := by
  unfold lsD
  rw [ne_nil ((Lay.lst (m := 1) (k := fun o : List Nat => D.lst ((ci o).map .int)) fun o _ => (Lay.lst (m := 0) (k := D.int) fun _ _ => .int)).okE (by decide))]
  cases L <;> rfl
theorem cut1 {R : List Nat} {lo hi : Option Int} {R' : List Nat} (h : cutD R lo hi = R') : gSlL (.lst ((ci R).map .int)) lo hi = some (.lst ((ci R').map .int)) := by
  rw [s_slL, ← h]
  unfold ci
  rw [cut_map]
theorem cat1 {R S : List Nat} (l1 : R.length ≤ 100) (l2 : S.length ≤ 100) : gCat (.lst ((ci R).map .int)) (.lst ((ci S).map .int)) = some (.lst ((ci (R ++ S)).map .int)) := by
  rw [cat_ok (by rw [len_ci', len_ci']; omega)]
  exact congrArg (fun l => some (D.lst l)) (by unfold ci; simp only [List.map_append])
/-! groups -/
def kD (b : Bool) : D := .str (if b then "ring" else "circle")
theorem kd_ring : ∀ b : Bool, gEq false (kD b) (.str "ring") = some (.bl b)
  | true => (s_eqS (x := "ring") (y := "ring") (by decide +kernel) (by decide +kernel)).trans (by rw [decide_eq_true rfl])
  | false => (s_eqS (x := "circle") (y := "ring") (by decide +kernel) (by decide +kernel)).trans (by rw [decide_eq_false (by decide +kernel)])
theorem kd_circle : ∀ b : Bool, gEq false (kD b) (.str "circle") = some (.bl (!b))
  | true => (s_eqS (x := "ring") (y := "circle") (by decide +kernel) (by decide +kernel)).trans (by rw [decide_eq_false (by decide +kernel)]; rfl)
  | false => (s_eqS (x := "circle") (y := "circle") (by decide +kernel) (by decide +kernel)).trans (by rw [decide_eq_true rfl]; rfl)
theorem chain_ok {g1 g2 : D → D → Option D} {f1 f2 f3 : Store → Option D} {ρ : Store} {x y z : D} {b : Bool} (h1 : f1 ρ = some x) (h2 : f2 ρ = some y) (h3 : f3 ρ = some z) (k1 : g1 x y = some (.bl true)) (k2 : g2 y z = some (.bl b)) : eChain g1 g2 f1 f2 f3 ρ = some (.bl b) := by
  unfold eChain
  simp only [h1, h2, h3, k1, k2]
theorem chain_no {g1 g2 : D → D → Option D} {f1 f2 f3 : Store → Option D} {ρ : Store} {x y : D} (h1 : f1 ρ = some x) (h2 : f2 ρ = some y) (k1 : g1 x y = some (.bl false)) : eChain g1 g2 f1 f2 f3 ρ = some (.bl false) := by
  unfold eChain
  simp only [h1, h2, k1]
theorem eand_ok {f g : Store → Option D} {ρ : Store} {a b : Bool} (h1 : f ρ = some (.bl a)) (h2 : a = true → g ρ = some (.bl b)) : eAnd f g ρ = some (.bl (a && b)) := by
  unfold eAnd
  rw [h1]
  cases a with
  | true => simp only [h2 rfl]; rfl
  | false => rfl
/-- the numbers of people, as places -/
theorem to_ci {p : List Int} {n : Nat} (h : ∀ x ∈ p, 0 ≤ x ∧ x < n) : ∃ R : List Nat, p = ci R ∧ ∀ q ∈ R, q < n := by
  refine ⟨p.map Int.toNat, ?_, fun q m => ?_⟩
  · unfold ci
    rw [List.map_map]
    refine (List.map_id p).symm.trans (List.map_congr_left fun x m => ?_)
    show x = ((x.toNat : Nat) : Int)
    have := h x m
    omega
  · obtain ⟨x, m2, rfl⟩ := List.mem_map.mp m
    have := h x m2
    omega
def vld (n : Nat) (x : Int) : Bool := decide (0 ≤ x) && decide (x < n)
theorem vld_all {p : List Int} {n : Nat} (h : p.all (vld n) = true) : ∀ x ∈ p, 0 ≤ x ∧ x < n := fun x m => by
  have := List.all_eq_true.mp h x m
  unfold vld at this
  rw [Bool.and_eq_true, decide_eq_true_eq, decide_eq_true_eq] at this
  exact this
/-- what a group is -/
def Gp (cs : List Int) (ws : List Nat) (b : Bool) (R : List Nat) : Prop := R.Nodup ∧ if b = true then 2 ≤ R.length ∧ (∀ q ∈ R, cs.getD q 0 = 2) ∧ ∀ i, i < R.length → (ws.getD (R.getD i 0) 0).testBit (R.getD ((i + 1) % R.length) 0) = true
  else R.Pairwise (· < ·) ∧ ∀ p ∈ R, ∀ q ∈ R, p ≠ q → (ws.getD p 0).testBit q = true
theorem ci_nodup {R : List Nat} : (ci R).Nodup ↔ R.Nodup := by
  unfold ci List.Nodup
  rw [List.pairwise_map]
  exact ⟨fun h => h.imp fun e z => e (by rw [z]), fun h => h.imp fun e z => e (by omega)⟩
theorem dis_len : ∀ ns : List Int, (dis ns).length ≤ ns.length ∧ ((dis ns).length = ns.length → ns.Nodup)
  | [] => ⟨Nat.le_refl _, fun _ => .nil⟩
  | x :: xs => by
    obtain ⟨h1, h2⟩ := dis_len xs
    unfold dis
    split
    · rw [List.length_cons]
      exact ⟨by omega, fun e => by omega⟩
    · rename_i hx
      rw [List.length_cons, List.length_cons]
      exact ⟨by omega, fun e => List.nodup_cons.mpr ⟨hx, h2 (by omega)⟩⟩
theorem rng_iff {ws R : List Nat} : rng ws R = true ↔ 2 ≤ R.length ∧ R.Nodup ∧ ∀ i, i < R.length → (ws.getD (R.getD i 0) 0).testBit (R.getD ((i + 1) % R.length) 0) = true := by
  have dl : distinct (ci R) < R.length ↔ ¬ R.Nodup := by
    have le := (dis_len (ci R)).1
    have nd := (dis_len (ci R)).2
    rw [ci_len] at le nd
    unfold distinct
    constructor
    · intro h z
      have e := distinct_nd (ci_nodup.mpr z)
      unfold distinct at e
      rw [ci_len] at e
      omega
    · intro h
      have : (dis (ci R)).length ≠ R.length := fun e => h (ci_nodup.mp (nd e))
      omega
  unfold rng
  rw [Bool.and_eq_true, Bool.not_eq_true', Bool.or_eq_false_iff, decide_eq_false_iff_not, decide_eq_false_iff_not, dl, List.all_eq_true]
  constructor
  · rintro ⟨⟨h1, h2⟩, h3⟩
    refine ⟨by omega, Classical.not_not.mp h2, fun i hi => ?_⟩
    by_cases e : i + 1 = R.length
    · rw [e, Nat.mod_self]
      have := h3 0 (List.mem_range.mpr (by omega))
      rw [if_pos rfl] at this
      rw [show i = R.length - 1 by omega]
      exact this
    · rw [Nat.mod_eq_of_lt (by omega)]
      have := h3 (i + 1) (List.mem_range.mpr (by omega))
      rw [if_neg (by omega)] at this
      exact this
  · rintro ⟨h1, h2, h3⟩
    refine ⟨⟨by omega, fun z => z h2⟩, fun i mi => ?_⟩
    have hi := List.mem_range.mp mi
    by_cases e : i = 0
    · subst e
      rw [if_pos rfl]
      have := h3 (R.length - 1) (by omega)
      rw [show R.length - 1 + 1 = R.length by omega, Nat.mod_self] at this
      exact this
    · rw [if_neg e]
      have := h3 (i - 1) (by omega)
      rw [show i - 1 + 1 = i by omega, Nat.mod_eq_of_lt hi] at this
      exact this
theorem circ_iff {ws M : List Nat} : circ ws M = true ↔ ∀ p ∈ M, ∀ q ∈ M, p ≠ q → (ws.getD p 0).testBit q = true := by
  unfold circ
  rw [List.all_eq_true]
  refine forall_congr' fun p => forall_congr' fun mp => ?_
  rw [List.all_eq_true]
  refine forall_congr' fun q => forall_congr' fun mq => ?_
  by_cases e : p = q
  · simp [e]
  · simp [e]
theorem ci_inj : ∀ {R S : List Nat}, ci R = ci S → R = S
  | [], [], _ => rfl
  | [], _ :: _, e => by cases e
  | _ :: _, [], e => by cases e
  | a :: R, b :: S, e => by
    unfold ci at e
    rw [List.map_cons, List.map_cons] at e
    injection e with e1 e2
    have := ci_inj (R := R) (S := S) e2
    rw [this, show a = b by omega]
theorem ci_lt {R : List Nat} : (ci R).Pairwise (· < ·) ↔ R.Pairwise (· < ·) := by
  unfold ci
  rw [List.pairwise_map]
  exact ⟨fun h => h.imp fun e => by omega, fun h => h.imp fun e => by omega⟩
theorem sortset_iff (xs : List Int) : xs = sortI (dis xs) ↔ xs.Pairwise (· < ·) := by
  constructor
  · intro h
    have p := sortI_perm (dis xs)
    have s := sortI_le (dis xs)
    rw [← h] at p s
    have nd := p.nodup_iff.mpr (nodup_dis xs)
    exact (List.pairwise_and_iff.mpr ⟨s, nd⟩).imp fun ⟨h1, h2⟩ => by omega
  · intro h
    refine sortI_of ?_ (h.imp fun e => Int.le_of_lt e)
    exact (List.perm_ext_iff_of_nodup (h.imp fun e => Int.ne_of_lt e) (nodup_dis xs)).mpr fun z => mem_dis.symm
theorem prog_group (cs : List Int) (ws : List Nat) (b : Bool) (p : List Int) (hc : cs.length = ws.length) (hl : ws.length ≤ 8) (lp : p.length ≤ 20) : ∃ v, sem_is_group [.tup (cs.map .int), .tup ((ci ws).map .int), kD b, .tup (p.map .int)] = some (.bl v) ∧ (v = true ↔ ∃ R, p = ci R ∧ (∀ q ∈ R, q < ws.length) ∧ Gp cs ws b R) := by
  obtain ⟨CS, hCS⟩ : ∃ CS, CS = D.tup (cs.map .int) := ⟨_, rfl⟩
  obtain ⟨WT, hWT⟩ : ∃ WT, WT = D.tup ((ci ws).map .int) := ⟨_, rfl⟩
  obtain ⟨KD, hKD⟩ : ∃ KD, KD = kD b := ⟨_, rfl⟩
  obtain ⟨PT, hPT⟩ : ∃ PT, PT = D.tup (p.map .int) := ⟨_, rfl⟩
  have ln : ∀ ρ : Store, eVar 0 ρ = some CS → eCall gLen (aCons (eVar 0) aNil) ρ = some (.int ws.length) := fun ρ e => call_ok (acons_ok e anil_ok) (by rw [hCS, s_lenT, List.length_map, hc])
  have lv := forD_all (k := D.int) (g := gSet 4) (F := lp_is_group_2) (d := .bl false) (ok := vld ws.length) (fun ρ => ∃ a, ρ = [some CS, some WT, some KD, some PT, a]) (xs := p) (fun x mx ρ r => by
    obtain ⟨a, rfl⟩ := r
    have t := bOr_ok (ρ := [some CS, some WT, some KD, some PT, some (.int x)]) (p := tBo (e2 gLt (eVar 4) (eC (.int 0)))) (q := tBo (e2 gGe (eVar 4) (eCall gLen (aCons (eVar 0) aNil)))) (a := decide (x < 0)) (b := decide ((ws.length : Int) ≤ x)) (tbo_ok (e2_ok rfl rfl s_cmp)) fun _ => tbo_ok (e2_ok rfl (ln _ rfl) s_cmp)
    refine ⟨_, rfl, ?_⟩
    cases e : (decide (x < 0) || decide ((ws.length : Int) ≤ x)) with
    | true =>
      rw [e] at t
      refine .inr ⟨?_, _, if_t t (ret_ok (d := .bl false) rfl rfl)⟩
      rw [Bool.or_eq_true, decide_eq_true_eq, decide_eq_true_eq] at e
      unfold vld
      rw [Bool.and_eq_false_iff, decide_eq_false_iff_not, decide_eq_false_iff_not]
      omega
    | false =>
      rw [e] at t
      refine .inl ⟨?_, _, if_f t rfl, _, rfl⟩
      rw [Bool.or_eq_false_iff, decide_eq_false_iff_not, decide_eq_false_iff_not] at e
      unfold vld
      rw [Bool.and_eq_true, decide_eq_true_eq, decide_eq_true_eq]
      omega) (ρ := [some CS, some WT, some KD, some PT, none]) ⟨none, rfl⟩
  have it : ∀ ρ : Store, eVar 3 ρ = some PT → iTp (eVar 3) ρ = some (p.map D.int) := fun ρ e => iTp_ok (e.trans (by rw [hPT]))
  rw [← hCS, ← hWT, ← hKD, ← hPT]
  rcases lv with ⟨hv, ρ', h1, a, rfl⟩ | ⟨hv, ρ', h1⟩
  · obtain ⟨R, rfl, hR⟩ := to_ci (vld_all hv)
    have lR : R.length ≤ 20 := by rw [ci_len] at lp; exact lp
    have kq : tBo (e2 (gEq false) (eVar 2) (eC (.str "ring"))) [some CS, some WT, some KD, some PT, a] = some b := tbo_ok (e2_ok rfl rfl (by rw [hKD]; exact kd_ring b))
    cases b with
    | true =>
      have cr : eCall (callF 2 [] sem_is_ring) (aCons (eVar 1) (aCons (eVar 3) aNil)) [some CS, some WT, some KD, some PT, a] = some (.bl (rng ws R)) := callF_ok (ds := [WT, PT]) rfl rfl (by rw [hWT, hPT]; exact is_ring hR hl lR)
      have lc : eLc [4] (iTp (eVar 3)) (gSet 4) (tBo (e2 (gEq true) (e2 gIx (eVar 0) (eVar 4)) (eC (.int 2)))) (eVar 4) [some CS, some WT, some KD, some PT, a] = some (.lst (((R.filter fun q => !decide (cs.getD q 0 = 2)).map fun q : Nat => (q : Int)).map .int)) :=
        lcI_map (k := fun q : Nat => D.int q) (xs := R) (γ := fun q => [some CS, some WT, some KD, some PT, some (.int (q : Nat))]) ((it _ rfl).trans (by unfold ci; rw [List.map_map]; rfl)) (by omega) fun q mq => ⟨rfl, tbo_ok (e2_ok (e2_ok rfl rfl (show gIx CS (.int (q : Nat)) = some (.int (cs.getD q 0)) from by
          have hq := hR q mq
          rw [hCS, ix_it (by omega) (by omega), Int.toNat_natCast]
          rfl)) rfl s_ne), fun _ => rfl⟩
      have ev := eand_ok (f := eCall (callF 2 [] sem_is_ring) (aCons (eVar 1) (aCons (eVar 3) aNil))) (g := e2 (gEq false) (eLc [4] (iTp (eVar 3)) (gSet 4) (tBo (e2 (gEq true) (e2 gIx (eVar 0) (eVar 4)) (eC (.int 2)))) (eVar 4)) (eLst aNil)) (b := ((R.filter fun q => !decide (cs.getD q 0 = 2)).map fun q : Nat => (q : Int)).isEmpty) cr fun _ => e2_ok lc (by simp (disch := omega) only [s_e2, s_eCall, s_aCons, s_aNil, s_v0, s_vs, s_eC, s_callF, s_eLst, s_eTup, s_add, s_iu, s_cmp, s_tBo, s_bNot, s_bAnd, s_bOr, s_gSet, s_lenL, s_lenT, s_isN, s_nonI, s_nonN, s_eq, s_ne, List.set_cons_zero, List.set_cons_succ, List.append_nil, List.nil_append, List.cons_append, List.map_cons, List.map_nil, List.length_cons, List.length_nil, List.reduceReplicate, Nat.zero_add, Nat.reduceAdd, Nat.reduceSub, Nat.reduceLeDiff, Nat.zero_le, s_isI, t_ii, t_bi, t_ib, t_bb, t_tt, t_ll, t_ss, if_true, Int.zero_add, Bool.not_true, Bool.not_false]) eq_iln
      refine ⟨_, fn0_ok (seq_nx (for_ok (it _ rfl) h1) (seq_rt (if_t kq (ret_ok ev rfl)))), ?_⟩
      rw [Bool.and_eq_true, rng_iff, List.isEmpty_iff, List.map_eq_nil_iff, List.filter_eq_nil_iff]
      have fe : (∀ a ∈ R, ¬ (!decide (cs.getD a 0 = 2)) = true) ↔ ∀ a ∈ R, cs.getD a 0 = 2 := forall_congr' fun a => forall_congr' fun m => by simp
      rw [fe]
      constructor
      · rintro ⟨⟨g1, g2, g3⟩, g4⟩
        exact ⟨R, rfl, hR, g2, by rw [if_pos rfl]; exact ⟨g1, g4, g3⟩⟩
      · rintro ⟨R', e, _, g2, g⟩
        have : R' = R := ci_inj e.symm
        subst this
        rw [if_pos rfl] at g
        exact ⟨⟨g.1, g2, g.2.2⟩, g.2.1⟩
    | false =>
      have cc : eCall (callF 2 [] sem_is_circle) (aCons (eVar 1) (aCons (eVar 3) aNil)) [some CS, some WT, some KD, some PT, a] = some (.bl (circ ws R)) := callF_ok (ds := [WT, PT]) rfl rfl (by rw [hWT, hPT]; exact is_circle hR hl)
      have ss : eSortedSet (eVar 3) [some CS, some WT, some KD, some PT, a] = some (.lst ((sortI (dis (ci R))).map .int)) := sortedSet_ok (by rw [← hPT]; rfl) (by rw [ci_len]; omega)
      have gl : eCall gList (aCons (eVar 3) aNil) [some CS, some WT, some KD, some PT, a] = some (.lst ((ci R).map .int)) := call_ok (ds := [PT]) rfl (by rw [hPT]; rfl)
      have ev := eand_ok (f := e2 (gEq false) (eCall gList (aCons (eVar 3) aNil)) (eSortedSet (eVar 3))) (g := eCall (callF 2 [] sem_is_circle) (aCons (eVar 1) (aCons (eVar 3) aNil))) (e2_ok gl ss s_eqL) fun _ => cc
      refine ⟨_, fn0_ok (seq_nx (for_ok (it _ rfl) h1) (seq_nx (if_f kq rfl) (ret_ok ev rfl))), ?_⟩
      rw [Bool.and_eq_true, circ_iff, decide_eq_true_eq, sortset_iff, ci_lt]
      constructor
      · rintro ⟨g1, g2⟩
        exact ⟨R, rfl, hR, g1.imp fun h => Nat.ne_of_lt h, by rw [if_neg Bool.false_ne_true]; exact ⟨g1, g2⟩⟩
      · rintro ⟨R', e, _, g2, g⟩
        have : R' = R := ci_inj e.symm
        subst this
        rw [if_neg Bool.false_ne_true] at g
        exact g
  · refine ⟨false, fn0_ok (seq_rt (for_ok (it _ rfl) h1)), ⟨fun z => absurd z Bool.false_ne_true, ?_⟩⟩
    rintro ⟨R, rfl, hR, _⟩
    have : (ci R).all (vld ws.length) = true := List.all_eq_true.mpr fun x m => by
      unfold ci at m
      obtain ⟨q, mq, rfl⟩ := List.mem_map.mp m
      have := hR q mq
      unfold vld
      rw [Bool.and_eq_true, decide_eq_true_eq, decide_eq_true_eq]
      omega
    rw [this] at hv
    cases hv
/-! the law's own look -/
def pD (b : Bool) (p : List Int) : D := .tup [kD b, .tup (p.map .int)]
theorem fl_ints (p : List Int) : ((p.map D.int).all D.fl) = true := List.all_eq_true.mpr fun d m => by
  obtain ⟨x, _, rfl⟩ := List.mem_map.mp m
  rfl
theorem in_ints (x : Int) : ∀ p : List Int, inD (.int x) (p.map .int) = decide (x ∈ p)
  | [] => rfl
  | y :: p => by
    have ih := in_ints x p
    show inD (.int x) (.int y :: p.map .int) = _
    rw [s_inc, ih]
    rw [← Bool.decide_or]
    refine decide_eq_decide.mpr ?_
    rw [List.mem_cons]
    exact ⟨fun h => h.elim (fun e => .inl e.symm) .inr, fun h => h.elim (fun e => .inl e.symm) .inr⟩
theorem gin_tup (x : Int) (p : List Int) : gIn false (.int x) (.tup (p.map .int)) = some (.bl (decide (x ∈ p))) := by
  show (if (D.int x).fl = true ∧ (p.map D.int).all D.fl = true then some (D.bl (inD (.int x) (p.map .int))) else none) = _
  rw [if_pos ⟨rfl, fl_ints p⟩, in_ints]
theorem gin_lst (x : Int) (p : List Int) : gIn false (.int x) (.lst (p.map .int)) = some (.bl (decide (x ∈ p))) := by
  show (if (D.int x).fl = true ∧ (p.map D.int).all D.fl = true then some (D.bl (inD (.int x) (p.map .int))) else none) = _
  rw [if_pos ⟨rfl, fl_ints p⟩, in_ints]
theorem and1 (w q : Nat) {f g : Store → Option D} {ρ : Store} (h1 : f ρ = some (.int w)) (h2 : g ρ = some (.int q)) : tBo (e2 (gEq false) (e2 gAnd (e2 gShr f g) (eC (.int 1))) (eC (.int 0))) ρ = some (!w.testBit q) := by
  refine tbo_ok (e2_ok (e2_ok (e2_ok h1 h2 (shrN w q)) rfl s_iu) rfl (s_eq.trans ?_))
  rw [PyProof.Rows.bitAnd_m1]
  have := tb_iff w q
  have m := Int.emod_two_eq ((w / 2 ^ q : Nat) : Int)
  cases e : w.testBit q
  · rw [decide_eq_true]
    · rfl
    · rcases m with m | m
      · exact m
      · rw [this, e] at m; cases m
  · rw [decide_eq_false]
    · rfl
    · intro z
      have := this.mpr e
      omega
/-- the first look at each: a place of somebody, told first here -/
def ok1 (n : Nat) (p : List Int) (k : Nat) : Bool := vld n (at0 p k) && !decide (at0 p k ∈ p.take k)
theorem ok1_all {n : Nat} {p : List Int} : (List.range p.length).all (ok1 n p) = true ↔ (∀ x ∈ p, 0 ≤ x ∧ x < n) ∧ p.Nodup := by
  rw [List.all_eq_true]
  have key : ∀ k, ok1 n p k = true ↔ (0 ≤ at0 p k ∧ at0 p k < n) ∧ at0 p k ∉ p.take k := fun k => by
    unfold ok1 vld
    rw [Bool.and_eq_true, Bool.and_eq_true, decide_eq_true_eq, decide_eq_true_eq, Bool.not_eq_true', decide_eq_false_iff_not]
  constructor
  · intro h
    refine ⟨fun x m => ?_, ?_⟩
    · obtain ⟨k, hk, rfl⟩ := List.getElem_of_mem m
      have := ((key k).mp (h k (List.mem_range.mpr hk))).1
      rw [at0_get hk] at this
      exact this
    · rw [List.Nodup, List.pairwise_iff_getElem]
      intro i j hi hj hij e
      have := ((key j).mp (h j (List.mem_range.mpr hj))).2
      rw [at0_get hj] at this
      refine this ?_
      rw [← e]
      exact List.mem_take_iff_getElem.mpr ⟨i, by omega, rfl⟩
  · rintro ⟨h1, h2⟩ k mk
    have hk := List.mem_range.mp mk
    refine (key k).mpr ⟨?_, ?_⟩
    · rw [at0_get hk]; exact h1 _ (List.getElem_mem hk)
    · rw [at0_get hk]
      intro m
      obtain ⟨i, hi, e⟩ := List.mem_take_iff_getElem.mp m
      have := (List.getElem_inj h2).mp e
      omega
def ok2 (cs : List Int) (ws : List Nat) (b : Bool) (R : List Nat) (k : Nat) : Bool :=
  if b = true then !(decide (R.length < 2) || (!decide (cs.getD (R.getD k 0) 0 = 2) || !(ws.getD (R.getD k 0) 0).testBit (R.getD ((k + 1) % R.length) 0)))
  else !(!(R.filter fun q => decide (q ≠ R.getD k 0) && !(ws.getD (R.getD k 0) 0).testBit q).isEmpty || (decide (0 < k) && decide (R.getD k 0 < R.getD (k - 1) 0)))
theorem ok2_all {cs : List Int} {ws : List Nat} {b : Bool} {R : List Nat} (nd : R.Nodup) (ne : 0 < R.length) : (List.range R.length).all (ok2 cs ws b R) = true ↔ Gp cs ws b R := by
  rw [List.all_eq_true]
  unfold Gp ok2
  cases b with
  | true =>
    simp only [if_true]
    have key : ∀ k, (!(decide (R.length < 2) || (!decide (cs.getD (R.getD k 0) 0 = 2) || !(ws.getD (R.getD k 0) 0).testBit (R.getD ((k + 1) % R.length) 0)))) = true ↔ 2 ≤ R.length ∧ cs.getD (R.getD k 0) 0 = 2 ∧ (ws.getD (R.getD k 0) 0).testBit (R.getD ((k + 1) % R.length) 0) = true := fun k => by
      rw [Bool.not_eq_true', Bool.or_eq_false_iff, Bool.or_eq_false_iff, decide_eq_false_iff_not, Bool.not_eq_false', Bool.not_eq_false', decide_eq_true_eq]
      exact and_congr ⟨fun h => by omega, fun h => by omega⟩ Iff.rfl
    constructor
    · intro h
      refine ⟨nd, ((key 0).mp (h 0 (List.mem_range.mpr ne))).1, fun q m => ?_, fun i hi => ((key i).mp (h i (List.mem_range.mpr hi))).2.2⟩
      obtain ⟨k, hk, rfl⟩ := List.getElem_of_mem m
      have := ((key k).mp (h k (List.mem_range.mpr hk))).2.1
      rw [getD_get hk] at this
      exact this
    · rintro ⟨_, h1, h2, h3⟩ k mk
      have hk := List.mem_range.mp mk
      exact (key k).mpr ⟨h1, by rw [getD_get hk]; exact h2 _ (List.getElem_mem hk), h3 k hk⟩
  | false =>
    simp only [Bool.false_eq_true, if_false]
    have key : ∀ k, (!(!(R.filter fun q => decide (q ≠ R.getD k 0) && !(ws.getD (R.getD k 0) 0).testBit q).isEmpty || (decide (0 < k) && decide (R.getD k 0 < R.getD (k - 1) 0)))) = true ↔ (∀ q ∈ R, R.getD k 0 ≠ q → (ws.getD (R.getD k 0) 0).testBit q = true) ∧ (0 < k → R.getD (k - 1) 0 ≤ R.getD k 0) := fun k => by
      rw [Bool.not_eq_true', Bool.or_eq_false_iff, Bool.not_eq_false', List.isEmpty_iff, List.filter_eq_nil_iff, Bool.and_eq_false_iff, decide_eq_false_iff_not, decide_eq_false_iff_not]
      refine and_congr (forall_congr' fun q => forall_congr' fun m => ?_) ⟨fun h h0 => by omega, fun h => by omega⟩
      cases (ws.getD (R.getD k 0) 0).testBit q
      · simp only [Bool.not_false, Bool.and_true, decide_eq_true_eq, Bool.false_eq_true]
        exact ⟨fun h z => h (Ne.symm z), fun h z => h (Ne.symm z)⟩
      · simp
    constructor
    · intro h
      refine ⟨nd, ?_, fun p mp q mq hpq => ?_⟩
      · rw [List.pairwise_iff_getElem]
        have step : ∀ j (hj : j < R.length), 0 < j → R[j - 1]'(by omega) < R[j] := fun j hj j0 => by
          have := ((key j).mp (h j (List.mem_range.mpr hj))).2 j0
          rw [getD_get hj, getD_get (by omega)] at this
          have ne : R[j - 1]'(by omega) ≠ R[j] := fun e => by
            have := (List.getElem_inj nd).mp e
            omega
          omega
        intro i j hi hj hij
        induction j with
        | zero => omega
        | succ j ih =>
          have s := step (j + 1) hj (by omega)
          simp only [Nat.add_sub_cancel] at s
          by_cases e : i = j
          · subst e; exact s
          · have := ih (by omega) (by omega)
            omega
      · obtain ⟨k, hk, rfl⟩ := List.getElem_of_mem mp
        have := ((key k).mp (h k (List.mem_range.mpr hk))).1 q mq
        rw [getD_get hk] at this
        exact this hpq
    · rintro ⟨_, h1, h2⟩ k mk
      have hk := List.mem_range.mp mk
      refine (key k).mpr ⟨fun q mq hq => ?_, fun h0 => ?_⟩
      · rw [getD_get hk] at hq ⊢
        exact h2 _ (List.getElem_mem hk) q mq hq
      · rw [getD_get hk, getD_get (by omega)]
        have := List.pairwise_iff_getElem.mp h1 (k - 1) k (by omega) hk (by omega)
        omega
theorem law_group (cs : List Int) (ws : List Nat) (b : Bool) (p : List Int) (hc : cs.length = ws.length) (hl : ws.length ≤ 8) (lp : p.length ≤ 20) (ne : 0 < p.length) : ∃ v, sem__law_is_group [.tup (cs.map .int), .lst ((ci ws).map .int), pD b p] = some (.bl v) ∧ (v = true ↔ ∃ R, p = ci R ∧ (∀ q ∈ R, q < ws.length) ∧ Gp cs ws b R) := by
  obtain ⟨CS, hCS⟩ : ∃ CS, CS = D.tup (cs.map .int) := ⟨_, rfl⟩
  obtain ⟨WL, hWL⟩ : ∃ WL, WL = D.lst ((ci ws).map .int) := ⟨_, rfl⟩
  obtain ⟨KD, hKD⟩ : ∃ KD, KD = kD b := ⟨_, rfl⟩
  obtain ⟨PT, hPT⟩ : ∃ PT, PT = D.tup (p.map .int) := ⟨_, rfl⟩
  have ep : pD b p = .tup [KD, PT] := by rw [hKD, hPT]; rfl
  have ln : ∀ ρ : Store, eVar 0 ρ = some CS → eCall gLen (aCons (eVar 0) aNil) ρ = some (.int ws.length) := fun ρ e => call_ok (acons_ok e anil_ok) (by rw [hCS, s_lenT, List.length_map, hc])
  have lnp : ∀ ρ : Store, eVar 4 ρ = some PT → eCall gLen (aCons (eVar 4) aNil) ρ = some (.int p.length) := fun ρ e => call_ok (acons_ok e anil_ok) (by rw [hPT, s_lenT, List.length_map])
  have px : ∀ k : Nat, k < p.length → gIx PT (.int (k : Int)) = some (.int (at0 p k)) := fun k hk => by rw [hPT, ix_it (by omega) (by omega), Int.toNat_natCast]
  have un : sUnp (eVar 2) (gSet2 3 4) [some CS, some WL, some (.tup [KD, PT]), none, none, none, none, none] = some (.nx [some CS, some WL, some (.tup [KD, PT]), some KD, some PT, none, none, none]) := rfl
  rw [← hCS, ← hWL, ep]
  obtain ⟨PD, hPD⟩ : ∃ PD, PD = D.tup [KD, PT] := ⟨_, rfl⟩
  rw [← hPD] at un ⊢
  have fo : ∀ (F : Store → Option O) (ρ : Store) o, eVar 4 ρ = some PT → forD (gSet 5) F ((List.range p.length).map fun o : Nat => D.int o) ρ = o → sFor (iR1 (aCons (eCall gLen (aCons (eVar 4) aNil)) aNil)) (gSet 5) F ρ = o := fun F ρ o e h => for_ok ((r1_nat (n := p.length) (acons_ok (lnp _ e) anil_ok) (by omega)).trans (by rw [ups0])) h
  have l1 := forD_all (k := fun o : Nat => D.int o) (g := gSet 5) (F := lp__law_is_group_2) (d := .bl false) (ok := ok1 ws.length p) (fun ρ => ∃ a, ρ = [some CS, some WL, some PD, some KD, some PT, a, none, none]) (xs := List.range p.length) (fun k mk ρ r => by
    obtain ⟨a, rfl⟩ := r
    have hk := List.mem_range.mp mk
    have xk := px k hk
    have sl : gSlT PT none (some (k : Int)) = some (.tup ((p.take k).map .int)) := by rw [hPT, s_slT, cut_hi (k := k) rfl]
    have ch : eChain gLe gLt (eC (.int 0)) (e2 gIx (eVar 4) (eVar 5)) (eCall gLen (aCons (eVar 0) aNil)) [some CS, some WL, some PD, some KD, some PT, some (.int k), none, none] = some (.bl (vld ws.length (at0 p k))) := by
      unfold vld
      by_cases h0 : 0 ≤ at0 p k
      · rw [decide_eq_true h0, Bool.true_and]
        exact chain_ok rfl (e2_ok rfl rfl xk) (ln _ rfl) (congrArg (fun b => some (D.bl b)) (decide_eq_true h0)) rfl
      · rw [decide_eq_false h0, Bool.false_and]
        exact chain_no rfl (e2_ok rfl rfl xk) (congrArg (fun b => some (D.bl b)) (decide_eq_false h0))
    have t := bOr_ok (ρ := [some CS, some WL, some PD, some KD, some PT, some (.int k), none, none]) (p := bNot (tBo (eChain gLe gLt (eC (.int 0)) (e2 gIx (eVar 4) (eVar 5)) (eCall gLen (aCons (eVar 0) aNil))))) (q := tBo (e2 (gIn false) (e2 gIx (eVar 4) (eVar 5)) (eSl gSlT (eVar 4) oNone (oSome (eVar 5))))) (bNot_ok (tbo_ok ch)) fun _ => tbo_ok (e2_ok (e2_ok rfl rfl xk) (b := .tup ((p.take k).map .int)) (by simp (disch := omega) only [s_e2, s_eCall, s_aCons, s_aNil, s_v0, s_vs, s_eC, s_callF, s_eLst, s_eTup, s_add, s_iu, s_cmp, s_tBo, s_bNot, s_bAnd, s_bOr, s_gSet, s_lenL, s_lenT, s_isN, s_nonI, s_nonN, s_eq, s_ne, List.set_cons_zero, List.set_cons_succ, List.append_nil, List.nil_append, List.cons_append, List.map_cons, List.map_nil, List.length_cons, List.length_nil, List.reduceReplicate, Nat.zero_add, Nat.reduceAdd, Nat.reduceSub, Nat.reduceLeDiff, Nat.zero_le, s_isI, t_ii, t_bi, t_ib, t_bb, t_tt, t_ll, t_ss, if_true, Int.zero_add, Bool.not_true, Bool.not_false, s_eSl, s_oSome, s_oNone, sl]) (gin_tup _ _))
    refine ⟨_, rfl, ?_⟩
    have e1 : ok1 ws.length p k = !(!vld ws.length (at0 p k) || decide (at0 p k ∈ p.take k)) := by unfold ok1; rw [Bool.not_or, Bool.not_not]
    rw [e1]
    cases e : (!vld ws.length (at0 p k) || decide (at0 p k ∈ p.take k)) with
    | true => rw [e] at t; exact .inr ⟨rfl, _, if_t t (ret_ok (d := .bl false) rfl rfl)⟩
    | false => rw [e] at t; exact .inl ⟨rfl, _, if_f t rfl, _, rfl⟩) (ρ := [some CS, some WL, some PD, some KD, some PT, none, none, none]) ⟨none, rfl⟩
  rcases l1 with ⟨h1, ρ1, f1, a, rfl⟩ | ⟨h1, ρ1, f1⟩
  · obtain ⟨hv, nd⟩ := ok1_all.mp h1
    obtain ⟨R, rfl, hR⟩ := to_ci hv
    have nR := ci_nodup.mp nd
    have lR : (ci R).length = R.length := ci_len R
    have iff : Gp cs ws b R ↔ ∃ R', ci R = ci R' ∧ (∀ q ∈ R', q < ws.length) ∧ Gp cs ws b R' := ⟨fun g => ⟨R, rfl, hR, g⟩, fun ⟨R', e, _, g⟩ => by rw [ci_inj e]; exact g⟩
    have xr := fun (k : Nat) (hk : k < R.length) => cwT (ws := R) hk
    rw [← hPT] at xr
    rw [lR] at f1 fo lnp ne
    have kq : ∀ x y, tBo (e2 (gEq false) (eVar 3) (eC (.str "ring"))) [some CS, some WL, some PD, some KD, some PT, x, y, none] = some b := fun x y => tbo_ok (e2_ok rfl rfl (by rw [hKD]; exact kd_ring b))
    have itp : ∀ ρ : Store, eVar 4 ρ = some PT → iTp (eVar 4) ρ = some (R.map fun q : Nat => D.int q) := fun ρ e => (iTp_ok (e.trans (by rw [hPT]))).trans (by unfold ci; rw [List.map_map]; rfl)
    have l2 := forD_all (k := fun o : Nat => D.int o) (g := gSet 5) (F := lp__law_is_group_6) (d := .bl false) (ok := ok2 cs ws b R) (fun ρ => ∃ a c, ρ = [some CS, some WL, some PD, some KD, some PT, a, c, none]) (xs := List.range R.length) (fun k mk ρ r => by
      obtain ⟨a, c, rfl⟩ := r
      have hk := List.mem_range.mp mk
      obtain ⟨i, hi⟩ : ∃ i, i = R.getD k 0 := ⟨_, rfl⟩
      have iw : i < ws.length := by rw [hi, getD_get hk]; exact hR _ (List.getElem_mem hk)
      have xk := xr k hk
      rw [← hi] at xk
      have xw : gIx WL (.int (i : Nat)) = some (.int (ws.getD i 0 : Nat)) := by rw [hWL]; exact cwL iw
      have xc : gIx CS (.int (i : Nat)) = some (.int (cs.getD i 0)) := by
        rw [hCS, ix_it (by omega) (by omega), Int.toNat_natCast]
        rfl
      have st1 : sSet 6 (e2 gIx (eVar 4) (eVar 5)) [some CS, some WL, some PD, some KD, some PT, some (.int (k : Nat)), c, none] = some (.nx [some CS, some WL, some PD, some KD, some PT, some (.int (k : Nat)), some (.int (i : Nat)), none]) := set_ok (e2_ok rfl rfl xk)
      refine ⟨_, rfl, ?_⟩
      have e0 : ok2 cs ws b R k = if b = true then !(decide (R.length < 2) || (!decide (cs.getD i 0 = 2) || !(ws.getD i 0).testBit (R.getD ((k + 1) % R.length) 0))) else !(!(R.filter fun q => decide (q ≠ i) && !(ws.getD i 0).testBit q).isEmpty || (decide (0 < k) && decide (i < R.getD (k - 1) 0))) := by
        unfold ok2
        rw [← hi]
      rw [e0]
      cases b with
      | true =>
        rw [if_pos rfl]
        have hm : (k + 1) % R.length < R.length := Nat.mod_lt _ ne
        have xm : e2 gIx (eVar 4) (e2 gMod (e2 gAdd (eVar 5) (eC (.int 1))) (eCall gLen (aCons (eVar 4) aNil))) [some CS, some WL, some PD, some KD, some PT, some (.int (k : Nat)), some (.int (i : Nat)), none] = some (.int (R.getD ((k + 1) % R.length) 0 : Nat)) := by
          refine e2_ok rfl (e2_ok (e2_ok rfl rfl s_add) (lnp _ rfl) (mod_ok (by omega))) ?_
          rw [show ((k : Nat) : Int) + 1 = ((k + 1 : Nat) : Int) by omega, ← Int.natCast_emod]
          exact xr _ hm
        have t := bOr_ok (ρ := [some CS, some WL, some PD, some KD, some PT, some (.int (k : Nat)), some (.int (i : Nat)), none]) (p := tBo (e2 gLt (eCall gLen (aCons (eVar 4) aNil)) (eC (.int 2)))) (q := bOr (tBo (e2 (gEq true) (e2 gIx (eVar 0) (eVar 6)) (eC (.int 2)))) (tBo (e2 (gEq false) (e2 gAnd (e2 gShr (e2 gIx (eVar 1) (eVar 6)) (e2 gIx (eVar 4) (e2 gMod (e2 gAdd (eVar 5) (eC (.int 1))) (eCall gLen (aCons (eVar 4) aNil))))) (eC (.int 1))) (eC (.int 0))))) (a := decide (R.length < 2)) (b := !decide (cs.getD i 0 = 2) || !(ws.getD i 0).testBit (R.getD ((k + 1) % R.length) 0)) (tbo_ok (e2_ok (lnp _ rfl) rfl (s_cmp.trans (by rw [decide_eq_decide.mpr (show ((R.length : Int) < 2) ↔ R.length < 2 by omega)])))) fun _ => bOr_ok (tbo_ok (e2_ok (e2_ok rfl rfl xc) rfl s_ne)) fun _ => and1 _ _ (e2_ok rfl rfl xw) xm
        generalize (decide (R.length < 2) || (!decide (cs.getD i 0 = 2) || !(ws.getD i 0).testBit (R.getD ((k + 1) % R.length) 0))) = z at t
        cases z with
        | true => exact .inr ⟨rfl, _, seq_nx st1 (if_t (kq _ _) (if_t t (ret_ok (d := .bl false) rfl rfl)))⟩
        | false => exact .inl ⟨rfl, _, seq_nx st1 (if_t (kq _ _) (if_f t rfl)), _, _, rfl⟩
      | false =>
        rw [if_neg Bool.false_ne_true]
        have lc : eLc [7] (iTp (eVar 4)) (gSet 7) (bAnd (tBo (e2 (gEq true) (eVar 7) (eVar 6))) (tBo (e2 (gEq false) (e2 gAnd (e2 gShr (e2 gIx (eVar 1) (eVar 6)) (eVar 7)) (eC (.int 1))) (eC (.int 0))))) (eVar 7) [some CS, some WL, some PD, some KD, some PT, some (.int (k : Nat)), some (.int (i : Nat)), none] = some (.lst (((R.filter fun q => decide (q ≠ i) && !(ws.getD i 0).testBit q).map fun q : Nat => (q : Int)).map .int)) :=
          lcI_map (k := fun q : Nat => D.int q) (xs := R) (γ := fun q => [some CS, some WL, some PD, some KD, some PT, some (.int (k : Nat)), some (.int (i : Nat)), some (.int (q : Nat))]) (itp _ rfl) (by omega) fun q mq => ⟨rfl, bAnd_ok (tbo_ok (e2_ok rfl rfl (s_ne.trans (by rw [show (!decide ((q : Int) = (i : Int))) = decide (q ≠ i) by rw [← decide_not]; exact decide_eq_decide.mpr (by omega)])))) fun _ => and1 _ _ (e2_ok rfl rfl xw) rfl, fun _ => rfl⟩
        have t := bOr_ok (ρ := [some CS, some WL, some PD, some KD, some PT, some (.int (k : Nat)), some (.int (i : Nat)), none]) (p := tBo (e2 (gEq true) (eLc [7] (iTp (eVar 4)) (gSet 7) (bAnd (tBo (e2 (gEq true) (eVar 7) (eVar 6))) (tBo (e2 (gEq false) (e2 gAnd (e2 gShr (e2 gIx (eVar 1) (eVar 6)) (eVar 7)) (eC (.int 1))) (eC (.int 0))))) (eVar 7)) (eLst aNil))) (q := bAnd (tBo (e2 gGt (eVar 5) (eC (.int 0)))) (tBo (e2 gGt (e2 gIx (eVar 4) (e2 gSub (eVar 5) (eC (.int 1)))) (eVar 6)))) (a := !(R.filter fun q => decide (q ≠ i) && !(ws.getD i 0).testBit q).isEmpty) (b := decide (0 < k) && decide (i < R.getD (k - 1) 0)) (tbo_ok (e2_ok lc (by simp (disch := omega) only [s_e2, s_eCall, s_aCons, s_aNil, s_v0, s_vs, s_eC, s_callF, s_eLst, s_eTup, s_add, s_iu, s_cmp, s_tBo, s_bNot, s_bAnd, s_bOr, s_gSet, s_lenL, s_lenT, s_isN, s_nonI, s_nonN, s_eq, s_ne, List.set_cons_zero, List.set_cons_succ, List.append_nil, List.nil_append, List.cons_append, List.map_cons, List.map_nil, List.length_cons, List.length_nil, List.reduceReplicate, Nat.zero_add, Nat.reduceAdd, Nat.reduceSub, Nat.reduceLeDiff, Nat.zero_le, s_isI, t_ii, t_bi, t_ib, t_bb, t_tt, t_ll, t_ss, if_true, Int.zero_add, Bool.not_true, Bool.not_false]) (ne_iln.trans (by rw [List.isEmpty_map])))) fun _ => bAnd_ok (tbo_ok (e2_ok rfl rfl (s_cmp.trans (by rw [decide_eq_decide.mpr (show ((0 : Int) < (k : Int)) ↔ 0 < k by omega)])))) fun h0 => tbo_ok (e2_ok (e2_ok (b := .int ((k - 1 : Nat) : Int)) rfl (e2_ok rfl rfl (s_iu.trans (by rw [decide_eq_true_eq] at h0; rw [show ((k : Nat) : Int) - 1 = ((k - 1 : Nat) : Int) by omega]))) (xr (k - 1) (by omega))) rfl (s_cmp.trans (by rw [decide_eq_decide.mpr (show ((i : Int) < ((R.getD (k - 1) 0 : Nat) : Int)) ↔ i < R.getD (k - 1) 0 by omega)])))
        generalize (!(R.filter fun q => decide (q ≠ i) && !(ws.getD i 0).testBit q).isEmpty || (decide (0 < k) && decide (i < R.getD (k - 1) 0))) = z at t
        cases z with
        | true => exact .inr ⟨rfl, _, seq_nx st1 (if_f (kq _ _) (if_t t (ret_ok (d := .bl false) rfl rfl)))⟩
        | false => exact .inl ⟨rfl, _, seq_nx st1 (if_f (kq _ _) (if_f t rfl)), _, _, rfl⟩) (ρ := [some CS, some WL, some PD, some KD, some PT, a, none, none]) ⟨a, none, rfl⟩
    rw [← iff, ← ok2_all nR ne]
    rcases l2 with ⟨h2, ρ2, f2, a2, c2, rfl⟩ | ⟨h2, ρ2, f2⟩
    · exact ⟨true, fn0_ok (seq_nx un (seq_nx (fo _ _ _ rfl f1) (seq_nx (fo _ _ _ rfl f2) (ret_ok (d := .bl true) rfl rfl)))), ⟨fun _ => h2, fun _ => rfl⟩⟩
    · exact ⟨false, fn0_ok (seq_nx un (seq_nx (fo _ _ _ rfl f1) (seq_rt (fo _ _ _ rfl f2)))), ⟨fun z => absurd z Bool.false_ne_true, fun z => by rw [z] at h2; cases h2⟩⟩
  · refine ⟨false, fn0_ok (seq_nx un (seq_rt (fo _ _ _ rfl f1))), ⟨fun z => absurd z Bool.false_ne_true, ?_⟩⟩
    rintro ⟨R, rfl, hR, g⟩
    have : (List.range (ci R).length).all (ok1 ws.length (ci R)) = true := ok1_all.mpr ⟨fun x m => by
      unfold ci at m
      obtain ⟨q, mq, rfl⟩ := List.mem_map.mp m
      have := hR q mq
      omega, ci_nodup.mpr g.1⟩
    rw [this] at h1
    cases h1
/-! the first pair at fault -/
theorem forD_nx {g : D → Store → Option Store} {F : Store → Option O} {d : D} {ds : List D} {ρ ρ1 ρ2 : Store} (h1 : g d ρ = some ρ1) (h2 : F ρ1 = some (.nx ρ2)) : forD g F (d :: ds) ρ = forD g F ds ρ2 := by
  have e : forD g F (d :: ds) ρ = match F ρ1 with | some (.nx ρ2) => forD g F ds ρ2 | some (.ct ρ2) => forD g F ds ρ2 | some (.bk ρ2) => some (.nx ρ2) | o => o := by
    show (match g d ρ with | none => none | some ρ1 => _) = _
    first | (rw [h1]; done) | (rw [h1]; rfl)
  rw [e, h2]
theorem forD_rt {g : D → Store → Option Store} {F : Store → Option O} {d x : D} {ds : List D} {ρ ρ1 ρ2 : Store} (h1 : g d ρ = some ρ1) (h2 : F ρ1 = some (.rt x ρ2)) : forD g F (d :: ds) ρ = some (.rt x ρ2) := by
  have e : forD g F (d :: ds) ρ = match F ρ1 with | some (.nx ρ2) => forD g F ds ρ2 | some (.ct ρ2) => forD g F ds ρ2 | some (.bk ρ2) => some (.nx ρ2) | o => o := by
    show (match g d ρ with | none => none | some ρ1 => _) = _
    first | (rw [h1]; done) | (rw [h1]; rfl)
  rw [e, h2]
abbrev Pr := Bool × List Int
def gD (g : Pr) : D := pD g.1 g.2
def Okg (cs : List Int) (ws : List Nat) (g : Pr) : Prop := ∃ R, g.2 = ci R ∧ (∀ q ∈ R, q < ws.length) ∧ Gp cs ws g.1 R
def Bad (cs : List Int) (ws : List Nat) (gone : List Int) (g : Pr) : Prop := ¬ Okg cs ws g ∨ ∃ x ∈ g.2, x ∈ gone
open Classical in
noncomputable def fault (cs : List Int) (ws : List Nat) : List Int → Nat → List Pr → Option Nat
  | _, _, [] => none
  | gone, k, g :: gs => if Bad cs ws gone g then some k else fault cs ws (gone ++ g.2) (k + 1) gs
theorem fault_yes {cs : List Int} {ws : List Nat} {gone : List Int} {k : Nat} {g : Pr} {gs : List Pr} (h : Bad cs ws gone g) : fault cs ws gone k (g :: gs) = some k := by
  unfold fault
  exact if_pos h
theorem fault_no {cs : List Int} {ws : List Nat} {gone : List Int} {k : Nat} {g : Pr} {gs : List Pr} (h : ¬ Bad cs ws gone g) : fault cs ws gone k (g :: gs) = fault cs ws (gone ++ g.2) (k + 1) gs := by
  rw [fault]
  exact if_neg h
theorem bad_iff {cs : List Int} {ws : List Nat} {gone : List Int} {g : Pr} {v : Bool} (h : v = true ↔ Okg cs ws g) : (!v || !(g.2.filter fun x => decide (x ∈ gone)).isEmpty) = true ↔ Bad cs ws gone g := by
  rw [Bool.or_eq_true, Bool.not_eq_true', Bool.not_eq_true']
  unfold Bad
  refine or_congr ⟨fun e z => (by rw [h.mpr z] at e; cases e), fun e => ?_⟩ ?_
  · cases v with
    | false => rfl
    | true => exact absurd (h.mp rfl) e
  · cases e : (g.2.filter fun x => decide (x ∈ gone)) with
    | nil =>
      refine ⟨fun z => (by cases z), fun ⟨x, m, n⟩ => ?_⟩
      have : x ∈ g.2.filter fun x => decide (x ∈ gone) := List.mem_filter.mpr ⟨m, decide_eq_true n⟩
      rw [e] at this; cases this
    | cons x xs =>
      have : x ∈ g.2.filter fun x => decide (x ∈ gone) := by rw [e]; exact List.mem_cons_self
      obtain ⟨m, n⟩ := List.mem_filter.mp this
      exact ⟨fun _ => ⟨x, m, of_decide_eq_true n⟩, fun _ => rfl⟩
def goneD (gone : List Int) : D := .dct (gone.map .inl) (gone.map fun _ => .bl true)
theorem has_gone (x : Int) (gone : List Int) : hasK (.inl x) (gone.map .inl) = decide (x ∈ gone) := by
  have : hasK (.inl x) (gone.map .inl) = true ↔ x ∈ gone := by
    rw [hasK_iff, List.mem_map]
    exact ⟨fun ⟨y, m, e⟩ => by cases e; exact m, fun m => ⟨x, m, rfl⟩⟩
  cases e : hasK (.inl x) (gone.map .inl)
  · rw [decide_eq_false fun z => by rw [this.mpr z] at e; cases e]
  · rw [decide_eq_true (this.mp e)]
theorem gone_snoc (X : List Int) (x : Int) : goneD (X ++ [x]) = .dct (X.map .inl ++ [.inl x]) ((X.map fun _ => .bl true) ++ [.bl true]) := by
  unfold goneD
  rw [List.map_append, List.map_append]
  rfl
theorem prog_fault (cs : List Int) (ws : List Nat) (hc : cs.length = ws.length) (hl : ws.length ≤ 8) (GT : D) : ∀ (G : List Pr) (gone : List Int) (k : Nat) (a b c d : Option D), (∀ g ∈ G, 0 < g.2.length ∧ g.2.length ≤ 20) → gone.length + 20 * G.length ≤ 10000 →
    (fault cs ws gone k G = none ∧ ∃ ρ', forD (gSetN 4 5 6) lp_group_fault_3 (enm k (G.map gD)) [some (.tup (cs.map .int)), some (.tup ((ci ws).map .int)), some GT, some (goneD gone), a, b, c, d] = some (.nx ρ')) ∨
    ∃ j ρ', fault cs ws gone k G = some j ∧ forD (gSetN 4 5 6) lp_group_fault_3 (enm k (G.map gD)) [some (.tup (cs.map .int)), some (.tup ((ci ws).map .int)), some GT, some (goneD gone), a, b, c, d] = some (.rt (.int j) ρ')
  | [], gone, k, a, b, c, d, _, _ => .inl ⟨rfl, _, rfl⟩
  | g :: G, gone, k, a, b, c, d, hg, hz => by
    obtain ⟨g1, g2⟩ := hg g List.mem_cons_self
    rw [List.length_cons] at hz
    obtain ⟨v, ev, iv⟩ := prog_group cs ws g.1 g.2 hc hl g2
    have bi := bad_iff (gone := gone) (g := g) iv
    obtain ⟨CS, hCS⟩ : ∃ CS, CS = D.tup (cs.map .int) := ⟨_, rfl⟩
    obtain ⟨WT, hWT⟩ : ∃ WT, WT = D.tup ((ci ws).map .int) := ⟨_, rfl⟩
    obtain ⟨KD, hKD⟩ : ∃ KD, KD = kD g.1 := ⟨_, rfl⟩
    obtain ⟨PT, hPT⟩ : ∃ PT, PT = D.tup (g.2.map .int) := ⟨_, rfl⟩
    have ih := prog_fault cs ws hc hl GT G (gone ++ g.2) (k + 1)
    rw [← hCS, ← hWT, ← hKD, ← hPT] at ev
    rw [← hCS, ← hWT] at ih ⊢
    have eg : gD g = .tup [KD, PT] := by rw [hKD, hPT]; rfl
    have h1 : gSetN 4 5 6 (.tup [.int (k : Nat), gD g]) [some CS, some WT, some GT, some (goneD gone), a, b, c, d] = some [some CS, some WT, some GT, some (goneD gone), some (.int (k : Nat)), some KD, some PT, d] := by rw [eg]; rfl
    have en : enm k ((g :: G).map gD) = .tup [.int (k : Nat), gD g] :: enm (k + 1) (G.map gD) := rfl
    rw [en]
    have it : ∀ ρ : Store, eVar 6 ρ = some PT → iTp (eVar 6) ρ = some (g.2.map D.int) := fun ρ e => iTp_ok (e.trans (by rw [hPT]))
    have lc : eLc [7] (iTp (eVar 6)) (gSet 7) (tBo (e2 (gDIn false) (eVar 7) (eVar 3))) (eVar 7) [some CS, some WT, some GT, some (goneD gone), some (.int (k : Nat)), some KD, some PT, d] = some (.lst (((g.2.filter fun x => decide (x ∈ gone)).map fun x => x).map .int)) :=
      lcI_map (k := D.int) (xs := g.2) (γ := fun x => [some CS, some WT, some GT, some (goneD gone), some (.int (k : Nat)), some KD, some PT, some (.int x)]) (it _ rfl) (by omega) fun x mx => ⟨rfl, tbo_ok (e2_ok (b := goneD gone) rfl rfl (show gDIn false (.int x) (goneD gone) = some (.bl (decide (x ∈ gone))) from by
        show some (D.bl (hasK (.inl x) (gone.map .inl))) = _
        rw [has_gone])), fun _ => rfl⟩
    have t := bOr_ok (ρ := [some CS, some WT, some GT, some (goneD gone), some (.int (k : Nat)), some KD, some PT, d]) (p := bNot (tBo (eCall (callF 4 [] sem_is_group) (aCons (eVar 0) (aCons (eVar 1) (aCons (eVar 5) (aCons (eVar 6) aNil))))))) (q := tBo (e2 (gEq true) (eLc [7] (iTp (eVar 6)) (gSet 7) (tBo (e2 (gDIn false) (eVar 7) (eVar 3))) (eVar 7)) (eLst aNil))) (a := !v) (b := !(g.2.filter fun x => decide (x ∈ gone)).isEmpty) (bNot_ok (tbo_ok (callF_ok (ds := [CS, WT, KD, PT]) rfl rfl ev))) fun _ => tbo_ok (e2_ok lc (by simp (disch := omega) only [s_e2, s_eCall, s_aCons, s_aNil, s_v0, s_vs, s_eC, s_callF, s_eLst, s_eTup, s_add, s_iu, s_cmp, s_tBo, s_bNot, s_bAnd, s_bOr, s_gSet, s_lenL, s_lenT, s_isN, s_nonI, s_nonN, s_eq, s_ne, List.set_cons_zero, List.set_cons_succ, List.append_nil, List.nil_append, List.cons_append, List.map_cons, List.map_nil, List.length_cons, List.length_nil, List.reduceReplicate, Nat.zero_add, Nat.reduceAdd, Nat.reduceSub, Nat.reduceLeDiff, Nat.zero_le, s_isI, t_ii, t_bi, t_ib, t_bb, t_tt, t_ll, t_ss, if_true, Int.zero_add, Bool.not_true, Bool.not_false]) (ne_iln.trans (by rw [List.map_id'])))
    cases e : (!v || !(g.2.filter fun x => decide (x ∈ gone)).isEmpty) with
    | true =>
      rw [e] at t bi
      have h2 : lp_group_fault_3 [some CS, some WT, some GT, some (goneD gone), some (.int (k : Nat)), some KD, some PT, d] = some (.rt (.int (k : Nat)) [some CS, some WT, some GT, some (goneD gone), some (.int (k : Nat)), some KD, some PT, d]) := seq_rt (if_t t (ret_ok rfl rfl))
      exact .inr ⟨k, _, fault_yes (bi.mp rfl), forD_rt h1 h2⟩
    | false =>
      rw [e] at t bi
      have nb : ¬ Bad cs ws gone g := fun z => absurd (bi.mpr z) Bool.false_ne_true
      obtain ⟨R, eR, hR, gR⟩ := Classical.not_not.mp fun z => nb (.inl z)
      have nd : g.2.Nodup := by rw [eR]; exact ci_nodup.mpr gR.1
      have nx : ∀ x ∈ g.2, x ∉ gone := fun x m n => nb (.inr ⟨x, m, n⟩)
      obtain ⟨ρ', hf, d', rfl⟩ := forD_inv (k := D.int) (xs := g.2) (g := gSet 7) (F := lp_group_fault_2) (fun j ρ => ∃ d', ρ = [some CS, some WT, some GT, some (goneD (gone ++ g.2.take j)), some (.int (k : Nat)), some KD, some PT, d']) (fun j hj ρ r => by
        obtain ⟨d', rfl⟩ := r
        refine ⟨_, _, rfl, .inl (setD_ok (d := .bl true) (z := g.2[j]) rfl rfl rfl ?_ ?_ rfl), some (.int g.2[j]), ?_⟩
        · rw [has_gone, decide_eq_false_iff_not, List.mem_append]
          rintro (m | m)
          · exact nx _ (List.getElem_mem hj) m
          · obtain ⟨i, hi, e⟩ := List.mem_take_iff_getElem.mp m
            have := (List.getElem_inj nd).mp e
            omega
        · rw [List.length_map, List.length_append, List.length_take]; omega
        · rw [List.take_succ_eq_append_getElem hj, ← List.append_assoc]
          rw [gone_snoc]
          rfl) (ρ := [some CS, some WT, some GT, some (goneD gone), some (.int (k : Nat)), some KD, some PT, d]) ⟨d, by rw [List.take_zero, List.append_nil]⟩
      rw [List.take_length] at hf
      have h2 : lp_group_fault_3 [some CS, some WT, some GT, some (goneD gone), some (.int (k : Nat)), some KD, some PT, d] = some (.nx [some CS, some WT, some GT, some (goneD (gone ++ g.2)), some (.int (k : Nat)), some KD, some PT, d']) := seq_nx (if_f t rfl) (for_ok (it _ rfl) hf)
      rw [forD_nx h1 h2, fault_no nb]
      exact ih _ _ _ _ (fun x m => hg x (List.mem_cons_of_mem _ m)) (by rw [List.length_append]; omega)
theorem ixD {ds : List D} {k : Nat} (h : k < ds.length) : gIx (.lst ds) (.int (k : Int)) = some ds[k] := by
  show L2.atI ds (k : Int) = _
  unfold L2.atI L2.ixN
  rw [if_pos (by omega), if_pos (by omega), Int.toNat_natCast]
  show ds[k]? = _
  exact List.getElem?_eq_getElem h
theorem law_fault (cs : List Int) (ws : List Nat) (hc : cs.length = ws.length) (hl : ws.length ≤ 8) (G0 : List Pr) (l0 : G0.length ≤ 100) : ∀ (G : List Pr) (gone : List Int) (k : Nat) (a b : Option D), G0.drop k = G → (∀ g ∈ G, 0 < g.2.length ∧ g.2.length ≤ 20) → gone.length + 20 * G.length ≤ 10000 →
    (fault cs ws gone k G = none ∧ ∃ ρ', forD (gSet 4) lp__law_due_2 ((List.range' k G.length).map fun o : Nat => D.int o) [some (.tup (cs.map .int)), some (.lst ((ci ws).map .int)), some (.lst (G0.map gD)), some (.lst (gone.map .int)), a, b] = some (.nx ρ')) ∨
    ∃ j ρ', fault cs ws gone k G = some j ∧ forD (gSet 4) lp__law_due_2 ((List.range' k G.length).map fun o : Nat => D.int o) [some (.tup (cs.map .int)), some (.lst ((ci ws).map .int)), some (.lst (G0.map gD)), some (.lst (gone.map .int)), a, b] = some (.rt (.int j) ρ')
  | [], gone, k, a, b, _, _, _ => .inl ⟨rfl, _, rfl⟩
  | g :: G, gone, k, a, b, hd, hg, hz => by
    obtain ⟨g1, g2⟩ := hg g List.mem_cons_self
    rw [List.length_cons] at hz
    obtain ⟨v, ev, iv⟩ := law_group cs ws g.1 g.2 hc hl g2 g1
    have bi := bad_iff (gone := gone) (g := g) iv
    have hk : k < G0.length := by
      have := congrArg List.length hd
      rw [List.length_drop, List.length_cons] at this
      omega
    have eg : G0[k] = g := by
      have := congrArg (fun l => l[0]?) hd
      simp only [List.getElem?_drop, Nat.add_zero, List.getElem?_cons_zero] at this
      rw [List.getElem?_eq_getElem hk] at this
      exact Option.some.inj this
    have hd' : G0.drop (k + 1) = G := by
      have := congrArg List.tail hd
      rw [List.tail_drop] at this
      exact this
    obtain ⟨CS, hCS⟩ : ∃ CS, CS = D.tup (cs.map .int) := ⟨_, rfl⟩
    obtain ⟨WL, hWL⟩ : ∃ WL, WL = D.lst ((ci ws).map .int) := ⟨_, rfl⟩
    obtain ⟨GL, hGL⟩ : ∃ GL, GL = D.lst (G0.map gD) := ⟨_, rfl⟩
    obtain ⟨KD, hKD⟩ : ∃ KD, KD = kD g.1 := ⟨_, rfl⟩
    obtain ⟨PT, hPT⟩ : ∃ PT, PT = D.tup (g.2.map .int) := ⟨_, rfl⟩
    have ih := law_fault cs ws hc hl G0 l0 G (gone ++ g.2) (k + 1)
    have epd : pD g.1 g.2 = .tup [KD, PT] := by rw [hKD, hPT]; rfl
    rw [← hCS, ← hWL, epd] at ev
    rw [← hCS, ← hWL, ← hGL] at ih ⊢
    have xg : gIx GL (.int (k : Nat)) = some (.tup [KD, PT]) := by
      rw [hGL, ixD (by rw [List.length_map]; exact hk), List.getElem_map, eg, ← epd]
      rfl
    have xp : gIx (.tup [KD, PT]) (.int 1) = some PT := rfl
    obtain ⟨PD, hPD⟩ : ∃ PD, PD = D.tup [KD, PT] := ⟨_, rfl⟩
    rw [← hPD] at ev xg xp
    obtain ⟨GN, hGN⟩ : ∃ GN, GN = D.lst (gone.map .int) := ⟨_, rfl⟩
    have e21 : ∀ x, e2 gIx (e2 gIx (eVar 2) (eVar 4)) (eC (.int 1)) [some CS, some WL, some GL, some GN, some (.int (k : Nat)), x] = some PT := fun x => e2_ok (e2_ok rfl rfl xg) rfl xp
    have it : ∀ x, iTp (e2 gIx (e2 gIx (eVar 2) (eVar 4)) (eC (.int 1))) [some CS, some WL, some GL, some GN, some (.int (k : Nat)), x] = some (g.2.map D.int) := fun x => iTp_ok ((e21 x).trans (by rw [hPT]))
    have lc : eLc [5] (iTp (e2 gIx (e2 gIx (eVar 2) (eVar 4)) (eC (.int 1)))) (gSet 5) (tBo (e2 (gIn false) (eVar 5) (eVar 3))) (eVar 5) [some CS, some WL, some GL, some GN, some (.int (k : Nat)), b] = some (.lst (((g.2.filter fun x => decide (x ∈ gone)).map fun x => x).map .int)) :=
      lcI_map (k := D.int) (xs := g.2) (γ := fun x => [some CS, some WL, some GL, some GN, some (.int (k : Nat)), some (.int x)]) (it _) (by omega) fun x mx => ⟨rfl, tbo_ok (e2_ok (b := GN) rfl rfl (by rw [hGN]; exact gin_lst x gone)), fun _ => rfl⟩
    have t := bOr_ok (ρ := [some CS, some WL, some GL, some GN, some (.int (k : Nat)), b]) (p := bNot (tBo (eCall (callF 3 [] sem__law_is_group) (aCons (eVar 0) (aCons (eVar 1) (aCons (e2 gIx (eVar 2) (eVar 4)) aNil)))))) (q := tBo (e2 (gEq true) (eLc [5] (iTp (e2 gIx (e2 gIx (eVar 2) (eVar 4)) (eC (.int 1)))) (gSet 5) (tBo (e2 (gIn false) (eVar 5) (eVar 3))) (eVar 5)) (eLst aNil))) (a := !v) (b := !(g.2.filter fun x => decide (x ∈ gone)).isEmpty) (bNot_ok (tbo_ok (callF_ok (ds := [CS, WL, PD]) (acons_ok rfl (acons_ok rfl (acons_ok (e2_ok rfl rfl xg) anil_ok))) rfl ev))) fun _ => tbo_ok (e2_ok lc (by simp (disch := omega) only [s_e2, s_eCall, s_aCons, s_aNil, s_v0, s_vs, s_eC, s_callF, s_eLst, s_eTup, s_add, s_iu, s_cmp, s_tBo, s_bNot, s_bAnd, s_bOr, s_gSet, s_lenL, s_lenT, s_isN, s_nonI, s_nonN, s_eq, s_ne, List.set_cons_zero, List.set_cons_succ, List.append_nil, List.nil_append, List.cons_append, List.map_cons, List.map_nil, List.length_cons, List.length_nil, List.reduceReplicate, Nat.zero_add, Nat.reduceAdd, Nat.reduceSub, Nat.reduceLeDiff, Nat.zero_le, s_isI, t_ii, t_bi, t_ib, t_bb, t_tt, t_ll, t_ss, if_true, Int.zero_add, Bool.not_true, Bool.not_false]) (ne_iln.trans (by rw [List.map_id'])))
    have rg : (List.range' k (g :: G).length).map (fun o : Nat => D.int o) = .int (k : Nat) :: (List.range' (k + 1) G.length).map fun o : Nat => D.int o := rfl
    rw [rg, ← hGN]
    have h1 : gSet 4 (.int (k : Nat)) [some CS, some WL, some GL, some GN, a, b] = some [some CS, some WL, some GL, some GN, some (.int (k : Nat)), b] := rfl
    cases e : (!v || !(g.2.filter fun x => decide (x ∈ gone)).isEmpty) with
    | true =>
      rw [e] at t bi
      have h2 : lp__law_due_2 [some CS, some WL, some GL, some GN, some (.int (k : Nat)), b] = some (.rt (.int (k : Nat)) [some CS, some WL, some GL, some GN, some (.int (k : Nat)), b]) := seq_rt (if_t t (ret_ok rfl rfl))
      exact .inr ⟨k, _, fault_yes (bi.mp rfl), forD_rt h1 h2⟩
    | false =>
      rw [e] at t bi
      have nb : ¬ Bad cs ws gone g := fun z => absurd (bi.mpr z) Bool.false_ne_true
      have gl : eCall gList (aCons (e2 gIx (e2 gIx (eVar 2) (eVar 4)) (eC (.int 1))) aNil) [some CS, some WL, some GL, some GN, some (.int (k : Nat)), b] = some (.lst (g.2.map .int)) := call_ok (ds := [PT]) (acons_ok (e21 _) anil_ok) (by rw [hPT]; rfl)
      have h2 : lp__law_due_2 [some CS, some WL, some GL, some GN, some (.int (k : Nat)), b] = some (.nx [some CS, some WL, some GL, some (.lst ((gone ++ g.2).map .int)), some (.int (k : Nat)), b]) := seq_nx (if_f t rfl) ((set_ok (d := .lst (gone.map .int ++ g.2.map .int)) (e2_ok (a := .lst (gone.map .int)) (by rw [← hGN]; rfl) gl (addL_ok (by rw [List.length_map, List.length_map]; omega)))).trans (by rw [List.map_append]; rfl))
      rw [forD_nx h1 h2, fault_no nb]
      exact ih _ _ hd' (fun x m => hg x (List.mem_cons_of_mem _ m)) (by rw [List.length_append]; omega)
def dueD : Option Nat → D
  | none => .non
  | some j => .int (j : Nat)
theorem isT_ok' {f : Store → Option D} {ρ : Store} {d : D} {T : String} {b : Bool} (h : f ρ = some d) (h2 : isT T d = some b) : eIsT T f ρ = some (.bl b) := isT_ok h h2
theorem eNot_ok {f : Store → Option D} {ρ : Store} {b : Bool} (h : f ρ = some (.bl b)) : eNot f ρ = some (.bl (!b)) := by
  unfold eNot
  rw [h]
section
variable {cs : List Int} {ws : List Nat} {G : List Pr}
theorem group_fault_ok (hc : cs.length = ws.length) (hl : ws.length ≤ 8) (hg : ∀ g ∈ G, 0 < g.2.length ∧ g.2.length ≤ 20) (lG : G.length ≤ 61) : sem_group_fault [.tup (cs.map .int), .tup ((ci ws).map .int), .tup (G.map gD)] = some (dueD (fault cs ws [] 0 G)) := by
  obtain ⟨CS, hCS⟩ : ∃ CS, CS = D.tup (cs.map .int) := ⟨_, rfl⟩
  obtain ⟨WT, hWT⟩ : ∃ WT, WT = D.tup ((ci ws).map .int) := ⟨_, rfl⟩
  obtain ⟨GT, hGT⟩ : ∃ GT, GT = D.tup (G.map gD) := ⟨_, rfl⟩
  have pf := prog_fault cs ws hc hl GT G [] 0 none none none none hg (by show 0 + _ ≤ _; omega)
  rw [← hCS, ← hWT] at pf
  rw [← hCS, ← hWT, ← hGT]
  have ie : iEnm (eVar 2) [some CS, some WT, some GT, some (goneD []), none, none, none, none] = some (enm 0 (G.map gD)) := by
    unfold iEnm
    rw [show eVar 2 [some CS, some WT, some GT, some (goneD []), none, none, none, none] = some GT from rfl, hGT]
  rcases pf with ⟨h1, ρ', h2⟩ | ⟨j, ρ', h1, h2⟩
  · rw [h1]
    exact fn0_ok (seq_set (d := goneD []) rfl (seq_nx (for_ok ie h2) (ret_ok (d := .non) rfl rfl)))
  · rw [h1]
    exact fn0_ok (seq_set (d := goneD []) rfl (seq_rt (for_ok ie h2)))
theorem due_ok (hc : cs.length = ws.length) (hl : ws.length ≤ 8) (hg : ∀ g ∈ G, 0 < g.2.length ∧ g.2.length ≤ 20) (lG : G.length ≤ 61) : sem__law_due [.tup (cs.map .int), .lst ((ci ws).map .int), .lst (G.map gD)] = some (dueD (fault cs ws [] 0 G)) := by
  have lf := law_fault cs ws hc hl G (by omega) G [] 0 none none rfl hg (by show 0 + _ ≤ _; omega)
  obtain ⟨CS, hCS⟩ : ∃ CS, CS = D.tup (cs.map .int) := ⟨_, rfl⟩
  obtain ⟨WL, hWL⟩ : ∃ WL, WL = D.lst ((ci ws).map .int) := ⟨_, rfl⟩
  have ln : eCall gLen (aCons (eVar 2) aNil) [some CS, some WL, some (.lst (G.map gD)), some (.lst []), none, none] = some (.int G.length) := call_ok (acons_ok rfl anil_ok) (by rw [s_lenL, List.length_map])
  obtain ⟨GL, hGL⟩ : ∃ GL, GL = D.lst (G.map gD) := ⟨_, rfl⟩
  rw [← hCS, ← hWL, ← hGL] at lf
  rw [← hGL] at ln
  rw [← hCS, ← hWL, ← hGL]
  have fo : ∀ o, forD (gSet 4) lp__law_due_2 ((List.range' 0 G.length).map fun o : Nat => D.int o) [some CS, some WL, some GL, some (.lst []), none, none] = o → sFor (iR1 (aCons (eCall gLen (aCons (eVar 2) aNil)) aNil)) (gSet 4) lp__law_due_2 [some CS, some WL, some GL, some (.lst []), none, none] = o := fun o h => for_ok ((r1_nat (n := G.length) (acons_ok ln anil_ok) (by omega)).trans (by rw [ups0, List.range_eq_range'])) h
  rcases lf with ⟨h1, ρ', h2⟩ | ⟨j, ρ', h1, h2⟩
  · rw [h1]
    exact fn0_ok (seq_set (d := .lst []) (by simp (disch := omega) only [s_e2, s_eCall, s_aCons, s_aNil, s_v0, s_vs, s_eC, s_callF, s_eLst, s_eTup, s_add, s_iu, s_cmp, s_tBo, s_bNot, s_bAnd, s_bOr, s_gSet, s_lenL, s_lenT, s_isN, s_nonI, s_nonN, s_eq, s_ne, List.set_cons_zero, List.set_cons_succ, List.append_nil, List.nil_append, List.cons_append, List.map_cons, List.map_nil, List.length_cons, List.length_nil, List.reduceReplicate, Nat.zero_add, Nat.reduceAdd, Nat.reduceSub, Nat.reduceLeDiff, Nat.zero_le, s_isI, t_ii, t_bi, t_ib, t_bb, t_tt, t_ll, t_ss, if_true, Int.zero_add, Bool.not_true, Bool.not_false]) (seq_nx (fo _ h2) (ret_ok (d := .non) rfl rfl)))
  · rw [h1]
    exact fn0_ok (seq_set (d := .lst []) (by simp (disch := omega) only [s_e2, s_eCall, s_aCons, s_aNil, s_v0, s_vs, s_eC, s_callF, s_eLst, s_eTup, s_add, s_iu, s_cmp, s_tBo, s_bNot, s_bAnd, s_bOr, s_gSet, s_lenL, s_lenT, s_isN, s_nonI, s_nonN, s_eq, s_ne, List.set_cons_zero, List.set_cons_succ, List.append_nil, List.nil_append, List.cons_append, List.map_cons, List.map_nil, List.length_cons, List.length_nil, List.reduceReplicate, Nat.zero_add, Nat.reduceAdd, Nat.reduceSub, Nat.reduceLeDiff, Nat.zero_le, s_isI, t_ii, t_bi, t_ib, t_bb, t_tt, t_ll, t_ss, if_true, Int.zero_add, Bool.not_true, Bool.not_false]) (seq_rt (fo _ h2)))
theorem right (hc : cs.length = ws.length) (hl : ws.length ≤ 8) (hg : ∀ g ∈ G, 0 < g.2.length ∧ g.2.length ≤ 20) (lG : G.length ≤ 61) : sem__law_right [.tup (cs.map .int), .lst ((ci ws).map .int), .lst (G.map gD)] = some (.bl true) := by
  have gf := group_fault_ok hc hl hg lG
  have du := due_ok hc hl hg lG
  obtain ⟨CS, hCS⟩ : ∃ CS, CS = D.tup (cs.map .int) := ⟨_, rfl⟩
  obtain ⟨WL, hWL⟩ : ∃ WL, WL = D.lst ((ci ws).map .int) := ⟨_, rfl⟩
  obtain ⟨WT, hWT⟩ : ∃ WT, WT = D.tup ((ci ws).map .int) := ⟨_, rfl⟩
  obtain ⟨GL, hGL⟩ : ∃ GL, GL = D.lst (G.map gD) := ⟨_, rfl⟩
  obtain ⟨GT, hGT⟩ : ∃ GT, GT = D.tup (G.map gD) := ⟨_, rfl⟩
  rw [← hCS, ← hWT, ← hGT] at gf
  rw [← hCS, ← hWL, ← hGL] at du
  rw [← hCS, ← hWL, ← hGL]
  generalize fault cs ws [] 0 G = o at gf du
  obtain ⟨O, hO⟩ : ∃ O, O = dueD o := ⟨_, rfl⟩
  rw [← hO] at gf du
  have c1 : eCall (callF 3 [] sem_group_fault) (aCons (eVar 0) (aCons (eCall gTuple (aCons (eVar 1) aNil)) (aCons (eCall gTuple (aCons (eVar 2) aNil)) aNil))) [some CS, some WL, some GL, none, none] = some O :=
    callF_ok (ds := [CS, WT, GT]) (acons_ok rfl (acons_ok (call_ok (ds := [WL]) rfl (by rw [hWL, hWT]; rfl)) (acons_ok (call_ok (ds := [GL]) rfl (by rw [hGL, hGT]; rfl)) anil_ok))) rfl gf
  have c2 : eCall (callF 3 [] sem__law_due) (aCons (eVar 0) (aCons (eVar 1) (aCons (eVar 2) aNil))) [some CS, some WL, some GL, some O, none] = some O := callF_ok (ds := [CS, WL, GL]) rfl rfl du
  cases o with
  | none =>
    subst hO
    exact fn0_ok (seq_set c1 (seq_set c2 (seq_rt (if_t (tbo_ok (e2_ok (a := .non) rfl rfl s_isN)) (ret_ok (d := .bl true) (e2_ok (a := .non) rfl rfl s_isN) rfl)))))
  | some j =>
    subst hO
    exact fn0_ok (seq_set c1 (seq_set c2 (seq_nx (if_f (tbo_ok (e2_ok (a := .int (j : Nat)) rfl rfl s_isN)) rfl) (ret_ok (d := .bl true) (eand_ok (a := true) (isT_ok (d := .int (j : Nat)) rfl t_ii) fun _ => eand_ok (a := true) (b := true) (eNot_ok (isT_ok (d := .int (j : Nat)) rfl t_bi)) fun _ => e2_ok (a := .int (j : Nat)) (b := .int (j : Nat)) rfl rfl (s_eq.trans (by rw [decide_eq_true rfl]))) rfl))))
end
/-! the drawn numbers -/
def drawZ (c k : Int) : Int := (c % 1999998563 + 43000003 * k + 389 * k * k + 139) % 1999998563 * ((c % 1999998563 + 43000003 * k + 389 * k * k + 139) % 1999998563) % 1999998547 * (52009 + 48 * k) % 1999998523 / 3
theorem draw (c k : Int) (h1 : 0 ≤ k) (h2 : k ≤ 1000000) : sem__law_draw [.int c, .int k] = some (.int (drawZ c k)) := by
  have m2 : gMul (.int (389 * k)) (.int k) = some (.int (389 * k * k)) := mul_ok (by omega) (by omega) (by omega) (by omega)
  have m0 := Int.emod_nonneg (c % 1999998563 + 43000003 * k + 389 * k * k + 139) (show (1999998563 : Int) ≠ 0 by decide)
  have m1 := Int.emod_lt_of_pos (c % 1999998563 + 43000003 * k + 389 * k * k + 139) (show (0 : Int) < 1999998563 by decide)
  obtain ⟨a, ha⟩ : ∃ a, a = (c % 1999998563 + 43000003 * k + 389 * k * k + 139) % 1999998563 := ⟨_, rfl⟩
  have n0 := Int.emod_nonneg (a * a) (show (1999998547 : Int) ≠ 0 by decide)
  have n1 := Int.emod_lt_of_pos (a * a) (show (0 : Int) < 1999998547 by decide)
  rw [← ha] at m0 m1
  unfold drawZ
  rw [← ha]
  refine fn0_ok (seq_set (d := .int a) ?_ (seq_set (d := .int (a * a % 1999998547)) ?_ (ret_ok ?_ s_immI)))
  · simp (disch := omega) only [s_e2, s_eCall, s_aCons, s_aNil, s_v0, s_vs, s_eC, s_callF, s_eLst, s_eTup, s_add, s_iu, s_cmp, s_tBo, s_bNot, s_bAnd, s_bOr, s_gSet, s_lenL, s_lenT, s_isN, s_nonI, s_nonN, s_eq, s_ne, List.set_cons_zero, List.set_cons_succ, List.append_nil, List.nil_append, List.cons_append, List.map_cons, List.map_nil, List.length_cons, List.length_nil, List.reduceReplicate, Nat.zero_add, Nat.reduceAdd, Nat.reduceSub, Nat.reduceLeDiff, Nat.zero_le, s_isI, t_ii, t_bi, t_ib, t_bb, t_tt, t_ll, t_ss, if_true, Int.zero_add, Bool.not_true, Bool.not_false, mul_ok, mod_ok, m2, ha]
  · simp (disch := omega) only [s_e2, s_eCall, s_aCons, s_aNil, s_v0, s_vs, s_eC, s_callF, s_eLst, s_eTup, s_add, s_iu, s_cmp, s_tBo, s_bNot, s_bAnd, s_bOr, s_gSet, s_lenL, s_lenT, s_isN, s_nonI, s_nonN, s_eq, s_ne, List.set_cons_zero, List.set_cons_succ, List.append_nil, List.nil_append, List.cons_append, List.map_cons, List.map_nil, List.length_cons, List.length_nil, List.reduceReplicate, Nat.zero_add, Nat.reduceAdd, Nat.reduceSub, Nat.reduceLeDiff, Nat.zero_le, s_isI, t_ii, t_bi, t_ib, t_bb, t_tt, t_ll, t_ss, if_true, Int.zero_add, Bool.not_true, Bool.not_false, mul_ok, mod_ok]
  · simp (disch := omega) only [s_e2, s_eCall, s_aCons, s_aNil, s_v0, s_vs, s_eC, s_callF, s_eLst, s_eTup, s_add, s_iu, s_cmp, s_tBo, s_bNot, s_bAnd, s_bOr, s_gSet, s_lenL, s_lenT, s_isN, s_nonI, s_nonN, s_eq, s_ne, List.set_cons_zero, List.set_cons_succ, List.append_nil, List.nil_append, List.cons_append, List.map_cons, List.map_nil, List.length_cons, List.length_nil, List.reduceReplicate, Nat.zero_add, Nat.reduceAdd, Nat.reduceSub, Nat.reduceLeDiff, Nat.zero_le, s_isI, t_ii, t_bi, t_ib, t_bb, t_tt, t_ll, t_ss, if_true, Int.zero_add, Bool.not_true, Bool.not_false, mul_ok, mod_ok, div_ok]
theorem drawZ_rng (c k : Int) : 0 ≤ drawZ c k ∧ drawZ c k ≤ 666666174 := by
  unfold drawZ
  generalize (c % 1999998563 + 43000003 * k + 389 * k * k + 139) % 1999998563 * ((c % 1999998563 + 43000003 * k + 389 * k * k + 139) % 1999998563) % 1999998547 * (52009 + 48 * k) = z
  omega
theorem drawM (c k : Int) {n : Nat} (h : 0 < n) : ∃ i : Nat, drawZ c k % (n : Int) = i ∧ i < n := by
  have z1 := Int.emod_nonneg (drawZ c k) (show (n : Int) ≠ 0 by omega)
  have z2 := Int.emod_lt_of_pos (drawZ c k) (show (0 : Int) < n by omega)
  exact ⟨(drawZ c k % (n : Int)).toNat, by omega, by omega⟩
/-- a draw, asked anywhere -/
theorem drw {f g : Store → Option D} {ρ : Store} {c k : Int} (h1 : f ρ = some (.int c)) (h2 : g ρ = some (.int k)) (k0 : 0 ≤ k) (k1 : k ≤ 1000000) : eCall (callF 2 [] sem__law_draw) (aCons f (aCons g aNil)) ρ = some (.int (drawZ c k)) := callF_ok (ds := [.int c, .int k]) (acons_ok h1 (acons_ok h2 anil_ok)) rfl (draw c k k0 k1)
theorem pow10 {j : Nat} (h : j ≤ 1000) : gPow (.int 10) (.int j) = some (.int (10 ^ j)) := by
  show (if (decide ((0 : Int) ≤ j) && decide ((j : Int) ≤ 1000) && decide ((10 : Int).natAbs < 2 ^ 64)) = true then some (D.int (10 ^ (j : Int).toNat)) else none) = _
  rw [if_pos ?_, Int.toNat_natCast]
  rw [decide_eq_true (show (0 : Int) ≤ j by omega), decide_eq_true (show (j : Int) ≤ 1000 by omega)]
  decide +kernel
theorem pick_mem {xs : List Int} {n : Int} (z : Int) (hn : n = xs.length) (h : 0 < xs.length) : ∃ y ∈ xs, gIx (.lst (xs.map .int)) (.int (z % n)) = some (.int y) := by
  have e1 := Int.emod_nonneg z (show n ≠ 0 by omega)
  have e2 := Int.emod_lt_of_pos z (show 0 < n by omega)
  exact ⟨_, at0_mem (xs := xs) (k := (z % n).toNat) (by omega), ix_il e1 (by omega)⟩
theorem counts_ok (c : Int) (n : Nat) (hn : n ≤ 8) : ∃ cs : List Int, cs.length = n ∧ sem__law_counts [.int c, .int n] = some (.tup (cs.map .int)) := by
  have p18 : gPow (.int 10) (.int 18) = some (.int 1000000000000000000) := pow10 (j := 18) (by decide)
  have p5 : gPow (.int 10) (.int 5) = some (.int 100000) := pow10 (j := 5) (by decide)
  have p30 : gPow (.int 10) (.int 30) = some (.int 1000000000000000000000000000000) := pow10 (j := 30) (by decide)
  obtain ⟨ρ', hf, cs, q1, a, b, d, rfl⟩ := forD_rng (g := gSet 3) (F := lp__law_counts_1) (n := n)
    (fun j ρ => ∃ cs : List Int, cs.length = j ∧ ∃ a b d, ρ = [some (.int c), some (.int n), some (.lst (cs.map .int)), a, b, d])
    (fun j hj ρ p => by
      obtain ⟨cs, q1, a, b, d, rfl⟩ := p
      have r20 := drawZ_rng c (20 + j)
      have r60 := drawZ_rng c (60 + j)
      obtain ⟨g, hg⟩ : ∃ g, g = drawZ c (20 + j) * 1000000000000000000 + drawZ c (60 + j) := ⟨_, rfl⟩
      have g0 : 0 ≤ g ∧ g ≤ 1000000000000000000000000000 := by omega
      have mg : gMul (.int (drawZ c (20 + j))) (.int 1000000000000000000) = some (.int (drawZ c (20 + j) * 1000000000000000000)) := mul_ok (by omega) (by omega) (by decide) (by decide)
      have m5 : gMul (.int g) (.int 100000) = some (.int (g * 100000)) := mul_ok (by omega) (by omega) (by decide) (by decide)
      obtain ⟨y, my, ey⟩ := pick_mem (xs := [2, 2, 2, 2, 2, 1, 1 + g % 40, 1 + g * 100000 % (1000000000000000000000000000000 - 1)]) (n := 8) (drawZ c (10 + j)) rfl (by show 0 < 8; decide)
      have mo : gMod (.int (g * 100000)) (.int (1000000000000000000000000000000 - 1)) = some (.int (g * 100000 % (1000000000000000000000000000000 - 1))) := mod_ok (by decide)
      have mo4 : gMod (.int g) (.int 40) = some (.int (g % 40)) := mod_ok (by decide)
      refine ⟨_, _, rfl, .inl (seq_set (d := .int (drawZ c (10 + j) % 8)) (e2_ok (drw rfl (e2_ok rfl rfl s_add) (by omega) (by omega)) rfl (mod_ok (by decide))) (seq_set (d := .int g) ?_ (append_ok (d := .int y) rfl ?_ (by rw [List.length_map]; omega)))), cs ++ [y], by rw [List.length_append, q1]; rfl, _, _, _, by rw [List.map_append]; rfl⟩
      · exact (e2_ok (e2_ok (drw rfl (e2_ok rfl rfl s_add) (by omega) (by omega)) (e2_ok rfl rfl p18) mg) (drw rfl (e2_ok rfl rfl s_add) (by omega) (by omega)) s_add).trans (by rw [← hg])
      · simp (disch := omega) only [s_e2, s_eCall, s_aCons, s_aNil, s_v0, s_vs, s_eC, s_callF, s_eLst, s_eTup, s_add, s_iu, s_cmp, s_tBo, s_bNot, s_bAnd, s_bOr, s_gSet, s_lenL, s_lenT, s_isN, s_nonI, s_nonN, s_eq, s_ne, List.set_cons_zero, List.set_cons_succ, List.append_nil, List.nil_append, List.cons_append, List.map_cons, List.map_nil, List.length_cons, List.length_nil, List.reduceReplicate, Nat.zero_add, Nat.reduceAdd, Nat.reduceSub, Nat.reduceLeDiff, Nat.zero_le, s_isI, t_ii, t_bi, t_ib, t_bb, t_tt, t_ll, t_ss, if_true, Int.zero_add, Bool.not_true, Bool.not_false, p5, p30, m5, mo, mo4]
        exact ey)
    (ρ := [some (.int c), some (.int n), some (.lst []), none, none, none]) ⟨[], rfl, none, none, none, rfl⟩
  exact ⟨cs, q1, fn0_ok (seq_set (d := .lst []) (by simp (disch := omega) only [s_e2, s_eCall, s_aCons, s_aNil, s_v0, s_vs, s_eC, s_callF, s_eLst, s_eTup, s_add, s_iu, s_cmp, s_tBo, s_bNot, s_bAnd, s_bOr, s_gSet, s_lenL, s_lenT, s_isN, s_nonI, s_nonN, s_eq, s_ne, List.set_cons_zero, List.set_cons_succ, List.append_nil, List.nil_append, List.cons_append, List.map_cons, List.map_nil, List.length_cons, List.length_nil, List.reduceReplicate, Nat.zero_add, Nat.reduceAdd, Nat.reduceSub, Nat.reduceLeDiff, Nat.zero_le, s_isI, t_ii, t_bi, t_ib, t_bb, t_tt, t_ll, t_ss, if_true, Int.zero_add, Bool.not_true, Bool.not_false]) (seq_nx (for_ok (r1_nat (n := n) rfl (by omega)) hf) (ret_ok (d := .tup (cs.map .int)) (tuple_ok rfl) imm_it)))⟩
theorem number_ok (c : Int) (k n : Nat) (hk : k ≤ 1000) (hn : n ≤ 8) : ∃ z : Int, sem__law_number [.int c, .int k, .int n] = some (.int z) := by
  have p60 : gPow (.int 10) (.int 60) = some (.int (10 ^ 60)) := pow10 (j := 60) (by decide)
  have p50 : gPow (.int 10) (.int 50) = some (.int (10 ^ 50)) := pow10 (j := 50) (by decide)
  have dk : ∀ a, eCall (callF 2 [] sem__law_draw) (aCons (eVar 0) (aCons (eVar 1) aNil)) [some (.int c), some (.int k), some (.int n), a] = some (.int (drawZ c k)) := fun a => drw rfl rfl (by omega) (by omega)
  obtain ⟨mx, hmx, mx1⟩ : ∃ mx : Int, gMax2 [.int 1, .int n] = some (.int mx) ∧ 1 ≤ mx := ⟨_, s_max2, by split <;> omega⟩
  have m1 : gMod (.int (drawZ c k)) (.int mx) = some (.int (drawZ c k % mx)) := mod_ok (by omega)
  have m2 : gMod (.int (drawZ c k)) (.int ((n : Int) + 3)) = some (.int (drawZ c k % ((n : Int) + 3))) := mod_ok (by omega)
  have m3 : gMod (.int c) (.int (10 ^ 60)) = some (.int (c % 10 ^ 60)) := mod_ok (by decide)
  have m4 : gMod (.int c) (.int (10 ^ 50)) = some (.int (c % 10 ^ 50)) := mod_ok (by decide)
  have e1 : eLst (aCons (e2 gMod (eCall (callF 2 [] sem__law_draw) (aCons (eVar 0) (aCons (eVar 1) aNil))) (eCall gMax2 (aCons (eC (.int 1)) (aCons (eVar 2) aNil)))) (aCons (e2 gSub (e2 gMod (eCall (callF 2 [] sem__law_draw) (aCons (eVar 0) (aCons (eVar 1) aNil))) (e2 gAdd (eVar 2) (eC (.int 3)))) (eC (.int 1))) aNil)) [some (.int c), some (.int k), some (.int n), none] = some (.lst [.int (drawZ c k % mx), .int (drawZ c k % ((n : Int) + 3) - 1)]) :=
    elst_ok (acons_ok (e2_ok (dk _) (call_ok (ds := [.int 1, .int n]) rfl hmx) m1) (acons_ok (e2_ok (e2_ok (dk _) (e2_ok rfl rfl s_add) m2) rfl s_iu) anil_ok)) (by show 2 ≤ 16777216; decide)
  obtain ⟨A, hA⟩ : ∃ A, A = drawZ c k % mx := ⟨_, rfl⟩
  obtain ⟨B, hB⟩ : ∃ B, B = drawZ c k % ((n : Int) + 3) - 1 := ⟨_, rfl⟩
  obtain ⟨C, hC⟩ : ∃ C : Int, C = c % 10 ^ 60 := ⟨_, rfl⟩
  obtain ⟨E, hE⟩ : ∃ E : Int, E = 0 - c % 10 ^ 50 := ⟨_, rfl⟩
  rw [← hA, ← hB] at e1
  have e2' : e2 gAdd (eVar 3) (eLst (aCons (e2 gMod (eVar 0) (e2 gPow (eC (.int 10)) (eC (.int 60)))) (aCons (e2 gSub (eC (.int 0)) (e2 gMod (eVar 0) (e2 gPow (eC (.int 10)) (eC (.int 50))))) aNil))) [some (.int c), some (.int k), some (.int n), some (.lst [.int A, .int B])] = some (.lst [.int A, .int B, .int C, .int E]) :=
    e2_ok (a := .lst [.int A, .int B]) (b := .lst [.int C, .int E]) rfl (elst_ok (acons_ok ((e2_ok rfl (e2_ok rfl rfl p60) m3).trans (by rw [hC])) (acons_ok ((e2_ok rfl (e2_ok rfl (e2_ok rfl rfl p50) m4) s_iu).trans (by rw [hE])) anil_ok)) (by show 2 ≤ 16777216; decide)) (addL_ok (by show 2 + 2 ≤ 16777216; decide))
  obtain ⟨i, mi, ei⟩ := pick_mem (xs := [0, 0, 0, 0, 0, 1, 2, 3]) (n := 8) (drawZ c ((k : Int) + 1)) rfl (by decide)
  have ir : ∀ y ∈ ([0, 0, 0, 0, 0, 1, 2, 3] : List Int), 0 ≤ y ∧ y < 4 := by decide
  obtain ⟨i0, i1⟩ := ir i mi
  have xz : gIx (.lst ([A, B, C, E].map .int)) (.int i) = some (.int (at0 [A, B, C, E] i.toNat)) := ix_il i0 i1
  have ep : e2 gIx (eLst (aCons (eC (.int 0)) (aCons (eC (.int 0)) (aCons (eC (.int 0)) (aCons (eC (.int 0)) (aCons (eC (.int 0)) (aCons (eC (.int 1)) (aCons (eC (.int 2)) (aCons (eC (.int 3)) aNil))))))))) (e2 gMod (eCall (callF 2 [] sem__law_draw) (aCons (eVar 0) (aCons (e2 gAdd (eVar 1) (eC (.int 1))) aNil))) (eC (.int 8))) [some (.int c), some (.int k), some (.int n), some (.lst [.int A, .int B, .int C, .int E])] = some (.int i) :=
    e2_ok (a := .lst ([0, 0, 0, 0, 0, 1, 2, 3].map .int)) (by simp (disch := omega) only [s_e2, s_eCall, s_aCons, s_aNil, s_v0, s_vs, s_eC, s_callF, s_eLst, s_eTup, s_add, s_iu, s_cmp, s_tBo, s_bNot, s_bAnd, s_bOr, s_gSet, s_lenL, s_lenT, s_isN, s_nonI, s_nonN, s_eq, s_ne, List.set_cons_zero, List.set_cons_succ, List.append_nil, List.nil_append, List.cons_append, List.map_cons, List.map_nil, List.length_cons, List.length_nil, List.reduceReplicate, Nat.zero_add, Nat.reduceAdd, Nat.reduceSub, Nat.reduceLeDiff, Nat.zero_le, s_isI, t_ii, t_bi, t_ib, t_bb, t_tt, t_ll, t_ss, if_true, Int.zero_add, Bool.not_true, Bool.not_false]) (e2_ok (drw rfl (e2_ok rfl rfl s_add) (by omega) (by omega)) rfl (mod_ok (by decide))) ei
  exact ⟨_, fn0_ok (seq_set e1 (seq_set e2' (ret_ok (e2_ok (a := .lst ([A, B, C, E].map .int)) rfl ep xz) s_immI)))⟩
theorem imm_lsD (L : List (List Nat)) : (lsD L).immB 2 = true := by
  unfold lsD
  show D.immBL 1 _ = true
  induction L with
  | nil => rfl
  | cons o L ih =>
    show (D.immB 1 (D.lst ((ci o).map .int)) && D.immBL 1 (L.map fun o => D.lst ((ci o).map .int))) = true
    rw [ih, show D.immB 1 (D.lst ((ci o).map .int)) = true from imm_il]; rfl
theorem eq_lsD (L : List (List Nat)) : gEq false (lsD L) (.lst []) = some (.bl L.isEmpty) := by
  unfold lsD
  rw [eq_nil ((Lay.lst (m := 1) (k := fun o : List Nat => D.lst ((ci o).map .int)) fun o _ => (Lay.lst (m := 0) (k := D.int) fun _ _ => .int)).okE (by decide))]
  cases L <;> rfl
theorem lsD_snoc (L : List (List Nat)) (R : List Nat) : lsD (L ++ [R]) = .lst ((L.map fun o => D.lst ((ci o).map .int)) ++ [.lst ((ci R).map .int)]) := by
  unfold lsD
  rw [List.map_append]
  rfl
theorem ci_snoc (R : List Nat) (q : Nat) : (ci R).map D.int ++ [.int (q : Nat)] = (ci (R ++ [q])).map .int := by
  unfold ci
  rw [List.map_append, List.map_append]
  rfl
/-- what the blocks are -/
structure Blk (L : List (List Nat)) (n : Nat) : Prop where
  ok : ∀ R ∈ L, R ≠ [] ∧ R.length ≤ 8 ∧ ∀ q ∈ R, q < n
  len : L.length ≤ 8
theorem blocks_ok (c : Int) (n : Nat) (hn : n ≤ 8) : ∃ L : List (List Nat), Blk L n ∧ sem__law_blocks [.int c, .int n] = some (lsD L) := by
  obtain ⟨ρ1, hf1, es, os, h1, h2, h3, a, rfl⟩ := forD_rng (g := gSet 4) (F := lp__law_blocks_1) (n := n)
    (fun j ρ => ∃ es os : List Nat, es.length = n - j ∧ os.length = j ∧ (os ++ es).Perm (List.range n) ∧ ∃ a, ρ = [some (.int c), some (.int n), some (.lst ((ci es).map .int)), some (.lst ((ci os).map .int)), a, none])
    (fun j hj ρ p => by
      obtain ⟨es, os, h1, h2, h3, a, rfl⟩ := p
      have l1 := ci_len es
      have l2 := ci_len os
      obtain ⟨z, hz, z0, z1⟩ : ∃ z, z = drawZ c (30 + j) % es.length ∧ 0 ≤ z ∧ z < es.length := ⟨_, rfl, Int.emod_nonneg _ (by omega), Int.emod_lt_of_pos _ (by omega)⟩
      have hk : z.toNat < es.length := by omega
      refine ⟨_, _, rfl, .inl (appX_ok (ds := (ci os).map .int) rfl (popI_ok (xs := ci es) (z := z) rfl (clr_ok ?_ s_immI) z0 (by omega) (by omega) rfl) rfl (by rw [List.length_map]; omega) rfl), es.eraseIdx z.toNat, os ++ [es[z.toNat]], by rw [len_erase hk]; omega, by rw [List.length_append, h2]; rfl, ?_, some (.int j), ?_⟩
      · simp (disch := omega) only [s_e2, s_eCall, s_aCons, s_aNil, s_v0, s_vs, s_eC, s_callF, s_eLst, s_eTup, s_add, s_iu, s_cmp, s_tBo, s_bNot, s_bAnd, s_bOr, s_gSet, s_lenL, s_lenT, s_isN, s_nonI, s_nonN, s_eq, s_ne, List.set_cons_zero, List.set_cons_succ, List.append_nil, List.nil_append, List.cons_append, List.map_cons, List.map_nil, List.length_cons, List.length_nil, List.reduceReplicate, Nat.zero_add, Nat.reduceAdd, Nat.reduceSub, Nat.reduceLeDiff, Nat.zero_le, s_isI, t_ii, t_bi, t_ib, t_bb, t_tt, t_ll, t_ss, if_true, Int.zero_add, Bool.not_true, Bool.not_false, draw, List.length_map, l1]
        rw [mod_ok (by omega), hz]
      · rw [List.append_assoc]
        exact ((perm_er es z.toNat hk).append_left os).trans h3
      · rw [ci_at hk]
        have e1 : (ci es).eraseIdx z.toNat = ci (es.eraseIdx z.toNat) := erase_map _ es z.toNat
        rw [e1]
        show [some (D.int c), some (D.int n), some (D.lst ((ci (es.eraseIdx z.toNat)).map D.int)), some (D.lst ((ci os).map D.int ++ [D.int (es[z.toNat] : Nat)])), some (D.int j), none] = _
        rw [ci_snoc])
    (ρ := [some (.int c), some (.int n), some (.lst ((ci (List.range n)).map .int)), some (.lst []), none, none]) ⟨List.range n, [], by rw [List.length_range]; rfl, rfl, .refl _, none, rfl⟩
  have lo : ∀ q ∈ os, q < n := fun q m => List.mem_range.mp (h3.mem_iff.mp (List.mem_append_left _ m))
  obtain ⟨EL, hEL⟩ : ∃ EL, EL = D.lst ((ci es).map .int) := ⟨_, rfl⟩
  obtain ⟨OL, hOL⟩ : ∃ OL, OL = D.lst ((ci os).map .int) := ⟨_, rfl⟩
  obtain ⟨ρ2, hf2, L, g1, g2, a2, rfl⟩ := forD_rng (g := gSet 4) (F := lp__law_blocks_3) (n := n)
    (fun j ρ => ∃ L : List (List Nat), (∀ R ∈ L, R ≠ [] ∧ R.length ≤ j ∧ ∀ q ∈ R, q < n) ∧ L.length ≤ j ∧ ∃ a, ρ = [some (.int c), some (.int n), some EL, some OL, a, some (lsD L)])
    (fun j hj ρ p => by
      obtain ⟨L, g1, g2, a, rfl⟩ := p
      have xo : gIx OL (.int (j : Int)) = some (.int (os[j]'(by omega) : Nat)) := by
        rw [hOL]
        have := cwL (ws := os) (p := j) (by omega)
        rw [getD_get (by omega)] at this
        exact this
      have s1 : ∃ (M : List (List Nat)) (R : List Nat), (∀ R ∈ M, R ≠ [] ∧ R.length ≤ j ∧ ∀ q ∈ R, q < n) ∧ R.length ≤ j ∧ (∀ q ∈ R, q < n) ∧ M.length ≤ j ∧ if__law_blocks_2 [some (.int c), some (.int n), some EL, some OL, some (.int j), some (lsD L)] = some (.nx [some (.int c), some (.int n), some EL, some OL, some (.int j), some (lsD (M ++ [R]))]) := by
        have put : sAppend 5 (eLst aNil) [some (.int c), some (.int n), some EL, some OL, some (.int j), some (lsD L)] = some (.nx [some (.int c), some (.int n), some EL, some OL, some (.int j), some (lsD (L ++ [[]]))]) := by
          refine (append_ok (d := .lst []) (ds := L.map fun o => D.lst ((ci o).map .int)) rfl (elst_ok anil_ok (Nat.zero_le _)) (by rw [List.length_map]; omega)).trans ?_
          rw [lsD_snoc]
          rfl
        have t := bOr_ok (ρ := [some (.int c), some (.int n), some EL, some OL, some (.int j), some (lsD L)]) (p := tBo (e2 (gEq false) (eVar 5) (eLst aNil))) (q := tBo (e2 (gEq false) (e2 gMod (eCall (callF 2 [] sem__law_draw) (aCons (eVar 0) (aCons (e2 gAdd (eC (.int 40)) (eVar 4)) aNil))) (eC (.int 3))) (eC (.int 0)))) (a := L.isEmpty) (b := decide (drawZ c (40 + j) % 3 = 0)) (tbo_ok (e2_ok rfl (elst_ok anil_ok (Nat.zero_le _)) (eq_lsD L))) fun _ => tbo_ok (e2_ok (e2_ok (drw rfl (e2_ok rfl rfl s_add) (by omega) (by omega)) rfl (mod_ok (by decide))) rfl s_eq)
        cases e : (L.isEmpty || decide (drawZ c (40 + j) % 3 = 0)) with
        | true =>
          rw [e] at t
          exact ⟨L, [], g1, Nat.zero_le _, fun _ m => (nomatch m), g2, if_t t put⟩
        | false =>
          rw [e] at t
          have ne : L ≠ [] := fun z => by rw [z] at e; cases e
          have el := List.dropLast_concat_getLast ne
          have lg := g1 _ (List.getLast_mem ne)
          refine ⟨L.dropLast, L.getLast ne, fun R m => g1 R (by have h : R ∈ L.dropLast ++ [L.getLast ne] := List.mem_append_left _ m; rwa [el] at h), lg.2.1, lg.2.2, by rw [List.length_dropLast]; omega, if_f t ?_⟩
          rw [el]
          rfl
      obtain ⟨M, R, m1, m2, m3, m4, e1⟩ := s1
      have e2' : sAppAt 5 (eUn (fun i => -i) (eC (.int 1))) (eClr 0 (e2 gIx (eVar 3) (eVar 4))) [some (.int c), some (.int n), some EL, some OL, some (.int j), some (lsD (M ++ [R]))] = some (.nx [some (.int c), some (.int n), some EL, some OL, some (.int j), some (lsD (M ++ [R ++ [os[j]'(by omega)]]))]) := by
        rw [lsD_snoc, lsD_snoc]
        refine appAt_ok (z := -1) (j := M.length) (d := .int (os[j]'(by omega) : Nat)) (ws := (ci R).map .int) rfl rfl (clr_ok (e2_ok rfl rfl xo) s_immI) ?_ ?_ (by rw [List.length_map, ci_len]; omega) ?_
        · unfold L2.ixN
          rw [List.length_append, List.length_map, if_neg (by decide), if_pos (by show -((M.length + 1 : Nat) : Int) ≤ -1; omega)]
          congr 1
          show (-1 + ((M.length + 1 : Nat) : Int)).toNat = M.length
          omega
        · rw [List.getElem?_append_right (by rw [List.length_map]; exact Nat.le_refl _), List.length_map, Nat.sub_self]
          rfl
        · rw [ci_snoc]
          have : ((M.map fun o => D.lst ((ci o).map .int)) ++ [D.lst ((ci R).map .int)]).set M.length (.lst ((ci (R ++ [os[j]'(by omega)])).map .int)) = (M.map fun o => D.lst ((ci o).map .int)) ++ [.lst ((ci (R ++ [os[j]'(by omega)])).map .int)] := by
            rw [List.set_append_right _ _ (by rw [List.length_map]; exact Nat.le_refl _), List.length_map, Nat.sub_self]
            rfl
          rw [this]
          rfl
      refine ⟨_, _, rfl, .inl (seq_nx e1 e2'), M ++ [R ++ [os[j]'(by omega)]], fun S m => ?_, by rw [List.length_append]; show M.length + 1 ≤ _; omega, _, rfl⟩
      rcases List.mem_append.mp m with m | m
      · obtain ⟨x, y, z⟩ := m1 S m
        exact ⟨x, by omega, z⟩
      · rw [List.mem_singleton.mp m]
        refine ⟨fun z => ?_, by rw [List.length_append]; show R.length + 1 ≤ _; omega, fun q mq => ?_⟩
        · have := congrArg List.length z
          rw [List.length_append] at this
          cases this
        · rcases List.mem_append.mp mq with mq | mq
          · exact m3 q mq
          · rw [List.mem_singleton.mp mq]; exact lo _ (List.getElem_mem _))
    (ρ := [some (.int c), some (.int n), some EL, some OL, a, some (lsD [])]) ⟨[], fun _ m => (nomatch m), Nat.le_refl _, a, rfl⟩
  refine ⟨L, ⟨fun R m => ?_, by omega⟩, fn0_ok (seq_set (ci_rg n (by omega) rfl) (seq_set (d := .lst []) rfl (seq_nx (for_ok (r1_nat (n := n) rfl (by omega)) hf1) (seq_set (d := lsD []) rfl (seq_nx (for_ok (r1_nat (n := n) rfl (by omega)) (by rw [← hEL, ← hOL]; exact hf2)) (ret_ok rfl (imm_lsD L)))))))⟩
  obtain ⟨x, y, z⟩ := g1 R m
  exact ⟨x, by omega, z⟩
/-! the web -/
theorem or_nat (a b : Nat) : ∃ w : Nat, gOr (.int a) (.int b) = some (.int (w : Nat)) := by
  refine ⟨(a ^^^ b) + (a &&& b), s_iu.trans ?_⟩
  have h1 : Builtin.bitXor (a : Int) (b : Int) = Builtin.bitOr (a : Int) (b : Int) - Builtin.bitAnd (a : Int) (b : Int) := rfl
  have h2 := xor_cast a b
  have h3 : Builtin.bitAnd (a : Int) (b : Int) = ((a &&& b : Nat) : Int) := by
    rw [PyProof.Rows.bitAnd_pp (Int.natCast_nonneg a) (Int.natCast_nonneg b), Int.toNat_natCast, Int.toNat_natCast]
  show some (D.int (Builtin.bitOr (a : Int) (b : Int))) = _
  rw [show Builtin.bitOr (a : Int) (b : Int) = (((a ^^^ b) + (a &&& b) : Nat) : Int) by omega]
theorem or_set {ws : List Nat} {p q : Nat} (hp : p < ws.length) (hq : q ≤ 8) {fp fq : Store → Option D} {ρ : Store} (h3 : eVar 3 ρ = some (.lst ((ci ws).map .int))) (h1 : fp ρ = some (.int p)) (h2 : fq ρ = some (.int q)) : ∃ ws' : List Nat, ws'.length = ws.length ∧ sSetI 3 (eClr 0 (e2 gOr (e2 gIx (eVar 3) fp) (e2 gShl (eC (.int 1)) fq))) fp ρ = some (.nx (ρ.set 3 (some (.lst ((ci ws').map .int))))) := by
  obtain ⟨w, hw⟩ := or_nat (ws.getD p 0) (2 ^ q)
  refine ⟨ws.set p w, List.length_set, setI_ok (j := p) (z := p) (d := .int (w : Nat)) (ds := (ci ws).map .int) (clr_ok (e2_ok (e2_ok h3 h1 (cwL hp)) (e2_ok rfl h2 (sh1 q (by omega))) hw) s_immI) h3 h1 ⟨rfl, by rw [List.length_map, ci_len]; exact hp⟩ (by rw [ci_set])⟩
theorem ix_lsD {L : List (List Nat)} {b : Nat} (h : b < L.length) : gIx (lsD L) (.int (b : Nat)) = some (.lst ((ci L[b]).map .int)) := by
  unfold lsD
  rw [ixD (by rw [List.length_map]; exact h), List.getElem_map]
theorem len_lsD (L : List (List Nat)) : gLen [lsD L] = some (.int L.length) := by
  unfold lsD
  rw [s_lenL, List.length_map]
theorem web_ok (c : Int) (n : Nat) (hn : n ≤ 8) {L : List (List Nat)} (hL : Blk L n) : ∃ ws : List Nat, ws.length = n ∧ sem__law_web [.int c, .int n, lsD L] = some (.lst ((ci ws).map .int)) := by
  have xb := fun (b : Nat) (h : b < L.length) => ix_lsD h
  have ll := len_lsD L
  have lL := hL.len
  obtain ⟨LD, hLD⟩ : ∃ LD, LD = lsD L := ⟨_, rfl⟩
  rw [← hLD] at ll
  simp only [← hLD] at xb ⊢
  have lc := lcI_rngA (h := fun _ => (0 : Int)) (ρ := [some (.int c), some (.int n), some LD, none, none, none, none, none, none, none]) (vs := [4]) (it := iR1 (aCons (eVar 1) aNil)) (g := gSet 4) (p := bYes) (f := eC (.int 0)) (n := n) (γ := fun i => [some (.int c), some (.int n), some LD, none, some (.int i), none, none, none, none, none]) (r1_nat (n := n) rfl (by omega)) (by omega) fun i hi => ⟨rfl, rfl, rfl⟩
  rw [show (List.range n).map (fun _ => (0 : Int)) = ci ((List.range n).map fun _ => 0) by unfold ci; rw [List.map_map]; rfl] at lc
  obtain ⟨ρ', hf, ws, h1, a, b, d, e, e', rfl⟩ := forD_rng (g := gSet 5) (F := lp__law_web_6) (n := L.length)
    (fun j ρ => ∃ ws : List Nat, ws.length = n ∧ ∃ a b d e f, ρ = [some (.int c), some (.int n), some LD, some (.lst ((ci ws).map .int)), none, a, b, d, e, f])
    (fun j hj ρ p => by
      obtain ⟨ws, h1, a, b, d, e, f, rfl⟩ := p
      obtain ⟨R, hR⟩ : ∃ R, R = L[j] := ⟨_, rfl⟩
      obtain ⟨r1, r2, r3⟩ := hL.ok R (by rw [hR]; exact List.getElem_mem hj)
      have xj := xb j hj
      rw [← hR] at xj
      have xr := fun (k : Nat) (hk : k < R.length) => cwL (ws := R) hk
      have lr : gLen [.lst ((ci R).map .int)] = some (.int R.length) := by rw [s_lenL, List.length_map, ci_len]
      have itr : ∀ ρ : Store, eVar 6 ρ = some (.lst ((ci R).map .int)) → iLst (eVar 6) ρ = some (R.map fun q : Nat => D.int q) := fun ρ e => (iLst_ok e).trans (by unfold ci; rw [List.map_map]; rfl)
      obtain ⟨RL, hRL⟩ : ∃ RL, RL = D.lst ((ci R).map .int) := ⟨_, rfl⟩
      rw [← hRL] at xj lr
      simp only [← hRL] at xr itr
      obtain ⟨ρ2, hf2, ws2, g1, d2, e2', f2, rfl⟩ := forD_rng (g := gSet 7) (F := lp__law_web_5) (n := R.length)
        (fun k ρ => ∃ ws : List Nat, ws.length = n ∧ ∃ d e f, ρ = [some (.int c), some (.int n), some LD, some (.lst ((ci ws).map .int)), none, some (.int (j : Nat)), some RL, d, e, f])
        (fun k hk ρ p => by
          obtain ⟨ws, h1, d, e, f, rfl⟩ := p
          have xk := xr k hk
          have pk : R.getD k 0 < n := by rw [getD_get hk]; exact r3 _ (List.getElem_mem hk)
          have t : tBo (e2 (gEq false) (e2 gMod (eCall (callF 2 [] sem__law_draw) (aCons (eVar 0) (aCons (e2 gAdd (eC (.int 50)) (eVar 5)) aNil))) (eC (.int 2))) (eC (.int 0))) [some (.int c), some (.int n), some LD, some (.lst ((ci ws).map .int)), none, some (.int (j : Nat)), some RL, some (.int (k : Nat)), e, f] = some (decide (drawZ c (50 + j) % 2 = 0)) := tbo_ok (e2_ok (e2_ok (drw rfl (e2_ok rfl rfl s_add) (by omega) (by omega)) rfl (mod_ok (by decide))) rfl s_eq)
          cases et : decide (drawZ c (50 + j) % 2 = 0) with
          | true =>
            rw [et] at t
            obtain ⟨ρ3, hf3, ws3, w1, e3, rfl⟩ := forD_inv (k := fun q : Nat => D.int q) (xs := R) (g := gSet 8) (F := lp__law_web_2) (fun _ ρ => ∃ ws : List Nat, ws.length = n ∧ ∃ e, ρ = [some (.int c), some (.int n), some LD, some (.lst ((ci ws).map .int)), none, some (.int (j : Nat)), some RL, some (.int (k : Nat)), e, f]) (fun i hi ρ r => by
              obtain ⟨ws, h1, e, rfl⟩ := r
              have qi := r3 _ (List.getElem_mem hi)
              have tt : tBo (e2 (gEq true) (eVar 8) (e2 gIx (eVar 6) (eVar 7))) [some (.int c), some (.int n), some LD, some (.lst ((ci ws).map .int)), none, some (.int (j : Nat)), some RL, some (.int (k : Nat)), some (.int (R[i] : Nat)), f] = some (!decide (((R[i] : Nat) : Int) = ((R.getD k 0 : Nat) : Int))) := tbo_ok (e2_ok rfl (e2_ok rfl rfl xk) s_ne)
              cases ex : !decide (((R[i] : Nat) : Int) = ((R.getD k 0 : Nat) : Int)) with
              | true =>
                rw [ex] at tt
                obtain ⟨ws', w1, w2⟩ := or_set (ws := ws) (p := R.getD k 0) (q := R[i]) (fp := e2 gIx (eVar 6) (eVar 7)) (fq := eVar 8) (ρ := [some (.int c), some (.int n), some LD, some (.lst ((ci ws).map .int)), none, some (.int (j : Nat)), some RL, some (.int (k : Nat)), some (.int (R[i] : Nat)), f]) (by omega) (by omega) rfl (e2_ok rfl rfl xk) rfl
                exact ⟨_, _, rfl, .inl (if_t tt w2), ws', by omega, _, rfl⟩
              | false =>
                rw [ex] at tt
                exact ⟨_, _, rfl, .inl (if_f tt rfl), ws, h1, _, rfl⟩) (ρ := [some (.int c), some (.int n), some LD, some (.lst ((ci ws).map .int)), none, some (.int (j : Nat)), some RL, some (.int (k : Nat)), e, f]) ⟨ws, h1, e, rfl⟩
            exact ⟨_, _, rfl, .inl (if_t t (for_ok (itr _ rfl) hf3)), ws3, w1, _, _, _, rfl⟩
          | false =>
            rw [et] at t
            have ln : eCall gLen (aCons (eVar 6) aNil) [some (.int c), some (.int n), some LD, some (.lst ((ci ws).map .int)), none, some (.int (j : Nat)), some RL, some (.int (k : Nat)), e, f] = some (.int R.length) := call_ok (acons_ok rfl anil_ok) lr
            have t2 : tBo (e2 gGt (eCall gLen (aCons (eVar 6) aNil)) (eC (.int 1))) [some (.int c), some (.int n), some LD, some (.lst ((ci ws).map .int)), none, some (.int (j : Nat)), some RL, some (.int (k : Nat)), e, f] = some (decide ((1 : Int) < R.length)) := tbo_ok (e2_ok ln rfl s_cmp)
            cases e1 : decide ((1 : Int) < R.length) with
            | true =>
              rw [e1] at t2
              have hm : (k + 1) % R.length < R.length := Nat.mod_lt _ (by omega)
              have qm : R.getD ((k + 1) % R.length) 0 < n := by rw [getD_get hm]; exact r3 _ (List.getElem_mem hm)
              have s9 : sSet 9 (e2 gIx (eVar 6) (e2 gMod (e2 gAdd (eVar 7) (eC (.int 1))) (eCall gLen (aCons (eVar 6) aNil)))) [some (.int c), some (.int n), some LD, some (.lst ((ci ws).map .int)), none, some (.int (j : Nat)), some RL, some (.int (k : Nat)), e, f] = some (.nx [some (.int c), some (.int n), some LD, some (.lst ((ci ws).map .int)), none, some (.int (j : Nat)), some RL, some (.int (k : Nat)), e, some (.int (R.getD ((k + 1) % R.length) 0 : Nat))]) := by
                refine set_ok (e2_ok rfl (e2_ok (e2_ok rfl rfl s_add) ln (mod_ok (by omega))) ?_)
                rw [show ((k : Nat) : Int) + 1 = ((k + 1 : Nat) : Int) by omega, ← Int.natCast_emod]
                exact xr _ hm
              obtain ⟨ws', w1, w2⟩ := or_set (ws := ws) (p := R.getD k 0) (q := R.getD ((k + 1) % R.length) 0) (fp := e2 gIx (eVar 6) (eVar 7)) (fq := eVar 9) (ρ := [some (.int c), some (.int n), some LD, some (.lst ((ci ws).map .int)), none, some (.int (j : Nat)), some RL, some (.int (k : Nat)), e, some (.int (R.getD ((k + 1) % R.length) 0 : Nat))]) (by omega) (by omega) rfl (e2_ok rfl rfl xk) rfl
              exact ⟨_, _, rfl, .inl (if_f t (if_t t2 (seq_nx s9 w2))), ws', by omega, _, _, _, rfl⟩
            | false =>
              rw [e1] at t2
              exact ⟨_, _, rfl, .inl (if_f t (if_f t2 rfl)), ws, h1, _, _, _, rfl⟩)
        (ρ := [some (.int c), some (.int n), some LD, some (.lst ((ci ws).map .int)), none, some (.int (j : Nat)), some RL, d, e, f]) ⟨ws, h1, _, _, _, rfl⟩
      exact ⟨_, _, rfl, .inl (seq_set (d := RL) (e2_ok rfl rfl xj) (for_ok (r1_nat (n := R.length) (acons_ok (call_ok (acons_ok rfl anil_ok) lr) anil_ok) (by omega)) hf2)), ws2, g1, _, _, _, _, _, rfl⟩)
    (ρ := [some (.int c), some (.int n), some LD, some (.lst ((ci ((List.range n).map fun _ => 0)).map .int)), none, none, none, none, none, none]) ⟨_, by rw [List.length_map, List.length_range], _, _, _, _, _, rfl⟩
  exact ⟨ws, h1, fn0_ok (seq_set lc (seq_nx (for_ok (r1_nat (n := L.length) (acons_ok (call_ok (acons_ok rfl anil_ok) ll) anil_ok) (by omega)) hf) (ret_ok rfl imm_il)))⟩
theorem imm_pair (g : Bool × List Int) : (gD g).imm = true := by
  show ((D.tup (g.2.map .int)).imm && true) = true
  rw [Bool.and_true]
  exact imm_it
theorem imm_pair0 (g : Bool × List Int) : (gD g).immB 0 = true := imm_pair g
theorem imm_pairs : ∀ G : List (Bool × List Int), D.immBL 0 (G.map gD) = true
  | [] => rfl
  | g :: G => by
    show ((gD g).immB 0 && D.immBL 0 (G.map gD)) = true
    rw [imm_pairs G, Bool.and_true]
    exact imm_pair g
theorem imm_pairsT : ∀ G : List (Bool × List Int), D.immL (G.map gD) = true
  | [] => rfl
  | g :: G => by
    show ((gD g).imm && D.immL (G.map gD)) = true
    rw [imm_pairsT G, Bool.and_true]
    exact imm_pair g
/-! a pair -/
theorem cutL {p : List Int} {lo hi : Option Int} : gSlL (.lst (p.map .int)) lo hi = some (.lst ((cutD p lo hi).map .int)) := by
  rw [s_slL]
theorem catL {p q : List Int} (h : p.length + q.length ≤ 1000) : gCat (.lst (p.map .int)) (.lst (q.map .int)) = some (.lst ((p ++ q).map .int)) := by
  rw [cat_ok (by rw [List.length_map, List.length_map]; omega), List.map_append]
theorem pair_ok (c : Int) (n : Nat) (hn : n ≤ 8) {L : List (List Nat)} (hL : Blk L n) : ∃ g : Pr, (0 < g.2.length ∧ g.2.length ≤ 20) ∧ sem__law_pair [.int c, .int n, lsD L] = some (gD g) := by
  have xb := fun (b : Nat) (h : b < L.length) => ix_lsD h
  have ll := len_lsD L
  have el := eq_lsD L
  have lL := hL.len
  obtain ⟨LD, hLD⟩ : ∃ LD, LD = lsD L := ⟨_, rfl⟩
  rw [← hLD] at ll el
  simp only [← hLD] at xb ⊢
  obtain ⟨b, hb⟩ : ∃ b : Bool, gIx (.lst [kD false, kD true]) (.int (drawZ c 1 % 2)) = some (kD b) := by
    rcases Int.emod_two_eq (drawZ c 1) with e | e
    · exact ⟨false, by rw [e]; rfl⟩
    · exact ⟨true, by rw [e]; rfl⟩
  have k1 := kd_ring b
  have k2 := kd_circle b
  obtain ⟨KD, hKD⟩ : ∃ KD, KD = kD b := ⟨_, rfl⟩
  rw [← hKD] at hb k1 k2
  obtain ⟨s, hs⟩ : ∃ s, s = drawZ c 2 % 8 := ⟨_, rfl⟩
  have e3 : e2 gIx (eLst (aCons (eC (.str "circle")) (aCons (eC (.str "ring")) aNil))) (e2 gMod (eCall (callF 2 [] sem__law_draw) (aCons (eVar 0) (aCons (eC (.int 1)) aNil))) (eC (.int 2))) [some (.int c), some (.int n), some LD, none, none, none, none, none, none] = some KD := e2_ok (a := .lst [kD false, kD true]) (elst_ok (acons_ok rfl (acons_ok rfl anil_ok)) (by show 2 ≤ 16777216; decide)) (e2_ok (drw rfl rfl (by decide) (by decide)) rfl (mod_ok (by decide))) hb
  have e4 : e2 gMod (eCall (callF 2 [] sem__law_draw) (aCons (eVar 0) (aCons (eC (.int 2)) aNil))) (eC (.int 8)) [some (.int c), some (.int n), some LD, some KD, none, none, none, none, none] = some (.int s) := (e2_ok (drw rfl rfl (by decide) (by decide)) rfl (mod_ok (by decide))).trans (by rw [hs])
  have t1 := bOr_ok (ρ := [some (.int c), some (.int n), some LD, some KD, some (.int s), none, none, none, none]) (p := tBo (e2 (gEq false) (eVar 4) (eC (.int 0)))) (q := tBo (e2 (gEq false) (eVar 2) (eLst aNil))) (a := decide (s = 0)) (b := L.isEmpty) (tbo_ok (e2_ok rfl rfl s_eq)) fun _ => tbo_ok (e2_ok rfl (elst_ok anil_ok (Nat.zero_le _)) el)
  cases et : (decide (s = 0) || L.isEmpty) with
  | true =>
    rw [et] at t1
    obtain ⟨m, hm, m1, m2⟩ : ∃ m : Nat, 1 + drawZ c 3 % 10 = m ∧ 1 ≤ m ∧ m ≤ 10 := ⟨(1 + drawZ c 3 % 10).toNat, by omega, by omega, by omega⟩
    have ex : ∀ k : Nat, ∃ z : Int, k < 10 → sem__law_number [.int c, .int ((10 + 2 * k : Nat) : Int), .int n] = some (.int z) := fun k => by
      by_cases hk : k < 10
      · obtain ⟨z, hz⟩ := number_ok c (10 + 2 * k) n (by omega) hn
        exact ⟨z, fun _ => hz⟩
      · exact ⟨0, fun h => absurd h hk⟩
    obtain ⟨zs, hzs⟩ := Classical.axiomOfChoice ex
    have lc := lcI_rngA (h := zs) (ρ := [some (.int c), some (.int n), some LD, some KD, some (.int s), none, none, none, none]) (vs := [5]) (it := iR1 (aCons (e2 gAdd (eC (.int 1)) (e2 gMod (eCall (callF 2 [] sem__law_draw) (aCons (eVar 0) (aCons (eC (.int 3)) aNil))) (eC (.int 10)))) aNil)) (g := gSet 5) (p := bYes) (f := eCall (callF 3 [] sem__law_number) (aCons (eVar 0) (aCons (e2 gAdd (eC (.int 10)) (e2 gMul (eC (.int 2)) (eVar 5))) (aCons (eVar 1) aNil)))) (n := m) (γ := fun k => [some (.int c), some (.int n), some LD, some KD, some (.int s), some (.int k), none, none, none])
      (r1_nat (n := m) (acons_ok ((e2_ok rfl (e2_ok (drw rfl rfl (by decide) (by decide)) rfl (mod_ok (by decide))) s_add).trans (by rw [hm])) anil_ok) (by omega)) (by omega) fun k hk => ⟨rfl, rfl, callF_ok (ds := [.int c, .int ((10 + 2 * k : Nat) : Int), .int n]) (acons_ok rfl (acons_ok ((e2_ok rfl (e2_ok rfl rfl (mul_ok (by omega) (by omega) (by omega) (by omega))) s_add).trans (by rw [show (10 : Int) + 2 * (k : Int) = ((10 + 2 * k : Nat) : Int) by omega])) (acons_ok rfl anil_ok))) rfl (hzs k (by omega))⟩
    refine ⟨(b, (List.range m).map zs), by rw [List.length_map, List.length_range]; omega, fn0_ok (seq_set e3 (seq_set e4 (seq_rt (if_t t1 (ret_ok (d := gD (b, (List.range m).map zs)) ?_ ?_)))))⟩
    · unfold gD pD
      rw [← hKD]
      exact etup_ok (acons_ok rfl (acons_ok (tuple_ok lc) anil_ok)) (by show 2 ≤ 16777216; decide)
    · exact imm_pair0 (b, (List.range m).map zs)
  | false =>
    rw [et] at t1
    have ne : 0 < L.length := by
      rw [Bool.or_eq_false_iff] at et
      cases L with
      | nil => cases et.2
      | cons _ _ => exact Nat.succ_pos _
    obtain ⟨i, hi, i1⟩ := drawM c 4 ne
    obtain ⟨r1, r2, r3⟩ := hL.ok L[i] (List.getElem_mem i1)
    have lr : 0 < L[i].length := List.length_pos_iff.mpr r1
    have ln2 : ∀ ρ : Store, eVar 2 ρ = some LD → eCall gLen (aCons (eVar 2) aNil) ρ = some (.int L.length) := fun ρ e => call_ok (acons_ok e anil_ok) ll
    have ln7 : ∀ (p : List Int) (ρ : Store), eVar 7 ρ = some (.lst (p.map .int)) → eCall gLen (aCons (eVar 7) aNil) ρ = some (.int p.length) := fun p ρ e => call_ok (acons_ok e anil_ok) (by rw [s_lenL, List.length_map])
    have e6 : e2 gMod (eCall (callF 2 [] sem__law_draw) (aCons (eVar 0) (aCons (eC (.int 4)) aNil))) (eCall gLen (aCons (eVar 2) aNil)) [some (.int c), some (.int n), some LD, some KD, some (.int s), none, none, none, none] = some (.int (i : Nat)) := (e2_ok (drw rfl rfl (by decide) (by decide)) (ln2 _ rfl) (mod_ok (by omega))).trans (by rw [hi])
    have e7 : eCall gList (aCons (e2 gIx (eVar 2) (eVar 6)) aNil) [some (.int c), some (.int n), some LD, some KD, some (.int s), none, some (.int (i : Nat)), none, none] = some (.lst ((ci L[i]).map .int)) := call_ok (acons_ok (e2_ok rfl rfl (xb i i1)) anil_ok) rfl
    obtain ⟨S, hS⟩ : ∃ S : List Int → Option D → Store, S = fun p a => [some (.int c), some (.int n), some LD, some KD, some (.int s), none, some (.int (i : Nat)), some (.lst (p.map .int)), a] := ⟨_, rfl⟩
    have Sx : ∀ p a, S p a = [some (.int c), some (.int n), some LD, some KD, some (.int s), none, some (.int (i : Nat)), some (.lst (p.map .int)), a] := fun p a => by rw [hS]
    have st2 : ∀ p : List Int, 0 < p.length → p.length ≤ 8 → ∃ q : List Int, 0 < q.length ∧ q.length ≤ 8 ∧ if__law_pair_2 (S p none) = some (.nx (S q none)) := fun p p0 p1 => by
      simp only [Sx]
      by_cases e : s = 1
      · obtain ⟨k, hk, k1⟩ := drawM c 5 p0
        refine ⟨p.take (1 + k), by rw [List.length_take]; omega, by rw [List.length_take]; omega, if_t (tbo_ok (e2_ok rfl rfl (s_eq.trans (by rw [decide_eq_true e])))) ((set_ok (d := .lst ((p.take (1 + k)).map .int)) (clr_ok ?_ imm_il)).trans rfl)⟩
        have eo : oSome (e2 gAdd (eC (.int 1)) (e2 gMod (eCall (callF 2 [] sem__law_draw) (aCons (eVar 0) (aCons (eC (.int 5)) aNil))) (eCall gLen (aCons (eVar 7) aNil)))) [some (.int c), some (.int n), some LD, some KD, some (.int s), none, some (.int (i : Nat)), some (.lst (p.map .int)), none] = some (some ((1 + k : Nat) : Int)) := by
          rw [s_oSome, e2_ok rfl (e2_ok (drw rfl rfl (by decide) (by decide)) (ln7 p _ rfl) ((mod_ok (by omega)).trans (by rw [hk]))) s_add]
          show some (some ((1 : Int) + (k : Int))) = _
          rw [show (1 : Int) + (k : Int) = ((1 + k : Nat) : Int) by omega]
        rw [s_eSl, s_oNone, eo]
        show gSlL (.lst (p.map .int)) none (some ((1 + k : Nat) : Int)) = _
        rw [cutL, cut_hi (k := 1 + k) rfl]
      · exact ⟨p, p0, p1, if_f (tbo_ok (e2_ok rfl rfl (s_eq.trans (by rw [decide_eq_false e])))) rfl⟩
    have st3 : ∀ p : List Int, 0 < p.length → p.length ≤ 8 → ∃ q : List Int, 0 < q.length ∧ q.length ≤ 8 ∧ if__law_pair_3 (S p none) = some (.nx (S q none)) := fun p p0 p1 => by
      simp only [Sx]
      by_cases e : s = 2
      · exact ⟨p.reverse, by rw [List.length_reverse]; exact p0, by rw [List.length_reverse]; exact p1, if_t (tbo_ok (e2_ok rfl rfl (s_eq.trans (by rw [decide_eq_true e])))) ((set_ok (d := .lst (p.reverse.map .int)) (clr_ok ((lrev_ok rfl).trans (by rw [List.map_reverse])) imm_il)).trans rfl)⟩
      · exact ⟨p, p0, p1, if_f (tbo_ok (e2_ok rfl rfl (s_eq.trans (by rw [decide_eq_false e])))) rfl⟩
    have st4 : ∀ p : List Int, 0 < p.length → p.length ≤ 8 → ∃ q : List Int, 0 < q.length ∧ q.length ≤ 9 ∧ if__law_pair_4 (S p none) = some (.nx (S q none)) := fun p p0 p1 => by
      simp only [Sx]
      by_cases e : s = 3
      · have hm : (i + 1) % L.length < L.length := Nat.mod_lt _ ne
        have xm : e2 gIx (eVar 2) (e2 gMod (e2 gAdd (eVar 6) (eC (.int 1))) (eCall gLen (aCons (eVar 2) aNil))) [some (.int c), some (.int n), some LD, some KD, some (.int s), none, some (.int (i : Nat)), some (.lst (p.map .int)), none] = some (.lst ((ci L[(i + 1) % L.length]).map .int)) := by
          refine e2_ok rfl (e2_ok (e2_ok rfl rfl s_add) (ln2 _ rfl) (mod_ok (by omega))) ?_
          rw [show ((i : Nat) : Int) + 1 = ((i + 1 : Nat) : Int) by omega, ← Int.natCast_emod]
          exact xb _ hm
        obtain ⟨q, hq⟩ : ∃ q, q = (ci L[(i + 1) % L.length]).take 1 := ⟨_, rfl⟩
        have q1 : q.length ≤ 1 := by rw [hq, List.length_take]; omega
        have es : eSl gSlL (e2 gIx (eVar 2) (e2 gMod (e2 gAdd (eVar 6) (eC (.int 1))) (eCall gLen (aCons (eVar 2) aNil)))) oNone (oSome (eC (.int 1))) [some (.int c), some (.int n), some LD, some KD, some (.int s), none, some (.int (i : Nat)), some (.lst (p.map .int)), none] = some (.lst (q.map .int)) := by
          rw [s_eSl, s_oNone, s_oSome, xm]
          show gSlL (.lst ((ci L[(i + 1) % L.length]).map .int)) none (some 1) = _
          rw [cutL, cut_hi (k := 1) (i := 1) (by decide), hq]
        exact ⟨p ++ q, by rw [List.length_append]; omega, by rw [List.length_append]; omega, if_t (tbo_ok (e2_ok rfl rfl (s_eq.trans (by rw [decide_eq_true e])))) ((set_ok (d := .lst ((p ++ q).map .int)) (clr_ok (e2_ok rfl es (catL (by omega))) imm_il)).trans rfl)⟩
      · exact ⟨p, p0, by omega, if_f (tbo_ok (e2_ok rfl rfl (s_eq.trans (by rw [decide_eq_false e])))) rfl⟩
    have st5 : ∀ p : List Int, 0 < p.length → p.length ≤ 9 → ∃ q : List Int, 0 < q.length ∧ q.length ≤ 9 ∧ if__law_pair_5 (S p none) = some (.nx (S q none)) := fun p p0 p1 => by
      simp only [Sx]
      have t := bAnd_ok (ρ := [some (.int c), some (.int n), some LD, some KD, some (.int s), none, some (.int (i : Nat)), some (.lst (p.map .int)), none]) (p := tBo (e2 (gEq false) (eVar 3) (eC (.str "circle")))) (q := tBo (e2 (gEq true) (eVar 4) (eC (.int 4)))) (a := !b) (b := !decide (s = 4)) (tbo_ok (e2_ok rfl rfl k2)) fun _ => tbo_ok (e2_ok rfl rfl s_ne)
      cases e : (!b && !decide (s = 4)) with
      | true =>
        rw [e] at t
        have pl := (sortI_perm p).length_eq
        exact ⟨sortI p, by omega, by omega, if_t t ((set_ok (d := .lst ((sortI p).map .int)) (clr_ok (call_ok (ds := [.lst (p.map .int)]) rfl (by unfold gSorted; dsimp only; rw [ints_map])) imm_il)).trans rfl)⟩
      | false =>
        rw [e] at t
        exact ⟨p, p0, p1, if_f t rfl⟩
    have st6 : ∀ (p : List Int) (k : Nat), 0 < p.length → p.length ≤ 9 → k < p.length → ∃ q : List Int, q.length = p.length ∧ if__law_pair_6 (S p (some (.int (k : Nat)))) = some (.nx (S q (some (.int (k : Nat))))) := fun p k p0 p1 hk => by
      simp only [Sx]
      have t : tBo (e2 (gEq false) (eVar 3) (eC (.str "ring"))) [some (.int c), some (.int n), some LD, some KD, some (.int s), none, some (.int (i : Nat)), some (.lst (p.map .int)), some (.int (k : Nat))] = some b := tbo_ok (e2_ok rfl rfl k1)
      cases b with
      | true =>
        have x1 : eSl gSlL (eVar 7) (oSome (eVar 8)) oNone [some (.int c), some (.int n), some LD, some KD, some (.int s), none, some (.int (i : Nat)), some (.lst (p.map .int)), some (.int (k : Nat))] = some (.lst ((p.drop k).map .int)) := by
          rw [s_eSl, s_oNone, s_oSome]
          show gSlL (.lst (p.map .int)) (some (k : Int)) none = _
          rw [cutL, cut_lo (k := k) rfl]
        have x2 : eSl gSlL (eVar 7) oNone (oSome (eVar 8)) [some (.int c), some (.int n), some LD, some KD, some (.int s), none, some (.int (i : Nat)), some (.lst (p.map .int)), some (.int (k : Nat))] = some (.lst ((p.take k).map .int)) := by
          rw [s_eSl, s_oNone, s_oSome]
          show gSlL (.lst (p.map .int)) none (some (k : Int)) = _
          rw [cutL, cut_hi (k := k) rfl]
        exact ⟨p.drop k ++ p.take k, by rw [List.length_append, List.length_drop, List.length_take]; omega, if_t t ((set_ok (d := .lst ((p.drop k ++ p.take k).map .int)) (clr_ok (e2_ok x1 x2 (catL (by rw [List.length_drop, List.length_take]; omega))) imm_il)).trans rfl)⟩
      | false => exact ⟨p, rfl, if_f t rfl⟩
    have st7 : ∀ (p : List Int) (k : Nat), p.length ≤ 9 → k < p.length → ∃ q : List Int, q.length = p.length ∧ if__law_pair_7 (S p (some (.int (k : Nat)))) = some (.nx (S q (some (.int (k : Nat))))) := fun p k p1 hk => by
      simp only [Sx]
      have t := bAnd_ok (ρ := [some (.int c), some (.int n), some LD, some KD, some (.int s), none, some (.int (i : Nat)), some (.lst (p.map .int)), some (.int (k : Nat))]) (p := tBo (e2 (gEq false) (eVar 4) (eC (.int 5)))) (q := tBo (e2 (gEq false) (e2 gMod (eCall (callF 2 [] sem__law_draw) (aCons (eVar 0) (aCons (eC (.int 7)) aNil))) (eC (.int 3))) (eC (.int 0)))) (a := decide (s = 5)) (b := decide (drawZ c 7 % 3 = 0)) (tbo_ok (e2_ok rfl rfl s_eq)) fun _ => tbo_ok (e2_ok (e2_ok (drw rfl rfl (by decide) (by decide)) rfl (mod_ok (by decide))) rfl s_eq)
      cases e : (decide (s = 5) && decide (drawZ c 7 % 3 = 0)) with
      | true =>
        rw [e] at t
        obtain ⟨z, hz⟩ := number_ok c 8 n (by decide) hn
        exact ⟨p.set k z, List.length_set, if_t t (setI_ok (j := k) (z := k) (d := .int z) (ds := p.map .int) (callF_ok (ds := [.int c, .int ((8 : Nat) : Int), .int n]) rfl rfl hz) rfl rfl ⟨rfl, by rw [List.length_map]; exact hk⟩ (by rw [List.map_set]; rfl))⟩
      | false =>
        rw [e] at t
        exact ⟨p, rfl, if_f t rfl⟩
    obtain ⟨p2, a2, b2, f2⟩ := st2 (ci L[i]) (by rw [ci_len]; exact lr) (by rw [ci_len]; exact r2)
    obtain ⟨p3, a3, b3, f3⟩ := st3 p2 a2 b2
    obtain ⟨p4, a4, b4, f4⟩ := st4 p3 a3 b3
    obtain ⟨p5, a5, b5, f5⟩ := st5 p4 a4 b4
    obtain ⟨k, hk, kl⟩ := drawM c 6 a5
    obtain ⟨p6, a6, f6⟩ := st6 p5 k a5 b5 kl
    obtain ⟨p7, a7, f7⟩ := st7 p6 k (by omega) (by omega)
    have e8 : sSet 8 (eClr 0 (e2 gMod (eCall (callF 2 [] sem__law_draw) (aCons (eVar 0) (aCons (eC (.int 6)) aNil))) (eCall gLen (aCons (eVar 7) aNil)))) (S p5 none) = some (.nx (S p5 (some (.int (k : Nat))))) := by
      simp only [Sx]
      exact (set_ok (d := .int (k : Nat)) (clr_ok ((e2_ok (drw rfl rfl (by decide) (by decide)) (ln7 p5 _ rfl) (mod_ok (by omega))).trans (by rw [hk])) s_immI)).trans rfl
    have s7 : sSet 7 (eCall gList (aCons (e2 gIx (eVar 2) (eVar 6)) aNil)) [some (.int c), some (.int n), some LD, some KD, some (.int s), none, some (.int (i : Nat)), none, none] = some (.nx (S (ci L[i]) none)) := (set_ok e7).trans (by rw [Sx]; rfl)
    have er : eTup (aCons (eVar 3) (aCons (eCall gTuple (aCons (eVar 7) aNil)) aNil)) (S p7 (some (.int (k : Nat)))) = some (gD (b, p7)) := by
      rw [Sx]
      unfold gD pD
      rw [← hKD]
      exact etup_ok (acons_ok rfl (acons_ok (tuple_ok rfl) anil_ok)) (by show 2 ≤ 16777216; decide)
    exact ⟨(b, p7), by show 0 < p7.length ∧ p7.length ≤ 20; omega, fn0_ok (seq_set e3 (seq_set e4 (seq_nx (if_f t1 rfl) (seq_set e6 (seq_nx s7 (seq_nx f2 (seq_nx f3 (seq_nx f4 (seq_nx f5 (seq_nx e8 (seq_nx f6 (seq_nx f7 (ret_ok er (imm_pair0 (b, p7)))))))))))))))⟩
/-! the law -/
theorem slL_any {ds : List D} {lo hi : Option Int} : gSlL (.lst ds) lo hi = some (.lst (cutD ds lo hi)) := by unfold gSlL; rfl
theorem due_imm (o : Option Nat) : (dueD o).immB 0 = true := by cases o <;> rfl
theorem law_true (ns : List Int) (hl : ns.length ≤ 63) : sem_law [.lst (ns.map D.int)] = some (.bl true) := by
  have c0 := cell_at ns 0 (by decide)
  have c1 := cell_at ns 1 (by decide)
  obtain ⟨f, hf⟩ : ∃ f, f = at0 ns 0 := ⟨_, rfl⟩
  obtain ⟨w, hw⟩ : ∃ w, w = at0 ns 1 := ⟨_, rfl⟩
  rw [← hf] at c0
  rw [← hw] at c1
  obtain ⟨y, my, ey⟩ := pick_mem (xs := [1, 2, 3, 4, 5, 6, 7, 8, 8, 8, 5, 6, 7, 8, 4, 0]) (n := 16) (drawZ f 0) rfl (by decide)
  have yr : ∀ y ∈ ([1, 2, 3, 4, 5, 6, 7, 8, 8, 8, 5, 6, 7, 8, 4, 0] : List Int), 0 ≤ y ∧ y ≤ 8 := by decide
  obtain ⟨n, hn, n8⟩ : ∃ n : Nat, y = n ∧ n ≤ 8 := ⟨y.toNat, by have := yr y my; omega, by have := yr y my; omega⟩
  rw [hn] at ey
  obtain ⟨cs, k1, k2⟩ := counts_ok f n n8
  obtain ⟨L, hL, b2⟩ := blocks_ok w n n8
  obtain ⟨ws0, w1, w2⟩ := web_ok w n n8 hL
  have pr := fun c => pair_ok c n n8 hL
  have rt := fun (ws : List Nat) (h : ws.length = n) (G : List Pr) (hg : ∀ g ∈ G, 0 < g.2.length ∧ g.2.length ≤ 20) (lG : G.length ≤ 61) => right (cs := cs) (ws := ws) (G := G) (by omega) (by omega) hg lG
  have du := fun (ws : List Nat) (h : ws.length = n) (G : List Pr) (hg : ∀ g ∈ G, 0 < g.2.length ∧ g.2.length ≤ 20) (lG : G.length ≤ 61) => due_ok (cs := cs) (ws := ws) (G := G) (by omega) (by omega) hg lG
  obtain ⟨SC, hSC⟩ : ∃ SC, SC = D.lst (ns.map .int) := ⟨_, rfl⟩
  obtain ⟨CS, hCS⟩ : ∃ CS, CS = D.tup (cs.map .int) := ⟨_, rfl⟩
  obtain ⟨LD, hLD⟩ : ∃ LD, LD = lsD L := ⟨_, rfl⟩
  rw [← hCS] at k2
  rw [← hLD] at b2 w2
  rw [← hSC] at c0 c1
  simp only [← hCS] at rt du
  simp only [← hLD] at pr
  rw [← hSC]
  have sl : iLst (eSl gSlL (eVar 0) (oSome (eC (.int 2))) oNone) [some SC, some (.int f), some (.int n), some CS, some LD, some (.lst ((ci ws0).map .int)), some (.lst []), none, none, none, none, none] = some ((ns.drop 2).map D.int) := by
    refine iLst_ok ?_
    rw [s_eSl, s_oNone, s_oSome]
    show gSlL SC (some 2) none = _
    rw [hSC, cutL, cut_lo (k := 2) (i := 2) (by decide)]
  obtain ⟨ρ', lf, ws, G, g1, g2, g3, a, b, c, d, rfl⟩ := forD_inv (k := D.int) (xs := ns.drop 2) (g := gSet 7) (F := lp_law_3)
    (fun _ ρ => ∃ (ws : List Nat) (G : List Pr), ws.length = n ∧ (∀ g ∈ G, 0 < g.2.length ∧ g.2.length ≤ 20) ∧ G.length ≤ 20 ∧ ∃ a b c d, ρ = [some SC, some (.int f), some (.int n), some CS, some LD, some (.lst ((ci ws).map .int)), some (.lst (G.map gD)), a, b, c, d, none])
    (fun q hq ρ p => by
      obtain ⟨ws, G, g1, g2, g3, a, b, c, d, rfl⟩ := p
      generalize (ns.drop 2)[q] = cell
      obtain ⟨kd, hkd⟩ : ∃ kd, kd = drawZ cell 0 % 8 := ⟨_, rfl⟩
      have e8 : e2 gMod (eCall (callF 2 [] sem__law_draw) (aCons (eVar 7) (aCons (eC (.int 0)) aNil))) (eC (.int 8)) [some SC, some (.int f), some (.int n), some CS, some LD, some (.lst ((ci ws).map .int)), some (.lst (G.map gD)), some (.int cell), b, c, d, none] = some (.int kd) := (e2_ok (drw rfl rfl (by decide) (by decide)) rfl (mod_ok (by decide))).trans (by rw [hkd])
      have t := bAnd_ok (ρ := [some SC, some (.int f), some (.int n), some CS, some LD, some (.lst ((ci ws).map .int)), some (.lst (G.map gD)), some (.int cell), some (.int kd), c, d, none]) (p := tBo (e2 (gEq false) (eVar 8) (eC (.int 0)))) (q := tBo (e2 gGt (eVar 2) (eC (.int 1)))) (a := decide (kd = 0)) (b := decide ((1 : Int) < n)) (tbo_ok (e2_ok rfl rfl s_eq)) fun _ => tbo_ok (e2_ok rfl rfl s_cmp)
      cases et : (decide (kd = 0) && decide ((1 : Int) < n)) with
      | true =>
        rw [et] at t
        rw [Bool.and_eq_true, decide_eq_true_eq, decide_eq_true_eq] at et
        obtain ⟨i, hi, i1⟩ := drawM cell 1 (n := n) (by omega)
        obtain ⟨m, hm, m1⟩ := drawM cell 2 (n := n - 1) (by omega)
        obtain ⟨j, hj⟩ : ∃ j, j = (i + 1 + m) % n := ⟨_, rfl⟩
        have jn : j < n := by rw [hj]; exact Nat.mod_lt _ (by omega)
        have s9 : sSet 9 (e2 gMod (eCall (callF 2 [] sem__law_draw) (aCons (eVar 7) (aCons (eC (.int 1)) aNil))) (eVar 2)) [some SC, some (.int f), some (.int n), some CS, some LD, some (.lst ((ci ws).map .int)), some (.lst (G.map gD)), some (.int cell), some (.int kd), c, d, none] = some (.nx [some SC, some (.int f), some (.int n), some CS, some LD, some (.lst ((ci ws).map .int)), some (.lst (G.map gD)), some (.int cell), some (.int kd), some (.int (i : Nat)), d, none]) :=
          set_ok (d := .int (i : Nat)) ((e2_ok (drw rfl rfl (by decide) (by decide)) rfl (mod_ok (by omega))).trans (by rw [hi]))
        have s10 : sSet 10 (e2 gMod (e2 gAdd (e2 gAdd (eVar 9) (eC (.int 1))) (e2 gMod (eCall (callF 2 [] sem__law_draw) (aCons (eVar 7) (aCons (eC (.int 2)) aNil))) (e2 gSub (eVar 2) (eC (.int 1))))) (eVar 2)) [some SC, some (.int f), some (.int n), some CS, some LD, some (.lst ((ci ws).map .int)), some (.lst (G.map gD)), some (.int cell), some (.int kd), some (.int (i : Nat)), d, none] = some (.nx [some SC, some (.int f), some (.int n), some CS, some LD, some (.lst ((ci ws).map .int)), some (.lst (G.map gD)), some (.int cell), some (.int kd), some (.int (i : Nat)), some (.int (j : Nat)), none]) := by
          have em : e2 gMod (eCall (callF 2 [] sem__law_draw) (aCons (eVar 7) (aCons (eC (.int 2)) aNil))) (e2 gSub (eVar 2) (eC (.int 1))) [some SC, some (.int f), some (.int n), some CS, some LD, some (.lst ((ci ws).map .int)), some (.lst (G.map gD)), some (.int cell), some (.int kd), some (.int (i : Nat)), d, none] = some (.int (m : Nat)) := by
            refine (e2_ok (a := .int (drawZ cell 2)) (b := .int ((n : Int) - 1)) (drw (c := cell) (k := 2) rfl rfl (by decide) (by decide)) (e2_ok rfl rfl s_iu) (mod_ok (by omega))).trans ?_
            rw [show (n : Int) - 1 = ((n - 1 : Nat) : Int) by omega, hm]
          refine (set_ok (d := .int (j : Nat)) ((e2_ok (a := .int ((i : Int) + 1 + m)) (b := .int n) (e2_ok (a := .int ((i : Int) + 1)) (b := .int m) (e2_ok rfl rfl s_add) em s_add) rfl (mod_ok (by omega))).trans ?_)).trans rfl
          rw [hj, show (i : Int) + 1 + (m : Int) = ((i + 1 + m : Nat) : Int) by omega, ← Int.natCast_emod]
        obtain ⟨w1, hw1⟩ : ∃ w1, w1 = ws.getD i 0 ^^^ 2 ^ j := ⟨_, rfl⟩
        have e5 : sSetI 5 (eClr 0 (e2 gXor (e2 gIx (eVar 5) (eVar 9)) (e2 gShl (eC (.int 1)) (eVar 10)))) (eVar 9) [some SC, some (.int f), some (.int n), some CS, some LD, some (.lst ((ci ws).map .int)), some (.lst (G.map gD)), some (.int cell), some (.int kd), some (.int (i : Nat)), some (.int (j : Nat)), none] = some (.nx [some SC, some (.int f), some (.int n), some CS, some LD, some (.lst ((ci (ws.set i w1)).map .int)), some (.lst (G.map gD)), some (.int cell), some (.int kd), some (.int (i : Nat)), some (.int (j : Nat)), none]) :=
          setI_ok (j := i) (z := i) (d := .int (w1 : Nat)) (ds := (ci ws).map .int) (clr_ok (e2_ok (e2_ok rfl rfl (cwL (by omega))) (e2_ok rfl rfl (sh1 j (by omega))) (s_iu.trans (by rw [xor_cast, hw1]))) s_immI) rfl rfl ⟨rfl, by rw [List.length_map, ci_len]; omega⟩ (by rw [← ci_set]; rfl)
        exact ⟨_, _, rfl, .inl (seq_set (d := .int kd) e8 (if_t t (seq_nx s9 (seq_nx s10 e5)))), ws.set i w1, G, by rw [List.length_set]; exact g1, g2, g3, _, _, _, _, rfl⟩
      | false =>
        rw [et] at t
        have tg : tBo (e2 gLt (eCall gLen (aCons (eVar 6) aNil)) (eC (.int 20))) [some SC, some (.int f), some (.int n), some CS, some LD, some (.lst ((ci ws).map .int)), some (.lst (G.map gD)), some (.int cell), some (.int kd), c, d, none] = some (decide ((G.length : Int) < 20)) := tbo_ok (e2_ok (call_ok (acons_ok rfl anil_ok) (by rw [s_lenL, List.length_map])) rfl s_cmp)
        cases eg : decide ((G.length : Int) < 20) with
        | true =>
          rw [eg] at tg
          rw [decide_eq_true_eq] at eg
          obtain ⟨g, gl, ge⟩ := pr cell
          refine ⟨_, _, rfl, .inl (seq_set (d := .int kd) e8 (if_f t (if_t tg (append_ok (d := gD g) (ds := G.map gD) rfl (callF_ok (ds := [.int cell, .int n, LD]) rfl rfl ge) (by rw [List.length_map]; omega))))), ws, G ++ [g], g1, fun x m => ?_, by rw [List.length_append]; show G.length + 1 ≤ 20; omega, _, _, _, _, by rw [List.map_append]; rfl⟩
          rcases List.mem_append.mp m with m | m
          · exact g2 x m
          · rw [List.mem_singleton.mp m]; exact gl
        | false =>
          rw [eg] at tg
          exact ⟨_, _, rfl, .inl (seq_set (d := .int kd) e8 (if_f t (if_f tg rfl))), ws, G, g1, g2, g3, _, _, _, _, rfl⟩)
    (ρ := [some SC, some (.int f), some (.int n), some CS, some LD, some (.lst ((ci ws0).map .int)), some (.lst []), none, none, none, none, none]) ⟨ws0, [], w1, fun _ m => (nomatch m), Nat.zero_le _, _, _, _, _, rfl⟩
  have hdu := du ws g1 G g2 (by omega)
  have hrt := rt ws g1 G g2 (by omega)
  generalize fault cs ws [] 0 G = o at hdu
  have e11 : eClr 0 (eCall (callF 3 [] sem__law_due) (aCons (eVar 3) (aCons (eVar 5) (aCons (eVar 6) aNil)))) [some SC, some (.int f), some (.int n), some CS, some LD, some (.lst ((ci ws).map .int)), some (.lst (G.map gD)), a, b, c, d, none] = some (dueD o) := clr_ok (callF_ok (ds := [CS, .lst ((ci ws).map .int), .lst (G.map gD)]) rfl rfl hdu) (due_imm o)
  have e4 : if_law_4 [some SC, some (.int f), some (.int n), some CS, some LD, some (.lst ((ci ws).map .int)), some (.lst (G.map gD)), a, b, c, d, some (dueD o)] = some (.nx [some SC, some (.int f), some (.int n), some CS, some LD, some (.lst ((ci ws).map .int)), some (.lst (G.map gD)), a, b, c, d, some (dueD o)]) := by
    cases o with
    | none => exact if_f (bAnd_ok (a := false) (b := false) (tbo_ok (e2_ok (a := .non) rfl rfl s_isN)) fun z => by cases z) rfl
    | some j =>
      have hj := rt ws g1 (G.take j) (fun x m => g2 x (List.mem_of_mem_take m)) (by rw [List.length_take]; omega)
      refine if_f (bAnd_ok (a := true) (b := false) (tbo_ok (e2_ok (a := .int (j : Nat)) rfl rfl s_isN)) fun _ => bNot_ok (a := true) (tbo_ok (callF_ok (ds := [CS, .lst ((ci ws).map .int), .lst ((G.take j).map gD)]) (acons_ok rfl (acons_ok rfl (acons_ok ?_ anil_ok))) rfl hj))) rfl
      rw [s_eSl, s_oNone, s_oSome]
      show gSlL (.lst (G.map gD)) none (some (j : Int)) = _
      rw [slL_any, cut_hi (k := j) rfl, List.map_take]
  exact fn0_ok (seq_set (d := .int f) (callF_ok (ds := [SC, .int ((0 : Nat) : Int)]) rfl rfl c0) (seq_set (d := .int n) (e2_ok (a := .lst ([1, 2, 3, 4, 5, 6, 7, 8, 8, 8, 5, 6, 7, 8, 4, 0].map .int)) (by simp (disch := omega) only [s_e2, s_eCall, s_aCons, s_aNil, s_v0, s_vs, s_eC, s_callF, s_eLst, s_eTup, s_add, s_iu, s_cmp, s_tBo, s_bNot, s_bAnd, s_bOr, s_gSet, s_lenL, s_lenT, s_isN, s_nonI, s_nonN, s_eq, s_ne, List.set_cons_zero, List.set_cons_succ, List.append_nil, List.nil_append, List.cons_append, List.map_cons, List.map_nil, List.length_cons, List.length_nil, List.reduceReplicate, Nat.zero_add, Nat.reduceAdd, Nat.reduceSub, Nat.reduceLeDiff, Nat.zero_le, s_isI, t_ii, t_bi, t_ib, t_bb, t_tt, t_ll, t_ss, if_true, Int.zero_add, Bool.not_true, Bool.not_false]) (e2_ok (drw rfl rfl (by decide) (by decide)) rfl (mod_ok (by decide))) ey) (seq_set (d := CS) (callF_ok (ds := [.int f, .int n]) rfl rfl k2) (seq_set (d := LD) (callF_ok (ds := [.int w, .int n]) (acons_ok (callF_ok (ds := [SC, .int ((1 : Nat) : Int)]) rfl rfl c1) (acons_ok rfl anil_ok)) rfl b2) (seq_set (d := .lst ((ci ws0).map .int)) (callF_ok (ds := [.int w, .int n, LD]) (acons_ok (callF_ok (ds := [SC, .int ((1 : Nat) : Int)]) rfl rfl c1) (acons_ok rfl (acons_ok rfl anil_ok))) rfl w2) (seq_set (d := .lst []) (elst_ok anil_ok (Nat.zero_le _)) (seq_nx (for_ok sl lf) (seq_set e11 (seq_nx e4 (ret_ok (d := .bl true) (callF_ok (ds := [CS, .lst ((ci ws).map .int), .lst (G.map gD)]) rfl rfl hrt) rfl))))))))))
end K25

set_option maxHeartbeats 4000000
namespace K25
open PySem PySem.Spec L2 VL
open PyProof.Rows hiding St
def topS (i : Nat) : Stmt := PySem.Challenge.pw_hatsight_k25_group_fault.main.body.getD i (.Pass ⟨0, 0, 0, 0⟩)
structure Bf (mg : Str → Option Value) : Prop where
  f_bool : mg "bool" = none
  f_enumerate : mg "enumerate" = none
  f_int : mg "int" = none
  f_isinstance : mg "isinstance" = none
  f_len : mg "len" = none
  f_list : mg "list" = none
  f_max : mg "max" = none
  f_range : mg "range" = none
  f_reversed : mg "reversed" = none
  f_set : mg "set" = none
  f_sorted : mg "sorted" = none
  f_tuple : mg "tuple" = none
abbrev st_sees : Stmt := topS 1
abbrev sco_sees : Scope := defScope st_sees
abbrev N_sees : List Str := ["web", "one", "other"]
theorem fs_sees : FnScope N_sees ["web", "one", "other"] sco_sees := ⟨rfl, rfl, rfl, by decide +kernel, rfl, by decide +kernel, by decide +kernel⟩
theorem ok_sees {P : Program} {w : World} {K : PySem.W.Frag} {mg : Str → Option Value} {base : Heap} (bf : Bf mg) {f : Addr} {fd : FuncData} (F : FunD K "sees" "sees" (defArgs st_sees) (defBody st_sees) sco_sees [] [] f fd) (gf : mg "sees" = some (.ref f)) :
    Cal P w K mg base 1 "sees" 3 0 sem_sees [] [] := by
  refine cal_mk (N := N_sees) (k := 0) (ps := ["web", "one", "other"]) (F := body_sees) F gf fs_sees (fun _ _ _ _ _ _ us hl => match us, hl with | [_, _, _], _ => rfl) fun cdv A outer s H E hr => ?_
  have nd := fs_sees.nd
  exact ⟨_, List.replicate 3 0, [], (lv_one (s_ret (ev_cmp (xop_eq (K := K) hr.units) o2_eq (ev_op op_and o2_Iu (ev_op op_shr o2_shr (xev_ix (K := K) (vv 0) (vv 1) (fun _ _ => rfl)) (vv 2)) ev_int) ev_int (nomark _))))⟩
abbrev st_is_circle : Stmt := topS 2
abbrev sco_is_circle : Scope := defScope st_is_circle
abbrev N_is_circle : List Str := ["web", "people", "one", "other"]
theorem fs_is_circle : FnScope N_is_circle ["web", "people"] sco_is_circle := ⟨rfl, rfl, rfl, by decide +kernel, rfl, by decide +kernel, by decide +kernel⟩
theorem ok_is_circle {P : Program} {w : World} {K : PySem.W.Frag} {mg : Str → Option Value} {base : Heap} (bf : Bf mg) {f : Addr} {fd : FuncData} (F : FunD K "is_circle" "is_circle" (defArgs st_is_circle) (defBody st_is_circle) sco_is_circle [] [] f fd) (gf : mg "is_circle" = some (.ref f)) (c_sees : Cal P w K mg base 1 "sees" 3 0 sem_sees [] []) :
    Cal P w K mg base 2 "is_circle" 2 0 sem_is_circle [] [] := by
  refine cal_mk (N := N_is_circle) (k := 1) (ps := ["web", "people"]) (F := body_is_circle) F gf fs_is_circle (fun _ _ _ _ _ _ us hl => match us, hl with | [_, _], _ => rfl) fun cdv A outer s H E hr => ?_
  have nd := fs_is_circle.nd
  exact ⟨_, List.replicate 4 0, [], (lv_cons (sv_for PassesOwn.never rfl (xiv_tup (K := K) (vv 1)) (g_name 2 nd) (lv_one (sv_for PassesOwn.never rfl (xiv_tup (K := K) (vv 1)) (g_name 3 nd) (lv_one (sv_if (wv_and (tv_cmp (xop_ne (K := K) hr.units) o2_ne (vv 2) (vv 3) (nomark _)) (wv_and1 (tv_not (tv_val (xev_cal c_sees hr (by decide) (by rfl) (av_cons (vv 0) (av_cons (vv 2) (av_cons (vv 3) av_nil)))))))).tv (lv_one (s_ret ev_bl)) lv_nil))))) (lv_one (s_ret ev_bl)))⟩
abbrev st_is_ring : Stmt := topS 3
abbrev sco_is_ring : Scope := defScope st_is_ring
abbrev N_is_ring : List Str := ["web", "people", "at"]
theorem fs_is_ring : FnScope N_is_ring ["web", "people"] sco_is_ring := ⟨rfl, rfl, rfl, by decide +kernel, rfl, by decide +kernel, by decide +kernel⟩
theorem ok_is_ring {P : Program} {w : World} {K : PySem.W.Frag} {mg : Str → Option Value} {base : Heap} (bf : Bf mg) {f : Addr} {fd : FuncData} (F : FunD K "is_ring" "is_ring" (defArgs st_is_ring) (defBody st_is_ring) sco_is_ring [] [] f fd) (gf : mg "is_ring" = some (.ref f)) (c_sees : Cal P w K mg base 1 "sees" 3 0 sem_sees [] []) :
    Cal P w K mg base 2 "is_ring" 2 0 sem_is_ring [] [] := by
  refine cal_mk (N := N_is_ring) (k := 1) (ps := ["web", "people"]) (F := body_is_ring) F gf fs_is_ring (fun _ _ _ _ _ _ us hl => match us, hl with | [_, _], _ => rfl) fun cdv A outer s H E hr => ?_
  have nd := fs_is_ring.nd
  exact ⟨_, List.replicate 3 0, [], (lv_cons (sv_if (wv_or (tv_cmp op_lt o2_cmp (ev_callB (xc_len (K := K)) oa_len (by rfl) bf.f_len PySem.boot_len (av_cons (vv 1) av_nil)) ev_int (nomark _)) (wv_or1 (tv_cmp op_lt o2_cmp (xev_lenSet (K := K) rfl (by rfl) bf.f_len (by rfl) bf.f_set (vv 1)) (ev_callB (xc_len (K := K)) oa_len (by rfl) bf.f_len PySem.boot_len (av_cons (vv 1) av_nil)) (nomark _)))).tv (lv_one (s_ret ev_bl)) lv_nil) (lv_cons (sv_for PassesOwn.never rfl (iv_r1 (by rfl) bf.f_range (av_cons (ev_callB (xc_len (K := K)) oa_len (by rfl) bf.f_len PySem.boot_len (av_cons (vv 1) av_nil)) av_nil)) (g_name 2 nd) (lv_one (sv_if (tv_not (tv_val (xev_cal c_sees hr (by decide) (by rfl) (av_cons (vv 0) (av_cons (xev_ix (K := K) (vv 1) (ev_op op_sub o2_Iu (vv 2) ev_int) (fun _ _ => rfl)) (av_cons (xev_ix (K := K) (vv 1) (vv 2) (fun _ _ => rfl)) av_nil)))))) (lv_one (s_ret ev_bl)) lv_nil))) (lv_one (s_ret ev_bl))))⟩
abbrev st_is_group : Stmt := topS 5
abbrev sco_is_group : Scope := defScope st_is_group
abbrev N_is_group : List Str := ["counts", "web", "kind", "people", "i"]
theorem fs_is_group : FnScope N_is_group ["counts", "web", "kind", "people"] sco_is_group := ⟨rfl, rfl, rfl, by decide +kernel, rfl, by decide +kernel, by decide +kernel⟩
theorem ok_is_group {P : Program} {w : World} {K : PySem.W.Frag} {mg : Str → Option Value} {base : Heap} (bf : Bf mg) {f : Addr} {fd : FuncData} (F : FunD K "is_group" "is_group" (defArgs st_is_group) (defBody st_is_group) sco_is_group [] [] f fd) (gf : mg "is_group" = some (.ref f)) (c_is_ring : Cal P w K mg base 2 "is_ring" 2 0 sem_is_ring [] []) (c_is_circle : Cal P w K mg base 2 "is_circle" 2 0 sem_is_circle [] []) :
    Cal P w K mg base 3 "is_group" 4 0 sem_is_group [] [] := by
  refine cal_mk (N := N_is_group) (k := 2) (ps := ["counts", "web", "kind", "people"]) (F := body_is_group) F gf fs_is_group (fun _ _ _ _ _ _ us hl => match us, hl with | [_, _, _, _], _ => rfl) fun cdv A outer s H E hr => ?_
  have nd := fs_is_group.nd
  exact ⟨_, List.replicate 5 0, [], (lv_cons (sv_for PassesOwn.never rfl (xiv_tup (K := K) (vv 3)) (g_name 4 nd) (lv_one (sv_if (wv_or (tv_cmp op_lt o2_cmp (vv 4) ev_int (nomark _)) (wv_or1 (tv_cmp op_ge o2_cmp (vv 4) (ev_callB (xc_len (K := K)) oa_len (by rfl) bf.f_len PySem.boot_len (av_cons (vv 0) av_nil)) (nomark _)))).tv (lv_one (s_ret ev_bl)) lv_nil))) (lv_cons (sv_if (tv_cmp (xop_eq (K := K) hr.units) o2_eq (vv 2) ev_str (nomark _)) (lv_one (s_ret (ev_and (xev_cal c_is_ring hr (by decide) (by rfl) (av_cons (vv 1) (av_cons (vv 3) av_nil))) (ev_one (ev_cmp (xop_eq (K := K) hr.units) o2_eq (ev_lc (own := [("i", 4)]) rfl nd (xiv_tup (K := K) (vv 3)) (blkOk_by (N := N_is_group) (sc := sco_is_group) (by decide +kernel)) (fun _ _ _ _ _ => (g_name 4 nd)) (fun _ _ _ _ _ => (tsv_one (tv_cmp (xop_ne (K := K) hr.units) o2_ne (xev_ix (K := K) (vv 0) (vv 4) (fun _ _ => rfl)) ev_int (nomark _)))) (fun _ _ _ _ _ => (vv 4)) (by decide) (by decide)) (ev_lst (k := 0) av_nil) (nomark _)))))) lv_nil) (lv_one (s_ret (ev_and (ev_cmp (xop_eq (K := K) hr.units) o2_eq (ev_callTy (xc_list (K := K)) oa_list (by rfl) bf.f_list (by decide +kernel) (av_cons (vv 3) av_nil)) (xev_sortedSet (K := K) rfl (by rfl) bf.f_sorted (by rfl) bf.f_set (vv 3)) (nomark _)) (ev_one (xev_cal c_is_circle hr (by decide) (by rfl) (av_cons (vv 1) (av_cons (vv 3) av_nil)))))))))⟩
abbrev st_group_fault : Stmt := topS 6
abbrev sco_group_fault : Scope := defScope st_group_fault
abbrev N_group_fault : List Str := ["counts", "web", "groups", "gone", "place", "kind", "people", "i"]
theorem fs_group_fault : FnScope N_group_fault ["counts", "web", "groups"] sco_group_fault := ⟨rfl, rfl, rfl, by decide +kernel, rfl, by decide +kernel, by decide +kernel⟩
theorem ok_group_fault {P : Program} {w : World} {K : PySem.W.Frag} {mg : Str → Option Value} {base : Heap} (bf : Bf mg) {f : Addr} {fd : FuncData} (F : FunD K "group_fault" "group_fault" (defArgs st_group_fault) (defBody st_group_fault) sco_group_fault [] [] f fd) (gf : mg "group_fault" = some (.ref f)) (c_is_group : Cal P w K mg base 3 "is_group" 4 0 sem_is_group [] []) :
    Cal P w K mg base 4 "group_fault" 3 0 sem_group_fault [] [] := by
  refine cal_mk (N := N_group_fault) (k := 3) (ps := ["counts", "web", "groups"]) (F := body_group_fault) F gf fs_group_fault (fun _ _ _ _ _ _ us hl => match us, hl with | [_, _, _], _ => rfl) fun cdv A outer s H E hr => ?_
  have nd := fs_group_fault.nd
  exact ⟨_, List.replicate 8 0, [], (lv_cons (s_set 3 ev_dct0 nd) (lv_cons (sv_for PassesOwn.never rfl (xiv_enumT (K := K) (by rfl) bf.f_enumerate (vv 2)) (g_nest (K := K) 4 5 6 nd) (lv_cons (sv_if (.lendIn 3 (wv_or (tv_not (tv_val (xev_cal c_is_group hr (by decide) (by rfl) (av_cons (vv 0) (av_cons (vv 1) (av_cons (vv 5) (av_cons (vv 6) av_nil))))))) (wv_or1 (tv_cmp (xop_ne (K := K) hr.units) o2_ne (ev_lc (own := [("i", 7)]) rfl nd (xiv_tup (K := K) (vv 6)) (blkOk_by (N := N_group_fault) (sc := sco_group_fault) (by decide +kernel)) (fun _ _ _ _ _ => (g_name 7 nd)) (fun _ _ _ _ _ => (tsv_one (tv_din hr.units (vv 7) (vv 3)))) (fun _ _ _ _ _ => (vv 7)) (by decide) (by decide)) (ev_lst (k := 0) av_nil) (nomark _)))).tv) (lv_one (s_ret (vv 4))) lv_nil) (lv_one (sv_for PassesOwn.never rfl (xiv_tup (K := K) (vv 6)) (g_name 7 nd) (lv_one (s_setd 3 hr.units ev_bl (vv 7))))))) (lv_one (s_ret ev_non))))⟩
abbrev st__law_cell_at : Stmt := topS 8
abbrev sco__law_cell_at : Scope := defScope st__law_cell_at
abbrev N__law_cell_at : List Str := ["script", "k"]
theorem fs__law_cell_at : FnScope N__law_cell_at ["script", "k"] sco__law_cell_at := ⟨rfl, rfl, rfl, by decide +kernel, rfl, by decide +kernel, by decide +kernel⟩
theorem ok__law_cell_at {P : Program} {w : World} {K : PySem.W.Frag} {mg : Str → Option Value} {base : Heap} (bf : Bf mg) {f : Addr} {fd : FuncData} (F : FunD K "_law_cell_at" "_law_cell_at" (defArgs st__law_cell_at) (defBody st__law_cell_at) sco__law_cell_at [] [] f fd) (gf : mg "_law_cell_at" = some (.ref f)) :
    Cal P w K mg base 1 "_law_cell_at" 2 0 sem__law_cell_at [] [] := by
  refine cal_mk (N := N__law_cell_at) (k := 0) (ps := ["script", "k"]) (F := body__law_cell_at) F gf fs__law_cell_at (fun _ _ _ _ _ _ us hl => match us, hl with | [_, _], _ => rfl) fun cdv A outer s H E hr => ?_
  have nd := fs__law_cell_at.nd
  exact ⟨_, List.replicate 2 0, [], (lv_cons (sv_if (tv_cmp op_lt o2_cmp (vv 1) (ev_callB (xc_len (K := K)) oa_len (by rfl) bf.f_len PySem.boot_len (av_cons (vv 0) av_nil)) (nomark _)) (lv_one (s_ret (xev_ix (K := K) (vv 0) (vv 1) (fun _ _ => rfl)))) lv_nil) (lv_one (s_ret ev_int)))⟩
abbrev st__law_draw : Stmt := topS 9
abbrev sco__law_draw : Scope := defScope st__law_draw
abbrev N__law_draw : List Str := ["cell", "k", "number"]
theorem fs__law_draw : FnScope N__law_draw ["cell", "k"] sco__law_draw := ⟨rfl, rfl, rfl, by decide +kernel, rfl, by decide +kernel, by decide +kernel⟩
theorem ok__law_draw {P : Program} {w : World} {K : PySem.W.Frag} {mg : Str → Option Value} {base : Heap} (bf : Bf mg) {f : Addr} {fd : FuncData} (F : FunD K "_law_draw" "_law_draw" (defArgs st__law_draw) (defBody st__law_draw) sco__law_draw [] [] f fd) (gf : mg "_law_draw" = some (.ref f)) :
    Cal P w K mg base 1 "_law_draw" 2 0 sem__law_draw [] [] := by
  refine cal_mk (N := N__law_draw) (k := 0) (ps := ["cell", "k"]) (F := body__law_draw) F gf fs__law_draw (fun _ _ _ _ _ _ us hl => match us, hl with | [_, _], _ => rfl) fun cdv A outer s H E hr => ?_
  have nd := fs__law_draw.nd
  exact ⟨_, List.replicate 3 0, [], (lv_cons (s_set 2 (ev_op op_mod o2_mod (ev_op (xop_addA (K := K)) o2_add (ev_op (xop_addA (K := K)) o2_add (ev_op (xop_addA (K := K)) o2_add (ev_op op_mod o2_mod (vv 0) ev_int) (ev_op op_mulW o2_mul ev_int (vv 1))) (ev_op op_mulW o2_mul (ev_op op_mulW o2_mul ev_int (vv 1)) (vv 1))) ev_int) ev_int) nd) (lv_cons (s_set 2 (ev_op op_mod o2_mod (ev_op op_mulW o2_mul (vv 2) (vv 2)) ev_int) nd) (lv_one (s_ret (ev_op op_fdivW o2_div (ev_op op_mod o2_mod (ev_op op_mulW o2_mul (vv 2) (ev_op (xop_addA (K := K)) o2_add ev_int (ev_op op_mulW o2_mul ev_int (vv 1)))) ev_int) ev_int)))))⟩
abbrev st__law_counts : Stmt := topS 10
abbrev sco__law_counts : Scope := defScope st__law_counts
abbrev N__law_counts : List Str := ["cell", "many", "counts", "k", "kind", "great"]
theorem fs__law_counts : FnScope N__law_counts ["cell", "many"] sco__law_counts := ⟨rfl, rfl, rfl, by decide +kernel, rfl, by decide +kernel, by decide +kernel⟩
theorem ok__law_counts {P : Program} {w : World} {K : PySem.W.Frag} {mg : Str → Option Value} {base : Heap} (bf : Bf mg) {f : Addr} {fd : FuncData} (F : FunD K "_law_counts" "_law_counts" (defArgs st__law_counts) (defBody st__law_counts) sco__law_counts [] [] f fd) (gf : mg "_law_counts" = some (.ref f)) (c__law_draw : Cal P w K mg base 1 "_law_draw" 2 0 sem__law_draw [] []) :
    Cal P w K mg base 2 "_law_counts" 2 0 sem__law_counts [] [] := by
  refine cal_mk (N := N__law_counts) (k := 1) (ps := ["cell", "many"]) (F := body__law_counts) F gf fs__law_counts (fun _ _ _ _ _ _ us hl => match us, hl with | [_, _], _ => rfl) fun cdv A outer s H E hr => ?_
  have nd := fs__law_counts.nd
  exact ⟨_, List.replicate 6 0, [], (lv_cons (s_set 2 (ev_lst (k := 0) av_nil) nd) (lv_cons (sv_for PassesOwn.never rfl (iv_r1 (by rfl) bf.f_range (av_cons (vv 1) av_nil)) (g_name 3 nd) (lv_cons (s_set 4 (ev_op op_mod o2_mod (xev_cal c__law_draw hr (by decide) (by rfl) (av_cons (vv 0) (av_cons (ev_op (xop_addA (K := K)) o2_add ev_int (vv 3)) av_nil))) ev_int) nd) (lv_cons (s_set 5 (ev_op (xop_addA (K := K)) o2_add (ev_op op_mulW o2_mul (xev_cal c__law_draw hr (by decide) (by rfl) (av_cons (vv 0) (av_cons (ev_op (xop_addA (K := K)) o2_add ev_int (vv 3)) av_nil))) (ev_op op_pow o2_pow ev_int ev_int)) (xev_cal c__law_draw hr (by decide) (by rfl) (av_cons (vv 0) (av_cons (ev_op (xop_addA (K := K)) o2_add ev_int (vv 3)) av_nil)))) nd) (lv_one (s_append 2 (xev_ix (K := K) (ev_lst (k := 0) (av_cons ev_int (av_cons ev_int (av_cons ev_int (av_cons ev_int (av_cons ev_int (av_cons ev_int (av_cons (ev_op (xop_addA (K := K)) o2_add ev_int (ev_op op_mod o2_mod (vv 5) ev_int)) (av_cons (ev_op (xop_addA (K := K)) o2_add ev_int (ev_op op_mod o2_mod (ev_op op_mulW o2_mul (vv 5) (ev_op op_pow o2_pow ev_int ev_int)) (ev_op op_sub o2_Iu (ev_op op_pow o2_pow ev_int ev_int) ev_int))) av_nil))))))))) (vv 4) (fun _ _ => rfl))))))) (lv_one (s_ret (.lendIn 2 (ev_callTy (xc_tuple (K := K)) oa_tuple (by rfl) bf.f_tuple (by decide +kernel) (av_cons (vv 2) av_nil)))))))⟩
abbrev st__law_blocks : Stmt := topS 11
abbrev sco__law_blocks : Scope := defScope st__law_blocks
abbrev N__law_blocks : List Str := ["cell", "many", "left", "order", "k", "blocks"]
theorem fs__law_blocks : FnScope N__law_blocks ["cell", "many"] sco__law_blocks := ⟨rfl, rfl, rfl, by decide +kernel, rfl, by decide +kernel, by decide +kernel⟩
theorem ok__law_blocks {P : Program} {w : World} {K : PySem.W.Frag} {mg : Str → Option Value} {base : Heap} (bf : Bf mg) {f : Addr} {fd : FuncData} (F : FunD K "_law_blocks" "_law_blocks" (defArgs st__law_blocks) (defBody st__law_blocks) sco__law_blocks [] [] f fd) (gf : mg "_law_blocks" = some (.ref f)) (c__law_draw : Cal P w K mg base 1 "_law_draw" 2 0 sem__law_draw [] []) :
    Cal P w K mg base 2 "_law_blocks" 2 2 sem__law_blocks [] [] := by
  refine cal_mk (N := N__law_blocks) (k := 1) (ps := ["cell", "many"]) (F := body__law_blocks) F gf fs__law_blocks (fun _ _ _ _ _ _ us hl => match us, hl with | [_, _], _ => rfl) fun cdv A outer s H E hr => ?_
  have nd := fs__law_blocks.nd
  exact ⟨_, List.replicate 6 0, [], (lv_cons (s_set 2 (ev_lrg rfl (by rfl) bf.f_list (rg_1 (by rfl) bf.f_range (vv 1))) nd) (lv_cons (s_set 3 (ev_lst (k := 0) av_nil) nd) (lv_cons (sv_for PassesOwn.never rfl (iv_r1 (by rfl) bf.f_range (av_cons (vv 1) av_nil)) (g_name 4 nd) (lv_one (s_appX 3 (xv_pop 2 (Ev.clr (.lendIn 2 (ev_op op_mod o2_mod (xev_cal c__law_draw hr (by decide) (by rfl) (av_cons (vv 0) (av_cons (ev_op (xop_addA (K := K)) o2_add ev_int (vv 4)) av_nil))) (ev_callB (xc_len (K := K)) oa_len (by rfl) bf.f_len PySem.boot_len (av_cons (vv 2) av_nil))))))))) (lv_cons (s_set 5 (ev_lst (k := 1) av_nil) nd) (lv_cons (sv_for PassesOwn.never rfl (iv_r1 (by rfl) bf.f_range (av_cons (vv 1) av_nil)) (g_name 4 nd) (lv_cons (sv_if (.lendIn 5 (wv_or (tv_cmp (xop_eq (K := K) hr.units) o2_eq (vv 5) (ev_lst (k := 0) av_nil) (nomark _)) (wv_or1 (tv_cmp (xop_eq (K := K) hr.units) o2_eq (ev_op op_mod o2_mod (xev_cal c__law_draw hr (by decide) (by rfl) (av_cons (vv 0) (av_cons (ev_op (xop_addA (K := K)) o2_add ev_int (vv 4)) av_nil))) ev_int) ev_int (nomark _)))).tv) (lv_one (s_append 5 (ev_lst (k := 0) av_nil))) lv_nil) (lv_one (s_appAt 5 (ev_un un_neg ev_int) (Ev.clr (.lendIn 3 (xev_ix (K := K) (vv 3) (vv 4) (fun _ _ => rfl)))))))) (lv_one (s_retv 5)))))))⟩
abbrev st__law_web : Stmt := topS 12
abbrev sco__law_web : Scope := defScope st__law_web
abbrev N__law_web : List Str := ["cell", "many", "blocks", "seen", "i", "b", "people", "k", "j", "then"]
theorem fs__law_web : FnScope N__law_web ["cell", "many", "blocks"] sco__law_web := ⟨rfl, rfl, rfl, by decide +kernel, rfl, by decide +kernel, by decide +kernel⟩
theorem ok__law_web {P : Program} {w : World} {K : PySem.W.Frag} {mg : Str → Option Value} {base : Heap} (bf : Bf mg) {f : Addr} {fd : FuncData} (F : FunD K "_law_web" "_law_web" (defArgs st__law_web) (defBody st__law_web) sco__law_web [] [] f fd) (gf : mg "_law_web" = some (.ref f)) (c__law_draw : Cal P w K mg base 1 "_law_draw" 2 0 sem__law_draw [] []) :
    Cal P w K mg base 2 "_law_web" 3 1 sem__law_web [] [] := by
  refine cal_mk (N := N__law_web) (k := 1) (ps := ["cell", "many", "blocks"]) (F := body__law_web) F gf fs__law_web (fun _ _ _ _ _ _ us hl => match us, hl with | [_, _, _], _ => rfl) fun cdv A outer s H E hr => ?_
  have nd := fs__law_web.nd
  exact ⟨_, List.replicate 10 0, [], (lv_cons (sv_setLc (i := 3) (own := [("i", 4)]) rfl nd rfl rfl (sw_true rfl rfl rfl (by decide +kernel)) (iv_r1 (by rfl) bf.f_range (av_cons (vv 1) av_nil)) (blkOk_by (N := N__law_web) (sc := sco__law_web) (by decide +kernel)) (fun _ _ _ _ _ => (g_name 4 nd)) (fun _ _ _ _ _ => tsv_nil) (fun _ _ _ _ _ => ev_int) (by decide) (by decide) (by decide) rfl) (lv_cons (sv_for PassesOwn.never rfl (iv_r1 (by rfl) bf.f_range (av_cons (ev_callB (xc_len (K := K)) oa_len (by rfl) bf.f_len PySem.boot_len (av_cons (vv 2) av_nil)) av_nil)) (g_name 5 nd) (lv_cons (s_set 6 (xev_ix (K := K) (vv 2) (vv 5) (fun _ _ => rfl)) nd) (lv_one (sv_for PassesOwn.never rfl (iv_r1 (by rfl) bf.f_range (av_cons (ev_callB (xc_len (K := K)) oa_len (by rfl) bf.f_len PySem.boot_len (av_cons (vv 6) av_nil)) av_nil)) (g_name 7 nd) (lv_one (sv_if (tv_cmp (xop_eq (K := K) hr.units) o2_eq (ev_op op_mod o2_mod (xev_cal c__law_draw hr (by decide) (by rfl) (av_cons (vv 0) (av_cons (ev_op (xop_addA (K := K)) o2_add ev_int (vv 5)) av_nil))) ev_int) ev_int (nomark _)) (lv_one (sv_for PassesOwn.never rfl (xiv_list (K := K) (vv 6)) (g_name 8 nd) (lv_one (sv_if (tv_cmp (xop_ne (K := K) hr.units) o2_ne (vv 8) (xev_ix (K := K) (vv 6) (vv 7) (fun _ _ => rfl)) (nomark _)) (lv_one (s_seti 3 (Ev.clr (.lendIn 3 (ev_op op_or o2_Iu (xev_ix (K := K) (vv 3) (xev_ix (K := K) (vv 6) (vv 7) (fun _ _ => rfl)) (fun _ _ => rfl)) (ev_op op_shlW o2_shl ev_int (vv 8))))) (xev_ix (K := K) (vv 6) (vv 7) (fun _ _ => rfl)))) lv_nil)))) (lv_one (sv_if (tv_cmp op_gt o2_cmp (ev_callB (xc_len (K := K)) oa_len (by rfl) bf.f_len PySem.boot_len (av_cons (vv 6) av_nil)) ev_int (nomark _)) (lv_cons (s_set 9 (xev_ix (K := K) (vv 6) (ev_op op_mod o2_mod (ev_op (xop_addA (K := K)) o2_add (vv 7) ev_int) (ev_callB (xc_len (K := K)) oa_len (by rfl) bf.f_len PySem.boot_len (av_cons (vv 6) av_nil))) (fun _ _ => rfl)) nd) (lv_one (s_seti 3 (Ev.clr (.lendIn 3 (ev_op op_or o2_Iu (xev_ix (K := K) (vv 3) (xev_ix (K := K) (vv 6) (vv 7) (fun _ _ => rfl)) (fun _ _ => rfl)) (ev_op op_shlW o2_shl ev_int (vv 9))))) (xev_ix (K := K) (vv 6) (vv 7) (fun _ _ => rfl))))) lv_nil)))))))) (lv_one (s_retv 3))))⟩
abbrev st__law_number : Stmt := topS 13
abbrev sco__law_number : Scope := defScope st__law_number
abbrev N__law_number : List Str := ["cell", "k", "many", "some"]
theorem fs__law_number : FnScope N__law_number ["cell", "k", "many"] sco__law_number := ⟨rfl, rfl, rfl, by decide +kernel, rfl, by decide +kernel, by decide +kernel⟩
theorem ok__law_number {P : Program} {w : World} {K : PySem.W.Frag} {mg : Str → Option Value} {base : Heap} (bf : Bf mg) {f : Addr} {fd : FuncData} (F : FunD K "_law_number" "_law_number" (defArgs st__law_number) (defBody st__law_number) sco__law_number [] [] f fd) (gf : mg "_law_number" = some (.ref f)) (c__law_draw : Cal P w K mg base 1 "_law_draw" 2 0 sem__law_draw [] []) :
    Cal P w K mg base 2 "_law_number" 3 0 sem__law_number [] [] := by
  refine cal_mk (N := N__law_number) (k := 1) (ps := ["cell", "k", "many"]) (F := body__law_number) F gf fs__law_number (fun _ _ _ _ _ _ us hl => match us, hl with | [_, _, _], _ => rfl) fun cdv A outer s H E hr => ?_
  have nd := fs__law_number.nd
  exact ⟨_, List.replicate 4 0, [], (lv_cons (s_set 3 ((ev_lst (k := 0) (av_cons (ev_op op_mod o2_mod (xev_cal c__law_draw hr (by decide) (by rfl) (av_cons (vv 0) (av_cons (vv 1) av_nil))) (ev_callB (call_max2 rfl) oa_max2 (by rfl) bf.f_max (by decide +kernel) (av_cons ev_int (av_cons (vv 2) av_nil)))) (av_cons (ev_op op_sub o2_Iu (ev_op op_mod o2_mod (xev_cal c__law_draw hr (by decide) (by rfl) (av_cons (vv 0) (av_cons (vv 1) av_nil))) (ev_op (xop_addA (K := K)) o2_add (vv 2) ev_int)) ev_int) av_nil)))).share nd) (lv_cons (s_set 3 (ev_op (xop_addA (K := K)) o2_add (vv 3) (ev_lst (k := 0) (av_cons (ev_op op_mod o2_mod (vv 0) (ev_op op_pow o2_pow ev_int ev_int)) (av_cons (ev_op op_sub o2_Iu ev_int (ev_op op_mod o2_mod (vv 0) (ev_op op_pow o2_pow ev_int ev_int))) av_nil)))) nd) (lv_one (s_ret (xev_ix (K := K) (vv 3) (xev_ix (K := K) (ev_lst (k := 0) (av_cons ev_int (av_cons ev_int (av_cons ev_int (av_cons ev_int (av_cons ev_int (av_cons ev_int (av_cons ev_int (av_cons ev_int av_nil))))))))) (ev_op op_mod o2_mod (xev_cal c__law_draw hr (by decide) (by rfl) (av_cons (vv 0) (av_cons (ev_op (xop_addA (K := K)) o2_add (vv 1) ev_int) av_nil))) ev_int) (fun _ _ => rfl)) (fun _ _ => rfl))))))⟩
abbrev st__law_pair : Stmt := topS 14
abbrev sco__law_pair : Scope := defScope st__law_pair
abbrev N__law_pair : List Str := ["cell", "many", "blocks", "kind", "shape", "k", "b", "people", "at"]
theorem fs__law_pair : FnScope N__law_pair ["cell", "many", "blocks"] sco__law_pair := ⟨rfl, rfl, rfl, by decide +kernel, rfl, by decide +kernel, by decide +kernel⟩
theorem ok__law_pair {P : Program} {w : World} {K : PySem.W.Frag} {mg : Str → Option Value} {base : Heap} (bf : Bf mg) {f : Addr} {fd : FuncData} (F : FunD K "_law_pair" "_law_pair" (defArgs st__law_pair) (defBody st__law_pair) sco__law_pair [] [] f fd) (gf : mg "_law_pair" = some (.ref f)) (c__law_draw : Cal P w K mg base 1 "_law_draw" 2 0 sem__law_draw [] []) (c__law_number : Cal P w K mg base 2 "_law_number" 3 0 sem__law_number [] []) :
    Cal P w K mg base 3 "_law_pair" 3 0 sem__law_pair [] [] := by
  refine cal_mk (N := N__law_pair) (k := 2) (ps := ["cell", "many", "blocks"]) (F := body__law_pair) F gf fs__law_pair (fun _ _ _ _ _ _ us hl => match us, hl with | [_, _, _], _ => rfl) fun cdv A outer s H E hr => ?_
  have nd := fs__law_pair.nd
  exact ⟨_, List.replicate 9 0, [], (lv_cons (s_set 3 (xev_ix (K := K) (ev_lst (k := 0) (av_cons ev_str (av_cons ev_str av_nil))) (ev_op op_mod o2_mod (xev_cal c__law_draw hr (by decide) (by rfl) (av_cons (vv 0) (av_cons ev_int av_nil))) ev_int) (fun _ _ => rfl)) nd) (lv_cons (s_set 4 (ev_op op_mod o2_mod (xev_cal c__law_draw hr (by decide) (by rfl) (av_cons (vv 0) (av_cons ev_int av_nil))) ev_int) nd) (lv_cons (sv_if (wv_or (tv_cmp (xop_eq (K := K) hr.units) o2_eq (vv 4) ev_int (nomark _)) (wv_or1 (tv_cmp (xop_eq (K := K) hr.units) o2_eq (vv 2) (ev_lst (k := 0) av_nil) (nomark _)))).tv (lv_one (s_ret (ev_tup (k := 0) (av_cons (vv 3) (av_cons (ev_callTy (xc_tuple (K := K)) oa_tuple (by rfl) bf.f_tuple (by decide +kernel) (av_cons ((ev_lc (own := [("k", 5)]) rfl nd (iv_r1 (by rfl) bf.f_range (av_cons (ev_op (xop_addA (K := K)) o2_add ev_int (ev_op op_mod o2_mod (xev_cal c__law_draw hr (by decide) (by rfl) (av_cons (vv 0) (av_cons ev_int av_nil))) ev_int)) av_nil)) (blkOk_by (N := N__law_pair) (sc := sco__law_pair) (by decide +kernel)) (fun _ _ _ _ _ => (g_name 5 nd)) (fun _ _ _ _ _ => tsv_nil) (fun _ _ _ _ _ => (xev_cal c__law_number hr (by decide) (by rfl) (av_cons (vv 0) (av_cons (ev_op (xop_addA (K := K)) o2_add ev_int (ev_op op_mulW o2_mul ev_int (vv 5))) (av_cons (vv 1) av_nil))))) (by decide) (by decide))).share av_nil)) av_nil))))) lv_nil) (lv_cons (s_set 6 (ev_op op_mod o2_mod (xev_cal c__law_draw hr (by decide) (by rfl) (av_cons (vv 0) (av_cons ev_int av_nil))) (ev_callB (xc_len (K := K)) oa_len (by rfl) bf.f_len PySem.boot_len (av_cons (vv 2) av_nil))) nd) (lv_cons (s_set 7 (ev_callTy (xc_list (K := K)) oa_list (by rfl) bf.f_list (by decide +kernel) (av_cons (xev_ix (K := K) (vv 2) (vv 6) (fun _ _ => rfl)) av_nil)) nd) (lv_cons (sv_if (tv_cmp (xop_eq (K := K) hr.units) o2_eq (vv 4) ev_int (nomark _)) (lv_one (s_set 7 (Ev.clr (.lendIn 7 (ev_sl (xsl_list (K := K)) os_list (vv 7) ov_none (ov_some (ev_op (xop_addA (K := K)) o2_add ev_int (ev_op op_mod o2_mod (xev_cal c__law_draw hr (by decide) (by rfl) (av_cons (vv 0) (av_cons ev_int av_nil))) (ev_callB (xc_len (K := K)) oa_len (by rfl) bf.f_len PySem.boot_len (av_cons (vv 7) av_nil)))))))) nd)) lv_nil) (lv_cons (sv_if (tv_cmp (xop_eq (K := K) hr.units) o2_eq (vv 4) ev_int (nomark _)) (lv_one (s_set 7 (Ev.clr (.lendIn 7 (xev_lrev (K := K) rfl (by rfl) bf.f_list (by rfl) bf.f_reversed (vv 7)))) nd)) lv_nil) (lv_cons (sv_if (tv_cmp (xop_eq (K := K) hr.units) o2_eq (vv 4) ev_int (nomark _)) (lv_one (s_set 7 (Ev.clr (.lendIn 7 (ev_op (xop_catS (K := K)) o2_cat (vv 7) (ev_sl (xsl_list (K := K)) os_list (xev_ix (K := K) (vv 2) (ev_op op_mod o2_mod (ev_op (xop_addA (K := K)) o2_add (vv 6) ev_int) (ev_callB (xc_len (K := K)) oa_len (by rfl) bf.f_len PySem.boot_len (av_cons (vv 2) av_nil))) (fun _ _ => rfl)) ov_none (ov_some ev_int))))) nd)) lv_nil) (lv_cons (sv_if (wv_and (tv_cmp (xop_eq (K := K) hr.units) o2_eq (vv 3) ev_str (nomark _)) (wv_and1 (tv_cmp (xop_ne (K := K) hr.units) o2_ne (vv 4) ev_int (nomark _)))).tv (lv_one (s_set 7 (Ev.clr (.lendIn 7 (ev_callB (xc_sorted (K := K)) oa_sorted (by rfl) bf.f_sorted (by decide +kernel) (av_cons (vv 7) av_nil)))) nd)) lv_nil) (lv_cons (s_set 8 (Ev.clr (.lendIn 7 (ev_op op_mod o2_mod (xev_cal c__law_draw hr (by decide) (by rfl) (av_cons (vv 0) (av_cons ev_int av_nil))) (ev_callB (xc_len (K := K)) oa_len (by rfl) bf.f_len PySem.boot_len (av_cons (vv 7) av_nil))))) nd) (lv_cons (sv_if (tv_cmp (xop_eq (K := K) hr.units) o2_eq (vv 3) ev_str (nomark _)) (lv_one (s_set 7 (Ev.clr (.lendIn 7 (ev_op (xop_catS (K := K)) o2_cat (ev_sl (xsl_list (K := K)) os_list (vv 7) (ov_some (vv 8)) ov_none) (ev_sl (xsl_list (K := K)) os_list (vv 7) ov_none (ov_some (vv 8)))))) nd)) lv_nil) (lv_cons (sv_if (wv_and (tv_cmp (xop_eq (K := K) hr.units) o2_eq (vv 4) ev_int (nomark _)) (wv_and1 (tv_cmp (xop_eq (K := K) hr.units) o2_eq (ev_op op_mod o2_mod (xev_cal c__law_draw hr (by decide) (by rfl) (av_cons (vv 0) (av_cons ev_int av_nil))) ev_int) ev_int (nomark _)))).tv (lv_one (s_seti 7 (xev_cal c__law_number hr (by decide) (by rfl) (av_cons (vv 0) (av_cons ev_int (av_cons (vv 1) av_nil)))) (vv 8))) lv_nil) (lv_one (s_ret (.lendIn 7 (ev_tup (k := 0) (av_cons (vv 3) (av_cons (ev_callTy (xc_tuple (K := K)) oa_tuple (by rfl) bf.f_tuple (by decide +kernel) (av_cons (vv 7) av_nil)) av_nil))))))))))))))))))⟩
abbrev st__law_is_group : Stmt := topS 15
abbrev sco__law_is_group : Scope := defScope st__law_is_group
abbrev N__law_is_group : List Str := ["counts", "seen", "pair", "kind", "people", "k", "i", "j"]
theorem fs__law_is_group : FnScope N__law_is_group ["counts", "seen", "pair"] sco__law_is_group := ⟨rfl, rfl, rfl, by decide +kernel, rfl, by decide +kernel, by decide +kernel⟩
theorem ok__law_is_group {P : Program} {w : World} {K : PySem.W.Frag} {mg : Str → Option Value} {base : Heap} (bf : Bf mg) {f : Addr} {fd : FuncData} (F : FunD K "_law_is_group" "_law_is_group" (defArgs st__law_is_group) (defBody st__law_is_group) sco__law_is_group [] [] f fd) (gf : mg "_law_is_group" = some (.ref f)) :
    Cal P w K mg base 1 "_law_is_group" 3 0 sem__law_is_group [] [] := by
  refine cal_mk (N := N__law_is_group) (k := 0) (ps := ["counts", "seen", "pair"]) (F := body__law_is_group) F gf fs__law_is_group (fun _ _ _ _ _ _ us hl => match us, hl with | [_, _, _], _ => rfl) fun cdv A outer s H E hr => ?_
  have nd := fs__law_is_group.nd
  exact ⟨_, List.replicate 8 0, [], (lv_cons (s_unp (vv 2) (g_two (K := K) 3 4 nd)) (lv_cons (sv_for PassesOwn.never rfl (iv_r1 (by rfl) bf.f_range (av_cons (ev_callB (xc_len (K := K)) oa_len (by rfl) bf.f_len PySem.boot_len (av_cons (vv 4) av_nil)) av_nil)) (g_name 5 nd) (lv_one (sv_if (wv_or (tv_not (tv_chain op_le op_lt ev_int (xev_ix (K := K) (vv 4) (vv 5) (fun _ _ => rfl)) (ev_callB (xc_len (K := K)) oa_len (by rfl) bf.f_len PySem.boot_len (av_cons (vv 0) av_nil)))) (wv_or1 (tv_cmp (xop_in (K := K)) o2_in (xev_ix (K := K) (vv 4) (vv 5) (fun _ _ => rfl)) (ev_sl (xsl_tup (K := K)) os_tup (vv 4) ov_none (ov_some (vv 5))) rfl))).tv (lv_one (s_ret ev_bl)) lv_nil))) (lv_cons (sv_for PassesOwn.never rfl (iv_r1 (by rfl) bf.f_range (av_cons (ev_callB (xc_len (K := K)) oa_len (by rfl) bf.f_len PySem.boot_len (av_cons (vv 4) av_nil)) av_nil)) (g_name 5 nd) (lv_cons (s_set 6 (xev_ix (K := K) (vv 4) (vv 5) (fun _ _ => rfl)) nd) (lv_one (sv_if (tv_cmp (xop_eq (K := K) hr.units) o2_eq (vv 3) ev_str (nomark _)) (lv_one (sv_if (wv_or (tv_cmp op_lt o2_cmp (ev_callB (xc_len (K := K)) oa_len (by rfl) bf.f_len PySem.boot_len (av_cons (vv 4) av_nil)) ev_int (nomark _)) (wv_or (tv_cmp (xop_ne (K := K) hr.units) o2_ne (xev_ix (K := K) (vv 0) (vv 6) (fun _ _ => rfl)) ev_int (nomark _)) (wv_or1 (tv_cmp (xop_eq (K := K) hr.units) o2_eq (ev_op op_and o2_Iu (ev_op op_shr o2_shr (xev_ix (K := K) (vv 1) (vv 6) (fun _ _ => rfl)) (xev_ix (K := K) (vv 4) (ev_op op_mod o2_mod (ev_op (xop_addA (K := K)) o2_add (vv 5) ev_int) (ev_callB (xc_len (K := K)) oa_len (by rfl) bf.f_len PySem.boot_len (av_cons (vv 4) av_nil))) (fun _ _ => rfl))) ev_int) ev_int (nomark _))))).tv (lv_one (s_ret ev_bl)) lv_nil)) (lv_one (sv_if (wv_or (tv_cmp (xop_ne (K := K) hr.units) o2_ne (ev_lc (own := [("j", 7)]) rfl nd (xiv_tup (K := K) (vv 4)) (blkOk_by (N := N__law_is_group) (sc := sco__law_is_group) (by decide +kernel)) (fun _ _ _ _ _ => (g_name 7 nd)) (fun _ _ _ _ _ => (tsv_one (wv_and (tv_cmp (xop_ne (K := K) hr.units) o2_ne (vv 7) (vv 6) (nomark _)) (wv_and1 (tv_cmp (xop_eq (K := K) hr.units) o2_eq (ev_op op_and o2_Iu (ev_op op_shr o2_shr (xev_ix (K := K) (vv 1) (vv 6) (fun _ _ => rfl)) (vv 7)) ev_int) ev_int (nomark _)))).tv)) (fun _ _ _ _ _ => (vv 7)) (by decide) (by decide)) (ev_lst (k := 0) av_nil) (nomark _)) (wv_or1 (wv_and (tv_cmp op_gt o2_cmp (vv 5) ev_int (nomark _)) (wv_and1 (tv_cmp op_gt o2_cmp (xev_ix (K := K) (vv 4) (ev_op op_sub o2_Iu (vv 5) ev_int) (fun _ _ => rfl)) (vv 6) (nomark _)))).tv)).tv (lv_one (s_ret ev_bl)) lv_nil)))))) (lv_one (s_ret ev_bl)))))⟩
abbrev st__law_due : Stmt := topS 16
abbrev sco__law_due : Scope := defScope st__law_due
abbrev N__law_due : List Str := ["counts", "seen", "groups", "gone", "k", "i"]
theorem fs__law_due : FnScope N__law_due ["counts", "seen", "groups"] sco__law_due := ⟨rfl, rfl, rfl, by decide +kernel, rfl, by decide +kernel, by decide +kernel⟩
theorem ok__law_due {P : Program} {w : World} {K : PySem.W.Frag} {mg : Str → Option Value} {base : Heap} (bf : Bf mg) {f : Addr} {fd : FuncData} (F : FunD K "_law_due" "_law_due" (defArgs st__law_due) (defBody st__law_due) sco__law_due [] [] f fd) (gf : mg "_law_due" = some (.ref f)) (c__law_is_group : Cal P w K mg base 1 "_law_is_group" 3 0 sem__law_is_group [] []) :
    Cal P w K mg base 2 "_law_due" 3 0 sem__law_due [] [] := by
  refine cal_mk (N := N__law_due) (k := 1) (ps := ["counts", "seen", "groups"]) (F := body__law_due) F gf fs__law_due (fun _ _ _ _ _ _ us hl => match us, hl with | [_, _, _], _ => rfl) fun cdv A outer s H E hr => ?_
  have nd := fs__law_due.nd
  exact ⟨_, List.replicate 6 0, [], (lv_cons (s_set 3 ((ev_lst (k := 0) av_nil)).share nd) (lv_cons (sv_for PassesOwn.never rfl (iv_r1 (by rfl) bf.f_range (av_cons (ev_callB (xc_len (K := K)) oa_len (by rfl) bf.f_len PySem.boot_len (av_cons (vv 2) av_nil)) av_nil)) (g_name 4 nd) (lv_cons (sv_if (wv_or (tv_not (tv_val (xev_cal c__law_is_group hr (by decide) (by rfl) (av_cons (vv 0) (av_cons (vv 1) (av_cons (xev_ix (K := K) (vv 2) (vv 4) (fun _ _ => rfl)) av_nil)))))) (wv_or1 (tv_cmp (xop_ne (K := K) hr.units) o2_ne (ev_lc (own := [("i", 5)]) rfl nd (xiv_tup (K := K) (xev_ix (K := K) (xev_ix (K := K) (vv 2) (vv 4) (fun _ _ => rfl)) ev_int (fun _ _ => rfl))) (blkOk_by (N := N__law_due) (sc := sco__law_due) (by decide +kernel)) (fun _ _ _ _ _ => (g_name 5 nd)) (fun _ _ _ _ _ => (tsv_one (tv_cmp (xop_in (K := K)) o2_in (vv 5) (vv 3) rfl))) (fun _ _ _ _ _ => (vv 5)) (by decide) (by decide)) (ev_lst (k := 0) av_nil) (nomark _)))).tv (lv_one (s_ret (vv 4))) lv_nil) (lv_one (s_set 3 (ev_op (xop_addA (K := K)) o2_add (vv 3) (ev_callTy (xc_list (K := K)) oa_list (by rfl) bf.f_list (by decide +kernel) (av_cons (xev_ix (K := K) (xev_ix (K := K) (vv 2) (vv 4) (fun _ _ => rfl)) ev_int (fun _ _ => rfl)) av_nil))) nd)))) (lv_one (s_ret ev_non))))⟩
abbrev st__law_right : Stmt := topS 17
abbrev sco__law_right : Scope := defScope st__law_right
abbrev N__law_right : List Str := ["counts", "seen", "groups", "found", "due"]
theorem fs__law_right : FnScope N__law_right ["counts", "seen", "groups"] sco__law_right := ⟨rfl, rfl, rfl, by decide +kernel, rfl, by decide +kernel, by decide +kernel⟩
theorem ok__law_right {P : Program} {w : World} {K : PySem.W.Frag} {mg : Str → Option Value} {base : Heap} (bf : Bf mg) {f : Addr} {fd : FuncData} (F : FunD K "_law_right" "_law_right" (defArgs st__law_right) (defBody st__law_right) sco__law_right [] [] f fd) (gf : mg "_law_right" = some (.ref f)) (c_group_fault : Cal P w K mg base 4 "group_fault" 3 0 sem_group_fault [] []) (c__law_due : Cal P w K mg base 2 "_law_due" 3 0 sem__law_due [] []) :
    Cal P w K mg base 5 "_law_right" 3 0 sem__law_right [] [] := by
  refine cal_mk (N := N__law_right) (k := 4) (ps := ["counts", "seen", "groups"]) (F := body__law_right) F gf fs__law_right (fun _ _ _ _ _ _ us hl => match us, hl with | [_, _, _], _ => rfl) fun cdv A outer s H E hr => ?_
  have nd := fs__law_right.nd
  exact ⟨_, List.replicate 5 0, [], (lv_cons (s_set 3 (xev_cal c_group_fault hr (by decide) (by rfl) (av_cons (vv 0) (av_cons (ev_callTy (xc_tuple (K := K)) oa_tuple (by rfl) bf.f_tuple (by decide +kernel) (av_cons (vv 1) av_nil)) (av_cons (ev_callTy (xc_tuple (K := K)) oa_tuple (by rfl) bf.f_tuple (by decide +kernel) (av_cons (vv 2) av_nil)) av_nil)))) nd) (lv_cons (s_set 4 (xev_cal c__law_due hr (by decide) (by rfl) (av_cons (vv 0) (av_cons (vv 1) (av_cons (vv 2) av_nil)))) nd) (lv_cons (sv_if (tv_cmp op_isN o2_isN (vv 4) ev_non (nomark _)) (lv_one (s_ret (ev_cmp op_isN o2_isN (vv 3) ev_non (nomark _)))) lv_nil) (lv_one (s_ret (ev_and (xev_isT (K := K) (T := "int") (by rfl) bf.f_isinstance (by decide +kernel) (vv 3) (by rfl) bf.f_int (by decide +kernel) (by decide) (by decide)) (ev_and (ev_not (xev_isT (K := K) (T := "bool") (by rfl) bf.f_isinstance (by decide +kernel) (vv 3) (by rfl) bf.f_bool (by decide +kernel) (by decide) (by decide))) (ev_one (ev_cmp (xop_eq (K := K) hr.units) o2_eq (vv 3) (vv 4) (nomark _))))))))))⟩
abbrev st_law : Stmt := topS 18
abbrev sco_law : Scope := defScope st_law
abbrev N_law : List Str := ["script", "first", "many", "counts", "blocks", "seen", "groups", "cell", "kind", "i", "j", "due"]
theorem fs_law : FnScope N_law ["script"] sco_law := ⟨rfl, rfl, rfl, by decide +kernel, rfl, by decide +kernel, by decide +kernel⟩
theorem ok_law {P : Program} {w : World} {K : PySem.W.Frag} {mg : Str → Option Value} {base : Heap} (bf : Bf mg) {f : Addr} {fd : FuncData} (F : FunD K "law" "law" (defArgs st_law) (defBody st_law) sco_law [] [] f fd) (gf : mg "law" = some (.ref f)) (c__law_cell_at : Cal P w K mg base 1 "_law_cell_at" 2 0 sem__law_cell_at [] []) (c__law_draw : Cal P w K mg base 1 "_law_draw" 2 0 sem__law_draw [] []) (c__law_counts : Cal P w K mg base 2 "_law_counts" 2 0 sem__law_counts [] []) (c__law_blocks : Cal P w K mg base 2 "_law_blocks" 2 2 sem__law_blocks [] []) (c__law_web : Cal P w K mg base 2 "_law_web" 3 1 sem__law_web [] []) (c__law_pair : Cal P w K mg base 3 "_law_pair" 3 0 sem__law_pair [] []) (c__law_due : Cal P w K mg base 2 "_law_due" 3 0 sem__law_due [] []) (c__law_right : Cal P w K mg base 5 "_law_right" 3 0 sem__law_right [] []) :
    Cal P w K mg base 6 "law" 1 0 sem_law [] [] := by
  refine cal_mk (N := N_law) (k := 5) (ps := ["script"]) (F := body_law) F gf fs_law (fun _ _ _ _ _ _ us hl => match us, hl with | [_], _ => rfl) fun cdv A outer s H E hr => ?_
  have nd := fs_law.nd
  exact ⟨_, List.replicate 12 0, [], (lv_cons (s_set 1 (xev_cal c__law_cell_at hr (by decide) (by rfl) (av_cons (vv 0) (av_cons ev_int av_nil))) nd) (lv_cons (s_set 2 (xev_ix (K := K) (ev_lst (k := 0) (av_cons ev_int (av_cons ev_int (av_cons ev_int (av_cons ev_int (av_cons ev_int (av_cons ev_int (av_cons ev_int (av_cons ev_int (av_cons ev_int (av_cons ev_int (av_cons ev_int (av_cons ev_int (av_cons ev_int (av_cons ev_int (av_cons ev_int (av_cons ev_int av_nil))))))))))))))))) (ev_op op_mod o2_mod (xev_cal c__law_draw hr (by decide) (by rfl) (av_cons (vv 1) (av_cons ev_int av_nil))) ev_int) (fun _ _ => rfl)) nd) (lv_cons (s_set 3 (xev_cal c__law_counts hr (by decide) (by rfl) (av_cons (vv 1) (av_cons (vv 2) av_nil))) nd) (lv_cons (s_set 4 ((xev_cal c__law_blocks hr (by decide) (by rfl) (av_cons (xev_cal c__law_cell_at hr (by decide) (by rfl) (av_cons (vv 0) (av_cons ev_int av_nil))) (av_cons (vv 2) av_nil)))).share nd) (lv_cons (s_set 5 (xev_cal c__law_web hr (by decide) (by rfl) (av_cons (xev_cal c__law_cell_at hr (by decide) (by rfl) (av_cons (vv 0) (av_cons ev_int av_nil))) (av_cons (vv 2) (av_cons (vv 4) av_nil)))) nd) (lv_cons (s_set 6 (ev_lst (k := 0) av_nil) nd) (lv_cons (sv_for PassesOwn.never rfl (xiv_list (K := K) (ev_sl (xsl_list (K := K)) os_list (vv 0) (ov_some ev_int) ov_none)) (g_name 7 nd) (lv_cons (s_set 8 (ev_op op_mod o2_mod (xev_cal c__law_draw hr (by decide) (by rfl) (av_cons (vv 7) (av_cons ev_int av_nil))) ev_int) nd) (lv_one (sv_if (wv_and (tv_cmp (xop_eq (K := K) hr.units) o2_eq (vv 8) ev_int (nomark _)) (wv_and1 (tv_cmp op_gt o2_cmp (vv 2) ev_int (nomark _)))).tv (lv_cons (s_set 9 (ev_op op_mod o2_mod (xev_cal c__law_draw hr (by decide) (by rfl) (av_cons (vv 7) (av_cons ev_int av_nil))) (vv 2)) nd) (lv_cons (s_set 10 (ev_op op_mod o2_mod (ev_op (xop_addA (K := K)) o2_add (ev_op (xop_addA (K := K)) o2_add (vv 9) ev_int) (ev_op op_mod o2_mod (xev_cal c__law_draw hr (by decide) (by rfl) (av_cons (vv 7) (av_cons ev_int av_nil))) (ev_op op_sub o2_Iu (vv 2) ev_int))) (vv 2)) nd) (lv_one (s_seti 5 (Ev.clr (.lendIn 5 (ev_op op_xor o2_Iu (xev_ix (K := K) (vv 5) (vv 9) (fun _ _ => rfl)) (ev_op op_shlW o2_shl ev_int (vv 10))))) (vv 9))))) (lv_one (sv_if (.lendIn 6 (tv_cmp op_lt o2_cmp (ev_callB (xc_len (K := K)) oa_len (by rfl) bf.f_len PySem.boot_len (av_cons (vv 6) av_nil)) ev_int (nomark _))) (lv_one (s_append 6 (xev_cal c__law_pair hr (by decide) (by rfl) (av_cons (vv 7) (av_cons (vv 2) (av_cons (vv 4) av_nil)))))) lv_nil)))))) (lv_cons (s_set 11 (Ev.clr (.lendIn 5 (.lendIn 6 (xev_cal c__law_due hr (by decide) (by rfl) (av_cons (vv 3) (av_cons (vv 5) (av_cons (vv 6) av_nil))))))) nd) (lv_cons (sv_if (.lendIn 5 (.lendIn 6 (wv_and (tv_cmp op_notN o2_notN (vv 11) ev_non (nomark _)) (wv_and1 (tv_not (tv_val (xev_cal c__law_right hr (by decide) (by rfl) (av_cons (vv 3) (av_cons (vv 5) (av_cons ((ev_sl (xsl_list (K := K)) os_list (vv 6) ov_none (ov_some (vv 11)))).share av_nil)))))))).tv)) (lv_one (s_ret ev_bl)) lv_nil) (lv_one (s_ret (.lendIn 5 (.lendIn 6 (xev_cal c__law_right hr (by decide) (by rfl) (av_cons (vv 3) (av_cons (vv 5) (av_cons (vv 6) av_nil)))))))))))))))))⟩
end K25

namespace K25
open PySem PySem.Spec L2 VL
open PyProof.Rows hiding St
def d_sees : He.DefD := ⟨("sees", none), "sees", "sees", defArgs st_sees, defBody st_sees, defScope st_sees, [], []⟩
def d_is_circle : He.DefD := ⟨("is_circle", none), "is_circle", "is_circle", defArgs st_is_circle, defBody st_is_circle, defScope st_is_circle, [], []⟩
def d_is_ring : He.DefD := ⟨("is_ring", none), "is_ring", "is_ring", defArgs st_is_ring, defBody st_is_ring, defScope st_is_ring, [], []⟩
def d_is_group : He.DefD := ⟨("is_group", none), "is_group", "is_group", defArgs st_is_group, defBody st_is_group, defScope st_is_group, [], []⟩
def d_group_fault : He.DefD := ⟨("group_fault", none), "group_fault", "group_fault", defArgs st_group_fault, defBody st_group_fault, defScope st_group_fault, [], []⟩
def d__law_cell_at : He.DefD := ⟨("_law_cell_at", none), "_law_cell_at", "_law_cell_at", defArgs st__law_cell_at, defBody st__law_cell_at, defScope st__law_cell_at, [], []⟩
def d__law_draw : He.DefD := ⟨("_law_draw", none), "_law_draw", "_law_draw", defArgs st__law_draw, defBody st__law_draw, defScope st__law_draw, [], []⟩
def d__law_counts : He.DefD := ⟨("_law_counts", none), "_law_counts", "_law_counts", defArgs st__law_counts, defBody st__law_counts, defScope st__law_counts, [], []⟩
def d__law_blocks : He.DefD := ⟨("_law_blocks", none), "_law_blocks", "_law_blocks", defArgs st__law_blocks, defBody st__law_blocks, defScope st__law_blocks, [], []⟩
def d__law_web : He.DefD := ⟨("_law_web", none), "_law_web", "_law_web", defArgs st__law_web, defBody st__law_web, defScope st__law_web, [], []⟩
def d__law_number : He.DefD := ⟨("_law_number", none), "_law_number", "_law_number", defArgs st__law_number, defBody st__law_number, defScope st__law_number, [], []⟩
def d__law_pair : He.DefD := ⟨("_law_pair", none), "_law_pair", "_law_pair", defArgs st__law_pair, defBody st__law_pair, defScope st__law_pair, [], []⟩
def d__law_is_group : He.DefD := ⟨("_law_is_group", none), "_law_is_group", "_law_is_group", defArgs st__law_is_group, defBody st__law_is_group, defScope st__law_is_group, [], []⟩
def d__law_due : He.DefD := ⟨("_law_due", none), "_law_due", "_law_due", defArgs st__law_due, defBody st__law_due, defScope st__law_due, [], []⟩
def d__law_right : He.DefD := ⟨("_law_right", none), "_law_right", "_law_right", defArgs st__law_right, defBody st__law_right, defScope st__law_right, [], []⟩
def d_law : He.DefD := ⟨("law", none), "law", "law", defArgs st_law, defBody st_law, defScope st_law, [], []⟩
def fn : List He.DefD := [d_sees, d_is_circle, d_is_ring, d_is_group, d_group_fault, d__law_cell_at, d__law_draw, d__law_counts, d__law_blocks, d__law_web, d__law_number, d__law_pair, d__law_is_group, d__law_due, d__law_right, d_law]
def fa : List He.Fa := [.glo "sees", .glo "is_circle", .glo "is_ring", .glo "is_group", .glo "group_fault", .glo "_law_cell_at", .glo "_law_draw", .glo "_law_counts", .glo "_law_blocks", .glo "_law_web", .glo "_law_number", .glo "_law_pair", .glo "_law_is_group", .glo "_law_due", .glo "_law_right", .glo "law", .free "bool", .free "enumerate", .free "int", .free "isinstance", .free "len", .free "list", .free "max", .free "range", .free "reversed", .free "set", .free "sorted", .free "tuple"]
abbrev R : PySem.W.OpenRow := PySem.W.OpenLaw.row PySem.Challenge.rw_hatsight_k25_group_fault
abbrev hk : PySem.W.Hook := He.hookD 4 fa fn
def ob (s : PySem.W.SharedT) : He.AlD := He.obsDG 4 fa fn (HandSHeadRun.getT s)
theorem ob_eq (s : PySem.W.SharedT) : ob s = hk.obs s.abs := He.obsDG_eq (HandSHeadRun.getT_eq s)
def loose : List PySem.Str := (["sees", "is_circle", "is_ring", "is_group", "group_fault", "_law_cell_at", "_law_draw", "_law_counts", "_law_blocks", "_law_web", "_law_number", "_law_pair", "_law_is_group", "_law_due", "_law_right"] : List PySem.Str)
theorem run (w : World) : HandSHeadRun.RunEq R (PySem.W.view R.prog [18]) hk ob 4000 loose w := by
  intro os
  kernel_rfl
theorem facts {P : Program} {w : World} {K : PySem.W.Frag} {h : Heap} {mg : Str → Option Value} {f : Addr} (X : K.In h) (G : h.Ns mainGlobals mg) (hfa : mg ("law" : Str) = some (.ref f)) (c : He.SaysD fa fn K) :
    ∃ fd : FuncData, (∀ (s : Shared) (v : Value), BindsTo s fd ⟨[v], []⟩ [("script", v)]) ∧ ∀ base : Heap, K.In base → base.Ns mainGlobals mg → FnOk P w K mg base CX0 6 f fd ["script"] (sp0 K 1 0 sem_law) := by
  obtain ⟨fd_sees, F_sees⟩ := c.def_ 0 (d := d_sees) rfl
  obtain ⟨fd_is_circle, F_is_circle⟩ := c.def_ 1 (d := d_is_circle) rfl
  obtain ⟨fd_is_ring, F_is_ring⟩ := c.def_ 2 (d := d_is_ring) rfl
  obtain ⟨fd_is_group, F_is_group⟩ := c.def_ 3 (d := d_is_group) rfl
  obtain ⟨fd_group_fault, F_group_fault⟩ := c.def_ 4 (d := d_group_fault) rfl
  obtain ⟨fd__law_cell_at, F__law_cell_at⟩ := c.def_ 5 (d := d__law_cell_at) rfl
  obtain ⟨fd__law_draw, F__law_draw⟩ := c.def_ 6 (d := d__law_draw) rfl
  obtain ⟨fd__law_counts, F__law_counts⟩ := c.def_ 7 (d := d__law_counts) rfl
  obtain ⟨fd__law_blocks, F__law_blocks⟩ := c.def_ 8 (d := d__law_blocks) rfl
  obtain ⟨fd__law_web, F__law_web⟩ := c.def_ 9 (d := d__law_web) rfl
  obtain ⟨fd__law_number, F__law_number⟩ := c.def_ 10 (d := d__law_number) rfl
  obtain ⟨fd__law_pair, F__law_pair⟩ := c.def_ 11 (d := d__law_pair) rfl
  obtain ⟨fd__law_is_group, F__law_is_group⟩ := c.def_ 12 (d := d__law_is_group) rfl
  obtain ⟨fd__law_due, F__law_due⟩ := c.def_ 13 (d := d__law_due) rfl
  obtain ⟨fd__law_right, F__law_right⟩ := c.def_ 14 (d := d__law_right) rfl
  obtain ⟨fd_law, F_law⟩ := c.def_ 15 (d := d_law) rfl
  have bf : Bf mg := ⟨He.free_ok X G (c.fact 16 (f := .free "bool") rfl), He.free_ok X G (c.fact 17 (f := .free "enumerate") rfl), He.free_ok X G (c.fact 18 (f := .free "int") rfl), He.free_ok X G (c.fact 19 (f := .free "isinstance") rfl), He.free_ok X G (c.fact 20 (f := .free "len") rfl), He.free_ok X G (c.fact 21 (f := .free "list") rfl), He.free_ok X G (c.fact 22 (f := .free "max") rfl), He.free_ok X G (c.fact 23 (f := .free "range") rfl), He.free_ok X G (c.fact 24 (f := .free "reversed") rfl), He.free_ok X G (c.fact 25 (f := .free "set") rfl), He.free_ok X G (c.fact 26 (f := .free "sorted") rfl), He.free_ok X G (c.fact 27 (f := .free "tuple") rfl)⟩
  have gl := He.glo_ok X G (c.fact 15 (f := .glo "law") rfl)
  have e := hfa.symm.trans gl
  cases e
  refine ⟨fd_law, fun s v => FunD.bindsA (ps := ["script"]) F_law (fun _ _ _ _ _ _ us hl => match us, hl with | [_], _ => rfl) s [v] rfl, fun base _ _ => ?_⟩
  have c_sees : Cal P w K mg base 1 "sees" 3 0 sem_sees [] [] := ok_sees bf F_sees (He.glo_ok X G (c.fact 0 (f := .glo "sees") rfl))
  have c_is_circle : Cal P w K mg base 2 "is_circle" 2 0 sem_is_circle [] [] := ok_is_circle bf F_is_circle (He.glo_ok X G (c.fact 1 (f := .glo "is_circle") rfl)) c_sees
  have c_is_ring : Cal P w K mg base 2 "is_ring" 2 0 sem_is_ring [] [] := ok_is_ring bf F_is_ring (He.glo_ok X G (c.fact 2 (f := .glo "is_ring") rfl)) c_sees
  have c_is_group : Cal P w K mg base 3 "is_group" 4 0 sem_is_group [] [] := ok_is_group bf F_is_group (He.glo_ok X G (c.fact 3 (f := .glo "is_group") rfl)) c_is_ring c_is_circle
  have c_group_fault : Cal P w K mg base 4 "group_fault" 3 0 sem_group_fault [] [] := ok_group_fault bf F_group_fault (He.glo_ok X G (c.fact 4 (f := .glo "group_fault") rfl)) c_is_group
  have c__law_cell_at : Cal P w K mg base 1 "_law_cell_at" 2 0 sem__law_cell_at [] [] := ok__law_cell_at bf F__law_cell_at (He.glo_ok X G (c.fact 5 (f := .glo "_law_cell_at") rfl))
  have c__law_draw : Cal P w K mg base 1 "_law_draw" 2 0 sem__law_draw [] [] := ok__law_draw bf F__law_draw (He.glo_ok X G (c.fact 6 (f := .glo "_law_draw") rfl))
  have c__law_counts : Cal P w K mg base 2 "_law_counts" 2 0 sem__law_counts [] [] := ok__law_counts bf F__law_counts (He.glo_ok X G (c.fact 7 (f := .glo "_law_counts") rfl)) c__law_draw
  have c__law_blocks : Cal P w K mg base 2 "_law_blocks" 2 2 sem__law_blocks [] [] := ok__law_blocks bf F__law_blocks (He.glo_ok X G (c.fact 8 (f := .glo "_law_blocks") rfl)) c__law_draw
  have c__law_web : Cal P w K mg base 2 "_law_web" 3 1 sem__law_web [] [] := ok__law_web bf F__law_web (He.glo_ok X G (c.fact 9 (f := .glo "_law_web") rfl)) c__law_draw
  have c__law_number : Cal P w K mg base 2 "_law_number" 3 0 sem__law_number [] [] := ok__law_number bf F__law_number (He.glo_ok X G (c.fact 10 (f := .glo "_law_number") rfl)) c__law_draw
  have c__law_pair : Cal P w K mg base 3 "_law_pair" 3 0 sem__law_pair [] [] := ok__law_pair bf F__law_pair (He.glo_ok X G (c.fact 11 (f := .glo "_law_pair") rfl)) c__law_draw c__law_number
  have c__law_is_group : Cal P w K mg base 1 "_law_is_group" 3 0 sem__law_is_group [] [] := ok__law_is_group bf F__law_is_group (He.glo_ok X G (c.fact 12 (f := .glo "_law_is_group") rfl))
  have c__law_due : Cal P w K mg base 2 "_law_due" 3 0 sem__law_due [] [] := ok__law_due bf F__law_due (He.glo_ok X G (c.fact 13 (f := .glo "_law_due") rfl)) c__law_is_group
  have c__law_right : Cal P w K mg base 5 "_law_right" 3 0 sem__law_right [] [] := ok__law_right bf F__law_right (He.glo_ok X G (c.fact 14 (f := .glo "_law_right") rfl)) c_group_fault c__law_due
  refine fn_ok (N := N_law) (k := 5) (ps := ["script"]) (F := body_law) F_law fs_law fun cdv A outer s H E hr => ?_
  have nd := fs_law.nd
  exact ⟨_, List.replicate 12 0, [], (lv_cons (s_set 1 (xev_cal c__law_cell_at hr (by decide) (by rfl) (av_cons (vv 0) (av_cons ev_int av_nil))) nd) (lv_cons (s_set 2 (xev_ix (K := K) (ev_lst (k := 0) (av_cons ev_int (av_cons ev_int (av_cons ev_int (av_cons ev_int (av_cons ev_int (av_cons ev_int (av_cons ev_int (av_cons ev_int (av_cons ev_int (av_cons ev_int (av_cons ev_int (av_cons ev_int (av_cons ev_int (av_cons ev_int (av_cons ev_int (av_cons ev_int av_nil))))))))))))))))) (ev_op op_mod o2_mod (xev_cal c__law_draw hr (by decide) (by rfl) (av_cons (vv 1) (av_cons ev_int av_nil))) ev_int) (fun _ _ => rfl)) nd) (lv_cons (s_set 3 (xev_cal c__law_counts hr (by decide) (by rfl) (av_cons (vv 1) (av_cons (vv 2) av_nil))) nd) (lv_cons (s_set 4 ((xev_cal c__law_blocks hr (by decide) (by rfl) (av_cons (xev_cal c__law_cell_at hr (by decide) (by rfl) (av_cons (vv 0) (av_cons ev_int av_nil))) (av_cons (vv 2) av_nil)))).share nd) (lv_cons (s_set 5 (xev_cal c__law_web hr (by decide) (by rfl) (av_cons (xev_cal c__law_cell_at hr (by decide) (by rfl) (av_cons (vv 0) (av_cons ev_int av_nil))) (av_cons (vv 2) (av_cons (vv 4) av_nil)))) nd) (lv_cons (s_set 6 (ev_lst (k := 0) av_nil) nd) (lv_cons (sv_for PassesOwn.never rfl (xiv_list (K := K) (ev_sl (xsl_list (K := K)) os_list (vv 0) (ov_some ev_int) ov_none)) (g_name 7 nd) (lv_cons (s_set 8 (ev_op op_mod o2_mod (xev_cal c__law_draw hr (by decide) (by rfl) (av_cons (vv 7) (av_cons ev_int av_nil))) ev_int) nd) (lv_one (sv_if (wv_and (tv_cmp (xop_eq (K := K) hr.units) o2_eq (vv 8) ev_int (nomark _)) (wv_and1 (tv_cmp op_gt o2_cmp (vv 2) ev_int (nomark _)))).tv (lv_cons (s_set 9 (ev_op op_mod o2_mod (xev_cal c__law_draw hr (by decide) (by rfl) (av_cons (vv 7) (av_cons ev_int av_nil))) (vv 2)) nd) (lv_cons (s_set 10 (ev_op op_mod o2_mod (ev_op (xop_addA (K := K)) o2_add (ev_op (xop_addA (K := K)) o2_add (vv 9) ev_int) (ev_op op_mod o2_mod (xev_cal c__law_draw hr (by decide) (by rfl) (av_cons (vv 7) (av_cons ev_int av_nil))) (ev_op op_sub o2_Iu (vv 2) ev_int))) (vv 2)) nd) (lv_one (s_seti 5 (Ev.clr (.lendIn 5 (ev_op op_xor o2_Iu (xev_ix (K := K) (vv 5) (vv 9) (fun _ _ => rfl)) (ev_op op_shlW o2_shl ev_int (vv 10))))) (vv 9))))) (lv_one (sv_if (.lendIn 6 (tv_cmp op_lt o2_cmp (ev_callB (xc_len (K := K)) oa_len (by rfl) bf.f_len PySem.boot_len (av_cons (vv 6) av_nil)) ev_int (nomark _))) (lv_one (s_append 6 (xev_cal c__law_pair hr (by decide) (by rfl) (av_cons (vv 7) (av_cons (vv 2) (av_cons (vv 4) av_nil)))))) lv_nil)))))) (lv_cons (s_set 11 (Ev.clr (.lendIn 5 (.lendIn 6 (xev_cal c__law_due hr (by decide) (by rfl) (av_cons (vv 3) (av_cons (vv 5) (av_cons (vv 6) av_nil))))))) nd) (lv_cons (sv_if (.lendIn 5 (.lendIn 6 (wv_and (tv_cmp op_notN o2_notN (vv 11) ev_non (nomark _)) (wv_and1 (tv_not (tv_val (xev_cal c__law_right hr (by decide) (by rfl) (av_cons (vv 3) (av_cons (vv 5) (av_cons ((ev_sl (xsl_list (K := K)) os_list (vv 6) ov_none (ov_some (vv 11)))).share av_nil)))))))).tv)) (lv_one (s_ret ev_bl)) lv_nil) (lv_one (s_ret (.lendIn 5 (.lendIn 6 (xev_cal c__law_right hr (by decide) (by rfl) (av_cons (vv 3) (av_cons (vv 5) (av_cons (vv 6) av_nil)))))))))))))))))⟩
end K25

open PySem PySem.W PySem.Calls
open PyProof.Rows hiding St
theorem PySem.Challenge.cw_hatsight_k25_group_fault_holds : PySem.Challenge.rw_hatsight_k25_group_fault.Holds := by
  w_on; o_law
  refine HandSHeadRun.head_any (r := OpenLaw.row PySem.Challenge.rw_hatsight_k25_group_fault) (q := view (OpenLaw.row PySem.Challenge.rw_hatsight_k25_group_fault).prog [18]) (H := K25.hk) (ob := K25.ob) (M := 4000) (loose := K25.loose) (d := HandSHeadRun.topDef (OpenLaw.row PySem.Challenge.rw_hatsight_k25_group_fault).prog 18) (kwd := []) K25.ob_eq
    (by kernel_rfl) (fun s => by kernel_rfl) K25.run (by kernel_rfl) (by kernel_rfl) (by kernel_rfl) (by rfl) (by first | assumption | decide +kernel) (by decide +kernel) ⟨rfl, rfl, rfl, rfl, rfl, by decide +kernel⟩ ?hw ?hc
  case hw => w_witness2
  case hc =>
    refine L2.walk_ofE (l := PySem.Challenge.rw_hatsight_k25_group_fault) (n := 63) (k := 6) (x := "script") (CX := L2.CX0) rfl (by decide) (by kernel_rfl) ⟨rfl, by decide, by decide⟩ ?F (fun _ _ _ _ z => z)
    intro w mg fa h Y G hmg0
    obtain ⟨K, KX, c⟩ := Y
    have hmg : mg ("law" : PySem.Str) = some (.ref fa) := by
      have e : (HandSHeadRun.topDef (OpenLaw.row PySem.Challenge.rw_hatsight_k25_group_fault).prog 18).name = ("law" : PySem.Str) := by kernel_rfl
      rw [← e]
      exact hmg0
    obtain ⟨fd, hb, hF⟩ := K25.facts (P := (PySem.Challenge.rw_hatsight_k25_group_fault).prog) (w := w) KX G hmg c
    exact ⟨K, fd, VL.sp0 K 1 0 K25.sem_law, KX, hb, fun H a ns hl _ hS => VL.law_sp hS (K25.law_true ns hl), hF⟩
