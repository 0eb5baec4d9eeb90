import PyProof.Rows.All
import HandS.ForMost
import HandS.ForExc
import HandS.Wide
import HandS.Defaults
import HandS.Style
import HandS.TupAny
import HandS.IsInst
import HandS.RevRange
import HandS.Conv
import HandS.Iter
import HandS.Zip
import HandS.WideBits
import KE.KStateDown
import Lean
import HandS.Head0
import HandS.Head1
import HandS.Head2
import HandS.HeadEnd
import HandS.HeadHook1
import HandS.HeadHook2
import HandS.TupLe
import KE.BitLaws
import HandS.Rev
import HandS.SortInts
import HandS.Text
import HandS.SetFor
import HandS.Strs
import HandS.Dict
import PyProof.Rows.SetFrom
import HandS.ExcIs
import HandS.WordsExc
import HandS.ExcValue
import KE.GoesMore
import HandS.Codes
import HandS.RevTup
import HandS.More
import HandS.WordsDict
import HandS.ExcInit
import HandS.ExcField
import KE.KExcIs
import PySem.Challenge.RW_hatsight_k04_first_fault
set_option Elab.async false
set_option linter.all false
set_option maxRecDepth 100000
/-! VL1: pure values over the abstract heap: D, footprints, transport. -/
namespace VL
open PySem PySem.Spec L2
open PyProof.Rows hiding St

/-- a pure value -/
inductive D where
  | non | bl (b : Bool) | int (i : Int) | str (x : Str)
  | tup (ds : List D) | lst (ds : List D)
  | dct (ks : List Key) (ds : List D)
  | obj (C : Addr) (fn : List Str) (ds : List D)
instance : Inhabited D := ⟨.non⟩

mutual
/-- v stands for d in H; what is owned to depth n stands at fp, what is shared satisfies N -/
inductive Own (K : PySem.W.Frag) (H : Hp) (N : Addr → Prop) : Nat → D → V → List Addr → Prop
  | non {n : Nat} : Own K H N n .non .non []
  | bl {n : Nat} {b : Bool} : Own K H N n (.bl b) (.bl b) []
  | int {n : Nat} {i : Int} : Own K H N n (.int i) (.int i) []
  | str {n : Nat} {x : Str} : Own K H N n (.str x) (.str x) []
  | tup {n : Nat} {a : Addr} {ds : List D} {vs : List V} {fp : List Addr} : SqT K H a vs → OwnL K H N n ds vs fp → Own K H N n (.tup ds) (.ref a) fp
  | shl {a : Addr} {ds : List D} {vs : List V} {fp : List Addr} : N a → Rd H a (.lst vs) → OwnL K H N 0 ds vs fp → Own K H N 0 (.lst ds) (.ref a) fp
  | kl {a : Addr} {ds : List D} {vs : List V} {fp : List Addr} : SqL K (fun _ => none) a vs → OwnL K H N 0 ds vs fp → Own K H N 0 (.lst ds) (.ref a) fp
  | lst {n : Nat} {a : Addr} {ds : List D} {vs : List V} {fp : List Addr} : H a = some (.lst vs) → OwnL K H N n ds vs fp → Own K H N (n + 1) (.lst ds) (.ref a) (a :: fp)
  | shd {a : Addr} {ks : List Key} {ds : List D} {vs : List V} {fp : List Addr} : N a → H a = some (.dK (ks.zip vs)) → ks.length = vs.length → ks.Nodup → OwnL K H N 0 ds vs fp → Own K H N 0 (.dct ks ds) (.ref a) fp
  | dct {n : Nat} {a : Addr} {ks : List Key} {ds : List D} {vs : List V} {fp : List Addr} : H a = some (.dK (ks.zip vs)) → ks.length = vs.length → ks.Nodup → OwnL K H N n ds vs fp → Own K H N (n + 1) (.dct ks ds) (.ref a) (a :: fp)
  | sho {a C dx : Addr} {fn : List Str} {ds : List D} {vs : List V} {fp : List Addr} : N a → H a = some (.ins C dx (fn.zip vs)) → fn.length = vs.length → OwnL K H N 0 ds vs fp → Own K H N 0 (.obj C fn ds) (.ref a) fp
  | obj {n : Nat} {a C dx : Addr} {fn : List Str} {ds : List D} {vs : List V} {fp : List Addr} : H a = some (.ins C dx (fn.zip vs)) → fn.length = vs.length → OwnL K H N n ds vs fp → Own K H N (n + 1) (.obj C fn ds) (.ref a) (a :: fp)
inductive OwnL (K : PySem.W.Frag) (H : Hp) (N : Addr → Prop) : Nat → List D → List V → List Addr → Prop
  | nil {n : Nat} : OwnL K H N n [] [] []
  | cons {n : Nat} {d : D} {v : V} {fp : List Addr} {ds : List D} {vs : List V} {fps : List Addr} : Own K H N n d v fp → OwnL K H N n ds vs fps → OwnL K H N n (d :: ds) (v :: vs) (fp ++ fps)
end

/-- the heap has only grown -/
abbrev Ext (H H' : Hp) : Prop := Same H H'
theorem Ext.rfl' (H : Hp) : Ext H H := fun _ _ e => e
theorem ext_upd {H : Hp} {p : Addr} {o : HO} (h : H p = none) : Ext H (upd H p o) := fun b x e => by
  rw [upd_ne (ne_of_none e h)]; exact e

def notTup : HO → Prop
  | .tup _ => False
  | .frz _ _ => False
  | .own _ => False
  | _ => True

/-- what the shared things lean on stays: all tuples, all frozen things, all that N admits -/
structure Kp (N : Addr → Prop) (H H' : Hp) : Prop where
  kp : ∀ a o, H a = some o → N a → H' a = some o
  tp : ∀ a o, H a = some o → ¬ notTup o → H' a = some o
theorem Kp.of_ext {N : Addr → Prop} {H H' : Hp} (h : Ext H H') : Kp N H H' := ⟨fun a o e _ => h a o e, fun a o e _ => h a o e⟩
theorem Kp.trans {N : Addr → Prop} {H H' H'' : Hp} (h : Kp N H H') (h' : Kp N H' H'') : Kp N H H'' :=
  ⟨fun a o e n => h'.kp a o (h.kp a o e n) n, fun a o e n => h'.tp a o (h.tp a o e n) n⟩
theorem Kp.mono {N N' : Addr → Prop} {H H' : Hp} (h : Kp N H H') (i : ∀ a, N' a → N a) : Kp N' H H' := ⟨fun a o e n => h.kp a o e (i a n), h.tp⟩

theorem SqT.kp {K : PySem.W.Frag} {H H' : Hp} {a : Addr} {xs : List V} (h : SqT K H a xs) (k : ∀ a o, H a = some o → ¬ notTup o → H' a = some o) : SqT K H' a xs := by
  rcases h with (h | ⟨o, h⟩) | h
  · exact .inl (.inl (k a _ h (fun z => z)))
  · exact .inl (.inr ⟨o, k a _ h (fun z => z)⟩)
  · exact .inr h
theorem Rd.kp {H H' : Hp} {a : Addr} {u : HO} (h : Rd H a u) (k : ∀ o, H a = some o → H' a = some o) : Rd H' a u := by
  rcases h with h | ⟨o, h⟩
  · exact .inl (k _ h)
  · exact .inr ⟨o, k _ h⟩
theorem Rd.live {H : Hp} {a : Addr} {u : HO} (h : Rd H a u) : ∃ o, H a = some o := by
  rcases h with h | ⟨o, h⟩
  · exact ⟨_, h⟩
  · exact ⟨_, h⟩

variable {K : PySem.W.Frag}
mutual
/-- transport: what is owned stays, the shared stays and satisfies N' -/
theorem Own.move {H H' : Hp} {N N' : Addr → Prop} (tp : ∀ a o, H a = some o → ¬ notTup o → H' a = some o) (sh : ∀ a o, H a = some o → N a → H' a = some o ∧ N' a) : ∀ {n : Nat} {d : D} {v : V} {fp : List Addr}, Own K H N n d v fp → (∀ a ∈ fp, ∀ o, H a = some o → H' a = some o) → Own K H' N' n d v fp
  | _, _, _, _, .non, _ => .non
  | _, _, _, _, .bl, _ => .bl
  | _, _, _, _, .int, _ => .int
  | _, _, _, _, .str, _ => .str
  | _, _, _, _, .tup h l, k => .tup (SqT.kp h tp) (OwnL.move tp sh l k)
  | _, _, _, _, .shl n h l, k => .shl (let ⟨_, e⟩ := Rd.live h; (sh _ _ e n).2) (Rd.kp h fun o e => (sh _ o e n).1) (OwnL.move tp sh l k)
  | _, _, _, _, .kl h l, k => .kl h (OwnL.move tp sh l k)
  | _, _, _, _, .lst h l, k => .lst (k _ (List.mem_cons_self) _ h) (OwnL.move tp sh l fun a m => k a (List.mem_cons_of_mem _ m))
  | _, _, _, _, .shd n h e nd l, k => .shd (sh _ _ h n).2 (sh _ _ h n).1 e nd (OwnL.move tp sh l k)
  | _, _, _, _, .dct h e nd l, k => .dct (k _ (List.mem_cons_self) _ h) e nd (OwnL.move tp sh l fun a m => k a (List.mem_cons_of_mem _ m))
  | _, _, _, _, .sho n h e l, k => .sho (sh _ _ h n).2 (sh _ _ h n).1 e (OwnL.move tp sh l k)
  | _, _, _, _, .obj h e l, k => .obj (k _ (List.mem_cons_self) _ h) e (OwnL.move tp sh l fun a m => k a (List.mem_cons_of_mem _ m))
theorem OwnL.move {H H' : Hp} {N N' : Addr → Prop} (tp : ∀ a o, H a = some o → ¬ notTup o → H' a = some o) (sh : ∀ a o, H a = some o → N a → H' a = some o ∧ N' a) : ∀ {n : Nat} {d : List D} {v : List V} {fp : List Addr}, OwnL K H N n d v fp → (∀ a ∈ fp, ∀ o, H a = some o → H' a = some o) → OwnL K H' N' n d v fp
  | _, _, _, _, .nil, _ => .nil
  | _, _, _, _, .cons h l, k => .cons (Own.move tp sh h fun a m => k a (List.mem_append_left _ m)) (OwnL.move tp sh l fun a m => k a (List.mem_append_right _ m))
end
mutual
theorem Own.live {H : Hp} {N : Addr → Prop} : ∀ {n : Nat} {d : D} {v : V} {fp : List Addr}, Own K H N n d v fp → ∀ a ∈ fp, ∃ o, H a = some o ∧ notTup o
  | _, _, _, _, .non, _, m => nomatch m
  | _, _, _, _, .bl, _, m => nomatch m
  | _, _, _, _, .int, _, m => nomatch m
  | _, _, _, _, .str, _, m => nomatch m
  | _, _, _, _, .tup h l, a, m => OwnL.live l a m
  | _, _, _, _, .shl n h l, a, m => OwnL.live l a m
  | _, _, _, _, .kl h l, a, m => OwnL.live l a m
  | _, _, _, _, .lst h l, a, m => by
    rcases List.mem_cons.mp m with e | m
    · subst e; exact ⟨_, h, trivial⟩
    · exact OwnL.live l a m
  | _, _, _, _, .shd n h e nd l, a, m => OwnL.live l a m
  | _, _, _, _, .dct h e nd l, a, m => by
    rcases List.mem_cons.mp m with e | m
    · subst e; exact ⟨_, h, trivial⟩
    · exact OwnL.live l a m
  | _, _, _, _, .sho n h e l, a, m => OwnL.live l a m
  | _, _, _, _, .obj h e l, a, m => by
    rcases List.mem_cons.mp m with e | m
    · subst e; exact ⟨_, h, trivial⟩
    · exact OwnL.live l a m
theorem OwnL.live {H : Hp} {N : Addr → Prop} : ∀ {n : Nat} {d : List D} {v : List V} {fp : List Addr}, OwnL K H N n d v fp → ∀ a ∈ fp, ∃ o, H a = some o ∧ notTup o
  | _, _, _, _, .nil, _, m => nomatch m
  | _, _, _, _, .cons h l, a, m => by
    rcases List.mem_append.mp m with m | m
    · exact Own.live h a m
    · exact OwnL.live l a m
end
/-! depth 0: nothing is owned -/
mutual
theorem Own.fp0 {H : Hp} {N : Addr → Prop} : ∀ {n : Nat} {d : D} {v : V} {fp : List Addr}, Own K H N n d v fp → n = 0 → fp = []
  | _, _, _, _, .non, _ => rfl
  | _, _, _, _, .bl, _ => rfl
  | _, _, _, _, .int, _ => rfl
  | _, _, _, _, .str, _ => rfl
  | _, _, _, _, .tup h l, e => OwnL.fp0 l e
  | _, _, _, _, .shl n h l, e => OwnL.fp0 l e
  | _, _, _, _, .kl h l, e => OwnL.fp0 l e
  | _, _, _, _, .lst h l, e => nomatch e
  | _, _, _, _, .shd n h _ nd l, e => OwnL.fp0 l e
  | _, _, _, _, .dct h _ nd l, e => nomatch e
  | _, _, _, _, .sho n h _ l, e => OwnL.fp0 l e
  | _, _, _, _, .obj h _ l, e => nomatch e
theorem OwnL.fp0 {H : Hp} {N : Addr → Prop} : ∀ {n : Nat} {d : List D} {v : List V} {fp : List Addr}, OwnL K H N n d v fp → n = 0 → fp = []
  | _, _, _, _, .nil, _ => rfl
  | _, _, _, _, .cons h l, e => by rw [Own.fp0 h e, OwnL.fp0 l e]; rfl
end
/-! shared out: what was owned is shared from now on -/
mutual
theorem Own.share {H : Hp} {N N' : Addr → Prop} (hN : ∀ a, N a → N' a) : ∀ {n : Nat} {d : D} {v : V} {fp : List Addr}, Own K H N n d v fp → (∀ a ∈ fp, N' a) → Own K H N' 0 d v []
  | _, _, _, _, .non, _ => .non
  | _, _, _, _, .bl, _ => .bl
  | _, _, _, _, .int, _ => .int
  | _, _, _, _, .str, _ => .str
  | _, _, _, _, .tup h l, k => .tup h (OwnL.share hN l k)
  | _, _, _, _, .shl n h l, k => .shl (hN _ n) h (OwnL.share hN l k)
  | _, _, _, _, .kl h l, k => .kl h (OwnL.share hN l k)
  | _, _, _, _, .lst h l, k => .shl (k _ (List.mem_cons_self)) (.inl h) (OwnL.share hN l fun a m => k a (List.mem_cons_of_mem _ m))
  | _, _, _, _, .shd n h e nd l, k => .shd (hN _ n) h e nd (OwnL.share hN l k)
  | _, _, _, _, .dct h e nd l, k => .shd (k _ (List.mem_cons_self)) h e nd (OwnL.share hN l fun a m => k a (List.mem_cons_of_mem _ m))
  | _, _, _, _, .sho n h e l, k => .sho (hN _ n) h e (OwnL.share hN l k)
  | _, _, _, _, .obj h e l, k => .sho (k _ (List.mem_cons_self)) h e (OwnL.share hN l fun a m => k a (List.mem_cons_of_mem _ m))
theorem OwnL.share {H : Hp} {N N' : Addr → Prop} (hN : ∀ a, N a → N' a) : ∀ {n : Nat} {d : List D} {v : List V} {fp : List Addr}, OwnL K H N n d v fp → (∀ a ∈ fp, N' a) → OwnL K H N' 0 d v []
  | _, _, _, _, .nil, _ => .nil
  | _, _, _, _, .cons h l, k => .cons (fp := []) (fps := []) (Own.share hN h fun a m => k a (List.mem_append_left _ m)) (OwnL.share hN l fun a m => k a (List.mem_append_right _ m))
end
end VL

/-! VL2: the store relation, the judgements with a value semantics. -/
namespace VL
open PySem PySem.Spec L2
open PyProof.Rows hiding St

abbrev Store := List (Option D)
/-- the entry of a def: its heap, what is handed in to be changed (slot, depth) -/
structure Entry where
  H0 : Hp
  F0 : Nat → List Addr
  v0 : Nat → V
  io : Nat → Nat
  /-- values that a loop walks -/
  G : List (D × V)

structure StR (K : PySem.W.Frag) (E : Entry) (Γ : List Nat) (ρ : Store) (σ : St) (H : Hp) (Φ : Nat → List Addr) : Prop where
  len : σ.length = ρ.length
  gl : Γ.length ≤ ρ.length
  val : ∀ i d, ρ[i]? = some (some d) → ∃ v, σ[i]? = some (some v) ∧ Own K H (fun a => ∀ j, a ∉ Φ j) (Γ.getD i 0) d v (Φ i)
  em : ∀ i, i < ρ.length → Γ.getD i 0 = 0 → Φ i = []
  nd : ∀ i, (Φ i).Nodup
  dj : ∀ i j a, a ∈ Φ i → a ∈ Φ j → i = j
  lv : ∀ i a, a ∈ Φ i → ∃ o, H a = some o ∧ notTup o
  nw : ∀ i a, a ∈ Φ i → E.H0 a = none ∨ (E.io i ≠ 0 ∧ a ∈ E.F0 i)
  kp : Kp (fun a => ∀ i, E.io i ≠ 0 → a ∉ E.F0 i) E.H0 H
  dm : ∀ a o, E.H0 a = some o → ∃ o', H a = some o'
  iv : ∀ i, E.io i ≠ 0 → σ[i]? = some (some (E.v0 i))
  gh : ∀ p ∈ E.G, Own K H (fun a => ∀ j, a ∉ Φ j) 0 p.1 p.2 []

variable {K : PySem.W.Frag}

theorem lt_of_some {α : Type} {l : List α} {i : Nat} {x : α} (h : l[i]? = some x) : i < l.length := by
  by_cases h' : i < l.length
  · exact h'
  · rw [List.getElem?_eq_none (by omega)] at h; cases h
theorem StR.fresh {E : Entry} {Γ : List Nat} {ρ : Store} {σ : St} {H : Hp} {Φ : Nat → List Addr} (R : StR K E Γ ρ σ H Φ) {a : Addr} (n : H a = none) : E.H0 a = none := by
  cases e : E.H0 a with
  | none => rfl
  | some o => obtain ⟨o', e'⟩ := R.dm a o e; rw [n] at e'; cases e'
theorem StR.notIn {E : Entry} {Γ : List Nat} {ρ : Store} {σ : St} {H : Hp} {Φ : Nat → List Addr} (R : StR K E Γ ρ σ H Φ) {a : Addr} (n : H a = none) (j : Nat) : a ∉ Φ j := fun m => by
  obtain ⟨o, e, _⟩ := R.lv j a m; rw [n] at e; cases e

/-- the heap grows -/
theorem StR.ext {E : Entry} {Γ : List Nat} {ρ : Store} {σ : St} {H H' : Hp} {Φ : Nat → List Addr} (R : StR K E Γ ρ σ H Φ) (x : Ext H H') : StR K E Γ ρ σ H' Φ :=
  ⟨R.len, R.gl, fun i d e => let ⟨v, h1, h2⟩ := R.val i d e; ⟨v, h1, h2.move (fun a o e _ => x a o e) (fun a o e n => ⟨x a o e, n⟩) fun a _ o e => x a o e⟩, R.em, R.nd, R.dj,
    fun i a m => let ⟨o, h1, h2⟩ := R.lv i a m; ⟨o, x _ _ h1, h2⟩, R.nw, R.kp.trans (.of_ext x), fun a o e => let ⟨o', e'⟩ := R.dm a o e; ⟨o', x _ _ e'⟩, R.iv,
    fun p m => (R.gh p m).move (fun a o e _ => x a o e) (fun a o e n => ⟨x a o e, n⟩) fun a _ o e => x a o e⟩

/-- an expression's end: v stands for d, owned to depth m at new addresses; its shared parts are none of what the slots own, but those in B -/
structure Res (K : PySem.W.Frag) (B : List Nat) (Φ : Nat → List Addr) (m : Nat) (d : D) (H : Hp) (v : V) (H' : Hp) (Ψ : List Addr) : Prop where
  ext : Ext H H'
  new : ∀ a ∈ Ψ, H a = none
  nd : Ψ.Nodup
  own : Own K H' (fun a => a ∉ Ψ ∧ ∀ j, j ∉ B → a ∉ Φ j) m d v Ψ

structure SdE (K : PySem.W.Frag) (Γ : List Nat) (t : TE) (m : Nat) (B : List Nat) (f : Store → Option D) : Prop where
  run : ∀ {E : Entry} {ρ : Store} {σ : St} {H : Hp} {Φ : Nat → List Addr}, StR K E Γ ρ σ H Φ → ∀ (d : D), f ρ = some d → ∀ Q : VK, (∀ v H' Ψ, Res K B Φ m d H v H' Ψ → Q v H') → t σ H Q
structure SdT (K : PySem.W.Frag) (Γ : List Nat) (t : TT) (f : Store → Option Bool) : Prop where
  run : ∀ {E : Entry} {ρ : Store} {σ : St} {H : Hp} {Φ : Nat → List Addr}, StR K E Γ ρ σ H Φ → ∀ (b : Bool), f ρ = some b → ∀ Q : Bool → Hp → Prop, (∀ H', Ext H H' → Q b H') → t σ H Q
structure ResL (K : PySem.W.Frag) (B : List Nat) (Φ : Nat → List Addr) (m : Nat) (ds : List D) (H : Hp) (vs : List V) (H' : Hp) (Ψ : List Addr) : Prop where
  ext : Ext H H'
  new : ∀ a ∈ Ψ, H a = none
  nd : Ψ.Nodup
  own : OwnL K H' (fun a => a ∉ Ψ ∧ ∀ j, j ∉ B → a ∉ Φ j) m ds vs Ψ
structure SdA (K : PySem.W.Frag) (Γ : List Nat) (t : TA) (m : Nat) (B : List Nat) (f : Store → Option (List D)) : Prop where
  run : ∀ {E : Entry} {ρ : Store} {σ : St} {H : Hp} {Φ : Nat → List Addr}, StR K E Γ ρ σ H Φ → ∀ (ds : List D), f ρ = some ds → ∀ Q : List V → Hp → Prop, (∀ vs H' Ψ, ResL K B Φ m ds H vs H' Ψ → Q vs H') → t σ H Q

/-- an expression of the text, its reading, its value: f of the store, owned to depth m, borrowing from the slots B -/
structure Ev (X : Cx) (Γ : List Nat) (e : Expr) (m : Nat) (B : List Nat) (f : Store → Option D) (t : TE) : Prop where
  pe : PE X e t
  sd : SdE X.K Γ t m B f
structure Tv (X : Cx) (Γ : List Nat) (e : Expr) (f : Store → Option Bool) (t : TT) : Prop where
  pt : PT X e t
  sd : SdT X.K Γ t f
structure Wv (X : Cx) (Γ : List Nat) (e : Expr) (f : Store → Option Bool) (t : TT) : Prop where
  pw : PW X e t
  sd : SdT X.K Γ t f
structure Av (X : Cx) (Γ : List Nat) (es : List Expr) (m : Nat) (B : List Nat) (f : Store → Option (List D)) (t : TA) : Prop where
  pa : PA X es t
  sd : SdA X.K Γ t m B f

/-! ### nothing that may change within -/
mutual
def D.imm : D → Bool
  | .tup ds => D.immL ds
  | .lst _ => false
  | .dct _ _ => false
  | .obj _ _ _ => false
  | .non => true
  | .bl _ => true
  | .int _ => true
  | .str _ => true
def D.immL : List D → Bool
  | [] => true
  | d :: ds => d.imm && D.immL ds
end
/-! nothing that may change below depth r -/
mutual
def D.immB : Nat → D → Bool
  | 0, .tup ds => D.immL ds
  | 0, .lst _ => false
  | 0, .dct _ _ => false
  | 0, .obj _ _ _ => false
  | r + 1, .tup ds => D.immBL (r + 1) ds
  | r + 1, .lst ds => D.immBL r ds
  | r + 1, .dct _ ds => D.immBL r ds
  | r + 1, .obj _ _ ds => D.immBL r ds
  | _, .non => true
  | _, .bl _ => true
  | _, .int _ => true
  | _, .str _ => true
def D.immBL : Nat → List D → Bool
  | _, [] => true
  | r, d :: ds => D.immB r d && D.immBL r ds
end
mutual
theorem Own.imm {H H' : Hp} {N N' : Addr → Prop} (tp : ∀ a o, H a = some o → ¬ notTup o → H' a = some o) (k : Nat) : ∀ {n : Nat} {d : D} {v : V} {fp : List Addr}, Own K H N n d v fp → d.imm = true → Own K H' N' k d v []
  | _, _, _, _, .non, _ => .non
  | _, _, _, _, .bl, _ => .bl
  | _, _, _, _, .int, _ => .int
  | _, _, _, _, .str, _ => .str
  | _, _, _, _, .tup h l, i => .tup (SqT.kp h tp) (OwnL.imm tp k l (by rw [D.imm] at i; exact i))
  | _, _, _, _, .shl n h l, i => by rw [D.imm] at i; cases i
  | _, _, _, _, .kl h l, i => by rw [D.imm] at i; cases i
  | _, _, _, _, .lst h l, i => by rw [D.imm] at i; cases i
  | _, _, _, _, .shd n h e nd l, i => by rw [D.imm] at i; cases i
  | _, _, _, _, .dct h e nd l, i => by rw [D.imm] at i; cases i
  | _, _, _, _, .sho n h e l, i => by rw [D.imm] at i; cases i
  | _, _, _, _, .obj h e l, i => by rw [D.imm] at i; cases i
theorem OwnL.imm {H H' : Hp} {N N' : Addr → Prop} (tp : ∀ a o, H a = some o → ¬ notTup o → H' a = some o) (k : Nat) : ∀ {n : Nat} {d : List D} {v : List V} {fp : List Addr}, OwnL K H N n d v fp → D.immL d = true → OwnL K H' N' k d v []
  | _, _, _, _, .nil, _ => .nil
  | _, _, _, _, .cons h l, i => by
    rw [D.immL, Bool.and_eq_true] at i
    exact .cons (fp := []) (fps := []) (Own.imm tp k h i.1) (OwnL.imm tp k l i.2)
end
mutual
theorem Own.immB {H : Hp} {N N' : Addr → Prop} : ∀ {n : Nat} {d : D} {v : V} {fp : List Addr}, Own K H N n d v fp → d.immB n = true → Own K H N' n d v fp
  | _, _, _, _, .non, _ => .non
  | _, _, _, _, .bl, _ => .bl
  | _, _, _, _, .int, _ => .int
  | _, _, _, _, .str, _ => .str
  | 0, _, _, _, .tup h l, i => by
    rw [D.immB] at i
    have e := OwnL.fp0 l rfl
    subst e
    exact .tup h (OwnL.imm (fun a o e _ => e) 0 l i)
  | n + 1, _, _, _, .tup h l, i => .tup h (OwnL.immB l (by rw [D.immB] at i; exact i))
  | _, _, _, _, .shl n h l, i => by rw [D.immB] at i; cases i
  | _, _, _, _, .kl h l, i => by rw [D.immB] at i; cases i
  | _, _, _, _, .lst h l, i => .lst h (OwnL.immB l (by rw [D.immB] at i; exact i))
  | _, _, _, _, .shd n h e nd l, i => by rw [D.immB] at i; cases i
  | _, _, _, _, .dct h e nd l, i => .dct h e nd (OwnL.immB l (by rw [D.immB] at i; exact i))
  | _, _, _, _, .sho n h e l, i => by rw [D.immB] at i; cases i
  | _, _, _, _, .obj h e l, i => .obj h e (OwnL.immB l (by rw [D.immB] at i; exact i))
theorem OwnL.immB {H : Hp} {N N' : Addr → Prop} : ∀ {n : Nat} {d : List D} {v : List V} {fp : List Addr}, OwnL K H N n d v fp → D.immBL n d = true → OwnL K H N' n d v fp
  | _, _, _, _, .nil, _ => .nil
  | _, _, _, _, .cons h l, i => by
    rw [D.immBL, Bool.and_eq_true] at i
    exact .cons (Own.immB h i.1) (OwnL.immB l i.2)
end

/-! ### from mode to mode -/
theorem SdE.share {Γ : List Nat} {t : TE} {m : Nat} {B : List Nat} {f : Store → Option D} (h : SdE K Γ t m B f) : SdE K Γ t 0 B f := ⟨fun R d e Q q =>
  h.run R d e Q fun v H' Ψ r => q v H' [] ⟨r.ext, fun a m => (nomatch m), .nil, r.own.share (fun a z => ⟨List.not_mem_nil, z.2⟩) fun a m => ⟨List.not_mem_nil, fun j _ => R.notIn (r.new a m) j⟩⟩⟩
def eImm (f : Store → Option D) : Store → Option D := fun ρ => match f ρ with | some d => if d.imm = true then some d else none | none => none
theorem SdE.imm {Γ : List Nat} {t : TE} {m : Nat} {B : List Nat} {f : Store → Option D} (n : Nat) (h : SdE K Γ t m B f) : SdE K Γ t n [] (eImm f) := by
  refine ⟨fun {E ρ σ H Φ} R d e Q q => ?_⟩
  unfold eImm at e
  cases e1 : f ρ with
  | none => rw [e1] at e; cases e
  | some d' =>
    rw [e1] at e
    replace e : (if d'.imm = true then some d' else none) = some d := e
    by_cases i : d'.imm = true
    · rw [if_pos i] at e; cases e
      exact h.run R _ e1 Q fun v H' Ψ r => q v H' [] ⟨r.ext, fun a m => (nomatch m), .nil, r.own.imm (fun a o e _ => e) n i⟩
    · rw [if_neg i] at e; cases e
theorem SdE.more {Γ : List Nat} {t : TE} {m : Nat} {B B' : List Nat} {f : Store → Option D} (h : SdE K Γ t m B f) (i : ∀ j, j ∈ B → j ∈ B') : SdE K Γ t m B' f := ⟨fun R d e Q q =>
  h.run R d e Q fun v H' Ψ r => q v H' Ψ ⟨r.ext, r.new, r.nd, r.own.move (fun a o e _ => e) (fun a o e z => ⟨e, z.1, fun j n => z.2 j fun m => n (i j m)⟩) fun a _ o e => e⟩⟩

section
variable {X : Cx} {Γ : List Nat} {e : Expr} {m : Nat} {B B1 B2 : List Nat} {f g : Store → Option D} {t u : TE} {pos : Pos}
theorem Ev.share (h : Ev X Γ e m B f t) : Ev X Γ e 0 B f t := ⟨h.pe, h.sd.share⟩
theorem Ev.imm (n : Nat) (h : Ev X Γ e m B f t) : Ev X Γ e n [] (eImm f) t := ⟨h.pe, h.sd.imm n⟩

/-! ### names, constants -/
def eVar (i : Nat) : Store → Option D := fun ρ => (ρ[i]?).join
theorem eVar_some {i : Nat} {ρ : Store} {d : D} (h : eVar i ρ = some d) : ρ[i]? = some (some d) := by
  unfold eVar at h
  cases e : ρ[i]? with
  | none => rw [e] at h; cases h
  | some o => rw [e] at h; cases o with
    | none => cases h
    | some d' => cases h; rfl
theorem sd_var {i : Nat} (h0 : Γ.getD i 0 = 0) : SdE K Γ (tVar i) 0 [] (eVar i) := by
  refine ⟨fun R d e Q q => ?_⟩
  obtain ⟨v, h1, h2⟩ := R.val i d (eVar_some e)
  rw [h0, R.em i (lt_of_some (eVar_some e)) h0] at h2
  exact ⟨v, h1, q v _ [] ⟨.rfl' _, fun a m => (nomatch m), .nil, h2.move (fun a o e _ => e) (fun a o e z => ⟨e, List.not_mem_nil, fun j _ => z j⟩) fun a _ o e => e⟩⟩
theorem sd_lend {i : Nat} : SdE K Γ (tVar i) 0 [i] (eVar i) := by
  refine ⟨fun R d e Q q => ?_⟩
  obtain ⟨v, h1, h2⟩ := R.val i d (eVar_some e)
  refine ⟨v, h1, q v _ [] ⟨.rfl' _, fun a m => (nomatch m), .nil, h2.share (fun a z => ⟨List.not_mem_nil, fun j _ => z j⟩) fun a m => ⟨List.not_mem_nil, fun j n m' => n ?_⟩⟩⟩
  rw [R.dj i j a m m']; exact List.mem_singleton.mpr rfl
theorem ev_var {i : Nat} {x : Str} (hN : X.N[i]? = some x) (hv : Vis X.env.scope x) (h0 : Γ.getD i 0 = 0) (hd : (x == ("__debug__" : Str)) = false := by decide) (hcd : (x == ("__classdict__" : Str)) = false := by decide) : Ev X Γ (.Name x pos) 0 [] (eVar i) (tVar i) :=
  ⟨pe_var hN hv hd hcd, sd_var h0⟩
theorem ev_lend {i : Nat} {x : Str} (hN : X.N[i]? = some x) (hv : Vis X.env.scope x) (hd : (x == ("__debug__" : Str)) = false := by decide) (hcd : (x == ("__classdict__" : Str)) = false := by decide) : Ev X Γ (.Name x pos) 0 [i] (eVar i) (tVar i) :=
  ⟨pe_var hN hv hd hcd, sd_lend⟩
/-- a scalar as a value -/
def ofV : V → D
  | .non => .non
  | .bl b => .bl b
  | .int i => .int i
  | .str x => .str x
  | _ => .non
def scalV : V → Bool
  | .non => true
  | .bl _ => true
  | .int _ => true
  | .str _ => true
  | _ => false
theorem own_ofV {H : Hp} {N : Addr → Prop} {n : Nat} {v : V} (h : scalV v = true) : Own K H N n (ofV v) v [] := by
  cases v with
  | non => exact .non
  | bl b => exact .bl
  | int i => exact .int
  | str x => exact .str
  | byt _ => cases h
  | flt _ => cases h
  | ref _ => cases h
  | ty _ => cases h
def eC (d : D) : Store → Option D := fun _ => some d
theorem sd_c {v : V} (h : scalV v = true) : SdE K Γ (tC v) 0 [] (eC (ofV v)) := by
  refine ⟨fun R d e Q q => ?_⟩
  cases e
  exact q v _ [] ⟨.rfl' _, fun a m => (nomatch m), .nil, own_ofV h⟩
theorem ev_int {i j} : Ev X Γ (.Constant (.int i) j pos) 0 [] (eC (.int i)) (tC (.int i)) := ⟨pe_int, sd_c rfl⟩
theorem ev_bl {b j} : Ev X Γ (.Constant (.bool b) j pos) 0 [] (eC (.bl b)) (tC (.bl b)) := ⟨pe_bl, sd_c rfl⟩
theorem ev_non {j} : Ev X Γ (.Constant .none j pos) 0 [] (eC .non) (tC .non) := ⟨pe_non, sd_c rfl⟩
theorem ev_str {x j} : Ev X Γ (.Constant (.str x) j pos) 0 [] (eC (.str x)) (tC (.str x)) := ⟨pe_str, sd_c rfl⟩

/-! ### two operands, shared; what the operation asks by values -/
/-- the operation r on what stands for two values does g -/
structure Op2 (K : PySem.W.Frag) (r : R2) (m : Nat) (g : D → D → Option D) : Prop where
  run : ∀ {H : Hp} {N : Addr → Prop} {d1 d2 d : D} {v1 v2 : V}, Own K H N 0 d1 v1 [] → Own K H N 0 d2 v2 [] → g d1 d2 = some d → ∀ Q : VK,
    (∀ v H' Ψ, Ext H H' → (∀ a ∈ Ψ, H a = none) → Ψ.Nodup → Own K H' (fun a => N a ∨ (H a = none ∧ a ∉ Ψ)) m d v Ψ → Q v H') → r v1 v2 H Q
def e2 (g : D → D → Option D) (f1 f2 : Store → Option D) : Store → Option D := fun ρ => match f1 ρ with
  | some d1 => (match f2 ρ with | some d2 => g d1 d2 | none => none)
  | none => none
theorem e2_some {g : D → D → Option D} {f1 f2 : Store → Option D} {ρ : Store} {d : D} (h : e2 g f1 f2 ρ = some d) : ∃ d1 d2, f1 ρ = some d1 ∧ f2 ρ = some d2 ∧ g d1 d2 = some d := by
  unfold e2 at h
  split at h
  · rename_i d1 h1
    split at h
    · rename_i d2 h2
      exact ⟨d1, d2, h1, h2, h⟩
    · cases h
  · cases h
/-- both operands, at their common place -/
theorem two {t u : TE} {m1 m2 : Nat} {f1 f2 : Store → Option D} (h1 : SdE K Γ t m1 B1 f1) (h2 : SdE K Γ u m2 B2 f2) {E : Entry} {ρ : Store} {σ : St} {H : Hp} {Φ : Nat → List Addr} (R : StR K E Γ ρ σ H Φ) {d1 d2 : D} (e1 : f1 ρ = some d1) (e2 : f2 ρ = some d2)
    (Q : V → V → Hp → Prop) (q : ∀ v1 v2 H', Ext H H' → Own K H' (fun a => (∃ o, H' a = some o) ∧ ∀ j, j ∉ B1 ++ B2 → a ∉ Φ j) 0 d1 v1 [] → Own K H' (fun a => (∃ o, H' a = some o) ∧ ∀ j, j ∉ B1 ++ B2 → a ∉ Φ j) 0 d2 v2 [] → Q v1 v2 H') : t σ H fun x H1 => u σ H1 fun y H2 => Q x y H2 := by
  refine h1.share.run R _ e1 _ fun v1 H1 Ψ1 r1 => ?_
  refine h2.share.run (R.ext r1.ext) _ e2 _ fun v2 H2 Ψ2 r2 => ?_
  have z1 := r1.own
  have z2 := r2.own
  rw [z1.fp0 rfl] at z1
  rw [z2.fp0 rfl] at z2
  refine q v1 v2 H2 (fun a o e => r2.ext a o (r1.ext a o e)) (z1.move (fun a o e _ => r2.ext a o e) (fun a o e n => ⟨r2.ext a o e, ⟨o, r2.ext a o e⟩, fun j nj => n.2 j fun m => nj (List.mem_append_left _ m)⟩) fun a _ o e => r2.ext a o e) (z2.move (fun a o e _ => e) (fun a o e n => ⟨e, ⟨o, e⟩, fun j nj => n.2 j fun m => nj (List.mem_append_right _ m)⟩) fun a _ o e => e)
theorem sd_2 {r : R2} {g : D → D → Option D} {m1 m2 : Nat} {f1 f2 : Store → Option D} (ho : Op2 K r m g) (h1 : SdE K Γ t m1 B1 f1) (h2 : SdE K Γ u m2 B2 f2) : SdE K Γ (tOp r t u) m (B1 ++ B2) (e2 g f1 f2) := by
  refine ⟨fun {E ρ σ H Φ} R d e Q q => ?_⟩
  obtain ⟨d1, d2, x1, x2, x3⟩ := e2_some e
  refine two h1 h2 R x1 x2 _ fun v1 v2 H' x o1 o2 => ?_
  refine ho.run o1 o2 x3 Q fun v H2 Ψ x' new nd o => ?_
  refine q v H2 Ψ ⟨fun a o e => x' a o (x a o e), fun a m => ?_, nd, o.move (fun a o e _ => e) (fun a o e z => ⟨e, ?_⟩) fun a _ o e => e⟩
  · cases e : H a with
    | none => rfl
    | some o => have := x a o e; rw [new a m] at this; cases this
  · rcases z with z | ⟨z, nΨ⟩
    · refine ⟨fun m => ?_, z.2⟩
      obtain ⟨o', z'⟩ := z.1
      rw [new a m] at z'; cases z'
    · exact ⟨nΨ, fun j _ => (R.ext x).notIn z j⟩
/-- ints in, a scalar out -/
def gI (C : Int → Int → Prop) [∀ i j, Decidable (C i j)] (g : Int → Int → V) : D → D → Option D
  | .int i, .int j => if C i j then some (ofV (g i j)) else none
  | _, _ => none
theorem op2_I {C : Int → Int → Prop} [∀ i j, Decidable (C i j)] {g : Int → Int → V} (hs : ∀ i j, scalV (g i j) = true) : Op2 K (rI C g) 0 (gI C g) := by
  refine ⟨fun o1 o2 e Q q => ?_⟩
  unfold gI at e
  split at e
  · rename_i i j
    split at e
    · rename_i hc
      cases e
      cases o1; cases o2
      exact ⟨i, j, rfl, rfl, hc, q _ _ [] (.rfl' _) (fun a m => (nomatch m)) .nil (own_ofV (hs i j))⟩
    · cases e
  · cases e
def gI0 (g : Int → Int → V) : D → D → Option D
  | .int i, .int j => some (ofV (g i j))
  | _, _ => none
theorem op2_I0 {g : Int → Int → V} (hs : ∀ i j, scalV (g i j) = true) : Op2 K (rI0 g) 0 (gI0 g) := by
  refine ⟨fun o1 o2 e Q q => ?_⟩
  unfold gI0 at e
  split at e
  · rename_i i j
    cases e
    cases o1; cases o2
    exact ⟨i, j, rfl, rfl, q _ _ [] (.rfl' _) (fun a m => (nomatch m)) .nil (own_ofV (hs i j))⟩
  · cases e
end
end VL

/-! VL3: statements over the store; a def. -/
namespace VL
open PySem PySem.Spec L2
open PyProof.Rows hiding St

/-- how a block ends -/
inductive O where
  | nx (ρ : Store) | rt (d : D) (ρ : Store) | bk (ρ : Store) | ct (ρ : Store) | ex (C : Addr) (w : Option D) (ρ : Store)
/-- an exception of the class at C; w: what stands in its field line -/
def ExR (H : Hp) (w : Option D) (dx : Option Addr) : Prop := match w with
  | none => dx = none
  | some d => ∃ a v, dx = some a ∧ H a = some (.xd [("line", v)]) ∧ scalV v = true ∧ d = ofV v

variable {K : PySem.W.Frag}
/-- a return's end -/
def RtR (K : PySem.W.Frag) (E : Entry) (r : Nat) (d : D) (ρ : Store) (v : V) (H : Hp) : Prop :=
  ∃ (Γ : List Nat) (σ : St) (Φ : Nat → List Addr) (Ψ : List Addr), StR K E Γ ρ σ H Φ ∧ (∀ i, E.io i ≠ 0 → Γ.getD i 0 = E.io i) ∧ (∀ a ∈ Ψ, E.H0 a = none) ∧ Ψ.Nodup ∧ (∀ i, E.io i ≠ 0 → ∀ a ∈ Ψ, a ∉ Φ i) ∧ ∀ N, Own K H N r d v Ψ
def Post (K : PySem.W.Frag) (E : Entry) (W : WX) (r : Nat) (Γb Γ' : List Nat) (D : Ends) : O → Prop
  | .nx ρ => ∀ σ H Φ, StR K E Γ' ρ σ H Φ → D.nx σ H
  | .bk ρ => ∀ σ H Φ, StR K E Γb ρ σ H Φ → D.bk σ H
  | .ct ρ => ∀ σ H Φ, StR K E Γb ρ σ H Φ → D.ct σ H
  | .rt d ρ => ∀ v H, RtR K E r d ρ v H → D.rt v H
  | .ex C w ρ => ∀ Γ σ H Φ dx, StR K E Γ ρ σ H Φ → ExR H w dx → W (.ref C) dx σ H
structure SdS (K : PySem.W.Frag) (W : WX) (I : Nat → Nat) (r : Nat) (Γ Γb Γ' : List Nat) (t : TS) (F : Store → Option O) : Prop where
  run : ∀ {E : Entry} {ρ : Store} {σ : St} {H : Hp} {Φ : Nat → List Addr}, E.io = I → StR K E Γ ρ σ H Φ → ∀ (o : O), F ρ = some o → ∀ D : Ends, Post K E W r Γb Γ' D o → t D σ H
structure Sv (X : Cx) (W : WX) (I : Nat → Nat) (r : Nat) (Γ Γb : List Nat) (st : Stmt) (Γ' : List Nat) (F : Store → Option O) (t : TS) : Prop where
  ps : PS X st t
  sd : SdS X.K W I r Γ Γb Γ' t F
structure Lv (X : Cx) (W : WX) (I : Nat → Nat) (r : Nat) (Γ Γb : List Nat) (st : List Stmt) (Γ' : List Nat) (F : Store → Option O) (t : TS) : Prop where
  pss : PSs X st t
  sd : SdS X.K W I r Γ Γb Γ' t F

/-! ### the store changes -/
section
variable {E : Entry} {Γ : List Nat} {ρ : Store} {σ : St} {H : Hp} {Φ : Nat → List Addr}
/-- a slot is stored -/
theorem StR.set {i m : Nat} {d : D} {v : V} {H' : Hp} {Ψ : List Addr} (R : StR K E Γ ρ σ H Φ) (r : Res K [] Φ m d H v H' Ψ) (hG : i < Γ.length) (hi : E.io i = 0) :
    StR K E (Γ.set i m) (ρ.set i (some d)) (σ.set i (some v)) H' (fun j => if j = i then Ψ else Φ j) := by
  have R' := R.ext r.ext
  have nΨ : ∀ a o, H a = some o → a ∉ Ψ := fun a o e m => by have := r.new a m; rw [e] at this; cases this
  have gne : ∀ j, j ≠ i → (Γ.set i m).getD j 0 = Γ.getD j 0 := fun j n => by
    rw [List.getD_eq_getElem?_getD, List.getD_eq_getElem?_getD, List.getElem?_set_ne (Ne.symm n)]
  have geq : (Γ.set i m).getD i 0 = m := by
    rw [List.getD_eq_getElem?_getD, List.getElem?_set_self hG]; rfl
  refine ⟨by rw [List.length_set, List.length_set]; exact R.len, by rw [List.length_set, List.length_set]; exact R.gl, fun j d' e => ?_, fun j lj e => ?_, fun j => ?_, fun j k a h1 h2 => ?_, fun j a h => ?_, fun j a h => ?_, R'.kp, R'.dm, fun j n => ?_, fun p m => (R.gh p m).move (fun a o e _ => r.ext a o e) (fun a o e z => ⟨r.ext a o e, fun k => by
    show a ∉ (if k = i then Ψ else Φ k)
    split
    · exact nΨ a o e
    · exact z k⟩) fun a m => (nomatch m)⟩
  · by_cases hj : j = i
    · subst hj
      by_cases hl : j < ρ.length
      · rw [List.getElem?_set_self hl] at e
        cases e
        refine ⟨v, List.getElem?_set_self (by rw [R.len]; exact hl), ?_⟩
        rw [geq, if_pos rfl]
        refine r.own.move (fun a o e _ => e) (fun a o e z => ⟨e, fun k => ?_⟩) fun a _ o e => e
        split
        · exact z.1
        · exact z.2 k List.not_mem_nil
      · rw [List.getElem?_eq_none (by rw [List.length_set]; omega)] at e; cases e
    · rw [List.getElem?_set_ne (Ne.symm hj)] at e
      obtain ⟨v', h1, h2⟩ := R.val j d' e
      refine ⟨v', by rw [List.getElem?_set_ne (Ne.symm hj)]; exact h1, ?_⟩
      rw [gne j hj, if_neg hj]
      refine h2.move (fun a o e _ => r.ext a o e) (fun a o e z => ⟨r.ext a o e, fun k => ?_⟩) fun a _ o e => r.ext a o e
      split
      · exact nΨ a o e
      · exact z k
  · show (if j = i then Ψ else Φ j) = []
    by_cases hj : j = i
    · subst hj
      rw [geq] at e
      subst e
      rw [if_pos rfl]
      exact r.own.fp0 rfl
    · rw [gne j hj] at e
      rw [if_neg hj]
      exact R.em j (by rw [List.length_set] at lj; exact lj) e
  · show (if j = i then Ψ else Φ j).Nodup
    split
    · exact r.nd
    · exact R.nd j
  · have h1 : a ∈ (if j = i then Ψ else Φ j) := h1
    have h2 : a ∈ (if k = i then Ψ else Φ k) := h2
    split at h1
    · split at h2
      · rename_i a b; rw [a, b]
      · exact absurd h2 (R.notIn (r.new a h1) k)
    · split at h2
      · exact absurd h1 (R.notIn (r.new a h2) j)
      · exact R.dj j k a h1 h2
  · have h : a ∈ (if j = i then Ψ else Φ j) := h
    split at h
    · exact r.own.live a h
    · exact R'.lv j a h
  · have h : a ∈ (if j = i then Ψ else Φ j) := h
    split at h
    · exact .inl (R.fresh (r.new a h))
    · exact R.nw j a h
  · by_cases hj : j = i
    · subst hj; exact absurd hi n
    · rw [List.getElem?_set_ne (Ne.symm hj)]
      exact R.iv j n
/-- what a slot owns is changed -/
theorem StR.mut {i : Nat} {d : D} {v : V} {H2 : Hp} {Ψ : List Addr} (R : StR K E Γ ρ σ H Φ) (hv : σ[i]? = some (some v)) (hm : Γ.getD i 0 ≠ 0) (kp : ∀ a o, H a = some o → a ∉ Φ i → H2 a = some o) (dm : ∀ a o, H a = some o → ∃ o', H2 a = some o')
    (own : Own K H2 (fun a => a ∉ Ψ ∧ ∀ j, j ≠ i → a ∉ Φ j) (Γ.getD i 0) d v Ψ) (nd : Ψ.Nodup) (src : ∀ a ∈ Ψ, a ∈ Φ i ∨ H a = none) :
    StR K E Γ (ρ.set i (some d)) σ H2 (fun j => if j = i then Ψ else Φ j) := by
  have tp : ∀ a o, H a = some o → ¬ notTup o → H2 a = some o := fun a o e t => kp a o e fun m => by
    obtain ⟨o', e', t'⟩ := R.lv i a m
    rw [e] at e'; cases e'; exact t t'
  have nΨ : ∀ j, j ≠ i → ∀ a, a ∈ Φ j → a ∉ Ψ := fun j n a m m' => by
    rcases src a m' with z | z
    · exact n (R.dj j i a m z)
    · exact R.notIn z j m
  refine ⟨by rw [List.length_set]; exact R.len, by rw [List.length_set]; exact R.gl, fun j d' e => ?_, fun j lj e => ?_, fun j => ?_, fun j k a h1 h2 => ?_, fun j a h => ?_, fun j a h => ?_, ?_, fun a o e => ?_, R.iv, fun p m => (R.gh p m).move tp (fun a o e z => ⟨kp a o e (z i), fun k => by
    show a ∉ (if k = i then Ψ else Φ k)
    split
    · intro m'
      rcases src a m' with q | q
      · exact z i q
      · rw [e] at q; cases q
    · exact z k⟩) fun a m => (nomatch m)⟩
  · by_cases hj : j = i
    · subst hj
      by_cases hl : j < ρ.length
      · rw [List.getElem?_set_self hl] at e
        cases e
        refine ⟨v, hv, ?_⟩
        rw [if_pos rfl]
        refine own.move (fun a o e _ => e) (fun a o e z => ⟨e, fun k => ?_⟩) fun a _ o e => e
        split
        · exact z.1
        · rename_i nk; exact z.2 k nk
      · rw [List.getElem?_eq_none (by rw [List.length_set]; omega)] at e; cases e
    · rw [List.getElem?_set_ne (Ne.symm hj)] at e
      obtain ⟨v', h1, h2⟩ := R.val j d' e
      refine ⟨v', h1, ?_⟩
      rw [if_neg hj]
      refine h2.move tp (fun a o e z => ⟨kp a o e (z i), fun k => ?_⟩) fun a m o e => kp a o e fun m' => hj (R.dj j i a m m')
      split
      · intro m'
        rcases src a m' with q | q
        · exact z i q
        · rw [e] at q; cases q
      · exact z k
  · show (if j = i then Ψ else Φ j) = []
    by_cases hj : j = i
    · subst hj; exact absurd e hm
    · rw [if_neg hj]; exact R.em j (by rw [List.length_set] at lj; exact lj) e
  · show (if j = i then Ψ else Φ j).Nodup
    split
    · exact nd
    · exact R.nd j
  · have h1 : a ∈ (if j = i then Ψ else Φ j) := h1
    have h2 : a ∈ (if k = i then Ψ else Φ k) := h2
    split at h1
    · split at h2
      · rename_i a b; rw [a, b]
      · rename_i nk; exact absurd h1 (nΨ k nk a h2)
    · split at h2
      · rename_i nj _; exact absurd h2 (nΨ j nj a h1)
      · exact R.dj j k a h1 h2
  · have h : a ∈ (if j = i then Ψ else Φ j) := h
    split at h
    · exact own.live a h
    · rename_i nj
      obtain ⟨o, e, t⟩ := R.lv j a h
      exact ⟨o, kp a o e fun m => nj (R.dj j i a h m), t⟩
  · have h : a ∈ (if j = i then Ψ else Φ j) := h
    split at h
    · rename_i ej
      rcases src a h with z | z
      · rw [ej]; exact R.nw i a z
      · exact .inl (R.fresh z)
    · exact R.nw j a h
  · refine ⟨fun a o e n => kp a o (R.kp.kp a o e n) fun m => ?_, fun a o e nt => tp a o (R.kp.tp a o e nt) nt⟩
    rcases R.nw i a m with z | ⟨z, z'⟩
    · rw [e] at z; cases z
    · exact n i z z'
  · obtain ⟨o', e'⟩ := R.dm a o e
    exact dm a o' e'
end

/-! ### small statements -/
section
variable {W : WX} {I : Nat → Nat} {r : Nat} {Γ Γb Γ1 Γ2 Γ' : List Nat}
def sNx : Store → Option O := fun ρ => some (.nx ρ)
theorem sd_nx : SdS K W I r Γ Γb Γ tNext sNx := ⟨fun _ R o e D q => by cases e; exact q _ _ _ R⟩
def sSeq (F G : Store → Option O) : Store → Option O := fun ρ => match F ρ with
  | some (.nx ρ') => G ρ'
  | o => o
theorem sd_seq {t u : TS} {F G : Store → Option O} (h1 : SdS K W I r Γ Γb Γ1 t F) (h2 : SdS K W I r Γ1 Γb Γ2 u G) : SdS K W I r Γ Γb Γ2 (tSeq t u) (sSeq F G) := by
  refine ⟨fun {E ρ σ H Φ} hi R o e D q => ?_⟩
  unfold sSeq at e
  split at e
  · rename_i ρ' e1
    exact h1.run hi R _ e1 { D with nx := u D } fun σ' H' Φ' R' => h2.run hi R' o e D q
  · rename_i o' n
    refine h1.run hi R o e { D with nx := u D } ?_
    cases o with
    | nx ρ' => exact (n ρ' e).elim
    | rt d ρ' => exact q
    | bk ρ' => exact q
    | ct ρ' => exact q
    | ex C w ρ' => exact q
def sIf (c : Store → Option Bool) (F G : Store → Option O) : Store → Option O := fun ρ => match c ρ with
  | some true => F ρ
  | some false => G ρ
  | none => none
theorem sd_if {tc : TT} {t u : TS} {c : Store → Option Bool} {F G : Store → Option O} (hc : SdT K Γ tc c) (h1 : SdS K W I r Γ Γb Γ' t F) (h2 : SdS K W I r Γ Γb Γ' u G) : SdS K W I r Γ Γb Γ' (tIfS tc t u) (sIf c F G) := by
  refine ⟨fun {E ρ σ H Φ} hi R o e D q => ?_⟩
  unfold sIf at e
  split at e
  · rename_i e1
    refine hc.run R _ e1 _ fun H1 x => ?_
    rw [if_pos rfl]
    exact h1.run hi (R.ext x) o e D q
  · rename_i e1
    refine hc.run R _ e1 _ fun H1 x => ?_
    rw [if_neg Bool.false_ne_true]
    exact h2.run hi (R.ext x) o e D q
  · cases e
def sSet (i : Nat) (f : Store → Option D) : Store → Option O := fun ρ => match f ρ with
  | some d => some (.nx (ρ.set i (some d)))
  | none => none
theorem sd_set {i m : Nat} {te : TE} {f : Store → Option D} (h : SdE K Γ te m [] f) (hG : i < Γ.length) (hi : I i = 0) : SdS K W I r Γ Γb (Γ.set i m) (tAsg te (gName i)) (sSet i f) := by
  refine ⟨fun {E ρ σ H Φ} hI R o e D q => ?_⟩
  unfold sSet at e
  split at e
  · rename_i d e1
    cases e
    refine h.run R _ e1 _ fun v H' Ψ x => ?_
    exact q _ _ _ (R.set x hG (by rw [hI]; exact hi))
  · cases e
def sDrop (f : Store → Option D) : Store → Option O := fun ρ => match f ρ with
  | some _ => some (.nx ρ)
  | none => none
theorem sd_drop {m : Nat} {B : List Nat} {te : TE} {f : Store → Option D} (h : SdE K Γ te m B f) : SdS K W I r Γ Γb Γ (tDrop te) (sDrop f) := by
  refine ⟨fun {E ρ σ H Φ} hI R o e D q => ?_⟩
  unfold sDrop at e
  split at e
  · rename_i d e1
    cases e
    exact h.run R _ e1 _ fun v H' Ψ x => q _ _ _ (R.ext x.ext)
  · cases e
/-- return e: what may change in it is new -/
def sRet (r : Nat) (f : Store → Option D) : Store → Option O := fun ρ => match f ρ with
  | some d => if d.immB r = true then some (.rt d ρ) else none
  | none => none
theorem sd_ret {B : List Nat} {te : TE} {f : Store → Option D} (h : SdE K Γ te r B f) (hio : ∀ i, I i ≠ 0 → Γ.getD i 0 = I i) : SdS K W I r Γ Γb Γ' (tRet te) (sRet r f) := by
  refine ⟨fun {E ρ σ H Φ} hI R o e D q => ?_⟩
  unfold sRet at e
  split at e
  · rename_i d e1
    split at e
    · rename_i hm
      cases e
      refine h.run R _ e1 _ fun v H' Ψ x => ?_
      exact q v H' ⟨Γ, σ, Φ, Ψ, R.ext x.ext, fun i n => by rw [hI] at n ⊢; exact hio i n, fun a m => R.fresh (x.new a m), x.nd, fun i _ a m => R.notIn (x.new a m) i, fun N => x.own.immB hm⟩
    · cases e
  · cases e
/-- return x, x a slot's own -/
theorem sd_retv {i : Nat} (hi : I i = 0) (hm : Γ.getD i 0 = r) (hio : ∀ i, I i ≠ 0 → Γ.getD i 0 = I i) : SdS K W I r Γ Γb Γ' (tRet (tVar i)) (sRet r (eVar i)) := by
  refine ⟨fun {E ρ σ H Φ} hI R o e D q => ?_⟩
  unfold sRet at e
  split at e
  · rename_i d e1
    split at e
    · rename_i him
      cases e
      obtain ⟨v, h1, h2⟩ := R.val i d (eVar_some e1)
      rw [hm] at h2
      refine ⟨v, h1, q v H ⟨Γ, σ, Φ, Φ i, R, fun i n => by rw [hI] at n ⊢; exact hio i n, fun a m => ?_, R.nd i, fun j n a m m' => ?_, fun N => h2.immB him⟩⟩
      · rcases R.nw i a m with z | ⟨z, _⟩
        · exact z
        · rw [hI] at z; exact absurd hi z
      · have := R.dj i j a m m'
        subst this
        rw [hI] at n; exact n hi
    · cases e
  · cases e
def sRetN : Store → Option O := fun ρ => some (.rt .non ρ)
theorem sd_retN (hio : ∀ i, I i ≠ 0 → Γ.getD i 0 = I i) : SdS K W I r Γ Γb Γ' tRetN sRetN := by
  refine ⟨fun {E ρ σ H Φ} hI R o e D q => ?_⟩
  cases e
  exact q .non H ⟨Γ, σ, Φ, [], R, fun i n => by rw [hI] at n ⊢; exact hio i n, fun a m => (nomatch m), .nil, fun i _ a m => (nomatch m), fun N => .non⟩
def sBk : Store → Option O := fun ρ => some (.bk ρ)
theorem sd_bk : SdS K W I r Γ Γ Γ' tBreak sBk := ⟨fun _ R o e D q => by cases e; exact q _ _ _ R⟩
def sCt : Store → Option O := fun ρ => some (.ct ρ)
theorem sd_ct : SdS K W I r Γ Γ Γ' tCont sCt := ⟨fun _ R o e D q => by cases e; exact q _ _ _ R⟩
end
end VL

/-! VL4: loops, comprehensions. -/
namespace VL
open PySem PySem.Spec L2
open PyProof.Rows hiding St
variable {K : PySem.W.Frag}

theorem Own.int_inv {H : Hp} {N : Addr → Prop} {n : Nat} {i : Int} {v : V} {fp : List Addr} (o : Own K H N n (.int i) v fp) : v = .int i ∧ fp = [] := by
  cases o; exact ⟨rfl, rfl⟩
theorem Own.bl_inv {H : Hp} {N : Addr → Prop} {n : Nat} {i : Bool} {v : V} {fp : List Addr} (o : Own K H N n (.bl i) v fp) : v = .bl i ∧ fp = [] := by
  cases o; exact ⟨rfl, rfl⟩
theorem Own.str_inv {H : Hp} {N : Addr → Prop} {n : Nat} {i : Str} {v : V} {fp : List Addr} (o : Own K H N n (.str i) v fp) : v = .str i ∧ fp = [] := by
  cases o; exact ⟨rfl, rfl⟩
theorem Own.tup_inv {H : Hp} {N : Addr → Prop} {n : Nat} {ds : List D} {v : V} {fp : List Addr} (o : Own K H N n (.tup ds) v fp) : ∃ a vs, v = .ref a ∧ SqT K H a vs ∧ OwnL K H N n ds vs fp := by
  cases o with
  | tup h l => exact ⟨_, _, rfl, h, l⟩
theorem Own.lst_inv0 {H : Hp} {N : Addr → Prop} {ds : List D} {v : V} {fp : List Addr} (o : Own K H N 0 (.lst ds) v fp) : ∃ a vs, v = .ref a ∧ SqL K H a vs ∧ OwnL K H N 0 ds vs fp := by
  cases o with
  | shl n h l => exact ⟨_, _, rfl, .inl h, l⟩
  | kl h l =>
    refine ⟨_, _, rfl, ?_, l⟩
    rcases h with (h | ⟨o, h⟩) | h
    · cases h
    · cases h
    · exact .inr h
theorem Own.lst_inv {H : Hp} {N : Addr → Prop} {n : Nat} {ds : List D} {v : V} {fp : List Addr} (o : Own K H N n (.lst ds) v fp) (hn : n ≠ 0) : ∃ k a vs fp', n = k + 1 ∧ v = .ref a ∧ fp = a :: fp' ∧ H a = some (.lst vs) ∧ OwnL K H N k ds vs fp' := by
  cases o with
  | shl => exact absurd rfl hn
  | kl => exact absurd rfl hn
  | lst h l => exact ⟨_, _, _, _, rfl, rfl, rfl, h, l⟩
theorem OwnL.cons_inv {H : Hp} {N : Addr → Prop} {n : Nat} {d : D} {ds : List D} {vs : List V} {fp : List Addr} (o : OwnL K H N n (d :: ds) vs fp) : ∃ v vs' fp1 fp2, vs = v :: vs' ∧ fp = fp1 ++ fp2 ∧ Own K H N n d v fp1 ∧ OwnL K H N n ds vs' fp2 := by
  cases o with
  | cons h l => exact ⟨_, _, _, _, rfl, rfl, h, l⟩
theorem OwnL.cons_inv0 {H : Hp} {N : Addr → Prop} {d : D} {ds : List D} {vs : List V} {fp : List Addr} (o : OwnL K H N 0 (d :: ds) vs fp) : ∃ v vs', vs = v :: vs' ∧ Own K H N 0 d v [] ∧ OwnL K H N 0 ds vs' [] := by
  obtain ⟨v, vs', fp1, fp2, e1, e2, h, l⟩ := o.cons_inv
  rw [h.fp0 rfl] at h
  rw [l.fp0 rfl] at l
  exact ⟨v, vs', e1, h, l⟩
theorem OwnL.nil_inv {H : Hp} {N : Addr → Prop} {n : Nat} {vs : List V} {fp : List Addr} (o : OwnL K H N n [] vs fp) : vs = [] := by
  cases o; rfl
theorem OwnL.len {H : Hp} {N : Addr → Prop} {n : Nat} : ∀ {ds : List D} {vs : List V} {fp : List Addr}, OwnL K H N n ds vs fp → vs.length = ds.length
  | _, _, _, .nil => rfl
  | _, _, _, .cons _ l => by rw [List.length_cons, List.length_cons, OwnL.len l]
theorem OwnL.get0 {H : Hp} {N : Addr → Prop} : ∀ {ds : List D} {vs : List V} {fp : List Addr}, OwnL K H N 0 ds vs fp → ∀ {i : Nat} {d : D}, ds[i]? = some d → ∃ v, vs[i]? = some v ∧ Own K H N 0 d v []
  | _, _, _, .nil, i, d, e => by simp at e
  | _, _, _, .cons h l, 0, d, e => by
    simp at e; subst e
    rw [h.fp0 rfl] at h
    exact ⟨_, rfl, h⟩
  | _, _, _, .cons h l, i + 1, d, e => by
    obtain ⟨v, h1, h2⟩ := OwnL.get0 l (i := i) (d := d) (by simpa using e)
    exact ⟨v, by simpa using h1, h2⟩
/-- what slot i owns is shared from now on -/
theorem StR.dem {E : Entry} {Γ : List Nat} {ρ : Store} {σ : St} {H : Hp} {Φ : Nat → List Addr} (i : Nat) (R : StR K E Γ ρ σ H Φ) : StR K E (Γ.set i 0) ρ σ H (fun j => if j = i then [] else Φ j) := by
  have up : ∀ a, (∀ j, a ∉ Φ j) → ∀ j, a ∉ (if j = i then [] else Φ j) := fun a z j => by
    split
    · exact List.not_mem_nil
    · exact z j
  refine ⟨R.len, by rw [List.length_set]; exact R.gl, fun j d e => ?_, fun j lj e => ?_, fun j => ?_, fun j k a h1 h2 => ?_, fun j a h => ?_, fun j a h => ?_, R.kp, R.dm, R.iv, fun p m => (R.gh p m).move (fun a o e _ => e) (fun a o e z => ⟨e, up a z⟩) fun a m => (nomatch m)⟩
  · obtain ⟨v, h1, h2⟩ := R.val j d e
    refine ⟨v, h1, ?_⟩
    by_cases hj : j = i
    · subst hj
      have g0 : (Γ.set j 0).getD j 0 = 0 := by
        rw [List.getD_eq_getElem?_getD]
        by_cases hl : j < Γ.length
        · rw [List.getElem?_set_self hl]; rfl
        · rw [List.getElem?_eq_none (by rw [List.length_set]; omega)]; rfl
      rw [g0, if_pos rfl]
      refine h2.share up fun a m k => ?_
      split
      · exact List.not_mem_nil
      · rename_i nk; exact fun m' => nk (R.dj k j a m' m)
    · rw [if_neg hj]
      have g : (Γ.set i 0).getD j 0 = Γ.getD j 0 := by
        rw [List.getD_eq_getElem?_getD, List.getD_eq_getElem?_getD, List.getElem?_set_ne (Ne.symm hj)]
      rw [g]
      exact h2.move (fun a o e _ => e) (fun a o e z => ⟨e, up a z⟩) fun a _ o e => e
  · show (if j = i then [] else Φ j) = []
    split
    · rfl
    · rename_i hj
      refine R.em j lj ?_
      rw [List.getD_eq_getElem?_getD, List.getElem?_set_ne (Ne.symm hj), ← List.getD_eq_getElem?_getD] at e
      exact e
  · show (if j = i then [] else Φ j).Nodup
    split
    · exact .nil
    · exact R.nd j
  · have h1 : a ∈ (if j = i then [] else Φ j) := h1
    have h2 : a ∈ (if k = i then [] else Φ k) := h2
    split at h1
    · cases h1
    · split at h2
      · cases h2
      · exact R.dj j k a h1 h2
  · have h : a ∈ (if j = i then [] else Φ j) := h
    split at h
    · cases h
    · exact R.lv j a h
  · have h : a ∈ (if j = i then [] else Φ j) := h
    split at h
    · cases h
    · exact R.nw j a h
/-- new things that no slot holds are kept apart -/
theorem StR.hide {E : Entry} {Γ : List Nat} {ρ : Store} {σ : St} {H H' : Hp} {Φ : Nat → List Addr} {Ψ : List Addr} (R : StR K E Γ ρ σ H Φ) (x : Ext H H') (new : ∀ a ∈ Ψ, H a = none) (lv : ∀ a ∈ Ψ, ∃ o, H' a = some o ∧ notTup o) (nd : Ψ.Nodup) {J : Nat} (hJ : ρ.length ≤ J) :
    StR K E Γ ρ σ H' (fun j => if j = J then Φ j ++ Ψ else Φ j) := by
  have nΨ : ∀ a o, H a = some o → a ∉ Ψ := fun a o e m => by have := new a m; rw [e] at this; cases this
  have up : ∀ a o, H a = some o → (∀ j, a ∉ Φ j) → ∀ j, a ∉ (if j = J then Φ j ++ Ψ else Φ j) := fun a o e z j => by
    split
    · exact fun m => (List.mem_append.mp m).elim (z j) (nΨ a o e)
    · exact z j
  have sub : ∀ j a, a ∈ (if j = J then Φ j ++ Ψ else Φ j) → a ∈ Φ j ∨ (j = J ∧ a ∈ Ψ) := fun j a h => by
    split at h
    · rename_i ej
      exact (List.mem_append.mp h).elim .inl fun m => .inr ⟨ej, m⟩
    · exact .inl h
  have R' := R.ext x
  refine ⟨R.len, R.gl, fun j d e => ?_, fun j lj e => ?_, fun j => ?_, fun j k a h1 h2 => ?_, fun j a h => ?_, fun j a h => ?_, R'.kp, R'.dm, R.iv, fun p m => (R.gh p m).move (fun a o e _ => x a o e) (fun a o e z => ⟨x a o e, up a o e z⟩) fun a m => (nomatch m)⟩
  · obtain ⟨v, h1, h2⟩ := R.val j d e
    refine ⟨v, h1, ?_⟩
    rw [if_neg (by have := lt_of_some e; omega)]
    exact h2.move (fun a o e _ => x a o e) (fun a o e z => ⟨x a o e, up a o e z⟩) fun a _ o e => x a o e
  · rw [if_neg (by omega)]
    exact R.em j lj e
  · show (if j = J then Φ j ++ Ψ else Φ j).Nodup
    split
    · exact List.nodup_append.mpr ⟨R.nd j, nd, fun a m1 b m2 e => by subst e; exact R.notIn (new a m2) j m1⟩
    · exact R.nd j
  · rcases sub j a h1 with h1 | ⟨e1, h1⟩
    · rcases sub k a h2 with h2 | ⟨e2, h2⟩
      · exact R.dj j k a h1 h2
      · exact absurd h1 (R.notIn (new a h2) j)
    · rcases sub k a h2 with h2 | ⟨e2, h2⟩
      · exact absurd h2 (R.notIn (new a h1) k)
      · rw [e1, e2]
  · rcases sub j a h with h | ⟨_, h⟩
    · exact R'.lv j a h
    · exact lv a h
  · rcases sub j a h with h | ⟨_, h⟩
    · exact R.nw j a h
    · exact .inl (R.fresh (new a h))
section
variable {W : WX} {I : Nat → Nat} {r : Nat} {Γ Γb Γ1 Γ2 Γ' : List Nat} {t : TS} {F : Store → Option O}
theorem SdS.demIn (i : Nat) (h : SdS K W I r (Γ.set i 0) Γb Γ' t F) : SdS K W I r Γ Γb Γ' t F := ⟨fun hi R o e D q => h.run hi (R.dem i) o e D q⟩
theorem SdS.demOut (i : Nat) (h : SdS K W I r Γ Γb Γ' t F) : SdS K W I r Γ Γb (Γ'.set i 0) t F := ⟨fun {E ρ σ H Φ} hi R o e D q => h.run hi R o e D (by
  cases o with
  | nx ρ' => exact fun σ H Φ R' => q _ _ _ (R'.dem i)
  | rt d ρ' => exact q
  | bk ρ' => exact q
  | ct ρ' => exact q
  | ex C w ρ' => exact q)⟩
end
/-! ### what is walked -/
/-- the iterator J walks the items ds, while gv stands for gd -/
structure Wk (K : PySem.W.Frag) (J : It) (gd : D) (gv : V) (ds : List D) : Prop where
  go : ∀ {H : Hp} {N : Addr → Prop}, Own K H N 0 gd gv [] → ∀ i d, ds[i]? = some d → J.go i H ∧ ∀ x H2, J.yld i H x H2 → Ext H H2 ∧ Own K H2 N 0 d x []
  stop : ∀ {H : Hp} {N : Addr → Prop}, Own K H N 0 gd gv [] → J.stop ds.length H
structure SdI (K : PySem.W.Frag) (Γ : List Nat) (wi : TI) (f : Store → Option (List D)) : Prop where
  run : ∀ {E : Entry} {ρ : Store} {σ : St} {H : Hp} {Φ : Nat → List Addr}, StR K E Γ ρ σ H Φ → ∀ (ds : List D), f ρ = some ds → ∀ R : It → Hp → Prop,
    (∀ J H' gd gv, Ext H H' → Own K H' (fun a => ∀ j, a ∉ Φ j) 0 gd gv [] → Wk K J gd gv ds → R J H') → wi σ H R
structure Iv (X : Cx) (Γ : List Nat) (tg iter : Expr) (f : Store → Option (List D)) (wi : TI) : Prop where
  pi : PI X tg iter wi
  sd : SdI X.K Γ wi f
/-- where an item goes -/
structure SdG (K : PySem.W.Frag) (I : Nat → Nat) (Γ : List Nat) (g : TG) (Γ' : List Nat) (f : D → Store → Option Store) (is : List Nat) : Prop where
  run : ∀ {E : Entry} {ρ : Store} {σ : St} {H : Hp} {Φ : Nat → List Addr}, E.io = I → StR K E Γ ρ σ H Φ → ∀ {d : D} {v : V}, Own K H (fun a => ∀ j, a ∉ Φ j) 0 d v [] → ∀ {ρ' : Store}, f d ρ = some ρ' → ∀ Q : St → Hp → Prop,
    (∀ σ' Φ', StR K E Γ' ρ' σ' H Φ' → ((∀ k, k ∉ is → σ'[k]? = σ[k]?) ∧ σ'.length = σ.length) → (∀ k, k ∉ is → Φ' k = Φ k) → Q σ' H) → g v σ H Q
structure Gv (X : Cx) (I : Nat → Nat) (Γ : List Nat) (tg : Expr) (Γ' : List Nat) (f : D → Store → Option Store) (is : List Nat) (g : TG) : Prop where
  pg : PG X tg g
  sd : SdG X.K I Γ g Γ' f is
section
variable {I : Nat → Nat} {Γ : List Nat}
def gSet (i : Nat) : D → Store → Option Store := fun d ρ => some (ρ.set i (some d))
theorem sdg_name {i : Nat} (hG : i < Γ.length) (hi : I i = 0) : SdG K I Γ (gName i) (Γ.set i 0) (gSet i) [i] := by
  refine ⟨fun {E ρ σ H Φ} hI R d v o ρ' e Q q => ?_⟩
  cases e
  exact q _ _ (R.set (Ψ := []) ⟨.rfl' _, fun a m => (nomatch m), .nil, o.move (fun a o e _ => e) (fun a o e z => ⟨e, List.not_mem_nil, fun j _ => z j⟩) fun a m => (nomatch m)⟩ hG (by rw [hI]; exact hi)) ⟨fun k n => List.getElem?_set_ne fun e => n (by rw [e]; exact List.mem_singleton.mpr rfl), List.length_set⟩ fun k n => if_neg fun e => n (by rw [e]; exact List.mem_singleton.mpr rfl)
/-- a, b = an item -/
def gSet2 (i j : Nat) : D → Store → Option Store := fun d ρ => match d with
  | .tup [x, y] => some ((ρ.set i (some x)).set j (some y))
  | _ => none
theorem sdg_two {i j : Nat} (hG : i < Γ.length) (hG' : j < Γ.length) (hi : I i = 0) (hj : I j = 0) : SdG K I Γ (gTup K 2 (gCons (gName i) (gCons (gName j) gNil))) ((Γ.set i 0).set j 0) (gSet2 i j) [i, j] := by
  refine ⟨fun {E ρ σ H Φ} hI R d v o ρ' e Q q => ?_⟩
  unfold gSet2 at e
  split at e
  · rename_i x y
    cases e
    obtain ⟨a, vs, rfl, hs, hl⟩ := o.tup_inv
    obtain ⟨v1, vs1, rfl, h1, hl⟩ := hl.cons_inv0
    obtain ⟨v2, vs2, rfl, h2, hl⟩ := hl.cons_inv0
    obtain rfl := hl.nil_inv
    refine ⟨a, [v1, v2], rfl, hs, rfl, v1, [v2], rfl, ?_⟩
    have R1 := R.set (i := i) (Ψ := []) ⟨.rfl' _, fun a m => (nomatch m), .nil, h1.move (N' := fun a => a ∉ [] ∧ ∀ j, j ∉ [] → a ∉ Φ j) (fun a o e _ => e) (fun a o e z => ⟨e, List.not_mem_nil, fun j _ => z j⟩) fun a m => (nomatch m)⟩ hG (by rw [hI]; exact hi)
    have R2 := R1.set (i := j) (Ψ := []) ⟨.rfl' _, fun a m => (nomatch m), .nil, h2.move (N' := fun a => a ∉ [] ∧ ∀ k, k ∉ [] → a ∉ (if k = i then [] else Φ k)) (fun a o e _ => e) (fun a o e z => ⟨e, List.not_mem_nil, fun k _ => by
      split
      · exact List.not_mem_nil
      · exact z k⟩) fun a m => (nomatch m)⟩ (by rw [List.length_set]; exact hG') (by rw [hI]; exact hj)
    refine ⟨v2, [], rfl, rfl, q _ _ R2 ⟨fun k n => ?_, by rw [List.length_set, List.length_set]⟩ fun k n => ?_⟩
    · have n1 : j ≠ k := fun e => n (by rw [e]; exact List.mem_cons_of_mem _ (List.mem_singleton.mpr rfl))
      have n2 : i ≠ k := fun e => n (by rw [e]; exact List.mem_cons_self)
      rw [List.getElem?_set_ne n1, List.getElem?_set_ne n2]
    · have n1 : k ≠ j := fun e => n (by rw [e]; exact List.mem_cons_of_mem _ (List.mem_singleton.mpr rfl))
      have n2 : k ≠ i := fun e => n (by rw [e]; exact List.mem_cons_self)
      show (if k = j then [] else if k = i then [] else Φ k) = Φ k
      rw [if_neg n1, if_neg n2]
  · cases e
end

/-! ### for, while -/
section
variable {W : WX} {I : Nat → Nat} {r : Nat} {Γ Γt Γb Γ' : List Nat}
def forD (g : D → Store → Option Store) (F : Store → Option O) : List D → Store → Option O
  | [], ρ => some (.nx ρ)
  | d :: ds, ρ => match g d ρ with
    | none => none
    | some ρ1 => match F ρ1 with
      | some (.nx ρ2) => forD g F ds ρ2
      | some (.ct ρ2) => forD g F ds ρ2
      | some (.bk ρ2) => some (.nx ρ2)
      | o => o
def sFor (it : Store → Option (List D)) (g : D → Store → Option Store) (F : Store → Option O) : Store → Option O := fun ρ => match it ρ with
  | some ds => forD g F ds ρ
  | none => none
theorem StR.ghost {E : Entry} {ρ : Store} {σ : St} {H : Hp} {Φ : Nat → List Addr} (R : StR K E Γ ρ σ H Φ) {gd : D} {gv : V} (o : Own K H (fun a => ∀ j, a ∉ Φ j) 0 gd gv []) : StR K { E with G := (gd, gv) :: E.G } Γ ρ σ H Φ :=
  ⟨R.len, R.gl, R.val, R.em, R.nd, R.dj, R.lv, R.nw, R.kp, R.dm, R.iv, fun p m => (List.mem_cons.mp m).elim (fun e => by subst e; exact o) fun m => R.gh p m⟩
theorem StR.unghost {E : Entry} {p : D × V} {ρ : Store} {σ : St} {H : Hp} {Φ : Nat → List Addr} (R : StR K { E with G := p :: E.G } Γ ρ σ H Φ) : StR K E Γ ρ σ H Φ :=
  ⟨R.len, R.gl, R.val, R.em, R.nd, R.dj, R.lv, R.nw, R.kp, R.dm, R.iv, fun p m => R.gh p (List.mem_cons_of_mem _ m)⟩
theorem sd_for {wi : TI} {g : TG} {tb : TS} {it : Store → Option (List D)} {gf : D → Store → Option Store} {F : Store → Option O} (hi : SdI K Γ wi it) {is : List Nat} (hg : SdG K I Γ g Γt gf is) (hb : SdS K W I r Γt Γ Γ tb F) : SdS K W I r Γ Γb Γ (tFor wi g tb) (sFor it gf F) := by
  refine ⟨fun {E ρ σ H Φ} hI R o e D q => ?_⟩
  unfold sFor at e
  split at e
  · rename_i ds e1
    refine hi.run R ds e1 _ fun J H' gd gv x og wk => ?_
    have R1 := (R.ext x).ghost og
    refine ⟨fun i m σ H => ∃ ρ Φ, StR K { E with G := (gd, gv) :: E.G } Γ ρ σ H Φ ∧ m = ds.length - i ∧ i ≤ ds.length ∧ forD gf F (ds.drop i) ρ = some o, ⟨ds.length, ρ, Φ, R1, by simp, Nat.zero_le _, by rw [List.drop_zero]; exact e⟩, fun i m σ H w => ?_⟩
    obtain ⟨ρ, Φ, R, em, hle, e⟩ := w
    have og := R.gh _ List.mem_cons_self
    by_cases hlt : i < ds.length
    · right
      obtain ⟨go, yl⟩ := wk.go og i ds[i] (List.getElem?_eq_getElem hlt)
      rw [List.drop_eq_getElem_cons hlt] at e
      unfold forD at e
      split at e
      · cases e
      · rename_i ρ1 e2
        refine ⟨go, fun σ' H' => ∃ ρ Φ, StR K { E with G := (gd, gv) :: E.G } Γ ρ σ' H' Φ ∧ forD gf F (ds.drop (i + 1)) ρ = some o, fun σ' H' n => ?_, fun v H2 y => ?_⟩
        · obtain ⟨ρ, Φ, R, e⟩ := n
          exact ⟨ds.length - (i + 1), by omega, ρ, Φ, R, rfl, hlt, e⟩
        · obtain ⟨x2, ov⟩ := yl v H2 y
          refine hg.run (E := { E with G := (gd, gv) :: E.G }) hI (R.ext x2) ov e2 _ fun σ2 Φ2 R2 _ _ => ?_
          cases e3 : F ρ1 with
          | none => rw [e3] at e; cases e
          | some ob =>
            rw [e3] at e
            refine hb.run (E := { E with G := (gd, gv) :: E.G }) hI R2 ob e3 _ ?_
            cases ob with
            | nx ρ2 => exact fun σ3 H3 Φ3 R3 => ⟨ρ2, Φ3, R3, e⟩
            | ct ρ2 => exact fun σ3 H3 Φ3 R3 => ⟨ρ2, Φ3, R3, e⟩
            | bk ρ2 =>
              obtain rfl : O.nx ρ2 = o := Option.some.inj e
              exact fun σ3 H3 Φ3 R3 => q σ3 H3 Φ3 R3.unghost
            | rt d ρ2 =>
              obtain rfl : O.rt d ρ2 = o := Option.some.inj e
              rintro v' H3 ⟨Γ3, σ3, Φ3, Ψ3, R3, z⟩
              exact q v' H3 ⟨Γ3, σ3, Φ3, Ψ3, R3.unghost, z⟩
            | ex C w ρ2 =>
              obtain rfl : O.ex C w ρ2 = o := Option.some.inj e
              exact fun Γ3 σ3 H3 Φ3 dx R3 => q Γ3 σ3 H3 Φ3 dx R3.unghost
    · left
      have ei : i = ds.length := by omega
      subst ei
      rw [List.drop_length] at e
      obtain rfl : O.nx ρ = o := Option.some.inj e
      exact ⟨wk.stop og, q σ H Φ R.unghost⟩
  · cases e
def whileD (c : Store → Option Bool) (F : Store → Option O) : Nat → Store → Option O
  | 0, _ => none
  | n + 1, ρ => match c ρ with
    | none => none
    | some false => some (.nx ρ)
    | some true => match F ρ with
      | some (.nx ρ2) => whileD c F n ρ2
      | some (.ct ρ2) => whileD c F n ρ2
      | some (.bk ρ2) => some (.nx ρ2)
      | o => o
open Classical in
noncomputable def sWhile (c : Store → Option Bool) (F : Store → Option O) : Store → Option O := fun ρ => if h : ∃ n o, whileD c F n ρ = some o then some (choose (choose_spec h)) else none
theorem whileD_mono {c : Store → Option Bool} {F : Store → Option O} : ∀ {n : Nat} {ρ : Store} {o : O}, whileD c F n ρ = some o → ∀ k, whileD c F (n + k) ρ = some o
  | 0, ρ, o, e, k => by cases e
  | n + 1, ρ, o, e, k => by
    rw [Nat.succ_add]
    unfold whileD at e ⊢
    split at e
    · cases e
    · exact e
    · split at e
      · exact whileD_mono e k
      · exact whileD_mono e k
      · exact e
      · exact e
theorem sWhile_eq {c : Store → Option Bool} {F : Store → Option O} {n : Nat} {ρ : Store} {o : O} (e : whileD c F n ρ = some o) : sWhile c F ρ = some o := by
  have h : ∃ n o, whileD c F n ρ = some o := ⟨n, o, e⟩
  unfold sWhile
  rw [dif_pos h]
  have e2 := Classical.choose_spec (Classical.choose_spec h)
  have e3 := whileD_mono e (Classical.choose h)
  have e4 := whileD_mono e2 n
  rw [Nat.add_comm] at e4
  rw [e3] at e4
  exact e4.symm
theorem sWhile_of {c : Store → Option Bool} {F : Store → Option O} {ρ : Store} {o : O} (e : sWhile c F ρ = some o) : ∃ n, whileD c F n ρ = some o := by
  unfold sWhile at e
  split at e
  · rename_i h
    cases e
    exact ⟨_, Classical.choose_spec (Classical.choose_spec h)⟩
  · cases e
theorem sd_while {tc : TT} {tb : TS} {c : Store → Option Bool} {F : Store → Option O} (hc : SdT K Γ tc c) (hb : SdS K W I r Γ Γ Γ tb F) : SdS K W I r Γ Γb Γ (tWhile tc tb) (sWhile c F) := by
  refine ⟨fun {E ρ σ H Φ} hI R o e D q => ?_⟩
  obtain ⟨n, e⟩ := sWhile_of e
  refine ⟨fun m σ H => ∃ ρ Φ, StR K E Γ ρ σ H Φ ∧ whileD c F m ρ = some o, ⟨n, ρ, Φ, R, e⟩, fun m σ H w => ?_⟩
  obtain ⟨ρ, Φ, R, e⟩ := w
  cases m with
  | zero => cases e
  | succ m =>
    unfold whileD at e
    split at e
    · cases e
    · rename_i e1
      obtain rfl : O.nx ρ = o := Option.some.inj e
      refine hc.run R _ e1 _ fun H1 x => ?_
      rw [if_neg Bool.false_ne_true]
      exact q σ H1 Φ (R.ext x)
    · rename_i e1
      refine hc.run R _ e1 _ fun H1 x => ?_
      rw [if_pos rfl]
      refine ⟨fun σ' H' => ∃ ρ Φ, StR K E Γ ρ σ' H' Φ ∧ whileD c F m ρ = some o, fun σ' H' n => ⟨m, Nat.lt_succ_self _, n⟩, ?_⟩
      cases e3 : F ρ with
      | none => rw [e3] at e; cases e
      | some ob =>
        rw [e3] at e
        refine hb.run hI (R.ext x) ob e3 _ ?_
        cases ob with
        | nx ρ2 => exact fun σ3 H3 Φ3 R3 => ⟨ρ2, Φ3, R3, e⟩
        | ct ρ2 => exact fun σ3 H3 Φ3 R3 => ⟨ρ2, Φ3, R3, e⟩
        | bk ρ2 =>
          obtain rfl : O.nx ρ2 = o := Option.some.inj e
          exact fun σ3 H3 Φ3 R3 => q σ3 H3 Φ3 R3
        | rt d ρ2 =>
          obtain rfl : O.rt d ρ2 = o := Option.some.inj e
          exact q
        | ex C w ρ2 =>
          obtain rfl : O.ex C w ρ2 = o := Option.some.inj e
          exact q
end
end VL

/-! VL5: arguments, calls, defs; tests; arithmetic. -/
namespace VL
open PySem PySem.Spec L2
open PyProof.Rows hiding St
variable {K : PySem.W.Frag}

theorem le_sum_mem : ∀ {l : List Nat} {j : Nat}, j ∈ l → j ≤ l.sum
  | a :: r, j, m => by
    rw [List.sum_cons]
    rcases List.mem_cons.mp m with e | m
    · omega
    · have := le_sum_mem m; omega
section
variable {X : Cx} {Γ : List Nat} {e : Expr} {es : List Expr} {m : Nat} {B B1 B2 : List Nat} {f g : Store → Option D} {t u : TE} {ta : TA} {pos : Pos}
/-! ### argument lists -/
def aNil : Store → Option (List D) := fun _ => some []
def aCons (f : Store → Option D) (fa : Store → Option (List D)) : Store → Option (List D) := fun ρ => match f ρ with
  | some d => (match fa ρ with | some ds => some (d :: ds) | none => none)
  | none => none
theorem sd_anil : SdA K Γ tNil m [] aNil := ⟨fun R ds e Q q => by cases e; exact q [] _ [] ⟨.rfl' _, fun a m => (nomatch m), .nil, .nil⟩⟩
theorem sd_acons {fa : Store → Option (List D)} (h1 : SdE K Γ t m B1 f) (h2 : SdA K Γ ta m B2 fa) : SdA K Γ (tCons t ta) m (B1 ++ B2) (aCons f fa) := by
  refine ⟨fun {E ρ σ H Φ} R ds e Q q => ?_⟩
  unfold aCons at e
  split at e
  · rename_i d e1
    split at e
    · rename_i ds' e2
      cases e
      refine h1.run R _ e1 _ fun v H1 Ψ1 r1 => ?_
      have hJ : ∀ j ∈ B2, j ≤ B2.sum := fun j m => le_sum_mem m
      refine h2.run (R.hide r1.ext r1.new (fun a m => r1.own.live a m) r1.nd (J := ρ.length + B2.sum + 1) (by omega)) _ e2 _ fun vs H2 Ψ2 r2 => ?_
      have n2 : ∀ a ∈ Ψ2, H a = none := fun a m => by
        cases e : H a with
        | none => rfl
        | some o => have := r1.ext a o e; rw [r2.new a m] at this; cases this
      have dis : ∀ a ∈ Ψ1, a ∉ Ψ2 := fun a m1 m2 => by
        obtain ⟨o, e, _⟩ := r1.own.live a m1
        rw [r2.new a m2] at e; cases e
      refine q (v :: vs) H2 (Ψ1 ++ Ψ2) ⟨fun a o e => r2.ext a o (r1.ext a o e), fun a m => (List.mem_append.mp m).elim (r1.new a) (n2 a), List.nodup_append.mpr ⟨r1.nd, r2.nd, fun a m1 b m2 e => dis a m1 (e ▸ m2)⟩, ?_⟩
      refine .cons (r1.own.move (fun a o e _ => r2.ext a o e) (fun a o e z => ⟨r2.ext a o e, fun m => ?_, fun j nj => z.2 j fun m => nj (List.mem_append_left _ m)⟩) fun a _ o e => r2.ext a o e) (r2.own.move (fun a o e _ => e) (fun a o e z => ⟨e, fun m => ?_, fun j nj => by
        have q := z.2 j fun m => nj (List.mem_append_right _ m)
        split at q
        · exact fun m => q (List.mem_append_left _ m)
        · exact q⟩) fun a _ o e => e)
      · rcases List.mem_append.mp m with m | m
        · exact z.1 m
        · rw [r2.new a m] at e; cases e
      · rcases List.mem_append.mp m with m | m
        · have q := z.2 (ρ.length + B2.sum + 1) fun m => by have := hJ _ m; omega
          rw [if_pos rfl] at q
          exact q (List.mem_append_right _ m)
        · exact z.1 m
    · cases e
  · cases e
theorem av_nil : Av X Γ [] m [] aNil tNil := ⟨pa_nil, sd_anil⟩
theorem av_cons {fa : Store → Option (List D)} (h1 : Ev X Γ e m B1 f t) (h2 : Av X Γ es m B2 fa ta) (hs : starEach (e :: es) X.env = (false, eval e X.env) :: starEach es X.env := by rfl) : Av X Γ (e :: es) m (B1 ++ B2) (aCons f fa) (tCons t ta) :=
  ⟨pa_cons h1.pe h2.pa hs, sd_acons h1.sd h2.sd⟩
/-- shared argument lists: what is asked, and what comes -/
structure OpA (K : PySem.W.Frag) (r : List V → Hp → VK → Prop) (m : Nat) (g : List D → Option D) : Prop where
  run : ∀ {H : Hp} {N : Addr → Prop} {ds : List D} {d : D} {vs : List V}, OwnL K H N 0 ds vs [] → g ds = some d → ∀ Q : VK,
    (∀ v H' Ψ, Ext H H' → (∀ a ∈ Ψ, H a = none) → Ψ.Nodup → Own K H' (fun a => N a ∨ (H a = none ∧ a ∉ Ψ)) m d v Ψ → Q v H') → r vs H Q
def eCall (g : List D → Option D) (fa : Store → Option (List D)) : Store → Option D := fun ρ => match fa ρ with
  | some ds => g ds
  | none => none
/-- the end of an operation over shared things -/
theorem res_of {E : Entry} {ρ : Store} {σ : St} {H H1 H2 : Hp} {Φ : Nat → List Addr} (R : StR K E Γ ρ σ H Φ) (x1 : Ext H H1) {d : D} {v : V} {Ψ : List Addr} (x2 : Ext H1 H2) (new : ∀ a ∈ Ψ, H1 a = none) (nd : Ψ.Nodup)
    (o : Own K H2 (fun a => ((∃ o, H1 a = some o) ∧ ∀ j, j ∉ B → a ∉ Φ j) ∨ (H1 a = none ∧ a ∉ Ψ)) m d v Ψ) : Res K B Φ m d H v H2 Ψ := by
  refine ⟨fun a o e => x2 a o (x1 a o e), fun a m => ?_, nd, o.move (fun a o e _ => e) (fun a o e z => ⟨e, ?_⟩) fun a _ o e => e⟩
  · cases e : H a with
    | none => rfl
    | some o => have := x1 a o e; rw [new a m] at this; cases this
  · rcases z with z | ⟨z, nΨ⟩
    · refine ⟨fun m => ?_, z.2⟩
      obtain ⟨o', z'⟩ := z.1
      rw [new a m] at z'; cases z'
    · exact ⟨nΨ, fun j _ => (R.ext x1).notIn z j⟩
theorem SdA.sh {fa : Store → Option (List D)} (h : SdA K Γ ta 0 B fa) {E : Entry} {ρ : Store} {σ : St} {H : Hp} {Φ : Nat → List Addr} (R : StR K E Γ ρ σ H Φ) {ds : List D} (e : fa ρ = some ds) (Q : List V → Hp → Prop)
    (q : ∀ vs H1, Ext H H1 → OwnL K H1 (fun a => (∃ o, H1 a = some o) ∧ ∀ j, j ∉ B → a ∉ Φ j) 0 ds vs [] → Q vs H1) : ta σ H Q :=
  h.run R ds e Q fun vs H1 Ψ r => q vs H1 r.ext (by
    have o := r.own
    rw [o.fp0 rfl] at o
    exact o.move (fun a o e _ => e) (fun a o e z => ⟨e, ⟨o, e⟩, z.2⟩) fun a _ o e => e)
theorem SdE.sh (h : SdE K Γ t m B f) {E : Entry} {ρ : Store} {σ : St} {H : Hp} {Φ : Nat → List Addr} (R : StR K E Γ ρ σ H Φ) {d : D} (e : f ρ = some d) (Q : VK)
    (q : ∀ v H1, Ext H H1 → Own K H1 (fun a => (∃ o, H1 a = some o) ∧ ∀ j, j ∉ B → a ∉ Φ j) 0 d v [] → Q v H1) : t σ H Q :=
  h.share.run R d e Q fun v H1 Ψ r => q v H1 r.ext (by
    have o := r.own
    rw [o.fp0 rfl] at o
    exact o.move (fun a o e _ => e) (fun a o e z => ⟨e, ⟨o, e⟩, z.2⟩) fun a _ o e => e)
theorem sd_cb {r : List V → Hp → VK → Prop} {g : List D → Option D} {fa : Store → Option (List D)} (ho : OpA K r m g) (ha : SdA K Γ ta 0 B fa) : SdE K Γ (tCB r ta) m B (eCall g fa) := by
  refine ⟨fun {E ρ σ H Φ} R d e Q q => ?_⟩
  unfold eCall at e
  split at e
  · rename_i ds e1
    refine ha.sh R e1 _ fun vs H1 x o => ?_
    exact ho.run o e Q fun v H2 Ψ x2 new nd o2 => q v H2 Ψ (res_of R x x2 new nd o2)
  · cases e
theorem ev_callB {id : String} {x : Str} {p : Pos} {r : List V → Hp → VK → Prop} {g : List D → Option D} {fa : Store → Option (List D)} (hc : CallR X (.builtin id) r) (ho : OpA X.K r m g) (hg : Gl X x) (hm : X.mg x = none) (hv : bootBuiltins x = some (.builtin id))
    (ha : Av X Γ (e :: es) 0 B fa ta) (hn : x ≠ "__name__" := by decide) (hdb : (x == ("__debug__" : Str)) = false := by decide) (he : starEach (e :: es) X.env = (false, eval e X.env) :: starEach es X.env := by rfl) (hpl : (backTo pos (starEach es X.env)).any (·.1) = false := by rfl) :
    Ev X Γ (.Call (.Name x p) (e :: es) [] pos) m B (eCall g fa) (tCB r ta) := ⟨pe_callB hc hg hm hv ha.pa hn hdb he hpl, sd_cb ho ha.sd⟩
theorem ev_callTy {T : String} {x : Str} {p : Pos} {r : List V → Hp → VK → Prop} {g : List D → Option D} {fa : Store → Option (List D)} (hc : CallR X (.type T) r) (ho : OpA X.K r m g) (hg : Gl X x) (hm : X.mg x = none) (hv : bootBuiltins x = some (.type T))
    (ha : Av X Γ (e :: es) 0 B fa ta) (hn : x ≠ "__name__" := by decide) (hdb : (x == ("__debug__" : Str)) = false := by decide) (he : starEach (e :: es) X.env = (false, eval e X.env) :: starEach es X.env := by rfl) (hpl : (backTo pos (starEach es X.env)).any (·.1) = false := by rfl) :
    Ev X Γ (.Call (.Name x p) (e :: es) [] pos) m B (eCall g fa) (tCB r ta) := ⟨pe_callTy hc hg hm hv ha.pa hn hdb he hpl, sd_cb ho ha.sd⟩

/-! ### defs that let nothing out -/
/-- the promise: n arguments that are read; the value F of them, owned to depth r -/
def sp0 (K : PySem.W.Frag) (n r : Nat) (F : List D → Option D) : Sp := fun vs H Q _ => ∃ (ds : List D) (d : D), ds.length = n ∧ OwnL K H (fun _ => True) 0 ds vs [] ∧ F ds = some d ∧
  ∀ v H' Ψ, Ext H H' → (∀ a ∈ Ψ, H a = none) → Ψ.Nodup → (∀ N, Own K H' N r d v Ψ) → Q v H'
def fn0 (N : Nat) (F : Store → Option O) : List D → Option D := fun ds => match F (ds.map some ++ List.replicate (N - ds.length) none) with
  | some (.rt d _) => some d
  | some (.nx _) => some .non
  | _ => none
theorem opA_sp {n r : Nat} {F : List D → Option D} {E : XK} : OpA K (fun vs H Q => sp0 K n r F vs H Q E) r (fun ds => if ds.length = n then F ds else none) := by
  refine ⟨fun {H N ds d vs} o e Q q => ?_⟩
  split at e
  · rename_i hn
    exact ⟨ds, d, hn, o.move (fun a o e _ => e) (fun a o e z => ⟨e, trivial⟩) fun a _ o e => e, e, fun v H' Ψ x new nd o => q v H' Ψ x new nd (o _)⟩
  · cases e
def callF (n : Nat) (dds : List D) (F : List D → Option D) : List D → Option D := fun ds => if (ds ++ dds).length = n then F (ds ++ dds) else none
theorem sd_call {n r : Nat} {F : List D → Option D} {fa : Store → Option (List D)} {dds : List D} {dvs : List V} {E : XK} (hd : OwnL K (fun _ => none) (fun _ => True) 0 dds dvs []) (ha : SdA K Γ ta 0 B fa) :
    SdE K Γ (tCall (sp0 K n r F) dvs E ta) r [] (eCall (callF n dds F) fa) := by
  refine ⟨fun {En ρ σ H Φ} R d e Q q => ?_⟩
  unfold eCall at e
  split at e
  · rename_i ds e1
    unfold callF at e
    split at e
    · rename_i hn
      refine ha.sh R e1 _ fun vs H1 x o => ?_
      have app : ∀ {ds : List D} {vs : List V}, OwnL K H1 (fun _ => True) 0 ds vs [] → OwnL K H1 (fun _ => True) 0 (ds ++ dds) (vs ++ dvs) [] := by
        intro ds
        induction ds with
        | nil => intro vs o; cases o; exact hd.move (fun a o e => by cases e) (fun a o e => by cases e) fun a _ o e => by cases e
        | cons d ds ih =>
          intro vs o
          obtain ⟨v, vs', rfl, h, l⟩ := o.cons_inv0
          exact .cons (fp := []) (fps := []) h (ih l)
      exact ⟨ds ++ dds, d, hn, app (o.move (fun a o e _ => e) (fun a o e z => ⟨e, trivial⟩) fun a _ o e => e), e, fun v H' Ψ x2 new nd o => q v H' Ψ (res_of R x x2 new nd (o _))⟩
    · cases e
  · cases e
/-- f(e, ..) -/
theorem ev_call {CX : CXT} {k : Nat} {f₀ : Addr} {fd : FuncData} {ps : List Str} {n r : Nat} {F : List D → Option D} {fa : Store → Option (List D)} {dds : List D} {dvs : List V} {dus : List Value} {E : XK} {x : Str} {p : Pos} (G : FnOk X.prog X.w X.K X.mg X.base CX k f₀ fd ps (sp0 X.K n r F)) (hr : Room k X.A) (hg : Gl X x) (hm : X.mg x = some (.ref f₀)) (hk : PySem.W.keepIn X.K (.ref f₀) = true)
    (hb : Binds X.K fd ps dus) (hd : Vals dvs dus) (hx : Passes CX X E) (hdd : OwnL X.K (fun _ => none) (fun _ => True) 0 dds dvs []) (ha : Av X Γ (e :: es) 0 B fa ta)
    (hdb : (x == ("__debug__" : Str)) = false := by decide) (he : starEach (e :: es) X.env = (false, eval e X.env) :: starEach es X.env := by rfl) (hpl : (backTo pos (starEach es X.env)).any (·.1) = false := by rfl) :
    Ev X Γ (.Call (.Name x p) (e :: es) [] pos) r [] (eCall (callF n dds F) fa) (tCall (sp0 X.K n r F) dvs E ta) :=
  ⟨pe_call G hr hg hm hk hb hd hx ha.pa hdb he hpl, sd_call hdd ha.sd⟩
end

section
variable {P : Program} {w : World} {mg : Str → Option Value} {base : Heap}
theorem start_own {H : Hp} {N : List Str} : ∀ {ds : List D} {vs : List V}, OwnL K H (fun _ => True) 0 ds vs [] → ∀ (i : Nat) (d : D), (ds.map some ++ List.replicate (N.length - ds.length) none)[i]? = some (some d) → ∃ v : V, (L2.start N vs)[i]? = some (some v) ∧ Own K H (fun _ => True) 0 d v [] := by
  intro ds vs o i d e
  by_cases h : i < ds.length
  · rw [List.getElem?_append_left (by simpa using h), List.getElem?_map] at e
    cases e2 : ds[i]? with
    | none => rw [e2] at e; cases e
    | some d' =>
      rw [e2] at e; cases e
      obtain ⟨v, h1, h2⟩ := o.get0 e2
      refine ⟨v, ?_, h2⟩
      unfold L2.start
      rw [List.getElem?_append_left (by rw [List.length_map]; exact lt_of_some h1), List.getElem?_map, h1]; rfl
  · rw [List.getElem?_append_right (by simpa using h), List.getElem?_replicate] at e
    split at e <;> cases e
theorem fn_ok {x qual : Str} {params : Arguments} {body : List Stmt} {scope : Scope} {dfl : List V} {kws : List (Str × V)} {f : Addr} {fd : FuncData} {N ps : List Str} {k r : Nat} {F : Store → Option O} (Fn : FunD K x qual params body scope dfl kws f fd) (S : FnScope N ps scope)
    (hb : ∀ (cdv : Value) (A : Around) (outer : List Env) (s : Shared) (H : Hp) (E : XK), Room k (A.deeper (envOfC qual scope s.heap.objs.size f cdv)) →
      ∃ t Γb Γ', Lv (cxOf CX0 P w K mg base N qual scope f cdv A outer s H E).nox (fun _ _ _ _ => False) (fun _ => 0) r (List.replicate N.length 0) Γb body Γ' F t) :
    FnOk P w K mg base CX0 (k + 1) f fd ps (sp0 K ps.length r (fn0 N.length F)) := by
  refine Fn.ok S (fun vs H Q E h => ?_) (fun cdv A outer s H vs Q E hr h => ?_)
  · obtain ⟨ds, d, hn, o, _⟩ := h
    rw [o.len, hn]
  · obtain ⟨ds, d, hn, o, e, q⟩ := h
    obtain ⟨t, Γb, Γ', L⟩ := hb cdv A outer s H E hr
    refine ⟨t, PSs.nox L.pss, ?_⟩
    have hpl : ps.length ≤ N.length := by have := congrArg List.length S.pre; rw [List.length_take] at this; omega
    have gz : ∀ i, (List.replicate N.length 0).getD i 0 = 0 := fun i => by
      rw [List.getD_eq_getElem?_getD, List.getElem?_replicate]
      split <;> rfl
    have R : StR K ⟨H, fun _ => [], fun _ => .non, fun _ => 0, []⟩ (List.replicate N.length 0) (ds.map some ++ List.replicate (N.length - ds.length) none) (L2.start N vs) H (fun _ => []) := by
      refine ⟨?_, by rw [List.length_replicate, List.length_append, List.length_map, List.length_replicate]; omega, fun i d e => ?_, fun _ _ _ => rfl, fun _ => .nil, fun _ _ _ m => (nomatch m), fun _ _ m => (nomatch m), fun _ _ m => (nomatch m), .of_ext (.rfl' _), fun a o e => ⟨o, e⟩, fun i n => absurd rfl n, fun p m => (nomatch m)⟩
      · unfold L2.start
        rw [List.length_append, List.length_append, List.length_map, List.length_map, List.length_replicate, List.length_replicate, o.len]
      · obtain ⟨v, h1, h2⟩ := start_own o i d e
        refine ⟨v, h1, ?_⟩
        rw [gz i]
        exact h2.move (fun a o e _ => e) (fun a o e _ => ⟨e, fun j => List.not_mem_nil⟩) fun a m => (nomatch m)
    unfold fn0 at e
    cases eo : F (ds.map some ++ List.replicate (N.length - ds.length) none) with
    | none => rw [eo] at e; cases e
    | some ob =>
      rw [eo] at e
      have base : ∀ {Γ ρ σ H' Φ}, StR K ⟨H, fun _ => [], fun _ => .non, fun _ => 0, []⟩ Γ ρ σ H' Φ → Ext H H' := fun R' a o e => R'.kp.kp a o e fun i n => absurd rfl n
      refine L.sd.run (E := ⟨H, fun _ => [], fun _ => .non, fun _ => 0, []⟩) rfl R ob eo _ ?_
      cases ob with
      | nx ρ' =>
        cases e
        exact fun σ' H' Φ' R' => q .non H' [] (base R') (fun a m => (nomatch m)) .nil fun N => .non
      | rt d' ρ' =>
        cases e
        rintro v H' ⟨Γ2, σ2, Φ2, Ψ2, R2, _, new, nd, _, o2⟩
        exact q v H' Ψ2 (base R2) new nd o2
      | bk ρ' => cases e
      | ct ρ' => cases e
      | ex C w ρ' => cases e
/-- a def that can be called by its name: n parameters, of which the last ones may be left out (dds) -/
structure Cal (P : Program) (w : World) (K : PySem.W.Frag) (mg : Str → Option Value) (base : Heap) (k : Nat) (x : Str) (n r : Nat) (F : List D → Option D) (dds : List D) (dvs : List V) : Prop where
  ex : ∃ (f : Addr) (fd : FuncData) (ps : List Str) (dus : List Value), FnOk P w K mg base CX0 k f fd ps (sp0 K n r F) ∧ mg x = some (.ref f) ∧ PySem.W.keepIn K (.ref f) = true ∧ Binds K fd ps dus ∧ Vals dvs dus ∧ OwnL K (fun _ => none) (fun _ => True) 0 dds dvs []
theorem cal_mk {x qual : Str} {params : Arguments} {body : List Stmt} {scope : Scope} {f : Addr} {fd : FuncData} {N ps : List Str} {k r : Nat} {F : Store → Option O} (Fn : FunD K x qual params body scope [] [] f fd) (gf : mg x = some (.ref f)) (S : FnScope N ps scope)
    (hbd : ∀ (kV doc pm : Value) (an : Option Addr) (cdv ct : Value) (us : List Value), us.length = ps.length → bindArgs (PySem.W.fnOf x qual params body scope .none kV doc pm an cdv ct) ⟨us, []⟩ = pure (ps.zip us))
    (hb : ∀ (cdv : Value) (A : Around) (outer : List Env) (s : Shared) (H : Hp) (E : XK), Room k (A.deeper (envOfC qual scope s.heap.objs.size f cdv)) →
      ∃ t Γb Γ', Lv (cxOf CX0 P w K mg base N qual scope f cdv A outer s H E).nox (fun _ _ _ _ => False) (fun _ => 0) r (List.replicate N.length 0) Γb body Γ' F t) :
    Cal P w K mg base (k + 1) x ps.length r (fn0 N.length F) [] [] :=
  ⟨f, fd, ps, [], fn_ok Fn S hb, gf, Fn.kp, Fn.bindsN hbd, .nil, .nil⟩
end
section
variable {X : Cx} {Γ : List Nat} {e : Expr} {es : List Expr} {B : List Nat} {fa : Store → Option (List D)} {ta : TA} {pos p : Pos}
theorem ev_cal {k j : Nat} {n r : Nat} {F : List D → Option D} {dds : List D} {dvs : List V} {x : Str} (c : Cal X.prog X.w X.K X.mg X.base k x n r F dds dvs) (hr : Room j X.A) (hkj : k ≤ j) (hg : Gl X x) (ha : Av X Γ (e :: es) 0 B fa ta)
    (hdb : (x == ("__debug__" : Str)) = false := by decide) (he : starEach (e :: es) X.env = (false, eval e X.env) :: starEach es X.env := by rfl) (hpl : (backTo pos (starEach es X.env)).any (·.1) = false := by rfl) :
    Ev X Γ (.Call (.Name x p) (e :: es) [] pos) r [] (eCall (callF n dds F) fa) (tCall (sp0 X.K n r F) dvs E0 ta) := by
  obtain ⟨f, fd, ps, dus, G, hm, hk, hb, hd, hdd⟩ := c.ex
  exact ev_call G (hr.mono hkj) hg hm hk hb hd pass0 hdd ha hdb he hpl
end
end VL

/-! VL6: operators, comparisons, tests, displays, subscripts, slices, built-ins. -/
namespace VL
open PySem PySem.Spec L2
open PyProof.Rows hiding St
variable {K : PySem.W.Frag}

/-! ### list + list, whatever the lists -/
theorem add_meets {l b : Addr} {xs ys : Array Value} {n k : Nat} {d1 d2 : Option Addr} {z1 z2 : Array (Option Value)} (hz : xs.size + ys.size ≤ sizeLine) :
    Meets (Builtin.«list.__add__» ⟨[.ref l, .ref b], []⟩) (fun _ R s => s.heap.get? l = some ⟨.type "list", d1, .seq xs n, z1⟩ ∧ s.heap.get? b = some ⟨.type "list", d2, .seq ys k, z2⟩ ∧ R (.ok (.ret (.ref s.heap.objs.size))) { s with heap := s.heap.push { cls := .type "list", data := .seq (xs ++ ys) } }) := by
  refine .of_wp fun prog w A R s h => ?_
  obtain ⟨hp, g, d, tk, os⟩ := s
  obtain ⟨h1, h2, h3⟩ := h
  have e1 := AutoSeq1.idx_int
  have e2 := AutoSeq1.sub_tuple_tuple
  have e3 := AutoSeq1.sub_list_list
  have e4 := AutoSeq1.sub_tuple_list
  have e5 := AutoSeq1.sub_list_tuple
  wp_walk using wpAny_loadPart' h1, wpAny_loadPart' h2
  exact ⟨_, rfl, h3⟩
def rCatS (K : PySem.W.Frag) : R2 := fun x y H Q => ∃ l b xs zs, x = .ref l ∧ y = .ref b ∧ SqL K H l xs ∧ SqL K H b zs ∧ xs.length + zs.length ≤ sizeLine ∧ ∀ p, H p = none → Q (.ref p) (upd H p (.lst (xs ++ zs)))
theorem op_catS {X : Cx} : OpR X (binaryOp .Add) (rCatS X.K) := by
  intro pins s σ H x y v u Q I rx ry h
  obtain ⟨l, b, xs, zs, rfl, rfl, h1, h2, hz, q⟩ := h
  cases rx
  cases ry
  obtain ⟨its1, r1, ⟨⟨c1, d1, t1, z1⟩, n1, o1, ec1, _, ed1⟩, _⟩ := I.list h1
  obtain ⟨its2, r2, ⟨⟨c2, d2, t2, z2⟩, n2, o2, ec2, _, ed2⟩, _⟩ := I.list h2
  obtain rfl : c1 = _ := ec1
  obtain rfl : t1 = _ := ed1
  obtain rfl : c2 = _ := ec2
  obtain rfl : t2 = _ := ed2
  have hlen : its1.toArray.size + its2.toArray.size ≤ sizeLine := by
    rw [List.size_toArray, List.size_toArray, ← r1.length, ← r2.length]; exact hz
  refine concat_meets ⟨_, o1, rfl⟩ ⟨_, o2, rfl⟩ noFill_list_add seq_list_add F.slot_list_add F.entry_list_add (F.args_list_add_2 _ _) (add_meets hlen) ⟨o1, o2, ?_⟩
  have ea : its1.toArray ++ its2.toArray = (its1 ++ its2).toArray := by simp
  rw [ea]
  exact ⟨.ref _, _, I.lnew (t' := s.toks) (r1.append r2) (by rw [List.length_append]; omega), rfl, q _ I.fresh⟩

/-! ### helpers -/
theorem OwnL.app {H : Hp} {N : Addr → Prop} {n : Nat} : ∀ {ds es : List D} {vs us : List V} {fp fq : List Addr}, OwnL K H N n ds vs fp → OwnL K H N n es us fq → OwnL K H N n (ds ++ es) (vs ++ us) (fp ++ fq)
  | _, _, _, _, _, _, .nil, l => l
  | _, _, _, _, _, _, .cons h l, l2 => by
    rw [List.append_assoc]
    exact .cons h (OwnL.app l l2)
theorem OwnL.take0 {H : Hp} {N : Addr → Prop} {n : Nat} : ∀ {ds : List D} {vs : List V} {fp : List Addr}, OwnL K H N n ds vs fp → n = 0 → ∀ k, OwnL K H N 0 (ds.take k) (vs.take k) []
  | _, _, _, .nil, _, k => by cases k <;> exact .nil
  | _, _, _, .cons h l, e, 0 => .nil
  | _, _, _, .cons h l, e, k + 1 => by
    subst e
    rw [h.fp0 rfl] at h
    exact .cons (fp := []) (fps := []) h (OwnL.take0 l rfl k)
theorem OwnL.drop0 {H : Hp} {N : Addr → Prop} {n : Nat} : ∀ {ds : List D} {vs : List V} {fp : List Addr}, OwnL K H N n ds vs fp → n = 0 → ∀ k, OwnL K H N 0 (ds.drop k) (vs.drop k) []
  | _, _, _, .nil, _, k => by cases k <;> exact .nil
  | _, _, _, .cons h l, e, 0 => by
    subst e
    have o := OwnL.cons h l
    rw [o.fp0 rfl] at o
    exact o
  | _, _, _, .cons h l, e, k + 1 => by
    subst e
    exact OwnL.drop0 l rfl k
theorem OwnL.rev0 {H : Hp} {N : Addr → Prop} {n : Nat} : ∀ {ds : List D} {vs : List V} {fp : List Addr}, OwnL K H N n ds vs fp → n = 0 → OwnL K H N 0 ds.reverse vs.reverse []
  | _, _, _, .nil, _ => .nil
  | _, _, _, .cons h l, e => by
    subst e
    rw [h.fp0 rfl] at h
    rw [List.reverse_cons, List.reverse_cons]
    exact OwnL.app (fp := []) (fq := []) (OwnL.rev0 l rfl) (.cons (fp := []) (fps := []) h .nil)
theorem OwnL.set0 {H : Hp} {N : Addr → Prop} {n : Nat} {d : D} {v : V} (o : Own K H N 0 d v []) : ∀ {ds : List D} {vs : List V} {fp : List Addr}, OwnL K H N n ds vs fp → n = 0 → ∀ k, OwnL K H N 0 (ds.set k d) (vs.set k v) []
  | _, _, _, .nil, _, k => .nil
  | _, _, _, .cons h l, e, 0 => by
    subst e
    rw [l.fp0 rfl] at l
    exact .cons (fp := []) (fps := []) o l
  | _, _, _, .cons h l, e, k + 1 => by
    subst e
    rw [h.fp0 rfl] at h
    exact .cons (fp := []) (fps := []) h (OwnL.set0 o l rfl k)
theorem OwnL.at0 {H : Hp} {N : Addr → Prop} {ds : List D} {vs : List V} {fp : List Addr} (o : OwnL K H N 0 ds vs fp) {i : Int} {d : D} (e : atI ds i = some d) : ∃ v, atI vs i = some v ∧ Own K H N 0 d v [] := by
  unfold atI at e ⊢
  rw [o.len]
  cases e2 : ixN ds.length i with
  | none => rw [e2] at e; cases e
  | some j =>
    rw [e2] at e
    exact o.get0 (show ds[j]? = some d from e)
/-- a new list over shared things -/
theorem new_lst {H : Hp} {N : Addr → Prop} {ds : List D} {vs : List V} {fp : List Addr} (o : OwnL K H N 0 ds vs fp) {p : Addr} (n : H p = none) : Own K (upd H p (.lst vs)) N 1 (.lst ds) (.ref p) [p] := by
  have x := ext_upd (o := .lst vs) n
  have o' := o.move (H' := upd H p (.lst vs)) (N' := N) (fun a o e _ => x a o e) (fun a o e z => ⟨x a o e, z⟩) fun a _ o e => x a o e
  rw [o'.fp0 rfl] at o'
  exact .lst upd_same o'
theorem new_tup {H : Hp} {N : Addr → Prop} {n : Nat} {ds : List D} {vs : List V} {fp : List Addr} (o : OwnL K H N n ds vs fp) {p : Addr} (e : H p = none) : Own K (upd H p (.tup vs)) N n (.tup ds) (.ref p) fp := by
  have x := ext_upd (o := .tup vs) e
  exact .tup (.inl (.inl upd_same)) (o.move (fun a o e _ => x a o e) (fun a o e z => ⟨x a o e, z⟩) fun a _ o e => x a o e)

section
variable {X : Cx} {Γ : List Nat} {a b c e : Expr} {es : List Expr} {m m1 m2 : Nat} {B B1 B2 B3 : List Nat} {f f1 f2 f3 : Store → Option D} {t t1 t2 t3 u : TE} {ta : TA} {pos : Pos}
/-! ### operators -/
theorem ev_op {op : Operator} {r : R2} {g : D → D → Option D} (ho : OpR X (binaryOp op) r) (hs : Op2 X.K r m g) (h1 : Ev X Γ a m1 B1 f1 t1) (h2 : Ev X Γ b m2 B2 f2 t2) : Ev X Γ (.BinOp a op b pos) m (B1 ++ B2) (e2 g f1 f2) (tOp r t1 t2) :=
  ⟨pe_op ho h1.pe h2.pe, sd_2 hs h1.sd h2.sd⟩
theorem Op2.or {r r' : R2} {g g' : D → D → Option D} (h : Op2 K r m g) (h' : Op2 K r' m g') : Op2 K (fun x y H Q => r x y H Q ∨ r' x y H Q) m (fun x y => match g x y with | some d => some d | none => g' x y) := by
  refine ⟨fun o1 o2 e Q q => ?_⟩
  split at e
  · rename_i d e1
    exact .inl (h.run o1 o2 (by rw [e1]; exact e) Q q)
  · exact .inr (h'.run o1 o2 e Q q)
def mB : Int := 10 ^ 1000
theorem log2_of {i : Int} (h : -mB ≤ i ∧ i ≤ mB) : i.natAbs.log2 < 4000 := by
  have h1 : i.natAbs ≤ 10 ^ 1000 := by unfold mB at h; omega
  by_cases h0 : i.natAbs = 0
  · rw [h0]; decide
  · refine (Nat.log2_lt h0).mpr (Nat.lt_of_le_of_lt h1 (by decide +kernel))
def cMul (i j : Int) : Bool := decide (-mB ≤ i) && decide (i ≤ mB) && decide (-mB ≤ j) && decide (j ≤ mB)
def cDiv (j : Int) : Bool := decide (0 < j) && decide (j ≤ mB)
def gAdd : D → D → Option D
  | .int i, .int j => some (.int (i + j))
  | .str i, .str j => if i.length + j.length ≤ sizeLine then some (.str (i ++ j)) else none
  | .lst xs, .lst ys => if xs.length + ys.length ≤ sizeLine then some (.lst (xs ++ ys)) else none
  | .tup xs, .tup ys => if xs.length + ys.length ≤ sizeLine then some (.tup (xs ++ ys)) else none
  | _, _ => none
def rAddA (K : PySem.W.Frag) : R2 := fun x y H Q => (rI0 (fun i j => .int (i + j)) x y H Q ∨ ∃ i j, x = .str i ∧ y = .str j ∧ i.length + j.length ≤ sizeLine ∧ Q (.str (i ++ j)) H) ∨ rCatS K x y H Q ∨ rCatA K x y H Q
theorem op_addA : OpR X (binaryOp .Add) (rAddA X.K) := (op_add.or op_add_str).or (op_catS.or op_catA)
theorem fin0 {H : Hp} {N : Addr → Prop} {d : D} {v : V} {Q : VK} (q : ∀ v H' Ψ, Ext H H' → (∀ a ∈ Ψ, H a = none) → Ψ.Nodup → Own K H' (fun a => N a ∨ (H a = none ∧ a ∉ Ψ)) m d v Ψ → Q v H') (o : ∀ N, Own K H N m d v []) : Q v H :=
  q v H [] (.rfl' _) (fun a m => (nomatch m)) .nil (o _)
theorem finS {H : Hp} {N : Addr → Prop} {d : D} {v : V} {Q : VK} (q : ∀ v H' Ψ, Ext H H' → (∀ a ∈ Ψ, H a = none) → Ψ.Nodup → Own K H' (fun a => N a ∨ (H a = none ∧ a ∉ Ψ)) 0 d v Ψ → Q v H') (o : Own K H N 0 d v []) : Q v H :=
  q v H [] (.rfl' _) (fun a m => (nomatch m)) .nil (o.move (fun a o e _ => e) (fun a o e z => ⟨e, .inl z⟩) fun a m => (nomatch m))
theorem fin_lst {H : Hp} {N : Addr → Prop} {ds : List D} {vs : List V} {Q : VK} (q : ∀ v H' Ψ, Ext H H' → (∀ a ∈ Ψ, H a = none) → Ψ.Nodup → Own K H' (fun a => N a ∨ (H a = none ∧ a ∉ Ψ)) 1 (.lst ds) v Ψ → Q v H') (o : OwnL K H N 0 ds vs []) (p : Addr) (n : H p = none) : Q (.ref p) (upd H p (.lst vs)) :=
  q _ _ [p] (ext_upd n) (fun a m => by rw [List.mem_singleton.mp m]; exact n) (List.nodup_cons.mpr ⟨List.not_mem_nil, .nil⟩)
    (new_lst (o.move (N' := fun a => N a ∨ (H a = none ∧ a ∉ [p])) (fun a o e _ => e) (fun a o e z => ⟨e, .inl z⟩) fun a m => (nomatch m)) n)
theorem fin_tup {H : Hp} {N : Addr → Prop} {ds : List D} {vs : List V} {Q : VK} (q : ∀ v H' Ψ, Ext H H' → (∀ a ∈ Ψ, H a = none) → Ψ.Nodup → Own K H' (fun a => N a ∨ (H a = none ∧ a ∉ Ψ)) 0 (.tup ds) v Ψ → Q v H') (o : OwnL K H N 0 ds vs []) (p : Addr) (n : H p = none) : Q (.ref p) (upd H p (.tup vs)) :=
  q _ _ [] (ext_upd n) (fun a m => (nomatch m)) .nil (new_tup (o.move (N' := fun a => N a ∨ (H a = none ∧ a ∉ [])) (fun a o e _ => e) (fun a o e z => ⟨e, .inl z⟩) fun a m => (nomatch m)) n)
/-- what is owned at 1 is shared at 0 -/
theorem to0 {H : Hp} {N : Addr → Prop} {d : D} {Q : VK} (q : ∀ v H' Ψ, Ext H H' → (∀ a ∈ Ψ, H a = none) → Ψ.Nodup → Own K H' (fun a => N a ∨ (H a = none ∧ a ∉ Ψ)) 0 d v Ψ → Q v H') (v : V) (H' : Hp) (Ψ : List Addr) (x : Ext H H') (new : ∀ a ∈ Ψ, H a = none) (nd : Ψ.Nodup) (o : Own K H' (fun a => N a ∨ (H a = none ∧ a ∉ Ψ)) m d v Ψ) : Q v H' :=
  q v H' [] x (fun a m => (nomatch m)) .nil (o.share (fun a z => z.elim .inl fun z => .inr ⟨z.1, List.not_mem_nil⟩) fun a m => .inr ⟨new a m, List.not_mem_nil⟩)
theorem o2_add : Op2 K (rAddA K) 0 gAdd := by
  refine ⟨fun {H N d1 d2 d v1 v2} o1 o2 e Q q => ?_⟩
  unfold gAdd at e
  split at e
  · rename_i i j
    cases e; cases o1; cases o2
    exact .inl (.inl ⟨i, j, rfl, rfl, fin0 q fun _ => .int⟩)
  · rename_i i j
    split at e
    · rename_i hz
      cases e; cases o1; cases o2
      exact .inl (.inr ⟨i, j, rfl, rfl, hz, fin0 q fun _ => .str⟩)
    · cases e
  · rename_i xs ys
    split at e
    · rename_i hz
      cases e
      obtain ⟨l, vs, rfl, s1, l1⟩ := o1.lst_inv0
      obtain ⟨b, us, rfl, s2, l2⟩ := o2.lst_inv0
      exact .inr (.inl ⟨l, b, vs, us, rfl, rfl, s1, s2, by rw [l1.len, l2.len]; exact hz, fin_lst (to0 q) (l1.app l2)⟩)
    · cases e
  · rename_i xs ys
    split at e
    · rename_i hz
      cases e
      obtain ⟨l, vs, rfl, s1, l1⟩ := o1.tup_inv
      obtain ⟨b, us, rfl, s2, l2⟩ := o2.tup_inv
      refine .inr (.inr ⟨l, b, vs, us, rfl, rfl, s1, s2, by rw [l1.len, l2.len]; exact hz, fun ex => ?_, fun _ ey => ?_, fun _ _ => fin_tup q (l1.app l2)⟩)
      · subst ex
        cases l1
        exact finS q (.tup s2 l2)
      · subst ey
        cases l2
        rw [List.append_nil] at q
        exact finS q (.tup s1 l1)
    · cases e
  · cases e
def gCat : D → D → Option D
  | .lst xs, .lst ys => if xs.length + ys.length ≤ sizeLine then some (.lst (xs ++ ys)) else none
  | _, _ => none
theorem o2_cat : Op2 K (rCatS K) 1 gCat := by
  refine ⟨fun {H N d1 d2 d v1 v2} o1 o2 e Q q => ?_⟩
  unfold gCat at e
  split at e
  · rename_i xs ys
    split at e
    · rename_i hz
      cases e
      obtain ⟨l, vs, rfl, s1, l1⟩ := o1.lst_inv0
      obtain ⟨b, us, rfl, s2, l2⟩ := o2.lst_inv0
      exact ⟨l, b, vs, us, rfl, rfl, s1, s2, by rw [l1.len, l2.len]; exact hz, fin_lst q (l1.app l2)⟩
    · cases e
  · cases e
/-- ints, under c -/
def gIg (c : Int → Int → Bool) (g : Int → Int → Int) : D → D → Option D
  | .int i, .int j => if c i j = true then some (.int (g i j)) else none
  | _, _ => none
theorem o2_Ig {C : Int → Int → Prop} {c : Int → Int → Bool} {g : Int → Int → Int} (hc : ∀ i j, c i j = true → C i j) : Op2 K (rI C fun i j => .int (g i j)) 0 (gIg c g) := by
  refine ⟨fun o1 o2 e Q q => ?_⟩
  unfold gIg at e
  split at e
  · rename_i i j
    split at e
    · rename_i h
      cases e; cases o1; cases o2
      exact ⟨i, j, rfl, rfl, hc i j h, fin0 q fun _ => .int⟩
    · cases e
  · cases e
def gIu (g : Int → Int → Int) : D → D → Option D
  | .int i, .int j => some (.int (g i j))
  | _, _ => none
theorem o2_Iu {g : Int → Int → Int} : Op2 K (rI0 fun i j => .int (g i j)) 0 (gIu g) := by
  refine ⟨fun o1 o2 e Q q => ?_⟩
  unfold gIu at e
  split at e
  · rename_i i j
    cases e; cases o1; cases o2
    exact ⟨i, j, rfl, rfl, fin0 q fun _ => .int⟩
  · cases e
abbrev gSub := gIu fun i j => i - j
abbrev gAnd := gIu fun i j => Builtin.bitAnd i j
abbrev gOr := gIu fun i j => Builtin.bitOr i j
abbrev gXor := gIu fun i j => Builtin.bitXor i j
abbrev gMul := gIg cMul fun i j => i * j
abbrev gDiv := gIg (fun _ j => cDiv j) fun i j => i / j
abbrev gMod := gIg (fun _ j => decide (0 < j)) fun i j => i % j
abbrev gPow := gIg (fun i j => decide (0 ≤ j) && decide (j ≤ 1000) && decide (i.natAbs < 2 ^ 64)) fun i j => i ^ j.toNat
abbrev gShl := gIg (fun i j => decide (0 ≤ j) && decide (j ≤ 1000) && decide (i.natAbs < 2 ^ 4000)) fun i j => i * 2 ^ j.toNat
abbrev gShr := gIg (fun _ j => decide (0 ≤ j)) fun i j => i / 2 ^ j.toNat
theorem o2_mul : Op2 K (rI CMulW fun i j => .int (i * j)) 0 gMul := o2_Ig fun i j h => by
  unfold cMul at h
  simp only [Bool.and_eq_true, decide_eq_true_eq] at h
  have h1 := log2_of ⟨h.1.1.1, h.1.1.2⟩
  have h2 := log2_of ⟨h.1.2, h.2⟩
  show i.natAbs.log2 + j.natAbs.log2 < 1000000
  omega
theorem o2_div : Op2 K (rI CDivW fun i j => .int (i / j)) 0 gDiv := o2_Ig fun i j h => by
  unfold cDiv at h
  simp only [Bool.and_eq_true, decide_eq_true_eq] at h
  have h2 := log2_of (i := j) ⟨by unfold mB; omega, h.2⟩
  exact ⟨h.1, by omega⟩
theorem o2_mod : Op2 K (rI (fun _ j => 0 < j) fun i j => .int (i % j)) 0 gMod := o2_Ig fun i j h => of_decide_eq_true h
theorem o2_pow : Op2 K (rI CPow fun i j => .int (i ^ j.toNat)) 0 gPow := o2_Ig fun i j h => by
  simp only [Bool.and_eq_true, decide_eq_true_eq] at h
  exact ⟨h.1.1, by omega, h.2⟩
theorem o2_shl : Op2 K (rI CShl fun i j => .int (i * 2 ^ j.toNat)) 0 gShl := o2_Ig fun i j h => by
  simp only [Bool.and_eq_true, decide_eq_true_eq] at h
  have q := shl_ok (i := i) (j := j.toNat) h.2 (by omega)
  rw [Int.toNat_of_nonneg h.1.1] at q
  exact q
theorem o2_shr : Op2 K (rI (fun _ j => 0 ≤ j) fun i j => .int (i / 2 ^ j.toNat)) 0 gShr := o2_Ig fun i j h => of_decide_eq_true h
def eUn (g : Int → Int) (f : Store → Option D) : Store → Option D := fun ρ => match f ρ with
  | some (.int i) => some (.int (g i))
  | _ => none
theorem ev_un {op : UnaryOp} {g : Int → Int} (ho : UnR X (unaryOp op) (rU fun i => .int (g i))) (h : Ev X Γ a m B f t) : Ev X Γ (.UnaryOp op a pos) 0 B (eUn g f) (tUn (rU fun i => .int (g i)) t) := by
  refine ⟨pe_un ho h.pe, ⟨fun {E ρ σ H Φ} R d e Q q => ?_⟩⟩
  unfold eUn at e
  split at e
  · rename_i i e1
    cases e
    refine h.sd.sh R e1 _ fun v H1 x o => ?_
    cases o
    exact ⟨i, rfl, q _ _ [] ⟨x, fun a m => (nomatch m), .nil, .int⟩⟩
  · cases e

/-! ### comparisons -/
theorem ev_cmp {op : CmpOp} {r : R2} {g : D → D → Option D} (ho : OpR X (compareOp op) r) (hs : Op2 X.K r m g) (h1 : Ev X Γ a m1 B1 f1 t1) (h2 : Ev X Γ b m2 B2 f2 t2) (hm : behindInMarks op b = false) : Ev X Γ (.Compare a [op] [b] pos) m (B1 ++ B2) (e2 g f1 f2) (tOp r t1 t2) :=
  ⟨pe_cmpR ho h1.pe h2.pe hm, sd_2 hs h1.sd h2.sd⟩
def tBo (f : Store → Option D) : Store → Option Bool := fun ρ => match f ρ with
  | some (.bl b) => some b
  | _ => none
theorem sd_test (h : SdE K Γ t m B f) : SdT K Γ (tTest t) (tBo f) := by
  refine ⟨fun {E ρ σ H Φ} R b e Q q => ?_⟩
  unfold tBo at e
  split at e
  · rename_i b' e1
    cases e
    refine h.sh R e1 _ fun v H1 x o => ?_
    cases o
    exact ⟨b, rfl, q H1 x⟩
  · cases e
theorem tv_cmp {op : CmpOp} {r : R2} {g : D → D → Option D} (ho : OpR X (compareOp op) r) (hs : Op2 X.K r m g) (h1 : Ev X Γ a m1 B1 f1 t1) (h2 : Ev X Γ b m2 B2 f2 t2) (hm : behindInMarks op b = false) : Tv X Γ (.Compare a [op] [b] pos) (tBo (e2 g f1 f2)) (tTest (tOp r t1 t2)) :=
  ⟨pt_cmpR ho h1.pe h2.pe hm, sd_test (sd_2 hs h1.sd h2.sd)⟩
theorem tv_val (h : Ev X Γ e m B f t) (he : ∀ whole, isTrue e X.env whole = (do let v ← whole; standAt e.pos; holding [v] (truthy v)) := by intro _; rfl) : Tv X Γ e (tBo f) (tB t) := ⟨pt_val h.pe he, sd_test h.sd⟩
def gCmp (p : Int → Int → Bool) : D → D → Option D
  | .int i, .int j => some (.bl (p i j))
  | _, _ => none
theorem o2_cmp {p : Int → Int → Bool} : Op2 K (rI0 fun i j => .bl (p i j)) 0 (gCmp p) := by
  refine ⟨fun o1 o2 e Q q => ?_⟩
  unfold gCmp at e
  split at e
  · rename_i i j
    cases e; cases o1; cases o2
    exact ⟨i, j, rfl, rfl, fin0 q fun _ => .bl⟩
  · cases e
abbrev gLt := gCmp fun i j => decide (i < j)
abbrev gLe := gCmp fun i j => decide (i ≤ j)
abbrev gGt := gCmp fun i j => decide (j < i)
abbrev gGe := gCmp fun i j => decide (j ≤ i)
/-- is None -/
def D.isNon : D → Bool
  | .non => true
  | _ => false
def gIsN (k : Bool) : D → D → Option D
  | d, .non => some (.bl (if k then !d.isNon else d.isNon))
  | _, _ => none
theorem isNon_of {H : Hp} {N : Addr → Prop} {n : Nat} {d : D} {v : V} {fp : List Addr} (o : Own K H N n d v fp) : decide (v = .non) = d.isNon := by
  cases o <;> rfl
theorem o2_isN : Op2 K (fun x y H Q => y = .non ∧ Q (.bl (decide (x = .non))) H) 0 (gIsN false) := by
  refine ⟨fun o1 o2 e Q q => ?_⟩
  unfold gIsN at e
  split at e
  · cases e; cases o2
    refine ⟨rfl, ?_⟩
    rw [isNon_of o1]
    exact fin0 q fun _ => .bl
  · cases e
theorem o2_notN : Op2 K (fun x y H Q => y = .non ∧ Q (.bl (!decide (x = .non))) H) 0 (gIsN true) := by
  refine ⟨fun o1 o2 e Q q => ?_⟩
  unfold gIsN at e
  split at e
  · cases e; cases o2
    refine ⟨rfl, ?_⟩
    rw [isNon_of o1]
    exact fin0 q fun _ => .bl
  · cases e
end
end VL

/-! VL7: equality, membership, and or not, displays, subscripts, slices. -/
namespace VL
open PySem PySem.Spec L2
open PyProof.Rows hiding St
variable {K : PySem.W.Frag}

/-! ### == of data -/
mutual
def D.toPy : D → PyData
  | .non => .none
  | .bl b => .bool b
  | .int i => .int i
  | .str x => .str x
  | .tup ds => .tuple (D.toPyL ds)
  | .lst ds => .list (D.toPyL ds)
  | .dct _ _ => .none
  | .obj _ _ _ => .none
def D.toPyL : List D → List PyData
  | [] => []
  | d :: ds => d.toPy :: D.toPyL ds
end
mutual
def D.isData : D → Bool
  | .tup ds => D.isDataL ds
  | .lst ds => D.isDataL ds
  | .dct _ _ => false
  | .obj _ _ _ => false
  | .non => true
  | .bl _ => true
  | .int _ => true
  | .str _ => true
def D.isDataL : List D → Bool
  | [] => true
  | d :: ds => d.isData && D.isDataL ds
end
mutual
theorem Own.dp {H : Hp} {N : Addr → Prop} : ∀ {n : Nat} {d : D} {v : V} {fp : List Addr}, Own K H N n d v fp → d.isData = true → Dp K H v d.toPy
  | _, _, _, _, .non, _ => .non
  | _, _, _, _, .bl, _ => .bl _
  | _, _, _, _, .int, _ => .int _
  | _, _, _, _, .str, _ => .str _
  | _, _, _, _, .tup h l, i => .tup h (OwnL.dp l (by rw [D.isData] at i; exact i))
  | _, _, _, _, .shl n h l, i => .lst (.inl h) (OwnL.dp l (by rw [D.isData] at i; exact i))
  | _, _, _, _, .kl h l, i => by
    refine .lst ?_ (OwnL.dp l (by rw [D.isData] at i; exact i))
    rcases h with (h | ⟨o, h⟩) | h
    · cases h
    · cases h
    · exact .inr h
  | _, _, _, _, .lst h l, i => .lst (.inl (.inl h)) (OwnL.dp l (by rw [D.isData] at i; exact i))
  | _, _, _, _, .shd n h e nd l, i => by rw [D.isData] at i; cases i
  | _, _, _, _, .dct h e nd l, i => by rw [D.isData] at i; cases i
  | _, _, _, _, .sho n h e l, i => by rw [D.isData] at i; cases i
  | _, _, _, _, .obj h e l, i => by rw [D.isData] at i; cases i
theorem OwnL.dp {H : Hp} {N : Addr → Prop} : ∀ {n : Nat} {d : List D} {v : List V} {fp : List Addr}, OwnL K H N n d v fp → D.isDataL d = true → DpAll K H v (D.toPyL d)
  | _, _, _, _, .nil, _ => .nil
  | _, _, _, _, .cons h l, i => by
    rw [D.isDataL, Bool.and_eq_true] at i
    exact .cons (Own.dp h i.1) (OwnL.dp l i.2)
end
def D.okE (d : D) : Bool := d.isData && SeqAt.shaped d.toPy
def D.eqv (d e : D) : Bool := PyData.eqv d.toPy e.toPy
def gEq (neg : Bool) (d e : D) : Option D := if d.okE = true ∧ e.okE = true then some (.bl (if neg then !D.eqv d e else D.eqv d e)) else none
section
variable {m : Nat}
theorem o2_eq : Op2 K (rEqD K) 0 (gEq false) := by
  refine ⟨fun {H N d1 d2 d v1 v2} o1 o2 e Q q => ?_⟩
  unfold gEq at e
  split at e
  · rename_i h
    cases e
    unfold D.okE at h
    simp only [Bool.and_eq_true] at h
    exact ⟨_, _, o1.dp h.1.1, o2.dp h.2.1, h.1.2, h.2.2, fin0 q fun _ => .bl⟩
  · cases e
theorem o2_ne : Op2 K (rNeD K) 0 (gEq true) := by
  refine ⟨fun {H N d1 d2 d v1 v2} o1 o2 e Q q => ?_⟩
  unfold gEq at e
  split at e
  · rename_i h
    cases e
    unfold D.okE at h
    simp only [Bool.and_eq_true] at h
    exact ⟨_, _, o1.dp h.1.1, o2.dp h.2.1, h.1.2, h.2.2, fin0 q fun _ => .bl⟩
  · cases e
end

/-! ### in a list or tuple of flat items; a sign in a text -/
def D.fl : D → Bool
  | .non => true
  | .bl _ => true
  | .int _ => true
  | .str _ => true
  | _ => false
def D.toV : D → V
  | .bl b => .bl b
  | .int i => .int i
  | .str x => .str x
  | _ => .non
theorem Own.toV {H : Hp} {N : Addr → Prop} {n : Nat} {d : D} {v : V} {fp : List Addr} (o : Own K H N n d v fp) (h : d.fl = true) : v = d.toV ∧ flatV v = true := by
  cases o <;> first | exact ⟨rfl, rfl⟩ | cases h
theorem OwnL.toV {H : Hp} {N : Addr → Prop} {n : Nat} : ∀ {ds : List D} {vs : List V} {fp : List Addr}, OwnL K H N n ds vs fp → ds.all D.fl = true → vs = ds.map D.toV ∧ vs.all flatV = true
  | _, _, _, .nil, _ => ⟨rfl, rfl⟩
  | _, _, _, .cons h l, e => by
    rw [List.all_cons, Bool.and_eq_true] at e
    obtain ⟨e1, f1⟩ := h.toV e.1
    obtain ⟨e2, f2⟩ := OwnL.toV l e.2
    rw [e1] at f1
    rw [e2] at f2
    subst e1 e2
    refine ⟨rfl, ?_⟩
    rw [List.all_cons, f1, f2]; rfl
def inD (d : D) (ds : List D) : Bool := inV d.toV (ds.map D.toV)
def gIn (neg : Bool) : D → D → Option D
  | d, .lst ds => if d.fl = true ∧ ds.all D.fl = true then some (.bl (if neg then !inD d ds else inD d ds)) else none
  | d, .tup ds => if d.fl = true ∧ ds.all D.fl = true then some (.bl (if neg then !inD d ds else inD d ds)) else none
  | _, _ => none
theorem o2_in {neg : Bool} : Op2 K (rIn K neg) 0 (gIn neg) := by
  refine ⟨fun {H N d1 d2 d v1 v2} o1 o2 e Q q => ?_⟩
  unfold gIn at e
  split at e
  · rename_i x ds
    split at e
    · rename_i h
      cases e
      obtain ⟨l, vs, rfl, s, lo⟩ := o2.lst_inv0
      obtain ⟨e1, f1⟩ := o1.toV h.1
      obtain ⟨e2, f2⟩ := lo.toV h.2
      refine ⟨l, vs, rfl, .inl s, f1, f2, ?_⟩
      rw [e1, e2]
      exact fin0 q fun _ => .bl
    · cases e
  · rename_i x ds
    split at e
    · rename_i h
      cases e
      obtain ⟨l, vs, rfl, s, lo⟩ := o2.tup_inv
      obtain ⟨e1, f1⟩ := o1.toV h.1
      obtain ⟨e2, f2⟩ := lo.toV h.2
      refine ⟨l, vs, rfl, .inr s, f1, f2, ?_⟩
      rw [e1, e2]
      exact fin0 q fun _ => .bl
    · cases e
  · cases e

section
variable {X : Cx} {Γ : List Nat} {a b c e : Expr} {es rest : List Expr} {m m1 m2 m3 : Nat} {B B1 B2 B3 : List Nat} {f f1 f2 f3 : Store → Option D} {t t1 t2 t3 u : TE} {ta : TA} {pos : Pos}
/-! ### and, or, not -/
variable {p q : Store → Option Bool} {tp tq : TT}
def bAnd (p q : Store → Option Bool) : Store → Option Bool := fun ρ => match p ρ with
  | some true => q ρ
  | some false => some false
  | none => none
def bOr (p q : Store → Option Bool) : Store → Option Bool := fun ρ => match p ρ with
  | some true => some true
  | some false => q ρ
  | none => none
def bNot (p : Store → Option Bool) : Store → Option Bool := fun ρ => match p ρ with
  | some b => some (!b)
  | none => none
theorem sd_and (h1 : SdT K Γ tp p) (h2 : SdT K Γ tq q) : SdT K Γ (tAnd tp tq) (bAnd p q) := by
  refine ⟨fun {E ρ σ H Φ} R b e Q k => ?_⟩
  unfold bAnd at e
  split at e
  · rename_i e1
    refine h1.run R _ e1 _ fun H1 x => ?_
    rw [if_pos rfl]
    exact h2.run (R.ext x) _ e Q fun H2 x2 => k H2 fun a o e => x2 a o (x a o e)
  · rename_i e1
    cases e
    refine h1.run R _ e1 _ fun H1 x => ?_
    rw [if_neg Bool.false_ne_true]
    exact k H1 x
  · cases e
theorem sd_or (h1 : SdT K Γ tp p) (h2 : SdT K Γ tq q) : SdT K Γ (tOr tp tq) (bOr p q) := by
  refine ⟨fun {E ρ σ H Φ} R b e Q k => ?_⟩
  unfold bOr at e
  split at e
  · rename_i e1
    cases e
    refine h1.run R _ e1 _ fun H1 x => ?_
    rw [if_pos rfl]
    exact k H1 x
  · rename_i e1
    refine h1.run R _ e1 _ fun H1 x => ?_
    rw [if_neg Bool.false_ne_true]
    exact h2.run (R.ext x) _ e Q fun H2 x2 => k H2 fun a o e => x2 a o (x a o e)
  · cases e
theorem sd_not (h1 : SdT K Γ tp p) : SdT K Γ (tNot tp) (bNot p) := by
  refine ⟨fun {E ρ σ H Φ} R b e Q k => ?_⟩
  unfold bNot at e
  split at e
  · rename_i e1
    cases e
    exact h1.run R _ e1 _ fun H1 x => k H1 x
  · cases e
theorem wv_and1 (h : Tv X Γ a p tp) : Wv X Γ (.BoolOp .And [a] pos) p tp := ⟨pw_and1 h.pt, h.sd⟩
theorem wv_or1 (h : Tv X Γ a p tp) : Wv X Γ (.BoolOp .Or [a] pos) p tp := ⟨pw_or1 h.pt, h.sd⟩
theorem wv_and (h1 : Tv X Γ a p tp) (h2 : Wv X Γ (.BoolOp .And (b :: rest) pos) q tq) : Wv X Γ (.BoolOp .And (a :: b :: rest) pos) (bAnd p q) (tAnd tp tq) := ⟨pw_and h1.pt h2.pw, sd_and h1.sd h2.sd⟩
theorem wv_or (h1 : Tv X Γ a p tp) (h2 : Wv X Γ (.BoolOp .Or (b :: rest) pos) q tq) : Wv X Γ (.BoolOp .Or (a :: b :: rest) pos) (bOr p q) (tOr tp tq) := ⟨pw_or h1.pt h2.pw, sd_or h1.sd h2.sd⟩
theorem Wv.tv (h : Wv X Γ e p tp) : Tv X Γ e p tp := ⟨h.pw.pt, h.sd⟩
theorem tv_not (h : Tv X Γ a p tp) : Tv X Γ (.UnaryOp .Not a pos) (bNot p) (tNot tp) := ⟨pt_not h.pt, sd_not h.sd⟩
/-- as values -/
def eAnd (f g : Store → Option D) : Store → Option D := fun ρ => match f ρ with
  | some (.bl true) => g ρ
  | some (.bl false) => some (.bl false)
  | _ => none
def eOr (f g : Store → Option D) : Store → Option D := fun ρ => match f ρ with
  | some (.bl true) => some (.bl true)
  | some (.bl false) => g ρ
  | _ => none
def eNot (f : Store → Option D) : Store → Option D := fun ρ => match f ρ with
  | some (.bl b) => some (.bl !b)
  | _ => none
theorem Res.trans {Φ : Nat → List Addr} {d : D} {H H1 H2 : Hp} {v : V} {Ψ : List Addr} (x : Ext H H1) (r : Res K B Φ m d H1 v H2 Ψ) : Res K B Φ m d H v H2 Ψ :=
  ⟨fun a o e => r.ext a o (x a o e), fun a m => (by
    cases e : H a with
    | none => rfl
    | some o =>
      have z := x a o e
      rw [r.new a m] at z
      cases z), r.nd, r.own⟩
theorem Res.sc {Φ : Nat → List Addr} {d : D} {H H1 : Hp} {v : V} (x : Ext H H1) (o : ∀ N, Own K H1 N m d v []) : Res K B Φ m d H v H1 [] := ⟨x, fun a m => (nomatch m), .nil, o _⟩
theorem sd_eand (h1 : SdE K Γ t1 m1 B1 f1) (h2 : SdE K Γ t2 m B f2) : SdE K Γ (tAndV t1 t2) m B (eAnd f1 f2) := by
  refine ⟨fun {E ρ σ H Φ} R d e Q k => ?_⟩
  unfold eAnd at e
  split at e
  · rename_i e1
    refine h1.sh R e1 _ fun v H1 x o => ?_
    cases o
    refine ⟨true, rfl, ?_⟩
    rw [if_pos rfl]
    exact h2.run (R.ext x) _ e Q fun v H2 Ψ r => k v H2 Ψ (r.trans x)
  · rename_i e1
    cases e
    refine h1.sh R e1 _ fun v H1 x o => ?_
    cases o
    refine ⟨false, rfl, ?_⟩
    rw [if_neg Bool.false_ne_true]
    exact k _ _ _ (.sc x fun _ => .bl)
  · cases e
theorem sd_eor (h1 : SdE K Γ t1 m1 B1 f1) (h2 : SdE K Γ t2 m B f2) : SdE K Γ (tOrV t1 t2) m B (eOr f1 f2) := by
  refine ⟨fun {E ρ σ H Φ} R d e Q k => ?_⟩
  unfold eOr at e
  split at e
  · rename_i e1
    cases e
    refine h1.sh R e1 _ fun v H1 x o => ?_
    cases o
    refine ⟨true, rfl, ?_⟩
    rw [if_pos rfl]
    exact k _ _ _ (.sc x fun _ => .bl)
  · rename_i e1
    refine h1.sh R e1 _ fun v H1 x o => ?_
    cases o
    refine ⟨false, rfl, ?_⟩
    rw [if_neg Bool.false_ne_true]
    exact h2.run (R.ext x) _ e Q fun v H2 Ψ r => k v H2 Ψ (r.trans x)
  · cases e
theorem sd_enot (h1 : SdE K Γ t1 m1 B1 f1) : SdE K Γ (tNotV t1) 0 [] (eNot f1) := by
  refine ⟨fun {E ρ σ H Φ} R d e Q k => ?_⟩
  unfold eNot at e
  split at e
  · rename_i b e1
    cases e
    refine h1.sh R e1 _ fun v H1 x o => ?_
    cases o
    exact ⟨b, rfl, k _ _ _ (.sc x fun _ => .bl)⟩
  · cases e
theorem ev_one {op} (h : Ev X Γ a m B f t) : Ev X Γ (.BoolOp op [a] pos) m B f t := ⟨pe_one h.pe, h.sd⟩
theorem ev_and (h1 : Ev X Γ a m1 B1 f1 t1) (h2 : Ev X Γ (.BoolOp .And (b :: rest) pos) m B f2 t2) : Ev X Γ (.BoolOp .And (a :: b :: rest) pos) m B (eAnd f1 f2) (tAndV t1 t2) := ⟨pe_and h1.pe h2.pe, sd_eand h1.sd h2.sd⟩
theorem ev_or (h1 : Ev X Γ a m1 B1 f1 t1) (h2 : Ev X Γ (.BoolOp .Or (b :: rest) pos) m B f2 t2) : Ev X Γ (.BoolOp .Or (a :: b :: rest) pos) m B (eOr f1 f2) (tOrV t1 t2) := ⟨pe_or h1.pe h2.pe, sd_eor h1.sd h2.sd⟩
theorem ev_not (h1 : Ev X Γ a m1 B1 f1 t1) : Ev X Γ (.UnaryOp .Not a pos) 0 [] (eNot f1) (tNotV t1) := ⟨pe_not h1.pe, sd_enot h1.sd⟩

/-! ### a < b < c -/
def eChain (g1 g2 : D → D → Option D) (f1 f2 f3 : Store → Option D) : Store → Option D := fun ρ => match f1 ρ with
  | some x => (match f2 ρ with
    | some y => (match g1 x y with
      | some (.bl true) => (match f3 ρ with | some z => g2 y z | none => none)
      | some (.bl false) => some (.bl false)
      | _ => none)
    | none => none)
  | none => none
theorem sd_chain {r r' : R2} {g1 g2 : D → D → Option D} (ho : Op2 K r 0 g1) (ho' : Op2 K r' 0 g2) (h1 : SdE K Γ t1 m1 B1 f1) (h2 : SdE K Γ t2 m2 B2 f2) (h3 : SdE K Γ t3 m3 B3 f3) (sc : ∀ x y d, g2 x y = some d → ∃ b, d = .bl b) (sy : ∀ x y d, g2 x y = some d → ∃ i, x = .int i) :
    SdE K Γ (tChain r r' t1 t2 t3) 0 [] (eChain g1 g2 f1 f2 f3) := by
  refine ⟨fun {E ρ σ H Φ} R d e Q k => ?_⟩
  unfold eChain at e
  split at e
  · rename_i x e1
    split at e
    · rename_i y e2
      refine two h1 h2 R e1 e2 _ fun v1 v2 H1 x1 o1 o2 => ?_
      split at e
      · rename_i e3
        refine ho.run o1 o2 e3 _ fun v H2 Ψ x2 _ _ o => ?_
        cases o
        refine ⟨true, rfl, ?_⟩
        rw [if_pos rfl]
        split at e
        · rename_i z e4
          have xx : Ext H H2 := fun a o e => x2 a o (x1 a o e)
          refine h3.sh (R.ext xx) e4 _ fun v3 H3 x3 o3 => ?_
          obtain ⟨b, rfl⟩ := sc _ _ _ e
          obtain ⟨i, rfl⟩ := sy _ _ _ e
          cases o2
          exact ho'.run (N := _) .int o3 e Q fun v H4 Ψ x4 _ _ o => by
            cases o
            exact k _ _ _ (.sc (fun a o e => x4 a o (x3 a o (xx a o e))) fun _ => .bl)
        · cases e
      · rename_i e3
        cases e
        refine ho.run o1 o2 e3 _ fun v H2 Ψ x2 _ _ o => ?_
        cases o
        refine ⟨false, rfl, ?_⟩
        rw [if_neg Bool.false_ne_true]
        exact k _ _ _ (.sc (fun a o e => x2 a o (x1 a o e)) fun _ => .bl)
      · cases e
    · cases e
  · cases e
theorem gCmp_bl {p : Int → Int → Bool} : ∀ x y d, gCmp p x y = some d → ∃ b, d = .bl b := fun x y d e => by
  unfold gCmp at e
  split at e
  · cases e; exact ⟨_, rfl⟩
  · cases e
theorem gCmp_in {p : Int → Int → Bool} : ∀ x y d, gCmp p x y = some d → ∃ i, x = .int i := fun x y d e => by
  unfold gCmp at e
  split at e
  · exact ⟨_, rfl⟩
  · cases e
theorem ev_chain {op op' : CmpOp} {p1 p2 : Int → Int → Bool} (ho : OpR X (compareOp op) (rI0 fun i j => .bl (p1 i j))) (ho' : OpR X (compareOp op') (rI0 fun i j => .bl (p2 i j))) (h1 : Ev X Γ a m1 B1 f1 t1) (h2 : Ev X Γ b m2 B2 f2 t2) (h3 : Ev X Γ c m3 B3 f3 t3)
    (hm : lastMarks [op, op'] [b, c] = false := by with_unfolding_all rfl) : Ev X Γ (.Compare a [op, op'] [b, c] pos) 0 [] (eChain (gCmp p1) (gCmp p2) f1 f2 f3) (tChain (rI0 fun i j => .bl (p1 i j)) (rI0 fun i j => .bl (p2 i j)) t1 t2 t3) :=
  ⟨pe_chain ho ho' h1.pe h2.pe h3.pe hm, sd_chain o2_cmp o2_cmp h1.sd h2.sd h3.sd gCmp_bl gCmp_in⟩
theorem tv_chain {op op' : CmpOp} {p1 p2 : Int → Int → Bool} (ho : OpR X (compareOp op) (rI0 fun i j => .bl (p1 i j))) (ho' : OpR X (compareOp op') (rI0 fun i j => .bl (p2 i j))) (h1 : Ev X Γ a m1 B1 f1 t1) (h2 : Ev X Γ b m2 B2 f2 t2) (h3 : Ev X Γ c m3 B3 f3 t3)
    (hm : lastMarks [op, op'] [b, c] = false := by with_unfolding_all rfl) : Tv X Γ (.Compare a [op, op'] [b, c] pos) (tBo (eChain (gCmp p1) (gCmp p2) f1 f2 f3)) (tTest (tChain (rI0 fun i j => .bl (p1 i j)) (rI0 fun i j => .bl (p2 i j)) t1 t2 t3)) :=
  ⟨pt_chain ho ho' h1.pe h2.pe h3.pe hm, sd_test (sd_chain o2_cmp o2_cmp h1.sd h2.sd h3.sd gCmp_bl gCmp_in)⟩
end
end VL

/-! VL8: displays, subscripts, slices; lists that change; comprehensions. -/
namespace VL
open PySem PySem.Spec L2
open PyProof.Rows hiding St
variable {K : PySem.W.Frag}

section
variable {X : Cx} {Γ Γt : List Nat} {a b c e : Expr} {es rest : List Expr} {m m1 m2 m3 k : Nat} {B B1 B2 B3 : List Nat} {f f1 f2 f3 : Store → Option D} {fa : Store → Option (List D)} {t te t1 t2 t3 u : TE} {ta : TA} {pos : Pos}
/-! ### displays -/
def eLst (fa : Store → Option (List D)) : Store → Option D := fun ρ => match fa ρ with
  | some ds => if ds.length ≤ sizeLine then some (.lst ds) else none
  | none => none
def eTup (fa : Store → Option (List D)) : Store → Option D := fun ρ => match fa ρ with
  | some ds => if ds.length ≤ sizeLine then some (.tup ds) else none
  | none => none
theorem sd_lst (h : SdA K Γ ta k B fa) : SdE K Γ (tLst ta) (k + 1) B (eLst fa) := by
  refine ⟨fun {E ρ σ H Φ} R d e Q q => ?_⟩
  unfold eLst at e
  split at e
  · rename_i ds e1
    split at e
    · rename_i hz
      cases e
      refine h.run R _ e1 _ fun vs H1 Ψ r => ⟨by rw [r.own.len]; exact hz, fun p n => ?_⟩
      have x := ext_upd (o := .lst vs) n
      have np : p ∉ Ψ := fun m => by obtain ⟨o, z, _⟩ := r.own.live p m; rw [n] at z; cases z
      refine q _ _ (p :: Ψ) ⟨fun a o e => x a o (r.ext a o e), fun a m => ?_, List.nodup_cons.mpr ⟨np, r.nd⟩, .lst upd_same (r.own.move (fun a o e _ => x a o e) (fun a o e z => ⟨x a o e, fun m => ?_, z.2⟩) fun a _ o e => x a o e)⟩
      · rcases List.mem_cons.mp m with m | m
        · subst m
          cases z : H a with
          | none => rfl
          | some o => have z2 := r.ext a o z; rw [n] at z2; cases z2
        · exact r.new a m
      · rcases List.mem_cons.mp m with m | m
        · subst m; rw [n] at e; cases e
        · exact z.1 m
    · cases e
  · cases e
theorem sd_tup (h : SdA K Γ ta k B fa) : SdE K Γ (tTup ta) k B (eTup fa) := by
  refine ⟨fun {E ρ σ H Φ} R d e Q q => ?_⟩
  unfold eTup at e
  split at e
  · rename_i ds e1
    split at e
    · rename_i hz
      cases e
      refine h.run R _ e1 _ fun vs H1 Ψ r => ⟨by rw [r.own.len]; exact hz, fun p n => ?_⟩
      have x := ext_upd (o := .tup vs) n
      exact q _ _ Ψ ⟨fun a o e => x a o (r.ext a o e), r.new, r.nd, new_tup r.own n⟩
    · cases e
  · cases e
theorem ev_lst (h : Av X Γ es k B fa ta) : Ev X Γ (.List es pos) (k + 1) B (eLst fa) (tLst ta) := ⟨pe_lst h.pa, sd_lst h.sd⟩
theorem ev_tup {x1} (h : Av X Γ es k B fa ta) : Ev X Γ (.Tuple es x1 pos) k B (eTup fa) (tTup ta) := ⟨pe_tup h.pa, sd_tup h.sd⟩

/-! ### subscripts -/
def gIx : D → D → Option D
  | .lst ds, .int i => atI ds i
  | .tup ds, .int i => atI ds i
  | .str z, .int i => if z.length ≤ sizeLine then (match atI z.cps.toList i with | some c => some (.str ⟨#[c]⟩) | none => none) else none
  | _, _ => none
theorem o2_ix : Op2 K (rIx K) 0 gIx := by
  refine ⟨fun {H N d1 d2 d v1 v2} o1 o2 e Q q => ?_⟩
  unfold gIx at e
  split at e
  · rename_i ds i
    obtain ⟨l, vs, rfl, s, lo⟩ := o1.lst_inv0
    cases o2
    obtain ⟨v, hv, o⟩ := lo.at0 e
    exact .inl ⟨l, vs, i, v, rfl, rfl, s, hv, finS q o⟩
  · rename_i ds i
    obtain ⟨l, vs, rfl, s, lo⟩ := o1.tup_inv
    cases o2
    obtain ⟨v, hv, o⟩ := lo.at0 e
    exact .inr (.inl ⟨l, vs, i, v, rfl, rfl, s, hv, finS q o⟩)
  · rename_i z i
    split at e
    · rename_i hz
      split at e
      · rename_i c hc
        cases e
        cases o1; cases o2
        exact .inr (.inr ⟨z, i, c, rfl, rfl, hz, hc, fin0 q fun _ => .str⟩)
      · cases e
    · cases e
  · cases e
theorem ev_ix (h1 : Ev X Γ a m1 B1 f1 t1) (h2 : Ev X Γ b m2 B2 f2 t2) (hs : PlainIx b) : Ev X Γ (.Subscript a b pos) 0 (B1 ++ B2) (e2 gIx f1 f2) (tOp (rIx X.K) t1 t2) := ⟨pe_ix ix_seq h1.pe h2.pe hs, sd_2 o2_ix h1.sd h2.sd⟩

/-! ### slices -/
structure SdO (K : PySem.W.Frag) (Γ : List Nat) (t : TO) (f : Store → Option (Option Int)) : Prop where
  run : ∀ {E : Entry} {ρ : Store} {σ : St} {H : Hp} {Φ : Nat → List Addr}, StR K E Γ ρ σ H Φ → ∀ (o : Option Int), f ρ = some o → ∀ Q : Option Int → Hp → Prop, (∀ H', Ext H H' → Q o H') → t σ H Q
structure Ov (X : Cx) (Γ : List Nat) (e : Option Expr) (f : Store → Option (Option Int)) (t : TO) : Prop where
  po : PO X e t
  sd : SdO X.K Γ t f
def oNone : Store → Option (Option Int) := fun _ => some none
def oSome (f : Store → Option D) : Store → Option (Option Int) := fun ρ => match f ρ with
  | some (.int i) => some (some i)
  | _ => none
theorem ov_none : Ov X Γ none oNone tNoPart := ⟨po_none, ⟨fun R o e Q q => by cases e; exact q _ (.rfl' _)⟩⟩
theorem ov_some (h : Ev X Γ e m B f t) : Ov X Γ (some e) (oSome f) (tPart t) := by
  refine ⟨po_some h.pe, ⟨fun {E ρ σ H Φ} R o e Q q => ?_⟩⟩
  unfold oSome at e
  split at e
  · rename_i i e1
    cases e
    refine h.sd.sh R e1 _ fun v H1 x o => ?_
    cases o
    exact ⟨i, rfl, q _ x⟩
  · cases e
def cutD {α : Type} (xs : List α) (lo hi : Option Int) : List α := (xs.drop (HT.sIx xs.length 0 lo)).take (HT.sIx xs.length xs.length hi - HT.sIx xs.length 0 lo)
theorem OwnL.cut {H : Hp} {N : Addr → Prop} {ds : List D} {vs : List V} {fp : List Addr} (o : OwnL K H N 0 ds vs fp) (lo hi : Option Int) : OwnL K H N 0 (cutD ds lo hi) (cutV vs lo hi) [] := by
  unfold cutD cutV
  rw [o.len]
  exact (o.drop0 rfl _).take0 rfl _
/-- a slice's operation on what stands for a value -/
structure OpS (K : PySem.W.Frag) (r : V → Option Int → Option Int → Hp → VK → Prop) (m : Nat) (g : D → Option Int → Option Int → Option D) : Prop where
  run : ∀ {H : Hp} {N : Addr → Prop} {d1 d : D} {v1 : V} {lo hi : Option Int}, Own K H N 0 d1 v1 [] → g d1 lo hi = some d → ∀ Q : VK,
    (∀ v H' Ψ, Ext H H' → (∀ a ∈ Ψ, H a = none) → Ψ.Nodup → Own K H' (fun a => N a ∨ (H a = none ∧ a ∉ Ψ)) m d v Ψ → Q v H') → r v1 lo hi H Q
def gSlL : D → Option Int → Option Int → Option D
  | .lst ds, lo, hi => some (.lst (cutD ds lo hi))
  | _, _, _ => none
def gSlT : D → Option Int → Option Int → Option D
  | .tup ds, lo, hi => some (.tup (cutD ds lo hi))
  | _, _, _ => none
theorem os_list : OpS K (rSlL K) 1 gSlL := by
  refine ⟨fun {H N d1 d v1 lo hi} o1 e Q q => ?_⟩
  unfold gSlL at e
  split at e
  · rename_i ds
    cases e
    obtain ⟨l, vs, rfl, s, lo⟩ := o1.lst_inv0
    exact ⟨l, vs, rfl, s, fin_lst q (lo.cut _ _)⟩
  · cases e
theorem cut_all {α : Type} {xs : List α} {lo hi : Option Int} (h1 : HT.sIx xs.length 0 lo = 0) (h2 : HT.sIx xs.length xs.length hi = xs.length) : cutD xs lo hi = xs := by
  unfold cutD
  rw [h1, h2, List.drop_zero, Nat.sub_zero, List.take_length]
theorem os_tup : OpS K (rSlA K) 0 gSlT := by
  refine ⟨fun {H N d1 d v1 lo hi} o1 e Q q => ?_⟩
  unfold gSlT at e
  split at e
  · rename_i ds
    cases e
    obtain ⟨l, vs, rfl, s, lo⟩ := o1.tup_inv
    refine ⟨l, vs, rfl, s, fun h => ?_, fun h => fin_tup q (lo.cut _ _)⟩
    rw [lo.len] at h
    rw [cut_all h.1 h.2] at q
    exact finS q (.tup s lo)
  · cases e
def eSl (g : D → Option Int → Option Int → Option D) (f : Store → Option D) (lo hi : Store → Option (Option Int)) : Store → Option D := fun ρ => match f ρ with
  | some d => (match lo ρ with
    | some l => (match hi ρ with
      | some u => g d l u
      | none => none)
    | none => none)
  | none => none
theorem sd_sl {r : V → Option Int → Option Int → Hp → VK → Prop} {g : D → Option Int → Option Int → Option D} {lo hi : Store → Option (Option Int)} {tl th : TO} (ho : OpS K r m g) (h : SdE K Γ t m1 B f) (hl : SdO K Γ tl lo) (hh : SdO K Γ th hi) :
    SdE K Γ (tSl r t tl th) m B (eSl g f lo hi) := by
  refine ⟨fun {E ρ σ H Φ} R d e Q q => ?_⟩
  unfold eSl at e
  split at e
  · rename_i d1 e1
    split at e
    · rename_i l e2
      split at e
      · rename_i u e3
        refine h.sh R e1 _ fun v1 H1 x1 o1 => ?_
        refine hl.run (R.ext x1) _ e2 _ fun H2 x2 => ?_
        have x12 : Ext H H2 := fun a o e => x2 a o (x1 a o e)
        refine hh.run (R.ext x12) _ e3 _ fun H3 x3 => ?_
        have x13 : Ext H1 H3 := fun a o e => x3 a o (x2 a o e)
        refine ho.run (o1.move (H' := H3) (N' := fun a => (∃ o, H3 a = some o) ∧ ∀ j, j ∉ B → a ∉ Φ j) (fun a o e _ => x13 a o e) (fun a o e z => ⟨x13 a o e, ⟨o, x13 a o e⟩, z.2⟩) fun a _ o e => x13 a o e) e Q fun v H4 Ψ x4 new nd o => ?_
        exact q v H4 Ψ (res_of R (fun a o e => x13 a o (x1 a o e)) x4 new nd o)
      · cases e
    · cases e
  · cases e
theorem ev_sl {r : V → Option Int → Option Int → Hp → VK → Prop} {g : D → Option Int → Option Int → Option D} {el eh : Option Expr} {lo hi : Store → Option (Option Int)} {tl th : TO} {p2 : Pos} (hr : SlR X r) (ho : OpS X.K r m g) (h : Ev X Γ e m1 B f t) (hl : Ov X Γ el lo tl) (hh : Ov X Γ eh hi th) :
    Ev X Γ (.Subscript e (.Slice el eh none p2) pos) m B (eSl g f lo hi) (tSl r t tl th) := ⟨pe_slice hr h.pe hl.po hh.po, sd_sl ho h.sd hl.sd hh.sd⟩
/-- xs[::-1] -/
def eRev (f : Store → Option D) : Store → Option D := fun ρ => match f ρ with
  | some (.lst ds) => some (.lst ds.reverse)
  | _ => none
theorem ev_rev {kk : Nat} {p1 p2 p3 : Pos} (h : Ev X Γ e m1 B f t) : Ev X Γ (.Subscript e (.Slice none none (some (.UnaryOp .USub (.Constant (.int 1) kk p1) p2)) p3) pos) 1 B (eRev f) (tRevL X.K t) := by
  refine ⟨pe_revL h.pe, ⟨fun {E ρ σ H Φ} R d e Q q => ?_⟩⟩
  unfold eRev at e
  split at e
  · rename_i ds e1
    cases e
    refine h.sd.sh R e1 _ fun v H1 x o => ?_
    obtain ⟨l, vs, rfl, s, lo⟩ := o.lst_inv0
    exact ⟨l, vs, rfl, s, fin_lst (fun v H' Ψ x2 new nd o => q v H' Ψ (res_of R x x2 new nd o)) (lo.rev0 rfl)⟩
  · cases e

/-! ### lists that change: in a slot -/
variable {W : WX} {I : Nat → Nat} {r : Nat} {Γb : List Nat}
def sAppend (i : Nat) (f : Store → Option D) : Store → Option O := fun ρ => match eVar i ρ with
  | some (.lst ds) => (match f ρ with
    | some d => if ds.length < sizeLine then some (.nx (ρ.set i (some (.lst (ds ++ [d]))))) else none
    | none => none)
  | _ => none
theorem sd_append {i : Nat} (hm : Γ.getD i 0 = k + 1) (h : SdE K Γ te k [] f) : SdS K W I r Γ Γb Γ (tDrop (tBM K "list" rAppend (tVar i) (tCons te tNil))) (sAppend i f) := by
  refine ⟨fun {E ρ σ H Φ} hI R o e D q => ?_⟩
  unfold sAppend at e
  split at e
  · rename_i ds e0
    split at e
    · rename_i d e1
      split at e
      · rename_i hz
        cases e
        obtain ⟨v, h1, h2⟩ := R.val i _ (eVar_some e0)
        obtain ⟨k', l, vs, fp, ek, rfl, efp, hl, lo⟩ := h2.lst_inv (by rw [hm]; exact Nat.succ_ne_zero k)
        rw [hm] at ek
        cases ek
        refine ⟨_, h1, .inl ⟨rfl, _, .inl (.inl hl)⟩, ?_⟩
        refine h.run R _ e1 _ fun y H1 Ψ rs => ?_
        have hl1 := rs.ext _ _ hl
        refine ⟨l, vs, y, rfl, rfl, hl1, by rw [lo.len]; exact hz, ?_⟩
        have nf : (l :: fp).Nodup := by have := R.nd i; rw [efp] at this; exact this
        have nfl : l ∉ fp := (List.nodup_cons.mp nf).1
        have lΦ : l ∈ Φ i := by rw [efp]; exact List.mem_cons_self
        have nlΨ : l ∉ Ψ := fun m => by have z := rs.new l m; rw [hl] at z; cases z
        have st : ∀ a o, H1 a = some o → a ≠ l → upd H1 l (.lst (vs ++ [y])) a = some o := fun a o e n => by rw [upd_ne n]; exact e
        have tup1 : ∀ a o, H1 a = some o → ¬ notTup o → a ≠ l := fun a o e t z => by subst z; rw [hl1] at e; cases e; exact t trivial
        refine q _ _ _ (R.mut (i := i) (v := .ref l) (Ψ := l :: (fp ++ Ψ)) h1 (by rw [hm]; exact Nat.succ_ne_zero k) (fun a o e n => st a o (rs.ext a o e) fun z => n (by rw [z]; exact lΦ)) (fun a o e => ?_) ?_ ?_ fun a m => ?_)
        · by_cases z : a = l
          · subst z; exact ⟨_, upd_same⟩
          · exact ⟨o, st a o (rs.ext a o e) z⟩
        · rw [hm]
          refine .lst upd_same (OwnL.app ?_ ?_)
          · refine lo.move (fun a o e t => st a o (rs.ext a o e) (tup1 a o (rs.ext a o e) t)) (fun a o e z => ?_) fun a m o e => st a o (rs.ext a o e) fun z => nfl (by rw [← z]; exact m)
            have nl : a ≠ l := fun z' => z i (by rw [z']; exact lΦ)
            refine ⟨st a o (rs.ext a o e) nl, fun m => ?_, fun j _ => z j⟩
            rcases List.mem_cons.mp m with m | m
            · exact nl m
            · rcases List.mem_append.mp m with m | m
              · exact z i (by rw [efp]; exact List.mem_cons_of_mem _ m)
              · have z2 := rs.new a m; rw [e] at z2; cases z2
          · have o1 := rs.own.move (H' := upd H1 l (.lst (vs ++ [y]))) (N' := fun a => a ∉ l :: (fp ++ Ψ) ∧ ∀ j, j ≠ i → a ∉ Φ j) (fun a o e t => st a o e (tup1 a o e t)) (fun a o e z => by
              have nl : a ≠ l := fun z' => z.2 i List.not_mem_nil (by rw [z']; exact lΦ)
              refine ⟨st a o e nl, fun m => ?_, fun j _ => z.2 j List.not_mem_nil⟩
              rcases List.mem_cons.mp m with m | m
              · exact nl m
              · rcases List.mem_append.mp m with m | m
                · exact z.2 i List.not_mem_nil (by rw [efp]; exact List.mem_cons_of_mem _ m)
                · exact z.1 m) fun a m o e => st a o e fun z => nlΨ (by rw [← z]; exact m)
            have o2 : OwnL K (upd H1 l (.lst (vs ++ [y]))) (fun a => a ∉ l :: (fp ++ Ψ) ∧ ∀ j, j ≠ i → a ∉ Φ j) k [d] [y] (Ψ ++ []) := .cons o1 .nil
            rw [List.append_nil] at o2
            exact o2
        · refine List.nodup_cons.mpr ⟨fun m => (List.mem_append.mp m).elim nfl nlΨ, List.nodup_append.mpr ⟨(List.nodup_cons.mp nf).2, rs.nd, fun a m1 b m2 e => ?_⟩⟩
          subst e
          exact R.notIn (rs.new a m2) i (by rw [efp]; exact List.mem_cons_of_mem _ m1)
        · rcases List.mem_cons.mp m with m | m
          · subst m; exact .inl lΦ
          · rcases List.mem_append.mp m with m | m
            · exact .inl (by rw [efp]; exact List.mem_cons_of_mem _ m)
            · exact .inr (rs.new a m)
      · cases e
    · cases e
  · cases e
end
end VL

/-! VL9: what is walked; comprehensions. -/
namespace VL
open PySem PySem.Spec L2
open PyProof.Rows hiding St
variable {K : PySem.W.Frag}

section
variable {X : Cx} {Γ Γt : List Nat} {a b c e tg : Expr} {es rest : List Expr} {m m1 m2 m3 k : Nat} {B B1 B2 B3 : List Nat} {f f1 f2 f3 : Store → Option D} {fa : Store → Option (List D)} {t te t1 t2 t3 u : TE} {ta : TA} {pos p : Pos}
/-! ### iterators -/
def iLst (f : Store → Option D) : Store → Option (List D) := fun ρ => match f ρ with
  | some (.lst ds) => some ds
  | _ => none
def iTp (f : Store → Option D) : Store → Option (List D) := fun ρ => match f ρ with
  | some (.tup ds) => some ds
  | _ => none
theorem wk_list {ds : List D} {a : Addr} : Wk K (Itl K a) (.lst ds) (.ref a) ds := by
  refine ⟨fun {H N} o i d e => ?_, fun {H N} o => ?_⟩
  · obtain ⟨_, vs, e0, s, lo⟩ := o.lst_inv0
    cases e0
    obtain ⟨v, hv, o⟩ := lo.get0 e
    refine ⟨⟨vs, v, s, hv⟩, fun x H2 y => ?_⟩
    obtain ⟨rfl, y⟩ := y
    have z := y vs s
    rw [hv] at z
    cases z
    exact ⟨.rfl' _, o⟩
  · obtain ⟨_, vs, e0, s, lo⟩ := o.lst_inv0
    cases e0
    exact ⟨vs, s, by rw [lo.len]; exact Nat.le_refl _⟩
theorem wk_tup {ds : List D} {a : Addr} : Wk K (Itt K a) (.tup ds) (.ref a) ds := by
  refine ⟨fun {H N} o i d e => ?_, fun {H N} o => ?_⟩
  · obtain ⟨_, vs, e0, s, lo⟩ := o.tup_inv
    cases e0
    obtain ⟨v, hv, o⟩ := lo.get0 e
    refine ⟨⟨vs, v, s, hv⟩, fun x H2 y => ?_⟩
    obtain ⟨rfl, y⟩ := y
    have z := y vs s
    rw [hv] at z
    cases z
    exact ⟨.rfl' _, o⟩
  · obtain ⟨_, vs, e0, s, lo⟩ := o.tup_inv
    cases e0
    exact ⟨vs, s, by rw [lo.len]; exact Nat.le_refl _⟩
theorem own_live {H : Hp} {Φ : Nat → List Addr} {d : D} {v : V} (o : Own K H (fun a => (∃ o, H a = some o) ∧ ∀ j, j ∉ ([] : List Nat) → a ∉ Φ j) 0 d v []) : Own K H (fun a => ∀ j, a ∉ Φ j) 0 d v [] :=
  o.move (fun a o e _ => e) (fun a o e z => ⟨e, fun j => z.2 j List.not_mem_nil⟩) fun a m => (nomatch m)
theorem iv_list (h : Ev X Γ e m [] f t) : Iv X Γ tg e (iLst f) (iList X.K t) := by
  refine ⟨pi_list h.pe, ⟨fun {E ρ σ H Φ} R ds e Q q => ?_⟩⟩
  unfold iLst at e
  split at e
  · rename_i ds' e1
    cases e
    refine h.sd.sh R e1 _ fun v H1 x o => ?_
    obtain ⟨l, vs, rfl, s, lo⟩ := o.lst_inv0
    exact ⟨l, rfl, ⟨vs, s⟩, q _ _ _ _ x (own_live o) wk_list⟩
  · cases e
theorem iv_tup (h : Ev X Γ e m [] f t) : Iv X Γ tg e (iTp f) (iTup X.K t) := by
  refine ⟨pi_tup h.pe, ⟨fun {E ρ σ H Φ} R ds e Q q => ?_⟩⟩
  unfold iTp at e
  split at e
  · rename_i ds' e1
    cases e
    refine h.sd.sh R e1 _ fun v H1 x o => ?_
    obtain ⟨l, vs, rfl, s, lo⟩ := o.tup_inv
    exact ⟨l, rfl, ⟨vs, s⟩, q _ _ _ _ x (own_live o) wk_tup⟩
  · cases e
/-- lo, lo + 1, .. -/
def ups (lo : Int) (n : Nat) : List D := (List.range n).map fun i : Nat => D.int (lo + (i : Int))
theorem ups_get {lo : Int} {n i : Nat} {d : D} (e : (ups lo n)[i]? = some d) : i < n ∧ d = .int (lo + i) := by
  unfold ups at e
  have h := lt_of_some e
  rw [List.length_map, List.length_range] at h
  rw [List.getElem?_map, List.getElem?_range h] at e
  cases e
  exact ⟨h, rfl⟩
theorem ups_len {lo : Int} {n : Nat} : (ups lo n).length = n := by unfold ups; rw [List.length_map, List.length_range]
theorem wk_ups {lo : Int} {n : Nat} : Wk K (Itr lo n) .non .non (ups lo n) := by
  refine ⟨fun {H N} o i d e => ?_, fun {H N} o => ?_⟩
  · obtain ⟨h, rfl⟩ := ups_get e
    refine ⟨h, fun x H2 y => ?_⟩
    obtain ⟨rfl, rfl⟩ := y
    exact ⟨.rfl' _, .int⟩
  · show n ≤ (ups lo n).length
    rw [ups_len]; exact Nat.le_refl _
def steps (lo c : Int) (n : Nat) : List D := (List.range n).map fun i : Nat => D.int (lo + (i : Int) * c)
theorem steps_len {lo c : Int} {n : Nat} : (steps lo c n).length = n := by unfold steps; rw [List.length_map, List.length_range]
theorem wk_steps {lo c : Int} {n : Nat} : Wk K (Itc lo c n) .non .non (steps lo c n) := by
  refine ⟨fun {H N} o i d e => ?_, fun {H N} o => ?_⟩
  · unfold steps at e
    have h := lt_of_some e
    rw [List.length_map, List.length_range] at h
    rw [List.getElem?_map, List.getElem?_range h] at e
    cases e
    refine ⟨h, fun x H2 y => ?_⟩
    obtain ⟨rfl, rfl⟩ := y
    exact ⟨.rfl' _, .int⟩
  · show n ≤ (steps lo c n).length
    rw [steps_len]; exact Nat.le_refl _
def cR (j : Int) : Bool := decide (-(2 ^ 62) ≤ j) && decide (j < 2 ^ 62)
theorem cR_ok {j : Int} (h : cR j = true) : -(2 ^ 62) ≤ j ∧ j < 2 ^ 62 := by
  unfold cR at h
  simpa using h
def iR1 (fa : Store → Option (List D)) : Store → Option (List D) := fun ρ => match fa ρ with
  | some [.int j] => if cR j = true then some (ups 0 j.toNat) else none
  | _ => none
def iR2 (fa : Store → Option (List D)) : Store → Option (List D) := fun ρ => match fa ρ with
  | some [.int i, .int j] => if cR i = true ∧ cR j = true then some (ups i (j - i).toNat) else none
  | _ => none
theorem OwnL.int1 {H : Hp} {N : Addr → Prop} {i : Int} {vs : List V} {fp : List Addr} (o : OwnL K H N 0 [.int i] vs fp) : vs = [.int i] := by
  obtain ⟨v, r, rfl, h, l⟩ := o.cons_inv0
  cases h; rw [l.nil_inv]
theorem OwnL.int2 {H : Hp} {N : Addr → Prop} {i j : Int} {vs : List V} {fp : List Addr} (o : OwnL K H N 0 [.int i, .int j] vs fp) : vs = [.int i, .int j] := by
  obtain ⟨v, r, rfl, h, l⟩ := o.cons_inv0
  cases h; rw [l.int1]
theorem OwnL.int3 {H : Hp} {N : Addr → Prop} {i j k : Int} {vs : List V} {fp : List Addr} (o : OwnL K H N 0 [.int i, .int j, .int k] vs fp) : vs = [.int i, .int j, .int k] := by
  obtain ⟨v, r, rfl, h, l⟩ := o.cons_inv0
  cases h; rw [l.int2]
theorem iv_r1 (hg : Gl X "range") (hm : X.mg "range" = none) (ha : Av X Γ [a] 0 B fa ta) (hs : starEach [a] X.env = [(false, eval a X.env)] := by rfl) : Iv X Γ tg (.Call (.Name "range" p) [a] [] pos) (iR1 fa) (iRng1 ta) := by
  refine ⟨pi_range1 hg hm ha.pa hs, ⟨fun {E ρ σ H Φ} R ds e Q q => ?_⟩⟩
  unfold iR1 at e
  split at e
  · rename_i j e1
    split at e
    · rename_i h
      cases e
      refine ha.sd.sh R e1 _ fun vs H1 x o => ?_
      obtain ⟨h1, h2⟩ := cR_ok h
      exact ⟨j, o.int1, h1, h2, q _ _ _ _ x .non wk_ups⟩
    · cases e
  · cases e
theorem iv_r2 (hg : Gl X "range") (hm : X.mg "range" = none) (ha : Av X Γ [a, b] 0 B fa ta) (hs : starEach [a, b] X.env = [(false, eval a X.env), (false, eval b X.env)] := by rfl) (hs2 : starEach [b] X.env = [(false, eval b X.env)] := by rfl) : Iv X Γ tg (.Call (.Name "range" p) [a, b] [] pos) (iR2 fa) (iRng2 ta) := by
  refine ⟨pi_range2 hg hm ha.pa hs hs2, ⟨fun {E ρ σ H Φ} R ds e Q q => ?_⟩⟩
  unfold iR2 at e
  split at e
  · rename_i i j e1
    split at e
    · rename_i h
      cases e
      refine ha.sd.sh R e1 _ fun vs H1 x o => ?_
      obtain ⟨h1, h2⟩ := cR_ok h.1
      obtain ⟨h3, h4⟩ := cR_ok h.2
      exact ⟨i, j, o.int2, ⟨h1, h2, h3, h4⟩, q _ _ _ _ x .non wk_ups⟩
    · cases e
  · cases e
/-- range(i, j, c) -/
def iR3 (fa : Store → Option (List D)) : Store → Option (List D) := fun ρ => match fa ρ with
  | some [.int i, .int j, .int c] => if c ≠ 0 ∧ c.natAbs < 1073741824 ∧ Builtin.Range.small i j c = true ∧ 0 ≤ Builtin.Range.rangeSize i j c then some (steps i c (Builtin.Range.rangeSize i j c).toNat) else none
  | _ => none
theorem iv_r3 (hg : Gl X "range") (hm : X.mg "range" = none) (ha : Av X Γ [a, b, c] 0 B fa ta) (hs : starEach [a, b, c] X.env = (false, eval a X.env) :: starEach [b, c] X.env := by rfl) (hpl : (backTo pos (starEach [b, c] X.env)).any (·.1) = false := by rfl) : Iv X Γ tg (.Call (.Name "range" p) [a, b, c] [] pos) (iR3 fa) (iRng3 ta) := by
  refine ⟨pi_range3 hg hm ha.pa hs hpl, ⟨fun {E ρ σ H Φ} R ds e Q q => ?_⟩⟩
  unfold iR3 at e
  split at e
  · rename_i i j c e1
    split at e
    · rename_i h
      cases e
      refine ha.sd.sh R e1 _ fun vs H1 x o => ?_
      exact ⟨i, j, c, _, o.int3, ⟨h.1, h.2.1, h.2.2.1, by rw [Int.toNat_of_nonneg h.2.2.2]⟩, q _ _ _ _ x .non wk_steps⟩
    · cases e
  · cases e
/-- reversed(range(j)), reversed(range(i, j)) -/
def dwn (lo hi : Int) : List D := steps (lo + (((hi - lo).toNat : Nat) : Int) - 1) (-1) (hi - lo).toNat
structure SdRg (K : PySem.W.Frag) (Γ : List Nat) (t : St → Hp → (Int → Int → Hp → Prop) → Prop) (f : Store → Option (Int × Int)) : Prop where
  run : ∀ {E : Entry} {ρ : Store} {σ : St} {H : Hp} {Φ : Nat → List Addr}, StR K E Γ ρ σ H Φ → ∀ {i j : Int}, f ρ = some (i, j) → ∀ Q : Int → Int → Hp → Prop, (∀ H', Ext H H' → Q i j H') → t σ H Q
structure Rg (X : Cx) (Γ : List Nat) (e : Expr) (f : Store → Option (Int × Int)) (t : St → Hp → (Int → Int → Hp → Prop) → Prop) : Prop where
  prg : PRg X e t
  sd : SdRg X.K Γ t f
def rg1 (f : Store → Option D) : Store → Option (Int × Int) := fun ρ => match f ρ with
  | some (.int j) => some (0, j)
  | _ => none
def rg2 (f g : Store → Option D) : Store → Option (Int × Int) := fun ρ => match f ρ with
  | some (.int i) => (match g ρ with
    | some (.int j) => some (i, j)
    | _ => none)
  | _ => none
theorem rg_1 (hg : Gl X "range") (hm : X.mg "range" = none) (h : Ev X Γ a m B f t) (na : starEach [a] X.env = (false, eval a X.env) :: starEach [] X.env := by rfl) : Rg X Γ (.Call (.Name "range" p) [a] [] pos) (rg1 f) (tRg1 t) := by
  refine ⟨prg_1 hg hm h.pe na, ⟨fun {E ρ σ H Φ} R i j e Q q => ?_⟩⟩
  unfold rg1 at e
  split at e
  · rename_i j' e1
    cases e
    refine h.sd.sh R e1 _ fun v H1 x o => ?_
    cases o
    exact ⟨_, rfl, q _ x⟩
  · cases e
theorem rg_2 (hg : Gl X "range") (hm : X.mg "range" = none) (h1 : Ev X Γ a m1 B1 f1 t1) (h2 : Ev X Γ b m2 B2 f2 t2) (na : starEach [a, b] X.env = (false, eval a X.env) :: starEach [b] X.env := by rfl) (nb : starEach [b] X.env = (false, eval b X.env) :: starEach [] X.env := by rfl) (hp : ((backTo pos (starEach [b] X.env)).any fun x => x.1) = false := by rfl) :
    Rg X Γ (.Call (.Name "range" p) [a, b] [] pos) (rg2 f1 f2) (tRg2 t1 t2) := by
  refine ⟨prg_2 hg hm h1.pe h2.pe na nb hp, ⟨fun {E ρ σ H Φ} R i j e Q q => ?_⟩⟩
  unfold rg2 at e
  split at e
  · rename_i i' e1
    split at e
    · rename_i j' e2
      cases e
      refine two h1.sd h2.sd R e1 e2 _ fun v1 v2 H1 x o1 o2 => ?_
      cases o1; cases o2
      exact ⟨_, _, rfl, rfl, q _ x⟩
    · cases e
  · cases e
def iRv (f : Store → Option (Int × Int)) : Store → Option (List D) := fun ρ => match f ρ with
  | some (i, j) => if cR i = true ∧ cR j = true then some (dwn i j) else none
  | none => none
theorem iv_rev {tr : St → Hp → (Int → Int → Hp → Prop) → Prop} {fr : Store → Option (Int × Int)} (hg : Gl X "reversed") (hm : X.mg "reversed" = none) (h : Rg X Γ e fr tr) (hs : starEach [e] X.env = (false, eval e X.env) :: starEach [] X.env := by rfl) : Iv X Γ tg (.Call (.Name "reversed" p) [e] [] pos) (iRv fr) (iRevR tr) := by
  refine ⟨pi_revR hg hm h.prg hs, ⟨fun {E ρ σ H Φ} R ds e Q q => ?_⟩⟩
  unfold iRv at e
  split at e
  · rename_i i j e1
    split at e
    · rename_i hc
      cases e
      refine h.sd.run R e1 _ fun H1 x => ?_
      obtain ⟨h1, h2⟩ := cR_ok hc.1
      obtain ⟨h3, h4⟩ := cR_ok hc.2
      exact ⟨h1, h2, h3, h4, q _ _ _ _ x .non wk_steps⟩
    · cases e
  · cases e
/-- list(range(..)), tuple(range(..)) -/
theorem own_rg {H : Hp} {N : Addr → Prop} {n : Nat} {lo : Int} : ∀ (l : List Nat), OwnL K H N n (l.map fun i : Nat => D.int (lo + (i : Int))) (l.map fun i : Nat => V.int (lo + (i : Nat))) []
  | [] => .nil
  | i :: l => .cons (fp := []) (fps := []) .int (own_rg l)
def eLRg (f : Store → Option (Int × Int)) : Store → Option D := fun ρ => match f ρ with
  | some (i, j) => if cR i = true ∧ cR j = true ∧ (j - i).toNat ≤ 2 ^ 24 then some (.lst (ups i (j - i).toNat)) else none
  | none => none
theorem ev_lrg {tr : St → Hp → (Int → Int → Hp → Prop) → Prop} {fr : Store → Option (Int × Int)} (hc : X.calm = true) (hg : Gl X "list") (hm : X.mg "list" = none) (h : Rg X Γ e fr tr) (na : starEach [e] X.env = (false, eval e X.env) :: starEach [] X.env := by rfl) :
    Ev X Γ (.Call (.Name "list" p) [e] [] pos) 1 [] (eLRg fr) (tLstRg tr) := by
  refine ⟨pe_listRg hc hg hm h.prg na, ⟨fun {E ρ σ H Φ} R d e Q q => ?_⟩⟩
  unfold eLRg at e
  split at e
  · rename_i i j e1
    split at e
    · rename_i hc
      cases e
      refine h.sd.run R e1 _ fun H1 x => ?_
      obtain ⟨h1, h2⟩ := cR_ok hc.1
      obtain ⟨h3, h4⟩ := cR_ok hc.2.1
      exact ⟨⟨h1, h2, h3, h4, hc.2.2⟩, fin_lst (N := fun _ => False) (fun v H' Ψ x2 new nd o => q v H' Ψ (res_of R x x2 new nd (o.move (fun a o e _ => e) (fun a o e z => ⟨e, z.elim False.elim .inr⟩) fun a _ o e => e))) (own_rg _)⟩
    · cases e
  · cases e
def eTRg (f : Store → Option (Int × Int)) : Store → Option D := fun ρ => match f ρ with
  | some (i, j) => if cR i = true ∧ cR j = true ∧ (j - i).toNat ≤ 2 ^ 24 then some (.tup (ups i (j - i).toNat)) else none
  | none => none
theorem ev_trg {tr : St → Hp → (Int → Int → Hp → Prop) → Prop} {fr : Store → Option (Int × Int)} (hc : X.calm = true) (hg : Gl X "tuple") (hm : X.mg "tuple" = none) (h : Rg X Γ e fr tr) (na : starEach [e] X.env = (false, eval e X.env) :: starEach [] X.env := by rfl) :
    Ev X Γ (.Call (.Name "tuple" p) [e] [] pos) 0 [] (eTRg fr) (tTupRg tr) := by
  refine ⟨pe_tupRg hc hg hm h.prg na, ⟨fun {E ρ σ H Φ} R d e Q q => ?_⟩⟩
  unfold eTRg at e
  split at e
  · rename_i i j e1
    split at e
    · rename_i hc
      cases e
      refine h.sd.run R e1 _ fun H1 x => ?_
      obtain ⟨h1, h2⟩ := cR_ok hc.1
      obtain ⟨h3, h4⟩ := cR_ok hc.2.1
      exact ⟨⟨h1, h2, h3, h4, hc.2.2⟩, fin_tup (N := fun _ => False) (fun v H' Ψ x2 new nd o => q v H' Ψ (res_of R x x2 new nd (o.move (fun a o e _ => e) (fun a o e z => ⟨e, z.elim False.elim .inr⟩) fun a _ o e => e))) (own_rg _)⟩
    · cases e
  · cases e

/-! ### comprehensions -/
theorem StR.forget {E : Entry} {ρ : Store} {σ : St} {H : Hp} {Φ : Nat → List Addr} (R : StR K E Γ ρ σ H Φ) : StR K ⟨fun _ => none, fun _ => [], fun _ => .non, fun _ => 0, E.G⟩ Γ ρ σ H Φ :=
  ⟨R.len, R.gl, R.val, R.em, R.nd, R.dj, R.lv, fun _ _ _ => .inl rfl, ⟨fun _ _ e => (by cases e), fun _ _ e => (by cases e)⟩, fun _ _ e => (by cases e), fun _ n => absurd rfl n, R.gh⟩
/-- what is being made is changed -/
theorem StR.hmut {E : Entry} {ρ : Store} {σ : St} {H H2 : Hp} {Φ : Nat → List Addr} {J : Nat} {D₀ : Addr} {o₀ : HO} (R : StR K E Γ ρ σ H Φ) (hJ : ρ.length ≤ J) (hD : D₀ ∈ Φ J) (st : ∀ a o, H a = some o → a ≠ D₀ → H2 a = some o) (hD2 : H2 D₀ = some o₀) (nt : notTup o₀) :
    StR K E Γ ρ σ H2 Φ := by
  have tp : ∀ a o, H a = some o → ¬ notTup o → H2 a = some o := fun a o e t => st a o e fun z => by
    subst z
    obtain ⟨o', e', t'⟩ := R.lv J a hD
    rw [e] at e'; cases e'; exact t t'
  have sh : ∀ a o, H a = some o → (∀ j, a ∉ Φ j) → H2 a = some o ∧ ∀ j, a ∉ Φ j := fun a o e z => ⟨st a o e fun z' => z J (by rw [z']; exact hD), z⟩
  refine ⟨R.len, R.gl, fun j d e => ?_, R.em, R.nd, R.dj, fun j a m => ?_, R.nw, ?_, fun a o e => ?_, R.iv, fun p m => (R.gh p m).move tp sh fun a m => (nomatch m)⟩
  · obtain ⟨v, h1, h2⟩ := R.val j d e
    exact ⟨v, h1, h2.move tp sh fun a m o e' => st a o e' fun z => by
      subst z
      have := R.dj j J a m hD
      have := lt_of_some e
      omega⟩
  · by_cases z : a = D₀
    · subst z; exact ⟨o₀, hD2, nt⟩
    · obtain ⟨o, h1, h2⟩ := R.lv j a m
      exact ⟨o, st a o h1 z, h2⟩
  · refine ⟨fun a o e n => st a o (R.kp.kp a o e n) fun z => ?_, fun a o e nt => tp a o (R.kp.tp a o e nt) nt⟩
    subst z
    rcases R.nw J a hD with z | ⟨z, z'⟩
    · rw [e] at z; cases z
    · exact n J z z'
  · obtain ⟨o', e'⟩ := R.dm a o e
    by_cases z : a = D₀
    · subst z; exact ⟨o₀, hD2⟩
    · exact ⟨o', st a o' e' z⟩
def wipeD (ρ : Store) : List Nat → Store
  | [] => ρ
  | v :: vs => (wipeD ρ vs).set v none
theorem wipeD_len {ρ : Store} : ∀ {vs : List Nat}, (wipeD ρ vs).length = ρ.length
  | [] => rfl
  | v :: vs => by unfold wipeD; rw [List.length_set, wipeD_len]
theorem wipe_get {σ : St} : ∀ {vs : List Nat} {k : Nat}, k ∉ vs → (wipe σ vs)[k]? = σ[k]?
  | [], _, _ => rfl
  | v :: vs, k, n => by
    unfold wipe
    rw [List.getElem?_set_ne fun e => n (by rw [e]; exact List.mem_cons_self), wipe_get fun m => n (List.mem_cons_of_mem _ m)]
theorem wipe_in {σ : St} : ∀ {vs : List Nat} {k : Nat}, k ∈ vs → k < σ.length → (wipe σ vs)[k]? = some none
  | v :: vs, k, m, hl => by
    unfold wipe
    by_cases e : v = k
    · subst e
      rw [List.getElem?_set_self (by rw [wipe_length]; exact hl)]
    · rw [List.getElem?_set_ne e]
      exact wipe_in ((List.mem_cons.mp m).resolve_left fun z => e z.symm) hl
theorem wipe_eq {σ σ' : St} {vs is : List Nat} (hl : σ'.length = σ.length) (h : ∀ k, k ∉ is → σ'[k]? = σ[k]?) (s : ∀ k ∈ is, k ∈ vs) : wipe σ' vs = wipe σ vs := by
  apply List.ext_getElem?
  intro k
  by_cases m : k ∈ vs
  · by_cases hk : k < σ.length
    · rw [wipe_in m hk, wipe_in m (by rw [hl]; exact hk)]
    · rw [List.getElem?_eq_none (by rw [wipe_length]; omega), List.getElem?_eq_none (by rw [wipe_length]; omega)]
  · rw [wipe_get m, wipe_get m]
    exact h k fun mi => m (s k mi)
theorem wipe_wipe {σ : St} {vs : List Nat} : wipe (wipe σ vs) vs = wipe σ vs := by
  apply List.ext_getElem?
  intro k
  by_cases m : k ∈ vs
  · by_cases hk : k < σ.length
    · rw [wipe_in m hk, wipe_in m (by rw [wipe_length]; exact hk)]
    · rw [List.getElem?_eq_none (by rw [wipe_length, wipe_length]; omega), List.getElem?_eq_none (by rw [wipe_length]; omega)]
  · rw [wipe_get m]
theorem StR.wipe {E : Entry} {ρ : Store} {σ : St} {H : Hp} {Φ : Nat → List Addr} (R : StR K E Γ ρ σ H Φ) (hio : ∀ i, E.io i = 0) (vs : List Nat) : StR K E Γ (wipeD ρ vs) (L2.wipe σ vs) H Φ := by
  have get : ∀ (vs : List Nat) (k : Nat) (d : D), (wipeD ρ vs)[k]? = some (some d) → k ∉ vs ∧ ρ[k]? = some (some d) := by
    intro vs
    induction vs with
    | nil => exact fun k d e => ⟨List.not_mem_nil, e⟩
    | cons v vs ih =>
      intro k d e
      unfold wipeD at e
      by_cases z : v = k
      · subst z
        by_cases hl : v < (wipeD ρ vs).length
        · rw [List.getElem?_set_self hl] at e; cases e
        · rw [List.getElem?_eq_none (by rw [List.length_set]; omega)] at e; cases e
      · rw [List.getElem?_set_ne z] at e
        obtain ⟨h1, h2⟩ := ih k d e
        exact ⟨fun m => (List.mem_cons.mp m).elim (fun e => z e.symm) h1, h2⟩
  refine ⟨by rw [wipe_length, wipeD_len]; exact R.len, by rw [wipeD_len]; exact R.gl, fun k d e => ?_, fun i l => R.em i (by rw [wipeD_len] at l; exact l), R.nd, R.dj, R.lv, R.nw, R.kp, R.dm, fun i n => absurd (hio i) n, R.gh⟩
  obtain ⟨h1, h2⟩ := get vs k d e
  obtain ⟨v, h3, h4⟩ := R.val k d h2
  exact ⟨v, by rw [wipe_get h1]; exact h3, h4⟩

def lcD (g : D → Store → Option Store) (p : Store → Option Bool) (f : Store → Option D) (ρ : Store) : List D → Option (List D)
  | [] => some []
  | d :: ds => match g d ρ with
    | none => none
    | some ρ1 => match p ρ1 with
      | none => none
      | some false => lcD g p f ρ ds
      | some true => match f ρ1 with
        | none => none
        | some x => match lcD g p f ρ ds with
          | none => none
          | some xs => some (x :: xs)
def eLc (vs : List Nat) (it : Store → Option (List D)) (g : D → Store → Option Store) (p : Store → Option Bool) (f : Store → Option D) : Store → Option D := fun ρ => match it ρ with
  | some ds => if ds.length < sizeLine then (match lcD g p f (wipeD ρ vs) ds with | some xs => some (.lst xs) | none => none) else none
  | none => none
theorem lcD_len {g : D → Store → Option Store} {p : Store → Option Bool} {f : Store → Option D} {ρ : Store} : ∀ {ds xs : List D}, lcD g p f ρ ds = some xs → xs.length ≤ ds.length
  | [], xs, e => by cases e; exact Nat.le_refl _
  | d :: ds, xs, e => by
    unfold lcD at e
    split at e
    · cases e
    · split at e
      · cases e
      · exact Nat.le_succ_of_le (lcD_len e)
      · split at e
        · cases e
        · split at e
          · cases e
          · rename_i e2
            cases e
            exact Nat.succ_le_succ (lcD_len e2)
theorem sd_lc {wi : TI} {g : TG} {tt : TT} {vs is : List Nat} {it : Store → Option (List D)} {gf : D → Store → Option Store} {pf : Store → Option Bool} (hi : SdI K Γ wi it) (hg : SdG K (fun _ => 0) Γ g Γt gf is) (ht : SdT K Γt tt pf) (he : SdE K Γt te k [] f) (hs : ∀ i ∈ is, i ∈ vs) (hz0 : ∀ i ∈ is, i < Γ.length ∧ Γ.getD i 0 = 0) :
    SdE K Γ (tLc wi g tt te vs) (k + 1) [] (eLc vs it gf pf f) := by
  refine ⟨fun {E ρ σ Hs Φ} R d e Q q => ?_⟩
  unfold eLc at e
  split at e
  · rename_i ds e1
    split at e
    · rename_i hz
      split at e
      · rename_i xs e2
        cases e
        refine hi.run R ds e1 _ fun J H1 gd gv x1 og wk D₀ nD => ?_
        -- the new list is kept apart
        have R0 := ((R.ext x1).ghost og).forget
        have hJ : ρ.length ≤ ρ.length + is.sum + 1 := by omega
        generalize hJe : ρ.length + is.sum + 1 = JJ at hJ
        have nJ : JJ ∉ is := fun m => by have := le_sum_mem m; omega
        generalize hE : (⟨fun _ => none, fun _ => [], fun _ => .non, fun _ => 0, (gd, gv) :: E.G⟩ : Entry) = E0 at R0
        have gE : (gd, gv) ∈ E0.G := by rw [← hE]; exact List.mem_cons_self
        have ioE : E0.io = fun _ => 0 := by rw [← hE]
        have R1 := (R0.hide (Ψ := [D₀]) (H' := upd H1 D₀ (.lst [])) (ext_upd nD) (fun a m => by rw [List.mem_singleton.mp m]; exact nD) (fun a m => by rw [List.mem_singleton.mp m]; exact ⟨_, upd_same, trivial⟩) (List.nodup_cons.mpr ⟨List.not_mem_nil, .nil⟩) hJ).wipe (fun i => by rw [ioE]) vs
        -- what holds at each turn
        refine ⟨fun i m H => m = ds.length - i ∧ i ≤ ds.length ∧ ∃ (Φ' : Nat → List Addr) (Ψ : List Addr) (accD : List D) (acc : List V) (zs : List D), StR K E0 Γ (wipeD ρ vs) (L2.wipe σ vs) H Φ' ∧ (∀ j, j ≠ JJ → Φ' j = Φ j) ∧ Φ' JJ = Φ JJ ++ D₀ :: Ψ ∧ H D₀ = some (.lst acc) ∧
          OwnL K H (fun a => ∀ j, a ∉ Φ' j) k accD acc Ψ ∧ (∀ a o, H1 a = some o → H a = some o) ∧ (∀ a ∈ Ψ, H1 a = none) ∧ accD.length ≤ i ∧ lcD gf pf f (wipeD ρ vs) (ds.drop i) = some zs ∧ accD ++ zs = xs,
          ⟨ds.length, by simp, Nat.zero_le _, _, [], [], [], xs, R1, fun j n => if_neg n, if_pos rfl, upd_same, .nil, fun a o e => ext_upd nD a o e, fun a m => (nomatch m), Nat.le_refl _, by rw [List.drop_zero]; exact e2, rfl⟩, fun i m H w => ?_⟩
        obtain ⟨em, hle, Φ', Ψ, accD, acc, zs, R, ΦN, ΦJ, hD, lo, old, new, hlen, e2, ez⟩ := w
        have og := R.gh _ gE
        have DJ : D₀ ∈ Φ' JJ := by rw [ΦJ]; exact List.mem_append_right _ List.mem_cons_self
        have hJw : (wipeD ρ vs).length ≤ JJ := by rw [wipeD_len]; exact hJ
        by_cases hlt : i < ds.length
        · right
          obtain ⟨go, yl⟩ := wk.go og i ds[i] (List.getElem?_eq_getElem hlt)
          rw [List.drop_eq_getElem_cons hlt] at e2
          unfold lcD at e2
          split at e2
          · cases e2
          · rename_i ρ1 e3
            refine ⟨go, fun H => ∃ (Φ' : Nat → List Addr) (Ψ : List Addr) (accD : List D) (acc : List V) (zs : List D), StR K E0 Γ (wipeD ρ vs) (L2.wipe σ vs) H Φ' ∧ (∀ j, j ≠ JJ → Φ' j = Φ j) ∧ Φ' JJ = Φ JJ ++ D₀ :: Ψ ∧ H D₀ = some (.lst acc) ∧
              OwnL K H (fun a => ∀ j, a ∉ Φ' j) k accD acc Ψ ∧ (∀ a o, H1 a = some o → H a = some o) ∧ (∀ a ∈ Ψ, H1 a = none) ∧ accD.length ≤ i + 1 ∧ lcD gf pf f (wipeD ρ vs) (ds.drop (i + 1)) = some zs ∧ accD ++ zs = xs, fun H' n => ⟨ds.length - (i + 1), by omega, rfl, hlt, n⟩, fun v H2 y => ?_⟩
            obtain ⟨x2, ov⟩ := yl v H2 y
            have R2 := R.ext x2
            refine hg.run ioE R2 ov e3 _ fun σ' Φ2 R3 hσ hΦ => ⟨?_, ?_⟩
            · rw [← wipe_wipe (σ := σ)]
              exact wipe_eq hσ.2 hσ.1 hs
            · have Φ2J : Φ2 JJ = Φ' JJ := hΦ JJ nJ
              have Φ2s : ∀ a, (∀ j, a ∉ Φ2 j) → ∀ j, a ∉ Φ' j := fun a z j => by
                by_cases mj : j ∈ is
                · obtain ⟨l1, l2⟩ := hz0 j mj
                  rw [R.em j (Nat.lt_of_lt_of_le l1 R.gl) l2]
                  exact List.not_mem_nil
                · rw [← hΦ j mj]; exact z j
              split at e2
              · cases e2
              · rename_i e4
                refine ht.run R3 _ e4 _ fun H3 x3 => ?_
                rw [if_neg Bool.false_ne_true]
                have x23 : Ext H H3 := fun a o e => x3 a o (x2 a o e)
                exact ⟨Φ', Ψ, accD, acc, zs, R.ext x23, ΦN, ΦJ, x23 _ _ hD, lo.move (fun a o e _ => x23 a o e) (fun a o e z => ⟨x23 a o e, z⟩) fun a _ o e => x23 a o e, fun a o e => x23 a o (old a o e), new, by omega, e2, ez⟩
              · rename_i e4
                refine ht.run R3 _ e4 _ fun H3 x3 => ?_
                rw [if_pos rfl]
                have x23 : Ext H H3 := fun a o e => x3 a o (x2 a o e)
                split at e2
                · cases e2
                · rename_i xv e5
                  split at e2
                  · cases e2
                  · rename_i zs' e6
                    cases e2
                    refine he.run (R3.ext x3) _ e5 _ fun y H4 Ψ4 rs => ?_
                    have x24 : Ext H H4 := fun a o e => rs.ext a o (x23 a o e)
                    have n4 : ∀ a ∈ Ψ4, H a = none := fun a m => by
                      cases z : H a with
                      | none => rfl
                      | some o => have z2 := x23 a o z; rw [rs.new a m] at z2; cases z2
                    refine ⟨acc, x24 _ _ hD, by rw [lo.len]; omega, ?_⟩
                    have st : ∀ a o, H4 a = some o → a ≠ D₀ → upd H4 D₀ (.lst (acc ++ [y])) a = some o := fun a o e n => by rw [upd_ne n]; exact e
                    have tupD : ∀ a o, H4 a = some o → ¬ notTup o → a ≠ D₀ := fun a o e t z => by subst z; rw [x24 _ _ hD] at e; cases e; exact t trivial
                    have R4 := R.hide x24 n4 (fun a m => rs.own.live a m) rs.nd hJw
                    have R5 := R4.hmut (D₀ := D₀) (o₀ := .lst (acc ++ [y])) hJw (by rw [if_pos rfl]; exact List.mem_append_left _ DJ) st upd_same trivial
                    have up : ∀ a o, H a = some o → (∀ j, a ∉ Φ' j) → upd H4 D₀ (.lst (acc ++ [y])) a = some o ∧ ∀ j, a ∉ (if j = JJ then Φ' j ++ Ψ4 else Φ' j) := fun a o e z => ⟨st a o (x24 a o e) fun z' => z JJ (by rw [z']; exact DJ), fun j => by
                      split
                      · exact fun m => (List.mem_append.mp m).elim (z j) fun m => by rw [n4 a m] at e; cases e
                      · exact z j⟩
                    have DΨ : D₀ ∉ Ψ := fun m => by
                      have nd := R.nd JJ
                      rw [ΦJ] at nd
                      exact (List.nodup_cons.mp (List.nodup_append.mp nd).2.1).1 m
                    refine ⟨_, Ψ ++ Ψ4, accD ++ [xv], acc ++ [y], zs', R5, fun j n => by rw [if_neg n]; exact ΦN j n, by rw [if_pos rfl, ΦJ, List.append_assoc, List.cons_append], upd_same, OwnL.app (lo.move (fun a o e t => st a o (x24 a o e) (tupD a o (x24 a o e) t)) up fun a m o e => st a o (x24 a o e) fun z => DΨ (by rw [← z]; exact m)) ?_, fun a o e => st a o (x24 a o (old a o e)) fun z => (by rw [z, nD] at e; cases e), fun a m => ?_, by rw [List.length_append, List.length_singleton]; omega, e6, by rw [← ez, List.append_assoc]; rfl⟩
                    · have o1 := rs.own.move (H' := upd H4 D₀ (.lst (acc ++ [y]))) (N' := fun a => ∀ j, a ∉ (if j = JJ then Φ' j ++ Ψ4 else Φ' j)) (fun a o e t => st a o e (tupD a o e t)) (fun a o e z => by
                        have z2 := Φ2s a fun j => z.2 j List.not_mem_nil
                        refine ⟨st a o e fun z' => z2 JJ (by rw [z']; exact DJ), fun j => ?_⟩
                        split
                        · exact fun m => (List.mem_append.mp m).elim (z2 j) z.1
                        · exact z2 j) fun a m o e => st a o e fun z => by
                          have z2 := n4 a m
                          rw [z, hD] at z2; cases z2
                      have o2 : OwnL K (upd H4 D₀ (.lst (acc ++ [y]))) (fun a => ∀ j, a ∉ (if j = JJ then Φ' j ++ Ψ4 else Φ' j)) k [xv] [y] (Ψ4 ++ []) := .cons o1 .nil
                      rw [List.append_nil] at o2
                      exact o2
                    · rcases List.mem_append.mp m with m | m
                      · exact new a m
                      · cases z : H1 a with
                        | none => rfl
                        | some o => have z2 := old a o z; rw [n4 a m] at z2; cases z2
        · left
          have ei : i = ds.length := by omega
          subst ei
          rw [List.drop_length] at e2
          cases e2
          rw [List.append_nil] at ez
          subst ez
          refine ⟨wk.stop og, q _ _ (D₀ :: Ψ) ⟨fun a o e => old a o (x1 a o e), fun a m => ?_, ?_, .lst hD ?_⟩⟩
          · rcases List.mem_cons.mp m with m | m
            · subst m
              cases z : Hs a with
              | none => rfl
              | some o => have z2 := x1 a o z; rw [nD] at z2; cases z2
            · cases z : Hs a with
              | none => rfl
              | some o => have z2 := x1 a o z; rw [new a m] at z2; cases z2
          · have nd := R.nd JJ
            rw [ΦJ] at nd
            exact (List.nodup_append.mp nd).2.1
          · refine lo.move (fun a o e _ => e) (fun a o e z => ⟨e, fun m => z JJ (by rw [ΦJ]; exact List.mem_append_right _ m), fun j _ => ?_⟩) fun a _ o e => e
            by_cases hj : j = JJ
            · subst hj
              exact fun m => z j (by rw [ΦJ]; exact List.mem_append_left _ m)
            · rw [← ΦN j hj]; exact z j
      · cases e
    · cases e
  · cases e
end
end VL

/-! VL10: comprehensions in the text; stores and pops; built-ins. -/
namespace VL
open PySem PySem.Spec L2
open PyProof.Rows hiding St
variable {K : PySem.W.Frag}

structure Tsv (X : Cx) (Γ : List Nat) (es : List Expr) (f : Store → Option Bool) (t : TT) : Prop where
  ts : PTs X es t
  sd : SdT X.K Γ t f
section
variable {X : Cx} {W : WX} {I : Nat → Nat} {r : Nat} {Γ Γt Γb Γ' : List Nat} {a b c e tg elt iter : Expr} {es ifs rest : List Expr} {m m1 m2 m3 k : Nat} {B B1 B2 B3 : List Nat} {f f1 f2 f3 : Store → Option D} {fa : Store → Option (List D)} {t te t1 t2 t3 u : TE} {ta : TA} {tt : TT} {pos p : Pos}
def bYes : Store → Option Bool := fun _ => some true
theorem tsv_nil : Tsv X Γ [] bYes tYes := ⟨pts_nil, ⟨fun R b e Q q => by cases e; exact q _ (.rfl' _)⟩⟩
theorem tsv_one {pf : Store → Option Bool} (h : Tv X Γ c pf tt) : Tsv X Γ [c] pf tt := ⟨pts_one h.pt, h.sd⟩
theorem ev_lc {scope : Scope} {own : List (Str × Nat)} {wi : TI} {g : TG} {is : List Nat} {it : Store → Option (List D)} {gf : D → Store → Option Store} {pf : Store → Option Bool} (hc : X.calm = true) (hN : X.N.Nodup) (hi : Iv X Γ tg iter it wi) (ok : BlkOk X.N X.env.scope scope own)
    (hg : ∀ (s : Shared) (H : Hp) (C : Addr) (cl : List (Str × Addr)) (fp : List Addr), Gv (X.blk s H scope (compEnvC scope cl C X.env) fp) (fun _ => 0) Γ tg Γt gf is g) (ht : ∀ (s : Shared) (H : Hp) (C : Addr) (cl : List (Str × Addr)) (fp : List Addr), Tsv (X.blk s H scope (compEnvC scope cl C X.env) fp) Γt ifs pf tt)
    (he : ∀ (s : Shared) (H : Hp) (C : Addr) (cl : List (Str × Addr)) (fp : List Addr), Ev (X.blk s H scope (compEnvC scope cl C X.env) fp) Γt elt k [] f te) (hss : ∀ i ∈ is, i ∈ own.map (·.2)) (hz : ∀ i ∈ is, i < Γ.length ∧ Γ.getD i 0 = 0) (hs : ∀ x, foldedSetIterable iter X.env x = pure x := by intro _; rfl) :
    Ev X Γ (.ListComp elt [⟨tg, iter, ifs, 0⟩] scope pos) (k + 1) [] (eLc (own.map (·.2)) it gf pf f) (tLc wi g tt te (own.map (·.2))) :=
  ⟨pe_lc hc hN hi.pi ok (fun s H C cl fp => (hg s H C cl fp).pg) (fun s H C cl fp => (ht s H C cl fp).ts) (fun s H C cl fp => (he s H C cl fp).pe) hs, sd_lc hi.sd (hg X.s_0 X.H_0 0 [] []).sd (ht X.s_0 X.H_0 0 [] []).sd (he X.s_0 X.H_0 0 [] []).sd hss hz⟩
theorem sv_setLc {i : Nat} {y : Str} {py spos : Pos} {scope : Scope} {own : List (Str × Nat)} {wi : TI} {g : TG} {is : List Nat} {it : Store → Option (List D)} {gf : D → Store → Option Store} {pf : Store → Option Bool} (hc : X.calm = true) (hN : X.N.Nodup) (hy : X.N[i]? = some y) (hyl : X.env.scope.names.lookup y = some .local)
    (hsw : swapsWith (.ListComp elt [⟨tg, iter, ifs, 0⟩] scope pos) (some (.Name y py)) spos.line X.env = pure true) (hi : Iv X Γ tg iter it wi) (ok : BlkOk X.N X.env.scope scope own)
    (hg : ∀ (s : Shared) (H : Hp) (C : Addr) (cl : List (Str × Addr)) (fp : List Addr), Gv (X.blk s H scope (compEnvC scope cl C X.env) fp) (fun _ => 0) Γ tg Γt gf is g) (ht : ∀ (s : Shared) (H : Hp) (C : Addr) (cl : List (Str × Addr)) (fp : List Addr), Tsv (X.blk s H scope (compEnvC scope cl C X.env) fp) Γt ifs pf tt)
    (he : ∀ (s : Shared) (H : Hp) (C : Addr) (cl : List (Str × Addr)) (fp : List Addr), Ev (X.blk s H scope (compEnvC scope cl C X.env) fp) Γt elt k [] f te) (hss : ∀ i ∈ is, i ∈ own.map (·.2)) (hz : ∀ i ∈ is, i < Γ.length ∧ Γ.getD i 0 = 0) (hG : i < Γ.length) (hio : I i = 0) (hs : ∀ x, foldedSetIterable iter X.env x = pure x := by intro _; rfl) :
    Sv X W I r Γ Γb (.Assign [.Name y py] (.ListComp elt [⟨tg, iter, ifs, 0⟩] scope pos) spos) (Γ.set i (k + 1)) (sSet i (eLc (own.map (·.2)) it gf pf f)) (tAsg (tLc wi g tt te (own.map (·.2))) (gName i)) :=
  ⟨ps_setLc hc hN hy hyl hsw hi.pi ok (fun s H C cl fp => (hg s H C cl fp).pg) (fun s H C cl fp => (ht s H C cl fp).ts) (fun s H C cl fp => (he s H C cl fp).pe) hs, sd_set (sd_lc hi.sd (hg X.s_0 X.H_0 0 [] []).sd (ht X.s_0 X.H_0 0 [] []).sd (he X.s_0 X.H_0 0 [] []).sd hss hz) hG hio⟩

/-! ### statements in the text -/
variable {st : Stmt} {sts : List Stmt} {F G : Store → Option O} {ts us : TS}
theorem lv_nil : Lv X W I r Γ Γb [] Γ sNx tNext := ⟨pss_nil, sd_nx⟩
theorem lv_one (h : Sv X W I r Γ Γb st Γ' F ts) : Lv X W I r Γ Γb [st] Γ' F ts := ⟨pss_one h.ps, h.sd⟩
theorem lv_cons {Γ1 : List Nat} (h1 : Sv X W I r Γ Γb st Γ1 F ts) (h2 : Lv X W I r Γ1 Γb sts Γ' G us) : Lv X W I r Γ Γb (st :: sts) Γ' (sSeq F G) (tSeq ts us) := ⟨pss_cons h1.ps h2.pss, sd_seq h1.sd h2.sd⟩
theorem Lv.demIn (i : Nat) (h : Lv X W I r (Γ.set i 0) Γb sts Γ' F ts) : Lv X W I r Γ Γb sts Γ' F ts := ⟨h.pss, h.sd.demIn i⟩
theorem Lv.demOut (i : Nat) (h : Lv X W I r Γ Γb sts Γ' F ts) : Lv X W I r Γ Γb sts (Γ'.set i 0) F ts := ⟨h.pss, h.sd.demOut i⟩
theorem Sv.demIn (i : Nat) (h : Sv X W I r (Γ.set i 0) Γb st Γ' F ts) : Sv X W I r Γ Γb st Γ' F ts := ⟨h.ps, h.sd.demIn i⟩
theorem Sv.demOut (i : Nat) (h : Sv X W I r Γ Γb st Γ' F ts) : Sv X W I r Γ Γb st (Γ'.set i 0) F ts := ⟨h.ps, h.sd.demOut i⟩
theorem sv_set {i : Nat} {x : Str} {pos' : Pos} (hN : X.N.Nodup) (hi : X.N[i]? = some x) (hx : Loc X.env.scope x) (he : Ev X Γ e m [] f te) (hG : i < Γ.length) (hio : I i = 0) (hs : swapsWith e (some (.Name x pos')) pos.line X.env = pure false := by rfl) (hf : X.fn x = true ∨ X.env.scope.names.lookup x = some .local := by first | exact .inl rfl | exact .inr rfl | assumption) :
    Sv X W I r Γ Γb (.Assign [.Name x pos'] e pos) (Γ.set i m) (sSet i f) (tAsg te (gName i)) := ⟨ps_set hN hi hx he.pe hs hf, sd_set he.sd hG hio⟩
theorem sv_if {pf : Store → Option Bool} {as bs : List Stmt} (hc : Tv X Γ c pf tt) (h1 : Lv X W I r Γ Γb as Γ' F ts) (h2 : Lv X W I r Γ Γb bs Γ' G us) : Sv X W I r Γ Γb (.If c as bs pos) Γ' (sIf pf F G) (tIfS tt ts us) := ⟨ps_if hc.pt h1.pss h2.pss, sd_if hc.sd h1.sd h2.sd⟩
theorem sv_ret (he : Ev X Γ e r B f te) (hio : ∀ i, I i ≠ 0 → Γ.getD i 0 = I i) : Sv X W I r Γ Γb (.Return (some e) pos) Γ' (sRet r f) (tRet te) := ⟨ps_ret he.pe, sd_ret he.sd hio⟩
theorem sv_retv {i : Nat} {x : Str} {pos' : Pos} (hN : X.N[i]? = some x) (hv : Vis X.env.scope x) (hi : I i = 0) (hm : Γ.getD i 0 = r) (hio : ∀ i, I i ≠ 0 → Γ.getD i 0 = I i) (hd : (x == ("__debug__" : Str)) = false := by decide) (hcd : (x == ("__classdict__" : Str)) = false := by decide) :
    Sv X W I r Γ Γb (.Return (some (.Name x pos')) pos) Γ' (sRet r (eVar i)) (tRet (tVar i)) := ⟨ps_ret (pe_var hN hv hd hcd), sd_retv hi hm hio⟩
theorem sv_retN (hio : ∀ i, I i ≠ 0 → Γ.getD i 0 = I i) : Sv X W I r Γ Γb (.Return none pos) Γ' sRetN tRetN := ⟨ps_retN, sd_retN hio⟩
theorem sv_for {wi : TI} {g : TG} {is : List Nat} {it : Store → Option (List D)} {gf : D → Store → Option Store} {body : List Stmt} (hp : PassesOwn (model X.prog X.w) X.A X.env X.xe) (hc : X.calm = true) (hi : Iv X Γ tg iter it wi) (hg : Gv X I Γ tg Γt gf is g) (hb : Lv X W I r Γt Γ body Γ F ts)
    (hs : ∀ x, foldedSetIterable iter X.env x = pure x := by intro _; rfl) : Sv X W I r Γ Γb (.For tg iter body [] pos) Γ (sFor it gf F) (tFor wi g ts) := ⟨ps_for hp hc hi.pi hg.pg hb.pss hs, sd_for hi.sd hg.sd hb.sd⟩
theorem sv_while {pf : Store → Option Bool} {body : List Stmt} (hp : PassesOwn (model X.prog X.w) X.A X.env X.xe) (hc : Tv X Γ c pf tt) (hb : Lv X W I r Γ Γ body Γ F ts) : Sv X W I r Γ Γb (.While c body [] pos) Γ (sWhile pf F) (tWhile tt ts) := ⟨ps_while hp hc.pt hb.pss, sd_while hc.sd hb.sd⟩
theorem sv_bk : Sv X W I r Γ Γ (.Break pos) Γ' sBk tBreak := ⟨ps_break, sd_bk⟩
theorem sv_drop (he : Ev X Γ e m B f te) (hs : swapsWith e none pos.line X.env = pure false := by rfl) : Sv X W I r Γ Γb (.Expr e pos) Γ (sDrop f) (tDrop te) := ⟨ps_expr he.pe hs, sd_drop he.sd⟩
theorem gv_name {i : Nat} {x : Str} (hN : X.N.Nodup) (hi : X.N[i]? = some x) (hx : Loc X.env.scope x) (hG : i < Γ.length) (hio : I i = 0) (hf : X.fn x = true ∨ X.env.scope.names.lookup x = some .local := by first | exact .inl rfl | exact .inr rfl | assumption) : Gv X I Γ (.Name x pos) (Γ.set i 0) (gSet i) [i] (gName i) := ⟨pg_name hN hi hx hf, sdg_name hG hio⟩
theorem gv_two {i j : Nat} {x y : Str} {p1 p2 : Pos} {kk : Nat} (hc : X.calm = true) (hN : X.N.Nodup) (hi : X.N[i]? = some x) (hj : X.N[j]? = some y) (hx : Loc X.env.scope x) (hy : Loc X.env.scope y) (hG : i < Γ.length) (hG' : j < Γ.length) (hio : I i = 0) (hio' : I j = 0) (hf : X.fn x = true ∨ X.env.scope.names.lookup x = some .local := by first | exact .inl rfl | exact .inr rfl | assumption)
    (hf' : X.fn y = true ∨ X.env.scope.names.lookup y = some .local := by first | exact .inl rfl | exact .inr rfl | assumption) (hn : (assignEach [.Name x p1, .Name y p2] X.env).length = 2 := by rfl) (hst : (assignEach [.Name x p1, .Name y p2] X.env).findIdx? (·.1) = none := by rfl)
    (hs1 : (assignEach [.Name x p1, .Name y p2] X.env).map (·.2) = assign (.Name x p1) X.env :: (assignEach [.Name y p2] X.env).map (·.2) := by rfl) (hs2 : (assignEach [.Name y p2] X.env).map (·.2) = assign (.Name y p2) X.env :: (assignEach [] X.env).map (·.2) := by rfl) :
    Gv X I Γ (.Tuple [.Name x p1, .Name y p2] kk pos) ((Γ.set i 0).set j 0) (gSet2 i j) [i, j] (gTup X.K 2 (gCons (gName i) (gCons (gName j) gNil))) :=
  ⟨pg_tup hc (pgs_cons (pg_name hN hi hx hf) (pgs_cons (pg_name hN hj hy hf') pgs_nil hs2) hs1) hn hst, sdg_two hG hG' hio hio'⟩
theorem sv_append {i : Nat} {x : Str} {pn pa pc ps : Pos} (hN : X.N[i]? = some x) (hv : Vis X.env.scope x) (hm : Γ.getD i 0 = k + 1) (he : Ev X Γ e k [] f te)
    (hpe : PE X (.Call (.Attribute (.Name x pn) "append" pa) [e] [] pc) (tBM X.K "list" rAppend (tVar i) (tCons te tNil))) (hs : swapsWith (.Call (.Attribute (.Name x pn) "append" pa) [e] [] pc) none ps.line X.env = pure false := by rfl) :
    Sv X W I r Γ Γb (.Expr (.Call (.Attribute (.Name x pn) "append" pa) [e] [] pc) ps) Γ (sAppend i f) (tDrop (tBM X.K "list" rAppend (tVar i) (tCons te tNil))) := ⟨ps_expr hpe hs, sd_append hm he.sd⟩
/-- x += e, ints -/
def sAugI (g : Int → Int → Int) (i : Nat) (f : Store → Option D) : Store → Option O := fun ρ => match eVar i ρ with
  | some (.int a) => (match f ρ with
    | some (.int b) => some (.nx (ρ.set i (some (.int (g a b)))))
    | _ => none)
  | _ => none
theorem sd_augI {i : Nat} {g : Int → Int → Int} (h0 : Γ.getD i 0 = 0) (hG : i < Γ.length) (hi : I i = 0) (h : SdE K Γ te m B f) : SdS K W I r Γ Γb (Γ.set i 0) (tAug i te (ipI g)) (sAugI g i f) := by
  refine ⟨fun {E ρ σ H Φ} hI R o e D q => ?_⟩
  unfold sAugI at e
  split at e
  · rename_i x e1
    split at e
    · rename_i y e2
      cases e
      obtain ⟨v, h1, h2⟩ := R.val i _ (eVar_some e1)
      obtain ⟨rfl, _⟩ := h2.int_inv
      refine ⟨_, h1, h.sh R e2 _ fun w H1 x1 o => ?_⟩
      cases o
      exact ⟨x, y, rfl, rfl, q _ _ _ (R.set (Ψ := []) ⟨x1, fun a m => (nomatch m), .nil, .int⟩ hG (by rw [hI]; exact hi))⟩
    · cases e
  · cases e
theorem sv_augI {i : Nat} {x : Str} {op : Operator} {g : Int → Int → Int} {pos' : Pos} (hN : X.N.Nodup) (hi : X.N[i]? = some x) (hx : Loc X.env.scope x) (he : Ev X Γ e m B f te) (ho : PIp X op (ipI g)) (h0 : Γ.getD i 0 = 0) (hG : i < Γ.length) (hio : I i = 0)
    (hf : X.fn x = true ∨ X.env.scope.names.lookup x = some .local := by first | exact .inl rfl | exact .inr rfl | assumption) : Sv X W I r Γ Γb (.AugAssign (.Name x pos') op e pos) (Γ.set i 0) (sAugI g i f) (tAug i te (ipI g)) := ⟨ps_aug hN hi hx he.pe ho hf, sd_augI h0 hG hio he.sd⟩

/-! ### built-ins -/
def gLen : List D → Option D
  | [.lst ds] => some (.int ds.length)
  | [.tup ds] => some (.int ds.length)
  | [.str z] => if z.length ≤ sizeLine then some (.int z.length) else none
  | _ => none
theorem OwnL.one {H : Hp} {N : Addr → Prop} {d : D} {vs : List V} {fp : List Addr} (o : OwnL K H N 0 [d] vs fp) : ∃ v, vs = [v] ∧ Own K H N 0 d v [] := by
  obtain ⟨v, r, rfl, h, l⟩ := o.cons_inv0
  rw [l.nil_inv]; exact ⟨v, rfl, h⟩
theorem OwnL.two {H : Hp} {N : Addr → Prop} {d1 d2 : D} {vs : List V} {fp : List Addr} (o : OwnL K H N 0 [d1, d2] vs fp) : ∃ v w, vs = [v, w] ∧ Own K H N 0 d1 v [] ∧ Own K H N 0 d2 w [] := by
  obtain ⟨v, r, rfl, h, l⟩ := o.cons_inv0
  obtain ⟨w, rfl, h2⟩ := l.one
  exact ⟨v, w, rfl, h, h2⟩
theorem oa_len : OpA K (fun xs H Q => ∃ x n, xs = [x] ∧ LenV K x H n ∧ Q (.int n) H) 0 gLen := by
  refine ⟨fun {H N ds d vs} o e Q q => ?_⟩
  unfold gLen at e
  split at e
  · rename_i ds
    cases e
    obtain ⟨v, rfl, oo⟩ := o.one
    obtain ⟨l, vs, rfl, s, lo⟩ := oo.lst_inv0
    exact ⟨_, _, rfl, .inl ⟨vs, s, lo.len.symm⟩, fin0 q fun _ => .int⟩
  · rename_i ds
    cases e
    obtain ⟨v, rfl, oo⟩ := o.one
    obtain ⟨l, vs, rfl, s, lo⟩ := oo.tup_inv
    exact ⟨_, _, rfl, .inr ⟨vs, s, lo.len.symm⟩, fin0 q fun _ => .int⟩
  · rename_i z
    split at e
    · rename_i hz
      cases e
      obtain ⟨v, rfl, oo⟩ := o.one
      obtain ⟨rfl, _⟩ := oo.str_inv
      exact ⟨_, _, rfl, ⟨hz, rfl⟩, fin0 q fun _ => .int⟩
    · cases e
  · cases e
/-- all ints -/
def D.ints : List D → Option (List Int)
  | [] => some []
  | .int i :: ds => (match D.ints ds with | some ns => some (i :: ns) | none => none)
  | _ :: _ => none
theorem ints_map : ∀ ns : List Int, D.ints (ns.map D.int) = some ns
  | [] => rfl
  | n :: ns => by
    show (match D.ints (ns.map D.int) with | some ns => some (n :: ns) | none => none) = _
    rw [ints_map ns]
theorem OwnL.ints {H : Hp} {N : Addr → Prop} {n : Nat} : ∀ {ds : List D} {vs : List V} {fp : List Addr}, OwnL K H N n ds vs fp → ∀ {ns : List Int}, D.ints ds = some ns → vs = ns.map V.int
  | _, _, _, .nil, ns, e => by cases e; rfl
  | d :: ds, _, _, .cons h l, ns, e => by
    cases d with
    | int i =>
      unfold D.ints at e
      split at e
      · rename_i ns' e2
        cases e
        cases h
        rw [OwnL.ints l e2]; rfl
      · cases e
    | _ => cases e
def gSum : List D → Option D
  | [.lst ds] => (match D.ints ds with | some ns => some (.int ns.sum) | none => none)
  | _ => none
theorem oa_sum : OpA K (rSum K) 0 gSum := by
  refine ⟨fun {H N ds d vs} o e Q q => ?_⟩
  unfold gSum at e
  split at e
  · rename_i ds
    split at e
    · rename_i ns e2
      cases e
      obtain ⟨v, rfl, oo⟩ := o.one
      obtain ⟨l, vs, rfl, s, lo⟩ := oo.lst_inv0
      rw [lo.ints e2] at s
      exact ⟨l, ns, rfl, s, fin0 q fun _ => .int⟩
    · cases e
  · cases e
def maxL : List Int → Int
  | [] => 0
  | [a] => a
  | a :: b :: r => if maxL (b :: r) ≤ a then a else maxL (b :: r)
theorem maxL_mem : ∀ {ns : List Int}, ns ≠ [] → maxL ns ∈ ns
  | [a], _ => List.mem_singleton.mpr rfl
  | a :: b :: r, _ => by
    unfold maxL
    split
    · exact List.mem_cons_self
    · exact List.mem_cons_of_mem _ (maxL_mem (List.cons_ne_nil _ _))
theorem maxL_ge : ∀ {ns : List Int} {y : Int}, y ∈ ns → y ≤ maxL ns
  | [a], y, m => by rw [List.mem_singleton.mp m]; exact Int.le_refl _
  | a :: b :: r, y, m => by
    unfold maxL
    rcases List.mem_cons.mp m with e | m
    · subst e; split <;> omega
    · have := maxL_ge m
      split <;> omega
def minL (ns : List Int) : Int := -maxL (ns.map fun i => -i)
theorem minL_mem {ns : List Int} (h : ns ≠ []) : minL ns ∈ ns := by
  unfold minL
  have m := maxL_mem (ns := ns.map fun i => -i) (by simpa using h)
  obtain ⟨x, h1, h2⟩ := List.mem_map.mp m
  rw [← h2, Int.neg_neg]; exact h1
theorem minL_le {ns : List Int} {y : Int} (h : y ∈ ns) : minL ns ≤ y := by
  unfold minL
  have m := maxL_ge (ns := ns.map fun i => -i) (y := -y) (List.mem_map.mpr ⟨y, h, rfl⟩)
  omega
def gMax : List D → Option D
  | [.lst ds] => (match D.ints ds with | some ns => if 0 < ns.length then some (.int (maxL ns)) else none | none => none)
  | _ => none
theorem pos_ne {α : Type} {l : List α} (h : 0 < l.length) : l ≠ [] := fun e => by subst e; cases h
theorem oa_max : OpA K (rMax K) 0 gMax := by
  refine ⟨fun {H N ds d vs} o e Q q => ?_⟩
  unfold gMax at e
  split at e
  · rename_i ds
    split at e
    · rename_i ns e2
      split at e
      · rename_i hp
        cases e
        obtain ⟨v, rfl, oo⟩ := o.one
        obtain ⟨l, vs, rfl, s, lo⟩ := oo.lst_inv0
        rw [lo.ints e2] at s
        refine ⟨l, ns, rfl, s, hp, fun m h1 h2 => ?_⟩
        have e : m = maxL ns := Int.le_antisymm (maxL_ge h1) (h2 _ (maxL_mem (pos_ne hp)))
        rw [e]
        exact fin0 q fun _ => .int
      · cases e
    · cases e
  · cases e
def gMin : List D → Option D
  | [.lst ds] => (match D.ints ds with | some ns => if 0 < ns.length then some (.int (minL ns)) else none | none => none)
  | _ => none
theorem oa_min : OpA K (rMin K) 0 gMin := by
  refine ⟨fun {H N ds d vs} o e Q q => ?_⟩
  unfold gMin at e
  split at e
  · rename_i ds
    split at e
    · rename_i ns e2
      split at e
      · rename_i hp
        cases e
        obtain ⟨v, rfl, oo⟩ := o.one
        obtain ⟨l, vs, rfl, s, lo⟩ := oo.lst_inv0
        rw [lo.ints e2] at s
        refine ⟨l, ns, rfl, s, hp, fun m h1 h2 => ?_⟩
        have e : m = minL ns := Int.le_antisymm (h2 _ (minL_mem (pos_ne hp))) (minL_le h1)
        rw [e]
        exact fin0 q fun _ => .int
      · cases e
    · cases e
  · cases e
def gMax2 : List D → Option D
  | [.int i, .int j] => some (.int (if j > i then j else i))
  | _ => none
def gMin2 : List D → Option D
  | [.int i, .int j] => some (.int (if j < i then j else i))
  | _ => none
theorem oa_max2 : OpA K (fun xs H Q => ∃ i j, xs = [.int i, .int j] ∧ Q (.int (if j > i then j else i)) H) 0 gMax2 := by
  refine ⟨fun {H N ds d vs} o e Q q => ?_⟩
  unfold gMax2 at e
  split at e
  · cases e
    exact ⟨_, _, o.int2, fin0 q fun _ => .int⟩
  · cases e
theorem oa_min2 : OpA K (fun xs H Q => ∃ i j, xs = [.int i, .int j] ∧ Q (.int (if j < i then j else i)) H) 0 gMin2 := by
  refine ⟨fun {H N ds d vs} o e Q q => ?_⟩
  unfold gMin2 at e
  split at e
  · cases e
    exact ⟨_, _, o.int2, fin0 q fun _ => .int⟩
  · cases e
def gInt : List D → Option D
  | [.int i] => some (.int i)
  | [.bl b] => some (.int (if b then 1 else 0))
  | _ => none
theorem oa_int : OpA K (fun xs H Q => (∃ i, xs = [.int i] ∧ Q (.int i) H) ∨ ∃ k, xs = [.bl k] ∧ Q (.int (if k then 1 else 0)) H) 0 gInt := by
  refine ⟨fun {H N ds d vs} o e Q q => ?_⟩
  unfold gInt at e
  split at e
  · cases e
    exact .inl ⟨_, o.int1, fin0 q fun _ => .int⟩
  · rename_i b
    cases e
    obtain ⟨v, rfl, oo⟩ := o.one
    obtain ⟨rfl, _⟩ := oo.bl_inv
    exact .inr ⟨b, rfl, fin0 q fun _ => .int⟩
  · cases e
/-- list(x), tuple(x) -/
def gList : List D → Option D
  | [.lst ds] => some (.lst ds)
  | [.tup ds] => some (.lst ds)
  | _ => none
theorem oa_list : OpA K (fun xs H Q => ∃ p ys, xs = [.ref p] ∧ (SqL K H p ys ∨ SqT K H p ys) ∧ ∀ l, H l = none → Q (.ref l) (upd H l (.lst ys))) 1 gList := by
  refine ⟨fun {H N ds d vs} o e Q q => ?_⟩
  unfold gList at e
  split at e
  · cases e
    obtain ⟨v, rfl, oo⟩ := o.one
    obtain ⟨l, vs, rfl, s, lo⟩ := oo.lst_inv0
    exact ⟨l, vs, rfl, .inl s, fin_lst q lo⟩
  · cases e
    obtain ⟨v, rfl, oo⟩ := o.one
    obtain ⟨l, vs, rfl, s, lo⟩ := oo.tup_inv
    exact ⟨l, vs, rfl, .inr s, fin_lst q lo⟩
  · cases e
def gTuple : List D → Option D
  | [.lst ds] => some (.tup ds)
  | [.tup ds] => some (.tup ds)
  | _ => none
theorem oa_tuple : OpA K (fun xs H Q => ∃ p ys, xs = [.ref p] ∧ ((SqL K H p ys ∧ ∀ l, H l = none → Q (.ref l) (upd H l (.tup ys))) ∨ (SqT K H p ys ∧ Q (.ref p) H))) 0 gTuple := by
  refine ⟨fun {H N ds d vs} o e Q q => ?_⟩
  unfold gTuple at e
  split at e
  · cases e
    obtain ⟨v, rfl, oo⟩ := o.one
    obtain ⟨l, vs, rfl, s, lo⟩ := oo.lst_inv0
    exact ⟨l, vs, rfl, .inl ⟨s, fin_tup q lo⟩⟩
  · cases e
    obtain ⟨v, rfl, oo⟩ := o.one
    obtain ⟨l, vs, rfl, s, lo⟩ := oo.tup_inv
    exact ⟨l, vs, rfl, .inr ⟨s, finS q (.tup s lo)⟩⟩
  · cases e
/-- isinstance(x, T), T of the built-in classes -/
def D.tyN : D → String
  | .non => "NoneType"
  | .bl _ => "bool"
  | .int _ => "int"
  | .str _ => "str"
  | .tup _ => "tuple"
  | .lst _ => "list"
  | .dct _ _ => "dict"
  | .obj _ _ _ => "object"
def isT (T : String) (d : D) : Option Bool := match d with
  | .obj _ _ _ => none
  | d => kitB d.tyN T
theorem tyX_of {H : Hp} {N : Addr → Prop} {n : Nat} {d : D} {v : V} {fp : List Addr} (o : Own K H N n d v fp) (h : d.tyN ≠ "object") : TyX K H v (.type d.tyN) := by
  cases o with
  | non => exact .base .non
  | bl => exact .base (.bl _)
  | int => exact .base (.int _)
  | str => exact .base (.str _)
  | tup s l =>
    rcases s with (s | ⟨o, s⟩) | ⟨o, its, n, hk, hc, _⟩
    · exact .base (.tup s)
    · exact .fTuple s
    · exact .kTuple hk hc
  | shl n s l =>
    rcases s with s | ⟨o, s⟩
    · exact .base (.lst s)
    · exact .base (.frz s)
  | kl s l =>
    rcases s with (s | ⟨o, s⟩) | ⟨o, its, n, hk, hc, _⟩
    · cases s
    · cases s
    · exact .kList hk hc
  | lst s l => exact .base (.lst s)
  | shd _ s => exact .base (.dK s)
  | dct s => exact .base (.dK s)
  | sho => exact absurd rfl h
  | obj => exact absurd rfl h
/-- isinstance(e, T) -/
def eIsT (T : String) (f : Store → Option D) : Store → Option D := fun ρ => match f ρ with
  | some d => (match isT T d with | some b => some (.bl b) | none => none)
  | none => none
theorem ev_isT {T : String} {x : Str} {pn : Pos} {B : List Nat} (hg : Gl X "isinstance") (hm : X.mg "isinstance" = none) (hv : bootBuiltins "isinstance" = some (.builtin "isinstance")) (h : Ev X Γ e m B f t) (hgx : Gl X x) (hmx : X.mg x = none) (hvx : bootBuiltins x = some (.type T)) (hnx : x ≠ "__name__") (hdx : (x == ("__debug__" : Str)) = false)
    (he : starEach [e, .Name x pn] X.env = (false, eval e X.env) :: starEach [.Name x pn] X.env := by rfl) (he2 : starEach [.Name x pn] X.env = (false, eval (.Name x pn) X.env) :: starEach [] X.env := by rfl) (hpl : (backTo pos (starEach [.Name x pn] X.env)).any (·.1) = false := by rfl) :
    Ev X Γ (.Call (.Name "isinstance" p) [e, .Name x pn] [] pos) 0 [] (eIsT T f) (tCB (rIsi X.K) (tCons t (tCons (tC (.ty T)) tNil))) := by
  refine ⟨pe_callB call_isi hg hm hv (pa_cons h.pe (pa_cons (pe_bltn (v := .ty T) hgx hmx hvx rfl hnx hdx) pa_nil he2) he) (by decide) (by decide) he hpl, ⟨fun {E ρ σ H Φ} R d e Q q => ?_⟩⟩
  unfold eIsT at e
  split at e
  · rename_i d' e1
    split at e
    · rename_i b e2
      cases e
      refine h.sd.sh R e1 _ fun v H1 x o => ?_
      have nd : d'.tyN ≠ "object" := fun z => by
        cases d' with
        | obj _ _ _ => cases e2
        | _ => simp [D.tyN] at z
      have e3 : kitB d'.tyN T = some b := by
        cases d' with
        | obj _ _ _ => cases e2
        | _ => exact e2
      exact ⟨v, .ty T, _, _, b, rfl, .ty T, tyX_of o nd, kit_ty e3, q _ _ _ (.sc x fun _ => .bl)⟩
    · cases e
  · cases e
/-- what is borrowed is shared while it lasts -/
theorem SdE.lendIn (i : Nat) (h : SdE K (Γ.set i 0) t m B f) : SdE K Γ t m (i :: B) f := ⟨fun R d e Q q => h.run (R.dem i) d e Q fun v H' Ψ r => q v H' Ψ ⟨r.ext, r.new, r.nd, r.own.move (fun a o e _ => e) (fun a o e z => ⟨e, z.1, fun j n => by
  have z2 := z.2 j fun mm => n (List.mem_cons_of_mem _ mm)
  rw [if_neg fun e => n (by rw [e]; exact List.mem_cons_self)] at z2
  exact z2⟩) fun a _ o e => e⟩⟩
theorem Ev.lendIn (i : Nat) (h : Ev X (Γ.set i 0) e m B f t) : Ev X Γ e m (i :: B) f t := ⟨h.pe, h.sd.lendIn i⟩
theorem SdT.lendIn (i : Nat) {pf : Store → Option Bool} (h : SdT K (Γ.set i 0) tt pf) : SdT K Γ tt pf := ⟨fun R b e Q q => h.run (R.dem i) b e Q q⟩
theorem Tv.lendIn (i : Nat) {pf : Store → Option Bool} (h : Tv X (Γ.set i 0) e pf tt) : Tv X Γ e pf tt := ⟨h.pt, h.sd.lendIn i⟩
def eClr (m : Nat) (f : Store → Option D) : Store → Option D := fun ρ => match f ρ with
  | some d => if d.immB m = true then some d else none
  | none => none
theorem SdE.clr (h : SdE K Γ t m B f) : SdE K Γ t m [] (eClr m f) := by
  refine ⟨fun {E ρ σ H Φ} R d e Q q => ?_⟩
  unfold eClr at e
  split at e
  · rename_i d' e1
    split at e
    · rename_i hm
      cases e
      exact h.run R _ e1 Q fun v H' Ψ r => q v H' Ψ ⟨r.ext, r.new, r.nd, r.own.immB hm⟩
    · cases e
  · cases e
theorem Ev.clr (h : Ev X Γ e m B f t) : Ev X Γ e m [] (eClr m f) t := ⟨h.pe, h.sd.clr⟩
end
end VL

/-! VL11: a law's end; short words for the printed texts. -/
namespace VL
open PySem PySem.Spec L2
open PyProof.Rows hiding St
variable {K : PySem.W.Frag}
theorem own_ints {H : Hp} {N : Addr → Prop} {n : Nat} : ∀ ns : List Int, OwnL K H N n (ns.map D.int) (ns.map V.int) []
  | [] => .nil
  | n :: ns => .cons (fp := []) (fps := []) .int (own_ints ns)
theorem own_script {H : Hp} {a : Addr} {ns : List Int} (h : SqL K H a (ns.map V.int)) : Own K H (fun _ => True) 0 (.lst (ns.map D.int)) (.ref a) [] := by
  rcases h with h | h
  · exact .shl trivial h (own_ints ns)
  · exact .kl (.inr h) (own_ints ns)
theorem law_sp {H : Hp} {a : Addr} {ns : List Int} {F : List D → Option D} {E : XK} (h : SqL K H a (ns.map V.int)) (e : F [.lst (ns.map D.int)] = some (.bl true)) : sp0 K 1 0 F [.ref a] H (fun v _ => v = .bl true) E :=
  ⟨[.lst (ns.map D.int)], .bl true, rfl, .cons (fp := []) (fps := []) (own_script h) .nil, e, fun v H' Ψ _ _ _ o => (o fun _ => True).bl_inv.1⟩
section
variable {X : Cx} {Γ : List Nat} {W : WX} {I : Nat → Nat} {r k m : Nat} {Γb Γ' : List Nat} {e : Expr} {f : Store → Option D} {te : TE} {pos : Pos}
/-- the name in the i-th slot -/
theorem vv (i : Nat) {x : Str} (hN : X.N[i]? = some x := by rfl) (hv : Vis X.env.scope x := by first | exact Or.inl rfl | exact Or.inr (Or.inl rfl) | exact Or.inr (Or.inr rfl)) (h0 : Γ.getD i 0 = 0 := by rfl) (hd : (x == ("__debug__" : Str)) = false := by decide) (hcd : (x == ("__classdict__" : Str)) = false := by decide) :
    Ev X Γ (.Name x pos) 0 [] (eVar i) (tVar i) := ev_var hN hv h0 hd hcd
theorem s_set (i : Nat) {x : Str} {pos' : Pos} (he : Ev X Γ e m [] f te) (hN : X.N.Nodup) (hi : X.N[i]? = some x := by rfl) (hx : Loc X.env.scope x := by first | exact Or.inl rfl | exact Or.inr rfl) (hG : i < Γ.length := by decide) (hio : I i = 0 := by rfl) (hs : swapsWith e (some (.Name x pos')) pos.line X.env = pure false := by rfl) (hf : X.fn x = true ∨ X.env.scope.names.lookup x = some .local := by first | exact .inl rfl | exact .inr rfl) :
    Sv X W I r Γ Γb (.Assign [.Name x pos'] e pos) (Γ.set i m) (sSet i f) (tAsg te (gName i)) := sv_set hN hi hx he hG hio hs hf
theorem s_ret {B : List Nat} (he : Ev X Γ e r B f te) (hio : ∀ i, I i ≠ 0 → Γ.getD i 0 = I i := by exact fun i n => absurd rfl n) : Sv X W I r Γ Γb (.Return (some e) pos) Γ' (sRet r f) (tRet te) := sv_ret he hio
theorem s_retv (i : Nat) {x : Str} {pos' : Pos} (hN : X.N[i]? = some x := by rfl) (hv : Vis X.env.scope x := by first | exact Or.inl rfl | exact Or.inr (Or.inl rfl) | exact Or.inr (Or.inr rfl)) (hi : I i = 0 := by rfl) (hm : Γ.getD i 0 = r := by rfl) (hio : ∀ i, I i ≠ 0 → Γ.getD i 0 = I i := by exact fun i n => absurd rfl n) (hd : (x == ("__debug__" : Str)) = false := by decide) (hcd : (x == ("__classdict__" : Str)) = false := by decide) :
    Sv X W I r Γ Γb (.Return (some (.Name x pos')) pos) Γ' (sRet r (eVar i)) (tRet (tVar i)) := sv_retv hN hv hi hm hio hd hcd
theorem s_append (i : Nat) {x : Str} {pn pa pc ps : Pos} (he : Ev X Γ e k [] f te) (hN : X.N[i]? = some x := by rfl) (hv : Vis X.env.scope x := by first | exact Or.inl rfl | exact Or.inr (Or.inl rfl) | exact Or.inr (Or.inr rfl)) (hm : Γ.getD i 0 = k + 1 := by rfl)
    (hbase : attributeBase (.Name x pn) "append" X.env (eval (.Name x pn) X.env) = eval (.Name x pn) X.env := by rfl) (hline : (pa.endLine == pc.line) = true := by rfl)
    (hfew : ((backTo pc (starEach [e] X.env)).all (fun x => !x.1) && (backToKw pc (keywordEach [] X.env)).all (fun x => x.1.isSome) && decide ([e].length + ([] : List Keyword).length + (if ([] : List Keyword).isEmpty then 0 else 1) < 30)) = true := by rfl)
    (hss : starEach [e] X.env = (false, eval e X.env) :: starEach [] X.env := by rfl) (hplain : (backTo pc (starEach [] X.env)).any (·.1) = false := by rfl)
    (hs : swapsWith (.Call (.Attribute (.Name x pn) "append" pa) [e] [] pc) none ps.line X.env = pure false := by rfl) (hd : (x == ("__debug__" : Str)) = false := by decide) (hcd : (x == ("__classdict__" : Str)) = false := by decide) :
    Sv X W I r Γ Γb (.Expr (.Call (.Attribute (.Name x pn) "append" pa) [e] [] pc) ps) Γ (sAppend i f) (tDrop (tBM X.K "list" rAppend (tVar i) (tCons te tNil))) :=
  sv_append hN hv hm he (pe_bm PySem.F.plainAttrs_list PySem.F.slot_list_append PySem.F.type_list_append mt_append (pe_var hN hv hd hcd) (pa_cons he.pe pa_nil hss) hbase hfew hline hss hplain) hs
theorem g_name (i : Nat) {x : Str} (hN : X.N.Nodup) (hi : X.N[i]? = some x := by rfl) (hx : Loc X.env.scope x := by first | exact Or.inl rfl | exact Or.inr rfl) (hG : i < Γ.length := by decide) (hio : I i = 0 := by rfl) (hf : X.fn x = true ∨ X.env.scope.names.lookup x = some .local := by first | exact .inl rfl | exact .inr rfl) :
    Gv X I Γ (.Name x pos) (Γ.set i 0) (gSet i) [i] (gName i) := gv_name hN hi hx hG hio hf
end
end VL

/-! VL12: the rules with the written part by its own name (inside a comprehension's block). -/
namespace VL
open PySem PySem.Spec L2
open PyProof.Rows hiding St
section
variable {X : Cx} {Γ : List Nat} {K : PySem.W.Frag} {a b c e tg : Expr} {es : List Expr} {m m1 m2 : Nat} {B B1 B2 : List Nat} {f f1 f2 : Store → Option D} {fa : Store → Option (List D)} {t t1 t2 : TE} {ta : TA} {pos p : Pos}
theorem xop_addA (hK : X.K = K := by rfl) : OpR X (binaryOp .Add) (rAddA K) := by subst hK; exact op_addA
theorem xop_catS (hK : X.K = K := by rfl) : OpR X (binaryOp .Add) (rCatS K) := by subst hK; exact op_catS
theorem xop_eq (hu : X.A.units + 64 < cLine) (hK : X.K = K := by rfl) : OpR X (compareOp .Eq) (rEqD K) := by subst hK; exact op_eqD hu
theorem xop_ne (hu : X.A.units + 64 < cLine) (hK : X.K = K := by rfl) : OpR X (compareOp .NotEq) (rNeD K) := by subst hK; exact op_neD hu
theorem xop_in (hK : X.K = K := by rfl) : OpR X (compareOp .In) (rIn K false) := by subst hK; exact op_in_seq
theorem xop_nin (hK : X.K = K := by rfl) : OpR X (compareOp .NotIn) (rIn K true) := by subst hK; exact op_notIn_seq
theorem xev_ix (h1 : Ev X Γ a m1 B1 f1 t1) (h2 : Ev X Γ b m2 B2 f2 t2) (hs : PlainIx b) (hK : X.K = K := by rfl) : Ev X Γ (.Subscript a b pos) 0 (B1 ++ B2) (e2 gIx f1 f2) (tOp (rIx K) t1 t2) := by subst hK; exact ev_ix h1 h2 hs
theorem xsl_list (hK : X.K = K := by rfl) : SlR X (rSlL K) := by subst hK; exact sl_list
theorem xsl_tup (hK : X.K = K := by rfl) : SlR X (rSlA K) := by subst hK; exact sl_tupA
theorem xev_rev {kk : Nat} {p1 p2 p3 : Pos} (h : Ev X Γ e m1 B f t) (hK : X.K = K := by rfl) : Ev X Γ (.Subscript e (.Slice none none (some (.UnaryOp .USub (.Constant (.int 1) kk p1) p2)) p3) pos) 1 B (eRev f) (tRevL K t) := by subst hK; exact ev_rev h
theorem xc_len (hK : X.K = K := by rfl) : CallR X (.builtin "len") (fun xs H Q => ∃ x n, xs = [x] ∧ LenV K x H n ∧ Q (.int n) H) := by subst hK; exact call_len
theorem xc_sum (hc : X.calm = true) (hK : X.K = K := by rfl) : CallR X (.builtin "sum") (rSum K) := by subst hK; exact cr_sum hc
theorem xc_max (hc : X.calm = true) (hK : X.K = K := by rfl) : CallR X (.builtin "max") (rMax K) := by subst hK; exact cr_max hc
theorem xc_min (hc : X.calm = true) (hK : X.K = K := by rfl) : CallR X (.builtin "min") (rMin K) := by subst hK; exact cr_min hc
theorem xc_list (hK : X.K = K := by rfl) : CallR X (.type "list") (fun xs H Q => ∃ p ys, xs = [.ref p] ∧ (SqL K H p ys ∨ SqT K H p ys) ∧ ∀ l, H l = none → Q (.ref l) (upd H l (.lst ys))) := by subst hK; exact call_list_of
theorem xc_tuple (hK : X.K = K := by rfl) : CallR X (.type "tuple") (fun xs H Q => ∃ p ys, xs = [.ref p] ∧ ((SqL K H p ys ∧ ∀ l, H l = none → Q (.ref l) (upd H l (.tup ys))) ∨ (SqT K H p ys ∧ Q (.ref p) H))) := by subst hK; exact call_tuple_of
theorem xev_isT {T : String} {x : Str} {pn : Pos} (hg : Gl X "isinstance") (hm : X.mg "isinstance" = none) (hv : bootBuiltins "isinstance" = some (.builtin "isinstance")) (h : Ev X Γ e m B f t) (hgx : Gl X x) (hmx : X.mg x = none) (hvx : bootBuiltins x = some (.type T)) (hnx : x ≠ "__name__") (hdx : (x == ("__debug__" : Str)) = false)
    (hK : X.K = K := by rfl) (he : starEach [e, .Name x pn] X.env = (false, eval e X.env) :: starEach [.Name x pn] X.env := by rfl) (he2 : starEach [.Name x pn] X.env = (false, eval (.Name x pn) X.env) :: starEach [] X.env := by rfl) (hpl : (backTo pos (starEach [.Name x pn] X.env)).any (·.1) = false := by rfl) :
    Ev X Γ (.Call (.Name "isinstance" p) [e, .Name x pn] [] pos) 0 [] (eIsT T f) (tCB (rIsi K) (tCons t (tCons (tC (.ty T)) tNil))) := by subst hK; exact ev_isT hg hm hv h hgx hmx hvx hnx hdx he he2 hpl
theorem xiv_list (h : Ev X Γ e m [] f t) (hK : X.K = K := by rfl) : Iv X Γ tg e (iLst f) (iList K t) := by subst hK; exact iv_list h
theorem xiv_tup (h : Ev X Γ e m [] f t) (hK : X.K = K := by rfl) : Iv X Γ tg e (iTp f) (iTup K t) := by subst hK; exact iv_tup h
theorem xev_cal {k j : Nat} {n r : Nat} {F : List D → Option D} {dds : List D} {dvs : List V} {x : Str} {P : Program} {w : World} {mg : Str → Option Value} {base : Heap} (c : Cal P w K mg base k x n r F dds dvs) (hr : Room j X.A) (hkj : k ≤ j) (hg : Gl X x) (ha : Av X Γ (e :: es) 0 B fa ta)
    (hP : X.prog = P := by rfl) (hw : X.w = w := by rfl) (hK : X.K = K := by rfl) (hm : X.mg = mg := by rfl) (hb : X.base = base := by rfl)
    (hdb : (x == ("__debug__" : Str)) = false := by decide) (he : starEach (e :: es) X.env = (false, eval e X.env) :: starEach es X.env := by rfl) (hpl : (backTo pos (starEach es X.env)).any (·.1) = false := by rfl) :
    Ev X Γ (.Call (.Name x p) (e :: es) [] pos) r [] (eCall (callF n dds F) fa) (tCall (sp0 K n r F) dvs E0 ta) := by
  subst hP hw hK hm hb; exact ev_cal c hr hkj hg ha hdb he hpl
end
end VL

/-! VL13: the value semantics by steps (no program in sight). -/
namespace VL
open PySem
/-! ### statements -/
section
variable {F G : Store → Option O} {ρ ρ' : Store} {o : Option O} {f : Store → Option D} {d : D} {i : Nat} {c : Store → Option Bool}
theorem seq_nx (h : F ρ = some (.nx ρ')) (g : G ρ' = o) : sSeq F G ρ = o := by unfold sSeq; rw [h]; exact g
theorem seq_rt (h : F ρ = some (.rt d ρ')) : sSeq F G ρ = some (.rt d ρ') := by unfold sSeq; rw [h]
theorem seq_ct (h : F ρ = some (.ct ρ')) : sSeq F G ρ = some (.ct ρ') := by unfold sSeq; rw [h]
theorem seq_bk (h : F ρ = some (.bk ρ')) : sSeq F G ρ = some (.bk ρ') := by unfold sSeq; rw [h]
theorem set_ok (h : f ρ = some d) : sSet i f ρ = some (.nx (ρ.set i (some d))) := by unfold sSet; rw [h]
theorem seq_set (h : f ρ = some d) (g : G (ρ.set i (some d)) = o) : sSeq (sSet i f) G ρ = o := seq_nx (set_ok h) g
theorem if_t (h : c ρ = some true) (g : F ρ = o) : sIf c F G ρ = o := by unfold sIf; rw [h]; exact g
theorem if_f (h : c ρ = some false) (g : G ρ = o) : sIf c F G ρ = o := by unfold sIf; rw [h]; exact g
theorem if_b {b : Bool} (h : c ρ = some b) (g : b = true → F ρ = o) (g2 : b = false → G ρ = o) : sIf c F G ρ = o := by
  cases b
  · exact if_f h (g2 rfl)
  · exact if_t h (g rfl)
theorem if_p {p : Prop} [Decidable p] (h : c ρ = some (decide p)) (g : p → F ρ = o) (g2 : ¬ p → G ρ = o) : sIf c F G ρ = o := if_b h (fun e => g (of_decide_eq_true e)) fun e => g2 (of_decide_eq_false e)
/-- if c: leave; what follows -/
theorem seq_if_f (h : c ρ = some false) (g : G ρ = o) : sSeq (sIf c F sNx) G ρ = o := seq_nx (if_f h rfl) g
theorem ret_ok {r : Nat} (h : f ρ = some d) (hd : d.immB r = true) : sRet r f ρ = some (.rt d ρ) := by unfold sRet; rw [h]; exact if_pos hd
theorem fn0_ok {N : Nat} {ds : List D} (h : F (ds.map some ++ List.replicate (N - ds.length) none) = some (.rt d ρ')) : fn0 N F ds = some d := by unfold fn0; rw [h]
theorem fn0_nx {N : Nat} {ds : List D} (h : F (ds.map some ++ List.replicate (N - ds.length) none) = some (.nx ρ')) : fn0 N F ds = some .non := by unfold fn0; rw [h]
variable {it : Store → Option (List D)} {g : D → Store → Option Store} {ds : List D}
theorem for_ok (h : it ρ = some ds) (k : forD g F ds ρ = o) : sFor it g F ρ = o := by unfold sFor; rw [h]; exact k
/-- what holds before and after each pass -/
theorem forD_inv {α : Type} {k : α → D} {xs : List α} (P : Nat → Store → Prop) (st : ∀ (j : Nat) (h : j < xs.length) (ρ : Store), P j ρ → ∃ ρ1 ρ2, g (k xs[j]) ρ = some ρ1 ∧ (F ρ1 = some (.nx ρ2) ∨ F ρ1 = some (.ct ρ2)) ∧ P (j + 1) ρ2) :
    ∀ {ρ : Store}, P 0 ρ → ∃ ρ', forD g F (xs.map k) ρ = some (.nx ρ') ∧ P xs.length ρ' := by
  induction xs generalizing P with
  | nil => exact fun {ρ} p => ⟨ρ, rfl, p⟩
  | cons x xs ih =>
    intro ρ p
    obtain ⟨ρ1, ρ2, h1, h2, h3⟩ := st 0 (Nat.zero_lt_succ _) ρ p
    obtain ⟨ρ', h4, h5⟩ := ih (fun j => P (j + 1)) (fun j h ρ p => st (j + 1) (Nat.succ_lt_succ h) ρ p) h3
    refine ⟨ρ', ?_, h5⟩
    show forD g F (k x :: xs.map k) ρ = _
    have h1' : g (k x) ρ = some ρ1 := h1
    unfold forD
    rw [h1']
    rcases h2 with h2 | h2
    · simp only [h2]; exact h4
    · simp only [h2]; exact h4
theorem forD_ups {lo : Int} {n : Nat} (P : Nat → Store → Prop) (st : ∀ (j : Nat), j < n → ∀ (ρ : Store), P j ρ → ∃ ρ1 ρ2, g (.int (lo + j)) ρ = some ρ1 ∧ (F ρ1 = some (.nx ρ2) ∨ F ρ1 = some (.ct ρ2)) ∧ P (j + 1) ρ2) {ρ : Store} (p : P 0 ρ) : ∃ ρ', forD g F (ups lo n) ρ = some (.nx ρ') ∧ P n ρ' := by
  have := forD_inv (k := fun i : Nat => D.int (lo + (i : Int))) (xs := List.range n) (g := g) (F := F) P (fun j h ρ p => by
    rw [List.length_range] at h
    rw [List.getElem_range]
    exact st j h ρ p) p
  rw [List.length_range] at this
  exact this
theorem forD_steps {lo c : Int} {n : Nat} (P : Nat → Store → Prop) (st : ∀ (j : Nat), j < n → ∀ (ρ : Store), P j ρ → ∃ ρ1 ρ2, g (.int (lo + j * c)) ρ = some ρ1 ∧ (F ρ1 = some (.nx ρ2) ∨ F ρ1 = some (.ct ρ2)) ∧ P (j + 1) ρ2) {ρ : Store} (p : P 0 ρ) : ∃ ρ', forD g F (steps lo c n) ρ = some (.nx ρ') ∧ P n ρ' := by
  have := forD_inv (k := fun i : Nat => D.int (lo + (i : Int) * c)) (xs := List.range n) (g := g) (F := F) P (fun j h ρ p => by
    rw [List.length_range] at h
    rw [List.getElem_range]
    exact st j h ρ p) p
  rw [List.length_range] at this
  exact this
/-- a comprehension's items -/
theorem lc_map {α : Type} {k : α → D} {p : Store → Option Bool} {γ : α → Store} {q : α → Bool} {h : α → D} : ∀ {xs : List α}, (∀ x ∈ xs, g (k x) ρ = some (γ x) ∧ p (γ x) = some (q x) ∧ (q x = true → f (γ x) = some (h x))) → lcD g p f ρ (xs.map k) = some ((xs.filter q).map h)
  | [], _ => rfl
  | x :: xs, st => by
    obtain ⟨h1, h2, h3⟩ := st x List.mem_cons_self
    have ih := lc_map fun y m => st y (List.mem_cons_of_mem _ m)
    show lcD g p f ρ (k x :: xs.map k) = _
    unfold lcD
    cases hq : q x
    · rw [hq] at h2
      simp only [h1, h2, List.filter_cons, hq, ih]
      rfl
    · rw [hq] at h2
      simp only [h1, h2, h3 hq, List.filter_cons, hq, ih]
      rfl
theorem lc_ups {lo : Int} {n : Nat} {p : Store → Option Bool} {γ : Nat → Store} {q : Nat → Bool} {h : Nat → D} (st : ∀ i < n, g (.int (lo + i)) ρ = some (γ i) ∧ p (γ i) = some (q i) ∧ (q i = true → f (γ i) = some (h i))) : lcD g p f ρ (ups lo n) = some (((List.range n).filter q).map h) :=
  lc_map (k := fun i : Nat => D.int (lo + (i : Int))) fun x m => st x (List.mem_range.mp m)
theorem lc_steps {lo c : Int} {n : Nat} {p : Store → Option Bool} {γ : Nat → Store} {q : Nat → Bool} {h : Nat → D} (st : ∀ i < n, g (.int (lo + i * c)) ρ = some (γ i) ∧ p (γ i) = some (q i) ∧ (q i = true → f (γ i) = some (h i))) : lcD g p f ρ (steps lo c n) = some (((List.range n).filter q).map h) :=
  lc_map (k := fun i : Nat => D.int (lo + (i : Int) * c)) fun x m => st x (List.mem_range.mp m)
theorem eLc_ok {vs : List Nat} {p : Store → Option Bool} {xs : List D} (h : it ρ = some ds) (hl : ds.length < 16777216) (k : lcD g p f (wipeD ρ vs) ds = some xs) : eLc vs it g p f ρ = some (.lst xs) := by
  unfold eLc
  rw [h]
  show (if ds.length < sizeLine then _ else _) = _
  rw [if_pos (show ds.length < sizeLine by unfold sizeLine; omega)]
  simp only [k]
end
/-! comprehensions of ints -/
section
variable {vs : List Nat} {it : Store → Option (List D)} {g : D → Store → Option Store} {p : Store → Option Bool} {f : Store → Option D} {ρ : Store}
theorem lcI_map {α : Type} {k : α → D} {xs : List α} {γ : α → Store} {q : α → Bool} {h : α → Int} (hi : it ρ = some (xs.map k)) (hl : xs.length < 16777216) (st : ∀ x ∈ xs, g (k x) (wipeD ρ vs) = some (γ x) ∧ p (γ x) = some (q x) ∧ (q x = true → f (γ x) = some (.int (h x)))) : eLc vs it g p f ρ = some (.lst (((xs.filter q).map h).map .int)) := by
  refine eLc_ok hi (by rw [List.length_map]; exact hl) ?_
  rw [lc_map (h := fun x => .int (h x)) st, List.map_map]
  rfl
theorem lcI_all {α : Type} {k : α → D} {xs : List α} {γ : α → Store} {h : α → Int} (hi : it ρ = some (xs.map k)) (hl : xs.length < 16777216) (st : ∀ x ∈ xs, g (k x) (wipeD ρ vs) = some (γ x) ∧ p (γ x) = some true ∧ f (γ x) = some (.int (h x))) : eLc vs it g p f ρ = some (.lst ((xs.map h).map .int)) := by
  have := lcI_map (q := fun _ => true) (h := h) hi hl fun x m => ⟨(st x m).1, (st x m).2.1, fun _ => (st x m).2.2⟩
  rw [this, List.filter_eq_self.mpr fun _ _ => rfl]
theorem lcI_ups {lo : Int} {n : Nat} {γ : Nat → Store} {q : Nat → Bool} {h : Nat → Int} (hi : it ρ = some (ups lo n)) (hl : n < 16777216) (st : ∀ i < n, g (.int (lo + i)) (wipeD ρ vs) = some (γ i) ∧ p (γ i) = some (q i) ∧ (q i = true → f (γ i) = some (.int (h i)))) : eLc vs it g p f ρ = some (.lst ((((List.range n).filter q).map h).map .int)) :=
  lcI_map (k := fun i : Nat => D.int (lo + (i : Int))) hi (by rw [List.length_range]; exact hl) fun x m => st x (List.mem_range.mp m)
theorem lcI_upsA {lo : Int} {n : Nat} {γ : Nat → Store} {h : Nat → Int} (hi : it ρ = some (ups lo n)) (hl : n < 16777216) (st : ∀ i < n, g (.int (lo + i)) (wipeD ρ vs) = some (γ i) ∧ p (γ i) = some true ∧ f (γ i) = some (.int (h i))) : eLc vs it g p f ρ = some (.lst (((List.range n).map h).map .int)) :=
  lcI_all (k := fun i : Nat => D.int (lo + (i : Int))) hi (by rw [List.length_range]; exact hl) fun x m => st x (List.mem_range.mp m)
end
theorem rev_rng {α : Type} {n : Nat} {f : Nat → α} : ((List.range n).map f).reverse = (List.range n).map fun i => f (n - 1 - i) := by
  refine List.ext_getElem (by simp) fun i h1 h2 => ?_
  simp
theorem dwn_eq {n : Nat} : dwn 0 (n : Int) = (List.range n).map fun i : Nat => D.int (((n - 1 - i : Nat) : Int)) := by
  unfold dwn steps
  rw [show ((n : Int) - 0).toNat = n by omega]
  refine List.map_congr_left fun i m => ?_
  have := List.mem_range.mp m
  congr 1
  omega
/-! ### operations on ints -/
theorem mul_ok {i j : Int} (h1 : -1000000000000000000000000000000 ≤ i) (h2 : i ≤ 1000000000000000000000000000000) (h3 : -1000000000000000000000000000000 ≤ j) (h4 : j ≤ 1000000000000000000000000000000) : gMul (.int i) (.int j) = some (.int (i * j)) := by
  have e : cMul i j = true := by
    unfold cMul
    have : (1000000000000000000000000000000 : Int) ≤ mB := by unfold mB; decide +kernel
    simp only [Bool.and_eq_true, decide_eq_true_eq]
    omega
  show (if cMul i j = true then _ else _) = _
  rw [if_pos e]
theorem div_ok {i j : Int} (h1 : 0 < j) (h2 : j ≤ 1000000000000000000000000000000) : gDiv (.int i) (.int j) = some (.int (i / j)) := by
  have e : cDiv j = true := by
    unfold cDiv
    have : (1000000000000000000000000000000 : Int) ≤ mB := by unfold mB; decide +kernel
    simp only [Bool.and_eq_true, decide_eq_true_eq]
    omega
  show (if cDiv j = true then _ else _) = _
  rw [if_pos e]
theorem mod_ok {i j : Int} (h1 : 0 < j) : gMod (.int i) (.int j) = some (.int (i % j)) := by
  show (if decide (0 < j) = true then _ else _) = _
  rw [if_pos (decide_eq_true h1)]
theorem add_ii {i j : Int} : gAdd (.int i) (.int j) = some (.int (i + j)) := rfl
theorem iu_ii {g : Int → Int → Int} {i j : Int} : gIu g (.int i) (.int j) = some (.int (g i j)) := rfl
theorem cmp_ii {p : Int → Int → Bool} {i j : Int} : gCmp p (.int i) (.int j) = some (.bl (p i j)) := rfl
theorem okE_int {i : Int} : D.okE (.int i) = true := rfl
theorem okE_bl {i : Bool} : D.okE (.bl i) = true := rfl
theorem okE_non : D.okE .non = true := rfl
theorem isDataL_map {α : Type} {k : α → D} : ∀ {xs : List α}, (∀ x ∈ xs, (k x).isData = true) → D.isDataL (xs.map k) = true
  | [], _ => rfl
  | x :: xs, h => by
    show ((k x).isData && D.isDataL (xs.map k)) = true
    rw [h x List.mem_cons_self, isDataL_map fun y m => h y (List.mem_cons_of_mem _ m)]; rfl
theorem lay_map {α : Type} {k : α → D} : ∀ {xs : List α}, (∀ x ∈ xs, (k x).toPy.canLay0 = true) → PyData.canLayAll0 (D.toPyL (xs.map k)) = true
  | [], _ => rfl
  | x :: xs, h => by
    show ((k x).toPy.canLay0 && PyData.canLayAll0 (D.toPyL (xs.map k))) = true
    rw [h x List.mem_cons_self, lay_map fun y m => h y (List.mem_cons_of_mem _ m)]; rfl
theorem depth_map {α : Type} {k : α → D} {m : Nat} : ∀ {xs : List α}, (∀ x ∈ xs, (k x).toPy.depth ≤ m) → PyData.depthAll (D.toPyL (xs.map k)) ≤ m
  | [], _ => Nat.zero_le _
  | x :: xs, h => by
    show max (k x).toPy.depth (PyData.depthAll (D.toPyL (xs.map k))) ≤ m
    have h1 := h x List.mem_cons_self
    have h2 := depth_map fun y m => h y (List.mem_cons_of_mem _ m)
    omega
/-- data that == can lay, of depth at most m -/
structure Lay (d : D) (m : Nat) : Prop where
  data : d.isData = true
  lay : d.toPy.canLay0 = true
  dep : d.toPy.depth ≤ m
theorem Lay.okE {d : D} {m : Nat} (h : Lay d m) (hm : m ≤ 64) : d.okE = true := by
  unfold D.okE SeqAt.shaped
  rw [h.data, h.lay, decide_eq_true (Nat.le_trans h.dep hm)]; rfl
theorem Lay.int {i : Int} {m : Nat} : Lay (.int i) m := ⟨rfl, rfl, Nat.zero_le _⟩
theorem Lay.bl {i : Bool} {m : Nat} : Lay (.bl i) m := ⟨rfl, rfl, Nat.zero_le _⟩
theorem Lay.non {m : Nat} : Lay .non m := ⟨rfl, rfl, Nat.zero_le _⟩
theorem Lay.lst {α : Type} {k : α → D} {xs : List α} {m : Nat} (h : ∀ x ∈ xs, Lay (k x) m) : Lay (.lst (xs.map k)) (m + 1) :=
  ⟨by rw [D.isData]; exact isDataL_map fun x m => (h x m).data, by rw [D.toPy, PyData.canLay0]; exact lay_map fun x m => (h x m).lay, by rw [D.toPy, PyData.depth]; exact Nat.succ_le_succ (depth_map fun x m => (h x m).dep)⟩
theorem Lay.tup {α : Type} {k : α → D} {xs : List α} {m : Nat} (h : ∀ x ∈ xs, Lay (k x) m) : Lay (.tup (xs.map k)) (m + 1) :=
  ⟨by rw [D.isData]; exact isDataL_map fun x m => (h x m).data, by rw [D.toPy, PyData.canLay0]; exact lay_map fun x m => (h x m).lay, by rw [D.toPy, PyData.depth]; exact Nat.succ_le_succ (depth_map fun x m => (h x m).dep)⟩
theorem okE_il {xs : List Int} : D.okE (.lst (xs.map D.int)) = true := (Lay.lst (m := 0) fun _ _ => .int).okE (by decide)
theorem okE_it {xs : List Int} : D.okE (.tup (xs.map D.int)) = true := (Lay.tup (m := 0) fun _ _ => .int).okE (by decide)
theorem okE_nil : D.okE (.lst []) = true := rfl
theorem okE_nilT : D.okE (.tup []) = true := rfl
theorem eqv_ints : ∀ {xs ys : List Int}, PyData.eqvAll (D.toPyL (xs.map D.int)) (D.toPyL (ys.map D.int)) = decide (xs = ys)
  | [], [] => rfl
  | [], _ :: _ => rfl
  | _ :: _, [] => rfl
  | x :: xs, y :: ys => by
    show ((x == y) && PyData.eqvAll (D.toPyL (xs.map D.int)) (D.toPyL (ys.map D.int))) = _
    rw [eqv_ints]
    by_cases h : x = y <;> by_cases h2 : xs = ys <;> simp [h, h2]
theorem eqv_il {xs ys : List Int} : D.eqv (.lst (xs.map D.int)) (.lst (ys.map D.int)) = decide (xs = ys) := eqv_ints
theorem eqv_it {xs ys : List Int} : D.eqv (.tup (xs.map D.int)) (.tup (ys.map D.int)) = decide (xs = ys) := eqv_ints
theorem eq_ii {i j : Int} : gEq false (.int i) (.int j) = some (.bl (decide (i = j))) := by
  show some (D.bl (i == j)) = _
  rfl
theorem ne_ii {i j : Int} : gEq true (.int i) (.int j) = some (.bl (!decide (i = j))) := by
  show some (D.bl (!(i == j))) = _
  rfl
theorem gEq_ok {d e : D} {b : Bool} (h1 : d.okE = true) (h2 : e.okE = true) (h : D.eqv d e = b) : gEq false d e = some (.bl b) := by unfold gEq; rw [if_pos ⟨h1, h2⟩, h]; rfl
theorem gNe_ok {d e : D} {b : Bool} (h1 : d.okE = true) (h2 : e.okE = true) (h : D.eqv d e = b) : gEq true d e = some (.bl (!b)) := by unfold gEq; rw [if_pos ⟨h1, h2⟩, h]; rfl
theorem eq_il {xs ys : List Int} : gEq false (.lst (xs.map D.int)) (.lst (ys.map D.int)) = some (.bl (decide (xs = ys))) := gEq_ok okE_il okE_il eqv_il
theorem ne_il {xs ys : List Int} : gEq true (.lst (xs.map D.int)) (.lst (ys.map D.int)) = some (.bl (!decide (xs = ys))) := gNe_ok okE_il okE_il eqv_il
theorem eqv_nil {ds : List D} : D.eqv (.lst ds) (.lst []) = ds.isEmpty := by cases ds <;> rfl
theorem ne_nil {ds : List D} (h : (D.lst ds).okE = true) : gEq true (.lst ds) (.lst []) = some (.bl (!ds.isEmpty)) := gNe_ok h okE_nil eqv_nil
theorem eq_nil {ds : List D} (h : (D.lst ds).okE = true) : gEq false (.lst ds) (.lst []) = some (.bl ds.isEmpty) := gEq_ok h okE_nil eqv_nil
theorem ne_iln {xs : List Int} : gEq true (.lst (xs.map D.int)) (.lst []) = some (.bl (!xs.isEmpty)) := by rw [ne_nil okE_il]; cases xs <;> rfl
theorem eq_iln {xs : List Int} : gEq false (.lst (xs.map D.int)) (.lst []) = some (.bl xs.isEmpty) := by rw [eq_nil okE_il]; cases xs <;> rfl
/-! ### places -/
theorem atI_nat {α : Type} {xs : List α} {i : Int} {k : Nat} (e : i = k) (h : k < xs.length) : L2.atI xs i = some xs[k] := by
  subst e
  unfold L2.atI L2.ixN
  rw [if_pos (Int.natCast_nonneg _), if_pos (by omega)]
  show xs[(k : Int).toNat]? = _
  rw [Int.toNat_natCast]
  exact List.getElem?_eq_getElem h
theorem atI_map {α β : Type} {f : α → β} {xs : List α} {i : Int} : L2.atI (xs.map f) i = (L2.atI xs i).map f := by
  unfold L2.atI
  rw [List.length_map]
  cases L2.ixN xs.length i with
  | none => rfl
  | some j => exact List.getElem?_map ..
theorem atI_pos {α : Type} {xs : List α} {i : Int} {z : α} (h0 : 0 ≤ i) (h : i < xs.length) : L2.atI xs i = some (xs.getD i.toNat z) := by
  rw [atI_nat (k := i.toNat) (by omega) (by omega)]
  simp [List.getD, List.getElem?_eq_getElem (show i.toNat < xs.length by omega)]
/-- the k-th, 0 past the end -/
def at0 (xs : List Int) (k : Nat) : Int := xs.getD k 0
theorem at0_get {xs : List Int} {k : Nat} (h : k < xs.length) : at0 xs k = xs[k] := by
  unfold at0; rw [List.getD_eq_getElem?_getD, List.getElem?_eq_getElem h]; rfl
theorem at0_mem {xs : List Int} {k : Nat} (h : k < xs.length) : at0 xs k ∈ xs := by rw [at0_get h]; exact List.getElem_mem h
theorem at0_ext {xs ys : List Int} (hl : xs.length = ys.length) (h : ∀ k, k < xs.length → at0 xs k = at0 ys k) : xs = ys :=
  List.ext_getElem hl fun k h1 h2 => by rw [← at0_get h1, ← at0_get h2]; exact h k h1
theorem at0_rng {n k : Nat} {f : Nat → Int} (h : k < n) : at0 ((List.range n).map f) k = f k := by
  rw [at0_get (by simpa using h)]; simp
theorem ix_il {xs : List Int} {i : Int} (h0 : 0 ≤ i) (h : i < xs.length) : gIx (.lst (xs.map D.int)) (.int i) = some (.int (at0 xs i.toNat)) := by
  show L2.atI (xs.map D.int) i = _
  rw [atI_map, atI_pos (z := 0) h0 h]; rfl
theorem ix_it {xs : List Int} {i : Int} (h0 : 0 ≤ i) (h : i < xs.length) : gIx (.tup (xs.map D.int)) (.int i) = some (.int (at0 xs i.toNat)) := by
  show L2.atI (xs.map D.int) i = _
  rw [atI_map, atI_pos (z := 0) h0 h]; rfl
/-! ### ranges -/
theorem cR_t {j : Int} (h1 : -4611686018427387904 ≤ j) (h2 : j < 4611686018427387904) : cR j = true := by
  unfold cR
  simp only [Bool.and_eq_true, decide_eq_true_eq]
  have : ((2 : Int) ^ 62) = 4611686018427387904 := by decide +kernel
  omega
theorem r1_ok {fa : Store → Option (List D)} {ρ : Store} {j : Int} (h : fa ρ = some [.int j]) (h1 : -4611686018427387904 ≤ j) (h2 : j < 4611686018427387904) : iR1 fa ρ = some (ups 0 j.toNat) := by
  unfold iR1; rw [h]; exact if_pos (cR_t h1 h2)
theorem r2_ok {fa : Store → Option (List D)} {ρ : Store} {i j : Int} (h : fa ρ = some [.int i, .int j]) (h1 : -4611686018427387904 ≤ i) (h2 : i < 4611686018427387904) (h3 : -4611686018427387904 ≤ j) (h4 : j < 4611686018427387904) : iR2 fa ρ = some (ups i (j - i).toNat) := by
  unfold iR2; rw [h]; exact if_pos ⟨cR_t h1 h2, cR_t h3 h4⟩
theorem rv_ok {f : Store → Option (Int × Int)} {ρ : Store} {i j : Int} (h : f ρ = some (i, j)) (h1 : -4611686018427387904 ≤ i) (h2 : i < 4611686018427387904) (h3 : -4611686018427387904 ≤ j) (h4 : j < 4611686018427387904) : iRv f ρ = some (dwn i j) := by
  unfold iRv; rw [h]; exact if_pos ⟨cR_t h1 h2, cR_t h3 h4⟩
theorem immBL_ints : ∀ {xs : List Int}, D.immBL 0 (xs.map D.int) = true
  | [] => rfl
  | x :: xs => by
    show ((D.int x).immB 0 && D.immBL 0 (xs.map D.int)) = true
    rw [immBL_ints]; rfl
end VL

/-! VL14: what simp unfolds of the value semantics. -/
namespace VL
open PySem
section
variable {f f1 f2 : Store → Option D} {p q : Store → Option Bool} {g : D → D → Option D} {fa : Store → Option (List D)} {ρ : Store} {i j : Int} {d : D} {b : Bool} {r : Nat}
theorem s_eVar {n : Nat} : eVar n ρ = (ρ[n]?).join := rfl
@[simp] theorem s_v0 {a : Option D} : eVar 0 (a :: ρ) = a := by cases a <;> rfl
@[simp] theorem s_vs {n : Nat} {a : Option D} : eVar (n + 1) (a :: ρ) = eVar n ρ := id rfl
@[simp] theorem s_eC : eC d ρ = some d := id rfl
@[simp] theorem s_e2 : e2 g f1 f2 ρ = (match f1 ρ with | some a => (match f2 ρ with | some b => g a b | none => none) | none => none) := id rfl
@[simp] theorem s_eUn {u : Int → Int} : eUn u f ρ = (match f ρ with | some (.int i) => some (.int (u i)) | _ => none) := id rfl
@[simp] theorem s_eCall {h : List D → Option D} : eCall h fa ρ = (match fa ρ with | some ds => h ds | none => none) := id rfl
@[simp] theorem s_aNil : aNil ρ = some [] := id rfl
@[simp] theorem s_aCons : aCons f fa ρ = (match f ρ with | some d => (match fa ρ with | some ds => some (d :: ds) | none => none) | none => none) := id rfl
@[simp] theorem s_callF {n : Nat} {dds ds : List D} {F : List D → Option D} : callF n dds F ds = if (ds ++ dds).length = n then F (ds ++ dds) else none := id rfl
@[simp] theorem s_tBo : tBo f ρ = (match f ρ with | some (.bl b) => some b | _ => none) := id rfl
@[simp] theorem s_bNot : bNot p ρ = (match p ρ with | some b => some (!b) | none => none) := by unfold bNot; rfl
@[simp] theorem s_bAnd : bAnd p q ρ = (match p ρ with | some true => q ρ | some false => some false | none => none) := by
  unfold bAnd
  cases p ρ with
  | none => rfl
  | some b => cases b <;> rfl
@[simp] theorem s_bOr : bOr p q ρ = (match p ρ with | some true => some true | some false => q ρ | none => none) := by
  unfold bOr
  cases p ρ with
  | none => rfl
  | some b => cases b <;> rfl
@[simp] theorem s_bYes : bYes ρ = some true := id rfl
@[simp] theorem s_gSet {n : Nat} : gSet n d ρ = some (ρ.set n (some d)) := id rfl
@[simp] theorem s_gSet2 {n m : Nat} {x y : D} : gSet2 n m (.tup [x, y]) ρ = some ((ρ.set n (some x)).set m (some y)) := id rfl
@[simp] theorem s_lenL {ds : List D} : gLen [.lst ds] = some (.int ds.length) := id rfl
@[simp] theorem s_lenT {ds : List D} : gLen [.tup ds] = some (.int ds.length) := id rfl
@[simp] theorem s_gIntI : gInt [.int i] = some (.int i) := id rfl
@[simp] theorem s_gIntB : gInt [.bl b] = some (.int (if b then 1 else 0)) := id rfl
@[simp] theorem s_eLst : eLst fa ρ = (match fa ρ with | some ds => (if ds.length ≤ 16777216 then some (.lst ds) else none) | none => none) := by unfold eLst; rfl
@[simp] theorem s_eTup : eTup fa ρ = (match fa ρ with | some ds => (if ds.length ≤ 16777216 then some (.tup ds) else none) | none => none) := by unfold eTup; rfl
@[simp] theorem s_wipe0 : wipeD ρ [] = ρ := id rfl
@[simp] theorem s_wipe1 {v : Nat} {vs : List Nat} : wipeD ρ (v :: vs) = (wipeD ρ vs).set v none := id rfl
@[simp] theorem s_oNone : oNone ρ = some none := id rfl
@[simp] theorem s_oSome : oSome f ρ = (match f ρ with | some (.int i) => some (some i) | _ => none) := id rfl
@[simp] theorem s_add : gAdd (.int i) (.int j) = some (.int (i + j)) := id rfl
@[simp] theorem s_iu {u : Int → Int → Int} : gIu u (.int i) (.int j) = some (.int (u i j)) := id rfl
@[simp] theorem s_cmp {u : Int → Int → Bool} : gCmp u (.int i) (.int j) = some (.bl (u i j)) := id rfl
@[simp] theorem s_eq : gEq false (.int i) (.int j) = some (.bl (decide (i = j))) := eq_ii
@[simp] theorem s_ne : gEq true (.int i) (.int j) = some (.bl (!decide (i = j))) := ne_ii
@[simp] theorem s_eqL {xs ys : List Int} : gEq false (.lst (xs.map D.int)) (.lst (ys.map D.int)) = some (.bl (decide (xs = ys))) := eq_il
@[simp] theorem s_neL {xs ys : List Int} : gEq true (.lst (xs.map D.int)) (.lst (ys.map D.int)) = some (.bl (!decide (xs = ys))) := ne_il
@[simp] theorem s_neN {xs : List Int} : gEq true (.lst (xs.map D.int)) (.lst []) = some (.bl (!xs.isEmpty)) := ne_iln
@[simp] theorem s_eqN {xs : List Int} : gEq false (.lst (xs.map D.int)) (.lst []) = some (.bl xs.isEmpty) := eq_iln
@[simp] theorem s_immI : (D.int i).immB r = true := by cases r <;> rfl
@[simp] theorem s_immB : (D.bl b).immB r = true := by cases r <;> rfl
@[simp] theorem s_immN : D.non.immB r = true := by cases r <;> rfl
@[simp] theorem s_immL {ds : List D} : (D.lst ds).immB (r + 1) = D.immBL r ds := id rfl
@[simp] theorem s_immIs {xs : List Int} : D.immBL r (xs.map D.int) = true := by
  induction xs with
  | nil => exact (by cases r <;> rfl)
  | cons x xs ih =>
    rw [List.map_cons, D.immBL, ih, s_immI]; rfl
@[simp] theorem s_isI {T : String} : eIsT T f ρ = (match f ρ with | some d => (match isT T d with | some b => some (.bl b) | none => none) | none => none) := by unfold eIsT; rfl
@[simp] theorem s_inT {ds : List D} {neg : Bool} : gIn neg d (.tup ds) = if d.fl = true ∧ ds.all D.fl = true then some (.bl (if neg then !inD d ds else inD d ds)) else none := id rfl
@[simp] theorem s_inL {ds : List D} {neg : Bool} : gIn neg d (.lst ds) = if d.fl = true ∧ ds.all D.fl = true then some (.bl (if neg then !inD d ds else inD d ds)) else none := id rfl
@[simp] theorem s_fl : D.fl (.int i) = true := id rfl
@[simp] theorem s_rev : eRev f ρ = (match f ρ with | some (.lst ds) => some (.lst ds.reverse) | _ => none) := by unfold eRev; rfl
@[simp] theorem s_inn : inD d [] = false := id rfl
theorem inD_cons {e : D} {ds : List D} : inD d (e :: ds) = (L2.eqV e.toV d.toV || inD d ds) := rfl
@[simp] theorem s_inc {ds : List D} : inD (.int i) (.int j :: ds) = (decide (j = i) || inD (.int i) ds) := by
  rw [inD_cons]
  rfl
@[simp] theorem s_addL {xs ys : List D} : gAdd (.lst xs) (.lst ys) = if xs.length + ys.length ≤ 16777216 then some (.lst (xs ++ ys)) else none := by
  unfold gAdd sizeLine; rfl
@[simp] theorem s_addT {xs ys : List D} : gAdd (.tup xs) (.tup ys) = if xs.length + ys.length ≤ 16777216 then some (.tup (xs ++ ys)) else none := by
  unfold gAdd sizeLine; rfl
@[simp] theorem s_cat {xs ys : List D} : gCat (.lst xs) (.lst ys) = if xs.length + ys.length ≤ 16777216 then some (.lst (xs ++ ys)) else none := by
  unfold gCat sizeLine; rfl
@[simp] theorem s_iLst : iLst f ρ = (match f ρ with | some (.lst ds) => some ds | _ => none) := by unfold iLst; rfl
@[simp] theorem s_iTp : iTp f ρ = (match f ρ with | some (.tup ds) => some ds | _ => none) := by unfold iTp; rfl
/-- range(i, j, -1) -/
theorem r3_down {ρ : Store} {i j : Int} (h : fa ρ = some [.int i, .int j, .int (-1)]) (h1 : -4611686018427387904 ≤ i) (h2 : i < 4611686018427387904) (h3 : -4611686018427387904 ≤ j) (h4 : j < 4611686018427387904) (hn : Builtin.Range.rangeSize i j (-1) = ((i - j).toNat : Nat) := PySem.W.rangeSize_downNat _ _) : iR3 fa ρ = some (steps i (-1) (i - j).toNat) := by
  unfold iR3
  rw [h]
  obtain ⟨h5, h6⟩ := cR_ok (cR_t h1 h2)
  obtain ⟨h7, h8⟩ := cR_ok (cR_t h3 h4)
  refine (if_pos ⟨by decide, by decide, PySem.W.small_down h5 h6 h7 h8, by omega⟩).trans ?_
  rw [hn, Int.toNat_natCast]
theorem imm_il {xs : List Int} : (D.lst (xs.map D.int)).immB (r + 1) = true := s_immIs
theorem imm_it {xs : List Int} : (D.tup (xs.map D.int)).immB 0 = true := by
  show D.immL _ = true
  induction xs with
  | nil => rfl
  | cons x xs ih => exact ih
theorem cut_map {α β : Type} {u : α → β} {xs : List α} {lo hi : Option Int} : cutD (xs.map u) lo hi = (cutD xs lo hi).map u := by
  unfold cutD
  rw [List.length_map, List.map_take, List.map_drop]
@[simp] theorem s_eSl {h : D → Option Int → Option Int → Option D} {lo hi : Store → Option (Option Int)} : eSl h f lo hi ρ = (match f ρ with | some d => (match lo ρ with | some l => (match hi ρ with | some u => h d l u | none => none) | none => none) | none => none) := by unfold eSl; rfl
@[simp] theorem s_slL {xs : List Int} {lo hi : Option Int} : gSlL (.lst (xs.map .int)) lo hi = some (.lst ((cutD xs lo hi).map .int)) := by unfold gSlL; dsimp only; rw [cut_map]
@[simp] theorem s_slT {xs : List Int} {lo hi : Option Int} : gSlT (.tup (xs.map .int)) lo hi = some (.tup ((cutD xs lo hi).map .int)) := by unfold gSlT; dsimp only; rw [cut_map]
theorem cut_hi {α : Type} {xs : List α} {k : Nat} {i : Int} (e : i = k) : cutD xs none (some i) = xs.take k := by
  subst e
  unfold cutD
  rw [HT.sIx_none, HT.sIx_nat, Nat.sub_zero, List.drop_zero]
  by_cases h : k ≤ xs.length
  · rw [Nat.min_eq_left h]
  · rw [Nat.min_eq_right (by omega), List.take_of_length_le (Nat.le_refl _), List.take_of_length_le (by omega)]
theorem cut_lo {α : Type} {xs : List α} {k : Nat} {i : Int} (e : i = k) : cutD xs (some i) none = xs.drop k := by
  subst e
  unfold cutD
  rw [HT.sIx_none, HT.sIx_nat]
  by_cases h : k ≤ xs.length
  · rw [Nat.min_eq_left h, List.take_of_length_le (by rw [List.length_drop]; omega)]
  · rw [Nat.min_eq_right (by omega), List.drop_eq_nil_of_le (Nat.le_refl _), List.drop_eq_nil_of_le (by omega), List.take_nil]
/-- from the end -/
theorem cut_hiN {α : Type} {xs : List α} {k : Nat} {i : Int} (e : i = -(k : Int)) (h : 0 < k) : cutD xs none (some i) = xs.take (xs.length - k) := by
  subst e
  unfold cutD HT.sIx
  dsimp only
  rw [if_pos (by omega), Nat.sub_zero, List.drop_zero]
  congr 1
  omega
theorem cut_loN {α : Type} {xs : List α} {k : Nat} {i : Int} (e : i = -(k : Int)) (h : 0 < k) : cutD xs (some i) none = xs.drop (xs.length - k) := by
  subst e
  unfold cutD HT.sIx
  dsimp only
  rw [if_pos (by omega), show (-(k : Int) + (xs.length : Int)).toNat = xs.length - k by omega, List.take_of_length_le (by rw [List.length_drop]; omega)]
theorem append_ok {n : Nat} {ds : List D} (h : (ρ[n]?).join = some (.lst ds)) (hf : f ρ = some d) (hl : ds.length < 16777216) : sAppend n f ρ = some (.nx (ρ.set n (some (.lst (ds ++ [d]))))) := by
  unfold sAppend
  rw [s_eVar, h]
  simp only [hf]
  rw [if_pos (by unfold sizeLine; omega)]
end
end VL

/-! VL15: a, b = b, a; and short words for what is new. -/
namespace VL
open PySem PySem.Spec L2
open PyProof.Rows hiding St
section
variable {X : Cx} {K : PySem.W.Frag} {Γ : List Nat} {W : WX} {I : Nat → Nat} {r k m : Nat} {Γb Γ' : List Nat} {e a b : Expr} {f : Store → Option D} {te : TE} {pos : Pos} {fa : Store → Option (List D)} {ta : TA}
def sPar (i j : Nat) (fa : Store → Option (List D)) : Store → Option O := fun ρ => match fa ρ with
  | some [x, y] => some (.nx ((ρ.set i (some x)).set j (some y)))
  | _ => none
theorem sd_par {i j : Nat} (h : SdA K Γ ta 0 [] fa) (hG : i < Γ.length) (hG' : j < Γ.length) (hi : I i = 0) (hj : I j = 0) : SdS K W I r Γ Γb ((Γ.set i 0).set j 0) (tPar i j ta) (sPar i j fa) := by
  refine ⟨fun {E ρ σ H Φ} hI R o e D q => ?_⟩
  unfold sPar at e
  split at e
  · rename_i x y e1
    cases e
    refine h.sh R e1 _ fun vs H1 x1 ol => ?_
    obtain ⟨v1, vs1, rfl, h1, hl⟩ := ol.cons_inv0
    obtain ⟨v2, vs2, rfl, h2, hl⟩ := hl.cons_inv0
    obtain rfl := hl.nil_inv
    refine ⟨v1, v2, rfl, ?_⟩
    have R' := R.ext x1
    have R1 := R'.set (i := i) (Ψ := []) ⟨.rfl' _, fun a m => (nomatch m), .nil, h1.move (N' := fun a => a ∉ [] ∧ ∀ j, j ∉ [] → a ∉ Φ j) (fun a o e _ => e) (fun a o e z => ⟨e, List.not_mem_nil, fun j n => z.2 j n⟩) fun a m => (nomatch m)⟩ hG (by rw [hI]; exact hi)
    have R2 := R1.set (i := j) (Ψ := []) ⟨.rfl' _, fun a m => (nomatch m), .nil, h2.move (N' := fun a => a ∉ [] ∧ ∀ k, k ∉ [] → a ∉ (if k = i then [] else Φ k)) (fun a o e _ => e) (fun a o e z => ⟨e, List.not_mem_nil, fun k n => by
      split
      · exact List.not_mem_nil
      · exact z.2 k n⟩) fun a m => (nomatch m)⟩ (by rw [List.length_set]; exact hG') (by rw [hI]; exact hj)
    exact q _ _ _ R2
  · cases e
theorem s_par (i j : Nat) {x y : Str} {px py pt pos : Pos} {kt k2 pt2} (ha : Av X Γ [a, b] 0 [] fa ta) (hN : X.N.Nodup) (hc : X.calm = true := by rfl) (hi : X.N[i]? = some x := by rfl) (hj : X.N[j]? = some y := by rfl) (hij : i ≠ j := by decide)
    (hx : X.env.scope.names.lookup x = some .local := by rfl) (hy : X.env.scope.names.lookup y = some .local := by rfl)
    (hw : swappedStores [.Tuple [.Name x px, .Name y py] kt pt] (.Tuple [a, b] k2 pt2) X.env = pure (some [x, y]) := by rfl)
    (hs : swapsWithSole [.Tuple [.Name x px, .Name y py] kt pt] (.Tuple [a, b] k2 pt2) pos.line X.env = pure false := by rfl) (hG : i < Γ.length := by decide) (hG' : j < Γ.length := by decide) (hio : I i = 0 := by rfl) (hio' : I j = 0 := by rfl) :
    Sv X W I r Γ Γb (.Assign [.Tuple [.Name x px, .Name y py] kt pt] (.Tuple [a, b] k2 pt2) pos) ((Γ.set i 0).set j 0) (sPar i j fa) (tPar i j ta) :=
  ⟨ps_par hc hN hi hj hij hx hy ha.pa hw hs, sd_par ha.sd hG hG' hio hio'⟩
theorem par_ok {ρ : Store} {i j : Nat} {x y : D} (h : fa ρ = some [x, y]) : sPar i j fa ρ = some (.nx ((ρ.set i (some x)).set j (some y))) := by unfold sPar; rw [h]
theorem s_aug (i : Nat) {x : Str} {op : Operator} {g : Int → Int → Int} {B : List Nat} {pos' : Pos} (he : Ev X Γ e m B f te) (ho : PIp X op (ipI g)) (hN : X.N.Nodup) (hi : X.N[i]? = some x := by rfl) (hx : Loc X.env.scope x := by first | exact Or.inl rfl | exact Or.inr rfl) (h0 : Γ.getD i 0 = 0 := by rfl) (hG : i < Γ.length := by decide) (hio : I i = 0 := by rfl) (hf : X.fn x = true ∨ X.env.scope.names.lookup x = some .local := by first | exact .inl rfl | exact .inr rfl) :
    Sv X W I r Γ Γb (.AugAssign (.Name x pos') op e pos) (Γ.set i 0) (sAugI g i f) (tAug i te (ipI g)) := sv_augI hN hi hx he ho h0 hG hio hf
end
end VL

/-! VL16: plain tools: while by a measure, products, sums, the common divisor. -/
namespace VL
open PySem
section
variable {F G : Store → Option O} {ρ : Store} {c : Store → Option Bool}
theorem while_inv (P : Store → Prop) (μ : Store → Nat) (Q : Store → Prop) (st : ∀ ρ, P ρ → (c ρ = some false ∧ Q ρ) ∨ (c ρ = some true ∧ ∃ ρ', (F ρ = some (.nx ρ') ∨ F ρ = some (.ct ρ')) ∧ P ρ' ∧ μ ρ' < μ ρ)) {ρ : Store} (p : P ρ) : ∃ ρ', sWhile c F ρ = some (.nx ρ') ∧ Q ρ' := by
  have key : ∀ n ρ, P ρ → μ ρ < n → ∃ k ρ', whileD c F k ρ = some (.nx ρ') ∧ Q ρ' := by
    intro n
    induction n with
    | zero => exact fun ρ _ h => absurd h (Nat.not_lt_zero _)
    | succ n ih =>
      intro ρ p h
      rcases st ρ p with ⟨h1, h2⟩ | ⟨h1, ρ', h2, h3, h4⟩
      · exact ⟨1, ρ, by unfold whileD; rw [h1], h2⟩
      · obtain ⟨k, ρ2, h5, h6⟩ := ih ρ' h3 (by omega)
        refine ⟨k + 1, ρ2, ?_, h6⟩
        unfold whileD
        rw [h1]
        rcases h2 with h2 | h2 <;> simp only [h2] <;> exact h5
  obtain ⟨k, ρ', h1, h2⟩ := key (μ ρ + 1) ρ p (Nat.lt_succ_self _)
  exact ⟨ρ', sWhile_eq h1, h2⟩
end
/-- a product -/
def prodL : List Int → Int := fun xs => xs.foldl (· * ·) 1
theorem prodL_app {xs : List Int} {x : Int} : prodL (xs ++ [x]) = prodL xs * x := by
  unfold prodL; rw [List.foldl_append]; rfl
theorem foldl_mul {xs : List Int} : ∀ {a : Int}, xs.foldl (· * ·) a = a * xs.foldl (· * ·) 1 := by
  induction xs with
  | nil => intro a; simp
  | cons x xs ih =>
    intro a
    rw [List.foldl_cons, List.foldl_cons, ih, ih (a := 1 * x), Int.one_mul, Int.mul_assoc]
theorem prodL_nil : prodL [] = 1 := rfl
theorem prodL_cons {x : Int} {xs : List Int} : prodL (x :: xs) = x * prodL xs := by
  unfold prodL
  rw [List.foldl_cons, foldl_mul, Int.one_mul]
theorem prodL_pos : ∀ {xs : List Int}, (∀ x ∈ xs, 1 ≤ x) → 1 ≤ prodL xs
  | [], _ => by rw [prodL_nil]; exact Int.le_refl _
  | x :: xs, h => by
    rw [prodL_cons]
    have h1 := h x List.mem_cons_self
    have h2 := prodL_pos fun y m => h y (List.mem_cons_of_mem _ m)
    have := Int.mul_le_mul h1 h2 (by omega) (by omega)
    omega
theorem prodL_le {B : Int} : ∀ {xs : List Int}, (∀ x ∈ xs, 1 ≤ x ∧ x ≤ B) → prodL xs ≤ B ^ xs.length
  | [], _ => by rw [prodL_nil, List.length_nil, Int.pow_zero]; exact Int.le_refl _
  | x :: xs, h => by
    rw [prodL_cons, List.length_cons, Int.pow_succ, Int.mul_comm]
    have h1 := h x List.mem_cons_self
    have h2 := prodL_le fun y m => h y (List.mem_cons_of_mem _ m)
    have h3 := prodL_pos fun y m => (h y (List.mem_cons_of_mem _ m)).1
    exact Int.mul_le_mul h2 h1.2 (by omega) (by omega)
theorem prodL_dvd : ∀ {xs : List Int} {x : Int}, x ∈ xs → x ∣ prodL xs
  | y :: ys, x, m => by
    rw [prodL_cons]
    rcases List.mem_cons.mp m with rfl | m
    · exact Int.dvd_mul_right _ _
    · exact Int.dvd_trans (prodL_dvd m) (Int.dvd_mul_left _ _)
theorem take_succ {α : Type} {xs : List α} {j : Nat} (h : j < xs.length) : xs.take (j + 1) = xs.take j ++ [xs[j]] := by
  rw [List.take_succ_eq_append_getElem h]
theorem prodL_take {xs : List Int} (h : ∀ x ∈ xs, 1 ≤ x) (j : Nat) : 1 ≤ prodL (xs.take j) := prodL_pos fun x m => h x (List.mem_of_mem_take m)
theorem prodL_takeLe {B : Int} {xs : List Int} (h : ∀ x ∈ xs, 1 ≤ x ∧ x ≤ B) (hB : 1 ≤ B) {n : Nat} (hn : xs.length ≤ n) (j : Nat) : prodL (xs.take j) ≤ B ^ n := by
  have h1 := prodL_le (B := B) (xs := xs.take j) fun x m => h x (List.mem_of_mem_take m)
  refine Int.le_trans h1 ?_
  have hl : (xs.take j).length ≤ n := Nat.le_trans (List.length_take_le' ..) hn
  obtain ⟨k, rfl⟩ := Nat.exists_eq_add_of_le hl
  rw [Int.pow_add]
  have p : ∀ k : Nat, (1 : Int) ≤ B ^ k := fun k => by
    induction k with
    | zero => rw [Int.pow_zero]; exact Int.le_refl _
    | succ k ih =>
      rw [Int.pow_succ]
      have := Int.mul_le_mul ih hB (by omega) (by omega)
      omega
  have := Int.mul_le_mul (Int.le_refl (B ^ (xs.take j).length)) (p k) (by omega) (by have := p (xs.take j).length; omega)
  omega
theorem prodL_all {xs : List Int} : xs.take xs.length = xs := List.take_length
/-- times, of whole numbers from nought to 10^1000 -/
theorem mul_nn {i j : Int} (h1 : 0 ≤ i) (h2 : i ≤ mB) (h3 : 0 ≤ j) (h4 : j ≤ mB) : gMul (.int i) (.int j) = some (.int (i * j)) := by
  have e : cMul i j = true := by
    unfold cMul
    simp only [Bool.and_eq_true, decide_eq_true_eq]
    omega
  show (if cMul i j = true then _ else _) = _
  rw [if_pos e]
theorem div_nn {i j : Int} (h3 : 0 < j) (h4 : j ≤ mB) : gDiv (.int i) (.int j) = some (.int (i / j)) := by
  have e : cDiv j = true := by
    unfold cDiv
    simp only [Bool.and_eq_true, decide_eq_true_eq]
    omega
  show (if cDiv j = true then _ else _) = _
  rw [if_pos e]
theorem mB_pos : (0 : Int) < mB := by unfold mB; decide +kernel
theorem mB_ge : (10 : Int) ^ 900 ≤ mB := by unfold mB; decide +kernel
@[simp] theorem s_sum {ns : List Int} : gSum [.lst (ns.map .int)] = some (.int ns.sum) := by
  unfold gSum; dsimp only; rw [ints_map]
theorem sum_nn : ∀ {xs : List Int}, (∀ x ∈ xs, 0 ≤ x) → 0 ≤ xs.sum
  | [], _ => Int.le_refl _
  | x :: xs, h => by
    rw [List.sum_cons]
    have h1 := h x List.mem_cons_self
    have h2 := sum_nn fun y m => h y (List.mem_cons_of_mem _ m)
    omega
theorem sum_le {B : Int} : ∀ {xs : List Int}, (∀ x ∈ xs, x ≤ B) → xs.sum ≤ B * xs.length
  | [], _ => by simp
  | x :: xs, h => by
    rw [List.sum_cons, List.length_cons, Int.natCast_add, Int.mul_add]
    have h1 := h x List.mem_cons_self
    have h2 := sum_le fun y m => h y (List.mem_cons_of_mem _ m)
    simp only [Int.natCast_one, Int.mul_one]
    omega
end VL

/-! VL17: is True; bits of whole numbers. -/
namespace VL
open PySem PySem.Spec L2
open PyProof.Rows hiding St
section
variable {K : PySem.W.Frag}
def gIsB : D → D → Option D
  | .bl a, .bl b => some (.bl (decide (a = b)))
  | _, _ => none
def gIsntB : D → D → Option D
  | .bl a, .bl b => some (.bl (!decide (a = b)))
  | _, _ => none
theorem o2_isB : Op2 K (fun x y H Q => ∃ a b, x = .bl a ∧ y = .bl b ∧ Q (.bl (decide (a = b))) H) 0 gIsB := by
  refine ⟨fun {H N d1 d2 d v1 v2} o1 o2 e Q q => ?_⟩
  unfold gIsB at e
  split at e
  · cases e; cases o1; cases o2
    exact ⟨_, _, rfl, rfl, fin0 q fun _ => .bl⟩
  · cases e
theorem o2_isntB : Op2 K (fun x y H Q => ∃ a b, x = .bl a ∧ y = .bl b ∧ Q (.bl (!decide (a = b))) H) 0 gIsntB := by
  refine ⟨fun {H N d1 d2 d v1 v2} o1 o2 e Q q => ?_⟩
  unfold gIsntB at e
  split at e
  · cases e; cases o1; cases o2
    exact ⟨_, _, rfl, rfl, fin0 q fun _ => .bl⟩
  · cases e
@[simp] theorem s_isB {a b : Bool} : gIsB (.bl a) (.bl b) = some (.bl (decide (a = b))) := id rfl
@[simp] theorem s_isN {neg : Bool} {d : D} : gIsN neg d .non = some (.bl (if neg then !d.isNon else d.isNon)) := by
  cases neg <;> rfl
@[simp] theorem s_nonI {i : Int} : (D.int i).isNon = false := id rfl
@[simp] theorem s_nonN : D.non.isNon = true := id rfl
end
/-! ### bits -/
theorem xor_and (a : Nat) : ∀ b : Nat, (a ^^^ b) + 2 * (a &&& b) = a + b := by
  induction a using Nat.strongRecOn with
  | ind a ih =>
    intro b
    by_cases h : a = 0
    · subst h; simp
    · have h1 := ih (a / 2) (by omega) (b / 2)
      have h2 : (a ^^^ b) / 2 = a / 2 ^^^ b / 2 := Nat.xor_div_two
      have h3 : (a &&& b) / 2 = a / 2 &&& b / 2 := Nat.and_div_two
      have h4 : (a ^^^ b) % 2 = a % 2 ^^^ b % 2 := Nat.xor_mod_two_pow (n := 1)
      have h5 : (a &&& b) % 2 = a % 2 &&& b % 2 := Nat.and_mod_two_pow (n := 1)
      rw [← h2, ← h3] at h1
      have h6 : a % 2 = 0 ∨ a % 2 = 1 := by omega
      have h7 : b % 2 = 0 ∨ b % 2 = 1 := by omega
      rcases h6 with h6 | h6 <;> rcases h7 with h7 | h7 <;> rw [h6, h7] at h5 h4
      · have h4 : (a ^^^ b) % 2 = 0 := h4
        have h5 : (a &&& b) % 2 = 0 := h5
        omega
      · have h4 : (a ^^^ b) % 2 = 1 := h4
        have h5 : (a &&& b) % 2 = 0 := h5
        omega
      · have h4 : (a ^^^ b) % 2 = 1 := h4
        have h5 : (a &&& b) % 2 = 0 := h5
        omega
      · have h4 : (a ^^^ b) % 2 = 0 := h4
        have h5 : (a &&& b) % 2 = 1 := h5
        omega
theorem xor_cast (a b : Nat) : Builtin.bitXor (a : Int) (b : Int) = ((a ^^^ b : Nat) : Int) := by
  rw [PyProof.Rows.bitXor_and, PyProof.Rows.bitAnd_pp (Int.natCast_nonneg a) (Int.natCast_nonneg b), Int.toNat_natCast, Int.toNat_natCast]
  have := xor_and a b
  omega
theorem shr_ok {i : Int} {j : Int} (h : 0 ≤ j) : gShr (.int i) (.int j) = some (.int (i / 2 ^ j.toNat)) := by
  show (if decide (0 ≤ j) = true then _ else _) = _
  rw [if_pos (decide_eq_true h)]
theorem shr_cast (a k : Nat) : (a : Int) / 2 ^ k = ((a / 2 ^ k : Nat) : Int) := by
  rw [Int.natCast_ediv, Int.natCast_pow]; rfl
theorem shl_ok {i : Int} {j : Int} (h : 0 ≤ j) (h2 : j ≤ 1000) (h3 : -1000000000000 ≤ i) (h4 : i ≤ 1000000000000) : gShl (.int i) (.int j) = some (.int (i * 2 ^ j.toNat)) := by
  have : (i.natAbs < 2 ^ 4000) := by
    have : (1000000000001 : Nat) < 2 ^ 4000 := by decide +kernel
    omega
  show (if (decide (0 ≤ j) && decide (j ≤ 1000) && decide (i.natAbs < 2 ^ 4000)) = true then _ else _) = _
  rw [if_pos]
  simp only [Bool.and_eq_true, decide_eq_true_eq]
  exact ⟨⟨h, h2⟩, this⟩
theorem tb_iff (h k : Nat) : (((h / 2 ^ k : Nat) : Int) % 2 = 1) ↔ h.testBit k = true := by
  rw [Nat.testBit_eq_decide_div_mod_eq, decide_eq_true_eq]
  omega
theorem tb_xor (h i k : Nat) : (h ^^^ 2 ^ i).testBit k = if k = i then !h.testBit k else h.testBit k := by
  rw [Nat.testBit_xor, Nat.testBit_two_pow]
  by_cases e : k = i
  · subst e; simp
  · rw [if_neg e]
    have : ¬ i = k := fun z => e z.symm
    simp [this]
/-- all the numbers' marks on the places from 1 on -/
def markZ (p : Nat → Bool) : Nat → Nat
  | 0 => 0
  | n + 1 => if p n then markZ p n ^^^ (n + 1) else markZ p n
theorem markZ_ext {p q : Nat → Bool} : ∀ {n : Nat}, (∀ j, j < n → p j = q j) → markZ p n = markZ q n
  | 0, _ => rfl
  | n + 1, h => by
    unfold markZ
    rw [h n (Nat.lt_succ_self n), markZ_ext fun j hj => h j (by omega)]
/-! ### range with a step -/
theorem fits {i : Int} (h1 : -1000000000000 ≤ i) (h2 : i ≤ 1000000000000) : Builtin.Range.rangeFitsLong i = true := by
  unfold Builtin.Range.rangeFitsLong
  rw [Bool.and_eq_true, decide_eq_true_eq, decide_eq_true_eq]
  omega
theorem r3_up {fa : Store → Option (List D)} {ρ : Store} {i j c : Int} {n : Nat} (h : fa ρ = some [.int i, .int j, .int c]) (hn : Builtin.Range.rangeSize i j c = n) (hc : 0 < c) (hc2 : c ≤ 1000000) (h1 : -1000000000 ≤ i) (h2 : i ≤ 1000000000) (h3 : -1000000000 ≤ j) (h4 : j ≤ 1000000000) (h5 : n ≤ 1000000000) : iR3 fa ρ = some (steps i c n) := by
  have hs : Builtin.Range.small i j c = true := by
    unfold Builtin.Range.small
    rw [hn, fits (i := i) (by omega) (by omega), fits (i := j) (by omega) (by omega), fits (i := c) (by omega) (by omega), fits (i := (n : Int)) (by omega) (by omega), if_pos hc, fits (by omega) (by omega), Bool.or_true]
    rfl
  unfold iR3
  rw [h]
  refine (if_pos ⟨by omega, by omega, hs, by omega⟩).trans ?_
  rw [hn, Int.toNat_natCast]
theorem filter_range_eq {n k : Nat} (h : k < n) : (List.range n).filter (fun i => decide (i = k)) = [k] := by
  induction n with
  | zero => omega
  | succ n ih =>
    rw [List.range_succ, List.filter_append]
    by_cases e : k = n
    · subst e
      have : (List.range k).filter (fun i => decide (i = k)) = [] := List.filter_eq_nil_iff.mpr fun i mi => by
        have := List.mem_range.mp mi
        simp; omega
      rw [this]
      simp
    · rw [ih (by omega)]
      have : ¬ n = k := fun z => e z.symm
      simp [this]
section
variable {vs : List Nat} {it : Store → Option (List D)} {g : D → Store → Option Store} {p : Store → Option Bool} {f : Store → Option D} {ρ : Store}
theorem lcA_all {α : Type} {k : α → D} {xs : List α} {γ : α → Store} {h : α → D} (hi : it ρ = some (xs.map k)) (hl : xs.length < 16777216) (st : ∀ x ∈ xs, g (k x) (wipeD ρ vs) = some (γ x) ∧ p (γ x) = some true ∧ f (γ x) = some (h x)) : eLc vs it g p f ρ = some (.lst (xs.map h)) := by
  refine eLc_ok hi (by rw [List.length_map]; exact hl) ?_
  rw [lc_map (q := fun _ => true) (h := h) fun x m => ⟨(st x m).1, (st x m).2.1, fun _ => (st x m).2.2⟩, List.filter_eq_self.mpr fun _ _ => rfl]
theorem lcA_ups {lo : Int} {n : Nat} {γ : Nat → Store} {h : Nat → D} (hi : it ρ = some (ups lo n)) (hl : n < 16777216) (st : ∀ i < n, g (.int (lo + i)) (wipeD ρ vs) = some (γ i) ∧ p (γ i) = some true ∧ f (γ i) = some (h i)) : eLc vs it g p f ρ = some (.lst ((List.range n).map h)) :=
  lcA_all (k := fun i : Nat => D.int (lo + (i : Int))) hi (by rw [List.length_range]; exact hl) fun x m => st x (List.mem_range.mp m)
end
theorem ix_rng {n : Nat} {f : Nat → D} {i : Int} {k : Nat} (e : i = k) (h : k < n) : gIx (.lst ((List.range n).map f)) (.int i) = some (f k) := by
  show L2.atI _ i = _
  rw [atI_map, atI_nat e (by rw [List.length_range]; exact h), List.getElem_range]
  rfl
theorem ups_ints {lo : Int} {n : Nat} : ups lo n = ((List.range n).map fun i : Nat => lo + (i : Int)).map D.int := by
  unfold ups; rw [List.map_map]; rfl
theorem lrg_ok {f : Store → Option (Int × Int)} {ρ : Store} {n : Nat} (h : f ρ = some (0, (n : Int))) (hn : n < 16777216) : eLRg f ρ = some (.lst (((List.range n).map fun i : Nat => 0 + (i : Int)).map D.int)) := by
  unfold eLRg
  rw [h]
  have h2 : ((n : Int) - 0).toNat = n := by omega
  have h3 : n ≤ 2 ^ 24 := by omega
  refine (if_pos ⟨cR_t (by decide) (by decide), cR_t (by omega) (by omega), by rw [h2]; exact h3⟩).trans ?_
  rw [h2, ups_ints]
theorem filter_lt {n k : Nat} (h : k ≤ n) : (List.range n).filter (fun i => decide (i < k)) = List.range k := by
  induction n with
  | zero =>
    obtain rfl : k = 0 := by omega
    rfl
  | succ n ih =>
    rw [List.range_succ, List.filter_append]
    by_cases e : k = n + 1
    · subst e
      rw [List.range_succ, List.filter_eq_self.mpr fun i mi => by have := List.mem_range.mp mi; exact decide_eq_true (by omega)]
      simp
    · rw [ih (by omega)]
      have : ¬ n < k := by omega
      simp [this]
end VL

/-! VL18: arcs on a circle, plain arithmetic. -/
namespace VL
theorem emod_low {x P : Int} (h0 : 0 ≤ x) (h1 : x < P) : x % P = x := Int.emod_eq_of_lt h0 h1
theorem emod_neg1 {x P : Int} (h0 : x < 0) (h1 : -P ≤ x) : x % P = x + P := by
  have : (x + P) % P = x % P := Int.add_emod_right ..
  rw [← this]
  exact Int.emod_eq_of_lt (by omega) (by omega)
theorem emod_sub_mod (x y P : Int) : (x - y % P) % P = (x - y) % P := by
  have e : x - y % P = (x - y) + P * (y / P) := by have := Int.emod_add_mul_ediv y P; omega
  rw [e, Int.add_mul_emod_self_left]
/-- the guess hits just where the sum lies in the own arc -/
theorem guess_iff {w c g h : Int} (hw : 1 ≤ w) (hc : 1 ≤ c) (g0 : 0 ≤ g) (g1 : g < w * c) (h0 : 0 ≤ h) (h1 : h < c) : (g + w - 1) / w % c = h ↔ (w * h - g) % (w * c) < w := by
  obtain ⟨q, hq⟩ : ∃ q, q = (g + w - 1) / w := ⟨_, rfl⟩
  have q1 : w * q ≤ g + w - 1 := by rw [hq]; exact Int.mul_ediv_self_le (by omega)
  have q2 : g + w - 1 < w * q + w := by rw [hq]; exact Int.lt_mul_ediv_self_add (by omega)
  have q0 : 0 ≤ q := by rw [hq]; exact Int.ediv_nonneg (by omega) (by omega)
  rw [← hq]
  have mono : ∀ a b : Int, a + 1 ≤ b → w * a + w ≤ w * b := fun a b hab => by
    have := Int.mul_le_mul_of_nonneg_left hab (show 0 ≤ w by omega)
    rw [Int.mul_add, Int.mul_one] at this
    exact this
  have wc : w ≤ w * c := by have := mono 0 c (by omega); rw [Int.mul_zero] at this; omega
  have wh0 : 0 ≤ w * h := Int.mul_nonneg (by omega) h0
  have whc := mono h c (by omega)
  have qc : q ≤ c := Classical.byContradiction fun n => by have := mono c q (by omega); omega
  by_cases e : q = c
  · subst e
    rw [Int.emod_self]
    constructor
    · intro z
      subst z
      rw [Int.mul_zero, Int.zero_sub, emod_neg1 (by omega) (by omega)]
      omega
    · intro z
      refine Classical.byContradiction fun n => ?_
      have := mono 0 h (by omega)
      rw [Int.mul_zero] at this
      rw [emod_neg1 (by omega) (by omega)] at z
      omega
  · rw [Int.emod_eq_of_lt q0 (by omega)]
    constructor
    · rintro rfl
      rw [emod_low (by omega) (by omega)]
      omega
    · intro z
      refine Classical.byContradiction fun n => ?_
      by_cases l : q < h
      · have := mono q h (by omega)
        rw [emod_low (by omega) (by omega)] at z
        omega
      · have := mono h q (by omega)
        have := mono q c (by omega)
        rw [emod_neg1 (by omega) (by omega)] at z
        omega
/-- how many turns of S lie below x -/
def cntS (S P x : Int) : Int := (x - S + P - 1) / P
theorem cntS_step {S P A w : Int} (hP : 1 ≤ P) (h0 : 1 ≤ w) (h1 : w ≤ P) : cntS S P (A + w) - cntS S P A = if (S - A) % P < w then 1 else 0 := by
  obtain ⟨r, hr⟩ : ∃ r, r = (S - A) % P := ⟨_, rfl⟩
  obtain ⟨k, hk⟩ : ∃ k, k = (S - A) / P := ⟨_, rfl⟩
  have r0 : 0 ≤ r := by rw [hr]; exact Int.emod_nonneg _ (by omega)
  have r1 : r < P := by rw [hr]; exact Int.emod_lt_of_pos _ (by omega)
  have e : S - A = r + P * k := by rw [hr, hk]; exact (Int.emod_add_mul_ediv ..).symm
  have a1 : cntS S P A = -k := by
    unfold cntS
    rw [show A - S + P - 1 = (P - 1 - r) + P * (-k) by rw [Int.mul_neg]; omega, Int.add_mul_ediv_left _ _ (by omega), Int.ediv_eq_zero_of_lt (by omega) (by omega)]
    omega
  have a2 : cntS S P (A + w) = (w - 1 - r) / P + 1 - k := by
    unfold cntS
    rw [show A + w - S + P - 1 = (w - 1 - r) + P * (1 - k) by rw [Int.mul_sub, Int.mul_one]; omega, Int.add_mul_ediv_left _ _ (by omega)]
    omega
  rw [a1, a2, ← hr]
  split
  · rw [Int.ediv_eq_zero_of_lt (by omega) (by omega)]; omega
  · have : (w - 1 - r) / P = -1 := by
      rw [show w - 1 - r = (w - 1 - r + P) + P * (-1) by omega, Int.add_mul_ediv_left _ _ (by omega), Int.ediv_eq_zero_of_lt (by omega) (by omega)]
      omega
    omega
theorem cntS_zero {S P : Int} (h0 : 0 ≤ S) (h1 : S < P) : cntS S P 0 = 0 := by
  unfold cntS
  exact Int.ediv_eq_zero_of_lt (by omega) (by omega)
/-- as many right ones as turns -/
theorem count_arcs {S P : Int} {W : List Int} (hP : 1 ≤ P) (hS0 : 0 ≤ S) (hS1 : S < P) (hW : ∀ w ∈ W, 1 ≤ w ∧ w ≤ P) {ok : Nat → Bool} (hok : ∀ i (h : i < W.length), ok i = decide ((S - (W.take i).sum) % P < W[i])) :
    ∀ n, n ≤ W.length → ((((List.range n).filter ok).length : Nat) : Int) = cntS S P (W.take n).sum
  | 0, _ => by rw [List.take_zero, List.sum_nil, cntS_zero hS0 hS1]; rfl
  | n + 1, h => by
    have ih := count_arcs hP hS0 hS1 hW hok n (by omega)
    have hw := hW _ (List.getElem_mem (show n < W.length by omega))
    have st := cntS_step (S := S) (A := (W.take n).sum) hP hw.1 hw.2
    rw [List.range_succ, List.filter_append, List.length_append, Int.natCast_add, ih, take_succ (show n < W.length by omega), List.sum_append, List.sum_cons, List.sum_nil, Int.add_zero]
    have := hok n (by omega)
    by_cases z : (S - (W.take n).sum) % P < W[n]
    · rw [if_pos z] at st
      rw [decide_eq_true z] at this
      simp [this]
      omega
    · rw [if_neg z] at st
      rw [decide_eq_false z] at this
      simp [this]
      omega
theorem cntS_rng {S P T : Int} (hP : 1 ≤ P) (hS0 : 0 ≤ S) (hS1 : S < P) : T / P ≤ cntS S P T ∧ (cntS S P T - 1) * P < T := by
  unfold cntS
  constructor
  · exact Int.ediv_le_ediv (by omega) (by omega)
  · have := Int.mul_ediv_self_le (x := T - S + P - 1) (k := P) (by omega)
    rw [Int.sub_mul, Int.one_mul, Int.mul_comm]
    omega
end VL

/-! VL19: reversed(x) of a list or tuple; what an expression changes on its way: x.pop(i). -/
namespace VL
open PySem PySem.Spec L2 RT
open PyProof.Rows hiding St
section
variable {X : Cx} {K : PySem.W.Frag} {Γ : List Nat} {W : WX} {I : Nat → Nat} {r k m : Nat} {Γb Γ' : List Nat} {e a b tg : Expr} {f : Store → Option D} {te t : TE} {pos p : Pos}
/-! ### reversed -/
def iRva (f : Store → Option D) : Store → Option (List D) := fun ρ => match f ρ with
  | some (.lst ds) => some ds.reverse
  | some (.tup ds) => some ds.reverse
  | _ => none
theorem rev_place {α : Type} {xs : List α} {i : Nat} {d : α} (e : xs.reverse[i]? = some d) : i < xs.length ∧ xs[xs.length - 1 - i]? = some d := by
  have h := lt_of_some e
  rw [List.length_reverse] at h
  rw [List.getElem?_reverse h] at e
  exact ⟨h, e⟩
theorem wk_revL {ds : List D} {a : Addr} {n : Nat} (hn : n = ds.length) : Wk K (Itv K a n) (.lst ds) (.ref a) ds.reverse := by
  subst hn
  refine ⟨fun {H N} o i d e => ?_, fun {H N} o => ?_⟩
  · obtain ⟨_, vs, e0, s, lo⟩ := o.lst_inv0
    cases e0
    obtain ⟨h, e⟩ := rev_place e
    obtain ⟨v, hv, o⟩ := lo.get0 e
    refine ⟨⟨h, vs, v, s, hv⟩, fun x H2 y => ?_⟩
    obtain ⟨rfl, y⟩ := y
    have z := y vs s
    rw [hv] at z
    cases z
    exact ⟨.rfl' _, o⟩
  · show ds.length ≤ ds.reverse.length
    rw [List.length_reverse]; exact Nat.le_refl _
theorem wk_revT {ds : List D} {a : Addr} {n : Nat} (hn : n = ds.length) : Wk K (ItvT K a n) (.tup ds) (.ref a) ds.reverse := by
  subst hn
  refine ⟨fun {H N} o i d e => ?_, fun {H N} o => ?_⟩
  · obtain ⟨_, vs, e0, s, lo⟩ := o.tup_inv
    cases e0
    obtain ⟨h, e⟩ := rev_place e
    obtain ⟨v, hv, o⟩ := lo.get0 e
    refine ⟨⟨h, vs, v, s, hv⟩, fun x H2 y => ?_⟩
    obtain ⟨rfl, y⟩ := y
    have z := y vs s
    rw [hv] at z
    cases z
    exact ⟨.rfl' _, o⟩
  · show ds.length ≤ ds.reverse.length
    rw [List.length_reverse]; exact Nat.le_refl _
theorem iv_revA (hg : Gl X "reversed") (hm : X.mg "reversed" = none) (h : Ev X Γ e m [] f t) (hs : starEach [e] X.env = (false, eval e X.env) :: starEach [] X.env := by rfl) (hK : X.K = K := by rfl) : Iv X Γ tg (.Call (.Name "reversed" p) [e] [] pos) (iRva f) (iRevA K t) := by
  subst hK
  refine ⟨pi_revA hg hm h.pe hs, ⟨fun {E ρ σ H Φ} R ds e Q q => ?_⟩⟩
  unfold iRva at e
  split at e
  · rename_i ds' e1
    cases e
    refine h.sd.sh R e1 _ fun v H1 x o => ?_
    obtain ⟨l, vs, rfl, s, lo⟩ := o.lst_inv0
    exact ⟨l, vs, rfl, .inl ⟨s, q _ _ _ _ x (own_live o) (wk_revL lo.len)⟩⟩
  · rename_i ds' e1
    cases e
    refine h.sd.sh R e1 _ fun v H1 x o => ?_
    obtain ⟨l, vs, rfl, s, lo⟩ := o.tup_inv
    exact ⟨l, vs, rfl, .inr ⟨s, q _ _ _ _ x (own_live o) (wk_revT lo.len)⟩⟩
  · cases e
/-! ### an expression that changes a slot's own on its way; what it gives is shared -/
structure SdX (K : PySem.W.Frag) (Γ : List Nat) (t : TE) (F : Store → Option (D × Store)) : Prop where
  run : ∀ {E : Entry} {ρ : Store} {σ : St} {H : Hp} {Φ : Nat → List Addr}, StR K E Γ ρ σ H Φ → ∀ {d : D} {ρ' : Store}, F ρ = some (d, ρ') → ∀ Q : VK,
    (∀ v H' Φ', StR K E Γ ρ' σ H' Φ' → Own K H' (fun a => (∃ o, H' a = some o) ∧ ∀ j, a ∉ Φ' j) 0 d v [] → Q v H') → t σ H Q
structure Xv (X : Cx) (Γ : List Nat) (e : Expr) (F : Store → Option (D × Store)) (t : TE) : Prop where
  pe : PE X e t
  sd : SdX X.K Γ t F
def xPop (i : Nat) (f : Store → Option D) : Store → Option (D × Store) := fun ρ => match eVar i ρ with
  | some (.lst ds) => (match f ρ with
    | some (.int z) => if cR z = true then (match ixN ds.length z with
      | some k => (match ds[k]? with
        | some d => some (d, ρ.set i (some (.lst (ds.eraseIdx k))))
        | none => none)
      | none => none) else none
    | _ => none)
  | _ => none
theorem OwnL.erase0 {H : Hp} {N : Addr → Prop} : ∀ {ds : List D} {vs : List V} {fp : List Addr}, OwnL K H N 0 ds vs fp → ∀ k, OwnL K H N 0 (ds.eraseIdx k) (vs.eraseIdx k) []
  | _, _, _, .nil, _ => .nil
  | _, _, _, .cons h l, 0 => by
    have := l.fp0 rfl
    subst this
    exact l
  | _, _, _, .cons h l, k + 1 => by
    have h0 := h.fp0 rfl
    subst h0
    exact .cons h (OwnL.erase0 l k)
theorem sd_pop {i : Nat} (hm : Γ.getD i 0 = 1) (h : SdE K Γ te m [] f) : SdX K Γ (tBM K "list" rPopAt (tVar i) (tCons te tNil)) (xPop i f) := by
  refine ⟨fun {E ρ σ H Φ} R d ρ' e Q q => ?_⟩
  unfold xPop at e
  split at e
  · rename_i ds e0
    split at e
    · rename_i z e1
      split at e
      · rename_i hz
        split at e
        · rename_i j ej
          split at e
          · rename_i d' ed
            cases e
            obtain ⟨v, h1, h2⟩ := R.val i _ (eVar_some e0)
            obtain ⟨_, l, vs0, _, _, rfl, _, hl0, _⟩ := h2.lst_inv (by rw [hm]; decide)
            refine ⟨_, h1, .inl ⟨rfl, _, .inl (.inl hl0)⟩, ?_⟩
            refine h.sh R e1 _ fun y H1 x o => ?_
            cases o
            have R1 := R.ext x
            obtain ⟨v, h1', h2⟩ := R1.val i _ (eVar_some e0)
            rw [h1] at h1'
            cases h1'
            obtain ⟨k', l', vs, fp, ek, el, efp, hl, lo⟩ := h2.lst_inv (by rw [hm]; decide)
            cases el
            rw [hm] at ek
            cases ek
            have fp0 := lo.fp0 rfl
            subst fp0
            obtain ⟨z1, z2⟩ := cR_ok hz
            obtain ⟨w, hw, ow⟩ := lo.get0 ed
            obtain ⟨s1, s2, s3, s4⟩ := ixN_seq ej
            refine ⟨l, vs, z, j, w, rfl, rfl, hl, by omega, by omega, by rw [lo.len]; exact s1, hw, ?_⟩
            have st : ∀ a o, H1 a = some o → a ≠ l → upd H1 l (.lst (vs.eraseIdx j)) a = some o := fun a o e n => by rw [upd_ne n]; exact e
            have lΦ : l ∈ Φ i := by rw [efp]; exact List.mem_cons_self
            have tup1 : ∀ a o, H1 a = some o → ¬ notTup o → a ≠ l := fun a o e t z => by subst z; rw [hl] at e; cases e; exact t trivial
            have R2 := R1.mut (i := i) (d := .lst (ds.eraseIdx j)) (v := .ref l) (H2 := upd H1 l (.lst (vs.eraseIdx j))) (Ψ := [l]) h1 (by rw [hm]; decide) (fun a o e n => st a o e fun z => n (by rw [z]; exact lΦ)) (fun a o e => by
              by_cases z : a = l
              · subst z; exact ⟨_, upd_same⟩
              · exact ⟨o, st a o e z⟩) (by
              rw [hm]
              refine .lst upd_same ((lo.erase0 j).move (fun a o e t => st a o e (tup1 a o e t)) (fun a o e z => ?_) fun a m => (nomatch m))
              have nl : a ≠ l := fun z' => z i (by rw [z']; exact lΦ)
              exact ⟨st a o e nl, fun m => nl (List.mem_singleton.mp m), fun j _ => z j⟩) (List.nodup_cons.mpr ⟨List.not_mem_nil, .nil⟩) (fun a m => by rw [List.mem_singleton.mp m]; exact .inl lΦ)
            refine q _ _ _ R2 (ow.move (fun a o e t => st a o e (tup1 a o e t)) (fun a o e z => ?_) fun a m => (nomatch m))
            have nl : a ≠ l := fun z' => z i (by rw [z']; exact lΦ)
            refine ⟨st a o e nl, ⟨o, st a o e nl⟩, fun j' m => ?_⟩
            have m : a ∈ (if j' = i then [l] else Φ j') := m
            split at m
            · exact nl (List.mem_singleton.mp m)
            · exact z j' m
          · cases e
        · cases e
      · cases e
    · cases e
  · cases e
theorem xv_pop (i : Nat) {x : Str} {pn pa pc : Pos} (he : Ev X Γ e m [] f te) (hN : X.N[i]? = some x := by rfl) (hv : Vis X.env.scope x := by first | exact Or.inl rfl | exact Or.inr (Or.inl rfl) | exact Or.inr (Or.inr rfl)) (hm : Γ.getD i 0 = 1 := by rfl)
    (hbase : attributeBase (.Name x pn) "pop" X.env (eval (.Name x pn) X.env) = eval (.Name x pn) X.env := by rfl) (hline : (pa.endLine == pc.line) = true := by rfl)
    (hfew : ((backTo pc (starEach [e] X.env)).all (fun x => !x.1) && (backToKw pc (keywordEach [] X.env)).all (fun x => x.1.isSome) && decide ([e].length + ([] : List Keyword).length + (if ([] : List Keyword).isEmpty then 0 else 1) < 30)) = true := by rfl)
    (hss : starEach [e] X.env = (false, eval e X.env) :: starEach [] X.env := by rfl) (hplain : (backTo pc (starEach [] X.env)).any (·.1) = false := by rfl) (hd : (x == ("__debug__" : Str)) = false := by decide) (hcd : (x == ("__classdict__" : Str)) = false := by decide) :
    Xv X Γ (.Call (.Attribute (.Name x pn) "pop" pa) [e] [] pc) (xPop i f) (tBM X.K "list" rPopAt (tVar i) (tCons te tNil)) :=
  ⟨pe_bm PySem.F.plainAttrs_list PySem.F.slot_list_pop PySem.F.type_list_pop mt_popAt (pe_var hN hv hd hcd) (pa_cons he.pe pa_nil hss) hbase hfew hline hss hplain, sd_pop hm he.sd⟩
/-- y = x.pop(..) -/
def sSetX (i : Nat) (F : Store → Option (D × Store)) : Store → Option O := fun ρ => match F ρ with
  | some (d, ρ') => some (.nx (ρ'.set i (some d)))
  | none => none
theorem sd_setX {i : Nat} {F : Store → Option (D × Store)} (h : SdX K Γ te F) (hG : i < Γ.length) (hi : I i = 0) : SdS K W I r Γ Γb (Γ.set i 0) (tAsg te (gName i)) (sSetX i F) := by
  refine ⟨fun {E ρ σ H Φ} hI R o e D q => ?_⟩
  unfold sSetX at e
  split at e
  · rename_i d ρ' e1
    cases e
    refine h.run R e1 _ fun v H' Φ' R' ov => ?_
    exact q _ _ _ (R'.set (Ψ := []) ⟨.rfl' _, fun a m => (nomatch m), .nil, ov.move (fun a o e _ => e) (fun a o e z => ⟨e, List.not_mem_nil, fun j _ => z.2 j⟩) fun a m => (nomatch m)⟩ hG (by rw [hI]; exact hi))
  · cases e
theorem s_setX (i : Nat) {x : Str} {pos' : Pos} {F : Store → Option (D × Store)} (he : Xv X Γ e F te) (hN : X.N.Nodup) (hi : X.N[i]? = some x := by rfl) (hx : Loc X.env.scope x := by first | exact Or.inl rfl | exact Or.inr rfl) (hG : i < Γ.length := by decide) (hio : I i = 0 := by rfl) (hs : swapsWith e (some (.Name x pos')) pos.line X.env = pure false := by rfl) (hf : X.fn x = true ∨ X.env.scope.names.lookup x = some .local := by first | exact .inl rfl | exact .inr rfl) :
    Sv X W I r Γ Γb (.Assign [.Name x pos'] e pos) (Γ.set i 0) (sSetX i F) (tAsg te (gName i)) := ⟨ps_set hN hi hx he.pe hs hf, sd_setX he.sd hG hio⟩
/-- z.append(x.pop(..)) -/
def sAppX (i : Nat) (F : Store → Option (D × Store)) : Store → Option O := fun ρ => match eVar i ρ with
  | some (.lst _) => (match F ρ with
    | some (d, ρ') => (match eVar i ρ' with
      | some (.lst ds) => if ds.length < sizeLine then some (.nx (ρ'.set i (some (.lst (ds ++ [d]))))) else none
      | _ => none)
    | none => none)
  | _ => none
theorem sd_appX {i : Nat} {F : Store → Option (D × Store)} (hm : Γ.getD i 0 = 1) (h : SdX K Γ te F) : SdS K W I r Γ Γb Γ (tDrop (tBM K "list" rAppend (tVar i) (tCons te tNil))) (sAppX i F) := by
  refine ⟨fun {E ρ σ H Φ} hI R o e D q => ?_⟩
  unfold sAppX at e
  split at e
  · rename_i ds0 e0
    split at e
    · rename_i d ρ' e1
      split at e
      · rename_i ds e2
        split at e
        · rename_i hz
          cases e
          obtain ⟨v, h1, h2⟩ := R.val i _ (eVar_some e0)
          obtain ⟨_, l, vs0, _, _, rfl, _, hl0, _⟩ := h2.lst_inv (by rw [hm]; decide)
          refine ⟨_, h1, .inl ⟨rfl, _, .inl (.inl hl0)⟩, ?_⟩
          refine h.run R e1 _ fun y H1 Φ1 R1 oy => ?_
          obtain ⟨v, h1', h2⟩ := R1.val i _ (eVar_some e2)
          rw [h1] at h1'
          cases h1'
          obtain ⟨k', l', vs, fp, ek, el, efp, hl, lo⟩ := h2.lst_inv (by rw [hm]; decide)
          cases el
          rw [hm] at ek
          cases ek
          have fp0 := lo.fp0 rfl
          subst fp0
          refine ⟨l, vs, y, rfl, rfl, hl, by rw [lo.len]; exact hz, ?_⟩
          have st : ∀ a o, H1 a = some o → a ≠ l → upd H1 l (.lst (vs ++ [y])) a = some o := fun a o e n => by rw [upd_ne n]; exact e
          have lΦ : l ∈ Φ1 i := by rw [efp]; exact List.mem_cons_self
          have tup1 : ∀ a o, H1 a = some o → ¬ notTup o → a ≠ l := fun a o e t z => by subst z; rw [hl] at e; cases e; exact t trivial
          refine q _ _ _ (R1.mut (i := i) (v := .ref l) (Ψ := [l]) h1 (by rw [hm]; decide) (fun a o e n => st a o e fun z => n (by rw [z]; exact lΦ)) (fun a o e => by
            by_cases z : a = l
            · subst z; exact ⟨_, upd_same⟩
            · exact ⟨o, st a o e z⟩) ?_ (List.nodup_cons.mpr ⟨List.not_mem_nil, .nil⟩) (fun a m => by rw [List.mem_singleton.mp m]; exact .inl lΦ))
          rw [hm]
          have nn : ∀ a, (∀ j, a ∉ Φ1 j) → a ≠ l := fun a z z' => z i (by rw [z']; exact lΦ)
          refine .lst (fp := []) upd_same (OwnL.app (fp := []) (fq := []) ?_ ?_)
          · exact lo.move (fun a o e t => st a o e (tup1 a o e t)) (fun a o e z => ⟨st a o e (nn a z), fun m => nn a z (List.mem_singleton.mp m), fun j _ => z j⟩) fun a m => (nomatch m)
          · exact .cons (fp := []) (fps := []) (oy.move (fun a o e t => st a o e (tup1 a o e t)) (fun a o e z => ⟨st a o e (nn a z.2), fun m => nn a z.2 (List.mem_singleton.mp m), fun j _ => z.2 j⟩) fun a m => (nomatch m)) .nil
        · cases e
      · cases e
    · cases e
  · cases e
theorem s_appX (i : Nat) {x : Str} {pn pa pc ps : Pos} {F : Store → Option (D × Store)} (he : Xv X Γ e F te) (hN : X.N[i]? = some x := by rfl) (hv : Vis X.env.scope x := by first | exact Or.inl rfl | exact Or.inr (Or.inl rfl) | exact Or.inr (Or.inr rfl)) (hm : Γ.getD i 0 = 1 := by rfl)
    (hbase : attributeBase (.Name x pn) "append" X.env (eval (.Name x pn) X.env) = eval (.Name x pn) X.env := by rfl) (hline : (pa.endLine == pc.line) = true := by rfl)
    (hfew : ((backTo pc (starEach [e] X.env)).all (fun x => !x.1) && (backToKw pc (keywordEach [] X.env)).all (fun x => x.1.isSome) && decide ([e].length + ([] : List Keyword).length + (if ([] : List Keyword).isEmpty then 0 else 1) < 30)) = true := by rfl)
    (hss : starEach [e] X.env = (false, eval e X.env) :: starEach [] X.env := by rfl) (hplain : (backTo pc (starEach [] X.env)).any (·.1) = false := by rfl)
    (hs : swapsWith (.Call (.Attribute (.Name x pn) "append" pa) [e] [] pc) none ps.line X.env = pure false := by rfl) (hd : (x == ("__debug__" : Str)) = false := by decide) (hcd : (x == ("__classdict__" : Str)) = false := by decide) :
    Sv X W I r Γ Γb (.Expr (.Call (.Attribute (.Name x pn) "append" pa) [e] [] pc) ps) Γ (sAppX i F) (tDrop (tBM X.K "list" rAppend (tVar i) (tCons te tNil))) :=
  ⟨ps_expr (pe_bm PySem.F.plainAttrs_list PySem.F.slot_list_append PySem.F.type_list_append mt_append (pe_var hN hv hd hcd) (pa_cons he.pe pa_nil hss) hbase hfew hline hss hplain) hs, sd_appX hm he.sd⟩
end
end VL

/-! VL20: taking a tuple apart: in a for, in a comprehension, in an assignment. -/
namespace VL
open PySem PySem.Spec L2
open PyProof.Rows hiding St
section
variable {X : Cx} {K : PySem.W.Frag} {Γ Γ1 Γ2 : List Nat} {W : WX} {I : Nat → Nat} {r k m : Nat} {Γb Γ' : List Nat} {e a b tg : Expr} {f : Store → Option D} {te t : TE} {pos p : Pos}
theorem g_two (i j : Nat) {x y : Str} {p1 p2 : Pos} {kk : Nat} (hN : X.N.Nodup) (hc : X.calm = true := by rfl) (hi : X.N[i]? = some x := by rfl) (hj : X.N[j]? = some y := by rfl) (hx : Loc X.env.scope x := by first | exact Or.inl rfl | exact Or.inr rfl) (hy : Loc X.env.scope y := by first | exact Or.inl rfl | exact Or.inr rfl) (hG : i < Γ.length := by decide) (hG' : j < Γ.length := by decide) (hio : I i = 0 := by rfl) (hio' : I j = 0 := by rfl) (hf : X.fn x = true ∨ X.env.scope.names.lookup x = some .local := by first | exact .inl rfl | exact .inr rfl)
    (hf' : X.fn y = true ∨ X.env.scope.names.lookup y = some .local := by first | exact .inl rfl | exact .inr rfl) (hn : (assignEach [.Name x p1, .Name y p2] X.env).length = 2 := by rfl) (hst : (assignEach [.Name x p1, .Name y p2] X.env).findIdx? (·.1) = none := by rfl)
    (hs1 : (assignEach [.Name x p1, .Name y p2] X.env).map (·.2) = assign (.Name x p1) X.env :: (assignEach [.Name y p2] X.env).map (·.2) := by rfl) (hs2 : (assignEach [.Name y p2] X.env).map (·.2) = assign (.Name y p2) X.env :: (assignEach [] X.env).map (·.2) := by rfl) (hK : X.K = K := by rfl) :
    Gv X I Γ (.Tuple [.Name x p1, .Name y p2] kk pos) ((Γ.set i 0).set j 0) (gSet2 i j) [i, j] (gTup K 2 (gCons (gName i) (gCons (gName j) gNil))) := by
  subst hK
  exact gv_two hc hN hi hj hx hy hG hG' hio hio' hf hf' hn hst hs1 hs2
/-- a, b, c = an item -/
def gSet3 (i j l : Nat) : D → Store → Option Store := fun d ρ => match d with
  | .tup [x, y, z] => some (((ρ.set i (some x)).set j (some y)).set l (some z))
  | _ => none
theorem set_sh {E : Entry} {ρ : Store} {σ : St} {H : Hp} {Φ : Nat → List Addr} (R : StR K E Γ ρ σ H Φ) {i : Nat} {d : D} {v : V} (o : Own K H (fun a => ∀ j, a ∉ Φ j) 0 d v []) (hG : i < Γ.length) (hi : E.io i = 0) : StR K E (Γ.set i 0) (ρ.set i (some d)) (σ.set i (some v)) H (fun j => if j = i then [] else Φ j) :=
  R.set (Ψ := []) ⟨.rfl' _, fun a m => (nomatch m), .nil, o.move (fun a o e _ => e) (fun a o e z => ⟨e, List.not_mem_nil, fun j _ => z j⟩) fun a m => (nomatch m)⟩ hG hi
theorem own_less {H : Hp} {Φ : Nat → List Addr} {i : Nat} {d : D} {v : V} (o : Own K H (fun a => ∀ j, a ∉ Φ j) 0 d v []) : Own K H (fun a => ∀ j, a ∉ (if j = i then [] else Φ j)) 0 d v [] :=
  o.move (fun a o e _ => e) (fun a o e z => ⟨e, fun j m => by
    split at m
    · cases m
    · exact z j m⟩) fun a m => (nomatch m)
theorem sdg_three {i j l : Nat} (hG : i < Γ.length) (hG' : j < Γ.length) (hG2 : l < Γ.length) (hi : I i = 0) (hj : I j = 0) (hl : I l = 0) : SdG K I Γ (gTup K 3 (gCons (gName i) (gCons (gName j) (gCons (gName l) gNil)))) (((Γ.set i 0).set j 0).set l 0) (gSet3 i j l) [i, j, l] := by
  refine ⟨fun {E ρ σ H Φ} hI R d v o ρ' e Q q => ?_⟩
  unfold gSet3 at e
  split at e
  · rename_i x y z
    cases e
    obtain ⟨a, vs, rfl, hs, hl'⟩ := o.tup_inv
    obtain ⟨v1, vs1, rfl, h1, hl'⟩ := hl'.cons_inv0
    obtain ⟨v2, vs2, rfl, h2, hl'⟩ := hl'.cons_inv0
    obtain ⟨v3, vs3, rfl, h3, hl'⟩ := hl'.cons_inv0
    obtain rfl := hl'.nil_inv
    refine ⟨a, [v1, v2, v3], rfl, hs, rfl, v1, [v2, v3], rfl, v2, [v3], rfl, v3, [], rfl, rfl, ?_⟩
    have R1 := set_sh R h1 hG (by rw [hI]; exact hi)
    have R2 := set_sh R1 (own_less h2) (by rw [List.length_set]; exact hG') (by rw [hI]; exact hj)
    have R3 := set_sh R2 (own_less (own_less h3)) (by rw [List.length_set, List.length_set]; exact hG2) (by rw [hI]; exact hl)
    refine q _ _ R3 ⟨fun k n => ?_, by rw [List.length_set, List.length_set, List.length_set]⟩ fun k n => ?_
    · have n1 : j ≠ k := fun e => n (by rw [e]; exact List.mem_cons_of_mem _ List.mem_cons_self)
      have n2 : i ≠ k := fun e => n (by rw [e]; exact List.mem_cons_self)
      have n3 : l ≠ k := fun e => n (by rw [e]; exact List.mem_cons_of_mem _ (List.mem_cons_of_mem _ (List.mem_singleton.mpr rfl)))
      rw [List.getElem?_set_ne n3, List.getElem?_set_ne n1, List.getElem?_set_ne n2]
    · have n1 : k ≠ j := fun e => n (by rw [e]; exact List.mem_cons_of_mem _ List.mem_cons_self)
      have n2 : k ≠ i := fun e => n (by rw [e]; exact List.mem_cons_self)
      have n3 : k ≠ l := fun e => n (by rw [e]; exact List.mem_cons_of_mem _ (List.mem_cons_of_mem _ (List.mem_singleton.mpr rfl)))
      show (if k = l then [] else if k = j then [] else if k = i then [] else Φ k) = Φ k
      rw [if_neg n3, if_neg n1, if_neg n2]
  · cases e
theorem g_three (i j l : Nat) {x y z : Str} {p1 p2 p3 : Pos} {kk : Nat} (hN : X.N.Nodup) (hc : X.calm = true := by rfl) (hi : X.N[i]? = some x := by rfl) (hj : X.N[j]? = some y := by rfl) (hl : X.N[l]? = some z := by rfl) (hx : Loc X.env.scope x := by first | exact Or.inl rfl | exact Or.inr rfl) (hy : Loc X.env.scope y := by first | exact Or.inl rfl | exact Or.inr rfl) (hz : Loc X.env.scope z := by first | exact Or.inl rfl | exact Or.inr rfl)
    (hG : i < Γ.length := by decide) (hG' : j < Γ.length := by decide) (hG2 : l < Γ.length := by decide) (hio : I i = 0 := by rfl) (hio' : I j = 0 := by rfl) (hio2 : I l = 0 := by rfl) (hf : X.fn x = true ∨ X.env.scope.names.lookup x = some .local := by first | exact .inl rfl | exact .inr rfl)
    (hf' : X.fn y = true ∨ X.env.scope.names.lookup y = some .local := by first | exact .inl rfl | exact .inr rfl) (hf2 : X.fn z = true ∨ X.env.scope.names.lookup z = some .local := by first | exact .inl rfl | exact .inr rfl) (hn : (assignEach [.Name x p1, .Name y p2, .Name z p3] X.env).length = 3 := by rfl) (hst : (assignEach [.Name x p1, .Name y p2, .Name z p3] X.env).findIdx? (·.1) = none := by rfl)
    (hs1 : (assignEach [.Name x p1, .Name y p2, .Name z p3] X.env).map (·.2) = assign (.Name x p1) X.env :: (assignEach [.Name y p2, .Name z p3] X.env).map (·.2) := by rfl) (hs2 : (assignEach [.Name y p2, .Name z p3] X.env).map (·.2) = assign (.Name y p2) X.env :: (assignEach [.Name z p3] X.env).map (·.2) := by rfl) (hs3 : (assignEach [.Name z p3] X.env).map (·.2) = assign (.Name z p3) X.env :: (assignEach [] X.env).map (·.2) := by rfl) (hK : X.K = K := by rfl) :
    Gv X I Γ (.Tuple [.Name x p1, .Name y p2, .Name z p3] kk pos) (((Γ.set i 0).set j 0).set l 0) (gSet3 i j l) [i, j, l] (gTup K 3 (gCons (gName i) (gCons (gName j) (gCons (gName l) gNil)))) := by
  subst hK
  exact ⟨pg_tup hc (pgs_cons (pg_name hN hi hx hf) (pgs_cons (pg_name hN hj hy hf') (pgs_cons (pg_name hN hl hz hf2) pgs_nil hs3) hs2) hs1) hn hst, sdg_three hG hG' hG2 hio hio' hio2⟩
/-- a, b = e -/
def sUnp (f : Store → Option D) (g : D → Store → Option Store) : Store → Option O := fun ρ => match f ρ with
  | some d => (match g d ρ with
    | some ρ' => some (.nx ρ')
    | none => none)
  | none => none
theorem sd_unp {g : TG} {gf : D → Store → Option Store} {is : List Nat} (h : SdE K Γ te m [] f) (hg : SdG K I Γ g Γ' gf is) : SdS K W I r Γ Γb Γ' (tAsg te g) (sUnp f gf) := by
  refine ⟨fun {E ρ σ H Φ} hI R o e D q => ?_⟩
  unfold sUnp at e
  split at e
  · rename_i d e1
    split at e
    · rename_i ρ' e2
      cases e
      refine h.sh R e1 _ fun v H1 x o => ?_
      exact hg.run hI (R.ext x) (own_live o) e2 _ fun σ' Φ' R' _ _ => q _ _ _ R'
    · cases e
  · cases e
theorem s_unp {g : TG} {gf : D → Store → Option Store} {is : List Nat} (he : Ev X Γ e m [] f te) (hg : Gv X I Γ tg Γ' gf is g) (hs : swapsWithSole [tg] e pos.line X.env = pure false := by rfl) (hw : swappedStores [tg] e X.env = pure none := by rfl)
    (h1 : (assignEach [tg] X.env).map (·.2) = [assign tg X.env] := by rfl) : Sv X W I r Γ Γb (.Assign [tg] e pos) Γ' (sUnp f gf) (tAsg te g) := ⟨ps_asg he.pe hg.pg hs hw h1, sd_unp he.sd hg.sd⟩
/-! ### x.index(y): a list of flat items -/
def gIdx : D → D → Option D
  | .lst ds, y => if y.fl = true ∧ ds.all D.fl = true then (match ds.findIdx? fun z => eqV z.toV y.toV with | some j => some (.int j) | none => none) else none
  | _, _ => none
end
end VL

/-! VL21: x[i] = e, x a slot's own list. -/
namespace VL
open PySem PySem.Spec L2
open PyProof.Rows hiding St
section
variable {X : Cx} {K : PySem.W.Frag} {Γ : List Nat} {W : WX} {I : Nat → Nat} {r k m m1 m2 : Nat} {Γb Γ' : List Nat} {e a b ei : Expr} {f fi : Store → Option D} {te ti : TE} {pos p : Pos}
theorem OwnL.setAt0 {H : Hp} {N : Addr → Prop} {d : D} {v : V} (o : Own K H N 0 d v []) : ∀ {ds : List D} {vs : List V} {fp : List Addr}, OwnL K H N 0 ds vs fp → ∀ j, OwnL K H N 0 (ds.set j d) (vs.set j v) []
  | _, _, _, .nil, _ => .nil
  | _, _, _, .cons h l, 0 => by
    have := l.fp0 rfl
    subst this
    exact .cons (fp := []) (fps := []) o l
  | _, _, _, .cons h l, j + 1 => by
    have h0 := h.fp0 rfl
    subst h0
    exact .cons (fp := []) (fps := []) h (OwnL.setAt0 o l j)
def sSetI (i : Nat) (f fi : Store → Option D) : Store → Option O := fun ρ => match f ρ with
  | some d => (match eVar i ρ with
    | some (.lst ds) => (match fi ρ with
      | some (.int z) => (match ixN ds.length z with
        | some j => some (.nx (ρ.set i (some (.lst (ds.set j d)))))
        | none => none)
      | _ => none)
    | _ => none)
  | none => none
theorem sd_setI {i : Nat} (hm : Γ.getD i 0 = 1) (h : SdE K Γ te m1 [] f) (hi : SdE K Γ ti m2 [] fi) : SdS K W I r Γ Γb Γ (tAsg te (L2.gSub (tVar i) ti rSetL)) (sSetI i f fi) := by
  refine ⟨fun {E ρ σ H Φ} hI R o e D q => ?_⟩
  unfold sSetI at e
  split at e
  · rename_i d e1
    split at e
    · rename_i ds e0
      split at e
      · rename_i z e2
        split at e
        · rename_i j ej
          cases e
          refine h.sh R e1 _ fun v H1 x ov => ?_
          have R1 := R.ext x
          obtain ⟨w, h1, h2⟩ := R1.val i _ (eVar_some e0)
          obtain ⟨_, l, vs0, _, _, rfl, _, hl0, _⟩ := h2.lst_inv (by rw [hm]; decide)
          refine ⟨_, h1, ?_⟩
          refine hi.sh R1 e2 _ fun y H2 x2 oy => ?_
          cases oy
          have R2 := R1.ext x2
          obtain ⟨w, h1', h2⟩ := R2.val i _ (eVar_some e0)
          rw [h1] at h1'
          cases h1'
          obtain ⟨k', l', vs, fp, ek, el, efp, hl, lo⟩ := h2.lst_inv (by rw [hm]; decide)
          cases el
          rw [hm] at ek
          cases ek
          have fp0 := lo.fp0 rfl
          subst fp0
          refine ⟨l, vs, z, j, rfl, rfl, hl, by rw [lo.len]; exact ej, ?_⟩
          have st : ∀ a o, H2 a = some o → a ≠ l → upd H2 l (.lst (vs.set j v)) a = some o := fun a o e n => by rw [upd_ne n]; exact e
          have lΦ : l ∈ Φ i := by rw [efp]; exact List.mem_cons_self
          have tup1 : ∀ a o, H2 a = some o → ¬ notTup o → a ≠ l := fun a o e t z => by subst z; rw [hl] at e; cases e; exact t trivial
          have ov2 : Own K H2 (fun a => ∀ j, a ∉ Φ j) 0 d v [] := ov.move (fun a o e _ => x2 a o e) (fun a o e z => ⟨x2 a o e, fun j => z.2 j List.not_mem_nil⟩) fun a m => (nomatch m)
          have nn : ∀ a, (∀ j, a ∉ Φ j) → a ≠ l := fun a z z' => z i (by rw [z']; exact lΦ)
          refine q _ _ _ (R2.mut (i := i) (v := .ref l) (Ψ := [l]) h1 (by rw [hm]; decide) (fun a o e n => st a o e fun z => n (by rw [z]; exact lΦ)) (fun a o e => by
            by_cases z : a = l
            · subst z; exact ⟨_, upd_same⟩
            · exact ⟨o, st a o e z⟩) ?_ (List.nodup_cons.mpr ⟨List.not_mem_nil, .nil⟩) (fun a m => by rw [List.mem_singleton.mp m]; exact .inl lΦ))
          rw [hm]
          exact .lst (fp := []) upd_same ((OwnL.setAt0 ov2 lo j).move (fun a o e t => st a o e (tup1 a o e t)) (fun a o e z => ⟨st a o e (nn a z), fun m => nn a z (List.mem_singleton.mp m), fun j _ => z j⟩) fun a m => (nomatch m))
        · cases e
      · cases e
    · cases e
  · cases e
theorem s_seti (i : Nat) {x : Str} {pn pt : Pos} (he : Ev X Γ e m1 [] f te) (hi : Ev X Γ ei m2 [] fi ti) (hN : X.N[i]? = some x := by rfl) (hv : Vis X.env.scope x := by first | exact Or.inl rfl | exact Or.inr (Or.inl rfl) | exact Or.inr (Or.inr rfl)) (hm : Γ.getD i 0 = 1 := by rfl)
    (ha : ∀ v, assign (.Subscript (.Name x pn) ei pt) X.env v = (do
      let ov ← holding [v] (eval (.Name x pn) X.env)
      let iv ← holding [v, ov] (eval ei X.env)
      standAt pt
      holding [v, ov, iv] (setItem ov iv v)
      release [v, ov, iv] []) := by intro _; rfl)
    (hs : swapsWithSole [.Subscript (.Name x pn) ei pt] e pos.line X.env = pure false := by rfl) (hw : swappedStores [.Subscript (.Name x pn) ei pt] e X.env = pure none := by rfl) (h1 : (assignEach [.Subscript (.Name x pn) ei pt] X.env).map (·.2) = [assign (.Subscript (.Name x pn) ei pt) X.env] := by rfl)
    (hd : (x == ("__debug__" : Str)) = false := by decide) (hcd : (x == ("__classdict__" : Str)) = false := by decide) :
    Sv X W I r Γ Γb (.Assign [.Subscript (.Name x pn) ei pt] e pos) Γ (sSetI i f fi) (tAsg te (L2.gSub (tVar i) ti rSetL)) :=
  ⟨ps_asg he.pe (pg_sub (pe_var hN hv hd hcd) hi.pe set_list ha) hs hw h1, sd_setI hm he.sd hi.sd⟩
theorem setI_ok {ρ : Store} {i j : Nat} {z : Int} {d : D} {ds : List D} {ρ' : Store} (h1 : f ρ = some d) (h2 : eVar i ρ = some (.lst ds)) (h3 : fi ρ = some (.int z)) (h4 : z = j ∧ j < ds.length := by exact ⟨rfl, by omega⟩) (h5 : ρ.set i (some (.lst (ds.set j d))) = ρ') : sSetI i f fi ρ = some (.nx ρ') := by
  unfold sSetI
  obtain ⟨rfl, h4⟩ := h4
  simp only [h1, h2, h3]
  have : ixN ds.length (j : Int) = some j := by
    unfold ixN
    rw [if_pos (Int.natCast_nonneg _), if_pos (by omega), Int.toNat_natCast]
  simp only [this, h5]
end
end VL

/-! VL22: tests by their parts; more plain steps. -/
namespace VL
open PySem
section
variable {p q : Store → Option Bool} {ρ : Store} {a b : Bool} {F G : Store → Option O}
theorem bAnd_ok (h1 : p ρ = some a) (h2 : a = true → q ρ = some b) : bAnd p q ρ = some (a && b) := by
  rw [s_bAnd, h1]
  cases a
  · rfl
  · exact h2 rfl
theorem bOr_ok (h1 : p ρ = some a) (h2 : a = false → q ρ = some b) : bOr p q ρ = some (a || b) := by
  rw [s_bOr, h1]
  cases a
  · exact h2 rfl
  · rfl
theorem bNot_ok (h1 : p ρ = some a) : bNot p ρ = some (!a) := by
  rw [s_bNot, h1]
theorem r1_nat {fa : Store → Option (List D)} {n : Nat} (h : fa ρ = some [.int n]) (hn : n < 1000000000) : iR1 fa ρ = some (ups 0 n) := by
  have := r1_ok h (by omega) (by omega)
  rwa [Int.toNat_natCast] at this
@[simp] theorem t_ii {i : Int} : isT "int" (.int i) = some true := id rfl
@[simp] theorem t_bi {i : Int} : isT "bool" (.int i) = some false := id rfl
@[simp] theorem t_ib {b : Bool} : isT "int" (.bl b) = some true := id rfl
@[simp] theorem t_bb {b : Bool} : isT "bool" (.bl b) = some true := id rfl
@[simp] theorem t_tt {ds : List D} : isT "tuple" (.tup ds) = some true := id rfl
@[simp] theorem t_ll {ds : List D} : isT "list" (.lst ds) = some true := id rfl
@[simp] theorem t_ss {x : Str} : isT "str" (.str x) = some true := id rfl
theorem ups0 {n : Nat} : ups 0 n = (List.range n).map fun i : Nat => D.int (i : Int) := by
  unfold ups
  exact List.map_congr_left fun i _ => by rw [Int.zero_add]
section
variable {g : D → Store → Option Store} {n : Nat}
/-- for i in range(n) -/
theorem forD_rng (P : Nat → Store → Prop) (st : ∀ (j : Nat), j < n → ∀ (ρ : Store), P j ρ → ∃ ρ1 ρ2, g (.int j) ρ = some ρ1 ∧ (F ρ1 = some (.nx ρ2) ∨ F ρ1 = some (.ct ρ2)) ∧ P (j + 1) ρ2) {ρ : Store} (p : P 0 ρ) : ∃ ρ', forD g F (ups 0 n) ρ = some (.nx ρ') ∧ P n ρ' :=
  forD_ups P (fun j h ρ p => by rw [Int.zero_add]; exact st j h ρ p) p
variable {vs : List Nat} {it : Store → Option (List D)} {f : Store → Option D} {γ : Nat → Store}
theorem lcI_rng {q : Nat → Bool} {h : Nat → Int} (hi : it ρ = some (ups 0 n)) (hl : n < 16777216) (st : ∀ i : Nat, i < n → g (.int i) (wipeD ρ vs) = some (γ i) ∧ p (γ i) = some (q i) ∧ (q i = true → f (γ i) = some (.int (h i)))) : eLc vs it g p f ρ = some (.lst ((((List.range n).filter q).map h).map .int)) :=
  lcI_ups hi hl fun i h => by rw [Int.zero_add]; exact st i h
theorem lcI_rngA {h : Nat → Int} (hi : it ρ = some (ups 0 n)) (hl : n < 16777216) (st : ∀ i : Nat, i < n → g (.int i) (wipeD ρ vs) = some (γ i) ∧ p (γ i) = some true ∧ f (γ i) = some (.int (h i))) : eLc vs it g p f ρ = some (.lst (((List.range n).map h).map .int)) :=
  lcI_upsA hi hl fun i h => by rw [Int.zero_add]; exact st i h
theorem lcA_rng {h : Nat → D} (hi : it ρ = some (ups 0 n)) (hl : n < 16777216) (st : ∀ i : Nat, i < n → g (.int i) (wipeD ρ vs) = some (γ i) ∧ p (γ i) = some true ∧ f (γ i) = some (h i)) : eLc vs it g p f ρ = some (.lst ((List.range n).map h)) :=
  lcA_ups hi hl fun i h => by rw [Int.zero_add]; exact st i h
/-- any items, some of them left out -/
theorem lcA_map {α : Type} {k : α → D} {xs : List α} {γ : α → Store} {q : α → Bool} {h : α → D} (hi : it ρ = some (xs.map k)) (hl : xs.length < 16777216) (st : ∀ x ∈ xs, g (k x) (wipeD ρ vs) = some (γ x) ∧ p (γ x) = some (q x) ∧ (q x = true → f (γ x) = some (h x))) : eLc vs it g p f ρ = some (.lst ((xs.filter q).map h)) :=
  eLc_ok hi (by rw [List.length_map]; exact hl) (lc_map st)
theorem lcA_rngF {q : Nat → Bool} {h : Nat → D} (hi : it ρ = some (ups 0 n)) (hl : n < 16777216) (st : ∀ i : Nat, i < n → g (.int i) (wipeD ρ vs) = some (γ i) ∧ p (γ i) = some (q i) ∧ (q i = true → f (γ i) = some (h i))) : eLc vs it g p f ρ = some (.lst (((List.range n).filter q).map h)) :=
  lcA_map (k := fun i : Nat => D.int (i : Int)) (hi.trans (by rw [ups0])) (by rw [List.length_range]; exact hl) fun x m => st x (List.mem_range.mp m)
end
section
variable {f : Store → Option D} {fa : Store → Option (List D)} {d : D} {ds : List D} {n : Nat} {h : List D → Option D}
theorem clr_ok (e : f ρ = some d) (i : d.immB n = true) : eClr n f ρ = some d := by
  unfold eClr
  rw [e]
  exact if_pos i
theorem call_ok (e : fa ρ = some ds) (e' : h ds = some d) : eCall h fa ρ = some d := by rw [s_eCall, e]; exact e'
theorem callF_ok (e : fa ρ = some ds) (hn : ds.length = n) (e' : h ds = some d) : eCall (callF n [] h) fa ρ = some d := by
  rw [s_eCall, e]
  show callF n [] h ds = some d
  rw [s_callF, List.append_nil, if_pos hn]
  exact e'
theorem len_ok (e : f ρ = some (.lst ds)) (hn : ds.length = n) : eCall gLen (aCons f aNil) ρ = some (.int n) := by
  rw [s_eCall, s_aCons, e, ← hn]; rfl
theorem sum_ok {xs : List Int} (e : f ρ = some (.lst (xs.map .int))) : eCall gSum (aCons f aNil) ρ = some (.int xs.sum) := by
  rw [s_eCall, s_aCons, e]; exact s_sum
theorem tuple_ok (e : f ρ = some (.lst ds)) : eCall gTuple (aCons f aNil) ρ = some (.tup ds) := by
  rw [s_eCall, s_aCons, e]; rfl
end
theorem dec_iff {P Q : Prop} [Decidable P] [Decidable Q] (h : P ↔ Q) : some (decide P) = some (decide Q) := by rw [decide_eq_decide.mpr h]
end
end VL

/-! VL23: x = y for a slot's own; x = x + e of a slot's own; what is never reached; sum and max of tuples; sorted of ints; x.index(y) of lists. -/
namespace VL
open PySem PySem.Spec L2
open PyProof.Rows hiding St
section
variable {K : PySem.W.Frag} {E : Entry} {Γ : List Nat} {ρ : Store} {σ : St} {H H2 : Hp} {Φ : Nat → List Addr}
/-- a slot is given what it owned in part, and what is new -/
theorem StR.put {i m : Nat} {d : D} {v : V} {Ψ : List Addr} (R : StR K E Γ ρ σ H Φ) (x : Ext H H2) (own : Own K H2 (fun a => a ∉ Ψ ∧ ∀ j, j ≠ i → a ∉ Φ j) m d v Ψ) (nd : Ψ.Nodup) (src : ∀ a ∈ Ψ, a ∈ Φ i ∨ H a = none) (hG : i < Γ.length) (hi : E.io i = 0) :
    StR K E (Γ.set i m) (ρ.set i (some d)) (σ.set i (some v)) H2 (fun j => if j = i then Ψ else Φ j) := by
  have R' := R.ext x
  have gne : ∀ j, j ≠ i → (Γ.set i m).getD j 0 = Γ.getD j 0 := fun j n => by
    rw [List.getD_eq_getElem?_getD, List.getD_eq_getElem?_getD, List.getElem?_set_ne (Ne.symm n)]
  have geq : (Γ.set i m).getD i 0 = m := by
    rw [List.getD_eq_getElem?_getD, List.getElem?_set_self hG]; rfl
  have nΨ : ∀ j, j ≠ i → ∀ a, a ∈ Φ j → a ∉ Ψ := fun j n a m m' => by
    rcases src a m' with z | z
    · exact n (R.dj j i a m z)
    · exact R.notIn z j m
  have up : ∀ a o, H a = some o → (∀ j, a ∉ Φ j) → ∀ k, a ∉ (if k = i then Ψ else Φ k) := fun a o e z k => by
    split
    · intro m'
      rcases src a m' with q | q
      · exact z i q
      · rw [e] at q; cases q
    · exact z k
  refine ⟨by rw [List.length_set, List.length_set]; exact R.len, by rw [List.length_set, List.length_set]; exact R.gl, fun j d' e => ?_, fun j lj e => ?_, fun j => ?_, fun j k a h1 h2 => ?_, fun j a h => ?_, fun j a h => ?_, R'.kp, R'.dm, fun j n => ?_, fun p m => (R.gh p m).move (fun a o e _ => x a o e) (fun a o e z => ⟨x a o e, up a o e z⟩) fun a m => (nomatch m)⟩
  · by_cases hj : j = i
    · subst hj
      by_cases hl : j < ρ.length
      · rw [List.getElem?_set_self hl] at e
        cases e
        refine ⟨v, List.getElem?_set_self (by rw [R.len]; exact hl), ?_⟩
        rw [geq, if_pos rfl]
        refine own.move (fun a o e _ => e) (fun a o e z => ⟨e, fun k => ?_⟩) fun a _ o e => e
        split
        · exact z.1
        · rename_i nk; exact z.2 k nk
      · rw [List.getElem?_eq_none (by rw [List.length_set]; omega)] at e; cases e
    · rw [List.getElem?_set_ne (Ne.symm hj)] at e
      obtain ⟨v', h1, h2⟩ := R.val j d' e
      refine ⟨v', by rw [List.getElem?_set_ne (Ne.symm hj)]; exact h1, ?_⟩
      rw [gne j hj, if_neg hj]
      exact h2.move (fun a o e _ => x a o e) (fun a o e z => ⟨x a o e, up a o e z⟩) fun a _ o e => x a o e
  · show (if j = i then Ψ else Φ j) = []
    by_cases hj : j = i
    · subst hj
      rw [geq] at e
      subst e
      rw [if_pos rfl]
      exact own.fp0 rfl
    · rw [gne j hj] at e
      rw [if_neg hj]
      exact R.em j (by rw [List.length_set] at lj; exact lj) e
  · show (if j = i then Ψ else Φ j).Nodup
    split
    · exact nd
    · exact R.nd j
  · have h1 : a ∈ (if j = i then Ψ else Φ j) := h1
    have h2 : a ∈ (if k = i then Ψ else Φ k) := h2
    split at h1
    · split at h2
      · rename_i a b; rw [a, b]
      · rename_i nk; exact absurd h1 (nΨ k nk a h2)
    · split at h2
      · rename_i nj _; exact absurd h2 (nΨ j nj a h1)
      · exact R.dj j k a h1 h2
  · have h : a ∈ (if j = i then Ψ else Φ j) := h
    split at h
    · exact own.live a h
    · exact R'.lv j a h
  · have h : a ∈ (if j = i then Ψ else Φ j) := h
    split at h
    · rcases src a h with z | z
      · rename_i ej; rw [ej]; exact R.nw i a z
      · exact .inl (R.fresh z)
    · exact R.nw j a h
  · by_cases hj : j = i
    · subst hj; exact absurd hi n
    · rw [List.getElem?_set_ne (Ne.symm hj)]
      exact R.iv j n
/-- what slot j holds goes to slot i; j is given up -/
theorem StR.give {i j : Nat} {d : D} {v : V} (R : StR K E Γ ρ σ H Φ) (hij : i ≠ j) (hd : ρ[j]? = some (some d)) (hv : σ[j]? = some (some v)) (o : Own K H (fun a => ∀ k, a ∉ Φ k) (Γ.getD j 0) d v (Φ j)) (hG : i < Γ.length) (hGj : j < Γ.length) (hi : E.io i = 0) (hj : E.io j = 0) :
    StR K E ((Γ.set i (Γ.getD j 0)).set j 0) ((ρ.set i (some d)).set j none) (σ.set i (some v)) H (fun k => if k = i then Φ j else if k = j then [] else Φ k) := by
  have up : ∀ a, (∀ k, a ∉ Φ k) → ∀ k, a ∉ (if k = i then Φ j else if k = j then [] else Φ k) := fun a z k => by
    split
    · exact z j
    · split
      · exact List.not_mem_nil
      · exact z k
  have sub : ∀ k a, a ∈ (if k = i then Φ j else if k = j then [] else Φ k) → (k = i ∧ a ∈ Φ j) ∨ (k ≠ i ∧ k ≠ j ∧ a ∈ Φ k) := fun k a m => by
    split at m
    · rename_i e; exact .inl ⟨e, m⟩
    · split at m
      · cases m
      · rename_i n1 n2; exact .inr ⟨n1, n2, m⟩
  have g : ∀ k, ((Γ.set i (Γ.getD j 0)).set j 0).getD k 0 = if k = j then 0 else if k = i then Γ.getD j 0 else Γ.getD k 0 := fun k => by
    rw [List.getD_eq_getElem?_getD]
    by_cases e : k = j
    · subst e
      rw [List.getElem?_set_self (by rw [List.length_set]; exact hGj), if_pos rfl]; rfl
    · rw [if_neg e, List.getElem?_set_ne (Ne.symm e)]
      by_cases e2 : k = i
      · subst e2
        rw [List.getElem?_set_self hG, if_pos rfl]; rfl
      · rw [if_neg e2, List.getElem?_set_ne (Ne.symm e2), List.getD_eq_getElem?_getD]
  refine ⟨by rw [List.length_set, List.length_set, List.length_set]; exact R.len, by rw [List.length_set, List.length_set, List.length_set, List.length_set]; exact R.gl, fun k d' e => ?_, fun k lk e => ?_, fun k => ?_, fun k l a h1 h2 => ?_, fun k a h => ?_, fun k a h => ?_, R.kp, R.dm, fun k n => ?_, fun p m => (R.gh p m).move (fun a o e _ => e) (fun a o e z => ⟨e, up a z⟩) fun a m => (nomatch m)⟩
  · by_cases ej : k = j
    · subst ej
      by_cases hl : k < ρ.length
      · rw [List.getElem?_set_self (by rw [List.length_set]; exact hl)] at e; cases e
      · rw [List.getElem?_eq_none (by rw [List.length_set, List.length_set]; omega)] at e; cases e
    · rw [List.getElem?_set_ne (Ne.symm ej)] at e
      by_cases ei : k = i
      · subst ei
        by_cases hl : k < ρ.length
        · rw [List.getElem?_set_self hl] at e
          cases e
          refine ⟨v, List.getElem?_set_self (by rw [R.len]; exact hl), ?_⟩
          rw [g, if_neg ej, if_pos rfl, if_pos rfl]
          exact o.move (fun a o e _ => e) (fun a o e z => ⟨e, up a z⟩) fun a _ o e => e
        · rw [List.getElem?_eq_none (by rw [List.length_set]; omega)] at e; cases e
      · rw [List.getElem?_set_ne (Ne.symm ei)] at e
        obtain ⟨v', h1, h2⟩ := R.val k d' e
        refine ⟨v', by rw [List.getElem?_set_ne (Ne.symm ei)]; exact h1, ?_⟩
        rw [g, if_neg ej, if_neg ei, if_neg ei, if_neg ej]
        exact h2.move (fun a o e _ => e) (fun a o e z => ⟨e, up a z⟩) fun a _ o e => e
  · rw [List.length_set, List.length_set] at lk
    rw [g] at e
    show (if k = i then Φ j else if k = j then [] else Φ k) = []
    by_cases ei : k = i
    · subst ei
      rw [if_pos rfl]
      rw [if_neg hij, if_pos rfl] at e
      exact R.em j (lt_of_some hd) e
    · rw [if_neg ei]
      by_cases ej : k = j
      · rw [if_pos ej]
      · rw [if_neg ej]
        rw [if_neg ej, if_neg ei] at e
        exact R.em k lk e
  · show (if k = i then Φ j else if k = j then [] else Φ k).Nodup
    split
    · exact R.nd j
    · split
      · exact .nil
      · exact R.nd k
  · rcases sub k a h1 with ⟨e1, h1⟩ | ⟨n1, n2, h1⟩
    · rcases sub l a h2 with ⟨e2, h2⟩ | ⟨n3, n4, h2⟩
      · rw [e1, e2]
      · exact absurd (R.dj l j a h2 h1) n4
    · rcases sub l a h2 with ⟨e2, h2⟩ | ⟨n3, n4, h2⟩
      · exact absurd (R.dj k j a h1 h2) n2
      · exact R.dj k l a h1 h2
  · rcases sub k a h with ⟨_, h⟩ | ⟨_, _, h⟩
    · exact R.lv j a h
    · exact R.lv k a h
  · rcases sub k a h with ⟨_, h⟩ | ⟨_, _, h⟩
    · rcases R.nw j a h with z | ⟨z, _⟩
      · exact .inl z
      · exact absurd hj z
    · exact R.nw k a h
  · have : k ≠ i := fun e => by subst e; exact n hi
    rw [List.getElem?_set_ne (Ne.symm this)]
    exact R.iv k n
end
section
variable {X : Cx} {K : PySem.W.Frag} {Γ : List Nat} {W : WX} {I : Nat → Nat} {r k m m1 m2 : Nat} {Γb Γ' : List Nat} {B B1 B2 : List Nat} {e a b tg : Expr} {f f1 f2 : Store → Option D} {te t t1 t2 : TE} {pos p : Pos}
/-- x = y, y given up -/
def sGive (i j : Nat) : Store → Option O := fun ρ => match eVar j ρ with
  | some d => some (.nx ((ρ.set i (some d)).set j none))
  | none => none
theorem sd_give {i j : Nat} (hij : i ≠ j) (hG : i < Γ.length) (hGj : j < Γ.length) (hi : I i = 0) (hj : I j = 0) : SdS K W I r Γ Γb ((Γ.set i (Γ.getD j 0)).set j 0) (tAsg (tVar j) (gName i)) (sGive i j) := by
  refine ⟨fun {E ρ σ H Φ} hI R o e D q => ?_⟩
  unfold sGive at e
  split at e
  · rename_i d e1
    cases e
    obtain ⟨v, h1, h2⟩ := R.val j d (eVar_some e1)
    exact ⟨v, h1, q _ _ _ (R.give hij (eVar_some e1) h1 h2 hG hGj (by rw [hI]; exact hi) (by rw [hI]; exact hj))⟩
  · cases e
theorem s_give (i j : Nat) {x y : Str} {pos' py : Pos} (hN : X.N.Nodup) (hi : X.N[i]? = some x := by rfl) (hj : X.N[j]? = some y := by rfl) (hx : Loc X.env.scope x := by first | exact Or.inl rfl | exact Or.inr rfl) (hv : Vis X.env.scope y := by first | exact Or.inl rfl | exact Or.inr (Or.inl rfl) | exact Or.inr (Or.inr rfl)) (hij : i ≠ j := by decide) (hG : i < Γ.length := by decide) (hGj : j < Γ.length := by decide) (hio : I i = 0 := by rfl) (hjo : I j = 0 := by rfl)
    (hs : swapsWith (.Name y py) (some (.Name x pos')) pos.line X.env = pure false := by rfl) (hf : X.fn x = true ∨ X.env.scope.names.lookup x = some .local := by first | exact .inl rfl | exact .inr rfl) (hd : (y == ("__debug__" : Str)) = false := by decide) (hcd : (y == ("__classdict__" : Str)) = false := by decide) :
    Sv X W I r Γ Γb (.Assign [.Name x pos'] (.Name y py) pos) ((Γ.set i (Γ.getD j 0)).set j 0) (sGive i j) (tAsg (tVar j) (gName i)) := ⟨ps_set hN hi hx (pe_var hj hv hd hcd) hs hf, sd_give hij hG hGj hio hjo⟩
theorem give_ok {ρ : Store} {i j : Nat} {d : D} (h : eVar j ρ = some d) : sGive i j ρ = some (.nx ((ρ.set i (some d)).set j none)) := by unfold sGive; rw [h]
/-- x = x + e, x a slot's own list, whose items stay its own -/
def sCatO (i : Nat) (f : Store → Option D) : Store → Option O := fun ρ => match eVar i ρ with
  | some (.lst xs) => (match f ρ with
    | some (.lst ys) => if xs.length + ys.length ≤ sizeLine then some (.nx (ρ.set i (some (.lst (xs ++ ys))))) else none
    | _ => none)
  | _ => none
theorem sd_catO {i : Nat} (hm : Γ.getD i 0 = m + 1) (h : SdE K Γ te (m + 1) [] f) (hG : i < Γ.length) (hi : I i = 0) : SdS K W I r Γ Γb (Γ.set i (m + 1)) (tAsg (tOp (rCatS K) (tVar i) te) (gName i)) (sCatO i f) := by
  refine ⟨fun {E ρ σ H Φ} hI R o e D q => ?_⟩
  unfold sCatO at e
  split at e
  · rename_i xs e0
    split at e
    · rename_i ys e1
      split at e
      · rename_i hz
        cases e
        obtain ⟨v, h1, h2⟩ := R.val i _ (eVar_some e0)
        refine ⟨v, h1, ?_⟩
        refine h.run R _ e1 _ fun w H1 Ψ res => ?_
        have R1 := R.ext res.ext
        obtain ⟨k1, l, vs, fp, ek, rfl, efp, hl, lo⟩ := h2.lst_inv (by rw [hm]; exact Nat.succ_ne_zero _)
        rw [hm] at ek
        cases ek
        obtain ⟨k2, l2, us, fp2, ek2, rfl, efp2, hl2, lo2⟩ := res.own.lst_inv (Nat.succ_ne_zero _)
        cases ek2
        refine ⟨l, l2, vs, us, rfl, rfl, .inl (.inl (res.ext _ _ hl)), .inl (.inl hl2), by rw [lo.len, lo2.len]; exact hz, fun p hp => ?_⟩
        have x := ext_upd (o := .lst (vs ++ us)) hp
        have pΦ : ∀ j, p ∉ Φ j := fun j => R1.notIn hp j
        have pΨ : p ∉ Ψ := fun mm => by
          obtain ⟨o, e, _⟩ := res.own.live p mm
          rw [hp] at e; cases e
        have fpi : ∀ a ∈ fp, a ∈ Φ i := fun a mm => by rw [efp]; exact List.mem_cons_of_mem _ mm
        have fp2i : ∀ a ∈ fp2, a ∈ Ψ := fun a mm => by rw [efp2]; exact List.mem_cons_of_mem _ mm
        have ndi := R1.nd i
        rw [efp] at ndi
        have nd2 := res.nd
        rw [efp2] at nd2
        have dis : ∀ a ∈ fp, a ∉ fp2 := fun a m1 m2 => R.notIn (res.new a (fp2i a m2)) i (fpi a m1)
        refine q _ _ _ (R.put (i := i) (m := m + 1) (d := .lst (xs ++ ys)) (v := .ref p) (Ψ := p :: (fp ++ fp2)) (fun a o e => x a o (res.ext a o e)) ?_ ?_ ?_ hG (by rw [hI]; exact hi))
        · refine .lst upd_same (OwnL.app ?_ ?_)
          · refine lo.move (fun a o e _ => x a o (res.ext a o e)) (fun a o e z => ⟨x a o (res.ext a o e), fun mm => ?_, fun j n => z j⟩) fun a _ o e => x a o (res.ext a o e)
            rcases List.mem_cons.mp mm with z1 | mm
            · have := res.ext a o e
              rw [z1, hp] at this; cases this
            · rcases List.mem_append.mp mm with mm | mm
              · exact z i (fpi a mm)
              · rw [res.new a (fp2i a mm)] at e; cases e
          · refine lo2.move (fun a o e _ => x a o e) (fun a o e z => ⟨x a o e, fun mm => ?_, fun j n => z.2 j List.not_mem_nil⟩) fun a _ o e => x a o e
            rcases List.mem_cons.mp mm with z1 | mm
            · rw [z1, hp] at e; cases e
            · rcases List.mem_append.mp mm with mm | mm
              · exact z.2 i List.not_mem_nil (fpi a mm)
              · exact z.1 (fp2i a mm)
        · refine List.nodup_cons.mpr ⟨fun mm => ?_, List.nodup_append.mpr ⟨(List.nodup_cons.mp ndi).2, (List.nodup_cons.mp nd2).2, fun a m1 b m2 e => dis a m1 (e ▸ m2)⟩⟩
          rcases List.mem_append.mp mm with mm | mm
          · exact pΦ i (fpi p mm)
          · exact pΨ (fp2i p mm)
        · intro a mm
          rcases List.mem_cons.mp mm with z1 | mm
          · right
            cases e : H a with
            | none => rfl
            | some o => have := res.ext a o e; rw [z1, hp] at this; cases this
          · rcases List.mem_append.mp mm with mm | mm
            · exact .inl (fpi a mm)
            · exact .inr (res.new a (fp2i a mm))
      · cases e
    · cases e
  · cases e
theorem s_catO (i : Nat) {x : Str} {pos' px pb : Pos} (he : Ev X Γ e (m + 1) [] f te) (hm : Γ.getD i 0 = m + 1 := by rfl) (hN : X.N.Nodup) (hi : X.N[i]? = some x := by rfl) (hx : Loc X.env.scope x := by first | exact Or.inl rfl | exact Or.inr rfl) (hv : Vis X.env.scope x := by first | exact Or.inl rfl | exact Or.inr (Or.inl rfl) | exact Or.inr (Or.inr rfl)) (hG : i < Γ.length := by decide) (hio : I i = 0 := by rfl)
    (hs : swapsWith (.BinOp (.Name x px) .Add e pb) (some (.Name x pos')) pos.line X.env = pure false := by rfl) (hf : X.fn x = true ∨ X.env.scope.names.lookup x = some .local := by first | exact .inl rfl | exact .inr rfl) (hd : (x == ("__debug__" : Str)) = false := by decide) (hcd : (x == ("__classdict__" : Str)) = false := by decide) :
    Sv X W I r Γ Γb (.Assign [.Name x pos'] (.BinOp (.Name x px) .Add e pb) pos) (Γ.set i (m + 1)) (sCatO i f) (tAsg (tOp (rCatS X.K) (tVar i) te) (gName i)) := ⟨ps_set hN hi hx (pe_op op_catS (pe_var hi hv hd hcd) he.pe) hs hf, sd_catO hm he.sd hG hio⟩
theorem catO_ok {ρ : Store} {i : Nat} {xs ys : List D} (h : eVar i ρ = some (.lst xs)) (h2 : f ρ = some (.lst ys)) (hz : xs.length + ys.length ≤ 16777216) : sCatO i f ρ = some (.nx (ρ.set i (some (.lst (xs ++ ys))))) := by
  unfold sCatO
  simp only [h, h2]
  exact if_pos hz
/-! ### what is never reached -/
def sNever : Store → Option O := fun _ => none
theorem s_never {st : Stmt} (Γ' : List Nat) : Sv X W I r Γ Γb st Γ' sNever tNever := ⟨ps_never, ⟨fun _ _ _ e _ _ => by cases e⟩⟩
/-! ### sum, max of a tuple -/
section
variable {prog : Program} {w : World} {A : Around} {E : Value → Shared → Prop} {s : Shared} {l : Addr} {xs : Array (Int × Tok)}
theorem iter_intTup {Q : Value → Shared → Prop} (hl : s.heap.IsTuple l (intItems xs))
    (h : ∀ s₂ : Shared, s₂ = { s with heap := s.heap.push { cls := .type "tuple_iterator", data := .fields #[.ref l, .int 0 0] } } →
      (s₂.heap.IsTupleIter s.heap.objs.size l 0 ∧ s₂.heap.IsTuple l (intItems xs)) → (∀ b ∈ [s.heap.objs.size, l], b < s₂.heap.objs.size) → l ≠ s.heap.objs.size → Q (.ref s.heap.objs.size) s₂) :
    wpAny (model prog w) A (pyIter (.ref l)) Q E s := by
  have hlt : l < s.heap.objs.size := by obtain ⟨_, e, _⟩ := hl; exact Heap.lt_size e
  refine wpAny_pyIter_tuple hl (h _ rfl ⟨⟨_, Heap.get?_push_size _ rfl, rfl, rfl⟩, hl.push _⟩ (fun b hb => ?_) (Nat.ne_of_lt hlt))
  show b < (s.heap.push _).objs.size
  rw [Heap.size_push]
  rcases List.mem_cons.mp hb with rfl | hb
  · exact Nat.lt_succ_self _
  · rcases List.mem_cons.mp hb with rfl | hb
    · exact Nat.lt_succ_of_lt hlt
    · cases hb
theorem old_keptT {h' : Heap} (hk : ∀ b o, b ∉ [s.heap.objs.size] → (s.heap.push { cls := .type "tuple_iterator", data := .fields #[.ref l, .int 0 0] }).get? b = some o → h'.get? b = some o) :
    ∀ b o, s.heap.get? b = some o → h'.get? b = some o := fun b o e => by
  refine hk b o (fun hm => ?_) (Heap.get?_push_of_some _ e)
  rcases List.mem_cons.mp hm with e1 | hm
  · exact absurd (e1 ▸ Heap.lt_size e) (Nat.lt_irrefl _)
  · cases hm
variable {its : List Value} {ns : List Int} {Q : Value → Shared → Prop}
theorem sum_rawT (hh : A.handled = none) (hl : s.heap.IsTuple l its.toArray) (hi : IntsAre its ns)
    (h : ∀ h' tk t', (∀ b o, s.heap.get? b = some o → h'.get? b = some o) → Q (.int ns.sum t') { s with heap := h', toks := tk }) : wpAny (model prog w) A (call (.builtin "sum") [.ref l]) Q E s := by
  obtain ⟨xs, e⟩ := hi.allInts.items
  have hn : numsOf (intItems xs).toList = ns := by rw [← e]; exact hi.numsOf
  rw [nums_intItems] at hn
  rw [e] at hl
  refine call_sum_walkG (iter_intTup hl fun s₂ e st hfp hlI => ?_)
  subst e
  refine ⟨_, _, _, _, _, _, numAt xs, rfl, Walks.tuple (A := A.in1) hh _ l hlI (intItems xs), st, hfp, (fun _ _ => intItems_at), fun h' tk t' hk => ?_⟩
  have := h h' tk t' (old_keptT hk)
  have sz : (intItems xs).size = xs.size := by simp [intItems]
  rw [sz, preSum_eq, List.take_of_length_le (by simp), hn]; exact this
theorem max_rawT (hh : A.handled = none) (hl : s.heap.IsTuple l its.toArray) (hi : IntsAre its ns) (hne : 0 < ns.length)
    (h : ∀ h' tk M t', (∀ b o, s.heap.get? b = some o → h'.get? b = some o) → M ∈ ns → (∀ a, a ∈ ns → a ≤ M) → Q (.int M t') { s with heap := h', toks := tk }) : wpAny (model prog w) A (call (.builtin "max") [.ref l]) Q E s := by
  obtain ⟨xs, e⟩ := hi.allInts.items
  have hn : numsOf (intItems xs).toList = ns := by rw [← e]; exact hi.numsOf
  rw [nums_intItems] at hn
  subst hn
  rw [e] at hl
  have hsz : 0 < xs.size := by simpa using hne
  refine call_max_walk (iter_intTup hl fun s₂ e st hfp hlI => ?_)
  subst e
  refine ⟨_, _, _, _, _, _, _, rfl, Walks.tuple (A := A.in1) hh _ l hlI (intItems xs), st, hfp, by simpa [intItems] using hsz, CmpOf.ints_gt (numAt xs) (fun _ _ => intItems_at), fun v h' tk hP hk => ?_⟩
  have hv : (intItems xs)[argBest (fun i j => decide (numAt xs i > numAt xs j)) (xs.size - 1)]? = some v := by simpa [intItems] using hP
  obtain ⟨t, rfl⟩ := intItems_at hv
  obtain ⟨h1, h2⟩ := argBest_gt (numAt xs) (xs.size - 1)
  refine h h' tk _ t (old_keptT hk) ?_ fun a ha => ?_
  · rw [numAt_eq]; exact PySem.getD_mem (by rw [List.length_map, Array.length_toList]; omega)
  · obtain ⟨j, hj, rfl⟩ := mem_getD ha
    rw [List.length_map, Array.length_toList] at hj
    rw [← numAt_eq]; exact h2 j (by omega)
end
def rSumT (K : PySem.W.Frag) : List V → Hp → VK → Prop := fun vs H Q => ∃ (a : Addr) (ns : List Int), vs = [V.ref a] ∧ SqT K H a (ns.map V.int) ∧ Q (.int ns.sum) H
def rMaxT (K : PySem.W.Frag) : List V → Hp → VK → Prop := fun vs H Q => ∃ (a : Addr) (ns : List Int), vs = [V.ref a] ∧ SqT K H a (ns.map V.int) ∧ 0 < ns.length ∧ ∀ m, m ∈ ns → (∀ y, y ∈ ns → y ≤ m) → Q (.int m) H
theorem xc_sumT (hc : X.calm = true) (hK : X.K = K := by rfl) : CallR X (.builtin "sum") (rSumT K) := by
  subst hK
  intro pins s σ H vs us Q I r h
  obtain ⟨a, ns, rfl, hs, q⟩ := h
  obtain ⟨its, rv, hl, _⟩ := I.tuple hs
  rw [Vals.ref1 r]
  exact sum_rawT (I.ok.hd hc) hl rv.ints fun h' tk t' hk => ⟨.int _, H, I.kept hk, ⟨_, rfl⟩, q⟩
theorem xc_maxT (hc : X.calm = true) (hK : X.K = K := by rfl) : CallR X (.builtin "max") (rMaxT K) := by
  subst hK
  intro pins s σ H vs us Q I r h
  obtain ⟨a, ns, rfl, hs, hne, q⟩ := h
  obtain ⟨its, rv, hl, _⟩ := I.tuple hs
  rw [Vals.ref1 r]
  exact max_rawT (I.ok.hd hc) hl rv.ints hne fun h' tk m t' hk h1 h2 => ⟨.int _, H, I.kept hk, ⟨_, rfl⟩, q m h1 h2⟩
end
end VL

/-! VL24: sum, max of tuples; sorted; methods with one argument: index, split, join; bit_length. -/
namespace VL
open PySem PySem.Spec L2
open PyProof.Rows hiding St
section
variable {K : PySem.W.Frag}
def gSumT : List D → Option D
  | [.tup ds] => (match D.ints ds with | some ns => some (.int ns.sum) | none => none)
  | _ => none
theorem oa_sumT : OpA K (rSumT K) 0 gSumT := by
  refine ⟨fun {H N ds d vs} o e Q q => ?_⟩
  unfold gSumT at e
  split at e
  · rename_i ds
    split at e
    · rename_i ns e2
      cases e
      obtain ⟨v, rfl, oo⟩ := o.one
      obtain ⟨l, vs, rfl, s, lo⟩ := oo.tup_inv
      rw [lo.ints e2] at s
      exact ⟨l, ns, rfl, s, fin0 q fun _ => .int⟩
    · cases e
  · cases e
@[simp] theorem s_sumT {ns : List Int} : gSumT [.tup (ns.map .int)] = some (.int ns.sum) := by
  unfold gSumT; dsimp only; rw [ints_map]
def gMaxT : List D → Option D
  | [.tup ds] => (match D.ints ds with | some ns => if 0 < ns.length then some (.int (maxL ns)) else none | none => none)
  | _ => none
theorem oa_maxT : OpA K (rMaxT K) 0 gMaxT := by
  refine ⟨fun {H N ds d vs} o e Q q => ?_⟩
  unfold gMaxT at e
  split at e
  · rename_i ds
    split at e
    · rename_i ns e2
      split at e
      · rename_i hp
        cases e
        obtain ⟨v, rfl, oo⟩ := o.one
        obtain ⟨l, vs, rfl, s, lo⟩ := oo.tup_inv
        rw [lo.ints e2] at s
        refine ⟨l, ns, rfl, s, hp, fun m h1 h2 => ?_⟩
        have e : m = maxL ns := Int.le_antisymm (maxL_ge h1) (h2 _ (maxL_mem (pos_ne hp)))
        rw [e]
        exact fin0 q fun _ => .int
      · cases e
    · cases e
  · cases e
theorem s_maxT {ns : List Int} (h : 0 < ns.length) : gMaxT [.tup (ns.map .int)] = some (.int (maxL ns)) := by
  unfold gMaxT; dsimp only; rw [ints_map]; exact if_pos h
theorem s_maxL {ns : List Int} (h : 0 < ns.length) : gMax [.lst (ns.map .int)] = some (.int (maxL ns)) := by
  unfold gMax; dsimp only; rw [ints_map]; exact if_pos h
/-! ### sorted -/
def sortI (ns : List Int) : List Int := ns.mergeSort fun a b => decide (a ≤ b)
theorem sortI_perm (ns : List Int) : (sortI ns).Perm ns := List.mergeSort_perm ns _
theorem sortI_le (ns : List Int) : (sortI ns).Pairwise (· ≤ ·) := by
  have := List.pairwise_mergeSort (le := fun a b : Int => decide (a ≤ b)) (fun a b c h1 h2 => by
    rw [decide_eq_true_eq] at *; omega) (fun a b => by
    rw [Bool.or_eq_true, decide_eq_true_eq, decide_eq_true_eq]; omega) ns
  exact this.imp fun h => of_decide_eq_true h
theorem sortI_of {ns ms : List Int} (p : ms.Perm ns) (s : ms.Pairwise (· ≤ ·)) : ms = sortI ns :=
  List.Perm.eq_of_pairwise (le := fun a b : Int => a ≤ b) (fun a b _ _ h1 h2 => Int.le_antisymm h1 h2) s (sortI_le ns) (p.trans (sortI_perm ns).symm)
def gSorted : List D → Option D
  | [.lst ds] => (match D.ints ds with | some ns => some (.lst ((sortI ns).map .int)) | none => none)
  | _ => none
theorem oa_sorted : OpA K (rSortedI K) 1 gSorted := by
  refine ⟨fun {H N ds d vs} o e Q q => ?_⟩
  unfold gSorted at e
  split at e
  · rename_i ds
    split at e
    · rename_i ns e2
      cases e
      obtain ⟨v, rfl, oo⟩ := o.one
      obtain ⟨l, vs, rfl, s, lo⟩ := oo.lst_inv0
      rw [lo.ints e2] at s
      refine ⟨l, ns, rfl, s, fun ms p h1 h2 hp => ?_⟩
      rw [sortI_of h1 h2]
      exact fin_lst q (own_ints _) p hp
    · cases e
  · cases e
@[simp] theorem s_sorted {ns : List Int} : gSorted [.lst (ns.map .int)] = some (.lst ((sortI ns).map .int)) := by
  unfold gSorted; dsimp only; rw [ints_map]
theorem xc_sorted {X : Cx} (hK : X.K = K := by rfl) : CallR X (.builtin "sorted") (rSortedI K) := by subst hK; exact cr_sortedI
end
section
variable {X : Cx} {K : PySem.W.Frag} {Γ : List Nat} {m m1 m2 : Nat} {B B1 B2 : List Nat} {e a b o : Expr} {f f1 f2 : Store → Option D} {te t t1 t2 : TE} {pos p : Pos}
/-! ### o.m(e) of a built-in type -/
structure OpM (K : PySem.W.Frag) (T : String) (r : V → List V → Hp → VK → Prop) (m : Nat) (g : D → D → Option D) : Prop where
  ty : ∀ {H : Hp} {N : Addr → Prop} {d1 d2 d : D} {v1 : V}, Own K H N 0 d1 v1 [] → g d1 d2 = some d → tyV K T v1 H
  run : Op2 K (fun x y H Q => r x [y] H Q) m g
theorem sd_bm {T : String} {r : V → List V → Hp → VK → Prop} {g : D → D → Option D} (ho : OpM K T r m g) (h1 : SdE K Γ t1 m1 B1 f1) (h2 : SdE K Γ t2 m2 B2 f2) : SdE K Γ (tBM K T r t1 (tCons t2 tNil)) m (B1 ++ B2) (e2 g f1 f2) := by
  refine ⟨fun {E ρ σ H Φ} R d e Q q => ?_⟩
  obtain ⟨d1, d2, x1, x2, x3⟩ := e2_some e
  refine h1.share.run R _ x1 _ fun v1 H1 Ψ1 r1 => ?_
  have z1 := r1.own
  rw [z1.fp0 rfl] at z1
  refine ⟨ho.ty z1 x3, ?_⟩
  refine h2.share.run (R.ext r1.ext) _ x2 _ fun v2 H2 Ψ2 r2 => ?_
  have z2 := r2.own
  rw [z2.fp0 rfl] at z2
  have x : Ext H H2 := fun a o e => r2.ext a o (r1.ext a o e)
  have o1 : Own K H2 (fun a => (∃ o, H2 a = some o) ∧ ∀ j, j ∉ B1 ++ B2 → a ∉ Φ j) 0 d1 v1 [] := z1.move (fun a o e _ => r2.ext a o e) (fun a o e n => ⟨r2.ext a o e, ⟨o, r2.ext a o e⟩, fun j nj => n.2 j fun m => nj (List.mem_append_left _ m)⟩) fun a _ o e => r2.ext a o e
  have o2 : Own K H2 (fun a => (∃ o, H2 a = some o) ∧ ∀ j, j ∉ B1 ++ B2 → a ∉ Φ j) 0 d2 v2 [] := z2.move (fun a o e _ => e) (fun a o e n => ⟨e, ⟨o, e⟩, fun j nj => n.2 j fun m => nj (List.mem_append_right _ m)⟩) fun a _ o e => e
  refine ho.run.run o1 o2 x3 Q fun v H3 Ψ x' new nd o => ?_
  refine q v H3 Ψ ⟨fun a o e => x' a o (x a o e), fun a m => ?_, nd, o.move (fun a o e _ => e) (fun a o e z => ⟨e, ?_⟩) fun a _ o e => e⟩
  · cases e : H a with
    | none => rfl
    | some o => have := x a o e; rw [new a m] at this; cases this
  · rcases z with z | ⟨z, nΨ⟩
    · refine ⟨fun m => ?_, z.2⟩
      obtain ⟨o', z'⟩ := z.1
      rw [new a m] at z'; cases z'
    · exact ⟨nΨ, fun j _ => (R.ext x).notIn z j⟩
theorem ev_bm {T id : String} {r : V → List V → Hp → VK → Prop} {g : D → D → Option D} {name : Str} {apos cpos : Pos} (pa : PlainAttrs T) (slot : Slot T name id) (hty : typeOf (.builtin id) = pure (.type "method_descriptor")) (hm : MtR X id r) (ho : OpM X.K T r m g) (h1 : Ev X Γ o m1 B1 f1 t1) (h2 : Ev X Γ e m2 B2 f2 t2)
    (hbase : attributeBase o name X.env (eval o X.env) = eval o X.env := by rfl)
    (hfew : ((backTo cpos (starEach [e] X.env)).all (fun x => !x.1) && (backToKw cpos (keywordEach [] X.env)).all (fun x => x.1.isSome)
      && decide ([e].length + ([] : List Keyword).length + (if ([] : List Keyword).isEmpty then 0 else 1) < 30)) = true := by rfl)
    (hline : (apos.endLine == cpos.line) = true := by rfl) (hs : starEach [e] X.env = (false, eval e X.env) :: starEach [] X.env := by rfl) (hplain : (backTo cpos (starEach [] X.env)).any (·.1) = false := by rfl) :
    Ev X Γ (.Call (.Attribute o name apos) [e] [] cpos) m (B1 ++ B2) (e2 g f1 f2) (tBM X.K T r t1 (tCons t2 tNil)) := ⟨pe_bm pa slot hty hm h1.pe (pa_cons h2.pe pa_nil hs) hbase hfew hline hs hplain, sd_bm ho h1.sd h2.sd⟩
theorem om_idx : OpM K "list" (rIndex K) 0 gIdx := by
  refine ⟨fun {H N d1 d2 d v1} o e => ?_, ⟨fun {H N d1 d2 d v1 v2} o1 o2 e Q q => ?_⟩⟩
  · unfold gIdx at e
    split at e
    · obtain ⟨l, vs, rfl, s, lo⟩ := o.lst_inv0
      exact .inl ⟨rfl, _, s⟩
    · cases e
  · obtain ⟨ds, rfl⟩ : ∃ ds, d1 = .lst ds := by
      unfold gIdx at e
      split at e
      · exact ⟨_, rfl⟩
      · cases e
    have e : (if d2.fl = true ∧ ds.all D.fl = true then (match ds.findIdx? fun z => eqV z.toV d2.toV with | some j => some (D.int j) | none => none) else none) = some d := e
    split at e
    · rename_i h
      split at e
      · rename_i j ej
        cases e
        obtain ⟨l, vs, rfl, s, lo⟩ := o1.lst_inv0
        obtain ⟨e1, f1⟩ := o2.toV h.1
        obtain ⟨e2, f2⟩ := lo.toV h.2
        obtain ⟨hj, k1, k2⟩ := List.findIdx?_eq_some_iff_getElem.mp ej
        refine ⟨l, vs, v2, j, (ds[j]).toV, rfl, rfl, s, f1, f2, ?_, ?_, fun m' z' hm hz => ?_, fin0 q fun _ => .int⟩
        · rw [e2, List.getElem?_map, List.getElem?_eq_getElem hj]; rfl
        · rw [e1]; exact k1
        · rw [e2, List.getElem?_map, List.getElem?_eq_getElem (by omega)] at hz
          cases hz
          rw [e1]
          exact Bool.eq_false_iff.mpr (k2 m' hm)
      · cases e
    · cases e
/-- x.index(y), a list of flat items -/
theorem ev_idx {apos cpos : Pos} (h1 : Ev X Γ o m1 B1 f1 t1) (h2 : Ev X Γ e m2 B2 f2 t2)
    (hbase : attributeBase o "index" X.env (eval o X.env) = eval o X.env := by rfl)
    (hfew : ((backTo cpos (starEach [e] X.env)).all (fun x => !x.1) && (backToKw cpos (keywordEach [] X.env)).all (fun x => x.1.isSome)
      && decide ([e].length + ([] : List Keyword).length + (if ([] : List Keyword).isEmpty then 0 else 1) < 30)) = true := by rfl)
    (hline : (apos.endLine == cpos.line) = true := by rfl) (hs : starEach [e] X.env = (false, eval e X.env) :: starEach [] X.env := by rfl) (hplain : (backTo cpos (starEach [] X.env)).any (·.1) = false := by rfl) :
    Ev X Γ (.Call (.Attribute o "index" apos) [e] [] cpos) 0 (B1 ++ B2) (e2 gIdx f1 f2) (tBM X.K "list" (rIndex X.K) t1 (tCons t2 tNil)) := ev_bm PySem.F.plainAttrs_list PySem.F.slot_list_index PySem.F.type_list_index mt_index om_idx h1 h2 hbase hfew hline hs hplain
theorem xev_idx {apos cpos : Pos} (h1 : Ev X Γ o m1 B1 f1 t1) (h2 : Ev X Γ e m2 B2 f2 t2) (hK : X.K = K := by rfl)
    (hbase : attributeBase o "index" X.env (eval o X.env) = eval o X.env := by rfl)
    (hfew : ((backTo cpos (starEach [e] X.env)).all (fun x => !x.1) && (backToKw cpos (keywordEach [] X.env)).all (fun x => x.1.isSome)
      && decide ([e].length + ([] : List Keyword).length + (if ([] : List Keyword).isEmpty then 0 else 1) < 30)) = true := by rfl)
    (hline : (apos.endLine == cpos.line) = true := by rfl) (hs : starEach [e] X.env = (false, eval e X.env) :: starEach [] X.env := by rfl) (hplain : (backTo cpos (starEach [] X.env)).any (·.1) = false := by rfl) :
    Ev X Γ (.Call (.Attribute o "index" apos) [e] [] cpos) 0 (B1 ++ B2) (e2 gIdx f1 f2) (tBM K "list" (rIndex K) t1 (tCons t2 tNil)) := by subst hK; exact ev_idx h1 h2 hbase hfew hline hs hplain
theorem idx_ok {xs : List Int} {y : Int} {j : Nat} (hj : j < xs.length) (h : at0 xs j = y) (n : ∀ k, k < j → at0 xs k ≠ y) : gIdx (.lst (xs.map .int)) (.int y) = some (.int j) := by
  unfold gIdx
  have e : (xs.map D.int).findIdx? (fun z => eqV z.toV (D.int y).toV) = some j := by
    rw [List.findIdx?_eq_some_iff_getElem]
    refine ⟨by rw [List.length_map]; exact hj, ?_, fun k hk z => ?_⟩
    · rw [List.getElem_map, ← at0_get hj, h]
      show ((y : Int) == y) = true
      exact beq_self_eq_true y
    · rw [List.getElem_map, ← at0_get (by omega)] at z
      exact n k hk (eq_of_beq (show ((at0 xs k : Int) == y) = true from z))
  simp only [e]
  refine if_pos ⟨rfl, ?_⟩
  rw [List.all_map]
  exact List.all_eq_true.mpr fun _ _ => rfl
end
/-! ### plain: parts put together -/
section
variable {f f1 f2 : Store → Option D} {fa : Store → Option (List D)} {g : D → D → Option D} {ρ : Store} {a b d : D} {ds : List D}
theorem e2_ok (h1 : f1 ρ = some a) (h2 : f2 ρ = some b) (h : g a b = some d) : e2 g f1 f2 ρ = some d := by rw [s_e2, h1, h2]; exact h
theorem acons_ok (h1 : f ρ = some d) (h2 : fa ρ = some ds) : aCons f fa ρ = some (d :: ds) := by rw [s_aCons, h1, h2]
theorem anil_ok : aNil ρ = some [] := id rfl
theorem etup_ok (h : fa ρ = some ds) (hl : ds.length ≤ 16777216) : eTup fa ρ = some (.tup ds) := by rw [s_eTup, h]; exact if_pos hl
theorem elst_ok (h : fa ρ = some ds) (hl : ds.length ≤ 16777216) : eLst fa ρ = some (.lst ds) := by rw [s_eLst, h]; exact if_pos hl
theorem addT_ok {xs ys : List D} (hl : xs.length + ys.length ≤ 16777216) : gAdd (.tup xs) (.tup ys) = some (.tup (xs ++ ys)) := by rw [s_addT]; exact if_pos hl
theorem addL_ok {xs ys : List D} (hl : xs.length + ys.length ≤ 16777216) : gAdd (.lst xs) (.lst ys) = some (.lst (xs ++ ys)) := by rw [s_addL]; exact if_pos hl
theorem cat_ok {xs ys : List D} (hl : xs.length + ys.length ≤ 16777216) : gCat (.lst xs) (.lst ys) = some (.lst (xs ++ ys)) := by rw [s_cat]; exact if_pos hl
theorem tbo_ok {b : Bool} (h : f ρ = some (.bl b)) : tBo f ρ = some b := by rw [s_tBo, h]
theorem iLst_ok (h : f ρ = some (.lst ds)) : iLst f ρ = some ds := by rw [s_iLst, h]
theorem iTp_ok (h : f ρ = some (.tup ds)) : iTp f ρ = some ds := by rw [s_iTp, h]
end
end VL

/-! VL25: plain steps: pop, two greatest, texts that are the same. -/
namespace VL
open PySem
section
variable {f : Store → Option D} {F : Store → Option (D × Store)} {ρ ρ' : Store} {d : D} {ds : List D} {i : Nat}
theorem pop_ok {z : Int} {k : Nat} (h : eVar i ρ = some (.lst ds)) (h2 : f ρ = some (.int z)) (hz : z = k) (hk : k < ds.length) (hb : k < 1000000000) : xPop i f ρ = some (ds[k], ρ.set i (some (.lst (ds.eraseIdx k)))) := by
  subst hz
  have e : L2.ixN ds.length (k : Int) = some k := by
    unfold L2.ixN
    rw [if_pos (Int.natCast_nonneg _), if_pos (by omega), Int.toNat_natCast]
  unfold xPop
  simp only [h, h2, e, List.getElem?_eq_getElem hk, if_pos (cR_t (j := (k : Int)) (by omega) (by omega))]
theorem erase_map {α β : Type} (g : α → β) : ∀ (l : List α) (j : Nat), (l.map g).eraseIdx j = (l.eraseIdx j).map g
  | [], j => by simp
  | x :: l, 0 => rfl
  | x :: l, j + 1 => by
    show g x :: (l.map g).eraseIdx j = g x :: (l.eraseIdx j).map g
    rw [erase_map g l j]
theorem popI_ok {xs : List Int} {z : Int} (h : eVar i ρ = some (.lst (xs.map .int))) (h2 : f ρ = some (.int z)) (h0 : 0 ≤ z) (hk : z < xs.length) (hb : z < 1000000000) (e : ρ.set i (some (.lst ((xs.eraseIdx z.toNat).map .int))) = ρ') : xPop i f ρ = some (.int (at0 xs z.toNat), ρ') := by
  rw [pop_ok (k := z.toNat) h h2 (by omega) (by rw [List.length_map]; omega) (by omega), List.getElem_map, at0_get (by omega), erase_map, e]
theorem setX_ok {j : Nat} {ρ2 : Store} (h : F ρ = some (d, ρ')) (e : ρ'.set j (some d) = ρ2) : sSetX j F ρ = some (.nx ρ2) := by unfold sSetX; rw [h, ← e]
theorem appX_ok {j : Nat} {es : List D} {ρ2 : Store} (h0 : eVar j ρ = some (.lst es)) (h : F ρ = some (d, ρ')) (h1 : eVar j ρ' = some (.lst ds)) (hl : ds.length < 16777216) (e : ρ'.set j (some (.lst (ds ++ [d]))) = ρ2) : sAppX j F ρ = some (.nx ρ2) := by
  unfold sAppX
  rw [h0]
  simp only [h, h1, e]
  exact if_pos hl
theorem s_min2 {a b : Int} : gMin2 [.int a, .int b] = some (.int (if b < a then b else a)) := rfl
theorem s_max2 {a b : Int} : gMax2 [.int a, .int b] = some (.int (if b > a then b else a)) := rfl
end
theorem len_erase {α : Type} {xs : List α} {k : Nat} (h : k < xs.length) : (xs.eraseIdx k).length = xs.length - 1 := by rw [List.length_eraseIdx, if_pos h]
theorem append_at0 {xs : List Int} {y : Int} {k : Nat} : at0 (xs ++ [y]) k = if k < xs.length then at0 xs k else if k = xs.length then y else 0 := by
  unfold at0
  rw [List.getD_eq_getElem?_getD, List.getD_eq_getElem?_getD]
  by_cases h : k < xs.length
  · rw [List.getElem?_append_left h, if_pos h]
  · rw [if_neg h, List.getElem?_append_right (by omega)]
    by_cases e : k = xs.length
    · rw [if_pos e, show k - xs.length = 0 by omega]; rfl
    · rw [if_neg e, List.getElem?_eq_none (by rw [List.length_singleton]; omega)]; rfl
def sOk (x : Str) : Bool := x.cps.all fun c => decide (c < 0x110000)
theorem Lay.str {x : Str} {m : Nat} (h : sOk x = true) : Lay (.str x) m := ⟨rfl, by show PyData.canLay0 (.str x) = true; rw [PyData.canLay0]; exact h, Nat.zero_le _⟩
theorem eqv_str {x y : Str} : D.eqv (.str x) (.str y) = decide (x = y) := by
  show (x == y) = _
  by_cases h : x = y
  · subst h; rw [decide_eq_true rfl]; exact beq_self_eq_true x
  · rw [decide_eq_false h]; exact beq_eq_false_iff_ne.mpr h
theorem s_eqS {x y : Str} (hx : sOk x = true) (hy : sOk y = true) : gEq false (.str x) (.str y) = some (.bl (decide (x = y))) := gEq_ok ((Lay.str (m := 0) hx).okE (by decide)) ((Lay.str (m := 0) hy).okE (by decide)) eqv_str
theorem s_neS {x y : Str} (hx : sOk x = true) (hy : sOk y = true) : gEq true (.str x) (.str y) = some (.bl (!decide (x = y))) := gNe_ok ((Lay.str (m := 0) hx).okE (by decide)) ((Lay.str (m := 0) hy).okE (by decide)) eqv_str
theorem eq_tup {xs ys : List Int} : gEq false (.tup (xs.map .int)) (.tup (ys.map .int)) = some (.bl (decide (xs = ys))) := gEq_ok okE_it okE_it eqv_it
theorem ne_tup {xs ys : List Int} : gEq true (.tup (xs.map .int)) (.tup (ys.map .int)) = some (.bl (!decide (xs = ys))) := gNe_ok okE_it okE_it eqv_it
theorem eq_nilL {xs : List Int} : gEq false (.lst (xs.map .int)) (.lst []) = some (.bl (decide (xs = []))) := eq_il (ys := [])
theorem ne_nilL {xs : List Int} : gEq true (.lst (xs.map .int)) (.lst []) = some (.bl (!decide (xs = []))) := ne_il (ys := [])
theorem eq_nilT {xs : List Int} : gEq false (.tup (xs.map .int)) (.tup []) = some (.bl (decide (xs = []))) := eq_tup (ys := [])
theorem ne_nilT {xs : List Int} : gEq true (.tup (xs.map .int)) (.tup []) = some (.bl (!decide (xs = []))) := ne_tup (ys := [])
end VL

/-! VL26: sorted of a tuple of ints; len(set(x)), x a tuple or list of ints. -/
namespace VL
open PySem PySem.Spec L2
open PyProof.Rows hiding St
section
variable {prog : Program} {w : World} {A : Around} {E : Value → Shared → Prop} {s : Shared}
theorem collect_tup {l : Addr} {vs : List Value} {Q : List Value → Shared → Prop} (hl : s.heap.IsTuple l vs.toArray)
    (h : Q vs { s with heap := (s.heap.push (seqObj "list" #[] 0)).update s.heap.objs.size (Obj.mapSeq (· ++ vs.toArray)) }) (hsz : vs.length ≤ sizeLine) :
    wpAny (model prog w) A (collect (.ref l)) Q E s := by
  obtain ⟨o, ho, hc, n, hd⟩ := id hl
  unfold collect
  refine wpAny_bind (wpAny_runValue (codeAny_builtin entry_proto_collect' ?_))
  show wpAny _ _ (do again (.builtin "list.__iadd__" ⟨[← newList [], .ref l], []⟩)) _ _ s
  refine wpAny_bind (wpAny_newList (wpAny_pure ⟨Code.quiet_builtin _ (by decide +kernel), codeAny_builtin entry_list_iadd' ?_⟩))
  show wpAny _ _ (Builtin.List.listExtendWith (.ref s.heap.objs.size) (.ref l) (.ref s.heap.objs.size)) _ _ { s with heap := s.heap.push (seqObj "list" #[] 0) }
  unfold Builtin.List.listExtendWith
  have ho' : (s.heap.push (seqObj "list" #[] 0)).get? l = some o := Heap.get?_push_of_some _ ho
  refine wpAny_bind (wpAny_typeOf (T := "tuple") ⟨o, ho', hc⟩ ?_)
  have ht : (Value.type "tuple" == Value.type "tuple") = true := by rfl
  rw [if_pos (by rw [ht]; simp)]
  refine wpAny_bind (listItems_at ho' hd ?_)
  refine wpAny_bind (listItems_at (xs := #[]) (n := 0) (Heap.get?_push_size _ rfl) rfl ?_)
  rw [if_neg (by simp)]
  refine wpAny_bind (listUpdate_at (xs := #[]) (n := 0) (Heap.get?_push_size _ rfl) rfl ?_ (Nat.zero_le _) (by show (#[] ++ vs.toArray).size ≤ sizeLine + 1; simp only [Array.size_append, List.size_toArray, List.length_nil]; omega))
  refine wpAny_pure ?_
  show wpAny (model prog w) A (do
      let o ← load s.heap.objs.size
      match o.data with
      | .seq xs _ => pure xs.toList
      | _ => unsupported "internal:collect") Q E { s with heap := (s.heap.push (seqObj "list" #[] 0)).update s.heap.objs.size (Obj.mapSeq (· ++ vs.toArray)) }
  refine wpAny_bind (wpAny_load (get?_update_seq (Heap.get?_push_size _ rfl) _) ?_)
  show wpAny _ _ (pure ((#[] : Array Value) ++ vs.toArray).toList) Q E _
  rw [show ((#[] : Array Value) ++ vs.toArray).toList = vs by simp]
  exact wpAny_pure h
open Srt SrtO in
theorem sorted_ordT {l : Addr} {vs : List Value} {ltv : Value → Value → Bool} {Q : Value → Shared → Prop} (O : Swo ltv) (hl : s.heap.IsTuple l vs.toArray) (hz : vs.length ≤ sizeLine)
    (hS : 2 ≤ vs.length → ∀ (h₁ : Heap) (a : Addr), h₁.get? a = some (seqObj "list" vs.toArray 0) → (∀ b o, s.heap.get? b = some o → b ≠ a ∧ h₁.get? b = some o) → SortableO prog w A.in1.in1 { s with heap := h₁ } a vs ltv)
    (h : ∀ out : List Value, Srtd ltv out → Stb ltv out vs → Q (.ref (s.heap.objs.size + 1)) { s with heap := sortedAll s.heap vs out.toArray }) :
    wpAny (model prog w) A (call (.builtin "sorted") [.ref l]) Q E s := by
  refine Calls.call_function_entry kind_sorted plain_sorted entry_sorted (args_sorted1 _) ?_
  unfold Builtin.«sorted»
  refine wpAny_bind (m := checkCount "sorted" 1 1 _) (wpAny_pure ?_)
  refine wpAny_bind (collect_tup hl ?_ hz)
  refine wpAny_bind (wpAny_newList ?_ hz)
  have hsz : ((s.heap.push (seqObj "list" #[] 0)).update s.heap.objs.size (Obj.mapSeq (· ++ vs.toArray))).objs.size = s.heap.objs.size + 1 := by
    rw [Heap.size_update, size_push']
  have hoL : (((s.heap.push (seqObj "list" #[] 0)).update s.heap.objs.size (Obj.mapSeq (· ++ vs.toArray))).push (seqObj "list" vs.toArray 0)).get? (s.heap.objs.size + 1) = some (seqObj "list" vs.toArray 0) := by
    rw [← hsz]; exact Heap.get?_push_size _ rfl
  have keep : ∀ b o, s.heap.get? b = some o → b ≠ s.heap.objs.size + 1 ∧ (((s.heap.push (seqObj "list" #[] 0)).update s.heap.objs.size (Obj.mapSeq (· ++ vs.toArray))).push (seqObj "list" vs.toArray 0)).get? b = some o := fun b o q => by
    have hlt : b < s.heap.objs.size := Heap.lt_size q
    refine ⟨Nat.ne_of_lt (Nat.lt_succ_of_lt hlt), Heap.get?_push_of_some _ ?_⟩
    rw [Heap.get?_update_ne _ _ _ _ (Nat.ne_of_lt hlt)]
    exact Heap.get?_push_of_some _ q
  show wpAny _ _ _ _ _ { s with heap := ((s.heap.push (seqObj "list" #[] 0)).update s.heap.objs.size (Obj.mapSeq (· ++ vs.toArray))).push (seqObj "list" vs.toArray 0) }
  rw [hsz]
  refine wpAny_bind (wpAny_holding (wpAny_call_entry slot_list_sort ⟨_, hoL, rfl⟩ entry_list_sort (list_sort_ord O hoL hz (fun h2 => hS h2 _ _ hoL keep) fun out hs hb => ⟨_, rfl, ?_⟩) (args_list_sort _)))
  exact wpAny_pure ⟨_, rfl, h out hs hb⟩
end
/-- sorted(t), a tuple of ints -/
def rSortedT (K : PySem.W.Frag) : List V → Hp → VK → Prop := fun vs H Q => ∃ (a : Addr) (ns : List Int), vs = [V.ref a] ∧ SqT K H a (ns.map V.int) ∧
  ∀ (ns' : List Int) (p : Addr), ns'.Perm ns → ns'.Pairwise (· ≤ ·) → H p = none → Q (.ref p) (upd H p (.lst (ns'.map V.int)))
section
variable {X : Cx} {K : PySem.W.Frag}
theorem xc_sortedT (hK : X.K = K := by rfl) : CallR X (.builtin "sorted") (rSortedT K) := by
  subst hK
  intro pins s σ H vs us Q I r h
  obtain ⟨a, ns, rfl, hs, q⟩ := h
  obtain ⟨its, rv, hl, hz⟩ := I.tuple hs
  rw [Vals.ref1 r]
  have hi := rv.ints
  refine sorted_ordT SrtO.swo_int hl (by rw [← rv.length]; exact hz) (fun h2 h₁ a' _ _ => SrtO.ints_sortable hi h2) fun out h1 h2 => ?_
  obtain ⟨k1, k2, k3⟩ := SrtO.ints_out hi h1 h2
  obtain ⟨ep, he'⟩ := PyProof.Rows.sortedAll_at s.heap its out.toArray
  have hlen : ((out.map SrtO.iv).map V.int).length ≤ sizeLine := by
    rw [List.length_map, k2.length_eq]
    rw [List.length_map] at hz
    exact hz
  exact ⟨.ref _, upd H (s.heap.objs.size + 1) (.lst ((out.map SrtO.iv).map V.int)), I.laid (t' := s.toks) (fun _ _ => PyProof.Rows.sortedAll_old) (Nat.le_succ _) ⟨hlen, out, ep, vals_of_ints k1, he'⟩, rfl, q _ _ k2 k3 (I.hok.fresh (Nat.le_succ _))⟩
def gSortedT : List D → Option D
  | [.tup ds] => (match D.ints ds with | some ns => some (.lst ((sortI ns).map .int)) | none => none)
  | _ => none
theorem oa_sortedT : OpA K (rSortedT K) 1 gSortedT := by
  refine ⟨fun {H N ds d vs} o e Q q => ?_⟩
  unfold gSortedT at e
  split at e
  · rename_i ds
    split at e
    · rename_i ns e2
      cases e
      obtain ⟨v, rfl, oo⟩ := o.one
      obtain ⟨l, vs, rfl, s, lo⟩ := oo.tup_inv
      rw [lo.ints e2] at s
      refine ⟨l, ns, rfl, s, fun ms p h1 h2 hp => ?_⟩
      rw [sortI_of h1 h2]
      exact fin_lst q (own_ints _) p hp
    · cases e
  · cases e
theorem s_sortedT {ns : List Int} : gSortedT [.tup (ns.map .int)] = some (.lst ((sortI ns).map .int)) := by
  unfold gSortedT; dsimp only; rw [ints_map]
end
/-! ### len(set(x)) -/
/-- how many unlike ones -/
def dis : List Int → List Int
  | [] => []
  | x :: xs => if x ∈ xs then dis xs else x :: dis xs
theorem mem_dis {k : Int} : ∀ {xs : List Int}, k ∈ dis xs ↔ k ∈ xs
  | [] => Iff.rfl
  | x :: xs => by
    unfold dis
    split
    · rename_i h
      rw [mem_dis, List.mem_cons]
      exact ⟨.inr, fun z => z.elim (fun e => by rw [e]; exact h) id⟩
    · rw [List.mem_cons, List.mem_cons, mem_dis]
theorem nodup_dis : ∀ xs : List Int, (dis xs).Nodup
  | [] => .nil
  | x :: xs => by
    unfold dis
    split
    · exact nodup_dis xs
    · rename_i h
      exact List.nodup_cons.mpr ⟨fun m => h (mem_dis.mp m), nodup_dis xs⟩
def distinct (ns : List Int) : Nat := (dis ns).length
def tLenSetT (K : PySem.W.Frag) (ta : TE) : TE := fun σ H Q => ta σ H fun x H1 => ∃ l, ∃ ns : List Int, x = .ref l ∧ SqT K H1 l (ns.map V.int) ∧ ns.length ≤ 1000 ∧ Q (.int (distinct ns)) H1
section
variable {X : Cx}
theorem distinct_of {ns : List Int} {es : List Int} (nd : es.Nodup) (h : ∀ k, k ∈ es ↔ k ∈ ns) : es.length = distinct ns := by
  unfold distinct
  have n2 : (dis ns).Nodup := nodup_dis ns
  have h2 : ∀ k, k ∈ dis ns ↔ k ∈ ns := fun k => mem_dis
  have a1 := List.Nodup.length_le_of_subset nd (l₂ := dis ns) fun k m => (h2 k).mpr ((h k).mp m)
  have a2 := List.Nodup.length_le_of_subset n2 (l₂ := es) fun k m => (h k).mpr ((h2 k).mp m)
  omega
theorem pe_lenSetT {a : Expr} {ta : TE} {p p2 q pos : Pos} (hc : X.calm = true) (hg : Gl X "len") (hm : X.mg "len" = none) (hg2 : Gl X "set") (hm2 : X.mg "set" = none) (ha : PE X a ta)
    (na : starEach [a] X.env = (false, eval a X.env) :: starEach [] X.env := by rfl) : PE X (.Call (.Name "len" p) [.Call (.Name "set" p2) [a] [] q] [] pos) (tLenSetT X.K ta) := by
  refine ⟨fun pins s σ H Q I h => ?_⟩
  refine Call_ (ld_blt I hg hm boot_len ?_)
  refine PyProof.Rows.callWith_builtin1 (PyProof.Rows.args_cons ?_ rfl) rfl rfl
  refine Call_ (ld_blt I hg2 hm2 boot_set ?_)
  refine PyProof.Rows.callWith_type1 (PyProof.Rows.args_cons (thn (ha.run pins s σ H _ I h) fun v s1 ⟨x, H1, I1, r1, q1⟩ => PyProof.Rows.args_nil ?_) na) na rfl
  obtain ⟨l, ns, rfl, hq, h1, q1⟩ := q1
  cases r1
  obtain ⟨its, r, pl, hz⟩ := I1.tuple hq
  refine call_set_tupI ns (I1.ok.hd hc) pl (by simpa using r.ints) (by unfold scanBound; omega) fun h' tk c R1 hcn hk => ?_
  refine PyProof.Rows.args_nil ?_
  obtain ⟨o, es, ep, t, ho, hex, hd, g, nd, hm3, hb, hf, hn, _, _⟩ := R1
  have I2 : Inv X pins σ H1 { s1 with heap := h', toks := tk } := I1.kept fun b o e => hk b o e
  have dn : es.size = distinct ns := by
    rw [← distinct_of nd fun k => by rw [← hm3 k, decide_eq_true_eq], List.length_map, Array.length_toList]
  refine call_len_set ho hex hd hf (by omega) ⟨.int (distinct ns), H1, I2.tok _, ⟨_, by rw [dn]⟩, q1⟩
def eLenSet (f : Store → Option D) : Store → Option D := fun ρ => match f ρ with
  | some (.tup ds) => (match D.ints ds with | some ns => if ns.length ≤ 1000 then some (.int (distinct ns)) else none | none => none)
  | _ => none
variable {Γ : List Nat} {K : PySem.W.Frag} {a : Expr} {m : Nat} {B : List Nat} {f : Store → Option D} {te : TE}
theorem xev_lenSet {p p2 q pos : Pos} (hc : X.calm = true) (hg : Gl X "len") (hm : X.mg "len" = none) (hg2 : Gl X "set") (hm2 : X.mg "set" = none) (ha : Ev X Γ a m B f te) (hK : X.K = K := by rfl)
    (na : starEach [a] X.env = (false, eval a X.env) :: starEach [] X.env := by rfl) : Ev X Γ (.Call (.Name "len" p) [.Call (.Name "set" p2) [a] [] q] [] pos) 0 B (eLenSet f) (tLenSetT K te) := by
  subst hK
  refine ⟨pe_lenSetT hc hg hm hg2 hm2 ha.pe na, ⟨fun {E ρ σ H Φ} R d e Q q => ?_⟩⟩
  unfold eLenSet at e
  split at e
  · rename_i ds e1
    split at e
    · rename_i ns e2
      split at e
      · rename_i hl
        cases e
        refine ha.sd.sh R e1 _ fun v H1 x o => ?_
        obtain ⟨l, vs, rfl, s, lo⟩ := o.tup_inv
        rw [lo.ints e2] at s
        exact ⟨l, ns, rfl, s, hl, q _ _ [] ⟨x, fun a m => (nomatch m), .nil, .int⟩⟩
      · cases e
    · cases e
  · cases e
theorem lenSet_ok {ρ : Store} {ns : List Int} (h : f ρ = some (.tup (ns.map .int))) (hl : ns.length ≤ 1000) : eLenSet f ρ = some (.int (distinct ns)) := by
  unfold eLenSet
  simp only [h, ints_map]
  exact if_pos hl
theorem distinct_le (ns : List Int) : distinct ns ≤ ns.length := by
  have := List.Nodup.length_le_of_subset (nodup_dis ns) (l₂ := ns) fun k m => mem_dis.mp m
  exact this
theorem distinct_nd {ns : List Int} (h : ns.Nodup) : distinct ns = ns.length := (distinct_of h fun _ => Iff.rfl).symm
end
end VL

/-! VL27: dicts by whole numbers, a slot's own: {}, k in d, d[k] = e (a new k). -/
namespace VL
open PySem PySem.Spec L2
open PyProof.Rows hiding St
section
variable {X : Cx} {K : PySem.W.Frag} {Γ : List Nat} {W : WX} {I : Nat → Nat} {r k m m1 m2 : Nat} {B1 B2 : List Nat} {Γb Γ' : List Nat} {e a b ei : Expr} {f f1 f2 fi : Store → Option D} {te ti ty td : TE} {pos p : Pos}
def eDct0 : Store → Option D := fun _ => some (.dct [] [])
theorem sd_dct0 : SdE K Γ tDNewK 1 [] eDct0 := by
  refine ⟨fun {E ρ σ H Φ} R d e Q q => ?_⟩
  cases e
  intro p hp
  have o : Own K (upd H p (.dK [])) (fun a => a ∉ [p] ∧ ∀ j, j ∉ ([] : List Nat) → a ∉ Φ j) 1 (.dct [] []) (.ref p) [p] := .dct (ks := []) (ds := []) (vs := []) (fp := []) upd_same rfl .nil .nil
  exact q _ _ [p] ⟨ext_upd hp, fun a m => by rw [List.mem_singleton.mp m]; exact hp, List.nodup_cons.mpr ⟨List.not_mem_nil, .nil⟩, o⟩
theorem ev_dct0 : Ev X Γ (.Dict [] [] pos) 1 [] eDct0 tDNewK := ⟨pe_dnewK, sd_dct0⟩
theorem Own.dct_inv0 {H : Hp} {N : Addr → Prop} {ks : List Key} {ds : List D} {v : V} {fp : List Addr} (o : Own K H N 0 (.dct ks ds) v fp) : ∃ a vs, v = .ref a ∧ H a = some (.dK (ks.zip vs)) ∧ ks.length = vs.length ∧ OwnL K H N 0 ds vs fp := by
  cases o with
  | shd n h e nd l => exact ⟨_, _, rfl, h, e, l⟩
theorem Own.dct_inv {H : Hp} {N : Addr → Prop} {n : Nat} {ks : List Key} {ds : List D} {v : V} {fp : List Addr} (o : Own K H N n (.dct ks ds) v fp) (hn : n ≠ 0) : ∃ k a vs fp', n = k + 1 ∧ v = .ref a ∧ fp = a :: fp' ∧ H a = some (.dK (ks.zip vs)) ∧ ks.length = vs.length ∧ ks.Nodup ∧ OwnL K H N k ds vs fp' := by
  cases o with
  | shd => exact absurd rfl hn
  | dct h e nd l => exact ⟨_, _, _, _, rfl, rfl, rfl, h, e, nd, l⟩
def hasK (k : Key) (ks : List Key) : Bool := ks.any fun x => decide (x = k)
theorem hasK_iff {k : Key} {ks : List Key} : hasK k ks = true ↔ k ∈ ks := by
  unfold hasK
  rw [List.any_eq_true]
  constructor
  · rintro ⟨x, m, e⟩
    rw [← of_decide_eq_true e]; exact m
  · exact fun m => ⟨k, m, decide_eq_true rfl⟩
theorem hasK_no {k : Key} {ks : List Key} : hasK k ks = false ↔ k ∉ ks := by
  rw [← hasK_iff]
  cases hasK k ks <;> simp
theorem zip_has (k : Key) : ∀ (ks : List Key) (vs : List V), ks.length = vs.length → (valV (ks.zip vs) k).isSome = hasK k ks
  | [], _, _ => by simp [valV, hasK]
  | x :: ks, [], h => by cases h
  | x :: ks, v :: vs, h => by
    rw [List.zip_cons_cons]
    by_cases e : x = k
    · rw [valV_pos e, hasK_iff.mpr (by rw [e]; exact List.mem_cons_self)]; rfl
    · rw [valV_neg e, zip_has k ks vs (by rw [List.length_cons, List.length_cons] at h; omega)]
      show hasK k ks = (decide (x = k) || hasK k ks)
      rw [decide_eq_false e]; rfl
def gDIn (neg : Bool) : D → D → Option D
  | .int i, .dct ks _ => some (.bl (if neg then !hasK (.inl i) ks else hasK (.inl i) ks))
  | _, _ => none
theorem sd_din (h1 : SdE K Γ ty m1 B1 f1) (h2 : SdE K Γ td m2 B2 f2) : SdE K Γ (tDIn ty td) m [] (e2 (gDIn false) f1 f2) ∧ SdE K Γ (tDNotIn ty td) m [] (e2 (gDIn true) f1 f2) := by
  have key : ∀ neg, ∀ {E : Entry} {ρ : Store} {σ : St} {H : Hp} {Φ : Nat → List Addr}, StR K E Γ ρ σ H Φ → ∀ (d : D), e2 (gDIn neg) f1 f2 ρ = some d → ∀ Q : VK, (∀ v H' Ψ, Res K [] Φ m d H v H' Ψ → Q v H') →
      ty σ H fun y H1 => td σ H1 fun x H2 => ∃ a o, x = .ref a ∧ DGet H2 a y o ∧ Q (.bl (if neg then !o.isSome else o.isSome)) H2 := fun neg {E ρ σ H Φ} R d e Q q => by
    unfold e2 at e
    split at e
    · rename_i d1 e1
      split at e
      · rename_i d2 e3
        unfold gDIn at e
        split at e
        · rename_i i ks ds
          cases e
          refine h1.sh R e1 _ fun y H1 x1 o1 => ?_
          refine h2.sh (R.ext x1) e3 _ fun x H2 x2 o2 => ?_
          cases o1
          obtain ⟨a, vs, rfl, ha, hl, _⟩ := o2.dct_inv0
          refine ⟨a, _, rfl, DGet.k (k := .inl i) ha, ?_⟩
          rw [zip_has _ _ _ hl]
          exact q _ _ [] ⟨fun a o e => x2 a o (x1 a o e), fun a m => (nomatch m), .nil, .bl⟩
        · cases e
      · cases e
    · cases e
  exact ⟨⟨fun R d e Q q => key false R d e Q q⟩, ⟨fun R d e Q q => key true R d e Q q⟩⟩
section
variable {t1 t2 : TE}
theorem hu1 {u : Nat} (hu : u + 64 < cLine) : u + 1 < cLine := Nat.lt_of_le_of_lt (Nat.add_le_add_left (by decide) _) hu
theorem ev_din (hu : X.A.units + 64 < cLine) (h1 : Ev X Γ a m1 B1 f1 t1) (h2 : Ev X Γ b m2 B2 f2 t2) (hm : behindInMarks .In b = false := by rfl) : Ev X Γ (.Compare a [.In] [b] pos) m [] (e2 (gDIn false) f1 f2) (tDIn t1 t2) := ⟨pe_cmp (pc_din (hu1 hu) h1.pe h2.pe) hm, (sd_din h1.sd h2.sd).1⟩
theorem ev_dnin (hu : X.A.units + 64 < cLine) (h1 : Ev X Γ a m1 B1 f1 t1) (h2 : Ev X Γ b m2 B2 f2 t2) (hm : behindInMarks .NotIn b = false := by rfl) : Ev X Γ (.Compare a [.NotIn] [b] pos) m [] (e2 (gDIn true) f1 f2) (tDNotIn t1 t2) := ⟨pe_cmp (pc_dnotin (hu1 hu) h1.pe h2.pe) hm, (sd_din h1.sd h2.sd).2⟩
theorem tv_din (hu : X.A.units + 64 < cLine) (h1 : Ev X Γ a m1 B1 f1 t1) (h2 : Ev X Γ b m2 B2 f2 t2) (hm : behindInMarks .In b = false := by rfl) : Tv X Γ (.Compare a [.In] [b] pos) (tBo (e2 (gDIn false) f1 f2)) (tB (tDIn t1 t2)) := ⟨pt_cmp (pc_din (hu1 hu) h1.pe h2.pe) hm, sd_test (m := 0) (sd_din h1.sd h2.sd).1⟩
theorem tv_dnin (hu : X.A.units + 64 < cLine) (h1 : Ev X Γ a m1 B1 f1 t1) (h2 : Ev X Γ b m2 B2 f2 t2) (hm : behindInMarks .NotIn b = false := by rfl) : Tv X Γ (.Compare a [.NotIn] [b] pos) (tBo (e2 (gDIn true) f1 f2)) (tB (tDNotIn t1 t2)) := ⟨pt_cmp (pc_dnotin (hu1 hu) h1.pe h2.pe) hm, sd_test (m := 0) (sd_din h1.sd h2.sd).2⟩
end
def sSetD (i : Nat) (f fi : Store → Option D) : Store → Option O := fun ρ => match f ρ with
  | some d => (match eVar i ρ with
    | some (.dct ks ds) => (match fi ρ with
      | some (.int z) => if hasK (.inl z) ks = false ∧ ks.length < 16777216 then some (.nx (ρ.set i (some (.dct (ks ++ [.inl z]) (ds ++ [d]))))) else none
      | _ => none)
    | _ => none)
  | none => none
theorem OwnL.snoc0 {H : Hp} {N : Addr → Prop} {d : D} {v : V} (o : Own K H N 0 d v []) : ∀ {ds : List D} {vs : List V} {fp : List Addr}, OwnL K H N 0 ds vs fp → OwnL K H N 0 (ds ++ [d]) (vs ++ [v]) []
  | _, _, _, .nil => .cons (fp := []) (fps := []) o .nil
  | _, _, _, .cons h l => by
    have h0 := h.fp0 rfl
    subst h0
    exact .cons (fp := []) (fps := []) h (OwnL.snoc0 o l)
theorem putK_new {ks : List Key} {vs : List V} {k : Key} {v : V} (hl : ks.length = vs.length) (h : k ∉ ks) : putK (ks.zip vs) k v = (ks ++ [k]).zip (vs ++ [v]) := by
  unfold putK
  rw [valV_any, zip_has _ _ _ hl, hasK_no.mpr h, if_neg Bool.false_ne_true, List.zip_append hl]
  rfl
theorem sd_setD {i : Nat} (hm : Γ.getD i 0 = 1) (h : SdE K Γ te m1 [] f) (hi : SdE K Γ ti m2 [] fi) : SdS K W I r Γ Γb Γ (sDPut (tVar i) ti te) (sSetD i f fi) := by
  refine ⟨fun {E ρ σ H Φ} hI R o e D q => ?_⟩
  unfold sSetD at e
  split at e
  · rename_i d e1
    split at e
    · rename_i ks ds e0
      split at e
      · rename_i z e2
        split at e
        · rename_i c
          cases e
          refine h.sh R e1 _ fun v H1 x ov => ?_
          have R1 := R.ext x
          obtain ⟨w, h1, h2⟩ := R1.val i _ (eVar_some e0)
          obtain ⟨_, l, vs0, _, _, rfl, _, hl0, _⟩ := h2.dct_inv (by rw [hm]; decide)
          refine ⟨_, h1, ?_⟩
          refine hi.sh R1 e2 _ fun y H2 x2 oy => ?_
          cases oy
          have R2 := R1.ext x2
          obtain ⟨w, h1', h2⟩ := R2.val i _ (eVar_some e0)
          rw [h1] at h1'
          cases h1'
          obtain ⟨k', l', vs, fp, ek, el, efp, hl, hk, nd, lo⟩ := h2.dct_inv (by rw [hm]; decide)
          cases el
          rw [hm] at ek
          cases ek
          have fp0 := lo.fp0 rfl
          subst fp0
          refine ⟨l, _, rfl, DPut.k (k := .inl z) hl (by rw [List.length_zip, hk, Nat.min_self, ← hk]; exact c.2), ?_⟩
          have c1 := hasK_no.mp c.1
          rw [putK_new hk c1]
          have st : ∀ a o, H2 a = some o → a ≠ l → upd H2 l (.dK ((ks ++ [(Sum.inl z : Key)]).zip (vs ++ [v]))) a = some o := fun a o e n => by rw [upd_ne n]; exact e
          have lΦ : l ∈ Φ i := by rw [efp]; exact List.mem_cons_self
          have tup1 : ∀ a o, H2 a = some o → ¬ notTup o → a ≠ l := fun a o e t z => by subst z; rw [hl] at e; cases e; exact t trivial
          have ov2 : Own K H2 (fun a => ∀ j, a ∉ Φ j) 0 d v [] := ov.move (fun a o e _ => x2 a o e) (fun a o e z => ⟨x2 a o e, fun j => z.2 j List.not_mem_nil⟩) fun a m => (nomatch m)
          have nn : ∀ a, (∀ j, a ∉ Φ j) → a ≠ l := fun a z z' => z i (by rw [z']; exact lΦ)
          refine q _ _ _ (R2.mut (i := i) (v := .ref l) (Ψ := [l]) h1 (by rw [hm]; decide) (fun a o e n => st a o e fun z => n (by rw [z]; exact lΦ)) (fun a o e => by
            by_cases z : a = l
            · subst z; exact ⟨_, upd_same⟩
            · exact ⟨o, st a o e z⟩) ?_ (List.nodup_cons.mpr ⟨List.not_mem_nil, .nil⟩) (fun a m => by rw [List.mem_singleton.mp m]; exact .inl lΦ))
          rw [hm]
          exact .dct (fp := []) upd_same (by rw [List.length_append, List.length_append, hk]; rfl) (List.nodup_append.mpr ⟨nd, List.nodup_cons.mpr ⟨List.not_mem_nil, .nil⟩, fun a ma b mb e => c1 (by rw [List.mem_singleton.mp mb] at e; rw [← e]; exact ma)⟩)
            ((OwnL.snoc0 ov2 lo).move (fun a o e t => st a o e (tup1 a o e t)) (fun a o e z => ⟨st a o e (nn a z), fun m => nn a z (List.mem_singleton.mp m), fun j _ => z j⟩) fun a m => (nomatch m))
        · cases e
      · cases e
    · cases e
  · cases e
theorem s_setd (i : Nat) {x : Str} {pn pt : Pos} (hu : X.A.units + 64 < cLine) (he : Ev X Γ e m1 [] f te) (hi : Ev X Γ ei m2 [] fi ti) (hN : X.N[i]? = some x := by rfl) (hv : Vis X.env.scope x := by first | exact Or.inl rfl | exact Or.inr (Or.inl rfl) | exact Or.inr (Or.inr rfl)) (hm : Γ.getD i 0 = 1 := by rfl)
    (hs : swapsWith e (some (.Subscript (.Name x pn) ei pt)) pos.line X.env = pure false := by rfl) (hd : (x == ("__debug__" : Str)) = false := by decide) (hcd : (x == ("__classdict__" : Str)) = false := by decide) :
    Sv X W I r Γ Γb (.Assign [.Subscript (.Name x pn) ei pt] e pos) Γ (sSetD i f fi) (sDPut (tVar i) ti te) :=
  ⟨ps_dput (Nat.lt_of_le_of_lt (Nat.add_le_add_left (by decide) _) hu) (pe_var hN hv hd hcd) hi.pe he.pe hs, sd_setD hm he.sd hi.sd⟩
theorem setD_ok {ρ ρ' : Store} {i : Nat} {d : D} {ks : List Key} {ds : List D} {z : Int} (h1 : f ρ = some d) (h2 : eVar i ρ = some (.dct ks ds)) (h3 : fi ρ = some (.int z)) (h4 : hasK (.inl z) ks = false) (h5 : ks.length < 16777216) (h6 : ρ.set i (some (.dct (ks ++ [.inl z]) (ds ++ [d]))) = ρ') : sSetD i f fi ρ = some (.nx ρ') := by
  unfold sSetD
  simp only [h1, h2, h3, ← h6]
  rw [if_pos ⟨h4, h5⟩]
end
end VL

/-! VL28: x = [comprehension], where it captures a local that is lent to it. -/
namespace VL
open PySem PySem.Spec L2
open PyProof.Rows hiding St
section
variable {X : Cx} {Γ Γt Γ' Γb : List Nat} {W : WX} {I : Nat → Nat} {r k m : Nat} {e elt iter tg : Expr} {ifs : List Expr} {f : Store → Option D} {t te : TE} {tt : TT} {pos py spos : Pos}
theorem pl_setLc {i : Nat} {y : Str} {scope : Scope} {own : List (Str × Nat)} {wi : TI} {g : TG} {is : List Nat} {it : Store → Option (List D)} {gf : D → Store → Option Store} {pf : Store → Option Bool} (hc : X.calm = true) (hN : X.N.Nodup) (hy : X.N[i]? = some y) (hyl : X.env.scope.names.lookup y = some .local)
    (hsw : swapsWith (.ListComp elt [⟨tg, iter, ifs, 0⟩] scope pos) (some (.Name y py)) spos.line X.env = pure true) (hi : Iv X Γ tg iter it wi) (ok : BlkOk X.N X.env.scope scope own)
    (hg : ∀ (s : Shared) (H : Hp) (C : Addr) (cl : List (Str × Addr)) (fp : List Addr), Gv (X.blk s H scope (compEnvC scope cl C X.env) fp) (fun _ => 0) Γ tg Γt gf is g) (ht : ∀ (s : Shared) (H : Hp) (C : Addr) (cl : List (Str × Addr)) (fp : List Addr), Tsv (X.blk s H scope (compEnvC scope cl C X.env) fp) Γt ifs pf tt)
    (he : ∀ (s : Shared) (H : Hp) (C : Addr) (cl : List (Str × Addr)) (fp : List Addr), Ev (X.blk s H scope (compEnvC scope cl C X.env) fp) Γt elt k [] f te) (hss : ∀ i ∈ is, i ∈ own.map (·.2)) (hz : ∀ i ∈ is, i < Γ.length ∧ Γ.getD i 0 = 0) (hs : ∀ x, foldedSetIterable iter X.env x = pure x := by intro _; rfl) :
    PS X (.Assign [.Name y py] (.ListComp elt [⟨tg, iter, ifs, 0⟩] scope pos) spos) (tAsg (tLc wi g tt te (own.map (·.2))) (gName i)) :=
  ps_setLc hc hN hy hyl hsw hi.pi ok (fun s H C cl fp => (hg s H C cl fp).pg) (fun s H C cl fp => (ht s H C cl fp).ts) (fun s H C cl fp => (he s H C cl fp).pe) hs
theorem sv_lend {i : Nat} {y : Str} (p : PS X (.Assign [.Name y py] e spos) (tAsg t (gName i))) (ev : Ev X Γ e m [] f t) (hG : i < Γ.length) (hio : I i = 0) : Sv X W I r Γ Γb (.Assign [.Name y py] e spos) (Γ.set i m) (sSet i f) (tAsg t (gName i)) := ⟨p, sd_set ev.sd hG hio⟩
end
end VL

/-! VL29: len(set(x)), x a list of ints. -/
namespace VL
open PySem PySem.Spec L2
open PyProof.Rows hiding St
def met (ns : List Int) : Nat := (firstMet (fun i => ns.getD i 0) ns.length).length
theorem met_le (ns : List Int) : met ns ≤ ns.length := firstMet_length_le ..
theorem met_nd {ns : List Int} (nd : ns.Nodup) : met ns = ns.length := by
  have key : ∀ i, i ≤ ns.length → (firstMet (fun i => ns.getD i 0) i).length = i := fun i => by
    induction i with
    | zero => intro _; rfl
    | succ i ih =>
      intro hi
      rw [firstMet_succ, step_length, ih (by omega)]
      have : (firstMet (fun i => ns.getD i 0) i).any (· == ns.getD i 0) = false := by
        rw [firstMet_any, List.any_eq_false]
        intro x mx e
        obtain ⟨k, mk, rfl⟩ := List.mem_map.mp mx
        have hk := List.mem_range.mp mk
        have e := eq_of_beq e
        simp only [List.getD_eq_getElem?_getD, List.getElem?_eq_getElem (show k < ns.length by omega), List.getElem?_eq_getElem (show i < ns.length by omega), Option.getD_some] at e
        have := (List.getElem_inj nd).mp e
        omega
      rw [this, if_neg Bool.false_ne_true]
  exact key _ (Nat.le_refl _)
def tLenSetL (K : PySem.W.Frag) (ta : TE) : TE := fun σ H Q => ta σ H fun x H1 => ∃ l, ∃ ns : List Int, x = .ref l ∧ SqL K H1 l (ns.map V.int) ∧ ns.length ≤ 1000 ∧ Q (.int (met ns)) H1
section
variable {X : Cx}
theorem pe_lenSetL {a : Expr} {ta : TE} {p p2 q pos : Pos} (hc : X.calm = true) (hg : Gl X "len") (hm : X.mg "len" = none) (hg2 : Gl X "set") (hm2 : X.mg "set" = none) (ha : PE X a ta)
    (na : starEach [a] X.env = (false, eval a X.env) :: starEach [] X.env := by rfl) : PE X (.Call (.Name "len" p) [.Call (.Name "set" p2) [a] [] q] [] pos) (tLenSetL X.K ta) := by
  refine ⟨fun pins s σ H Q I h => ?_⟩
  refine Call_ (ld_blt I hg hm boot_len ?_)
  refine PyProof.Rows.callWith_builtin1 (PyProof.Rows.args_cons ?_ rfl) rfl rfl
  refine Call_ (ld_blt I hg2 hm2 boot_set ?_)
  refine PyProof.Rows.callWith_type1 (PyProof.Rows.args_cons (thn (ha.run pins s σ H _ I h) fun v s1 ⟨x, H1, I1, r1, q1⟩ => PyProof.Rows.args_nil ?_) na) na rfl
  obtain ⟨l, ns, rfl, hq, h1, q1⟩ := q1
  cases r1
  obtain ⟨its, r, pl, hz⟩ := I1.list hq
  have hi : IntsAre its ns := r.ints
  have hl : its.toArray.size = ns.length := by rw [List.size_toArray]; exact IntsAre.length hi
  refine PySem.call_set_list (items := its.toArray) (ns := ns) (I1.ok.hd hc) pl.isList (by simpa using hi) (by rw [hl]; unfold scanBound; omega) fun h' tk hS hk => ?_
  refine PyProof.Rows.args_nil ?_
  rw [hl] at hS
  obtain ⟨o, es, ep, t, ho, hex, hd, _, _, _, hf, hn⟩ := hS
  have I2 : Inv X pins σ H1 { s1 with heap := h', toks := tk } := I1.kept fun b o e => hk b o (Heap.lt_size e) e
  have ml := met_le ns
  have dn : es.size = met ns := hn
  refine call_len_set ho hex hd hf (by omega) ⟨.int (met ns), H1, I2.tok _, ⟨_, by rw [dn]⟩, q1⟩
def eLenSetL (f : Store → Option D) : Store → Option D := fun ρ => match f ρ with
  | some (.lst ds) => (match D.ints ds with | some ns => if ns.length ≤ 1000 then some (.int (met ns)) else none | none => none)
  | _ => none
variable {Γ : List Nat} {K : PySem.W.Frag} {a : Expr} {m : Nat} {B : List Nat} {f : Store → Option D} {te : TE}
theorem xev_lenSetL {p p2 q pos : Pos} (hc : X.calm = true) (hg : Gl X "len") (hm : X.mg "len" = none) (hg2 : Gl X "set") (hm2 : X.mg "set" = none) (ha : Ev X Γ a m B f te) (hK : X.K = K := by rfl)
    (na : starEach [a] X.env = (false, eval a X.env) :: starEach [] X.env := by rfl) : Ev X Γ (.Call (.Name "len" p) [.Call (.Name "set" p2) [a] [] q] [] pos) 0 B (eLenSetL f) (tLenSetL K te) := by
  subst hK
  refine ⟨pe_lenSetL hc hg hm hg2 hm2 ha.pe na, ⟨fun {E ρ σ H Φ} R d e Q q => ?_⟩⟩
  unfold eLenSetL at e
  split at e
  · rename_i ds e1
    split at e
    · rename_i ns e2
      split at e
      · rename_i hl
        cases e
        refine ha.sd.sh R e1 _ fun v H1 x o => ?_
        obtain ⟨l, vs, rfl, s, lo⟩ := o.lst_inv0
        rw [lo.ints e2] at s
        exact ⟨l, ns, rfl, s, hl, q _ _ [] ⟨x, fun a m => (nomatch m), .nil, .int⟩⟩
      · cases e
    · cases e
  · cases e
theorem lenSetL_ok {ρ : Store} {ns : List Int} (h : f ρ = some (.lst (ns.map .int))) (hl : ns.length ≤ 1000) : eLenSetL f ρ = some (.int (met ns)) := by
  unfold eLenSetL
  simp only [h, ints_map]
  exact if_pos hl
end
end VL

/-! VL30: defs that change their first argument, an owned list of what cannot be changed, and tell nothing: f(x, ..), x a slot. -/
namespace VL
open PySem PySem.Spec L2
open PyProof.Rows hiding St
/-- the promise: n arguments, the first one is changed to F of all -/
def sp1 (K : PySem.W.Frag) (n : Nat) (F : List D → Option D) : Sp := fun vs H Q _ => ∃ (d0 : D) (ds : List D) (d' : D) (v0 : V) (vr : List V) (fp : List Addr), vs = v0 :: vr ∧ ds.length + 1 = n ∧ Own K H (fun a => a ∉ fp) 1 d0 v0 fp ∧ fp.Nodup ∧ OwnL K H (fun a => a ∉ fp) 0 ds vr [] ∧ F (d0 :: ds) = some d' ∧
  ∀ H' Ψ, Kp (fun a => a ∉ fp) H H' → (∀ a o, H a = some o → ∃ o', H' a = some o') → Ψ.Nodup → (∀ a ∈ Ψ, a ∈ fp ∨ H a = none) → (∀ N, Own K H' N 1 d' v0 Ψ) → Q .non H'
def fn1 (N : Nat) (F : Store → Option O) : List D → Option D := fun ds => match F (ds.map some ++ List.replicate (N - ds.length) none) with
  | some (.rt .non ρ) => (match eVar 0 ρ with | some d => if d.immB 1 = true then some d else none | none => none)
  | some (.nx ρ) => (match eVar 0 ρ with | some d => if d.immB 1 = true then some d else none | none => none)
  | _ => none
theorem fn1_ok {N : Nat} {F : Store → Option O} {ds : List D} {d : D} {ρ : Store} (h : F (ds.map some ++ List.replicate (N - ds.length) none) = some (.nx ρ)) (h1 : eVar 0 ρ = some d) (h2 : d.immB 1 = true) : fn1 N F ds = some d := by
  unfold fn1
  rw [h]
  simp only [h1, h2, if_true]
section
variable {P : Program} {w : World} {mg : Str → Option Value} {base : Heap} {K : PySem.W.Frag}
theorem start_ownN {H : Hp} {M : Addr → Prop} {k : Nat} : ∀ {ds : List D} {vs : List V}, OwnL K H M 0 ds vs [] → ∀ (i : Nat) (d : D), (ds.map some ++ List.replicate k none)[i]? = some (some d) → ∃ v : V, (vs.map some ++ List.replicate k none)[i]? = some (some v) ∧ Own K H M 0 d v [] := by
  intro ds vs o i d e
  by_cases h : i < ds.length
  · rw [List.getElem?_append_left (by simpa using h), List.getElem?_map] at e
    cases e2 : ds[i]? with
    | none => rw [e2] at e; cases e
    | some d' =>
      rw [e2] at e; cases e
      obtain ⟨v, h1, h2⟩ := o.get0 e2
      refine ⟨v, ?_, h2⟩
      rw [List.getElem?_append_left (by rw [List.length_map]; exact lt_of_some h1), List.getElem?_map, h1]; rfl
  · rw [List.getElem?_append_right (by simpa using h), List.getElem?_replicate] at e
    split at e <;> cases e
def io1 : Nat → Nat := fun i => if i = 0 then 1 else 0
theorem fn_ok1 {x qual : Str} {params : Arguments} {body : List Stmt} {scope : Scope} {dfl : List V} {kws : List (Str × V)} {f : Addr} {fd : FuncData} {N ps : List Str} {k : Nat} {F : Store → Option O} (Fn : FunD K x qual params body scope dfl kws f fd) (S : FnScope N ps scope) (hN : 0 < N.length)
    (hb : ∀ (cdv : Value) (A : Around) (outer : List Env) (s : Shared) (H : Hp) (E : XK), Room k (A.deeper (envOfC qual scope s.heap.objs.size f cdv)) →
      ∃ t Γb Γ', Γ'.getD 0 0 = 1 ∧ Lv (cxOf CX0 P w K mg base N qual scope f cdv A outer s H E).nox (fun _ _ _ _ => False) io1 0 (1 :: List.replicate (N.length - 1) 0) Γb body Γ' F t) :
    FnOk P w K mg base CX0 (k + 1) f fd ps (sp1 K ps.length (fn1 N.length F)) := by
  refine Fn.ok S (fun vs H Q E h => ?_) (fun cdv A outer s H vs Q E hr h => ?_)
  · obtain ⟨d0, ds, d', v0, vr, fp, rfl, hn, _, _, o, _⟩ := h
    rw [List.length_cons, o.len, hn]
  · obtain ⟨d0, ds, d', v0, vr, fp, rfl, hn, o0, ndf, o, e, q⟩ := h
    obtain ⟨t, Γb, Γ', hΓ, L⟩ := hb cdv A outer s H E hr
    refine ⟨t, PSs.nox L.pss, ?_⟩
    have hpl : ps.length ≤ N.length := by have := congrArg List.length S.pre; rw [List.length_take] at this; omega
    have gz : ∀ i, (1 :: List.replicate (N.length - 1) 0).getD (i + 1) 0 = 0 := fun i => by
      rw [List.getD_eq_getElem?_getD, List.getElem?_cons_succ, List.getElem?_replicate]
      split <;> rfl
    obtain ⟨Φ, hΦ⟩ : ∃ Φ : Nat → List Addr, Φ = fun i => if i = 0 then fp else [] := ⟨_, rfl⟩
    have Φ0 : Φ 0 = fp := by rw [hΦ]; rfl
    have Φs : ∀ i, i ≠ 0 → Φ i = [] := fun i n => by rw [hΦ]; exact if_neg n
    have nn : ∀ a, a ∉ fp → ∀ j, a ∉ Φ j := fun a z j m => by
      by_cases j0 : j = 0
      · rw [j0, Φ0] at m; exact z m
      · rw [Φs j j0] at m; cases m
    have io0 : ∀ i, io1 i ≠ 0 → i = 0 := fun i n => Classical.byContradiction fun z => n (if_neg z)
    obtain ⟨En, hEn⟩ : ∃ En : Entry, En = ⟨H, Φ, fun _ => v0, io1, []⟩ := ⟨_, rfl⟩
    have st : L2.start N (v0 :: vr) = some v0 :: (vr.map some ++ List.replicate (N.length - (ds.length + 1)) none) := by
      unfold L2.start
      rw [List.length_cons, o.len]; rfl
    have sd : (d0 :: ds).map some ++ List.replicate (N.length - (d0 :: ds).length) none = some d0 :: (ds.map some ++ List.replicate (N.length - (ds.length + 1)) none) := rfl
    have R : StR K En (1 :: List.replicate (N.length - 1) 0) ((d0 :: ds).map some ++ List.replicate (N.length - (d0 :: ds).length) none) (L2.start N (v0 :: vr)) H Φ := by
      rw [st, sd, hEn]
      refine ⟨?_, ?_, fun i d e => ?_, fun i _ g => ?_, fun i => ?_, fun i j a m m' => ?_, fun i a m => ?_, fun i a m => ?_, .of_ext (.rfl' _), fun a o e => ⟨o, e⟩, fun i n => ?_, fun p m => (nomatch m)⟩
      · rw [List.length_cons, List.length_cons, List.length_append, List.length_append, List.length_map, List.length_map, List.length_replicate, List.length_replicate, o.len]
      · rw [List.length_cons, List.length_cons, List.length_append, List.length_map, List.length_replicate, List.length_replicate]; omega
      · cases i with
        | zero =>
          cases e
          exact ⟨v0, rfl, by rw [Φ0]; exact o0.move (fun a o e _ => e) (fun a o e z => ⟨e, nn a z⟩) fun a _ o e => e⟩
        | succ i =>
          obtain ⟨v, h1, h2⟩ := start_ownN (k := N.length - (ds.length + 1)) o i d e
          refine ⟨v, h1, ?_⟩
          rw [gz i, Φs (i + 1) (Nat.succ_ne_zero i)]
          exact h2.move (fun a o e _ => e) (fun a o e z => ⟨e, nn a z⟩) fun a m => (nomatch m)
      · by_cases i0 : i = 0
        · subst i0; cases g
        · exact Φs i i0
      · by_cases i0 : i = 0
        · rw [i0, Φ0]; exact ndf
        · rw [Φs i i0]; exact .nil
      · by_cases i0 : i = 0
        · by_cases j0 : j = 0
          · rw [i0, j0]
          · rw [Φs j j0] at m'; cases m'
        · rw [Φs i i0] at m; cases m
      · by_cases i0 : i = 0
        · rw [i0, Φ0] at m; exact o0.live a m
        · rw [Φs i i0] at m; cases m
      · by_cases i0 : i = 0
        · subst i0; exact .inr ⟨(by show io1 0 ≠ 0; decide), m⟩
        · rw [Φs i i0] at m; cases m
      · rw [io0 i n]; rfl
    have fin : ∀ {Γ2 : List Nat} {ρ' : Store} {σ' : St} {H' : Hp} {Φ' : Nat → List Addr}, Γ2.getD 0 0 = 1 → StR K En Γ2 ρ' σ' H' Φ' → eVar 0 ρ' = some d' → d'.immB 1 = true → Q .non H' := fun {Γ2 ρ' σ' H' Φ'} g R' ed im => by
      obtain ⟨v, h1, h2⟩ := R'.val 0 d' (eVar_some ed)
      have h3 := R'.iv 0 (by rw [hEn]; show io1 0 ≠ 0; decide)
      rw [h1] at h3
      have ev : v = v0 := by rw [hEn] at h3; cases h3; rfl
      subst ev
      rw [g] at h2
      refine q H' (Φ' 0) ?_ ?_ (R'.nd 0) (fun a m => ?_) fun M => h2.immB im
      · have := R'.kp
        rw [hEn] at this
        exact this.mono fun a z i n => by rw [io0 i n]; show a ∉ Φ 0; rw [Φ0]; exact z
      · have := R'.dm; rw [hEn] at this; exact this
      · rcases R'.nw 0 a m with z | z
        · rw [hEn] at z; exact .inr z
        · rw [hEn] at z
          have z2 : a ∈ Φ 0 := z.2
          rw [Φ0] at z2; exact .inl z2
    unfold fn1 at e
    cases eo : F ((d0 :: ds).map some ++ List.replicate (N.length - (d0 :: ds).length) none) with
    | none => rw [eo] at e; cases e
    | some ob =>
      rw [eo] at e
      refine L.sd.run (E := En) (by rw [hEn]) R ob eo _ ?_
      cases ob with
      | nx ρ' =>
        dsimp only at e
        split at e
        · rename_i d2 e2
          split at e
          · rename_i im
            cases e
            exact fun σ' H' Φ' R' => fin hΓ R' e2 im
          · cases e
        · cases e
      | rt d2 ρ' =>
        cases d2 with
        | non =>
          dsimp only at e
          split at e
          · rename_i d2 e2
            split at e
            · rename_i im
              cases e
              rintro v H' ⟨Γ2, σ2, Φ2, Ψ2, R2, g2, _, _, _, o2⟩
              have ov := o2 (fun _ => True)
              cases ov
              exact fin ((g2 0 (by rw [hEn]; show io1 0 ≠ 0; decide)).trans (by rw [hEn]; rfl)) R2 e2 im
            · cases e
          · cases e
        | _ => cases e
      | bk ρ' => cases e
      | ct ρ' => cases e
      | ex C w ρ' => cases e
structure Cal1 (P : Program) (w : World) (K : PySem.W.Frag) (mg : Str → Option Value) (base : Heap) (k : Nat) (x : Str) (n : Nat) (F : List D → Option D) : Prop where
  ex : ∃ (f : Addr) (fd : FuncData) (ps : List Str), FnOk P w K mg base CX0 k f fd ps (sp1 K n F) ∧ mg x = some (.ref f) ∧ PySem.W.keepIn K (.ref f) = true ∧ Binds K fd ps []
theorem cal1_mk {x qual : Str} {params : Arguments} {body : List Stmt} {scope : Scope} {f : Addr} {fd : FuncData} {N ps : List Str} {k : Nat} {F : Store → Option O} (Fn : FunD K x qual params body scope [] [] f fd) (gf : mg x = some (.ref f)) (S : FnScope N ps scope)
    (hbd : ∀ (kV doc pm : Value) (an : Option Addr) (cdv ct : Value) (us : List Value), us.length = ps.length → bindArgs (PySem.W.fnOf x qual params body scope .none kV doc pm an cdv ct) ⟨us, []⟩ = pure (ps.zip us)) (hN : 0 < N.length)
    (hb : ∀ (cdv : Value) (A : Around) (outer : List Env) (s : Shared) (H : Hp) (E : XK), Room k (A.deeper (envOfC qual scope s.heap.objs.size f cdv)) →
      ∃ t Γb Γ', Γ'.getD 0 0 = 1 ∧ Lv (cxOf CX0 P w K mg base N qual scope f cdv A outer s H E).nox (fun _ _ _ _ => False) io1 0 (1 :: List.replicate (N.length - 1) 0) Γb body Γ' F t) :
    Cal1 P w K mg base (k + 1) x ps.length (fn1 N.length F) := ⟨f, fd, ps, fn_ok1 Fn S hN hb, gf, Fn.kp, Fn.bindsN hbd⟩
end
section
variable {X : Cx} {K : PySem.W.Frag} {Γ : List Nat} {W : WX} {I : Nat → Nat} {r k m : Nat} {B Γb : List Nat} {es : List Expr} {fa : Store → Option (List D)} {ta : TA} {pos p : Pos}
theorem SdA.lendIn (i : Nat) (h : SdA K (Γ.set i 0) ta m B fa) : SdA K Γ ta m (i :: B) fa := ⟨fun R ds e Q q => h.run (R.dem i) ds e Q fun vs H' Ψ r => q vs H' Ψ ⟨r.ext, r.new, r.nd, r.own.move (fun a o e _ => e) (fun a o e z => ⟨e, z.1, fun j n => by
  have := z.2 j fun m => n (List.mem_cons_of_mem _ m)
  have ji : j ≠ i := fun e => n (by rw [e]; exact List.mem_cons_self)
  rw [if_neg ji] at this
  exact this⟩) fun a _ o e => e⟩⟩
theorem Av.lendIn (i : Nat) (h : Av X (Γ.set i 0) es m B fa ta) : Av X Γ es m (i :: B) fa ta := ⟨h.pa, h.sd.lendIn i⟩
/-- f(x, ..), x the slot i, changed -/
def sCallM (i n : Nat) (F : List D → Option D) (fa : Store → Option (List D)) : Store → Option O := fun ρ => match eVar i ρ with
  | some d0 => (match fa ρ with
    | some ds => if ds.length + 1 = n then (match F (d0 :: ds) with | some d' => some (.nx (ρ.set i (some d'))) | none => none) else none
    | none => none)
  | none => none
theorem callM_ok {i n : Nat} {F : List D → Option D} {ρ ρ' : Store} {d0 d' : D} {ds : List D} (h1 : eVar i ρ = some d0) (h2 : fa ρ = some ds) (h3 : ds.length + 1 = n) (h4 : F (d0 :: ds) = some d') (h5 : ρ.set i (some d') = ρ') : sCallM i n F fa ρ = some (.nx ρ') := by
  unfold sCallM
  simp only [h1, h2, h4, h5]
  exact if_pos h3
theorem sd_callM {i n : Nat} {F : List D → Option D} {E0 : XK} (hm : Γ.getD i 0 = 1) (iB : i ∉ B) (ha : SdA K Γ ta 0 B fa) : SdS K W I r Γ Γb Γ (tDrop (tCall (sp1 K n F) [] E0 (tCons (tVar i) ta))) (sCallM i n F fa) := by
  refine ⟨fun {E ρ σ H Φ} hI R o e D q => ?_⟩
  unfold sCallM at e
  split at e
  · rename_i d0 e0
    split at e
    · rename_i ds e1
      split at e
      · rename_i hn
        split at e
        · rename_i d' e2
          cases e
          obtain ⟨v, h1, h2⟩ := R.val i _ (eVar_some e0)
          refine ⟨v, h1, ?_⟩
          refine ha.sh R e1 _ fun vs H1 x o => ?_
          have R1 := R.ext x
          obtain ⟨v', h1', h2'⟩ := R1.val i _ (eVar_some e0)
          rw [h1] at h1'
          cases h1'
          rw [hm] at h2'
          refine ⟨d0, ds, d', v, vs, Φ i, by rw [List.append_nil], hn, h2'.move (fun a o e _ => e) (fun a o e z => ⟨e, z i⟩) fun a _ o e => e, R1.nd i, o.move (fun a o e _ => e) (fun a o e z => ⟨e, z.2 i iB⟩) fun a m => (nomatch m), e2, fun H2 Ψ kp dm nd src own => ?_⟩
          refine q _ _ _ (R1.mut (i := i) (v := v) (Ψ := Ψ) h1 (by rw [hm]; decide) (fun a o e n => kp.kp a o e n) dm ?_ nd src)
          rw [hm]
          exact own _
        · cases e
      · cases e
    · cases e
  · cases e
theorem s_callM {k j n i : Nat} {F : List D → Option D} {x y : Str} {py pc ps : Pos} (c : Cal1 X.prog X.w X.K X.mg X.base k x n F) (hr : Room j X.A) (hkj : k ≤ j) (hg : Gl X x) (hN : X.N[i]? = some y) (hm : Γ.getD i 0 = 1) (iB : i ∉ B) (ha : Av X Γ es 0 B fa ta)
    (hv : Vis X.env.scope y := by first | exact Or.inl rfl | exact Or.inr (Or.inl rfl) | exact Or.inr (Or.inr rfl)) (hd : (y == ("__debug__" : Str)) = false := by decide) (hcd : (y == ("__classdict__" : Str)) = false := by decide)
    (hdb : (x == ("__debug__" : Str)) = false := by decide) (he : starEach (.Name y py :: es) X.env = (false, eval (.Name y py) X.env) :: starEach es X.env := by rfl) (hpl : (backTo pc (starEach es X.env)).any (·.1) = false := by rfl) (hs : swapsWith (.Call (.Name x p) (.Name y py :: es) [] pc) none ps.line X.env = pure false := by rfl) :
    Sv X W I r Γ Γb (.Expr (.Call (.Name x p) (.Name y py :: es) [] pc) ps) Γ (sCallM i n F fa) (tDrop (tCall (sp1 X.K n F) [] E0 (tCons (tVar i) ta))) := by
  obtain ⟨f, fd, pl, G, hmm, hk, hb⟩ := c.ex
  exact ⟨ps_expr (pe_call (dvs := []) G (hr.mono hkj) hg hmm hk hb .nil pass0 (pa_cons (pe_var hN hv hd hcd) ha.pa he) hdb he hpl) hs, sd_callM hm iB ha.sd⟩
end
end VL

/-! VL31: defs that may raise an error of an own class (without a field), and try: x = f(..) except C as e: y = [isinstance(e, ..), ..]; y = y + [..]. -/
namespace VL
open PySem PySem.Spec L2
open PyProof.Rows hiding St
/-- what a def tells: a value, or an error, by its class's number -/
inductive R1 where
  | ret (d : D) | exc (t : Nat)
def wTag (cs : Nat → Addr) (W : WX) : WX := fun cls d σ H => ∃ t, cls = .ref t ∧ W (.ref (cs t)) d σ H
/-- the promise -/
def spX (K : PySem.W.Frag) (cs : Nat → Addr) (n r : Nat) (F : List D → Option R1) : Sp := fun vs H Q E => ∃ (ds : List D) (o : R1), ds.length = n ∧ OwnL K H (fun _ => True) 0 ds vs [] ∧ F ds = some o ∧
  (∀ d, o = .ret d → ∀ v H' Ψ, Ext H H' → (∀ a ∈ Ψ, H a = none) → Ψ.Nodup → (∀ N, Own K H' N r d v Ψ) → Q v H') ∧ (∀ t, o = .exc t → ∀ H', Ext H H' → E (.ref (cs t)) none H')
def fnX (N : Nat) (F : Store → Option O) : List D → Option R1 := fun ds => match F (ds.map some ++ List.replicate (N - ds.length) none) with
  | some (.rt d _) => some (.ret d)
  | some (.nx _) => some (.ret .non)
  | some (.ex t none _) => some (.exc t)
  | _ => none
section
variable {K : PySem.W.Frag} {P : Program} {w : World} {mg : Str → Option Value} {base : Heap} {cs : Nat → Addr}
theorem fn_okX {x qual : Str} {params : Arguments} {body : List Stmt} {scope : Scope} {dfl : List V} {kws : List (Str × V)} {f : Addr} {fd : FuncData} {N ps : List Str} {k r : Nat} {F : Store → Option O} (Fn : FunD K x qual params body scope dfl kws f fd) (S : FnScope N ps scope)
    (hb : ∀ (cdv : Value) (A : Around) (outer : List Env) (s : Shared) (H : Hp) (E : XK), Room k (A.deeper (envOfC qual scope s.heap.objs.size f cdv)) →
      ∃ t Γb Γ', Lv (cxOf (L2.CX P w) P w K mg base N qual scope f cdv A outer s H E) (wTag cs fun cls d _ H => E cls d H) (fun _ => 0) r (List.replicate N.length 0) Γb body Γ' F t) :
    FnOk P w K mg base (L2.CX P w) (k + 1) f fd ps (spX K cs ps.length r (fnX N.length F)) := by
  refine Fn.ok S (fun vs H Q E h => ?_) (fun cdv A outer s H vs Q E hr h => ?_)
  · obtain ⟨ds, d, hn, o, _⟩ := h
    rw [o.len, hn]
  · obtain ⟨ds, d, hn, o, e, q, qe⟩ := h
    obtain ⟨t, Γb, Γ', L⟩ := hb cdv A outer s H E hr
    refine ⟨t, L.pss, ?_⟩
    have hpl : ps.length ≤ N.length := by have := congrArg List.length S.pre; rw [List.length_take] at this; omega
    have gz : ∀ i, (List.replicate N.length 0).getD i 0 = 0 := fun i => by
      rw [List.getD_eq_getElem?_getD, List.getElem?_replicate]
      split <;> rfl
    have R : StR K ⟨H, fun _ => [], fun _ => .non, fun _ => 0, []⟩ (List.replicate N.length 0) (ds.map some ++ List.replicate (N.length - ds.length) none) (L2.start N vs) H (fun _ => []) := by
      refine ⟨?_, by rw [List.length_replicate, List.length_append, List.length_map, List.length_replicate]; omega, fun i d e => ?_, fun _ _ _ => rfl, fun _ => .nil, fun _ _ _ m => (nomatch m), fun _ _ m => (nomatch m), fun _ _ m => (nomatch m), .of_ext (.rfl' _), fun a o e => ⟨o, e⟩, fun i n => absurd rfl n, fun p m => (nomatch m)⟩
      · unfold L2.start
        rw [List.length_append, List.length_append, List.length_map, List.length_map, List.length_replicate, List.length_replicate, o.len]
      · obtain ⟨v, h1, h2⟩ := start_own o i d e
        refine ⟨v, h1, ?_⟩
        rw [gz i]
        exact h2.move (fun a o e _ => e) (fun a o e _ => ⟨e, fun j => List.not_mem_nil⟩) fun a m => (nomatch m)
    unfold fnX at e
    cases eo : F (ds.map some ++ List.replicate (N.length - ds.length) none) with
    | none => rw [eo] at e; cases e
    | some ob =>
      rw [eo] at e
      have base : ∀ {Γ ρ σ H' Φ}, StR K ⟨H, fun _ => [], fun _ => .non, fun _ => 0, []⟩ Γ ρ σ H' Φ → Ext H H' := fun R' a o e => R'.kp.kp a o e fun i n => absurd rfl n
      refine L.sd.run (E := ⟨H, fun _ => [], fun _ => .non, fun _ => 0, []⟩) rfl R ob eo _ ?_
      cases ob with
      | nx ρ' =>
        cases e
        exact fun σ' H' Φ' R' => q .non rfl .non H' [] (base R') (fun a m => (nomatch m)) .nil fun N => .non
      | rt d' ρ' =>
        cases e
        rintro v H' ⟨Γ2, σ2, Φ2, Ψ2, R2, _, new, nd, _, o2⟩
        exact q d' rfl v H' Ψ2 (base R2) new nd o2
      | bk ρ' => cases e
      | ct ρ' => cases e
      | ex C w ρ' =>
        cases w with
        | some _ => cases e
        | none =>
          cases e
          rintro Γ2 σ2 H' Φ2 dx R2 hx
          have hx : dx = none := hx
          subst hx
          exact ⟨C, rfl, qe C rfl H' (base R2)⟩
structure CalX (P : Program) (w : World) (K : PySem.W.Frag) (mg : Str → Option Value) (base : Heap) (cs : Nat → Addr) (k : Nat) (x : Str) (n r : Nat) (F : List D → Option R1) : Prop where
  ex : ∃ (f : Addr) (fd : FuncData) (ps : List Str), FnOk P w K mg base (L2.CX P w) k f fd ps (spX K cs n r F) ∧ mg x = some (.ref f) ∧ PySem.W.keepIn K (.ref f) = true ∧ Binds K fd ps []
theorem calX_mk {x qual : Str} {params : Arguments} {body : List Stmt} {scope : Scope} {f : Addr} {fd : FuncData} {N ps : List Str} {k r : Nat} {F : Store → Option O} (Fn : FunD K x qual params body scope [] [] f fd) (gf : mg x = some (.ref f)) (S : FnScope N ps scope)
    (hbd : ∀ (kV doc pm : Value) (an : Option Addr) (cdv ct : Value) (us : List Value), us.length = ps.length → bindArgs (PySem.W.fnOf x qual params body scope .none kV doc pm an cdv ct) ⟨us, []⟩ = pure (ps.zip us))
    (hb : ∀ (cdv : Value) (A : Around) (outer : List Env) (s : Shared) (H : Hp) (E : XK), Room k (A.deeper (envOfC qual scope s.heap.objs.size f cdv)) →
      ∃ t Γb Γ', Lv (cxOf (L2.CX P w) P w K mg base N qual scope f cdv A outer s H E) (wTag cs fun cls d _ H => E cls d H) (fun _ => 0) r (List.replicate N.length 0) Γb body Γ' F t) :
    CalX P w K mg base cs (k + 1) x ps.length r (fnX N.length F) := ⟨f, fd, ps, fn_okX Fn S hb, gf, Fn.kp, Fn.bindsN hbd⟩
end
/-! ### raise C("..") -/
/-- what the class named x says, which is raised -/
structure ExcR (K : PySem.W.Frag) (mg : Str → Option Value) (x : Str) (C : Addr) : Prop where
  g : mg x = some (.ref C)
  e : PySem.W.excIn K C He.veBase "ValueError.__new__" = true
  k : PySem.W.keepIn K (.ref C) = true
  b : PySem.W.subIn K (.ref C) (.type "BaseException") = some true
  t : PySem.W.typeIn K (.ref C) = some (.type "type")
section
variable {X : Cx} {K : PySem.W.Frag} {mg : Str → Option Value} {Γ Γ' Γb : List Nat} {W : WX} {I : Nat → Nat} {r : Nat} {cs : Nat → Addr} {C : Addr}
def sRaise (t : Nat) : Store → Option O := fun ρ => some (.ex t none ρ)
theorem s_raise {x m : Str} {j t : Nat} {p p2 pos pos' : Pos} (e : ExcR K mg x C) (hcs : cs t = C) (hc : X.calm = true) (tk : Takes X W) (hg : Gl X x) (hK : X.K = K := by rfl) (hm : X.mg = mg := by rfl) (hdb : (x == ("__debug__" : Str)) = false := by decide) :
    Sv X (wTag cs W) I r Γ Γb (.Raise (some (.Call (.Name x p) [.Constant (.str m) j p2] [] pos)) none pos') Γ' (sRaise t) (fun _ σ H => W (.ref C) none σ H) := by
  subst hK hm
  refine ⟨ps_raise hc tk (pmk_own PySem.F.excBase_ValueError e.e e.g e.k (raises_own e.b e.t) hg hdb), ⟨fun {E ρ σ H Φ} hI R o eo D q => ?_⟩⟩
  cases eo
  obtain ⟨t', et, h⟩ := q Γ σ H Φ none R rfl
  cases et
  rw [hcs] at h
  exact h
end
/-! ### isinstance(e, ..) in the suite -/
section
variable {X : Cx} {i : Nat} {a : Addr}
structure IsV (X : Cx) (i : Nat) (a : Addr) (e : Expr) (b : Bool) (t : TE) : Prop where
  pe : PE X e t
  sd : ∀ (σ : St) (H : Hp) (Q : VK), σ[i]? = some (some (.ref a)) → Q (.bl b) H → t σ H Q
structure IsA (X : Cx) (i : Nat) (a : Addr) (es : List Expr) (bs : List Bool) (t : TA) : Prop where
  pa : PA X es t
  sd : ∀ (σ : St) (H : Hp) (Q : List V → Hp → Prop), σ[i]? = some (some (.ref a)) → Q (bs.map .bl) H → t σ H Q
theorem isA_nil : IsA X i a [] [] tNil := ⟨pa_nil, fun _ _ _ _ q => q⟩
theorem isA_cons {e : Expr} {es : List Expr} {b : Bool} {bs : List Bool} {t : TE} {ta : TA} (h1 : IsV X i a e b t) (h2 : IsA X i a es bs ta) (hs : starEach (e :: es) X.env = (false, eval e X.env) :: starEach es X.env := by rfl) : IsA X i a (e :: es) (b :: bs) (tCons t ta) :=
  ⟨pa_cons h1.pe h2.pa hs, fun σ H Q hi q => h1.sd σ H _ hi (h2.sd σ H _ hi q)⟩
theorem isV_and {e1 e2 : Expr} {b1 b2 : Bool} {t1 t2 : TE} {pos : Pos} (h1 : IsV X i a e1 b1 t1) (h2 : IsV X i a e2 b2 t2) : IsV X i a (.BoolOp .And [e1, e2] pos) (b1 && b2) (tAndV t1 t2) :=
  ⟨pe_and h1.pe (pe_one h2.pe), fun σ H Q hi q => h1.sd σ H _ hi ⟨b1, rfl, by
    cases b1 with
    | true => rw [if_pos rfl]; exact h2.sd σ H _ hi q
    | false => rw [if_neg Bool.false_ne_true]; exact q⟩⟩
theorem isV_own {D C : Addr} {oe : Obj} {pn : List (Addr × Obj)} {b : Bool} {y x : Str} {p p1 p2 pos : Pos} (hC : ExcC X.K D) (hz : Zc (.ref D) none oe) (hf : ∃ vs, oe.data = .fields vs) (hg : Gl X "isinstance") (hm : X.mg "isinstance" = none) (hi : X.N[i]? = some y) (hgx : Gl X x) (hmx : X.mg x = some (.ref C))
    (hk : PySem.W.kitOne X.K (.ref D) (.ref C) = some b)
    (hv : Vis X.env.scope y := by first | exact Or.inl rfl | exact Or.inr (Or.inl rfl) | exact Or.inr (Or.inr rfl)) (hd : (y == ("__debug__" : Str)) = false := by decide) (hcd : (y == ("__classdict__" : Str)) = false := by decide) (hdx : (x == ("__debug__" : Str)) = false := by decide)
    (he : starEach [.Name y p1, .Name x p2] X.env = (false, eval (.Name y p1) X.env) :: starEach [.Name x p2] X.env := by rfl) (he2 : starEach [.Name x p2] X.env = (false, eval (.Name x p2) X.env) :: starEach [] X.env := by rfl) (hpl : (backTo pos (starEach [.Name x p2] X.env)).any (·.1) = false := by rfl) :
    IsV (X.suite a ((a, oe) :: pn)) i a (.Call (.Name "isinstance" p) [.Name y p1, .Name x p2] [] pos) b (tCB (rIsE X.K D a) (tCons (tVar i) (tCons (tC (.ref C)) tNil))) :=
  ⟨pe_callB (X := X.suite a ((a, oe) :: pn)) (call_isE hC hz hf) hg hm (by decide +kernel) (pa_cons (pe_var hi hv hd hcd) (pa_cons (pe_glob hgx hmx rfl hdx) pa_nil he2) he) (by decide) (by decide) he hpl,
    fun σ H Q h q => ⟨_, h, .ref C, .ref C, b, rfl, fun u r => r, hk, q⟩⟩
theorem isV_ty {D : Addr} {T : String} {oe : Obj} {pn : List (Addr × Obj)} {b : Bool} {y x : Str} {p p1 p2 pos : Pos} (hC : ExcC X.K D) (hz : Zc (.ref D) none oe) (hf : ∃ vs, oe.data = .fields vs) (hg : Gl X "isinstance") (hm : X.mg "isinstance" = none) (hi : X.N[i]? = some y) (hgx : Gl X x) (hmx : X.mg x = none) (hvx : bootBuiltins x = some (.type T)) (hnx : x ≠ "__name__")
    (hk : PySem.W.kitOne X.K (.ref D) (.type T) = some b)
    (hv : Vis X.env.scope y := by first | exact Or.inl rfl | exact Or.inr (Or.inl rfl) | exact Or.inr (Or.inr rfl)) (hd : (y == ("__debug__" : Str)) = false := by decide) (hcd : (y == ("__classdict__" : Str)) = false := by decide) (hdx : (x == ("__debug__" : Str)) = false := by decide)
    (he : starEach [.Name y p1, .Name x p2] X.env = (false, eval (.Name y p1) X.env) :: starEach [.Name x p2] X.env := by rfl) (he2 : starEach [.Name x p2] X.env = (false, eval (.Name x p2) X.env) :: starEach [] X.env := by rfl) (hpl : (backTo pos (starEach [.Name x p2] X.env)).any (·.1) = false := by rfl) :
    IsV (X.suite a ((a, oe) :: pn)) i a (.Call (.Name "isinstance" p) [.Name y p1, .Name x p2] [] pos) b (tCB (rIsE X.K D a) (tCons (tVar i) (tCons (tC (.ty T)) tNil))) :=
  ⟨pe_callB (X := X.suite a ((a, oe) :: pn)) (call_isE hC hz hf) hg hm (by decide +kernel) (pa_cons (pe_var hi hv hd hcd) (pa_cons (pe_bltn (v := .ty T) hgx hmx hvx rfl hnx hdx) pa_nil he2) he) (by decide) (by decide) he hpl,
    fun σ H Q h q => ⟨_, h, .ty T, .type T, b, rfl, fun u r => r, hk, q⟩⟩
end
/-! ### the suite -/
theorem ownL_bl {K : PySem.W.Frag} {H : Hp} {N : Addr → Prop} {n : Nat} : ∀ (bs : List Bool), OwnL K H N n (bs.map D.bl) (bs.map V.bl) []
  | [] => .nil
  | b :: bs => .cons (fp := []) (fps := []) .bl (ownL_bl bs)
/-- what stands in a slot that is not in use -/
theorem StR.junk {K : PySem.W.Frag} {E : Entry} {Γ : List Nat} {ρ : Store} {σ : St} {H : Hp} {Φ : Nat → List Addr} (R : StR K E Γ ρ σ H Φ) (i : Nat) (x : Option V) (hi : E.io i = 0) : StR K E Γ (ρ.set i none) (σ.set i x) H Φ := by
  refine ⟨by rw [List.length_set, List.length_set]; exact R.len, by rw [List.length_set]; exact R.gl, fun k d e => ?_, fun k lk g => R.em k (by rw [List.length_set] at lk; exact lk) g, R.nd, R.dj, R.lv, R.nw, R.kp, R.dm, fun k n => ?_, R.gh⟩
  · by_cases hk : k = i
    · subst hk
      rw [List.getElem?_set] at e
      split at e
      · split at e <;> cases e
      · rename_i z; exact absurd rfl z
    · rw [List.getElem?_set_ne (Ne.symm hk)] at e ⊢
      exact R.val k d e
  · have hk : k ≠ i := fun z => n (by rw [z]; exact hi)
    rw [List.getElem?_set_ne (Ne.symm hk)]
    exact R.iv k n
structure SuV (X : Cx) (I : Nat → Nat) (i : Nat) (a : Addr) (j : Nat) (L : List Bool) (Γ : List Nat) (st : List Stmt) (t : TS) : Prop where
  pss : PSs X st t
  sd : ∀ {E : Entry} {ρ : Store} {σ : St} {H : Hp} {Φ : Nat → List Addr}, E.io = I → StR X.K E Γ ρ σ H Φ → σ[i]? = some (some (.ref a)) → ∀ D : Ends, (∀ σ' H' Φ', StR X.K E (Γ.set j 1) (ρ.set j (some (.lst (L.map .bl)))) σ' H' Φ' → D.nx σ' H') → t D σ H
section
variable {X : Cx} {i j : Nat} {a : Addr} {I : Nat → Nat} {Γ : List Nat}
theorem su_two {K : PySem.W.Frag} {es1 es2 : List Expr} {bs1 bs2 : List Bool} {ta1 ta2 : TA} {y : Str} {py1 py2 px p1 p2 p3 q1 q2 : Pos} (h1 : IsA X i a es1 bs1 ta1) (h2 : IsA X i a es2 bs2 ta2) (hN : X.N.Nodup) (hj : X.N[j]? = some y) (hij : i ≠ j) (hG : j < Γ.length) (hio : I j = 0) (hz : bs1.length + bs2.length ≤ 16777216) (hK : X.K = K := by rfl)
    (hx : Loc X.env.scope y := by first | exact Or.inl rfl | exact Or.inr rfl) (hv : Vis X.env.scope y := by first | exact Or.inl rfl | exact Or.inr (Or.inl rfl) | exact Or.inr (Or.inr rfl))
    (hs1 : swapsWith (.List es1 q1) (some (.Name y py1)) p1.line X.env = pure false := by rfl) (hs2 : swapsWith (.BinOp (.Name y px) .Add (.List es2 q2) p2) (some (.Name y py2)) p3.line X.env = pure false := by rfl) (hf : X.fn y = true ∨ X.env.scope.names.lookup y = some .local := by first | exact .inl rfl | exact .inr rfl) (hd : (y == ("__debug__" : Str)) = false := by decide) (hcd : (y == ("__classdict__" : Str)) = false := by decide) :
    SuV X I i a j (bs1 ++ bs2) Γ [.Assign [.Name y py1] (.List es1 q1) p1, .Assign [.Name y py2] (.BinOp (.Name y px) .Add (.List es2 q2) p2) p3] (tSeq (tAsg (tLst ta1) (gName j)) (tAsg (tOp (rCatS K) (tVar j) (tLst ta2)) (gName j))) := by
  subst hK
  refine ⟨pss_cons (ps_set hN hj hx (pe_lst h1.pa) hs1 hf) (pss_one (ps_set hN hj hx (pe_op op_catS (pe_var hj hv hd hcd) (pe_lst h2.pa)) hs2 hf)), fun {E ρ σ H Φ} hI R hi D q => ?_⟩
  have z1 : bs1.length ≤ sizeLine := by rw [PySem.sizeLine_eq]; omega
  have z2 : bs2.length ≤ sizeLine := by rw [PySem.sizeLine_eq]; omega
  have z3 : bs1.length + bs2.length ≤ sizeLine := by rw [PySem.sizeLine_eq]; exact hz
  have jl : j < σ.length := by have := R.gl; have := R.len; omega
  refine h1.sd σ H _ hi ⟨by rw [List.length_map]; exact z1, fun p hp => ?_⟩
  refine ⟨.ref p, List.getElem?_set_self jl, ?_⟩
  have hi1 : (σ.set j (some (V.ref p)))[i]? = some (some (.ref a)) := by rw [List.getElem?_set_ne (Ne.symm hij)]; exact hi
  refine h2.sd _ _ _ hi1 ⟨by rw [List.length_map]; exact z2, fun q' hq => ?_⟩
  have x1 : Ext H (upd H p (.lst (bs1.map V.bl))) := ext_upd hp
  have x2 := ext_upd (o := .lst (bs2.map V.bl)) hq
  refine ⟨p, q', bs1.map .bl, bs2.map .bl, rfl, rfl, .inl (.inl (x2 _ _ upd_same)), .inl (.inl upd_same), by rw [List.length_map, List.length_map]; exact z3, fun r hr => ?_⟩
  have x3 := ext_upd (o := .lst (bs1.map V.bl ++ bs2.map V.bl)) hr
  show D.nx ((σ.set j (some (V.ref p))).set j (some (V.ref r))) _
  rw [List.set_set]
  have nr : H r = none := by
    cases e : H r with
    | none => rfl
    | some o => have := x2 _ _ (x1 _ _ e); rw [hr] at this; cases this
  refine q _ _ _ (R.set (m := 1) (Ψ := [r]) ⟨fun a o e => x3 _ _ (x2 _ _ (x1 _ _ e)), fun b m => ?_, List.nodup_cons.mpr ⟨fun m => (nomatch m), .nil⟩, ?_⟩ hG (by rw [hI]; exact hio))
  · rw [List.mem_singleton.mp m]; exact nr
  · rw [List.map_append]
    rw [← List.map_append, ← List.map_append]
    refine .lst ?_ (ownL_bl _)
    rw [List.map_append]; exact upd_same
end
/-! ### try -/
/-- try: x = f(..) except C as e: y = L (x, e, y: the slots k, i, j) -/
def sTry (k i j n t0 : Nat) (F : List D → Option R1) (fa : Store → Option (List D)) (L : List Bool) : Store → Option O := fun ρ => match fa ρ with
  | some ds => if ds.length = n then (match F ds with
    | some (.ret d) => some (.nx (ρ.set k (some d)))
    | some (.exc t) => if t = t0 then some (.nx (((ρ.set i none).set j (some (.lst (L.map .bl)))).set i none)) else none
    | none => none) else none
  | none => none
section
variable {X : Cx} {K : PySem.W.Frag} {mg : Str → Option Value} {P : Program} {w : World} {base : Heap} {Γ Γb : List Nat} {W : WX} {I : Nat → Nat} {r : Nat} {cs : Nat → Addr} {C Ch : Addr}
theorem s_try {k0 q n i j kk t0 : Nat} {F : List D → Option R1} {L : List Bool} {x nm y hx : Str} {e : Expr} {es : List Expr} {B : List Nat} {fa : Store → Option (List D)} {ta : TA} {b₀ : Stmt} {suite : List Stmt} {ts : Addr → TS} {py p pc ps np pos' pos : Pos}
    (G : CalX P w K mg base cs q x n 0 F) (hr : Room kk X.A) (hqk : q ≤ kk) (hcs : cs t0 = C) (hst : X.stack = X.env :: X.outer) (hfr : X.env.frame = some X.env.locals) (hN : X.N.Nodup)
    (hk : X.N[k0]? = some y) (hi : X.N[i]? = some nm) (hln : X.env.kindOf nm = some .local) (hgC : Gl X hx) (hmC : mg hx = some (.ref Ch)) (hexm : PySem.W.exmOne K (.ref C) (.ref Ch) = some true) (hg : Gl X x)
    (ha : ∀ pn xe, Av (X.tr pn xe) Γ (e :: es) 0 B fa ta)
    (hsu : ∀ (a : Addr) (oe : Obj) (pn : List (Addr × Obj)), Zc (.ref C) none oe → (∃ vs, oe.data = .fields vs) → SuV (X.suite a ((a, oe) :: pn)) I i a j L Γ (b₀ :: suite) (ts a))
    (hG : k0 < Γ.length) (hio : I k0 = 0) (hii : I i = 0) (hΓk : Γ.set k0 0 = Γ := by rfl) (hΓj : Γ.set j 1 = Γ := by rfl) (hil : i < Γ.length := by decide)
    (hP : X.prog = P := by rfl) (hw : X.w = w := by rfl) (hK : X.K = K := by rfl) (hm : X.mg = mg := by rfl) (hb : X.base = base := by rfl)
    (hlx : Loc X.env.scope y := by first | exact Or.inl rfl | exact Or.inr rfl) (hs : swapsWith (.Call (.Name x p) (e :: es) [] pc) (some (.Name y py)) ps.line X.env = pure false := by rfl) (hf : X.fn y = true ∨ X.env.scope.names.lookup y = some .local := by first | exact .inl rfl | exact .inr rfl)
    (hdb : (x == ("__debug__" : Str)) = false := by decide) (hdc : (hx == ("__debug__" : Str)) = false := by decide) (he : starEach (e :: es) X.env = (false, eval e X.env) :: starEach es X.env := by rfl) (hpl : (backTo pc (starEach es X.env)).any (·.1) = false := by rfl) :
    Sv X W I r Γ Γb (.Try [.Assign [.Name y py] (.Call (.Name x p) (e :: es) [] pc) ps] [.ExceptHandler (some (.Name hx np)) (some nm) (b₀ :: suite) pos'] [] [] pos) Γ (sTry k0 i j n t0 F fa L)
      (fun D σ H => tAsg (tCallS (spX K cs n 0 F) (WE (wAs K (.ref Ch) i (fun a cls d D σ H => cls = .ref C ∧ d = none ∧ ts a D σ H) (fun _ _ _ _ => False) D)) ta) (gName k0) D σ H) := by
  subst hP hw hK hm hb
  obtain ⟨f, fd, pl, Fn, hmf, hkf, hbf⟩ := G.ex
  refine ⟨ps_try_as (X := X) (tb := fun W => tAsg (tCallS (spX X.K cs n 0 F) (WE W) ta) (gName k0)) (ts := fun a cls d D σ H => cls = .ref C ∧ d = none ∧ ts a D σ H) (Wout := fun _ _ _ _ => False) hst hfr hN hi hln ⟨hgC, hdc, .inl hmC⟩ takes0
    (fun W pn xe tk _ => pss_one (ps_set (X := X.tr pn xe) hN hk hlx (pe_callS (X := X.tr pn xe) Fn (hr.mono hqk) hg hmf hkf hbf (fun σ => passAt tk σ) (ha pn xe).pa hdb he hpl) hs hf))
    (fun a oe cls d pn hz hfl => ⟨fun pins s σ H D Iv h => by
      obtain ⟨rfl, rfl, h⟩ := h
      exact (hsu a oe pn hz hfl).pss.run pins s σ H D Iv h⟩), ⟨fun {E ρ σ H Φ} hI R o eo D qq => ?_⟩⟩
  unfold sTry at eo
  split at eo
  · rename_i ds e1
    split at eo
    · rename_i hn
      refine (ha [] (fun _ _ => False)).sd.sh R e1 _ fun vs H1 x1 o1 => ?_
      have own1 : OwnL X.K H1 (fun _ => True) 0 ds vs [] := o1.move (fun a o e _ => e) (fun a o e z => ⟨e, trivial⟩) fun a m => (nomatch m)
      split at eo
      · rename_i d e2
        cases eo
        refine ⟨ds, .ret d, hn, own1, e2, fun d' ed v H2 Ψ x2 new nd ow => ?_, fun t et => by cases et⟩
        cases ed
        have R2 := R.set (i := k0) (m := 0) (res_of (B := []) R x1 x2 new nd (ow _)) hG (by rw [hI]; exact hio)
        rw [hΓk] at R2
        exact qq _ _ _ R2
      · rename_i t e2
        split at eo
        · rename_i et0
          subst et0
          cases eo
          refine ⟨ds, .exc t, hn, own1, e2, fun d' ed => (by cases ed), fun t' et H2 x2 => ?_⟩
          cases et
          rw [hcs]
          refine ⟨true, hexm, fun _ a na => ⟨rfl, rfl, ?_⟩, fun z => Bool.noConfusion z⟩
          have R2 := ((R.ext x1).ext x2).junk i (some (.ref a)) (by rw [hI]; exact hii)
          have il : i < σ.length := by have := R.gl; have := R.len; omega
          obtain ⟨oe0, hz0, hf0⟩ : ∃ oe : Obj, Zc (.ref C) none oe ∧ ∃ vs, oe.data = .fields vs := ⟨⟨.ref C, none, .fields #[], #[]⟩, ⟨rfl, rfl⟩, _, rfl⟩
          refine (hsu a oe0 [] hz0 hf0).sd hI R2 (List.getElem?_set_self il) _ fun σ3 H3 Φ3 R3 => ?_
          have R4 : StR X.K E (Γ.set j 1) _ _ _ _ := R3.junk i none (by rw [hI]; exact hii)
          rw [hΓj] at R4
          exact qq _ _ _ R4
        · cases eo
      · cases eo
    · cases eo
  · cases eo
end
end VL

/-! VL32: a, b = a list of two; return [e, y], y an owned list; the head's facts of own errors' classes. -/
namespace VLU
open PySem PySem.Spec
section
variable {prog : Program} {w : World} {A : Around} {E : Value → Shared → Prop} {s : Shared}
theorem draw_list {it l : Addr} {items : Array Value} (hne : l ≠ it) : ∀ (n i : Nat) (s : Shared) (Q : List Value → Shared → Prop), s.heap.IsListIter it l i → s.heap.IsList l items → i + n ≤ items.size →
    (∀ h', h'.IsListIter it l (i + n) → Heap.SameBut it s.heap h' → Q ((items.toList.drop i).take n) { s with heap := h' }) → wpAny (model prog w) A (draw (.ref it) n) Q E s
  | 0, i, s, Q, hit, _, _, hQ => by
    show wpAny _ _ (pure []) Q E s
    exact wpAny_pure (by simpa using hQ s.heap hit (Heap.SameBut.refl ..))
  | n + 1, i, s, Q, hit, hl, hle, hQ => by
    have hlt : i < items.size := by omega
    show wpAny _ _ (pyNext (.ref it) >>= _) Q E s
    refine wpAny_bind (wpAny_pyNext_list_item hit hl (x := items[i]) (by simp [hlt]) fun h₁ hit₁ hs₁ => ?_)
    refine wpAny_bind (wpAny_holding (draw_list hne n (i + 1) _ _ hit₁ (hl.extBut hs₁.extBut hne) (by omega) fun h₂ hit₂ hs₂ => wpAny_pure ?_))
    have hd : items.toList.drop i = items[i] :: items.toList.drop (i + 1) := by simp [List.drop_eq_getElem_cons, hlt]
    have := hQ h₂ (by rw [show i + (n + 1) = i + 1 + n by omega]; exact hit₂) (hs₁.trans hs₂)
    rw [hd, List.take_succ_cons] at this
    exact this
theorem unpackItems_list {l : Addr} {items : Array Value} {Q : List Value → Shared → Prop} (hh : A.handled = none) (hl : s.heap.IsList l items)
    (hQ : ∀ h', Heap.ExtBut s.heap.objs.size s.heap h' → Q items.toList { s with heap := h' }) : wpAny (model prog w) A (unpackItems (.ref l) items.size none) Q E s := by
  have hlt : l ≠ s.heap.objs.size := by obtain ⟨o, ho, _⟩ := hl; exact Nat.ne_of_lt (Heap.lt_size ho)
  unfold unpackItems
  refine wpAny_bind ?_
  · unfold notIterableAtAll
    refine wpAny_bind (wpAny_specialOf hl.typeIs slot_list_iter.lookup ?_)
    refine wpAny_pure ?_
    simp only [Bool.false_eq_true, if_false]
    refine wpAny_bind (wpAny_holding (wpAny_pyIter_list hl ?_))
    refine wpAny_bind (wpAny_holding (draw_list hlt items.size 0 _ _ ⟨_, Heap.get?_push_size _ rfl, rfl, rfl⟩ (hl.push _) (by omega) fun h₁ hit₁ hs₁ => ?_))
    have hall : List.take items.size (List.drop 0 items.toList) = items.toList := by
      rw [List.drop_zero]; exact List.take_of_length_le (by simp)
    rw [hall]
    rw [if_neg (by simp)]
    have hl₁ : h₁.IsList l items := (hl.push _).extBut hs₁.extBut hlt
    refine wpAny_bind (wpAny_holding (wpAny_pyNext_list_end hh hit₁ hl₁ (by simp) fun h₂ he₂ => ?_))
    simp only [Option.isSome_none, Bool.false_eq_true, if_false]
    refine wpAny_pure (hQ h₂ fun b o hb e => he₂ b o hb (hs₁.extBut b o hb (Heap.get?_push_of_some _ e)))
theorem assign_Tuple_list {env : Env} {elts : List Expr} {x1} {pos : Pos} {l : Addr} {items : Array Value} {Q : Unit → Shared → Prop} (hh : A.handled = none) (hl : s.heap.IsList l items)
    (hn : (assignEach elts env).length = items.size) (hstar : (assignEach elts env).findIdx? (·.1) = none)
    (h : ∀ h', Heap.ExtBut s.heap.objs.size s.heap h' → wpAny (model prog w) A (assignInOrder ((assignEach elts env).map (·.2)) items.toList) Q E { s with heap := h' }) :
    wpAny (model prog w) A (assign (.Tuple elts x1 pos) env (.ref l)) Q E s := by
  rw [PyProof.Rows.assign_Tuple]
  refine wpAny_bind (wpAny_standAt ?_)
  unfold unpack
  rw [hn, hstar]
  exact wpAny_bind (wpAny_holding (unpackItems_list hh hl h))
end
end VLU
namespace VL
open PySem PySem.Spec L2
open PyProof.Rows hiding St
section
variable {X : Cx} {K : PySem.W.Frag} {Γ : List Nat} {W : WX} {I : Nat → Nat} {r k m : Nat} {Γb Γ' : List Nat} {B : List Nat} {e a b tg : Expr} {f : Store → Option D} {te t : TE} {pos p : Pos}
/-- (a, b, ..) = a list of that length -/
def gTupL (K : PySem.W.Frag) (n : Nat) (t : TGs) : TG := fun v σ H Q => ∃ a xs, v = .ref a ∧ SqL K H a xs ∧ xs.length = n ∧ t xs σ H Q
theorem pg_tupL {es : List Expr} {k : Nat} {t : TGs} {n : Nat} (hc : X.calm = true) (h : PGs X es t)
    (hn : (assignEach es X.env).length = n := by rfl) (hst : (assignEach es X.env).findIdx? (·.1) = none := by rfl) : PG X (.Tuple es k pos) (gTupL X.K n t) := by
  refine ⟨fun pins s σ H v u Q I r hw => ?_⟩
  obtain ⟨a, xs, e1, hq, hl, hw⟩ := hw
  subst e1
  cases r
  obtain ⟨its, rv, ⟨o, n', h1, h2, _, h3⟩, hz⟩ := I.list hq
  refine VLU.assign_Tuple_list (I.ok.hd hc) ⟨o, h1, h2, n', h3⟩ (by simp [hn, ← hl, rv.length]) hst fun h' hx => ?_
  have I1 : Inv X pins σ H { s with heap := h' } := I.kept (t' := s.toks) fun b o e => hx b o (Nat.ne_of_lt (Heap.lt_size e)) e
  exact h.run pins _ σ H xs _ Q I1 (by simpa using rv) hw
def gSet2L (i j : Nat) : D → Store → Option Store := fun d ρ => match d with
  | .lst [x, y] => some ((ρ.set i (some x)).set j (some y))
  | _ => none
theorem sdg_twoL {i j : Nat} (hG : i < Γ.length) (hG' : j < Γ.length) (hi : I i = 0) (hj : I j = 0) : SdG K I Γ (gTupL K 2 (gCons (gName i) (gCons (gName j) gNil))) ((Γ.set i 0).set j 0) (gSet2L i j) [i, j] := by
  refine ⟨fun {E ρ σ H Φ} hI R d v o ρ' e Q q => ?_⟩
  unfold gSet2L at e
  split at e
  · rename_i x y
    cases e
    obtain ⟨a, vs, rfl, hs, hl⟩ := o.lst_inv0
    obtain ⟨v1, vs1, rfl, h1, hl⟩ := hl.cons_inv0
    obtain ⟨v2, vs2, rfl, h2, hl⟩ := hl.cons_inv0
    obtain rfl := hl.nil_inv
    refine ⟨a, [v1, v2], rfl, hs, rfl, v1, [v2], rfl, ?_⟩
    have R1 := set_sh R h1 hG (by rw [hI]; exact hi)
    have R2 := set_sh R1 (own_less h2) (by rw [List.length_set]; exact hG') (by rw [hI]; exact hj)
    refine ⟨v2, [], rfl, rfl, q _ _ R2 ⟨fun k n => ?_, by rw [List.length_set, List.length_set]⟩ fun k n => ?_⟩
    · have n1 : j ≠ k := fun e => n (by rw [e]; exact List.mem_cons_of_mem _ (List.mem_singleton.mpr rfl))
      have n2 : i ≠ k := fun e => n (by rw [e]; exact List.mem_cons_self)
      rw [List.getElem?_set_ne n1, List.getElem?_set_ne n2]
    · have n1 : k ≠ j := fun e => n (by rw [e]; exact List.mem_cons_of_mem _ (List.mem_singleton.mpr rfl))
      have n2 : k ≠ i := fun e => n (by rw [e]; exact List.mem_cons_self)
      show (if k = j then [] else if k = i then [] else Φ k) = Φ k
      rw [if_neg n1, if_neg n2]
  · cases e
theorem g_twoL (i j : Nat) {x y : Str} {p1 p2 : Pos} {kk : Nat} (hN : X.N.Nodup) (hc : X.calm = true := by rfl) (hi : X.N[i]? = some x := by rfl) (hj : X.N[j]? = some y := by rfl) (hx : Loc X.env.scope x := by first | exact Or.inl rfl | exact Or.inr rfl) (hy : Loc X.env.scope y := by first | exact Or.inl rfl | exact Or.inr rfl) (hG : i < Γ.length := by decide) (hG' : j < Γ.length := by decide) (hio : I i = 0 := by rfl) (hio' : I j = 0 := by rfl) (hf : X.fn x = true ∨ X.env.scope.names.lookup x = some .local := by first | exact .inl rfl | exact .inr rfl)
    (hf' : X.fn y = true ∨ X.env.scope.names.lookup y = some .local := by first | exact .inl rfl | exact .inr rfl) (hn : (assignEach [.Name x p1, .Name y p2] X.env).length = 2 := by rfl) (hst : (assignEach [.Name x p1, .Name y p2] X.env).findIdx? (·.1) = none := by rfl)
    (hs1 : (assignEach [.Name x p1, .Name y p2] X.env).map (·.2) = assign (.Name x p1) X.env :: (assignEach [.Name y p2] X.env).map (·.2) := by rfl) (hs2 : (assignEach [.Name y p2] X.env).map (·.2) = assign (.Name y p2) X.env :: (assignEach [] X.env).map (·.2) := by rfl) (hK : X.K = K := by rfl) :
    Gv X I Γ (.Tuple [.Name x p1, .Name y p2] kk pos) ((Γ.set i 0).set j 0) (gSet2L i j) [i, j] (gTupL K 2 (gCons (gName i) (gCons (gName j) gNil))) := by
  subst hK
  exact ⟨pg_tupL hc (pgs_cons (pg_name hN hi hx hf) (pgs_cons (pg_name hN hj hy hf') pgs_nil hs2) hs1) hn hst, sdg_twoL hG hG' hio hio'⟩
/-- return [e, y], y a slot's own list -/
def sRetL (i : Nat) (f : Store → Option D) : Store → Option O := fun ρ => match f ρ with
  | some d1 => (match eVar i ρ with
    | some d2 => if (d1.imm && d2.immB 1) = true then some (.rt (.lst [d1, d2]) ρ) else none
    | none => none)
  | none => none
theorem sd_retL {i : Nat} (h : SdE K (Γ.set i 0) te 0 [] f) (hi : I i = 0) (hm : Γ.getD i 0 = 1) (hio : ∀ i, I i ≠ 0 → Γ.getD i 0 = I i) : SdS K W I 2 Γ Γb Γ' (tRet (tLst (tCons te (tCons (tVar i) tNil)))) (sRetL i f) := by
  refine ⟨fun {E ρ σ H Φ} hI R o e D q => ?_⟩
  unfold sRetL at e
  split at e
  · rename_i d1 ef
    split at e
    · rename_i d2 ev
      split at e
      · rename_i him
        cases e
        rw [Bool.and_eq_true] at him
        have z2 : 2 ≤ sizeLine := by rw [PySem.sizeLine_eq]; omega
        obtain ⟨v2, h1, h2⟩ := R.val i d2 (eVar_some ev)
        rw [hm] at h2
        refine h.sh (R.dem i) ef _ fun v1 H1 x o => ?_
        refine ⟨v2, h1, ⟨z2, fun p hp => ?_⟩⟩
        have x2 := ext_upd (o := .lst [v1, v2]) hp
        have hpH : H p = none := by
          cases e : H p with
          | none => rfl
          | some o => have := x _ _ e; rw [hp] at this; cases this
        refine q (.ref p) _ ⟨Γ, σ, Φ, p :: Φ i, (R.ext x).ext x2, fun i n => by rw [hI] at n ⊢; exact hio i n, fun a m => ?_, List.nodup_cons.mpr ⟨R.notIn hpH i, R.nd i⟩, fun j n a m m' => ?_, fun N => ?_⟩
        · rcases List.mem_cons.mp m with rfl | m
          · exact R.fresh hpH
          · rcases R.nw i a m with z | ⟨z, _⟩
            · exact z
            · rw [hI] at z; exact absurd hi z
        · rcases List.mem_cons.mp m with rfl | m
          · exact R.notIn hpH j m'
          · have := R.dj i j a m m'
            subst this
            rw [hI] at n; exact n hi
        · have o1 : Own K (upd H1 p (.lst [v1, v2])) N 1 d1 v1 [] := Own.imm (fun a o e _ => x2 a o e) 1 o him.1
          have o2 : Own K (upd H1 p (.lst [v1, v2])) N 1 d2 v2 (Φ i) := (h2.move (N' := fun _ => True) (fun a o e _ => x2 _ _ (x _ _ e)) (fun a o e z => ⟨x2 _ _ (x _ _ e), trivial⟩) fun a _ o e => x2 _ _ (x _ _ e)).immB him.2
          have ol : OwnL K (upd H1 p (.lst [v1, v2])) N 1 [d1, d2] [v1, v2] (Φ i) := by
            have := OwnL.cons (fp := []) o1 (OwnL.cons o2 OwnL.nil)
            simpa using this
          exact .lst upd_same ol
      · cases e
    · cases e
  · cases e
theorem s_retL (i : Nat) {y : Str} {py pl : Pos} (he : Ev X (Γ.set i 0) e 0 [] f te) (hm : Γ.getD i 0 = 1 := by rfl) (hi : X.N[i]? = some y := by rfl) (hio : I i = 0 := by rfl) (hii : ∀ i, I i ≠ 0 → Γ.getD i 0 = I i := by exact fun i n => absurd rfl n) (hv : Vis X.env.scope y := by first | exact Or.inl rfl | exact Or.inr (Or.inl rfl) | exact Or.inr (Or.inr rfl)) (hd : (y == ("__debug__" : Str)) = false := by decide) (hcd : (y == ("__classdict__" : Str)) = false := by decide)
    (hs1 : starEach [e, .Name y py] X.env = (false, eval e X.env) :: starEach [.Name y py] X.env := by rfl) (hs2 : starEach [.Name y py] X.env = (false, eval (.Name y py) X.env) :: starEach [] X.env := by rfl) :
    Sv X W I 2 Γ Γb (.Return (some (.List [e, .Name y py] pl)) pos) Γ' (sRetL i f) (tRet (tLst (tCons te (tCons (tVar i) tNil)))) :=
  ⟨ps_ret (pe_lst (pa_cons he.pe (pa_cons (pe_var hi hv hd hcd) pa_nil hs2) hs1)), sd_retL he.sd hio hm hii⟩
end
/-! ### the head: facts of the errors' classes -/
def excCB (K : PySem.W.Frag) (D : Addr) : Bool := He.eqO (PySem.W.findIn K (.ref D) "__getattribute__") (some (some (.builtin "BaseException.__getattribute__"))) && (He.eqO (PySem.W.findIn K (.ref D) "__getattr__") (some none) && (decide (PySem.W.subIn K (.ref D) (.type "BaseException") = some true) && (PySem.W.hasDictIn K D &&
  (He.eqO (PySem.W.findIn K (.ref D) "__class__") (some (some (.builtin "object.__class__"))) && (He.eqO (PySem.W.specialIn K (.builtin "object.__class__") "__get__") (some (some (.builtin "getset_descriptor.__get__"))) && (decide (PySem.W.takesIn K (.builtin "object.__class__") = some true) && decide (PySem.W.mroIn K D (.type "object") = some true)))))))
theorem excC_ok {K : PySem.W.Frag} {D : Addr} (h : excCB K D = true) : ExcC K D := by
  obtain ⟨h1, h⟩ := He.ba h
  obtain ⟨h2, h⟩ := He.ba h
  obtain ⟨h3, h⟩ := He.ba h
  obtain ⟨h4, h⟩ := He.ba h
  obtain ⟨h5, h⟩ := He.ba h
  obtain ⟨h6, h⟩ := He.ba h
  obtain ⟨h7, h8⟩ := He.ba h
  exact ⟨He.eqO_ok h1, He.eqO_ok h2, of_decide_eq_true h3, h4, He.eqO_ok h5, He.eqO_ok h6, of_decide_eq_true h7, of_decide_eq_true h8⟩
/-- x's errors: class, isinstance by the classes in l (own) and t (built-in) -/
def kitsB (K : PySem.W.Frag) (x : Str) (l : List (Str × Bool)) (t : List (String × Bool)) : Bool := excCB K (He.ga K x) && ((l.all fun q => decide (PySem.W.kitOne K (.ref (He.ga K x)) (.ref (He.ga K q.1)) = some q.2)) && (t.all fun q => decide (PySem.W.kitOne K (.ref (He.ga K x)) (.type q.1) = some q.2)))
structure Kits (K : PySem.W.Frag) (x : Str) (l : List (Str × Bool)) (t : List (String × Bool)) : Prop where
  c : ExcC K (He.ga K x)
  o : ∀ {y : Str} {b : Bool}, (y, b) ∈ l → PySem.W.kitOne K (.ref (He.ga K x)) (.ref (He.ga K y)) = some b
  t : ∀ {y : String} {b : Bool}, (y, b) ∈ t → PySem.W.kitOne K (.ref (He.ga K x)) (.type y) = some b
theorem kits_ok {K : PySem.W.Frag} {x : Str} {l : List (Str × Bool)} {t : List (String × Bool)} (h : kitsB K x l t = true) : Kits K x l t := by
  obtain ⟨h1, h⟩ := He.ba h
  obtain ⟨h2, h3⟩ := He.ba h
  exact ⟨excC_ok h1, fun {y b} m => of_decide_eq_true (List.all_eq_true.mp h2 (y, b) m), fun {y b} m => of_decide_eq_true (List.all_eq_true.mp h3 (y, b) m)⟩
abbrev AlE : Type := He.AlD × Bool
def obsE (n : Nat) (fa : List He.Fa) (fn : List He.DefD) (ex : PySem.W.Frag → Bool) (g : Addr → Option Obj) : AlE := (He.obsD fa fn (He.frG g (He.asD g n)), ex (He.frG g (He.asD g n)))
def hookE (n : Nat) (fa : List He.Fa) (fn : List He.DefD) (ex : PySem.W.Frag → Bool) : PySem.W.Hook where
  α := AlE
  obs := fun s => obsE n fa fn ex s.heap.get?
  val := fun _ => (He.valD fn, true)
  says := fun _ h => ∃ K : PySem.W.Frag, K.In h ∧ (He.SaysD fa fn K ∧ ex K = true)
  of := fun _ _ e => ⟨_, He.frG_in, congrArg (fun z : AlE => z.1) e, congrArg (fun z : AlE => z.2) e⟩
  keeps := fun _ _ _ ⟨K, hK, c⟩ k => ⟨K, PySem.W.Frag.In.keeps hK k, c⟩
theorem obsE_eq {n : Nat} {fa : List He.Fa} {fn : List He.DefD} {ex : PySem.W.Frag → Bool} {g : Addr → Option Obj} {s : Shared} (h : ∀ a, g a = s.heap.get? a) : obsE n fa fn ex g = (hookE n fa fn ex).obs s := by
  have e : g = s.heap.get? := funext h
  rw [e] <;> rfl
end VL

/-! VL33: list(reversed(a list)); sorted(set(a tuple of ints)); a, (b, c) = an item; x[-1].append(e). -/
namespace VLR
open PySem PySem.Spec PyProof.Rows RT
section
variable {prog : Program} {w : World} {A : Around} {E : Value → Shared → Prop} {s : Shared}
theorem extend_rev {it l : Addr} {items : Array Value} {R : Result → Shared → Prop} (hh : A.handled = none) (hit : s.heap.IsRevIter it l ((items.size : Int) - 1)) (hl : s.heap.IsList l items) (hne : l ≠ it) (hn : items.size ≤ sizeLine)
    (S : Addr) (hSi : S ≠ it) (hSl : S ≠ l) (res : Value) (c₀ : Nat) (hS : s.heap.get? S = some { cls := .type "list", data := .seq #[] c₀ })
    (hR : ∀ (h' : Heap) (tk : Nat) (acc : Array Value) (c : Nat), (∀ b o, b ≠ S → b ≠ it → s.heap.get? b = some o → h'.get? b = some o) → h'.get? S = some { cls := .type "list", dict := none, data := .seq acc c, slots := #[] } → ItemsOf (fun i v => items[items.size - 1 - i]? = some v) acc items.size → R (.ok (.ret res)) { s with heap := h', toks := tk }) :
    wpAny (model prog w) A.in1 (Builtin.List.listExtendWith (.ref S) (.ref it) res)
      (fun fin s' => match fin with | .done f => R (.ok f) s' | .again c' => c'.quiet = true ∧ codeAny (model prog w) A c' R s') (fun e s' => R (.error e) s') s := by
  have W := (Walks.listRev (prog := prog) (w := w) (A := A.in1) hh it l hne items).toS
  have hSf : S ∉ [it, l] := by simp only [List.mem_cons, List.not_mem_nil, or_false, not_or]; exact ⟨hSi, hSl⟩
  have hT : s.TypeIs (.ref it) "list_reverseiterator" := hit.typeIs
  have h1 : Builtin.List.listSameRef (.ref S) (.ref it) = false := by simp [Builtin.List.listSameRef, hSi]
  unfold Builtin.List.listExtendWith
  refine wpAny_bind (wpAny_typeOf hT ?_)
  rw [if_neg (by rw [h1]; decide)]
  refine wpAny_bind (wpAny_pyIter_revIter hit ?_)
  refine wpAny_bind (wpAny_holding ?_)
  unfold Builtin.List.listLengthHint
  refine wpAny_bind (wpAny_specialOf hT nolen_lri ?_)
  show wpAny _ A.in1 (specialOf (Value.ref it) (Str.ofString "__length_hint__") >>= _) _ _ _
  refine wpAny_bind (wpAny_specialOf hT hint_lri ?_)
  generalize hid : ("list_reverseiterator.__length_hint__" : String) = id0
  wp_delta
  rw [show splitId id0 = some ("list_reverseiterator", "__length_hint__") from by subst hid; decide +kernel]
  subst hid
  refine wpAny_bind (wpAny_isInstance (b := true) hT (by rw [isSubtype_type]; kernel_rfl) ?_)
  refine wpAny_pure ?_
  rw [if_neg (by decide)]
  have e0 : ((items.size : Nat) : Int) - 1 - ((0 : Nat) : Int) = (items.size : Int) - 1 := by omega
  refine wpAny_pure ⟨plainId_quiet F.plain_extend_loop _, codeAny_extend_loopS W hn _ hSf _ items.size 0 _ _ _ rfl (Nat.zero_le _) ⟨Nat.zero_le _, by rw [e0]; exact hit, hl⟩ hS (ItemsOf.nil _) fun s' acc' c' hm hS' hacc => ?_⟩
  rw [Moved.eq_with hm]
  refine hR s'.heap s'.toks acc' c' (fun b o hb hb2 e => hm.heap b o (fun hmem => ?_) e) hS' hacc
  rcases List.mem_cons.mp hmem with e' | hmem
  · exact hb e'
  · exact hb2 (List.mem_singleton.mp hmem)
theorem call_list_rev {it l : Addr} {items : Array Value} {Q : Value → Shared → Prop} (hh : A.handled = none) (hit : s.heap.IsRevIter it l ((items.size : Int) - 1)) (hl : s.heap.IsList l items) (hne : l ≠ it) (hn : items.size ≤ sizeLine)
    (hQ : ∀ (h' : Heap) (tk : Nat) (acc : Array Value) (c : Nat), (∀ b o, b ≠ it → s.heap.get? b = some o → h'.get? b = some o) → h'.get? s.heap.objs.size = some { cls := .type "list", dict := none, data := .seq acc c, slots := #[] } → ItemsOf (fun i v => items[items.size - 1 - i]? = some v) acc items.size →
      Q (.ref s.heap.objs.size) { s with heap := h', toks := tk }) :
    wpAny (model prog w) A (call (.type "list") [.ref it]) Q E s := by
  obtain ⟨oi, hoi, _⟩ := id hit
  obtain ⟨ol, hol, _⟩ := id hl
  have hSi : s.heap.objs.size ≠ it := Nat.ne_of_gt (Heap.lt_size hoi)
  have hSl : s.heap.objs.size ≠ l := Nat.ne_of_gt (Heap.lt_size hol)
  refine callType_codes (Q₁ := fun obj s₁ => obj = .ref s.heap.objs.size ∧ s₁ = { s with heap := s.heap.push { cls := .type "list", data := .seq #[] } }) PySem.F.called_list (PySem.F.typeCall_list_1 _) PySem.F.entry_list_init
    (code_list_new _ ⟨rfl, rfl⟩) fun obj s₁ h₁ => ?_
  obtain ⟨rfl, rfl⟩ := h₁
  have hS : (s.heap.push { cls := .type "list", data := .seq #[] }).get? s.heap.objs.size = some { cls := .type "list", data := .seq #[] } := Heap.get?_push_size _ rfl
  refine ⟨⟨_, hS, rfl⟩, PySem.F.args_list_init_2 _ _, ?_⟩
  show wpAny _ _ (do let old ← Builtin.List.listItems (.ref s.heap.objs.size); Builtin.List.listUpdate (.ref s.heap.objs.size) (fun _ => #[]); letGo old.toList.reverse; Builtin.List.listExtendWith (.ref s.heap.objs.size) (.ref it) .none) _ _ _
  refine wpAny_bind ?_
  unfold Builtin.List.listItems
  refine wpAny_bind (wpAny_seqItems hS rfl (wpAny_pure ?_))
  show wpAny _ _ (updateSeq s.heap.objs.size (fun _ => #[]) >>= fun _ => letGo (#[] : Array Value).toList.reverse >>= fun _ => Builtin.List.listExtendWith (.ref s.heap.objs.size) (.ref it) .none) _ _ _
  refine wpAny_bind (wpAny_updateSeq hS rfl ?_)
  have hS₂ := Heap.get?_update_self (Obj.mapSeq (fun _ => (#[] : Array Value))) hS rfl
  have oth : ∀ b o, s.heap.get? b = some o → ((s.heap.push { cls := .type "list", data := .seq #[] }).update s.heap.objs.size (Obj.mapSeq (fun _ => (#[] : Array Value)))).get? b = some o :=
    fun b o e => (Heap.get?_update_other _ _ (Nat.ne_of_gt (Heap.lt_size e))).trans (Heap.get?_push_of_some _ e)
  refine wpAny_bind (wpAny_letGo ?_)
  refine extend_rev (A := A.in1) hh (hit.at fun o e => oth it o e) ?_ hne hn _ hSi hSl .none _ hS₂ fun h' tk acc c hk hS' hacc => ?_
  · obtain ⟨o, e, r⟩ := hl
    exact ⟨o, oth l o e, r⟩
  · exact ⟨rfl, hQ h' tk acc c (fun b o hb e => hk b o (Nat.ne_of_lt (Heap.lt_size e)) hb (oth b o e)) hS' hacc⟩
end
end VLR
namespace VL
open PySem PySem.Spec L2
open PyProof.Rows hiding St
section
variable {X : Cx} {K : PySem.W.Frag} {Γ : List Nat} {W : WX} {I : Nat → Nat} {r k m : Nat} {Γb Γ' : List Nat} {B : List Nat} {a e : Expr} {f fi : Store → Option D} {te : TE} {pos p : Pos}
/-! ### list(reversed(x)), x a list -/
def tLstRev (K : PySem.W.Frag) (te : TE) : TE := fun σ H Q => te σ H fun v H1 => ∃ (a : Addr) (xs : List V), v = .ref a ∧ SqL K H1 a xs ∧ ∀ q, H1 q = none → Q (.ref q) (upd H1 q (.lst xs.reverse))
theorem pe_lstRev {p p2 pos pos2 : Pos} (hc : X.calm = true) (hg : Gl X "list") (hm : X.mg "list" = none) (hg2 : Gl X "reversed") (hm2 : X.mg "reversed" = none) (he : PE X e te)
    (hs : starEach [e] X.env = (false, eval e X.env) :: starEach [] X.env := by rfl)
    (hs2 : starEach [.Call (.Name "reversed" p2) [e] [] pos2] X.env = (false, eval (.Call (.Name "reversed" p2) [e] [] pos2) X.env) :: starEach [] X.env := by rfl) :
    PE X (.Call (.Name "list" p) [.Call (.Name "reversed" p2) [e] [] pos2] [] pos) (tLstRev X.K te) := by
  refine ⟨fun pins s σ H Q I h => ?_⟩
  refine Call_ (ld_blt I hg hm (show bootBuiltins "list" = some (.type "list") by decide +kernel) (PyProof.Rows.callWith_type1 (PyProof.Rows.args_cons (Call_ (ld_blt I hg2 hm2 PyProof.Rows.boot_reversed (PyProof.Rows.callWith_type1 (PyProof.Rows.args_cons (thn (he.run pins s σ H _ I h) fun u s1 ⟨v, H1, I1, r1, q1⟩ => PyProof.Rows.args_nil ?_) hs) hs rfl))) hs2) hs2 rfl))
  obtain ⟨a, xs, ev, hq, q⟩ := q1
  subst ev
  obtain rfl : u = Value.ref a := r1
  obtain ⟨its, rv, p', hz⟩ := I1.list hq
  refine call_reversed_list p'.isList (PyProof.Rows.args_nil ?_)
  have k0 : ∀ b o, s1.heap.get? b = some o → (s1.heap.push (revObj a ((its.toArray.size : Int) - 1))).get? b = some o := fun b o e => Heap.get?_push_of_some _ e
  have I2 : Inv X pins σ H1 { s1 with heap := s1.heap.push (revObj a ((its.toArray.size : Int) - 1)) } := I1.kept (t' := s1.toks) k0
  obtain ⟨f0, f1, f2, f3, f4, f5⟩ := I1.fpOk (H' := H1) (b := s1.heap.objs.size) (Nat.le_refl _) (I1.hok.fresh (Nat.le_refl _))
  have hl := p'.isList
  obtain ⟨ol, hol, _⟩ := id hl
  have hne : a ≠ s1.heap.objs.size := Nat.ne_of_lt (Heap.lt_size hol)
  have hn : its.toArray.size ≤ sizeLine := by rw [List.size_toArray, ← rv.length]; exact hz
  refine VLR.call_list_rev (s := { s1 with heap := s1.heap.push (revObj a ((its.toArray.size : Int) - 1)) }) (I1.ok.hd hc) ⟨_, Heap.get?_push_size _ rfl, rfl, rfl⟩ (hl.push _) hne hn fun h' tk acc c hk hS hi => ?_
  obtain ⟨G, g1, g2⟩ := restrict h' fun b => decide (b ≠ (s1.heap.push (revObj a ((its.toArray.size : Int) - 1))).objs.size)
  have hsz : s1.heap.objs.size < (s1.heap.push (revObj a ((its.toArray.size : Int) - 1))).objs.size := by rw [Heap.size_push]; exact Nat.lt_succ_self _
  have gk : ∀ b, b ≠ (s1.heap.push (revObj a ((its.toArray.size : Int) - 1))).objs.size → G.get? b = h'.get? b := fun b hb => g1 b (decide_eq_true hb)
  have I3 : Inv X pins σ H1 { s1 with heap := G, toks := tk } := I2.turned (t' := tk) (fun b o hb e => by
    rw [gk b (Nat.ne_of_lt (Heap.lt_size e))]
    exact hk b o hb e) f0 f1 f3 f4 f5
  have fr : (s1.heap.push (revObj a ((its.toArray.size : Int) - 1))).objs.size = s1.heap.objs.size + 1 := Heap.size_push _ _
  have hnone : H1 (s1.heap.push (revObj a ((its.toArray.size : Int) - 1))).objs.size = none := I1.hok.fresh (by rw [fr]; exact Nat.le_succ _)
  have k2 : ∀ b o, G.get? b = some o → h'.get? b = some o := fun b o e => by
    by_cases hb : b = (s1.heap.push (revObj a ((its.toArray.size : Int) - 1))).objs.size
    · rw [hb, g2 _ (by simp)] at e; cases e
    · rw [← gk b hb]; exact e
  exact ⟨.ref _, upd H1 (s1.heap.push (revObj a ((its.toArray.size : Int) - 1))).objs.size (.lst xs.reverse), I3.laidN (t' := tk) k2 (g2 _ (by simp)) hnone (show ObjOk X.prog X.w _ _ _ (.lst xs.reverse) from ⟨by rw [List.length_reverse]; exact hz, acc.toList, c, RT.vals_rev rv hi, by rw [Array.toArray_toList]; exact hS⟩), rfl, q _ hnone⟩
def eLRev (f : Store → Option D) : Store → Option D := fun ρ => match f ρ with
  | some (.lst ds) => some (.lst ds.reverse)
  | _ => none
theorem xev_lrev {p p2 pos pos2 : Pos} (hc : X.calm = true) (hg : Gl X "list") (hm : X.mg "list" = none) (hg2 : Gl X "reversed") (hm2 : X.mg "reversed" = none) (he : Ev X Γ e m B f te) (hK : X.K = K := by rfl)
    (hs : starEach [e] X.env = (false, eval e X.env) :: starEach [] X.env := by rfl)
    (hs2 : starEach [.Call (.Name "reversed" p2) [e] [] pos2] X.env = (false, eval (.Call (.Name "reversed" p2) [e] [] pos2) X.env) :: starEach [] X.env := by rfl) :
    Ev X Γ (.Call (.Name "list" p) [.Call (.Name "reversed" p2) [e] [] pos2] [] pos) 1 B (eLRev f) (tLstRev K te) := by
  subst hK
  refine ⟨pe_lstRev hc hg hm hg2 hm2 he.pe hs hs2, ⟨fun {E ρ σ H Φ} R d e Q q => ?_⟩⟩
  unfold eLRev at e
  split at e
  · rename_i ds e1
    cases e
    refine he.sd.sh R e1 _ fun v H1 x o => ?_
    obtain ⟨l, vs, rfl, s, lo⟩ := o.lst_inv0
    refine ⟨l, vs, rfl, s, fun p hp => ?_⟩
    exact fin_lst (fun v H2 Ψ x2 new nd o2 => q v H2 Ψ (res_of R x x2 new nd o2)) (lo.rev0 rfl) p hp
  · cases e
theorem lrev_ok {ρ : Store} {ds : List D} (h : f ρ = some (.lst ds)) : eLRev f ρ = some (.lst ds.reverse) := by unfold eLRev; rw [h]
/-! ### sorted(set(t)), t a tuple of ints -/
def tSortedSetT (K : PySem.W.Frag) (ta : TE) : TE := fun σ H Q => ta σ H fun x H1 => ∃ l, ∃ ns : List Int, x = .ref l ∧ SqT K H1 l (ns.map V.int) ∧ ns.length < 64 ∧ ∀ p, H1 p = none → Q (.ref p) (upd H1 p (.lst ((sortI (dis ns)).map V.int)))
theorem pe_sortedSetT {ta : TE} {p p2 q pos : Pos} (hc : X.calm = true) (hg : Gl X "sorted") (hm : X.mg "sorted" = none) (hg2 : Gl X "set") (hm2 : X.mg "set" = none) (ha : PE X a ta)
    (na : starEach [a] X.env = (false, eval a X.env) :: starEach [] X.env := by rfl) : PE X (.Call (.Name "sorted" p) [.Call (.Name "set" p2) [a] [] q] [] pos) (tSortedSetT X.K ta) := by
  refine ⟨fun pins s σ H Q I h => ?_⟩
  refine Call_ (ld_blt I hg hm (show bootBuiltins "sorted" = some (.builtin "sorted") by decide +kernel) ?_)
  refine PyProof.Rows.callWith_builtin1 (PyProof.Rows.args_cons ?_ rfl) rfl rfl
  refine Call_ (ld_blt I hg2 hm2 boot_set ?_)
  refine PyProof.Rows.callWith_type1 (PyProof.Rows.args_cons (thn (ha.run pins s σ H _ I h) fun v s1 ⟨x, H1, I1, r1, q1⟩ => PyProof.Rows.args_nil ?_) na) na rfl
  obtain ⟨l, ns, rfl, hq, h1, q1⟩ := q1
  cases r1
  obtain ⟨its, r, pl, hz⟩ := I1.tuple hq
  refine call_set_tupI ns (I1.ok.hd hc) pl (by simpa using r.ints) (by unfold scanBound; omega) fun h' tk c R1 hcn hk => ?_
  refine PyProof.Rows.args_nil ?_
  have I2 : Inv X pins σ H1 { s1 with heap := h', toks := tk } := I1.kept fun b o e => hk b o e
  have hc64 : c < 64 := by omega
  have R1 : SetR X.w ({ s1 with heap := h', toks := tk } : Shared).heap s1.heap.objs.size (fun j => decide (j ∈ ns)) c := R1
  generalize ({ s1 with heap := h', toks := tk } : Shared) = s2 at I2 R1 ⊢
  refine sorted_set (s := s2) R1 (I2.ok.hd hc) hc64 fun s' p out c' ns' k g o hp hg hi hs hm hl => ?_
  have hlen : (ns'.map V.int).length ≤ sizeLine := by rw [List.length_map, hl, sizeLine_eq]; omega
  have hn : H1 p = none := I2.hok.fresh hp
  have J : Inv X pins σ (upd H1 p (.lst (ns'.map V.int))) { s2 with heap := s'.heap, gens := s'.gens, drawn := s'.drawn, toks := s'.toks } :=
    I2.call (ch := []) (Un.laid k hp hn) (I2.hok.laid k hp ⟨hlen, out.toList, c', vals_of_ints hi, hg⟩) (by rw [g]; exact I2.bare) (fun _ z => nomatch z)
  have e : s' = { s2 with heap := s'.heap, gens := s'.gens, drawn := s'.drawn, toks := s'.toks } := by
    cases s'
    cases s2
    cases o
    rfl
  have es : ns' = sortI (dis ns) := by
    refine sortI_of ?_ (hs.imp fun h => Int.le_of_lt h)
    refine (List.perm_ext_iff_of_nodup (hs.imp fun h => Int.ne_of_lt h) (nodup_dis ns)).mpr fun z => ?_
    rw [hm z, mem_dis, decide_eq_true_eq]
  rw [es] at J
  rw [e]
  exact ⟨.ref p, _, J, rfl, q1 p hn⟩
def eSortedSet (f : Store → Option D) : Store → Option D := fun ρ => match f ρ with
  | some (.tup ds) => (match D.ints ds with | some ns => if ns.length < 64 then some (.lst ((sortI (dis ns)).map .int)) else none | none => none)
  | _ => none
theorem xev_sortedSet {p p2 q pos : Pos} (hc : X.calm = true) (hg : Gl X "sorted") (hm : X.mg "sorted" = none) (hg2 : Gl X "set") (hm2 : X.mg "set" = none) (ha : Ev X Γ a m B f te) (hK : X.K = K := by rfl)
    (na : starEach [a] X.env = (false, eval a X.env) :: starEach [] X.env := by rfl) : Ev X Γ (.Call (.Name "sorted" p) [.Call (.Name "set" p2) [a] [] q] [] pos) 1 B (eSortedSet f) (tSortedSetT K te) := by
  subst hK
  refine ⟨pe_sortedSetT hc hg hm hg2 hm2 ha.pe na, ⟨fun {E ρ σ H Φ} R d e Q q => ?_⟩⟩
  unfold eSortedSet at e
  split at e
  · rename_i ds e1
    split at e
    · rename_i ns e2
      split at e
      · rename_i hl
        cases e
        refine ha.sd.sh R e1 _ fun v H1 x o => ?_
        obtain ⟨l, vs, rfl, s, lo⟩ := o.tup_inv
        rw [lo.ints e2] at s
        refine ⟨l, ns, rfl, s, hl, fun p hp => ?_⟩
        exact fin_lst (fun v H2 Ψ x2 new nd o2 => q v H2 Ψ (res_of R x x2 new nd o2)) (own_ints _) p hp
      · cases e
    · cases e
  · cases e
theorem sortedSet_ok {ρ : Store} {ns : List Int} (h : f ρ = some (.tup (ns.map .int))) (hl : ns.length < 64) : eSortedSet f ρ = some (.lst ((sortI (dis ns)).map .int)) := by
  unfold eSortedSet
  simp only [h, ints_map]
  exact if_pos hl
/-! ### a, (b, c) = an item -/
def gSetN (i j l : Nat) : D → Store → Option Store := fun d ρ => match d with
  | .tup [x, .tup [y, z]] => some (((ρ.set i (some x)).set j (some y)).set l (some z))
  | _ => none
theorem sdg_nest {i j l : Nat} (hG : i < Γ.length) (hG' : j < Γ.length) (hG2 : l < Γ.length) (hi : I i = 0) (hj : I j = 0) (hl : I l = 0) : SdG K I Γ (gTup K 2 (gCons (gName i) (gCons (gTup K 2 (gCons (gName j) (gCons (gName l) gNil))) gNil))) (((Γ.set i 0).set j 0).set l 0) (gSetN i j l) [i, j, l] := by
  refine ⟨fun {E ρ σ H Φ} hI R d v o ρ' e Q q => ?_⟩
  unfold gSetN at e
  split at e
  · rename_i x y z
    cases e
    obtain ⟨a, vs, rfl, hs, hl'⟩ := o.tup_inv
    obtain ⟨v1, vs1, rfl, h1, hl'⟩ := hl'.cons_inv0
    obtain ⟨v2, vs2, rfl, h2, hl'⟩ := hl'.cons_inv0
    obtain rfl := hl'.nil_inv
    obtain ⟨a2, ws, rfl, hs2, hl2⟩ := h2.tup_inv
    obtain ⟨w1, ws1, rfl, g1, hl2⟩ := hl2.cons_inv0
    obtain ⟨w2, ws2, rfl, g2, hl2⟩ := hl2.cons_inv0
    obtain rfl := hl2.nil_inv
    refine ⟨a, [v1, .ref a2], rfl, hs, rfl, v1, [.ref a2], rfl, .ref a2, [], rfl, a2, [w1, w2], rfl, hs2, rfl, w1, [w2], rfl, w2, [], rfl, rfl, rfl, ?_⟩
    have R1 := set_sh R h1 hG (by rw [hI]; exact hi)
    have R2 := set_sh R1 (own_less g1) (by rw [List.length_set]; exact hG') (by rw [hI]; exact hj)
    have R3 := set_sh R2 (own_less (own_less g2)) (by rw [List.length_set, List.length_set]; exact hG2) (by rw [hI]; exact hl)
    refine q _ _ R3 ⟨fun k n => ?_, by rw [List.length_set, List.length_set, List.length_set]⟩ fun k n => ?_
    · have n1 : j ≠ k := fun e => n (by rw [e]; exact List.mem_cons_of_mem _ List.mem_cons_self)
      have n2 : i ≠ k := fun e => n (by rw [e]; exact List.mem_cons_self)
      have n3 : l ≠ k := fun e => n (by rw [e]; exact List.mem_cons_of_mem _ (List.mem_cons_of_mem _ (List.mem_singleton.mpr rfl)))
      rw [List.getElem?_set_ne n3, List.getElem?_set_ne n1, List.getElem?_set_ne n2]
    · have n1 : k ≠ j := fun e => n (by rw [e]; exact List.mem_cons_of_mem _ List.mem_cons_self)
      have n2 : k ≠ i := fun e => n (by rw [e]; exact List.mem_cons_self)
      have n3 : k ≠ l := fun e => n (by rw [e]; exact List.mem_cons_of_mem _ (List.mem_cons_of_mem _ (List.mem_singleton.mpr rfl)))
      show (if k = l then [] else if k = j then [] else if k = i then [] else Φ k) = Φ k
      rw [if_neg n3, if_neg n1, if_neg n2]
  · cases e
theorem g_nest (i j l : Nat) {x y z : Str} {p1 p2 p3 p4 : Pos} {kk k2 : Nat} (hN : X.N.Nodup) (hc : X.calm = true := by rfl) (hi : X.N[i]? = some x := by rfl) (hj : X.N[j]? = some y := by rfl) (hl : X.N[l]? = some z := by rfl) (hx : Loc X.env.scope x := by first | exact Or.inl rfl | exact Or.inr rfl) (hy : Loc X.env.scope y := by first | exact Or.inl rfl | exact Or.inr rfl) (hz : Loc X.env.scope z := by first | exact Or.inl rfl | exact Or.inr rfl)
    (hG : i < Γ.length := by decide) (hG' : j < Γ.length := by decide) (hG2 : l < Γ.length := by decide) (hio : I i = 0 := by rfl) (hio' : I j = 0 := by rfl) (hio2 : I l = 0 := by rfl) (hf : X.fn x = true ∨ X.env.scope.names.lookup x = some .local := by first | exact .inl rfl | exact .inr rfl)
    (hf' : X.fn y = true ∨ X.env.scope.names.lookup y = some .local := by first | exact .inl rfl | exact .inr rfl) (hf2 : X.fn z = true ∨ X.env.scope.names.lookup z = some .local := by first | exact .inl rfl | exact .inr rfl)
    (hn : (assignEach [.Name x p1, .Tuple [.Name y p2, .Name z p3] k2 p4] X.env).length = 2 := by rfl) (hst : (assignEach [.Name x p1, .Tuple [.Name y p2, .Name z p3] k2 p4] X.env).findIdx? (·.1) = none := by rfl)
    (hs1 : (assignEach [.Name x p1, .Tuple [.Name y p2, .Name z p3] k2 p4] X.env).map (·.2) = assign (.Name x p1) X.env :: (assignEach [.Tuple [.Name y p2, .Name z p3] k2 p4] X.env).map (·.2) := by rfl) (hs2 : (assignEach [.Tuple [.Name y p2, .Name z p3] k2 p4] X.env).map (·.2) = assign (.Tuple [.Name y p2, .Name z p3] k2 p4) X.env :: (assignEach [] X.env).map (·.2) := by rfl)
    (hn' : (assignEach [.Name y p2, .Name z p3] X.env).length = 2 := by rfl) (hst' : (assignEach [.Name y p2, .Name z p3] X.env).findIdx? (·.1) = none := by rfl)
    (hs3 : (assignEach [.Name y p2, .Name z p3] X.env).map (·.2) = assign (.Name y p2) X.env :: (assignEach [.Name z p3] X.env).map (·.2) := by rfl) (hs4 : (assignEach [.Name z p3] X.env).map (·.2) = assign (.Name z p3) X.env :: (assignEach [] X.env).map (·.2) := by rfl) (hK : X.K = K := by rfl) :
    Gv X I Γ (.Tuple [.Name x p1, .Tuple [.Name y p2, .Name z p3] k2 p4] kk pos) (((Γ.set i 0).set j 0).set l 0) (gSetN i j l) [i, j, l] (gTup K 2 (gCons (gName i) (gCons (gTup K 2 (gCons (gName j) (gCons (gName l) gNil))) gNil))) := by
  subst hK
  exact ⟨pg_tup hc (pgs_cons (pg_name hN hi hx hf) (pgs_cons (pg_tup hc (pgs_cons (pg_name hN hj hy hf') (pgs_cons (pg_name hN hl hz hf2) pgs_nil hs4) hs3) hn' hst') pgs_nil hs2) hs1) hn hst, sdg_nest hG hG' hG2 hio hio' hio2⟩
end
end VL

/-! VL34: x[i].append(e), x a slot's own list of own lists. -/
namespace VL
open PySem PySem.Spec L2
open PyProof.Rows hiding St
section
variable {X : Cx} {K : PySem.W.Frag} {Γ : List Nat} {W : WX} {I : Nat → Nat} {r k m mi : Nat} {Γb Γ' : List Nat} {B : List Nat} {a e ei : Expr} {f fi : Store → Option D} {te ti : TE} {pos p : Pos}
theorem OwnL.appAt {H : Hp} {N : Addr → Prop} : ∀ {ds : List D} {vs : List V} {fp : List Addr}, OwnL K H N 1 ds vs fp → fp.Nodup → ∀ (j : Nat) (ws : List D), ds[j]? = some (.lst ws) →
    ∃ (l : Addr) (wv : List V), vs[j]? = some (.ref l) ∧ l ∈ fp ∧ H l = some (.lst wv) ∧ wv.length = ws.length ∧
      ∀ (H' : Hp) (N' : Addr → Prop) (d : D) (y : V), Own K H' N' 0 d y [] → (∀ a o, H a = some o → ¬ notTup o → H' a = some o) → (∀ a o, H a = some o → N a → H' a = some o ∧ N' a) → (∀ a ∈ fp, a ≠ l → ∀ o, H a = some o → H' a = some o) → H' l = some (.lst (wv ++ [y])) →
        OwnL K H' N' 1 (ds.set j (.lst (ws ++ [d]))) vs fp
  | _, _, _, .nil, _, j, ws, e => by cases e
  | _, _, _, .cons (fp := fp1) (fps := fps) h l, nd, 0, ws, e => by
    cases e
    obtain ⟨hn1, hn2, hn3⟩ := List.nodup_append.mp nd
    obtain ⟨k', a, wv, fp', ek, rfl, rfl, ha, lo⟩ := h.lst_inv (by decide)
    cases ek
    have := lo.fp0 rfl
    subst this
    refine ⟨a, wv, rfl, List.mem_append_left _ List.mem_cons_self, ha, lo.len, fun H' N' d y o tp sh kp hl => ?_⟩
    refine .cons (.lst hl (OwnL.snoc0 o (lo.move tp sh fun a m => (nomatch m)))) (l.move tp sh fun b m ob e => kp b (List.mem_append_right _ m) (fun z => hn3 a List.mem_cons_self b m z.symm) ob e)
  | _, _, _, .cons (fp := fp1) (fps := fps) h l, nd, j + 1, ws, e => by
    obtain ⟨hn1, hn2, hn3⟩ := List.nodup_append.mp nd
    obtain ⟨a, wv, e1, am, ha, hlen, k⟩ := OwnL.appAt l hn2 j ws (by simpa using e)
    refine ⟨a, wv, by simpa using e1, List.mem_append_right _ am, ha, hlen, fun H' N' d y o tp sh kp hl => ?_⟩
    exact .cons (h.move tp sh fun b m ob e => kp b (List.mem_append_left _ m) (fun z => hn3 b m a am z) ob e) (k H' N' d y o tp sh (fun b m n ob e => kp b (List.mem_append_right _ m) n ob e) hl)
def sAppAt (i : Nat) (fi f : Store → Option D) : Store → Option O := fun ρ => match eVar i ρ with
  | some (.lst ds) => (match fi ρ with
    | some (.int z) => (match f ρ with
      | some d => (match ixN ds.length z with
        | some j => (match ds[j]? with
          | some (.lst ws) => if ws.length < sizeLine then some (.nx (ρ.set i (some (.lst (ds.set j (.lst (ws ++ [d]))))))) else none
          | _ => none)
        | none => none)
      | none => none)
    | _ => none)
  | _ => none
theorem sd_appAt {i : Nat} (hm : Γ.getD i 0 = 2) (hi : SdE K Γ ti mi [] fi) (h : SdE K Γ te m [] f) : SdS K W I r Γ Γb Γ (tDrop (tBM K "list" rAppend (tOp (rIx K) (tVar i) ti) (tCons te tNil))) (sAppAt i fi f) := by
  refine ⟨fun {E ρ σ H Φ} hI R o e D q => ?_⟩
  unfold sAppAt at e
  split at e
  · rename_i ds e0
    split at e
    · rename_i z ez
      split at e
      · rename_i d e1
        split at e
        · rename_i j ej
          split at e
          · rename_i ws ew
            split at e
            · rename_i hz
              cases e
              obtain ⟨v, h1, h2⟩ := R.val i _ (eVar_some e0)
              obtain ⟨k', l, vs, fp, ek, rfl, efp, hl, lo⟩ := h2.lst_inv (by rw [hm]; decide)
              rw [hm] at ek
              cases ek
              have ndf : (l :: fp).Nodup := by have := R.nd i; rw [efp] at this; exact this
              obtain ⟨a, wv, ev, am, ha, hlen, kk⟩ := lo.appAt (List.nodup_cons.mp ndf).2 j ws ew
              refine ⟨_, h1, ?_⟩
              refine hi.sh R ez _ fun y H1 x1 oy => ?_
              cases oy
              have at_ : atI vs z = some (.ref a) := by
                unfold atI
                rw [lo.len, ej]
                exact ev
              refine .inl ⟨l, vs, z, .ref a, rfl, rfl, .inl (.inl (x1 _ _ hl)), at_, ?_⟩
              refine ⟨.inl ⟨rfl, _, .inl (.inl (x1 _ _ ha))⟩, ?_⟩
              refine h.sh (R.ext x1) e1 _ fun y H2 x2 oy => ?_
              have x12 : ∀ b o, H b = some o → H2 b = some o := fun b o e => x2 b o (x1 b o e)
              refine ⟨a, wv, y, rfl, rfl, x12 _ _ ha, by rw [hlen]; exact hz, ?_⟩
              have R2 := (R.ext x1).ext x2
              have aΦ : a ∈ Φ i := by rw [efp]; exact List.mem_cons_of_mem _ am
              have al : a ≠ l := fun z => (List.nodup_cons.mp ndf).1 (z ▸ am)
              have st : ∀ b o, H2 b = some o → b ≠ a → upd H2 a (.lst (wv ++ [y])) b = some o := fun b o e n => by rw [upd_ne n]; exact e
              have tupH : ∀ b o, H b = some o → ¬ notTup o → b ≠ a := fun b o e t z => by subst z; rw [ha] at e; cases e; exact t trivial
              have tup2 : ∀ b o, H2 b = some o → ¬ notTup o → b ≠ a := fun b o e t z => by subst z; rw [x12 _ _ ha] at e; cases e; exact t trivial
              refine q _ _ _ (R2.mut (i := i) (v := .ref l) (Ψ := Φ i) h1 (by rw [hm]; decide) (fun b o e n => st b o e fun z => n (by rw [z]; exact aΦ)) (fun b o e => by
                by_cases z : b = a
                · subst z; exact ⟨_, upd_same⟩
                · exact ⟨o, st b o e z⟩) ?_ (R.nd i) fun b m => .inl m)
              rw [hm, efp]
              have oy2 : Own K (upd H2 a (.lst (wv ++ [y]))) (fun b => b ∉ l :: fp ∧ ∀ j, j ≠ i → b ∉ Φ j) 0 d y [] := oy.move (fun b o e t => st b o e (tup2 b o e t)) (fun b o e z => by
                have nb : b ≠ a := fun z' => z.2 i List.not_mem_nil (by rw [z']; exact aΦ)
                exact ⟨st b o e nb, by rw [← efp]; exact z.2 i List.not_mem_nil, fun j _ => z.2 j List.not_mem_nil⟩) fun b m => (nomatch m)
              exact .lst (st _ _ (x12 _ _ hl) (Ne.symm al)) (kk _ _ d y oy2 (fun b o e t => st b o (x12 b o e) (tupH b o e t)) (fun b o e z => by
                have nb : b ≠ a := fun z' => z i (by rw [z']; exact aΦ)
                exact ⟨st b o (x12 b o e) nb, by rw [← efp]; exact z i, fun j _ => z j⟩) (fun b m n o e => st b o (x12 b o e) n) upd_same)
            · cases e
          · cases e
        · cases e
      · cases e
    · cases e
  · cases e
theorem s_appAt (i : Nat) {x : Str} {pn pix pa pc ps : Pos} (hi : Ev X Γ ei mi [] fi ti) (he : Ev X Γ e m [] f te) (hN : X.N[i]? = some x := by rfl) (hv : Vis X.env.scope x := by first | exact Or.inl rfl | exact Or.inr (Or.inl rfl) | exact Or.inr (Or.inr rfl)) (hm : Γ.getD i 0 = 2 := by rfl) (hpi : PlainIx ei := by exact fun _ _ => rfl)
    (hbase : attributeBase (.Subscript (.Name x pn) ei pix) "append" X.env (eval (.Subscript (.Name x pn) ei pix) X.env) = eval (.Subscript (.Name x pn) ei pix) X.env := by rfl) (hline : (pa.endLine == pc.line) = true := by rfl)
    (hfew : ((backTo pc (starEach [e] X.env)).all (fun x => !x.1) && (backToKw pc (keywordEach [] X.env)).all (fun x => x.1.isSome) && decide ([e].length + ([] : List Keyword).length + (if ([] : List Keyword).isEmpty then 0 else 1) < 30)) = true := by rfl)
    (hss : starEach [e] X.env = (false, eval e X.env) :: starEach [] X.env := by rfl) (hplain : (backTo pc (starEach [] X.env)).any (·.1) = false := by rfl)
    (hs : swapsWith (.Call (.Attribute (.Subscript (.Name x pn) ei pix) "append" pa) [e] [] pc) none ps.line X.env = pure false := by rfl) (hd : (x == ("__debug__" : Str)) = false := by decide) (hcd : (x == ("__classdict__" : Str)) = false := by decide) :
    Sv X W I r Γ Γb (.Expr (.Call (.Attribute (.Subscript (.Name x pn) ei pix) "append" pa) [e] [] pc) ps) Γ (sAppAt i fi f) (tDrop (tBM X.K "list" rAppend (tOp (rIx X.K) (tVar i) ti) (tCons te tNil))) :=
  ⟨ps_expr (pe_bm PySem.F.plainAttrs_list PySem.F.slot_list_append PySem.F.type_list_append mt_append (pe_ix ix_seq (pe_var hN hv hd hcd) hi.pe hpi) (pa_cons he.pe pa_nil hss) hbase hfew hline hss hplain) hs, sd_appAt hm hi.sd he.sd⟩
theorem appAt_ok {ρ ρ' : Store} {i j : Nat} {z : Int} {d : D} {ds ws : List D} (h1 : eVar i ρ = some (.lst ds)) (h2 : fi ρ = some (.int z)) (h3 : f ρ = some d) (h4 : ixN ds.length z = some j) (h5 : ds[j]? = some (.lst ws)) (h6 : ws.length < 16777216) (h7 : ρ.set i (some (.lst (ds.set j (.lst (ws ++ [d]))))) = ρ') : sAppAt i fi f ρ = some (.nx ρ') := by
  unfold sAppAt
  simp only [h1, h2, h3, h4, h5, h7]
  exact if_pos (by rw [PySem.sizeLine_eq]; exact h6)
end
end VL

set_option maxHeartbeats 1000000
/-! VL35: for a, (b, c) in enumerate(a tuple). -/
namespace VLN
open PySem
open AutoSeq1 (wpAny_loadPart')
theorem meets_enum_tup (l : Addr) (items : Array Value) (n : Nat) (dct : Option Addr) (sl : Array (Option Value)) :
    Meets (Builtin.«enumerate.__new__» ⟨[.type "enumerate", .ref l], []⟩) (fun _ R s => s.heap.get? l = some { cls := .type "tuple", dict := dct, data := .seq items n, slots := sl } ∧
      R (.ok (.ret (.ref (s.heap.push { cls := .type "tuple_iterator", data := .fields #[.ref l, .int 0 0] }).objs.size)))
        { s with heap := (s.heap.push { cls := .type "tuple_iterator", data := .fields #[.ref l, .int 0 0] }).push { cls := .type "enumerate", data := .fields #[.none, .bool false, .ref s.heap.objs.size, rawInt 0, .none, .none] } }) :=
  .of_wp fun prog w A R s h => by
    obtain ⟨hp, g, d, tk, os⟩ := s; obtain ⟨hl, h⟩ := h
    have hsub := sub_enumerate
    have hL : Heap.IsTuple (Shared.heap ⟨hp, g, d, tk, os⟩) l items := ⟨_, hl, rfl, n, rfl⟩
    wp_walk using wpAny_loadPart' hl
    refine wpAny_stack_any fun st => wpAny_pure ?_
    split
    · rename_i c _ _ _ _ _
      cases (c == Value.type "enumerate")
      · wp_walk using wpAny_loadPart' hl, wpAny_pyIter_tuple hL
        exact ⟨_, rfl, h⟩
      · wp_walk using wpAny_loadPart' hl, wpAny_pyIter_tuple hL
        exact ⟨_, rfl, h⟩
    · wp_walk using wpAny_loadPart' hl, wpAny_pyIter_tuple hL
      exact ⟨_, rfl, h⟩
section
variable {prog : Program} {w : World} {A : Around} {E : Value → Shared → Prop} {s : Shared}
theorem call_enum_tup {l : Addr} {items : Array Value} {Q : Value → Shared → Prop} (hL : s.heap.IsTuple l items)
    (h : ∀ h', IsEnum h' (s.heap.objs.size + 1) s.heap.objs.size 0 .none → h'.IsTupleIter s.heap.objs.size l 0 → h'.objs.size = s.heap.objs.size + 2 →
      (∀ b o, s.heap.get? b = some o → h'.get? b = some o) → Q (.ref (s.heap.objs.size + 1)) { s with heap := h' }) :
    wpAny (model prog w) A (call (.type "enumerate") [.ref l]) Q E s := by
  obtain ⟨⟨c, dct, dt, sl⟩, hl, hc, n, hd⟩ := hL
  replace hc : c = .type "tuple" := hc
  replace hd : dt = .seq items n := hd
  subst hc hd
  refine callType_new F.called_enumerate (by decide) (F.typeCall_enumerate_1 _) (F.newCall_enumerate_1 _) (fun obj => F.args_object_init_2 obj _) F.entry_enumerate_new
    (meets_enum_tup l items n dct sl) ⟨hl, ?_⟩
  have hz : (s.heap.push { cls := .type "tuple_iterator", data := .fields #[.ref l, .int 0 0] }).objs.size = s.heap.objs.size + 1 := Heap.size_push ..
  show _ ∧ _
  rw [hz]
  have he : IsEnum ((s.heap.push { cls := .type "tuple_iterator", data := .fields #[.ref l, .int 0 0] }).push
      { cls := .type "enumerate", data := .fields #[.none, .bool false, .ref s.heap.objs.size, rawInt 0, .none, .none] }) (s.heap.objs.size + 1) s.heap.objs.size 0 .none := by
    have := Heap.get?_push_size (s.heap.push { cls := .type "tuple_iterator", data := .fields #[.ref l, .int 0 0] })
      (o := { cls := .type "enumerate", data := .fields #[.none, .bool false, .ref s.heap.objs.size, rawInt 0, .none, .none] }) rfl
    rw [hz] at this; exact this
  refine ⟨⟨_, he, rfl⟩, h _ he ⟨_, Heap.get?_push_of_some _ (Heap.get?_push_size _ rfl), rfl, rfl⟩ (by rw [Heap.size_push, hz]) fun b o x => Heap.get?_push_of_some _ (Heap.get?_push_of_some _ x)⟩
end
end VLN
namespace VL
open PySem PySem.Spec L2
open PyProof.Rows hiding St
/-- the tuple at a, each item in a new pair -/
def IteT (K : PySem.W.Frag) (a : Addr) : It :=
  ⟨fun i H => ∃ (xs : List V) (x : V), SqT K H a xs ∧ xs[i]? = some x, fun i H v H' => ∃ T x, v = .ref T ∧ H T = none ∧ H' = upd H T (.tup [.int (i : Nat), x]) ∧ ∀ xs, SqT K H a xs → xs[i]? = some x, fun i H => ∃ xs : List V, SqT K H a xs ∧ xs.length ≤ i⟩
theorem turn_enumT {P : Program} {w : World} {K : PySem.W.Frag} {elts : List Expr} {kk : Nat} {tpos : Pos} (a e it : Addr) (items : Array Value) (hai : a ≠ it) (hea : e ≠ a) :
    Turn P w K (.Tuple elts kk tpos) (IteT K a) [e, it] e (fun i h => (∃ old, IsEnum h e it ((i : Nat) : Int) old) ∧ h.IsTupleIter it a i ∧ e ≠ it) where
  mem := by simp
  obj := fun i h st b hb => by
    obtain ⟨⟨old, he⟩, ⟨o, ho, hc, hd⟩, _⟩ := st
    have e' : b = e ∨ b = it := by simpa using hb
    rcases e' with z | z
    · rw [z]; exact ⟨_, he, fun v q => nomatch q⟩
    · rw [z]; exact ⟨o, ho, fun v q => by rw [hd] at q; cases q⟩
  keep := fun i h h' st k => let ⟨⟨old, he⟩, hi, hne⟩ := st; ⟨⟨old, k e (by simp) _ he⟩, hi.at fun o q => k it (by simp) o q, hne⟩
  item := by
    intro X hP hw hK hc i pins s σ H E I hf st hg
    subst hP hw hK
    obtain ⟨⟨old, he⟩, hit, hne⟩ := st
    obtain ⟨xs, x, hq, hx⟩ := hg
    obtain ⟨its, rv, p, hz⟩ := I.tuple hq
    obtain ⟨u, hu, ru⟩ := rv.get hx
    have hel : e < s.heap.objs.size := Heap.lt_size he
    have hil : it < s.heap.objs.size := by obtain ⟨_, q, _⟩ := hit; exact Heap.lt_size q
    have hlt : i < its.toArray.size := by
      rw [List.size_toArray]
      exact (List.getElem?_eq_some_iff.mp hu).1
    refine wpAny_pyNext_enum_itemD (fp := [it, a]) (P := fun i v => its.toArray[i]? = some v) (Draws.tuple (A := X.A.in1) (I.ok.hd hc) it a hai its.toArray) he ⟨hit, p⟩ hlt hne (by simp only [List.mem_cons, List.not_mem_nil, or_false, not_or]; exact ⟨hne, hea⟩) fun x' h' tk hP ho hst' hT hsz hk => ?_
    have ex : x' = u := by
      have e1 : its.toArray[i]? = some u := by simpa using hu
      rw [e1] at hP
      cases hP
      rfl
    subst ex
    obtain ⟨hit', _⟩ := hst'
    refine ⟨_, rfl, wpAny_letOwnedTupleGo_enum (s := { s with heap := h', toks := tk + 1 }) ho fun h'' he' sb => ?_⟩
    have hT2 : h''.get? s.heap.objs.size = some { cls := .type "tuple", data := .seq #[.int i tk, x'] } := (sb.2 _ (Nat.ne_of_gt hel)).trans hT
    have new : ObjOk X.prog X.w (upd H s.heap.objs.size (.tup [.int (i : Nat), x])) h'' s.heap.objs.size (.tup [.int (i : Nat), x]) :=
      ⟨by show 2 ≤ sizeLine; decide, [.int i tk, x'], .cons ⟨_, rfl⟩ (.cons ru .nil), ⟨_, hT2, rfl, _, rfl⟩⟩
    have I1 : Inv X pins σ (upd H s.heap.objs.size (.tup [.int (i : Nat), x])) { s with heap := h'', toks := tk + 1 } :=
      I.turnedNew (ch := [e, it]) (fun b ob hb q => (sb.2 b (fun z => hb (by simp [z]))).trans (hk b ob (fun z => hb (by simp [z])) (fun z => hb (by simp [z])) q)) hf (Nat.le_refl _) new
    refine ⟨.ref s.heap.objs.size, _, I1, rfl, ⟨_, x, rfl, I.hok.fresh (Nat.le_refl _), rfl, fun ys hy => by rw [I.tuple_inj hy hq]; exact hx⟩, ⟨⟨x', ?_⟩, hit'.at fun o q => (sb.2 it (Ne.symm hne)).trans q, hne⟩, fun b hb => ?_⟩
    · have e1 : ((i + 1 : Nat) : Int) = (i : Int) + 1 := by omega
      rw [e1]; exact he'
    · have hb' : b < s.heap.objs.size := by
        have e' : b = e ∨ b = it := by simpa using hb
        rcases e' with z | z
        · rw [z]; exact hel
        · rw [z]; exact hil
      rw [upd_ne (Nat.ne_of_lt hb')]
      exact (hf b hb).1
  done := by
    intro X hP hw hK hc i pins s σ H E I hf st hg
    subst hP hw hK
    obtain ⟨⟨old, he⟩, hit, hne⟩ := st
    obtain ⟨xs, hq, hx⟩ := hg
    obtain ⟨its, rv, p, hz⟩ := I.tuple hq
    obtain ⟨f0, f1, f2, f3, f4, f5⟩ := hf it (by simp)
    have hl := rv.length
    have hT : s.TypeIs (.ref e) "enumerate" := ⟨_, he, rfl⟩
    unfold pyNext
    refine wpAny_bind (wpAny_attempt (wpAny_callSpecial?_slot (name := Str.ofString "__next__") hT F.slot_enumerate_next
      (wpAny_call_entry F.slot_enumerate_next hT F.entry_enumerate_next ?_ (F.args_enumerate_next_1 _))))
    show wpAny _ _ (field (.ref e) 2 >>= _) _ _ _
    refine wpAny_bind (wpAny_field he rfl (x := .ref it) rfl ?_)
    have hnone : its.toArray[i]? = none := by
      rw [List.getElem?_toArray]
      exact List.getElem?_eq_none (by omega)
    refine wpAny_bind (wpAny_nextOf_tuple_end (I.ok.hd hc) hit p hnone fun h' x he' hx' => ?_)
    obtain ⟨o, ho, hc'⟩ := hx'
    refine wpAny_bind (wpAny_isInstance (T := "StopIteration") (b := true) ⟨o, ho, hc'⟩ isSubtype_stop ?_)
    exact wpAny_pure ⟨rfl, I.turned (t' := s.toks) (fun b o hb q => he' b o hb q) f0 f1 f3 f4 f5⟩
  self := fun A i s Q E st h => let ⟨⟨_, he⟩, _⟩ := st; wpAny_pyIter_enum he h
def iEnumT (K : PySem.W.Frag) (te : TE) : TI := fun σ H R => te σ H fun v H1 => ∃ a xs, v = .ref a ∧ SqT K H1 a xs ∧ R (IteT K a) H1
theorem pi_enumT {X : Cx} {e : Expr} {te : TE} {p pos tpos : Pos} {elts : List Expr} {kk : Nat} (hg : Gl X "enumerate") (hm : X.mg "enumerate" = none) (he : PE X e te) (hs : starEach [e] X.env = (false, eval e X.env) :: starEach [] X.env := by rfl) :
    PI X (.Tuple elts kk tpos) (.Call (.Name "enumerate" p) [e] [] pos) (iEnumT X.K te) := by
  refine ⟨fun pins s σ H R I h => ?_⟩
  refine Call_ (ld_blt I hg hm (show bootBuiltins "enumerate" = some (.type "enumerate") by decide +kernel) (PyProof.Rows.callWith_type1 (PyProof.Rows.args_cons (thn (he.run pins s σ H _ I h) fun u s1 ⟨v, H1, I1, r1, q1⟩ => PyProof.Rows.args_nil ?_) hs) hs rfl))
  obtain ⟨a, xs, ex, hq, q⟩ := q1
  subst ex
  obtain rfl : u = Value.ref a := r1
  obtain ⟨its, rv, p', hz⟩ := I1.tuple hq
  have hla : a < s1.heap.objs.size := by obtain ⟨_, q, _⟩ := p'; exact Heap.lt_size q
  refine VLN.call_enum_tup p' fun h' he hit hsz hk => wpAny_pyIter_enum he ?_
  have I2 : Inv X pins σ H1 { s1 with heap := h' } := I1.kept (t' := s1.toks) hk
  refine ⟨s1.heap.objs.size + 1, [s1.heap.objs.size + 1, s1.heap.objs.size], _, _, H1, rfl, I2, turn_enumT a (s1.heap.objs.size + 1) s1.heap.objs.size its.toArray (Nat.ne_of_lt hla) (Nat.ne_of_gt (Nat.lt_succ_of_lt hla)), ⟨⟨.none, he⟩, hit, Nat.succ_ne_self _⟩, fun b hb => ?_, q⟩
  have e' : b = s1.heap.objs.size + 1 ∨ b = s1.heap.objs.size := by simpa using hb
  have hle : s1.heap.objs.size ≤ b := by
    rcases e' with z | z
    · rw [z]; exact Nat.le_add_right _ _
    · rw [z]; exact Nat.le_refl _
  exact I1.fpOk hle (I1.hok.fresh hle)
/-- the items, numbered -/
def enm : Nat → List D → List D
  | _, [] => []
  | i, d :: ds => .tup [.int (i : Nat), d] :: enm (i + 1) ds
theorem enm_len : ∀ (i : Nat) (ds : List D), (enm i ds).length = ds.length
  | _, [] => rfl
  | i, d :: ds => by show (enm (i + 1) ds).length + 1 = ds.length + 1; rw [enm_len]
theorem enm_get : ∀ (ds : List D) (k i : Nat), (enm k ds)[i]? = (ds[i]?).map fun d => D.tup [.int ((k + i : Nat) : Int), d]
  | [], _, _ => rfl
  | d :: ds, k, 0 => rfl
  | d :: ds, k, i + 1 => by
    show (enm (k + 1) ds)[i]? = _
    rw [enm_get ds (k + 1) i, List.getElem?_cons_succ, show k + 1 + i = k + (i + 1) by omega]
def iEnm (f : Store → Option D) : Store → Option (List D) := fun ρ => match f ρ with
  | some (.tup ds) => some (enm 0 ds)
  | _ => none
section
variable {X : Cx} {K : PySem.W.Frag} {Γ : List Nat} {m : Nat} {e : Expr} {f : Store → Option D} {t : TE} {pos p : Pos}
theorem wk_enumT {ds : List D} {a : Addr} : Wk K (IteT K a) (.tup ds) (.ref a) (enm 0 ds) := by
  refine ⟨fun {H N} o i d e => ?_, fun {H N} o => ?_⟩
  · obtain ⟨_, vs, e0, s, lo⟩ := o.tup_inv
    cases e0
    rw [enm_get] at e
    cases e1 : ds[i]? with
    | none => rw [e1] at e; cases e
    | some d1 =>
      rw [e1] at e
      cases e
      obtain ⟨v, hv, o⟩ := lo.get0 e1
      refine ⟨⟨vs, v, s, hv⟩, fun x H2 y => ?_⟩
      obtain ⟨T, x1, rfl, hT, rfl, y⟩ := y
      have z := y vs s
      rw [hv] at z
      cases z
      have x := ext_upd (o := .tup [.int (i : Nat), v]) hT
      refine ⟨x, .tup (fp := []) (.inl (.inl upd_same)) ?_⟩
      have o2 : Own K (upd H T (.tup [.int (i : Nat), v])) N 0 d1 v [] := o.move (fun a o e _ => x a o e) (fun a o e n => ⟨x a o e, n⟩) fun a m => (nomatch m)
      rw [Nat.zero_add]
      exact .cons (fp := []) (fps := []) .int (.cons (fp := []) (fps := []) o2 .nil)
  · obtain ⟨_, vs, e0, s, lo⟩ := o.tup_inv
    cases e0
    exact ⟨vs, s, by rw [lo.len, enm_len]; exact Nat.le_refl _⟩
theorem xiv_enumT {elts : List Expr} {kk : Nat} {tpos : Pos} (hg : Gl X "enumerate") (hm : X.mg "enumerate" = none) (h : Ev X Γ e m [] f t) (hs : starEach [e] X.env = (false, eval e X.env) :: starEach [] X.env := by rfl) (hK : X.K = K := by rfl) :
    Iv X Γ (.Tuple elts kk tpos) (.Call (.Name "enumerate" p) [e] [] pos) (iEnm f) (iEnumT K t) := by
  subst hK
  refine ⟨pi_enumT hg hm h.pe hs, ⟨fun {E ρ σ H Φ} R ds e Q q => ?_⟩⟩
  unfold iEnm at e
  split at e
  · rename_i ds' e1
    cases e
    refine h.sd.sh R e1 _ fun v H1 x o => ?_
    obtain ⟨l, vs, rfl, s, lo⟩ := o.tup_inv
    exact ⟨l, vs, rfl, s, q _ _ _ _ x (own_live o) wk_enumT⟩
  · cases e
end
end VL

/-! VL36: len(set(x)), x a list of texts. -/
namespace VL
open PySem PySem.Spec L2
open PyProof.Rows hiding St
def stepS (σ : List Str) (v : Str) : List Str := if σ.any (· == v) then σ else σ ++ [v]
def firstS (val : Nat → Str) (i : Nat) : List Str := ((List.range i).map val).foldl stepS []
theorem firstS_succ (val : Nat → Str) (i : Nat) : firstS val (i + 1) = stepS (firstS val i) (val i) := by
  unfold firstS; rw [List.range_succ, List.map_append, List.foldl_append]; rfl
theorem stepS_length (σ : List Str) (v : Str) : (stepS σ v).length = if σ.any (· == v) then σ.length else σ.length + 1 := by
  unfold stepS; split <;> simp
theorem firstS_le (val : Nat → Str) : ∀ i, (firstS val i).length ≤ i
  | 0 => Nat.le_refl _
  | i + 1 => by
    rw [firstS_succ, stepS_length]
    have ih := firstS_le val i
    split <;> omega
theorem stepS_any (σ : List Str) (v k : Str) : (stepS σ v).any (· == k) = (σ.any (· == k) || decide (k = v)) := by
  unfold stepS
  by_cases h : σ.any (· == v) = true
  · rw [if_pos h]
    by_cases e : k = v
    · subst e; rw [h]; simp
    · simp [e]
  · rw [if_neg h, List.any_append]
    by_cases e : k = v
    · subst e; simp
    · have hb : (v == k) = false := by simpa [beq_iff_eq] using (fun h' : v = k => e h'.symm)
      simp [hb, e]
theorem firstS_any (val : Nat → Str) : ∀ (i : Nat) (k : Str), (firstS val i).any (· == k) = ((List.range i).map val).any (· == k)
  | 0, k => rfl
  | i + 1, k => by
    rw [firstS_succ, stepS_any, firstS_any val i k, List.range_succ, List.map_append, List.any_append]
    congr 1
    by_cases e : k = val i
    · subst e; simp
    · have hb : (val i == k) = false := by simpa [beq_iff_eq] using (fun h' : val i = k => e h'.symm)
      simp [hb, e]
section
variable {prog : Program} {w : World} {A : Around} {R : Result → Shared → Prop} {I : Addr} {fp wr : List Addr} {G : Array GenState → Array GenState → Prop} {n : Nat} {P : Nat → Value → Prop} {St : Nat → Shared → Prop}
theorem set_loopS (W : WalksS prog w A.in1 I fp wr G n P St) (S : Addr) (hSf : S ∉ fp)
    (val : Nat → Str) (hval : ∀ i v, P i v → ∃ t, v = .str (val i) t) (hb : n + 1 < scanBound) :
    ∀ (k i : Nat) (s : Shared), n - i = k → i ≤ n → St i s →
      s.heap.SetOf (strKind prog w) S (fun k' => (firstS val i).any (· == k')) (firstS val i).length →
      (∀ s', Moved (S :: wr) G s s' → s'.heap.SetOf (strKind prog w) S (fun k' => (firstS val n).any (· == k')) (firstS val n).length → R (.ok (.ret .none)) s') →
      codeAny (model prog w) A (.builtin "set.update.loop" ⟨[.ref S, .ref I], []⟩) R s := by
  have hSw : S ∉ wr := fun h => hSf (W.sub _ h)
  have hsub : ∀ b ∈ wr, b ∈ S :: wr := fun b hb => List.mem_cons_of_mem _ hb
  intro k
  induction k with
  | zero =>
    intro i s hk hi hst hS hR
    have hin : i = n := by omega
    subst hin
    refine codeAny_builtin PyProof.Rows.F.entry_set_update_loop ?_
    rw [Around.under_plainId PyProof.Rows.F.plain_set_update_loop _]
    show wpAny _ A.in1 (pyNext (.ref I) >>= _) _ _ s
    refine wpAny_bind (W.done s _ _ hst fun s' hm => ?_)
    show wpAny _ A.in1 (ret Value.none) _ _ s'
    exact wpAny_pure (hR s' (hm.mono hsub) (by
      obtain ⟨o, es, ep, t, ho, rest⟩ := hS
      exact ⟨o, es, ep, t, hm.heap S _ hSw ho, rest⟩))
  | succ k ih =>
    intro i s hk hi hst hS hR
    have hlt : i < n := by omega
    refine codeAny_builtin PyProof.Rows.F.entry_set_update_loop ?_
    rw [Around.under_plainId PyProof.Rows.F.plain_set_update_loop _]
    show wpAny _ A.in1 (pyNext (.ref I) >>= _) _ _ s
    refine wpAny_bind (W.item i s _ _ hlt hst fun v s' hP hst' hm => ?_)
    obtain ⟨t, rfl⟩ := hval i v hP
    have hS' : s'.heap.SetOf (strKind prog w) S (fun k' => (firstS val i).any (· == k')) (firstS val i).length := by
      obtain ⟨o, es, ep, tb, ho, rest⟩ := hS
      exact ⟨o, es, ep, tb, hm.heap S _ hSw ho, rest⟩
    show wpAny _ A.in1 (holding [Value.str (val i) t] (setAdd S (.str (val i) t)) >>= _) _ _ s'
    refine wpAny_bind (wpAny_holding ?_)
    unfold setAdd
    refine wpAny_holding ?_
    refine wpAny_bind ((strKind prog w).pyHash (k := val i) (strKind_is _ _ _ _) ?_)
    have hroom : (firstS val i).length + 1 < scanBound := by have := firstS_le val i; omega
    refine wpAny_setAddHashed_of (knd := strKind prog w) (s := { s' with toks := s'.toks + 1 }) (strKind_is _ _ _ _) rfl hS' hroom fun h' hsb hS2 => ?_
    have hSi : h'.SetOf (strKind prog w) S (fun k' => (firstS val (i + 1)).any (· == k')) (firstS val (i + 1)).length :=
      SetOf_congr hS2 (fun k' => by rw [firstS_succ, stepS_any]) (by rw [firstS_succ, stepS_length])
    refine wpAny_pure ⟨plainId_quiet PyProof.Rows.F.plain_set_update_loop _, ih (i + 1) _ (by omega) hlt (W.frame _ s' _ _ hst' (Nat.le_succ _) fun b hb o e => ?_) hSi fun s'' hm'' hS'' => ?_⟩
    · rw [hsb.2 b (fun h : b = S => hSf (by rw [← h]; exact hb))]; exact e
    · refine hR s'' (Moved.trans W.gtrans ((hm.mono hsub).then_heap (Nat.le_succ _) fun b o hb e => ?_) hm'') hS''
      rw [hsb.2 b (fun h : b = S => hb (by rw [h]; exact List.mem_cons_self))]; exact e
end
end VL
namespace PySem
section
variable {prog : Program} {w : World} {A : Around} {E : Value → Shared → Prop} {s : Shared}
set_option maxHeartbeats 3200000 in
theorem call_set_texts {l : Addr} {items : Array Value} {ns : List Str} {Q : Value → Shared → Prop}
    (hh : A.handled = none) (hl : s.heap.IsList l items) (hi : PyProof.Rows.StrsAre items.toList ns) (hb : items.size + 1 < scanBound)
    (h : ∀ (h' : Heap) (tk : Nat), h'.SetOf (strKind prog w) s.heap.objs.size (fun k' => (VL.firstS (fun i => ns.getD i Str.empty) items.size).any (· == k')) (VL.firstS (fun i => ns.getD i Str.empty) items.size).length →
      (∀ b o, b < s.heap.objs.size → s.heap.get? b = some o → h'.get? b = some o) → Q (.ref s.heap.objs.size) { s with heap := h', toks := tk }) :
    wpAny (model prog w) A (call (.type "set") [.ref l]) Q E s := by
  obtain ⟨c, tl, hmro⟩ := F.called_set.mro
  have hmade := F.called_set.made
  have hsub := F.called_set.sub
  refine wpAny_call (codeAny_of_tree ?_)
  show wpAny _ _ (callAny (.type "set") _) _ _ _
  refine wpAny_pure ⟨Code.quiet_builtin _ (by decide +kernel), codeAny_builtin F.entry_type_call ?_⟩
  rw [Around.under_plain (weight_type_call_type "set" [.ref l] []) rfl]
  have h1 := F.called_set.notType
  have h2 := F.called_set.canCreate
  have hct := F.typeCall_set_1 (.ref l)
  repeat (any_goals (first | assumption | wp_step))
  refine codeAny_mono (code_set_new_1 (.ref l) (E := E) (Q₁ := fun obj s₁ => ∃ led : Bool, obj = .ref s.heap.objs.size ∧ s₁ = { s with heap := s.heap.push { cls := .type "set", dict := none, data := .set #[] 0 (.fresh 0 0 led) } }) fun led => ⟨led, rfl, rfl⟩) fun r s₁ hr => ?_
  cases r with
  | error e => exact hr
  | ok fl =>
    cases fl with
    | ret obj =>
      obtain ⟨led, rfl, rfl⟩ := hr
      have hS : (s.heap.push { cls := .type "set", dict := none, data := .set #[] 0 (.fresh 0 0 led) }).get? s.heap.objs.size = some { cls := .type "set", dict := none, data := .set #[] 0 (.fresh 0 0 led) } := Heap.get?_push_size _ rfl
      have hT : Shared.TypeIs { s with heap := s.heap.push { cls := .type "set", dict := none, data := .set #[] 0 (.fresh 0 0 led) } } (.ref s.heap.objs.size) "set" := ⟨_, hS, rfl⟩
      have hli := F.called_set.init.lookup
      have hbi := F.called_set.init.bind (.ref s.heap.objs.size)
      repeat (any_goals (first | assumption | wp_step))
      refine codeAny_mono (codeAny_call_builtin (R := wants (fun r s₂ => r = .none ∧ ∃ h' tk, s₂ = { s with heap := h', toks := tk } ∧
          h'.SetOf (strKind prog w) s.heap.objs.size (fun k' => (VL.firstS (fun i => ns.getD i Str.empty) items.size).any (· == k')) (VL.firstS (fun i => ns.getD i Str.empty) items.size).length ∧
          (∀ b o, b < s.heap.objs.size → s.heap.get? b = some o → h'.get? b = some o)) E) F.called_set.init.plain F.entry_set_init (check_set_init_1 hT ?_)) fun r₂ s₂ hr₂ => ?_
      · obtain ⟨ol, hol, hcl, nl, hdl⟩ := hl
        obtain ⟨ocls, odict, odata, oslots⟩ := ol
        simp only at hcl hdl
        subst hcl; subst hdl
        have hol' : (s.heap.push { cls := .type "set", dict := none, data := .set #[] 0 (.fresh 0 0 led) }).get? l = some { cls := .type "list", dict := odict, data := .seq items nl, slots := oslots } := Heap.get?_push_of_some _ hol
        have hsls := F.sub_list_set
        have hslf := F.sub_list_frozenset
        have hne : (Value.type "list" == Value.type "dict") = false := by decide
        have hl1 : (s.heap.push { cls := .type "set", dict := none, data := .set #[] 0 (.fresh 0 0 led) }).IsList l items := ⟨_, hol', rfl, nl, rfl⟩
        unfold Builtin.«set.__init__» noKeywords Builtin.Frozenset.updateFrom
        generalize hPI : pyIter = PI
        wp_walk
        subst hPI
        refine wpAny_pyIter_list hl1 ?_
        refine wpAny_bind (wpAny_runValue ?_)
        have hlS : l < s.heap.objs.size := Heap.lt_size hol
        have hh3 : A.in1.in1.in1.handled = none := by simp [hh]
        have hneI : l ≠ (s.heap.push { cls := .type "set", dict := none, data := .set #[] 0 (.fresh 0 0 led) }).objs.size := by
          rw [Heap.size_push]; exact Nat.ne_of_lt (Nat.lt_succ_of_lt hlS)
        have hSf : s.heap.objs.size ∉ [(s.heap.push { cls := .type "set", dict := none, data := .set #[] 0 (.fresh 0 0 led) }).objs.size, l] := by
          rw [Heap.size_push]; simp only [List.mem_cons, List.mem_singleton, List.not_mem_nil, or_false, not_or]
          exact ⟨Nat.ne_of_lt (Nat.lt_succ_self _), Nat.ne_of_gt hlS⟩
        have hval : ∀ (i : Nat) (v : Value), items[i]? = some v → ∃ t, v = .str ((fun i => ns.getD i Str.empty) i) t := fun i v hv =>
          SS.strs_at hi i v (by rw [Array.getElem?_toList]; exact hv)
        refine VL.set_loopS ((Walks.list hh3 _ l hneI items).toS) s.heap.objs.size
          hSf (fun i => ns.getD i Str.empty) hval hb (items.size - 0) 0 _ (by omega) (Nat.zero_le _)
          ⟨⟨_, Heap.get?_push_size _ rfl, rfl, rfl⟩, (hl1.push _)⟩ ?hS0 ?hR
        case hS0 =>
          have hget : ((s.heap.push { cls := .type "set", dict := none, data := .set #[] 0 (.fresh 0 0 led) }).push { cls := .type "list_iterator", data := .fields #[.ref l, .int 0 0] }).get? s.heap.objs.size
              = some { cls := .type "set", dict := none, data := .set #[] 0 (.fresh 0 0 led) } := Heap.get?_push_of_some _ hS
          exact PyProof.Rows.SetOf_congr ((PyProof.Rows.setObjOf_fresh (knd := strKind prog w) led).setOf hget (by unfold scanBound; omega)) (fun _ => rfl) rfl
        case hR =>
          intro s' hm hS'
          obtain ⟨h', g', d', tk', os'⟩ := s'
          have eg : g' = s.gens := hm.gens
          have ed : d' = s.drawn := hm.drawn
          have eo : os' = s.os := hm.os
          subst eg; subst ed; subst eo
          show wpAny _ _ _ _ _ _
          refine wpAny_pure ?_
          show wpAny _ _ (ret Value.none) _ _ _
          refine wpAny_pure ⟨rfl, h', tk', rfl, hS', fun b o hb e => ?_⟩
          have hb1 : b ≠ s.heap.objs.size := Nat.ne_of_lt hb
          have hb2 : b ≠ (s.heap.push { cls := .type "set", dict := none, data := .set #[] 0 (.fresh 0 0 led) }).objs.size := by
            rw [Heap.size_push]; exact Nat.ne_of_lt (Nat.lt_succ_of_lt hb)
          exact hm.heap b o (by simp only [List.mem_cons, List.mem_singleton, List.not_mem_nil, or_false, not_or]; exact ⟨hb1, hb2⟩) (Heap.get?_push_of_some _ (Heap.get?_push_of_some _ e))
      · cases r₂ with
        | error e => exact hr₂
        | ok fl₂ =>
          cases fl₂ with
          | ret r =>
            obtain ⟨rfl, h', tk, rfl, hS', hk'⟩ := hr₂
            repeat (any_goals (first | assumption | wp_step))
            exact h _ _ hS' hk'
          | _ => exact hr₂.elim
    | _ => exact hr.elim
end
end PySem
namespace VL
open PySem PySem.Spec L2
open PyProof.Rows hiding St
def metS (ns : List Str) : Nat := (firstS (fun i => ns.getD i Str.empty) ns.length).length
theorem metS_le (ns : List Str) : metS ns ≤ ns.length := firstS_le ..
theorem metS_nd {ns : List Str} (nd : ns.Nodup) : metS ns = ns.length := by
  have key : ∀ i, i ≤ ns.length → (firstS (fun i => ns.getD i Str.empty) i).length = i := fun i => by
    induction i with
    | zero => intro _; rfl
    | succ i ih =>
      intro hi
      rw [firstS_succ, stepS_length, ih (by omega)]
      have : (firstS (fun i => ns.getD i Str.empty) i).any (· == ns.getD i Str.empty) = false := by
        rw [firstS_any, List.any_eq_false]
        intro x mx e
        obtain ⟨k, mk, rfl⟩ := List.mem_map.mp mx
        have hk := List.mem_range.mp mk
        have e := eq_of_beq e
        simp only [List.getD_eq_getElem?_getD, List.getElem?_eq_getElem (show k < ns.length by omega), List.getElem?_eq_getElem (show i < ns.length by omega), Option.getD_some] at e
        have := (List.getElem_inj nd).mp e
        omega
      rw [this, if_neg Bool.false_ne_true]
  exact key _ (Nat.le_refl _)
def tLenSetS (K : PySem.W.Frag) (ta : TE) : TE := fun σ H Q => ta σ H fun x H1 => ∃ l, ∃ ns : List Str, x = .ref l ∧ SqL K H1 l (ns.map V.str) ∧ ns.length ≤ 1000 ∧ Q (.int (metS ns)) H1
def D.strs : List D → Option (List Str)
  | [] => some []
  | .str x :: r => (match D.strs r with | some l => some (x :: l) | none => none)
  | _ :: _ => none
theorem strs_map : ∀ l : List Str, D.strs (l.map D.str) = some l
  | [] => rfl
  | x :: r => by rw [List.map_cons, D.strs, strs_map r]
theorem OwnL.strs {K : PySem.W.Frag} {H : Hp} {N : Addr → Prop} {n : Nat} : ∀ {ds : List D} {vs : List V} {fp : List Addr} {ys : List Str}, OwnL K H N n ds vs fp → D.strs ds = some ys → vs = ys.map V.str
  | [], _, _, _, o, e => by cases o; cases e; rfl
  | d :: ds, _, _, _, o, e => by
    cases d with
    | str x =>
      cases o with
      | cons h l =>
        cases h
        rw [D.strs] at e
        cases e2 : D.strs ds with
        | none => rw [e2] at e; cases e
        | some ys' =>
          rw [e2] at e
          cases e
          rw [List.map_cons, OwnL.strs l e2]
    | _ => cases e
section
variable {X : Cx}
theorem pe_lenSetS {a : Expr} {ta : TE} {p p2 q pos : Pos} (hc : X.calm = true) (hg : Gl X "len") (hm : X.mg "len" = none) (hg2 : Gl X "set") (hm2 : X.mg "set" = none) (ha : PE X a ta)
    (na : starEach [a] X.env = (false, eval a X.env) :: starEach [] X.env := by rfl) : PE X (.Call (.Name "len" p) [.Call (.Name "set" p2) [a] [] q] [] pos) (tLenSetS X.K ta) := by
  refine ⟨fun pins s σ H Q I h => ?_⟩
  refine Call_ (ld_blt I hg hm boot_len ?_)
  refine PyProof.Rows.callWith_builtin1 (PyProof.Rows.args_cons ?_ rfl) rfl rfl
  refine Call_ (ld_blt I hg2 hm2 boot_set ?_)
  refine PyProof.Rows.callWith_type1 (PyProof.Rows.args_cons (thn (ha.run pins s σ H _ I h) fun v s1 ⟨x, H1, I1, r1, q1⟩ => PyProof.Rows.args_nil ?_) na) na rfl
  obtain ⟨l, ns, rfl, hq, h1, q1⟩ := q1
  cases r1
  obtain ⟨its, r, pl, hz⟩ := I1.list hq
  have hi : StrsAre its ns := r.strs
  have hl : its.toArray.size = ns.length := by rw [List.size_toArray]; exact StrsAre.length hi
  refine PySem.call_set_texts (items := its.toArray) (ns := ns) (I1.ok.hd hc) pl.isList (by simpa using hi) (by rw [hl]; unfold scanBound; omega) fun h' tk hS hk => ?_
  refine PyProof.Rows.args_nil ?_
  rw [hl] at hS
  obtain ⟨o, es, ep, t, ho, hex, hd, _, _, _, hf, hn⟩ := hS
  have I2 : Inv X pins σ H1 { s1 with heap := h', toks := tk } := I1.kept fun b o e => hk b o (Heap.lt_size e) e
  have ml := metS_le ns
  have dn : es.size = metS ns := hn
  refine call_len_set ho hex hd hf (by omega) ⟨.int (metS ns), H1, I2.tok _, ⟨_, by rw [dn]⟩, q1⟩
def eLenSetS (f : Store → Option D) : Store → Option D := fun ρ => match f ρ with
  | some (.lst ds) => (match D.strs ds with | some ns => if ns.length ≤ 1000 then some (.int (metS ns)) else none | none => none)
  | _ => none
variable {Γ : List Nat} {K : PySem.W.Frag} {a : Expr} {m : Nat} {B : List Nat} {f : Store → Option D} {te : TE}
theorem xev_lenSetS {p p2 q pos : Pos} (hc : X.calm = true) (hg : Gl X "len") (hm : X.mg "len" = none) (hg2 : Gl X "set") (hm2 : X.mg "set" = none) (ha : Ev X Γ a m B f te) (hK : X.K = K := by rfl)
    (na : starEach [a] X.env = (false, eval a X.env) :: starEach [] X.env := by rfl) : Ev X Γ (.Call (.Name "len" p) [.Call (.Name "set" p2) [a] [] q] [] pos) 0 B (eLenSetS f) (tLenSetS K te) := by
  subst hK
  refine ⟨pe_lenSetS hc hg hm hg2 hm2 ha.pe na, ⟨fun {E ρ σ H Φ} R d e Q q => ?_⟩⟩
  unfold eLenSetS at e
  split at e
  · rename_i ds e1
    split at e
    · rename_i ns e2
      split at e
      · rename_i hl
        cases e
        refine ha.sd.sh R e1 _ fun v H1 x o => ?_
        obtain ⟨l, vs, rfl, s, lo⟩ := o.lst_inv0
        rw [lo.strs e2] at s
        exact ⟨l, ns, rfl, s, hl, q _ _ [] ⟨x, fun a m => (nomatch m), .nil, .int⟩⟩
      · cases e
    · cases e
  · cases e
theorem lenSetS_ok {ρ : Store} {ns : List Str} (h : f ρ = some (.lst (ns.map .str))) (hl : ns.length ≤ 1000) : eLenSetS f ρ = some (.int (metS ns)) := by
  unfold eLenSetS
  simp only [h, strs_map]
  exact if_pos hl
end
end VL

/-! VL37: texts: slices, signs, int, str, in, split, join, count; names of the module. -/
namespace VL
open PySem PySem.Spec L2
open PyProof.Rows hiding St
section
variable {K : PySem.W.Frag}
def gSlS : D → Option Int → Option Int → Option D
  | .str z, lo, hi => if z.length ≤ sizeLine then some (.str (cutS z lo hi)) else none
  | _, _, _ => none
theorem os_str : OpS K rSlS 0 gSlS := by
  refine ⟨fun {H N d1 d v1 lo hi} o1 e Q q => ?_⟩
  unfold gSlS at e
  split at e
  · split at e
    · rename_i hz
      cases e
      cases o1
      exact ⟨_, rfl, hz, fin0 q fun _ => .str⟩
    · cases e
  · cases e
def gIntS : List D → Option D
  | [.str a] => if a.length ≤ 640 then (match PySem.intText? a with | some n => some (.int n) | none => none) else none
  | _ => none
theorem oa_intS : OpA K (fun xs H Q => ∃ a n, xs = [.str a] ∧ PySem.intText? a = some n ∧ a.length ≤ 640 ∧ Q (.int n) H) 0 gIntS := by
  refine ⟨fun {H N ds d vs} o e Q q => ?_⟩
  unfold gIntS at e
  split at e
  · split at e
    · rename_i hz
      split at e
      · rename_i n hn
        cases e
        obtain ⟨v, rfl, oo⟩ := o.one
        obtain ⟨rfl, _⟩ := oo.str_inv
        exact ⟨_, _, rfl, hn, hz, fin0 q fun _ => .int⟩
      · cases e
    · cases e
  · cases e
def gStr : List D → Option D
  | [.int i] => if i.natAbs.log2 < 1920 then some (.str (toString i : String)) else none
  | _ => none
theorem oa_str : OpA K (fun xs H Q => ∃ i : Int, xs = [.int i] ∧ i.natAbs.log2 < 1920 ∧ Q (.str (toString i : String)) H) 0 gStr := by
  refine ⟨fun {H N ds d vs} o e Q q => ?_⟩
  unfold gStr at e
  split at e
  · split at e
    · rename_i hz
      cases e
      exact ⟨_, o.int1, hz, fin0 q fun _ => .str⟩
    · cases e
  · cases e
def gInS (neg : Bool) : D → D → Option D
  | .str x, .str z => (match x.cps.toList with | [c] => some (.bl (if neg then !decide (c ∈ z.cps.toList) else decide (c ∈ z.cps.toList))) | _ => none)
  | _, _ => none
theorem one_sign {x : Str} {c : Nat} (h : x.cps.toList = [c]) : x = ⟨#[c]⟩ := by
  cases x with
  | mk a => exact congrArg Str.mk (Array.toList_inj.mp h)
theorem o2_inS : Op2 K (fun x y H Q => ∃ (c : Nat) (z : Str), x = .str ⟨#[c]⟩ ∧ y = .str z ∧ Q (.bl (decide (c ∈ z.cps.toList))) H) 0 (gInS false) := by
  refine ⟨fun {H N d1 d2 d v1 v2} o1 o2 e Q q => ?_⟩
  unfold gInS at e
  split at e
  · split at e
    · rename_i c hc
      cases e
      cases o1; cases o2
      exact ⟨c, _, by rw [one_sign hc], rfl, fin0 q fun _ => .bl⟩
    · cases e
  · cases e
theorem o2_notInS : Op2 K (fun x y H Q => ∃ (c : Nat) (z : Str), x = .str ⟨#[c]⟩ ∧ y = .str z ∧ Q (.bl (!decide (c ∈ z.cps.toList))) H) 0 (gInS true) := by
  refine ⟨fun {H N d1 d2 d v1 v2} o1 o2 e Q q => ?_⟩
  unfold gInS at e
  split at e
  · split at e
    · rename_i c hc
      cases e
      cases o1; cases o2
      exact ⟨c, _, by rw [one_sign hc], rfl, fin0 q fun _ => .bl⟩
    · cases e
  · cases e
end
section
variable {X : Cx} {Γ : List Nat} {K : PySem.W.Frag} {tg e o : Expr} {m m1 m2 : Nat} {B B1 B2 : List Nat} {f f1 f2 : Store → Option D} {t t1 t2 : TE} {pos p : Pos}
/-! ### the signs of a text -/
def iSt (f : Store → Option D) : Store → Option (List D) := fun ρ => match f ρ with
  | some (.str x) => some (x.cps.toList.map fun c => .str ⟨#[c]⟩)
  | _ => none
theorem wk_str {x : Str} : Wk K (Its x) (.str x) (.str x) (x.cps.toList.map fun c => .str ⟨#[c]⟩) := by
  refine ⟨fun {H N} o i d e => ?_, fun {H N} o => ?_⟩
  · rw [List.getElem?_map] at e
    cases e2 : x.cps.toList[i]? with
    | none => rw [e2] at e; cases e
    | some c =>
      rw [e2] at e
      cases e
      have hi : i < x.cps.size := by have := lt_of_some e2; rw [Array.length_toList] at this; exact this
      refine ⟨hi, fun v H2 y => ?_⟩
      obtain ⟨rfl, c', hc', rfl⟩ := y
      rw [← Array.getElem?_toList, e2] at hc'
      cases hc'
      exact ⟨.rfl' _, .str⟩
  · show x.cps.size ≤ _
    rw [List.length_map, Array.length_toList]
    exact Nat.le_refl _
theorem iv_str (h : Ev X Γ e m [] f t) : Iv X Γ tg e (iSt f) (iStr t) := by
  refine ⟨pi_str h.pe, ⟨fun {E ρ σ H Φ} R ds e Q q => ?_⟩⟩
  unfold iSt at e
  split at e
  · rename_i x e1
    cases e
    refine h.sd.sh R e1 _ fun v H1 xx o => ?_
    obtain ⟨rfl, _⟩ := o.str_inv
    exact ⟨x, rfl, q _ _ _ _ xx .str wk_str⟩
  · cases e
/-! ### methods of a text -/
structure OpM1 (r : V → List V → Hp → VK → Prop) (K : PySem.W.Frag) (m : Nat) (g : D → D → Option D) : Prop where
  ty : ∀ {x y d : D}, g x y = some d → ∃ a, x = .str a
  run : ∀ {H : Hp} {N : Addr → Prop} {d1 d2 d : D} {v1 v2 : V}, Own K H N 0 d1 v1 [] → Own K H N 0 d2 v2 [] → g d1 d2 = some d → ∀ Q : VK,
    (∀ v H' Ψ, Ext H H' → (∀ a ∈ Ψ, H a = none) → Ψ.Nodup → Own K H' (fun a => N a ∨ (H a = none ∧ a ∉ Ψ)) m d v Ψ → Q v H') → r v1 [v2] H Q
theorem sd_m1 {r : V → List V → Hp → VK → Prop} {g : D → D → Option D} (ho : OpM1 r K m g) (h1 : SdE K Γ t1 m1 B1 f1) (h2 : SdE K Γ t2 m2 B2 f2) : SdE K Γ (tM1 r t1 t2) m (B1 ++ B2) (e2 g f1 f2) := by
  refine ⟨fun {E ρ σ H Φ} R d e Q q => ?_⟩
  obtain ⟨d1, d2, x1, x2, x3⟩ := e2_some e
  obtain ⟨a, rfl⟩ := ho.ty x3
  unfold tM1
  refine h1.sh R x1 _ fun v1 H1 xx1 o1 => ?_
  obtain ⟨rfl, _⟩ := o1.str_inv
  refine ⟨⟨a, rfl⟩, ?_⟩
  refine h2.share.run (R.ext xx1) _ x2 _ fun v2 H2 Ψ2 r2 => ?_
  have z2 := r2.own
  rw [z2.fp0 rfl] at z2
  have x : Ext H H2 := fun a o e => r2.ext a o (xx1 a o e)
  have o2 : Own K H2 (fun a => (∃ o, H2 a = some o) ∧ ∀ j, j ∉ B1 ++ B2 → a ∉ Φ j) 0 d2 v2 [] := z2.move (fun a o e _ => e) (fun a o e n => ⟨e, ⟨o, e⟩, fun j nj => n.2 j fun m => nj (List.mem_append_right _ m)⟩) fun a _ o e => e
  exact ho.run .str o2 x3 Q fun v H3 Ψ x' new nd o => q v H3 Ψ (res_of R x x' new nd o)
def gSplit : D → D → Option D
  | .str a, .str b => if b.length ≠ 0 ∧ a.length + 2 ≤ 16777216 then some (.lst ((Txt.split a b).map .str)) else none
  | _, _ => none
theorem own_strs {H : Hp} {N : Addr → Prop} {n : Nat} : ∀ ys : List Str, OwnL K H N n (ys.map D.str) (ys.map V.str) []
  | [] => .nil
  | y :: ys => .cons (fp := []) (fps := []) .str (own_strs ys)
def rSplit : V → List V → Hp → VK → Prop := fun x xs H Q => ∃ a b, x = .str a ∧ xs = [.str b] ∧ (b.length == 0) = false ∧ a.length + 2 ≤ sizeLine ∧ rNewStrs (Txt.split a b) H Q
theorem om_split : OpM1 rSplit K 1 gSplit := by
  refine ⟨fun {x y d} e => ?_, fun {H N d1 d2 d v1 v2} o1 o2 e Q q => ?_⟩
  · unfold gSplit at e
    split at e
    · exact ⟨_, rfl⟩
    · cases e
  · unfold gSplit at e
    split at e
    · split at e
      · rename_i hz
        cases e
        cases o1; cases o2
        refine ⟨_, _, rfl, rfl, by simpa using hz.1, by rw [sizeLine_eq]; exact hz.2, fun p hp => ?_⟩
        exact fin_lst q (own_strs _) p hp
      · cases e
    · cases e
theorem ev_split {apos : Pos} (h1 : Ev X Γ o m1 B1 f1 t1) (h2 : Ev X Γ e m2 B2 f2 t2) (hs : starEach [e] X.env = [(false, eval e X.env)] := by rfl) (hbase : attributeBase o "split" X.env (eval o X.env) = eval o X.env := by rfl) (hline : (apos.endLine == pos.line) = true := by rfl) :
    Ev X Γ (.Call (.Attribute o "split" apos) [e] [] pos) 1 (B1 ++ B2) (e2 gSplit f1 f2) (tM1 rSplit t1 t2) := ⟨pe_split h1.pe h2.pe hs hbase hline, sd_m1 om_split h1.sd h2.sd⟩
def gJoin : D → D → Option D
  | .str a, .lst ds => (match D.strs ds with | some ys => if (ys.map (·.length)).sum + ys.length * a.length ≤ 16777216 then some (.str (Txt.join a ys)) else none | none => none)
  | _, _ => none
def rJoin (K : PySem.W.Frag) : V → List V → Hp → VK → Prop := fun x xs H Q => ∃ a p, ∃ ys : List Str, x = .str a ∧ xs = [.ref p] ∧ (SqL K H p (ys.map V.str) ∨ SqT K H p (ys.map V.str)) ∧ (ys.map (·.length)).sum + ys.length * a.length ≤ 16777216 ∧ Q (.str (Txt.join a ys)) H
theorem om_join : OpM1 (rJoin K) K 0 gJoin := by
  refine ⟨fun {x y d} e => ?_, fun {H N d1 d2 d v1 v2} o1 o2 e Q q => ?_⟩
  · unfold gJoin at e
    split at e
    · exact ⟨_, rfl⟩
    · cases e
  · unfold gJoin at e
    split at e
    · split at e
      · rename_i ys ey
        split at e
        · rename_i hz
          cases e
          cases o1
          obtain ⟨l, vs, rfl, s, lo⟩ := o2.lst_inv0
          rw [lo.strs ey] at s
          exact ⟨_, l, ys, rfl, rfl, .inl s, hz, fin0 q fun _ => .str⟩
        · cases e
      · cases e
    · cases e
theorem xev_join {apos : Pos} (h1 : Ev X Γ o m1 B1 f1 t1) (h2 : Ev X Γ e m2 B2 f2 t2) (hK : X.K = K := by rfl) (hs : starEach [e] X.env = [(false, eval e X.env)] := by rfl) (hbase : attributeBase o "join" X.env (eval o X.env) = eval o X.env := by rfl) (hline : (apos.endLine == pos.line) = true := by rfl) :
    Ev X Γ (.Call (.Attribute o "join" apos) [e] [] pos) 0 (B1 ++ B2) (e2 gJoin f1 f2) (tM1 (rJoin K) t1 t2) := by
  subst hK
  exact ⟨pe_join h1.pe h2.pe hs hbase hline, sd_m1 om_join h1.sd h2.sd⟩
def gCount : D → D → Option D
  | .str a, .str b => some (.int (Txt.count a b))
  | _, _ => none
def rCount : V → List V → Hp → VK → Prop := fun x xs H Q => ∃ a b, x = .str a ∧ xs = [.str b] ∧ Q (.int (Txt.count a b)) H
theorem om_count : OpM1 rCount K 0 gCount := by
  refine ⟨fun {x y d} e => ?_, fun {H N d1 d2 d v1 v2} o1 o2 e Q q => ?_⟩
  · unfold gCount at e
    split at e
    · exact ⟨_, rfl⟩
    · cases e
  · unfold gCount at e
    split at e
    · cases e
      cases o1; cases o2
      exact ⟨_, _, rfl, rfl, fin0 q fun _ => .int⟩
    · cases e
theorem ev_count {apos : Pos} (h1 : Ev X Γ o m1 B1 f1 t1) (h2 : Ev X Γ e m2 B2 f2 t2) (hs : starEach [e] X.env = [(false, eval e X.env)] := by rfl) (hbase : attributeBase o "count" X.env (eval o X.env) = eval o X.env := by rfl) (hline : (apos.endLine == pos.line) = true := by rfl) :
    Ev X Γ (.Call (.Attribute o "count" apos) [e] [] pos) 0 (B1 ++ B2) (e2 gCount f1 f2) (tM1 rCount t1 t2) := ⟨pe_m1 PySem.F.slot_str_count PySem.F.type_str_count mt_count h1.pe h2.pe hs hbase hline, sd_m1 om_count h1.sd h2.sd⟩
/-! ### the module's names -/
theorem ev_gs {x : Str} {z : Str} {mg : Str → Option Value} (h : ∃ t, mg x = some (.str z t)) (hg : Gl X x := by rfl) (hm : X.mg = mg := by rfl) (hd : (x == ("__debug__" : Str)) = false := by decide) : Ev X Γ (.Name x pos) 0 [] (eC (.str z)) (tC (.str z)) := by
  subst hm
  exact ⟨C8.pe_gc hg (let ⟨t, e⟩ := h; ⟨_, e, t, rfl⟩) hd, sd_c rfl⟩
theorem ev_gi {x : Str} {z : Int} {mg : Str → Option Value} (h : ∃ t, mg x = some (.int z t)) (hg : Gl X x := by rfl) (hm : X.mg = mg := by rfl) (hd : (x == ("__debug__" : Str)) = false := by decide) : Ev X Γ (.Name x pos) 0 [] (eC (.int z)) (tC (.int z)) := by
  subst hm
  exact ⟨C8.pe_gc hg (let ⟨t, e⟩ := h; ⟨_, e, t, rfl⟩) hd, sd_c rfl⟩
end
end VL

/-! VL38: defs with one default: called without it, with it, by its name. -/
namespace VL
open PySem PySem.Spec L2
open PyProof.Rows hiding St
section
variable {P : Program} {w : World} {K : PySem.W.Frag} {mg : Str → Option Value} {base : Heap}
/-- the last parameter named y, its default dd -/
structure DflOk (K : PySem.W.Frag) (fd : FuncData) (ps : List Str) (y : Str) (dv : V) : Prop where
  b0 : ∃ ds, Vals [dv] ds ∧ Binds K fd ps ds
  b1 : Binds K fd ps []
  bk : KBn K fd ps (ps.length - 1) [y] (fun us ws => us ++ ws) (fun vs zs => vs ++ zs)
theorem DflOk.mk' {x qual : Str} {params : Arguments} {body : List Stmt} {scope : Scope} {f : Addr} {fd : FuncData} {ps : List Str} {y : Str} {dv : V} (F : FunD K x qual params body scope [dv] [] f fd) (hp : 0 < ps.length)
    (h0 : ∀ (T : Addr) (kV doc pm : Value) (an : Option Addr) (cdv ct : Value) (us its : List Value), us.length = ps.length - 1 → its.length = 1 →
      ∃ k, bindArgs (PySem.W.fnOf x qual params body scope (.ref T) kV doc pm an cdv ct) ⟨us, []⟩ = seqItems? (.ref T) >>= k ∧ k (some its.toArray) = pure (ps.zip (us ++ its)))
    (h1 : ∀ (T : Addr) (kV doc pm : Value) (an : Option Addr) (cdv ct : Value) (us its : List Value), us.length = ps.length → its.length = 1 →
      ∃ k, bindArgs (PySem.W.fnOf x qual params body scope (.ref T) kV doc pm an cdv ct) ⟨us, []⟩ = seqItems? (.ref T) >>= k ∧ k (some its.toArray) = pure (ps.zip us))
    (hk : ∀ (T : Addr) (kV doc pm : Value) (an : Option Addr) (cdv ct : Value) (us its ws : List Value), us.length = ps.length - 1 → its.length = 1 → ws.length = 1 →
      ∃ k, bindArgs (PySem.W.fnOf x qual params body scope (.ref T) kV doc pm an cdv ct) ⟨us, [y].zip ws⟩ = seqItems? (.ref T) >>= k ∧ k (some its.toArray) = pure (ps.zip (us ++ ws))) : DflOk K fd ps y dv := by
  obtain ⟨ds, hd, hb⟩ := F.binds1 (ps.length - 1) 0 (List.cons_ne_nil _ _) (by show ps.length - 1 + (1 - 0) = ps.length; omega) h0
  obtain ⟨ds1, hd1, hb1⟩ := F.binds1 ps.length 1 (List.cons_ne_nil _ _) (by show ps.length + (1 - 1) = ps.length; omega) fun T kV doc pm an cdv ct us its l1 l2 => by
    obtain ⟨k, e1, e2⟩ := h1 T kV doc pm an cdv ct us its l1 l2
    refine ⟨k, e1, ?_⟩
    rw [List.drop_of_length_le (by rw [l2]; exact Nat.le_refl _), List.append_nil]
    exact e2
  have ez : ds1 = [] := by cases hd1; rfl
  subst ez
  refine ⟨⟨ds, hd, hb⟩, hb1, ⟨fun s us ws X l1 l2 => ?_, fun r1 r2 => r1.append r2⟩⟩
  obtain ⟨oc, od, dV, kV, doc, pm, an, cdv, ct, osl, rfl, lk, hcd, hD, hK⟩ := F.ex
  rcases hD with ⟨e, _⟩ | ⟨_, T, o, its, m, rfl, lT, oT, rT⟩
  · cases e
  · obtain ⟨k, e1, e2⟩ := hk T kV doc pm an cdv ct us its ws l1 rT.length.symm l2
    refine BindsTo.of_looks fun M => ?_
    rw [e1]
    exact looks_items X lT oT (.of_pure e2)
/-- a def called by a keyword for its last parameter -/
structure CalK (P : Program) (w : World) (K : PySem.W.Frag) (mg : Str → Option Value) (base : Heap) (k : Nat) (x : Str) (n r : Nat) (F : List D → Option D) (y : Str) : Prop where
  ex : ∃ (f : Addr) (fd : FuncData) (ps : List Str), FnOk P w K mg base CX0 k f fd ps (sp0 K (n + 1) r F) ∧ mg x = some (.ref f) ∧ PySem.W.keepIn K (.ref f) = true ∧ KBn K fd ps n [y] (fun us ws => us ++ ws) (fun vs zs => vs ++ zs)
/-- all three ways -/
structure CalD (P : Program) (w : World) (K : PySem.W.Frag) (mg : Str → Option Value) (base : Heap) (k : Nat) (x : Str) (n r : Nat) (F : List D → Option D) (y : Str) (dd : D) (dv : V) : Prop where
  c0 : Cal P w K mg base k x (n + 1) r F [dd] [dv]
  c1 : Cal P w K mg base k x (n + 1) r F [] []
  ck : CalK P w K mg base k x n r F y
theorem calD_mk {x qual : Str} {params : Arguments} {body : List Stmt} {scope : Scope} {f : Addr} {fd : FuncData} {N : List Str} {ps : List Str} {k r n : Nat} {F : Store → Option O} {y : Str} {dd : D} {dv : V} (Fn : FunD K x qual params body scope [dv] [] f fd) (gf : mg x = some (.ref f)) (S : FnScope N ps scope) (hn : ps.length = n + 1)
    (hd : Own K (fun _ => none) (fun _ => True) 0 dd dv []) (hb : DflOk K fd ps y dv)
    (hbd : ∀ (cdv : Value) (A : Around) (outer : List Env) (s : Shared) (H : Hp) (E : XK), Room k (A.deeper (envOfC qual scope s.heap.objs.size f cdv)) →
      ∃ t Γb Γ', Lv (cxOf CX0 P w K mg base N qual scope f cdv A outer s H E).nox (fun _ _ _ _ => False) (fun _ => 0) r (List.replicate N.length 0) Γb body Γ' F t) :
    CalD P w K mg base (k + 1) x n r (fn0 N.length F) y dd dv := by
  obtain ⟨ds, h1, h2⟩ := hb.b0
  have fo := fn_ok Fn S hbd
  have hk := hb.bk
  rw [hn] at fo hk
  exact ⟨⟨f, fd, ps, ds, fo, gf, Fn.kp, h2, h1, .cons (fp := []) (fps := []) hd .nil⟩, ⟨f, fd, ps, [], fo, gf, Fn.kp, hb.b1, .nil, .nil⟩, ⟨f, fd, ps, fo, gf, Fn.kp, hk⟩⟩
end
section
variable {X : Cx} {Γ : List Nat} {K : PySem.W.Frag} {e ek : Expr} {B B2 : List Nat} {f1 f2 : Store → Option D} {te tk : TE} {pos p kpos : Pos}
theorem xev_calk {k j r : Nat} {F : List D → Option D} {x y : Str} {P : Program} {w : World} {mg : Str → Option Value} {base : Heap} (c : CalK P w K mg base k x 1 r F y) (hr : Room j X.A) (hkj : k ≤ j) (hg : Gl X x) (ha : Ev X Γ e 0 B f1 te) (hk : Ev X Γ ek 0 B2 f2 tk)
    (hP : X.prog = P := by rfl) (hw : X.w = w := by rfl) (hK : X.K = K := by rfl) (hm : X.mg = mg := by rfl) (hb : X.base = base := by rfl)
    (hall : (backToKw pos (keywordEach [⟨some y, ek, kpos⟩] X.env)).all (·.1.isSome) = true := by rfl) (hks : (backToKw pos (keywordEach [⟨some y, ek, kpos⟩] X.env)).filterMap (·.1) = [y] := by rfl)
    (hdb : (x == ("__debug__" : Str)) = false := by decide) (he : starEach [e] X.env = (false, eval e X.env) :: starEach [] X.env := by rfl)
    (hpl : ((backTo pos (starEach [e] X.env)).any (·.1) || (backToKw pos (keywordEach [⟨some y, ek, kpos⟩] X.env)).any (·.1.isNone)) = false := by rfl) :
    Ev X Γ (.Call (.Name x p) [e] [⟨some y, ek, kpos⟩] pos) r [] (eCall (callF 2 [] F) (aCons f1 (aCons f2 aNil))) (tCallN 1 [y].length (sp0 K 2 r F) (fun vs zs => vs ++ zs) E0 (tCons te tNil) (tCons tk tNil)) := by
  subst hP hw hK hm hb
  obtain ⟨f, fd, ps, G, hmf, hkf, hbf⟩ := c.ex
  refine ⟨pe_callN G (hr.mono hkj) hg hmf hkf hbf C8.pass0 (pa_cons ha.pe pa_nil he) (pk_cons hk.pe pk_nil) hall hks hdb he hpl, ⟨fun {E ρ σ H Φ} R d eo Q q => ?_⟩⟩
  unfold eCall at eo
  split at eo
  · rename_i ds e1
    unfold callF at eo
    rw [List.append_nil] at eo
    split at eo
    · rename_i hn
      unfold aCons at e1
      split at e1
      · rename_i d1 x1
        split at e1
        · rename_i ds2 x2
          cases e1
          split at x2
          · rename_i d2 x3
            cases x2
            refine ha.sd.sh R x1 _ fun v1 H1 xx1 o1 => ?_
            refine hk.sd.sh (R.ext xx1) x3 _ fun v2 H2 xx2 o2 => ?_
            have x : Ext H H2 := fun a o e => xx2 a o (xx1 a o e)
            refine ⟨rfl, rfl, [d1, d2], d, rfl, .cons (fp := []) (fps := []) (o1.move (fun a o e _ => xx2 a o e) (fun a o e z => ⟨xx2 a o e, trivial⟩) fun a m => (nomatch m)) (.cons (fp := []) (fps := []) (o2.move (fun a o e _ => e) (fun a o e z => ⟨e, trivial⟩) fun a m => (nomatch m)) .nil), eo, fun v H' Ψ x2 new nd o => q v H' Ψ (res_of R x x2 new nd (o _))⟩
          · cases x2
        · cases e1
      · cases e1
    · cases eo
  · cases eo
end
end VL

/-! VL39: tuple(d.values()), list(d), len(d), d.get(k, x), k in d, d[k] = e, for dicts by texts. -/
namespace VLV
open PySem PySem.Spec PyProof.Rows RT
section
variable {prog : Program} {w : World} {A : Around} {E : Value → Shared → Prop} {s : Shared} {T : String} {r d : Addr} {n : Nat} {P : Nat → Value → Prop} {OK : Heap → Prop}
theorem collect_src {Q : List Value → Shared → Prop} (K : PySem.W.KdlSrc prog w T r d n P OK) (hh : A.handled = none) (hok : OK s.heap) (hn : n ≤ sizeLine)
    (hQ : ∀ (h' : Heap) (tk : Nat) (acc : Array Value), (∀ b o, s.heap.get? b = some o → h'.get? b = some o) → ItemsOf P acc n → Q acc.toList { s with heap := h', toks := tk }) :
    wpAny (model prog w) A (collect (.ref r)) Q E s := by
  have hlt := K.there _ hok
  unfold collect
  refine wpAny_bind (wpAny_runValue (codeAny_builtin F.entry_proto_collect ?_))
  rw [Around.under_plainId F.plain_proto_collect _]
  show wpAny _ A.in1 (newList [] >>= fun l' => again (.builtin "list.__iadd__" ⟨[l', .ref r], []⟩)) _ _ s
  refine wpAny_bind (wpAny_newObj_type ?_)
  refine wpAny_pure ⟨plainId_quiet F.plain_list_iadd _, codeAny_builtin F.entry_list_iadd ?_⟩
  rw [Around.under_plainId F.plain_list_iadd _]
  have hS₁ : (s.heap.push { cls := .type "list", data := .seq ([] : List Value).toArray }).get? s.heap.objs.size = some { cls := .type "list", data := .seq ([] : List Value).toArray } := Heap.get?_push_size _ rfl
  show wpAny _ A.in1 (Builtin.List.listExtendWith (.ref s.heap.objs.size) (.ref r) (.ref s.heap.objs.size)) _ _ _
  refine PySem.W.kdl_extend (A := A) (R := fun r s' => match r with
      | .ok (.ret v) => wpAny (model prog w) A (match v with
        | Value.ref a => do
          let __do_lift ← load a
          match __do_lift.data with
            | Data.seq xs epoch => pure xs.toList
            | x => unsupported "internal:collect"
        | x => unsupported "internal:collect") Q E s'
      | .ok a => False
      | .error e => E e s') (s := { s with heap := s.heap.push { cls := .type "list", data := .seq ([] : List Value).toArray } }) K hh (K.keep _ _ hok fun b _ o e => Heap.get?_push_of_some _ e) s.heap.objs.size (Nat.ne_of_gt hlt.1) (Nat.ne_of_gt hlt.2) _ _ hS₁ (fun h' tk acc c' hk hS' hacc => ?_) hn
  show wpAny _ A (load s.heap.objs.size >>= _) _ _ _
  refine wpAny_bind (wpAny_load hS' ?_)
  refine wpAny_pure ?_
  exact hQ h' tk acc (fun b o e => hk b o (Nat.ne_of_lt (Heap.lt_size e)) (Heap.get?_push_of_some _ e)) hacc
theorem code_tuple_src {Q₁ : Value → Shared → Prop} (K : PySem.W.KdlSrc prog w "dict_values" r d n P OK) (hh : A.handled = none) (hok : OK s.heap) (hn : n ≤ sizeLine)
    (h : ∀ (h' : Heap) (tk : Nat) (acc : Array Value), (∀ b o, s.heap.get? b = some o → h'.get? b = some o) → ItemsOf P acc n →
      Q₁ (.ref h'.objs.size) { s with heap := h'.push { cls := .type "tuple", data := .seq acc }, toks := tk }) :
    codeAny (model prog w) A (.call (.builtin "tuple.__new__") ⟨[.type "tuple", .ref r], []⟩) (wants Q₁ E) s := by
  refine codeAny_of_tree ?_
  show wpAny _ A.in1 (do checkBuiltinCall "tuple.__new__" ⟨[.type "tuple", .ref r], []⟩; again (.builtin "tuple.__new__" ⟨[.type "tuple", .ref r], []⟩)) _ _ s
  refine wpAny_bind (wpAny_of_eq (F.newCall_tuple_1 _) (wpAny_pure ⟨plainId_quiet F.plain_tuple_new _, codeAny_builtin F.entry_tuple_new ?_⟩))
  rw [Around.under_plainId F.plain_tuple_new _]
  have hsub := sub_tuple_self
  have hinit := init_tuple_lookup
  have hmh := madeHere_tuple
  have hTI : s.TypeIs (.ref r) "dict_values" := K.type _ hok
  have hh1 : A.in1.handled = none := hh
  wp_walk using wpAny_typeOf hTI, collect_src (A := A.in1) K hh1 hok hn
  intro h' tk acc hk hacc
  show wpAny _ _ (Builtin.Tuple.tupleExact acc.toList.toArray >>= fun v => ret v) _ _ _
  unfold Builtin.Tuple.tupleExact
  refine wpAny_bind (wpAny_newObj_type ?_ (by show acc.toList.toArray.size ≤ sizeLine; simp only [Array.toArray_toList]; rw [hacc.1]; exact hn))
  refine wpAny_pure ?_
  have e : acc.toList.toArray = acc := by simp
  rw [e]
  exact h h' tk acc hk hacc
theorem call_tuple_src {Q : Value → Shared → Prop} (K : PySem.W.KdlSrc prog w "dict_values" r d n P OK) (hh : A.handled = none) (hok : OK s.heap) (hn : n ≤ sizeLine)
    (hQ : ∀ (h' : Heap) (tk : Nat) (acc : Array Value), (∀ b o, s.heap.get? b = some o → h'.get? b = some o) → ItemsOf P acc n →
      Q (.ref h'.objs.size) { s with heap := h'.push { cls := .type "tuple", data := .seq acc }, toks := tk }) :
    wpAny (model prog w) A (call (.type "tuple") [.ref r]) Q E s := by
  refine callType_codes (Q₁ := fun obj s₁ => s₁.TypeIs obj "tuple" ∧ Q obj s₁) F.called_tuple (F.typeCall_tuple_1 _) F.entry_object_init
    (code_tuple_src (A := A.in1) K hh hok hn fun h' tk acc hk hacc => ⟨⟨_, Heap.get?_push_size _ rfl, rfl⟩, hQ h' tk acc hk hacc⟩) fun obj s₁ h₁ => ?_
  exact ⟨h₁.1, F.args_object_init_2 obj _, object_init_meets F.called_tuple.init.lookup F.called_tuple.made (by decide) prog w A.in1 _ s₁ ⟨h₁.1, rfl, h₁.2⟩⟩
end
end VLV

/-! VL40: dicts by texts; enumerate(list); x.insert; a, b, c = a list of three; return [x, y, z], all owned. -/
namespace VL
open PySem PySem.Spec L2
open PyProof.Rows hiding St
section
variable {X : Cx} {K : PySem.W.Frag} {Γ : List Nat} {W : WX} {I : Nat → Nat} {r k m m1 m2 m3 : Nat} {B B1 B2 B3 : List Nat} {Γb Γ' : List Nat} {e a b c ei o : Expr} {f f1 f2 f3 fi : Store → Option D} {te ti ty td t t1 t2 t3 : TE} {pos p : Pos}
/-! ### tuple(d.values()) -/
theorem vals_kv {kvs : List (Key × V)} {vs : List (Key × Value)} (r : KV kvs vs) : Vals (kvs.map (·.2)) (vs.map (·.2)) := by
  unfold KV at r
  induction r with
  | nil => exact .nil
  | cons h t ih => exact .cons h.2 ih
def tTupVals (td : TE) : TE := fun σ H Q => td σ H fun x H1 => ∃ (a : Addr) (kvs : List (Key × V)), x = .ref a ∧ H1 a = some (.dK kvs) ∧ ∀ q, H1 q = none → Q (.ref q) (upd H1 q (.tup (kvs.map (·.2))))
theorem pe_tupVals {apos mpos : Pos} (hc : X.calm = true) (hg : Gl X "tuple") (hm : X.mg "tuple" = none) (hd : PE X o td) (hbase : attributeBase o "values" X.env (eval o X.env) = eval o X.env := by rfl) (hline : (apos.endLine == mpos.line) = true := by rfl)
    (hs : starEach [Expr.Call (.Attribute o "values" apos) [] [] mpos] X.env = (false, eval (Expr.Call (.Attribute o "values" apos) [] [] mpos) X.env) :: starEach [] X.env := by rfl) :
    PE X (.Call (.Name "tuple" p) [.Call (.Attribute o "values" apos) [] [] mpos] [] pos) (tTupVals td) := by
  refine ⟨fun pins s σ H Q I h => ?_⟩
  refine Call_ (ld_blt I hg hm (show bootBuiltins "tuple" = some (.type "tuple") by decide +kernel) (PyProof.Rows.callWith_type1 (PyProof.Rows.args_cons (wpAny_Call_method0_late hbase hline (thn (hd.run pins s σ H _ I h) fun v s1 ⟨x, H1, I1, r1, a, kvs, ex, ha, q⟩ => ?_)) hs) hs rfl))
  subst ex
  obtain rfl : v = Value.ref a := r1
  obtain ⟨hz, hsys, vs, rel, dof⟩ := dk_of I1.hok ha
  obtain ⟨ep, dat⟩ := dof.dictAt
  have dat' := dat
  obtain ⟨ob, es, ho, ex, hdat, hko, hpr, hnd⟩ := dat'
  refine ⟨"dict", "dict.values", F.plainAttrs_dict, F.slot_dict_values, F.type_dict_values, ⟨ob, ho, ex.1⟩, fun b e => ?_, Calls.callWith_builtin rfl (PySem.evalArgs_none ?_)⟩
  · cases e
    exact ⟨ob, ho, ex.2.1⟩
  refine call_meetsIn F.slot_dict_values ⟨ob, ho, ex.1⟩ F.entry_dict_values (F.args_dict_values_1 _) (meets_dict_values (mixKind X.prog X.w) a hsys) ⟨⟨vs, dof⟩, ?_⟩
  have k1 : ∀ b u, s1.heap.get? b = some u → (s1.heap.push { cls := .type "dict_values", data := .fields #[.ref a] }).get? b = some u := fun b u e => Heap.get?_push_of_some _ e
  refine PyProof.Rows.args_nil ?_
  have dat1 : (s1.heap.push { cls := .type "dict_values", data := .fields #[.ref a] }).DictAt (mixKind X.prog X.w) a vs ep := dat.keep k1
  have hl : kvs.length = vs.length := KV.length rel
  refine VLV.call_tuple_src (s := { s1 with heap := s1.heap.push { cls := .type "dict_values", data := .fields #[.ref a] } }) (PySem.W.kdl_values (prog := X.prog) (w := X.w) (knd := mixKind X.prog X.w) (r := s1.heap.objs.size) (d := a) (kvs := vs) (ep := ep)) (I.ok.hd hc) ⟨⟨_, Heap.get?_push_size _ rfl, rfl, rfl⟩, dat1⟩ (by rw [← hl]; exact hz) fun h' tk acc hk hi => ?_
  have ev : acc.toList = vs.map (·.2) := PySem.W.kdl_vals_eq acc.toList (by rw [Array.length_toList]; exact hi.1) fun j v e => hi.2 j v (by rw [← Array.getElem?_toList]; exact e)
  have I2 : Inv X pins σ H1 { s1 with heap := h', toks := tk } := I1.kept (t' := tk) fun b u e => hk b u (k1 b u e)
  have hp := I2.hok.fresh (Nat.le_refl _)
  have va := vals_kv rel
  rw [← ev] at va
  refine ⟨.ref h'.objs.size, upd H1 h'.objs.size (.tup (kvs.map (·.2))), I2.laid (fun b u q => Heap.get?_push_of_some _ q) (Nat.le_refl _)
    ⟨by rw [List.length_map]; exact hz, acc.toList, va, _, by rw [Array.toArray_toList]; exact Heap.get?_push_size _ rfl, rfl, _, rfl⟩, rfl, q _ hp⟩
def eTupVals (f : Store → Option D) : Store → Option D := fun ρ => match f ρ with
  | some (.dct _ ds) => some (.tup ds)
  | _ => none
theorem zip_snd {ks : List Key} {vs : List V} (h : ks.length = vs.length) : (ks.zip vs).map (·.2) = vs := List.map_snd_zip (by omega)
theorem zip_fst {ks : List Key} {vs : List V} (h : ks.length = vs.length) : (ks.zip vs).map (·.1) = ks := List.map_fst_zip (by omega)
theorem ev_tupVals {apos mpos : Pos} (hc : X.calm = true) (hg : Gl X "tuple") (hm : X.mg "tuple" = none) (hd : Ev X Γ o m B f td) (hbase : attributeBase o "values" X.env (eval o X.env) = eval o X.env := by rfl) (hline : (apos.endLine == mpos.line) = true := by rfl)
    (hs : starEach [Expr.Call (.Attribute o "values" apos) [] [] mpos] X.env = (false, eval (Expr.Call (.Attribute o "values" apos) [] [] mpos) X.env) :: starEach [] X.env := by rfl) :
    Ev X Γ (.Call (.Name "tuple" p) [.Call (.Attribute o "values" apos) [] [] mpos] [] pos) 0 B (eTupVals f) (tTupVals td) := by
  refine ⟨pe_tupVals hc hg hm hd.pe hbase hline hs, ⟨fun {E ρ σ H Φ} R d e Q q => ?_⟩⟩
  unfold eTupVals at e
  split at e
  · rename_i ks ds e1
    cases e
    refine hd.sd.sh R e1 _ fun v H1 x oo => ?_
    obtain ⟨a, vs, rfl, ha, hl, lo⟩ := oo.dct_inv0
    refine ⟨a, _, rfl, ha, fun q' hq => ?_⟩
    rw [zip_snd hl]
    exact fin_tup (fun v H' Ψ x2 new nd o => q v H' Ψ (res_of R x x2 new nd o)) lo q' hq
  · cases e
/-! ### list(d), len(d) -/
def kD : Key → D
  | .inl i => .int i
  | .inr x => .str x
def gListD : List D → Option D
  | [.dct ks _] => some (.lst (ks.map kD))
  | _ => none
theorem own_keys {H : Hp} {N : Addr → Prop} {n : Nat} : ∀ ks : List Key, OwnL K H N n (ks.map kD) (ks.map kV) []
  | [] => .nil
  | .inl i :: ks => .cons (fp := []) (fps := []) .int (own_keys ks)
  | .inr x :: ks => .cons (fp := []) (fps := []) .str (own_keys ks)
theorem oa_listD : OpA K (fun xs H Q => ∃ (a : Addr) (kvs : List (Key × V)), xs = [.ref a] ∧ Rd H a (.dK kvs) ∧ ∀ p, H p = none → Q (.ref p) (upd H p (.lst (kvs.map fun kv => kV kv.1)))) 1 gListD := by
  refine ⟨fun {H N ds d vs} o e Q q => ?_⟩
  unfold gListD at e
  split at e
  · rename_i ks ds
    cases e
    obtain ⟨v, rfl, oo⟩ := o.one
    obtain ⟨a, vs, rfl, ha, hl, lo⟩ := oo.dct_inv0
    refine ⟨a, _, rfl, .inl ha, fun p hp => ?_⟩
    have : (ks.zip vs).map (fun kv => kV kv.1) = ks.map kV := by
      rw [show (fun kv : Key × V => kV kv.1) = kV ∘ (·.1) from rfl, ← List.map_map, zip_fst hl]
    rw [this]
    exact fin_lst q (own_keys ks) p hp
  · cases e
def gLenD : List D → Option D
  | [.dct ks _] => some (.int ks.length)
  | _ => none
theorem oa_lenD : OpA K (fun xs H Q => ∃ a kvs, xs = [V.ref a] ∧ H a = some (.dK kvs) ∧ Q (.int kvs.length) H) 0 gLenD := by
  refine ⟨fun {H N ds d vs} o e Q q => ?_⟩
  unfold gLenD at e
  split at e
  · rename_i ks ds
    cases e
    obtain ⟨v, rfl, oo⟩ := o.one
    obtain ⟨a, vs, rfl, ha, hl, lo⟩ := oo.dct_inv0
    refine ⟨a, _, rfl, ha, ?_⟩
    have : (ks.zip vs).length = ks.length := by rw [List.length_zip, hl, Nat.min_self]
    rw [this]
    exact fin0 q fun _ => .int
  · cases e
/-! ### d.get(k, x) -/
def lookD : List Key → List D → Key → Option D
  | x :: ks, d :: ds, k => if x = k then some d else lookD ks ds k
  | _, _, _ => none
theorem zip_look (k : Key) {H : Hp} {N : Addr → Prop} : ∀ {ks : List Key} {ds : List D} {vs : List V}, OwnL K H N 0 ds vs [] → ks.length = vs.length → (∃ v d, valV (ks.zip vs) k = some v ∧ lookD ks ds k = some d ∧ Own K H N 0 d v []) ∨ (valV (ks.zip vs) k = none ∧ lookD ks ds k = none)
  | [], _, _, _, _ => .inr ⟨by simp [valV], by unfold lookD; rfl⟩
  | x :: ks, ds, [], _, h => by cases h
  | x :: ks, ds, v :: vs, o, h => by
    cases ds with
    | nil => cases o
    | cons d ds =>
      obtain ⟨v', vs', ev, h1, h2⟩ := o.cons_inv0
      cases ev
      rw [List.zip_cons_cons]
      by_cases e : x = k
      · exact .inl ⟨v, d, valV_pos e, by unfold lookD; exact if_pos e, h1⟩
      · rcases zip_look k (ks := ks) h2 (by rw [List.length_cons, List.length_cons] at h; omega) with ⟨v2, d2, a1, a2, a3⟩ | ⟨a1, a2⟩
        · exact .inl ⟨v2, d2, (valV_neg e).trans a1, by unfold lookD; exact (if_neg e).trans a2, a3⟩
        · exact .inr ⟨(valV_neg e).trans a1, by unfold lookD; exact (if_neg e).trans a2⟩
def keyD : D → Option Key
  | .int i => some (.inl i)
  | .str x => some (.inr x)
  | _ => none
theorem keyD_own {H : Hp} {N : Addr → Prop} {n : Nat} {d : D} {v : V} {fp : List Addr} {k : Key} (o : Own K H N n d v fp) (h : keyD d = some k) : v = kV k := by
  cases o <;> first | (cases h; rfl) | cases h
def eDGet (f1 f2 f3 : Store → Option D) : Store → Option D := fun ρ => match f1 ρ with
  | some (.dct ks ds) => (match f2 ρ with
    | some d2 => (match keyD d2 with
      | some k => (match f3 ρ with
        | some d3 => (match lookD ks ds k with | some d => some d | none => some d3)
        | none => none)
      | none => none)
    | none => none)
  | _ => none
theorem ev_dget {apos : Pos} (hu : X.A.units + 64 < cLine) (h1 : Ev X Γ a m1 B1 f1 t1) (h2 : Ev X Γ b m2 B2 f2 t2) (h3 : Ev X Γ c m3 B3 f3 t3) (hM : M2 X a "get" apos b c pos := by exact ⟨by rfl, by rfl, by rfl, by rfl⟩) :
    Ev X Γ (.Call (.Attribute a "get" apos) [b, c] [] pos) 0 (B1 ++ B3) (eDGet f1 f2 f3) (tDGet2 t1 t2 t3) := by
  refine ⟨pe_dget2 (hu1 hu) h1.pe h2.pe h3.pe hM, ⟨fun {E ρ σ H Φ} R d e Q q => ?_⟩⟩
  unfold eDGet at e
  split at e
  · rename_i ks ds e1
    split at e
    · rename_i d2 e2
      split at e
      · rename_i k ek
        split at e
        · rename_i d3 e3
          refine h1.sd.sh R e1 _ fun v1 H1 x1 o1 => ?_
          obtain ⟨a, vs, rfl, ha, hl, lo⟩ := o1.dct_inv0
          refine ⟨a, rfl, .inl ⟨_, .inl ha⟩, ?_⟩
          refine h2.sd.sh (R.ext x1) e2 _ fun v2 H2 x2 o2 => ?_
          have ek2 := keyD_own o2 ek
          subst ek2
          have x12 : Ext H H2 := fun a o e => x2 a o (x1 a o e)
          refine h3.sd.sh (R.ext x12) e3 _ fun v3 H3 x3 o3 => ?_
          have x13 : Ext H1 H3 := fun a o e => x3 a o (x2 a o e)
          have xx : Ext H H3 := fun a o e => x13 a o (x1 a o e)
          refine ⟨_, DGet.k (k := k) (x13 _ _ ha), ?_⟩
          have lo3 : OwnL X.K H3 (fun a => (∃ o, H3 a = some o) ∧ ∀ j, j ∉ B1 ++ B3 → a ∉ Φ j) 0 ds vs [] := lo.move (fun a o e _ => x13 a o e) (fun a o e z => ⟨x13 a o e, ⟨o, x13 a o e⟩, fun j nj => z.2 j fun m => nj (List.mem_append_left _ m)⟩) fun a m => (nomatch m)
          have fin : ∀ {dd : D} {vv : V}, Own X.K H3 (fun a => (∃ o, H3 a = some o) ∧ ∀ j, j ∉ B1 ++ B3 → a ∉ Φ j) 0 dd vv [] → Res X.K (B1 ++ B3) Φ 0 dd H vv H3 [] := fun oo => ⟨xx, fun a m => (nomatch m), .nil, oo.move (fun a o e _ => e) (fun a o e z => ⟨e, List.not_mem_nil, z.2⟩) fun a m => (nomatch m)⟩
          rcases zip_look k lo3 hl with ⟨v, d', z1, z2, z3⟩ | ⟨z1, z2⟩
          · rw [z1]
            rw [z2] at e
            cases e
            exact q _ _ _ (fin z3)
          · rw [z1]
            rw [z2] at e
            cases e
            exact q _ _ _ (fin (o3.move (fun a o e _ => e) (fun a o e z => ⟨e, z.1, fun j nj => z.2 j fun m => nj (List.mem_append_right _ m)⟩) fun a m => (nomatch m)))
        · cases e
      · cases e
    · cases e
  · cases e
/-! ### k in d, d[k] = e -/
def gDInK (neg : Bool) : D → D → Option D
  | d, .dct ks _ => (match keyD d with | some k => some (.bl (if neg then !hasK k ks else hasK k ks)) | none => none)
  | _, _ => none
theorem sd_dinK (h1 : SdE K Γ ty m1 B1 f1) (h2 : SdE K Γ td m2 B2 f2) : SdE K Γ (tDIn ty td) m [] (e2 (gDInK false) f1 f2) ∧ SdE K Γ (tDNotIn ty td) m [] (e2 (gDInK true) f1 f2) := by
  have key : ∀ neg, ∀ {E : Entry} {ρ : Store} {σ : St} {H : Hp} {Φ : Nat → List Addr}, StR K E Γ ρ σ H Φ → ∀ (d : D), e2 (gDInK neg) f1 f2 ρ = some d → ∀ Q : VK, (∀ v H' Ψ, Res K [] Φ m d H v H' Ψ → Q v H') →
      ty σ H fun y H1 => td σ H1 fun x H2 => ∃ a o, x = .ref a ∧ DGet H2 a y o ∧ Q (.bl (if neg then !o.isSome else o.isSome)) H2 := fun neg {E ρ σ H Φ} R d e Q q => by
    unfold e2 at e
    split at e
    · rename_i d1 e1
      split at e
      · rename_i d2 e3
        unfold gDInK at e
        split at e
        · rename_i ks ds
          split at e
          · rename_i k ek
            cases e
            refine h1.sh R e1 _ fun y H1 x1 o1 => ?_
            refine h2.sh (R.ext x1) e3 _ fun x H2 x2 o2 => ?_
            have ek2 := keyD_own o1 ek
            subst ek2
            obtain ⟨a, vs, rfl, ha, hl, _⟩ := o2.dct_inv0
            refine ⟨a, _, rfl, DGet.k (k := k) ha, ?_⟩
            rw [zip_has _ _ _ hl]
            exact q _ _ [] ⟨fun a o e => x2 a o (x1 a o e), fun a m => (nomatch m), .nil, .bl⟩
          · cases e
        · cases e
      · cases e
    · cases e
  exact ⟨⟨fun R d e Q q => key false R d e Q q⟩, ⟨fun R d e Q q => key true R d e Q q⟩⟩
theorem ev_dinK (hu : X.A.units + 64 < cLine) (h1 : Ev X Γ a m1 B1 f1 t1) (h2 : Ev X Γ b m2 B2 f2 t2) (hm : behindInMarks .In b = false := by rfl) : Ev X Γ (.Compare a [.In] [b] pos) m [] (e2 (gDInK false) f1 f2) (tDIn t1 t2) := ⟨pe_cmp (pc_din (hu1 hu) h1.pe h2.pe) hm, (sd_dinK h1.sd h2.sd).1⟩
theorem ev_dninK (hu : X.A.units + 64 < cLine) (h1 : Ev X Γ a m1 B1 f1 t1) (h2 : Ev X Γ b m2 B2 f2 t2) (hm : behindInMarks .NotIn b = false := by rfl) : Ev X Γ (.Compare a [.NotIn] [b] pos) m [] (e2 (gDInK true) f1 f2) (tDNotIn t1 t2) := ⟨pe_cmp (pc_dnotin (hu1 hu) h1.pe h2.pe) hm, (sd_dinK h1.sd h2.sd).2⟩
theorem tv_dinK (hu : X.A.units + 64 < cLine) (h1 : Ev X Γ a m1 B1 f1 t1) (h2 : Ev X Γ b m2 B2 f2 t2) (hm : behindInMarks .In b = false := by rfl) : Tv X Γ (.Compare a [.In] [b] pos) (tBo (e2 (gDInK false) f1 f2)) (tB (tDIn t1 t2)) := ⟨pt_cmp (pc_din (hu1 hu) h1.pe h2.pe) hm, sd_test (m := 0) (sd_dinK h1.sd h2.sd).1⟩
theorem tv_dninK (hu : X.A.units + 64 < cLine) (h1 : Ev X Γ a m1 B1 f1 t1) (h2 : Ev X Γ b m2 B2 f2 t2) (hm : behindInMarks .NotIn b = false := by rfl) : Tv X Γ (.Compare a [.NotIn] [b] pos) (tBo (e2 (gDInK true) f1 f2)) (tB (tDNotIn t1 t2)) := ⟨pt_cmp (pc_dnotin (hu1 hu) h1.pe h2.pe) hm, sd_test (m := 0) (sd_dinK h1.sd h2.sd).2⟩
def sSetDK (i : Nat) (f fi : Store → Option D) : Store → Option O := fun ρ => match f ρ with
  | some d => (match eVar i ρ with
    | some (.dct ks ds) => (match fi ρ with
      | some dk => (match keyD dk with
        | some k => if hasK k ks = false ∧ ks.length < 16777216 then some (.nx (ρ.set i (some (.dct (ks ++ [k]) (ds ++ [d]))))) else none
        | none => none)
      | none => none)
    | _ => none)
  | none => none
theorem sd_setDK {i : Nat} (hm : Γ.getD i 0 = 1) (h : SdE K Γ te m1 [] f) (hi : SdE K Γ ti m2 [] fi) : SdS K W I r Γ Γb Γ (sDPut (tVar i) ti te) (sSetDK i f fi) := by
  refine ⟨fun {E ρ σ H Φ} hI R o e D q => ?_⟩
  unfold sSetDK at e
  split at e
  · rename_i d e1
    split at e
    · rename_i ks ds e0
      split at e
      · rename_i dk e2
        split at e
        · rename_i kk ek
          split at e
          · rename_i c
            cases e
            refine h.sh R e1 _ fun v H1 x ov => ?_
            have R1 := R.ext x
            obtain ⟨w, h1, h2⟩ := R1.val i _ (eVar_some e0)
            obtain ⟨_, l, vs0, _, _, rfl, _, hl0, _⟩ := h2.dct_inv (by rw [hm]; decide)
            refine ⟨_, h1, ?_⟩
            refine hi.sh R1 e2 _ fun y H2 x2 oy => ?_
            have ek2 := keyD_own oy ek
            subst ek2
            have R2 := R1.ext x2
            obtain ⟨w, h1', h2⟩ := R2.val i _ (eVar_some e0)
            rw [h1] at h1'
            cases h1'
            obtain ⟨k', l', vs, fp, ek', el, efp, hl, hk, nd, lo⟩ := h2.dct_inv (by rw [hm]; decide)
            cases el
            rw [hm] at ek'
            cases ek'
            have fp0 := lo.fp0 rfl
            subst fp0
            refine ⟨l, _, rfl, DPut.k (k := kk) hl (by rw [List.length_zip, hk, Nat.min_self, ← hk]; exact c.2), ?_⟩
            have c1 := hasK_no.mp c.1
            rw [putK_new hk c1]
            have st : ∀ a o, H2 a = some o → a ≠ l → upd H2 l (.dK ((ks ++ [kk]).zip (vs ++ [v]))) a = some o := fun a o e n => by rw [upd_ne n]; exact e
            have lΦ : l ∈ Φ i := by rw [efp]; exact List.mem_cons_self
            have tup1 : ∀ a o, H2 a = some o → ¬ notTup o → a ≠ l := fun a o e t z => by subst z; rw [hl] at e; cases e; exact t trivial
            have ov2 : Own K H2 (fun a => ∀ j, a ∉ Φ j) 0 d v [] := ov.move (fun a o e _ => x2 a o e) (fun a o e z => ⟨x2 a o e, fun j => z.2 j List.not_mem_nil⟩) fun a m => (nomatch m)
            have nn : ∀ a, (∀ j, a ∉ Φ j) → a ≠ l := fun a z z' => z i (by rw [z']; exact lΦ)
            refine q _ _ _ (R2.mut (i := i) (v := .ref l) (Ψ := [l]) h1 (by rw [hm]; decide) (fun a o e n => st a o e fun z => n (by rw [z]; exact lΦ)) (fun a o e => by
              by_cases z : a = l
              · subst z; exact ⟨_, upd_same⟩
              · exact ⟨o, st a o e z⟩) ?_ (List.nodup_cons.mpr ⟨List.not_mem_nil, .nil⟩) (fun a m => by rw [List.mem_singleton.mp m]; exact .inl lΦ))
            rw [hm]
            exact .dct (fp := []) upd_same (by rw [List.length_append, List.length_append, hk]; rfl) (List.nodup_append.mpr ⟨nd, List.nodup_cons.mpr ⟨List.not_mem_nil, .nil⟩, fun a ma b mb e => c1 (by rw [List.mem_singleton.mp mb] at e; rw [← e]; exact ma)⟩)
              ((OwnL.snoc0 ov2 lo).move (fun a o e t => st a o e (tup1 a o e t)) (fun a o e z => ⟨st a o e (nn a z), fun m => nn a z (List.mem_singleton.mp m), fun j _ => z j⟩) fun a m => (nomatch m))
          · cases e
        · cases e
      · cases e
    · cases e
  · cases e
theorem s_setdK (i : Nat) {x : Str} {pn pt : Pos} (hu : X.A.units + 64 < cLine) (he : Ev X Γ e m1 [] f te) (hi : Ev X Γ ei m2 [] fi ti) (hN : X.N[i]? = some x := by rfl) (hv : Vis X.env.scope x := by first | exact Or.inl rfl | exact Or.inr (Or.inl rfl) | exact Or.inr (Or.inr rfl)) (hm : Γ.getD i 0 = 1 := by rfl)
    (hs : swapsWith e (some (.Subscript (.Name x pn) ei pt)) pos.line X.env = pure false := by rfl) (hd : (x == ("__debug__" : Str)) = false := by decide) (hcd : (x == ("__classdict__" : Str)) = false := by decide) :
    Sv X W I r Γ Γb (.Assign [.Subscript (.Name x pn) ei pt] e pos) Γ (sSetDK i f fi) (sDPut (tVar i) ti te) :=
  ⟨ps_dput (Nat.lt_of_le_of_lt (Nat.add_le_add_left (by decide) _) hu) (pe_var hN hv hd hcd) hi.pe he.pe hs, sd_setDK hm he.sd hi.sd⟩
theorem setDK_ok {ρ ρ' : Store} {i : Nat} {d dk : D} {ks : List Key} {ds : List D} {kk : Key} (h1 : f ρ = some d) (h2 : eVar i ρ = some (.dct ks ds)) (h3 : fi ρ = some dk) (hk : keyD dk = some kk) (h4 : hasK kk ks = false) (h5 : ks.length < 16777216) (h6 : ρ.set i (some (.dct (ks ++ [kk]) (ds ++ [d]))) = ρ') : sSetDK i f fi ρ = some (.nx ρ') := by
  unfold sSetDK
  simp only [h1, h2, h3, hk, ← h6]
  rw [if_pos ⟨h4, h5⟩]
/-! ### enumerate(list) -/
def iEnmL (f : Store → Option D) : Store → Option (List D) := fun ρ => match f ρ with
  | some (.lst ds) => some (enm 0 ds)
  | _ => none
theorem wk_enumL {ds : List D} {a : Addr} : Wk K (Ite K a) (.lst ds) (.ref a) (enm 0 ds) := by
  refine ⟨fun {H N} o i d e => ?_, fun {H N} o => ?_⟩
  · obtain ⟨_, vs, e0, s, lo⟩ := o.lst_inv0
    cases e0
    rw [enm_get] at e
    cases e1 : ds[i]? with
    | none => rw [e1] at e; cases e
    | some d1 =>
      rw [e1] at e
      cases e
      obtain ⟨v, hv, o⟩ := lo.get0 e1
      refine ⟨⟨vs, v, s, hv⟩, fun x H2 y => ?_⟩
      obtain ⟨T, x1, rfl, hT, rfl, y⟩ := y
      have z := y vs s
      rw [hv] at z
      cases z
      have x := ext_upd (o := .tup [.int (i : Nat), v]) hT
      refine ⟨x, .tup (fp := []) (.inl (.inl upd_same)) ?_⟩
      have o2 : Own K (upd H T (.tup [.int (i : Nat), v])) N 0 d1 v [] := o.move (fun a o e _ => x a o e) (fun a o e n => ⟨x a o e, n⟩) fun a m => (nomatch m)
      rw [Nat.zero_add]
      exact .cons (fp := []) (fps := []) .int (.cons (fp := []) (fps := []) o2 .nil)
  · obtain ⟨_, vs, e0, s, lo⟩ := o.lst_inv0
    cases e0
    exact ⟨vs, s, by rw [lo.len, enm_len]; exact Nat.le_refl _⟩
theorem xiv_enumL {elts : List Expr} {kk : Nat} {tpos : Pos} (hg : Gl X "enumerate") (hm : X.mg "enumerate" = none) (h : Ev X Γ e m [] f t) (hs : starEach [e] X.env = (false, eval e X.env) :: starEach [] X.env := by rfl) (hK : X.K = K := by rfl) (hs2 : starEach [e] X.env = [(false, eval e X.env)] := by rfl) :
    Iv X Γ (.Tuple elts kk tpos) (.Call (.Name "enumerate" p) [e] [] pos) (iEnmL f) (iEnum K (tCons t tNil)) := by
  subst hK
  refine ⟨pi_enum hg hm (pa_cons h.pe pa_nil hs) hs2, ⟨fun {E ρ σ H Φ} R ds e Q q => ?_⟩⟩
  unfold iEnmL at e
  split at e
  · rename_i ds' e1
    cases e
    refine h.sd.sh R e1 _ fun v H1 x o => ?_
    obtain ⟨l, vs, rfl, s, lo⟩ := o.lst_inv0
    exact ⟨l, vs, rfl, s, q _ _ _ _ x (own_live o) wk_enumL⟩
  · cases e
end
end VL

/-! VL41: x.insert; a, b, c = a list of three; return [x, y, z], all owned; defs that change their second argument. -/
namespace VL
open PySem PySem.Spec L2
open PyProof.Rows hiding St
section
variable {X : Cx} {K : PySem.W.Frag} {Γ : List Nat} {W : WX} {I : Nat → Nat} {r k m m1 m2 m3 : Nat} {B B1 B2 B3 : List Nat} {Γb Γ' : List Nat} {e a b c ei o : Expr} {f f1 f2 f3 fi : Store → Option D} {te ti ty td t t1 t2 t3 : TE} {pos p : Pos}
/-! ### x.insert(i, e) -/
def rInsert : V → List V → Hp → VK → Prop := fun x vs H Q => ∃ (l : Addr) (xs : List V) (i : Int) (y : V), x = .ref l ∧ vs = [.int i, y] ∧ H l = some (.lst xs) ∧ xs.length < sizeLine ∧ 0 ≤ i ∧ i < 2 ^ 63 ∧ Q .non (upd H l (.lst (xs.take i.toNat ++ [y] ++ xs.drop i.toNat)))
def sInsert (i : Nat) (fi f : Store → Option D) : Store → Option O := fun ρ => match eVar i ρ with
  | some (.lst ds) => (match fi ρ with
    | some (.int z) => (match f ρ with
      | some d => if 0 ≤ z ∧ z < 2 ^ 62 ∧ ds.length < 16777216 then some (.nx (ρ.set i (some (.lst (ds.take z.toNat ++ [d] ++ ds.drop z.toNat))))) else none
      | none => none)
    | _ => none)
  | _ => none
theorem OwnL.ins0 {H : Hp} {N : Addr → Prop} {d : D} {v : V} (o : Own K H N 0 d v []) {ds : List D} {vs : List V} (l : OwnL K H N 0 ds vs []) (n : Nat) : OwnL K H N 0 (ds.take n ++ [d] ++ ds.drop n) (vs.take n ++ [v] ++ vs.drop n) [] := by
  have a1 := l.take0 rfl n
  have a2 := l.drop0 rfl n
  have := OwnL.app (OwnL.app a1 (.cons (fp := []) (fps := []) o .nil)) a2
  simpa using this
theorem sd_insert {i : Nat} (hm : Γ.getD i 0 = 1) (hi : SdE K Γ ti m2 [] fi) (h : SdE K Γ te m1 [] f) : SdS K W I r Γ Γb Γ (tDrop (tBM K "list" rInsert (tVar i) (tCons ti (tCons te tNil)))) (sInsert i fi f) := by
  refine ⟨fun {E ρ σ H Φ} hI R o e D q => ?_⟩
  unfold sInsert at e
  split at e
  · rename_i ds e0
    split at e
    · rename_i z e2
      split at e
      · rename_i d e1
        split at e
        · rename_i hc
          cases e
          obtain ⟨w, h1, h2⟩ := R.val i _ (eVar_some e0)
          obtain ⟨_, l, vs0, _, _, rfl, _, hl0, _⟩ := h2.lst_inv (by rw [hm]; decide)
          refine ⟨_, h1, .inl ⟨rfl, _, .inl (.inl hl0)⟩, ?_⟩
          refine hi.sh R e2 _ fun y H1 x oy => ?_
          cases oy
          have R1 := R.ext x
          refine h.sh R1 e1 _ fun v H2 x2 ov => ?_
          have R2 := R1.ext x2
          obtain ⟨w, h1', h2⟩ := R2.val i _ (eVar_some e0)
          rw [h1] at h1'
          cases h1'
          obtain ⟨k', l', vs, fp, ek, el, efp, hl, lo⟩ := h2.lst_inv (by rw [hm]; decide)
          cases el
          rw [hm] at ek
          cases ek
          have fp0 := lo.fp0 rfl
          subst fp0
          refine ⟨l, vs, z, v, rfl, rfl, hl, by rw [lo.len, sizeLine_eq]; exact hc.2.2, hc.1, Int.lt_trans hc.2.1 (by decide +kernel), ?_⟩
          have st : ∀ a o, H2 a = some o → a ≠ l → upd H2 l (.lst (vs.take z.toNat ++ [v] ++ vs.drop z.toNat)) a = some o := fun a o e n => by rw [upd_ne n]; exact e
          have lΦ : l ∈ Φ i := by rw [efp]; exact List.mem_cons_self
          have tup1 : ∀ a o, H2 a = some o → ¬ notTup o → a ≠ l := fun a o e t z => by subst z; rw [hl] at e; cases e; exact t trivial
          have ov2 : Own K H2 (fun a => ∀ j, a ∉ Φ j) 0 d v [] := ov.move (fun a o e _ => e) (fun a o e z => ⟨e, fun j => z.2 j List.not_mem_nil⟩) fun a m => (nomatch m)
          have nn : ∀ a, (∀ j, a ∉ Φ j) → a ≠ l := fun a z z' => z i (by rw [z']; exact lΦ)
          refine q _ _ _ (R2.mut (i := i) (v := .ref l) (Ψ := [l]) h1 (by rw [hm]; decide) (fun a o e n => st a o e fun z => n (by rw [z]; exact lΦ)) (fun a o e => by
            by_cases z : a = l
            · subst z; exact ⟨_, upd_same⟩
            · exact ⟨o, st a o e z⟩) ?_ (List.nodup_cons.mpr ⟨List.not_mem_nil, .nil⟩) (fun a m => by rw [List.mem_singleton.mp m]; exact .inl lΦ))
          rw [hm]
          exact .lst (fp := []) upd_same ((OwnL.ins0 ov2 lo z.toNat).move (fun a o e t => st a o e (tup1 a o e t)) (fun a o e z => ⟨st a o e (nn a z), fun m => nn a z (List.mem_singleton.mp m), fun j _ => z j⟩) fun a m => (nomatch m))
        · cases e
      · cases e
    · cases e
  · cases e
theorem s_insert (i : Nat) {x : Str} {pn pa pc ps : Pos} (hi : Ev X Γ ei m2 [] fi ti) (he : Ev X Γ e m1 [] f te) (hN : X.N[i]? = some x := by rfl) (hv : Vis X.env.scope x := by first | exact Or.inl rfl | exact Or.inr (Or.inl rfl) | exact Or.inr (Or.inr rfl)) (hm : Γ.getD i 0 = 1 := by rfl)
    (hbase : attributeBase (.Name x pn) "insert" X.env (eval (.Name x pn) X.env) = eval (.Name x pn) X.env := by rfl) (hline : (pa.endLine == pc.line) = true := by rfl)
    (hfew : ((backTo pc (starEach [ei, e] X.env)).all (fun x => !x.1) && (backToKw pc (keywordEach [] X.env)).all (fun x => x.1.isSome) && decide ([ei, e].length + ([] : List Keyword).length + (if ([] : List Keyword).isEmpty then 0 else 1) < 30)) = true := by rfl)
    (hss : starEach [ei, e] X.env = (false, eval ei X.env) :: starEach [e] X.env := by rfl) (hss2 : starEach [e] X.env = (false, eval e X.env) :: starEach [] X.env := by rfl) (hplain : (backTo pc (starEach [e] X.env)).any (·.1) = false := by rfl)
    (hs : swapsWith (.Call (.Attribute (.Name x pn) "insert" pa) [ei, e] [] pc) none ps.line X.env = pure false := by rfl) (hd : (x == ("__debug__" : Str)) = false := by decide) (hcd : (x == ("__classdict__" : Str)) = false := by decide) :
    Sv X W I r Γ Γb (.Expr (.Call (.Attribute (.Name x pn) "insert" pa) [ei, e] [] pc) ps) Γ (sInsert i fi f) (tDrop (tBM X.K "list" rInsert (tVar i) (tCons ti (tCons te tNil)))) :=
  ⟨ps_expr (pe_bm PySem.F.plainAttrs_list PySem.F.slot_list_insert PySem.F.type_list_insert mt_insert (pe_var hN hv hd hcd) (pa_cons hi.pe (pa_cons he.pe pa_nil hss2) hss) hbase hfew hline hss hplain) hs, sd_insert hm hi.sd he.sd⟩
theorem insert_ok {ρ ρ' : Store} {i : Nat} {z : Int} {n : Nat} {d : D} {ds : List D} (h1 : eVar i ρ = some (.lst ds)) (h2 : fi ρ = some (.int z)) (h3 : f ρ = some d) (hz : z = n) (hn : n ≤ 1000000000) (hl : ds.length < 16777216) (h : ρ.set i (some (.lst (ds.take n ++ [d] ++ ds.drop n))) = ρ') : sInsert i fi f ρ = some (.nx ρ') := by
  unfold sInsert
  simp only [h1, h2, h3]
  rw [if_pos ⟨by omega, by have : ((2 : Int) ^ 62) = 4611686018427387904 := by decide +kernel
                           omega, hl⟩, ← h, show z.toNat = n by omega]
/-! ### a, b, c = a list of three -/
def gSet3L (i j l : Nat) : D → Store → Option Store := fun d ρ => match d with
  | .lst [x, y, z] => some (((ρ.set i (some x)).set j (some y)).set l (some z))
  | _ => none
theorem sdg_threeL {i j l : Nat} (hG : i < Γ.length) (hG' : j < Γ.length) (hG2 : l < Γ.length) (hi : I i = 0) (hj : I j = 0) (hl : I l = 0) : SdG K I Γ (gTupL K 3 (gCons (gName i) (gCons (gName j) (gCons (gName l) gNil)))) (((Γ.set i 0).set j 0).set l 0) (gSet3L i j l) [i, j, l] := by
  refine ⟨fun {E ρ σ H Φ} hI R d v o ρ' e Q q => ?_⟩
  unfold gSet3L at e
  split at e
  · rename_i x y z
    cases e
    obtain ⟨a, vs, rfl, hs, hl'⟩ := o.lst_inv0
    obtain ⟨v1, vs1, rfl, h1, hl'⟩ := hl'.cons_inv0
    obtain ⟨v2, vs2, rfl, h2, hl'⟩ := hl'.cons_inv0
    obtain ⟨v3, vs3, rfl, h3, hl'⟩ := hl'.cons_inv0
    obtain rfl := hl'.nil_inv
    refine ⟨a, [v1, v2, v3], rfl, hs, rfl, v1, [v2, v3], rfl, v2, [v3], rfl, v3, [], rfl, rfl, ?_⟩
    have R1 := set_sh R h1 hG (by rw [hI]; exact hi)
    have R2 := set_sh R1 (own_less h2) (by rw [List.length_set]; exact hG') (by rw [hI]; exact hj)
    have R3 := set_sh R2 (own_less (own_less h3)) (by rw [List.length_set, List.length_set]; exact hG2) (by rw [hI]; exact hl)
    refine q _ _ R3 ⟨fun k n => ?_, by rw [List.length_set, List.length_set, List.length_set]⟩ fun k n => ?_
    · have n1 : j ≠ k := fun e => n (by rw [e]; exact List.mem_cons_of_mem _ List.mem_cons_self)
      have n2 : i ≠ k := fun e => n (by rw [e]; exact List.mem_cons_self)
      have n3 : l ≠ k := fun e => n (by rw [e]; exact List.mem_cons_of_mem _ (List.mem_cons_of_mem _ (List.mem_singleton.mpr rfl)))
      rw [List.getElem?_set_ne n3, List.getElem?_set_ne n1, List.getElem?_set_ne n2]
    · have n1 : k ≠ j := fun e => n (by rw [e]; exact List.mem_cons_of_mem _ List.mem_cons_self)
      have n2 : k ≠ i := fun e => n (by rw [e]; exact List.mem_cons_self)
      have n3 : k ≠ l := fun e => n (by rw [e]; exact List.mem_cons_of_mem _ (List.mem_cons_of_mem _ (List.mem_singleton.mpr rfl)))
      show (if k = l then [] else if k = j then [] else if k = i then [] else Φ k) = Φ k
      rw [if_neg n3, if_neg n1, if_neg n2]
  · cases e
theorem g_threeL (i j l : Nat) {x y z : Str} {p1 p2 p3 : Pos} {kk : Nat} (hN : X.N.Nodup) (hc : X.calm = true := by rfl) (hi : X.N[i]? = some x := by rfl) (hj : X.N[j]? = some y := by rfl) (hl : X.N[l]? = some z := by rfl) (hx : Loc X.env.scope x := by first | exact Or.inl rfl | exact Or.inr rfl) (hy : Loc X.env.scope y := by first | exact Or.inl rfl | exact Or.inr rfl) (hz : Loc X.env.scope z := by first | exact Or.inl rfl | exact Or.inr rfl)
    (hG : i < Γ.length := by decide) (hG' : j < Γ.length := by decide) (hG2 : l < Γ.length := by decide) (hio : I i = 0 := by rfl) (hio' : I j = 0 := by rfl) (hio2 : I l = 0 := by rfl) (hf : X.fn x = true ∨ X.env.scope.names.lookup x = some .local := by first | exact .inl rfl | exact .inr rfl)
    (hf' : X.fn y = true ∨ X.env.scope.names.lookup y = some .local := by first | exact .inl rfl | exact .inr rfl) (hf2 : X.fn z = true ∨ X.env.scope.names.lookup z = some .local := by first | exact .inl rfl | exact .inr rfl) (hn : (assignEach [.Name x p1, .Name y p2, .Name z p3] X.env).length = 3 := by rfl) (hst : (assignEach [.Name x p1, .Name y p2, .Name z p3] X.env).findIdx? (·.1) = none := by rfl)
    (hs1 : (assignEach [.Name x p1, .Name y p2, .Name z p3] X.env).map (·.2) = assign (.Name x p1) X.env :: (assignEach [.Name y p2, .Name z p3] X.env).map (·.2) := by rfl) (hs2 : (assignEach [.Name y p2, .Name z p3] X.env).map (·.2) = assign (.Name y p2) X.env :: (assignEach [.Name z p3] X.env).map (·.2) := by rfl) (hs3 : (assignEach [.Name z p3] X.env).map (·.2) = assign (.Name z p3) X.env :: (assignEach [] X.env).map (·.2) := by rfl) (hK : X.K = K := by rfl) :
    Gv X I Γ (.Tuple [.Name x p1, .Name y p2, .Name z p3] kk pos) (((Γ.set i 0).set j 0).set l 0) (gSet3L i j l) [i, j, l] (gTupL K 3 (gCons (gName i) (gCons (gName j) (gCons (gName l) gNil)))) := by
  subst hK
  exact ⟨pg_tupL hc (pgs_cons (pg_name hN hi hx hf) (pgs_cons (pg_name hN hj hy hf') (pgs_cons (pg_name hN hl hz hf2) pgs_nil hs3) hs2) hs1) hn hst, sdg_threeL hG hG' hG2 hio hio' hio2⟩
/-! ### return [x, y, z], slots' own lists -/
def sRet3 (i j l : Nat) : Store → Option O := fun ρ => match eVar i ρ, eVar j ρ, eVar l ρ with
  | some d1, some d2, some d3 => if (d1.immB 1 && (d2.immB 1 && d3.immB 1)) = true then some (.rt (.lst [d1, d2, d3]) ρ) else none
  | _, _, _ => none
theorem sd_ret3 {i j l : Nat} (hij : i ≠ j) (hil : i ≠ l) (hjl : j ≠ l) (hi : I i = 0) (hj : I j = 0) (hl : I l = 0) (mi : Γ.getD i 0 = 1) (mj : Γ.getD j 0 = 1) (ml : Γ.getD l 0 = 1) (hio : ∀ i, I i ≠ 0 → Γ.getD i 0 = I i) : SdS K W I 2 Γ Γb Γ' (tRet (tLst (tCons (tVar i) (tCons (tVar j) (tCons (tVar l) tNil))))) (sRet3 i j l) := by
  refine ⟨fun {E ρ σ H Φ} hI R o e D q => ?_⟩
  unfold sRet3 at e
  split at e
  · rename_i d1 d2 d3 e1 e2 e3
    split at e
    · rename_i him
      cases e
      rw [Bool.and_eq_true, Bool.and_eq_true] at him
      have z2 : 3 ≤ sizeLine := by rw [PySem.sizeLine_eq]; omega
      obtain ⟨v1, a1, b1⟩ := R.val i d1 (eVar_some e1)
      obtain ⟨v2, a2, b2⟩ := R.val j d2 (eVar_some e2)
      obtain ⟨v3, a3, b3⟩ := R.val l d3 (eVar_some e3)
      rw [mi] at b1
      rw [mj] at b2
      rw [ml] at b3
      refine ⟨v1, a1, v2, a2, v3, a3, ⟨z2, fun p hp => ?_⟩⟩
      have x2 := ext_upd (o := .lst [v1, v2, v3]) hp
      have nw : ∀ s, I s = 0 → ∀ a ∈ Φ s, E.H0 a = none := fun s hs a m => by
        rcases R.nw s a m with z | ⟨z, _⟩
        · exact z
        · rw [hI] at z; exact absurd hs z
      have dis : ∀ s t, s ≠ t → ∀ a ∈ Φ s, ∀ b ∈ Φ t, a ≠ b := fun s t n a ma b mb e => n (R.dj s t a ma (by rw [e]; exact mb))
      have im : ∀ {d : VL.D} {v : V} {s : Nat}, Own K H (fun a => ∀ j, a ∉ Φ j) 1 d v (Φ s) → d.immB 1 = true → ∀ N, Own K (upd H p (.lst [v1, v2, v3])) N 1 d v (Φ s) := fun {d v s} b h N => (b.move (N' := fun _ => True) (fun a o e _ => x2 _ _ e) (fun a o e z => ⟨x2 _ _ e, trivial⟩) fun a _ o e => x2 _ _ e).immB h
      refine q (.ref p) _ ⟨Γ, σ, Φ, p :: (Φ i ++ (Φ j ++ (Φ l ++ []))), R.ext x2, fun i n => by rw [hI] at n ⊢; exact hio i n, fun a m => ?_, List.nodup_cons.mpr ⟨fun m => ?_, ?_⟩, fun s n a m m' => ?_, fun N => ?_⟩
      · rcases List.mem_cons.mp m with rfl | m
        · exact R.fresh hp
        · simp only [List.mem_append, List.append_nil] at m
          rcases m with m | m | m
          · exact nw i hi a m
          · exact nw j hj a m
          · exact nw l hl a m
      · simp only [List.mem_append, List.append_nil] at m
        rcases m with m | m | m
        · exact R.notIn hp i m
        · exact R.notIn hp j m
        · exact R.notIn hp l m
      · refine List.nodup_append.mpr ⟨R.nd i, List.nodup_append.mpr ⟨R.nd j, by rw [List.append_nil]; exact R.nd l, fun a ma b mb => ?_⟩, fun a ma b mb => ?_⟩
        · rw [List.append_nil] at mb
          exact dis j l hjl a ma b mb
        · rw [List.append_nil] at mb
          rcases List.mem_append.mp mb with mb | mb
          · exact dis i j hij a ma b mb
          · exact dis i l hil a ma b mb
      · rcases List.mem_cons.mp m with rfl | m
        · exact R.notIn hp s m'
        · simp only [List.mem_append, List.append_nil] at m
          rcases m with m | m | m
          · have := R.dj i s a m m'
            subst this
            rw [hI] at n; exact n hi
          · have := R.dj j s a m m'
            subst this
            rw [hI] at n; exact n hj
          · have := R.dj l s a m m'
            subst this
            rw [hI] at n; exact n hl
      · exact .lst upd_same (.cons (im b1 him.1 N) (.cons (im b2 him.2.1 N) (.cons (im b3 him.2.2 N) .nil)))
    · cases e
  · cases e
theorem s_ret3 (i j l : Nat) {x y z : Str} {p1 p2 p3 pl : Pos} (hij : i ≠ j := by decide) (hil : i ≠ l := by decide) (hjl : j ≠ l := by decide) (mi : Γ.getD i 0 = 1 := by rfl) (mj : Γ.getD j 0 = 1 := by rfl) (ml : Γ.getD l 0 = 1 := by rfl) (hi : X.N[i]? = some x := by rfl) (hj : X.N[j]? = some y := by rfl) (hl : X.N[l]? = some z := by rfl) (ii : I i = 0 := by rfl) (ij : I j = 0 := by rfl) (il : I l = 0 := by rfl) (hii : ∀ i, I i ≠ 0 → Γ.getD i 0 = I i := by exact fun i n => absurd rfl n)
    (hv : Vis X.env.scope x := by first | exact Or.inl rfl | exact Or.inr (Or.inl rfl) | exact Or.inr (Or.inr rfl)) (hv2 : Vis X.env.scope y := by first | exact Or.inl rfl | exact Or.inr (Or.inl rfl) | exact Or.inr (Or.inr rfl)) (hv3 : Vis X.env.scope z := by first | exact Or.inl rfl | exact Or.inr (Or.inl rfl) | exact Or.inr (Or.inr rfl))
    (hd : (x == ("__debug__" : Str)) = false := by decide) (hcd : (x == ("__classdict__" : Str)) = false := by decide) (hd2 : (y == ("__debug__" : Str)) = false := by decide) (hcd2 : (y == ("__classdict__" : Str)) = false := by decide) (hd3 : (z == ("__debug__" : Str)) = false := by decide) (hcd3 : (z == ("__classdict__" : Str)) = false := by decide)
    (hs1 : starEach [.Name x p1, .Name y p2, .Name z p3] X.env = (false, eval (.Name x p1) X.env) :: starEach [.Name y p2, .Name z p3] X.env := by rfl) (hs2 : starEach [.Name y p2, .Name z p3] X.env = (false, eval (.Name y p2) X.env) :: starEach [.Name z p3] X.env := by rfl) (hs3 : starEach [.Name z p3] X.env = (false, eval (.Name z p3) X.env) :: starEach [] X.env := by rfl) :
    Sv X W I 2 Γ Γb (.Return (some (.List [.Name x p1, .Name y p2, .Name z p3] pl)) pos) Γ' (sRet3 i j l) (tRet (tLst (tCons (tVar i) (tCons (tVar j) (tCons (tVar l) tNil))))) :=
  ⟨ps_ret (pe_lst (pa_cons (pe_var hi hv hd hcd) (pa_cons (pe_var hj hv2 hd2 hcd2) (pa_cons (pe_var hl hv3 hd3 hcd3) pa_nil hs3) hs2) hs1)), sd_ret3 hij hil hjl ii ij il mi mj ml hii⟩
end
end VL

/-! VL42: defs that change their argument at place q in place (an owned list or dict of what cannot be changed), and tell nothing. -/
namespace VL
open PySem PySem.Spec L2
open PyProof.Rows hiding St
/-- the promise: n arguments, the q-th is changed to F of all -/
def spI (K : PySem.W.Frag) (q n : Nat) (F : List D → Option D) : Sp := fun vs H Q _ => ∃ (ds : List D) (d' : D) (v0 : V) (fp : List Addr), ds.length = n ∧ vs.length = n ∧ q < n ∧ vs[q]? = some v0 ∧ fp.Nodup ∧ (∀ i d, ds[i]? = some d → ∃ v, vs[i]? = some v ∧ Own K H (fun a => a ∉ fp) (if i = q then 1 else 0) d v (if i = q then fp else [])) ∧ F ds = some d' ∧
  ∀ H' Ψ, Kp (fun a => a ∉ fp) H H' → (∀ a o, H a = some o → ∃ o', H' a = some o') → Ψ.Nodup → (∀ a ∈ Ψ, a ∈ fp ∨ H a = none) → (∀ N, Own K H' N 1 d' v0 Ψ) → Q .non H'
def fnI (q N : Nat) (F : Store → Option O) : List D → Option D := fun ds => match F (ds.map some ++ List.replicate (N - ds.length) none) with
  | some (.rt .non ρ) => (match eVar q ρ with | some d => if d.immB 1 = true then some d else none | none => none)
  | some (.nx ρ) => (match eVar q ρ with | some d => if d.immB 1 = true then some d else none | none => none)
  | _ => none
theorem fnI_ok {q N : Nat} {F : Store → Option O} {ds : List D} {d : D} {ρ : Store} (h : F (ds.map some ++ List.replicate (N - ds.length) none) = some (.nx ρ)) (h1 : eVar q ρ = some d) (h2 : d.immB 1 = true) : fnI q N F ds = some d := by
  unfold fnI
  rw [h]
  simp only [h1, h2, if_true]
section
variable {P : Program} {w : World} {mg : Str → Option Value} {base : Heap} {K : PySem.W.Frag}
def ioI (q : Nat) : Nat → Nat := fun i => if i = q then 1 else 0
theorem fn_okI {x qual : Str} {params : Arguments} {body : List Stmt} {scope : Scope} {dfl : List V} {kws : List (Str × V)} {f : Addr} {fd : FuncData} {N ps : List Str} {k p : Nat} {F : Store → Option O} (Fn : FunD K x qual params body scope dfl kws f fd) (S : FnScope N ps scope) (hp : p < ps.length)
    (hb : ∀ (cdv : Value) (A : Around) (outer : List Env) (s : Shared) (H : Hp) (E : XK), Room k (A.deeper (envOfC qual scope s.heap.objs.size f cdv)) →
      ∃ t Γb Γ', Γ'.getD p 0 = 1 ∧ Lv (cxOf CX0 P w K mg base N qual scope f cdv A outer s H E).nox (fun _ _ _ _ => False) (ioI p) 0 ((List.replicate N.length 0).set p 1) Γb body Γ' F t) :
    FnOk P w K mg base CX0 (k + 1) f fd ps (spI K p ps.length (fnI p N.length F)) := by
  refine Fn.ok S (fun vs H Q E h => ?_) (fun cdv A outer s H vs Q E hr h => ?_)
  · obtain ⟨ds, d', v0, fp, _, hl, _⟩ := h
    exact hl
  · obtain ⟨ds, d', v0, fp, hn, hl, hq, hv0, ndf, o, e, q⟩ := h
    obtain ⟨t, Γb, Γ', hΓ, L⟩ := hb cdv A outer s H E hr
    refine ⟨t, PSs.nox L.pss, ?_⟩
    have hpl : ps.length ≤ N.length := by have := congrArg List.length S.pre; rw [List.length_take] at this; omega
    have gz : ∀ i, ((List.replicate N.length 0).set p 1).getD i 0 = if i = p then 1 else 0 := fun i => by
      rw [List.getD_eq_getElem?_getD, List.getElem?_set]
      by_cases h : p = i
      · subst h
        rw [if_pos rfl, if_pos rfl, if_pos (by rw [List.length_replicate]; omega)]; rfl
      · rw [if_neg h, if_neg (fun z => h z.symm), List.getElem?_replicate]
        split <;> rfl
    obtain ⟨Φ, hΦ⟩ : ∃ Φ : Nat → List Addr, Φ = fun i => if i = p then fp else [] := ⟨_, rfl⟩
    have Φ0 : Φ p = fp := by rw [hΦ]; exact if_pos rfl
    have Φs : ∀ i, i ≠ p → Φ i = [] := fun i n => by rw [hΦ]; exact if_neg n
    have nn : ∀ a, a ∉ fp → ∀ j, a ∉ Φ j := fun a z j m => by
      by_cases j0 : j = p
      · rw [j0, Φ0] at m; exact z m
      · rw [Φs j j0] at m; cases m
    have io0 : ∀ i, ioI p i ≠ 0 → i = p := fun i n => Classical.byContradiction fun z => n (if_neg z)
    have iop : ioI p p ≠ 0 := by unfold ioI; rw [if_pos rfl]; decide
    obtain ⟨En, hEn⟩ : ∃ En : Entry, En = ⟨H, Φ, fun _ => v0, ioI p, []⟩ := ⟨_, rfl⟩
    have R : StR K En ((List.replicate N.length 0).set p 1) (ds.map some ++ List.replicate (N.length - ds.length) none) (L2.start N vs) H Φ := by
      rw [hEn]
      refine ⟨?_, ?_, fun i d e => ?_, fun i _ g => ?_, fun i => ?_, fun i j a m m' => ?_, fun i a m => ?_, fun i a m => ?_, .of_ext (.rfl' _), fun a o e => ⟨o, e⟩, fun i n => ?_, fun p m => (nomatch m)⟩
      · unfold L2.start
        rw [List.length_append, List.length_append, List.length_map, List.length_map, List.length_replicate, List.length_replicate, hl, hn]
      · rw [List.length_set, List.length_append, List.length_map, List.length_replicate, List.length_replicate]; omega
      · have hi : ds[i]? = some d := by
          by_cases h : i < ds.length
          · rw [List.getElem?_append_left (by simpa using h), List.getElem?_map] at e
            cases e2 : ds[i]? with
            | none => rw [e2] at e; cases e
            | some d2 => rw [e2] at e; cases e; rfl
          · rw [List.getElem?_append_right (by simpa using h), List.getElem?_replicate] at e
            split at e <;> cases e
        obtain ⟨v, h1, h2⟩ := o i d hi
        refine ⟨v, ?_, ?_⟩
        · unfold L2.start
          rw [List.getElem?_append_left (by rw [List.length_map]; exact lt_of_some h1), List.getElem?_map, h1]; rfl
        · rw [gz i]
          have eΦ : Φ i = if i = p then fp else [] := by rw [hΦ]
          rw [eΦ]
          exact h2.move (fun a o e _ => e) (fun a o e z => ⟨e, nn a z⟩) fun a _ o e => e
      · by_cases i0 : i = p
        · rw [gz i, if_pos i0] at g; cases g
        · exact Φs i i0
      · by_cases i0 : i = p
        · rw [i0, Φ0]; exact ndf
        · rw [Φs i i0]; exact .nil
      · by_cases i0 : i = p
        · by_cases j0 : j = p
          · rw [i0, j0]
          · rw [Φs j j0] at m'; cases m'
        · rw [Φs i i0] at m; cases m
      · by_cases i0 : i = p
        · rw [i0, Φ0] at m
          have hd : p < ds.length := by omega
          obtain ⟨v, h1, h2⟩ := o p _ (List.getElem?_eq_getElem hd)
          rw [if_pos rfl, if_pos rfl] at h2
          exact h2.live a m
        · rw [Φs i i0] at m; cases m
      · by_cases i0 : i = p
        · subst i0; exact .inr ⟨iop, m⟩
        · rw [Φs i i0] at m; cases m
      · rw [io0 i n]
        unfold L2.start
        rw [List.getElem?_append_left (by rw [List.length_map]; exact lt_of_some hv0), List.getElem?_map, hv0]; rfl
    have fin : ∀ {Γ2 : List Nat} {ρ' : Store} {σ' : St} {H' : Hp} {Φ' : Nat → List Addr}, Γ2.getD p 0 = 1 → StR K En Γ2 ρ' σ' H' Φ' → eVar p ρ' = some d' → d'.immB 1 = true → Q .non H' := fun {Γ2 ρ' σ' H' Φ'} g R' ed im => by
      obtain ⟨v, h1, h2⟩ := R'.val p d' (eVar_some ed)
      have h3 := R'.iv p (by rw [hEn]; exact iop)
      rw [h1] at h3
      have ev : v = v0 := by rw [hEn] at h3; cases h3; rfl
      subst ev
      rw [g] at h2
      refine q H' (Φ' p) ?_ ?_ (R'.nd p) (fun a m => ?_) fun M => h2.immB im
      · have := R'.kp
        rw [hEn] at this
        exact this.mono fun a z i n => by rw [io0 i n]; show a ∉ Φ p; rw [Φ0]; exact z
      · have := R'.dm; rw [hEn] at this; exact this
      · rcases R'.nw p a m with z | z
        · rw [hEn] at z; exact .inr z
        · rw [hEn] at z
          have z2 : a ∈ Φ p := z.2
          rw [Φ0] at z2; exact .inl z2
    unfold fnI at e
    cases eo : F (ds.map some ++ List.replicate (N.length - ds.length) none) with
    | none => rw [eo] at e; cases e
    | some ob =>
      rw [eo] at e
      refine L.sd.run (E := En) (by rw [hEn]) R ob eo _ ?_
      cases ob with
      | nx ρ' =>
        dsimp only at e
        split at e
        · rename_i d2 e2
          split at e
          · rename_i im
            cases e
            exact fun σ' H' Φ' R' => fin hΓ R' e2 im
          · cases e
        · cases e
      | rt d2 ρ' =>
        cases d2 with
        | non =>
          dsimp only at e
          split at e
          · rename_i d2 e2
            split at e
            · rename_i im
              cases e
              rintro v H' ⟨Γ2, σ2, Φ2, Ψ2, R2, g2, _, _, _, o2⟩
              have ov := o2 (fun _ => True)
              cases ov
              exact fin ((g2 p (by rw [hEn]; exact iop)).trans (by rw [hEn]; exact if_pos rfl)) R2 e2 im
            · cases e
          · cases e
        | _ => cases e
      | bk ρ' => cases e
      | ct ρ' => cases e
      | ex C w ρ' => cases e
structure CalI (P : Program) (w : World) (K : PySem.W.Frag) (mg : Str → Option Value) (base : Heap) (k : Nat) (x : Str) (q n : Nat) (F : List D → Option D) : Prop where
  ex : ∃ (f : Addr) (fd : FuncData) (ps : List Str), FnOk P w K mg base CX0 k f fd ps (spI K q n F) ∧ mg x = some (.ref f) ∧ PySem.W.keepIn K (.ref f) = true ∧ Binds K fd ps []
theorem calI_mk {x qual : Str} {params : Arguments} {body : List Stmt} {scope : Scope} {f : Addr} {fd : FuncData} {N ps : List Str} {k q : Nat} {F : Store → Option O} (Fn : FunD K x qual params body scope [] [] f fd) (gf : mg x = some (.ref f)) (S : FnScope N ps scope)
    (hbd : ∀ (kV doc pm : Value) (an : Option Addr) (cdv ct : Value) (us : List Value), us.length = ps.length → bindArgs (PySem.W.fnOf x qual params body scope .none kV doc pm an cdv ct) ⟨us, []⟩ = pure (ps.zip us)) (hq : q < ps.length)
    (hb : ∀ (cdv : Value) (A : Around) (outer : List Env) (s : Shared) (H : Hp) (E : XK), Room k (A.deeper (envOfC qual scope s.heap.objs.size f cdv)) →
      ∃ t Γb Γ', Γ'.getD q 0 = 1 ∧ Lv (cxOf CX0 P w K mg base N qual scope f cdv A outer s H E).nox (fun _ _ _ _ => False) (ioI q) 0 ((List.replicate N.length 0).set q 1) Γb body Γ' F t) :
    CalI P w K mg base (k + 1) x q ps.length (fnI q N.length F) := ⟨f, fd, ps, fn_okI Fn S hq hb, gf, Fn.kp, Fn.bindsN hbd⟩
end
section
variable {X : Cx} {K : PySem.W.Frag} {Γ : List Nat} {W : WX} {I : Nat → Nat} {r k m : Nat} {B B0 Γb : List Nat} {e0 : Expr} {es : List Expr} {f0 : Store → Option D} {fa : Store → Option (List D)} {t0 : TE} {ta : TA} {pos p : Pos}
/-- f(e, x, ..), x the slot i, changed -/
def sCallI (i n : Nat) (F : List D → Option D) (f0 : Store → Option D) (fa : Store → Option (List D)) : Store → Option O := fun ρ => match f0 ρ with
  | some d1 => (match eVar i ρ with
    | some d0 => (match fa ρ with
      | some ds => if ds.length + 2 = n then (match F (d1 :: d0 :: ds) with | some d' => some (.nx (ρ.set i (some d'))) | none => none) else none
      | none => none)
    | none => none)
  | none => none
theorem callI_ok {i n : Nat} {F : List D → Option D} {ρ ρ' : Store} {d1 d0 d' : D} {ds : List D} (h0 : f0 ρ = some d1) (h1 : eVar i ρ = some d0) (h2 : fa ρ = some ds) (h3 : ds.length + 2 = n) (h4 : F (d1 :: d0 :: ds) = some d') (h5 : ρ.set i (some d') = ρ') : sCallI i n F f0 fa ρ = some (.nx ρ') := by
  unfold sCallI
  simp only [h0, h1, h2, h4, h5]
  exact if_pos h3
theorem sd_callI {i n : Nat} {F : List D → Option D} {E0 : XK} (hm : Γ.getD i 0 = 1) (iB0 : i ∉ B0) (iB : i ∉ B) (h0 : SdE K Γ t0 m B0 f0) (ha : SdA K Γ ta 0 B fa) : SdS K W I r Γ Γb Γ (tDrop (tCall (spI K 1 n F) [] E0 (tCons t0 (tCons (tVar i) ta)))) (sCallI i n F f0 fa) := by
  refine ⟨fun {E ρ σ H Φ} hI R o e D q => ?_⟩
  unfold sCallI at e
  split at e
  · rename_i d1 ed1
    split at e
    · rename_i d0 e0
      split at e
      · rename_i ds e1
        split at e
        · rename_i hn
          split at e
          · rename_i d' e2
            cases e
            refine h0.sh R ed1 _ fun v1 H0 x0 o1 => ?_
            have R0 := R.ext x0
            obtain ⟨v, h1, h2⟩ := R0.val i _ (eVar_some e0)
            refine ⟨v, h1, ?_⟩
            refine ha.sh R0 e1 _ fun vs H1 x o => ?_
            have R1 := R0.ext x
            obtain ⟨v', h1', h2'⟩ := R1.val i _ (eVar_some e0)
            rw [h1] at h1'
            cases h1'
            rw [hm] at h2'
            have o1' : Own K H1 (fun a => a ∉ Φ i) 0 d1 v1 [] := o1.move (fun a o e _ => x a o e) (fun a o e z => ⟨x a o e, z.2 i iB0⟩) fun a m => (nomatch m)
            have o2' : Own K H1 (fun a => a ∉ Φ i) 1 d0 v (Φ i) := h2'.move (fun a o e _ => e) (fun a o e z => ⟨e, z i⟩) fun a _ o e => e
            have o3' : OwnL K H1 (fun a => a ∉ Φ i) 0 ds vs [] := o.move (fun a o e _ => e) (fun a o e z => ⟨e, z.2 i iB⟩) fun a m => (nomatch m)
            refine ⟨d1 :: d0 :: ds, d', v, Φ i, by rw [← hn]; rfl, by rw [List.append_nil, ← hn, ← o3'.len]; rfl, by omega, by rw [List.append_nil]; rfl, R1.nd i, fun j d ej => ?_, e2, fun H2 Ψ kp dm nd src own => ?_⟩
            · rw [List.append_nil]
              match j, ej with
              | 0, ej => cases ej; exact ⟨v1, rfl, o1'⟩
              | 1, ej => cases ej; exact ⟨v, rfl, o2'⟩
              | j + 2, ej =>
                obtain ⟨u, u1, u2⟩ := o3'.get0 (i := j) ej
                exact ⟨u, u1, by rw [if_neg (by omega), if_neg (by omega)]; exact u2⟩
            · refine q _ _ _ (R1.mut (i := i) (v := v) (Ψ := Ψ) h1 (by rw [hm]; decide) (fun a o e n => kp.kp a o e n) dm ?_ nd src)
              rw [hm]
              exact own _
          · cases e
        · cases e
      · cases e
    · cases e
  · cases e
theorem s_callI {k j n i : Nat} {F : List D → Option D} {x y : Str} {py pc ps : Pos} (c : CalI X.prog X.w X.K X.mg X.base k x 1 n F) (hr : Room j X.A) (hkj : k ≤ j) (hg : Gl X x) (hN : X.N[i]? = some y) (hm : Γ.getD i 0 = 1) (iB0 : i ∉ B0) (iB : i ∉ B) (h0 : Ev X Γ e0 m B0 f0 t0) (ha : Av X Γ es 0 B fa ta)
    (hv : Vis X.env.scope y := by first | exact Or.inl rfl | exact Or.inr (Or.inl rfl) | exact Or.inr (Or.inr rfl)) (hd : (y == ("__debug__" : Str)) = false := by decide) (hcd : (y == ("__classdict__" : Str)) = false := by decide)
    (hdb : (x == ("__debug__" : Str)) = false := by decide) (he0 : starEach (e0 :: .Name y py :: es) X.env = (false, eval e0 X.env) :: starEach (.Name y py :: es) X.env := by rfl) (he : starEach (.Name y py :: es) X.env = (false, eval (.Name y py) X.env) :: starEach es X.env := by rfl) (hpl : (backTo pc (starEach (.Name y py :: es) X.env)).any (·.1) = false := by rfl) (hs : swapsWith (.Call (.Name x p) (e0 :: .Name y py :: es) [] pc) none ps.line X.env = pure false := by rfl) :
    Sv X W I r Γ Γb (.Expr (.Call (.Name x p) (e0 :: .Name y py :: es) [] pc) ps) Γ (sCallI i n F f0 fa) (tDrop (tCall (spI X.K 1 n F) [] E0 (tCons t0 (tCons (tVar i) ta)))) := by
  obtain ⟨f, fd, pl, G, hmm, hk, hb⟩ := c.ex
  exact ⟨ps_expr (pe_call (dvs := []) G (hr.mono hkj) hg hmm hk hb .nil pass0 (pa_cons h0.pe (pa_cons (pe_var hN hv hd hcd) ha.pa he) he0) hdb he0 hpl) hs, sd_callI hm iB0 iB h0.sd ha.sd⟩
end
end VL

/-! VL43: x[i::c], x a list, c a written whole number. -/
namespace VL
open PySem PySem.Spec L2
open PyProof.Rows hiding St
def pickR (n : Nat) (lo : Int) (c : Int) : List Nat := sliceRange (sliceBounds (some lo) none (some c) n).1 (sliceBounds (some lo) none (some c) n).2.1 (sliceBounds (some lo) none (some c) n).2.2
def pickL {α : Type} (xs : List α) (lo c : Int) : List α := (pickR xs.length lo c).filterMap (xs[·]?)
theorem pick_map {α β : Type} (f : α → β) (xs : List α) (lo c : Int) : pickL (xs.map f) lo c = (pickL xs lo c).map f := by
  unfold pickL
  rw [List.length_map, List.map_filterMap]
  refine congrArg (fun g => List.filterMap g (pickR xs.length lo c)) (funext fun i => ?_)
  exact List.getElem?_map ..
theorem vals_at : ∀ {xs : List V} {us : List Value}, Vals xs us → ∀ (i : Nat) (h : i < xs.length) (h2 : i < us.length), RelV xs[i] us[i]
  | _, _, .nil, i, h, _ => absurd h (Nat.not_lt_zero i)
  | _, _, .cons a t, 0, _, _ => a
  | _, _, .cons a t, i + 1, h, h2 => vals_at t i (Nat.lt_of_succ_lt_succ h) (Nat.lt_of_succ_lt_succ h2)
theorem pick_vals {idx : List Nat} : ∀ {xs : List V} {us : List Value}, Vals xs us → Vals (idx.filterMap (xs[·]?)) (idx.filterMap (us[·]?)) := by
  intro xs us r
  have hl := r.length
  induction idx with
  | nil => exact .nil
  | cons i idx ih =>
    rw [List.filterMap_cons, List.filterMap_cons]
    by_cases h : i < xs.length
    · have h2 : i < us.length := by omega
      rw [List.getElem?_eq_getElem h, List.getElem?_eq_getElem h2]
      refine .cons ?_ ih
      exact vals_at r i h h2
    · rw [List.getElem?_eq_none (by omega), List.getElem?_eq_none (by omega)]
      exact ih
section
variable {X : Cx} {K : PySem.W.Frag} {Γ : List Nat} {m m1 : Nat} {B : List Nat} {e el : Expr} {f : Store → Option D} {lo : Store → Option (Option Int)} {te : TE} {tl : TO} {pos : Pos}
theorem OwnL.pick {H : Hp} {N : Addr → Prop} {idx : List Nat} {ds : List D} {vs : List V} (o : OwnL K H N 0 ds vs []) : OwnL K H N 0 (idx.filterMap (ds[·]?)) (idx.filterMap (vs[·]?)) [] := by
  induction idx with
  | nil => exact .nil
  | cons i idx ih =>
    rw [List.filterMap_cons, List.filterMap_cons]
    cases e : ds[i]? with
    | none =>
      have : vs[i]? = none := by
        rw [List.getElem?_eq_none_iff] at e ⊢
        rw [o.len]; exact e
      rw [this]
      exact ih
    | some d =>
      obtain ⟨v, h1, h2⟩ := o.get0 e
      rw [h1]
      exact .cons (fp := []) (fps := []) h2 ih
def tStepL (K : PySem.W.Frag) (c : Int) (te : TE) (tl : TO) : TE := fun σ H Q => te σ H fun x H1 => tl σ H1 fun o H2 => ∃ a xs i, x = .ref a ∧ o = some i ∧ SqL K H2 a xs ∧ ∀ p, H2 p = none → Q (.ref p) (upd H2 p (.lst (pickL xs i c)))
theorem pe_stepL {c : Int} {k : Nat} {p2 p3 : Pos} (hc : c ≠ 0) (he : PE X e te) (hl : PO X (some el) tl) : PE X (.Subscript e (.Slice (some el) none (some (.Constant (.int c) k p2)) p3) pos) (tStepL X.K c te tl) := by
  refine ⟨fun pins s σ H Q I h => ?_⟩
  refine Subscript_ (thn (he.run pins s σ H _ I h) fun v s1 ⟨x, H1, I1, r1, q1⟩ => ?_)
  have hst : PO X (some (.Constant (.int c) k p2)) (tPart (tC (.int c))) := po_some pe_int
  refine wpAny_Slice (thn (hl.run pins s1 σ H1 _ I1 q1) fun vl s2 ⟨l, H2, I2, pl, a, xs, i, ex, eo, hx, q⟩ => ?_)
  subst ex eo
  cases r1
  refine thn (po_none.run pins s2 σ H2 (fun o H3 => o = none ∧ H3 = H2) I2 ⟨rfl, rfl⟩) fun vu s3 ⟨u, H3, I3, pu, eu, e3⟩ => ?_
  subst eu e3
  refine thn (hst.run pins s3 σ H3 (fun o H4 => o = some c ∧ H4 = H3) I3 ⟨c, rfl, rfl, rfl⟩) fun vs s4 ⟨o, H4, I4, ps, eo, e4⟩ => ?_
  subst eo e4
  have I5 : Inv X pins σ H4 { s4 with heap := s4.heap.push { cls := .type "slice", data := .fields #[vl, vu, vs] } } := I4.kept (t' := s4.toks) fun b ob q => Heap.get?_push_of_some _ q
  obtain ⟨its, r, ht, hz⟩ := I5.list hx
  have hlen := r.length
  show wpAny (model X.prog X.w) X.A (subscriptTail e (.Slice (some el) none (some (.Constant (.int c) k p2)) p3) (.ref a) (.ref s4.heap.objs.size)) (EP X pins σ Q) X.xe { s4 with heap := s4.heap.push { cls := .type "slice", data := .fields #[vl, vu, vs] } }
  refine tail_any (ops := [.ref a, .ref s4.heap.objs.size]) ht.isList.typeIs (PySem.slot_list_getitem.lookup) ?_ (by with_unfolding_all rfl)
  refine wpAny_getItem_list_slice ht.isList (Heap.IsSliceOf.new _ vl vu vs) pl pu ps (fun z => hc (Option.some.inj z)) ?_ (by rw [List.size_toArray]; omega)
  have ep : slicePick its.toArray (some i) none (some c) = (pickL its i c).toArray := by
    unfold slicePick pickL pickR
    rw [List.size_toArray]
    congr 2
    funext j
    exact List.getElem?_toArray ..
  rw [ep]
  have lp : (pickL xs i c).length ≤ sizeLine := by
    have h1 := slicePick_size_le its.toArray (some i) none (some c)
    rw [ep, List.size_toArray, List.size_toArray] at h1
    have h2 : (pickL xs i c).length = (pickL its i c).length := by
      unfold pickL
      rw [hlen]
      exact (pick_vals r).length
    omega
  refine ⟨.ref _, _, I5.laid (t' := s4.toks) (o := .lst (pickL xs i c)) (fun b ob q => Heap.get?_push_of_some _ q) (Nat.le_refl _) ?_, rfl, q _ (I5.hok.fresh (Nat.le_refl _))⟩
  refine ⟨lp, pickL its i c, 0, ?_, Heap.get?_push_size _ rfl⟩
  unfold pickL
  rw [hlen]
  exact pick_vals r
def eStep (c : Int) (f : Store → Option D) (lo : Store → Option (Option Int)) : Store → Option D := fun ρ => match f ρ with
  | some (.lst ds) => (match lo ρ with
    | some (some i) => some (.lst (pickL ds i c))
    | _ => none)
  | _ => none
theorem xev_step {c : Int} {k : Nat} {p2 p3 : Pos} (hc : c ≠ 0) (h : Ev X Γ e m1 B f te) (hl : Ov X Γ (some el) lo tl) (hK : X.K = K := by rfl) : Ev X Γ (.Subscript e (.Slice (some el) none (some (.Constant (.int c) k p2)) p3) pos) 1 B (eStep c f lo) (tStepL K c te tl) := by
  subst hK
  refine ⟨pe_stepL hc h.pe hl.po, ⟨fun {E ρ σ H Φ} R d e Q q => ?_⟩⟩
  unfold eStep at e
  split at e
  · rename_i ds e1
    split at e
    · rename_i i e2
      cases e
      refine h.sd.sh R e1 _ fun v H1 x o => ?_
      refine hl.sd.run (R.ext x) _ e2 _ fun H2 x2 => ?_
      have o2 := o.move (H' := H2) (N' := fun a => (∃ o, H2 a = some o) ∧ ∀ j, j ∉ B → a ∉ Φ j) (fun a o e _ => x2 a o e) (fun a o e z => ⟨x2 a o e, ⟨o, x2 a o e⟩, z.2⟩) fun a m => (nomatch m)
      obtain ⟨l, vs, rfl, s, lo⟩ := o2.lst_inv0
      refine ⟨l, vs, i, rfl, rfl, s, fun p hp => ?_⟩
      have xx : Ext H H2 := fun a o e => x2 a o (x a o e)
      unfold pickL
      rw [lo.len]
      exact fin_lst (fun v H' Ψ x2 new nd o => q v H' Ψ (res_of R xx x2 new nd o)) lo.pick p hp
    · cases e
  · cases e
theorem step_ok {ρ : Store} {ns : List Int} {i c : Int} (h : f ρ = some (.lst (ns.map .int))) (h2 : lo ρ = some (some i)) : eStep c f lo ρ = some (.lst ((pickL ns i c).map .int)) := by
  unfold eStep
  simp only [h, h2, pick_map]
end
end VL

/-! VL44: own errors with a field, told by the class's own __init__: B.__init__(self, "..") through an own class B, self.line = line; raise C(e). -/
namespace VL
open PySem PySem.Spec L2
open PyProof.Rows hiding St
theorem typ_ref {K : PySem.W.Frag} {C : Addr} {name : Str} {s : Shared} {v : Value} {pl : Sem Bool} {P : Program} {w : World} {A : Around} {E : Value → Shared → Prop} {Q : Value × List Value → Shared → Prop} (X : K.In s.heap) (hs : PySem.W.nsIn K cStatics "thirdparty.any" = some none) (ht : PySem.W.typeIn K (.ref C) = some (.type "type"))
    (e : PySem.W.findCls K (.ref C) (.type "type") name = some (.val v)) (hh : PySem.W.handedIn v = true) (h : Q (v, []) { s with toks := s.toks + 1 }) : wpAny (model P w) A (getMethod (.ref C) name pl) Q E s := by
  have L0 : PySem.W.Looks (model P w) s.heap (typeOf (.ref C)) (.type "type") := PySem.W.looks_typeIn X ht
  have hg : PySem.W.findIn K (.type "type") "__getattribute__" = some (some (.builtin "type.__getattribute__")) := by
    show (PySem.W.findIn [] (.type "type") "__getattribute__") = _
    exact PySem.W.type_tga
  unfold getMethod specialOf
  refine wpAny_bind (wpAny_bind (L0.here ((PySem.W.looks_findIn X hg).here ?_)))
  dsimp only
  rw [if_pos PySem.W.canon_tga]
  refine wpAny_bind (wpAny_mono (Q := fun v => Q (v, [])) (E := E) ?_ (fun _ _ z => wpAny_pure z) fun _ _ z => z)
  refine PySem.W.cls_open X (PySem.W.looks_opaque X hs) L0 hg (PySem.W.looks_hook X (r := none) (by rfl)) (by show PySem.W.subIn K _ _ = _; rfl) e
    (wpAny_pure (by show wpAny _ _ (handedOut v) _ _ _; rw [PySem.W.handedOut_of hh]; exact wpAny_pure h))
section
variable {X : Cx} {e : Expr} {es : List Expr} {ta : TA} {p1 p2 pos : Pos}
theorem pe_binit {pl : Sem Bool} {B : Addr} {y : Str} (hg : Gl X y) (hm : X.mg y = some (.ref B)) (hs : PySem.W.nsIn X.K cStatics "thirdparty.any" = some none) (ht : PySem.W.typeIn X.K (.ref B) = some (.type "type")) (vV : PySem.W.findCls X.K (.ref B) (.type "type") "__init__" = some (.val (.builtin "ValueError.__init__"))) (ha : PA X (e :: es) ta)
    (hc : eval (.Call (.Attribute (.Name y p1) "__init__" p2) (e :: es) [] pos) X.env = (do
      let ov ← eval (.Name y p1) X.env
      standAt p2.atName
      let (f, first) ← holding [ov] (getMethod ov "__init__" pl)
      callWith pos f first (backTo pos (starEach (e :: es) X.env)) (backToKw pos (keywordEach [] X.env))) := by rfl)
    (hd : (y == ("__debug__" : Str)) = false := by decide) (he : starEach (e :: es) X.env = (false, eval e X.env) :: starEach es X.env := by rfl) (hpl : (backTo pos (starEach es X.env)).any (·.1) = false := by rfl) :
    PE X (.Call (.Attribute (.Name y p1) "__init__" p2) (e :: es) [] pos) (tVeI X.K ta) := by
  refine ⟨fun pins s σ H Q I h => ?_⟩
  refine PySem.W.methodCall_KW (ld_glob I hg hm ?_ hd) hc
  refine typ_ref I.kIn hs ht vV (by decide +kernel) ?_
  show wpAny _ _ (callWith pos (Value.builtin "ValueError.__init__") [] (backTo pos (starEach (e :: es) X.env)) []) _ _ _
  refine PyProof.Rows.callWith_method1 (thn (ha.run pos pins _ σ H _ (I.tok _) h) fun us s1 ⟨vs, H1, I1, r1, a, C, ws, ev, hl, T, ea, q⟩ => ?_) he hpl
  subst ev
  cases r1 with
  | @cons _ u0 _ ur ra rw' =>
    obtain rfl : u0 = Value.ref a := ra
    have hlen : ur.length ≤ sizeLine := by
      rw [← Paired.length rw', sizeLine_eq]
      omega
    exact oinit_ok T I1 ea hlen fun s' J => ⟨.non, H1, J, rfl, q⟩
end
/-! ### the promise of __init__(self, line) -/
/-- what the written part says of a class whose instances bear a field f, told by B's own __init__ -/
structure OexF (K : PySem.W.Frag) (C fI : Addr) (f : Str) : Prop where
  T : OexC K C
  iC : PySem.W.findIn K (.ref C) "__init__" = some (some (.ref fI))
  tI : PySem.W.typeIn K (.ref fI) = some (.type "function")
  no : PySem.W.findIn K (.ref C) f = some none
def spIni (K : PySem.W.Frag) (f : Str) : Sp := fun vs H Q _ => ∃ (a C : Addr) (v : V), vs = [.ref a, v] ∧ OexC K C ∧ PySem.W.findIn K (.ref C) f = some none ∧ H a = some (exo a C none) ∧
  ∀ dx, H dx = none → dx ≠ a → Q .non (upd (upd H dx (exd dx [(f, v)])) a (exo a C (some dx)))
section
variable {P : Program} {w : World} {mg : Str → Option Value} {base : Heap} {K : PySem.W.Frag}
theorem fn_ini {x qual : Str} {body : List Stmt} {params : Arguments} {scope : Scope} {fA : Addr} {fd : FuncData} {Ba : Addr} {m : Str} {j : Nat} {p1 p2 p3 p4 p5 p6 p7 p8 p9 p10 : Pos}
    (Fn : FunD K x qual params body scope [] [] fA fd) (S : FnScope ["self", "line"] ["self", "line"] scope)
    (hbody : body = [.Expr (.Call (.Attribute (.Name "HatError" p1) "__init__" p2) [.Name "self" p3, .Constant (.str m) j p4] [] p5) p6, .Assign [.Attribute (.Name "self" p7) "line" p8] (.Name "line" p9) p10])
    (hg : ∀ (cdv : Value) (A : Around) (outer : List Env) (s : Shared) (H : Hp) (E : XK), Gl (cxOf CX0 P w K mg base ["self", "line"] qual scope fA cdv A outer s H E).nox "HatError") (hm : mg "HatError" = some (.ref Ba)) (hs : PySem.W.nsIn K cStatics "thirdparty.any" = some none) (ht : PySem.W.typeIn K (.ref Ba) = some (.type "type")) (vV : PySem.W.findCls K (.ref Ba) (.type "type") "__init__" = some (.val (.builtin "ValueError.__init__")))
    (hc : ∀ (cdv : Value) (A : Around) (outer : List Env) (s : Shared) (H : Hp) (E : XK), ∃ pl : Sem Bool, eval (.Call (.Attribute (.Name "HatError" p1) "__init__" p2) [.Name "self" p3, .Constant (.str m) j p4] [] p5) (cxOf CX0 P w K mg base ["self", "line"] qual scope fA cdv A outer s H E).nox.env = (do
      let ov ← eval (.Name "HatError" p1) (cxOf CX0 P w K mg base ["self", "line"] qual scope fA cdv A outer s H E).nox.env
      standAt p2.atName
      let (f, first) ← holding [ov] (getMethod ov "__init__" pl)
      callWith p5 f first (backTo p5 (starEach [.Name "self" p3, .Constant (.str m) j p4] (cxOf CX0 P w K mg base ["self", "line"] qual scope fA cdv A outer s H E).nox.env)) (backToKw p5 (keywordEach [] (cxOf CX0 P w K mg base ["self", "line"] qual scope fA cdv A outer s H E).nox.env))))
    (hv1 : Vis scope "self" := by first | exact Or.inl rfl | exact Or.inr (Or.inl rfl) | exact Or.inr (Or.inr rfl)) (hv2 : Vis scope "line" := by first | exact Or.inl rfl | exact Or.inr (Or.inl rfl) | exact Or.inr (Or.inr rfl)) :
    FnOk P w K mg base CX0 1 fA fd ["self", "line"] (spIni K "line") := by
  subst hbody
  refine Fn.ok (k := 0) S (fun vs H Q E h => ?_) (fun cdv A outer s H vs Q E hr h => ?_)
  · obtain ⟨a, C, v, rfl, _⟩ := h
    rfl
  · obtain ⟨a, C, v, rfl, T, no, ea, q⟩ := h
    obtain ⟨pl, hc⟩ := hc cdv A outer s H E
    refine ⟨_, PSs.nox (pss_cons (ps_expr (pe_binit (pl := pl) (hc := hc) (hg cdv A outer s H E) hm hs ht vV (pa_cons (pe_var (i := 0) rfl hv1) (pa_cons pe_str pa_nil))) (by rfl)) (pss_one (ps_ost (pe_var (i := 0) rfl hv1) (pe_var (i := 1) rfl hv2) (by rfl)))), ?_⟩
    refine ⟨.ref a, rfl, ⟨a, C, [.str m], rfl, by show 1 ≤ 1000; decide, T, ea, ?_⟩⟩
    exact ⟨v, rfl, ⟨.ref a, rfl, a, C, rfl, T, no, .inl ⟨ea, fun dx hdx ne => q dx hdx ne⟩⟩⟩
end
/-! ### raise C(e) -/
/-- what the class named x says, which is raised with a number -/
structure ExcF (K : PySem.W.Frag) (mg : Str → Option Value) (x : Str) (C fI : Addr) : Prop where
  g : mg x = some (.ref C)
  F : OexF K C fI "line"
section
variable {X : Cx} {K : PySem.W.Frag} {mg : Str → Option Value} {P : Program} {w : World} {base : Heap} {Γ Γ' Γb B : List Nat} {W : WX} {I : Nat → Nat} {r m : Nat} {cs : Nat → Addr} {C fI : Addr} {e : Expr} {f : Store → Option D} {te : TE}
/-- raise the t-th class's error with the number f -/
def sRaiseF (t : Nat) (f : Store → Option D) : Store → Option O := fun ρ => match f ρ with
  | some (.int i) => some (.ex t (some (.int i)) ρ)
  | _ => none
theorem s_raiseF {kk t : Nat} {fd : FuncData} {x : Str} {p pos pos' : Pos} (Ex : ExcF K mg x C fI) (G : FnOk P w K mg base CX0 1 fI fd ["self", "line"] (spIni K "line")) (hb : Binds K fd ["self", "line"] []) (hr : Room kk X.A) (hk : 2 ≤ kk) (hcs : cs t = C) (hc : X.calm = true) (tk : Takes X W) (hg : Gl X x) (he : Ev X Γ e m B f te)
    (hP : X.prog = P := by rfl) (hw : X.w = w := by rfl) (hK : X.K = K := by rfl) (hm : X.mg = mg := by rfl) (hbs : X.base = base := by rfl)
    (hdb : (x == ("__debug__" : Str)) = false := by decide) (hse : starEach [e] X.env = (false, eval e X.env) :: starEach [] X.env := by rfl) (hpl : (backTo pos (starEach [] X.env)).any (·.1) = false := by rfl) :
    Sv X (wTag cs W) I r Γ Γb (.Raise (some (.Call (.Name x p) [e] [] pos)) none pos') Γ' (sRaiseF t f) (fun _ σ H => tMkO C (spIni K "line") [] (tCons te tNil) σ H fun cls d H' => W cls d σ H') := by
  subst hP hw hK hm hbs
  refine ⟨ps_raise hc tk (pmk_oex (e := e) (es := []) (ds := []) (dvs := []) Ex.F.T Ex.F.iC Ex.F.tI G (hr.mono hk) hb .nil pass0 hg Ex.g (pa_cons he.pe pa_nil hse) hdb hse hpl), ⟨fun {E ρ σ H Φ} hI R o eo D q => ?_⟩⟩
  unfold sRaiseF at eo
  split at eo
  · rename_i i e1
    cases eo
    refine he.sd.share.run R _ e1 _ fun v H1 Ψ r1 => ?_
    have ow := r1.own
    cases ow
    refine ⟨by show 1 ≤ 1000; decide, fun a ha => ⟨a, C, .int i, rfl, Ex.F.T, Ex.F.no, upd_same, fun dx hdx ne => ⟨rfl, dx, [("line", .int i)], upd_same, ?_, ?_, ?_⟩⟩⟩
    · rw [upd_ne ne]; exact upd_same
    · rw [upd_ne ne] at hdx; exact hdx
    · rw [upd_ne ne] at hdx
      have x : Ext H1 (upd (del (upd (upd (upd H1 a (exo a C none)) dx (exd dx [("line", .int i)])) a (exo a C (some dx))) a) dx (.xd [("line", .int i)])) := fun b o eb => by
        have n1 : b ≠ dx := fun z => by rw [z, hdx] at eb; cases eb
        have n2 : b ≠ a := fun z => by rw [z, ha] at eb; cases eb
        rw [upd_ne n1, del_ne n2, upd_ne n2, upd_ne n1, upd_ne n2]
        exact eb
      obtain ⟨t', et, h⟩ := q Γ σ _ Φ (some dx) ((R.ext r1.ext).ext x) ⟨dx, .int i, rfl, upd_same, rfl, rfl⟩
      cases et
      rw [hcs] at h
      exact h
  · cases eo
end
end VL

/-! VL45: defs that may raise errors with a field: promise, x = f(..); defs that change an argument and may raise: f(x, ..), f(e, x, ..). -/
namespace VL
open PySem PySem.Spec L2
open PyProof.Rows hiding St
/-- what a def tells: a value, or an error, by its class's number, with what its field holds -/
inductive R2 where
  | ret (d : D) | exc (t : Nat) (w : Option D)
/-- the promise -/
def spY (K : PySem.W.Frag) (cs : Nat → Addr) (n r : Nat) (F : List D → Option R2) : Sp := fun vs H Q E => ∃ (ds : List D) (o : R2), ds.length = n ∧ OwnL K H (fun _ => True) 0 ds vs [] ∧ F ds = some o ∧
  (∀ d, o = .ret d → ∀ v H' Ψ, Ext H H' → (∀ a ∈ Ψ, H a = none) → Ψ.Nodup → (∀ N, Own K H' N r d v Ψ) → Q v H') ∧ (∀ t w, o = .exc t w → ∀ H' dx, Ext H H' → ExR H' w dx → E (.ref (cs t)) dx H')
def fnY (N : Nat) (F : Store → Option O) : List D → Option R2 := fun ds => match F (ds.map some ++ List.replicate (N - ds.length) none) with
  | some (.rt d _) => some (.ret d)
  | some (.nx _) => some (.ret .non)
  | some (.ex t w _) => some (.exc t w)
  | _ => none
section
variable {K : PySem.W.Frag} {P : Program} {w : World} {mg : Str → Option Value} {base : Heap} {cs : Nat → Addr}
theorem fn_okY {x qual : Str} {params : Arguments} {body : List Stmt} {scope : Scope} {dfl : List V} {kws : List (Str × V)} {f : Addr} {fd : FuncData} {N ps : List Str} {k r : Nat} {F : Store → Option O} (Fn : FunD K x qual params body scope dfl kws f fd) (S : FnScope N ps scope)
    (hb : ∀ (cdv : Value) (A : Around) (outer : List Env) (s : Shared) (H : Hp) (E : XK), Room k (A.deeper (envOfC qual scope s.heap.objs.size f cdv)) →
      ∃ t Γb Γ', Lv (cxOf (L2.CX P w) P w K mg base N qual scope f cdv A outer s H E) (wTag cs fun cls d _ H => E cls d H) (fun _ => 0) r (List.replicate N.length 0) Γb body Γ' F t) :
    FnOk P w K mg base (L2.CX P w) (k + 1) f fd ps (spY K cs ps.length r (fnY N.length F)) := by
  refine Fn.ok S (fun vs H Q E h => ?_) (fun cdv A outer s H vs Q E hr h => ?_)
  · obtain ⟨ds, d, hn, o, _⟩ := h
    rw [o.len, hn]
  · obtain ⟨ds, d, hn, o, e, q, qe⟩ := h
    obtain ⟨t, Γb, Γ', L⟩ := hb cdv A outer s H E hr
    refine ⟨t, L.pss, ?_⟩
    have hpl : ps.length ≤ N.length := by have := congrArg List.length S.pre; rw [List.length_take] at this; omega
    have gz : ∀ i, (List.replicate N.length 0).getD i 0 = 0 := fun i => by
      rw [List.getD_eq_getElem?_getD, List.getElem?_replicate]
      split <;> rfl
    have R : StR K ⟨H, fun _ => [], fun _ => .non, fun _ => 0, []⟩ (List.replicate N.length 0) (ds.map some ++ List.replicate (N.length - ds.length) none) (L2.start N vs) H (fun _ => []) := by
      refine ⟨?_, by rw [List.length_replicate, List.length_append, List.length_map, List.length_replicate]; omega, fun i d e => ?_, fun _ _ _ => rfl, fun _ => .nil, fun _ _ _ m => (nomatch m), fun _ _ m => (nomatch m), fun _ _ m => (nomatch m), .of_ext (.rfl' _), fun a o e => ⟨o, e⟩, fun i n => absurd rfl n, fun p m => (nomatch m)⟩
      · unfold L2.start
        rw [List.length_append, List.length_append, List.length_map, List.length_map, List.length_replicate, List.length_replicate, o.len]
      · obtain ⟨v, h1, h2⟩ := start_own o i d e
        refine ⟨v, h1, ?_⟩
        rw [gz i]
        exact h2.move (fun a o e _ => e) (fun a o e _ => ⟨e, fun j => List.not_mem_nil⟩) fun a m => (nomatch m)
    unfold fnY at e
    cases eo : F (ds.map some ++ List.replicate (N.length - ds.length) none) with
    | none => rw [eo] at e; cases e
    | some ob =>
      rw [eo] at e
      have base : ∀ {Γ ρ σ H' Φ}, StR K ⟨H, fun _ => [], fun _ => .non, fun _ => 0, []⟩ Γ ρ σ H' Φ → Ext H H' := fun R' a o e => R'.kp.kp a o e fun i n => absurd rfl n
      refine L.sd.run (E := ⟨H, fun _ => [], fun _ => .non, fun _ => 0, []⟩) rfl R ob eo _ ?_
      cases ob with
      | nx ρ' =>
        cases e
        exact fun σ' H' Φ' R' => q .non rfl .non H' [] (base R') (fun a m => (nomatch m)) .nil fun N => .non
      | rt d' ρ' =>
        cases e
        rintro v H' ⟨Γ2, σ2, Φ2, Ψ2, R2, _, new, nd, _, o2⟩
        exact q d' rfl v H' Ψ2 (base R2) new nd o2
      | bk ρ' => cases e
      | ct ρ' => cases e
      | ex C w ρ' =>
        cases e
        rintro Γ2 σ2 H' Φ2 dx R2 hx
        exact ⟨C, rfl, qe C w rfl H' dx (base R2) hx⟩
structure CalY (P : Program) (w : World) (K : PySem.W.Frag) (mg : Str → Option Value) (base : Heap) (cs : Nat → Addr) (k : Nat) (x : Str) (n r : Nat) (F : List D → Option R2) : Prop where
  ex : ∃ (f : Addr) (fd : FuncData) (ps : List Str), FnOk P w K mg base (L2.CX P w) k f fd ps (spY K cs n r F) ∧ mg x = some (.ref f) ∧ PySem.W.keepIn K (.ref f) = true ∧ Binds K fd ps []
theorem calY_mk {x qual : Str} {params : Arguments} {body : List Stmt} {scope : Scope} {f : Addr} {fd : FuncData} {N ps : List Str} {k r : Nat} {F : Store → Option O} (Fn : FunD K x qual params body scope [] [] f fd) (gf : mg x = some (.ref f)) (S : FnScope N ps scope)
    (hbd : ∀ (kV doc pm : Value) (an : Option Addr) (cdv ct : Value) (us : List Value), us.length = ps.length → bindArgs (PySem.W.fnOf x qual params body scope .none kV doc pm an cdv ct) ⟨us, []⟩ = pure (ps.zip us))
    (hb : ∀ (cdv : Value) (A : Around) (outer : List Env) (s : Shared) (H : Hp) (E : XK), Room k (A.deeper (envOfC qual scope s.heap.objs.size f cdv)) →
      ∃ t Γb Γ', Lv (cxOf (L2.CX P w) P w K mg base N qual scope f cdv A outer s H E) (wTag cs fun cls d _ H => E cls d H) (fun _ => 0) r (List.replicate N.length 0) Γb body Γ' F t) :
    CalY P w K mg base cs (k + 1) x ps.length r (fnY N.length F) := ⟨f, fd, ps, fn_okY Fn S hb, gf, Fn.kp, Fn.bindsN hbd⟩
/-- .. with one default -/
structure CalYD (P : Program) (w : World) (K : PySem.W.Frag) (mg : Str → Option Value) (base : Heap) (cs : Nat → Addr) (k : Nat) (x : Str) (n r : Nat) (F : List D → Option R2) (y : Str) (dd : D) (dv : V) : Prop where
  ex : ∃ (f : Addr) (fd : FuncData) (ps : List Str), FnOk P w K mg base (L2.CX P w) k f fd ps (spY K cs (n + 1) r F) ∧ mg x = some (.ref f) ∧ PySem.W.keepIn K (.ref f) = true ∧ DflOk K fd ps y dv ∧ ps.length = n + 1
  dv : Own K (fun _ => none) (fun _ => True) 0 dd dv []
theorem CalYD.c1 {k n r : Nat} {x y : Str} {F : List D → Option R2} {dd : D} {dv : V} (c : CalYD P w K mg base cs k x n r F y dd dv) : CalY P w K mg base cs k x (n + 1) r F := by
  obtain ⟨f, fd, ps, h1, h2, h3, h4, _⟩ := c.ex
  exact ⟨f, fd, ps, h1, h2, h3, h4.b1⟩
theorem calYD_mk {x qual : Str} {params : Arguments} {body : List Stmt} {scope : Scope} {f : Addr} {fd : FuncData} {N : List Str} {ps : List Str} {k r n : Nat} {F : Store → Option O} {y : Str} {dd : D} {dv : V} (Fn : FunD K x qual params body scope [dv] [] f fd) (gf : mg x = some (.ref f)) (S : FnScope N ps scope) (hn : ps.length = n + 1)
    (hd : Own K (fun _ => none) (fun _ => True) 0 dd dv []) (hb : DflOk K fd ps y dv)
    (hbd : ∀ (cdv : Value) (A : Around) (outer : List Env) (s : Shared) (H : Hp) (E : XK), Room k (A.deeper (envOfC qual scope s.heap.objs.size f cdv)) →
      ∃ t Γb Γ', Lv (cxOf (L2.CX P w) P w K mg base N qual scope f cdv A outer s H E) (wTag cs fun cls d _ H => E cls d H) (fun _ => 0) r (List.replicate N.length 0) Γb body Γ' F t) :
    CalYD P w K mg base cs (k + 1) x n r (fnY N.length F) y dd dv := by
  have fo := fn_okY Fn S hbd
  rw [hn] at fo
  exact ⟨⟨f, fd, ps, fo, gf, Fn.kp, hb, hn⟩, hd⟩
end
/-! ### x = f(..) -/
section
variable {X : Cx} {K : PySem.W.Frag} {mg : Str → Option Value} {P : Program} {w : World} {base : Heap} {Γ Γ' Γb B : List Nat} {W : WX} {I : Nat → Nat} {r : Nat} {cs : Nat → Addr} {e : Expr} {es : List Expr} {fa : Store → Option (List D)} {ta : TA}
def sSetY (k n : Nat) (F : List D → Option R2) (fa : Store → Option (List D)) : Store → Option O := fun ρ => match fa ρ with
  | some ds => if ds.length = n then (match F ds with
    | some (.ret d) => some (.nx (ρ.set k (some d)))
    | some (.exc t w) => some (.ex t w ρ)
    | none => none) else none
  | none => none
theorem s_setY {k0 q n m kk : Nat} {F : List D → Option R2} {x y : Str} {py p pc ps : Pos} (G : CalY P w K mg base cs q x n m F) (hr : Room kk X.A) (hqk : q ≤ kk) (tk : Takes X W) (hN : X.N.Nodup) (hk : X.N[k0]? = some y) (hg : Gl X x) (ha : Av X Γ (e :: es) 0 B fa ta) (hG : k0 < Γ.length) (hio : I k0 = 0) (hΓk : Γ.set k0 m = Γ' := by rfl)
    (hP : X.prog = P := by rfl) (hw : X.w = w := by rfl) (hK : X.K = K := by rfl) (hm : X.mg = mg := by rfl) (hb : X.base = base := by rfl)
    (hlx : Loc X.env.scope y := by first | exact Or.inl rfl | exact Or.inr rfl) (hs : swapsWith (.Call (.Name x p) (e :: es) [] pc) (some (.Name y py)) ps.line X.env = pure false := by rfl) (hf : X.fn y = true ∨ X.env.scope.names.lookup y = some .local := by first | exact .inl rfl | exact .inr rfl)
    (hdb : (x == ("__debug__" : Str)) = false := by decide) (he : starEach (e :: es) X.env = (false, eval e X.env) :: starEach es X.env := by rfl) (hpl : (backTo pc (starEach es X.env)).any (·.1) = false := by rfl) :
    Sv X (wTag cs W) I r Γ Γb (.Assign [.Name y py] (.Call (.Name x p) (e :: es) [] pc) ps) Γ' (sSetY k0 n F fa) (tAsg (tCallS (spY K cs n m F) (WE W) ta) (gName k0)) := by
  subst hP hw hK hm hb hΓk
  obtain ⟨f, fd, pl, Fn, hmf, hkf, hbf⟩ := G.ex
  refine ⟨ps_set hN hk hlx (pe_callS Fn (hr.mono hqk) hg hmf hkf hbf (fun σ => passAt tk σ) ha.pa hdb he hpl) hs hf, ⟨fun {E ρ σ H Φ} hI R o eo D qq => ?_⟩⟩
  unfold sSetY at eo
  split at eo
  · rename_i ds e1
    split at eo
    · rename_i hn
      refine ha.sd.sh R e1 _ fun vs H1 x1 o1 => ?_
      have own1 : OwnL X.K H1 (fun _ => True) 0 ds vs [] := o1.move (fun a o e _ => e) (fun a o e z => ⟨e, trivial⟩) fun a m => (nomatch m)
      split at eo
      · rename_i d e2
        cases eo
        refine ⟨ds, .ret d, hn, own1, e2, fun d' ed v H2 Ψ x2 new nd ow => ?_, fun t w' et => by cases et⟩
        cases ed
        exact qq _ _ _ (R.set (i := k0) (m := m) (res_of (B := []) R x1 x2 new nd (ow _)) hG (by rw [hI]; exact hio))
      · rename_i t w' e2
        cases eo
        refine ⟨ds, .exc t w', hn, own1, e2, fun d' ed => (by cases ed), fun t2 w2 et H2 dx x2 hx => ?_⟩
        cases et
        obtain ⟨t', et, h⟩ := qq Γ σ H2 Φ dx ((R.ext x1).ext x2) hx
        cases et
        exact h
      · cases eo
    · cases eo
  · cases eo
end
/-! ### defs that change an argument and may raise -/
/-- what becomes of a store whose slot i is lost -/
theorem StR.lose {K : PySem.W.Frag} {E : Entry} {Γ : List Nat} {ρ : Store} {σ : St} {H H' : Hp} {Φ : Nat → List Addr} (i : Nat) (R : StR K E Γ ρ σ H Φ) (kp : Kp (fun a => a ∉ Φ i) H H') (dm : ∀ a o, H a = some o → ∃ o', H' a = some o') (hl : ∀ a, a ∈ Φ i → E.H0 a ≠ none → True) : StR K E (Γ.set i 0) (ρ.set i none) σ H' (fun j => if j = i then [] else Φ j) := by
  have up : ∀ a, (∀ j, a ∉ Φ j) → ∀ j, a ∉ (if j = i then [] else Φ j) := fun a z j => by
    split
    · exact List.not_mem_nil
    · exact z j
  refine ⟨by rw [List.length_set]; exact R.len, by rw [List.length_set, List.length_set]; exact R.gl, fun j d e => ?_, fun j lj e => ?_, fun j => ?_, fun j k a h1 h2 => ?_, fun j a h => ?_, fun j a h => ?_, ?_, fun a o e => ?_, R.iv, fun p m => (R.gh p m).move kp.tp (fun a o e z => ⟨kp.kp a o e (z i), up a z⟩) fun a m => (nomatch m)⟩
  · by_cases hj : j = i
    · subst hj
      rw [List.getElem?_set] at e
      split at e
      · split at e <;> cases e
      · rename_i z; exact absurd rfl z
    · rw [List.getElem?_set_ne (Ne.symm hj)] at e
      obtain ⟨v, h1, h2⟩ := R.val j d e
      refine ⟨v, h1, ?_⟩
      rw [if_neg hj]
      have g : (Γ.set i 0).getD j 0 = Γ.getD j 0 := by
        rw [List.getD_eq_getElem?_getD, List.getD_eq_getElem?_getD, List.getElem?_set_ne (Ne.symm hj)]
      rw [g]
      exact h2.move kp.tp (fun a o e z => ⟨kp.kp a o e (z i), up a z⟩) fun a m o e => kp.kp a o e fun m' => hj (R.dj j i a m m')
  · show (if j = i then [] else Φ j) = []
    split
    · rfl
    · rename_i hj
      refine R.em j (by rw [List.length_set] at lj; exact lj) ?_
      rw [List.getD_eq_getElem?_getD, List.getElem?_set_ne (Ne.symm hj), ← List.getD_eq_getElem?_getD] at e
      exact e
  · show (if j = i then [] else Φ j).Nodup
    split
    · exact .nil
    · exact R.nd j
  · have h1 : a ∈ (if j = i then [] else Φ j) := h1
    have h2 : a ∈ (if k = i then [] else Φ k) := h2
    split at h1
    · cases h1
    · split at h2
      · cases h2
      · exact R.dj j k a h1 h2
  · have h : a ∈ (if j = i then [] else Φ j) := h
    split at h
    · cases h
    · rename_i hj
      obtain ⟨o, e, t⟩ := R.lv j a h
      exact ⟨o, kp.kp a o e fun m' => hj (R.dj j i a h m'), t⟩
  · have h : a ∈ (if j = i then [] else Φ j) := h
    split at h
    · cases h
    · exact R.nw j a h
  · refine ⟨fun a o e z => ?_, fun a o e z => kp.tp a o (R.kp.tp a o e z) z⟩
    refine kp.kp a o (R.kp.kp a o e z) fun m => ?_
    rcases R.nw i a m with q | ⟨q1, q2⟩
    · rw [e] at q; cases q
    · exact z i q1 q2
  · obtain ⟨o1, e1⟩ := R.dm a o e
    exact dm a o1 e1
/-- the promise: n arguments, the q-th is changed to F of all, or an error -/
def spZ (K : PySem.W.Frag) (cs : Nat → Addr) (q n : Nat) (F : List D → Option R2) : Sp := fun vs H Q E => ∃ (ds : List D) (o : R2) (v0 : V) (fp : List Addr), ds.length = n ∧ vs.length = n ∧ q < n ∧ vs[q]? = some v0 ∧ fp.Nodup ∧ (∀ i d, ds[i]? = some d → ∃ v, vs[i]? = some v ∧ Own K H (fun a => a ∉ fp) (if i = q then 1 else 0) d v (if i = q then fp else [])) ∧ F ds = some o ∧
  (∀ d', o = .ret d' → ∀ H' Ψ, Kp (fun a => a ∉ fp) H H' → (∀ a o, H a = some o → ∃ o', H' a = some o') → Ψ.Nodup → (∀ a ∈ Ψ, a ∈ fp ∨ H a = none) → (∀ N, Own K H' N 1 d' v0 Ψ) → Q .non H') ∧
  (∀ t w, o = .exc t w → ∀ H' dx, Kp (fun a => a ∉ fp) H H' → (∀ a o, H a = some o → ∃ o', H' a = some o') → ExR H' w dx → E (.ref (cs t)) dx H')
def fnZ (q N : Nat) (F : Store → Option O) : List D → Option R2 := fun ds => match F (ds.map some ++ List.replicate (N - ds.length) none) with
  | some (.rt .non ρ) => (match eVar q ρ with | some d => if d.immB 1 = true then some (.ret d) else none | none => none)
  | some (.nx ρ) => (match eVar q ρ with | some d => if d.immB 1 = true then some (.ret d) else none | none => none)
  | some (.ex t w _) => some (.exc t w)
  | _ => none
section
variable {P : Program} {w : World} {mg : Str → Option Value} {base : Heap} {K : PySem.W.Frag} {cs : Nat → Addr}
theorem fn_okZ {x qual : Str} {params : Arguments} {body : List Stmt} {scope : Scope} {dfl : List V} {kws : List (Str × V)} {f : Addr} {fd : FuncData} {N ps : List Str} {k p : Nat} {F : Store → Option O} (Fn : FunD K x qual params body scope dfl kws f fd) (S : FnScope N ps scope) (hp : p < ps.length)
    (hb : ∀ (cdv : Value) (A : Around) (outer : List Env) (s : Shared) (H : Hp) (E : XK), Room k (A.deeper (envOfC qual scope s.heap.objs.size f cdv)) →
      ∃ t Γb Γ', Γ'.getD p 0 = 1 ∧ Lv (cxOf (L2.CX P w) P w K mg base N qual scope f cdv A outer s H E) (wTag cs fun cls d _ H => E cls d H) (ioI p) 0 ((List.replicate N.length 0).set p 1) Γb body Γ' F t) :
    FnOk P w K mg base (L2.CX P w) (k + 1) f fd ps (spZ K cs p ps.length (fnZ p N.length F)) := by
  refine Fn.ok S (fun vs H Q E h => ?_) (fun cdv A outer s H vs Q E hr h => ?_)
  · obtain ⟨ds, ob, v0, fp, _, hl, _⟩ := h
    exact hl
  · obtain ⟨ds, oR, v0, fp, hn, hl, hq, hv0, ndf, o, e, q, qe⟩ := h
    obtain ⟨t, Γb, Γ', hΓ, L⟩ := hb cdv A outer s H E hr
    refine ⟨t, L.pss, ?_⟩
    have hpl : ps.length ≤ N.length := by have := congrArg List.length S.pre; rw [List.length_take] at this; omega
    have gz : ∀ i, ((List.replicate N.length 0).set p 1).getD i 0 = if i = p then 1 else 0 := fun i => by
      rw [List.getD_eq_getElem?_getD, List.getElem?_set]
      by_cases h : p = i
      · subst h
        rw [if_pos rfl, if_pos rfl, if_pos (by rw [List.length_replicate]; omega)]; rfl
      · rw [if_neg h, if_neg (fun z => h z.symm), List.getElem?_replicate]
        split <;> rfl
    obtain ⟨Φ, hΦ⟩ : ∃ Φ : Nat → List Addr, Φ = fun i => if i = p then fp else [] := ⟨_, rfl⟩
    have Φ0 : Φ p = fp := by rw [hΦ]; exact if_pos rfl
    have Φs : ∀ i, i ≠ p → Φ i = [] := fun i n => by rw [hΦ]; exact if_neg n
    have nn : ∀ a, a ∉ fp → ∀ j, a ∉ Φ j := fun a z j m => by
      by_cases j0 : j = p
      · rw [j0, Φ0] at m; exact z m
      · rw [Φs j j0] at m; cases m
    have io0 : ∀ i, ioI p i ≠ 0 → i = p := fun i n => Classical.byContradiction fun z => n (if_neg z)
    have iop : ioI p p ≠ 0 := by unfold ioI; rw [if_pos rfl]; decide
    obtain ⟨En, hEn⟩ : ∃ En : Entry, En = ⟨H, Φ, fun _ => v0, ioI p, []⟩ := ⟨_, rfl⟩
    have R : StR K En ((List.replicate N.length 0).set p 1) (ds.map some ++ List.replicate (N.length - ds.length) none) (L2.start N vs) H Φ := by
      rw [hEn]
      refine ⟨?_, ?_, fun i d e => ?_, fun i _ g => ?_, fun i => ?_, fun i j a m m' => ?_, fun i a m => ?_, fun i a m => ?_, .of_ext (.rfl' _), fun a o e => ⟨o, e⟩, fun i n => ?_, fun p m => (nomatch m)⟩
      · unfold L2.start
        rw [List.length_append, List.length_append, List.length_map, List.length_map, List.length_replicate, List.length_replicate, hl, hn]
      · rw [List.length_set, List.length_append, List.length_map, List.length_replicate, List.length_replicate]; omega
      · have hi : ds[i]? = some d := by
          by_cases h : i < ds.length
          · rw [List.getElem?_append_left (by simpa using h), List.getElem?_map] at e
            cases e2 : ds[i]? with
            | none => rw [e2] at e; cases e
            | some d2 => rw [e2] at e; cases e; rfl
          · rw [List.getElem?_append_right (by simpa using h), List.getElem?_replicate] at e
            split at e <;> cases e
        obtain ⟨v, h1, h2⟩ := o i d hi
        refine ⟨v, ?_, ?_⟩
        · unfold L2.start
          rw [List.getElem?_append_left (by rw [List.length_map]; exact lt_of_some h1), List.getElem?_map, h1]; rfl
        · rw [gz i]
          have eΦ : Φ i = if i = p then fp else [] := by rw [hΦ]
          rw [eΦ]
          exact h2.move (fun a o e _ => e) (fun a o e z => ⟨e, nn a z⟩) fun a _ o e => e
      · by_cases i0 : i = p
        · rw [gz i, if_pos i0] at g; cases g
        · exact Φs i i0
      · by_cases i0 : i = p
        · rw [i0, Φ0]; exact ndf
        · rw [Φs i i0]; exact .nil
      · by_cases i0 : i = p
        · by_cases j0 : j = p
          · rw [i0, j0]
          · rw [Φs j j0] at m'; cases m'
        · rw [Φs i i0] at m; cases m
      · by_cases i0 : i = p
        · rw [i0, Φ0] at m
          have hd : p < ds.length := by omega
          obtain ⟨v, h1, h2⟩ := o p _ (List.getElem?_eq_getElem hd)
          rw [if_pos rfl, if_pos rfl] at h2
          exact h2.live a m
        · rw [Φs i i0] at m; cases m
      · by_cases i0 : i = p
        · subst i0; exact .inr ⟨iop, m⟩
        · rw [Φs i i0] at m; cases m
      · rw [io0 i n]
        unfold L2.start
        rw [List.getElem?_append_left (by rw [List.length_map]; exact lt_of_some hv0), List.getElem?_map, hv0]; rfl
    have kpd : ∀ {Γ2 : List Nat} {ρ' : Store} {σ' : St} {H' : Hp} {Φ' : Nat → List Addr}, StR K En Γ2 ρ' σ' H' Φ' → Kp (fun a => a ∉ fp) H H' ∧ ∀ a o, H a = some o → ∃ o', H' a = some o' := fun {Γ2 ρ' σ' H' Φ'} R' => by
      refine ⟨?_, ?_⟩
      · have := R'.kp
        rw [hEn] at this
        exact this.mono fun a z i n => by rw [io0 i n]; show a ∉ Φ p; rw [Φ0]; exact z
      · have := R'.dm; rw [hEn] at this; exact this
    have fin : ∀ {d' : D} {Γ2 : List Nat} {ρ' : Store} {σ' : St} {H' : Hp} {Φ' : Nat → List Addr}, oR = .ret d' → Γ2.getD p 0 = 1 → StR K En Γ2 ρ' σ' H' Φ' → eVar p ρ' = some d' → d'.immB 1 = true → Q .non H' := fun {d' Γ2 ρ' σ' H' Φ'} eR g R' ed im => by
      obtain ⟨v, h1, h2⟩ := R'.val p d' (eVar_some ed)
      have h3 := R'.iv p (by rw [hEn]; exact iop)
      rw [h1] at h3
      have ev : v = v0 := by rw [hEn] at h3; cases h3; rfl
      subst ev
      rw [g] at h2
      refine q d' eR H' (Φ' p) (kpd R').1 (kpd R').2 (R'.nd p) (fun a m => ?_) fun M => h2.immB im
      · rcases R'.nw p a m with z | z
        · rw [hEn] at z; exact .inr z
        · rw [hEn] at z
          have z2 : a ∈ Φ p := z.2
          rw [Φ0] at z2; exact .inl z2
    unfold fnZ at e
    cases eo : F (ds.map some ++ List.replicate (N.length - ds.length) none) with
    | none => rw [eo] at e; cases e
    | some ob =>
      rw [eo] at e
      refine L.sd.run (E := En) (by rw [hEn]) R ob eo _ ?_
      cases ob with
      | nx ρ' =>
        dsimp only at e
        split at e
        · rename_i d2 e2
          split at e
          · rename_i im
            cases e
            exact fun σ' H' Φ' R' => fin rfl hΓ R' e2 im
          · cases e
        · cases e
      | rt d2 ρ' =>
        cases d2 with
        | non =>
          dsimp only at e
          split at e
          · rename_i d2 e2
            split at e
            · rename_i im
              cases e
              rintro v H' ⟨Γ2, σ2, Φ2, Ψ2, R2, g2, _, _, _, o2⟩
              have ov := o2 (fun _ => True)
              cases ov
              exact fin rfl ((g2 p (by rw [hEn]; exact iop)).trans (by rw [hEn]; exact if_pos rfl)) R2 e2 im
            · cases e
          · cases e
        | _ => cases e
      | bk ρ' => cases e
      | ct ρ' => cases e
      | ex C w ρ' =>
        cases e
        rintro Γ2 σ2 H' Φ2 dx R2 hx
        exact ⟨C, rfl, qe C w rfl H' dx (kpd R2).1 (kpd R2).2 hx⟩
structure CalZ (P : Program) (w : World) (K : PySem.W.Frag) (mg : Str → Option Value) (base : Heap) (cs : Nat → Addr) (k : Nat) (x : Str) (q n : Nat) (F : List D → Option R2) : Prop where
  ex : ∃ (f : Addr) (fd : FuncData) (ps : List Str), FnOk P w K mg base (L2.CX P w) k f fd ps (spZ K cs q n F) ∧ mg x = some (.ref f) ∧ PySem.W.keepIn K (.ref f) = true ∧ Binds K fd ps []
theorem calZ_mk {x qual : Str} {params : Arguments} {body : List Stmt} {scope : Scope} {f : Addr} {fd : FuncData} {N ps : List Str} {k q : Nat} {F : Store → Option O} (Fn : FunD K x qual params body scope [] [] f fd) (gf : mg x = some (.ref f)) (S : FnScope N ps scope)
    (hbd : ∀ (kV doc pm : Value) (an : Option Addr) (cdv ct : Value) (us : List Value), us.length = ps.length → bindArgs (PySem.W.fnOf x qual params body scope .none kV doc pm an cdv ct) ⟨us, []⟩ = pure (ps.zip us)) (hq : q < ps.length)
    (hb : ∀ (cdv : Value) (A : Around) (outer : List Env) (s : Shared) (H : Hp) (E : XK), Room k (A.deeper (envOfC qual scope s.heap.objs.size f cdv)) →
      ∃ t Γb Γ', Γ'.getD q 0 = 1 ∧ Lv (cxOf (L2.CX P w) P w K mg base N qual scope f cdv A outer s H E) (wTag cs fun cls d _ H => E cls d H) (ioI q) 0 ((List.replicate N.length 0).set q 1) Γb body Γ' F t) :
    CalZ P w K mg base cs (k + 1) x q ps.length (fnZ q N.length F) := ⟨f, fd, ps, fn_okZ Fn S hq hb, gf, Fn.kp, Fn.bindsN hbd⟩
end
section
variable {X : Cx} {K : PySem.W.Frag} {Γ : List Nat} {W : WX} {I : Nat → Nat} {r k m : Nat} {B B0 Γb : List Nat} {e0 : Expr} {es : List Expr} {f0 : Store → Option D} {fa : Store → Option (List D)} {t0 : TE} {ta : TA} {pos p : Pos} {cs : Nat → Addr}
/-- f(.., x, ..), x the slot i: the arguments ahead fb, behind fa -/
def sCallZ (i n : Nat) (F : List D → Option R2) (fb fa : Store → Option (List D)) : Store → Option O := fun ρ => match fb ρ with
  | some bs => (match eVar i ρ with
    | some d0 => (match fa ρ with
      | some ds => if bs.length + (ds.length + 1) = n then (match F (bs ++ d0 :: ds) with
        | some (.ret d') => some (.nx (ρ.set i (some d')))
        | some (.exc t w) => some (.ex t w (ρ.set i none))
        | none => none) else none
      | none => none)
    | none => none)
  | none => none
theorem sd_callZ {i n q : Nat} {F : List D → Option R2} {fb : Store → Option (List D)} {tb : TA} (hq : ∀ (ρ : Store) (bs : List D), fb ρ = some bs → bs.length = q) (hm : Γ.getD i 0 = 1) (iB0 : i ∉ B0) (iB : i ∉ B)
    (hb : ∀ {E : Entry} {ρ : Store} {σ : St} {H : Hp} {Φ : Nat → List Addr}, StR K E Γ ρ σ H Φ → ∀ bs, fb ρ = some bs → ∀ (D0 : List V → Hp → Prop), (∀ vs H1, Ext H H1 → OwnL K H1 (fun a => (∃ o, H1 a = some o) ∧ ∀ j, j ∉ B0 → a ∉ Φ j) 0 bs vs [] → (tCons (tVar i) ta) σ H1 fun us H2 => D0 (vs ++ us) H2) → tb σ H D0) (ha : SdA K Γ ta 0 B fa) : SdS K (wTag cs W) I r Γ Γb Γ (tDrop (tCallS (spZ K cs q n F) (WE W) tb)) (sCallZ i n F fb fa) := by
  refine ⟨fun {E ρ σ H Φ} hI R o e D qq => ?_⟩
  unfold sCallZ at e
  split at e
  · rename_i bs eb
    split at e
    · rename_i d0 e0
      split at e
      · rename_i ds e1
        split at e
        · rename_i hn
          refine hb R bs eb _ fun vb H0 x0 o1 => ?_
          have R0 := R.ext x0
          obtain ⟨v, h1, h2⟩ := R0.val i _ (eVar_some e0)
          refine ⟨v, h1, ?_⟩
          refine ha.sh R0 e1 _ fun vs H1 x o => ?_
          have R1 := R0.ext x
          obtain ⟨v', h1', h2'⟩ := R1.val i _ (eVar_some e0)
          rw [h1] at h1'
          cases h1'
          rw [hm] at h2'
          have o1' : OwnL K H1 (fun a => a ∉ Φ i) 0 bs vb [] := o1.move (fun a o e _ => x a o e) (fun a o e z => ⟨x a o e, z.2 i iB0⟩) fun a m => (nomatch m)
          have o2' : Own K H1 (fun a => a ∉ Φ i) 1 d0 v (Φ i) := h2'.move (fun a o e _ => e) (fun a o e z => ⟨e, z i⟩) fun a _ o e => e
          have o3' : OwnL K H1 (fun a => a ∉ Φ i) 0 ds vs [] := o.move (fun a o e _ => e) (fun a o e z => ⟨e, z.2 i iB⟩) fun a m => (nomatch m)
          have lq : bs.length = q := hq ρ bs eb
          have lb : vb.length = bs.length := o1'.len
          have gv : (vb ++ v :: vs)[q]? = some v := by rw [List.getElem?_append_right (by omega)]; rw [show q - vb.length = 0 by omega]; rfl
          have args : ∀ j d, (bs ++ d0 :: ds)[j]? = some d → ∃ v1, (vb ++ v :: vs)[j]? = some v1 ∧ Own K H1 (fun a => a ∉ Φ i) (if j = q then 1 else 0) d v1 (if j = q then Φ i else []) := fun j d ej => by
            by_cases c1 : j < bs.length
            · rw [List.getElem?_append_left c1] at ej
              obtain ⟨u, u1, u2⟩ := o1'.get0 (i := j) ej
              exact ⟨u, by rw [List.getElem?_append_left (by omega)]; exact u1, by rw [if_neg (by omega), if_neg (by omega)]; exact u2⟩
            · rw [List.getElem?_append_right (by omega)] at ej
              by_cases c2 : j = q
              · subst c2
                rw [show j - bs.length = 0 by omega] at ej
                cases ej
                exact ⟨v, gv, by rw [if_pos rfl, if_pos rfl]; exact o2'⟩
              · obtain ⟨j2, ej2⟩ : ∃ j2, j - bs.length = j2 + 1 := ⟨j - bs.length - 1, by omega⟩
                rw [ej2] at ej
                obtain ⟨u, u1, u2⟩ := o3'.get0 (i := j2) ej
                exact ⟨u, by rw [List.getElem?_append_right (by omega), show j - vb.length = j2 + 1 by omega]; exact u1, by rw [if_neg c2, if_neg c2]; exact u2⟩
          have ln1 : (bs ++ d0 :: ds).length = n := by rw [List.length_append, List.length_cons]; exact hn
          have ln2 : (vb ++ v :: vs).length = n := by rw [List.length_append, List.length_cons, lb, o3'.len]; exact hn
          split at e
          · rename_i d' e2
            cases e
            refine ⟨bs ++ d0 :: ds, .ret d', v, Φ i, ln1, ln2, by omega, gv, R1.nd i, args, e2, fun d2 ed H2 Ψ kp dm nd src own => ?_, fun t w' et => by cases et⟩
            cases ed
            refine qq _ _ _ (R1.mut (i := i) (v := v) (Ψ := Ψ) h1 (by rw [hm]; decide) (fun a o e n => kp.kp a o e n) dm ?_ nd src)
            rw [hm]
            exact own _
          · rename_i t w' e2
            cases e
            refine ⟨bs ++ d0 :: ds, .exc t w', v, Φ i, ln1, ln2, by omega, gv, R1.nd i, args, e2, fun d2 ed => (by cases ed), fun t2 w2 et H2 dx kp dm hx => ?_⟩
            cases et
            obtain ⟨t', et, h⟩ := qq _ σ H2 _ dx (R1.lose i kp dm fun _ _ _ => trivial) hx
            cases et
            exact h
          · cases e
        · cases e
      · cases e
    · cases e
  · cases e
theorem s_callZ0 {j n i : Nat} {F : List D → Option R2} {x y : Str} {py pc ps : Pos} (c : CalZ X.prog X.w X.K X.mg X.base cs k x 0 n F) (hr : Room j X.A) (hkj : k ≤ j) (tk : Takes X W) (hg : Gl X x) (hN : X.N[i]? = some y) (hm : Γ.getD i 0 = 1) (iB : i ∉ B) (ha : Av X Γ es 0 B fa ta)
    (hv : Vis X.env.scope y := by first | exact Or.inl rfl | exact Or.inr (Or.inl rfl) | exact Or.inr (Or.inr rfl)) (hd : (y == ("__debug__" : Str)) = false := by decide) (hcd : (y == ("__classdict__" : Str)) = false := by decide)
    (hdb : (x == ("__debug__" : Str)) = false := by decide) (he : starEach (.Name y py :: es) X.env = (false, eval (.Name y py) X.env) :: starEach es X.env := by rfl) (hpl : (backTo pc (starEach es X.env)).any (·.1) = false := by rfl) (hs : swapsWith (.Call (.Name x p) (.Name y py :: es) [] pc) none ps.line X.env = pure false := by rfl) :
    Sv X (wTag cs W) I r Γ Γb (.Expr (.Call (.Name x p) (.Name y py :: es) [] pc) ps) Γ (sCallZ i n F aNil fa) (tDrop (tCallS (spZ X.K cs 0 n F) (WE W) (tCons (tVar i) ta))) := by
  obtain ⟨f, fd, pl, G, hmm, hk, hb⟩ := c.ex
  exact ⟨ps_expr (pe_callS G (hr.mono hkj) hg hmm hk hb (fun σ => passAt tk σ) (pa_cons (pe_var hN hv hd hcd) ha.pa he) hdb he hpl) hs,
    sd_callZ (B0 := []) (fun ρ bs e => by cases e; rfl) hm List.not_mem_nil iB (fun R bs e D0 q => by cases e; exact q [] _ (.rfl' _) .nil) ha.sd⟩
theorem s_callZ1 {j n i : Nat} {F : List D → Option R2} {x y : Str} {py pc ps : Pos} (c : CalZ X.prog X.w X.K X.mg X.base cs k x 1 n F) (hr : Room j X.A) (hkj : k ≤ j) (tk : Takes X W) (hg : Gl X x) (hN : X.N[i]? = some y) (hm : Γ.getD i 0 = 1) (iB0 : i ∉ B0) (iB : i ∉ B) (h0 : Ev X Γ e0 m B0 f0 t0) (ha : Av X Γ es 0 B fa ta)
    (hv : Vis X.env.scope y := by first | exact Or.inl rfl | exact Or.inr (Or.inl rfl) | exact Or.inr (Or.inr rfl)) (hd : (y == ("__debug__" : Str)) = false := by decide) (hcd : (y == ("__classdict__" : Str)) = false := by decide)
    (hdb : (x == ("__debug__" : Str)) = false := by decide) (he0 : starEach (e0 :: .Name y py :: es) X.env = (false, eval e0 X.env) :: starEach (.Name y py :: es) X.env := by rfl) (he : starEach (.Name y py :: es) X.env = (false, eval (.Name y py) X.env) :: starEach es X.env := by rfl) (hpl : (backTo pc (starEach (.Name y py :: es) X.env)).any (·.1) = false := by rfl) (hs : swapsWith (.Call (.Name x p) (e0 :: .Name y py :: es) [] pc) none ps.line X.env = pure false := by rfl) :
    Sv X (wTag cs W) I r Γ Γb (.Expr (.Call (.Name x p) (e0 :: .Name y py :: es) [] pc) ps) Γ (sCallZ i n F (aCons f0 aNil) fa) (tDrop (tCallS (spZ X.K cs 1 n F) (WE W) (tCons t0 (tCons (tVar i) ta)))) := by
  obtain ⟨f, fd, pl, G, hmm, hk, hb⟩ := c.ex
  refine ⟨ps_expr (pe_callS G (hr.mono hkj) hg hmm hk hb (fun σ => passAt tk σ) (pa_cons h0.pe (pa_cons (pe_var hN hv hd hcd) ha.pa he) he0) hdb he0 hpl) hs,
    sd_callZ (B0 := B0) (fun ρ bs e => ?_) hm iB0 iB (fun {E ρ σ H Φ} R bs e D0 q => ?_) ha.sd⟩
  · unfold aCons at e
    split at e
    · cases e; rfl
    · cases e
  · unfold aCons at e
    split at e
    · rename_i d1 e1
      cases e
      exact h0.sd.sh R e1 _ fun v1 H1 x1 o1 => q [v1] H1 x1 (.cons (fp := []) (fps := []) o1 .nil)
    · cases e
end
end VL

/-! VL46: try: .. except C as e: y = [isinstance(e, ..), ..]; y = y + [..]; z = e.line; with further clauses that are never looked at. -/
namespace VL
open PySem PySem.Spec L2
open PyProof.Rows hiding St
/-! ### a named first clause that takes whatever comes; further ones behind it -/
def dGone (i : Nat) (D : Ends) : Ends := { nx := fun σ H => D.nx (σ.set i none) H, rt := D.rt, bk := fun σ H => D.bk (σ.set i none) H, ct := fun σ H => D.ct (σ.set i none) H }
def wAs1 (K : PySem.W.Frag) (c : Value) (i : Nat) (ts : Addr → Value → Option Addr → TS) (D : Ends) : WX := fun cls d σ H =>
  PySem.W.exmOne K cls c = some true ∧ ∀ a, H a = none → ts a cls d (dGone i D) (σ.set i (some (.ref a))) H
section
variable {X : Cx} {x n : Str} {c : Value} {i : Nat} {body suite : List Stmt} {b₀ : Stmt} {np pos pos' : Pos} {tb : WX → TS} {ts : Addr → Value → Option Addr → TS} {hrest : List ExceptHandler}
/-- the suite's end, seen from outside: the name goes, the pinned error is let go -/
theorem after_suite {a : Addr} {oe : Obj} {pins : List (Addr × Obj)} {D : Ends} {s : Shared} (ok : X.Ok) (hN : X.N.Nodup) (hi : X.N[i]? = some n) (hln : X.env.kindOf n = some .local) : ∀ (fl : Flow), SP (X.suite a ((a, oe) :: (X.pn ++ pins))) [] (dGone i D) fl s →
    wpAny (model X.prog X.w) X.A (do bindName X.env n .none; unbindBehindTheSuite X.env n pos') (fun _ s7 => SP X pins D fl s7) X.xe s
  | .next, ⟨_, _, I, q⟩ => gone_ok (I.unsuite ok) hN hi hln fun _ J => ⟨_, _, J, q⟩
  | .brk, ⟨_, _, I, q⟩ => gone_ok (I.unsuite ok) hN hi hln fun _ J => ⟨_, _, J, q⟩
  | .cont, ⟨_, _, I, q⟩ => gone_ok (I.unsuite ok) hN hi hln fun _ J => ⟨_, _, J, q⟩
  | .ret _, ⟨_, _, _, I, rv, q⟩ => gone_ok (I.unsuite ok) hN hi hln fun _ J => ⟨_, _, _, J, rv, q⟩
/-- an error that the first clause names, on its way: the suite is walked; the clauses behind it are not asked -/
theorem caught1 (hs : X.stack = X.env :: X.outer) (hf : X.env.frame = some X.env.locals) (hN : X.N.Nodup) (hi : X.N[i]? = some n) (hln : X.env.kindOf n = some .local) (hc : Names X x c)
    (hsu : ∀ (a : Addr) (oe : Obj) (cls : Value) (d : Option Addr) (pn : List (Addr × Obj)), Zc cls d oe → (∃ vs, oe.data = .fields vs) → PSs (X.suite a ((a, oe) :: pn)) (b₀ :: suite) (ts a cls d))
    {pins : List (Addr × Obj)} {D : Ends} (ok : X.Ok) {e : Value} {s : Shared} {xe : Value → Shared → Prop} (xx : XE (X.tr (X.pn ++ pins) xe) (wAs1 X.K c i ts D) e s) :
    wpAny (model X.prog X.w) X.A (noteFrame e X.env) (fun _ s₂ => wpAny (model X.prog X.w) X.A (setFlight e none) (fun _ s₃ => wpAny (model X.prog X.w) X.A (handleBy e X.env (.ExceptHandler (some (.Name x np)) (some n) (b₀ :: suite) pos' :: hrest)) (SP X pins D) X.xe s₃) X.xe s₂) X.xe s := by
  obtain ⟨a, B, sI, pins', σ, H, cls, d, rfl, J', nb, up, sky, na, os, ag, hx, hgo⟩ := xx
  have J : Inv X pins σ H sI := J'.ofTry ok
  have fr : X.A.frames = some (X.env :: X.outer) := by rw [ok.frames, hs]
  rw [show (X.tr (X.pn ++ pins) xe).stack = X.env :: X.outer from hs] at sky
  refine Sky.land Zc.steady fr hf sky fun h3 fl3 up3 => ?_
  -- the error's object is none of the frames
  have apart : ∀ {h : Heap} {o : Obj} {vs : Array Value}, h.FunFrames B (X.env :: X.outer) → h.get? a = some o → o.data = .fields vs → a ≠ X.env.locals ∧ a ∉ X.fs := fun {h o vs} ff eo ed => by
    have z : a ∉ frs (X.env :: X.outer) := fun hm => by
      obtain ⟨_, o', e', no⟩ := ff.mem hm
      rw [eo] at e'
      cases e'
      exact no _ ed
    refine ⟨fun q => z (List.mem_filterMap.mpr ⟨X.env, List.mem_cons_self, by rw [hf, q]⟩), fun hm => ?_⟩
    obtain ⟨y, hy, q⟩ := List.mem_filterMap.mp hm
    exact z (List.mem_filterMap.mpr ⟨y, List.mem_cons_of_mem _ hy, q⟩)
  have inSuite : ∀ {h : Heap}, HandSPX.FlyingZ B (X.env :: X.outer) a (Zc cls d) h → s.heap.UpToSlots h → ∃ (oe : Obj), h.get? a = some oe ∧ Zc cls d oe ∧ (∃ vs, oe.data = .fields vs) ∧ Inv (X.suite a ((a, oe) :: (X.pn ++ pins))) [] σ H { s with heap := h } ∧ Inv X pins σ H { s with heap := h } := fun {h} fl u => by
    have Jh : Inv X pins σ H { s with heap := h } := J.landed nb fl.1 (up.trans u) os ag
    obtain ⟨oe, vs, he, hz, hd⟩ := fl.there
    obtain ⟨z1, z2⟩ := apart fl.2.2.1 he hd
    exact ⟨oe, he, hz, ⟨vs, hd⟩, Jh.suite he hd na z1 z2, Jh⟩
  obtain ⟨oe3, he3, hz3, _, S3, J3⟩ := inSuite fl3 up3
  refine wpAny_handleBy_cons (codeAny_handlers_test ?_) (by intro q; cases q)
  have LT : PySem.W.Looks (model X.prog X.w) h3 (typeOf (.ref a)) cls := fun A Q E s k q => wpAny_typeOf_ref (k _ _ he3) (by rw [hz3.1]; exact q)
  have named : ∀ {Q : Value → Shared → Prop} {E : Value → Shared → Prop}, Q c { s with heap := h3 } → wpAny (model X.prog X.w) (X.A.mark (some (.ref a))) (eval (.Name x np) X.env) Q E { s with heap := h3 } := fun {Q E} q => by
    obtain ⟨hg, hdb, hm | ⟨hm, hv, hnn⟩⟩ := hc
    · exact ld_glob (X := X.suite a ((a, oe3) :: (X.pn ++ pins))) S3 hg hm q hdb
    · exact ld_blt (X := X.suite a ((a, oe3) :: (X.pn ++ pins))) S3 hg hm hv q hnn hdb
  refine named ((PySem.W.exm_one (M := model X.prog X.w) J3.kIn LT hx).here ?_)
  refine codeAny_handlers_suite_as (HandSPX.lands_againZ fl3 fun h4 fl4 up4 => ?_)
  obtain ⟨oe4, he4, hz4, hd4, S4, _⟩ := inSuite fl4 (up3.trans up4)
  refine store_ok (X := X.suite a ((a, oe4) :: (X.pn ++ pins))) (v := .ref a) S4 hN hi (.inl hln) rfl (fun s5 S5 => ?_) (.inr hln)
  exact wpAny_mono ((hsu a oe4 cls d (X.pn ++ pins) hz4 hd4).run [] s5 _ H (dGone i D) S5 (hgo a na)) (fun f s6 hsp => after_suite ok hN hi hln f hsp) fun _ _ z => False.elim z
/-- try: body / except x as n: suite / .., where only errors that x names come -/
theorem ps_try_as1 (hs : X.stack = X.env :: X.outer) (hf : X.env.frame = some X.env.locals) (hN : X.N.Nodup) (hi : X.N[i]? = some n) (hln : X.env.kindOf n = some .local) (hc : Names X x c)
    (hb : ∀ (W : WX) (pn : List (Addr × Obj)) (xe : Value → Shared → Prop), Takes (X.tr pn xe) W → PSs (X.tr pn xe) body (tb W))
    (hsu : ∀ (a : Addr) (oe : Obj) (cls : Value) (d : Option Addr) (pn : List (Addr × Obj)), Zc cls d oe → (∃ vs, oe.data = .fields vs) → PSs (X.suite a ((a, oe) :: pn)) (b₀ :: suite) (ts a cls d)) :
    PS X (.Try body (.ExceptHandler (some (.Name x np)) (some n) (b₀ :: suite) pos' :: hrest) [] [] pos) (fun D σ H => tb (wAs1 X.K c i ts D) D σ H) := by
  refine ⟨fun pins s σ H D I h => wpAny_Try_except ?_⟩
  have ok := I.ok
  refine wpAny_mono ((hb (wAs1 X.K c i ts D) (X.pn ++ pins) _ fun u s' xx => ?_).run [] s σ H D (I.toTry _) h) (fun f s1 hsp => ?_) (fun e s1 he => he)
  · exact caught1 hs hf hN hi hln hc hsu ok xx
  · cases f with
    | next =>
      obtain ⟨σ', H', J', q⟩ := hsp
      exact wpAny_execs_nil ⟨σ', H', J'.ofTry ok, q⟩
    | brk =>
      obtain ⟨σ', H', J', q⟩ := hsp
      exact ⟨σ', H', J'.ofTry ok, q⟩
    | cont =>
      obtain ⟨σ', H', J', q⟩ := hsp
      exact ⟨σ', H', J'.ofTry ok, q⟩
    | ret u =>
      obtain ⟨v, σ', H', J', r, q⟩ := hsp
      exact ⟨v, σ', H', J'.ofTry ok, r, q⟩
end
/-! ### isinstance(e, ..) of an error that bears a field -/
def rIsF (K : PySem.W.Frag) (D a dd : Addr) : List V → Hp → VK → Prop := fun xs H Q => ∃ (c : V) (cv : Value) (b : Bool), xs = [.ref a, c] ∧ (∀ u, RelV c u → u = cv) ∧ PySem.W.kitOne K (.ref D) cv = some b ∧ (∃ fs, H dd = some (.xd fs)) ∧ Q (.bl b) H
theorem call_isF {X : Cx} {a D dd : Addr} {oe : Obj} {pn : List (Addr × Obj)} (C : ExcC X.K D) (hz : Zc (.ref D) (some dd) oe) (hf : ∃ vs, oe.data = .fields vs) : CallR (X.suite a ((a, oe) :: pn)) (.builtin "isinstance") (rIsF X.K D a dd) := by
  intro pins s σ H xs us Q I r h
  obtain ⟨c, cv, b, rfl, hcv, e, ⟨fs, hdd⟩, q⟩ := h
  cases r with
  | cons rx rr =>
    cases rr with
    | cons rt rr =>
      cases rr
      cases rx
      have ec := hcv _ rt
      subst ec
      obtain ⟨hget, _⟩ := I.pin (a, oe) (List.mem_append.mpr (.inl List.mem_cons_self))
      obtain ⟨vs, hv⟩ := hf
      obtain ⟨mA, ⟨oD, es, ep, hoD, _⟩, _⟩ : ObjOk X.prog X.w H s.heap dd (.xd fs) := I.hok dd _ hdd
      have J : PySem.W.InstAt s.heap a oe D (some oD) := by
        obtain ⟨oc, od, oda, osl⟩ := oe
        obtain ⟨h1, h2⟩ := hz
        dsimp only at h1 h2 hv
        subst h1 h2 hv
        exact ⟨hget, rfl, rfl, hoD⟩
      have hcl : (PySem.W.clsIn X.K D).isSome = true := by
        obtain ⟨cd, hc, _⟩ := PySem.W.any_some C.hd
        rw [hc]; rfl
      exact PySem.W.kia_one (PySem.W.kitx_exc hcl C.hg C.hk C.hs C.ha C.hn C.ht C.hm) I.kIn J e (fun z => nomatch z) fun tk => ⟨.bl b, H, I.kept (t' := tk) fun _ _ z => z, rfl, q⟩
section
variable {X : Cx} {i : Nat} {a dd : Addr}
structure IwV (X : Cx) (i : Nat) (a dd : Addr) (e : Expr) (b : Bool) (t : TE) : Prop where
  pe : PE X e t
  sd : ∀ (σ : St) (H : Hp) (Q : VK), σ[i]? = some (some (.ref a)) → (∃ fs, H dd = some (.xd fs)) → Q (.bl b) H → t σ H Q
structure IwA (X : Cx) (i : Nat) (a dd : Addr) (es : List Expr) (bs : List Bool) (t : TA) : Prop where
  pa : PA X es t
  sd : ∀ (σ : St) (H : Hp) (Q : List V → Hp → Prop), σ[i]? = some (some (.ref a)) → (∃ fs, H dd = some (.xd fs)) → Q (bs.map .bl) H → t σ H Q
theorem iwA_nil : IwA X i a dd [] [] tNil := ⟨pa_nil, fun _ _ _ _ _ q => q⟩
theorem iwA_cons {e : Expr} {es : List Expr} {b : Bool} {bs : List Bool} {t : TE} {ta : TA} (h1 : IwV X i a dd e b t) (h2 : IwA X i a dd es bs ta) (hs : starEach (e :: es) X.env = (false, eval e X.env) :: starEach es X.env := by rfl) : IwA X i a dd (e :: es) (b :: bs) (tCons t ta) :=
  ⟨pa_cons h1.pe h2.pa hs, fun σ H Q hi hx q => h1.sd σ H _ hi hx (h2.sd σ H _ hi hx q)⟩
theorem iwV_own {D C : Addr} {oe : Obj} {pn : List (Addr × Obj)} {b : Bool} {y x : Str} {p p1 p2 pos : Pos} (hC : ExcC X.K D) (hz : Zc (.ref D) (some dd) oe) (hf : ∃ vs, oe.data = .fields vs) (hg : Gl X "isinstance") (hm : X.mg "isinstance" = none) (hi : X.N[i]? = some y) (hgx : Gl X x) (hmx : X.mg x = some (.ref C))
    (hk : PySem.W.kitOne X.K (.ref D) (.ref C) = some b)
    (hv : Vis X.env.scope y := by first | exact Or.inl rfl | exact Or.inr (Or.inl rfl) | exact Or.inr (Or.inr rfl)) (hd : (y == ("__debug__" : Str)) = false := by decide) (hcd : (y == ("__classdict__" : Str)) = false := by decide) (hdx : (x == ("__debug__" : Str)) = false := by decide)
    (he : starEach [.Name y p1, .Name x p2] X.env = (false, eval (.Name y p1) X.env) :: starEach [.Name x p2] X.env := by rfl) (he2 : starEach [.Name x p2] X.env = (false, eval (.Name x p2) X.env) :: starEach [] X.env := by rfl) (hpl : (backTo pos (starEach [.Name x p2] X.env)).any (·.1) = false := by rfl) :
    IwV (X.suite a ((a, oe) :: pn)) i a dd (.Call (.Name "isinstance" p) [.Name y p1, .Name x p2] [] pos) b (tCB (rIsF X.K D a dd) (tCons (tVar i) (tCons (tC (.ref C)) tNil))) :=
  ⟨pe_callB (X := X.suite a ((a, oe) :: pn)) (call_isF hC hz hf) hg hm (by decide +kernel) (pa_cons (pe_var hi hv hd hcd) (pa_cons (pe_glob hgx hmx rfl hdx) pa_nil he2) he) (by decide) (by decide) he hpl,
    fun σ H Q h hx q => ⟨_, h, .ref C, .ref C, b, rfl, fun u r => r, hk, hx, q⟩⟩
theorem iwV_ty {D : Addr} {T : String} {oe : Obj} {pn : List (Addr × Obj)} {b : Bool} {y x : Str} {p p1 p2 pos : Pos} (hC : ExcC X.K D) (hz : Zc (.ref D) (some dd) oe) (hf : ∃ vs, oe.data = .fields vs) (hg : Gl X "isinstance") (hm : X.mg "isinstance" = none) (hi : X.N[i]? = some y) (hgx : Gl X x) (hmx : X.mg x = none) (hvx : bootBuiltins x = some (.type T)) (hnx : x ≠ "__name__")
    (hk : PySem.W.kitOne X.K (.ref D) (.type T) = some b)
    (hv : Vis X.env.scope y := by first | exact Or.inl rfl | exact Or.inr (Or.inl rfl) | exact Or.inr (Or.inr rfl)) (hd : (y == ("__debug__" : Str)) = false := by decide) (hcd : (y == ("__classdict__" : Str)) = false := by decide) (hdx : (x == ("__debug__" : Str)) = false := by decide)
    (he : starEach [.Name y p1, .Name x p2] X.env = (false, eval (.Name y p1) X.env) :: starEach [.Name x p2] X.env := by rfl) (he2 : starEach [.Name x p2] X.env = (false, eval (.Name x p2) X.env) :: starEach [] X.env := by rfl) (hpl : (backTo pos (starEach [.Name x p2] X.env)).any (·.1) = false := by rfl) :
    IwV (X.suite a ((a, oe) :: pn)) i a dd (.Call (.Name "isinstance" p) [.Name y p1, .Name x p2] [] pos) b (tCB (rIsF X.K D a dd) (tCons (tVar i) (tCons (tC (.ty T)) tNil))) :=
  ⟨pe_callB (X := X.suite a ((a, oe) :: pn)) (call_isF hC hz hf) hg hm (by decide +kernel) (pa_cons (pe_var hi hv hd hcd) (pa_cons (pe_bltn (v := .ty T) hgx hmx hvx rfl hnx hdx) pa_nil he2) he) (by decide) (by decide) he hpl,
    fun σ H Q h hx q => ⟨_, h, .ty T, .type T, b, rfl, fun u r => r, hk, hx, q⟩⟩
end
/-! ### the suite's statements -/
/-- from a store to a store, with e = the error at a (slot i), whose field holds w -/
structure SuC (X : Cx) (I : Nat → Nat) (i : Nat) (a dd : Addr) (w : Int) (Γ : List Nat) (st : List Stmt) (Γ' : List Nat) (G : Store → Option Store) (t : TS) : Prop where
  pss : PSs X st t
  sd : ∀ {E : Entry} {ρ : Store} {σ : St} {H : Hp} {Φ : Nat → List Addr}, E.io = I → StR X.K E Γ ρ σ H Φ → σ[i]? = some (some (.ref a)) → H dd = some (.xd [("line", .int w)]) → ∀ ρ', G ρ = some ρ' → ∀ D : Ends, (∀ σ' H' Φ', StR X.K E Γ' ρ' σ' H' Φ' → σ'[i]? = some (some (.ref a)) → H' dd = some (.xd [("line", .int w)]) → D.nx σ' H') → t D σ H
section
variable {X : Cx} {i j : Nat} {a dd : Addr} {w : Int} {I : Nat → Nat} {Γ Γ1 Γ2 : List Nat}
def cSeq (G1 G2 : Store → Option Store) : Store → Option Store := fun ρ => match G1 ρ with | some ρ1 => G2 ρ1 | none => none
theorem suC_one {st : Stmt} {G : Store → Option Store} {t : TS} (h : SuC X I i a dd w Γ [st] Γ1 G t) : SuC X I i a dd w Γ [st] Γ1 G t := h
theorem suC_cons {st : Stmt} {ss : List Stmt} {G1 G2 : Store → Option Store} {t1 t2 : TS} (p1 : PS X st t1) (h1 : ∀ {E : Entry} {ρ : Store} {σ : St} {H : Hp} {Φ : Nat → List Addr}, E.io = I → StR X.K E Γ ρ σ H Φ → σ[i]? = some (some (.ref a)) → H dd = some (.xd [("line", .int w)]) → ∀ ρ', G1 ρ = some ρ' → ∀ D : Ends, (∀ σ' H' Φ', StR X.K E Γ1 ρ' σ' H' Φ' → σ'[i]? = some (some (.ref a)) → H' dd = some (.xd [("line", .int w)]) → D.nx σ' H') → t1 D σ H)
    (h2 : SuC X I i a dd w Γ1 ss Γ2 G2 t2) : SuC X I i a dd w Γ (st :: ss) Γ2 (cSeq G1 G2) (tSeq t1 t2) := by
  refine ⟨pss_cons p1 h2.pss, fun {E ρ σ H Φ} hI R hi hx ρ' e D q => ?_⟩
  unfold cSeq at e
  split at e
  · rename_i ρ1 e1
    refine h1 hI R hi hx ρ1 e1 _ fun σ' H' Φ' R' hi' hx' => ?_
    exact h2.sd hI R' hi' hx' ρ' e _ q
  · cases e
structure SuS (X : Cx) (I : Nat → Nat) (i : Nat) (a dd : Addr) (w : Int) (Γ : List Nat) (st : Stmt) (Γ' : List Nat) (G : Store → Option Store) (t : TS) : Prop where
  ps : PS X st t
  sd : ∀ {E : Entry} {ρ : Store} {σ : St} {H : Hp} {Φ : Nat → List Addr}, E.io = I → StR X.K E Γ ρ σ H Φ → σ[i]? = some (some (.ref a)) → H dd = some (.xd [("line", .int w)]) → ∀ ρ', G ρ = some ρ' → ∀ D : Ends, (∀ σ' H' Φ', StR X.K E Γ' ρ' σ' H' Φ' → σ'[i]? = some (some (.ref a)) → H' dd = some (.xd [("line", .int w)]) → D.nx σ' H') → t D σ H
theorem su_cons {st : Stmt} {ss : List Stmt} {G1 G2 : Store → Option Store} {t1 t2 : TS} (h1 : SuS X I i a dd w Γ st Γ1 G1 t1) (h2 : SuC X I i a dd w Γ1 ss Γ2 G2 t2) : SuC X I i a dd w Γ (st :: ss) Γ2 (cSeq G1 G2) (tSeq t1 t2) := suC_cons h1.ps (fun hI R hi hx ρ' e D q => h1.sd hI R hi hx ρ' e D q) h2
theorem su_one {st : Stmt} {G1 : Store → Option Store} {t1 : TS} (h1 : SuS X I i a dd w Γ st Γ1 G1 t1) : SuC X I i a dd w Γ [st] Γ1 G1 t1 :=
  ⟨pss_one h1.ps, fun hI R hi hx ρ' e D q => h1.sd hI R hi hx ρ' e D q⟩
/-- y = [isinstance(e, ..), ..] -/
def cBls (j : Nat) (bs : List Bool) : Store → Option Store := fun ρ => some (ρ.set j (some (.lst (bs.map .bl))))
theorem su_bls {es1 : List Expr} {bs1 : List Bool} {ta1 : TA} {y : Str} {py1 p1 q1 : Pos} (h1 : IwA X i a dd es1 bs1 ta1) (hN : X.N.Nodup) (hj : X.N[j]? = some y) (hij : i ≠ j) (hG : j < Γ.length) (hio : I j = 0) (hz : bs1.length ≤ 16777216) (hΓ : Γ.set j 1 = Γ1 := by rfl)
    (hx : Loc X.env.scope y := by first | exact Or.inl rfl | exact Or.inr rfl)
    (hs1 : swapsWith (.List es1 q1) (some (.Name y py1)) p1.line X.env = pure false := by rfl) (hf : X.fn y = true ∨ X.env.scope.names.lookup y = some .local := by first | exact .inl rfl | exact .inr rfl) :
    SuS X I i a dd w Γ (.Assign [.Name y py1] (.List es1 q1) p1) Γ1 (cBls j bs1) (tAsg (tLst ta1) (gName j)) := by
  subst hΓ
  refine ⟨ps_set hN hj hx (pe_lst h1.pa) hs1 hf, fun {E ρ σ H Φ} hI R hi hxd ρ' e D q => ?_⟩
  cases e
  have z1 : bs1.length ≤ sizeLine := by rw [PySem.sizeLine_eq]; omega
  refine h1.sd σ H _ hi ⟨_, hxd⟩ ⟨by rw [List.length_map]; exact z1, fun p hp => ?_⟩
  have x1 : Ext H (upd H p (.lst (bs1.map V.bl))) := ext_upd hp
  refine q _ _ _ (R.set (m := 1) (Ψ := [p]) ⟨x1, fun b m => by rw [List.mem_singleton.mp m]; exact hp, List.nodup_cons.mpr ⟨fun m => (nomatch m), .nil⟩, ?_⟩ hG (by rw [hI]; exact hio)) ?_ (x1 _ _ hxd)
  · exact .lst upd_same (ownL_bl _)
  · rw [List.getElem?_set_ne (Ne.symm hij)]; exact hi
/-- y = y + [isinstance(e, ..), ..] -/
def cCat (j : Nat) (bs : List Bool) : Store → Option Store := fun ρ => match eVar j ρ with
  | some (.lst ds) => if ds.length + bs.length ≤ 16777216 then (if D.immL ds = true then some (ρ.set j (some (.lst (ds ++ bs.map .bl)))) else none) else none
  | _ => none
theorem su_cat {es1 : List Expr} {bs1 : List Bool} {ta1 : TA} {y : Str} {py1 px p1 p2 q1 : Pos} {K : PySem.W.Frag} (h1 : IwA X i a dd es1 bs1 ta1) (hN : X.N.Nodup) (hj : X.N[j]? = some y) (hij : i ≠ j) (hG : j < Γ.length) (hio : I j = 0) (hm1 : Γ.getD j 0 = 1) (hΓ : Γ.set j 1 = Γ1 := by rfl) (hK : X.K = K := by rfl)
    (hx : Loc X.env.scope y := by first | exact Or.inl rfl | exact Or.inr rfl) (hv : Vis X.env.scope y := by first | exact Or.inl rfl | exact Or.inr (Or.inl rfl) | exact Or.inr (Or.inr rfl))
    (hs1 : swapsWith (.BinOp (.Name y px) .Add (.List es1 q1) p2) (some (.Name y py1)) p1.line X.env = pure false := by rfl) (hf : X.fn y = true ∨ X.env.scope.names.lookup y = some .local := by first | exact .inl rfl | exact .inr rfl) (hd : (y == ("__debug__" : Str)) = false := by decide) (hcd : (y == ("__classdict__" : Str)) = false := by decide) :
    SuS X I i a dd w Γ (.Assign [.Name y py1] (.BinOp (.Name y px) .Add (.List es1 q1) p2) p1) Γ1 (cCat j bs1) (tAsg (tOp (rCatS K) (tVar j) (tLst ta1)) (gName j)) := by
  subst hΓ hK
  refine ⟨ps_set hN hj hx (pe_op op_catS (pe_var hj hv hd hcd) (pe_lst h1.pa)) hs1 hf, fun {E ρ σ H Φ} hI R hi hxd ρ' e D q => ?_⟩
  unfold cCat at e
  split at e
  · rename_i ds ed
    split at e
    · rename_i hz
      split at e
      · rename_i him
        cases e
        obtain ⟨v, hv1, ow⟩ := R.val j _ (eVar_some ed)
        rw [hm1] at ow
        generalize hΦj : Φ j = fp at ow
        cases ow with
        | @lst _ p _ vs fps hp ol =>
          have l1 : vs.length = ds.length := ol.len
          have z2 : bs1.length ≤ sizeLine := by rw [PySem.sizeLine_eq]; omega
          refine ⟨.ref p, hv1, ?_⟩
          refine h1.sd σ H _ hi ⟨_, hxd⟩ ⟨by rw [List.length_map]; exact z2, fun q' hq => ?_⟩
          have x1 : Ext H (upd H q' (.lst (bs1.map V.bl))) := ext_upd hq
          refine ⟨p, q', vs, bs1.map .bl, rfl, rfl, .inl (.inl (x1 _ _ hp)), .inl (.inl upd_same), by rw [List.length_map, l1, PySem.sizeLine_eq]; exact hz, fun r hr => ?_⟩
          have x3 := ext_upd (o := .lst (vs ++ bs1.map V.bl)) hr
          have x : Ext H (upd (upd H q' (.lst (bs1.map V.bl))) r (.lst (vs ++ bs1.map V.bl))) := fun a o e => x3 _ _ (x1 _ _ e)
          have nr : H r = none := by
            cases e : H r with
            | none => rfl
            | some o => have := x1 _ _ e; rw [hr] at this; cases this
          refine q _ _ _ (R.set (m := 1) (Ψ := [r]) ⟨x, fun b m => by rw [List.mem_singleton.mp m]; exact nr, List.nodup_cons.mpr ⟨fun m => (nomatch m), .nil⟩, ?_⟩ hG (by rw [hI]; exact hio)) ?_ (x _ _ hxd)
          · refine .lst upd_same ?_
            have o1 := OwnL.imm (K := X.K) (N' := fun a => a ∉ [r] ∧ ∀ j, j ∉ [] → a ∉ Φ j) (H' := upd (upd H q' (.lst (bs1.map V.bl))) r (.lst (vs ++ bs1.map V.bl))) (fun a o e _ => x a o e) 0 ol him
            have o2 : OwnL X.K (upd (upd H q' (.lst (bs1.map V.bl))) r (.lst (vs ++ bs1.map V.bl))) (fun a => a ∉ [r] ∧ ∀ j, j ∉ [] → a ∉ Φ j) 0 (bs1.map .bl) (bs1.map V.bl) [] := ownL_bl _
            exact OwnL.app (fp := []) (fq := []) o1 o2
          · rw [List.getElem?_set_ne (Ne.symm hij)]; exact hi
      · cases e
    · cases e
  · cases e
/-- z = e.line -/
def cFld (j : Nat) (w : Int) : Store → Option Store := fun ρ => some (ρ.set j (some (.int w)))
end
section
variable {X : Cx} {i j : Nat} {a dd : Addr} {w : Int} {I : Nat → Nat} {Γ Γ1 : List Nat}
theorem su_fld {D : Addr} {oe : Obj} {pn : List (Addr × Obj)} {y z : Str} {p1 p2 p3 p4 : Pos} (T : XfC X.K D) (hno : PySem.W.findIn X.K (.ref D) "line" = some none) (hz : Zc (.ref D) (some dd) oe) (hf : ∃ vs, oe.data = .fields vs) (hi : X.N[i]? = some y) (hN : X.N.Nodup) (hj : X.N[j]? = some z) (hij : i ≠ j) (hG : j < Γ.length) (hio : I j = 0) (hΓ : Γ.set j 0 = Γ1 := by rfl)
    (hx : Loc X.env.scope z := by first | exact Or.inl rfl | exact Or.inr rfl) (hv : Vis X.env.scope y := by first | exact Or.inl rfl | exact Or.inr (Or.inl rfl) | exact Or.inr (Or.inr rfl))
    (hb : attributeBase (.Name y p1) "line" X.env (eval (.Name y p1) X.env) = eval (.Name y p1) X.env := by rfl) (hs1 : swapsWith (.Attribute (.Name y p1) "line" p2) (some (.Name z p3)) p4.line X.env = pure false := by rfl) (hfn : X.fn z = true ∨ X.env.scope.names.lookup z = some .local := by first | exact .inl rfl | exact .inr rfl) (hd : (y == ("__debug__" : Str)) = false := by decide) (hcd : (y == ("__classdict__" : Str)) = false := by decide) :
    SuS (X.suite a ((a, oe) :: pn)) I i a dd w Γ (.Assign [.Name z p3] (.Attribute (.Name y p1) "line" p2) p4) Γ1 (cFld j w) (tAsg (tXf a (.ref D) (some dd) D "line" (tVar i)) (gName j)) := by
  subst hΓ
  refine ⟨ps_set (X := X.suite a ((a, oe) :: pn)) hN hj hx (pe_xf (X := X) T hno hz hf (pe_var (X := X.suite a ((a, oe) :: pn)) hi hv hd hcd) hb) hs1 hfn, fun {E ρ σ H Φ} hI R hi' hxd ρ' e D' q => ?_⟩
  cases e
  refine ⟨_, hi', rfl, rfl, dd, _, .int w, rfl, hxd, rfl, ?_⟩
  refine q _ _ _ (R.set (m := 0) (Ψ := []) ⟨.rfl' _, fun a m => (nomatch m), .nil, .int⟩ hG (by rw [hI]; exact hio)) ?_ hxd
  rw [List.getElem?_set_ne (Ne.symm hij)]; exact hi'
end
/-! ### try -/
/-- a store in which nothing is owned any more -/
theorem StR.zero {K : PySem.W.Frag} {E : Entry} {Γ Γ' : List Nat} {ρ : Store} {σ : St} {H : Hp} {Φ : Nat → List Addr} (R : StR K E Γ ρ σ H Φ) (hz : ∀ i, Γ'.getD i 0 = 0) (hl : Γ'.length ≤ ρ.length) : StR K E Γ' ρ σ H (fun _ => []) := by
  refine ⟨R.len, hl, fun i d e => ?_, fun _ _ _ => rfl, fun _ => .nil, fun _ _ _ m => (nomatch m), fun _ _ m => (nomatch m), fun _ _ m => (nomatch m), R.kp, R.dm, R.iv, fun p m => (R.gh p m).move (fun a o e _ => e) (fun a o e z => ⟨e, fun j => List.not_mem_nil⟩) fun a m => (nomatch m)⟩
  obtain ⟨v, h1, h2⟩ := R.val i d e
  refine ⟨v, h1, ?_⟩
  rw [hz i]
  exact h2.share (fun a z j => List.not_mem_nil) fun a m j => List.not_mem_nil
/-- a slot's depth that does not matter -/
theorem StR.lift {K : PySem.W.Frag} {E : Entry} {Γ : List Nat} {ρ : Store} {σ : St} {H : Hp} {Φ : Nat → List Addr} (R : StR K E Γ ρ σ H Φ) (j m : Nat) (hn : ∀ d, ρ[j]? ≠ some (some d)) (hΦ : Φ j = []) : StR K E (Γ.set j m) ρ σ H Φ := by
  refine ⟨R.len, by rw [List.length_set]; exact R.gl, fun i d e => ?_, fun i hi e => ?_, R.nd, R.dj, R.lv, R.nw, R.kp, R.dm, R.iv, R.gh⟩
  · have n : i ≠ j := fun z => hn d (by rw [← z]; exact e)
    rw [List.getD_eq_getElem?_getD, List.getElem?_set_ne (Ne.symm n), ← List.getD_eq_getElem?_getD]
    exact R.val i d e
  · by_cases n : i = j
    · rw [n]; exact hΦ
    · rw [List.getD_eq_getElem?_getD, List.getElem?_set_ne (Ne.symm n), ← List.getD_eq_getElem?_getD] at e
      exact R.em i hi e
theorem StR.fgt {K : PySem.W.Frag} {E : Entry} {Γ : List Nat} {ρ : Store} {σ : St} {H : Hp} {Φ : Nat → List Addr} (R : StR K E Γ ρ σ H Φ) (i : Nat) : StR K E Γ (ρ.set i none) σ H Φ := by
  refine ⟨by rw [List.length_set]; exact R.len, by rw [List.length_set]; exact R.gl, fun k d e => ?_, fun k lk g => R.em k (by rw [List.length_set] at lk; exact lk) g, R.nd, R.dj, R.lv, R.nw, R.kp, R.dm, R.iv, R.gh⟩
  by_cases hk : k = i
  · subst hk
    rw [List.getElem?_set] at e
    split at e
    · split at e <;> cases e
    · rename_i z; exact absurd rfl z
  · rw [List.getElem?_set_ne (Ne.symm hk)] at e
    exact R.val k d e
/-- try: body; an error of one of the first m classes with a whole number: the suite G; j: what the suite makes first -/
def sTryF (i j m gl : Nat) (F : Store → Option O) (G : Nat → Int → Store → Option Store) : Store → Option O := fun ρ => match F ρ with
  | some (.ex t (some (.int w)) ρ') => if t < m ∧ gl ≤ ρ'.length then (match G t w ((ρ'.set i none).set j none) with | some ρ2 => some (.nx (ρ2.set i none)) | none => none) else none
  | some (.ex _ _ _) => none
  | o => o
section
variable {X : Cx} {K : PySem.W.Frag} {mg : Str → Option Value} {Γ Γb : List Nat} {I : Nat → Nat} {W : WX} {r : Nat} {cs : Nat → Addr} {Ch : Addr}
theorem s_tryF {i j m : Nat} {F : Store → Option O} {G : Nat → Int → Store → Option Store} {nm hx : Str} {body : List Stmt} {b₀ : Stmt} {suite : List Stmt} {tb : WX → TS} {ts : Nat → Addr → Addr → Int → TS} {np pos' pos : Pos} {hrest : List ExceptHandler}
    (hst : X.stack = X.env :: X.outer) (hfr : X.env.frame = some X.env.locals) (hN : X.N.Nodup) (hi : X.N[i]? = some nm) (hln : X.env.kindOf nm = some .local) (hgC : Gl X hx) (hmC : mg hx = some (.ref Ch)) (hexm : ∀ t, t < m → PySem.W.exmOne K (.ref (cs t)) (.ref Ch) = some true)
    (hb : ∀ (W' : WX) (pn : List (Addr × Obj)) (xe : Value → Shared → Prop), Takes (X.tr pn xe) W' → Lv (X.tr pn xe) (wTag cs W') I r Γ Γb body Γ F (tb W'))
    (hsu : ∀ (t : Nat), t < m → ∀ (w : Int) (a dd : Addr) (oe : Obj) (pn : List (Addr × Obj)), Zc (.ref (cs t)) (some dd) oe → (∃ vs, oe.data = .fields vs) → SuC (X.suite a ((a, oe) :: pn)) I i a dd w ((List.replicate Γ.length 0).set j 1) (b₀ :: suite) Γ (G t w) (ts t a dd w))
    (hI0 : ∀ k, I k = 0) (hil : i < Γ.length) (hij : i ≠ j)
    (hK : X.K = K := by rfl) (hm : X.mg = mg := by rfl) (hdc : (hx == ("__debug__" : Str)) = false := by decide) :
    Sv X W I r Γ Γb (.Try body (.ExceptHandler (some (.Name hx np)) (some nm) (b₀ :: suite) pos' :: hrest) [] [] pos) Γ (sTryF i j m Γ.length F G)
      (fun D σ H => tb (wAs1 K (.ref Ch) i (fun a cls d D σ H => ∃ t dd w, t < m ∧ cls = .ref (cs t) ∧ d = some dd ∧ ts t a dd w D σ H) D) D σ H) := by
  subst hK hm
  refine ⟨ps_try_as1 (X := X) (tb := tb) (ts := fun a cls d D σ H => ∃ t dd w, t < m ∧ cls = .ref (cs t) ∧ d = some dd ∧ ts t a dd w D σ H) hst hfr hN hi hln ⟨hgC, hdc, .inl hmC⟩
    (fun W' pn xe tk => (hb W' pn xe tk).pss)
    (fun a oe cls d pn hz hfl => ⟨fun pins s σ H D Iv h => by
      obtain ⟨t, dd, w, ht, rfl, rfl, h⟩ := h
      exact (hsu t ht w a dd oe pn hz hfl).pss.run pins s σ H D Iv h⟩), ⟨fun {E ρ σ H Φ} hI R o eo D qq => ?_⟩⟩
  have hio : ∀ k, E.io k = 0 := fun k => by rw [hI]; exact hI0 k
  unfold sTryF at eo
  have L := (hb (wAs1 X.K (.ref Ch) i (fun a cls d D σ H => ∃ t dd w, t < m ∧ cls = .ref (cs t) ∧ d = some dd ∧ ts t a dd w D σ H) D) [] (fun _ _ => True) (fun _ _ _ => trivial)).sd
  cases eF : F ρ with
  | none => rw [eF] at eo; cases eo
  | some o0 =>
    rw [eF] at eo
    refine L.run hI R o0 eF D ?_
    cases o0 with
    | nx ρ' => cases eo; exact qq
    | bk ρ' => cases eo; exact qq
    | ct ρ' => cases eo; exact qq
    | rt d ρ' => cases eo; exact qq
    | ex t w0 ρ' =>
      rintro Γ2 σ2 H2 Φ2 dx R2 hx
      cases w0 with
      | none => cases eo
      | some d0 =>
        cases d0 with
        | int z =>
          dsimp only at eo
          split at eo
          · rename_i hc
            obtain ⟨ht, hgl⟩ := hc
            split at eo
            · rename_i ρ2 eG
              cases eo
              obtain ⟨dd, v, rfl, hdd, hsc, ev⟩ := hx
              have ev : v = .int z := by cases v <;> cases ev <;> first | rfl | cases hsc
              subst ev
              refine ⟨t, rfl, hexm t ht, fun a na => ⟨t, dd, z, ht, rfl, rfl, ?_⟩⟩
              obtain ⟨oe, hz, hf⟩ : ∃ oe : Obj, Zc (.ref (cs t)) (some dd) oe ∧ ∃ vs, oe.data = .fields vs := ⟨⟨.ref (cs t), some dd, .fields #[], #[]⟩, ⟨rfl, rfl⟩, _, rfl⟩
              have il : i < σ2.length := by have := R2.len; omega
              have R3 := (((R2.zero (Γ' := List.replicate Γ.length 0) (fun k => by
                rw [List.getD_eq_getElem?_getD, List.getElem?_replicate]
                split <;> rfl) (by rw [List.length_replicate]; exact hgl)).junk i (some (.ref a)) (hio i)).fgt j).lift j 1 (fun d e => by
                  rw [List.getElem?_set] at e
                  split at e
                  · split at e <;> cases e
                  · rename_i q; exact q rfl) rfl
              refine (hsu t ht z a dd oe [] hz hf).sd hI R3 (List.getElem?_set_self il) hdd ρ2 eG (dGone i D) fun σ' H' Φ' R4 _ _ => ?_
              exact qq _ _ _ (R4.junk i none (hio i))
            · cases eo
          · cases eo
        | _ => cases eo
end
end VL

/-! VL47: x.pop(..) as a statement; the head's facts of errors that bear a number (LineError's kin). -/
namespace VL
open PySem PySem.Spec L2
open PyProof.Rows hiding St
section
variable {X : Cx} {K : PySem.W.Frag} {Γ Γb : List Nat} {W : WX} {I : Nat → Nat} {r : Nat} {e : Expr} {te : TE} {pos : Pos}
/-- x.pop(..), let go -/
def sDropX (F : Store → Option (D × Store)) : Store → Option O := fun ρ => match F ρ with
  | some (_, ρ') => some (.nx ρ')
  | none => none
theorem s_dropX {F : Store → Option (D × Store)} (he : Xv X Γ e F te) (hs : swapsWith e none pos.line X.env = pure false := by rfl) : Sv X W I r Γ Γb (.Expr e pos) Γ (sDropX F) (tDrop te) := by
  refine ⟨ps_expr he.pe hs, ⟨fun {E ρ σ H Φ} hI R o eo D q => ?_⟩⟩
  unfold sDropX at eo
  split at eo
  · rename_i d ρ' e1
    cases eo
    exact he.sd.run R e1 _ fun v H' Φ' R' ov => q _ _ _ R'
  · cases eo
end
/-! ### the head -/
def fIni : Str × Option Str := ("LineError", some "__init__")
def oexB (K : PySem.W.Frag) (C : Addr) : Bool := (match K.lookup C with
  | some ⟨.type "type", _, .cls cd, sl⟩ => (match cd.mro, sl.toList with
    | .ref C' :: bm, [_, _, _, _, some (.builtin n), _] => decide (C' = C) && (decide (n = "ValueError.__new__") && (!cd.hasDel && (cd.hasDict && PySem.HandSPX.refsVE bm)))
    | _, _ => false)
  | _ => false) && (He.eqO (PySem.W.findIn K (.ref C) "__setattr__") (some (some (.builtin "object.__setattr__"))) && (decide (PySem.W.subIn K (.ref C) (.type "BaseException") = some true) && (decide (PySem.W.typeIn K (.ref C) = some (.type "type")) && PySem.W.keepIn K (.ref C))))
theorem oexB_ok {K : PySem.W.Frag} {C : Addr} (h : oexB K C = true) : OexC K C := by
  obtain ⟨q, h⟩ := He.ba h
  obtain ⟨h1, h⟩ := He.ba h
  obtain ⟨h2, h⟩ := He.ba h
  obtain ⟨h3, h4⟩ := He.ba h
  refine ⟨?_, He.eqO_ok h1, of_decide_eq_true h2, of_decide_eq_true h3, h4⟩
  split at q
  · rename_i dd cd sl ho
    split at q
    · rename_i C' bm k0 k1 k2 k3 n k5 hm hs
      obtain ⟨q1, q⟩ := He.ba q
      obtain ⟨q2, q⟩ := He.ba q
      obtain ⟨q3, q⟩ := He.ba q
      obtain ⟨q4, q5⟩ := He.ba q
      have e1 : C' = C := of_decide_eq_true q1
      have e2 : n = "ValueError.__new__" := of_decide_eq_true q2
      subst e1 e2
      obtain ⟨nm, bs, mro, ns, qn, hd, sn, sub, ab, col, del⟩ := cd
      dsimp only at hm q3 q4
      have e3 : del = false := by cases del <;> first | rfl | cases q3
      subst hm e3 q4
      have hsl : sl = #[k0, k1, k2, k3, some (.builtin "ValueError.__new__"), k5] := by
        obtain ⟨l⟩ := sl
        simp only at hs
        rw [hs]
      subst hsl
      exact ⟨nm, qn, ns, bs, bm, sn, sub, ab, col, dd, k0, k1, k2, k3, k5, ho, q5⟩
    · cases q
  · cases q
/-- x, a class under LineError -/
def lineB (K : PySem.W.Frag) (x : Str) (l : List (Str × Bool)) (t : List (String × Bool)) : Bool := oexB K (He.ga K x) && (He.eqO (PySem.W.findIn K (.ref (He.ga K x)) "__init__") (some (some (.ref (He.fAd K fIni)))) && (decide (PySem.W.typeIn K (.ref (He.fAd K fIni)) = some (.type "function")) && (He.eqO (PySem.W.findIn K (.ref (He.ga K x)) "line") (some none) &&
  (xfB K (He.ga K x) && (kitsB K x l t && decide (PySem.W.exmOne K (.ref (He.ga K x)) (.ref (He.ga K "LineError")) = some true))))))
structure LineC (K : PySem.W.Frag) (x : Str) (l : List (Str × Bool)) (t : List (String × Bool)) : Prop where
  F : OexF K (He.ga K x) (He.fAd K fIni) "line"
  xf : XfC K (He.ga K x)
  k : Kits K x l t
  ex : PySem.W.exmOne K (.ref (He.ga K x)) (.ref (He.ga K "LineError")) = some true
theorem lineB_ok {K : PySem.W.Frag} {x : Str} {l : List (Str × Bool)} {t : List (String × Bool)} (h : lineB K x l t = true) : LineC K x l t := by
  obtain ⟨h1, h⟩ := He.ba h
  obtain ⟨h2, h⟩ := He.ba h
  obtain ⟨h3, h⟩ := He.ba h
  obtain ⟨h4, h⟩ := He.ba h
  obtain ⟨h5, h⟩ := He.ba h
  obtain ⟨h6, h7⟩ := He.ba h
  exact ⟨⟨oexB_ok h1, He.eqO_ok h2, of_decide_eq_true h3, He.eqO_ok h4⟩, xfB_ok h5, kits_ok h6, of_decide_eq_true h7⟩
/-- HatError's own: __init__ is ValueError's -/
def baseB (K : PySem.W.Frag) : Bool := He.eqO (PySem.W.nsIn K cStatics "thirdparty.any") (some none) && (decide (PySem.W.typeIn K (.ref (He.ga K "HatError")) = some (.type "type")) && (match PySem.W.findCls K (.ref (He.ga K "HatError")) (.type "type") "__init__" with
  | some (.val v) => decide (v = .builtin "ValueError.__init__")
  | _ => false))
structure BaseC (K : PySem.W.Frag) : Prop where
  s : PySem.W.nsIn K cStatics "thirdparty.any" = some none
  t : PySem.W.typeIn K (.ref (He.ga K "HatError")) = some (.type "type")
  v : PySem.W.findCls K (.ref (He.ga K "HatError")) (.type "type") "__init__" = some (.val (.builtin "ValueError.__init__"))
theorem baseB_ok {K : PySem.W.Frag} (h : baseB K = true) : BaseC K := by
  obtain ⟨h1, h⟩ := He.ba h
  obtain ⟨h2, h3⟩ := He.ba h
  refine ⟨He.eqO_ok h1, of_decide_eq_true h2, ?_⟩
  split at h3
  · rename_i v e
    rw [e, of_decide_eq_true h3]
  · cases h3
/-- the walked __init__ -/
structure IniF (P : Program) (w : World) (K : PySem.W.Frag) (mg : Str → Option Value) (base : Heap) : Prop where
  ex : ∃ fd, FnOk P w K mg base CX0 1 (He.fAd K fIni) fd ["self", "line"] (spIni K "line") ∧ Binds K fd ["self", "line"] []
section
variable {X : Cx} {K : PySem.W.Frag} {mg : Str → Option Value} {P : Program} {w : World} {base : Heap} {Γ Γ' Γb B : List Nat} {W : WX} {I : Nat → Nat} {r m : Nat} {cs : Nat → Addr} {C : Addr} {e : Expr} {f : Store → Option D} {te : TE}
theorem s_raiseL {kk t : Nat} {x : Str} {p pos pos' : Pos} {l : List (Str × Bool)} {l2 : List (String × Bool)} (ini : IniF P w K mg base) (Ex : LineC K x l l2) (g : mg x = some (.ref (He.ga K x))) (hr : Room kk X.A) (hk : 2 ≤ kk) (hcs : cs t = He.ga K x) (hc : X.calm = true) (tk : Takes X W) (hg : Gl X x) (he : Ev X Γ e m B f te)
    (hP : X.prog = P := by rfl) (hw : X.w = w := by rfl) (hK : X.K = K := by rfl) (hm : X.mg = mg := by rfl) (hbs : X.base = base := by rfl)
    (hdb : (x == ("__debug__" : Str)) = false := by decide) (hse : starEach [e] X.env = (false, eval e X.env) :: starEach [] X.env := by rfl) (hpl : (backTo pos (starEach [] X.env)).any (·.1) = false := by rfl) :
    Sv X (wTag cs W) I r Γ Γb (.Raise (some (.Call (.Name x p) [e] [] pos)) none pos') Γ' (sRaiseF t f) (fun _ σ H => tMkO (He.ga K x) (spIni K "line") [] (tCons te tNil) σ H fun cls d H' => W cls d σ H') := by
  obtain ⟨fd, G, hb⟩ := ini.ex
  exact s_raiseF ⟨g, Ex.F⟩ G hb hr hk hcs hc tk hg he hP hw hK hm hbs hdb hse hpl
end
/-! ### the hook, with the state of the modules -/
def asF (g : Addr → Option Obj) (n : Nat) : List Addr := cStatics :: He.asD g n
def obsF (n : Nat) (fa : List He.Fa) (fn : List He.DefD) (ex : PySem.W.Frag → Bool) (g : Addr → Option Obj) : AlE := (He.obsD fa fn (He.frG g (asF g n)), ex (He.frG g (asF g n)))
def hookF (n : Nat) (fa : List He.Fa) (fn : List He.DefD) (ex : PySem.W.Frag → Bool) : PySem.W.Hook where
  α := AlE
  obs := fun s => obsF n fa fn ex s.heap.get?
  val := fun _ => (He.valD fn, true)
  says := fun _ h => ∃ K : PySem.W.Frag, K.In h ∧ (He.SaysD fa fn K ∧ ex K = true)
  of := fun _ _ e => ⟨_, He.frG_in, congrArg (fun z : AlE => z.1) e, congrArg (fun z : AlE => z.2) e⟩
  keeps := fun _ _ _ ⟨K, hK, c⟩ k => ⟨K, PySem.W.Frag.In.keeps hK k, c⟩
theorem obsF_eq {n : Nat} {fa : List He.Fa} {fn : List He.DefD} {ex : PySem.W.Frag → Bool} {g : Addr → Option Obj} {s : Shared} (h : ∀ a, g a = s.heap.get? a) : obsF n fa fn ex g = (hookF n fa fn ex).obs s := by
  have e : g = s.heap.get? := funext h
  rw [e] <;> rfl
end VL

namespace K04
open PySem VL
noncomputable section
def csN : Nat → Str := fun t => (["NoLine", "Twice", "TooMany", "Unknown"] : List Str).getD t ""
def kb_TooMany : Nat → Bool := fun t => ([false, false, true, false] : List Bool).getD t false
def kb_Unknown : Nat → Bool := fun t => ([false, false, false, true] : List Bool).getD t false
def kb_Twice : Nat → Bool := fun t => ([false, true, false, false] : List Bool).getD t false
def kb_NoLine : Nat → Bool := fun t => ([true, false, false, false] : List Bool).getD t false
def kb_ValueError : Nat → Bool := fun t => ([true, true, true, true] : List Bool).getD t false
def kb_HatError : Nat → Bool := fun t => ([true, true, true, true] : List Bool).getD t false
def if_made_of_1 : Store → Option O := (sIf (tBo (e2 (gInS true) (eVar 3) (eVar 1))) (sRet 0 (eC (.bl false))) sNx)
def lp_made_of_2 : Store → Option O := if_made_of_1
def body_made_of : Store → Option O := (sSeq (sFor (iSt (eVar 0)) (gSet 3) lp_made_of_2) (sRet 0 (eChain gLe gLe (eC (.int 1)) (eCall gLen (aCons (eVar 0) aNil)) (eVar 2))))
def sem_made_of : List D → Option D := fn0 4 body_made_of
def body_are_names : Store → Option O := (sRet 0 (e2 (gEq false) (eLc [1] (iLst (eVar 0)) (gSet 1) (bNot (tBo (eCall (callF 3 [] sem_made_of) (aCons (eVar 1) (aCons (eC (.str "abcdefghijklmnopqrstuvwxyz")) (aCons (eC (.int 12)) aNil)))))) (eVar 1)) (eLst aNil)))
def sem_are_names : List D → Option D := fn0 2 body_are_names
def if_read_line_1 : Store → Option O := (sIf (bAnd (tBo (eCall (callF 3 [] sem_made_of) (aCons (e2 gIx (eVar 2) (eC (.int 2))) (aCons (eC (.str "0123456789")) (aCons (eC (.int 30)) aNil))))) (tBo (e2 (gEq true) (e2 gIx (e2 gIx (eVar 2) (eC (.int 2))) (eC (.int 0))) (eC (.str "0"))))) (sRet 0 (eTup (aCons (eC (.str "hat")) (aCons (e2 gIx (eVar 2) (eC (.int 1))) (aCons (eCall gIntS (aCons (e2 gIx (eVar 2) (eC (.int 2))) aNil)) aNil))))) sNx)
def if_read_line_2 : Store → Option O := (sIf (bAnd (tBo (e2 (gEq false) (e2 gIx (eVar 2) (eC (.int 0))) (eC (.str "hat")))) (bAnd (tBo (e2 (gEq false) (eCall gLen (aCons (eVar 2) aNil)) (eC (.int 3)))) (tBo (eCall (callF 1 [] sem_are_names) (aCons (eSl gSlL (eVar 2) (oSome (eC (.int 1))) (oSome (eC (.int 2)))) aNil))))) if_read_line_1 sNx)
def if_read_line_3 : Store → Option O := (sIf (bOr (tBo (e2 (gEq true) (e2 gIx (eVar 2) (eC (.int 0))) (eC (.str "sees")))) (bOr (tBo (e2 gLt (eCall gLen (aCons (eVar 2) aNil)) (eC (.int 3)))) (bNot (tBo (eCall (callF 1 [] sem_are_names) (aCons (eSl gSlL (eVar 2) (oSome (eC (.int 1))) oNone) aNil)))))) (sRaiseF 0 (eVar 1)) sNx)
def if_read_line_4 : Store → Option O := (sIf (tBo (e2 gLt (eLenSetS (eSl gSlL (eVar 2) (oSome (eC (.int 1))) oNone)) (e2 gSub (eCall gLen (aCons (eVar 2) aNil)) (eC (.int 1))))) (sRaiseF 1 (eVar 1)) sNx)
def body_read_line : Store → Option O := (sSeq (sSet 2 (e2 gSplit (eVar 0) (eC (.str " ")))) (sSeq if_read_line_2 (sSeq if_read_line_3 (sSeq if_read_line_4 (sRet 0 (eTup (aCons (eC (.str "sees")) (aCons (e2 gIx (eVar 2) (eC (.int 1))) (aCons (eCall gTuple (aCons (eSl gSlL (eVar 2) (oSome (eC (.int 2))) oNone) aNil)) aNil)))))))))
def sem_read_line : List D → Option R2 := fnY 3 body_read_line
def if_read_hat_1 : Store → Option O := (sIf (tBo (e2 (gDInK false) (e2 gIx (eVar 1) (eC (.int 1))) (eVar 0))) (sRaiseF 1 (eVar 2)) sNx)
def if_read_hat_2 : Store → Option O := (sIf (tBo (e2 (gEq false) (eCall gLenD (aCons (eVar 0) aNil)) (eC (.int 8)))) (sRaiseF 2 (eVar 2)) sNx)
def body_read_hat : Store → Option O := (sSeq if_read_hat_1 (sSeq if_read_hat_2 (sSetDK 0 (e2 gIx (eVar 1) (eC (.int 2))) (e2 gIx (eVar 1) (eC (.int 1))))))
def sem_read_hat : List D → Option R2 := fnZ 0 3 body_read_hat
def if_read_sight_1 : Store → Option O := (sIf (tBo (e2 (gDInK false) (e2 gIx (eVar 2) (eC (.int 1))) (eVar 1))) (sRaiseF 1 (eVar 3)) sNx)
def if_read_sight_2 : Store → Option O := (sIf (tBo (e2 (gDInK true) (eVar 4) (eVar 0))) (sRaiseF 3 (eVar 3)) sNx)
def lp_read_sight_3 : Store → Option O := if_read_sight_2
def body_read_sight : Store → Option O := (sSeq if_read_sight_1 (sSeq (sFor (iTp (e2 gAdd (eSl gSlT (eVar 2) (oSome (eC (.int 1))) (oSome (eC (.int 2)))) (e2 gIx (eVar 2) (eC (.int 2))))) (gSet 4) lp_read_sight_3) (sSetDK 1 (e2 gIx (eVar 2) (eC (.int 2))) (e2 gIx (eVar 2) (eC (.int 1))))))
def sem_read_sight : List D → Option R2 := fnZ 1 5 body_read_sight
def if_read_book_1 : Store → Option O := (sIf (tBo (e2 (gEq true) (eVar 0) (eC (.str "")))) (sSet 1 (e2 gSplit (eVar 0) (eC (.str "\n")))) sNx)
def if_read_book_2 : Store → Option O := (sIf (tBo (e2 (gEq false) (e2 gIx (eVar 6) (eC (.int 0))) (eC (.str "hat")))) (sCallZ 2 3 sem_read_hat aNil (aCons (eVar 6) (aCons (eVar 4) aNil))) (sCallZ 3 4 sem_read_sight (aCons (eVar 2) aNil) (aCons (eVar 6) (aCons (eVar 4) aNil))))
def lp_read_book_3 : Store → Option O := (sSeq (sSetY 6 2 sem_read_line (aCons (eVar 5) (aCons (eVar 4) aNil))) if_read_book_2)
def lp_read_book_4 : Store → Option O := (sAppend 8 (eClr 0 (eCall gSum (aCons (eLc [10] (iTp (eDGet (eVar 3) (eVar 9) (eTup aNil))) (gSet 10) bYes (e2 gShl (eC (.int 1)) (e2 gIdx (eVar 7) (eVar 10)))) aNil))))
def body_read_book : Store → Option O := (sSeq (sSet 1 (eLst aNil)) (sSeq if_read_book_1 (sSeq (sSet 2 eDct0) (sSeq (sSet 3 eDct0) (sSeq (sFor (iEnmL (eVar 1)) (gSet2 4 5) lp_read_book_3) (sSeq (sSet 7 (eClr 1 (eCall gListD (aCons (eVar 2) aNil)))) (sSeq (sSet 8 (eLst aNil)) (sSeq (sFor (iLst (eVar 7)) (gSet 9) lp_read_book_4) (sRet 0 (eTup (aCons (eCall gTuple (aCons (eVar 7) aNil)) (aCons (eTupVals (eVar 2)) (aCons (eCall gTuple (aCons (eVar 8) aNil)) aNil)))))))))))))
def sem_read_book : List D → Option R2 := fnY 11 body_read_book
def lp__law_draws_1 : Store → Option O := (sSeq (sSet 2 (e2 gMod (e2 gMul (eVar 2) (eC (.int 45742))) (eC (.int 2147483543)))) (sAppend 3 (e2 gDiv (e2 gMod (e2 gMul (eVar 2) (eVar 2)) (eC (.int 2147483579))) (eC (.int 7)))))
def body__law_draws : Store → Option O := (sSeq (sSet 2 (e2 gMod (e2 gMul (e2 gAdd (e2 gMod (eVar 0) (eC (.int 2147483542))) (eC (.int 1))) (eC (.int 1588635695))) (eC (.int 2147483543)))) (sSeq (sSet 3 (eLst aNil)) (sSeq (sFor (iR1 (aCons (eVar 1) aNil)) (gSet 4) lp__law_draws_1) (sRet 1 (eVar 3)))))
def sem__law_draws : List D → Option D := fn0 5 body__law_draws
def if__law_cell_at_1 : Store → Option O := (sIf (tBo (e2 gLt (eVar 1) (eCall gLen (aCons (eVar 0) aNil)))) (sRet 0 (e2 gIx (eVar 0) (eVar 1))) sNx)
def body__law_cell_at : Store → Option O := (sSeq if__law_cell_at_1 (sRet 0 (eC (.int 0))))
def sem__law_cell_at : List D → Option D := fn0 2 body__law_cell_at
def lp__law_fresh_1 : Store → Option O := (sSeq (sSet 0 (e2 gMod (e2 gAdd (e2 gMul (eVar 0) (eC (.int 48271))) (eC (.int 11))) (eC (.int 2147483647)))) (sSet 3 (e2 gAdd (eVar 3) (e2 gIx (eVar 2) (e2 gMod (e2 gDiv (eVar 0) (eC (.int 23))) (eC (.int 26)))))))
def body__law_fresh : Store → Option O := (sSeq (sSet 2 (eC (.str "abcdefghijklmnopqrstuvwxyz"))) (sSeq (sSet 3 (eC (.str ""))) (sSeq (sFor (iR1 (aCons (eVar 1) aNil)) (gSet 4) lp__law_fresh_1) (sRet 0 (eVar 3)))))
def sem__law_fresh : List D → Option D := fn0 5 body__law_fresh
def if__law_names_1 : Store → Option O := (sIf (tBo (e2 gLt (e2 gMod (e2 gIx (eVar 4) (eC (.int 29))) (eC (.int 5))) (eC (.int 2)))) (sSeq (sSet 10 (e2 gIx (eVar 2) (e2 gMod (e2 gAdd (e2 gIx (eVar 4) (eC (.int 30))) (e2 gMul (eVar 8) (e2 gIx (eLst (aCons (eC (.int 1)) (aCons (eC (.int 3)) (aCons (eC (.int 5)) (aCons (eC (.int 7)) (aCons (eC (.int 9)) (aCons (eC (.int 11)) aNil))))))) (e2 gMod (e2 gIx (eVar 4) (eC (.int 31))) (eC (.int 6)))))) (eC (.int 26))))) (sSet 9 (e2 gAdd (e2 gAdd (eSl gSlS (eVar 5) oNone (oSome (eVar 6))) (eVar 10)) (eSl gSlS (eVar 5) (oSome (e2 gAdd (eVar 6) (eC (.int 1)))) oNone)))) sNx)
def if__law_names_2 : Store → Option O := (sIf (tBo (e2 (gEq false) (e2 gMod (e2 gIx (eVar 4) (eC (.int 29))) (eC (.int 5))) (eC (.int 2)))) (sSet 9 (e2 gIx (eVar 3) (e2 gMod (e2 gAdd (e2 gIx (eVar 4) (eC (.int 32))) (e2 gMul (eC (.int 5)) (eVar 8))) (eC (.int 13))))) sNx)
def if__law_names_3 : Store → Option O := (sIf (tBo (e2 (gEq false) (e2 gMod (e2 gIx (eVar 4) (eC (.int 29))) (eC (.int 5))) (eC (.int 3)))) (sSeq (sSet 11 (e2 gAdd (eC (.int 1)) (e2 gMod (e2 gAdd (e2 gMul (eC (.int 5)) (eVar 8)) (e2 gIx (eVar 4) (eC (.int 32)))) (eC (.int 12))))) (sSet 9 (e2 gIx (eLst (aCons (eSl gSlS (e2 gAdd (eVar 5) (eC (.str "abcdefghijkl"))) oNone (oSome (eVar 11))) (aCons (eSl gSlS (e2 gAdd (eC (.str "abcdefghijkl")) (eVar 5)) (oSome (eUn (fun i => -i) (eVar 11))) oNone) aNil))) (e2 gMod (e2 gIx (eVar 4) (eC (.int 33))) (eC (.int 2)))))) sNx)
def if__law_names_4 : Store → Option O := (sIf (tBo (e2 (gIn true) (eVar 9) (eVar 7))) (sAppend 7 (eVar 9)) sNx)
def lp__law_names_5 : Store → Option O := (sSeq (sSet 9 (eCall (callF 2 [] sem__law_fresh) (aCons (e2 gIx (eVar 4) (e2 gAdd (eC (.int 3)) (eVar 8))) (aCons (e2 gAdd (eC (.int 1)) (e2 gMod (e2 gIx (eVar 4) (e2 gAdd (eC (.int 16)) (eVar 8))) (eC (.int 12)))) aNil)))) (sSeq if__law_names_1 (sSeq if__law_names_2 (sSeq if__law_names_3 if__law_names_4))))
def body__law_names : Store → Option O := (sSeq (sSet 2 (eC (.str "abcdefghijklmnopqrstuvwxyz"))) (sSeq (sSet 3 (eLst (aCons (eC (.str "hat")) (aCons (eC (.str "sees")) (aCons (eC (.str "put")) (aCons (eC (.str "guess")) (aCons (eC (.str "right")) (aCons (eC (.str "ring")) (aCons (eC (.str "order")) (aCons (eC (.str "book")) (aCons (eC (.str "sure")) (aCons (eC (.str "share")) (aCons (eC (.str "groups")) aNil))))))))))))) (sSeq (sSet 3 (e2 gAdd (eVar 3) (eLst (aCons (eC (.str "circle")) (aCons (eC (.str "hats")) aNil))))) (sSeq (sSet 4 (eCall (callF 2 [] sem__law_draws) (aCons (eVar 0) (aCons (eC (.int 40)) aNil)))) (sSeq (sSet 5 (eCall (callF 2 [] sem__law_fresh) (aCons (e2 gIx (eVar 4) (eC (.int 0))) (aCons (e2 gAdd (eC (.int 1)) (e2 gMod (e2 gIx (eVar 4) (eC (.int 1))) (eC (.int 12)))) aNil)))) (sSeq (sSet 6 (e2 gMod (e2 gIx (eVar 4) (eC (.int 2))) (eCall gLen (aCons (eVar 5) aNil)))) (sSeq (sSet 7 (eLst aNil)) (sSeq (sFor (iR1 (aCons (eVar 1) aNil)) (gSet 8) lp__law_names_5) (sRet 1 (eVar 7))))))))))
def sem__law_names : List D → Option D := fn0 12 body__law_names
def if__law_count_1 : Store → Option O := (sIf (tBo (e2 (gEq false) (eVar 3) (eC (.int 0)))) (sRet 0 (e2 gAdd (eC (.int 1)) (e2 gMod (e2 gDiv (eVar 0) (eC (.int 7))) (e2 gSub (e2 gPow (eC (.int 10)) (eC (.int 30))) (eC (.int 1)))))) sNx)
def if__law_count_2 : Store → Option O := (sIf (tBo (e2 (gEq false) (eVar 3) (eC (.int 1)))) (sRet 0 (e2 gIx (eLst (aCons (eC (.int 1)) (aCons (e2 gSub (e2 gPow (eC (.int 10)) (eC (.int 30))) (eC (.int 1))) (aCons (e2 gPow (eC (.int 10)) (eC (.int 29))) (aCons (eC (.int 2)) (aCons (eC (.int 9)) (aCons (eC (.int 10)) (aCons (eC (.int 99)) (aCons (eC (.int 100)) aNil))))))))) (e2 gMod (e2 gIx (eVar 2) (eC (.int 1))) (eC (.int 8))))) sNx)
def if__law_count_3 : Store → Option O := (sIf (tBo (e2 (gEq false) (eVar 3) (eC (.int 2)))) (sRet 0 (e2 gAdd (eC (.int 1)) (e2 gMod (e2 gAdd (e2 gAdd (e2 gMul (e2 gIx (eVar 2) (eC (.int 1))) (e2 gPow (eC (.int 10)) (eC (.int 18)))) (e2 gMul (e2 gIx (eVar 2) (eC (.int 2))) (e2 gPow (eC (.int 10)) (eC (.int 9))))) (e2 gIx (eVar 2) (eC (.int 3)))) (e2 gSub (e2 gPow (eC (.int 10)) (eC (.int 30))) (eC (.int 1)))))) sNx)
def body__law_count : Store → Option O := (sSeq (sSet 2 (eCall (callF 2 [] sem__law_draws) (aCons (e2 gAdd (e2 gDiv (eVar 0) (eC (.int 3))) (e2 gMul (eC (.int 31)) (eVar 1))) (aCons (eC (.int 6)) aNil)))) (sSeq (sSet 3 (e2 gMod (e2 gIx (eVar 2) (eC (.int 0))) (eC (.int 6)))) (sSeq if__law_count_1 (sSeq if__law_count_2 (sSeq if__law_count_3 (sRet 0 (e2 gAdd (eC (.int 1)) (e2 gMod (e2 gIx (eVar 2) (eC (.int 1))) (eC (.int 7))))))))))
def sem__law_count : List D → Option D := fn0 4 body__law_count
def if__law_people_1 : Store → Option O := (sIf (tBo (e2 (gEq false) (e2 gMod (e2 gDiv (eCall (callF 2 [] sem__law_cell_at) (aCons (eVar 0) (aCons (eC (.int 0)) aNil))) (eC (.int 9))) (eC (.int 11))) (eC (.int 5)))) (sSet 1 (eLst aNil)) sNx)
def lp__law_people_2 : Store → Option O := (sAppend 2 (eCall (callF 2 [] sem__law_count) (aCons (eCall (callF 2 [] sem__law_cell_at) (aCons (eVar 0) (aCons (e2 gAdd (eC (.int 1)) (eVar 3)) aNil))) (aCons (eVar 3) aNil))))
def if__law_people_3 : Store → Option O := (sIf (tBo (e2 (gEq false) (e2 gMod (e2 gIx (eVar 5) (eC (.int 1))) (eC (.int 4))) (eC (.int 0)))) (sSet 6 (eClr 0 (e2 gSub (e2 gShl (eC (.int 1)) (eCall gLen (aCons (eVar 1) aNil))) (eC (.int 1))))) sNx)
def if__law_people_4 : Store → Option O := (sIf (tBo (e2 (gEq false) (e2 gMod (e2 gIx (eVar 5) (eC (.int 1))) (eC (.int 4))) (eC (.int 1)))) (sSet 6 (eClr 0 (e2 gAnd (eVar 6) (e2 gMod (e2 gIx (eVar 5) (eC (.int 2))) (e2 gShl (eC (.int 1)) (eCall gLen (aCons (eVar 1) aNil))))))) sNx)
def lp__law_people_5 : Store → Option O := (sSeq (sSet 5 (eCall (callF 2 [] sem__law_draws) (aCons (e2 gAdd (eCall (callF 2 [] sem__law_cell_at) (aCons (eVar 0) (aCons (e2 gAdd (eC (.int 9)) (eVar 3)) aNil))) (e2 gMul (eC (.int 7)) (eVar 3))) (aCons (eC (.int 4)) aNil)))) (sSeq (sSet 6 (eClr 0 (e2 gMod (e2 gIx (eVar 5) (eC (.int 0))) (e2 gShl (eC (.int 1)) (eCall gLen (aCons (eVar 1) aNil)))))) (sSeq if__law_people_3 (sSeq if__law_people_4 (sAppend 4 (e2 gSub (eVar 6) (e2 gMul (e2 gMod (e2 gDiv (eVar 6) (e2 gShl (eC (.int 1)) (eVar 3))) (eC (.int 2))) (e2 gShl (eC (.int 1)) (eVar 3)))))))))
def body__law_people : Store → Option O := (sSeq (sSet 1 (eCall (callF 2 [] sem__law_names) (aCons (e2 gDiv (eCall (callF 2 [] sem__law_cell_at) (aCons (eVar 0) (aCons (eC (.int 0)) aNil))) (eC (.int 9))) (aCons (e2 gAdd (eC (.int 1)) (e2 gMod (eCall (callF 2 [] sem__law_cell_at) (aCons (eVar 0) (aCons (eC (.int 0)) aNil))) (eC (.int 8)))) aNil)))) (sSeq if__law_people_1 (sSeq (sSet 2 (eLst aNil)) (sSeq (sFor (iR1 (aCons (eCall gLen (aCons (eVar 1) aNil)) aNil)) (gSet 3) lp__law_people_2) (sSeq (sSet 4 (eLst aNil)) (sSeq (sFor (iR1 (aCons (eCall gLen (aCons (eVar 1) aNil)) aNil)) (gSet 3) lp__law_people_5) (sRet3 1 2 4)))))))
def sem__law_people : List D → Option D := fn0 7 body__law_people
def lp__law_mixed_lines_1 : Store → Option O := (sAppend 5 (e2 gAdd (e2 gAdd (e2 gAdd (eC (.str "hat ")) (e2 gIx (eVar 2) (eVar 6))) (eC (.str " "))) (eCall gStr (aCons (e2 gIx (eVar 3) (eVar 6)) aNil))))
def if__law_mixed_lines_2 : Store → Option O := (sIf (tBo (e2 (gEq false) (e2 gMod (e2 gIx (eVar 1) (eC (.int 0))) (eC (.int 2))) (eC (.int 1)))) (sSet 7 (eRev (eVar 7))) sNx)
def if__law_mixed_lines_3 : Store → Option O := (sIf (tBo (e2 (gEq false) (e2 gMod (e2 gIx (eVar 1) (e2 gAdd (eC (.int 9)) (eVar 8))) (eC (.int 2))) (eC (.int 1)))) (sSet 9 (eRev (eVar 9))) sNx)
def if__law_mixed_lines_4 : Store → Option O := (sIf (tBo (e2 (gEq true) (eVar 9) (eLst aNil))) (sSeq (sSet 11 (e2 gMod (e2 gIx (eVar 1) (e2 gAdd (eC (.int 1)) (eVar 8))) (eCall gLen (aCons (eVar 9) aNil)))) (sSeq (sSet 9 (e2 gAdd (eSl gSlL (eVar 9) (oSome (eVar 11)) oNone) (eSl gSlL (eVar 9) oNone (oSome (eVar 11))))) (sSeq if__law_mixed_lines_3 (sSeq (sSet 12 (eLc [10] (iLst (e2 gAdd (eVar 9) (eLst (aCons (eVar 8) aNil)))) (gSet 10) bYes (e2 gAdd (e2 gAdd (e2 gAdd (eC (.str "hat ")) (e2 gIx (eVar 2) (eVar 10))) (eC (.str " "))) (eCall gStr (aCons (e2 gIx (eVar 3) (eVar 10)) aNil))))) (sSeq (sSet 13 (eClr 0 (e2 gAdd (eC (.int 1)) (eCall gMax (aCons (eLc [14] (iLst (eVar 12)) (gSet 14) bYes (e2 gIdx (eVar 5) (eVar 14))) aNil))))) (sSeq (sSet 11 (eClr 0 (e2 gAdd (eVar 13) (e2 gMod (e2 gIx (eVar 1) (e2 gAdd (eC (.int 17)) (eVar 8))) (e2 gAdd (e2 gSub (eCall gLen (aCons (eVar 5) aNil)) (eVar 13)) (eC (.int 1))))))) (sInsert 5 (eVar 11) (e2 gJoin (eC (.str " ")) (e2 gAdd (eLst (aCons (eC (.str "sees")) (aCons (e2 gIx (eVar 2) (eVar 8)) aNil))) (eLc [10] (iLst (eVar 9)) (gSet 10) bYes (e2 gIx (eVar 2) (eVar 10)))))))))))) sNx)
def lp__law_mixed_lines_5 : Store → Option O := (sSeq (sSet 9 (eLc [10] (iR1 (aCons (eCall gLen (aCons (eVar 2) aNil)) aNil)) (gSet 10) (tBo (e2 (gEq false) (e2 gMod (e2 gDiv (e2 gIx (eVar 4) (eVar 8)) (e2 gShl (eC (.int 1)) (eVar 10))) (eC (.int 2))) (eC (.int 1)))) (eVar 10))) if__law_mixed_lines_4)
def body__law_mixed_lines : Store → Option O := (sSeq (sUnp (eVar 0) (gSet3L 2 3 4)) (sSeq (sSet 5 (eLst aNil)) (sSeq (sFor (iR1 (aCons (eCall gLen (aCons (eVar 2) aNil)) aNil)) (gSet 6) lp__law_mixed_lines_1) (sSeq (sSet 7 (eLRg (rg1 (eCall gLen (aCons (eVar 2) aNil))))) (sSeq if__law_mixed_lines_2 (sSeq (sFor (iLst (eVar 7)) (gSet 8) lp__law_mixed_lines_5) (sRet 1 (eVar 5))))))))
def sem__law_mixed_lines : List D → Option D := fn0 15 body__law_mixed_lines
def if__law_shown_1 : Store → Option O := (sIf (tBo (e2 (gEq true) (eVar 7) (eLst aNil))) (sAppend 4 (e2 gJoin (eC (.str " ")) (e2 gAdd (eLst (aCons (eC (.str "sees")) (aCons (e2 gIx (eVar 1) (eVar 6)) aNil))) (eVar 7)))) sNx)
def lp__law_shown_2 : Store → Option O := (sSeq (sSet 7 (eLc [8] (iR1 (aCons (eCall gLen (aCons (eVar 1) aNil)) aNil)) (gSet 8) (tBo (e2 (gEq false) (e2 gMod (e2 gDiv (e2 gIx (eVar 3) (eVar 6)) (e2 gShl (eC (.int 1)) (eVar 8))) (eC (.int 2))) (eC (.int 1)))) (e2 gIx (eVar 1) (eVar 8)))) if__law_shown_1)
def body__law_shown : Store → Option O := (sSeq (sUnp (eVar 0) (gSet3 1 2 3)) (sSeq (sSet 4 (eLc [5] (iR1 (aCons (eCall gLen (aCons (eVar 1) aNil)) aNil)) (gSet 5) bYes (e2 gAdd (e2 gAdd (e2 gAdd (eC (.str "hat ")) (e2 gIx (eVar 1) (eVar 5))) (eC (.str " "))) (eCall gStr (aCons (e2 gIx (eVar 2) (eVar 5)) aNil))))) (sSeq (sFor (iR1 (aCons (eCall gLen (aCons (eVar 1) aNil)) aNil)) (gSet 6) lp__law_shown_2) (sRet 0 (e2 gJoin (eC (.str "\n")) (eVar 4))))))
def sem__law_shown : List D → Option D := fn0 9 body__law_shown
def if__law_made_of_1 : Store → Option O := (sIf (tBo (e2 (gInS true) (eVar 3) (eVar 1))) (sRet 0 (eC (.bl false))) sNx)
def lp__law_made_of_2 : Store → Option O := if__law_made_of_1
def body__law_made_of : Store → Option O := (sSeq (sFor (iSt (eVar 0)) (gSet 3) lp__law_made_of_2) (sRet 0 (eChain gLe gLe (eC (.int 1)) (eCall gLen (aCons (eVar 0) aNil)) (eVar 2))))
def sem__law_made_of : List D → Option D := fn0 4 body__law_made_of
def if__law_is_line_1 : Store → Option O := (sIf (bAnd (tBo (e2 (gEq false) (e2 gIx (eVar 2) (eC (.int 0))) (eC (.str "hat")))) (bAnd (tBo (e2 (gEq false) (eCall gLen (aCons (eVar 2) aNil)) (eC (.int 3)))) (tBo (eCall (callF 3 [] sem__law_made_of) (aCons (e2 gIx (eVar 2) (eC (.int 1))) (aCons (eVar 1) (aCons (eC (.int 12)) aNil))))))) (sRet 0 (eAnd (eCall (callF 3 [] sem__law_made_of) (aCons (e2 gIx (eVar 2) (eC (.int 2))) (aCons (eC (.str "0123456789")) (aCons (eC (.int 30)) aNil)))) (e2 (gEq true) (e2 gIx (e2 gIx (eVar 2) (eC (.int 2))) (eC (.int 0))) (eC (.str "0"))))) sNx)
def if__law_is_line_2 : Store → Option O := (sIf (bOr (tBo (e2 (gEq true) (e2 gIx (eVar 2) (eC (.int 0))) (eC (.str "sees")))) (tBo (e2 gLt (eCall gLen (aCons (eVar 2) aNil)) (eC (.int 3))))) (sRet 0 (eC (.bl false))) sNx)
def body__law_is_line : Store → Option O := (sSeq (sSet 1 (eC (.str "abcdefghijklmnopqrstuvwxyz"))) (sSeq (sSet 2 (e2 gSplit (eVar 0) (eC (.str " ")))) (sSeq if__law_is_line_1 (sSeq if__law_is_line_2 (sRet 0 (e2 (gEq false) (eLc [3] (iLst (eSl gSlL (eVar 2) (oSome (eC (.int 1))) oNone)) (gSet 3) (bNot (tBo (eCall (callF 3 [] sem__law_made_of) (aCons (eVar 3) (aCons (eVar 1) (aCons (eC (.int 12)) aNil)))))) (eVar 3)) (eLst aNil)))))))
def sem__law_is_line : List D → Option D := fn0 4 body__law_is_line
def if__law_first_1 : Store → Option O := (sIf (bNot (tBo (eCall (callF 1 [] sem__law_is_line) (aCons (e2 gIx (eVar 0) (eVar 3)) aNil)))) (sRet 1 (eLst (aCons (eC (.int 0)) (aCons (eVar 3) aNil)))) sNx)
def if__law_first_2 : Store → Option O := (sIf (tBo (e2 (gIn false) (e2 gIx (eVar 4) (eC (.int 1))) (eVar 1))) (sRet 1 (eLst (aCons (eC (.int 1)) (aCons (eVar 3) aNil)))) sNx)
def if__law_first_3 : Store → Option O := (sIf (tBo (e2 (gEq false) (eCall gLen (aCons (eVar 1) aNil)) (eC (.int 8)))) (sRet 1 (eLst (aCons (eC (.int 3)) (aCons (eVar 3) aNil)))) sNx)
def if__law_first_4 : Store → Option O := (sIf (bOr (tBo (e2 gLt (eLenSetS (eSl gSlL (eVar 4) (oSome (eC (.int 1))) oNone)) (e2 gSub (eCall gLen (aCons (eVar 4) aNil)) (eC (.int 1))))) (tBo (e2 (gIn false) (e2 gIx (eVar 4) (eC (.int 1))) (eVar 2)))) (sRet 1 (eLst (aCons (eC (.int 1)) (aCons (eVar 3) aNil)))) sNx)
def if__law_first_5 : Store → Option O := (sIf (tBo (e2 (gEq true) (eLc [5] (iLst (eSl gSlL (eVar 4) (oSome (eC (.int 1))) oNone)) (gSet 5) (tBo (e2 (gIn true) (eVar 5) (eVar 1))) (eVar 5)) (eLst aNil))) (sRet 1 (eLst (aCons (eC (.int 2)) (aCons (eVar 3) aNil)))) sNx)
def if__law_first_6 : Store → Option O := (sIf (tBo (e2 (gEq false) (e2 gIx (eVar 4) (eC (.int 0))) (eC (.str "hat")))) (sSeq if__law_first_2 (sSeq if__law_first_3 (sAppend 1 (e2 gIx (eVar 4) (eC (.int 1)))))) (sSeq if__law_first_4 (sSeq if__law_first_5 (sAppend 2 (e2 gIx (eVar 4) (eC (.int 1)))))))
def lp__law_first_7 : Store → Option O := (sSeq (sSet 4 (e2 gSplit (e2 gIx (eVar 0) (eVar 3)) (eC (.str " ")))) (sSeq if__law_first_1 if__law_first_6))
def body__law_first : Store → Option O := (sSeq (sSet 1 (eLst aNil)) (sSeq (sSet 2 (eLst aNil)) (sSeq (sFor (iR1 (aCons (eCall gLen (aCons (eVar 0) aNil)) aNil)) (gSet 3) lp__law_first_7) (sRet 1 (eLst aNil)))))
def sem__law_first : List D → Option D := fn0 6 body__law_first
def if__law_bad_line_1 : Store → Option O := (sIf (bOr (tBo (e2 (gEq false) (eVar 4) (eC (.int 0)))) (tBo (e2 gLt (eCall gLen (aCons (eVar 2) aNil)) (eC (.int 2))))) (sRet 0 (e2 gIx (eVar 3) (e2 gMod (e2 gIx (eVar 0) (eC (.int 1))) (eC (.int 10))))) sNx)
def if__law_bad_line_2 : Store → Option O := (sIf (tBo (e2 (gEq false) (eVar 4) (eC (.int 1)))) (sSeq (sSet 6 (e2 gMod (e2 gIx (eVar 0) (eC (.int 3))) (e2 gAdd (eCall gLen (aCons (eVar 5) aNil)) (eC (.int 1))))) (sSeq (sSet 7 (e2 gIx (eLst (aCons (eC (.str "")) (aCons (eC (.str "a")) (aCons (eC (.str " ")) (aCons (eC (.str "1")) (aCons (eC (.str "0")) (aCons (eC (.str "_")) (aCons (eC (.str "A")) (aCons (eC (.str " a")) aNil))))))))) (e2 gMod (e2 gIx (eVar 0) (eC (.int 4))) (eC (.int 8))))) (sRet 0 (e2 gAdd (e2 gAdd (eSl gSlS (eVar 5) oNone (oSome (eVar 6))) (eVar 7)) (eSl gSlS (eVar 5) (oSome (e2 gAdd (eVar 6) (e2 gMod (e2 gIx (eVar 0) (eC (.int 5))) (eC (.int 2))))) oNone))))) sNx)
def if__law_bad_line_3 : Store → Option O := (sIf (bAnd (tBo (e2 (gEq false) (eVar 4) (eC (.int 2)))) (bAnd (tBo (e2 (gEq false) (eSl gSlS (eVar 5) oNone (oSome (eC (.int 4)))) (eC (.str "hat ")))) (tBo (e2 (gEq false) (e2 gMod (e2 gIx (eVar 0) (eC (.int 13))) (eC (.int 2))) (eC (.int 0)))))) (sRet 0 (e2 gJoin (eC (.str " ")) (e2 gAdd (eSl gSlL (e2 gSplit (eVar 5) (eC (.str " "))) oNone (oSome (eC (.int 2)))) (eLst (aCons (eCall gStr (aCons (eCall (callF 2 [] sem__law_count) (aCons (e2 gIx (eVar 0) (eC (.int 12))) (aCons (eC (.int 5)) aNil))) aNil)) aNil))))) sNx)
def if__law_bad_line_4 : Store → Option O := (sIf (tBo (e2 (gEq false) (eVar 4) (eC (.int 2)))) (sRet 0 (eVar 5)) sNx)
def if__law_bad_line_5 : Store → Option O := (sIf (tBo (e2 (gEq false) (eVar 4) (eC (.int 3)))) (sSeq (sSet 6 (e2 gMod (e2 gIx (eVar 0) (eC (.int 6))) (eCall gLen (aCons (eVar 2) aNil)))) (sRet 0 (e2 gJoin (eC (.str " ")) (e2 gAdd (eLst (aCons (eC (.str "sees")) aNil)) (eSl gSlL (e2 gAdd (eSl gSlL (eVar 2) (oSome (eVar 6)) oNone) (eSl gSlL (eVar 2) oNone (oSome (eVar 6)))) oNone (oSome (e2 gAdd (eC (.int 2)) (e2 gMod (e2 gIx (eVar 0) (eC (.int 7))) (eC (.int 7)))))))))) sNx)
def if__law_bad_line_6 : Store → Option O := (sIf (tBo (e2 (gEq false) (eVar 4) (eC (.int 4)))) (sRet 0 (e2 gJoin (eC (.str " ")) (eLst (aCons (eC (.str "sees")) (aCons (e2 gIx (eVar 2) (eC (.int 0))) (aCons (e2 gIx (eVar 2) (eUn (fun i => -i) (eC (.int 1)))) (aCons (e2 gIx (eVar 2) (e2 gMod (e2 gIx (eVar 0) (eC (.int 8))) (eCall gLen (aCons (eVar 2) aNil)))) aNil))))))) sNx)
def if__law_bad_line_7 : Store → Option O := (sIf (tBo (e2 (gEq false) (eVar 4) (eC (.int 5)))) (sSeq (sSet 9 (eLst (aCons (eC (.str "sees")) (aCons (e2 gIx (eVar 2) (e2 gMod (e2 gIx (eVar 0) (eC (.int 9))) (eCall gLen (aCons (eVar 2) aNil)))) (aCons (eVar 8) (aCons (eVar 8) (aCons (e2 gIx (eVar 2) (e2 gMod (e2 gIx (eVar 0) (eC (.int 8))) (eCall gLen (aCons (eVar 2) aNil)))) aNil))))))) (sRet 0 (e2 gJoin (eC (.str " ")) (e2 gAdd (eSl gSlL (eVar 9) oNone (oSome (eC (.int 3)))) (eSl gSlL (eVar 9) (oSome (e2 gAdd (eC (.int 3)) (e2 gMod (e2 gIx (eVar 0) (eC (.int 7))) (eC (.int 2))))) (oSome (e2 gAdd (eC (.int 3)) (e2 gMod (e2 gIx (eVar 0) (eC (.int 7))) (eC (.int 3)))))))))) sNx)
def if__law_bad_line_8 : Store → Option O := (sIf (tBo (e2 (gEq false) (eVar 4) (eC (.int 6)))) (sRet 0 (e2 gJoin (eC (.str " ")) (e2 gAdd (eLst (aCons (eC (.str "sees")) (aCons (eVar 8) aNil))) (eSl gSlL (eVar 2) oNone (oSome (e2 gAdd (eC (.int 1)) (e2 gMod (e2 gIx (eVar 0) (eC (.int 8))) (eC (.int 2))))))))) sNx)
def if__law_bad_line_9 : Store → Option O := (sIf (tBo (e2 (gEq false) (eVar 4) (eC (.int 7)))) (sSeq (sSet 10 (eLc [11] (iSt (eC (.str "abcdefghijkl"))) (gSet 11) bYes (e2 gAdd (eVar 11) (eC (.str "zx"))))) (sRet 0 (e2 gJoin (eC (.str " ")) (e2 gAdd (eLst (aCons (eC (.str "sees")) (aCons (e2 gIx (eVar 2) (e2 gMod (e2 gIx (eVar 0) (eC (.int 9))) (eCall gLen (aCons (eVar 2) aNil)))) aNil))) (eSl gSlL (eVar 10) (oSome (e2 gMod (e2 gIx (eVar 0) (eC (.int 7))) (eC (.int 4)))) oNone))))) sNx)
def body__law_bad_line : Store → Option O := (sSeq (sSet 3 (eLst (aCons (eC (.str "")) (aCons (eC (.str "hat")) (aCons (eC (.str "sees")) (aCons (eC (.str "hat a")) (aCons (eC (.str "sees a")) (aCons (eC (.str "hat a 0")) (aCons (eC (.str "hat a 01")) (aCons (eC (.str "hat  a 1")) (aCons (eC (.str "sees a b ")) (aCons (eC (.str "Hat a 1")) aNil)))))))))))) (sSeq (sSet 4 (e2 gMod (e2 gIx (eVar 0) (eC (.int 0))) (eC (.int 9)))) (sSeq if__law_bad_line_1 (sSeq (sSet 5 (e2 gIx (eVar 1) (e2 gMod (e2 gIx (eVar 0) (eC (.int 2))) (eCall gLen (aCons (eVar 1) aNil))))) (sSeq if__law_bad_line_2 (sSeq if__law_bad_line_3 (sSeq if__law_bad_line_4 (sSeq if__law_bad_line_5 (sSeq if__law_bad_line_6 (sSeq (sSet 8 (eCall (callF 2 [] sem__law_fresh) (aCons (e2 gIx (eVar 0) (eC (.int 10))) (aCons (e2 gAdd (eC (.int 1)) (e2 gMod (e2 gIx (eVar 0) (eC (.int 11))) (eC (.int 4)))) aNil)))) (sSeq if__law_bad_line_7 (sSeq if__law_bad_line_8 (sSeq if__law_bad_line_9 (sRet 0 (e2 gAdd (e2 gAdd (e2 gAdd (eC (.str "hat ")) (eCall (callF 2 [] sem__law_fresh) (aCons (e2 gIx (eVar 0) (eC (.int 10))) (aCons (e2 gAdd (eC (.int 1)) (e2 gMod (e2 gIx (eVar 0) (eC (.int 11))) (eC (.int 12)))) aNil)))) (eC (.str " "))) (eCall gStr (aCons (eCall (callF 2 [] sem__law_count) (aCons (e2 gIx (eVar 0) (eC (.int 12))) (aCons (eC (.int 3)) aNil))) aNil)))))))))))))))))
def sem__law_bad_line : List D → Option D := fn0 12 body__law_bad_line
def if__law_spoilt_text_1 : Store → Option O := (sIf (bAnd (tBo (e2 (gEq false) (e2 gMod (e2 gIx (eVar 2) (eC (.int 26))) (eC (.int 4))) (eC (.int 0)))) (tBo (e2 gGt (eCall gLen (aCons (eVar 3) aNil)) (eC (.int 1))))) (sSeq (sSetX 5 (xPop 3 (eClr 0 (e2 gMod (e2 gIx (eVar 2) (eC (.int 27))) (eCall gLen (aCons (eVar 3) aNil)))))) (sInsert 3 (eClr 0 (e2 gMod (e2 gIx (eVar 2) (eC (.int 28))) (e2 gAdd (eCall gLen (aCons (eVar 3) aNil)) (eC (.int 1))))) (eVar 5))) sNx)
def if__law_spoilt_text_2 : Store → Option O := (sIf (tBo (e2 (gEq false) (e2 gMod (e2 gIx (eVar 2) (e2 gAdd (eC (.int 32)) (eVar 6))) (eC (.int 4))) (eC (.int 0)))) (sSet 8 (eClr 0 (e2 gIx (eLst (aCons (eC (.int 0)) (aCons (eCall gLen (aCons (eVar 3) aNil)) aNil))) (e2 gMod (e2 gIx (eVar 2) (e2 gAdd (eC (.int 34)) (eVar 6))) (eC (.int 2)))))) sNx)
def lp__law_spoilt_text_3 : Store → Option O := (sSeq (sSet 7 (eClr 0 (eCall (callF 3 [] sem__law_bad_line) (aCons (eCall (callF 2 [] sem__law_draws) (aCons (e2 gAdd (eCall (callF 2 [] sem__law_cell_at) (aCons (eVar 0) (aCons (e2 gAdd (eC (.int 18)) (eVar 6)) aNil))) (e2 gMul (eC (.int 5)) (eVar 6))) (aCons (eC (.int 14)) aNil))) (aCons (eVar 4) (aCons (e2 gIx (eVar 1) (eC (.int 0))) aNil)))))) (sSeq (sSet 8 (eClr 0 (e2 gMod (e2 gIx (eVar 2) (e2 gAdd (eC (.int 30)) (eVar 6))) (e2 gAdd (eCall gLen (aCons (eVar 3) aNil)) (eC (.int 1)))))) (sSeq if__law_spoilt_text_2 (sInsert 3 (eVar 8) (eVar 7)))))
def body__law_spoilt_text : Store → Option O := (sSeq (sSet 1 (eCall (callF 1 [] sem__law_people) (aCons (eVar 0) aNil))) (sSeq (sSet 2 (eCall (callF 2 [] sem__law_draws) (aCons (eCall (callF 2 [] sem__law_cell_at) (aCons (eVar 0) (aCons (eC (.int 17)) aNil))) (aCons (eC (.int 40)) aNil)))) (sSeq (sSet 3 (eCall (callF 2 [] sem__law_mixed_lines) (aCons (eVar 1) (aCons (eVar 2) aNil)))) (sSeq (sSet 4 (eClr 1 (eCall gList (aCons (eVar 3) aNil)))) (sSeq if__law_spoilt_text_1 (sSeq (sFor (iR1 (aCons (e2 gMod (e2 gIx (eVar 2) (eC (.int 29))) (eC (.int 3))) aNil)) (gSet 6) lp__law_spoilt_text_3) (sRet 1 (eVar 3))))))))
def sem__law_spoilt_text : List D → Option D := fn0 9 body__law_spoilt_text
def tb__law_right_1 : Store → Option O := (sSetY 4 1 sem_read_book (aCons (eVar 0) aNil))
def if__law_right_2 : Store → Option O := (sIf (tBo (e2 (gEq false) (eVar 1) (eLst aNil))) (sRet 0 (eAnd (e2 (gEq false) (eVar 2) (eLst aNil)) (eAnd (eIsT "tuple" (eVar 4)) (e2 (gEq false) (eCall gLen (aCons (eVar 4) aNil)) (eC (.int 3)))))) sNx)
def if__law_right_3 : Store → Option O := (sIf (bOr (tBo (e2 (gEq true) (eVar 2) (e2 gAdd (eLc [6] (iR1 (aCons (eC (.int 4)) aNil)) (gSet 6) bYes (e2 (gEq false) (eVar 6) (e2 gIx (eVar 1) (eC (.int 0))))) (eLst (aCons (eC (.bl true)) (aCons (eC (.bl true)) aNil)))))) (tBo (eIsT "bool" (eVar 3)))) (sRet 0 (eC (.bl false))) sNx)
def sg__law_right_2 : Nat → Int → Store → Option Store := fun t w => (cSeq (cBls 2 [(kb_NoLine t), (kb_Twice t), (kb_Unknown t), (kb_TooMany t)]) (cSeq (cCat 2 [(kb_HatError t), (kb_ValueError t)]) (cFld 3 w)))
def body__law_right : Store → Option O := (sSeq (sSet 2 (eLst aNil)) (sSeq (sSet 3 (eC (.int 0))) (sSeq (sSet 4 (eC .non)) (sSeq (sTryF 5 2 4 7 tb__law_right_1 sg__law_right_2) (sSeq if__law_right_2 (sSeq if__law_right_3 (sRet 0 (eAnd (eIsT "int" (eVar 3)) (e2 (gEq false) (eVar 3) (e2 gIx (eVar 1) (eC (.int 1))))))))))))
def sem__law_right : List D → Option D := fn0 7 body__law_right
def if_law_1 : Store → Option O := (sIf (tBo (e2 (gEq false) (eVar 1) (eLst (aCons (eC (.str "")) aNil)))) (sSet 3 (eLst aNil)) sNx)
def if_law_2 : Store → Option O := (sIf (bNot (tBo (eCall (callF 2 [] sem__law_right) (aCons (e2 gJoin (eC (.str "\n")) (eVar 1)) (aCons (eVar 3) aNil))))) (sRet 0 (eC (.bl false))) sNx)
def if_law_3 : Store → Option O := (sIf (tBo (e2 (gEq false) (eVar 3) (eLst aNil))) (sRet 0 (eC (.bl true))) sNx)
def lp_law_4 : Store → Option O := (sSeq (sSet 3 (eClr 1 (eCall (callF 1 [] sem__law_first) (aCons (eVar 1) aNil)))) (sSeq if_law_1 (sSeq if_law_2 (sSeq if_law_3 (sDropX (xPop 1 (eClr 0 (e2 gIx (eVar 3) (eC (.int 1))))))))))
def body_law : Store → Option O := (sSeq (sSet 1 (eCall (callF 1 [] sem__law_spoilt_text) (aCons (eVar 0) aNil))) (sSeq (sFor (iR1 (aCons (eC (.int 3)) aNil)) (gSet 2) lp_law_4) (sRet 0 (eC (.bl true)))))
def sem_law : List D → Option D := fn0 4 body_law
end
end K04

namespace K04
open PySem VL
def ci (xs : List Nat) : List Int := xs.map fun j : Nat => (j : Int)
/-! who is put behind whom: O the people so far, d their mask; each sees only people ahead -/
structure Gd (ws : List Nat) (O : List Nat) (d : Nat) : Prop where
  bit : ∀ p, d.testBit p = true ↔ p ∈ O
  nd : O.Nodup
  lt : ∀ p ∈ O, p < ws.length
  see : ∀ k (h : k < O.length), ∀ j, (ws.getD O[k] 0).testBit j = true → j ∈ O.take k
/-- nobody more can be put -/
def Cl (ws : List Nat) (d : Nat) : Prop := ∀ p, p < ws.length → d.testBit p = false → ∃ j, (ws.getD p 0).testBit j = true ∧ d.testBit j = false
theorem Gd.nil {ws : List Nat} : Gd ws [] 0 := ⟨fun p => by simp, .nil, fun _ m => (nomatch m), fun k h => absurd h (Nat.not_lt_zero k)⟩
section
variable {ws O O' : List Nat} {d d' : Nat}
theorem Gd.len (g : Gd ws O d) : O.length ≤ ws.length := by
  have := List.Nodup.length_le_of_subset g.nd (l₂ := List.range ws.length) fun p m => List.mem_range.mpr (g.lt p m)
  rwa [List.length_range] at this
theorem Gd.add (g : Gd ws O d) {p : Nat} (hp : p < ws.length) (h0 : d.testBit p = false) (hs : ∀ j, (ws.getD p 0).testBit j = true → d.testBit j = true) : Gd ws (O ++ [p]) (d ||| 2 ^ p) := by
  have np : p ∉ O := fun m => by rw [(g.bit p).mpr m] at h0; cases h0
  refine ⟨fun q => ?_, ?_, fun q m => ?_, fun k h j hj => ?_⟩
  · rw [Nat.testBit_or, Nat.testBit_two_pow, Bool.or_eq_true, g.bit q, decide_eq_true_eq, List.mem_append, List.mem_singleton]
    constructor
    · rintro (m | m)
      · exact .inl m
      · exact .inr m.symm
    · rintro (m | m)
      · exact .inl m
      · exact .inr m.symm
  · exact List.nodup_append.mpr ⟨g.nd, List.nodup_cons.mpr ⟨List.not_mem_nil, .nil⟩, fun a ma b mb e => np (by rw [List.mem_singleton.mp mb] at e; rw [← e]; exact ma)⟩
  · rcases List.mem_append.mp m with m | m
    · exact g.lt q m
    · rw [List.mem_singleton.mp m]; exact hp
  · rw [List.length_append] at h
    have h : k < O.length + 1 := h
    by_cases e : k < O.length
    · rw [List.getElem_append_left e] at hj
      rw [List.take_append_of_le_length (by omega)]
      exact g.see k e j hj
    · obtain rfl : k = O.length := by omega
      rw [List.getElem_append_right (Nat.le_refl _)] at hj
      simp only [Nat.sub_self, List.getElem_cons_zero] at hj
      rw [List.take_append_of_le_length (Nat.le_refl _), List.take_length]
      exact (g.bit j).mp (hs j hj)
theorem Gd.sub (g : Gd ws O d) (g' : Gd ws O' d') (c' : Cl ws d') : ∀ k (h : k < O.length), O[k] ∈ O' := by
  intro k
  induction k using Nat.strongRecOn with
  | ind k ih =>
    intro h
    refine Classical.byContradiction fun n => ?_
    have h0 : d'.testBit O[k] = false := by
      cases e : d'.testBit O[k] with
      | false => rfl
      | true => exact absurd ((g'.bit _).mp e) n
    obtain ⟨j, j1, j2⟩ := c' _ (g.lt _ (List.getElem_mem h)) h0
    have m := g.see k h j j1
    obtain ⟨l, hl, el⟩ := List.getElem_of_mem m
    rw [List.length_take] at hl
    rw [List.getElem_take] at el
    have := ih l (by omega) (by omega)
    rw [el] at this
    rw [(g'.bit j).mpr this] at j2
    cases j2
theorem Gd.same (g : Gd ws O d) (c : Cl ws d) (g' : Gd ws O' d') (c' : Cl ws d') : O.length = O'.length := by
  have h1 := List.Nodup.length_le_of_subset g.nd (l₂ := O') fun p m => by
    obtain ⟨k, hk, rfl⟩ := List.getElem_of_mem m
    exact g.sub g' c' k hk
  have h2 := List.Nodup.length_le_of_subset g'.nd (l₂ := O) fun p m => by
    obtain ⟨k, hk, rfl⟩ := List.getElem_of_mem m
    exact g'.sub g c k hk
  omega
/-- all of them -/
theorem Gd.full (g : Gd ws O d) (h : O.length = ws.length) {i : Nat} (hi : i < ws.length) : i ∈ O := by
  refine Classical.byContradiction fun n => ?_
  have := List.Nodup.length_le_of_subset (List.nodup_cons.mpr ⟨n, g.nd⟩) (l₂ := List.range ws.length) fun p m => by
    rcases List.mem_cons.mp m with rfl | m
    · exact List.mem_range.mpr hi
    · exact List.mem_range.mpr (g.lt p m)
  rw [List.length_cons, List.length_range] at this
  omega
theorem Gd.mask (g : Gd ws O d) : d < 2 ^ ws.length := by
  refine Nat.lt_pow_two_of_testBit d fun i hi => ?_
  cases e : d.testBit i with
  | false => rfl
  | true => exact absurd (g.lt i ((g.bit i).mp e)) (by omega)
end
theorem bit0_iff (d p : Nat) : (((d / 2 ^ p : Nat) : Int) % 2 = 0) ↔ d.testBit p = false := by
  have := tb_iff d p
  cases e : d.testBit p
  · rw [e] at this
    constructor
    · intro _; rfl
    · intro _
      have h : ¬ (((d / 2 ^ p : Nat) : Int) % 2 = 1) := fun z => by have := this.mp z; cases this
      omega
  · rw [e] at this
    have := this.mpr rfl
    constructor
    · intro z; omega
    · intro z; cases z
theorem subV (w d : Nat) : Builtin.bitAnd (w : Int) (Builtin.bitNot (d : Int)) = (w : Int) - ((w &&& d : Nat) : Int) := by
  rw [PyProof.Rows.bitAnd_not, PyProof.Rows.bitAnd_pp (Int.natCast_nonneg _) (Int.natCast_nonneg _), Int.toNat_natCast, Int.toNat_natCast]
theorem sub_iff (w d : Nat) : ((w : Int) - ((w &&& d : Nat) : Int) = 0) ↔ ∀ j, w.testBit j = true → d.testBit j = true := by
  constructor
  · intro h j hj
    have e : w &&& d = w := by omega
    rw [← e, Nat.testBit_and, Bool.and_eq_true] at hj
    exact hj.2
  · intro h
    have e : w &&& d = w := by
      apply Nat.eq_of_testBit_eq
      intro j
      rw [Nat.testBit_and]
      cases e : w.testBit j
      · rfl
      · rw [h j e]; rfl
    rw [e]; omega
theorem orV (d p : Nat) : Builtin.bitOr (d : Int) ((2 ^ p : Nat) : Int) = ((d ||| 2 ^ p : Nat) : Int) := by
  rw [PyProof.Rows.bitOr_and, PyProof.Rows.bitAnd_pp (Int.natCast_nonneg _) (Int.natCast_nonneg _), Int.toNat_natCast, Int.toNat_natCast]
  have h1 := xor_and d (2 ^ p)
  have h2 : (d ||| 2 ^ p) = (d ^^^ 2 ^ p) + (d &&& 2 ^ p) := by
    have h3 := xor_and (d ^^^ 2 ^ p) (d &&& 2 ^ p)
    have e1 : (d ^^^ 2 ^ p) &&& (d &&& 2 ^ p) = 0 := by
      apply Nat.eq_of_testBit_eq
      intro j
      rw [Nat.testBit_and, Nat.testBit_and, Nat.testBit_xor, Nat.zero_testBit]
      cases d.testBit j <;> cases (2 ^ p).testBit j <;> rfl
    have e2 : (d ^^^ 2 ^ p) ^^^ (d &&& 2 ^ p) = d ||| 2 ^ p := by
      apply Nat.eq_of_testBit_eq
      intro j
      rw [Nat.testBit_xor, Nat.testBit_and, Nat.testBit_xor, Nat.testBit_or]
      cases d.testBit j <;> cases (2 ^ p).testBit j <;> rfl
    rw [e1, e2] at h3
    omega
  omega
theorem p2c (k : Nat) : (1 : Int) * 2 ^ k = ((2 ^ k : Nat) : Int) := by rw [Int.one_mul, Int.natCast_pow]; rfl
theorem sh1 (i : Nat) (h : i ≤ 1000) : gShl (.int 1) (.int i) = some (.int ((2 ^ i : Nat) : Int)) := by
  have := shl_ok (i := 1) (j := i) (by omega) (by omega) (by decide) (by decide)
  rw [Int.toNat_natCast, p2c] at this
  exact this
theorem shrN (d p : Nat) : gShr (.int d) (.int p) = some (.int ((d / 2 ^ p : Nat) : Int)) := by rw [shr_ok (by omega), Int.toNat_natCast, shr_cast]
theorem cwT {ws : List Nat} {p : Nat} (hp : p < ws.length) : gIx (.tup ((ci ws).map .int)) (.int p) = some (.int (ws.getD p 0 : Nat)) := by
  rw [ix_it (by omega) (by unfold ci; rw [List.length_map]; omega), Int.toNat_natCast, at0_get (by unfold ci; rw [List.length_map]; omega)]
  unfold ci
  rw [List.getElem_map, List.getD_eq_getElem?_getD, List.getElem?_eq_getElem hp]; rfl
theorem cwL {ws : List Nat} {p : Nat} (hp : p < ws.length) : gIx (.lst ((ci ws).map .int)) (.int p) = some (.int (ws.getD p 0 : Nat)) := by
  rw [ix_il (by omega) (by unfold ci; rw [List.length_map]; omega), Int.toNat_natCast, at0_get (by unfold ci; rw [List.length_map]; omega)]
  unfold ci
  rw [List.getElem_map, List.getD_eq_getElem?_getD, List.getElem?_eq_getElem hp]; rfl
theorem ci_at {O : List Nat} {k : Nat} (h : k < O.length) : at0 (ci O) k = (O[k] : Nat) := by
  rw [at0_get (by unfold ci; rw [List.length_map]; exact h)]
  unfold ci
  rw [List.getElem_map]
theorem ci_len (O : List Nat) : (ci O).length = O.length := by unfold ci; rw [List.length_map]
theorem ci_rg (n : Nat) (hn : n ≤ 64) {f : Store → Option D} {ρ : Store} (h : f ρ = some (.int n)) : eLRg (rg1 f) ρ = some (.lst ((ci (List.range n)).map .int)) := by
  rw [lrg_ok (n := n) (by unfold rg1; rw [h]) (by omega)]
  unfold ci
  simp only [Int.zero_add]
theorem ci_idx {O : List Nat} (nd : O.Nodup) {p : Nat} (m : p ∈ O) : ∃ k, k < O.length ∧ gIdx (.lst ((ci O).map .int)) (.int p) = some (.int (k : Nat)) := by
  obtain ⟨k, hk, e⟩ := List.getElem_of_mem m
  refine ⟨k, hk, idx_ok (by rw [ci_len]; exact hk) (by rw [ci_at hk, e]) fun j hj z => ?_⟩
  rw [ci_at (by omega)] at z
  have := (List.getElem_inj nd).mp ((show O[j]'(by omega) = p by omega).trans e.symm)
  omega
theorem perm_er : ∀ (l : List Nat) (k : Nat) (h : k < l.length), (l[k] :: l.eraseIdx k).Perm l
  | x :: l, 0, _ => .refl _
  | x :: l, k + 1, h => (List.Perm.swap ..).trans ((perm_er l k (Nat.lt_of_succ_lt_succ h)).cons x)
theorem add_or {d p : Nat} (h : d.testBit p = false) : d + 2 ^ p = d ||| 2 ^ p := by
  have h1 := xor_and d (2 ^ p)
  have z : d &&& 2 ^ p = 0 := by
    apply Nat.eq_of_testBit_eq
    intro j
    rw [Nat.testBit_and, Nat.zero_testBit, Nat.testBit_two_pow]
    by_cases e : p = j
    · subst e; rw [h]; rfl
    · rw [decide_eq_false e, Bool.and_false]
  have x : d ^^^ 2 ^ p = d ||| 2 ^ p := by
    apply Nat.eq_of_testBit_eq
    intro j
    rw [Nat.testBit_xor, Nat.testBit_or, Nat.testBit_two_pow]
    by_cases e : p = j
    · subst e; rw [h]; simp
    · rw [decide_eq_false e, Bool.xor_false, Bool.or_false]
  rw [z, x] at h1
  omega
theorem ix_m1 {xs : List Int} (h : 0 < xs.length) : gIx (.tup (xs.map .int)) (.int (-1)) = some (.int (at0 xs (xs.length - 1))) := by
  show L2.atI (xs.map D.int) (-1) = _
  rw [atI_map]
  have : L2.atI xs (-1) = some (at0 xs (xs.length - 1)) := by
    unfold L2.atI L2.ixN
    rw [if_neg (by decide), if_pos (by omega)]
    show xs[(-1 + (xs.length : Int)).toNat]? = _
    rw [show (-1 + (xs.length : Int)).toNat = xs.length - 1 by omega, List.getElem?_eq_getElem (by omega), at0_get (by omega)]
  rw [this]; rfl
theorem ci_set (ws : List Nat) (i w : Nat) : ((ci ws).map D.int).set i (.int (w : Nat)) = (ci (ws.set i w)).map .int := by
  unfold ci
  rw [List.map_set, List.map_set]
/-- who sees whom: n people, none sees itself -/
structure Wb (ws : List Nat) (n : Nat) : Prop where
  len : ws.length = n
  lt : ∀ w ∈ ws, w < 2 ^ n
  own : ∀ i, i < n → (ws.getD i 0).testBit i = false
theorem Wb.set {ws : List Nat} {n i w : Nat} (h : Wb ws n) (hi : i < n) (hw : w < 2 ^ n) (ho : w.testBit i = false) : Wb (ws.set i w) n := by
  refine ⟨by rw [List.length_set]; exact h.len, fun x m => ?_, fun j hj => ?_⟩
  · rcases List.mem_or_eq_of_mem_set m with m | rfl
    · exact h.lt x m
    · exact hw
  · have l := h.len
    rw [List.getD_eq_getElem?_getD, List.getElem?_set]
    by_cases e : i = j
    · subst e; rw [if_pos rfl, if_pos (by omega)]; exact ho
    · rw [if_neg e, ← List.getD_eq_getElem?_getD]; exact h.own j hj
/-- a bit, as the law asks for it -/
theorem lawbit (w j : Nat) (hj : j ≤ 8) {f g : Store → Option D} {ρ : Store} (h1 : f ρ = some (.int w)) (h2 : g ρ = some (.int j)) : tBo (e2 (gEq false) (e2 gMod (e2 gDiv f (e2 gShl (eC (.int 1)) g)) (eC (.int 2))) (eC (.int 1))) ρ = some (w.testBit j) := by
  have p64 : (2 : Nat) ^ j ≤ 256 := Nat.le_trans (Nat.pow_le_pow_right (by decide) hj) (by decide)
  have pp := Nat.two_pow_pos j
  have dv : gDiv (.int (w : Nat)) (.int ((2 ^ j : Nat) : Int)) = some (.int ((w / 2 ^ j : Nat) : Int)) := by rw [div_ok (by omega) (by omega), Int.natCast_ediv]
  refine tbo_ok (e2_ok (e2_ok (e2_ok h1 (e2_ok rfl h2 (sh1 j (by omega))) dv) rfl (mod_ok (by decide))) rfl (s_eq.trans ?_))
  have := tb_iff w j
  cases e : w.testBit j
  · rw [decide_eq_false fun z => by rw [this, e] at z; cases z]
  · rw [decide_eq_true (this.mpr e)]
theorem getD_get {R : List Nat} {k : Nat} (h : k < R.length) : R.getD k 0 = R[k] := by
  rw [List.getD_eq_getElem?_getD, List.getElem?_eq_getElem h]; rfl
theorem sumN : ∀ (M : List Nat) (n : Nat), M.Nodup → (∀ q ∈ M, q < n) → ∃ v : Nat, v < 2 ^ n ∧ (M.map fun q => ((2 ^ q : Nat) : Int)).sum = (v : Int) ∧ ∀ q, v.testBit q = true ↔ q ∈ M
  | [], n, _, _ => ⟨0, Nat.two_pow_pos n, rfl, fun q => by simp⟩
  | p :: M, n, nd, lt => by
    obtain ⟨h1, h2⟩ := List.nodup_cons.mp nd
    obtain ⟨v, v1, v2, v3⟩ := sumN M n h2 fun q m => lt q (List.mem_cons_of_mem _ m)
    have hb : v.testBit p = false := by
      cases e : v.testBit p with
      | false => rfl
      | true => exact absurd ((v3 p).mp e) h1
    have ad := add_or hb
    refine ⟨v ||| 2 ^ p, Nat.or_lt_two_pow v1 (Nat.pow_lt_pow_right (by decide) (lt p List.mem_cons_self)), ?_, fun q => ?_⟩
    · rw [List.map_cons, List.sum_cons, v2, ← ad]; omega
    · rw [Nat.testBit_or, Nat.testBit_two_pow, Bool.or_eq_true, v3 q, decide_eq_true_eq, List.mem_cons]
      constructor
      · rintro (m | m)
        · exact .inr m
        · exact .inl m.symm
      · rintro (m | m)
        · exact .inr m.symm
        · exact .inl m
theorem ring_at {n : Nat} {r : List Nat} (lt : ∀ p ∈ r, p < n) (two : 2 ≤ r.length) (i : Nat) (h : i < r.length) : ∃ p, p < n ∧ gIx (.tup ((ci r).map .int)) (.int ((i : Int) - 1)) = some (.int (p : Nat)) ∧ p = r.getD (if i = 0 then r.length - 1 else i - 1) 0 := by
  cases i with
  | zero =>
    rw [if_pos rfl]
    refine ⟨r[r.length - 1]'(by omega), lt _ (List.getElem_mem _), ?_, by rw [getD_get (by omega)]⟩
    refine (ix_m1 (xs := ci r) (by rw [ci_len]; omega)).trans ?_
    rw [ci_len, ci_at (by omega)]
  | succ i =>
    rw [if_neg (by omega)]
    refine ⟨r[i]'(by omega), lt _ (List.getElem_mem _), ?_, by rw [getD_get (by omega)]; rfl⟩
    rw [show (((i + 1 : Nat) : Int) - 1) = (i : Nat) by omega, cwT (by omega), getD_get (by omega)]
/-! texts -/
abbrev cs (x : Str) : List Nat := x.cps.toList
theorem cs_ext {x y : Str} (h : cs x = cs y) : x = y := TL.ext_tl h
theorem len_cs (x : Str) : x.length = (cs x).length := Array.length_toList.symm
theorem cs_add (x y : Str) : cs (x ++ y) = cs x ++ cs y := TL.tl_append x y
theorem s_addS {x y : Str} (h : x.length + y.length ≤ 16777216) : gAdd (.str x) (.str y) = some (.str (x ++ y)) := by
  show (if x.length + y.length ≤ sizeLine then some (D.str (x ++ y)) else none) = _
  rw [PySem.sizeLine_eq]
  exact if_pos h
theorem s_slS {z : Str} {lo hi : Option Int} (h : z.length ≤ 16777216) : gSlS (.str z) lo hi = some (.str ⟨(cutD (cs z) lo hi).toArray⟩) := by
  show (if z.length ≤ sizeLine then some (D.str (L2.cutS z lo hi)) else none) = _
  rw [PySem.sizeLine_eq]
  exact if_pos h
theorem s_ixS {z : Str} {i : Int} {k c : Nat} (h : z.length ≤ 16777216) (e : i = k) (hc : (cs z)[k]? = some c) : gIx (.str z) (.int i) = some (.str ⟨#[c]⟩) := by
  have hk := (List.getElem?_eq_some_iff.mp hc)
  obtain ⟨h1, h2⟩ := hk
  show (if z.length ≤ sizeLine then (match L2.atI (cs z) i with | some c => some (D.str ⟨#[c]⟩) | none => none) else none) = _
  rw [PySem.sizeLine_eq, if_pos h, atI_nat e h1, h2]
theorem s_inS {neg : Bool} {c : Nat} {z : Str} : gInS neg (.str ⟨#[c]⟩) (.str z) = some (.bl (if neg then !decide (c ∈ cs z) else decide (c ∈ cs z))) := rfl
/-- a loop that ends at the first that is not right -/
theorem forD_all {α : Type} {k : α → D} {g : D → Store → Option Store} {F : Store → Option O} {d : D} {ok : α → Bool} (P : Store → Prop) : ∀ {xs : List α} (st : ∀ x ∈ xs, ∀ ρ, P ρ → ∃ ρ1, g (k x) ρ = some ρ1 ∧ ((ok x = true ∧ ∃ ρ2, F ρ1 = some (.nx ρ2) ∧ P ρ2) ∨ (ok x = false ∧ ∃ ρ2, F ρ1 = some (.rt d ρ2)))) {ρ : Store}, P ρ →
    (xs.all ok = true ∧ ∃ ρ', forD g F (xs.map k) ρ = some (.nx ρ') ∧ P ρ') ∨ (xs.all ok = false ∧ ∃ ρ', forD g F (xs.map k) ρ = some (.rt d ρ'))
  | [], _, ρ, p => .inl ⟨rfl, ρ, rfl, p⟩
  | x :: xs, st, ρ, p => by
    obtain ⟨ρ1, h1, h2⟩ := st x List.mem_cons_self ρ p
    have e : forD g F ((x :: xs).map k) ρ = match F ρ1 with | some (.nx ρ2) => forD g F (xs.map k) ρ2 | some (.ct ρ2) => forD g F (xs.map k) ρ2 | some (.bk ρ2) => some (.nx ρ2) | o => o := by
      rw [List.map_cons]
      show (match g (k x) ρ with | none => none | some ρ1 => _) = _
      first | (rw [h1]; done) | (rw [h1]; rfl)
    rcases h2 with ⟨o, ρ2, h3, h4⟩ | ⟨o, ρ2, h3⟩
    · rw [e, h3, List.all_cons, o, Bool.true_and]
      exact forD_all P (fun y my => st y (List.mem_cons_of_mem _ my)) h4
    · rw [e, h3, List.all_cons, o, Bool.false_and]
      exact .inr ⟨rfl, ρ2, rfl⟩
theorem chain_le {f1 f2 f3 : Store → Option D} {ρ : Store} {i j k : Int} (h1 : f1 ρ = some (.int i)) (h2 : f2 ρ = some (.int j)) (h3 : f3 ρ = some (.int k)) : eChain gLe gLe f1 f2 f3 ρ = some (.bl (decide (i ≤ j) && decide (j ≤ k))) := by
  unfold eChain
  simp only [h1, h2, h3]
  have e : gLe (.int i) (.int j) = some (.bl (decide (i ≤ j))) := rfl
  rw [e]
  by_cases h : i ≤ j
  · rw [decide_eq_true h]; rfl
  · rw [decide_eq_false h]; rfl
theorem iSt_ok {f : Store → Option D} {ρ : Store} {x : Str} (h : f ρ = some (.str x)) : iSt f ρ = some ((cs x).map fun c => .str ⟨#[c]⟩) := by
  unfold iSt
  rw [h]
theorem s_lenS {z : Str} (h : z.length ≤ 16777216) : gLen [.str z] = some (.int z.length) := by
  show (if z.length ≤ sizeLine then some (D.int z.length) else none) = _
  rw [PySem.sizeLine_eq]
  exact if_pos h
/-! split, join -/
theorem split_join {ws : List Str} (h : ws ≠ []) (hb : ∀ w ∈ ws, 32 ∉ cs w) : Txt.split (Txt.join " " ws) " " = ws := by
  have e0 : (" " : Str) = SX.S [32] := by decide +kernel
  have e1 : ws = (ws.map cs).map SX.S := by
    rw [List.map_map]
    exact (List.map_id ws).symm.trans (List.map_congr_left fun w _ => cs_ext rfl)
  have n1 : ws.map cs ≠ [] := fun z => h (List.map_eq_nil_iff.mp z)
  have h2 : ∀ p ∈ ws.map cs, 32 ∉ p := fun p m => by
    obtain ⟨w, mw, rfl⟩ := List.mem_map.mp m
    exact hb w mw
  generalize ws.map cs = ps at e1 n1 h2
  subst e1
  rw [e0, SX.join_S, SX.split_S (by decide) (by decide), SX.spl_join n1 h2]
theorem s_split {a : Str} (h : a.length + 2 ≤ 16777216) : gSplit (.str a) (.str " ") = some (.lst ((Txt.split a " ").map .str)) := by
  unfold gSplit
  exact if_pos ⟨by decide +kernel, h⟩
theorem s_join {a : Str} {ws : List Str} (h : (ws.map (·.length)).sum + ws.length * a.length ≤ 16777216) : gJoin (.str a) (.lst (ws.map .str)) = some (.str (Txt.join a ws)) := by
  unfold gJoin
  simp only [strs_map]
  exact if_pos h
theorem lay_strs {ws : List Str} (h : ∀ w ∈ ws, sOk w = true) : Lay (.lst (ws.map .str)) 1 := Lay.lst (m := 0) fun w m => Lay.str (h w m)
theorem eand_ok {f g : Store → Option D} {ρ : Store} {a b : Bool} (h1 : f ρ = some (.bl a)) (h2 : a = true → g ρ = some (.bl b)) : eAnd f g ρ = some (.bl (a && b)) := by
  unfold eAnd
  rw [h1]
  cases a with
  | true => simp only [h2 rfl]; rfl
  | false => rfl
theorem callD_ok {fa : Store → Option (List D)} {h : List D → Option D} {ρ : Store} {d : D} {ds dds : List D} {n : Nat} (e : fa ρ = some ds) (hn : (ds ++ dds).length = n) (e' : h (ds ++ dds) = some d) : eCall (callF n dds h) fa ρ = some d := by
  rw [s_eCall, e]
  show callF n dds h ds = some d
  rw [s_callF, if_pos hn]
  exact e'
def mdf (x S : List Nat) (m : Nat) : Bool := x.all (fun c => decide (c ∈ S)) && (decide (1 ≤ x.length) && decide (x.length ≤ m))
abbrev alphS : Str := "abcdefghijklmnopqrstuvwxyz"
abbrev figS : Str := "0123456789"
def isNm (w : Str) : Bool := mdf (cs w) (cs alphS) 12
def isCt (w : Str) : Bool := mdf (cs w) (cs figS) 30
/-! made_of -/
theorem made_of_ok (x S : Str) (m : Nat) (hx : x.length ≤ 16777216) : sem_made_of [.str x, .str S, .int m] = some (.bl (mdf (cs x) (cs S) m)) := by
  have := forD_all (k := fun c : Nat => D.str ⟨#[c]⟩) (g := gSet 3) (F := lp_made_of_2) (d := .bl false) (ok := fun c => decide (c ∈ cs S)) (fun ρ => ∃ a, ρ = [some (.str x), some (.str S), some (.int m), a]) (xs := cs x) (fun c mc ρ r => by
    obtain ⟨a, rfl⟩ := r
    refine ⟨_, rfl, ?_⟩
    have t : tBo (e2 (gInS true) (eVar 3) (eVar 1)) [some (.str x), some (.str S), some (.int m), some (.str ⟨#[c]⟩)] = some (!decide (c ∈ cs S)) := tbo_ok (e2_ok rfl rfl s_inS)
    by_cases h : c ∈ cs S
    · rw [decide_eq_true h] at t ⊢
      exact .inl ⟨rfl, _, if_f t rfl, _, rfl⟩
    · rw [decide_eq_false h] at t ⊢
      exact .inr ⟨rfl, _, if_t t (ret_ok (d := .bl false) rfl rfl)⟩) (ρ := [some (.str x), some (.str S), some (.int m), none]) ⟨_, rfl⟩
  unfold mdf
  rcases this with ⟨h, ρ', h1, a, rfl⟩ | ⟨h, ρ', h1⟩
  · rw [h, Bool.true_and]
    refine fn0_ok (seq_nx (for_ok (iSt_ok rfl) h1) (ret_ok (d := .bl _) ((chain_le (i := 1) (j := (x.length : Nat)) (k := m) rfl (call_ok (acons_ok rfl anil_ok) (s_lenS hx)) rfl).trans ?_) rfl))
    rw [len_cs x, decide_eq_decide.mpr (show ((1 : Int) ≤ ((cs x).length : Nat)) ↔ 1 ≤ (cs x).length by omega), decide_eq_decide.mpr (show (((cs x).length : Nat) : Int) ≤ (m : Int) ↔ (cs x).length ≤ m by omega)]
  · rw [h]; exact fn0_ok (seq_rt (for_ok (iSt_ok rfl) h1))
/-! made_of -/
theorem _law_made_of_ok (x S : Str) (m : Nat) (hx : x.length ≤ 16777216) : sem__law_made_of [.str x, .str S, .int m] = some (.bl (mdf (cs x) (cs S) m)) := by
  have := forD_all (k := fun c : Nat => D.str ⟨#[c]⟩) (g := gSet 3) (F := lp__law_made_of_2) (d := .bl false) (ok := fun c => decide (c ∈ cs S)) (fun ρ => ∃ a, ρ = [some (.str x), some (.str S), some (.int m), a]) (xs := cs x) (fun c mc ρ r => by
    obtain ⟨a, rfl⟩ := r
    refine ⟨_, rfl, ?_⟩
    have t : tBo (e2 (gInS true) (eVar 3) (eVar 1)) [some (.str x), some (.str S), some (.int m), some (.str ⟨#[c]⟩)] = some (!decide (c ∈ cs S)) := tbo_ok (e2_ok rfl rfl s_inS)
    by_cases h : c ∈ cs S
    · rw [decide_eq_true h] at t ⊢
      exact .inl ⟨rfl, _, if_f t rfl, _, rfl⟩
    · rw [decide_eq_false h] at t ⊢
      exact .inr ⟨rfl, _, if_t t (ret_ok (d := .bl false) rfl rfl)⟩) (ρ := [some (.str x), some (.str S), some (.int m), none]) ⟨_, rfl⟩
  unfold mdf
  rcases this with ⟨h, ρ', h1, a, rfl⟩ | ⟨h, ρ', h1⟩
  · rw [h, Bool.true_and]
    refine fn0_ok (seq_nx (for_ok (iSt_ok rfl) h1) (ret_ok (d := .bl _) ((chain_le (i := 1) (j := (x.length : Nat)) (k := m) rfl (call_ok (acons_ok rfl anil_ok) (s_lenS hx)) rfl).trans ?_) rfl))
    rw [len_cs x, decide_eq_decide.mpr (show ((1 : Int) ≤ ((cs x).length : Nat)) ↔ 1 ≤ (cs x).length by omega), decide_eq_decide.mpr (show (((cs x).length : Nat) : Int) ≤ (m : Int) ↔ (cs x).length ≤ m by omega)]
  · rw [h]; exact fn0_ok (seq_rt (for_ok (iSt_ok rfl) h1))
theorem are_names (ws : List Str) (h : ∀ w ∈ ws, w.length ≤ 16777216 ∧ sOk w = true) (hl : ws.length < 16777216) : sem_are_names [.lst (ws.map .str)] = some (.bl (ws.all isNm)) := by
  have e : eLc [1] (iLst (eVar 0)) (gSet 1) (bNot (tBo (eCall (callF 3 [] sem_made_of) (aCons (eVar 1) (aCons (eC (.str "abcdefghijklmnopqrstuvwxyz")) (aCons (eC (.int 12)) aNil)))))) (eVar 1) [some (.lst (ws.map .str)), none] = some (.lst ((ws.filter fun w => !isNm w).map .str)) := lcA_map (k := D.str) (γ := fun w => [some (.lst (ws.map .str)), some (.str w)]) (iLst_ok rfl) hl fun w m => ⟨rfl, bNot_ok (tbo_ok (callF_ok (ds := [.str w, .str alphS, .int (12 : Nat)]) rfl rfl (made_of_ok w alphS 12 (h w m).1))), fun _ => rfl⟩
  refine fn0_ok (ret_ok (d := .bl _) ((e2_ok e rfl (eq_nil ((lay_strs fun w m => (h w (List.mem_filter.mp m |>.1)).2).okE (by decide)))).trans ?_) rfl)
  congr 2
  rw [Bool.eq_iff_iff, List.isEmpty_iff, List.map_eq_nil_iff, List.filter_eq_nil_iff, List.all_eq_true]
  refine ⟨fun z w m => ?_, fun z w m => ?_⟩
  · have := z w m
    cases e : isNm w
    · rw [e] at this; exact absurd rfl this
    · rfl
  · rw [z w m]; decide
/-! _law_draws -/
theorem draws_ok (c : Int) (n : Nat) (hn : n ≤ 1000) : ∃ L : List Int, L.length = n ∧ (∀ x ∈ L, 0 ≤ x ∧ x ≤ 306783368) ∧ sem__law_draws [.int c, .int n] = some (.lst (L.map .int)) := by
  have m0 := Int.emod_nonneg c (show (2147483542 : Int) ≠ 0 by decide)
  have m1 := Int.emod_lt_of_pos c (show (0 : Int) < 2147483542 by decide)
  obtain ⟨s, hs⟩ : ∃ s, s = (c % 2147483542 + 1) * 1588635695 % 2147483543 := ⟨_, rfl⟩
  have s0 : 0 ≤ s ∧ s < 2147483543 := by
    rw [hs]
    exact ⟨Int.emod_nonneg _ (by decide), Int.emod_lt_of_pos _ (by decide)⟩
  have e1 : e2 gMod (e2 gMul (e2 gAdd (e2 gMod (eVar 0) (eC (.int 2147483542))) (eC (.int 1))) (eC (.int 1588635695))) (eC (.int 2147483543)) [some (.int c), some (.int n), none, none, none] = some (.int s) := by
    simp (disch := omega) only [s_e2, s_eCall, s_aCons, s_aNil, s_v0, s_vs, s_eC, s_callF, s_eLst, s_eTup, s_add, s_iu, s_cmp, s_tBo, s_bNot, s_bAnd, s_bOr, s_gSet, s_lenL, s_lenT, s_isN, s_nonI, s_nonN, s_eq, s_ne, List.set_cons_zero, List.set_cons_succ, List.append_nil, List.nil_append, List.cons_append, List.map_cons, List.map_nil, List.length_cons, List.length_nil, List.reduceReplicate, Nat.zero_add, Nat.reduceAdd, Nat.reduceSub, Nat.reduceLeDiff, Nat.zero_le, s_isI, t_ii, t_bi, t_ib, t_bb, t_tt, t_ll, t_ss, if_true, Int.zero_add, Bool.not_true, Bool.not_false, mod_ok, mul_ok, hs]
  obtain ⟨ρ', hf, z, L, z0, l1, l2, a, rfl⟩ := forD_rng (g := gSet 4) (F := lp__law_draws_1) (n := n)
    (fun j ρ => ∃ (z : Int) (L : List Int), (0 ≤ z ∧ z < 2147483543) ∧ L.length = j ∧ (∀ x ∈ L, 0 ≤ x ∧ x ≤ 306783368) ∧ ∃ a, ρ = [some (.int c), some (.int n), some (.int z), some (.lst (L.map .int)), a])
    (fun j hj ρ p => by
      obtain ⟨z, L, z0, l1, l2, a, rfl⟩ := p
      obtain ⟨y, hy⟩ : ∃ y, y = z * 45742 % 2147483543 := ⟨_, rfl⟩
      have y0 : 0 ≤ y ∧ y < 2147483543 := by
        rw [hy]
        exact ⟨Int.emod_nonneg _ (by decide), Int.emod_lt_of_pos _ (by decide)⟩
      have w0 := Int.emod_nonneg (y * y) (show (2147483579 : Int) ≠ 0 by decide)
      have w1 := Int.emod_lt_of_pos (y * y) (show (0 : Int) < 2147483579 by decide)
      obtain ⟨x, hx⟩ : ∃ x, x = y * y % 2147483579 / 7 := ⟨_, rfl⟩
      have x0 : 0 ≤ x ∧ x ≤ 306783368 := by omega
      refine ⟨_, _, rfl, .inl (seq_set (d := .int y) ?_ (append_ok (d := .int x) (ds := L.map .int) rfl ?_ ?_)), ⟨y, L ++ [x], y0, by rw [List.length_append, l1]; rfl, fun u m => ?_, some (.int j), ?_⟩⟩
      · simp (disch := omega) only [s_e2, s_eCall, s_aCons, s_aNil, s_v0, s_vs, s_eC, s_callF, s_eLst, s_eTup, s_add, s_iu, s_cmp, s_tBo, s_bNot, s_bAnd, s_bOr, s_gSet, s_lenL, s_lenT, s_isN, s_nonI, s_nonN, s_eq, s_ne, List.set_cons_zero, List.set_cons_succ, List.append_nil, List.nil_append, List.cons_append, List.map_cons, List.map_nil, List.length_cons, List.length_nil, List.reduceReplicate, Nat.zero_add, Nat.reduceAdd, Nat.reduceSub, Nat.reduceLeDiff, Nat.zero_le, s_isI, t_ii, t_bi, t_ib, t_bb, t_tt, t_ll, t_ss, if_true, Int.zero_add, Bool.not_true, Bool.not_false, mod_ok, mul_ok, hy]
      · simp (disch := omega) only [s_e2, s_eCall, s_aCons, s_aNil, s_v0, s_vs, s_eC, s_callF, s_eLst, s_eTup, s_add, s_iu, s_cmp, s_tBo, s_bNot, s_bAnd, s_bOr, s_gSet, s_lenL, s_lenT, s_isN, s_nonI, s_nonN, s_eq, s_ne, List.set_cons_zero, List.set_cons_succ, List.append_nil, List.nil_append, List.cons_append, List.map_cons, List.map_nil, List.length_cons, List.length_nil, List.reduceReplicate, Nat.zero_add, Nat.reduceAdd, Nat.reduceSub, Nat.reduceLeDiff, Nat.zero_le, s_isI, t_ii, t_bi, t_ib, t_bb, t_tt, t_ll, t_ss, if_true, Int.zero_add, Bool.not_true, Bool.not_false, mod_ok, mul_ok, div_ok, hx]
      · rw [List.length_map]; omega
      · rcases List.mem_append.mp m with m | m
        · exact l2 u m
        · rw [List.mem_singleton.mp m]; exact x0
      · rw [List.map_append]; rfl)
    (ρ := [some (.int c), some (.int n), some (.int s), some (.lst []), none]) ⟨s, [], s0, rfl, fun x m => (nomatch m), none, rfl⟩
  exact ⟨L, l1, l2, fn0_ok (seq_set e1 (seq_set (d := .lst []) rfl (seq_nx (for_ok (r1_nat (n := n) rfl (by omega)) hf) (ret_ok (d := .lst (L.map .int)) rfl imm_il))))⟩
/-- one of the drawn numbers -/
theorem drn {L : List Int} {f g : Store → Option D} {ρ : Store} {k : Nat} {i : Int} (h : f ρ = some (.lst (L.map .int))) (h2 : g ρ = some (.int i)) (e : i = k) (hk : k < L.length) : e2 gIx f g ρ = some (.int (at0 L k)) := by
  refine e2_ok h h2 ?_
  have := ix_il (xs := L) (i := i) (by omega) (by omega)
  rw [this]
  congr 3
  omega
theorem drm {L : List Int} {f : Store → Option D} {ρ : Store} {k : Nat} {i m : Int} (h : f ρ = some (.lst (L.map .int))) (e : i = k) (hk : k < L.length) (hm : 0 < m) : e2 gMod (e2 gIx f (eC (.int i))) (eC (.int m)) ρ = some (.int (at0 L k % m)) := e2_ok (drn h rfl e hk) rfl (mod_ok hm)
theorem drg {L : List Int} (l2 : ∀ x ∈ L, 0 ≤ x ∧ x ≤ 306783368) {k : Nat} (hk : k < L.length) : 0 ≤ at0 L k ∧ at0 L k ≤ 306783368 := l2 _ (at0_mem hk)
/-! names -/
def lets : List Nat := cs alphS
theorem lets_len : lets.length = 26 := by decide +kernel
/-- the text of letters -/
def Lw (x : Str) (n : Nat) : Prop := (∀ c ∈ cs x, c ∈ lets) ∧ x.length = n
theorem Lw.add {x y : Str} {m n : Nat} (h1 : Lw x m) (h2 : Lw y n) : Lw (x ++ y) (m + n) := by
  refine ⟨fun c mc => ?_, ?_⟩
  · rw [cs_add] at mc
    exact (List.mem_append.mp mc).elim (h1.1 c) (h2.1 c)
  · rw [len_cs, cs_add, List.length_append, ← len_cs, ← len_cs, h1.2, h2.2]
theorem let_ix {i : Int} (h0 : 0 ≤ i) (h : i < 26) : ∃ s : Str, Lw s 1 ∧ gIx (.str alphS) (.int i) = some (.str s) := by
  obtain ⟨c, hc⟩ : ∃ c, lets[i.toNat]? = some c := ⟨_, List.getElem?_eq_getElem (by rw [lets_len]; omega)⟩
  refine ⟨⟨#[c]⟩, ⟨fun d m => ?_, rfl⟩, s_ixS (by decide +kernel) (by omega) hc⟩
  rw [List.mem_singleton.mp m]
  exact List.mem_of_getElem? hc
theorem fresh_ok (z : Int) (n : Nat) (z0 : 0 ≤ z) (z1 : z ≤ 2147483647) (hn : n ≤ 1000) : ∃ x : Str, Lw x n ∧ sem__law_fresh [.int z, .int n] = some (.str x) := by
  obtain ⟨ρ', hf, y, x, y0, hx, a, rfl⟩ := forD_rng (g := gSet 4) (F := lp__law_fresh_1) (n := n)
    (fun j ρ => ∃ (y : Int) (x : Str), (0 ≤ y ∧ y ≤ 2147483647) ∧ Lw x j ∧ ∃ a, ρ = [some (.int y), some (.int n), some (.str alphS), some (.str x), a])
    (fun j hj ρ p => by
      obtain ⟨z, x, z0, hx, a, rfl⟩ := p
      obtain ⟨y, hy⟩ : ∃ y, y = (z * 48271 + 11) % 2147483647 := ⟨_, rfl⟩
      have y0 : 0 ≤ y ∧ y ≤ 2147483647 := by
        rw [hy]
        exact ⟨Int.emod_nonneg _ (by decide), Int.le_of_lt (Int.emod_lt_of_pos _ (by decide))⟩
      obtain ⟨s, hs, es⟩ := let_ix (i := y / 23 % 26) (by omega) (by omega)
      have hxs := hx.add hs
      refine ⟨_, _, rfl, .inl (seq_set (d := .int y) ?_ (set_ok (d := .str (x ++ s)) ?_)), ⟨y, x ++ s, y0, hxs, some (.int j), rfl⟩⟩
      · simp (disch := omega) only [s_e2, s_eCall, s_aCons, s_aNil, s_v0, s_vs, s_eC, s_callF, s_eLst, s_eTup, s_add, s_iu, s_cmp, s_tBo, s_bNot, s_bAnd, s_bOr, s_gSet, s_lenL, s_lenT, s_isN, s_nonI, s_nonN, s_eq, s_ne, List.set_cons_zero, List.set_cons_succ, List.append_nil, List.nil_append, List.cons_append, List.map_cons, List.map_nil, List.length_cons, List.length_nil, List.reduceReplicate, Nat.zero_add, Nat.reduceAdd, Nat.reduceSub, Nat.reduceLeDiff, Nat.zero_le, s_isI, t_ii, t_bi, t_ib, t_bb, t_tt, t_ll, t_ss, if_true, Int.zero_add, Bool.not_true, Bool.not_false, mod_ok, mul_ok, hy]
      · refine e2_ok rfl (e2_ok rfl (d := .str s) (b := .int (y / 23 % 26)) ?_ es) (s_addS ?_)
        · simp (disch := omega) only [s_e2, s_eCall, s_aCons, s_aNil, s_v0, s_vs, s_eC, s_callF, s_eLst, s_eTup, s_add, s_iu, s_cmp, s_tBo, s_bNot, s_bAnd, s_bOr, s_gSet, s_lenL, s_lenT, s_isN, s_nonI, s_nonN, s_eq, s_ne, List.set_cons_zero, List.set_cons_succ, List.append_nil, List.nil_append, List.cons_append, List.map_cons, List.map_nil, List.length_cons, List.length_nil, List.reduceReplicate, Nat.zero_add, Nat.reduceAdd, Nat.reduceSub, Nat.reduceLeDiff, Nat.zero_le, s_isI, t_ii, t_bi, t_ib, t_bb, t_tt, t_ll, t_ss, if_true, Int.zero_add, Bool.not_true, Bool.not_false, div_ok, mod_ok]
        · rw [hx.2, hs.2]; omega)
    (ρ := [some (.int z), some (.int n), some (.str alphS), some (.str ""), none]) ⟨z, "", ⟨z0, z1⟩, ⟨fun c m => (nomatch (show c ∈ ([] : List Nat) from m)), rfl⟩, none, rfl⟩
  exact ⟨x, hx, fn0_ok (seq_set (d := .str alphS) rfl (seq_set (d := .str "") rfl (seq_nx (for_ok (r1_nat (n := n) rfl (by omega)) hf) (ret_ok (d := .str x) rfl rfl))))⟩
/-! _law_names -/
theorem isNm_iff {w : Str} : isNm w = true ↔ (∀ c ∈ cs w, c ∈ lets) ∧ 1 ≤ w.length ∧ w.length ≤ 12 := by
  unfold isNm mdf
  rw [Bool.and_eq_true, Bool.and_eq_true, List.all_eq_true, decide_eq_true_eq, decide_eq_true_eq, ← len_cs]
  exact ⟨fun h => ⟨fun c m => of_decide_eq_true (h.1 c m), h.2⟩, fun h => ⟨fun c m => decide_eq_true (h.1 c m), h.2⟩⟩
theorem Lw.nm {x : Str} {n : Nat} (h : Lw x n) (h1 : 1 ≤ n) (h2 : n ≤ 12) : isNm x = true := isNm_iff.mpr ⟨h.1, by rw [h.2]; exact h1, by rw [h.2]; exact h2⟩
theorem isNm.lw {x : Str} (h : isNm x = true) : Lw x x.length ∧ 1 ≤ x.length ∧ x.length ≤ 12 := ⟨⟨(isNm_iff.mp h).1, rfl⟩, (isNm_iff.mp h).2⟩
theorem lw_sub {z : Str} {n k : Nat} (h : Lw z n) {l : List Nat} (hs : ∀ c ∈ l, c ∈ cs z) (hk : l.length = k) : Lw ⟨l.toArray⟩ k := ⟨fun c m => h.1 c (hs c m), by rw [len_cs]; exact hk⟩
theorem sl_hi {z : Str} {n k : Nat} {i : Int} (h : Lw z n) (hn : n ≤ 1000) (e : i = k) (hk : k ≤ n) : ∃ s : Str, Lw s k ∧ gSlS (.str z) none (some i) = some (.str s) := by
  refine ⟨_, lw_sub h (fun c m => ?_) ?_, s_slS (by rw [h.2]; omega)⟩
  · rw [cut_hi e] at m; exact List.mem_of_mem_take m
  · rw [cut_hi e, List.length_take, ← len_cs, h.2]; omega
theorem sl_lo {z : Str} {n k : Nat} {i : Int} (h : Lw z n) (hn : n ≤ 1000) (e : i = k) : ∃ s : Str, Lw s (n - k) ∧ gSlS (.str z) (some i) none = some (.str s) := by
  refine ⟨_, lw_sub h (fun c m => ?_) ?_, s_slS (by rw [h.2]; omega)⟩
  · rw [cut_lo e] at m; exact List.mem_of_mem_drop m
  · rw [cut_lo e, List.length_drop, ← len_cs, h.2]
theorem sl_loN {z : Str} {n k : Nat} {i : Int} (h : Lw z n) (hn : n ≤ 1000) (e : i = -(k : Int)) (h0 : 0 < k) (hk : k ≤ n) : ∃ s : Str, Lw s k ∧ gSlS (.str z) (some i) none = some (.str s) := by
  refine ⟨_, lw_sub h (fun c m => ?_) ?_, s_slS (by rw [h.2]; omega)⟩
  · rw [cut_loN e h0] at m; exact List.mem_of_mem_drop m
  · rw [cut_loN e h0, List.length_drop, ← len_cs, h.2]; omega
theorem inD_strs {x : Str} : ∀ {ns : List Str}, inD (.str x) (ns.map .str) = decide (x ∈ ns)
  | [] => rfl
  | y :: ns => by
    rw [List.map_cons, inD_cons, inD_strs]
    show ((y == x) || decide (x ∈ ns)) = _
    by_cases h : y = x
    · subst h
      rw [beq_self_eq_true, Bool.true_or, decide_eq_true List.mem_cons_self]
    · rw [beq_eq_false_iff_ne.mpr h, Bool.false_or]
      exact decide_eq_decide.mpr ⟨fun m => List.mem_cons_of_mem _ m, fun m => (List.mem_cons.mp m).resolve_left fun z => h z.symm⟩
theorem s_inStrs {neg : Bool} {x : Str} {ns : List Str} : gIn neg (.str x) (.lst (ns.map .str)) = some (.bl (if neg then !decide (x ∈ ns) else decide (x ∈ ns))) := by
  rw [s_inL, if_pos ⟨rfl, by rw [List.all_map]; exact List.all_eq_true.mpr fun _ _ => rfl⟩, inD_strs]
theorem ix_strs {ns : List Str} {i : Int} {k : Nat} (e : i = k) (h : k < ns.length) : gIx (.lst (ns.map .str)) (.int i) = some (.str ns[k]) := by
  show L2.atI (ns.map D.str) i = _
  rw [atI_map, atI_nat e h]
  rfl
def someW : List Str := ["hat", "sees", "put", "guess", "right", "ring", "order", "book", "sure", "share", "groups", "circle", "hats"]
theorem someW_nm : ∀ w ∈ someW, isNm w = true := by decide +kernel
theorem emod_nat {x m : Int} (hm : 0 < m) : ∃ k : Nat, x % m = k ∧ (k : Int) < m := ⟨(x % m).toNat, by have := Int.emod_nonneg x (show m ≠ 0 by omega); omega, by have := Int.emod_nonneg x (show m ≠ 0 by omega); have := Int.emod_lt_of_pos x hm; omega⟩
def alph12 : Str := "abcdefghijkl"
theorem alph12_lw : Lw alph12 12 := by
  refine ⟨?_, rfl⟩
  decide +kernel
section
variable {c n : Int} {L : List Int} {base : Str} {b at_ : Nat}
/-- the store of _law_names within its loop -/
def nmS (c n : Int) (L : List Int) (base : Str) (at_ : Nat) (names : List Str) (k : Option D) (name : Str) (a b : Option D) : Store := [some (.int c), some (.int n), some (.str alphS), some (.lst (someW.map .str)), some (.lst (L.map .int)), some (.str base), some (.int at_), some (.lst (names.map .str)), k, some (.str name), a, b]
theorem nm_if1 (l1 : L.length = 40) (hb : Lw base b) (b1 : b ≤ 12) (ha : at_ < b) {names : List Str} {j : Nat} (hj : j < 8) {name : Str} (hn : isNm name = true) (a d : Option D) : ∃ name' a', isNm name' = true ∧ if__law_names_1 (nmS c n L base at_ names (some (.int j)) name a d) = some (.nx (nmS c n L base at_ names (some (.int j)) name' a' d)) := by
  have t : tBo (e2 gLt (e2 gMod (e2 gIx (eVar 4) (eC (.int 29))) (eC (.int 5))) (eC (.int 2))) (nmS c n L base at_ names (some (.int j)) name a d) = some (decide (at0 L 29 % 5 < 2)) := tbo_ok (e2_ok (drm (k := 29) rfl rfl (by omega) (by decide)) rfl rfl)
  by_cases h : at0 L 29 % 5 < 2
  · rw [decide_eq_true h] at t
    obtain ⟨u, hu, u6⟩ := emod_nat (x := at0 L 31) (m := 6) (by decide)
    obtain ⟨q, eq⟩ : ∃ q, gIx (.lst ([1, 3, 5, 7, 9, 11].map .int)) (.int u) = some (.int q) ∧ 0 ≤ q ∧ q ≤ 11 := by
      have : u = 0 ∨ u = 1 ∨ u = 2 ∨ u = 3 ∨ u = 4 ∨ u = 5 := by omega
      rcases this with rfl | rfl | rfl | rfl | rfl | rfl <;> exact ⟨_, rfl, by decide, by decide⟩
    obtain ⟨s, hs, es⟩ := let_ix (i := (at0 L 30 + j * q) % 26) (Int.emod_nonneg _ (by decide)) (Int.emod_lt_of_pos _ (by decide))
    obtain ⟨p1, hp1, ep1⟩ := sl_hi hb (by omega) (i := (at_ : Int)) rfl (Nat.le_of_lt ha)
    obtain ⟨p2, hp2, ep2⟩ := sl_lo hb (by omega) (i := (at_ : Int) + 1) (k := at_ + 1) rfl
    have hm : gMul (.int j) (.int q) = some (.int (j * q)) := mul_ok (by omega) (by omega) (by omega) (by omega)
    have h1 := hp1.add hs
    have h2 := h1.add hp2
    refine ⟨p1 ++ s ++ p2, _, h2.nm (by omega) (by omega), if_t t (seq_set (d := .str s) (e2_ok rfl (e2_ok (e2_ok (drn (k := 30) rfl rfl rfl (by omega)) (e2_ok rfl (e2_ok (a := .lst ([1, 3, 5, 7, 9, 11].map .int)) rfl (drm (k := 31) rfl rfl (by omega) (by decide)) (by rw [hu]; exact eq.1)) hm) rfl) rfl (mod_ok (by decide))) es) (set_ok (d := .str (p1 ++ s ++ p2)) ?_))⟩
    refine e2_ok (a := .str (p1 ++ s)) (b := .str p2) (e2_ok (a := .str p1) (b := .str s) ?_ rfl (s_addS (by rw [hp1.2, hs.2]; omega))) ?_ (s_addS (by rw [h1.2, hp2.2]; omega))
    · exact ep1
    · exact ep2
  · rw [decide_eq_false h] at t
    exact ⟨name, a, hn, if_f t rfl⟩
theorem nm_if2 (l1 : L.length = 40) {names : List Str} {j : Nat} (hj : j < 8) {name : Str} (hn : isNm name = true) (a d : Option D) : ∃ name', isNm name' = true ∧ if__law_names_2 (nmS c n L base at_ names (some (.int j)) name a d) = some (.nx (nmS c n L base at_ names (some (.int j)) name' a d)) := by
  have t : tBo (e2 (gEq false) (e2 gMod (e2 gIx (eVar 4) (eC (.int 29))) (eC (.int 5))) (eC (.int 2))) (nmS c n L base at_ names (some (.int j)) name a d) = some (decide (at0 L 29 % 5 = 2)) := tbo_ok (e2_ok (drm (k := 29) rfl rfl (by omega) (by decide)) rfl s_eq)
  by_cases h : at0 L 29 % 5 = 2
  · rw [decide_eq_true h] at t
    obtain ⟨u, hu, u6⟩ := emod_nat (x := at0 L 32 + 5 * j) (m := 13) (by decide)
    have ul : u < someW.length := by show u < 13; omega
    have hm : gMul (.int 5) (.int j) = some (.int (5 * j)) := mul_ok (by omega) (by omega) (by omega) (by omega)
    exact ⟨someW[u], someW_nm _ (List.getElem_mem ul), if_t t (set_ok (e2_ok rfl (e2_ok (e2_ok (drn (k := 32) rfl rfl rfl (by omega)) (e2_ok rfl rfl hm) rfl) rfl (mod_ok (by decide))) (ix_strs hu ul)))⟩
  · rw [decide_eq_false h] at t
    exact ⟨name, hn, if_f t rfl⟩
theorem nm_if3 (l1 : L.length = 40) (hb : Lw base b) (b1 : b ≤ 12) {names : List Str} {j : Nat} (hj : j < 8) {name : Str} (hn : isNm name = true) (a d : Option D) : ∃ name' d', isNm name' = true ∧ if__law_names_3 (nmS c n L base at_ names (some (.int j)) name a d) = some (.nx (nmS c n L base at_ names (some (.int j)) name' a d')) := by
  have t : tBo (e2 (gEq false) (e2 gMod (e2 gIx (eVar 4) (eC (.int 29))) (eC (.int 5))) (eC (.int 3))) (nmS c n L base at_ names (some (.int j)) name a d) = some (decide (at0 L 29 % 5 = 3)) := tbo_ok (e2_ok (drm (k := 29) rfl rfl (by omega) (by decide)) rfl s_eq)
  by_cases h : at0 L 29 % 5 = 3
  · rw [decide_eq_true h] at t
    obtain ⟨u, hu, u6⟩ := emod_nat (x := 5 * j + at0 L 32) (m := 12) (by decide)
    have hm : gMul (.int 5) (.int j) = some (.int (5 * j)) := mul_ok (by omega) (by omega) (by omega) (by omega)
    have c1 := hb.add alph12_lw
    have c2 := alph12_lw.add hb
    obtain ⟨p1, hp1, ep1⟩ := sl_hi c1 (by omega) (i := 1 + (5 * j + at0 L 32) % 12) (k := 1 + u) (by rw [hu]; omega) (by omega)
    obtain ⟨p2, hp2, ep2⟩ := sl_loN c2 (by omega) (i := -(1 + (5 * j + at0 L 32) % 12)) (k := 1 + u) (by rw [hu]; omega) (by omega) (by omega)
    have cut1 := s_addS (x := base) (y := alph12) (by rw [hb.2, alph12_lw.2]; omega)
    have cut2 := s_addS (x := alph12) (y := base) (by rw [hb.2, alph12_lw.2]; omega)
    obtain ⟨v, hv, v2⟩ := emod_nat (x := at0 L 33) (m := 2) (by decide)
    have vl : v < [p1, p2].length := by show v < 2; omega
    refine ⟨[p1, p2][v], _, ?_, if_t t (seq_set (d := .int (1 + (5 * j + at0 L 32) % 12)) (e2_ok rfl (e2_ok (e2_ok (e2_ok rfl rfl hm) (drn (k := 32) rfl rfl rfl (by omega)) rfl) rfl (mod_ok (by decide))) rfl) (set_ok (e2_ok (a := .lst ([p1, p2].map .str)) (elst_ok (acons_ok ?_ (acons_ok ?_ anil_ok)) (by show 2 ≤ 16777216; decide)) (drm (k := 33) rfl rfl (by omega) (by decide)) (ix_strs hv vl))))⟩
    · have : v = 0 ∨ v = 1 := by omega
      rcases this with rfl | rfl
      · exact hp1.nm (by omega) (by omega)
      · exact hp2.nm (by omega) (by omega)
    · rw [s_eSl, e2_ok (f1 := eVar 5) (f2 := eC (.str "abcdefghijkl")) rfl rfl cut1]
      exact ep1
    · rw [s_eSl, e2_ok (f1 := eC (.str "abcdefghijkl")) (f2 := eVar 5) rfl rfl cut2]
      exact ep2
  · rw [decide_eq_false h] at t
    exact ⟨name, d, hn, if_f t rfl⟩
end
theorem names_ok (c : Int) (n : Nat) (hn : n ≤ 8) : ∃ ns : List Str, ns.Nodup ∧ (∀ w ∈ ns, isNm w = true) ∧ ns.length ≤ n ∧ (0 < n → ns ≠ []) ∧ sem__law_names [.int c, .int n] = some (.lst (ns.map .str)) := by
  obtain ⟨L, l1, l2, eL⟩ := draws_ok c 40 (by decide)
  have r0 := drg l2 (k := 0) (by omega)
  obtain ⟨bb, hbb, bb2⟩ := emod_nat (x := at0 L 1) (m := 12) (by decide)
  obtain ⟨base, hb, eb⟩ := fresh_ok (at0 L 0) (1 + bb) r0.1 (by omega) (by omega)
  obtain ⟨at_, hat, at2⟩ := emod_nat (x := at0 L 2) (m := ((1 + bb : Nat) : Int)) (by omega)
  obtain ⟨ρ', hf, ns, q1, q2, q3, q4, k, nm, a, b, rfl⟩ := forD_rng (g := gSet 8) (F := lp__law_names_5) (n := n)
    (fun j ρ => ∃ ns : List Str, ns.Nodup ∧ (∀ w ∈ ns, isNm w = true) ∧ ns.length ≤ j ∧ (0 < j → ns ≠ []) ∧ ∃ k nm a b, ρ = [some (.int c), some (.int n), some (.str alphS), some (.lst (someW.map .str)), some (.lst (L.map .int)), some (.str base), some (.int at_), some (.lst (ns.map .str)), k, nm, a, b])
    (fun j hj ρ p => by
      obtain ⟨ns, q1, q2, q3, q4, k, nm, a, b, rfl⟩ := p
      have rj := drg l2 (k := 3 + j) (by omega)
      obtain ⟨w, hw, w2⟩ := emod_nat (x := at0 L (16 + j)) (m := 12) (by decide)
      obtain ⟨x, hx, ex⟩ := fresh_ok (at0 L (3 + j)) (1 + w) rj.1 (by omega) (by omega)
      obtain ⟨n1, a1, g1, e1⟩ := nm_if1 (c := c) (n := n) (b := 1 + bb) (at_ := at_) l1 hb (by omega) (by omega) (names := ns) (show j < 8 by omega) (hx.nm (by omega) (by omega)) a b
      obtain ⟨n2, g2, e2'⟩ := nm_if2 (c := c) (n := n) (base := base) (at_ := at_) l1 (names := ns) (show j < 8 by omega) g1 a1 b
      obtain ⟨n3, b3, g3, e3⟩ := nm_if3 (c := c) (n := n) (b := 1 + bb) (at_ := at_) l1 hb (by omega) (names := ns) (show j < 8 by omega) g2 a1 b
      have t : tBo (e2 (gIn true) (eVar 9) (eVar 7)) (nmS c n L base at_ ns (some (.int j)) n3 a1 b3) = some (!decide (n3 ∈ ns)) := tbo_ok (e2_ok rfl rfl s_inStrs)
      have st : ∀ o, if__law_names_4 (nmS c n L base at_ ns (some (.int j)) n3 a1 b3) = o → lp__law_names_5 [some (.int c), some (.int n), some (.str alphS), some (.lst (someW.map .str)), some (.lst (L.map .int)), some (.str base), some (.int at_), some (.lst (ns.map .str)), some (.int j), nm, a, b] = o := fun o ho => by
        refine seq_set (d := .str x) (callF_ok (ds := [.int (at0 L (3 + j)), .int ((1 + w : Nat))]) (acons_ok (drn (k := 3 + j) rfl rfl rfl (by omega)) (acons_ok (e2_ok rfl (e2_ok (drn (k := 16 + j) rfl rfl rfl (by omega)) rfl (mod_ok (by decide))) ?_) anil_ok)) rfl ex) (seq_nx e1 (seq_nx e2' (seq_nx e3 ho)))
        rw [hw]; rfl
      by_cases h : n3 ∈ ns
      · rw [decide_eq_true h] at t
        exact ⟨_, _, rfl, .inl (st _ (if_f t rfl)), ns, q1, q2, by omega, fun _ => List.ne_nil_of_mem h, _, _, _, _, rfl⟩
      · rw [decide_eq_false h] at t
        refine ⟨_, _, rfl, .inl (st _ (if_t t (append_ok (d := .str n3) (ds := ns.map .str) rfl rfl (by rw [List.length_map]; omega)))), ns ++ [n3], ?_, fun u m => ?_, by rw [List.length_append, List.length_singleton]; omega, fun _ z => by simp at z, some (.int j), some (.str n3), a1, b3, ?_⟩
        · exact List.nodup_append.mpr ⟨q1, List.nodup_cons.mpr ⟨fun m => (nomatch m), .nil⟩, fun x m y my e => h (by rw [← List.mem_singleton.mp my, ← e]; exact m)⟩
        · rcases List.mem_append.mp m with m | m
          · exact q2 u m
          · rw [List.mem_singleton.mp m]; exact g3
        · rw [List.map_append]; rfl)
    (ρ := [some (.int c), some (.int n), some (.str alphS), some (.lst (someW.map .str)), some (.lst (L.map .int)), some (.str base), some (.int at_), some (.lst []), none, none, none, none]) ⟨[], .nil, fun w m => (nomatch m), Nat.le_refl _, fun z => absurd z (Nat.lt_irrefl _), _, _, _, _, rfl⟩
  refine ⟨ns, q1, q2, q3, q4, fn0_ok (seq_set (d := .str alphS) rfl (seq_set (d := .lst ((someW.take 11).map .str)) (elst_ok rfl (by decide)) (seq_set (d := .lst (someW.map .str)) (e2_ok rfl (elst_ok rfl (by decide)) (addL_ok (by decide))) (seq_set (d := .lst (L.map .int)) (callF_ok (ds := [.int c, .int (40 : Nat)]) rfl rfl eL) (seq_set (d := .str base) (callF_ok (ds := [.int (at0 L 0), .int ((1 + bb : Nat))]) (acons_ok (drn (k := 0) rfl rfl rfl (by omega)) (acons_ok (e2_ok rfl (drm (k := 1) rfl rfl (by omega) (by decide)) (by rw [hbb]; rfl)) anil_ok)) rfl eb) (seq_set (d := .int at_) (e2_ok (drn (k := 2) rfl rfl rfl (by omega)) (call_ok (acons_ok rfl anil_ok) (s_lenS (by rw [hb.2]; omega))) (by rw [hb.2, mod_ok (by omega), hat])) (seq_set (d := .lst []) rfl (seq_nx (for_ok (r1_nat (n := n) rfl (by omega)) hf) (ret_ok (d := .lst (ns.map .str)) rfl ?_)))))))))⟩
  show D.immBL 0 (ns.map D.str) = true
  clear q1 q2 q3 q4 hf
  induction ns with
  | nil => rfl
  | cons x xs ih => rw [List.map_cons, D.immBL, ih]; rfl
/-! _law_count -/
theorem pow10 {j : Nat} (h : j ≤ 1000) : gPow (.int 10) (.int j) = some (.int (10 ^ j)) := by
  show (if (decide ((0 : Int) ≤ j) && decide ((j : Int) ≤ 1000) && decide ((10 : Int).natAbs < 2 ^ 64)) = true then some (D.int (10 ^ (j : Int).toNat)) else none) = _
  rw [if_pos ?_, Int.toNat_natCast]
  rw [decide_eq_true (show (0 : Int) ≤ j by omega), decide_eq_true (show (j : Int) ≤ 1000 by omega)]
  decide +kernel
theorem count_ok (c : Int) (k : Nat) (hk : k ≤ 100) : ∃ n : Nat, 1 ≤ n ∧ n < 1000000000000000000000000000000 ∧ sem__law_count [.int c, .int k] = some (.int n) := by
  have p30 : gPow (.int 10) (.int 30) = some (.int 1000000000000000000000000000000) := pow10 (j := 30) (by decide)
  have p29 : gPow (.int 10) (.int 29) = some (.int 100000000000000000000000000000) := pow10 (j := 29) (by decide)
  have p18 : gPow (.int 10) (.int 18) = some (.int 1000000000000000000) := pow10 (j := 18) (by decide)
  have p9 : gPow (.int 10) (.int 9) = some (.int 1000000000) := pow10 (j := 9) (by decide)
  obtain ⟨L, l1, l2, eL⟩ := draws_ok (c / 3 + 31 * k) 6 (by decide)
  have r1 := drg l2 (k := 1) (by omega)
  have r2 := drg l2 (k := 2) (by omega)
  have r3 := drg l2 (k := 3) (by omega)
  obtain ⟨q, hq⟩ : ∃ q, q = at0 L 0 % 6 := ⟨_, rfl⟩
  have key : ∃ d : Int, 1 ≤ d ∧ d < 1000000000000000000000000000000 ∧ sSeq if__law_count_1 (sSeq if__law_count_2 (sSeq if__law_count_3 (sRet 0 (e2 gAdd (eC (.int 1)) (e2 gMod (e2 gIx (eVar 2) (eC (.int 1))) (eC (.int 7))))))) [some (.int c), some (.int k), some (.lst (L.map .int)), some (.int q)] = some (.rt (.int d) [some (.int c), some (.int k), some (.lst (L.map .int)), some (.int q)]) := by
    have t : ∀ i : Int, tBo (e2 (gEq false) (eVar 3) (eC (.int i))) [some (.int c), some (.int k), some (.lst (L.map .int)), some (.int q)] = some (decide (q = i)) := fun i => tbo_ok (e2_ok rfl rfl s_eq)
    have m0 : gSub (.int 1000000000000000000000000000000) (.int 1) = some (.int 999999999999999999999999999999) := rfl
    by_cases h0 : q = 0
    · have t0 := t 0
      rw [decide_eq_true h0] at t0
      have b0 := Int.emod_nonneg (c / 7) (show (999999999999999999999999999999 : Int) ≠ 0 by decide)
      have b1 := Int.emod_lt_of_pos (c / 7) (show (0 : Int) < 999999999999999999999999999999 by decide)
      exact ⟨1 + c / 7 % 999999999999999999999999999999, by omega, by omega, seq_rt (if_t t0 (ret_ok (e2_ok rfl (e2_ok (e2_ok rfl rfl (div_ok (by decide) (by decide))) (e2_ok (e2_ok rfl rfl p30) rfl m0) (mod_ok (by decide))) rfl) s_immI))⟩
    · have t0 := t 0
      rw [decide_eq_false h0] at t0
      by_cases h1 : q = 1
      · have t1 := t 1
        rw [decide_eq_true h1] at t1
        obtain ⟨u, hu, u8⟩ := emod_nat (x := at0 L 1) (m := 8) (by decide)
        have ul : u < [(1 : Int), 999999999999999999999999999999, 100000000000000000000000000000, 2, 9, 10, 99, 100].length := by show u < 8; omega
        have ix := ix_il (xs := [(1 : Int), 999999999999999999999999999999, 100000000000000000000000000000, 2, 9, 10, 99, 100]) (i := (u : Int)) (by omega) (by omega)
        have in_ : ∀ x ∈ [(1 : Int), 999999999999999999999999999999, 100000000000000000000000000000, 2, 9, 10, 99, 100], 1 ≤ x ∧ x < 1000000000000000000000000000000 := by decide +kernel
        have mem := in_ _ (at0_mem (k := ((u : Int)).toNat) (by omega))
        exact ⟨_, mem.1, mem.2, seq_nx (if_f t0 rfl) (seq_rt (if_t t1 (ret_ok (e2_ok (elst_ok (acons_ok rfl (acons_ok (e2_ok (e2_ok rfl rfl p30) rfl m0) (acons_ok (e2_ok rfl rfl p29) rfl))) (by show 8 ≤ 16777216; decide)) (drm (k := 1) rfl rfl (by omega) (by decide)) (by rw [hu]; exact ix)) s_immI)))⟩
      · have t1 := t 1
        rw [decide_eq_false h1] at t1
        by_cases h2 : q = 2
        · have t2 := t 2
          rw [decide_eq_true h2] at t2
          have e1 : gMul (.int (at0 L 1)) (.int 1000000000000000000) = some (.int (at0 L 1 * 1000000000000000000)) := mul_ok (by omega) (by omega) (by decide) (by decide)
          have e2' : gMul (.int (at0 L 2)) (.int 1000000000) = some (.int (at0 L 2 * 1000000000)) := mul_ok (by omega) (by omega) (by decide) (by decide)
          obtain ⟨z, hz⟩ : ∃ z, z = at0 L 1 * 1000000000000000000 + at0 L 2 * 1000000000 + at0 L 3 := ⟨_, rfl⟩
          have b0 := Int.emod_nonneg z (show (999999999999999999999999999999 : Int) ≠ 0 by decide)
          have b1 := Int.emod_lt_of_pos z (show (0 : Int) < 999999999999999999999999999999 by decide)
          refine ⟨1 + z % 999999999999999999999999999999, by omega, by omega, seq_nx (if_f t0 rfl) (seq_nx (if_f t1 rfl) (seq_rt (if_t t2 (ret_ok (e2_ok rfl (e2_ok (a := .int z) ?_ (e2_ok (e2_ok rfl rfl p30) rfl m0) (mod_ok (by decide))) rfl) s_immI))))⟩
          rw [hz]
          exact e2_ok (e2_ok (e2_ok (drn (k := 1) rfl rfl rfl (by omega)) (e2_ok rfl rfl p18) e1) (e2_ok (drn (k := 2) rfl rfl rfl (by omega)) (e2_ok rfl rfl p9) e2') rfl) (drn (k := 3) rfl rfl rfl (by omega)) rfl
        · have t2 := t 2
          rw [decide_eq_false h2] at t2
          have b0 := Int.emod_nonneg (at0 L 1) (show (7 : Int) ≠ 0 by decide)
          have b1 := Int.emod_lt_of_pos (at0 L 1) (show (0 : Int) < 7 by decide)
          exact ⟨1 + at0 L 1 % 7, by omega, by omega, seq_nx (if_f t0 rfl) (seq_nx (if_f t1 rfl) (seq_nx (if_f t2 rfl) (ret_ok (e2_ok rfl (drm (k := 1) rfl rfl (by omega) (by decide)) rfl) s_immI)))⟩
  obtain ⟨d, d1, d2, ed⟩ := key
  have m31 : gMul (.int 31) (.int k) = some (.int (31 * k)) := mul_ok (by decide) (by decide) (by omega) (by omega)
  refine ⟨d.toNat, by omega, by omega, ?_⟩
  rw [show ((d.toNat : Nat) : Int) = d by omega]
  refine fn0_ok (seq_set (d := .lst (L.map .int)) (callF_ok (ds := [.int (c / 3 + 31 * k), .int (6 : Nat)]) (acons_ok (e2_ok (e2_ok rfl rfl (div_ok (by decide) (by decide))) (e2_ok rfl rfl m31) rfl) rfl) rfl eL) (seq_set (d := .int q) ?_ ed))
  rw [hq]
  exact drm (k := 0) rfl rfl (by omega) (by decide)
/-! the text of a count -/
def num (n : Nat) : Str := Str.ofString (toString ((n : Nat) : Int))
theorem cs_num (n : Nat) : cs (num n) = TL.numL n := TL.tl_num n
theorem figs_mem {c : Nat} (h : 48 ≤ c ∧ c ≤ 57) : c ∈ cs figS := by
  have e : cs figS = [48, 49, 50, 51, 52, 53, 54, 55, 56, 57] := by decide +kernel
  rw [e]
  have : c = 48 ∨ c = 49 ∨ c = 50 ∨ c = 51 ∨ c = 52 ∨ c = 53 ∨ c = 54 ∨ c = 55 ∨ c = 56 ∨ c = 57 := by omega
  rcases this with rfl | rfl | rfl | rfl | rfl | rfl | rfl | rfl | rfl | rfl <;> decide
theorem numL_head : ∀ n : Nat, 1 ≤ n → (TL.numL n).head? ≠ some 48 := fun n => by
  induction n using Nat.strongRecOn with
  | ind n ih =>
    intro h
    by_cases hn : n < 10
    · rw [TL.numL_lt hn]
      intro e
      have : 48 + n = 48 := Option.some.inj e
      omega
    · rw [TL.numL_step (by omega), List.head?_append]
      have := ih (n / 10) (by omega) (by omega)
      cases e : (TL.numL (n / 10)).head? with
      | none => exact absurd (List.head?_eq_none_iff.mp e) (TL.numL_ne _)
      | some c => rw [e] at this; exact this
theorem num_len {n : Nat} (h : n < 1000000000000000000000000000000) : (num n).length ≤ 30 := by
  rw [len_cs, cs_num]
  exact TL.numL_len (by decide) h
theorem num_ct {n : Nat} (h : n < 1000000000000000000000000000000) : isCt (num n) = true := by
  unfold isCt mdf
  rw [cs_num, Bool.and_eq_true, Bool.and_eq_true, List.all_eq_true, decide_eq_true_eq, decide_eq_true_eq]
  refine ⟨fun c m => decide_eq_true (figs_mem (TL.numL_digits n c m)), ?_, TL.numL_len (by decide) h⟩
  cases e : TL.numL n with
  | nil => exact absurd e (TL.numL_ne n)
  | cons a l => rw [List.length_cons]; omega
theorem str_num {n : Nat} (h : n < 1000000000000000000000000000000) : gStr [.int n] = some (.str (num n)) := by
  show (if ((n : Int).natAbs).log2 < 1920 then some (D.str (num n)) else none) = _
  rw [if_pos]
  rw [Int.natAbs_natCast]
  by_cases h0 : n = 0
  · subst h0; decide
  · rw [Nat.log2_lt h0]
    exact Nat.lt_of_lt_of_le h (by decide +kernel)
theorem int_num {n : Nat} (h : n < 1000000000000000000000000000000) : gIntS [.str (num n)] = some (.int n) := by
  have e : PySem.intText? (num n) = some (n : Int) := TL.int_num (by have := TL.numL_len (k := 30) (by decide) h; omega)
  have := num_len h
  unfold gIntS
  simp only [e]
  exact if_pos (by omega)
/-! read_line's parts -/
theorem figs_rng {c : Nat} (h : c ∈ cs figS) : 48 ≤ c ∧ c ≤ 57 := by
  have e : cs figS = [48, 49, 50, 51, 52, 53, 54, 55, 56, 57] := by decide +kernel
  rw [e] at h
  simp only [List.mem_cons, List.not_mem_nil, or_false] at h
  omega
theorem imm_strs : ∀ ws : List Str, D.immL (ws.map .str) = true
  | [] => rfl
  | w :: ws => by
    show ((D.str w).imm && D.immL (ws.map .str)) = true
    rw [imm_strs ws]; rfl
def ctV (w : Str) : Int := ((NumText.digitsVal (cs w) : Nat) : Int)
theorem isCt_iff {w : Str} : isCt w = true ↔ (∀ c ∈ cs w, c ∈ cs figS) ∧ 1 ≤ w.length ∧ w.length ≤ 30 := by
  unfold isCt mdf
  rw [Bool.and_eq_true, Bool.and_eq_true, List.all_eq_true, decide_eq_true_eq, decide_eq_true_eq, ← len_cs]
  exact ⟨fun h => ⟨fun c m => of_decide_eq_true (h.1 c m), h.2⟩, fun h => ⟨fun c m => decide_eq_true (h.1 c m), h.2⟩⟩
theorem int_ct {w : Str} (h : isCt w = true) : gIntS [.str w] = some (.int (ctV w)) := by
  obtain ⟨h1, h2, h3⟩ := isCt_iff.mp h
  have e : PySem.intText? w = some (ctV w) := intText_digits (fun c m => figs_rng (h1 c m)) (fun z => by have z : cs w = [] := z; rw [len_cs, z] at h2; exact absurd h2 (by decide)) (by omega)
  unfold gIntS
  simp only [e]
  exact if_pos (by omega)
theorem ctV_num (n : Nat) : ctV (num n) = n := by unfold ctV; rw [cs_num, TL.numL_val]
/-- the words of a line -/
def okW (ws : List Str) : Prop := (∀ w ∈ ws, w.length ≤ 16777216 ∧ sOk w = true) ∧ ws.length ≤ 1000
def headW (ws : List Str) : Str := ws.headD ""
def hatW : List Str → Bool
  | [w0, w1, w2] => decide (w0 = "hat") && isNm w1 && (isCt w2 && !decide ((cs w2).head? = some 48))
  | _ => false
def hatD : List Str → D
  | [_, w1, w2] => .tup [.str "hat", .str w1, .int (ctV w2)]
  | _ => .non
def badW (ws : List Str) : Bool := !decide (headW ws = "sees") || (decide (ws.length < 3) || !(ws.drop 1).all isNm)
def twcW (ws : List Str) : Bool := decide (metS (ws.drop 1) < ws.length - 1)
def seesD (ws : List Str) : D := .tup [.str "sees", .str ((ws.drop 1).headD ""), .tup ((ws.drop 2).map .str)]
section
variable {ws : List Str} {t l : D}
theorem w0_ok (hn : ws ≠ []) : e2 gIx (eVar 2) (eC (.int 0)) [some t, some l, some (.lst (ws.map .str))] = some (.str (headW ws)) := by
  cases ws with
  | nil => exact absurd rfl hn
  | cons w ws => exact e2_ok rfl rfl (ix_strs (k := 0) rfl (by simp))
theorem head_mem (hn : ws ≠ []) : headW ws ∈ ws := by
  cases ws with
  | nil => exact absurd rfl hn
  | cons w ws => exact List.mem_cons_self
theorem wl_ok : eCall gLen (aCons (eVar 2) aNil) [some t, some l, some (.lst (ws.map .str))] = some (.int ws.length) := len_ok rfl (by rw [List.length_map])
theorem sl1_ok (k : Nat) : eSl gSlL (eVar 2) (oSome (eC (.int k))) oNone [some t, some l, some (.lst (ws.map .str))] = some (.lst ((ws.drop k).map .str)) := by
  rw [s_eSl]
  show gSlL (.lst (ws.map .str)) (some (k : Int)) none = _
  show some (D.lst (cutD (ws.map D.str) (some (k : Int)) none)) = _
  rw [cut_map, cut_lo rfl]
theorem if2_ok (hn : ws ≠ []) (hw : okW ws) : if_read_line_2 [some t, some l, some (.lst (ws.map .str))] = if hatW ws = true then some (.rt (hatD ws) [some t, some l, some (.lst (ws.map .str))]) else some (.nx [some t, some l, some (.lst (ws.map .str))]) := by
  have hs : sOk "hat" = true := by decide +kernel
  have h1 := tbo_ok (e2_ok (w0_ok (t := t) (l := l) hn) (f2 := eC (.str "hat")) rfl (s_eqS (hw.1 _ (head_mem hn)).2 hs))
  have h2 : tBo (e2 (gEq false) (eCall gLen (aCons (eVar 2) aNil)) (eC (.int 3))) [some t, some l, some (.lst (ws.map .str))] = some (decide (ws.length = 3)) := tbo_ok (e2_ok wl_ok rfl (s_eq.trans (by rw [decide_eq_decide.mpr (show ((ws.length : Int) = 3) ↔ ws.length = 3 by omega)])))
  by_cases e0 : headW ws = "hat"
  · rw [decide_eq_true e0] at h1
    by_cases e3 : ws.length = 3
    · rw [decide_eq_true e3] at h2
      match ws, hn, hw, e0, e3, h1, h2 with
      | [w0, w1, w2], hn, hw, e0, e3, h1, h2 =>
        have m1 := hw.1 w1 (by simp)
        have m2 := hw.1 w2 (by simp)
        have a1 := are_names [w1] (fun w m => by rw [List.mem_singleton.mp m]; exact m1) (by show 1 < 16777216; decide)
        have a2 : tBo (eCall (callF 1 [] sem_are_names) (aCons (eSl gSlL (eVar 2) (oSome (eC (.int 1))) (oSome (eC (.int 2)))) aNil)) [some t, some l, some (.lst ([w0, w1, w2].map .str))] = some (isNm w1) := tbo_ok (callF_ok (ds := [.lst ([w1].map .str)]) (acons_ok (by rw [s_eSl]; rfl) anil_ok) rfl (a1.trans (by simp)))
        have t2 := bAnd_ok h1 fun _ => bAnd_ok h2 fun _ => a2
        have e0 : w0 = "hat" := e0
        have eh : hatW [w0, w1, w2] = (isNm w1 && (isCt w2 && !decide ((cs w2).head? = some 48))) := by
          show (decide (w0 = "hat") && isNm w1 && _) = _
          rw [decide_eq_true e0, Bool.true_and]
        rw [eh]
        cases e1 : isNm w1 with
        | false => rw [e1] at t2; exact if_f t2 rfl
        | true =>
          rw [e1] at t2
          refine (if_t t2 rfl).trans ?_
          have a3 : tBo (eCall (callF 3 [] sem_made_of) (aCons (e2 gIx (eVar 2) (eC (.int 2))) (aCons (eC (.str "0123456789")) (aCons (eC (.int 30)) aNil)))) [some t, some l, some (.lst ([w0, w1, w2].map .str))] = some (isCt w2) := tbo_ok (callF_ok (ds := [.str w2, .str figS, .int (30 : Nat)]) rfl rfl (made_of_ok w2 figS 30 m2.1))
          cases e2' : isCt w2 with
          | false => rw [e2'] at a3; exact if_f (bAnd_ok (b := false) a3 fun z => Bool.noConfusion z) rfl
          | true =>
            rw [e2'] at a3
            obtain ⟨d1, d2, d3⟩ := isCt_iff.mp e2'
            obtain ⟨c, r, ec⟩ : ∃ c r, cs w2 = c :: r := by
              cases ec : cs w2 with
              | nil => rw [len_cs, ec] at d2; exact absurd d2 (by decide)
              | cons c r => exact ⟨c, r, rfl⟩
            have cb := figs_rng (d1 c (by rw [ec]; exact List.mem_cons_self))
            have so : sOk ⟨#[c]⟩ = true := by
              show (#[c].all fun c => decide (c < 0x110000)) = true
              rw [← Array.all_toList]
              show (decide (c < 0x110000) && true) = true
              rw [decide_eq_true (by omega)]; rfl
            have a4 : tBo (e2 (gEq true) (e2 gIx (e2 gIx (eVar 2) (eC (.int 2))) (eC (.int 0))) (eC (.str "0"))) [some t, some l, some (.lst ([w0, w1, w2].map .str))] = some (!decide ((cs w2).head? = some 48)) := tbo_ok ((e2_ok (e2_ok (a := .str w2) (b := .int 0) rfl rfl (s_ixS (k := 0) (c := c) m2.1 rfl (by rw [ec]; rfl))) rfl (s_neS (y := "0") so (by decide +kernel))).trans (by
              congr 3
              rw [ec]
              refine decide_eq_decide.mpr ⟨fun z => ?_, fun z => ?_⟩
              · have : cs ⟨#[c]⟩ = cs "0" := congrArg cs z
                have : [c] = [48] := this
                rw [List.cons.inj this |>.1]; rfl
              · have : c = 48 := Option.some.inj z
                rw [this]; decide +kernel))
            have t5 := bAnd_ok a3 fun _ => a4
            cases e3 : decide ((cs w2).head? = some 48) with
            | true => rw [e3] at t5; exact if_f t5 rfl
            | false =>
              rw [e3] at t5
              exact if_t t5 (ret_ok (d := .tup [.str "hat", .str w1, .int (ctV w2)]) (etup_ok (acons_ok rfl (acons_ok rfl (acons_ok (call_ok (acons_ok rfl anil_ok) (int_ct e2')) anil_ok))) (by show 3 ≤ 16777216; decide)) rfl)
    · rw [decide_eq_false e3] at h2
      have eh : hatW ws = false := by
        unfold hatW
        split
        · exact absurd rfl e3
        · rfl
      rw [eh]
      exact if_f (bAnd_ok h1 fun _ => bAnd_ok (b := false) h2 fun z => Bool.noConfusion z) rfl
  · rw [decide_eq_false e0] at h1
    have eh : hatW ws = false := by
      unfold hatW
      split
      · rename_i a b c
        rw [decide_eq_false (show ¬ a = ("hat" : Str) from e0)]; rfl
      · rfl
    rw [eh]
    exact if_f (bAnd_ok (b := false) h1 fun z => Bool.noConfusion z) rfl
theorem t3_ok (hn : ws ≠ []) (hw : okW ws) : bOr (tBo (e2 (gEq true) (e2 gIx (eVar 2) (eC (.int 0))) (eC (.str "sees")))) (bOr (tBo (e2 gLt (eCall gLen (aCons (eVar 2) aNil)) (eC (.int 3)))) (bNot (tBo (eCall (callF 1 [] sem_are_names) (aCons (eSl gSlL (eVar 2) (oSome (eC (.int 1))) oNone) aNil))))) [some t, some l, some (.lst (ws.map .str))] = some (badW ws) :=
  bOr_ok (tbo_ok (e2_ok (w0_ok hn) rfl (s_neS (hw.1 _ (head_mem hn)).2 (by decide +kernel)))) fun _ => bOr_ok (tbo_ok (e2_ok wl_ok rfl (s_cmp.trans (by rw [decide_eq_decide.mpr (show ((ws.length : Int) < 3) ↔ ws.length < 3 by omega)])))) fun _ => bNot_ok (tbo_ok (callF_ok (ds := [.lst ((ws.drop 1).map .str)]) (acons_ok (sl1_ok 1) anil_ok) rfl (are_names _ (fun w m => hw.1 w (List.mem_of_mem_drop m)) (by rw [List.length_drop]; have := hw.2; omega))))
theorem t4_ok (hn : ws ≠ []) (hw : okW ws) : tBo (e2 gLt (eLenSetS (eSl gSlL (eVar 2) (oSome (eC (.int 1))) oNone)) (e2 gSub (eCall gLen (aCons (eVar 2) aNil)) (eC (.int 1)))) [some t, some l, some (.lst (ws.map .str))] = some (twcW ws) := by
  have hl : 0 < ws.length := List.length_pos_iff.mpr hn
  refine tbo_ok (e2_ok (lenSetS_ok (sl1_ok 1) (by rw [List.length_drop]; have := hw.2; omega)) (e2_ok wl_ok rfl rfl) (s_cmp.trans ?_))
  unfold twcW
  rw [decide_eq_decide.mpr (show ((metS (ws.drop 1) : Nat) : Int) < (ws.length : Int) - 1 ↔ metS (ws.drop 1) < ws.length - 1 by omega)]
theorem sees_ok (hb : badW ws = false) : sRet 0 (eTup (aCons (eC (.str "sees")) (aCons (e2 gIx (eVar 2) (eC (.int 1))) (aCons (eCall gTuple (aCons (eSl gSlL (eVar 2) (oSome (eC (.int 2))) oNone) aNil)) aNil)))) [some t, some l, some (.lst (ws.map .str))] = some (.rt (seesD ws) [some t, some l, some (.lst (ws.map .str))]) := by
  have h3 : ¬ ws.length < 3 := fun z => by
    unfold badW at hb
    rw [decide_eq_true z, Bool.true_or, Bool.or_true] at hb
    cases hb
  obtain ⟨w0, w1, r, rfl⟩ : ∃ w0 w1 r, ws = w0 :: w1 :: r := by
    match ws, h3 with
    | [], h => exact absurd (by show 0 < 3; decide) h
    | [_], h => exact absurd (by show 1 < 3; decide) h
    | w0 :: w1 :: r, _ => exact ⟨w0, w1, r, rfl⟩
  refine ret_ok (etup_ok (acons_ok rfl (acons_ok (e2_ok (b := .int 1) rfl rfl (ix_strs (ns := w0 :: w1 :: r) (k := 1) rfl (by simp))) (acons_ok (tuple_ok (sl1_ok (ws := w0 :: w1 :: r) 2)) anil_ok))) (by show 3 ≤ 16777216; decide)) ?_
  show (true && (true && (D.immL (r.map .str) && true))) = true
  rw [imm_strs]; rfl
end
/-! good lines -/
theorem sOk_of {x : Str} (h : ∀ c ∈ cs x, c < 1114112) : sOk x = true := by
  show (x.cps.all fun c => decide (c < 0x110000)) = true
  rw [← Array.all_toList]
  exact List.all_eq_true.mpr fun c m => decide_eq_true (h c m)
theorem lets_rng {c : Nat} (h : c ∈ lets) : 97 ≤ c ∧ c ≤ 122 := by
  have : ∀ c ∈ lets, 97 ≤ c ∧ c ≤ 122 := by decide +kernel
  exact this c h
theorem nm_ok {w : Str} (h : isNm w = true) : (w.length ≤ 16777216 ∧ sOk w = true) ∧ 32 ∉ cs w ∧ w.length ≤ 12 := by
  obtain ⟨h1, h2, h3⟩ := isNm_iff.mp h
  exact ⟨⟨by omega, sOk_of fun c m => by have := lets_rng (h1 c m); omega⟩, fun m => by have := lets_rng (h1 _ m); omega, h3⟩
theorem ct_ok {w : Str} (h : isCt w = true) : (w.length ≤ 16777216 ∧ sOk w = true) ∧ 32 ∉ cs w ∧ w.length ≤ 30 := by
  obtain ⟨h1, h2, h3⟩ := isCt_iff.mp h
  exact ⟨⟨by omega, sOk_of fun c m => by have := figs_rng (h1 c m); omega⟩, fun m => by have := figs_rng (h1 _ m); omega, h3⟩
theorem join_eq (sep : Str) (ws : List Str) : Txt.join sep ws = Str.join sep ws := StrLaws.glued_eq_join sep ws
theorem join_len {ws : List Str} (h : ∀ w ∈ ws, w.length ≤ 30) (hl : ws.length ≤ 1000) : (Txt.join " " ws).length ≤ 31 * ws.length ∧ (ws.map (·.length)).sum + ws.length * (" " : Str).length ≤ 31 * ws.length := by
  have e1 : (" " : Str).length = 1 := by decide +kernel
  have key : (ws.map (·.length)).sum ≤ 30 * ws.length := by
    clear hl
    induction ws with
    | nil => exact Nat.le_refl _
    | cons w ws ih =>
      have h1 := h w List.mem_cons_self
      have h2 := ih fun x m => h x (List.mem_cons_of_mem _ m)
      rw [List.map_cons, List.sum_cons, List.length_cons]
      omega
  have j := StrLaws.join_length_le " " ws
  rw [e1] at j ⊢
  rw [join_eq]
  omega
/-- what a good line tells -/
def lineD (ws : List Str) : D := if hatW ws = true then hatD ws else seesD ws
structure GL (ws : List Str) : Prop where
  ne : ws ≠ []
  ok : ∀ w ∈ ws, (w.length ≤ 16777216 ∧ sOk w = true) ∧ 32 ∉ cs w ∧ w.length ≤ 30
  le : ws.length ≤ 1000
  good : hatW ws = true ∨ (hatW ws = false ∧ badW ws = false ∧ twcW ws = false)
theorem GL.okW {ws : List Str} (h : GL ws) : okW ws := ⟨fun w m => (h.ok w m).1, h.le⟩
theorem gl_hat {w : Str} {n : Nat} (hw : isNm w = true) (h1 : 1 ≤ n) (hn : n < 1000000000000000000000000000000) : GL ["hat", w, num n] := by
  refine ⟨by simp, fun u m => ?_, by show 3 ≤ 1000; decide, .inl ?_⟩
  · simp only [List.mem_cons, List.not_mem_nil, or_false] at m
    rcases m with rfl | rfl | rfl
    · decide +kernel
    · have := nm_ok hw; exact ⟨this.1, this.2.1, by omega⟩
    · exact ct_ok (num_ct hn)
  · show (decide (("hat" : Str) = "hat") && isNm w && (isCt (num n) && !decide ((cs (num n)).head? = some 48))) = true
    rw [hw, num_ct hn, decide_eq_true rfl, decide_eq_false (by rw [cs_num]; exact numL_head n h1)]; rfl
theorem hat_D {w : Str} {n : Nat} (hw : isNm w = true) (h1 : 1 ≤ n) (hn : n < 1000000000000000000000000000000) : lineD ["hat", w, num n] = .tup [.str "hat", .str w, .int n] := by
  have e : hatW ["hat", w, num n] = true := by
    show (decide (("hat" : Str) = "hat") && isNm w && (isCt (num n) && !decide ((cs (num n)).head? = some 48))) = true
    rw [hw, num_ct hn, decide_eq_true rfl, decide_eq_false (by rw [cs_num]; exact numL_head n h1)]; rfl
  unfold lineD
  rw [if_pos e]
  show D.tup [.str "hat", .str w, .int (ctV (num n))] = _
  rw [ctV_num]
theorem sees_hat (ns : List Str) : hatW ("sees" :: ns) = false := by
  unfold hatW
  split
  · rename_i a b c e
    have : ("sees" : Str) = a := (List.cons.inj e).1
    rw [← this, decide_eq_false (by decide +kernel)]; rfl
  · rfl
theorem gl_sees {ns : List Str} (hn : ∀ w ∈ ns, isNm w = true) (nd : ns.Nodup) (h2 : 2 ≤ ns.length) (h3 : ns.length ≤ 100) : GL ("sees" :: ns) := by
  refine ⟨by simp, fun u m => ?_, by rw [List.length_cons]; omega, .inr ⟨sees_hat ns, ?_, ?_⟩⟩
  · rcases List.mem_cons.mp m with rfl | m
    · decide +kernel
    · have := nm_ok (hn u m); exact ⟨this.1, this.2.1, by omega⟩
  · show (!decide (("sees" : Str) = "sees") || (decide ((("sees" : Str) :: ns).length < 3) || !(ns.all isNm))) = false
    rw [decide_eq_true rfl, decide_eq_false (by rw [List.length_cons]; omega), List.all_eq_true.mpr hn]; rfl
  · show decide (metS ns < (("sees" : Str) :: ns).length - 1) = false
    rw [metS_nd nd, List.length_cons]
    exact decide_eq_false (by omega)
theorem sees_D (a : Str) (ns : List Str) : lineD ("sees" :: a :: ns) = .tup [.str "sees", .str a, .tup (ns.map .str)] := by
  unfold lineD
  rw [if_neg (by rw [sees_hat]; decide)]
  rfl
mutual
theorem eqv_rfl : ∀ d : D, d.isData = true → PyData.eqv d.toPy d.toPy = true
  | .non, _ => rfl
  | .bl b, _ => by cases b <;> rfl
  | .int i, _ => beq_self_eq_true i
  | .str x, _ => beq_self_eq_true x
  | .tup ds, h => eqvL_rfl ds (by rw [D.isData] at h; exact h)
  | .lst ds, h => eqvL_rfl ds (by rw [D.isData] at h; exact h)
  | .dct _ _, h => by rw [D.isData] at h; cases h
  | .obj _ _ _, h => by rw [D.isData] at h; cases h
theorem eqvL_rfl : ∀ ds : List D, D.isDataL ds = true → PyData.eqvAll (D.toPyL ds) (D.toPyL ds) = true
  | [], _ => rfl
  | d :: ds, h => by
    rw [D.isDataL, Bool.and_eq_true] at h
    show (PyData.eqv d.toPy d.toPy && PyData.eqvAll (D.toPyL ds) (D.toPyL ds)) = true
    rw [eqv_rfl d h.1, eqvL_rfl ds h.2]; rfl
end
theorem eq_self {d : D} {m : Nat} (h : Lay d m) (hm : m ≤ 64) : gEq false d d = some (.bl true) := gEq_ok (h.okE hm) (h.okE hm) (eqv_rfl d h.data)
theorem lay3 {a b c : D} {m : Nat} (h1 : Lay a m) (h2 : Lay b m) (h3 : Lay c m) : Lay (.tup [a, b, c]) (m + 1) := by
  have := Lay.tup (k := fun d : D => d) (xs := [a, b, c]) (m := m) fun x mx => by
    simp only [List.mem_cons, List.not_mem_nil, or_false] at mx
    rcases mx with rfl | rfl | rfl <;> assumption
  rwa [List.map_id'] at this
theorem cell_at (ns : List Int) (k : Nat) (hk : k ≤ 100) : sem__law_cell_at [.lst (ns.map .int), .int k] = some (.int (at0 ns k)) := by
  by_cases h : k < ns.length
  · refine fn0_ok (seq_rt (if_t (by simp; omega) (ret_ok (d := .int (at0 ns k)) ?_ (by simp))))
    have := ix_il (xs := ns) (i := (k : Int)) (by omega) (by omega)
    rw [Int.toNat_natCast] at this
    rw [s_e2]
    exact this
  · refine fn0_ok (seq_nx (if_f (by simp; omega) rfl) (ret_ok (d := .int (at0 ns k)) ?_ (by simp)))
    unfold at0
    rw [List.getD_eq_getElem?_getD, List.getElem?_eq_none (by omega)]
    rfl
/-! lines put together -/
theorem join_mem (sep : Str) {c : Nat} : ∀ {ws : List Str}, c ∈ cs (Txt.join sep ws) → c ∈ cs sep ∨ ∃ w ∈ ws, c ∈ cs w := by
  intro ws
  rw [join_eq]
  induction ws with
  | nil => exact fun m => (nomatch (show c ∈ ([] : List Nat) from m))
  | cons x ws ih =>
    cases ws with
    | nil => exact fun m => .inr ⟨x, List.mem_cons_self, m⟩
    | cons y r =>
      intro m
      have m : c ∈ cs (x ++ sep ++ Str.join sep (y :: r)) := m
      rw [cs_add, cs_add, List.mem_append, List.mem_append] at m
      rcases m with (m | m) | m
      · exact .inr ⟨x, List.mem_cons_self, m⟩
      · exact .inl m
      · rcases ih m with m | ⟨w, mw, m⟩
        · exact .inl m
        · exact .inr ⟨w, List.mem_cons_of_mem _ mw, m⟩
theorem split_joinN {ws : List Str} (h : ws ≠ []) (hb : ∀ w ∈ ws, 10 ∉ cs w) : Txt.split (Txt.join "\n" ws) "\n" = ws := by
  have e0 : ("\n" : Str) = SX.S [10] := by decide +kernel
  have e1 : ws = (ws.map cs).map SX.S := by
    rw [List.map_map]
    exact (List.map_id ws).symm.trans (List.map_congr_left fun w _ => cs_ext rfl)
  have n1 : ws.map cs ≠ [] := fun z => h (List.map_eq_nil_iff.mp z)
  have h2 : ∀ p ∈ ws.map cs, 10 ∉ p := fun p m => by
    obtain ⟨w, mw, rfl⟩ := List.mem_map.mp m
    exact hb w mw
  generalize ws.map cs = ps at e1 n1 h2
  subst e1
  rw [e0, SX.join_S, SX.split_S (by decide) (by decide), SX.spl_join n1 h2]
theorem s_splitN {a : Str} (h : a.length + 2 ≤ 16777216) : gSplit (.str a) (.str "\n") = some (.lst ((Txt.split a "\n").map .str)) := by
  unfold gSplit
  exact if_pos ⟨by decide +kernel, h⟩
theorem joinN_len {ws : List Str} {B : Nat} (h : ∀ w ∈ ws, w.length ≤ B) : (Txt.join "\n" ws).length ≤ (B + 1) * ws.length ∧ (ws.map (·.length)).sum + ws.length * ("\n" : Str).length ≤ (B + 1) * ws.length := by
  have e1 : ("\n" : Str).length = 1 := by decide +kernel
  have key : (ws.map (·.length)).sum ≤ B * ws.length := by
    induction ws with
    | nil => exact Nat.le_refl _
    | cons w ws ih =>
      have h1 := h w List.mem_cons_self
      have h2 := ih fun x m => h x (List.mem_cons_of_mem _ m)
      rw [List.map_cons, List.sum_cons, List.length_cons, Nat.mul_succ]
      omega
  have j := StrLaws.join_length_le "\n" ws
  rw [e1] at j ⊢
  rw [join_eq, Nat.add_mul]
  omega
/-! a book: names N, counts C, web ws; its lines -/
inductive It where
  | hat (k : Nat) | sees (i : Nat) (S : List Nat)
def nmD (N : List Str) (k : Nat) : Str := N.getD k ""
structure Bk (N : List Str) (C ws : List Nat) : Prop where
  nd : N.Nodup
  nm : ∀ w ∈ N, isNm w = true
  le : N.length ≤ 8
  cl : C.length = N.length
  cr : ∀ c ∈ C, 1 ≤ c ∧ c < 1000000000000000000000000000000
  wb : Wb ws N.length
def wd (N : List Str) (C : List Nat) : It → List Str
  | .hat k => ["hat", nmD N k, num (C.getD k 0)]
  | .sees i S => "sees" :: nmD N i :: S.map (nmD N)
def tx (N : List Str) (C : List Nat) (it : It) : Str := Txt.join " " (wd N C it)
def itD (N : List Str) (C : List Nat) : It → D
  | .hat k => .tup [.str "hat", .str (nmD N k), .int (C.getD k 0 : Nat)]
  | .sees i S => .tup [.str "sees", .str (nmD N i), .tup ((S.map (nmD N)).map .str)]
def hatN : It → Option Nat
  | .hat k => some k
  | .sees _ _ => none
def seeN : It → Option (Nat × List Nat)
  | .hat _ => none
  | .sees i S => some (i, S)
abbrev hats (its : List It) : List Nat := its.filterMap hatN
abbrev sps (its : List It) : List (Nat × List Nat) := its.filterMap seeN
structure Gi (n : Nat) (ws : List Nat) (its : List It) : Prop where
  h : hats its = List.range n
  s : ((sps its).map (·.1)).Nodup
  m : ∀ i S, It.sees i S ∈ its → i < n ∧ S ≠ [] ∧ S.Nodup ∧ ∀ j, j ∈ S ↔ (ws.getD i 0).testBit j = true
  b : ∀ p i S, its[p]? = some (.sees i S) → ∀ j ∈ i :: S, It.hat j ∈ its.take p
theorem hats_mem {its : List It} {k : Nat} : k ∈ hats its ↔ It.hat k ∈ its := by
  rw [List.mem_filterMap]
  constructor
  · rintro ⟨it, m, e⟩
    cases it with
    | hat j => cases e; exact m
    | sees i S => cases e
  · exact fun m => ⟨_, m, rfl⟩
theorem sps_mem {its : List It} {i : Nat} {S : List Nat} : (i, S) ∈ sps its ↔ It.sees i S ∈ its := by
  rw [List.mem_filterMap]
  constructor
  · rintro ⟨it, m, e⟩
    cases it with
    | hat j => cases e
    | sees i S => cases e; exact m
  · exact fun m => ⟨_, m, rfl⟩
theorem nd_map {α β : Type} {f : α → β} : ∀ {l : List α}, (∀ a ∈ l, ∀ b ∈ l, f a = f b → a = b) → l.Nodup → (l.map f).Nodup
  | [], _, _ => .nil
  | a :: l, h, nd => by
    obtain ⟨h1, h2⟩ := List.nodup_cons.mp nd
    rw [List.map_cons]
    refine List.nodup_cons.mpr ⟨fun m => ?_, nd_map (fun x mx y my => h x (List.mem_cons_of_mem _ mx) y (List.mem_cons_of_mem _ my)) h2⟩
    obtain ⟨b, mb, e⟩ := List.mem_map.mp m
    have := h a List.mem_cons_self b (List.mem_cons_of_mem _ mb) e.symm
    rw [this] at h1
    exact h1 mb
section
variable {N : List Str} {C ws : List Nat} {its : List It} {n : Nat}
theorem nmD_get {k : Nat} (h : k < N.length) : nmD N k = N[k] := by
  unfold nmD
  rw [List.getD_eq_getElem?_getD, List.getElem?_eq_getElem h]; rfl
theorem nmD_mem {k : Nat} (h : k < N.length) : nmD N k ∈ N := by rw [nmD_get h]; exact List.getElem_mem h
theorem Bk.inj (B : Bk N C ws) {j k : Nat} (hj : j < N.length) (hk : k < N.length) (e : nmD N j = nmD N k) : j = k := by
  rw [nmD_get hj, nmD_get hk] at e
  exact (List.getElem_inj B.nd).mp e
theorem nmD_all : (List.range N.length).map (nmD N) = N := by
  refine List.ext_getElem (by simp) fun i h1 h2 => ?_
  rw [List.getElem_map, List.getElem_range, nmD_get h2]
theorem getD_mem {k : Nat} (h : k < C.length) : C.getD k 0 ∈ C := by rw [getD_get h]; exact List.getElem_mem h
theorem getD_all : (List.range C.length).map (fun k => C.getD k 0) = C := by
  refine List.ext_getElem (by simp) fun i h1 h2 => ?_
  rw [List.getElem_map, List.getElem_range, getD_get h2]
theorem bit_lt (w : Wb ws n) {i j : Nat} (hi : i < n) (h : (ws.getD i 0).testBit j = true) : j < n := by
  refine Classical.byContradiction fun z => ?_
  have l := w.len
  have h1 := w.lt (ws.getD i 0) (getD_mem (by omega))
  have h2 : ws.getD i 0 < 2 ^ j := Nat.lt_of_lt_of_le h1 (Nat.pow_le_pow_right (by decide) (by omega))
  rw [Nat.testBit_lt_two_pow h2] at h
  cases h
theorem Gi.lt (B : Bk N C ws) (g : Gi N.length ws its) : ∀ {i : Nat} {S : List Nat}, It.sees i S ∈ its → (i :: S).Nodup ∧ ∀ j ∈ i :: S, j < N.length := fun {i S} m => by
  obtain ⟨h1, h2, h3, h4⟩ := g.m i S m
  refine ⟨List.nodup_cons.mpr ⟨fun z => ?_, h3⟩, fun j mj => ?_⟩
  · have := (h4 i).mp z
    rw [B.wb.own i h1] at this
    cases this
  · rcases List.mem_cons.mp mj with rfl | mj
    · exact h1
    · exact bit_lt B.wb h1 ((h4 j).mp mj)
theorem hat_lt (g : Gi n ws its) {k : Nat} (m : It.hat k ∈ its) : k < n := by
  have := hats_mem.mpr m
  rw [g.h] at this
  exact List.mem_range.mp this
/-- each line is a good one, and what it tells -/
theorem gl_it (B : Bk N C ws) (g : Gi N.length ws its) {it : It} (m : it ∈ its) : GL (wd N C it) ∧ lineD (wd N C it) = itD N C it := by
  cases it with
  | hat k =>
    have hk := hat_lt g m
    have c := B.cr _ (getD_mem (C := C) (k := k) (by rw [B.cl]; exact hk))
    have nm := B.nm _ (nmD_mem hk)
    exact ⟨gl_hat nm c.1 c.2, hat_D nm c.1 c.2⟩
  | sees i S =>
    obtain ⟨nd, lt⟩ := g.lt B m
    have ns := (g.m i S m).2.1
    have hp : 0 < S.length := List.length_pos_iff.mpr ns
    have nl := List.Nodup.length_le_of_subset nd (l₂ := List.range N.length) fun j mj => List.mem_range.mpr (lt j mj)
    rw [List.length_range, List.length_cons] at nl
    have le := B.le
    refine ⟨gl_sees (ns := nmD N i :: S.map (nmD N)) (fun w mw => ?_) ?_ (by rw [List.length_cons, List.length_map]; omega) (by rw [List.length_cons, List.length_map]; omega), sees_D _ _⟩
    · have mw : w ∈ (i :: S).map (nmD N) := mw
      obtain ⟨j, mj, rfl⟩ := List.mem_map.mp mw
      exact B.nm _ (nmD_mem (lt j mj))
    · exact nd_map (l := i :: S) (fun a ma b mb e => B.inj (lt a ma) (lt b mb) e) nd
theorem Gi.len (B : Bk N C ws) (g : Gi N.length ws its) : its.length ≤ 16 := by
  have h1 : (hats its).length = N.length := by rw [g.h, List.length_range]
  have h2 : (sps its).length ≤ N.length := by
    have := List.Nodup.length_le_of_subset g.s (l₂ := List.range N.length) fun j mj => by
      obtain ⟨⟨i, S⟩, m, rfl⟩ := List.mem_map.mp mj
      exact List.mem_range.mpr (g.m i S (sps_mem.mp m)).1
    rwa [List.length_map, List.length_range] at this
  have h3 : ∀ l : List It, l.length = (hats l).length + (sps l).length := fun l => by
    induction l with
    | nil => rfl
    | cons it l ih =>
      cases it with
      | hat k =>
        show l.length + 1 = (k :: hats l).length + (sps l).length
        rw [ih, List.length_cons]; omega
      | sees i S =>
        show l.length + 1 = (hats l).length + ((i, S) :: sps l).length
        rw [ih, List.length_cons]; omega
  have := h3 its
  have := B.le
  omega
end
section
variable {N : List Str} {C ws : List Nat} {its : List It}
theorem wd_chars (B : Bk N C ws) (g : Gi N.length ws its) {it : It} (m : it ∈ its) : ∀ w ∈ wd N C it, ∀ c ∈ cs w, 48 ≤ c ∧ c ≤ 122 := by
  have h1 : ∀ c ∈ cs ("hat" : Str), 48 ≤ c ∧ c ≤ 122 := by decide +kernel
  have h2 : ∀ c ∈ cs ("sees" : Str), 48 ≤ c ∧ c ≤ 122 := by decide +kernel
  have h3 : ∀ {k : Nat}, k < N.length → ∀ c ∈ cs (nmD N k), 48 ≤ c ∧ c ≤ 122 := fun hk c mc => by
    have := lets_rng ((isNm_iff.mp (B.nm _ (nmD_mem hk))).1 c mc); omega
  cases it with
  | hat k =>
    have hk := hat_lt g m
    have c := B.cr _ (getD_mem (C := C) (k := k) (by rw [B.cl]; exact hk))
    intro w mw
    have mw : w ∈ [("hat" : Str), nmD N k, num (C.getD k 0)] := mw
    simp only [List.mem_cons, List.not_mem_nil, or_false] at mw
    rcases mw with rfl | rfl | rfl
    · exact h1
    · exact h3 hk
    · intro d md
      have := figs_rng ((isCt_iff.mp (num_ct c.2)).1 d md); omega
  | sees i S =>
    obtain ⟨nd, lt⟩ := g.lt B m
    intro w mw
    rcases List.mem_cons.mp mw with rfl | mw
    · exact h2
    · have mw : w ∈ (i :: S).map (nmD N) := mw
      obtain ⟨j, mj, rfl⟩ := List.mem_map.mp mw
      exact h3 (lt j mj)
theorem wd_len (B : Bk N C ws) (g : Gi N.length ws its) {it : It} (m : it ∈ its) : 2 ≤ (wd N C it).length ∧ (wd N C it).length ≤ 10 := by
  cases it with
  | hat k => show 2 ≤ 3 ∧ 3 ≤ 10; decide
  | sees i S =>
    obtain ⟨nd, lt⟩ := g.lt B m
    have nl := List.Nodup.length_le_of_subset nd (l₂ := List.range N.length) fun j mj => List.mem_range.mpr (lt j mj)
    rw [List.length_range, List.length_cons] at nl
    have le := B.le
    show 2 ≤ (S.map (nmD N)).length + 1 + 1 ∧ (S.map (nmD N)).length + 1 + 1 ≤ 10
    rw [List.length_map]; omega
theorem tx_chars (B : Bk N C ws) (g : Gi N.length ws its) {it : It} (m : it ∈ its) : ∀ c ∈ cs (tx N C it), 32 ≤ c ∧ c ≤ 122 := fun c mc => by
  rcases join_mem " " mc with h | ⟨w, mw, h⟩
  · have : ∀ c ∈ cs (" " : Str), c = 32 := by decide +kernel
    rw [this c h]; decide
  · have := wd_chars B g m w mw c h; omega
theorem tx_len (B : Bk N C ws) (g : Gi N.length ws its) {it : It} (m : it ∈ its) : (tx N C it).length ≤ 310 := by
  have h := join_len (fun w mw => ((gl_it B g m).1.ok w mw).2.2) (gl_it B g m).1.le
  have l := (wd_len B g m).2
  have := h.1
  unfold tx
  omega
theorem tx_split (B : Bk N C ws) (g : Gi N.length ws its) {it : It} (m : it ∈ its) : Txt.split (tx N C it) " " = wd N C it := split_join (gl_it B g m).1.ne fun w mw => ((gl_it B g m).1.ok w mw).2.1
theorem tx_ne (B : Bk N C ws) (g : Gi N.length ws its) {it : It} (m : it ∈ its) : tx N C it ≠ "" := fun z => by
  have h := tx_split B g m
  rw [z, show Txt.split "" " " = [("" : Str)] by decide +kernel] at h
  have l := (wd_len B g m).1
  rw [← h] at l
  exact absurd l (by decide)
/-- the whole text -/
def bt (N : List Str) (C : List Nat) (its : List It) : Str := Txt.join "\n" (its.map (tx N C))
theorem bt_len (B : Bk N C ws) (g : Gi N.length ws its) : (bt N C its).length ≤ 4976 ∧ ((its.map (tx N C)).map (·.length)).sum + (its.map (tx N C)).length * ("\n" : Str).length ≤ 4976 := by
  have h := joinN_len (ws := its.map (tx N C)) (B := 310) fun w mw => by
    obtain ⟨it, m, rfl⟩ := List.mem_map.mp mw
    exact tx_len B g m
  have l := g.len B
  have e : (its.map (tx N C)).length = its.length := by rw [List.length_map]
  rw [e] at h ⊢
  unfold bt
  omega
theorem bt_ok (B : Bk N C ws) (g : Gi N.length ws its) : sOk (bt N C its) = true := sOk_of fun c mc => by
  rcases join_mem "\n" mc with h | ⟨w, mw, h⟩
  · have : ∀ c ∈ cs ("\n" : Str), c = 10 := by decide +kernel
    rw [this c h]; decide
  · obtain ⟨it, m, rfl⟩ := List.mem_map.mp mw
    have := tx_chars B g m c h
    omega
theorem bt_split (B : Bk N C ws) (g : Gi N.length ws its) (hn : its ≠ []) : Txt.split (bt N C its) "\n" = its.map (tx N C) := split_joinN (fun z => hn (List.map_eq_nil_iff.mp z)) fun w mw m10 => by
  obtain ⟨it, m, rfl⟩ := List.mem_map.mp mw
  have := tx_chars B g m 10 m10
  omega
theorem bt_ne (B : Bk N C ws) (g : Gi N.length ws its) (hn : its ≠ []) : bt N C its ≠ "" := fun z => by
  have h := bt_split B g hn
  rw [z, show Txt.split "" "\n" = [("" : Str)] by decide +kernel] at h
  cases its with
  | nil => exact hn rfl
  | cons it l =>
    have : "" = tx N C it := (List.cons.inj h).1
    exact tx_ne B g List.mem_cons_self this.symm
theorem nl_join (B : Bk N C ws) (g : Gi N.length ws its) {f : Store → Option D} {ρ : Store} (h : f ρ = some (.lst ((its.map (tx N C)).map .str))) : e2 gJoin (eC (.str "\n")) f ρ = some (.str (bt N C its)) := e2_ok rfl h (s_join (by have := (bt_len B g).2; omega))
end
theorem idx_strs {N : List Str} (nd : N.Nodup) {j : Nat} (h : j < N.length) : gIdx (.lst (N.map .str)) (.str N[j]) = some (.int j) := by
  unfold gIdx
  have e : (N.map D.str).findIdx? (fun z => L2.eqV z.toV (D.str N[j]).toV) = some j := by
    rw [List.findIdx?_eq_some_iff_getElem]
    refine ⟨by rw [List.length_map]; exact h, ?_, fun k hk z => ?_⟩
    · rw [List.getElem_map]
      show ((N[j] : Str) == N[j]) = true
      exact beq_self_eq_true _
    · rw [List.getElem_map] at z
      have := eq_of_beq (show ((N[k] : Str) == N[j]) = true from z)
      have := (List.getElem_inj nd).mp this
      omega
  simp only [e]
  refine if_pos ⟨rfl, ?_⟩
  rw [List.all_map]
  exact List.all_eq_true.mpr fun _ _ => rfl
theorem immB_strs : ∀ ws : List Str, D.immBL 1 (ws.map .str) = true
  | [] => rfl
  | w :: ws => by
    show (true && D.immBL 1 (ws.map .str)) = true
    rw [immB_strs ws]; rfl
theorem immBL_of {r : Nat} : ∀ {ds : List D}, (∀ d ∈ ds, d.immB r = true) → D.immBL r ds = true
  | [], _ => rfl
  | d :: ds, h => by
    show (d.immB r && D.immBL r ds) = true
    rw [h d List.mem_cons_self, immBL_of fun x m => h x (List.mem_cons_of_mem _ m)]; rfl
theorem hasK_f {k : L2.Key} {ks : List L2.Key} (h : k ∉ ks) : hasK k ks = false := hasK_no.mpr h
/-! _law_people -/
def PD (N : List Str) (C ws : List Nat) : D := .lst [.lst (N.map .str), .lst ((ci C).map .int), .lst ((ci ws).map .int)]
theorem clr_bit {m n k : Nat} (h : m < 2 ^ n) : m - m / 2 ^ k % 2 * 2 ^ k < 2 ^ n ∧ (m - m / 2 ^ k % 2 * 2 ^ k).testBit k = false ∧ m / 2 ^ k % 2 * 2 ^ k ≤ m := by
  have hle : m / 2 ^ k % 2 * 2 ^ k ≤ m := by
    have h1 := Nat.div_mul_le_self m (2 ^ k)
    have h2 : m / 2 ^ k % 2 ≤ m / 2 ^ k := Nat.mod_le _ _
    exact Nat.le_trans (Nat.mul_le_mul_right _ h2) h1
  refine ⟨by omega, ?_, hle⟩
  rw [Nat.testBit_eq_decide_div_mod_eq]
  refine decide_eq_false ?_
  have e : (m - m / 2 ^ k % 2 * 2 ^ k) / 2 ^ k = m / 2 ^ k - m / 2 ^ k % 2 := by
    rw [Nat.mul_comm, Nat.sub_mul_div]
  rw [e]
  omega
theorem ci_snoc (l : List Nat) (x : Nat) : (ci l).map D.int ++ [.int (x : Nat)] = (ci (l ++ [x])).map .int := by
  unfold ci
  rw [List.map_append, List.map_append]; rfl
theorem people_ok (ns : List Int) : ∃ N C ws, Bk N C ws ∧ sem__law_people [.lst (ns.map .int)] = some (PD N C ws) := by
  obtain ⟨S, hS⟩ : ∃ S : D, S = .lst (ns.map .int) := ⟨_, rfl⟩
  have ca : ∀ k : Nat, k ≤ 100 → sem__law_cell_at [S, .int k] = some (.int (at0 ns k)) := fun k hk => by rw [hS]; exact cell_at ns k hk
  have cell : ∀ (ρ : Store) (f : Store → Option D) (i : Int) (k : Nat), eVar 0 ρ = some S → f ρ = some (.int i) → i = k → k ≤ 100 → eCall (callF 2 [] sem__law_cell_at) (aCons (eVar 0) (aCons f aNil)) ρ = some (.int (at0 ns k)) := fun ρ f i k h1 h2 e hk => callF_ok (ds := [S, .int i]) (acons_ok h1 (acons_ok h2 anil_ok)) rfl (by rw [e]; exact ca k hk)
  obtain ⟨u, hu, u8⟩ := emod_nat (x := at0 ns 0) (m := 8) (by decide)
  obtain ⟨N0, p1, p2, p3, p4, eN⟩ := names_ok (at0 ns 0 / 9) (1 + u) (by omega)
  have c0 : ∀ ρ : Store, eVar 0 ρ = some S → eCall (callF 2 [] sem__law_cell_at) (aCons (eVar 0) (aCons (eC (.int 0)) aNil)) ρ = some (.int (at0 ns 0)) := fun ρ h => cell ρ _ 0 0 h rfl rfl (by decide)
  obtain ⟨N, n1, n2, n3, e1⟩ : ∃ N : List Str, N.Nodup ∧ (∀ w ∈ N, isNm w = true) ∧ N.length ≤ 8 ∧ if__law_people_1 [some S, some (.lst (N0.map .str)), none, none, none, none, none] = some (.nx [some S, some (.lst (N.map .str)), none, none, none, none, none]) := by
    have t : tBo (e2 (gEq false) (e2 gMod (e2 gDiv (eCall (callF 2 [] sem__law_cell_at) (aCons (eVar 0) (aCons (eC (.int 0)) aNil))) (eC (.int 9))) (eC (.int 11))) (eC (.int 5))) [some S, some (.lst (N0.map .str)), none, none, none, none, none] = some (decide (at0 ns 0 / 9 % 11 = 5)) := tbo_ok (e2_ok (e2_ok (e2_ok (c0 _ rfl) rfl (div_ok (by decide) (by decide))) rfl (mod_ok (by decide))) rfl s_eq)
    by_cases h : at0 ns 0 / 9 % 11 = 5
    · rw [decide_eq_true h] at t
      exact ⟨[], .nil, fun w m => (nomatch m), by show 0 ≤ 8; decide, if_t t (set_ok (elst_ok anil_ok (by decide)))⟩
    · rw [decide_eq_false h] at t
      exact ⟨N0, p1, p2, by omega, if_f t rfl⟩
  obtain ⟨ND, hND⟩ : ∃ ND : D, ND = .lst (N.map .str) := ⟨_, rfl⟩
  have nl : ∀ ρ : Store, eVar 1 ρ = some ND → eCall gLen (aCons (eVar 1) aNil) ρ = some (.int N.length) := fun ρ h => len_ok (by rw [h, hND]) (by rw [List.length_map])
  obtain ⟨ρ', hf, C, q1, q2, a3, rfl⟩ := forD_rng (g := gSet 3) (F := lp__law_people_2) (n := N.length)
    (fun j ρ => ∃ C : List Nat, C.length = j ∧ (∀ c ∈ C, 1 ≤ c ∧ c < 1000000000000000000000000000000) ∧ ∃ a3, ρ = [some S, some ND, some (.lst ((ci C).map .int)), a3, none, none, none])
    (fun j hj ρ p => by
      obtain ⟨C, q1, q2, a3, rfl⟩ := p
      obtain ⟨x, x1, x2, ex⟩ := count_ok (at0 ns (1 + j)) j (by omega)
      refine ⟨_, _, rfl, .inl (append_ok (d := .int (x : Nat)) (ds := (ci C).map .int) rfl (callF_ok (ds := [.int (at0 ns (1 + j)), .int (j : Nat)]) (acons_ok (cell _ _ (1 + (j : Int)) (1 + j) rfl (e2_ok rfl rfl rfl) (by omega) (by omega)) (acons_ok rfl anil_ok)) rfl ex) (by rw [List.length_map, ci_len]; omega)), C ++ [x], by rw [List.length_append, q1]; rfl, fun c m => ?_, some (.int j), ?_⟩
      · rcases List.mem_append.mp m with m | m
        · exact q2 c m
        · rw [List.mem_singleton.mp m]; exact ⟨x1, x2⟩
      · rw [← ci_snoc]; rfl)
    (ρ := [some S, some ND, some (.lst []), none, none, none, none]) ⟨[], rfl, fun c m => (nomatch m), none, rfl⟩
  obtain ⟨CD, hCD⟩ : ∃ CD : D, CD = .lst ((ci C).map .int) := ⟨_, rfl⟩
  rw [← hCD] at hf
  have pN := Nat.two_pow_pos N.length
  have pw : (2 : Nat) ^ N.length ≤ 256 := Nat.le_trans (Nat.pow_le_pow_right (by decide) n3) (by decide)
  obtain ⟨ρ', hg, W, w1, w2, w3, a3, a5, a6, rfl⟩ := forD_rng (g := gSet 3) (F := lp__law_people_5) (n := N.length)
    (fun j ρ => ∃ W : List Nat, W.length = j ∧ (∀ w ∈ W, w < 2 ^ N.length) ∧ (∀ i, i < j → (W.getD i 0).testBit i = false) ∧ ∃ a3 a5 a6, ρ = [some S, some ND, some CD, a3, some (.lst ((ci W).map .int)), a5, a6])
    (fun j hj ρ p => by
      obtain ⟨W, w1, w2, w3, a3, a5, a6, rfl⟩ := p
      obtain ⟨L, l1, l2, eL⟩ := draws_ok (at0 ns (9 + j) + 7 * j) 4 (by decide)
      have m7 : gMul (.int 7) (.int j) = some (.int (7 * j)) := mul_ok (by decide) (by decide) (by omega) (by omega)
      have one : ∀ ρ : Store, eVar 1 ρ = some ND → e2 gShl (eC (.int 1)) (eCall gLen (aCons (eVar 1) aNil)) ρ = some (.int ((2 ^ N.length : Nat) : Int)) := fun ρ h => e2_ok rfl (nl ρ h) (sh1 _ (by omega))
      obtain ⟨m0, hm0, m1⟩ := emod_nat (x := at0 L 0) (m := ((2 ^ N.length : Nat) : Int)) (by omega)
      have k1 : ∀ m : Nat, m < 2 ^ N.length → ∃ m' : Nat, m' < 2 ^ N.length ∧ if__law_people_3 [some S, some ND, some CD, some (.int j), some (.lst ((ci W).map .int)), some (.lst (L.map .int)), some (.int (m : Nat))] = some (.nx [some S, some ND, some CD, some (.int j), some (.lst ((ci W).map .int)), some (.lst (L.map .int)), some (.int (m' : Nat))]) := fun m hm => by
        have t : tBo (e2 (gEq false) (e2 gMod (e2 gIx (eVar 5) (eC (.int 1))) (eC (.int 4))) (eC (.int 0))) [some S, some ND, some CD, some (.int j), some (.lst ((ci W).map .int)), some (.lst (L.map .int)), some (.int (m : Nat))] = some (decide (at0 L 1 % 4 = 0)) := tbo_ok (e2_ok (drm (k := 1) rfl rfl (by omega) (by decide)) rfl s_eq)
        by_cases h : at0 L 1 % 4 = 0
        · rw [decide_eq_true h] at t
          refine ⟨2 ^ N.length - 1, by omega, if_t t (set_ok (clr_ok (e2_ok (one _ rfl) rfl (s_iu.trans ?_)) s_immI))⟩
          rw [show (((2 ^ N.length : Nat) : Int) - 1) = ((2 ^ N.length - 1 : Nat) : Int) by omega]
        · rw [decide_eq_false h] at t
          exact ⟨m, hm, if_f t rfl⟩
      have k2 : ∀ m : Nat, m < 2 ^ N.length → ∃ m' : Nat, m' < 2 ^ N.length ∧ if__law_people_4 [some S, some ND, some CD, some (.int j), some (.lst ((ci W).map .int)), some (.lst (L.map .int)), some (.int (m : Nat))] = some (.nx [some S, some ND, some CD, some (.int j), some (.lst ((ci W).map .int)), some (.lst (L.map .int)), some (.int (m' : Nat))]) := fun m hm => by
        have t : tBo (e2 (gEq false) (e2 gMod (e2 gIx (eVar 5) (eC (.int 1))) (eC (.int 4))) (eC (.int 1))) [some S, some ND, some CD, some (.int j), some (.lst ((ci W).map .int)), some (.lst (L.map .int)), some (.int (m : Nat))] = some (decide (at0 L 1 % 4 = 1)) := tbo_ok (e2_ok (drm (k := 1) rfl rfl (by omega) (by decide)) rfl s_eq)
        by_cases h : at0 L 1 % 4 = 1
        · rw [decide_eq_true h] at t
          obtain ⟨m2, hm2, m3⟩ := emod_nat (x := at0 L 2) (m := ((2 ^ N.length : Nat) : Int)) (by omega)
          refine ⟨m &&& m2, Nat.and_lt_two_pow m (by omega), if_t t (set_ok (clr_ok (e2_ok (b := .int (m2 : Nat)) rfl (e2_ok (drn (k := 2) rfl rfl rfl (by omega)) (one _ rfl) (by rw [mod_ok (by omega), hm2])) (s_iu.trans ?_)) s_immI))⟩
          rw [PyProof.Rows.bitAnd_pp (Int.natCast_nonneg m) (Int.natCast_nonneg m2), Int.toNat_natCast, Int.toNat_natCast]
        · rw [decide_eq_false h] at t
          exact ⟨m, hm, if_f t rfl⟩
      obtain ⟨m2, lt2, e2'⟩ := k1 m0 (by omega)
      obtain ⟨m3, lt3, e3⟩ := k2 m2 lt2
      obtain ⟨b1, b2, b3⟩ := clr_bit (k := j) lt3
      have pj := Nat.two_pow_pos j
      have pj2 : (2 : Nat) ^ j ≤ 256 := Nat.le_trans (Nat.pow_le_pow_right (by decide) (show j ≤ 8 by omega)) (by decide)
      have dv : gDiv (.int (m3 : Nat)) (.int ((2 ^ j : Nat) : Int)) = some (.int ((m3 / 2 ^ j : Nat) : Int)) := by rw [div_ok (by omega) (by omega), Int.natCast_ediv]
      have md : gMod (.int ((m3 / 2 ^ j : Nat) : Int)) (.int 2) = some (.int ((m3 / 2 ^ j % 2 : Nat) : Int)) := by rw [mod_ok (by decide), Int.natCast_emod]; rfl
      have ml : gMul (.int ((m3 / 2 ^ j % 2 : Nat) : Int)) (.int ((2 ^ j : Nat) : Int)) = some (.int ((m3 / 2 ^ j % 2 * 2 ^ j : Nat) : Int)) := by rw [mul_ok (by omega) (by omega) (by omega) (by omega), Int.natCast_mul]
      refine ⟨_, _, rfl, .inl (seq_set (d := .lst (L.map .int)) (callF_ok (ds := [.int (at0 ns (9 + j) + 7 * j), .int (4 : Nat)]) (acons_ok (e2_ok (cell _ _ (9 + (j : Int)) (9 + j) rfl (e2_ok rfl rfl rfl) (by omega) (by omega)) (e2_ok rfl rfl m7) rfl) rfl) rfl eL) (seq_set (d := .int (m0 : Nat)) (clr_ok (e2_ok (drn (k := 0) rfl rfl rfl (by omega)) (one _ rfl) (by rw [mod_ok (by omega), hm0])) s_immI) (seq_nx e2' (seq_nx e3 (append_ok (d := .int ((m3 - m3 / 2 ^ j % 2 * 2 ^ j : Nat) : Int)) (ds := (ci W).map .int) rfl ?_ (by rw [List.length_map, ci_len]; omega)))))), W ++ [m3 - m3 / 2 ^ j % 2 * 2 ^ j], by rw [List.length_append, w1]; rfl, fun w m => ?_, fun i hi => ?_, some (.int j), some (.lst (L.map .int)), some (.int (m3 : Nat)), ?_⟩
      · refine e2_ok rfl (e2_ok (e2_ok (e2_ok rfl (e2_ok rfl rfl (sh1 j (by omega))) dv) rfl md) (e2_ok rfl rfl (sh1 j (by omega))) ml) (s_iu.trans ?_)
        rw [show ((m3 : Nat) : Int) - ((m3 / 2 ^ j % 2 * 2 ^ j : Nat) : Int) = ((m3 - m3 / 2 ^ j % 2 * 2 ^ j : Nat) : Int) by omega]
      · rcases List.mem_append.mp m with m | m
        · exact w2 w m
        · rw [List.mem_singleton.mp m]; exact b1
      · by_cases e : i < j
        · rw [List.getD_eq_getElem?_getD, List.getElem?_append_left (by omega), ← List.getD_eq_getElem?_getD]
          exact w3 i e
        · have e : i = j := by omega
          rw [List.getD_eq_getElem?_getD, List.getElem?_append_right (by omega), e, w1, Nat.sub_self]
          exact b2
      · rw [← ci_snoc]; rfl)
    (ρ := [some S, some ND, some CD, a3, some (.lst []), none, none]) ⟨[], rfl, fun w m => (nomatch m), fun i h => absurd h (Nat.not_lt_zero i), a3, none, none, rfl⟩
  refine ⟨N, C, W, ⟨n1, n2, n3, q1, q2, ⟨w1, w2, w3⟩⟩, ?_⟩
  rw [← hS]
  have e9 : e2 gDiv (eCall (callF 2 [] sem__law_cell_at) (aCons (eVar 0) (aCons (eC (.int 0)) aNil))) (eC (.int 9)) [some S, none, none, none, none, none, none] = some (.int (at0 ns 0 / 9)) := e2_ok (c0 _ rfl) rfl (div_ok (by decide) (by decide))
  have e8 : e2 gAdd (eC (.int 1)) (e2 gMod (eCall (callF 2 [] sem__law_cell_at) (aCons (eVar 0) (aCons (eC (.int 0)) aNil))) (eC (.int 8))) [some S, none, none, none, none, none, none] = some (.int ((1 + u : Nat) : Int)) := e2_ok rfl (e2_ok (c0 _ rfl) rfl (mod_ok (by decide))) (by rw [hu]; rfl)
  rw [← hND] at e1
  have im : ∀ l : List Int, (D.lst (l.map .int)).immB 1 = true := fun l => imm_il
  have imN : (D.lst (N.map .str)).immB 1 = true := by
    show D.immBL 0 (N.map .str) = true
    exact immBL_of fun d m => by obtain ⟨w, _, rfl⟩ := List.mem_map.mp m; rfl
  have fin : sRet3 1 2 4 [some S, some ND, some CD, a3, some (.lst ((ci W).map .int)), a5, a6] = some (.rt (PD N C W) [some S, some ND, some CD, a3, some (.lst ((ci W).map .int)), a5, a6]) := by
    have : sRet3 1 2 4 [some S, some ND, some CD, a3, some (.lst ((ci W).map .int)), a5, a6] = if (ND.immB 1 && (CD.immB 1 && (D.lst ((ci W).map .int)).immB 1)) = true then some (.rt (.lst [ND, CD, .lst ((ci W).map .int)]) [some S, some ND, some CD, a3, some (.lst ((ci W).map .int)), a5, a6]) else none := rfl
    rw [this, hND, hCD, imN, im, im]
    exact if_pos rfl
  exact fn0_ok (seq_set (d := .lst (N0.map .str)) (callF_ok (ds := [.int (at0 ns 0 / 9), .int ((1 + u : Nat) : Int)]) (acons_ok e9 (acons_ok e8 anil_ok)) rfl eN) (seq_nx e1 (seq_set (d := .lst []) (elst_ok anil_ok (by decide)) (seq_nx (for_ok (r1_nat (n := N.length) (acons_ok (nl _ rfl) anil_ok) (by omega)) hf) (seq_set (d := .lst []) (elst_ok anil_ok (by decide)) (seq_nx (for_ok (r1_nat (n := N.length) (acons_ok (nl _ rfl) anil_ok) (by omega)) hg) fin))))))
theorem join3 (w x : Str) : "hat " ++ w ++ " " ++ x = Txt.join " " ["hat", w, x] := by
  rw [join_eq]
  show _ = ("hat" : Str) ++ " " ++ (w ++ " " ++ x)
  refine cs_ext ?_
  simp only [cs_add, List.append_assoc]
  have : cs "hat " = cs "hat" ++ cs " " := by decide +kernel
  rw [this, List.append_assoc]
/-! _law_mixed_lines -/
section
variable {N : List Str} {C ws : List Nat} {its : List It}
theorem idx_first {T : List Str} {x : Str} (m : x ∈ T) : ∃ k, ∃ h : k < T.length, T[k] = x ∧ gIdx (.lst (T.map .str)) (.str x) = some (.int (k : Nat)) := by
  cases e : (T.map D.str).findIdx? (fun z => L2.eqV z.toV (D.str x).toV) with
  | none =>
    rw [List.findIdx?_eq_none_iff] at e
    have := e (.str x) (List.mem_map.mpr ⟨x, m, rfl⟩)
    have h2 : ((x : Str) == x) = false := this
    rw [beq_self_eq_true] at h2
    cases h2
  | some k =>
    have e' := e
    rw [List.findIdx?_eq_some_iff_getElem] at e'
    obtain ⟨h, h1, _⟩ := e'
    have h' : k < T.length := by rwa [List.length_map] at h
    refine ⟨k, h', ?_, ?_⟩
    · rw [List.getElem_map] at h1
      exact eq_of_beq (show ((T[k] : Str) == x) = true from h1)
    · unfold gIdx
      simp only [e]
      refine if_pos ⟨rfl, ?_⟩
      rw [List.all_map]
      exact List.all_eq_true.mpr fun _ _ => rfl
theorem wd_hat (B : Bk N C ws) (g : Gi N.length ws its) {it : It} (m : it ∈ its) {j : Nat} (hj : j < N.length) (e : wd N C it = wd N C (.hat j)) : it = .hat j := by
  cases it with
  | hat k =>
    have e : [("hat" : Str), nmD N k, num (C.getD k 0)] = [("hat" : Str), nmD N j, num (C.getD j 0)] := e
    have := B.inj (hat_lt g m) hj (List.cons.inj (List.cons.inj e).2).1
    rw [this]
  | sees i S =>
    have e : ("sees" : Str) :: nmD N i :: S.map (nmD N) = [("hat" : Str), nmD N j, num (C.getD j 0)] := e
    have := (List.cons.inj e).1
    exact absurd this (by decide +kernel)
/-- where a hat's line stands -/
theorem idx_hat (B : Bk N C ws) (g : Gi N.length ws its) {j : Nat} (hj : j < N.length) : ∃ k, ∃ h : k < its.length, its[k] = .hat j ∧ gIdx (.lst ((its.map (tx N C)).map .str)) (.str (tx N C (.hat j))) = some (.int (k : Nat)) := by
  have m : It.hat j ∈ its := hats_mem.mp (by rw [g.h]; exact List.mem_range.mpr hj)
  obtain ⟨k, h, e1, e2⟩ := idx_first (T := its.map (tx N C)) (x := tx N C (.hat j)) (List.mem_map.mpr ⟨_, m, rfl⟩)
  have h' : k < its.length := by rwa [List.length_map] at h
  rw [List.getElem_map] at e1
  have mk : its[k] ∈ its := List.getElem_mem h'
  have e3 := tx_split B g mk
  rw [e1, tx_split B g m] at e3
  exact ⟨k, h', wd_hat B g mk hj e3.symm, e2⟩
/-- one more line, behind those that it needs -/
theorem Gi.ins (g : Gi N.length ws its) {i : Nat} {S : List Nat} {a : Nat} (ha : a ≤ its.length) (hi : i < N.length) (ni : i ∉ (sps its).map (·.1)) (hS : S ≠ []) (nd : S.Nodup) (hb : ∀ j, j ∈ S ↔ (ws.getD i 0).testBit j = true) (bf : ∀ j ∈ i :: S, It.hat j ∈ its.take a) :
    Gi N.length ws (its.take a ++ [.sees i S] ++ its.drop a) := by
  have e1 : hats (its.take a ++ [.sees i S] ++ its.drop a) = hats its := by
    have : hats (its.take a ++ [.sees i S] ++ its.drop a) = hats (its.take a) ++ hats (its.drop a) := by
      unfold hats
      rw [List.filterMap_append, List.filterMap_append]
      show _ ++ [] ++ _ = _
      rw [List.append_nil]
    rw [this]
    unfold hats
    rw [← List.filterMap_append, List.take_append_drop]
  have e2 : (sps (its.take a ++ [.sees i S] ++ its.drop a)).Perm ((i, S) :: sps its) := by
    have : sps (its.take a ++ [.sees i S] ++ its.drop a) = sps (its.take a) ++ (i, S) :: sps (its.drop a) := by
      unfold sps
      rw [List.filterMap_append, List.filterMap_append, List.append_assoc]
      rfl
    rw [this]
    have h := List.perm_middle (a := (i, S)) (l₁ := sps (its.take a)) (l₂ := sps (its.drop a))
    have e3 : sps (its.take a) ++ sps (its.drop a) = sps its := by
      unfold sps
      rw [← List.filterMap_append, List.take_append_drop]
    rw [e3] at h
    exact h
  have mem : ∀ {it : It}, it ∈ its.take a ++ [.sees i S] ++ its.drop a → it ∈ its ∨ it = .sees i S := fun m => by
    rw [List.mem_append, List.mem_append, List.mem_singleton] at m
    rcases m with (m | m) | m
    · exact .inl (List.mem_of_mem_take m)
    · exact .inr m
    · exact .inl (List.mem_of_mem_drop m)
  refine ⟨by rw [e1]; exact g.h, ?_, fun i' S' m => ?_, fun p i' S' e j mj => ?_⟩
  · have := (e2.map (·.1)).nodup_iff
    rw [this]
    exact List.nodup_cons.mpr ⟨ni, g.s⟩
  · rcases mem m with m | m
    · exact g.m i' S' m
    · cases m; exact ⟨hi, hS, nd, hb⟩
  · have la : (its.take a).length = a := by rw [List.length_take]; omega
    rw [List.append_assoc] at e ⊢
    by_cases h1 : p < a
    · rw [List.getElem?_append_left (by omega)] at e
      have e' : its[p]? = some (.sees i' S') := by rwa [List.getElem?_take, if_pos h1] at e
      rw [List.take_append_of_le_length (by omega), List.take_take, Nat.min_eq_left (by omega)]
      exact g.b p i' S' e' j mj
    · rw [List.getElem?_append_right (by omega), la] at e
      have tk : List.take p (List.take a its ++ ([It.sees i S] ++ List.drop a its)) = List.take a its ++ List.take (p - a) ([It.sees i S] ++ List.drop a its) := by
        rw [List.take_append, la, List.take_of_length_le (by omega)]
      rw [tk]
      by_cases h2 : p = a
      · rw [h2, Nat.sub_self] at e
        cases e
        exact List.mem_append_left _ (bf j mj)
      · obtain ⟨q, rfl⟩ : ∃ q, p = a + (q + 1) := ⟨p - a - 1, by omega⟩
        have e' : its[a + q]? = some (.sees i' S') := by
          rw [show a + (q + 1) - a = q + 1 by omega] at e
          have : (List.drop a its)[q]? = some (.sees i' S') := e
          rwa [List.getElem?_drop] at this
        have h3 := g.b (a + q) i' S' e' j mj
        rw [show a + (q + 1) - a = q + 1 by omega]
        show It.hat j ∈ List.take a its ++ It.sees i S :: List.take q (List.drop a its)
        rw [List.take_add] at h3
        rcases List.mem_append.mp h3 with m | m
        · exact List.mem_append_left _ m
        · exact List.mem_append_right _ (List.mem_cons_of_mem _ m)
end
/-- the store in its loop -/
def mxS (bk dr ND CD WD : Option D) (T : List Str) (a6 a7 a8 a9 a10 a11 a12 a13 a14 : Option D) : Store := [bk, dr, ND, CD, WD, some (.lst (T.map .str)), a6, a7, a8, a9, a10, a11, a12, a13, a14]
theorem hat_text {N : List Str} {C ws : List Nat} (B : Bk N C ws) {k : Nat} (hk : k < N.length) {f g : Store → Option D} {ρ : Store} (h2 : eVar 2 ρ = some (.lst (N.map .str))) (h3 : eVar 3 ρ = some (.lst ((ci C).map .int))) (hf : f ρ = some (.int (k : Nat))) :
    e2 gAdd (e2 gAdd (e2 gAdd (eC (.str "hat ")) (e2 gIx (eVar 2) f)) (eC (.str " "))) (eCall gStr (aCons (e2 gIx (eVar 3) f) aNil)) ρ = some (.str (tx N C (.hat k))) := by
  have c := B.cr _ (getD_mem (C := C) (k := k) (by rw [B.cl]; exact hk))
  have wl := (nm_ok (B.nm _ (nmD_mem hk))).2.2
  have nl := num_len c.2
  have l4 : ("hat " : Str).length = 4 := by decide +kernel
  have l1 : (" " : Str).length = 1 := by decide +kernel
  have ix := ix_strs (ns := N) (i := (k : Int)) rfl hk
  rw [← nmD_get hk] at ix
  have e : tx N C (.hat k) = "hat " ++ nmD N k ++ " " ++ num (C.getD k 0) := (join3 _ _).symm
  rw [e]
  refine e2_ok (a := .str ("hat " ++ nmD N k ++ " ")) (e2_ok (a := .str ("hat " ++ nmD N k)) (e2_ok rfl (e2_ok h2 hf ix) (s_addS (by omega))) rfl (s_addS ?_)) (call_ok (acons_ok (e2_ok h3 hf (cwL (by rw [B.cl]; exact hk))) anil_ok) (str_num c.2)) (s_addS ?_)
  · rw [len_cs, cs_add, List.length_append, ← len_cs, ← len_cs]; omega
  · rw [len_cs, cs_add, cs_add, List.length_append, List.length_append, ← len_cs, ← len_cs, ← len_cs]; omega
theorem filter_bits {w n : Nat} : ((List.range n).filter fun j => w.testBit j).Nodup ∧ ∀ j, j ∈ (List.range n).filter (fun j => w.testBit j) ↔ j < n ∧ w.testBit j = true := ⟨List.nodup_range.filter _, fun j => by rw [List.mem_filter, List.mem_range]⟩
section
variable {N : List Str} {C ws : List Nat} {its : List It}
theorem mixed_turn (B : Bk N C ws) (g : Gi N.length ws its) {L : List Int} (l1 : 26 ≤ L.length) {i : Nat} (hi : i < N.length) (ni : i ∉ (sps its).map (·.1)) (bk a6 a7 a9 a10 a11 a12 a13 : Option D) :
    ∃ its', Gi N.length ws its' ∧ (∀ k T, It.sees k T ∈ its' → It.sees k T ∈ its ∨ k = i) ∧ (∀ k T, It.sees k T ∈ its → It.sees k T ∈ its') ∧ (ws.getD i 0 ≠ 0 → ∃ T, It.sees i T ∈ its') ∧
      ∃ b9 b11 b12 b13, lp__law_mixed_lines_5 (mxS bk (some (.lst (L.map .int))) (some (.lst (N.map .str))) (some (.lst ((ci C).map .int))) (some (.lst ((ci ws).map .int))) (its.map (tx N C)) a6 a7 (some (.int (i : Nat))) a9 a10 a11 a12 a13 none) = some (.nx (mxS bk (some (.lst (L.map .int))) (some (.lst (N.map .str))) (some (.lst ((ci C).map .int))) (some (.lst ((ci ws).map .int))) (its'.map (tx N C)) a6 a7 (some (.int (i : Nat))) b9 a10 b11 b12 b13 none)) := by
  have l8 := B.le
  have wl := B.wb.len
  have g16 := g.len B
  obtain ⟨S0, hS0⟩ : ∃ S0, S0 = (List.range N.length).filter fun j => (ws.getD i 0).testBit j := ⟨_, rfl⟩
  obtain ⟨fn, fm⟩ := filter_bits (w := ws.getD i 0) (n := N.length)
  rw [← hS0] at fn fm
  have fm' : ∀ j, j ∈ S0 ↔ (ws.getD i 0).testBit j = true := fun j => (fm j).trans ⟨fun h => h.2, fun h => ⟨bit_lt B.wb hi h, h⟩⟩
  obtain ⟨LD, hLD⟩ : ∃ LD : D, LD = .lst (L.map .int) := ⟨_, rfl⟩
  obtain ⟨WD, hWD⟩ : ∃ WD : D, WD = .lst ((ci ws).map .int) := ⟨_, rfl⟩
  obtain ⟨ND, hND⟩ : ∃ ND : D, ND = .lst (N.map .str) := ⟨_, rfl⟩
  obtain ⟨CD, hCD⟩ : ∃ CD : D, CD = .lst ((ci C).map .int) := ⟨_, rfl⟩
  obtain ⟨TD, hTD⟩ : ∃ TD : D, TD = .lst ((its.map (tx N C)).map .str) := ⟨_, rfl⟩
  have ht : ∀ {k : Nat}, k < N.length → ∀ {f g : Store → Option D} {ρ : Store}, eVar 2 ρ = some ND → eVar 3 ρ = some CD → f ρ = some (.int (k : Nat)) → e2 gAdd (e2 gAdd (e2 gAdd (eC (.str "hat ")) (e2 gIx (eVar 2) f)) (eC (.str " "))) (eCall gStr (aCons (e2 gIx (eVar 3) f) aNil)) ρ = some (.str (tx N C (.hat k))) := fun {k} hk {f g ρ} h2 h3 hf => hat_text B hk (h2.trans (by rw [hND])) (h3.trans (by rw [hCD])) hf (g := g)
  have wix : ∀ k : Nat, k < N.length → gIx WD (.int (k : Nat)) = some (.int (ws.getD k 0 : Nat)) := fun k hk => by rw [hWD]; exact cwL (by omega)
  have nix : ∀ k : Nat, k < N.length → gIx ND (.int (k : Nat)) = some (.str (nmD N k)) := fun k hk => by rw [hND, nmD_get hk]; exact ix_strs rfl hk
  have nln : ∀ ρ : Store, eVar 2 ρ = some ND → eCall gLen (aCons (eVar 2) aNil) ρ = some (.int N.length) := fun ρ h => len_ok (by rw [h, hND]) (by rw [List.length_map])
  have e9 : eLc [10] (iR1 (aCons (eCall gLen (aCons (eVar 2) aNil)) aNil)) (gSet 10) (tBo (e2 (gEq false) (e2 gMod (e2 gDiv (e2 gIx (eVar 4) (eVar 8)) (e2 gShl (eC (.int 1)) (eVar 10))) (eC (.int 2))) (eC (.int 1)))) (eVar 10) [bk, some LD, some ND, some CD, some WD, some TD, a6, a7, some (.int (i : Nat)), a9, a10, a11, a12, a13, none] = some (.lst ((ci S0).map .int)) := by
    have := lcI_rng (n := N.length) (vs := [10]) (it := iR1 (aCons (eCall gLen (aCons (eVar 2) aNil)) aNil)) (g := gSet 10) (p := tBo (e2 (gEq false) (e2 gMod (e2 gDiv (e2 gIx (eVar 4) (eVar 8)) (e2 gShl (eC (.int 1)) (eVar 10))) (eC (.int 2))) (eC (.int 1)))) (f := eVar 10) (ρ := [bk, some LD, some ND, some CD, some WD, some TD, a6, a7, some (.int (i : Nat)), a9, a10, a11, a12, a13, none]) (q := fun j => (ws.getD i 0).testBit j) (h := fun j => (j : Int)) (γ := fun j => [bk, some LD, some ND, some CD, some WD, some TD, a6, a7, some (.int (i : Nat)), a9, some (.int (j : Nat)), a11, a12, a13, none]) (r1_nat (acons_ok (nln _ rfl) anil_ok) (by omega)) (by omega) fun j hj => ⟨rfl, lawbit _ j (by omega) (e2_ok rfl rfl (wix i hi)) rfl, fun _ => rfl⟩
    rw [this, ← hS0]; rfl
  unfold mxS
  rw [← hLD, ← hND, ← hCD, ← hWD, ← hTD]
  have t0 : tBo (e2 (gEq true) (eVar 9) (eLst aNil)) [bk, some LD, some ND, some CD, some WD, some TD, a6, a7, some (.int (i : Nat)), some (.lst ((ci S0).map .int)), a10, a11, a12, a13, none] = some (!decide (ci S0 = [])) := tbo_ok (e2_ok rfl (elst_ok anil_ok (by decide)) ne_nilL)
  by_cases hz : S0 = []
  · have hc : ci S0 = [] := by rw [hz]; rfl
    rw [decide_eq_true hc] at t0
    refine ⟨its, g, fun k T m => .inl m, fun k T m => m, fun z => ?_, some (.lst ((ci S0).map .int)), a11, a12, a13, ?_⟩
    · refine absurd (Nat.eq_of_testBit_eq fun j => ?_) z
      rw [Nat.zero_testBit]
      cases e : (ws.getD i 0).testBit j with
      | false => rfl
      | true => have := (fm' j).mpr e; rw [hz] at this; cases this
    · rw [← hTD]
      refine seq_set e9 ?_
      exact if_f t0 rfl
  · have hc : ci S0 ≠ [] := fun z => hz (List.map_eq_nil_iff.mp z)
    rw [decide_eq_false hc] at t0
    have s0 : 0 < S0.length := List.length_pos_iff.mpr hz
    have sl := List.Nodup.length_le_of_subset fn (l₂ := List.range N.length) fun j mj => List.mem_range.mpr ((fm j).mp mj).1
    rw [List.length_range] at sl
    obtain ⟨a, ha, a2⟩ := emod_nat (x := at0 L (1 + i)) (m := (S0.length : Int)) (by omega)
    -- turned about
    obtain ⟨S1, hS1⟩ : ∃ S1, S1 = S0.drop a ++ S0.take a := ⟨_, rfl⟩
    have p1 : S1.Perm S0 := by
      rw [hS1]
      have := List.perm_append_comm (l₁ := S0.drop a) (l₂ := S0.take a)
      rwa [List.take_append_drop] at this
    have e11 : ∀ (b9 b11 b12 b13 : Option D), b9 = some (.lst ((ci S0).map .int)) → e2 gMod (e2 gIx (eVar 1) (e2 gAdd (eC (.int 1)) (eVar 8))) (eCall gLen (aCons (eVar 9) aNil)) [bk, some LD, some ND, some CD, some WD, some TD, a6, a7, some (.int (i : Nat)), b9, a10, b11, b12, b13, none] = some (.int (a : Nat)) := fun b9 b11 b12 b13 h => by
      subst h
      refine e2_ok (drn (k := 1 + i) (by rw [hLD]; rfl) (e2_ok rfl rfl rfl) (by omega) (by omega)) (len_ok (n := S0.length) rfl (by rw [List.length_map, ci_len])) ?_
      rw [mod_ok (by omega), ha]
    have e9b : e2 gAdd (eSl gSlL (eVar 9) (oSome (eVar 11)) oNone) (eSl gSlL (eVar 9) oNone (oSome (eVar 11))) [bk, some LD, some ND, some CD, some WD, some TD, a6, a7, some (.int (i : Nat)), some (.lst ((ci S0).map .int)), a10, some (.int (a : Nat)), a12, a13, none] = some (.lst ((ci S1).map .int)) := by
      refine e2_ok (a := .lst ((ci (S0.drop a)).map .int)) (b := .lst ((ci (S0.take a)).map .int)) ?_ ?_ ((addL_ok ?_).trans ?_)
      · rw [s_eSl]
        show some (D.lst (cutD ((ci S0).map D.int) (some (a : Int)) none)) = _
        rw [cut_map, cut_lo rfl]
        unfold ci
        simp only [List.map_drop]
      · rw [s_eSl]
        show some (D.lst (cutD ((ci S0).map D.int) none (some (a : Int)))) = _
        rw [cut_map, cut_hi rfl]
        unfold ci
        simp only [List.map_take]
      · rw [List.length_map, List.length_map, ci_len, ci_len, List.length_drop, List.length_take]; omega
      · rw [hS1]
        unfold ci
        rw [← List.map_append, ← List.map_append]
    obtain ⟨S2, p2, e3⟩ : ∃ S2 : List Nat, S2.Perm S0 ∧ if__law_mixed_lines_3 [bk, some LD, some ND, some CD, some WD, some TD, a6, a7, some (.int (i : Nat)), some (.lst ((ci S1).map .int)), a10, some (.int (a : Nat)), a12, a13, none] = some (.nx [bk, some LD, some ND, some CD, some WD, some TD, a6, a7, some (.int (i : Nat)), some (.lst ((ci S2).map .int)), a10, some (.int (a : Nat)), a12, a13, none]) := by
      have t : tBo (e2 (gEq false) (e2 gMod (e2 gIx (eVar 1) (e2 gAdd (eC (.int 9)) (eVar 8))) (eC (.int 2))) (eC (.int 1))) [bk, some LD, some ND, some CD, some WD, some TD, a6, a7, some (.int (i : Nat)), some (.lst ((ci S1).map .int)), a10, some (.int (a : Nat)), a12, a13, none] = some (decide (at0 L (9 + i) % 2 = 1)) := tbo_ok (e2_ok (e2_ok (drn (k := 9 + i) (by rw [hLD]; rfl) (e2_ok rfl rfl rfl) (by omega) (by omega)) rfl (mod_ok (by decide))) rfl s_eq)
      by_cases h : at0 L (9 + i) % 2 = 1
      · rw [decide_eq_true h] at t
        refine ⟨S1.reverse, (List.reverse_perm S1).trans p1, if_t t (set_ok ?_)⟩
        show some (D.lst ((ci S1).map D.int).reverse) = _
        unfold ci
        simp only [List.map_reverse]
      · rw [decide_eq_false h] at t
        exact ⟨S1, p1, if_f t rfl⟩
    have lt2 : ∀ j ∈ S2, j < N.length := fun j m => ((fm j).mp (p2.mem_iff.mp m)).1
    have s2l : S2.length = S0.length := p2.length_eq
    -- where their hats stand
    have e12 : eLc [10] (iLst (e2 gAdd (eVar 9) (eLst (aCons (eVar 8) aNil)))) (gSet 10) bYes (e2 gAdd (e2 gAdd (e2 gAdd (eC (.str "hat ")) (e2 gIx (eVar 2) (eVar 10))) (eC (.str " "))) (eCall gStr (aCons (e2 gIx (eVar 3) (eVar 10)) aNil))) [bk, some LD, some ND, some CD, some WD, some TD, a6, a7, some (.int (i : Nat)), some (.lst ((ci S2).map .int)), a10, some (.int (a : Nat)), a12, a13, none] = some (.lst (((S2 ++ [i]).map fun j => tx N C (.hat j)).map .str)) := by
      have := lcA_all (vs := [10]) (it := iLst (e2 gAdd (eVar 9) (eLst (aCons (eVar 8) aNil)))) (g := gSet 10) (p := bYes) (f := e2 gAdd (e2 gAdd (e2 gAdd (eC (.str "hat ")) (e2 gIx (eVar 2) (eVar 10))) (eC (.str " "))) (eCall gStr (aCons (e2 gIx (eVar 3) (eVar 10)) aNil))) (ρ := [bk, some LD, some ND, some CD, some WD, some TD, a6, a7, some (.int (i : Nat)), some (.lst ((ci S2).map .int)), a10, some (.int (a : Nat)), a12, a13, none]) (k := fun j : Nat => D.int (j : Nat)) (xs := S2 ++ [i]) (h := fun j => .str (tx N C (.hat j))) (γ := fun j => [bk, some LD, some ND, some CD, some WD, some TD, a6, a7, some (.int (i : Nat)), some (.lst ((ci S2).map .int)), some (.int (j : Nat)), some (.int (a : Nat)), a12, a13, none])
        (iLst_ok ((e2_ok rfl (elst_ok (acons_ok rfl anil_ok) (by show 1 ≤ 16777216; decide)) (addL_ok (by rw [List.length_map, ci_len]; show S2.length + 1 ≤ 16777216; omega))).trans (by
          unfold ci
          rw [List.map_append, List.map_map]; rfl))) (by rw [List.length_append, List.length_singleton]; omega) fun j mj => ⟨rfl, rfl, ht (g := eVar 0) (by
            rcases List.mem_append.mp mj with m | m
            · exact lt2 j m
            · rw [List.mem_singleton.mp m]; exact hi) rfl rfl rfl⟩
      rw [this, List.map_map]; rfl
    have px : ∀ j, j < N.length → ∃ k, ∃ h : k < its.length, its[k] = .hat j ∧ gIdx TD (.str (tx N C (.hat j))) = some (.int (k : Nat)) := fun j hj => by
      rw [hTD]; exact idx_hat B g hj
    obtain ⟨pos, hpos⟩ : ∃ pos : Nat → Nat, ∀ j, j < N.length → ∃ h : pos j < its.length, its[pos j] = .hat j ∧ gIdx TD (.str (tx N C (.hat j))) = some (.int (pos j : Nat)) := by
      refine ⟨fun j => if h : j < N.length then Classical.choose (px j h) else 0, fun j hj => ?_⟩
      have := Classical.choose_spec (px j hj)
      simp only [dif_pos hj]
      exact this
    obtain ⟨M, hM⟩ : ∃ M, M = maxL ((S2 ++ [i]).map fun j => ((pos j : Nat) : Int)) := ⟨_, rfl⟩
    have mne : ((S2 ++ [i]).map fun j => ((pos j : Nat) : Int)) ≠ [] := by simp
    have mm := maxL_mem mne
    rw [← hM] at mm
    obtain ⟨jm, mjm, ejm⟩ := List.mem_map.mp mm
    have all_lt : ∀ j ∈ S2 ++ [i], j < N.length := fun j mj => by
      rcases List.mem_append.mp mj with m | m
      · exact lt2 j m
      · rw [List.mem_singleton.mp m]; exact hi
    obtain ⟨hjm, _, _⟩ := hpos jm (all_lt jm mjm)
    have e13 : e2 gAdd (eC (.int 1)) (eCall gMax (aCons (eLc [14] (iLst (eVar 12)) (gSet 14) bYes (e2 gIdx (eVar 5) (eVar 14))) aNil)) [bk, some LD, some ND, some CD, some WD, some TD, a6, a7, some (.int (i : Nat)), some (.lst ((ci S2).map .int)), a10, some (.int (a : Nat)), some (.lst (((S2 ++ [i]).map fun j => tx N C (.hat j)).map .str)), a13, none] = some (.int (1 + M)) := by
      have := lcI_all (vs := [14]) (it := iLst (eVar 12)) (g := gSet 14) (p := bYes) (f := e2 gIdx (eVar 5) (eVar 14)) (ρ := [bk, some LD, some ND, some CD, some WD, some TD, a6, a7, some (.int (i : Nat)), some (.lst ((ci S2).map .int)), a10, some (.int (a : Nat)), some (.lst (((S2 ++ [i]).map fun j => tx N C (.hat j)).map .str)), a13, none]) (k := fun j => D.str (tx N C (.hat j))) (xs := S2 ++ [i]) (h := fun j => ((pos j : Nat) : Int)) (γ := fun j => [bk, some LD, some ND, some CD, some WD, some TD, a6, a7, some (.int (i : Nat)), some (.lst ((ci S2).map .int)), a10, some (.int (a : Nat)), some (.lst (((S2 ++ [i]).map fun j => tx N C (.hat j)).map .str)), a13, some (.str (tx N C (.hat j)))])
        ((iLst_ok rfl).trans (by rw [List.map_map]; rfl)) (by rw [List.length_append, List.length_singleton]; omega) fun j mj => ⟨rfl, rfl, e2_ok rfl rfl (hpos j (all_lt j mj)).2.2⟩
      refine e2_ok rfl (call_ok (acons_ok this anil_ok) (s_maxL (List.length_pos_iff.mpr mne))) ?_
      rw [← hM]; rfl
    obtain ⟨d, hd, d2⟩ := emod_nat (x := at0 L (17 + i)) (m := (its.length : Int) - (1 + M) + 1) (by omega)
    obtain ⟨at_, hat⟩ : ∃ at_ : Nat, (at_ : Int) = 1 + M + d := ⟨(1 + M + d).toNat, by omega⟩
    have tl : ∀ ρ : Store, eVar 5 ρ = some TD → eCall gLen (aCons (eVar 5) aNil) ρ = some (.int its.length) := fun ρ h => len_ok (by rw [h, hTD]) (by rw [List.length_map, List.length_map])
    have e11b : e2 gAdd (eVar 13) (e2 gMod (e2 gIx (eVar 1) (e2 gAdd (eC (.int 17)) (eVar 8))) (e2 gAdd (e2 gSub (eCall gLen (aCons (eVar 5) aNil)) (eVar 13)) (eC (.int 1)))) [bk, some LD, some ND, some CD, some WD, some TD, a6, a7, some (.int (i : Nat)), some (.lst ((ci S2).map .int)), a10, some (.int (a : Nat)), some (.lst (((S2 ++ [i]).map fun j => tx N C (.hat j)).map .str)), some (.int (1 + M)), none] = some (.int (at_ : Nat)) := by
      refine e2_ok rfl (e2_ok (drn (k := 17 + i) (by rw [hLD]; rfl) (e2_ok rfl rfl rfl) (by omega) (by omega)) (e2_ok (e2_ok (tl _ rfl) rfl s_iu) rfl rfl) (mod_ok (by omega))) ?_
      show some (D.int (1 + M + at0 L (17 + i) % ((its.length : Int) - (1 + M) + 1))) = _
      rw [hd, hat]
    have g' : Gi N.length ws (its.take at_ ++ [.sees i S2] ++ its.drop at_) := by
      refine g.ins (by omega) hi ni (fun z => hz (by rw [z] at p2; exact p2.symm.eq_nil)) (p2.nodup_iff.mpr fn) (fun j => p2.mem_iff.trans (fm' j)) fun j mj => ?_
      have mj' : j ∈ S2 ++ [i] := by
        rcases List.mem_cons.mp mj with rfl | m
        · exact List.mem_append_right _ (List.mem_singleton.mpr rfl)
        · exact List.mem_append_left _ m
      obtain ⟨h1, h2, _⟩ := hpos j (all_lt j mj')
      have ge := maxL_ge (List.mem_map.mpr ⟨j, mj', rfl⟩ : ((pos j : Nat) : Int) ∈ (S2 ++ [i]).map fun j => ((pos j : Nat) : Int))
      rw [← hM] at ge
      rw [← h2]
      exact List.mem_take_iff_getElem.mpr ⟨pos j, by omega, rfl⟩
    have mem' : It.sees i S2 ∈ its.take at_ ++ [.sees i S2] ++ its.drop at_ := by simp
    have ejoin : e2 gJoin (eC (.str " ")) (e2 gAdd (eLst (aCons (eC (.str "sees")) (aCons (e2 gIx (eVar 2) (eVar 8)) aNil))) (eLc [10] (iLst (eVar 9)) (gSet 10) bYes (e2 gIx (eVar 2) (eVar 10)))) [bk, some LD, some ND, some CD, some WD, some TD, a6, a7, some (.int (i : Nat)), some (.lst ((ci S2).map .int)), a10, some (.int (at_ : Nat)), some (.lst (((S2 ++ [i]).map fun j => tx N C (.hat j)).map .str)), some (.int (1 + M)), none] = some (.str (tx N C (.sees i S2))) := by
      have lc := lcA_all (vs := [10]) (it := iLst (eVar 9)) (g := gSet 10) (p := bYes) (f := e2 gIx (eVar 2) (eVar 10)) (ρ := [bk, some LD, some ND, some CD, some WD, some TD, a6, a7, some (.int (i : Nat)), some (.lst ((ci S2).map .int)), a10, some (.int (at_ : Nat)), some (.lst (((S2 ++ [i]).map fun j => tx N C (.hat j)).map .str)), some (.int (1 + M)), none]) (k := fun j : Nat => D.int (j : Nat)) (xs := S2) (h := fun j => .str (nmD N j)) (γ := fun j => [bk, some LD, some ND, some CD, some WD, some TD, a6, a7, some (.int (i : Nat)), some (.lst ((ci S2).map .int)), some (.int (j : Nat)), some (.int (at_ : Nat)), some (.lst (((S2 ++ [i]).map fun j => tx N C (.hat j)).map .str)), some (.int (1 + M)), none])
        ((iLst_ok rfl).trans (by unfold ci; rw [List.map_map]; rfl)) (by omega) fun j mj => ⟨rfl, rfl, e2_ok rfl rfl (nix j (lt2 j mj))⟩
      have ew : [D.str "sees", D.str (nmD N i)] ++ S2.map (fun j => D.str (nmD N j)) = (wd N C (.sees i S2)).map .str := by
        show _ = (("sees" : Str) :: nmD N i :: S2.map (nmD N)).map D.str
        rw [List.map_cons, List.map_cons, List.map_map]; rfl
      have jl := (join_len (fun w mw => ((gl_it B g' mem').1.ok w mw).2.2) (gl_it B g' mem').1.le).2
      have jl2 := (wd_len B g' mem').2
      refine e2_ok (b := .lst ((wd N C (.sees i S2)).map .str)) rfl (e2_ok (elst_ok (acons_ok rfl (acons_ok (e2_ok rfl rfl (nix i hi)) anil_ok)) (by show 2 ≤ 16777216; decide)) lc ((addL_ok (by rw [List.length_map]; show 2 + S2.length ≤ 16777216; omega)).trans (by rw [ew]))) (s_join (by omega))
    refine ⟨_, g', fun k T m => ?_, fun k T m => ?_, fun _ => ⟨S2, mem'⟩, some (.lst ((ci S2).map .int)), some (.int (at_ : Nat)), some (.lst (((S2 ++ [i]).map fun j => tx N C (.hat j)).map .str)), some (.int (1 + M)), ?_⟩
    · rw [List.mem_append, List.mem_append, List.mem_singleton] at m
      rcases m with (m | m) | m
      · exact .inl (List.mem_of_mem_take m)
      · cases m; exact .inr rfl
      · exact .inl (List.mem_of_mem_drop m)
    · have : It.sees k T ∈ its.take at_ ++ its.drop at_ := by rw [List.take_append_drop]; exact m
      rcases List.mem_append.mp this with m | m
      · exact List.mem_append_left _ (List.mem_append_left _ m)
      · exact List.mem_append_right _ m
    · refine seq_set e9 ?_
      refine if_t t0 ?_
      refine seq_set (e11 _ _ _ _ rfl) ?_
      refine seq_set e9b ?_
      refine seq_nx e3 ?_
      refine seq_set e12 ?_
      refine seq_set (d := .int (1 + M)) (clr_ok e13 s_immI) ?_
      refine seq_set (d := .int (at_ : Nat)) (clr_ok e11b s_immI) ?_
      refine insert_ok (n := at_) (d := .str (tx N C (.sees i S2))) (ds := (its.map (tx N C)).map .str) ?_ rfl ejoin rfl (by omega) (by rw [List.length_map, List.length_map]; omega) ?_
      · show some TD = _
        rw [hTD]
      · have : ((its.take at_ ++ [It.sees i S2] ++ its.drop at_).map (tx N C)).map D.str = ((its.map (tx N C)).map D.str).take at_ ++ [D.str (tx N C (.sees i S2))] ++ ((its.map (tx N C)).map D.str).drop at_ := by
          rw [List.map_append, List.map_append, List.map_append, List.map_append, List.map_take, List.map_take, List.map_drop, List.map_drop]; rfl
        rw [this]; rfl
end
section
variable {N : List Str} {C ws : List Nat}
def Full (n : Nat) (ws : List Nat) (its : List It) : Prop := ∀ i, i < n → ws.getD i 0 ≠ 0 → ∃ S, It.sees i S ∈ its
theorem mixed_ok (B : Bk N C ws) {L : List Int} (l1 : 26 ≤ L.length) : ∃ its, Gi N.length ws its ∧ Full N.length ws its ∧ sem__law_mixed_lines [PD N C ws, .lst (L.map .int)] = some (.lst ((its.map (tx N C)).map .str)) := by
  have l8 := B.le
  have wl := B.wb.len
  obtain ⟨LD, hLD⟩ : ∃ LD : D, LD = .lst (L.map .int) := ⟨_, rfl⟩
  obtain ⟨WD, hWD⟩ : ∃ WD : D, WD = .lst ((ci ws).map .int) := ⟨_, rfl⟩
  obtain ⟨ND, hND⟩ : ∃ ND : D, ND = .lst (N.map .str) := ⟨_, rfl⟩
  obtain ⟨CD, hCD⟩ : ∃ CD : D, CD = .lst ((ci C).map .int) := ⟨_, rfl⟩
  have hP : PD N C ws = .lst [ND, CD, WD] := by unfold PD; rw [hND, hCD, hWD]
  have nln : ∀ ρ : Store, eVar 2 ρ = some ND → eCall gLen (aCons (eVar 2) aNil) ρ = some (.int N.length) := fun ρ h => len_ok (by rw [h, hND]) (by rw [List.length_map])
  have ht : ∀ {k : Nat}, k < N.length → ∀ {f g : Store → Option D} {ρ : Store}, eVar 2 ρ = some ND → eVar 3 ρ = some CD → f ρ = some (.int (k : Nat)) → e2 gAdd (e2 gAdd (e2 gAdd (eC (.str "hat ")) (e2 gIx (eVar 2) f)) (eC (.str " "))) (eCall gStr (aCons (e2 gIx (eVar 3) f) aNil)) ρ = some (.str (tx N C (.hat k))) := fun {k} hk {f g ρ} h2 h3 hf => hat_text B hk (h2.trans (by rw [hND])) (h3.trans (by rw [hCD])) hf (g := g)
  rw [hP, ← hLD]
  obtain ⟨bk, hbk⟩ : ∃ bk : D, bk = .lst [ND, CD, WD] := ⟨_, rfl⟩
  obtain ⟨ρ', hf, a6, rfl⟩ := forD_rng (g := gSet 6) (F := lp__law_mixed_lines_1) (n := N.length)
    (fun j ρ => ∃ a6, ρ = [some bk, some LD, some ND, some CD, some WD, some (.lst ((((List.range j).map It.hat).map (tx N C)).map .str)), a6, none, none, none, none, none, none, none, none])
    (fun j hj ρ p => by
      obtain ⟨a6, rfl⟩ := p
      refine ⟨_, _, rfl, .inl (append_ok (d := .str (tx N C (.hat j))) (ds := (((List.range j).map It.hat).map (tx N C)).map .str) rfl (ht hj (g := eVar 0) rfl rfl rfl) (by simp only [List.length_map, List.length_range]; omega)), some (.int j), ?_⟩
      rw [List.range_succ, List.map_append, List.map_append, List.map_append]; rfl)
    (ρ := [some bk, some LD, some ND, some CD, some WD, some (.lst []), none, none, none, none, none, none, none, none, none]) ⟨none, rfl⟩
  obtain ⟨O, o1, o2, e7⟩ : ∃ O : List Nat, O.Nodup ∧ (∀ i, i ∈ O ↔ i < N.length) ∧ if__law_mixed_lines_2 [some bk, some LD, some ND, some CD, some WD, some (.lst ((((List.range N.length).map It.hat).map (tx N C)).map .str)), a6, some (.lst ((ci (List.range N.length)).map .int)), none, none, none, none, none, none, none] = some (.nx [some bk, some LD, some ND, some CD, some WD, some (.lst ((((List.range N.length).map It.hat).map (tx N C)).map .str)), a6, some (.lst ((ci O).map .int)), none, none, none, none, none, none, none]) := by
    have t : tBo (e2 (gEq false) (e2 gMod (e2 gIx (eVar 1) (eC (.int 0))) (eC (.int 2))) (eC (.int 1))) [some bk, some LD, some ND, some CD, some WD, some (.lst ((((List.range N.length).map It.hat).map (tx N C)).map .str)), a6, some (.lst ((ci (List.range N.length)).map .int)), none, none, none, none, none, none, none] = some (decide (at0 L 0 % 2 = 1)) := tbo_ok (e2_ok (e2_ok (drn (k := 0) (by rw [hLD]; rfl) rfl rfl (by omega)) rfl (mod_ok (by decide))) rfl s_eq)
    by_cases h : at0 L 0 % 2 = 1
    · rw [decide_eq_true h] at t
      refine ⟨(List.range N.length).reverse, (List.reverse_perm _).nodup_iff.mpr List.nodup_range, fun i => by rw [List.mem_reverse, List.mem_range], if_t t (set_ok ?_)⟩
      show some (D.lst ((ci (List.range N.length)).map D.int).reverse) = _
      unfold ci
      simp only [List.map_reverse]
    · rw [decide_eq_false h] at t
      exact ⟨List.range N.length, List.nodup_range, fun i => List.mem_range, if_f t rfl⟩
  have g0 : Gi N.length ws ((List.range N.length).map It.hat) := by
    have e1 : hats ((List.range N.length).map It.hat) = List.range N.length := by
      unfold hats
      rw [List.filterMap_map, show (hatN ∘ It.hat) = some from rfl, List.filterMap_some]
    have e2 : ∀ {i : Nat} {S : List Nat}, It.sees i S ∉ (List.range N.length).map It.hat := fun {i S} m => by
      obtain ⟨k, _, e⟩ := List.mem_map.mp m
      cases e
    refine ⟨e1, ?_, fun i S m => absurd m e2, fun p i S e => absurd (List.mem_of_getElem? e) e2⟩
    have : sps ((List.range N.length).map It.hat) = [] := by
      refine List.eq_nil_iff_forall_not_mem.mpr fun x m => ?_
      exact e2 (sps_mem (i := x.1) (S := x.2).mp m)
    rw [this]; exact .nil
  obtain ⟨ρ', hg, its, q1, q2, q3, a8, a9, a10, a11, a12, a13, rfl⟩ := forD_inv (g := gSet 8) (F := lp__law_mixed_lines_5) (k := fun i : Nat => D.int (i : Nat)) (xs := O)
    (fun p ρ => ∃ its, Gi N.length ws its ∧ (∀ k T, It.sees k T ∈ its → k ∈ O.take p) ∧ (∀ k ∈ O.take p, ws.getD k 0 ≠ 0 → ∃ T, It.sees k T ∈ its) ∧ ∃ a8 a9 a10 a11 a12 a13, ρ = mxS (some bk) (some LD) (some ND) (some CD) (some WD) (its.map (tx N C)) a6 (some (.lst ((ci O).map .int))) a8 a9 a10 a11 a12 a13 none)
    (fun p hp ρ q => by
      obtain ⟨its, q1, q2, q3, a8, a9, a10, a11, a12, a13, rfl⟩ := q
      have hi : O[p] < N.length := (o2 _).mp (List.getElem_mem hp)
      have ni : O[p] ∉ O.take p := fun m => by
        obtain ⟨j, hj, e⟩ := List.mem_take_iff_getElem.mp m
        have := (List.getElem_inj o1).mp e
        omega
      have ni' : O[p] ∉ (sps its).map (·.1) := fun m => by
        obtain ⟨⟨k, T⟩, mk, e⟩ := List.mem_map.mp m
        have := q2 k T (sps_mem.mp mk)
        have e : k = O[p] := e
        rw [e] at this
        exact ni this
      obtain ⟨its', g', r1, r2, r3, b9, b11, b12, b13, h⟩ := mixed_turn B q1 l1 hi ni' (some bk) a6 (some (.lst ((ci O).map .int))) a9 a10 a11 a12 a13
      rw [← hLD, ← hND, ← hCD, ← hWD] at h
      have tk : O.take (p + 1) = O.take p ++ [O[p]] := by rw [List.take_succ_eq_append_getElem hp]
      refine ⟨_, _, rfl, .inl h, its', g', fun k T m => ?_, fun k mk nz => ?_, _, _, _, _, _, _, rfl⟩
      · rw [tk]
        rcases r1 k T m with m | m
        · exact List.mem_append_left _ (q2 k T m)
        · exact List.mem_append_right _ (List.mem_singleton.mpr m)
      · rw [tk] at mk
        rcases List.mem_append.mp mk with m | m
        · obtain ⟨T, mT⟩ := q3 k m nz
          exact ⟨T, r2 k T mT⟩
        · rw [List.mem_singleton.mp m] at nz ⊢
          exact r3 nz)
    (ρ := mxS (some bk) (some LD) (some ND) (some CD) (some WD) (((List.range N.length).map It.hat).map (tx N C)) a6 (some (.lst ((ci O).map .int))) none none none none none none none) ⟨_, g0, fun k T m => (by
      obtain ⟨j, _, e⟩ := List.mem_map.mp m
      cases e), fun k m => (nomatch m), none, none, none, none, none, none, rfl⟩
  rw [List.take_length] at q3
  refine ⟨its, q1, fun i hi nz => q3 i ((o2 i).mpr hi) nz, ?_⟩
  have itO : iLst (eVar 7) [some bk, some LD, some ND, some CD, some WD, some (.lst ((((List.range N.length).map It.hat).map (tx N C)).map .str)), a6, some (.lst ((ci O).map .int)), none, none, none, none, none, none, none] = some (O.map fun i : Nat => D.int (i : Nat)) := (iLst_ok rfl).trans (by unfold ci; rw [List.map_map]; rfl)
  have eu : sUnp (eVar 0) (gSet3L 2 3 4) [some bk, some LD, none, none, none, none, none, none, none, none, none, none, none, none, none] = some (.nx [some bk, some LD, some ND, some CD, some WD, none, none, none, none, none, none, none, none, none, none]) := by rw [hbk]; rfl
  have fin : sRet 1 (eVar 5) (mxS (some bk) (some LD) (some ND) (some CD) (some WD) (its.map (tx N C)) a6 (some (.lst ((ci O).map .int))) a8 a9 a10 a11 a12 a13 none) = some (.rt (.lst ((its.map (tx N C)).map .str)) _) := ret_ok rfl (by
    show D.immBL 0 ((its.map (tx N C)).map .str) = true
    exact immBL_of fun d m => by obtain ⟨w, _, rfl⟩ := List.mem_map.mp m; rfl)
  rw [← hbk]
  exact fn0_ok (seq_nx eu (seq_set (d := .lst []) (elst_ok anil_ok (by decide)) (seq_nx (for_ok (r1_nat (n := N.length) (acons_ok (nln _ rfl) anil_ok) (by omega)) hf) (seq_set (d := .lst ((ci (List.range N.length)).map .int)) (ci_rg N.length (by omega) (nln _ rfl)) (seq_nx e7 (seq_nx (for_ok itO hg) fin))))))
end
/-! lines as they come: clean texts, their words -/
theorem spl_mem {S : List Nat} : ∀ (l acc : List Nat) (k : Nat), ∀ w ∈ TL.spl S k acc l, ∀ c ∈ w, c ∈ acc ∨ c ∈ l
  | [], acc, k => fun w m c mc => by
    rw [TL.spl_nil] at m
    rw [List.mem_singleton.mp m] at mc
    exact .inl mc
  | x :: r, acc, 0 => fun w m c mc => by
    cases h : TL.pre S (x :: r) with
    | true =>
      rw [TL.spl_hit h] at m
      rcases List.mem_cons.mp m with rfl | m
      · exact .inl mc
      · rcases spl_mem r [] (S.length - 1) w m c mc with z | z
        · cases z
        · exact .inr (List.mem_cons_of_mem _ z)
    | false =>
      rw [TL.spl_miss h] at m
      rcases spl_mem r (acc ++ [x]) 0 w m c mc with z | z
      · rcases List.mem_append.mp z with z | z
        · exact .inl z
        · rw [List.mem_singleton.mp z]; exact .inr List.mem_cons_self
      · exact .inr (List.mem_cons_of_mem _ z)
  | x :: r, acc, k + 1 => fun w m c mc => by
    have m : w ∈ TL.spl S k acc r := m
    rcases spl_mem r acc k w m c mc with z | z
    · exact .inl z
    · exact .inr (List.mem_cons_of_mem _ z)
theorem spl_len {S : List Nat} : ∀ (l acc : List Nat) (k : Nat), (∀ w ∈ TL.spl S k acc l, w.length ≤ acc.length + l.length) ∧ (TL.spl S k acc l).length ≤ l.length + 1 ∧ TL.spl S k acc l ≠ []
  | [], acc, k => by
    rw [TL.spl_nil]
    exact ⟨fun w m => by rw [List.mem_singleton.mp m]; omega, by show 1 ≤ 0 + 1; omega, by simp⟩
  | x :: r, acc, 0 => by
    cases h : TL.pre S (x :: r) with
    | true =>
      rw [TL.spl_hit h]
      obtain ⟨h1, h2, h3⟩ := spl_len (S := S) r [] (S.length - 1)
      refine ⟨fun w m => ?_, by rw [List.length_cons, List.length_cons]; omega, by simp⟩
      rcases List.mem_cons.mp m with rfl | m
      · omega
      · have := h1 w m; rw [List.length_nil] at this; rw [List.length_cons]; omega
    | false =>
      rw [TL.spl_miss h]
      obtain ⟨h1, h2, h3⟩ := spl_len (S := S) r (acc ++ [x]) 0
      refine ⟨fun w m => ?_, by rw [List.length_cons]; omega, h3⟩
      have := h1 w m
      rw [List.length_append, List.length_singleton] at this
      rw [List.length_cons]; omega
  | x :: r, acc, k + 1 => by
    obtain ⟨h1, h2, h3⟩ := spl_len (S := S) r acc k
    refine ⟨fun w m => ?_, ?_, h3⟩
    · have := h1 w m; rw [List.length_cons]; omega
    · show (TL.spl S k acc r).length ≤ _
      rw [List.length_cons]; omega
/-- clean: no line feed -/
structure Ln (x : Str) (n : Nat) : Prop where
  cl : ∀ c ∈ cs x, c < 1114112 ∧ c ≠ 10
  le : x.length ≤ n
theorem Ln.mono {x : Str} {m n : Nat} (h : Ln x m) (hn : m ≤ n) : Ln x n := ⟨h.cl, Nat.le_trans h.le hn⟩
theorem Ln.ok {x : Str} {n : Nat} (h : Ln x n) : sOk x = true := sOk_of fun c m => (h.cl c m).1
def wds (x : Str) : List Str := Txt.split x " "
theorem wds_spl (x : Str) : wds x = (TL.spl [32] 0 [] (cs x)).map SX.S := by
  have e0 : (" " : Str) = SX.S [32] := by decide +kernel
  have e1 : x = SX.S (cs x) := cs_ext rfl
  unfold wds
  rw [e0]
  conv => lhs; rw [e1]
  rw [SX.split_S (by decide) (by decide)]
theorem wds_ok {x : Str} {n : Nat} (h : Ln x n) : wds x ≠ [] ∧ (∀ w ∈ wds x, Ln w n) ∧ (wds x).length ≤ n + 1 := by
  obtain ⟨h1, h2, h3⟩ := spl_len (S := [32]) (cs x) [] 0
  rw [wds_spl]
  refine ⟨fun z => h3 (List.map_eq_nil_iff.mp z), fun w m => ?_, by rw [List.length_map]; have := h.le; rw [len_cs] at this; omega⟩
  obtain ⟨l, ml, rfl⟩ := List.mem_map.mp m
  refine ⟨fun c mc => ?_, ?_⟩
  · rcases spl_mem (cs x) [] 0 l ml c mc with z | z
    · cases z
    · exact h.cl c z
  · have := h1 l ml
    have le := h.le
    rw [len_cs] at le
    show (SX.S l).length ≤ n
    rw [SX.S_len]
    rw [List.length_nil] at this
    omega
theorem wds_okW {x : Str} (h : Ln x 900) : wds x ≠ [] ∧ okW (wds x) := by
  obtain ⟨h1, h2, h3⟩ := wds_ok h
  exact ⟨h1, fun w m => ⟨by have := (h2 w m).le; omega, (h2 w m).ok⟩, by omega⟩
theorem wds_split {f : Store → Option D} {ρ : Store} {x : Str} (h : Ln x 900) (e : f ρ = some (.str x)) : e2 gSplit f (eC (.str " ")) ρ = some (.lst ((wds x).map .str)) := e2_ok e rfl (s_split (by have := h.le; omega))
section
variable {f : Store → Option D} {ρ : Store} {ws : List Str}
theorem w0g (h : f ρ = some (.lst (ws.map .str))) (hn : ws ≠ []) : e2 gIx f (eC (.int 0)) ρ = some (.str (headW ws)) := by
  cases ws with
  | nil => exact absurd rfl hn
  | cons w ws => exact e2_ok h rfl (ix_strs (k := 0) rfl (by simp))
theorem wlg (h : f ρ = some (.lst (ws.map .str))) : eCall gLen (aCons f aNil) ρ = some (.int ws.length) := len_ok h (by rw [List.length_map])
theorem slg (k : Nat) (h : f ρ = some (.lst (ws.map .str))) : eSl gSlL f (oSome (eC (.int k))) oNone ρ = some (.lst ((ws.drop k).map .str)) := by
  rw [s_eSl, h]
  show gSlL (.lst (ws.map .str)) (some (k : Int)) none = _
  show some (D.lst (cutD (ws.map D.str) (some (k : Int)) none)) = _
  rw [cut_map, cut_lo rfl]
end
def lineW (ws : List Str) : Bool := hatW ws || !badW ws
/-! _law_is_line -/
theorem is_line {x : Str} (hx : Ln x 900) : sem__law_is_line [.str x] = some (.bl (lineW (wds x))) := by
  obtain ⟨hn, hw⟩ := wds_okW hx
  obtain ⟨ws, hws⟩ : ∃ ws, ws = wds x := ⟨_, rfl⟩
  have e1 : e2 gSplit (eVar 0) (eC (.str " ")) [some (.str x), some (.str alphS), none, none] = some (.lst (ws.map .str)) := by rw [hws]; exact wds_split hx rfl
  rw [← hws] at hn hw ⊢
  obtain ⟨XD, hX⟩ : ∃ XD : D, XD = .str x := ⟨_, rfl⟩
  rw [← hX] at e1 ⊢
  have hs : sOk "hat" = true := by decide +kernel
  have s1 := tbo_ok (e2_ok (w0g (f := eVar 2) (ρ := [some XD, some (.str alphS), some (.lst (ws.map .str)), none]) rfl hn) (f2 := eC (.str "hat")) rfl (s_eqS (hw.1 _ (head_mem hn)).2 hs))
  have s2 : tBo (e2 (gEq false) (eCall gLen (aCons (eVar 2) aNil)) (eC (.int 3))) [some XD, some (.str alphS), some (.lst (ws.map .str)), none] = some (decide (ws.length = 3)) := tbo_ok (e2_ok (wlg rfl) rfl (s_eq.trans (by rw [decide_eq_decide.mpr (show ((ws.length : Int) = 3) ↔ ws.length = 3 by omega)])))
  have t0 := tbo_ok (e2_ok (w0g (f := eVar 2) (ρ := [some XD, some (.str alphS), some (.lst (ws.map .str)), none]) rfl hn) (f2 := eC (.str "sees")) rfl (s_neS (hw.1 _ (head_mem hn)).2 (by decide +kernel)))
  have t3 : tBo (e2 gLt (eCall gLen (aCons (eVar 2) aNil)) (eC (.int 3))) [some XD, some (.str alphS), some (.lst (ws.map .str)), none] = some (decide (ws.length < 3)) := tbo_ok (e2_ok (wlg rfl) rfl (s_cmp.trans (by rw [decide_eq_decide.mpr (show ((ws.length : Int) < 3) ↔ ws.length < 3 by omega)])))
  have t2 := bOr_ok t0 fun _ => t3
  -- what comes behind the hat lines
  have rest : hatW ws = false → sSeq if__law_is_line_2 (sRet 0 (e2 (gEq false) (eLc [3] (iLst (eSl gSlL (eVar 2) (oSome (eC (.int 1))) oNone)) (gSet 3) (bNot (tBo (eCall (callF 3 [] sem__law_made_of) (aCons (eVar 3) (aCons (eVar 1) (aCons (eC (.int 12)) aNil)))))) (eVar 3)) (eLst aNil))) [some XD, some (.str alphS), some (.lst (ws.map .str)), none] = some (.rt (.bl (lineW ws)) [some XD, some (.str alphS), some (.lst (ws.map .str)), none]) := fun hh => by
    have el : lineW ws = !(!decide (headW ws = "sees") || (decide (ws.length < 3) || !(ws.drop 1).all isNm)) := by unfold lineW badW; rw [hh, Bool.false_or]
    cases eb : (!decide (headW ws = "sees") || decide (ws.length < 3)) with
    | true =>
      rw [eb] at t2
      rw [el, ← Bool.or_assoc, eb, Bool.true_or]
      exact seq_rt (if_t t2 (ret_ok (d := .bl false) rfl rfl))
    | false =>
      rw [eb] at t2
      rw [el, ← Bool.or_assoc, eb, Bool.false_or, Bool.not_not]
      have sl := slg (f := eVar 2) (ρ := [some XD, some (.str alphS), some (.lst (ws.map .str)), none]) 1 rfl
      have dl : (ws.drop 1).length < 16777216 := by rw [List.length_drop]; have := hw.2; omega
      have e : eLc [3] (iLst (eSl gSlL (eVar 2) (oSome (eC (.int 1))) oNone)) (gSet 3) (bNot (tBo (eCall (callF 3 [] sem__law_made_of) (aCons (eVar 3) (aCons (eVar 1) (aCons (eC (.int 12)) aNil)))))) (eVar 3) [some XD, some (.str alphS), some (.lst (ws.map .str)), none] = some (.lst (((ws.drop 1).filter fun w => !isNm w).map .str)) := lcA_map (k := D.str) (γ := fun w => [some XD, some (.str alphS), some (.lst (ws.map .str)), some (.str w)]) (iLst_ok sl) dl fun w m => ⟨rfl, bNot_ok (tbo_ok (callF_ok (ds := [.str w, .str alphS, .int (12 : Nat)]) rfl rfl (_law_made_of_ok w alphS 12 (hw.1 w (List.mem_of_mem_drop m)).1))), fun _ => rfl⟩
      refine seq_nx (if_f t2 rfl) (ret_ok (d := .bl _) ((e2_ok e rfl (eq_nil ((lay_strs fun w m => (hw.1 w (List.mem_of_mem_drop (List.mem_filter.mp m |>.1))).2).okE (by decide)))).trans ?_) rfl)
      congr 2
      rw [Bool.eq_iff_iff, List.isEmpty_iff, List.map_eq_nil_iff, List.filter_eq_nil_iff, List.all_eq_true]
      refine ⟨fun z w m => ?_, fun z w m => ?_⟩
      · have := z w m
        cases e : isNm w
        · rw [e] at this; exact absurd rfl this
        · rfl
      · rw [z w m]; decide
  have nohat : headW ws ≠ "hat" ∨ ws.length ≠ 3 → hatW ws = false := fun h => by
    unfold hatW
    split
    · rename_i a b c
      rcases h with h | h
      · rw [decide_eq_false (show ¬ a = ("hat" : Str) from h)]; rfl
      · exact absurd rfl h
    · rfl
  refine fn0_ok (ρ' := [some XD, some (.str alphS), some (.lst (ws.map .str)), none]) (seq_set (d := .str alphS) rfl (seq_set e1 ?_))
  show sSeq if__law_is_line_1 _ [some XD, some (.str alphS), some (.lst (ws.map .str)), none] = some (.rt (.bl (lineW ws)) [some XD, some (.str alphS), some (.lst (ws.map .str)), none])
  by_cases e0 : headW ws = "hat"
  · rw [decide_eq_true e0] at s1
    by_cases e3 : ws.length = 3
    · rw [decide_eq_true e3] at s2
      clear rest nohat t0 t2 t3
      match ws, hn, hw, e0, e3, s1, s2 with
      | [w0, w1, w2], hn, hw, e0, e3, s1, s2 =>
        have m1 := hw.1 w1 (by simp)
        have m2 := hw.1 w2 (by simp)
        have e0 : w0 = "hat" := e0
        have eh : hatW [w0, w1, w2] = (isNm w1 && (isCt w2 && !decide ((cs w2).head? = some 48))) := by
          show (decide (w0 = "hat") && isNm w1 && _) = _
          rw [decide_eq_true e0, Bool.true_and]
        have eb : badW [w0, w1, w2] = true := by
          show (!decide (w0 = "sees") || _) = true
          rw [e0, decide_eq_false (by decide +kernel)]; rfl
        have el : lineW [w0, w1, w2] = (isNm w1 && (isCt w2 && !decide ((cs w2).head? = some 48))) := by unfold lineW; rw [eh, eb]; cases (isNm w1 && (isCt w2 && !decide ((cs w2).head? = some 48))) <;> rfl
        have a1 : tBo (eCall (callF 3 [] sem__law_made_of) (aCons (e2 gIx (eVar 2) (eC (.int 1))) (aCons (eVar 1) (aCons (eC (.int 12)) aNil)))) [some XD, some (.str alphS), some (.lst ([w0, w1, w2].map .str)), none] = some (isNm w1) := tbo_ok (callF_ok (ds := [.str w1, .str alphS, .int (12 : Nat)]) rfl rfl (_law_made_of_ok w1 alphS 12 m1.1))
        have t := bAnd_ok s1 fun _ => bAnd_ok s2 fun _ => a1
        rw [el]
        cases e1 : isNm w1 with
        | false =>
          rw [e1] at t
          have tb : bOr (tBo (e2 (gEq true) (e2 gIx (eVar 2) (eC (.int 0))) (eC (.str "sees")))) (tBo (e2 gLt (eCall gLen (aCons (eVar 2) aNil)) (eC (.int 3)))) [some XD, some (.str alphS), some (.lst ([w0, w1, w2].map .str)), none] = some true := bOr_ok (a := true) (b := false) (tbo_ok ((e2_ok (w0g rfl hn) rfl (s_neS (hw.1 _ (head_mem hn)).2 (by decide +kernel))).trans (by rw [show headW [w0, w1, w2] = "hat" from e0, decide_eq_false (by decide +kernel)]; rfl))) fun z => Bool.noConfusion z
          exact seq_nx (if_f t rfl) (seq_rt (if_t tb (ret_ok (d := .bl false) rfl rfl)))
        | true =>
          rw [e1] at t
          rw [Bool.true_and]
          refine seq_rt (if_t t (ret_ok (d := .bl _) (eand_ok (callF_ok (ds := [.str w2, .str figS, .int (30 : Nat)]) rfl rfl (_law_made_of_ok w2 figS 30 m2.1)) fun e2' => ?_) rfl))
          obtain ⟨d1, d2, d3⟩ := isCt_iff.mp e2'
          obtain ⟨c, r, ec⟩ : ∃ c r, cs w2 = c :: r := by
            cases ec : cs w2 with
            | nil => rw [len_cs, ec] at d2; exact absurd d2 (by decide)
            | cons c r => exact ⟨c, r, rfl⟩
          have cb := figs_rng (d1 c (by rw [ec]; exact List.mem_cons_self))
          have so : sOk ⟨#[c]⟩ = true := by
            show (#[c].all fun c => decide (c < 0x110000)) = true
            rw [← Array.all_toList]
            show (decide (c < 0x110000) && true) = true
            rw [decide_eq_true (by omega)]; rfl
          refine (e2_ok (e2_ok (e2_ok (a := .lst ([w0, w1, w2].map .str)) (b := .int 2) rfl rfl rfl) rfl (s_ixS (z := w2) (k := 0) (c := c) m2.1 rfl (by rw [ec]; rfl))) rfl (s_neS (y := "0") so (by decide +kernel))).trans ?_
          congr 3
          rw [ec]
          refine decide_eq_decide.mpr ⟨fun z => ?_, fun z => ?_⟩
          · have : cs ⟨#[c]⟩ = cs "0" := congrArg cs z
            have : [c] = [48] := this
            rw [List.cons.inj this |>.1]; rfl
          · have : c = 48 := Option.some.inj z
            rw [this]; decide +kernel
    · rw [decide_eq_false e3] at s2
      exact seq_nx (if_f (bAnd_ok s1 fun _ => bAnd_ok (b := false) s2 fun z => Bool.noConfusion z) rfl) (rest (nohat (.inr e3)))
  · rw [decide_eq_false e0] at s1
    exact seq_nx (if_f (bAnd_ok (b := false) s1 fun z => Bool.noConfusion z) rfl) (rest (nohat (.inl e0)))
/-! the first fault of lines -/
def secW (ws : List Str) : Str := (ws.drop 1).headD ""
/-- a line's fault behind the hats N, the seers S: 0 no line, 1 twice, 2 unknown, 3 too many -/
def fltW (N S ws : List Str) : Option Nat :=
  if lineW ws = false then some 0
  else if hatW ws = true then (if secW ws ∈ N then some 1 else if N.length = 8 then some 3 else none)
  else if (twcW ws || decide (secW ws ∈ S)) = true then some 1 else if (ws.drop 1).all (fun w => decide (w ∈ N)) = false then some 2 else none
def nN (N ws : List Str) : List Str := if hatW ws = true then N ++ [secW ws] else N
def nS (S ws : List Str) : List Str := if hatW ws = true then S else S ++ [secW ws]
def firstW : List Str → List Str → List (List Str) → Nat → Option (Nat × Nat)
  | _, _, [], _ => none
  | N, S, ws :: r, k => match fltW N S ws with
    | some t => some (t, k)
    | none => firstW (nN N ws) (nS S ws) r (k + 1)
section
variable {g : D → Store → Option Store} {F : Store → Option O} {d : D} {ds : List D} {ρ ρ1 ρ2 : Store} {o : Option O}
theorem forD_nx (h1 : g d ρ = some ρ1) (h2 : F ρ1 = some (.nx ρ2)) (h3 : forD g F ds ρ2 = o) : forD g F (d :: ds) ρ = o := by
  show (match g d ρ with | none => none | some ρ1 => _) = _
  rw [h1]
  show (match F ρ1 with | some (.nx ρ2) => forD g F ds ρ2 | some (.ct ρ2) => forD g F ds ρ2 | some (.bk ρ2) => some (.nx ρ2) | o => o) = _
  rw [h2]; exact h3
theorem forD_rt {d' : D} (h1 : g d ρ = some ρ1) (h2 : F ρ1 = some (.rt d' ρ2)) : forD g F (d :: ds) ρ = some (.rt d' ρ2) := by
  show (match g d ρ with | none => none | some ρ1 => _) = _
  rw [h1]
  show (match F ρ1 with | some (.nx ρ2) => forD g F ds ρ2 | some (.ct ρ2) => forD g F ds ρ2 | some (.bk ρ2) => some (.nx ρ2) | o => o) = _
  rw [h2]
theorem forD_ex {t : Nat} {w : Option D} (h1 : g d ρ = some ρ1) (h2 : F ρ1 = some (.ex t w ρ2)) : forD g F (d :: ds) ρ = some (.ex t w ρ2) := by
  show (match g d ρ with | none => none | some ρ1 => _) = _
  rw [h1]
  show (match F ρ1 with | some (.nx ρ2) => forD g F ds ρ2 | some (.ct ρ2) => forD g F ds ρ2 | some (.bk ρ2) => some (.nx ρ2) | o => o) = _
  rw [h2]
end
theorem ups_cons (p n : Nat) : ups (p : Int) (n + 1) = .int (p : Int) :: ups ((p + 1 : Nat) : Int) n := by
  unfold ups
  rw [List.range_succ_eq_map, List.map_cons, List.map_map]
  refine congrArg (D.int (p : Int) :: ·) (List.map_congr_left fun i _ => ?_)
  show D.int ((p : Int) + ((i + 1 : Nat) : Int)) = _
  rw [show ((p : Int) + ((i + 1 : Nat) : Int)) = ((p + 1 : Nat) : Int) + (i : Int) by omega]
section
variable {f : Store → Option D} {ρ : Store} {ws : List Str}
theorem sec_ok (h : f ρ = some (.lst (ws.map .str))) (h1 : 1 < ws.length) : e2 gIx f (eC (.int 1)) ρ = some (.str (secW ws)) := by
  match ws, h1 with
  | w0 :: w1 :: r, _ => exact e2_ok h rfl (ix_strs (ns := w0 :: w1 :: r) (k := 1) rfl (by simp))
theorem twc_g (h : f ρ = some (.lst (ws.map .str))) (hn : ws ≠ []) (hw : okW ws) : tBo (e2 gLt (eLenSetS (eSl gSlL f (oSome (eC (.int 1))) oNone)) (e2 gSub (eCall gLen (aCons f aNil)) (eC (.int 1)))) ρ = some (twcW ws) := by
  have hl : 0 < ws.length := List.length_pos_iff.mpr hn
  refine tbo_ok (e2_ok (lenSetS_ok (slg 1 h) (by rw [List.length_drop]; have := hw.2; omega)) (e2_ok (wlg h) rfl rfl) (s_cmp.trans ?_))
  unfold twcW
  rw [decide_eq_decide.mpr (show ((metS (ws.drop 1) : Nat) : Int) < (ws.length : Int) - 1 ↔ metS (ws.drop 1) < ws.length - 1 by omega)]
end
theorem hatW_len {ws : List Str} (h : hatW ws = true) : 1 < ws.length ∧ headW ws = "hat" := by
  unfold hatW at h
  split at h
  · rename_i a b c
    rw [Bool.and_eq_true, Bool.and_eq_true] at h
    exact ⟨by show 1 < 3; decide, of_decide_eq_true h.1.1⟩
  · cases h
theorem badW_len {ws : List Str} (h : badW ws = false) : 2 < ws.length ∧ headW ws = "sees" := by
  unfold badW at h
  rw [Bool.or_eq_false_iff, Bool.or_eq_false_iff] at h
  obtain ⟨h1, h2, _⟩ := h
  have h2 := of_decide_eq_false h2
  refine ⟨by omega, ?_⟩
  cases e : decide (headW ws = "sees") with
  | true => exact of_decide_eq_true e
  | false => rw [e] at h1; cases h1
/-- one turn of the law's loop -/
theorem first_turn {T : List Str} {N S : List Str} {p : Nat} (hp : p < T.length) (hx : Ln T[p] 900) (hN : N.length ≤ 100) (hS : S.length ≤ 100) (hNo : ∀ w ∈ N, sOk w = true) (a4 a5 : Option D) :
    ∃ ρ', lp__law_first_7 [some (.lst (T.map .str)), some (.lst (N.map .str)), some (.lst (S.map .str)), some (.int (p : Nat)), a4, a5] = match fltW N S (wds T[p]) with
      | some t => some (.rt (.lst [.int (t : Nat), .int (p : Nat)]) ρ')
      | none => some (.nx [some (.lst (T.map .str)), some (.lst ((nN N (wds T[p])).map .str)), some (.lst ((nS S (wds T[p])).map .str)), some (.int (p : Nat)), some (.lst ((wds T[p]).map .str)), a5]) := by
  obtain ⟨hn, hw⟩ := wds_okW hx
  have il := is_line hx
  have gx : ∀ ρ : Store, eVar 0 ρ = some (.lst (T.map .str)) → eVar 3 ρ = some (.int (p : Nat)) → e2 gIx (eVar 0) (eVar 3) ρ = some (.str T[p]) := fun ρ h1 h2 => e2_ok h1 h2 (ix_strs rfl hp)
  obtain ⟨x, hxx⟩ : ∃ x, x = T[p] := ⟨_, rfl⟩
  obtain ⟨TD, hTD⟩ : ∃ TD : D, TD = .lst (T.map .str) := ⟨_, rfl⟩
  rw [← hTD] at gx ⊢
  rw [← hxx] at il gx hx hn hw ⊢
  clear hxx
  obtain ⟨ws, hws⟩ : ∃ ws, ws = wds x := ⟨_, rfl⟩
  have e1 := wds_split hx (gx [some TD, some (.lst (N.map .str)), some (.lst (S.map .str)), some (.int (p : Nat)), a4, a5] rfl rfl)
  rw [← hws] at il hn hw e1 ⊢
  have t1 : bNot (tBo (eCall (callF 1 [] sem__law_is_line) (aCons (e2 gIx (eVar 0) (eVar 3)) aNil))) [some TD, some (.lst (N.map .str)), some (.lst (S.map .str)), some (.int (p : Nat)), some (.lst (ws.map .str)), a5] = some (!lineW ws) := bNot_ok (tbo_ok (callF_ok (ds := [.str x]) (acons_ok (gx _ rfl rfl) anil_ok) rfl il))
  have lst2 : ∀ (t : Nat) (ρ : Store), eVar 3 ρ = some (.int (p : Nat)) → sRet 1 (eLst (aCons (eC (.int t)) (aCons (eVar 3) aNil))) ρ = some (.rt (.lst [.int (t : Nat), .int (p : Nat)]) ρ) := fun t ρ h => ret_ok (d := .lst [.int (t : Nat), .int (p : Nat)]) (elst_ok (acons_ok rfl (acons_ok h anil_ok)) (by show 2 ≤ 16777216; decide)) rfl
  unfold fltW
  cases el : lineW ws with
  | false =>
    rw [el] at t1
    exact ⟨_, seq_set e1 (seq_rt (if_t t1 (lst2 0 _ rfl)))⟩
  | true =>
    rw [el] at t1
    rw [if_neg (by decide)]
    have hd := tbo_ok (e2_ok (w0g (f := eVar 4) (ρ := [some TD, some (.lst (N.map .str)), some (.lst (S.map .str)), some (.int (p : Nat)), some (.lst (ws.map .str)), a5]) rfl hn) (f2 := eC (.str "hat")) rfl (s_eqS (hw.1 _ (head_mem hn)).2 (by decide +kernel)))
    cases eh : hatW ws with
    | true =>
      obtain ⟨l1, h0⟩ := hatW_len eh
      rw [if_pos rfl]
      rw [decide_eq_true h0] at hd
      have sc := sec_ok (f := eVar 4) (ρ := [some TD, some (.lst (N.map .str)), some (.lst (S.map .str)), some (.int (p : Nat)), some (.lst (ws.map .str)), a5]) rfl l1
      have t2 : tBo (e2 (gIn false) (e2 gIx (eVar 4) (eC (.int 1))) (eVar 1)) [some TD, some (.lst (N.map .str)), some (.lst (S.map .str)), some (.int (p : Nat)), some (.lst (ws.map .str)), a5] = some (decide (secW ws ∈ N)) := tbo_ok (e2_ok sc rfl s_inStrs)
      have t3 : tBo (e2 (gEq false) (eCall gLen (aCons (eVar 1) aNil)) (eC (.int 8))) [some TD, some (.lst (N.map .str)), some (.lst (S.map .str)), some (.int (p : Nat)), some (.lst (ws.map .str)), a5] = some (decide (N.length = 8)) := tbo_ok (e2_ok (wlg rfl) rfl (s_eq.trans (by rw [decide_eq_decide.mpr (show ((N.length : Int) = 8) ↔ N.length = 8 by omega)])))
      by_cases c1 : secW ws ∈ N
      · rw [decide_eq_true c1] at t2
        rw [if_pos c1]
        exact ⟨_, seq_set e1 (seq_nx (if_f t1 rfl) (if_t hd (seq_rt (if_t t2 (lst2 1 _ rfl)))))⟩
      · rw [decide_eq_false c1] at t2
        rw [if_neg c1]
        by_cases c2 : N.length = 8
        · rw [decide_eq_true c2] at t3
          rw [if_pos c2]
          exact ⟨_, seq_set e1 (seq_nx (if_f t1 rfl) (if_t hd (seq_nx (if_f t2 rfl) (seq_rt (if_t t3 (lst2 3 _ rfl))))))⟩
        · rw [decide_eq_false c2] at t3
          rw [if_neg c2]
          refine ⟨[], seq_set e1 (seq_nx (if_f t1 rfl) (if_t hd (seq_nx (if_f t2 rfl) (seq_nx (if_f t3 rfl) ((append_ok rfl sc (by rw [List.length_map]; omega)).trans ?_)))))⟩
          unfold nN nS
          rw [if_pos eh, if_pos eh, List.map_append]
          rfl
    | false =>
      have eb : badW ws = false := by
        unfold lineW at el
        rw [eh, Bool.false_or] at el
        cases e : badW ws with
        | false => rfl
        | true => rw [e] at el; cases el
      obtain ⟨l2, h0⟩ := badW_len eb
      rw [if_neg (by decide)]
      rw [decide_eq_false (by rw [h0]; decide +kernel)] at hd
      have sc := sec_ok (f := eVar 4) (ρ := [some TD, some (.lst (N.map .str)), some (.lst (S.map .str)), some (.int (p : Nat)), some (.lst (ws.map .str)), a5]) rfl (by omega)
      have t4 : bOr (tBo (e2 gLt (eLenSetS (eSl gSlL (eVar 4) (oSome (eC (.int 1))) oNone)) (e2 gSub (eCall gLen (aCons (eVar 4) aNil)) (eC (.int 1))))) (tBo (e2 (gIn false) (e2 gIx (eVar 4) (eC (.int 1))) (eVar 2))) [some TD, some (.lst (N.map .str)), some (.lst (S.map .str)), some (.int (p : Nat)), some (.lst (ws.map .str)), a5] = some (twcW ws || decide (secW ws ∈ S)) := bOr_ok (twc_g (f := eVar 4) (ρ := [some TD, some (.lst (N.map .str)), some (.lst (S.map .str)), some (.int (p : Nat)), some (.lst (ws.map .str)), a5]) rfl hn hw) fun _ => tbo_ok (e2_ok sc rfl s_inStrs)
      cases c1 : (twcW ws || decide (secW ws ∈ S)) with
      | true =>
        rw [if_pos rfl]
        exact ⟨_, seq_set e1 (seq_nx (if_f t1 rfl) (if_f hd (seq_rt (if_t (t4.trans (congrArg some c1)) (lst2 1 _ rfl)))))⟩
      | false =>
        rw [if_neg (by decide)]
        have sl := slg (f := eVar 4) (ρ := [some TD, some (.lst (N.map .str)), some (.lst (S.map .str)), some (.int (p : Nat)), some (.lst (ws.map .str)), a5]) 1 rfl
        have e5 : eLc [5] (iLst (eSl gSlL (eVar 4) (oSome (eC (.int 1))) oNone)) (gSet 5) (tBo (e2 (gIn true) (eVar 5) (eVar 1))) (eVar 5) [some TD, some (.lst (N.map .str)), some (.lst (S.map .str)), some (.int (p : Nat)), some (.lst (ws.map .str)), a5] = some (.lst (((ws.drop 1).filter fun w => !decide (w ∈ N)).map .str)) := lcA_map (k := D.str) (γ := fun w => [some TD, some (.lst (N.map .str)), some (.lst (S.map .str)), some (.int (p : Nat)), some (.lst (ws.map .str)), some (.str w)]) (iLst_ok sl) (by rw [List.length_drop]; have := hw.2; omega) fun w m => ⟨rfl, tbo_ok (e2_ok rfl rfl s_inStrs), fun _ => rfl⟩
        have t5 := tbo_ok (e2_ok e5 (f2 := eLst aNil) rfl (ne_nil ((lay_strs fun w m => (hw.1 w (List.mem_of_mem_drop (List.mem_filter.mp m |>.1))).2).okE (by decide))))
        have e6 : (!(((ws.drop 1).filter fun w => !decide (w ∈ N)).map D.str).isEmpty) = !(ws.drop 1).all (fun w => decide (w ∈ N)) := by
          congr 1
          rw [Bool.eq_iff_iff, List.isEmpty_iff, List.map_eq_nil_iff, List.filter_eq_nil_iff, List.all_eq_true]
          refine ⟨fun z w m => ?_, fun z w m => ?_⟩
          · have := z w m
            cases e : decide (w ∈ N)
            · rw [e] at this; exact absurd rfl this
            · rfl
          · rw [z w m]; decide
        rw [e6] at t5
        cases c2 : (ws.drop 1).all (fun w => decide (w ∈ N)) with
        | false =>
          rw [if_pos rfl]
          exact ⟨_, seq_set e1 (seq_nx (if_f t1 rfl) (if_f hd (seq_nx (if_f (t4.trans (congrArg some c1)) rfl) (seq_rt (if_t (t5.trans (by rw [c2]; rfl)) (lst2 2 _ rfl))))))⟩
        | true =>
          rw [if_neg (by decide)]
          refine ⟨[], seq_set e1 (seq_nx (if_f t1 rfl) (if_f hd (seq_nx (if_f (t4.trans (congrArg some c1)) rfl) (seq_nx (if_f (t5.trans (by rw [c2]; rfl)) rfl) ((append_ok rfl sc (by rw [List.length_map]; omega)).trans ?_)))))⟩
          unfold nN nS
          rw [if_neg (by rw [eh]; decide), if_neg (by rw [eh]; decide), List.map_append]
          rfl
theorem nN_len (N ws : List Str) : (nN N ws).length ≤ N.length + 1 := by unfold nN; split <;> simp
theorem nS_len (S ws : List Str) : (nS S ws).length ≤ S.length + 1 := by unfold nS; split <;> simp
theorem first_loop {T : List Str} (hT : ∀ x ∈ T, Ln x 900) (hl : T.length ≤ 50) : ∀ (n p : Nat) (N S : List Str), p + n = T.length → N.length ≤ p → S.length ≤ p → (∀ w ∈ N, sOk w = true) → ∀ a3 a4 a5, ∃ ρ', forD (gSet 3) lp__law_first_7 (ups (p : Int) n) [some (.lst (T.map .str)), some (.lst (N.map .str)), some (.lst (S.map .str)), a3, a4, a5] = match firstW N S ((T.drop p).map wds) p with
      | some (t, k) => some (.rt (.lst [.int (t : Nat), .int (k : Nat)]) ρ')
      | none => some (.nx ρ')
  | 0, p, N, S, e, hN, hS, hNo, a3, a4, a5 => by
    have ed : T.drop p = [] := List.drop_of_length_le (by omega)
    rw [ed]
    exact ⟨_, rfl⟩
  | n + 1, p, N, S, e, hN, hS, hNo, a3, a4, a5 => by
    have hp : p < T.length := by omega
    have ed : T.drop p = T[p] :: T.drop (p + 1) := List.drop_eq_getElem_cons hp
    have hx := hT T[p] (List.getElem_mem hp)
    obtain ⟨ρ', h⟩ := first_turn hp hx (N := N) (S := S) (by omega) (by omega) hNo a4 a5
    rw [ups_cons, ed, List.map_cons]
    show ∃ ρ', _ = match (match fltW N S (wds T[p]) with | some t => some (t, p) | none => firstW (nN N (wds T[p])) (nS S (wds T[p])) ((T.drop (p + 1)).map wds) (p + 1)) with
      | some (t, k) => some (O.rt (.lst [.int (t : Nat), .int (k : Nat)]) ρ')
      | none => some (.nx ρ')
    cases ef : fltW N S (wds T[p]) with
    | some t =>
      rw [ef] at h
      exact ⟨ρ', forD_rt rfl h⟩
    | none =>
      rw [ef] at h
      have hNo' : ∀ w ∈ nN N (wds T[p]), sOk w = true := fun w m => by
        unfold nN at m
        split at m
        · rename_i eh
          rcases List.mem_append.mp m with m | m
          · exact hNo w m
          · rw [List.mem_singleton.mp m]
            have l1 := (hatW_len eh).1
            obtain ⟨_, hw⟩ := wds_okW hx
            match e : wds T[p], l1 with
            | w0 :: w1 :: r, _ => exact (hw.1 w1 (by rw [e]; simp)).2
        · exact hNo w m
      obtain ⟨ρ'', h2⟩ := first_loop hT hl n (p + 1) (nN N (wds T[p])) (nS S (wds T[p])) (by omega) (by have := nN_len N (wds T[p]); omega) (by have := nS_len S (wds T[p]); omega) hNo' (some (.int (p : Nat))) (some (.lst ((wds T[p]).map .str))) a5
      exact ⟨ρ'', forD_nx rfl h h2⟩
def dueD : Option (Nat × Nat) → D
  | some (t, k) => .lst [.int (t : Nat), .int (k : Nat)]
  | none => .lst []
theorem first_ok {T : List Str} (hT : ∀ x ∈ T, Ln x 900) (hl : T.length ≤ 50) : sem__law_first [.lst (T.map .str)] = some (dueD (firstW [] [] (T.map wds) 0)) := by
  obtain ⟨ρ', h⟩ := first_loop hT hl T.length 0 [] [] (by omega) (by simp) (by simp) (fun w m => (nomatch m)) none none none
  have it : iR1 (aCons (eCall gLen (aCons (eVar 0) aNil)) aNil) [some (.lst (T.map .str)), some (.lst []), some (.lst []), none, none, none] = some (ups 0 T.length) := r1_nat (acons_ok (wlg rfl) anil_ok) (by omega)
  rw [List.drop_zero] at h
  cases ef : firstW [] [] (T.map wds) 0 with
  | some tk =>
    obtain ⟨t, k⟩ := tk
    rw [ef] at h
    exact fn0_ok (seq_set (d := .lst []) (elst_ok anil_ok (by decide)) (seq_set (d := .lst []) (elst_ok anil_ok (by decide)) (seq_rt (for_ok it h))))
  | none =>
    rw [ef] at h
    exact fn0_ok (seq_set (d := .lst []) (elst_ok anil_ok (by decide)) (seq_set (d := .lst []) (elst_ok anil_ok (by decide)) (seq_nx (for_ok it h) (ret_ok (d := .lst []) (elst_ok anil_ok (by decide)) rfl))))
/-! read_line, read_hat, read_sight, read_book, with their errors -/
section
variable {F G : Store → Option O} {ρ ρ1 : Store} {t : Nat} {w : Option D} {d : D} {o : Option O} {f : Store → Option D}
theorem seq_ex (h : F ρ = some (.ex t w ρ1)) : sSeq F G ρ = some (.ex t w ρ1) := by unfold sSeq; rw [h]
theorem raiseF_ok {i : Int} (h : f ρ = some (.int i)) : sRaiseF t f ρ = some (.ex t (some (.int i)) ρ) := by unfold sRaiseF; rw [h]
theorem fnY_rt {N : Nat} {ds : List D} (h : F (ds.map some ++ List.replicate (N - ds.length) none) = some (.rt d ρ1)) : fnY N F ds = some (.ret d) := by unfold fnY; rw [h]
theorem fnY_ex {N : Nat} {ds : List D} (h : F (ds.map some ++ List.replicate (N - ds.length) none) = some (.ex t w ρ1)) : fnY N F ds = some (.exc t w) := by unfold fnY; rw [h]
theorem fnZ_nx {N q : Nat} {ds : List D} (h : F (ds.map some ++ List.replicate (N - ds.length) none) = some (.nx ρ1)) (h1 : eVar q ρ1 = some d) (h2 : d.immB 1 = true) : fnZ q N F ds = some (.ret d) := by
  unfold fnZ
  rw [h]
  simp only [h1, h2, if_true]
theorem fnZ_ex {N q : Nat} {ds : List D} (h : F (ds.map some ++ List.replicate (N - ds.length) none) = some (.ex t w ρ1)) : fnZ q N F ds = some (.exc t w) := by unfold fnZ; rw [h]
theorem setY_ret {k n : Nat} {H : List D → Option R2} {fa : Store → Option (List D)} {ds : List D} (h1 : fa ρ = some ds) (h2 : ds.length = n) (h3 : H ds = some (.ret d)) : sSetY k n H fa ρ = some (.nx (ρ.set k (some d))) := by
  unfold sSetY
  simp only [h1, h3]
  exact if_pos h2
theorem setY_exc {k n : Nat} {H : List D → Option R2} {fa : Store → Option (List D)} {ds : List D} (h1 : fa ρ = some ds) (h2 : ds.length = n) (h3 : H ds = some (.exc t w)) : sSetY k n H fa ρ = some (.ex t w ρ) := by
  unfold sSetY
  simp only [h1, h3]
  exact if_pos h2
theorem callZ_ret {i n : Nat} {H : List D → Option R2} {fb fa : Store → Option (List D)} {bs ds : List D} {d0 : D} (h0 : fb ρ = some bs) (h1 : eVar i ρ = some d0) (h2 : fa ρ = some ds) (h3 : bs.length + (ds.length + 1) = n) (h4 : H (bs ++ d0 :: ds) = some (.ret d)) (h5 : ρ.set i (some d) = ρ1) : sCallZ i n H fb fa ρ = some (.nx ρ1) := by
  unfold sCallZ
  simp only [h0, h1, h2, h4, h5]
  exact if_pos h3
theorem callZ_exc {i n : Nat} {H : List D → Option R2} {fb fa : Store → Option (List D)} {bs ds : List D} {d0 : D} (h0 : fb ρ = some bs) (h1 : eVar i ρ = some d0) (h2 : fa ρ = some ds) (h3 : bs.length + (ds.length + 1) = n) (h4 : H (bs ++ d0 :: ds) = some (.exc t w)) : sCallZ i n H fb fa ρ = some (.ex t w (ρ.set i none)) := by
  unfold sCallZ
  simp only [h0, h1, h2, h4]
  exact if_pos h3
end
/-- what read_line tells of the words ws -/
def rlR (ws : List Str) (l : Int) : R2 := if hatW ws = true then .ret (hatD ws) else if badW ws = true then .exc 0 (some (.int l)) else if twcW ws = true then .exc 1 (some (.int l)) else .ret (seesD ws)
theorem read_line_y {x : Str} (hx : Ln x 900) (l : Int) : sem_read_line [.str x, .int l] = some (rlR (wds x) l) := by
  obtain ⟨hn, hw⟩ := wds_okW hx
  have e1 := wds_split (f := eVar 0) (ρ := [some (.str x), some (.int l), none]) hx rfl
  have i2 := if2_ok (t := .str x) (l := .int l) hn hw
  have a3 := t3_ok (t := .str x) (l := .int l) hn hw
  have a4 := t4_ok (t := .str x) (l := .int l) hn hw
  unfold rlR
  cases h1 : hatW (wds x) with
  | true =>
    rw [if_pos h1] at i2
    rw [if_pos rfl]
    exact fnY_rt (seq_set e1 (seq_rt i2))
  | false =>
    rw [if_neg (by rw [h1]; decide)] at i2
    rw [if_neg (by decide)]
    cases h2 : badW (wds x) with
    | true =>
      rw [h2] at a3
      rw [if_pos rfl]
      exact fnY_ex (seq_set e1 (seq_nx i2 (seq_ex (if_t a3 (raiseF_ok rfl)))))
    | false =>
      rw [h2] at a3
      rw [if_neg (by decide)]
      cases h3 : twcW (wds x) with
      | true =>
        rw [h3] at a4
        rw [if_pos rfl]
        exact fnY_ex (seq_set e1 (seq_nx i2 (seq_nx (if_f a3 rfl) (seq_ex (if_t a4 (raiseF_ok rfl))))))
      | false =>
        rw [h3] at a4
        rw [if_neg (by decide)]
        exact fnY_rt (seq_set e1 (seq_nx i2 (seq_nx (if_f a3 rfl) (seq_nx (if_f a4 rfl) (sees_ok h2)))))
theorem read_hat_y {ks : List L2.Key} {ds : List D} {nm : Str} {c l : Int} (h2 : ks.length < 1000) (hi : ∀ d ∈ ds, d.immB 0 = true) :
    sem_read_hat [.dct ks ds, .tup [.str "hat", .str nm, .int c], .int l] = some (if hasK (.inr nm) ks = true then .exc 1 (some (.int l)) else if ks.length = 8 then .exc 2 (some (.int l)) else .ret (.dct (ks ++ [.inr nm]) (ds ++ [.int c]))) := by
  have i1 : e2 gIx (eVar 1) (eC (.int 1)) [some (.dct ks ds), some (.tup [.str "hat", .str nm, .int c]), some (.int l)] = some (.str nm) := e2_ok rfl rfl rfl
  have i2 : e2 gIx (eVar 1) (eC (.int 2)) [some (.dct ks ds), some (.tup [.str "hat", .str nm, .int c]), some (.int l)] = some (.int c) := e2_ok rfl rfl rfl
  have t1 : tBo (e2 (gDInK false) (e2 gIx (eVar 1) (eC (.int 1))) (eVar 0)) [some (.dct ks ds), some (.tup [.str "hat", .str nm, .int c]), some (.int l)] = some (hasK (.inr nm) ks) := tbo_ok (e2_ok i1 rfl rfl)
  have t2 : tBo (e2 (gEq false) (eCall gLenD (aCons (eVar 0) aNil)) (eC (.int 8))) [some (.dct ks ds), some (.tup [.str "hat", .str nm, .int c]), some (.int l)] = some (decide (ks.length = 8)) := tbo_ok (e2_ok (a := .int ks.length) rfl rfl (s_eq.trans (by rw [decide_eq_decide.mpr (show ((ks.length : Int) = 8) ↔ ks.length = 8 by omega)])))
  by_cases c1 : hasK (.inr nm) ks = true
  · rw [c1] at t1
    rw [if_pos c1]
    exact fnZ_ex (seq_ex (if_t t1 (raiseF_ok rfl)))
  · have c1' : hasK (.inr nm) ks = false := by cases e : hasK (.inr nm) ks with | false => rfl | true => exact absurd e c1
    rw [c1'] at t1
    rw [if_neg c1]
    by_cases c2 : ks.length = 8
    · rw [decide_eq_true c2] at t2
      rw [if_pos c2]
      exact fnZ_ex (seq_nx (if_f t1 rfl) (seq_ex (if_t t2 (raiseF_ok rfl))))
    · rw [decide_eq_false c2] at t2
      rw [if_neg c2]
      refine fnZ_nx (ρ1 := [some (.dct (ks ++ [.inr nm]) (ds ++ [.int c])), some (.tup [.str "hat", .str nm, .int c]), some (.int l)]) (seq_nx (if_f t1 rfl) (seq_nx (if_f t2 rfl) (setDK_ok (kk := .inr nm) i2 rfl i1 rfl c1' (by omega) rfl))) rfl ?_
      show D.immBL 0 (ds ++ [.int c]) = true
      exact immBL_of fun d m => (List.mem_append.mp m).elim (hi d) fun m => by rw [List.mem_singleton.mp m]; rfl
theorem sight_loop {cks : List L2.Key} {cds : List D} {a1 : Option D} {T : D} {l : Int} : ∀ (xs : List Str) (a : Option D), ∃ ρ', forD (gSet 4) lp_read_sight_3 (xs.map .str) [some (.dct cks cds), a1, some T, some (.int l), a] = if (xs.all fun x => hasK (.inr x) cks) = true then some (.nx [some (.dct cks cds), a1, some T, some (.int l), ρ']) else some (.ex 3 (some (.int l)) [some (.dct cks cds), a1, some T, some (.int l), ρ'])
  | [], a => ⟨a, rfl⟩
  | x :: xs, a => by
    rw [List.map_cons, List.all_cons]
    have t : tBo (e2 (gDInK true) (eVar 4) (eVar 0)) [some (.dct cks cds), a1, some T, some (.int l), some (.str x)] = some (!hasK (.inr x) cks) := tbo_ok (e2_ok rfl rfl rfl)
    cases c : hasK (.inr x) cks with
    | true =>
      rw [c] at t
      rw [Bool.true_and]
      obtain ⟨ρ', h⟩ := sight_loop xs (some (.str x))
      exact ⟨ρ', forD_nx rfl (if_f t rfl) h⟩
    | false =>
      rw [c] at t
      rw [Bool.false_and]
      exact ⟨some (.str x), (forD_ex rfl (if_t t (raiseF_ok rfl))).trans (if_neg (by decide)).symm⟩
theorem read_sight_y {cks ks : List L2.Key} {cds ds : List D} {nm : Str} {S : List Str} {l : Int} (h2 : ks.length < 1000) (hS : S.length ≤ 1000) (hi : ∀ d ∈ ds, d.immB 0 = true) :
    sem_read_sight [.dct cks cds, .dct ks ds, .tup [.str "sees", .str nm, .tup (S.map .str)], .int l] = some (if hasK (.inr nm) ks = true then .exc 1 (some (.int l)) else if ((nm :: S).all fun x => hasK (.inr x) cks) = true then .ret (.dct (ks ++ [.inr nm]) (ds ++ [.tup (S.map .str)])) else .exc 3 (some (.int l))) := by
  obtain ⟨T, hT⟩ : ∃ T : D, T = .tup [.str "sees", .str nm, .tup (S.map .str)] := ⟨_, rfl⟩
  have i1 : ∀ a, e2 gIx (eVar 2) (eC (.int 1)) [some (.dct cks cds), some (.dct ks ds), some T, some (.int l), a] = some (.str nm) := fun a => by rw [hT]; exact e2_ok rfl rfl rfl
  have i2 : ∀ a, e2 gIx (eVar 2) (eC (.int 2)) [some (.dct cks cds), some (.dct ks ds), some T, some (.int l), a] = some (.tup (S.map .str)) := fun a => by rw [hT]; exact e2_ok rfl rfl rfl
  have s1 : eSl gSlT (eVar 2) (oSome (eC (.int 1))) (oSome (eC (.int 2))) [some (.dct cks cds), some (.dct ks ds), some T, some (.int l), none] = some (.tup [.str nm]) := by rw [hT]; rfl
  have t1 : tBo (e2 (gDInK false) (e2 gIx (eVar 2) (eC (.int 1))) (eVar 1)) [some (.dct cks cds), some (.dct ks ds), some T, some (.int l), none] = some (hasK (.inr nm) ks) := tbo_ok (e2_ok (i1 _) rfl rfl)
  have it : iTp (e2 gAdd (eSl gSlT (eVar 2) (oSome (eC (.int 1))) (oSome (eC (.int 2)))) (e2 gIx (eVar 2) (eC (.int 2)))) [some (.dct cks cds), some (.dct ks ds), some T, some (.int l), none] = some ((nm :: S).map .str) := iTp_ok (e2_ok s1 (i2 _) (addT_ok (by rw [List.length_map, List.length_singleton]; omega)))
  obtain ⟨a, hl⟩ := sight_loop (cks := cks) (cds := cds) (a1 := some (.dct ks ds)) (T := T) (l := l) (nm :: S) none
  rw [← hT]
  by_cases c1 : hasK (.inr nm) ks = true
  · rw [c1] at t1
    rw [if_pos c1]
    exact fnZ_ex (seq_ex (if_t t1 (raiseF_ok rfl)))
  · have c1' : hasK (.inr nm) ks = false := by cases e : hasK (.inr nm) ks with | false => rfl | true => exact absurd e c1
    rw [c1'] at t1
    rw [if_neg c1]
    by_cases c2 : ((nm :: S).all fun x => hasK (.inr x) cks) = true
    · rw [if_pos c2] at hl ⊢
      refine fnZ_nx (ρ1 := [some (.dct cks cds), some (.dct (ks ++ [.inr nm]) (ds ++ [.tup (S.map .str)])), some T, some (.int l), a]) (seq_nx (if_f t1 rfl) (seq_nx (for_ok it hl) (setDK_ok (kk := .inr nm) (i2 _) rfl (i1 _) rfl c1' (by omega) rfl))) rfl ?_
      show D.immBL 0 (ds ++ [.tup (S.map .str)]) = true
      exact immBL_of fun d m => (List.mem_append.mp m).elim (hi d) fun m => by rw [List.mem_singleton.mp m]; exact imm_strs S
    · rw [if_neg c2] at hl ⊢
      exact fnZ_ex (seq_nx (if_f t1 rfl) (seq_ex (for_ok it hl)))
/-! read_book: the first fault, or a tuple of three -/
def ptN : Nat → Nat
  | 2 => 3
  | 3 => 2
  | t => t
abbrev kS (N : List Str) : List L2.Key := N.map .inr
abbrev dC (C : List Int) : List D := C.map .int
abbrev dW (W : List (List Str)) : List D := W.map fun l => .tup (l.map .str)
def bkS (Xt LD : D) (N : List Str) (C : List Int) (S : List Str) (W : List (List Str)) (a4 a5 a6 : Option D) : Store := [some Xt, some LD, some (.dct (kS N) (dC C)), some (.dct (kS S) (dW W)), a4, a5, a6, none, none, none, none]
theorem hasK_kS {N : List Str} {x : Str} : hasK (.inr x) (kS N) = decide (x ∈ N) := by
  rw [Bool.eq_iff_iff, hasK_iff, decide_eq_true_eq, List.mem_map]
  exact ⟨fun ⟨y, my, e⟩ => by cases e; exact my, fun m => ⟨x, m, rfl⟩⟩
theorem hatD_eq {ws : List Str} (h : hatW ws = true) : ∃ c : Int, hatD ws = .tup [.str "hat", .str (secW ws), .int c] := by
  match ws, h with
  | [w0, w1, w2], _ => exact ⟨ctV w2, rfl⟩
theorem imm_dC (C : List Int) : ∀ d ∈ dC C, d.immB 0 = true := fun d m => by obtain ⟨c, _, rfl⟩ := List.mem_map.mp m; rfl
theorem imm_dW (W : List (List Str)) : ∀ d ∈ dW W, d.immB 0 = true := fun d m => by obtain ⟨l, _, rfl⟩ := List.mem_map.mp m; exact imm_strs l
theorem book_turn {Xt LD : D} {N S : List Str} {C : List Int} {W : List (List Str)} {x : Str} {p : Nat} (hx : Ln x 900) (hN : N.length ≤ 100) (hS : S.length ≤ 100) (a6 : Option D) :
    match fltW N S (wds x) with
    | some t => ∃ ρ', lp_read_book_3 (bkS Xt LD N C S W (some (.int (p : Nat))) (some (.str x)) a6) = some (.ex (ptN t) (some (.int (p : Nat))) ρ')
    | none => ∃ (C' : List Int) (W' : List (List Str)) (a6' : Option D), lp_read_book_3 (bkS Xt LD N C S W (some (.int (p : Nat))) (some (.str x)) a6) = some (.nx (bkS Xt LD (nN N (wds x)) C' (nS S (wds x)) W' (some (.int (p : Nat))) (some (.str x)) a6')) ∧
      (C.length = N.length → C'.length = (nN N (wds x)).length) ∧ (W.length = S.length → W'.length = (nS S (wds x)).length) ∧ ∀ l ∈ W', l ∈ W ∨ (l.length ≤ 1000 ∧ ∀ w ∈ l, w ∈ N) := by
  obtain ⟨hn, hw⟩ := wds_okW hx
  have rl := read_line_y hx (p : Int)
  obtain ⟨ws, hws⟩ : ∃ ws, ws = wds x := ⟨_, rfl⟩
  rw [← hws] at rl hn hw ⊢
  have aa : aCons (eVar 5) (aCons (eVar 4) aNil) (bkS Xt LD N C S W (some (.int (p : Nat))) (some (.str x)) a6) = some [.str x, .int (p : Nat)] := rfl
  unfold fltW lineW
  unfold rlR at rl
  cases h1 : hatW ws with
  | true =>
    obtain ⟨c, ec⟩ := hatD_eq h1
    rw [h1, if_pos rfl, ec] at rl
    rw [Bool.true_or, if_neg (by decide), if_pos rfl]
    have s1 := setY_ret (k := 6) (n := 2) (ρ := bkS Xt LD N C S W (some (.int (p : Nat))) (some (.str x)) a6) aa rfl rl
    have t1 : tBo (e2 (gEq false) (e2 gIx (eVar 6) (eC (.int 0))) (eC (.str "hat"))) (bkS Xt LD N C S W (some (.int (p : Nat))) (some (.str x)) (some (.tup [.str "hat", .str (secW ws), .int c]))) = some true := tbo_ok (e2_ok (a := .str "hat") rfl rfl ((s_eqS (by decide +kernel) (by decide +kernel)).trans (by rw [decide_eq_true rfl])))
    have rh := read_hat_y (ks := kS N) (ds := dC C) (nm := secW ws) (c := c) (l := (p : Int)) (by rw [List.length_map]; omega) (imm_dC C)
    rw [hasK_kS, List.length_map] at rh
    by_cases c1 : secW ws ∈ N
    · rw [if_pos (decide_eq_true c1)] at rh
      rw [if_pos c1]
      exact ⟨_, seq_nx s1 (if_t t1 (callZ_exc rfl rfl rfl rfl rh))⟩
    · rw [if_neg (by rw [decide_eq_false c1]; decide)] at rh
      rw [if_neg c1]
      by_cases c2 : N.length = 8
      · rw [if_pos c2] at rh
        rw [if_pos c2]
        exact ⟨_, seq_nx s1 (if_t t1 (callZ_exc rfl rfl rfl rfl rh))⟩
      · rw [if_neg c2] at rh
        rw [if_neg c2]
        refine ⟨C ++ [c], W, some (.tup [.str "hat", .str (secW ws), .int c]), seq_nx s1 (if_t t1 (callZ_ret rfl rfl rfl rfl rh ?_)), fun e => ?_, fun e => ?_, fun l m => .inl m⟩
        · unfold nN nS
          rw [if_pos h1, if_pos h1]
          unfold bkS kS dC
          rw [List.map_append, List.map_append]
          rfl
        · unfold nN; rw [if_pos h1, List.length_append, List.length_append, e]; rfl
        · unfold nS; rw [if_pos h1]; exact e
  | false =>
    rw [h1, if_neg (by decide)] at rl
    rw [Bool.false_or]
    cases h2 : badW ws with
    | true =>
      rw [h2, if_pos rfl] at rl
      exact ⟨_, seq_ex (setY_exc aa rfl rl)⟩
    | false =>
      rw [h2, if_neg (by decide)] at rl
      rw [if_neg (by decide), if_neg (by decide)]
      cases h3 : twcW ws with
      | true =>
        rw [h3, if_pos rfl] at rl
        exact ⟨_, seq_ex (setY_exc aa rfl rl)⟩
      | false =>
        rw [h3, if_neg (by decide)] at rl
        rw [Bool.false_or]
        obtain ⟨l2, h0⟩ := badW_len h2
        have es : seesD ws = .tup [.str "sees", .str (secW ws), .tup ((ws.drop 2).map .str)] := rfl
        rw [es] at rl
        have s1 := setY_ret (k := 6) (n := 2) (ρ := bkS Xt LD N C S W (some (.int (p : Nat))) (some (.str x)) a6) aa rfl rl
        have t1 : tBo (e2 (gEq false) (e2 gIx (eVar 6) (eC (.int 0))) (eC (.str "hat"))) (bkS Xt LD N C S W (some (.int (p : Nat))) (some (.str x)) (some (.tup [.str "sees", .str (secW ws), .tup ((ws.drop 2).map .str)]))) = some false := tbo_ok (e2_ok (a := .str "sees") rfl rfl ((s_eqS (by decide +kernel) (by decide +kernel)).trans (by rw [decide_eq_false (by decide +kernel)])))
        have d1 : ws.drop 1 = secW ws :: ws.drop 2 := by
          match ws, l2 with
          | w0 :: w1 :: r, _ => rfl
        have rs := read_sight_y (cks := kS N) (cds := dC C) (ks := kS S) (ds := dW W) (nm := secW ws) (S := ws.drop 2) (l := (p : Int)) (by rw [List.length_map]; omega) (by rw [List.length_drop]; have := hw.2; omega) (imm_dW W)
        rw [hasK_kS, ← d1] at rs
        have ea : ((ws.drop 1).all fun x => hasK (.inr x) (kS N)) = (ws.drop 1).all fun w => decide (w ∈ N) := congrArg (fun q => (ws.drop 1).all q) (funext fun w => hasK_kS)
        rw [ea] at rs
        by_cases c1 : secW ws ∈ S
        · rw [if_pos (decide_eq_true c1)] at rs
          rw [if_pos (decide_eq_true c1)]
          exact ⟨_, seq_nx s1 (if_f t1 (callZ_exc rfl rfl rfl rfl rs))⟩
        · rw [if_neg (by rw [decide_eq_false c1]; decide)] at rs
          rw [if_neg (by rw [decide_eq_false c1]; decide)]
          cases c2 : (ws.drop 1).all (fun w => decide (w ∈ N)) with
          | false =>
            rw [c2, if_neg (by decide)] at rs
            rw [if_pos rfl]
            exact ⟨_, seq_nx s1 (if_f t1 (callZ_exc rfl rfl rfl rfl rs))⟩
          | true =>
            rw [c2, if_pos rfl] at rs
            rw [if_neg (by decide)]
            refine ⟨C, W ++ [ws.drop 2], some (.tup [.str "sees", .str (secW ws), .tup ((ws.drop 2).map .str)]), seq_nx s1 (if_f t1 (callZ_ret rfl rfl rfl rfl rs ?_)), fun e => ?_, fun e => ?_, fun l m => ?_⟩
            · unfold nN nS
              rw [if_neg (by rw [h1]; decide), if_neg (by rw [h1]; decide)]
              unfold bkS kS dW
              rw [List.map_append, List.map_append]
              rfl
            · unfold nN; rw [if_neg (by rw [h1]; decide)]; exact e
            · unfold nS; rw [if_neg (by rw [h1]; decide), List.length_append, List.length_append, e]; rfl
            · rcases List.mem_append.mp m with m | m
              · exact .inl m
              · rw [List.mem_singleton.mp m]
                refine .inr ⟨by rw [List.length_drop]; have := hw.2; omega, fun w mw => ?_⟩
                have := List.all_eq_true.mp c2 w (by rw [d1]; exact List.mem_cons_of_mem _ mw)
                exact of_decide_eq_true this
theorem nN_sub {N ws : List Str} {w : Str} (h : w ∈ N) : w ∈ nN N ws := by
  unfold nN
  split
  · exact List.mem_append_left _ h
  · exact h
theorem book_loop {Xt LD : D} : ∀ (r : List Str) (p : Nat) (N S : List Str) (C : List Int) (W : List (List Str)), (∀ x ∈ r, Ln x 900) → p + r.length ≤ 50 → C.length = N.length → W.length = S.length → N.length ≤ p → S.length ≤ p → (∀ l ∈ W, l.length ≤ 1000 ∧ ∀ w ∈ l, w ∈ N) → ∀ a4 a5 a6,
    match firstW N S (r.map wds) p with
    | some (t, k) => ∃ ρ', forD (gSet2 4 5) lp_read_book_3 (enm p (r.map .str)) (bkS Xt LD N C S W a4 a5 a6) = some (.ex (ptN t) (some (.int (k : Nat))) ρ')
    | none => ∃ (N' S' : List Str) (C' : List Int) (W' : List (List Str)) (a4' a5' a6' : Option D), forD (gSet2 4 5) lp_read_book_3 (enm p (r.map .str)) (bkS Xt LD N C S W a4 a5 a6) = some (.nx (bkS Xt LD N' C' S' W' a4' a5' a6')) ∧ C'.length = N'.length ∧ W'.length = S'.length ∧ N'.length ≤ 50 ∧ ∀ l ∈ W', l.length ≤ 1000 ∧ ∀ w ∈ l, w ∈ N'
  | [], p, N, S, C, W, _, hp, h1, h2, h3, h4, h5, a4, a5, a6 => ⟨N, S, C, W, a4, a5, a6, rfl, h1, h2, by omega, h5⟩
  | x :: r, p, N, S, C, W, hr, hp, h1, h2, h3, h4, h5, a4, a5, a6 => by
    have hp : p + (r.length + 1) ≤ 50 := hp
    have bt := book_turn (Xt := Xt) (LD := LD) (N := N) (S := S) (C := C) (W := W) (p := p) (hr x List.mem_cons_self) (by omega) (by omega) a6
    show match (match fltW N S (wds x) with | some t => some (t, p) | none => firstW (nN N (wds x)) (nS S (wds x)) (r.map wds) (p + 1)) with
      | some (t, k) => _
      | none => _
    cases ef : fltW N S (wds x) with
    | some t =>
      rw [ef] at bt
      obtain ⟨ρ', h⟩ := bt
      exact ⟨ρ', forD_ex rfl h⟩
    | none =>
      rw [ef] at bt
      obtain ⟨C', W', a6', h, q1, q2, q3⟩ := bt
      have ih := book_loop (Xt := Xt) (LD := LD) r (p + 1) (nN N (wds x)) (nS S (wds x)) C' W' (fun y m => hr y (List.mem_cons_of_mem _ m)) (by omega) (q1 h1) (q2 h2) (by have := nN_len N (wds x); omega) (by have := nS_len S (wds x); omega) (fun l m => by
        rcases q3 l m with m | m
        · exact ⟨(h5 l m).1, fun w mw => nN_sub ((h5 l m).2 w mw)⟩
        · exact ⟨m.1, fun w mw => nN_sub (m.2 w mw)⟩) (some (.int (p : Nat))) (some (.str x)) a6'
      cases ef2 : firstW (nN N (wds x)) (nS S (wds x)) (r.map wds) (p + 1) with
      | some tk =>
        obtain ⟨t, k⟩ := tk
        rw [ef2] at ih
        obtain ⟨ρ', h'⟩ := ih
        exact ⟨ρ', forD_nx rfl h h'⟩
      | none =>
        rw [ef2] at ih
        obtain ⟨N', S', C'', W'', b4, b5, b6, h', r1, r2, r3, r4⟩ := ih
        exact ⟨N', S', C'', W'', b4, b5, b6, forD_nx rfl h h', r1, r2, r3, r4⟩
theorem look_kS {W : List (List Str)} {x : Str} : ∀ (S : List Str) (W : List (List Str)), (∃ l ∈ W, lookD (kS S) (dW W) (.inr x) = some (.tup (l.map .str))) ∨ lookD (kS S) (dW W) (.inr x) = none
  | [], _ => .inr (by unfold kS; rw [List.map_nil, lookD]; simp)
  | s :: S, [] => .inr (by unfold dW; rw [List.map_nil, lookD]; simp)
  | s :: S, l :: W => by
    show (∃ l' ∈ l :: W, lookD (.inr s :: kS S) (.tup (l.map .str) :: dW W) (.inr x) = some (.tup (l'.map .str))) ∨ lookD (.inr s :: kS S) (.tup (l.map .str) :: dW W) (.inr x) = none
    rw [lookD]
    by_cases e : (Sum.inr s : L2.Key) = .inr x
    · rw [if_pos e]; exact .inl ⟨l, List.mem_cons_self, rfl⟩
    · rw [if_neg e]
      rcases look_kS (W := W) S W with ⟨l', m, h⟩ | h
      · exact .inl ⟨l', List.mem_cons_of_mem _ m, h⟩
      · exact .inr h
noncomputable def ixF (N : List Str) (w : Str) : Nat := by
  classical
  exact if h : w ∈ N then Classical.choose (idx_first h) else 0
theorem ixF_ok {N : List Str} {w : Str} (h : w ∈ N) : ixF N w < N.length ∧ gIdx (.lst (N.map .str)) (.str w) = some (.int (ixF N w : Nat)) := by
  unfold ixF
  rw [dif_pos h]
  obtain ⟨h1, _, h2⟩ := Classical.choose_spec (idx_first h)
  exact ⟨h1, h2⟩
theorem imm_ints : ∀ l : List Int, D.immL (l.map .int) = true := fun l => by
  induction l with
  | nil => rfl
  | cons x xs ih => exact ih
theorem web_turnF {N S : List Str} {W : List (List Str)} (hN : N.length ≤ 50) (hW : ∀ l ∈ W, l.length ≤ 1000 ∧ ∀ w ∈ l, w ∈ N) {n : Str} (V : List Int) (hV : V.length ≤ 100) (a0 a1 a2 a4 a5 a6 a10 : Option D) :
    ∃ v : Int, lp_read_book_4 [a0, a1, a2, some (.dct (kS S) (dW W)), a4, a5, a6, some (.lst (N.map .str)), some (.lst (V.map .int)), some (.str n), a10] = some (.nx [a0, a1, a2, some (.dct (kS S) (dW W)), a4, a5, a6, some (.lst (N.map .str)), some (.lst ((V ++ [v]).map .int)), some (.str n), a10]) := by
  obtain ⟨ρ, hρ⟩ : ∃ ρ : Store, ρ = [a0, a1, a2, some (.dct (kS S) (dW W)), a4, a5, a6, some (.lst (N.map .str)), some (.lst (V.map .int)), some (.str n), a10] := ⟨_, rfl⟩
  have v3 : eVar 3 ρ = some (.dct (kS S) (dW W)) := by rw [hρ]; rfl
  have v9 : eVar 9 ρ = some (.str n) := by rw [hρ]; rfl
  have et : eTup aNil ρ = some (.tup []) := etup_ok anil_ok (by decide)
  obtain ⟨l, l1, l2, es⟩ : ∃ l : List Str, l.length ≤ 1000 ∧ (∀ w ∈ l, w ∈ N) ∧ eDGet (eVar 3) (eVar 9) (eTup aNil) ρ = some (.tup (l.map .str)) := by
    rcases look_kS (W := W) (x := n) S W with ⟨l, m, h⟩ | h
    · refine ⟨l, (hW l m).1, (hW l m).2, ?_⟩
      unfold eDGet
      simp only [v3, v9, keyD, et, h]
    · refine ⟨[], by show 0 ≤ 1000; decide, fun w m => (nomatch m), ?_⟩
      unfold eDGet
      simp only [v3, v9, keyD, et, h]
      rfl
  have lc : eLc [10] (iTp (eDGet (eVar 3) (eVar 9) (eTup aNil))) (gSet 10) bYes (e2 gShl (eC (.int 1)) (e2 gIdx (eVar 7) (eVar 10))) ρ = some (.lst ((l.map fun w => ((2 ^ ixF N w : Nat) : Int)).map .int)) := by
    refine lcI_all (k := D.str) (xs := l) (γ := fun w => [a0, a1, a2, some (.dct (kS S) (dW W)), a4, a5, a6, some (.lst (N.map .str)), some (.lst (V.map .int)), some (.str n), some (.str w)]) (iTp_ok es) (by omega) fun w mw => ⟨by rw [hρ]; rfl, rfl, ?_⟩
    obtain ⟨h1, h2⟩ := ixF_ok (l2 w mw)
    exact e2_ok rfl (e2_ok rfl rfl h2) (sh1 _ (by omega))
  rw [← hρ]
  refine ⟨(l.map fun w => ((2 ^ ixF N w : Nat) : Int)).sum, (append_ok (d := .int (l.map fun w => ((2 ^ ixF N w : Nat) : Int)).sum) (ds := V.map .int) (by rw [hρ]; rfl) (clr_ok (sum_ok lc) s_immI) (by rw [List.length_map]; omega)).trans ?_⟩
  rw [hρ, List.map_append]; rfl
theorem book_ok {x : Str} {L : List Str} (hx : sOk x = true) (hl : x.length + 2 ≤ 16777216) (hL : (x = "" ∧ L = []) ∨ (x ≠ "" ∧ Txt.split x "\n" = L)) (hT : ∀ y ∈ L, Ln y 900) (h50 : L.length ≤ 50) :
    match firstW [] [] (L.map wds) 0 with
    | some (t, k) => sem_read_book [.str x] = some (.exc (ptN t) (some (.int (k : Nat))))
    | none => ∃ a b c : D, sem_read_book [.str x] = some (.ret (.tup [a, b, c])) := by
  have t1 : tBo (e2 (gEq true) (eVar 0) (eC (.str ""))) [some (.str x), some (.lst []), none, none, none, none, none, none, none, none, none] = some (!decide (x = "")) := tbo_ok (e2_ok rfl rfl (s_neS hx (by decide +kernel)))
  have e1 : if_read_book_1 [some (.str x), some (.lst []), none, none, none, none, none, none, none, none, none] = some (.nx [some (.str x), some (.lst (L.map .str)), none, none, none, none, none, none, none, none, none]) := by
    rcases hL with ⟨h, rfl⟩ | ⟨h, h2⟩
    · rw [decide_eq_true h] at t1
      exact if_f t1 rfl
    · rw [decide_eq_false h] at t1
      exact if_t t1 (set_ok (e2_ok rfl rfl ((s_splitN hl).trans (by rw [h2]))))
  have bl := book_loop (Xt := .str x) (LD := .lst (L.map .str)) L 0 [] [] [] [] hT (by omega) rfl rfl (Nat.le_refl _) (Nat.le_refl _) (fun l m => (nomatch m)) none none none
  have it : iEnmL (eVar 1) (bkS (.str x) (.lst (L.map .str)) [] [] [] [] none none none) = some (enm 0 (L.map .str)) := rfl
  have pre : ∀ {o : Option O}, sSeq (sFor (iEnmL (eVar 1)) (gSet2 4 5) lp_read_book_3) (sSeq (sSet 7 (eClr 1 (eCall gListD (aCons (eVar 2) aNil)))) (sSeq (sSet 8 (eLst aNil)) (sSeq (sFor (iLst (eVar 7)) (gSet 9) lp_read_book_4) (sRet 0 (eTup (aCons (eCall gTuple (aCons (eVar 7) aNil)) (aCons (eTupVals (eVar 2)) (aCons (eCall gTuple (aCons (eVar 8) aNil)) aNil)))))))) (bkS (.str x) (.lst (L.map .str)) [] [] [] [] none none none) = o → body_read_book [some (.str x), none, none, none, none, none, none, none, none, none, none] = o := fun {o} h =>
    seq_set (d := .lst []) (elst_ok anil_ok (by decide)) (seq_nx e1 (seq_set (d := .dct [] []) rfl (seq_set (d := .dct [] []) rfl h)))
  cases ef : firstW [] [] (L.map wds) 0 with
  | some tk =>
    obtain ⟨t, k⟩ := tk
    rw [ef] at bl
    obtain ⟨ρ', h⟩ := bl
    exact fnY_ex (pre (seq_ex (for_ok it h)))
  | none =>
    rw [ef] at bl
    obtain ⟨N, S, C, W, a4, a5, a6, hf, h1, h2, h3, h4⟩ := bl
    obtain ⟨ρ', hg, V, a9, hV, rfl⟩ := forD_inv (g := gSet 9) (F := lp_read_book_4) (k := D.str) (xs := N)
      (fun p ρ => ∃ (V : List Int) (a9 : Option D), V.length = p ∧ ρ = [some (.str x), some (.lst (L.map .str)), some (.dct (kS N) (dC C)), some (.dct (kS S) (dW W)), a4, a5, a6, some (.lst (N.map .str)), some (.lst (V.map .int)), a9, none])
      (fun p hp ρ q => by
        obtain ⟨V, a9, hV, rfl⟩ := q
        obtain ⟨v, h⟩ := web_turnF (S := S) h3 h4 (n := N[p]) V (by omega) (some (.str x)) (some (.lst (L.map .str))) (some (.dct (kS N) (dC C))) a4 a5 a6 none
        exact ⟨_, _, rfl, .inl h, V ++ [v], some (.str N[p]), by rw [List.length_append, hV]; rfl, rfl⟩)
      (ρ := [some (.str x), some (.lst (L.map .str)), some (.dct (kS N) (dC C)), some (.dct (kS S) (dW W)), a4, a5, a6, some (.lst (N.map .str)), some (.lst []), none, none]) ⟨[], none, rfl, rfl⟩
    have nmi : (D.lst (N.map .str)).immB 1 = true := by
      show D.immBL 0 (N.map .str) = true
      exact immBL_of fun d m => by obtain ⟨w, _, rfl⟩ := List.mem_map.mp m; rfl
    have ek : (kS N).map kD = N.map .str := by unfold kS; rw [List.map_map]; rfl
    have im : D.immL (dC C) = true := imm_ints C
    refine ⟨.tup (N.map .str), .tup (dC C), .tup (V.map .int), fnY_rt (pre (seq_nx (for_ok it hf) (seq_set (d := .lst (N.map .str)) (clr_ok (call_ok (acons_ok rfl anil_ok) (by show some (D.lst ((kS N).map kD)) = _; rw [ek])) nmi) (seq_set (d := .lst []) (elst_ok anil_ok (by decide)) (seq_nx (for_ok (iLst_ok rfl) hg) (ret_ok (d := .tup [.tup (N.map .str), .tup (dC C), .tup (V.map .int)]) (etup_ok (acons_ok (tuple_ok rfl) (acons_ok (d := .tup (dC C)) rfl (acons_ok (tuple_ok rfl) anil_ok))) (by show 3 ≤ 16777216; decide)) ?_))))))⟩
    show (D.immL (N.map .str) && (D.immL (dC C) && (D.immL (V.map .int) && true))) = true
    rw [imm_strs, im, imm_ints]; rfl
/-! _law_right -/
theorem ne_selfF {d : D} {m : Nat} (h : Lay d m) (hm : m ≤ 64) : gEq true d d = some (.bl false) := gNe_ok (h.okE hm) (h.okE hm) (eqv_rfl d h.data)
def KB (t : Nat) : List Bool := [decide (0 = t), decide (1 = t), decide (2 = t), decide (3 = t), true, true]
theorem sg_ok {a0 a1 a3 a4 a6 : Option D} {w : Int} : ∀ t, t < 4 → ptN t < 4 ∧ sg__law_right_2 (ptN t) w [a0, a1, none, a3, a4, none, a6] = some [a0, a1, some (.lst ((KB t).map .bl)), some (.int w), a4, none, a6]
  | 0, _ => ⟨by decide, rfl⟩
  | 1, _ => ⟨by decide, rfl⟩
  | 2, _ => ⟨by decide, rfl⟩
  | 3, _ => ⟨by decide, rfl⟩
  | n + 4, h => absurd h (by omega)
theorem right_none {x : Str} {a b c : D} (h : sem_read_book [.str x] = some (.ret (.tup [a, b, c]))) : sem__law_right [.str x, .lst []] = some (.bl true) := by
  have tb : tb__law_right_1 [some (.str x), some (.lst []), some (.lst []), some (.int 0), some .non, none, none] = some (.nx [some (.str x), some (.lst []), some (.lst []), some (.int 0), some (.tup [a, b, c]), none, none]) := setY_ret rfl rfl h
  have ty : sTryF 5 2 4 7 tb__law_right_1 sg__law_right_2 [some (.str x), some (.lst []), some (.lst []), some (.int 0), some .non, none, none] = some (.nx [some (.str x), some (.lst []), some (.lst []), some (.int 0), some (.tup [a, b, c]), none, none]) := by
    unfold sTryF
    rw [tb]
  have e0 : gEq false (.lst []) (.lst []) = some (.bl true) := eq_nil okE_nil
  refine fn0_ok (seq_set (d := .lst []) (elst_ok anil_ok (by decide)) (seq_set (d := .int 0) rfl (seq_set (d := .non) rfl (seq_nx ty (seq_rt (if_t (tbo_ok (e2_ok rfl rfl e0)) (ret_ok (d := .bl true) (eand_ok (a := true) (b := true) (e2_ok rfl rfl e0) fun _ => eand_ok (a := true) (b := true) rfl fun _ => e2_ok (call_ok (acons_ok rfl anil_ok) s_lenT) rfl s_eq) rfl)))))))
theorem right_exc {x : Str} {t k : Nat} (ht : t < 4) (h : sem_read_book [.str x] = some (.exc (ptN t) (some (.int (k : Nat))))) : sem__law_right [.str x, .lst [.int (t : Nat), .int (k : Nat)]] = some (.bl true) := by
  obtain ⟨DU, hDU⟩ : ∃ DU : D, DU = .lst [.int (t : Nat), .int (k : Nat)] := ⟨_, rfl⟩
  rw [← hDU]
  have d0 : gIx DU (.int 0) = some (.int (t : Nat)) := by rw [hDU]; rfl
  have d1 : gIx DU (.int 1) = some (.int (k : Nat)) := by rw [hDU]; rfl
  have dn : gEq false DU (.lst []) = some (.bl false) := by
    rw [hDU]
    have := eq_iln (xs := [(t : Int), (k : Int)])
    exact this
  have tb : tb__law_right_1 [some (.str x), some DU, some (.lst []), some (.int 0), some .non, none, none] = some (.ex (ptN t) (some (.int (k : Nat))) [some (.str x), some DU, some (.lst []), some (.int 0), some .non, none, none]) := setY_exc rfl rfl h
  obtain ⟨lt, sg⟩ := sg_ok (a0 := some (.str x)) (a1 := some DU) (a3 := some (.int 0)) (a4 := some .non) (a6 := none) (w := (k : Int)) t ht
  have ty : sTryF 5 2 4 7 tb__law_right_1 sg__law_right_2 [some (.str x), some DU, some (.lst []), some (.int 0), some .non, none, none] = some (.nx [some (.str x), some DU, some (.lst ((KB t).map .bl)), some (.int (k : Nat)), some .non, none, none]) := by
    unfold sTryF
    rw [tb]
    show (if ptN t < 4 ∧ 7 ≤ 7 then (match sg__law_right_2 (ptN t) (k : Int) [some (.str x), some DU, none, some (.int 0), some .non, none, none] with | some ρ2 => some (O.nx (ρ2.set 5 none)) | none => none) else none) = _
    rw [if_pos ⟨lt, Nat.le_refl _⟩, sg]
    rfl
  have lc : eLc [6] (iR1 (aCons (eC (.int 4)) aNil)) (gSet 6) bYes (e2 (gEq false) (eVar 6) (e2 gIx (eVar 1) (eC (.int 0)))) [some (.str x), some DU, some (.lst ((KB t).map .bl)), some (.int (k : Nat)), some .non, none, none] = some (.lst ((List.range 4).map fun i : Nat => D.bl (decide ((i : Int) = (t : Int))))) :=
    lcA_rng (n := 4) (γ := fun i => [some (.str x), some DU, some (.lst ((KB t).map .bl)), some (.int (k : Nat)), some .non, none, some (.int (i : Nat))]) (r1_nat (n := 4) rfl (by decide)) (by decide) fun i hi => ⟨rfl, rfl, e2_ok rfl (e2_ok rfl rfl d0) s_eq⟩
  have ek : ((List.range 4).map fun i : Nat => D.bl (decide ((i : Int) = (t : Int)))) ++ [D.bl true, D.bl true] = (KB t).map .bl := by
    show [D.bl (decide (((0 : Nat) : Int) = (t : Int))), D.bl (decide (((1 : Nat) : Int) = (t : Int))), D.bl (decide (((2 : Nat) : Int) = (t : Int))), D.bl (decide (((3 : Nat) : Int) = (t : Int)))] ++ [D.bl true, D.bl true] = [D.bl (decide (0 = t)), D.bl (decide (1 = t)), D.bl (decide (2 = t)), D.bl (decide (3 = t)), D.bl true, D.bl true]
    simp only [Int.natCast_inj]
    rfl
  have sm : e2 gAdd (eLc [6] (iR1 (aCons (eC (.int 4)) aNil)) (gSet 6) bYes (e2 (gEq false) (eVar 6) (e2 gIx (eVar 1) (eC (.int 0))))) (eLst (aCons (eC (.bl true)) (aCons (eC (.bl true)) aNil))) [some (.str x), some DU, some (.lst ((KB t).map .bl)), some (.int (k : Nat)), some .non, none, none] = some (.lst ((KB t).map .bl)) := by
    rw [← ek]
    exact e2_ok lc (elst_ok (ds := [.bl true, .bl true]) rfl (by decide)) (addL_ok (by simp))
  have lay : Lay (.lst ((KB t).map .bl)) 1 := Lay.lst (m := 0) fun _ _ => .bl
  have t3 : bOr (tBo (e2 (gEq true) (eVar 2) (e2 gAdd (eLc [6] (iR1 (aCons (eC (.int 4)) aNil)) (gSet 6) bYes (e2 (gEq false) (eVar 6) (e2 gIx (eVar 1) (eC (.int 0))))) (eLst (aCons (eC (.bl true)) (aCons (eC (.bl true)) aNil)))))) (tBo (eIsT "bool" (eVar 3))) [some (.str x), some DU, some (.lst ((KB t).map .bl)), some (.int (k : Nat)), some .non, none, none] = some false :=
    bOr_ok (a := false) (tbo_ok (e2_ok rfl sm (ne_selfF lay (by decide)))) fun _ => tbo_ok rfl
  refine fn0_ok (seq_set (d := .lst []) (elst_ok anil_ok (by decide)) (seq_set (d := .int 0) rfl (seq_set (d := .non) rfl (seq_nx ty (seq_nx (if_f (tbo_ok (e2_ok rfl rfl dn)) rfl) (seq_nx (if_f t3 rfl) (ret_ok (d := .bl true) (eand_ok (a := true) (b := true) rfl fun _ => (e2_ok rfl (e2_ok rfl rfl d1) s_eq).trans (by rw [decide_eq_true rfl])) rfl)))))))
/-! a spoilt line -/
theorem Ln.add {x y : Str} {m n : Nat} (h1 : Ln x m) (h2 : Ln y n) : Ln (x ++ y) (m + n) := by
  refine ⟨fun c mc => ?_, ?_⟩
  · rw [cs_add] at mc
    exact (List.mem_append.mp mc).elim (h1.cl c) (h2.cl c)
  · have a := h1.le
    have b := h2.le
    rw [len_cs] at a b ⊢
    rw [cs_add, List.length_append]; omega
theorem Ln.dec {x : Str} {n : Nat} (h : (((cs x).all fun c => decide (c < 1114112) && !decide (c = 10)) && decide ((cs x).length ≤ n)) = true) : Ln x n := by
  rw [Bool.and_eq_true, List.all_eq_true] at h
  refine ⟨fun c m => ?_, by rw [len_cs]; exact of_decide_eq_true h.2⟩
  have := h.1 c m
  rw [Bool.and_eq_true, Bool.not_eq_true', decide_eq_true_eq, decide_eq_false_iff_not] at this
  exact this
theorem Ln.lw {x : Str} {k n : Nat} (h : Lw x k) (hk : k ≤ n) : Ln x n := ⟨fun c m => by have := lets_rng (h.1 c m); omega, by rw [h.2]; exact hk⟩
theorem Ln.nm {x : Str} (h : isNm x = true) : Ln x 30 := Ln.lw (isNm.lw h).1 (by have := (isNm.lw h).2.2; omega)
theorem Ln.num {n : Nat} (h : n < 1000000000000000000000000000000) : Ln (num n) 30 := ⟨fun c m => by
  have := figs_rng ((isCt_iff.mp (num_ct h)).1 c m)
  omega, num_len h⟩
theorem cut_sub {α : Type} {xs : List α} {lo hi : Option Int} : (∀ c ∈ cutD xs lo hi, c ∈ xs) ∧ (cutD xs lo hi).length ≤ xs.length := by
  unfold cutD
  exact ⟨fun c m => List.mem_of_mem_drop (List.mem_of_mem_take m), by rw [List.length_take, List.length_drop]; omega⟩
theorem Ln.cut {x : Str} {n : Nat} (h : Ln x n) (hn : n ≤ 1000) (lo hi : Option Int) : ∃ s : Str, Ln s n ∧ gSlS (.str x) lo hi = some (.str s) := by
  have a := h.le
  have b := (cut_sub (xs := cs x) (lo := lo) (hi := hi)).2
  refine ⟨_, ⟨fun c m => h.cl c (cut_sub.1 c m), ?_⟩, s_slS (by omega)⟩
  rw [len_cs] at a ⊢
  show (cutD (cs x) lo hi).length ≤ n
  omega
theorem sum_le {ws : List Str} {B : Nat} (h : ∀ w ∈ ws, w.length ≤ B) : (ws.map (·.length)).sum ≤ B * ws.length := by
  induction ws with
  | nil => exact Nat.le_refl _
  | cons w ws ih =>
    have h1 := h w List.mem_cons_self
    have h2 := ih fun x m => h x (List.mem_cons_of_mem _ m)
    rw [List.map_cons, List.sum_cons, List.length_cons, Nat.mul_succ]
    omega
theorem jn_ok {ws : List Str} {f : Store → Option D} {ρ : Store} (h : f ρ = some (.lst (ws.map .str))) (hc : ∀ w ∈ ws, ∀ c ∈ cs w, c < 1114112 ∧ c ≠ 10) (hs : (ws.map (·.length)).sum + ws.length ≤ 900) : ∃ y, Ln y 900 ∧ e2 gJoin (eC (.str " ")) f ρ = some (.str y) := by
  have e1 : (" " : Str).length = 1 := by decide +kernel
  have ec : cs " " = [32] := by decide +kernel
  refine ⟨Txt.join " " ws, ⟨fun c m => ?_, ?_⟩, e2_ok rfl h (s_join (by rw [e1]; omega))⟩
  · rcases join_mem _ m with m | ⟨w, mw, m⟩
    · rw [ec, List.mem_singleton] at m; omega
    · exact hc w mw c m
  · have j := StrLaws.join_length_le " " ws
    rw [e1] at j
    rw [join_eq]; omega
theorem jn30 {ws : List Str} {f : Store → Option D} {ρ : Store} (h : f ρ = some (.lst (ws.map .str))) (hc : ∀ w ∈ ws, Ln w 30) (hs : ws.length ≤ 25) : ∃ y, Ln y 900 ∧ e2 gJoin (eC (.str " ")) f ρ = some (.str y) :=
  jn_ok h (fun w m => (hc w m).cl) (by have := sum_le fun w m => (hc w m).le; omega)
theorem pick_ok {X : List Str} (hne : X ≠ []) {f g : Store → Option D} {ρ : Store} {z : Int} (hf : f ρ = some (.lst (X.map .str))) (hg : g ρ = some (.int z)) : ∃ w ∈ X, e2 gIx f (e2 gMod g (eCall gLen (aCons f aNil))) ρ = some (.str w) := by
  have hp : 0 < X.length := by
    cases X with
    | nil => exact absurd rfl hne
    | cons a l => exact Nat.succ_pos _
  obtain ⟨k, e, hk⟩ := emod_nat (x := z) (m := (X.length : Int)) (by omega)
  refine ⟨X[k]'(by omega), List.getElem_mem _, e2_ok hf (e2_ok hg (wlg hf) (mod_ok (by omega))) (ix_strs e (by omega))⟩
theorem slL_ok {X : List Str} {lo hi : Option Int} : gSlL (.lst (X.map .str)) lo hi = some (.lst ((cutD X lo hi).map .str)) := by unfold gSlL; dsimp only; rw [cut_map]
theorem esl_ok {f : Store → Option D} {h : D → Option Int → Option Int → Option D} {lo hi : Store → Option (Option Int)} {ρ : Store} {d : D} {l u : Option Int} (h1 : f ρ = some d) (h2 : lo ρ = some l) (h3 : hi ρ = some u) : eSl h f lo hi ρ = h d l u := by rw [s_eSl, h1, h2, h3]
theorem osome_ok {f : Store → Option D} {ρ : Store} {i : Int} (h : f ρ = some (.int i)) : oSome f ρ = some (some i) := by rw [s_oSome, h]
def RT (F : Store → Option O) (ρ : Store) : Prop := ∃ y ρ', Ln y 900 ∧ F ρ = some (.rt (.str y) ρ')
section
variable {F G : Store → Option O} {ρ ρ1 : Store} {f : Store → Option D} {d : D} {i : Nat} {c : Store → Option Bool} {b : Bool} {y : Str}
theorem rt_set (h : f ρ = some d) (g : RT G (ρ.set i (some d))) : RT (sSeq (sSet i f) G) ρ := by
  obtain ⟨y, ρ', h1, h2⟩ := g
  exact ⟨y, ρ', h1, seq_set h h2⟩
theorem rt_if (h : c ρ = some b) (h1 : b = true → RT F ρ) (h2 : b = false → RT G ρ) : RT (sSeq (sIf c F sNx) G) ρ := by
  cases b with
  | true =>
    obtain ⟨y, ρ', k1, k2⟩ := h1 rfl
    exact ⟨y, ρ', k1, seq_rt (if_t h k2)⟩
  | false =>
    obtain ⟨y, ρ', k1, k2⟩ := h2 rfl
    exact ⟨y, ρ', k1, seq_nx (if_f h rfl) k2⟩
theorem rt_ret (h : ∃ y, Ln y 900 ∧ f ρ = some (.str y)) : RT (sRet 0 f) ρ := by
  obtain ⟨y, h1, h2⟩ := h
  exact ⟨y, ρ, h1, ret_ok h2 rfl⟩
end
def badC : List Str := ["", "hat", "sees", "hat a", "sees a", "hat a 0", "hat a 01", "hat  a 1", "sees a b ", "Hat a 1"]
def badI : List Str := ["", "a", " ", "1", "0", "_", "A", " a"]
theorem badC_ln : ∀ w ∈ badC, Ln w 10 := by
  intro w m
  refine Ln.dec ?_
  revert w
  decide +kernel
theorem badI_ln : ∀ w ∈ badI, Ln w 10 := by
  intro w m
  refine Ln.dec ?_
  revert w
  decide +kernel
theorem cix_ok {X : List Str} {f g : Store → Option D} {ρ : Store} {z m : Int} (hf : f ρ = some (.lst (X.map .str))) (hm : 0 < m) (hl : m = X.length) (hg : g ρ = some (.int z)) : ∃ w ∈ X, e2 gIx f (e2 gMod g (eC (.int m))) ρ = some (.str w) := by
  obtain ⟨k, e, hk⟩ := emod_nat (x := z) (m := m) hm
  exact ⟨X[k]'(by omega), List.getElem_mem _, e2_ok hf (e2_ok hg rfl (mod_ok hm)) (ix_strs e (by omega))⟩
theorem bad_ok {L : List Int} {T N : List Str} (l1 : L.length = 14) (l2 : ∀ x ∈ L, 0 ≤ x ∧ x ≤ 306783368) (hT : ∀ y ∈ T, Ln y 310) (hT0 : 2 ≤ N.length → T ≠ []) (hN : ∀ w ∈ N, isNm w = true) (h8 : N.length ≤ 8) :
    ∃ y, Ln y 900 ∧ sem__law_bad_line [.lst (L.map .int), .lst (T.map .str), .lst (N.map .str)] = some (.str y) := by
  obtain ⟨DL, hDL⟩ : ∃ d : D, d = .lst (L.map .int) := ⟨_, rfl⟩
  obtain ⟨TD, hTD⟩ : ∃ d : D, d = .lst (T.map .str) := ⟨_, rfl⟩
  obtain ⟨ND, hND⟩ : ∃ d : D, d = .lst (N.map .str) := ⟨_, rfl⟩
  obtain ⟨CD, hCD⟩ : ∃ d : D, d = .lst (badC.map .str) := ⟨_, rfl⟩
  have dn : ∀ {ρ : Store} (k : Nat), k < 14 → eVar 0 ρ = some DL → e2 gIx (eVar 0) (eC (.int k)) ρ = some (.int (at0 L k)) := fun k hk h => drn (by rw [h, hDL]) rfl rfl (by omega)
  have dm : ∀ {ρ : Store} (k : Nat) (m : Int), k < 14 → 0 < m → eVar 0 ρ = some DL → e2 gMod (e2 gIx (eVar 0) (eC (.int k))) (eC (.int m)) ρ = some (.int (at0 L k % m)) := fun k m hk hm h => e2_ok (dn k hk h) rfl (mod_ok hm)
  have nln : ∀ {ρ : Store}, eVar 2 ρ = some ND → eCall gLen (aCons (eVar 2) aNil) ρ = some (.int N.length) := fun h => len_ok (by rw [h, hND]) (by rw [List.length_map])
  have c12 : sem__law_count [.int (at0 L 12), .int (5 : Nat)] = some (.int ((Classical.choose (count_ok (at0 L 12) 5 (by decide)) : Nat) : Int)) := (Classical.choose_spec (count_ok (at0 L 12) 5 (by decide))).2.2
  suffices h : RT body__law_bad_line [some DL, some TD, some ND, none, none, none, none, none, none, none, none, none] by
    obtain ⟨y, ρ', h1, h2⟩ := h
    refine ⟨y, h1, ?_⟩
    rw [← hDL, ← hTD, ← hND]
    exact fn0_ok h2
  refine rt_set (d := CD) ((elst_ok rfl (by decide)).trans (by rw [hCD]; rfl)) (rt_set (dm 0 9 (by decide) (by decide) rfl) ?_)
  generalize hkd : at0 L 0 % 9 = kd
  have tk : ∀ {ρ : Store} (j : Int), eVar 4 ρ = some (.int kd) → tBo (e2 (gEq false) (eVar 4) (eC (.int j))) ρ = some (decide (kd = j)) := fun j h => tbo_ok (e2_ok h rfl s_eq)
  refine rt_if (b := decide (kd = 0) || decide ((N.length : Int) < 2)) (bOr_ok (tk 0 rfl) fun _ => tbo_ok (e2_ok (nln rfl) rfl s_cmp)) (fun _ => rt_ret ?_) fun hb => ?_
  · obtain ⟨w, mw, e⟩ := cix_ok (X := badC) (f := eVar 3) (g := e2 gIx (eVar 0) (eC (.int 1))) (m := 10) (ρ := [some DL, some TD, some ND, some CD, some (.int kd), none, none, none, none, none, none, none]) (by rw [hCD]; rfl) (by decide) rfl (dn 1 (by decide) rfl)
    exact ⟨w, (badC_ln w mw).mono (by decide), e⟩
  have n2 : 2 ≤ N.length := by
    rw [Bool.or_eq_false_iff, decide_eq_false_iff_not, decide_eq_false_iff_not] at hb
    omega
  have hTn := hT0 n2
  have hNn : N ≠ [] := fun z => by rw [z] at n2; exact absurd n2 (by decide)
  obtain ⟨ln, mln, eln⟩ := pick_ok (X := T) hTn (f := eVar 1) (g := e2 gIx (eVar 0) (eC (.int 2))) (ρ := [some DL, some TD, some ND, some CD, some (.int kd), none, none, none, none, none, none, none]) (by rw [hTD]; rfl) (dn 2 (by decide) rfl)
  have lnL := hT ln mln
  refine rt_set eln ?_
  refine rt_if (tk 1 rfl) (fun _ => ?_) fun _ => ?_
  · have ll := lnL.le
    refine rt_set (d := .int (at0 L 3 % ((ln.length : Int) + 1))) (e2_ok (dn 3 (by decide) rfl) (e2_ok (call_ok (acons_ok rfl anil_ok) (s_lenS (by omega))) rfl rfl) (mod_ok (by omega))) ?_
    generalize at0 L 3 % ((ln.length : Int) + 1) = at_
    obtain ⟨nw, mnw, enw⟩ := cix_ok (X := badI) (f := eLst (aCons (eC (.str "")) (aCons (eC (.str "a")) (aCons (eC (.str " ")) (aCons (eC (.str "1")) (aCons (eC (.str "0")) (aCons (eC (.str "_")) (aCons (eC (.str "A")) (aCons (eC (.str " a")) aNil))))))))) (g := e2 gIx (eVar 0) (eC (.int 4))) (m := 8) (ρ := [some DL, some TD, some ND, some CD, some (.int kd), some (.str ln), some (.int at_), none, none, none, none, none]) (elst_ok rfl (by decide)) (by decide) rfl (dn 4 (by decide) rfl)
    refine rt_set enw (rt_ret ?_)
    obtain ⟨s1, q1, e1⟩ := lnL.cut (by decide) none (some at_)
    obtain ⟨s2, q2, e2'⟩ := lnL.cut (by decide) (some (at_ + at0 L 5 % 2)) none
    have nL := (badI_ln nw mnw)
    have a1 := q1.le
    have a2 := q2.le
    have a3 := nL.le
    have q3 := q1.add nL
    have a4 := q3.le
    refine ⟨_, (q3.add q2).mono (by decide), e2_ok (a := .str (s1 ++ nw)) (e2_ok ((esl_ok rfl rfl rfl).trans e1) rfl (s_addS (by omega))) ((esl_ok rfl ?_ rfl).trans e2') (s_addS (by omega))⟩
    exact osome_ok (e2_ok (a := .int at_) (b := .int (at0 L 5 % 2)) (g := gAdd) rfl (dm 5 2 (by decide) (by decide) rfl) rfl)
  obtain ⟨s4, q4, e4⟩ := lnL.cut (by decide) none (some 4)
  have c4 : ∃ b4, bAnd (tBo (e2 (gEq false) (eVar 4) (eC (.int 2)))) (bAnd (tBo (e2 (gEq false) (eSl gSlS (eVar 5) oNone (oSome (eC (.int 4)))) (eC (.str "hat ")))) (tBo (e2 (gEq false) (e2 gMod (e2 gIx (eVar 0) (eC (.int 13))) (eC (.int 2))) (eC (.int 0))))) [some DL, some TD, some ND, some CD, some (.int kd), some (.str ln), none, none, none, none, none, none] = some b4 :=
    ⟨_, bAnd_ok (tk 2 rfl) fun _ => bAnd_ok (tbo_ok (e2_ok ((esl_ok rfl rfl rfl).trans e4) rfl (s_eqS q4.ok (by decide +kernel)))) fun _ => tbo_ok (e2_ok (dm 13 2 (by decide) (by decide) rfl) rfl s_eq)⟩
  obtain ⟨b4, c4⟩ := c4
  refine rt_if c4 (fun _ => rt_ret ?_) fun _ => ?_
  · obtain ⟨wn, wl, wc⟩ := wds_ok (lnL.mono (by decide : 310 ≤ 900))
    have wl' := (wds_ok lnL).2.1
    obtain ⟨cn, hc1, hc2, hc3⟩ := count_ok (at0 L 12) 5 (by decide)
    have cs2 := cut_sub (xs := wds ln) (lo := none) (hi := some 2)
    have le2 : (cutD (wds ln) none (some 2)).length ≤ 2 := by
      have e := cut_hi (xs := wds ln) (k := 2) (i := 2) rfl
      rw [e, List.length_take]; omega
    refine jn_ok (ws := cutD (wds ln) none (some 2) ++ [num cn]) ?_ (fun w m => ?_) ?_
    · rw [List.map_append]
      refine e2_ok ((esl_ok (wds_split (lnL.mono (by decide)) rfl) rfl rfl).trans slL_ok) (elst_ok (acons_ok (d := .str (num cn)) (call_ok (acons_ok (callF_ok (ds := [.int (at0 L 12), .int 5]) (acons_ok (dn 12 (by decide) rfl) rfl) rfl hc3) anil_ok) (str_num hc2)) anil_ok) (by show 1 ≤ 16777216; decide)) (addL_ok (by rw [List.length_map]; show _ + 1 ≤ _; omega))
    · rcases List.mem_append.mp m with m | m
      · exact (wl' w (cs2.1 w m)).cl
      · rw [List.mem_singleton.mp m]; exact (Ln.num hc2).cl
    · have s := sum_le (B := 310) (ws := cutD (wds ln) none (some 2)) fun w m => (wl' w (cs2.1 w m)).le
      have := num_len hc2
      rw [List.map_append, List.sum_append, List.length_append]
      show _ + ((num cn).length + 0) + (_ + 1) ≤ 900
      omega
  refine rt_if (tk 2 rfl) (fun _ => rt_ret ⟨ln, lnL.mono (by decide), rfl⟩) fun _ => ?_
  have nm30 : ∀ w ∈ N, Ln w 30 := fun w m => Ln.nm (hN w m)
  have sees30 : Ln "sees" 30 := Ln.dec (by decide +kernel)
  refine rt_if (tk 3 rfl) (fun _ => ?_) fun _ => ?_
  · refine rt_set (d := .int (at0 L 6 % (N.length : Int))) (e2_ok (dn 6 (by decide) rfl) (nln rfl) (mod_ok (by omega))) (rt_ret ?_)
    generalize at0 L 6 % (N.length : Int) = at_
    have k1 := cut_sub (xs := N) (lo := some at_) (hi := none)
    have k2 := cut_sub (xs := N) (lo := none) (hi := some at_)
    have k3 := cut_sub (xs := cutD N (some at_) none ++ cutD N none (some at_)) (lo := none) (hi := some (2 + at0 L 7 % 7))
    refine jn30 (ws := [("sees" : Str)] ++ cutD (cutD N (some at_) none ++ cutD N none (some at_)) none (some (2 + at0 L 7 % 7))) ?_ (fun w m => ?_) ?_
    · rw [List.map_append]
      refine e2_ok (elst_ok (acons_ok rfl anil_ok) (by show 1 ≤ 16777216; decide)) ((esl_ok (d := .lst ((cutD N (some at_) none ++ cutD N none (some at_)).map .str)) ?_ rfl ?_).trans slL_ok) (addL_ok ?_)
      · rw [List.map_append]
        exact e2_ok ((esl_ok (d := .lst (N.map .str)) (by rw [← hND]; rfl) rfl rfl).trans slL_ok) ((esl_ok (d := .lst (N.map .str)) (by rw [← hND]; rfl) rfl rfl).trans slL_ok) (addL_ok (by rw [List.length_map, List.length_map]; omega))
      · exact osome_ok (e2_ok (a := .int 2) (b := .int (at0 L 7 % 7)) (g := gAdd) rfl (dm 7 7 (by decide) (by decide) rfl) rfl)
      · rw [List.length_map]
        rw [List.length_append] at k3
        show 1 + _ ≤ _
        omega
    · rcases List.mem_append.mp m with m | m
      · rw [List.mem_singleton.mp m]; exact sees30
      · rcases List.mem_append.mp (k3.1 w m) with m | m
        · exact nm30 w (k1.1 w m)
        · exact nm30 w (k2.1 w m)
    · rw [List.length_append] at k3 ⊢
      show 1 + _ ≤ 25
      omega
  have nd0 : ∀ {ρ : Store}, eVar 2 ρ = some ND → eVar 2 ρ = some (.lst (N.map .str)) := fun h => by rw [h, hND]
  have npick : ∀ {ρ : Store} (k : Nat), k < 14 → eVar 0 ρ = some DL → eVar 2 ρ = some ND → ∃ w ∈ N, e2 gIx (eVar 2) (e2 gMod (e2 gIx (eVar 0) (eC (.int k))) (eCall gLen (aCons (eVar 2) aNil))) ρ = some (.str w) := fun k hk h0 h2 => pick_ok hNn (nd0 h2) (dn k hk h0)
  refine rt_if (tk 4 rfl) (fun _ => rt_ret ?_) fun _ => ?_
  · obtain ⟨w3, m3, e3⟩ := npick (ρ := [some DL, some TD, some ND, some CD, some (.int kd), some (.str ln), none, none, none, none, none, none]) 8 (by decide) rfl rfl
    have i0 : gIx ND (.int 0) = some (.str (N[0]'(by omega))) := by rw [hND]; exact ix_strs (k := 0) rfl (by omega)
    have i1 : gIx ND (.int (-1)) = some (.str (N[N.length - 1]'(by omega))) := by
      rw [hND]
      show L2.atI (N.map D.str) (-1) = _
      unfold L2.atI L2.ixN
      rw [if_neg (by decide), List.length_map, if_pos (by omega)]
      show (N.map D.str)[((-1 : Int) + (N.length : Int)).toNat]? = _
      rw [show ((-1 : Int) + (N.length : Int)).toNat = N.length - 1 by omega, List.getElem?_map, List.getElem?_eq_getElem (show N.length - 1 < N.length by omega)]
      rfl
    refine jn30 (ws := [("sees" : Str), N[0]'(by omega), N[N.length - 1]'(by omega), w3]) (elst_ok (acons_ok rfl (acons_ok (e2_ok rfl rfl i0) (acons_ok (e2_ok rfl rfl i1) (acons_ok e3 anil_ok)))) (by show 4 ≤ 16777216; decide)) (fun w m => ?_) (by show 4 ≤ 25; decide)
    simp only [List.mem_cons, List.not_mem_nil, or_false] at m
    rcases m with rfl | rfl | rfl | rfl
    · exact sees30
    · exact nm30 _ (List.getElem_mem _)
    · exact nm30 _ (List.getElem_mem _)
    · exact nm30 _ m3
  have d10 := drg l2 (k := 10) (by omega)
  have frs : ∀ (j : Nat), 1 ≤ j → j ≤ 12 → ∃ x : Str, Ln x 30 ∧ sem__law_fresh [.int (at0 L 10), .int j] = some (.str x) := fun j h1 h2 => by
    obtain ⟨x, hx, e⟩ := fresh_ok (at0 L 10) j d10.1 (by omega) (by omega)
    exact ⟨x, Ln.lw hx (by omega), e⟩
  obtain ⟨k11, e11, l11⟩ := emod_nat (x := at0 L 11) (m := 4) (by decide)
  obtain ⟨fr, frL, efr⟩ := frs (1 + k11) (by omega) (by omega)
  refine rt_set (d := .str fr) (callF_ok (ds := [.int (at0 L 10), .int ((1 + k11 : Nat) : Int)]) (acons_ok (dn 10 (by decide) rfl) (acons_ok (e2_ok rfl (dm 11 4 (by decide) (by decide) rfl) (by show some (D.int (1 + at0 L 11 % 4)) = _; rw [e11, show (1 + (k11 : Int)) = ((1 + k11 : Nat) : Int) by omega])) anil_ok)) rfl efr) ?_
  refine rt_if (tk 5 rfl) (fun _ => ?_) fun _ => ?_
  · obtain ⟨w1, m1, e1⟩ := npick (ρ := [some DL, some TD, some ND, some CD, some (.int kd), some (.str ln), none, none, some (.str fr), none, none, none]) 9 (by decide) rfl rfl
    obtain ⟨w3, m3, e3⟩ := npick (ρ := [some DL, some TD, some ND, some CD, some (.int kd), some (.str ln), none, none, some (.str fr), none, none, none]) 8 (by decide) rfl rfl
    obtain ⟨W5, hW5⟩ : ∃ W : List Str, W = [("sees" : Str), w1, fr, fr, w3] := ⟨_, rfl⟩
    have w5 : ∀ w ∈ W5, Ln w 30 := fun w m => by
      rw [hW5] at m
      simp only [List.mem_cons, List.not_mem_nil, or_false] at m
      rcases m with rfl | rfl | rfl | rfl | rfl
      · exact sees30
      · exact nm30 _ m1
      · exact frL
      · exact frL
      · exact nm30 _ m3
    have l5 : W5.length = 5 := by rw [hW5]; rfl
    refine rt_set (d := .lst (W5.map .str)) ((elst_ok (acons_ok rfl (acons_ok e1 (acons_ok rfl (acons_ok rfl (acons_ok e3 anil_ok))))) (by show 5 ≤ 16777216; decide)).trans (by rw [hW5]; rfl)) (rt_ret ?_)
    have k1 := cut_sub (xs := W5) (lo := none) (hi := some 3)
    have k2 := cut_sub (xs := W5) (lo := some (3 + at0 L 7 % 2)) (hi := some (3 + at0 L 7 % 3))
    refine jn30 (ws := cutD W5 none (some 3) ++ cutD W5 (some (3 + at0 L 7 % 2)) (some (3 + at0 L 7 % 3))) ?_ (fun w m => ?_) ?_
    · rw [List.map_append]
      refine e2_ok ((esl_ok rfl rfl rfl).trans slL_ok) ((esl_ok rfl ?_ ?_).trans slL_ok) (addL_ok (by rw [List.length_map, List.length_map]; omega))
      · exact osome_ok (e2_ok (a := .int 3) (b := .int (at0 L 7 % 2)) (g := gAdd) rfl (dm 7 2 (by decide) (by decide) rfl) rfl)
      · exact osome_ok (e2_ok (a := .int 3) (b := .int (at0 L 7 % 3)) (g := gAdd) rfl (dm 7 3 (by decide) (by decide) rfl) rfl)
    · rcases List.mem_append.mp m with m | m
      · exact w5 w (k1.1 w m)
      · exact w5 w (k2.1 w m)
    · rw [List.length_append]; omega
  refine rt_if (tk 6 rfl) (fun _ => rt_ret ?_) fun _ => ?_
  · have k1 := cut_sub (xs := N) (lo := none) (hi := some (1 + at0 L 8 % 2))
    refine jn30 (ws := [("sees" : Str), fr] ++ cutD N none (some (1 + at0 L 8 % 2))) ?_ (fun w m => ?_) ?_
    · rw [List.map_append]
      refine e2_ok (elst_ok (acons_ok rfl (acons_ok rfl anil_ok)) (by show 2 ≤ 16777216; decide)) ((esl_ok (d := .lst (N.map .str)) (nd0 rfl) rfl ?_).trans slL_ok) (addL_ok (by rw [List.length_map]; show 2 + _ ≤ _; omega))
      exact osome_ok (e2_ok (a := .int 1) (b := .int (at0 L 8 % 2)) (g := gAdd) rfl (dm 8 2 (by decide) (by decide) rfl) rfl)
    · rcases List.mem_append.mp m with m | m
      · simp only [List.mem_cons, List.not_mem_nil, or_false] at m
        rcases m with rfl | rfl
        · exact sees30
        · exact frL
      · exact nm30 w (k1.1 w m)
    · rw [List.length_append]
      show 2 + _ ≤ 25
      omega
  refine rt_if (tk 7 rfl) (fun _ => ?_) fun _ => ?_
  · have em : eLc [11] (iSt (eC (.str "abcdefghijkl"))) (gSet 11) bYes (e2 gAdd (eVar 11) (eC (.str "zx"))) [some DL, some TD, some ND, some CD, some (.int kd), some (.str ln), none, none, some (.str fr), none, none, none] = some (.lst (((cs "abcdefghijkl").map fun c => (⟨#[c]⟩ : Str) ++ "zx").map .str)) := by
      rw [List.map_map]
      have z2 : ("zx" : Str).length = 2 := by decide +kernel
      have z12 : (cs "abcdefghijkl").length = 12 := by decide +kernel
      exact lcA_all (k := fun c : Nat => D.str ⟨#[c]⟩) (γ := fun c => [some DL, some TD, some ND, some CD, some (.int kd), some (.str ln), none, none, some (.str fr), none, none, some (.str ⟨#[c]⟩)]) (iSt_ok rfl) (by rw [z12]; decide) fun c mc => ⟨rfl, rfl, e2_ok rfl rfl (s_addS (by rw [z2]; show 1 + 2 ≤ _; decide))⟩
    have zl : ((cs "abcdefghijkl").map fun c => (⟨#[c]⟩ : Str) ++ "zx").length = 12 := by rw [List.length_map]; decide +kernel
    have zo : ∀ w ∈ (cs "abcdefghijkl").map fun c => (⟨#[c]⟩ : Str) ++ "zx", Ln w 30 := by
      intro w m
      obtain ⟨c, mc, rfl⟩ := List.mem_map.mp m
      refine Ln.mono (m := 1 + 2) (Ln.add ⟨fun c' m' => ?_, ?_⟩ (Ln.dec (by decide +kernel))) (by decide)
      · have : c' = c := List.mem_singleton.mp m'
        subst this
        have := (alph12_lw.1 c' mc)
        have := lets_rng this
        omega
      · exact Nat.le_refl 1
    generalize ((cs "abcdefghijkl").map fun c => (⟨#[c]⟩ : Str) ++ "zx") = Z at em zl zo
    refine rt_set em (rt_ret ?_)
    obtain ⟨w1, m1, e1⟩ := npick (ρ := [some DL, some TD, some ND, some CD, some (.int kd), some (.str ln), none, none, some (.str fr), none, some (.lst (Z.map .str)), none]) 9 (by decide) rfl rfl
    have k1 := cut_sub (xs := Z) (lo := some (at0 L 7 % 4)) (hi := none)
    refine jn30 (ws := [("sees" : Str), w1] ++ cutD Z (some (at0 L 7 % 4)) none) ?_ (fun w m => ?_) ?_
    · rw [List.map_append]
      refine e2_ok (elst_ok (acons_ok rfl (acons_ok e1 anil_ok)) (by show 2 ≤ 16777216; decide)) ((esl_ok rfl ?_ rfl).trans slL_ok) (addL_ok (by rw [List.length_map]; show 2 + _ ≤ _; omega))
      exact osome_ok (dm 7 4 (by decide) (by decide) rfl)
    · rcases List.mem_append.mp m with m | m
      · simp only [List.mem_cons, List.not_mem_nil, or_false] at m
        rcases m with rfl | rfl
        · exact sees30
        · exact nm30 _ m1
      · exact zo w (k1.1 w m)
    · rw [List.length_append]
      show 2 + _ ≤ 25
      omega
  refine rt_ret ?_
  obtain ⟨k12, e12, l12⟩ := emod_nat (x := at0 L 11) (m := 12) (by decide)
  obtain ⟨fr2, frL2, efr2⟩ := frs (1 + k12) (by omega) (by omega)
  obtain ⟨cn, hc1, hc2, hc3⟩ := count_ok (at0 L 12) 3 (by decide)
  have h4 : Ln "hat " 4 := Ln.dec (by decide +kernel)
  have h1 : Ln " " 1 := Ln.dec (by decide +kernel)
  have q1 := h4.add frL2
  have q2 := q1.add h1
  have q3 := q2.add (Ln.num hc2)
  have a1 := q1.le
  have a2 := q2.le
  have a3 := h4.le
  have a4 := h1.le
  have a5 := frL2.le
  have a6 := num_len hc2
  exact ⟨_, q3.mono (by decide), e2_ok (e2_ok (e2_ok rfl (callF_ok (ds := [.int (at0 L 10), .int ((1 + k12 : Nat) : Int)]) (acons_ok (dn 10 (by decide) rfl) (acons_ok (e2_ok rfl (dm 11 12 (by decide) (by decide) rfl) (by show some (D.int (1 + at0 L 11 % 12)) = _; rw [e12, show (1 + (k12 : Int)) = ((1 + k12 : Nat) : Int) by omega])) anil_ok)) rfl efr2) (s_addS (by omega))) rfl (s_addS (by omega))) (call_ok (acons_ok (callF_ok (ds := [.int (at0 L 12), .int 3]) (acons_ok (dn 12 (by decide) rfl) rfl) rfl hc3) anil_ok) (str_num hc2)) (s_addS (by omega))⟩
theorem imm1_strs (T : List Str) : (D.lst (T.map .str)).immB 1 = true := by
  show D.immBL 0 (T.map .str) = true
  exact immBL_of fun d m => by obtain ⟨w, _, rfl⟩ := List.mem_map.mp m; rfl
/-! spoilt lines -/
def sp9 (S P DL : Option D) (T : List Str) (GD a5 a6 a7 a8 : Option D) : Store := [S, P, DL, some (.lst (T.map .str)), GD, a5, a6, a7, a8]
theorem lines_ln {N : List Str} {C ws : List Nat} {its : List It} (B : Bk N C ws) (g : Gi N.length ws its) : ∀ y ∈ its.map (tx N C), Ln y 310 := fun y m => by
  obtain ⟨it, mi, rfl⟩ := List.mem_map.mp m
  exact ⟨fun c mc => by have := tx_chars B g mi c mc; omega, tx_len B g mi⟩
theorem lines_ne {N : List Str} {C ws : List Nat} {its : List It} (g : Gi N.length ws its) (h : 2 ≤ N.length) : its.map (tx N C) ≠ [] := fun z => by
  have e : its = [] := List.map_eq_nil_iff.mp z
  have := g.h
  rw [e] at this
  have l := congrArg List.length this
  rw [List.length_range] at l
  have l : 0 = N.length := l
  omega
theorem ins_ln {T : List Str} {k : Nat} {y : Str} (hT : ∀ x ∈ T, Ln x 900) (hy : Ln y 900) : ∀ x ∈ T.take k ++ [y] ++ T.drop k, Ln x 900 := fun x m => by
  rcases List.mem_append.mp m with m | m
  · rcases List.mem_append.mp m with m | m
    · exact hT x (List.mem_of_mem_take m)
    · rw [List.mem_singleton.mp m]; exact hy
  · exact hT x (List.mem_of_mem_drop m)
theorem ins_len {T : List Str} {k : Nat} {y : Str} : (T.take k ++ [y] ++ T.drop k).length = T.length + 1 := by
  rw [List.length_append, List.length_append, List.length_take, List.length_drop]
  show min k T.length + 1 + _ = _
  omega
theorem ins_map {T : List Str} {k : Nat} {y : Str} : (T.map D.str).take k ++ [D.str y] ++ (T.map D.str).drop k = (T.take k ++ [y] ++ T.drop k).map D.str := by
  rw [List.map_append, List.map_append, List.map_take, List.map_drop]; rfl
theorem er_map {T : List Str} {k : Nat} : (T.map D.str).eraseIdx k = (T.eraseIdx k).map D.str := erase_map _ _ _
theorem er_ln {T : List Str} {k : Nat} (hT : ∀ x ∈ T, Ln x 900) : ∀ x ∈ T.eraseIdx k, Ln x 900 := fun x m => hT x (List.mem_of_mem_eraseIdx m)
theorem spoilt_ok (ns : List Int) : ∃ T : List Str, (∀ y ∈ T, Ln y 900) ∧ T.length ≤ 30 ∧ sem__law_spoilt_text [.lst (ns.map .int)] = some (.lst (T.map .str)) := by
  obtain ⟨N, C, ws, B, eP⟩ := people_ok ns
  obtain ⟨L, l1, l2, eL⟩ := draws_ok (at0 ns 17) 40 (by decide)
  obtain ⟨its, g, full, em⟩ := mixed_ok B (L := L) (by omega)
  have t310 := lines_ln (C := C) B g
  have tne := lines_ne (C := C) g
  have tlen : (its.map (tx N C)).length ≤ 16 := by rw [List.length_map]; exact g.len B
  have hN := B.nm
  have h8 := B.le
  generalize its.map (tx N C) = T0 at t310 tne tlen em
  have ca : ∀ k : Nat, k ≤ 100 → sem__law_cell_at [.lst (ns.map .int), .int k] = some (.int (at0 ns k)) := fun k hk => cell_at ns k hk
  obtain ⟨S, hS⟩ : ∃ S : D, S = .lst (ns.map .int) := ⟨_, rfl⟩
  obtain ⟨P, hP⟩ : ∃ P : D, P = PD N C ws := ⟨_, rfl⟩
  obtain ⟨DL, hDL⟩ : ∃ d : D, d = .lst (L.map .int) := ⟨_, rfl⟩
  obtain ⟨GD, hGD⟩ : ∃ d : D, d = .lst (T0.map .str) := ⟨_, rfl⟩
  have p0 : gIx P (.int 0) = some (.lst (N.map .str)) := by rw [hP]; rfl
  simp only [← hS] at ca eP ⊢
  simp only [← hP] at eP em
  simp only [← hDL] at eL em
  have dm : ∀ {ρ : Store} (k : Nat) (m : Int) {f : Store → Option D}, k < 40 → 0 < m → eVar 2 ρ = some DL → f ρ = some (.int (k : Nat)) → e2 gMod (e2 gIx (eVar 2) f) (eC (.int m)) ρ = some (.int (at0 L k % m)) := fun k m f hk hm h hf => e2_ok (drn (by rw [h, hDL]) hf rfl (by omega)) rfl (mod_ok hm)
  have dn : ∀ {ρ : Store} (k : Nat) {f : Store → Option D}, k < 40 → eVar 2 ρ = some DL → f ρ = some (.int (k : Nat)) → e2 gIx (eVar 2) f ρ = some (.int (at0 L k)) := fun k f hk h hf => drn (by rw [h, hDL]) hf rfl (by omega)
  -- one line moved elsewhere
  obtain ⟨T1, a5, q1, q2, e1⟩ : ∃ (T1 : List Str) (a5 : Option D), (∀ y ∈ T1, Ln y 900) ∧ T1.length ≤ 16 ∧ if__law_spoilt_text_1 (sp9 (some S) (some P) (some DL) T0 (some GD) none none none none) = some (.nx (sp9 (some S) (some P) (some DL) T1 (some GD) a5 none none none)) := by
    have t900 : ∀ y ∈ T0, Ln y 900 := fun y m => (t310 y m).mono (by decide)
    have c : bAnd (tBo (e2 (gEq false) (e2 gMod (e2 gIx (eVar 2) (eC (.int 26))) (eC (.int 4))) (eC (.int 0)))) (tBo (e2 gGt (eCall gLen (aCons (eVar 3) aNil)) (eC (.int 1)))) (sp9 (some S) (some P) (some DL) T0 (some GD) none none none none) = some (decide (at0 L 26 % 4 = 0) && decide ((1 : Int) < (T0.length : Int))) :=
      bAnd_ok (tbo_ok (e2_ok (dm 26 4 (by decide) (by decide) rfl rfl) rfl s_eq)) fun _ => tbo_ok (e2_ok (wlg rfl) rfl rfl)
    cases hb : (decide (at0 L 26 % 4 = 0) && decide ((1 : Int) < (T0.length : Int))) with
    | false => rw [hb] at c; exact ⟨T0, none, t900, tlen, if_f c rfl⟩
    | true =>
      rw [hb] at c
      have l0 : 1 < T0.length := by
        rw [Bool.and_eq_true, decide_eq_true_eq, decide_eq_true_eq] at hb
        omega
      obtain ⟨k, ek, hk⟩ := emod_nat (x := at0 L 27) (m := (T0.length : Int)) (by omega)
      have hk' : k < T0.length := by omega
      have le := len_erase hk'
      obtain ⟨j, ej, hj⟩ := emod_nat (x := at0 L 28) (m := ((T0.eraseIdx k).length : Int) + 1) (by omega)
      have hy := t900 _ (List.getElem_mem hk')
      refine ⟨(T0.eraseIdx k).take j ++ [T0[k]] ++ (T0.eraseIdx k).drop j, some (.str T0[k]), ins_ln (er_ln t900) hy, by rw [ins_len]; omega, if_t c (seq_nx (setX_ok (ρ2 := sp9 (some S) (some P) (some DL) (T0.eraseIdx k) (some GD) (some (.str T0[k])) none none none) (pop_ok (ds := T0.map .str) (k := k) rfl (clr_ok (e2_ok (dn 27 (by decide) rfl rfl) (wlg rfl) (mod_ok (by omega))) s_immI) ek (by rw [List.length_map]; exact hk') (by omega)) ?_) ?_)⟩
      · rw [er_map, List.getElem_map]; rfl
      · refine insert_ok (n := j) (d := .str T0[k]) (ds := (T0.eraseIdx k).map .str) rfl (clr_ok (e2_ok (dn 28 (by decide) rfl rfl) (e2_ok (wlg rfl) rfl rfl) (mod_ok (by omega))) s_immI) rfl ej (by omega) (by rw [List.length_map]; omega) ?_
        rw [ins_map]; rfl
  obtain ⟨m, em3, hm⟩ := emod_nat (x := at0 L 29) (m := 3) (by decide)
  obtain ⟨ρ', hf, T2, a5', a6, a7, a8, g1, g2, rfl⟩ := forD_rng (g := gSet 6) (F := lp__law_spoilt_text_3) (n := m)
    (fun j ρ => ∃ (T : List Str) (a5 a6 a7 a8 : Option D), (∀ y ∈ T, Ln y 900) ∧ T.length ≤ 16 + j ∧ ρ = sp9 (some S) (some P) (some DL) T (some GD) a5 a6 a7 a8)
    (fun j hj ρ p => by
      obtain ⟨T, a5, a6, a7, a8, g1, g2, rfl⟩ := p
      obtain ⟨M, m1, m2, eM⟩ := draws_ok (at0 ns (18 + j) + 5 * j) 14 (by decide)
      obtain ⟨y, hy, ey⟩ := bad_ok (T := T0) m1 m2 t310 tne hN h8
      rw [← hGD] at ey
      have m5 : gMul (.int 5) (.int j) = some (.int (5 * j)) := mul_ok (by decide) (by decide) (by omega) (by omega)
      have e7 : eClr 0 (eCall (callF 3 [] sem__law_bad_line) (aCons (eCall (callF 2 [] sem__law_draws) (aCons (e2 gAdd (eCall (callF 2 [] sem__law_cell_at) (aCons (eVar 0) (aCons (e2 gAdd (eC (.int 18)) (eVar 6)) aNil))) (e2 gMul (eC (.int 5)) (eVar 6))) (aCons (eC (.int 14)) aNil))) (aCons (eVar 4) (aCons (e2 gIx (eVar 1) (eC (.int 0))) aNil)))) (sp9 (some S) (some P) (some DL) T (some GD) a5 (some (.int j)) a7 a8) = some (.str y) :=
        clr_ok (callF_ok (ds := [.lst (M.map .int), GD, .lst (N.map .str)]) (acons_ok (callF_ok (ds := [.int (at0 ns (18 + j) + 5 * j), .int (14 : Nat)]) (acons_ok (e2_ok (callF_ok (ds := [S, .int ((18 + j : Nat) : Int)]) (acons_ok rfl (acons_ok (e2_ok rfl rfl (by show some (D.int (18 + (j : Int))) = _; rw [show (18 + (j : Int)) = ((18 + j : Nat) : Int) by omega])) anil_ok)) rfl (ca (18 + j) (by omega))) (e2_ok rfl rfl m5) rfl) rfl) rfl eM) (acons_ok rfl (acons_ok (e2_ok rfl rfl p0) anil_ok))) rfl ey) rfl
      obtain ⟨k, ek, hk⟩ := emod_nat (x := at0 L (30 + j)) (m := (T.length : Int) + 1) (by omega)
      have e8 : eClr 0 (e2 gMod (e2 gIx (eVar 2) (e2 gAdd (eC (.int 30)) (eVar 6))) (e2 gAdd (eCall gLen (aCons (eVar 3) aNil)) (eC (.int 1)))) (sp9 (some S) (some P) (some DL) T (some GD) a5 (some (.int j)) (some (.str y)) a8) = some (.int (k : Nat)) :=
        clr_ok ((e2_ok (dn (30 + j) (by omega) rfl (e2_ok rfl rfl (by show some (D.int (30 + (j : Int))) = _; rw [show (30 + (j : Int)) = ((30 + j : Nat) : Int) by omega]))) (e2_ok (wlg rfl) rfl rfl) (mod_ok (by omega))).trans (by rw [ek])) s_immI
      obtain ⟨k', hk', e9⟩ : ∃ k' : Nat, k' ≤ T.length ∧ if__law_spoilt_text_2 (sp9 (some S) (some P) (some DL) T (some GD) a5 (some (.int j)) (some (.str y)) (some (.int (k : Nat)))) = some (.nx (sp9 (some S) (some P) (some DL) T (some GD) a5 (some (.int j)) (some (.str y)) (some (.int (k' : Nat))))) := by
        have c : tBo (e2 (gEq false) (e2 gMod (e2 gIx (eVar 2) (e2 gAdd (eC (.int 32)) (eVar 6))) (eC (.int 4))) (eC (.int 0))) (sp9 (some S) (some P) (some DL) T (some GD) a5 (some (.int j)) (some (.str y)) (some (.int (k : Nat)))) = some (decide (at0 L (32 + j) % 4 = 0)) :=
          tbo_ok (e2_ok (dm (32 + j) 4 (by omega) (by decide) rfl (e2_ok rfl rfl (by show some (D.int (32 + (j : Int))) = _; rw [show (32 + (j : Int)) = ((32 + j : Nat) : Int) by omega]))) rfl s_eq)
        cases hb : decide (at0 L (32 + j) % 4 = 0) with
        | false => rw [hb] at c; exact ⟨k, by omega, if_f c rfl⟩
        | true =>
          rw [hb] at c
          obtain ⟨q, eq, hq⟩ := emod_nat (x := at0 L (34 + j)) (m := 2) (by decide)
          have eix : gIx (.lst ([0, (T.length : Int)].map .int)) (.int (q : Nat)) = some (.int (at0 [0, (T.length : Int)] q)) := ix_il (by omega) (by show (q : Int) < 2; omega)
          refine ⟨if q = 0 then 0 else T.length, by split <;> omega, if_t c (set_ok (clr_ok (e2_ok (a := .lst ([0, (T.length : Int)].map .int)) (elst_ok (acons_ok rfl (acons_ok (wlg rfl) anil_ok)) (by show 2 ≤ 16777216; decide)) ((dm (34 + j) 2 (by omega) (by decide) rfl (e2_ok rfl rfl (by show some (D.int (34 + (j : Int))) = _; rw [show (34 + (j : Int)) = ((34 + j : Nat) : Int) by omega]))).trans (by rw [eq])) (eix.trans ?_)) s_immI))⟩
          have h01 : q = 0 ∨ q = 1 := by omega
          rcases h01 with rfl | rfl
          · rfl
          · rfl
      refine ⟨_, _, rfl, .inl (seq_set e7 (seq_set e8 (seq_nx e9 (insert_ok (n := k') (d := .str y) (ds := T.map .str) rfl rfl rfl rfl (by omega) (by rw [List.length_map]; omega) rfl)))), T.take k' ++ [y] ++ T.drop k', a5, some (.int j), some (.str y), some (.int (k' : Nat)), ins_ln g1 hy, by rw [ins_len]; omega, ?_⟩
      rw [ins_map]; rfl)
    (ρ := sp9 (some S) (some P) (some DL) T1 (some GD) a5 none none none) ⟨T1, a5, none, none, none, q1, by omega, rfl⟩
  refine ⟨T2, g1, by omega, ?_⟩
  have iT : (D.lst (T2.map .str)).immB 1 = true := imm1_strs T2
  refine fn0_ok (seq_set (d := P) (callF_ok (ds := [S]) rfl rfl eP) (seq_set (d := DL) (callF_ok (ds := [.int (at0 ns 17), .int (40 : Nat)]) (acons_ok (callF_ok (ds := [S, .int (17 : Nat)]) rfl rfl (ca 17 (by decide))) rfl) rfl eL) (seq_set (d := .lst (T0.map .str)) (callF_ok (ds := [P, DL]) rfl rfl em) (seq_set (d := GD) (clr_ok (call_ok (acons_ok rfl anil_ok) (by rw [hGD]; rfl)) (by rw [hGD]; exact imm1_strs T0)) (seq_nx e1 (seq_nx (for_ok (r1_nat (n := m) (acons_ok ((dm 29 3 (by decide) (by decide) rfl rfl).trans (by rw [em3])) anil_ok) (by omega)) hf) (ret_ok (d := .lst (T2.map .str)) rfl iT)))))))
/-! the law -/
theorem flt_lt {N S ws : List Str} {t : Nat} (h : fltW N S ws = some t) : t < 4 := by
  unfold fltW at h
  repeat' (first | (split at h) | (cases h; decide) | (cases h))
theorem first_lt : ∀ (l : List (List Str)) (N S : List Str) (k t j : Nat), firstW N S l k = some (t, j) → t < 4 ∧ k ≤ j ∧ j < k + l.length
  | [], N, S, k, t, j, h => by cases h
  | ws :: r, N, S, k, t, j, h => by
    unfold firstW at h
    split at h
    · rename_i t' e
      cases h
      exact ⟨flt_lt e, Nat.le_refl _, by rw [List.length_cons]; omega⟩
    · have := first_lt r _ _ _ _ _ h
      rw [List.length_cons]
      omega
theorem lines_join {T : List Str} (hT : ∀ y ∈ T, Ln y 900) (hl : T.length ≤ 30) {f : Store → Option D} {ρ : Store} (h : f ρ = some (.lst (T.map .str))) : e2 gJoin (eC (.str "\n")) f ρ = some (.str (Txt.join "\n" T)) ∧ sOk (Txt.join "\n" T) = true ∧ (Txt.join "\n" T).length + 2 ≤ 16777216 := by
  have j := joinN_len (ws := T) (B := 900) fun w m => (hT w m).le
  refine ⟨e2_ok rfl h (s_join (by omega)), sOk_of fun c m => ?_, by omega⟩
  rcases join_mem _ m with m | ⟨w, mw, m⟩
  · have : cs "\n" = [10] := by decide +kernel
    rw [this, List.mem_singleton] at m; omega
  · exact ((hT w mw).cl c m).1
theorem join_ne {T : List Str} (h1 : T ≠ []) (h2 : T ≠ [("" : Str)]) : Txt.join "\n" T ≠ "" := fun z => by
  have z : cs (Txt.join "\n" T) = [] := by rw [z]; decide +kernel
  rw [join_eq] at z
  match T, h1, h2 with
  | [], h1, _ => exact h1 rfl
  | [x], _, h2 =>
    refine h2 ?_
    have z : cs x = [] := z
    rw [show x = "" from cs_ext (z.trans (by decide +kernel))]
  | x :: y :: r, _, _ =>
    have z : cs (x ++ "\n" ++ Str.join "\n" (y :: r)) = [] := z
    rw [cs_add, cs_add, List.append_eq_nil_iff, List.append_eq_nil_iff] at z
    exact absurd z.1.2 (by decide +kernel)
theorem eq_one {T : List Str} (hT : ∀ y ∈ T, Ln y 900) : gEq false (.lst (T.map .str)) (.lst [.str ""]) = some (.bl (decide (T = [("" : Str)]))) := by
  have l1 : Lay (.lst (T.map .str)) 1 := Lay.lst (m := 0) fun w m => Lay.str (hT w m).ok
  have l2 : Lay (.lst [.str ""]) 1 := Lay.lst (m := 0) (xs := [("" : Str)]) (k := D.str) fun w m => Lay.str (by rw [List.mem_singleton.mp m]; decide +kernel)
  refine gEq_ok (l1.okE (by decide)) (l2.okE (by decide)) ?_
  match T with
  | [] => rfl
  | [x] =>
    show (D.eqv (.str x) (.str "") && true) = _
    rw [eqv_str, Bool.and_true]
    exact decide_eq_decide.mpr ⟨fun h => by rw [h], fun h => by cases h; rfl⟩
  | x :: y :: r =>
    show (D.eqv (.str x) (.str "") && false) = _
    rw [Bool.and_false]
    exact (decide_eq_false fun z => by cases z).symm
theorem law_loop {S : D} : ∀ (n p : Nat) (T : List Str), (∀ y ∈ T, Ln y 900) → T.length ≤ 30 → ∀ a2 a3, ∃ ρ', forD (gSet 2) lp_law_4 (ups (p : Int) n) [some S, some (.lst (T.map .str)), a2, a3] = some (.rt (.bl true) ρ') ∨ forD (gSet 2) lp_law_4 (ups (p : Int) n) [some S, some (.lst (T.map .str)), a2, a3] = some (.nx ρ')
  | 0, p, T, hT, hl, a2, a3 => ⟨_, .inr rfl⟩
  | n + 1, p, T, hT, hl, a2, a3 => by
    have fo := first_ok hT (by omega)
    have e0 : eClr 1 (eCall (callF 1 [] sem__law_first) (aCons (eVar 1) aNil)) [some S, some (.lst (T.map .str)), some (.int (p : Nat)), a3] = some (dueD (firstW [] [] (T.map wds) 0)) :=
      clr_ok (callF_ok (ds := [.lst (T.map .str)]) rfl rfl fo) (by cases firstW [] [] (T.map wds) 0 <;> rfl)
    have lj := fun (a : Option D) => lines_join hT hl (f := eVar 1) (ρ := [some S, some (.lst (T.map .str)), some (.int (p : Nat)), a]) rfl
    have c1 : tBo (e2 (gEq false) (eVar 1) (eLst (aCons (eC (.str "")) aNil))) [some S, some (.lst (T.map .str)), some (.int (p : Nat)), some (dueD (firstW [] [] (T.map wds) 0))] = some (decide (T = [("" : Str)])) := tbo_ok (e2_ok rfl (elst_ok rfl (by decide)) (eq_one hT))
    rw [ups_cons]
    have good : ∀ (due : D), due = .lst [] → sem__law_right [.str (Txt.join "\n" T), .lst []] = some (.bl true) → if_law_1 [some S, some (.lst (T.map .str)), some (.int (p : Nat)), some (dueD (firstW [] [] (T.map wds) 0))] = some (.nx [some S, some (.lst (T.map .str)), some (.int (p : Nat)), some due]) → ∃ ρ', forD (gSet 2) lp_law_4 (.int (p : Int) :: ups ((p + 1 : Nat) : Int) n) [some S, some (.lst (T.map .str)), a2, a3] = some (.rt (.bl true) ρ') := fun due hd hr h1 => by
      subst hd
      have c2 : bNot (tBo (eCall (callF 2 [] sem__law_right) (aCons (e2 gJoin (eC (.str "\n")) (eVar 1)) (aCons (eVar 3) aNil)))) [some S, some (.lst (T.map .str)), some (.int (p : Nat)), some (.lst [])] = some false := bNot_ok (tbo_ok (callF_ok (ds := [.str (Txt.join "\n" T), .lst []]) (acons_ok (lj _).1 rfl) rfl hr))
      have c3 : tBo (e2 (gEq false) (eVar 3) (eLst aNil)) [some S, some (.lst (T.map .str)), some (.int (p : Nat)), some (.lst [])] = some true := tbo_ok (e2_ok rfl (elst_ok anil_ok (by decide)) (eq_nil okE_nil))
      exact ⟨_, forD_rt rfl (seq_set e0 (seq_nx h1 (seq_nx (if_f c2 rfl) (seq_rt (if_t c3 (ret_ok rfl rfl))))))⟩
    by_cases h1 : T = [("" : Str)]
    · rw [decide_eq_true h1] at c1
      obtain ⟨a, b, c, rb⟩ := book_ok (x := Txt.join "\n" T) (L := []) (lj none).2.1 (lj none).2.2 (.inl ⟨by rw [h1]; decide +kernel, rfl⟩) (fun y m => (nomatch m)) (by decide)
      obtain ⟨ρ', h⟩ := good _ rfl (right_none rb) (if_t c1 (set_ok (elst_ok anil_ok (by decide))))
      exact ⟨ρ', .inl h⟩
    · rw [decide_eq_false h1] at c1
      have bk := book_ok (x := Txt.join "\n" T) (L := T) (lj none).2.1 (lj none).2.2 (by
        by_cases h0 : T = []
        · exact .inl ⟨by rw [h0]; decide +kernel, h0⟩
        · exact .inr ⟨join_ne h0 h1, split_joinN h0 fun w m m10 => ((hT w m).cl 10 m10).2 rfl⟩) hT (by omega)
      cases ef : firstW [] [] (T.map wds) 0 with
      | none =>
        rw [ef] at bk
        obtain ⟨a, b, c, rb⟩ := bk
        obtain ⟨ρ', h⟩ := good _ (by rw [ef]; rfl) (right_none rb) (if_f c1 rfl)
        exact ⟨ρ', .inl h⟩
      | some tk =>
        obtain ⟨t, k⟩ := tk
        rw [ef] at bk e0 c1
        obtain ⟨t4, _, kl⟩ := first_lt _ _ _ _ _ _ ef
        rw [List.length_map] at kl
        have kl : k < T.length := by omega
        have hr := right_exc t4 bk
        obtain ⟨DU, hDU⟩ : ∃ DU : D, DU = .lst [.int (t : Nat), .int (k : Nat)] := ⟨_, rfl⟩
        have e0' := e0
        have d1 : gIx DU (.int 1) = some (.int (k : Nat)) := by rw [hDU]; rfl
        have dn : gEq false DU (.lst []) = some (.bl false) := by
          rw [hDU]
          exact eq_iln (xs := [(t : Int), (k : Int)])
        have eD : dueD (some (t, k)) = DU := by rw [hDU]; rfl
        rw [eD] at e0 c1
        rw [← hDU] at hr
        have c2 : bNot (tBo (eCall (callF 2 [] sem__law_right) (aCons (e2 gJoin (eC (.str "\n")) (eVar 1)) (aCons (eVar 3) aNil)))) [some S, some (.lst (T.map .str)), some (.int (p : Nat)), some DU] = some false := bNot_ok (tbo_ok (callF_ok (ds := [.str (Txt.join "\n" T), DU]) (acons_ok (lj _).1 rfl) rfl hr))
        have c3 : tBo (e2 (gEq false) (eVar 3) (eLst aNil)) [some S, some (.lst (T.map .str)), some (.int (p : Nat)), some DU] = some false := tbo_ok (e2_ok rfl (elst_ok anil_ok (by decide)) dn)
        have pp := pop_ok (f := eClr 0 (e2 gIx (eVar 3) (eC (.int 1)))) (ρ := [some S, some (.lst (T.map .str)), some (.int (p : Nat)), some DU]) (i := 1) (ds := T.map .str) (k := k) rfl (clr_ok (e2_ok rfl rfl d1) s_immI) rfl (by rw [List.length_map]; exact kl) (by omega)
        rw [er_map] at pp
        have dp : sDropX (xPop 1 (eClr 0 (e2 gIx (eVar 3) (eC (.int 1))))) [some S, some (.lst (T.map .str)), some (.int (p : Nat)), some DU] = some (.nx [some S, some (.lst ((T.eraseIdx k).map .str)), some (.int (p : Nat)), some DU]) := by
          unfold sDropX
          rw [pp]; rfl
        obtain ⟨ρ', h⟩ := law_loop (S := S) n (p + 1) (T.eraseIdx k) (er_ln hT) (by have := len_erase kl; omega) (some (.int (p : Nat))) (some DU)
        have tn : lp_law_4 [some S, some (.lst (T.map .str)), some (.int (p : Nat)), a3] = some (.nx [some S, some (.lst ((T.eraseIdx k).map .str)), some (.int (p : Nat)), some DU]) := seq_set e0 (seq_nx (if_f c1 rfl) (seq_nx (if_f c2 rfl) (seq_nx (if_f c3 rfl) dp)))
        rcases h with h | h
        · exact ⟨ρ', .inl (forD_nx rfl tn h)⟩
        · exact ⟨ρ', .inr (forD_nx rfl tn h)⟩
theorem law_true (ns : List Int) (hl : ns.length ≤ 63) : sem_law [.lst (ns.map .int)] = some (.bl true) := by
  obtain ⟨T, h1, h2, h3⟩ := spoilt_ok ns
  obtain ⟨ρ', h⟩ := law_loop (S := .lst (ns.map .int)) 3 0 T h1 h2 none none
  rcases h with h | h
  · exact fn0_ok (seq_set (d := .lst (T.map .str)) (callF_ok (ds := [.lst (ns.map .int)]) rfl rfl h3) (seq_rt (for_ok (r1_nat (n := 3) rfl (by decide)) h)))
  · exact fn0_ok (seq_set (d := .lst (T.map .str)) (callF_ok (ds := [.lst (ns.map .int)]) rfl rfl h3) (seq_nx (for_ok (r1_nat (n := 3) rfl (by decide)) h) (ret_ok (d := .bl true) rfl rfl)))
end K04

set_option maxHeartbeats 4000000
namespace K04
open PySem PySem.Spec L2 VL
open PyProof.Rows hiding St
def topS (i : Nat) : Stmt := PySem.Challenge.pw_hatsight_k04_first_fault.main.body.getD i (.Pass ⟨0, 0, 0, 0⟩)
structure Cf (K : PySem.W.Frag) (mg : Str → Option Value) : Prop where
  b : BaseC K
  l_NoLine : LineC K "NoLine" [("TooMany", false), ("Unknown", false), ("Twice", false), ("NoLine", true), ("HatError", true)] [("ValueError", true)]
  l_Twice : LineC K "Twice" [("TooMany", false), ("Unknown", false), ("Twice", true), ("NoLine", false), ("HatError", true)] [("ValueError", true)]
  l_TooMany : LineC K "TooMany" [("TooMany", true), ("Unknown", false), ("Twice", false), ("NoLine", false), ("HatError", true)] [("ValueError", true)]
  l_Unknown : LineC K "Unknown" [("TooMany", false), ("Unknown", true), ("Twice", false), ("NoLine", false), ("HatError", true)] [("ValueError", true)]
  g_NoLine : mg "NoLine" = some (.ref (He.ga K "NoLine"))
  g_Twice : mg "Twice" = some (.ref (He.ga K "Twice"))
  g_TooMany : mg "TooMany" = some (.ref (He.ga K "TooMany"))
  g_Unknown : mg "Unknown" = some (.ref (He.ga K "Unknown"))
  g_HatError : mg "HatError" = some (.ref (He.ga K "HatError"))
  g_LineError : mg "LineError" = some (.ref (He.ga K "LineError"))
theorem excC_f {K : PySem.W.Frag} {mg : Str → Option Value} (cf : Cf K mg) : ∀ t, t < 4 → ExcC K (He.ga K (csN t))
  | 0, _ => cf.l_NoLine.k.c
  | 1, _ => cf.l_Twice.k.c
  | 2, _ => cf.l_TooMany.k.c
  | 3, _ => cf.l_Unknown.k.c
  | n + 4, h => absurd h (by omega)
theorem xf_f {K : PySem.W.Frag} {mg : Str → Option Value} (cf : Cf K mg) : ∀ t, t < 4 → XfC K (He.ga K (csN t))
  | 0, _ => cf.l_NoLine.xf
  | 1, _ => cf.l_Twice.xf
  | 2, _ => cf.l_TooMany.xf
  | 3, _ => cf.l_Unknown.xf
  | n + 4, h => absurd h (by omega)
theorem no_f {K : PySem.W.Frag} {mg : Str → Option Value} (cf : Cf K mg) : ∀ t, t < 4 → PySem.W.findIn K (.ref (He.ga K (csN t))) "line" = some none
  | 0, _ => cf.l_NoLine.F.no
  | 1, _ => cf.l_Twice.F.no
  | 2, _ => cf.l_TooMany.F.no
  | 3, _ => cf.l_Unknown.F.no
  | n + 4, h => absurd h (by omega)
theorem exm_f {K : PySem.W.Frag} {mg : Str → Option Value} (cf : Cf K mg) : ∀ t, t < 4 → PySem.W.exmOne K (.ref (He.ga K (csN t))) (.ref (He.ga K "LineError")) = some true
  | 0, _ => cf.l_NoLine.ex
  | 1, _ => cf.l_Twice.ex
  | 2, _ => cf.l_TooMany.ex
  | 3, _ => cf.l_Unknown.ex
  | n + 4, h => absurd h (by omega)
theorem kit_TooMany {K : PySem.W.Frag} {mg : Str → Option Value} (cf : Cf K mg) : ∀ t, t < 4 → PySem.W.kitOne K (.ref (He.ga K (csN t))) (.ref (He.ga K "TooMany")) = some (kb_TooMany t)
  | 0, _ => cf.l_NoLine.k.o (.head _)
  | 1, _ => cf.l_Twice.k.o (.head _)
  | 2, _ => cf.l_TooMany.k.o (.head _)
  | 3, _ => cf.l_Unknown.k.o (.head _)
  | n + 4, h => absurd h (by omega)
theorem kit_Unknown {K : PySem.W.Frag} {mg : Str → Option Value} (cf : Cf K mg) : ∀ t, t < 4 → PySem.W.kitOne K (.ref (He.ga K (csN t))) (.ref (He.ga K "Unknown")) = some (kb_Unknown t)
  | 0, _ => cf.l_NoLine.k.o (.tail _ (.head _))
  | 1, _ => cf.l_Twice.k.o (.tail _ (.head _))
  | 2, _ => cf.l_TooMany.k.o (.tail _ (.head _))
  | 3, _ => cf.l_Unknown.k.o (.tail _ (.head _))
  | n + 4, h => absurd h (by omega)
theorem kit_Twice {K : PySem.W.Frag} {mg : Str → Option Value} (cf : Cf K mg) : ∀ t, t < 4 → PySem.W.kitOne K (.ref (He.ga K (csN t))) (.ref (He.ga K "Twice")) = some (kb_Twice t)
  | 0, _ => cf.l_NoLine.k.o (.tail _ (.tail _ (.head _)))
  | 1, _ => cf.l_Twice.k.o (.tail _ (.tail _ (.head _)))
  | 2, _ => cf.l_TooMany.k.o (.tail _ (.tail _ (.head _)))
  | 3, _ => cf.l_Unknown.k.o (.tail _ (.tail _ (.head _)))
  | n + 4, h => absurd h (by omega)
theorem kit_NoLine {K : PySem.W.Frag} {mg : Str → Option Value} (cf : Cf K mg) : ∀ t, t < 4 → PySem.W.kitOne K (.ref (He.ga K (csN t))) (.ref (He.ga K "NoLine")) = some (kb_NoLine t)
  | 0, _ => cf.l_NoLine.k.o (.tail _ (.tail _ (.tail _ (.head _))))
  | 1, _ => cf.l_Twice.k.o (.tail _ (.tail _ (.tail _ (.head _))))
  | 2, _ => cf.l_TooMany.k.o (.tail _ (.tail _ (.tail _ (.head _))))
  | 3, _ => cf.l_Unknown.k.o (.tail _ (.tail _ (.tail _ (.head _))))
  | n + 4, h => absurd h (by omega)
theorem kit_HatError {K : PySem.W.Frag} {mg : Str → Option Value} (cf : Cf K mg) : ∀ t, t < 4 → PySem.W.kitOne K (.ref (He.ga K (csN t))) (.ref (He.ga K "HatError")) = some (kb_HatError t)
  | 0, _ => cf.l_NoLine.k.o (.tail _ (.tail _ (.tail _ (.tail _ (.head _)))))
  | 1, _ => cf.l_Twice.k.o (.tail _ (.tail _ (.tail _ (.tail _ (.head _)))))
  | 2, _ => cf.l_TooMany.k.o (.tail _ (.tail _ (.tail _ (.tail _ (.head _)))))
  | 3, _ => cf.l_Unknown.k.o (.tail _ (.tail _ (.tail _ (.tail _ (.head _)))))
  | n + 4, h => absurd h (by omega)
theorem kit_ValueError {K : PySem.W.Frag} {mg : Str → Option Value} (cf : Cf K mg) : ∀ t, t < 4 → PySem.W.kitOne K (.ref (He.ga K (csN t))) (.type "ValueError") = some (kb_ValueError t)
  | 0, _ => cf.l_NoLine.k.t (.head _)
  | 1, _ => cf.l_Twice.k.t (.head _)
  | 2, _ => cf.l_TooMany.k.t (.head _)
  | 3, _ => cf.l_Unknown.k.t (.head _)
  | n + 4, h => absurd h (by omega)
structure Bf (mg : Str → Option Value) : Prop where
  f_ValueError : mg "ValueError" = none
  f_bool : mg "bool" = none
  f_enumerate : mg "enumerate" = none
  f_int : mg "int" = none
  f_isinstance : mg "isinstance" = none
  f_len : mg "len" = none
  f_list : mg "list" = none
  f_max : mg "max" = none
  f_range : mg "range" = none
  f_set : mg "set" = none
  f_str : mg "str" = none
  f_sum : mg "sum" = none
  f_tuple : mg "tuple" = none
  g_FIGURES : ∃ t, mg "FIGURES" = some (.str "0123456789" t)
  g_MOST_FIGURES : ∃ t, mg "MOST_FIGURES" = some (.int 30 t)
  g_MOST_PEOPLE : ∃ t, mg "MOST_PEOPLE" = some (.int 8 t)
  g_MOST_SIGNS : ∃ t, mg "MOST_SIGNS" = some (.int 12 t)
  g_SMALL : ∃ t, mg "SMALL" = some (.str "abcdefghijklmnopqrstuvwxyz" t)
abbrev st_ini : Stmt := match topS 2 with | .ClassDef _ _ _ b _ _ _ _ _ _ _ => b.getD 0 (.Pass ⟨0, 0, 0, 0⟩) | _ => .Pass ⟨0, 0, 0, 0⟩
theorem ok_ini {P : Program} {w : World} {K : PySem.W.Frag} {mg : Str → Option Value} {base : Heap} (cf : Cf K mg) {fd : FuncData} (F : FunD K "__init__" "LineError.__init__" (defArgs st_ini) (defBody st_ini) (defScope st_ini) [] [] (He.fAd K fIni) fd) : IniF P w K mg base :=
  ⟨fd, fn_ini F ⟨rfl, rfl, rfl, by decide +kernel, rfl, by decide +kernel, by decide +kernel⟩ rfl (fun _ _ _ _ _ _ => by rfl) cf.g_HatError cf.b.s cf.b.t cf.b.v (fun _ _ _ _ _ _ => ⟨_, by rfl⟩), F.bindsN (fun _ _ _ _ _ _ us hl => match us, hl with | [_, _], _ => rfl)⟩
abbrev st_made_of : Stmt := topS 13
abbrev sco_made_of : Scope := defScope st_made_of
abbrev N_made_of : List Str := ["text", "signs", "most", "sign"]
theorem fs_made_of : FnScope N_made_of ["text", "signs", "most"] sco_made_of := ⟨rfl, rfl, rfl, by decide +kernel, rfl, by decide +kernel, by decide +kernel⟩
theorem ok_made_of {P : Program} {w : World} {K : PySem.W.Frag} {mg : Str → Option Value} {base : Heap} (bf : Bf mg) (cf : Cf K mg) (ini : IniF P w K mg base) {f : Addr} {fd : FuncData} (F : FunD K "made_of" "made_of" (defArgs st_made_of) (defBody st_made_of) sco_made_of [] [] f fd) (gf : mg "made_of" = some (.ref f)) :
    Cal P w K mg base 1 "made_of" 3 0 sem_made_of [] [] := by
  refine cal_mk (N := N_made_of) (k := 0) (ps := ["text", "signs", "most"]) (F := body_made_of) F gf fs_made_of (fun _ _ _ _ _ _ us hl => match us, hl with | [_, _, _], _ => rfl) fun cdv A outer s H E hr => ?_
  have nd := fs_made_of.nd
  exact ⟨_, List.replicate 4 0, [], (lv_cons (sv_for PassesOwn.never rfl (iv_str (vv 0)) (g_name 3 nd) (lv_one (sv_if (tv_cmp op_notIn_sign o2_notInS (vv 3) (vv 1) rfl) (lv_one (s_ret ev_bl)) lv_nil))) (lv_one (s_ret (ev_chain op_le op_le ev_int (ev_callB (xc_len (K := K)) oa_len (by rfl) bf.f_len PySem.boot_len (av_cons (vv 0) av_nil)) (vv 2)))))⟩
abbrev st_are_names : Stmt := topS 14
abbrev sco_are_names : Scope := defScope st_are_names
abbrev N_are_names : List Str := ["words", "word"]
theorem fs_are_names : FnScope N_are_names ["words"] sco_are_names := ⟨rfl, rfl, rfl, by decide +kernel, rfl, by decide +kernel, by decide +kernel⟩
theorem ok_are_names {P : Program} {w : World} {K : PySem.W.Frag} {mg : Str → Option Value} {base : Heap} (bf : Bf mg) (cf : Cf K mg) (ini : IniF P w K mg base) {f : Addr} {fd : FuncData} (F : FunD K "are_names" "are_names" (defArgs st_are_names) (defBody st_are_names) sco_are_names [] [] f fd) (gf : mg "are_names" = some (.ref f)) (c_made_of : Cal P w K mg base 1 "made_of" 3 0 sem_made_of [] []) :
    Cal P w K mg base 2 "are_names" 1 0 sem_are_names [] [] := by
  refine cal_mk (N := N_are_names) (k := 1) (ps := ["words"]) (F := body_are_names) F gf fs_are_names (fun _ _ _ _ _ _ us hl => match us, hl with | [_], _ => rfl) fun cdv A outer s H E hr => ?_
  have nd := fs_are_names.nd
  exact ⟨_, List.replicate 2 0, [], (lv_one (s_ret (ev_cmp (xop_eq (K := K) hr.units) o2_eq (ev_lc (own := [("word", 1)]) rfl nd (xiv_list (K := K) (vv 0)) (blkOk_by (N := N_are_names) (sc := sco_are_names) (by decide +kernel)) (fun _ _ _ _ _ => (g_name 1 nd)) (fun _ _ _ _ _ => (tsv_one (tv_not (tv_val (xev_cal c_made_of hr (by decide) (by rfl) (av_cons (vv 1) (av_cons (ev_gs bf.g_SMALL) (av_cons (ev_gi bf.g_MOST_SIGNS) av_nil)))))))) (fun _ _ _ _ _ => (vv 1)) (by decide) (by decide)) (ev_lst (k := 0) av_nil) (nomark _))))⟩
abbrev st_read_line : Stmt := topS 15
abbrev sco_read_line : Scope := defScope st_read_line
abbrev N_read_line : List Str := ["text", "line", "words"]
theorem fs_read_line : FnScope N_read_line ["text", "line"] sco_read_line := ⟨rfl, rfl, rfl, by decide +kernel, rfl, by decide +kernel, by decide +kernel⟩
theorem ok_read_line {P : Program} {w : World} {K : PySem.W.Frag} {mg : Str → Option Value} {base : Heap} (bf : Bf mg) (cf : Cf K mg) (ini : IniF P w K mg base) {f : Addr} {fd : FuncData} (F : FunD K "read_line" "read_line" (defArgs st_read_line) (defBody st_read_line) sco_read_line [(.int 0)] [] f fd) (gf : mg "read_line" = some (.ref f)) (c_are_names : Cal P w K mg base 2 "are_names" 1 0 sem_are_names [] []) (c_made_of : Cal P w K mg base 1 "made_of" 3 0 sem_made_of [] []) :
    CalYD P w K mg base (fun t => He.ga K (csN t)) 3 "read_line" 1 0 sem_read_line "line" (.int 0) (.int 0) := by
  refine calYD_mk (N := N_read_line) (k := 2) (ps := ["text", "line"]) (F := body_read_line) (cs := fun t => He.ga K (csN t)) F gf fs_read_line rfl .int (DflOk.mk' (ps := ["text", "line"]) F (by decide) (fun _ _ _ _ _ _ _ us its h1 h2 => match us, its, h1, h2 with | [_], [_], _, _ => ⟨_, rfl, rfl⟩) (fun _ _ _ _ _ _ _ us its h1 h2 => match us, its, h1, h2 with | [_, _], [_], _, _ => ⟨_, rfl, rfl⟩) (fun _ _ _ _ _ _ _ us its ws h1 h2 h3 => match us, its, ws, h1, h2, h3 with | [_], [_], [_], _, _, _ => ⟨_, rfl, rfl⟩)) fun cdv A outer s H E hr => ?_
  have nd := fs_read_line.nd
  exact ⟨_, List.replicate 3 0, [], (lv_cons (s_set 2 ((ev_split (vv 0) ev_str)).share nd) (lv_cons (sv_if (wv_and (tv_cmp (xop_eq (K := K) hr.units) o2_eq (xev_ix (K := K) (vv 2) ev_int (fun _ _ => rfl)) ev_str (nomark _)) (wv_and (tv_cmp (xop_eq (K := K) hr.units) o2_eq (ev_callB (xc_len (K := K)) oa_len (by rfl) bf.f_len PySem.boot_len (av_cons (vv 2) av_nil)) ev_int (nomark _)) (wv_and1 (tv_val (xev_cal c_are_names hr (by decide) (by rfl) (av_cons ((ev_sl (xsl_list (K := K)) os_list (vv 2) (ov_some ev_int) (ov_some ev_int))).share av_nil)))))).tv (lv_one (sv_if (wv_and (tv_val (xev_cal c_made_of hr (by decide) (by rfl) (av_cons (xev_ix (K := K) (vv 2) ev_int (fun _ _ => rfl)) (av_cons (ev_gs bf.g_FIGURES) (av_cons (ev_gi bf.g_MOST_FIGURES) av_nil))))) (wv_and1 (tv_cmp (xop_ne (K := K) hr.units) o2_ne (xev_ix (K := K) (xev_ix (K := K) (vv 2) ev_int (fun _ _ => rfl)) ev_int (fun _ _ => rfl)) ev_str (nomark _)))).tv (lv_one (s_ret (ev_tup (k := 0) (av_cons ev_str (av_cons (xev_ix (K := K) (vv 2) ev_int (fun _ _ => rfl)) (av_cons (ev_callTy call_int_str oa_intS (by rfl) bf.f_int (by decide +kernel) (av_cons (xev_ix (K := K) (vv 2) ev_int (fun _ _ => rfl)) av_nil)) av_nil)))))) lv_nil)) lv_nil) (lv_cons (sv_if (wv_or (tv_cmp (xop_ne (K := K) hr.units) o2_ne (xev_ix (K := K) (vv 2) ev_int (fun _ _ => rfl)) ev_str (nomark _)) (wv_or (tv_cmp op_lt o2_cmp (ev_callB (xc_len (K := K)) oa_len (by rfl) bf.f_len PySem.boot_len (av_cons (vv 2) av_nil)) ev_int (nomark _)) (wv_or1 (tv_not (tv_val (xev_cal c_are_names hr (by decide) (by rfl) (av_cons ((ev_sl (xsl_list (K := K)) os_list (vv 2) (ov_some ev_int) ov_none)).share av_nil))))))).tv (lv_one (s_raiseL (t := 0) ini cf.l_NoLine cf.g_NoLine hr (by decide) (by rfl) (by rfl) (takes_of (by rfl) (by rfl) (by rfl) (by rfl)) (by rfl) (vv 1))) lv_nil) (lv_cons (sv_if (tv_cmp op_lt o2_cmp (xev_lenSetS (K := K) rfl (by rfl) bf.f_len (by rfl) bf.f_set (ev_sl (xsl_list (K := K)) os_list (vv 2) (ov_some ev_int) ov_none)) (ev_op op_sub o2_Iu (ev_callB (xc_len (K := K)) oa_len (by rfl) bf.f_len PySem.boot_len (av_cons (vv 2) av_nil)) ev_int) (nomark _)) (lv_one (s_raiseL (t := 1) ini cf.l_Twice cf.g_Twice hr (by decide) (by rfl) (by rfl) (takes_of (by rfl) (by rfl) (by rfl) (by rfl)) (by rfl) (vv 1))) lv_nil) (lv_one (s_ret (ev_tup (k := 0) (av_cons ev_str (av_cons (xev_ix (K := K) (vv 2) ev_int (fun _ _ => rfl)) (av_cons (ev_callTy (xc_tuple (K := K)) oa_tuple (by rfl) bf.f_tuple (by decide +kernel) (av_cons ((ev_sl (xsl_list (K := K)) os_list (vv 2) (ov_some ev_int) ov_none)).share av_nil)) av_nil))))))))))⟩
abbrev st_read_hat : Stmt := topS 16
abbrev sco_read_hat : Scope := defScope st_read_hat
abbrev N_read_hat : List Str := ["counts", "parts", "line"]
theorem fs_read_hat : FnScope N_read_hat ["counts", "parts", "line"] sco_read_hat := ⟨rfl, rfl, rfl, by decide +kernel, rfl, by decide +kernel, by decide +kernel⟩
theorem ok_read_hat {P : Program} {w : World} {K : PySem.W.Frag} {mg : Str → Option Value} {base : Heap} (bf : Bf mg) (cf : Cf K mg) (ini : IniF P w K mg base) {f : Addr} {fd : FuncData} (F : FunD K "read_hat" "read_hat" (defArgs st_read_hat) (defBody st_read_hat) sco_read_hat [] [] f fd) (gf : mg "read_hat" = some (.ref f)) :
    CalZ P w K mg base (fun t => He.ga K (csN t)) 3 "read_hat" 0 3 sem_read_hat := by
  refine calZ_mk (N := N_read_hat) (k := 2) (ps := ["counts", "parts", "line"]) (F := body_read_hat) (cs := fun t => He.ga K (csN t)) F gf fs_read_hat (fun _ _ _ _ _ _ us hl => match us, hl with | [_, _, _], _ => rfl) (by decide) fun cdv A outer s H E hr => ?_
  have nd := fs_read_hat.nd
  exact ⟨_, ((List.replicate 3 0).set 0 1), ((List.replicate 3 0).set 0 1), rfl, (lv_cons (sv_if (.lendIn 0 (tv_dinK hr.units (xev_ix (K := K) (vv 1) ev_int (fun _ _ => rfl)) (vv 0))) (lv_one (s_raiseL (t := 1) ini cf.l_Twice cf.g_Twice hr (by decide) (by rfl) (by rfl) (takes_of (by rfl) (by rfl) (by rfl) (by rfl)) (by rfl) (vv 2))) lv_nil) (lv_cons (sv_if (.lendIn 0 (tv_cmp (xop_eq (K := K) hr.units) o2_eq (ev_callB call_lenD oa_lenD (by rfl) bf.f_len PySem.boot_len (av_cons (vv 0) av_nil)) (ev_gi bf.g_MOST_PEOPLE) (nomark _))) (lv_one (s_raiseL (t := 2) ini cf.l_TooMany cf.g_TooMany hr (by decide) (by rfl) (by rfl) (takes_of (by rfl) (by rfl) (by rfl) (by rfl)) (by rfl) (vv 2))) lv_nil) (lv_one (s_setdK 0 hr.units (xev_ix (K := K) (vv 1) ev_int (fun _ _ => rfl)) (xev_ix (K := K) (vv 1) ev_int (fun _ _ => rfl))))))⟩
abbrev st_read_sight : Stmt := topS 17
abbrev sco_read_sight : Scope := defScope st_read_sight
abbrev N_read_sight : List Str := ["counts", "seen", "parts", "line", "name"]
theorem fs_read_sight : FnScope N_read_sight ["counts", "seen", "parts", "line"] sco_read_sight := ⟨rfl, rfl, rfl, by decide +kernel, rfl, by decide +kernel, by decide +kernel⟩
theorem ok_read_sight {P : Program} {w : World} {K : PySem.W.Frag} {mg : Str → Option Value} {base : Heap} (bf : Bf mg) (cf : Cf K mg) (ini : IniF P w K mg base) {f : Addr} {fd : FuncData} (F : FunD K "read_sight" "read_sight" (defArgs st_read_sight) (defBody st_read_sight) sco_read_sight [] [] f fd) (gf : mg "read_sight" = some (.ref f)) :
    CalZ P w K mg base (fun t => He.ga K (csN t)) 3 "read_sight" 1 4 sem_read_sight := by
  refine calZ_mk (N := N_read_sight) (k := 2) (ps := ["counts", "seen", "parts", "line"]) (F := body_read_sight) (cs := fun t => He.ga K (csN t)) F gf fs_read_sight (fun _ _ _ _ _ _ us hl => match us, hl with | [_, _, _, _], _ => rfl) (by decide) fun cdv A outer s H E hr => ?_
  have nd := fs_read_sight.nd
  exact ⟨_, ((List.replicate 5 0).set 1 1), ((List.replicate 5 0).set 1 1), rfl, (lv_cons (sv_if (.lendIn 1 (tv_dinK hr.units (xev_ix (K := K) (vv 2) ev_int (fun _ _ => rfl)) (vv 1))) (lv_one (s_raiseL (t := 1) ini cf.l_Twice cf.g_Twice hr (by decide) (by rfl) (by rfl) (takes_of (by rfl) (by rfl) (by rfl) (by rfl)) (by rfl) (vv 3))) lv_nil) (lv_cons (sv_for (passes_of (by rfl)) rfl (xiv_tup (K := K) (ev_op (xop_addA (K := K)) o2_add (ev_sl (xsl_tup (K := K)) os_tup (vv 2) (ov_some ev_int) (ov_some ev_int)) (xev_ix (K := K) (vv 2) ev_int (fun _ _ => rfl)))) (g_name 4 nd) (lv_one (sv_if (tv_dninK hr.units (vv 4) (vv 0)) (lv_one (s_raiseL (t := 3) ini cf.l_Unknown cf.g_Unknown hr (by decide) (by rfl) (by rfl) (takes_of (by rfl) (by rfl) (by rfl) (by rfl)) (by rfl) (vv 3))) lv_nil))) (lv_one (s_setdK 1 hr.units (xev_ix (K := K) (vv 2) ev_int (fun _ _ => rfl)) (xev_ix (K := K) (vv 2) ev_int (fun _ _ => rfl))))))⟩
abbrev st_read_book : Stmt := topS 18
abbrev sco_read_book : Scope := defScope st_read_book
abbrev N_read_book : List Str := ["text", "lines", "counts", "seen", "line", "row", "parts", "names", "web", "name", "other"]
theorem fs_read_book : FnScope N_read_book ["text"] sco_read_book := ⟨rfl, rfl, rfl, by decide +kernel, rfl, by decide +kernel, by decide +kernel⟩
theorem ok_read_book {P : Program} {w : World} {K : PySem.W.Frag} {mg : Str → Option Value} {base : Heap} (bf : Bf mg) (cf : Cf K mg) (ini : IniF P w K mg base) {f : Addr} {fd : FuncData} (F : FunD K "read_book" "read_book" (defArgs st_read_book) (defBody st_read_book) sco_read_book [] [] f fd) (gf : mg "read_book" = some (.ref f)) (c_read_line : CalYD P w K mg base (fun t => He.ga K (csN t)) 3 "read_line" 1 0 sem_read_line "line" (.int 0) (.int 0)) (c_read_hat : CalZ P w K mg base (fun t => He.ga K (csN t)) 3 "read_hat" 0 3 sem_read_hat) (c_read_sight : CalZ P w K mg base (fun t => He.ga K (csN t)) 3 "read_sight" 1 4 sem_read_sight) :
    CalY P w K mg base (fun t => He.ga K (csN t)) 4 "read_book" 1 0 sem_read_book := by
  refine calY_mk (N := N_read_book) (k := 3) (ps := ["text"]) (F := body_read_book) (cs := fun t => He.ga K (csN t)) F gf fs_read_book (fun _ _ _ _ _ _ us hl => match us, hl with | [_], _ => rfl) fun cdv A outer s H E hr => ?_
  have nd := fs_read_book.nd
  exact ⟨_, List.replicate 11 0, [], (lv_cons (s_set 1 ((ev_lst (k := 0) av_nil)).share nd) (lv_cons (sv_if (tv_cmp (xop_ne (K := K) hr.units) o2_ne (vv 0) ev_str (nomark _)) (lv_one (s_set 1 ((ev_split (vv 0) ev_str)).share nd)) lv_nil) (lv_cons (s_set 2 ev_dct0 nd) (lv_cons (s_set 3 ev_dct0 nd) (lv_cons (sv_for (passes_of (by rfl)) rfl (xiv_enumL (K := K) (by rfl) bf.f_enumerate (vv 1)) (g_two (K := K) 4 5 nd) (lv_cons (s_setY (k0 := 6) c_read_line.c1 hr (by decide) (takes_of (by rfl) (by rfl) (by rfl) (by rfl)) nd (by rfl) (by rfl) (av_cons (vv 5) (av_cons (vv 4) av_nil)) (by decide) (by rfl)) (lv_one (sv_if (tv_cmp (xop_eq (K := K) hr.units) o2_eq (xev_ix (K := K) (vv 6) ev_int (fun _ _ => rfl)) ev_str (nomark _)) (lv_one (s_callZ0 (i := 2) c_read_hat hr (by decide) (takes_of (by rfl) (by rfl) (by rfl) (by rfl)) (by rfl) rfl rfl (by decide) (av_cons (vv 6) (av_cons (vv 4) av_nil)))) (lv_one (s_callZ1 (i := 3) c_read_sight hr (by decide) (takes_of (by rfl) (by rfl) (by rfl) (by rfl)) (by rfl) rfl rfl (by decide) (by decide) (.lendIn 2 (vv 2)) (av_cons (vv 6) (av_cons (vv 4) av_nil)))))))) (lv_cons (s_set 7 (Ev.clr (.lendIn 2 (ev_callTy (call_listD rfl) oa_listD (by rfl) bf.f_list (by decide +kernel) (av_cons (vv 2) av_nil)))) nd) (lv_cons (s_set 8 (ev_lst (k := 0) av_nil) nd) (lv_cons (.demIn 7 (sv_for (passes_of (by rfl)) rfl (xiv_list (K := K) (vv 7)) (g_name 9 nd) (lv_one (s_append 8 (Ev.clr (.lendIn 3 (ev_callB (xc_sum (K := K) rfl) oa_sum (by rfl) bf.f_sum (by decide +kernel) (av_cons ((ev_lc (own := [("other", 10)]) rfl nd (xiv_tup (K := K) (ev_dget hr.units (vv 3) (vv 9) (ev_tup (k := 0) av_nil))) (blkOk_by (N := N_read_book) (sc := sco_read_book) (by decide +kernel)) (fun _ _ _ _ _ => (g_name 10 nd)) (fun _ _ _ _ _ => tsv_nil) (fun _ _ _ _ _ => (ev_op op_shlW o2_shl ev_int (xev_idx (K := K) (vv 7) (vv 10)))) (by decide) (by decide))).share av_nil)))))))) (lv_one (s_ret (.lendIn 2 (.lendIn 8 (ev_tup (k := 0) (av_cons (ev_callTy (xc_tuple (K := K)) oa_tuple (by rfl) bf.f_tuple (by decide +kernel) (av_cons (vv 7) av_nil)) (av_cons (ev_tupVals rfl (by rfl) bf.f_tuple (vv 2)) (av_cons (ev_callTy (xc_tuple (K := K)) oa_tuple (by rfl) bf.f_tuple (by decide +kernel) (av_cons (vv 8) av_nil)) av_nil))))))))))))))))⟩
abbrev st__law_draws : Stmt := topS 20
abbrev sco__law_draws : Scope := defScope st__law_draws
abbrev N__law_draws : List Str := ["cell", "count", "number", "drawn", "k"]
theorem fs__law_draws : FnScope N__law_draws ["cell", "count"] sco__law_draws := ⟨rfl, rfl, rfl, by decide +kernel, rfl, by decide +kernel, by decide +kernel⟩
theorem ok__law_draws {P : Program} {w : World} {K : PySem.W.Frag} {mg : Str → Option Value} {base : Heap} (bf : Bf mg) (cf : Cf K mg) (ini : IniF P w K mg base) {f : Addr} {fd : FuncData} (F : FunD K "_law_draws" "_law_draws" (defArgs st__law_draws) (defBody st__law_draws) sco__law_draws [] [] f fd) (gf : mg "_law_draws" = some (.ref f)) :
    Cal P w K mg base 1 "_law_draws" 2 1 sem__law_draws [] [] := by
  refine cal_mk (N := N__law_draws) (k := 0) (ps := ["cell", "count"]) (F := body__law_draws) F gf fs__law_draws (fun _ _ _ _ _ _ us hl => match us, hl with | [_, _], _ => rfl) fun cdv A outer s H E hr => ?_
  have nd := fs__law_draws.nd
  exact ⟨_, List.replicate 5 0, [], (lv_cons (s_set 2 (ev_op op_mod o2_mod (ev_op op_mulW o2_mul (ev_op (xop_addA (K := K)) o2_add (ev_op op_mod o2_mod (vv 0) ev_int) ev_int) ev_int) ev_int) nd) (lv_cons (s_set 3 (ev_lst (k := 0) av_nil) nd) (lv_cons (sv_for PassesOwn.never rfl (iv_r1 (by rfl) bf.f_range (av_cons (vv 1) av_nil)) (g_name 4 nd) (lv_cons (s_set 2 (ev_op op_mod o2_mod (ev_op op_mulW o2_mul (vv 2) ev_int) ev_int) nd) (lv_one (s_append 3 (ev_op op_fdivW o2_div (ev_op op_mod o2_mod (ev_op op_mulW o2_mul (vv 2) (vv 2)) ev_int) ev_int))))) (lv_one (s_retv 3)))))⟩
abbrev st__law_cell_at : Stmt := topS 21
abbrev sco__law_cell_at : Scope := defScope st__law_cell_at
abbrev N__law_cell_at : List Str := ["script", "k"]
theorem fs__law_cell_at : FnScope N__law_cell_at ["script", "k"] sco__law_cell_at := ⟨rfl, rfl, rfl, by decide +kernel, rfl, by decide +kernel, by decide +kernel⟩
theorem ok__law_cell_at {P : Program} {w : World} {K : PySem.W.Frag} {mg : Str → Option Value} {base : Heap} (bf : Bf mg) (cf : Cf K mg) (ini : IniF P w K mg base) {f : Addr} {fd : FuncData} (F : FunD K "_law_cell_at" "_law_cell_at" (defArgs st__law_cell_at) (defBody st__law_cell_at) sco__law_cell_at [] [] f fd) (gf : mg "_law_cell_at" = some (.ref f)) :
    Cal P w K mg base 1 "_law_cell_at" 2 0 sem__law_cell_at [] [] := by
  refine cal_mk (N := N__law_cell_at) (k := 0) (ps := ["script", "k"]) (F := body__law_cell_at) F gf fs__law_cell_at (fun _ _ _ _ _ _ us hl => match us, hl with | [_, _], _ => rfl) fun cdv A outer s H E hr => ?_
  have nd := fs__law_cell_at.nd
  exact ⟨_, List.replicate 2 0, [], (lv_cons (sv_if (tv_cmp op_lt o2_cmp (vv 1) (ev_callB (xc_len (K := K)) oa_len (by rfl) bf.f_len PySem.boot_len (av_cons (vv 0) av_nil)) (nomark _)) (lv_one (s_ret (xev_ix (K := K) (vv 0) (vv 1) (fun _ _ => rfl)))) lv_nil) (lv_one (s_ret ev_int)))⟩
abbrev st__law_fresh : Stmt := topS 22
abbrev sco__law_fresh : Scope := defScope st__law_fresh
abbrev N__law_fresh : List Str := ["number", "size", "letters", "name", "k"]
theorem fs__law_fresh : FnScope N__law_fresh ["number", "size"] sco__law_fresh := ⟨rfl, rfl, rfl, by decide +kernel, rfl, by decide +kernel, by decide +kernel⟩
theorem ok__law_fresh {P : Program} {w : World} {K : PySem.W.Frag} {mg : Str → Option Value} {base : Heap} (bf : Bf mg) (cf : Cf K mg) (ini : IniF P w K mg base) {f : Addr} {fd : FuncData} (F : FunD K "_law_fresh" "_law_fresh" (defArgs st__law_fresh) (defBody st__law_fresh) sco__law_fresh [] [] f fd) (gf : mg "_law_fresh" = some (.ref f)) :
    Cal P w K mg base 1 "_law_fresh" 2 0 sem__law_fresh [] [] := by
  refine cal_mk (N := N__law_fresh) (k := 0) (ps := ["number", "size"]) (F := body__law_fresh) F gf fs__law_fresh (fun _ _ _ _ _ _ us hl => match us, hl with | [_, _], _ => rfl) fun cdv A outer s H E hr => ?_
  have nd := fs__law_fresh.nd
  exact ⟨_, List.replicate 5 0, [], (lv_cons (s_set 2 ev_str nd) (lv_cons (s_set 3 ev_str nd) (lv_cons (sv_for PassesOwn.never rfl (iv_r1 (by rfl) bf.f_range (av_cons (vv 1) av_nil)) (g_name 4 nd) (lv_cons (s_set 0 (ev_op op_mod o2_mod (ev_op (xop_addA (K := K)) o2_add (ev_op op_mulW o2_mul (vv 0) ev_int) ev_int) ev_int) nd) (lv_one (s_set 3 (ev_op (xop_addA (K := K)) o2_add (vv 3) (xev_ix (K := K) (vv 2) (ev_op op_mod o2_mod (ev_op op_fdivW o2_div (vv 0) ev_int) ev_int) (fun _ _ => rfl))) nd)))) (lv_one (s_ret (vv 3))))))⟩
abbrev st__law_names : Stmt := topS 23
abbrev sco__law_names : Scope := defScope st__law_names
abbrev N__law_names : List Str := ["cell", "size", "letters", "some", "drawn", "base", "at", "names", "k", "name", "sign", "width"]
theorem fs__law_names : FnScope N__law_names ["cell", "size"] sco__law_names := ⟨rfl, rfl, rfl, by decide +kernel, rfl, by decide +kernel, by decide +kernel⟩
theorem ok__law_names {P : Program} {w : World} {K : PySem.W.Frag} {mg : Str → Option Value} {base : Heap} (bf : Bf mg) (cf : Cf K mg) (ini : IniF P w K mg base) {f : Addr} {fd : FuncData} (F : FunD K "_law_names" "_law_names" (defArgs st__law_names) (defBody st__law_names) sco__law_names [] [] f fd) (gf : mg "_law_names" = some (.ref f)) (c__law_draws : Cal P w K mg base 1 "_law_draws" 2 1 sem__law_draws [] []) (c__law_fresh : Cal P w K mg base 1 "_law_fresh" 2 0 sem__law_fresh [] []) :
    Cal P w K mg base 2 "_law_names" 2 1 sem__law_names [] [] := by
  refine cal_mk (N := N__law_names) (k := 1) (ps := ["cell", "size"]) (F := body__law_names) F gf fs__law_names (fun _ _ _ _ _ _ us hl => match us, hl with | [_, _], _ => rfl) fun cdv A outer s H E hr => ?_
  have nd := fs__law_names.nd
  exact ⟨_, List.replicate 12 0, [], (lv_cons (s_set 2 ev_str nd) (lv_cons (s_set 3 ((ev_lst (k := 0) (av_cons ev_str (av_cons ev_str (av_cons ev_str (av_cons ev_str (av_cons ev_str (av_cons ev_str (av_cons ev_str (av_cons ev_str (av_cons ev_str (av_cons ev_str (av_cons ev_str av_nil))))))))))))).share nd) (lv_cons (s_set 3 (ev_op (xop_addA (K := K)) o2_add (vv 3) (ev_lst (k := 0) (av_cons ev_str (av_cons ev_str av_nil)))) nd) (lv_cons (s_set 4 ((xev_cal c__law_draws hr (by decide) (by rfl) (av_cons (vv 0) (av_cons ev_int av_nil)))).share nd) (lv_cons (s_set 5 (xev_cal c__law_fresh hr (by decide) (by rfl) (av_cons (xev_ix (K := K) (vv 4) ev_int (fun _ _ => rfl)) (av_cons (ev_op (xop_addA (K := K)) o2_add ev_int (ev_op op_mod o2_mod (xev_ix (K := K) (vv 4) ev_int (fun _ _ => rfl)) ev_int)) av_nil))) nd) (lv_cons (s_set 6 (ev_op op_mod o2_mod (xev_ix (K := K) (vv 4) ev_int (fun _ _ => rfl)) (ev_callB (xc_len (K := K)) oa_len (by rfl) bf.f_len PySem.boot_len (av_cons (vv 5) av_nil))) nd) (lv_cons (s_set 7 (ev_lst (k := 0) av_nil) nd) (lv_cons (sv_for PassesOwn.never rfl (iv_r1 (by rfl) bf.f_range (av_cons (vv 1) av_nil)) (g_name 8 nd) (lv_cons (s_set 9 (xev_cal c__law_fresh hr (by decide) (by rfl) (av_cons (xev_ix (K := K) (vv 4) (ev_op (xop_addA (K := K)) o2_add ev_int (vv 8)) (fun _ _ => rfl)) (av_cons (ev_op (xop_addA (K := K)) o2_add ev_int (ev_op op_mod o2_mod (xev_ix (K := K) (vv 4) (ev_op (xop_addA (K := K)) o2_add ev_int (vv 8)) (fun _ _ => rfl)) ev_int)) av_nil))) nd) (lv_cons (sv_if (tv_cmp op_lt o2_cmp (ev_op op_mod o2_mod (xev_ix (K := K) (vv 4) ev_int (fun _ _ => rfl)) ev_int) ev_int (nomark _)) (lv_cons (s_set 10 (xev_ix (K := K) (vv 2) (ev_op op_mod o2_mod (ev_op (xop_addA (K := K)) o2_add (xev_ix (K := K) (vv 4) ev_int (fun _ _ => rfl)) (ev_op op_mulW o2_mul (vv 8) (xev_ix (K := K) (ev_lst (k := 0) (av_cons ev_int (av_cons ev_int (av_cons ev_int (av_cons ev_int (av_cons ev_int (av_cons ev_int av_nil))))))) (ev_op op_mod o2_mod (xev_ix (K := K) (vv 4) ev_int (fun _ _ => rfl)) ev_int) (fun _ _ => rfl)))) ev_int) (fun _ _ => rfl)) nd) (lv_one (s_set 9 (ev_op (xop_addA (K := K)) o2_add (ev_op (xop_addA (K := K)) o2_add (ev_sl sl_str os_str (vv 5) ov_none (ov_some (vv 6))) (vv 10)) (ev_sl sl_str os_str (vv 5) (ov_some (ev_op (xop_addA (K := K)) o2_add (vv 6) ev_int)) ov_none)) nd))) lv_nil) (lv_cons (sv_if (tv_cmp (xop_eq (K := K) hr.units) o2_eq (ev_op op_mod o2_mod (xev_ix (K := K) (vv 4) ev_int (fun _ _ => rfl)) ev_int) ev_int (nomark _)) (lv_one (s_set 9 (xev_ix (K := K) (vv 3) (ev_op op_mod o2_mod (ev_op (xop_addA (K := K)) o2_add (xev_ix (K := K) (vv 4) ev_int (fun _ _ => rfl)) (ev_op op_mulW o2_mul ev_int (vv 8))) ev_int) (fun _ _ => rfl)) nd)) lv_nil) (lv_cons (sv_if (tv_cmp (xop_eq (K := K) hr.units) o2_eq (ev_op op_mod o2_mod (xev_ix (K := K) (vv 4) ev_int (fun _ _ => rfl)) ev_int) ev_int (nomark _)) (lv_cons (s_set 11 (ev_op (xop_addA (K := K)) o2_add ev_int (ev_op op_mod o2_mod (ev_op (xop_addA (K := K)) o2_add (ev_op op_mulW o2_mul ev_int (vv 8)) (xev_ix (K := K) (vv 4) ev_int (fun _ _ => rfl))) ev_int)) nd) (lv_one (s_set 9 (xev_ix (K := K) (ev_lst (k := 0) (av_cons (ev_sl sl_str os_str (ev_op (xop_addA (K := K)) o2_add (vv 5) ev_str) ov_none (ov_some (vv 11))) (av_cons (ev_sl sl_str os_str (ev_op (xop_addA (K := K)) o2_add ev_str (vv 5)) (ov_some (ev_un un_neg (vv 11))) ov_none) av_nil))) (ev_op op_mod o2_mod (xev_ix (K := K) (vv 4) ev_int (fun _ _ => rfl)) ev_int) (fun _ _ => rfl)) nd))) lv_nil) (lv_one (sv_if (.lendIn 7 (tv_cmp (xop_nin (K := K)) o2_in (vv 9) (vv 7) rfl)) (lv_one (s_append 7 (vv 9))) lv_nil))))))) (lv_one (s_retv 7))))))))))⟩
abbrev st__law_count : Stmt := topS 24
abbrev sco__law_count : Scope := defScope st__law_count
abbrev N__law_count : List Str := ["cell", "k", "drawn", "kind"]
theorem fs__law_count : FnScope N__law_count ["cell", "k"] sco__law_count := ⟨rfl, rfl, rfl, by decide +kernel, rfl, by decide +kernel, by decide +kernel⟩
theorem ok__law_count {P : Program} {w : World} {K : PySem.W.Frag} {mg : Str → Option Value} {base : Heap} (bf : Bf mg) (cf : Cf K mg) (ini : IniF P w K mg base) {f : Addr} {fd : FuncData} (F : FunD K "_law_count" "_law_count" (defArgs st__law_count) (defBody st__law_count) sco__law_count [] [] f fd) (gf : mg "_law_count" = some (.ref f)) (c__law_draws : Cal P w K mg base 1 "_law_draws" 2 1 sem__law_draws [] []) :
    Cal P w K mg base 2 "_law_count" 2 0 sem__law_count [] [] := by
  refine cal_mk (N := N__law_count) (k := 1) (ps := ["cell", "k"]) (F := body__law_count) F gf fs__law_count (fun _ _ _ _ _ _ us hl => match us, hl with | [_, _], _ => rfl) fun cdv A outer s H E hr => ?_
  have nd := fs__law_count.nd
  exact ⟨_, List.replicate 4 0, [], (lv_cons (s_set 2 ((xev_cal c__law_draws hr (by decide) (by rfl) (av_cons (ev_op (xop_addA (K := K)) o2_add (ev_op op_fdivW o2_div (vv 0) ev_int) (ev_op op_mulW o2_mul ev_int (vv 1))) (av_cons ev_int av_nil)))).share nd) (lv_cons (s_set 3 (ev_op op_mod o2_mod (xev_ix (K := K) (vv 2) ev_int (fun _ _ => rfl)) ev_int) nd) (lv_cons (sv_if (tv_cmp (xop_eq (K := K) hr.units) o2_eq (vv 3) ev_int (nomark _)) (lv_one (s_ret (ev_op (xop_addA (K := K)) o2_add ev_int (ev_op op_mod o2_mod (ev_op op_fdivW o2_div (vv 0) ev_int) (ev_op op_sub o2_Iu (ev_op op_pow o2_pow ev_int ev_int) ev_int))))) lv_nil) (lv_cons (sv_if (tv_cmp (xop_eq (K := K) hr.units) o2_eq (vv 3) ev_int (nomark _)) (lv_one (s_ret (xev_ix (K := K) (ev_lst (k := 0) (av_cons ev_int (av_cons (ev_op op_sub o2_Iu (ev_op op_pow o2_pow ev_int ev_int) ev_int) (av_cons (ev_op op_pow o2_pow ev_int ev_int) (av_cons ev_int (av_cons ev_int (av_cons ev_int (av_cons ev_int (av_cons ev_int av_nil))))))))) (ev_op op_mod o2_mod (xev_ix (K := K) (vv 2) ev_int (fun _ _ => rfl)) ev_int) (fun _ _ => rfl)))) lv_nil) (lv_cons (sv_if (tv_cmp (xop_eq (K := K) hr.units) o2_eq (vv 3) ev_int (nomark _)) (lv_one (s_ret (ev_op (xop_addA (K := K)) o2_add ev_int (ev_op op_mod o2_mod (ev_op (xop_addA (K := K)) o2_add (ev_op (xop_addA (K := K)) o2_add (ev_op op_mulW o2_mul (xev_ix (K := K) (vv 2) ev_int (fun _ _ => rfl)) (ev_op op_pow o2_pow ev_int ev_int)) (ev_op op_mulW o2_mul (xev_ix (K := K) (vv 2) ev_int (fun _ _ => rfl)) (ev_op op_pow o2_pow ev_int ev_int))) (xev_ix (K := K) (vv 2) ev_int (fun _ _ => rfl))) (ev_op op_sub o2_Iu (ev_op op_pow o2_pow ev_int ev_int) ev_int))))) lv_nil) (lv_one (s_ret (ev_op (xop_addA (K := K)) o2_add ev_int (ev_op op_mod o2_mod (xev_ix (K := K) (vv 2) ev_int (fun _ _ => rfl)) ev_int)))))))))⟩
abbrev st__law_people : Stmt := topS 25
abbrev sco__law_people : Scope := defScope st__law_people
abbrev N__law_people : List Str := ["script", "names", "counts", "k", "web", "drawn", "mask"]
theorem fs__law_people : FnScope N__law_people ["script"] sco__law_people := ⟨rfl, rfl, rfl, by decide +kernel, rfl, by decide +kernel, by decide +kernel⟩
theorem ok__law_people {P : Program} {w : World} {K : PySem.W.Frag} {mg : Str → Option Value} {base : Heap} (bf : Bf mg) (cf : Cf K mg) (ini : IniF P w K mg base) {f : Addr} {fd : FuncData} (F : FunD K "_law_people" "_law_people" (defArgs st__law_people) (defBody st__law_people) sco__law_people [] [] f fd) (gf : mg "_law_people" = some (.ref f)) (c__law_names : Cal P w K mg base 2 "_law_names" 2 1 sem__law_names [] []) (c__law_cell_at : Cal P w K mg base 1 "_law_cell_at" 2 0 sem__law_cell_at [] []) (c__law_count : Cal P w K mg base 2 "_law_count" 2 0 sem__law_count [] []) (c__law_draws : Cal P w K mg base 1 "_law_draws" 2 1 sem__law_draws [] []) :
    Cal P w K mg base 3 "_law_people" 1 2 sem__law_people [] [] := by
  refine cal_mk (N := N__law_people) (k := 2) (ps := ["script"]) (F := body__law_people) F gf fs__law_people (fun _ _ _ _ _ _ us hl => match us, hl with | [_], _ => rfl) fun cdv A outer s H E hr => ?_
  have nd := fs__law_people.nd
  exact ⟨_, List.replicate 7 0, [], (lv_cons (s_set 1 (xev_cal c__law_names hr (by decide) (by rfl) (av_cons (ev_op op_fdivW o2_div (xev_cal c__law_cell_at hr (by decide) (by rfl) (av_cons (vv 0) (av_cons ev_int av_nil))) ev_int) (av_cons (ev_op (xop_addA (K := K)) o2_add ev_int (ev_op op_mod o2_mod (xev_cal c__law_cell_at hr (by decide) (by rfl) (av_cons (vv 0) (av_cons ev_int av_nil))) ev_int)) av_nil))) nd) (lv_cons (sv_if (tv_cmp (xop_eq (K := K) hr.units) o2_eq (ev_op op_mod o2_mod (ev_op op_fdivW o2_div (xev_cal c__law_cell_at hr (by decide) (by rfl) (av_cons (vv 0) (av_cons ev_int av_nil))) ev_int) ev_int) ev_int (nomark _)) (lv_one (s_set 1 (ev_lst (k := 0) av_nil) nd)) lv_nil) (lv_cons (s_set 2 (ev_lst (k := 0) av_nil) nd) (lv_cons (sv_for PassesOwn.never rfl (iv_r1 (by rfl) bf.f_range (.lendIn 1 (av_cons (ev_callB (xc_len (K := K)) oa_len (by rfl) bf.f_len PySem.boot_len (av_cons (vv 1) av_nil)) av_nil))) (g_name 3 nd) (lv_one (s_append 2 (xev_cal c__law_count hr (by decide) (by rfl) (av_cons (xev_cal c__law_cell_at hr (by decide) (by rfl) (av_cons (vv 0) (av_cons (ev_op (xop_addA (K := K)) o2_add ev_int (vv 3)) av_nil))) (av_cons (vv 3) av_nil)))))) (lv_cons (s_set 4 (ev_lst (k := 0) av_nil) nd) (lv_cons (sv_for PassesOwn.never rfl (iv_r1 (by rfl) bf.f_range (.lendIn 1 (av_cons (ev_callB (xc_len (K := K)) oa_len (by rfl) bf.f_len PySem.boot_len (av_cons (vv 1) av_nil)) av_nil))) (g_name 3 nd) (lv_cons (s_set 5 ((xev_cal c__law_draws hr (by decide) (by rfl) (av_cons (ev_op (xop_addA (K := K)) o2_add (xev_cal c__law_cell_at hr (by decide) (by rfl) (av_cons (vv 0) (av_cons (ev_op (xop_addA (K := K)) o2_add ev_int (vv 3)) av_nil))) (ev_op op_mulW o2_mul ev_int (vv 3))) (av_cons ev_int av_nil)))).share nd) (lv_cons (s_set 6 (Ev.clr (.lendIn 1 (ev_op op_mod o2_mod (xev_ix (K := K) (vv 5) ev_int (fun _ _ => rfl)) (ev_op op_shlW o2_shl ev_int (ev_callB (xc_len (K := K)) oa_len (by rfl) bf.f_len PySem.boot_len (av_cons (vv 1) av_nil)))))) nd) (lv_cons (sv_if (tv_cmp (xop_eq (K := K) hr.units) o2_eq (ev_op op_mod o2_mod (xev_ix (K := K) (vv 5) ev_int (fun _ _ => rfl)) ev_int) ev_int (nomark _)) (lv_one (s_set 6 (Ev.clr (.lendIn 1 (ev_op op_sub o2_Iu (ev_op op_shlW o2_shl ev_int (ev_callB (xc_len (K := K)) oa_len (by rfl) bf.f_len PySem.boot_len (av_cons (vv 1) av_nil))) ev_int))) nd)) lv_nil) (lv_cons (sv_if (tv_cmp (xop_eq (K := K) hr.units) o2_eq (ev_op op_mod o2_mod (xev_ix (K := K) (vv 5) ev_int (fun _ _ => rfl)) ev_int) ev_int (nomark _)) (lv_one (s_set 6 (Ev.clr (.lendIn 1 (ev_op op_and o2_Iu (vv 6) (ev_op op_mod o2_mod (xev_ix (K := K) (vv 5) ev_int (fun _ _ => rfl)) (ev_op op_shlW o2_shl ev_int (ev_callB (xc_len (K := K)) oa_len (by rfl) bf.f_len PySem.boot_len (av_cons (vv 1) av_nil))))))) nd)) lv_nil) (lv_one (s_append 4 (ev_op op_sub o2_Iu (vv 6) (ev_op op_mulW o2_mul (ev_op op_mod o2_mod (ev_op op_fdivW o2_div (vv 6) (ev_op op_shlW o2_shl ev_int (vv 3))) ev_int) (ev_op op_shlW o2_shl ev_int (vv 3))))))))))) (lv_one (s_ret3 1 2 4))))))))⟩
abbrev st__law_mixed_lines : Stmt := topS 26
abbrev sco__law_mixed_lines : Scope := defScope st__law_mixed_lines
abbrev N__law_mixed_lines : List Str := ["book", "drawn", "names", "counts", "web", "lines", "k", "order", "i", "some", "j", "at", "hats", "first", "hat"]
theorem fs__law_mixed_lines : FnScope N__law_mixed_lines ["book", "drawn"] sco__law_mixed_lines := ⟨rfl, rfl, rfl, by decide +kernel, rfl, by decide +kernel, by decide +kernel⟩
theorem ok__law_mixed_lines {P : Program} {w : World} {K : PySem.W.Frag} {mg : Str → Option Value} {base : Heap} (bf : Bf mg) (cf : Cf K mg) (ini : IniF P w K mg base) {f : Addr} {fd : FuncData} (F : FunD K "_law_mixed_lines" "_law_mixed_lines" (defArgs st__law_mixed_lines) (defBody st__law_mixed_lines) sco__law_mixed_lines [] [] f fd) (gf : mg "_law_mixed_lines" = some (.ref f)) :
    Cal P w K mg base 1 "_law_mixed_lines" 2 1 sem__law_mixed_lines [] [] := by
  refine cal_mk (N := N__law_mixed_lines) (k := 0) (ps := ["book", "drawn"]) (F := body__law_mixed_lines) F gf fs__law_mixed_lines (fun _ _ _ _ _ _ us hl => match us, hl with | [_, _], _ => rfl) fun cdv A outer s H E hr => ?_
  have nd := fs__law_mixed_lines.nd
  exact ⟨_, List.replicate 15 0, [], (lv_cons (s_unp (vv 0) (g_threeL (K := K) 2 3 4 nd)) (lv_cons (s_set 5 (ev_lst (k := 0) av_nil) nd) (lv_cons (sv_for PassesOwn.never rfl (iv_r1 (by rfl) bf.f_range (av_cons (ev_callB (xc_len (K := K)) oa_len (by rfl) bf.f_len PySem.boot_len (av_cons (vv 2) av_nil)) av_nil)) (g_name 6 nd) (lv_one (s_append 5 (ev_op (xop_addA (K := K)) o2_add (ev_op (xop_addA (K := K)) o2_add (ev_op (xop_addA (K := K)) o2_add ev_str (xev_ix (K := K) (vv 2) (vv 6) (fun _ _ => rfl))) ev_str) (ev_callTy call_str_int oa_str (by rfl) bf.f_str (by decide +kernel) (av_cons (xev_ix (K := K) (vv 3) (vv 6) (fun _ _ => rfl)) av_nil)))))) (lv_cons (s_set 7 ((ev_lrg rfl (by rfl) bf.f_list (rg_1 (by rfl) bf.f_range (ev_callB (xc_len (K := K)) oa_len (by rfl) bf.f_len PySem.boot_len (av_cons (vv 2) av_nil))))).share nd) (lv_cons (sv_if (tv_cmp (xop_eq (K := K) hr.units) o2_eq (ev_op op_mod o2_mod (xev_ix (K := K) (vv 1) ev_int (fun _ _ => rfl)) ev_int) ev_int (nomark _)) (lv_one (s_set 7 ((xev_rev (K := K) (vv 7))).share nd)) lv_nil) (lv_cons (sv_for PassesOwn.never rfl (xiv_list (K := K) (vv 7)) (g_name 8 nd) (lv_cons (.demOut 9 (sv_setLc (i := 9) (own := [("j", 10)]) rfl nd rfl rfl (sw_true rfl rfl rfl (by decide +kernel)) (iv_r1 (by rfl) bf.f_range (av_cons (ev_callB (xc_len (K := K)) oa_len (by rfl) bf.f_len PySem.boot_len (av_cons (vv 2) av_nil)) av_nil)) (blkOk_by (N := N__law_mixed_lines) (sc := sco__law_mixed_lines) (by decide +kernel)) (fun _ _ _ _ _ => (g_name 10 nd)) (fun _ _ _ _ _ => (tsv_one (tv_cmp (xop_eq (K := K) hr.units) o2_eq (ev_op op_mod o2_mod (ev_op op_fdivW o2_div (xev_ix (K := K) (vv 4) (vv 8) (fun _ _ => rfl)) (ev_op op_shlW o2_shl ev_int (vv 10))) ev_int) ev_int (nomark _)))) (fun _ _ _ _ _ => (vv 10)) (by decide) (by decide) (by decide) rfl)) (lv_one (sv_if (tv_cmp (xop_ne (K := K) hr.units) o2_ne (vv 9) (ev_lst (k := 0) av_nil) (nomark _)) (lv_cons (s_set 11 (ev_op op_mod o2_mod (xev_ix (K := K) (vv 1) (ev_op (xop_addA (K := K)) o2_add ev_int (vv 8)) (fun _ _ => rfl)) (ev_callB (xc_len (K := K)) oa_len (by rfl) bf.f_len PySem.boot_len (av_cons (vv 9) av_nil))) nd) (lv_cons (s_set 9 (ev_op (xop_addA (K := K)) o2_add (ev_sl (xsl_list (K := K)) os_list (vv 9) (ov_some (vv 11)) ov_none) (ev_sl (xsl_list (K := K)) os_list (vv 9) ov_none (ov_some (vv 11)))) nd) (lv_cons (sv_if (tv_cmp (xop_eq (K := K) hr.units) o2_eq (ev_op op_mod o2_mod (xev_ix (K := K) (vv 1) (ev_op (xop_addA (K := K)) o2_add ev_int (vv 8)) (fun _ _ => rfl)) ev_int) ev_int (nomark _)) (lv_one (s_set 9 ((xev_rev (K := K) (vv 9))).share nd)) lv_nil) (lv_cons (.demOut 12 (sv_setLc (i := 12) (own := [("j", 10)]) rfl nd rfl rfl (sw_true rfl rfl rfl (by decide +kernel)) (xiv_list (K := K) (ev_op (xop_addA (K := K)) o2_add (vv 9) (ev_lst (k := 0) (av_cons (vv 8) av_nil)))) (blkOk_by (N := N__law_mixed_lines) (sc := sco__law_mixed_lines) (by decide +kernel)) (fun _ _ _ _ _ => (g_name 10 nd)) (fun _ _ _ _ _ => tsv_nil) (fun _ _ _ _ _ => (ev_op (xop_addA (K := K)) o2_add (ev_op (xop_addA (K := K)) o2_add (ev_op (xop_addA (K := K)) o2_add ev_str (xev_ix (K := K) (vv 2) (vv 10) (fun _ _ => rfl))) ev_str) (ev_callTy call_str_int oa_str (by rfl) bf.f_str (by decide +kernel) (av_cons (xev_ix (K := K) (vv 3) (vv 10) (fun _ _ => rfl)) av_nil)))) (by decide) (by decide) (by decide) rfl)) (lv_cons (s_set 13 (Ev.clr (.lendIn 5 (ev_op (xop_addA (K := K)) o2_add ev_int (ev_callB (xc_max (K := K) rfl) oa_max (by rfl) bf.f_max (by decide +kernel) (av_cons ((ev_lc (own := [("hat", 14)]) rfl nd (xiv_list (K := K) (vv 12)) (blkOk_by (N := N__law_mixed_lines) (sc := sco__law_mixed_lines) (by decide +kernel)) (fun _ _ _ _ _ => (g_name 14 nd)) (fun _ _ _ _ _ => tsv_nil) (fun _ _ _ _ _ => (xev_idx (K := K) (vv 5) (vv 14))) (by decide) (by decide))).share av_nil))))) nd) (lv_cons (s_set 11 (Ev.clr (.lendIn 5 (ev_op (xop_addA (K := K)) o2_add (vv 13) (ev_op op_mod o2_mod (xev_ix (K := K) (vv 1) (ev_op (xop_addA (K := K)) o2_add ev_int (vv 8)) (fun _ _ => rfl)) (ev_op (xop_addA (K := K)) o2_add (ev_op op_sub o2_Iu (ev_callB (xc_len (K := K)) oa_len (by rfl) bf.f_len PySem.boot_len (av_cons (vv 5) av_nil)) (vv 13)) ev_int))))) nd) (lv_one (s_insert 5 (vv 11) (xev_join (K := K) ev_str (ev_op (xop_addA (K := K)) o2_add (ev_lst (k := 0) (av_cons ev_str (av_cons (xev_ix (K := K) (vv 2) (vv 8) (fun _ _ => rfl)) av_nil))) (ev_lc (own := [("j", 10)]) rfl nd (xiv_list (K := K) (vv 9)) (blkOk_by (N := N__law_mixed_lines) (sc := sco__law_mixed_lines) (by decide +kernel)) (fun _ _ _ _ _ => (g_name 10 nd)) (fun _ _ _ _ _ => tsv_nil) (fun _ _ _ _ _ => (xev_ix (K := K) (vv 2) (vv 10) (fun _ _ => rfl))) (by decide) (by decide)))))))))))) lv_nil)))) (lv_one (s_retv 5))))))))⟩
abbrev st__law_shown : Stmt := topS 27
abbrev sco__law_shown : Scope := defScope st__law_shown
abbrev N__law_shown : List Str := ["book", "names", "counts", "web", "lines", "k", "i", "some", "j"]
theorem fs__law_shown : FnScope N__law_shown ["book"] sco__law_shown := ⟨rfl, rfl, rfl, by decide +kernel, rfl, by decide +kernel, by decide +kernel⟩
theorem ok__law_shown {P : Program} {w : World} {K : PySem.W.Frag} {mg : Str → Option Value} {base : Heap} (bf : Bf mg) (cf : Cf K mg) (ini : IniF P w K mg base) {f : Addr} {fd : FuncData} (F : FunD K "_law_shown" "_law_shown" (defArgs st__law_shown) (defBody st__law_shown) sco__law_shown [] [] f fd) (gf : mg "_law_shown" = some (.ref f)) :
    Cal P w K mg base 1 "_law_shown" 1 0 sem__law_shown [] [] := by
  refine cal_mk (N := N__law_shown) (k := 0) (ps := ["book"]) (F := body__law_shown) F gf fs__law_shown (fun _ _ _ _ _ _ us hl => match us, hl with | [_], _ => rfl) fun cdv A outer s H E hr => ?_
  have nd := fs__law_shown.nd
  exact ⟨_, List.replicate 9 0, [], (lv_cons (s_unp (vv 0) (g_three (K := K) 1 2 3 nd)) (lv_cons (sv_setLc (i := 4) (own := [("k", 5)]) rfl nd rfl rfl (sw_true rfl rfl rfl (by decide +kernel)) (iv_r1 (by rfl) bf.f_range (av_cons (ev_callB (xc_len (K := K)) oa_len (by rfl) bf.f_len PySem.boot_len (av_cons (vv 1) av_nil)) av_nil)) (blkOk_by (N := N__law_shown) (sc := sco__law_shown) (by decide +kernel)) (fun _ _ _ _ _ => (g_name 5 nd)) (fun _ _ _ _ _ => tsv_nil) (fun _ _ _ _ _ => (ev_op (xop_addA (K := K)) o2_add (ev_op (xop_addA (K := K)) o2_add (ev_op (xop_addA (K := K)) o2_add ev_str (xev_ix (K := K) (vv 1) (vv 5) (fun _ _ => rfl))) ev_str) (ev_callTy call_str_int oa_str (by rfl) bf.f_str (by decide +kernel) (av_cons (xev_ix (K := K) (vv 2) (vv 5) (fun _ _ => rfl)) av_nil)))) (by decide) (by decide) (by decide) rfl) (lv_cons (sv_for PassesOwn.never rfl (iv_r1 (by rfl) bf.f_range (av_cons (ev_callB (xc_len (K := K)) oa_len (by rfl) bf.f_len PySem.boot_len (av_cons (vv 1) av_nil)) av_nil)) (g_name 6 nd) (lv_cons (.demOut 7 (sv_setLc (i := 7) (own := [("j", 8)]) rfl nd rfl rfl (sw_true rfl rfl rfl (by decide +kernel)) (iv_r1 (by rfl) bf.f_range (av_cons (ev_callB (xc_len (K := K)) oa_len (by rfl) bf.f_len PySem.boot_len (av_cons (vv 1) av_nil)) av_nil)) (blkOk_by (N := N__law_shown) (sc := sco__law_shown) (by decide +kernel)) (fun _ _ _ _ _ => (g_name 8 nd)) (fun _ _ _ _ _ => (tsv_one (tv_cmp (xop_eq (K := K) hr.units) o2_eq (ev_op op_mod o2_mod (ev_op op_fdivW o2_div (xev_ix (K := K) (vv 3) (vv 6) (fun _ _ => rfl)) (ev_op op_shlW o2_shl ev_int (vv 8))) ev_int) ev_int (nomark _)))) (fun _ _ _ _ _ => (xev_ix (K := K) (vv 1) (vv 8) (fun _ _ => rfl))) (by decide) (by decide) (by decide) rfl)) (lv_one (sv_if (tv_cmp (xop_ne (K := K) hr.units) o2_ne (vv 7) (ev_lst (k := 0) av_nil) (nomark _)) (lv_one (s_append 4 (xev_join (K := K) ev_str (ev_op (xop_addA (K := K)) o2_add (ev_lst (k := 0) (av_cons ev_str (av_cons (xev_ix (K := K) (vv 1) (vv 6) (fun _ _ => rfl)) av_nil))) (vv 7))))) lv_nil)))) (lv_one (s_ret (.lendIn 4 (xev_join (K := K) ev_str (vv 4))))))))⟩
abbrev st__law_made_of : Stmt := topS 28
abbrev sco__law_made_of : Scope := defScope st__law_made_of
abbrev N__law_made_of : List Str := ["word", "signs", "most", "sign"]
theorem fs__law_made_of : FnScope N__law_made_of ["word", "signs", "most"] sco__law_made_of := ⟨rfl, rfl, rfl, by decide +kernel, rfl, by decide +kernel, by decide +kernel⟩
theorem ok__law_made_of {P : Program} {w : World} {K : PySem.W.Frag} {mg : Str → Option Value} {base : Heap} (bf : Bf mg) (cf : Cf K mg) (ini : IniF P w K mg base) {f : Addr} {fd : FuncData} (F : FunD K "_law_made_of" "_law_made_of" (defArgs st__law_made_of) (defBody st__law_made_of) sco__law_made_of [] [] f fd) (gf : mg "_law_made_of" = some (.ref f)) :
    Cal P w K mg base 1 "_law_made_of" 3 0 sem__law_made_of [] [] := by
  refine cal_mk (N := N__law_made_of) (k := 0) (ps := ["word", "signs", "most"]) (F := body__law_made_of) F gf fs__law_made_of (fun _ _ _ _ _ _ us hl => match us, hl with | [_, _, _], _ => rfl) fun cdv A outer s H E hr => ?_
  have nd := fs__law_made_of.nd
  exact ⟨_, List.replicate 4 0, [], (lv_cons (sv_for PassesOwn.never rfl (iv_str (vv 0)) (g_name 3 nd) (lv_one (sv_if (tv_cmp op_notIn_sign o2_notInS (vv 3) (vv 1) rfl) (lv_one (s_ret ev_bl)) lv_nil))) (lv_one (s_ret (ev_chain op_le op_le ev_int (ev_callB (xc_len (K := K)) oa_len (by rfl) bf.f_len PySem.boot_len (av_cons (vv 0) av_nil)) (vv 2)))))⟩
abbrev st__law_is_line : Stmt := topS 29
abbrev sco__law_is_line : Scope := defScope st__law_is_line
abbrev N__law_is_line : List Str := ["text", "letters", "words", "word"]
theorem fs__law_is_line : FnScope N__law_is_line ["text"] sco__law_is_line := ⟨rfl, rfl, rfl, by decide +kernel, rfl, by decide +kernel, by decide +kernel⟩
theorem ok__law_is_line {P : Program} {w : World} {K : PySem.W.Frag} {mg : Str → Option Value} {base : Heap} (bf : Bf mg) (cf : Cf K mg) (ini : IniF P w K mg base) {f : Addr} {fd : FuncData} (F : FunD K "_law_is_line" "_law_is_line" (defArgs st__law_is_line) (defBody st__law_is_line) sco__law_is_line [] [] f fd) (gf : mg "_law_is_line" = some (.ref f)) (c__law_made_of : Cal P w K mg base 1 "_law_made_of" 3 0 sem__law_made_of [] []) :
    Cal P w K mg base 2 "_law_is_line" 1 0 sem__law_is_line [] [] := by
  refine cal_mk (N := N__law_is_line) (k := 1) (ps := ["text"]) (F := body__law_is_line) F gf fs__law_is_line (fun _ _ _ _ _ _ us hl => match us, hl with | [_], _ => rfl) fun cdv A outer s H E hr => ?_
  have nd := fs__law_is_line.nd
  exact ⟨_, List.replicate 4 0, [], (lv_cons (s_set 1 ev_str nd) (lv_cons (s_set 2 ((ev_split (vv 0) ev_str)).share nd) (lv_cons (sv_if (wv_and (tv_cmp (xop_eq (K := K) hr.units) o2_eq (xev_ix (K := K) (vv 2) ev_int (fun _ _ => rfl)) ev_str (nomark _)) (wv_and (tv_cmp (xop_eq (K := K) hr.units) o2_eq (ev_callB (xc_len (K := K)) oa_len (by rfl) bf.f_len PySem.boot_len (av_cons (vv 2) av_nil)) ev_int (nomark _)) (wv_and1 (tv_val (xev_cal c__law_made_of hr (by decide) (by rfl) (av_cons (xev_ix (K := K) (vv 2) ev_int (fun _ _ => rfl)) (av_cons (vv 1) (av_cons ev_int av_nil)))))))).tv (lv_one (s_ret (ev_and (xev_cal c__law_made_of hr (by decide) (by rfl) (av_cons (xev_ix (K := K) (vv 2) ev_int (fun _ _ => rfl)) (av_cons ev_str (av_cons ev_int av_nil)))) (ev_one (ev_cmp (xop_ne (K := K) hr.units) o2_ne (xev_ix (K := K) (xev_ix (K := K) (vv 2) ev_int (fun _ _ => rfl)) ev_int (fun _ _ => rfl)) ev_str (nomark _)))))) lv_nil) (lv_cons (sv_if (wv_or (tv_cmp (xop_ne (K := K) hr.units) o2_ne (xev_ix (K := K) (vv 2) ev_int (fun _ _ => rfl)) ev_str (nomark _)) (wv_or1 (tv_cmp op_lt o2_cmp (ev_callB (xc_len (K := K)) oa_len (by rfl) bf.f_len PySem.boot_len (av_cons (vv 2) av_nil)) ev_int (nomark _)))).tv (lv_one (s_ret ev_bl)) lv_nil) (lv_one (s_ret (ev_cmp (xop_eq (K := K) hr.units) o2_eq (ev_lc (own := [("word", 3)]) rfl nd (xiv_list (K := K) (ev_sl (xsl_list (K := K)) os_list (vv 2) (ov_some ev_int) ov_none)) (blkOk_by (N := N__law_is_line) (sc := sco__law_is_line) (by decide +kernel)) (fun _ _ _ _ _ => (g_name 3 nd)) (fun _ _ _ _ _ => (tsv_one (tv_not (tv_val (xev_cal c__law_made_of hr (by decide) (by rfl) (av_cons (vv 3) (av_cons (vv 1) (av_cons ev_int av_nil)))))))) (fun _ _ _ _ _ => (vv 3)) (by decide) (by decide)) (ev_lst (k := 0) av_nil) (nomark _))))))))⟩
abbrev st__law_first : Stmt := topS 30
abbrev sco__law_first : Scope := defScope st__law_first
abbrev N__law_first : List Str := ["lines", "names", "seers", "k", "words", "word"]
theorem fs__law_first : FnScope N__law_first ["lines"] sco__law_first := ⟨rfl, rfl, rfl, by decide +kernel, rfl, by decide +kernel, by decide +kernel⟩
theorem ok__law_first {P : Program} {w : World} {K : PySem.W.Frag} {mg : Str → Option Value} {base : Heap} (bf : Bf mg) (cf : Cf K mg) (ini : IniF P w K mg base) {f : Addr} {fd : FuncData} (F : FunD K "_law_first" "_law_first" (defArgs st__law_first) (defBody st__law_first) sco__law_first [] [] f fd) (gf : mg "_law_first" = some (.ref f)) (c__law_is_line : Cal P w K mg base 2 "_law_is_line" 1 0 sem__law_is_line [] []) :
    Cal P w K mg base 3 "_law_first" 1 1 sem__law_first [] [] := by
  refine cal_mk (N := N__law_first) (k := 2) (ps := ["lines"]) (F := body__law_first) F gf fs__law_first (fun _ _ _ _ _ _ us hl => match us, hl with | [_], _ => rfl) fun cdv A outer s H E hr => ?_
  have nd := fs__law_first.nd
  exact ⟨_, List.replicate 6 0, [], (lv_cons (s_set 1 (ev_lst (k := 0) av_nil) nd) (lv_cons (s_set 2 (ev_lst (k := 0) av_nil) nd) (lv_cons (sv_for PassesOwn.never rfl (iv_r1 (by rfl) bf.f_range (av_cons (ev_callB (xc_len (K := K)) oa_len (by rfl) bf.f_len PySem.boot_len (av_cons (vv 0) av_nil)) av_nil)) (g_name 3 nd) (lv_cons (s_set 4 ((ev_split (xev_ix (K := K) (vv 0) (vv 3) (fun _ _ => rfl)) ev_str)).share nd) (lv_cons (sv_if (tv_not (tv_val (xev_cal c__law_is_line hr (by decide) (by rfl) (av_cons (xev_ix (K := K) (vv 0) (vv 3) (fun _ _ => rfl)) av_nil)))) (lv_one (s_ret (ev_lst (k := 0) (av_cons ev_int (av_cons (vv 3) av_nil))))) lv_nil) (lv_one (sv_if (tv_cmp (xop_eq (K := K) hr.units) o2_eq (xev_ix (K := K) (vv 4) ev_int (fun _ _ => rfl)) ev_str (nomark _)) (lv_cons (sv_if (.lendIn 1 (tv_cmp (xop_in (K := K)) o2_in (xev_ix (K := K) (vv 4) ev_int (fun _ _ => rfl)) (vv 1) rfl)) (lv_one (s_ret (ev_lst (k := 0) (av_cons ev_int (av_cons (vv 3) av_nil))))) lv_nil) (lv_cons (sv_if (.lendIn 1 (tv_cmp (xop_eq (K := K) hr.units) o2_eq (ev_callB (xc_len (K := K)) oa_len (by rfl) bf.f_len PySem.boot_len (av_cons (vv 1) av_nil)) ev_int (nomark _))) (lv_one (s_ret (ev_lst (k := 0) (av_cons ev_int (av_cons (vv 3) av_nil))))) lv_nil) (lv_one (s_append 1 (xev_ix (K := K) (vv 4) ev_int (fun _ _ => rfl)))))) (lv_cons (sv_if (.lendIn 2 (wv_or (tv_cmp op_lt o2_cmp (xev_lenSetS (K := K) rfl (by rfl) bf.f_len (by rfl) bf.f_set (ev_sl (xsl_list (K := K)) os_list (vv 4) (ov_some ev_int) ov_none)) (ev_op op_sub o2_Iu (ev_callB (xc_len (K := K)) oa_len (by rfl) bf.f_len PySem.boot_len (av_cons (vv 4) av_nil)) ev_int) (nomark _)) (wv_or1 (tv_cmp (xop_in (K := K)) o2_in (xev_ix (K := K) (vv 4) ev_int (fun _ _ => rfl)) (vv 2) rfl))).tv) (lv_one (s_ret (ev_lst (k := 0) (av_cons ev_int (av_cons (vv 3) av_nil))))) lv_nil) (lv_cons (sv_if (.lendIn 1 (tv_cmp (xop_ne (K := K) hr.units) o2_ne (ev_lc (own := [("word", 5)]) rfl nd (xiv_list (K := K) (ev_sl (xsl_list (K := K)) os_list (vv 4) (ov_some ev_int) ov_none)) (blkOk_by (N := N__law_first) (sc := sco__law_first) (by decide +kernel)) (fun _ _ _ _ _ => (g_name 5 nd)) (fun _ _ _ _ _ => (tsv_one (tv_cmp (xop_nin (K := K)) o2_in (vv 5) (vv 1) rfl))) (fun _ _ _ _ _ => (vv 5)) (by decide) (by decide)) (ev_lst (k := 0) av_nil) (nomark _))) (lv_one (s_ret (ev_lst (k := 0) (av_cons ev_int (av_cons (vv 3) av_nil))))) lv_nil) (lv_one (s_append 2 (xev_ix (K := K) (vv 4) ev_int (fun _ _ => rfl))))))))))) (lv_one (s_ret (ev_lst (k := 0) av_nil))))))⟩
abbrev st__law_bad_line : Stmt := topS 31
abbrev sco__law_bad_line : Scope := defScope st__law_bad_line
abbrev N__law_bad_line : List Str := ["drawn", "lines", "names", "some", "kind", "line", "at", "new", "fresh", "words", "many", "sign"]
theorem fs__law_bad_line : FnScope N__law_bad_line ["drawn", "lines", "names"] sco__law_bad_line := ⟨rfl, rfl, rfl, by decide +kernel, rfl, by decide +kernel, by decide +kernel⟩
theorem ok__law_bad_line {P : Program} {w : World} {K : PySem.W.Frag} {mg : Str → Option Value} {base : Heap} (bf : Bf mg) (cf : Cf K mg) (ini : IniF P w K mg base) {f : Addr} {fd : FuncData} (F : FunD K "_law_bad_line" "_law_bad_line" (defArgs st__law_bad_line) (defBody st__law_bad_line) sco__law_bad_line [] [] f fd) (gf : mg "_law_bad_line" = some (.ref f)) (c__law_count : Cal P w K mg base 2 "_law_count" 2 0 sem__law_count [] []) (c__law_fresh : Cal P w K mg base 1 "_law_fresh" 2 0 sem__law_fresh [] []) :
    Cal P w K mg base 3 "_law_bad_line" 3 0 sem__law_bad_line [] [] := by
  refine cal_mk (N := N__law_bad_line) (k := 2) (ps := ["drawn", "lines", "names"]) (F := body__law_bad_line) F gf fs__law_bad_line (fun _ _ _ _ _ _ us hl => match us, hl with | [_, _, _], _ => rfl) fun cdv A outer s H E hr => ?_
  have nd := fs__law_bad_line.nd
  exact ⟨_, List.replicate 12 0, [], (lv_cons (s_set 3 ((ev_lst (k := 0) (av_cons ev_str (av_cons ev_str (av_cons ev_str (av_cons ev_str (av_cons ev_str (av_cons ev_str (av_cons ev_str (av_cons ev_str (av_cons ev_str (av_cons ev_str av_nil)))))))))))).share nd) (lv_cons (s_set 4 (ev_op op_mod o2_mod (xev_ix (K := K) (vv 0) ev_int (fun _ _ => rfl)) ev_int) nd) (lv_cons (sv_if (wv_or (tv_cmp (xop_eq (K := K) hr.units) o2_eq (vv 4) ev_int (nomark _)) (wv_or1 (tv_cmp op_lt o2_cmp (ev_callB (xc_len (K := K)) oa_len (by rfl) bf.f_len PySem.boot_len (av_cons (vv 2) av_nil)) ev_int (nomark _)))).tv (lv_one (s_ret (xev_ix (K := K) (vv 3) (ev_op op_mod o2_mod (xev_ix (K := K) (vv 0) ev_int (fun _ _ => rfl)) ev_int) (fun _ _ => rfl)))) lv_nil) (lv_cons (s_set 5 (xev_ix (K := K) (vv 1) (ev_op op_mod o2_mod (xev_ix (K := K) (vv 0) ev_int (fun _ _ => rfl)) (ev_callB (xc_len (K := K)) oa_len (by rfl) bf.f_len PySem.boot_len (av_cons (vv 1) av_nil))) (fun _ _ => rfl)) nd) (lv_cons (sv_if (tv_cmp (xop_eq (K := K) hr.units) o2_eq (vv 4) ev_int (nomark _)) (lv_cons (s_set 6 (ev_op op_mod o2_mod (xev_ix (K := K) (vv 0) ev_int (fun _ _ => rfl)) (ev_op (xop_addA (K := K)) o2_add (ev_callB (xc_len (K := K)) oa_len (by rfl) bf.f_len PySem.boot_len (av_cons (vv 5) av_nil)) ev_int)) nd) (lv_cons (s_set 7 (xev_ix (K := K) (ev_lst (k := 0) (av_cons ev_str (av_cons ev_str (av_cons ev_str (av_cons ev_str (av_cons ev_str (av_cons ev_str (av_cons ev_str (av_cons ev_str av_nil))))))))) (ev_op op_mod o2_mod (xev_ix (K := K) (vv 0) ev_int (fun _ _ => rfl)) ev_int) (fun _ _ => rfl)) nd) (lv_one (s_ret (ev_op (xop_addA (K := K)) o2_add (ev_op (xop_addA (K := K)) o2_add (ev_sl sl_str os_str (vv 5) ov_none (ov_some (vv 6))) (vv 7)) (ev_sl sl_str os_str (vv 5) (ov_some (ev_op (xop_addA (K := K)) o2_add (vv 6) (ev_op op_mod o2_mod (xev_ix (K := K) (vv 0) ev_int (fun _ _ => rfl)) ev_int))) ov_none)))))) lv_nil) (lv_cons (sv_if (wv_and (tv_cmp (xop_eq (K := K) hr.units) o2_eq (vv 4) ev_int (nomark _)) (wv_and (tv_cmp (xop_eq (K := K) hr.units) o2_eq (ev_sl sl_str os_str (vv 5) ov_none (ov_some ev_int)) ev_str (nomark _)) (wv_and1 (tv_cmp (xop_eq (K := K) hr.units) o2_eq (ev_op op_mod o2_mod (xev_ix (K := K) (vv 0) ev_int (fun _ _ => rfl)) ev_int) ev_int (nomark _))))).tv (lv_one (s_ret (xev_join (K := K) ev_str (ev_op (xop_addA (K := K)) o2_add (ev_sl (xsl_list (K := K)) os_list (ev_split (vv 5) ev_str) ov_none (ov_some ev_int)) (ev_lst (k := 0) (av_cons (ev_callTy call_str_int oa_str (by rfl) bf.f_str (by decide +kernel) (av_cons (xev_cal c__law_count hr (by decide) (by rfl) (av_cons (xev_ix (K := K) (vv 0) ev_int (fun _ _ => rfl)) (av_cons ev_int av_nil))) av_nil)) av_nil)))))) lv_nil) (lv_cons (sv_if (tv_cmp (xop_eq (K := K) hr.units) o2_eq (vv 4) ev_int (nomark _)) (lv_one (s_ret (vv 5))) lv_nil) (lv_cons (sv_if (tv_cmp (xop_eq (K := K) hr.units) o2_eq (vv 4) ev_int (nomark _)) (lv_cons (s_set 6 (ev_op op_mod o2_mod (xev_ix (K := K) (vv 0) ev_int (fun _ _ => rfl)) (ev_callB (xc_len (K := K)) oa_len (by rfl) bf.f_len PySem.boot_len (av_cons (vv 2) av_nil))) nd) (lv_one (s_ret (xev_join (K := K) ev_str (ev_op (xop_addA (K := K)) o2_add (ev_lst (k := 0) (av_cons ev_str av_nil)) (ev_sl (xsl_list (K := K)) os_list (ev_op (xop_addA (K := K)) o2_add (ev_sl (xsl_list (K := K)) os_list (vv 2) (ov_some (vv 6)) ov_none) (ev_sl (xsl_list (K := K)) os_list (vv 2) ov_none (ov_some (vv 6)))) ov_none (ov_some (ev_op (xop_addA (K := K)) o2_add ev_int (ev_op op_mod o2_mod (xev_ix (K := K) (vv 0) ev_int (fun _ _ => rfl)) ev_int))))))))) lv_nil) (lv_cons (sv_if (tv_cmp (xop_eq (K := K) hr.units) o2_eq (vv 4) ev_int (nomark _)) (lv_one (s_ret (xev_join (K := K) ev_str (ev_lst (k := 0) (av_cons ev_str (av_cons (xev_ix (K := K) (vv 2) ev_int (fun _ _ => rfl)) (av_cons (xev_ix (K := K) (vv 2) (ev_un un_neg ev_int) (fun _ _ => rfl)) (av_cons (xev_ix (K := K) (vv 2) (ev_op op_mod o2_mod (xev_ix (K := K) (vv 0) ev_int (fun _ _ => rfl)) (ev_callB (xc_len (K := K)) oa_len (by rfl) bf.f_len PySem.boot_len (av_cons (vv 2) av_nil))) (fun _ _ => rfl)) av_nil)))))))) lv_nil) (lv_cons (s_set 8 (xev_cal c__law_fresh hr (by decide) (by rfl) (av_cons (xev_ix (K := K) (vv 0) ev_int (fun _ _ => rfl)) (av_cons (ev_op (xop_addA (K := K)) o2_add ev_int (ev_op op_mod o2_mod (xev_ix (K := K) (vv 0) ev_int (fun _ _ => rfl)) ev_int)) av_nil))) nd) (lv_cons (sv_if (tv_cmp (xop_eq (K := K) hr.units) o2_eq (vv 4) ev_int (nomark _)) (lv_cons (s_set 9 ((ev_lst (k := 0) (av_cons ev_str (av_cons (xev_ix (K := K) (vv 2) (ev_op op_mod o2_mod (xev_ix (K := K) (vv 0) ev_int (fun _ _ => rfl)) (ev_callB (xc_len (K := K)) oa_len (by rfl) bf.f_len PySem.boot_len (av_cons (vv 2) av_nil))) (fun _ _ => rfl)) (av_cons (vv 8) (av_cons (vv 8) (av_cons (xev_ix (K := K) (vv 2) (ev_op op_mod o2_mod (xev_ix (K := K) (vv 0) ev_int (fun _ _ => rfl)) (ev_callB (xc_len (K := K)) oa_len (by rfl) bf.f_len PySem.boot_len (av_cons (vv 2) av_nil))) (fun _ _ => rfl)) av_nil))))))).share nd) (lv_one (s_ret (xev_join (K := K) ev_str (ev_op (xop_addA (K := K)) o2_add (ev_sl (xsl_list (K := K)) os_list (vv 9) ov_none (ov_some ev_int)) (ev_sl (xsl_list (K := K)) os_list (vv 9) (ov_some (ev_op (xop_addA (K := K)) o2_add ev_int (ev_op op_mod o2_mod (xev_ix (K := K) (vv 0) ev_int (fun _ _ => rfl)) ev_int))) (ov_some (ev_op (xop_addA (K := K)) o2_add ev_int (ev_op op_mod o2_mod (xev_ix (K := K) (vv 0) ev_int (fun _ _ => rfl)) ev_int))))))))) lv_nil) (lv_cons (sv_if (tv_cmp (xop_eq (K := K) hr.units) o2_eq (vv 4) ev_int (nomark _)) (lv_one (s_ret (xev_join (K := K) ev_str (ev_op (xop_addA (K := K)) o2_add (ev_lst (k := 0) (av_cons ev_str (av_cons (vv 8) av_nil))) (ev_sl (xsl_list (K := K)) os_list (vv 2) ov_none (ov_some (ev_op (xop_addA (K := K)) o2_add ev_int (ev_op op_mod o2_mod (xev_ix (K := K) (vv 0) ev_int (fun _ _ => rfl)) ev_int)))))))) lv_nil) (lv_cons (sv_if (tv_cmp (xop_eq (K := K) hr.units) o2_eq (vv 4) ev_int (nomark _)) (lv_cons (.demOut 10 (sv_setLc (i := 10) (own := [("sign", 11)]) rfl nd rfl rfl (sw_true rfl rfl rfl (by decide +kernel)) (iv_str ev_str) (blkOk_by (N := N__law_bad_line) (sc := sco__law_bad_line) (by decide +kernel)) (fun _ _ _ _ _ => (g_name 11 nd)) (fun _ _ _ _ _ => tsv_nil) (fun _ _ _ _ _ => (ev_op (xop_addA (K := K)) o2_add (vv 11) ev_str)) (by decide) (by decide) (by decide) rfl)) (lv_one (s_ret (xev_join (K := K) ev_str (ev_op (xop_addA (K := K)) o2_add (ev_lst (k := 0) (av_cons ev_str (av_cons (xev_ix (K := K) (vv 2) (ev_op op_mod o2_mod (xev_ix (K := K) (vv 0) ev_int (fun _ _ => rfl)) (ev_callB (xc_len (K := K)) oa_len (by rfl) bf.f_len PySem.boot_len (av_cons (vv 2) av_nil))) (fun _ _ => rfl)) av_nil))) (ev_sl (xsl_list (K := K)) os_list (vv 10) (ov_some (ev_op op_mod o2_mod (xev_ix (K := K) (vv 0) ev_int (fun _ _ => rfl)) ev_int)) ov_none)))))) lv_nil) (lv_one (s_ret (ev_op (xop_addA (K := K)) o2_add (ev_op (xop_addA (K := K)) o2_add (ev_op (xop_addA (K := K)) o2_add ev_str (xev_cal c__law_fresh hr (by decide) (by rfl) (av_cons (xev_ix (K := K) (vv 0) ev_int (fun _ _ => rfl)) (av_cons (ev_op (xop_addA (K := K)) o2_add ev_int (ev_op op_mod o2_mod (xev_ix (K := K) (vv 0) ev_int (fun _ _ => rfl)) ev_int)) av_nil)))) ev_str) (ev_callTy call_str_int oa_str (by rfl) bf.f_str (by decide +kernel) (av_cons (xev_cal c__law_count hr (by decide) (by rfl) (av_cons (xev_ix (K := K) (vv 0) ev_int (fun _ _ => rfl)) (av_cons ev_int av_nil))) av_nil))))))))))))))))))⟩
abbrev st__law_spoilt_text : Stmt := topS 32
abbrev sco__law_spoilt_text : Scope := defScope st__law_spoilt_text
abbrev N__law_spoilt_text : List Str := ["script", "book", "drawn", "lines", "good", "line", "k", "new", "at"]
theorem fs__law_spoilt_text : FnScope N__law_spoilt_text ["script"] sco__law_spoilt_text := ⟨rfl, rfl, rfl, by decide +kernel, rfl, by decide +kernel, by decide +kernel⟩
theorem ok__law_spoilt_text {P : Program} {w : World} {K : PySem.W.Frag} {mg : Str → Option Value} {base : Heap} (bf : Bf mg) (cf : Cf K mg) (ini : IniF P w K mg base) {f : Addr} {fd : FuncData} (F : FunD K "_law_spoilt_text" "_law_spoilt_text" (defArgs st__law_spoilt_text) (defBody st__law_spoilt_text) sco__law_spoilt_text [] [] f fd) (gf : mg "_law_spoilt_text" = some (.ref f)) (c__law_people : Cal P w K mg base 3 "_law_people" 1 2 sem__law_people [] []) (c__law_draws : Cal P w K mg base 1 "_law_draws" 2 1 sem__law_draws [] []) (c__law_cell_at : Cal P w K mg base 1 "_law_cell_at" 2 0 sem__law_cell_at [] []) (c__law_mixed_lines : Cal P w K mg base 1 "_law_mixed_lines" 2 1 sem__law_mixed_lines [] []) (c__law_bad_line : Cal P w K mg base 3 "_law_bad_line" 3 0 sem__law_bad_line [] []) :
    Cal P w K mg base 4 "_law_spoilt_text" 1 1 sem__law_spoilt_text [] [] := by
  refine cal_mk (N := N__law_spoilt_text) (k := 3) (ps := ["script"]) (F := body__law_spoilt_text) F gf fs__law_spoilt_text (fun _ _ _ _ _ _ us hl => match us, hl with | [_], _ => rfl) fun cdv A outer s H E hr => ?_
  have nd := fs__law_spoilt_text.nd
  exact ⟨_, List.replicate 9 0, [], (lv_cons (s_set 1 ((xev_cal c__law_people hr (by decide) (by rfl) (av_cons (vv 0) av_nil))).share nd) (lv_cons (s_set 2 ((xev_cal c__law_draws hr (by decide) (by rfl) (av_cons (xev_cal c__law_cell_at hr (by decide) (by rfl) (av_cons (vv 0) (av_cons ev_int av_nil))) (av_cons ev_int av_nil)))).share nd) (lv_cons (s_set 3 (xev_cal c__law_mixed_lines hr (by decide) (by rfl) (av_cons (vv 1) (av_cons (vv 2) av_nil))) nd) (lv_cons (s_set 4 (Ev.clr (.lendIn 3 (ev_callTy (xc_list (K := K)) oa_list (by rfl) bf.f_list (by decide +kernel) (av_cons (vv 3) av_nil)))) nd) (lv_cons (sv_if (.lendIn 3 (wv_and (tv_cmp (xop_eq (K := K) hr.units) o2_eq (ev_op op_mod o2_mod (xev_ix (K := K) (vv 2) ev_int (fun _ _ => rfl)) ev_int) ev_int (nomark _)) (wv_and1 (tv_cmp op_gt o2_cmp (ev_callB (xc_len (K := K)) oa_len (by rfl) bf.f_len PySem.boot_len (av_cons (vv 3) av_nil)) ev_int (nomark _)))).tv) (lv_cons (s_setX 5 (xv_pop 3 (Ev.clr (.lendIn 3 (ev_op op_mod o2_mod (xev_ix (K := K) (vv 2) ev_int (fun _ _ => rfl)) (ev_callB (xc_len (K := K)) oa_len (by rfl) bf.f_len PySem.boot_len (av_cons (vv 3) av_nil)))))) nd) (lv_one (s_insert 3 (Ev.clr (.lendIn 3 (ev_op op_mod o2_mod (xev_ix (K := K) (vv 2) ev_int (fun _ _ => rfl)) (ev_op (xop_addA (K := K)) o2_add (ev_callB (xc_len (K := K)) oa_len (by rfl) bf.f_len PySem.boot_len (av_cons (vv 3) av_nil)) ev_int)))) (vv 5)))) lv_nil) (lv_cons (sv_for PassesOwn.never rfl (iv_r1 (by rfl) bf.f_range (av_cons (ev_op op_mod o2_mod (xev_ix (K := K) (vv 2) ev_int (fun _ _ => rfl)) ev_int) av_nil)) (g_name 6 nd) (lv_cons (s_set 7 (Ev.clr (.lendIn 4 (xev_cal c__law_bad_line hr (by decide) (by rfl) (av_cons ((xev_cal c__law_draws hr (by decide) (by rfl) (av_cons (ev_op (xop_addA (K := K)) o2_add (xev_cal c__law_cell_at hr (by decide) (by rfl) (av_cons (vv 0) (av_cons (ev_op (xop_addA (K := K)) o2_add ev_int (vv 6)) av_nil))) (ev_op op_mulW o2_mul ev_int (vv 6))) (av_cons ev_int av_nil)))).share (av_cons (vv 4) (av_cons (xev_ix (K := K) (vv 1) ev_int (fun _ _ => rfl)) av_nil)))))) nd) (lv_cons (s_set 8 (Ev.clr (.lendIn 3 (ev_op op_mod o2_mod (xev_ix (K := K) (vv 2) (ev_op (xop_addA (K := K)) o2_add ev_int (vv 6)) (fun _ _ => rfl)) (ev_op (xop_addA (K := K)) o2_add (ev_callB (xc_len (K := K)) oa_len (by rfl) bf.f_len PySem.boot_len (av_cons (vv 3) av_nil)) ev_int)))) nd) (lv_cons (sv_if (tv_cmp (xop_eq (K := K) hr.units) o2_eq (ev_op op_mod o2_mod (xev_ix (K := K) (vv 2) (ev_op (xop_addA (K := K)) o2_add ev_int (vv 6)) (fun _ _ => rfl)) ev_int) ev_int (nomark _)) (lv_one (s_set 8 (Ev.clr (.lendIn 3 (xev_ix (K := K) (ev_lst (k := 0) (av_cons ev_int (av_cons (ev_callB (xc_len (K := K)) oa_len (by rfl) bf.f_len PySem.boot_len (av_cons (vv 3) av_nil)) av_nil))) (ev_op op_mod o2_mod (xev_ix (K := K) (vv 2) (ev_op (xop_addA (K := K)) o2_add ev_int (vv 6)) (fun _ _ => rfl)) ev_int) (fun _ _ => rfl)))) nd)) lv_nil) (lv_one (s_insert 3 (vv 8) (vv 7))))))) (lv_one (s_retv 3))))))))⟩
abbrev st__law_right : Stmt := topS 33
abbrev sco__law_right : Scope := defScope st__law_right
abbrev N__law_right : List Str := ["text", "due", "kinds", "at", "found", "e", "k"]
theorem fs__law_right : FnScope N__law_right ["text", "due"] sco__law_right := ⟨rfl, rfl, rfl, by decide +kernel, rfl, by decide +kernel, by decide +kernel⟩
theorem ok__law_right {P : Program} {w : World} {K : PySem.W.Frag} {mg : Str → Option Value} {base : Heap} (bf : Bf mg) (cf : Cf K mg) (ini : IniF P w K mg base) {f : Addr} {fd : FuncData} (F : FunD K "_law_right" "_law_right" (defArgs st__law_right) (defBody st__law_right) sco__law_right [] [] f fd) (gf : mg "_law_right" = some (.ref f)) (c_read_book : CalY P w K mg base (fun t => He.ga K (csN t)) 4 "read_book" 1 0 sem_read_book) :
    Cal P w K mg base 5 "_law_right" 2 0 sem__law_right [] [] := by
  refine cal_mk (N := N__law_right) (k := 4) (ps := ["text", "due"]) (F := body__law_right) F gf fs__law_right (fun _ _ _ _ _ _ us hl => match us, hl with | [_, _], _ => rfl) fun cdv A outer s H E hr => ?_
  have nd := fs__law_right.nd
  exact ⟨_, List.replicate 7 0, [], (lv_cons (s_set 2 (ev_lst (k := 0) av_nil) nd) (lv_cons (s_set 3 ev_int nd) (lv_cons (s_set 4 ev_non nd) (lv_cons (s_tryF (X := ((cxOf CX0 P w K mg base N__law_right "_law_right" sco__law_right f cdv A outer s H E).nox)) (K := K) (mg := mg) (I := fun _ => 0) (r := 0) (Γ := [0, 0, 1, 0, 0, 0, 0]) (i := 5) (j := 2) (m := 4) (cs := fun t => He.ga K (csN t)) (Ch := He.ga K "LineError") (F := tb__law_right_1) (G := sg__law_right_2) (by rfl) (by rfl) nd (by rfl) (by rfl) (by rfl) cf.g_LineError (exm_f cf) (fun W' pn xe tk => (lv_one (s_setY (k0 := 4) c_read_book hr (by decide) tk nd (by rfl) (by rfl) (av_cons (vv 0) av_nil) (by decide) (by rfl)))) (fun t ht ww a dd oe pn hz hf => (su_cons (su_bls (X := ((cxOf CX0 P w K mg base N__law_right "_law_right" sco__law_right f cdv A outer s H E).nox).suite a ((a, oe) :: pn)) (i := 5) (j := 2) (iwA_cons (iwV_own (X := ((cxOf CX0 P w K mg base N__law_right "_law_right" sco__law_right f cdv A outer s H E).nox)) (i := 5) (excC_f cf t ht) hz hf (by rfl) bf.f_isinstance (by rfl) (by rfl) cf.g_NoLine (kit_NoLine cf t ht)) (iwA_cons (iwV_own (X := ((cxOf CX0 P w K mg base N__law_right "_law_right" sco__law_right f cdv A outer s H E).nox)) (i := 5) (excC_f cf t ht) hz hf (by rfl) bf.f_isinstance (by rfl) (by rfl) cf.g_Twice (kit_Twice cf t ht)) (iwA_cons (iwV_own (X := ((cxOf CX0 P w K mg base N__law_right "_law_right" sco__law_right f cdv A outer s H E).nox)) (i := 5) (excC_f cf t ht) hz hf (by rfl) bf.f_isinstance (by rfl) (by rfl) cf.g_Unknown (kit_Unknown cf t ht)) (iwA_cons (iwV_own (X := ((cxOf CX0 P w K mg base N__law_right "_law_right" sco__law_right f cdv A outer s H E).nox)) (i := 5) (excC_f cf t ht) hz hf (by rfl) bf.f_isinstance (by rfl) (by rfl) cf.g_TooMany (kit_TooMany cf t ht)) iwA_nil)))) nd (by rfl) (by decide) (by decide) (by rfl) (by show 4 ≤ 16777216; decide)) (su_cons (su_cat (X := ((cxOf CX0 P w K mg base N__law_right "_law_right" sco__law_right f cdv A outer s H E).nox).suite a ((a, oe) :: pn)) (i := 5) (j := 2) (iwA_cons (iwV_own (X := ((cxOf CX0 P w K mg base N__law_right "_law_right" sco__law_right f cdv A outer s H E).nox)) (i := 5) (excC_f cf t ht) hz hf (by rfl) bf.f_isinstance (by rfl) (by rfl) cf.g_HatError (kit_HatError cf t ht)) (iwA_cons (iwV_ty (X := ((cxOf CX0 P w K mg base N__law_right "_law_right" sco__law_right f cdv A outer s H E).nox)) (i := 5) (excC_f cf t ht) hz hf (by rfl) bf.f_isinstance (by rfl) (by rfl) bf.f_ValueError (by decide +kernel) (by decide) (kit_ValueError cf t ht)) iwA_nil)) nd (by rfl) (by decide) (by decide) (by rfl) (by rfl)) (su_one (su_fld (X := ((cxOf CX0 P w K mg base N__law_right "_law_right" sco__law_right f cdv A outer s H E).nox)) (i := 5) (j := 3) (xf_f cf t ht) (no_f cf t ht) hz hf (by rfl) nd (by rfl) (by decide) (by decide) (by rfl)))))) (fun _ => rfl) (by decide) (by decide)) (lv_cons (sv_if (tv_cmp (xop_eq (K := K) hr.units) o2_eq (vv 1) (ev_lst (k := 0) av_nil) (nomark _)) (lv_one (s_ret (.lendIn 2 (ev_and (ev_cmp (xop_eq (K := K) hr.units) o2_eq (vv 2) (ev_lst (k := 0) av_nil) (nomark _)) (ev_and (xev_isT (K := K) (T := "tuple") (by rfl) bf.f_isinstance (by decide +kernel) (vv 4) (by rfl) bf.f_tuple (by decide +kernel) (by decide) (by decide)) (ev_one (ev_cmp (xop_eq (K := K) hr.units) o2_eq (ev_callB (xc_len (K := K)) oa_len (by rfl) bf.f_len PySem.boot_len (av_cons (vv 4) av_nil)) ev_int (nomark _)))))))) lv_nil) (lv_cons (sv_if (.lendIn 2 (wv_or (tv_cmp (xop_ne (K := K) hr.units) o2_ne (vv 2) (ev_op (xop_addA (K := K)) o2_add (ev_lc (own := [("k", 6)]) rfl nd (iv_r1 (by rfl) bf.f_range (av_cons ev_int av_nil)) (blkOk_by (N := N__law_right) (sc := sco__law_right) (by decide +kernel)) (fun _ _ _ _ _ => (g_name 6 nd)) (fun _ _ _ _ _ => tsv_nil) (fun _ _ _ _ _ => (ev_cmp (xop_eq (K := K) hr.units) o2_eq (vv 6) (xev_ix (K := K) (vv 1) ev_int (fun _ _ => rfl)) (nomark _))) (by decide) (by decide)) (ev_lst (k := 0) (av_cons ev_bl (av_cons ev_bl av_nil)))) (nomark _)) (wv_or1 (tv_val (xev_isT (K := K) (T := "bool") (by rfl) bf.f_isinstance (by decide +kernel) (vv 3) (by rfl) bf.f_bool (by decide +kernel) (by decide) (by decide))))).tv) (lv_one (s_ret ev_bl)) lv_nil) (lv_one (s_ret (ev_and (xev_isT (K := K) (T := "int") (by rfl) bf.f_isinstance (by decide +kernel) (vv 3) (by rfl) bf.f_int (by decide +kernel) (by decide) (by decide)) (ev_one (ev_cmp (xop_eq (K := K) hr.units) o2_eq (vv 3) (xev_ix (K := K) (vv 1) ev_int (fun _ _ => rfl)) (nomark _))))))))))))⟩
abbrev st_law : Stmt := topS 34
abbrev sco_law : Scope := defScope st_law
abbrev N_law : List Str := ["script", "lines", "k", "due"]
theorem fs_law : FnScope N_law ["script"] sco_law := ⟨rfl, rfl, rfl, by decide +kernel, rfl, by decide +kernel, by decide +kernel⟩
theorem ok_law {P : Program} {w : World} {K : PySem.W.Frag} {mg : Str → Option Value} {base : Heap} (bf : Bf mg) (cf : Cf K mg) (ini : IniF P w K mg base) {f : Addr} {fd : FuncData} (F : FunD K "law" "law" (defArgs st_law) (defBody st_law) sco_law [] [] f fd) (gf : mg "law" = some (.ref f)) (c__law_spoilt_text : Cal P w K mg base 4 "_law_spoilt_text" 1 1 sem__law_spoilt_text [] []) (c__law_first : Cal P w K mg base 3 "_law_first" 1 1 sem__law_first [] []) (c__law_right : Cal P w K mg base 5 "_law_right" 2 0 sem__law_right [] []) :
    Cal P w K mg base 6 "law" 1 0 sem_law [] [] := by
  refine cal_mk (N := N_law) (k := 5) (ps := ["script"]) (F := body_law) F gf fs_law (fun _ _ _ _ _ _ us hl => match us, hl with | [_], _ => rfl) fun cdv A outer s H E hr => ?_
  have nd := fs_law.nd
  exact ⟨_, List.replicate 4 0, [], (lv_cons (s_set 1 (xev_cal c__law_spoilt_text hr (by decide) (by rfl) (av_cons (vv 0) av_nil)) nd) (lv_cons (sv_for PassesOwn.never rfl (iv_r1 (by rfl) bf.f_range (av_cons ev_int av_nil)) (g_name 2 nd) (.demOut 3 (lv_cons (s_set 3 (Ev.clr (.lendIn 1 (xev_cal c__law_first hr (by decide) (by rfl) (av_cons (vv 1) av_nil)))) nd) (lv_cons (sv_if (.lendIn 1 (tv_cmp (xop_eq (K := K) hr.units) o2_eq (vv 1) (ev_lst (k := 0) (av_cons ev_str av_nil)) (nomark _))) (lv_one (s_set 3 (ev_lst (k := 0) av_nil) nd)) lv_nil) (lv_cons (sv_if (.lendIn 1 (.lendIn 3 (tv_not (tv_val (xev_cal c__law_right hr (by decide) (by rfl) (av_cons (xev_join (K := K) ev_str (vv 1)) (av_cons (vv 3) av_nil))))))) (lv_one (s_ret ev_bl)) lv_nil) (lv_cons (sv_if (.lendIn 3 (tv_cmp (xop_eq (K := K) hr.units) o2_eq (vv 3) (ev_lst (k := 0) av_nil) (nomark _))) (lv_one (s_ret ev_bl)) lv_nil) (lv_one (s_dropX (xv_pop 1 (Ev.clr (.lendIn 3 (xev_ix (K := K) (vv 3) ev_int (fun _ _ => rfl))))))))))))) (lv_one (s_ret ev_bl))))⟩
end K04

namespace K04
open PySem PySem.Spec L2 VL
open PyProof.Rows hiding St
def d_made_of : He.DefD := ⟨("made_of", none), "made_of", "made_of", defArgs st_made_of, defBody st_made_of, defScope st_made_of, [], []⟩
def d_are_names : He.DefD := ⟨("are_names", none), "are_names", "are_names", defArgs st_are_names, defBody st_are_names, defScope st_are_names, [], []⟩
def d_read_line : He.DefD := ⟨("read_line", none), "read_line", "read_line", defArgs st_read_line, defBody st_read_line, defScope st_read_line, [(.int 0)], []⟩
def d_read_hat : He.DefD := ⟨("read_hat", none), "read_hat", "read_hat", defArgs st_read_hat, defBody st_read_hat, defScope st_read_hat, [], []⟩
def d_read_sight : He.DefD := ⟨("read_sight", none), "read_sight", "read_sight", defArgs st_read_sight, defBody st_read_sight, defScope st_read_sight, [], []⟩
def d_read_book : He.DefD := ⟨("read_book", none), "read_book", "read_book", defArgs st_read_book, defBody st_read_book, defScope st_read_book, [], []⟩
def d__law_draws : He.DefD := ⟨("_law_draws", none), "_law_draws", "_law_draws", defArgs st__law_draws, defBody st__law_draws, defScope st__law_draws, [], []⟩
def d__law_cell_at : He.DefD := ⟨("_law_cell_at", none), "_law_cell_at", "_law_cell_at", defArgs st__law_cell_at, defBody st__law_cell_at, defScope st__law_cell_at, [], []⟩
def d__law_fresh : He.DefD := ⟨("_law_fresh", none), "_law_fresh", "_law_fresh", defArgs st__law_fresh, defBody st__law_fresh, defScope st__law_fresh, [], []⟩
def d__law_names : He.DefD := ⟨("_law_names", none), "_law_names", "_law_names", defArgs st__law_names, defBody st__law_names, defScope st__law_names, [], []⟩
def d__law_count : He.DefD := ⟨("_law_count", none), "_law_count", "_law_count", defArgs st__law_count, defBody st__law_count, defScope st__law_count, [], []⟩
def d__law_people : He.DefD := ⟨("_law_people", none), "_law_people", "_law_people", defArgs st__law_people, defBody st__law_people, defScope st__law_people, [], []⟩
def d__law_mixed_lines : He.DefD := ⟨("_law_mixed_lines", none), "_law_mixed_lines", "_law_mixed_lines", defArgs st__law_mixed_lines, defBody st__law_mixed_lines, defScope st__law_mixed_lines, [], []⟩
def d__law_shown : He.DefD := ⟨("_law_shown", none), "_law_shown", "_law_shown", defArgs st__law_shown, defBody st__law_shown, defScope st__law_shown, [], []⟩
def d__law_made_of : He.DefD := ⟨("_law_made_of", none), "_law_made_of", "_law_made_of", defArgs st__law_made_of, defBody st__law_made_of, defScope st__law_made_of, [], []⟩
def d__law_is_line : He.DefD := ⟨("_law_is_line", none), "_law_is_line", "_law_is_line", defArgs st__law_is_line, defBody st__law_is_line, defScope st__law_is_line, [], []⟩
def d__law_first : He.DefD := ⟨("_law_first", none), "_law_first", "_law_first", defArgs st__law_first, defBody st__law_first, defScope st__law_first, [], []⟩
def d__law_bad_line : He.DefD := ⟨("_law_bad_line", none), "_law_bad_line", "_law_bad_line", defArgs st__law_bad_line, defBody st__law_bad_line, defScope st__law_bad_line, [], []⟩
def d__law_spoilt_text : He.DefD := ⟨("_law_spoilt_text", none), "_law_spoilt_text", "_law_spoilt_text", defArgs st__law_spoilt_text, defBody st__law_spoilt_text, defScope st__law_spoilt_text, [], []⟩
def d__law_right : He.DefD := ⟨("_law_right", none), "_law_right", "_law_right", defArgs st__law_right, defBody st__law_right, defScope st__law_right, [], []⟩
def d_law : He.DefD := ⟨("law", none), "law", "law", defArgs st_law, defBody st_law, defScope st_law, [], []⟩
def d_ini : He.DefD := ⟨fIni, "__init__", "LineError.__init__", defArgs st_ini, defBody st_ini, defScope st_ini, [], []⟩
def fn : List He.DefD := [d_made_of, d_are_names, d_read_line, d_read_hat, d_read_sight, d_read_book, d__law_draws, d__law_cell_at, d__law_fresh, d__law_names, d__law_count, d__law_people, d__law_mixed_lines, d__law_shown, d__law_made_of, d__law_is_line, d__law_first, d__law_bad_line, d__law_spoilt_text, d__law_right, d_law, d_ini]
def fa : List He.Fa := [.glo "made_of", .glo "are_names", .glo "read_line", .glo "read_hat", .glo "read_sight", .glo "read_book", .glo "_law_draws", .glo "_law_cell_at", .glo "_law_fresh", .glo "_law_names", .glo "_law_count", .glo "_law_people", .glo "_law_mixed_lines", .glo "_law_shown", .glo "_law_made_of", .glo "_law_is_line", .glo "_law_first", .glo "_law_bad_line", .glo "_law_spoilt_text", .glo "_law_right", .glo "law", .free "ValueError", .free "bool", .free "enumerate", .free "int", .free "isinstance", .free "len", .free "list", .free "max", .free "range", .free "set", .free "str", .free "sum", .free "tuple", .str "FIGURES" "0123456789", .int "MOST_FIGURES" 30, .int "MOST_PEOPLE" 8, .int "MOST_SIGNS" 12, .str "SMALL" "abcdefghijklmnopqrstuvwxyz", .glo "NoLine", .glo "Twice", .glo "TooMany", .glo "Unknown", .glo "HatError", .glo "LineError"]
def ex : PySem.W.Frag → Bool := fun K => baseB K && (lineB K "NoLine" [("TooMany", false), ("Unknown", false), ("Twice", false), ("NoLine", true), ("HatError", true)] [("ValueError", true)] && (lineB K "Twice" [("TooMany", false), ("Unknown", false), ("Twice", true), ("NoLine", false), ("HatError", true)] [("ValueError", true)] && (lineB K "TooMany" [("TooMany", true), ("Unknown", false), ("Twice", false), ("NoLine", false), ("HatError", true)] [("ValueError", true)] && (lineB K "Unknown" [("TooMany", false), ("Unknown", true), ("Twice", false), ("NoLine", false), ("HatError", true)] [("ValueError", true)]))))
abbrev R : PySem.W.OpenRow := PySem.W.OpenLaw.row PySem.Challenge.rw_hatsight_k04_first_fault
abbrev hk : PySem.W.Hook := hookF 5 fa fn ex
def ob (s : PySem.W.SharedT) : AlE := obsF 5 fa fn ex (HandSHeadRun.getT s)
theorem ob_eq (s : PySem.W.SharedT) : ob s = hk.obs s.abs := obsF_eq (HandSHeadRun.getT_eq s)
def loose : List PySem.Str := (["HatError", "LineError", "NoLine", "Twice", "Unknown", "TooMany", "SMALL", "FIGURES", "MOST_SIGNS", "MOST_FIGURES", "MOST_PEOPLE", "made_of", "are_names", "read_line", "read_hat", "read_sight", "read_book", "_law_draws", "_law_cell_at", "_law_fresh", "_law_names", "_law_count", "_law_people", "_law_mixed_lines", "_law_shown", "_law_made_of", "_law_is_line", "_law_first", "_law_bad_line", "_law_spoilt_text"] : List PySem.Str) ++ (["_law_right"] : List PySem.Str)
theorem run (w : World) : HandSHeadRun.RunEq R (PySem.W.view R.prog [34]) hk ob 4000 loose w := by
  intro os
  kernel_rfl
theorem facts {P : Program} {w : World} {K : PySem.W.Frag} {h : Heap} {mg : Str → Option Value} {f : Addr} (X : K.In h) (G : h.Ns mainGlobals mg) (hfa : mg ("law" : Str) = some (.ref f)) (c : He.SaysD fa fn K) (cx : ex K = true) :
    ∃ fd : FuncData, (∀ (s : Shared) (v : Value), BindsTo s fd ⟨[v], []⟩ [("script", v)]) ∧ ∀ base : Heap, K.In base → base.Ns mainGlobals mg → FnOk P w K mg base CX0 6 f fd ["script"] (sp0 K 1 0 sem_law) := by
  obtain ⟨fd_made_of, F_made_of⟩ := c.def_ 0 (d := d_made_of) rfl
  obtain ⟨fd_are_names, F_are_names⟩ := c.def_ 1 (d := d_are_names) rfl
  obtain ⟨fd_read_line, F_read_line⟩ := c.def_ 2 (d := d_read_line) rfl
  obtain ⟨fd_read_hat, F_read_hat⟩ := c.def_ 3 (d := d_read_hat) rfl
  obtain ⟨fd_read_sight, F_read_sight⟩ := c.def_ 4 (d := d_read_sight) rfl
  obtain ⟨fd_read_book, F_read_book⟩ := c.def_ 5 (d := d_read_book) rfl
  obtain ⟨fd__law_draws, F__law_draws⟩ := c.def_ 6 (d := d__law_draws) rfl
  obtain ⟨fd__law_cell_at, F__law_cell_at⟩ := c.def_ 7 (d := d__law_cell_at) rfl
  obtain ⟨fd__law_fresh, F__law_fresh⟩ := c.def_ 8 (d := d__law_fresh) rfl
  obtain ⟨fd__law_names, F__law_names⟩ := c.def_ 9 (d := d__law_names) rfl
  obtain ⟨fd__law_count, F__law_count⟩ := c.def_ 10 (d := d__law_count) rfl
  obtain ⟨fd__law_people, F__law_people⟩ := c.def_ 11 (d := d__law_people) rfl
  obtain ⟨fd__law_mixed_lines, F__law_mixed_lines⟩ := c.def_ 12 (d := d__law_mixed_lines) rfl
  obtain ⟨fd__law_shown, F__law_shown⟩ := c.def_ 13 (d := d__law_shown) rfl
  obtain ⟨fd__law_made_of, F__law_made_of⟩ := c.def_ 14 (d := d__law_made_of) rfl
  obtain ⟨fd__law_is_line, F__law_is_line⟩ := c.def_ 15 (d := d__law_is_line) rfl
  obtain ⟨fd__law_first, F__law_first⟩ := c.def_ 16 (d := d__law_first) rfl
  obtain ⟨fd__law_bad_line, F__law_bad_line⟩ := c.def_ 17 (d := d__law_bad_line) rfl
  obtain ⟨fd__law_spoilt_text, F__law_spoilt_text⟩ := c.def_ 18 (d := d__law_spoilt_text) rfl
  obtain ⟨fd__law_right, F__law_right⟩ := c.def_ 19 (d := d__law_right) rfl
  obtain ⟨fd_law, F_law⟩ := c.def_ 20 (d := d_law) rfl
  obtain ⟨fd_ini, F_ini⟩ := c.def_ 21 (d := d_ini) rfl
  have bf : Bf mg := ⟨He.free_ok X G (c.fact 21 (f := .free "ValueError") rfl), He.free_ok X G (c.fact 22 (f := .free "bool") rfl), He.free_ok X G (c.fact 23 (f := .free "enumerate") rfl), He.free_ok X G (c.fact 24 (f := .free "int") rfl), He.free_ok X G (c.fact 25 (f := .free "isinstance") rfl), He.free_ok X G (c.fact 26 (f := .free "len") rfl), He.free_ok X G (c.fact 27 (f := .free "list") rfl), He.free_ok X G (c.fact 28 (f := .free "max") rfl), He.free_ok X G (c.fact 29 (f := .free "range") rfl), He.free_ok X G (c.fact 30 (f := .free "set") rfl), He.free_ok X G (c.fact 31 (f := .free "str") rfl), He.free_ok X G (c.fact 32 (f := .free "sum") rfl), He.free_ok X G (c.fact 33 (f := .free "tuple") rfl), He.str_ok X G (c.fact 34 (f := .str "FIGURES" "0123456789") rfl), He.int_ok X G (c.fact 35 (f := .int "MOST_FIGURES" 30) rfl), He.int_ok X G (c.fact 36 (f := .int "MOST_PEOPLE" 8) rfl), He.int_ok X G (c.fact 37 (f := .int "MOST_SIGNS" 12) rfl), He.str_ok X G (c.fact 38 (f := .str "SMALL" "abcdefghijklmnopqrstuvwxyz") rfl)⟩
  obtain ⟨x0, cx⟩ := He.ba cx
  obtain ⟨x1, cx⟩ := He.ba cx
  obtain ⟨x2, cx⟩ := He.ba cx
  obtain ⟨x3, cx⟩ := He.ba cx
  have cf : Cf K mg := ⟨baseB_ok x0, lineB_ok x1, lineB_ok x2, lineB_ok x3, lineB_ok cx, He.glo_ok X G (c.fact 39 (f := .glo "NoLine") rfl), He.glo_ok X G (c.fact 40 (f := .glo "Twice") rfl), He.glo_ok X G (c.fact 41 (f := .glo "TooMany") rfl), He.glo_ok X G (c.fact 42 (f := .glo "Unknown") rfl), He.glo_ok X G (c.fact 43 (f := .glo "HatError") rfl), He.glo_ok X G (c.fact 44 (f := .glo "LineError") rfl)⟩
  have gl := He.glo_ok X G (c.fact 20 (f := .glo "law") rfl)
  have e := hfa.symm.trans gl
  cases e
  refine ⟨fd_law, fun s v => FunD.bindsA (ps := ["script"]) F_law (fun _ _ _ _ _ _ us hl => match us, hl with | [_], _ => rfl) s [v] rfl, fun base _ _ => ?_⟩
  have ini : IniF P w K mg base := ok_ini cf F_ini
  have c_made_of : Cal P w K mg base 1 "made_of" 3 0 sem_made_of [] [] := ok_made_of bf cf ini F_made_of (He.glo_ok X G (c.fact 0 (f := .glo "made_of") rfl))
  have c_are_names : Cal P w K mg base 2 "are_names" 1 0 sem_are_names [] [] := ok_are_names bf cf ini F_are_names (He.glo_ok X G (c.fact 1 (f := .glo "are_names") rfl)) c_made_of
  have c_read_line : CalYD P w K mg base (fun t => He.ga K (csN t)) 3 "read_line" 1 0 sem_read_line "line" (.int 0) (.int 0) := ok_read_line bf cf ini F_read_line (He.glo_ok X G (c.fact 2 (f := .glo "read_line") rfl)) c_are_names c_made_of
  have c_read_hat : CalZ P w K mg base (fun t => He.ga K (csN t)) 3 "read_hat" 0 3 sem_read_hat := ok_read_hat bf cf ini F_read_hat (He.glo_ok X G (c.fact 3 (f := .glo "read_hat") rfl))
  have c_read_sight : CalZ P w K mg base (fun t => He.ga K (csN t)) 3 "read_sight" 1 4 sem_read_sight := ok_read_sight bf cf ini F_read_sight (He.glo_ok X G (c.fact 4 (f := .glo "read_sight") rfl))
  have c_read_book : CalY P w K mg base (fun t => He.ga K (csN t)) 4 "read_book" 1 0 sem_read_book := ok_read_book bf cf ini F_read_book (He.glo_ok X G (c.fact 5 (f := .glo "read_book") rfl)) c_read_line c_read_hat c_read_sight
  have c__law_draws : Cal P w K mg base 1 "_law_draws" 2 1 sem__law_draws [] [] := ok__law_draws bf cf ini F__law_draws (He.glo_ok X G (c.fact 6 (f := .glo "_law_draws") rfl))
  have c__law_cell_at : Cal P w K mg base 1 "_law_cell_at" 2 0 sem__law_cell_at [] [] := ok__law_cell_at bf cf ini F__law_cell_at (He.glo_ok X G (c.fact 7 (f := .glo "_law_cell_at") rfl))
  have c__law_fresh : Cal P w K mg base 1 "_law_fresh" 2 0 sem__law_fresh [] [] := ok__law_fresh bf cf ini F__law_fresh (He.glo_ok X G (c.fact 8 (f := .glo "_law_fresh") rfl))
  have c__law_names : Cal P w K mg base 2 "_law_names" 2 1 sem__law_names [] [] := ok__law_names bf cf ini F__law_names (He.glo_ok X G (c.fact 9 (f := .glo "_law_names") rfl)) c__law_draws c__law_fresh
  have c__law_count : Cal P w K mg base 2 "_law_count" 2 0 sem__law_count [] [] := ok__law_count bf cf ini F__law_count (He.glo_ok X G (c.fact 10 (f := .glo "_law_count") rfl)) c__law_draws
  have c__law_people : Cal P w K mg base 3 "_law_people" 1 2 sem__law_people [] [] := ok__law_people bf cf ini F__law_people (He.glo_ok X G (c.fact 11 (f := .glo "_law_people") rfl)) c__law_names c__law_cell_at c__law_count c__law_draws
  have c__law_mixed_lines : Cal P w K mg base 1 "_law_mixed_lines" 2 1 sem__law_mixed_lines [] [] := ok__law_mixed_lines bf cf ini F__law_mixed_lines (He.glo_ok X G (c.fact 12 (f := .glo "_law_mixed_lines") rfl))
  have c__law_shown : Cal P w K mg base 1 "_law_shown" 1 0 sem__law_shown [] [] := ok__law_shown bf cf ini F__law_shown (He.glo_ok X G (c.fact 13 (f := .glo "_law_shown") rfl))
  have c__law_made_of : Cal P w K mg base 1 "_law_made_of" 3 0 sem__law_made_of [] [] := ok__law_made_of bf cf ini F__law_made_of (He.glo_ok X G (c.fact 14 (f := .glo "_law_made_of") rfl))
  have c__law_is_line : Cal P w K mg base 2 "_law_is_line" 1 0 sem__law_is_line [] [] := ok__law_is_line bf cf ini F__law_is_line (He.glo_ok X G (c.fact 15 (f := .glo "_law_is_line") rfl)) c__law_made_of
  have c__law_first : Cal P w K mg base 3 "_law_first" 1 1 sem__law_first [] [] := ok__law_first bf cf ini F__law_first (He.glo_ok X G (c.fact 16 (f := .glo "_law_first") rfl)) c__law_is_line
  have c__law_bad_line : Cal P w K mg base 3 "_law_bad_line" 3 0 sem__law_bad_line [] [] := ok__law_bad_line bf cf ini F__law_bad_line (He.glo_ok X G (c.fact 17 (f := .glo "_law_bad_line") rfl)) c__law_count c__law_fresh
  have c__law_spoilt_text : Cal P w K mg base 4 "_law_spoilt_text" 1 1 sem__law_spoilt_text [] [] := ok__law_spoilt_text bf cf ini F__law_spoilt_text (He.glo_ok X G (c.fact 18 (f := .glo "_law_spoilt_text") rfl)) c__law_people c__law_draws c__law_cell_at c__law_mixed_lines c__law_bad_line
  have c__law_right : Cal P w K mg base 5 "_law_right" 2 0 sem__law_right [] [] := ok__law_right bf cf ini F__law_right (He.glo_ok X G (c.fact 19 (f := .glo "_law_right") rfl)) c_read_book
  refine fn_ok (N := N_law) (k := 5) (ps := ["script"]) (F := body_law) F_law fs_law fun cdv A outer s H E hr => ?_
  have nd := fs_law.nd
  exact ⟨_, List.replicate 4 0, [], (lv_cons (s_set 1 (xev_cal c__law_spoilt_text hr (by decide) (by rfl) (av_cons (vv 0) av_nil)) nd) (lv_cons (sv_for PassesOwn.never rfl (iv_r1 (by rfl) bf.f_range (av_cons ev_int av_nil)) (g_name 2 nd) (.demOut 3 (lv_cons (s_set 3 (Ev.clr (.lendIn 1 (xev_cal c__law_first hr (by decide) (by rfl) (av_cons (vv 1) av_nil)))) nd) (lv_cons (sv_if (.lendIn 1 (tv_cmp (xop_eq (K := K) hr.units) o2_eq (vv 1) (ev_lst (k := 0) (av_cons ev_str av_nil)) (nomark _))) (lv_one (s_set 3 (ev_lst (k := 0) av_nil) nd)) lv_nil) (lv_cons (sv_if (.lendIn 1 (.lendIn 3 (tv_not (tv_val (xev_cal c__law_right hr (by decide) (by rfl) (av_cons (xev_join (K := K) ev_str (vv 1)) (av_cons (vv 3) av_nil))))))) (lv_one (s_ret ev_bl)) lv_nil) (lv_cons (sv_if (.lendIn 3 (tv_cmp (xop_eq (K := K) hr.units) o2_eq (vv 3) (ev_lst (k := 0) av_nil) (nomark _))) (lv_one (s_ret ev_bl)) lv_nil) (lv_one (s_dropX (xv_pop 1 (Ev.clr (.lendIn 3 (xev_ix (K := K) (vv 3) ev_int (fun _ _ => rfl))))))))))))) (lv_one (s_ret ev_bl))))⟩
end K04

open PySem PySem.W PySem.Calls
open PyProof.Rows hiding St
theorem PySem.Challenge.cw_hatsight_k04_first_fault_holds : PySem.Challenge.rw_hatsight_k04_first_fault.Holds := by
  w_on; o_law
  refine HandSHeadRun.head_any (r := OpenLaw.row PySem.Challenge.rw_hatsight_k04_first_fault) (q := view (OpenLaw.row PySem.Challenge.rw_hatsight_k04_first_fault).prog [34]) (H := K04.hk) (ob := K04.ob) (M := 4000) (loose := K04.loose) (d := HandSHeadRun.topDef (OpenLaw.row PySem.Challenge.rw_hatsight_k04_first_fault).prog 34) (kwd := []) K04.ob_eq
    (by kernel_rfl) (fun s => by kernel_rfl) K04.run (by kernel_rfl) (by kernel_rfl) (by kernel_rfl) (by rfl) (by first | assumption | decide +kernel) (by decide +kernel) ⟨rfl, rfl, rfl, rfl, rfl, by decide +kernel⟩ ?hw ?hc
  case hw => w_witness2
  case hc =>
    refine L2.walk_ofE (l := PySem.Challenge.rw_hatsight_k04_first_fault) (n := 63) (k := 6) (x := "script") (CX := L2.CX0) rfl (by decide) (by kernel_rfl) ⟨rfl, by decide, by decide⟩ ?F (fun _ _ _ _ z => z)
    intro w mg fa h Y G hmg0
    obtain ⟨K, KX, c⟩ := Y
    have hmg : mg ("law" : PySem.Str) = some (.ref fa) := by
      have e : (HandSHeadRun.topDef (OpenLaw.row PySem.Challenge.rw_hatsight_k04_first_fault).prog 34).name = ("law" : PySem.Str) := by kernel_rfl
      rw [← e]
      exact hmg0
    obtain ⟨fd, hb, hF⟩ := K04.facts (P := (PySem.Challenge.rw_hatsight_k04_first_fault).prog) (w := w) KX G hmg c.1 c.2
    exact ⟨K, fd, VL.sp0 K 1 0 K04.sem_law, KX, hb, fun H a ns hl _ hS => VL.law_sp hS (K04.law_true ns hl), hF⟩
