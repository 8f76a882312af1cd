import PyProof.Rows.All
import Wide.All
import OpenK.AllK
import Wide.FinOn
import PyProof.EqAt
import PyProof.EqKinds
import PyProof.TupleCall
import HandS.ForMost
import HandS.ForExc
import HandS.ExcInit
import HandS.Wide
import HandS.Flow
import HandS.EndBits
import HandS.ClsMeth
import HandS.Property
import HandS.Defaults
import HandS.IsInst
import HandS.Zip
import HandS.More
import HandS.ExcField
import HandS.SlotsOwn
import KE.KOpsOwn
import HandS.FStr
import HandS.Style
import KE.KCallOwn
import KE.KFmtOwn
import PyProof.StrBlock2
import PyProof.InstNe
import PyProof.StrHeap
import HandS.ExcIs
import KE.GoesMore
import KE.GoesEnum
import KE.GoesZip
import HandS.HotCalls
import HandS.TupAny
import HandS.OwnEq
import PyProof.NeKinds
import HandS.GenList
import HandS.GenYield
import KE.KExcInit
import HandS.List
import HandS.Text
import HandS.Iter
import PyProof.StrOps2
import PyProof.P3Eq
import KE.OsRunLaw
import PySem.Challenge.RW_poolsmeet_k01_errors
set_option Elab.async false
set_option linter.all false
set_option maxRecDepth 100000
set_option maxHeartbeats 4000000
theorem PM.keepR {R : PySem.World → PySem.OsState → Prop} {H : Prop} (heavyv : ∀ w os, R w os) (mainv : H) : H := mainv
theorem PM.bothL {A B : Prop} (bothv : A ∧ B) : A := bothv.1
/-- the top's run in four looks, each for itself -/
theorem PM.splitImp {σ β γ δ : Type} {A : PySem.World → PySem.OsState → σ → Bool} {B : PySem.World → PySem.OsState → σ → δ} {E : PySem.World → PySem.OsState → Option σ} {as : List PySem.Addr} {g : PySem.World → PySem.OsState → σ → PySem.Addr → γ} {b : δ} {K : PySem.World → List β} {h : β → γ} {T H : Prop} (n : Nat)
    (top : T ∧ (∀ w os, Option.map (fun s => (A w os s, B w os s, List.map (g w os s) as)) (E w os) = some (true, b, List.map h (K w))) → H) :
    ((∀ w os, Option.map (fun s => A w os s) (E w os) = some true) ∧ (∀ w os, Option.map (fun s => B w os s) (E w os) = some b)) ∧ (∀ w os, Option.map (fun s => List.map (g w os s) (as.take n)) (E w os) = some (List.map h ((K w).take n))) ∧ (∀ w os, Option.map (fun s => List.map (g w os s) (as.drop n)) (E w os) = some (List.map h ((K w).drop n))) → T → H := by
  rintro ⟨⟨h0, h1⟩, h2, h3⟩ t
  refine top ⟨t, fun w os => ?_⟩
  have e0 := h0 w os
  have e1 := h1 w os
  have e2 := h2 w os
  have e3 := h3 w os
  cases e : E w os with
  | none => rw [e] at e1; cases e1
  | some s =>
    rw [e] at e0 e1 e2 e3
    simp only [Option.map_some, Option.some.injEq, Prod.mk.injEq] at e0 e1 e2 e3 ⊢
    refine ⟨e0, e1, ?_⟩
    rw [← List.take_append_drop n as, List.map_append, e2, e3, ← List.map_append, List.take_append_drop]
abbrev PM.p0 {Z A B C T H : Prop} (_ : (Z ∧ A) ∧ B ∧ C → T → H) : Prop := Z
abbrev PM.p1 {Z A B C T H : Prop} (_ : (Z ∧ A) ∧ B ∧ C → T → H) : Prop := A
abbrev PM.p2 {Z A B C T H : Prop} (_ : (Z ∧ A) ∧ B ∧ C → T → H) : Prop := B
abbrev PM.p3 {Z A B C T H : Prop} (_ : (Z ∧ A) ∧ B ∧ C → T → H) : Prop := C
section
set_option hygiene false in
open Lean in
local macro_rules
  | `(tactic| kernel_rfl%$tk) => do
    if tk.getPos? == some ⟨424242⟩ then Macro.throwUnsupported
    let a : Syntax := .atom (.synthetic ⟨424242⟩ ⟨424243⟩) "kernel_rfl"
    `(tactic| first | ((have _z : PySem.World := by assumption); clear _z; rename_i w0 os0; exact ?heavyv w0 os0) | kernel_rfl%$a)
set_option hygiene false in
local macro_rules | `(tactic| k_head) => `(tactic| (refine' PM.keepR ?heavyv ?mainv; (case' mainv => k_headL); (case' hc => refine' PM.bothL ?bothv); (case' heavyv => exact (?bothv).2)))
open PySem.W in
open_top topk0 for PySem.Challenge.rw_poolsmeet_k01_errors
end
def topk1 := PM.splitImp 340 topk0
theorem topk_a : PM.p0 topk1 := by delta PM.p0; intro w os; kernel_rfl
theorem topk_b : PM.p1 topk1 := by delta PM.p1; intro w os; kernel_rfl
theorem topk_c : PM.p2 topk1 := by delta PM.p2; intro w os; kernel_rfl
theorem topk_d : PM.p3 topk1 := by delta PM.p3; intro w os; kernel_rfl
def topk := topk1 ⟨⟨topk_a, topk_b⟩, topk_c, topk_d⟩
set_option Elab.async false
set_option linter.all false
set_option maxRecDepth 100000
/-! An abstract machine over the layer: data as trees, a store of things that change. -/
namespace PM
open PySem L2

/-- a datum: an immutable tree; loc n: the n-th thing of the store -/
inductive D where
  | non | bl (b : Bool) | int (i : Int) | str (x : Str) | ref (a : Addr) | ty (n : String) | loc (n : Nat)
  | tup (ds : List D) | lst (ds : List D) | scr (ds : List D) | exn (a dd : Addr) (ns : List Str) (ds : List D) | obj (C : Addr) (ns : List Str) (ds : List D) | err (C : Addr) (ns : List Str) (ds : List D)
/-- a thing of the store -/
inductive M where
  | lst (ds : List D) | ins (C : Addr) (ns : List Str) (ds : List D) | gone | box

/-- the dict of an error that was made: none, or its fields -/
def ErD (G : Hp) : Option Addr → List (Str × V) → Prop
  | none, fs => fs = []
  | some d, fs => G d = some (exd d fs)
section
variable (K : PySem.W.Frag) (L : List Addr) (G : Hp)
mutual
def Rep : D → V → Prop
  | .non, v => v = .non
  | .bl b, v => v = .bl b
  | .int i, v => v = .int i
  | .str x, v => v = .str x
  | .ref a, v => v = .ref a
  | .ty n, v => v = .ty n
  | .loc n, v => ∃ a, L[n]? = some a ∧ v = .ref a
  | .tup ds, v => ∃ a vs, v = .ref a ∧ SqT K G a vs ∧ Reps ds vs
  | .lst ds, v => ∃ a vs, v = .ref a ∧ G a = some (.lst vs) ∧ Reps ds vs
  | .scr ds, v => ∃ a vs, v = .ref a ∧ SqL K G a vs ∧ Reps ds vs
  | .exn a dd ns ds, v => ∃ vs, v = .ref a ∧ G dd = some (.xd (ns.zip vs)) ∧ ns.length = ds.length ∧ Reps ds vs
  | .obj C ns ds, v => ∃ a dx vs, v = .ref a ∧ G a = some (.ins C dx (ns.zip vs)) ∧ ns.length = ds.length ∧ Reps ds vs
  | .err C ns ds, v => ∃ a dx vs, v = .ref a ∧ (G a = some (exo a C dx) ∧ ErD G dx (ns.zip vs)) ∧ ns.length = ds.length ∧ Reps ds vs
def Reps : List D → List V → Prop
  | [], vs => vs = []
  | d :: ds, vs => ∃ v r, vs = v :: r ∧ Rep d v ∧ Reps ds r
end
end

theorem Same.rd {H H' : Hp} {a : Addr} {u : HO} (e : Same H H') (h : Rd H a u) : Rd H' a u := by
  rcases h with h | ⟨o, h⟩
  · exact .inl (e _ _ h)
  · exact .inr ⟨o, e _ _ h⟩
theorem Same.sqT {K : PySem.W.Frag} {H H' : Hp} {a : Addr} {xs : List V} (e : Same H H') (h : SqT K H a xs) : SqT K H' a xs := by
  rcases h with h | h
  · exact .inl (Same.rd e h)
  · exact .inr h
theorem Same.sqL {K : PySem.W.Frag} {H H' : Hp} {a : Addr} {xs : List V} (e : Same H H') (h : SqL K H a xs) : SqL K H' a xs := by
  rcases h with h | h
  · exact .inl (Same.rd e h)
  · exact .inr h
/-- the places of the store stay -/
def Pre (L L' : List Addr) : Prop := ∀ (n : Nat) a, L[n]? = some a → L'[n]? = some a
theorem Pre.refl (L : List Addr) : Pre L L := fun _ _ h => h
theorem Pre.trans {L L1 L2 : List Addr} (a : Pre L L1) (b : Pre L1 L2) : Pre L L2 := fun n x h => b n x (a n x h)
theorem Pre.app {L r : List Addr} : Pre L (L ++ r) := fun n a h => by
  rw [List.getElem?_append_left (List.getElem?_eq_some_iff.mp h).1]
  exact h

section
variable {K : PySem.W.Frag} {L L' : List Addr} {G G' : Hp}
mutual
theorem Rep.mono (hl : Pre L L') (hg : Same G G') : ∀ {d : D} {v : V}, Rep K L G d v → Rep K L' G' d v
  | .non, _, h => by simp only [Rep] at h ⊢; exact h
  | .bl _, _, h => by simp only [Rep] at h ⊢; exact h
  | .int _, _, h => by simp only [Rep] at h ⊢; exact h
  | .str _, _, h => by simp only [Rep] at h ⊢; exact h
  | .ref _, _, h => by simp only [Rep] at h ⊢; exact h
  | .ty _, _, h => by simp only [Rep] at h ⊢; exact h
  | .loc n, _, h => by
    simp only [Rep] at h ⊢
    obtain ⟨a, e, r⟩ := h
    exact ⟨a, hl n a e, r⟩
  | .tup ds, _, h => by
    simp only [Rep] at h ⊢
    obtain ⟨a, vs, e, q, r⟩ := h
    exact ⟨a, vs, e, Same.sqT hg q, Reps.mono hl hg r⟩
  | .lst ds, _, h => by
    simp only [Rep] at h ⊢
    obtain ⟨a, vs, e, q, r⟩ := h
    exact ⟨a, vs, e, hg _ _ q, Reps.mono hl hg r⟩
  | .scr ds, _, h => by
    simp only [Rep] at h ⊢
    obtain ⟨a, vs, e, q, r⟩ := h
    exact ⟨a, vs, e, Same.sqL hg q, Reps.mono hl hg r⟩
  | .exn a dd ns ds, _, h => by
    simp only [Rep] at h ⊢
    obtain ⟨vs, e, q, z, r⟩ := h
    exact ⟨vs, e, hg _ _ q, z, Reps.mono hl hg r⟩
  | .obj C ns ds, _, h => by
    simp only [Rep] at h ⊢
    obtain ⟨a, dx, vs, e, q, z, r⟩ := h
    exact ⟨a, dx, vs, e, hg _ _ q, z, Reps.mono hl hg r⟩
  | .err C ns ds, _, h => by
    simp only [Rep] at h ⊢
    obtain ⟨a, dx, vs, e, ⟨q, q2⟩, z, r⟩ := h
    refine ⟨a, dx, vs, e, ⟨hg _ _ q, ?_⟩, z, Reps.mono hl hg r⟩
    cases dx with
    | none => exact q2
    | some d => exact hg _ _ q2
theorem Reps.mono (hl : Pre L L') (hg : Same G G') : ∀ {ds : List D} {vs : List V}, Reps K L G ds vs → Reps K L' G' ds vs
  | [], _, h => by simp only [Reps] at h ⊢; exact h
  | d :: ds, _, h => by
    simp only [Reps] at h ⊢
    obtain ⟨v, r, e, h1, h2⟩ := h
    exact ⟨v, r, e, Rep.mono hl hg h1, Reps.mono hl hg h2⟩
end
theorem Reps.length : ∀ {ds : List D} {vs : List V}, Reps K L G ds vs → vs.length = ds.length
  | [], _, h => by simp only [Reps] at h; subst h; rfl
  | d :: ds, _, h => by
    simp only [Reps] at h
    obtain ⟨v, r, e, _, h2⟩ := h
    subst e
    simp [Reps.length h2]
theorem Reps.get : ∀ {ds : List D} {vs : List V} {i : Nat} {d : D}, Reps K L G ds vs → ds[i]? = some d → ∃ v, vs[i]? = some v ∧ Rep K L G d v
  | [], _, i, d, _, e => by simp at e
  | x :: ds, _, 0, d, h, e => by
    simp only [Reps] at h
    obtain ⟨v, r, rfl, h1, _⟩ := h
    simp only [List.getElem?_cons_zero, Option.some.injEq] at e
    subst e
    exact ⟨v, rfl, h1⟩
  | x :: ds, _, i + 1, d, h, e => by
    simp only [Reps] at h
    obtain ⟨v, r, rfl, _, h2⟩ := h
    simp only [List.getElem?_cons_succ] at e ⊢
    exact Reps.get h2 e
theorem Reps.nil : Reps K L G [] [] := by simp only [Reps]
theorem Reps.cons {d : D} {ds : List D} {v : V} {vs : List V} (h : Rep K L G d v) (r : Reps K L G ds vs) : Reps K L G (d :: ds) (v :: vs) := by
  simp only [Reps]
  exact ⟨v, vs, rfl, h, r⟩
theorem Reps.append : ∀ {ds es : List D} {vs us : List V}, Reps K L G ds vs → Reps K L G es us → Reps K L G (ds ++ es) (vs ++ us)
  | [], _, _, _, h, r => by simp only [Reps] at h; subst h; exact r
  | d :: ds, _, _, _, h, r => by
    simp only [Reps] at h
    obtain ⟨v, q, rfl, h1, h2⟩ := h
    exact Reps.cons h1 (Reps.append h2 r)
theorem Reps.inv_nil {vs : List V} (h : Reps K L G [] vs) : vs = [] := by simp only [Reps] at h; exact h
theorem Reps.inv_cons {d : D} {ds : List D} {vs : List V} (h : Reps K L G (d :: ds) vs) : ∃ v r, vs = v :: r ∧ Rep K L G d v ∧ Reps K L G ds r := by simp only [Reps] at h; exact h
theorem Reps.set {d : D} {v : V} (r : Rep K L G d v) : ∀ {ds : List D} {vs : List V} (i : Nat), Reps K L G ds vs → Reps K L G (ds.set i d) (vs.set i v)
  | [], _, _, h => by simp only [Reps] at h; subst h; simp [Reps.nil]
  | x :: ds, _, 0, h => by
    obtain ⟨u, q, rfl, h1, h2⟩ := h.inv_cons
    exact Reps.cons r h2
  | x :: ds, _, i + 1, h => by
    obtain ⟨u, q, rfl, h1, h2⟩ := h.inv_cons
    exact Reps.cons h1 (Reps.set r i h2)
end
theorem rep_non {K L G v} : Rep K L G .non v ↔ v = .non := by simp only [Rep]
theorem rep_bl {K L G b v} : Rep K L G (.bl b) v ↔ v = .bl b := by simp only [Rep]
theorem rep_int {K L G i v} : Rep K L G (.int i) v ↔ v = .int i := by simp only [Rep]
theorem rep_str {K L G i v} : Rep K L G (.str i) v ↔ v = .str i := by simp only [Rep]
theorem rep_ref {K L G i v} : Rep K L G (.ref i) v ↔ v = .ref i := by simp only [Rep]
theorem rep_ty {K L G i v} : Rep K L G (.ty i) v ↔ v = .ty i := by simp only [Rep]
theorem rep_loc {K L G n v} : Rep K L G (.loc n) v ↔ ∃ a, L[n]? = some a ∧ v = .ref a := by simp only [Rep]
theorem rep_tup {K L G ds v} : Rep K L G (.tup ds) v ↔ ∃ a vs, v = .ref a ∧ SqT K G a vs ∧ Reps K L G ds vs := by simp only [Rep]
theorem rep_lst {K L G ds v} : Rep K L G (.lst ds) v ↔ ∃ a vs, v = .ref a ∧ G a = some (.lst vs) ∧ Reps K L G ds vs := by simp only [Rep]
theorem rep_scr {K L G ds v} : Rep K L G (.scr ds) v ↔ ∃ a vs, v = .ref a ∧ SqL K G a vs ∧ Reps K L G ds vs := by simp only [Rep]
theorem rep_exn {K L G a dd ns ds v} : Rep K L G (.exn a dd ns ds) v ↔ ∃ vs, v = .ref a ∧ G dd = some (.xd (ns.zip vs)) ∧ ns.length = ds.length ∧ Reps K L G ds vs := by simp only [Rep]
theorem rep_obj {K L G C ns ds v} : Rep K L G (.obj C ns ds) v ↔ ∃ a dx vs, v = .ref a ∧ G a = some (.ins C dx (ns.zip vs)) ∧ ns.length = ds.length ∧ Reps K L G ds vs := by simp only [Rep]
theorem rep_err {K L G C ns ds v} : Rep K L G (.err C ns ds) v ↔ ∃ a dx vs, v = .ref a ∧ (G a = some (exo a C dx) ∧ ErD G dx (ns.zip vs)) ∧ ns.length = ds.length ∧ Reps K L G ds vs := by simp only [Rep]

/-! ### locs below a bound -/
mutual
def D.lo (n : Nat) : D → Bool
  | .loc m => decide (m < n)
  | .tup ds => D.los n ds
  | .lst ds => D.los n ds
  | .scr ds => D.los n ds
  | .exn _ _ _ ds => D.los n ds
  | .obj _ _ ds => D.los n ds
  | .err _ _ ds => D.los n ds
  | .non => true
  | .bl _ => true
  | .int _ => true
  | .str _ => true
  | .ref _ => true
  | .ty _ => true
def D.los (n : Nat) : List D → Bool
  | [] => true
  | d :: ds => D.lo n d && D.los n ds
end
section
variable {K : PySem.W.Frag} {L : List Addr} {G : Hp} {n : Nat}
mutual
theorem Rep.cut : ∀ {d : D} {v : V}, Rep K L G d v → D.lo n d = true → Rep K (L.take n) G d v
  | .non, _, h, _ => by simp only [Rep] at h ⊢; exact h
  | .bl _, _, h, _ => by simp only [Rep] at h ⊢; exact h
  | .int _, _, h, _ => by simp only [Rep] at h ⊢; exact h
  | .str _, _, h, _ => by simp only [Rep] at h ⊢; exact h
  | .ref _, _, h, _ => by simp only [Rep] at h ⊢; exact h
  | .ty _, _, h, _ => by simp only [Rep] at h ⊢; exact h
  | .loc m, _, h, b => by
    simp only [D.lo, decide_eq_true_eq] at b
    simp only [Rep] at h ⊢
    obtain ⟨a, e, r⟩ := h
    exact ⟨a, by rw [List.getElem?_take_of_lt b]; exact e, r⟩
  | .tup ds, _, h, b => by
    simp only [D.lo] at b
    simp only [Rep] at h ⊢
    obtain ⟨a, vs, e, q, r⟩ := h
    exact ⟨a, vs, e, q, Reps.cut r b⟩
  | .lst ds, _, h, b => by
    simp only [D.lo] at b
    simp only [Rep] at h ⊢
    obtain ⟨a, vs, e, q, r⟩ := h
    exact ⟨a, vs, e, q, Reps.cut r b⟩
  | .scr ds, _, h, b => by
    simp only [D.lo] at b
    simp only [Rep] at h ⊢
    obtain ⟨a, vs, e, q, r⟩ := h
    exact ⟨a, vs, e, q, Reps.cut r b⟩
  | .exn a dd ns ds, _, h, b => by
    simp only [D.lo] at b
    simp only [Rep] at h ⊢
    obtain ⟨vs, e, q, z, r⟩ := h
    exact ⟨vs, e, q, z, Reps.cut r b⟩
  | .obj C ns ds, _, h, b => by
    simp only [D.lo] at b
    simp only [Rep] at h ⊢
    obtain ⟨a, dx, vs, e, q, z, r⟩ := h
    exact ⟨a, dx, vs, e, q, z, Reps.cut r b⟩
  | .err C ns ds, _, h, b => by
    simp only [D.lo] at b
    simp only [Rep] at h ⊢
    obtain ⟨a, dx, vs, e, q, z, r⟩ := h
    exact ⟨a, dx, vs, e, q, z, Reps.cut r b⟩
theorem Reps.cut : ∀ {ds : List D} {vs : List V}, Reps K L G ds vs → D.los n ds = true → Reps K (L.take n) G ds vs
  | [], _, h, _ => by simp only [Reps] at h ⊢; exact h
  | d :: ds, _, h, b => by
    simp only [D.los, Bool.and_eq_true] at b
    simp only [Reps] at h ⊢
    obtain ⟨v, r, e, h1, h2⟩ := h
    exact ⟨v, r, e, Rep.cut h1 b.1, Reps.cut h2 b.2⟩
end
end
def M.lo (n : Nat) : M → Bool
  | .lst ds => D.los n ds
  | .ins _ _ ds => D.los n ds
  | .gone => true
  | .box => true

/-! ### the state -/
def MAt (K : PySem.W.Frag) (L : List Addr) (G H : Hp) (a : Addr) : M → Prop
  | .lst ds => ∃ vs, H a = some (.lst vs) ∧ Reps K L G ds vs
  | .ins C ns ds => ∃ dx vs, H a = some (.ins C dx (ns.zip vs)) ∧ ns.length = ds.length ∧ Reps K L G ds vs
  | .gone => True
  | .box => ∃ i j k : Int, H a = some (.lst [.int i, .int j, .int k])
structure Ok (K : PySem.W.Frag) (L : List Addr) (G H : Hp) (μ : List M) : Prop where
  sub : Same G H
  len : L.length = μ.length
  nd : L.Nodup
  off : ∀ a ∈ L, G a = none
  liv : ∀ a ∈ L, ∃ o, H a = some o
  at_ : ∀ (n : Nat) a m, L[n]? = some a → μ[n]? = some m → MAt K L G H a m
structure RepS (K : PySem.W.Frag) (L : List Addr) (G : Hp) (ρ : List (Option D)) (σ : St) : Prop where
  len : σ.length = ρ.length
  at_ : ∀ (i : Nat) d, ρ[i]? = some (some d) → ∃ v, σ[i]? = some (some v) ∧ Rep K L G d v
structure Step (L : List Addr) (G H : Hp) (L' : List Addr) (G' H' : Hp) : Prop where
  pre : Pre L L'
  gs : Same G G'
  hs : ∀ b o, H b = some o → b ∉ L → H' b = some o
  fr : ∀ a ∈ L', a ∈ L ∨ H a = none
  nn : ∀ b o, H b = some o → ∃ o', H' b = some o'
  gf : ∀ b o, G' b = some o → G b = some o ∨ H b = none
theorem Step.refl (L : List Addr) (G H : Hp) : Step L G H L G H := ⟨.refl _, .refl _, fun _ _ h _ => h, fun _ h => .inl h, fun _ o h => ⟨o, h⟩, fun _ _ h => .inl h⟩
theorem Step.nope {L L' : List Addr} {G H G' H' : Hp} (s : Step L G H L' G' H') {b : Addr} (h : H' b = Option.none) : H b = Option.none := by
  cases e : H b with
  | none => rfl
  | some o =>
    obtain ⟨o', q⟩ := s.nn b o e
    rw [h] at q
    cases q
theorem Step.trans {L L1 L2 : List Addr} {G H G1 H1 G2 H2 : Hp} (a : Step L G H L1 G1 H1) (b : Step L1 G1 H1 L2 G2 H2) : Step L G H L2 G2 H2 where
  pre := a.pre.trans b.pre
  gs := a.gs.trans b.gs
  hs := fun c o h n => b.hs c o (a.hs c o h n) fun z => (a.fr c z).elim n fun q => by rw [q] at h; cases h
  fr := fun c z => by
    rcases b.fr c z with q | q
    · exact a.fr c q
    · exact .inr (a.nope q)
  nn := fun c o h => by
    obtain ⟨o', q⟩ := a.nn c o h
    exact b.nn c o' q
  gf := fun c o h => by
    rcases b.gf c o h with q | q
    · exact a.gf c o q
    · exact .inr (a.nope q)
theorem MAt.mono {K : PySem.W.Frag} {L L' : List Addr} {G G' H : Hp} {a : Addr} {m : M} (hl : Pre L L') (hg : Same G G') (h : MAt K L G H a m) : MAt K L' G' H a m := by
  cases m with
  | lst ds => obtain ⟨vs, e, r⟩ := h; exact ⟨vs, e, r.mono hl hg⟩
  | ins C ns ds => obtain ⟨dx, vs, e, z, r⟩ := h; exact ⟨dx, vs, e, z, r.mono hl hg⟩
  | gone => trivial
  | box => exact h
theorem RepS.mono {K : PySem.W.Frag} {L L' : List Addr} {G G' : Hp} {ρ : List (Option D)} {σ : St} (hl : Pre L L') (hg : Same G G') (h : RepS K L G ρ σ) : RepS K L' G' ρ σ :=
  ⟨h.len, fun i d e => let ⟨v, e', r⟩ := h.at_ i d e; ⟨v, e', r.mono hl hg⟩⟩
theorem RepS.step {K : PySem.W.Frag} {L L' : List Addr} {G H G' H' : Hp} {ρ : List (Option D)} {σ : St} (h : RepS K L G ρ σ) (s : Step L G H L' G' H') : RepS K L' G' ρ σ := h.mono s.pre s.gs
theorem Rep.step {K : PySem.W.Frag} {L L' : List Addr} {G H G' H' : Hp} {d : D} {v : V} (h : Rep K L G d v) (s : Step L G H L' G' H') : Rep K L' G' d v := h.mono s.pre s.gs
theorem Reps.step {K : PySem.W.Frag} {L L' : List Addr} {G H G' H' : Hp} {d : List D} {v : List V} (h : Reps K L G d v) (s : Step L G H L' G' H') : Reps K L' G' d v := h.mono s.pre s.gs
theorem RepS.set {K : PySem.W.Frag} {L : List Addr} {G : Hp} {ρ : List (Option D)} {σ : St} {d : D} {v : V} (h : RepS K L G ρ σ) (r : Rep K L G d v) (i : Nat) : RepS K L G (ρ.set i (some d)) (σ.set i (some v)) := by
  refine ⟨by simpa using h.len, fun j e hj => ?_⟩
  by_cases hi : i = j
  · subst hi
    by_cases hl : i < ρ.length
    · rw [List.getElem?_set_self hl] at hj
      cases hj
      exact ⟨v, by rw [List.getElem?_set_self (by rw [h.len]; exact hl)], r⟩
    · rw [List.getElem?_eq_none (by simpa using hl)] at hj
      cases hj
  · rw [List.getElem?_set_ne hi] at hj ⊢
    exact h.at_ j e hj
theorem RepS.forget {K : PySem.W.Frag} {L : List Addr} {G : Hp} {ρ ρ' : List (Option D)} {σ : St} (h : RepS K L G ρ σ) (hl : ρ'.length = ρ.length) (hs : ∀ (i : Nat) d, ρ'[i]? = some (some d) → ρ[i]? = some (some d)) : RepS K L G ρ' σ :=
  ⟨h.len.trans hl.symm, fun i d e => h.at_ i d (hs i d e)⟩

theorem mem_ne {L : List Addr} {H : Hp} {p : Addr} (h : ∀ a ∈ L, ∃ o, H a = some o) (hp : H p = none) : ∀ a ∈ L, a ≠ p := fun a ha z => by
  obtain ⟨o, e⟩ := h a ha
  rw [z, hp] at e
  cases e
theorem MAt.heap {K : PySem.W.Frag} {L : List Addr} {G H H' : Hp} {a : Addr} {m : M} (he : H' a = H a) (h : MAt K L G H a m) : MAt K L G H' a m := by
  cases m with
  | lst ds => obtain ⟨vs, e, r⟩ := h; exact ⟨vs, he.trans e, r⟩
  | ins C ns ds => obtain ⟨dx, vs, e, z, r⟩ := h; exact ⟨dx, vs, he.trans e, z, r⟩
  | gone => trivial
  | box => obtain ⟨i, j, k, e⟩ := h; exact ⟨i, j, k, he.trans e⟩
section
variable {K : PySem.W.Frag} {L : List Addr} {G H : Hp} {μ : List M} {p : Addr} {o : HO}
theorem Ok.mem (h : Ok K L G H μ) {n : Nat} {a : Addr} (e : L[n]? = some a) : a ∈ L := List.mem_of_getElem? e
/-- a new thing in the heap that is not told -/
theorem Ok.newH (h : Ok K L G H μ) (hp : H p = none) : Ok K L G (upd H p o) μ ∧ Step L G H L G (upd H p o) := by
  have hL := mem_ne h.liv hp
  have sh : Same H (upd H p o) := fun b u e => by rw [upd_ne (ne_of_none e hp)]; exact e
  refine ⟨⟨h.sub.trans sh, h.len, h.nd, h.off, fun a ha => ?_, fun n a m e1 e2 => ?_⟩, .refl _, .refl _, fun b u e _ => sh b u e, fun a ha => .inl ha, fun b u e => ⟨u, sh b u e⟩, fun b u e => .inl e⟩
  · obtain ⟨u, e⟩ := h.liv a ha
    exact ⟨u, sh _ _ e⟩
  · exact (h.at_ n a m e1 e2).heap (upd_ne (hL a (List.mem_of_getElem? e1)))
/-- what stands in the heap, apart from the store, and did not stand before, is told -/
theorem Ok.tell (h : Ok K L G H μ) (hp : H p = some o) (hn : p ∉ L) : Ok K L (upd G p o) H μ ∧ Same G (upd G p o) := by
  have sg : Same G (upd G p o) := fun b u e => by
    by_cases hb : b = p
    · subst hb
      rw [h.sub _ _ e] at hp
      rw [upd_same]
      exact hp.symm
    · rw [upd_ne hb]
      exact e
  refine ⟨⟨fun b u e => ?_, h.len, h.nd, fun a ha => ?_, h.liv, fun n a m e1 e2 => (h.at_ n a m e1 e2).mono (.refl _) sg⟩, sg⟩
  · by_cases hb : b = p
    · subst hb
      rw [upd_same] at e
      rw [hp]
      exact e
    · rw [upd_ne hb] at e
      exact h.sub _ _ e
  · rw [upd_ne (fun (z : a = p) => hn (by rw [← z]; exact ha))]
    exact h.off a ha
theorem Step.tell {L0 : List Addr} {G0 H0 : Hp} (s : Step L0 G0 H0 L G H) (h0 : H0 p = none) (sg : Same G (upd G p o)) : Step L0 G0 H0 L (upd G p o) H :=
  ⟨s.pre, s.gs.trans sg, s.hs, s.fr, s.nn, fun b u e => by
    by_cases hb : b = p
    · rw [hb]
      exact .inr h0
    · rw [upd_ne hb] at e
      exact s.gf b u e⟩
/-- a new immutable object comes -/
theorem Ok.new (h : Ok K L G H μ) (hp : H p = none) : Ok K L (upd G p o) (upd H p o) μ ∧ Step L G H L (upd G p o) (upd H p o) := by
  obtain ⟨h1, s1⟩ := h.newH (o := o) hp
  obtain ⟨h2, sg⟩ := h1.tell (p := p) (o := o) upd_same fun z => mem_ne h.liv hp p z rfl
  exact ⟨h2, s1.tell hp sg⟩
/-- a thing in the heap that nobody tells of, apart from the store, is changed -/
theorem Ok.poke (h : Ok K L G H μ) (hn : p ∉ L) (hg : G p = none) : Ok K L G (upd H p o) μ := by
  refine ⟨fun b u e => ?_, h.len, h.nd, h.off, fun a ha => ?_, fun n a m e1 e2 => ?_⟩
  · rw [upd_ne (ne_of_none e hg)]
    exact h.sub _ _ e
  · rw [upd_ne (fun (z : a = p) => hn (by rw [← z]; exact ha))]
    exact h.liv a ha
  · exact (h.at_ n a m e1 e2).heap (upd_ne fun (z : a = p) => hn (by rw [← z]; exact List.mem_of_getElem? e1))
theorem Step.poke {L0 : List Addr} {G0 H0 : Hp} (s : Step L0 G0 H0 L G H) (h0 : H0 p = none) : Step L0 G0 H0 L G (upd H p o) :=
  ⟨s.pre, s.gs, fun b u e n => by rw [upd_ne (ne_of_none e h0)]; exact s.hs b u e n, s.fr, fun b u e => by rw [upd_ne (ne_of_none e h0)]; exact s.nn b u e, s.gf⟩
theorem get_last {α : Type} {l : List α} {x y : α} {n : Nat} (h : (l ++ [x])[n]? = some y) : l[n]? = some y ∨ (n = l.length ∧ x = y) := by
  by_cases hn : n < l.length
  · rw [List.getElem?_append_left hn] at h
    exact .inl h
  · rw [List.getElem?_append_right (by omega)] at h
    by_cases e : n - l.length = 0
    · rw [e] at h
      exact .inr ⟨by omega, by simpa using h⟩
    · rw [List.getElem?_eq_none (by simp; omega)] at h
      cases h
/-- a thing that stands in the heap, told by nobody, comes to the store -/
theorem Ok.push (h : Ok K L G H μ) {m : M} (hp : H p = some o) (hn : p ∉ L) (hg : G p = none) (hm : MAt K (L ++ [p]) G H p m) (H0 : Hp) (h0 : H0 p = none) : Ok K (L ++ [p]) G H (μ ++ [m]) := by
  refine ⟨h.sub, by simp [h.len], ?_, fun a ha => ?_, fun a ha => ?_, fun n a m' e1 e2 => ?_⟩
  · rw [List.nodup_append]
    refine ⟨h.nd, by simp, fun a ha b hb z => ?_⟩
    simp only [List.mem_singleton] at hb
    subst hb z
    exact hn ha
  · rcases List.mem_append.mp ha with z | z
    · exact h.off a z
    · simp only [List.mem_singleton] at z
      rw [z]
      exact hg
  · rcases List.mem_append.mp ha with z | z
    · exact h.liv a z
    · simp only [List.mem_singleton] at z
      rw [z]
      exact ⟨_, hp⟩
  · rcases get_last e1 with q | ⟨q1, q2⟩
    · rcases get_last e2 with r | ⟨r1, r2⟩
      · exact (h.at_ n a m' q r).mono .app (.refl _)
      · have : n < L.length := (List.getElem?_eq_some_iff.mp q).1
        rw [h.len] at this
        omega
    · rcases get_last e2 with r | ⟨r1, r2⟩
      · have : n < μ.length := (List.getElem?_eq_some_iff.mp r).1
        rw [← h.len] at this
        omega
      · subst q2 r2
        exact hm
/-- a new thing of the store -/
theorem Ok.alloc (h : Ok K L G H μ) {m : M} (hp : H p = none) (hm : MAt K (L ++ [p]) G (upd H p o) p m) : Ok K (L ++ [p]) G (upd H p o) (μ ++ [m]) ∧ Step L G H (L ++ [p]) G (upd H p o) := by
  obtain ⟨h1, s1⟩ := h.newH (o := o) hp
  refine ⟨h1.push (o := o) upd_same (fun z => mem_ne h.liv hp p z rfl) (Same.free h.sub hp) hm H hp, .app, .refl _, s1.hs, fun a ha => ?_, s1.nn, s1.gf⟩
  rcases List.mem_append.mp ha with z | z
  · exact .inl z
  · simp only [List.mem_singleton] at z
    rw [z]
    exact .inr hp
/-- a thing of the store changes -/
theorem Ok.write (h : Ok K L G H μ) {n : Nat} {a : Addr} {m : M} (e : L[n]? = some a) (hm : MAt K L G (upd H a o) a m) : Ok K L G (upd H a o) (μ.set n m) ∧ Step L G H L G (upd H a o) := by
  have ha := List.mem_of_getElem? e
  have nG : ∀ b u, G b = some u → b ≠ a := fun b u q z => by rw [z, h.off a ha] at q; cases q
  refine ⟨⟨fun b u q => ?_, by simp [h.len], h.nd, h.off, fun b hb => ?_, fun k b m' e1 e2 => ?_⟩, .refl _, .refl _, fun b u q hb => ?_, fun b hb => .inl hb, fun b u q => ?_, fun b u q => .inl q⟩
  · rw [upd_ne (nG b u q)]
    exact h.sub _ _ q
  · by_cases z : b = a
    · rw [z, upd_same]
      exact ⟨_, rfl⟩
    · rw [upd_ne z]
      exact h.liv b hb
  · by_cases hk : n = k
    · subst hk
      rw [e] at e1
      cases e1
      have hn : n < μ.length := by rw [← h.len]; exact (List.getElem?_eq_some_iff.mp e).1
      rw [List.getElem?_set_self hn] at e2
      cases e2
      exact hm
    · rw [List.getElem?_set_ne hk] at e2
      refine (h.at_ k b m' e1 e2).heap (upd_ne fun z => hk ?_)
      subst z
      obtain ⟨h1, q1⟩ := List.getElem?_eq_some_iff.mp e
      obtain ⟨h2, q2⟩ := List.getElem?_eq_some_iff.mp e1
      exact (List.getElem_inj h.nd).mp (q1.trans q2.symm)
  · rw [upd_ne (fun (z : b = a) => hb (by rw [z]; exact ha))]
    exact q
  · by_cases z : b = a
    · rw [z, upd_same]
      exact ⟨_, rfl⟩
    · rw [upd_ne z]
      exact ⟨u, q⟩
theorem mAt_cut {a : Addr} {m : M} {n : Nat} (h : MAt K L G H a m) (b : m.lo n = true) : MAt K (L.take n) G H a m := by
  cases m with
  | lst ds => obtain ⟨vs, e, r⟩ := h; exact ⟨vs, e, r.cut b⟩
  | ins C ns ds => obtain ⟨dx, vs, e, z, r⟩ := h; exact ⟨dx, vs, e, z, r.cut b⟩
  | gone => trivial
  | box => exact h
/-- the last things of the store are left behind -/
theorem Ok.cut {ν : List M} (h : Ok K L G H (μ ++ ν)) (b : μ.all (M.lo μ.length) = true) : Ok K (L.take μ.length) G H μ := by
  have hl : μ.length ≤ L.length := by rw [h.len, List.length_append]; omega
  refine ⟨h.sub, by rw [List.length_take]; omega, h.nd.sublist (List.take_sublist _ _), fun a ha => h.off a (List.mem_of_mem_take ha), fun a ha => h.liv a (List.mem_of_mem_take ha), fun n a m e1 e2 => ?_⟩
  have hn : n < μ.length := (List.getElem?_eq_some_iff.mp e2).1
  rw [List.getElem?_take_of_lt hn] at e1
  refine mAt_cut (h.at_ n a m e1 ?_) (List.all_eq_true.mp b m (List.mem_of_getElem? e2))
  rw [List.getElem?_append_left hn]
  exact e2
theorem Step.cut {L0 : List Addr} {G0 H0 : Hp} {n : Nat} (s : Step L0 G0 H0 L G H) (hn : L0.length ≤ n) : Step L0 G0 H0 (L.take n) G H :=
  ⟨fun k a e => by
    rw [List.getElem?_take_of_lt (Nat.lt_of_lt_of_le (List.getElem?_eq_some_iff.mp e).1 hn)]
    exact s.pre k a e, s.gs, s.hs, fun a ha => s.fr a (List.mem_of_mem_take ha), s.nn, s.gf⟩
end
end PM

set_option Elab.async false
set_option linter.all false
set_option maxRecDepth 100000
namespace PM
open PySem L2
abbrev Env' := List (Option D)

/-! ### readings -/
/-- the state as it is told -/
structure Now (K : PySem.W.Frag) (L : List Addr) (G H : Hp) (μ : List M) (ρ : Env') (σ : St) : Prop where
  ok : Ok K L G H μ
  env : RepS K L G ρ σ
/-- a value comes -/
def Comes (K : PySem.W.Frag) (L : List Addr) (G H : Hp) (d : D) (μ' : List M) (Q : VK) : Prop := ∀ v L' G' H', Step L G H L' G' H' → Ok K L' G' H' μ' → Rep K L' G' d v → Q v H'
def ComesT (K : PySem.W.Frag) (L : List Addr) (G H : Hp) (b : Bool) (μ' : List M) (Q : Bool → Hp → Prop) : Prop := ∀ L' G' H', Step L G H L' G' H' → Ok K L' G' H' μ' → Q b H'
def ComesA (K : PySem.W.Frag) (L : List Addr) (G H : Hp) (ds : List D) (μ' : List M) (Q : List V → Hp → Prop) : Prop := ∀ vs L' G' H', Step L G H L' G' H' → Ok K L' G' H' μ' → Reps K L' G' ds vs → Q vs H'
/-- an exception comes: its class, its fields -/
def XdAt (K : PySem.W.Frag) (L : List Addr) (G H : Hp) (dx : Option Addr) (ns : List Str) (ds : List D) : Prop := ns.length = ds.length ∧ (ns = [] ∨ ∃ a vs, dx = some a ∧ G a = some (.xd (ns.zip vs)) ∧ Reps K L G ds vs)
def ComesX (K : PySem.W.Frag) (L : List Addr) (G H : Hp) (C : Addr) (ns : List Str) (ds : List D) (μ' : List M) (E : XK) : Prop := ∀ dx L' G' H', Step L G H L' G' H' → Ok K L' G' H' μ' → XdAt K L' G' H' dx ns ds → E (.ref C) dx H'
def tV (K : PySem.W.Frag) (ρ : Env') (μ : List M) (d : D) (μ' : List M) : TE := fun σ H Q => ∃ L G, Now K L G H μ ρ σ ∧ Comes K L G H d μ' Q
def tVT (K : PySem.W.Frag) (ρ : Env') (μ : List M) (b : Bool) (μ' : List M) : TT := fun σ H Q => ∃ L G, Now K L G H μ ρ σ ∧ ComesT K L G H b μ' Q
def tVA (K : PySem.W.Frag) (ρ : Env') (μ : List M) (ds : List D) (μ' : List M) : TA := fun σ H Q => ∃ L G, Now K L G H μ ρ σ ∧ ComesA K L G H ds μ' Q
/-- an expression that raises; W: what is wished of exceptions -/
def tX (W : WX) (K : PySem.W.Frag) (ρ : Env') (μ : List M) (C : Addr) (ns : List Str) (ds : List D) (μ' : List M) : St → Hp → Prop := fun σ H => ∃ L G, Now K L G H μ ρ σ ∧ ComesX K L G H C ns ds μ' fun c d H' => W c d σ H'
/-- what a call or an expression comes to -/
inductive FO where
  | ret (d : D) (μ : List M) | exc (C : Addr) (ns : List Str) (ds : List D) (μ : List M)
def CO (W : WX) (K : PySem.W.Frag) (L : List Addr) (G H : Hp) (σ : St) (o : FO) (Q : VK) : Prop :=
  match o with
  | .ret d μ' => Comes K L G H d μ' Q
  | .exc C ns ds μ' => ComesX K L G H C ns ds μ' fun c d H' => W c d σ H'
def tO (W : WX) (K : PySem.W.Frag) (ρ : Env') (μ : List M) (o : FO) : TE := fun σ H Q => ∃ L G, Now K L G H μ ρ σ ∧ CO W K L G H σ o Q
inductive Out where
  | next (ρ : Env') (μ : List M) | ret (d : D) (μ : List M) | brk (ρ : Env') (μ : List M) | cont (ρ : Env') (μ : List M)
  | exc (C : Addr) (ns : List Str) (ds : List D) (ρ : Env') (μ : List M)
def Ends' (K : PySem.W.Frag) (L : List Addr) (G H : Hp) (ρ : Env') (μ : List M) (Q : St → Hp → Prop) : Prop := ∀ σ' L' G' H', Step L G H L' G' H' → Now K L' G' H' μ ρ σ' → Q σ' H'
def Post (W : WX) (K : PySem.W.Frag) (L : List Addr) (G H : Hp) (D : Ends) : Out → Prop
  | .next ρ μ => Ends' K L G H ρ μ D.nx
  | .brk ρ μ => Ends' K L G H ρ μ D.bk
  | .cont ρ μ => Ends' K L G H ρ μ D.ct
  | .ret d μ => Comes K L G H d μ D.rt
  | .exc C ns ds ρ μ => ∀ σ' dx L' G' H', Step L G H L' G' H' → Now K L' G' H' μ ρ σ' → XdAt K L' G' H' dx ns ds → W (.ref C) dx σ' H'
def tS (W : WX) (K : PySem.W.Frag) (ρ : Env') (μ : List M) (o : Out) : TS := fun D σ H => ∃ L G, Now K L G H μ ρ σ ∧ Post W K L G H D o

section
variable {K : PySem.W.Frag} {L L1 L2 : List Addr} {G H G1 H1 G2 H2 : Hp} {μ μ1 μ' : List M} {ρ ρ' : Env'} {σ : St} {d : D} {b : Bool} {ds : List D}
theorem Now.step (n : Now K L G H μ ρ σ) (s : Step L G H L1 G1 H1) (o : Ok K L1 G1 H1 μ1) : Now K L1 G1 H1 μ1 ρ σ := ⟨o, n.env.step s⟩
theorem Comes.step {Q : VK} (c : Comes K L G H d μ' Q) (s : Step L G H L1 G1 H1) : Comes K L1 G1 H1 d μ' Q := fun v L' G' H' s' => c v L' G' H' (s.trans s')
theorem ComesT.step {Q : Bool → Hp → Prop} (c : ComesT K L G H b μ' Q) (s : Step L G H L1 G1 H1) : ComesT K L1 G1 H1 b μ' Q := fun L' G' H' s' => c L' G' H' (s.trans s')
theorem ComesA.step {Q : List V → Hp → Prop} (c : ComesA K L G H ds μ' Q) (s : Step L G H L1 G1 H1) : ComesA K L1 G1 H1 ds μ' Q := fun v L' G' H' s' => c v L' G' H' (s.trans s')
theorem ComesX.step {C : Addr} {ns : List Str} {E : XK} (c : ComesX K L G H C ns ds μ' E) (s : Step L G H L1 G1 H1) : ComesX K L1 G1 H1 C ns ds μ' E := fun v L' G' H' s' => c v L' G' H' (s.trans s')
theorem Ends'.step {Q : St → Hp → Prop} (c : Ends' K L G H ρ μ Q) (s : Step L G H L1 G1 H1) : Ends' K L1 G1 H1 ρ μ Q := fun v L' G' H' s' => c v L' G' H' (s.trans s')
theorem Post.step {W : WX} {D : Ends} {o : Out} (c : Post W K L G H D o) (s : Step L G H L1 G1 H1) : Post W K L1 G1 H1 D o := by
  cases o with
  | next ρ μ => exact Ends'.step c s
  | brk ρ μ => exact Ends'.step c s
  | cont ρ μ => exact Ends'.step c s
  | ret d μ => exact Comes.step c s
  | exc C ns ds ρ μ => exact fun σ' dx L' G' H' s' => c σ' dx L' G' H' (s.trans s')
end
section
variable {X : Cx} {e a b : Expr} {es : List Expr} {pos : Pos}
theorem pe_of {t t' : TE} (h : PE X e t) (w : ∀ σ H Q, t' σ H Q → t σ H Q) : PE X e t' := ⟨fun pins s σ H Q I q => h.run pins s σ H Q I (w _ _ _ q)⟩
theorem pt_of {t t' : TT} (h : PT X e t) (w : ∀ σ H Q, t' σ H Q → t σ H Q) : PT X e t' := ⟨fun pins s σ H Q I q => h.run pins s σ H Q I (w _ _ _ q)⟩
theorem pw_of {t t' : TT} (h : PW X e t) (w : ∀ σ H Q, t' σ H Q → t σ H Q) : PW X e t' := ⟨fun wh pins s σ H Q I q => h.run wh pins s σ H Q I (w _ _ _ q)⟩
theorem pa_of {t t' : TA} (h : PA X es t) (w : ∀ σ H Q, t' σ H Q → t σ H Q) : PA X es t' := ⟨fun pos pins s σ H Q I q => h.run pos pins s σ H Q I (w _ _ _ q)⟩
theorem ps_of {st : Stmt} {t t' : TS} (h : PS X st t) (w : ∀ D σ H, t' D σ H → t D σ H) : PS X st t' := ⟨fun pins s σ H D I q => h.run pins s σ H D I (w _ _ _ q)⟩
theorem pss_of {st : List Stmt} {t t' : TS} (h : PSs X st t) (w : ∀ D σ H, t' D σ H → t D σ H) : PSs X st t' := ⟨fun pins s σ H D I q => h.run pins s σ H D I (w _ _ _ q)⟩
end

/-! ### expressions -/
section
variable {X : Cx} {W : WX} {e a b c : Expr} {es : List Expr} {pos : Pos} {ρ : Env'} {μ μ1 μ2 μ3 : List M} {d da db dc : D} {ds : List D} {x : Str} {i : Nat}
/-- a name by its slot -/
theorem ev_var (i : Nat) (hd : ρ[i]? = some (some d)) (hN : X.N[i]? = some x := by rfl) (hv : Vis X.env.scope x := by first | exact Or.inl rfl | exact Or.inr (Or.inl rfl) | exact Or.inr (Or.inr rfl)) (h1 : (x == ("__debug__" : Str)) = false := by decide)
    (h2 : (x == ("__classdict__" : Str)) = false := by decide) : PE X (.Name x pos) (tV X.K ρ μ d μ) :=
  pe_of (pe_var hN hv h1 h2) fun σ H Q ⟨L, G, n, c⟩ => by
    obtain ⟨v, e, r⟩ := n.env.at_ i d hd
    exact ⟨v, e, c v L G H (.refl _ _ _) n.ok r⟩
/-- a value that leaves the heap as it is -/
theorem tV_const {v : V} {σ : St} {H : Hp} {Q : VK} (h : tV X.K ρ μ d μ σ H Q) (r : ∀ L G, Rep X.K L G d v) : Q v H := by
  obtain ⟨L, G, n, c⟩ := h
  exact c v L G H (.refl _ _ _) n.ok (r L G)
theorem ev_int {i j} : PE X (.Constant (.int i) j pos) (tV X.K ρ μ (.int i) μ) := pe_of pe_int fun _ _ _ h => tV_const h fun _ _ => rep_int.mpr rfl
theorem ev_bl {i j} : PE X (.Constant (.bool i) j pos) (tV X.K ρ μ (.bl i) μ) := pe_of pe_bl fun _ _ _ h => tV_const h fun _ _ => rep_bl.mpr rfl
theorem ev_non {j} : PE X (.Constant .none j pos) (tV X.K ρ μ .non μ) := pe_of pe_non fun _ _ _ h => tV_const h fun _ _ => rep_non.mpr rfl
theorem ev_str {i j} : PE X (.Constant (.str i) j pos) (tV X.K ρ μ (.str i) μ) := pe_of pe_str fun _ _ _ h => tV_const h fun _ _ => rep_str.mpr rfl
/-- a module's name: a constant, a class -/
theorem ev_glob {u : Value} {v : V} (hg : Gl X x) (hm : X.mg x = some u) (r : RelV v u) (rd : ∀ L G, Rep X.K L G d v) (hd : (x == ("__debug__" : Str)) = false := by decide) : PE X (.Name x pos) (tV X.K ρ μ d μ) := pe_of (pe_glob hg hm r hd) fun _ _ _ h => tV_const h rd
/-- a built-in class as a value -/
theorem ev_bty {T : String} (hg : Gl X x) (hm : X.mg x = none) (hv : bootBuiltins x = some (.type T)) (hn : x ≠ "__name__" := by decide) (hd : (x == ("__debug__" : Str)) = false := by decide) : PE X (.Name x pos) (tV X.K ρ μ (.ty T) μ) :=
  pe_of (pe_bltn (v := .ty T) hg hm hv rfl hn hd) fun _ _ _ h => tV_const h fun _ _ => rep_ty.mpr rfl

/-! #### arguments -/
theorem ev_nil : PA X [] (tVA X.K ρ μ [] μ) := pa_of pa_nil fun σ H Q ⟨L, G, n, c⟩ => c [] L G H (.refl _ _ _) n.ok Reps.nil
theorem ev_cons (h1 : PE X e (tV X.K ρ μ d μ1)) (h2 : PA X es (tVA X.K ρ μ1 ds μ2)) (hs : starEach (e :: es) X.env = (false, eval e X.env) :: starEach es X.env := by rfl) : PA X (e :: es) (tVA X.K ρ μ (d :: ds) μ2) :=
  pa_of (pa_cons h1 h2 hs) fun σ H Q ⟨L, G, n, c⟩ => ⟨L, G, n, fun v L1 G1 H1 s1 o1 r1 => ⟨L1, G1, n.step s1 o1, fun vs L2 G2 H2 s2 o2 r2 => c (v :: vs) L2 G2 H2 (s1.trans s2) o2 (Reps.cons (r1.step s2) r2)⟩⟩

/-! #### operators, by values -/
/-- an operation on two data -/
def OpO (X : Cx) (W : WX) (f : Value → Value → Sem Value) (da db : D) (μ : List M) (o : FO) : Prop :=
  ∀ (pins : List (Addr × Obj)) (s : Shared) (σ : St) (H : Hp) (x y : V) (v u : Value) (Q : VK) (L : List Addr) (G : Hp), Inv X pins σ H s → RelV x v → RelV y u → Ok X.K L G H μ → Rep X.K L G da x → Rep X.K L G db y → CO W X.K L G H σ o Q →
    wpAny (model X.prog X.w) X.A (f v u) (EP X pins σ Q) X.xe s
def UnO (X : Cx) (W : WX) (f : Value → Sem Value) (da : D) (μ : List M) (o : FO) : Prop :=
  ∀ (pins : List (Addr × Obj)) (s : Shared) (σ : St) (H : Hp) (x : V) (v : Value) (Q : VK) (L : List Addr) (G : Hp), Inv X pins σ H s → RelV x v → Ok X.K L G H μ → Rep X.K L G da x → CO W X.K L G H σ o Q →
    wpAny (model X.prog X.w) X.A (f v) (EP X pins σ Q) X.xe s
def CallO (X : Cx) (W : WX) (f : List Value → Sem Value) (ds : List D) (μ : List M) (o : FO) : Prop :=
  ∀ (pins : List (Addr × Obj)) (s : Shared) (σ : St) (H : Hp) (xs : List V) (us : List Value) (Q : VK) (L : List Addr) (G : Hp), Inv X pins σ H s → Vals xs us → Ok X.K L G H μ → Reps X.K L G ds xs → CO W X.K L G H σ o Q →
    wpAny (model X.prog X.w) X.A (f us) (EP X pins σ Q) X.xe s
theorem opO_of {f : Value → Value → Sem Value} {r : R2} {o : FO} (h : OpR X f r) (w : ∀ σ x y H Q L G, Ok X.K L G H μ → Rep X.K L G da x → Rep X.K L G db y → CO W X.K L G H σ o Q → r x y H Q) : OpO X W f da db μ o :=
  fun pins s σ H x y v u Q L G I rx ry o r1 r2 c => h pins s σ H x y v u Q I rx ry (w _ _ _ _ _ _ _ o r1 r2 c)
theorem unO_of {f : Value → Sem Value} {r : V → Hp → VK → Prop} {o : FO} (h : UnR X f r) (w : ∀ σ x H Q L G, Ok X.K L G H μ → Rep X.K L G da x → CO W X.K L G H σ o Q → r x H Q) : UnO X W f da μ o :=
  fun pins s σ H x v Q L G I rx o r1 c => h pins s σ H x v Q I rx (w _ _ _ _ _ _ o r1 c)
theorem callO_of {f : Value} {r : List V → Hp → VK → Prop} {o : FO} (h : CallR X f r) (w : ∀ σ xs H Q L G, Ok X.K L G H μ → Reps X.K L G ds xs → CO W X.K L G H σ o Q → r xs H Q) : CallO X W (fun us => call f us) ds μ o :=
  fun pins s σ H x v Q L G I rx o r1 c => h pins s σ H x v Q I rx (w _ _ _ _ _ _ o r1 c)
/-- a value that leaves the heap as it is -/
theorem CO.now {σ : St} {H : Hp} {Q : VK} {L : List Addr} {G : Hp} {v : V} (c : CO W X.K L G H σ (.ret d μ) Q) (o : Ok X.K L G H μ) (r : Rep X.K L G d v) : Q v H := c v L G H (.refl _ _ _) o r
/-- a new object, immutable -/
theorem CO.fresh {σ : St} {H : Hp} {Q : VK} {L : List Addr} {G : Hp} {p : Addr} {u : HO} {v : V} (c : CO W X.K L G H σ (.ret d μ) Q) (o : Ok X.K L G H μ) (hp : H p = none) (r : Rep X.K L (upd G p u) d v) : Q v (upd H p u) :=
  let ⟨o', s'⟩ := o.new (o := u) hp
  c v L _ _ s' o' r
theorem CO.step {σ : St} {H : Hp} {Q : VK} {L : List Addr} {G : Hp} {o : FO} {L1 : List Addr} {G1 H1 : Hp} (c : CO W X.K L G H σ o Q) (s : Step L G H L1 G1 H1) : CO W X.K L1 G1 H1 σ o Q := by
  cases o with
  | ret d μ => exact Comes.step c s
  | exc C ns ds μ => exact ComesX.step (E := fun c d H' => W c d σ H') c s
section
variable {o : FO}
theorem binO (ha : PE X a (tV X.K ρ μ da μ1)) (hb : PE X b (tV X.K ρ μ1 db μ2)) {pins : List (Addr × Obj)} {s : Shared} {σ : St} {H : Hp} {Q : VK} {f : Value → Value → Sem Value} (I : Inv X pins σ H s) (ho : OpO X W f da db μ2 o) (h : tO W X.K ρ μ o σ H Q) :
    wpAny (model X.prog X.w) X.A (eval a X.env) (fun v s₁ => wpAny (model X.prog X.w) X.A (eval b X.env) (fun u s₂ => wpAny (model X.prog X.w) X.A (f v u) (EP X pins σ Q) X.xe s₂) X.xe s₁) X.xe s := by
  obtain ⟨L, G, n, c⟩ := h
  exact binT (R := fun x y H2 => ∃ L2 G2, Ok X.K L2 G2 H2 μ2 ∧ Rep X.K L2 G2 da x ∧ Rep X.K L2 G2 db y ∧ CO W X.K L2 G2 H2 σ o Q) ha hb I
    ⟨L, G, n, fun v L1 G1 H1 s1 o1 r1 => ⟨L1, G1, n.step s1 o1, fun u L2 G2 H2 s2 o2 r2 => ⟨L2, G2, o2, r1.step s2, r2, c.step (s1.trans s2)⟩⟩⟩
    fun v u s2 x y H2 I2 rx ry ⟨L2, G2, o2, r1, r2, c2⟩ => ho pins s2 σ H2 x y v u Q L2 G2 I2 rx ry o2 r1 r2 c2
theorem ev_op {op : Operator} (ha : PE X a (tV X.K ρ μ da μ1)) (hb : PE X b (tV X.K ρ μ1 db μ2)) (ho : OpO X W (binaryOp op) da db μ2 o) : PE X (.BinOp a op b pos) (tO W X.K ρ μ o) :=
  ⟨fun pins s σ H Q I h => wpAny_BinOp (binO ha hb I ho h)⟩
theorem ev_un {op : UnaryOp} (ha : PE X a (tV X.K ρ μ da μ1)) (ho : UnO X W (unaryOp op) da μ1 o) : PE X (.UnaryOp op a pos) (tO W X.K ρ μ o) :=
  ⟨fun pins s σ H Q I ⟨L, G, n, c⟩ => PyProof.Rows.UnaryOp_ (thn (ha.run pins s σ H (fun x H1 => ∃ L1 G1, Ok X.K L1 G1 H1 μ1 ∧ Rep X.K L1 G1 da x ∧ CO W X.K L1 G1 H1 σ o Q) I ⟨L, G, n, fun v L1 G1 H1 s1 o1 r1 => ⟨L1, G1, o1, r1, c.step s1⟩⟩) fun v s1 ⟨x, H1, I1, r1, L1, G1, o1, rr, c1⟩ =>
    ho pins s1 σ H1 x v Q L1 G1 I1 r1 o1 rr c1)⟩
end
/-! #### tests -/
/-- a test that raises -/
def tOT (W : WX) (K : PySem.W.Frag) (ρ : Env') (μ : List M) (C : Addr) (ns : List Str) (dx : List D) (μ' : List M) : TT := fun σ H _ => ∃ L G, Now K L G H μ ρ σ ∧ ComesX K L G H C ns dx μ' fun c d H' => W c d σ H'
section
variable {k k' : Bool}
theorem et_cmp {op : CmpOp} (ha : PE X a (tV X.K ρ μ da μ1)) (hb : PE X b (tV X.K ρ μ1 db μ2)) (ho : OpO X (fun _ _ _ _ => False) (compareOp op) da db μ2 (.ret (.bl k) μ3)) (hm : behindInMarks op b = false := by first | exact nomark _ | rfl) : PT X (.Compare a [op] [b] pos) (tVT X.K ρ μ k μ3) := by
  refine ⟨fun pins s σ H Q I h => ?_⟩
  obtain ⟨L, G, n, c⟩ := h
  refine wpAny_isTrue_Compare1 (thn (binO (Q := fun z H' => z = .bl k ∧ Q k H') ha hb I ho ⟨L, G, n, fun v L' G' H' s' o' r' => ⟨rep_bl.mp r', c L' G' H' s' o'⟩⟩) fun v s1 h1 => thn h1 fun u s2 h2 => thn h2 fun z s3 ⟨y, H3, I3, r3, e3, q3⟩ => ?_) hm
  subst e3
  cases r3
  exact wpAny_truthy_bool ⟨H3, I3, q3⟩
variable {rest : List Expr}
end
end
end PM

set_option Elab.async false
set_option linter.all false
set_option maxRecDepth 100000
namespace PM
open PySem L2

/-! ### any reading will do -/
def aT (X : Cx) (e : Expr) : TT := fun σ H Q => ∃ t, PT X e t ∧ t σ H Q
def aSs (X : Cx) (b : List Stmt) : TS := fun D σ H => ∃ t, PSs X b t ∧ t D σ H
def aG (X : Cx) (e : Expr) : TG := fun v σ H Q => ∃ t, PG X e t ∧ t v σ H Q
theorem aT_ok {X : Cx} {e : Expr} : PT X e (aT X e) := ⟨fun pins s σ H Q I ⟨t, p, q⟩ => p.run pins s σ H Q I q⟩
theorem aSs_ok {X : Cx} {b : List Stmt} : PSs X b (aSs X b) := ⟨fun pins s σ H D I ⟨t, p, q⟩ => p.run pins s σ H D I q⟩
theorem aG_ok {X : Cx} {e : Expr} : PG X e (aG X e) := ⟨fun pins s σ H v u Q I r ⟨t, p, q⟩ => p.run pins s σ H v u Q I r q⟩

/-! ### forgetting -/
def Sub : Env' → Env' → Prop
  | [], [] => True
  | none :: r, _ :: s => Sub r s
  | some d :: r, o :: s => o = some d ∧ Sub r s
  | _, _ => False
theorem Sub.refl : ∀ ρ : Env', Sub ρ ρ
  | [] => trivial
  | none :: r => Sub.refl r
  | some d :: r => ⟨rfl, Sub.refl r⟩
theorem Sub.len : ∀ {ρ ρ' : Env'}, Sub ρ ρ' → ρ.length = ρ'.length
  | [], [], _ => rfl
  | none :: r, _ :: s, h => by simp [Sub.len (ρ := r) (ρ' := s) h]
  | some d :: r, o :: s, h => by simp [Sub.len (ρ := r) (ρ' := s) h.2]
  | [], _ :: _, h => h.elim
  | none :: _, [], h => h.elim
  | some _ :: _, [], h => h.elim
theorem Sub.at_ : ∀ {ρ ρ' : Env'}, Sub ρ ρ' → ∀ (i : Nat) d, ρ[i]? = some (some d) → ρ'[i]? = some (some d)
  | [], [], _, i, d, e => by simp at e
  | none :: r, _ :: s, h, 0, d, e => by simp at e
  | none :: r, _ :: s, h, i + 1, d, e => by simpa using Sub.at_ (ρ := r) (ρ' := s) h i d (by simpa using e)
  | some c :: r, o :: s, h, 0, d, e => by
    simp only [List.getElem?_cons_zero, Option.some.injEq] at e
    subst e
    simp [h.1]
  | some c :: r, o :: s, h, i + 1, d, e => by simpa using Sub.at_ (ρ := r) (ρ' := s) h.2 i d (by simpa using e)
  | [], _ :: _, h, _, _, _ => h.elim
  | none :: _, [], h, _, _, _ => h.elim
  | some _ :: _, [], h, _, _, _ => h.elim
theorem Now.forget {K : PySem.W.Frag} {L : List Addr} {G H : Hp} {μ : List M} {ρ ρ' : Env'} {σ : St} (n : Now K L G H μ ρ σ) (s : Sub ρ' ρ) : Now K L G H μ ρ' σ := ⟨n.ok, n.env.forget s.len s.at_⟩

/-! ### what a body needs of its place -/
/-- texts of containers that are being made: none from level 60 on -/
def Gr (k : Nat) (A : Around) : Prop := ∃ g, A.guards = some g ∧ (60 ≤ k → g = [])
theorem Gr.mono {j k : Nat} {A : Around} (h : Gr k A) (hj : j ≤ k) : Gr j A := let ⟨g, e, z⟩ := h; ⟨g, e, fun q => z (Nat.le_trans q hj)⟩
theorem Gr.none {k : Nat} {A : Around} (h : Gr k A) (hk : 60 ≤ k) : A.guards = some [] := let ⟨_, e, z⟩ := h; e.trans (congrArg some (z hk))
theorem Gr.of {k : Nat} {A : Around} (h : A.guards = some []) : Gr k A := ⟨[], h, fun _ => rfl⟩
structure Gd (X : Cx) (W : WX) (k : Nat) : Prop where
  calm : X.calm = true
  nd : X.N.Nodup
  tk : Takes X W
  po : PassesOwn (model X.prog X.w) X.A X.env X.xe
  hr : Room k X.A
  gr : Gr k X.A

/-! ### targets -/
def gD (K : PySem.W.Frag) (μ : List M) (d : D) (ρ ρ' : Env') : TG := fun v σ H Q => ∃ L G, Now K L G H μ ρ σ ∧ Rep K L G d v ∧ Ends' K L G H ρ' μ Q
def gDs (K : PySem.W.Frag) (μ : List M) (ds : List D) (ρ ρ' : Env') : TGs := fun vs σ H Q => ∃ L G, Now K L G H μ ρ σ ∧ Reps K L G ds vs ∧ Ends' K L G H ρ' μ Q
inductive EvWh (X : Cx) (W : WX) (c : Expr) (body : List Stmt) : Nat → Env' → List M → Out → Prop
  | stop {ρ : Env'} {ρ' : Env'} {μ : List M} {μ1 : List M} : PT X c (tVT X.K ρ μ false μ1) → Sub ρ' ρ → EvWh X W c body 0 ρ μ (.next ρ' μ1)
  | next {n : Nat} {ρ : Env'} {μ : List M} {μ1 : List M} {ρ2 : Env'} {μ2 : List M} {q : Out} : PT X c (tVT X.K ρ μ true μ1) → PSs X body (tS W X.K ρ μ1 (.next ρ2 μ2)) → EvWh X W c body n ρ2 μ2 q → EvWh X W c body (n + 1) ρ μ q
  | cont {n : Nat} {ρ : Env'} {μ : List M} {μ1 : List M} {ρ2 : Env'} {μ2 : List M} {q : Out} : PT X c (tVT X.K ρ μ true μ1) → PSs X body (tS W X.K ρ μ1 (.cont ρ2 μ2)) → EvWh X W c body n ρ2 μ2 q → EvWh X W c body (n + 1) ρ μ q
  | brk {ρ : Env'} {μ : List M} {μ1 : List M} {ρ2 : Env'} {μ2 : List M} : PT X c (tVT X.K ρ μ true μ1) → PSs X body (tS W X.K ρ μ1 (.brk ρ2 μ2)) → EvWh X W c body 0 ρ μ (.next ρ2 μ2)
  | ret {ρ : Env'} {μ : List M} {μ1 : List M} {d : D} {μ2 : List M} : PT X c (tVT X.K ρ μ true μ1) → PSs X body (tS W X.K ρ μ1 (.ret d μ2)) → EvWh X W c body 0 ρ μ (.ret d μ2)
  | exc {ρ : Env'} {μ : List M} {μ1 : List M} {C : Addr} {ns : List Str} {ds : List D} {ρ2 : Env'} {μ2 : List M} : PT X c (tVT X.K ρ μ true μ1) → PSs X body (tS W X.K ρ μ1 (.exc C ns ds ρ2 μ2)) → EvWh X W c body 0 ρ μ (.exc C ns ds ρ2 μ2)
inductive EvFor (X : Cx) (W : WX) (tg : Expr) (body : List Stmt) : List D → Env' → List M → Out → Prop
  | nil {ρ : Env'} {ρ' : Env'} {μ : List M} : Sub ρ' ρ → EvFor X W tg body [] ρ μ (.next ρ' μ)
  | next {d : D} {ds : List D} {ρ : Env'} {ρ1 : Env'} {μ : List M} {ρ2 : Env'} {μ2 : List M} {q : Out} : PG X tg (gD X.K μ d ρ ρ1) → PSs X body (tS W X.K ρ1 μ (.next ρ2 μ2)) → EvFor X W tg body ds ρ2 μ2 q → EvFor X W tg body (d :: ds) ρ μ q
  | cont {d : D} {ds : List D} {ρ : Env'} {ρ1 : Env'} {μ : List M} {ρ2 : Env'} {μ2 : List M} {q : Out} : PG X tg (gD X.K μ d ρ ρ1) → PSs X body (tS W X.K ρ1 μ (.cont ρ2 μ2)) → EvFor X W tg body ds ρ2 μ2 q → EvFor X W tg body (d :: ds) ρ μ q
  | brk {d : D} {ds : List D} {ρ : Env'} {ρ1 : Env'} {μ : List M} {ρ2 : Env'} {μ2 : List M} : PG X tg (gD X.K μ d ρ ρ1) → PSs X body (tS W X.K ρ1 μ (.brk ρ2 μ2)) → EvFor X W tg body (d :: ds) ρ μ (.next ρ2 μ2)
  | ret {d : D} {ds : List D} {ρ : Env'} {ρ1 : Env'} {μ : List M} {e : D} {μ2 : List M} : PG X tg (gD X.K μ d ρ ρ1) → PSs X body (tS W X.K ρ1 μ (.ret e μ2)) → EvFor X W tg body (d :: ds) ρ μ (.ret e μ2)
  | exc {d : D} {ds : List D} {ρ : Env'} {ρ1 : Env'} {μ : List M} {C : Addr} {ns : List Str} {es : List D} {ρ2 : Env'} {μ2 : List M} : PG X tg (gD X.K μ d ρ ρ1) → PSs X body (tS W X.K ρ1 μ (.exc C ns es ρ2 μ2)) → EvFor X W tg body (d :: ds) ρ μ (.exc C ns es ρ2 μ2)
section
variable {X : Cx} {W : WX} {k : Nat} {pos : Pos} {e : Expr} {es : List Expr} {ρ ρ1 ρ2 : Env'} {μ μ1 μ2 : List M} {d : D} {ds : List D} {x : Str} {o : FO}
theorem pg_of {t t' : TG} (h : PG X e t) (w : ∀ v σ H Q, t' v σ H Q → t v σ H Q) : PG X e t' := ⟨fun pins s σ H v u Q I r q => h.run pins s σ H v u Q I r (w _ _ _ _ q)⟩
theorem pgs_of {t t' : TGs} (h : PGs X es t) (w : ∀ v σ H Q, t' v σ H Q → t v σ H Q) : PGs X es t' := ⟨fun pins s σ H v u Q I r q => h.run pins s σ H v u Q I r (w _ _ _ _ q)⟩
theorem eg_name (i : Nat) (nd : X.N.Nodup) (hi : X.N[i]? = some x := by rfl) (hx : Loc X.env.scope x := by first | exact Or.inl rfl | exact Or.inr rfl) (hf : X.fn x = true ∨ X.env.scope.names.lookup x = some .local := by first | exact .inl rfl | exact .inr rfl | assumption) :
    PG X (.Name x pos) (gD X.K μ d ρ (ρ.set i (some d))) :=
  pg_of (pg_name nd hi hx hf) fun v σ H Q ⟨L, G, n, r, c⟩ => c _ L G H (.refl _ _ _) ⟨n.ok, n.env.set r i⟩
/-! ### statements -/
def FO.drop (ρ : Env') : FO → Out
  | .ret _ μ => .next ρ μ
  | .exc C ns ds μ => .exc C ns ds ρ μ
def FO.set (ρ : Env') (i : Nat) : FO → Out
  | .ret d μ => .next (ρ.set i (some d)) μ
  | .exc C ns ds μ => .exc C ns ds ρ μ
def FO.out (ρ : Env') : FO → Out
  | .ret d μ => .ret d μ
  | .exc C ns ds μ => .exc C ns ds ρ μ
theorem post_exc {L : List Addr} {G H : Hp} {σ : St} {D : Ends} {C : Addr} {ns : List Str} (n : Now X.K L G H μ ρ σ) (c : Post W X.K L G H D (.exc C ns ds ρ μ1)) : ComesX X.K L G H C ns ds μ1 fun c d H' => W c d σ H' :=
  fun dx L' G' H' s o x => c σ dx L' G' H' s (n.step s o) x
theorem es_set (i : Nat) (nd : X.N.Nodup) (h : PE X e (tO W X.K ρ μ o)) {pos' : Pos} (hi : X.N[i]? = some x := by rfl) (hx : Loc X.env.scope x := by first | exact Or.inl rfl | exact Or.inr rfl) (hs : swapsWith e (some (.Name x pos')) pos.line X.env = pure false := by rfl)
    (hf : X.fn x = true ∨ X.env.scope.names.lookup x = some .local := by first | exact .inl rfl | exact .inr rfl | assumption) : PS X (.Assign [.Name x pos'] e pos) (tS W X.K ρ μ (o.set ρ i)) :=
  ps_of (ps_set nd hi hx h hs hf) fun D σ H ⟨L, G, n, c⟩ => ⟨L, G, n, by
    cases o with
    | ret d μ' => exact fun v L' G' H' s' o' r' => c _ L' G' H' s' ⟨o', (n.env.step s').set r' i⟩
    | exc C ns ds μ' => exact post_exc n c⟩
/-- a, b = x, y -/
theorem es_par (i j : Nat) {y : Str} {a b : Expr} {px py pt : Pos} {kt k2 pt2} {da db : D} (g : Gd X W k) (ha : PA X [a, b] (tVA X.K ρ μ [da, db] μ1)) (hi : X.N[i]? = some x := by rfl) (hj : X.N[j]? = some y := by rfl) (hij : i ≠ j := by decide)
    (hx : X.env.scope.names.lookup x = some .local := by rfl) (hy : X.env.scope.names.lookup y = some .local := by rfl)
    (hw : swappedStores [.Tuple [.Name x px, .Name y py] kt pt] (.Tuple [a, b] k2 pt2) X.env = pure (some [x, y]) := by rfl)
    (hs : swapsWithSole [.Tuple [.Name x px, .Name y py] kt pt] (.Tuple [a, b] k2 pt2) pos.line X.env = pure false := by rfl) :
    PS X (.Assign [.Tuple [.Name x px, .Name y py] kt pt] (.Tuple [a, b] k2 pt2) pos) (tS W X.K ρ μ (.next ((ρ.set i (some da)).set j (some db)) μ1)) :=
  ps_of (ps_par g.calm g.nd hi hj hij hx hy ha hw hs) fun D σ H ⟨L, G, n, c⟩ => ⟨L, G, n, fun vs L' G' H' s' o' r' => by
    obtain ⟨v, r, e, r1, r2⟩ := r'.inv_cons
    obtain ⟨w, r, e', r3, r4⟩ := r2.inv_cons
    have e'' := r4.inv_nil
    subst e e' e''
    exact ⟨v, w, rfl, c _ L' G' H' s' ⟨o', ((n.env.step s').set r1 i).set r3 j⟩⟩⟩
theorem es_ret (h : PE X e (tO W X.K ρ μ o)) : PS X (.Return (some e) pos) (tS W X.K ρ μ (o.out ρ)) :=
  ps_of (ps_ret h) fun D σ H ⟨L, G, n, c⟩ => ⟨L, G, n, by
    cases o with
    | ret d μ' => exact c
    | exc C ns ds μ' => exact post_exc n c⟩
theorem es_pass : PS X (.Pass pos) (tS W X.K ρ μ (.next ρ μ)) := ps_of ps_pass fun D σ H ⟨L, G, n, c⟩ => c _ L G H (.refl _ _ _) n
variable {st : Stmt} {rest A B : List Stmt} {q : Out} {c : Expr} {b : Bool}
theorem es_if (h : PT X c (tVT X.K ρ μ b μ1)) (h1 : b = true → PSs X A (tS W X.K ρ μ1 q)) (h2 : b = false → PSs X B (tS W X.K ρ μ1 q)) : PS X (.If c A B pos) (tS W X.K ρ μ q) := by
  cases b with
  | true => exact ps_of (ps_if h (h1 rfl) pss_never) fun D σ H ⟨L, G, n, c⟩ => ⟨L, G, n, fun L1 G1 H1 s1 o1 => iteT ⟨L1, G1, n.step s1 o1, Post.step c s1⟩⟩
  | false => exact ps_of (ps_if h pss_never (h2 rfl)) fun D σ H ⟨L, G, n, c⟩ => ⟨L, G, n, fun L1 G1 H1 s1 o1 => iteF ⟨L1, G1, n.step s1 o1, Post.step c s1⟩⟩
theorem ess_nil : PSs X [] (tS W X.K ρ μ (.next ρ μ)) := pss_of pss_nil fun D σ H ⟨L, G, n, c⟩ => c _ L G H (.refl _ _ _) n
theorem ess_one (h : PS X st (tS W X.K ρ μ q)) : PSs X [st] (tS W X.K ρ μ q) := pss_one h
theorem ess_cons (h1 : PS X st (tS W X.K ρ μ (.next ρ1 μ1))) (h2 : PSs X rest (tS W X.K ρ1 μ1 q)) : PSs X (st :: rest) (tS W X.K ρ μ q) :=
  pss_of (pss_cons h1 h2) fun D σ H ⟨L, G, n, c⟩ => ⟨L, G, n, fun σ' L' G' H' s' n' => ⟨L', G', n', Post.step c s'⟩⟩
/-- a statement that does not go on -/
def Out.stops : Out → Prop
  | .next _ _ => False
  | _ => True
theorem ess_stop (h1 : PS X st (tS W X.K ρ μ q)) (hq : q.stops) : PSs X (st :: rest) (tS W X.K ρ μ q) :=
  pss_of (pss_cons h1 pss_never) fun D σ H ⟨L, G, n, c⟩ => ⟨L, G, n, by
    cases q with
    | next ρ μ => exact hq.elim
    | ret d μ => exact c
    | brk ρ μ => exact c
    | cont ρ μ => exact c
    | exc C ns ds ρ μ => exact c⟩
theorem es_eq {q' : Out} (h : PS X st (tS W X.K ρ μ q)) (e : q = q') : PS X st (tS W X.K ρ μ q') := e ▸ h
/-! ### while -/
theorem es_while {body : List Stmt} {n : Nat} (g : Gd X W k) (h : EvWh X W c body n ρ μ q) : PS X (.While c body [] pos) (tS W X.K ρ μ q) := by
  refine ps_of (ps_while g.po aT_ok aSs_ok) fun D σ H ⟨L, G, nw, cc⟩ => ?_
  refine ⟨fun m σ' H' => ∃ ρ' μ' L' G', EvWh X W c body m ρ' μ' q ∧ Now X.K L' G' H' μ' ρ' σ' ∧ Post W X.K L' G' H' D q, ⟨n, ρ, μ, L, G, h, nw, cc⟩, ?_⟩
  rintro m σ1 H1 ⟨ρ1, μ1, L1, G1, h1, n1, c1⟩
  cases h1 with
  | stop ht hsub => exact ⟨_, ht, L1, G1, n1, fun L2 G2 H2 s2 o2 => iteF (c1 _ L2 G2 H2 s2 ((n1.step s2 o2).forget hsub))⟩
  | next ht hb hn =>
    rename_i m μ1' ρ2 μ2
    refine ⟨_, ht, L1, G1, n1, fun L2 G2 H2 s2 o2 => iteT ⟨fun σ3 H3 => ∃ L3 G3, Now X.K L3 G3 H3 μ2 ρ2 σ3 ∧ Post W X.K L3 G3 H3 D q, fun σ3 H3 ⟨L3, G3, n3, c3⟩ => ⟨m, Nat.lt_succ_self m, ρ2, μ2, L3, G3, hn, n3, c3⟩, _, hb, L2, G2, n1.step s2 o2, ?_⟩⟩
    exact fun σ3 L3 G3 H3 s3 n3 => ⟨L3, G3, n3, Post.step c1 (s2.trans s3)⟩
  | cont ht hb hn =>
    rename_i m μ1' ρ2 μ2
    refine ⟨_, ht, L1, G1, n1, fun L2 G2 H2 s2 o2 => iteT ⟨fun σ3 H3 => ∃ L3 G3, Now X.K L3 G3 H3 μ2 ρ2 σ3 ∧ Post W X.K L3 G3 H3 D q, fun σ3 H3 ⟨L3, G3, n3, c3⟩ => ⟨m, Nat.lt_succ_self m, ρ2, μ2, L3, G3, hn, n3, c3⟩, _, hb, L2, G2, n1.step s2 o2, ?_⟩⟩
    exact fun σ3 L3 G3 H3 s3 n3 => ⟨L3, G3, n3, Post.step c1 (s2.trans s3)⟩
  | brk ht hb => exact ⟨_, ht, L1, G1, n1, fun L2 G2 H2 s2 o2 => iteT ⟨fun _ _ => False, fun _ _ z => z.elim, _, hb, L2, G2, n1.step s2 o2, Ends'.step c1 s2⟩⟩
  | ret ht hb => exact ⟨_, ht, L1, G1, n1, fun L2 G2 H2 s2 o2 => iteT ⟨fun _ _ => False, fun _ _ z => z.elim, _, hb, L2, G2, n1.step s2 o2, Comes.step c1 s2⟩⟩
  | exc ht hb => exact ⟨_, ht, L1, G1, n1, fun L2 G2 H2 s2 o2 => iteT ⟨fun _ _ => False, fun _ _ z => z.elim, _, hb, L2, G2, n1.step s2 o2, Post.step c1 s2⟩⟩

/-! ### for -/
/-- an iterator that gives ds, one after another -/
structure JOk (K : PySem.W.Frag) (J : It) (L : List Addr) (G : Hp) (ds : List D) : Prop where
  go : ∀ L2 G2 H2 μ2 (i : Nat) d, Pre L L2 → Same G G2 → Ok K L2 G2 H2 μ2 → ds[i]? = some d → J.go i H2 ∧ ∀ x H3, J.yld i H2 x H3 → ∃ G3, Step L2 G2 H2 L2 G3 H3 ∧ Ok K L2 G3 H3 μ2 ∧ Rep K L2 G3 d x
  stop : ∀ L2 G2 H2 μ2, Pre L L2 → Same G G2 → Ok K L2 G2 H2 μ2 → J.stop ds.length H2
def iD (K : PySem.W.Frag) (ρ : Env') (μ : List M) (ds : List D) (μ' : List M) : TI := fun σ H R => ∃ L G, Now K L G H μ ρ σ ∧ ∀ J L' G' H', Step L G H L' G' H' → Ok K L' G' H' μ' → JOk K J L' G' ds → R J H'
theorem pi_of {tg : Expr} {t t' : TI} (h : PI X tg e t) (w : ∀ σ H R, t' σ H R → t σ H R) : PI X tg e t' := ⟨fun pins s σ H R I q => h.run pins s σ H R I (w _ _ _ q)⟩
theorem drop_cons {α : Type} {l : List α} {i : Nat} {x : α} {r : List α} (h : l.drop i = x :: r) : l[i]? = some x ∧ l.drop (i + 1) = r := by
  have hi : i < l.length := by
    by_cases z : i < l.length
    · exact z
    · rw [List.drop_eq_nil_of_le (by omega)] at h
      cases h
  rw [List.drop_eq_getElem_cons hi] at h
  injection h with h1 h2
  exact ⟨by rw [List.getElem?_eq_getElem hi, h1], h2⟩
end
end PM

set_option Elab.async false
set_option linter.all false
set_option maxRecDepth 100000
namespace PM
open PySem L2

/-! ### locs that are there -/
section
variable {K : PySem.W.Frag} {L : List Addr} {G H : Hp}
mutual
theorem Rep.lo : ∀ {d : D} {v : V}, Rep K L G d v → D.lo L.length d = true
  | .non, _, _ => by simp only [D.lo]
  | .bl _, _, _ => by simp only [D.lo]
  | .int _, _, _ => by simp only [D.lo]
  | .str _, _, _ => by simp only [D.lo]
  | .ref _, _, _ => by simp only [D.lo]
  | .ty _, _, _ => by simp only [D.lo]
  | .loc m, _, h => by
    simp only [Rep] at h
    obtain ⟨a, e, _⟩ := h
    simp only [D.lo, decide_eq_true_eq]
    exact (List.getElem?_eq_some_iff.mp e).1
  | .tup ds, _, h => by
    simp only [Rep] at h
    obtain ⟨a, vs, e, q, r⟩ := h
    simp only [D.lo]
    exact Reps.los r
  | .lst ds, _, h => by
    simp only [Rep] at h
    obtain ⟨a, vs, e, q, r⟩ := h
    simp only [D.lo]
    exact Reps.los r
  | .scr ds, _, h => by
    simp only [Rep] at h
    obtain ⟨a, vs, e, q, r⟩ := h
    simp only [D.lo]
    exact Reps.los r
  | .exn a dd ns ds, _, h => by
    simp only [Rep] at h
    obtain ⟨vs, e, q, z, r⟩ := h
    simp only [D.lo]
    exact Reps.los r
  | .obj C ns ds, _, h => by
    simp only [Rep] at h
    obtain ⟨a, dx, vs, e, q, z, r⟩ := h
    simp only [D.lo]
    exact Reps.los r
  | .err C ns ds, _, h => by
    simp only [Rep] at h
    obtain ⟨a, dx, vs, e, q, z, r⟩ := h
    simp only [D.lo]
    exact Reps.los r
theorem Reps.los : ∀ {ds : List D} {vs : List V}, Reps K L G ds vs → D.los L.length ds = true
  | [], _, _ => by simp only [D.los]
  | d :: ds, _, h => by
    simp only [Reps] at h
    obtain ⟨v, r, e, h1, h2⟩ := h
    simp only [D.los, Bool.and_eq_true]
    exact ⟨Rep.lo h1, Reps.los h2⟩
end
theorem MAt.lo {a : Addr} {m : M} (h : MAt K L G H a m) : m.lo L.length = true := by
  cases m with
  | lst ds => obtain ⟨vs, e, r⟩ := h; exact r.los
  | ins C ns ds => obtain ⟨dx, vs, e, z, r⟩ := h; exact r.los
  | gone => rfl
  | box => rfl
theorem Ok.lo {μ : List M} (h : Ok K L G H μ) {i : Nat} {m : M} (e : μ[i]? = some m) : m.lo μ.length = true := by
  have hi : i < L.length := by rw [h.len]; exact (List.getElem?_eq_some_iff.mp e).1
  have := (h.at_ i L[i] m (List.getElem?_eq_getElem hi) e).lo
  rw [h.len] at this
  exact this
end
/-- what the store holds behind a call has no places that the call has made -/
def Lows (μ μ2 : List M) : Prop := μ2.length = μ.length ∧ ∀ (i : Nat) m, μ2[i]? = some m → μ[i]? = some m ∨ m.lo μ.length = true
theorem Lows.refl (μ : List M) : Lows μ μ := ⟨rfl, fun _ _ e => .inl e⟩
theorem Lows.set (μ : List M) (i : Nat) {m : M} (h : m.lo μ.length = true) : Lows μ (μ.set i m) := ⟨by simp, fun j x e => by
  by_cases hj : i = j
  · subst hj
    by_cases hi : i < μ.length
    · rw [List.getElem?_set_self hi] at e
      cases e
      exact .inr h
    · rw [List.getElem?_eq_none (by simpa using hi)] at e
      cases e
  · rw [List.getElem?_set_ne hj] at e
    exact .inl e⟩
theorem Lows.all {K : PySem.W.Frag} {L : List Addr} {G H : Hp} {μ μ2 : List M} (l : Lows μ μ2) (o : Ok K L G H μ) : μ2.all (M.lo μ2.length) = true := by
  rw [List.all_eq_true]
  intro m hm
  obtain ⟨i, hi⟩ := List.mem_iff_getElem?.mp hm
  rw [l.1]
  rcases l.2 i m hi with e | e
  · exact o.lo e
  · exact e

/-! ### a def's promise -/
abbrev Rl := List D → List M → FO → Prop
def Got (K : PySem.W.Frag) (L : List Addr) (G H : Hp) (Q : VK) (E : XK) : FO → Prop
  | .ret d μ' => Comes K L G H d μ' Q
  | .exc C ns ds' μ' => ComesX K L G H C ns ds' μ' E
def spR (K : PySem.W.Frag) (R : Rl) : Sp := fun vs H Q E => ∃ L G ds μ o, Ok K L G H μ ∧ Reps K L G ds vs ∧ R ds μ o ∧ Got K L G H Q E o
/-- how a body's end is the def's end (μ: the store at the entry) -/
inductive Leads (μ : List M) : FO → Out → Prop
  | ret0 {d : D} {μ2 : List M} : Leads μ (.ret d μ2) (.ret d μ2)
  | next0 {ρ : Env'} {μ2 : List M} : Leads μ (.ret .non μ2) (.next ρ μ2)
  | exc0 {C : Addr} {ns : List Str} {ds : List D} {ρ : Env'} {μ2 : List M} : Leads μ (.exc C ns ds μ2) (.exc C ns ds ρ μ2)
  | ret {d : D} {μ2 ν : List M} : Lows μ μ2 → D.lo μ.length d = true → Leads μ (.ret d μ2) (.ret d (μ2 ++ ν))
  | next {ρ : Env'} {μ2 ν : List M} : Lows μ μ2 → Leads μ (.ret .non μ2) (.next ρ (μ2 ++ ν))
  | exc {C : Addr} {ns : List Str} {ds : List D} {ρ : Env'} {μ2 ν : List M} : Lows μ μ2 → D.los μ.length ds = true → Leads μ (.exc C ns ds μ2) (.exc C ns ds ρ (μ2 ++ ν))
  /-- a list of its own is handed back: nobody else has it -/
  | retL {ds : List D} {μ2 ν : List M} {n : Nat} : Lows μ μ2 → D.los μ.length ds = true → μ.length ≤ n → (μ2 ++ ν)[n]? = some (.lst ds) → Leads μ (.ret (.lst ds) μ2) (.ret (.loc n) (μ2 ++ ν))
def startD (N : List Str) (ds : List D) : Env' := ds.map some ++ List.replicate (N.length - ds.length) none
theorem start_rep {K : PySem.W.Frag} {L : List Addr} {G : Hp} {N : List Str} {ds : List D} {vs : List V} (r : Reps K L G ds vs) : RepS K L G (startD N ds) (start N vs) := by
  have hl := r.length
  refine ⟨by simp [startD, L2.start, hl], fun i d e => ?_⟩
  unfold startD at e
  unfold L2.start
  by_cases hi : i < ds.length
  · rw [List.getElem?_append_left (by simpa using hi)] at e
    rw [List.getElem?_append_left (by simpa [hl] using hi)]
    rw [List.getElem?_map] at e ⊢
    cases q : ds[i]? with
    | none => rw [q] at e; cases e
    | some x =>
      rw [q] at e
      simp only [Option.map_some, Option.some.injEq] at e
      subst e
      obtain ⟨v, h1, h2⟩ := r.get q
      exact ⟨v, by rw [h1]; rfl, h2⟩
  · rw [List.getElem?_append_right (by simpa using hi)] at e
    rw [List.getElem?_replicate] at e
    split at e <;> cases e
section
variable {P : Program} {w : World} {K : PySem.W.Frag} {mg : Str → Option Value} {base : Heap}
theorem xd_cut {L L' : List Addr} {G H : Hp} {dx : Option Addr} {ns : List Str} {ds : List D} {n : Nat} (x : XdAt K L G H dx ns ds) (h : D.los n ds = true) : XdAt K (L.take n) G H dx ns ds := by
  refine ⟨x.1, ?_⟩
  rcases x.2 with z | ⟨a, vs, e1, e2, r⟩
  · exact .inl z
  · exact .inr ⟨a, vs, e1, e2, r.cut h⟩
/-- the end of a body as its caller sees it -/
theorem leads_post {L : List Addr} {G H : Hp} {μ : List M} {o : FO} {q : Out} {Q : VK} {E : XK} (h : Leads μ o q) (ok : Ok K L G H μ)
    (c : Got K L G H Q E o) : Post (fun c d _ H => E c d H) K L G H { nx := fun _ H' => Q .non H', rt := Q } q := by
  have cut : ∀ {μ2 : List M}, Lows μ μ2 → ∀ {L' : List Addr} {G' H' : Hp} {ν : List M}, Step L G H L' G' H' → Ok K L' G' H' (μ2 ++ ν) → Step L G H (L'.take μ2.length) G' H' ∧ Ok K (L'.take μ2.length) G' H' μ2 := by
    intro μ2 l L' G' H' ν s o
    exact ⟨s.cut (by rw [ok.len, l.1]; exact Nat.le_refl _), o.cut (l.all ok)⟩
  cases h with
  | ret0 => exact c
  | next0 => exact fun σ' L' G' H' s n => c _ L' G' H' s n.ok (rep_non.mpr rfl)
  | exc0 => exact fun σ' dx L' G' H' s n x => c dx L' G' H' s n.ok x
  | ret l hd =>
    intro v L' G' H' s o' r
    obtain ⟨s', o''⟩ := cut l s o'
    exact c v _ G' H' s' o'' (r.cut (by rw [l.1]; exact hd))
  | next l =>
    intro σ' L' G' H' s n
    obtain ⟨s', o''⟩ := cut l s n.ok
    exact c _ _ G' H' s' o'' (rep_non.mpr rfl)
  | exc l hd =>
    intro σ' dx L' G' H' s n x
    obtain ⟨s', o''⟩ := cut l s n.ok
    exact c dx _ G' H' s' o'' (xd_cut (L' := L') x (by rw [l.1]; exact hd))
  | retL l hd hn he =>
    rename_i ds μ2 ν n
    intro v L' G' H' s o' r
    obtain ⟨s', o''⟩ := cut l s o'
    obtain ⟨a, ea, ev⟩ := rep_loc.mp r
    obtain ⟨vs, eh, rv⟩ := o'.at_ n a _ ea he
    have hna : a ∉ L'.take μ2.length := fun z => by
      obtain ⟨j, hj, ej⟩ := List.getElem_of_mem z
      rw [List.length_take] at hj
      rw [List.getElem_take] at ej
      obtain ⟨h1, h2⟩ := List.getElem?_eq_some_iff.mp ea
      have := (List.getElem_inj o'.nd).mp (ej.trans h2.symm)
      rw [l.1] at hj
      omega
    obtain ⟨o3, sg⟩ := o''.tell (p := a) (o := .lst vs) eh hna
    have h0 : H a = none := by
      rcases s.fr a (List.mem_of_getElem? ea) with z | z
      · obtain ⟨j, hj, ej⟩ := List.getElem_of_mem z
        have e1 := s.pre j a (by rw [List.getElem?_eq_getElem hj, ej])
        obtain ⟨h1, h2⟩ := List.getElem?_eq_some_iff.mp ea
        obtain ⟨h3, h4⟩ := List.getElem?_eq_some_iff.mp e1
        have := (List.getElem_inj o'.nd).mp (h4.trans h2.symm)
        rw [ok.len] at hj
        omega
      · exact z
    refine c v _ _ H' (s'.tell h0 sg) o3 (rep_lst.mpr ⟨a, vs, ev, upd_same, ?_⟩)
    exact ((rv.cut (n := μ2.length) (by rw [l.1]; exact hd)).mono (.refl _) sg)
/-- a def keeps its promise, where no text of a container is being made -/
structure FnG (P : Program) (w : World) (K : PySem.W.Frag) (mg : Str → Option Value) (base : Heap) (k : Nat) (f : Addr) (fd : FuncData) (ps : List Str) (sp : Sp) : Prop where
  len : ∀ vs H Q E, sp vs H Q E → vs.length = ps.length
  run : ∀ (A : Around) (outer : List Env) (s : Shared) (H : Hp) (args : Args) (us : List Value) (vs : List V) (Q : VK) (E : XK), Room k A → Gr k A → Env0 P w K mg base A outer s H → BindsTo s fd args (ps.zip us) → Vals vs us → sp vs H Q E →
    codeAny (model P w) A (.call (.ref f) args) (CR (L2.CX P w) outer P w H s Q E) s
/-- a def of the text as it stands behind the top; dvs: its defaults -/
abbrev FunS (K : PySem.W.Frag) (x qual : Str) (st : Stmt) (dvs : List V) (f : Addr) (fd : FuncData) : Prop := FunD K x qual (defArgs st) (defBody st) (defScope st) dvs [] f fd
/-- THE RULE for a def -/
theorem fnR {x qual : Str} {st : Stmt} {dvs : List V} {f : Addr} {fd : FuncData} {N ps : List Str} {k : Nat} {R : Rl} (F : FunS K x qual st dvs f fd) (S : FnScope N ps (defScope st)) (len : ∀ ds μ o, R ds μ o → ds.length = ps.length)
    (body : ∀ (cdv : Value) (A : Around) (outer : List Env) (s : Shared) (H : Hp) (E : XK), Gd (cxOf (L2.CX P w) P w K mg base N qual (defScope st) f cdv A outer s H E) (fun c d _ H => E c d H) k →
      ∀ ds μ o, R ds μ o → ∃ q, Leads μ o q ∧ PSs (cxOf (L2.CX P w) P w K mg base N qual (defScope st) f cdv A outer s H E) (defBody st) (tS (fun c d _ H => E c d H) K (startD N ds) μ q)) :
    FnG P w K mg base (k + 1) f fd ps (spR K R) := by
  have ln : ∀ vs H Q E, spR K R vs H Q E → vs.length = ps.length := fun vs H Q E ⟨L, G, ds, μ, o, _, r, hR, _⟩ => r.length.trans (len ds μ o hR)
  refine ⟨ln, fun A outer s H args us vs Q E room gr en bnd rel hsp => ?_⟩
  obtain ⟨oc, od, dV, kV, doc, pm, an, cdv, ct, osl, rfl, look, hcode, _, _⟩ := F.ex
  have kept : ∀ b o, base.get? b = some o → s.heap.get? b = some o := fun b o e => (en.bs b o e).1
  have kin : K.In s.heap := en.mod.kin.keeps kept
  have kinds : ∀ y ∈ ps.zip us, (defScope st).names.lookup y.1 = some .local ∨ ((defScope st).names.lookup y.1 = some .cell ∧ ((cellsFrom (s.heap.objs.size + 1) (defScope st).names []).lookup y.1).isSome = true) := by
    rintro ⟨n, v⟩ hy
    exact (S.par n (List.of_mem_zip hy).1).imp (fun q => q) fun q => ⟨q, PySem.W.cellsFrom_some _ _ _ (.inl q)⟩
  refine codeAny_call_function room.depth (kin _ _ look) rfl S.co S.gen rfl (PySem.W.codeRec_of kin hcode) (bnd _ _ _ _ (wpAny_newFunctionEnv_cells S.kind kinds fun env he s1 ent => ?_))
  subst he
  refine ⟨(en.mod.nolimit.keeps kept).keeps ent.toInCall.keep, codeAny_func ?_⟩
  have hlen := ln _ _ _ _ hsp
  obtain ⟨L, G, ds, μ, o, ok, rr, hR, c⟩ := hsp
  obtain ⟨q, hlq, ht⟩ := body cdv A outer s H E ⟨rfl, S.nd, takes_of rfl rfl rfl rfl, passes_of rfl, room.deeper _, gr.mono (Nat.le_succ _)⟩ ds μ o hR
  have inv : Inv (cxOf (L2.CX P w) P w K mg base N qual (defScope st) f cdv A outer s H E) [] (L2.start N vs) H s1 := inv_start S room.hd en hlen rel ent
  refine wpAny_mono (ht.run [] s1 (L2.start N vs) H { nx := fun _ H' => Q .non H', rt := Q } inv ⟨L, G, ⟨ok, start_rep rr⟩, leads_post hlq ok c⟩) (fun fl s' hs => ?_) fun e s' hs => hs
  match fl, hs with
  | .ret u, ⟨v, σ', H', J, rv, q⟩ => exact ⟨v, H', J.os, J.bare, J.base, J.hok, rv, q⟩
  | .next, ⟨σ', H', J, q⟩ => exact ⟨.non, H', J.os, J.bare, J.base, J.hok, rfl, q⟩
  | .brk, ⟨_, _, _, q⟩ => exact q.elim
  | .cont, ⟨_, _, _, q⟩ => exact q.elim
theorem FunD.plain {x qual : Str} {st : Stmt} {f : Addr} {fd : FuncData} (F : FunS K x qual st [] f fd) : Fun K x qual st f fd := by
  obtain ⟨oc, od, dV, kV, doc, pm, an, cdv, ct, osl, e, look, hcode, hD, _⟩ := F.ex
  rcases hD with ⟨_, rfl⟩ | ⟨z, _⟩
  · exact ⟨⟨oc, od, kV, doc, pm, an, cdv, ct, osl, e, look, hcode⟩, F.kp⟩
  · exact (z rfl).elim
theorem funS_mk {x qual : Str} {st : Stmt} {f : Addr} {oc : Value} {od an : Option Addr} {osl : Array (Option Value)} {kV doc pm cdv ct : Value} (l : K.lookup f = some ⟨oc, od, .func (PySem.W.fnOf x qual (defArgs st) (defBody st) (defScope st) .none kV doc pm an cdv ct), osl⟩)
    (c : PySem.W.codeIn K cdv qual = true) (k : PySem.W.keepIn K (.ref f) = true) : FunS K x qual st [] f (PySem.W.fnOf x qual (defArgs st) (defBody st) (defScope st) .none kV doc pm an cdv ct) :=
  ⟨⟨oc, od, .none, kV, doc, pm, an, cdv, ct, osl, rfl, l, c, .inl ⟨rfl, rfl⟩, .inl rfl⟩, k⟩
end

/-! ### calls -/
/-- a def that may be called -/
structure Cal (P : Program) (w : World) (K : PySem.W.Frag) (mg : Str → Option Value) (base : Heap) (k : Nat) (ps : List Str) (R : Rl) (f : Addr) (fd : FuncData) : Prop where
  ok : FnG P w K mg base k f fd ps (spR K R)
  bd : Binds K fd ps []
section
variable {X : Cx} {W : WX} {k j : Nat} {ps : List Str} {R : Rl} {f C : Addr} {fd : FuncData} {ds : List D} {μ μ1 μ2 : List M} {o : FO} {e : Expr} {es : List Expr} {x m : Str} {p pos apos : Pos} {ρ : Env'} {d : D}
theorem CO.sp {σ : St} {H : Hp} {Q : VK} {L : List Addr} {G : Hp} {vs : List V} (hR : R ds μ o) (ok : Ok X.K L G H μ) (r : Reps X.K L G ds vs) (c : CO W X.K L G H σ o Q) : spR X.K R vs H Q (WE W σ) :=
  ⟨L, G, ds, μ, o, ok, r, hR, by
    cases o with
    | ret d μ' => exact c
    | exc C ns ds' μ' => exact c⟩
theorem run_fnG {pins : List (Addr × Obj)} {σ : St} {H : Hp} {s : Shared} {Q : VK} {us us' : List Value} {kw : List (Str × Value)} {vs : List V} {sp : Sp} {E : XK} (F : FnG X.prog X.w X.K X.mg X.base j f fd ps sp) (hr : Room j X.A) (gr : Gr j X.A) (hb : BindsTo s fd ⟨us', kw⟩ (ps.zip us)) (hx : PassesAt (L2.CX X.prog X.w) X σ E)
    (I : Inv X pins σ H s) (r : Vals vs us) (h : sp vs H Q E) : wpAny (model X.prog X.w) X.A (call (.ref f) us' kw) (EP X pins σ Q) X.xe s := by
  refine wpAny_call (codeAny_mono (F.run X.A X.stack s H ⟨us', kw⟩ us vs Q E hr gr I.env0 hb r h) fun r s' hq => ?_)
  cases r with
  | error e => exact hx pins H s e s' I hq
  | ok fl =>
    cases fl with
    | ret u => exact I.after hq
    | next => exact False.elim hq
    | brk => exact False.elim hq
    | cont => exact False.elim hq
/-- by values -/
theorem Cal.run (c : Cal X.prog X.w X.K X.mg X.base j ps R f fd) (g : Gd X W k) (hj : j ≤ k) (hR : R ds μ o) : CallO X W (fun us => call (.ref f) us) ds μ o :=
  fun pins s σ H xs us Q L G I rx ok r co => by
    have hsp := CO.sp hR ok r co
    have hl : us.length = ps.length := by rw [← rx.length]; exact c.ok.len _ _ _ _ hsp
    have b := c.bd s us I.kIn (by rw [List.append_nil]; exact hl)
    rw [List.append_nil] at b
    exact run_fnG (E := WE W σ) c.ok (g.hr.mono hj) (g.gr.mono hj) b (passAt g.tk σ) I rx hsp
theorem argsO {f : List Value → Sem Value} (ha : PA X es (tVA X.K ρ μ ds μ1)) (hf : CallO X W f ds μ1 o) {pins : List (Addr × Obj)} {s : Shared} {σ : St} {H : Hp} {Q : VK} (I : Inv X pins σ H s) (h : tO W X.K ρ μ o σ H Q) (pos : Pos) :
    wpAny (model X.prog X.w) X.A (spliced (backTo pos (starEach es X.env))) (fun us s1 => X.K.In s1.heap ∧ wpAny (model X.prog X.w) X.A (f us) (EP X pins σ Q) X.xe s1) X.xe s := by
  obtain ⟨L, G, n, c⟩ := h
  refine thn (ha.run pos pins s σ H (fun vs H1 => ∃ L1 G1, Ok X.K L1 G1 H1 μ1 ∧ Reps X.K L1 G1 ds vs ∧ CO W X.K L1 G1 H1 σ o Q) I ⟨L, G, n, fun vs L1 G1 H1 s1 o1 r1 => ⟨L1, G1, o1, r1, CO.step c s1⟩⟩) fun us s1 ⟨vs, H1, I1, r1, L1, G1, o1, rr, c1⟩ => ⟨I1.kIn, ?_⟩
  exact hf pins s1 σ H1 vs us Q L1 G1 I1 r1 o1 rr c1
/-- f(e, ..) -/
theorem ev_call (g : Gd X W k) (c : Cal X.prog X.w X.K X.mg X.base j ps R f fd) (hm : X.mg x = some (.ref f)) (hk : PySem.W.keepIn X.K (.ref f) = true) (ha : PA X (e :: es) (tVA X.K ρ μ ds μ1)) (hR : R ds μ1 o) (hj : j ≤ k := by decide) (hg : Gl X x := by rfl)
    (hdb : (x == ("__debug__" : Str)) = false := by decide) (he : starEach (e :: es) X.env = (false, eval e X.env) :: starEach es X.env := by rfl) (hpl : (backTo pos (starEach es X.env)).any (·.1) = false := by rfl) :
    PE X (.Call (.Name x p) (e :: es) [] pos) (tO W X.K ρ μ o) :=
  ⟨fun pins s σ H Q I h => wpAny_Call_Name_kw (ld_glob I hg hm (PySem.W.callWith_K (h₀ := X.base) I.ok.mod.kin hk (argsO ha (c.run g hj hR) I h pos) he hpl) hdb)⟩
/-! #### objects -/
/-- a field of an immutable object -/
def fldOf (ns : List Str) (ds : List D) (f : Str) : Option D := (ns.zip ds).lookup f
theorem fld_rep {K : PySem.W.Frag} {L : List Addr} {G : Hp} {f : Str} : ∀ {ns : List Str} {ds : List D} {vs : List V} {d : D}, Reps K L G ds vs → fldOf ns ds f = some d → ∃ v, (ns.zip vs).lookup f = some v ∧ Rep K L G d v
  | [], ds, vs, d, r, h => by simp [fldOf] at h
  | n :: ns, [], vs, d, r, h => by simp [fldOf] at h
  | n :: ns, c :: ds, vs, d, r, h => by
    obtain ⟨v, q, rfl, r1, r2⟩ := r.inv_cons
    unfold fldOf at h
    rw [List.zip_cons_cons] at h ⊢
    simp only [List.lookup] at h ⊢
    cases hf : f == n with
    | true =>
      simp only [hf, Option.some.injEq] at h ⊢
      subst h
      exact ⟨v, rfl, r1⟩
    | false =>
      simp only [hf] at h ⊢
      exact fld_rep r2 h
theorem zip_lookup_none {α β : Type} {f : Str} : ∀ {ns : List Str} {vs : List α} {ds : List β}, vs.length = ds.length → (ns.zip ds).lookup f = none → (ns.zip vs).lookup f = none
  | [], _, _, _, _ => rfl
  | n :: ns, [], _, _, _ => rfl
  | n :: ns, v :: vs, [], h, _ => by simp at h
  | n :: ns, v :: vs, d :: ds, h, e => by
    rw [List.zip_cons_cons] at e ⊢
    simp only [List.lookup] at e ⊢
    cases hf : f == n with
    | true => simp [hf] at e
    | false =>
      simp only [hf] at e ⊢
      exact zip_lookup_none (by simpa using h) e
/-- what is asked of the receiver of a method -/
inductive Recv (C : Addr) (m : Str) (μ : List M) : D → Prop
  | obj {ns : List Str} {fs : List D} : fldOf ns fs m = none → Recv C m μ (.obj C ns fs)
  | loc {ns : List Str} {fs : List D} {i : Nat} : μ[i]? = some (.ins C ns fs) → fldOf ns fs m = none → Recv C m μ (.loc i)
theorem Recv.at_ {L : List Addr} {G H : Hp} {v : V} (r : Recv C m μ d) (ok : Ok X.K L G H μ) (rd : Rep X.K L G d v) : ∃ a dx fs, v = .ref a ∧ H a = some (.ins C dx fs) ∧ fs.lookup m = none := by
  cases r with
  | obj h =>
    obtain ⟨a, dx, vs, ev, eg, _, rr⟩ := rep_obj.mp rd
    exact ⟨a, dx, _, ev, ok.sub _ _ eg, zip_lookup_none rr.length h⟩
  | loc hi h =>
    obtain ⟨a, ea, ev⟩ := rep_loc.mp rd
    obtain ⟨dx, vs, eh, _, rr⟩ := ok.at_ _ a _ ea hi
    exact ⟨a, dx, _, ev, eh, zip_lookup_none rr.length h⟩
end
end PM

set_option Elab.async false
set_option linter.all false
set_option maxRecDepth 100000
namespace PM
open PySem L2

/-! ### making an object -/
section
variable {X : Cx} {W : WX} {k j : Nat} {ps : List Str} {R : Rl} {f C : Addr} {fd : FuncData} {ds : List D} {μ μ1 μ2 : List M} {o : FO} {e : Expr} {es : List Expr} {x m : Str} {p pos apos : Pos} {ρ : Env'} {d : D}
/-- C(..) by what __init__ does: the new thing is the last of the store -/
inductive MakeR (R : Rl) (C : Addr) (ds : List D) (μ : List M) : FO → Prop
  | obj {ns : List Str} {fs : List D} {μ2 : List M} : R (.loc μ.length :: ds) (μ ++ [.ins C [] []]) (.ret .non (μ2 ++ [.ins C ns fs])) → Lows μ μ2 → ns.length = fs.length → D.los μ.length fs = true → MakeR R C ds μ (.ret (.obj C ns fs) μ2)
  | loc {ns : List Str} {fs : List D} {μ2 : List M} : R (.loc μ.length :: ds) (μ ++ [.ins C [] []]) (.ret .non (μ2 ++ [.ins C ns fs])) → μ2.length = μ.length → MakeR R C ds μ (.ret (.loc μ.length) (μ2 ++ [.ins C ns fs]))
  | exc {C' : Addr} {ns : List Str} {fs : List D} {μ2 : List M} {m : M} : R (.loc μ.length :: ds) (μ ++ [.ins C [] []]) (.exc C' ns fs (μ2 ++ [m])) → Lows μ μ2 → D.los μ.length fs = true → MakeR R C ds μ (.exc C' ns fs μ2)
theorem run_makeS {sp : Sp} {dvs : List V} {dvl : List Value} {E : XK} {pins : List (Addr × Obj)} {σ : St} {H : Hp} {s : Shared} {Q : VK} {us : List Value} {vs : List V} (Mk : Mk X.K C f) (F : FnG X.prog X.w X.K X.mg X.base k f fd ps sp) (hr : Room (k + 1) X.A) (gr : Gr (k + 1) X.A) (hb : Binds X.K fd ps dvl) (hd : Vals dvs dvl)
    (hx : PassesAt (L2.CX X.prog X.w) X σ E) (I : Inv X pins σ H s) (r : Vals vs us)
    (h : ∀ x dx, H x = none → H dx = none → dx ≠ x → sp (.ref x :: (vs ++ dvs)) (upd (upd H dx (.own x)) x (.ins C dx [])) (fun v H2 => v = .non ∧ Q (.ref x) H2) E) :
    wpAny (model X.prog X.w) X.A (call (.ref C) us) (EP X pins σ Q) X.xe s := by
  have hq := h (s.heap.objs.size + 1) s.heap.objs.size (I.hok.fresh (Nat.le_succ _)) (I.hok.fresh (Nat.le_refl _)) (Nat.ne_of_lt (Nat.lt_succ_self _))
  have I2 := Inv.made (C := C) I
  have r2 : Vals (V.ref (s.heap.objs.size + 1) :: (vs ++ dvs)) (Value.ref (s.heap.objs.size + 1) :: (us ++ dvl)) := .cons rfl (r.append hd)
  have hl : (Value.ref (s.heap.objs.size + 1) :: us ++ dvl).length = ps.length := by
    have e := r2.length
    rw [F.len _ _ _ _ hq] at e
    exact e.symm
  refine wpAny_call (make_map (f := f) I.kIn Mk.makes Mk.init (beq_iff_eq.mp Mk.fn) (codeAny_mono (F.run _ X.stack _ _ ⟨Value.ref (s.heap.objs.size + 1) :: us, []⟩ (Value.ref (s.heap.objs.size + 1) :: (us ++ dvl)) _ _ E (hr.make C us []) (by obtain ⟨g0, e0, z0⟩ := gr; exact ⟨g0, by first | exact e0 | (simpa [Around.under, Code.guards, Code.isGuard, pushGuards, guardIds] using e0), fun q => z0 (by omega)⟩)
    (I2.env0.make C us []) (hb _ (Value.ref (s.heap.objs.size + 1) :: us) I2.kIn hl) r2 hq) fun r s' hq' => ?_))
  cases r with
  | error e => exact hx pins _ _ e s' I2 hq'
  | ok fl =>
    cases fl with
    | ret u =>
      obtain ⟨v, H', I3, rv, ev, q3⟩ := I2.after hq'
      subst ev
      exact ⟨rv, ⟨V.ref (s.heap.objs.size + 1), H', I3, rfl, q3⟩⟩
    | next => exact False.elim hq'
    | brk => exact False.elim hq'
    | cont => exact False.elim hq'
/-- the new instance in the store -/
theorem Ok.made {K : PySem.W.Frag} {L : List Addr} {G H : Hp} {a dx : Addr} (ok : Ok K L G H μ) (h1 : H a = none) (h2 : H dx = none) (ne : dx ≠ a) :
    Ok K (L ++ [a]) G (upd (upd H dx (.own a)) a (.ins C dx [])) (μ ++ [.ins C [] []]) ∧ Step L G H (L ++ [a]) G (upd (upd H dx (.own a)) a (.ins C dx [])) := by
  obtain ⟨o1, s1⟩ := ok.newH (o := .own a) h2
  have h1' : upd H dx (.own a) a = none := by rw [upd_ne (Ne.symm ne)]; exact h1
  obtain ⟨o2, s2⟩ := o1.alloc (o := .ins C dx []) (m := .ins C [] []) h1' ⟨dx, [], upd_same, rfl, Reps.nil⟩
  exact ⟨o2, s1.trans s2⟩
theorem last_get {α : Type} (l : List α) (x : α) : (l ++ [x])[l.length]? = some x := by simp
theorem makeO {dvs : List V} {dvl : List Value} {dds : List D} (Mk : Mk X.K C f) (F : FnG X.prog X.w X.K X.mg X.base j f fd ps (spR X.K R)) (hb : Binds X.K fd ps dvl) (hd : Vals dvs dvl) (hdd : ∀ L G, Reps X.K L G dds dvs) (g : Gd X W k) (hj : j + 1 ≤ k) (hR : MakeR R C (ds ++ dds) μ o) :
    CallO X W (fun us => call (.ref C) us) ds μ o := by
  intro pins s σ H xs us Q L G I rx ok r co
  refine run_makeS (E := WE W σ) Mk F (g.hr.mono hj) (g.gr.mono hj) hb hd (passAt g.tk σ) I rx fun a dx h1 h2 ne => ?_
  obtain ⟨o2, s2⟩ := ok.made (C := C) h1 h2 ne
  have la : (L ++ [a])[μ.length]? = some a := by rw [← ok.len]; exact last_get L a
  have rr : Reps X.K (L ++ [a]) G (.loc μ.length :: (ds ++ dds)) (.ref a :: (xs ++ dvs)) := Reps.cons (rep_loc.mpr ⟨a, la, rfl⟩) ((r.step s2).append (hdd _ _))
  cases hR with
  | obj h l hl hfs =>
    rename_i ns fs μ2
    refine ⟨_, _, _, _, _, o2, rr, h, fun v L3 G3 H3 s3 o3 r3 => ⟨rep_non.mp r3, ?_⟩⟩
    have s13 := s2.trans s3
    have hlen : μ2.length = μ.length := l.1
    have la3 : L3[μ2.length]? = some a := by rw [hlen]; exact s3.pre _ _ la
    obtain ⟨dx', vs', eh, _, rv⟩ := o3.at_ μ2.length a _ la3 (last_get μ2 _)
    have o4 : Ok X.K (L3.take μ2.length) G3 H3 μ2 := o3.cut (l.all ok)
    have s4 : Step L G H (L3.take μ2.length) G3 H3 := s13.cut (by rw [ok.len, hlen]; exact Nat.le_refl _)
    have hna : a ∉ L3.take μ2.length := fun z => by
      obtain ⟨i, hi, ei⟩ := List.getElem_of_mem z
      rw [List.length_take] at hi
      rw [List.getElem_take] at ei
      obtain ⟨g1, g2⟩ := List.getElem?_eq_some_iff.mp la3
      have := (List.getElem_inj o3.nd).mp (ei.trans g2.symm)
      omega
    obtain ⟨o5, sg⟩ := o4.tell (p := a) (o := .ins C dx' (ns.zip vs')) eh hna
    exact co _ _ _ H3 (s4.tell h1 sg) o5 (rep_obj.mpr ⟨a, dx', vs', rfl, upd_same, hl, (rv.cut (n := μ2.length) (by rw [hlen]; exact hfs)).mono (.refl _) sg⟩)
  | loc h hl =>
    refine ⟨_, _, _, _, _, o2, rr, h, fun v L3 G3 H3 s3 o3 r3 => ⟨rep_non.mp r3, ?_⟩⟩
    exact co _ L3 G3 H3 (s2.trans s3) o3 (rep_loc.mpr ⟨a, s3.pre _ _ la, rfl⟩)
  | exc h l hfs =>
    rename_i C' ns fs μ2 m
    refine ⟨_, _, _, _, _, o2, rr, h, fun dx' L3 G3 H3 s3 o3 x3 => ?_⟩
    have hlen : μ2.length = μ.length := l.1
    exact co dx' _ G3 H3 ((s2.trans s3).cut (n := μ2.length) (by rw [ok.len, hlen]; exact Nat.le_refl _)) (o3.cut (l.all ok)) (xd_cut (L' := L3) x3 (by rw [hlen]; exact hfs))
/-- a class that may be made -/
structure Mak (P : Program) (w : World) (K : PySem.W.Frag) (mg : Str → Option Value) (base : Heap) (k : Nat) (ps : List Str) (R : Rl) (C f : Addr) (fd : FuncData) : Prop where
  mak : Mk K C f
  ok : FnG P w K mg base k f fd ps (spR K R)
end

/-! ### fields stored -/
section
variable {X : Cx} {W : WX} {k : Nat} {e oe : Expr} {pos pos' : Pos} {ρ : Env'} {μ μ1 μ2 : List M} {d : D} {i : Nat} {C : Addr} {ns : List Str} {fs : List D} {f : Str}
/-- a field put among the others -/
def putN (f : Str) : List Str → List Str
  | [] => [f]
  | g :: r => if g = f then g :: r else g :: putN f r
def putD (f : Str) (d : D) : List Str → List D → List D
  | [], _ => [d]
  | _ :: _, [] => []
  | g :: r, x :: xs => if g = f then d :: xs else x :: putD f d r xs
theorem put_rep {K : PySem.W.Frag} {L : List Addr} {G : Hp} {v : V} (rv : Rep K L G d v) : ∀ {ns : List Str} {fs : List D} {vs : List V}, ns.length = fs.length → Reps K L G fs vs → ∃ vs', putF f v (ns.zip vs) = (putN f ns).zip vs' ∧ (putN f ns).length = (putD f d ns fs).length ∧ Reps K L G (putD f d ns fs) vs'
  | [], [], vs, _, r => ⟨[v], by simp [putF, putN], rfl, Reps.cons rv Reps.nil⟩
  | [], _ :: _, _, h, _ => by simp at h
  | _ :: _, [], _, h, _ => by simp at h
  | g :: ns, x :: fs, vs, h, r => by
    obtain ⟨u, q, rfl, r1, r2⟩ := r.inv_cons
    by_cases hg : g = f
    · refine ⟨v :: q, ?_, ?_, ?_⟩
      · simp [putF, putN, hg]
      · simp only [putN, putD, hg, if_true, List.length_cons]
        simpa using h
      · simp only [putD, hg, if_true]
        exact Reps.cons rv r2
    · obtain ⟨vs', e1, e2, e3⟩ := put_rep rv (by simpa using h) r2
      refine ⟨u :: vs', ?_, ?_, ?_⟩
      · simp [putF, putN, hg, e1]
      · simp only [putN, putD, hg, if_false, List.length_cons, e2]
      · simp only [putD, hg, if_false]
        exact Reps.cons r1 e3
/-- o.f = e, o a thing of the store -/
theorem es_fld (he : PE X e (tV X.K ρ μ d μ1)) (ho : PE X oe (tV X.K ρ μ1 (.loc i) μ2)) (hi : μ2[i]? = some (.ins C ns fs)) (c : Cls X.K C) (n : NoAttr X.K C f) (hl : ns.length < 1000 := by decide) (hs : swapsWith e (some (.Attribute oe f pos')) pos.line X.env = pure false := by rfl) :
    PS X (.Assign [.Attribute oe f pos'] e pos) (tS W X.K ρ μ (.next ρ (μ2.set i (.ins C (putN f ns) (putD f d ns fs))))) :=
  ps_of (ps_fld ho he hs) fun D σ H ⟨L, G, nw, co⟩ => ⟨L, G, nw, fun v L1 G1 H1 s1 o1 r1 => ⟨L1, G1, nw.step s1 o1, fun u L2 G2 H2 s2 o2 r2 => by
    obtain ⟨a, ea, ev⟩ := rep_loc.mp r2
    obtain ⟨dx, vs, eh, hl2, rr⟩ := o2.at_ i a _ ea hi
    obtain ⟨vs', e1, e2, e3⟩ := put_rep (r1.step s2) hl2 rr
    refine ⟨a, C, dx, _, ev, eh, c, n, ?_, ?_⟩
    · rw [List.length_zip]
      omega
    · obtain ⟨o3, s3⟩ := o2.write (o := .ins C dx (putF f v (ns.zip vs))) (m := .ins C (putN f ns) (putD f d ns fs)) ea ⟨dx, vs', by rw [upd_same, e1], e2, e3⟩
      exact co σ L2 G2 _ ((s1.trans s2).trans s3) ⟨o3, ((nw.env.step s1).step s2).step s3⟩⟩⟩
end
end PM

set_option Elab.async false
set_option linter.all false
set_option maxRecDepth 100000
namespace PM
open PySem L2
abbrev W0 : WX := fun _ _ _ _ => False

/-! ### ints -/
section
variable {X : Cx} {W : WX} {μ : List M} {i j : Int} {x y : Str} {a b : Bool}
theorem oo_int {f : Value → Value → Sem Value} {g : Int → Int → Int} (h : OpR X f (rI0 fun i j => .int (g i j))) : OpO X W f (.int i) (.int j) μ (.ret (.int (g i j)) μ) :=
  opO_of h fun σ x y H Q L G o r1 r2 c => ⟨i, j, rep_int.mp r1, rep_int.mp r2, CO.now (W := W) (σ := σ) c o (rep_int.mpr rfl)⟩
theorem oo_intC {f : Value → Value → Sem Value} {C : Int → Int → Prop} {g : Int → Int → Int} (h : OpR X f (rI C fun i j => .int (g i j))) (hc : C i j) : OpO X W f (.int i) (.int j) μ (.ret (.int (g i j)) μ) :=
  opO_of h fun σ x y H Q L G o r1 r2 c => ⟨i, j, rep_int.mp r1, rep_int.mp r2, hc, CO.now (W := W) (σ := σ) c o (rep_int.mpr rfl)⟩
theorem oo_intB {f : Value → Value → Sem Value} {g : Int → Int → Bool} (h : OpR X f (rI0 fun i j => .bl (g i j))) : OpO X W f (.int i) (.int j) μ (.ret (.bl (g i j)) μ) :=
  opO_of h fun σ x y H Q L G o r1 r2 c => ⟨i, j, rep_int.mp r1, rep_int.mp r2, CO.now (W := W) (σ := σ) c o (rep_bl.mpr rfl)⟩
theorem oo_add : OpO X W (binaryOp .Add) (.int i) (.int j) μ (.ret (.int (i + j)) μ) := oo_int op_add
theorem oo_sub : OpO X W (binaryOp .Sub) (.int i) (.int j) μ (.ret (.int (i - j)) μ) := oo_int op_sub
theorem oo_mul (h : CMulW i j) : OpO X W (binaryOp .Mult) (.int i) (.int j) μ (.ret (.int (i * j)) μ) := oo_intC op_mulW h
theorem oo_mulS (h : CMul i j) : OpO X W (binaryOp .Mult) (.int i) (.int j) μ (.ret (.int (i * j)) μ) := oo_intC op_mul h
theorem oo_fdiv (h : CDivW i j) : OpO X W (binaryOp .FloorDiv) (.int i) (.int j) μ (.ret (.int (i / j)) μ) := oo_intC op_fdivW h
theorem oo_fdivS (h : CDiv i j) : OpO X W (binaryOp .FloorDiv) (.int i) (.int j) μ (.ret (.int (i / j)) μ) := oo_intC op_fdiv h
theorem oo_mod (h : 0 < j) : OpO X W (binaryOp .Mod) (.int i) (.int j) μ (.ret (.int (i % j)) μ) := oo_intC op_mod h
theorem oo_pow (h : CPow i j) : OpO X W (binaryOp .Pow) (.int i) (.int j) μ (.ret (.int (i ^ j.toNat)) μ) := oo_intC op_pow h
theorem oc_lt : OpO X W (compareOp .Lt) (.int i) (.int j) μ (.ret (.bl (decide (i < j))) μ) := oo_intB op_lt
theorem oc_le : OpO X W (compareOp .LtE) (.int i) (.int j) μ (.ret (.bl (decide (i ≤ j))) μ) := oo_intB op_le
theorem oc_gt : OpO X W (compareOp .Gt) (.int i) (.int j) μ (.ret (.bl (decide (j < i))) μ) := oo_intB op_gt
theorem oc_ge : OpO X W (compareOp .GtE) (.int i) (.int j) μ (.ret (.bl (decide (j ≤ i))) μ) := oo_intB op_ge
theorem ou_neg : UnO X W (unaryOp .USub) (.int i) μ (.ret (.int (-i)) μ) := unO_of un_neg fun σ x H Q L G o r c => ⟨i, rep_int.mp r, CO.now (W := W) (σ := σ) c o (rep_int.mpr rfl)⟩
/-- == of scalars: as the layer's rule has it -/
def Sc : D → Option V
  | .non => some .non
  | .bl b => some (.bl b)
  | .int i => some (.int i)
  | .str x => some (.str x)
  | _ => none
theorem Sc.rep {K L G} {d : D} {v u : V} (h : Sc d = some v) (r : Rep K L G d u) : u = v := by
  cases d <;> simp only [Sc, Option.some.injEq] at h <;> first | cases h | skip
  · exact rep_non.mp r
  · exact (rep_bl.mp r)
  · exact (rep_int.mp r)
  · exact (rep_str.mp r)
theorem oc_eqS {da db : D} {v u : V} (h1 : Sc da = some v) (h2 : Sc db = some u) (hs : scal v u = true := by rfl) : OpO X W (compareOp .Eq) da db μ (.ret (.bl (decide (v = u))) μ) :=
  opO_of op_eq fun σ x y H Q L G o r1 r2 c => by
    obtain rfl := Sc.rep h1 r1
    obtain rfl := Sc.rep h2 r2
    exact ⟨hs, CO.now (W := W) (σ := σ) c o (rep_bl.mpr rfl)⟩
theorem oc_neS {da db : D} {v u : V} (h1 : Sc da = some v) (h2 : Sc db = some u) (hs : scal v u = true := by rfl) : OpO X W (compareOp .NotEq) da db μ (.ret (.bl (!decide (v = u))) μ) :=
  opO_of op_ne fun σ x y H Q L G o r1 r2 c => by
    obtain rfl := Sc.rep h1 r1
    obtain rfl := Sc.rep h2 r2
    exact ⟨hs, CO.now (W := W) (σ := σ) c o (rep_bl.mpr rfl)⟩
theorem dec_int_eq (i j : Int) : decide (V.int i = V.int j) = decide (i = j) := by
  by_cases h : i = j
  · subst h; simp
  · rw [decide_eq_false h, decide_eq_false (fun z => h (by cases z; rfl))]
theorem dec_str_eq (i j : Str) : decide (V.str i = V.str j) = decide (i = j) := by
  by_cases h : i = j
  · subst h; simp
  · rw [decide_eq_false h, decide_eq_false (fun z => h (by cases z; rfl))]
theorem dec_bl_eq (i j : Bool) : decide (V.bl i = V.bl j) = decide (i = j) := by
  by_cases h : i = j
  · subst h; simp
  · rw [decide_eq_false h, decide_eq_false (fun z => h (by cases z; rfl))]
theorem oc_eq : OpO X W (compareOp .Eq) (.int i) (.int j) μ (.ret (.bl (decide (i = j))) μ) := by
  rw [← dec_int_eq]
  exact oc_eqS rfl rfl
theorem oc_ne : OpO X W (compareOp .NotEq) (.int i) (.int j) μ (.ret (.bl (!decide (i = j))) μ) := by
  rw [← dec_int_eq]
  exact oc_neS rfl rfl
theorem oc_eqT : OpO X W (compareOp .Eq) (.str x) (.str y) μ (.ret (.bl (decide (x = y))) μ) := by
  rw [← dec_str_eq]
  exact oc_eqS rfl rfl
theorem oc_neT : OpO X W (compareOp .NotEq) (.str x) (.str y) μ (.ret (.bl (!decide (x = y))) μ) := by
  rw [← dec_str_eq]
  exact oc_neS rfl rfl
theorem oc_eqB : OpO X W (compareOp .Eq) (.bl a) (.bl b) μ (.ret (.bl (decide (a = b))) μ) := by
  rw [← dec_bl_eq]
  exact oc_eqS rfl rfl
theorem oc_neB : OpO X W (compareOp .NotEq) (.bl a) (.bl b) μ (.ret (.bl (!decide (a = b))) μ) := by
  rw [← dec_bl_eq]
  exact oc_neS rfl rfl
/-- is None -/
def D.isN : D → Bool
  | .non => true
  | _ => false
theorem Rep.isN {K L G} {d : D} {v : V} (r : Rep K L G d v) : decide (v = .non) = d.isN := by
  cases d with
  | non => rw [rep_non.mp r]; rfl
  | bl b => rw [rep_bl.mp r]; rfl
  | int b => rw [rep_int.mp r]; rfl
  | str b => rw [rep_str.mp r]; rfl
  | ref b => rw [rep_ref.mp r]; rfl
  | ty b => rw [rep_ty.mp r]; rfl
  | loc n => obtain ⟨a, _, e⟩ := rep_loc.mp r; rw [e]; rfl
  | tup n => obtain ⟨a, _, e, _⟩ := rep_tup.mp r; rw [e]; rfl
  | lst n => obtain ⟨a, _, e, _⟩ := rep_lst.mp r; rw [e]; rfl
  | scr n => obtain ⟨a, _, e, _⟩ := rep_scr.mp r; rw [e]; rfl
  | obj C n f => obtain ⟨a, _, _, e, _⟩ := rep_obj.mp r; rw [e]; rfl
  | err C n f => obtain ⟨a, _, _, e, _⟩ := rep_err.mp r; rw [e]; rfl
  | exn a dd n f => obtain ⟨_, e, _⟩ := rep_exn.mp r; rw [e]; rfl
theorem oc_is {d : D} : OpO X W (compareOp .Is) d .non μ (.ret (.bl d.isN) μ) :=
  opO_of op_isN fun σ x y H Q L G o r1 r2 c => ⟨rep_non.mp r2, by rw [r1.isN]; exact CO.now (W := W) (σ := σ) c o (rep_bl.mpr rfl)⟩
theorem oc_isNot {d : D} : OpO X W (compareOp .IsNot) d .non μ (.ret (.bl (!d.isN)) μ) :=
  opO_of op_notN fun σ x y H Q L G o r1 r2 c => ⟨rep_non.mp r2, by rw [r1.isN]; exact CO.now (W := W) (σ := σ) c o (rep_bl.mpr rfl)⟩
end

/-! ### calls of built-ins by name -/
section
variable {X : Cx} {W : WX} {μ μ1 : List M} {ρ : Env'} {ds : List D} {o : FO} {e : Expr} {es : List Expr} {x : Str} {p pos : Pos} {id T : String} {i j : Int}
theorem ev_blt (ha : PA X (e :: es) (tVA X.K ρ μ ds μ1)) (hf : CallO X W (fun us => call (.builtin id) us) ds μ1 o) (hm : X.mg x = none) (hv : bootBuiltins x = some (.builtin id)) (hg : Gl X x := by rfl) (hn : x ≠ "__name__" := by decide) (hdb : (x == ("__debug__" : Str)) = false := by decide)
    (he : starEach (e :: es) X.env = (false, eval e X.env) :: starEach es X.env := by rfl) (hpl : (backTo pos (starEach es X.env)).any (·.1) = false := by rfl) : PE X (.Call (.Name x p) (e :: es) [] pos) (tO W X.K ρ μ o) :=
  ⟨fun pins s σ H Q I h => wpAny_Call_Name_kw (ld_blt I hg hm hv (PyProof.Rows.callWith_builtin1 (thn (argsO ha hf I h pos) fun us s1 h1 => h1.2) he hpl) hn hdb)⟩
theorem Reps.one {K L G} {d : D} {vs : List V} (r : Reps K L G [d] vs) : ∃ v, vs = [v] ∧ Rep K L G d v := by
  obtain ⟨v, q, rfl, r1, r2⟩ := r.inv_cons
  rw [r2.inv_nil]
  exact ⟨v, rfl, r1⟩
theorem Reps.two {K L G} {d c : D} {vs : List V} (r : Reps K L G [d, c] vs) : ∃ v u, vs = [v, u] ∧ Rep K L G d v ∧ Rep K L G c u := by
  obtain ⟨v, q, rfl, r1, r2⟩ := r.inv_cons
  obtain ⟨u, rfl, r3⟩ := r2.one
  exact ⟨v, u, rfl, r1, r3⟩
theorem cb_abs : CallO X W (fun us => call (.builtin "abs") us) [.int i] μ (.ret (.int (if i < 0 then -i else i)) μ) :=
  callO_of call_abs fun σ xs H Q L G o r c => by
    obtain ⟨v, rfl, r1⟩ := r.one
    exact ⟨i, by rw [rep_int.mp r1], CO.now (W := W) (σ := σ) c o (rep_int.mpr rfl)⟩
theorem cb_max (hc : X.calm = true) : CallO X W (fun us => call (.builtin "max") us) [.int i, .int j] μ (.ret (.int (if j > i then j else i)) μ) :=
  callO_of (call_max2 hc) fun σ xs H Q L G o r c => by
    obtain ⟨v, u, rfl, r1, r2⟩ := r.two
    exact ⟨i, j, by rw [rep_int.mp r1, rep_int.mp r2], CO.now (W := W) (σ := σ) c o (rep_int.mpr rfl)⟩
theorem cb_min (hc : X.calm = true) : CallO X W (fun us => call (.builtin "min") us) [.int i, .int j] μ (.ret (.int (if j < i then j else i)) μ) :=
  callO_of (call_min2 hc) fun σ xs H Q L G o r c => by
    obtain ⟨v, u, rfl, r1, r2⟩ := r.two
    exact ⟨i, j, by rw [rep_int.mp r1, rep_int.mp r2], CO.now (W := W) (σ := σ) c o (rep_int.mpr rfl)⟩
theorem ct_intB {b : Bool} : CallO X W (fun us => call (.type "int") us) [.bl b] μ (.ret (.int (if b then 1 else 0)) μ) :=
  callO_of call_int1 fun σ xs H Q L G o r c => by
    obtain ⟨v, rfl, r1⟩ := r.one
    exact .inr ⟨b, by rw [rep_bl.mp r1], CO.now (W := W) (σ := σ) c o (rep_int.mpr rfl)⟩
theorem ct_boolB {b : Bool} : CallO X W (fun us => call (.type "bool") us) [.bl b] μ (.ret (.bl b) μ) :=
  callO_of call_bool1 fun σ xs H Q L G o r c => by
    obtain ⟨v, rfl, r1⟩ := r.one
    exact .inr ⟨b, by rw [rep_bl.mp r1], CO.now (W := W) (σ := σ) c o (rep_bl.mpr rfl)⟩
theorem cb_len {ds : List D} (d : D) (h : d = .tup ds ∨ d = .lst ds ∨ d = .scr ds) : CallO X W (fun us => call (.builtin "len") us) [d] μ (.ret (.int ds.length) μ) :=
  callO_of call_len_seq fun σ xs H Q L G o r c => by
    obtain ⟨v, rfl, r1⟩ := r.one
    rcases h with rfl | rfl | rfl
    · obtain ⟨a, vs, e, q, rr⟩ := rep_tup.mp r1
      exact ⟨a, vs, by rw [e], .inr (Same.sqT o.sub q), by rw [rr.length]; exact CO.now (W := W) (σ := σ) c o (rep_int.mpr rfl)⟩
    · obtain ⟨a, vs, e, q, rr⟩ := rep_lst.mp r1
      exact ⟨a, vs, by rw [e], .inl (SqL.of (o.sub _ _ q)), by rw [rr.length]; exact CO.now (W := W) (σ := σ) c o (rep_int.mpr rfl)⟩
    · obtain ⟨a, vs, e, q, rr⟩ := rep_scr.mp r1
      exact ⟨a, vs, by rw [e], .inl (Same.sqL o.sub q), by rw [rr.length]; exact CO.now (W := W) (σ := σ) c o (rep_int.mpr rfl)⟩
theorem cb_lenL {ds : List D} {n : Nat} (h : μ[n]? = some (.lst ds)) : CallO X W (fun us => call (.builtin "len") us) [.loc n] μ (.ret (.int ds.length) μ) :=
  callO_of call_len_seq fun σ xs H Q L G o r c => by
    obtain ⟨v, rfl, r1⟩ := r.one
    obtain ⟨a, ea, e⟩ := rep_loc.mp r1
    obtain ⟨vs, eh, rr⟩ := o.at_ n a _ ea h
    exact ⟨a, vs, by rw [e], .inl (SqL.of eh), by rw [rr.length]; exact CO.now (W := W) (σ := σ) c o (rep_int.mpr rfl)⟩
/-- tuple(list), tuple(tuple) -/
theorem ct_tup {ds : List D} : CallO X W (fun us => call (.type "tuple") us) [.lst ds] μ (.ret (.tup ds) μ) :=
  callO_of call_tuple_of fun σ xs H Q L G o r c => by
    obtain ⟨v, rfl, r1⟩ := r.one
    obtain ⟨a, vs, e, q, rr⟩ := rep_lst.mp r1
    refine ⟨a, vs, by rw [e], .inl ⟨SqL.of (o.sub _ _ q), fun l hl => ?_⟩⟩
    obtain ⟨o', s'⟩ := o.new (o := .tup vs) hl
    exact c _ L _ _ s' o' (rep_tup.mpr ⟨l, vs, rfl, SqT.of upd_same, rr.step s'⟩)
theorem ct_tupL {ds : List D} {n : Nat} (h : μ[n]? = some (.lst ds)) : CallO X W (fun us => call (.type "tuple") us) [.loc n] μ (.ret (.tup ds) μ) :=
  callO_of call_tuple_of fun σ xs H Q L G o r c => by
    obtain ⟨v, rfl, r1⟩ := r.one
    obtain ⟨a, ea, e⟩ := rep_loc.mp r1
    obtain ⟨vs, eh, rr⟩ := o.at_ n a _ ea h
    refine ⟨a, vs, by rw [e], .inl ⟨SqL.of eh, fun l hl => ?_⟩⟩
    obtain ⟨o', s'⟩ := o.new (o := .tup vs) hl
    exact c _ L _ _ s' o' (rep_tup.mpr ⟨l, vs, rfl, SqT.of upd_same, rr.step s'⟩)
theorem ct_tupT {ds : List D} : CallO X W (fun us => call (.type "tuple") us) [.tup ds] μ (.ret (.tup ds) μ) :=
  callO_of call_tuple_of fun σ xs H Q L G o r c => by
    obtain ⟨v, rfl, r1⟩ := r.one
    obtain ⟨a, vs, e, q, rr⟩ := rep_tup.mp r1
    exact ⟨a, vs, by rw [e], .inr ⟨Same.sqT o.sub q, CO.now (W := W) (σ := σ) c o (by rw [← e]; exact r1)⟩⟩
/-- any, all of a list of bools -/
theorem bls_rep {K L G} : ∀ {bs : List Bool} {vs : List V}, Reps K L G (bs.map D.bl) vs → vs = bs.map V.bl
  | [], vs, r => r.inv_nil
  | b :: bs, vs, r => by
    obtain ⟨v, q, rfl, r1, r2⟩ := r.inv_cons
    rw [rep_bl.mp r1, bls_rep r2]
    rfl
theorem ints_reps {K L G} : ∀ (bs : List Int), Reps K L G (bs.map D.int) (bs.map V.int)
  | [] => Reps.nil
  | b :: bs => Reps.cons (rep_int.mpr rfl) (ints_reps bs)
theorem cb_all (hc : X.calm = true) {bs : List Bool} : CallO X W (fun us => call (.builtin "all") us) [.lst (bs.map D.bl)] μ (.ret (.bl (bs.all _root_.id)) μ) :=
  callO_of (cr_all hc) fun σ xs H Q L G o r c => by
    obtain ⟨v, rfl, r1⟩ := r.one
    obtain ⟨a, vs, e, q, rr⟩ := rep_lst.mp r1
    rw [bls_rep rr] at q
    exact ⟨a, bs, by rw [e], SqL.of (o.sub _ _ q), CO.now (W := W) (σ := σ) c o (rep_bl.mpr rfl)⟩
end

/-! ### displays, items -/
section
variable {X : Cx} {W : WX} {μ μ1 μ2 : List M} {ρ : Env'} {ds : List D} {d : D} {o : FO} {a b e : Expr} {es : List Expr} {pos : Pos} {i : Int}
/-- x[i] by values -/
theorem atI_rep {K L G} {ds : List D} {vs : List V} (r : Reps K L G ds vs) (h : atI ds i = some d) : ∃ v, atI vs i = some v ∧ Rep K L G d v := by
  unfold atI at h ⊢
  rw [r.length]
  cases e : ixN ds.length i with
  | none => rw [e] at h; cases h
  | some j =>
    rw [e] at h
    simp only [Option.bind_some] at h ⊢
    exact r.get h
/-- what can be indexed -/
def Ixd (μ : List M) (d : D) (ds : List D) : Prop := d = .tup ds ∨ d = .lst ds ∨ d = .scr ds ∨ ∃ n, d = .loc n ∧ μ[n]? = some (.lst ds)
end

/-! ### walks -/
section
variable {X : Cx} {W : WX} {μ μ1 μ2 : List M} {ρ : Env'} {ds : List D} {d : D} {e tg : Expr} {pos p : Pos} {i j : Int}
theorem jok_tup {K : PySem.W.Frag} {L : List Addr} {G : Hp} {a : Addr} {vs : List V} (q : SqT K G a vs) (r : Reps K L G ds vs) : JOk K (Itt K a) L G ds where
  go := fun L2 G2 H2 μ2 i d pr sg o e => by
    have q2 : SqT K H2 a vs := Same.sqT (sg.trans o.sub) q
    obtain ⟨v, ev, rv⟩ := r.get e
    exact ⟨⟨vs, v, q2, ev⟩, fun x H3 ⟨e3, y⟩ => by
      subst e3
      have := y vs q2
      rw [ev] at this
      cases this
      exact ⟨G2, .refl _ _ _, o, rv.mono pr sg⟩⟩
  stop := fun L2 G2 H2 μ2 pr sg o => ⟨vs, Same.sqT (sg.trans o.sub) q, by rw [r.length]; exact Nat.le_refl _⟩
theorem jok_lst {K : PySem.W.Frag} {L : List Addr} {G : Hp} {a : Addr} {vs : List V} (q : SqL K G a vs) (r : Reps K L G ds vs) : JOk K (Itl K a) L G ds where
  go := fun L2 G2 H2 μ2 i d pr sg o e => by
    have q2 : SqL K H2 a vs := Same.sqL (sg.trans o.sub) q
    obtain ⟨v, ev, rv⟩ := r.get e
    exact ⟨⟨vs, v, q2, ev⟩, fun x H3 ⟨e3, y⟩ => by
      subst e3
      have := y vs q2
      rw [ev] at this
      cases this
      exact ⟨G2, .refl _ _ _, o, rv.mono pr sg⟩⟩
  stop := fun L2 G2 H2 μ2 pr sg o => ⟨vs, Same.sqL (sg.trans o.sub) q, by rw [r.length]; exact Nat.le_refl _⟩
def rangeD (lo : Int) (n : Nat) : List D := (List.range n).map fun (k : Nat) => D.int (lo + (k : Int))
theorem jok_rng {K : PySem.W.Frag} {L : List Addr} {G : Hp} {lo : Int} {n : Nat} : JOk K (Itr lo n) L G (rangeD lo n) where
  go := fun L2 G2 H2 μ2 i d pr sg o e => by
    have hi : i < n := by
      have := (List.getElem?_eq_some_iff.mp e).1
      simpa [rangeD] using this
    have ed : d = D.int (lo + (i : Int)) := by
      unfold rangeD at e
      rw [List.getElem?_map, List.getElem?_range hi] at e
      simpa using e.symm
    exact ⟨hi, fun x H3 ⟨e3, y⟩ => by
      subst e3 y ed
      exact ⟨G2, .refl _ _ _, o, rep_int.mpr rfl⟩⟩
  stop := fun L2 G2 H2 μ2 pr sg o => by
    show n ≤ (rangeD lo n).length
    simp [rangeD]
end
end PM

set_option Elab.async false
set_option linter.all false
set_option maxRecDepth 100000
set_option maxHeartbeats 2000000
namespace PM
open PySem L2

/-! ### errors of the program's own: their __init__ -/
/-- what is asked of the class above, whose __init__ is called by name -/
structure UpC (K : PySem.W.Frag) (B : Addr) (id : String) : Prop where
  rd : PySem.W.readsIn K B (.type "type") = true
  ga : PySem.W.specialIn K (.ref B) "__getattribute__" = some (some (.builtin "type.__getattribute__"))
  fi : PySem.W.findCls K (.ref B) (.type "type") "__init__" = some (.val (.builtin id))
section
variable {X : Cx} {o e : Expr} {es : List Expr} {to te : TE} {ta : TA} {x : Str} {p p' p1 p2 pos : Pos} {B : Addr}
theorem pe_upinit {pl : Sem Bool} (hg : Gl X x) (hm : X.mg x = some (.ref B)) (u : UpC X.K B "ValueError.__init__") (ha : PA X (e :: es) ta) (hd : (x == ("__debug__" : Str)) = false := by decide)
    (hc : eval (.Call (.Attribute (.Name x p1) "__init__" p2) (e :: es) [] pos) X.env = (do
      let ov ← eval (.Name x p1) X.env
      standAt p2.atName
      let (f, first) ← holding [ov] (getMethod ov "__init__" pl)
      callWith pos f first (backTo pos (starEach (e :: es) X.env)) (backToKw pos (keywordEach [] X.env))) := by rfl)
    (he : starEach (e :: es) X.env = (false, eval e X.env) :: starEach es X.env := by rfl) (hpl : (backTo pos (starEach es X.env)).any (·.1) = false := by rfl) :
    PE X (.Call (.Attribute (.Name x p1) "__init__" p2) (e :: es) [] pos) (tVeI X.K ta) := by
  refine ⟨fun pins s σ H Q I h => ?_⟩
  refine PySem.W.methodCall_KW (ld_glob I hg hm ?_ hd) hc
  refine PySem.W.method_cls I.kIn u.ga (PySem.W.cls_value I.kIn u.rd u.fi rfl ?_)
  show wpAny _ _ (callWith pos (Value.builtin "ValueError.__init__") [] (backTo pos (starEach (e :: es) X.env)) []) _ _ _
  refine PyProof.Rows.callWith_method1 (thn (ha.run pos pins _ σ H _ (I.tok _) h) fun us s1 ⟨vs, H1, I1, r1, a, C, ws, ev, hl, T, ea, q⟩ => ?_) he hpl
  subst ev
  cases r1 with
  | @cons _ u0 _ ur ra rw' =>
    obtain rfl : u0 = Value.ref a := ra
    have hlen : ur.length ≤ sizeLine := by
      rw [← Paired.length rw', sizeLine_eq]
      omega
    exact oinit_ok T I1 ea hlen fun s' J => ⟨.non, H1, J, rfl, q⟩
end
/-- the promise of an __init__ that keeps its arguments in fields of those names: none, one, two -/
def spI1 (C : Addr) (f : Str) : Sp := fun vs H Q _ => ∃ (a : Addr) (v : V), vs = [.ref a, v] ∧ H a = some (exo a C none) ∧ ∀ dx, H dx = none → dx ≠ a → Q .non (upd (upd H dx (exd dx [(f, v)])) a (exo a C (some dx)))
def spI2 (C : Addr) (f g : Str) : Sp := fun vs H Q _ => ∃ (a : Addr) (v u : V), vs = [.ref a, v, u] ∧ H a = some (exo a C none) ∧ ∀ dx, H dx = none → dx ≠ a → Q .non (upd (upd (upd H dx (exd dx [(f, v)])) a (exo a C (some dx))) dx (exd dx [(g, u), (f, v)]))
section
variable {P : Program} {w : World} {K : PySem.W.Frag} {mg : Str → Option Value} {base : Heap}
/-- class E(B): def __init__(self, f): B.__init__(self); self.f = f; hb: pss_cons (ps_expr (pe_upinit rfl hm u (pa_cons (pv 0) pa_nil))) (pss_one (ps_ost (pv 0) (pv 1))) -/
theorem fn_I1 {xq qual : Str} {st : Stmt} {fI C : Addr} {fd : FuncData} {f : Str} (F : Fun K xq qual st fI fd) (S : FnScope ["self", f] ["self", f] (defScope st)) (T : OexC K C) (hno : PySem.W.findIn K (.ref C) f = some none)
    (hb : ∀ cdv A outer s H E, PSs (cxOf CX0 P w K mg base ["self", f] qual (defScope st) fI cdv A outer s H E).nox (defBody st) (tSeq (tDrop (tVeI K (tCons (tVar 0) tNil))) (tOst K f (tVar 0) (tVar 1)))) : FnOk P w K mg base CX0 1 fI fd ["self", f] (spI1 C f) := by
  refine F.ok S (fun vs H Q E h => ?_) (fun cdv A outer s H vs Q E hr h => ⟨_, hb cdv A outer s H E, ?_⟩)
  · obtain ⟨a, v, rfl, _⟩ := h
    rfl
  · obtain ⟨a, v, rfl, ha, k⟩ := h
    exact ⟨_, rfl, a, C, [], rfl, Nat.zero_le _, T, ha, _, rfl, _, rfl, a, C, rfl, T, hno, .inl ⟨ha, fun dx h1 h2 => k dx h1 h2⟩⟩
theorem fn_I2 {xq qual : Str} {st : Stmt} {fI C : Addr} {fd : FuncData} {f g : Str} (F : Fun K xq qual st fI fd) (S : FnScope ["self", f, g] ["self", f, g] (defScope st)) (T : OexC K C) (hno : PySem.W.findIn K (.ref C) f = some none) (hno2 : PySem.W.findIn K (.ref C) g = some none)
    (hb : ∀ cdv A outer s H E, PSs (cxOf CX0 P w K mg base ["self", f, g] qual (defScope st) fI cdv A outer s H E).nox (defBody st) (tSeq (tDrop (tVeI K (tCons (tVar 0) tNil))) (tSeq (tOst K f (tVar 0) (tVar 1)) (tOst K g (tVar 0) (tVar 2))))) : FnOk P w K mg base CX0 1 fI fd ["self", f, g] (spI2 C f g) := by
  refine F.ok S (fun vs H Q E h => ?_) (fun cdv A outer s H vs Q E hr h => ⟨_, hb cdv A outer s H E, ?_⟩)
  · obtain ⟨a, v, u, rfl, _⟩ := h
    rfl
  · obtain ⟨a, v, u', rfl, ha, k⟩ := h
    refine ⟨_, rfl, a, C, [], rfl, Nat.zero_le _, T, ha, _, rfl, _, rfl, a, C, rfl, T, hno, .inl ⟨ha, fun dx h1 h2 => ?_⟩⟩
    exact ⟨_, rfl, _, rfl, a, C, rfl, T, hno2, .inr ⟨dx, _, upd_same, by rw [upd_ne h2, upd_same], by show 1 ≤ 900; decide, k dx h1 h2⟩⟩
end
/-- an error class as its makers need it -/
structure ErrC (P : Program) (w : World) (K : PySem.W.Frag) (mg : Str → Option Value) (base : Heap) (C : Addr) (ns : List Str) : Prop where
  oex : OexC K C
  one : ∃ fI fd ps sp, PySem.W.findIn K (.ref C) "__init__" = some (some (.ref fI)) ∧ PySem.W.typeIn K (.ref fI) = some (.type "function") ∧ FnOk P w K mg base CX0 1 fI fd ps sp ∧ Binds K fd ps [] ∧
    ((∃ f, ns = [f] ∧ sp = spI1 C f) ∨ ∃ f g, ns = [f, g] ∧ f ≠ g ∧ sp = spI2 C f g)
section
variable {X : Cx} {W : WX} {k : Nat} {C : Addr} {ns : List Str} {ds : List D} {μ μ1 : List M} {ρ : Env'} {e : Expr} {es : List Expr} {x : Str} {p pos pos2 : Pos}
theorem xd_swap {f g : Str} {v u : V} (h : f ≠ g) : ∀ y : Str, List.lookup y [(g, u), (f, v)] = List.lookup y [(f, v), (g, u)] := fun y => by
  simp only [List.lookup]
  by_cases e1 : y = f
  · subst e1
    have : (y == g) = false := by simpa using h
    simp [this]
  · by_cases e2 : y = g
    · subst e2
      have : (y == f) = false := by simpa using e1
      simp [this]
    · have h1 : (y == f) = false := by simpa using e1
      have h2 : (y == g) = false := by simpa using e2
      simp [h1, h2]
/-- an exception's dict told another way -/
theorem xd_same {pins : List (Addr × Obj)} {σ : St} {H : Hp} {s : Shared} {d : Addr} {fs fs' : List (Str × V)} (I : Inv X pins σ H s) (e : H d = some (.xd fs)) (h : ∀ y, fs.lookup y = fs'.lookup y) : Inv X pins σ (upd H d (.xd fs')) s := by
  have eq : ∀ b o, upd H d (.xd fs') b = some o → (b = d ∧ o = .xd fs') ∨ (b ≠ d ∧ H b = some o) := fun b o q => by
    by_cases hb : b = d
    · subst hb
      rw [upd_same] at q
      exact .inl ⟨rfl, (Option.some.inj q).symm⟩
    · rw [upd_ne hb] at q
      exact .inr ⟨hb, q⟩
  have nd : ∀ {b : Addr} {o : HO}, H b = some o → o ≠ .xd fs → b ≠ d := fun {b o} q n z => by
    rw [z, e] at q
    exact n (Option.some.inj q).symm
  refine I.un (h' := s.heap) (t' := s.toks) ⟨fun b o q n _ _ => q, fun b o q n _ _ => ⟨o.slots, q⟩, fun b o q n _ => ?_, fun b o q _ => ⟨o, q⟩, fun b xs q => ?_, fun b o u q => ?_, fun b ps q => ⟨#[], ?_⟩⟩ fun b o q => ?_
  · rw [upd_ne (fun z => by rw [z, e] at n; cases n)]
    exact n
  · rw [upd_ne (nd q (by intro z; cases z))]
    exact q
  · rw [upd_ne (nd q (by intro z; cases z))]
    exact q
  · rw [upd_ne (nd q (by intro z; cases z)), q]
    simp
  · rcases eq b o q with ⟨rfl, rfl⟩ | ⟨hb, q⟩
    · obtain ⟨mA, hn, r⟩ := (show ObjOk X.prog X.w H s.heap b (.xd fs) from I.hok b _ e)
      exact ⟨mA, hn, fun y => by rw [← h y]; exact r y⟩
    · exact (I.hok b o q).stay (fun _ _ _ z => z) (fun c z => by rw [upd_ne (nd z (by intro y; cases y))]; exact z) fun c xs z => by rw [upd_ne (nd z (by intro y; cases y))]; exact z
/-- raise C(e, ..) -/
theorem es_raise (g : Gd X W k) (c : ErrC X.prog X.w X.K X.mg X.base C ns) (hm : X.mg x = some (.ref C)) (ha : PA X (e :: es) (tVA X.K ρ μ ds μ1)) (hn : ns.length = ds.length) (hk : 2 ≤ k := by decide) (hg : Gl X x := by rfl) (hdb : (x == ("__debug__" : Str)) = false := by decide)
    (he : starEach (e :: es) X.env = (false, eval e X.env) :: starEach es X.env := by rfl) (hpl : (backTo pos (starEach es X.env)).any (·.1) = false := by rfl) :
    PS X (.Raise (some (.Call (.Name x p) (e :: es) [] pos)) none pos2) (tS W X.K ρ μ (.exc C ns ds ρ μ1)) := by
  obtain ⟨fI, fd, ps, sp, hi, ht, F, bd, h⟩ := c.one
  have mk : PMk X (.Call (.Name x p) (e :: es) [] pos) (fun σ H Q => tMkO C sp [] (tVA X.K ρ μ ds μ1) σ H Q) := pmk_oex c.oex hi ht F (g.hr.mono hk) bd .nil pass0 hg hm ha hdb he hpl
  rcases h with ⟨f, rfl, rfl⟩ | ⟨f, f2, rfl, hne, rfl⟩
  · refine ps_of (ps_raise g.calm g.tk mk) fun D σ H ⟨L, G, n, co⟩ => ⟨L, G, n, fun vs L1 G1 H1 s1 o1 r1 => ?_⟩
    match ds, hn with
    | [d], _ =>
      obtain ⟨v, rfl, rv⟩ := r1.one
      refine ⟨by show 1 ≤ 1000; decide, fun a hna => ⟨a, v, rfl, upd_same, fun dx hdx hne => ⟨rfl, dx, [(f, v)], upd_same, by rw [upd_ne hne, upd_same], ?_, ?_⟩⟩⟩
      · rw [upd_ne hne] at hdx
        exact hdx
      · have hdx' : H1 dx = none := by rw [upd_ne hne] at hdx; exact hdx
        have eH : upd (del (upd (upd (upd H1 a (exo a C none)) dx (exd dx [(f, v)])) a (exo a C (some dx))) a) dx (.xd [(f, v)]) = upd H1 dx (.xd [(f, v)]) := by
          funext b
          by_cases hb : b = dx
          · rw [hb, upd_same, upd_same]
          · rw [upd_ne hb, upd_ne hb]
            by_cases hba : b = a
            · rw [hba, del_same, hna]
            · rw [del_ne hba, upd_ne hba, upd_ne hb, upd_ne hba]
        rw [eH]
        obtain ⟨o2, s2⟩ := o1.new (o := .xd [(f, v)]) hdx'
        exact co σ (some dx) L1 _ _ (s1.trans s2) ⟨o2, (n.env.step s1).step s2⟩ ⟨rfl, .inr ⟨dx, [v], rfl, upd_same, Reps.cons (rv.step s2) Reps.nil⟩⟩
  · refine ps_of (ps_raise g.calm g.tk (t := fun σ H Q => tVA X.K ρ μ ds μ1 σ H fun vs H1 => ∃ v u, vs = [v, u] ∧ ∀ dx, H1 dx = none → Q (.ref C) (some dx) (upd H1 dx (.xd [(f, v), (f2, u)]))) ?_) fun D σ H ⟨L, G, n, co⟩ => ⟨L, G, n, fun vs L1 G1 H1 s1 o1 r1 => ?_⟩
    · intro pins s σ H Q I h
      refine thn (mk pins s σ H (fun c d H' => c = .ref C ∧ ∃ dx v u H1, d = some dx ∧ H1 dx = none ∧ H' = upd H1 dx (.xd [(f2, u), (f, v)]) ∧ Q (.ref C) (some dx) (upd H1 dx (.xd [(f, v), (f2, u)]))) I ?_) fun u s' hu => ?_
      · obtain ⟨L, G, n, co⟩ := h
        refine ⟨L, G, n, fun vs L1 G1 H1 s1 o1 r1 => ?_⟩
        obtain ⟨v, u, rfl, q⟩ := co vs L1 G1 H1 s1 o1 r1
        refine ⟨by show 2 ≤ 1000; decide, fun a hna => ⟨a, v, u, rfl, upd_same, fun dx hdx hne => ⟨rfl, dx, [(f2, u), (f, v)], ?_, upd_same, ?_, rfl, dx, v, u, H1, rfl, ?_, ?_, ?_⟩⟩⟩
        · rw [upd_ne (Ne.symm hne), upd_same]
        · rw [upd_ne hne] at hdx; exact hdx
        · rw [upd_ne hne] at hdx; exact hdx
        · funext b
          by_cases hb : b = dx
          · rw [hb, upd_same, upd_same]
          · rw [upd_ne hb, upd_ne hb]
            by_cases hba : b = a
            · rw [hba, del_same, hna]
            · rw [del_ne hba, upd_ne hb, upd_ne hba, upd_ne hb, upd_ne hba]
        · exact q dx (by rw [upd_ne hne] at hdx; exact hdx)
      · obtain ⟨a, oe, fv, sI, H', cls, d, e1, J, k1, k2, k3, k4, k5, k6, k7, k8, k9, k10, rfl, dx, v, u', H1, rfl, hd1, rfl, q⟩ := hu
        refine ⟨a, oe, fv, sI, _, .ref C, some dx, e1, (xd_same J upd_same (xd_swap (Ne.symm (Ne.symm hne)))), k1, k2, k3, k4, k5, k6, ?_, k8, k9, k10, ?_⟩
        · rw [upd_upd]
          by_cases ha : a = dx
          · subst ha
            rw [upd_same] at k7
            cases k7
          · rw [upd_ne ha] at k7 ⊢
            exact k7
        · rw [upd_upd]
          exact q
    · match ds, hn with
      | [d1, d2], _ =>
        obtain ⟨v, u, rfl, rv, ru⟩ := r1.two
        refine ⟨v, u, rfl, fun dx hdx => ?_⟩
        obtain ⟨o2, s2⟩ := o1.new (o := .xd [(f, v), (f2, u)]) hdx
        exact co σ (some dx) L1 _ _ (s1.trans s2) ⟨o2, (n.env.step s1).step s2⟩ ⟨rfl, .inr ⟨dx, [v, u], rfl, upd_same, Reps.cons (rv.step s2) (Reps.cons (ru.step s2) Reps.nil)⟩⟩
end

/-! ### try -/
section
variable {X : Cx} {W : WX} {k i : Nat} {C C' : Addr} {ns : List Str} {ds : List D} {μ μ1 μ2 : List M} {ρ ρ1 ρ2 : Env'} {x n : Str} {np pos pos' : Pos} {body suite : List Stmt} {b₀ : Stmt} {q : Out}
/-- what follows a suite: the name is gone -/
def Out.gone (i : Nat) : Out → Out
  | .next ρ μ => .next (ρ.set i none) μ
  | .brk ρ μ => .brk (ρ.set i none) μ
  | .cont ρ μ => .cont (ρ.set i none) μ
  | q => q
theorem RepS.unset {K : PySem.W.Frag} {L : List Addr} {G : Hp} {ρ : Env'} {σ : St} (h : RepS K L G ρ σ) (i : Nat) : RepS K L G (ρ.set i none) (σ.set i none) := by
  refine ⟨by simpa using h.len, fun j e hj => ?_⟩
  by_cases hi : i = j
  · subst hi
    by_cases hl : i < ρ.length
    · rw [List.getElem?_set_self hl] at hj
      cases hj
    · rw [List.getElem?_eq_none (by simpa using hl)] at hj
      cases hj
  · rw [List.getElem?_set_ne hi] at hj ⊢
    exact h.at_ j e hj
end
end PM

set_option Elab.async false
set_option linter.all false
set_option maxRecDepth 100000
set_option maxHeartbeats 2000000
namespace PM
open PySem L2

/-! ### an own class -/
structure OwnC (K : PySem.W.Frag) (C : Addr) : Prop where
  cl : Cls K C
  ca : PySem.W.findIn K (.ref C) "__class__" = some (some (.builtin "object.__class__"))
  cg : PySem.W.specialIn K (.builtin "object.__class__") "__get__" = some (some (.builtin "getset_descriptor.__get__"))
  ct : PySem.W.takesIn K (.builtin "object.__class__") = some true
  mro : (PySem.W.clsIn K C).map (·.mro) = some [.ref C, .type "object"]
  ty : PySem.W.typeIn K (.ref C) = some (.type "type")
section
variable {K : PySem.W.Frag} {C : Addr}
theorem OwnC.cd (c : OwnC K C) : ∃ cd, PySem.W.clsIn K C = some cd ∧ cd.mro = [.ref C, .type "object"] := by
  have h := c.mro
  cases e : PySem.W.clsIn K C with
  | none => rw [e] at h; cases h
  | some cd =>
    rw [e] at h
    exact ⟨cd, rfl, Option.some.inj h⟩
theorem OwnC.mroIn (c : OwnC K C) (b : Value) : PySem.W.mroIn K C b = some ([Value.ref C, .type "object"].contains b) := by
  obtain ⟨cd, e, m⟩ := c.cd
  unfold PySem.W.mroIn
  rw [e, Option.bind_some, m]
  rfl
theorem OwnC.self (c : OwnC K C) : PySem.W.selfFirst K C = true := by
  obtain ⟨cd, e, m⟩ := c.cd
  unfold PySem.W.selfFirst
  rw [e, Option.any_some, m]
  simp
theorem OwnC.isCls (c : OwnC K C) : PySem.W.isClsIn K C = true := by
  obtain ⟨cd, e, m⟩ := c.cd
  unfold PySem.W.isClsIn
  rw [e]
  rfl
/-- a value's type -/
inductive TyD (K : PySem.W.Frag) : D → Value → Prop
  | non : TyD K .non (.type "NoneType")
  | bl {b : Bool} : TyD K (.bl b) (.type "bool")
  | int {i : Int} : TyD K (.int i) (.type "int")
  | str {x : Str} : TyD K (.str x) (.type "str")
  | tup {ds : List D} : TyD K (.tup ds) (.type "tuple")
  | lst {ds : List D} : TyD K (.lst ds) (.type "list")
  | obj {C : Addr} {ns : List Str} {ds : List D} : OwnC K C → TyD K (.obj C ns ds) (.ref C)
theorem TyD.x {L : List Addr} {G H : Hp} {μ : List M} {d : D} {t : Value} {v : V} (ok : Ok K L G H μ) (y : TyD K d t) (r : Rep K L G d v) : TyX K H v t := by
  cases y with
  | non => rw [rep_non.mp r]; exact .base .non
  | bl => rw [rep_bl.mp r]; exact .base (.bl _)
  | int => rw [rep_int.mp r]; exact .base (.int _)
  | str => rw [rep_str.mp r]; exact .base (.str _)
  | tup =>
    obtain ⟨a, vs, rfl, q, _⟩ := rep_tup.mp r
    rcases Same.sqT ok.sub q with (h | ⟨o, h⟩) | ⟨o, its, n, h, hc, _⟩
    · exact .base (.tup h)
    · exact .fTuple h
    · exact .kTuple h hc
  | lst =>
    obtain ⟨a, vs, rfl, q, _⟩ := rep_lst.mp r
    exact .base (.lst (ok.sub _ _ q))
  | obj c =>
    obtain ⟨a, dx, vs, rfl, q, _⟩ := rep_obj.mp r
    exact .base (.ins (ok.sub _ _ q) c.cl c.ca c.cg c.ct (by rw [c.mroIn]; simp))
/-- isinstance by types -/
theorem kit_own_self : PySem.W.kitOne K (.ref C) (.ref C) = some true := by
  unfold PySem.W.kitOne
  rw [if_pos (by simp)]
theorem kit_own_ty (c : OwnC K C) {T : String} (hm : PySem.W.kitMeta T = true) (hT : T ≠ "object") : PySem.W.kitOne K (.ref C) (.type T) = some false := by
  have e : ([Value.ref C, .type "object"].contains (.type T)) = false := by
    simp only [List.contains_cons, List.contains_nil, Bool.or_false, Bool.or_eq_false_iff, beq_eq_false_iff_ne]
    exact ⟨(by intro z; cases z), (by intro z; cases z; exact hT rfl)⟩
  unfold PySem.W.kitOne
  rw [if_neg (by simp)]
  show (if PySem.W.kitMeta T = true then PySem.W.subIn K (.ref C) (.type T) else none) = some false
  rw [if_pos hm]
  show PySem.W.mroIn K C (.type T) = some false
  rw [c.mroIn, e]
theorem kit_ty_own (c : OwnC K C) {T : String} {l : List Value} (hl : PySem.fastBuiltinMro T = some l) (hn : l.all (fun v => match v with | .type _ => true | _ => false) = true) : PySem.W.kitOne K (.type T) (.ref C) = some false := by
  have e : l.contains (.ref C) = false := by
    rw [List.contains_eq_any_beq, List.any_eq_false]
    intro v hv
    have := List.all_eq_true.mp hn v hv
    cases v <;> simp at this ⊢
  unfold PySem.W.kitOne
  rw [if_neg (by simp)]
  show (if ((PySem.W.clsIn K C).isSome && PySem.W.typeIn K (.ref C) == some (.type "type")) = true then PySem.W.subIn K (.type T) (.ref C) else none) = some false
  have hc : (PySem.W.clsIn K C).isSome = true := c.isCls
  rw [hc, c.ty, if_pos (by simp)]
  show (PySem.fastBuiltinMro T).map (·.contains (.ref C)) = some false
  rw [hl, Option.map_some, e]
/-- two own classes -/
theorem kit_own_own {C' : Addr} (c : OwnC K C) (c' : OwnC K C') (h : C ≠ C') : PySem.W.kitOne K (.ref C) (.ref C') = some false := by
  have e : ([Value.ref C, .type "object"].contains (.ref C')) = false := by
    simp only [List.contains_cons, List.contains_nil, Bool.or_false, Bool.or_eq_false_iff, beq_eq_false_iff_ne]
    exact ⟨(by intro z; cases z; exact h rfl), (by intro z; cases z)⟩
  unfold PySem.W.kitOne
  rw [if_neg (by simp [h])]
  show (if ((PySem.W.clsIn K C').isSome && PySem.W.typeIn K (.ref C') == some (.type "type")) = true then PySem.W.subIn K (.ref C) (.ref C') else none) = some false
  have hc : (PySem.W.clsIn K C').isSome = true := c'.isCls
  rw [hc, c'.ty, if_pos (by simp)]
  show PySem.W.mroIn K C (.ref C') = some false
  rw [c.mroIn, e]
end
/-- the class that is asked for -/
inductive ClD : D → Value → Prop
  | ty (n : String) : ClD (.ty n) (.type n)
  | own (C : Addr) : ClD (.ref C) (.ref C)
section
variable {X : Cx} {W : WX} {μ μ1 μ2 : List M} {ρ : Env'} {d c : D} {b : Bool} {t u : Value}
theorem cb_isi (y : TyD X.K d t) (k : ClD c u) (h : PySem.W.kitOne X.K t u = some b) : CallO X W (fun us => call (.builtin "isinstance") us) [d, c] μ (.ret (.bl b) μ) :=
  callO_of call_isi fun σ xs H Q L G o r co => by
    obtain ⟨v, w, rfl, r1, r2⟩ := r.two
    cases k with
    | ty n => exact ⟨v, .ty n, t, _, b, by rw [rep_ty.mp r2], .ty n, y.x o r1, h, CO.now (W := W) (σ := σ) co o (rep_bl.mpr rfl)⟩
    | own C => exact ⟨v, .ref C, t, _, b, by rw [rep_ref.mp r2], .own C, y.x o r1, h, CO.now (W := W) (σ := σ) co o (rep_bl.mpr rfl)⟩
end
theorem mro_int : PySem.fastBuiltinMro "int" = some [.type "int", .type "object"] := by decide +kernel
theorem mro_str : PySem.fastBuiltinMro "str" = some [.type "str", .type "object"] := by decide +kernel
theorem mro_bool : PySem.fastBuiltinMro "bool" = some [.type "bool", .type "int", .type "object"] := by decide +kernel
theorem mro_non : PySem.fastBuiltinMro "NoneType" = some [.type "NoneType", .type "object"] := by decide +kernel
theorem mro_tup : PySem.fastBuiltinMro "tuple" = some [.type "tuple", .type "object"] := by decide +kernel
theorem mro_lst : PySem.fastBuiltinMro "list" = some [.type "list", .type "object"] := by decide +kernel

/-! ### own operators -/
section
variable {X : Cx} {W : WX} {k j : Nat} {ps : List Str} {R : Rl} {f C : Addr} {fd : FuncData} {μ : List M} {o : FO} {da db : D} {ns : List Str} {fs : List D}
theorem back {pins : List (Addr × Obj)} {σ : St} {Q : VK} {u : Value} {s' : Shared} (h : EP X pins σ Q u s') : PySem.W.CmpBack (EP X pins σ Q) u s' := by
  obtain ⟨v, H', I, r, q⟩ := id h
  cases v with
  | non => cases r; exact h
  | bl b => cases r; exact h
  | int i => obtain ⟨t, rfl⟩ := r; exact h
  | str i => obtain ⟨t, rfl⟩ := r; exact h
  | byt i => obtain ⟨t, rfl⟩ := r; exact h
  | flt i => obtain ⟨t, rfl⟩ := r; exact h
  | ref a => cases r; exact h
  | ty n => cases r; exact h
end

/-! ### properties -/
section
variable {X : Cx} {W : WX} {k j : Nat} {ps : List Str} {R : Rl} {f C p g : Addr} {fd : FuncData} {μ μ1 μ2 : List M} {ρ : Env'} {d d' : D} {e : Expr} {m : Str} {pos : Pos} {ds : List D} {o : FO} {es : List Expr} {apos : Pos}
/-! ### class methods -/
end
end PM

set_option Elab.async false
set_option linter.all false
set_option maxRecDepth 100000
set_option maxHeartbeats 2000000
namespace PM
open PySem L2

/-! ### comprehensions -/
def gW (K : PySem.W.Frag) (vs : List Nat) (μ : List M) (d : D) (ρ ρ' : Env') : TG := fun v σ H Q => ∃ L G, Now K L G H μ ρ σ ∧ Rep K L G d v ∧ ∀ σ' L' G' H', Step L G H L' G' H' → Now K L' G' H' μ ρ' σ' → wipe σ' vs = wipe σ vs → Q σ' H'
def gWs (K : PySem.W.Frag) (vs : List Nat) (μ : List M) (ds : List D) (ρ ρ' : Env') : TGs := fun us σ H Q => ∃ L G, Now K L G H μ ρ σ ∧ Reps K L G ds us ∧ ∀ σ' L' G' H', Step L G H L' G' H' → Now K L' G' H' μ ρ' σ' → wipe σ' vs = wipe σ vs → Q σ' H'
theorem wipe_get (σ : St) : ∀ (vs : List Nat) (j : Nat), j ∈ vs → j < σ.length → (wipe σ vs)[j]? = some none
  | [], _, h, _ => by simp at h
  | v :: vs, j, h, hl => by
    unfold wipe
    by_cases e : v = j
    · subst e
      rw [List.getElem?_set_self (by rw [wipe_length]; exact hl)]
    · rw [List.getElem?_set_ne e]
      exact wipe_get σ vs j (by
        rcases List.mem_cons.mp h with z | z
        · exact (e z.symm).elim
        · exact z) hl
theorem wipe_other (σ : St) : ∀ (vs : List Nat) (j : Nat), j ∉ vs → (wipe σ vs)[j]? = σ[j]?
  | [], _, _ => rfl
  | v :: vs, j, h => by
    unfold wipe
    rw [List.getElem?_set_ne (fun e => h (by rw [e]; exact List.mem_cons_self ..))]
    exact wipe_other σ vs j fun z => h (List.mem_cons_of_mem _ z)
theorem wipe_set {σ : St} {vs : List Nat} {i : Nat} {x : Option V} (h : i ∈ vs) : wipe (σ.set i x) vs = wipe σ vs := by
  apply List.ext_getElem?
  intro j
  by_cases hj : j ∈ vs
  · by_cases hl : j < σ.length
    · rw [wipe_get _ vs j hj (by simpa using hl), wipe_get _ vs j hj hl]
    · rw [List.getElem?_eq_none (by rw [wipe_length]; simpa using hl), List.getElem?_eq_none (by rw [wipe_length]; omega)]
  · rw [wipe_other _ vs j hj, wipe_other _ vs j hj, List.getElem?_set_ne (fun e => hj (by rw [← e]; exact h))]
theorem wipe_idem (σ : St) (vs : List Nat) : wipe (wipe σ vs) vs = wipe σ vs := by
  apply List.ext_getElem?
  intro j
  by_cases hj : j ∈ vs
  · by_cases hl : j < σ.length
    · rw [wipe_get _ vs j hj (by rw [wipe_length]; exact hl), wipe_get _ vs j hj hl]
    · rw [List.getElem?_eq_none (by rw [wipe_length, wipe_length]; omega), List.getElem?_eq_none (by rw [wipe_length]; omega)]
  · rw [wipe_other _ vs j hj]
/-- the block's own names forgotten -/
def wipeD (ρ : Env') : List Nat → Env'
  | [] => ρ
  | v :: vs => (wipeD ρ vs).set v none
theorem RepS.wipe {K : PySem.W.Frag} {L : List Addr} {G : Hp} {ρ : Env'} {σ : St} (h : RepS K L G ρ σ) : ∀ vs, RepS K L G (wipeD ρ vs) (L2.wipe σ vs)
  | [] => h
  | v :: vs => by
    unfold wipeD L2.wipe
    exact (RepS.wipe h vs).unset v
section
variable {X : Cx} {e : Expr} {es : List Expr} {pos : Pos} {ρ ρ1 ρ2 : Env'} {μ : List M} {d : D} {ds : List D} {x : Str} {vs : List Nat}
theorem ew_name (i : Nat) (nd : X.N.Nodup) (hv : i ∈ vs := by decide) (hi : X.N[i]? = some x := by rfl) (hx : Loc X.env.scope x := by first | exact Or.inl rfl | exact Or.inr rfl) (hf : X.fn x = true ∨ X.env.scope.names.lookup x = some .local := by first | exact .inl rfl | exact .inr rfl | assumption) :
    PG X (.Name x pos) (gW X.K vs μ d ρ (ρ.set i (some d))) :=
  pg_of (pg_name nd hi hx hf) fun v σ H Q ⟨L, G, n, r, c⟩ => c _ L G H (.refl _ _ _) ⟨n.ok, n.env.set r i⟩ (wipe_set hv)
end
/-- the block's place -/
abbrev BlkAll (X : Cx) (scope : Scope) (P : Cx → Prop) : Prop := ∀ (s : Shared) (H : Hp) (C : Addr) (cl : List (Str × Addr)) (fp : List Addr), P (X.blk s H scope (compEnvC scope cl C X.env) fp)
theorem Gd.blk {X : Cx} {W : WX} {k : Nat} (g : Gd X W k) {s : Shared} {H : Hp} {scope : Scope} {env : Env} {fp : List Addr} : Gd (X.blk s H scope env fp) W0 k := ⟨g.calm, g.nd, takes0, PassesOwn.never, g.hr, g.gr⟩
/-- what a comprehension makes of ds; vs: the slots of its own names -/
inductive EvC (X : Cx) (scope : Scope) (vs : List Nat) (tg elt : Expr) (ifs : List Expr) (ρ : Env') : List D → List M → List D → List M → Prop
  | nil {μ : List M} : EvC X scope vs tg elt ifs ρ [] μ [] μ
  | keep {d y : D} {ds ys : List D} {ρ1 : Env'} {μ μ1 μ2 μ3 : List M} : BlkAll X scope (fun Y => PG Y tg (gW X.K vs μ d (wipeD ρ vs) ρ1)) → BlkAll X scope (fun Y => PTs Y ifs (tVT X.K ρ1 μ true μ1)) → BlkAll X scope (fun Y => PE Y elt (tV X.K ρ1 μ1 y μ2)) →
      EvC X scope vs tg elt ifs ρ ds μ2 ys μ3 → EvC X scope vs tg elt ifs ρ (d :: ds) μ (y :: ys) μ3
  | skip {d : D} {ds ys : List D} {ρ1 : Env'} {μ μ1 μ3 : List M} : BlkAll X scope (fun Y => PG Y tg (gW X.K vs μ d (wipeD ρ vs) ρ1)) → BlkAll X scope (fun Y => PTs Y ifs (tVT X.K ρ1 μ false μ1)) →
      EvC X scope vs tg elt ifs ρ ds μ1 ys μ3 → EvC X scope vs tg elt ifs ρ (d :: ds) μ ys μ3
theorem EvC.len {X : Cx} {scope : Scope} {vs : List Nat} {tg elt : Expr} {ifs : List Expr} {ρ : Env'} {ds ys : List D} {μ μ' : List M} (h : EvC X scope vs tg elt ifs ρ ds μ ys μ') : ys.length ≤ ds.length := by
  induction h with
  | nil => exact Nat.le_refl _
  | keep _ _ _ _ ih => simpa using ih
  | skip _ _ _ ih => exact Nat.le_succ_of_le ih
section
variable {X : Cx} {W : WX} {k : Nat} {elt tg iter : Expr} {ifs : List Expr} {scope : Scope} {own : List (Str × Nat)} {pos : Pos} {ρ : Env'} {μ μ1 μ2 : List M} {ds ys : List D}
def aPTs (X : Cx) (ifs : List Expr) : TT := fun σ H Q => ∃ t, PTs X ifs t ∧ t σ H Q
/-- a reading that holds in every block -/
def bG (X : Cx) (scope : Scope) (e : Expr) : TG := fun v σ H Q => ∃ t, BlkAll X scope (fun Y => PG Y e t) ∧ t v σ H Q
def bT (X : Cx) (scope : Scope) (ifs : List Expr) : TT := fun σ H Q => ∃ t, BlkAll X scope (fun Y => PTs Y ifs t) ∧ t σ H Q
def bE (X : Cx) (scope : Scope) (e : Expr) : TE := fun σ H Q => ∃ t, BlkAll X scope (fun Y => PE Y e t) ∧ t σ H Q
end
end PM

set_option Elab.async false
set_option linter.all false
set_option maxRecDepth 100000
set_option maxHeartbeats 2000000
namespace PM
open PySem L2

/-! ### plain data -/
mutual
def D.py : D → Option PyData
  | .non => some .none
  | .bl b => some (.bool b)
  | .int i => some (.int i)
  | .str x => some (.str x)
  | .tup ds => (D.pys ds).map .tuple
  | .lst ds => (D.pys ds).map .list
  | .scr ds => (D.pys ds).map .list
  | .ref _ => none
  | .ty _ => none
  | .loc _ => none
  | .exn _ _ _ _ => none
  | .obj _ _ _ => none
  | .err _ _ _ => none
def D.pys : List D → Option (List PyData)
  | [] => some []
  | d :: ds => (D.py d).bind fun p => (D.pys ds).map fun ps => p :: ps
end
section
variable {K : PySem.W.Frag} {L : List Addr} {G H : Hp}
mutual
theorem Rep.dp (hs : Same G H) : ∀ {d : D} {v : V} {p : PyData}, Rep K L G d v → D.py d = some p → Dp K H v p
  | .non, v, p, r, h => by rw [rep_non.mp r]; simp only [D.py, Option.some.injEq] at h; subst h; exact .non
  | .bl b, v, p, r, h => by rw [rep_bl.mp r]; simp only [D.py, Option.some.injEq] at h; subst h; exact .bl b
  | .int b, v, p, r, h => by rw [rep_int.mp r]; simp only [D.py, Option.some.injEq] at h; subst h; exact .int b
  | .str b, v, p, r, h => by rw [rep_str.mp r]; simp only [D.py, Option.some.injEq] at h; subst h; exact .str b
  | .tup ds, v, p, r, h => by
    simp only [D.py, Option.map_eq_some_iff] at h
    obtain ⟨ps, h1, rfl⟩ := h
    obtain ⟨a, vs, rfl, q, rr⟩ := rep_tup.mp r
    exact .tup (Same.sqT hs q) (Reps.dp hs rr h1)
  | .lst ds, v, p, r, h => by
    simp only [D.py, Option.map_eq_some_iff] at h
    obtain ⟨ps, h1, rfl⟩ := h
    obtain ⟨a, vs, rfl, q, rr⟩ := rep_lst.mp r
    exact .lst (SqL.of (hs _ _ q)) (Reps.dp hs rr h1)
  | .scr ds, v, p, r, h => by
    simp only [D.py, Option.map_eq_some_iff] at h
    obtain ⟨ps, h1, rfl⟩ := h
    obtain ⟨a, vs, rfl, q, rr⟩ := rep_scr.mp r
    exact .lst (Same.sqL hs q) (Reps.dp hs rr h1)
  | .ref _, _, _, _, h => by simp only [D.py] at h; cases h
  | .ty _, _, _, _, h => by simp only [D.py] at h; cases h
  | .loc _, _, _, _, h => by simp only [D.py] at h; cases h
  | .exn _ _ _ _, _, _, _, h => by simp only [D.py] at h; cases h
  | .obj _ _ _, _, _, _, h => by simp only [D.py] at h; cases h
  | .err _ _ _, _, _, _, h => by simp only [D.py] at h; cases h
theorem Reps.dp (hs : Same G H) : ∀ {ds : List D} {vs : List V} {ps : List PyData}, Reps K L G ds vs → D.pys ds = some ps → DpAll K H vs ps
  | [], vs, ps, r, h => by
    rw [r.inv_nil]
    simp only [D.pys, Option.some.injEq] at h
    subst h
    exact .nil
  | d :: ds, vs, ps, r, h => by
    obtain ⟨v, q, rfl, r1, r2⟩ := r.inv_cons
    simp only [D.pys, Option.bind_eq_some_iff, Option.map_eq_some_iff] at h
    obtain ⟨p, h1, ps', h2, rfl⟩ := h
    exact .cons (Rep.dp hs r1 h1) (Reps.dp hs r2 h2)
end
end
section
variable {X : Cx} {W : WX} {k : Nat} {μ : List M} {da db : D} {p q : PyData}
theorem oc_eqD (g : Gd X W k) (h1 : D.py da = some p) (h2 : D.py db = some q) (s1 : SeqAt.shaped p = true) (s2 : SeqAt.shaped q = true) : OpO X W (compareOp .Eq) da db μ (.ret (.bl (PyData.eqv p q)) μ) :=
  opO_of (op_eqD (by have := g.hr.un; omega)) fun σ x y H Q L G o r1 r2 c => ⟨p, q, r1.dp o.sub h1, r2.dp o.sub h2, s1, s2, CO.now (W := W) (σ := σ) c o (rep_bl.mpr rfl)⟩
theorem oc_neD (g : Gd X W k) (h1 : D.py da = some p) (h2 : D.py db = some q) (s1 : SeqAt.shaped p = true) (s2 : SeqAt.shaped q = true) : OpO X W (compareOp .NotEq) da db μ (.ret (.bl (!PyData.eqv p q)) μ) :=
  opO_of (op_neD (by have := g.hr.un; omega)) fun σ x y H Q L G o r1 r2 c => ⟨p, q, r1.dp o.sub h1, r2.dp o.sub h2, s1, s2, CO.now (W := W) (σ := σ) c o (rep_bl.mpr rfl)⟩
theorem py_nodict : ∀ {d : D} {p : PyData}, D.py d = some p → p.hasDict = false := by
  have both : ∀ n : Nat, (∀ (d : D) (p : PyData), sizeOf d < n → D.py d = some p → p.hasDict = false) ∧ (∀ (ds : List D) (ps : List PyData), sizeOf ds < n → D.pys ds = some ps → PyData.hasDictAll ps = false) := by
    intro n
    induction n with
    | zero => exact ⟨fun _ _ h => absurd h (Nat.not_lt_zero _), fun _ _ h => absurd h (Nat.not_lt_zero _)⟩
    | succ n ih =>
      refine ⟨fun d p hn h => ?_, fun ds ps hn h => ?_⟩
      · cases d with
        | non => simp only [D.py, Option.some.injEq] at h; subst h; simp only [PyData.hasDict]
        | bl b => simp only [D.py, Option.some.injEq] at h; subst h; simp only [PyData.hasDict]
        | int b => simp only [D.py, Option.some.injEq] at h; subst h; simp only [PyData.hasDict]
        | str b => simp only [D.py, Option.some.injEq] at h; subst h; simp only [PyData.hasDict]
        | tup ds =>
          simp only [D.py, Option.map_eq_some_iff] at h
          obtain ⟨ps, h1, rfl⟩ := h
          simp only [PyData.hasDict]
          exact ih.2 ds ps (by simp at hn; omega) h1
        | lst ds =>
          simp only [D.py, Option.map_eq_some_iff] at h
          obtain ⟨ps, h1, rfl⟩ := h
          simp only [PyData.hasDict]
          exact ih.2 ds ps (by simp at hn; omega) h1
        | scr ds =>
          simp only [D.py, Option.map_eq_some_iff] at h
          obtain ⟨ps, h1, rfl⟩ := h
          simp only [PyData.hasDict]
          exact ih.2 ds ps (by simp at hn; omega) h1
        | ref _ => simp only [D.py] at h; cases h
        | ty _ => simp only [D.py] at h; cases h
        | loc _ => simp only [D.py] at h; cases h
        | exn _ _ _ _ => simp only [D.py] at h; cases h
        | err _ _ _ => simp only [D.py] at h; cases h
        | obj _ _ _ => simp only [D.py] at h; cases h
      · cases ds with
        | nil => simp only [D.pys, Option.some.injEq] at h; subst h; simp only [PyData.hasDictAll]
        | cons d ds =>
          simp only [D.pys, Option.bind_eq_some_iff, Option.map_eq_some_iff] at h
          obtain ⟨p, h1, ps', h2, rfl⟩ := h
          simp only [PyData.hasDictAll, Bool.or_eq_false_iff]
          exact ⟨ih.1 d p (by simp at hn; omega) h1, ih.2 ds ps' (by simp at hn; omega) h2⟩
  intro d p h
  exact (both (sizeOf d + 1)).1 d p (Nat.lt_succ_self _) h
/-- repr(x) of plain data -/
theorem cb_repr (g : Gd X W k) (h : D.py da = some p) (hs : p.showable = true) (hz : p.shown.length ≤ sizeLine) (hd : p.depth ≤ 100) (hk : 60 ≤ k := by decide) : CallO X W (fun us => call (.builtin "repr") us) [da] μ (.ret (.str p.shown) μ) := by
  intro pins s σ H xs us Q L G I rx ok r co
  obtain ⟨v, rfl, rv⟩ := r.one
  obtain ⟨u, rfl, ru⟩ := rx.one
  have dp := rv.dp ok.sub h
  obtain ⟨as, rd⟩ := Dp.reads I p v u dp ru
  have fin : ∀ (h' : Heap) (t : Tok) (tk : Nat), (∀ b o, s.heap.get? b = some o → h'.get? b = some o) → EP X pins σ Q (.str p.shown t) { s with heap := h', toks := tk } := fun h' t tk kk => ⟨.str p.shown, H, I.kept (t' := tk) kk, ⟨t, rfl⟩, CO.now (W := W) (σ := σ) co ok (rep_str.mpr rfl)⟩
  have un := g.hr.un
  cases rd with
  | none => exact PySem.P.repr_of_none (by have := fin s.heap s.toks (s.toks + 1) (fun _ _ e => e); simpa only [PyData.shown] using this)
  | bool b => exact PySem.P.repr_of_bool (by have := fin s.heap s.toks (s.toks + 1) (fun _ _ e => e); simpa only [PyData.shown] using this)
  | int i t => exact PySem.P.repr_of_int (by simpa [PyData.showable] using hs) (by have := fin s.heap s.toks (s.toks + 1) (fun _ _ e => e); simpa only [PyData.shown] using this)
  | str x t => exact PySem.P.repr_of_str (by have := fin s.heap s.toks (s.toks + 1) (fun _ _ e => e); simpa only [PyData.shown] using this) (by simpa only [PyData.shown] using hz)
  | list h1 h2 h3 h4 => exact repr_of_reads' (.list h1 h2 h3 h4) hs (PyData.noDict_hsm (py_nodict h)) (g.gr.none hk) (by omega) (fun _ _ e => e) (fun h' u tk hk => fin h' u tk hk) hz
  | tuple h1 h2 h3 h4 => exact repr_of_reads' (.tuple h1 h2 h3 h4) hs (PyData.noDict_hsm (py_nodict h)) (g.gr.none hk) (by omega) (fun _ _ e => e) (fun h' u tk hk => fin h' u tk hk) hz
  | dict h1 h2 h3 h4 h5 => exact absurd (py_nodict h) (by simp [PyData.hasDict])
end

/-! ### texts -/
section
variable {X : Cx} {W : WX} {k : Nat} {ρ : Env'} {μ μ1 μ2 : List M} {e : Expr} {es : List Expr} {pos : Pos} {x y : Str} {i : Int}
/-- the parts of an f-string -/
inductive EvJ (X : Cx) (ρ : Env') : List Expr → Str → List M → Str → List M → Prop
  | nil {acc : Str} {μ : List M} : EvJ X ρ [] acc μ acc μ
  | cons {e : Expr} {es : List Expr} {acc x out : Str} {μ μ1 μ2 : List M} : PE X e (tV X.K ρ μ (.str x) μ1) → (acc ++ x).length ≤ sizeLine → EvJ X ρ es (acc ++ x) μ1 out μ2 → EvJ X ρ (e :: es) acc μ out μ2
end
end PM

set_option Elab.async false
set_option linter.all false
set_option maxRecDepth 100000
set_option maxHeartbeats 2000000
namespace PM
open PySem L2

/-! ### the law's own call -/
/-- the law: the script in, True out -/
def RLaw (good : List Int → Prop) : Rl := fun ds μ o => ∃ ns : List Int, good ns ∧ μ = [] ∧ ds = [.scr (ns.map D.int)] ∧ o = .ret (.bl true) []
section
variable {P : Program} {w : World} {K : PySem.W.Frag} {mg mb : Str → Option Value} {k : Nat} {fa a : Addr} {fd : FuncData} {x : Str} {s1 : Shared} {vs : List Value} {ns : List Int} {good : List Int → Prop}
/-- one heap that tells of the script at most -/
theorem law_one (kin : K.In s1.heap) (gl : s1.heap.Ns mainGlobals mg) (bl : s1.heap.Ns builtinsNs mb) (bb : ∀ x : Str, x ≠ "__name__" → mb x = bootBuiltins x) (lim : s1.heap.NoLimit) (gens : s1.gens = #[])
    (scr : s1.heap.get? a = some { cls := .type "list", data := .seq vs.toArray }) (room : Room k callerA) (F : ∀ base : Heap, K.In base → base.Ns mainGlobals mg → FnG P w K mg base k fa fd [x] (spR K (RLaw good)))
    (bnd : ∀ (s : Shared) (u : Value), BindsTo s fd ⟨[u], []⟩ [(x, u)]) (hgood : good ns) (H : Hp) (only : Only H) (sq : SqL K H a (ns.map V.int)) (hok : HOk P w H s1.heap) (hA : ∀ b, H b ≠ none → b = a) (hK : H a ≠ none → K.lookup a = none) :
    codeAny (model P w) callerA (.call (.ref fa) ⟨[.ref a], []⟩) (fun r s' => r = .ok (.ret (.bool true)) ∧ OldK s1.heap s'.heap ∧ s'.os = s1.os ∧ PyProof.Rows.AllBare s'.gens) s1 := by
  have hidden : ∀ {b : Addr} {o : Obj}, s1.heap.get? b = some o → H b = none → (hidT s1.heap H).get? b = some o := fun e n => hidT_get e n
  have isA : ∀ {b : Addr} {u : HO}, H b = some u → b = a := fun {b u} q => hA b fun z => by rw [z] at q; cases q
  have dictFree : ∀ {b : Addr} {o : Obj} {es : Array DictEntry} {ep : Nat}, s1.heap.get? b = some o → o.data = .dict es ep → H b = none := by
    intro b o es ep e d
    cases q : H b with
    | none => rfl
    | some u =>
      obtain rfl := isA q
      rw [scr] at e
      cases e
      cases (show Data.seq vs.toArray _ = Data.dict es ep from d)
  have names : ∀ {b : Addr} {m : Str → Option Value}, s1.heap.Ns b m → (hidT s1.heap H).Ns b m := fun {b m} ⟨o, es, ep, e, d, r⟩ => ⟨o, es, ep, hidden e (dictFree e d), d, r⟩
  have kin0 : K.In (hidT s1.heap H) := by
    intro b o e
    refine hidden (kin b o e) ?_
    cases q : H b with
    | none => rfl
    | some u =>
      obtain rfl := isA q
      rw [hK (by rw [q]; intro z; cases z)] at e
      cases e
  obtain ⟨mc, lim1, lim2⟩ := lim
  have en : Env0 P w K mg (hidT s1.heap H) callerA [] s1 H := ⟨rfl, ⟨kin0, names gl, ⟨mb, names bl, bb⟩, ⟨mc, names lim1, lim2⟩⟩, fun b o e => of_hidT e, Nat.le_of_eq (hidT_size _ _), trivial, fun b hb => absurd (show b ∈ ([] : List Addr) from hb) (by simp), hok, .of_eq gens⟩
  have said : spR K (RLaw good) [.ref a] H (fun v _ => v = .bl true) (fun _ _ _ => False) := by
    refine ⟨[], H, [.scr (ns.map D.int)], [], .ret (.bl true) [], ⟨fun _ _ e => e, rfl, List.nodup_nil, fun b hb => absurd hb (by simp), fun b hb => absurd hb (by simp), fun n b m e => by simp at e⟩, Reps.cons (rep_scr.mpr ⟨a, _, rfl, sq, ints_reps ns⟩) Reps.nil, ⟨ns, hgood, rfl, rfl, rfl⟩, fun v L' G' H' _ _ r => rep_bl.mp r⟩
  refine codeAny_mono ((F _ kin0 (names gl)).run callerA [] s1 H ⟨[.ref a], []⟩ [.ref a] [.ref a] _ _ room (Gr.of rfl) en (bnd s1 (.ref a)) (.cons rfl .nil) said) fun r s' h => ?_
  match r, h with
  | .error e, ⟨_, _, _, _, _, _, _, _, _, _, _, _, z⟩ => exact z.elim
  | .ok .next, h => exact False.elim h
  | .ok .brk, h => exact False.elim h
  | .ok .cont, h => exact False.elim h
  | .ok (.ret u), ⟨v, H', os, bare, un, hok', ru, q⟩ =>
    have ev : v = .bl true := q
    subst ev
    obtain rfl : u = Value.bool true := ru
    refine ⟨rfl, OldK.of_keep fun b o e => ?_, os, bare⟩
    cases q : H b with
    | none => exact un.keep b o e q (by intro z; exact absurd (show b ∈ ([] : List Addr) from z) (by simp)) (by simp)
    | some u =>
      rcases only b with z | ⟨ob, xs, z⟩
      · rw [q] at z; cases z
      · have before := (hok b _ z).1
        have behind := (hok' b _ (un.frzs b ob _ z)).1
        rw [e] at before
        cases before
        exact behind
theorem law_callG (kin : K.In s1.heap) (gl : s1.heap.Ns mainGlobals mg) (bl : s1.heap.Ns builtinsNs mb) (bb : ∀ x : Str, x ≠ "__name__" → mb x = bootBuiltins x) (lim : s1.heap.NoLimit) (gens : s1.gens = #[])
    (scr : s1.heap.get? a = some { cls := .type "list", data := .seq vs.toArray }) (isI : PyProof.Rows.IntsAre vs ns) (hl : ns.length ≤ sizeLine) (room : Room k callerA) (F : ∀ base : Heap, K.In base → base.Ns mainGlobals mg → FnG P w K mg base k fa fd [x] (spR K (RLaw good)))
    (bnd : ∀ (s : Shared) (u : Value), BindsTo s fd ⟨[u], []⟩ [(x, u)]) (hgood : good ns) :
    codeAny (model P w) callerA (.call (.ref fa) ⟨[.ref a], []⟩) (fun r s' => r = .ok (.ret (.bool true)) ∧ OldK s1.heap s'.heap ∧ s'.os = s1.os ∧ PyProof.Rows.AllBare s'.gens) s1 := by
  have rel := vals_ints isI
  cases hk : K.lookup a with
  | some o =>
    have e := kin a o hk
    rw [scr] at e
    cases e
    exact law_one kin gl bl bb lim gens scr room F bnd hgood (fun _ => none) (fun _ => .inl rfl) (.inr ⟨_, vs.toArray, _, hk, rfl, rfl, rfl, by rw [List.size_toArray, isI.length]; exact hl, by simpa using rel⟩)
      (fun b u z => nomatch z) (fun b z => absurd rfl z) (fun z => absurd rfl z)
  | none =>
    refine law_one kin gl bl bb lim gens scr room F bnd hgood (upd (fun _ => none) a (.frz { cls := .type "list", data := .seq vs.toArray } (.lst (ns.map V.int)))) (fun b => ?_) (.inl (.inr ⟨_, upd_same⟩)) (fun b u z => ?_) (fun b z => ?_) (fun _ => hk)
    · by_cases hb : b = a
      · rw [hb, upd_same]
        exact .inr ⟨_, _, rfl⟩
      · exact .inl (upd_ne hb)
    · by_cases hb : b = a
      · subst hb
        rw [upd_same] at z
        cases z
        exact ⟨scr, by rw [List.length_map]; exact hl, vs, _, rel, scr⟩
      · rw [upd_ne hb] at z
        cases z
    · by_cases hb : b = a
      · exact hb
      · exact absurd (upd_ne hb) z
end
/-- what is known of a script -/
structure Scr (ns : List Int) : Prop where
  len : ns.length ≤ 63
  bits : ∀ z ∈ ns, Builtin.Int.intBits z ≤ 1048576
theorem walkG {l : PySem.W.OpenLaw} {k : Nat} {q : Program} {loose : List Str} {XP : (Str → Option Value) → Heap → Prop} {YP : World → Heap → Prop} {d : DefRec} {K : Params → PySem.W.Frag} {x : Str}
    (hn : l.most = some 63) (hdf : d.params.defaults = []) (room : Room k callerA) (hY : ∀ (w : World) (h : Heap), YP w h → (K w.params).In h)
    (F : ∀ (w : World) (mg : Str → Option Value) (fa : Addr) (h : Heap), (K w.params).In h → h.Ns mainGlobals mg → mg d.name = some (.ref fa) →
      ∃ fd : FuncData, (∀ (s : Shared) (u : Value), BindsTo s fd ⟨[u], []⟩ [(x, u)]) ∧ ∀ base : Heap, (K w.params).In base → base.Ns mainGlobals mg → FnG l.prog w (K w.params) mg base k fa fd [x] (spR (K w.params) (RLaw Scr))) :
    PySem.W.WalkO q loose XP YP l.row.toRowW d [] (fun f vs => PySem.call f vs) := by
  refine Att.attach_callB hn hdf fun w s0 s1 mg mb fa o pm cd doc a vs ns G Y ho hd hcd hmg hobj hints hlen hbits hg => ?_
  have kin := hY w _ Y
  obtain ⟨fd, hb, hF⟩ := F w mg fa _ kin G.T.g hmg
  exact law_callG kin G.T.g G.T.b G.T.builtins G.T.nolimit hg hobj hints (Nat.le_trans hlen (by decide)) room hF hb ⟨hlen, hbits⟩
end PM

set_option Elab.async false
set_option linter.all false
set_option maxRecDepth 100000
namespace PM
open PySem L2
section
variable {X : Cx} {W : WX} {k : Nat} {e : Expr} {A B body : List Stmt} {pos : Pos} {ρ : Env'} {μ μ1 : List M} {q : Out} {b : Bool} {tg : Expr} {ds : List D}
/-- a while whose state is told by one value -/
theorem es_whileM {S : Type} (ρ : S → Env') (μ : S → List M) (m : S → Nat) (c : S → Bool) (nx fin : S → S) (g : Gd X W k) (s : S)
    (hc : ∀ s, PT X e (tVT X.K (ρ s) (μ s) (c s) (μ s))) (hb : ∀ s, c s = true → PSs X body (tS W X.K (ρ s) (μ s) (.next (ρ (nx s)) (μ (nx s)))))
    (hm : ∀ s, c s = true → m (nx s) < m s) (hf : ∀ s, c s = false → fin s = s) (hf' : ∀ s, c s = true → fin (nx s) = fin s) :
    PS X (.While e body [] pos) (tS W X.K (ρ s) (μ s) (.next (ρ (fin s)) (μ (fin s)))) := by
  have go : ∀ n s, m s = n → ∃ j, EvWh X W e body j (ρ s) (μ s) (.next (ρ (fin s)) (μ (fin s))) := by
    intro n
    induction n using Nat.strongRecOn with
    | _ n ih =>
      intro s hs
      cases h : c s with
      | false => exact ⟨0, by rw [hf s h]; exact .stop (h ▸ hc s) (Sub.refl _)⟩
      | true =>
        obtain ⟨j, h2⟩ := ih (m (nx s)) (by rw [← hs]; exact hm s h) (nx s) rfl
        rw [hf' s h] at h2
        exact ⟨j + 1, .next (h ▸ hc s) (hb s h) h2⟩
  obtain ⟨j, h⟩ := go _ s rfl
  exact es_while g h
theorem es_ifT (h : PT X e (tVT X.K ρ μ b μ1)) (hb : b = true) (h1 : PSs X A (tS W X.K ρ μ1 q)) : PS X (.If e A B pos) (tS W X.K ρ μ q) := es_if h (fun _ => h1) fun z => by rw [hb] at z; cases z
theorem es_ifF (h : PT X e (tVT X.K ρ μ b μ1)) (hb : b = false) (h1 : PSs X B (tS W X.K ρ μ1 q)) : PS X (.If e A B pos) (tS W X.K ρ μ q) := es_if h (fun z => by rw [hb] at z; cases z) fun _ => h1
end
end PM

set_option Elab.async false
set_option linter.all false
set_option maxRecDepth 100000
namespace PM
open PySem L2 PyProof.Rows
section
variable {K : PySem.W.Frag} {C B : Addr}
/-- an error of the class C is what «except B» names -/
theorem exm_of (h1 : PySem.W.subIn K (.ref B) (.type "BaseException") = some true) (h2 : PySem.W.isClsIn K B = true) (h3 : PySem.W.typeIn K (.ref B) = some (.type "type")) {b : Bool} (h4 : PySem.W.subIn K (.ref C) (.ref B) = some b) :
    PySem.W.exmOne K (.ref C) (.ref B) = some b := by
  have h2' : (PySem.W.clsIn K B).isSome = true := h2
  unfold PySem.W.exmOne PySem.W.kitCls
  simp only [h1, h2', h3, h4, beq_self_eq_true, Bool.and_self, if_true]
theorem mro_of {o : Value} {d : Option Addr} {cd : ClassData} {sl : Array (Option Value)} {l : List Value} (h : K.lookup C = some ⟨o, d, .cls cd, sl⟩) (e : cd.mro = l) : (PySem.W.clsIn K C).map (·.mro) = some l := by
  unfold PySem.W.clsIn
  rw [h, ← e]
  rfl
end
/-! ### a op= b on an own class: as a op b -/
section
variable {prog : Program} {w : World} {M : Model} {A : Around} {E : Value → Shared → Prop} {s : Shared} {K : PySem.W.Frag} {x C L f : Addr} {h₀ : Heap} {m : Str → Option Value} {ox : Obj} {od : Option Obj} {nm T : String}
end
end PM

set_option Elab.async false
set_option linter.all false
set_option maxRecDepth 100000
namespace PM
open PySem L2
/-! ### a op= b -/
section
variable {X : Cx} {W : WX} {k j : Nat} {ps : List Str} {R : Rl} {f C : Addr} {fd : FuncData} {μ μ1 μ2 : List M} {o : FO} {da db d : D} {ns ns' : List Str} {fs fs' : List D} {op : Operator} {ρ : Env'} {e : Expr} {pos : Pos} {x : Str}
end
/-! ### calls by names -/
/-- how values are put in the parameters' order: positional ones, then those of the keywords -/
def pick {α : Type} (p : List Nat) (l : List α) : List α := p.filterMap (l[·]?)
structure KwB (K : PySem.W.Frag) (fd : FuncData) (ps : List Str) (n : Nat) (ks : List Str) (p : List Nat) : Prop where
  to : ∀ (s : Shared) (us ws : List Value), K.In s.heap → us.length = n → ws.length = ks.length → BindsTo s fd ⟨us, ks.zip ws⟩ (ps.zip (pick p (us ++ ws)))
  le : ∀ i ∈ p, i < n + ks.length
theorem pick_vals {p : List Nat} {vs : List V} {us : List Value} (r : Vals vs us) : Vals (pick p vs) (pick p us) := by
  induction p with
  | nil => exact .nil
  | cons a p ih =>
    unfold pick at ih ⊢
    rw [List.filterMap_cons, List.filterMap_cons]
    by_cases h : a < vs.length
    · obtain ⟨u, e1, e2⟩ := r.get (List.getElem?_eq_getElem h)
      rw [List.getElem?_eq_getElem h, e1]
      exact .cons e2 ih
    · rw [List.getElem?_eq_none (by omega), List.getElem?_eq_none (by rw [← r.length]; omega)]
      exact ih
theorem pick_reps {K : PySem.W.Frag} {L : List Addr} {G : Hp} {p : List Nat} {ds : List D} {vs : List V} (r : Reps K L G ds vs) : Reps K L G (pick p ds) (pick p vs) := by
  induction p with
  | nil => exact Reps.nil
  | cons a p ih =>
    unfold pick at ih ⊢
    rw [List.filterMap_cons, List.filterMap_cons]
    by_cases h : a < ds.length
    · obtain ⟨v, e1, e2⟩ := r.get (List.getElem?_eq_getElem h)
      rw [List.getElem?_eq_getElem h, e1]
      exact Reps.cons e2 ih
    · rw [List.getElem?_eq_none (by omega), List.getElem?_eq_none (by rw [r.length]; omega)]
      exact ih
section
variable {X : Cx} {W : WX} {k j n : Nat} {ps ks : List Str} {p : List Nat} {R : Rl} {f C : Addr} {fd : FuncData} {ds es' : List D} {μ μ1 μ2 : List M} {o : FO} {e : Expr} {es : List Expr} {x m : Str} {pp pos apos kpos : Pos} {ρ : Env'} {d : D} {kws : List Keyword} {nm : Option Str}
theorem pk_of {t t' : TA} (h : PK X kws t) (w : ∀ σ H Q, t' σ H Q → t σ H Q) : PK X kws t' := ⟨fun pos pins s σ H Q I q => h.run pos pins s σ H Q I (w _ _ _ q)⟩
end
end PM

set_option Elab.async false
set_option linter.all false
set_option maxRecDepth 100000
namespace PM
open PySem L2
theorem Gd.w0 {X : Cx} {W : WX} {k : Nat} (g : Gd X W k) : Gd X W0 k := ⟨g.calm, g.nd, g.tk.imp fun _ _ _ _ z => False.elim z, g.po, g.hr, g.gr⟩
/-! ### the rules where a value comes -/
section
variable {X : Cx} {W : WX} {k j i : Nat} {ps : List Str} {R : Rl} {f C : Addr} {fd : FuncData} {ds : List D} {μ μ1 μ2 μ3 : List M} {e a b c : Expr} {es : List Expr} {x m : Str} {p pos apos : Pos} {ρ : Env'} {d d' da db : D} {id T : String} {t : Bool}
theorem es_retV (h : PE X e (tV X.K ρ μ d μ1)) : PS X (.Return (some e) pos) (tS W X.K ρ μ (.ret d μ1)) := es_ret (o := .ret d μ1) h
theorem es_setV (i : Nat) (nd : X.N.Nodup) (h : PE X e (tV X.K ρ μ d μ1)) {pos' : Pos} (hi : X.N[i]? = some x := by rfl) (hx : Loc X.env.scope x := by first | exact Or.inl rfl | exact Or.inr rfl) (hs : swapsWith e (some (.Name x pos')) pos.line X.env = pure false := by rfl)
    (hf : X.fn x = true ∨ X.env.scope.names.lookup x = some .local := by first | exact .inl rfl | exact .inr rfl | assumption) : PS X (.Assign [.Name x pos'] e pos) (tS W X.K ρ μ (.next (ρ.set i (some d)) μ1)) := es_set i nd (o := .ret d μ1) h hi hx hs hf
theorem ev_opI {op : Operator} (ha : PE X a (tV X.K ρ μ da μ1)) (hb : PE X b (tV X.K ρ μ1 db μ2)) (ho : OpO X W0 (binaryOp op) da db μ2 (.ret d μ3)) : PE X (.BinOp a op b pos) (tV X.K ρ μ d μ3) := ev_op (o := .ret d μ3) ha hb ho
theorem ev_unI {op : UnaryOp} (ha : PE X a (tV X.K ρ μ da μ1)) (ho : UnO X W0 (unaryOp op) da μ1 (.ret d μ2)) : PE X (.UnaryOp op a pos) (tV X.K ρ μ d μ2) := ev_un (o := .ret d μ2) ha ho
theorem ev_bltV (ha : PA X (e :: es) (tVA X.K ρ μ ds μ1)) (hf : CallO X W0 (fun us => call (.builtin id) us) ds μ1 (.ret d μ2)) (hm : X.mg x = none) (hv : bootBuiltins x = some (.builtin id)) (hg : Gl X x := by rfl) (hn : x ≠ "__name__" := by decide) (hdb : (x == ("__debug__" : Str)) = false := by decide) (he : starEach (e :: es) X.env = (false, eval e X.env) :: starEach es X.env := by rfl) (hpl : (backTo pos (starEach es X.env)).any (·.1) = false := by rfl) :
    PE X (.Call (.Name x p) (e :: es) [] pos) (tV X.K ρ μ d μ2) := ev_blt (o := .ret d μ2) ha hf hm hv hg hn hdb he hpl
theorem ev_callV (g : Gd X W k) (c : Cal X.prog X.w X.K X.mg X.base j ps R f fd) (hm : X.mg x = some (.ref f)) (hk : PySem.W.keepIn X.K (.ref f) = true) (ha : PA X (e :: es) (tVA X.K ρ μ ds μ1)) (hR : R ds μ1 (.ret d μ2)) (hj : j ≤ k := by decide) (hg : Gl X x := by rfl) (hdb : (x == ("__debug__" : Str)) = false := by decide) (he : starEach (e :: es) X.env = (false, eval e X.env) :: starEach es X.env := by rfl) (hpl : (backTo pos (starEach es X.env)).any (·.1) = false := by rfl) :
    PE X (.Call (.Name x p) (e :: es) [] pos) (tV X.K ρ μ d μ2) := ev_call (o := .ret d μ2) g c hm hk ha hR hj hg hdb he hpl
end
end PM

set_option Elab.async false
set_option linter.all false
set_option maxRecDepth 100000
namespace PM
open PySem L2
/-! ### statements whose end is known by a property alone -/
section
variable {X : Cx} {W : WX} {k : Nat} {e tg : Expr} {body rest ss A B : List Stmt} {st : Stmt} {pos : Pos} {ds : List D} {ρ ρ0 ρ1 : Env'} {μ μ0 μ1 : List M} {q : Out} {L : Out → Prop} {b : Bool}
def Evs (X : Cx) (W : WX) (ss : List Stmt) (ρ : Env') (μ : List M) (L : Out → Prop) : Prop := ∃ q, L q ∧ PSs X ss (tS W X.K ρ μ q)
/-- the end of a loop's body: the names as at its begin, something known of the store -/
def Nx (ρ0 : Env') (Iv : List M → Prop) : Out → Prop := fun q => ∃ ρ2 μ2, (q = .next ρ2 μ2 ∨ q = .cont ρ2 μ2) ∧ Iv μ2 ∧ Sub ρ0 ρ2
end
end PM

set_option Elab.async false
set_option linter.all false
set_option maxRecDepth 100000
namespace PM
open PySem L2 PyProof.Rows
/-! ### an int, or another plain thing, ahead of an own instance -/
section
variable {i : Int} {t : Tok} {x C dx : Addr}
/-- what a builtin answers that does not know the other side -/
abbrev Declines (x C dx : Addr) : PySem.Spec := fun _ R s => s.heap.get? x = some (PySem.W.instObj C dx) ∧ R (.ok (.ret .notImplemented)) s
end
section
variable {prog : Program} {w : World} {A : Around} {E : Value → Shared → Prop} {s : Shared} {K : PySem.W.Frag} {x C dx f : Addr} {od : Option Obj} {T id : String} {B : Builtin} {a : Value}
end
/-! ### by data -/
section
variable {X : Cx} {W : WX} {k j : Nat} {ps : List Str} {R : Rl} {f C : Addr} {fd : FuncData} {μ : List M} {o : FO} {da : D} {ns : List Str} {fs : List D} {i : Int}
end
end PM

set_option Elab.async false
set_option linter.all false
set_option maxRecDepth 100000
namespace PM
open PySem L2
/-! ### builtins that ask an own method -/
section
variable {X : Cx} {W : WX} {k j : Nat} {ps : List Str} {R : Rl} {f C : Addr} {fd : FuncData} {μ μ2 : List M} {d : D} {ds : List D} {ns : List Str} {fs : List D} {y : Str} {b : Bool}
end
end PM

set_option Elab.async false
set_option linter.all false
set_option maxRecDepth 100000
namespace PM
open PySem L2
section
variable {prog : Program} {w : World} {A : Around} {E : Value → Shared → Prop} {s : Shared} {K : PySem.W.Frag} {x C dx f : Addr} {od : Option Obj} {T id : String} {a : Value}
end
section
variable {X : Cx} {W : WX} {k j : Nat} {ps : List Str} {R : Rl} {f C : Addr} {fd : FuncData} {μ : List M} {o : FO} {da : D} {ns : List Str} {fs ds es : List D} {y : Str} {b : Bool}
theorem oo_catL (h : ds.length + es.length ≤ sizeLine) : OpO X W (binaryOp .Add) (.lst ds) (.lst es) μ (.ret (.lst (ds ++ es)) μ) :=
  opO_of op_cat fun σ u v H Q L G o r1 r2 c => by
    obtain ⟨a, vs, rfl, q1, s1⟩ := rep_lst.mp r1
    obtain ⟨a', vs', rfl, q2, s2⟩ := rep_lst.mp r2
    refine ⟨a, a', vs, vs', rfl, rfl, o.sub _ _ q1, o.sub _ _ q2, by rw [s1.length, s2.length]; exact h, fun p hp => ?_⟩
    refine CO.fresh (W := W) (σ := σ) c o hp (rep_lst.mpr ⟨p, vs ++ vs', rfl, upd_same, ?_⟩)
    have e := (o.new (p := p) (o := .lst (vs ++ vs')) hp).2.gs
    exact (s1.mono (Pre.refl _) e).append (s2.mono (Pre.refl _) e)
end
end PM

set_option Elab.async false
set_option linter.all false
set_option maxRecDepth 100000
namespace PM
open PySem L2
section
variable {X : Cx} {W : WX} {k : Nat} {e tg : Expr} {body rest : List Stmt} {pos : Pos} {ds : List D} {ρ : Env'} {μ0 μ1 : List M} {L : Out → Prop}
/-- the end of a loop's body: something known of names and store -/
def NxS (Iv : Env' → List M → Prop) : Out → Prop := fun q => ∃ ρ2 ρ3 μ2, (q = .next ρ2 μ2 ∨ q = .cont ρ2 μ2) ∧ Sub ρ3 ρ2 ∧ Iv ρ3 μ2
end
end PM

set_option Elab.async false
set_option linter.all false
set_option maxRecDepth 100000
namespace PM
open PySem L2 PyProof.Rows
section
variable {prog : Program} {w : World} {A : Around} {E : Value → Shared → Prop} {s : Shared} {K : PySem.W.Frag} {x C f : Addr} {ox : Obj} {od : Option Obj}
end
section
variable {X : Cx} {W : WX} {k j : Nat} {ps : List Str} {R : Rl} {f C : Addr} {fd : FuncData} {μ μ1 μ2 : List M} {o : FO} {ns : List Str} {fs ds : List D} {x y : Str} {b : Bool} {i : Int} {a c : Expr} {rest : List Expr} {pos : Pos} {ρ : Env'}
end
end PM

set_option Elab.async false
set_option linter.all false
set_option maxRecDepth 100000
namespace PM
open PySem L2
section
variable {X : Cx} {W : WX} {k j n : Nat} {ps ks : List Str} {p : List Nat} {R : Rl} {f C : Addr} {fd : FuncData} {ds es' : List D} {μ μ1 μ2 : List M} {o : FO} {x m : Str} {pp pos apos kpos : Pos} {ρ : Env'} {d : D} {kws : List Keyword}
end
end PM

set_option linter.all false
namespace PM
/-! ### plain numbers -/
/-- a number of few bits -/
def Fit (n : Nat) (q : Rat) : Prop := q.num.natAbs < 2 ^ n ∧ q.den < 2 ^ n
theorem Fit.mono {n m : Nat} {q : Rat} (h : Fit n q) (l : n ≤ m) : Fit m q := ⟨Nat.lt_of_lt_of_le h.1 (Nat.pow_le_pow_right (by decide) l), Nat.lt_of_lt_of_le h.2 (Nat.pow_le_pow_right (by decide) l)⟩
theorem divInt_bounds (t b : Int) (hb : b ≠ 0) : (Rat.divInt t b).num.natAbs ≤ t.natAbs ∧ (Rat.divInt t b).den ≤ b.natAbs := by
  constructor
  · rw [Rat.num_divInt]
    refine Nat.le_trans (Int.natAbs_ediv_le_natAbs _ _) ?_
    rw [Int.natAbs_mul]
    have : b.sign.natAbs = 1 := Int.natAbs_sign_of_ne_zero hb
    rw [this, Nat.one_mul]; exact Nat.le_refl _
  · rw [Rat.den_divInt, if_neg hb]
    exact Nat.div_le_self _ _
theorem fit_divInt {n : Nat} {t b : Int} (h1 : t.natAbs < 2 ^ n) (h2 : b.natAbs < 2 ^ n) (hb : b ≠ 0) : Fit n (Rat.divInt t b) :=
  ⟨Nat.lt_of_le_of_lt (divInt_bounds t b hb).1 h1, Nat.lt_of_le_of_lt (divInt_bounds t b hb).2 h2⟩
theorem mul_lt_pow {a b n m : Nat} (h1 : a < 2 ^ n) (h2 : b < 2 ^ m) : a * b < 2 ^ (n + m) := by
  rw [Nat.pow_add]
  exact Nat.mul_lt_mul'' h1 h2
theorem mul_rt (a b : Rat) : a * b = Rat.divInt (a.num * b.num) (a.den * b.den) := by
  rw [Rat.mul_def', ← Rat.divInt_ofNat]; simp
/-- what Ratio makes of a top and a bottom -/
theorem divInt_num {t b : Int} (hb : 0 < b) : (Rat.divInt t b).num = t / (Nat.gcd t.natAbs b.natAbs : Nat) := by
  rw [Rat.num_divInt, Int.sign_eq_one_of_pos hb, Int.one_mul, Int.gcd_comm]; rfl
theorem divInt_den {t b : Int} (hb : 0 < b) : ((Rat.divInt t b).den : Int) = b / (Nat.gcd t.natAbs b.natAbs : Nat) := by
  rw [Rat.den_divInt, if_neg (by omega), Int.gcd_comm]
  have : b = (b.natAbs : Int) := by omega
  conv => rhs; lhs; rw [this]
  rfl
theorem log2_lt {a n : Nat} (h : a < 2 ^ n) (hn : 0 < n) : a.log2 < n := by
  by_cases z : a = 0
  · subst z; simpa using hn
  · exact (Nat.log2_lt z).mpr h
end PM

set_option Elab.async false
set_option linter.all false
set_option maxRecDepth 100000
set_option maxHeartbeats 4000000
namespace PM

/-! plain facts of pools by integers -/
section
variable {s v s' v' u t : Int}
end
end PM

set_option Elab.async false
set_option linter.all false
set_option maxRecDepth 100000
/-! Weakest preconditions over the abstract machine: what may come is told by continuations. -/
namespace PM
open PySem L2
abbrev KV := D → List M → Prop
abbrev KX := Addr → List Str → List D → List M → Prop
abbrev KT := Bool → List M → Prop
abbrev KA := List D → List M → Prop
abbrev KN := Env' → List M → Prop
/-- exceptions that are taken -/
def AccX (W : WX) (K : PySem.W.Frag) (L : List Addr) (G H : Hp) (σ : St) (Z : KX) : Prop := ∀ C ns ds μ', Z C ns ds μ' → ComesX K L G H C ns ds μ' fun c d H' => W c d σ H'
def AccV (K : PySem.W.Frag) (L : List Addr) (G H : Hp) (Q : KV) (R : VK) : Prop := ∀ d μ', Q d μ' → Comes K L G H d μ' R
section
variable {W : WX} {K : PySem.W.Frag} {L L1 : List Addr} {G H G1 H1 : Hp} {σ : St} {Z Z' : KX} {Q Q' : KV} {R : VK}
theorem AccX.step (a : AccX W K L G H σ Z) (s : Step L G H L1 G1 H1) : AccX W K L1 G1 H1 σ Z := fun C ns ds μ' z => ComesX.step (E := fun c d H' => W c d σ H') (a C ns ds μ' z) s
theorem AccV.step (a : AccV K L G H Q R) (s : Step L G H L1 G1 H1) : AccV K L1 G1 H1 Q R := fun d μ' q => Comes.step (a d μ' q) s
theorem AccX.mono (a : AccX W K L G H σ Z') (h : ∀ C ns ds μ, Z C ns ds μ → Z' C ns ds μ) : AccX W K L G H σ Z := fun C ns ds μ' z => a C ns ds μ' (h _ _ _ _ z)
theorem AccV.mono (a : AccV K L G H Q' R) (h : ∀ d μ, Q d μ → Q' d μ) : AccV K L G H Q R := fun d μ' z => a d μ' (h _ _ z)
end
/-- an expression comes to a value of Q or to an exception of Z -/
structure wE (X : Cx) (W : WX) (ρ : Env') (μ : List M) (e : Expr) (Q : KV) (Z : KX) : Prop where
  run : PE X e (fun σ H R => ∃ L G, Now X.K L G H μ ρ σ ∧ AccV X.K L G H Q R ∧ AccX W X.K L G H σ Z)
structure wC (X : Cx) (W : WX) (ρ : Env') (μ : List M) (e : Expr) (Q : KT) (Z : KX) : Prop where
  run : PT X e (fun σ H R => ∃ L G, Now X.K L G H μ ρ σ ∧ (∀ b μ', Q b μ' → ComesT X.K L G H b μ' R) ∧ AccX W X.K L G H σ Z)
structure wCw (X : Cx) (W : WX) (ρ : Env') (μ : List M) (e : Expr) (Q : KT) (Z : KX) : Prop where
  run : PW X e (fun σ H R => ∃ L G, Now X.K L G H μ ρ σ ∧ (∀ b μ', Q b μ' → ComesT X.K L G H b μ' R) ∧ AccX W X.K L G H σ Z)
structure wA (X : Cx) (W : WX) (ρ : Env') (μ : List M) (es : List Expr) (Q : KA) (Z : KX) : Prop where
  run : PA X es (fun σ H R => ∃ L G, Now X.K L G H μ ρ σ ∧ (∀ ds μ', Q ds μ' → ComesA X.K L G H ds μ' R) ∧ AccX W X.K L G H σ Z)
/-- an operation on two data -/
structure wB (X : Cx) (W : WX) (f : Value → Value → Sem Value) (da db : D) (μ : List M) (Q : KV) (Z : KX) : Prop where
  run : ∀ (pins : List (Addr × Obj)) (s : Shared) (σ : St) (H : Hp) (x y : V) (v u : Value) (R : VK) (L : List Addr) (G : Hp), Inv X pins σ H s → RelV x v → RelV y u → Ok X.K L G H μ → Rep X.K L G da x → Rep X.K L G db y → AccV X.K L G H Q R → AccX W X.K L G H σ Z →
    wpAny (model X.prog X.w) X.A (f v u) (EP X pins σ R) X.xe s
structure wU (X : Cx) (W : WX) (f : Value → Sem Value) (da : D) (μ : List M) (Q : KV) (Z : KX) : Prop where
  run : ∀ (pins : List (Addr × Obj)) (s : Shared) (σ : St) (H : Hp) (x : V) (v : Value) (R : VK) (L : List Addr) (G : Hp), Inv X pins σ H s → RelV x v → Ok X.K L G H μ → Rep X.K L G da x → AccV X.K L G H Q R → AccX W X.K L G H σ Z →
    wpAny (model X.prog X.w) X.A (f v) (EP X pins σ R) X.xe s
structure wF (X : Cx) (W : WX) (f : List Value → Sem Value) (ds : List D) (μ : List M) (Q : KV) (Z : KX) : Prop where
  run : ∀ (pins : List (Addr × Obj)) (s : Shared) (σ : St) (H : Hp) (xs : List V) (us : List Value) (R : VK) (L : List Addr) (G : Hp), Inv X pins σ H s → Vals xs us → Ok X.K L G H μ → Reps X.K L G ds xs → AccV X.K L G H Q R → AccX W X.K L G H σ Z →
    wpAny (model X.prog X.w) X.A (f us) (EP X pins σ R) X.xe s
/-- one outcome among those that may come -/
def FO.In (Q : KV) (Z : KX) : FO → Prop
  | .ret d μ => Q d μ
  | .exc C ns ds μ => Z C ns ds μ
section
variable {X : Cx} {W : WX} {ρ : Env'} {μ μ1 μ2 : List M} {e a b c : Expr} {es : List Expr} {Q Q' : KV} {Z Z' : KX} {o : FO} {d da db : D} {ds : List D} {pos : Pos} {pins : List (Addr × Obj)} {s : Shared} {σ : St} {H : Hp} {L : List Addr} {G : Hp}
theorem CO.of {R : VK} (v : AccV X.K L G H Q R) (x : AccX W X.K L G H σ Z) (h : o.In Q Z) : CO W X.K L G H σ o R := by
  cases o with
  | ret d μ => exact v d μ h
  | exc C ns ds μ => exact x C ns ds μ h
theorem wE.of (h : PE X e (tO W X.K ρ μ o)) (ho : o.In Q Z) : wE X W ρ μ e Q Z := ⟨pe_of h fun σ H R ⟨L, G, n, v, x⟩ => ⟨L, G, n, CO.of v x ho⟩⟩
theorem wE.ofV (h : PE X e (tV X.K ρ μ d μ1)) (ho : Q d μ1) : wE X W ρ μ e Q Z := ⟨pe_of h fun σ H R ⟨L, G, n, v, x⟩ => ⟨L, G, n, v _ _ ho⟩⟩
theorem wE.mono (h : wE X W ρ μ e Q Z) (hq : ∀ d μ, Q d μ → Q' d μ) (hz : ∀ C ns ds μ, Z C ns ds μ → Z' C ns ds μ) : wE X W ρ μ e Q' Z' := ⟨pe_of h.run fun σ H R ⟨L, G, n, v, x⟩ => ⟨L, G, n, v.mono hq, x.mono hz⟩⟩
theorem wE.imp (h : wE X W ρ μ e Q Z) (hq : ∀ d μ, Q d μ → Q' d μ) : wE X W ρ μ e Q' Z := h.mono hq fun _ _ _ _ z => z
theorem wC.imp {Q Q' : KT} (h : wC X W ρ μ e Q Z) (hq : ∀ d μ, Q d μ → Q' d μ) : wC X W ρ μ e Q' Z := ⟨pt_of h.run fun σ H R ⟨L, G, n, v, x⟩ => ⟨L, G, n, fun b μ' q => v b μ' (hq _ _ q), x⟩⟩
theorem wB.of {f : Value → Value → Sem Value} (h : OpO X W f da db μ o) (ho : o.In Q Z) : wB X W f da db μ Q Z := ⟨fun pins s σ H x y v u R L G I rx ry ok r1 r2 av ax => h pins s σ H x y v u R L G I rx ry ok r1 r2 (CO.of av ax ho)⟩
theorem wB.ofV {f : Value → Value → Sem Value} (h : OpO X W0 f da db μ (.ret d μ1)) (ho : Q d μ1) : wB X W f da db μ Q Z := ⟨fun pins s σ H x y v u R L G I rx ry ok r1 r2 av ax => h pins s σ H x y v u R L G I rx ry ok r1 r2 (av _ _ ho)⟩
theorem wU.of {f : Value → Sem Value} (h : UnO X W f da μ o) (ho : o.In Q Z) : wU X W f da μ Q Z := ⟨fun pins s σ H x v R L G I rx ok r1 av ax => h pins s σ H x v R L G I rx ok r1 (CO.of av ax ho)⟩
theorem wU.ofV {f : Value → Sem Value} (h : UnO X W0 f da μ (.ret d μ1)) (ho : Q d μ1) : wU X W f da μ Q Z := ⟨fun pins s σ H x v R L G I rx ok r1 av ax => h pins s σ H x v R L G I rx ok r1 (av _ _ ho)⟩
theorem wF.of {f : List Value → Sem Value} (h : CallO X W f ds μ o) (ho : o.In Q Z) : wF X W f ds μ Q Z := ⟨fun pins s σ H x v R L G I rx ok r1 av ax => h pins s σ H x v R L G I rx ok r1 (CO.of av ax ho)⟩
theorem wF.ofV {f : List Value → Sem Value} (h : CallO X W0 f ds μ (.ret d μ1)) (ho : Q d μ1) : wF X W f ds μ Q Z := ⟨fun pins s σ H x v R L G I rx ok r1 av ax => h pins s σ H x v R L G I rx ok r1 (av _ _ ho)⟩
theorem wB.imp {f : Value → Value → Sem Value} (h : wB X W f da db μ Q Z) (hq : ∀ d μ, Q d μ → Q' d μ) : wB X W f da db μ Q' Z := ⟨fun pins s σ H x y v u R L G I rx ry ok r1 r2 av ax => h.run pins s σ H x y v u R L G I rx ry ok r1 r2 (av.mono hq) ax⟩
theorem wF.imp {f : List Value → Sem Value} (h : wF X W f ds μ Q Z) (hq : ∀ d μ, Q d μ → Q' d μ) : wF X W f ds μ Q' Z := ⟨fun pins s σ H x v R L G I rx ok r1 av ax => h.run pins s σ H x v R L G I rx ok r1 (av.mono hq) ax⟩
/-- running -/
theorem wE.go (h : wE X W ρ μ e Q Z) (I : Inv X pins σ H s) (n : Now X.K L G H μ ρ σ) (z : AccX W X.K L G H σ Z) :
    wpAny (model X.prog X.w) X.A (eval e X.env) (fun u s1 => ∃ v d μ1 L1 G1 H1, Inv X pins σ H1 s1 ∧ RelV v u ∧ Q d μ1 ∧ Step L G H L1 G1 H1 ∧ Ok X.K L1 G1 H1 μ1 ∧ Rep X.K L1 G1 d v) X.xe s :=
  thn (h.run.run pins s σ H (fun v H1 => ∃ d μ1 L1 G1, Q d μ1 ∧ Step L G H L1 G1 H1 ∧ Ok X.K L1 G1 H1 μ1 ∧ Rep X.K L1 G1 d v) I ⟨L, G, n, fun d μ' q v L' G' H' s' o' r' => ⟨d, μ', L', G', q, s', o', r'⟩, z⟩)
    fun u s1 ⟨v, H1, I1, r1, d, μ1, L1, G1, q, st, o, r⟩ => ⟨v, d, μ1, L1, G1, H1, I1, r1, q, st, o, r⟩
theorem wC.go {Q : KT} (h : wC X W ρ μ e Q Z) (I : Inv X pins σ H s) (n : Now X.K L G H μ ρ σ) (z : AccX W X.K L G H σ Z) :
    wpAny (model X.prog X.w) X.A (isTrue e X.env (eval e X.env)) (fun b s1 => ∃ μ1 L1 G1 H1, Inv X pins σ H1 s1 ∧ Q b μ1 ∧ Step L G H L1 G1 H1 ∧ Ok X.K L1 G1 H1 μ1) X.xe s :=
  thn (h.run.run pins s σ H (fun b H1 => ∃ μ1 L1 G1, Q b μ1 ∧ Step L G H L1 G1 H1 ∧ Ok X.K L1 G1 H1 μ1) I ⟨L, G, n, fun b μ' q L' G' H' s' o' => ⟨μ', L', G', q, s', o'⟩, z⟩)
    fun b s1 ⟨H1, I1, μ1, L1, G1, q, st, o⟩ => ⟨μ1, L1, G1, H1, I1, q, st, o⟩
theorem wA.go {Q : KA} (h : wA X W ρ μ es Q Z) (I : Inv X pins σ H s) (n : Now X.K L G H μ ρ σ) (z : AccX W X.K L G H σ Z) (pos : Pos) :
    wpAny (model X.prog X.w) X.A (spliced (backTo pos (starEach es X.env))) (fun us s1 => ∃ vs ds μ1 L1 G1 H1, Inv X pins σ H1 s1 ∧ Vals vs us ∧ Q ds μ1 ∧ Step L G H L1 G1 H1 ∧ Ok X.K L1 G1 H1 μ1 ∧ Reps X.K L1 G1 ds vs) X.xe s :=
  thn (h.run.run pos pins s σ H (fun vs H1 => ∃ ds μ1 L1 G1, Q ds μ1 ∧ Step L G H L1 G1 H1 ∧ Ok X.K L1 G1 H1 μ1 ∧ Reps X.K L1 G1 ds vs) I ⟨L, G, n, fun ds μ' q vs L' G' H' s' o' r' => ⟨ds, μ', L', G', q, s', o', r'⟩, z⟩)
    fun us s1 ⟨vs, H1, I1, r1, ds, μ1, L1, G1, q, st, o, r⟩ => ⟨vs, ds, μ1, L1, G1, H1, I1, r1, q, st, o, r⟩
theorem wE.by (h : ∀ (pins : List (Addr × Obj)) (s : Shared) (σ : St) (H : Hp) (R : VK) (L : List Addr) (G : Hp), Inv X pins σ H s → Now X.K L G H μ ρ σ → AccV X.K L G H Q R → AccX W X.K L G H σ Z → wpAny (model X.prog X.w) X.A (eval e X.env) (EP X pins σ R) X.xe s) : wE X W ρ μ e Q Z :=
  ⟨⟨fun pins s σ H R I ⟨L, G, n, v, x⟩ => h pins s σ H R L G I n v x⟩⟩
/-- the store may be told with less -/
def Le (μ μ' : List M) : Prop := ∀ K L G H, Ok K L G H μ → Ok K L G H μ'
theorem Le.refl (μ : List M) : Le μ μ := fun _ _ _ _ h => h
theorem wE.le (h : wE X W ρ μ e (fun d μ1 => ∃ μ2, Le μ1 μ2 ∧ Q d μ2) Z) : wE X W ρ μ e Q Z :=
  ⟨pe_of h.run fun σ H R ⟨L, G, n, v, x⟩ => ⟨L, G, n, fun d μ1 ⟨μ2, l, q⟩ u L' G' H' s' o' r' => v d μ2 q u L' G' H' s' (l _ _ _ _ o') r', x⟩⟩

/-! #### any reading will do -/
def aE (X : Cx) (e : Expr) : TE := fun σ H Q => ∃ t, PE X e t ∧ t σ H Q
theorem aE_ok : PE X e (aE X e) := ⟨fun pins s σ H Q I ⟨t, p, q⟩ => p.run pins s σ H Q I q⟩
def aW (X : Cx) (e : Expr) : TT := fun σ H Q => ∃ t, PW X e t ∧ t σ H Q
theorem aW_ok : PW X e (aW X e) := ⟨fun wh pins s σ H Q I ⟨t, p, q⟩ => p.run wh pins s σ H Q I q⟩
def aA (X : Cx) (es : List Expr) : TA := fun σ H Q => ∃ t, PA X es t ∧ t σ H Q
theorem aA_ok : PA X es (aA X es) := ⟨fun pos pins s σ H Q I ⟨t, p, q⟩ => p.run pos pins s σ H Q I q⟩

/-! #### expressions -/
theorem wE_int {i j} (h : Q (.int i) μ) : wE X W ρ μ (.Constant (.int i) j pos) Q Z := .ofV ev_int h
theorem wE_bl {i j} (h : Q (.bl i) μ) : wE X W ρ μ (.Constant (.bool i) j pos) Q Z := .ofV ev_bl h
theorem wE_non {j} (h : Q .non μ) : wE X W ρ μ (.Constant .none j pos) Q Z := .ofV ev_non h
theorem wE_str {i j} (h : Q (.str i) μ) : wE X W ρ μ (.Constant (.str i) j pos) Q Z := .ofV ev_str h
theorem wE_bin {op : Operator} (h : wE X W ρ μ a (fun da μ1 => wE X W ρ μ1 b (fun db μ2 => wB X W (binaryOp op) da db μ2 Q Z) Z) Z) : wE X W ρ μ (.BinOp a op b pos) Q Z :=
  .by fun pins s σ H R L G I n v x => wpAny_BinOp (thn (h.go I n x) fun u s1 ⟨y, da, μ1, L1, G1, H1, I1, ry, hb, st1, o1, r1⟩ => thn (hb.go I1 (n.step st1 o1) (x.step st1)) fun u2 s2 ⟨y2, db, μ2, L2, G2, H2, I2, ry2, ho, st2, o2, r2⟩ =>
    ho.run pins s2 σ H2 y y2 u u2 R L2 G2 I2 ry ry2 o2 (r1.step st2) r2 (v.step (st1.trans st2)) (x.step (st1.trans st2)))
theorem wE_cmp {op : CmpOp} (h : wE X W ρ μ a (fun da μ1 => wE X W ρ μ1 b (fun db μ2 => wB X W (compareOp op) da db μ2 Q Z) Z) Z) (hm : behindInMarks op b = false := by first | exact nomark _ | rfl) : wE X W ρ μ (.Compare a [op] [b] pos) Q Z :=
  .by fun pins s σ H R L G I n v x => wpAny_Compare1 (thn (h.go I n x) fun u s1 ⟨y, da, μ1, L1, G1, H1, I1, ry, hb, st1, o1, r1⟩ => thn (hb.go I1 (n.step st1 o1) (x.step st1)) fun u2 s2 ⟨y2, db, μ2, L2, G2, H2, I2, ry2, ho, st2, o2, r2⟩ =>
    ho.run pins s2 σ H2 y y2 u u2 R L2 G2 I2 ry ry2 o2 (r1.step st2) r2 (v.step (st1.trans st2)) (x.step (st1.trans st2))) hm
theorem wE_un {op : UnaryOp} (h : wE X W ρ μ a (fun da μ1 => wU X W (unaryOp op) da μ1 Q Z) Z) : wE X W ρ μ (.UnaryOp op a pos) Q Z :=
  .by fun pins s σ H R L G I n v x => PyProof.Rows.UnaryOp_ (thn (h.go I n x) fun u s1 ⟨y, da, μ1, L1, G1, H1, I1, ry, ho, st1, o1, r1⟩ => ho.run pins s1 σ H1 y u R L1 G1 I1 ry o1 r1 (v.step st1) (x.step st1))
/-- not, of a test -/
theorem wE_not (h : wE X W ρ μ a (fun da μ1 => ∃ k, da = .bl k ∧ Q (.bl (!k)) μ1) Z) : wE X W ρ μ (.UnaryOp .Not a pos) Q Z :=
  ⟨pe_of (pe_not h.run) fun σ H R ⟨L, G, n, v, x⟩ => ⟨L, G, n, fun d μ1 ⟨k, e, q⟩ u L1 G1 H1 s1 o1 r1 => by
    subst e
    exact ⟨k, rep_bl.mp r1, v _ _ q _ L1 G1 H1 s1 o1 (rep_bl.mpr rfl)⟩, x⟩⟩
theorem wE_one {op} (h : wE X W ρ μ a Q Z) : wE X W ρ μ (.BoolOp op [a] pos) Q Z := ⟨pe_one h.run⟩
variable {rest : List Expr}
theorem wE_and (h : wE X W ρ μ a (fun da μ1 => ∃ k, da = .bl k ∧ if k = true then wE X W ρ μ1 (.BoolOp .And (b :: rest) pos) Q Z else Q (.bl false) μ1) Z) : wE X W ρ μ (.BoolOp .And (a :: b :: rest) pos) Q Z :=
  ⟨pe_of (pe_and h.run aE_ok) fun σ H R ⟨L, G, n, v, x⟩ => ⟨L, G, n, fun d μ1 ⟨k, e, q⟩ u L1 G1 H1 s1 o1 r1 => by
    subst e
    refine ⟨k, rep_bl.mp r1, ?_⟩
    cases k with
    | true => rw [if_pos rfl] at q ⊢; exact ⟨_, q.run, L1, G1, n.step s1 o1, v.step s1, x.step s1⟩
    | false => rw [if_neg (by decide)] at q ⊢; exact v _ _ q _ L1 G1 H1 s1 o1 (rep_bl.mpr rfl), x⟩⟩
theorem wE_or (h : wE X W ρ μ a (fun da μ1 => ∃ k, da = .bl k ∧ if k = true then Q (.bl true) μ1 else wE X W ρ μ1 (.BoolOp .Or (b :: rest) pos) Q Z) Z) : wE X W ρ μ (.BoolOp .Or (a :: b :: rest) pos) Q Z :=
  ⟨pe_of (pe_or h.run aE_ok) fun σ H R ⟨L, G, n, v, x⟩ => ⟨L, G, n, fun d μ1 ⟨k, e, q⟩ u L1 G1 H1 s1 o1 r1 => by
    subst e
    refine ⟨k, rep_bl.mp r1, ?_⟩
    cases k with
    | true => rw [if_pos rfl] at q ⊢; exact v _ _ q _ L1 G1 H1 s1 o1 (rep_bl.mpr rfl)
    | false => rw [if_neg (by decide)] at q ⊢; exact ⟨_, q.run, L1, G1, n.step s1 o1, v.step s1, x.step s1⟩, x⟩⟩
theorem wE_if (h : wC X W ρ μ c (fun k μ1 => if k = true then wE X W ρ μ1 a Q Z else wE X W ρ μ1 b Q Z) Z) : wE X W ρ μ (.IfExp c a b pos) Q Z :=
  ⟨pe_of (pe_ifExp h.run aE_ok aE_ok) fun σ H R ⟨L, G, n, v, x⟩ => ⟨L, G, n, fun k μ1 q L1 G1 H1 s1 o1 => by
    cases k with
    | true => exact iteT ⟨_, (show wE X W ρ μ1 a Q Z from q).run, L1, G1, n.step s1 o1, v.step s1, x.step s1⟩
    | false => exact iteF ⟨_, (show wE X W ρ μ1 b Q Z from q).run, L1, G1, n.step s1 o1, v.step s1, x.step s1⟩, x⟩⟩

/-! #### tests -/
variable {QT : KT}
theorem wC_val (h : wE X W ρ μ e (fun d μ1 => ∃ k, d = .bl k ∧ QT k μ1) Z) (he : ∀ whole, isTrue e X.env whole = (do let v ← whole; standAt e.pos; holding [v] (truthy v)) := by intro _; rfl) : wC X W ρ μ e QT Z :=
  ⟨pt_of (pt_val h.run he) fun σ H R ⟨L, G, n, v, x⟩ => ⟨L, G, n, fun d μ1 ⟨k, e, q⟩ u L1 G1 H1 s1 o1 r1 => by
    subst e
    exact ⟨k, rep_bl.mp r1, v k μ1 q L1 G1 H1 s1 o1⟩, x⟩⟩
theorem wC_cmp {op : CmpOp} (h : wE X W ρ μ a (fun da μ1 => wE X W ρ μ1 b (fun db μ2 => wB X W (compareOp op) da db μ2 (fun d μ3 => ∃ k, d = .bl k ∧ QT k μ3) Z) Z) Z) (hm : behindInMarks op b = false := by first | exact nomark _ | rfl) : wC X W ρ μ (.Compare a [op] [b] pos) QT Z := by
  refine ⟨⟨fun pins s σ H R I ⟨L, G, n, v, x⟩ => ?_⟩⟩
  refine wpAny_isTrue_Compare1 (thn (h.go I n x) fun u s1 ⟨y, da, μ1, L1, G1, H1, I1, ry, hb, st1, o1, r1⟩ => thn (hb.go I1 (n.step st1 o1) (x.step st1)) fun u2 s2 ⟨y2, db, μ2, L2, G2, H2, I2, ry2, ho, st2, o2, r2⟩ =>
    thn (ho.run pins s2 σ H2 y y2 u u2 (fun z H' => ∃ k, z = .bl k ∧ R k H') L2 G2 I2 ry ry2 o2 (r1.step st2) r2 (fun d μ3 ⟨k, e, q⟩ w L3 G3 H3 st3 o3 r3 => by
      subst e
      exact ⟨k, rep_bl.mp r3, v k μ3 q L3 G3 H3 ((st1.trans st2).trans st3) o3⟩) (x.step (st1.trans st2))) fun z s3 ⟨y, H3, I3, r3, k, e3, q3⟩ => ?_) hm
  subst e3
  cases r3
  exact wpAny_truthy_bool ⟨H3, I3, q3⟩
theorem wC_not (h : wC X W ρ μ a (fun k μ1 => QT (!k) μ1) Z) : wC X W ρ μ (.UnaryOp .Not a pos) QT Z :=
  ⟨pt_of (pt_not h.run) fun σ H R ⟨L, G, n, v, x⟩ => ⟨L, G, n, fun k μ1 q L1 G1 H1 s1 o1 => v _ _ q L1 G1 H1 s1 o1, x⟩⟩
theorem wC_bool {op} (h : wCw X W ρ μ (.BoolOp op es pos) QT Z) : wC X W ρ μ (.BoolOp op es pos) QT Z := ⟨h.run.pt⟩
theorem wCw_and1 (h : wC X W ρ μ a QT Z) : wCw X W ρ μ (.BoolOp .And [a] pos) QT Z := ⟨pw_and1 h.run⟩
theorem wCw_or1 (h : wC X W ρ μ a QT Z) : wCw X W ρ μ (.BoolOp .Or [a] pos) QT Z := ⟨pw_or1 h.run⟩
theorem wCw_and (h : wC X W ρ μ a (fun k μ1 => if k = true then wCw X W ρ μ1 (.BoolOp .And (b :: rest) pos) QT Z else QT false μ1) Z) : wCw X W ρ μ (.BoolOp .And (a :: b :: rest) pos) QT Z :=
  ⟨pw_of (pw_and h.run aW_ok) fun σ H R ⟨L, G, n, v, x⟩ => ⟨L, G, n, fun k μ1 q L1 G1 H1 s1 o1 => by
    cases k with
    | true => exact iteT ⟨_, (show wCw X W ρ μ1 _ QT Z from q).run, L1, G1, n.step s1 o1, (fun b μ' q => (v b μ' q).step s1), x.step s1⟩
    | false => exact iteF (v false μ1 q L1 G1 H1 s1 o1), x⟩⟩
theorem wCw_or (h : wC X W ρ μ a (fun k μ1 => if k = true then QT true μ1 else wCw X W ρ μ1 (.BoolOp .Or (b :: rest) pos) QT Z) Z) : wCw X W ρ μ (.BoolOp .Or (a :: b :: rest) pos) QT Z :=
  ⟨pw_of (pw_or h.run aW_ok) fun σ H R ⟨L, G, n, v, x⟩ => ⟨L, G, n, fun k μ1 q L1 G1 H1 s1 o1 => by
    cases k with
    | true => exact iteT (v true μ1 q L1 G1 H1 s1 o1)
    | false => exact iteF ⟨_, (show wCw X W ρ μ1 _ QT Z from q).run, L1, G1, n.step s1 o1, (fun b μ' q => (v b μ' q).step s1), x.step s1⟩, x⟩⟩

/-! #### arguments -/
variable {QA : KA}
theorem wA_nil (h : QA [] μ) : wA X W ρ μ [] QA Z := ⟨pa_of pa_nil fun σ H R ⟨L, G, n, v, x⟩ => v [] μ h [] L G H (.refl _ _ _) n.ok Reps.nil⟩
theorem wA_cons (h : wE X W ρ μ e (fun d μ1 => wA X W ρ μ1 es (fun ds μ2 => QA (d :: ds) μ2) Z) Z) (hs : starEach (e :: es) X.env = (false, eval e X.env) :: starEach es X.env := by rfl) : wA X W ρ μ (e :: es) QA Z :=
  ⟨pa_of (pa_cons h.run aA_ok hs) fun σ H R ⟨L, G, n, v, x⟩ => ⟨L, G, n, fun d μ1 q u L1 G1 H1 s1 o1 r1 => ⟨_, q.run, L1, G1, n.step s1 o1, fun ds μ2 q2 us L2 G2 H2 s2 o2 r2 => v _ _ q2 _ L2 G2 H2 (s1.trans s2) o2 (Reps.cons (r1.step s2) r2), x.step s1⟩, x⟩⟩
theorem wE_tup {k : Nat} (h : wA X W ρ μ es (fun ds μ1 => ds.length ≤ sizeLine ∧ Q (.tup ds) μ1) Z) : wE X W ρ μ (.Tuple es k pos) Q Z :=
  ⟨pe_of (pe_tup h.run) fun σ H R ⟨L, G, n, v, x⟩ => ⟨L, G, n, fun ds μ1 ⟨hl, q⟩ vs L1 G1 H1 s1 o1 r1 => ⟨by rw [r1.length]; exact hl, fun p hp => by
    obtain ⟨o', s'⟩ := o1.new (o := .tup vs) hp
    exact v _ _ q _ L1 _ _ (s1.trans s') o' (rep_tup.mpr ⟨p, vs, rfl, .inl (.inl upd_same), r1.step s'⟩)⟩, x⟩⟩
end
end PM

set_option Elab.async false
set_option linter.all false
set_option maxRecDepth 100000
namespace PM
open PySem L2
/-! ### statements -/
structure Ks where
  rt : KV
  bk : KN := fun _ _ => False
  ct : KN := fun _ _ => False
  xc : Addr → List Str → List D → Env' → List M → Prop := fun _ _ _ _ _ => False
abbrev Ks.z (κ : Ks) (ρ : Env') : KX := fun C ns ds μ => κ.xc C ns ds ρ μ
structure AccS (W : WX) (K : PySem.W.Frag) (L : List Addr) (G H : Hp) (D : Ends) (nx : KN) (κ : Ks) : Prop where
  nx : ∀ ρ μ, nx ρ μ → Ends' K L G H ρ μ D.nx
  bk : ∀ ρ μ, κ.bk ρ μ → Ends' K L G H ρ μ D.bk
  ct : ∀ ρ μ, κ.ct ρ μ → Ends' K L G H ρ μ D.ct
  rt : AccV K L G H κ.rt D.rt
  xc : ∀ C ns ds ρ μ, κ.xc C ns ds ρ μ → ∀ σ' dx L' G' H', Step L G H L' G' H' → Now K L' G' H' μ ρ σ' → XdAt K L' G' H' dx ns ds → W (.ref C) dx σ' H'
structure wS (X : Cx) (W : WX) (ρ : Env') (μ : List M) (st : Stmt) (nx : KN) (κ : Ks) : Prop where
  run : PS X st (fun D σ H => ∃ L G, Now X.K L G H μ ρ σ ∧ AccS W X.K L G H D nx κ)
structure wSs (X : Cx) (W : WX) (ρ : Env') (μ : List M) (st : List Stmt) (nx : KN) (κ : Ks) : Prop where
  run : PSs X st (fun D σ H => ∃ L G, Now X.K L G H μ ρ σ ∧ AccS W X.K L G H D nx κ)
structure wG (X : Cx) (W : WX) (ρ : Env') (μ : List M) (tg : Expr) (d : D) (nx : KN) : Prop where
  run : PG X tg (fun v σ H R => ∃ L G, Now X.K L G H μ ρ σ ∧ Rep X.K L G d v ∧ ∀ ρ' μ', nx ρ' μ' → Ends' X.K L G H ρ' μ' R)
section
variable {W : WX} {K : PySem.W.Frag} {L L1 : List Addr} {G H G1 H1 : Hp} {D : Ends} {nx nx' : KN} {κ : Ks} {ρ : Env'} {μ : List M} {σ : St}
theorem AccS.step (a : AccS W K L G H D nx κ) (s : Step L G H L1 G1 H1) : AccS W K L1 G1 H1 D nx κ :=
  ⟨fun ρ μ h => (a.nx ρ μ h).step s, fun ρ μ h => (a.bk ρ μ h).step s, fun ρ μ h => (a.ct ρ μ h).step s, a.rt.step s, fun C ns ds ρ μ h σ' dx L' G' H' s' => a.xc C ns ds ρ μ h σ' dx L' G' H' (s.trans s')⟩
theorem AccS.x (a : AccS W K L G H D nx κ) (n : Now K L G H μ ρ σ) : AccX W K L G H σ (κ.z ρ) := fun C ns ds μ' z dx L' G' H' s o x => a.xc C ns ds ρ μ' z σ dx L' G' H' s (n.step s o) x
end
section
variable {X : Cx} {W : WX} {ρ ρ1 : Env'} {μ μ1 μ2 : List M} {e a b c tg : Expr} {es : List Expr} {Q Q' : KV} {Z : KX} {d da db : D} {ds : List D} {pos : Pos} {nx nx' : KN} {κ : Ks} {st : Stmt} {rest A B : List Stmt} {x : Str} {N : List Str}
theorem wSs.of {q : Out} (h : PSs X rest (tS W X.K ρ μ q)) (hq : match q with | .next ρ μ => nx ρ μ | .brk ρ μ => κ.bk ρ μ | .cont ρ μ => κ.ct ρ μ | .ret d μ => κ.rt d μ | .exc C ns ds ρ μ => κ.xc C ns ds ρ μ) : wSs X W ρ μ rest nx κ :=
  ⟨pss_of h fun D σ H ⟨L, G, n, a⟩ => ⟨L, G, n, by
    cases q with
    | next ρ μ => exact a.nx ρ μ hq
    | brk ρ μ => exact a.bk ρ μ hq
    | cont ρ μ => exact a.ct ρ μ hq
    | ret d μ => exact a.rt d μ hq
    | exc C ns ds ρ μ => exact a.xc C ns ds ρ μ hq⟩⟩
theorem wS.of {q : Out} (h : PS X st (tS W X.K ρ μ q)) (hq : match q with | .next ρ μ => nx ρ μ | .brk ρ μ => κ.bk ρ μ | .cont ρ μ => κ.ct ρ μ | .ret d μ => κ.rt d μ | .exc C ns ds ρ μ => κ.xc C ns ds ρ μ) : wS X W ρ μ st nx κ :=
  ⟨ps_of h fun D σ H ⟨L, G, n, a⟩ => ⟨L, G, n, by
    cases q with
    | next ρ μ => exact a.nx ρ μ hq
    | brk ρ μ => exact a.bk ρ μ hq
    | cont ρ μ => exact a.ct ρ μ hq
    | ret d μ => exact a.rt d μ hq
    | exc C ns ds ρ μ => exact a.xc C ns ds ρ μ hq⟩⟩
theorem wSs_nil (h : nx ρ μ) : wSs X W ρ μ [] nx κ := ⟨pss_of pss_nil fun D σ H ⟨L, G, n, a⟩ => a.nx ρ μ h σ L G H (.refl _ _ _) n⟩
theorem wSs_cons (h : wS X W ρ μ st (fun ρ1 μ1 => wSs X W ρ1 μ1 rest nx κ) κ) : wSs X W ρ μ (st :: rest) nx κ :=
  ⟨pss_of (pss_cons h.run aSs_ok) fun D σ H ⟨L, G, n, a⟩ => ⟨L, G, n, fun ρ1 μ1 h1 σ1 L1 G1 H1 s1 n1 => ⟨_, h1.run, L1, G1, n1, a.step s1⟩, a.bk, a.ct, a.rt, a.xc⟩⟩
theorem wSs.imp (h : wSs X W ρ μ rest nx κ) (hn : ∀ ρ μ, nx ρ μ → nx' ρ μ) : wSs X W ρ μ rest nx' κ := ⟨pss_of h.run fun D σ H ⟨L, G, n, a⟩ => ⟨L, G, n, fun ρ μ q => a.nx ρ μ (hn ρ μ q), a.bk, a.ct, a.rt, a.xc⟩⟩
theorem wS.imp (h : wS X W ρ μ st nx κ) (hn : ∀ ρ μ, nx ρ μ → nx' ρ μ) : wS X W ρ μ st nx' κ := ⟨ps_of h.run fun D σ H ⟨L, G, n, a⟩ => ⟨L, G, n, fun ρ μ q => a.nx ρ μ (hn ρ μ q), a.bk, a.ct, a.rt, a.xc⟩⟩
/-- the store is told with less -/
theorem wSs.le (h : wSs X W ρ μ1 rest nx κ) (l : Le μ μ1) : wSs X W ρ μ rest nx κ := ⟨pss_of h.run fun D σ H ⟨L, G, n, a⟩ => ⟨L, G, ⟨l _ _ _ _ n.ok, n.env⟩, a⟩⟩
/-- the store may be told with more: some of these -/
theorem wSs.some {S : List M → Prop} (h : ∀ μ1, S μ1 → wSs X W ρ μ1 rest nx κ) (l : ∀ K L G H, Ok K L G H μ → ∃ μ1, S μ1 ∧ Ok K L G H μ1) : wSs X W ρ μ rest nx κ :=
  ⟨⟨fun pins s σ H D I ⟨L, G, n, a⟩ => by
    obtain ⟨μ1, s1, o1⟩ := l _ _ _ _ n.ok
    exact (h μ1 s1).run.run pins s σ H D I ⟨L, G, ⟨o1, n.env⟩, a⟩⟩⟩
/-- targets one by one -/
structure wGs (X : Cx) (W : WX) (ρ : Env') (μ : List M) (ts : List Expr) (ds : List D) (nx : KN) : Prop where
  run : PGs X ts (fun vs σ H R => ∃ L G, Now X.K L G H μ ρ σ ∧ Reps X.K L G ds vs ∧ ∀ ρ' μ', nx ρ' μ' → Ends' X.K L G H ρ' μ' R)
def aGs (X : Cx) (e : List Expr) : TGs := fun v σ H Q => ∃ t, PGs X e t ∧ t v σ H Q
theorem aGs_ok : PGs X es (aGs X es) := ⟨fun pins s σ H v u Q I r ⟨t, p, q⟩ => p.run pins s σ H v u Q I r q⟩
theorem wGs_nil (h : nx ρ μ) : wGs X W ρ μ [] [] nx := ⟨pgs_of pgs_nil fun v σ H R ⟨L, G, n, r, a⟩ => ⟨r.inv_nil, a _ _ h _ L G H (.refl _ _ _) n⟩⟩
theorem wGs_cons (h : wG X W ρ μ e d (fun ρ1 μ1 => wGs X W ρ1 μ1 es ds nx)) (hs : (assignEach (e :: es) X.env).map (·.2) = assign e X.env :: (assignEach es X.env).map (·.2) := by rfl) : wGs X W ρ μ (e :: es) (d :: ds) nx :=
  ⟨pgs_of (pgs_cons h.run aGs_ok hs) fun vs σ H R ⟨L, G, n, r, a⟩ => by
    obtain ⟨v, q, e, r1, r2⟩ := r.inv_cons
    exact ⟨v, q, e, L, G, n, r1, fun ρ1 μ1 q1 σ1 L1 G1 H1 s1 n1 => ⟨_, q1.run, L1, G1, n1, r2.step s1, fun ρ' μ' q' => (a ρ' μ' q').step s1⟩⟩⟩
theorem wG_tup {kk : Nat} (hc : X.calm = true) (h : wGs X W ρ μ es ds nx) (hn : (assignEach es X.env).length = ds.length := by rfl) (hst : (assignEach es X.env).findIdx? (·.1) = none := by rfl) : wG X W ρ μ (.Tuple es kk pos) (.tup ds) nx :=
  ⟨pg_of (pg_tup hc h.run hn hst) fun v σ H R ⟨L, G, n, r, a⟩ => by
    obtain ⟨a', vs, e, q, r⟩ := rep_tup.mp r
    exact ⟨a', vs, e, Same.sqT n.ok.sub q, r.length, L, G, n, r, a⟩⟩

theorem wS_expr (h : wE X W ρ μ e (fun _ μ1 => nx ρ μ1) (κ.z ρ)) (hs : swapsWith e none pos.line X.env = pure false := by rfl) : wS X W ρ μ (.Expr e pos) nx κ :=
  ⟨ps_of (ps_expr h.run hs) fun D σ H ⟨L, G, n, a⟩ => ⟨L, G, n, fun d μ1 q v L1 G1 H1 s1 o1 _ => a.nx _ _ q σ L1 G1 H1 s1 (n.step s1 o1), a.x n⟩⟩
theorem wS_asg (h : wE X W ρ μ e (fun d μ1 => wG X W ρ μ1 tg d nx) (κ.z ρ)) (hs : swapsWithSole [tg] e pos.line X.env = pure false := by rfl) (hw : swappedStores [tg] e X.env = pure none := by rfl)
    (h1 : (assignEach [tg] X.env).map (·.2) = [assign tg X.env] := by rfl) : wS X W ρ μ (.Assign [tg] e pos) nx κ :=
  ⟨ps_of (ps_asg h.run aG_ok hs hw h1) fun D σ H ⟨L, G, n, a⟩ => ⟨L, G, n, fun d μ1 q v L1 G1 H1 s1 o1 r1 => ⟨_, q.run, L1, G1, n.step s1 o1, r1, fun ρ' μ' q' => (a.nx ρ' μ' q').step s1⟩, a.x n⟩⟩
theorem wS_ret (h : wE X W ρ μ e κ.rt (κ.z ρ)) : wS X W ρ μ (.Return (some e) pos) nx κ := ⟨ps_of (ps_ret h.run) fun D σ H ⟨L, G, n, a⟩ => ⟨L, G, n, a.rt, a.x n⟩⟩
theorem wS_pass (h : nx ρ μ) : wS X W ρ μ (.Pass pos) nx κ := .of es_pass h
theorem wS_if (h : wC X W ρ μ c (fun k μ1 => if k = true then wSs X W ρ μ1 A nx κ else wSs X W ρ μ1 B nx κ) (κ.z ρ)) : wS X W ρ μ (.If c A B pos) nx κ :=
  ⟨ps_of (ps_if h.run aSs_ok aSs_ok) fun D σ H ⟨L, G, n, a⟩ => ⟨L, G, n, fun k μ1 q L1 G1 H1 s1 o1 => by
    cases k with
    | true => exact iteT ⟨_, (show wSs X W ρ μ1 A nx κ from q).run, L1, G1, n.step s1 o1, a.step s1⟩
    | false => exact iteF ⟨_, (show wSs X W ρ μ1 B nx κ from q).run, L1, G1, n.step s1 o1, a.step s1⟩, a.x n⟩⟩
/-- behind a statement all ways meet in nx' -/
theorem wSs_cut (nx' : KN) (h : wS X W ρ μ st nx' κ) (h2 : ∀ ρ1 μ1, nx' ρ1 μ1 → wSs X W ρ1 μ1 rest nx κ) : wSs X W ρ μ (st :: rest) nx κ := wSs_cons (h.imp h2)

/-! ### while -/
/-! ### for -/
/-- what is walked -/
structure wI (X : Cx) (W : WX) (ρ : Env') (μ : List M) (tg e : Expr) (Q : KA) (Z : KX) : Prop where
  run : PI X tg e (fun σ H R => ∃ L G, Now X.K L G H μ ρ σ ∧ (∀ ds μ', Q ds μ' → ∀ J L' G' H', Step L G H L' G' H' → Ok X.K L' G' H' μ' → JOk X.K J L' G' ds → R J H') ∧ AccX W X.K L G H σ Z)
/-- the rest of a loop -/
def wForD (X : Cx) (W : WX) (tg : Expr) (body : List Stmt) (nx : KN) (κ : Ks) : List D → KN
  | [], ρ, μ => nx ρ μ
  | d :: ds, ρ, μ => wG X W ρ μ tg d fun ρ1 μ1 => wSs X W ρ1 μ1 body (wForD X W tg body nx κ ds) { κ with bk := nx, ct := wForD X W tg body nx κ ds }
structure wFor (X : Cx) (W : WX) (tg : Expr) (body : List Stmt) (nx : KN) (κ : Ks) (ds : List D) (ρ : Env') (μ : List M) : Prop where
  run : wForD X W tg body nx κ ds ρ μ
theorem wS_for {body : List Stmt} (po : PassesOwn (model X.prog X.w) X.A X.env X.xe) (hc : X.calm = true) (h : wI X W ρ μ tg e (fun ds μ1 => wFor X W tg body nx κ ds ρ μ1) (κ.z ρ)) (hs : ∀ x, foldedSetIterable e X.env x = pure x := by intro _; rfl) : wS X W ρ μ (.For tg e body [] pos) nx κ := by
  refine ⟨ps_of (ps_for po hc h.run aG_ok aSs_ok hs) fun D σ H ⟨L, G, nw, a⟩ => ⟨L, G, nw, fun ds μ1 hf J L1 G1 H1 s1 o1 j => ?_, a.x nw⟩⟩
  refine ⟨fun i m σ' H' => m = ds.length - i ∧ i ≤ ds.length ∧ ∃ ρ' μ' L' G', wForD X W tg body nx κ (ds.drop i) ρ' μ' ∧ Pre L1 L' ∧ Same G1 G' ∧ Now X.K L' G' H' μ' ρ' σ' ∧ AccS W X.K L' G' H' D nx κ, ⟨ds.length, by simp, Nat.zero_le _, ρ, μ1, L1, G1, hf.run, .refl _, .refl _, nw.step s1 o1, a.step s1⟩, ?_⟩
  rintro i m σ2 H2 ⟨rfl, hil, ρ2, μ2, L2, G2, h2, p2, g2, n2, a2⟩
  generalize hd : ds.drop i = rest at h2
  cases rest with
  | nil =>
    have : i = ds.length := by
      have := congrArg List.length hd
      simp at this
      omega
    subst this
    exact .inl ⟨j.stop L2 G2 H2 μ2 p2 g2 n2.ok, a2.nx _ _ h2 _ L2 G2 H2 (.refl _ _ _) n2⟩
  | cons d ds' =>
    obtain ⟨e1, e2⟩ := drop_cons hd
    obtain ⟨go, yl⟩ := j.go L2 G2 H2 μ2 i d p2 g2 n2.ok e1
    have il : i < ds.length := (List.getElem?_eq_some_iff.mp e1).1
    refine .inr ⟨go, fun σ' H' => ∃ ρ' μ' L' G', wForD X W tg body nx κ ds' ρ' μ' ∧ Pre L1 L' ∧ Same G1 G' ∧ Now X.K L' G' H' μ' ρ' σ' ∧ AccS W X.K L' G' H' D nx κ, fun σ' H' ⟨ρ', μ', L', G', w', p', g', n', a'⟩ => ⟨ds.length - (i + 1), by omega, rfl, il, ρ', μ', L', G', by rw [e2]; exact w', p', g', n', a'⟩, fun x H3 y => ?_⟩
    obtain ⟨G3, s3, o3, r3⟩ := yl x H3 y
    refine ⟨_, (show wG X W ρ2 μ2 tg d _ from h2).run, L2, G3, n2.step s3 o3, r3, fun ρ4 μ4 h4 σ4 L4 G4 H4 s4 n4 => ⟨_, h4.run, L4, G4, n4, ?_⟩⟩
    have a4 := a2.step (s3.trans s4)
    have fin : ∀ ρ5 μ5, wForD X W tg body nx κ ds' ρ5 μ5 → Ends' X.K L4 G4 H4 ρ5 μ5 fun σ' H' => ∃ ρ' μ' L' G', wForD X W tg body nx κ ds' ρ' μ' ∧ Pre L1 L' ∧ Same G1 G' ∧ Now X.K L' G' H' μ' ρ' σ' ∧ AccS W X.K L' G' H' D nx κ :=
      fun ρ5 μ5 w5 σ5 L5 G5 H5 s5 n5 => ⟨ρ5, μ5, L5, G5, w5, (p2.trans s4.pre).trans s5.pre, ((g2.trans s3.gs).trans s4.gs).trans s5.gs, n5, a4.step s5⟩
    exact ⟨fin, a4.nx, fin, a4.rt, a4.xc⟩
/-- a loop by an invariant -/
theorem wFor_inv {body : List Stmt} (Iv : List D → KN) (hb : ∀ d ds ρ μ, Iv (d :: ds) ρ μ → wG X W ρ μ tg d fun ρ1 μ1 => wSs X W ρ1 μ1 body (Iv ds) { κ with bk := nx, ct := Iv ds }) (hn : ∀ ρ μ, Iv [] ρ μ → nx ρ μ) : ∀ ds ρ μ, Iv ds ρ μ → wFor X W tg body nx κ ds ρ μ := by
  suffices ∀ ds ρ μ, Iv ds ρ μ → wForD X W tg body nx κ ds ρ μ from fun ds ρ μ h => ⟨this ds ρ μ h⟩
  intro ds
  induction ds with
  | nil => intro ρ μ h; exact hn ρ μ h
  | cons d ds ih =>
    intro ρ μ h
    refine ⟨pg_of (hb d ds ρ μ h).run fun v σ H R ⟨L, G, n, r, a⟩ => ⟨L, G, n, r, fun ρ1 μ1 h1 => a ρ1 μ1 ?_⟩⟩
    refine ⟨pss_of h1.run fun D σ H ⟨L, G, n, a⟩ => ⟨L, G, n, fun ρ μ q => a.nx ρ μ (ih ρ μ q), a.bk, fun ρ μ q => a.ct ρ μ (ih ρ μ q), a.rt, a.xc⟩⟩
end
end PM

set_option Elab.async false
set_option linter.all false
set_option maxRecDepth 100000
namespace PM
open PySem L2
/-! ### defs -/
/-- what a def is asked for: any of these ends will do -/
def spH (K : PySem.W.Frag) (ds : List D) (μ : List M) (Q : KV) (Z : KX) : Sp := fun vs H R E => ∃ L G, Ok K L G H μ ∧ Reps K L G ds vs ∧ AccV K L G H Q R ∧ ∀ C ns ds' μ', Z C ns ds' μ' → ComesX K L G H C ns ds' μ' E
/-- a def: its place, its parameters, its level -/
structure Fnx where
  a : Addr
  fd : FuncData
  ps : List Str
  lv : Nat
def SpF (P : Program) (w : World) (K : PySem.W.Frag) (mg : Str → Option Value) (base : Heap) (f : Fnx) (ds : List D) (μ : List M) (Q : KV) (Z : KX) : Prop := FnG P w K mg base f.lv f.a f.fd f.ps (spH K ds μ Q Z)
abbrev SpX (X : Cx) (f : Fnx) (ds : List D) (μ : List M) (Q : KV) (Z : KX) : Prop := SpF X.prog X.w X.K X.mg X.base f ds μ Q Z
section
variable {P : Program} {w : World} {K : PySem.W.Frag} {mg : Str → Option Value} {base : Heap} {f : Fnx} {ds : List D} {μ : List M} {Q Q' : KV} {Z Z' : KX}
theorem SpF.mono (h : SpF P w K mg base f ds μ Q Z) (hq : ∀ d μ, Q d μ → Q' d μ) (hz : ∀ C ns ds μ, Z C ns ds μ → Z' C ns ds μ) : SpF P w K mg base f ds μ Q' Z' :=
  ⟨fun vs H R E ⟨L, G, ok, r, v, x⟩ => h.len vs H R E ⟨L, G, ok, r, v.mono hq, fun C ns ds' μ' z => x C ns ds' μ' (hz _ _ _ _ z)⟩,
   fun A outer s H args us vs R E room gr en bd rel ⟨L, G, ok, r, v, x⟩ => h.run A outer s H args us vs R E room gr en bd rel ⟨L, G, ok, r, v.mono hq, fun C ns ds' μ' z => x C ns ds' μ' (hz _ _ _ _ z)⟩⟩
theorem SpF.imp (h : SpF P w K mg base f ds μ Q Z) (hq : ∀ d μ, Q d μ → Q' d μ) : SpF P w K mg base f ds μ Q' Z := h.mono hq fun _ _ _ _ z => z
/-- a def whose ends are told one by one -/
theorem SpF.rel {R : Rl} (h : ∀ ds μ o, R ds μ o → SpF P w K mg base f ds μ (fun d μ' => o = .ret d μ') (fun C ns ds' μ' => o = .exc C ns ds' μ')) : FnG P w K mg base f.lv f.a f.fd f.ps (spR K R) := by
  have key : ∀ vs H Q E, spR K R vs H Q E → ∃ ds μ o, R ds μ o ∧ spH K ds μ (fun d μ' => o = .ret d μ') (fun C ns ds' μ' => o = .exc C ns ds' μ') vs H Q E := by
    rintro vs H Q E ⟨L, G, ds, μ, o, ok, r, hR, c⟩
    refine ⟨ds, μ, o, hR, L, G, ok, r, ?_, ?_⟩
    · rintro d μ' rfl
      exact c
    · rintro C ns ds' μ' rfl
      exact c
  refine ⟨fun vs H Q E q => ?_, fun A outer s H args us vs Q E room gr en bd rel q => ?_⟩
  · obtain ⟨ds, μ, o, hR, z⟩ := key vs H Q E q
    exact (h ds μ o hR).len _ _ _ _ z
  · obtain ⟨ds, μ, o, hR, z⟩ := key vs H Q E q
    exact (h ds μ o hR).run A outer s H args us vs Q E room gr en bd rel z
end
/-! ### what leaves a def -/
/-- things that the def has made are told as they stand at its end -/
inductive Frz (μ : List M) (b : Nat) : List D → List D → Prop
  | nil : Frz μ b [] []
  | lo {d : D} {ds es : List D} : D.lo b d = true → Frz μ b ds es → Frz μ b (d :: ds) (d :: es)
  | tup {xs ys ds es : List D} : Frz μ b xs ys → Frz μ b ds es → Frz μ b (.tup xs :: ds) (.tup ys :: es)
  | lst {xs ys ds es : List D} : Frz μ b xs ys → Frz μ b ds es → Frz μ b (.lst xs :: ds) (.lst ys :: es)
  | obj {C : Addr} {ns : List Str} {xs ys ds es : List D} : Frz μ b xs ys → Frz μ b ds es → Frz μ b (.obj C ns xs :: ds) (.obj C ns ys :: es)
  | locL {n : Nat} {xs ys ds es : List D} : b ≤ n → μ[n]? = some (.lst xs) → Frz μ b xs ys → Frz μ b ds es → Frz μ b (.loc n :: ds) (.lst ys :: es)
  | locI {n : Nat} {C : Addr} {ns : List Str} {xs ys ds es : List D} : b ≤ n → μ[n]? = some (.ins C ns xs) → Frz μ b xs ys → Frz μ b ds es → Frz μ b (.loc n :: ds) (.obj C ns ys :: es)
theorem Frz.len {μ : List M} {b : Nat} {ds es : List D} (h : Frz μ b ds es) : es.length = ds.length := by
  induction h with
  | nil => rfl
  | _ => simp [*]
theorem Frz.los {μ : List M} {b : Nat} : ∀ {ds : List D}, D.los b ds = true → Frz μ b ds ds
  | [], _ => .nil
  | d :: ds, h => by
    simp only [D.los, Bool.and_eq_true] at h
    exact .lo h.1 (Frz.los h.2)
section
variable {K : PySem.W.Frag} {L : List Addr} {G H : Hp} {μ μ2 ν : List M}
/-- the last things of the store are told, and left behind -/
theorem Ok.freeze (o : Ok K L G H (μ2 ++ ν)) (lo : μ2.all (M.lo μ2.length) = true) {L0 : List Addr} {G0 H0 : Hp} (s : Step L0 G0 H0 L G H) (hl : L0.length = μ2.length) :
    ∃ G', Step L0 G0 H0 (L.take μ2.length) G' H ∧ Same G G' ∧ Ok K (L.take μ2.length) G' H μ2 ∧ ∀ ds es vs, Frz (μ2 ++ ν) μ2.length ds es → Reps K L G ds vs → Reps K (L.take μ2.length) G' es vs := by
  classical
  have hll : L.length = μ2.length + ν.length := by rw [o.len, List.length_append]
  refine ⟨fun a => if a ∈ L.drop μ2.length then H a else G a, ?_⟩
  have sep : ∀ a, a ∈ L.take μ2.length → a ∉ L.drop μ2.length := fun a h1 h2 => by
    have := List.nodup_append.mp ((List.take_append_drop μ2.length L).symm ▸ o.nd)
    exact this.2.2 a h1 a h2 rfl
  have sg : Same G (fun a => if a ∈ L.drop μ2.length then H a else G a) := fun a u e => by
    have : a ∉ L.drop μ2.length := fun z => by
      rw [o.off a (List.mem_of_mem_drop z)] at e
      cases e
    simp only [this, if_false]
    exact e
  have c := o.cut lo
  have st := s.cut (n := μ2.length) (by omega)
  refine ⟨⟨st.pre, st.gs.trans sg, st.hs, st.fr, st.nn, fun a u e => ?_⟩, sg, ⟨fun a u e => ?_, c.len, c.nd, fun a ha => ?_, c.liv, fun n a m e1 e2 => (c.at_ n a m e1 e2).mono (.refl _) sg⟩, ?_⟩
  · by_cases z : a ∈ L.drop μ2.length
    · rcases s.fr a (List.mem_of_mem_drop z) with q | q
      · exfalso
        obtain ⟨j, hj, ej⟩ := List.getElem_of_mem q
        have e1 := s.pre j a (by rw [List.getElem?_eq_getElem hj, ej])
        refine sep a ?_ z
        rw [List.mem_iff_getElem?]
        exact ⟨j, by rw [List.getElem?_take_of_lt (by omega)]; exact e1⟩
      · exact .inr q
    · simp only [z, if_false] at e
      exact st.gf a u e
  · by_cases z : a ∈ L.drop μ2.length
    · simp only [z, if_true] at e
      exact e
    · simp only [z, if_false] at e
      exact c.sub a u e
  · simp only [sep a ha, if_false]
    exact c.off a ha
  · intro ds es vs h
    induction h generalizing vs with
    | nil => intro r; exact r.inv_nil ▸ Reps.nil
    | lo hd _ ih =>
      intro r
      obtain ⟨v, q, rfl, r1, r2⟩ := r.inv_cons
      exact Reps.cons ((r1.cut hd).mono (.refl _) sg) (ih q r2)
    | tup _ _ ih1 ih2 =>
      intro r
      obtain ⟨v, q, rfl, r1, r2⟩ := r.inv_cons
      obtain ⟨a, us, e, hq, r1⟩ := rep_tup.mp r1
      exact Reps.cons (rep_tup.mpr ⟨a, us, e, Same.sqT sg hq, ih1 us r1⟩) (ih2 q r2)
    | lst _ _ ih1 ih2 =>
      intro r
      obtain ⟨v, q, rfl, r1, r2⟩ := r.inv_cons
      obtain ⟨a, us, e, hq, r1⟩ := rep_lst.mp r1
      exact Reps.cons (rep_lst.mpr ⟨a, us, e, sg _ _ hq, ih1 us r1⟩) (ih2 q r2)
    | obj h1 _ ih1 ih2 =>
      intro r
      obtain ⟨v, q, rfl, r1, r2⟩ := r.inv_cons
      obtain ⟨a, dx, us, e, hq, z, r1⟩ := rep_obj.mp r1
      exact Reps.cons (rep_obj.mpr ⟨a, dx, us, e, sg _ _ hq, by rw [h1.len]; exact z, ih1 us r1⟩) (ih2 q r2)
    | locL hn hm _ _ ih1 ih2 =>
      intro r
      obtain ⟨v, q, rfl, r1, r2⟩ := r.inv_cons
      obtain ⟨a, ea, e⟩ := rep_loc.mp r1
      obtain ⟨us, eh, r1⟩ := o.at_ _ a _ ea hm
      have hd : a ∈ L.drop μ2.length := by
        rw [List.mem_iff_getElem?]
        exact ⟨_ - μ2.length, by rw [List.getElem?_drop, Nat.add_sub_cancel' hn]; exact ea⟩
      exact Reps.cons (rep_lst.mpr ⟨a, us, e, by simp only [hd, if_true]; exact eh, ih1 us r1⟩) (ih2 q r2)
    | locI hn hm h1 _ ih1 ih2 =>
      intro r
      obtain ⟨v, q, rfl, r1, r2⟩ := r.inv_cons
      obtain ⟨a, ea, e⟩ := rep_loc.mp r1
      obtain ⟨dx, us, eh, z, r1⟩ := o.at_ _ a _ ea hm
      have hd : a ∈ L.drop μ2.length := by
        rw [List.mem_iff_getElem?]
        exact ⟨_ - μ2.length, by rw [List.getElem?_drop, Nat.add_sub_cancel' hn]; exact ea⟩
      exact Reps.cons (rep_obj.mpr ⟨a, dx, us, e, by simp only [hd, if_true]; exact eh, by rw [h1.len]; exact z, ih1 us r1⟩) (ih2 q r2)
end
/-- what is handed back at a def's end, as the caller sees it (μ: the store at the entry) -/
inductive RetOk (μ : List M) (Q : KV) : D → List M → Prop
  | same {d : D} {μ1 : List M} : Q d μ1 → RetOk μ Q d μ1
  | cut {d d' : D} {μ2 ν : List M} : Lows μ μ2 → Frz (μ2 ++ ν) μ.length [d] [d'] → Q d' μ2 → RetOk μ Q d (μ2 ++ ν)
  | le {d : D} {μ1 μ2 : List M} : Le μ1 μ2 → RetOk μ Q d μ2 → RetOk μ Q d μ1
inductive ExcOk (μ : List M) (Z : KX) (C : Addr) (ns : List Str) : List D → List M → Prop
  | same {ds : List D} {μ1 : List M} : Z C ns ds μ1 → ExcOk μ Z C ns ds μ1
  | cut {ds ds' : List D} {μ2 ν : List M} : Lows μ μ2 → Frz (μ2 ++ ν) μ.length ds ds' → Z C ns ds' μ2 → ExcOk μ Z C ns ds (μ2 ++ ν)
  | le {ds : List D} {μ1 μ2 : List M} : Le μ1 μ2 → ExcOk μ Z C ns ds μ2 → ExcOk μ Z C ns ds μ1
theorem RetOk.new {μ ν : List M} {Q : KV} {d d' : D} (h : Frz (μ ++ ν) μ.length [d] [d']) (q : Q d' μ) : RetOk μ Q d (μ ++ ν) := .cut (.refl _) h q
theorem RetOk.low {μ ν : List M} {Q : KV} {d : D} (h : D.lo μ.length d = true) (q : Q d μ) : RetOk μ Q d (μ ++ ν) := .cut (.refl _) (.lo h .nil) q
theorem ExcOk.low {μ ν : List M} {Z : KX} {C : Addr} {ns : List Str} {ds : List D} (h : D.los μ.length ds = true) (q : Z C ns ds μ) : ExcOk μ Z C ns ds (μ ++ ν) := .cut (.refl _) (Frz.los h) q
section
variable {K : PySem.W.Frag} {L L1 : List Addr} {G H G1 H1 : Hp} {μ μ1 : List M} {Q : KV} {Z : KX} {d : D} {C : Addr} {ns : List Str} {ds : List D} {v : V} {R : VK} {E : XK}
theorem RetOk.go (h : RetOk μ Q d μ1) (ok : Ok K L G H μ) (a : AccV K L G H Q R) (s : Step L G H L1 G1 H1) (o : Ok K L1 G1 H1 μ1) (r : Rep K L1 G1 d v) : R v H1 := by
  induction h with
  | same q => exact a _ _ q v L1 G1 H1 s o r
  | cut l f q =>
    rename_i d' μ2 ν
    obtain ⟨G', s', _, o', rr⟩ := o.freeze (l.all ok) s (by rw [ok.len, l.1])
    obtain ⟨w, e, r'⟩ := (rr [d] [d'] [v] (by rw [l.1]; exact f) (Reps.cons r Reps.nil)).one
    cases e
    exact a _ _ q v _ _ H1 s' o' r'
  | le l _ ih => exact ih (l _ _ _ _ o)
theorem ExcOk.go {dx : Option Addr} (h : ExcOk μ Z C ns ds μ1) (ok : Ok K L G H μ) (a : ∀ C ns ds' μ', Z C ns ds' μ' → ComesX K L G H C ns ds' μ' E) (s : Step L G H L1 G1 H1) (o : Ok K L1 G1 H1 μ1) (x : XdAt K L1 G1 H1 dx ns ds) : E (.ref C) dx H1 := by
  induction h with
  | same q => exact a _ _ _ _ q dx L1 G1 H1 s o x
  | cut l f q =>
    obtain ⟨G', s', sg, o', rr⟩ := o.freeze (l.all ok) s (by rw [ok.len, l.1])
    refine a _ _ _ _ q dx _ _ H1 s' o' ⟨by rw [f.len]; exact x.1, ?_⟩
    rcases x.2 with z | ⟨b, vs, e1, e2, r⟩
    · exact .inl z
    · exact .inr ⟨b, vs, e1, sg _ _ e2, rr _ _ _ (by rw [l.1]; exact f) r⟩
  | le l _ ih => exact ih (l _ _ _ _ o)
end
end PM

set_option Elab.async false
set_option linter.all false
set_option maxRecDepth 100000
namespace PM
open PySem PySem.Spec L2 PyProof.Rows
section
variable {P : Program} {w : World} {K : PySem.W.Frag} {mg : Str → Option Value} {base : Heap}
/-- THE RULE for a def -/
theorem spF_of {x qual : Str} {st : Stmt} {dvs : List V} {f : Addr} {fd : FuncData} {N ps : List Str} {k : Nat} {ds : List D} {μ : List M} {Q : KV} {Z : KX} (F : FunS K x qual st dvs f fd) (S : FnScope N ps (defScope st)) (hl : ds.length = ps.length)
    (body : ∀ (cdv : Value) (A : Around) (outer : List Env) (s : Shared) (H : Hp) (E : XK), Gd (cxOf (L2.CX P w) P w K mg base N qual (defScope st) f cdv A outer s H E) (fun c d _ H => E c d H) k →
      wSs (cxOf (L2.CX P w) P w K mg base N qual (defScope st) f cdv A outer s H E) (fun c d _ H => E c d H) (startD N ds) μ (defBody st) (fun _ μ1 => RetOk μ Q .non μ1) { rt := RetOk μ Q, xc := fun C ns ds' _ μ1 => ExcOk μ Z C ns ds' μ1 }) :
    SpF P w K mg base ⟨f, fd, ps, k + 1⟩ ds μ Q Z := by
  have ln : ∀ vs H R E, spH K ds μ Q Z vs H R E → vs.length = ps.length := fun vs H R E ⟨L, G, _, r, _⟩ => r.length.trans hl
  refine ⟨ln, fun A outer s H args us vs R E room gr en bnd rel hsp => ?_⟩
  obtain ⟨oc, od, dV, kV, doc, pm, an, cdv, ct, osl, rfl, look, hcode, _, _⟩ := F.ex
  have kept : ∀ b o, base.get? b = some o → s.heap.get? b = some o := fun b o e => (en.bs b o e).1
  have kin : K.In s.heap := en.mod.kin.keeps kept
  have kinds : ∀ y ∈ ps.zip us, (defScope st).names.lookup y.1 = some .local ∨ ((defScope st).names.lookup y.1 = some .cell ∧ ((cellsFrom (s.heap.objs.size + 1) (defScope st).names []).lookup y.1).isSome = true) := by
    rintro ⟨n, v⟩ hy
    exact (S.par n (List.of_mem_zip hy).1).imp (fun q => q) fun q => ⟨q, PySem.W.cellsFrom_some _ _ _ (.inl q)⟩
  refine codeAny_call_function room.depth (kin _ _ look) rfl S.co S.gen rfl (PySem.W.codeRec_of kin hcode) (bnd _ _ _ _ (wpAny_newFunctionEnv_cells S.kind kinds fun env he s1 ent => ?_))
  subst he
  refine ⟨(en.mod.nolimit.keeps kept).keeps ent.toInCall.keep, codeAny_func ?_⟩
  have hlen := ln _ _ _ _ hsp
  obtain ⟨L, G, ok, rr, av, ax⟩ := hsp
  have ht := body cdv A outer s H E ⟨rfl, S.nd, takes_of rfl rfl rfl rfl, passes_of rfl, room.deeper _, gr.mono (Nat.le_succ _)⟩
  have inv : Inv (cxOf (L2.CX P w) P w K mg base N qual (defScope st) f cdv A outer s H E) [] (L2.start N vs) H s1 := inv_start S room.hd en hlen rel ent
  refine wpAny_mono (ht.run.run [] s1 (L2.start N vs) H { nx := fun _ H' => R .non H', rt := R } inv ⟨L, G, ⟨ok, start_rep rr⟩, ?_⟩) (fun fl s' hs => ?_) fun e s' hs => hs
  · exact ⟨fun ρ1 μ1 q σ' L' G' H' s' n' => q.go ok av s' n'.ok (rep_non.mpr rfl), fun _ _ z => z.elim, fun _ _ z => z.elim, fun d μ1 q v L' G' H' s' o' r' => q.go ok av s' o' r', fun C ns ds' ρ1 μ1 q σ' dx L' G' H' s' n' x' => q.go ok ax s' n'.ok x'⟩
  match fl, hs with
  | .ret u, ⟨v, σ', H', J, rv, q⟩ => exact ⟨v, H', J.os, J.bare, J.base, J.hok, rv, q⟩
  | .next, ⟨σ', H', J, q⟩ => exact ⟨.non, H', J.os, J.bare, J.base, J.hok, rfl, q⟩
  | .brk, ⟨_, _, _, q⟩ => exact q.elim
  | .cont, ⟨_, _, _, q⟩ => exact q.elim
end
section
variable {X : Cx} {W : WX} {k : Nat} {ρ : Env'} {μ μ1 μ2 : List M} {e a b ob : Expr} {es : List Expr} {Q Q' : KV} {Z : KX} {d da db : D} {ds ds' : List D} {p pos apos : Pos} {x m : Str} {f : Fnx} {C : Addr} {pl : Sem Bool} {i : Int}
/-- a def's call, by values -/
theorem SpF.call (h : SpX X f ds μ Q Z) (bd : Binds X.K f.fd f.ps []) (g : Gd X W k) (hj : f.lv ≤ k) : wF X W (fun us => call (.ref f.a) us) ds μ Q Z := by
  refine ⟨fun pins s σ H xs us R L G I rx ok r av ax => ?_⟩
  ·
    have hsp : spH X.K ds μ Q Z xs H R (WE W σ) := ⟨L, G, ok, r, av, ax⟩
    have hl : us.length = f.ps.length := by rw [← rx.length]; exact h.len _ _ _ _ hsp
    have b := bd s us I.kIn (by rw [List.append_nil]; exact hl)
    rw [List.append_nil] at b
    exact run_fnG (E := WE W σ) h (g.hr.mono hj) (g.gr.mono hj) b (passAt g.tk σ) I rx hsp
/-- arguments, then a call -/
theorem wA.call {fn : List Value → Sem Value} (h : wA X W ρ μ es (fun ds μ1 => wF X W fn ds μ1 Q Z) Z) {pins : List (Addr × Obj)} {s : Shared} {σ : L2.St} {H : Hp} {L : List Addr} {G : Hp} {R : VK} (I : Inv X pins σ H s) (n : Now X.K L G H μ ρ σ) (v : AccV X.K L G H Q R) (z : AccX W X.K L G H σ Z) (pos : Pos) :
    wpAny (model X.prog X.w) X.A (spliced (backTo pos (starEach es X.env))) (fun us s1 => X.K.In s1.heap ∧ wpAny (model X.prog X.w) X.A (fn us) (EP X pins σ R) X.xe s1) X.xe s :=
  thn (h.go I n z pos) fun us s1 ⟨vs, ds, μ1, L1, G1, H1, I1, rv, q, st, o, r⟩ => ⟨I1.kIn, q.run pins s1 σ H1 vs us R L1 G1 I1 rv o r (v.step st) (z.step st)⟩
theorem wE_call (f : Fnx) (g : Gd X W k) (hm : X.mg x = some (.ref f.a)) (hk : PySem.W.keepIn X.K (.ref f.a) = true) (bd : Binds X.K f.fd f.ps []) (h : wA X W ρ μ (e :: es) (fun ds μ1 => SpX X f ds μ1 Q Z) Z) (hj : f.lv ≤ k := by exact Nat.le_of_ble_eq_true rfl) (hg : Gl X x := by rfl)
    (hdb : (x == ("__debug__" : Str)) = false := by decide) (he : starEach (e :: es) X.env = (false, eval e X.env) :: starEach es X.env := by rfl) (hpl : (backTo pos (starEach es X.env)).any (·.1) = false := by rfl) :
    wE X W ρ μ (.Call (.Name x p) (e :: es) [] pos) Q Z :=
  .by fun pins s σ H R L G I n v z => wpAny_Call_Name_kw (ld_glob I hg hm (PySem.W.callWith_K (h₀ := X.base) I.ok.mod.kin hk (wA.call (fn := fun us => call (.ref f.a) us) ⟨pa_of h.run fun σ H R ⟨L, G, n, v, x⟩ => ⟨L, G, n, fun ds μ' q => v ds μ' (q.call bd g hj), x⟩⟩ I n v z pos) he hpl) hdb)
/-- o.f, a field -/
theorem wE_fld (h : wE X W ρ μ ob (fun d μ1 => ∃ ns fs, (d = .obj C ns fs ∨ ∃ i : Nat, d = .loc i ∧ μ1[i]? = some (.ins C ns fs)) ∧ ∃ d', fldOf ns fs m = some d' ∧ Q d' μ1) Z) (c : Cls X.K C) (na : NoAttr X.K C m) (hb : attributeBase ob m X.env (eval ob X.env) = eval ob X.env := by rfl) : wE X W ρ μ (.Attribute ob m pos) Q Z :=
  ⟨pe_of (pe_fld h.run hb) fun σ H R ⟨L, G, nw, av, ax⟩ => ⟨L, G, nw, fun d μ1 ⟨ns, fs, hd, d', hf, q⟩ v L1 G1 H1 s1 o1 r1 => by
    rcases hd with rfl | ⟨i, rfl, hi⟩
    · obtain ⟨a, dx, vs, ev, eg, _, rr⟩ := rep_obj.mp r1
      obtain ⟨u, l, ru⟩ := fld_rep rr hf
      exact ⟨a, C, dx, _, u, ev, o1.sub _ _ eg, c, na, l, av _ _ q u L1 G1 H1 s1 o1 ru⟩
    · obtain ⟨a, ea, ev⟩ := rep_loc.mp r1
      obtain ⟨dx, vs, eh, _, rr⟩ := o1.at_ i a _ ea hi
      obtain ⟨u, l, ru⟩ := fld_rep rr hf
      exact ⟨a, C, dx, _, u, ev, eh, c, na, l, av _ _ q u L1 G1 H1 s1 o1 ru⟩, ax⟩⟩
/-- a module's name: a constant, a class -/
theorem wE_glob {u : Value} {v : V} (hm : X.mg x = some u) (r : RelV v u) (rd : ∀ L G, Rep X.K L G d v) (h : Q d μ) (hg : Gl X x := by rfl) (hd : (x == ("__debug__" : Str)) = false := by decide) : wE X W ρ μ (.Name x pos) Q Z := .ofV (ev_glob hg hm r rd hd) h
theorem wE_bty {T : String} (hm : X.mg x = none) (hv : bootBuiltins x = some (.type T)) (h : Q (.ty T) μ) (hg : Gl X x := by rfl) (hn : x ≠ "__name__" := by decide) (hd : (x == ("__debug__" : Str)) = false := by decide) : wE X W ρ μ (.Name x pos) Q Z := .ofV (ev_bty hg hm hv hn hd) h
/-- built-ins -/
theorem wE_blt {id : String} (hm : X.mg x = none) (hv : bootBuiltins x = some (.builtin id)) (h : wA X W ρ μ (e :: es) (fun ds μ1 => wF X W (fun us => call (.builtin id) us) ds μ1 Q Z) Z) (hg : Gl X x := by rfl) (hn : x ≠ "__name__" := by decide) (hdb : (x == ("__debug__" : Str)) = false := by decide)
    (he : starEach (e :: es) X.env = (false, eval e X.env) :: starEach es X.env := by rfl) (hpl : (backTo pos (starEach es X.env)).any (·.1) = false := by rfl) : wE X W ρ μ (.Call (.Name x p) (e :: es) [] pos) Q Z := by
  refine .by fun pins s σ H R L G I n v z => ?_
  refine PyProof.Rows.Call_ (ld_blt I hg hm hv ?_ hn hdb)
  refine PyProof.Rows.callWith_builtin1 (thn (h.go I n z pos) fun us s1 ⟨vs, ds, μ1, L1, G1, H1, I1, rv, q, st, o, r⟩ => ?_) he hpl
  exact q.run pins s1 σ H1 vs us R L1 G1 I1 rv o r (v.step st) (z.step st)
theorem wE_bcl {T : String} (hm : X.mg x = none) (hv : bootBuiltins x = some (.type T)) (h : wA X W ρ μ (e :: es) (fun ds μ1 => wF X W (fun us => call (.type T) us) ds μ1 Q Z) Z) (hg : Gl X x := by rfl) (hn : x ≠ "__name__" := by decide) (hdb : (x == ("__debug__" : Str)) = false := by decide)
    (he : starEach (e :: es) X.env = (false, eval e X.env) :: starEach es X.env := by rfl) (hpl : (backTo pos (starEach es X.env)).any (·.1) = false := by rfl) : wE X W ρ μ (.Call (.Name x p) (e :: es) [] pos) Q Z := by
  refine .by fun pins s σ H R L G I n v z => ?_
  refine PyProof.Rows.Call_ (ld_blt I hg hm hv ?_ hn hdb)
  refine PyProof.Rows.callWith_type1 (thn (h.go I n z pos) fun us s1 ⟨vs, ds, μ1, L1, G1, H1, I1, rv, q, st, o, r⟩ => ?_) he hpl
  exact q.run pins s1 σ H1 vs us R L1 G1 I1 rv o r (v.step st) (z.step st)
/-- a list that nobody will change -/
theorem wE_lst (h : wA X W ρ μ es (fun ds μ1 => ds.length ≤ sizeLine ∧ Q (.lst ds) μ1) Z) : wE X W ρ μ (.List es pos) Q Z :=
  ⟨pe_of (pe_lst h.run) fun σ H R ⟨L, G, n, v, x⟩ => ⟨L, G, n, fun ds μ1 ⟨hl, q⟩ vs L1 G1 H1 s1 o1 r1 => ⟨by rw [r1.length]; exact hl, fun p hp => by
    obtain ⟨o', s'⟩ := o1.new (o := .lst vs) hp
    exact v _ _ q _ L1 _ _ (s1.trans s') o' (rep_lst.mpr ⟨p, vs, rfl, upd_same, r1.step s'⟩)⟩, x⟩⟩
/-- a list of the store -/
theorem wE_lstL (h : wA X W ρ μ es (fun ds μ1 => ds.length ≤ sizeLine ∧ Q (.loc μ1.length) (μ1 ++ [.lst ds])) Z) : wE X W ρ μ (.List es pos) Q Z :=
  ⟨pe_of (pe_lst h.run) fun σ H R ⟨L, G, n, v, x⟩ => ⟨L, G, n, fun ds μ1 ⟨hl, q⟩ vs L1 G1 H1 s1 o1 r1 => ⟨by rw [r1.length]; exact hl, fun p hp => by
    obtain ⟨o', s'⟩ := o1.alloc (o := .lst vs) (m := .lst ds) hp ⟨vs, upd_same, r1.mono .app (.refl _)⟩
    exact v _ _ q _ _ _ _ (s1.trans s') o' (rep_loc.mpr ⟨p, by rw [← o1.len]; exact last_get L1 p, rfl⟩)⟩, x⟩⟩

/-! ### subscripts -/
structure wX (X : Cx) (W : WX) (da db : D) (μ : List M) (Q : KV) (Z : KX) : Prop where
  run : ∀ (value slice : Expr) (pins : List (Addr × Obj)) (s : Shared) (σ : L2.St) (H : Hp) (x y : V) (v u : Value) (R : VK) (L : List Addr) (G : Hp), Inv X pins σ H s → RelV x v → RelV y u → Ok X.K L G H μ → Rep X.K L G da x → Rep X.K L G db y → AccV X.K L G H Q R → AccX W X.K L G H σ Z →
    subscripted slice false v u = operate [v, u] (getItem v u) → wpAny (model X.prog X.w) X.A (subscriptTail value slice v u) (EP X pins σ R) X.xe s
theorem wE_sub (h : wE X W ρ μ a (fun da μ1 => wE X W ρ μ1 b (fun db μ2 => wX X W da db μ2 Q Z) Z) Z) (hs : PlainIx b := by exact fun _ _ => rfl) : wE X W ρ μ (.Subscript a b pos) Q Z :=
  .by fun pins s σ H R L G I n v z => PyProof.Rows.Subscript_ (thn (h.go I n z) fun u s1 ⟨y, da, μ1, L1, G1, H1, I1, ry, hb, st1, o1, r1⟩ => thn (hb.go I1 (n.step st1 o1) (z.step st1)) fun u2 s2 ⟨y2, db, μ2, L2, G2, H2, I2, ry2, ho, st2, o2, r2⟩ =>
    ho.run a b pins s2 σ H2 y y2 u u2 R L2 G2 I2 ry ry2 o2 (r1.step st2) r2 (v.step (st1.trans st2)) (z.step (st1.trans st2)) (hs _ _))
theorem wX_at (hd : Ixd μ da ds) (h : atI ds i = some d) (q : Q d μ) : wX X W da (.int i) μ Q Z := by
  refine ⟨fun value slice pins s σ H x y v u R L G I rx ry ok r1 r2 av ax hs => ?_⟩
  have e2 := rep_int.mp r2
  rcases hd with rfl | rfl | rfl | ⟨k, rfl, hk⟩
  · obtain ⟨p, vs, e, hq, rr⟩ := rep_tup.mp r1
    obtain ⟨z, ez, rz⟩ := atI_rep rr h
    exact ix_tup value slice pins s σ H x y v u R I rx ry ⟨p, vs, i, z, e, e2, Same.sqT ok.sub hq, ez, av _ _ q z L G H (.refl _ _ _) ok rz⟩ hs
  · obtain ⟨p, vs, e, hq, rr⟩ := rep_lst.mp r1
    obtain ⟨z, ez, rz⟩ := atI_rep rr h
    exact ix_list value slice pins s σ H x y v u R I rx ry ⟨p, vs, i, z, e, e2, SqL.of (ok.sub _ _ hq), ez, av _ _ q z L G H (.refl _ _ _) ok rz⟩ hs
  · obtain ⟨p, vs, e, hq, rr⟩ := rep_scr.mp r1
    obtain ⟨z, ez, rz⟩ := atI_rep rr h
    exact ix_list value slice pins s σ H x y v u R I rx ry ⟨p, vs, i, z, e, e2, Same.sqL ok.sub hq, ez, av _ _ q z L G H (.refl _ _ _) ok rz⟩ hs
  · obtain ⟨p, ea, e⟩ := rep_loc.mp r1
    obtain ⟨vs, eh, rr⟩ := ok.at_ k p _ ea hk
    obtain ⟨z, ez, rz⟩ := atI_rep rr h
    exact ix_list value slice pins s σ H x y v u R I rx ry ⟨p, vs, i, z, e, e2, SqL.of eh, ez, av _ _ q z L G H (.refl _ _ _) ok rz⟩ hs
theorem atI_ofNat {α : Type} {l : List α} {n : Nat} {y : α} (h : l[n]? = some y) : atI l (n : Int) = some y := by
  unfold atI ixN
  have := (List.getElem?_eq_some_iff.mp h).1
  rw [if_pos (by omega), if_pos (by omega)]
  simpa using h
/-- some place of a sequence -/
theorem wX_some (hd : Ixd μ da ds) (h0 : 0 ≤ i) (h1 : i < ds.length) (q : ∀ (n : Nat) d, ds[n]? = some d → i = n → Q d μ) : wX X W da (.int i) μ Q Z := by
  have hn : i.toNat < ds.length := by omega
  have e : i = (i.toNat : Int) := by omega
  rw [e]
  exact wX_at hd (atI_ofNat (List.getElem?_eq_getElem hn)) (q _ _ (List.getElem?_eq_getElem hn) e)
inductive Ints : List D → List Int → Prop
  | nil : Ints [] []
  | cons {i : Int} {ds : List D} {is : List Int} : Ints ds is → Ints (.int i :: ds) (i :: is)
theorem Ints.get {ds : List D} {is : List Int} (h : Ints ds is) : ∀ (n : Nat) d, ds[n]? = some d → ∃ i, d = .int i ∧ is[n]? = some i := by
  induction h with
  | nil => intro n d e; simp at e
  | cons h ih =>
    intro n d e
    cases n with
    | zero => simp only [List.getElem?_cons_zero, Option.some.injEq] at e; exact ⟨_, e.symm, rfl⟩
    | succ n => simp only [List.getElem?_cons_succ] at e ⊢; exact ih n d e
theorem Ints.len {ds : List D} {is : List Int} (h : Ints ds is) : ds.length = is.length := by
  induction h with
  | nil => rfl
  | cons _ ih => simp [ih]
/-- one of some ints -/
theorem wX_ints {is : List Int} (hd : Ixd μ da ds) (hi : Ints ds is) (h0 : 0 ≤ i) (h1 : i < is.length) (q : ∀ v, v ∈ is → Q (.int v) μ) : wX X W da (.int i) μ Q Z :=
  wX_some hd h0 (by rw [hi.len]; exact h1) fun n d e _ => by
    obtain ⟨v, rfl, e2⟩ := hi.get n d e
    exact q v (List.mem_of_getElem? e2)
end
end PM

set_option Elab.async false
set_option linter.all false
set_option maxRecDepth 100000
namespace PM
open PySem L2
section
variable {X : Cx} {W : WX} {k : Nat} {ρ : Env'} {μ μ1 ν : List M} {Q : KV} {Z : KX} {QT : KT} {i j : Int} {x y : Str} {a b : Bool} {d : D} {ds : List D} {n : Nat}
/-! leaves: ints -/
theorem wB_add (h : Q (.int (i + j)) μ) : wB X W (binaryOp .Add) (.int i) (.int j) μ Q Z := .ofV oo_add h
theorem wB_sub (h : Q (.int (i - j)) μ) : wB X W (binaryOp .Sub) (.int i) (.int j) μ Q Z := .ofV oo_sub h
theorem wB_mul (c : CMulW i j) (h : Q (.int (i * j)) μ) : wB X W (binaryOp .Mult) (.int i) (.int j) μ Q Z := .ofV (oo_mul c) h
theorem wB_mulR (c : -(2 ^ 64) < j ∧ j < 2 ^ 64) (h : Q (.int (i * j)) μ) : wB X W (binaryOp .Mult) (.int i) (.int j) μ Q Z := .ofV (oo_mulS (.inr c)) h
theorem wB_mulL (c : -(2 ^ 64) < i ∧ i < 2 ^ 64) (h : Q (.int (i * j)) μ) : wB X W (binaryOp .Mult) (.int i) (.int j) μ Q Z := .ofV (oo_mulS (.inl c)) h
theorem wB_fdiv (c : CDivW i j) (h : Q (.int (i / j)) μ) : wB X W (binaryOp .FloorDiv) (.int i) (.int j) μ Q Z := .ofV (oo_fdiv c) h
theorem wB_fdivS (c : 0 < j ∧ j < 1073741824) (h : Q (.int (i / j)) μ) : wB X W (binaryOp .FloorDiv) (.int i) (.int j) μ Q Z := .ofV (oo_fdivS c) h
theorem wB_mod (c : 0 < j) (h : Q (.int (i % j)) μ) : wB X W (binaryOp .Mod) (.int i) (.int j) μ Q Z := .ofV (oo_mod c) h
theorem wB_pow (c : CPow i j) (h : Q (.int (i ^ j.toNat)) μ) : wB X W (binaryOp .Pow) (.int i) (.int j) μ Q Z := .ofV (oo_pow c) h
theorem wB_pow5 (h : Q (.int 100000) μ) : wB X W (binaryOp .Pow) (.int 10) (.int 5) μ Q Z := wB_pow ⟨by decide, by decide, by decide⟩ h
theorem wB_pow6 (h : Q (.int 1000000) μ) : wB X W (binaryOp .Pow) (.int 10) (.int 6) μ Q Z := wB_pow ⟨by decide, by decide, by decide⟩ h
theorem wB_pow7 (h : Q (.int 10000000) μ) : wB X W (binaryOp .Pow) (.int 10) (.int 7) μ Q Z := wB_pow ⟨by decide, by decide, by decide⟩ h
theorem wB_pow8 (h : Q (.int 100000000) μ) : wB X W (binaryOp .Pow) (.int 10) (.int 8) μ Q Z := wB_pow ⟨by decide, by decide, by decide⟩ h
theorem wB_pow9 (h : Q (.int 1000000000) μ) : wB X W (binaryOp .Pow) (.int 10) (.int 9) μ Q Z := wB_pow ⟨by decide, by decide, by decide⟩ h
theorem wB_pow18 (h : Q (.int 1000000000000000000) μ) : wB X W (binaryOp .Pow) (.int 10) (.int 18) μ Q Z := wB_pow ⟨by decide, by decide, by decide⟩ h
theorem wB_lt (h : Q (.bl (decide (i < j))) μ) : wB X W (compareOp .Lt) (.int i) (.int j) μ Q Z := .ofV oc_lt h
theorem wB_le (h : Q (.bl (decide (i ≤ j))) μ) : wB X W (compareOp .LtE) (.int i) (.int j) μ Q Z := .ofV oc_le h
theorem wB_gt (h : Q (.bl (decide (j < i))) μ) : wB X W (compareOp .Gt) (.int i) (.int j) μ Q Z := .ofV oc_gt h
theorem wB_ge (h : Q (.bl (decide (j ≤ i))) μ) : wB X W (compareOp .GtE) (.int i) (.int j) μ Q Z := .ofV oc_ge h
theorem wB_eq (h : Q (.bl (decide (i = j))) μ) : wB X W (compareOp .Eq) (.int i) (.int j) μ Q Z := .ofV oc_eq h
theorem wB_ne (h : Q (.bl (!decide (i = j))) μ) : wB X W (compareOp .NotEq) (.int i) (.int j) μ Q Z := .ofV oc_ne h
theorem wB_eqT (h : Q (.bl (decide (x = y))) μ) : wB X W (compareOp .Eq) (.str x) (.str y) μ Q Z := .ofV oc_eqT h
theorem wB_neT (h : Q (.bl (!decide (x = y))) μ) : wB X W (compareOp .NotEq) (.str x) (.str y) μ Q Z := .ofV oc_neT h
theorem wB_eqB (h : Q (.bl (decide (a = b))) μ) : wB X W (compareOp .Eq) (.bl a) (.bl b) μ Q Z := .ofV oc_eqB h
theorem wB_neB (h : Q (.bl (!decide (a = b))) μ) : wB X W (compareOp .NotEq) (.bl a) (.bl b) μ Q Z := .ofV oc_neB h
theorem wB_is (h : Q (.bl d.isN) μ) : wB X W (compareOp .Is) d .non μ Q Z := .ofV oc_is h
theorem wB_isNot (h : Q (.bl (!d.isN)) μ) : wB X W (compareOp .IsNot) d .non μ Q Z := .ofV oc_isNot h
theorem wB_catL {es : List D} (c : ds.length + es.length ≤ sizeLine) (h : Q (.lst (ds ++ es)) μ) : wB X W (binaryOp .Add) (.lst ds) (.lst es) μ Q Z := .ofV (oo_catL c) h
theorem wU_neg (h : Q (.int (-i)) μ) : wU X W (unaryOp .USub) (.int i) μ Q Z := .ofV ou_neg h
/-! leaves: built-ins -/
theorem wF_abs (h : Q (.int (i.natAbs : Nat)) μ) : wF X W (fun us => call (.builtin "abs") us) [.int i] μ Q Z := .ofV cb_abs (by
  rw [show (if i < 0 then -i else i) = ((i.natAbs : Nat) : Int) by split <;> omega]; exact h)
theorem wF_max (g : Gd X W k) (h : Q (.int (max i j)) μ) : wF X W (fun us => call (.builtin "max") us) [.int i, .int j] μ Q Z := .ofV (cb_max g.calm) (by
  rw [show (if j > i then j else i) = max i j by split <;> omega]; exact h)
theorem wF_min (g : Gd X W k) (h : Q (.int (min i j)) μ) : wF X W (fun us => call (.builtin "min") us) [.int i, .int j] μ Q Z := .ofV (cb_min g.calm) (by
  rw [show (if j < i then j else i) = min i j by split <;> omega]; exact h)
theorem wF_intB (h : Q (.int (if b = true then 1 else 0)) μ) : wF X W (fun us => call (.type "int") us) [.bl b] μ Q Z := .ofV ct_intB h
theorem wF_boolB (h : Q (.bl b) μ) : wF X W (fun us => call (.type "bool") us) [.bl b] μ Q Z := .ofV ct_boolB h
theorem wF_len (c : Ixd μ d ds) (h : Q (.int ds.length) μ) : wF X W (fun us => call (.builtin "len") us) [d] μ Q Z := by
  rcases c with rfl | rfl | rfl | ⟨n, rfl, e⟩
  · exact .ofV (cb_len _ (.inl rfl)) h
  · exact .ofV (cb_len _ (.inr (.inl rfl))) h
  · exact .ofV (cb_len _ (.inr (.inr rfl))) h
  · exact .ofV (cb_lenL e) h
theorem wF_tup (c : d = .lst ds ∨ d = .tup ds ∨ ∃ n : Nat, d = .loc n ∧ μ[n]? = some (.lst ds)) (h : Q (.tup ds) μ) : wF X W (fun us => call (.type "tuple") us) [d] μ Q Z := by
  rcases c with rfl | rfl | ⟨n, rfl, e⟩
  · exact .ofV ct_tup h
  · exact .ofV ct_tupT h
  · exact .ofV (ct_tupL e) h
theorem wF_all {bs : List Bool} (g : Gd X W k) (h : Q (.bl (bs.all id)) μ) : wF X W (fun us => call (.builtin "all") us) [.lst (bs.map D.bl)] μ Q Z := .ofV (cb_all g.calm) h
theorem wF_isi {c : D} {t u : Value} (y : TyD X.K d t) (kk : ClD c u) (hk : PySem.W.kitOne X.K t u = some b) (h : Q (.bl b) μ) : wF X W (fun us => call (.builtin "isinstance") us) [d, c] μ Q Z := .ofV (cb_isi y kk hk) h
/-! branches -/
theorem br_dec {p : Prop} [Decidable p] {A B : Prop} (h1 : p → A) (h2 : ¬p → B) : if decide p = true then A else B := by
  by_cases h : p
  · rw [if_pos (decide_eq_true h)]; exact h1 h
  · rw [if_neg (by simpa using h)]; exact h2 h
theorem br_T {k : Bool} {A B : Prop} (hk : k = true) (h : A) : if k = true then A else B := by rw [if_pos hk]; exact h
theorem br_F {k : Bool} {A B : Prop} (hk : k = false) (h : B) : if k = true then A else B := by rw [if_neg (by simp [hk])]; exact h
/-! the store -/
theorem at_left {m : M} (h : μ[n]? = some m) : (μ ++ ν)[n]? = some m := by
  rw [List.getElem?_append_left (List.getElem?_eq_some_iff.mp h).1]; exact h
theorem at_new {m : M} {q : Nat} (h : ν[q]? = some m) : (μ ++ ν)[μ.length + q]? = some m := by
  rw [List.getElem?_append_right (by omega), Nat.add_sub_cancel_left]; exact h
theorem at_last {m : M} : (μ ++ [m])[μ.length]? = some m := by simp
theorem set_last {m m' : M} : (μ ++ [m]).set μ.length m' = μ ++ [m'] := by
  rw [List.set_append_right _ _ (Nat.le_refl _), Nat.sub_self]; rfl
/-! lists of the store -/
variable {e o : Expr} {es : List Expr} {p pos apos : Pos}
/-- x[i] = e, x a list of the store -/
theorem wS_ix {nx : KN} {κ : Ks} {ia : Expr} {pos' : Pos} (h : wE X W ρ μ e (fun d μ1 => wE X W ρ μ1 o (fun d0 μ2 => wE X W ρ μ2 ia (fun di μ3 => ∃ (n : Nat) (i : Int) (ds : List D) (k : Nat), d0 = .loc n ∧ di = .int i ∧ μ3[n]? = some (.lst ds) ∧ ixN ds.length i = some k ∧ nx ρ (μ3.set n (.lst (ds.set k d)))) (κ.z ρ)) (κ.z ρ)) (κ.z ρ))
    (hs : swapsWithSole [.Subscript o ia pos'] e pos.line X.env = pure false := by rfl) (hw : swappedStores [.Subscript o ia pos'] e X.env = pure none := by rfl)
    (h3 : (assignEach [.Subscript o ia pos'] X.env).map (·.2) = [assign (.Subscript o ia pos') X.env] := by rfl)
    (hp : ∀ v, assign (.Subscript o ia pos') X.env v = (do
      let ov ← holding [v] (eval o X.env)
      let iv ← holding [v, ov] (eval ia X.env)
      standAt pos'
      holding [v, ov, iv] (setItem ov iv v)
      release [v, ov, iv] []) := by intro _; rfl) : wS X W ρ μ (.Assign [.Subscript o ia pos'] e pos) nx κ := by
  refine ⟨ps_of (ps_asg h.run (pg_sub aE_ok aE_ok set_list hp) hs hw h3) fun D σ H ⟨L, G, nw, a⟩ => ⟨L, G, nw, fun d μ1 h2 v L1 G1 H1 s1 o1 r1 => ⟨_, h2.run, L1, G1, nw.step s1 o1, fun d0 μ2 h3 u L2 G2 H2 s2 o2 r2 => ⟨_, h3.run, L2, G2, (nw.step s1 o1).step s2 o2, fun di μ3 h4 w L3 G3 H3 s3 o3 r3 => ?_, ((a.x nw).step s1).step s2⟩, (a.x nw).step s1⟩, a.x nw⟩⟩
  obtain ⟨n, i, ds, k, e1, e2, hn, hk, q⟩ := h4
  subst e1 e2
  obtain ⟨p, ea, ew⟩ := rep_loc.mp (r2.step s3)
  obtain ⟨vs, eh, rr⟩ := o3.at_ n p _ ea hn
  refine ⟨p, vs, i, k, ew, rep_int.mp r3, eh, by rw [rr.length]; exact hk, ?_⟩
  obtain ⟨o4, s4⟩ := o3.write (o := .lst (vs.set k v)) (m := .lst (ds.set k d)) ea ⟨_, upd_same, rr.set ((r1.step s2).step s3) k⟩
  exact a.nx _ _ q σ L3 G3 _ (((s1.trans s2).trans s3).trans s4) ⟨o4, (((nw.env.step s1).step s2).step s3).step s4⟩
/-! what is walked -/
variable {tg : Expr} {QA : KA}
theorem wI_lst (h : wE X W ρ μ e (fun d μ1 => ∃ ds, d = .lst ds ∧ QA ds μ1) Z) : wI X W ρ μ tg e QA Z :=
  ⟨pi_of (pi_list h.run) fun σ H R ⟨L, G, n, v, x⟩ => ⟨L, G, n, fun d μ1 ⟨ds, ed, q⟩ u L1 G1 H1 s1 o1 r1 => by
    subst ed
    obtain ⟨a, vs, ev, hq, rr⟩ := rep_lst.mp r1
    exact ⟨a, ev, ⟨vs, SqL.of (o1.sub _ _ hq)⟩, v ds μ1 q _ L1 G1 H1 s1 o1 (jok_lst (SqL.of hq) rr)⟩, x⟩⟩
theorem wI_tup (h : wE X W ρ μ e (fun d μ1 => ∃ ds, d = .tup ds ∧ QA ds μ1) Z) : wI X W ρ μ tg e QA Z :=
  ⟨pi_of (pi_tup h.run) fun σ H R ⟨L, G, n, v, x⟩ => ⟨L, G, n, fun d μ1 ⟨ds, ed, q⟩ u L1 G1 H1 s1 o1 r1 => by
    subst ed
    obtain ⟨a, vs, ev, hq, rr⟩ := rep_tup.mp r1
    exact ⟨a, ev, ⟨vs, Same.sqT o1.sub hq⟩, v ds μ1 q _ L1 G1 H1 s1 o1 (jok_tup hq rr)⟩, x⟩⟩
theorem wI_range1 (hm : X.mg "range" = none) (h : wE X W ρ μ e (fun d μ1 => ∃ j : Int, d = .int j ∧ (-(2 ^ 62) ≤ j ∧ j < 2 ^ 62) ∧ QA (rangeD 0 j.toNat) μ1) Z) (hg : Gl X "range" := by rfl) (hs : starEach [e] X.env = [(false, eval e X.env)] := by rfl) : wI X W ρ μ tg (.Call (.Name "range" p) [e] [] pos) QA Z :=
  ⟨pi_of (pi_range1 hg hm (pa_cons h.run pa_nil hs) hs) fun σ H R ⟨L, G, n, v, x⟩ => ⟨L, G, n, fun d μ1 ⟨j, ed, ⟨h1, h2⟩, q⟩ u L1 G1 H1 s1 o1 r1 => by
    subst ed
    exact ⟨j, by rw [rep_int.mp r1], h1, h2, v _ μ1 q _ L1 G1 H1 s1 o1 jok_rng⟩, x⟩⟩
end
section
variable {X : Cx} {W : WX} {μ : List M} {Q : KV} {Z : KX} {da x y : D} {b : Bool} {i j : Int}
/-- [x, y][int(b)] -/
theorem wX_if2 (hd : Ixd μ da [x, y]) (h : if b = true then Q y μ else Q x μ) : wX X W da (.int (if b = true then 1 else 0)) μ Q Z := by
  cases b with
  | true => exact wX_at hd rfl h
  | false => exact wX_at hd rfl h
theorem wX_if2I (hd : Ixd μ da [.int i, .int j]) (h : Q (.int (if b = true then j else i)) μ) : wX X W da (.int (if b = true then 1 else 0)) μ Q Z := by
  cases b with
  | true => exact wX_at hd rfl h
  | false => exact wX_at hd rfl h
end
/-! boxes -/
abbrev bxI (i j k : Int) : M := .lst [.int i, .int j, .int k]
theorem Ok.unbox {K : PySem.W.Frag} {L : List Addr} {G H : Hp} {μ : List M} {n : Nat} (o : Ok K L G H μ) (h : μ[n]? = some .box) : ∃ i j k, Ok K L G H (μ.set n (bxI i j k)) := by
  have hn : n < L.length := by rw [o.len]; exact (List.getElem?_eq_some_iff.mp h).1
  obtain ⟨i, j, k, e⟩ := o.at_ n L[n] _ (List.getElem?_eq_getElem hn) h
  refine ⟨i, j, k, o.sub, by simpa using o.len, o.nd, o.off, o.liv, fun q a m e1 e2 => ?_⟩
  by_cases hq : n = q
  · subst hq
    rw [List.getElem?_set_self (by rw [← o.len]; exact hn)] at e2
    rw [List.getElem?_eq_getElem hn] at e1
    cases e1
    cases e2
    exact ⟨_, e, Reps.cons (rep_int.mpr rfl) (Reps.cons (rep_int.mpr rfl) (Reps.cons (rep_int.mpr rfl) Reps.nil))⟩
  · rw [List.getElem?_set_ne hq] at e2
    exact o.at_ q a m e1 e2
theorem le_box {μ : List M} {n : Nat} {i j k : Int} (h : μ[n]? = some .box) : Le (μ.set n (bxI i j k)) μ := fun K L G H o => by
  have hn : n < μ.length := (List.getElem?_eq_some_iff.mp h).1
  have hl : n < L.length := by have := o.len; simp at this; omega
  refine ⟨o.sub, by simpa using o.len, o.nd, o.off, o.liv, fun q a m e1 e2 => ?_⟩
  by_cases hq : n = q
  · subst hq
    rw [h] at e2
    cases e2
    obtain ⟨vs, eh, r⟩ := o.at_ n a _ e1 (List.getElem?_set_self hn)
    obtain ⟨v1, r1, rfl, q1, t1⟩ := r.inv_cons
    obtain ⟨v2, v3, rfl, q2, q3⟩ := t1.two
    exact ⟨i, j, k, by rw [eh, rep_int.mp q1, rep_int.mp q2, rep_int.mp q3]⟩
  · exact o.at_ q a m e1 (by rw [List.getElem?_set_ne hq]; exact e2)
theorem le_newbox {μ : List M} {i j k : Int} : Le (μ ++ [bxI i j k]) (μ ++ [.box]) := fun K L G H o => by
  have := le_box (μ := μ ++ [.box]) (n := μ.length) (i := i) (j := j) (k := k) at_last
  rw [set_last] at this
  exact this K L G H o
end PM

set_option Elab.async false
set_option linter.all false
set_option maxRecDepth 100000
namespace PM
open PySem L2
/-! ### names: what a def's scope says is looked up once -/
inductive Kd where
  | no | loc | cell | free
def visB (sc : Scope) (x : Str) : Kd → Bool
  | .no => true
  | .loc => (sc.names.lookup x == some .local) && !(x == ("__debug__" : Str)) && !(x == ("__classdict__" : Str))
  | .cell => (sc.names.lookup x == some .cell) && !(x == ("__debug__" : Str)) && !(x == ("__classdict__" : Str))
  | .free => (sc.names.lookup x == some .free) && !(x == ("__debug__" : Str)) && !(x == ("__classdict__" : Str))
def nmB (sc : Scope) : List Str → List Kd → Bool
  | x :: N, v :: V => visB sc x v && nmB sc N V
  | _, _ => true
def ckB (N : List Str) (V : List Kd) (Gs : List Str) (sc : Scope) : Bool :=
  nmB sc N V && Gs.all fun x => (sc.names.lookup x == some .globalImplicit) && !(x == ("__debug__" : Str)) && !(x == ("__name__" : Str))
structure Nx' (X : Cx) (N : List Str) (V : List Kd) (Gs : List Str) : Prop where
  N_ : X.N = N
  ndN : N.Nodup
  ck : ckB N V Gs X.env.scope = true
structure Fx (X : Cx) (W : WX) (k : Nat) (N : List Str) (V : List Kd) (Gs : List Str) : Prop extends Gd X W k, Nx' X N V Gs
/-- the value of a name -/
inductive Gt : List Str → List Kd → Str → Env' → D → Prop
  | z {x : Str} {N : List Str} {V : List Kd} {d : D} {ρ : Env'} : Gt (x :: N) (.loc :: V) x (some d :: ρ) d
  | c {x : Str} {N : List Str} {V : List Kd} {d : D} {ρ : Env'} : Gt (x :: N) (.cell :: V) x (some d :: ρ) d
  | f {x : Str} {N : List Str} {V : List Kd} {d : D} {ρ : Env'} : Gt (x :: N) (.free :: V) x (some d :: ρ) d
  | s {x y : Str} {N : List Str} {v : Kd} {V : List Kd} {o : Option D} {ρ : Env'} {d : D} : Gt N V x ρ d → Gt (y :: N) (v :: V) x (o :: ρ) d
/-- a name's value is stored -/
inductive Pt : List Str → List Kd → Str → D → Env' → Env' → Nat → Prop
  | z {x : Str} {N : List Str} {V : List Kd} {d : D} {o : Option D} {ρ : Env'} : Pt (x :: N) (.loc :: V) x d (o :: ρ) (some d :: ρ) 0
  | c {x : Str} {N : List Str} {V : List Kd} {d : D} {o : Option D} {ρ : Env'} : Pt (x :: N) (.cell :: V) x d (o :: ρ) (some d :: ρ) 0
  | s {x y : Str} {N : List Str} {v : Kd} {V : List Kd} {d : D} {o : Option D} {ρ ρ' : Env'} {i : Nat} : Pt N V x d ρ ρ' i → Pt (y :: N) (v :: V) x d (o :: ρ) (o :: ρ') (i + 1)
/-- a name among others -/
inductive In : Str → List Str → Prop
  | z {x : Str} {Gs : List Str} : In x (x :: Gs)
  | s {x y : Str} {Gs : List Str} : In x Gs → In x (y :: Gs)
theorem In.mem {x : Str} {Gs : List Str} (h : In x Gs) : x ∈ Gs := by
  induction h with
  | z => exact List.mem_cons_self
  | s _ ih => exact List.mem_cons_of_mem _ ih
theorem Gt.ex {sc : Scope} {N : List Str} {V : List Kd} {x : Str} {ρ : Env'} {d : D} (h : Gt N V x ρ d) (nm : nmB sc N V = true) : ∃ i : Nat, N[i]? = some x ∧ ρ[i]? = some (some d) ∧ Vis sc x ∧ (x == ("__debug__" : Str)) = false ∧ (x == ("__classdict__" : Str)) = false := by
  induction h with
  | z =>
    simp only [nmB, visB, Bool.and_eq_true, Bool.not_eq_true', beq_iff_eq] at nm
    exact ⟨0, rfl, rfl, .inl nm.1.1.1, by simpa using nm.1.1.2, by simpa using nm.1.2⟩
  | c =>
    simp only [nmB, visB, Bool.and_eq_true, Bool.not_eq_true', beq_iff_eq] at nm
    exact ⟨0, rfl, rfl, .inr (.inl nm.1.1.1), by simpa using nm.1.1.2, by simpa using nm.1.2⟩
  | f =>
    simp only [nmB, visB, Bool.and_eq_true, Bool.not_eq_true', beq_iff_eq] at nm
    exact ⟨0, rfl, rfl, .inr (.inr nm.1.1.1), by simpa using nm.1.1.2, by simpa using nm.1.2⟩
  | s _ ih =>
    simp only [nmB, Bool.and_eq_true] at nm
    obtain ⟨i, h1, h2, h3⟩ := ih nm.2
    exact ⟨i + 1, by simpa using h1, by simpa using h2, h3⟩
theorem Pt.ex {sc : Scope} {N : List Str} {V : List Kd} {x : Str} {ρ ρ' : Env'} {d : D} {i : Nat} (h : Pt N V x d ρ ρ' i) (nm : nmB sc N V = true) : N[i]? = some x ∧ ρ' = ρ.set i (some d) ∧ Loc sc x := by
  induction h with
  | z =>
    simp only [nmB, visB, Bool.and_eq_true, Bool.not_eq_true', beq_iff_eq] at nm
    exact ⟨rfl, rfl, .inl nm.1.1.1⟩
  | c =>
    simp only [nmB, visB, Bool.and_eq_true, Bool.not_eq_true', beq_iff_eq] at nm
    exact ⟨rfl, rfl, .inr nm.1.1.1⟩
  | s _ ih =>
    simp only [nmB, Bool.and_eq_true] at nm
    obtain ⟨h1, h2, h3⟩ := ih nm.2
    exact ⟨by simpa using h1, by simp [h2], h3⟩
section
variable {X : Cx} {W : WX} {k : Nat} {N : List Str} {V : List Kd} {Gs : List Str} {ρ ρ' : Env'} {μ μ1 μ2 : List M} {e a b c ob : Expr} {es : List Expr} {Q Q' : KV} {Z : KX} {d da db : D} {ds ds' : List D} {p pos apos : Pos} {x y z m : Str} {nx : KN} {κ : Ks} {i j l : Nat}
theorem Nx'.nm (g : Nx' X N V Gs) : nmB X.env.scope N V = true := by
  have := g.ck
  simp only [ckB, Bool.and_eq_true] at this
  exact this.1
theorem Nx'.gl (g : Nx' X N V Gs) (h : In x Gs) : Gl X x ∧ (x == ("__debug__" : Str)) = false ∧ x ≠ ("__name__" : Str) := by
  have := g.ck
  simp only [ckB, Bool.and_eq_true, List.all_eq_true] at this
  have q := this.2 x h.mem
  simp only [Bool.not_eq_true', beq_iff_eq] at q
  exact ⟨q.1.1, by simpa using q.1.2, fun z => by rw [z] at q; simp at q⟩
/-- the value of a name, by what is wanted of it -/
structure wGt (N : List Str) (V : List Kd) (x : Str) (ρ : Env') (K : D → Prop) : Prop where
  ex : ∃ d, Gt N V x ρ d ∧ K d
theorem wGt_z {K : D → Prop} (h : K d) : wGt (x :: N) (.loc :: V) x (some d :: ρ) K := ⟨⟨d, .z, h⟩⟩
theorem wGt_c {K : D → Prop} (h : K d) : wGt (x :: N) (.cell :: V) x (some d :: ρ) K := ⟨⟨d, .c, h⟩⟩
theorem wGt_f {K : D → Prop} (h : K d) : wGt (x :: N) (.free :: V) x (some d :: ρ) K := ⟨⟨d, .f, h⟩⟩
theorem wGt_s {v : Kd} {o : Option D} {K : D → Prop} (h : wGt N V x ρ K) : wGt (y :: N) (v :: V) x (o :: ρ) K := let ⟨⟨d, h1, h2⟩⟩ := h; ⟨⟨d, .s h1, h2⟩⟩
theorem wGt_chk {K : D → Prop} (h : wGt N V x ρ K) : wGt N V x ρ K := h
structure wPt (N : List Str) (V : List Kd) (x : Str) (d : D) (ρ : Env') (K : Env' → Prop) : Prop where
  ex : ∃ ρ' i, Pt N V x d ρ ρ' i ∧ K ρ'
theorem wPt_z {o : Option D} {K : Env' → Prop} (h : K (some d :: ρ)) : wPt (x :: N) (.loc :: V) x d (o :: ρ) K := ⟨⟨_, 0, .z, h⟩⟩
theorem wPt_c {o : Option D} {K : Env' → Prop} (h : K (some d :: ρ)) : wPt (x :: N) (.cell :: V) x d (o :: ρ) K := ⟨⟨_, 0, .c, h⟩⟩
theorem wPt_s {v : Kd} {o : Option D} {K : Env' → Prop} (h : wPt N V x d ρ (fun ρ' => K (o :: ρ'))) : wPt (y :: N) (v :: V) x d (o :: ρ) K := let ⟨⟨ρ', i, h1, h2⟩⟩ := h; ⟨⟨_, i + 1, .s h1, h2⟩⟩
/-- the place of a name that is stored -/
inductive Ix : List Str → List Kd → Str → Nat → Prop
  | z {x : Str} {N : List Str} {V : List Kd} : Ix (x :: N) (.loc :: V) x 0
  | c {x : Str} {N : List Str} {V : List Kd} : Ix (x :: N) (.cell :: V) x 0
  | s {x y : Str} {N : List Str} {v : Kd} {V : List Kd} {i : Nat} : Ix N V x i → Ix (y :: N) (v :: V) x (i + 1)
inductive Il : List Str → List Kd → Str → Nat → Prop
  | z {x : Str} {N : List Str} {V : List Kd} : Il (x :: N) (.loc :: V) x 0
  | s {x y : Str} {N : List Str} {v : Kd} {V : List Kd} {i : Nat} : Il N V x i → Il (y :: N) (v :: V) x (i + 1)
theorem Ix.ex {sc : Scope} (h : Ix N V x i) (nm : nmB sc N V = true) : N[i]? = some x ∧ Loc sc x := by
  induction h with
  | z =>
    simp only [nmB, visB, Bool.and_eq_true, Bool.not_eq_true', beq_iff_eq] at nm
    exact ⟨rfl, .inl nm.1.1.1⟩
  | c =>
    simp only [nmB, visB, Bool.and_eq_true, Bool.not_eq_true', beq_iff_eq] at nm
    exact ⟨rfl, .inr nm.1.1.1⟩
  | s _ ih =>
    simp only [nmB, Bool.and_eq_true] at nm
    obtain ⟨h1, h3⟩ := ih nm.2
    exact ⟨by simpa using h1, h3⟩
theorem Il.ex {sc : Scope} (h : Il N V x i) (nm : nmB sc N V = true) : N[i]? = some x ∧ sc.names.lookup x = some .local := by
  induction h with
  | z =>
    simp only [nmB, visB, Bool.and_eq_true, Bool.not_eq_true', beq_iff_eq] at nm
    exact ⟨rfl, nm.1.1.1⟩
  | s _ ih =>
    simp only [nmB, Bool.and_eq_true] at nm
    obtain ⟨h1, h3⟩ := ih nm.2
    exact ⟨by simpa using h1, h3⟩
theorem wPt.set {sc : Scope} {K : Env' → Prop} (h : wPt N V x d ρ K) (nm : nmB sc N V = true) (nd : N.Nodup) (e : N[i]? = some x) : K (ρ.set i (some d)) := by
  obtain ⟨ρ', j, p, q⟩ := h.ex
  obtain ⟨e1, rfl, _⟩ := p.ex nm
  rwa [(List.getElem?_inj (List.getElem?_eq_some_iff.mp e).1 nd).mp (e.trans e1.symm)]
theorem wE_name (g : Nx' X N V Gs) (h : wGt N V x ρ (fun d => Q d μ)) : wE X W ρ μ (.Name x pos) Q Z := by
  obtain ⟨d, hd, h⟩ := h.ex
  obtain ⟨i, e1, e2, e3, e4, e5⟩ := hd.ex g.nm
  exact .ofV (ev_var i e2 (by rw [g.N_]; exact e1) e3 e4 e5) h
theorem wG_name (g : Nx' X N V Gs) (h : wPt N V x d ρ (fun ρ' => nx ρ' μ)) (hf : ∀ x, X.fn x = true := by intro _; rfl) : wG X W ρ μ (.Name x pos) d nx := by
  obtain ⟨ρ', i, hp, h⟩ := h.ex
  obtain ⟨e1, rfl, e3⟩ := hp.ex g.nm
  exact ⟨pg_of (eg_name (ρ := ρ) (μ := μ) (d := d) i (by rw [g.N_]; exact g.ndN) (by rw [g.N_]; exact e1) e3 (.inl (hf x))) fun v σ H R ⟨L, G, n, r, a⟩ => ⟨L, G, n, r, a _ _ h⟩⟩
theorem wS_set {pos' : Pos} (g : Nx' X N V Gs) (hi : ∃ i, Ix N V x i) (h : wE X W ρ μ e (fun d μ1 => wPt N V x d ρ (fun ρ' => nx ρ' μ1)) (κ.z ρ)) (hs : swapsWith e (some (.Name x pos')) pos.line X.env = pure false := by rfl) (hf : ∀ x, X.fn x = true := by intro _; rfl) : wS X W ρ μ (.Assign [.Name x pos'] e pos) nx κ := by
  obtain ⟨i, hi⟩ := hi
  obtain ⟨e1, e3⟩ := hi.ex g.nm
  have nd := g.ndN
  exact ⟨ps_of (ps_set (by rw [g.N_]; exact g.ndN) (by rw [g.N_]; exact e1) e3 h.run hs (.inl (hf x))) fun D σ H ⟨L, G, n, a⟩ => ⟨L, G, n, fun d μ1 q v L1 G1 H1 s1 o1 r1 => a.nx _ _ (q.set g.nm nd e1) _ L1 G1 H1 s1 ⟨o1, (n.env.step s1).set r1 i⟩, a.x n⟩⟩
/-- the stores of a, b = x, y -/
theorem swapped2 {env : Env} {px py pt pt2 : Pos} {kt k2 : Nat} (hk : env.blockKind = .function) (hx : env.scope.names.lookup x = some .local) (hy : env.scope.names.lookup y = some .local) (hxy : x ≠ y) (hl : (py.line == px.line) = true)
    (h1 : ([a, b].any fun | .Starred .. => true | _ => false) = false) (h2 : [a, b].all (foldedForSure 8) = false) (h3 : [a, b].all (constantsAlone 8) = false) : swappedStores [.Tuple [.Name x px, .Name y py] kt pt] (.Tuple [a, b] k2 pt2) env = pure (some [x, y]) := by
  unfold swappedStores
  have k1 : (env.kindOf x == some .local) = true := by unfold Env.kindOf; rw [hx]; rfl
  have k2 : (env.kindOf y == some .local) = true := by unfold Env.kindOf; rw [hy]; rfl
  have ed : [x, y].eraseDups.length = 2 := by
    have : (y == x) = false := by simpa using fun z => hxy z.symm
    simp [List.eraseDups_cons, this]
  have hb : (env.blockKind != ScopeKind.function) = false := by rw [hk]; rfl
  simp only [List.length_cons, List.length_nil, hb, h1, List.head?_cons, Option.map_some, Option.getD_some, List.filterMap_cons, List.filterMap_nil, Expr.pos, k1, k2, hl, Bool.true_and, beq_self_eq_true, if_true, ed, h2, h3]
  rw [if_neg (by decide), if_neg (fun h => Bool.noConfusion (h.symm.trans h1))]
  rfl
theorem wS_par {px py pt : Pos} {kt k2 pt2} (g : Fx X W k N V Gs) (hp : ∃ i j, Il N V x i ∧ Il N V y j ∧ i ≠ j) (ha : wA X W ρ μ [a, b] (fun ds μ1 => ∃ da db, ds = [da, db] ∧ wPt N V x da ρ (fun ρ1 => wPt N V y db ρ1 (fun ρ2 => nx ρ2 μ1))) (κ.z ρ)) 
    (hk : X.env.blockKind = .function := by rfl) (hl : (py.line == px.line) = true := by rfl) (h1 : ([a, b].any fun | .Starred .. => true | _ => false) = false := by rfl) (h2 : [a, b].all (foldedForSure 8) = false := by rfl) (h3 : [a, b].all (constantsAlone 8) = false := by rfl) :
    wS X W ρ μ (.Assign [.Tuple [.Name x px, .Name y py] kt pt] (.Tuple [a, b] k2 pt2) pos) nx κ := by
  obtain ⟨i, j, p1, p2, hij⟩ := hp
  obtain ⟨e1, l1⟩ := p1.ex g.nm
  obtain ⟨e2, l2⟩ := p2.ex g.nm
  have nd := g.nd
  rw [g.N_] at nd
  have hxy : x ≠ y := fun t => hij ((List.getElem?_inj (List.getElem?_eq_some_iff.mp e1).1 nd).mp (e1.trans (by rw [t]; exact e2.symm)))
  exact ⟨ps_of (ps_par g.calm g.nd (by rw [g.N_]; exact e1) (by rw [g.N_]; exact e2) hij l1 l2 ha.run (swapped2 hk l1 l2 hxy hl h1 h2 h3) rfl) fun D σ H ⟨L, G, n, ac⟩ => ⟨L, G, n, fun ds μ1 ⟨da, db, e0, q⟩ vs L1 G1 H1 s1 o1 r1 => by
    subst e0
    obtain ⟨v, w, e, q1, q2⟩ := r1.two
    subst e
    exact ⟨v, w, rfl, ac.nx _ _ ((q.set g.nm nd e1).set g.nm nd e2) _ L1 G1 H1 s1 ⟨o1, ((n.env.step s1).set q1 i).set q2 j⟩⟩, ac.x n⟩⟩
theorem swapped3 {env : Env} {px py pz pt pt2 : Pos} {kt k2 : Nat} (hk : env.blockKind = .function) (hx : env.scope.names.lookup x = some .local) (hy : env.scope.names.lookup y = some .local) (hz : env.scope.names.lookup z = some .local) (hxy : x ≠ y) (hxz : x ≠ z) (hyz : y ≠ z) (hl : (py.line == px.line) = true) (hl2 : (pz.line == px.line) = true)
    (h1 : ([a, b, c].any fun | .Starred .. => true | _ => false) = false) (h2 : [a, b, c].all (foldedForSure 8) = false) (h3 : [a, b, c].all (constantsAlone 8) = false) : swappedStores [.Tuple [.Name x px, .Name y py, .Name z pz] kt pt] (.Tuple [a, b, c] k2 pt2) env = pure (some [x, y, z]) := by
  unfold swappedStores
  have k1 : (env.kindOf x == some .local) = true := by unfold Env.kindOf; rw [hx]; rfl
  have k2 : (env.kindOf y == some .local) = true := by unfold Env.kindOf; rw [hy]; rfl
  have k3 : (env.kindOf z == some .local) = true := by unfold Env.kindOf; rw [hz]; rfl
  have ed : [x, y, z].eraseDups.length = 3 := by
    have e1 : (y == x) = false := by simpa using fun z => hxy z.symm
    have e2 : (z == x) = false := by simpa using fun t => hxz t.symm
    have e3 : (z == y) = false := by simpa using fun t => hyz t.symm
    simp [List.eraseDups_cons, e1, e2, e3]
  have hb : (env.blockKind != ScopeKind.function) = false := by rw [hk]; rfl
  simp only [List.length_cons, List.length_nil, hb, h1, List.head?_cons, Option.map_some, Option.getD_some, List.filterMap_cons, List.filterMap_nil, Expr.pos, k1, k2, k3, hl, hl2, Bool.true_and, beq_self_eq_true, if_true, ed, h2, h3]
  rw [if_neg (by decide), if_neg (fun h => Bool.noConfusion (h.symm.trans h1))]
  rfl
theorem wS_par3 {px py pz pt : Pos} {kt k2 pt2} (g : Fx X W k N V Gs) (hp : ∃ i j l, Il N V x i ∧ Il N V y j ∧ Il N V z l ∧ i ≠ j ∧ i ≠ l ∧ j ≠ l) (ha : wA X W ρ μ [a, b, c] (fun ds μ1 => ∃ da db dc, ds = [da, db, dc] ∧ wPt N V x da ρ (fun ρ1 => wPt N V y db ρ1 (fun ρ2 => wPt N V z dc ρ2 (fun ρ3 => nx ρ3 μ1)))) (κ.z ρ))
    (hk : X.env.blockKind = .function := by rfl) (hl : (py.line == px.line) = true := by rfl) (hl2 : (pz.line == px.line) = true := by rfl) (h1 : ([a, b, c].any fun | .Starred .. => true | _ => false) = false := by rfl) (h2 : [a, b, c].all (foldedForSure 8) = false := by rfl) (h3 : [a, b, c].all (constantsAlone 8) = false := by rfl) :
    wS X W ρ μ (.Assign [.Tuple [.Name x px, .Name y py, .Name z pz] kt pt] (.Tuple [a, b, c] k2 pt2) pos) nx κ := by
  obtain ⟨i, j, l, p1, p2, p3, hij, hil, hjl⟩ := hp
  obtain ⟨e1, l1⟩ := p1.ex g.nm
  obtain ⟨e2, l2⟩ := p2.ex g.nm
  obtain ⟨e3, l3⟩ := p3.ex g.nm
  have nd := g.nd
  rw [g.N_] at nd
  have ne : ∀ {s t : Str} {i j : Nat}, N[i]? = some s → N[j]? = some t → i ≠ j → s ≠ t := fun e1 e2 hij t => hij ((List.getElem?_inj (List.getElem?_eq_some_iff.mp e1).1 nd).mp (e1.trans (by rw [t]; exact e2.symm)))
  exact ⟨ps_of (ps_par3 g.calm g.nd (by rw [g.N_]; exact e1) (by rw [g.N_]; exact e2) (by rw [g.N_]; exact e3) hij hil hjl l1 l2 l3 ha.run (swapped3 hk l1 l2 l3 (ne e1 e2 hij) (ne e1 e3 hil) (ne e2 e3 hjl) hl hl2 h1 h2 h3) rfl) fun D σ H ⟨L, G, n, ac⟩ => ⟨L, G, n, fun ds μ1 ⟨da, db, dc, e0, q⟩ vs L1 G1 H1 s1 o1 r1 => by
    subst e0
    obtain ⟨v, r, rfl, q1, r1⟩ := r1.inv_cons
    obtain ⟨u, w, e, q2, q3⟩ := r1.two
    subst e
    exact ⟨v, u, w, rfl, ac.nx _ _ (((q.set g.nm nd e1).set g.nm nd e2).set g.nm nd e3) _ L1 G1 H1 s1 ⟨o1, (((n.env.step s1).set q1 i).set q2 j).set q3 l⟩⟩, ac.x n⟩⟩
/-! is it this name? -/
theorem chkC (x : Str) {kws : List Keyword} (h : wE X W ρ μ (.Call (.Name x p) es kws pos) Q Z) : wE X W ρ μ (.Call (.Name x p) es kws pos) Q Z := h
theorem chkN (x : Str) (h : wE X W ρ μ (.Name x pos) Q Z) : wE X W ρ μ (.Name x pos) Q Z := h
theorem chkA (m : Str) (h : wE X W ρ μ (.Attribute e m pos) Q Z) : wE X W ρ μ (.Attribute e m pos) Q Z := h
theorem chkB (id : String) (h : wF X W (fun us => call (.builtin id) us) ds μ Q Z) : wF X W (fun us => call (.builtin id) us) ds μ Q Z := h
/-! what kind of goal? -/
theorem hdE (h : wE X W ρ μ e Q Z) : wE X W ρ μ e Q Z := h
theorem hdc {kws : List Keyword} (h : wE X W ρ μ (.Call (.Name x p) es kws pos) Q Z) : wE X W ρ μ (.Call (.Name x p) es kws pos) Q Z := h
theorem hdn (h : wE X W ρ μ (.Name x pos) Q Z) : wE X W ρ μ (.Name x pos) Q Z := h
theorem hda (h : wE X W ρ μ (.Attribute e m pos) Q Z) : wE X W ρ μ (.Attribute e m pos) Q Z := h
theorem hdm {kws : List Keyword} (h : wE X W ρ μ (.Call (.Attribute e m apos) es kws pos) Q Z) : wE X W ρ μ (.Call (.Attribute e m apos) es kws pos) Q Z := h
theorem hdA {QA : KA} (h : wA X W ρ μ es QA Z) : wA X W ρ μ es QA Z := h
theorem hdB {f : Value → Value → Sem Value} (h : wB X W f da db μ Q Z) : wB X W f da db μ Q Z := h
theorem hdU {f : Value → Sem Value} (h : wU X W f da μ Q Z) : wU X W f da μ Q Z := h
theorem hdF {f : List Value → Sem Value} (h : wF X W f ds μ Q Z) : wF X W f ds μ Q Z := h
theorem hdX (h : wX X W da db μ Q Z) : wX X W da db μ Q Z := h
theorem hdC {QT : KT} (h : wC X W ρ μ e QT Z) : wC X W ρ μ e QT Z := h
theorem hdW {QT : KT} (h : wCw X W ρ μ e QT Z) : wCw X W ρ μ e QT Z := h
theorem hdS {st : Stmt} (h : wS X W ρ μ st nx κ) : wS X W ρ μ st nx κ := h
theorem hdL {st : List Stmt} (h : wSs X W ρ μ st nx κ) : wSs X W ρ μ st nx κ := h
theorem hdG (h : wG X W ρ μ e d nx) : wG X W ρ μ e d nx := h
theorem hdH (h : wGs X W ρ μ es ds nx) : wGs X W ρ μ es ds nx := h
theorem hdP {Kn : Env' → Prop} (h : wPt N V x d ρ Kn) : wPt N V x d ρ Kn := h
/-! calls by names of the module -/
theorem xE_call (f : Fnx) (g : Fx X W k N V Gs) (hi : In x Gs) (hm : X.mg x = some (.ref f.a)) (hk : PySem.W.keepIn X.K (.ref f.a) = true) (bd : Binds X.K f.fd f.ps []) (h : wA X W ρ μ (e :: es) (fun ds μ1 => SpX X f ds μ1 Q Z) Z) (hj : f.lv ≤ k := by exact Nat.le_of_ble_eq_true rfl)
    (he : starEach (e :: es) X.env = (false, eval e X.env) :: starEach es X.env := by rfl) (hpl : (backTo pos (starEach es X.env)).any (·.1) = false := by rfl) : wE X W ρ μ (.Call (.Name x p) (e :: es) [] pos) Q Z := wE_call f g.toGd hm hk bd h hj (g.gl hi).1 (g.gl hi).2.1 he hpl
theorem xE_cls {C : Addr} (g : Nx' X N V Gs) (hi : In x Gs) (hm : X.mg x = some (.ref C)) (h : Q (.ref C) μ) : wE X W ρ μ (.Name x pos) Q Z := wE_glob (v := .ref C) hm rfl (fun _ _ => rep_ref.mpr rfl) h (g.gl hi).1 (g.gl hi).2.1
theorem xE_bty {T : String} (g : Nx' X N V Gs) (hi : In x Gs) (hm : X.mg x = none) (hv : bootBuiltins x = some (.type T)) (h : Q (.ty T) μ) : wE X W ρ μ (.Name x pos) Q Z := wE_bty hm hv h (g.gl hi).1 (g.gl hi).2.2 (g.gl hi).2.1
theorem xE_blt {id : String} (g : Nx' X N V Gs) (hi : In x Gs) (hm : X.mg x = none) (hv : bootBuiltins x = some (.builtin id)) (h : wA X W ρ μ (e :: es) (fun ds μ1 => wF X W (fun us => call (.builtin id) us) ds μ1 Q Z) Z)
    (he : starEach (e :: es) X.env = (false, eval e X.env) :: starEach es X.env := by rfl) (hpl : (backTo pos (starEach es X.env)).any (·.1) = false := by rfl) : wE X W ρ μ (.Call (.Name x p) (e :: es) [] pos) Q Z := wE_blt hm hv h (g.gl hi).1 (g.gl hi).2.2 (g.gl hi).2.1 he hpl
theorem xE_bcl {T : String} (g : Nx' X N V Gs) (hi : In x Gs) (hm : X.mg x = none) (hv : bootBuiltins x = some (.type T)) (h : wA X W ρ μ (e :: es) (fun ds μ1 => wF X W (fun us => call (.type T) us) ds μ1 Q Z) Z)
    (he : starEach (e :: es) X.env = (false, eval e X.env) :: starEach es X.env := by rfl) (hpl : (backTo pos (starEach es X.env)).any (·.1) = false := by rfl) : wE X W ρ μ (.Call (.Name x p) (e :: es) [] pos) Q Z := wE_bcl hm hv h (g.gl hi).1 (g.gl hi).2.2 (g.gl hi).2.1 he hpl
end
section
variable {P : Program} {w : World} {K : PySem.W.Frag} {mg : Str → Option Value} {base : Heap}
/-- THE RULE for a def, its names looked up -/
theorem spX_of {x qual : Str} {st : Stmt} {dvs : List L2.V} {f : Addr} {fd : FuncData} {N ps : List Str} {V : List Kd} {Gs : List Str} {k : Nat} {ds : List D} {μ : List M} {Q : KV} {Z : KX} (F : FunS K x qual st dvs f fd) (S : FnScope N ps (defScope st)) (ck : ckB N V Gs (defScope st) = true) (hl : ds.length = ps.length)
    (body : ∀ ρ, ρ = startD N ds → ∀ (cdv : Value) (A : Around) (outer : List Env) (s : Shared) (H : Hp) (E : XK), Fx (cxOf (L2.CX P w) P w K mg base N qual (defScope st) f cdv A outer s H E) (fun c d _ H => E c d H) k N V Gs →
      wSs (cxOf (L2.CX P w) P w K mg base N qual (defScope st) f cdv A outer s H E) (fun c d _ H => E c d H) ρ (μ ++ []) (defBody st) (fun _ μ1 => RetOk μ Q .non μ1) { rt := RetOk μ Q, xc := fun C ns ds' _ μ1 => ExcOk μ Z C ns ds' μ1 }) :
    SpF P w K mg base ⟨f, fd, ps, k + 1⟩ ds μ Q Z :=
  spF_of F S hl fun cdv A outer s H E g => by
    have := body _ rfl cdv A outer s H E ⟨g, ⟨rfl, S.nd, ck⟩⟩
    rwa [List.append_nil] at this
end
end PM

set_option Elab.async false
set_option linter.all false
set_option maxRecDepth 100000
namespace PM
open PySem L2
section
variable {X : Cx} {W : WX} {k j : Nat} {N : List Str} {V : List Kd} {Gs : List Str} {ρ ρ' : Env'} {μ μ1 μ2 : List M} {e a b c ob : Expr} {es : List Expr} {Q Q' : KV} {Z : KX} {d da db : D} {ds ds' : List D} {p pos apos pos2 np pos' : Pos} {x y m n : Str} {nx : KN} {κ : Ks} {f : Fnx} {C C' pr : Addr} {pl : Sem Bool} {ns : List Str}
/-! ### classes -/
/-- what __init__ leads to, as the caller sees it -/
inductive MadeOk (μ : List M) (C : Addr) (Q : KV) : D → List M → Prop
  | obj {ns : List Str} {fs : List D} {μ2 : List M} : Lows μ μ2 → ns.length = fs.length → D.los μ.length fs = true → Q (.obj C ns fs) μ2 → MadeOk μ C Q .non (μ2 ++ [.ins C ns fs])
  | loc {ns : List Str} {fs : List D} {μ2 : List M} : μ2.length = μ.length → Q (.loc μ.length) (μ2 ++ [.ins C ns fs]) → MadeOk μ C Q .non (μ2 ++ [.ins C ns fs])
inductive MadeX (μ : List M) (Z : KX) (C : Addr) (ns : List Str) : List D → List M → Prop
  | mk {ds : List D} {μ2 : List M} {m : M} : Lows μ μ2 → D.los μ.length ds = true → Z C ns ds μ2 → MadeX μ Z C ns ds (μ2 ++ [m])
/-- C(e, ..) by the class's name -/
theorem xE_make (g : Nx' X N V Gs) (hi : In x Gs) (hm : X.mg x = some (.ref C)) (hk : PySem.W.keepIn X.K (.ref C) = true) (h : wA X W ρ μ (e :: es) (fun ds μ1 => wF X W (fun us => call (.ref C) us) ds μ1 Q Z) Z)
    (he : starEach (e :: es) X.env = (false, eval e X.env) :: starEach es X.env := by rfl) (hpl : (backTo pos (starEach es X.env)).any (·.1) = false := by rfl) : wE X W ρ μ (.Call (.Name x p) (e :: es) [] pos) Q Z :=
  .by fun pins s σ H R L G I n v z => wpAny_Call_Name_kw (ld_glob I (g.gl hi).1 hm (PySem.W.callWith_K (h₀ := X.base) I.ok.mod.kin hk (h.call I n v z pos) he hpl) (g.gl hi).2.1)
theorem xE_make0 (g : Nx' X N V Gs) (hi : In x Gs) (hm : X.mg x = some (.ref C)) (hk : PySem.W.keepIn X.K (.ref C) = true) (h : wF X W (fun us => call (.ref C) us) [] μ Q Z) : wE X W ρ μ (.Call (.Name x p) [] [] pos) Q Z :=
  .by fun pins s σ H R L G I n v z => wpAny_Call_Name_kw (ld_glob I (g.gl hi).1 hm (PySem.W.callWith_K0 I.kIn hk (h.run pins s σ H [] [] R L G I .nil n.ok Reps.nil v z)) (g.gl hi).2.1)
/-! ### errors -/
/-! ### try -/
variable {body suite : List Stmt} {b₀ : Stmt} {i : Nat}
end
end PM

set_option Elab.async false
set_option linter.all false
set_option maxRecDepth 100000
namespace PM
open PySem L2
/-! ### comprehensions -/
abbrev Z0 : KX := fun _ _ _ _ => False
/-- a target in a block: only own slots change -/
structure wGw (X : Cx) (vs : List Nat) (ρ : Env') (μ : List M) (tg : Expr) (d : D) (nx : Env' → Prop) : Prop where
  run : PG X tg (fun v σ H R => ∃ L G, Now X.K L G H μ ρ σ ∧ Rep X.K L G d v ∧ ∀ ρ', nx ρ' → ∀ σ' L' G' H', Step L G H L' G' H' → Now X.K L' G' H' μ ρ' σ' → wipe σ' vs = wipe σ vs → R σ' H')
structure wGws (X : Cx) (vs : List Nat) (ρ : Env') (μ : List M) (ts : List Expr) (ds : List D) (nx : Env' → Prop) : Prop where
  run : PGs X ts (fun us σ H R => ∃ L G, Now X.K L G H μ ρ σ ∧ Reps X.K L G ds us ∧ ∀ ρ', nx ρ' → ∀ σ' L' G' H', Step L G H L' G' H' → Now X.K L' G' H' μ ρ' σ' → wipe σ' vs = wipe σ vs → R σ' H')
structure wTs (X : Cx) (ρ : Env') (μ : List M) (ifs : List Expr) (Q : KT) : Prop where
  run : PTs X ifs (fun σ H R => ∃ L G, Now X.K L G H μ ρ σ ∧ ∀ b μ', Q b μ' → ComesT X.K L G H b μ' R)
/-- a block's context -/
abbrev InBlk (X : Cx) (k : Nat) (N : List Str) (V : List Kd) (Gs : List Str) (scope : Scope) (P : Cx → Prop) : Prop := ∀ (s : Shared) (H : Hp) (C : Addr) (cl : List (Str × Addr)) (fp : List Addr), Fx (X.blk s H scope (compEnvC scope cl C X.env) fp) W0 k N V Gs → P (X.blk s H scope (compEnvC scope cl C X.env) fp)
section
variable {X : Cx} {W : WX} {k : Nat} {N : List Str} {V V' : List Kd} {Gs Gs' : List Str} {ρ ρ' : Env'} {μ μ1 μ2 : List M} {e elt tg iter c : Expr} {es ifs : List Expr} {Q : KV} {Z : KX} {d : D} {ds : List D} {pos : Pos} {x : Str} {scope : Scope} {own : List (Str × Nat)} {vs : List Nat} {nx : Env' → Prop}
/-- a block's scope within a def's -/
def relabS (sc scope : Scope) : Scope := { scope with names := scope.names.map fun (n, k) => if (k == NameKind.free && sc.kind == .function && sc.names.lookup n == some .cell) then (n, NameKind.cell) else (n, k) }
theorem Fx.blk {s : Shared} {H : Hp} {C : Addr} {cl : List (Str × Addr)} {fp : List Addr} (g : Fx X W k N V Gs) (ck : ckB N V' Gs' (relabS X.env.scope scope) = true) : Fx (X.blk s H scope (compEnvC scope cl C X.env) fp) W0 k N V' Gs' := ⟨g.toGd.blk, ⟨g.N_, g.ndN, ck⟩⟩
theorem wGw_name {i : Nat} (g : Nx' X N V Gs) (hi : Il N V x i) (hv : i ∈ vs) (h : wPt N V x d ρ nx) : wGw X vs ρ μ (.Name x pos) d nx := by
  obtain ⟨e1, l1⟩ := hi.ex g.nm
  have hs := h.set g.nm g.ndN e1
  exact ⟨pg_of (ew_name (ρ := ρ) (μ := μ) (d := d) (vs := vs) i (by rw [g.N_]; exact g.ndN) hv (by rw [g.N_]; exact e1) (.inl l1) (.inr l1)) fun v σ H R ⟨L, G, n, r, a⟩ => ⟨L, G, n, r, a _ hs⟩⟩
theorem wGws_nil (h : nx ρ) : wGws X vs ρ μ [] [] nx := ⟨pgs_of pgs_nil fun v σ H R ⟨L, G, n, r, a⟩ => ⟨r.inv_nil, a _ h _ L G H (.refl _ _ _) n rfl⟩⟩
theorem wGws_cons (h : wGw X vs ρ μ e d (fun ρ1 => wGws X vs ρ1 μ es ds nx)) (hs : (assignEach (e :: es) X.env).map (·.2) = assign e X.env :: (assignEach es X.env).map (·.2) := by rfl) : wGws X vs ρ μ (e :: es) (d :: ds) nx :=
  ⟨pgs_of (pgs_cons h.run aGs_ok hs) fun us σ H R ⟨L, G, n, r, a⟩ => by
    obtain ⟨v, q, e, r1, r2⟩ := r.inv_cons
    exact ⟨v, q, e, L, G, n, r1, fun ρ1 q1 σ1 L1 G1 H1 s1 n1 w1 => ⟨_, q1.run, L1, G1, n1, r2.step s1, fun ρ' q' σ' L' G' H' s' n' w' => a ρ' q' σ' L' G' H' (s1.trans s') n' (w'.trans w1)⟩⟩⟩
theorem wGw_tup {kk : Nat} (hc : X.calm = true) (h : wGws X vs ρ μ es ds nx) (hn : (assignEach es X.env).length = ds.length := by rfl) (hst : (assignEach es X.env).findIdx? (·.1) = none := by rfl) : wGw X vs ρ μ (.Tuple es kk pos) (.tup ds) nx :=
  ⟨pg_of (pg_tup hc h.run hn hst) fun v σ H R ⟨L, G, n, r, a⟩ => by
    obtain ⟨a', us, e, q, r⟩ := rep_tup.mp r
    exact ⟨a', us, e, Same.sqT n.ok.sub q, r.length, L, G, n, r, a⟩⟩
theorem wTs_nil {Q : KT} (h : Q true μ) : wTs X ρ μ [] Q := ⟨⟨fun pins s σ H R I ⟨L, G, n, a⟩ => pts_nil.run pins s σ H R I (a _ _ h L G H (.refl _ _ _) n.ok)⟩⟩
/-- one turn -/
def wTurn (X : Cx) (k : Nat) (N : List Str) (V : List Kd) (Gs : List Str) (scope : Scope) (vs : List Nat) (tg elt : Expr) (ifs : List Expr) (ρ : Env') (d : D) (μ : List M) (keep : D → List M → Prop) (skip : List M → Prop) : Prop :=
  InBlk X k N V Gs scope fun Y => wGw Y vs (wipeD ρ vs) μ tg d fun ρ1 => InBlk X k N V Gs scope fun Y => wTs Y ρ1 μ ifs fun b μ1 => if b = true then InBlk X k N V Gs scope fun Y => wE Y W0 ρ1 μ1 elt keep Z0 else skip μ1
/-- [elt for tg in iter if ..] by an invariant of what is left, what is done, the store -/
theorem wE_lc (V' : List Kd) (Gs' : List Str) (own : List (Str × Nat)) (Iv : List D → List D → List M → Prop) (g : Fx X W k N V Gs) {sc : Scope} (hsc : X.env.scope = sc) (ck : ckB N V' Gs' (relabS sc scope) = true) (ok : BlkOk X.N X.env.scope scope own)
    (hi : wI X W ρ μ tg iter (fun ds μ1 => ds.length ≤ sizeLine ∧ Iv ds [] μ1) Z)
    (ht : ∀ d ds done μ, Iv (d :: ds) done μ → wTurn X k N V' Gs' scope (own.map (·.2)) tg elt ifs ρ d μ (fun y μ1 => Iv ds (done ++ [y]) μ1) (fun μ1 => Iv ds done μ1))
    (hn : ∀ done μ, Iv [] done μ → Q (.lst done) μ) (hs : ∀ x, foldedSetIterable iter X.env x = pure x := by intro _; rfl) : wE X W ρ μ (.ListComp elt [⟨tg, iter, ifs, 0⟩] scope pos) Q Z := by
  have gb : ∀ (s : Shared) (H : Hp) (C : Addr) (cl : List (Str × Addr)) (fp : List Addr), Fx (X.blk s H scope (compEnvC scope cl C X.env) fp) W0 k N V' Gs' := fun s H C cl fp => g.blk (by rw [hsc]; exact ck)
  refine ⟨pe_of (pe_lc (g := bG X scope tg) (tt := bT X scope ifs) (te := bE X scope elt) g.calm g.nd hi.run ok (fun s H C cl fp => ⟨fun pins s' σ H' v u Q I r ⟨t, p, q⟩ => (p s H C cl fp).run pins s' σ H' v u Q I r q⟩)
    (fun s H C cl fp => ⟨fun pins s' σ H' Q I ⟨t, p, q⟩ => (p s H C cl fp).run pins s' σ H' Q I q⟩) (fun s H C cl fp => ⟨fun pins s' σ H' Q I ⟨t, p, q⟩ => (p s H C cl fp).run pins s' σ H' Q I q⟩) hs) fun σ H R ⟨L, G, nw, av, ax⟩ => ⟨L, G, nw, fun ds μ1 ⟨hl, i0⟩ J L1 G1 H1 s1 o1 j D hD => ?_, ax⟩⟩
  have oD := (o1.newH (o := .lst []) hD).1
  refine ⟨fun i m H' => m = ds.length - i ∧ i ≤ ds.length ∧ ∃ done us μ' L' G', Iv (ds.drop i) done μ' ∧ H' D = some (.lst us) ∧ Reps X.K L' G' done us ∧ Ok X.K L' G' H' μ' ∧ Step L1 G1 H1 L' G' H' ∧ G' D = none ∧ D ∉ L' ∧ done.length ≤ i,
    ⟨ds.length, by simp, Nat.zero_le _, [], [], μ1, L1, G1, i0, upd_same, Reps.nil, oD, (Step.refl L1 G1 H1).poke hD, Same.free o1.sub hD, fun z => mem_ne o1.liv hD D z rfl, Nat.zero_le _⟩, ?_⟩
  rintro i m H2 ⟨rfl, hil, done, us, μ', L2, G2, h2, eD, rd, o2, s2, gD2, nD2, hdi⟩
  have nw2 : ∀ {Lx Gx Hx μx}, Step L2 G2 H2 Lx Gx Hx → Ok X.K Lx Gx Hx μx → Now X.K Lx Gx Hx μx (wipeD ρ (own.map (·.2))) (wipe σ (own.map (·.2))) := fun sx ox => ⟨ox, (nw.env.wipe _).mono ((s1.trans s2).trans sx).pre ((s1.trans s2).trans sx).gs⟩
  have keepD : ∀ {Lx Gx Hx}, Step L2 G2 H2 Lx Gx Hx → Hx D = some (.lst us) ∧ Gx D = none ∧ D ∉ Lx := fun {Lx Gx Hx} sx => by
    refine ⟨sx.hs D _ eD nD2, ?_, fun z => ?_⟩
    · cases e : Gx D with
      | none => rfl
      | some o =>
        rcases sx.gf D o e with q | q
        · rw [gD2] at q; cases q
        · rw [eD] at q; cases q
    · rcases sx.fr D z with q | q
      · exact nD2 q
      · rw [eD] at q; cases q
  generalize hd : ds.drop i = dr at h2
  cases dr with
  | nil =>
    have ei : i = ds.length := by
      have := congrArg List.length hd
      simp at this
      omega
    subst ei
    refine .inl ⟨j.stop L2 G2 H2 _ s2.pre s2.gs o2, ?_⟩
    obtain ⟨o3, sg⟩ := o2.tell (p := D) (o := .lst us) eD nD2
    exact av _ _ (hn _ _ h2) _ L2 _ H2 (s1.trans (s2.tell hD sg)) o3 (rep_lst.mpr ⟨D, us, rfl, upd_same, rd.mono (.refl _) sg⟩)
  | cons d ds' =>
    obtain ⟨e1, e2⟩ := drop_cons hd
    obtain ⟨go, yl⟩ := j.go L2 G2 H2 μ' i d s2.pre s2.gs o2 e1
    have il : i < ds.length := (List.getElem?_eq_some_iff.mp e1).1
    refine .inr ⟨go, fun H' => ∃ done' us' μb L' G', Iv ds' done' μb ∧ H' D = some (.lst us') ∧ Reps X.K L' G' done' us' ∧ Ok X.K L' G' H' μb ∧ Step L1 G1 H1 L' G' H' ∧ G' D = none ∧ D ∉ L' ∧ done'.length ≤ i + 1, fun H' ⟨done', us', μb, L', G', q0, q1, q2, q3, q4, q5, q6, q7⟩ => ⟨ds.length - (i + 1), by omega, rfl, il, done', us', μb, L', G', by rw [e2]; exact q0, q1, q2, q3, q4, q5, q6, q7⟩, fun x H3 yy => ?_⟩
    obtain ⟨G3, s3, o3, r3⟩ := yl x H3 yy
    refine ⟨fun v σ H R => ∃ L G, Now X.K L G H μ' (wipeD ρ (own.map (·.2))) σ ∧ Rep X.K L G d v ∧ ∀ ρ', _ → ∀ σ' L' G' H', Step L G H L' G' H' → Now X.K L' G' H' μ' ρ' σ' → wipe σ' (own.map (·.2)) = wipe σ (own.map (·.2)) → R σ' H', fun s H C cl fp => ((ht d ds' done μ' h2) s H C cl fp (gb s H C cl fp)).run, L2, G3, nw2 s3 o3, r3, fun ρ1 h1 σ4 L4 G4 H4 s4 n4 w4 => ⟨by rw [w4, wipe_idem], fun σ H R => ∃ L G, Now X.K L G H μ' ρ1 σ ∧ ∀ b μ5, _ → ComesT X.K L G H b μ5 R, fun s H C cl fp => (h1 s H C cl fp (gb s H C cl fp)).run, L4, G4, n4, fun b μ5 h5 L5 G5 H5 s5 o5 => ?_⟩⟩
    cases b with
    | true =>
      refine iteT ⟨fun σ H R => ∃ L G, Now X.K L G H μ5 ρ1 σ ∧ AccV X.K L G H _ R ∧ AccX W0 X.K L G H σ Z0, fun s H C cl fp => ((show InBlk X k N V' Gs' scope fun Y => wE Y W0 ρ1 μ5 elt _ Z0 from h5) s H C cl fp (gb s H C cl fp)).run, L5, G5, n4.step s5 o5, fun y μ6 h6 v L6 G6 H6 s6 o6 r6 => ?_, fun _ _ _ _ z => z.elim⟩
      have s36 := ((s3.trans s4).trans s5).trans s6
      obtain ⟨k1, k2, k3⟩ := keepD s36
      refine ⟨us, k1, ?_, done ++ [y], us ++ [v], μ6, L6, G6, h6, upd_same, (rd.step s36).append (Reps.cons r6 Reps.nil), o6.poke k3 k2, (s2.trans s36).poke hD, k2, k3, by simp; omega⟩
      rw [rd.length]
      omega
    | false =>
      have s35 := (s3.trans s4).trans s5
      obtain ⟨k1, k2, k3⟩ := keepD s35
      exact iteF ⟨done, us, μ5, L5, G5, h5, k1, rd.step s35, o5, s2.trans s35, k2, k3, by omega⟩
end
end PM

set_option Elab.async false
set_option linter.all false
set_option maxRecDepth 100000
namespace PM
open PySem L2
/-! ### calls by keywords -/
structure wK (X : Cx) (W : WX) (ρ : Env') (μ : List M) (kws : List Keyword) (Q : KA) (Z : KX) : Prop where
  run : PK X kws (fun σ H R => ∃ L G, Now X.K L G H μ ρ σ ∧ (∀ ds μ', Q ds μ' → ComesA X.K L G H ds μ' R) ∧ AccX W X.K L G H σ Z)
def aK (X : Cx) (kws : List Keyword) : TA := fun σ H Q => ∃ t, PK X kws t ∧ t σ H Q
section
variable {X : Cx} {W : WX} {k n : Nat} {N : List Str} {V : List Kd} {Gs ks : List Str} {p : List Nat} {ρ : Env'} {μ μ1 : List M} {e ob : Expr} {es : List Expr} {Q : KV} {Z : KX} {QA : KA} {d : D} {ds es' : List D} {pp pos apos kpos : Pos} {x m : Str} {f : Fnx} {C pr : Addr} {pl : Sem Bool} {kws : List Keyword} {nm : Option Str}
theorem aK_ok : PK X kws (aK X kws) := ⟨fun pos pins s σ H Q I ⟨t, p, q⟩ => p.run pos pins s σ H Q I q⟩
theorem wK_nil (h : QA [] μ) : wK X W ρ μ [] QA Z := ⟨pk_of pk_nil fun σ H R ⟨L, G, n, v, x⟩ => v [] μ h [] L G H (.refl _ _ _) n.ok Reps.nil⟩
theorem wK_cons (h : wE X W ρ μ e (fun d μ1 => wK X W ρ μ1 kws (fun ds μ2 => QA (d :: ds) μ2) Z) Z) : wK X W ρ μ (⟨nm, e, kpos⟩ :: kws) QA Z :=
  ⟨pk_of (pk_cons h.run aK_ok) fun σ H R ⟨L, G, n, v, x⟩ => ⟨L, G, n, fun d μ1 q u L1 G1 H1 s1 o1 r1 => ⟨_, q.run, L1, G1, n.step s1 o1, fun ds μ2 q2 us L2 G2 H2 s2 o2 r2 => v _ _ q2 _ L2 G2 H2 (s1.trans s2) o2 (Reps.cons (r1.step s2) r2), x.step s1⟩, x⟩⟩
theorem wK.go {pins : List (Addr × Obj)} {s : Shared} {σ : L2.St} {H : Hp} {L : List Addr} {G : Hp} (h : wK X W ρ μ kws QA Z) (I : Inv X pins σ H s) (n : Now X.K L G H μ ρ σ) (z : AccX W X.K L G H σ Z) (pos : Pos) :
    wpAny (model X.prog X.w) X.A (evalAll ((backToKw pos (keywordEach kws X.env)).map (·.2))) (fun us s1 => ∃ vs ds μ1 L1 G1 H1, Inv X pins σ H1 s1 ∧ Vals vs us ∧ QA ds μ1 ∧ Step L G H L1 G1 H1 ∧ Ok X.K L1 G1 H1 μ1 ∧ Reps X.K L1 G1 ds vs) X.xe s :=
  thn (h.run.run pos pins s σ H (fun vs H1 => ∃ ds μ1 L1 G1, QA ds μ1 ∧ Step L G H L1 G1 H1 ∧ Ok X.K L1 G1 H1 μ1 ∧ Reps X.K L1 G1 ds vs) I ⟨L, G, n, fun ds μ' q vs L' G' H' s' o' r' => ⟨ds, μ', L', G', q, s', o', r'⟩, z⟩)
    fun us s1 ⟨vs, H1, I1, r1, ds, μ1, L1, G1, q, st, o, r⟩ => ⟨vs, ds, μ1, L1, G1, H1, I1, r1, q, st, o, r⟩
end
end PM

set_option Elab.async false
set_option linter.all false
set_option maxRecDepth 100000
namespace PM
open PySem L2
section
variable {X : Cx} {W : WX} {k : Nat} {N : List Str} {V : List Kd} {Gs : List Str} {ρ : Env'} {μ : List M} {e oe a b c : Expr} {es : List Expr} {Q : KV} {Z : KX} {QT : KT} {QA : KA} {d : D} {ds : List D} {p pos pos' : Pos} {x f : Str} {nx : KN} {κ : Ks}
end
end PM

set_option Elab.async false
set_option linter.all false
set_option maxRecDepth 100000
namespace PM
open PySem L2
section
variable {X : Cx} {W : WX} {k n : Nat} {μ : List M} {ds : List D} {ps : List PyData} {Q : KV} {Z : KX}
end
section
variable {X : Cx} {W : WX} {k j i : Nat} {ps : List Str} {R : Rl} {f C : Addr} {fd : FuncData} {ρ : Env'} {μ μ2 : List M} {ns : List Str} {fs : List D} {d da db : D} {b : Bool} {x : Str} {e : Expr} {op : Operator} {pos pos' : Pos} {nx : KN} {κ : Ks}
end
end PM

set_option Elab.async false
set_option linter.all false
set_option maxRecDepth 100000
namespace PM
open PySem L2 PyProof.Rows
section
variable {prog : Program} {w : World} {A : Around} {E : Value → Shared → Prop} {s : Shared} {K : PySem.W.Frag} {x C f : Addr} {ox : Obj} {od : Option Obj} {name : Str} {id n : String} {B : Builtin} {args : List Value}
end
section
variable {X : Cx} {W : WX} {k j : Nat} {ps : List Str} {R : Rl} {f C : Addr} {fd : FuncData} {μ μ2 : List M} {ns ns' : List Str} {fs fs' : List D} {b : Bool}
end
section
variable {X : Cx} {W : WX} {k j : Nat} {ps : List Str} {R : Rl} {f C : Addr} {fd : FuncData} {ρ : Env'} {μ μ1 μ2 : List M} {ns : List Str} {fs : List D} {y : Str} {e : Expr} {pos : Pos}
end
end PM

set_option Elab.async false
set_option linter.all false
set_option maxRecDepth 100000
namespace PM
open PySem L2
section
variable {X : Cx} {W : WX} {ρ : Env'} {μ : List M} {e e2 : Expr} {elts : List Expr} {kk : Nat} {tpos p pos : Pos} {QA : KA} {Z : KX}
end
end PM

set_option Elab.async false
set_option linter.all false
set_option maxRecDepth 100000
set_option maxHeartbeats 4000000
namespace PM
open PySem PySem.Spec PySem.Calls PyProof.Rows L2
section
variable {prog : Program} {w : World} {A : Around} {E : Value → Shared → Prop} {s : Shared} {K : PySem.W.Frag} {x C : Addr} {ox : Obj} {od : Option Obj}
open PySem.W in
theorem findObj_any {name : Str} {a g : Value} (hc : (clsIn K C).isSome = true) (ha : findIn K (.ref C) name = some (some a)) (hg : specialIn K a "__get__" = some (some g)) (ht : takesIn K a = some true) : findObj K C od name = some (.bind g a) := by
  obtain ⟨cd, hc⟩ := Option.isSome_iff_exists.mp hc
  unfold findObj
  rw [hc, Option.bind_some, ha, Option.bind_some]
  simp [hg, ht]
open PySem.W in
/-- e.__class__, e a caught error with fields -/
theorem class_errF (T : ExcC K C) {Q : Option Value → Shared → Prop} (X : K.In s.heap) (I : InstAt s.heap x ox C od) (h : Q (some (.ref C)) { s with toks := s.toks + 1 }) : wpAny (model prog w) A (getAttr? (.ref x) "__class__") Q E s := by
  have hfo : findObj K C od "__class__" = some (.bind (.builtin "getset_descriptor.__get__") (.builtin "object.__class__")) := findObj_any (by obtain ⟨cd, hc, _⟩ := any_some T.hd; rw [hc]; rfl) T.ha T.hn T.ht
  obtain ⟨hp, gs, dr, tk, os⟩ := s
  have t0 := I.type (M := model prog w)
  have t1 := looks_findIn (M := model prog w) X T.hg
  have t2 := looks_findIn (M := model prog w) X T.hk
  have t3 := looks_find (M := model prog w) X I hfo
  have ib : Looks (model prog w) hp (isInstance (.ref x) (.type "BaseException")) true := t0.andThen (looks_subIn X T.hs)
  have n2 : (Value.builtin "BaseException.__getattribute__" == Value.builtin "object.__getattribute__") = false := by decide +kernel
  have n1 : (onTheHeap (Value.ref C) && Value.builtin "BaseException.__getattribute__" == Value.builtin "object.__getattribute__") = false := by rw [n2]; rfl
  unfold getAttr? getAttrBy? getAttrBy
  refine wpAny_bind (wpAny_mkText (wpAny_bind (wpAny_attempt (wpAny_holding (wpAny_bind (t0.at (wpAny_bind (t1.at ?_))))))))
  show wpAny _ _ (if (onTheHeap (Value.ref C) && Value.builtin "BaseException.__getattribute__" == Value.builtin "object.__getattribute__") = true then _ else _) _ _ _
  rw [n1, if_neg Bool.false_ne_true]
  unfold getAttrByItsOwn hookBefore
  refine wpAny_bind ?_
  rw [if_pos (show onTheHeap (Value.ref C) = true from rfl)]
  refine t2.at (wpAny_bind (wpAny_attempt (wpAny_holding ?_)))
  unfold callGetattribute
  rw [show (false && onTheHeap (Value.builtin "BaseException.__getattribute__")) = false from rfl, if_neg Bool.false_ne_true]
  unfold boundAndCalled
  rw [PySem.F.excAttr_ValueError.ga.bind (.ref x)]
  refine wpAny_bind (wpAny_pure ?_)
  show wpAny _ _ (call (.builtin "BaseException.__getattribute__") [.ref x, .str "__class__" tk]) _ _ _
  refine wpAny_call (codeAny_call_builtin PySem.F.excAttr_ValueError.ga.plain PySem.F.entry_bexc_ga ?_)
  refine @check_slot (model prog w) _ _ ⟨hp, gs, dr, tk + 1, os⟩ "BaseException.__getattribute__" "BaseException" "__getattribute__" (.ref x) [.str "__class__" tk] [] _ (by decide +kernel) (by decide +kernel) ib (PySem.F.args_bexc_ga (.ref x) (.str "__class__" tk)) ?_
  unfold Builtin.«object.__getattribute__»
  refine wpAny_bind (wpAny_of_eq (a := ((Value.ref x : Value), [Value.str "__class__" tk])) (by first | rfl | (simp only [slotArgs]; rfl)) ?_)
  refine wpAny_bind (wpAny_pure (wpAny_bind (t0.at (wpAny_bind (t3.at ?_)))))
  show wpAny _ _ (holding [Value.builtin "object.__class__"] (call (.builtin "getset_descriptor.__get__") [.builtin "object.__class__", .ref x, .ref C]) >>= ret) _ _ _
  refine wpAny_bind (wpAny_holding (wpAny_call (class_get (s := ⟨hp, gs, dr, tk + 1, os⟩) (ox := ox) (od := od) X I T.hm (wpAny_pure ?_))))
  show wpAny _ _ (handedOut (.ref C)) _ _ _
  rw [handedOut_of (v := .ref C) rfl]
  first
    | exact wpAny_pure (wpAny_pure h)
    | exact wpAny_pure h
    | exact wpAny_pure (wpAny_bind (wpAny_pure (wpAny_pure h)))
open PySem.W in
theorem kitx_errF (T : ExcC K C) : KitX K (.ref x) (.ref C) (fun h => InstAt h x ox C od) where
  ty := fun _ _ _ I => I.type
  it := fun _ _ X _ => by
    obtain ⟨cdD, hcD, _⟩ := any_some T.hd
    unfold clsIn at hcD
    split at hcD
    · rename_i c' d' cd' sl' ho
      intro A' Q' E' s' k q
      unfold isType loadHead
      exact wpAny_bind (wpAny_loadPart (k _ _ (X _ _ ho)) (wpAny_pure q))
    · cases hcD
  ne := fun h tp dd its n sl X htp => by
    obtain ⟨cdD, hcD, _⟩ := any_some T.hd
    refine Bool.eq_false_iff.mpr fun q => ?_
    have e : C = tp := Value.ref.inj (beq_iff_eq.mp q)
    subst e
    unfold clsIn at hcD
    split at hcD
    · rename_i c' d' cd' sl' ho
      have z := (X _ _ ho).symm.trans htp
      cases z
    · cases hcD
  ca := fun X I k => class_errF T X I k
theorem kit_err {B : Addr} {b : Bool} (hi : PySem.W.isClsIn K B = true) (ty : PySem.W.typeIn K (.ref B) = some (.type "type")) (self : PySem.W.subIn K (.ref C) (.ref C) = some true) (hs : PySem.W.subIn K (.ref C) (.ref B) = some b) : PySem.W.kitOne K (.ref C) (.ref B) = some b := by
  unfold PySem.W.kitOne
  by_cases h : C = B
  · subst h
    rw [self] at hs
    cases hs
    rw [if_pos (by simp)]
  · rw [if_neg (by simpa using h)]
    have h2' : (PySem.W.clsIn K B).isSome = true := hi
    unfold PySem.W.kitCls
    simp only [h2', ty, hs, beq_self_eq_true, Bool.and_self, if_true]
theorem kit_errT {B : String} {b : Bool} (hi : PySem.W.kitMeta B = true) (hs : PySem.W.subIn K (.ref C) (.type B) = some b) : PySem.W.kitOne K (.ref C) (.type B) = some b := by
  unfold PySem.W.kitOne
  rw [if_neg (by simp)]
  unfold PySem.W.kitCls
  simp only [hi, hs, if_true]
end
/-- the class, or the tuple of classes, that a caught error is asked for -/
inductive AskD (K : PySem.W.Frag) (C : Addr) : D → Bool → Prop
  | ty {n : String} {b : Bool} (h : PySem.W.kitOne K (.ref C) (.type n) = some b) : AskD K C (.ty n) b
  | own {B : Addr} {b : Bool} (h : PySem.W.kitOne K (.ref C) (.ref B) = some b) : AskD K C (.ref B) b
inductive AskDs (K : PySem.W.Frag) (C : Addr) : List D → Bool → Prop
  | nil : AskDs K C [] false
  | cons {d : D} {ds : List D} {b c : Bool} (h : AskD K C d b) (t : AskDs K C ds c) : AskDs K C (d :: ds) (b || c)
theorem AskD.eq {K : PySem.W.Frag} {C : Addr} {L : List Addr} {G : Hp} {d : D} {b : Bool} {v : V} (h : AskD K C d b) (r : Rep K L G d v) : ∃ u, ClsV v u ∧ PySem.W.kitOne K (.ref C) u = some b := by
  cases h with
  | ty h => rw [rep_ty.mp r]; exact ⟨_, .ty _, h⟩
  | own h => rw [rep_ref.mp r]; exact ⟨_, .own _, h⟩
theorem AskDs.eq {K : PySem.W.Frag} {C : Addr} {L : List Addr} {G : Hp} : ∀ {ds : List D} {b : Bool} {vs : List V}, AskDs K C ds b → Reps K L G ds vs → ∃ us, Paired ClsV vs us ∧ PySem.W.kitAny K (.ref C) us = some b
  | _, _, _, .nil, r => by rw [r.inv_nil]; exact ⟨[], .nil, rfl⟩
  | _, _, _, .cons (b := b) (c := c) h t, r => by
    obtain ⟨v, rest, rfl, ra, rb⟩ := r.inv_cons
    obtain ⟨u, k1, e1⟩ := h.eq ra
    obtain ⟨us, k2, e2⟩ := AskDs.eq t rb
    refine ⟨u :: us, .cons k1 k2, kitAny_cons e1 (fun hb => ?_) (fun hb => ?_)⟩
    · rw [hb, Bool.false_or]; exact e2
    · rw [hb, Bool.true_or]
section
variable {X : Cx} {W : WX} {a C dd : Addr} {oe : Obj} {pn : List (Addr × Obj)} {μ : List M} {Q : KV} {Z : KX}
def rIsEF (K : PySem.W.Frag) (C a dd : Addr) : List V → Hp → VK → Prop := fun xs H Q => ∃ (c : V) (u : Value) (b : Bool) (fs : List (Str × V)), xs = [.ref a, c] ∧ ClsV c u ∧ H dd = some (.xd fs) ∧ PySem.W.kitOne K (.ref C) u = some b ∧ Q (.bl b) H
def rIsET (K : PySem.W.Frag) (C a dd : Addr) : List V → Hp → VK → Prop := fun xs H Q => ∃ (tp : Addr) (cs : List V) (us : List Value) (b : Bool) (fs : List (Str × V)), xs = [.ref a, .ref tp] ∧ SqT K H tp cs ∧ Paired ClsV cs us ∧ H dd = some (.xd fs) ∧ PySem.W.kitAny K (.ref C) us = some b ∧ Q (.bl b) H
end
end PM

set_option Elab.async false
set_option linter.all false
set_option maxRecDepth 100000
set_option maxHeartbeats 4000000
namespace PM
open PySem L2
/-! ### repr(list of own instances) -/
section
variable {prog : Program} {w : World} {A : Around} {E : Value → Shared → Prop} {s : Shared} {K : PySem.W.Frag} {x C f : Addr} {ox : Obj} {od : Option Obj} {name : Str}
end
section
variable {X : Cx} {W : WX} {k j : Nat} {ps : List Str} {R : Rl} {f C : Addr} {fd : FuncData} {μ : List M} {ds : List D} {ts : List Str}
/-- what the items tell -/
def TellsAll (C : Addr) (R : Rl) (μ : List M) (ds : List D) (ts : List Str) : Prop := ts.length = ds.length ∧ ∀ (i : Nat) (d : D), ds[i]? = some d → ∃ t ns fs, ts[i]? = some t ∧ d = .obj C ns fs ∧ R [d] μ (.ret (.str t) μ)
end
end PM

set_option Elab.async false
set_option linter.all false
set_option maxRecDepth 100000
set_option maxHeartbeats 4000000
namespace PM
open PySem
open L2 hiding Inv
/-! ### enumerate(tuple) -/
def IteT (K : PySem.W.Frag) (a : Addr) : It :=
  ⟨fun i H => ∃ (xs : List V) (x : V), SqT K H a xs ∧ xs[i]? = some x, fun i H v H' => ∃ T x, v = .ref T ∧ H T = none ∧ H' = upd H T (.tup [.int (i : Nat), x]) ∧ ∀ xs, SqT K H a xs → xs[i]? = some x, fun i H => ∃ xs : List V, SqT K H a xs ∧ xs.length ≤ i⟩
def iEnumT (K : PySem.W.Frag) (ta : TA) : TI := fun σ H R => ta σ H fun vs H1 => ∃ a xs, vs = [.ref a] ∧ SqT K H1 a xs ∧ R (IteT K a) H1
/-! as rules -/
def enumD (ds : List D) : List D := ds.mapIdx fun i d => .tup [.int (i : Nat), d]
theorem jok_enum {K : PySem.W.Frag} {L : List Addr} {G : Hp} {a : Addr} {vs : List V} {ds : List D} (q : SqL K G a vs) (r : Reps K L G ds vs) : JOk K (Ite K a) L G (enumD ds) where
  go := fun L2 G2 H2 μ2 i d pr sg o e => by
    have q2 : SqL K H2 a vs := Same.sqL (sg.trans o.sub) q
    unfold enumD at e
    rw [List.getElem?_mapIdx] at e
    obtain ⟨d1, e1, rfl⟩ := Option.map_eq_some_iff.mp e
    obtain ⟨v, ev, rv⟩ := r.get e1
    exact ⟨⟨vs, v, q2, ev⟩, fun x H3 ⟨T, x1, ex, hT, e3, y⟩ => by
      subst e3
      subst ex
      have h1 := y vs q2
      rw [ev] at h1
      cases h1
      obtain ⟨o', s'⟩ := o.new (o := .tup [.int (i : Nat), v]) hT
      exact ⟨_, s', o', rep_tup.mpr ⟨T, [.int (i : Nat), v], rfl, SqT.of upd_same, Reps.cons (rep_int.mpr rfl) (Reps.cons ((rv.mono pr sg).step s') Reps.nil)⟩⟩⟩
  stop := fun L2 G2 H2 μ2 pr sg o => ⟨vs, Same.sqL (sg.trans o.sub) q, by
    rw [r.length]
    unfold enumD
    rw [List.length_mapIdx]
    exact Nat.le_refl _⟩
section
variable {X : Cx} {W : WX} {ρ : Env'} {μ : List M} {e : Expr} {elts : List Expr} {kk : Nat} {tpos p pos : Pos} {QA : KA} {Z : KX}
/-- for .., .. in enumerate(list) -/
theorem wI_enum (hm : X.mg "enumerate" = none) (h : wA X W ρ μ [e] (fun ds μ1 => ∃ xs, ds = [.lst xs] ∧ QA (enumD xs) μ1) Z) (hg : Gl X "enumerate" := by rfl)
    (hs : starEach [e] X.env = [(false, eval e X.env)] := by rfl) : wI X W ρ μ (.Tuple elts kk tpos) (.Call (.Name "enumerate" p) [e] [] pos) QA Z :=
  ⟨pi_of (pi_enum hg hm h.run hs) fun σ H R ⟨L, G, n, v, x⟩ => ⟨L, G, n, fun ds μ1 ⟨xs, ed, q⟩ us L1 G1 H1 s1 o1 r1 => by
    subst ed
    obtain ⟨u1, rfl, ra⟩ := r1.one
    obtain ⟨a, vs, rfl, hq, rr⟩ := rep_lst.mp ra
    exact ⟨a, vs, rfl, SqL.of (o1.sub _ _ hq), v _ μ1 q _ L1 G1 H1 s1 o1 (jok_enum (SqL.of hq) rr)⟩, x⟩⟩
end
end PM

set_option Elab.async false
set_option linter.all false
set_option maxRecDepth 100000
set_option maxHeartbeats 4000000
namespace PM
open PySem L2
/-! ### lists made, emptied; len and subscripts of own instances -/
/-- a list or a tuple, a tree or in the store -/
abbrev Sqd (μ : List M) (d : D) (ds : List D) : Prop := d = .lst ds ∨ d = .tup ds ∨ ∃ n : Nat, d = .loc n ∧ μ[n]? = some (.lst ds)
section
variable {X : Cx} {W : WX} {k : Nat} {ρ : Env'} {μ : List M} {o e a b : Expr} {d : D} {ds : List D} {apos pos : Pos} {Q : KV} {Z : KX} {n : Nat}
theorem Sqd.at_ {K : PySem.W.Frag} {L : List Addr} {G H : Hp} {v : V} (c : Sqd μ d ds) (ok : Ok K L G H μ) (r : Rep K L G d v) : ∃ p vs, v = .ref p ∧ (SqL K H p vs ∨ SqT K H p vs) ∧ Reps K L G ds vs := by
  rcases c with rfl | rfl | ⟨n, rfl, hn⟩
  · obtain ⟨p, vs, e, q, rr⟩ := rep_lst.mp r
    exact ⟨p, vs, e, .inl (SqL.of (ok.sub _ _ q)), rr⟩
  · obtain ⟨p, vs, e, q, rr⟩ := rep_tup.mp r
    exact ⟨p, vs, e, .inr (Same.sqT ok.sub q), rr⟩
  · obtain ⟨p, ea, e⟩ := rep_loc.mp r
    obtain ⟨vs, eh, rr⟩ := ok.at_ n p _ ea hn
    exact ⟨p, vs, e, .inl (SqL.of eh), rr⟩
end
section
variable {X : Cx} {W : WX} {k j : Nat} {ps : List Str} {R : Rl} {f C : Addr} {fd : FuncData} {μ μ2 : List M} {ns : List Str} {fs : List D} {i : Int}
end
section
variable {X : Cx} {W : WX} {k : Nat} {ρ : Env'} {μ : List M} {a b : Expr} {pos : Pos} {Q : KV} {Z : KX} {C : Addr}
end
section
variable {X : Cx} {W : WX} {ρ : Env'} {μ : List M} {a b c : Expr} {pos : Pos} {QT : KT} {Z : KX}
/-- a op b op' c, a test -/
theorem wC_cmp2 {op op' : CmpOp} (h : wE X W ρ μ a (fun da μ1 => wE X W ρ μ1 b (fun db μ2 => wB X W (compareOp op) da db μ2 (fun d μ3 => ∃ k, d = .bl k ∧ if k = true then wE X W ρ μ3 c (fun dc μ4 => wB X W (compareOp op') db dc μ4 (fun d μ5 => ∃ k', d = .bl k' ∧ QT k' μ5) Z) Z else QT false μ3) Z) Z) Z)
    (hm : lastMarks [op, op'] [b, c] = false := by with_unfolding_all rfl) : wC X W ρ μ (.Compare a [op, op'] [b, c] pos) QT Z := by
  refine ⟨⟨fun pins s σ H R I ⟨L, G, n, v, x⟩ => ?_⟩⟩
  refine PyProof.Rows.isTrue_chain (thn (h.go I n x) fun u s1 ⟨y, da, μ1, L1, G1, H1, I1, ry, hb, st1, o1, r1⟩ => PyProof.Rows.test_link (thn (hb.go I1 (n.step st1 o1) (x.step st1)) fun u2 s2 ⟨y2, db, μ2, L2, G2, H2, I2, ry2, ho, st2, o2, r2⟩ => ?_)) hm
  refine thn (ho.run pins s2 σ H2 y y2 u u2 (fun z H' => ∃ k μ3 L3 G3, z = .bl k ∧ Step L2 G2 H2 L3 G3 H' ∧ Ok X.K L3 G3 H' μ3 ∧ if k = true then wE X W ρ μ3 c (fun dc μ4 => wB X W (compareOp op') db dc μ4 (fun d μ5 => ∃ k', d = .bl k' ∧ QT k' μ5) Z) Z else QT false μ3) L2 G2 I2 ry ry2 o2 (r1.step st2) r2 (fun d μ3 ⟨k, e, q⟩ w L3 G3 H3 st3 o3 r3 => by
      subst e
      exact ⟨k, μ3, L3, G3, rep_bl.mp r3, st3, o3, q⟩) (x.step (st1.trans st2))) fun z s3 ⟨y3, H3, I3, r3, k, μ3, L3, G3, e3, st3, o3, q3⟩ => ?_
  subst e3
  cases r3
  refine wpAny_truthy_bool ?_
  cases k with
  | false =>
    rw [if_neg Bool.false_ne_true] at q3 ⊢
    exact ⟨H3, I3, v false μ3 q3 L3 G3 H3 ((st1.trans st2).trans st3) o3⟩
  | true =>
    rw [if_pos rfl] at q3 ⊢
    have st := (st1.trans st2).trans st3
    refine PyProof.Rows.test_last (thn (q3.go I3 (n.step st o3) (x.step st)) fun u4 s4 ⟨y4, dc, μ4, L4, G4, H4, I4, ry4, ho4, st4, o4, r4⟩ => ?_)
    refine thn (ho4.run pins s4 σ H4 y2 y4 u2 u4 (fun z H' => ∃ k, z = .bl k ∧ R k H') L4 G4 I4 ry2 ry4 o4 ((r2.step st3).step st4) r4 (fun d μ5 ⟨k, e, q⟩ w L5 G5 H5 st5 o5 r5 => by
      subst e
      exact ⟨k, rep_bl.mp r5, v k μ5 q L5 G5 H5 ((st.trans st4).trans st5) o5⟩) (x.step (st.trans st4))) fun z s5 ⟨y5, H5, I5, r5, k, e5, q5⟩ => ?_
    subst e5
    cases r5
    exact wpAny_truthy_bool ⟨H5, I5, q5⟩
end
/-! a branch -/
theorem hdI {c : Prop} {i : Decidable c} {a b : Prop} (h : @ite Prop c i a b) : @ite Prop c i a b := h
theorem iteTT {i : Decidable (true = true)} {a b : Prop} (h : a) : @ite Prop (true = true) i a b := by rw [if_pos rfl]; exact h
theorem iteFT {i : Decidable (false = true)} {a b : Prop} (h : b) : @ite Prop (false = true) i a b := by rw [if_neg Bool.false_ne_true]; exact h
theorem iteNT {i : Decidable ((!true) = true)} {a b : Prop} (h : b) : @ite Prop ((!true) = true) i a b := by rw [if_neg (show ¬ ((!true) = true) from Bool.false_ne_true)]; exact h
theorem iteNF {i : Decidable ((!false) = true)} {a b : Prop} (h : a) : @ite Prop ((!false) = true) i a b := by rw [if_pos (show (!false) = true from rfl)]; exact h
theorem hdN1 {d : D} {i : Decidable (d.isN = true)} {a b : Prop} (h : @ite Prop (d.isN = true) i a b) : @ite Prop (d.isN = true) i a b := h
theorem hdN2 {d : D} {i : Decidable ((!d.isN) = true)} {a b : Prop} (h : @ite Prop ((!d.isN) = true) i a b) : @ite Prop ((!d.isN) = true) i a b := h
end PM

set_option Elab.async false
set_option linter.all false
set_option maxRecDepth 100000
set_option maxHeartbeats 1000000
namespace PM
/-! pools that run together, by moments and volumes -/
abbrev P2 : Type := Int × Int
def mrg (a b : P2) : P2 := (a.1 + b.1, a.2 + b.2)
/-- moments crossed: above 0 if b is right of a -/
def crs (a b : P2) : Int := b.1 * a.2 - a.1 * b.2
def wid (a b : P2) : Int := a.2 * b.2 * (a.2 + b.2)
def Tou (a b : P2) : Prop := 2 * crs a b ≤ wid a b ∧ -(2 * crs a b) ≤ wid a b
/-- b is right of a and apart -/
def Apt (a b : P2) : Prop := wid a b < 2 * crs a b
theorem Tou.symm {a b : P2} (h : Tou a b) : Tou b a := by
  obtain ⟨h1, h2⟩ := h
  unfold crs wid at h1 h2
  unfold Tou crs wid
  constructor <;> grind
/-- what touches a part touches the whole -/
theorem Tou.mrg {a b c : P2} (ha : 0 < a.2) (hb : 0 < b.2) (hc : 0 < c.2) (h1 : Tou a b) (h2 : Tou a c) : Tou (PM.mrg a b) c := by
  obtain ⟨m1, v1⟩ := a
  obtain ⟨m2, v2⟩ := b
  obtain ⟨m3, v3⟩ := c
  obtain ⟨p1, p2⟩ := h1
  obtain ⟨q1, q2⟩ := h2
  simp only [Tou, PM.mrg, crs, wid] at *
  have key : v1 * (m3 * (v1 + v2) - (m1 + m2) * v3) = (v1 + v2) * (m3 * v1 - m1 * v3) - v3 * (m2 * v1 - m1 * v2) := by grind
  have s : 0 ≤ v1 + v2 := by omega
  have t : 0 ≤ v3 := by omega
  have a1 := Int.mul_le_mul_of_nonneg_left q1 s
  have a2 := Int.mul_le_mul_of_nonneg_left q2 s
  have b1 := Int.mul_le_mul_of_nonneg_left p1 t
  have b2 := Int.mul_le_mul_of_nonneg_left p2 t
  constructor
  · refine Int.le_of_mul_le_mul_left ?_ ha
    grind
  · refine Int.le_of_mul_le_mul_left ?_ ha
    grind
theorem Apt.not {a b : P2} (h : Apt a b) : ¬ Tou a b := fun z => by
  have := z.1
  unfold Apt at h
  omega
theorem Apt.pos {a b : P2} (ha : 0 < a.2) (hb : 0 < b.2) (h : Apt a b) : 0 < crs a b := by
  have : 0 < wid a b := Int.mul_pos (Int.mul_pos ha hb) (by omega)
  unfold Apt at h
  omega
/-! ### runs -/
def Psv (xs : List P2) : Prop := ∀ p ∈ xs, 0 < p.2
def Stp (xs ys : List P2) : Prop := ∃ a b r, xs.Perm (a :: b :: r) ∧ Tou a b ∧ ys.Perm (mrg a b :: r)
inductive Runs : List P2 → List P2 → Prop
  | refl {xs ys : List P2} (h : xs.Perm ys) : Runs xs ys
  | step {xs ys zs : List P2} (h : Stp xs ys) (t : Runs ys zs) : Runs xs zs
def Nrm (xs : List P2) : Prop := ∀ a b r, xs.Perm (a :: b :: r) → ¬ Tou a b
theorem Psv.perm {xs ys : List P2} (h : Psv xs) (p : xs.Perm ys) : Psv ys := fun q hq => h q (p.mem_iff.mpr hq)
theorem Stp.perm {xs xs' ys : List P2} (h : Stp xs ys) (p : xs'.Perm xs) : Stp xs' ys := let ⟨a, b, r, h1, h2, h3⟩ := h; ⟨a, b, r, p.trans h1, h2, h3⟩
theorem Runs.perm {xs xs' ys : List P2} (h : Runs xs ys) (p : xs'.Perm xs) : Runs xs' ys := by
  cases h with
  | refl q => exact .refl (p.trans q)
  | step s t => exact .step (s.perm p) t
theorem Runs.trans {xs ys zs : List P2} (h : Runs xs ys) (t : Runs ys zs) : Runs xs zs := by
  induction h with
  | refl q => exact t.perm q
  | step s _ ih => exact .step s (ih t)
theorem Stp.pos {xs ys : List P2} (h : Stp xs ys) (p : Psv xs) : Psv ys := by
  obtain ⟨a, b, r, h1, h2, h3⟩ := h
  have q := p.perm h1
  refine Psv.perm (fun z hz => ?_) h3.symm
  rcases List.mem_cons.mp hz with rfl | hz
  · have := q a (by simp)
    have := q b (by simp)
    show 0 < a.2 + b.2
    omega
  · exact q z (by simp [hz])
theorem Runs.pos {xs ys : List P2} (h : Runs xs ys) (p : Psv xs) : Psv ys := by
  induction h with
  | refl q => exact p.perm q
  | step s _ ih => exact ih (s.pos p)
theorem Stp.len {xs ys : List P2} (h : Stp xs ys) : xs.length = ys.length + 1 := by
  obtain ⟨a, b, r, h1, _, h3⟩ := h
  rw [h1.length_eq, h3.length_eq]
  rfl
theorem Nrm.perm {xs ys : List P2} (h : Nrm xs) (p : xs.Perm ys) : Nrm ys := fun a b r e => h a b r (p.trans e)
/-! ### ascending and apart -/
def Asc (xs : List P2) : Prop := xs.Pairwise Apt
end PM

set_option Elab.async false
set_option linter.all false
set_option maxRecDepth 100000
set_option maxHeartbeats 1000000
namespace PM
section
variable {m v m' v' u : Int}
end
/-! bounds -/
def Sm (xs : List P2) : Int := (xs.map fun p => (p.1.natAbs : Int)).sum
def Sv (xs : List P2) : Int := (xs.map fun p => p.2).sum
/-- all pools of a list together are small enough -/
structure Bnd (xs : List P2) : Prop where
  pos : Psv xs
  sm : Sm xs ≤ 2 ^ 110
  sv : Sv xs ≤ 2 ^ 70
theorem sm_cons {p : P2} {xs : List P2} : Sm (p :: xs) = (p.1.natAbs : Int) + Sm xs := by simp [Sm]
theorem sv_cons {p : P2} {xs : List P2} : Sv (p :: xs) = p.2 + Sv xs := by simp [Sv]
theorem sm_perm {xs ys : List P2} (h : xs.Perm ys) : Sm xs = Sm ys := by
  induction h with
  | nil => rfl
  | cons x _ ih => rw [sm_cons, sm_cons, ih]
  | swap x y l => rw [sm_cons, sm_cons, sm_cons, sm_cons]; omega
  | trans _ _ h1 h2 => exact h1.trans h2
theorem sv_perm {xs ys : List P2} (h : xs.Perm ys) : Sv xs = Sv ys := by
  induction h with
  | nil => rfl
  | cons x _ ih => rw [sv_cons, sv_cons, ih]
  | swap x y l => rw [sv_cons, sv_cons, sv_cons, sv_cons]; omega
  | trans _ _ h1 h2 => exact h1.trans h2
theorem sm_nn : ∀ xs : List P2, 0 ≤ Sm xs
  | [] => by simp [Sm]
  | p :: xs => by rw [sm_cons]; have := sm_nn xs; omega
theorem sv_nn : ∀ {xs : List P2}, Psv xs → 0 ≤ Sv xs
  | [], _ => by simp [Sv]
  | p :: xs, h => by
    rw [sv_cons]
    have h1 := sv_nn (xs := xs) fun q hq => h q (by simp [hq])
    have h2 := h p (by simp)
    omega
theorem Bnd.perm {xs ys : List P2} (h : Bnd xs) (p : xs.Perm ys) : Bnd ys := ⟨h.pos.perm p, by rw [← sm_perm p]; exact h.sm, by rw [← sv_perm p]; exact h.sv⟩
theorem Bnd.tail {p : P2} {xs : List P2} (h : Bnd (p :: xs)) : Bnd xs := by
  obtain ⟨h1, h2, h3⟩ := h
  rw [sm_cons] at h2
  rw [sv_cons] at h3
  have := h1 p (by simp)
  exact ⟨fun q hq => h1 q (by simp [hq]), by omega, by omega⟩
theorem Bnd.head {p : P2} {xs : List P2} (h : Bnd (p :: xs)) : -(2 ^ 110) ≤ p.1 ∧ p.1 ≤ 2 ^ 110 ∧ 0 < p.2 ∧ p.2 ≤ 2 ^ 70 := by
  obtain ⟨h1, h2, h3⟩ := h
  rw [sm_cons] at h2
  rw [sv_cons] at h3
  have a := h1 p (by simp)
  have b := sm_nn xs
  have c := sv_nn (xs := xs) fun q hq => h1 q (by simp [hq])
  exact ⟨by omega, by omega, a, by omega⟩
theorem Bnd.mem {p : P2} {xs : List P2} (h : Bnd xs) (hp : p ∈ xs) : -(2 ^ 110) ≤ p.1 ∧ p.1 ≤ 2 ^ 110 ∧ 0 < p.2 ∧ p.2 ≤ 2 ^ 70 := (h.perm (List.perm_cons_erase hp)).head
theorem Bnd.mrg {a b : P2} {xs : List P2} (h : Bnd (a :: b :: xs)) : Bnd (PM.mrg a b :: xs) := by
  obtain ⟨h1, h2, h3⟩ := h
  rw [sm_cons, sm_cons] at h2
  rw [sv_cons, sv_cons] at h3
  have pa := h1 a (by simp)
  have pb := h1 b (by simp)
  refine ⟨fun q hq => ?_, ?_, ?_⟩
  · rcases List.mem_cons.mp hq with rfl | hq
    · show 0 < a.2 + b.2
      omega
    · exact h1 q (by simp [hq])
  · rw [sm_cons]
    show ((a.1 + b.1).natAbs : Int) + _ ≤ _
    omega
  · rw [sv_cons]
    show a.2 + b.2 + _ ≤ _
    omega
theorem Bnd.runs {xs ys : List P2} (h : Bnd xs) (r : Runs xs ys) : Bnd ys := by
  induction r with
  | refl p => exact h.perm p
  | step s _ ih =>
    obtain ⟨a, b, r, h1, _, h3⟩ := s
    exact ih ((h.perm h1).mrg.perm h3.symm)
end PM

set_option Elab.async false
set_option linter.all false
set_option maxRecDepth 100000
set_option maxHeartbeats 4000000
namespace PM
open PySem L2
/-! ### loops over lists that may lie in the store -/
/-- a list, a tree or in the store -/
abbrev Lqd (μ : List M) (d : D) (ds : List D) : Prop := d = .lst ds ∨ ∃ n : Nat, d = .loc n ∧ μ[n]? = some (.lst ds)
theorem Lqd.at_ {μ : List M} {d : D} {ds : List D} {K : PySem.W.Frag} {L : List Addr} {G H : Hp} {v : V} (c : Lqd μ d ds) (ok : Ok K L G H μ) (r : Rep K L G d v) : ∃ p vs, v = .ref p ∧ SqL K H p vs ∧ Reps K L G ds vs := by
  rcases c with rfl | ⟨n, rfl, hn⟩
  · obtain ⟨p, vs, e, q, rr⟩ := rep_lst.mp r
    exact ⟨p, vs, e, SqL.of (ok.sub _ _ q), rr⟩
  · obtain ⟨p, ea, e⟩ := rep_loc.mp r
    obtain ⟨vs, eh, rr⟩ := ok.at_ n p _ ea hn
    exact ⟨p, vs, e, SqL.of eh, rr⟩
section
variable {K : PySem.W.Frag} {L2 : List Addr} {G2 H2 : Hp} {μ2 : List M} {d x : D} {all : List D} {p : Addr} {i : Nat}
end
section
variable {X : Cx} {W : WX} {ρ : Env'} {μ : List M} {tg e : Expr} {pos : Pos} {nx : KN} {κ : Ks}
end
section
variable {X : Cx} {W : WX} {k : Nat} {N : List Str} {V V' : List Kd} {Gs Gs' : List Str} {ρ ρ' : Env'} {μ μ1 μ2 : List M} {e elt tg iter c : Expr} {es ifs : List Expr} {Q : KV} {Z : KX} {d : D} {ds : List D} {pos : Pos} {x : Str} {scope : Scope} {own : List (Str × Nat)} {vs : List Nat} {nx : Env' → Prop}
end
end PM

set_option Elab.async false
set_option linter.all false
set_option maxRecDepth 100000
set_option maxHeartbeats 4000000
namespace PM
open PySem L2
/-! ### slices -/
section
variable {X : Cx} {W : WX} {ρ : Env'} {μ : List M} {e a : Expr} {pos p2 : Pos} {Q : KV} {Z : KX}
end
end PM

set_option Elab.async false
set_option linter.all false
set_option maxRecDepth 100000
set_option maxHeartbeats 1000000
namespace PM
/-! neighbours from the left -/
theorem Apt.trans {f l x : P2} (hf : 0 < f.2) (hl : 0 < l.2) (hx : 0 < x.2) (h1 : Apt f l) (h2 : Apt l x) : Apt f x := by
  obtain ⟨m1, v1⟩ := f
  obtain ⟨m2, v2⟩ := l
  obtain ⟨m3, v3⟩ := x
  simp only [Apt, crs, wid] at *
  have a1 := Int.mul_le_mul_of_nonneg_left (Int.le_of_lt h1) (show 0 ≤ v3 by omega)
  have a2 := Int.mul_lt_mul_of_pos_left h2 hf
  have p1 : 0 < v1 * v2 * v3 * v2 := Int.mul_pos (Int.mul_pos (Int.mul_pos hf hl) hx) hl
  have key : v2 * (v1 * v3 * (v1 + v3)) < v2 * (2 * (m3 * v1 - m1 * v3)) := by grind
  exact Int.lt_of_mul_lt_mul_left key (by omega)
theorem Stp.cons {p : P2} {xs ys : List P2} (h : Stp xs ys) : Stp (p :: xs) (p :: ys) := by
  obtain ⟨a, b, r, h1, h2, h3⟩ := h
  refine ⟨a, b, p :: r, (h1.cons p).trans ((List.Perm.swap a p (b :: r)).trans ((List.Perm.swap b p r).cons a)), h2, (h3.cons p).trans (List.Perm.swap _ _ _)⟩
theorem Runs.cons {p : P2} {xs ys : List P2} (h : Runs xs ys) : Runs (p :: xs) (p :: ys) := by
  induction h with
  | refl q => exact .refl (q.cons p)
  | step s _ ih => exact .step s.cons ih
theorem Bnd.app : ∀ {xs ys : List P2}, Bnd (xs ++ ys) → Bnd ys
  | [], _, h => h
  | _ :: xs, _, h => Bnd.app (xs := xs) h.tail
theorem Bnd.left {xs ys : List P2} (h : Bnd (xs ++ ys)) : Bnd xs := (h.perm List.perm_append_comm).app
end PM

set_option Elab.async false
set_option linter.all false
set_option maxRecDepth 100000
set_option maxHeartbeats 4000000
namespace PM
open PySem L2
section
variable {X : Cx} {W : WX} {ρ : Env'} {μ : List M} {o e : Expr} {apos pos : Pos} {Q : KV} {Z : KX}
end
section
variable {X : Cx} {W : WX} {ρ : Env'} {μ : List M} {tg e : Expr} {pos : Pos} {nx : KN} {κ : Ks}
end
end PM

set_option Elab.async false
set_option linter.all false
set_option maxRecDepth 100000
set_option maxHeartbeats 1000000
namespace PM
/-! pools just apart, two of them at one end at one spot -/
section
variable {w V : Int}
def stp (w V : Int) (k : Nat) : P2 := (w * (k : Int) * (V + 1) * V, V)
def acc (w V : Int) : Nat → P2
  | 0 => (0, V)
  | k + 1 => mrg (acc w V k) (stp w V k)
end
end PM

set_option Elab.async false
set_option linter.all false
set_option maxRecDepth 100000
set_option maxHeartbeats 4000000
namespace PM
open PySem L2
section
variable {X : Cx} {W : WX} {ρ : Env'} {μ : List M} {e : Expr} {pos p1 p2 p3 : Pos} {k : Nat} {Q : KV} {Z : KX}
end
end PM

set_option Elab.async false
set_option linter.all false
set_option maxRecDepth 100000
/-! Comprehensions and loops over lists that stay as they are: what each item comes to. -/
namespace PM
open PySem L2
inductive All2 {α β : Type} (R : α → β → Prop) : List α → List β → Prop
  | nil : All2 R [] []
  | cons {x : α} {y : β} {xs : List α} {ys : List β} : R x y → All2 R xs ys → All2 R (x :: xs) (y :: ys)
section
variable {α β : Type} {R : α → β → Prop}
theorem All2.snoc {xs : List α} {ys : List β} {x : α} {y : β} (h : All2 R xs ys) (r : R x y) : All2 R (xs ++ [x]) (ys ++ [y]) := by
  induction h with
  | nil => exact .cons r .nil
  | cons a _ ih => exact .cons a ih
theorem All2.len {xs : List α} {ys : List β} (h : All2 R xs ys) : ys.length = xs.length := by
  induction h with
  | nil => rfl
  | cons _ _ ih => simp [ih]
theorem All2.fn {f : α → β} {xs : List α} {ys : List β} (h : All2 (fun x y => y = f x) xs ys) : ys = xs.map f := by
  induction h with
  | nil => rfl
  | cons e _ ih => rw [e, ih]; rfl
theorem All2.mem {xs : List α} {ys : List β} {y : β} (h : All2 R xs ys) (hy : y ∈ ys) : ∃ x ∈ xs, R x y := by
  induction h with
  | nil => cases hy
  | cons a _ ih =>
    rcases List.mem_cons.mp hy with rfl | hy
    · exact ⟨_, by simp, a⟩
    · obtain ⟨x, hx, r⟩ := ih hy
      exact ⟨x, by simp [hx], r⟩
end
section
variable {X : Cx} {W : WX} {ρ : Env'} {μ : List M} {tg e : Expr} {body : List Stmt} {nx nx' : KN} {κ : Ks} {d : D}
theorem wG.imp (h : wG X W ρ μ tg d nx) (hn : ∀ ρ μ, nx ρ μ → nx' ρ μ) : wG X W ρ μ tg d nx' := ⟨pg_of h.run fun v σ H R ⟨L, G, n, r, a⟩ => ⟨L, G, n, r, fun ρ' μ' q => a ρ' μ' (hn _ _ q)⟩⟩
theorem wI.imp {QA QA' : KA} {Z : KX} (h : wI X W ρ μ tg e QA Z) (hq : ∀ ds μ, QA ds μ → QA' ds μ) : wI X W ρ μ tg e QA' Z := ⟨pi_of h.run fun σ H J ⟨L, G, n, v, x⟩ => ⟨L, G, n, fun ds μ' q => v ds μ' (hq _ _ q), x⟩⟩
end
section
variable {X : Cx} {W : WX} {k : Nat} {N : List Str} {V V' : List Kd} {Gs Gs' : List Str} {ρ ρ' : Env'} {μ μ1 μ2 : List M} {e elt tg iter c : Expr} {es ifs : List Expr} {Q : KV} {Z : KX} {d : D} {ds : List D} {pos : Pos} {x : Str} {scope : Scope} {own : List (Str × Nat)} {vs : List Nat}
theorem big_sl {n : Nat} (h : n ≤ 1000000) : n ≤ sizeLine := Nat.le_trans h (by rw [sizeLine_eq]; decide)
/-- [elt for tg in xs if c], nothing in the store changes -/
theorem wE_lcF (V' : List Kd) (Gs' : List Str) (own : List (Str × Nat)) (g : Fx X W k N V Gs) {sc : Scope} (hsc : X.env.scope = sc) (ck : ckB N V' Gs' (relabS sc scope) = true) (ok : BlkOk X.N X.env.scope scope own) {α β : Type} (xs : List α) (rd : α → D) (c : α → Bool) (out : β → D) (R : α → β → Prop)
    (hi : wI X W ρ μ tg iter (fun ds μ1 => ds = xs.map rd ∧ μ1 = μ) Z) (hl : xs.length ≤ 1000000)
    (ht : ∀ x ∈ xs, ∀ (K1 : KV) (K2 : List M → Prop), (c x = true → ∀ b, R x b → K1 (out b) μ) → (c x = false → K2 μ) → wTurn X k N V' Gs' scope (own.map (·.2)) tg elt ifs ρ (rd x) μ K1 K2)
    (h : ∀ ys, All2 R (xs.filter c) ys → Q (.lst (ys.map out)) μ) (hs : ∀ x, foldedSetIterable iter X.env x = pure x := by intro _; rfl) : wE X W ρ μ (.ListComp elt [⟨tg, iter, ifs, 0⟩] scope pos) Q Z := by
  refine wE_lc V' Gs' own (fun ds done μ' => ∃ zs ws bs, xs = zs ++ ws ∧ ds = ws.map rd ∧ All2 R (zs.filter c) bs ∧ done = bs.map out ∧ μ' = μ) g hsc ck ok ?_ ?_ ?_ hs
  · refine wI.imp hi fun ds μ1 ⟨e1, e2⟩ => ?_
    subst e1 e2
    exact ⟨by rw [List.length_map]; exact big_sl hl, [], xs, [], rfl, rfl, .nil, rfl, rfl⟩
  · rintro d ds done μ' ⟨zs, ws, bs, e1, e2, e3, rfl, rfl⟩
    cases ws with
    | nil => cases e2
    | cons y ws =>
      obtain ⟨rfl, rfl⟩ := List.cons.inj e2
      refine ht y (by rw [e1]; simp) _ _ (fun hc b hb => ?_) (fun hc => ?_)
      · exact ⟨zs ++ [y], ws, bs ++ [b], by simp [e1], rfl, by rw [List.filter_append, List.filter_cons_of_pos hc]; exact e3.snoc hb, by simp, rfl⟩
      · exact ⟨zs ++ [y], ws, bs, by simp [e1], rfl, by rw [List.filter_append, List.filter_cons_of_neg (by simp [hc])]; simpa using e3, rfl, rfl⟩
  · rintro done μ' ⟨zs, ws, bs, e1, e2, e3, rfl, rfl⟩
    cases ws with
    | cons y ws => cases e2
    | nil =>
      rw [List.append_nil] at e1
      subst e1
      exact h _ e3
/-- [elt for tg in xs]: each item comes to one of its own -/
theorem wE_lcR (V' : List Kd) (Gs' : List Str) (own : List (Str × Nat)) (g : Fx X W k N V Gs) {sc : Scope} (hsc : X.env.scope = sc) (ck : ckB N V' Gs' (relabS sc scope) = true) (ok : BlkOk X.N X.env.scope scope own) {α β : Type} (xs : List α) (rd : α → D) (out : β → D) (R : α → β → Prop)
    (hi : wI X W ρ μ tg iter (fun ds μ1 => ds = xs.map rd ∧ μ1 = μ) Z) (hl : xs.length ≤ 1000000)
    (ht : ∀ x ∈ xs, ∀ (K1 : KV) (K2 : List M → Prop), (∀ b, R x b → K1 (out b) μ) → wTurn X k N V' Gs' scope (own.map (·.2)) tg elt ifs ρ (rd x) μ K1 K2)
    (h : ∀ ys, All2 R xs ys → Q (.lst (ys.map out)) μ) (hs : ∀ x, foldedSetIterable iter X.env x = pure x := by intro _; rfl) : wE X W ρ μ (.ListComp elt [⟨tg, iter, ifs, 0⟩] scope pos) Q Z :=
  wE_lcF V' Gs' own g hsc ck ok xs rd (fun _ => true) out R hi hl (fun x hx K1 K2 h1 _ => ht x hx K1 K2 (h1 rfl)) (fun ys hy => h ys (by rwa [List.filter_eq_self.mpr (fun _ _ => rfl)] at hy)) hs
/-- [elt for tg in xs]: by a function -/
theorem wE_lcM (V' : List Kd) (Gs' : List Str) (own : List (Str × Nat)) (g : Fx X W k N V Gs) {sc : Scope} (hsc : X.env.scope = sc) (ck : ckB N V' Gs' (relabS sc scope) = true) (ok : BlkOk X.N X.env.scope scope own) {α : Type} (xs : List α) (rd out : α → D)
    (hi : wI X W ρ μ tg iter (fun ds μ1 => ds = xs.map rd ∧ μ1 = μ) Z) (hl : xs.length ≤ 1000000)
    (ht : ∀ x ∈ xs, ∀ (K1 : KV) (K2 : List M → Prop), K1 (out x) μ → wTurn X k N V' Gs' scope (own.map (·.2)) tg elt ifs ρ (rd x) μ K1 K2)
    (h : Q (.lst (xs.map out)) μ) (hs : ∀ x, foldedSetIterable iter X.env x = pure x := by intro _; rfl) : wE X W ρ μ (.ListComp elt [⟨tg, iter, ifs, 0⟩] scope pos) Q Z :=
  wE_lcR V' Gs' own g hsc ck ok xs rd out (fun x b => b = x) hi hl (fun x hx K1 K2 h1 => ht x hx K1 K2 (h1 x rfl)) (fun ys hy => by rw [hy.fn, List.map_id']; exact h) hs
end
end PM

set_option Elab.async false
set_option linter.all false
set_option maxRecDepth 100000
set_option maxHeartbeats 4000000
namespace PM
open PySem L2
/-! ### sum(list of own instances, start=own instance) -/
/-- within a built-in -/
def inC (X : Cx) : Cx := { X with A := X.A.in1, xe := fun _ _ => False }
section
variable {X : Cx} {W : WX} {k : Nat} {pins : List (Addr × Obj)} {σ : L2.St} {H : Hp} {s : Shared}
theorem inC_ok (h : X.Ok) : (inC X).Ok := { h with hd := fun c => h.hd c, frames := h.frames }
theorem inC_inv (I : L2.Inv X pins σ H s) : L2.Inv (inC X) pins σ H s := { I with ok := inC_ok I.ok }
theorem inC_back (ok : X.Ok) (I : L2.Inv (inC X) pins σ H s) : L2.Inv X pins σ H s := { I with ok := ok }
theorem Gd.inC (g : Gd X W (k + 1)) : Gd (PM.inC X) W0 k := ⟨g.calm, g.nd, fun u s' ⟨_, _, _, _, _, _, _, _, _, _, _, _, _, _, _, _, w⟩ => w, PassesOwn.never, g.hr.in1, g.gr.mono (Nat.le_succ _)⟩
end
/-- the sums, one by one -/
inductive Sums (X : Cx) (μ : List M) (C : Addr) : D → List D → D → Prop
  | nil {ns : List Str} {fs : List D} : Sums X μ C (.obj C ns fs) [] (.obj C ns fs)
  | cons {ns : List Str} {fs : List D} {d t r : D} {ds : List D} : OpO (inC X) W0 (binaryOp .Add) (.obj C ns fs) d μ (.ret t μ) → Sums X μ C t ds r → Sums X μ C (.obj C ns fs) (d :: ds) r
section
variable {X : Cx} {W : WX} {k : Nat} {C : Addr} {μ : List M}
end
section
variable {X : Cx} {W : WX} {k : Nat} {N : List Str} {V : List Kd} {Gs : List Str} {ρ : Env'} {μ : List M} {e e2 : Expr} {Q : KV} {Z : KX} {p pos kp : Pos} {C : Addr}
end
end PM

set_option Elab.async false
set_option linter.all false
set_option maxRecDepth 100000
set_option maxHeartbeats 4000000
namespace PM
open PySem L2
/-! ### o(..), o an own instance with __call__ -/
section
variable {X : Cx} {W : WX} {k : Nat} {N : List Str} {V : List Kd} {Gs : List Str} {ρ : Env'} {μ : List M} {e : Expr} {es : List Expr} {Q : KV} {Z : KX} {p pos : Pos} {C : Addr} {x : Str}
end
/-! ### C.NAME, a whole number of the class -/
section
variable {X : Cx} {W : WX} {ρ : Env'} {μ : List M} {e : Expr} {Q : KV} {Z : KX} {pos : Pos} {f : Str}
end
end PM

set_option Elab.async false
set_option linter.all false
set_option maxRecDepth 100000
set_option maxHeartbeats 4000000
namespace PM
open PySem L2
section
variable {X : Cx} {W : WX} {ρ : Env'} {μ : List M} {o e e2 : Expr} {Q : KV} {Z : KX} {apos pos : Pos}
end
/-! l[:-1] -/
section
variable {X : Cx} {W : WX} {ρ : Env'} {μ : List M} {e a : Expr} {pos p2 : Pos} {Q : KV} {Z : KX}
end
/-! greater numbers -/
set_option exponentiation.threshold 20000
theorem log_500 {i : Int} (h : -(2 ^ 500) < i ∧ i < 2 ^ 500) : i.natAbs.log2 ≤ 500 := by
  by_cases z : i.natAbs = 0
  · rw [z]; decide
  · have : i.natAbs < 2 ^ 500 := by omega
    exact Nat.le_of_lt ((Nat.log2_lt z).mpr this)
section
variable {X : Cx} {W : WX} {μ : List M} {i j : Int} {Q : KV} {Z : KX}
theorem wB_mulB (c : (-(2 ^ 500) < i ∧ i < 2 ^ 500) ∧ (-(2 ^ 500) < j ∧ j < 2 ^ 500)) (h : Q (.int (i * j)) μ) : wB X W (binaryOp .Mult) (.int i) (.int j) μ Q Z :=
  wB_mul (by have h1 := log_500 c.1; have h2 := log_500 c.2; unfold CMulW; omega) h
theorem wB_fdivB (c : 0 < j ∧ j < 2 ^ 500) (h : Q (.int (i / j)) μ) : wB X W (binaryOp .FloorDiv) (.int i) (.int j) μ Q Z :=
  wB_fdiv ⟨c.1, by have := log_500 (i := j) ⟨by omega, c.2⟩; omega⟩ h
end
end PM

set_option Elab.async false
set_option linter.all false
set_option maxRecDepth 100000
set_option exponentiation.threshold 20000
namespace PM
open PySem L2 PyProof.Rows
/-! ### powers of greater numbers, sums of ints -/
def CPowB (i j : Int) : Prop := (0 ≤ j ∧ j ≤ 8) ∧ i.natAbs < 2 ^ 500
section
variable {X : Cx} {W : WX} {k : Nat} {μ : List M} {i : Int} {Q : KV} {Z : KX}
theorem op_powB : OpR X (binaryOp .Pow) (rI CPowB fun i j => .int (i ^ j.toNat)) := opI fun i j _ _ _ _ _ hc q => by
  have h1 : (Builtin.Int.intBits i : Int) ≤ 500 := Int.ofNat_le.mpr (intBits_le hc.2)
  refine pow_int hc.1.1 ?_ q
  have h2 : (Builtin.Int.intBits i : Int) * j ≤ 500 * 8 := Int.mul_le_mul h1 hc.1.2 hc.1.1 (by omega)
  omega
theorem wB_sq (c : -(2 ^ 500) < i ∧ i < 2 ^ 500) (h : Q (.int (i * i)) μ) : wB X W (binaryOp .Pow) (.int i) (.int 2) μ Q Z :=
  .ofV (oo_intC op_powB (i := i) (j := 2) ⟨by decide, by omega⟩) (by
    rw [show i ^ (2 : Int).toNat = i * i from by rw [show (2 : Int).toNat = 2 from rfl, Int.pow_succ, Int.pow_succ, Int.pow_zero, Int.one_mul]]
    exact h)
theorem wB_cube (c : -(2 ^ 500) < i ∧ i < 2 ^ 500) (h : Q (.int (i * i * i)) μ) : wB X W (binaryOp .Pow) (.int i) (.int 3) μ Q Z :=
  .ofV (oo_intC op_powB (i := i) (j := 3) ⟨by decide, by omega⟩) (by
    rw [show i ^ (3 : Int).toNat = i * i * i from by rw [show (3 : Int).toNat = 3 from rfl, Int.pow_succ, Int.pow_succ, Int.pow_succ, Int.pow_zero, Int.one_mul]]
    exact h)
theorem wF_isTT {ds : List D} (h : Q (.bl true) μ) : wF X W (fun us => call (.builtin "isinstance") us) [.tup ds, .ty "tuple"] μ Q Z := wF_isi .tup (.ty "tuple") rfl h
end
end PM

set_option Elab.async false
set_option linter.all false
set_option maxRecDepth 100000
set_option maxHeartbeats 4000000
namespace PM
open PySem
open L2 hiding Inv
/-! ### zip of two: lists and tuples -/
def SIt (t : Bool) (h : Heap) (it l : Addr) (i : Nat) : Prop := if t then h.IsTupleIter it l i else h.IsListIter it l i
def SHas (t : Bool) (h : Heap) (l : Addr) (items : Array Value) : Prop := if t then h.IsTuple l items else h.IsList l items
def SqB (t : Bool) (K : PySem.W.Frag) (H : Hp) (a : Addr) (xs : List V) : Prop := if t then SqT K H a xs else SqL K H a xs
theorem draws_src (t : Bool) {prog : Program} {w : World} {A : Around} (hh : A.handled = none) (it l : Addr) (hne : l ≠ it) (items : Array Value) :
    Draws prog w A it [it, l] items.size (fun i v => items[i]? = some v) (fun i h => SIt t h it l i ∧ SHas t h l items) := by
  cases t with
  | true => exact Draws.tuple hh it l hne items
  | false => exact Draws.list hh it l hne items
def srcObj (t : Bool) (l : Addr) : Obj := { cls := .type (if t then "tuple_iterator" else "list_iterator"), data := .fields #[.ref l, .int 0 0] }
theorem begins_src (t : Bool) (l : Addr) (items : Array Value) : Begins (.ref l) (srcObj t l) fun h => SHas t h l items := by
  cases t with
  | true => exact begins_tuple l items
  | false => exact begins_list l items
theorem SIt.begin (t : Bool) {h : Heap} {it l : Addr} (e : h.get? it = some (srcObj t l)) : SIt t h it l 0 := by
  cases t with
  | true => exact ⟨_, e, rfl, rfl⟩
  | false => exact ⟨_, e, rfl, rfl⟩
theorem SIt.at (t : Bool) {h h' : Heap} {it l : Addr} {i : Nat} (s : SIt t h it l i) (k : ∀ o, h.get? it = some o → h'.get? it = some o) : SIt t h' it l i := by
  cases t with
  | true => exact Heap.IsTupleIter.at s k
  | false => exact Heap.IsListIter.at s k
theorem SIt.obj (t : Bool) {h : Heap} {it l : Addr} {i : Nat} (s : SIt t h it l i) : ∃ o, h.get? it = some o ∧ ∀ v, o.data ≠ .cell v := by
  cases t with
  | true => obtain ⟨o, e, _, d⟩ := s; exact ⟨o, e, fun v q => by rw [d] at q; cases q⟩
  | false => obtain ⟨o, e, _, d⟩ := s; exact ⟨o, e, fun v q => by rw [d] at q; cases q⟩
theorem SqB.has {X : Cx} {pins : List (Addr × Obj)} {σ : L2.St} {H : Hp} {s : Shared} {a : Addr} {xs : List V} (t : Bool) (I : L2.Inv X pins σ H s) (q : SqB t X.K H a xs) : ∃ its : List Value, Vals xs its ∧ SHas t s.heap a its.toArray ∧ a < s.heap.objs.size := by
  cases t with
  | true =>
    obtain ⟨its, rv, p, _⟩ := I.tuple q
    exact ⟨its, rv, p, by obtain ⟨o, ho, _⟩ := p; exact Heap.lt_size ho⟩
  | false =>
    obtain ⟨its, rv, p, _⟩ := I.list q
    exact ⟨its, rv, p.isList, p.lt⟩
theorem SqB.inj {X : Cx} {pins : List (Addr × Obj)} {σ : L2.St} {H : Hp} {s : Shared} {a : Addr} {xs ys : List V} (t : Bool) (I : L2.Inv X pins σ H s) (q : SqB t X.K H a xs) (q' : SqB t X.K H a ys) : xs = ys := by
  cases t with
  | true => exact I.tuple_inj q q'
  | false => exact I.list_inj q q'
theorem sep5 {n a b : Nat} (ha : a < n) (hb : b < n) : ZipSep2 (n + 4) (n + 2) (n + 3) n (n + 1) [n, a] [n + 1, b] where
  TIz := fun h => absurd (show n + 2 = n + 4 from h) (by omega)
  TOz := fun h => absurd (show n + 3 = n + 4 from h) (by omega)
  TITO := fun h => absurd (show n + 2 = n + 3 from h) (by omega)
  TIi1 := fun h => absurd (show n + 2 = n from h) (by omega)
  mem1 := by simp
  zf1 := fun h => by
    have h' : n + 4 = n ∨ n + 4 = a := List.mem_cons.mp h |>.imp id fun h => List.mem_singleton.mp h
    omega
  Tf1 := fun h => by
    have h' : n + 3 = n ∨ n + 3 = a := List.mem_cons.mp h |>.imp id fun h => List.mem_singleton.mp h
    omega
  TIi2 := fun h => absurd (show n + 2 = n + 1 from h) (by omega)
  mem2 := by simp
  zf2 := fun h => by
    have h' : n + 4 = n + 1 ∨ n + 4 = b := List.mem_cons.mp h |>.imp id fun h => List.mem_singleton.mp h
    omega
  Tf2 := fun h => by
    have h' : n + 3 = n + 1 ∨ n + 3 = b := List.mem_cons.mp h |>.imp id fun h => List.mem_singleton.mp h
    omega
  sep1_2 := fun h => by
    have h' : n = n + 1 ∨ n = b := List.mem_cons.mp h |>.imp id fun h => List.mem_singleton.mp h
    omega
  sep2_1 := fun h => by
    have h' : n + 1 = n ∨ n + 1 = a := List.mem_cons.mp h |>.imp id fun h => List.mem_singleton.mp h
    omega
/-- the items of two, in new pairs -/
def Itz2 (K : PySem.W.Frag) (ta tb : Bool) (a b : Addr) : It :=
  ⟨fun i H => ∃ (xs ys : List V) (x y : V), SqB ta K H a xs ∧ SqB tb K H b ys ∧ xs[i]? = some x ∧ ys[i]? = some y,
    fun i H v H' => ∃ T x y, v = .ref T ∧ H T = none ∧ H' = upd H T (.tup [x, y]) ∧ (∀ xs, SqB ta K H a xs → xs[i]? = some x) ∧ ∀ ys, SqB tb K H b ys → ys[i]? = some y,
    fun i H => ∃ xs ys : List V, SqB ta K H a xs ∧ SqB tb K H b ys ∧ (i ≤ xs.length ∧ i ≤ ys.length) ∧ (xs.length = i ∨ ys.length = i)⟩
theorem turn_zip2 {P : Program} {w : World} {K : PySem.W.Frag} {elts : List Expr} {kk : Nat} {tpos : Pos} {ta tb : Bool} {a b z TI TO i1 i2 : Addr} (D : ZipSep2 z TI TO i1 i2 [i1, a] [i2, b]) (h1a : a ≠ i1) (h2b : b ≠ i2) :
    Turn P w K (.Tuple elts kk tpos) (Itz2 K ta tb a b) [z, TI, TO, i1, i2] z (fun i h => IsZip h z TI TO .none ∧ IsTupOf2 h TI (.ref i1) (.ref i2) ∧ (∃ x y, IsTupOf2 h TO x y) ∧ SIt ta h i1 a i ∧ SIt tb h i2 b i) where
  mem := by simp
  obj := fun i h st c hc => by
    obtain ⟨hz, hTI, ⟨x, y, hTO⟩, h1, h2⟩ := st
    have e' : c = z ∨ c = TI ∨ c = TO ∨ c = i1 ∨ c = i2 := by simpa using hc
    rcases e' with q | q | q | q | q
    · rw [q]; exact ⟨_, hz, fun v q => nomatch q⟩
    · rw [q]; exact ⟨_, hTI, fun v q => nomatch q⟩
    · rw [q]; exact ⟨_, hTO, fun v q => nomatch q⟩
    · rw [q]; exact SIt.obj ta h1
    · rw [q]; exact SIt.obj tb h2
  keep := fun i h h' st k => by
    obtain ⟨hz, hTI, ⟨x, y, hTO⟩, h1, h2⟩ := st
    exact ⟨k z (by simp) _ hz, k TI (by simp) _ hTI, ⟨x, y, k TO (by simp) _ hTO⟩, SIt.at ta h1 fun o q => k i1 (by simp) o q, SIt.at tb h2 fun o q => k i2 (by simp) o q⟩
  item := by
    intro X hP hw hK hc i pins s σ H E I hf st hg
    subst hP hw hK
    obtain ⟨hz, hTI, ⟨x0, y0, hTO⟩, h1, h2⟩ := st
    obtain ⟨xs, ys, x, y, hqx, hqy, hx, hy⟩ := hg
    obtain ⟨its, rv, p, _⟩ := SqB.has ta I hqx
    obtain ⟨its2, rv2, p2, _⟩ := SqB.has tb I hqy
    obtain ⟨u, hu, ru⟩ := rv.get hx
    obtain ⟨u2, hu2, ru2⟩ := rv2.get hy
    have hzl : z < s.heap.objs.size := Heap.lt_size hz
    have n1 : i < its.toArray.size := by simpa using (List.getElem?_eq_some_iff.mp hu).1
    have n2 : i < its2.toArray.size := by simpa using (List.getElem?_eq_some_iff.mp hu2).1
    refine wpAny_pyNext_zipD2_item D (draws_src ta (A := X.A.in1) (I.ok.hd hc) i1 a h1a its.toArray) (draws_src tb (A := X.A.in1) (I.ok.hd hc) i2 b h2b its2.toArray) hz hTI hTO ⟨h1, p⟩ ⟨h2, p2⟩ n1 n2 fun x1 x2 h' tk e1 e2 z' TO' h1' h2' hT hsz hk => ?_
    have ex1 : x1 = u := by
      have h3 : its.toArray[i]? = some u := by simpa using hu
      rw [h3] at e1
      exact (Option.some.inj e1).symm
    have ex2 : x2 = u2 := by
      have h3 : its2.toArray[i]? = some u2 := by simpa using hu2
      rw [h3] at e2
      exact (Option.some.inj e2).symm
    subst ex1 ex2
    refine ⟨_, rfl, wpAny_letOwnedTupleGo_zip (s := { s with heap := h', toks := tk }) z' fun h'' z'' sb => ?_⟩
    have hT2 : h''.get? s.heap.objs.size = some { cls := .type "tuple", data := .seq #[x1, x2] } := (sb.2 _ (Nat.ne_of_gt hzl)).trans hT
    have new : ObjOk X.prog X.w (upd H s.heap.objs.size (.tup [x, y])) h'' s.heap.objs.size (.tup [x, y]) :=
      ⟨by show 2 ≤ sizeLine; decide, [x1, x2], .cons ru (.cons ru2 .nil), ⟨_, hT2, rfl, _, rfl⟩⟩
    have I1 : L2.Inv X pins σ (upd H s.heap.objs.size (.tup [x, y])) { s with heap := h'', toks := tk } :=
      I.turnedNew (ch := [z, TI, TO, i1, i2]) (fun c o hb q => (sb.2 c (fun q' => hb (by simp [q']))).trans (hk c o (fun q' => hb (by simp [q'])) (fun q' => hb (by simp [q'])) (fun q' => hb (by simp [q'])) (fun q' => hb (by simp [q'])) q)) hf (Nat.le_refl _) new
    have nz1 : i1 ≠ z := fun q => D.zi1 q.symm
    have nz2 : i2 ≠ z := fun q => D.zi2 q.symm
    refine ⟨.ref s.heap.objs.size, _, I1, rfl, ⟨_, x, y, rfl, I.hok.fresh (Nat.le_refl _), rfl, fun l hl => by rw [SqB.inj ta I hl hqx]; exact hx, fun l hl => by rw [SqB.inj tb I hl hqy]; exact hy⟩, ⟨z'', ?_, ⟨x1, x2, ?_⟩, ?_, ?_⟩, fun c hcm => ?_⟩
    · exact (sb.2 _ D.TIz).trans (hk _ _ D.TIz D.TITO D.TIi1 D.TIi2 hTI)
    · exact (sb.2 _ D.TOz).trans TO'
    · exact SIt.at ta h1'.1 fun o q => (sb.2 _ nz1).trans q
    · exact SIt.at tb h2'.1 fun o q => (sb.2 _ nz2).trans q
    · have hlt : c < s.heap.objs.size := by
        have e' : c = z ∨ c = TI ∨ c = TO ∨ c = i1 ∨ c = i2 := by simpa using hcm
        rcases e' with q | q | q | q | q
        · rw [q]; exact hzl
        · rw [q]; exact Heap.lt_size hTI
        · rw [q]; exact Heap.lt_size hTO
        · rw [q]; obtain ⟨_, e1, _⟩ := SIt.obj ta h1; exact Heap.lt_size e1
        · rw [q]; obtain ⟨_, e2, _⟩ := SIt.obj tb h2; exact Heap.lt_size e2
      rw [upd_ne (Nat.ne_of_lt hlt)]
      exact (hf c hcm).1
  done := by
    intro X hP hw hK hc i pins s σ H E I hf st hg
    subst hP hw hK
    obtain ⟨hz, hTI, ⟨x0, y0, hTO⟩, h1, h2⟩ := st
    obtain ⟨xs, ys, hqx, hqy, ⟨le1, le2⟩, hend⟩ := hg
    obtain ⟨its, rv, p, _⟩ := SqB.has ta I hqx
    obtain ⟨its2, rv2, p2, _⟩ := SqB.has tb I hqy
    have l1 := rv.length
    have l2 := rv2.length
    refine wpAny_pyNext_zipD2_end D (draws_src ta (A := X.A.in1) (I.ok.hd hc) i1 a h1a its.toArray) (draws_src tb (A := X.A.in1) (I.ok.hd hc) i2 b h2b its2.toArray) hz hTI hTO ⟨h1, p⟩ ⟨h2, p2⟩ (by simp; omega) (by simp; omega) (by simp; omega) fun h' tk hk => ⟨rfl, I.turnedL (ch := [z, TI, TO, i1, i2]) (fun c o hb q =>
      hk c o (fun q' => hb (by simp [q'])) (fun q' => hb (by simp [q'])) (fun q' => hb (by simp [q'])) (fun q' => hb (by simp [q'])) q) hf⟩
  self := fun A i s Q E st h => wpAny_pyIter_zip st.1 h
def iZip2 (K : PySem.W.Frag) (t : TA) : TI := fun σ H R => t σ H fun vs H1 => ∃ ta tb a b xs ys, vs = [.ref a, .ref b] ∧ SqB ta K H1 a xs ∧ SqB tb K H1 b ys ∧ R (Itz2 K ta tb a b) H1
theorem pi_zip2 {X : Cx} {e e2 : Expr} {t : TA} {p pos tpos : Pos} {elts : List Expr} {kk : Nat} (hg : Gl X "zip") (hm : X.mg "zip" = none) (ha : PA X [e, e2] t)
    (hs : starEach [e, e2] X.env = (false, eval e X.env) :: starEach [e2] X.env := by rfl) (hpl : (backTo pos (starEach [e2] X.env)).any (·.1) = false := by rfl) :
    PI X (.Tuple elts kk tpos) (.Call (.Name "zip" p) [e, e2] [] pos) (iZip2 X.K t) := by
  refine ⟨fun pins s σ H R I h => ?_⟩
  refine PyProof.Rows.Call_ (ld_blt I hg hm PyProof.Rows.boot_zip (PyProof.Rows.callWith_type1 (thn (ha.run pos pins s σ H _ I h) fun us s1 ⟨vs, H1, I1, r1, q1⟩ => ?_) hs hpl))
  obtain ⟨ta, tb, a, b, xs, ys, ex, hqx, hqy, q⟩ := q1
  subst ex
  cases r1 with
  | cons r rr =>
    cases rr with
    | cons r' rr =>
      cases rr
      cases r
      cases r'
      have fresh5 : ∀ c, c ∈ [s1.heap.objs.size + 4, s1.heap.objs.size + 2, s1.heap.objs.size + 3, s1.heap.objs.size, s1.heap.objs.size + 1] → FpOk X pins H1 c := fun c hcm => by
        have e' : c = s1.heap.objs.size + 4 ∨ c = s1.heap.objs.size + 2 ∨ c = s1.heap.objs.size + 3 ∨ c = s1.heap.objs.size ∨ c = s1.heap.objs.size + 1 := by simpa using hcm
        have hle : s1.heap.objs.size ≤ c := by
          rcases e' with z | z | z | z | z <;> rw [z] <;> first | exact Nat.le_refl _ | exact Nat.le_add_right _ _
        exact I1.fpOk hle (I1.hok.fresh hle)
      obtain ⟨its, rv, p1, al⟩ := SqB.has ta I1 hqx
      obtain ⟨its2, rv2, p2, bl⟩ := SqB.has tb I1 hqy
      refine zip_begins2 (begins_src ta a its.toArray) (begins_src tb b its2.toArray) p1 p2 fun h' hz hTI hTO h1 h2 hsz hk => wpAny_pyIter_zip hz ?_
      have I2 : L2.Inv X pins σ H1 { s1 with heap := h' } := I1.kept (t' := s1.toks) hk
      have big : ∀ {n : Nat}, s1.heap.objs.size ≤ n → a ≠ n ∧ b ≠ n := fun h => ⟨Nat.ne_of_lt (Nat.lt_of_lt_of_le al h), Nat.ne_of_lt (Nat.lt_of_lt_of_le bl h)⟩
      have sep : ZipSep2 (s1.heap.objs.size + 4) (s1.heap.objs.size + 2) (s1.heap.objs.size + 3) s1.heap.objs.size (s1.heap.objs.size + 1) [s1.heap.objs.size, a] [s1.heap.objs.size + 1, b] := by
        exact sep5 al bl
      exact ⟨s1.heap.objs.size + 4, [s1.heap.objs.size + 4, s1.heap.objs.size + 2, s1.heap.objs.size + 3, s1.heap.objs.size, s1.heap.objs.size + 1], _, _, H1, rfl, I2, turn_zip2 sep (big (Nat.le_refl _)).1 (big (Nat.le_succ _)).2, ⟨hz, hTI, ⟨_, _, hTO⟩, SIt.begin ta h1, SIt.begin tb h2⟩, fresh5, q⟩
/-! as rules -/
theorem SqB.mono (t : Bool) {K : PySem.W.Frag} {G H : Hp} {a : Addr} {xs : List V} (s : Same G H) (q : SqB t K G a xs) : SqB t K H a xs := by
  cases t with
  | true => exact Same.sqT s q
  | false => exact Same.sqL s q
theorem jok_zip2 {K : PySem.W.Frag} {L : List Addr} {G : Hp} {ta tb : Bool} {a b : Addr} {vs us : List V} {ds es : List D} (q : SqB ta K G a vs) (q' : SqB tb K G b us) (r : Reps K L G ds vs) (r' : Reps K L G es us) : JOk K (Itz2 K ta tb a b) L G ((ds.zip es).map fun p => .tup [p.1, p.2]) where
  go := fun L2 G2 H2 μ2 i d pr sg o e => by
    have q2 := SqB.mono ta (sg.trans o.sub) q
    have q3 := SqB.mono tb (sg.trans o.sub) q'
    rw [List.getElem?_map] at e
    obtain ⟨⟨d1, d2⟩, ez, rfl⟩ := Option.map_eq_some_iff.mp e
    obtain ⟨e1, e2⟩ := List.getElem?_zip_eq_some.mp ez
    obtain ⟨v, ev, rv⟩ := r.get e1
    obtain ⟨u, eu, ru⟩ := r'.get e2
    exact ⟨⟨vs, us, v, u, q2, q3, ev, eu⟩, fun x H3 ⟨T, x1, y1, ex, hT, e3, y, y'⟩ => by
      subst e3
      subst ex
      have h1 := y vs q2
      rw [ev] at h1
      cases h1
      have h2 := y' us q3
      rw [eu] at h2
      cases h2
      obtain ⟨o', s'⟩ := o.new (o := .tup [v, u]) hT
      exact ⟨_, s', o', rep_tup.mpr ⟨T, [v, u], rfl, SqT.of upd_same, Reps.cons ((rv.mono pr sg).step s') (Reps.cons ((ru.mono pr sg).step s') Reps.nil)⟩⟩⟩
  stop := fun L2 G2 H2 μ2 pr sg o => ⟨vs, us, SqB.mono ta (sg.trans o.sub) q, SqB.mono tb (sg.trans o.sub) q', by
    rw [r.length, r'.length, List.length_map, List.length_zip]
    omega, by
    rw [r.length, r'.length, List.length_map, List.length_zip]
    omega⟩
/-- a list or a tuple that nobody changes -/
def Lot (d : D) (ds : List D) : Prop := d = .lst ds ∨ d = .tup ds
theorem Lot.at_ {μ : List M} {K : PySem.W.Frag} {L : List Addr} {G H : Hp} {d : D} {ds : List D} {v : V} (c : Lot d ds) (o : Ok K L G H μ) (r : Rep K L G d v) : ∃ t a vs, v = .ref a ∧ SqB t K G a vs ∧ SqB t K H a vs ∧ Reps K L G ds vs := by
  rcases c with rfl | rfl
  · obtain ⟨a, vs, e, q, rr⟩ := rep_lst.mp r
    exact ⟨false, a, vs, e, SqL.of q, SqL.of (o.sub _ _ q), rr⟩
  · obtain ⟨a, vs, e, q, rr⟩ := rep_tup.mp r
    exact ⟨true, a, vs, e, q, Same.sqT o.sub q, rr⟩
section
variable {X : Cx} {W : WX} {ρ : Env'} {μ : List M} {e e2 : Expr} {elts : List Expr} {kk : Nat} {tpos p pos : Pos} {QA : KA} {Z : KX}
/-- for .., .. in zip(e, e2) -/
theorem wI_zip2 (hm : X.mg "zip" = none) (h : wA X W ρ μ [e, e2] (fun ds μ1 => ∃ d1 d2 xs ys, ds = [d1, d2] ∧ Lot d1 xs ∧ Lot d2 ys ∧ QA ((xs.zip ys).map fun p => .tup [p.1, p.2]) μ1) Z) (hg : Gl X "zip" := by rfl)
    (hs : starEach [e, e2] X.env = (false, eval e X.env) :: starEach [e2] X.env := by rfl) (hpl : (backTo pos (starEach [e2] X.env)).any (·.1) = false := by rfl) : wI X W ρ μ (.Tuple elts kk tpos) (.Call (.Name "zip" p) [e, e2] [] pos) QA Z :=
  ⟨pi_of (pi_zip2 hg hm h.run hs hpl) fun σ H R ⟨L, G, n, v, x⟩ => ⟨L, G, n, fun ds μ1 ⟨d1, d2, xs, ys, ed, l1, l2, q⟩ us L1 G1 H1 s1 o1 r1 => by
    subst ed
    obtain ⟨u1, rest, rfl, ra, rb⟩ := r1.inv_cons
    obtain ⟨u2, rest2, rfl, rc, rd⟩ := rb.inv_cons
    rw [rd.inv_nil]
    obtain ⟨ta, a, vs, rfl, hq, hq', rr⟩ := l1.at_ o1 ra
    obtain ⟨tb, b, vs2, rfl, hq2, hq2', rr2⟩ := l2.at_ o1 rc
    exact ⟨ta, tb, a, b, vs, vs2, rfl, hq', hq2', v _ μ1 q _ L1 G1 H1 s1 o1 (jok_zip2 hq hq2 rr rr2)⟩, x⟩⟩
end
end PM

set_option Elab.async false
set_option linter.all false
set_option maxRecDepth 100000
set_option maxHeartbeats 4000000
namespace PM
open PySem PySem.Spec L2 PyProof.Rows
/-! ### defs that may be called while an exception is handled: they neither walk nor raise -/
structure GdC (X : Cx) (W : WX) (k : Nat) : Prop where
  nd : X.N.Nodup
  tk : L2.Takes X W
  hr : L2H.RoomH k X.A
structure FxC (X : Cx) (W : WX) (k : Nat) (N : List Str) (V : List Kd) (Gs : List Str) : Prop extends GdC X W k, Nx' X N V Gs
theorem GdC.suite {X : Cx} {W : WX} {k : Nat} {a : Addr} {pn : List (Addr × Obj)} (g : Gd X W k) : GdC (X.suite a pn) W0 k := ⟨g.nd, fun u s' ⟨_, _, _, _, _, _, _, _, _, _, _, _, _, _, _, _, w⟩ => w, ⟨g.hr.dp, g.hr.un⟩⟩
abbrev cxC (P : Program) (w : World) (K : PySem.W.Frag) (mg : Str → Option Value) (base : Heap) (N : List Str) (qual : Str) (scope : Scope) (f : Addr) (cd : Value) (A : Around) (outer : List Env) (s : Shared) (H : Hp) (E : XK) : Cx :=
  { cxOf (L2.CX P w) P w K mg base N qual scope f cd A outer s H E with calm := false }
structure FnC (P : Program) (w : World) (K : PySem.W.Frag) (mg : Str → Option Value) (base : Heap) (k : Nat) (f : Addr) (fd : FuncData) (ps : List Str) (sp : Sp) : Prop where
  len : ∀ vs H Q E, sp vs H Q E → vs.length = ps.length
  run : ∀ (A : Around) (outer : List Env) (s : Shared) (H : Hp) (args : Args) (us : List Value) (vs : List V) (Q : VK) (E : XK), L2H.RoomH k A → Env0 P w K mg base A outer s H → BindsTo s fd args (ps.zip us) → Vals vs us → sp vs H Q E →
    codeAny (model P w) A (.call (.ref f) args) (CR (L2.CX P w) outer P w H s Q E) s
def SpC (P : Program) (w : World) (K : PySem.W.Frag) (mg : Str → Option Value) (base : Heap) (f : Fnx) (ds : List D) (μ : List M) (Q : KV) (Z : KX) : Prop := FnC P w K mg base f.lv f.a f.fd f.ps (spH K ds μ Q Z)
abbrev SpCX (X : Cx) (f : Fnx) (ds : List D) (μ : List M) (Q : KV) (Z : KX) : Prop := SpC X.prog X.w X.K X.mg X.base f ds μ Q Z
section
variable {P : Program} {w : World} {K : PySem.W.Frag} {mg : Str → Option Value} {base : Heap}
end
section
variable {X : Cx} {W : WX} {k : Nat} {N : List Str} {V : List Kd} {Gs : List Str} {ρ : Env'} {μ : List M} {e : Expr} {es : List Expr} {Q : KV} {Z : KX} {ds : List D} {db : D} {p pos : Pos} {x : Str} {f : Fnx} {C : Addr} {ns : List Str} {fs : List D}
theorem SpC.call (h : SpCX X f ds μ Q Z) (bd : Binds X.K f.fd f.ps []) (g : GdC X W k) (hj : f.lv ≤ k) : wF X W (fun us => call (.ref f.a) us) ds μ Q Z := by
  refine ⟨fun pins s σ H xs us R L G I rx ok r av ax => ?_⟩
  have hsp : spH X.K ds μ Q Z xs H R (WE W σ) := ⟨L, G, ok, r, av, ax⟩
  have hl : us.length = f.ps.length := by rw [← rx.length]; exact h.len _ _ _ _ hsp
  have b := bd s us I.kIn (by rw [List.append_nil]; exact hl)
  rw [List.append_nil] at b
  refine wpAny_call (codeAny_mono (h.run X.A X.stack s H ⟨us, []⟩ us xs R (WE W σ) (g.hr.mono hj) I.env0 b rx hsp) fun r s' hq => ?_)
  cases r with
  | error e => exact passAt g.tk σ pins H s e s' I hq
  | ok fl =>
    cases fl with
    | ret u => exact I.after hq
    | next => exact False.elim hq
    | brk => exact False.elim hq
    | cont => exact False.elim hq
end
end PM

set_option Elab.async false
set_option linter.all false
set_option maxRecDepth 100000
set_option maxHeartbeats 4000000
namespace PM
open PySem L2
/-! ### slices of both ends, tuples whole or not -/
section
variable {X : Cx} {W : WX} {ρ : Env'} {μ : List M} {e a b : Expr} {pos p2 : Pos} {Q : KV} {Z : KX}
end
end PM

set_option Elab.async false
set_option linter.all false
set_option maxRecDepth 100000
set_option maxHeartbeats 4000000
namespace PM
open PySem PySem.SeqAt
open AutoSeq1 (wpAny_loadPart')
open MeetsSeq MeetsSeq2 MeetsSeq3 SeqRoads2
/-! ### == of tuples whose items are compared by own methods -/
section
variable {prog : Program} {w : World} {A : Around} {R : Result → Shared → Prop}
theorem tuple_eqB (l b : Addr) (xs ys : Array Value) (n n2 : Nat) (dd dd2 : Option Addr) (sl sl2 : Array (Option Value)) (e : Nat → Bool) (I : Shared → Prop)
    (turn : ∀ i (h1 : i < xs.size) (h2 : i < ys.size) s, I s → wpAny (model prog w) A.in1 (eqBool xs[i] ys[i]) (fun r s' => r = e i ∧ I s') (fun x s' => R (.error x) s') s)
    (fin : ∀ s, I s → R (.ok (.ret (.bool ((List.range (min xs.size ys.size)).all e && xs.size == ys.size)))) s) {s : Shared} (hl1 : s.heap.get? l = some { cls := .type "tuple", dict := dd, data := .seq xs n, slots := sl }) (hb1 : s.heap.get? b = some { cls := .type "tuple", dict := dd2, data := .seq ys n2, slots := sl2 }) (h : I s) :
    wpAny (model prog w) A.in1 (Builtin.«tuple.__eq__» ⟨[.ref l, .ref b], []⟩) (GQ.FinOf prog w A R) (fun x s' => R (.error x) s') s := by
  have f2 := AutoSeq1.sub_tuple_tuple
  have hZ : (xs.toList.zip ys.toList).length = min xs.size ys.size := by simp
  have h0 := h
  have fin' : ∀ i, (List.range (min xs.size ys.size)).take i |>.all e → ∀ s, I s → R (.ok (.ret (.bool (((List.range (min xs.size ys.size)).drop i).all e && xs.size == ys.size)))) s := fun i hi s hs => by
    have q := fin s hs
    rw [← List.take_append_drop i (List.range (min xs.size ys.size)), List.all_append, hi, Bool.true_and] at q
    exact q
  obtain ⟨hp, g, d, tk, os⟩ := s
  wp_walk using wpAny_loadPart' hl1, wpAny_loadPart' hb1, wpAny_forIn_list _ (fun rest b s' => b.1 = none ∧ ∃ i, rest = (xs.toList.zip ys.toList).drop i ∧ ((List.range (min xs.size ys.size)).take i).all e = true ∧ I s') _
  case turn =>
    rintro ⟨y, x⟩ rest b s' ⟨hb', i, hz, hi, hI⟩
    have hlt : i < (xs.toList.zip ys.toList).length := by
      rcases Nat.lt_or_ge i (xs.toList.zip ys.toList).length with h' | h'
      · exact h'
      · rw [List.drop_of_length_le h'] at hz; cases hz
    have hm : i < min xs.size ys.size := hZ ▸ hlt
    have h1 : i < xs.size := Nat.lt_of_lt_of_le hm (Nat.min_le_left _ _)
    have h2 : i < ys.size := Nat.lt_of_lt_of_le hm (Nat.min_le_right _ _)
    rw [List.drop_eq_getElem_cons hlt] at hz
    injection hz with hyx hrest
    have hy : y = xs[i] := by have := congrArg Prod.fst hyx; simpa using this
    have hx : x = ys[i] := by have := congrArg Prod.snd hyx; simpa using this
    subst hy hx
    have hd : (List.range (min xs.size ys.size)).drop i = i :: (List.range (min xs.size ys.size)).drop (i + 1) := by simp [List.drop_eq_getElem_cons, hm]
    have ht : (List.range (min xs.size ys.size)).take (i + 1) = (List.range (min xs.size ys.size)).take i ++ [i] := by rw [List.take_add_one]; simp [hm]
    refine wpAny_bind (wpAny_mono (turn i h1 h2 s' hI) (fun r s2 q2 => ?_) fun _ _ x => x)
    obtain ⟨hr, q2⟩ := q2
    subst hr
    have f3 := fin' i hi s2 q2
    rw [hd, List.all_cons] at f3
    cases he : e i with
    | true =>
      wp_walk
      exact ⟨rfl, i + 1, hrest, by rw [ht, List.all_append, hi]; simp [he], q2⟩
    | false =>
      rw [he] at f3
      wp_walk
      simpa using f3
  case fin =>
    rintro ⟨b1, b2⟩ s' ⟨hb', i, hz, hi, hI⟩
    simp only at hb'
    subst hb'
    have hge : min xs.size ys.size ≤ i := by
      rcases Nat.lt_or_ge i (xs.toList.zip ys.toList).length with h' | h'
      · rw [List.drop_eq_getElem_cons h'] at hz; cases hz
      · exact hZ ▸ h'
    have f3 := fin' i hi s' hI
    rw [List.drop_of_length_le (by simpa using hge)] at f3
    wp_walk
    simpa [Builtin.Tuple.tupleCompareSizes] using f3
  case h =>
    exact ⟨rfl, 0, rfl, rfl, h0⟩
end
end PM

set_option Elab.async false
set_option linter.all false
set_option maxRecDepth 100000
set_option maxHeartbeats 4000000
namespace PM
open PySem
open L2 hiding Inv
/-- items that are compared: b says whether they are equal -/
structure EqI (X : Cx) (μ : List M) (d e : D) (b : Bool) : Prop where
  rf : ∀ L G v, Rep X.K L G d v → ∃ a, v = .ref a
  rf2 : ∀ L G v, Rep X.K L G e v → ∃ a, v = .ref a
  same : ∀ pins s σ H L G v, L2.Inv X pins σ H s → Ok X.K L G H μ → Rep X.K L G d v → Rep X.K L G e v → b = true
  cmp : OpO X W0 (richCompare .Eq) d e μ (.ret (.bl b) μ)
def LoopB (X : Cx) (μ : List M) (pins : List (Addr × Obj)) (σ : L2.St) (L : List Addr) (G H : Hp) (s' : Shared) : Prop := ∃ L' G' H', L2.Inv X pins σ H' s' ∧ Ok X.K L' G' H' μ ∧ Step L G H L' G' H'
section
variable {X : Cx} {W : WX} {k : Nat} {μ : List M}
theorem EqI.run {d e : D} {b : Bool} (h : EqI X μ d e b) {pins : List (Addr × Obj)} {s : Shared} {σ : L2.St} {H : Hp} {x y : V} {v u : Value} {L : List Addr} {G : Hp} (I : L2.Inv X pins σ H s) (rx : RelV x v) (ry : RelV y u) (ok : Ok X.K L G H μ) (r1 : Rep X.K L G d x) (r2 : Rep X.K L G e y) :
    wpAny (model X.prog X.w) X.A (eqBool v u) (fun r s1 => r = b ∧ LoopB X μ pins σ L G H s1) X.xe s := by
  obtain ⟨a, rfl⟩ := h.rf _ _ _ r1
  obtain ⟨c, rfl⟩ := h.rf2 _ _ _ r2
  cases rx
  cases ry
  by_cases hac : a = c
  · subst hac
    have hb := h.same pins s σ H L G _ I ok r1 r2
    unfold eqBool
    refine wpAny_holding ?_
    refine wpAny_ite_split (fun _ => ?_) (fun z => absurd (beq_self_eq_true _) z)
    exact wpAny_bind (wpAny_rule (wpAny_pure ⟨hb.symm, L, G, H, I, ok, .refl _ _ _⟩))
  · refine GQ.eqBool_refG hac (wpAny_mono (h.cmp pins s σ H (.ref a) (.ref c) (.ref a) (.ref c) (fun v H1 => v = .bl b ∧ ∃ L1 G1, Ok X.K L1 G1 H1 μ ∧ Step L G H L1 G1 H1) L G I rfl rfl ok r1 r2 (fun v L1 G1 H1 s1 o1 r1 => ⟨rep_bl.mp r1, L1, G1, o1, s1⟩)) (fun r s1 hr => ?_) fun _ _ z => z)
    obtain ⟨z, H1, I1, rz, rfl, L1, G1, o1, s1⟩ := hr
    cases rz
    exact ⟨b, rfl, rfl, L1, G1, H1, I1, o1, s1⟩
/-- == of tuples, item by item -/
theorem oc_eqTup (g : Gd X W (k + 1)) {ds es : List D} (f : Nat → Bool) (h : ∀ (i : Nat) (d e : D), ds[i]? = some d → es[i]? = some e → EqI (PM.inC X) μ d e (f i)) :
    OpO X W (richCompare .Eq) (.tup ds) (.tup es) μ (.ret (.bl ((List.range (min ds.length es.length)).all f && ds.length == es.length)) μ) := by
  intro pins s σ H x y v u Q L G I rx ry ok r1 r2 co
  obtain ⟨a, vs, rfl, q1, rr1⟩ := rep_tup.mp r1
  obtain ⟨c, us, rfl, q2, rr2⟩ := rep_tup.mp r2
  cases rx
  cases ry
  obtain ⟨its, rv, p, _⟩ := I.tuple (Same.sqT ok.sub q1)
  obtain ⟨its2, rv2, p2, _⟩ := I.tuple (Same.sqT ok.sub q2)
  obtain ⟨⟨cls, dd, data, sl⟩, ho, hc, n, hd⟩ := id p
  obtain ⟨⟨cls2, dd2, data2, sl2⟩, ho2, hc2, n2, hd2⟩ := id p2
  simp only at hc hd hc2 hd2
  subst hc hd hc2 hd2
  have hu : X.A.units < cLine := by have := g.hr.un; omega
  refine wpAny_richCompare_same_room (op := .Eq) ⟨_, ho, rfl⟩ ⟨_, ho2, rfl⟩ PySem.F.slot_tuple_eq (GQ.call_here PySem.F.slot_tuple_eq ⟨_, ho, rfl⟩ PySem.F.entry_tuple_eq (PySem.F.args_tuple_eq_2 _ _) ?_) hu
  have n1 : its.toArray.size = ds.length := by rw [List.size_toArray, ← rv.length, rr1.length]
  have n2' : its2.toArray.size = es.length := by rw [List.size_toArray, ← rv2.length, rr2.length]
  refine tuple_eqB a c its.toArray its2.toArray n n2 dd dd2 sl sl2 f (fun s' => LoopB X μ pins σ L G H s') (fun i h1 h2 s' hI => ?_) (fun s' hI => ?_) ho ho2 ⟨L, G, H, I, ok, .refl _ _ _⟩
  · obtain ⟨L1, G1, H1, I1, o1, s1⟩ := hI
    have k1 : i < ds.length := by rw [← n1]; exact h1
    have k2 : i < es.length := by rw [← n2']; exact h2
    obtain ⟨x, ex, rx⟩ := (rr1.step s1).get (List.getElem?_eq_getElem k1)
    obtain ⟨y, ey, ry⟩ := (rr2.step s1).get (List.getElem?_eq_getElem k2)
    obtain ⟨v, ev, rv'⟩ := rv.get ex
    obtain ⟨u, eu, ru'⟩ := rv2.get ey
    have g1 : its.toArray[i] = v := by
      have : its[i]? = some its.toArray[i] := by rw [List.getElem?_eq_getElem (by simpa using h1)]; simp
      rw [this] at ev
      exact Option.some.inj ev
    have g2 : its2.toArray[i] = u := by
      have : its2[i]? = some its2.toArray[i] := by rw [List.getElem?_eq_getElem (by simpa using h2)]; simp
      rw [this] at eu
      exact Option.some.inj eu
    rw [g1, g2]
    have hrun := (h i _ _ (List.getElem?_eq_getElem k1) (List.getElem?_eq_getElem k2)).run (pins := pins) (σ := σ) (inC_inv I1) rv' ru' o1 rx ry
    refine wpAny_mono hrun (fun r s2 hr => ?_) (fun _ _ z => False.elim z)
    obtain ⟨hr, L2, G2, H2, I2, o2, s2'⟩ := hr
    exact ⟨hr, L2, G2, H2, inC_back I1.ok I2, o2, s1.trans s2'⟩
  · obtain ⟨L1, G1, H1, I1, o1, s1⟩ := hI
    rw [n1, n2']
    refine ⟨(fun x => nomatch x), ?_⟩
    exact back ⟨.bl _, H1, I1, rfl, co _ L1 G1 H1 s1 o1 (rep_bl.mpr rfl)⟩
/-- tuples among the items -/
theorem EqI.tup (g : Gd X W (k + 1)) {ds es : List D} (f : Nat → Bool) (h : ∀ (i : Nat) (d e : D), ds[i]? = some d → es[i]? = some e → EqI (PM.inC X) μ d e (f i)) :
    EqI X μ (.tup ds) (.tup es) ((List.range (min ds.length es.length)).all f && ds.length == es.length) where
  rf := fun L G v r => by obtain ⟨a, _, e, _⟩ := rep_tup.mp r; exact ⟨a, e⟩
  rf2 := fun L G v r => by obtain ⟨a, _, e, _⟩ := rep_tup.mp r; exact ⟨a, e⟩
  same := fun pins s σ H L G v I ok r1 r2 => by
    obtain ⟨a, vs, rfl, q1, rr1⟩ := rep_tup.mp r1
    obtain ⟨c, us, ec, q2, rr2⟩ := rep_tup.mp r2
    cases ec
    have ev := I.tuple_inj (Same.sqT ok.sub q1) (Same.sqT ok.sub q2)
    subst ev
    have el : ds.length = es.length := rr1.length.symm.trans rr2.length
    rw [el, Nat.min_self, beq_self_eq_true, Bool.and_true, List.all_eq_true]
    intro i hi
    have hi' : i < es.length := List.mem_range.mp hi
    have hi2 : i < ds.length := by omega
    obtain ⟨x, ex, rx⟩ := rr1.get (List.getElem?_eq_getElem hi2)
    obtain ⟨y, ey, ry⟩ := rr2.get (List.getElem?_eq_getElem hi')
    rw [ex] at ey
    cases ey
    exact (h i _ _ (List.getElem?_eq_getElem hi2) (List.getElem?_eq_getElem hi')).same pins s σ H L G _ (inC_inv I) ok rx ry
  cmp := oc_eqTup (W := W0) g.w0 f h
/-- by one list of each -/
theorem all_eq {α : Type} [DecidableEq α] (xs ys : List α) : ((List.range (min xs.length ys.length)).all (fun i => decide (xs[i]? = ys[i]?)) && xs.length == ys.length) = decide (xs = ys) := by
  rw [Bool.eq_iff_iff, Bool.and_eq_true, List.all_eq_true, decide_eq_true_eq, beq_iff_eq]
  constructor
  · rintro ⟨h, hl⟩
    refine List.ext_getElem? fun i => ?_
    by_cases hi : i < xs.length
    · exact of_decide_eq_true (h i (List.mem_range.mpr (by omega)))
    · rw [List.getElem?_eq_none (by omega), List.getElem?_eq_none (by omega)]
  · rintro rfl
    exact ⟨fun i _ => by simp, rfl⟩
theorem EqI.map (g : Gd X W (k + 1)) {α : Type} [DecidableEq α] (rd : α → D) (xs ys : List α) (h : ∀ x ∈ xs, ∀ y ∈ ys, EqI (PM.inC X) μ (rd x) (rd y) (decide (x = y))) :
    EqI X μ (.tup (xs.map rd)) (.tup (ys.map rd)) (decide (xs = ys)) := by
  have := EqI.tup (X := X) (W := W) (μ := μ) g (ds := xs.map rd) (es := ys.map rd) (fun i => decide (xs[i]? = ys[i]?)) (fun i d e hd he => by
    rw [List.getElem?_map] at hd he
    obtain ⟨x, ex, rfl⟩ := Option.map_eq_some_iff.mp hd
    obtain ⟨y, ey, rfl⟩ := Option.map_eq_some_iff.mp he
    have q := h x (List.mem_of_getElem? ex) y (List.mem_of_getElem? ey)
    rw [ex, ey]
    simpa using q)
  rw [List.length_map, List.length_map, all_eq] at this
  exact this
end
end PM

set_option Elab.async false
set_option linter.all false
set_option maxRecDepth 100000
set_option maxHeartbeats 4000000
namespace PM
open PySem
open L2 hiding Inv
/-! ### list != [] , whatever the items are -/
section
variable {X : Cx} {W : WX} {k : Nat} {μ : List M} {Q : KV} {Z : KX}
end
end PM

set_option Elab.async false
set_option linter.all false
set_option maxRecDepth 100000
set_option maxHeartbeats 4000000
namespace PM
open PySem
open L2 hiding Inv
/-! ### for .., .. in zip(l, m), lists that may lie in the store -/
section
variable {K : PySem.W.Frag} {L2 : List Addr} {G2 H2 : Hp} {μ2 : List M} {d d' x y : D} {xs ys : List D} {p q : Addr} {i : Nat}
end
section
variable {X : Cx} {W : WX} {ρ : Env'} {μ : List M} {e e2 : Expr} {elts : List Expr} {kk : Nat} {tpos p pos pos' : Pos} {nx : KN} {κ : Ks}
end
end PM

set_option Elab.async false
set_option linter.all false
set_option maxRecDepth 100000
set_option maxHeartbeats 4000000
namespace PM
open PySem
open L2 hiding Inv
/-! ### for .., .. in enumerate(l), a list that may lie in the store -/
section
variable {K : PySem.W.Frag} {L2 : List Addr} {G2 H2 : Hp} {μ2 : List M} {d x : D} {xs : List D} {p : Addr} {i : Nat}
end
section
variable {X : Cx} {W : WX} {ρ : Env'} {μ : List M} {e : Expr} {elts : List Expr} {kk : Nat} {tpos p pos pos' : Pos} {nx : KN} {κ : Ks}
end
end PM

set_option Elab.async false
set_option linter.all false
set_option maxRecDepth 100000
set_option maxHeartbeats 4000000
namespace PM
open PySem
open Sem (wp)
/-- a tuple of 4 values, as it is made -/
abbrev IsTupOf4 (h : Heap) (T : Addr) (a1 a2 a3 a4 : Value) : Prop := h.get? T = some { cls := .type "tuple", data := .seq #[a1, a2, a3, a4] }
/-- the cells of a zip over 4 iterators lie apart -/
structure ZipSep4 (z TI TO i1 i2 i3 i4 : Addr) (fp1 fp2 fp3 fp4 : List Addr) : Prop where
  TIz : TI ≠ z
  TOz : TO ≠ z
  TITO : TI ≠ TO
  TIi1 : TI ≠ i1
  mem1 : i1 ∈ fp1
  zf1 : z ∉ fp1
  Tf1 : TO ∉ fp1
  TIi2 : TI ≠ i2
  mem2 : i2 ∈ fp2
  zf2 : z ∉ fp2
  Tf2 : TO ∉ fp2
  TIi3 : TI ≠ i3
  mem3 : i3 ∈ fp3
  zf3 : z ∉ fp3
  Tf3 : TO ∉ fp3
  TIi4 : TI ≠ i4
  mem4 : i4 ∈ fp4
  zf4 : z ∉ fp4
  Tf4 : TO ∉ fp4
  sep1_2 : i1 ∉ fp2
  sep1_3 : i1 ∉ fp3
  sep1_4 : i1 ∉ fp4
  sep2_1 : i2 ∉ fp1
  sep2_3 : i2 ∉ fp3
  sep2_4 : i2 ∉ fp4
  sep3_1 : i3 ∉ fp1
  sep3_2 : i3 ∉ fp2
  sep3_4 : i3 ∉ fp4
  sep4_1 : i4 ∉ fp1
  sep4_2 : i4 ∉ fp2
  sep4_3 : i4 ∉ fp3
section
variable {prog : Program} {w : World} {A : Around} {E : Value → Shared → Prop} {s : Shared} {z TI TO i1 i2 i3 i4 : Addr} {fp1 fp2 fp3 fp4 : List Addr} {n1 n2 n3 n4 i : Nat} {P1 P2 P3 P4 : Nat → Value → Prop} {St1 St2 St3 St4 : Nat → Heap → Prop} {a1 a2 a3 a4 : Value}
theorem ZipSep4.zi1 (D : ZipSep4 z TI TO i1 i2 i3 i4 fp1 fp2 fp3 fp4) : z ≠ i1 := fun e => D.zf1 (by rw [e]; exact D.mem1)
theorem ZipSep4.zi2 (D : ZipSep4 z TI TO i1 i2 i3 i4 fp1 fp2 fp3 fp4) : z ≠ i2 := fun e => D.zf2 (by rw [e]; exact D.mem2)
end
abbrev gzT4 (h : Heap) (o1 o2 o3 o4 : Obj) : Heap := ((((h.push o1).push o2).push o3).push o4).push { cls := .type "tuple", data := .seq #[.ref h.objs.size, .ref (h.push o1).objs.size, .ref ((h.push o1).push o2).objs.size, .ref (((h.push o1).push o2).push o3).objs.size] }
abbrev gzO4 (h : Heap) (o1 o2 o3 o4 : Obj) : Heap := (gzT4 h o1 o2 o3 o4).push { cls := .type "tuple", data := .seq #[.none, .none, .none, .none] }
abbrev gzZ4 (h : Heap) (o1 o2 o3 o4 : Obj) : Heap := (gzO4 h o1 o2 o3 o4).push { cls := .type "zip", data := .fields #[.none, .bool false, .bool false, .ref ((((h.push o1).push o2).push o3).push o4).objs.size, .ref (gzT4 h o1 o2 o3 o4).objs.size] }
section
variable {prog : Program} {w : World} {A : Around} {E : Value → Shared → Prop} {s : Shared}
end
open L2 hiding Inv
/-- the items of 4, in new tuples -/
def Itz4 (K : PySem.W.Frag) (t1 t2 t3 t4 : Bool) (l1 l2 l3 l4 : Addr) : It :=
  ⟨fun i H => ∃ (xs1 xs2 xs3 xs4 : List V) (x1 x2 x3 x4 : V), SqB t1 K H l1 xs1 ∧ SqB t2 K H l2 xs2 ∧ SqB t3 K H l3 xs3 ∧ SqB t4 K H l4 xs4 ∧ xs1[i]? = some x1 ∧ xs2[i]? = some x2 ∧ xs3[i]? = some x3 ∧ xs4[i]? = some x4,
    fun i H v H' => ∃ T x1 x2 x3 x4, v = .ref T ∧ H T = none ∧ H' = upd H T (.tup [x1, x2, x3, x4]) ∧ (∀ xs, SqB t1 K H l1 xs → xs[i]? = some x1) ∧ (∀ xs, SqB t2 K H l2 xs → xs[i]? = some x2) ∧ (∀ xs, SqB t3 K H l3 xs → xs[i]? = some x3) ∧ (∀ xs, SqB t4 K H l4 xs → xs[i]? = some x4),
    fun i H => ∃ xs1 xs2 xs3 xs4 : List V, SqB t1 K H l1 xs1 ∧ SqB t2 K H l2 xs2 ∧ SqB t3 K H l3 xs3 ∧ SqB t4 K H l4 xs4 ∧ (i ≤ xs1.length ∧ i ≤ xs2.length ∧ i ≤ xs3.length ∧ i ≤ xs4.length) ∧ (xs1.length = i ∨ xs2.length = i ∨ xs3.length = i ∨ xs4.length = i)⟩
def iZip4 (K : PySem.W.Frag) (t : TA) : TI := fun σ H R => t σ H fun vs H1 => ∃ t1 t2 t3 t4 l1 l2 l3 l4 xs1 xs2 xs3 xs4, vs = [.ref l1, .ref l2, .ref l3, .ref l4] ∧ SqB t1 K H1 l1 xs1 ∧ SqB t2 K H1 l2 xs2 ∧ SqB t3 K H1 l3 xs3 ∧ SqB t4 K H1 l4 xs4 ∧ R (Itz4 K t1 t2 t3 t4 l1 l2 l3 l4) H1
section
variable {X : Cx} {W : WX} {ρ : Env'} {μ : List M} {e1 e2 e3 e4 : Expr} {elts : List Expr} {kk : Nat} {tpos p pos : Pos} {QA : KA} {Z : KX}
end
end PM

set_option Elab.async false
set_option linter.all false
set_option maxRecDepth 100000
set_option exponentiation.threshold 20000
namespace PM
open PySem L2
/-! numbers to 2 ^ 4000 -/
section
variable {X : Cx} {W : WX} {μ : List M} {i j : Int} {Q : KV} {Z : KX}
end
end PM

set_option Elab.async false
set_option linter.all false
set_option maxRecDepth 100000
set_option maxHeartbeats 4000000
namespace PM
open PySem
open L2 hiding Inv
/-! ### t + u of tuples; own OP own by what the def promises -/
section
variable {X : Cx} {W : WX} {μ : List M} {ds es : List D} {Q : KV} {Z : KX}
end
section
variable {X : Cx} {W : WX} {k : Nat} {μ : List M} {Q : KV} {Z : KX} {C : Addr} {ns ns' : List Str} {fs fs' : List D}
end
section
variable {X : Cx} {W : WX} {k j : Nat} {ps : List Str} {R : Rl} {f C : Addr} {fd : FuncData} {μ μ2 : List M} {ns : List Str} {fs : List D} {d : D} {b : Bool}
end
end PM

set_option Elab.async false
set_option linter.all false
set_option maxRecDepth 100000
set_option maxHeartbeats 4000000
/-! «yield from» over any tuple that is read, one of the module too; list(o.m()) of a generator method -/
namespace PM
open PySem PySem.Spec PyProof.Rows GenW
open L2
/-- an iterator by its turns; what lies below the call stays, too -/
structure ItK (X : Cx) (H : Hp) (it : Addr) (xs : List V) (Sd : Nat → Heap → Prop) : Prop where
  kind : ∃ T, (∀ j h, Sd j h → ∃ o, h.get? it = some o ∧ o.cls = .type T) ∧ typeLookup (.type T) "close" = pure none ∧ (Value.type T != Value.type "generator") = true
  stay : ∀ j h g, Sd j h → (∀ b o, (b = it ∨ H b ≠ none ∨ b < X.s_0.heap.objs.size) → h.get? b = some o → g.get? b = some o) → Sd j g
  turn : ∀ (B : Around) (j : Nat) (x : V) (s : Shared) (Q : Option Value → Shared → Prop) (F : Value → Shared → Prop), B.handled = none → xs[j]? = some x → Sd j s.heap → (∀ v g tk, RelV x v → Sd (j + 1) g → (∀ b o, b ≠ it → s.heap.get? b = some o → g.get? b = some o) → Q (some v) { s with heap := g, toks := tk }) → wpAny (model X.prog X.w) B (callSpecial? (.ref it) "__next__") Q F s
  stop : ∀ (B : Around) (s : Shared) (Q : Option Value → Shared → Prop) (F : Value → Shared → Prop), B.handled = none → Sd xs.length s.heap → (∀ e g tk, StopX e g → (∀ b o, b ≠ it → s.heap.get? b = some o → g.get? b = some o) → F e { s with heap := g, toks := tk }) → wpAny (model X.prog X.w) B (callSpecial? (.ref it) "__next__") Q F s
structure YfK (X : Cx) (e : Expr) (t : TYf) : Prop where
  run : ∀ (pins : List (Addr × Obj)) (s : Shared) (σ : L2.St) (H : Hp) (Q : List V → Hp → Prop), L2.Inv X pins σ H s → t σ H Q → wpAny (model X.prog X.w) X.A (eval e X.env) (fun v s1 => ∃ T, s1.TypeIs v T ∧ (Value.type T == Value.type "coroutine") = false ∧ wpAny (model X.prog X.w) X.A (pyIter v) (fun u s2 => ∃ (it : Addr) (H' : Hp) (xs : List V) (Sd : Nat → Heap → Prop), u = .ref it ∧ L2.Inv X pins σ H' s2 ∧ (it ∈ X.ex ∨ X.s_0.heap.objs.size ≤ it) ∧ it ≠ X.env.locals ∧ (∀ x c, X.env.cells.lookup x = some c → c ≠ it) ∧ H' it = none ∧ (∀ p ∈ X.pn ++ pins, p.1 ≠ it) ∧ Sd 0 s2.heap ∧ ItK X H' it xs Sd ∧ Q xs H') X.xe s1) X.xe s
section
variable {X : Cx} {e : Expr} {yp pos : Pos} {te : TE}
def tYfSq (K : PySem.W.Frag) (te : TE) : TYf := fun σ H Q => te σ H fun x H1 => ∃ a xs, x = .ref a ∧ SqT K H1 a xs ∧ Q xs H1
end
end PM

set_option Elab.async false
set_option linter.all false
set_option maxRecDepth 100000
set_option maxHeartbeats 4000000
/-! errors of the program's own right under IndexError -/
namespace PM
open PySem PySem.Spec PyProof.Rows
open L2
open PySem.HandSPX PySem.W PySem.Calls Builtin Builtin.ObjectAttr in
section
abbrev ieTail : List Value := [.type "IndexError", .type "LookupError", .type "Exception", .type "BaseException", .type "object"]
theorem ie_pass {C : Addr} (self : Value) : refuseLoop self "__setattr__" (.ref C :: ieTail) = pure () := by
  rw [refuseLoop_ref]
  exact F.store_IndexError.passes self
end
/-- what the written part says of the class -/
structure OexI (K : PySem.W.Frag) (C : Addr) : Prop where
  cls : ∃ nm q N bs sn sub ab col dd k0 k1 k2 k3 k5, K.lookup C = some (excClassObj nm q C N bs ieTail true sn sub ab col dd k0 k1 k2 k3 k5 "IndexError.__new__")
  sa : PySem.W.findIn K (.ref C) "__setattr__" = some (some (.builtin "object.__setattr__"))
  exC : PySem.W.subIn K (.ref C) (.type "BaseException") = some true
  tyC : PySem.W.typeIn K (.ref C) = some (.type "type")
  kC : PySem.W.keepIn K (.ref C) = true
section
open PySem.HandSPX PySem.W PySem.Calls Builtin Builtin.ObjectAttr
variable {prog : Program} {w : World} {A : Around} {R : Result → Shared → Prop} {hp : Heap} {g : Array GenState} {d : Drawn} {t : Nat} {os : OsState}
/-- the first field of such an exception -/
theorem ie_osa {K : PySem.W.Frag} {name : Str} {tk : Tok} {v : Value} {x C : Addr} {fv : Array Value} {cd : ClassData} (X : K.In hp) (hx : hp.get? x = some { cls := .ref C, data := .fields fv }) (hcd : clsIn K C = some cd) (hm : cd.mro = .ref C :: ieTail) (hh : cd.hasDict = true) (ha : findIn K (.ref C) name = some none)
    (hq : ∀ h' tk' dx, (∀ b o, b ≠ x → hp.get? b = some o → h'.get? b = some o) → hp.objs.size ≤ dx → dx ≠ x → h'.get? x = some { cls := .ref C, dict := some dx, data := .fields fv } → h'.Ns1 dx (fun y => if y = name then some v else none) → R (.ok (.ret .none)) ⟨h', g, d, tk', os⟩) :
    codeAny (model prog w) A (.call (.builtin "object.__setattr__") ⟨[.ref x, .str name tk, v], []⟩) R ⟨hp, g, d, t, os⟩ := by
  have I : InstAt hp x { cls := .ref C, data := .fields fv } C none := ⟨hx, rfl, rfl, trivial⟩
  have SF := F.store_object
  have ne : cd.mro.isEmpty = false := by rw [hm]; rfl
  have hob : cd.mro.contains (.type "object") = true := by rw [hm]; rfl
  have hxs : x ≠ hp.objs.size := Nat.ne_of_lt (Heap.lt_size hx)
  have sub : Looks (model prog w) hp (isInstance (.ref x) (.type "object")) true := I.type.andThen (looks_mroIn X (by unfold mroIn; rw [hcd, Option.bind_some, if_neg (by rw [ne]; decide), hob]))
  refine codeAny_call_builtin SF.slot.plain SF.entry (@check_slot (model prog w) _ _ ⟨hp, g, d, t, os⟩ "object.__setattr__" "object" "__setattr__" (.ref x) [.str name tk, v] [] _ SF.kind SF.split sub (SF.args (.ref x) (.str name tk) v) ?_)
  have hmr : Looks (model prog w) hp (mroOf (.ref C)) cd.mro := (looks_clsIn X hcd).andThen .now
  have L3 : Looks (model prog w) hp (storeTaker? none) none := .now
  have hcls : Looks (model prog w) hp (classData C) cd := looks_clsIn X hcd
  rw [osa_eq, refuse_eq]
  refine wpAny_bind (wpAny_bind (I.type.at (wpAny_bind (hmr.at ?_))))
  rw [hm, ie_pass]
  refine wpAny_pure (wpAny_bind (I.type.at (wpAny_bind ((looks_findIn X ha).at (wpAny_bind (L3.at ?_))))))
  show wpAny _ _ (storeInOwnDict (.ref x) (.ref C) (.str name tk) name v false) _ _ _
  clear hm ne hob sub hmr
  obtain ⟨nm, bs, mro, ns, qn, hd, sn, sb, ab, col, del⟩ := cd
  dsimp only at hh
  subst hh
  unfold storeInOwnDict ownDictForStores
  repeat (first | with_reducible refine store_in_new ?_ ?_ | with_reducible refine wpAny_loadPart_at hx ?_ | with_reducible refine hcls.at ?_ | wp_step)
  · exact ⟨_, #[], _, (Heap.get?_update_ne _ _ _ _ hxs.symm).trans (Heap.get?_push_at rfl rfl), rfl, fun e he => absurd he (by simp), fun _ => rfl⟩
  · intro h' tk' hn' hs
    have hx₁ : (hp.push { cls := .type "dict", data := .dict #[] }).get? x = some { cls := .ref C, data := .fields fv } := Heap.get?_push_of_some _ hx
    refine hq h' tk' hp.objs.size (fun b o hb ho => ?_) (Nat.le_refl _) hxs.symm ?_ hn'
    · exact (hs.2 b (Nat.ne_of_lt (Heap.lt_size ho))).trans ((Heap.get?_update_ne _ _ _ _ hb).trans (Heap.get?_push_of_some _ ho))
    · exact (hs.2 x hxs).trans (Heap.get?_update_self _ hx₁ rfl)
end
section
variable {X : Cx} {pins : List (Addr × Obj)} {σ : L2.St} {H : Hp} {s : Shared} {a C dx : Addr} {f : Str} {y : V} {u : Value} {Q : Unit → Shared → Prop} {E : Value → Shared → Prop} {A : Around}
/-- self.f = y, the first one -/
theorem ist_new (T : OexI X.K C) (I : L2.Inv X pins σ H s) (e : H a = some (exo a C none)) (hno : PySem.W.findIn X.K (.ref C) f = some none) (ry : RelV y u)
    (h : ∀ dx s', H dx = none → dx ≠ a → L2.Inv X pins σ (upd (upd H dx (exd dx [(f, y)])) a (exo a C (some dx))) s' → Q () s') : wpAny (model X.prog X.w) A (setAttr (.ref a) f u) Q E s := by
  obtain ⟨nm, q, N, bs, sn, sub, ab, col, dd, k0, k1, k2, k3, k5, hC⟩ := T.cls
  have hcl : PySem.W.clsIn X.K C = some { name := nm, bases := bs, mro := .ref C :: ieTail, ns := N, qualname := q, hasDict := true, slotNames := sn, subclasses := sub, abstract := ab, collection := col, hasDel := false } := by unfold PySem.W.clsIn; rw [hC] <;> rfl
  obtain ⟨t1, ho⟩ := exo_at I.hok e
  obtain ⟨hp, g, d, t, os⟩ := s
  refine PySem.W.set_plain I.kIn (ox := { cls := .ref C, dict := none, data := .fields #[.ref t1, .none, .none, .none, .bool false, .none] }) (od := none) ⟨ho, rfl, rfl, trivial⟩ T.sa ?_
  refine ie_osa I.kIn ho hcl rfl rfl hno (fun h' tk' dx k dn dne hx hn => ?_)
  have hnd : H dx = none := I.hok.fresh dn
  have nd : ∀ {b : Addr} {o : Obj}, hp.get? b = some o → b ≠ dx := fun {b o} q => Nat.ne_of_lt (Nat.lt_of_lt_of_le (Heap.lt_size q) dn)
  have na : ∀ {b : Addr}, H b = none → b ≠ a := fun {b} n z => by
    rw [z, e] at n
    cases n
  have Un1 : Un X.fs [] H (upd (upd H dx (exd dx [(f, y)])) a (exo a C (some dx))) hp h' := {
    keep := fun b o q n _ _ => k b o (na n) q
    slot := fun b o q n _ _ => ⟨o.slots, k b o (na n) q⟩
    free := fun b o q n _ => by rw [upd_ne (na n), upd_ne (nd q)]; exact n
    there := fun b o q _ => by
      by_cases hb : b = a
      · exact ⟨_, by rw [hb]; exact hx⟩
      · exact ⟨o, k b o hb q⟩
    tups := fun b xs q => by rw [upd_ne (at_ne e q exo_tup), upd_ne (ne_of_none q hnd)]; exact q
    frzs := fun b o v q => by rw [upd_ne (at_ne e q exo_frz), upd_ne (ne_of_none q hnd)]; exact q
    tbls := fun b ps q => ⟨#[], by rw [upd_ne (at_ne e q exo_tbl), upd_ne (ne_of_none q hnd), q]; simp⟩ }
  refine h dx _ hnd dne (I.un (t' := tk') Un1 fun b o q => ?_)
  by_cases hb : b = a
  · subst hb
    rw [upd_same] at q
    cases q
    exact exo_ok hx
  · rw [upd_ne hb] at q
    by_cases hd : b = dx
    · subst hd
      rw [upd_same] at q
      cases q
      exact exd_ok hn (relO_put (fs := []) ry fun g => True.intro)
    · rw [upd_ne hd] at q
      exact (I.hok b o q).stay (fun c v hc z => k c v (by
          rcases hc with hc | hc
          · rw [hc]
            exact hb
          · exact at_ne e hc exo_own) z)
        (fun c hc => by rw [upd_ne (at_ne e hc exo_own), upd_ne (ne_of_none hc hnd)]; exact hc) (fun c xs hc => by rw [upd_ne (at_ne e hc exo_tup), upd_ne (ne_of_none hc hnd)]; exact hc)
/-- IndexError.__init__(self, ..): nothing of it is told -/
theorem iinit_ok {us : List Value} {Q : Value → Shared → Prop} (T : OexI X.K C) (I : L2.Inv X pins σ H s) (e : H a = some (exo a C none)) (hl : us.length ≤ sizeLine) (h : ∀ s', L2.Inv X pins σ H s' → Q .none s') :
    wpAny (model X.prog X.w) A (call (.builtin "IndexError.__init__") (.ref a :: us)) Q E s := by
  obtain ⟨nm, q, N, bs, sn, sub, ab, col, dd, k0, k1, k2, k3, k5, hC⟩ := T.cls
  obtain ⟨t1, ho⟩ := exo_at I.hok e
  obtain ⟨hp, g, d, t, os⟩ := s
  refine wpAny_call (PySem.HandSPX.init_base F.excBase_IndexError (fun Y => rfl) (I.kIn _ _ hC) ho hl fun h' t2 k hx => ?_)
  have J := I.write (t' := t) (x := a) (e := a) (o := exo a C none) (by rw [e]; exact True.intro) (.inl rfl) k ⟨_, hx⟩ (exo_ok hx)
  have eu : upd H a (exo a C none) = H := by
    funext b
    by_cases hb : b = a
    · rw [hb, upd_same, e]
    · rw [upd_ne hb]
  rw [eu] at J
  exact h _ J
end
/-- IndexError.__init__(self, ..) -/
def tIeI (K : PySem.W.Frag) (ta : TA) : TE := fun σ H Q => ta σ H fun vs H1 => ∃ (a C : Addr) (ws : List V), vs = .ref a :: ws ∧ ws.length ≤ 1000 ∧ OexI K C ∧ H1 a = some (exo a C none) ∧ Q .non H1
/-- self.f = e, the first one -/
def tOsI (K : PySem.W.Frag) (f : Str) (to te : TE) : TS := fun D σ H => te σ H fun y H1 => to σ H1 fun x H2 => ∃ a C : Addr, x = .ref a ∧ OexI K C ∧ PySem.W.findIn K (.ref C) f = some none ∧ H2 a = some (exo a C none) ∧ ∀ dx, H2 dx = none → dx ≠ a → D.nx σ (upd (upd H2 dx (exd dx [(f, y)])) a (exo a C (some dx)))
theorem typ_IE : typeOf (.type "IndexError") = pure (.type "type") := by kernel_rfl
section
variable {X : Cx} {o e : Expr} {es : List Expr} {to te : TE} {ta : TA} {f : Str} {p p' p1 p2 pos : Pos}
theorem pe_ieinit {pl : Sem Bool} (hg : Gl X "IndexError") (hm : X.mg "IndexError" = none) (vV : PySem.W.findCls X.K (.type "IndexError") (.type "type") "__init__" = some (.val (.builtin "IndexError.__init__"))) (ha : PA X (e :: es) ta)
    (hc : eval (.Call (.Attribute (.Name "IndexError" p1) "__init__" p2) (e :: es) [] pos) X.env = (do
      let ov ← eval (.Name "IndexError" p1) X.env
      standAt p2.atName
      let (f, first) ← holding [ov] (getMethod ov "__init__" pl)
      callWith pos f first (backTo pos (starEach (e :: es) X.env)) (backToKw pos (keywordEach [] X.env))) := by rfl)
    (he : starEach (e :: es) X.env = (false, eval e X.env) :: starEach es X.env := by rfl) (hpl : (backTo pos (starEach es X.env)).any (·.1) = false := by rfl) :
    PE X (.Call (.Attribute (.Name "IndexError" p1) "__init__" p2) (e :: es) [] pos) (tIeI X.K ta) := by
  refine ⟨fun pins s σ H Q I h => ?_⟩
  refine PySem.W.methodCall_KW (ld_blt I hg hm PyProof.Rows.Boot.«IndexError» ?_ (by decide) (by decide)) hc
  obtain ⟨m, fr⟩ := I.fr
  refine PySem.W.method_type fr I.ok.mod.kin typ_IE (by decide +kernel) vV (by decide +kernel) ?_
  show wpAny _ _ (callWith pos (Value.builtin "IndexError.__init__") [] (backTo pos (starEach (e :: es) X.env)) []) _ _ _
  refine PyProof.Rows.callWith_method1 (thn (ha.run pos pins _ σ H _ (I.tok _) h) fun us s1 ⟨vs, H1, I1, r1, a, C, ws, ev, hl, T, ea, q⟩ => ?_) he hpl
  subst ev
  cases r1 with
  | @cons _ u0 _ ur ra rw' =>
    obtain rfl : u0 = Value.ref a := ra
    have hlen : ur.length ≤ sizeLine := by
      rw [← Paired.length rw', sizeLine_eq]
      omega
    exact iinit_ok T I1 ea hlen fun s' J => ⟨.non, H1, J, rfl, q⟩
theorem ps_osi (ho : PE X o to) (he : PE X e te) (hs : swapsWith e (some (.Attribute o f p')) pos.line X.env = pure false := by rfl) : PS X (.Assign [.Attribute o f p'] e pos) (tOsI X.K f to te) := by
  refine ⟨fun pins s σ H D I h => ?_⟩
  refine plainObj_wpAny_Assign_Attribute (thn (he.run pins s σ H _ I h) fun v s1 ⟨y, H1, I1, r1, q1⟩ => thn (ho.run pins s1 σ H1 _ I1 q1) fun u s2 ⟨x, H2, I2, r2, a, C, ex, T, hno, ea, q⟩ => ?_) hs
  subst ex
  obtain rfl : u = Value.ref a := r2
  exact ist_new T I2 ea hno r1 fun dx s' n ne J => ⟨σ, _, J, q dx n ne⟩
end
section
variable {P : Program} {w : World} {K : PySem.W.Frag} {mg : Str → Option Value} {base : Heap}
/-- class E(IndexError): def __init__(self, f): IndexError.__init__(self); self.f = f -/
theorem fn_II {xq qual : Str} {st : Stmt} {fI C : Addr} {fd : FuncData} {f : Str} (F : Fun K xq qual st fI fd) (S : FnScope ["self", f] ["self", f] (defScope st)) (T : OexI K C) (hno : PySem.W.findIn K (.ref C) f = some none)
    (hb : ∀ cdv A outer s H E, PSs (cxOf CX0 P w K mg base ["self", f] qual (defScope st) fI cdv A outer s H E).nox (defBody st) (tSeq (tDrop (tIeI K (tCons (tVar 0) tNil))) (tOsI K f (tVar 0) (tVar 1)))) : FnOk P w K mg base CX0 1 fI fd ["self", f] (spI1 C f) := by
  refine F.ok S (fun vs H Q E h => ?_) (fun cdv A outer s H vs Q E hr h => ⟨_, hb cdv A outer s H E, ?_⟩)
  · obtain ⟨a, v, rfl, _⟩ := h
    rfl
  · obtain ⟨a, v, rfl, ha, k⟩ := h
    exact ⟨_, rfl, a, C, [], rfl, Nat.zero_le _, T, ha, _, rfl, _, rfl, a, C, rfl, T, hno, ha, fun dx h1 h2 => k dx h1 h2⟩
end
/-- such a class as its makers need it -/
structure ErrI (P : Program) (w : World) (K : PySem.W.Frag) (mg : Str → Option Value) (base : Heap) (C : Addr) (f : Str) : Prop where
  oex : OexI K C
  one : ∃ fI fd ps, PySem.W.findIn K (.ref C) "__init__" = some (some (.ref fI)) ∧ PySem.W.typeIn K (.ref fI) = some (.type "function") ∧ FnOk P w K mg base CX0 1 fI fd ps (spI1 C f) ∧ Binds K fd ps []
section
variable {X : Cx} {W : WX} {k : Nat} {N : List Str} {V : List Kd} {Gs : List Str} {C : Addr} {f x : Str} {ρ : Env'} {μ : List M} {e : Expr} {es : List Expr} {nx : KN} {κ : Ks} {p pos pos2 : Pos}
end
end PM

set_option Elab.async false
set_option linter.all false
set_option maxRecDepth 100000
set_option maxHeartbeats 4000000
/-! own != anything, by object.__ne__ and the own __eq__; two classes of one's own; a pair read backwards -/
namespace PM
open PySem L2 PyProof.Rows
section
variable {prog : Program} {w : World} {A : Around} {E : Value → Shared → Prop} {s : Shared} {K : PySem.W.Frag} {x C f : Addr} {ox : Obj} {od : Option Obj}
end
section
variable {X : Cx} {W : WX} {k j : Nat} {ps : List Str} {R : Rl} {f C D' : Addr} {fd : FuncData} {μ μ2 : List M} {ns : List Str} {fs : List D} {b : Bool} {db : D} {t : Value}
end
section
variable {prog : Program} {w : World} {A : Around} {E : Value → Shared → Prop} {s : Shared}
end
/-! t[::-1] of a pair -/
def tRevT2 (K : PySem.W.Frag) (te : TE) : TE := fun σ H Q => te σ H fun x H1 => ∃ a u v, x = .ref a ∧ SqT K H1 a [u, v] ∧ ∀ p, H1 p = none → Q (.ref p) (upd H1 p (.tup [v, u]))
section
variable {X : Cx} {W : WX} {ρ : Env'} {μ : List M} {e : Expr} {pos p1 p2 p3 : Pos} {k : Nat} {Q : KV} {Z : KX}
end
end PM

set_option Elab.async false
set_option linter.all false
set_option maxRecDepth 100000
set_option maxHeartbeats 4000000
namespace PM
open PySem L2 PyProof.Rows
section
variable {X : Cx} {W : WX} {k : Nat} {μ : List M} {Q : KV} {Z : KX}
end
end PM

set_option Elab.async false
set_option linter.all false
set_option maxRecDepth 100000
set_option maxHeartbeats 4000000
/-! texts: methods, slices, items, signs, int(..) -/
namespace PM
open PySem L2 PyProof.Rows
/-- the signs of a text, each a text of its own -/
def signs (x : Str) : List D := x.cps.toList.map fun c => D.str ⟨#[c]⟩
section
variable {X : Cx} {W : WX} {k : Nat} {ρ : Env'} {μ : List M} {o e a tg : Expr} {apos pos p2 : Pos} {Q : KV} {QA : KA} {Z : KX} {x y : Str} {i : Int} {c : Nat}
end
end PM

set_option Elab.async false
set_option linter.all false
set_option maxRecDepth 100000
set_option maxHeartbeats 4000000
/-! a text times 0 or 1; {i} of a whole number -/
namespace PM
open PySem L2 PyProof.Rows
section
variable {X : Cx} {W : WX} {k : Nat} {ρ : Env'} {μ : List M} {e : Expr} {pos : Pos} {Q : KV} {Z : KX} {x : Str} {n : Int}
end
end PM

set_option Elab.async false
set_option linter.all false
set_option maxRecDepth 100000
set_option maxHeartbeats 4000000
/-! own error classes called by keywords -/
namespace PySem
namespace HandSKW
open HandSPX Builtin Builtin.ObjectAttr
section
variable {prog : Program} {w : World} {A : Around} {E : Value → Shared → Prop} {R : Result → Shared → Prop} {h : Heap} {g : Array GenState} {d : Drawn} {t : Nat} {os : OsState}
variable {nm q : Str} {C N : Addr} {bs bm bmB : List Value} {hdct : Bool} {sn : List Str} {sub : List Value} {ab : Bool} {col : Option Bool} {dd : Option Addr} {k0 k1 k2 k3 k5 : Option Value} {B newId initId : String} {kw : List (Str × Value)}
theorem kw_check (F : ExcBaseFacts B newId initId bmB) (hT : ∀ X : String, bm.contains (.type X) = bmB.contains (.type X)) {Q : Unit → Shared → Prop}
    (hC : h.get? C = some (excClassObj nm q C N bs bm hdct sn sub ab col dd k0 k1 k2 k3 k5 newId)) (hq : Q () ⟨h, g, d, t, os⟩) : wpAny (model prog w) A (checkBuiltinCall newId ⟨[.ref C], kw⟩) Q E ⟨h, g, d, t, os⟩ := by
  have hcont : (Value.ref C :: bm).contains (.type B) = true := by rw [List.contains_cons, hT, F.hasB, Bool.or_true]
  have hstar := F.noStar
  simp only [checkBuiltinCall, F.newKind, F.newSplit, F.newRow]
  repeat (first | refine wpAny_loadPart_at hC ?_ | (refine wpAny_isSubtype_exc hC ?_; rw [hcont]) | refine wpAny_staticBase_exc hC ?_ | refine wpAny_madeBy_exc hC ?_ | simp only [bne_self_eq_false, Bool.false_eq_true, if_false] | wp_step)
  exact hq
theorem kw_new (F : ExcBaseFacts B newId initId bmB) (hT : ∀ X : String, bm.contains (.type X) = bmB.contains (.type X))
    (hC : h.get? C = some (excClassObj nm q C N bs bm hdct sn sub ab col dd k0 k1 k2 k3 k5 newId))
    (hq : R (.ok (.ret (.ref (h.objs.size + 1)))) ⟨(h.push (W.kdv_tup [])).push (excO C h.objs.size), g, d, t, os⟩) :
    codeAny (model prog w) A (.builtin newId ⟨[.ref C], kw⟩) R ⟨h, g, d, t, os⟩ := by
  have hends := F.ends
  have hcB : (Value.ref C :: bm).contains (.type B) = true := by rw [List.contains_cons, hT, F.hasB, Bool.or_true]
  have hcA : (Value.ref C :: bm).contains (.type "AttributeError") = false := by rw [List.contains_cons, hT, F.noAttr]; rfl
  have hcN : (Value.ref C :: bm).contains (.type "NameError") = false := by rw [List.contains_cons, hT, F.noName]; rfl
  refine codeAny_builtinAt F.entry ?_
  unfold Builtin.«BaseException.__new__»
  refine wpAt_bind ?_
  show wpAt _ _ _ (stack >>= _) _ _ _
  refine wpAt_bind (wpAt_stack fun p below => wpAt_of_wpAny ?_)
  wp_walk
  refine wpAt_of_wpAny ?_
  rw [F.owner]
  repeat (first | with_reducible refine wpAny_madeHere_exc F.canon hC ?_ | with_reducible refine wpAny_loadPart_at hC ?_ | (with_reducible refine wpAny_isSubtype_exc hC ?_; first | rw [hcB] | rw [hcA] | rw [hcN]) | wp_step)
  show R _ _
  rw [Heap.size_push]
  exact hq
theorem kw_type (F : ExcBaseFacts B newId initId bmB) (hT : ∀ X : String, bm.contains (.type X) = bmB.contains (.type X)) {fI : Addr} {Q : Fin → Shared → Prop}
    (hC : h.get? C = some (excClassObj nm q C N bs bm hdct sn sub ab col dd k0 k1 k2 k3 k5 newId))
    (hi : W.Looks (model prog w) h (typeLookup (.ref C) "__init__") (some (.ref fI))) (hb : ∀ self, W.Looks (model prog w) h (bindSpecial (.ref fI) self) (.ref fI, [self]))
    (hq : codeAny (model prog w) A (.call (.ref fI) ⟨[.ref (h.objs.size + 1)], kw⟩)
      (fun r s' => match r with | .ok (.ret v) => v = .none ∧ Q (.done (.ret (.ref (h.objs.size + 1)))) s' | .ok _ => False | .error e => E e s')
      ⟨(h.push (W.kdv_tup [])).push (excO C h.objs.size), g, d, t, os⟩) :
    wpAny (model prog w) A (Builtin.«type.__call__» ⟨[.ref C], kw⟩) Q E ⟨h, g, d, t, os⟩ := by
  repeat (first | with_reducible refine wpAny_loadPart_at hC ?_ | with_reducible refine wpAny_madeBy_exc hC ?_ | wp_step)
  refine codeAny_call_builtin_code (Code.quiet_builtin _ F.quiet) (kw_check F hT hC ?_)
  refine kw_new F hT hC ?_
  show wpAny _ _ _ _ _ _
  have k : ∀ b o, h.get? b = some o → ((h.push (W.kdv_tup [])).push (excO C h.objs.size)).get? b = some o := fun b o e => Heap.get?_push_of_some _ (Heap.get?_push_of_some _ e)
  have hC₁ := k _ _ hC
  have hget : ((h.push (W.kdv_tup [])).push (excO C h.objs.size)).get? (h.objs.size + 1) = some (excO C h.objs.size) := by heap_get
  have hcC : (Value.ref C :: bm).contains (.ref C) = true := by simp
  have i1 := hi.keeps k
  have b1 := (hb (.ref (h.objs.size + 1))).keeps k
  unfold isInstance
  repeat (first | with_reducible refine wpAny_loadPart_at hget ?_ | (with_reducible refine wpAny_isSubtype_exc hC₁ ?_; rw [hcC]) | wp_step)
  show wpAny _ _ (typeLookup (.ref C) _) _ _ _
  refine i1.at ?_
  refine wpAny_holding (wpAny_bind (b1.at ?_))
  refine wpAny_bind (wpAny_call (codeAny_mono hq fun r s' z => ?_))
  rcases r with e | (v | _ | _ | _) <;> first | exact z | exact z.elim | skip
  obtain ⟨rfl, z⟩ := z
  first
    | exact wpAny_pure (wpAny_pure z)
    | (wp_walk; exact z)
theorem kw_call (F : ExcBaseFacts B newId initId bmB) (hT : ∀ X : String, bm.contains (.type X) = bmB.contains (.type X)) {fI : Addr}
    (hC : h.get? C = some (excClassObj nm q C N bs bm hdct sn sub ab col dd k0 k1 k2 k3 k5 newId))
    (hi : W.Looks (model prog w) h (typeLookup (.ref C) "__init__") (some (.ref fI))) (hb : ∀ self, W.Looks (model prog w) h (bindSpecial (.ref fI) self) (.ref fI, [self]))
    (hq : codeAny (model prog w) (A.under (.builtin "type.__call__" ⟨[.ref C], kw⟩)) (.call (.ref fI) ⟨[.ref (h.objs.size + 1)], kw⟩) (W.InitBack (h.objs.size + 1) R)
      ⟨(h.push (W.kdv_tup [])).push (excO C h.objs.size), g, d, t, os⟩) :
    codeAny (model prog w) A (.call (.ref C) ⟨[], kw⟩) R ⟨h, g, d, t, os⟩ := by
  have f1 := tc_lookup
  have f2 := tc_bind (.ref C)
  have hTy : (⟨h, g, d, t, os⟩ : Shared).TypeIs (.ref C) "type" := ⟨_, hC, rfl⟩
  refine codeAny_of_tree ?_
  show wpAny _ _ (callAny (.ref C) _) _ _ _
  repeat (any_goals (first | assumption | with_reducible refine wpAny_loadPart_at hC ?_ | wp_step))
  refine ⟨rfl, ?_⟩
  refine codeAny_call_builtin_at (Code.quiet_builtin _ (by decide +kernel)) entry_typeCall (wpAny_check_type_call_sub hC (kw_type F hT hC hi hb ?_))
  refine codeAny_mono hq fun r s' z => ?_
  rcases r with e | (v | _ | _ | _) <;> exact z
end
end HandSKW
end PySem

set_option Elab.async false
set_option linter.all false
set_option maxRecDepth 100000
set_option maxHeartbeats 4000000
/-! errors as values: made, their fields read, asked for their class -/
namespace PM
open PySem PySem.Spec PyProof.Rows
open L2
/-- an __init__ that keeps nothing -/
def spI0 (C : Addr) : Sp := fun vs H Q _ => ∃ a : Addr, vs = [.ref a] ∧ H a = some (exo a C none) ∧ Q .non H
section
variable {P : Program} {w : World} {K : PySem.W.Frag} {mg : Str → Option Value} {base : Heap}
theorem fn_I0 {xq qual : Str} {st : Stmt} {fI C : Addr} {fd : FuncData} (F : Fun K xq qual st fI fd) (S : FnScope ["self"] ["self"] (defScope st)) (T : OexC K C)
    (hb : ∀ cdv A outer s H E, PSs (cxOf CX0 P w K mg base ["self"] qual (defScope st) fI cdv A outer s H E).nox (defBody st) (tDrop (tVeI K (tCons (tVar 0) tNil)))) : FnOk P w K mg base CX0 1 fI fd ["self"] (spI0 C) := by
  refine F.ok S (fun vs H Q E h => ?_) (fun cdv A outer s H vs Q E hr h => ⟨_, hb cdv A outer s H E, ?_⟩)
  · obtain ⟨a, rfl, _⟩ := h
    rfl
  · obtain ⟨a, rfl, ha, k⟩ := h
    exact ⟨_, rfl, a, C, [], rfl, Nat.zero_le _, T, ha, k⟩
end
/-- what the promise of an __init__ says of its fields -/
inductive KeepS (C : Addr) : List Str → Sp → Prop
  | zero : KeepS C [] (spI0 C)
  | one (f : Str) : KeepS C [f] (spI1 C f)
  | two (f g : Str) : KeepS C [f, g] (spI2 C f g)
/-- an error class as its makers need it, under ValueError or IndexError -/
structure MkE (P : Program) (w : World) (K : PySem.W.Frag) (mg : Str → Option Value) (base : Heap) (C : Addr) (fd : FuncData) (ps ns : List Str) : Prop where
  oex : OexC K C ∨ OexI K C
  one : ∃ fI sp, PySem.W.findIn K (.ref C) "__init__" = some (some (.ref fI)) ∧ PySem.W.typeIn K (.ref fI) = some (.type "function") ∧ FnOk P w K mg base CX0 1 fI fd ps sp ∧ KeepS C ns sp
theorem MkE.kp {P : Program} {w : World} {K : PySem.W.Frag} {mg : Str → Option Value} {base : Heap} {C : Addr} {fd : FuncData} {ps ns : List Str} (m : MkE P w K mg base C fd ps ns) : PySem.W.keepIn K (.ref C) = true := by
  rcases m.oex with T | T <;> exact T.kC
/-- the heap behind the making -/
def Mad (C : Addr) : List Str → List V → Hp → Addr → Hp → Prop
  | [], [], H, a, H2 => H2 = upd H a (exo a C none)
  | [f], [v], H, a, H2 => ∃ dx, H dx = none ∧ dx ≠ a ∧ H2 = upd (upd H dx (exd dx [(f, v)])) a (exo a C (some dx))
  | [f, g], [v, u], H, a, H2 => ∃ dx, H dx = none ∧ dx ≠ a ∧ H2 = upd (upd H dx (exd dx [(g, u), (f, v)])) a (exo a C (some dx))
  | _, _, _, _, _ => False
theorem upd_over {H : Hp} {a : Addr} {o u : HO} : upd (upd H a o) a u = upd H a u := by
  funext b
  by_cases hb : b = a
  · rw [hb, upd_same, upd_same]
  · rw [upd_ne hb, upd_ne hb, upd_ne hb]
theorem upd_swap {H : Hp} {a b : Addr} {o u : HO} (h : a ≠ b) : upd (upd H a o) b u = upd (upd H b u) a o := by
  funext c
  by_cases hb : c = b
  · rw [hb, upd_same, upd_ne (Ne.symm h), upd_same]
  · by_cases ha : c = a
    · rw [ha, upd_ne h, upd_same, upd_same]
    · rw [upd_ne hb, upd_ne ha, upd_ne ha, upd_ne hb]
/-- the promise, from what is wanted behind -/
theorem KeepS.sp {C : Addr} {ns : List Str} {sp : Sp} (k : KeepS C ns sp) {vs : List V} {H : Hp} {a : Addr} {R : Hp → Prop} {E : XK} (hl : vs.length = ns.length) (hn : H a = none) (h : ∀ H2, Mad C ns vs H a H2 → R H2) : sp (.ref a :: vs) (upd H a (exo a C none)) (fun v H2 => v = .non ∧ R H2) E := by
  cases k with
  | zero =>
    match vs, hl with
    | [], _ => exact ⟨a, rfl, upd_same, rfl, h _ rfl⟩
  | one f =>
    match vs, hl with
    | [v], _ =>
      refine ⟨a, v, rfl, upd_same, fun dx hd hne => ⟨rfl, h _ ⟨dx, by rw [upd_ne hne] at hd; exact hd, hne, ?_⟩⟩⟩
      rw [upd_swap (Ne.symm hne), upd_over]
  | two f g =>
    match vs, hl with
    | [v, u], _ =>
      refine ⟨a, v, u, rfl, upd_same, fun dx hd hne => ⟨rfl, h _ ⟨dx, by rw [upd_ne hne] at hd; exact hd, hne, ?_⟩⟩⟩
      rw [upd_swap (Ne.symm hne), upd_over, upd_swap (Ne.symm hne), upd_over]
section
variable {X : Cx} {C : Addr} {fd : FuncData} {ps ns : List Str} {pins : List (Addr × Obj)} {σ : L2.St} {H1 : Hp} {s1 : Shared} {R : VK}
open PySem.W in
/-- C(..), by position or by keywords -/
theorem run_err (m : MkE X.prog X.w X.K X.mg X.base C fd ps ns) (hr : Room 2 X.A) (I1 : L2.Inv X pins σ H1 s1) {us ws : List Value} {kw : List (Str × Value)} {vs : List V} (hkw : kw = [] ∨ us = []) (hus : us.length ≤ sizeLine) (rv : Vals vs ws) (hl : vs.length = ns.length)
    (hb : ∀ (s : Shared) (a : Addr), X.K.In s.heap → BindsTo s fd ⟨.ref a :: us, kw⟩ (ps.zip (.ref a :: ws))) (h : ∀ a H2, H1 a = none → Mad C ns vs H1 a H2 → R (.ref a) H2) :
    wpAny (model X.prog X.w) X.A (call (.ref C) us kw) (EP X pins σ R) X.xe s1 := by
  obtain ⟨fI, sp, iC, tI, F1, ks⟩ := m.one
  obtain ⟨hp, g, dr, tk, os⟩ := s1
  have hsz : hp.objs.size ≤ hp.objs.size + 1 := Nat.le_succ _
  have hn : H1 (hp.objs.size + 1) = none := I1.hok.fresh hsz
  have hq := ks.sp (E := fun _ _ _ => False) (R := fun H2 => R (.ref (hp.objs.size + 1)) H2) hl hn fun H2 hm => h _ H2 hn hm
  have kk : ∀ b o, hp.get? b = some o → ((hp.push (kdv_tup us)).push (PySem.HandSPX.excO C hp.objs.size)).get? b = some o := fun b o e => Heap.get?_push_of_some _ (Heap.get?_push_of_some _ e)
  have hget : ((hp.push (kdv_tup us)).push (PySem.HandSPX.excO C hp.objs.size)).get? (hp.objs.size + 1) = some (PySem.HandSPX.excO C hp.objs.size) := by heap_get
  have I2 : L2.Inv X pins σ (upd H1 (hp.objs.size + 1) (exo (hp.objs.size + 1) C none)) ⟨(hp.push (kdv_tup us)).push (PySem.HandSPX.excO C hp.objs.size), g, dr, tk, os⟩ :=
    I1.laid (t' := tk) (a := hp.objs.size + 1) (o := exo (hp.objs.size + 1) C none) (h' := (hp.push (kdv_tup us)).push (PySem.HandSPX.excO C hp.objs.size)) kk hsz (exo_ok hget)
  have r2 : Vals (V.ref (hp.objs.size + 1) :: vs) (Value.ref (hp.objs.size + 1) :: ws) := .cons rfl rv
  have core : ∀ (R' : Result → Shared → Prop), (∀ u s', EP X pins σ R u s' → R' (.ok (.ret u)) s') → (∀ e s', X.xe e s' → R' (.error e) s') → codeAny (model X.prog X.w) (X.A.under (.builtin "type.__call__" ⟨.ref C :: us, kw⟩)) (.call (.ref fI) ⟨.ref (hp.objs.size + 1) :: us, kw⟩) (InitBack (hp.objs.size + 1) R') ⟨(hp.push (kdv_tup us)).push (PySem.HandSPX.excO C hp.objs.size), g, dr, tk, os⟩ := fun R' hR hR2 => by
    refine codeAny_mono (F1.run _ X.stack _ _ ⟨Value.ref (hp.objs.size + 1) :: us, kw⟩ (Value.ref (hp.objs.size + 1) :: ws) _ _ (fun _ _ _ => False) (hr.make C us kw) (I2.env0.make C us kw) (hb _ _ I2.kIn) r2 hq) fun r s' hq' => ?_
    cases r with
    | error er => exact hR2 _ _ (pass0 pins σ _ _ er s' I2 hq')
    | ok fl =>
      cases fl with
      | ret u =>
        obtain ⟨v, H2, os2, bare2, un2, hok2, rv, ev, q2⟩ := hq'
        subst ev
        exact ⟨rv, hR _ _ ⟨.ref (hp.objs.size + 1), H2, I2.call' (ch := []) os2 un2 hok2 bare2 (fun b z => absurd z (by simp)), rfl, q2⟩⟩
      | next => exact False.elim hq'
      | brk => exact False.elim hq'
      | cont => exact False.elim hq'
  have pos0 : kw = [] → wpAny (model X.prog X.w) X.A (call (.ref C) us kw) (EP X pins σ R) X.xe ⟨hp, g, dr, tk, os⟩ := fun ek => by
    subst ek
    rcases m.oex with T | T
    · obtain ⟨nm, q, N, bs, bm, sn, sub, ab, col, dd, k0, k1, k2, k3, k5, hC, hbm⟩ := T.cls
      exact wpAny_call (PySem.HandSPX.call_own F.excBase_ValueError (fun Y => PySem.HandSPX.refsVE_contains Y bm hbm) (I1.kIn _ _ hC) (looks_findIn I1.kIn iC) (fun self => bind_fn I1.kIn self tI) hus (core _ (fun _ _ z => z) fun _ _ z => z))
    · obtain ⟨nm, q, N, bs, sn, sub, ab, col, dd, k0, k1, k2, k3, k5, hC⟩ := T.cls
      exact wpAny_call (PySem.HandSPX.call_own F.excBase_IndexError (fun Y => rfl) (I1.kIn _ _ hC) (looks_findIn I1.kIn iC) (fun self => bind_fn I1.kIn self tI) hus (core _ (fun _ _ z => z) fun _ _ z => z))
  rcases hkw with ek | eu
  · exact pos0 ek
  · subst eu
    rcases m.oex with T | T
    · obtain ⟨nm, q, N, bs, bm, sn, sub, ab, col, dd, k0, k1, k2, k3, k5, hC, hbm⟩ := T.cls
      exact wpAny_call (PySem.HandSKW.kw_call F.excBase_ValueError (fun Y => PySem.HandSPX.refsVE_contains Y bm hbm) (I1.kIn _ _ hC) (looks_findIn I1.kIn iC) (fun self => bind_fn I1.kIn self tI) (core _ (fun _ _ z => z) fun _ _ z => z))
    · obtain ⟨nm, q, N, bs, sn, sub, ab, col, dd, k0, k1, k2, k3, k5, hC⟩ := T.cls
      exact wpAny_call (PySem.HandSKW.kw_call F.excBase_IndexError (fun Y => rfl) (I1.kIn _ _ hC) (looks_findIn I1.kIn iC) (fun self => bind_fn I1.kIn self tI) (core _ (fun _ _ z => z) fun _ _ z => z))
end
/-- the datum of an error -/
def erD (C : Addr) (ns : List Str) (ds : List D) : D := .err C ns.reverse ds.reverse
theorem mad_rep {K : PySem.W.Frag} {L : List Addr} {G H1 H2 : Hp} {μ : List M} {C a : Addr} {ns : List Str} {ds : List D} {vs : List V} (o : Ok K L G H1 μ) (hn : H1 a = none) (m : Mad C ns vs H1 a H2) (r : Reps K L G ds vs) : ∃ G2, Step L G H1 L G2 H2 ∧ Ok K L G2 H2 μ ∧ Rep K L G2 (erD C ns ds) (.ref a) := by
  match ns, vs, m with
  | [], [], m =>
    obtain rfl : ds = [] := by
      have := r.length
      exact List.length_eq_zero_iff.mp this.symm
    subst m
    obtain ⟨o2, s2⟩ := o.new (o := exo a C none) hn
    exact ⟨_, s2, o2, rep_err.mpr ⟨a, none, [], rfl, ⟨upd_same, rfl⟩, rfl, Reps.nil⟩⟩
  | [f], [v], ⟨dx, hd, hne, e⟩ =>
    subst e
    obtain ⟨d, rest, rfl⟩ : ∃ d rest, ds = d :: rest := by
      cases ds with
      | nil => exact absurd r.length (by simp)
      | cons d rest => exact ⟨d, rest, rfl⟩
    obtain rfl : rest = [] := by
      have := r.length
      cases rest with
      | nil => rfl
      | cons _ _ => simp at this
    obtain ⟨o2, s2⟩ := o.new (o := exd dx [(f, v)]) hd
    obtain ⟨o3, s3⟩ := o2.new (p := a) (o := exo a C (some dx)) (by rw [upd_ne (Ne.symm hne)]; exact hn)
    exact ⟨_, s2.trans s3, o3, rep_err.mpr ⟨a, some dx, [v], rfl, ⟨upd_same, by show upd _ a _ dx = _; rw [upd_ne hne, upd_same]; rfl⟩, rfl, (r.step s2).step s3⟩⟩
  | [f, g], [v, u], ⟨dx, hd, hne, e⟩ =>
    subst e
    obtain ⟨d, c, rfl⟩ : ∃ d c, ds = [d, c] := by
      have := r.length
      match ds, this with
      | [d, c], _ => exact ⟨d, c, rfl⟩
    obtain ⟨v', u', e, r1, r2⟩ := r.two
    simp only [List.cons.injEq, and_true] at e
    obtain ⟨rfl, rfl⟩ := e
    obtain ⟨o2, s2⟩ := o.new (o := exd dx [(g, u), (f, v)]) hd
    obtain ⟨o3, s3⟩ := o2.new (p := a) (o := exo a C (some dx)) (by rw [upd_ne (Ne.symm hne)]; exact hn)
    exact ⟨_, s2.trans s3, o3, rep_err.mpr ⟨a, some dx, [u, v], rfl, ⟨upd_same, by show upd _ a _ dx = _; rw [upd_ne hne, upd_same]; rfl⟩, rfl, ((Reps.cons r2 (Reps.cons r1 Reps.nil)).step s2).step s3⟩⟩
section
variable {X : Cx} {W : WX} {k : Nat} {N : List Str} {V : List Kd} {Gs ks : List Str} {C : Addr} {fd : FuncData} {ps ns : List Str} {ρ : Env'} {μ : List M} {ds : List D} {kws : List Keyword} {x : Str} {pp pos : Pos} {p : List Nat} {Q : KV} {Z : KX}
/-- an error, made by position -/
theorem wF_err (g : Gd X W k) (m : MkE X.prog X.w X.K X.mg X.base C fd ps ns) (bd : Binds X.K fd ps []) (hl : ds.length = ns.length) (hps : ps.length = ns.length + 1) (hn : ns.length ≤ 2) (h : Q (erD C ns ds) μ) (hk : 2 ≤ k := by decide) : wF X W (fun us => call (.ref C) us) ds μ Q Z := by
  refine ⟨fun pins s σ H vs us R L G I rv ok r av ax => ?_⟩
  have lv : vs.length = ns.length := r.length.trans hl
  have lu : us.length = ns.length := rv.length.symm.trans lv
  refine run_err m (g.hr.mono hk) I (kw := []) (.inl rfl) (by rw [lu, sizeLine_eq]; omega) rv lv (fun s' a X' => ?_) (fun a H2 hn' hm => ?_)
  · have := bd s' (.ref a :: us) X' (by simp [lu, hps])
    simpa using this
  · obtain ⟨G2, s2, o2, r2⟩ := mad_rep ok hn' hm r
    exact av _ _ h (.ref a) L G2 H2 s2 o2 r2
/-- .. by keywords; p: which of them stands for which field -/
theorem wE_errK (g : Fx X W k N V Gs) (hi : In x Gs) (hm : X.mg x = some (.ref C)) (m : MkE X.prog X.w X.K X.mg X.base C fd ps ns) (hb : KwB X.K fd ps 1 ks (0 :: p.map (· + 1))) (h : wK X W ρ μ kws (fun ds μ1 => ds.length = ks.length ∧ (pick p ds).length = ns.length ∧ Q (erD C ns (pick p ds)) μ1) Z) (hk : 2 ≤ k := by decide)
    (hall : (backToKw pos (keywordEach kws X.env)).all (·.1.isSome) = true := by rfl) (hks : (backToKw pos (keywordEach kws X.env)).filterMap (·.1) = ks := by rfl)
    (hpl : ((backTo pos (starEach [] X.env)).any (·.1) || (backToKw pos (keywordEach kws X.env)).any (·.1.isNone)) = false := by rfl) : wE X W ρ μ (.Call (.Name x pp) [] kws pos) Q Z := by
  refine .by fun pins s σ H R L G I n v z => ?_
  refine wpAny_Call_Name_kw (ld_glob I (g.gl hi).1 hm ?_ (g.gl hi).2.1)
  refine PySem.W.callWith_KW0 (h₀ := X.base) I.ok.mod.kin m.kp hall ?_ hpl
  refine thn (h.go I n z pos) fun ws s2 ⟨zs, ds, μ1, L2, G2, H2, I2, rz, ⟨hl, hl2, hq⟩, st2, o2, r2⟩ => ⟨I2.kIn, ?_⟩
  rw [hks]
  have pk : ∀ {α : Type} (x : α) (l : List α), pick (0 :: p.map (· + 1)) ([x] ++ l) = x :: pick p l := fun x l => by
    unfold pick
    rw [List.filterMap_cons, List.filterMap_map]
    rfl
  have rp := pick_reps (p := p) r2
  refine run_err m (g.hr.mono hk) I2 (us := []) (.inr rfl) (Nat.zero_le _) (pick_vals (p := p) rz) (rp.length.trans hl2) (fun s' a X' => ?_) (fun a H3 hn' hm' => ?_)
  · have := hb.to s' [.ref a] ws X' rfl (by rw [← rz.length, r2.length, hl])
    rw [pk] at this
    exact this
  · obtain ⟨G3, s3, o3, r3⟩ := mad_rep o2 hn' hm' rp
    exact v _ _ hq (.ref a) L2 G3 H3 (st2.trans s3) o3 r3
end
/-! ### such an error's field, its class -/
section
variable {X : Cx} {pins : List (Addr × Obj)} {σ : L2.St} {H : Hp} {s : Shared} {a C : Addr} {dx : Option Addr} {fs : List (Str × V)}
theorem inst_err (I : L2.Inv X pins σ H s) (ea : H a = some (exo a C dx)) (ed : ErD H dx fs) : ∃ oe od, PySem.W.InstAt s.heap a oe C od := by
  obtain ⟨t1, ho⟩ := exo_at I.hok ea
  cases dx with
  | none => exact ⟨_, none, ho, rfl, rfl, trivial⟩
  | some d =>
    obtain ⟨mA, hns, hr⟩ := exd_at I.hok ed
    obtain ⟨od, ho2, hl⟩ := lookIn_ns hns
    exact ⟨_, some od, ho, rfl, rfl, ho2⟩
def rIsV (K : PySem.W.Frag) (C : Addr) : List V → Hp → VK → Prop := fun xs H Q => ∃ (a : Addr) (dx : Option Addr) (fs : List (Str × V)) (c : V) (u : Value) (b : Bool), xs = [.ref a, c] ∧ ClsV c u ∧ H a = some (exo a C dx) ∧ ErD H dx fs ∧ PySem.W.kitOne K (.ref C) u = some b ∧ Q (.bl b) H
theorem call_isV (T : ExcC X.K C) : CallR X (.builtin "isinstance") (rIsV X.K C) := by
  intro pins s σ H xs us Q I r h
  obtain ⟨a, dx, fs, c, u, b, rfl, k, ea, ed, e, q⟩ := h
  obtain ⟨u1, u2, rfl, r1, r2⟩ := vals2 r
  have e2 := k.eq r2
  subst e2
  cases (show u1 = Value.ref a from r1)
  obtain ⟨oe, od, J⟩ := inst_err I ea ed
  exact PySem.W.kia_one (kitx_errF T) I.kIn J e (fun z => nomatch z) fun tk => ⟨.bl b, H, I.tok tk, rfl, q⟩
end
theorem ErD.mono {G H : Hp} (hs : Same G H) {dx : Option Addr} {fs : List (Str × V)} (h : ErD G dx fs) : ErD H dx fs := by
  cases dx with
  | none => exact h
  | some d => exact hs _ _ h
section
variable {X : Cx} {W : WX} {C : Addr} {c : D} {b : Bool} {ns : List Str} {ds : List D} {ρ : Env'} {μ : List M} {e : Expr} {f : Str} {pos : Pos} {Q : KV} {Z : KX}
/-- isinstance(e, c) of an error -/
theorem wF_isV (T : ExcC X.K C) (hk : AskD X.K C c b) (h : Q (.bl b) μ) : wF X W (fun us => call (.builtin "isinstance") us) [.err C ns ds, c] μ Q Z :=
  .ofV (callO_of (call_isV T) fun σ xs H Q L G o r co => by
    obtain ⟨v, w, rfl, r1, r2⟩ := r.two
    obtain ⟨a, dx, vs, rfl, ⟨eg, ed⟩, _, rr⟩ := rep_err.mp r1
    obtain ⟨u, k, e⟩ := hk.eq r2
    exact ⟨a, dx, _, w, u, b, rfl, k, o.sub _ _ eg, ed.mono o.sub, e, CO.now (W := W) (σ := σ) co o (rep_bl.mpr rfl)⟩) h
def tXv (K : PySem.W.Frag) (C : Addr) (f : Str) (te : TE) : TE := fun σ H Q => te σ H fun x H1 => ∃ (a dd : Addr) (fs : List (Str × V)) (v : V), x = .ref a ∧ H1 a = some (exo a C (some dd)) ∧ H1 dd = some (exd dd fs) ∧ fs.lookup f = some v ∧ Q v H1
theorem pe_xv {te : TE} (T : XfC X.K C) (hno : PySem.W.findIn X.K (.ref C) f = some none) (he : PE X e te) (hb : attributeBase e f X.env (eval e X.env) = eval e X.env := by rfl) : PE X (.Attribute e f pos) (tXv X.K C f te) := by
  refine ⟨fun pins s σ H Q I h => ?_⟩
  refine attr_of hb (thn (he.run pins s σ H _ I h) fun u s1 hh => ?_)
  obtain ⟨x, H1, I1, rx, a, dd, fs, v, ex, ea, ed, l, q⟩ := hh
  subst ex
  obtain rfl : u = Value.ref a := rx
  obtain ⟨t1, ho⟩ := exo_at I1.hok ea
  obtain ⟨mA, hns, hr⟩ := exd_at I1.hok ed
  obtain ⟨od, ho2, hl⟩ := lookIn_ns hns
  obtain ⟨u, hu, ru⟩ := RelO.some_of (v := v) (o := mA f) (by rw [← l]; exact hr f)
  have J : PySem.W.InstAt s1.heap a _ C (some od) := ⟨ho, rfl, rfl, ho2⟩
  exact PySem.HandSPX.exc_get I1.kIn J T.ga T.gg T.exC (PySem.W.findObj_own T.hdC hno rfl (by rw [hl, hu])) (handed_of ru) ⟨v, H1, I1.tok _, ru, q⟩
/-- e.f of an error -/
theorem wE_errf (T : XfC X.K C) (hno : PySem.W.findIn X.K (.ref C) f = some none) (h : wE X W ρ μ e (fun d μ1 => ∃ ns ds d', d = .err C ns ds ∧ fldOf ns ds f = some d' ∧ Q d' μ1) Z) (hb : attributeBase e f X.env (eval e X.env) = eval e X.env := by rfl) : wE X W ρ μ (.Attribute e f pos) Q Z :=
  ⟨pe_of (pe_xv T hno h.run hb) fun σ H R ⟨L, G, nw, av, ax⟩ => ⟨L, G, nw, fun d μ1 ⟨ns, ds, d', ed, hf, q⟩ v L1 G1 H1 s1 o1 r1 => by
    subst ed
    obtain ⟨a, dx, vs, ev, ⟨eg, eD⟩, _, rr⟩ := rep_err.mp r1
    obtain ⟨u, l, ru⟩ := fld_rep rr hf
    cases dx with
    | none =>
      have eD' : ns.zip vs = [] := eD
      rw [eD'] at l
      cases l
    | some dd => exact ⟨a, dd, _, u, ev, o1.sub _ _ eg, o1.sub _ _ eD, l, av _ _ q u L1 G1 H1 s1 o1 ru⟩, ax⟩⟩
end
end PM

set_option Elab.async false
set_option linter.all false
set_option maxRecDepth 100000
set_option maxHeartbeats 4000000
namespace PM
open PySem L2
/-! ### the text by places -/
def top (i : Nat) : Stmt := PySem.Challenge.pw_poolsmeet_k01_errors.main.body.getD i (.Pass ⟨0, 0, 0, 0⟩)
abbrev s_InvalidNumber_init : Stmt := inClass (top 3) 0
abbrev s_InvalidDrop_init : Stmt := inClass (top 4) 0
abbrev s_InvalidTime_init : Stmt := inClass (top 5) 0
abbrev s_InvalidText_init : Stmt := inClass (top 6) 0
abbrev s_InvalidCommand_init : Stmt := inClass (top 7) 0
abbrev s_Full_init : Stmt := inClass (top 8) 0
abbrev s_MissingDrop_init : Stmt := inClass (top 9) 0
abbrev s_Touching_init : Stmt := inClass (top 10) 0
abbrev s_OutOfGround_init : Stmt := inClass (top 11) 0
abbrev s_Overfull_init : Stmt := inClass (top 12) 0
abbrev s_TrialError_init : Stmt := inClass (top 13) 0
abbrev s_UnknownIndex_init : Stmt := inClass (top 14) 0
abbrev s_is_integer : Stmt := top 18
abbrev s_is_number : Stmt := top 19
abbrev s_as_ratio : Stmt := top 20
abbrev s_common_divisor : Stmt := top 21
abbrev s_Ratio_init : Stmt := inClass (top 23) 0
abbrev s_w_box : Stmt := top 25
abbrev s_w_take : Stmt := top 26
abbrev s_w_value : Stmt := top 27
abbrev s_w_alike : Stmt := top 28
abbrev s_w_placed : Stmt := top 29
abbrev s_w_named : Stmt := top 30
abbrev s_w_kinds : Stmt := top 31
abbrev s_w_right : Stmt := top 32
abbrev s_law : Stmt := top 33
/-- slots: 0 self, 1 value -/
abbrev n_InvalidNumber_init : List Str := ["self", "value"]
abbrev v_InvalidNumber_init : List Kd := [.loc, .loc]
abbrev g_InvalidNumber_init : List Str := ["PoolError"]
theorem sc_InvalidNumber_init : FnScope n_InvalidNumber_init ["self", "value"] (defScope s_InvalidNumber_init) := ⟨rfl, rfl, rfl, by decide +kernel, rfl, by decide +kernel, by decide +kernel⟩
/-- slots: 0 self, 1 index -/
abbrev n_InvalidDrop_init : List Str := ["self", "index"]
abbrev v_InvalidDrop_init : List Kd := [.loc, .loc]
abbrev g_InvalidDrop_init : List Str := ["PoolError"]
theorem sc_InvalidDrop_init : FnScope n_InvalidDrop_init ["self", "index"] (defScope s_InvalidDrop_init) := ⟨rfl, rfl, rfl, by decide +kernel, rfl, by decide +kernel, by decide +kernel⟩
/-- slots: 0 self, 1 time -/
abbrev n_InvalidTime_init : List Str := ["self", "time"]
abbrev v_InvalidTime_init : List Kd := [.loc, .loc]
abbrev g_InvalidTime_init : List Str := ["PoolError"]
theorem sc_InvalidTime_init : FnScope n_InvalidTime_init ["self", "time"] (defScope s_InvalidTime_init) := ⟨rfl, rfl, rfl, by decide +kernel, rfl, by decide +kernel, by decide +kernel⟩
/-- slots: 0 self, 1 line -/
abbrev n_InvalidText_init : List Str := ["self", "line"]
abbrev v_InvalidText_init : List Kd := [.loc, .loc]
abbrev g_InvalidText_init : List Str := ["PoolError"]
theorem sc_InvalidText_init : FnScope n_InvalidText_init ["self", "line"] (defScope s_InvalidText_init) := ⟨rfl, rfl, rfl, by decide +kernel, rfl, by decide +kernel, by decide +kernel⟩
/-- slots: 0 self -/
abbrev n_InvalidCommand_init : List Str := ["self"]
abbrev v_InvalidCommand_init : List Kd := [.loc]
abbrev g_InvalidCommand_init : List Str := ["PoolError"]
theorem sc_InvalidCommand_init : FnScope n_InvalidCommand_init ["self"] (defScope s_InvalidCommand_init) := ⟨rfl, rfl, rfl, by decide +kernel, rfl, by decide +kernel, by decide +kernel⟩
/-- slots: 0 self, 1 limit -/
abbrev n_Full_init : List Str := ["self", "limit"]
abbrev v_Full_init : List Kd := [.loc, .loc]
abbrev g_Full_init : List Str := ["PoolError"]
theorem sc_Full_init : FnScope n_Full_init ["self", "limit"] (defScope s_Full_init) := ⟨rfl, rfl, rfl, by decide +kernel, rfl, by decide +kernel, by decide +kernel⟩
/-- slots: 0 self, 1 spot, 2 amount -/
abbrev n_MissingDrop_init : List Str := ["self", "spot", "amount"]
abbrev v_MissingDrop_init : List Kd := [.loc, .loc, .loc]
abbrev g_MissingDrop_init : List Str := ["PoolError"]
theorem sc_MissingDrop_init : FnScope n_MissingDrop_init ["self", "spot", "amount"] (defScope s_MissingDrop_init) := ⟨rfl, rfl, rfl, by decide +kernel, rfl, by decide +kernel, by decide +kernel⟩
/-- slots: 0 self, 1 index -/
abbrev n_Touching_init : List Str := ["self", "index"]
abbrev v_Touching_init : List Kd := [.loc, .loc]
abbrev g_Touching_init : List Str := ["PoolError"]
theorem sc_Touching_init : FnScope n_Touching_init ["self", "index"] (defScope s_Touching_init) := ⟨rfl, rfl, rfl, by decide +kernel, rfl, by decide +kernel, by decide +kernel⟩
/-- slots: 0 self, 1 spot -/
abbrev n_OutOfGround_init : List Str := ["self", "spot"]
abbrev v_OutOfGround_init : List Kd := [.loc, .loc]
abbrev g_OutOfGround_init : List Str := ["PoolError"]
theorem sc_OutOfGround_init : FnScope n_OutOfGround_init ["self", "spot"] (defScope s_OutOfGround_init) := ⟨rfl, rfl, rfl, by decide +kernel, rfl, by decide +kernel, by decide +kernel⟩
/-- slots: 0 self, 1 total -/
abbrev n_Overfull_init : List Str := ["self", "total"]
abbrev v_Overfull_init : List Kd := [.loc, .loc]
abbrev g_Overfull_init : List Str := ["PoolError"]
theorem sc_Overfull_init : FnScope n_Overfull_init ["self", "total"] (defScope s_Overfull_init) := ⟨rfl, rfl, rfl, by decide +kernel, rfl, by decide +kernel, by decide +kernel⟩
/-- slots: 0 self -/
abbrev n_TrialError_init : List Str := ["self"]
abbrev v_TrialError_init : List Kd := [.loc]
abbrev g_TrialError_init : List Str := ["PoolError"]
theorem sc_TrialError_init : FnScope n_TrialError_init ["self"] (defScope s_TrialError_init) := ⟨rfl, rfl, rfl, by decide +kernel, rfl, by decide +kernel, by decide +kernel⟩
/-- slots: 0 self, 1 index -/
abbrev n_UnknownIndex_init : List Str := ["self", "index"]
abbrev v_UnknownIndex_init : List Kd := [.loc, .loc]
abbrev g_UnknownIndex_init : List Str := ["IndexError"]
theorem sc_UnknownIndex_init : FnScope n_UnknownIndex_init ["self", "index"] (defScope s_UnknownIndex_init) := ⟨rfl, rfl, rfl, by decide +kernel, rfl, by decide +kernel, by decide +kernel⟩
/-- slots: 0 value -/
abbrev n_is_integer : List Str := ["value"]
abbrev v_is_integer : List Kd := [.loc]
abbrev g_is_integer : List Str := ["isinstance", "int", "bool"]
/-- slots: 0 value -/
abbrev n_is_number : List Str := ["value"]
abbrev v_is_number : List Kd := [.loc]
abbrev g_is_number : List Str := ["isinstance", "Ratio", "is_integer"]
/-- slots: 0 value -/
abbrev n_as_ratio : List Str := ["value"]
abbrev v_as_ratio : List Kd := [.loc]
abbrev g_as_ratio : List Str := ["isinstance", "Ratio", "is_integer", "InvalidNumber"]
/-- slots: 0 one, 1 other -/
abbrev n_common_divisor : List Str := ["one", "other"]
abbrev v_common_divisor : List Kd := [.loc, .loc]
abbrev g_common_divisor : List Str := []
theorem sc_common_divisor : FnScope n_common_divisor ["one", "other"] (defScope s_common_divisor) := ⟨rfl, rfl, rfl, by decide +kernel, rfl, by decide +kernel, by decide +kernel⟩
/-- slots: 0 self, 1 top, 2 bottom, 3 divisor -/
abbrev n_Ratio_init : List Str := ["self", "top", "bottom", "divisor"]
abbrev v_Ratio_init : List Kd := [.loc, .loc, .loc, .loc]
abbrev g_Ratio_init : List Str := ["InvalidNumber", "common_divisor", "abs"]
theorem sc_Ratio_init : FnScope n_Ratio_init ["self", "top", "bottom"] (defScope s_Ratio_init) := ⟨rfl, rfl, rfl, by decide +kernel, rfl, by decide +kernel, by decide +kernel⟩
/-- slots: 0 w_script, 1 w_k, 2 w_cell, 3 w_seed -/
abbrev n_w_box : List Str := ["_law_script", "_law_k", "_law_cell", "_law_seed"]
abbrev v_w_box : List Kd := [.loc, .loc, .loc, .loc]
abbrev g_w_box : List Str := ["len", "int"]
theorem ck_w_box : ckB n_w_box v_w_box g_w_box (defScope s_w_box) = true := by decide +kernel
theorem sc_w_box : FnScope n_w_box ["_law_script", "_law_k"] (defScope s_w_box) := ⟨rfl, rfl, rfl, by decide +kernel, rfl, by decide +kernel, by decide +kernel⟩
/-- slots: 0 w_box_here, 1 w_many, 2 w_digit, 3 w_first, 4 w_mixed -/
abbrev n_w_take : List Str := ["_law_box_here", "_law_many", "_law_digit", "_law_first", "_law_mixed"]
abbrev v_w_take : List Kd := [.loc, .loc, .loc, .loc, .loc]
abbrev g_w_take : List Str := []
theorem ck_w_take : ckB n_w_take v_w_take g_w_take (defScope s_w_take) = true := by decide +kernel
theorem sc_w_take : FnScope n_w_take ["_law_box_here", "_law_many"] (defScope s_w_take) := ⟨rfl, rfl, rfl, by decide +kernel, rfl, by decide +kernel, by decide +kernel⟩
/-- slots: 0 w_box_here, 1 w_deep, 2 w_form, 3 w_some, 4 w_turn -/
abbrev n_w_value : List Str := ["_law_box_here", "_law_deep", "_law_form", "_law_some", "_law_turn"]
abbrev v_w_value : List Kd := [.cell, .cell, .loc, .loc, .no]
abbrev g_w_value : List Str := ["_law_take", "tuple", "range", "Ratio"]
theorem ck_w_value : ckB n_w_value v_w_value g_w_value (defScope s_w_value) = true := by decide +kernel
abbrev v_w_value_c0 : List Kd := [.cell, .cell, .no, .no, .loc]
abbrev o_w_value_c0 : List (Str × Nat) := [("_law_turn", 4)]
abbrev g_w_value_c0 : List Str := ["_law_value"]
theorem sc_w_value : FnScope n_w_value ["_law_box_here", "_law_deep"] (defScope s_w_value) := ⟨rfl, rfl, rfl, by decide +kernel, rfl, by decide +kernel, by decide +kernel⟩
/-- slots: 0 w_found, 1 w_due, 2 w_one, 3 w_other -/
abbrev n_w_alike : List Str := ["_law_found", "_law_due", "_law_one", "_law_other"]
abbrev v_w_alike : List Kd := [.loc, .loc, .no, .no]
abbrev g_w_alike : List Str := ["isinstance", "tuple", "len", "all", "zip", "Ratio", "repr"]
theorem ck_w_alike : ckB n_w_alike v_w_alike g_w_alike (defScope s_w_alike) = true := by decide +kernel
abbrev v_w_alike_c0 : List Kd := [.no, .no, .loc, .loc]
abbrev o_w_alike_c0 : List (Str × Nat) := [("_law_one", 2), ("_law_other", 3)]
abbrev g_w_alike_c0 : List Str := ["_law_alike"]
theorem sc_w_alike : FnScope n_w_alike ["_law_found", "_law_due"] (defScope s_w_alike) := ⟨rfl, rfl, rfl, by decide +kernel, rfl, by decide +kernel, by decide +kernel⟩
/-- slots: 0 w_a, 1 w_b, 2 w_one, 3 w_two, 4 w_three, 5 w_four, 6 w_five, 7 w_six, 8 w_seven, 9 w_eight, 10 w_nine, 11 w_last, 12 w_errors, 13 w_told -/
abbrev n_w_placed : List Str := ["_law_a", "_law_b", "_law_one", "_law_two", "_law_three", "_law_four", "_law_five", "_law_six", "_law_seven", "_law_eight", "_law_nine", "_law_last", "_law_errors", "_law_told"]
abbrev v_w_placed : List Kd := [.loc, .loc, .loc, .loc, .loc, .loc, .loc, .loc, .loc, .loc, .loc, .loc, .loc, .loc]
abbrev g_w_placed : List Str := ["InvalidNumber", "InvalidDrop", "InvalidTime", "InvalidText", "Full", "MissingDrop", "Touching", "OutOfGround", "Overfull", "UnknownIndex", "InvalidCommand", "TrialError"]
theorem ck_w_placed : ckB n_w_placed v_w_placed g_w_placed (defScope s_w_placed) = true := by decide +kernel
theorem sc_w_placed : FnScope n_w_placed ["_law_a", "_law_b"] (defScope s_w_placed) := ⟨rfl, rfl, rfl, by decide +kernel, rfl, by decide +kernel, by decide +kernel⟩
/-- slots: 0 w_a, 1 w_b, 2 w_one, 3 w_two, 4 w_three, 5 w_four, 6 w_five, 7 w_six, 8 w_seven, 9 w_eight, 10 w_nine, 11 w_last, 12 w_errors, 13 w_told -/
abbrev n_w_named : List Str := ["_law_a", "_law_b", "_law_one", "_law_two", "_law_three", "_law_four", "_law_five", "_law_six", "_law_seven", "_law_eight", "_law_nine", "_law_last", "_law_errors", "_law_told"]
abbrev v_w_named : List Kd := [.loc, .loc, .loc, .loc, .loc, .loc, .loc, .loc, .loc, .loc, .loc, .loc, .loc, .loc]
abbrev g_w_named : List Str := ["InvalidNumber", "InvalidDrop", "InvalidTime", "InvalidText", "Full", "MissingDrop", "Touching", "OutOfGround", "Overfull", "UnknownIndex", "InvalidCommand", "TrialError"]
theorem ck_w_named : ckB n_w_named v_w_named g_w_named (defScope s_w_named) = true := by decide +kernel
theorem sc_w_named : FnScope n_w_named ["_law_a", "_law_b"] (defScope s_w_named) := ⟨rfl, rfl, rfl, by decide +kernel, rfl, by decide +kernel, by decide +kernel⟩
/-- slots: 0 w_e, 1 w_found, 2 w_bases -/
abbrev n_w_kinds : List Str := ["_law_e", "_law_found", "_law_bases"]
abbrev v_w_kinds : List Kd := [.loc, .loc, .loc]
abbrev g_w_kinds : List Str := ["isinstance", "InvalidNumber", "InvalidDrop", "InvalidTime", "InvalidText", "Full", "MissingDrop", "Touching", "OutOfGround", "Overfull", "InvalidCommand", "TrialError", "UnknownIndex", "PoolError", "ValueError", "IndexError", "KeyError"]
theorem ck_w_kinds : ckB n_w_kinds v_w_kinds g_w_kinds (defScope s_w_kinds) = true := by decide +kernel
theorem sc_w_kinds : FnScope n_w_kinds ["_law_e"] (defScope s_w_kinds) := ⟨rfl, rfl, rfl, by decide +kernel, rfl, by decide +kernel, by decide +kernel⟩
/-- slots: 0 w_errors, 1 w_told, 2 w_second, 3 w_a, 4 w_b, 5 w_at, 6 w_error, 7 w_found, 8 w_bases, 9 w_k, 10 w_one -/
abbrev n_w_right : List Str := ["_law_errors", "_law_told", "_law_second", "_law_a", "_law_b", "_law_at", "_law_error", "_law_found", "_law_bases", "_law_k", "_law_one"]
abbrev v_w_right : List Kd := [.loc, .loc, .loc, .cell, .loc, .cell, .loc, .loc, .loc, .no, .no]
abbrev g_w_right : List Str := ["enumerate", "_law_kinds", "range", "int", "all", "_law_alike"]
theorem ck_w_right : ckB n_w_right v_w_right g_w_right (defScope s_w_right) = true := by decide +kernel
abbrev v_w_right_c0 : List Kd := [.no, .no, .no, .no, .no, .cell, .no, .no, .no, .loc, .no]
abbrev o_w_right_c0 : List (Str × Nat) := [("_law_k", 9)]
abbrev g_w_right_c0 : List Str := []
abbrev v_w_right_c1 : List Kd := [.no, .no, .no, .cell, .no, .no, .no, .no, .no, .no, .loc]
abbrev o_w_right_c1 : List (Str × Nat) := [("_law_one", 10)]
abbrev g_w_right_c1 : List Str := ["_law_alike"]
theorem sc_w_right : FnScope n_w_right ["_law_errors", "_law_told", "_law_second", "_law_a", "_law_b"] (defScope s_w_right) := ⟨rfl, rfl, rfl, by decide +kernel, rfl, by decide +kernel, by decide +kernel⟩
/-- slots: 0 w_script, 1 w_k, 2 w_box_here, 3 w_a, 4 w_b, 5 w_errors, 6 w_told, 7 w_second -/
abbrev n_law : List Str := ["_law_script", "_law_k", "_law_box_here", "_law_a", "_law_b", "_law_errors", "_law_told", "_law_second"]
abbrev v_law : List Kd := [.loc, .loc, .loc, .loc, .loc, .loc, .loc, .loc]
abbrev g_law : List Str := ["range", "max", "min", "len", "_law_box", "_law_value", "_law_placed", "_law_named", "_law_right"]
theorem ck_law : ckB n_law v_law g_law (defScope s_law) = true := by decide +kernel
theorem sc_law : FnScope n_law ["_law_script"] (defScope s_law) := ⟨rfl, rfl, rfl, by decide +kernel, rfl, by decide +kernel, by decide +kernel⟩
/-! ### what the top has left -/
structure Tx (K : PySem.W.Frag) (mg : Str → Option Value) where
  C_PoolError : Addr
  g_PoolError : mg "PoolError" = some (.ref C_PoolError)
  up_PoolError : UpC K C_PoolError "ValueError.__init__"
  oex_PoolError : OexC K C_PoolError
  C_InvalidNumber : Addr
  g_InvalidNumber : mg "InvalidNumber" = some (.ref C_InvalidNumber)
  oex_InvalidNumber : OexC K C_InvalidNumber
  xf_InvalidNumber : XfC K C_InvalidNumber
  xm_InvalidNumber : PySem.W.exmOne K (.ref C_InvalidNumber) (.ref C_InvalidNumber) = some true
  na_InvalidNumber_value : NoAttr K C_InvalidNumber "value"
  C_InvalidDrop : Addr
  g_InvalidDrop : mg "InvalidDrop" = some (.ref C_InvalidDrop)
  oex_InvalidDrop : OexC K C_InvalidDrop
  xf_InvalidDrop : XfC K C_InvalidDrop
  xm_InvalidDrop : PySem.W.exmOne K (.ref C_InvalidDrop) (.ref C_InvalidDrop) = some true
  na_InvalidDrop_index : NoAttr K C_InvalidDrop "index"
  C_InvalidTime : Addr
  g_InvalidTime : mg "InvalidTime" = some (.ref C_InvalidTime)
  oex_InvalidTime : OexC K C_InvalidTime
  xf_InvalidTime : XfC K C_InvalidTime
  xm_InvalidTime : PySem.W.exmOne K (.ref C_InvalidTime) (.ref C_InvalidTime) = some true
  na_InvalidTime_time : NoAttr K C_InvalidTime "time"
  C_InvalidText : Addr
  g_InvalidText : mg "InvalidText" = some (.ref C_InvalidText)
  oex_InvalidText : OexC K C_InvalidText
  xf_InvalidText : XfC K C_InvalidText
  xm_InvalidText : PySem.W.exmOne K (.ref C_InvalidText) (.ref C_InvalidText) = some true
  na_InvalidText_line : NoAttr K C_InvalidText "line"
  C_InvalidCommand : Addr
  g_InvalidCommand : mg "InvalidCommand" = some (.ref C_InvalidCommand)
  oex_InvalidCommand : OexC K C_InvalidCommand
  xf_InvalidCommand : XfC K C_InvalidCommand
  xm_InvalidCommand : PySem.W.exmOne K (.ref C_InvalidCommand) (.ref C_InvalidCommand) = some true
  C_Full : Addr
  g_Full : mg "Full" = some (.ref C_Full)
  oex_Full : OexC K C_Full
  xf_Full : XfC K C_Full
  xm_Full : PySem.W.exmOne K (.ref C_Full) (.ref C_Full) = some true
  na_Full_limit : NoAttr K C_Full "limit"
  C_MissingDrop : Addr
  g_MissingDrop : mg "MissingDrop" = some (.ref C_MissingDrop)
  oex_MissingDrop : OexC K C_MissingDrop
  xf_MissingDrop : XfC K C_MissingDrop
  xm_MissingDrop : PySem.W.exmOne K (.ref C_MissingDrop) (.ref C_MissingDrop) = some true
  na_MissingDrop_spot : NoAttr K C_MissingDrop "spot"
  na_MissingDrop_amount : NoAttr K C_MissingDrop "amount"
  C_Touching : Addr
  g_Touching : mg "Touching" = some (.ref C_Touching)
  oex_Touching : OexC K C_Touching
  xf_Touching : XfC K C_Touching
  xm_Touching : PySem.W.exmOne K (.ref C_Touching) (.ref C_Touching) = some true
  na_Touching_index : NoAttr K C_Touching "index"
  C_OutOfGround : Addr
  g_OutOfGround : mg "OutOfGround" = some (.ref C_OutOfGround)
  oex_OutOfGround : OexC K C_OutOfGround
  xf_OutOfGround : XfC K C_OutOfGround
  xm_OutOfGround : PySem.W.exmOne K (.ref C_OutOfGround) (.ref C_OutOfGround) = some true
  na_OutOfGround_spot : NoAttr K C_OutOfGround "spot"
  C_Overfull : Addr
  g_Overfull : mg "Overfull" = some (.ref C_Overfull)
  oex_Overfull : OexC K C_Overfull
  xf_Overfull : XfC K C_Overfull
  xm_Overfull : PySem.W.exmOne K (.ref C_Overfull) (.ref C_Overfull) = some true
  na_Overfull_total : NoAttr K C_Overfull "total"
  C_TrialError : Addr
  g_TrialError : mg "TrialError" = some (.ref C_TrialError)
  oex_TrialError : OexC K C_TrialError
  xf_TrialError : XfC K C_TrialError
  xm_TrialError : PySem.W.exmOne K (.ref C_TrialError) (.ref C_TrialError) = some true
  C_UnknownIndex : Addr
  g_UnknownIndex : mg "UnknownIndex" = some (.ref C_UnknownIndex)
  oex_UnknownIndex : OexI K C_UnknownIndex
  vi_IndexError : PySem.W.findCls K (.type "IndexError") (.type "type") "__init__" = some (.val (.builtin "IndexError.__init__"))
  xf_UnknownIndex : XfC K C_UnknownIndex
  xm_UnknownIndex : PySem.W.exmOne K (.ref C_UnknownIndex) (.ref C_UnknownIndex) = some true
  na_UnknownIndex_index : NoAttr K C_UnknownIndex "index"
  C_Ratio : Addr
  g_Ratio : mg "Ratio" = some (.ref C_Ratio)
  own_Ratio : OwnC K C_Ratio
  cr_Ratio : ClX.CRead K C_Ratio (.type "type")
  na_Ratio_top : NoAttr K C_Ratio "top"
  na_Ratio_bottom : NoAttr K C_Ratio "bottom"
  a_InvalidNumber_init : Addr
  fd_InvalidNumber_init : FuncData
  F_InvalidNumber_init : FunS K "__init__" "InvalidNumber.__init__" s_InvalidNumber_init [] a_InvalidNumber_init fd_InvalidNumber_init
  i_InvalidNumber : PySem.W.findIn K (.ref C_InvalidNumber) "__init__" = some (some (.ref a_InvalidNumber_init))
  t_InvalidNumber : PySem.W.typeIn K (.ref a_InvalidNumber_init) = some (.type "function")
  a_InvalidDrop_init : Addr
  fd_InvalidDrop_init : FuncData
  F_InvalidDrop_init : FunS K "__init__" "InvalidDrop.__init__" s_InvalidDrop_init [] a_InvalidDrop_init fd_InvalidDrop_init
  i_InvalidDrop : PySem.W.findIn K (.ref C_InvalidDrop) "__init__" = some (some (.ref a_InvalidDrop_init))
  t_InvalidDrop : PySem.W.typeIn K (.ref a_InvalidDrop_init) = some (.type "function")
  a_InvalidTime_init : Addr
  fd_InvalidTime_init : FuncData
  F_InvalidTime_init : FunS K "__init__" "InvalidTime.__init__" s_InvalidTime_init [] a_InvalidTime_init fd_InvalidTime_init
  i_InvalidTime : PySem.W.findIn K (.ref C_InvalidTime) "__init__" = some (some (.ref a_InvalidTime_init))
  t_InvalidTime : PySem.W.typeIn K (.ref a_InvalidTime_init) = some (.type "function")
  a_InvalidText_init : Addr
  fd_InvalidText_init : FuncData
  F_InvalidText_init : FunS K "__init__" "InvalidText.__init__" s_InvalidText_init [] a_InvalidText_init fd_InvalidText_init
  i_InvalidText : PySem.W.findIn K (.ref C_InvalidText) "__init__" = some (some (.ref a_InvalidText_init))
  t_InvalidText : PySem.W.typeIn K (.ref a_InvalidText_init) = some (.type "function")
  a_InvalidCommand_init : Addr
  fd_InvalidCommand_init : FuncData
  F_InvalidCommand_init : FunS K "__init__" "InvalidCommand.__init__" s_InvalidCommand_init [] a_InvalidCommand_init fd_InvalidCommand_init
  i_InvalidCommand : PySem.W.findIn K (.ref C_InvalidCommand) "__init__" = some (some (.ref a_InvalidCommand_init))
  t_InvalidCommand : PySem.W.typeIn K (.ref a_InvalidCommand_init) = some (.type "function")
  a_Full_init : Addr
  fd_Full_init : FuncData
  F_Full_init : FunS K "__init__" "Full.__init__" s_Full_init [] a_Full_init fd_Full_init
  i_Full : PySem.W.findIn K (.ref C_Full) "__init__" = some (some (.ref a_Full_init))
  t_Full : PySem.W.typeIn K (.ref a_Full_init) = some (.type "function")
  a_MissingDrop_init : Addr
  fd_MissingDrop_init : FuncData
  F_MissingDrop_init : FunS K "__init__" "MissingDrop.__init__" s_MissingDrop_init [] a_MissingDrop_init fd_MissingDrop_init
  i_MissingDrop : PySem.W.findIn K (.ref C_MissingDrop) "__init__" = some (some (.ref a_MissingDrop_init))
  t_MissingDrop : PySem.W.typeIn K (.ref a_MissingDrop_init) = some (.type "function")
  a_Touching_init : Addr
  fd_Touching_init : FuncData
  F_Touching_init : FunS K "__init__" "Touching.__init__" s_Touching_init [] a_Touching_init fd_Touching_init
  i_Touching : PySem.W.findIn K (.ref C_Touching) "__init__" = some (some (.ref a_Touching_init))
  t_Touching : PySem.W.typeIn K (.ref a_Touching_init) = some (.type "function")
  a_OutOfGround_init : Addr
  fd_OutOfGround_init : FuncData
  F_OutOfGround_init : FunS K "__init__" "OutOfGround.__init__" s_OutOfGround_init [] a_OutOfGround_init fd_OutOfGround_init
  i_OutOfGround : PySem.W.findIn K (.ref C_OutOfGround) "__init__" = some (some (.ref a_OutOfGround_init))
  t_OutOfGround : PySem.W.typeIn K (.ref a_OutOfGround_init) = some (.type "function")
  a_Overfull_init : Addr
  fd_Overfull_init : FuncData
  F_Overfull_init : FunS K "__init__" "Overfull.__init__" s_Overfull_init [] a_Overfull_init fd_Overfull_init
  i_Overfull : PySem.W.findIn K (.ref C_Overfull) "__init__" = some (some (.ref a_Overfull_init))
  t_Overfull : PySem.W.typeIn K (.ref a_Overfull_init) = some (.type "function")
  a_TrialError_init : Addr
  fd_TrialError_init : FuncData
  F_TrialError_init : FunS K "__init__" "TrialError.__init__" s_TrialError_init [] a_TrialError_init fd_TrialError_init
  i_TrialError : PySem.W.findIn K (.ref C_TrialError) "__init__" = some (some (.ref a_TrialError_init))
  t_TrialError : PySem.W.typeIn K (.ref a_TrialError_init) = some (.type "function")
  a_UnknownIndex_init : Addr
  fd_UnknownIndex_init : FuncData
  F_UnknownIndex_init : FunS K "__init__" "UnknownIndex.__init__" s_UnknownIndex_init [] a_UnknownIndex_init fd_UnknownIndex_init
  i_UnknownIndex : PySem.W.findIn K (.ref C_UnknownIndex) "__init__" = some (some (.ref a_UnknownIndex_init))
  t_UnknownIndex : PySem.W.typeIn K (.ref a_UnknownIndex_init) = some (.type "function")
  a_is_integer : Addr
  fd_is_integer : FuncData
  F_is_integer : FunS K "is_integer" "is_integer" s_is_integer [] a_is_integer fd_is_integer
  g_is_integer : mg "is_integer" = some (.ref a_is_integer)
  a_is_number : Addr
  fd_is_number : FuncData
  F_is_number : FunS K "is_number" "is_number" s_is_number [] a_is_number fd_is_number
  g_is_number : mg "is_number" = some (.ref a_is_number)
  a_as_ratio : Addr
  fd_as_ratio : FuncData
  F_as_ratio : FunS K "as_ratio" "as_ratio" s_as_ratio [] a_as_ratio fd_as_ratio
  g_as_ratio : mg "as_ratio" = some (.ref a_as_ratio)
  a_common_divisor : Addr
  fd_common_divisor : FuncData
  F_common_divisor : FunS K "common_divisor" "common_divisor" s_common_divisor [] a_common_divisor fd_common_divisor
  g_common_divisor : mg "common_divisor" = some (.ref a_common_divisor)
  a_Ratio_init : Addr
  fd_Ratio_init : FuncData
  F_Ratio_init : FunS K "__init__" "Ratio.__init__" s_Ratio_init [.int 1] a_Ratio_init fd_Ratio_init
  m_Ratio_init : Meth K C_Ratio "__init__" a_Ratio_init
  mk_Ratio : Mk K C_Ratio a_Ratio_init
  a_w_box : Addr
  fd_w_box : FuncData
  F_w_box : FunS K "_law_box" "_law_box" s_w_box [] a_w_box fd_w_box
  g_w_box : mg "_law_box" = some (.ref a_w_box)
  a_w_take : Addr
  fd_w_take : FuncData
  F_w_take : FunS K "_law_take" "_law_take" s_w_take [] a_w_take fd_w_take
  g_w_take : mg "_law_take" = some (.ref a_w_take)
  a_w_value : Addr
  fd_w_value : FuncData
  F_w_value : FunS K "_law_value" "_law_value" s_w_value [] a_w_value fd_w_value
  g_w_value : mg "_law_value" = some (.ref a_w_value)
  a_w_alike : Addr
  fd_w_alike : FuncData
  F_w_alike : FunS K "_law_alike" "_law_alike" s_w_alike [] a_w_alike fd_w_alike
  g_w_alike : mg "_law_alike" = some (.ref a_w_alike)
  a_w_placed : Addr
  fd_w_placed : FuncData
  F_w_placed : FunS K "_law_placed" "_law_placed" s_w_placed [] a_w_placed fd_w_placed
  g_w_placed : mg "_law_placed" = some (.ref a_w_placed)
  a_w_named : Addr
  fd_w_named : FuncData
  F_w_named : FunS K "_law_named" "_law_named" s_w_named [] a_w_named fd_w_named
  g_w_named : mg "_law_named" = some (.ref a_w_named)
  a_w_kinds : Addr
  fd_w_kinds : FuncData
  F_w_kinds : FunS K "_law_kinds" "_law_kinds" s_w_kinds [] a_w_kinds fd_w_kinds
  g_w_kinds : mg "_law_kinds" = some (.ref a_w_kinds)
  a_w_right : Addr
  fd_w_right : FuncData
  F_w_right : FunS K "_law_right" "_law_right" s_w_right [] a_w_right fd_w_right
  g_w_right : mg "_law_right" = some (.ref a_w_right)
  a_law : Addr
  fd_law : FuncData
  F_law : FunS K "law" "law" s_law [] a_law fd_law
  g_law : mg "law" = some (.ref a_law)
  xk_Full : ExcC K C_Full
  xk_InvalidCommand : ExcC K C_InvalidCommand
  xk_InvalidDrop : ExcC K C_InvalidDrop
  xk_InvalidNumber : ExcC K C_InvalidNumber
  xk_InvalidText : ExcC K C_InvalidText
  xk_InvalidTime : ExcC K C_InvalidTime
  xk_MissingDrop : ExcC K C_MissingDrop
  xk_OutOfGround : ExcC K C_OutOfGround
  xk_Overfull : ExcC K C_Overfull
  xk_Touching : ExcC K C_Touching
  xk_TrialError : ExcC K C_TrialError
  xk_UnknownIndex : ExcC K C_UnknownIndex
  ki_InvalidNumber_InvalidNumber : PySem.W.kitOne K (.ref C_InvalidNumber) (.ref C_InvalidNumber) = some true
  ki_InvalidNumber_InvalidDrop : PySem.W.kitOne K (.ref C_InvalidNumber) (.ref C_InvalidDrop) = some false
  ki_InvalidNumber_InvalidTime : PySem.W.kitOne K (.ref C_InvalidNumber) (.ref C_InvalidTime) = some false
  ki_InvalidNumber_InvalidText : PySem.W.kitOne K (.ref C_InvalidNumber) (.ref C_InvalidText) = some false
  ki_InvalidNumber_InvalidCommand : PySem.W.kitOne K (.ref C_InvalidNumber) (.ref C_InvalidCommand) = some false
  ki_InvalidNumber_Full : PySem.W.kitOne K (.ref C_InvalidNumber) (.ref C_Full) = some false
  ki_InvalidNumber_MissingDrop : PySem.W.kitOne K (.ref C_InvalidNumber) (.ref C_MissingDrop) = some false
  ki_InvalidNumber_Touching : PySem.W.kitOne K (.ref C_InvalidNumber) (.ref C_Touching) = some false
  ki_InvalidNumber_OutOfGround : PySem.W.kitOne K (.ref C_InvalidNumber) (.ref C_OutOfGround) = some false
  ki_InvalidNumber_Overfull : PySem.W.kitOne K (.ref C_InvalidNumber) (.ref C_Overfull) = some false
  ki_InvalidNumber_TrialError : PySem.W.kitOne K (.ref C_InvalidNumber) (.ref C_TrialError) = some false
  ki_InvalidNumber_UnknownIndex : PySem.W.kitOne K (.ref C_InvalidNumber) (.ref C_UnknownIndex) = some false
  ki_InvalidNumber_PoolError : PySem.W.kitOne K (.ref C_InvalidNumber) (.ref C_PoolError) = some true
  ki_InvalidNumber_ValueError : PySem.W.kitOne K (.ref C_InvalidNumber) (.type "ValueError") = some true
  ki_InvalidNumber_IndexError : PySem.W.kitOne K (.ref C_InvalidNumber) (.type "IndexError") = some false
  ki_InvalidNumber_KeyError : PySem.W.kitOne K (.ref C_InvalidNumber) (.type "KeyError") = some false
  ki_InvalidDrop_InvalidNumber : PySem.W.kitOne K (.ref C_InvalidDrop) (.ref C_InvalidNumber) = some false
  ki_InvalidDrop_InvalidDrop : PySem.W.kitOne K (.ref C_InvalidDrop) (.ref C_InvalidDrop) = some true
  ki_InvalidDrop_InvalidTime : PySem.W.kitOne K (.ref C_InvalidDrop) (.ref C_InvalidTime) = some false
  ki_InvalidDrop_InvalidText : PySem.W.kitOne K (.ref C_InvalidDrop) (.ref C_InvalidText) = some false
  ki_InvalidDrop_InvalidCommand : PySem.W.kitOne K (.ref C_InvalidDrop) (.ref C_InvalidCommand) = some false
  ki_InvalidDrop_Full : PySem.W.kitOne K (.ref C_InvalidDrop) (.ref C_Full) = some false
  ki_InvalidDrop_MissingDrop : PySem.W.kitOne K (.ref C_InvalidDrop) (.ref C_MissingDrop) = some false
  ki_InvalidDrop_Touching : PySem.W.kitOne K (.ref C_InvalidDrop) (.ref C_Touching) = some false
  ki_InvalidDrop_OutOfGround : PySem.W.kitOne K (.ref C_InvalidDrop) (.ref C_OutOfGround) = some false
  ki_InvalidDrop_Overfull : PySem.W.kitOne K (.ref C_InvalidDrop) (.ref C_Overfull) = some false
  ki_InvalidDrop_TrialError : PySem.W.kitOne K (.ref C_InvalidDrop) (.ref C_TrialError) = some false
  ki_InvalidDrop_UnknownIndex : PySem.W.kitOne K (.ref C_InvalidDrop) (.ref C_UnknownIndex) = some false
  ki_InvalidDrop_PoolError : PySem.W.kitOne K (.ref C_InvalidDrop) (.ref C_PoolError) = some true
  ki_InvalidDrop_ValueError : PySem.W.kitOne K (.ref C_InvalidDrop) (.type "ValueError") = some true
  ki_InvalidDrop_IndexError : PySem.W.kitOne K (.ref C_InvalidDrop) (.type "IndexError") = some false
  ki_InvalidDrop_KeyError : PySem.W.kitOne K (.ref C_InvalidDrop) (.type "KeyError") = some false
  ki_InvalidTime_InvalidNumber : PySem.W.kitOne K (.ref C_InvalidTime) (.ref C_InvalidNumber) = some false
  ki_InvalidTime_InvalidDrop : PySem.W.kitOne K (.ref C_InvalidTime) (.ref C_InvalidDrop) = some false
  ki_InvalidTime_InvalidTime : PySem.W.kitOne K (.ref C_InvalidTime) (.ref C_InvalidTime) = some true
  ki_InvalidTime_InvalidText : PySem.W.kitOne K (.ref C_InvalidTime) (.ref C_InvalidText) = some false
  ki_InvalidTime_InvalidCommand : PySem.W.kitOne K (.ref C_InvalidTime) (.ref C_InvalidCommand) = some false
  ki_InvalidTime_Full : PySem.W.kitOne K (.ref C_InvalidTime) (.ref C_Full) = some false
  ki_InvalidTime_MissingDrop : PySem.W.kitOne K (.ref C_InvalidTime) (.ref C_MissingDrop) = some false
  ki_InvalidTime_Touching : PySem.W.kitOne K (.ref C_InvalidTime) (.ref C_Touching) = some false
  ki_InvalidTime_OutOfGround : PySem.W.kitOne K (.ref C_InvalidTime) (.ref C_OutOfGround) = some false
  ki_InvalidTime_Overfull : PySem.W.kitOne K (.ref C_InvalidTime) (.ref C_Overfull) = some false
  ki_InvalidTime_TrialError : PySem.W.kitOne K (.ref C_InvalidTime) (.ref C_TrialError) = some false
  ki_InvalidTime_UnknownIndex : PySem.W.kitOne K (.ref C_InvalidTime) (.ref C_UnknownIndex) = some false
  ki_InvalidTime_PoolError : PySem.W.kitOne K (.ref C_InvalidTime) (.ref C_PoolError) = some true
  ki_InvalidTime_ValueError : PySem.W.kitOne K (.ref C_InvalidTime) (.type "ValueError") = some true
  ki_InvalidTime_IndexError : PySem.W.kitOne K (.ref C_InvalidTime) (.type "IndexError") = some false
  ki_InvalidTime_KeyError : PySem.W.kitOne K (.ref C_InvalidTime) (.type "KeyError") = some false
  ki_InvalidText_InvalidNumber : PySem.W.kitOne K (.ref C_InvalidText) (.ref C_InvalidNumber) = some false
  ki_InvalidText_InvalidDrop : PySem.W.kitOne K (.ref C_InvalidText) (.ref C_InvalidDrop) = some false
  ki_InvalidText_InvalidTime : PySem.W.kitOne K (.ref C_InvalidText) (.ref C_InvalidTime) = some false
  ki_InvalidText_InvalidText : PySem.W.kitOne K (.ref C_InvalidText) (.ref C_InvalidText) = some true
  ki_InvalidText_InvalidCommand : PySem.W.kitOne K (.ref C_InvalidText) (.ref C_InvalidCommand) = some false
  ki_InvalidText_Full : PySem.W.kitOne K (.ref C_InvalidText) (.ref C_Full) = some false
  ki_InvalidText_MissingDrop : PySem.W.kitOne K (.ref C_InvalidText) (.ref C_MissingDrop) = some false
  ki_InvalidText_Touching : PySem.W.kitOne K (.ref C_InvalidText) (.ref C_Touching) = some false
  ki_InvalidText_OutOfGround : PySem.W.kitOne K (.ref C_InvalidText) (.ref C_OutOfGround) = some false
  ki_InvalidText_Overfull : PySem.W.kitOne K (.ref C_InvalidText) (.ref C_Overfull) = some false
  ki_InvalidText_TrialError : PySem.W.kitOne K (.ref C_InvalidText) (.ref C_TrialError) = some false
  ki_InvalidText_UnknownIndex : PySem.W.kitOne K (.ref C_InvalidText) (.ref C_UnknownIndex) = some false
  ki_InvalidText_PoolError : PySem.W.kitOne K (.ref C_InvalidText) (.ref C_PoolError) = some true
  ki_InvalidText_ValueError : PySem.W.kitOne K (.ref C_InvalidText) (.type "ValueError") = some true
  ki_InvalidText_IndexError : PySem.W.kitOne K (.ref C_InvalidText) (.type "IndexError") = some false
  ki_InvalidText_KeyError : PySem.W.kitOne K (.ref C_InvalidText) (.type "KeyError") = some false
  ki_InvalidCommand_InvalidNumber : PySem.W.kitOne K (.ref C_InvalidCommand) (.ref C_InvalidNumber) = some false
  ki_InvalidCommand_InvalidDrop : PySem.W.kitOne K (.ref C_InvalidCommand) (.ref C_InvalidDrop) = some false
  ki_InvalidCommand_InvalidTime : PySem.W.kitOne K (.ref C_InvalidCommand) (.ref C_InvalidTime) = some false
  ki_InvalidCommand_InvalidText : PySem.W.kitOne K (.ref C_InvalidCommand) (.ref C_InvalidText) = some false
  ki_InvalidCommand_InvalidCommand : PySem.W.kitOne K (.ref C_InvalidCommand) (.ref C_InvalidCommand) = some true
  ki_InvalidCommand_Full : PySem.W.kitOne K (.ref C_InvalidCommand) (.ref C_Full) = some false
  ki_InvalidCommand_MissingDrop : PySem.W.kitOne K (.ref C_InvalidCommand) (.ref C_MissingDrop) = some false
  ki_InvalidCommand_Touching : PySem.W.kitOne K (.ref C_InvalidCommand) (.ref C_Touching) = some false
  ki_InvalidCommand_OutOfGround : PySem.W.kitOne K (.ref C_InvalidCommand) (.ref C_OutOfGround) = some false
  ki_InvalidCommand_Overfull : PySem.W.kitOne K (.ref C_InvalidCommand) (.ref C_Overfull) = some false
  ki_InvalidCommand_TrialError : PySem.W.kitOne K (.ref C_InvalidCommand) (.ref C_TrialError) = some false
  ki_InvalidCommand_UnknownIndex : PySem.W.kitOne K (.ref C_InvalidCommand) (.ref C_UnknownIndex) = some false
  ki_InvalidCommand_PoolError : PySem.W.kitOne K (.ref C_InvalidCommand) (.ref C_PoolError) = some true
  ki_InvalidCommand_ValueError : PySem.W.kitOne K (.ref C_InvalidCommand) (.type "ValueError") = some true
  ki_InvalidCommand_IndexError : PySem.W.kitOne K (.ref C_InvalidCommand) (.type "IndexError") = some false
  ki_InvalidCommand_KeyError : PySem.W.kitOne K (.ref C_InvalidCommand) (.type "KeyError") = some false
  ki_Full_InvalidNumber : PySem.W.kitOne K (.ref C_Full) (.ref C_InvalidNumber) = some false
  ki_Full_InvalidDrop : PySem.W.kitOne K (.ref C_Full) (.ref C_InvalidDrop) = some false
  ki_Full_InvalidTime : PySem.W.kitOne K (.ref C_Full) (.ref C_InvalidTime) = some false
  ki_Full_InvalidText : PySem.W.kitOne K (.ref C_Full) (.ref C_InvalidText) = some false
  ki_Full_InvalidCommand : PySem.W.kitOne K (.ref C_Full) (.ref C_InvalidCommand) = some false
  ki_Full_Full : PySem.W.kitOne K (.ref C_Full) (.ref C_Full) = some true
  ki_Full_MissingDrop : PySem.W.kitOne K (.ref C_Full) (.ref C_MissingDrop) = some false
  ki_Full_Touching : PySem.W.kitOne K (.ref C_Full) (.ref C_Touching) = some false
  ki_Full_OutOfGround : PySem.W.kitOne K (.ref C_Full) (.ref C_OutOfGround) = some false
  ki_Full_Overfull : PySem.W.kitOne K (.ref C_Full) (.ref C_Overfull) = some false
  ki_Full_TrialError : PySem.W.kitOne K (.ref C_Full) (.ref C_TrialError) = some false
  ki_Full_UnknownIndex : PySem.W.kitOne K (.ref C_Full) (.ref C_UnknownIndex) = some false
  ki_Full_PoolError : PySem.W.kitOne K (.ref C_Full) (.ref C_PoolError) = some true
  ki_Full_ValueError : PySem.W.kitOne K (.ref C_Full) (.type "ValueError") = some true
  ki_Full_IndexError : PySem.W.kitOne K (.ref C_Full) (.type "IndexError") = some false
  ki_Full_KeyError : PySem.W.kitOne K (.ref C_Full) (.type "KeyError") = some false
  ki_MissingDrop_InvalidNumber : PySem.W.kitOne K (.ref C_MissingDrop) (.ref C_InvalidNumber) = some false
  ki_MissingDrop_InvalidDrop : PySem.W.kitOne K (.ref C_MissingDrop) (.ref C_InvalidDrop) = some false
  ki_MissingDrop_InvalidTime : PySem.W.kitOne K (.ref C_MissingDrop) (.ref C_InvalidTime) = some false
  ki_MissingDrop_InvalidText : PySem.W.kitOne K (.ref C_MissingDrop) (.ref C_InvalidText) = some false
  ki_MissingDrop_InvalidCommand : PySem.W.kitOne K (.ref C_MissingDrop) (.ref C_InvalidCommand) = some false
  ki_MissingDrop_Full : PySem.W.kitOne K (.ref C_MissingDrop) (.ref C_Full) = some false
  ki_MissingDrop_MissingDrop : PySem.W.kitOne K (.ref C_MissingDrop) (.ref C_MissingDrop) = some true
  ki_MissingDrop_Touching : PySem.W.kitOne K (.ref C_MissingDrop) (.ref C_Touching) = some false
  ki_MissingDrop_OutOfGround : PySem.W.kitOne K (.ref C_MissingDrop) (.ref C_OutOfGround) = some false
  ki_MissingDrop_Overfull : PySem.W.kitOne K (.ref C_MissingDrop) (.ref C_Overfull) = some false
  ki_MissingDrop_TrialError : PySem.W.kitOne K (.ref C_MissingDrop) (.ref C_TrialError) = some false
  ki_MissingDrop_UnknownIndex : PySem.W.kitOne K (.ref C_MissingDrop) (.ref C_UnknownIndex) = some false
  ki_MissingDrop_PoolError : PySem.W.kitOne K (.ref C_MissingDrop) (.ref C_PoolError) = some true
  ki_MissingDrop_ValueError : PySem.W.kitOne K (.ref C_MissingDrop) (.type "ValueError") = some true
  ki_MissingDrop_IndexError : PySem.W.kitOne K (.ref C_MissingDrop) (.type "IndexError") = some false
  ki_MissingDrop_KeyError : PySem.W.kitOne K (.ref C_MissingDrop) (.type "KeyError") = some false
  ki_Touching_InvalidNumber : PySem.W.kitOne K (.ref C_Touching) (.ref C_InvalidNumber) = some false
  ki_Touching_InvalidDrop : PySem.W.kitOne K (.ref C_Touching) (.ref C_InvalidDrop) = some false
  ki_Touching_InvalidTime : PySem.W.kitOne K (.ref C_Touching) (.ref C_InvalidTime) = some false
  ki_Touching_InvalidText : PySem.W.kitOne K (.ref C_Touching) (.ref C_InvalidText) = some false
  ki_Touching_InvalidCommand : PySem.W.kitOne K (.ref C_Touching) (.ref C_InvalidCommand) = some false
  ki_Touching_Full : PySem.W.kitOne K (.ref C_Touching) (.ref C_Full) = some false
  ki_Touching_MissingDrop : PySem.W.kitOne K (.ref C_Touching) (.ref C_MissingDrop) = some false
  ki_Touching_Touching : PySem.W.kitOne K (.ref C_Touching) (.ref C_Touching) = some true
  ki_Touching_OutOfGround : PySem.W.kitOne K (.ref C_Touching) (.ref C_OutOfGround) = some false
  ki_Touching_Overfull : PySem.W.kitOne K (.ref C_Touching) (.ref C_Overfull) = some false
  ki_Touching_TrialError : PySem.W.kitOne K (.ref C_Touching) (.ref C_TrialError) = some false
  ki_Touching_UnknownIndex : PySem.W.kitOne K (.ref C_Touching) (.ref C_UnknownIndex) = some false
  ki_Touching_PoolError : PySem.W.kitOne K (.ref C_Touching) (.ref C_PoolError) = some true
  ki_Touching_ValueError : PySem.W.kitOne K (.ref C_Touching) (.type "ValueError") = some true
  ki_Touching_IndexError : PySem.W.kitOne K (.ref C_Touching) (.type "IndexError") = some false
  ki_Touching_KeyError : PySem.W.kitOne K (.ref C_Touching) (.type "KeyError") = some false
  ki_OutOfGround_InvalidNumber : PySem.W.kitOne K (.ref C_OutOfGround) (.ref C_InvalidNumber) = some false
  ki_OutOfGround_InvalidDrop : PySem.W.kitOne K (.ref C_OutOfGround) (.ref C_InvalidDrop) = some false
  ki_OutOfGround_InvalidTime : PySem.W.kitOne K (.ref C_OutOfGround) (.ref C_InvalidTime) = some false
  ki_OutOfGround_InvalidText : PySem.W.kitOne K (.ref C_OutOfGround) (.ref C_InvalidText) = some false
  ki_OutOfGround_InvalidCommand : PySem.W.kitOne K (.ref C_OutOfGround) (.ref C_InvalidCommand) = some false
  ki_OutOfGround_Full : PySem.W.kitOne K (.ref C_OutOfGround) (.ref C_Full) = some false
  ki_OutOfGround_MissingDrop : PySem.W.kitOne K (.ref C_OutOfGround) (.ref C_MissingDrop) = some false
  ki_OutOfGround_Touching : PySem.W.kitOne K (.ref C_OutOfGround) (.ref C_Touching) = some false
  ki_OutOfGround_OutOfGround : PySem.W.kitOne K (.ref C_OutOfGround) (.ref C_OutOfGround) = some true
  ki_OutOfGround_Overfull : PySem.W.kitOne K (.ref C_OutOfGround) (.ref C_Overfull) = some false
  ki_OutOfGround_TrialError : PySem.W.kitOne K (.ref C_OutOfGround) (.ref C_TrialError) = some false
  ki_OutOfGround_UnknownIndex : PySem.W.kitOne K (.ref C_OutOfGround) (.ref C_UnknownIndex) = some false
  ki_OutOfGround_PoolError : PySem.W.kitOne K (.ref C_OutOfGround) (.ref C_PoolError) = some true
  ki_OutOfGround_ValueError : PySem.W.kitOne K (.ref C_OutOfGround) (.type "ValueError") = some true
  ki_OutOfGround_IndexError : PySem.W.kitOne K (.ref C_OutOfGround) (.type "IndexError") = some false
  ki_OutOfGround_KeyError : PySem.W.kitOne K (.ref C_OutOfGround) (.type "KeyError") = some false
  ki_Overfull_InvalidNumber : PySem.W.kitOne K (.ref C_Overfull) (.ref C_InvalidNumber) = some false
  ki_Overfull_InvalidDrop : PySem.W.kitOne K (.ref C_Overfull) (.ref C_InvalidDrop) = some false
  ki_Overfull_InvalidTime : PySem.W.kitOne K (.ref C_Overfull) (.ref C_InvalidTime) = some false
  ki_Overfull_InvalidText : PySem.W.kitOne K (.ref C_Overfull) (.ref C_InvalidText) = some false
  ki_Overfull_InvalidCommand : PySem.W.kitOne K (.ref C_Overfull) (.ref C_InvalidCommand) = some false
  ki_Overfull_Full : PySem.W.kitOne K (.ref C_Overfull) (.ref C_Full) = some false
  ki_Overfull_MissingDrop : PySem.W.kitOne K (.ref C_Overfull) (.ref C_MissingDrop) = some false
  ki_Overfull_Touching : PySem.W.kitOne K (.ref C_Overfull) (.ref C_Touching) = some false
  ki_Overfull_OutOfGround : PySem.W.kitOne K (.ref C_Overfull) (.ref C_OutOfGround) = some false
  ki_Overfull_Overfull : PySem.W.kitOne K (.ref C_Overfull) (.ref C_Overfull) = some true
  ki_Overfull_TrialError : PySem.W.kitOne K (.ref C_Overfull) (.ref C_TrialError) = some false
  ki_Overfull_UnknownIndex : PySem.W.kitOne K (.ref C_Overfull) (.ref C_UnknownIndex) = some false
  ki_Overfull_PoolError : PySem.W.kitOne K (.ref C_Overfull) (.ref C_PoolError) = some true
  ki_Overfull_ValueError : PySem.W.kitOne K (.ref C_Overfull) (.type "ValueError") = some true
  ki_Overfull_IndexError : PySem.W.kitOne K (.ref C_Overfull) (.type "IndexError") = some false
  ki_Overfull_KeyError : PySem.W.kitOne K (.ref C_Overfull) (.type "KeyError") = some false
  ki_TrialError_InvalidNumber : PySem.W.kitOne K (.ref C_TrialError) (.ref C_InvalidNumber) = some false
  ki_TrialError_InvalidDrop : PySem.W.kitOne K (.ref C_TrialError) (.ref C_InvalidDrop) = some false
  ki_TrialError_InvalidTime : PySem.W.kitOne K (.ref C_TrialError) (.ref C_InvalidTime) = some false
  ki_TrialError_InvalidText : PySem.W.kitOne K (.ref C_TrialError) (.ref C_InvalidText) = some false
  ki_TrialError_InvalidCommand : PySem.W.kitOne K (.ref C_TrialError) (.ref C_InvalidCommand) = some false
  ki_TrialError_Full : PySem.W.kitOne K (.ref C_TrialError) (.ref C_Full) = some false
  ki_TrialError_MissingDrop : PySem.W.kitOne K (.ref C_TrialError) (.ref C_MissingDrop) = some false
  ki_TrialError_Touching : PySem.W.kitOne K (.ref C_TrialError) (.ref C_Touching) = some false
  ki_TrialError_OutOfGround : PySem.W.kitOne K (.ref C_TrialError) (.ref C_OutOfGround) = some false
  ki_TrialError_Overfull : PySem.W.kitOne K (.ref C_TrialError) (.ref C_Overfull) = some false
  ki_TrialError_TrialError : PySem.W.kitOne K (.ref C_TrialError) (.ref C_TrialError) = some true
  ki_TrialError_UnknownIndex : PySem.W.kitOne K (.ref C_TrialError) (.ref C_UnknownIndex) = some false
  ki_TrialError_PoolError : PySem.W.kitOne K (.ref C_TrialError) (.ref C_PoolError) = some true
  ki_TrialError_ValueError : PySem.W.kitOne K (.ref C_TrialError) (.type "ValueError") = some true
  ki_TrialError_IndexError : PySem.W.kitOne K (.ref C_TrialError) (.type "IndexError") = some false
  ki_TrialError_KeyError : PySem.W.kitOne K (.ref C_TrialError) (.type "KeyError") = some false
  ki_UnknownIndex_InvalidNumber : PySem.W.kitOne K (.ref C_UnknownIndex) (.ref C_InvalidNumber) = some false
  ki_UnknownIndex_InvalidDrop : PySem.W.kitOne K (.ref C_UnknownIndex) (.ref C_InvalidDrop) = some false
  ki_UnknownIndex_InvalidTime : PySem.W.kitOne K (.ref C_UnknownIndex) (.ref C_InvalidTime) = some false
  ki_UnknownIndex_InvalidText : PySem.W.kitOne K (.ref C_UnknownIndex) (.ref C_InvalidText) = some false
  ki_UnknownIndex_InvalidCommand : PySem.W.kitOne K (.ref C_UnknownIndex) (.ref C_InvalidCommand) = some false
  ki_UnknownIndex_Full : PySem.W.kitOne K (.ref C_UnknownIndex) (.ref C_Full) = some false
  ki_UnknownIndex_MissingDrop : PySem.W.kitOne K (.ref C_UnknownIndex) (.ref C_MissingDrop) = some false
  ki_UnknownIndex_Touching : PySem.W.kitOne K (.ref C_UnknownIndex) (.ref C_Touching) = some false
  ki_UnknownIndex_OutOfGround : PySem.W.kitOne K (.ref C_UnknownIndex) (.ref C_OutOfGround) = some false
  ki_UnknownIndex_Overfull : PySem.W.kitOne K (.ref C_UnknownIndex) (.ref C_Overfull) = some false
  ki_UnknownIndex_TrialError : PySem.W.kitOne K (.ref C_UnknownIndex) (.ref C_TrialError) = some false
  ki_UnknownIndex_UnknownIndex : PySem.W.kitOne K (.ref C_UnknownIndex) (.ref C_UnknownIndex) = some true
  ki_UnknownIndex_PoolError : PySem.W.kitOne K (.ref C_UnknownIndex) (.ref C_PoolError) = some false
  ki_UnknownIndex_ValueError : PySem.W.kitOne K (.ref C_UnknownIndex) (.type "ValueError") = some false
  ki_UnknownIndex_IndexError : PySem.W.kitOne K (.ref C_UnknownIndex) (.type "IndexError") = some true
  ki_UnknownIndex_KeyError : PySem.W.kitOne K (.ref C_UnknownIndex) (.type "KeyError") = some false
  n_IndexError : mg "IndexError" = none
  n_KeyError : mg "KeyError" = none
  n_NotImplemented : mg "NotImplemented" = none
  n_ValueError : mg "ValueError" = none
  n_abs : mg "abs" = none
  n_all : mg "all" = none
  n_bool : mg "bool" = none
  n_classmethod : mg "classmethod" = none
  n_enumerate : mg "enumerate" = none
  n_int : mg "int" = none
  n_isinstance : mg "isinstance" = none
  n_len : mg "len" = none
  n_max : mg "max" = none
  n_min : mg "min" = none
  n_property : mg "property" = none
  n_range : mg "range" = none
  n_repr : mg "repr" = none
  n_str : mg "str" = none
  n_tuple : mg "tuple" = none
  n_zip : mg "zip" = none
  c_DIGITS : ∃ t, mg "DIGITS" = some (.str "0123456789" t)
  c_MOST_DIGITS : ∃ t, mg "MOST_DIGITS" = some (.int 1000 t)
section
variable {K : PySem.W.Frag} {mg : Str → Option Value} (T : Tx K mg)
theorem Tx.b_InvalidNumber_init : Binds K T.fd_InvalidNumber_init ["self", "value"] [] := (FunD.plain T.F_InvalidNumber_init).binds fun _ _ _ _ _ _ us hl => match us, hl with | [_, _], _ => rfl
theorem Tx.b_InvalidDrop_init : Binds K T.fd_InvalidDrop_init ["self", "index"] [] := (FunD.plain T.F_InvalidDrop_init).binds fun _ _ _ _ _ _ us hl => match us, hl with | [_, _], _ => rfl
theorem Tx.b_InvalidTime_init : Binds K T.fd_InvalidTime_init ["self", "time"] [] := (FunD.plain T.F_InvalidTime_init).binds fun _ _ _ _ _ _ us hl => match us, hl with | [_, _], _ => rfl
theorem Tx.b_InvalidText_init : Binds K T.fd_InvalidText_init ["self", "line"] [] := (FunD.plain T.F_InvalidText_init).binds fun _ _ _ _ _ _ us hl => match us, hl with | [_, _], _ => rfl
theorem Tx.b_InvalidCommand_init : Binds K T.fd_InvalidCommand_init ["self"] [] := (FunD.plain T.F_InvalidCommand_init).binds fun _ _ _ _ _ _ us hl => match us, hl with | [_], _ => rfl
theorem Tx.b_Full_init : Binds K T.fd_Full_init ["self", "limit"] [] := (FunD.plain T.F_Full_init).binds fun _ _ _ _ _ _ us hl => match us, hl with | [_, _], _ => rfl
theorem Tx.b_MissingDrop_init : Binds K T.fd_MissingDrop_init ["self", "spot", "amount"] [] := (FunD.plain T.F_MissingDrop_init).binds fun _ _ _ _ _ _ us hl => match us, hl with | [_, _, _], _ => rfl
theorem Tx.b_Touching_init : Binds K T.fd_Touching_init ["self", "index"] [] := (FunD.plain T.F_Touching_init).binds fun _ _ _ _ _ _ us hl => match us, hl with | [_, _], _ => rfl
theorem Tx.b_OutOfGround_init : Binds K T.fd_OutOfGround_init ["self", "spot"] [] := (FunD.plain T.F_OutOfGround_init).binds fun _ _ _ _ _ _ us hl => match us, hl with | [_, _], _ => rfl
theorem Tx.b_Overfull_init : Binds K T.fd_Overfull_init ["self", "total"] [] := (FunD.plain T.F_Overfull_init).binds fun _ _ _ _ _ _ us hl => match us, hl with | [_, _], _ => rfl
theorem Tx.b_TrialError_init : Binds K T.fd_TrialError_init ["self"] [] := (FunD.plain T.F_TrialError_init).binds fun _ _ _ _ _ _ us hl => match us, hl with | [_], _ => rfl
theorem Tx.b_UnknownIndex_init : Binds K T.fd_UnknownIndex_init ["self", "index"] [] := (FunD.plain T.F_UnknownIndex_init).binds fun _ _ _ _ _ _ us hl => match us, hl with | [_, _], _ => rfl
theorem Tx.b_common_divisor : Binds K T.fd_common_divisor ["one", "other"] [] := (FunD.plain T.F_common_divisor).binds fun _ _ _ _ _ _ us hl => match us, hl with | [_, _], _ => rfl
theorem Tx.b_Ratio_init_2 : ∃ ds, Vals (([.int 1] : List V).drop 0) ds ∧ Binds K T.fd_Ratio_init ["self", "top", "bottom"] ds := T.F_Ratio_init.binds1 2 0 (by intro z; cases z) rfl fun _ _ _ _ _ _ _ us its h1 h2 => match us, its, h1, h2 with | [_, _], [_], _, _ => ⟨_, rfl, rfl⟩
theorem Tx.b_Ratio_init : ∃ ds, Vals (([.int 1] : List V).drop 1) ds ∧ Binds K T.fd_Ratio_init ["self", "top", "bottom"] ds := T.F_Ratio_init.binds1 3 1 (by intro z; cases z) rfl fun _ _ _ _ _ _ _ us its h1 h2 => match us, its, h1, h2 with | [_, _, _], [_], _, _ => ⟨_, rfl, rfl⟩
theorem Tx.b_w_box : Binds K T.fd_w_box ["_law_script", "_law_k"] [] := (FunD.plain T.F_w_box).binds fun _ _ _ _ _ _ us hl => match us, hl with | [_, _], _ => rfl
theorem Tx.b_w_take : Binds K T.fd_w_take ["_law_box_here", "_law_many"] [] := (FunD.plain T.F_w_take).binds fun _ _ _ _ _ _ us hl => match us, hl with | [_, _], _ => rfl
theorem Tx.b_w_value : Binds K T.fd_w_value ["_law_box_here", "_law_deep"] [] := (FunD.plain T.F_w_value).binds fun _ _ _ _ _ _ us hl => match us, hl with | [_, _], _ => rfl
theorem Tx.b_w_alike : Binds K T.fd_w_alike ["_law_found", "_law_due"] [] := (FunD.plain T.F_w_alike).binds fun _ _ _ _ _ _ us hl => match us, hl with | [_, _], _ => rfl
theorem Tx.b_w_placed : Binds K T.fd_w_placed ["_law_a", "_law_b"] [] := (FunD.plain T.F_w_placed).binds fun _ _ _ _ _ _ us hl => match us, hl with | [_, _], _ => rfl
theorem Tx.b_w_named : Binds K T.fd_w_named ["_law_a", "_law_b"] [] := (FunD.plain T.F_w_named).binds fun _ _ _ _ _ _ us hl => match us, hl with | [_, _], _ => rfl
theorem Tx.b_w_kinds : Binds K T.fd_w_kinds ["_law_e"] [] := (FunD.plain T.F_w_kinds).binds fun _ _ _ _ _ _ us hl => match us, hl with | [_], _ => rfl
theorem Tx.b_w_right : Binds K T.fd_w_right ["_law_errors", "_law_told", "_law_second", "_law_a", "_law_b"] [] := (FunD.plain T.F_w_right).binds fun _ _ _ _ _ _ us hl => match us, hl with | [_, _, _, _, _], _ => rfl
abbrev Tx.f_InvalidNumber_init : Fnx := ⟨T.a_InvalidNumber_init, T.fd_InvalidNumber_init, ["self", "value"], 40⟩
abbrev Tx.f_InvalidDrop_init : Fnx := ⟨T.a_InvalidDrop_init, T.fd_InvalidDrop_init, ["self", "index"], 40⟩
abbrev Tx.f_InvalidTime_init : Fnx := ⟨T.a_InvalidTime_init, T.fd_InvalidTime_init, ["self", "time"], 40⟩
abbrev Tx.f_InvalidText_init : Fnx := ⟨T.a_InvalidText_init, T.fd_InvalidText_init, ["self", "line"], 40⟩
abbrev Tx.f_InvalidCommand_init : Fnx := ⟨T.a_InvalidCommand_init, T.fd_InvalidCommand_init, ["self"], 40⟩
abbrev Tx.f_Full_init : Fnx := ⟨T.a_Full_init, T.fd_Full_init, ["self", "limit"], 40⟩
abbrev Tx.f_MissingDrop_init : Fnx := ⟨T.a_MissingDrop_init, T.fd_MissingDrop_init, ["self", "spot", "amount"], 40⟩
abbrev Tx.f_Touching_init : Fnx := ⟨T.a_Touching_init, T.fd_Touching_init, ["self", "index"], 40⟩
abbrev Tx.f_OutOfGround_init : Fnx := ⟨T.a_OutOfGround_init, T.fd_OutOfGround_init, ["self", "spot"], 40⟩
abbrev Tx.f_Overfull_init : Fnx := ⟨T.a_Overfull_init, T.fd_Overfull_init, ["self", "total"], 40⟩
abbrev Tx.f_TrialError_init : Fnx := ⟨T.a_TrialError_init, T.fd_TrialError_init, ["self"], 40⟩
abbrev Tx.f_UnknownIndex_init : Fnx := ⟨T.a_UnknownIndex_init, T.fd_UnknownIndex_init, ["self", "index"], 40⟩
abbrev Tx.f_is_integer : Fnx := ⟨T.a_is_integer, T.fd_is_integer, ["value"], 1⟩
abbrev Tx.f_is_number : Fnx := ⟨T.a_is_number, T.fd_is_number, ["value"], 2⟩
abbrev Tx.f_as_ratio : Fnx := ⟨T.a_as_ratio, T.fd_as_ratio, ["value"], 5⟩
abbrev Tx.f_common_divisor : Fnx := ⟨T.a_common_divisor, T.fd_common_divisor, ["one", "other"], 1⟩
abbrev Tx.f_Ratio_init : Fnx := ⟨T.a_Ratio_init, T.fd_Ratio_init, ["self", "top", "bottom"], 3⟩
abbrev Tx.f_w_box : Fnx := ⟨T.a_w_box, T.fd_w_box, ["_law_script", "_law_k"], 100⟩
abbrev Tx.f_w_take : Fnx := ⟨T.a_w_take, T.fd_w_take, ["_law_box_here", "_law_many"], 100⟩
abbrev Tx.f_w_value : Fnx := ⟨T.a_w_value, T.fd_w_value, ["_law_box_here", "_law_deep"], 101⟩
abbrev Tx.f_w_alike : Fnx := ⟨T.a_w_alike, T.fd_w_alike, ["_law_found", "_law_due"], 100⟩
abbrev Tx.f_w_placed : Fnx := ⟨T.a_w_placed, T.fd_w_placed, ["_law_a", "_law_b"], 100⟩
abbrev Tx.f_w_named : Fnx := ⟨T.a_w_named, T.fd_w_named, ["_law_a", "_law_b"], 100⟩
abbrev Tx.f_w_kinds : Fnx := ⟨T.a_w_kinds, T.fd_w_kinds, ["_law_e"], 100⟩
abbrev Tx.f_w_right : Fnx := ⟨T.a_w_right, T.fd_w_right, ["_law_errors", "_law_told", "_law_second", "_law_a", "_law_b"], 101⟩
abbrev Tx.f_law : Fnx := ⟨T.a_law, T.fd_law, ["_law_script"], 102⟩
end
end PM

set_option Elab.async false
set_option linter.all false
set_option maxRecDepth 100000
set_option maxHeartbeats 4000000
namespace PM
open PySem L2 PyProof.Rows
set_option hygiene false
local macro_rules | `(tactic| fail "E") => `(tactic| ((with_reducible refine hdm ?_); fail "m"))
local macro_rules | `(tactic| fail "E") => `(tactic| ((with_reducible refine hda ?_); fail "a"))
local macro_rules | `(tactic| fail "E") => `(tactic| ((with_reducible refine hdn ?_); fail "n"))
local macro_rules | `(tactic| fail "E") => `(tactic| ((with_reducible refine hdc ?_); fail "c"))
local macro_rules | `(tactic| fail "E") => `(tactic| refine wE_if ?_)
local macro_rules | `(tactic| fail "E") => `(tactic| refine wE_un ?_)
local macro_rules | `(tactic| fail "E") => `(tactic| refine wE_one ?_)
local macro_rules | `(tactic| fail "E") => `(tactic| refine wE_or ?_)
local macro_rules | `(tactic| fail "E") => `(tactic| refine wE_and ?_)
local macro_rules | `(tactic| fail "E") => `(tactic| refine wE_not ?_)
local macro_rules | `(tactic| fail "E") => `(tactic| refine wE_non ?_)
local macro_rules | `(tactic| fail "E") => `(tactic| refine wE_bl ?_)
local macro_rules | `(tactic| fail "E") => `(tactic| refine wE_str ?_)
local macro_rules | `(tactic| fail "E") => `(tactic| refine wE_lst ?_)
local macro_rules | `(tactic| fail "E") => `(tactic| refine wE_tup ?_)
local macro_rules | `(tactic| fail "E") => `(tactic| refine wE_cmp ?_)
local macro_rules | `(tactic| fail "E") => `(tactic| refine wE_sub ?_)
local macro_rules | `(tactic| fail "E") => `(tactic| refine wE_bin ?_)
local macro_rules | `(tactic| fail "E") => `(tactic| refine wE_int ?_)
local macro_rules | `(tactic| fail "E") => `(tactic| (refine wE_name gn ?_; (repeat (first | with_reducible refine wGt_z ?_ | with_reducible refine wGt_c ?_ | with_reducible refine wGt_s ?_ | with_reducible refine wGt_f ?_)); fail_if_success refine wGt_chk ?_))
local macro_rules | `(tactic| fail "B") => `(tactic| with_reducible refine wB_pow18 ?_)
local macro_rules | `(tactic| fail "B") => `(tactic| with_reducible refine wB_pow9 ?_)
local macro_rules | `(tactic| fail "B") => `(tactic| with_reducible refine wB_pow8 ?_)
local macro_rules | `(tactic| fail "B") => `(tactic| with_reducible refine wB_pow7 ?_)
local macro_rules | `(tactic| fail "B") => `(tactic| with_reducible refine wB_pow6 ?_)
local macro_rules | `(tactic| fail "B") => `(tactic| with_reducible refine wB_pow5 ?_)
local macro_rules | `(tactic| fail "B") => `(tactic| with_reducible refine wB_isNot ?_)
local macro_rules | `(tactic| fail "B") => `(tactic| with_reducible refine wB_is ?_)
local macro_rules | `(tactic| fail "B") => `(tactic| with_reducible refine wB_neB ?_)
local macro_rules | `(tactic| fail "B") => `(tactic| with_reducible refine wB_eqB ?_)
local macro_rules | `(tactic| fail "B") => `(tactic| with_reducible refine wB_neT ?_)
local macro_rules | `(tactic| fail "B") => `(tactic| with_reducible refine wB_eqT ?_)
local macro_rules | `(tactic| fail "B") => `(tactic| with_reducible refine wB_ne ?_)
local macro_rules | `(tactic| fail "B") => `(tactic| with_reducible refine wB_eq ?_)
local macro_rules | `(tactic| fail "B") => `(tactic| with_reducible refine wB_ge ?_)
local macro_rules | `(tactic| fail "B") => `(tactic| with_reducible refine wB_gt ?_)
local macro_rules | `(tactic| fail "B") => `(tactic| with_reducible refine wB_le ?_)
local macro_rules | `(tactic| fail "B") => `(tactic| with_reducible refine wB_lt ?_)
local macro_rules | `(tactic| fail "B") => `(tactic| ((with_reducible refine wB_fdivB ?qc ?_); (case qc => exact ⟨by (first | with_reducible assumption | omega), by (first | with_reducible assumption | omega)⟩)))
local macro_rules | `(tactic| fail "B") => `(tactic| ((with_reducible refine wB_fdivS ?qc ?_); (case qc => exact ⟨by (first | with_reducible assumption | omega), by (first | with_reducible assumption | omega)⟩)))
local macro_rules | `(tactic| fail "B") => `(tactic| ((with_reducible refine wB_mod ?qc ?_); (case qc => (first | with_reducible assumption | omega))))
local macro_rules | `(tactic| fail "B") => `(tactic| ((with_reducible refine wB_mulB ?qc ?_); (case qc => exact ⟨⟨by (first | with_reducible assumption | omega), by (first | with_reducible assumption | omega)⟩, ⟨by (first | with_reducible assumption | omega), by (first | with_reducible assumption | omega)⟩⟩)))
local macro_rules | `(tactic| fail "B") => `(tactic| ((with_reducible refine wB_mulL ?qc ?_); (case qc => exact ⟨by (first | with_reducible assumption | omega), by (first | with_reducible assumption | omega)⟩)))
local macro_rules | `(tactic| fail "B") => `(tactic| ((with_reducible refine wB_mulR ?qc ?_); (case qc => exact ⟨by (first | with_reducible assumption | omega), by (first | with_reducible assumption | omega)⟩)))
local macro_rules | `(tactic| fail "B") => `(tactic| with_reducible refine wB_sub ?_)
local macro_rules | `(tactic| fail "B") => `(tactic| with_reducible refine wB_add ?_)
local macro_rules | `(tactic| fail "B") => `(tactic| ((with_reducible refine wB_cube ?qc ?_); (case qc => exact ⟨by (first | with_reducible assumption | omega), by (first | with_reducible assumption | omega)⟩)))
local macro_rules | `(tactic| fail "B") => `(tactic| ((with_reducible refine wB_sq ?qc ?_); (case qc => exact ⟨by (first | with_reducible assumption | omega), by (first | with_reducible assumption | omega)⟩)))
local macro_rules | `(tactic| fail "F") => `(tactic| with_reducible refine wF_min g.toGd ?_)
local macro_rules | `(tactic| fail "F") => `(tactic| with_reducible refine wF_max g.toGd ?_)
local macro_rules | `(tactic| fail "F") => `(tactic| with_reducible refine wF_abs ?_)
local macro_rules | `(tactic| fail "F") => `(tactic| with_reducible refine wF_boolB ?_)
local macro_rules | `(tactic| fail "F") => `(tactic| with_reducible refine wF_intB ?_)
local macro_rules | `(tactic| fail "F") => `(tactic| ((with_reducible refine chkB "len" ?_); refine wF_len (by (first | exact .inl rfl | exact .inr (.inl rfl) | exact .inr (.inr (.inl rfl)) | exact .inr (.inr (.inr ⟨_, rfl, by (first | assumption | with_reducible exact at_last | with_reducible exact at_new rfl | with_reducible exact at_left (by assumption) | with_reducible exact List.getElem?_set_self (by assumption) | with_reducible exact at_left (at_left (by assumption)))⟩)))) ?_))
local macro_rules | `(tactic| fail "F") => `(tactic| with_reducible refine wF_isTT ?_)
local macro_rules | `(tactic| fail "X") => `(tactic| (refine wX_ints (by (first | exact .inl rfl | exact .inr (.inl rfl) | exact .inr (.inr (.inl rfl)) | exact .inr (.inr (.inr ⟨_, rfl, by (first | assumption | with_reducible exact at_last | with_reducible exact at_new rfl | with_reducible exact at_left (by assumption) | with_reducible exact List.getElem?_set_self (by assumption) | with_reducible exact at_left (at_left (by assumption)))⟩)))) (by (repeat (first | exact Ints.nil | apply Ints.cons))) (by (first | with_reducible assumption | omega)) (by (simp only [List.length_cons, List.length_nil]; omega)) ?_; intro v hv; simp only [List.mem_cons, List.not_mem_nil, or_false] at hv))
local macro_rules | `(tactic| fail "X") => `(tactic| refine wX_at (by (first | exact .inl rfl | exact .inr (.inl rfl) | exact .inr (.inr (.inl rfl)) | exact .inr (.inr (.inr ⟨_, rfl, by (first | assumption | with_reducible exact at_last | with_reducible exact at_new rfl | with_reducible exact at_left (by assumption) | with_reducible exact List.getElem?_set_self (by assumption) | with_reducible exact at_left (at_left (by assumption)))⟩)))) rfl ?_)
local macro_rules | `(tactic| fail "X") => `(tactic| refine wX_if2 (by (first | exact .inl rfl | exact .inr (.inl rfl) | exact .inr (.inr (.inl rfl)) | exact .inr (.inr (.inr ⟨_, rfl, by (first | assumption | with_reducible exact at_last | with_reducible exact at_new rfl | with_reducible exact at_left (by assumption) | with_reducible exact List.getElem?_set_self (by assumption) | with_reducible exact at_left (at_left (by assumption)))⟩)))) ?_)
local macro_rules | `(tactic| fail "X") => `(tactic| refine wX_if2I (by (first | exact .inl rfl | exact .inr (.inl rfl) | exact .inr (.inr (.inl rfl)) | exact .inr (.inr (.inr ⟨_, rfl, by (first | assumption | with_reducible exact at_last | with_reducible exact at_new rfl | with_reducible exact at_left (by assumption) | with_reducible exact List.getElem?_set_self (by assumption) | with_reducible exact at_left (at_left (by assumption)))⟩)))) ?_)
local macro_rules | `(tactic| fail "A") => `(tactic| refine wA_nil ?_)
local macro_rules | `(tactic| fail "A") => `(tactic| refine wA_cons ?_)
local macro_rules | `(tactic| fail "C") => `(tactic| refine wC_val ?_)
local macro_rules | `(tactic| fail "C") => `(tactic| refine wC_bool ?_)
local macro_rules | `(tactic| fail "C") => `(tactic| refine wC_not ?_)
local macro_rules | `(tactic| fail "C") => `(tactic| refine wC_cmp2 ?_)
local macro_rules | `(tactic| fail "C") => `(tactic| refine wC_cmp ?_)
local macro_rules | `(tactic| fail "W") => `(tactic| refine wCw_or1 ?_)
local macro_rules | `(tactic| fail "W") => `(tactic| refine wCw_and1 ?_)
local macro_rules | `(tactic| fail "W") => `(tactic| refine wCw_or ?_)
local macro_rules | `(tactic| fail "W") => `(tactic| refine wCw_and ?_)
local macro_rules | `(tactic| fail "U") => `(tactic| with_reducible refine wU_neg ?_)
local macro_rules | `(tactic| fail "P") => `(tactic| with_reducible refine wPt_s ?_)
local macro_rules | `(tactic| fail "P") => `(tactic| with_reducible refine wPt_c ?_)
local macro_rules | `(tactic| fail "P") => `(tactic| with_reducible refine wPt_z ?_)
local macro_rules | `(tactic| fail "G") => `(tactic| refine wG_name gn ?_)
local macro_rules | `(tactic| fail "G") => `(tactic| refine wG_tup g.calm ?_)
local macro_rules | `(tactic| fail "H") => `(tactic| refine wGs_nil ?_)
local macro_rules | `(tactic| fail "H") => `(tactic| refine wGs_cons ?_)
local macro_rules | `(tactic| fail "S") => `(tactic| refine wS_pass ?_)
local macro_rules | `(tactic| fail "S") => `(tactic| refine wS_asg ?_)
local macro_rules | `(tactic| fail "S") => `(tactic| refine wS_ix ?_)
local macro_rules | `(tactic| fail "S") => `(tactic| refine wS_expr ?_)
local macro_rules | `(tactic| fail "S") => `(tactic| refine wS_if ?_)
local macro_rules | `(tactic| fail "S") => `(tactic| refine wS_ret ?_)
local macro_rules | `(tactic| fail "S") => `(tactic| (refine wS_par3 g ?qa ?_; (case qa => exact ⟨_, _, _, by (repeat (first | with_reducible exact Il.z | with_reducible apply Il.s)), by (repeat (first | with_reducible exact Il.z | with_reducible apply Il.s)), by (repeat (first | with_reducible exact Il.z | with_reducible apply Il.s)), by decide, by decide, by decide⟩)))
local macro_rules | `(tactic| fail "S") => `(tactic| (refine wS_par g ?qa ?_; (case qa => exact ⟨_, _, by (repeat (first | with_reducible exact Il.z | with_reducible apply Il.s)), by (repeat (first | with_reducible exact Il.z | with_reducible apply Il.s)), by decide⟩)))
local macro_rules | `(tactic| fail "S") => `(tactic| (refine wS_set gn ?qa ?_; (case qa => exact ⟨_, by (repeat (first | with_reducible exact Ix.z | with_reducible exact Ix.c | with_reducible apply Ix.s))⟩)))
local macro_rules | `(tactic| fail "L") => `(tactic| refine wSs_nil ?_)
local macro_rules | `(tactic| fail "c") => `(tactic| ((with_reducible refine chkC "sum" ?_); refine xE_blt gn ?qa T.n_sum boot_sum ?_; (case qa => (repeat (first | with_reducible exact In.z | with_reducible apply In.s)))))
local macro_rules | `(tactic| fail "c") => `(tactic| ((with_reducible refine chkC "any" ?_); refine xE_blt gn ?qa T.n_any boot_any ?_; (case qa => (repeat (first | with_reducible exact In.z | with_reducible apply In.s)))))
local macro_rules | `(tactic| fail "c") => `(tactic| ((with_reducible refine chkC "all" ?_); refine xE_blt gn ?qa T.n_all boot_all ?_; (case qa => (repeat (first | with_reducible exact In.z | with_reducible apply In.s)))))
local macro_rules | `(tactic| fail "c") => `(tactic| ((with_reducible refine chkC "bool" ?_); refine xE_bcl gn ?qa T.n_bool boot_bool ?_; (case qa => (repeat (first | with_reducible exact In.z | with_reducible apply In.s)))))
local macro_rules | `(tactic| fail "c") => `(tactic| ((with_reducible refine chkC "list" ?_); refine xE_bcl gn ?qa T.n_list boot_list ?_; (case qa => (repeat (first | with_reducible exact In.z | with_reducible apply In.s)))))
local macro_rules | `(tactic| fail "c") => `(tactic| ((with_reducible refine chkC "tuple" ?_); refine xE_bcl gn ?qa T.n_tuple boot_tuple ?_; (case qa => (repeat (first | with_reducible exact In.z | with_reducible apply In.s)))))
local macro_rules | `(tactic| fail "c") => `(tactic| ((with_reducible refine chkC "isinstance" ?_); refine xE_blt gn ?qa T.n_isinstance boot_isinstance ?_; (case qa => (repeat (first | with_reducible exact In.z | with_reducible apply In.s)))))
local macro_rules | `(tactic| fail "c") => `(tactic| ((with_reducible refine chkC "repr" ?_); refine xE_blt gn ?qa T.n_repr boot_repr ?_; (case qa => (repeat (first | with_reducible exact In.z | with_reducible apply In.s)))))
local macro_rules | `(tactic| fail "c") => `(tactic| ((with_reducible refine chkC "str" ?_); refine xE_bcl gn ?qa T.n_str boot_str ?_; (case qa => (repeat (first | with_reducible exact In.z | with_reducible apply In.s)))))
local macro_rules | `(tactic| fail "c") => `(tactic| ((with_reducible refine chkC "min" ?_); refine xE_blt gn ?qa T.n_min boot_min ?_; (case qa => (repeat (first | with_reducible exact In.z | with_reducible apply In.s)))))
local macro_rules | `(tactic| fail "c") => `(tactic| ((with_reducible refine chkC "max" ?_); refine xE_blt gn ?qa T.n_max boot_max ?_; (case qa => (repeat (first | with_reducible exact In.z | with_reducible apply In.s)))))
local macro_rules | `(tactic| fail "c") => `(tactic| ((with_reducible refine chkC "abs" ?_); refine xE_blt gn ?qa T.n_abs boot_abs ?_; (case qa => (repeat (first | with_reducible exact In.z | with_reducible apply In.s)))))
local macro_rules | `(tactic| fail "c") => `(tactic| ((with_reducible refine chkC "int" ?_); refine xE_bcl gn ?qa T.n_int boot_int ?_; (case qa => (repeat (first | with_reducible exact In.z | with_reducible apply In.s)))))
local macro_rules | `(tactic| fail "c") => `(tactic| ((with_reducible refine chkC "len" ?_); refine xE_blt gn ?qa T.n_len boot_len ?_; (case qa => (repeat (first | with_reducible exact In.z | with_reducible apply In.s)))))
local macro_rules | `(tactic| fail "n") => `(tactic| ((with_reducible refine chkN "list" ?_); refine xE_bty gn ?qa T.n_list boot_list ?_; (case qa => (repeat (first | with_reducible exact In.z | with_reducible apply In.s)))))
local macro_rules | `(tactic| fail "n") => `(tactic| ((with_reducible refine chkN "tuple" ?_); refine xE_bty gn ?qa T.n_tuple boot_tuple ?_; (case qa => (repeat (first | with_reducible exact In.z | with_reducible apply In.s)))))
local macro_rules | `(tactic| fail "n") => `(tactic| ((with_reducible refine chkN "str" ?_); refine xE_bty gn ?qa T.n_str boot_str ?_; (case qa => (repeat (first | with_reducible exact In.z | with_reducible apply In.s)))))
local macro_rules | `(tactic| fail "n") => `(tactic| ((with_reducible refine chkN "bool" ?_); refine xE_bty gn ?qa T.n_bool boot_bool ?_; (case qa => (repeat (first | with_reducible exact In.z | with_reducible apply In.s)))))
local macro_rules | `(tactic| fail "n") => `(tactic| ((with_reducible refine chkN "int" ?_); refine xE_bty gn ?qa T.n_int boot_int ?_; (case qa => (repeat (first | with_reducible exact In.z | with_reducible apply In.s)))))
local macro_rules | `(tactic| fail "O") => `(tactic| refine Exists.intro _ (Exists.intro _ (Exists.intro _ (Exists.intro _ (And.intro rfl (And.intro rfl (And.intro (by (first | assumption | with_reducible exact at_last | with_reducible exact at_new rfl | with_reducible exact at_left (by assumption) | with_reducible exact List.getElem?_set_self (by assumption) | with_reducible exact at_left (at_left (by assumption)))) (And.intro rfl ?_))))))))
local macro_rules | `(tactic| fail "O") => `(tactic| refine Exists.intro _ (Exists.intro _ (Exists.intro _ (And.intro rfl ?_))))
local macro_rules | `(tactic| fail "O") => `(tactic| refine Exists.intro _ (Exists.intro _ (And.intro rfl ?_)))
local macro_rules | `(tactic| fail "O") => `(tactic| refine And.intro (by (simp only [List.length_cons, List.length_nil]; decide)) ?_)
local macro_rules | `(tactic| fail "O") => `(tactic| refine Exists.intro _ (And.intro rfl ?_))
local macro_rules | `(tactic| fail "I") => `(tactic| ((with_reducible refine hdN2 ?_); (refine iteFT ?_); fail "o"))
local macro_rules | `(tactic| fail "I") => `(tactic| ((with_reducible refine hdN2 ?_); (refine iteTT ?_); fail "o"))
local macro_rules | `(tactic| fail "I") => `(tactic| ((with_reducible refine hdN1 ?_); (refine iteFT ?_); fail "o"))
local macro_rules | `(tactic| fail "I") => `(tactic| ((with_reducible refine hdN1 ?_); (refine iteTT ?_); fail "o"))
local macro_rules | `(tactic| fail "I") => `(tactic| ((with_reducible refine iteNF ?_); fail "o"))
local macro_rules | `(tactic| fail "I") => `(tactic| ((with_reducible refine iteNT ?_); fail "o"))
local macro_rules | `(tactic| fail "I") => `(tactic| ((with_reducible refine iteFT ?_); fail "o"))
local macro_rules | `(tactic| fail "I") => `(tactic| ((with_reducible refine iteTT ?_); fail "o"))
local macro_rules | `(tactic| fail "J") => `(tactic| ((with_reducible refine hdN2 ?_); (refine iteFT ?_); fail "st"))
local macro_rules | `(tactic| fail "J") => `(tactic| ((with_reducible refine hdN2 ?_); (refine iteTT ?_); fail "st"))
local macro_rules | `(tactic| fail "J") => `(tactic| ((with_reducible refine hdN1 ?_); (refine iteFT ?_); fail "st"))
local macro_rules | `(tactic| fail "J") => `(tactic| ((with_reducible refine hdN1 ?_); (refine iteTT ?_); fail "st"))
local macro_rules | `(tactic| fail "J") => `(tactic| ((with_reducible refine iteNF ?_); fail "st"))
local macro_rules | `(tactic| fail "J") => `(tactic| ((with_reducible refine iteNT ?_); fail "st"))
local macro_rules | `(tactic| fail "J") => `(tactic| ((with_reducible refine iteFT ?_); fail "st"))
local macro_rules | `(tactic| fail "J") => `(tactic| ((with_reducible refine iteTT ?_); fail "st"))
local macro_rules | `(tactic| fail "su") => `(tactic| ((with_reducible refine hdL ?_); fail "L"))
local macro_rules | `(tactic| fail "su") => `(tactic| ((with_reducible refine hdS ?_); fail "S"))
local macro_rules | `(tactic| fail "p") => `(tactic| fail "O")
local macro_rules | `(tactic| fail "p") => `(tactic| ((with_reducible refine hdH ?_); fail "H"))
local macro_rules | `(tactic| fail "p") => `(tactic| ((with_reducible refine hdG ?_); fail "G"))
local macro_rules | `(tactic| fail "p") => `(tactic| ((with_reducible refine hdP ?_); fail "P"))
local macro_rules | `(tactic| fail "p") => `(tactic| ((with_reducible refine hdU ?_); fail "U"))
local macro_rules | `(tactic| fail "p") => `(tactic| ((with_reducible refine hdW ?_); fail "W"))
local macro_rules | `(tactic| fail "p") => `(tactic| ((with_reducible refine hdC ?_); fail "C"))
local macro_rules | `(tactic| fail "p") => `(tactic| ((with_reducible refine hdX ?_); fail "X"))
local macro_rules | `(tactic| fail "p") => `(tactic| ((with_reducible refine hdF ?_); fail "F"))
local macro_rules | `(tactic| fail "p") => `(tactic| ((with_reducible refine hdB ?_); fail "B"))
local macro_rules | `(tactic| fail "p") => `(tactic| ((with_reducible refine hdA ?_); fail "A"))
local macro_rules | `(tactic| fail "p") => `(tactic| ((with_reducible refine hdE ?_); fail "E"))
local macro_rules | `(tactic| fail "st") => `(tactic| ((with_reducible refine hdI ?_); fail "J"))
local macro_rules | `(tactic| fail "st") => `(tactic| ((fail_if_success (with_reducible refine hdI ?_)); fail "su"))
local macro_rules | `(tactic| fail "o") => `(tactic| ((with_reducible refine hdI ?_); fail "I"))
local macro_rules | `(tactic| fail "o") => `(tactic| ((fail_if_success (with_reducible refine hdI ?_)); fail "p"))
local macro_rules | `(tactic| walk_at "in") => `(tactic| (repeat (first | with_reducible exact In.z | with_reducible apply In.s)))
local macro_rules | `(tactic| walk_at "at") => `(tactic| (first | assumption | with_reducible exact at_last | with_reducible exact at_new rfl | with_reducible exact at_left (by assumption) | with_reducible exact List.getElem?_set_self (by assumption) | with_reducible exact at_left (at_left (by assumption))))
local macro_rules | `(tactic| walk_at "ixd") => `(tactic| (first | exact .inl rfl | exact .inr (.inl rfl) | exact .inr (.inr (.inl rfl)) | exact .inr (.inr (.inr ⟨_, rfl, by (first | assumption | with_reducible exact at_last | with_reducible exact at_new rfl | with_reducible exact at_left (by assumption) | with_reducible exact List.getElem?_set_self (by assumption) | with_reducible exact at_left (at_left (by assumption)))⟩))))
local macro_rules | `(tactic| walk_at "ints") => `(tactic| (repeat (first | exact Ints.nil | apply Ints.cons)))
local macro_rules | `(tactic| walk_at "num") => `(tactic| (first | with_reducible assumption | omega))
local macro_rules | `(tactic| walk_at "nm") => `(tactic| (first | exact Num.rt _ | exact Num.int _ | assumption))
local macro_rules | `(tactic| walk_at "fit") => `(tactic| (first | with_reducible assumption | exact Fit.mono (by (repeat' (first | with_reducible assumption | with_reducible exact fit_two | with_reducible apply fit_add | with_reducible apply fit_sub | with_reducible apply fit_mul | with_reducible apply fit_half | with_reducible apply fit_rabs | with_reducible apply fit_neg))) (by decide) | exact Fit.mono (n := 64) (fit_int (by omega) (by decide)) (by decide)))
local macro_rules | `(tactic| walk_at "ix") => `(tactic| (repeat (first | with_reducible exact Ix.z | with_reducible exact Ix.c | with_reducible apply Ix.s)))
local macro_rules | `(tactic| walk_at "il") => `(tactic| (repeat (first | with_reducible exact Il.z | with_reducible apply Il.s)))
local macro_rules | `(tactic| walk_at "one") => `(tactic| first | fail "o" | fail "st" | refine wSs_cons ?_)
local macro_rules | `(tactic| walk_at "wp") => `(tactic| repeat (first | fail "o" | fail "st" | refine wSs_cons ?_))
local macro_rules | `(tactic| walk_at "s1") => `(tactic| (refine wSs_cons ?_; repeat (first | fail "o" | fail "st")))
local macro_rules | `(tactic| walk_at "e") => `(tactic| repeat (fail "o"))
local macro_rules | `(tactic| walk_at "start") => `(tactic| (intro ρ hρ cdv A outer s H E g; simp only [startD, List.map_cons, List.map_nil, List.length_cons, List.length_nil, List.replicate_succ, List.replicate_zero, List.cons_append, List.nil_append, Nat.reduceAdd, Nat.reduceSub] at hρ; subst hρ; have gn := g.toNx'))
local macro_rules | `(tactic| walk_at "suite") => `(tactic| (intro a dd oe pn hz hv gn ρs hρ; simp only [List.set_cons_succ, List.set_cons_zero] at hρ; subst hρ))
local macro_rules | `(tactic| walk_at "after") => `(tactic| (intro ρs hρ; simp only [List.set_cons_succ, List.set_cons_zero] at hρ; subst hρ))
local macro_rules | `(tactic| walk_at "blk") => `(tactic| (intro s H C cl fp g; have gn := g.toNx'))

section
set_option hygiene false
local macro_rules | `(tactic| fail "n") => `(tactic| ((with_reducible refine chkN "Ratio" ?_); refine xE_cls gn ?qa T.g_Ratio ?_; (case qa => (repeat (first | with_reducible exact In.z | with_reducible apply In.s)))))
local macro_rules | `(tactic| fail "n") => `(tactic| ((with_reducible refine chkN "UnknownIndex" ?_); refine xE_cls gn ?qa T.g_UnknownIndex ?_; (case qa => (repeat (first | with_reducible exact In.z | with_reducible apply In.s)))))
local macro_rules | `(tactic| fail "n") => `(tactic| ((with_reducible refine chkN "TrialError" ?_); refine xE_cls gn ?qa T.g_TrialError ?_; (case qa => (repeat (first | with_reducible exact In.z | with_reducible apply In.s)))))
local macro_rules | `(tactic| fail "n") => `(tactic| ((with_reducible refine chkN "Overfull" ?_); refine xE_cls gn ?qa T.g_Overfull ?_; (case qa => (repeat (first | with_reducible exact In.z | with_reducible apply In.s)))))
local macro_rules | `(tactic| fail "n") => `(tactic| ((with_reducible refine chkN "OutOfGround" ?_); refine xE_cls gn ?qa T.g_OutOfGround ?_; (case qa => (repeat (first | with_reducible exact In.z | with_reducible apply In.s)))))
local macro_rules | `(tactic| fail "n") => `(tactic| ((with_reducible refine chkN "Touching" ?_); refine xE_cls gn ?qa T.g_Touching ?_; (case qa => (repeat (first | with_reducible exact In.z | with_reducible apply In.s)))))
local macro_rules | `(tactic| fail "n") => `(tactic| ((with_reducible refine chkN "MissingDrop" ?_); refine xE_cls gn ?qa T.g_MissingDrop ?_; (case qa => (repeat (first | with_reducible exact In.z | with_reducible apply In.s)))))
local macro_rules | `(tactic| fail "n") => `(tactic| ((with_reducible refine chkN "Full" ?_); refine xE_cls gn ?qa T.g_Full ?_; (case qa => (repeat (first | with_reducible exact In.z | with_reducible apply In.s)))))
local macro_rules | `(tactic| fail "n") => `(tactic| ((with_reducible refine chkN "InvalidCommand" ?_); refine xE_cls gn ?qa T.g_InvalidCommand ?_; (case qa => (repeat (first | with_reducible exact In.z | with_reducible apply In.s)))))
local macro_rules | `(tactic| fail "n") => `(tactic| ((with_reducible refine chkN "InvalidText" ?_); refine xE_cls gn ?qa T.g_InvalidText ?_; (case qa => (repeat (first | with_reducible exact In.z | with_reducible apply In.s)))))
local macro_rules | `(tactic| fail "n") => `(tactic| ((with_reducible refine chkN "InvalidTime" ?_); refine xE_cls gn ?qa T.g_InvalidTime ?_; (case qa => (repeat (first | with_reducible exact In.z | with_reducible apply In.s)))))
local macro_rules | `(tactic| fail "n") => `(tactic| ((with_reducible refine chkN "InvalidDrop" ?_); refine xE_cls gn ?qa T.g_InvalidDrop ?_; (case qa => (repeat (first | with_reducible exact In.z | with_reducible apply In.s)))))
local macro_rules | `(tactic| fail "n") => `(tactic| ((with_reducible refine chkN "InvalidNumber" ?_); refine xE_cls gn ?qa T.g_InvalidNumber ?_; (case qa => (repeat (first | with_reducible exact In.z | with_reducible apply In.s)))))
local macro_rules | `(tactic| fail "n") => `(tactic| ((with_reducible refine chkN "PoolError" ?_); refine xE_cls gn ?qa T.g_PoolError ?_; (case qa => (repeat (first | with_reducible exact In.z | with_reducible apply In.s)))))
section
variable {P : Program} {w : World} {K : PySem.W.Frag} {mg : Str → Option Value} {base : Heap} (T : Tx K mg)
/-- a draw: any number below m -/
theorem sp_take {μ : List M} {n : Nat} {m : Int} {Q : KV} {Z : KX} (hb : μ[n]? = some .box) (h0 : 0 < m) (h1 : m < 2 ^ 64) (h : ∀ d, 0 ≤ d → d < m → Q (.int d) μ) : SpF P w K mg base T.f_w_take [.loc n, .int m] μ Q Z := by
  refine spX_of T.F_w_take sc_w_take ck_w_take rfl ?_
  walk_at "start"
  refine wSs.some (S := fun μ1 => ∃ i j k, μ1 = μ.set n (bxI i j k)) ?_ fun K L G H o => let ⟨i, j, k, o'⟩ := (List.append_nil μ ▸ o).unbox hb; ⟨_, ⟨i, j, k, rfl⟩, o'⟩
  rintro _ ⟨i, j, k, rfl⟩
  have hn : n < μ.length := (List.getElem?_eq_some_iff.mp hb).1
  have fin : ∀ d i j k, 0 ≤ d → d < m → RetOk μ Q (.int d) (μ.set n (bxI i j k)) := fun d i j k q1 q2 => .le (le_box hb) (.same (h d q1 q2))
  walk_at "wp"
  refine br_dec (fun hi => ?_) (fun hi => ?_)
  · walk_at "wp"
    first | refine wB_fdiv ⟨h0, Nat.lt_trans (log2_lt (show m.natAbs < 2 ^ 64 by omega) (by decide)) (by decide)⟩ ?_ | skip
    walk_at "wp"
    rw [List.set_set]
    exact fin _ _ _ _ (Int.emod_nonneg _ (by omega)) (Int.emod_lt_of_pos _ h0)
  · walk_at "wp"
    rw [List.set_set]
    walk_at "wp"
    rw [List.set_set]
    walk_at "wp"
    refine br_dec (fun hm => ?_) (fun hm => ?_)
    · walk_at "wp"
      exact fin _ _ _ _ (Int.emod_nonneg _ (by omega)) (Int.emod_lt_of_pos _ h0)
    · walk_at "wp"
      exact fin _ _ _ _ (Int.emod_nonneg _ (by omega)) (Int.emod_lt_of_pos _ h0)
/-- a new box -/
theorem sp_box {μ : List M} {ns : List Int} {k : Int} {Q : KV} {Z : KX} (h0 : 0 ≤ k) (h1 : k < 1000) (h : Q (.loc μ.length) (μ ++ [.box])) : SpF P w K mg base T.f_w_box [.scr (ns.map D.int), .int k] μ Q Z := by
  refine spX_of T.F_w_box sc_w_box ck_w_box rfl ?_
  walk_at "start"
  have fin : ∀ d i j k, d = .loc (μ ++ ([] : List M)).length → RetOk μ Q d ((μ ++ []) ++ [bxI i j k]) := fun d i j k e => by
    subst e
    rw [List.append_nil]
    exact .le le_newbox (.same h)
  have rest : ∀ c : Int, ∀ {κ : Ks} {nx : KN}, κ.rt = RetOk μ Q → wSs (cxOf (L2.CX P w) P w K mg base n_w_box "_law_box" (defScope s_w_box) T.a_w_box cdv A outer s H E) (fun c d _ H => E c d H) [some (.scr (ns.map D.int)), some (.int k), some (.int c), none] (μ ++ []) ((defBody s_w_box).drop 2) nx κ := by
    intro c κ nx hκ
    walk_at "s1"
    refine wSs_cons (wS_ret ?_)
    rw [hκ]
    refine wE_lstL ?_
    walk_at "e"
    exact fin _ _ _ _ rfl
  walk_at "s1"
  walk_at "s1"
  have ln : (ns.map D.int).length = ns.length := by simp
  rw [ln]
  refine br_dec (fun hk => ?_) (fun hk => ?_)
  · walk_at "s1"
    refine wX_some (by walk_at "ixd") h0 (by rw [ln]; exact hk) fun n d e _ => ?_
    rw [List.getElem?_map] at e
    obtain ⟨i, _, rfl⟩ := Option.map_eq_some_iff.mp e
    walk_at "e"
    refine wSs_nil ?_
    exact rest i (by rfl)
  · walk_at "s1"
    rw [ln]
    refine br_dec (fun hl => ?_) (fun hl => ?_)
    · walk_at "s1"
      rw [ln]
      walk_at "e"
      refine wX_some (by walk_at "ixd") (Int.emod_nonneg _ (by omega)) (by rw [ln]; exact Int.emod_lt_of_pos _ hl) fun n d e _ => ?_
      rw [List.getElem?_map] at e
      obtain ⟨i, _, rfl⟩ := Option.map_eq_some_iff.mp e
      walk_at "e"
      refine wSs_nil (wSs_nil ?_)
      exact rest _ (by rfl)
    · refine wSs_nil (wSs_nil ?_)
      exact rest _ (by rfl)
end
end

section
set_option Elab.async false
set_option linter.all false
set_option maxRecDepth 100000
set_option maxHeartbeats 4000000
open PySem L2 PyProof.Rows
/-- a ratio -/
def rt (C : Addr) (q : Rat) : D := .obj C ["top", "bottom"] [.int q.num, .int q.den]
/-- values that are known: whether they are numbers -/
inductive Kn (K : PySem.W.Frag) (C : Addr) : D → Bool → Prop
  | int (i : Int) : Kn K C (.int i) true
  | rt (q : Rat) : Kn K C (rt C q) true
  | non : Kn K C .non false
  | bl (b : Bool) : Kn K C (.bl b) false
  | str (x : Str) : Kn K C (.str x) false
  | tup (ds : List D) : Kn K C (.tup ds) false
  | lst (ds : List D) : Kn K C (.lst ds) false
  | obj {C' : Addr} (ns : List Str) (ds : List D) : OwnC K C' → C' ≠ C → Kn K C (.obj C' ns ds) false
/-- numbers -/
inductive Num (C : Addr) : D → Rat → Prop
  | int (i : Int) : Num C (.int i) (i : Rat)
  | rt (q : Rat) : Num C (rt C q) q
def isRt (C : Addr) : D → Bool
  | .obj C' _ _ => decide (C' = C)
  | _ => false
def isI : D → Bool
  | .int _ => true
  | _ => false
def isB : D → Bool
  | .bl _ => true
  | _ => false
theorem Kn.ty {K : PySem.W.Frag} {C : Addr} {d : D} {b : Bool} (c : OwnC K C) (h : Kn K C d b) : ∃ t, TyD K d t ∧ PySem.W.kitOne K t (.ref C) = some (isRt C d) ∧ PySem.W.kitOne K t (.type "int") = some (isI d || isB d) ∧ PySem.W.kitOne K t (.type "bool") = some (isB d) := by
  cases h with
  | int i => exact ⟨_, .int, kit_ty_own c mro_int rfl, rfl, rfl⟩
  | rt q => exact ⟨_, .obj c, by simp only [PM.rt, isRt, decide_true]; exact kit_own_self, kit_own_ty c (by decide) (by decide), kit_own_ty c (by decide) (by decide)⟩
  | non => exact ⟨_, .non, kit_ty_own c mro_non rfl, rfl, rfl⟩
  | bl b => exact ⟨_, .bl, kit_ty_own c mro_bool rfl, rfl, rfl⟩
  | str x => exact ⟨_, .str, kit_ty_own c mro_str rfl, rfl, rfl⟩
  | tup ds => exact ⟨_, .tup, kit_ty_own c mro_tup rfl, rfl, rfl⟩
  | lst ds => exact ⟨_, .lst, kit_ty_own c mro_lst rfl, rfl, rfl⟩
  | obj ns ds c' ne => exact ⟨_, .obj c', by simp only [isRt, ne, decide_false]; exact kit_own_own c' c ne, kit_own_ty c' (by decide) (by decide), kit_own_ty c' (by decide) (by decide)⟩
theorem Kn.num {K : PySem.W.Frag} {C : Addr} {d : D} {b : Bool} (h : Kn K C d b) : b = (isRt C d || isI d) := by
  cases h with
  | rt q => simp [PM.rt, isRt]
  | obj ns ds c' ne => simp [isRt, isI, ne]
  | _ => rfl
section
variable {P : Program} {w : World} {K : PySem.W.Frag} {mg : Str → Option Value} {base : Heap} (T : Tx K mg)
def R_is_integer (T : Tx K mg) : Rl := fun ds μ o => ∃ d b, ds = [d] ∧ Kn K T.C_Ratio d b ∧ o = .ret (.bl (isI d)) μ
def R_is_number (T : Tx K mg) : Rl := fun ds μ o => ∃ d b, ds = [d] ∧ Kn K T.C_Ratio d b ∧ o = .ret (.bl b) μ
end
end


section
set_option Elab.async false
set_option linter.all false
set_option maxRecDepth 100000
set_option maxHeartbeats 4000000
open PySem L2 PyProof.Rows
section
variable {P : Program} {w : World} {K : PySem.W.Frag} {mg : Str → Option Value} {base : Heap} (T : Tx K mg)
def R_gcd : Rl := fun ds μ o => ∃ a b : Nat, ds = [.int a, .int b] ∧ o = .ret (.int (Nat.gcd a b : Nat)) μ
theorem ok_common_divisor : FnG P w K mg base 1 T.a_common_divisor T.fd_common_divisor ["one", "other"] (spR K R_gcd) := by
  refine fnR T.F_common_divisor sc_common_divisor (fun ds μ o ⟨d, b, e, _⟩ => by rw [e]; rfl) fun cdv A outer s H E g ds μ o h => ?_
  obtain ⟨a, b, rfl, rfl⟩ := h
  refine ⟨_, .ret0, ess_cons (es_whileM (S := Nat × Nat) (fun s => [some (.int s.1), some (.int s.2)]) (fun _ => μ) (fun s => s.2) (fun s => decide (0 < (s.2 : Int))) (fun s => (s.2, s.1 % s.2)) (fun s => (Nat.gcd s.1 s.2, 0)) g (a, b)
    (fun s => et_cmp (ev_var 1 rfl) ev_int oc_gt) (fun s hs => ?_) (fun s hs => ?_) (fun s hs => ?_) (fun s hs => ?_)) (ess_one (es_retV (ev_var 0 rfl)))⟩
  · refine ess_one ?_
    rw [Int.natCast_emod]
    exact es_par 0 1 g (ev_cons (ev_var 1 rfl) (ev_cons (ev_opI (ev_var 0 rfl) (ev_var 1 rfl) (oo_mod (of_decide_eq_true hs))) ev_nil))
  · have := of_decide_eq_true hs
    exact Nat.mod_lt _ (by omega)
  · have h0 := of_decide_eq_false hs
    have : s.2 = 0 := by omega
    obtain ⟨x, y⟩ := s
    simp only at this
    subst this
    simp
  · obtain ⟨x, y⟩ := s
    simp only [Prod.mk.injEq, and_true]
    rw [Nat.gcd_comm x y, Nat.gcd_rec y x, Nat.gcd_comm]
theorem err_InvalidNumber : ErrC P w K mg base T.C_InvalidNumber ["value"] :=
  ⟨T.oex_InvalidNumber, _, _, _, _, T.i_InvalidNumber, T.t_InvalidNumber, fn_I1 (f := "value") (FunD.plain T.F_InvalidNumber_init) sc_InvalidNumber_init T.oex_InvalidNumber T.na_InvalidNumber_value (fun cdv A outer s H E => pss_cons (ps_expr (pe_upinit rfl T.g_PoolError T.up_PoolError (pa_cons (pv 0) pa_nil))) (pss_one (ps_ost (pv 0) (pv 1)))), T.b_InvalidNumber_init, .inl ⟨_, rfl, rfl⟩⟩
/-- Ratio.__init__ -/
def R_init (T : Tx K mg) : Rl := fun ds μ o => ∃ n t b, ds = [.loc n, .int t, .int b] ∧ μ[n]? = some (.ins T.C_Ratio [] []) ∧
  ((b = 0 ∧ o = .exc T.C_InvalidNumber ["value"] [.int 0] μ) ∨ (b ≠ 0 ∧ b.natAbs < 2 ^ 9000 ∧ o = .ret .non (μ.set n (.ins T.C_Ratio ["top", "bottom"] [.int (Rat.divInt t b).num, .int (Rat.divInt t b).den]))))
theorem gcd_fits {t b : Int} (hb : 0 < b) (h : b.natAbs < 2 ^ 9000) : CDivW t (Nat.gcd t.natAbs b.natAbs : Nat) := by
  have h0 : 0 < Nat.gcd t.natAbs b.natAbs := Nat.gcd_pos_of_pos_right _ (by omega)
  refine ⟨by omega, ?_⟩
  exact log2_lt (Nat.lt_of_le_of_lt (Nat.gcd_le_right _ (by omega)) h) (by decide)
theorem ok_Ratio_init : FnG P w K mg base 3 T.a_Ratio_init T.fd_Ratio_init ["self", "top", "bottom"] (spR K (R_init T)) := by
  refine fnR T.F_Ratio_init sc_Ratio_init (fun ds μ o ⟨n, t, b, e, _⟩ => by rw [e]; rfl) fun cdv A outer s H E g ds μ o h => ?_
  obtain ⟨n, t, b, rfl, hn, h⟩ := h
  rcases h with ⟨hb, rfl⟩ | ⟨hb, hz, rfl⟩
  · exact ⟨_, .exc0, ess_stop (es_ifT (et_cmp (ev_var 2 rfl) ev_int oc_eq) (decide_eq_true hb) (ess_one (es_raise g (err_InvalidNumber T) T.g_InvalidNumber (ev_cons ev_int ev_nil) rfl))) trivial⟩
  · have rest : ∀ t' b' : Int, 0 < b' → b'.natAbs < 2 ^ 9000 → Rat.divInt t' b' = Rat.divInt t b → PSs (cxOf (L2.CX P w) P w K mg base n_Ratio_init "Ratio.__init__" (defScope s_Ratio_init) T.a_Ratio_init cdv A outer s H E) ((defBody s_Ratio_init).drop 2)
        (tS (fun c d _ H => E c d H) K [some (.loc n), some (.int t'), some (.int b'), none] μ (.next [some (.loc n), some (.int t'), some (.int b'), some (.int (Nat.gcd t'.natAbs b'.natAbs : Nat))] (μ.set n (.ins T.C_Ratio ["top", "bottom"] [.int (Rat.divInt t b).num, .int (Rat.divInt t b).den])))) := by
      intro t' b' h0 hz' he
      have e2 : (b' : Int) = (b'.natAbs : Int) := by omega
      refine ess_cons (es_setV 3 g.nd (ev_callV g ⟨ok_common_divisor T, T.b_common_divisor⟩ T.g_common_divisor T.F_common_divisor.kp (ev_cons (ev_bltV (ev_cons (ev_var 1 rfl) ev_nil) cb_abs T.n_abs boot_abs) (ev_cons (ev_var 2 rfl) ev_nil)) ⟨t'.natAbs, b'.natAbs, by rw [← e2, show (if t' < 0 then -t' else t') = (t'.natAbs : Int) by split <;> omega], rfl⟩)) ?_
      refine ess_cons (es_fld (i := n) (ev_opI (ev_var 1 rfl) (ev_var 3 rfl) (oo_fdiv (gcd_fits h0 hz'))) (ev_var 0 rfl) hn T.own_Ratio.cl T.na_Ratio_top) ?_
      refine ess_one (es_eq (es_fld (i := n) (ev_opI (ev_var 2 rfl) (ev_var 3 rfl) (oo_fdiv (gcd_fits h0 hz'))) (ev_var 0 rfl) (by rw [List.getElem?_set_self (List.getElem?_eq_some_iff.mp hn).1]) T.own_Ratio.cl T.na_Ratio_bottom) ?_)
      rw [← he, divInt_num h0, divInt_den h0, List.set_set]
      rfl
    refine ⟨.next [some (.loc n), some (.int (if b < 0 then -t else t)), some (.int (if b < 0 then -b else b)), some (.int (Nat.gcd (if b < 0 then -t else t).natAbs (if b < 0 then -b else b).natAbs : Nat))] _, .next0, ess_cons (es_ifF (et_cmp (ev_var 2 rfl) ev_int oc_eq) (decide_eq_false hb) ess_nil) ?_⟩
    by_cases hn0 : b < 0
    · simp only [hn0, if_true]
      refine ess_cons (es_ifT (et_cmp (ev_var 2 rfl) ev_int oc_lt) (decide_eq_true hn0) (ess_one (es_par 1 2 g (ev_cons (ev_unI (ev_var 1 rfl) ou_neg) (ev_cons (ev_unI (ev_var 2 rfl) ou_neg) ev_nil))))) ?_
      exact rest (-t) (-b) (by omega) (by omega) (Rat.neg_divInt_neg t b)
    · simp only [hn0, if_false]
      exact ess_cons (es_ifF (et_cmp (ev_var 2 rfl) ev_int oc_lt) (decide_eq_false hn0) ess_nil) (rest t b (by omega) hz rfl)
end
end


section
set_option Elab.async false
set_option linter.all false
set_option maxRecDepth 100000
set_option maxHeartbeats 4000000
set_option exponentiation.threshold 20000
open PySem L2 PyProof.Rows
theorem lt_pow_mono {a n m : Nat} (h : a < 2 ^ n) (l : n ≤ m) : a < 2 ^ m := Nat.lt_of_lt_of_le h (Nat.pow_le_pow_right (by decide) l)
theorem Fit.n {n : Nat} {q : Rat} (h : Fit n q) : q.num.natAbs < 2 ^ n := h.1
theorem Fit.d {n : Nat} {q : Rat} (h : Fit n q) : (q.den : Int).natAbs < 2 ^ n := h.2
theorem dm_ne (q r : Rat) : (q.den : Int) * r.den ≠ 0 := Int.mul_ne_zero (by have := q.den_pos; omega) (by have := r.den_pos; omega)
theorem fit_int {n : Nat} {i : Int} (h : i.natAbs < 2 ^ n) (hn : 0 < n) : Fit n (i : Rat) := ⟨h, by
  show 1 < 2 ^ n
  exact Nat.one_lt_two_pow (by omega)⟩
theorem fit_neg {n : Nat} {q : Rat} (h : Fit n q) : Fit n (-q) := ⟨by rw [Rat.neg_num, Int.natAbs_neg]; exact h.1, h.2⟩
theorem fit_mul {n m : Nat} {q r : Rat} (h1 : Fit n q) (h2 : Fit m r) : Fit (n + m) (q * r) := by
  rw [mul_rt]
  refine fit_divInt ?_ ?_ (dm_ne q r)
  · rw [Int.natAbs_mul]; exact mul_lt_pow h1.n h2.n
  · rw [Int.natAbs_mul]; exact mul_lt_pow h1.d h2.d
section
variable {K : PySem.W.Frag} {mg : Str → Option Value} (T : Tx K mg)
theorem mkR {t b : Int} {μ : List M} (hb : b ≠ 0) (hz : b.natAbs < 2 ^ 9000) : MakeR (R_init T) T.C_Ratio [.int t, .int b] μ (.ret (rt T.C_Ratio (Rat.divInt t b)) μ) := by
  refine .obj (ns := ["top", "bottom"]) (fs := [.int (Rat.divInt t b).num, .int (Rat.divInt t b).den]) ⟨μ.length, t, b, rfl, by simp, .inr ⟨hb, hz, ?_⟩⟩ (.refl _) rfl rfl
  rw [List.set_append_right _ _ (Nat.le_refl _)]
  simp
theorem Tx.bR3 : Binds K T.fd_Ratio_init ["self", "top", "bottom"] [] := by
  obtain ⟨ds, h1, h2⟩ := T.b_Ratio_init
  cases h1
  exact h2
end
section
variable {X : Cx} {W : WX} {k : Nat} {T : Tx X.K X.mg} {ρ : Env'} {μ μ1 μ2 : List M} {a b e : Expr} {p pos : Pos} {d : D} {q r : Rat} {t u : Int}
end
section
variable {P : Program} {w : World} {K : PySem.W.Frag} {mg : Str → Option Value} {base : Heap} (T : Tx K mg)
def R_as_ratio (T : Tx K mg) : Rl := fun ds μ o => ∃ d, ds = [d] ∧ ((∃ q, Num T.C_Ratio d q ∧ o = .ret (rt T.C_Ratio q) μ) ∨ (Kn K T.C_Ratio d false ∧ o = .exc T.C_InvalidNumber ["value"] [d] μ))
end
end


section
set_option Elab.async false
set_option linter.all false
set_option maxRecDepth 100000
set_option maxHeartbeats 4000000
set_option exponentiation.threshold 20000
open PySem L2 PyProof.Rows
section
variable {X : Cx} {W : WX} {k : Nat} {T : Tx X.K X.mg} {ρ : Env'} {μ : List M} {e : Expr} {pos : Pos} {d : D} {q r : Rat} {t u : Int} {Q : KV} {Z : KX}
/-- Ratio(t, u), Ratio(t) -/
theorem wF_R2 (T : Tx X.K X.mg) (g : Gd X W k) (hb : u ≠ 0) (hz : u.natAbs < 2 ^ 9000) (h : Q (rt T.C_Ratio (Rat.divInt t u)) μ) (hk : 4 ≤ k := by decide) : wF X W (fun us => call (.ref T.C_Ratio) us) [.int t, .int u] μ Q Z :=
  .of (o := .ret _ _) (makeO (dvs := []) (dds := []) T.mk_Ratio (ok_Ratio_init T) T.bR3 .nil (fun _ _ => Reps.nil) g hk (by exact mkR T hb hz)) h
theorem int_divInt (t : Int) : (t : Rat) = Rat.divInt t 1 := by rw [Rat.divInt_eq_div, Rat.intCast_one]; grind
theorem wF_R1 (T : Tx X.K X.mg) (g : Gd X W k) (h : Q (rt T.C_Ratio (t : Rat)) μ) (hk : 4 ≤ k := by decide) : wF X W (fun us => call (.ref T.C_Ratio) us) [.int t] μ Q Z := by
  obtain ⟨ds, q1, q2⟩ := T.b_Ratio_init_2
  rw [int_divInt] at h
  exact .of (o := .ret _ _) (makeO (dds := [.int 1]) T.mk_Ratio (ok_Ratio_init T) q2 q1 (fun _ _ => Reps.cons (rep_int.mpr rfl) Reps.nil) g hk (by exact mkR T (by decide) (by decide))) h
/-- q.top, q.bottom -/
theorem wE_top (T : Tx X.K X.mg) (h : wE X W ρ μ e (fun d μ1 => ∃ q, d = rt T.C_Ratio q ∧ Q (.int q.num) μ1) Z) (hb : attributeBase e "top" X.env (eval e X.env) = eval e X.env := by rfl) : wE X W ρ μ (.Attribute e "top" pos) Q Z :=
  wE_fld (h.imp fun d μ1 ⟨q, ed, hq⟩ => ⟨_, _, .inl ed, _, rfl, hq⟩) T.own_Ratio.cl T.na_Ratio_top hb
theorem wE_bot (T : Tx X.K X.mg) (h : wE X W ρ μ e (fun d μ1 => ∃ q, d = rt T.C_Ratio q ∧ Q (.int q.den) μ1) Z) (hb : attributeBase e "bottom" X.env (eval e X.env) = eval e X.env := by rfl) : wE X W ρ μ (.Attribute e "bottom" pos) Q Z :=
  wE_fld (h.imp fun d μ1 ⟨q, ed, hq⟩ => ⟨_, _, .inl ed, _, rfl, hq⟩) T.own_Ratio.cl T.na_Ratio_bottom hb
theorem wF_isRt {C : Addr} (c : OwnC X.K C) (h : Q (.bl true) μ) : wF X W (fun us => call (.builtin "isinstance") us) [rt C q, .ref C] μ Q Z := by
  obtain ⟨t, ty, h0, _, _⟩ := (Kn.rt (K := X.K) (C := C) q).ty c
  refine wF_isi ty (.own _) h0 ?_
  simp only [rt, isRt, decide_true]
  exact h
/-- isinstance of plain values and built-in classes -/
theorem wF_isII (h : Q (.bl true) μ) : wF X W (fun us => call (.builtin "isinstance") us) [.int t, .ty "int"] μ Q Z := wF_isi .int (.ty "int") rfl h
theorem wF_isIB (h : Q (.bl false) μ) : wF X W (fun us => call (.builtin "isinstance") us) [.int t, .ty "bool"] μ Q Z := wF_isi .int (.ty "bool") rfl h
theorem wF_isBB {b : Bool} (h : Q (.bl true) μ) : wF X W (fun us => call (.builtin "isinstance") us) [.bl b, .ty "bool"] μ Q Z := wF_isi .bl (.ty "bool") rfl h
end
end


section
set_option Elab.async false
set_option linter.all false
set_option maxRecDepth 100000
set_option maxHeartbeats 4000000
open PySem L2 PyProof.Rows
section
variable {P : Program} {w : World} {K : PySem.W.Frag} {mg : Str → Option Value} {base : Heap} (T : Tx K mg)
theorem mk_InvalidNumber : MkE P w K mg base T.C_InvalidNumber T.fd_InvalidNumber_init ["self", "value"] ["value"] :=
  ⟨.inl T.oex_InvalidNumber, _, _, T.i_InvalidNumber, T.t_InvalidNumber, fn_I1 (f := "value") (FunD.plain T.F_InvalidNumber_init) sc_InvalidNumber_init T.oex_InvalidNumber T.na_InvalidNumber_value (fun cdv A outer s H E => pss_cons (ps_expr (pe_upinit rfl T.g_PoolError T.up_PoolError (pa_cons (pv 0) pa_nil))) (pss_one (ps_ost (pv 0) (pv 1)))), .one _⟩
theorem kb_InvalidNumber : KwB K T.fd_InvalidNumber_init ["self", "value"] 1 ["value"] (0 :: [0].map (· + 1)) where
  to := by
    obtain ⟨oc, od, dV, kV, doc, pm, an, cdv, ct, osl, e, look, hcode, hD, _⟩ := T.F_InvalidNumber_init.ex
    rcases hD with ⟨_, rfl⟩ | ⟨z, _⟩
    · intro s us ws X h1 h2
      rw [e]
      match us, ws, h1, h2 with
      | [u], [v0], _, _ => exact .of_eq rfl
    · exact (z rfl).elim
  le := by decide
theorem mk_InvalidDrop : MkE P w K mg base T.C_InvalidDrop T.fd_InvalidDrop_init ["self", "index"] ["index"] :=
  ⟨.inl T.oex_InvalidDrop, _, _, T.i_InvalidDrop, T.t_InvalidDrop, fn_I1 (f := "index") (FunD.plain T.F_InvalidDrop_init) sc_InvalidDrop_init T.oex_InvalidDrop T.na_InvalidDrop_index (fun cdv A outer s H E => pss_cons (ps_expr (pe_upinit rfl T.g_PoolError T.up_PoolError (pa_cons (pv 0) pa_nil))) (pss_one (ps_ost (pv 0) (pv 1)))), .one _⟩
theorem kb_InvalidDrop : KwB K T.fd_InvalidDrop_init ["self", "index"] 1 ["index"] (0 :: [0].map (· + 1)) where
  to := by
    obtain ⟨oc, od, dV, kV, doc, pm, an, cdv, ct, osl, e, look, hcode, hD, _⟩ := T.F_InvalidDrop_init.ex
    rcases hD with ⟨_, rfl⟩ | ⟨z, _⟩
    · intro s us ws X h1 h2
      rw [e]
      match us, ws, h1, h2 with
      | [u], [v0], _, _ => exact .of_eq rfl
    · exact (z rfl).elim
  le := by decide
theorem mk_InvalidTime : MkE P w K mg base T.C_InvalidTime T.fd_InvalidTime_init ["self", "time"] ["time"] :=
  ⟨.inl T.oex_InvalidTime, _, _, T.i_InvalidTime, T.t_InvalidTime, fn_I1 (f := "time") (FunD.plain T.F_InvalidTime_init) sc_InvalidTime_init T.oex_InvalidTime T.na_InvalidTime_time (fun cdv A outer s H E => pss_cons (ps_expr (pe_upinit rfl T.g_PoolError T.up_PoolError (pa_cons (pv 0) pa_nil))) (pss_one (ps_ost (pv 0) (pv 1)))), .one _⟩
theorem kb_InvalidTime : KwB K T.fd_InvalidTime_init ["self", "time"] 1 ["time"] (0 :: [0].map (· + 1)) where
  to := by
    obtain ⟨oc, od, dV, kV, doc, pm, an, cdv, ct, osl, e, look, hcode, hD, _⟩ := T.F_InvalidTime_init.ex
    rcases hD with ⟨_, rfl⟩ | ⟨z, _⟩
    · intro s us ws X h1 h2
      rw [e]
      match us, ws, h1, h2 with
      | [u], [v0], _, _ => exact .of_eq rfl
    · exact (z rfl).elim
  le := by decide
theorem mk_InvalidText : MkE P w K mg base T.C_InvalidText T.fd_InvalidText_init ["self", "line"] ["line"] :=
  ⟨.inl T.oex_InvalidText, _, _, T.i_InvalidText, T.t_InvalidText, fn_I1 (f := "line") (FunD.plain T.F_InvalidText_init) sc_InvalidText_init T.oex_InvalidText T.na_InvalidText_line (fun cdv A outer s H E => pss_cons (ps_expr (pe_upinit rfl T.g_PoolError T.up_PoolError (pa_cons (pv 0) pa_nil))) (pss_one (ps_ost (pv 0) (pv 1)))), .one _⟩
theorem kb_InvalidText : KwB K T.fd_InvalidText_init ["self", "line"] 1 ["line"] (0 :: [0].map (· + 1)) where
  to := by
    obtain ⟨oc, od, dV, kV, doc, pm, an, cdv, ct, osl, e, look, hcode, hD, _⟩ := T.F_InvalidText_init.ex
    rcases hD with ⟨_, rfl⟩ | ⟨z, _⟩
    · intro s us ws X h1 h2
      rw [e]
      match us, ws, h1, h2 with
      | [u], [v0], _, _ => exact .of_eq rfl
    · exact (z rfl).elim
  le := by decide
theorem mk_Full : MkE P w K mg base T.C_Full T.fd_Full_init ["self", "limit"] ["limit"] :=
  ⟨.inl T.oex_Full, _, _, T.i_Full, T.t_Full, fn_I1 (f := "limit") (FunD.plain T.F_Full_init) sc_Full_init T.oex_Full T.na_Full_limit (fun cdv A outer s H E => pss_cons (ps_expr (pe_upinit rfl T.g_PoolError T.up_PoolError (pa_cons (pv 0) pa_nil))) (pss_one (ps_ost (pv 0) (pv 1)))), .one _⟩
theorem kb_Full : KwB K T.fd_Full_init ["self", "limit"] 1 ["limit"] (0 :: [0].map (· + 1)) where
  to := by
    obtain ⟨oc, od, dV, kV, doc, pm, an, cdv, ct, osl, e, look, hcode, hD, _⟩ := T.F_Full_init.ex
    rcases hD with ⟨_, rfl⟩ | ⟨z, _⟩
    · intro s us ws X h1 h2
      rw [e]
      match us, ws, h1, h2 with
      | [u], [v0], _, _ => exact .of_eq rfl
    · exact (z rfl).elim
  le := by decide
theorem mk_Touching : MkE P w K mg base T.C_Touching T.fd_Touching_init ["self", "index"] ["index"] :=
  ⟨.inl T.oex_Touching, _, _, T.i_Touching, T.t_Touching, fn_I1 (f := "index") (FunD.plain T.F_Touching_init) sc_Touching_init T.oex_Touching T.na_Touching_index (fun cdv A outer s H E => pss_cons (ps_expr (pe_upinit rfl T.g_PoolError T.up_PoolError (pa_cons (pv 0) pa_nil))) (pss_one (ps_ost (pv 0) (pv 1)))), .one _⟩
theorem kb_Touching : KwB K T.fd_Touching_init ["self", "index"] 1 ["index"] (0 :: [0].map (· + 1)) where
  to := by
    obtain ⟨oc, od, dV, kV, doc, pm, an, cdv, ct, osl, e, look, hcode, hD, _⟩ := T.F_Touching_init.ex
    rcases hD with ⟨_, rfl⟩ | ⟨z, _⟩
    · intro s us ws X h1 h2
      rw [e]
      match us, ws, h1, h2 with
      | [u], [v0], _, _ => exact .of_eq rfl
    · exact (z rfl).elim
  le := by decide
theorem mk_OutOfGround : MkE P w K mg base T.C_OutOfGround T.fd_OutOfGround_init ["self", "spot"] ["spot"] :=
  ⟨.inl T.oex_OutOfGround, _, _, T.i_OutOfGround, T.t_OutOfGround, fn_I1 (f := "spot") (FunD.plain T.F_OutOfGround_init) sc_OutOfGround_init T.oex_OutOfGround T.na_OutOfGround_spot (fun cdv A outer s H E => pss_cons (ps_expr (pe_upinit rfl T.g_PoolError T.up_PoolError (pa_cons (pv 0) pa_nil))) (pss_one (ps_ost (pv 0) (pv 1)))), .one _⟩
theorem kb_OutOfGround : KwB K T.fd_OutOfGround_init ["self", "spot"] 1 ["spot"] (0 :: [0].map (· + 1)) where
  to := by
    obtain ⟨oc, od, dV, kV, doc, pm, an, cdv, ct, osl, e, look, hcode, hD, _⟩ := T.F_OutOfGround_init.ex
    rcases hD with ⟨_, rfl⟩ | ⟨z, _⟩
    · intro s us ws X h1 h2
      rw [e]
      match us, ws, h1, h2 with
      | [u], [v0], _, _ => exact .of_eq rfl
    · exact (z rfl).elim
  le := by decide
theorem mk_Overfull : MkE P w K mg base T.C_Overfull T.fd_Overfull_init ["self", "total"] ["total"] :=
  ⟨.inl T.oex_Overfull, _, _, T.i_Overfull, T.t_Overfull, fn_I1 (f := "total") (FunD.plain T.F_Overfull_init) sc_Overfull_init T.oex_Overfull T.na_Overfull_total (fun cdv A outer s H E => pss_cons (ps_expr (pe_upinit rfl T.g_PoolError T.up_PoolError (pa_cons (pv 0) pa_nil))) (pss_one (ps_ost (pv 0) (pv 1)))), .one _⟩
theorem kb_Overfull : KwB K T.fd_Overfull_init ["self", "total"] 1 ["total"] (0 :: [0].map (· + 1)) where
  to := by
    obtain ⟨oc, od, dV, kV, doc, pm, an, cdv, ct, osl, e, look, hcode, hD, _⟩ := T.F_Overfull_init.ex
    rcases hD with ⟨_, rfl⟩ | ⟨z, _⟩
    · intro s us ws X h1 h2
      rw [e]
      match us, ws, h1, h2 with
      | [u], [v0], _, _ => exact .of_eq rfl
    · exact (z rfl).elim
  le := by decide
theorem mk_MissingDrop : MkE P w K mg base T.C_MissingDrop T.fd_MissingDrop_init ["self", "spot", "amount"] ["spot", "amount"] :=
  ⟨.inl T.oex_MissingDrop, _, _, T.i_MissingDrop, T.t_MissingDrop, fn_I2 (f := "spot") (g := "amount") (FunD.plain T.F_MissingDrop_init) sc_MissingDrop_init T.oex_MissingDrop T.na_MissingDrop_spot T.na_MissingDrop_amount (fun cdv A outer s H E => pss_cons (ps_expr (pe_upinit rfl T.g_PoolError T.up_PoolError (pa_cons (pv 0) pa_nil))) (pss_cons (ps_ost (pv 0) (pv 1)) (pss_one (ps_ost (pv 0) (pv 2))))), .two _ _⟩
theorem kb_MissingDrop : KwB K T.fd_MissingDrop_init ["self", "spot", "amount"] 1 ["amount", "spot"] (0 :: [1, 0].map (· + 1)) where
  to := by
    obtain ⟨oc, od, dV, kV, doc, pm, an, cdv, ct, osl, e, look, hcode, hD, _⟩ := T.F_MissingDrop_init.ex
    rcases hD with ⟨_, rfl⟩ | ⟨z, _⟩
    · intro s us ws X h1 h2
      rw [e]
      match us, ws, h1, h2 with
      | [u], [v0, v1], _, _ => exact .of_eq rfl
    · exact (z rfl).elim
  le := by decide
theorem mk_InvalidCommand : MkE P w K mg base T.C_InvalidCommand T.fd_InvalidCommand_init ["self"] [] :=
  ⟨.inl T.oex_InvalidCommand, _, _, T.i_InvalidCommand, T.t_InvalidCommand, fn_I0 (FunD.plain T.F_InvalidCommand_init) sc_InvalidCommand_init T.oex_InvalidCommand (fun cdv A outer s H E => pss_one (ps_expr (pe_upinit rfl T.g_PoolError T.up_PoolError (pa_cons (pv 0) pa_nil)))), .zero⟩
theorem mk_TrialError : MkE P w K mg base T.C_TrialError T.fd_TrialError_init ["self"] [] :=
  ⟨.inl T.oex_TrialError, _, _, T.i_TrialError, T.t_TrialError, fn_I0 (FunD.plain T.F_TrialError_init) sc_TrialError_init T.oex_TrialError (fun cdv A outer s H E => pss_one (ps_expr (pe_upinit rfl T.g_PoolError T.up_PoolError (pa_cons (pv 0) pa_nil)))), .zero⟩
theorem mk_UnknownIndex : MkE P w K mg base T.C_UnknownIndex T.fd_UnknownIndex_init ["self", "index"] ["index"] :=
  ⟨.inr T.oex_UnknownIndex, _, _, T.i_UnknownIndex, T.t_UnknownIndex, fn_II (f := "index") (FunD.plain T.F_UnknownIndex_init) sc_UnknownIndex_init T.oex_UnknownIndex T.na_UnknownIndex_index (fun cdv A outer s H E => pss_cons (ps_expr (pe_ieinit rfl T.n_IndexError T.vi_IndexError (pa_cons (pv 0) pa_nil))) (pss_one (ps_osi (pv 0) (pv 1)))), .one _⟩
theorem kb_UnknownIndex : KwB K T.fd_UnknownIndex_init ["self", "index"] 1 ["index"] (0 :: [0].map (· + 1)) where
  to := by
    obtain ⟨oc, od, dV, kV, doc, pm, an, cdv, ct, osl, e, look, hcode, hD, _⟩ := T.F_UnknownIndex_init.ex
    rcases hD with ⟨_, rfl⟩ | ⟨z, _⟩
    · intro s us ws X h1 h2
      rw [e]
      match us, ws, h1, h2 with
      | [u], [v0], _, _ => exact .of_eq rfl
    · exact (z rfl).elim
  le := by decide
end
end



section
set_option hygiene false
local macro_rules | `(tactic| fail "F") => `(tactic| with_reducible refine wF_R1 T g.toGd ?_)
local macro_rules | `(tactic| fail "F") => `(tactic| ((with_reducible refine wF_R2 T g.toGd ?qc1 ?qc2 ?_); (case qc1 => (first | with_reducible assumption | omega)); (case qc2 => exact lt_pow_mono (n := 64) (by (first | with_reducible assumption | omega)) (by decide))))
local macro_rules | `(tactic| fail "F") => `(tactic| with_reducible refine wF_isBB ?_)
local macro_rules | `(tactic| fail "F") => `(tactic| with_reducible refine wF_isIB ?_)
local macro_rules | `(tactic| fail "F") => `(tactic| with_reducible refine wF_isII ?_)
local macro_rules | `(tactic| fail "F") => `(tactic| ((with_reducible refine wF_isRt ?qc ?_); (case qc => exact T.own_Ratio)))
local macro_rules | `(tactic| fail "c") => `(tactic| ((with_reducible refine chkC "Ratio" ?_); refine xE_make gn ?qa T.g_Ratio T.mk_Ratio.kp ?_; (case qa => (repeat (first | with_reducible exact In.z | with_reducible apply In.s)))))
local macro_rules | `(tactic| fail "c") => `(tactic| ((with_reducible refine chkC "_law_take" ?_); refine xE_call T.f_w_take g ?qa T.g_w_take T.F_w_take.kp T.b_w_take ?_; (case qa => (repeat (first | with_reducible exact In.z | with_reducible apply In.s)))))
local macro_rules | `(tactic| fail "n") => `(tactic| ((with_reducible refine chkN "Ratio" ?_); refine xE_cls gn ?qa T.g_Ratio ?_; (case qa => (repeat (first | with_reducible exact In.z | with_reducible apply In.s)))))
local macro_rules | `(tactic| fail "n") => `(tactic| ((with_reducible refine chkN "UnknownIndex" ?_); refine xE_cls gn ?qa T.g_UnknownIndex ?_; (case qa => (repeat (first | with_reducible exact In.z | with_reducible apply In.s)))))
local macro_rules | `(tactic| fail "n") => `(tactic| ((with_reducible refine chkN "TrialError" ?_); refine xE_cls gn ?qa T.g_TrialError ?_; (case qa => (repeat (first | with_reducible exact In.z | with_reducible apply In.s)))))
local macro_rules | `(tactic| fail "n") => `(tactic| ((with_reducible refine chkN "Overfull" ?_); refine xE_cls gn ?qa T.g_Overfull ?_; (case qa => (repeat (first | with_reducible exact In.z | with_reducible apply In.s)))))
local macro_rules | `(tactic| fail "n") => `(tactic| ((with_reducible refine chkN "OutOfGround" ?_); refine xE_cls gn ?qa T.g_OutOfGround ?_; (case qa => (repeat (first | with_reducible exact In.z | with_reducible apply In.s)))))
local macro_rules | `(tactic| fail "n") => `(tactic| ((with_reducible refine chkN "Touching" ?_); refine xE_cls gn ?qa T.g_Touching ?_; (case qa => (repeat (first | with_reducible exact In.z | with_reducible apply In.s)))))
local macro_rules | `(tactic| fail "n") => `(tactic| ((with_reducible refine chkN "MissingDrop" ?_); refine xE_cls gn ?qa T.g_MissingDrop ?_; (case qa => (repeat (first | with_reducible exact In.z | with_reducible apply In.s)))))
local macro_rules | `(tactic| fail "n") => `(tactic| ((with_reducible refine chkN "Full" ?_); refine xE_cls gn ?qa T.g_Full ?_; (case qa => (repeat (first | with_reducible exact In.z | with_reducible apply In.s)))))
local macro_rules | `(tactic| fail "n") => `(tactic| ((with_reducible refine chkN "InvalidCommand" ?_); refine xE_cls gn ?qa T.g_InvalidCommand ?_; (case qa => (repeat (first | with_reducible exact In.z | with_reducible apply In.s)))))
local macro_rules | `(tactic| fail "n") => `(tactic| ((with_reducible refine chkN "InvalidText" ?_); refine xE_cls gn ?qa T.g_InvalidText ?_; (case qa => (repeat (first | with_reducible exact In.z | with_reducible apply In.s)))))
local macro_rules | `(tactic| fail "n") => `(tactic| ((with_reducible refine chkN "InvalidTime" ?_); refine xE_cls gn ?qa T.g_InvalidTime ?_; (case qa => (repeat (first | with_reducible exact In.z | with_reducible apply In.s)))))
local macro_rules | `(tactic| fail "n") => `(tactic| ((with_reducible refine chkN "InvalidDrop" ?_); refine xE_cls gn ?qa T.g_InvalidDrop ?_; (case qa => (repeat (first | with_reducible exact In.z | with_reducible apply In.s)))))
local macro_rules | `(tactic| fail "n") => `(tactic| ((with_reducible refine chkN "InvalidNumber" ?_); refine xE_cls gn ?qa T.g_InvalidNumber ?_; (case qa => (repeat (first | with_reducible exact In.z | with_reducible apply In.s)))))
local macro_rules | `(tactic| fail "n") => `(tactic| ((with_reducible refine chkN "PoolError" ?_); refine xE_cls gn ?qa T.g_PoolError ?_; (case qa => (repeat (first | with_reducible exact In.z | with_reducible apply In.s)))))
local macro_rules | `(tactic| fail "a") => `(tactic| ((with_reducible refine chkA "bottom" ?_); refine wE_bot T ?_))
local macro_rules | `(tactic| fail "a") => `(tactic| ((with_reducible refine chkA "top" ?_); refine wE_top T ?_))
local macro_rules | `(tactic| fail "O") => `(tactic| (refine sp_take T (by (first | assumption | with_reducible exact at_last | with_reducible exact at_new rfl | with_reducible exact at_left (by assumption) | with_reducible exact List.getElem?_set_self (by assumption) | with_reducible exact at_left (at_left (by assumption)))) (by (first | with_reducible assumption | omega)) (by (first | with_reducible assumption | omega)) ?_; intro d h0 h1))
local macro_rules | `(tactic| fail "O") => `(tactic| refine Exists.intro _ (Exists.intro _ (Exists.intro _ (Exists.intro _ (And.intro rfl (And.intro rfl (And.intro (by (first | assumption | with_reducible exact at_last | with_reducible exact at_new rfl | with_reducible exact at_left (by assumption) | with_reducible exact List.getElem?_set_self (by assumption) | with_reducible exact at_left (at_left (by assumption)))) (And.intro rfl ?_))))))))
local macro_rules | `(tactic| fail "O") => `(tactic| refine Exists.intro _ (Exists.intro _ (Exists.intro _ (And.intro rfl ?_))))
local macro_rules | `(tactic| fail "O") => `(tactic| refine Exists.intro _ (Exists.intro _ (And.intro rfl ?_)))
local macro_rules | `(tactic| fail "O") => `(tactic| refine And.intro (by (simp only [List.length_cons, List.length_nil]; decide)) ?_)
local macro_rules | `(tactic| fail "O") => `(tactic| refine Exists.intro _ (And.intro rfl ?_))
/-- what a value is made of -/
inductive Leaf (C : Addr) : D → Prop
  | non : Leaf C .non
  | bl (b : Bool) : Leaf C (.bl b)
  | int {i : Int} (h : i = 0 ∨ i = -7 ∨ i = 10 ^ 40 ∨ i = 1) : Leaf C (.int i)
  | str {x : Str} (h : x = Str.ofString "" ∨ x = Str.ofString "spot") : Leaf C (.str x)
  | rt (q : Rat) : Leaf C (rt C q)
/-- a value: at most n tuples deep -/
inductive Vd (C : Addr) : Nat → D → Prop
  | leaf {n : Nat} {d : D} (h : Leaf C d) : Vd C n d
  | tup {n : Nat} {ds : List D} (hl : ds.length ≤ 4) (h : ∀ d ∈ ds, Vd C n d) : Vd C (n + 1) (.tup ds)
theorem leaf_some {C : Addr} {q : Rat} {n : Nat} {d : D} (h : [D.int 0, .int (0 - 7), .int (10 ^ (40 : Int).toNat), .str (Str.ofString ""), .str (Str.ofString "spot"), .non, .bl true, .bl false, rt C q, .int 1][n]? = some d) : Leaf C d := by
  have hm := List.mem_of_getElem? h
  simp only [List.mem_cons, List.not_mem_nil, or_false] at hm
  rcases hm with rfl | rfl | rfl | rfl | rfl | rfl | rfl | rfl | rfl | rfl
  · exact .int (.inl rfl)
  · exact .int (.inr (.inl rfl))
  · exact .int (.inr (.inr (.inl rfl)))
  · exact .str (.inl rfl)
  · exact .str (.inr rfl)
  · exact .non
  · exact .bl _
  · exact .bl _
  · exact .rt _
  · exact .int (.inr (.inr (.inr rfl)))
section
variable {P : Program} {w : World} {K : PySem.W.Frag} {mg : Str → Option Value} {base : Heap} (T : Tx K mg)
abbrev fV {K : PySem.W.Frag} {mg : Str → Option Value} (T : Tx K mg) (n : Nat) : Fnx := ⟨T.a_w_value, T.fd_w_value, ["_law_box_here", "_law_deep"], 101 + n⟩
theorem sp_value0 {b : Nat} {μ : List M} {Q : KV} {Z : KX} (hb : μ[b]? = some .box) (h : ∀ d, Vd T.C_Ratio 0 d → Q d μ) : SpF P w K mg base (fV T 0) [.loc b, .int 0] μ Q Z := by
  refine spX_of T.F_w_value sc_w_value ck_w_value rfl ?_
  walk_at "start"
  rw [List.append_nil]
  walk_at "s1"
  refine wSs_cut (fun ρ' μ' => ρ' = [some (.loc b), some (.int 0), some (.int d), none, none] ∧ μ' = μ) ?_ ?_
  · walk_at "one"
    walk_at "e"
    refine br_dec (fun hd => ?_) (fun hd => ?_)
    · walk_at "e"
      refine br_F rfl (wSs_nil ?_)
      exact ⟨rfl, rfl⟩
    · exact wSs_nil ⟨rfl, rfl⟩
  · rintro ρ1 μ1 ⟨rfl, rfl⟩
    walk_at "s1"
    refine wB_pow ⟨by decide, by decide, by decide⟩ ?_
    walk_at "e"
    walk_at "s1"
    refine wX_some (by walk_at "ixd") h0 (by simp only [List.length_cons, List.length_nil]; omega) fun n d e _ => ?_
    exact .same (h _ (.leaf (leaf_some e)))
theorem sp_value1 {b : Nat} {μ : List M} {Q : KV} {Z : KX} (hb : μ[b]? = some .box) (h : ∀ d, Vd T.C_Ratio 1 d → Q d μ) : SpF P w K mg base (fV T 1) [.loc b, .int 1] μ Q Z := by
  refine spX_of T.F_w_value sc_w_value ck_w_value rfl ?_
  walk_at "start"
  rw [List.append_nil]
  walk_at "s1"
  refine wSs_cut (fun ρ' μ' => ρ' = [some (.loc b), some (.int 1), some (.int d), none, none] ∧ μ' = μ) ?_ ?_
  · walk_at "one"
    walk_at "e"
    refine br_dec (fun hd => ?_) (fun hd => ?_)
    · walk_at "e"
      refine br_T rfl ?_
      walk_at "s1"
      refine wE_lc v_w_value_c0 g_w_value_c0 o_w_value_c0 (fun ds done μ' => μ' = μ ∧ ds.length + done.length ≤ 4 ∧ ∀ d ∈ done, Vd T.C_Ratio 0 d) g (sc := defScope s_w_value) rfl (by decide +kernel) (show BlkOk n_w_value (defScope s_w_value) _ _ from ⟨rfl, by decide +kernel, by decide +kernel, by decide +kernel, by decide +kernel⟩) ?_ ?_ ?_
      · refine wI_range1 T.n_range ?_
        walk_at "e"
        have sl : (1000000 : Nat) ≤ sizeLine := by rw [sizeLine_eq]; decide
        have lr : (rangeD 0 d.toNat).length = d.toNat := by simp [rangeD]
        exact ⟨⟨by omega, by omega⟩, by omega, rfl, by rw [lr, List.length_nil]; omega, fun d hd => by cases hd⟩
      · rintro x xs done μ' ⟨rfl, hl, hv⟩
        walk_at "blk"
        simp only [o_w_value_c0, List.map_cons, List.map_nil, wipeD, List.set_cons_succ, List.set_cons_zero]
        refine wGw_name gn (i := 4) (by walk_at "il") (by decide) ?_
        walk_at "e"
        walk_at "blk"
        refine wTs_nil (br_T rfl ?_)
        walk_at "blk"
        refine xE_call (fV T 0) g (by walk_at "in") T.g_w_value T.F_w_value.kp T.b_w_value ?_
        walk_at "e"
        simp only [Int.reduceSub]
        refine sp_value0 T hb fun y hy => ⟨rfl, ?_, fun z hz => ?_⟩
        · rw [List.length_append, List.length_singleton]
          rw [List.length_cons] at hl
          omega
        · rcases List.mem_append.mp hz with q | q
          · exact hv z q
          · rw [List.mem_singleton.mp q]
            exact hy
      · rintro done μ' ⟨rfl, hl, hv⟩
        rw [List.length_nil] at hl
        walk_at "e"
        refine wF_tup (.inl rfl) ?_
        exact .same (h _ (.tup (by omega) hv))
    · exact wSs_nil ⟨rfl, rfl⟩
  · rintro ρ1 μ1 ⟨rfl, rfl⟩
    walk_at "s1"
    refine wB_pow ⟨by decide, by decide, by decide⟩ ?_
    walk_at "e"
    walk_at "s1"
    refine wX_some (by walk_at "ixd") h0 (by simp only [List.length_cons, List.length_nil]; omega) fun n d e _ => ?_
    exact .same (h _ (.leaf (leaf_some e)))
theorem sp_value2 {b : Nat} {μ : List M} {Q : KV} {Z : KX} (hb : μ[b]? = some .box) (h : ∀ d, Vd T.C_Ratio 2 d → Q d μ) : SpF P w K mg base (fV T 2) [.loc b, .int 2] μ Q Z := by
  refine spX_of T.F_w_value sc_w_value ck_w_value rfl ?_
  walk_at "start"
  rw [List.append_nil]
  walk_at "s1"
  refine wSs_cut (fun ρ' μ' => ρ' = [some (.loc b), some (.int 2), some (.int d), none, none] ∧ μ' = μ) ?_ ?_
  · walk_at "one"
    walk_at "e"
    refine br_dec (fun hd => ?_) (fun hd => ?_)
    · walk_at "e"
      refine br_T rfl ?_
      walk_at "s1"
      refine wE_lc v_w_value_c0 g_w_value_c0 o_w_value_c0 (fun ds done μ' => μ' = μ ∧ ds.length + done.length ≤ 4 ∧ ∀ d ∈ done, Vd T.C_Ratio 1 d) g (sc := defScope s_w_value) rfl (by decide +kernel) (show BlkOk n_w_value (defScope s_w_value) _ _ from ⟨rfl, by decide +kernel, by decide +kernel, by decide +kernel, by decide +kernel⟩) ?_ ?_ ?_
      · refine wI_range1 T.n_range ?_
        walk_at "e"
        have sl : (1000000 : Nat) ≤ sizeLine := by rw [sizeLine_eq]; decide
        have lr : (rangeD 0 d.toNat).length = d.toNat := by simp [rangeD]
        exact ⟨⟨by omega, by omega⟩, by omega, rfl, by rw [lr, List.length_nil]; omega, fun d hd => by cases hd⟩
      · rintro x xs done μ' ⟨rfl, hl, hv⟩
        walk_at "blk"
        simp only [o_w_value_c0, List.map_cons, List.map_nil, wipeD, List.set_cons_succ, List.set_cons_zero]
        refine wGw_name gn (i := 4) (by walk_at "il") (by decide) ?_
        walk_at "e"
        walk_at "blk"
        refine wTs_nil (br_T rfl ?_)
        walk_at "blk"
        refine xE_call (fV T 1) g (by walk_at "in") T.g_w_value T.F_w_value.kp T.b_w_value ?_
        walk_at "e"
        simp only [Int.reduceSub]
        refine sp_value1 T hb fun y hy => ⟨rfl, ?_, fun z hz => ?_⟩
        · rw [List.length_append, List.length_singleton]
          rw [List.length_cons] at hl
          omega
        · rcases List.mem_append.mp hz with q | q
          · exact hv z q
          · rw [List.mem_singleton.mp q]
            exact hy
      · rintro done μ' ⟨rfl, hl, hv⟩
        rw [List.length_nil] at hl
        walk_at "e"
        refine wF_tup (.inl rfl) ?_
        exact .same (h _ (.tup (by omega) hv))
    · exact wSs_nil ⟨rfl, rfl⟩
  · rintro ρ1 μ1 ⟨rfl, rfl⟩
    walk_at "s1"
    refine wB_pow ⟨by decide, by decide, by decide⟩ ?_
    walk_at "e"
    walk_at "s1"
    refine wX_some (by walk_at "ixd") h0 (by simp only [List.length_cons, List.length_nil]; omega) fun n d e _ => ?_
    exact .same (h _ (.leaf (leaf_some e)))
theorem sp_value3 {b : Nat} {μ : List M} {Q : KV} {Z : KX} (hb : μ[b]? = some .box) (h : ∀ d, Vd T.C_Ratio 3 d → Q d μ) : SpF P w K mg base (fV T 3) [.loc b, .int 3] μ Q Z := by
  refine spX_of T.F_w_value sc_w_value ck_w_value rfl ?_
  walk_at "start"
  rw [List.append_nil]
  walk_at "s1"
  refine wSs_cut (fun ρ' μ' => ρ' = [some (.loc b), some (.int 3), some (.int d), none, none] ∧ μ' = μ) ?_ ?_
  · walk_at "one"
    walk_at "e"
    refine br_dec (fun hd => ?_) (fun hd => ?_)
    · walk_at "e"
      refine br_T rfl ?_
      walk_at "s1"
      refine wE_lc v_w_value_c0 g_w_value_c0 o_w_value_c0 (fun ds done μ' => μ' = μ ∧ ds.length + done.length ≤ 4 ∧ ∀ d ∈ done, Vd T.C_Ratio 2 d) g (sc := defScope s_w_value) rfl (by decide +kernel) (show BlkOk n_w_value (defScope s_w_value) _ _ from ⟨rfl, by decide +kernel, by decide +kernel, by decide +kernel, by decide +kernel⟩) ?_ ?_ ?_
      · refine wI_range1 T.n_range ?_
        walk_at "e"
        have sl : (1000000 : Nat) ≤ sizeLine := by rw [sizeLine_eq]; decide
        have lr : (rangeD 0 d.toNat).length = d.toNat := by simp [rangeD]
        exact ⟨⟨by omega, by omega⟩, by omega, rfl, by rw [lr, List.length_nil]; omega, fun d hd => by cases hd⟩
      · rintro x xs done μ' ⟨rfl, hl, hv⟩
        walk_at "blk"
        simp only [o_w_value_c0, List.map_cons, List.map_nil, wipeD, List.set_cons_succ, List.set_cons_zero]
        refine wGw_name gn (i := 4) (by walk_at "il") (by decide) ?_
        walk_at "e"
        walk_at "blk"
        refine wTs_nil (br_T rfl ?_)
        walk_at "blk"
        refine xE_call (fV T 2) g (by walk_at "in") T.g_w_value T.F_w_value.kp T.b_w_value ?_
        walk_at "e"
        simp only [Int.reduceSub]
        refine sp_value2 T hb fun y hy => ⟨rfl, ?_, fun z hz => ?_⟩
        · rw [List.length_append, List.length_singleton]
          rw [List.length_cons] at hl
          omega
        · rcases List.mem_append.mp hz with q | q
          · exact hv z q
          · rw [List.mem_singleton.mp q]
            exact hy
      · rintro done μ' ⟨rfl, hl, hv⟩
        rw [List.length_nil] at hl
        walk_at "e"
        refine wF_tup (.inl rfl) ?_
        exact .same (h _ (.tup (by omega) hv))
    · exact wSs_nil ⟨rfl, rfl⟩
  · rintro ρ1 μ1 ⟨rfl, rfl⟩
    walk_at "s1"
    refine wB_pow ⟨by decide, by decide, by decide⟩ ?_
    walk_at "e"
    walk_at "s1"
    refine wX_some (by walk_at "ixd") h0 (by simp only [List.length_cons, List.length_nil]; omega) fun n d e _ => ?_
    exact .same (h _ (.leaf (leaf_some e)))
end
end


section
set_option hygiene false
local macro_rules | `(tactic| fail "F") => `(tactic| with_reducible refine wF_R1 T g.toGd ?_)
local macro_rules | `(tactic| fail "F") => `(tactic| ((with_reducible refine wF_R2 T g.toGd ?qc1 ?qc2 ?_); (case qc1 => (first | with_reducible assumption | omega)); (case qc2 => exact lt_pow_mono (n := 64) (by (first | with_reducible assumption | omega)) (by decide))))
local macro_rules | `(tactic| fail "F") => `(tactic| with_reducible refine wF_isBB ?_)
local macro_rules | `(tactic| fail "F") => `(tactic| with_reducible refine wF_isIB ?_)
local macro_rules | `(tactic| fail "F") => `(tactic| with_reducible refine wF_isII ?_)
local macro_rules | `(tactic| fail "F") => `(tactic| ((with_reducible refine wF_isRt ?qc ?_); (case qc => exact T.own_Ratio)))
local macro_rules | `(tactic| fail "c") => `(tactic| ((with_reducible refine chkC "Ratio" ?_); refine xE_make gn ?qa T.g_Ratio T.mk_Ratio.kp ?_; (case qa => (repeat (first | with_reducible exact In.z | with_reducible apply In.s)))))
local macro_rules | `(tactic| fail "n") => `(tactic| ((with_reducible refine chkN "Ratio" ?_); refine xE_cls gn ?qa T.g_Ratio ?_; (case qa => (repeat (first | with_reducible exact In.z | with_reducible apply In.s)))))
local macro_rules | `(tactic| fail "n") => `(tactic| ((with_reducible refine chkN "UnknownIndex" ?_); refine xE_cls gn ?qa T.g_UnknownIndex ?_; (case qa => (repeat (first | with_reducible exact In.z | with_reducible apply In.s)))))
local macro_rules | `(tactic| fail "n") => `(tactic| ((with_reducible refine chkN "TrialError" ?_); refine xE_cls gn ?qa T.g_TrialError ?_; (case qa => (repeat (first | with_reducible exact In.z | with_reducible apply In.s)))))
local macro_rules | `(tactic| fail "n") => `(tactic| ((with_reducible refine chkN "Overfull" ?_); refine xE_cls gn ?qa T.g_Overfull ?_; (case qa => (repeat (first | with_reducible exact In.z | with_reducible apply In.s)))))
local macro_rules | `(tactic| fail "n") => `(tactic| ((with_reducible refine chkN "OutOfGround" ?_); refine xE_cls gn ?qa T.g_OutOfGround ?_; (case qa => (repeat (first | with_reducible exact In.z | with_reducible apply In.s)))))
local macro_rules | `(tactic| fail "n") => `(tactic| ((with_reducible refine chkN "Touching" ?_); refine xE_cls gn ?qa T.g_Touching ?_; (case qa => (repeat (first | with_reducible exact In.z | with_reducible apply In.s)))))
local macro_rules | `(tactic| fail "n") => `(tactic| ((with_reducible refine chkN "MissingDrop" ?_); refine xE_cls gn ?qa T.g_MissingDrop ?_; (case qa => (repeat (first | with_reducible exact In.z | with_reducible apply In.s)))))
local macro_rules | `(tactic| fail "n") => `(tactic| ((with_reducible refine chkN "Full" ?_); refine xE_cls gn ?qa T.g_Full ?_; (case qa => (repeat (first | with_reducible exact In.z | with_reducible apply In.s)))))
local macro_rules | `(tactic| fail "n") => `(tactic| ((with_reducible refine chkN "InvalidCommand" ?_); refine xE_cls gn ?qa T.g_InvalidCommand ?_; (case qa => (repeat (first | with_reducible exact In.z | with_reducible apply In.s)))))
local macro_rules | `(tactic| fail "n") => `(tactic| ((with_reducible refine chkN "InvalidText" ?_); refine xE_cls gn ?qa T.g_InvalidText ?_; (case qa => (repeat (first | with_reducible exact In.z | with_reducible apply In.s)))))
local macro_rules | `(tactic| fail "n") => `(tactic| ((with_reducible refine chkN "InvalidTime" ?_); refine xE_cls gn ?qa T.g_InvalidTime ?_; (case qa => (repeat (first | with_reducible exact In.z | with_reducible apply In.s)))))
local macro_rules | `(tactic| fail "n") => `(tactic| ((with_reducible refine chkN "InvalidDrop" ?_); refine xE_cls gn ?qa T.g_InvalidDrop ?_; (case qa => (repeat (first | with_reducible exact In.z | with_reducible apply In.s)))))
local macro_rules | `(tactic| fail "n") => `(tactic| ((with_reducible refine chkN "InvalidNumber" ?_); refine xE_cls gn ?qa T.g_InvalidNumber ?_; (case qa => (repeat (first | with_reducible exact In.z | with_reducible apply In.s)))))
local macro_rules | `(tactic| fail "n") => `(tactic| ((with_reducible refine chkN "PoolError" ?_); refine xE_cls gn ?qa T.g_PoolError ?_; (case qa => (repeat (first | with_reducible exact In.z | with_reducible apply In.s)))))
local macro_rules | `(tactic| fail "a") => `(tactic| ((with_reducible refine chkA "bottom" ?_); refine wE_bot T ?_))
local macro_rules | `(tactic| fail "a") => `(tactic| ((with_reducible refine chkA "top" ?_); refine wE_top T ?_))
def rIsiS (K : PySem.W.Frag) : List V → Hp → VK → Prop := fun xs H Q => ∃ (x : V) (tp : Addr) (cs : List V) (t : Value) (us : List Value) (b : Bool), xs = [x, .ref tp] ∧ SqT K H tp cs ∧ Paired ClsV cs us ∧ TyX K H x t ∧ PySem.W.kitAny K t us = some b ∧ Q (.bl b) H
theorem call_isiS {X : Cx} : CallR X (.builtin "isinstance") (rIsiS X.K) := by
  intro pins s σ H xs us Q I r h
  obtain ⟨x, tp, cs, t, ws, b, rfl, hT, k, ty, e, q⟩ := h
  obtain ⟨u1, u2, rfl, r1, r2⟩ := vals2 r
  cases (show u2 = Value.ref tp from r2)
  obtain ⟨P, Z, p, hx⟩ := kit_of I r1 ty
  obtain ⟨its, rv, ⟨o, h1, h2, n, h3⟩, _⟩ := I.tuple hT
  have e3 := ClsV.all k rv
  obtain ⟨oc, od', dt, sl⟩ := o
  simp only at h2 h3
  subst h2 h3
  exact PySem.W.kia_tup Z I.kIn p h1 (by rw [e3]; exact e) hx fun tk => ⟨.bl b, H, I.tok tk, rfl, q⟩
theorem ClD.v {K : PySem.W.Frag} {L : List Addr} {G : Hp} {c : D} {u : Value} {v : V} (k : ClD c u) (r : Rep K L G c v) : ClsV v u := by
  cases k with
  | ty n => rw [rep_ty.mp r]; exact .ty n
  | own C => rw [rep_ref.mp r]; exact .own C
section
variable {X : Cx} {W : WX} {μ : List M} {Q : KV} {Z : KX} {d c1 c2 : D} {b1 b2 : Bool} {t u1 u2 : Value}
/-- isinstance(d, (c1, c2)) -/
theorem wF_isi2 (y : TyD X.K d t) (k1 : ClD c1 u1) (k2 : ClD c2 u2) (h1 : PySem.W.kitOne X.K t u1 = some b1) (h2 : PySem.W.kitOne X.K t u2 = some b2) (h : Q (.bl (b1 || b2)) μ) : wF X W (fun us => call (.builtin "isinstance") us) [d, .tup [c1, c2]] μ Q Z :=
  .ofV (callO_of call_isiS fun σ xs H Q L G o r co => by
    obtain ⟨v, w, rfl, r1, r2⟩ := r.two
    obtain ⟨tp, us, rfl, hq, ru⟩ := rep_tup.mp r2
    obtain ⟨x1, x2, rfl, ra, rb⟩ := ru.two
    refine ⟨v, tp, [x1, x2], t, [u1, u2], b1 || b2, rfl, Same.sqT o.sub hq, .cons (k1.v ra) (.cons (k2.v rb) .nil), y.x o r1, ?_, CO.now (W := W) (σ := σ) co o (rep_bl.mpr rfl)⟩
    refine kitAny_cons h1 (fun hb => ?_) (fun hb => by rw [hb, Bool.true_or])
    refine kitAny_cons h2 (fun hc => by rw [hb, hc]; rfl) (fun hc => by rw [hb, hc]; rfl)) h
end
/-- a value that is no tuple and no ratio -/
theorem Leaf.cases {K : PySem.W.Frag} {C : Addr} {d : D} (h : Leaf C d) (c : OwnC K C) : (∃ q, d = PM.rt C q) ∨ ∃ p t, D.py d = some p ∧ p.showable = true ∧ p.shown.length ≤ 1000 ∧ p.depth ≤ 100 ∧ TyD K d t ∧ PySem.W.kitOne K t (.type "tuple") = some false ∧ PySem.W.kitOne K t (.ref C) = some false := by
  cases h with
  | non => exact .inr ⟨.none, _, rfl, by decide +kernel, by decide +kernel, by decide +kernel, .non, kit_ty (by decide +kernel), kit_ty_own c (l := [.type "NoneType", .type "object"]) (by decide +kernel) rfl⟩
  | bl b => exact .inr ⟨.bool b, _, rfl, by cases b <;> decide +kernel, by cases b <;> decide +kernel, by cases b <;> decide +kernel, .bl, kit_ty (by decide +kernel), kit_ty_own c mro_bool rfl⟩
  | @int i h =>
    refine .inr ⟨.int i, _, rfl, ?_, ?_, ?_, .int, kit_ty (by decide +kernel), kit_ty_own c mro_int rfl⟩
    · rcases h with rfl | rfl | rfl | rfl <;> decide +kernel
    · rcases h with rfl | rfl | rfl | rfl <;> decide +kernel
    · rcases h with rfl | rfl | rfl | rfl <;> decide +kernel
  | @str x h =>
    refine .inr ⟨.str x, _, rfl, ?_, ?_, ?_, .str, kit_ty (by decide +kernel), kit_ty_own c mro_str rfl⟩
    · rcases h with rfl | rfl <;> decide +kernel
    · rcases h with rfl | rfl <;> decide +kernel
    · rcases h with rfl | rfl <;> decide +kernel
  | rt q => exact .inl ⟨q, rfl⟩
theorem zip_self {α : Type} : ∀ xs : List α, xs.zip xs = xs.map fun x => (x, x)
  | [] => rfl
  | x :: xs => by simp [zip_self xs]
section
variable {P : Program} {w : World} {K : PySem.W.Frag} {mg : Str → Option Value} {base : Heap} (T : Tx K mg)
abbrev fA {K : PySem.W.Frag} {mg : Str → Option Value} (T : Tx K mg) (n : Nat) : Fnx := ⟨T.a_w_alike, T.fd_w_alike, ["_law_found", "_law_due"], 101 + n⟩
theorem sp_leaf0 {d : D} (hd : Leaf T.C_Ratio d) {μ : List M} {Q : KV} {Z : KX} (h : Q (.bl true) μ) : SpF P w K mg base (fA T 0) [d, d] μ Q Z := by
  refine spX_of T.F_w_alike sc_w_alike ck_w_alike rfl ?_
  walk_at "start"
  rw [List.append_nil]
  rcases hd.cases T.own_Ratio with ⟨q, rfl⟩ | ⟨p, t, hp, hs, hz, hdp, ty, k1, k2⟩
  · walk_at "s1"
    refine wF_isi (.obj T.own_Ratio) (.ty "tuple") (kit_own_ty T.own_Ratio (by decide +kernel) (by decide)) ?_
    walk_at "e"
    refine br_F rfl (wSs_nil ?_)
    walk_at "s1"
    refine br_T rfl ?_
    walk_at "s1"
    refine .ofV (oc_eqD g.toGd.w0 (p := .tuple [.int q.num, .int q.den]) (q := .tuple [.int q.num, .int q.den]) rfl rfl rfl rfl) ?_
    rw [PySem.SeqAt.eqv_refl _ rfl]
    exact .same h
  · walk_at "s1"
    refine wF_isi ty (.ty "tuple") k1 ?_
    walk_at "e"
    refine br_F rfl (wSs_nil ?_)
    walk_at "s1"
    refine wF_isi ty (.own _) k2 ?_
    walk_at "e"
    refine br_F rfl (wSs_nil ?_)
    walk_at "s1"
    refine wF_isi2 ty (.ty "tuple") (.own _) k1 k2 ?_
    walk_at "e"
    refine br_T rfl ?_
    walk_at "e"
    have sl : (1000000 : Nat) ≤ sizeLine := by rw [sizeLine_eq]; decide
    refine .ofV (cb_repr g.toGd.w0 hp hs (by omega) hdp) ?_
    walk_at "e"
    refine .ofV (cb_repr g.toGd.w0 hp hs (by omega) hdp) ?_
    walk_at "e"
    rw [decide_eq_true rfl]
    exact .same h
theorem sp_leaf1 {d : D} (hd : Leaf T.C_Ratio d) {μ : List M} {Q : KV} {Z : KX} (h : Q (.bl true) μ) : SpF P w K mg base (fA T 1) [d, d] μ Q Z := by
  refine spX_of T.F_w_alike sc_w_alike ck_w_alike rfl ?_
  walk_at "start"
  rw [List.append_nil]
  rcases hd.cases T.own_Ratio with ⟨q, rfl⟩ | ⟨p, t, hp, hs, hz, hdp, ty, k1, k2⟩
  · walk_at "s1"
    refine wF_isi (.obj T.own_Ratio) (.ty "tuple") (kit_own_ty T.own_Ratio (by decide +kernel) (by decide)) ?_
    walk_at "e"
    refine br_F rfl (wSs_nil ?_)
    walk_at "s1"
    refine br_T rfl ?_
    walk_at "s1"
    refine .ofV (oc_eqD g.toGd.w0 (p := .tuple [.int q.num, .int q.den]) (q := .tuple [.int q.num, .int q.den]) rfl rfl rfl rfl) ?_
    rw [PySem.SeqAt.eqv_refl _ rfl]
    exact .same h
  · walk_at "s1"
    refine wF_isi ty (.ty "tuple") k1 ?_
    walk_at "e"
    refine br_F rfl (wSs_nil ?_)
    walk_at "s1"
    refine wF_isi ty (.own _) k2 ?_
    walk_at "e"
    refine br_F rfl (wSs_nil ?_)
    walk_at "s1"
    refine wF_isi2 ty (.ty "tuple") (.own _) k1 k2 ?_
    walk_at "e"
    refine br_T rfl ?_
    walk_at "e"
    have sl : (1000000 : Nat) ≤ sizeLine := by rw [sizeLine_eq]; decide
    refine .ofV (cb_repr g.toGd.w0 hp hs (by omega) hdp) ?_
    walk_at "e"
    refine .ofV (cb_repr g.toGd.w0 hp hs (by omega) hdp) ?_
    walk_at "e"
    rw [decide_eq_true rfl]
    exact .same h
theorem sp_leaf2 {d : D} (hd : Leaf T.C_Ratio d) {μ : List M} {Q : KV} {Z : KX} (h : Q (.bl true) μ) : SpF P w K mg base (fA T 2) [d, d] μ Q Z := by
  refine spX_of T.F_w_alike sc_w_alike ck_w_alike rfl ?_
  walk_at "start"
  rw [List.append_nil]
  rcases hd.cases T.own_Ratio with ⟨q, rfl⟩ | ⟨p, t, hp, hs, hz, hdp, ty, k1, k2⟩
  · walk_at "s1"
    refine wF_isi (.obj T.own_Ratio) (.ty "tuple") (kit_own_ty T.own_Ratio (by decide +kernel) (by decide)) ?_
    walk_at "e"
    refine br_F rfl (wSs_nil ?_)
    walk_at "s1"
    refine br_T rfl ?_
    walk_at "s1"
    refine .ofV (oc_eqD g.toGd.w0 (p := .tuple [.int q.num, .int q.den]) (q := .tuple [.int q.num, .int q.den]) rfl rfl rfl rfl) ?_
    rw [PySem.SeqAt.eqv_refl _ rfl]
    exact .same h
  · walk_at "s1"
    refine wF_isi ty (.ty "tuple") k1 ?_
    walk_at "e"
    refine br_F rfl (wSs_nil ?_)
    walk_at "s1"
    refine wF_isi ty (.own _) k2 ?_
    walk_at "e"
    refine br_F rfl (wSs_nil ?_)
    walk_at "s1"
    refine wF_isi2 ty (.ty "tuple") (.own _) k1 k2 ?_
    walk_at "e"
    refine br_T rfl ?_
    walk_at "e"
    have sl : (1000000 : Nat) ≤ sizeLine := by rw [sizeLine_eq]; decide
    refine .ofV (cb_repr g.toGd.w0 hp hs (by omega) hdp) ?_
    walk_at "e"
    refine .ofV (cb_repr g.toGd.w0 hp hs (by omega) hdp) ?_
    walk_at "e"
    rw [decide_eq_true rfl]
    exact .same h
theorem sp_leaf3 {d : D} (hd : Leaf T.C_Ratio d) {μ : List M} {Q : KV} {Z : KX} (h : Q (.bl true) μ) : SpF P w K mg base (fA T 3) [d, d] μ Q Z := by
  refine spX_of T.F_w_alike sc_w_alike ck_w_alike rfl ?_
  walk_at "start"
  rw [List.append_nil]
  rcases hd.cases T.own_Ratio with ⟨q, rfl⟩ | ⟨p, t, hp, hs, hz, hdp, ty, k1, k2⟩
  · walk_at "s1"
    refine wF_isi (.obj T.own_Ratio) (.ty "tuple") (kit_own_ty T.own_Ratio (by decide +kernel) (by decide)) ?_
    walk_at "e"
    refine br_F rfl (wSs_nil ?_)
    walk_at "s1"
    refine br_T rfl ?_
    walk_at "s1"
    refine .ofV (oc_eqD g.toGd.w0 (p := .tuple [.int q.num, .int q.den]) (q := .tuple [.int q.num, .int q.den]) rfl rfl rfl rfl) ?_
    rw [PySem.SeqAt.eqv_refl _ rfl]
    exact .same h
  · walk_at "s1"
    refine wF_isi ty (.ty "tuple") k1 ?_
    walk_at "e"
    refine br_F rfl (wSs_nil ?_)
    walk_at "s1"
    refine wF_isi ty (.own _) k2 ?_
    walk_at "e"
    refine br_F rfl (wSs_nil ?_)
    walk_at "s1"
    refine wF_isi2 ty (.ty "tuple") (.own _) k1 k2 ?_
    walk_at "e"
    refine br_T rfl ?_
    walk_at "e"
    have sl : (1000000 : Nat) ≤ sizeLine := by rw [sizeLine_eq]; decide
    refine .ofV (cb_repr g.toGd.w0 hp hs (by omega) hdp) ?_
    walk_at "e"
    refine .ofV (cb_repr g.toGd.w0 hp hs (by omega) hdp) ?_
    walk_at "e"
    rw [decide_eq_true rfl]
    exact .same h
theorem sp_alike0 {d : D} (hd : Vd T.C_Ratio 0 d) {μ : List M} {Q : KV} {Z : KX} (h : Q (.bl true) μ) : SpF P w K mg base (fA T 0) [d, d] μ Q Z := by
  cases hd with
  | leaf hl => exact sp_leaf0 T hl h
theorem sp_alike1 {d : D} (hd : Vd T.C_Ratio 1 d) {μ : List M} {Q : KV} {Z : KX} (h : Q (.bl true) μ) : SpF P w K mg base (fA T 1) [d, d] μ Q Z := by
  cases hd with
  | leaf hl => exact sp_leaf1 T hl h
  | @tup _ ds hl hv =>
    refine spX_of T.F_w_alike sc_w_alike ck_w_alike rfl ?_
    walk_at "start"
    rw [List.append_nil]
    walk_at "s1"
    refine br_T rfl ?_
    walk_at "s1"
    refine br_F (by simp) (wSs_nil ?_)
    walk_at "s1"
    refine wE_lcM v_w_alike_c0 g_w_alike_c0 o_w_alike_c0 g (sc := defScope s_w_alike) rfl (by decide +kernel) (show BlkOk n_w_alike (defScope s_w_alike) _ _ from ⟨rfl, by decide +kernel, by decide +kernel, by decide +kernel, by decide +kernel⟩) ds (fun d => .tup [d, d]) (fun _ => .bl true) ?_ (by omega) ?_ ?_
    · refine wI_zip2 T.n_zip ?_
      walk_at "e"
      exact ⟨_, _, _, _, rfl, .inr rfl, .inr rfl, by rw [zip_self, List.map_map]; rfl, rfl⟩
    · intro x hx K1 K2 hk
      walk_at "blk"
      refine wGw_tup g.calm ?_
      simp only [o_w_alike_c0, List.map_cons, List.map_nil, wipeD, List.set_cons_succ, List.set_cons_zero]
      refine wGws_cons (wGw_name gn (i := 2) (by walk_at "il") (by decide) ?_)
      walk_at "e"
      refine wGws_cons (wGw_name gn (i := 3) (by walk_at "il") (by decide) ?_)
      walk_at "e"
      refine wGws_nil ?_
      walk_at "blk"
      refine wTs_nil (br_T rfl ?_)
      walk_at "blk"
      refine xE_call (fA T 0) g (by walk_at "in") T.g_w_alike T.F_w_alike.kp T.b_w_alike ?_
      walk_at "e"
      exact sp_alike0 T (hv x hx) hk
    · walk_at "e"
      rw [show ds.map (fun _ => D.bl true) = (ds.map fun _ => true).map D.bl by rw [List.map_map]; rfl]
      refine wF_all g.toGd ?_
      rw [show (ds.map fun _ => true).all id = true by simp]
      exact .same h
theorem sp_alike2 {d : D} (hd : Vd T.C_Ratio 2 d) {μ : List M} {Q : KV} {Z : KX} (h : Q (.bl true) μ) : SpF P w K mg base (fA T 2) [d, d] μ Q Z := by
  cases hd with
  | leaf hl => exact sp_leaf2 T hl h
  | @tup _ ds hl hv =>
    refine spX_of T.F_w_alike sc_w_alike ck_w_alike rfl ?_
    walk_at "start"
    rw [List.append_nil]
    walk_at "s1"
    refine br_T rfl ?_
    walk_at "s1"
    refine br_F (by simp) (wSs_nil ?_)
    walk_at "s1"
    refine wE_lcM v_w_alike_c0 g_w_alike_c0 o_w_alike_c0 g (sc := defScope s_w_alike) rfl (by decide +kernel) (show BlkOk n_w_alike (defScope s_w_alike) _ _ from ⟨rfl, by decide +kernel, by decide +kernel, by decide +kernel, by decide +kernel⟩) ds (fun d => .tup [d, d]) (fun _ => .bl true) ?_ (by omega) ?_ ?_
    · refine wI_zip2 T.n_zip ?_
      walk_at "e"
      exact ⟨_, _, _, _, rfl, .inr rfl, .inr rfl, by rw [zip_self, List.map_map]; rfl, rfl⟩
    · intro x hx K1 K2 hk
      walk_at "blk"
      refine wGw_tup g.calm ?_
      simp only [o_w_alike_c0, List.map_cons, List.map_nil, wipeD, List.set_cons_succ, List.set_cons_zero]
      refine wGws_cons (wGw_name gn (i := 2) (by walk_at "il") (by decide) ?_)
      walk_at "e"
      refine wGws_cons (wGw_name gn (i := 3) (by walk_at "il") (by decide) ?_)
      walk_at "e"
      refine wGws_nil ?_
      walk_at "blk"
      refine wTs_nil (br_T rfl ?_)
      walk_at "blk"
      refine xE_call (fA T 1) g (by walk_at "in") T.g_w_alike T.F_w_alike.kp T.b_w_alike ?_
      walk_at "e"
      exact sp_alike1 T (hv x hx) hk
    · walk_at "e"
      rw [show ds.map (fun _ => D.bl true) = (ds.map fun _ => true).map D.bl by rw [List.map_map]; rfl]
      refine wF_all g.toGd ?_
      rw [show (ds.map fun _ => true).all id = true by simp]
      exact .same h
theorem sp_alike3 {d : D} (hd : Vd T.C_Ratio 3 d) {μ : List M} {Q : KV} {Z : KX} (h : Q (.bl true) μ) : SpF P w K mg base (fA T 3) [d, d] μ Q Z := by
  cases hd with
  | leaf hl => exact sp_leaf3 T hl h
  | @tup _ ds hl hv =>
    refine spX_of T.F_w_alike sc_w_alike ck_w_alike rfl ?_
    walk_at "start"
    rw [List.append_nil]
    walk_at "s1"
    refine br_T rfl ?_
    walk_at "s1"
    refine br_F (by simp) (wSs_nil ?_)
    walk_at "s1"
    refine wE_lcM v_w_alike_c0 g_w_alike_c0 o_w_alike_c0 g (sc := defScope s_w_alike) rfl (by decide +kernel) (show BlkOk n_w_alike (defScope s_w_alike) _ _ from ⟨rfl, by decide +kernel, by decide +kernel, by decide +kernel, by decide +kernel⟩) ds (fun d => .tup [d, d]) (fun _ => .bl true) ?_ (by omega) ?_ ?_
    · refine wI_zip2 T.n_zip ?_
      walk_at "e"
      exact ⟨_, _, _, _, rfl, .inr rfl, .inr rfl, by rw [zip_self, List.map_map]; rfl, rfl⟩
    · intro x hx K1 K2 hk
      walk_at "blk"
      refine wGw_tup g.calm ?_
      simp only [o_w_alike_c0, List.map_cons, List.map_nil, wipeD, List.set_cons_succ, List.set_cons_zero]
      refine wGws_cons (wGw_name gn (i := 2) (by walk_at "il") (by decide) ?_)
      walk_at "e"
      refine wGws_cons (wGw_name gn (i := 3) (by walk_at "il") (by decide) ?_)
      walk_at "e"
      refine wGws_nil ?_
      walk_at "blk"
      refine wTs_nil (br_T rfl ?_)
      walk_at "blk"
      refine xE_call (fA T 2) g (by walk_at "in") T.g_w_alike T.F_w_alike.kp T.b_w_alike ?_
      walk_at "e"
      exact sp_alike2 T (hv x hx) hk
    · walk_at "e"
      rw [show ds.map (fun _ => D.bl true) = (ds.map fun _ => true).map D.bl by rw [List.map_map]; rfl]
      refine wF_all g.toGd ?_
      rw [show (ds.map fun _ => true).all id = true by simp]
      exact .same h
end
end

theorem chkAN {X : Cx} {W : WX} {ρ : Env'} {μ : List M} {Q : KV} {Z : KX} {p pos : Pos} (x m : Str) (h : wE X W ρ μ (.Attribute (.Name x p) m pos) Q Z) : wE X W ρ μ (.Attribute (.Name x p) m pos) Q Z := h

section
set_option hygiene false
local macro_rules | `(tactic| fail "n") => `(tactic| ((with_reducible refine chkN "Ratio" ?_); refine xE_cls gn ?qa T.g_Ratio ?_; (case qa => (repeat (first | with_reducible exact In.z | with_reducible apply In.s)))))
local macro_rules | `(tactic| fail "n") => `(tactic| ((with_reducible refine chkN "UnknownIndex" ?_); refine xE_cls gn ?qa T.g_UnknownIndex ?_; (case qa => (repeat (first | with_reducible exact In.z | with_reducible apply In.s)))))
local macro_rules | `(tactic| fail "n") => `(tactic| ((with_reducible refine chkN "TrialError" ?_); refine xE_cls gn ?qa T.g_TrialError ?_; (case qa => (repeat (first | with_reducible exact In.z | with_reducible apply In.s)))))
local macro_rules | `(tactic| fail "n") => `(tactic| ((with_reducible refine chkN "Overfull" ?_); refine xE_cls gn ?qa T.g_Overfull ?_; (case qa => (repeat (first | with_reducible exact In.z | with_reducible apply In.s)))))
local macro_rules | `(tactic| fail "n") => `(tactic| ((with_reducible refine chkN "OutOfGround" ?_); refine xE_cls gn ?qa T.g_OutOfGround ?_; (case qa => (repeat (first | with_reducible exact In.z | with_reducible apply In.s)))))
local macro_rules | `(tactic| fail "n") => `(tactic| ((with_reducible refine chkN "Touching" ?_); refine xE_cls gn ?qa T.g_Touching ?_; (case qa => (repeat (first | with_reducible exact In.z | with_reducible apply In.s)))))
local macro_rules | `(tactic| fail "n") => `(tactic| ((with_reducible refine chkN "MissingDrop" ?_); refine xE_cls gn ?qa T.g_MissingDrop ?_; (case qa => (repeat (first | with_reducible exact In.z | with_reducible apply In.s)))))
local macro_rules | `(tactic| fail "n") => `(tactic| ((with_reducible refine chkN "Full" ?_); refine xE_cls gn ?qa T.g_Full ?_; (case qa => (repeat (first | with_reducible exact In.z | with_reducible apply In.s)))))
local macro_rules | `(tactic| fail "n") => `(tactic| ((with_reducible refine chkN "InvalidCommand" ?_); refine xE_cls gn ?qa T.g_InvalidCommand ?_; (case qa => (repeat (first | with_reducible exact In.z | with_reducible apply In.s)))))
local macro_rules | `(tactic| fail "n") => `(tactic| ((with_reducible refine chkN "InvalidText" ?_); refine xE_cls gn ?qa T.g_InvalidText ?_; (case qa => (repeat (first | with_reducible exact In.z | with_reducible apply In.s)))))
local macro_rules | `(tactic| fail "n") => `(tactic| ((with_reducible refine chkN "InvalidTime" ?_); refine xE_cls gn ?qa T.g_InvalidTime ?_; (case qa => (repeat (first | with_reducible exact In.z | with_reducible apply In.s)))))
local macro_rules | `(tactic| fail "n") => `(tactic| ((with_reducible refine chkN "InvalidDrop" ?_); refine xE_cls gn ?qa T.g_InvalidDrop ?_; (case qa => (repeat (first | with_reducible exact In.z | with_reducible apply In.s)))))
local macro_rules | `(tactic| fail "n") => `(tactic| ((with_reducible refine chkN "InvalidNumber" ?_); refine xE_cls gn ?qa T.g_InvalidNumber ?_; (case qa => (repeat (first | with_reducible exact In.z | with_reducible apply In.s)))))
local macro_rules | `(tactic| fail "n") => `(tactic| ((with_reducible refine chkN "PoolError" ?_); refine xE_cls gn ?qa T.g_PoolError ?_; (case qa => (repeat (first | with_reducible exact In.z | with_reducible apply In.s)))))
local macro_rules | `(tactic| fail "c") => `(tactic| ((with_reducible refine chkC "InvalidNumber" ?_); refine wE_errK g ?qa T.g_InvalidNumber (mk_InvalidNumber T) (kb_InvalidNumber T) ?_; (case qa => walk_at "in")))
local macro_rules | `(tactic| fail "c") => `(tactic| ((with_reducible refine chkC "InvalidDrop" ?_); refine wE_errK g ?qa T.g_InvalidDrop (mk_InvalidDrop T) (kb_InvalidDrop T) ?_; (case qa => walk_at "in")))
local macro_rules | `(tactic| fail "c") => `(tactic| ((with_reducible refine chkC "InvalidTime" ?_); refine wE_errK g ?qa T.g_InvalidTime (mk_InvalidTime T) (kb_InvalidTime T) ?_; (case qa => walk_at "in")))
local macro_rules | `(tactic| fail "c") => `(tactic| ((with_reducible refine chkC "InvalidText" ?_); refine wE_errK g ?qa T.g_InvalidText (mk_InvalidText T) (kb_InvalidText T) ?_; (case qa => walk_at "in")))
local macro_rules | `(tactic| fail "c") => `(tactic| ((with_reducible refine chkC "Full" ?_); refine wE_errK g ?qa T.g_Full (mk_Full T) (kb_Full T) ?_; (case qa => walk_at "in")))
local macro_rules | `(tactic| fail "c") => `(tactic| ((with_reducible refine chkC "MissingDrop" ?_); refine wE_errK g ?qa T.g_MissingDrop (mk_MissingDrop T) (kb_MissingDrop T) ?_; (case qa => walk_at "in")))
local macro_rules | `(tactic| fail "c") => `(tactic| ((with_reducible refine chkC "Touching" ?_); refine wE_errK g ?qa T.g_Touching (mk_Touching T) (kb_Touching T) ?_; (case qa => walk_at "in")))
local macro_rules | `(tactic| fail "c") => `(tactic| ((with_reducible refine chkC "OutOfGround" ?_); refine wE_errK g ?qa T.g_OutOfGround (mk_OutOfGround T) (kb_OutOfGround T) ?_; (case qa => walk_at "in")))
local macro_rules | `(tactic| fail "c") => `(tactic| ((with_reducible refine chkC "Overfull" ?_); refine wE_errK g ?qa T.g_Overfull (mk_Overfull T) (kb_Overfull T) ?_; (case qa => walk_at "in")))
local macro_rules | `(tactic| fail "c") => `(tactic| ((with_reducible refine chkC "UnknownIndex" ?_); refine wE_errK g ?qa T.g_UnknownIndex (mk_UnknownIndex T) (kb_UnknownIndex T) ?_; (case qa => walk_at "in")))
local macro_rules | `(tactic| fail "c") => `(tactic| ((with_reducible refine chkC "InvalidNumber" ?_); refine xE_make gn ?qa T.g_InvalidNumber (mk_InvalidNumber (P := P) (w := w) (base := base) T).kp ?_; (case qa => walk_at "in")))
local macro_rules | `(tactic| fail "F") => `(tactic| ((with_reducible refine wF_err (C := T.C_InvalidNumber) (fd := T.fd_InvalidNumber_init) (ps := ["self", "value"]) (ns := ["value"]) g.toGd ?qm ?qb ?q1 ?q2 ?q3 ?_); (case qm => exact mk_InvalidNumber T); (case qb => exact T.b_InvalidNumber_init); (case q1 => rfl); (case q2 => rfl); (case q3 => decide)))
local macro_rules | `(tactic| fail "c") => `(tactic| ((with_reducible refine chkC "InvalidDrop" ?_); refine xE_make gn ?qa T.g_InvalidDrop (mk_InvalidDrop (P := P) (w := w) (base := base) T).kp ?_; (case qa => walk_at "in")))
local macro_rules | `(tactic| fail "F") => `(tactic| ((with_reducible refine wF_err (C := T.C_InvalidDrop) (fd := T.fd_InvalidDrop_init) (ps := ["self", "index"]) (ns := ["index"]) g.toGd ?qm ?qb ?q1 ?q2 ?q3 ?_); (case qm => exact mk_InvalidDrop T); (case qb => exact T.b_InvalidDrop_init); (case q1 => rfl); (case q2 => rfl); (case q3 => decide)))
local macro_rules | `(tactic| fail "c") => `(tactic| ((with_reducible refine chkC "InvalidTime" ?_); refine xE_make gn ?qa T.g_InvalidTime (mk_InvalidTime (P := P) (w := w) (base := base) T).kp ?_; (case qa => walk_at "in")))
local macro_rules | `(tactic| fail "F") => `(tactic| ((with_reducible refine wF_err (C := T.C_InvalidTime) (fd := T.fd_InvalidTime_init) (ps := ["self", "time"]) (ns := ["time"]) g.toGd ?qm ?qb ?q1 ?q2 ?q3 ?_); (case qm => exact mk_InvalidTime T); (case qb => exact T.b_InvalidTime_init); (case q1 => rfl); (case q2 => rfl); (case q3 => decide)))
local macro_rules | `(tactic| fail "c") => `(tactic| ((with_reducible refine chkC "InvalidText" ?_); refine xE_make gn ?qa T.g_InvalidText (mk_InvalidText (P := P) (w := w) (base := base) T).kp ?_; (case qa => walk_at "in")))
local macro_rules | `(tactic| fail "F") => `(tactic| ((with_reducible refine wF_err (C := T.C_InvalidText) (fd := T.fd_InvalidText_init) (ps := ["self", "line"]) (ns := ["line"]) g.toGd ?qm ?qb ?q1 ?q2 ?q3 ?_); (case qm => exact mk_InvalidText T); (case qb => exact T.b_InvalidText_init); (case q1 => rfl); (case q2 => rfl); (case q3 => decide)))
local macro_rules | `(tactic| fail "c") => `(tactic| ((with_reducible refine chkC "Full" ?_); refine xE_make gn ?qa T.g_Full (mk_Full (P := P) (w := w) (base := base) T).kp ?_; (case qa => walk_at "in")))
local macro_rules | `(tactic| fail "F") => `(tactic| ((with_reducible refine wF_err (C := T.C_Full) (fd := T.fd_Full_init) (ps := ["self", "limit"]) (ns := ["limit"]) g.toGd ?qm ?qb ?q1 ?q2 ?q3 ?_); (case qm => exact mk_Full T); (case qb => exact T.b_Full_init); (case q1 => rfl); (case q2 => rfl); (case q3 => decide)))
local macro_rules | `(tactic| fail "c") => `(tactic| ((with_reducible refine chkC "MissingDrop" ?_); refine xE_make gn ?qa T.g_MissingDrop (mk_MissingDrop (P := P) (w := w) (base := base) T).kp ?_; (case qa => walk_at "in")))
local macro_rules | `(tactic| fail "F") => `(tactic| ((with_reducible refine wF_err (C := T.C_MissingDrop) (fd := T.fd_MissingDrop_init) (ps := ["self", "spot", "amount"]) (ns := ["spot", "amount"]) g.toGd ?qm ?qb ?q1 ?q2 ?q3 ?_); (case qm => exact mk_MissingDrop T); (case qb => exact T.b_MissingDrop_init); (case q1 => rfl); (case q2 => rfl); (case q3 => decide)))
local macro_rules | `(tactic| fail "c") => `(tactic| ((with_reducible refine chkC "Touching" ?_); refine xE_make gn ?qa T.g_Touching (mk_Touching (P := P) (w := w) (base := base) T).kp ?_; (case qa => walk_at "in")))
local macro_rules | `(tactic| fail "F") => `(tactic| ((with_reducible refine wF_err (C := T.C_Touching) (fd := T.fd_Touching_init) (ps := ["self", "index"]) (ns := ["index"]) g.toGd ?qm ?qb ?q1 ?q2 ?q3 ?_); (case qm => exact mk_Touching T); (case qb => exact T.b_Touching_init); (case q1 => rfl); (case q2 => rfl); (case q3 => decide)))
local macro_rules | `(tactic| fail "c") => `(tactic| ((with_reducible refine chkC "OutOfGround" ?_); refine xE_make gn ?qa T.g_OutOfGround (mk_OutOfGround (P := P) (w := w) (base := base) T).kp ?_; (case qa => walk_at "in")))
local macro_rules | `(tactic| fail "F") => `(tactic| ((with_reducible refine wF_err (C := T.C_OutOfGround) (fd := T.fd_OutOfGround_init) (ps := ["self", "spot"]) (ns := ["spot"]) g.toGd ?qm ?qb ?q1 ?q2 ?q3 ?_); (case qm => exact mk_OutOfGround T); (case qb => exact T.b_OutOfGround_init); (case q1 => rfl); (case q2 => rfl); (case q3 => decide)))
local macro_rules | `(tactic| fail "c") => `(tactic| ((with_reducible refine chkC "Overfull" ?_); refine xE_make gn ?qa T.g_Overfull (mk_Overfull (P := P) (w := w) (base := base) T).kp ?_; (case qa => walk_at "in")))
local macro_rules | `(tactic| fail "F") => `(tactic| ((with_reducible refine wF_err (C := T.C_Overfull) (fd := T.fd_Overfull_init) (ps := ["self", "total"]) (ns := ["total"]) g.toGd ?qm ?qb ?q1 ?q2 ?q3 ?_); (case qm => exact mk_Overfull T); (case qb => exact T.b_Overfull_init); (case q1 => rfl); (case q2 => rfl); (case q3 => decide)))
local macro_rules | `(tactic| fail "c") => `(tactic| ((with_reducible refine chkC "UnknownIndex" ?_); refine xE_make gn ?qa T.g_UnknownIndex (mk_UnknownIndex (P := P) (w := w) (base := base) T).kp ?_; (case qa => walk_at "in")))
local macro_rules | `(tactic| fail "F") => `(tactic| ((with_reducible refine wF_err (C := T.C_UnknownIndex) (fd := T.fd_UnknownIndex_init) (ps := ["self", "index"]) (ns := ["index"]) g.toGd ?qm ?qb ?q1 ?q2 ?q3 ?_); (case qm => exact mk_UnknownIndex T); (case qb => exact T.b_UnknownIndex_init); (case q1 => rfl); (case q2 => rfl); (case q3 => decide)))
local macro_rules | `(tactic| fail "c") => `(tactic| ((with_reducible refine chkC "InvalidCommand" ?_); refine xE_make0 gn ?qa T.g_InvalidCommand (mk_InvalidCommand (P := P) (w := w) (base := base) T).kp ?_; (case qa => walk_at "in")))
local macro_rules | `(tactic| fail "F") => `(tactic| ((with_reducible refine wF_err (C := T.C_InvalidCommand) (fd := T.fd_InvalidCommand_init) (ps := ["self"]) (ns := []) g.toGd ?qm ?qb ?q1 ?q2 ?q3 ?_); (case qm => exact mk_InvalidCommand T); (case qb => exact T.b_InvalidCommand_init); (case q1 => rfl); (case q2 => rfl); (case q3 => decide)))
local macro_rules | `(tactic| fail "c") => `(tactic| ((with_reducible refine chkC "TrialError" ?_); refine xE_make0 gn ?qa T.g_TrialError (mk_TrialError (P := P) (w := w) (base := base) T).kp ?_; (case qa => walk_at "in")))
local macro_rules | `(tactic| fail "F") => `(tactic| ((with_reducible refine wF_err (C := T.C_TrialError) (fd := T.fd_TrialError_init) (ps := ["self"]) (ns := []) g.toGd ?qm ?qb ?q1 ?q2 ?q3 ?_); (case qm => exact mk_TrialError T); (case qb => exact T.b_TrialError_init); (case q1 => rfl); (case q2 => rfl); (case q3 => decide)))
local macro_rules | `(tactic| fail "a") => `(tactic| ((with_reducible refine chkAN "_law_one" "value" ?_); refine wE_errf T.xf_InvalidNumber T.na_InvalidNumber_value ?_))
local macro_rules | `(tactic| fail "a") => `(tactic| ((with_reducible refine chkAN "_law_two" "index" ?_); refine wE_errf T.xf_InvalidDrop T.na_InvalidDrop_index ?_))
local macro_rules | `(tactic| fail "a") => `(tactic| ((with_reducible refine chkAN "_law_three" "time" ?_); refine wE_errf T.xf_InvalidTime T.na_InvalidTime_time ?_))
local macro_rules | `(tactic| fail "a") => `(tactic| ((with_reducible refine chkAN "_law_four" "line" ?_); refine wE_errf T.xf_InvalidText T.na_InvalidText_line ?_))
local macro_rules | `(tactic| fail "a") => `(tactic| ((with_reducible refine chkAN "_law_five" "limit" ?_); refine wE_errf T.xf_Full T.na_Full_limit ?_))
local macro_rules | `(tactic| fail "a") => `(tactic| ((with_reducible refine chkAN "_law_six" "spot" ?_); refine wE_errf T.xf_MissingDrop T.na_MissingDrop_spot ?_))
local macro_rules | `(tactic| fail "a") => `(tactic| ((with_reducible refine chkAN "_law_seven" "index" ?_); refine wE_errf T.xf_Touching T.na_Touching_index ?_))
local macro_rules | `(tactic| fail "a") => `(tactic| ((with_reducible refine chkAN "_law_eight" "spot" ?_); refine wE_errf T.xf_OutOfGround T.na_OutOfGround_spot ?_))
local macro_rules | `(tactic| fail "a") => `(tactic| ((with_reducible refine chkAN "_law_nine" "total" ?_); refine wE_errf T.xf_Overfull T.na_Overfull_total ?_))
local macro_rules | `(tactic| fail "a") => `(tactic| ((with_reducible refine chkAN "_law_last" "index" ?_); refine wE_errf T.xf_UnknownIndex T.na_UnknownIndex_index ?_))
local macro_rules | `(tactic| fail "a") => `(tactic| ((with_reducible refine chkAN "_law_six" "amount" ?_); refine wE_errf T.xf_MissingDrop T.na_MissingDrop_amount ?_))
local macro_rules | `(tactic| fail "B") => `(tactic| ((with_reducible refine wB_catL ?q1 ?_); (case q1 => (simp only [List.length_cons, List.length_nil]; rw [sizeLine_eq]; decide))))
local macro_rules | `(tactic| fail "O") => `(tactic| (refine wK_cons ?_))
local macro_rules | `(tactic| fail "O") => `(tactic| (refine wK_nil ?_))
local macro_rules | `(tactic| fail "O") => `(tactic| (refine And.intro rfl (And.intro rfl ?_)))
local macro_rules | `(tactic| fail "O") => `(tactic| (refine Exists.intro _ (Exists.intro _ (Exists.intro _ (And.intro rfl (And.intro rfl ?_))))))
section
variable {P : Program} {w : World} {K : PySem.W.Frag} {mg : Str → Option Value} {base : Heap} (T : Tx K mg)
/-- the twelve errors -/
def errs {K : PySem.W.Frag} {mg : Str → Option Value} (T : Tx K mg) (a b : D) : List D := [.err T.C_InvalidNumber ["value"] [a], .err T.C_InvalidDrop ["index"] [a], .err T.C_InvalidTime ["time"] [a], .err T.C_InvalidText ["line"] [a], .err T.C_Full ["limit"] [a], .err T.C_MissingDrop ["amount", "spot"] [b, a], .err T.C_Touching ["index"] [a], .err T.C_OutOfGround ["spot"] [a], .err T.C_Overfull ["total"] [a], .err T.C_InvalidCommand [] [], .err T.C_TrialError [] [], .err T.C_UnknownIndex ["index"] [a]]
theorem sp_placed {a b : D} {μ : List M} {Q : KV} {Z : KX} (h : Q (.tup [.lst (errs T a b), .lst [a, a, a, a, a, a, a, a, a, a], b]) μ) : SpF P w K mg base T.f_w_placed [a, b] μ Q Z := by
  refine spX_of T.F_w_placed sc_w_placed ck_w_placed rfl ?_
  walk_at "start"
  rw [List.append_nil]
  walk_at "s1"
  walk_at "s1"
  walk_at "s1"
  walk_at "s1"
  walk_at "s1"
  walk_at "s1"
  walk_at "s1"
  walk_at "s1"
  exact .same h
theorem sp_named {a b : D} {μ : List M} {Q : KV} {Z : KX} (h : Q (.tup [.lst (errs T a b), .lst [a, a, a, a, a, a, a, a, a, a], b]) μ) : SpF P w K mg base T.f_w_named [a, b] μ Q Z := by
  refine spX_of T.F_w_named sc_w_named ck_w_named rfl ?_
  walk_at "start"
  rw [List.append_nil]
  walk_at "s1"
  walk_at "s1"
  walk_at "s1"
  walk_at "s1"
  walk_at "s1"
  walk_at "s1"
  walk_at "s1"
  walk_at "s1"
  exact .same h
end
end


section
set_option hygiene false
local macro_rules | `(tactic| fail "n") => `(tactic| ((with_reducible refine chkN "Ratio" ?_); refine xE_cls gn ?qa T.g_Ratio ?_; (case qa => (repeat (first | with_reducible exact In.z | with_reducible apply In.s)))))
local macro_rules | `(tactic| fail "n") => `(tactic| ((with_reducible refine chkN "UnknownIndex" ?_); refine xE_cls gn ?qa T.g_UnknownIndex ?_; (case qa => (repeat (first | with_reducible exact In.z | with_reducible apply In.s)))))
local macro_rules | `(tactic| fail "n") => `(tactic| ((with_reducible refine chkN "TrialError" ?_); refine xE_cls gn ?qa T.g_TrialError ?_; (case qa => (repeat (first | with_reducible exact In.z | with_reducible apply In.s)))))
local macro_rules | `(tactic| fail "n") => `(tactic| ((with_reducible refine chkN "Overfull" ?_); refine xE_cls gn ?qa T.g_Overfull ?_; (case qa => (repeat (first | with_reducible exact In.z | with_reducible apply In.s)))))
local macro_rules | `(tactic| fail "n") => `(tactic| ((with_reducible refine chkN "OutOfGround" ?_); refine xE_cls gn ?qa T.g_OutOfGround ?_; (case qa => (repeat (first | with_reducible exact In.z | with_reducible apply In.s)))))
local macro_rules | `(tactic| fail "n") => `(tactic| ((with_reducible refine chkN "Touching" ?_); refine xE_cls gn ?qa T.g_Touching ?_; (case qa => (repeat (first | with_reducible exact In.z | with_reducible apply In.s)))))
local macro_rules | `(tactic| fail "n") => `(tactic| ((with_reducible refine chkN "MissingDrop" ?_); refine xE_cls gn ?qa T.g_MissingDrop ?_; (case qa => (repeat (first | with_reducible exact In.z | with_reducible apply In.s)))))
local macro_rules | `(tactic| fail "n") => `(tactic| ((with_reducible refine chkN "Full" ?_); refine xE_cls gn ?qa T.g_Full ?_; (case qa => (repeat (first | with_reducible exact In.z | with_reducible apply In.s)))))
local macro_rules | `(tactic| fail "n") => `(tactic| ((with_reducible refine chkN "InvalidCommand" ?_); refine xE_cls gn ?qa T.g_InvalidCommand ?_; (case qa => (repeat (first | with_reducible exact In.z | with_reducible apply In.s)))))
local macro_rules | `(tactic| fail "n") => `(tactic| ((with_reducible refine chkN "InvalidText" ?_); refine xE_cls gn ?qa T.g_InvalidText ?_; (case qa => (repeat (first | with_reducible exact In.z | with_reducible apply In.s)))))
local macro_rules | `(tactic| fail "n") => `(tactic| ((with_reducible refine chkN "InvalidTime" ?_); refine xE_cls gn ?qa T.g_InvalidTime ?_; (case qa => (repeat (first | with_reducible exact In.z | with_reducible apply In.s)))))
local macro_rules | `(tactic| fail "n") => `(tactic| ((with_reducible refine chkN "InvalidDrop" ?_); refine xE_cls gn ?qa T.g_InvalidDrop ?_; (case qa => (repeat (first | with_reducible exact In.z | with_reducible apply In.s)))))
local macro_rules | `(tactic| fail "n") => `(tactic| ((with_reducible refine chkN "InvalidNumber" ?_); refine xE_cls gn ?qa T.g_InvalidNumber ?_; (case qa => (repeat (first | with_reducible exact In.z | with_reducible apply In.s)))))
local macro_rules | `(tactic| fail "n") => `(tactic| ((with_reducible refine chkN "PoolError" ?_); refine xE_cls gn ?qa T.g_PoolError ?_; (case qa => (repeat (first | with_reducible exact In.z | with_reducible apply In.s)))))
local macro_rules | `(tactic| fail "n") => `(tactic| ((with_reducible refine chkN "ValueError" ?_); refine xE_bty gn ?qa T.n_ValueError PyProof.Rows.Boot.«ValueError» ?_; (case qa => walk_at "in")))
local macro_rules | `(tactic| fail "n") => `(tactic| ((with_reducible refine chkN "IndexError" ?_); refine xE_bty gn ?qa T.n_IndexError PyProof.Rows.Boot.«IndexError» ?_; (case qa => walk_at "in")))
local macro_rules | `(tactic| fail "n") => `(tactic| ((with_reducible refine chkN "KeyError" ?_); refine xE_bty gn ?qa T.n_KeyError PyProof.Rows.Boot.«KeyError» ?_; (case qa => walk_at "in")))
local macro_rules | `(tactic| fail "B") => `(tactic| ((with_reducible refine wB_catL ?q1 ?_); (case q1 => (simp only [List.length_append, List.length_cons, List.length_nil]; rw [sizeLine_eq]; decide))))
local macro_rules | `(tactic| fail "F") => `(tactic| (refine wF_isV xk k0 ?_))
local macro_rules | `(tactic| fail "F") => `(tactic| (refine wF_isV xk k1 ?_))
local macro_rules | `(tactic| fail "F") => `(tactic| (refine wF_isV xk k2 ?_))
local macro_rules | `(tactic| fail "F") => `(tactic| (refine wF_isV xk k3 ?_))
local macro_rules | `(tactic| fail "F") => `(tactic| (refine wF_isV xk k4 ?_))
local macro_rules | `(tactic| fail "F") => `(tactic| (refine wF_isV xk k5 ?_))
local macro_rules | `(tactic| fail "F") => `(tactic| (refine wF_isV xk k6 ?_))
local macro_rules | `(tactic| fail "F") => `(tactic| (refine wF_isV xk k7 ?_))
local macro_rules | `(tactic| fail "F") => `(tactic| (refine wF_isV xk k8 ?_))
local macro_rules | `(tactic| fail "F") => `(tactic| (refine wF_isV xk k9 ?_))
local macro_rules | `(tactic| fail "F") => `(tactic| (refine wF_isV xk k10 ?_))
local macro_rules | `(tactic| fail "F") => `(tactic| (refine wF_isV xk k11 ?_))
local macro_rules | `(tactic| fail "F") => `(tactic| (refine wF_isV xk k12 ?_))
local macro_rules | `(tactic| fail "F") => `(tactic| (refine wF_isV xk k13 ?_))
local macro_rules | `(tactic| fail "F") => `(tactic| (refine wF_isV xk k14 ?_))
local macro_rules | `(tactic| fail "F") => `(tactic| (refine wF_isV xk k15 ?_))
section
variable {P : Program} {w : World} {K : PySem.W.Frag} {mg : Str → Option Value} {base : Heap} (T : Tx K mg)
theorem sp_kinds {C : Addr} {ns : List Str} {ds : List D} (xk : ExcC K C) {b0 b1 b2 b3 b4 b5 b6 b7 b8 b9 b10 b11 b12 b13 b14 b15 : Bool} (k0 : AskD K C (.ref T.C_InvalidNumber) b0) (k1 : AskD K C (.ref T.C_InvalidDrop) b1) (k2 : AskD K C (.ref T.C_InvalidTime) b2) (k3 : AskD K C (.ref T.C_InvalidText) b3) (k4 : AskD K C (.ref T.C_Full) b4) (k5 : AskD K C (.ref T.C_MissingDrop) b5) (k6 : AskD K C (.ref T.C_Touching) b6) (k7 : AskD K C (.ref T.C_OutOfGround) b7) (k8 : AskD K C (.ref T.C_Overfull) b8) (k9 : AskD K C (.ref T.C_InvalidCommand) b9) (k10 : AskD K C (.ref T.C_TrialError) b10) (k11 : AskD K C (.ref T.C_UnknownIndex) b11) (k12 : AskD K C (.ref T.C_PoolError) b12) (k13 : AskD K C (.ty "ValueError") b13) (k14 : AskD K C (.ty "IndexError") b14) (k15 : AskD K C (.ty "KeyError") b15) {μ : List M} {Q : KV} {Z : KX}
    (h : Q (.tup [.lst [.bl b0, .bl b1, .bl b2, .bl b3, .bl b4, .bl b5, .bl b6, .bl b7, .bl b8, .bl b9, .bl b10, .bl b11], .lst [.bl b12, .bl b13, .bl b14, .bl b15]]) μ) : SpF P w K mg base T.f_w_kinds [.err C ns ds] μ Q Z := by
  refine spX_of T.F_w_kinds sc_w_kinds ck_w_kinds rfl ?_
  walk_at "start"
  rw [List.append_nil]
  walk_at "s1"
  walk_at "s1"
  walk_at "s1"
  walk_at "s1"
  walk_at "s1"
  walk_at "s1"
  exact .same h
/-- the i-th error -/
def KindOk (P : Program) (w : World) {K : PySem.W.Frag} {mg : Str → Option Value} (base : Heap) (T : Tx K mg) (i : Nat) (e : D) : Prop :=
  ∀ {μ : List M} {Q : KV} {Z : KX}, Q (.tup [.lst ((List.range 12).map fun k : Nat => .bl (decide ((i : Int) = (k : Int)))), .lst (if i = 11 then [.bl false, .bl false, .bl true, .bl false] else [.bl true, .bl true, .bl false, .bl false])]) μ → SpF P w K mg base T.f_w_kinds [e] μ Q Z
theorem kd_InvalidNumber {ns : List Str} {ds : List D} : KindOk P w base T 0 (.err T.C_InvalidNumber ns ds) := fun h => sp_kinds T T.xk_InvalidNumber (.own T.ki_InvalidNumber_InvalidNumber) (.own T.ki_InvalidNumber_InvalidDrop) (.own T.ki_InvalidNumber_InvalidTime) (.own T.ki_InvalidNumber_InvalidText) (.own T.ki_InvalidNumber_Full) (.own T.ki_InvalidNumber_MissingDrop) (.own T.ki_InvalidNumber_Touching) (.own T.ki_InvalidNumber_OutOfGround) (.own T.ki_InvalidNumber_Overfull) (.own T.ki_InvalidNumber_InvalidCommand) (.own T.ki_InvalidNumber_TrialError) (.own T.ki_InvalidNumber_UnknownIndex) (.own T.ki_InvalidNumber_PoolError) (.ty T.ki_InvalidNumber_ValueError) (.ty T.ki_InvalidNumber_IndexError) (.ty T.ki_InvalidNumber_KeyError) h
theorem kd_InvalidDrop {ns : List Str} {ds : List D} : KindOk P w base T 1 (.err T.C_InvalidDrop ns ds) := fun h => sp_kinds T T.xk_InvalidDrop (.own T.ki_InvalidDrop_InvalidNumber) (.own T.ki_InvalidDrop_InvalidDrop) (.own T.ki_InvalidDrop_InvalidTime) (.own T.ki_InvalidDrop_InvalidText) (.own T.ki_InvalidDrop_Full) (.own T.ki_InvalidDrop_MissingDrop) (.own T.ki_InvalidDrop_Touching) (.own T.ki_InvalidDrop_OutOfGround) (.own T.ki_InvalidDrop_Overfull) (.own T.ki_InvalidDrop_InvalidCommand) (.own T.ki_InvalidDrop_TrialError) (.own T.ki_InvalidDrop_UnknownIndex) (.own T.ki_InvalidDrop_PoolError) (.ty T.ki_InvalidDrop_ValueError) (.ty T.ki_InvalidDrop_IndexError) (.ty T.ki_InvalidDrop_KeyError) h
theorem kd_InvalidTime {ns : List Str} {ds : List D} : KindOk P w base T 2 (.err T.C_InvalidTime ns ds) := fun h => sp_kinds T T.xk_InvalidTime (.own T.ki_InvalidTime_InvalidNumber) (.own T.ki_InvalidTime_InvalidDrop) (.own T.ki_InvalidTime_InvalidTime) (.own T.ki_InvalidTime_InvalidText) (.own T.ki_InvalidTime_Full) (.own T.ki_InvalidTime_MissingDrop) (.own T.ki_InvalidTime_Touching) (.own T.ki_InvalidTime_OutOfGround) (.own T.ki_InvalidTime_Overfull) (.own T.ki_InvalidTime_InvalidCommand) (.own T.ki_InvalidTime_TrialError) (.own T.ki_InvalidTime_UnknownIndex) (.own T.ki_InvalidTime_PoolError) (.ty T.ki_InvalidTime_ValueError) (.ty T.ki_InvalidTime_IndexError) (.ty T.ki_InvalidTime_KeyError) h
theorem kd_InvalidText {ns : List Str} {ds : List D} : KindOk P w base T 3 (.err T.C_InvalidText ns ds) := fun h => sp_kinds T T.xk_InvalidText (.own T.ki_InvalidText_InvalidNumber) (.own T.ki_InvalidText_InvalidDrop) (.own T.ki_InvalidText_InvalidTime) (.own T.ki_InvalidText_InvalidText) (.own T.ki_InvalidText_Full) (.own T.ki_InvalidText_MissingDrop) (.own T.ki_InvalidText_Touching) (.own T.ki_InvalidText_OutOfGround) (.own T.ki_InvalidText_Overfull) (.own T.ki_InvalidText_InvalidCommand) (.own T.ki_InvalidText_TrialError) (.own T.ki_InvalidText_UnknownIndex) (.own T.ki_InvalidText_PoolError) (.ty T.ki_InvalidText_ValueError) (.ty T.ki_InvalidText_IndexError) (.ty T.ki_InvalidText_KeyError) h
theorem kd_Full {ns : List Str} {ds : List D} : KindOk P w base T 4 (.err T.C_Full ns ds) := fun h => sp_kinds T T.xk_Full (.own T.ki_Full_InvalidNumber) (.own T.ki_Full_InvalidDrop) (.own T.ki_Full_InvalidTime) (.own T.ki_Full_InvalidText) (.own T.ki_Full_Full) (.own T.ki_Full_MissingDrop) (.own T.ki_Full_Touching) (.own T.ki_Full_OutOfGround) (.own T.ki_Full_Overfull) (.own T.ki_Full_InvalidCommand) (.own T.ki_Full_TrialError) (.own T.ki_Full_UnknownIndex) (.own T.ki_Full_PoolError) (.ty T.ki_Full_ValueError) (.ty T.ki_Full_IndexError) (.ty T.ki_Full_KeyError) h
theorem kd_MissingDrop {ns : List Str} {ds : List D} : KindOk P w base T 5 (.err T.C_MissingDrop ns ds) := fun h => sp_kinds T T.xk_MissingDrop (.own T.ki_MissingDrop_InvalidNumber) (.own T.ki_MissingDrop_InvalidDrop) (.own T.ki_MissingDrop_InvalidTime) (.own T.ki_MissingDrop_InvalidText) (.own T.ki_MissingDrop_Full) (.own T.ki_MissingDrop_MissingDrop) (.own T.ki_MissingDrop_Touching) (.own T.ki_MissingDrop_OutOfGround) (.own T.ki_MissingDrop_Overfull) (.own T.ki_MissingDrop_InvalidCommand) (.own T.ki_MissingDrop_TrialError) (.own T.ki_MissingDrop_UnknownIndex) (.own T.ki_MissingDrop_PoolError) (.ty T.ki_MissingDrop_ValueError) (.ty T.ki_MissingDrop_IndexError) (.ty T.ki_MissingDrop_KeyError) h
theorem kd_Touching {ns : List Str} {ds : List D} : KindOk P w base T 6 (.err T.C_Touching ns ds) := fun h => sp_kinds T T.xk_Touching (.own T.ki_Touching_InvalidNumber) (.own T.ki_Touching_InvalidDrop) (.own T.ki_Touching_InvalidTime) (.own T.ki_Touching_InvalidText) (.own T.ki_Touching_Full) (.own T.ki_Touching_MissingDrop) (.own T.ki_Touching_Touching) (.own T.ki_Touching_OutOfGround) (.own T.ki_Touching_Overfull) (.own T.ki_Touching_InvalidCommand) (.own T.ki_Touching_TrialError) (.own T.ki_Touching_UnknownIndex) (.own T.ki_Touching_PoolError) (.ty T.ki_Touching_ValueError) (.ty T.ki_Touching_IndexError) (.ty T.ki_Touching_KeyError) h
theorem kd_OutOfGround {ns : List Str} {ds : List D} : KindOk P w base T 7 (.err T.C_OutOfGround ns ds) := fun h => sp_kinds T T.xk_OutOfGround (.own T.ki_OutOfGround_InvalidNumber) (.own T.ki_OutOfGround_InvalidDrop) (.own T.ki_OutOfGround_InvalidTime) (.own T.ki_OutOfGround_InvalidText) (.own T.ki_OutOfGround_Full) (.own T.ki_OutOfGround_MissingDrop) (.own T.ki_OutOfGround_Touching) (.own T.ki_OutOfGround_OutOfGround) (.own T.ki_OutOfGround_Overfull) (.own T.ki_OutOfGround_InvalidCommand) (.own T.ki_OutOfGround_TrialError) (.own T.ki_OutOfGround_UnknownIndex) (.own T.ki_OutOfGround_PoolError) (.ty T.ki_OutOfGround_ValueError) (.ty T.ki_OutOfGround_IndexError) (.ty T.ki_OutOfGround_KeyError) h
theorem kd_Overfull {ns : List Str} {ds : List D} : KindOk P w base T 8 (.err T.C_Overfull ns ds) := fun h => sp_kinds T T.xk_Overfull (.own T.ki_Overfull_InvalidNumber) (.own T.ki_Overfull_InvalidDrop) (.own T.ki_Overfull_InvalidTime) (.own T.ki_Overfull_InvalidText) (.own T.ki_Overfull_Full) (.own T.ki_Overfull_MissingDrop) (.own T.ki_Overfull_Touching) (.own T.ki_Overfull_OutOfGround) (.own T.ki_Overfull_Overfull) (.own T.ki_Overfull_InvalidCommand) (.own T.ki_Overfull_TrialError) (.own T.ki_Overfull_UnknownIndex) (.own T.ki_Overfull_PoolError) (.ty T.ki_Overfull_ValueError) (.ty T.ki_Overfull_IndexError) (.ty T.ki_Overfull_KeyError) h
theorem kd_InvalidCommand {ns : List Str} {ds : List D} : KindOk P w base T 9 (.err T.C_InvalidCommand ns ds) := fun h => sp_kinds T T.xk_InvalidCommand (.own T.ki_InvalidCommand_InvalidNumber) (.own T.ki_InvalidCommand_InvalidDrop) (.own T.ki_InvalidCommand_InvalidTime) (.own T.ki_InvalidCommand_InvalidText) (.own T.ki_InvalidCommand_Full) (.own T.ki_InvalidCommand_MissingDrop) (.own T.ki_InvalidCommand_Touching) (.own T.ki_InvalidCommand_OutOfGround) (.own T.ki_InvalidCommand_Overfull) (.own T.ki_InvalidCommand_InvalidCommand) (.own T.ki_InvalidCommand_TrialError) (.own T.ki_InvalidCommand_UnknownIndex) (.own T.ki_InvalidCommand_PoolError) (.ty T.ki_InvalidCommand_ValueError) (.ty T.ki_InvalidCommand_IndexError) (.ty T.ki_InvalidCommand_KeyError) h
theorem kd_TrialError {ns : List Str} {ds : List D} : KindOk P w base T 10 (.err T.C_TrialError ns ds) := fun h => sp_kinds T T.xk_TrialError (.own T.ki_TrialError_InvalidNumber) (.own T.ki_TrialError_InvalidDrop) (.own T.ki_TrialError_InvalidTime) (.own T.ki_TrialError_InvalidText) (.own T.ki_TrialError_Full) (.own T.ki_TrialError_MissingDrop) (.own T.ki_TrialError_Touching) (.own T.ki_TrialError_OutOfGround) (.own T.ki_TrialError_Overfull) (.own T.ki_TrialError_InvalidCommand) (.own T.ki_TrialError_TrialError) (.own T.ki_TrialError_UnknownIndex) (.own T.ki_TrialError_PoolError) (.ty T.ki_TrialError_ValueError) (.ty T.ki_TrialError_IndexError) (.ty T.ki_TrialError_KeyError) h
theorem kd_UnknownIndex {ns : List Str} {ds : List D} : KindOk P w base T 11 (.err T.C_UnknownIndex ns ds) := fun h => sp_kinds T T.xk_UnknownIndex (.own T.ki_UnknownIndex_InvalidNumber) (.own T.ki_UnknownIndex_InvalidDrop) (.own T.ki_UnknownIndex_InvalidTime) (.own T.ki_UnknownIndex_InvalidText) (.own T.ki_UnknownIndex_Full) (.own T.ki_UnknownIndex_MissingDrop) (.own T.ki_UnknownIndex_Touching) (.own T.ki_UnknownIndex_OutOfGround) (.own T.ki_UnknownIndex_Overfull) (.own T.ki_UnknownIndex_InvalidCommand) (.own T.ki_UnknownIndex_TrialError) (.own T.ki_UnknownIndex_UnknownIndex) (.own T.ki_UnknownIndex_PoolError) (.ty T.ki_UnknownIndex_ValueError) (.ty T.ki_UnknownIndex_IndexError) (.ty T.ki_UnknownIndex_KeyError) h
theorem kd_errs {a b : D} : ∀ (i : Nat) (e : D), (errs T a b)[i]? = some e → KindOk P w base T i e := by
  intro i e h
  match i, h with
  | 0, h => cases h; exact @kd_InvalidNumber P w K mg base T _ _
  | 1, h => cases h; exact @kd_InvalidDrop P w K mg base T _ _
  | 2, h => cases h; exact @kd_InvalidTime P w K mg base T _ _
  | 3, h => cases h; exact @kd_InvalidText P w K mg base T _ _
  | 4, h => cases h; exact @kd_Full P w K mg base T _ _
  | 5, h => cases h; exact @kd_MissingDrop P w K mg base T _ _
  | 6, h => cases h; exact @kd_Touching P w K mg base T _ _
  | 7, h => cases h; exact @kd_OutOfGround P w K mg base T _ _
  | 8, h => cases h; exact @kd_Overfull P w K mg base T _ _
  | 9, h => cases h; exact @kd_InvalidCommand P w K mg base T _ _
  | 10, h => cases h; exact @kd_TrialError P w K mg base T _ _
  | 11, h => cases h; exact @kd_UnknownIndex P w K mg base T _ _
  | i + 12, h => simp [errs] at h
end
end


section
set_option hygiene false
local macro_rules | `(tactic| fail "c") => `(tactic| ((with_reducible refine chkC "_law_kinds" ?_); refine xE_call T.f_w_kinds g ?qa T.g_w_kinds T.F_w_kinds.kp T.b_w_kinds ?_; (case qa => (repeat (first | with_reducible exact In.z | with_reducible apply In.s)))))
local macro_rules | `(tactic| fail "n") => `(tactic| ((with_reducible refine chkN "Ratio" ?_); refine xE_cls gn ?qa T.g_Ratio ?_; (case qa => (repeat (first | with_reducible exact In.z | with_reducible apply In.s)))))
local macro_rules | `(tactic| fail "n") => `(tactic| ((with_reducible refine chkN "UnknownIndex" ?_); refine xE_cls gn ?qa T.g_UnknownIndex ?_; (case qa => (repeat (first | with_reducible exact In.z | with_reducible apply In.s)))))
local macro_rules | `(tactic| fail "n") => `(tactic| ((with_reducible refine chkN "TrialError" ?_); refine xE_cls gn ?qa T.g_TrialError ?_; (case qa => (repeat (first | with_reducible exact In.z | with_reducible apply In.s)))))
local macro_rules | `(tactic| fail "n") => `(tactic| ((with_reducible refine chkN "Overfull" ?_); refine xE_cls gn ?qa T.g_Overfull ?_; (case qa => (repeat (first | with_reducible exact In.z | with_reducible apply In.s)))))
local macro_rules | `(tactic| fail "n") => `(tactic| ((with_reducible refine chkN "OutOfGround" ?_); refine xE_cls gn ?qa T.g_OutOfGround ?_; (case qa => (repeat (first | with_reducible exact In.z | with_reducible apply In.s)))))
local macro_rules | `(tactic| fail "n") => `(tactic| ((with_reducible refine chkN "Touching" ?_); refine xE_cls gn ?qa T.g_Touching ?_; (case qa => (repeat (first | with_reducible exact In.z | with_reducible apply In.s)))))
local macro_rules | `(tactic| fail "n") => `(tactic| ((with_reducible refine chkN "MissingDrop" ?_); refine xE_cls gn ?qa T.g_MissingDrop ?_; (case qa => (repeat (first | with_reducible exact In.z | with_reducible apply In.s)))))
local macro_rules | `(tactic| fail "n") => `(tactic| ((with_reducible refine chkN "Full" ?_); refine xE_cls gn ?qa T.g_Full ?_; (case qa => (repeat (first | with_reducible exact In.z | with_reducible apply In.s)))))
local macro_rules | `(tactic| fail "n") => `(tactic| ((with_reducible refine chkN "InvalidCommand" ?_); refine xE_cls gn ?qa T.g_InvalidCommand ?_; (case qa => (repeat (first | with_reducible exact In.z | with_reducible apply In.s)))))
local macro_rules | `(tactic| fail "n") => `(tactic| ((with_reducible refine chkN "InvalidText" ?_); refine xE_cls gn ?qa T.g_InvalidText ?_; (case qa => (repeat (first | with_reducible exact In.z | with_reducible apply In.s)))))
local macro_rules | `(tactic| fail "n") => `(tactic| ((with_reducible refine chkN "InvalidTime" ?_); refine xE_cls gn ?qa T.g_InvalidTime ?_; (case qa => (repeat (first | with_reducible exact In.z | with_reducible apply In.s)))))
local macro_rules | `(tactic| fail "n") => `(tactic| ((with_reducible refine chkN "InvalidDrop" ?_); refine xE_cls gn ?qa T.g_InvalidDrop ?_; (case qa => (repeat (first | with_reducible exact In.z | with_reducible apply In.s)))))
local macro_rules | `(tactic| fail "n") => `(tactic| ((with_reducible refine chkN "InvalidNumber" ?_); refine xE_cls gn ?qa T.g_InvalidNumber ?_; (case qa => (repeat (first | with_reducible exact In.z | with_reducible apply In.s)))))
local macro_rules | `(tactic| fail "n") => `(tactic| ((with_reducible refine chkN "PoolError" ?_); refine xE_cls gn ?qa T.g_PoolError ?_; (case qa => (repeat (first | with_reducible exact In.z | with_reducible apply In.s)))))
theorem enum_cons {es : List D} {i : Nat} {d : D} {ds : List D} (h : d :: ds = (enumD es).drop i) : ∃ e, es[i]? = some e ∧ d = .tup [.int (i : Nat), e] ∧ ds = (enumD es).drop (i + 1) := by
  have h1 : ((enumD es).drop i)[0]? = some d := by rw [← h]; rfl
  rw [List.getElem?_drop] at h1
  unfold enumD at h1
  rw [List.getElem?_mapIdx] at h1
  simp only [Nat.add_zero] at h1
  obtain ⟨e, e1, e2⟩ := Option.map_eq_some_iff.mp h1
  refine ⟨e, e1, e2.symm, ?_⟩
  have : ((enumD es).drop i).drop 1 = ds := by rw [← h]; rfl
  rw [← this, List.drop_drop]
section
variable {P : Program} {w : World} {K : PySem.W.Frag} {mg : Str → Option Value} {base : Heap} (T : Tx K mg)
abbrev fR {K : PySem.W.Frag} {mg : Str → Option Value} (T : Tx K mg) : Fnx := ⟨T.a_w_right, T.fd_w_right, ["_law_errors", "_law_told", "_law_second", "_law_a", "_law_b"], 106⟩
theorem sp_right {a b : D} (ha : Vd T.C_Ratio 3 a) (hb : Vd T.C_Ratio 3 b) {μ : List M} {Q : KV} {Z : KX} (h : Q (.bl true) μ) : SpF P w K mg base (fR T) [.lst (errs T a b), .lst [a, a, a, a, a, a, a, a, a, a], b, a, b] μ Q Z := by
  refine spX_of T.F_w_right sc_w_right ck_w_right rfl ?_
  walk_at "start"
  rw [List.append_nil]
  refine wSs_cons (wS_for g.po g.calm (wI_enum T.n_enumerate ?_))
  walk_at "e"
  refine wFor_inv (fun ds ρ μ' => μ = μ' ∧ ∃ i : Nat, ds = (enumD (errs T a b)).drop i ∧ ∃ o5 o6 o7 o8 o9 o10, ρ = [some (.lst (errs T a b)), some (.lst [a, a, a, a, a, a, a, a, a, a]), some b, some a, some b, o5, o6, o7, o8, o9, o10]) ?_ ?_ _ _ _ ⟨rfl, 0, rfl, _, _, _, _, _, _, rfl⟩
  · rintro d ds ρ _ ⟨rfl, i, hi, o5, o6, o7, o8, o9, o10, rfl⟩
    obtain ⟨e, e1, rfl, rfl⟩ := enum_cons hi
    have hk : KindOk P w base T i e := fun h => kd_errs T i e e1 h
    have hi12 : i < 12 := by
      have := (List.getElem?_eq_some_iff.mp e1).1
      simpa [errs] using this
    walk_at "e"
    walk_at "s1"
    refine hk ?_
    walk_at "e"
    walk_at "s1"
    refine wE_lcM v_w_right_c0 g_w_right_c0 o_w_right_c0 g (sc := defScope s_w_right) rfl (by decide +kernel) (show BlkOk n_w_right (defScope s_w_right) _ _ from ⟨rfl, by decide +kernel, by decide +kernel, by decide +kernel, by decide +kernel⟩) (List.range 12) (fun k => .int (0 + (k : Int))) (fun k : Nat => .bl (decide ((i : Int) = (k : Int)))) ?_ (by rw [List.length_range]; decide) ?_ ?_
    · refine wI_range1 T.n_range ?_
      walk_at "e"
      exact ⟨⟨by omega, by omega⟩, rfl, rfl⟩
    · intro x hx K1 K2 hk
      walk_at "blk"
      simp only [o_w_right_c0, List.map_cons, List.map_nil, wipeD, List.set_cons_succ, List.set_cons_zero]
      refine wGw_name gn (i := 9) (by walk_at "il") (by decide) ?_
      walk_at "e"
      walk_at "blk"
      refine wTs_nil (br_T rfl ?_)
      walk_at "blk"
      walk_at "e"
      rw [Int.zero_add]
      exact hk
    · walk_at "e"
      refine .ofV (oc_neD g.toGd.w0 (p := .list ((List.range 12).map fun k : Nat => .bool (decide ((i : Int) = (k : Int))))) (q := .list ((List.range 12).map fun k : Nat => .bool (decide ((i : Int) = (k : Int))))) rfl rfl rfl rfl) ?_
      rw [PySem.SeqAt.eqv_refl _ rfl]
      refine ⟨_, rfl, br_F rfl (wSs_nil ?_)⟩
      by_cases h11 : i = 11
      · have h12 : decide ((i : Int) = 11) = true := by rw [decide_eq_true_eq]; omega
        rw [if_pos h11]
        walk_at "s1"
        rw [h12]
        refine br_T rfl (.ofV (oc_neD g.toGd.w0 (p := .list [.bool false, .bool false, .bool true, .bool false]) (q := .list [.bool false, .bool false, .bool true, .bool false]) rfl rfl rfl rfl) ?_)
        rw [PySem.SeqAt.eqv_refl _ rfl]
        refine ⟨_, rfl, br_F rfl (wSs_nil (wSs_nil ?_))⟩
        exact ⟨rfl, i + 1, rfl, _, _, _, _, _, _, rfl⟩
      · have h12 : decide ((i : Int) = 11) = false := by rw [decide_eq_false_iff_not]; omega
        rw [if_neg h11]
        walk_at "s1"
        rw [h12]
        refine br_F rfl (.ofV (oc_neD g.toGd.w0 (p := .list [.bool true, .bool true, .bool false, .bool false]) (q := .list [.bool true, .bool true, .bool false, .bool false]) rfl rfl rfl rfl) ?_)
        rw [PySem.SeqAt.eqv_refl _ rfl]
        refine ⟨_, rfl, br_F rfl (wSs_nil (wSs_nil ?_))⟩
        exact ⟨rfl, i + 1, rfl, _, _, _, _, _, _, rfl⟩
  · rintro ρ _ ⟨rfl, i, hi, o5, o6, o7, o8, o9, o10, rfl⟩
    walk_at "s1"
    refine wE_lcM v_w_right_c1 g_w_right_c1 o_w_right_c1 g (sc := defScope s_w_right) rfl (by decide +kernel) (show BlkOk n_w_right (defScope s_w_right) _ _ from ⟨rfl, by decide +kernel, by decide +kernel, by decide +kernel, by decide +kernel⟩) [a, a, a, a, a, a, a, a, a, a] id (fun _ => .bl true) ?_ (by simp only [List.length_cons, List.length_nil]; decide) ?_ ?_
    · refine wI_lst ?_
      walk_at "e"
      exact ⟨by simp only [List.map_id], rfl⟩
    · intro x hx K1 K2 hk
      have hxa : x = a := by simpa using hx
      subst hxa
      walk_at "blk"
      simp only [o_w_right_c1, List.map_cons, List.map_nil, wipeD, List.set_cons_succ, List.set_cons_zero]
      refine wGw_name gn (i := 10) (by walk_at "il") (by decide) ?_
      walk_at "e"
      walk_at "blk"
      refine wTs_nil (br_T rfl ?_)
      walk_at "blk"
      refine xE_call (fA T 3) g (by walk_at "in") T.g_w_alike T.F_w_alike.kp T.b_w_alike ?_
      walk_at "e"
      exact sp_alike3 T ha hk
    · walk_at "e"
      rw [show ([a, a, a, a, a, a, a, a, a, a] : List D).map (fun _ => D.bl true) = [true, true, true, true, true, true, true, true, true, true].map D.bl from rfl]
      refine wF_all g.toGd ?_
      refine ⟨_, rfl, br_T rfl ?_⟩
      walk_at "e"
      refine xE_call (fA T 3) g (by walk_at "in") T.g_w_alike T.F_w_alike.kp T.b_w_alike ?_
      walk_at "e"
      exact sp_alike3 T hb (.same h)
end
end


section
set_option hygiene false
local macro_rules | `(tactic| fail "c") => `(tactic| ((with_reducible refine chkC "_law_named" ?_); refine xE_call T.f_w_named g ?qa T.g_w_named T.F_w_named.kp T.b_w_named ?_; (case qa => (repeat (first | with_reducible exact In.z | with_reducible apply In.s)))))
local macro_rules | `(tactic| fail "c") => `(tactic| ((with_reducible refine chkC "_law_placed" ?_); refine xE_call T.f_w_placed g ?qa T.g_w_placed T.F_w_placed.kp T.b_w_placed ?_; (case qa => (repeat (first | with_reducible exact In.z | with_reducible apply In.s)))))
local macro_rules | `(tactic| fail "c") => `(tactic| ((with_reducible refine chkC "_law_box" ?_); refine xE_call T.f_w_box g ?qa T.g_w_box T.F_w_box.kp T.b_w_box ?_; (case qa => (repeat (first | with_reducible exact In.z | with_reducible apply In.s)))))
local macro_rules | `(tactic| fail "n") => `(tactic| ((with_reducible refine chkN "Ratio" ?_); refine xE_cls gn ?qa T.g_Ratio ?_; (case qa => (repeat (first | with_reducible exact In.z | with_reducible apply In.s)))))
local macro_rules | `(tactic| fail "n") => `(tactic| ((with_reducible refine chkN "UnknownIndex" ?_); refine xE_cls gn ?qa T.g_UnknownIndex ?_; (case qa => (repeat (first | with_reducible exact In.z | with_reducible apply In.s)))))
local macro_rules | `(tactic| fail "n") => `(tactic| ((with_reducible refine chkN "TrialError" ?_); refine xE_cls gn ?qa T.g_TrialError ?_; (case qa => (repeat (first | with_reducible exact In.z | with_reducible apply In.s)))))
local macro_rules | `(tactic| fail "n") => `(tactic| ((with_reducible refine chkN "Overfull" ?_); refine xE_cls gn ?qa T.g_Overfull ?_; (case qa => (repeat (first | with_reducible exact In.z | with_reducible apply In.s)))))
local macro_rules | `(tactic| fail "n") => `(tactic| ((with_reducible refine chkN "OutOfGround" ?_); refine xE_cls gn ?qa T.g_OutOfGround ?_; (case qa => (repeat (first | with_reducible exact In.z | with_reducible apply In.s)))))
local macro_rules | `(tactic| fail "n") => `(tactic| ((with_reducible refine chkN "Touching" ?_); refine xE_cls gn ?qa T.g_Touching ?_; (case qa => (repeat (first | with_reducible exact In.z | with_reducible apply In.s)))))
local macro_rules | `(tactic| fail "n") => `(tactic| ((with_reducible refine chkN "MissingDrop" ?_); refine xE_cls gn ?qa T.g_MissingDrop ?_; (case qa => (repeat (first | with_reducible exact In.z | with_reducible apply In.s)))))
local macro_rules | `(tactic| fail "n") => `(tactic| ((with_reducible refine chkN "Full" ?_); refine xE_cls gn ?qa T.g_Full ?_; (case qa => (repeat (first | with_reducible exact In.z | with_reducible apply In.s)))))
local macro_rules | `(tactic| fail "n") => `(tactic| ((with_reducible refine chkN "InvalidCommand" ?_); refine xE_cls gn ?qa T.g_InvalidCommand ?_; (case qa => (repeat (first | with_reducible exact In.z | with_reducible apply In.s)))))
local macro_rules | `(tactic| fail "n") => `(tactic| ((with_reducible refine chkN "InvalidText" ?_); refine xE_cls gn ?qa T.g_InvalidText ?_; (case qa => (repeat (first | with_reducible exact In.z | with_reducible apply In.s)))))
local macro_rules | `(tactic| fail "n") => `(tactic| ((with_reducible refine chkN "InvalidTime" ?_); refine xE_cls gn ?qa T.g_InvalidTime ?_; (case qa => (repeat (first | with_reducible exact In.z | with_reducible apply In.s)))))
local macro_rules | `(tactic| fail "n") => `(tactic| ((with_reducible refine chkN "InvalidDrop" ?_); refine xE_cls gn ?qa T.g_InvalidDrop ?_; (case qa => (repeat (first | with_reducible exact In.z | with_reducible apply In.s)))))
local macro_rules | `(tactic| fail "n") => `(tactic| ((with_reducible refine chkN "InvalidNumber" ?_); refine xE_cls gn ?qa T.g_InvalidNumber ?_; (case qa => (repeat (first | with_reducible exact In.z | with_reducible apply In.s)))))
local macro_rules | `(tactic| fail "n") => `(tactic| ((with_reducible refine chkN "PoolError" ?_); refine xE_cls gn ?qa T.g_PoolError ?_; (case qa => (repeat (first | with_reducible exact In.z | with_reducible apply In.s)))))
section
variable {P : Program} {w : World} {K : PySem.W.Frag} {mg : Str → Option Value} {base : Heap} (T : Tx K mg)
abbrev lvl_law : Nat := 110
theorem binds_law (T : Tx K mg) (s : Shared) (u : Value) : BindsTo s T.fd_law ⟨[u], []⟩ [("_law_script", u)] := by
  obtain ⟨oc, od, dV, kV, doc, pm, an, cdv, ct, osl, e, look, hcode, hD, _⟩ := T.F_law.ex
  rcases hD with ⟨_, rfl⟩ | ⟨z, _⟩
  · rw [e]
    exact .of_eq rfl
  · exact (z rfl).elim
theorem mem_range {d : D} {n : Nat} (h : d ∈ rangeD 0 n) : ∃ i : Nat, i < n ∧ d = .int (i : Int) := by
  obtain ⟨i, hi, rfl⟩ := List.mem_map.mp h
  exact ⟨i, List.mem_range.mp hi, by simp⟩
theorem ok_law : FnG P w K mg base lvl_law T.a_law T.fd_law ["_law_script"] (spR K (RLaw Scr)) := by
  refine SpF.rel (f := ⟨T.a_law, T.fd_law, ["_law_script"], lvl_law⟩) ?_
  rintro ds μ o ⟨ns, hs, rfl, rfl, rfl⟩
  refine spX_of T.F_law sc_law ck_law rfl ?_
  walk_at "start"
  have sl : (1000000 : Nat) ≤ sizeLine := by rw [sizeLine_eq]; decide
  refine wSs_cons (wS_for g.po g.calm (wI_range1 T.n_range ?_))
  walk_at "e"
  refine ⟨⟨by omega, by omega⟩, ?_⟩
  refine wFor_inv (fun ds ρ μ => (∀ d ∈ ds, ∃ i : Nat, i < 4 ∧ d = .int i) ∧ ∃ o1 o2 o3 o4 o5 o6 o7, ρ = [some (.scr (ns.map D.int)), o1, o2, o3, o4, o5, o6, o7]) ?_ ?_ _ _ _ ⟨fun d hd => ?_, _, _, _, _, _, _, _, rfl⟩
  rotate_left
  · rintro ρ μ ⟨_, o1, o2, o3, o4, o5, o6, o7, rfl⟩
    walk_at "wp"
    exact RetOk.low (μ := []) rfl rfl
  · obtain ⟨i, hi, rfl⟩ := mem_range hd
    exact ⟨i, by omega, rfl⟩
  rintro d ds ρ μ ⟨hds, o1, o2, o3, o4, o5, o6, o7, rfl⟩
  obtain ⟨i, hi, rfl⟩ := hds d (by simp)
  have hrest : ∀ d ∈ ds, ∃ i : Nat, i < 4 ∧ d = .int i := fun d hd => hds d (by simp [hd])
  walk_at "e"
  walk_at "s1"
  refine sp_box T (by omega) (by omega) ?_
  walk_at "e"
  have hμ : (μ ++ [M.box])[μ.length]? = some .box := at_last
  generalize hm : μ ++ [M.box] = μ1 at *
  generalize hb : μ.length = b at *
  clear hm hb
  walk_at "s1"
  refine xE_call (fV T 3) g (by walk_at "in") T.g_w_value T.F_w_value.kp T.b_w_value ?_
  walk_at "e"
  refine sp_value3 T hμ fun da hda => ?_
  walk_at "e"
  refine xE_call (fV T 3) g (by walk_at "in") T.g_w_value T.F_w_value.kp T.b_w_value ?_
  walk_at "e"
  refine sp_value3 T hμ fun db hdb => ?_
  walk_at "e"
  refine wSs_cons (wS_for g.po g.calm (wI_tup ?_))
  walk_at "e"
  refine sp_placed T ?_
  walk_at "e"
  refine sp_named T ?_
  walk_at "e"
  refine wFor_inv (fun ds ρ μ' => μ1 = μ' ∧ (∀ d ∈ ds, d = .tup [.lst (errs T da db), .lst [da, da, da, da, da, da, da, da, da, da], db]) ∧ ∃ o5 o6 o7, ρ = [some (.scr (ns.map D.int)), some (.int i), some (.loc b), some da, some db, o5, o6, o7]) ?_ ?_ _ _ _ ⟨rfl, fun d hd => by simpa using hd, _, _, _, rfl⟩
  · rintro d ds ρ _ ⟨rfl, hd, o5, o6, o7, rfl⟩
    obtain rfl := hd d (by simp)
    have hd2 : ∀ d ∈ ds, d = .tup [.lst (errs T da db), .lst [da, da, da, da, da, da, da, da, da, da], db] := fun d h => hd d (by simp [h])
    walk_at "e"
    walk_at "s1"
    refine xE_call (fR T) g (by walk_at "in") T.g_w_right T.F_w_right.kp T.b_w_right ?_
    walk_at "e"
    refine sp_right T hda hdb ?_
    walk_at "e"
    refine br_F rfl (wSs_nil ?_)
    exact wSs_nil ⟨rfl, hd2, _, _, _, rfl⟩
  · rintro ρ _ ⟨rfl, _, o5, o6, o7, rfl⟩
    exact wSs_nil ⟨hrest, _, _, _, _, _, _, _, rfl⟩
end
end

end PM

set_option Elab.async false
set_option linter.all false
set_option maxRecDepth 100000
set_option maxHeartbeats 4000000
namespace PM
open PySem L2
theorem tx_mk {K : PySem.W.Frag} {h : Heap} {mg : Str → Option Value} {fa : Addr} (X : K.In h) (G : h.Ns mainGlobals mg) (hfa : mg "law" = some (.ref fa))
    {C_PoolError : Addr}
    {nm_PoolError q_PoolError : Str} {N_PoolError : Addr} {bs_PoolError : List Value} {sn_PoolError : List Str} {sub_PoolError : List Value} {ab_PoolError : Bool} {col_PoolError : Option Bool} {dd_PoolError : Option Addr} {m0_PoolError m1_PoolError m2_PoolError m3_PoolError m5_PoolError : Option Value}
    {C_InvalidNumber : Addr}
    {nm_InvalidNumber q_InvalidNumber : Str} {N_InvalidNumber : Addr} {bs_InvalidNumber : List Value} {sn_InvalidNumber : List Str} {sub_InvalidNumber : List Value} {ab_InvalidNumber : Bool} {col_InvalidNumber : Option Bool} {dd_InvalidNumber : Option Addr} {m0_InvalidNumber m1_InvalidNumber m2_InvalidNumber m3_InvalidNumber m5_InvalidNumber : Option Value}
    {C_InvalidDrop : Addr}
    {nm_InvalidDrop q_InvalidDrop : Str} {N_InvalidDrop : Addr} {bs_InvalidDrop : List Value} {sn_InvalidDrop : List Str} {sub_InvalidDrop : List Value} {ab_InvalidDrop : Bool} {col_InvalidDrop : Option Bool} {dd_InvalidDrop : Option Addr} {m0_InvalidDrop m1_InvalidDrop m2_InvalidDrop m3_InvalidDrop m5_InvalidDrop : Option Value}
    {C_InvalidTime : Addr}
    {nm_InvalidTime q_InvalidTime : Str} {N_InvalidTime : Addr} {bs_InvalidTime : List Value} {sn_InvalidTime : List Str} {sub_InvalidTime : List Value} {ab_InvalidTime : Bool} {col_InvalidTime : Option Bool} {dd_InvalidTime : Option Addr} {m0_InvalidTime m1_InvalidTime m2_InvalidTime m3_InvalidTime m5_InvalidTime : Option Value}
    {C_InvalidText : Addr}
    {nm_InvalidText q_InvalidText : Str} {N_InvalidText : Addr} {bs_InvalidText : List Value} {sn_InvalidText : List Str} {sub_InvalidText : List Value} {ab_InvalidText : Bool} {col_InvalidText : Option Bool} {dd_InvalidText : Option Addr} {m0_InvalidText m1_InvalidText m2_InvalidText m3_InvalidText m5_InvalidText : Option Value}
    {C_InvalidCommand : Addr}
    {nm_InvalidCommand q_InvalidCommand : Str} {N_InvalidCommand : Addr} {bs_InvalidCommand : List Value} {sn_InvalidCommand : List Str} {sub_InvalidCommand : List Value} {ab_InvalidCommand : Bool} {col_InvalidCommand : Option Bool} {dd_InvalidCommand : Option Addr} {m0_InvalidCommand m1_InvalidCommand m2_InvalidCommand m3_InvalidCommand m5_InvalidCommand : Option Value}
    {C_Full : Addr}
    {nm_Full q_Full : Str} {N_Full : Addr} {bs_Full : List Value} {sn_Full : List Str} {sub_Full : List Value} {ab_Full : Bool} {col_Full : Option Bool} {dd_Full : Option Addr} {m0_Full m1_Full m2_Full m3_Full m5_Full : Option Value}
    {C_MissingDrop : Addr}
    {nm_MissingDrop q_MissingDrop : Str} {N_MissingDrop : Addr} {bs_MissingDrop : List Value} {sn_MissingDrop : List Str} {sub_MissingDrop : List Value} {ab_MissingDrop : Bool} {col_MissingDrop : Option Bool} {dd_MissingDrop : Option Addr} {m0_MissingDrop m1_MissingDrop m2_MissingDrop m3_MissingDrop m5_MissingDrop : Option Value}
    {C_Touching : Addr}
    {nm_Touching q_Touching : Str} {N_Touching : Addr} {bs_Touching : List Value} {sn_Touching : List Str} {sub_Touching : List Value} {ab_Touching : Bool} {col_Touching : Option Bool} {dd_Touching : Option Addr} {m0_Touching m1_Touching m2_Touching m3_Touching m5_Touching : Option Value}
    {C_OutOfGround : Addr}
    {nm_OutOfGround q_OutOfGround : Str} {N_OutOfGround : Addr} {bs_OutOfGround : List Value} {sn_OutOfGround : List Str} {sub_OutOfGround : List Value} {ab_OutOfGround : Bool} {col_OutOfGround : Option Bool} {dd_OutOfGround : Option Addr} {m0_OutOfGround m1_OutOfGround m2_OutOfGround m3_OutOfGround m5_OutOfGround : Option Value}
    {C_Overfull : Addr}
    {nm_Overfull q_Overfull : Str} {N_Overfull : Addr} {bs_Overfull : List Value} {sn_Overfull : List Str} {sub_Overfull : List Value} {ab_Overfull : Bool} {col_Overfull : Option Bool} {dd_Overfull : Option Addr} {m0_Overfull m1_Overfull m2_Overfull m3_Overfull m5_Overfull : Option Value}
    {C_TrialError : Addr}
    {nm_TrialError q_TrialError : Str} {N_TrialError : Addr} {bs_TrialError : List Value} {sn_TrialError : List Str} {sub_TrialError : List Value} {ab_TrialError : Bool} {col_TrialError : Option Bool} {dd_TrialError : Option Addr} {m0_TrialError m1_TrialError m2_TrialError m3_TrialError m5_TrialError : Option Value}
    {C_UnknownIndex : Addr}
    {nm_UnknownIndex q_UnknownIndex : Str} {N_UnknownIndex : Addr} {bs_UnknownIndex : List Value} {sn_UnknownIndex : List Str} {sub_UnknownIndex : List Value} {ab_UnknownIndex : Bool} {col_UnknownIndex : Option Bool} {dd_UnknownIndex : Option Addr} {m0_UnknownIndex m1_UnknownIndex m2_UnknownIndex m3_UnknownIndex m5_UnknownIndex : Option Value}
    {C_Ratio : Addr}
    {lo_Ratio : Value} {ld_Ratio : Option Addr} {lc_Ratio : ClassData} {ls_Ratio : Array (Option Value)}
    {a_InvalidNumber_init : Addr} {oc_InvalidNumber_init kV_InvalidNumber_init dc_InvalidNumber_init pm_InvalidNumber_init cd_InvalidNumber_init ct_InvalidNumber_init : Value} {od_InvalidNumber_init an_InvalidNumber_init : Option Addr} {sl_InvalidNumber_init : Array (Option Value)}
    {a_InvalidDrop_init : Addr} {oc_InvalidDrop_init kV_InvalidDrop_init dc_InvalidDrop_init pm_InvalidDrop_init cd_InvalidDrop_init ct_InvalidDrop_init : Value} {od_InvalidDrop_init an_InvalidDrop_init : Option Addr} {sl_InvalidDrop_init : Array (Option Value)}
    {a_InvalidTime_init : Addr} {oc_InvalidTime_init kV_InvalidTime_init dc_InvalidTime_init pm_InvalidTime_init cd_InvalidTime_init ct_InvalidTime_init : Value} {od_InvalidTime_init an_InvalidTime_init : Option Addr} {sl_InvalidTime_init : Array (Option Value)}
    {a_InvalidText_init : Addr} {oc_InvalidText_init kV_InvalidText_init dc_InvalidText_init pm_InvalidText_init cd_InvalidText_init ct_InvalidText_init : Value} {od_InvalidText_init an_InvalidText_init : Option Addr} {sl_InvalidText_init : Array (Option Value)}
    {a_InvalidCommand_init : Addr} {oc_InvalidCommand_init kV_InvalidCommand_init dc_InvalidCommand_init pm_InvalidCommand_init cd_InvalidCommand_init ct_InvalidCommand_init : Value} {od_InvalidCommand_init an_InvalidCommand_init : Option Addr} {sl_InvalidCommand_init : Array (Option Value)}
    {a_Full_init : Addr} {oc_Full_init kV_Full_init dc_Full_init pm_Full_init cd_Full_init ct_Full_init : Value} {od_Full_init an_Full_init : Option Addr} {sl_Full_init : Array (Option Value)}
    {a_MissingDrop_init : Addr} {oc_MissingDrop_init kV_MissingDrop_init dc_MissingDrop_init pm_MissingDrop_init cd_MissingDrop_init ct_MissingDrop_init : Value} {od_MissingDrop_init an_MissingDrop_init : Option Addr} {sl_MissingDrop_init : Array (Option Value)}
    {a_Touching_init : Addr} {oc_Touching_init kV_Touching_init dc_Touching_init pm_Touching_init cd_Touching_init ct_Touching_init : Value} {od_Touching_init an_Touching_init : Option Addr} {sl_Touching_init : Array (Option Value)}
    {a_OutOfGround_init : Addr} {oc_OutOfGround_init kV_OutOfGround_init dc_OutOfGround_init pm_OutOfGround_init cd_OutOfGround_init ct_OutOfGround_init : Value} {od_OutOfGround_init an_OutOfGround_init : Option Addr} {sl_OutOfGround_init : Array (Option Value)}
    {a_Overfull_init : Addr} {oc_Overfull_init kV_Overfull_init dc_Overfull_init pm_Overfull_init cd_Overfull_init ct_Overfull_init : Value} {od_Overfull_init an_Overfull_init : Option Addr} {sl_Overfull_init : Array (Option Value)}
    {a_TrialError_init : Addr} {oc_TrialError_init kV_TrialError_init dc_TrialError_init pm_TrialError_init cd_TrialError_init ct_TrialError_init : Value} {od_TrialError_init an_TrialError_init : Option Addr} {sl_TrialError_init : Array (Option Value)}
    {a_UnknownIndex_init : Addr} {oc_UnknownIndex_init kV_UnknownIndex_init dc_UnknownIndex_init pm_UnknownIndex_init cd_UnknownIndex_init ct_UnknownIndex_init : Value} {od_UnknownIndex_init an_UnknownIndex_init : Option Addr} {sl_UnknownIndex_init : Array (Option Value)}
    {a_is_integer : Addr} {oc_is_integer kV_is_integer dc_is_integer pm_is_integer cd_is_integer ct_is_integer : Value} {od_is_integer an_is_integer : Option Addr} {sl_is_integer : Array (Option Value)}
    {a_is_number : Addr} {oc_is_number kV_is_number dc_is_number pm_is_number cd_is_number ct_is_number : Value} {od_is_number an_is_number : Option Addr} {sl_is_number : Array (Option Value)}
    {a_as_ratio : Addr} {oc_as_ratio kV_as_ratio dc_as_ratio pm_as_ratio cd_as_ratio ct_as_ratio : Value} {od_as_ratio an_as_ratio : Option Addr} {sl_as_ratio : Array (Option Value)}
    {a_common_divisor : Addr} {oc_common_divisor kV_common_divisor dc_common_divisor pm_common_divisor cd_common_divisor ct_common_divisor : Value} {od_common_divisor an_common_divisor : Option Addr} {sl_common_divisor : Array (Option Value)}
    {a_Ratio_init : Addr} {oc_Ratio_init kV_Ratio_init dc_Ratio_init pm_Ratio_init cd_Ratio_init ct_Ratio_init : Value} {od_Ratio_init an_Ratio_init : Option Addr} {sl_Ratio_init : Array (Option Value)}
    {T_Ratio_init : Addr} {nn_Ratio_init : Nat}
    {dk_Ratio_init : Tok} {cl_Ratio_init : Value} {sd_Ratio_init : Option Addr} {ss_Ratio_init : Array (Option Value)}
    {a_w_box : Addr} {oc_w_box kV_w_box dc_w_box pm_w_box cd_w_box ct_w_box : Value} {od_w_box an_w_box : Option Addr} {sl_w_box : Array (Option Value)}
    {a_w_take : Addr} {oc_w_take kV_w_take dc_w_take pm_w_take cd_w_take ct_w_take : Value} {od_w_take an_w_take : Option Addr} {sl_w_take : Array (Option Value)}
    {a_w_value : Addr} {oc_w_value kV_w_value dc_w_value pm_w_value cd_w_value ct_w_value : Value} {od_w_value an_w_value : Option Addr} {sl_w_value : Array (Option Value)}
    {a_w_alike : Addr} {oc_w_alike kV_w_alike dc_w_alike pm_w_alike cd_w_alike ct_w_alike : Value} {od_w_alike an_w_alike : Option Addr} {sl_w_alike : Array (Option Value)}
    {a_w_placed : Addr} {oc_w_placed kV_w_placed dc_w_placed pm_w_placed cd_w_placed ct_w_placed : Value} {od_w_placed an_w_placed : Option Addr} {sl_w_placed : Array (Option Value)}
    {a_w_named : Addr} {oc_w_named kV_w_named dc_w_named pm_w_named cd_w_named ct_w_named : Value} {od_w_named an_w_named : Option Addr} {sl_w_named : Array (Option Value)}
    {a_w_kinds : Addr} {oc_w_kinds kV_w_kinds dc_w_kinds pm_w_kinds cd_w_kinds ct_w_kinds : Value} {od_w_kinds an_w_kinds : Option Addr} {sl_w_kinds : Array (Option Value)}
    {a_w_right : Addr} {oc_w_right kV_w_right dc_w_right pm_w_right cd_w_right ct_w_right : Value} {od_w_right an_w_right : Option Addr} {sl_w_right : Array (Option Value)}
    {a_law : Addr} {oc_law kV_law dc_law pm_law cd_law ct_law : Value} {od_law an_law : Option Addr} {sl_law : Array (Option Value)}
    {tk_DIGITS : Tok}
    {tk_MOST_DIGITS : Tok}
    (g_PoolError : PySem.W.nsIn K mainGlobals "PoolError" = some (some (.ref C_PoolError)))
    (x_PoolError : K.lookup C_PoolError = some (excClassObj nm_PoolError q_PoolError C_PoolError N_PoolError bs_PoolError [.type "ValueError", .type "Exception", .type "BaseException", .type "object"] true sn_PoolError sub_PoolError ab_PoolError col_PoolError dd_PoolError m0_PoolError m1_PoolError m2_PoolError m3_PoolError m5_PoolError "ValueError.__new__"))
    (sa_PoolError : PySem.W.findIn K (.ref C_PoolError) "__setattr__" = some (some (.builtin "object.__setattr__")))
    (ex_PoolError : PySem.W.subIn K (.ref C_PoolError) (.type "BaseException") = some true)
    (ty_PoolError : PySem.W.typeIn K (.ref C_PoolError) = some (.type "type"))
    (kp_PoolError : PySem.W.keepIn K (.ref C_PoolError) = true)
    (ur_PoolError : PySem.W.readsIn K C_PoolError (.type "type") = true)
    (ug_PoolError : PySem.W.specialIn K (.ref C_PoolError) "__getattribute__" = some (some (.builtin "type.__getattribute__")))
    (uf_PoolError : PySem.W.findCls K (.ref C_PoolError) (.type "type") "__init__" = some (.val (.builtin "ValueError.__init__")))
    (g_InvalidNumber : PySem.W.nsIn K mainGlobals "InvalidNumber" = some (some (.ref C_InvalidNumber)))
    (x_InvalidNumber : K.lookup C_InvalidNumber = some (excClassObj nm_InvalidNumber q_InvalidNumber C_InvalidNumber N_InvalidNumber bs_InvalidNumber [.ref C_PoolError, .type "ValueError", .type "Exception", .type "BaseException", .type "object"] true sn_InvalidNumber sub_InvalidNumber ab_InvalidNumber col_InvalidNumber dd_InvalidNumber m0_InvalidNumber m1_InvalidNumber m2_InvalidNumber m3_InvalidNumber m5_InvalidNumber "ValueError.__new__"))
    (sa_InvalidNumber : PySem.W.findIn K (.ref C_InvalidNumber) "__setattr__" = some (some (.builtin "object.__setattr__")))
    (ex_InvalidNumber : PySem.W.subIn K (.ref C_InvalidNumber) (.type "BaseException") = some true)
    (ty_InvalidNumber : PySem.W.typeIn K (.ref C_InvalidNumber) = some (.type "type"))
    (kp_InvalidNumber : PySem.W.keepIn K (.ref C_InvalidNumber) = true)
    (xg_InvalidNumber : PySem.W.findIn K (.ref C_InvalidNumber) "__getattribute__" = some (some (.builtin "BaseException.__getattribute__")))
    (xn_InvalidNumber : PySem.W.findIn K (.ref C_InvalidNumber) "__getattr__" = some none)
    (xh_InvalidNumber : PySem.W.hasDictIn K C_InvalidNumber = true)
    (xi_InvalidNumber : PySem.W.isClsIn K C_InvalidNumber = true)
    (xs_InvalidNumber : PySem.W.subIn K (.ref C_InvalidNumber) (.ref C_InvalidNumber) = some true)
    (na_InvalidNumber_value : PySem.W.findIn K (.ref C_InvalidNumber) "value" = some none)
    (g_InvalidDrop : PySem.W.nsIn K mainGlobals "InvalidDrop" = some (some (.ref C_InvalidDrop)))
    (x_InvalidDrop : K.lookup C_InvalidDrop = some (excClassObj nm_InvalidDrop q_InvalidDrop C_InvalidDrop N_InvalidDrop bs_InvalidDrop [.ref C_PoolError, .type "ValueError", .type "Exception", .type "BaseException", .type "object"] true sn_InvalidDrop sub_InvalidDrop ab_InvalidDrop col_InvalidDrop dd_InvalidDrop m0_InvalidDrop m1_InvalidDrop m2_InvalidDrop m3_InvalidDrop m5_InvalidDrop "ValueError.__new__"))
    (sa_InvalidDrop : PySem.W.findIn K (.ref C_InvalidDrop) "__setattr__" = some (some (.builtin "object.__setattr__")))
    (ex_InvalidDrop : PySem.W.subIn K (.ref C_InvalidDrop) (.type "BaseException") = some true)
    (ty_InvalidDrop : PySem.W.typeIn K (.ref C_InvalidDrop) = some (.type "type"))
    (kp_InvalidDrop : PySem.W.keepIn K (.ref C_InvalidDrop) = true)
    (xg_InvalidDrop : PySem.W.findIn K (.ref C_InvalidDrop) "__getattribute__" = some (some (.builtin "BaseException.__getattribute__")))
    (xn_InvalidDrop : PySem.W.findIn K (.ref C_InvalidDrop) "__getattr__" = some none)
    (xh_InvalidDrop : PySem.W.hasDictIn K C_InvalidDrop = true)
    (xi_InvalidDrop : PySem.W.isClsIn K C_InvalidDrop = true)
    (xs_InvalidDrop : PySem.W.subIn K (.ref C_InvalidDrop) (.ref C_InvalidDrop) = some true)
    (na_InvalidDrop_index : PySem.W.findIn K (.ref C_InvalidDrop) "index" = some none)
    (g_InvalidTime : PySem.W.nsIn K mainGlobals "InvalidTime" = some (some (.ref C_InvalidTime)))
    (x_InvalidTime : K.lookup C_InvalidTime = some (excClassObj nm_InvalidTime q_InvalidTime C_InvalidTime N_InvalidTime bs_InvalidTime [.ref C_PoolError, .type "ValueError", .type "Exception", .type "BaseException", .type "object"] true sn_InvalidTime sub_InvalidTime ab_InvalidTime col_InvalidTime dd_InvalidTime m0_InvalidTime m1_InvalidTime m2_InvalidTime m3_InvalidTime m5_InvalidTime "ValueError.__new__"))
    (sa_InvalidTime : PySem.W.findIn K (.ref C_InvalidTime) "__setattr__" = some (some (.builtin "object.__setattr__")))
    (ex_InvalidTime : PySem.W.subIn K (.ref C_InvalidTime) (.type "BaseException") = some true)
    (ty_InvalidTime : PySem.W.typeIn K (.ref C_InvalidTime) = some (.type "type"))
    (kp_InvalidTime : PySem.W.keepIn K (.ref C_InvalidTime) = true)
    (xg_InvalidTime : PySem.W.findIn K (.ref C_InvalidTime) "__getattribute__" = some (some (.builtin "BaseException.__getattribute__")))
    (xn_InvalidTime : PySem.W.findIn K (.ref C_InvalidTime) "__getattr__" = some none)
    (xh_InvalidTime : PySem.W.hasDictIn K C_InvalidTime = true)
    (xi_InvalidTime : PySem.W.isClsIn K C_InvalidTime = true)
    (xs_InvalidTime : PySem.W.subIn K (.ref C_InvalidTime) (.ref C_InvalidTime) = some true)
    (na_InvalidTime_time : PySem.W.findIn K (.ref C_InvalidTime) "time" = some none)
    (g_InvalidText : PySem.W.nsIn K mainGlobals "InvalidText" = some (some (.ref C_InvalidText)))
    (x_InvalidText : K.lookup C_InvalidText = some (excClassObj nm_InvalidText q_InvalidText C_InvalidText N_InvalidText bs_InvalidText [.ref C_PoolError, .type "ValueError", .type "Exception", .type "BaseException", .type "object"] true sn_InvalidText sub_InvalidText ab_InvalidText col_InvalidText dd_InvalidText m0_InvalidText m1_InvalidText m2_InvalidText m3_InvalidText m5_InvalidText "ValueError.__new__"))
    (sa_InvalidText : PySem.W.findIn K (.ref C_InvalidText) "__setattr__" = some (some (.builtin "object.__setattr__")))
    (ex_InvalidText : PySem.W.subIn K (.ref C_InvalidText) (.type "BaseException") = some true)
    (ty_InvalidText : PySem.W.typeIn K (.ref C_InvalidText) = some (.type "type"))
    (kp_InvalidText : PySem.W.keepIn K (.ref C_InvalidText) = true)
    (xg_InvalidText : PySem.W.findIn K (.ref C_InvalidText) "__getattribute__" = some (some (.builtin "BaseException.__getattribute__")))
    (xn_InvalidText : PySem.W.findIn K (.ref C_InvalidText) "__getattr__" = some none)
    (xh_InvalidText : PySem.W.hasDictIn K C_InvalidText = true)
    (xi_InvalidText : PySem.W.isClsIn K C_InvalidText = true)
    (xs_InvalidText : PySem.W.subIn K (.ref C_InvalidText) (.ref C_InvalidText) = some true)
    (na_InvalidText_line : PySem.W.findIn K (.ref C_InvalidText) "line" = some none)
    (g_InvalidCommand : PySem.W.nsIn K mainGlobals "InvalidCommand" = some (some (.ref C_InvalidCommand)))
    (x_InvalidCommand : K.lookup C_InvalidCommand = some (excClassObj nm_InvalidCommand q_InvalidCommand C_InvalidCommand N_InvalidCommand bs_InvalidCommand [.ref C_PoolError, .type "ValueError", .type "Exception", .type "BaseException", .type "object"] true sn_InvalidCommand sub_InvalidCommand ab_InvalidCommand col_InvalidCommand dd_InvalidCommand m0_InvalidCommand m1_InvalidCommand m2_InvalidCommand m3_InvalidCommand m5_InvalidCommand "ValueError.__new__"))
    (sa_InvalidCommand : PySem.W.findIn K (.ref C_InvalidCommand) "__setattr__" = some (some (.builtin "object.__setattr__")))
    (ex_InvalidCommand : PySem.W.subIn K (.ref C_InvalidCommand) (.type "BaseException") = some true)
    (ty_InvalidCommand : PySem.W.typeIn K (.ref C_InvalidCommand) = some (.type "type"))
    (kp_InvalidCommand : PySem.W.keepIn K (.ref C_InvalidCommand) = true)
    (xg_InvalidCommand : PySem.W.findIn K (.ref C_InvalidCommand) "__getattribute__" = some (some (.builtin "BaseException.__getattribute__")))
    (xn_InvalidCommand : PySem.W.findIn K (.ref C_InvalidCommand) "__getattr__" = some none)
    (xh_InvalidCommand : PySem.W.hasDictIn K C_InvalidCommand = true)
    (xi_InvalidCommand : PySem.W.isClsIn K C_InvalidCommand = true)
    (xs_InvalidCommand : PySem.W.subIn K (.ref C_InvalidCommand) (.ref C_InvalidCommand) = some true)
    (g_Full : PySem.W.nsIn K mainGlobals "Full" = some (some (.ref C_Full)))
    (x_Full : K.lookup C_Full = some (excClassObj nm_Full q_Full C_Full N_Full bs_Full [.ref C_PoolError, .type "ValueError", .type "Exception", .type "BaseException", .type "object"] true sn_Full sub_Full ab_Full col_Full dd_Full m0_Full m1_Full m2_Full m3_Full m5_Full "ValueError.__new__"))
    (sa_Full : PySem.W.findIn K (.ref C_Full) "__setattr__" = some (some (.builtin "object.__setattr__")))
    (ex_Full : PySem.W.subIn K (.ref C_Full) (.type "BaseException") = some true)
    (ty_Full : PySem.W.typeIn K (.ref C_Full) = some (.type "type"))
    (kp_Full : PySem.W.keepIn K (.ref C_Full) = true)
    (xg_Full : PySem.W.findIn K (.ref C_Full) "__getattribute__" = some (some (.builtin "BaseException.__getattribute__")))
    (xn_Full : PySem.W.findIn K (.ref C_Full) "__getattr__" = some none)
    (xh_Full : PySem.W.hasDictIn K C_Full = true)
    (xi_Full : PySem.W.isClsIn K C_Full = true)
    (xs_Full : PySem.W.subIn K (.ref C_Full) (.ref C_Full) = some true)
    (na_Full_limit : PySem.W.findIn K (.ref C_Full) "limit" = some none)
    (g_MissingDrop : PySem.W.nsIn K mainGlobals "MissingDrop" = some (some (.ref C_MissingDrop)))
    (x_MissingDrop : K.lookup C_MissingDrop = some (excClassObj nm_MissingDrop q_MissingDrop C_MissingDrop N_MissingDrop bs_MissingDrop [.ref C_PoolError, .type "ValueError", .type "Exception", .type "BaseException", .type "object"] true sn_MissingDrop sub_MissingDrop ab_MissingDrop col_MissingDrop dd_MissingDrop m0_MissingDrop m1_MissingDrop m2_MissingDrop m3_MissingDrop m5_MissingDrop "ValueError.__new__"))
    (sa_MissingDrop : PySem.W.findIn K (.ref C_MissingDrop) "__setattr__" = some (some (.builtin "object.__setattr__")))
    (ex_MissingDrop : PySem.W.subIn K (.ref C_MissingDrop) (.type "BaseException") = some true)
    (ty_MissingDrop : PySem.W.typeIn K (.ref C_MissingDrop) = some (.type "type"))
    (kp_MissingDrop : PySem.W.keepIn K (.ref C_MissingDrop) = true)
    (xg_MissingDrop : PySem.W.findIn K (.ref C_MissingDrop) "__getattribute__" = some (some (.builtin "BaseException.__getattribute__")))
    (xn_MissingDrop : PySem.W.findIn K (.ref C_MissingDrop) "__getattr__" = some none)
    (xh_MissingDrop : PySem.W.hasDictIn K C_MissingDrop = true)
    (xi_MissingDrop : PySem.W.isClsIn K C_MissingDrop = true)
    (xs_MissingDrop : PySem.W.subIn K (.ref C_MissingDrop) (.ref C_MissingDrop) = some true)
    (na_MissingDrop_spot : PySem.W.findIn K (.ref C_MissingDrop) "spot" = some none)
    (na_MissingDrop_amount : PySem.W.findIn K (.ref C_MissingDrop) "amount" = some none)
    (g_Touching : PySem.W.nsIn K mainGlobals "Touching" = some (some (.ref C_Touching)))
    (x_Touching : K.lookup C_Touching = some (excClassObj nm_Touching q_Touching C_Touching N_Touching bs_Touching [.ref C_PoolError, .type "ValueError", .type "Exception", .type "BaseException", .type "object"] true sn_Touching sub_Touching ab_Touching col_Touching dd_Touching m0_Touching m1_Touching m2_Touching m3_Touching m5_Touching "ValueError.__new__"))
    (sa_Touching : PySem.W.findIn K (.ref C_Touching) "__setattr__" = some (some (.builtin "object.__setattr__")))
    (ex_Touching : PySem.W.subIn K (.ref C_Touching) (.type "BaseException") = some true)
    (ty_Touching : PySem.W.typeIn K (.ref C_Touching) = some (.type "type"))
    (kp_Touching : PySem.W.keepIn K (.ref C_Touching) = true)
    (xg_Touching : PySem.W.findIn K (.ref C_Touching) "__getattribute__" = some (some (.builtin "BaseException.__getattribute__")))
    (xn_Touching : PySem.W.findIn K (.ref C_Touching) "__getattr__" = some none)
    (xh_Touching : PySem.W.hasDictIn K C_Touching = true)
    (xi_Touching : PySem.W.isClsIn K C_Touching = true)
    (xs_Touching : PySem.W.subIn K (.ref C_Touching) (.ref C_Touching) = some true)
    (na_Touching_index : PySem.W.findIn K (.ref C_Touching) "index" = some none)
    (g_OutOfGround : PySem.W.nsIn K mainGlobals "OutOfGround" = some (some (.ref C_OutOfGround)))
    (x_OutOfGround : K.lookup C_OutOfGround = some (excClassObj nm_OutOfGround q_OutOfGround C_OutOfGround N_OutOfGround bs_OutOfGround [.ref C_PoolError, .type "ValueError", .type "Exception", .type "BaseException", .type "object"] true sn_OutOfGround sub_OutOfGround ab_OutOfGround col_OutOfGround dd_OutOfGround m0_OutOfGround m1_OutOfGround m2_OutOfGround m3_OutOfGround m5_OutOfGround "ValueError.__new__"))
    (sa_OutOfGround : PySem.W.findIn K (.ref C_OutOfGround) "__setattr__" = some (some (.builtin "object.__setattr__")))
    (ex_OutOfGround : PySem.W.subIn K (.ref C_OutOfGround) (.type "BaseException") = some true)
    (ty_OutOfGround : PySem.W.typeIn K (.ref C_OutOfGround) = some (.type "type"))
    (kp_OutOfGround : PySem.W.keepIn K (.ref C_OutOfGround) = true)
    (xg_OutOfGround : PySem.W.findIn K (.ref C_OutOfGround) "__getattribute__" = some (some (.builtin "BaseException.__getattribute__")))
    (xn_OutOfGround : PySem.W.findIn K (.ref C_OutOfGround) "__getattr__" = some none)
    (xh_OutOfGround : PySem.W.hasDictIn K C_OutOfGround = true)
    (xi_OutOfGround : PySem.W.isClsIn K C_OutOfGround = true)
    (xs_OutOfGround : PySem.W.subIn K (.ref C_OutOfGround) (.ref C_OutOfGround) = some true)
    (na_OutOfGround_spot : PySem.W.findIn K (.ref C_OutOfGround) "spot" = some none)
    (g_Overfull : PySem.W.nsIn K mainGlobals "Overfull" = some (some (.ref C_Overfull)))
    (x_Overfull : K.lookup C_Overfull = some (excClassObj nm_Overfull q_Overfull C_Overfull N_Overfull bs_Overfull [.ref C_PoolError, .type "ValueError", .type "Exception", .type "BaseException", .type "object"] true sn_Overfull sub_Overfull ab_Overfull col_Overfull dd_Overfull m0_Overfull m1_Overfull m2_Overfull m3_Overfull m5_Overfull "ValueError.__new__"))
    (sa_Overfull : PySem.W.findIn K (.ref C_Overfull) "__setattr__" = some (some (.builtin "object.__setattr__")))
    (ex_Overfull : PySem.W.subIn K (.ref C_Overfull) (.type "BaseException") = some true)
    (ty_Overfull : PySem.W.typeIn K (.ref C_Overfull) = some (.type "type"))
    (kp_Overfull : PySem.W.keepIn K (.ref C_Overfull) = true)
    (xg_Overfull : PySem.W.findIn K (.ref C_Overfull) "__getattribute__" = some (some (.builtin "BaseException.__getattribute__")))
    (xn_Overfull : PySem.W.findIn K (.ref C_Overfull) "__getattr__" = some none)
    (xh_Overfull : PySem.W.hasDictIn K C_Overfull = true)
    (xi_Overfull : PySem.W.isClsIn K C_Overfull = true)
    (xs_Overfull : PySem.W.subIn K (.ref C_Overfull) (.ref C_Overfull) = some true)
    (na_Overfull_total : PySem.W.findIn K (.ref C_Overfull) "total" = some none)
    (g_TrialError : PySem.W.nsIn K mainGlobals "TrialError" = some (some (.ref C_TrialError)))
    (x_TrialError : K.lookup C_TrialError = some (excClassObj nm_TrialError q_TrialError C_TrialError N_TrialError bs_TrialError [.ref C_PoolError, .type "ValueError", .type "Exception", .type "BaseException", .type "object"] true sn_TrialError sub_TrialError ab_TrialError col_TrialError dd_TrialError m0_TrialError m1_TrialError m2_TrialError m3_TrialError m5_TrialError "ValueError.__new__"))
    (sa_TrialError : PySem.W.findIn K (.ref C_TrialError) "__setattr__" = some (some (.builtin "object.__setattr__")))
    (ex_TrialError : PySem.W.subIn K (.ref C_TrialError) (.type "BaseException") = some true)
    (ty_TrialError : PySem.W.typeIn K (.ref C_TrialError) = some (.type "type"))
    (kp_TrialError : PySem.W.keepIn K (.ref C_TrialError) = true)
    (xg_TrialError : PySem.W.findIn K (.ref C_TrialError) "__getattribute__" = some (some (.builtin "BaseException.__getattribute__")))
    (xn_TrialError : PySem.W.findIn K (.ref C_TrialError) "__getattr__" = some none)
    (xh_TrialError : PySem.W.hasDictIn K C_TrialError = true)
    (xi_TrialError : PySem.W.isClsIn K C_TrialError = true)
    (xs_TrialError : PySem.W.subIn K (.ref C_TrialError) (.ref C_TrialError) = some true)
    (g_UnknownIndex : PySem.W.nsIn K mainGlobals "UnknownIndex" = some (some (.ref C_UnknownIndex)))
    (vi_IndexError : PySem.W.findCls K (.type "IndexError") (.type "type") "__init__" = some (.val (.builtin "IndexError.__init__")))
    (x_UnknownIndex : K.lookup C_UnknownIndex = some (excClassObj nm_UnknownIndex q_UnknownIndex C_UnknownIndex N_UnknownIndex bs_UnknownIndex [.type "IndexError", .type "LookupError", .type "Exception", .type "BaseException", .type "object"] true sn_UnknownIndex sub_UnknownIndex ab_UnknownIndex col_UnknownIndex dd_UnknownIndex m0_UnknownIndex m1_UnknownIndex m2_UnknownIndex m3_UnknownIndex m5_UnknownIndex "IndexError.__new__"))
    (sa_UnknownIndex : PySem.W.findIn K (.ref C_UnknownIndex) "__setattr__" = some (some (.builtin "object.__setattr__")))
    (ex_UnknownIndex : PySem.W.subIn K (.ref C_UnknownIndex) (.type "BaseException") = some true)
    (ty_UnknownIndex : PySem.W.typeIn K (.ref C_UnknownIndex) = some (.type "type"))
    (kp_UnknownIndex : PySem.W.keepIn K (.ref C_UnknownIndex) = true)
    (xg_UnknownIndex : PySem.W.findIn K (.ref C_UnknownIndex) "__getattribute__" = some (some (.builtin "BaseException.__getattribute__")))
    (xn_UnknownIndex : PySem.W.findIn K (.ref C_UnknownIndex) "__getattr__" = some none)
    (xh_UnknownIndex : PySem.W.hasDictIn K C_UnknownIndex = true)
    (xi_UnknownIndex : PySem.W.isClsIn K C_UnknownIndex = true)
    (xs_UnknownIndex : PySem.W.subIn K (.ref C_UnknownIndex) (.ref C_UnknownIndex) = some true)
    (na_UnknownIndex_index : PySem.W.findIn K (.ref C_UnknownIndex) "index" = some none)
    (g_Ratio : PySem.W.nsIn K mainGlobals "Ratio" = some (some (.ref C_Ratio)))
    (pg_Ratio : PySem.W.plainGet K C_Ratio Str.empty = true)
    (hd_Ratio : PySem.W.hasDictIn K C_Ratio = true)
    (po_Ratio : PySem.W.plainOver K C_Ratio = true)
    (sa_Ratio : PySem.W.findIn K (.ref C_Ratio) "__setattr__" = some (some (.builtin "object.__setattr__")))
    (ca_Ratio : PySem.W.findIn K (.ref C_Ratio) "__class__" = some (some (.builtin "object.__class__")))
    (cg_Ratio : PySem.W.specialIn K (.builtin "object.__class__") "__get__" = some (some (.builtin "getset_descriptor.__get__")))
    (ct_Ratio : PySem.W.takesIn K (.builtin "object.__class__") = some true)
    (lk_Ratio : K.lookup C_Ratio = some ⟨lo_Ratio, ld_Ratio, .cls lc_Ratio, ls_Ratio⟩)
    (mr_Ratio : lc_Ratio.mro = [.ref C_Ratio, .type "object"])
    (ty_Ratio : PySem.W.typeIn K (.ref C_Ratio) = some (.type "type"))
    (rd_Ratio : PySem.W.readsIn K C_Ratio (.type "type") = true)
    (gg_Ratio : PySem.W.specialIn K (.ref C_Ratio) "__getattribute__" = some (some (.builtin "type.__getattribute__")))
    (na_Ratio_top : PySem.W.findIn K (.ref C_Ratio) "top" = some none)
    (na_Ratio_bottom : PySem.W.findIn K (.ref C_Ratio) "bottom" = some none)
    (mi_Ratio : PySem.W.makesIn K C_Ratio = true)
    (kc_Ratio : PySem.W.keepIn K (.ref C_Ratio) = true)
    (i_InvalidNumber_init : PySem.W.findIn K (.ref C_InvalidNumber) "__init__" = some (some (.ref a_InvalidNumber_init)))
    (t_InvalidNumber_init : PySem.W.typeIn K (.ref a_InvalidNumber_init) = some (.type "function"))
    (l_InvalidNumber_init : K.lookup a_InvalidNumber_init = some ⟨oc_InvalidNumber_init, od_InvalidNumber_init, .func (PySem.W.fnOf "__init__" "InvalidNumber.__init__" (defArgs s_InvalidNumber_init) (defBody s_InvalidNumber_init) (defScope s_InvalidNumber_init) (.none) kV_InvalidNumber_init dc_InvalidNumber_init pm_InvalidNumber_init an_InvalidNumber_init cd_InvalidNumber_init ct_InvalidNumber_init), sl_InvalidNumber_init⟩)
    (c_InvalidNumber_init : PySem.W.codeIn K cd_InvalidNumber_init "InvalidNumber.__init__" = true)
    (k_InvalidNumber_init : PySem.W.keepIn K (.ref a_InvalidNumber_init) = true)
    (i_InvalidDrop_init : PySem.W.findIn K (.ref C_InvalidDrop) "__init__" = some (some (.ref a_InvalidDrop_init)))
    (t_InvalidDrop_init : PySem.W.typeIn K (.ref a_InvalidDrop_init) = some (.type "function"))
    (l_InvalidDrop_init : K.lookup a_InvalidDrop_init = some ⟨oc_InvalidDrop_init, od_InvalidDrop_init, .func (PySem.W.fnOf "__init__" "InvalidDrop.__init__" (defArgs s_InvalidDrop_init) (defBody s_InvalidDrop_init) (defScope s_InvalidDrop_init) (.none) kV_InvalidDrop_init dc_InvalidDrop_init pm_InvalidDrop_init an_InvalidDrop_init cd_InvalidDrop_init ct_InvalidDrop_init), sl_InvalidDrop_init⟩)
    (c_InvalidDrop_init : PySem.W.codeIn K cd_InvalidDrop_init "InvalidDrop.__init__" = true)
    (k_InvalidDrop_init : PySem.W.keepIn K (.ref a_InvalidDrop_init) = true)
    (i_InvalidTime_init : PySem.W.findIn K (.ref C_InvalidTime) "__init__" = some (some (.ref a_InvalidTime_init)))
    (t_InvalidTime_init : PySem.W.typeIn K (.ref a_InvalidTime_init) = some (.type "function"))
    (l_InvalidTime_init : K.lookup a_InvalidTime_init = some ⟨oc_InvalidTime_init, od_InvalidTime_init, .func (PySem.W.fnOf "__init__" "InvalidTime.__init__" (defArgs s_InvalidTime_init) (defBody s_InvalidTime_init) (defScope s_InvalidTime_init) (.none) kV_InvalidTime_init dc_InvalidTime_init pm_InvalidTime_init an_InvalidTime_init cd_InvalidTime_init ct_InvalidTime_init), sl_InvalidTime_init⟩)
    (c_InvalidTime_init : PySem.W.codeIn K cd_InvalidTime_init "InvalidTime.__init__" = true)
    (k_InvalidTime_init : PySem.W.keepIn K (.ref a_InvalidTime_init) = true)
    (i_InvalidText_init : PySem.W.findIn K (.ref C_InvalidText) "__init__" = some (some (.ref a_InvalidText_init)))
    (t_InvalidText_init : PySem.W.typeIn K (.ref a_InvalidText_init) = some (.type "function"))
    (l_InvalidText_init : K.lookup a_InvalidText_init = some ⟨oc_InvalidText_init, od_InvalidText_init, .func (PySem.W.fnOf "__init__" "InvalidText.__init__" (defArgs s_InvalidText_init) (defBody s_InvalidText_init) (defScope s_InvalidText_init) (.none) kV_InvalidText_init dc_InvalidText_init pm_InvalidText_init an_InvalidText_init cd_InvalidText_init ct_InvalidText_init), sl_InvalidText_init⟩)
    (c_InvalidText_init : PySem.W.codeIn K cd_InvalidText_init "InvalidText.__init__" = true)
    (k_InvalidText_init : PySem.W.keepIn K (.ref a_InvalidText_init) = true)
    (i_InvalidCommand_init : PySem.W.findIn K (.ref C_InvalidCommand) "__init__" = some (some (.ref a_InvalidCommand_init)))
    (t_InvalidCommand_init : PySem.W.typeIn K (.ref a_InvalidCommand_init) = some (.type "function"))
    (l_InvalidCommand_init : K.lookup a_InvalidCommand_init = some ⟨oc_InvalidCommand_init, od_InvalidCommand_init, .func (PySem.W.fnOf "__init__" "InvalidCommand.__init__" (defArgs s_InvalidCommand_init) (defBody s_InvalidCommand_init) (defScope s_InvalidCommand_init) (.none) kV_InvalidCommand_init dc_InvalidCommand_init pm_InvalidCommand_init an_InvalidCommand_init cd_InvalidCommand_init ct_InvalidCommand_init), sl_InvalidCommand_init⟩)
    (c_InvalidCommand_init : PySem.W.codeIn K cd_InvalidCommand_init "InvalidCommand.__init__" = true)
    (k_InvalidCommand_init : PySem.W.keepIn K (.ref a_InvalidCommand_init) = true)
    (i_Full_init : PySem.W.findIn K (.ref C_Full) "__init__" = some (some (.ref a_Full_init)))
    (t_Full_init : PySem.W.typeIn K (.ref a_Full_init) = some (.type "function"))
    (l_Full_init : K.lookup a_Full_init = some ⟨oc_Full_init, od_Full_init, .func (PySem.W.fnOf "__init__" "Full.__init__" (defArgs s_Full_init) (defBody s_Full_init) (defScope s_Full_init) (.none) kV_Full_init dc_Full_init pm_Full_init an_Full_init cd_Full_init ct_Full_init), sl_Full_init⟩)
    (c_Full_init : PySem.W.codeIn K cd_Full_init "Full.__init__" = true)
    (k_Full_init : PySem.W.keepIn K (.ref a_Full_init) = true)
    (i_MissingDrop_init : PySem.W.findIn K (.ref C_MissingDrop) "__init__" = some (some (.ref a_MissingDrop_init)))
    (t_MissingDrop_init : PySem.W.typeIn K (.ref a_MissingDrop_init) = some (.type "function"))
    (l_MissingDrop_init : K.lookup a_MissingDrop_init = some ⟨oc_MissingDrop_init, od_MissingDrop_init, .func (PySem.W.fnOf "__init__" "MissingDrop.__init__" (defArgs s_MissingDrop_init) (defBody s_MissingDrop_init) (defScope s_MissingDrop_init) (.none) kV_MissingDrop_init dc_MissingDrop_init pm_MissingDrop_init an_MissingDrop_init cd_MissingDrop_init ct_MissingDrop_init), sl_MissingDrop_init⟩)
    (c_MissingDrop_init : PySem.W.codeIn K cd_MissingDrop_init "MissingDrop.__init__" = true)
    (k_MissingDrop_init : PySem.W.keepIn K (.ref a_MissingDrop_init) = true)
    (i_Touching_init : PySem.W.findIn K (.ref C_Touching) "__init__" = some (some (.ref a_Touching_init)))
    (t_Touching_init : PySem.W.typeIn K (.ref a_Touching_init) = some (.type "function"))
    (l_Touching_init : K.lookup a_Touching_init = some ⟨oc_Touching_init, od_Touching_init, .func (PySem.W.fnOf "__init__" "Touching.__init__" (defArgs s_Touching_init) (defBody s_Touching_init) (defScope s_Touching_init) (.none) kV_Touching_init dc_Touching_init pm_Touching_init an_Touching_init cd_Touching_init ct_Touching_init), sl_Touching_init⟩)
    (c_Touching_init : PySem.W.codeIn K cd_Touching_init "Touching.__init__" = true)
    (k_Touching_init : PySem.W.keepIn K (.ref a_Touching_init) = true)
    (i_OutOfGround_init : PySem.W.findIn K (.ref C_OutOfGround) "__init__" = some (some (.ref a_OutOfGround_init)))
    (t_OutOfGround_init : PySem.W.typeIn K (.ref a_OutOfGround_init) = some (.type "function"))
    (l_OutOfGround_init : K.lookup a_OutOfGround_init = some ⟨oc_OutOfGround_init, od_OutOfGround_init, .func (PySem.W.fnOf "__init__" "OutOfGround.__init__" (defArgs s_OutOfGround_init) (defBody s_OutOfGround_init) (defScope s_OutOfGround_init) (.none) kV_OutOfGround_init dc_OutOfGround_init pm_OutOfGround_init an_OutOfGround_init cd_OutOfGround_init ct_OutOfGround_init), sl_OutOfGround_init⟩)
    (c_OutOfGround_init : PySem.W.codeIn K cd_OutOfGround_init "OutOfGround.__init__" = true)
    (k_OutOfGround_init : PySem.W.keepIn K (.ref a_OutOfGround_init) = true)
    (i_Overfull_init : PySem.W.findIn K (.ref C_Overfull) "__init__" = some (some (.ref a_Overfull_init)))
    (t_Overfull_init : PySem.W.typeIn K (.ref a_Overfull_init) = some (.type "function"))
    (l_Overfull_init : K.lookup a_Overfull_init = some ⟨oc_Overfull_init, od_Overfull_init, .func (PySem.W.fnOf "__init__" "Overfull.__init__" (defArgs s_Overfull_init) (defBody s_Overfull_init) (defScope s_Overfull_init) (.none) kV_Overfull_init dc_Overfull_init pm_Overfull_init an_Overfull_init cd_Overfull_init ct_Overfull_init), sl_Overfull_init⟩)
    (c_Overfull_init : PySem.W.codeIn K cd_Overfull_init "Overfull.__init__" = true)
    (k_Overfull_init : PySem.W.keepIn K (.ref a_Overfull_init) = true)
    (i_TrialError_init : PySem.W.findIn K (.ref C_TrialError) "__init__" = some (some (.ref a_TrialError_init)))
    (t_TrialError_init : PySem.W.typeIn K (.ref a_TrialError_init) = some (.type "function"))
    (l_TrialError_init : K.lookup a_TrialError_init = some ⟨oc_TrialError_init, od_TrialError_init, .func (PySem.W.fnOf "__init__" "TrialError.__init__" (defArgs s_TrialError_init) (defBody s_TrialError_init) (defScope s_TrialError_init) (.none) kV_TrialError_init dc_TrialError_init pm_TrialError_init an_TrialError_init cd_TrialError_init ct_TrialError_init), sl_TrialError_init⟩)
    (c_TrialError_init : PySem.W.codeIn K cd_TrialError_init "TrialError.__init__" = true)
    (k_TrialError_init : PySem.W.keepIn K (.ref a_TrialError_init) = true)
    (i_UnknownIndex_init : PySem.W.findIn K (.ref C_UnknownIndex) "__init__" = some (some (.ref a_UnknownIndex_init)))
    (t_UnknownIndex_init : PySem.W.typeIn K (.ref a_UnknownIndex_init) = some (.type "function"))
    (l_UnknownIndex_init : K.lookup a_UnknownIndex_init = some ⟨oc_UnknownIndex_init, od_UnknownIndex_init, .func (PySem.W.fnOf "__init__" "UnknownIndex.__init__" (defArgs s_UnknownIndex_init) (defBody s_UnknownIndex_init) (defScope s_UnknownIndex_init) (.none) kV_UnknownIndex_init dc_UnknownIndex_init pm_UnknownIndex_init an_UnknownIndex_init cd_UnknownIndex_init ct_UnknownIndex_init), sl_UnknownIndex_init⟩)
    (c_UnknownIndex_init : PySem.W.codeIn K cd_UnknownIndex_init "UnknownIndex.__init__" = true)
    (k_UnknownIndex_init : PySem.W.keepIn K (.ref a_UnknownIndex_init) = true)
    (g_is_integer : PySem.W.nsIn K mainGlobals "is_integer" = some (some (.ref a_is_integer)))
    (l_is_integer : K.lookup a_is_integer = some ⟨oc_is_integer, od_is_integer, .func (PySem.W.fnOf "is_integer" "is_integer" (defArgs s_is_integer) (defBody s_is_integer) (defScope s_is_integer) (.none) kV_is_integer dc_is_integer pm_is_integer an_is_integer cd_is_integer ct_is_integer), sl_is_integer⟩)
    (c_is_integer : PySem.W.codeIn K cd_is_integer "is_integer" = true)
    (k_is_integer : PySem.W.keepIn K (.ref a_is_integer) = true)
    (g_is_number : PySem.W.nsIn K mainGlobals "is_number" = some (some (.ref a_is_number)))
    (l_is_number : K.lookup a_is_number = some ⟨oc_is_number, od_is_number, .func (PySem.W.fnOf "is_number" "is_number" (defArgs s_is_number) (defBody s_is_number) (defScope s_is_number) (.none) kV_is_number dc_is_number pm_is_number an_is_number cd_is_number ct_is_number), sl_is_number⟩)
    (c_is_number : PySem.W.codeIn K cd_is_number "is_number" = true)
    (k_is_number : PySem.W.keepIn K (.ref a_is_number) = true)
    (g_as_ratio : PySem.W.nsIn K mainGlobals "as_ratio" = some (some (.ref a_as_ratio)))
    (l_as_ratio : K.lookup a_as_ratio = some ⟨oc_as_ratio, od_as_ratio, .func (PySem.W.fnOf "as_ratio" "as_ratio" (defArgs s_as_ratio) (defBody s_as_ratio) (defScope s_as_ratio) (.none) kV_as_ratio dc_as_ratio pm_as_ratio an_as_ratio cd_as_ratio ct_as_ratio), sl_as_ratio⟩)
    (c_as_ratio : PySem.W.codeIn K cd_as_ratio "as_ratio" = true)
    (k_as_ratio : PySem.W.keepIn K (.ref a_as_ratio) = true)
    (g_common_divisor : PySem.W.nsIn K mainGlobals "common_divisor" = some (some (.ref a_common_divisor)))
    (l_common_divisor : K.lookup a_common_divisor = some ⟨oc_common_divisor, od_common_divisor, .func (PySem.W.fnOf "common_divisor" "common_divisor" (defArgs s_common_divisor) (defBody s_common_divisor) (defScope s_common_divisor) (.none) kV_common_divisor dc_common_divisor pm_common_divisor an_common_divisor cd_common_divisor ct_common_divisor), sl_common_divisor⟩)
    (c_common_divisor : PySem.W.codeIn K cd_common_divisor "common_divisor" = true)
    (k_common_divisor : PySem.W.keepIn K (.ref a_common_divisor) = true)
    (f_Ratio_init : PySem.W.findIn K (.ref C_Ratio) "__init__" = some (some (.ref a_Ratio_init)))
    (t_Ratio_init : PySem.W.isFn K (.ref a_Ratio_init) = true)
    (l_Ratio_init : K.lookup a_Ratio_init = some ⟨oc_Ratio_init, od_Ratio_init, .func (PySem.W.fnOf "__init__" "Ratio.__init__" (defArgs s_Ratio_init) (defBody s_Ratio_init) (defScope s_Ratio_init) (.ref T_Ratio_init) kV_Ratio_init dc_Ratio_init pm_Ratio_init an_Ratio_init cd_Ratio_init ct_Ratio_init), sl_Ratio_init⟩)
    (c_Ratio_init : PySem.W.codeIn K cd_Ratio_init "Ratio.__init__" = true)
    (k_Ratio_init : PySem.W.keepIn K (.ref a_Ratio_init) = true)
    (dt_Ratio_init : K.lookup T_Ratio_init = some ⟨cl_Ratio_init, sd_Ratio_init, .seq #[.int 1 dk_Ratio_init] nn_Ratio_init, ss_Ratio_init⟩)
    (g_w_box : PySem.W.nsIn K mainGlobals "_law_box" = some (some (.ref a_w_box)))
    (l_w_box : K.lookup a_w_box = some ⟨oc_w_box, od_w_box, .func (PySem.W.fnOf "_law_box" "_law_box" (defArgs s_w_box) (defBody s_w_box) (defScope s_w_box) (.none) kV_w_box dc_w_box pm_w_box an_w_box cd_w_box ct_w_box), sl_w_box⟩)
    (c_w_box : PySem.W.codeIn K cd_w_box "_law_box" = true)
    (k_w_box : PySem.W.keepIn K (.ref a_w_box) = true)
    (g_w_take : PySem.W.nsIn K mainGlobals "_law_take" = some (some (.ref a_w_take)))
    (l_w_take : K.lookup a_w_take = some ⟨oc_w_take, od_w_take, .func (PySem.W.fnOf "_law_take" "_law_take" (defArgs s_w_take) (defBody s_w_take) (defScope s_w_take) (.none) kV_w_take dc_w_take pm_w_take an_w_take cd_w_take ct_w_take), sl_w_take⟩)
    (c_w_take : PySem.W.codeIn K cd_w_take "_law_take" = true)
    (k_w_take : PySem.W.keepIn K (.ref a_w_take) = true)
    (g_w_value : PySem.W.nsIn K mainGlobals "_law_value" = some (some (.ref a_w_value)))
    (l_w_value : K.lookup a_w_value = some ⟨oc_w_value, od_w_value, .func (PySem.W.fnOf "_law_value" "_law_value" (defArgs s_w_value) (defBody s_w_value) (defScope s_w_value) (.none) kV_w_value dc_w_value pm_w_value an_w_value cd_w_value ct_w_value), sl_w_value⟩)
    (c_w_value : PySem.W.codeIn K cd_w_value "_law_value" = true)
    (k_w_value : PySem.W.keepIn K (.ref a_w_value) = true)
    (g_w_alike : PySem.W.nsIn K mainGlobals "_law_alike" = some (some (.ref a_w_alike)))
    (l_w_alike : K.lookup a_w_alike = some ⟨oc_w_alike, od_w_alike, .func (PySem.W.fnOf "_law_alike" "_law_alike" (defArgs s_w_alike) (defBody s_w_alike) (defScope s_w_alike) (.none) kV_w_alike dc_w_alike pm_w_alike an_w_alike cd_w_alike ct_w_alike), sl_w_alike⟩)
    (c_w_alike : PySem.W.codeIn K cd_w_alike "_law_alike" = true)
    (k_w_alike : PySem.W.keepIn K (.ref a_w_alike) = true)
    (g_w_placed : PySem.W.nsIn K mainGlobals "_law_placed" = some (some (.ref a_w_placed)))
    (l_w_placed : K.lookup a_w_placed = some ⟨oc_w_placed, od_w_placed, .func (PySem.W.fnOf "_law_placed" "_law_placed" (defArgs s_w_placed) (defBody s_w_placed) (defScope s_w_placed) (.none) kV_w_placed dc_w_placed pm_w_placed an_w_placed cd_w_placed ct_w_placed), sl_w_placed⟩)
    (c_w_placed : PySem.W.codeIn K cd_w_placed "_law_placed" = true)
    (k_w_placed : PySem.W.keepIn K (.ref a_w_placed) = true)
    (g_w_named : PySem.W.nsIn K mainGlobals "_law_named" = some (some (.ref a_w_named)))
    (l_w_named : K.lookup a_w_named = some ⟨oc_w_named, od_w_named, .func (PySem.W.fnOf "_law_named" "_law_named" (defArgs s_w_named) (defBody s_w_named) (defScope s_w_named) (.none) kV_w_named dc_w_named pm_w_named an_w_named cd_w_named ct_w_named), sl_w_named⟩)
    (c_w_named : PySem.W.codeIn K cd_w_named "_law_named" = true)
    (k_w_named : PySem.W.keepIn K (.ref a_w_named) = true)
    (g_w_kinds : PySem.W.nsIn K mainGlobals "_law_kinds" = some (some (.ref a_w_kinds)))
    (l_w_kinds : K.lookup a_w_kinds = some ⟨oc_w_kinds, od_w_kinds, .func (PySem.W.fnOf "_law_kinds" "_law_kinds" (defArgs s_w_kinds) (defBody s_w_kinds) (defScope s_w_kinds) (.none) kV_w_kinds dc_w_kinds pm_w_kinds an_w_kinds cd_w_kinds ct_w_kinds), sl_w_kinds⟩)
    (c_w_kinds : PySem.W.codeIn K cd_w_kinds "_law_kinds" = true)
    (k_w_kinds : PySem.W.keepIn K (.ref a_w_kinds) = true)
    (g_w_right : PySem.W.nsIn K mainGlobals "_law_right" = some (some (.ref a_w_right)))
    (l_w_right : K.lookup a_w_right = some ⟨oc_w_right, od_w_right, .func (PySem.W.fnOf "_law_right" "_law_right" (defArgs s_w_right) (defBody s_w_right) (defScope s_w_right) (.none) kV_w_right dc_w_right pm_w_right an_w_right cd_w_right ct_w_right), sl_w_right⟩)
    (c_w_right : PySem.W.codeIn K cd_w_right "_law_right" = true)
    (k_w_right : PySem.W.keepIn K (.ref a_w_right) = true)
    (g_law : PySem.W.nsIn K mainGlobals "law" = some (some (.ref a_law)))
    (l_law : K.lookup a_law = some ⟨oc_law, od_law, .func (PySem.W.fnOf "law" "law" (defArgs s_law) (defBody s_law) (defScope s_law) (.none) kV_law dc_law pm_law an_law cd_law ct_law), sl_law⟩)
    (c_law : PySem.W.codeIn K cd_law "law" = true)
    (k_law : PySem.W.keepIn K (.ref a_law) = true)
    (ca_Full : PySem.W.findIn K (.ref C_Full) "__class__" = some (some (.builtin "object.__class__")))
    (cg_Full : PySem.W.specialIn K (.builtin "object.__class__") "__get__" = some (some (.builtin "getset_descriptor.__get__")))
    (ct_Full : PySem.W.takesIn K (.builtin "object.__class__") = some true)
    (cm_Full : PySem.W.subIn K (.ref C_Full) (.type "object") = some true)
    (ca_InvalidCommand : PySem.W.findIn K (.ref C_InvalidCommand) "__class__" = some (some (.builtin "object.__class__")))
    (cg_InvalidCommand : PySem.W.specialIn K (.builtin "object.__class__") "__get__" = some (some (.builtin "getset_descriptor.__get__")))
    (ct_InvalidCommand : PySem.W.takesIn K (.builtin "object.__class__") = some true)
    (cm_InvalidCommand : PySem.W.subIn K (.ref C_InvalidCommand) (.type "object") = some true)
    (ca_InvalidDrop : PySem.W.findIn K (.ref C_InvalidDrop) "__class__" = some (some (.builtin "object.__class__")))
    (cg_InvalidDrop : PySem.W.specialIn K (.builtin "object.__class__") "__get__" = some (some (.builtin "getset_descriptor.__get__")))
    (ct_InvalidDrop : PySem.W.takesIn K (.builtin "object.__class__") = some true)
    (cm_InvalidDrop : PySem.W.subIn K (.ref C_InvalidDrop) (.type "object") = some true)
    (ca_InvalidNumber : PySem.W.findIn K (.ref C_InvalidNumber) "__class__" = some (some (.builtin "object.__class__")))
    (cg_InvalidNumber : PySem.W.specialIn K (.builtin "object.__class__") "__get__" = some (some (.builtin "getset_descriptor.__get__")))
    (ct_InvalidNumber : PySem.W.takesIn K (.builtin "object.__class__") = some true)
    (cm_InvalidNumber : PySem.W.subIn K (.ref C_InvalidNumber) (.type "object") = some true)
    (ca_InvalidText : PySem.W.findIn K (.ref C_InvalidText) "__class__" = some (some (.builtin "object.__class__")))
    (cg_InvalidText : PySem.W.specialIn K (.builtin "object.__class__") "__get__" = some (some (.builtin "getset_descriptor.__get__")))
    (ct_InvalidText : PySem.W.takesIn K (.builtin "object.__class__") = some true)
    (cm_InvalidText : PySem.W.subIn K (.ref C_InvalidText) (.type "object") = some true)
    (ca_InvalidTime : PySem.W.findIn K (.ref C_InvalidTime) "__class__" = some (some (.builtin "object.__class__")))
    (cg_InvalidTime : PySem.W.specialIn K (.builtin "object.__class__") "__get__" = some (some (.builtin "getset_descriptor.__get__")))
    (ct_InvalidTime : PySem.W.takesIn K (.builtin "object.__class__") = some true)
    (cm_InvalidTime : PySem.W.subIn K (.ref C_InvalidTime) (.type "object") = some true)
    (ca_MissingDrop : PySem.W.findIn K (.ref C_MissingDrop) "__class__" = some (some (.builtin "object.__class__")))
    (cg_MissingDrop : PySem.W.specialIn K (.builtin "object.__class__") "__get__" = some (some (.builtin "getset_descriptor.__get__")))
    (ct_MissingDrop : PySem.W.takesIn K (.builtin "object.__class__") = some true)
    (cm_MissingDrop : PySem.W.subIn K (.ref C_MissingDrop) (.type "object") = some true)
    (ca_OutOfGround : PySem.W.findIn K (.ref C_OutOfGround) "__class__" = some (some (.builtin "object.__class__")))
    (cg_OutOfGround : PySem.W.specialIn K (.builtin "object.__class__") "__get__" = some (some (.builtin "getset_descriptor.__get__")))
    (ct_OutOfGround : PySem.W.takesIn K (.builtin "object.__class__") = some true)
    (cm_OutOfGround : PySem.W.subIn K (.ref C_OutOfGround) (.type "object") = some true)
    (ca_Overfull : PySem.W.findIn K (.ref C_Overfull) "__class__" = some (some (.builtin "object.__class__")))
    (cg_Overfull : PySem.W.specialIn K (.builtin "object.__class__") "__get__" = some (some (.builtin "getset_descriptor.__get__")))
    (ct_Overfull : PySem.W.takesIn K (.builtin "object.__class__") = some true)
    (cm_Overfull : PySem.W.subIn K (.ref C_Overfull) (.type "object") = some true)
    (ca_Touching : PySem.W.findIn K (.ref C_Touching) "__class__" = some (some (.builtin "object.__class__")))
    (cg_Touching : PySem.W.specialIn K (.builtin "object.__class__") "__get__" = some (some (.builtin "getset_descriptor.__get__")))
    (ct_Touching : PySem.W.takesIn K (.builtin "object.__class__") = some true)
    (cm_Touching : PySem.W.subIn K (.ref C_Touching) (.type "object") = some true)
    (ca_TrialError : PySem.W.findIn K (.ref C_TrialError) "__class__" = some (some (.builtin "object.__class__")))
    (cg_TrialError : PySem.W.specialIn K (.builtin "object.__class__") "__get__" = some (some (.builtin "getset_descriptor.__get__")))
    (ct_TrialError : PySem.W.takesIn K (.builtin "object.__class__") = some true)
    (cm_TrialError : PySem.W.subIn K (.ref C_TrialError) (.type "object") = some true)
    (ca_UnknownIndex : PySem.W.findIn K (.ref C_UnknownIndex) "__class__" = some (some (.builtin "object.__class__")))
    (cg_UnknownIndex : PySem.W.specialIn K (.builtin "object.__class__") "__get__" = some (some (.builtin "getset_descriptor.__get__")))
    (ct_UnknownIndex : PySem.W.takesIn K (.builtin "object.__class__") = some true)
    (cm_UnknownIndex : PySem.W.subIn K (.ref C_UnknownIndex) (.type "object") = some true)
    (xi_PoolError : PySem.W.isClsIn K C_PoolError = true)
    (ks_InvalidNumber_InvalidNumber : PySem.W.subIn K (.ref C_InvalidNumber) (.ref C_InvalidNumber) = some true)
    (ks_InvalidNumber_InvalidDrop : PySem.W.subIn K (.ref C_InvalidNumber) (.ref C_InvalidDrop) = some false)
    (ks_InvalidNumber_InvalidTime : PySem.W.subIn K (.ref C_InvalidNumber) (.ref C_InvalidTime) = some false)
    (ks_InvalidNumber_InvalidText : PySem.W.subIn K (.ref C_InvalidNumber) (.ref C_InvalidText) = some false)
    (ks_InvalidNumber_InvalidCommand : PySem.W.subIn K (.ref C_InvalidNumber) (.ref C_InvalidCommand) = some false)
    (ks_InvalidNumber_Full : PySem.W.subIn K (.ref C_InvalidNumber) (.ref C_Full) = some false)
    (ks_InvalidNumber_MissingDrop : PySem.W.subIn K (.ref C_InvalidNumber) (.ref C_MissingDrop) = some false)
    (ks_InvalidNumber_Touching : PySem.W.subIn K (.ref C_InvalidNumber) (.ref C_Touching) = some false)
    (ks_InvalidNumber_OutOfGround : PySem.W.subIn K (.ref C_InvalidNumber) (.ref C_OutOfGround) = some false)
    (ks_InvalidNumber_Overfull : PySem.W.subIn K (.ref C_InvalidNumber) (.ref C_Overfull) = some false)
    (ks_InvalidNumber_TrialError : PySem.W.subIn K (.ref C_InvalidNumber) (.ref C_TrialError) = some false)
    (ks_InvalidNumber_UnknownIndex : PySem.W.subIn K (.ref C_InvalidNumber) (.ref C_UnknownIndex) = some false)
    (ks_InvalidNumber_PoolError : PySem.W.subIn K (.ref C_InvalidNumber) (.ref C_PoolError) = some true)
    (ks_InvalidNumber_ValueError : PySem.W.subIn K (.ref C_InvalidNumber) (.type "ValueError") = some true)
    (ks_InvalidNumber_IndexError : PySem.W.subIn K (.ref C_InvalidNumber) (.type "IndexError") = some false)
    (ks_InvalidNumber_KeyError : PySem.W.subIn K (.ref C_InvalidNumber) (.type "KeyError") = some false)
    (ks_InvalidDrop_InvalidNumber : PySem.W.subIn K (.ref C_InvalidDrop) (.ref C_InvalidNumber) = some false)
    (ks_InvalidDrop_InvalidDrop : PySem.W.subIn K (.ref C_InvalidDrop) (.ref C_InvalidDrop) = some true)
    (ks_InvalidDrop_InvalidTime : PySem.W.subIn K (.ref C_InvalidDrop) (.ref C_InvalidTime) = some false)
    (ks_InvalidDrop_InvalidText : PySem.W.subIn K (.ref C_InvalidDrop) (.ref C_InvalidText) = some false)
    (ks_InvalidDrop_InvalidCommand : PySem.W.subIn K (.ref C_InvalidDrop) (.ref C_InvalidCommand) = some false)
    (ks_InvalidDrop_Full : PySem.W.subIn K (.ref C_InvalidDrop) (.ref C_Full) = some false)
    (ks_InvalidDrop_MissingDrop : PySem.W.subIn K (.ref C_InvalidDrop) (.ref C_MissingDrop) = some false)
    (ks_InvalidDrop_Touching : PySem.W.subIn K (.ref C_InvalidDrop) (.ref C_Touching) = some false)
    (ks_InvalidDrop_OutOfGround : PySem.W.subIn K (.ref C_InvalidDrop) (.ref C_OutOfGround) = some false)
    (ks_InvalidDrop_Overfull : PySem.W.subIn K (.ref C_InvalidDrop) (.ref C_Overfull) = some false)
    (ks_InvalidDrop_TrialError : PySem.W.subIn K (.ref C_InvalidDrop) (.ref C_TrialError) = some false)
    (ks_InvalidDrop_UnknownIndex : PySem.W.subIn K (.ref C_InvalidDrop) (.ref C_UnknownIndex) = some false)
    (ks_InvalidDrop_PoolError : PySem.W.subIn K (.ref C_InvalidDrop) (.ref C_PoolError) = some true)
    (ks_InvalidDrop_ValueError : PySem.W.subIn K (.ref C_InvalidDrop) (.type "ValueError") = some true)
    (ks_InvalidDrop_IndexError : PySem.W.subIn K (.ref C_InvalidDrop) (.type "IndexError") = some false)
    (ks_InvalidDrop_KeyError : PySem.W.subIn K (.ref C_InvalidDrop) (.type "KeyError") = some false)
    (ks_InvalidTime_InvalidNumber : PySem.W.subIn K (.ref C_InvalidTime) (.ref C_InvalidNumber) = some false)
    (ks_InvalidTime_InvalidDrop : PySem.W.subIn K (.ref C_InvalidTime) (.ref C_InvalidDrop) = some false)
    (ks_InvalidTime_InvalidTime : PySem.W.subIn K (.ref C_InvalidTime) (.ref C_InvalidTime) = some true)
    (ks_InvalidTime_InvalidText : PySem.W.subIn K (.ref C_InvalidTime) (.ref C_InvalidText) = some false)
    (ks_InvalidTime_InvalidCommand : PySem.W.subIn K (.ref C_InvalidTime) (.ref C_InvalidCommand) = some false)
    (ks_InvalidTime_Full : PySem.W.subIn K (.ref C_InvalidTime) (.ref C_Full) = some false)
    (ks_InvalidTime_MissingDrop : PySem.W.subIn K (.ref C_InvalidTime) (.ref C_MissingDrop) = some false)
    (ks_InvalidTime_Touching : PySem.W.subIn K (.ref C_InvalidTime) (.ref C_Touching) = some false)
    (ks_InvalidTime_OutOfGround : PySem.W.subIn K (.ref C_InvalidTime) (.ref C_OutOfGround) = some false)
    (ks_InvalidTime_Overfull : PySem.W.subIn K (.ref C_InvalidTime) (.ref C_Overfull) = some false)
    (ks_InvalidTime_TrialError : PySem.W.subIn K (.ref C_InvalidTime) (.ref C_TrialError) = some false)
    (ks_InvalidTime_UnknownIndex : PySem.W.subIn K (.ref C_InvalidTime) (.ref C_UnknownIndex) = some false)
    (ks_InvalidTime_PoolError : PySem.W.subIn K (.ref C_InvalidTime) (.ref C_PoolError) = some true)
    (ks_InvalidTime_ValueError : PySem.W.subIn K (.ref C_InvalidTime) (.type "ValueError") = some true)
    (ks_InvalidTime_IndexError : PySem.W.subIn K (.ref C_InvalidTime) (.type "IndexError") = some false)
    (ks_InvalidTime_KeyError : PySem.W.subIn K (.ref C_InvalidTime) (.type "KeyError") = some false)
    (ks_InvalidText_InvalidNumber : PySem.W.subIn K (.ref C_InvalidText) (.ref C_InvalidNumber) = some false)
    (ks_InvalidText_InvalidDrop : PySem.W.subIn K (.ref C_InvalidText) (.ref C_InvalidDrop) = some false)
    (ks_InvalidText_InvalidTime : PySem.W.subIn K (.ref C_InvalidText) (.ref C_InvalidTime) = some false)
    (ks_InvalidText_InvalidText : PySem.W.subIn K (.ref C_InvalidText) (.ref C_InvalidText) = some true)
    (ks_InvalidText_InvalidCommand : PySem.W.subIn K (.ref C_InvalidText) (.ref C_InvalidCommand) = some false)
    (ks_InvalidText_Full : PySem.W.subIn K (.ref C_InvalidText) (.ref C_Full) = some false)
    (ks_InvalidText_MissingDrop : PySem.W.subIn K (.ref C_InvalidText) (.ref C_MissingDrop) = some false)
    (ks_InvalidText_Touching : PySem.W.subIn K (.ref C_InvalidText) (.ref C_Touching) = some false)
    (ks_InvalidText_OutOfGround : PySem.W.subIn K (.ref C_InvalidText) (.ref C_OutOfGround) = some false)
    (ks_InvalidText_Overfull : PySem.W.subIn K (.ref C_InvalidText) (.ref C_Overfull) = some false)
    (ks_InvalidText_TrialError : PySem.W.subIn K (.ref C_InvalidText) (.ref C_TrialError) = some false)
    (ks_InvalidText_UnknownIndex : PySem.W.subIn K (.ref C_InvalidText) (.ref C_UnknownIndex) = some false)
    (ks_InvalidText_PoolError : PySem.W.subIn K (.ref C_InvalidText) (.ref C_PoolError) = some true)
    (ks_InvalidText_ValueError : PySem.W.subIn K (.ref C_InvalidText) (.type "ValueError") = some true)
    (ks_InvalidText_IndexError : PySem.W.subIn K (.ref C_InvalidText) (.type "IndexError") = some false)
    (ks_InvalidText_KeyError : PySem.W.subIn K (.ref C_InvalidText) (.type "KeyError") = some false)
    (ks_InvalidCommand_InvalidNumber : PySem.W.subIn K (.ref C_InvalidCommand) (.ref C_InvalidNumber) = some false)
    (ks_InvalidCommand_InvalidDrop : PySem.W.subIn K (.ref C_InvalidCommand) (.ref C_InvalidDrop) = some false)
    (ks_InvalidCommand_InvalidTime : PySem.W.subIn K (.ref C_InvalidCommand) (.ref C_InvalidTime) = some false)
    (ks_InvalidCommand_InvalidText : PySem.W.subIn K (.ref C_InvalidCommand) (.ref C_InvalidText) = some false)
    (ks_InvalidCommand_InvalidCommand : PySem.W.subIn K (.ref C_InvalidCommand) (.ref C_InvalidCommand) = some true)
    (ks_InvalidCommand_Full : PySem.W.subIn K (.ref C_InvalidCommand) (.ref C_Full) = some false)
    (ks_InvalidCommand_MissingDrop : PySem.W.subIn K (.ref C_InvalidCommand) (.ref C_MissingDrop) = some false)
    (ks_InvalidCommand_Touching : PySem.W.subIn K (.ref C_InvalidCommand) (.ref C_Touching) = some false)
    (ks_InvalidCommand_OutOfGround : PySem.W.subIn K (.ref C_InvalidCommand) (.ref C_OutOfGround) = some false)
    (ks_InvalidCommand_Overfull : PySem.W.subIn K (.ref C_InvalidCommand) (.ref C_Overfull) = some false)
    (ks_InvalidCommand_TrialError : PySem.W.subIn K (.ref C_InvalidCommand) (.ref C_TrialError) = some false)
    (ks_InvalidCommand_UnknownIndex : PySem.W.subIn K (.ref C_InvalidCommand) (.ref C_UnknownIndex) = some false)
    (ks_InvalidCommand_PoolError : PySem.W.subIn K (.ref C_InvalidCommand) (.ref C_PoolError) = some true)
    (ks_InvalidCommand_ValueError : PySem.W.subIn K (.ref C_InvalidCommand) (.type "ValueError") = some true)
    (ks_InvalidCommand_IndexError : PySem.W.subIn K (.ref C_InvalidCommand) (.type "IndexError") = some false)
    (ks_InvalidCommand_KeyError : PySem.W.subIn K (.ref C_InvalidCommand) (.type "KeyError") = some false)
    (ks_Full_InvalidNumber : PySem.W.subIn K (.ref C_Full) (.ref C_InvalidNumber) = some false)
    (ks_Full_InvalidDrop : PySem.W.subIn K (.ref C_Full) (.ref C_InvalidDrop) = some false)
    (ks_Full_InvalidTime : PySem.W.subIn K (.ref C_Full) (.ref C_InvalidTime) = some false)
    (ks_Full_InvalidText : PySem.W.subIn K (.ref C_Full) (.ref C_InvalidText) = some false)
    (ks_Full_InvalidCommand : PySem.W.subIn K (.ref C_Full) (.ref C_InvalidCommand) = some false)
    (ks_Full_Full : PySem.W.subIn K (.ref C_Full) (.ref C_Full) = some true)
    (ks_Full_MissingDrop : PySem.W.subIn K (.ref C_Full) (.ref C_MissingDrop) = some false)
    (ks_Full_Touching : PySem.W.subIn K (.ref C_Full) (.ref C_Touching) = some false)
    (ks_Full_OutOfGround : PySem.W.subIn K (.ref C_Full) (.ref C_OutOfGround) = some false)
    (ks_Full_Overfull : PySem.W.subIn K (.ref C_Full) (.ref C_Overfull) = some false)
    (ks_Full_TrialError : PySem.W.subIn K (.ref C_Full) (.ref C_TrialError) = some false)
    (ks_Full_UnknownIndex : PySem.W.subIn K (.ref C_Full) (.ref C_UnknownIndex) = some false)
    (ks_Full_PoolError : PySem.W.subIn K (.ref C_Full) (.ref C_PoolError) = some true)
    (ks_Full_ValueError : PySem.W.subIn K (.ref C_Full) (.type "ValueError") = some true)
    (ks_Full_IndexError : PySem.W.subIn K (.ref C_Full) (.type "IndexError") = some false)
    (ks_Full_KeyError : PySem.W.subIn K (.ref C_Full) (.type "KeyError") = some false)
    (ks_MissingDrop_InvalidNumber : PySem.W.subIn K (.ref C_MissingDrop) (.ref C_InvalidNumber) = some false)
    (ks_MissingDrop_InvalidDrop : PySem.W.subIn K (.ref C_MissingDrop) (.ref C_InvalidDrop) = some false)
    (ks_MissingDrop_InvalidTime : PySem.W.subIn K (.ref C_MissingDrop) (.ref C_InvalidTime) = some false)
    (ks_MissingDrop_InvalidText : PySem.W.subIn K (.ref C_MissingDrop) (.ref C_InvalidText) = some false)
    (ks_MissingDrop_InvalidCommand : PySem.W.subIn K (.ref C_MissingDrop) (.ref C_InvalidCommand) = some false)
    (ks_MissingDrop_Full : PySem.W.subIn K (.ref C_MissingDrop) (.ref C_Full) = some false)
    (ks_MissingDrop_MissingDrop : PySem.W.subIn K (.ref C_MissingDrop) (.ref C_MissingDrop) = some true)
    (ks_MissingDrop_Touching : PySem.W.subIn K (.ref C_MissingDrop) (.ref C_Touching) = some false)
    (ks_MissingDrop_OutOfGround : PySem.W.subIn K (.ref C_MissingDrop) (.ref C_OutOfGround) = some false)
    (ks_MissingDrop_Overfull : PySem.W.subIn K (.ref C_MissingDrop) (.ref C_Overfull) = some false)
    (ks_MissingDrop_TrialError : PySem.W.subIn K (.ref C_MissingDrop) (.ref C_TrialError) = some false)
    (ks_MissingDrop_UnknownIndex : PySem.W.subIn K (.ref C_MissingDrop) (.ref C_UnknownIndex) = some false)
    (ks_MissingDrop_PoolError : PySem.W.subIn K (.ref C_MissingDrop) (.ref C_PoolError) = some true)
    (ks_MissingDrop_ValueError : PySem.W.subIn K (.ref C_MissingDrop) (.type "ValueError") = some true)
    (ks_MissingDrop_IndexError : PySem.W.subIn K (.ref C_MissingDrop) (.type "IndexError") = some false)
    (ks_MissingDrop_KeyError : PySem.W.subIn K (.ref C_MissingDrop) (.type "KeyError") = some false)
    (ks_Touching_InvalidNumber : PySem.W.subIn K (.ref C_Touching) (.ref C_InvalidNumber) = some false)
    (ks_Touching_InvalidDrop : PySem.W.subIn K (.ref C_Touching) (.ref C_InvalidDrop) = some false)
    (ks_Touching_InvalidTime : PySem.W.subIn K (.ref C_Touching) (.ref C_InvalidTime) = some false)
    (ks_Touching_InvalidText : PySem.W.subIn K (.ref C_Touching) (.ref C_InvalidText) = some false)
    (ks_Touching_InvalidCommand : PySem.W.subIn K (.ref C_Touching) (.ref C_InvalidCommand) = some false)
    (ks_Touching_Full : PySem.W.subIn K (.ref C_Touching) (.ref C_Full) = some false)
    (ks_Touching_MissingDrop : PySem.W.subIn K (.ref C_Touching) (.ref C_MissingDrop) = some false)
    (ks_Touching_Touching : PySem.W.subIn K (.ref C_Touching) (.ref C_Touching) = some true)
    (ks_Touching_OutOfGround : PySem.W.subIn K (.ref C_Touching) (.ref C_OutOfGround) = some false)
    (ks_Touching_Overfull : PySem.W.subIn K (.ref C_Touching) (.ref C_Overfull) = some false)
    (ks_Touching_TrialError : PySem.W.subIn K (.ref C_Touching) (.ref C_TrialError) = some false)
    (ks_Touching_UnknownIndex : PySem.W.subIn K (.ref C_Touching) (.ref C_UnknownIndex) = some false)
    (ks_Touching_PoolError : PySem.W.subIn K (.ref C_Touching) (.ref C_PoolError) = some true)
    (ks_Touching_ValueError : PySem.W.subIn K (.ref C_Touching) (.type "ValueError") = some true)
    (ks_Touching_IndexError : PySem.W.subIn K (.ref C_Touching) (.type "IndexError") = some false)
    (ks_Touching_KeyError : PySem.W.subIn K (.ref C_Touching) (.type "KeyError") = some false)
    (ks_OutOfGround_InvalidNumber : PySem.W.subIn K (.ref C_OutOfGround) (.ref C_InvalidNumber) = some false)
    (ks_OutOfGround_InvalidDrop : PySem.W.subIn K (.ref C_OutOfGround) (.ref C_InvalidDrop) = some false)
    (ks_OutOfGround_InvalidTime : PySem.W.subIn K (.ref C_OutOfGround) (.ref C_InvalidTime) = some false)
    (ks_OutOfGround_InvalidText : PySem.W.subIn K (.ref C_OutOfGround) (.ref C_InvalidText) = some false)
    (ks_OutOfGround_InvalidCommand : PySem.W.subIn K (.ref C_OutOfGround) (.ref C_InvalidCommand) = some false)
    (ks_OutOfGround_Full : PySem.W.subIn K (.ref C_OutOfGround) (.ref C_Full) = some false)
    (ks_OutOfGround_MissingDrop : PySem.W.subIn K (.ref C_OutOfGround) (.ref C_MissingDrop) = some false)
    (ks_OutOfGround_Touching : PySem.W.subIn K (.ref C_OutOfGround) (.ref C_Touching) = some false)
    (ks_OutOfGround_OutOfGround : PySem.W.subIn K (.ref C_OutOfGround) (.ref C_OutOfGround) = some true)
    (ks_OutOfGround_Overfull : PySem.W.subIn K (.ref C_OutOfGround) (.ref C_Overfull) = some false)
    (ks_OutOfGround_TrialError : PySem.W.subIn K (.ref C_OutOfGround) (.ref C_TrialError) = some false)
    (ks_OutOfGround_UnknownIndex : PySem.W.subIn K (.ref C_OutOfGround) (.ref C_UnknownIndex) = some false)
    (ks_OutOfGround_PoolError : PySem.W.subIn K (.ref C_OutOfGround) (.ref C_PoolError) = some true)
    (ks_OutOfGround_ValueError : PySem.W.subIn K (.ref C_OutOfGround) (.type "ValueError") = some true)
    (ks_OutOfGround_IndexError : PySem.W.subIn K (.ref C_OutOfGround) (.type "IndexError") = some false)
    (ks_OutOfGround_KeyError : PySem.W.subIn K (.ref C_OutOfGround) (.type "KeyError") = some false)
    (ks_Overfull_InvalidNumber : PySem.W.subIn K (.ref C_Overfull) (.ref C_InvalidNumber) = some false)
    (ks_Overfull_InvalidDrop : PySem.W.subIn K (.ref C_Overfull) (.ref C_InvalidDrop) = some false)
    (ks_Overfull_InvalidTime : PySem.W.subIn K (.ref C_Overfull) (.ref C_InvalidTime) = some false)
    (ks_Overfull_InvalidText : PySem.W.subIn K (.ref C_Overfull) (.ref C_InvalidText) = some false)
    (ks_Overfull_InvalidCommand : PySem.W.subIn K (.ref C_Overfull) (.ref C_InvalidCommand) = some false)
    (ks_Overfull_Full : PySem.W.subIn K (.ref C_Overfull) (.ref C_Full) = some false)
    (ks_Overfull_MissingDrop : PySem.W.subIn K (.ref C_Overfull) (.ref C_MissingDrop) = some false)
    (ks_Overfull_Touching : PySem.W.subIn K (.ref C_Overfull) (.ref C_Touching) = some false)
    (ks_Overfull_OutOfGround : PySem.W.subIn K (.ref C_Overfull) (.ref C_OutOfGround) = some false)
    (ks_Overfull_Overfull : PySem.W.subIn K (.ref C_Overfull) (.ref C_Overfull) = some true)
    (ks_Overfull_TrialError : PySem.W.subIn K (.ref C_Overfull) (.ref C_TrialError) = some false)
    (ks_Overfull_UnknownIndex : PySem.W.subIn K (.ref C_Overfull) (.ref C_UnknownIndex) = some false)
    (ks_Overfull_PoolError : PySem.W.subIn K (.ref C_Overfull) (.ref C_PoolError) = some true)
    (ks_Overfull_ValueError : PySem.W.subIn K (.ref C_Overfull) (.type "ValueError") = some true)
    (ks_Overfull_IndexError : PySem.W.subIn K (.ref C_Overfull) (.type "IndexError") = some false)
    (ks_Overfull_KeyError : PySem.W.subIn K (.ref C_Overfull) (.type "KeyError") = some false)
    (ks_TrialError_InvalidNumber : PySem.W.subIn K (.ref C_TrialError) (.ref C_InvalidNumber) = some false)
    (ks_TrialError_InvalidDrop : PySem.W.subIn K (.ref C_TrialError) (.ref C_InvalidDrop) = some false)
    (ks_TrialError_InvalidTime : PySem.W.subIn K (.ref C_TrialError) (.ref C_InvalidTime) = some false)
    (ks_TrialError_InvalidText : PySem.W.subIn K (.ref C_TrialError) (.ref C_InvalidText) = some false)
    (ks_TrialError_InvalidCommand : PySem.W.subIn K (.ref C_TrialError) (.ref C_InvalidCommand) = some false)
    (ks_TrialError_Full : PySem.W.subIn K (.ref C_TrialError) (.ref C_Full) = some false)
    (ks_TrialError_MissingDrop : PySem.W.subIn K (.ref C_TrialError) (.ref C_MissingDrop) = some false)
    (ks_TrialError_Touching : PySem.W.subIn K (.ref C_TrialError) (.ref C_Touching) = some false)
    (ks_TrialError_OutOfGround : PySem.W.subIn K (.ref C_TrialError) (.ref C_OutOfGround) = some false)
    (ks_TrialError_Overfull : PySem.W.subIn K (.ref C_TrialError) (.ref C_Overfull) = some false)
    (ks_TrialError_TrialError : PySem.W.subIn K (.ref C_TrialError) (.ref C_TrialError) = some true)
    (ks_TrialError_UnknownIndex : PySem.W.subIn K (.ref C_TrialError) (.ref C_UnknownIndex) = some false)
    (ks_TrialError_PoolError : PySem.W.subIn K (.ref C_TrialError) (.ref C_PoolError) = some true)
    (ks_TrialError_ValueError : PySem.W.subIn K (.ref C_TrialError) (.type "ValueError") = some true)
    (ks_TrialError_IndexError : PySem.W.subIn K (.ref C_TrialError) (.type "IndexError") = some false)
    (ks_TrialError_KeyError : PySem.W.subIn K (.ref C_TrialError) (.type "KeyError") = some false)
    (ks_UnknownIndex_InvalidNumber : PySem.W.subIn K (.ref C_UnknownIndex) (.ref C_InvalidNumber) = some false)
    (ks_UnknownIndex_InvalidDrop : PySem.W.subIn K (.ref C_UnknownIndex) (.ref C_InvalidDrop) = some false)
    (ks_UnknownIndex_InvalidTime : PySem.W.subIn K (.ref C_UnknownIndex) (.ref C_InvalidTime) = some false)
    (ks_UnknownIndex_InvalidText : PySem.W.subIn K (.ref C_UnknownIndex) (.ref C_InvalidText) = some false)
    (ks_UnknownIndex_InvalidCommand : PySem.W.subIn K (.ref C_UnknownIndex) (.ref C_InvalidCommand) = some false)
    (ks_UnknownIndex_Full : PySem.W.subIn K (.ref C_UnknownIndex) (.ref C_Full) = some false)
    (ks_UnknownIndex_MissingDrop : PySem.W.subIn K (.ref C_UnknownIndex) (.ref C_MissingDrop) = some false)
    (ks_UnknownIndex_Touching : PySem.W.subIn K (.ref C_UnknownIndex) (.ref C_Touching) = some false)
    (ks_UnknownIndex_OutOfGround : PySem.W.subIn K (.ref C_UnknownIndex) (.ref C_OutOfGround) = some false)
    (ks_UnknownIndex_Overfull : PySem.W.subIn K (.ref C_UnknownIndex) (.ref C_Overfull) = some false)
    (ks_UnknownIndex_TrialError : PySem.W.subIn K (.ref C_UnknownIndex) (.ref C_TrialError) = some false)
    (ks_UnknownIndex_UnknownIndex : PySem.W.subIn K (.ref C_UnknownIndex) (.ref C_UnknownIndex) = some true)
    (ks_UnknownIndex_PoolError : PySem.W.subIn K (.ref C_UnknownIndex) (.ref C_PoolError) = some false)
    (ks_UnknownIndex_ValueError : PySem.W.subIn K (.ref C_UnknownIndex) (.type "ValueError") = some false)
    (ks_UnknownIndex_IndexError : PySem.W.subIn K (.ref C_UnknownIndex) (.type "IndexError") = some true)
    (ks_UnknownIndex_KeyError : PySem.W.subIn K (.ref C_UnknownIndex) (.type "KeyError") = some false)
    (n_IndexError : PySem.W.nsIn K mainGlobals "IndexError" = some none)
    (n_KeyError : PySem.W.nsIn K mainGlobals "KeyError" = some none)
    (n_NotImplemented : PySem.W.nsIn K mainGlobals "NotImplemented" = some none)
    (n_ValueError : PySem.W.nsIn K mainGlobals "ValueError" = some none)
    (n_abs : PySem.W.nsIn K mainGlobals "abs" = some none)
    (n_all : PySem.W.nsIn K mainGlobals "all" = some none)
    (n_bool : PySem.W.nsIn K mainGlobals "bool" = some none)
    (n_classmethod : PySem.W.nsIn K mainGlobals "classmethod" = some none)
    (n_enumerate : PySem.W.nsIn K mainGlobals "enumerate" = some none)
    (n_int : PySem.W.nsIn K mainGlobals "int" = some none)
    (n_isinstance : PySem.W.nsIn K mainGlobals "isinstance" = some none)
    (n_len : PySem.W.nsIn K mainGlobals "len" = some none)
    (n_max : PySem.W.nsIn K mainGlobals "max" = some none)
    (n_min : PySem.W.nsIn K mainGlobals "min" = some none)
    (n_property : PySem.W.nsIn K mainGlobals "property" = some none)
    (n_range : PySem.W.nsIn K mainGlobals "range" = some none)
    (n_repr : PySem.W.nsIn K mainGlobals "repr" = some none)
    (n_str : PySem.W.nsIn K mainGlobals "str" = some none)
    (n_tuple : PySem.W.nsIn K mainGlobals "tuple" = some none)
    (n_zip : PySem.W.nsIn K mainGlobals "zip" = some none)
    (c_DIGITS : PySem.W.nsIn K mainGlobals "DIGITS" = some (some (.str "0123456789" tk_DIGITS)))
    (c_MOST_DIGITS : PySem.W.nsIn K mainGlobals "MOST_DIGITS" = some (some (.int 1000 tk_MOST_DIGITS))) : ∃ T : Tx K mg, T.a_law = fa := by
  have e : Value.ref fa = Value.ref a_law := Option.some.inj (hfa.symm.trans (PySem.W.mg_of X G g_law))
  exact ⟨{
    C_PoolError := C_PoolError,
    g_PoolError := PySem.W.mg_of X G g_PoolError,
    oex_PoolError := ⟨⟨_, _, _, _, _, _, _, _, _, _, _, _, _, _, _, x_PoolError, rfl⟩, sa_PoolError, ex_PoolError, ty_PoolError, kp_PoolError⟩,
    up_PoolError := ⟨ur_PoolError, ug_PoolError, uf_PoolError⟩,
    C_InvalidNumber := C_InvalidNumber,
    g_InvalidNumber := PySem.W.mg_of X G g_InvalidNumber,
    oex_InvalidNumber := ⟨⟨_, _, _, _, _, _, _, _, _, _, _, _, _, _, _, x_InvalidNumber, rfl⟩, sa_InvalidNumber, ex_InvalidNumber, ty_InvalidNumber, kp_InvalidNumber⟩,
    xf_InvalidNumber := ⟨xg_InvalidNumber, xn_InvalidNumber, ex_InvalidNumber, xh_InvalidNumber⟩,
    xm_InvalidNumber := exm_of ex_InvalidNumber xi_InvalidNumber ty_InvalidNumber xs_InvalidNumber,
    na_InvalidNumber_value := na_InvalidNumber_value,
    C_InvalidDrop := C_InvalidDrop,
    g_InvalidDrop := PySem.W.mg_of X G g_InvalidDrop,
    oex_InvalidDrop := ⟨⟨_, _, _, _, _, _, _, _, _, _, _, _, _, _, _, x_InvalidDrop, rfl⟩, sa_InvalidDrop, ex_InvalidDrop, ty_InvalidDrop, kp_InvalidDrop⟩,
    xf_InvalidDrop := ⟨xg_InvalidDrop, xn_InvalidDrop, ex_InvalidDrop, xh_InvalidDrop⟩,
    xm_InvalidDrop := exm_of ex_InvalidDrop xi_InvalidDrop ty_InvalidDrop xs_InvalidDrop,
    na_InvalidDrop_index := na_InvalidDrop_index,
    C_InvalidTime := C_InvalidTime,
    g_InvalidTime := PySem.W.mg_of X G g_InvalidTime,
    oex_InvalidTime := ⟨⟨_, _, _, _, _, _, _, _, _, _, _, _, _, _, _, x_InvalidTime, rfl⟩, sa_InvalidTime, ex_InvalidTime, ty_InvalidTime, kp_InvalidTime⟩,
    xf_InvalidTime := ⟨xg_InvalidTime, xn_InvalidTime, ex_InvalidTime, xh_InvalidTime⟩,
    xm_InvalidTime := exm_of ex_InvalidTime xi_InvalidTime ty_InvalidTime xs_InvalidTime,
    na_InvalidTime_time := na_InvalidTime_time,
    C_InvalidText := C_InvalidText,
    g_InvalidText := PySem.W.mg_of X G g_InvalidText,
    oex_InvalidText := ⟨⟨_, _, _, _, _, _, _, _, _, _, _, _, _, _, _, x_InvalidText, rfl⟩, sa_InvalidText, ex_InvalidText, ty_InvalidText, kp_InvalidText⟩,
    xf_InvalidText := ⟨xg_InvalidText, xn_InvalidText, ex_InvalidText, xh_InvalidText⟩,
    xm_InvalidText := exm_of ex_InvalidText xi_InvalidText ty_InvalidText xs_InvalidText,
    na_InvalidText_line := na_InvalidText_line,
    C_InvalidCommand := C_InvalidCommand,
    g_InvalidCommand := PySem.W.mg_of X G g_InvalidCommand,
    oex_InvalidCommand := ⟨⟨_, _, _, _, _, _, _, _, _, _, _, _, _, _, _, x_InvalidCommand, rfl⟩, sa_InvalidCommand, ex_InvalidCommand, ty_InvalidCommand, kp_InvalidCommand⟩,
    xf_InvalidCommand := ⟨xg_InvalidCommand, xn_InvalidCommand, ex_InvalidCommand, xh_InvalidCommand⟩,
    xm_InvalidCommand := exm_of ex_InvalidCommand xi_InvalidCommand ty_InvalidCommand xs_InvalidCommand,
    C_Full := C_Full,
    g_Full := PySem.W.mg_of X G g_Full,
    oex_Full := ⟨⟨_, _, _, _, _, _, _, _, _, _, _, _, _, _, _, x_Full, rfl⟩, sa_Full, ex_Full, ty_Full, kp_Full⟩,
    xf_Full := ⟨xg_Full, xn_Full, ex_Full, xh_Full⟩,
    xm_Full := exm_of ex_Full xi_Full ty_Full xs_Full,
    na_Full_limit := na_Full_limit,
    C_MissingDrop := C_MissingDrop,
    g_MissingDrop := PySem.W.mg_of X G g_MissingDrop,
    oex_MissingDrop := ⟨⟨_, _, _, _, _, _, _, _, _, _, _, _, _, _, _, x_MissingDrop, rfl⟩, sa_MissingDrop, ex_MissingDrop, ty_MissingDrop, kp_MissingDrop⟩,
    xf_MissingDrop := ⟨xg_MissingDrop, xn_MissingDrop, ex_MissingDrop, xh_MissingDrop⟩,
    xm_MissingDrop := exm_of ex_MissingDrop xi_MissingDrop ty_MissingDrop xs_MissingDrop,
    na_MissingDrop_spot := na_MissingDrop_spot,
    na_MissingDrop_amount := na_MissingDrop_amount,
    C_Touching := C_Touching,
    g_Touching := PySem.W.mg_of X G g_Touching,
    oex_Touching := ⟨⟨_, _, _, _, _, _, _, _, _, _, _, _, _, _, _, x_Touching, rfl⟩, sa_Touching, ex_Touching, ty_Touching, kp_Touching⟩,
    xf_Touching := ⟨xg_Touching, xn_Touching, ex_Touching, xh_Touching⟩,
    xm_Touching := exm_of ex_Touching xi_Touching ty_Touching xs_Touching,
    na_Touching_index := na_Touching_index,
    C_OutOfGround := C_OutOfGround,
    g_OutOfGround := PySem.W.mg_of X G g_OutOfGround,
    oex_OutOfGround := ⟨⟨_, _, _, _, _, _, _, _, _, _, _, _, _, _, _, x_OutOfGround, rfl⟩, sa_OutOfGround, ex_OutOfGround, ty_OutOfGround, kp_OutOfGround⟩,
    xf_OutOfGround := ⟨xg_OutOfGround, xn_OutOfGround, ex_OutOfGround, xh_OutOfGround⟩,
    xm_OutOfGround := exm_of ex_OutOfGround xi_OutOfGround ty_OutOfGround xs_OutOfGround,
    na_OutOfGround_spot := na_OutOfGround_spot,
    C_Overfull := C_Overfull,
    g_Overfull := PySem.W.mg_of X G g_Overfull,
    oex_Overfull := ⟨⟨_, _, _, _, _, _, _, _, _, _, _, _, _, _, _, x_Overfull, rfl⟩, sa_Overfull, ex_Overfull, ty_Overfull, kp_Overfull⟩,
    xf_Overfull := ⟨xg_Overfull, xn_Overfull, ex_Overfull, xh_Overfull⟩,
    xm_Overfull := exm_of ex_Overfull xi_Overfull ty_Overfull xs_Overfull,
    na_Overfull_total := na_Overfull_total,
    C_TrialError := C_TrialError,
    g_TrialError := PySem.W.mg_of X G g_TrialError,
    oex_TrialError := ⟨⟨_, _, _, _, _, _, _, _, _, _, _, _, _, _, _, x_TrialError, rfl⟩, sa_TrialError, ex_TrialError, ty_TrialError, kp_TrialError⟩,
    xf_TrialError := ⟨xg_TrialError, xn_TrialError, ex_TrialError, xh_TrialError⟩,
    xm_TrialError := exm_of ex_TrialError xi_TrialError ty_TrialError xs_TrialError,
    C_UnknownIndex := C_UnknownIndex,
    g_UnknownIndex := PySem.W.mg_of X G g_UnknownIndex,
    vi_IndexError := vi_IndexError,
    oex_UnknownIndex := ⟨⟨_, _, _, _, _, _, _, _, _, _, _, _, _, _, x_UnknownIndex⟩, sa_UnknownIndex, ex_UnknownIndex, ty_UnknownIndex, kp_UnknownIndex⟩,
    xf_UnknownIndex := ⟨xg_UnknownIndex, xn_UnknownIndex, ex_UnknownIndex, xh_UnknownIndex⟩,
    xm_UnknownIndex := exm_of ex_UnknownIndex xi_UnknownIndex ty_UnknownIndex xs_UnknownIndex,
    na_UnknownIndex_index := na_UnknownIndex_index,
    C_Ratio := C_Ratio,
    g_Ratio := PySem.W.mg_of X G g_Ratio,
    own_Ratio := ⟨⟨pg_Ratio, hd_Ratio, po_Ratio, sa_Ratio⟩, ca_Ratio, cg_Ratio, ct_Ratio, mro_of lk_Ratio mr_Ratio, ty_Ratio⟩,
    cr_Ratio := ⟨rd_Ratio, gg_Ratio⟩,
    na_Ratio_top := na_Ratio_top,
    na_Ratio_bottom := na_Ratio_bottom,
    i_InvalidNumber := i_InvalidNumber_init,
    t_InvalidNumber := t_InvalidNumber_init,
    a_InvalidNumber_init := a_InvalidNumber_init,
    fd_InvalidNumber_init := _,
    F_InvalidNumber_init := funS_mk l_InvalidNumber_init c_InvalidNumber_init k_InvalidNumber_init,
    i_InvalidDrop := i_InvalidDrop_init,
    t_InvalidDrop := t_InvalidDrop_init,
    a_InvalidDrop_init := a_InvalidDrop_init,
    fd_InvalidDrop_init := _,
    F_InvalidDrop_init := funS_mk l_InvalidDrop_init c_InvalidDrop_init k_InvalidDrop_init,
    i_InvalidTime := i_InvalidTime_init,
    t_InvalidTime := t_InvalidTime_init,
    a_InvalidTime_init := a_InvalidTime_init,
    fd_InvalidTime_init := _,
    F_InvalidTime_init := funS_mk l_InvalidTime_init c_InvalidTime_init k_InvalidTime_init,
    i_InvalidText := i_InvalidText_init,
    t_InvalidText := t_InvalidText_init,
    a_InvalidText_init := a_InvalidText_init,
    fd_InvalidText_init := _,
    F_InvalidText_init := funS_mk l_InvalidText_init c_InvalidText_init k_InvalidText_init,
    i_InvalidCommand := i_InvalidCommand_init,
    t_InvalidCommand := t_InvalidCommand_init,
    a_InvalidCommand_init := a_InvalidCommand_init,
    fd_InvalidCommand_init := _,
    F_InvalidCommand_init := funS_mk l_InvalidCommand_init c_InvalidCommand_init k_InvalidCommand_init,
    i_Full := i_Full_init,
    t_Full := t_Full_init,
    a_Full_init := a_Full_init,
    fd_Full_init := _,
    F_Full_init := funS_mk l_Full_init c_Full_init k_Full_init,
    i_MissingDrop := i_MissingDrop_init,
    t_MissingDrop := t_MissingDrop_init,
    a_MissingDrop_init := a_MissingDrop_init,
    fd_MissingDrop_init := _,
    F_MissingDrop_init := funS_mk l_MissingDrop_init c_MissingDrop_init k_MissingDrop_init,
    i_Touching := i_Touching_init,
    t_Touching := t_Touching_init,
    a_Touching_init := a_Touching_init,
    fd_Touching_init := _,
    F_Touching_init := funS_mk l_Touching_init c_Touching_init k_Touching_init,
    i_OutOfGround := i_OutOfGround_init,
    t_OutOfGround := t_OutOfGround_init,
    a_OutOfGround_init := a_OutOfGround_init,
    fd_OutOfGround_init := _,
    F_OutOfGround_init := funS_mk l_OutOfGround_init c_OutOfGround_init k_OutOfGround_init,
    i_Overfull := i_Overfull_init,
    t_Overfull := t_Overfull_init,
    a_Overfull_init := a_Overfull_init,
    fd_Overfull_init := _,
    F_Overfull_init := funS_mk l_Overfull_init c_Overfull_init k_Overfull_init,
    i_TrialError := i_TrialError_init,
    t_TrialError := t_TrialError_init,
    a_TrialError_init := a_TrialError_init,
    fd_TrialError_init := _,
    F_TrialError_init := funS_mk l_TrialError_init c_TrialError_init k_TrialError_init,
    i_UnknownIndex := i_UnknownIndex_init,
    t_UnknownIndex := t_UnknownIndex_init,
    a_UnknownIndex_init := a_UnknownIndex_init,
    fd_UnknownIndex_init := _,
    F_UnknownIndex_init := funS_mk l_UnknownIndex_init c_UnknownIndex_init k_UnknownIndex_init,
    g_is_integer := PySem.W.mg_of X G g_is_integer,
    a_is_integer := a_is_integer,
    fd_is_integer := _,
    F_is_integer := funS_mk l_is_integer c_is_integer k_is_integer,
    g_is_number := PySem.W.mg_of X G g_is_number,
    a_is_number := a_is_number,
    fd_is_number := _,
    F_is_number := funS_mk l_is_number c_is_number k_is_number,
    g_as_ratio := PySem.W.mg_of X G g_as_ratio,
    a_as_ratio := a_as_ratio,
    fd_as_ratio := _,
    F_as_ratio := funS_mk l_as_ratio c_as_ratio k_as_ratio,
    g_common_divisor := PySem.W.mg_of X G g_common_divisor,
    a_common_divisor := a_common_divisor,
    fd_common_divisor := _,
    F_common_divisor := funS_mk l_common_divisor c_common_divisor k_common_divisor,
    m_Ratio_init := ⟨f_Ratio_init, t_Ratio_init, k_Ratio_init⟩,
    mk_Ratio := ⟨mi_Ratio, f_Ratio_init, t_Ratio_init, kc_Ratio⟩,
    a_Ratio_init := a_Ratio_init,
    fd_Ratio_init := _,
    F_Ratio_init := ⟨⟨_, _, _, _, _, _, _, _, _, _, rfl, l_Ratio_init, c_Ratio_init, .inr ⟨(by intro z; cases z), _, _, [.int 1 dk_Ratio_init], _, rfl, dt_Ratio_init, rfl, .cons ⟨_, rfl⟩ (.nil)⟩, .inl rfl⟩, k_Ratio_init⟩,
    g_w_box := PySem.W.mg_of X G g_w_box,
    a_w_box := a_w_box,
    fd_w_box := _,
    F_w_box := funS_mk l_w_box c_w_box k_w_box,
    g_w_take := PySem.W.mg_of X G g_w_take,
    a_w_take := a_w_take,
    fd_w_take := _,
    F_w_take := funS_mk l_w_take c_w_take k_w_take,
    g_w_value := PySem.W.mg_of X G g_w_value,
    a_w_value := a_w_value,
    fd_w_value := _,
    F_w_value := funS_mk l_w_value c_w_value k_w_value,
    g_w_alike := PySem.W.mg_of X G g_w_alike,
    a_w_alike := a_w_alike,
    fd_w_alike := _,
    F_w_alike := funS_mk l_w_alike c_w_alike k_w_alike,
    g_w_placed := PySem.W.mg_of X G g_w_placed,
    a_w_placed := a_w_placed,
    fd_w_placed := _,
    F_w_placed := funS_mk l_w_placed c_w_placed k_w_placed,
    g_w_named := PySem.W.mg_of X G g_w_named,
    a_w_named := a_w_named,
    fd_w_named := _,
    F_w_named := funS_mk l_w_named c_w_named k_w_named,
    g_w_kinds := PySem.W.mg_of X G g_w_kinds,
    a_w_kinds := a_w_kinds,
    fd_w_kinds := _,
    F_w_kinds := funS_mk l_w_kinds c_w_kinds k_w_kinds,
    g_w_right := PySem.W.mg_of X G g_w_right,
    a_w_right := a_w_right,
    fd_w_right := _,
    F_w_right := funS_mk l_w_right c_w_right k_w_right,
    g_law := PySem.W.mg_of X G g_law,
    a_law := a_law,
    fd_law := _,
    F_law := funS_mk l_law c_law k_law,
    xk_Full := ⟨xg_Full, xn_Full, ex_Full, xh_Full, ca_Full, cg_Full, ct_Full, cm_Full⟩,
    xk_InvalidCommand := ⟨xg_InvalidCommand, xn_InvalidCommand, ex_InvalidCommand, xh_InvalidCommand, ca_InvalidCommand, cg_InvalidCommand, ct_InvalidCommand, cm_InvalidCommand⟩,
    xk_InvalidDrop := ⟨xg_InvalidDrop, xn_InvalidDrop, ex_InvalidDrop, xh_InvalidDrop, ca_InvalidDrop, cg_InvalidDrop, ct_InvalidDrop, cm_InvalidDrop⟩,
    xk_InvalidNumber := ⟨xg_InvalidNumber, xn_InvalidNumber, ex_InvalidNumber, xh_InvalidNumber, ca_InvalidNumber, cg_InvalidNumber, ct_InvalidNumber, cm_InvalidNumber⟩,
    xk_InvalidText := ⟨xg_InvalidText, xn_InvalidText, ex_InvalidText, xh_InvalidText, ca_InvalidText, cg_InvalidText, ct_InvalidText, cm_InvalidText⟩,
    xk_InvalidTime := ⟨xg_InvalidTime, xn_InvalidTime, ex_InvalidTime, xh_InvalidTime, ca_InvalidTime, cg_InvalidTime, ct_InvalidTime, cm_InvalidTime⟩,
    xk_MissingDrop := ⟨xg_MissingDrop, xn_MissingDrop, ex_MissingDrop, xh_MissingDrop, ca_MissingDrop, cg_MissingDrop, ct_MissingDrop, cm_MissingDrop⟩,
    xk_OutOfGround := ⟨xg_OutOfGround, xn_OutOfGround, ex_OutOfGround, xh_OutOfGround, ca_OutOfGround, cg_OutOfGround, ct_OutOfGround, cm_OutOfGround⟩,
    xk_Overfull := ⟨xg_Overfull, xn_Overfull, ex_Overfull, xh_Overfull, ca_Overfull, cg_Overfull, ct_Overfull, cm_Overfull⟩,
    xk_Touching := ⟨xg_Touching, xn_Touching, ex_Touching, xh_Touching, ca_Touching, cg_Touching, ct_Touching, cm_Touching⟩,
    xk_TrialError := ⟨xg_TrialError, xn_TrialError, ex_TrialError, xh_TrialError, ca_TrialError, cg_TrialError, ct_TrialError, cm_TrialError⟩,
    xk_UnknownIndex := ⟨xg_UnknownIndex, xn_UnknownIndex, ex_UnknownIndex, xh_UnknownIndex, ca_UnknownIndex, cg_UnknownIndex, ct_UnknownIndex, cm_UnknownIndex⟩,
    ki_InvalidNumber_InvalidNumber := kit_err xi_InvalidNumber ty_InvalidNumber xs_InvalidNumber ks_InvalidNumber_InvalidNumber,
    ki_InvalidNumber_InvalidDrop := kit_err xi_InvalidDrop ty_InvalidDrop xs_InvalidNumber ks_InvalidNumber_InvalidDrop,
    ki_InvalidNumber_InvalidTime := kit_err xi_InvalidTime ty_InvalidTime xs_InvalidNumber ks_InvalidNumber_InvalidTime,
    ki_InvalidNumber_InvalidText := kit_err xi_InvalidText ty_InvalidText xs_InvalidNumber ks_InvalidNumber_InvalidText,
    ki_InvalidNumber_InvalidCommand := kit_err xi_InvalidCommand ty_InvalidCommand xs_InvalidNumber ks_InvalidNumber_InvalidCommand,
    ki_InvalidNumber_Full := kit_err xi_Full ty_Full xs_InvalidNumber ks_InvalidNumber_Full,
    ki_InvalidNumber_MissingDrop := kit_err xi_MissingDrop ty_MissingDrop xs_InvalidNumber ks_InvalidNumber_MissingDrop,
    ki_InvalidNumber_Touching := kit_err xi_Touching ty_Touching xs_InvalidNumber ks_InvalidNumber_Touching,
    ki_InvalidNumber_OutOfGround := kit_err xi_OutOfGround ty_OutOfGround xs_InvalidNumber ks_InvalidNumber_OutOfGround,
    ki_InvalidNumber_Overfull := kit_err xi_Overfull ty_Overfull xs_InvalidNumber ks_InvalidNumber_Overfull,
    ki_InvalidNumber_TrialError := kit_err xi_TrialError ty_TrialError xs_InvalidNumber ks_InvalidNumber_TrialError,
    ki_InvalidNumber_UnknownIndex := kit_err xi_UnknownIndex ty_UnknownIndex xs_InvalidNumber ks_InvalidNumber_UnknownIndex,
    ki_InvalidNumber_PoolError := kit_err xi_PoolError ty_PoolError xs_InvalidNumber ks_InvalidNumber_PoolError,
    ki_InvalidNumber_ValueError := kit_errT (by decide +kernel) ks_InvalidNumber_ValueError,
    ki_InvalidNumber_IndexError := kit_errT (by decide +kernel) ks_InvalidNumber_IndexError,
    ki_InvalidNumber_KeyError := kit_errT (by decide +kernel) ks_InvalidNumber_KeyError,
    ki_InvalidDrop_InvalidNumber := kit_err xi_InvalidNumber ty_InvalidNumber xs_InvalidDrop ks_InvalidDrop_InvalidNumber,
    ki_InvalidDrop_InvalidDrop := kit_err xi_InvalidDrop ty_InvalidDrop xs_InvalidDrop ks_InvalidDrop_InvalidDrop,
    ki_InvalidDrop_InvalidTime := kit_err xi_InvalidTime ty_InvalidTime xs_InvalidDrop ks_InvalidDrop_InvalidTime,
    ki_InvalidDrop_InvalidText := kit_err xi_InvalidText ty_InvalidText xs_InvalidDrop ks_InvalidDrop_InvalidText,
    ki_InvalidDrop_InvalidCommand := kit_err xi_InvalidCommand ty_InvalidCommand xs_InvalidDrop ks_InvalidDrop_InvalidCommand,
    ki_InvalidDrop_Full := kit_err xi_Full ty_Full xs_InvalidDrop ks_InvalidDrop_Full,
    ki_InvalidDrop_MissingDrop := kit_err xi_MissingDrop ty_MissingDrop xs_InvalidDrop ks_InvalidDrop_MissingDrop,
    ki_InvalidDrop_Touching := kit_err xi_Touching ty_Touching xs_InvalidDrop ks_InvalidDrop_Touching,
    ki_InvalidDrop_OutOfGround := kit_err xi_OutOfGround ty_OutOfGround xs_InvalidDrop ks_InvalidDrop_OutOfGround,
    ki_InvalidDrop_Overfull := kit_err xi_Overfull ty_Overfull xs_InvalidDrop ks_InvalidDrop_Overfull,
    ki_InvalidDrop_TrialError := kit_err xi_TrialError ty_TrialError xs_InvalidDrop ks_InvalidDrop_TrialError,
    ki_InvalidDrop_UnknownIndex := kit_err xi_UnknownIndex ty_UnknownIndex xs_InvalidDrop ks_InvalidDrop_UnknownIndex,
    ki_InvalidDrop_PoolError := kit_err xi_PoolError ty_PoolError xs_InvalidDrop ks_InvalidDrop_PoolError,
    ki_InvalidDrop_ValueError := kit_errT (by decide +kernel) ks_InvalidDrop_ValueError,
    ki_InvalidDrop_IndexError := kit_errT (by decide +kernel) ks_InvalidDrop_IndexError,
    ki_InvalidDrop_KeyError := kit_errT (by decide +kernel) ks_InvalidDrop_KeyError,
    ki_InvalidTime_InvalidNumber := kit_err xi_InvalidNumber ty_InvalidNumber xs_InvalidTime ks_InvalidTime_InvalidNumber,
    ki_InvalidTime_InvalidDrop := kit_err xi_InvalidDrop ty_InvalidDrop xs_InvalidTime ks_InvalidTime_InvalidDrop,
    ki_InvalidTime_InvalidTime := kit_err xi_InvalidTime ty_InvalidTime xs_InvalidTime ks_InvalidTime_InvalidTime,
    ki_InvalidTime_InvalidText := kit_err xi_InvalidText ty_InvalidText xs_InvalidTime ks_InvalidTime_InvalidText,
    ki_InvalidTime_InvalidCommand := kit_err xi_InvalidCommand ty_InvalidCommand xs_InvalidTime ks_InvalidTime_InvalidCommand,
    ki_InvalidTime_Full := kit_err xi_Full ty_Full xs_InvalidTime ks_InvalidTime_Full,
    ki_InvalidTime_MissingDrop := kit_err xi_MissingDrop ty_MissingDrop xs_InvalidTime ks_InvalidTime_MissingDrop,
    ki_InvalidTime_Touching := kit_err xi_Touching ty_Touching xs_InvalidTime ks_InvalidTime_Touching,
    ki_InvalidTime_OutOfGround := kit_err xi_OutOfGround ty_OutOfGround xs_InvalidTime ks_InvalidTime_OutOfGround,
    ki_InvalidTime_Overfull := kit_err xi_Overfull ty_Overfull xs_InvalidTime ks_InvalidTime_Overfull,
    ki_InvalidTime_TrialError := kit_err xi_TrialError ty_TrialError xs_InvalidTime ks_InvalidTime_TrialError,
    ki_InvalidTime_UnknownIndex := kit_err xi_UnknownIndex ty_UnknownIndex xs_InvalidTime ks_InvalidTime_UnknownIndex,
    ki_InvalidTime_PoolError := kit_err xi_PoolError ty_PoolError xs_InvalidTime ks_InvalidTime_PoolError,
    ki_InvalidTime_ValueError := kit_errT (by decide +kernel) ks_InvalidTime_ValueError,
    ki_InvalidTime_IndexError := kit_errT (by decide +kernel) ks_InvalidTime_IndexError,
    ki_InvalidTime_KeyError := kit_errT (by decide +kernel) ks_InvalidTime_KeyError,
    ki_InvalidText_InvalidNumber := kit_err xi_InvalidNumber ty_InvalidNumber xs_InvalidText ks_InvalidText_InvalidNumber,
    ki_InvalidText_InvalidDrop := kit_err xi_InvalidDrop ty_InvalidDrop xs_InvalidText ks_InvalidText_InvalidDrop,
    ki_InvalidText_InvalidTime := kit_err xi_InvalidTime ty_InvalidTime xs_InvalidText ks_InvalidText_InvalidTime,
    ki_InvalidText_InvalidText := kit_err xi_InvalidText ty_InvalidText xs_InvalidText ks_InvalidText_InvalidText,
    ki_InvalidText_InvalidCommand := kit_err xi_InvalidCommand ty_InvalidCommand xs_InvalidText ks_InvalidText_InvalidCommand,
    ki_InvalidText_Full := kit_err xi_Full ty_Full xs_InvalidText ks_InvalidText_Full,
    ki_InvalidText_MissingDrop := kit_err xi_MissingDrop ty_MissingDrop xs_InvalidText ks_InvalidText_MissingDrop,
    ki_InvalidText_Touching := kit_err xi_Touching ty_Touching xs_InvalidText ks_InvalidText_Touching,
    ki_InvalidText_OutOfGround := kit_err xi_OutOfGround ty_OutOfGround xs_InvalidText ks_InvalidText_OutOfGround,
    ki_InvalidText_Overfull := kit_err xi_Overfull ty_Overfull xs_InvalidText ks_InvalidText_Overfull,
    ki_InvalidText_TrialError := kit_err xi_TrialError ty_TrialError xs_InvalidText ks_InvalidText_TrialError,
    ki_InvalidText_UnknownIndex := kit_err xi_UnknownIndex ty_UnknownIndex xs_InvalidText ks_InvalidText_UnknownIndex,
    ki_InvalidText_PoolError := kit_err xi_PoolError ty_PoolError xs_InvalidText ks_InvalidText_PoolError,
    ki_InvalidText_ValueError := kit_errT (by decide +kernel) ks_InvalidText_ValueError,
    ki_InvalidText_IndexError := kit_errT (by decide +kernel) ks_InvalidText_IndexError,
    ki_InvalidText_KeyError := kit_errT (by decide +kernel) ks_InvalidText_KeyError,
    ki_InvalidCommand_InvalidNumber := kit_err xi_InvalidNumber ty_InvalidNumber xs_InvalidCommand ks_InvalidCommand_InvalidNumber,
    ki_InvalidCommand_InvalidDrop := kit_err xi_InvalidDrop ty_InvalidDrop xs_InvalidCommand ks_InvalidCommand_InvalidDrop,
    ki_InvalidCommand_InvalidTime := kit_err xi_InvalidTime ty_InvalidTime xs_InvalidCommand ks_InvalidCommand_InvalidTime,
    ki_InvalidCommand_InvalidText := kit_err xi_InvalidText ty_InvalidText xs_InvalidCommand ks_InvalidCommand_InvalidText,
    ki_InvalidCommand_InvalidCommand := kit_err xi_InvalidCommand ty_InvalidCommand xs_InvalidCommand ks_InvalidCommand_InvalidCommand,
    ki_InvalidCommand_Full := kit_err xi_Full ty_Full xs_InvalidCommand ks_InvalidCommand_Full,
    ki_InvalidCommand_MissingDrop := kit_err xi_MissingDrop ty_MissingDrop xs_InvalidCommand ks_InvalidCommand_MissingDrop,
    ki_InvalidCommand_Touching := kit_err xi_Touching ty_Touching xs_InvalidCommand ks_InvalidCommand_Touching,
    ki_InvalidCommand_OutOfGround := kit_err xi_OutOfGround ty_OutOfGround xs_InvalidCommand ks_InvalidCommand_OutOfGround,
    ki_InvalidCommand_Overfull := kit_err xi_Overfull ty_Overfull xs_InvalidCommand ks_InvalidCommand_Overfull,
    ki_InvalidCommand_TrialError := kit_err xi_TrialError ty_TrialError xs_InvalidCommand ks_InvalidCommand_TrialError,
    ki_InvalidCommand_UnknownIndex := kit_err xi_UnknownIndex ty_UnknownIndex xs_InvalidCommand ks_InvalidCommand_UnknownIndex,
    ki_InvalidCommand_PoolError := kit_err xi_PoolError ty_PoolError xs_InvalidCommand ks_InvalidCommand_PoolError,
    ki_InvalidCommand_ValueError := kit_errT (by decide +kernel) ks_InvalidCommand_ValueError,
    ki_InvalidCommand_IndexError := kit_errT (by decide +kernel) ks_InvalidCommand_IndexError,
    ki_InvalidCommand_KeyError := kit_errT (by decide +kernel) ks_InvalidCommand_KeyError,
    ki_Full_InvalidNumber := kit_err xi_InvalidNumber ty_InvalidNumber xs_Full ks_Full_InvalidNumber,
    ki_Full_InvalidDrop := kit_err xi_InvalidDrop ty_InvalidDrop xs_Full ks_Full_InvalidDrop,
    ki_Full_InvalidTime := kit_err xi_InvalidTime ty_InvalidTime xs_Full ks_Full_InvalidTime,
    ki_Full_InvalidText := kit_err xi_InvalidText ty_InvalidText xs_Full ks_Full_InvalidText,
    ki_Full_InvalidCommand := kit_err xi_InvalidCommand ty_InvalidCommand xs_Full ks_Full_InvalidCommand,
    ki_Full_Full := kit_err xi_Full ty_Full xs_Full ks_Full_Full,
    ki_Full_MissingDrop := kit_err xi_MissingDrop ty_MissingDrop xs_Full ks_Full_MissingDrop,
    ki_Full_Touching := kit_err xi_Touching ty_Touching xs_Full ks_Full_Touching,
    ki_Full_OutOfGround := kit_err xi_OutOfGround ty_OutOfGround xs_Full ks_Full_OutOfGround,
    ki_Full_Overfull := kit_err xi_Overfull ty_Overfull xs_Full ks_Full_Overfull,
    ki_Full_TrialError := kit_err xi_TrialError ty_TrialError xs_Full ks_Full_TrialError,
    ki_Full_UnknownIndex := kit_err xi_UnknownIndex ty_UnknownIndex xs_Full ks_Full_UnknownIndex,
    ki_Full_PoolError := kit_err xi_PoolError ty_PoolError xs_Full ks_Full_PoolError,
    ki_Full_ValueError := kit_errT (by decide +kernel) ks_Full_ValueError,
    ki_Full_IndexError := kit_errT (by decide +kernel) ks_Full_IndexError,
    ki_Full_KeyError := kit_errT (by decide +kernel) ks_Full_KeyError,
    ki_MissingDrop_InvalidNumber := kit_err xi_InvalidNumber ty_InvalidNumber xs_MissingDrop ks_MissingDrop_InvalidNumber,
    ki_MissingDrop_InvalidDrop := kit_err xi_InvalidDrop ty_InvalidDrop xs_MissingDrop ks_MissingDrop_InvalidDrop,
    ki_MissingDrop_InvalidTime := kit_err xi_InvalidTime ty_InvalidTime xs_MissingDrop ks_MissingDrop_InvalidTime,
    ki_MissingDrop_InvalidText := kit_err xi_InvalidText ty_InvalidText xs_MissingDrop ks_MissingDrop_InvalidText,
    ki_MissingDrop_InvalidCommand := kit_err xi_InvalidCommand ty_InvalidCommand xs_MissingDrop ks_MissingDrop_InvalidCommand,
    ki_MissingDrop_Full := kit_err xi_Full ty_Full xs_MissingDrop ks_MissingDrop_Full,
    ki_MissingDrop_MissingDrop := kit_err xi_MissingDrop ty_MissingDrop xs_MissingDrop ks_MissingDrop_MissingDrop,
    ki_MissingDrop_Touching := kit_err xi_Touching ty_Touching xs_MissingDrop ks_MissingDrop_Touching,
    ki_MissingDrop_OutOfGround := kit_err xi_OutOfGround ty_OutOfGround xs_MissingDrop ks_MissingDrop_OutOfGround,
    ki_MissingDrop_Overfull := kit_err xi_Overfull ty_Overfull xs_MissingDrop ks_MissingDrop_Overfull,
    ki_MissingDrop_TrialError := kit_err xi_TrialError ty_TrialError xs_MissingDrop ks_MissingDrop_TrialError,
    ki_MissingDrop_UnknownIndex := kit_err xi_UnknownIndex ty_UnknownIndex xs_MissingDrop ks_MissingDrop_UnknownIndex,
    ki_MissingDrop_PoolError := kit_err xi_PoolError ty_PoolError xs_MissingDrop ks_MissingDrop_PoolError,
    ki_MissingDrop_ValueError := kit_errT (by decide +kernel) ks_MissingDrop_ValueError,
    ki_MissingDrop_IndexError := kit_errT (by decide +kernel) ks_MissingDrop_IndexError,
    ki_MissingDrop_KeyError := kit_errT (by decide +kernel) ks_MissingDrop_KeyError,
    ki_Touching_InvalidNumber := kit_err xi_InvalidNumber ty_InvalidNumber xs_Touching ks_Touching_InvalidNumber,
    ki_Touching_InvalidDrop := kit_err xi_InvalidDrop ty_InvalidDrop xs_Touching ks_Touching_InvalidDrop,
    ki_Touching_InvalidTime := kit_err xi_InvalidTime ty_InvalidTime xs_Touching ks_Touching_InvalidTime,
    ki_Touching_InvalidText := kit_err xi_InvalidText ty_InvalidText xs_Touching ks_Touching_InvalidText,
    ki_Touching_InvalidCommand := kit_err xi_InvalidCommand ty_InvalidCommand xs_Touching ks_Touching_InvalidCommand,
    ki_Touching_Full := kit_err xi_Full ty_Full xs_Touching ks_Touching_Full,
    ki_Touching_MissingDrop := kit_err xi_MissingDrop ty_MissingDrop xs_Touching ks_Touching_MissingDrop,
    ki_Touching_Touching := kit_err xi_Touching ty_Touching xs_Touching ks_Touching_Touching,
    ki_Touching_OutOfGround := kit_err xi_OutOfGround ty_OutOfGround xs_Touching ks_Touching_OutOfGround,
    ki_Touching_Overfull := kit_err xi_Overfull ty_Overfull xs_Touching ks_Touching_Overfull,
    ki_Touching_TrialError := kit_err xi_TrialError ty_TrialError xs_Touching ks_Touching_TrialError,
    ki_Touching_UnknownIndex := kit_err xi_UnknownIndex ty_UnknownIndex xs_Touching ks_Touching_UnknownIndex,
    ki_Touching_PoolError := kit_err xi_PoolError ty_PoolError xs_Touching ks_Touching_PoolError,
    ki_Touching_ValueError := kit_errT (by decide +kernel) ks_Touching_ValueError,
    ki_Touching_IndexError := kit_errT (by decide +kernel) ks_Touching_IndexError,
    ki_Touching_KeyError := kit_errT (by decide +kernel) ks_Touching_KeyError,
    ki_OutOfGround_InvalidNumber := kit_err xi_InvalidNumber ty_InvalidNumber xs_OutOfGround ks_OutOfGround_InvalidNumber,
    ki_OutOfGround_InvalidDrop := kit_err xi_InvalidDrop ty_InvalidDrop xs_OutOfGround ks_OutOfGround_InvalidDrop,
    ki_OutOfGround_InvalidTime := kit_err xi_InvalidTime ty_InvalidTime xs_OutOfGround ks_OutOfGround_InvalidTime,
    ki_OutOfGround_InvalidText := kit_err xi_InvalidText ty_InvalidText xs_OutOfGround ks_OutOfGround_InvalidText,
    ki_OutOfGround_InvalidCommand := kit_err xi_InvalidCommand ty_InvalidCommand xs_OutOfGround ks_OutOfGround_InvalidCommand,
    ki_OutOfGround_Full := kit_err xi_Full ty_Full xs_OutOfGround ks_OutOfGround_Full,
    ki_OutOfGround_MissingDrop := kit_err xi_MissingDrop ty_MissingDrop xs_OutOfGround ks_OutOfGround_MissingDrop,
    ki_OutOfGround_Touching := kit_err xi_Touching ty_Touching xs_OutOfGround ks_OutOfGround_Touching,
    ki_OutOfGround_OutOfGround := kit_err xi_OutOfGround ty_OutOfGround xs_OutOfGround ks_OutOfGround_OutOfGround,
    ki_OutOfGround_Overfull := kit_err xi_Overfull ty_Overfull xs_OutOfGround ks_OutOfGround_Overfull,
    ki_OutOfGround_TrialError := kit_err xi_TrialError ty_TrialError xs_OutOfGround ks_OutOfGround_TrialError,
    ki_OutOfGround_UnknownIndex := kit_err xi_UnknownIndex ty_UnknownIndex xs_OutOfGround ks_OutOfGround_UnknownIndex,
    ki_OutOfGround_PoolError := kit_err xi_PoolError ty_PoolError xs_OutOfGround ks_OutOfGround_PoolError,
    ki_OutOfGround_ValueError := kit_errT (by decide +kernel) ks_OutOfGround_ValueError,
    ki_OutOfGround_IndexError := kit_errT (by decide +kernel) ks_OutOfGround_IndexError,
    ki_OutOfGround_KeyError := kit_errT (by decide +kernel) ks_OutOfGround_KeyError,
    ki_Overfull_InvalidNumber := kit_err xi_InvalidNumber ty_InvalidNumber xs_Overfull ks_Overfull_InvalidNumber,
    ki_Overfull_InvalidDrop := kit_err xi_InvalidDrop ty_InvalidDrop xs_Overfull ks_Overfull_InvalidDrop,
    ki_Overfull_InvalidTime := kit_err xi_InvalidTime ty_InvalidTime xs_Overfull ks_Overfull_InvalidTime,
    ki_Overfull_InvalidText := kit_err xi_InvalidText ty_InvalidText xs_Overfull ks_Overfull_InvalidText,
    ki_Overfull_InvalidCommand := kit_err xi_InvalidCommand ty_InvalidCommand xs_Overfull ks_Overfull_InvalidCommand,
    ki_Overfull_Full := kit_err xi_Full ty_Full xs_Overfull ks_Overfull_Full,
    ki_Overfull_MissingDrop := kit_err xi_MissingDrop ty_MissingDrop xs_Overfull ks_Overfull_MissingDrop,
    ki_Overfull_Touching := kit_err xi_Touching ty_Touching xs_Overfull ks_Overfull_Touching,
    ki_Overfull_OutOfGround := kit_err xi_OutOfGround ty_OutOfGround xs_Overfull ks_Overfull_OutOfGround,
    ki_Overfull_Overfull := kit_err xi_Overfull ty_Overfull xs_Overfull ks_Overfull_Overfull,
    ki_Overfull_TrialError := kit_err xi_TrialError ty_TrialError xs_Overfull ks_Overfull_TrialError,
    ki_Overfull_UnknownIndex := kit_err xi_UnknownIndex ty_UnknownIndex xs_Overfull ks_Overfull_UnknownIndex,
    ki_Overfull_PoolError := kit_err xi_PoolError ty_PoolError xs_Overfull ks_Overfull_PoolError,
    ki_Overfull_ValueError := kit_errT (by decide +kernel) ks_Overfull_ValueError,
    ki_Overfull_IndexError := kit_errT (by decide +kernel) ks_Overfull_IndexError,
    ki_Overfull_KeyError := kit_errT (by decide +kernel) ks_Overfull_KeyError,
    ki_TrialError_InvalidNumber := kit_err xi_InvalidNumber ty_InvalidNumber xs_TrialError ks_TrialError_InvalidNumber,
    ki_TrialError_InvalidDrop := kit_err xi_InvalidDrop ty_InvalidDrop xs_TrialError ks_TrialError_InvalidDrop,
    ki_TrialError_InvalidTime := kit_err xi_InvalidTime ty_InvalidTime xs_TrialError ks_TrialError_InvalidTime,
    ki_TrialError_InvalidText := kit_err xi_InvalidText ty_InvalidText xs_TrialError ks_TrialError_InvalidText,
    ki_TrialError_InvalidCommand := kit_err xi_InvalidCommand ty_InvalidCommand xs_TrialError ks_TrialError_InvalidCommand,
    ki_TrialError_Full := kit_err xi_Full ty_Full xs_TrialError ks_TrialError_Full,
    ki_TrialError_MissingDrop := kit_err xi_MissingDrop ty_MissingDrop xs_TrialError ks_TrialError_MissingDrop,
    ki_TrialError_Touching := kit_err xi_Touching ty_Touching xs_TrialError ks_TrialError_Touching,
    ki_TrialError_OutOfGround := kit_err xi_OutOfGround ty_OutOfGround xs_TrialError ks_TrialError_OutOfGround,
    ki_TrialError_Overfull := kit_err xi_Overfull ty_Overfull xs_TrialError ks_TrialError_Overfull,
    ki_TrialError_TrialError := kit_err xi_TrialError ty_TrialError xs_TrialError ks_TrialError_TrialError,
    ki_TrialError_UnknownIndex := kit_err xi_UnknownIndex ty_UnknownIndex xs_TrialError ks_TrialError_UnknownIndex,
    ki_TrialError_PoolError := kit_err xi_PoolError ty_PoolError xs_TrialError ks_TrialError_PoolError,
    ki_TrialError_ValueError := kit_errT (by decide +kernel) ks_TrialError_ValueError,
    ki_TrialError_IndexError := kit_errT (by decide +kernel) ks_TrialError_IndexError,
    ki_TrialError_KeyError := kit_errT (by decide +kernel) ks_TrialError_KeyError,
    ki_UnknownIndex_InvalidNumber := kit_err xi_InvalidNumber ty_InvalidNumber xs_UnknownIndex ks_UnknownIndex_InvalidNumber,
    ki_UnknownIndex_InvalidDrop := kit_err xi_InvalidDrop ty_InvalidDrop xs_UnknownIndex ks_UnknownIndex_InvalidDrop,
    ki_UnknownIndex_InvalidTime := kit_err xi_InvalidTime ty_InvalidTime xs_UnknownIndex ks_UnknownIndex_InvalidTime,
    ki_UnknownIndex_InvalidText := kit_err xi_InvalidText ty_InvalidText xs_UnknownIndex ks_UnknownIndex_InvalidText,
    ki_UnknownIndex_InvalidCommand := kit_err xi_InvalidCommand ty_InvalidCommand xs_UnknownIndex ks_UnknownIndex_InvalidCommand,
    ki_UnknownIndex_Full := kit_err xi_Full ty_Full xs_UnknownIndex ks_UnknownIndex_Full,
    ki_UnknownIndex_MissingDrop := kit_err xi_MissingDrop ty_MissingDrop xs_UnknownIndex ks_UnknownIndex_MissingDrop,
    ki_UnknownIndex_Touching := kit_err xi_Touching ty_Touching xs_UnknownIndex ks_UnknownIndex_Touching,
    ki_UnknownIndex_OutOfGround := kit_err xi_OutOfGround ty_OutOfGround xs_UnknownIndex ks_UnknownIndex_OutOfGround,
    ki_UnknownIndex_Overfull := kit_err xi_Overfull ty_Overfull xs_UnknownIndex ks_UnknownIndex_Overfull,
    ki_UnknownIndex_TrialError := kit_err xi_TrialError ty_TrialError xs_UnknownIndex ks_UnknownIndex_TrialError,
    ki_UnknownIndex_UnknownIndex := kit_err xi_UnknownIndex ty_UnknownIndex xs_UnknownIndex ks_UnknownIndex_UnknownIndex,
    ki_UnknownIndex_PoolError := kit_err xi_PoolError ty_PoolError xs_UnknownIndex ks_UnknownIndex_PoolError,
    ki_UnknownIndex_ValueError := kit_errT (by decide +kernel) ks_UnknownIndex_ValueError,
    ki_UnknownIndex_IndexError := kit_errT (by decide +kernel) ks_UnknownIndex_IndexError,
    ki_UnknownIndex_KeyError := kit_errT (by decide +kernel) ks_UnknownIndex_KeyError,
    n_IndexError := PySem.W.mg_none_of X G n_IndexError,
    n_KeyError := PySem.W.mg_none_of X G n_KeyError,
    n_NotImplemented := PySem.W.mg_none_of X G n_NotImplemented,
    n_ValueError := PySem.W.mg_none_of X G n_ValueError,
    n_abs := PySem.W.mg_none_of X G n_abs,
    n_all := PySem.W.mg_none_of X G n_all,
    n_bool := PySem.W.mg_none_of X G n_bool,
    n_classmethod := PySem.W.mg_none_of X G n_classmethod,
    n_enumerate := PySem.W.mg_none_of X G n_enumerate,
    n_int := PySem.W.mg_none_of X G n_int,
    n_isinstance := PySem.W.mg_none_of X G n_isinstance,
    n_len := PySem.W.mg_none_of X G n_len,
    n_max := PySem.W.mg_none_of X G n_max,
    n_min := PySem.W.mg_none_of X G n_min,
    n_property := PySem.W.mg_none_of X G n_property,
    n_range := PySem.W.mg_none_of X G n_range,
    n_repr := PySem.W.mg_none_of X G n_repr,
    n_str := PySem.W.mg_none_of X G n_str,
    n_tuple := PySem.W.mg_none_of X G n_tuple,
    n_zip := PySem.W.mg_none_of X G n_zip,
    c_DIGITS := ⟨_, PySem.W.mg_of X G c_DIGITS⟩,
    c_MOST_DIGITS := ⟨_, PySem.W.mg_of X G c_MOST_DIGITS⟩ }, (Value.ref.inj e).symm⟩
theorem fin_law {P : Program} {w : World} {K : PySem.W.Frag} {mg : Str → Option Value} {fa : Addr} (t : ∃ T : Tx K mg, T.a_law = fa) : ∃ fd : FuncData, (∀ (s : Shared) (u : Value), BindsTo s fd ⟨[u], []⟩ [("_law_script", u)]) ∧ ∀ base : Heap, K.In base → base.Ns mainGlobals mg → FnG P w K mg base lvl_law fa fd ["_law_script"] (spR K (RLaw Scr)) := by
  obtain ⟨T, rfl⟩ := t
  exact ⟨T.fd_law, binds_law T, fun base _ _ => ok_law T⟩
end PM
open PySem PySem.W PyProof.Rows
set_option maxRecDepth 100000 in
set_option maxHeartbeats 0 in
theorem PySem.Challenge.cw_poolsmeet_k01_errors_holds : PySem.Challenge.rw_poolsmeet_k01_errors.Holds := by
  refine topk ?_
  k_fill
  refine PM.walkG (l := PySem.Challenge.rw_poolsmeet_k01_errors) (k := PM.lvl_law) (x := "_law_script") rfl rfl ⟨rfl, by decide, by decide⟩ (fun w h Y => PySem.W.kIn_of Y) ?F
  case F =>
    intro w mg fa h KX G hmg
    refine' PM.fin_law (PM.tx_mk KX G hmg ?g_PoolError ?x_PoolError ?sa_PoolError ?ex_PoolError ?ty_PoolError ?kp_PoolError ?ur_PoolError ?ug_PoolError ?uf_PoolError ?g_InvalidNumber ?x_InvalidNumber ?sa_InvalidNumber ?ex_InvalidNumber ?ty_InvalidNumber ?kp_InvalidNumber ?xg_InvalidNumber ?xn_InvalidNumber ?xh_InvalidNumber ?xi_InvalidNumber ?xs_InvalidNumber ?na_InvalidNumber_value ?g_InvalidDrop ?x_InvalidDrop ?sa_InvalidDrop ?ex_InvalidDrop ?ty_InvalidDrop ?kp_InvalidDrop ?xg_InvalidDrop ?xn_InvalidDrop ?xh_InvalidDrop ?xi_InvalidDrop ?xs_InvalidDrop ?na_InvalidDrop_index ?g_InvalidTime ?x_InvalidTime ?sa_InvalidTime ?ex_InvalidTime ?ty_InvalidTime ?kp_InvalidTime ?xg_InvalidTime ?xn_InvalidTime ?xh_InvalidTime ?xi_InvalidTime ?xs_InvalidTime ?na_InvalidTime_time ?g_InvalidText ?x_InvalidText ?sa_InvalidText ?ex_InvalidText ?ty_InvalidText ?kp_InvalidText ?xg_InvalidText ?xn_InvalidText ?xh_InvalidText ?xi_InvalidText ?xs_InvalidText ?na_InvalidText_line ?g_InvalidCommand ?x_InvalidCommand ?sa_InvalidCommand ?ex_InvalidCommand ?ty_InvalidCommand ?kp_InvalidCommand ?xg_InvalidCommand ?xn_InvalidCommand ?xh_InvalidCommand ?xi_InvalidCommand ?xs_InvalidCommand ?g_Full ?x_Full ?sa_Full ?ex_Full ?ty_Full ?kp_Full ?xg_Full ?xn_Full ?xh_Full ?xi_Full ?xs_Full ?na_Full_limit ?g_MissingDrop ?x_MissingDrop ?sa_MissingDrop ?ex_MissingDrop ?ty_MissingDrop ?kp_MissingDrop ?xg_MissingDrop ?xn_MissingDrop ?xh_MissingDrop ?xi_MissingDrop ?xs_MissingDrop ?na_MissingDrop_spot ?na_MissingDrop_amount ?g_Touching ?x_Touching ?sa_Touching ?ex_Touching ?ty_Touching ?kp_Touching ?xg_Touching ?xn_Touching ?xh_Touching ?xi_Touching ?xs_Touching ?na_Touching_index ?g_OutOfGround ?x_OutOfGround ?sa_OutOfGround ?ex_OutOfGround ?ty_OutOfGround ?kp_OutOfGround ?xg_OutOfGround ?xn_OutOfGround ?xh_OutOfGround ?xi_OutOfGround ?xs_OutOfGround ?na_OutOfGround_spot ?g_Overfull ?x_Overfull ?sa_Overfull ?ex_Overfull ?ty_Overfull ?kp_Overfull ?xg_Overfull ?xn_Overfull ?xh_Overfull ?xi_Overfull ?xs_Overfull ?na_Overfull_total ?g_TrialError ?x_TrialError ?sa_TrialError ?ex_TrialError ?ty_TrialError ?kp_TrialError ?xg_TrialError ?xn_TrialError ?xh_TrialError ?xi_TrialError ?xs_TrialError ?g_UnknownIndex ?vi_IndexError ?x_UnknownIndex ?sa_UnknownIndex ?ex_UnknownIndex ?ty_UnknownIndex ?kp_UnknownIndex ?xg_UnknownIndex ?xn_UnknownIndex ?xh_UnknownIndex ?xi_UnknownIndex ?xs_UnknownIndex ?na_UnknownIndex_index ?g_Ratio ?pg_Ratio ?hd_Ratio ?po_Ratio ?sa_Ratio ?ca_Ratio ?cg_Ratio ?ct_Ratio ?lk_Ratio ?mr_Ratio ?ty_Ratio ?rd_Ratio ?gg_Ratio ?na_Ratio_top ?na_Ratio_bottom ?mi_Ratio ?kc_Ratio ?i_InvalidNumber_init ?t_InvalidNumber_init ?l_InvalidNumber_init ?c_InvalidNumber_init ?k_InvalidNumber_init ?i_InvalidDrop_init ?t_InvalidDrop_init ?l_InvalidDrop_init ?c_InvalidDrop_init ?k_InvalidDrop_init ?i_InvalidTime_init ?t_InvalidTime_init ?l_InvalidTime_init ?c_InvalidTime_init ?k_InvalidTime_init ?i_InvalidText_init ?t_InvalidText_init ?l_InvalidText_init ?c_InvalidText_init ?k_InvalidText_init ?i_InvalidCommand_init ?t_InvalidCommand_init ?l_InvalidCommand_init ?c_InvalidCommand_init ?k_InvalidCommand_init ?i_Full_init ?t_Full_init ?l_Full_init ?c_Full_init ?k_Full_init ?i_MissingDrop_init ?t_MissingDrop_init ?l_MissingDrop_init ?c_MissingDrop_init ?k_MissingDrop_init ?i_Touching_init ?t_Touching_init ?l_Touching_init ?c_Touching_init ?k_Touching_init ?i_OutOfGround_init ?t_OutOfGround_init ?l_OutOfGround_init ?c_OutOfGround_init ?k_OutOfGround_init ?i_Overfull_init ?t_Overfull_init ?l_Overfull_init ?c_Overfull_init ?k_Overfull_init ?i_TrialError_init ?t_TrialError_init ?l_TrialError_init ?c_TrialError_init ?k_TrialError_init ?i_UnknownIndex_init ?t_UnknownIndex_init ?l_UnknownIndex_init ?c_UnknownIndex_init ?k_UnknownIndex_init ?g_is_integer ?l_is_integer ?c_is_integer ?k_is_integer ?g_is_number ?l_is_number ?c_is_number ?k_is_number ?g_as_ratio ?l_as_ratio ?c_as_ratio ?k_as_ratio ?g_common_divisor ?l_common_divisor ?c_common_divisor ?k_common_divisor ?f_Ratio_init ?t_Ratio_init ?l_Ratio_init ?c_Ratio_init ?k_Ratio_init ?dt_Ratio_init ?g_w_box ?l_w_box ?c_w_box ?k_w_box ?g_w_take ?l_w_take ?c_w_take ?k_w_take ?g_w_value ?l_w_value ?c_w_value ?k_w_value ?g_w_alike ?l_w_alike ?c_w_alike ?k_w_alike ?g_w_placed ?l_w_placed ?c_w_placed ?k_w_placed ?g_w_named ?l_w_named ?c_w_named ?k_w_named ?g_w_kinds ?l_w_kinds ?c_w_kinds ?k_w_kinds ?g_w_right ?l_w_right ?c_w_right ?k_w_right ?g_law ?l_law ?c_law ?k_law ?ca_Full ?cg_Full ?ct_Full ?cm_Full ?ca_InvalidCommand ?cg_InvalidCommand ?ct_InvalidCommand ?cm_InvalidCommand ?ca_InvalidDrop ?cg_InvalidDrop ?ct_InvalidDrop ?cm_InvalidDrop ?ca_InvalidNumber ?cg_InvalidNumber ?ct_InvalidNumber ?cm_InvalidNumber ?ca_InvalidText ?cg_InvalidText ?ct_InvalidText ?cm_InvalidText ?ca_InvalidTime ?cg_InvalidTime ?ct_InvalidTime ?cm_InvalidTime ?ca_MissingDrop ?cg_MissingDrop ?ct_MissingDrop ?cm_MissingDrop ?ca_OutOfGround ?cg_OutOfGround ?ct_OutOfGround ?cm_OutOfGround ?ca_Overfull ?cg_Overfull ?ct_Overfull ?cm_Overfull ?ca_Touching ?cg_Touching ?ct_Touching ?cm_Touching ?ca_TrialError ?cg_TrialError ?ct_TrialError ?cm_TrialError ?ca_UnknownIndex ?cg_UnknownIndex ?ct_UnknownIndex ?cm_UnknownIndex ?xi_PoolError ?ks_InvalidNumber_InvalidNumber ?ks_InvalidNumber_InvalidDrop ?ks_InvalidNumber_InvalidTime ?ks_InvalidNumber_InvalidText ?ks_InvalidNumber_InvalidCommand ?ks_InvalidNumber_Full ?ks_InvalidNumber_MissingDrop ?ks_InvalidNumber_Touching ?ks_InvalidNumber_OutOfGround ?ks_InvalidNumber_Overfull ?ks_InvalidNumber_TrialError ?ks_InvalidNumber_UnknownIndex ?ks_InvalidNumber_PoolError ?ks_InvalidNumber_ValueError ?ks_InvalidNumber_IndexError ?ks_InvalidNumber_KeyError ?ks_InvalidDrop_InvalidNumber ?ks_InvalidDrop_InvalidDrop ?ks_InvalidDrop_InvalidTime ?ks_InvalidDrop_InvalidText ?ks_InvalidDrop_InvalidCommand ?ks_InvalidDrop_Full ?ks_InvalidDrop_MissingDrop ?ks_InvalidDrop_Touching ?ks_InvalidDrop_OutOfGround ?ks_InvalidDrop_Overfull ?ks_InvalidDrop_TrialError ?ks_InvalidDrop_UnknownIndex ?ks_InvalidDrop_PoolError ?ks_InvalidDrop_ValueError ?ks_InvalidDrop_IndexError ?ks_InvalidDrop_KeyError ?ks_InvalidTime_InvalidNumber ?ks_InvalidTime_InvalidDrop ?ks_InvalidTime_InvalidTime ?ks_InvalidTime_InvalidText ?ks_InvalidTime_InvalidCommand ?ks_InvalidTime_Full ?ks_InvalidTime_MissingDrop ?ks_InvalidTime_Touching ?ks_InvalidTime_OutOfGround ?ks_InvalidTime_Overfull ?ks_InvalidTime_TrialError ?ks_InvalidTime_UnknownIndex ?ks_InvalidTime_PoolError ?ks_InvalidTime_ValueError ?ks_InvalidTime_IndexError ?ks_InvalidTime_KeyError ?ks_InvalidText_InvalidNumber ?ks_InvalidText_InvalidDrop ?ks_InvalidText_InvalidTime ?ks_InvalidText_InvalidText ?ks_InvalidText_InvalidCommand ?ks_InvalidText_Full ?ks_InvalidText_MissingDrop ?ks_InvalidText_Touching ?ks_InvalidText_OutOfGround ?ks_InvalidText_Overfull ?ks_InvalidText_TrialError ?ks_InvalidText_UnknownIndex ?ks_InvalidText_PoolError ?ks_InvalidText_ValueError ?ks_InvalidText_IndexError ?ks_InvalidText_KeyError ?ks_InvalidCommand_InvalidNumber ?ks_InvalidCommand_InvalidDrop ?ks_InvalidCommand_InvalidTime ?ks_InvalidCommand_InvalidText ?ks_InvalidCommand_InvalidCommand ?ks_InvalidCommand_Full ?ks_InvalidCommand_MissingDrop ?ks_InvalidCommand_Touching ?ks_InvalidCommand_OutOfGround ?ks_InvalidCommand_Overfull ?ks_InvalidCommand_TrialError ?ks_InvalidCommand_UnknownIndex ?ks_InvalidCommand_PoolError ?ks_InvalidCommand_ValueError ?ks_InvalidCommand_IndexError ?ks_InvalidCommand_KeyError ?ks_Full_InvalidNumber ?ks_Full_InvalidDrop ?ks_Full_InvalidTime ?ks_Full_InvalidText ?ks_Full_InvalidCommand ?ks_Full_Full ?ks_Full_MissingDrop ?ks_Full_Touching ?ks_Full_OutOfGround ?ks_Full_Overfull ?ks_Full_TrialError ?ks_Full_UnknownIndex ?ks_Full_PoolError ?ks_Full_ValueError ?ks_Full_IndexError ?ks_Full_KeyError ?ks_MissingDrop_InvalidNumber ?ks_MissingDrop_InvalidDrop ?ks_MissingDrop_InvalidTime ?ks_MissingDrop_InvalidText ?ks_MissingDrop_InvalidCommand ?ks_MissingDrop_Full ?ks_MissingDrop_MissingDrop ?ks_MissingDrop_Touching ?ks_MissingDrop_OutOfGround ?ks_MissingDrop_Overfull ?ks_MissingDrop_TrialError ?ks_MissingDrop_UnknownIndex ?ks_MissingDrop_PoolError ?ks_MissingDrop_ValueError ?ks_MissingDrop_IndexError ?ks_MissingDrop_KeyError ?ks_Touching_InvalidNumber ?ks_Touching_InvalidDrop ?ks_Touching_InvalidTime ?ks_Touching_InvalidText ?ks_Touching_InvalidCommand ?ks_Touching_Full ?ks_Touching_MissingDrop ?ks_Touching_Touching ?ks_Touching_OutOfGround ?ks_Touching_Overfull ?ks_Touching_TrialError ?ks_Touching_UnknownIndex ?ks_Touching_PoolError ?ks_Touching_ValueError ?ks_Touching_IndexError ?ks_Touching_KeyError ?ks_OutOfGround_InvalidNumber ?ks_OutOfGround_InvalidDrop ?ks_OutOfGround_InvalidTime ?ks_OutOfGround_InvalidText ?ks_OutOfGround_InvalidCommand ?ks_OutOfGround_Full ?ks_OutOfGround_MissingDrop ?ks_OutOfGround_Touching ?ks_OutOfGround_OutOfGround ?ks_OutOfGround_Overfull ?ks_OutOfGround_TrialError ?ks_OutOfGround_UnknownIndex ?ks_OutOfGround_PoolError ?ks_OutOfGround_ValueError ?ks_OutOfGround_IndexError ?ks_OutOfGround_KeyError ?ks_Overfull_InvalidNumber ?ks_Overfull_InvalidDrop ?ks_Overfull_InvalidTime ?ks_Overfull_InvalidText ?ks_Overfull_InvalidCommand ?ks_Overfull_Full ?ks_Overfull_MissingDrop ?ks_Overfull_Touching ?ks_Overfull_OutOfGround ?ks_Overfull_Overfull ?ks_Overfull_TrialError ?ks_Overfull_UnknownIndex ?ks_Overfull_PoolError ?ks_Overfull_ValueError ?ks_Overfull_IndexError ?ks_Overfull_KeyError ?ks_TrialError_InvalidNumber ?ks_TrialError_InvalidDrop ?ks_TrialError_InvalidTime ?ks_TrialError_InvalidText ?ks_TrialError_InvalidCommand ?ks_TrialError_Full ?ks_TrialError_MissingDrop ?ks_TrialError_Touching ?ks_TrialError_OutOfGround ?ks_TrialError_Overfull ?ks_TrialError_TrialError ?ks_TrialError_UnknownIndex ?ks_TrialError_PoolError ?ks_TrialError_ValueError ?ks_TrialError_IndexError ?ks_TrialError_KeyError ?ks_UnknownIndex_InvalidNumber ?ks_UnknownIndex_InvalidDrop ?ks_UnknownIndex_InvalidTime ?ks_UnknownIndex_InvalidText ?ks_UnknownIndex_InvalidCommand ?ks_UnknownIndex_Full ?ks_UnknownIndex_MissingDrop ?ks_UnknownIndex_Touching ?ks_UnknownIndex_OutOfGround ?ks_UnknownIndex_Overfull ?ks_UnknownIndex_TrialError ?ks_UnknownIndex_UnknownIndex ?ks_UnknownIndex_PoolError ?ks_UnknownIndex_ValueError ?ks_UnknownIndex_IndexError ?ks_UnknownIndex_KeyError ?n_IndexError ?n_KeyError ?n_NotImplemented ?n_ValueError ?n_abs ?n_all ?n_bool ?n_classmethod ?n_enumerate ?n_int ?n_isinstance ?n_len ?n_max ?n_min ?n_property ?n_range ?n_repr ?n_str ?n_tuple ?n_zip ?c_DIGITS ?c_MOST_DIGITS)
    (case g_PoolError => first | k_is | (show some _ = some _; k_is))
    (case x_PoolError => first | k_is | (show some _ = some _; k_is))
    (case sa_PoolError => first | k_is | (show some _ = some _; k_is))
    (case ex_PoolError => first | k_is | (show some _ = some _; k_is))
    (case ty_PoolError => first | k_is | (show some _ = some _; k_is))
    (case kp_PoolError => first | k_is | (show some _ = some _; k_is))
    (case ur_PoolError => first | k_is | (show some _ = some _; k_is))
    (case ug_PoolError => first | k_is | (show some _ = some _; k_is))
    (case uf_PoolError => first | k_is | (show some _ = some _; k_is))
    (case g_InvalidNumber => first | k_is | (show some _ = some _; k_is))
    (case x_InvalidNumber => first | k_is | (show some _ = some _; k_is))
    (case sa_InvalidNumber => first | k_is | (show some _ = some _; k_is))
    (case ex_InvalidNumber => first | k_is | (show some _ = some _; k_is))
    (case ty_InvalidNumber => first | k_is | (show some _ = some _; k_is))
    (case kp_InvalidNumber => first | k_is | (show some _ = some _; k_is))
    (case xg_InvalidNumber => first | k_is | (show some _ = some _; k_is))
    (case xn_InvalidNumber => first | k_is | (show some _ = some _; k_is))
    (case xh_InvalidNumber => first | k_is | (show some _ = some _; k_is))
    (case xi_InvalidNumber => first | k_is | (show some _ = some _; k_is))
    (case xs_InvalidNumber => first | k_is | (show some _ = some _; k_is))
    (case na_InvalidNumber_value => first | k_is | (show some _ = some _; k_is))
    (case g_InvalidDrop => first | k_is | (show some _ = some _; k_is))
    (case x_InvalidDrop => first | k_is | (show some _ = some _; k_is))
    (case sa_InvalidDrop => first | k_is | (show some _ = some _; k_is))
    (case ex_InvalidDrop => first | k_is | (show some _ = some _; k_is))
    (case ty_InvalidDrop => first | k_is | (show some _ = some _; k_is))
    (case kp_InvalidDrop => first | k_is | (show some _ = some _; k_is))
    (case xg_InvalidDrop => first | k_is | (show some _ = some _; k_is))
    (case xn_InvalidDrop => first | k_is | (show some _ = some _; k_is))
    (case xh_InvalidDrop => first | k_is | (show some _ = some _; k_is))
    (case xi_InvalidDrop => first | k_is | (show some _ = some _; k_is))
    (case xs_InvalidDrop => first | k_is | (show some _ = some _; k_is))
    (case na_InvalidDrop_index => first | k_is | (show some _ = some _; k_is))
    (case g_InvalidTime => first | k_is | (show some _ = some _; k_is))
    (case x_InvalidTime => first | k_is | (show some _ = some _; k_is))
    (case sa_InvalidTime => first | k_is | (show some _ = some _; k_is))
    (case ex_InvalidTime => first | k_is | (show some _ = some _; k_is))
    (case ty_InvalidTime => first | k_is | (show some _ = some _; k_is))
    (case kp_InvalidTime => first | k_is | (show some _ = some _; k_is))
    (case xg_InvalidTime => first | k_is | (show some _ = some _; k_is))
    (case xn_InvalidTime => first | k_is | (show some _ = some _; k_is))
    (case xh_InvalidTime => first | k_is | (show some _ = some _; k_is))
    (case xi_InvalidTime => first | k_is | (show some _ = some _; k_is))
    (case xs_InvalidTime => first | k_is | (show some _ = some _; k_is))
    (case na_InvalidTime_time => first | k_is | (show some _ = some _; k_is))
    (case g_InvalidText => first | k_is | (show some _ = some _; k_is))
    (case x_InvalidText => first | k_is | (show some _ = some _; k_is))
    (case sa_InvalidText => first | k_is | (show some _ = some _; k_is))
    (case ex_InvalidText => first | k_is | (show some _ = some _; k_is))
    (case ty_InvalidText => first | k_is | (show some _ = some _; k_is))
    (case kp_InvalidText => first | k_is | (show some _ = some _; k_is))
    (case xg_InvalidText => first | k_is | (show some _ = some _; k_is))
    (case xn_InvalidText => first | k_is | (show some _ = some _; k_is))
    (case xh_InvalidText => first | k_is | (show some _ = some _; k_is))
    (case xi_InvalidText => first | k_is | (show some _ = some _; k_is))
    (case xs_InvalidText => first | k_is | (show some _ = some _; k_is))
    (case na_InvalidText_line => first | k_is | (show some _ = some _; k_is))
    (case g_InvalidCommand => first | k_is | (show some _ = some _; k_is))
    (case x_InvalidCommand => first | k_is | (show some _ = some _; k_is))
    (case sa_InvalidCommand => first | k_is | (show some _ = some _; k_is))
    (case ex_InvalidCommand => first | k_is | (show some _ = some _; k_is))
    (case ty_InvalidCommand => first | k_is | (show some _ = some _; k_is))
    (case kp_InvalidCommand => first | k_is | (show some _ = some _; k_is))
    (case xg_InvalidCommand => first | k_is | (show some _ = some _; k_is))
    (case xn_InvalidCommand => first | k_is | (show some _ = some _; k_is))
    (case xh_InvalidCommand => first | k_is | (show some _ = some _; k_is))
    (case xi_InvalidCommand => first | k_is | (show some _ = some _; k_is))
    (case xs_InvalidCommand => first | k_is | (show some _ = some _; k_is))
    (case g_Full => first | k_is | (show some _ = some _; k_is))
    (case x_Full => first | k_is | (show some _ = some _; k_is))
    (case sa_Full => first | k_is | (show some _ = some _; k_is))
    (case ex_Full => first | k_is | (show some _ = some _; k_is))
    (case ty_Full => first | k_is | (show some _ = some _; k_is))
    (case kp_Full => first | k_is | (show some _ = some _; k_is))
    (case xg_Full => first | k_is | (show some _ = some _; k_is))
    (case xn_Full => first | k_is | (show some _ = some _; k_is))
    (case xh_Full => first | k_is | (show some _ = some _; k_is))
    (case xi_Full => first | k_is | (show some _ = some _; k_is))
    (case xs_Full => first | k_is | (show some _ = some _; k_is))
    (case na_Full_limit => first | k_is | (show some _ = some _; k_is))
    (case g_MissingDrop => first | k_is | (show some _ = some _; k_is))
    (case x_MissingDrop => first | k_is | (show some _ = some _; k_is))
    (case sa_MissingDrop => first | k_is | (show some _ = some _; k_is))
    (case ex_MissingDrop => first | k_is | (show some _ = some _; k_is))
    (case ty_MissingDrop => first | k_is | (show some _ = some _; k_is))
    (case kp_MissingDrop => first | k_is | (show some _ = some _; k_is))
    (case xg_MissingDrop => first | k_is | (show some _ = some _; k_is))
    (case xn_MissingDrop => first | k_is | (show some _ = some _; k_is))
    (case xh_MissingDrop => first | k_is | (show some _ = some _; k_is))
    (case xi_MissingDrop => first | k_is | (show some _ = some _; k_is))
    (case xs_MissingDrop => first | k_is | (show some _ = some _; k_is))
    (case na_MissingDrop_spot => first | k_is | (show some _ = some _; k_is))
    (case na_MissingDrop_amount => first | k_is | (show some _ = some _; k_is))
    (case g_Touching => first | k_is | (show some _ = some _; k_is))
    (case x_Touching => first | k_is | (show some _ = some _; k_is))
    (case sa_Touching => first | k_is | (show some _ = some _; k_is))
    (case ex_Touching => first | k_is | (show some _ = some _; k_is))
    (case ty_Touching => first | k_is | (show some _ = some _; k_is))
    (case kp_Touching => first | k_is | (show some _ = some _; k_is))
    (case xg_Touching => first | k_is | (show some _ = some _; k_is))
    (case xn_Touching => first | k_is | (show some _ = some _; k_is))
    (case xh_Touching => first | k_is | (show some _ = some _; k_is))
    (case xi_Touching => first | k_is | (show some _ = some _; k_is))
    (case xs_Touching => first | k_is | (show some _ = some _; k_is))
    (case na_Touching_index => first | k_is | (show some _ = some _; k_is))
    (case g_OutOfGround => first | k_is | (show some _ = some _; k_is))
    (case x_OutOfGround => first | k_is | (show some _ = some _; k_is))
    (case sa_OutOfGround => first | k_is | (show some _ = some _; k_is))
    (case ex_OutOfGround => first | k_is | (show some _ = some _; k_is))
    (case ty_OutOfGround => first | k_is | (show some _ = some _; k_is))
    (case kp_OutOfGround => first | k_is | (show some _ = some _; k_is))
    (case xg_OutOfGround => first | k_is | (show some _ = some _; k_is))
    (case xn_OutOfGround => first | k_is | (show some _ = some _; k_is))
    (case xh_OutOfGround => first | k_is | (show some _ = some _; k_is))
    (case xi_OutOfGround => first | k_is | (show some _ = some _; k_is))
    (case xs_OutOfGround => first | k_is | (show some _ = some _; k_is))
    (case na_OutOfGround_spot => first | k_is | (show some _ = some _; k_is))
    (case g_Overfull => first | k_is | (show some _ = some _; k_is))
    (case x_Overfull => first | k_is | (show some _ = some _; k_is))
    (case sa_Overfull => first | k_is | (show some _ = some _; k_is))
    (case ex_Overfull => first | k_is | (show some _ = some _; k_is))
    (case ty_Overfull => first | k_is | (show some _ = some _; k_is))
    (case kp_Overfull => first | k_is | (show some _ = some _; k_is))
    (case xg_Overfull => first | k_is | (show some _ = some _; k_is))
    (case xn_Overfull => first | k_is | (show some _ = some _; k_is))
    (case xh_Overfull => first | k_is | (show some _ = some _; k_is))
    (case xi_Overfull => first | k_is | (show some _ = some _; k_is))
    (case xs_Overfull => first | k_is | (show some _ = some _; k_is))
    (case na_Overfull_total => first | k_is | (show some _ = some _; k_is))
    (case g_TrialError => first | k_is | (show some _ = some _; k_is))
    (case x_TrialError => first | k_is | (show some _ = some _; k_is))
    (case sa_TrialError => first | k_is | (show some _ = some _; k_is))
    (case ex_TrialError => first | k_is | (show some _ = some _; k_is))
    (case ty_TrialError => first | k_is | (show some _ = some _; k_is))
    (case kp_TrialError => first | k_is | (show some _ = some _; k_is))
    (case xg_TrialError => first | k_is | (show some _ = some _; k_is))
    (case xn_TrialError => first | k_is | (show some _ = some _; k_is))
    (case xh_TrialError => first | k_is | (show some _ = some _; k_is))
    (case xi_TrialError => first | k_is | (show some _ = some _; k_is))
    (case xs_TrialError => first | k_is | (show some _ = some _; k_is))
    (case g_UnknownIndex => first | k_is | (show some _ = some _; k_is))
    (case vi_IndexError => first | k_is | (show some _ = some _; k_is))
    (case x_UnknownIndex => first | k_is | (show some _ = some _; k_is))
    (case sa_UnknownIndex => first | k_is | (show some _ = some _; k_is))
    (case ex_UnknownIndex => first | k_is | (show some _ = some _; k_is))
    (case ty_UnknownIndex => first | k_is | (show some _ = some _; k_is))
    (case kp_UnknownIndex => first | k_is | (show some _ = some _; k_is))
    (case xg_UnknownIndex => first | k_is | (show some _ = some _; k_is))
    (case xn_UnknownIndex => first | k_is | (show some _ = some _; k_is))
    (case xh_UnknownIndex => first | k_is | (show some _ = some _; k_is))
    (case xi_UnknownIndex => first | k_is | (show some _ = some _; k_is))
    (case xs_UnknownIndex => first | k_is | (show some _ = some _; k_is))
    (case na_UnknownIndex_index => first | k_is | (show some _ = some _; k_is))
    (case g_Ratio => first | k_is | (show some _ = some _; k_is))
    (case pg_Ratio => first | k_is | (show some _ = some _; k_is))
    (case hd_Ratio => first | k_is | (show some _ = some _; k_is))
    (case po_Ratio => first | k_is | (show some _ = some _; k_is))
    (case sa_Ratio => first | k_is | (show some _ = some _; k_is))
    (case ca_Ratio => first | k_is | (show some _ = some _; k_is))
    (case cg_Ratio => first | k_is | (show some _ = some _; k_is))
    (case ct_Ratio => first | k_is | (show some _ = some _; k_is))
    (case lk_Ratio => first | k_is | (show some _ = some _; k_is))
    (case mr_Ratio => rfl)
    (case ty_Ratio => first | k_is | (show some _ = some _; k_is))
    (case rd_Ratio => first | k_is | (show some _ = some _; k_is))
    (case gg_Ratio => first | k_is | (show some _ = some _; k_is))
    (case na_Ratio_top => first | k_is | (show some _ = some _; k_is))
    (case na_Ratio_bottom => first | k_is | (show some _ = some _; k_is))
    (case mi_Ratio => first | k_is | (show some _ = some _; k_is))
    (case kc_Ratio => first | k_is | (show some _ = some _; k_is))
    (case i_InvalidNumber_init => first | k_is | (show some _ = some _; k_is))
    (case t_InvalidNumber_init => first | k_is | (show some _ = some _; k_is))
    (case l_InvalidNumber_init => first | k_is | (show some _ = some _; k_is))
    (case c_InvalidNumber_init => first | k_is | (show some _ = some _; k_is))
    (case k_InvalidNumber_init => first | k_is | (show some _ = some _; k_is))
    (case i_InvalidDrop_init => first | k_is | (show some _ = some _; k_is))
    (case t_InvalidDrop_init => first | k_is | (show some _ = some _; k_is))
    (case l_InvalidDrop_init => first | k_is | (show some _ = some _; k_is))
    (case c_InvalidDrop_init => first | k_is | (show some _ = some _; k_is))
    (case k_InvalidDrop_init => first | k_is | (show some _ = some _; k_is))
    (case i_InvalidTime_init => first | k_is | (show some _ = some _; k_is))
    (case t_InvalidTime_init => first | k_is | (show some _ = some _; k_is))
    (case l_InvalidTime_init => first | k_is | (show some _ = some _; k_is))
    (case c_InvalidTime_init => first | k_is | (show some _ = some _; k_is))
    (case k_InvalidTime_init => first | k_is | (show some _ = some _; k_is))
    (case i_InvalidText_init => first | k_is | (show some _ = some _; k_is))
    (case t_InvalidText_init => first | k_is | (show some _ = some _; k_is))
    (case l_InvalidText_init => first | k_is | (show some _ = some _; k_is))
    (case c_InvalidText_init => first | k_is | (show some _ = some _; k_is))
    (case k_InvalidText_init => first | k_is | (show some _ = some _; k_is))
    (case i_InvalidCommand_init => first | k_is | (show some _ = some _; k_is))
    (case t_InvalidCommand_init => first | k_is | (show some _ = some _; k_is))
    (case l_InvalidCommand_init => first | k_is | (show some _ = some _; k_is))
    (case c_InvalidCommand_init => first | k_is | (show some _ = some _; k_is))
    (case k_InvalidCommand_init => first | k_is | (show some _ = some _; k_is))
    (case i_Full_init => first | k_is | (show some _ = some _; k_is))
    (case t_Full_init => first | k_is | (show some _ = some _; k_is))
    (case l_Full_init => first | k_is | (show some _ = some _; k_is))
    (case c_Full_init => first | k_is | (show some _ = some _; k_is))
    (case k_Full_init => first | k_is | (show some _ = some _; k_is))
    (case i_MissingDrop_init => first | k_is | (show some _ = some _; k_is))
    (case t_MissingDrop_init => first | k_is | (show some _ = some _; k_is))
    (case l_MissingDrop_init => first | k_is | (show some _ = some _; k_is))
    (case c_MissingDrop_init => first | k_is | (show some _ = some _; k_is))
    (case k_MissingDrop_init => first | k_is | (show some _ = some _; k_is))
    (case i_Touching_init => first | k_is | (show some _ = some _; k_is))
    (case t_Touching_init => first | k_is | (show some _ = some _; k_is))
    (case l_Touching_init => first | k_is | (show some _ = some _; k_is))
    (case c_Touching_init => first | k_is | (show some _ = some _; k_is))
    (case k_Touching_init => first | k_is | (show some _ = some _; k_is))
    (case i_OutOfGround_init => first | k_is | (show some _ = some _; k_is))
    (case t_OutOfGround_init => first | k_is | (show some _ = some _; k_is))
    (case l_OutOfGround_init => first | k_is | (show some _ = some _; k_is))
    (case c_OutOfGround_init => first | k_is | (show some _ = some _; k_is))
    (case k_OutOfGround_init => first | k_is | (show some _ = some _; k_is))
    (case i_Overfull_init => first | k_is | (show some _ = some _; k_is))
    (case t_Overfull_init => first | k_is | (show some _ = some _; k_is))
    (case l_Overfull_init => first | k_is | (show some _ = some _; k_is))
    (case c_Overfull_init => first | k_is | (show some _ = some _; k_is))
    (case k_Overfull_init => first | k_is | (show some _ = some _; k_is))
    (case i_TrialError_init => first | k_is | (show some _ = some _; k_is))
    (case t_TrialError_init => first | k_is | (show some _ = some _; k_is))
    (case l_TrialError_init => first | k_is | (show some _ = some _; k_is))
    (case c_TrialError_init => first | k_is | (show some _ = some _; k_is))
    (case k_TrialError_init => first | k_is | (show some _ = some _; k_is))
    (case i_UnknownIndex_init => first | k_is | (show some _ = some _; k_is))
    (case t_UnknownIndex_init => first | k_is | (show some _ = some _; k_is))
    (case l_UnknownIndex_init => first | k_is | (show some _ = some _; k_is))
    (case c_UnknownIndex_init => first | k_is | (show some _ = some _; k_is))
    (case k_UnknownIndex_init => first | k_is | (show some _ = some _; k_is))
    (case g_is_integer => first | k_is | (show some _ = some _; k_is))
    (case l_is_integer => first | k_is | (show some _ = some _; k_is))
    (case c_is_integer => first | k_is | (show some _ = some _; k_is))
    (case k_is_integer => first | k_is | (show some _ = some _; k_is))
    (case g_is_number => first | k_is | (show some _ = some _; k_is))
    (case l_is_number => first | k_is | (show some _ = some _; k_is))
    (case c_is_number => first | k_is | (show some _ = some _; k_is))
    (case k_is_number => first | k_is | (show some _ = some _; k_is))
    (case g_as_ratio => first | k_is | (show some _ = some _; k_is))
    (case l_as_ratio => first | k_is | (show some _ = some _; k_is))
    (case c_as_ratio => first | k_is | (show some _ = some _; k_is))
    (case k_as_ratio => first | k_is | (show some _ = some _; k_is))
    (case g_common_divisor => first | k_is | (show some _ = some _; k_is))
    (case l_common_divisor => first | k_is | (show some _ = some _; k_is))
    (case c_common_divisor => first | k_is | (show some _ = some _; k_is))
    (case k_common_divisor => first | k_is | (show some _ = some _; k_is))
    (case f_Ratio_init => first | k_is | (show some _ = some _; k_is))
    (case t_Ratio_init => first | k_is | (show some _ = some _; k_is))
    (case l_Ratio_init => first | k_is | (show some _ = some _; k_is))
    (case c_Ratio_init => first | k_is | (show some _ = some _; k_is))
    (case k_Ratio_init => first | k_is | (show some _ = some _; k_is))
    (case dt_Ratio_init => first | k_is | (show some _ = some _; k_is))
    (case g_w_box => first | k_is | (show some _ = some _; k_is))
    (case l_w_box => first | k_is | (show some _ = some _; k_is))
    (case c_w_box => first | k_is | (show some _ = some _; k_is))
    (case k_w_box => first | k_is | (show some _ = some _; k_is))
    (case g_w_take => first | k_is | (show some _ = some _; k_is))
    (case l_w_take => first | k_is | (show some _ = some _; k_is))
    (case c_w_take => first | k_is | (show some _ = some _; k_is))
    (case k_w_take => first | k_is | (show some _ = some _; k_is))
    (case g_w_value => first | k_is | (show some _ = some _; k_is))
    (case l_w_value => first | k_is | (show some _ = some _; k_is))
    (case c_w_value => first | k_is | (show some _ = some _; k_is))
    (case k_w_value => first | k_is | (show some _ = some _; k_is))
    (case g_w_alike => first | k_is | (show some _ = some _; k_is))
    (case l_w_alike => first | k_is | (show some _ = some _; k_is))
    (case c_w_alike => first | k_is | (show some _ = some _; k_is))
    (case k_w_alike => first | k_is | (show some _ = some _; k_is))
    (case g_w_placed => first | k_is | (show some _ = some _; k_is))
    (case l_w_placed => first | k_is | (show some _ = some _; k_is))
    (case c_w_placed => first | k_is | (show some _ = some _; k_is))
    (case k_w_placed => first | k_is | (show some _ = some _; k_is))
    (case g_w_named => first | k_is | (show some _ = some _; k_is))
    (case l_w_named => first | k_is | (show some _ = some _; k_is))
    (case c_w_named => first | k_is | (show some _ = some _; k_is))
    (case k_w_named => first | k_is | (show some _ = some _; k_is))
    (case g_w_kinds => first | k_is | (show some _ = some _; k_is))
    (case l_w_kinds => first | k_is | (show some _ = some _; k_is))
    (case c_w_kinds => first | k_is | (show some _ = some _; k_is))
    (case k_w_kinds => first | k_is | (show some _ = some _; k_is))
    (case g_w_right => first | k_is | (show some _ = some _; k_is))
    (case l_w_right => first | k_is | (show some _ = some _; k_is))
    (case c_w_right => first | k_is | (show some _ = some _; k_is))
    (case k_w_right => first | k_is | (show some _ = some _; k_is))
    (case g_law => first | k_is | (show some _ = some _; k_is))
    (case l_law => first | k_is | (show some _ = some _; k_is))
    (case c_law => first | k_is | (show some _ = some _; k_is))
    (case k_law => first | k_is | (show some _ = some _; k_is))
    (case ca_Full => first | k_is | (show some _ = some _; k_is))
    (case cg_Full => first | k_is | (show some _ = some _; k_is))
    (case ct_Full => first | k_is | (show some _ = some _; k_is))
    (case cm_Full => first | k_is | (show some _ = some _; k_is))
    (case ca_InvalidCommand => first | k_is | (show some _ = some _; k_is))
    (case cg_InvalidCommand => first | k_is | (show some _ = some _; k_is))
    (case ct_InvalidCommand => first | k_is | (show some _ = some _; k_is))
    (case cm_InvalidCommand => first | k_is | (show some _ = some _; k_is))
    (case ca_InvalidDrop => first | k_is | (show some _ = some _; k_is))
    (case cg_InvalidDrop => first | k_is | (show some _ = some _; k_is))
    (case ct_InvalidDrop => first | k_is | (show some _ = some _; k_is))
    (case cm_InvalidDrop => first | k_is | (show some _ = some _; k_is))
    (case ca_InvalidNumber => first | k_is | (show some _ = some _; k_is))
    (case cg_InvalidNumber => first | k_is | (show some _ = some _; k_is))
    (case ct_InvalidNumber => first | k_is | (show some _ = some _; k_is))
    (case cm_InvalidNumber => first | k_is | (show some _ = some _; k_is))
    (case ca_InvalidText => first | k_is | (show some _ = some _; k_is))
    (case cg_InvalidText => first | k_is | (show some _ = some _; k_is))
    (case ct_InvalidText => first | k_is | (show some _ = some _; k_is))
    (case cm_InvalidText => first | k_is | (show some _ = some _; k_is))
    (case ca_InvalidTime => first | k_is | (show some _ = some _; k_is))
    (case cg_InvalidTime => first | k_is | (show some _ = some _; k_is))
    (case ct_InvalidTime => first | k_is | (show some _ = some _; k_is))
    (case cm_InvalidTime => first | k_is | (show some _ = some _; k_is))
    (case ca_MissingDrop => first | k_is | (show some _ = some _; k_is))
    (case cg_MissingDrop => first | k_is | (show some _ = some _; k_is))
    (case ct_MissingDrop => first | k_is | (show some _ = some _; k_is))
    (case cm_MissingDrop => first | k_is | (show some _ = some _; k_is))
    (case ca_OutOfGround => first | k_is | (show some _ = some _; k_is))
    (case cg_OutOfGround => first | k_is | (show some _ = some _; k_is))
    (case ct_OutOfGround => first | k_is | (show some _ = some _; k_is))
    (case cm_OutOfGround => first | k_is | (show some _ = some _; k_is))
    (case ca_Overfull => first | k_is | (show some _ = some _; k_is))
    (case cg_Overfull => first | k_is | (show some _ = some _; k_is))
    (case ct_Overfull => first | k_is | (show some _ = some _; k_is))
    (case cm_Overfull => first | k_is | (show some _ = some _; k_is))
    (case ca_Touching => first | k_is | (show some _ = some _; k_is))
    (case cg_Touching => first | k_is | (show some _ = some _; k_is))
    (case ct_Touching => first | k_is | (show some _ = some _; k_is))
    (case cm_Touching => first | k_is | (show some _ = some _; k_is))
    (case ca_TrialError => first | k_is | (show some _ = some _; k_is))
    (case cg_TrialError => first | k_is | (show some _ = some _; k_is))
    (case ct_TrialError => first | k_is | (show some _ = some _; k_is))
    (case cm_TrialError => first | k_is | (show some _ = some _; k_is))
    (case ca_UnknownIndex => first | k_is | (show some _ = some _; k_is))
    (case cg_UnknownIndex => first | k_is | (show some _ = some _; k_is))
    (case ct_UnknownIndex => first | k_is | (show some _ = some _; k_is))
    (case cm_UnknownIndex => first | k_is | (show some _ = some _; k_is))
    (case xi_PoolError => first | k_is | (show some _ = some _; k_is))
    (case ks_InvalidNumber_InvalidNumber => first | k_is | (show some _ = some _; k_is))
    (case ks_InvalidNumber_InvalidDrop => first | k_is | (show some _ = some _; k_is))
    (case ks_InvalidNumber_InvalidTime => first | k_is | (show some _ = some _; k_is))
    (case ks_InvalidNumber_InvalidText => first | k_is | (show some _ = some _; k_is))
    (case ks_InvalidNumber_InvalidCommand => first | k_is | (show some _ = some _; k_is))
    (case ks_InvalidNumber_Full => first | k_is | (show some _ = some _; k_is))
    (case ks_InvalidNumber_MissingDrop => first | k_is | (show some _ = some _; k_is))
    (case ks_InvalidNumber_Touching => first | k_is | (show some _ = some _; k_is))
    (case ks_InvalidNumber_OutOfGround => first | k_is | (show some _ = some _; k_is))
    (case ks_InvalidNumber_Overfull => first | k_is | (show some _ = some _; k_is))
    (case ks_InvalidNumber_TrialError => first | k_is | (show some _ = some _; k_is))
    (case ks_InvalidNumber_UnknownIndex => first | k_is | (show some _ = some _; k_is))
    (case ks_InvalidNumber_PoolError => first | k_is | (show some _ = some _; k_is))
    (case ks_InvalidNumber_ValueError => first | k_is | (show some _ = some _; k_is))
    (case ks_InvalidNumber_IndexError => first | k_is | (show some _ = some _; k_is))
    (case ks_InvalidNumber_KeyError => first | k_is | (show some _ = some _; k_is))
    (case ks_InvalidDrop_InvalidNumber => first | k_is | (show some _ = some _; k_is))
    (case ks_InvalidDrop_InvalidDrop => first | k_is | (show some _ = some _; k_is))
    (case ks_InvalidDrop_InvalidTime => first | k_is | (show some _ = some _; k_is))
    (case ks_InvalidDrop_InvalidText => first | k_is | (show some _ = some _; k_is))
    (case ks_InvalidDrop_InvalidCommand => first | k_is | (show some _ = some _; k_is))
    (case ks_InvalidDrop_Full => first | k_is | (show some _ = some _; k_is))
    (case ks_InvalidDrop_MissingDrop => first | k_is | (show some _ = some _; k_is))
    (case ks_InvalidDrop_Touching => first | k_is | (show some _ = some _; k_is))
    (case ks_InvalidDrop_OutOfGround => first | k_is | (show some _ = some _; k_is))
    (case ks_InvalidDrop_Overfull => first | k_is | (show some _ = some _; k_is))
    (case ks_InvalidDrop_TrialError => first | k_is | (show some _ = some _; k_is))
    (case ks_InvalidDrop_UnknownIndex => first | k_is | (show some _ = some _; k_is))
    (case ks_InvalidDrop_PoolError => first | k_is | (show some _ = some _; k_is))
    (case ks_InvalidDrop_ValueError => first | k_is | (show some _ = some _; k_is))
    (case ks_InvalidDrop_IndexError => first | k_is | (show some _ = some _; k_is))
    (case ks_InvalidDrop_KeyError => first | k_is | (show some _ = some _; k_is))
    (case ks_InvalidTime_InvalidNumber => first | k_is | (show some _ = some _; k_is))
    (case ks_InvalidTime_InvalidDrop => first | k_is | (show some _ = some _; k_is))
    (case ks_InvalidTime_InvalidTime => first | k_is | (show some _ = some _; k_is))
    (case ks_InvalidTime_InvalidText => first | k_is | (show some _ = some _; k_is))
    (case ks_InvalidTime_InvalidCommand => first | k_is | (show some _ = some _; k_is))
    (case ks_InvalidTime_Full => first | k_is | (show some _ = some _; k_is))
    (case ks_InvalidTime_MissingDrop => first | k_is | (show some _ = some _; k_is))
    (case ks_InvalidTime_Touching => first | k_is | (show some _ = some _; k_is))
    (case ks_InvalidTime_OutOfGround => first | k_is | (show some _ = some _; k_is))
    (case ks_InvalidTime_Overfull => first | k_is | (show some _ = some _; k_is))
    (case ks_InvalidTime_TrialError => first | k_is | (show some _ = some _; k_is))
    (case ks_InvalidTime_UnknownIndex => first | k_is | (show some _ = some _; k_is))
    (case ks_InvalidTime_PoolError => first | k_is | (show some _ = some _; k_is))
    (case ks_InvalidTime_ValueError => first | k_is | (show some _ = some _; k_is))
    (case ks_InvalidTime_IndexError => first | k_is | (show some _ = some _; k_is))
    (case ks_InvalidTime_KeyError => first | k_is | (show some _ = some _; k_is))
    (case ks_InvalidText_InvalidNumber => first | k_is | (show some _ = some _; k_is))
    (case ks_InvalidText_InvalidDrop => first | k_is | (show some _ = some _; k_is))
    (case ks_InvalidText_InvalidTime => first | k_is | (show some _ = some _; k_is))
    (case ks_InvalidText_InvalidText => first | k_is | (show some _ = some _; k_is))
    (case ks_InvalidText_InvalidCommand => first | k_is | (show some _ = some _; k_is))
    (case ks_InvalidText_Full => first | k_is | (show some _ = some _; k_is))
    (case ks_InvalidText_MissingDrop => first | k_is | (show some _ = some _; k_is))
    (case ks_InvalidText_Touching => first | k_is | (show some _ = some _; k_is))
    (case ks_InvalidText_OutOfGround => first | k_is | (show some _ = some _; k_is))
    (case ks_InvalidText_Overfull => first | k_is | (show some _ = some _; k_is))
    (case ks_InvalidText_TrialError => first | k_is | (show some _ = some _; k_is))
    (case ks_InvalidText_UnknownIndex => first | k_is | (show some _ = some _; k_is))
    (case ks_InvalidText_PoolError => first | k_is | (show some _ = some _; k_is))
    (case ks_InvalidText_ValueError => first | k_is | (show some _ = some _; k_is))
    (case ks_InvalidText_IndexError => first | k_is | (show some _ = some _; k_is))
    (case ks_InvalidText_KeyError => first | k_is | (show some _ = some _; k_is))
    (case ks_InvalidCommand_InvalidNumber => first | k_is | (show some _ = some _; k_is))
    (case ks_InvalidCommand_InvalidDrop => first | k_is | (show some _ = some _; k_is))
    (case ks_InvalidCommand_InvalidTime => first | k_is | (show some _ = some _; k_is))
    (case ks_InvalidCommand_InvalidText => first | k_is | (show some _ = some _; k_is))
    (case ks_InvalidCommand_InvalidCommand => first | k_is | (show some _ = some _; k_is))
    (case ks_InvalidCommand_Full => first | k_is | (show some _ = some _; k_is))
    (case ks_InvalidCommand_MissingDrop => first | k_is | (show some _ = some _; k_is))
    (case ks_InvalidCommand_Touching => first | k_is | (show some _ = some _; k_is))
    (case ks_InvalidCommand_OutOfGround => first | k_is | (show some _ = some _; k_is))
    (case ks_InvalidCommand_Overfull => first | k_is | (show some _ = some _; k_is))
    (case ks_InvalidCommand_TrialError => first | k_is | (show some _ = some _; k_is))
    (case ks_InvalidCommand_UnknownIndex => first | k_is | (show some _ = some _; k_is))
    (case ks_InvalidCommand_PoolError => first | k_is | (show some _ = some _; k_is))
    (case ks_InvalidCommand_ValueError => first | k_is | (show some _ = some _; k_is))
    (case ks_InvalidCommand_IndexError => first | k_is | (show some _ = some _; k_is))
    (case ks_InvalidCommand_KeyError => first | k_is | (show some _ = some _; k_is))
    (case ks_Full_InvalidNumber => first | k_is | (show some _ = some _; k_is))
    (case ks_Full_InvalidDrop => first | k_is | (show some _ = some _; k_is))
    (case ks_Full_InvalidTime => first | k_is | (show some _ = some _; k_is))
    (case ks_Full_InvalidText => first | k_is | (show some _ = some _; k_is))
    (case ks_Full_InvalidCommand => first | k_is | (show some _ = some _; k_is))
    (case ks_Full_Full => first | k_is | (show some _ = some _; k_is))
    (case ks_Full_MissingDrop => first | k_is | (show some _ = some _; k_is))
    (case ks_Full_Touching => first | k_is | (show some _ = some _; k_is))
    (case ks_Full_OutOfGround => first | k_is | (show some _ = some _; k_is))
    (case ks_Full_Overfull => first | k_is | (show some _ = some _; k_is))
    (case ks_Full_TrialError => first | k_is | (show some _ = some _; k_is))
    (case ks_Full_UnknownIndex => first | k_is | (show some _ = some _; k_is))
    (case ks_Full_PoolError => first | k_is | (show some _ = some _; k_is))
    (case ks_Full_ValueError => first | k_is | (show some _ = some _; k_is))
    (case ks_Full_IndexError => first | k_is | (show some _ = some _; k_is))
    (case ks_Full_KeyError => first | k_is | (show some _ = some _; k_is))
    (case ks_MissingDrop_InvalidNumber => first | k_is | (show some _ = some _; k_is))
    (case ks_MissingDrop_InvalidDrop => first | k_is | (show some _ = some _; k_is))
    (case ks_MissingDrop_InvalidTime => first | k_is | (show some _ = some _; k_is))
    (case ks_MissingDrop_InvalidText => first | k_is | (show some _ = some _; k_is))
    (case ks_MissingDrop_InvalidCommand => first | k_is | (show some _ = some _; k_is))
    (case ks_MissingDrop_Full => first | k_is | (show some _ = some _; k_is))
    (case ks_MissingDrop_MissingDrop => first | k_is | (show some _ = some _; k_is))
    (case ks_MissingDrop_Touching => first | k_is | (show some _ = some _; k_is))
    (case ks_MissingDrop_OutOfGround => first | k_is | (show some _ = some _; k_is))
    (case ks_MissingDrop_Overfull => first | k_is | (show some _ = some _; k_is))
    (case ks_MissingDrop_TrialError => first | k_is | (show some _ = some _; k_is))
    (case ks_MissingDrop_UnknownIndex => first | k_is | (show some _ = some _; k_is))
    (case ks_MissingDrop_PoolError => first | k_is | (show some _ = some _; k_is))
    (case ks_MissingDrop_ValueError => first | k_is | (show some _ = some _; k_is))
    (case ks_MissingDrop_IndexError => first | k_is | (show some _ = some _; k_is))
    (case ks_MissingDrop_KeyError => first | k_is | (show some _ = some _; k_is))
    (case ks_Touching_InvalidNumber => first | k_is | (show some _ = some _; k_is))
    (case ks_Touching_InvalidDrop => first | k_is | (show some _ = some _; k_is))
    (case ks_Touching_InvalidTime => first | k_is | (show some _ = some _; k_is))
    (case ks_Touching_InvalidText => first | k_is | (show some _ = some _; k_is))
    (case ks_Touching_InvalidCommand => first | k_is | (show some _ = some _; k_is))
    (case ks_Touching_Full => first | k_is | (show some _ = some _; k_is))
    (case ks_Touching_MissingDrop => first | k_is | (show some _ = some _; k_is))
    (case ks_Touching_Touching => first | k_is | (show some _ = some _; k_is))
    (case ks_Touching_OutOfGround => first | k_is | (show some _ = some _; k_is))
    (case ks_Touching_Overfull => first | k_is | (show some _ = some _; k_is))
    (case ks_Touching_TrialError => first | k_is | (show some _ = some _; k_is))
    (case ks_Touching_UnknownIndex => first | k_is | (show some _ = some _; k_is))
    (case ks_Touching_PoolError => first | k_is | (show some _ = some _; k_is))
    (case ks_Touching_ValueError => first | k_is | (show some _ = some _; k_is))
    (case ks_Touching_IndexError => first | k_is | (show some _ = some _; k_is))
    (case ks_Touching_KeyError => first | k_is | (show some _ = some _; k_is))
    (case ks_OutOfGround_InvalidNumber => first | k_is | (show some _ = some _; k_is))
    (case ks_OutOfGround_InvalidDrop => first | k_is | (show some _ = some _; k_is))
    (case ks_OutOfGround_InvalidTime => first | k_is | (show some _ = some _; k_is))
    (case ks_OutOfGround_InvalidText => first | k_is | (show some _ = some _; k_is))
    (case ks_OutOfGround_InvalidCommand => first | k_is | (show some _ = some _; k_is))
    (case ks_OutOfGround_Full => first | k_is | (show some _ = some _; k_is))
    (case ks_OutOfGround_MissingDrop => first | k_is | (show some _ = some _; k_is))
    (case ks_OutOfGround_Touching => first | k_is | (show some _ = some _; k_is))
    (case ks_OutOfGround_OutOfGround => first | k_is | (show some _ = some _; k_is))
    (case ks_OutOfGround_Overfull => first | k_is | (show some _ = some _; k_is))
    (case ks_OutOfGround_TrialError => first | k_is | (show some _ = some _; k_is))
    (case ks_OutOfGround_UnknownIndex => first | k_is | (show some _ = some _; k_is))
    (case ks_OutOfGround_PoolError => first | k_is | (show some _ = some _; k_is))
    (case ks_OutOfGround_ValueError => first | k_is | (show some _ = some _; k_is))
    (case ks_OutOfGround_IndexError => first | k_is | (show some _ = some _; k_is))
    (case ks_OutOfGround_KeyError => first | k_is | (show some _ = some _; k_is))
    (case ks_Overfull_InvalidNumber => first | k_is | (show some _ = some _; k_is))
    (case ks_Overfull_InvalidDrop => first | k_is | (show some _ = some _; k_is))
    (case ks_Overfull_InvalidTime => first | k_is | (show some _ = some _; k_is))
    (case ks_Overfull_InvalidText => first | k_is | (show some _ = some _; k_is))
    (case ks_Overfull_InvalidCommand => first | k_is | (show some _ = some _; k_is))
    (case ks_Overfull_Full => first | k_is | (show some _ = some _; k_is))
    (case ks_Overfull_MissingDrop => first | k_is | (show some _ = some _; k_is))
    (case ks_Overfull_Touching => first | k_is | (show some _ = some _; k_is))
    (case ks_Overfull_OutOfGround => first | k_is | (show some _ = some _; k_is))
    (case ks_Overfull_Overfull => first | k_is | (show some _ = some _; k_is))
    (case ks_Overfull_TrialError => first | k_is | (show some _ = some _; k_is))
    (case ks_Overfull_UnknownIndex => first | k_is | (show some _ = some _; k_is))
    (case ks_Overfull_PoolError => first | k_is | (show some _ = some _; k_is))
    (case ks_Overfull_ValueError => first | k_is | (show some _ = some _; k_is))
    (case ks_Overfull_IndexError => first | k_is | (show some _ = some _; k_is))
    (case ks_Overfull_KeyError => first | k_is | (show some _ = some _; k_is))
    (case ks_TrialError_InvalidNumber => first | k_is | (show some _ = some _; k_is))
    (case ks_TrialError_InvalidDrop => first | k_is | (show some _ = some _; k_is))
    (case ks_TrialError_InvalidTime => first | k_is | (show some _ = some _; k_is))
    (case ks_TrialError_InvalidText => first | k_is | (show some _ = some _; k_is))
    (case ks_TrialError_InvalidCommand => first | k_is | (show some _ = some _; k_is))
    (case ks_TrialError_Full => first | k_is | (show some _ = some _; k_is))
    (case ks_TrialError_MissingDrop => first | k_is | (show some _ = some _; k_is))
    (case ks_TrialError_Touching => first | k_is | (show some _ = some _; k_is))
    (case ks_TrialError_OutOfGround => first | k_is | (show some _ = some _; k_is))
    (case ks_TrialError_Overfull => first | k_is | (show some _ = some _; k_is))
    (case ks_TrialError_TrialError => first | k_is | (show some _ = some _; k_is))
    (case ks_TrialError_UnknownIndex => first | k_is | (show some _ = some _; k_is))
    (case ks_TrialError_PoolError => first | k_is | (show some _ = some _; k_is))
    (case ks_TrialError_ValueError => first | k_is | (show some _ = some _; k_is))
    (case ks_TrialError_IndexError => first | k_is | (show some _ = some _; k_is))
    (case ks_TrialError_KeyError => first | k_is | (show some _ = some _; k_is))
    (case ks_UnknownIndex_InvalidNumber => first | k_is | (show some _ = some _; k_is))
    (case ks_UnknownIndex_InvalidDrop => first | k_is | (show some _ = some _; k_is))
    (case ks_UnknownIndex_InvalidTime => first | k_is | (show some _ = some _; k_is))
    (case ks_UnknownIndex_InvalidText => first | k_is | (show some _ = some _; k_is))
    (case ks_UnknownIndex_InvalidCommand => first | k_is | (show some _ = some _; k_is))
    (case ks_UnknownIndex_Full => first | k_is | (show some _ = some _; k_is))
    (case ks_UnknownIndex_MissingDrop => first | k_is | (show some _ = some _; k_is))
    (case ks_UnknownIndex_Touching => first | k_is | (show some _ = some _; k_is))
    (case ks_UnknownIndex_OutOfGround => first | k_is | (show some _ = some _; k_is))
    (case ks_UnknownIndex_Overfull => first | k_is | (show some _ = some _; k_is))
    (case ks_UnknownIndex_TrialError => first | k_is | (show some _ = some _; k_is))
    (case ks_UnknownIndex_UnknownIndex => first | k_is | (show some _ = some _; k_is))
    (case ks_UnknownIndex_PoolError => first | k_is | (show some _ = some _; k_is))
    (case ks_UnknownIndex_ValueError => first | k_is | (show some _ = some _; k_is))
    (case ks_UnknownIndex_IndexError => first | k_is | (show some _ = some _; k_is))
    (case ks_UnknownIndex_KeyError => first | k_is | (show some _ = some _; k_is))
    (case n_IndexError => first | k_is | (show some _ = some _; k_is))
    (case n_KeyError => first | k_is | (show some _ = some _; k_is))
    (case n_NotImplemented => first | k_is | (show some _ = some _; k_is))
    (case n_ValueError => first | k_is | (show some _ = some _; k_is))
    (case n_abs => first | k_is | (show some _ = some _; k_is))
    (case n_all => first | k_is | (show some _ = some _; k_is))
    (case n_bool => first | k_is | (show some _ = some _; k_is))
    (case n_classmethod => first | k_is | (show some _ = some _; k_is))
    (case n_enumerate => first | k_is | (show some _ = some _; k_is))
    (case n_int => first | k_is | (show some _ = some _; k_is))
    (case n_isinstance => first | k_is | (show some _ = some _; k_is))
    (case n_len => first | k_is | (show some _ = some _; k_is))
    (case n_max => first | k_is | (show some _ = some _; k_is))
    (case n_min => first | k_is | (show some _ = some _; k_is))
    (case n_property => first | k_is | (show some _ = some _; k_is))
    (case n_range => first | k_is | (show some _ = some _; k_is))
    (case n_repr => first | k_is | (show some _ = some _; k_is))
    (case n_str => first | k_is | (show some _ = some _; k_is))
    (case n_tuple => first | k_is | (show some _ = some _; k_is))
    (case n_zip => first | k_is | (show some _ = some _; k_is))
    (case c_DIGITS => first | k_is | (show some _ = some _; k_is))
    (case c_MOST_DIGITS => first | k_is | (show some _ = some _; k_is))
#print axioms PySem.Challenge.cw_poolsmeet_k01_errors_holds
