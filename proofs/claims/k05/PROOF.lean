import PyProof.Rows.All
import Wide.All
import OpenK.AllK
import Wide.FinOn
import PyProof.EqAt
import PyProof.EqKinds
import PyProof.TupleCall
import HandS.ForMost
import HandS.ForExc
import HandS.ExcInit
import HandS.Wide
import HandS.Flow
import HandS.EndBits
import HandS.ClsMeth
import HandS.Property
import HandS.Defaults
import HandS.IsInst
import HandS.Zip
import HandS.More
import HandS.ExcField
import HandS.SlotsOwn
import KE.KOpsOwn
import HandS.FStr
import HandS.Style
import KE.KCallOwn
import KE.KFmtOwn
import PyProof.StrBlock2
import PyProof.InstNe
import PyProof.StrHeap
import HandS.ExcIs
import KE.GoesMore
import KE.GoesEnum
import KE.GoesZip
import HandS.HotCalls
import HandS.TupAny
import HandS.OwnEq
import PyProof.NeKinds
import HandS.GenList
import HandS.GenYield
import KE.KExcInit
import HandS.List
import HandS.Text
import HandS.Iter
import PyProof.StrOps2
import PyProof.ReprNest
import KE.KIntText
import PyProof.Rows.StrOr
import HandS.Deep
import PyProof.Rows.StrDigitsNeg
import PyProof.StrLaws
import HandS.TryOnly
import PyProof.FString5
import PyProof.StrLawsRepr
import KE.OsRunLaw
import PySem.Challenge.RW_poolsmeet_k05_texts_of_ratios
set_option Elab.async false
set_option linter.all false
set_option maxRecDepth 100000
set_option maxHeartbeats 4000000
theorem PM.keepR {R : PySem.World → PySem.OsState → Prop} {H : Prop} (heavyv : ∀ w os, R w os) (mainv : H) : H := mainv
theorem PM.bothL {A B : Prop} (bothv : A ∧ B) : A := bothv.1
/-- the top's run in four looks, each for itself -/
theorem PM.splitImp {σ β γ δ : Type} {A : PySem.World → PySem.OsState → σ → Bool} {B : PySem.World → PySem.OsState → σ → δ} {E : PySem.World → PySem.OsState → Option σ} {as : List PySem.Addr} {g : PySem.World → PySem.OsState → σ → PySem.Addr → γ} {b : δ} {K : PySem.World → List β} {h : β → γ} {T H : Prop} (n : Nat)
    (top : T ∧ (∀ w os, Option.map (fun s => (A w os s, B w os s, List.map (g w os s) as)) (E w os) = some (true, b, List.map h (K w))) → H) :
    ((∀ w os, Option.map (fun s => A w os s) (E w os) = some true) ∧ (∀ w os, Option.map (fun s => B w os s) (E w os) = some b)) ∧ (∀ w os, Option.map (fun s => List.map (g w os s) (as.take n)) (E w os) = some (List.map h ((K w).take n))) ∧ (∀ w os, Option.map (fun s => List.map (g w os s) (as.drop n)) (E w os) = some (List.map h ((K w).drop n))) → T → H := by
  rintro ⟨⟨h0, h1⟩, h2, h3⟩ t
  refine top ⟨t, fun w os => ?_⟩
  have e0 := h0 w os
  have e1 := h1 w os
  have e2 := h2 w os
  have e3 := h3 w os
  cases e : E w os with
  | none => rw [e] at e1; cases e1
  | some s =>
    rw [e] at e0 e1 e2 e3
    simp only [Option.map_some, Option.some.injEq, Prod.mk.injEq] at e0 e1 e2 e3 ⊢
    refine ⟨e0, e1, ?_⟩
    rw [← List.take_append_drop n as, List.map_append, e2, e3, ← List.map_append, List.take_append_drop]
abbrev PM.p0 {Z A B C T H : Prop} (_ : (Z ∧ A) ∧ B ∧ C → T → H) : Prop := Z
abbrev PM.p1 {Z A B C T H : Prop} (_ : (Z ∧ A) ∧ B ∧ C → T → H) : Prop := A
abbrev PM.p2 {Z A B C T H : Prop} (_ : (Z ∧ A) ∧ B ∧ C → T → H) : Prop := B
abbrev PM.p3 {Z A B C T H : Prop} (_ : (Z ∧ A) ∧ B ∧ C → T → H) : Prop := C
section
set_option hygiene false in
open Lean in
local macro_rules
  | `(tactic| kernel_rfl%$tk) => do
    if tk.getPos? == some ⟨424242⟩ then Macro.throwUnsupported
    let a : Syntax := .atom (.synthetic ⟨424242⟩ ⟨424243⟩) "kernel_rfl"
    `(tactic| first | ((have _z : PySem.World := by assumption); clear _z; rename_i w0 os0; exact ?heavyv w0 os0) | kernel_rfl%$a)
set_option hygiene false in
local macro_rules | `(tactic| k_head) => `(tactic| (refine' PM.keepR ?heavyv ?mainv; (case' mainv => k_headL); (case' hc => refine' PM.bothL ?bothv); (case' heavyv => exact (?bothv).2)))
open PySem.W in
open_top topk0 for PySem.Challenge.rw_poolsmeet_k05_texts_of_ratios
end
def topk1 := PM.splitImp 340 topk0
theorem topk_a : PM.p0 topk1 := by delta PM.p0; intro w os; kernel_rfl
theorem topk_b : PM.p1 topk1 := by delta PM.p1; intro w os; kernel_rfl
theorem topk_c : PM.p2 topk1 := by delta PM.p2; intro w os; kernel_rfl
theorem topk_d : PM.p3 topk1 := by delta PM.p3; intro w os; kernel_rfl
def topk := topk1 ⟨⟨topk_a, topk_b⟩, topk_c, topk_d⟩
set_option Elab.async false
set_option linter.all false
set_option maxRecDepth 100000
/-! An abstract machine over the layer: data as trees, a store of things that change. -/
namespace PM
open PySem L2

/-- a datum: an immutable tree; loc n: the n-th thing of the store -/
inductive D where
  | non | bl (b : Bool) | int (i : Int) | str (x : Str) | ref (a : Addr) | ty (n : String) | loc (n : Nat)
  | tup (ds : List D) | lst (ds : List D) | scr (ds : List D) | exn (a dd : Addr) (ns : List Str) (ds : List D) | obj (C : Addr) (ns : List Str) (ds : List D) | err (C : Addr) (ns : List Str) (ds : List D)
/-- a thing of the store -/
inductive M where
  | lst (ds : List D) | ins (C : Addr) (ns : List Str) (ds : List D) | gone | box

/-- the dict of an error that was made: none, or its fields -/
def ErD (G : Hp) : Option Addr → List (Str × V) → Prop
  | none, fs => fs = []
  | some d, fs => G d = some (exd d fs)
section
variable (K : PySem.W.Frag) (L : List Addr) (G : Hp)
mutual
def Rep : D → V → Prop
  | .non, v => v = .non
  | .bl b, v => v = .bl b
  | .int i, v => v = .int i
  | .str x, v => v = .str x
  | .ref a, v => v = .ref a
  | .ty n, v => v = .ty n
  | .loc n, v => ∃ a, L[n]? = some a ∧ v = .ref a
  | .tup ds, v => ∃ a vs, v = .ref a ∧ SqT K G a vs ∧ Reps ds vs
  | .lst ds, v => ∃ a vs, v = .ref a ∧ G a = some (.lst vs) ∧ Reps ds vs
  | .scr ds, v => ∃ a vs, v = .ref a ∧ SqL K G a vs ∧ Reps ds vs
  | .exn a dd ns ds, v => ∃ vs, v = .ref a ∧ G dd = some (.xd (ns.zip vs)) ∧ ns.length = ds.length ∧ Reps ds vs
  | .obj C ns ds, v => ∃ a dx vs, v = .ref a ∧ G a = some (.ins C dx (ns.zip vs)) ∧ ns.length = ds.length ∧ Reps ds vs
  | .err C ns ds, v => ∃ a dx vs, v = .ref a ∧ (G a = some (exo a C dx) ∧ ErD G dx (ns.zip vs)) ∧ ns.length = ds.length ∧ Reps ds vs
def Reps : List D → List V → Prop
  | [], vs => vs = []
  | d :: ds, vs => ∃ v r, vs = v :: r ∧ Rep d v ∧ Reps ds r
end
end

theorem Same.rd {H H' : Hp} {a : Addr} {u : HO} (e : Same H H') (h : Rd H a u) : Rd H' a u := by
  rcases h with h | ⟨o, h⟩
  · exact .inl (e _ _ h)
  · exact .inr ⟨o, e _ _ h⟩
theorem Same.sqT {K : PySem.W.Frag} {H H' : Hp} {a : Addr} {xs : List V} (e : Same H H') (h : SqT K H a xs) : SqT K H' a xs := by
  rcases h with h | h
  · exact .inl (Same.rd e h)
  · exact .inr h
theorem Same.sqL {K : PySem.W.Frag} {H H' : Hp} {a : Addr} {xs : List V} (e : Same H H') (h : SqL K H a xs) : SqL K H' a xs := by
  rcases h with h | h
  · exact .inl (Same.rd e h)
  · exact .inr h
/-- the places of the store stay -/
def Pre (L L' : List Addr) : Prop := ∀ (n : Nat) a, L[n]? = some a → L'[n]? = some a
theorem Pre.refl (L : List Addr) : Pre L L := fun _ _ h => h
theorem Pre.trans {L L1 L2 : List Addr} (a : Pre L L1) (b : Pre L1 L2) : Pre L L2 := fun n x h => b n x (a n x h)
theorem Pre.app {L r : List Addr} : Pre L (L ++ r) := fun n a h => by
  rw [List.getElem?_append_left (List.getElem?_eq_some_iff.mp h).1]
  exact h

section
variable {K : PySem.W.Frag} {L L' : List Addr} {G G' : Hp}
mutual
theorem Rep.mono (hl : Pre L L') (hg : Same G G') : ∀ {d : D} {v : V}, Rep K L G d v → Rep K L' G' d v
  | .non, _, h => by simp only [Rep] at h ⊢; exact h
  | .bl _, _, h => by simp only [Rep] at h ⊢; exact h
  | .int _, _, h => by simp only [Rep] at h ⊢; exact h
  | .str _, _, h => by simp only [Rep] at h ⊢; exact h
  | .ref _, _, h => by simp only [Rep] at h ⊢; exact h
  | .ty _, _, h => by simp only [Rep] at h ⊢; exact h
  | .loc n, _, h => by
    simp only [Rep] at h ⊢
    obtain ⟨a, e, r⟩ := h
    exact ⟨a, hl n a e, r⟩
  | .tup ds, _, h => by
    simp only [Rep] at h ⊢
    obtain ⟨a, vs, e, q, r⟩ := h
    exact ⟨a, vs, e, Same.sqT hg q, Reps.mono hl hg r⟩
  | .lst ds, _, h => by
    simp only [Rep] at h ⊢
    obtain ⟨a, vs, e, q, r⟩ := h
    exact ⟨a, vs, e, hg _ _ q, Reps.mono hl hg r⟩
  | .scr ds, _, h => by
    simp only [Rep] at h ⊢
    obtain ⟨a, vs, e, q, r⟩ := h
    exact ⟨a, vs, e, Same.sqL hg q, Reps.mono hl hg r⟩
  | .exn a dd ns ds, _, h => by
    simp only [Rep] at h ⊢
    obtain ⟨vs, e, q, z, r⟩ := h
    exact ⟨vs, e, hg _ _ q, z, Reps.mono hl hg r⟩
  | .obj C ns ds, _, h => by
    simp only [Rep] at h ⊢
    obtain ⟨a, dx, vs, e, q, z, r⟩ := h
    exact ⟨a, dx, vs, e, hg _ _ q, z, Reps.mono hl hg r⟩
  | .err C ns ds, _, h => by
    simp only [Rep] at h ⊢
    obtain ⟨a, dx, vs, e, ⟨q, q2⟩, z, r⟩ := h
    refine ⟨a, dx, vs, e, ⟨hg _ _ q, ?_⟩, z, Reps.mono hl hg r⟩
    cases dx with
    | none => exact q2
    | some d => exact hg _ _ q2
theorem Reps.mono (hl : Pre L L') (hg : Same G G') : ∀ {ds : List D} {vs : List V}, Reps K L G ds vs → Reps K L' G' ds vs
  | [], _, h => by simp only [Reps] at h ⊢; exact h
  | d :: ds, _, h => by
    simp only [Reps] at h ⊢
    obtain ⟨v, r, e, h1, h2⟩ := h
    exact ⟨v, r, e, Rep.mono hl hg h1, Reps.mono hl hg h2⟩
end
theorem Reps.length : ∀ {ds : List D} {vs : List V}, Reps K L G ds vs → vs.length = ds.length
  | [], _, h => by simp only [Reps] at h; subst h; rfl
  | d :: ds, _, h => by
    simp only [Reps] at h
    obtain ⟨v, r, e, _, h2⟩ := h
    subst e
    simp [Reps.length h2]
theorem Reps.get : ∀ {ds : List D} {vs : List V} {i : Nat} {d : D}, Reps K L G ds vs → ds[i]? = some d → ∃ v, vs[i]? = some v ∧ Rep K L G d v
  | [], _, i, d, _, e => by simp at e
  | x :: ds, _, 0, d, h, e => by
    simp only [Reps] at h
    obtain ⟨v, r, rfl, h1, _⟩ := h
    simp only [List.getElem?_cons_zero, Option.some.injEq] at e
    subst e
    exact ⟨v, rfl, h1⟩
  | x :: ds, _, i + 1, d, h, e => by
    simp only [Reps] at h
    obtain ⟨v, r, rfl, _, h2⟩ := h
    simp only [List.getElem?_cons_succ] at e ⊢
    exact Reps.get h2 e
theorem Reps.nil : Reps K L G [] [] := by simp only [Reps]
theorem Reps.cons {d : D} {ds : List D} {v : V} {vs : List V} (h : Rep K L G d v) (r : Reps K L G ds vs) : Reps K L G (d :: ds) (v :: vs) := by
  simp only [Reps]
  exact ⟨v, vs, rfl, h, r⟩
theorem Reps.append : ∀ {ds es : List D} {vs us : List V}, Reps K L G ds vs → Reps K L G es us → Reps K L G (ds ++ es) (vs ++ us)
  | [], _, _, _, h, r => by simp only [Reps] at h; subst h; exact r
  | d :: ds, _, _, _, h, r => by
    simp only [Reps] at h
    obtain ⟨v, q, rfl, h1, h2⟩ := h
    exact Reps.cons h1 (Reps.append h2 r)
theorem Reps.inv_nil {vs : List V} (h : Reps K L G [] vs) : vs = [] := by simp only [Reps] at h; exact h
theorem Reps.inv_cons {d : D} {ds : List D} {vs : List V} (h : Reps K L G (d :: ds) vs) : ∃ v r, vs = v :: r ∧ Rep K L G d v ∧ Reps K L G ds r := by simp only [Reps] at h; exact h
theorem Reps.set {d : D} {v : V} (r : Rep K L G d v) : ∀ {ds : List D} {vs : List V} (i : Nat), Reps K L G ds vs → Reps K L G (ds.set i d) (vs.set i v)
  | [], _, _, h => by simp only [Reps] at h; subst h; simp [Reps.nil]
  | x :: ds, _, 0, h => by
    obtain ⟨u, q, rfl, h1, h2⟩ := h.inv_cons
    exact Reps.cons r h2
  | x :: ds, _, i + 1, h => by
    obtain ⟨u, q, rfl, h1, h2⟩ := h.inv_cons
    exact Reps.cons h1 (Reps.set r i h2)
end
theorem rep_non {K L G v} : Rep K L G .non v ↔ v = .non := by simp only [Rep]
theorem rep_bl {K L G b v} : Rep K L G (.bl b) v ↔ v = .bl b := by simp only [Rep]
theorem rep_int {K L G i v} : Rep K L G (.int i) v ↔ v = .int i := by simp only [Rep]
theorem rep_str {K L G i v} : Rep K L G (.str i) v ↔ v = .str i := by simp only [Rep]
theorem rep_ref {K L G i v} : Rep K L G (.ref i) v ↔ v = .ref i := by simp only [Rep]
theorem rep_ty {K L G i v} : Rep K L G (.ty i) v ↔ v = .ty i := by simp only [Rep]
theorem rep_loc {K L G n v} : Rep K L G (.loc n) v ↔ ∃ a, L[n]? = some a ∧ v = .ref a := by simp only [Rep]
theorem rep_tup {K L G ds v} : Rep K L G (.tup ds) v ↔ ∃ a vs, v = .ref a ∧ SqT K G a vs ∧ Reps K L G ds vs := by simp only [Rep]
theorem rep_lst {K L G ds v} : Rep K L G (.lst ds) v ↔ ∃ a vs, v = .ref a ∧ G a = some (.lst vs) ∧ Reps K L G ds vs := by simp only [Rep]
theorem rep_scr {K L G ds v} : Rep K L G (.scr ds) v ↔ ∃ a vs, v = .ref a ∧ SqL K G a vs ∧ Reps K L G ds vs := by simp only [Rep]
theorem rep_exn {K L G a dd ns ds v} : Rep K L G (.exn a dd ns ds) v ↔ ∃ vs, v = .ref a ∧ G dd = some (.xd (ns.zip vs)) ∧ ns.length = ds.length ∧ Reps K L G ds vs := by simp only [Rep]
theorem rep_obj {K L G C ns ds v} : Rep K L G (.obj C ns ds) v ↔ ∃ a dx vs, v = .ref a ∧ G a = some (.ins C dx (ns.zip vs)) ∧ ns.length = ds.length ∧ Reps K L G ds vs := by simp only [Rep]
theorem rep_err {K L G C ns ds v} : Rep K L G (.err C ns ds) v ↔ ∃ a dx vs, v = .ref a ∧ (G a = some (exo a C dx) ∧ ErD G dx (ns.zip vs)) ∧ ns.length = ds.length ∧ Reps K L G ds vs := by simp only [Rep]

/-! ### locs below a bound -/
mutual
def D.lo (n : Nat) : D → Bool
  | .loc m => decide (m < n)
  | .tup ds => D.los n ds
  | .lst ds => D.los n ds
  | .scr ds => D.los n ds
  | .exn _ _ _ ds => D.los n ds
  | .obj _ _ ds => D.los n ds
  | .err _ _ ds => D.los n ds
  | .non => true
  | .bl _ => true
  | .int _ => true
  | .str _ => true
  | .ref _ => true
  | .ty _ => true
def D.los (n : Nat) : List D → Bool
  | [] => true
  | d :: ds => D.lo n d && D.los n ds
end
section
variable {K : PySem.W.Frag} {L : List Addr} {G : Hp} {n : Nat}
mutual
theorem Rep.cut : ∀ {d : D} {v : V}, Rep K L G d v → D.lo n d = true → Rep K (L.take n) G d v
  | .non, _, h, _ => by simp only [Rep] at h ⊢; exact h
  | .bl _, _, h, _ => by simp only [Rep] at h ⊢; exact h
  | .int _, _, h, _ => by simp only [Rep] at h ⊢; exact h
  | .str _, _, h, _ => by simp only [Rep] at h ⊢; exact h
  | .ref _, _, h, _ => by simp only [Rep] at h ⊢; exact h
  | .ty _, _, h, _ => by simp only [Rep] at h ⊢; exact h
  | .loc m, _, h, b => by
    simp only [D.lo, decide_eq_true_eq] at b
    simp only [Rep] at h ⊢
    obtain ⟨a, e, r⟩ := h
    exact ⟨a, by rw [List.getElem?_take_of_lt b]; exact e, r⟩
  | .tup ds, _, h, b => by
    simp only [D.lo] at b
    simp only [Rep] at h ⊢
    obtain ⟨a, vs, e, q, r⟩ := h
    exact ⟨a, vs, e, q, Reps.cut r b⟩
  | .lst ds, _, h, b => by
    simp only [D.lo] at b
    simp only [Rep] at h ⊢
    obtain ⟨a, vs, e, q, r⟩ := h
    exact ⟨a, vs, e, q, Reps.cut r b⟩
  | .scr ds, _, h, b => by
    simp only [D.lo] at b
    simp only [Rep] at h ⊢
    obtain ⟨a, vs, e, q, r⟩ := h
    exact ⟨a, vs, e, q, Reps.cut r b⟩
  | .exn a dd ns ds, _, h, b => by
    simp only [D.lo] at b
    simp only [Rep] at h ⊢
    obtain ⟨vs, e, q, z, r⟩ := h
    exact ⟨vs, e, q, z, Reps.cut r b⟩
  | .obj C ns ds, _, h, b => by
    simp only [D.lo] at b
    simp only [Rep] at h ⊢
    obtain ⟨a, dx, vs, e, q, z, r⟩ := h
    exact ⟨a, dx, vs, e, q, z, Reps.cut r b⟩
  | .err C ns ds, _, h, b => by
    simp only [D.lo] at b
    simp only [Rep] at h ⊢
    obtain ⟨a, dx, vs, e, q, z, r⟩ := h
    exact ⟨a, dx, vs, e, q, z, Reps.cut r b⟩
theorem Reps.cut : ∀ {ds : List D} {vs : List V}, Reps K L G ds vs → D.los n ds = true → Reps K (L.take n) G ds vs
  | [], _, h, _ => by simp only [Reps] at h ⊢; exact h
  | d :: ds, _, h, b => by
    simp only [D.los, Bool.and_eq_true] at b
    simp only [Reps] at h ⊢
    obtain ⟨v, r, e, h1, h2⟩ := h
    exact ⟨v, r, e, Rep.cut h1 b.1, Reps.cut h2 b.2⟩
end
end
def M.lo (n : Nat) : M → Bool
  | .lst ds => D.los n ds
  | .ins _ _ ds => D.los n ds
  | .gone => true
  | .box => true

/-! ### the state -/
def MAt (K : PySem.W.Frag) (L : List Addr) (G H : Hp) (a : Addr) : M → Prop
  | .lst ds => ∃ vs, H a = some (.lst vs) ∧ Reps K L G ds vs
  | .ins C ns ds => ∃ dx vs, H a = some (.ins C dx (ns.zip vs)) ∧ ns.length = ds.length ∧ Reps K L G ds vs
  | .gone => True
  | .box => ∃ i j k : Int, H a = some (.lst [.int i, .int j, .int k])
structure Ok (K : PySem.W.Frag) (L : List Addr) (G H : Hp) (μ : List M) : Prop where
  sub : Same G H
  len : L.length = μ.length
  nd : L.Nodup
  off : ∀ a ∈ L, G a = none
  liv : ∀ a ∈ L, ∃ o, H a = some o
  at_ : ∀ (n : Nat) a m, L[n]? = some a → μ[n]? = some m → MAt K L G H a m
structure RepS (K : PySem.W.Frag) (L : List Addr) (G : Hp) (ρ : List (Option D)) (σ : St) : Prop where
  len : σ.length = ρ.length
  at_ : ∀ (i : Nat) d, ρ[i]? = some (some d) → ∃ v, σ[i]? = some (some v) ∧ Rep K L G d v
structure Step (L : List Addr) (G H : Hp) (L' : List Addr) (G' H' : Hp) : Prop where
  pre : Pre L L'
  gs : Same G G'
  hs : ∀ b o, H b = some o → b ∉ L → H' b = some o
  fr : ∀ a ∈ L', a ∈ L ∨ H a = none
  nn : ∀ b o, H b = some o → ∃ o', H' b = some o'
  gf : ∀ b o, G' b = some o → G b = some o ∨ H b = none
theorem Step.refl (L : List Addr) (G H : Hp) : Step L G H L G H := ⟨.refl _, .refl _, fun _ _ h _ => h, fun _ h => .inl h, fun _ o h => ⟨o, h⟩, fun _ _ h => .inl h⟩
theorem Step.nope {L L' : List Addr} {G H G' H' : Hp} (s : Step L G H L' G' H') {b : Addr} (h : H' b = Option.none) : H b = Option.none := by
  cases e : H b with
  | none => rfl
  | some o =>
    obtain ⟨o', q⟩ := s.nn b o e
    rw [h] at q
    cases q
theorem Step.trans {L L1 L2 : List Addr} {G H G1 H1 G2 H2 : Hp} (a : Step L G H L1 G1 H1) (b : Step L1 G1 H1 L2 G2 H2) : Step L G H L2 G2 H2 where
  pre := a.pre.trans b.pre
  gs := a.gs.trans b.gs
  hs := fun c o h n => b.hs c o (a.hs c o h n) fun z => (a.fr c z).elim n fun q => by rw [q] at h; cases h
  fr := fun c z => by
    rcases b.fr c z with q | q
    · exact a.fr c q
    · exact .inr (a.nope q)
  nn := fun c o h => by
    obtain ⟨o', q⟩ := a.nn c o h
    exact b.nn c o' q
  gf := fun c o h => by
    rcases b.gf c o h with q | q
    · exact a.gf c o q
    · exact .inr (a.nope q)
theorem MAt.mono {K : PySem.W.Frag} {L L' : List Addr} {G G' H : Hp} {a : Addr} {m : M} (hl : Pre L L') (hg : Same G G') (h : MAt K L G H a m) : MAt K L' G' H a m := by
  cases m with
  | lst ds => obtain ⟨vs, e, r⟩ := h; exact ⟨vs, e, r.mono hl hg⟩
  | ins C ns ds => obtain ⟨dx, vs, e, z, r⟩ := h; exact ⟨dx, vs, e, z, r.mono hl hg⟩
  | gone => trivial
  | box => exact h
theorem RepS.mono {K : PySem.W.Frag} {L L' : List Addr} {G G' : Hp} {ρ : List (Option D)} {σ : St} (hl : Pre L L') (hg : Same G G') (h : RepS K L G ρ σ) : RepS K L' G' ρ σ :=
  ⟨h.len, fun i d e => let ⟨v, e', r⟩ := h.at_ i d e; ⟨v, e', r.mono hl hg⟩⟩
theorem RepS.step {K : PySem.W.Frag} {L L' : List Addr} {G H G' H' : Hp} {ρ : List (Option D)} {σ : St} (h : RepS K L G ρ σ) (s : Step L G H L' G' H') : RepS K L' G' ρ σ := h.mono s.pre s.gs
theorem Rep.step {K : PySem.W.Frag} {L L' : List Addr} {G H G' H' : Hp} {d : D} {v : V} (h : Rep K L G d v) (s : Step L G H L' G' H') : Rep K L' G' d v := h.mono s.pre s.gs
theorem Reps.step {K : PySem.W.Frag} {L L' : List Addr} {G H G' H' : Hp} {d : List D} {v : List V} (h : Reps K L G d v) (s : Step L G H L' G' H') : Reps K L' G' d v := h.mono s.pre s.gs
theorem RepS.set {K : PySem.W.Frag} {L : List Addr} {G : Hp} {ρ : List (Option D)} {σ : St} {d : D} {v : V} (h : RepS K L G ρ σ) (r : Rep K L G d v) (i : Nat) : RepS K L G (ρ.set i (some d)) (σ.set i (some v)) := by
  refine ⟨by simpa using h.len, fun j e hj => ?_⟩
  by_cases hi : i = j
  · subst hi
    by_cases hl : i < ρ.length
    · rw [List.getElem?_set_self hl] at hj
      cases hj
      exact ⟨v, by rw [List.getElem?_set_self (by rw [h.len]; exact hl)], r⟩
    · rw [List.getElem?_eq_none (by simpa using hl)] at hj
      cases hj
  · rw [List.getElem?_set_ne hi] at hj ⊢
    exact h.at_ j e hj
theorem RepS.forget {K : PySem.W.Frag} {L : List Addr} {G : Hp} {ρ ρ' : List (Option D)} {σ : St} (h : RepS K L G ρ σ) (hl : ρ'.length = ρ.length) (hs : ∀ (i : Nat) d, ρ'[i]? = some (some d) → ρ[i]? = some (some d)) : RepS K L G ρ' σ :=
  ⟨h.len.trans hl.symm, fun i d e => h.at_ i d (hs i d e)⟩

theorem mem_ne {L : List Addr} {H : Hp} {p : Addr} (h : ∀ a ∈ L, ∃ o, H a = some o) (hp : H p = none) : ∀ a ∈ L, a ≠ p := fun a ha z => by
  obtain ⟨o, e⟩ := h a ha
  rw [z, hp] at e
  cases e
theorem MAt.heap {K : PySem.W.Frag} {L : List Addr} {G H H' : Hp} {a : Addr} {m : M} (he : H' a = H a) (h : MAt K L G H a m) : MAt K L G H' a m := by
  cases m with
  | lst ds => obtain ⟨vs, e, r⟩ := h; exact ⟨vs, he.trans e, r⟩
  | ins C ns ds => obtain ⟨dx, vs, e, z, r⟩ := h; exact ⟨dx, vs, he.trans e, z, r⟩
  | gone => trivial
  | box => obtain ⟨i, j, k, e⟩ := h; exact ⟨i, j, k, he.trans e⟩
section
variable {K : PySem.W.Frag} {L : List Addr} {G H : Hp} {μ : List M} {p : Addr} {o : HO}
theorem Ok.mem (h : Ok K L G H μ) {n : Nat} {a : Addr} (e : L[n]? = some a) : a ∈ L := List.mem_of_getElem? e
/-- a new thing in the heap that is not told -/
theorem Ok.newH (h : Ok K L G H μ) (hp : H p = none) : Ok K L G (upd H p o) μ ∧ Step L G H L G (upd H p o) := by
  have hL := mem_ne h.liv hp
  have sh : Same H (upd H p o) := fun b u e => by rw [upd_ne (ne_of_none e hp)]; exact e
  refine ⟨⟨h.sub.trans sh, h.len, h.nd, h.off, fun a ha => ?_, fun n a m e1 e2 => ?_⟩, .refl _, .refl _, fun b u e _ => sh b u e, fun a ha => .inl ha, fun b u e => ⟨u, sh b u e⟩, fun b u e => .inl e⟩
  · obtain ⟨u, e⟩ := h.liv a ha
    exact ⟨u, sh _ _ e⟩
  · exact (h.at_ n a m e1 e2).heap (upd_ne (hL a (List.mem_of_getElem? e1)))
/-- what stands in the heap, apart from the store, and did not stand before, is told -/
theorem Ok.tell (h : Ok K L G H μ) (hp : H p = some o) (hn : p ∉ L) : Ok K L (upd G p o) H μ ∧ Same G (upd G p o) := by
  have sg : Same G (upd G p o) := fun b u e => by
    by_cases hb : b = p
    · subst hb
      rw [h.sub _ _ e] at hp
      rw [upd_same]
      exact hp.symm
    · rw [upd_ne hb]
      exact e
  refine ⟨⟨fun b u e => ?_, h.len, h.nd, fun a ha => ?_, h.liv, fun n a m e1 e2 => (h.at_ n a m e1 e2).mono (.refl _) sg⟩, sg⟩
  · by_cases hb : b = p
    · subst hb
      rw [upd_same] at e
      rw [hp]
      exact e
    · rw [upd_ne hb] at e
      exact h.sub _ _ e
  · rw [upd_ne (fun (z : a = p) => hn (by rw [← z]; exact ha))]
    exact h.off a ha
theorem Step.tell {L0 : List Addr} {G0 H0 : Hp} (s : Step L0 G0 H0 L G H) (h0 : H0 p = none) (sg : Same G (upd G p o)) : Step L0 G0 H0 L (upd G p o) H :=
  ⟨s.pre, s.gs.trans sg, s.hs, s.fr, s.nn, fun b u e => by
    by_cases hb : b = p
    · rw [hb]
      exact .inr h0
    · rw [upd_ne hb] at e
      exact s.gf b u e⟩
/-- a new immutable object comes -/
theorem Ok.new (h : Ok K L G H μ) (hp : H p = none) : Ok K L (upd G p o) (upd H p o) μ ∧ Step L G H L (upd G p o) (upd H p o) := by
  obtain ⟨h1, s1⟩ := h.newH (o := o) hp
  obtain ⟨h2, sg⟩ := h1.tell (p := p) (o := o) upd_same fun z => mem_ne h.liv hp p z rfl
  exact ⟨h2, s1.tell hp sg⟩
/-- a thing in the heap that nobody tells of, apart from the store, is changed -/
theorem Ok.poke (h : Ok K L G H μ) (hn : p ∉ L) (hg : G p = none) : Ok K L G (upd H p o) μ := by
  refine ⟨fun b u e => ?_, h.len, h.nd, h.off, fun a ha => ?_, fun n a m e1 e2 => ?_⟩
  · rw [upd_ne (ne_of_none e hg)]
    exact h.sub _ _ e
  · rw [upd_ne (fun (z : a = p) => hn (by rw [← z]; exact ha))]
    exact h.liv a ha
  · exact (h.at_ n a m e1 e2).heap (upd_ne fun (z : a = p) => hn (by rw [← z]; exact List.mem_of_getElem? e1))
theorem Step.poke {L0 : List Addr} {G0 H0 : Hp} (s : Step L0 G0 H0 L G H) (h0 : H0 p = none) : Step L0 G0 H0 L G (upd H p o) :=
  ⟨s.pre, s.gs, fun b u e n => by rw [upd_ne (ne_of_none e h0)]; exact s.hs b u e n, s.fr, fun b u e => by rw [upd_ne (ne_of_none e h0)]; exact s.nn b u e, s.gf⟩
theorem get_last {α : Type} {l : List α} {x y : α} {n : Nat} (h : (l ++ [x])[n]? = some y) : l[n]? = some y ∨ (n = l.length ∧ x = y) := by
  by_cases hn : n < l.length
  · rw [List.getElem?_append_left hn] at h
    exact .inl h
  · rw [List.getElem?_append_right (by omega)] at h
    by_cases e : n - l.length = 0
    · rw [e] at h
      exact .inr ⟨by omega, by simpa using h⟩
    · rw [List.getElem?_eq_none (by simp; omega)] at h
      cases h
/-- a thing that stands in the heap, told by nobody, comes to the store -/
theorem Ok.push (h : Ok K L G H μ) {m : M} (hp : H p = some o) (hn : p ∉ L) (hg : G p = none) (hm : MAt K (L ++ [p]) G H p m) (H0 : Hp) (h0 : H0 p = none) : Ok K (L ++ [p]) G H (μ ++ [m]) := by
  refine ⟨h.sub, by simp [h.len], ?_, fun a ha => ?_, fun a ha => ?_, fun n a m' e1 e2 => ?_⟩
  · rw [List.nodup_append]
    refine ⟨h.nd, by simp, fun a ha b hb z => ?_⟩
    simp only [List.mem_singleton] at hb
    subst hb z
    exact hn ha
  · rcases List.mem_append.mp ha with z | z
    · exact h.off a z
    · simp only [List.mem_singleton] at z
      rw [z]
      exact hg
  · rcases List.mem_append.mp ha with z | z
    · exact h.liv a z
    · simp only [List.mem_singleton] at z
      rw [z]
      exact ⟨_, hp⟩
  · rcases get_last e1 with q | ⟨q1, q2⟩
    · rcases get_last e2 with r | ⟨r1, r2⟩
      · exact (h.at_ n a m' q r).mono .app (.refl _)
      · have : n < L.length := (List.getElem?_eq_some_iff.mp q).1
        rw [h.len] at this
        omega
    · rcases get_last e2 with r | ⟨r1, r2⟩
      · have : n < μ.length := (List.getElem?_eq_some_iff.mp r).1
        rw [← h.len] at this
        omega
      · subst q2 r2
        exact hm
/-- a new thing of the store -/
theorem Ok.alloc (h : Ok K L G H μ) {m : M} (hp : H p = none) (hm : MAt K (L ++ [p]) G (upd H p o) p m) : Ok K (L ++ [p]) G (upd H p o) (μ ++ [m]) ∧ Step L G H (L ++ [p]) G (upd H p o) := by
  obtain ⟨h1, s1⟩ := h.newH (o := o) hp
  refine ⟨h1.push (o := o) upd_same (fun z => mem_ne h.liv hp p z rfl) (Same.free h.sub hp) hm H hp, .app, .refl _, s1.hs, fun a ha => ?_, s1.nn, s1.gf⟩
  rcases List.mem_append.mp ha with z | z
  · exact .inl z
  · simp only [List.mem_singleton] at z
    rw [z]
    exact .inr hp
/-- a thing of the store changes -/
theorem Ok.write (h : Ok K L G H μ) {n : Nat} {a : Addr} {m : M} (e : L[n]? = some a) (hm : MAt K L G (upd H a o) a m) : Ok K L G (upd H a o) (μ.set n m) ∧ Step L G H L G (upd H a o) := by
  have ha := List.mem_of_getElem? e
  have nG : ∀ b u, G b = some u → b ≠ a := fun b u q z => by rw [z, h.off a ha] at q; cases q
  refine ⟨⟨fun b u q => ?_, by simp [h.len], h.nd, h.off, fun b hb => ?_, fun k b m' e1 e2 => ?_⟩, .refl _, .refl _, fun b u q hb => ?_, fun b hb => .inl hb, fun b u q => ?_, fun b u q => .inl q⟩
  · rw [upd_ne (nG b u q)]
    exact h.sub _ _ q
  · by_cases z : b = a
    · rw [z, upd_same]
      exact ⟨_, rfl⟩
    · rw [upd_ne z]
      exact h.liv b hb
  · by_cases hk : n = k
    · subst hk
      rw [e] at e1
      cases e1
      have hn : n < μ.length := by rw [← h.len]; exact (List.getElem?_eq_some_iff.mp e).1
      rw [List.getElem?_set_self hn] at e2
      cases e2
      exact hm
    · rw [List.getElem?_set_ne hk] at e2
      refine (h.at_ k b m' e1 e2).heap (upd_ne fun z => hk ?_)
      subst z
      obtain ⟨h1, q1⟩ := List.getElem?_eq_some_iff.mp e
      obtain ⟨h2, q2⟩ := List.getElem?_eq_some_iff.mp e1
      exact (List.getElem_inj h.nd).mp (q1.trans q2.symm)
  · rw [upd_ne (fun (z : b = a) => hb (by rw [z]; exact ha))]
    exact q
  · by_cases z : b = a
    · rw [z, upd_same]
      exact ⟨_, rfl⟩
    · rw [upd_ne z]
      exact ⟨u, q⟩
theorem mAt_cut {a : Addr} {m : M} {n : Nat} (h : MAt K L G H a m) (b : m.lo n = true) : MAt K (L.take n) G H a m := by
  cases m with
  | lst ds => obtain ⟨vs, e, r⟩ := h; exact ⟨vs, e, r.cut b⟩
  | ins C ns ds => obtain ⟨dx, vs, e, z, r⟩ := h; exact ⟨dx, vs, e, z, r.cut b⟩
  | gone => trivial
  | box => exact h
/-- the last things of the store are left behind -/
theorem Ok.cut {ν : List M} (h : Ok K L G H (μ ++ ν)) (b : μ.all (M.lo μ.length) = true) : Ok K (L.take μ.length) G H μ := by
  have hl : μ.length ≤ L.length := by rw [h.len, List.length_append]; omega
  refine ⟨h.sub, by rw [List.length_take]; omega, h.nd.sublist (List.take_sublist _ _), fun a ha => h.off a (List.mem_of_mem_take ha), fun a ha => h.liv a (List.mem_of_mem_take ha), fun n a m e1 e2 => ?_⟩
  have hn : n < μ.length := (List.getElem?_eq_some_iff.mp e2).1
  rw [List.getElem?_take_of_lt hn] at e1
  refine mAt_cut (h.at_ n a m e1 ?_) (List.all_eq_true.mp b m (List.mem_of_getElem? e2))
  rw [List.getElem?_append_left hn]
  exact e2
theorem Step.cut {L0 : List Addr} {G0 H0 : Hp} {n : Nat} (s : Step L0 G0 H0 L G H) (hn : L0.length ≤ n) : Step L0 G0 H0 (L.take n) G H :=
  ⟨fun k a e => by
    rw [List.getElem?_take_of_lt (Nat.lt_of_lt_of_le (List.getElem?_eq_some_iff.mp e).1 hn)]
    exact s.pre k a e, s.gs, s.hs, fun a ha => s.fr a (List.mem_of_mem_take ha), s.nn, s.gf⟩
end
end PM

set_option Elab.async false
set_option linter.all false
set_option maxRecDepth 100000
namespace PM
open PySem L2
abbrev Env' := List (Option D)

/-! ### readings -/
/-- the state as it is told -/
structure Now (K : PySem.W.Frag) (L : List Addr) (G H : Hp) (μ : List M) (ρ : Env') (σ : St) : Prop where
  ok : Ok K L G H μ
  env : RepS K L G ρ σ
/-- a value comes -/
def Comes (K : PySem.W.Frag) (L : List Addr) (G H : Hp) (d : D) (μ' : List M) (Q : VK) : Prop := ∀ v L' G' H', Step L G H L' G' H' → Ok K L' G' H' μ' → Rep K L' G' d v → Q v H'
def ComesT (K : PySem.W.Frag) (L : List Addr) (G H : Hp) (b : Bool) (μ' : List M) (Q : Bool → Hp → Prop) : Prop := ∀ L' G' H', Step L G H L' G' H' → Ok K L' G' H' μ' → Q b H'
def ComesA (K : PySem.W.Frag) (L : List Addr) (G H : Hp) (ds : List D) (μ' : List M) (Q : List V → Hp → Prop) : Prop := ∀ vs L' G' H', Step L G H L' G' H' → Ok K L' G' H' μ' → Reps K L' G' ds vs → Q vs H'
/-- an exception comes: its class, its fields -/
def XdAt (K : PySem.W.Frag) (L : List Addr) (G H : Hp) (dx : Option Addr) (ns : List Str) (ds : List D) : Prop := ns.length = ds.length ∧ (ns = [] ∨ ∃ a vs, dx = some a ∧ G a = some (.xd (ns.zip vs)) ∧ Reps K L G ds vs)
def ComesX (K : PySem.W.Frag) (L : List Addr) (G H : Hp) (C : Addr) (ns : List Str) (ds : List D) (μ' : List M) (E : XK) : Prop := ∀ dx L' G' H', Step L G H L' G' H' → Ok K L' G' H' μ' → XdAt K L' G' H' dx ns ds → E (.ref C) dx H'
def tV (K : PySem.W.Frag) (ρ : Env') (μ : List M) (d : D) (μ' : List M) : TE := fun σ H Q => ∃ L G, Now K L G H μ ρ σ ∧ Comes K L G H d μ' Q
def tVT (K : PySem.W.Frag) (ρ : Env') (μ : List M) (b : Bool) (μ' : List M) : TT := fun σ H Q => ∃ L G, Now K L G H μ ρ σ ∧ ComesT K L G H b μ' Q
def tVA (K : PySem.W.Frag) (ρ : Env') (μ : List M) (ds : List D) (μ' : List M) : TA := fun σ H Q => ∃ L G, Now K L G H μ ρ σ ∧ ComesA K L G H ds μ' Q
/-- an expression that raises; W: what is wished of exceptions -/
def tX (W : WX) (K : PySem.W.Frag) (ρ : Env') (μ : List M) (C : Addr) (ns : List Str) (ds : List D) (μ' : List M) : St → Hp → Prop := fun σ H => ∃ L G, Now K L G H μ ρ σ ∧ ComesX K L G H C ns ds μ' fun c d H' => W c d σ H'
/-- what a call or an expression comes to -/
inductive FO where
  | ret (d : D) (μ : List M) | exc (C : Addr) (ns : List Str) (ds : List D) (μ : List M)
def CO (W : WX) (K : PySem.W.Frag) (L : List Addr) (G H : Hp) (σ : St) (o : FO) (Q : VK) : Prop :=
  match o with
  | .ret d μ' => Comes K L G H d μ' Q
  | .exc C ns ds μ' => ComesX K L G H C ns ds μ' fun c d H' => W c d σ H'
def tO (W : WX) (K : PySem.W.Frag) (ρ : Env') (μ : List M) (o : FO) : TE := fun σ H Q => ∃ L G, Now K L G H μ ρ σ ∧ CO W K L G H σ o Q
inductive Out where
  | next (ρ : Env') (μ : List M) | ret (d : D) (μ : List M) | brk (ρ : Env') (μ : List M) | cont (ρ : Env') (μ : List M)
  | exc (C : Addr) (ns : List Str) (ds : List D) (ρ : Env') (μ : List M)
def Ends' (K : PySem.W.Frag) (L : List Addr) (G H : Hp) (ρ : Env') (μ : List M) (Q : St → Hp → Prop) : Prop := ∀ σ' L' G' H', Step L G H L' G' H' → Now K L' G' H' μ ρ σ' → Q σ' H'
def Post (W : WX) (K : PySem.W.Frag) (L : List Addr) (G H : Hp) (D : Ends) : Out → Prop
  | .next ρ μ => Ends' K L G H ρ μ D.nx
  | .brk ρ μ => Ends' K L G H ρ μ D.bk
  | .cont ρ μ => Ends' K L G H ρ μ D.ct
  | .ret d μ => Comes K L G H d μ D.rt
  | .exc C ns ds ρ μ => ∀ σ' dx L' G' H', Step L G H L' G' H' → Now K L' G' H' μ ρ σ' → XdAt K L' G' H' dx ns ds → W (.ref C) dx σ' H'
def tS (W : WX) (K : PySem.W.Frag) (ρ : Env') (μ : List M) (o : Out) : TS := fun D σ H => ∃ L G, Now K L G H μ ρ σ ∧ Post W K L G H D o

section
variable {K : PySem.W.Frag} {L L1 L2 : List Addr} {G H G1 H1 G2 H2 : Hp} {μ μ1 μ' : List M} {ρ ρ' : Env'} {σ : St} {d : D} {b : Bool} {ds : List D}
theorem Now.step (n : Now K L G H μ ρ σ) (s : Step L G H L1 G1 H1) (o : Ok K L1 G1 H1 μ1) : Now K L1 G1 H1 μ1 ρ σ := ⟨o, n.env.step s⟩
theorem Comes.step {Q : VK} (c : Comes K L G H d μ' Q) (s : Step L G H L1 G1 H1) : Comes K L1 G1 H1 d μ' Q := fun v L' G' H' s' => c v L' G' H' (s.trans s')
theorem ComesT.step {Q : Bool → Hp → Prop} (c : ComesT K L G H b μ' Q) (s : Step L G H L1 G1 H1) : ComesT K L1 G1 H1 b μ' Q := fun L' G' H' s' => c L' G' H' (s.trans s')
theorem ComesA.step {Q : List V → Hp → Prop} (c : ComesA K L G H ds μ' Q) (s : Step L G H L1 G1 H1) : ComesA K L1 G1 H1 ds μ' Q := fun v L' G' H' s' => c v L' G' H' (s.trans s')
theorem ComesX.step {C : Addr} {ns : List Str} {E : XK} (c : ComesX K L G H C ns ds μ' E) (s : Step L G H L1 G1 H1) : ComesX K L1 G1 H1 C ns ds μ' E := fun v L' G' H' s' => c v L' G' H' (s.trans s')
theorem Ends'.step {Q : St → Hp → Prop} (c : Ends' K L G H ρ μ Q) (s : Step L G H L1 G1 H1) : Ends' K L1 G1 H1 ρ μ Q := fun v L' G' H' s' => c v L' G' H' (s.trans s')
theorem Post.step {W : WX} {D : Ends} {o : Out} (c : Post W K L G H D o) (s : Step L G H L1 G1 H1) : Post W K L1 G1 H1 D o := by
  cases o with
  | next ρ μ => exact Ends'.step c s
  | brk ρ μ => exact Ends'.step c s
  | cont ρ μ => exact Ends'.step c s
  | ret d μ => exact Comes.step c s
  | exc C ns ds ρ μ => exact fun σ' dx L' G' H' s' => c σ' dx L' G' H' (s.trans s')
end
section
variable {X : Cx} {e a b : Expr} {es : List Expr} {pos : Pos}
theorem pe_of {t t' : TE} (h : PE X e t) (w : ∀ σ H Q, t' σ H Q → t σ H Q) : PE X e t' := ⟨fun pins s σ H Q I q => h.run pins s σ H Q I (w _ _ _ q)⟩
theorem pt_of {t t' : TT} (h : PT X e t) (w : ∀ σ H Q, t' σ H Q → t σ H Q) : PT X e t' := ⟨fun pins s σ H Q I q => h.run pins s σ H Q I (w _ _ _ q)⟩
theorem pw_of {t t' : TT} (h : PW X e t) (w : ∀ σ H Q, t' σ H Q → t σ H Q) : PW X e t' := ⟨fun wh pins s σ H Q I q => h.run wh pins s σ H Q I (w _ _ _ q)⟩
theorem pa_of {t t' : TA} (h : PA X es t) (w : ∀ σ H Q, t' σ H Q → t σ H Q) : PA X es t' := ⟨fun pos pins s σ H Q I q => h.run pos pins s σ H Q I (w _ _ _ q)⟩
theorem ps_of {st : Stmt} {t t' : TS} (h : PS X st t) (w : ∀ D σ H, t' D σ H → t D σ H) : PS X st t' := ⟨fun pins s σ H D I q => h.run pins s σ H D I (w _ _ _ q)⟩
theorem pss_of {st : List Stmt} {t t' : TS} (h : PSs X st t) (w : ∀ D σ H, t' D σ H → t D σ H) : PSs X st t' := ⟨fun pins s σ H D I q => h.run pins s σ H D I (w _ _ _ q)⟩
end

/-! ### expressions -/
section
variable {X : Cx} {W : WX} {e a b c : Expr} {es : List Expr} {pos : Pos} {ρ : Env'} {μ μ1 μ2 μ3 : List M} {d da db dc : D} {ds : List D} {x : Str} {i : Nat}
/-- a name by its slot -/
theorem ev_var (i : Nat) (hd : ρ[i]? = some (some d)) (hN : X.N[i]? = some x := by rfl) (hv : Vis X.env.scope x := by first | exact Or.inl rfl | exact Or.inr (Or.inl rfl) | exact Or.inr (Or.inr rfl)) (h1 : (x == ("__debug__" : Str)) = false := by decide)
    (h2 : (x == ("__classdict__" : Str)) = false := by decide) : PE X (.Name x pos) (tV X.K ρ μ d μ) :=
  pe_of (pe_var hN hv h1 h2) fun σ H Q ⟨L, G, n, c⟩ => by
    obtain ⟨v, e, r⟩ := n.env.at_ i d hd
    exact ⟨v, e, c v L G H (.refl _ _ _) n.ok r⟩
/-- a value that leaves the heap as it is -/
theorem tV_const {v : V} {σ : St} {H : Hp} {Q : VK} (h : tV X.K ρ μ d μ σ H Q) (r : ∀ L G, Rep X.K L G d v) : Q v H := by
  obtain ⟨L, G, n, c⟩ := h
  exact c v L G H (.refl _ _ _) n.ok (r L G)
theorem ev_int {i j} : PE X (.Constant (.int i) j pos) (tV X.K ρ μ (.int i) μ) := pe_of pe_int fun _ _ _ h => tV_const h fun _ _ => rep_int.mpr rfl
theorem ev_bl {i j} : PE X (.Constant (.bool i) j pos) (tV X.K ρ μ (.bl i) μ) := pe_of pe_bl fun _ _ _ h => tV_const h fun _ _ => rep_bl.mpr rfl
theorem ev_non {j} : PE X (.Constant .none j pos) (tV X.K ρ μ .non μ) := pe_of pe_non fun _ _ _ h => tV_const h fun _ _ => rep_non.mpr rfl
theorem ev_str {i j} : PE X (.Constant (.str i) j pos) (tV X.K ρ μ (.str i) μ) := pe_of pe_str fun _ _ _ h => tV_const h fun _ _ => rep_str.mpr rfl
/-- a module's name: a constant, a class -/
theorem ev_glob {u : Value} {v : V} (hg : Gl X x) (hm : X.mg x = some u) (r : RelV v u) (rd : ∀ L G, Rep X.K L G d v) (hd : (x == ("__debug__" : Str)) = false := by decide) : PE X (.Name x pos) (tV X.K ρ μ d μ) := pe_of (pe_glob hg hm r hd) fun _ _ _ h => tV_const h rd
/-- a built-in class as a value -/
theorem ev_bty {T : String} (hg : Gl X x) (hm : X.mg x = none) (hv : bootBuiltins x = some (.type T)) (hn : x ≠ "__name__" := by decide) (hd : (x == ("__debug__" : Str)) = false := by decide) : PE X (.Name x pos) (tV X.K ρ μ (.ty T) μ) :=
  pe_of (pe_bltn (v := .ty T) hg hm hv rfl hn hd) fun _ _ _ h => tV_const h fun _ _ => rep_ty.mpr rfl

/-! #### arguments -/
theorem ev_nil : PA X [] (tVA X.K ρ μ [] μ) := pa_of pa_nil fun σ H Q ⟨L, G, n, c⟩ => c [] L G H (.refl _ _ _) n.ok Reps.nil
theorem ev_cons (h1 : PE X e (tV X.K ρ μ d μ1)) (h2 : PA X es (tVA X.K ρ μ1 ds μ2)) (hs : starEach (e :: es) X.env = (false, eval e X.env) :: starEach es X.env := by rfl) : PA X (e :: es) (tVA X.K ρ μ (d :: ds) μ2) :=
  pa_of (pa_cons h1 h2 hs) fun σ H Q ⟨L, G, n, c⟩ => ⟨L, G, n, fun v L1 G1 H1 s1 o1 r1 => ⟨L1, G1, n.step s1 o1, fun vs L2 G2 H2 s2 o2 r2 => c (v :: vs) L2 G2 H2 (s1.trans s2) o2 (Reps.cons (r1.step s2) r2)⟩⟩

/-! #### operators, by values -/
/-- an operation on two data -/
def OpO (X : Cx) (W : WX) (f : Value → Value → Sem Value) (da db : D) (μ : List M) (o : FO) : Prop :=
  ∀ (pins : List (Addr × Obj)) (s : Shared) (σ : St) (H : Hp) (x y : V) (v u : Value) (Q : VK) (L : List Addr) (G : Hp), Inv X pins σ H s → RelV x v → RelV y u → Ok X.K L G H μ → Rep X.K L G da x → Rep X.K L G db y → CO W X.K L G H σ o Q →
    wpAny (model X.prog X.w) X.A (f v u) (EP X pins σ Q) X.xe s
def UnO (X : Cx) (W : WX) (f : Value → Sem Value) (da : D) (μ : List M) (o : FO) : Prop :=
  ∀ (pins : List (Addr × Obj)) (s : Shared) (σ : St) (H : Hp) (x : V) (v : Value) (Q : VK) (L : List Addr) (G : Hp), Inv X pins σ H s → RelV x v → Ok X.K L G H μ → Rep X.K L G da x → CO W X.K L G H σ o Q →
    wpAny (model X.prog X.w) X.A (f v) (EP X pins σ Q) X.xe s
def CallO (X : Cx) (W : WX) (f : List Value → Sem Value) (ds : List D) (μ : List M) (o : FO) : Prop :=
  ∀ (pins : List (Addr × Obj)) (s : Shared) (σ : St) (H : Hp) (xs : List V) (us : List Value) (Q : VK) (L : List Addr) (G : Hp), Inv X pins σ H s → Vals xs us → Ok X.K L G H μ → Reps X.K L G ds xs → CO W X.K L G H σ o Q →
    wpAny (model X.prog X.w) X.A (f us) (EP X pins σ Q) X.xe s
theorem opO_of {f : Value → Value → Sem Value} {r : R2} {o : FO} (h : OpR X f r) (w : ∀ σ x y H Q L G, Ok X.K L G H μ → Rep X.K L G da x → Rep X.K L G db y → CO W X.K L G H σ o Q → r x y H Q) : OpO X W f da db μ o :=
  fun pins s σ H x y v u Q L G I rx ry o r1 r2 c => h pins s σ H x y v u Q I rx ry (w _ _ _ _ _ _ _ o r1 r2 c)
theorem unO_of {f : Value → Sem Value} {r : V → Hp → VK → Prop} {o : FO} (h : UnR X f r) (w : ∀ σ x H Q L G, Ok X.K L G H μ → Rep X.K L G da x → CO W X.K L G H σ o Q → r x H Q) : UnO X W f da μ o :=
  fun pins s σ H x v Q L G I rx o r1 c => h pins s σ H x v Q I rx (w _ _ _ _ _ _ o r1 c)
theorem callO_of {f : Value} {r : List V → Hp → VK → Prop} {o : FO} (h : CallR X f r) (w : ∀ σ xs H Q L G, Ok X.K L G H μ → Reps X.K L G ds xs → CO W X.K L G H σ o Q → r xs H Q) : CallO X W (fun us => call f us) ds μ o :=
  fun pins s σ H x v Q L G I rx o r1 c => h pins s σ H x v Q I rx (w _ _ _ _ _ _ o r1 c)
/-- a value that leaves the heap as it is -/
theorem CO.now {σ : St} {H : Hp} {Q : VK} {L : List Addr} {G : Hp} {v : V} (c : CO W X.K L G H σ (.ret d μ) Q) (o : Ok X.K L G H μ) (r : Rep X.K L G d v) : Q v H := c v L G H (.refl _ _ _) o r
/-- a new object, immutable -/
theorem CO.fresh {σ : St} {H : Hp} {Q : VK} {L : List Addr} {G : Hp} {p : Addr} {u : HO} {v : V} (c : CO W X.K L G H σ (.ret d μ) Q) (o : Ok X.K L G H μ) (hp : H p = none) (r : Rep X.K L (upd G p u) d v) : Q v (upd H p u) :=
  let ⟨o', s'⟩ := o.new (o := u) hp
  c v L _ _ s' o' r
theorem CO.step {σ : St} {H : Hp} {Q : VK} {L : List Addr} {G : Hp} {o : FO} {L1 : List Addr} {G1 H1 : Hp} (c : CO W X.K L G H σ o Q) (s : Step L G H L1 G1 H1) : CO W X.K L1 G1 H1 σ o Q := by
  cases o with
  | ret d μ => exact Comes.step c s
  | exc C ns ds μ => exact ComesX.step (E := fun c d H' => W c d σ H') c s
section
variable {o : FO}
theorem binO (ha : PE X a (tV X.K ρ μ da μ1)) (hb : PE X b (tV X.K ρ μ1 db μ2)) {pins : List (Addr × Obj)} {s : Shared} {σ : St} {H : Hp} {Q : VK} {f : Value → Value → Sem Value} (I : Inv X pins σ H s) (ho : OpO X W f da db μ2 o) (h : tO W X.K ρ μ o σ H Q) :
    wpAny (model X.prog X.w) X.A (eval a X.env) (fun v s₁ => wpAny (model X.prog X.w) X.A (eval b X.env) (fun u s₂ => wpAny (model X.prog X.w) X.A (f v u) (EP X pins σ Q) X.xe s₂) X.xe s₁) X.xe s := by
  obtain ⟨L, G, n, c⟩ := h
  exact binT (R := fun x y H2 => ∃ L2 G2, Ok X.K L2 G2 H2 μ2 ∧ Rep X.K L2 G2 da x ∧ Rep X.K L2 G2 db y ∧ CO W X.K L2 G2 H2 σ o Q) ha hb I
    ⟨L, G, n, fun v L1 G1 H1 s1 o1 r1 => ⟨L1, G1, n.step s1 o1, fun u L2 G2 H2 s2 o2 r2 => ⟨L2, G2, o2, r1.step s2, r2, c.step (s1.trans s2)⟩⟩⟩
    fun v u s2 x y H2 I2 rx ry ⟨L2, G2, o2, r1, r2, c2⟩ => ho pins s2 σ H2 x y v u Q L2 G2 I2 rx ry o2 r1 r2 c2
theorem ev_op {op : Operator} (ha : PE X a (tV X.K ρ μ da μ1)) (hb : PE X b (tV X.K ρ μ1 db μ2)) (ho : OpO X W (binaryOp op) da db μ2 o) : PE X (.BinOp a op b pos) (tO W X.K ρ μ o) :=
  ⟨fun pins s σ H Q I h => wpAny_BinOp (binO ha hb I ho h)⟩
theorem ev_un {op : UnaryOp} (ha : PE X a (tV X.K ρ μ da μ1)) (ho : UnO X W (unaryOp op) da μ1 o) : PE X (.UnaryOp op a pos) (tO W X.K ρ μ o) :=
  ⟨fun pins s σ H Q I ⟨L, G, n, c⟩ => PyProof.Rows.UnaryOp_ (thn (ha.run pins s σ H (fun x H1 => ∃ L1 G1, Ok X.K L1 G1 H1 μ1 ∧ Rep X.K L1 G1 da x ∧ CO W X.K L1 G1 H1 σ o Q) I ⟨L, G, n, fun v L1 G1 H1 s1 o1 r1 => ⟨L1, G1, o1, r1, c.step s1⟩⟩) fun v s1 ⟨x, H1, I1, r1, L1, G1, o1, rr, c1⟩ =>
    ho pins s1 σ H1 x v Q L1 G1 I1 r1 o1 rr c1)⟩
end
/-! #### tests -/
/-- a test that raises -/
def tOT (W : WX) (K : PySem.W.Frag) (ρ : Env') (μ : List M) (C : Addr) (ns : List Str) (dx : List D) (μ' : List M) : TT := fun σ H _ => ∃ L G, Now K L G H μ ρ σ ∧ ComesX K L G H C ns dx μ' fun c d H' => W c d σ H'
section
variable {k k' : Bool}
theorem et_cmp {op : CmpOp} (ha : PE X a (tV X.K ρ μ da μ1)) (hb : PE X b (tV X.K ρ μ1 db μ2)) (ho : OpO X (fun _ _ _ _ => False) (compareOp op) da db μ2 (.ret (.bl k) μ3)) (hm : behindInMarks op b = false := by first | exact nomark _ | rfl) : PT X (.Compare a [op] [b] pos) (tVT X.K ρ μ k μ3) := by
  refine ⟨fun pins s σ H Q I h => ?_⟩
  obtain ⟨L, G, n, c⟩ := h
  refine wpAny_isTrue_Compare1 (thn (binO (Q := fun z H' => z = .bl k ∧ Q k H') ha hb I ho ⟨L, G, n, fun v L' G' H' s' o' r' => ⟨rep_bl.mp r', c L' G' H' s' o'⟩⟩) fun v s1 h1 => thn h1 fun u s2 h2 => thn h2 fun z s3 ⟨y, H3, I3, r3, e3, q3⟩ => ?_) hm
  subst e3
  cases r3
  exact wpAny_truthy_bool ⟨H3, I3, q3⟩
variable {rest : List Expr}
end
end
end PM

set_option Elab.async false
set_option linter.all false
set_option maxRecDepth 100000
namespace PM
open PySem L2

/-! ### any reading will do -/
def aT (X : Cx) (e : Expr) : TT := fun σ H Q => ∃ t, PT X e t ∧ t σ H Q
def aSs (X : Cx) (b : List Stmt) : TS := fun D σ H => ∃ t, PSs X b t ∧ t D σ H
def aG (X : Cx) (e : Expr) : TG := fun v σ H Q => ∃ t, PG X e t ∧ t v σ H Q
theorem aT_ok {X : Cx} {e : Expr} : PT X e (aT X e) := ⟨fun pins s σ H Q I ⟨t, p, q⟩ => p.run pins s σ H Q I q⟩
theorem aSs_ok {X : Cx} {b : List Stmt} : PSs X b (aSs X b) := ⟨fun pins s σ H D I ⟨t, p, q⟩ => p.run pins s σ H D I q⟩
theorem aG_ok {X : Cx} {e : Expr} : PG X e (aG X e) := ⟨fun pins s σ H v u Q I r ⟨t, p, q⟩ => p.run pins s σ H v u Q I r q⟩

/-! ### forgetting -/
def Sub : Env' → Env' → Prop
  | [], [] => True
  | none :: r, _ :: s => Sub r s
  | some d :: r, o :: s => o = some d ∧ Sub r s
  | _, _ => False
theorem Sub.refl : ∀ ρ : Env', Sub ρ ρ
  | [] => trivial
  | none :: r => Sub.refl r
  | some d :: r => ⟨rfl, Sub.refl r⟩
theorem Sub.len : ∀ {ρ ρ' : Env'}, Sub ρ ρ' → ρ.length = ρ'.length
  | [], [], _ => rfl
  | none :: r, _ :: s, h => by simp [Sub.len (ρ := r) (ρ' := s) h]
  | some d :: r, o :: s, h => by simp [Sub.len (ρ := r) (ρ' := s) h.2]
  | [], _ :: _, h => h.elim
  | none :: _, [], h => h.elim
  | some _ :: _, [], h => h.elim
theorem Sub.at_ : ∀ {ρ ρ' : Env'}, Sub ρ ρ' → ∀ (i : Nat) d, ρ[i]? = some (some d) → ρ'[i]? = some (some d)
  | [], [], _, i, d, e => by simp at e
  | none :: r, _ :: s, h, 0, d, e => by simp at e
  | none :: r, _ :: s, h, i + 1, d, e => by simpa using Sub.at_ (ρ := r) (ρ' := s) h i d (by simpa using e)
  | some c :: r, o :: s, h, 0, d, e => by
    simp only [List.getElem?_cons_zero, Option.some.injEq] at e
    subst e
    simp [h.1]
  | some c :: r, o :: s, h, i + 1, d, e => by simpa using Sub.at_ (ρ := r) (ρ' := s) h.2 i d (by simpa using e)
  | [], _ :: _, h, _, _, _ => h.elim
  | none :: _, [], h, _, _, _ => h.elim
  | some _ :: _, [], h, _, _, _ => h.elim
theorem Now.forget {K : PySem.W.Frag} {L : List Addr} {G H : Hp} {μ : List M} {ρ ρ' : Env'} {σ : St} (n : Now K L G H μ ρ σ) (s : Sub ρ' ρ) : Now K L G H μ ρ' σ := ⟨n.ok, n.env.forget s.len s.at_⟩

/-! ### what a body needs of its place -/
/-- texts of containers that are being made: none from level 60 on -/
def Gr (k : Nat) (A : Around) : Prop := ∃ g, A.guards = some g ∧ (60 ≤ k → g = [])
theorem Gr.mono {j k : Nat} {A : Around} (h : Gr k A) (hj : j ≤ k) : Gr j A := let ⟨g, e, z⟩ := h; ⟨g, e, fun q => z (Nat.le_trans q hj)⟩
theorem Gr.none {k : Nat} {A : Around} (h : Gr k A) (hk : 60 ≤ k) : A.guards = some [] := let ⟨_, e, z⟩ := h; e.trans (congrArg some (z hk))
theorem Gr.of {k : Nat} {A : Around} (h : A.guards = some []) : Gr k A := ⟨[], h, fun _ => rfl⟩
structure Gd (X : Cx) (W : WX) (k : Nat) : Prop where
  calm : X.calm = true
  nd : X.N.Nodup
  tk : Takes X W
  po : PassesOwn (model X.prog X.w) X.A X.env X.xe
  hr : Room k X.A
  gr : Gr k X.A

/-! ### targets -/
def gD (K : PySem.W.Frag) (μ : List M) (d : D) (ρ ρ' : Env') : TG := fun v σ H Q => ∃ L G, Now K L G H μ ρ σ ∧ Rep K L G d v ∧ Ends' K L G H ρ' μ Q
def gDs (K : PySem.W.Frag) (μ : List M) (ds : List D) (ρ ρ' : Env') : TGs := fun vs σ H Q => ∃ L G, Now K L G H μ ρ σ ∧ Reps K L G ds vs ∧ Ends' K L G H ρ' μ Q
inductive EvWh (X : Cx) (W : WX) (c : Expr) (body : List Stmt) : Nat → Env' → List M → Out → Prop
  | stop {ρ : Env'} {ρ' : Env'} {μ : List M} {μ1 : List M} : PT X c (tVT X.K ρ μ false μ1) → Sub ρ' ρ → EvWh X W c body 0 ρ μ (.next ρ' μ1)
  | next {n : Nat} {ρ : Env'} {μ : List M} {μ1 : List M} {ρ2 : Env'} {μ2 : List M} {q : Out} : PT X c (tVT X.K ρ μ true μ1) → PSs X body (tS W X.K ρ μ1 (.next ρ2 μ2)) → EvWh X W c body n ρ2 μ2 q → EvWh X W c body (n + 1) ρ μ q
  | cont {n : Nat} {ρ : Env'} {μ : List M} {μ1 : List M} {ρ2 : Env'} {μ2 : List M} {q : Out} : PT X c (tVT X.K ρ μ true μ1) → PSs X body (tS W X.K ρ μ1 (.cont ρ2 μ2)) → EvWh X W c body n ρ2 μ2 q → EvWh X W c body (n + 1) ρ μ q
  | brk {ρ : Env'} {μ : List M} {μ1 : List M} {ρ2 : Env'} {μ2 : List M} : PT X c (tVT X.K ρ μ true μ1) → PSs X body (tS W X.K ρ μ1 (.brk ρ2 μ2)) → EvWh X W c body 0 ρ μ (.next ρ2 μ2)
  | ret {ρ : Env'} {μ : List M} {μ1 : List M} {d : D} {μ2 : List M} : PT X c (tVT X.K ρ μ true μ1) → PSs X body (tS W X.K ρ μ1 (.ret d μ2)) → EvWh X W c body 0 ρ μ (.ret d μ2)
  | exc {ρ : Env'} {μ : List M} {μ1 : List M} {C : Addr} {ns : List Str} {ds : List D} {ρ2 : Env'} {μ2 : List M} : PT X c (tVT X.K ρ μ true μ1) → PSs X body (tS W X.K ρ μ1 (.exc C ns ds ρ2 μ2)) → EvWh X W c body 0 ρ μ (.exc C ns ds ρ2 μ2)
inductive EvFor (X : Cx) (W : WX) (tg : Expr) (body : List Stmt) : List D → Env' → List M → Out → Prop
  | nil {ρ : Env'} {ρ' : Env'} {μ : List M} : Sub ρ' ρ → EvFor X W tg body [] ρ μ (.next ρ' μ)
  | next {d : D} {ds : List D} {ρ : Env'} {ρ1 : Env'} {μ : List M} {ρ2 : Env'} {μ2 : List M} {q : Out} : PG X tg (gD X.K μ d ρ ρ1) → PSs X body (tS W X.K ρ1 μ (.next ρ2 μ2)) → EvFor X W tg body ds ρ2 μ2 q → EvFor X W tg body (d :: ds) ρ μ q
  | cont {d : D} {ds : List D} {ρ : Env'} {ρ1 : Env'} {μ : List M} {ρ2 : Env'} {μ2 : List M} {q : Out} : PG X tg (gD X.K μ d ρ ρ1) → PSs X body (tS W X.K ρ1 μ (.cont ρ2 μ2)) → EvFor X W tg body ds ρ2 μ2 q → EvFor X W tg body (d :: ds) ρ μ q
  | brk {d : D} {ds : List D} {ρ : Env'} {ρ1 : Env'} {μ : List M} {ρ2 : Env'} {μ2 : List M} : PG X tg (gD X.K μ d ρ ρ1) → PSs X body (tS W X.K ρ1 μ (.brk ρ2 μ2)) → EvFor X W tg body (d :: ds) ρ μ (.next ρ2 μ2)
  | ret {d : D} {ds : List D} {ρ : Env'} {ρ1 : Env'} {μ : List M} {e : D} {μ2 : List M} : PG X tg (gD X.K μ d ρ ρ1) → PSs X body (tS W X.K ρ1 μ (.ret e μ2)) → EvFor X W tg body (d :: ds) ρ μ (.ret e μ2)
  | exc {d : D} {ds : List D} {ρ : Env'} {ρ1 : Env'} {μ : List M} {C : Addr} {ns : List Str} {es : List D} {ρ2 : Env'} {μ2 : List M} : PG X tg (gD X.K μ d ρ ρ1) → PSs X body (tS W X.K ρ1 μ (.exc C ns es ρ2 μ2)) → EvFor X W tg body (d :: ds) ρ μ (.exc C ns es ρ2 μ2)
section
variable {X : Cx} {W : WX} {k : Nat} {pos : Pos} {e : Expr} {es : List Expr} {ρ ρ1 ρ2 : Env'} {μ μ1 μ2 : List M} {d : D} {ds : List D} {x : Str} {o : FO}
theorem pg_of {t t' : TG} (h : PG X e t) (w : ∀ v σ H Q, t' v σ H Q → t v σ H Q) : PG X e t' := ⟨fun pins s σ H v u Q I r q => h.run pins s σ H v u Q I r (w _ _ _ _ q)⟩
theorem pgs_of {t t' : TGs} (h : PGs X es t) (w : ∀ v σ H Q, t' v σ H Q → t v σ H Q) : PGs X es t' := ⟨fun pins s σ H v u Q I r q => h.run pins s σ H v u Q I r (w _ _ _ _ q)⟩
theorem eg_name (i : Nat) (nd : X.N.Nodup) (hi : X.N[i]? = some x := by rfl) (hx : Loc X.env.scope x := by first | exact Or.inl rfl | exact Or.inr rfl) (hf : X.fn x = true ∨ X.env.scope.names.lookup x = some .local := by first | exact .inl rfl | exact .inr rfl | assumption) :
    PG X (.Name x pos) (gD X.K μ d ρ (ρ.set i (some d))) :=
  pg_of (pg_name nd hi hx hf) fun v σ H Q ⟨L, G, n, r, c⟩ => c _ L G H (.refl _ _ _) ⟨n.ok, n.env.set r i⟩
/-! ### statements -/
def FO.drop (ρ : Env') : FO → Out
  | .ret _ μ => .next ρ μ
  | .exc C ns ds μ => .exc C ns ds ρ μ
def FO.set (ρ : Env') (i : Nat) : FO → Out
  | .ret d μ => .next (ρ.set i (some d)) μ
  | .exc C ns ds μ => .exc C ns ds ρ μ
def FO.out (ρ : Env') : FO → Out
  | .ret d μ => .ret d μ
  | .exc C ns ds μ => .exc C ns ds ρ μ
theorem post_exc {L : List Addr} {G H : Hp} {σ : St} {D : Ends} {C : Addr} {ns : List Str} (n : Now X.K L G H μ ρ σ) (c : Post W X.K L G H D (.exc C ns ds ρ μ1)) : ComesX X.K L G H C ns ds μ1 fun c d H' => W c d σ H' :=
  fun dx L' G' H' s o x => c σ dx L' G' H' s (n.step s o) x
theorem es_set (i : Nat) (nd : X.N.Nodup) (h : PE X e (tO W X.K ρ μ o)) {pos' : Pos} (hi : X.N[i]? = some x := by rfl) (hx : Loc X.env.scope x := by first | exact Or.inl rfl | exact Or.inr rfl) (hs : swapsWith e (some (.Name x pos')) pos.line X.env = pure false := by rfl)
    (hf : X.fn x = true ∨ X.env.scope.names.lookup x = some .local := by first | exact .inl rfl | exact .inr rfl | assumption) : PS X (.Assign [.Name x pos'] e pos) (tS W X.K ρ μ (o.set ρ i)) :=
  ps_of (ps_set nd hi hx h hs hf) fun D σ H ⟨L, G, n, c⟩ => ⟨L, G, n, by
    cases o with
    | ret d μ' => exact fun v L' G' H' s' o' r' => c _ L' G' H' s' ⟨o', (n.env.step s').set r' i⟩
    | exc C ns ds μ' => exact post_exc n c⟩
/-- a, b = x, y -/
theorem es_par (i j : Nat) {y : Str} {a b : Expr} {px py pt : Pos} {kt k2 pt2} {da db : D} (g : Gd X W k) (ha : PA X [a, b] (tVA X.K ρ μ [da, db] μ1)) (hi : X.N[i]? = some x := by rfl) (hj : X.N[j]? = some y := by rfl) (hij : i ≠ j := by decide)
    (hx : X.env.scope.names.lookup x = some .local := by rfl) (hy : X.env.scope.names.lookup y = some .local := by rfl)
    (hw : swappedStores [.Tuple [.Name x px, .Name y py] kt pt] (.Tuple [a, b] k2 pt2) X.env = pure (some [x, y]) := by rfl)
    (hs : swapsWithSole [.Tuple [.Name x px, .Name y py] kt pt] (.Tuple [a, b] k2 pt2) pos.line X.env = pure false := by rfl) :
    PS X (.Assign [.Tuple [.Name x px, .Name y py] kt pt] (.Tuple [a, b] k2 pt2) pos) (tS W X.K ρ μ (.next ((ρ.set i (some da)).set j (some db)) μ1)) :=
  ps_of (ps_par g.calm g.nd hi hj hij hx hy ha hw hs) fun D σ H ⟨L, G, n, c⟩ => ⟨L, G, n, fun vs L' G' H' s' o' r' => by
    obtain ⟨v, r, e, r1, r2⟩ := r'.inv_cons
    obtain ⟨w, r, e', r3, r4⟩ := r2.inv_cons
    have e'' := r4.inv_nil
    subst e e' e''
    exact ⟨v, w, rfl, c _ L' G' H' s' ⟨o', ((n.env.step s').set r1 i).set r3 j⟩⟩⟩
theorem es_ret (h : PE X e (tO W X.K ρ μ o)) : PS X (.Return (some e) pos) (tS W X.K ρ μ (o.out ρ)) :=
  ps_of (ps_ret h) fun D σ H ⟨L, G, n, c⟩ => ⟨L, G, n, by
    cases o with
    | ret d μ' => exact c
    | exc C ns ds μ' => exact post_exc n c⟩
theorem es_pass : PS X (.Pass pos) (tS W X.K ρ μ (.next ρ μ)) := ps_of ps_pass fun D σ H ⟨L, G, n, c⟩ => c _ L G H (.refl _ _ _) n
variable {st : Stmt} {rest A B : List Stmt} {q : Out} {c : Expr} {b : Bool}
theorem es_if (h : PT X c (tVT X.K ρ μ b μ1)) (h1 : b = true → PSs X A (tS W X.K ρ μ1 q)) (h2 : b = false → PSs X B (tS W X.K ρ μ1 q)) : PS X (.If c A B pos) (tS W X.K ρ μ q) := by
  cases b with
  | true => exact ps_of (ps_if h (h1 rfl) pss_never) fun D σ H ⟨L, G, n, c⟩ => ⟨L, G, n, fun L1 G1 H1 s1 o1 => iteT ⟨L1, G1, n.step s1 o1, Post.step c s1⟩⟩
  | false => exact ps_of (ps_if h pss_never (h2 rfl)) fun D σ H ⟨L, G, n, c⟩ => ⟨L, G, n, fun L1 G1 H1 s1 o1 => iteF ⟨L1, G1, n.step s1 o1, Post.step c s1⟩⟩
theorem ess_nil : PSs X [] (tS W X.K ρ μ (.next ρ μ)) := pss_of pss_nil fun D σ H ⟨L, G, n, c⟩ => c _ L G H (.refl _ _ _) n
theorem ess_one (h : PS X st (tS W X.K ρ μ q)) : PSs X [st] (tS W X.K ρ μ q) := pss_one h
theorem ess_cons (h1 : PS X st (tS W X.K ρ μ (.next ρ1 μ1))) (h2 : PSs X rest (tS W X.K ρ1 μ1 q)) : PSs X (st :: rest) (tS W X.K ρ μ q) :=
  pss_of (pss_cons h1 h2) fun D σ H ⟨L, G, n, c⟩ => ⟨L, G, n, fun σ' L' G' H' s' n' => ⟨L', G', n', Post.step c s'⟩⟩
/-- a statement that does not go on -/
def Out.stops : Out → Prop
  | .next _ _ => False
  | _ => True
theorem ess_stop (h1 : PS X st (tS W X.K ρ μ q)) (hq : q.stops) : PSs X (st :: rest) (tS W X.K ρ μ q) :=
  pss_of (pss_cons h1 pss_never) fun D σ H ⟨L, G, n, c⟩ => ⟨L, G, n, by
    cases q with
    | next ρ μ => exact hq.elim
    | ret d μ => exact c
    | brk ρ μ => exact c
    | cont ρ μ => exact c
    | exc C ns ds ρ μ => exact c⟩
theorem es_eq {q' : Out} (h : PS X st (tS W X.K ρ μ q)) (e : q = q') : PS X st (tS W X.K ρ μ q') := e ▸ h
/-! ### while -/
theorem es_while {body : List Stmt} {n : Nat} (g : Gd X W k) (h : EvWh X W c body n ρ μ q) : PS X (.While c body [] pos) (tS W X.K ρ μ q) := by
  refine ps_of (ps_while g.po aT_ok aSs_ok) fun D σ H ⟨L, G, nw, cc⟩ => ?_
  refine ⟨fun m σ' H' => ∃ ρ' μ' L' G', EvWh X W c body m ρ' μ' q ∧ Now X.K L' G' H' μ' ρ' σ' ∧ Post W X.K L' G' H' D q, ⟨n, ρ, μ, L, G, h, nw, cc⟩, ?_⟩
  rintro m σ1 H1 ⟨ρ1, μ1, L1, G1, h1, n1, c1⟩
  cases h1 with
  | stop ht hsub => exact ⟨_, ht, L1, G1, n1, fun L2 G2 H2 s2 o2 => iteF (c1 _ L2 G2 H2 s2 ((n1.step s2 o2).forget hsub))⟩
  | next ht hb hn =>
    rename_i m μ1' ρ2 μ2
    refine ⟨_, ht, L1, G1, n1, fun L2 G2 H2 s2 o2 => iteT ⟨fun σ3 H3 => ∃ L3 G3, Now X.K L3 G3 H3 μ2 ρ2 σ3 ∧ Post W X.K L3 G3 H3 D q, fun σ3 H3 ⟨L3, G3, n3, c3⟩ => ⟨m, Nat.lt_succ_self m, ρ2, μ2, L3, G3, hn, n3, c3⟩, _, hb, L2, G2, n1.step s2 o2, ?_⟩⟩
    exact fun σ3 L3 G3 H3 s3 n3 => ⟨L3, G3, n3, Post.step c1 (s2.trans s3)⟩
  | cont ht hb hn =>
    rename_i m μ1' ρ2 μ2
    refine ⟨_, ht, L1, G1, n1, fun L2 G2 H2 s2 o2 => iteT ⟨fun σ3 H3 => ∃ L3 G3, Now X.K L3 G3 H3 μ2 ρ2 σ3 ∧ Post W X.K L3 G3 H3 D q, fun σ3 H3 ⟨L3, G3, n3, c3⟩ => ⟨m, Nat.lt_succ_self m, ρ2, μ2, L3, G3, hn, n3, c3⟩, _, hb, L2, G2, n1.step s2 o2, ?_⟩⟩
    exact fun σ3 L3 G3 H3 s3 n3 => ⟨L3, G3, n3, Post.step c1 (s2.trans s3)⟩
  | brk ht hb => exact ⟨_, ht, L1, G1, n1, fun L2 G2 H2 s2 o2 => iteT ⟨fun _ _ => False, fun _ _ z => z.elim, _, hb, L2, G2, n1.step s2 o2, Ends'.step c1 s2⟩⟩
  | ret ht hb => exact ⟨_, ht, L1, G1, n1, fun L2 G2 H2 s2 o2 => iteT ⟨fun _ _ => False, fun _ _ z => z.elim, _, hb, L2, G2, n1.step s2 o2, Comes.step c1 s2⟩⟩
  | exc ht hb => exact ⟨_, ht, L1, G1, n1, fun L2 G2 H2 s2 o2 => iteT ⟨fun _ _ => False, fun _ _ z => z.elim, _, hb, L2, G2, n1.step s2 o2, Post.step c1 s2⟩⟩

/-! ### for -/
/-- an iterator that gives ds, one after another -/
structure JOk (K : PySem.W.Frag) (J : It) (L : List Addr) (G : Hp) (ds : List D) : Prop where
  go : ∀ L2 G2 H2 μ2 (i : Nat) d, Pre L L2 → Same G G2 → Ok K L2 G2 H2 μ2 → ds[i]? = some d → J.go i H2 ∧ ∀ x H3, J.yld i H2 x H3 → ∃ G3, Step L2 G2 H2 L2 G3 H3 ∧ Ok K L2 G3 H3 μ2 ∧ Rep K L2 G3 d x
  stop : ∀ L2 G2 H2 μ2, Pre L L2 → Same G G2 → Ok K L2 G2 H2 μ2 → J.stop ds.length H2
def iD (K : PySem.W.Frag) (ρ : Env') (μ : List M) (ds : List D) (μ' : List M) : TI := fun σ H R => ∃ L G, Now K L G H μ ρ σ ∧ ∀ J L' G' H', Step L G H L' G' H' → Ok K L' G' H' μ' → JOk K J L' G' ds → R J H'
theorem pi_of {tg : Expr} {t t' : TI} (h : PI X tg e t) (w : ∀ σ H R, t' σ H R → t σ H R) : PI X tg e t' := ⟨fun pins s σ H R I q => h.run pins s σ H R I (w _ _ _ q)⟩
theorem drop_cons {α : Type} {l : List α} {i : Nat} {x : α} {r : List α} (h : l.drop i = x :: r) : l[i]? = some x ∧ l.drop (i + 1) = r := by
  have hi : i < l.length := by
    by_cases z : i < l.length
    · exact z
    · rw [List.drop_eq_nil_of_le (by omega)] at h
      cases h
  rw [List.drop_eq_getElem_cons hi] at h
  injection h with h1 h2
  exact ⟨by rw [List.getElem?_eq_getElem hi, h1], h2⟩
end
end PM

set_option Elab.async false
set_option linter.all false
set_option maxRecDepth 100000
namespace PM
open PySem L2

/-! ### locs that are there -/
section
variable {K : PySem.W.Frag} {L : List Addr} {G H : Hp}
mutual
theorem Rep.lo : ∀ {d : D} {v : V}, Rep K L G d v → D.lo L.length d = true
  | .non, _, _ => by simp only [D.lo]
  | .bl _, _, _ => by simp only [D.lo]
  | .int _, _, _ => by simp only [D.lo]
  | .str _, _, _ => by simp only [D.lo]
  | .ref _, _, _ => by simp only [D.lo]
  | .ty _, _, _ => by simp only [D.lo]
  | .loc m, _, h => by
    simp only [Rep] at h
    obtain ⟨a, e, _⟩ := h
    simp only [D.lo, decide_eq_true_eq]
    exact (List.getElem?_eq_some_iff.mp e).1
  | .tup ds, _, h => by
    simp only [Rep] at h
    obtain ⟨a, vs, e, q, r⟩ := h
    simp only [D.lo]
    exact Reps.los r
  | .lst ds, _, h => by
    simp only [Rep] at h
    obtain ⟨a, vs, e, q, r⟩ := h
    simp only [D.lo]
    exact Reps.los r
  | .scr ds, _, h => by
    simp only [Rep] at h
    obtain ⟨a, vs, e, q, r⟩ := h
    simp only [D.lo]
    exact Reps.los r
  | .exn a dd ns ds, _, h => by
    simp only [Rep] at h
    obtain ⟨vs, e, q, z, r⟩ := h
    simp only [D.lo]
    exact Reps.los r
  | .obj C ns ds, _, h => by
    simp only [Rep] at h
    obtain ⟨a, dx, vs, e, q, z, r⟩ := h
    simp only [D.lo]
    exact Reps.los r
  | .err C ns ds, _, h => by
    simp only [Rep] at h
    obtain ⟨a, dx, vs, e, q, z, r⟩ := h
    simp only [D.lo]
    exact Reps.los r
theorem Reps.los : ∀ {ds : List D} {vs : List V}, Reps K L G ds vs → D.los L.length ds = true
  | [], _, _ => by simp only [D.los]
  | d :: ds, _, h => by
    simp only [Reps] at h
    obtain ⟨v, r, e, h1, h2⟩ := h
    simp only [D.los, Bool.and_eq_true]
    exact ⟨Rep.lo h1, Reps.los h2⟩
end
theorem MAt.lo {a : Addr} {m : M} (h : MAt K L G H a m) : m.lo L.length = true := by
  cases m with
  | lst ds => obtain ⟨vs, e, r⟩ := h; exact r.los
  | ins C ns ds => obtain ⟨dx, vs, e, z, r⟩ := h; exact r.los
  | gone => rfl
  | box => rfl
theorem Ok.lo {μ : List M} (h : Ok K L G H μ) {i : Nat} {m : M} (e : μ[i]? = some m) : m.lo μ.length = true := by
  have hi : i < L.length := by rw [h.len]; exact (List.getElem?_eq_some_iff.mp e).1
  have := (h.at_ i L[i] m (List.getElem?_eq_getElem hi) e).lo
  rw [h.len] at this
  exact this
end
/-- what the store holds behind a call has no places that the call has made -/
def Lows (μ μ2 : List M) : Prop := μ2.length = μ.length ∧ ∀ (i : Nat) m, μ2[i]? = some m → μ[i]? = some m ∨ m.lo μ.length = true
theorem Lows.refl (μ : List M) : Lows μ μ := ⟨rfl, fun _ _ e => .inl e⟩
theorem Lows.set (μ : List M) (i : Nat) {m : M} (h : m.lo μ.length = true) : Lows μ (μ.set i m) := ⟨by simp, fun j x e => by
  by_cases hj : i = j
  · subst hj
    by_cases hi : i < μ.length
    · rw [List.getElem?_set_self hi] at e
      cases e
      exact .inr h
    · rw [List.getElem?_eq_none (by simpa using hi)] at e
      cases e
  · rw [List.getElem?_set_ne hj] at e
    exact .inl e⟩
theorem Lows.all {K : PySem.W.Frag} {L : List Addr} {G H : Hp} {μ μ2 : List M} (l : Lows μ μ2) (o : Ok K L G H μ) : μ2.all (M.lo μ2.length) = true := by
  rw [List.all_eq_true]
  intro m hm
  obtain ⟨i, hi⟩ := List.mem_iff_getElem?.mp hm
  rw [l.1]
  rcases l.2 i m hi with e | e
  · exact o.lo e
  · exact e

/-! ### a def's promise -/
abbrev Rl := List D → List M → FO → Prop
def Got (K : PySem.W.Frag) (L : List Addr) (G H : Hp) (Q : VK) (E : XK) : FO → Prop
  | .ret d μ' => Comes K L G H d μ' Q
  | .exc C ns ds' μ' => ComesX K L G H C ns ds' μ' E
def spR (K : PySem.W.Frag) (R : Rl) : Sp := fun vs H Q E => ∃ L G ds μ o, Ok K L G H μ ∧ Reps K L G ds vs ∧ R ds μ o ∧ Got K L G H Q E o
/-- how a body's end is the def's end (μ: the store at the entry) -/
inductive Leads (μ : List M) : FO → Out → Prop
  | ret0 {d : D} {μ2 : List M} : Leads μ (.ret d μ2) (.ret d μ2)
  | next0 {ρ : Env'} {μ2 : List M} : Leads μ (.ret .non μ2) (.next ρ μ2)
  | exc0 {C : Addr} {ns : List Str} {ds : List D} {ρ : Env'} {μ2 : List M} : Leads μ (.exc C ns ds μ2) (.exc C ns ds ρ μ2)
  | ret {d : D} {μ2 ν : List M} : Lows μ μ2 → D.lo μ.length d = true → Leads μ (.ret d μ2) (.ret d (μ2 ++ ν))
  | next {ρ : Env'} {μ2 ν : List M} : Lows μ μ2 → Leads μ (.ret .non μ2) (.next ρ (μ2 ++ ν))
  | exc {C : Addr} {ns : List Str} {ds : List D} {ρ : Env'} {μ2 ν : List M} : Lows μ μ2 → D.los μ.length ds = true → Leads μ (.exc C ns ds μ2) (.exc C ns ds ρ (μ2 ++ ν))
  /-- a list of its own is handed back: nobody else has it -/
  | retL {ds : List D} {μ2 ν : List M} {n : Nat} : Lows μ μ2 → D.los μ.length ds = true → μ.length ≤ n → (μ2 ++ ν)[n]? = some (.lst ds) → Leads μ (.ret (.lst ds) μ2) (.ret (.loc n) (μ2 ++ ν))
def startD (N : List Str) (ds : List D) : Env' := ds.map some ++ List.replicate (N.length - ds.length) none
theorem start_rep {K : PySem.W.Frag} {L : List Addr} {G : Hp} {N : List Str} {ds : List D} {vs : List V} (r : Reps K L G ds vs) : RepS K L G (startD N ds) (start N vs) := by
  have hl := r.length
  refine ⟨by simp [startD, L2.start, hl], fun i d e => ?_⟩
  unfold startD at e
  unfold L2.start
  by_cases hi : i < ds.length
  · rw [List.getElem?_append_left (by simpa using hi)] at e
    rw [List.getElem?_append_left (by simpa [hl] using hi)]
    rw [List.getElem?_map] at e ⊢
    cases q : ds[i]? with
    | none => rw [q] at e; cases e
    | some x =>
      rw [q] at e
      simp only [Option.map_some, Option.some.injEq] at e
      subst e
      obtain ⟨v, h1, h2⟩ := r.get q
      exact ⟨v, by rw [h1]; rfl, h2⟩
  · rw [List.getElem?_append_right (by simpa using hi)] at e
    rw [List.getElem?_replicate] at e
    split at e <;> cases e
section
variable {P : Program} {w : World} {K : PySem.W.Frag} {mg : Str → Option Value} {base : Heap}
theorem xd_cut {L L' : List Addr} {G H : Hp} {dx : Option Addr} {ns : List Str} {ds : List D} {n : Nat} (x : XdAt K L G H dx ns ds) (h : D.los n ds = true) : XdAt K (L.take n) G H dx ns ds := by
  refine ⟨x.1, ?_⟩
  rcases x.2 with z | ⟨a, vs, e1, e2, r⟩
  · exact .inl z
  · exact .inr ⟨a, vs, e1, e2, r.cut h⟩
/-- the end of a body as its caller sees it -/
theorem leads_post {L : List Addr} {G H : Hp} {μ : List M} {o : FO} {q : Out} {Q : VK} {E : XK} (h : Leads μ o q) (ok : Ok K L G H μ)
    (c : Got K L G H Q E o) : Post (fun c d _ H => E c d H) K L G H { nx := fun _ H' => Q .non H', rt := Q } q := by
  have cut : ∀ {μ2 : List M}, Lows μ μ2 → ∀ {L' : List Addr} {G' H' : Hp} {ν : List M}, Step L G H L' G' H' → Ok K L' G' H' (μ2 ++ ν) → Step L G H (L'.take μ2.length) G' H' ∧ Ok K (L'.take μ2.length) G' H' μ2 := by
    intro μ2 l L' G' H' ν s o
    exact ⟨s.cut (by rw [ok.len, l.1]; exact Nat.le_refl _), o.cut (l.all ok)⟩
  cases h with
  | ret0 => exact c
  | next0 => exact fun σ' L' G' H' s n => c _ L' G' H' s n.ok (rep_non.mpr rfl)
  | exc0 => exact fun σ' dx L' G' H' s n x => c dx L' G' H' s n.ok x
  | ret l hd =>
    intro v L' G' H' s o' r
    obtain ⟨s', o''⟩ := cut l s o'
    exact c v _ G' H' s' o'' (r.cut (by rw [l.1]; exact hd))
  | next l =>
    intro σ' L' G' H' s n
    obtain ⟨s', o''⟩ := cut l s n.ok
    exact c _ _ G' H' s' o'' (rep_non.mpr rfl)
  | exc l hd =>
    intro σ' dx L' G' H' s n x
    obtain ⟨s', o''⟩ := cut l s n.ok
    exact c dx _ G' H' s' o'' (xd_cut (L' := L') x (by rw [l.1]; exact hd))
  | retL l hd hn he =>
    rename_i ds μ2 ν n
    intro v L' G' H' s o' r
    obtain ⟨s', o''⟩ := cut l s o'
    obtain ⟨a, ea, ev⟩ := rep_loc.mp r
    obtain ⟨vs, eh, rv⟩ := o'.at_ n a _ ea he
    have hna : a ∉ L'.take μ2.length := fun z => by
      obtain ⟨j, hj, ej⟩ := List.getElem_of_mem z
      rw [List.length_take] at hj
      rw [List.getElem_take] at ej
      obtain ⟨h1, h2⟩ := List.getElem?_eq_some_iff.mp ea
      have := (List.getElem_inj o'.nd).mp (ej.trans h2.symm)
      rw [l.1] at hj
      omega
    obtain ⟨o3, sg⟩ := o''.tell (p := a) (o := .lst vs) eh hna
    have h0 : H a = none := by
      rcases s.fr a (List.mem_of_getElem? ea) with z | z
      · obtain ⟨j, hj, ej⟩ := List.getElem_of_mem z
        have e1 := s.pre j a (by rw [List.getElem?_eq_getElem hj, ej])
        obtain ⟨h1, h2⟩ := List.getElem?_eq_some_iff.mp ea
        obtain ⟨h3, h4⟩ := List.getElem?_eq_some_iff.mp e1
        have := (List.getElem_inj o'.nd).mp (h4.trans h2.symm)
        rw [ok.len] at hj
        omega
      · exact z
    refine c v _ _ H' (s'.tell h0 sg) o3 (rep_lst.mpr ⟨a, vs, ev, upd_same, ?_⟩)
    exact ((rv.cut (n := μ2.length) (by rw [l.1]; exact hd)).mono (.refl _) sg)
/-- a def keeps its promise, where no text of a container is being made -/
structure FnG (P : Program) (w : World) (K : PySem.W.Frag) (mg : Str → Option Value) (base : Heap) (k : Nat) (f : Addr) (fd : FuncData) (ps : List Str) (sp : Sp) : Prop where
  len : ∀ vs H Q E, sp vs H Q E → vs.length = ps.length
  run : ∀ (A : Around) (outer : List Env) (s : Shared) (H : Hp) (args : Args) (us : List Value) (vs : List V) (Q : VK) (E : XK), Room k A → Gr k A → Env0 P w K mg base A outer s H → BindsTo s fd args (ps.zip us) → Vals vs us → sp vs H Q E →
    codeAny (model P w) A (.call (.ref f) args) (CR (L2.CX P w) outer P w H s Q E) s
/-- a def of the text as it stands behind the top; dvs: its defaults -/
abbrev FunS (K : PySem.W.Frag) (x qual : Str) (st : Stmt) (dvs : List V) (f : Addr) (fd : FuncData) : Prop := FunD K x qual (defArgs st) (defBody st) (defScope st) dvs [] f fd
/-- THE RULE for a def -/
theorem fnR {x qual : Str} {st : Stmt} {dvs : List V} {f : Addr} {fd : FuncData} {N ps : List Str} {k : Nat} {R : Rl} (F : FunS K x qual st dvs f fd) (S : FnScope N ps (defScope st)) (len : ∀ ds μ o, R ds μ o → ds.length = ps.length)
    (body : ∀ (cdv : Value) (A : Around) (outer : List Env) (s : Shared) (H : Hp) (E : XK), Gd (cxOf (L2.CX P w) P w K mg base N qual (defScope st) f cdv A outer s H E) (fun c d _ H => E c d H) k →
      ∀ ds μ o, R ds μ o → ∃ q, Leads μ o q ∧ PSs (cxOf (L2.CX P w) P w K mg base N qual (defScope st) f cdv A outer s H E) (defBody st) (tS (fun c d _ H => E c d H) K (startD N ds) μ q)) :
    FnG P w K mg base (k + 1) f fd ps (spR K R) := by
  have ln : ∀ vs H Q E, spR K R vs H Q E → vs.length = ps.length := fun vs H Q E ⟨L, G, ds, μ, o, _, r, hR, _⟩ => r.length.trans (len ds μ o hR)
  refine ⟨ln, fun A outer s H args us vs Q E room gr en bnd rel hsp => ?_⟩
  obtain ⟨oc, od, dV, kV, doc, pm, an, cdv, ct, osl, rfl, look, hcode, _, _⟩ := F.ex
  have kept : ∀ b o, base.get? b = some o → s.heap.get? b = some o := fun b o e => (en.bs b o e).1
  have kin : K.In s.heap := en.mod.kin.keeps kept
  have kinds : ∀ y ∈ ps.zip us, (defScope st).names.lookup y.1 = some .local ∨ ((defScope st).names.lookup y.1 = some .cell ∧ ((cellsFrom (s.heap.objs.size + 1) (defScope st).names []).lookup y.1).isSome = true) := by
    rintro ⟨n, v⟩ hy
    exact (S.par n (List.of_mem_zip hy).1).imp (fun q => q) fun q => ⟨q, PySem.W.cellsFrom_some _ _ _ (.inl q)⟩
  refine codeAny_call_function room.depth (kin _ _ look) rfl S.co S.gen rfl (PySem.W.codeRec_of kin hcode) (bnd _ _ _ _ (wpAny_newFunctionEnv_cells S.kind kinds fun env he s1 ent => ?_))
  subst he
  refine ⟨(en.mod.nolimit.keeps kept).keeps ent.toInCall.keep, codeAny_func ?_⟩
  have hlen := ln _ _ _ _ hsp
  obtain ⟨L, G, ds, μ, o, ok, rr, hR, c⟩ := hsp
  obtain ⟨q, hlq, ht⟩ := body cdv A outer s H E ⟨rfl, S.nd, takes_of rfl rfl rfl rfl, passes_of rfl, room.deeper _, gr.mono (Nat.le_succ _)⟩ ds μ o hR
  have inv : Inv (cxOf (L2.CX P w) P w K mg base N qual (defScope st) f cdv A outer s H E) [] (L2.start N vs) H s1 := inv_start S room.hd en hlen rel ent
  refine wpAny_mono (ht.run [] s1 (L2.start N vs) H { nx := fun _ H' => Q .non H', rt := Q } inv ⟨L, G, ⟨ok, start_rep rr⟩, leads_post hlq ok c⟩) (fun fl s' hs => ?_) fun e s' hs => hs
  match fl, hs with
  | .ret u, ⟨v, σ', H', J, rv, q⟩ => exact ⟨v, H', J.os, J.bare, J.base, J.hok, rv, q⟩
  | .next, ⟨σ', H', J, q⟩ => exact ⟨.non, H', J.os, J.bare, J.base, J.hok, rfl, q⟩
  | .brk, ⟨_, _, _, q⟩ => exact q.elim
  | .cont, ⟨_, _, _, q⟩ => exact q.elim
theorem FunD.plain {x qual : Str} {st : Stmt} {f : Addr} {fd : FuncData} (F : FunS K x qual st [] f fd) : Fun K x qual st f fd := by
  obtain ⟨oc, od, dV, kV, doc, pm, an, cdv, ct, osl, e, look, hcode, hD, _⟩ := F.ex
  rcases hD with ⟨_, rfl⟩ | ⟨z, _⟩
  · exact ⟨⟨oc, od, kV, doc, pm, an, cdv, ct, osl, e, look, hcode⟩, F.kp⟩
  · exact (z rfl).elim
theorem funS_mk {x qual : Str} {st : Stmt} {f : Addr} {oc : Value} {od an : Option Addr} {osl : Array (Option Value)} {kV doc pm cdv ct : Value} (l : K.lookup f = some ⟨oc, od, .func (PySem.W.fnOf x qual (defArgs st) (defBody st) (defScope st) .none kV doc pm an cdv ct), osl⟩)
    (c : PySem.W.codeIn K cdv qual = true) (k : PySem.W.keepIn K (.ref f) = true) : FunS K x qual st [] f (PySem.W.fnOf x qual (defArgs st) (defBody st) (defScope st) .none kV doc pm an cdv ct) :=
  ⟨⟨oc, od, .none, kV, doc, pm, an, cdv, ct, osl, rfl, l, c, .inl ⟨rfl, rfl⟩, .inl rfl⟩, k⟩
end

/-! ### calls -/
/-- a def that may be called -/
structure Cal (P : Program) (w : World) (K : PySem.W.Frag) (mg : Str → Option Value) (base : Heap) (k : Nat) (ps : List Str) (R : Rl) (f : Addr) (fd : FuncData) : Prop where
  ok : FnG P w K mg base k f fd ps (spR K R)
  bd : Binds K fd ps []
section
variable {X : Cx} {W : WX} {k j : Nat} {ps : List Str} {R : Rl} {f C : Addr} {fd : FuncData} {ds : List D} {μ μ1 μ2 : List M} {o : FO} {e : Expr} {es : List Expr} {x m : Str} {p pos apos : Pos} {ρ : Env'} {d : D}
theorem CO.sp {σ : St} {H : Hp} {Q : VK} {L : List Addr} {G : Hp} {vs : List V} (hR : R ds μ o) (ok : Ok X.K L G H μ) (r : Reps X.K L G ds vs) (c : CO W X.K L G H σ o Q) : spR X.K R vs H Q (WE W σ) :=
  ⟨L, G, ds, μ, o, ok, r, hR, by
    cases o with
    | ret d μ' => exact c
    | exc C ns ds' μ' => exact c⟩
theorem run_fnG {pins : List (Addr × Obj)} {σ : St} {H : Hp} {s : Shared} {Q : VK} {us us' : List Value} {kw : List (Str × Value)} {vs : List V} {sp : Sp} {E : XK} (F : FnG X.prog X.w X.K X.mg X.base j f fd ps sp) (hr : Room j X.A) (gr : Gr j X.A) (hb : BindsTo s fd ⟨us', kw⟩ (ps.zip us)) (hx : PassesAt (L2.CX X.prog X.w) X σ E)
    (I : Inv X pins σ H s) (r : Vals vs us) (h : sp vs H Q E) : wpAny (model X.prog X.w) X.A (call (.ref f) us' kw) (EP X pins σ Q) X.xe s := by
  refine wpAny_call (codeAny_mono (F.run X.A X.stack s H ⟨us', kw⟩ us vs Q E hr gr I.env0 hb r h) fun r s' hq => ?_)
  cases r with
  | error e => exact hx pins H s e s' I hq
  | ok fl =>
    cases fl with
    | ret u => exact I.after hq
    | next => exact False.elim hq
    | brk => exact False.elim hq
    | cont => exact False.elim hq
/-- by values -/
theorem Cal.run (c : Cal X.prog X.w X.K X.mg X.base j ps R f fd) (g : Gd X W k) (hj : j ≤ k) (hR : R ds μ o) : CallO X W (fun us => call (.ref f) us) ds μ o :=
  fun pins s σ H xs us Q L G I rx ok r co => by
    have hsp := CO.sp hR ok r co
    have hl : us.length = ps.length := by rw [← rx.length]; exact c.ok.len _ _ _ _ hsp
    have b := c.bd s us I.kIn (by rw [List.append_nil]; exact hl)
    rw [List.append_nil] at b
    exact run_fnG (E := WE W σ) c.ok (g.hr.mono hj) (g.gr.mono hj) b (passAt g.tk σ) I rx hsp
theorem argsO {f : List Value → Sem Value} (ha : PA X es (tVA X.K ρ μ ds μ1)) (hf : CallO X W f ds μ1 o) {pins : List (Addr × Obj)} {s : Shared} {σ : St} {H : Hp} {Q : VK} (I : Inv X pins σ H s) (h : tO W X.K ρ μ o σ H Q) (pos : Pos) :
    wpAny (model X.prog X.w) X.A (spliced (backTo pos (starEach es X.env))) (fun us s1 => X.K.In s1.heap ∧ wpAny (model X.prog X.w) X.A (f us) (EP X pins σ Q) X.xe s1) X.xe s := by
  obtain ⟨L, G, n, c⟩ := h
  refine thn (ha.run pos pins s σ H (fun vs H1 => ∃ L1 G1, Ok X.K L1 G1 H1 μ1 ∧ Reps X.K L1 G1 ds vs ∧ CO W X.K L1 G1 H1 σ o Q) I ⟨L, G, n, fun vs L1 G1 H1 s1 o1 r1 => ⟨L1, G1, o1, r1, CO.step c s1⟩⟩) fun us s1 ⟨vs, H1, I1, r1, L1, G1, o1, rr, c1⟩ => ⟨I1.kIn, ?_⟩
  exact hf pins s1 σ H1 vs us Q L1 G1 I1 r1 o1 rr c1
/-- f(e, ..) -/
theorem ev_call (g : Gd X W k) (c : Cal X.prog X.w X.K X.mg X.base j ps R f fd) (hm : X.mg x = some (.ref f)) (hk : PySem.W.keepIn X.K (.ref f) = true) (ha : PA X (e :: es) (tVA X.K ρ μ ds μ1)) (hR : R ds μ1 o) (hj : j ≤ k := by decide) (hg : Gl X x := by rfl)
    (hdb : (x == ("__debug__" : Str)) = false := by decide) (he : starEach (e :: es) X.env = (false, eval e X.env) :: starEach es X.env := by rfl) (hpl : (backTo pos (starEach es X.env)).any (·.1) = false := by rfl) :
    PE X (.Call (.Name x p) (e :: es) [] pos) (tO W X.K ρ μ o) :=
  ⟨fun pins s σ H Q I h => wpAny_Call_Name_kw (ld_glob I hg hm (PySem.W.callWith_K (h₀ := X.base) I.ok.mod.kin hk (argsO ha (c.run g hj hR) I h pos) he hpl) hdb)⟩
/-! #### objects -/
/-- a field of an immutable object -/
def fldOf (ns : List Str) (ds : List D) (f : Str) : Option D := (ns.zip ds).lookup f
theorem fld_rep {K : PySem.W.Frag} {L : List Addr} {G : Hp} {f : Str} : ∀ {ns : List Str} {ds : List D} {vs : List V} {d : D}, Reps K L G ds vs → fldOf ns ds f = some d → ∃ v, (ns.zip vs).lookup f = some v ∧ Rep K L G d v
  | [], ds, vs, d, r, h => by simp [fldOf] at h
  | n :: ns, [], vs, d, r, h => by simp [fldOf] at h
  | n :: ns, c :: ds, vs, d, r, h => by
    obtain ⟨v, q, rfl, r1, r2⟩ := r.inv_cons
    unfold fldOf at h
    rw [List.zip_cons_cons] at h ⊢
    simp only [List.lookup] at h ⊢
    cases hf : f == n with
    | true =>
      simp only [hf, Option.some.injEq] at h ⊢
      subst h
      exact ⟨v, rfl, r1⟩
    | false =>
      simp only [hf] at h ⊢
      exact fld_rep r2 h
theorem zip_lookup_none {α β : Type} {f : Str} : ∀ {ns : List Str} {vs : List α} {ds : List β}, vs.length = ds.length → (ns.zip ds).lookup f = none → (ns.zip vs).lookup f = none
  | [], _, _, _, _ => rfl
  | n :: ns, [], _, _, _ => rfl
  | n :: ns, v :: vs, [], h, _ => by simp at h
  | n :: ns, v :: vs, d :: ds, h, e => by
    rw [List.zip_cons_cons] at e ⊢
    simp only [List.lookup] at e ⊢
    cases hf : f == n with
    | true => simp [hf] at e
    | false =>
      simp only [hf] at e ⊢
      exact zip_lookup_none (by simpa using h) e
/-- what is asked of the receiver of a method -/
inductive Recv (C : Addr) (m : Str) (μ : List M) : D → Prop
  | obj {ns : List Str} {fs : List D} : fldOf ns fs m = none → Recv C m μ (.obj C ns fs)
  | loc {ns : List Str} {fs : List D} {i : Nat} : μ[i]? = some (.ins C ns fs) → fldOf ns fs m = none → Recv C m μ (.loc i)
theorem Recv.at_ {L : List Addr} {G H : Hp} {v : V} (r : Recv C m μ d) (ok : Ok X.K L G H μ) (rd : Rep X.K L G d v) : ∃ a dx fs, v = .ref a ∧ H a = some (.ins C dx fs) ∧ fs.lookup m = none := by
  cases r with
  | obj h =>
    obtain ⟨a, dx, vs, ev, eg, _, rr⟩ := rep_obj.mp rd
    exact ⟨a, dx, _, ev, ok.sub _ _ eg, zip_lookup_none rr.length h⟩
  | loc hi h =>
    obtain ⟨a, ea, ev⟩ := rep_loc.mp rd
    obtain ⟨dx, vs, eh, _, rr⟩ := ok.at_ _ a _ ea hi
    exact ⟨a, dx, _, ev, eh, zip_lookup_none rr.length h⟩
end
end PM

set_option Elab.async false
set_option linter.all false
set_option maxRecDepth 100000
namespace PM
open PySem L2

/-! ### making an object -/
section
variable {X : Cx} {W : WX} {k j : Nat} {ps : List Str} {R : Rl} {f C : Addr} {fd : FuncData} {ds : List D} {μ μ1 μ2 : List M} {o : FO} {e : Expr} {es : List Expr} {x m : Str} {p pos apos : Pos} {ρ : Env'} {d : D}
/-- C(..) by what __init__ does: the new thing is the last of the store -/
inductive MakeR (R : Rl) (C : Addr) (ds : List D) (μ : List M) : FO → Prop
  | obj {ns : List Str} {fs : List D} {μ2 : List M} : R (.loc μ.length :: ds) (μ ++ [.ins C [] []]) (.ret .non (μ2 ++ [.ins C ns fs])) → Lows μ μ2 → ns.length = fs.length → D.los μ.length fs = true → MakeR R C ds μ (.ret (.obj C ns fs) μ2)
  | loc {ns : List Str} {fs : List D} {μ2 : List M} : R (.loc μ.length :: ds) (μ ++ [.ins C [] []]) (.ret .non (μ2 ++ [.ins C ns fs])) → μ2.length = μ.length → MakeR R C ds μ (.ret (.loc μ.length) (μ2 ++ [.ins C ns fs]))
  | exc {C' : Addr} {ns : List Str} {fs : List D} {μ2 : List M} {m : M} : R (.loc μ.length :: ds) (μ ++ [.ins C [] []]) (.exc C' ns fs (μ2 ++ [m])) → Lows μ μ2 → D.los μ.length fs = true → MakeR R C ds μ (.exc C' ns fs μ2)
theorem run_makeS {sp : Sp} {dvs : List V} {dvl : List Value} {E : XK} {pins : List (Addr × Obj)} {σ : St} {H : Hp} {s : Shared} {Q : VK} {us : List Value} {vs : List V} (Mk : Mk X.K C f) (F : FnG X.prog X.w X.K X.mg X.base k f fd ps sp) (hr : Room (k + 1) X.A) (gr : Gr (k + 1) X.A) (hb : Binds X.K fd ps dvl) (hd : Vals dvs dvl)
    (hx : PassesAt (L2.CX X.prog X.w) X σ E) (I : Inv X pins σ H s) (r : Vals vs us)
    (h : ∀ x dx, H x = none → H dx = none → dx ≠ x → sp (.ref x :: (vs ++ dvs)) (upd (upd H dx (.own x)) x (.ins C dx [])) (fun v H2 => v = .non ∧ Q (.ref x) H2) E) :
    wpAny (model X.prog X.w) X.A (call (.ref C) us) (EP X pins σ Q) X.xe s := by
  have hq := h (s.heap.objs.size + 1) s.heap.objs.size (I.hok.fresh (Nat.le_succ _)) (I.hok.fresh (Nat.le_refl _)) (Nat.ne_of_lt (Nat.lt_succ_self _))
  have I2 := Inv.made (C := C) I
  have r2 : Vals (V.ref (s.heap.objs.size + 1) :: (vs ++ dvs)) (Value.ref (s.heap.objs.size + 1) :: (us ++ dvl)) := .cons rfl (r.append hd)
  have hl : (Value.ref (s.heap.objs.size + 1) :: us ++ dvl).length = ps.length := by
    have e := r2.length
    rw [F.len _ _ _ _ hq] at e
    exact e.symm
  refine wpAny_call (make_map (f := f) I.kIn Mk.makes Mk.init (beq_iff_eq.mp Mk.fn) (codeAny_mono (F.run _ X.stack _ _ ⟨Value.ref (s.heap.objs.size + 1) :: us, []⟩ (Value.ref (s.heap.objs.size + 1) :: (us ++ dvl)) _ _ E (hr.make C us []) (by obtain ⟨g0, e0, z0⟩ := gr; exact ⟨g0, by first | exact e0 | (simpa [Around.under, Code.guards, Code.isGuard, pushGuards, guardIds] using e0), fun q => z0 (by omega)⟩)
    (I2.env0.make C us []) (hb _ (Value.ref (s.heap.objs.size + 1) :: us) I2.kIn hl) r2 hq) fun r s' hq' => ?_))
  cases r with
  | error e => exact hx pins _ _ e s' I2 hq'
  | ok fl =>
    cases fl with
    | ret u =>
      obtain ⟨v, H', I3, rv, ev, q3⟩ := I2.after hq'
      subst ev
      exact ⟨rv, ⟨V.ref (s.heap.objs.size + 1), H', I3, rfl, q3⟩⟩
    | next => exact False.elim hq'
    | brk => exact False.elim hq'
    | cont => exact False.elim hq'
/-- the new instance in the store -/
theorem Ok.made {K : PySem.W.Frag} {L : List Addr} {G H : Hp} {a dx : Addr} (ok : Ok K L G H μ) (h1 : H a = none) (h2 : H dx = none) (ne : dx ≠ a) :
    Ok K (L ++ [a]) G (upd (upd H dx (.own a)) a (.ins C dx [])) (μ ++ [.ins C [] []]) ∧ Step L G H (L ++ [a]) G (upd (upd H dx (.own a)) a (.ins C dx [])) := by
  obtain ⟨o1, s1⟩ := ok.newH (o := .own a) h2
  have h1' : upd H dx (.own a) a = none := by rw [upd_ne (Ne.symm ne)]; exact h1
  obtain ⟨o2, s2⟩ := o1.alloc (o := .ins C dx []) (m := .ins C [] []) h1' ⟨dx, [], upd_same, rfl, Reps.nil⟩
  exact ⟨o2, s1.trans s2⟩
theorem last_get {α : Type} (l : List α) (x : α) : (l ++ [x])[l.length]? = some x := by simp
theorem makeO {dvs : List V} {dvl : List Value} {dds : List D} (Mk : Mk X.K C f) (F : FnG X.prog X.w X.K X.mg X.base j f fd ps (spR X.K R)) (hb : Binds X.K fd ps dvl) (hd : Vals dvs dvl) (hdd : ∀ L G, Reps X.K L G dds dvs) (g : Gd X W k) (hj : j + 1 ≤ k) (hR : MakeR R C (ds ++ dds) μ o) :
    CallO X W (fun us => call (.ref C) us) ds μ o := by
  intro pins s σ H xs us Q L G I rx ok r co
  refine run_makeS (E := WE W σ) Mk F (g.hr.mono hj) (g.gr.mono hj) hb hd (passAt g.tk σ) I rx fun a dx h1 h2 ne => ?_
  obtain ⟨o2, s2⟩ := ok.made (C := C) h1 h2 ne
  have la : (L ++ [a])[μ.length]? = some a := by rw [← ok.len]; exact last_get L a
  have rr : Reps X.K (L ++ [a]) G (.loc μ.length :: (ds ++ dds)) (.ref a :: (xs ++ dvs)) := Reps.cons (rep_loc.mpr ⟨a, la, rfl⟩) ((r.step s2).append (hdd _ _))
  cases hR with
  | obj h l hl hfs =>
    rename_i ns fs μ2
    refine ⟨_, _, _, _, _, o2, rr, h, fun v L3 G3 H3 s3 o3 r3 => ⟨rep_non.mp r3, ?_⟩⟩
    have s13 := s2.trans s3
    have hlen : μ2.length = μ.length := l.1
    have la3 : L3[μ2.length]? = some a := by rw [hlen]; exact s3.pre _ _ la
    obtain ⟨dx', vs', eh, _, rv⟩ := o3.at_ μ2.length a _ la3 (last_get μ2 _)
    have o4 : Ok X.K (L3.take μ2.length) G3 H3 μ2 := o3.cut (l.all ok)
    have s4 : Step L G H (L3.take μ2.length) G3 H3 := s13.cut (by rw [ok.len, hlen]; exact Nat.le_refl _)
    have hna : a ∉ L3.take μ2.length := fun z => by
      obtain ⟨i, hi, ei⟩ := List.getElem_of_mem z
      rw [List.length_take] at hi
      rw [List.getElem_take] at ei
      obtain ⟨g1, g2⟩ := List.getElem?_eq_some_iff.mp la3
      have := (List.getElem_inj o3.nd).mp (ei.trans g2.symm)
      omega
    obtain ⟨o5, sg⟩ := o4.tell (p := a) (o := .ins C dx' (ns.zip vs')) eh hna
    exact co _ _ _ H3 (s4.tell h1 sg) o5 (rep_obj.mpr ⟨a, dx', vs', rfl, upd_same, hl, (rv.cut (n := μ2.length) (by rw [hlen]; exact hfs)).mono (.refl _) sg⟩)
  | loc h hl =>
    refine ⟨_, _, _, _, _, o2, rr, h, fun v L3 G3 H3 s3 o3 r3 => ⟨rep_non.mp r3, ?_⟩⟩
    exact co _ L3 G3 H3 (s2.trans s3) o3 (rep_loc.mpr ⟨a, s3.pre _ _ la, rfl⟩)
  | exc h l hfs =>
    rename_i C' ns fs μ2 m
    refine ⟨_, _, _, _, _, o2, rr, h, fun dx' L3 G3 H3 s3 o3 x3 => ?_⟩
    have hlen : μ2.length = μ.length := l.1
    exact co dx' _ G3 H3 ((s2.trans s3).cut (n := μ2.length) (by rw [ok.len, hlen]; exact Nat.le_refl _)) (o3.cut (l.all ok)) (xd_cut (L' := L3) x3 (by rw [hlen]; exact hfs))
/-- a class that may be made -/
structure Mak (P : Program) (w : World) (K : PySem.W.Frag) (mg : Str → Option Value) (base : Heap) (k : Nat) (ps : List Str) (R : Rl) (C f : Addr) (fd : FuncData) : Prop where
  mak : Mk K C f
  ok : FnG P w K mg base k f fd ps (spR K R)
end

/-! ### fields stored -/
section
variable {X : Cx} {W : WX} {k : Nat} {e oe : Expr} {pos pos' : Pos} {ρ : Env'} {μ μ1 μ2 : List M} {d : D} {i : Nat} {C : Addr} {ns : List Str} {fs : List D} {f : Str}
/-- a field put among the others -/
def putN (f : Str) : List Str → List Str
  | [] => [f]
  | g :: r => if g = f then g :: r else g :: putN f r
def putD (f : Str) (d : D) : List Str → List D → List D
  | [], _ => [d]
  | _ :: _, [] => []
  | g :: r, x :: xs => if g = f then d :: xs else x :: putD f d r xs
theorem put_rep {K : PySem.W.Frag} {L : List Addr} {G : Hp} {v : V} (rv : Rep K L G d v) : ∀ {ns : List Str} {fs : List D} {vs : List V}, ns.length = fs.length → Reps K L G fs vs → ∃ vs', putF f v (ns.zip vs) = (putN f ns).zip vs' ∧ (putN f ns).length = (putD f d ns fs).length ∧ Reps K L G (putD f d ns fs) vs'
  | [], [], vs, _, r => ⟨[v], by simp [putF, putN], rfl, Reps.cons rv Reps.nil⟩
  | [], _ :: _, _, h, _ => by simp at h
  | _ :: _, [], _, h, _ => by simp at h
  | g :: ns, x :: fs, vs, h, r => by
    obtain ⟨u, q, rfl, r1, r2⟩ := r.inv_cons
    by_cases hg : g = f
    · refine ⟨v :: q, ?_, ?_, ?_⟩
      · simp [putF, putN, hg]
      · simp only [putN, putD, hg, if_true, List.length_cons]
        simpa using h
      · simp only [putD, hg, if_true]
        exact Reps.cons rv r2
    · obtain ⟨vs', e1, e2, e3⟩ := put_rep rv (by simpa using h) r2
      refine ⟨u :: vs', ?_, ?_, ?_⟩
      · simp [putF, putN, hg, e1]
      · simp only [putN, putD, hg, if_false, List.length_cons, e2]
      · simp only [putD, hg, if_false]
        exact Reps.cons r1 e3
/-- o.f = e, o a thing of the store -/
theorem es_fld (he : PE X e (tV X.K ρ μ d μ1)) (ho : PE X oe (tV X.K ρ μ1 (.loc i) μ2)) (hi : μ2[i]? = some (.ins C ns fs)) (c : Cls X.K C) (n : NoAttr X.K C f) (hl : ns.length < 1000 := by decide) (hs : swapsWith e (some (.Attribute oe f pos')) pos.line X.env = pure false := by rfl) :
    PS X (.Assign [.Attribute oe f pos'] e pos) (tS W X.K ρ μ (.next ρ (μ2.set i (.ins C (putN f ns) (putD f d ns fs))))) :=
  ps_of (ps_fld ho he hs) fun D σ H ⟨L, G, nw, co⟩ => ⟨L, G, nw, fun v L1 G1 H1 s1 o1 r1 => ⟨L1, G1, nw.step s1 o1, fun u L2 G2 H2 s2 o2 r2 => by
    obtain ⟨a, ea, ev⟩ := rep_loc.mp r2
    obtain ⟨dx, vs, eh, hl2, rr⟩ := o2.at_ i a _ ea hi
    obtain ⟨vs', e1, e2, e3⟩ := put_rep (r1.step s2) hl2 rr
    refine ⟨a, C, dx, _, ev, eh, c, n, ?_, ?_⟩
    · rw [List.length_zip]
      omega
    · obtain ⟨o3, s3⟩ := o2.write (o := .ins C dx (putF f v (ns.zip vs))) (m := .ins C (putN f ns) (putD f d ns fs)) ea ⟨dx, vs', by rw [upd_same, e1], e2, e3⟩
      exact co σ L2 G2 _ ((s1.trans s2).trans s3) ⟨o3, ((nw.env.step s1).step s2).step s3⟩⟩⟩
end
end PM

set_option Elab.async false
set_option linter.all false
set_option maxRecDepth 100000
namespace PM
open PySem L2
abbrev W0 : WX := fun _ _ _ _ => False

/-! ### ints -/
section
variable {X : Cx} {W : WX} {μ : List M} {i j : Int} {x y : Str} {a b : Bool}
theorem oo_int {f : Value → Value → Sem Value} {g : Int → Int → Int} (h : OpR X f (rI0 fun i j => .int (g i j))) : OpO X W f (.int i) (.int j) μ (.ret (.int (g i j)) μ) :=
  opO_of h fun σ x y H Q L G o r1 r2 c => ⟨i, j, rep_int.mp r1, rep_int.mp r2, CO.now (W := W) (σ := σ) c o (rep_int.mpr rfl)⟩
theorem oo_intC {f : Value → Value → Sem Value} {C : Int → Int → Prop} {g : Int → Int → Int} (h : OpR X f (rI C fun i j => .int (g i j))) (hc : C i j) : OpO X W f (.int i) (.int j) μ (.ret (.int (g i j)) μ) :=
  opO_of h fun σ x y H Q L G o r1 r2 c => ⟨i, j, rep_int.mp r1, rep_int.mp r2, hc, CO.now (W := W) (σ := σ) c o (rep_int.mpr rfl)⟩
theorem oo_intB {f : Value → Value → Sem Value} {g : Int → Int → Bool} (h : OpR X f (rI0 fun i j => .bl (g i j))) : OpO X W f (.int i) (.int j) μ (.ret (.bl (g i j)) μ) :=
  opO_of h fun σ x y H Q L G o r1 r2 c => ⟨i, j, rep_int.mp r1, rep_int.mp r2, CO.now (W := W) (σ := σ) c o (rep_bl.mpr rfl)⟩
theorem oo_add : OpO X W (binaryOp .Add) (.int i) (.int j) μ (.ret (.int (i + j)) μ) := oo_int op_add
theorem oo_sub : OpO X W (binaryOp .Sub) (.int i) (.int j) μ (.ret (.int (i - j)) μ) := oo_int op_sub
theorem oo_mul (h : CMulW i j) : OpO X W (binaryOp .Mult) (.int i) (.int j) μ (.ret (.int (i * j)) μ) := oo_intC op_mulW h
theorem oo_mulS (h : CMul i j) : OpO X W (binaryOp .Mult) (.int i) (.int j) μ (.ret (.int (i * j)) μ) := oo_intC op_mul h
theorem oo_fdiv (h : CDivW i j) : OpO X W (binaryOp .FloorDiv) (.int i) (.int j) μ (.ret (.int (i / j)) μ) := oo_intC op_fdivW h
theorem oo_fdivS (h : CDiv i j) : OpO X W (binaryOp .FloorDiv) (.int i) (.int j) μ (.ret (.int (i / j)) μ) := oo_intC op_fdiv h
theorem oo_mod (h : 0 < j) : OpO X W (binaryOp .Mod) (.int i) (.int j) μ (.ret (.int (i % j)) μ) := oo_intC op_mod h
theorem oo_pow (h : CPow i j) : OpO X W (binaryOp .Pow) (.int i) (.int j) μ (.ret (.int (i ^ j.toNat)) μ) := oo_intC op_pow h
theorem oc_lt : OpO X W (compareOp .Lt) (.int i) (.int j) μ (.ret (.bl (decide (i < j))) μ) := oo_intB op_lt
theorem oc_le : OpO X W (compareOp .LtE) (.int i) (.int j) μ (.ret (.bl (decide (i ≤ j))) μ) := oo_intB op_le
theorem oc_gt : OpO X W (compareOp .Gt) (.int i) (.int j) μ (.ret (.bl (decide (j < i))) μ) := oo_intB op_gt
theorem oc_ge : OpO X W (compareOp .GtE) (.int i) (.int j) μ (.ret (.bl (decide (j ≤ i))) μ) := oo_intB op_ge
theorem ou_neg : UnO X W (unaryOp .USub) (.int i) μ (.ret (.int (-i)) μ) := unO_of un_neg fun σ x H Q L G o r c => ⟨i, rep_int.mp r, CO.now (W := W) (σ := σ) c o (rep_int.mpr rfl)⟩
/-- == of scalars: as the layer's rule has it -/
def Sc : D → Option V
  | .non => some .non
  | .bl b => some (.bl b)
  | .int i => some (.int i)
  | .str x => some (.str x)
  | _ => none
theorem Sc.rep {K L G} {d : D} {v u : V} (h : Sc d = some v) (r : Rep K L G d u) : u = v := by
  cases d <;> simp only [Sc, Option.some.injEq] at h <;> first | cases h | skip
  · exact rep_non.mp r
  · exact (rep_bl.mp r)
  · exact (rep_int.mp r)
  · exact (rep_str.mp r)
theorem oc_eqS {da db : D} {v u : V} (h1 : Sc da = some v) (h2 : Sc db = some u) (hs : scal v u = true := by rfl) : OpO X W (compareOp .Eq) da db μ (.ret (.bl (decide (v = u))) μ) :=
  opO_of op_eq fun σ x y H Q L G o r1 r2 c => by
    obtain rfl := Sc.rep h1 r1
    obtain rfl := Sc.rep h2 r2
    exact ⟨hs, CO.now (W := W) (σ := σ) c o (rep_bl.mpr rfl)⟩
theorem oc_neS {da db : D} {v u : V} (h1 : Sc da = some v) (h2 : Sc db = some u) (hs : scal v u = true := by rfl) : OpO X W (compareOp .NotEq) da db μ (.ret (.bl (!decide (v = u))) μ) :=
  opO_of op_ne fun σ x y H Q L G o r1 r2 c => by
    obtain rfl := Sc.rep h1 r1
    obtain rfl := Sc.rep h2 r2
    exact ⟨hs, CO.now (W := W) (σ := σ) c o (rep_bl.mpr rfl)⟩
theorem dec_int_eq (i j : Int) : decide (V.int i = V.int j) = decide (i = j) := by
  by_cases h : i = j
  · subst h; simp
  · rw [decide_eq_false h, decide_eq_false (fun z => h (by cases z; rfl))]
theorem dec_str_eq (i j : Str) : decide (V.str i = V.str j) = decide (i = j) := by
  by_cases h : i = j
  · subst h; simp
  · rw [decide_eq_false h, decide_eq_false (fun z => h (by cases z; rfl))]
theorem dec_bl_eq (i j : Bool) : decide (V.bl i = V.bl j) = decide (i = j) := by
  by_cases h : i = j
  · subst h; simp
  · rw [decide_eq_false h, decide_eq_false (fun z => h (by cases z; rfl))]
theorem oc_eq : OpO X W (compareOp .Eq) (.int i) (.int j) μ (.ret (.bl (decide (i = j))) μ) := by
  rw [← dec_int_eq]
  exact oc_eqS rfl rfl
theorem oc_ne : OpO X W (compareOp .NotEq) (.int i) (.int j) μ (.ret (.bl (!decide (i = j))) μ) := by
  rw [← dec_int_eq]
  exact oc_neS rfl rfl
theorem oc_eqT : OpO X W (compareOp .Eq) (.str x) (.str y) μ (.ret (.bl (decide (x = y))) μ) := by
  rw [← dec_str_eq]
  exact oc_eqS rfl rfl
theorem oc_neT : OpO X W (compareOp .NotEq) (.str x) (.str y) μ (.ret (.bl (!decide (x = y))) μ) := by
  rw [← dec_str_eq]
  exact oc_neS rfl rfl
theorem oc_eqB : OpO X W (compareOp .Eq) (.bl a) (.bl b) μ (.ret (.bl (decide (a = b))) μ) := by
  rw [← dec_bl_eq]
  exact oc_eqS rfl rfl
theorem oc_neB : OpO X W (compareOp .NotEq) (.bl a) (.bl b) μ (.ret (.bl (!decide (a = b))) μ) := by
  rw [← dec_bl_eq]
  exact oc_neS rfl rfl
/-- is None -/
def D.isN : D → Bool
  | .non => true
  | _ => false
theorem Rep.isN {K L G} {d : D} {v : V} (r : Rep K L G d v) : decide (v = .non) = d.isN := by
  cases d with
  | non => rw [rep_non.mp r]; rfl
  | bl b => rw [rep_bl.mp r]; rfl
  | int b => rw [rep_int.mp r]; rfl
  | str b => rw [rep_str.mp r]; rfl
  | ref b => rw [rep_ref.mp r]; rfl
  | ty b => rw [rep_ty.mp r]; rfl
  | loc n => obtain ⟨a, _, e⟩ := rep_loc.mp r; rw [e]; rfl
  | tup n => obtain ⟨a, _, e, _⟩ := rep_tup.mp r; rw [e]; rfl
  | lst n => obtain ⟨a, _, e, _⟩ := rep_lst.mp r; rw [e]; rfl
  | scr n => obtain ⟨a, _, e, _⟩ := rep_scr.mp r; rw [e]; rfl
  | obj C n f => obtain ⟨a, _, _, e, _⟩ := rep_obj.mp r; rw [e]; rfl
  | err C n f => obtain ⟨a, _, _, e, _⟩ := rep_err.mp r; rw [e]; rfl
  | exn a dd n f => obtain ⟨_, e, _⟩ := rep_exn.mp r; rw [e]; rfl
theorem oc_is {d : D} : OpO X W (compareOp .Is) d .non μ (.ret (.bl d.isN) μ) :=
  opO_of op_isN fun σ x y H Q L G o r1 r2 c => ⟨rep_non.mp r2, by rw [r1.isN]; exact CO.now (W := W) (σ := σ) c o (rep_bl.mpr rfl)⟩
theorem oc_isNot {d : D} : OpO X W (compareOp .IsNot) d .non μ (.ret (.bl (!d.isN)) μ) :=
  opO_of op_notN fun σ x y H Q L G o r1 r2 c => ⟨rep_non.mp r2, by rw [r1.isN]; exact CO.now (W := W) (σ := σ) c o (rep_bl.mpr rfl)⟩
theorem oo_cat (h : x.length + y.length ≤ sizeLine) : OpO X W (binaryOp .Add) (.str x) (.str y) μ (.ret (.str (x ++ y)) μ) :=
  opO_of op_add_str fun σ u v H Q L G o r1 r2 c => ⟨x, y, rep_str.mp r1, rep_str.mp r2, h, CO.now (W := W) (σ := σ) c o (rep_str.mpr rfl)⟩
end

/-! ### calls of built-ins by name -/
section
variable {X : Cx} {W : WX} {μ μ1 : List M} {ρ : Env'} {ds : List D} {o : FO} {e : Expr} {es : List Expr} {x : Str} {p pos : Pos} {id T : String} {i j : Int}
theorem ev_blt (ha : PA X (e :: es) (tVA X.K ρ μ ds μ1)) (hf : CallO X W (fun us => call (.builtin id) us) ds μ1 o) (hm : X.mg x = none) (hv : bootBuiltins x = some (.builtin id)) (hg : Gl X x := by rfl) (hn : x ≠ "__name__" := by decide) (hdb : (x == ("__debug__" : Str)) = false := by decide)
    (he : starEach (e :: es) X.env = (false, eval e X.env) :: starEach es X.env := by rfl) (hpl : (backTo pos (starEach es X.env)).any (·.1) = false := by rfl) : PE X (.Call (.Name x p) (e :: es) [] pos) (tO W X.K ρ μ o) :=
  ⟨fun pins s σ H Q I h => wpAny_Call_Name_kw (ld_blt I hg hm hv (PyProof.Rows.callWith_builtin1 (thn (argsO ha hf I h pos) fun us s1 h1 => h1.2) he hpl) hn hdb)⟩
theorem Reps.one {K L G} {d : D} {vs : List V} (r : Reps K L G [d] vs) : ∃ v, vs = [v] ∧ Rep K L G d v := by
  obtain ⟨v, q, rfl, r1, r2⟩ := r.inv_cons
  rw [r2.inv_nil]
  exact ⟨v, rfl, r1⟩
theorem Reps.two {K L G} {d c : D} {vs : List V} (r : Reps K L G [d, c] vs) : ∃ v u, vs = [v, u] ∧ Rep K L G d v ∧ Rep K L G c u := by
  obtain ⟨v, q, rfl, r1, r2⟩ := r.inv_cons
  obtain ⟨u, rfl, r3⟩ := r2.one
  exact ⟨v, u, rfl, r1, r3⟩
theorem cb_abs : CallO X W (fun us => call (.builtin "abs") us) [.int i] μ (.ret (.int (if i < 0 then -i else i)) μ) :=
  callO_of call_abs fun σ xs H Q L G o r c => by
    obtain ⟨v, rfl, r1⟩ := r.one
    exact ⟨i, by rw [rep_int.mp r1], CO.now (W := W) (σ := σ) c o (rep_int.mpr rfl)⟩
theorem cb_max (hc : X.calm = true) : CallO X W (fun us => call (.builtin "max") us) [.int i, .int j] μ (.ret (.int (if j > i then j else i)) μ) :=
  callO_of (call_max2 hc) fun σ xs H Q L G o r c => by
    obtain ⟨v, u, rfl, r1, r2⟩ := r.two
    exact ⟨i, j, by rw [rep_int.mp r1, rep_int.mp r2], CO.now (W := W) (σ := σ) c o (rep_int.mpr rfl)⟩
theorem cb_min (hc : X.calm = true) : CallO X W (fun us => call (.builtin "min") us) [.int i, .int j] μ (.ret (.int (if j < i then j else i)) μ) :=
  callO_of (call_min2 hc) fun σ xs H Q L G o r c => by
    obtain ⟨v, u, rfl, r1, r2⟩ := r.two
    exact ⟨i, j, by rw [rep_int.mp r1, rep_int.mp r2], CO.now (W := W) (σ := σ) c o (rep_int.mpr rfl)⟩
theorem ct_intB {b : Bool} : CallO X W (fun us => call (.type "int") us) [.bl b] μ (.ret (.int (if b then 1 else 0)) μ) :=
  callO_of call_int1 fun σ xs H Q L G o r c => by
    obtain ⟨v, rfl, r1⟩ := r.one
    exact .inr ⟨b, by rw [rep_bl.mp r1], CO.now (W := W) (σ := σ) c o (rep_int.mpr rfl)⟩
theorem ct_boolB {b : Bool} : CallO X W (fun us => call (.type "bool") us) [.bl b] μ (.ret (.bl b) μ) :=
  callO_of call_bool1 fun σ xs H Q L G o r c => by
    obtain ⟨v, rfl, r1⟩ := r.one
    exact .inr ⟨b, by rw [rep_bl.mp r1], CO.now (W := W) (σ := σ) c o (rep_bl.mpr rfl)⟩
theorem ct_strI (h : i.natAbs.log2 < 1920) : CallO X W (fun us => call (.type "str") us) [.int i] μ (.ret (.str (toString i)) μ) :=
  callO_of call_str_int fun σ xs H Q L G o r c => by
    obtain ⟨v, rfl, r1⟩ := r.one
    exact ⟨i, by rw [rep_int.mp r1], h, CO.now (W := W) (σ := σ) c o (rep_str.mpr rfl)⟩
theorem cb_len {ds : List D} (d : D) (h : d = .tup ds ∨ d = .lst ds ∨ d = .scr ds) : CallO X W (fun us => call (.builtin "len") us) [d] μ (.ret (.int ds.length) μ) :=
  callO_of call_len_seq fun σ xs H Q L G o r c => by
    obtain ⟨v, rfl, r1⟩ := r.one
    rcases h with rfl | rfl | rfl
    · obtain ⟨a, vs, e, q, rr⟩ := rep_tup.mp r1
      exact ⟨a, vs, by rw [e], .inr (Same.sqT o.sub q), by rw [rr.length]; exact CO.now (W := W) (σ := σ) c o (rep_int.mpr rfl)⟩
    · obtain ⟨a, vs, e, q, rr⟩ := rep_lst.mp r1
      exact ⟨a, vs, by rw [e], .inl (SqL.of (o.sub _ _ q)), by rw [rr.length]; exact CO.now (W := W) (σ := σ) c o (rep_int.mpr rfl)⟩
    · obtain ⟨a, vs, e, q, rr⟩ := rep_scr.mp r1
      exact ⟨a, vs, by rw [e], .inl (Same.sqL o.sub q), by rw [rr.length]; exact CO.now (W := W) (σ := σ) c o (rep_int.mpr rfl)⟩
theorem cb_lenL {ds : List D} {n : Nat} (h : μ[n]? = some (.lst ds)) : CallO X W (fun us => call (.builtin "len") us) [.loc n] μ (.ret (.int ds.length) μ) :=
  callO_of call_len_seq fun σ xs H Q L G o r c => by
    obtain ⟨v, rfl, r1⟩ := r.one
    obtain ⟨a, ea, e⟩ := rep_loc.mp r1
    obtain ⟨vs, eh, rr⟩ := o.at_ n a _ ea h
    exact ⟨a, vs, by rw [e], .inl (SqL.of eh), by rw [rr.length]; exact CO.now (W := W) (σ := σ) c o (rep_int.mpr rfl)⟩
theorem cb_lenS {y : Str} (h : y.length ≤ sizeLine) : CallO X W (fun us => call (.builtin "len") us) [.str y] μ (.ret (.int y.length) μ) :=
  callO_of call_len fun σ xs H Q L G o r c => by
    obtain ⟨v, rfl, r1⟩ := r.one
    exact ⟨.str y, y.length, by rw [rep_str.mp r1], ⟨h, rfl⟩, CO.now (W := W) (σ := σ) c o (rep_int.mpr rfl)⟩
/-- any, all of a list of bools -/
theorem bls_rep {K L G} : ∀ {bs : List Bool} {vs : List V}, Reps K L G (bs.map D.bl) vs → vs = bs.map V.bl
  | [], vs, r => r.inv_nil
  | b :: bs, vs, r => by
    obtain ⟨v, q, rfl, r1, r2⟩ := r.inv_cons
    rw [rep_bl.mp r1, bls_rep r2]
    rfl
theorem ints_reps {K L G} : ∀ (bs : List Int), Reps K L G (bs.map D.int) (bs.map V.int)
  | [] => Reps.nil
  | b :: bs => Reps.cons (rep_int.mpr rfl) (ints_reps bs)
theorem cb_all (hc : X.calm = true) {bs : List Bool} : CallO X W (fun us => call (.builtin "all") us) [.lst (bs.map D.bl)] μ (.ret (.bl (bs.all _root_.id)) μ) :=
  callO_of (cr_all hc) fun σ xs H Q L G o r c => by
    obtain ⟨v, rfl, r1⟩ := r.one
    obtain ⟨a, vs, e, q, rr⟩ := rep_lst.mp r1
    rw [bls_rep rr] at q
    exact ⟨a, bs, by rw [e], SqL.of (o.sub _ _ q), CO.now (W := W) (σ := σ) c o (rep_bl.mpr rfl)⟩
end

/-! ### displays, items -/
section
variable {X : Cx} {W : WX} {μ μ1 μ2 : List M} {ρ : Env'} {ds : List D} {d : D} {o : FO} {a b e : Expr} {es : List Expr} {pos : Pos} {i : Int}
/-- x[i] by values -/
theorem atI_rep {K L G} {ds : List D} {vs : List V} (r : Reps K L G ds vs) (h : atI ds i = some d) : ∃ v, atI vs i = some v ∧ Rep K L G d v := by
  unfold atI at h ⊢
  rw [r.length]
  cases e : ixN ds.length i with
  | none => rw [e] at h; cases h
  | some j =>
    rw [e] at h
    simp only [Option.bind_some] at h ⊢
    exact r.get h
/-- what can be indexed -/
def Ixd (μ : List M) (d : D) (ds : List D) : Prop := d = .tup ds ∨ d = .lst ds ∨ d = .scr ds ∨ ∃ n, d = .loc n ∧ μ[n]? = some (.lst ds)
end

/-! ### walks -/
section
variable {X : Cx} {W : WX} {μ μ1 μ2 : List M} {ρ : Env'} {ds : List D} {d : D} {e tg : Expr} {pos p : Pos} {i j : Int}
theorem jok_lst {K : PySem.W.Frag} {L : List Addr} {G : Hp} {a : Addr} {vs : List V} (q : SqL K G a vs) (r : Reps K L G ds vs) : JOk K (Itl K a) L G ds where
  go := fun L2 G2 H2 μ2 i d pr sg o e => by
    have q2 : SqL K H2 a vs := Same.sqL (sg.trans o.sub) q
    obtain ⟨v, ev, rv⟩ := r.get e
    exact ⟨⟨vs, v, q2, ev⟩, fun x H3 ⟨e3, y⟩ => by
      subst e3
      have := y vs q2
      rw [ev] at this
      cases this
      exact ⟨G2, .refl _ _ _, o, rv.mono pr sg⟩⟩
  stop := fun L2 G2 H2 μ2 pr sg o => ⟨vs, Same.sqL (sg.trans o.sub) q, by rw [r.length]; exact Nat.le_refl _⟩
def rangeD (lo : Int) (n : Nat) : List D := (List.range n).map fun (k : Nat) => D.int (lo + (k : Int))
theorem jok_rng {K : PySem.W.Frag} {L : List Addr} {G : Hp} {lo : Int} {n : Nat} : JOk K (Itr lo n) L G (rangeD lo n) where
  go := fun L2 G2 H2 μ2 i d pr sg o e => by
    have hi : i < n := by
      have := (List.getElem?_eq_some_iff.mp e).1
      simpa [rangeD] using this
    have ed : d = D.int (lo + (i : Int)) := by
      unfold rangeD at e
      rw [List.getElem?_map, List.getElem?_range hi] at e
      simpa using e.symm
    exact ⟨hi, fun x H3 ⟨e3, y⟩ => by
      subst e3 y ed
      exact ⟨G2, .refl _ _ _, o, rep_int.mpr rfl⟩⟩
  stop := fun L2 G2 H2 μ2 pr sg o => by
    show n ≤ (rangeD lo n).length
    simp [rangeD]
end
end PM

set_option Elab.async false
set_option linter.all false
set_option maxRecDepth 100000
set_option maxHeartbeats 2000000
namespace PM
open PySem L2

/-! ### errors of the program's own: their __init__ -/
/-- what is asked of the class above, whose __init__ is called by name -/
structure UpC (K : PySem.W.Frag) (B : Addr) (id : String) : Prop where
  rd : PySem.W.readsIn K B (.type "type") = true
  ga : PySem.W.specialIn K (.ref B) "__getattribute__" = some (some (.builtin "type.__getattribute__"))
  fi : PySem.W.findCls K (.ref B) (.type "type") "__init__" = some (.val (.builtin id))
section
variable {X : Cx} {o e : Expr} {es : List Expr} {to te : TE} {ta : TA} {x : Str} {p p' p1 p2 pos : Pos} {B : Addr}
theorem pe_upinit {pl : Sem Bool} (hg : Gl X x) (hm : X.mg x = some (.ref B)) (u : UpC X.K B "ValueError.__init__") (ha : PA X (e :: es) ta) (hd : (x == ("__debug__" : Str)) = false := by decide)
    (hc : eval (.Call (.Attribute (.Name x p1) "__init__" p2) (e :: es) [] pos) X.env = (do
      let ov ← eval (.Name x p1) X.env
      standAt p2.atName
      let (f, first) ← holding [ov] (getMethod ov "__init__" pl)
      callWith pos f first (backTo pos (starEach (e :: es) X.env)) (backToKw pos (keywordEach [] X.env))) := by rfl)
    (he : starEach (e :: es) X.env = (false, eval e X.env) :: starEach es X.env := by rfl) (hpl : (backTo pos (starEach es X.env)).any (·.1) = false := by rfl) :
    PE X (.Call (.Attribute (.Name x p1) "__init__" p2) (e :: es) [] pos) (tVeI X.K ta) := by
  refine ⟨fun pins s σ H Q I h => ?_⟩
  refine PySem.W.methodCall_KW (ld_glob I hg hm ?_ hd) hc
  refine PySem.W.method_cls I.kIn u.ga (PySem.W.cls_value I.kIn u.rd u.fi rfl ?_)
  show wpAny _ _ (callWith pos (Value.builtin "ValueError.__init__") [] (backTo pos (starEach (e :: es) X.env)) []) _ _ _
  refine PyProof.Rows.callWith_method1 (thn (ha.run pos pins _ σ H _ (I.tok _) h) fun us s1 ⟨vs, H1, I1, r1, a, C, ws, ev, hl, T, ea, q⟩ => ?_) he hpl
  subst ev
  cases r1 with
  | @cons _ u0 _ ur ra rw' =>
    obtain rfl : u0 = Value.ref a := ra
    have hlen : ur.length ≤ sizeLine := by
      rw [← Paired.length rw', sizeLine_eq]
      omega
    exact oinit_ok T I1 ea hlen fun s' J => ⟨.non, H1, J, rfl, q⟩
end
/-- the promise of an __init__ that keeps its arguments in fields of those names: none, one, two -/
def spI1 (C : Addr) (f : Str) : Sp := fun vs H Q _ => ∃ (a : Addr) (v : V), vs = [.ref a, v] ∧ H a = some (exo a C none) ∧ ∀ dx, H dx = none → dx ≠ a → Q .non (upd (upd H dx (exd dx [(f, v)])) a (exo a C (some dx)))
def spI2 (C : Addr) (f g : Str) : Sp := fun vs H Q _ => ∃ (a : Addr) (v u : V), vs = [.ref a, v, u] ∧ H a = some (exo a C none) ∧ ∀ dx, H dx = none → dx ≠ a → Q .non (upd (upd (upd H dx (exd dx [(f, v)])) a (exo a C (some dx))) dx (exd dx [(g, u), (f, v)]))
section
variable {P : Program} {w : World} {K : PySem.W.Frag} {mg : Str → Option Value} {base : Heap}
/-- class E(B): def __init__(self, f): B.__init__(self); self.f = f; hb: pss_cons (ps_expr (pe_upinit rfl hm u (pa_cons (pv 0) pa_nil))) (pss_one (ps_ost (pv 0) (pv 1))) -/
theorem fn_I1 {xq qual : Str} {st : Stmt} {fI C : Addr} {fd : FuncData} {f : Str} (F : Fun K xq qual st fI fd) (S : FnScope ["self", f] ["self", f] (defScope st)) (T : OexC K C) (hno : PySem.W.findIn K (.ref C) f = some none)
    (hb : ∀ cdv A outer s H E, PSs (cxOf CX0 P w K mg base ["self", f] qual (defScope st) fI cdv A outer s H E).nox (defBody st) (tSeq (tDrop (tVeI K (tCons (tVar 0) tNil))) (tOst K f (tVar 0) (tVar 1)))) : FnOk P w K mg base CX0 1 fI fd ["self", f] (spI1 C f) := by
  refine F.ok S (fun vs H Q E h => ?_) (fun cdv A outer s H vs Q E hr h => ⟨_, hb cdv A outer s H E, ?_⟩)
  · obtain ⟨a, v, rfl, _⟩ := h
    rfl
  · obtain ⟨a, v, rfl, ha, k⟩ := h
    exact ⟨_, rfl, a, C, [], rfl, Nat.zero_le _, T, ha, _, rfl, _, rfl, a, C, rfl, T, hno, .inl ⟨ha, fun dx h1 h2 => k dx h1 h2⟩⟩
end
/-- an error class as its makers need it -/
structure ErrC (P : Program) (w : World) (K : PySem.W.Frag) (mg : Str → Option Value) (base : Heap) (C : Addr) (ns : List Str) : Prop where
  oex : OexC K C
  one : ∃ fI fd ps sp, PySem.W.findIn K (.ref C) "__init__" = some (some (.ref fI)) ∧ PySem.W.typeIn K (.ref fI) = some (.type "function") ∧ FnOk P w K mg base CX0 1 fI fd ps sp ∧ Binds K fd ps [] ∧
    ((∃ f, ns = [f] ∧ sp = spI1 C f) ∨ ∃ f g, ns = [f, g] ∧ f ≠ g ∧ sp = spI2 C f g)
section
variable {X : Cx} {W : WX} {k : Nat} {C : Addr} {ns : List Str} {ds : List D} {μ μ1 : List M} {ρ : Env'} {e : Expr} {es : List Expr} {x : Str} {p pos pos2 : Pos}
theorem xd_swap {f g : Str} {v u : V} (h : f ≠ g) : ∀ y : Str, List.lookup y [(g, u), (f, v)] = List.lookup y [(f, v), (g, u)] := fun y => by
  simp only [List.lookup]
  by_cases e1 : y = f
  · subst e1
    have : (y == g) = false := by simpa using h
    simp [this]
  · by_cases e2 : y = g
    · subst e2
      have : (y == f) = false := by simpa using e1
      simp [this]
    · have h1 : (y == f) = false := by simpa using e1
      have h2 : (y == g) = false := by simpa using e2
      simp [h1, h2]
/-- an exception's dict told another way -/
theorem xd_same {pins : List (Addr × Obj)} {σ : St} {H : Hp} {s : Shared} {d : Addr} {fs fs' : List (Str × V)} (I : Inv X pins σ H s) (e : H d = some (.xd fs)) (h : ∀ y, fs.lookup y = fs'.lookup y) : Inv X pins σ (upd H d (.xd fs')) s := by
  have eq : ∀ b o, upd H d (.xd fs') b = some o → (b = d ∧ o = .xd fs') ∨ (b ≠ d ∧ H b = some o) := fun b o q => by
    by_cases hb : b = d
    · subst hb
      rw [upd_same] at q
      exact .inl ⟨rfl, (Option.some.inj q).symm⟩
    · rw [upd_ne hb] at q
      exact .inr ⟨hb, q⟩
  have nd : ∀ {b : Addr} {o : HO}, H b = some o → o ≠ .xd fs → b ≠ d := fun {b o} q n z => by
    rw [z, e] at q
    exact n (Option.some.inj q).symm
  refine I.un (h' := s.heap) (t' := s.toks) ⟨fun b o q n _ _ => q, fun b o q n _ _ => ⟨o.slots, q⟩, fun b o q n _ => ?_, fun b o q _ => ⟨o, q⟩, fun b xs q => ?_, fun b o u q => ?_, fun b ps q => ⟨#[], ?_⟩⟩ fun b o q => ?_
  · rw [upd_ne (fun z => by rw [z, e] at n; cases n)]
    exact n
  · rw [upd_ne (nd q (by intro z; cases z))]
    exact q
  · rw [upd_ne (nd q (by intro z; cases z))]
    exact q
  · rw [upd_ne (nd q (by intro z; cases z)), q]
    simp
  · rcases eq b o q with ⟨rfl, rfl⟩ | ⟨hb, q⟩
    · obtain ⟨mA, hn, r⟩ := (show ObjOk X.prog X.w H s.heap b (.xd fs) from I.hok b _ e)
      exact ⟨mA, hn, fun y => by rw [← h y]; exact r y⟩
    · exact (I.hok b o q).stay (fun _ _ _ z => z) (fun c z => by rw [upd_ne (nd z (by intro y; cases y))]; exact z) fun c xs z => by rw [upd_ne (nd z (by intro y; cases y))]; exact z
/-- raise C(e, ..) -/
theorem es_raise (g : Gd X W k) (c : ErrC X.prog X.w X.K X.mg X.base C ns) (hm : X.mg x = some (.ref C)) (ha : PA X (e :: es) (tVA X.K ρ μ ds μ1)) (hn : ns.length = ds.length) (hk : 2 ≤ k := by decide) (hg : Gl X x := by rfl) (hdb : (x == ("__debug__" : Str)) = false := by decide)
    (he : starEach (e :: es) X.env = (false, eval e X.env) :: starEach es X.env := by rfl) (hpl : (backTo pos (starEach es X.env)).any (·.1) = false := by rfl) :
    PS X (.Raise (some (.Call (.Name x p) (e :: es) [] pos)) none pos2) (tS W X.K ρ μ (.exc C ns ds ρ μ1)) := by
  obtain ⟨fI, fd, ps, sp, hi, ht, F, bd, h⟩ := c.one
  have mk : PMk X (.Call (.Name x p) (e :: es) [] pos) (fun σ H Q => tMkO C sp [] (tVA X.K ρ μ ds μ1) σ H Q) := pmk_oex c.oex hi ht F (g.hr.mono hk) bd .nil pass0 hg hm ha hdb he hpl
  rcases h with ⟨f, rfl, rfl⟩ | ⟨f, f2, rfl, hne, rfl⟩
  · refine ps_of (ps_raise g.calm g.tk mk) fun D σ H ⟨L, G, n, co⟩ => ⟨L, G, n, fun vs L1 G1 H1 s1 o1 r1 => ?_⟩
    match ds, hn with
    | [d], _ =>
      obtain ⟨v, rfl, rv⟩ := r1.one
      refine ⟨by show 1 ≤ 1000; decide, fun a hna => ⟨a, v, rfl, upd_same, fun dx hdx hne => ⟨rfl, dx, [(f, v)], upd_same, by rw [upd_ne hne, upd_same], ?_, ?_⟩⟩⟩
      · rw [upd_ne hne] at hdx
        exact hdx
      · have hdx' : H1 dx = none := by rw [upd_ne hne] at hdx; exact hdx
        have eH : upd (del (upd (upd (upd H1 a (exo a C none)) dx (exd dx [(f, v)])) a (exo a C (some dx))) a) dx (.xd [(f, v)]) = upd H1 dx (.xd [(f, v)]) := by
          funext b
          by_cases hb : b = dx
          · rw [hb, upd_same, upd_same]
          · rw [upd_ne hb, upd_ne hb]
            by_cases hba : b = a
            · rw [hba, del_same, hna]
            · rw [del_ne hba, upd_ne hba, upd_ne hb, upd_ne hba]
        rw [eH]
        obtain ⟨o2, s2⟩ := o1.new (o := .xd [(f, v)]) hdx'
        exact co σ (some dx) L1 _ _ (s1.trans s2) ⟨o2, (n.env.step s1).step s2⟩ ⟨rfl, .inr ⟨dx, [v], rfl, upd_same, Reps.cons (rv.step s2) Reps.nil⟩⟩
  · refine ps_of (ps_raise g.calm g.tk (t := fun σ H Q => tVA X.K ρ μ ds μ1 σ H fun vs H1 => ∃ v u, vs = [v, u] ∧ ∀ dx, H1 dx = none → Q (.ref C) (some dx) (upd H1 dx (.xd [(f, v), (f2, u)]))) ?_) fun D σ H ⟨L, G, n, co⟩ => ⟨L, G, n, fun vs L1 G1 H1 s1 o1 r1 => ?_⟩
    · intro pins s σ H Q I h
      refine thn (mk pins s σ H (fun c d H' => c = .ref C ∧ ∃ dx v u H1, d = some dx ∧ H1 dx = none ∧ H' = upd H1 dx (.xd [(f2, u), (f, v)]) ∧ Q (.ref C) (some dx) (upd H1 dx (.xd [(f, v), (f2, u)]))) I ?_) fun u s' hu => ?_
      · obtain ⟨L, G, n, co⟩ := h
        refine ⟨L, G, n, fun vs L1 G1 H1 s1 o1 r1 => ?_⟩
        obtain ⟨v, u, rfl, q⟩ := co vs L1 G1 H1 s1 o1 r1
        refine ⟨by show 2 ≤ 1000; decide, fun a hna => ⟨a, v, u, rfl, upd_same, fun dx hdx hne => ⟨rfl, dx, [(f2, u), (f, v)], ?_, upd_same, ?_, rfl, dx, v, u, H1, rfl, ?_, ?_, ?_⟩⟩⟩
        · rw [upd_ne (Ne.symm hne), upd_same]
        · rw [upd_ne hne] at hdx; exact hdx
        · rw [upd_ne hne] at hdx; exact hdx
        · funext b
          by_cases hb : b = dx
          · rw [hb, upd_same, upd_same]
          · rw [upd_ne hb, upd_ne hb]
            by_cases hba : b = a
            · rw [hba, del_same, hna]
            · rw [del_ne hba, upd_ne hb, upd_ne hba, upd_ne hb, upd_ne hba]
        · exact q dx (by rw [upd_ne hne] at hdx; exact hdx)
      · obtain ⟨a, oe, fv, sI, H', cls, d, e1, J, k1, k2, k3, k4, k5, k6, k7, k8, k9, k10, rfl, dx, v, u', H1, rfl, hd1, rfl, q⟩ := hu
        refine ⟨a, oe, fv, sI, _, .ref C, some dx, e1, (xd_same J upd_same (xd_swap (Ne.symm (Ne.symm hne)))), k1, k2, k3, k4, k5, k6, ?_, k8, k9, k10, ?_⟩
        · rw [upd_upd]
          by_cases ha : a = dx
          · subst ha
            rw [upd_same] at k7
            cases k7
          · rw [upd_ne ha] at k7 ⊢
            exact k7
        · rw [upd_upd]
          exact q
    · match ds, hn with
      | [d1, d2], _ =>
        obtain ⟨v, u, rfl, rv, ru⟩ := r1.two
        refine ⟨v, u, rfl, fun dx hdx => ?_⟩
        obtain ⟨o2, s2⟩ := o1.new (o := .xd [(f, v), (f2, u)]) hdx
        exact co σ (some dx) L1 _ _ (s1.trans s2) ⟨o2, (n.env.step s1).step s2⟩ ⟨rfl, .inr ⟨dx, [v, u], rfl, upd_same, Reps.cons (rv.step s2) (Reps.cons (ru.step s2) Reps.nil)⟩⟩
end

/-! ### try -/
section
variable {X : Cx} {W : WX} {k i : Nat} {C C' : Addr} {ns : List Str} {ds : List D} {μ μ1 μ2 : List M} {ρ ρ1 ρ2 : Env'} {x n : Str} {np pos pos' : Pos} {body suite : List Stmt} {b₀ : Stmt} {q : Out}
/-- what follows a suite: the name is gone -/
def Out.gone (i : Nat) : Out → Out
  | .next ρ μ => .next (ρ.set i none) μ
  | .brk ρ μ => .brk (ρ.set i none) μ
  | .cont ρ μ => .cont (ρ.set i none) μ
  | q => q
theorem RepS.unset {K : PySem.W.Frag} {L : List Addr} {G : Hp} {ρ : Env'} {σ : St} (h : RepS K L G ρ σ) (i : Nat) : RepS K L G (ρ.set i none) (σ.set i none) := by
  refine ⟨by simpa using h.len, fun j e hj => ?_⟩
  by_cases hi : i = j
  · subst hi
    by_cases hl : i < ρ.length
    · rw [List.getElem?_set_self hl] at hj
      cases hj
    · rw [List.getElem?_eq_none (by simpa using hl)] at hj
      cases hj
  · rw [List.getElem?_set_ne hi] at hj ⊢
    exact h.at_ j e hj
end
end PM

set_option Elab.async false
set_option linter.all false
set_option maxRecDepth 100000
set_option maxHeartbeats 2000000
namespace PM
open PySem L2

/-! ### an own class -/
structure OwnC (K : PySem.W.Frag) (C : Addr) : Prop where
  cl : Cls K C
  ca : PySem.W.findIn K (.ref C) "__class__" = some (some (.builtin "object.__class__"))
  cg : PySem.W.specialIn K (.builtin "object.__class__") "__get__" = some (some (.builtin "getset_descriptor.__get__"))
  ct : PySem.W.takesIn K (.builtin "object.__class__") = some true
  mro : (PySem.W.clsIn K C).map (·.mro) = some [.ref C, .type "object"]
  ty : PySem.W.typeIn K (.ref C) = some (.type "type")
section
variable {K : PySem.W.Frag} {C : Addr}
theorem OwnC.cd (c : OwnC K C) : ∃ cd, PySem.W.clsIn K C = some cd ∧ cd.mro = [.ref C, .type "object"] := by
  have h := c.mro
  cases e : PySem.W.clsIn K C with
  | none => rw [e] at h; cases h
  | some cd =>
    rw [e] at h
    exact ⟨cd, rfl, Option.some.inj h⟩
theorem OwnC.mroIn (c : OwnC K C) (b : Value) : PySem.W.mroIn K C b = some ([Value.ref C, .type "object"].contains b) := by
  obtain ⟨cd, e, m⟩ := c.cd
  unfold PySem.W.mroIn
  rw [e, Option.bind_some, m]
  rfl
theorem OwnC.self (c : OwnC K C) : PySem.W.selfFirst K C = true := by
  obtain ⟨cd, e, m⟩ := c.cd
  unfold PySem.W.selfFirst
  rw [e, Option.any_some, m]
  simp
theorem OwnC.isCls (c : OwnC K C) : PySem.W.isClsIn K C = true := by
  obtain ⟨cd, e, m⟩ := c.cd
  unfold PySem.W.isClsIn
  rw [e]
  rfl
/-- a value's type -/
inductive TyD (K : PySem.W.Frag) : D → Value → Prop
  | non : TyD K .non (.type "NoneType")
  | bl {b : Bool} : TyD K (.bl b) (.type "bool")
  | int {i : Int} : TyD K (.int i) (.type "int")
  | str {x : Str} : TyD K (.str x) (.type "str")
  | tup {ds : List D} : TyD K (.tup ds) (.type "tuple")
  | lst {ds : List D} : TyD K (.lst ds) (.type "list")
  | obj {C : Addr} {ns : List Str} {ds : List D} : OwnC K C → TyD K (.obj C ns ds) (.ref C)
theorem TyD.x {L : List Addr} {G H : Hp} {μ : List M} {d : D} {t : Value} {v : V} (ok : Ok K L G H μ) (y : TyD K d t) (r : Rep K L G d v) : TyX K H v t := by
  cases y with
  | non => rw [rep_non.mp r]; exact .base .non
  | bl => rw [rep_bl.mp r]; exact .base (.bl _)
  | int => rw [rep_int.mp r]; exact .base (.int _)
  | str => rw [rep_str.mp r]; exact .base (.str _)
  | tup =>
    obtain ⟨a, vs, rfl, q, _⟩ := rep_tup.mp r
    rcases Same.sqT ok.sub q with (h | ⟨o, h⟩) | ⟨o, its, n, h, hc, _⟩
    · exact .base (.tup h)
    · exact .fTuple h
    · exact .kTuple h hc
  | lst =>
    obtain ⟨a, vs, rfl, q, _⟩ := rep_lst.mp r
    exact .base (.lst (ok.sub _ _ q))
  | obj c =>
    obtain ⟨a, dx, vs, rfl, q, _⟩ := rep_obj.mp r
    exact .base (.ins (ok.sub _ _ q) c.cl c.ca c.cg c.ct (by rw [c.mroIn]; simp))
/-- isinstance by types -/
theorem kit_own_self : PySem.W.kitOne K (.ref C) (.ref C) = some true := by
  unfold PySem.W.kitOne
  rw [if_pos (by simp)]
theorem kit_own_ty (c : OwnC K C) {T : String} (hm : PySem.W.kitMeta T = true) (hT : T ≠ "object") : PySem.W.kitOne K (.ref C) (.type T) = some false := by
  have e : ([Value.ref C, .type "object"].contains (.type T)) = false := by
    simp only [List.contains_cons, List.contains_nil, Bool.or_false, Bool.or_eq_false_iff, beq_eq_false_iff_ne]
    exact ⟨(by intro z; cases z), (by intro z; cases z; exact hT rfl)⟩
  unfold PySem.W.kitOne
  rw [if_neg (by simp)]
  show (if PySem.W.kitMeta T = true then PySem.W.subIn K (.ref C) (.type T) else none) = some false
  rw [if_pos hm]
  show PySem.W.mroIn K C (.type T) = some false
  rw [c.mroIn, e]
theorem kit_ty_own (c : OwnC K C) {T : String} {l : List Value} (hl : PySem.fastBuiltinMro T = some l) (hn : l.all (fun v => match v with | .type _ => true | _ => false) = true) : PySem.W.kitOne K (.type T) (.ref C) = some false := by
  have e : l.contains (.ref C) = false := by
    rw [List.contains_eq_any_beq, List.any_eq_false]
    intro v hv
    have := List.all_eq_true.mp hn v hv
    cases v <;> simp at this ⊢
  unfold PySem.W.kitOne
  rw [if_neg (by simp)]
  show (if ((PySem.W.clsIn K C).isSome && PySem.W.typeIn K (.ref C) == some (.type "type")) = true then PySem.W.subIn K (.type T) (.ref C) else none) = some false
  have hc : (PySem.W.clsIn K C).isSome = true := c.isCls
  rw [hc, c.ty, if_pos (by simp)]
  show (PySem.fastBuiltinMro T).map (·.contains (.ref C)) = some false
  rw [hl, Option.map_some, e]
/-- two own classes -/
theorem kit_own_own {C' : Addr} (c : OwnC K C) (c' : OwnC K C') (h : C ≠ C') : PySem.W.kitOne K (.ref C) (.ref C') = some false := by
  have e : ([Value.ref C, .type "object"].contains (.ref C')) = false := by
    simp only [List.contains_cons, List.contains_nil, Bool.or_false, Bool.or_eq_false_iff, beq_eq_false_iff_ne]
    exact ⟨(by intro z; cases z; exact h rfl), (by intro z; cases z)⟩
  unfold PySem.W.kitOne
  rw [if_neg (by simp [h])]
  show (if ((PySem.W.clsIn K C').isSome && PySem.W.typeIn K (.ref C') == some (.type "type")) = true then PySem.W.subIn K (.ref C) (.ref C') else none) = some false
  have hc : (PySem.W.clsIn K C').isSome = true := c'.isCls
  rw [hc, c'.ty, if_pos (by simp)]
  show PySem.W.mroIn K C (.ref C') = some false
  rw [c.mroIn, e]
end
/-- the class that is asked for -/
inductive ClD : D → Value → Prop
  | ty (n : String) : ClD (.ty n) (.type n)
  | own (C : Addr) : ClD (.ref C) (.ref C)
section
variable {X : Cx} {W : WX} {μ μ1 μ2 : List M} {ρ : Env'} {d c : D} {b : Bool} {t u : Value}
theorem cb_isi (y : TyD X.K d t) (k : ClD c u) (h : PySem.W.kitOne X.K t u = some b) : CallO X W (fun us => call (.builtin "isinstance") us) [d, c] μ (.ret (.bl b) μ) :=
  callO_of call_isi fun σ xs H Q L G o r co => by
    obtain ⟨v, w, rfl, r1, r2⟩ := r.two
    cases k with
    | ty n => exact ⟨v, .ty n, t, _, b, by rw [rep_ty.mp r2], .ty n, y.x o r1, h, CO.now (W := W) (σ := σ) co o (rep_bl.mpr rfl)⟩
    | own C => exact ⟨v, .ref C, t, _, b, by rw [rep_ref.mp r2], .own C, y.x o r1, h, CO.now (W := W) (σ := σ) co o (rep_bl.mpr rfl)⟩
end
theorem mro_int : PySem.fastBuiltinMro "int" = some [.type "int", .type "object"] := by decide +kernel
theorem mro_str : PySem.fastBuiltinMro "str" = some [.type "str", .type "object"] := by decide +kernel
theorem mro_bool : PySem.fastBuiltinMro "bool" = some [.type "bool", .type "int", .type "object"] := by decide +kernel
theorem mro_non : PySem.fastBuiltinMro "NoneType" = some [.type "NoneType", .type "object"] := by decide +kernel
theorem mro_tup : PySem.fastBuiltinMro "tuple" = some [.type "tuple", .type "object"] := by decide +kernel
theorem mro_lst : PySem.fastBuiltinMro "list" = some [.type "list", .type "object"] := by decide +kernel

/-! ### own operators -/
section
variable {X : Cx} {W : WX} {k j : Nat} {ps : List Str} {R : Rl} {f C : Addr} {fd : FuncData} {μ : List M} {o : FO} {da db : D} {ns : List Str} {fs : List D}
theorem back {pins : List (Addr × Obj)} {σ : St} {Q : VK} {u : Value} {s' : Shared} (h : EP X pins σ Q u s') : PySem.W.CmpBack (EP X pins σ Q) u s' := by
  obtain ⟨v, H', I, r, q⟩ := id h
  cases v with
  | non => cases r; exact h
  | bl b => cases r; exact h
  | int i => obtain ⟨t, rfl⟩ := r; exact h
  | str i => obtain ⟨t, rfl⟩ := r; exact h
  | byt i => obtain ⟨t, rfl⟩ := r; exact h
  | flt i => obtain ⟨t, rfl⟩ := r; exact h
  | ref a => cases r; exact h
  | ty n => cases r; exact h
/-- an instance as the library sees it -/
theorem inst_at {pins : List (Addr × Obj)} {σ : St} {H : Hp} {s : Shared} {a dx : Addr} {gs : List (Str × V)} (I : Inv X pins σ H s) (e : H a = some (.ins C dx gs)) : ∃ ox od, PySem.W.InstAt s.heap a ox C (some od) := by
  obtain ⟨mA, O, _⟩ := ins_get I.hok e
  obtain ⟨od, J, _⟩ := O.look
  exact ⟨_, od, J⟩
end

/-! ### properties -/
section
variable {X : Cx} {W : WX} {k j : Nat} {ps : List Str} {R : Rl} {f C p g : Addr} {fd : FuncData} {μ μ1 μ2 : List M} {ρ : Env'} {d d' : D} {e : Expr} {m : Str} {pos : Pos} {ds : List D} {o : FO} {es : List Expr} {apos : Pos}
/-! ### class methods -/
end
end PM

set_option Elab.async false
set_option linter.all false
set_option maxRecDepth 100000
set_option maxHeartbeats 2000000
namespace PM
open PySem L2

/-! ### comprehensions -/
def gW (K : PySem.W.Frag) (vs : List Nat) (μ : List M) (d : D) (ρ ρ' : Env') : TG := fun v σ H Q => ∃ L G, Now K L G H μ ρ σ ∧ Rep K L G d v ∧ ∀ σ' L' G' H', Step L G H L' G' H' → Now K L' G' H' μ ρ' σ' → wipe σ' vs = wipe σ vs → Q σ' H'
def gWs (K : PySem.W.Frag) (vs : List Nat) (μ : List M) (ds : List D) (ρ ρ' : Env') : TGs := fun us σ H Q => ∃ L G, Now K L G H μ ρ σ ∧ Reps K L G ds us ∧ ∀ σ' L' G' H', Step L G H L' G' H' → Now K L' G' H' μ ρ' σ' → wipe σ' vs = wipe σ vs → Q σ' H'
theorem wipe_get (σ : St) : ∀ (vs : List Nat) (j : Nat), j ∈ vs → j < σ.length → (wipe σ vs)[j]? = some none
  | [], _, h, _ => by simp at h
  | v :: vs, j, h, hl => by
    unfold wipe
    by_cases e : v = j
    · subst e
      rw [List.getElem?_set_self (by rw [wipe_length]; exact hl)]
    · rw [List.getElem?_set_ne e]
      exact wipe_get σ vs j (by
        rcases List.mem_cons.mp h with z | z
        · exact (e z.symm).elim
        · exact z) hl
theorem wipe_other (σ : St) : ∀ (vs : List Nat) (j : Nat), j ∉ vs → (wipe σ vs)[j]? = σ[j]?
  | [], _, _ => rfl
  | v :: vs, j, h => by
    unfold wipe
    rw [List.getElem?_set_ne (fun e => h (by rw [e]; exact List.mem_cons_self ..))]
    exact wipe_other σ vs j fun z => h (List.mem_cons_of_mem _ z)
theorem wipe_set {σ : St} {vs : List Nat} {i : Nat} {x : Option V} (h : i ∈ vs) : wipe (σ.set i x) vs = wipe σ vs := by
  apply List.ext_getElem?
  intro j
  by_cases hj : j ∈ vs
  · by_cases hl : j < σ.length
    · rw [wipe_get _ vs j hj (by simpa using hl), wipe_get _ vs j hj hl]
    · rw [List.getElem?_eq_none (by rw [wipe_length]; simpa using hl), List.getElem?_eq_none (by rw [wipe_length]; omega)]
  · rw [wipe_other _ vs j hj, wipe_other _ vs j hj, List.getElem?_set_ne (fun e => hj (by rw [← e]; exact h))]
theorem wipe_idem (σ : St) (vs : List Nat) : wipe (wipe σ vs) vs = wipe σ vs := by
  apply List.ext_getElem?
  intro j
  by_cases hj : j ∈ vs
  · by_cases hl : j < σ.length
    · rw [wipe_get _ vs j hj (by rw [wipe_length]; exact hl), wipe_get _ vs j hj hl]
    · rw [List.getElem?_eq_none (by rw [wipe_length, wipe_length]; omega), List.getElem?_eq_none (by rw [wipe_length]; omega)]
  · rw [wipe_other _ vs j hj]
/-- the block's own names forgotten -/
def wipeD (ρ : Env') : List Nat → Env'
  | [] => ρ
  | v :: vs => (wipeD ρ vs).set v none
theorem RepS.wipe {K : PySem.W.Frag} {L : List Addr} {G : Hp} {ρ : Env'} {σ : St} (h : RepS K L G ρ σ) : ∀ vs, RepS K L G (wipeD ρ vs) (L2.wipe σ vs)
  | [] => h
  | v :: vs => by
    unfold wipeD L2.wipe
    exact (RepS.wipe h vs).unset v
section
variable {X : Cx} {e : Expr} {es : List Expr} {pos : Pos} {ρ ρ1 ρ2 : Env'} {μ : List M} {d : D} {ds : List D} {x : Str} {vs : List Nat}
theorem ew_name (i : Nat) (nd : X.N.Nodup) (hv : i ∈ vs := by decide) (hi : X.N[i]? = some x := by rfl) (hx : Loc X.env.scope x := by first | exact Or.inl rfl | exact Or.inr rfl) (hf : X.fn x = true ∨ X.env.scope.names.lookup x = some .local := by first | exact .inl rfl | exact .inr rfl | assumption) :
    PG X (.Name x pos) (gW X.K vs μ d ρ (ρ.set i (some d))) :=
  pg_of (pg_name nd hi hx hf) fun v σ H Q ⟨L, G, n, r, c⟩ => c _ L G H (.refl _ _ _) ⟨n.ok, n.env.set r i⟩ (wipe_set hv)
end
/-- the block's place -/
abbrev BlkAll (X : Cx) (scope : Scope) (P : Cx → Prop) : Prop := ∀ (s : Shared) (H : Hp) (C : Addr) (cl : List (Str × Addr)) (fp : List Addr), P (X.blk s H scope (compEnvC scope cl C X.env) fp)
theorem Gd.blk {X : Cx} {W : WX} {k : Nat} (g : Gd X W k) {s : Shared} {H : Hp} {scope : Scope} {env : Env} {fp : List Addr} : Gd (X.blk s H scope env fp) W0 k := ⟨g.calm, g.nd, takes0, PassesOwn.never, g.hr, g.gr⟩
/-- what a comprehension makes of ds; vs: the slots of its own names -/
inductive EvC (X : Cx) (scope : Scope) (vs : List Nat) (tg elt : Expr) (ifs : List Expr) (ρ : Env') : List D → List M → List D → List M → Prop
  | nil {μ : List M} : EvC X scope vs tg elt ifs ρ [] μ [] μ
  | keep {d y : D} {ds ys : List D} {ρ1 : Env'} {μ μ1 μ2 μ3 : List M} : BlkAll X scope (fun Y => PG Y tg (gW X.K vs μ d (wipeD ρ vs) ρ1)) → BlkAll X scope (fun Y => PTs Y ifs (tVT X.K ρ1 μ true μ1)) → BlkAll X scope (fun Y => PE Y elt (tV X.K ρ1 μ1 y μ2)) →
      EvC X scope vs tg elt ifs ρ ds μ2 ys μ3 → EvC X scope vs tg elt ifs ρ (d :: ds) μ (y :: ys) μ3
  | skip {d : D} {ds ys : List D} {ρ1 : Env'} {μ μ1 μ3 : List M} : BlkAll X scope (fun Y => PG Y tg (gW X.K vs μ d (wipeD ρ vs) ρ1)) → BlkAll X scope (fun Y => PTs Y ifs (tVT X.K ρ1 μ false μ1)) →
      EvC X scope vs tg elt ifs ρ ds μ1 ys μ3 → EvC X scope vs tg elt ifs ρ (d :: ds) μ ys μ3
theorem EvC.len {X : Cx} {scope : Scope} {vs : List Nat} {tg elt : Expr} {ifs : List Expr} {ρ : Env'} {ds ys : List D} {μ μ' : List M} (h : EvC X scope vs tg elt ifs ρ ds μ ys μ') : ys.length ≤ ds.length := by
  induction h with
  | nil => exact Nat.le_refl _
  | keep _ _ _ _ ih => simpa using ih
  | skip _ _ _ ih => exact Nat.le_succ_of_le ih
section
variable {X : Cx} {W : WX} {k : Nat} {elt tg iter : Expr} {ifs : List Expr} {scope : Scope} {own : List (Str × Nat)} {pos : Pos} {ρ : Env'} {μ μ1 μ2 : List M} {ds ys : List D}
def aPTs (X : Cx) (ifs : List Expr) : TT := fun σ H Q => ∃ t, PTs X ifs t ∧ t σ H Q
/-- a reading that holds in every block -/
def bG (X : Cx) (scope : Scope) (e : Expr) : TG := fun v σ H Q => ∃ t, BlkAll X scope (fun Y => PG Y e t) ∧ t v σ H Q
def bT (X : Cx) (scope : Scope) (ifs : List Expr) : TT := fun σ H Q => ∃ t, BlkAll X scope (fun Y => PTs Y ifs t) ∧ t σ H Q
def bE (X : Cx) (scope : Scope) (e : Expr) : TE := fun σ H Q => ∃ t, BlkAll X scope (fun Y => PE Y e t) ∧ t σ H Q
end
end PM

set_option Elab.async false
set_option linter.all false
set_option maxRecDepth 100000
set_option maxHeartbeats 2000000
namespace PM
open PySem L2

/-! ### plain data -/
mutual
def D.py : D → Option PyData
  | .non => some .none
  | .bl b => some (.bool b)
  | .int i => some (.int i)
  | .str x => some (.str x)
  | .tup ds => (D.pys ds).map .tuple
  | .lst ds => (D.pys ds).map .list
  | .scr ds => (D.pys ds).map .list
  | .ref _ => none
  | .ty _ => none
  | .loc _ => none
  | .exn _ _ _ _ => none
  | .obj _ _ _ => none
  | .err _ _ _ => none
def D.pys : List D → Option (List PyData)
  | [] => some []
  | d :: ds => (D.py d).bind fun p => (D.pys ds).map fun ps => p :: ps
end
section
variable {K : PySem.W.Frag} {L : List Addr} {G H : Hp}
mutual
theorem Rep.dp (hs : Same G H) : ∀ {d : D} {v : V} {p : PyData}, Rep K L G d v → D.py d = some p → Dp K H v p
  | .non, v, p, r, h => by rw [rep_non.mp r]; simp only [D.py, Option.some.injEq] at h; subst h; exact .non
  | .bl b, v, p, r, h => by rw [rep_bl.mp r]; simp only [D.py, Option.some.injEq] at h; subst h; exact .bl b
  | .int b, v, p, r, h => by rw [rep_int.mp r]; simp only [D.py, Option.some.injEq] at h; subst h; exact .int b
  | .str b, v, p, r, h => by rw [rep_str.mp r]; simp only [D.py, Option.some.injEq] at h; subst h; exact .str b
  | .tup ds, v, p, r, h => by
    simp only [D.py, Option.map_eq_some_iff] at h
    obtain ⟨ps, h1, rfl⟩ := h
    obtain ⟨a, vs, rfl, q, rr⟩ := rep_tup.mp r
    exact .tup (Same.sqT hs q) (Reps.dp hs rr h1)
  | .lst ds, v, p, r, h => by
    simp only [D.py, Option.map_eq_some_iff] at h
    obtain ⟨ps, h1, rfl⟩ := h
    obtain ⟨a, vs, rfl, q, rr⟩ := rep_lst.mp r
    exact .lst (SqL.of (hs _ _ q)) (Reps.dp hs rr h1)
  | .scr ds, v, p, r, h => by
    simp only [D.py, Option.map_eq_some_iff] at h
    obtain ⟨ps, h1, rfl⟩ := h
    obtain ⟨a, vs, rfl, q, rr⟩ := rep_scr.mp r
    exact .lst (Same.sqL hs q) (Reps.dp hs rr h1)
  | .ref _, _, _, _, h => by simp only [D.py] at h; cases h
  | .ty _, _, _, _, h => by simp only [D.py] at h; cases h
  | .loc _, _, _, _, h => by simp only [D.py] at h; cases h
  | .exn _ _ _ _, _, _, _, h => by simp only [D.py] at h; cases h
  | .obj _ _ _, _, _, _, h => by simp only [D.py] at h; cases h
  | .err _ _ _, _, _, _, h => by simp only [D.py] at h; cases h
theorem Reps.dp (hs : Same G H) : ∀ {ds : List D} {vs : List V} {ps : List PyData}, Reps K L G ds vs → D.pys ds = some ps → DpAll K H vs ps
  | [], vs, ps, r, h => by
    rw [r.inv_nil]
    simp only [D.pys, Option.some.injEq] at h
    subst h
    exact .nil
  | d :: ds, vs, ps, r, h => by
    obtain ⟨v, q, rfl, r1, r2⟩ := r.inv_cons
    simp only [D.pys, Option.bind_eq_some_iff, Option.map_eq_some_iff] at h
    obtain ⟨p, h1, ps', h2, rfl⟩ := h
    exact .cons (Rep.dp hs r1 h1) (Reps.dp hs r2 h2)
end
end
section
variable {X : Cx} {W : WX} {k : Nat} {μ : List M} {da db : D} {p q : PyData}
theorem oc_neD (g : Gd X W k) (h1 : D.py da = some p) (h2 : D.py db = some q) (s1 : SeqAt.shaped p = true) (s2 : SeqAt.shaped q = true) : OpO X W (compareOp .NotEq) da db μ (.ret (.bl (!PyData.eqv p q)) μ) :=
  opO_of (op_neD (by have := g.hr.un; omega)) fun σ x y H Q L G o r1 r2 c => ⟨p, q, r1.dp o.sub h1, r2.dp o.sub h2, s1, s2, CO.now (W := W) (σ := σ) c o (rep_bl.mpr rfl)⟩
end

/-! ### texts -/
section
variable {X : Cx} {W : WX} {k : Nat} {ρ : Env'} {μ μ1 μ2 : List M} {e : Expr} {es : List Expr} {pos : Pos} {x y : Str} {i : Int}
/-- the parts of an f-string -/
inductive EvJ (X : Cx) (ρ : Env') : List Expr → Str → List M → Str → List M → Prop
  | nil {acc : Str} {μ : List M} : EvJ X ρ [] acc μ acc μ
  | cons {e : Expr} {es : List Expr} {acc x out : Str} {μ μ1 μ2 : List M} : PE X e (tV X.K ρ μ (.str x) μ1) → (acc ++ x).length ≤ sizeLine → EvJ X ρ es (acc ++ x) μ1 out μ2 → EvJ X ρ (e :: es) acc μ out μ2
end
end PM

set_option Elab.async false
set_option linter.all false
set_option maxRecDepth 100000
set_option maxHeartbeats 2000000
namespace PM
open PySem L2

/-! ### the law's own call -/
/-- the law: the script in, True out -/
def RLaw (good : List Int → Prop) : Rl := fun ds μ o => ∃ ns : List Int, good ns ∧ μ = [] ∧ ds = [.scr (ns.map D.int)] ∧ o = .ret (.bl true) []
section
variable {P : Program} {w : World} {K : PySem.W.Frag} {mg mb : Str → Option Value} {k : Nat} {fa a : Addr} {fd : FuncData} {x : Str} {s1 : Shared} {vs : List Value} {ns : List Int} {good : List Int → Prop}
end
/-- what is known of a script -/
structure Scr (ns : List Int) : Prop where
  len : ns.length ≤ 63
  bits : ∀ z ∈ ns, Builtin.Int.intBits z ≤ 1048576
end PM

set_option Elab.async false
set_option linter.all false
set_option maxRecDepth 100000
namespace PM
open PySem L2
section
variable {X : Cx} {W : WX} {k : Nat} {e : Expr} {A B body : List Stmt} {pos : Pos} {ρ : Env'} {μ μ1 : List M} {q : Out} {b : Bool} {tg : Expr} {ds : List D}
/-- a while whose state is told by one value -/
theorem es_whileM {S : Type} (ρ : S → Env') (μ : S → List M) (m : S → Nat) (c : S → Bool) (nx fin : S → S) (g : Gd X W k) (s : S)
    (hc : ∀ s, PT X e (tVT X.K (ρ s) (μ s) (c s) (μ s))) (hb : ∀ s, c s = true → PSs X body (tS W X.K (ρ s) (μ s) (.next (ρ (nx s)) (μ (nx s)))))
    (hm : ∀ s, c s = true → m (nx s) < m s) (hf : ∀ s, c s = false → fin s = s) (hf' : ∀ s, c s = true → fin (nx s) = fin s) :
    PS X (.While e body [] pos) (tS W X.K (ρ s) (μ s) (.next (ρ (fin s)) (μ (fin s)))) := by
  have go : ∀ n s, m s = n → ∃ j, EvWh X W e body j (ρ s) (μ s) (.next (ρ (fin s)) (μ (fin s))) := by
    intro n
    induction n using Nat.strongRecOn with
    | _ n ih =>
      intro s hs
      cases h : c s with
      | false => exact ⟨0, by rw [hf s h]; exact .stop (h ▸ hc s) (Sub.refl _)⟩
      | true =>
        obtain ⟨j, h2⟩ := ih (m (nx s)) (by rw [← hs]; exact hm s h) (nx s) rfl
        rw [hf' s h] at h2
        exact ⟨j + 1, .next (h ▸ hc s) (hb s h) h2⟩
  obtain ⟨j, h⟩ := go _ s rfl
  exact es_while g h
theorem es_ifT (h : PT X e (tVT X.K ρ μ b μ1)) (hb : b = true) (h1 : PSs X A (tS W X.K ρ μ1 q)) : PS X (.If e A B pos) (tS W X.K ρ μ q) := es_if h (fun _ => h1) fun z => by rw [hb] at z; cases z
theorem es_ifF (h : PT X e (tVT X.K ρ μ b μ1)) (hb : b = false) (h1 : PSs X B (tS W X.K ρ μ1 q)) : PS X (.If e A B pos) (tS W X.K ρ μ q) := es_if h (fun z => by rw [hb] at z; cases z) fun _ => h1
end
end PM

set_option Elab.async false
set_option linter.all false
set_option maxRecDepth 100000
namespace PM
open PySem L2 PyProof.Rows
section
variable {K : PySem.W.Frag} {C B : Addr}
/-- an error of the class C is what «except B» names -/
theorem exm_of (h1 : PySem.W.subIn K (.ref B) (.type "BaseException") = some true) (h2 : PySem.W.isClsIn K B = true) (h3 : PySem.W.typeIn K (.ref B) = some (.type "type")) {b : Bool} (h4 : PySem.W.subIn K (.ref C) (.ref B) = some b) :
    PySem.W.exmOne K (.ref C) (.ref B) = some b := by
  have h2' : (PySem.W.clsIn K B).isSome = true := h2
  unfold PySem.W.exmOne PySem.W.kitCls
  simp only [h1, h2', h3, h4, beq_self_eq_true, Bool.and_self, if_true]
theorem mro_of {o : Value} {d : Option Addr} {cd : ClassData} {sl : Array (Option Value)} {l : List Value} (h : K.lookup C = some ⟨o, d, .cls cd, sl⟩) (e : cd.mro = l) : (PySem.W.clsIn K C).map (·.mro) = some l := by
  unfold PySem.W.clsIn
  rw [h, ← e]
  rfl
end
/-! ### a op= b on an own class: as a op b -/
section
variable {prog : Program} {w : World} {M : Model} {A : Around} {E : Value → Shared → Prop} {s : Shared} {K : PySem.W.Frag} {x C L f : Addr} {h₀ : Heap} {m : Str → Option Value} {ox : Obj} {od : Option Obj} {nm T : String}
end
end PM

set_option Elab.async false
set_option linter.all false
set_option maxRecDepth 100000
namespace PM
open PySem L2
/-! ### a op= b -/
section
variable {X : Cx} {W : WX} {k j : Nat} {ps : List Str} {R : Rl} {f C : Addr} {fd : FuncData} {μ μ1 μ2 : List M} {o : FO} {da db d : D} {ns ns' : List Str} {fs fs' : List D} {op : Operator} {ρ : Env'} {e : Expr} {pos : Pos} {x : Str}
end
/-! ### calls by names -/
/-- how values are put in the parameters' order: positional ones, then those of the keywords -/
def pick {α : Type} (p : List Nat) (l : List α) : List α := p.filterMap (l[·]?)
structure KwB (K : PySem.W.Frag) (fd : FuncData) (ps : List Str) (n : Nat) (ks : List Str) (p : List Nat) : Prop where
  to : ∀ (s : Shared) (us ws : List Value), K.In s.heap → us.length = n → ws.length = ks.length → BindsTo s fd ⟨us, ks.zip ws⟩ (ps.zip (pick p (us ++ ws)))
  le : ∀ i ∈ p, i < n + ks.length
section
variable {X : Cx} {W : WX} {k j n : Nat} {ps ks : List Str} {p : List Nat} {R : Rl} {f C : Addr} {fd : FuncData} {ds es' : List D} {μ μ1 μ2 : List M} {o : FO} {e : Expr} {es : List Expr} {x m : Str} {pp pos apos kpos : Pos} {ρ : Env'} {d : D} {kws : List Keyword} {nm : Option Str}
end
end PM

set_option Elab.async false
set_option linter.all false
set_option maxRecDepth 100000
namespace PM
open PySem L2
theorem Gd.w0 {X : Cx} {W : WX} {k : Nat} (g : Gd X W k) : Gd X W0 k := ⟨g.calm, g.nd, g.tk.imp fun _ _ _ _ z => False.elim z, g.po, g.hr, g.gr⟩
/-! ### the rules where a value comes -/
section
variable {X : Cx} {W : WX} {k j i : Nat} {ps : List Str} {R : Rl} {f C : Addr} {fd : FuncData} {ds : List D} {μ μ1 μ2 μ3 : List M} {e a b c : Expr} {es : List Expr} {x m : Str} {p pos apos : Pos} {ρ : Env'} {d d' da db : D} {id T : String} {t : Bool}
theorem es_retV (h : PE X e (tV X.K ρ μ d μ1)) : PS X (.Return (some e) pos) (tS W X.K ρ μ (.ret d μ1)) := es_ret (o := .ret d μ1) h
theorem es_setV (i : Nat) (nd : X.N.Nodup) (h : PE X e (tV X.K ρ μ d μ1)) {pos' : Pos} (hi : X.N[i]? = some x := by rfl) (hx : Loc X.env.scope x := by first | exact Or.inl rfl | exact Or.inr rfl) (hs : swapsWith e (some (.Name x pos')) pos.line X.env = pure false := by rfl)
    (hf : X.fn x = true ∨ X.env.scope.names.lookup x = some .local := by first | exact .inl rfl | exact .inr rfl | assumption) : PS X (.Assign [.Name x pos'] e pos) (tS W X.K ρ μ (.next (ρ.set i (some d)) μ1)) := es_set i nd (o := .ret d μ1) h hi hx hs hf
theorem ev_opI {op : Operator} (ha : PE X a (tV X.K ρ μ da μ1)) (hb : PE X b (tV X.K ρ μ1 db μ2)) (ho : OpO X W0 (binaryOp op) da db μ2 (.ret d μ3)) : PE X (.BinOp a op b pos) (tV X.K ρ μ d μ3) := ev_op (o := .ret d μ3) ha hb ho
theorem ev_unI {op : UnaryOp} (ha : PE X a (tV X.K ρ μ da μ1)) (ho : UnO X W0 (unaryOp op) da μ1 (.ret d μ2)) : PE X (.UnaryOp op a pos) (tV X.K ρ μ d μ2) := ev_un (o := .ret d μ2) ha ho
theorem ev_bltV (ha : PA X (e :: es) (tVA X.K ρ μ ds μ1)) (hf : CallO X W0 (fun us => call (.builtin id) us) ds μ1 (.ret d μ2)) (hm : X.mg x = none) (hv : bootBuiltins x = some (.builtin id)) (hg : Gl X x := by rfl) (hn : x ≠ "__name__" := by decide) (hdb : (x == ("__debug__" : Str)) = false := by decide) (he : starEach (e :: es) X.env = (false, eval e X.env) :: starEach es X.env := by rfl) (hpl : (backTo pos (starEach es X.env)).any (·.1) = false := by rfl) :
    PE X (.Call (.Name x p) (e :: es) [] pos) (tV X.K ρ μ d μ2) := ev_blt (o := .ret d μ2) ha hf hm hv hg hn hdb he hpl
theorem ev_callV (g : Gd X W k) (c : Cal X.prog X.w X.K X.mg X.base j ps R f fd) (hm : X.mg x = some (.ref f)) (hk : PySem.W.keepIn X.K (.ref f) = true) (ha : PA X (e :: es) (tVA X.K ρ μ ds μ1)) (hR : R ds μ1 (.ret d μ2)) (hj : j ≤ k := by decide) (hg : Gl X x := by rfl) (hdb : (x == ("__debug__" : Str)) = false := by decide) (he : starEach (e :: es) X.env = (false, eval e X.env) :: starEach es X.env := by rfl) (hpl : (backTo pos (starEach es X.env)).any (·.1) = false := by rfl) :
    PE X (.Call (.Name x p) (e :: es) [] pos) (tV X.K ρ μ d μ2) := ev_call (o := .ret d μ2) g c hm hk ha hR hj hg hdb he hpl
end
end PM

set_option Elab.async false
set_option linter.all false
set_option maxRecDepth 100000
namespace PM
open PySem L2
/-! ### statements whose end is known by a property alone -/
section
variable {X : Cx} {W : WX} {k : Nat} {e tg : Expr} {body rest ss A B : List Stmt} {st : Stmt} {pos : Pos} {ds : List D} {ρ ρ0 ρ1 : Env'} {μ μ0 μ1 : List M} {q : Out} {L : Out → Prop} {b : Bool}
def Evs (X : Cx) (W : WX) (ss : List Stmt) (ρ : Env') (μ : List M) (L : Out → Prop) : Prop := ∃ q, L q ∧ PSs X ss (tS W X.K ρ μ q)
/-- the end of a loop's body: the names as at its begin, something known of the store -/
def Nx (ρ0 : Env') (Iv : List M → Prop) : Out → Prop := fun q => ∃ ρ2 μ2, (q = .next ρ2 μ2 ∨ q = .cont ρ2 μ2) ∧ Iv μ2 ∧ Sub ρ0 ρ2
end
end PM

set_option Elab.async false
set_option linter.all false
set_option maxRecDepth 100000
namespace PM
open PySem L2 PyProof.Rows
/-! ### an int, or another plain thing, ahead of an own instance -/
section
variable {i : Int} {t : Tok} {x C dx : Addr}
/-- what a builtin answers that does not know the other side -/
abbrev Declines (x C dx : Addr) : PySem.Spec := fun _ R s => s.heap.get? x = some (PySem.W.instObj C dx) ∧ R (.ok (.ret .notImplemented)) s
end
section
variable {prog : Program} {w : World} {A : Around} {E : Value → Shared → Prop} {s : Shared} {K : PySem.W.Frag} {x C dx f : Addr} {od : Option Obj} {T id : String} {B : Builtin} {a : Value}
end
/-! ### by data -/
section
variable {X : Cx} {W : WX} {k j : Nat} {ps : List Str} {R : Rl} {f C : Addr} {fd : FuncData} {μ : List M} {o : FO} {da : D} {ns : List Str} {fs : List D} {i : Int}
end
end PM

set_option Elab.async false
set_option linter.all false
set_option maxRecDepth 100000
namespace PM
open PySem L2
/-! ### builtins that ask an own method -/
section
variable {X : Cx} {W : WX} {k j : Nat} {ps : List Str} {R : Rl} {f C : Addr} {fd : FuncData} {μ μ2 : List M} {d : D} {ds : List D} {ns : List Str} {fs : List D} {y : Str} {b : Bool}
/-- a call from within a builtin; the value is known to be what d tells -/
theorem Cal.runV {B : Around} {pins : List (Addr × Obj)} {s : Shared} {σ : St} {H : Hp} {xs : List V} {us : List Value} {Q : VK} {L : List Addr} {G : Hp} {E' : Value → Shared → Prop} (c : Cal X.prog X.w X.K X.mg X.base j ps R f fd) (hr : Room j B) (gr : Gr j B) (e0 : Env0 X.prog X.w X.K X.mg X.base B X.stack s H)
    (hR : R ds μ (.ret d μ2)) (I : Inv X pins σ H s) (rx : Vals xs us) (ok : Ok X.K L G H μ) (r : Reps X.K L G ds xs) (co : Comes X.K L G H d μ2 Q) : wpAny (model X.prog X.w) B (call (.ref f) us) (EP X pins σ fun v H' => (∃ L' G', Rep X.K L' G' d v) ∧ Q v H') E' s := by
  have hsp : spR X.K R xs H (fun v H' => (∃ L' G', Rep X.K L' G' d v) ∧ Q v H') (fun _ _ _ => False) := ⟨L, G, ds, μ, .ret d μ2, ok, r, hR, fun v L' G' H' s' o' r' => ⟨⟨L', G', r'⟩, co v L' G' H' s' o' r'⟩⟩
  have hl : us.length = ps.length := by rw [← rx.length]; exact c.ok.len _ _ _ _ hsp
  have bd := c.bd s us I.kIn (by rw [List.append_nil]; exact hl)
  rw [List.append_nil] at bd
  refine wpAny_call (codeAny_mono (c.ok.run B X.stack s H ⟨us, []⟩ us xs _ (fun _ _ _ => False) hr gr e0 bd rx hsp) fun r s' hq => ?_)
  cases r with
  | error er =>
    obtain ⟨_, _, _, _, _, _, _, _, _, _, _, _, z⟩ := hq
    exact z.elim
  | ok fl =>
    cases fl with
    | ret u => exact I.after hq
    | next => exact False.elim hq
    | brk => exact False.elim hq
    | cont => exact False.elim hq
/-- str(a) -/
theorem ct_strOwn (g : Gd X W k) (hm : Meth X.K C "__str__" f) (c : Cal X.prog X.w X.K X.mg X.base j ps R f fd) (hR : R [.obj C ns fs] μ (.ret (.str y) μ2)) (hj : j + 2 ≤ k := by decide) : CallO X W (fun us => call (.type "str") us) [.obj C ns fs] μ (.ret (.str y) μ2) := by
  intro pins s σ H xs us Q L G I rx ok r co
  obtain ⟨v, rfl, r1⟩ := r.one
  obtain ⟨u, rfl, ru⟩ := rx.one
  obtain ⟨a, dx, vs, rfl, q, _⟩ := rep_obj.mp r1
  cases ru
  obtain ⟨ox, od, J⟩ := inst_at I (ok.sub _ _ q)
  have hr := g.hr.mono hj
  refine PySem.W.kso_call (by have := hr.in1.in1.un; omega) I.kIn J hm.at_ hm.fn (wpAny_mono (c.runV hr.in1.in1 (g.gr.mono (by omega)) I.env0.in1.in1 hR I (xs := [.ref a]) (.cons rfl .nil) ok (Reps.cons r1 Reps.nil) co) (fun r s' hr => ?_) fun _ _ y => y)
  obtain ⟨v, H', I', rv, ⟨_, _, z⟩, q'⟩ := hr
  rw [rep_str.mp z] at rv
  obtain ⟨t, rfl⟩ := rv
  exact ⟨.str y, H', I', ⟨t, rfl⟩, by rwa [rep_str.mp z] at q'⟩
end
end PM

set_option Elab.async false
set_option linter.all false
set_option maxRecDepth 100000
namespace PM
open PySem L2
section
variable {prog : Program} {w : World} {A : Around} {E : Value → Shared → Prop} {s : Shared} {K : PySem.W.Frag} {x C dx f : Addr} {od : Option Obj} {T id : String} {a : Value}
end
section
variable {X : Cx} {W : WX} {k j : Nat} {ps : List Str} {R : Rl} {f C : Addr} {fd : FuncData} {μ : List M} {o : FO} {da : D} {ns : List Str} {fs ds es : List D} {y : Str} {b : Bool}
theorem oo_catL (h : ds.length + es.length ≤ sizeLine) : OpO X W (binaryOp .Add) (.lst ds) (.lst es) μ (.ret (.lst (ds ++ es)) μ) :=
  opO_of op_cat fun σ u v H Q L G o r1 r2 c => by
    obtain ⟨a, vs, rfl, q1, s1⟩ := rep_lst.mp r1
    obtain ⟨a', vs', rfl, q2, s2⟩ := rep_lst.mp r2
    refine ⟨a, a', vs, vs', rfl, rfl, o.sub _ _ q1, o.sub _ _ q2, by rw [s1.length, s2.length]; exact h, fun p hp => ?_⟩
    refine CO.fresh (W := W) (σ := σ) c o hp (rep_lst.mpr ⟨p, vs ++ vs', rfl, upd_same, ?_⟩)
    have e := (o.new (p := p) (o := .lst (vs ++ vs')) hp).2.gs
    exact (s1.mono (Pre.refl _) e).append (s2.mono (Pre.refl _) e)
end
end PM

set_option Elab.async false
set_option linter.all false
set_option maxRecDepth 100000
namespace PM
open PySem L2
section
variable {X : Cx} {W : WX} {k : Nat} {e tg : Expr} {body rest : List Stmt} {pos : Pos} {ds : List D} {ρ : Env'} {μ0 μ1 : List M} {L : Out → Prop}
/-- the end of a loop's body: something known of names and store -/
def NxS (Iv : Env' → List M → Prop) : Out → Prop := fun q => ∃ ρ2 ρ3 μ2, (q = .next ρ2 μ2 ∨ q = .cont ρ2 μ2) ∧ Sub ρ3 ρ2 ∧ Iv ρ3 μ2
end
end PM

set_option Elab.async false
set_option linter.all false
set_option maxRecDepth 100000
namespace PM
open PySem L2 PyProof.Rows
section
variable {prog : Program} {w : World} {A : Around} {E : Value → Shared → Prop} {s : Shared} {K : PySem.W.Frag} {x C f : Addr} {ox : Obj} {od : Option Obj}
end
section
variable {X : Cx} {W : WX} {k j : Nat} {ps : List Str} {R : Rl} {f C : Addr} {fd : FuncData} {μ μ1 μ2 : List M} {o : FO} {ns : List Str} {fs ds : List D} {x y : Str} {b : Bool} {i : Int} {a c : Expr} {rest : List Expr} {pos : Pos} {ρ : Env'}
end
end PM

set_option Elab.async false
set_option linter.all false
set_option maxRecDepth 100000
namespace PM
open PySem L2
section
variable {X : Cx} {W : WX} {k j n : Nat} {ps ks : List Str} {p : List Nat} {R : Rl} {f C : Addr} {fd : FuncData} {ds es' : List D} {μ μ1 μ2 : List M} {o : FO} {x m : Str} {pp pos apos kpos : Pos} {ρ : Env'} {d : D} {kws : List Keyword}
end
end PM

set_option linter.all false
namespace PM
/-! ### plain numbers -/
/-- a number of few bits -/
def Fit (n : Nat) (q : Rat) : Prop := q.num.natAbs < 2 ^ n ∧ q.den < 2 ^ n
theorem Fit.mono {n m : Nat} {q : Rat} (h : Fit n q) (l : n ≤ m) : Fit m q := ⟨Nat.lt_of_lt_of_le h.1 (Nat.pow_le_pow_right (by decide) l), Nat.lt_of_lt_of_le h.2 (Nat.pow_le_pow_right (by decide) l)⟩
theorem divInt_bounds (t b : Int) (hb : b ≠ 0) : (Rat.divInt t b).num.natAbs ≤ t.natAbs ∧ (Rat.divInt t b).den ≤ b.natAbs := by
  constructor
  · rw [Rat.num_divInt]
    refine Nat.le_trans (Int.natAbs_ediv_le_natAbs _ _) ?_
    rw [Int.natAbs_mul]
    have : b.sign.natAbs = 1 := Int.natAbs_sign_of_ne_zero hb
    rw [this, Nat.one_mul]; exact Nat.le_refl _
  · rw [Rat.den_divInt, if_neg hb]
    exact Nat.div_le_self _ _
theorem fit_divInt {n : Nat} {t b : Int} (h1 : t.natAbs < 2 ^ n) (h2 : b.natAbs < 2 ^ n) (hb : b ≠ 0) : Fit n (Rat.divInt t b) :=
  ⟨Nat.lt_of_le_of_lt (divInt_bounds t b hb).1 h1, Nat.lt_of_le_of_lt (divInt_bounds t b hb).2 h2⟩
theorem mul_lt_pow {a b n m : Nat} (h1 : a < 2 ^ n) (h2 : b < 2 ^ m) : a * b < 2 ^ (n + m) := by
  rw [Nat.pow_add]
  exact Nat.mul_lt_mul'' h1 h2
theorem mul_rt (a b : Rat) : a * b = Rat.divInt (a.num * b.num) (a.den * b.den) := by
  rw [Rat.mul_def', ← Rat.divInt_ofNat]; simp
/-- what Ratio makes of a top and a bottom -/
theorem divInt_num {t b : Int} (hb : 0 < b) : (Rat.divInt t b).num = t / (Nat.gcd t.natAbs b.natAbs : Nat) := by
  rw [Rat.num_divInt, Int.sign_eq_one_of_pos hb, Int.one_mul, Int.gcd_comm]; rfl
theorem divInt_den {t b : Int} (hb : 0 < b) : ((Rat.divInt t b).den : Int) = b / (Nat.gcd t.natAbs b.natAbs : Nat) := by
  rw [Rat.den_divInt, if_neg (by omega), Int.gcd_comm]
  have : b = (b.natAbs : Int) := by omega
  conv => rhs; lhs; rw [this]
  rfl
theorem log2_lt {a n : Nat} (h : a < 2 ^ n) (hn : 0 < n) : a.log2 < n := by
  by_cases z : a = 0
  · subst z; simpa using hn
  · exact (Nat.log2_lt z).mpr h
end PM

set_option Elab.async false
set_option linter.all false
set_option maxRecDepth 100000
set_option maxHeartbeats 4000000
namespace PM

/-! plain facts of pools by integers -/
section
variable {s v s' v' u t : Int}
end
end PM

set_option Elab.async false
set_option linter.all false
set_option maxRecDepth 100000
/-! Weakest preconditions over the abstract machine: what may come is told by continuations. -/
namespace PM
open PySem L2
abbrev KV := D → List M → Prop
abbrev KX := Addr → List Str → List D → List M → Prop
abbrev KT := Bool → List M → Prop
abbrev KA := List D → List M → Prop
abbrev KN := Env' → List M → Prop
/-- exceptions that are taken -/
def AccX (W : WX) (K : PySem.W.Frag) (L : List Addr) (G H : Hp) (σ : St) (Z : KX) : Prop := ∀ C ns ds μ', Z C ns ds μ' → ComesX K L G H C ns ds μ' fun c d H' => W c d σ H'
def AccV (K : PySem.W.Frag) (L : List Addr) (G H : Hp) (Q : KV) (R : VK) : Prop := ∀ d μ', Q d μ' → Comes K L G H d μ' R
section
variable {W : WX} {K : PySem.W.Frag} {L L1 : List Addr} {G H G1 H1 : Hp} {σ : St} {Z Z' : KX} {Q Q' : KV} {R : VK}
theorem AccX.step (a : AccX W K L G H σ Z) (s : Step L G H L1 G1 H1) : AccX W K L1 G1 H1 σ Z := fun C ns ds μ' z => ComesX.step (E := fun c d H' => W c d σ H') (a C ns ds μ' z) s
theorem AccV.step (a : AccV K L G H Q R) (s : Step L G H L1 G1 H1) : AccV K L1 G1 H1 Q R := fun d μ' q => Comes.step (a d μ' q) s
theorem AccX.mono (a : AccX W K L G H σ Z') (h : ∀ C ns ds μ, Z C ns ds μ → Z' C ns ds μ) : AccX W K L G H σ Z := fun C ns ds μ' z => a C ns ds μ' (h _ _ _ _ z)
theorem AccV.mono (a : AccV K L G H Q' R) (h : ∀ d μ, Q d μ → Q' d μ) : AccV K L G H Q R := fun d μ' z => a d μ' (h _ _ z)
end
/-- an expression comes to a value of Q or to an exception of Z -/
structure wE (X : Cx) (W : WX) (ρ : Env') (μ : List M) (e : Expr) (Q : KV) (Z : KX) : Prop where
  run : PE X e (fun σ H R => ∃ L G, Now X.K L G H μ ρ σ ∧ AccV X.K L G H Q R ∧ AccX W X.K L G H σ Z)
structure wC (X : Cx) (W : WX) (ρ : Env') (μ : List M) (e : Expr) (Q : KT) (Z : KX) : Prop where
  run : PT X e (fun σ H R => ∃ L G, Now X.K L G H μ ρ σ ∧ (∀ b μ', Q b μ' → ComesT X.K L G H b μ' R) ∧ AccX W X.K L G H σ Z)
structure wCw (X : Cx) (W : WX) (ρ : Env') (μ : List M) (e : Expr) (Q : KT) (Z : KX) : Prop where
  run : PW X e (fun σ H R => ∃ L G, Now X.K L G H μ ρ σ ∧ (∀ b μ', Q b μ' → ComesT X.K L G H b μ' R) ∧ AccX W X.K L G H σ Z)
structure wA (X : Cx) (W : WX) (ρ : Env') (μ : List M) (es : List Expr) (Q : KA) (Z : KX) : Prop where
  run : PA X es (fun σ H R => ∃ L G, Now X.K L G H μ ρ σ ∧ (∀ ds μ', Q ds μ' → ComesA X.K L G H ds μ' R) ∧ AccX W X.K L G H σ Z)
/-- an operation on two data -/
structure wB (X : Cx) (W : WX) (f : Value → Value → Sem Value) (da db : D) (μ : List M) (Q : KV) (Z : KX) : Prop where
  run : ∀ (pins : List (Addr × Obj)) (s : Shared) (σ : St) (H : Hp) (x y : V) (v u : Value) (R : VK) (L : List Addr) (G : Hp), Inv X pins σ H s → RelV x v → RelV y u → Ok X.K L G H μ → Rep X.K L G da x → Rep X.K L G db y → AccV X.K L G H Q R → AccX W X.K L G H σ Z →
    wpAny (model X.prog X.w) X.A (f v u) (EP X pins σ R) X.xe s
structure wU (X : Cx) (W : WX) (f : Value → Sem Value) (da : D) (μ : List M) (Q : KV) (Z : KX) : Prop where
  run : ∀ (pins : List (Addr × Obj)) (s : Shared) (σ : St) (H : Hp) (x : V) (v : Value) (R : VK) (L : List Addr) (G : Hp), Inv X pins σ H s → RelV x v → Ok X.K L G H μ → Rep X.K L G da x → AccV X.K L G H Q R → AccX W X.K L G H σ Z →
    wpAny (model X.prog X.w) X.A (f v) (EP X pins σ R) X.xe s
structure wF (X : Cx) (W : WX) (f : List Value → Sem Value) (ds : List D) (μ : List M) (Q : KV) (Z : KX) : Prop where
  run : ∀ (pins : List (Addr × Obj)) (s : Shared) (σ : St) (H : Hp) (xs : List V) (us : List Value) (R : VK) (L : List Addr) (G : Hp), Inv X pins σ H s → Vals xs us → Ok X.K L G H μ → Reps X.K L G ds xs → AccV X.K L G H Q R → AccX W X.K L G H σ Z →
    wpAny (model X.prog X.w) X.A (f us) (EP X pins σ R) X.xe s
/-- one outcome among those that may come -/
def FO.In (Q : KV) (Z : KX) : FO → Prop
  | .ret d μ => Q d μ
  | .exc C ns ds μ => Z C ns ds μ
section
variable {X : Cx} {W : WX} {ρ : Env'} {μ μ1 μ2 : List M} {e a b c : Expr} {es : List Expr} {Q Q' : KV} {Z Z' : KX} {o : FO} {d da db : D} {ds : List D} {pos : Pos} {pins : List (Addr × Obj)} {s : Shared} {σ : St} {H : Hp} {L : List Addr} {G : Hp}
theorem CO.of {R : VK} (v : AccV X.K L G H Q R) (x : AccX W X.K L G H σ Z) (h : o.In Q Z) : CO W X.K L G H σ o R := by
  cases o with
  | ret d μ => exact v d μ h
  | exc C ns ds μ => exact x C ns ds μ h
theorem wE.of (h : PE X e (tO W X.K ρ μ o)) (ho : o.In Q Z) : wE X W ρ μ e Q Z := ⟨pe_of h fun σ H R ⟨L, G, n, v, x⟩ => ⟨L, G, n, CO.of v x ho⟩⟩
theorem wE.ofV (h : PE X e (tV X.K ρ μ d μ1)) (ho : Q d μ1) : wE X W ρ μ e Q Z := ⟨pe_of h fun σ H R ⟨L, G, n, v, x⟩ => ⟨L, G, n, v _ _ ho⟩⟩
theorem wE.mono (h : wE X W ρ μ e Q Z) (hq : ∀ d μ, Q d μ → Q' d μ) (hz : ∀ C ns ds μ, Z C ns ds μ → Z' C ns ds μ) : wE X W ρ μ e Q' Z' := ⟨pe_of h.run fun σ H R ⟨L, G, n, v, x⟩ => ⟨L, G, n, v.mono hq, x.mono hz⟩⟩
theorem wE.imp (h : wE X W ρ μ e Q Z) (hq : ∀ d μ, Q d μ → Q' d μ) : wE X W ρ μ e Q' Z := h.mono hq fun _ _ _ _ z => z
theorem wC.imp {Q Q' : KT} (h : wC X W ρ μ e Q Z) (hq : ∀ d μ, Q d μ → Q' d μ) : wC X W ρ μ e Q' Z := ⟨pt_of h.run fun σ H R ⟨L, G, n, v, x⟩ => ⟨L, G, n, fun b μ' q => v b μ' (hq _ _ q), x⟩⟩
theorem wB.of {f : Value → Value → Sem Value} (h : OpO X W f da db μ o) (ho : o.In Q Z) : wB X W f da db μ Q Z := ⟨fun pins s σ H x y v u R L G I rx ry ok r1 r2 av ax => h pins s σ H x y v u R L G I rx ry ok r1 r2 (CO.of av ax ho)⟩
theorem wB.ofV {f : Value → Value → Sem Value} (h : OpO X W0 f da db μ (.ret d μ1)) (ho : Q d μ1) : wB X W f da db μ Q Z := ⟨fun pins s σ H x y v u R L G I rx ry ok r1 r2 av ax => h pins s σ H x y v u R L G I rx ry ok r1 r2 (av _ _ ho)⟩
theorem wU.of {f : Value → Sem Value} (h : UnO X W f da μ o) (ho : o.In Q Z) : wU X W f da μ Q Z := ⟨fun pins s σ H x v R L G I rx ok r1 av ax => h pins s σ H x v R L G I rx ok r1 (CO.of av ax ho)⟩
theorem wU.ofV {f : Value → Sem Value} (h : UnO X W0 f da μ (.ret d μ1)) (ho : Q d μ1) : wU X W f da μ Q Z := ⟨fun pins s σ H x v R L G I rx ok r1 av ax => h pins s σ H x v R L G I rx ok r1 (av _ _ ho)⟩
theorem wF.of {f : List Value → Sem Value} (h : CallO X W f ds μ o) (ho : o.In Q Z) : wF X W f ds μ Q Z := ⟨fun pins s σ H x v R L G I rx ok r1 av ax => h pins s σ H x v R L G I rx ok r1 (CO.of av ax ho)⟩
theorem wF.ofV {f : List Value → Sem Value} (h : CallO X W0 f ds μ (.ret d μ1)) (ho : Q d μ1) : wF X W f ds μ Q Z := ⟨fun pins s σ H x v R L G I rx ok r1 av ax => h pins s σ H x v R L G I rx ok r1 (av _ _ ho)⟩
theorem wB.imp {f : Value → Value → Sem Value} (h : wB X W f da db μ Q Z) (hq : ∀ d μ, Q d μ → Q' d μ) : wB X W f da db μ Q' Z := ⟨fun pins s σ H x y v u R L G I rx ry ok r1 r2 av ax => h.run pins s σ H x y v u R L G I rx ry ok r1 r2 (av.mono hq) ax⟩
theorem wF.imp {f : List Value → Sem Value} (h : wF X W f ds μ Q Z) (hq : ∀ d μ, Q d μ → Q' d μ) : wF X W f ds μ Q' Z := ⟨fun pins s σ H x v R L G I rx ok r1 av ax => h.run pins s σ H x v R L G I rx ok r1 (av.mono hq) ax⟩
/-- running -/
theorem wE.go (h : wE X W ρ μ e Q Z) (I : Inv X pins σ H s) (n : Now X.K L G H μ ρ σ) (z : AccX W X.K L G H σ Z) :
    wpAny (model X.prog X.w) X.A (eval e X.env) (fun u s1 => ∃ v d μ1 L1 G1 H1, Inv X pins σ H1 s1 ∧ RelV v u ∧ Q d μ1 ∧ Step L G H L1 G1 H1 ∧ Ok X.K L1 G1 H1 μ1 ∧ Rep X.K L1 G1 d v) X.xe s :=
  thn (h.run.run pins s σ H (fun v H1 => ∃ d μ1 L1 G1, Q d μ1 ∧ Step L G H L1 G1 H1 ∧ Ok X.K L1 G1 H1 μ1 ∧ Rep X.K L1 G1 d v) I ⟨L, G, n, fun d μ' q v L' G' H' s' o' r' => ⟨d, μ', L', G', q, s', o', r'⟩, z⟩)
    fun u s1 ⟨v, H1, I1, r1, d, μ1, L1, G1, q, st, o, r⟩ => ⟨v, d, μ1, L1, G1, H1, I1, r1, q, st, o, r⟩
theorem wC.go {Q : KT} (h : wC X W ρ μ e Q Z) (I : Inv X pins σ H s) (n : Now X.K L G H μ ρ σ) (z : AccX W X.K L G H σ Z) :
    wpAny (model X.prog X.w) X.A (isTrue e X.env (eval e X.env)) (fun b s1 => ∃ μ1 L1 G1 H1, Inv X pins σ H1 s1 ∧ Q b μ1 ∧ Step L G H L1 G1 H1 ∧ Ok X.K L1 G1 H1 μ1) X.xe s :=
  thn (h.run.run pins s σ H (fun b H1 => ∃ μ1 L1 G1, Q b μ1 ∧ Step L G H L1 G1 H1 ∧ Ok X.K L1 G1 H1 μ1) I ⟨L, G, n, fun b μ' q L' G' H' s' o' => ⟨μ', L', G', q, s', o'⟩, z⟩)
    fun b s1 ⟨H1, I1, μ1, L1, G1, q, st, o⟩ => ⟨μ1, L1, G1, H1, I1, q, st, o⟩
theorem wA.go {Q : KA} (h : wA X W ρ μ es Q Z) (I : Inv X pins σ H s) (n : Now X.K L G H μ ρ σ) (z : AccX W X.K L G H σ Z) (pos : Pos) :
    wpAny (model X.prog X.w) X.A (spliced (backTo pos (starEach es X.env))) (fun us s1 => ∃ vs ds μ1 L1 G1 H1, Inv X pins σ H1 s1 ∧ Vals vs us ∧ Q ds μ1 ∧ Step L G H L1 G1 H1 ∧ Ok X.K L1 G1 H1 μ1 ∧ Reps X.K L1 G1 ds vs) X.xe s :=
  thn (h.run.run pos pins s σ H (fun vs H1 => ∃ ds μ1 L1 G1, Q ds μ1 ∧ Step L G H L1 G1 H1 ∧ Ok X.K L1 G1 H1 μ1 ∧ Reps X.K L1 G1 ds vs) I ⟨L, G, n, fun ds μ' q vs L' G' H' s' o' r' => ⟨ds, μ', L', G', q, s', o', r'⟩, z⟩)
    fun us s1 ⟨vs, H1, I1, r1, ds, μ1, L1, G1, q, st, o, r⟩ => ⟨vs, ds, μ1, L1, G1, H1, I1, r1, q, st, o, r⟩
theorem wE.by (h : ∀ (pins : List (Addr × Obj)) (s : Shared) (σ : St) (H : Hp) (R : VK) (L : List Addr) (G : Hp), Inv X pins σ H s → Now X.K L G H μ ρ σ → AccV X.K L G H Q R → AccX W X.K L G H σ Z → wpAny (model X.prog X.w) X.A (eval e X.env) (EP X pins σ R) X.xe s) : wE X W ρ μ e Q Z :=
  ⟨⟨fun pins s σ H R I ⟨L, G, n, v, x⟩ => h pins s σ H R L G I n v x⟩⟩
/-- the store may be told with less -/
def Le (μ μ' : List M) : Prop := ∀ K L G H, Ok K L G H μ → Ok K L G H μ'
theorem Le.refl (μ : List M) : Le μ μ := fun _ _ _ _ h => h
theorem wE.le (h : wE X W ρ μ e (fun d μ1 => ∃ μ2, Le μ1 μ2 ∧ Q d μ2) Z) : wE X W ρ μ e Q Z :=
  ⟨pe_of h.run fun σ H R ⟨L, G, n, v, x⟩ => ⟨L, G, n, fun d μ1 ⟨μ2, l, q⟩ u L' G' H' s' o' r' => v d μ2 q u L' G' H' s' (l _ _ _ _ o') r', x⟩⟩

/-! #### any reading will do -/
def aE (X : Cx) (e : Expr) : TE := fun σ H Q => ∃ t, PE X e t ∧ t σ H Q
theorem aE_ok : PE X e (aE X e) := ⟨fun pins s σ H Q I ⟨t, p, q⟩ => p.run pins s σ H Q I q⟩
def aW (X : Cx) (e : Expr) : TT := fun σ H Q => ∃ t, PW X e t ∧ t σ H Q
theorem aW_ok : PW X e (aW X e) := ⟨fun wh pins s σ H Q I ⟨t, p, q⟩ => p.run wh pins s σ H Q I q⟩
def aA (X : Cx) (es : List Expr) : TA := fun σ H Q => ∃ t, PA X es t ∧ t σ H Q
theorem aA_ok : PA X es (aA X es) := ⟨fun pos pins s σ H Q I ⟨t, p, q⟩ => p.run pos pins s σ H Q I q⟩

/-! #### expressions -/
theorem wE_int {i j} (h : Q (.int i) μ) : wE X W ρ μ (.Constant (.int i) j pos) Q Z := .ofV ev_int h
theorem wE_bl {i j} (h : Q (.bl i) μ) : wE X W ρ μ (.Constant (.bool i) j pos) Q Z := .ofV ev_bl h
theorem wE_non {j} (h : Q .non μ) : wE X W ρ μ (.Constant .none j pos) Q Z := .ofV ev_non h
theorem wE_str {i j} (h : Q (.str i) μ) : wE X W ρ μ (.Constant (.str i) j pos) Q Z := .ofV ev_str h
theorem wE_bin {op : Operator} (h : wE X W ρ μ a (fun da μ1 => wE X W ρ μ1 b (fun db μ2 => wB X W (binaryOp op) da db μ2 Q Z) Z) Z) : wE X W ρ μ (.BinOp a op b pos) Q Z :=
  .by fun pins s σ H R L G I n v x => wpAny_BinOp (thn (h.go I n x) fun u s1 ⟨y, da, μ1, L1, G1, H1, I1, ry, hb, st1, o1, r1⟩ => thn (hb.go I1 (n.step st1 o1) (x.step st1)) fun u2 s2 ⟨y2, db, μ2, L2, G2, H2, I2, ry2, ho, st2, o2, r2⟩ =>
    ho.run pins s2 σ H2 y y2 u u2 R L2 G2 I2 ry ry2 o2 (r1.step st2) r2 (v.step (st1.trans st2)) (x.step (st1.trans st2)))
theorem wE_cmp {op : CmpOp} (h : wE X W ρ μ a (fun da μ1 => wE X W ρ μ1 b (fun db μ2 => wB X W (compareOp op) da db μ2 Q Z) Z) Z) (hm : behindInMarks op b = false := by first | exact nomark _ | rfl) : wE X W ρ μ (.Compare a [op] [b] pos) Q Z :=
  .by fun pins s σ H R L G I n v x => wpAny_Compare1 (thn (h.go I n x) fun u s1 ⟨y, da, μ1, L1, G1, H1, I1, ry, hb, st1, o1, r1⟩ => thn (hb.go I1 (n.step st1 o1) (x.step st1)) fun u2 s2 ⟨y2, db, μ2, L2, G2, H2, I2, ry2, ho, st2, o2, r2⟩ =>
    ho.run pins s2 σ H2 y y2 u u2 R L2 G2 I2 ry ry2 o2 (r1.step st2) r2 (v.step (st1.trans st2)) (x.step (st1.trans st2))) hm
theorem wE_un {op : UnaryOp} (h : wE X W ρ μ a (fun da μ1 => wU X W (unaryOp op) da μ1 Q Z) Z) : wE X W ρ μ (.UnaryOp op a pos) Q Z :=
  .by fun pins s σ H R L G I n v x => PyProof.Rows.UnaryOp_ (thn (h.go I n x) fun u s1 ⟨y, da, μ1, L1, G1, H1, I1, ry, ho, st1, o1, r1⟩ => ho.run pins s1 σ H1 y u R L1 G1 I1 ry o1 r1 (v.step st1) (x.step st1))
/-- not, of a test -/
theorem wE_not (h : wE X W ρ μ a (fun da μ1 => ∃ k, da = .bl k ∧ Q (.bl (!k)) μ1) Z) : wE X W ρ μ (.UnaryOp .Not a pos) Q Z :=
  ⟨pe_of (pe_not h.run) fun σ H R ⟨L, G, n, v, x⟩ => ⟨L, G, n, fun d μ1 ⟨k, e, q⟩ u L1 G1 H1 s1 o1 r1 => by
    subst e
    exact ⟨k, rep_bl.mp r1, v _ _ q _ L1 G1 H1 s1 o1 (rep_bl.mpr rfl)⟩, x⟩⟩
theorem wE_one {op} (h : wE X W ρ μ a Q Z) : wE X W ρ μ (.BoolOp op [a] pos) Q Z := ⟨pe_one h.run⟩
variable {rest : List Expr}
theorem wE_and (h : wE X W ρ μ a (fun da μ1 => ∃ k, da = .bl k ∧ if k = true then wE X W ρ μ1 (.BoolOp .And (b :: rest) pos) Q Z else Q (.bl false) μ1) Z) : wE X W ρ μ (.BoolOp .And (a :: b :: rest) pos) Q Z :=
  ⟨pe_of (pe_and h.run aE_ok) fun σ H R ⟨L, G, n, v, x⟩ => ⟨L, G, n, fun d μ1 ⟨k, e, q⟩ u L1 G1 H1 s1 o1 r1 => by
    subst e
    refine ⟨k, rep_bl.mp r1, ?_⟩
    cases k with
    | true => rw [if_pos rfl] at q ⊢; exact ⟨_, q.run, L1, G1, n.step s1 o1, v.step s1, x.step s1⟩
    | false => rw [if_neg (by decide)] at q ⊢; exact v _ _ q _ L1 G1 H1 s1 o1 (rep_bl.mpr rfl), x⟩⟩
theorem wE_or (h : wE X W ρ μ a (fun da μ1 => ∃ k, da = .bl k ∧ if k = true then Q (.bl true) μ1 else wE X W ρ μ1 (.BoolOp .Or (b :: rest) pos) Q Z) Z) : wE X W ρ μ (.BoolOp .Or (a :: b :: rest) pos) Q Z :=
  ⟨pe_of (pe_or h.run aE_ok) fun σ H R ⟨L, G, n, v, x⟩ => ⟨L, G, n, fun d μ1 ⟨k, e, q⟩ u L1 G1 H1 s1 o1 r1 => by
    subst e
    refine ⟨k, rep_bl.mp r1, ?_⟩
    cases k with
    | true => rw [if_pos rfl] at q ⊢; exact v _ _ q _ L1 G1 H1 s1 o1 (rep_bl.mpr rfl)
    | false => rw [if_neg (by decide)] at q ⊢; exact ⟨_, q.run, L1, G1, n.step s1 o1, v.step s1, x.step s1⟩, x⟩⟩
theorem wE_if (h : wC X W ρ μ c (fun k μ1 => if k = true then wE X W ρ μ1 a Q Z else wE X W ρ μ1 b Q Z) Z) : wE X W ρ μ (.IfExp c a b pos) Q Z :=
  ⟨pe_of (pe_ifExp h.run aE_ok aE_ok) fun σ H R ⟨L, G, n, v, x⟩ => ⟨L, G, n, fun k μ1 q L1 G1 H1 s1 o1 => by
    cases k with
    | true => exact iteT ⟨_, (show wE X W ρ μ1 a Q Z from q).run, L1, G1, n.step s1 o1, v.step s1, x.step s1⟩
    | false => exact iteF ⟨_, (show wE X W ρ μ1 b Q Z from q).run, L1, G1, n.step s1 o1, v.step s1, x.step s1⟩, x⟩⟩

/-! #### tests -/
variable {QT : KT}
theorem wC_val (h : wE X W ρ μ e (fun d μ1 => ∃ k, d = .bl k ∧ QT k μ1) Z) (he : ∀ whole, isTrue e X.env whole = (do let v ← whole; standAt e.pos; holding [v] (truthy v)) := by intro _; rfl) : wC X W ρ μ e QT Z :=
  ⟨pt_of (pt_val h.run he) fun σ H R ⟨L, G, n, v, x⟩ => ⟨L, G, n, fun d μ1 ⟨k, e, q⟩ u L1 G1 H1 s1 o1 r1 => by
    subst e
    exact ⟨k, rep_bl.mp r1, v k μ1 q L1 G1 H1 s1 o1⟩, x⟩⟩
theorem wC_cmp {op : CmpOp} (h : wE X W ρ μ a (fun da μ1 => wE X W ρ μ1 b (fun db μ2 => wB X W (compareOp op) da db μ2 (fun d μ3 => ∃ k, d = .bl k ∧ QT k μ3) Z) Z) Z) (hm : behindInMarks op b = false := by first | exact nomark _ | rfl) : wC X W ρ μ (.Compare a [op] [b] pos) QT Z := by
  refine ⟨⟨fun pins s σ H R I ⟨L, G, n, v, x⟩ => ?_⟩⟩
  refine wpAny_isTrue_Compare1 (thn (h.go I n x) fun u s1 ⟨y, da, μ1, L1, G1, H1, I1, ry, hb, st1, o1, r1⟩ => thn (hb.go I1 (n.step st1 o1) (x.step st1)) fun u2 s2 ⟨y2, db, μ2, L2, G2, H2, I2, ry2, ho, st2, o2, r2⟩ =>
    thn (ho.run pins s2 σ H2 y y2 u u2 (fun z H' => ∃ k, z = .bl k ∧ R k H') L2 G2 I2 ry ry2 o2 (r1.step st2) r2 (fun d μ3 ⟨k, e, q⟩ w L3 G3 H3 st3 o3 r3 => by
      subst e
      exact ⟨k, rep_bl.mp r3, v k μ3 q L3 G3 H3 ((st1.trans st2).trans st3) o3⟩) (x.step (st1.trans st2))) fun z s3 ⟨y, H3, I3, r3, k, e3, q3⟩ => ?_) hm
  subst e3
  cases r3
  exact wpAny_truthy_bool ⟨H3, I3, q3⟩
theorem wC_not (h : wC X W ρ μ a (fun k μ1 => QT (!k) μ1) Z) : wC X W ρ μ (.UnaryOp .Not a pos) QT Z :=
  ⟨pt_of (pt_not h.run) fun σ H R ⟨L, G, n, v, x⟩ => ⟨L, G, n, fun k μ1 q L1 G1 H1 s1 o1 => v _ _ q L1 G1 H1 s1 o1, x⟩⟩
theorem wC_bool {op} (h : wCw X W ρ μ (.BoolOp op es pos) QT Z) : wC X W ρ μ (.BoolOp op es pos) QT Z := ⟨h.run.pt⟩
theorem wCw_and1 (h : wC X W ρ μ a QT Z) : wCw X W ρ μ (.BoolOp .And [a] pos) QT Z := ⟨pw_and1 h.run⟩
theorem wCw_or1 (h : wC X W ρ μ a QT Z) : wCw X W ρ μ (.BoolOp .Or [a] pos) QT Z := ⟨pw_or1 h.run⟩
theorem wCw_and (h : wC X W ρ μ a (fun k μ1 => if k = true then wCw X W ρ μ1 (.BoolOp .And (b :: rest) pos) QT Z else QT false μ1) Z) : wCw X W ρ μ (.BoolOp .And (a :: b :: rest) pos) QT Z :=
  ⟨pw_of (pw_and h.run aW_ok) fun σ H R ⟨L, G, n, v, x⟩ => ⟨L, G, n, fun k μ1 q L1 G1 H1 s1 o1 => by
    cases k with
    | true => exact iteT ⟨_, (show wCw X W ρ μ1 _ QT Z from q).run, L1, G1, n.step s1 o1, (fun b μ' q => (v b μ' q).step s1), x.step s1⟩
    | false => exact iteF (v false μ1 q L1 G1 H1 s1 o1), x⟩⟩
theorem wCw_or (h : wC X W ρ μ a (fun k μ1 => if k = true then QT true μ1 else wCw X W ρ μ1 (.BoolOp .Or (b :: rest) pos) QT Z) Z) : wCw X W ρ μ (.BoolOp .Or (a :: b :: rest) pos) QT Z :=
  ⟨pw_of (pw_or h.run aW_ok) fun σ H R ⟨L, G, n, v, x⟩ => ⟨L, G, n, fun k μ1 q L1 G1 H1 s1 o1 => by
    cases k with
    | true => exact iteT (v true μ1 q L1 G1 H1 s1 o1)
    | false => exact iteF ⟨_, (show wCw X W ρ μ1 _ QT Z from q).run, L1, G1, n.step s1 o1, (fun b μ' q => (v b μ' q).step s1), x.step s1⟩, x⟩⟩

/-! #### arguments -/
variable {QA : KA}
theorem wA_nil (h : QA [] μ) : wA X W ρ μ [] QA Z := ⟨pa_of pa_nil fun σ H R ⟨L, G, n, v, x⟩ => v [] μ h [] L G H (.refl _ _ _) n.ok Reps.nil⟩
theorem wA_cons (h : wE X W ρ μ e (fun d μ1 => wA X W ρ μ1 es (fun ds μ2 => QA (d :: ds) μ2) Z) Z) (hs : starEach (e :: es) X.env = (false, eval e X.env) :: starEach es X.env := by rfl) : wA X W ρ μ (e :: es) QA Z :=
  ⟨pa_of (pa_cons h.run aA_ok hs) fun σ H R ⟨L, G, n, v, x⟩ => ⟨L, G, n, fun d μ1 q u L1 G1 H1 s1 o1 r1 => ⟨_, q.run, L1, G1, n.step s1 o1, fun ds μ2 q2 us L2 G2 H2 s2 o2 r2 => v _ _ q2 _ L2 G2 H2 (s1.trans s2) o2 (Reps.cons (r1.step s2) r2), x.step s1⟩, x⟩⟩
theorem wE_tup {k : Nat} (h : wA X W ρ μ es (fun ds μ1 => ds.length ≤ sizeLine ∧ Q (.tup ds) μ1) Z) : wE X W ρ μ (.Tuple es k pos) Q Z :=
  ⟨pe_of (pe_tup h.run) fun σ H R ⟨L, G, n, v, x⟩ => ⟨L, G, n, fun ds μ1 ⟨hl, q⟩ vs L1 G1 H1 s1 o1 r1 => ⟨by rw [r1.length]; exact hl, fun p hp => by
    obtain ⟨o', s'⟩ := o1.new (o := .tup vs) hp
    exact v _ _ q _ L1 _ _ (s1.trans s') o' (rep_tup.mpr ⟨p, vs, rfl, .inl (.inl upd_same), r1.step s'⟩)⟩, x⟩⟩
end
end PM

set_option Elab.async false
set_option linter.all false
set_option maxRecDepth 100000
namespace PM
open PySem L2
/-! ### statements -/
structure Ks where
  rt : KV
  bk : KN := fun _ _ => False
  ct : KN := fun _ _ => False
  xc : Addr → List Str → List D → Env' → List M → Prop := fun _ _ _ _ _ => False
abbrev Ks.z (κ : Ks) (ρ : Env') : KX := fun C ns ds μ => κ.xc C ns ds ρ μ
structure AccS (W : WX) (K : PySem.W.Frag) (L : List Addr) (G H : Hp) (D : Ends) (nx : KN) (κ : Ks) : Prop where
  nx : ∀ ρ μ, nx ρ μ → Ends' K L G H ρ μ D.nx
  bk : ∀ ρ μ, κ.bk ρ μ → Ends' K L G H ρ μ D.bk
  ct : ∀ ρ μ, κ.ct ρ μ → Ends' K L G H ρ μ D.ct
  rt : AccV K L G H κ.rt D.rt
  xc : ∀ C ns ds ρ μ, κ.xc C ns ds ρ μ → ∀ σ' dx L' G' H', Step L G H L' G' H' → Now K L' G' H' μ ρ σ' → XdAt K L' G' H' dx ns ds → W (.ref C) dx σ' H'
structure wS (X : Cx) (W : WX) (ρ : Env') (μ : List M) (st : Stmt) (nx : KN) (κ : Ks) : Prop where
  run : PS X st (fun D σ H => ∃ L G, Now X.K L G H μ ρ σ ∧ AccS W X.K L G H D nx κ)
structure wSs (X : Cx) (W : WX) (ρ : Env') (μ : List M) (st : List Stmt) (nx : KN) (κ : Ks) : Prop where
  run : PSs X st (fun D σ H => ∃ L G, Now X.K L G H μ ρ σ ∧ AccS W X.K L G H D nx κ)
structure wG (X : Cx) (W : WX) (ρ : Env') (μ : List M) (tg : Expr) (d : D) (nx : KN) : Prop where
  run : PG X tg (fun v σ H R => ∃ L G, Now X.K L G H μ ρ σ ∧ Rep X.K L G d v ∧ ∀ ρ' μ', nx ρ' μ' → Ends' X.K L G H ρ' μ' R)
section
variable {W : WX} {K : PySem.W.Frag} {L L1 : List Addr} {G H G1 H1 : Hp} {D : Ends} {nx nx' : KN} {κ : Ks} {ρ : Env'} {μ : List M} {σ : St}
theorem AccS.step (a : AccS W K L G H D nx κ) (s : Step L G H L1 G1 H1) : AccS W K L1 G1 H1 D nx κ :=
  ⟨fun ρ μ h => (a.nx ρ μ h).step s, fun ρ μ h => (a.bk ρ μ h).step s, fun ρ μ h => (a.ct ρ μ h).step s, a.rt.step s, fun C ns ds ρ μ h σ' dx L' G' H' s' => a.xc C ns ds ρ μ h σ' dx L' G' H' (s.trans s')⟩
theorem AccS.x (a : AccS W K L G H D nx κ) (n : Now K L G H μ ρ σ) : AccX W K L G H σ (κ.z ρ) := fun C ns ds μ' z dx L' G' H' s o x => a.xc C ns ds ρ μ' z σ dx L' G' H' s (n.step s o) x
end
section
variable {X : Cx} {W : WX} {ρ ρ1 : Env'} {μ μ1 μ2 : List M} {e a b c tg : Expr} {es : List Expr} {Q Q' : KV} {Z : KX} {d da db : D} {ds : List D} {pos : Pos} {nx nx' : KN} {κ : Ks} {st : Stmt} {rest A B : List Stmt} {x : Str} {N : List Str}
theorem wSs.of {q : Out} (h : PSs X rest (tS W X.K ρ μ q)) (hq : match q with | .next ρ μ => nx ρ μ | .brk ρ μ => κ.bk ρ μ | .cont ρ μ => κ.ct ρ μ | .ret d μ => κ.rt d μ | .exc C ns ds ρ μ => κ.xc C ns ds ρ μ) : wSs X W ρ μ rest nx κ :=
  ⟨pss_of h fun D σ H ⟨L, G, n, a⟩ => ⟨L, G, n, by
    cases q with
    | next ρ μ => exact a.nx ρ μ hq
    | brk ρ μ => exact a.bk ρ μ hq
    | cont ρ μ => exact a.ct ρ μ hq
    | ret d μ => exact a.rt d μ hq
    | exc C ns ds ρ μ => exact a.xc C ns ds ρ μ hq⟩⟩
theorem wS.of {q : Out} (h : PS X st (tS W X.K ρ μ q)) (hq : match q with | .next ρ μ => nx ρ μ | .brk ρ μ => κ.bk ρ μ | .cont ρ μ => κ.ct ρ μ | .ret d μ => κ.rt d μ | .exc C ns ds ρ μ => κ.xc C ns ds ρ μ) : wS X W ρ μ st nx κ :=
  ⟨ps_of h fun D σ H ⟨L, G, n, a⟩ => ⟨L, G, n, by
    cases q with
    | next ρ μ => exact a.nx ρ μ hq
    | brk ρ μ => exact a.bk ρ μ hq
    | cont ρ μ => exact a.ct ρ μ hq
    | ret d μ => exact a.rt d μ hq
    | exc C ns ds ρ μ => exact a.xc C ns ds ρ μ hq⟩⟩
theorem wSs_nil (h : nx ρ μ) : wSs X W ρ μ [] nx κ := ⟨pss_of pss_nil fun D σ H ⟨L, G, n, a⟩ => a.nx ρ μ h σ L G H (.refl _ _ _) n⟩
theorem wSs_cons (h : wS X W ρ μ st (fun ρ1 μ1 => wSs X W ρ1 μ1 rest nx κ) κ) : wSs X W ρ μ (st :: rest) nx κ :=
  ⟨pss_of (pss_cons h.run aSs_ok) fun D σ H ⟨L, G, n, a⟩ => ⟨L, G, n, fun ρ1 μ1 h1 σ1 L1 G1 H1 s1 n1 => ⟨_, h1.run, L1, G1, n1, a.step s1⟩, a.bk, a.ct, a.rt, a.xc⟩⟩
theorem wSs.imp (h : wSs X W ρ μ rest nx κ) (hn : ∀ ρ μ, nx ρ μ → nx' ρ μ) : wSs X W ρ μ rest nx' κ := ⟨pss_of h.run fun D σ H ⟨L, G, n, a⟩ => ⟨L, G, n, fun ρ μ q => a.nx ρ μ (hn ρ μ q), a.bk, a.ct, a.rt, a.xc⟩⟩
theorem wS.imp (h : wS X W ρ μ st nx κ) (hn : ∀ ρ μ, nx ρ μ → nx' ρ μ) : wS X W ρ μ st nx' κ := ⟨ps_of h.run fun D σ H ⟨L, G, n, a⟩ => ⟨L, G, n, fun ρ μ q => a.nx ρ μ (hn ρ μ q), a.bk, a.ct, a.rt, a.xc⟩⟩
/-- the store is told with less -/
theorem wSs.le (h : wSs X W ρ μ1 rest nx κ) (l : Le μ μ1) : wSs X W ρ μ rest nx κ := ⟨pss_of h.run fun D σ H ⟨L, G, n, a⟩ => ⟨L, G, ⟨l _ _ _ _ n.ok, n.env⟩, a⟩⟩
/-- the store may be told with more: some of these -/
theorem wSs.some {S : List M → Prop} (h : ∀ μ1, S μ1 → wSs X W ρ μ1 rest nx κ) (l : ∀ K L G H, Ok K L G H μ → ∃ μ1, S μ1 ∧ Ok K L G H μ1) : wSs X W ρ μ rest nx κ :=
  ⟨⟨fun pins s σ H D I ⟨L, G, n, a⟩ => by
    obtain ⟨μ1, s1, o1⟩ := l _ _ _ _ n.ok
    exact (h μ1 s1).run.run pins s σ H D I ⟨L, G, ⟨o1, n.env⟩, a⟩⟩⟩
/-- targets one by one -/
structure wGs (X : Cx) (W : WX) (ρ : Env') (μ : List M) (ts : List Expr) (ds : List D) (nx : KN) : Prop where
  run : PGs X ts (fun vs σ H R => ∃ L G, Now X.K L G H μ ρ σ ∧ Reps X.K L G ds vs ∧ ∀ ρ' μ', nx ρ' μ' → Ends' X.K L G H ρ' μ' R)
def aGs (X : Cx) (e : List Expr) : TGs := fun v σ H Q => ∃ t, PGs X e t ∧ t v σ H Q
theorem aGs_ok : PGs X es (aGs X es) := ⟨fun pins s σ H v u Q I r ⟨t, p, q⟩ => p.run pins s σ H v u Q I r q⟩
theorem wGs_nil (h : nx ρ μ) : wGs X W ρ μ [] [] nx := ⟨pgs_of pgs_nil fun v σ H R ⟨L, G, n, r, a⟩ => ⟨r.inv_nil, a _ _ h _ L G H (.refl _ _ _) n⟩⟩
theorem wGs_cons (h : wG X W ρ μ e d (fun ρ1 μ1 => wGs X W ρ1 μ1 es ds nx)) (hs : (assignEach (e :: es) X.env).map (·.2) = assign e X.env :: (assignEach es X.env).map (·.2) := by rfl) : wGs X W ρ μ (e :: es) (d :: ds) nx :=
  ⟨pgs_of (pgs_cons h.run aGs_ok hs) fun vs σ H R ⟨L, G, n, r, a⟩ => by
    obtain ⟨v, q, e, r1, r2⟩ := r.inv_cons
    exact ⟨v, q, e, L, G, n, r1, fun ρ1 μ1 q1 σ1 L1 G1 H1 s1 n1 => ⟨_, q1.run, L1, G1, n1, r2.step s1, fun ρ' μ' q' => (a ρ' μ' q').step s1⟩⟩⟩
theorem wG_tup {kk : Nat} (hc : X.calm = true) (h : wGs X W ρ μ es ds nx) (hn : (assignEach es X.env).length = ds.length := by rfl) (hst : (assignEach es X.env).findIdx? (·.1) = none := by rfl) : wG X W ρ μ (.Tuple es kk pos) (.tup ds) nx :=
  ⟨pg_of (pg_tup hc h.run hn hst) fun v σ H R ⟨L, G, n, r, a⟩ => by
    obtain ⟨a', vs, e, q, r⟩ := rep_tup.mp r
    exact ⟨a', vs, e, Same.sqT n.ok.sub q, r.length, L, G, n, r, a⟩⟩

theorem wS_expr (h : wE X W ρ μ e (fun _ μ1 => nx ρ μ1) (κ.z ρ)) (hs : swapsWith e none pos.line X.env = pure false := by rfl) : wS X W ρ μ (.Expr e pos) nx κ :=
  ⟨ps_of (ps_expr h.run hs) fun D σ H ⟨L, G, n, a⟩ => ⟨L, G, n, fun d μ1 q v L1 G1 H1 s1 o1 _ => a.nx _ _ q σ L1 G1 H1 s1 (n.step s1 o1), a.x n⟩⟩
theorem wS_asg (h : wE X W ρ μ e (fun d μ1 => wG X W ρ μ1 tg d nx) (κ.z ρ)) (hs : swapsWithSole [tg] e pos.line X.env = pure false := by rfl) (hw : swappedStores [tg] e X.env = pure none := by rfl)
    (h1 : (assignEach [tg] X.env).map (·.2) = [assign tg X.env] := by rfl) : wS X W ρ μ (.Assign [tg] e pos) nx κ :=
  ⟨ps_of (ps_asg h.run aG_ok hs hw h1) fun D σ H ⟨L, G, n, a⟩ => ⟨L, G, n, fun d μ1 q v L1 G1 H1 s1 o1 r1 => ⟨_, q.run, L1, G1, n.step s1 o1, r1, fun ρ' μ' q' => (a.nx ρ' μ' q').step s1⟩, a.x n⟩⟩
theorem wS_ret (h : wE X W ρ μ e κ.rt (κ.z ρ)) : wS X W ρ μ (.Return (some e) pos) nx κ := ⟨ps_of (ps_ret h.run) fun D σ H ⟨L, G, n, a⟩ => ⟨L, G, n, a.rt, a.x n⟩⟩
theorem wS_pass (h : nx ρ μ) : wS X W ρ μ (.Pass pos) nx κ := .of es_pass h
theorem wS_if (h : wC X W ρ μ c (fun k μ1 => if k = true then wSs X W ρ μ1 A nx κ else wSs X W ρ μ1 B nx κ) (κ.z ρ)) : wS X W ρ μ (.If c A B pos) nx κ :=
  ⟨ps_of (ps_if h.run aSs_ok aSs_ok) fun D σ H ⟨L, G, n, a⟩ => ⟨L, G, n, fun k μ1 q L1 G1 H1 s1 o1 => by
    cases k with
    | true => exact iteT ⟨_, (show wSs X W ρ μ1 A nx κ from q).run, L1, G1, n.step s1 o1, a.step s1⟩
    | false => exact iteF ⟨_, (show wSs X W ρ μ1 B nx κ from q).run, L1, G1, n.step s1 o1, a.step s1⟩, a.x n⟩⟩
/-- behind a statement all ways meet in nx' -/
theorem wSs_cut (nx' : KN) (h : wS X W ρ μ st nx' κ) (h2 : ∀ ρ1 μ1, nx' ρ1 μ1 → wSs X W ρ1 μ1 rest nx κ) : wSs X W ρ μ (st :: rest) nx κ := wSs_cons (h.imp h2)

/-! ### while -/
theorem wS_while {body : List Stmt} (Iv : Nat → KN) {m : Nat} (po : PassesOwn (model X.prog X.w) X.A X.env X.xe) (h0 : Iv m ρ μ)
    (h : ∀ m ρ μ, Iv m ρ μ → wC X W ρ μ c (fun k μ1 => if k = true then wSs X W ρ μ1 body (fun ρ2 μ2 => ∃ m', m' < m ∧ Iv m' ρ2 μ2) { κ with bk := nx, ct := fun ρ2 μ2 => ∃ m', m' < m ∧ Iv m' ρ2 μ2 } else nx ρ μ1) (κ.z ρ)) :
    wS X W ρ μ (.While c body [] pos) nx κ := by
  refine ⟨ps_of (ps_while po aT_ok aSs_ok) fun D σ H ⟨L, G, nw, a⟩ => ?_⟩
  refine ⟨fun m σ' H' => ∃ ρ' μ' L' G', Iv m ρ' μ' ∧ Now X.K L' G' H' μ' ρ' σ' ∧ AccS W X.K L' G' H' D nx κ, ⟨m, ρ, μ, L, G, h0, nw, a⟩, ?_⟩
  rintro m σ1 H1 ⟨ρ1, μ1, L1, G1, h1, n1, a1⟩
  refine ⟨_, (h m ρ1 μ1 h1).run, L1, G1, n1, fun k μ2 q L2 G2 H2 s2 o2 => ?_, a1.x n1⟩
  cases k with
  | true =>
    refine iteT ⟨fun σ3 H3 => ∃ L3 G3 ρ3 μ3 m', m' < m ∧ Iv m' ρ3 μ3 ∧ Now X.K L3 G3 H3 μ3 ρ3 σ3 ∧ AccS W X.K L3 G3 H3 D nx κ, fun σ3 H3 ⟨L3, G3, ρ3, μ3, m', hm, i3, n3, a3⟩ => ⟨m', hm, ρ3, μ3, L3, G3, i3, n3, a3⟩, _, (show wSs X W ρ1 μ2 body _ _ from q).run, L2, G2, n1.step s2 o2, ?_⟩
    have a2 := a1.step s2
    exact ⟨fun ρ3 μ3 ⟨m', hm, i3⟩ σ3 L3 G3 H3 s3 n3 => ⟨L3, G3, ρ3, μ3, m', hm, i3, n3, a2.step s3⟩, a2.nx, fun ρ3 μ3 ⟨m', hm, i3⟩ σ3 L3 G3 H3 s3 n3 => ⟨L3, G3, ρ3, μ3, m', hm, i3, n3, a2.step s3⟩, a2.rt, a2.xc⟩
  | false => exact iteF (a1.nx _ _ (show nx ρ1 μ2 from q) _ L2 G2 H2 s2 (n1.step s2 o2))

/-! ### for -/
/-- what is walked -/
structure wI (X : Cx) (W : WX) (ρ : Env') (μ : List M) (tg e : Expr) (Q : KA) (Z : KX) : Prop where
  run : PI X tg e (fun σ H R => ∃ L G, Now X.K L G H μ ρ σ ∧ (∀ ds μ', Q ds μ' → ∀ J L' G' H', Step L G H L' G' H' → Ok X.K L' G' H' μ' → JOk X.K J L' G' ds → R J H') ∧ AccX W X.K L G H σ Z)
/-- the rest of a loop -/
def wForD (X : Cx) (W : WX) (tg : Expr) (body : List Stmt) (nx : KN) (κ : Ks) : List D → KN
  | [], ρ, μ => nx ρ μ
  | d :: ds, ρ, μ => wG X W ρ μ tg d fun ρ1 μ1 => wSs X W ρ1 μ1 body (wForD X W tg body nx κ ds) { κ with bk := nx, ct := wForD X W tg body nx κ ds }
structure wFor (X : Cx) (W : WX) (tg : Expr) (body : List Stmt) (nx : KN) (κ : Ks) (ds : List D) (ρ : Env') (μ : List M) : Prop where
  run : wForD X W tg body nx κ ds ρ μ
theorem wS_for {body : List Stmt} (po : PassesOwn (model X.prog X.w) X.A X.env X.xe) (hc : X.calm = true) (h : wI X W ρ μ tg e (fun ds μ1 => wFor X W tg body nx κ ds ρ μ1) (κ.z ρ)) (hs : ∀ x, foldedSetIterable e X.env x = pure x := by intro _; rfl) : wS X W ρ μ (.For tg e body [] pos) nx κ := by
  refine ⟨ps_of (ps_for po hc h.run aG_ok aSs_ok hs) fun D σ H ⟨L, G, nw, a⟩ => ⟨L, G, nw, fun ds μ1 hf J L1 G1 H1 s1 o1 j => ?_, a.x nw⟩⟩
  refine ⟨fun i m σ' H' => m = ds.length - i ∧ i ≤ ds.length ∧ ∃ ρ' μ' L' G', wForD X W tg body nx κ (ds.drop i) ρ' μ' ∧ Pre L1 L' ∧ Same G1 G' ∧ Now X.K L' G' H' μ' ρ' σ' ∧ AccS W X.K L' G' H' D nx κ, ⟨ds.length, by simp, Nat.zero_le _, ρ, μ1, L1, G1, hf.run, .refl _, .refl _, nw.step s1 o1, a.step s1⟩, ?_⟩
  rintro i m σ2 H2 ⟨rfl, hil, ρ2, μ2, L2, G2, h2, p2, g2, n2, a2⟩
  generalize hd : ds.drop i = rest at h2
  cases rest with
  | nil =>
    have : i = ds.length := by
      have := congrArg List.length hd
      simp at this
      omega
    subst this
    exact .inl ⟨j.stop L2 G2 H2 μ2 p2 g2 n2.ok, a2.nx _ _ h2 _ L2 G2 H2 (.refl _ _ _) n2⟩
  | cons d ds' =>
    obtain ⟨e1, e2⟩ := drop_cons hd
    obtain ⟨go, yl⟩ := j.go L2 G2 H2 μ2 i d p2 g2 n2.ok e1
    have il : i < ds.length := (List.getElem?_eq_some_iff.mp e1).1
    refine .inr ⟨go, fun σ' H' => ∃ ρ' μ' L' G', wForD X W tg body nx κ ds' ρ' μ' ∧ Pre L1 L' ∧ Same G1 G' ∧ Now X.K L' G' H' μ' ρ' σ' ∧ AccS W X.K L' G' H' D nx κ, fun σ' H' ⟨ρ', μ', L', G', w', p', g', n', a'⟩ => ⟨ds.length - (i + 1), by omega, rfl, il, ρ', μ', L', G', by rw [e2]; exact w', p', g', n', a'⟩, fun x H3 y => ?_⟩
    obtain ⟨G3, s3, o3, r3⟩ := yl x H3 y
    refine ⟨_, (show wG X W ρ2 μ2 tg d _ from h2).run, L2, G3, n2.step s3 o3, r3, fun ρ4 μ4 h4 σ4 L4 G4 H4 s4 n4 => ⟨_, h4.run, L4, G4, n4, ?_⟩⟩
    have a4 := a2.step (s3.trans s4)
    have fin : ∀ ρ5 μ5, wForD X W tg body nx κ ds' ρ5 μ5 → Ends' X.K L4 G4 H4 ρ5 μ5 fun σ' H' => ∃ ρ' μ' L' G', wForD X W tg body nx κ ds' ρ' μ' ∧ Pre L1 L' ∧ Same G1 G' ∧ Now X.K L' G' H' μ' ρ' σ' ∧ AccS W X.K L' G' H' D nx κ :=
      fun ρ5 μ5 w5 σ5 L5 G5 H5 s5 n5 => ⟨ρ5, μ5, L5, G5, w5, (p2.trans s4.pre).trans s5.pre, ((g2.trans s3.gs).trans s4.gs).trans s5.gs, n5, a4.step s5⟩
    exact ⟨fin, a4.nx, fin, a4.rt, a4.xc⟩
/-- a loop by an invariant -/
theorem wFor_inv {body : List Stmt} (Iv : List D → KN) (hb : ∀ d ds ρ μ, Iv (d :: ds) ρ μ → wG X W ρ μ tg d fun ρ1 μ1 => wSs X W ρ1 μ1 body (Iv ds) { κ with bk := nx, ct := Iv ds }) (hn : ∀ ρ μ, Iv [] ρ μ → nx ρ μ) : ∀ ds ρ μ, Iv ds ρ μ → wFor X W tg body nx κ ds ρ μ := by
  suffices ∀ ds ρ μ, Iv ds ρ μ → wForD X W tg body nx κ ds ρ μ from fun ds ρ μ h => ⟨this ds ρ μ h⟩
  intro ds
  induction ds with
  | nil => intro ρ μ h; exact hn ρ μ h
  | cons d ds ih =>
    intro ρ μ h
    refine ⟨pg_of (hb d ds ρ μ h).run fun v σ H R ⟨L, G, n, r, a⟩ => ⟨L, G, n, r, fun ρ1 μ1 h1 => a ρ1 μ1 ?_⟩⟩
    refine ⟨pss_of h1.run fun D σ H ⟨L, G, n, a⟩ => ⟨L, G, n, fun ρ μ q => a.nx ρ μ (ih ρ μ q), a.bk, fun ρ μ q => a.ct ρ μ (ih ρ μ q), a.rt, a.xc⟩⟩
end
end PM

set_option Elab.async false
set_option linter.all false
set_option maxRecDepth 100000
namespace PM
open PySem L2
/-! ### defs -/
/-- what a def is asked for: any of these ends will do -/
def spH (K : PySem.W.Frag) (ds : List D) (μ : List M) (Q : KV) (Z : KX) : Sp := fun vs H R E => ∃ L G, Ok K L G H μ ∧ Reps K L G ds vs ∧ AccV K L G H Q R ∧ ∀ C ns ds' μ', Z C ns ds' μ' → ComesX K L G H C ns ds' μ' E
/-- a def: its place, its parameters, its level -/
structure Fnx where
  a : Addr
  fd : FuncData
  ps : List Str
  lv : Nat
def SpF (P : Program) (w : World) (K : PySem.W.Frag) (mg : Str → Option Value) (base : Heap) (f : Fnx) (ds : List D) (μ : List M) (Q : KV) (Z : KX) : Prop := FnG P w K mg base f.lv f.a f.fd f.ps (spH K ds μ Q Z)
abbrev SpX (X : Cx) (f : Fnx) (ds : List D) (μ : List M) (Q : KV) (Z : KX) : Prop := SpF X.prog X.w X.K X.mg X.base f ds μ Q Z
section
variable {P : Program} {w : World} {K : PySem.W.Frag} {mg : Str → Option Value} {base : Heap} {f : Fnx} {ds : List D} {μ : List M} {Q Q' : KV} {Z Z' : KX}
theorem SpF.mono (h : SpF P w K mg base f ds μ Q Z) (hq : ∀ d μ, Q d μ → Q' d μ) (hz : ∀ C ns ds μ, Z C ns ds μ → Z' C ns ds μ) : SpF P w K mg base f ds μ Q' Z' :=
  ⟨fun vs H R E ⟨L, G, ok, r, v, x⟩ => h.len vs H R E ⟨L, G, ok, r, v.mono hq, fun C ns ds' μ' z => x C ns ds' μ' (hz _ _ _ _ z)⟩,
   fun A outer s H args us vs R E room gr en bd rel ⟨L, G, ok, r, v, x⟩ => h.run A outer s H args us vs R E room gr en bd rel ⟨L, G, ok, r, v.mono hq, fun C ns ds' μ' z => x C ns ds' μ' (hz _ _ _ _ z)⟩⟩
theorem SpF.imp (h : SpF P w K mg base f ds μ Q Z) (hq : ∀ d μ, Q d μ → Q' d μ) : SpF P w K mg base f ds μ Q' Z := h.mono hq fun _ _ _ _ z => z
/-- a def whose ends are told one by one -/
theorem SpF.rel {R : Rl} (h : ∀ ds μ o, R ds μ o → SpF P w K mg base f ds μ (fun d μ' => o = .ret d μ') (fun C ns ds' μ' => o = .exc C ns ds' μ')) : FnG P w K mg base f.lv f.a f.fd f.ps (spR K R) := by
  have key : ∀ vs H Q E, spR K R vs H Q E → ∃ ds μ o, R ds μ o ∧ spH K ds μ (fun d μ' => o = .ret d μ') (fun C ns ds' μ' => o = .exc C ns ds' μ') vs H Q E := by
    rintro vs H Q E ⟨L, G, ds, μ, o, ok, r, hR, c⟩
    refine ⟨ds, μ, o, hR, L, G, ok, r, ?_, ?_⟩
    · rintro d μ' rfl
      exact c
    · rintro C ns ds' μ' rfl
      exact c
  refine ⟨fun vs H Q E q => ?_, fun A outer s H args us vs Q E room gr en bd rel q => ?_⟩
  · obtain ⟨ds, μ, o, hR, z⟩ := key vs H Q E q
    exact (h ds μ o hR).len _ _ _ _ z
  · obtain ⟨ds, μ, o, hR, z⟩ := key vs H Q E q
    exact (h ds μ o hR).run A outer s H args us vs Q E room gr en bd rel z
/-- the other way -/
theorem SpF.ofR {R : Rl} {o : FO} (h : FnG P w K mg base f.lv f.a f.fd f.ps (spR K R)) (hR : R ds μ o) (ho : o.In Q Z) : SpF P w K mg base f ds μ Q Z := by
  have key : ∀ vs H R' E, spH K ds μ Q Z vs H R' E → spR K R vs H R' E := by
    rintro vs H R' E ⟨L, G, ok, r, v, x⟩
    refine ⟨L, G, ds, μ, o, ok, r, hR, ?_⟩
    cases o with
    | ret d μ' => exact v d μ' ho
    | exc C ns ds' μ' => exact x C ns ds' μ' ho
  exact ⟨fun vs H R' E q => h.len _ _ _ _ (key _ _ _ _ q), fun A outer s H args us vs R' E room gr en bd rel q => h.run A outer s H args us vs R' E room gr en bd rel (key _ _ _ _ q)⟩
end
/-! ### what leaves a def -/
/-- things that the def has made are told as they stand at its end -/
inductive Frz (μ : List M) (b : Nat) : List D → List D → Prop
  | nil : Frz μ b [] []
  | lo {d : D} {ds es : List D} : D.lo b d = true → Frz μ b ds es → Frz μ b (d :: ds) (d :: es)
  | tup {xs ys ds es : List D} : Frz μ b xs ys → Frz μ b ds es → Frz μ b (.tup xs :: ds) (.tup ys :: es)
  | lst {xs ys ds es : List D} : Frz μ b xs ys → Frz μ b ds es → Frz μ b (.lst xs :: ds) (.lst ys :: es)
  | obj {C : Addr} {ns : List Str} {xs ys ds es : List D} : Frz μ b xs ys → Frz μ b ds es → Frz μ b (.obj C ns xs :: ds) (.obj C ns ys :: es)
  | locL {n : Nat} {xs ys ds es : List D} : b ≤ n → μ[n]? = some (.lst xs) → Frz μ b xs ys → Frz μ b ds es → Frz μ b (.loc n :: ds) (.lst ys :: es)
  | locI {n : Nat} {C : Addr} {ns : List Str} {xs ys ds es : List D} : b ≤ n → μ[n]? = some (.ins C ns xs) → Frz μ b xs ys → Frz μ b ds es → Frz μ b (.loc n :: ds) (.obj C ns ys :: es)
theorem Frz.len {μ : List M} {b : Nat} {ds es : List D} (h : Frz μ b ds es) : es.length = ds.length := by
  induction h with
  | nil => rfl
  | _ => simp [*]
theorem Frz.los {μ : List M} {b : Nat} : ∀ {ds : List D}, D.los b ds = true → Frz μ b ds ds
  | [], _ => .nil
  | d :: ds, h => by
    simp only [D.los, Bool.and_eq_true] at h
    exact .lo h.1 (Frz.los h.2)
section
variable {K : PySem.W.Frag} {L : List Addr} {G H : Hp} {μ μ2 ν : List M}
/-- the last things of the store are told, and left behind -/
theorem Ok.freeze (o : Ok K L G H (μ2 ++ ν)) (lo : μ2.all (M.lo μ2.length) = true) {L0 : List Addr} {G0 H0 : Hp} (s : Step L0 G0 H0 L G H) (hl : L0.length = μ2.length) :
    ∃ G', Step L0 G0 H0 (L.take μ2.length) G' H ∧ Same G G' ∧ Ok K (L.take μ2.length) G' H μ2 ∧ ∀ ds es vs, Frz (μ2 ++ ν) μ2.length ds es → Reps K L G ds vs → Reps K (L.take μ2.length) G' es vs := by
  classical
  have hll : L.length = μ2.length + ν.length := by rw [o.len, List.length_append]
  refine ⟨fun a => if a ∈ L.drop μ2.length then H a else G a, ?_⟩
  have sep : ∀ a, a ∈ L.take μ2.length → a ∉ L.drop μ2.length := fun a h1 h2 => by
    have := List.nodup_append.mp ((List.take_append_drop μ2.length L).symm ▸ o.nd)
    exact this.2.2 a h1 a h2 rfl
  have sg : Same G (fun a => if a ∈ L.drop μ2.length then H a else G a) := fun a u e => by
    have : a ∉ L.drop μ2.length := fun z => by
      rw [o.off a (List.mem_of_mem_drop z)] at e
      cases e
    simp only [this, if_false]
    exact e
  have c := o.cut lo
  have st := s.cut (n := μ2.length) (by omega)
  refine ⟨⟨st.pre, st.gs.trans sg, st.hs, st.fr, st.nn, fun a u e => ?_⟩, sg, ⟨fun a u e => ?_, c.len, c.nd, fun a ha => ?_, c.liv, fun n a m e1 e2 => (c.at_ n a m e1 e2).mono (.refl _) sg⟩, ?_⟩
  · by_cases z : a ∈ L.drop μ2.length
    · rcases s.fr a (List.mem_of_mem_drop z) with q | q
      · exfalso
        obtain ⟨j, hj, ej⟩ := List.getElem_of_mem q
        have e1 := s.pre j a (by rw [List.getElem?_eq_getElem hj, ej])
        refine sep a ?_ z
        rw [List.mem_iff_getElem?]
        exact ⟨j, by rw [List.getElem?_take_of_lt (by omega)]; exact e1⟩
      · exact .inr q
    · simp only [z, if_false] at e
      exact st.gf a u e
  · by_cases z : a ∈ L.drop μ2.length
    · simp only [z, if_true] at e
      exact e
    · simp only [z, if_false] at e
      exact c.sub a u e
  · simp only [sep a ha, if_false]
    exact c.off a ha
  · intro ds es vs h
    induction h generalizing vs with
    | nil => intro r; exact r.inv_nil ▸ Reps.nil
    | lo hd _ ih =>
      intro r
      obtain ⟨v, q, rfl, r1, r2⟩ := r.inv_cons
      exact Reps.cons ((r1.cut hd).mono (.refl _) sg) (ih q r2)
    | tup _ _ ih1 ih2 =>
      intro r
      obtain ⟨v, q, rfl, r1, r2⟩ := r.inv_cons
      obtain ⟨a, us, e, hq, r1⟩ := rep_tup.mp r1
      exact Reps.cons (rep_tup.mpr ⟨a, us, e, Same.sqT sg hq, ih1 us r1⟩) (ih2 q r2)
    | lst _ _ ih1 ih2 =>
      intro r
      obtain ⟨v, q, rfl, r1, r2⟩ := r.inv_cons
      obtain ⟨a, us, e, hq, r1⟩ := rep_lst.mp r1
      exact Reps.cons (rep_lst.mpr ⟨a, us, e, sg _ _ hq, ih1 us r1⟩) (ih2 q r2)
    | obj h1 _ ih1 ih2 =>
      intro r
      obtain ⟨v, q, rfl, r1, r2⟩ := r.inv_cons
      obtain ⟨a, dx, us, e, hq, z, r1⟩ := rep_obj.mp r1
      exact Reps.cons (rep_obj.mpr ⟨a, dx, us, e, sg _ _ hq, by rw [h1.len]; exact z, ih1 us r1⟩) (ih2 q r2)
    | locL hn hm _ _ ih1 ih2 =>
      intro r
      obtain ⟨v, q, rfl, r1, r2⟩ := r.inv_cons
      obtain ⟨a, ea, e⟩ := rep_loc.mp r1
      obtain ⟨us, eh, r1⟩ := o.at_ _ a _ ea hm
      have hd : a ∈ L.drop μ2.length := by
        rw [List.mem_iff_getElem?]
        exact ⟨_ - μ2.length, by rw [List.getElem?_drop, Nat.add_sub_cancel' hn]; exact ea⟩
      exact Reps.cons (rep_lst.mpr ⟨a, us, e, by simp only [hd, if_true]; exact eh, ih1 us r1⟩) (ih2 q r2)
    | locI hn hm h1 _ ih1 ih2 =>
      intro r
      obtain ⟨v, q, rfl, r1, r2⟩ := r.inv_cons
      obtain ⟨a, ea, e⟩ := rep_loc.mp r1
      obtain ⟨dx, us, eh, z, r1⟩ := o.at_ _ a _ ea hm
      have hd : a ∈ L.drop μ2.length := by
        rw [List.mem_iff_getElem?]
        exact ⟨_ - μ2.length, by rw [List.getElem?_drop, Nat.add_sub_cancel' hn]; exact ea⟩
      exact Reps.cons (rep_obj.mpr ⟨a, dx, us, e, by simp only [hd, if_true]; exact eh, by rw [h1.len]; exact z, ih1 us r1⟩) (ih2 q r2)
end
/-- what is handed back at a def's end, as the caller sees it (μ: the store at the entry) -/
inductive RetOk (μ : List M) (Q : KV) : D → List M → Prop
  | same {d : D} {μ1 : List M} : Q d μ1 → RetOk μ Q d μ1
  | cut {d d' : D} {μ2 ν : List M} : Lows μ μ2 → Frz (μ2 ++ ν) μ.length [d] [d'] → Q d' μ2 → RetOk μ Q d (μ2 ++ ν)
  | le {d : D} {μ1 μ2 : List M} : Le μ1 μ2 → RetOk μ Q d μ2 → RetOk μ Q d μ1
inductive ExcOk (μ : List M) (Z : KX) (C : Addr) (ns : List Str) : List D → List M → Prop
  | same {ds : List D} {μ1 : List M} : Z C ns ds μ1 → ExcOk μ Z C ns ds μ1
  | cut {ds ds' : List D} {μ2 ν : List M} : Lows μ μ2 → Frz (μ2 ++ ν) μ.length ds ds' → Z C ns ds' μ2 → ExcOk μ Z C ns ds (μ2 ++ ν)
  | le {ds : List D} {μ1 μ2 : List M} : Le μ1 μ2 → ExcOk μ Z C ns ds μ2 → ExcOk μ Z C ns ds μ1
theorem RetOk.new {μ ν : List M} {Q : KV} {d d' : D} (h : Frz (μ ++ ν) μ.length [d] [d']) (q : Q d' μ) : RetOk μ Q d (μ ++ ν) := .cut (.refl _) h q
theorem RetOk.low {μ ν : List M} {Q : KV} {d : D} (h : D.lo μ.length d = true) (q : Q d μ) : RetOk μ Q d (μ ++ ν) := .cut (.refl _) (.lo h .nil) q
theorem ExcOk.low {μ ν : List M} {Z : KX} {C : Addr} {ns : List Str} {ds : List D} (h : D.los μ.length ds = true) (q : Z C ns ds μ) : ExcOk μ Z C ns ds (μ ++ ν) := .cut (.refl _) (Frz.los h) q
section
variable {K : PySem.W.Frag} {L L1 : List Addr} {G H G1 H1 : Hp} {μ μ1 : List M} {Q : KV} {Z : KX} {d : D} {C : Addr} {ns : List Str} {ds : List D} {v : V} {R : VK} {E : XK}
theorem RetOk.go (h : RetOk μ Q d μ1) (ok : Ok K L G H μ) (a : AccV K L G H Q R) (s : Step L G H L1 G1 H1) (o : Ok K L1 G1 H1 μ1) (r : Rep K L1 G1 d v) : R v H1 := by
  induction h with
  | same q => exact a _ _ q v L1 G1 H1 s o r
  | cut l f q =>
    rename_i d' μ2 ν
    obtain ⟨G', s', _, o', rr⟩ := o.freeze (l.all ok) s (by rw [ok.len, l.1])
    obtain ⟨w, e, r'⟩ := (rr [d] [d'] [v] (by rw [l.1]; exact f) (Reps.cons r Reps.nil)).one
    cases e
    exact a _ _ q v _ _ H1 s' o' r'
  | le l _ ih => exact ih (l _ _ _ _ o)
theorem ExcOk.go {dx : Option Addr} (h : ExcOk μ Z C ns ds μ1) (ok : Ok K L G H μ) (a : ∀ C ns ds' μ', Z C ns ds' μ' → ComesX K L G H C ns ds' μ' E) (s : Step L G H L1 G1 H1) (o : Ok K L1 G1 H1 μ1) (x : XdAt K L1 G1 H1 dx ns ds) : E (.ref C) dx H1 := by
  induction h with
  | same q => exact a _ _ _ _ q dx L1 G1 H1 s o x
  | cut l f q =>
    obtain ⟨G', s', sg, o', rr⟩ := o.freeze (l.all ok) s (by rw [ok.len, l.1])
    refine a _ _ _ _ q dx _ _ H1 s' o' ⟨by rw [f.len]; exact x.1, ?_⟩
    rcases x.2 with z | ⟨b, vs, e1, e2, r⟩
    · exact .inl z
    · exact .inr ⟨b, vs, e1, sg _ _ e2, rr _ _ _ (by rw [l.1]; exact f) r⟩
  | le l _ ih => exact ih (l _ _ _ _ o)
end
end PM

set_option Elab.async false
set_option linter.all false
set_option maxRecDepth 100000
namespace PM
open PySem PySem.Spec L2 PyProof.Rows
section
variable {P : Program} {w : World} {K : PySem.W.Frag} {mg : Str → Option Value} {base : Heap}
/-- THE RULE for a def -/
theorem spF_of {x qual : Str} {st : Stmt} {dvs : List V} {f : Addr} {fd : FuncData} {N ps : List Str} {k : Nat} {ds : List D} {μ : List M} {Q : KV} {Z : KX} (F : FunS K x qual st dvs f fd) (S : FnScope N ps (defScope st)) (hl : ds.length = ps.length)
    (body : ∀ (cdv : Value) (A : Around) (outer : List Env) (s : Shared) (H : Hp) (E : XK), Gd (cxOf (L2.CX P w) P w K mg base N qual (defScope st) f cdv A outer s H E) (fun c d _ H => E c d H) k →
      wSs (cxOf (L2.CX P w) P w K mg base N qual (defScope st) f cdv A outer s H E) (fun c d _ H => E c d H) (startD N ds) μ (defBody st) (fun _ μ1 => RetOk μ Q .non μ1) { rt := RetOk μ Q, xc := fun C ns ds' _ μ1 => ExcOk μ Z C ns ds' μ1 }) :
    SpF P w K mg base ⟨f, fd, ps, k + 1⟩ ds μ Q Z := by
  have ln : ∀ vs H R E, spH K ds μ Q Z vs H R E → vs.length = ps.length := fun vs H R E ⟨L, G, _, r, _⟩ => r.length.trans hl
  refine ⟨ln, fun A outer s H args us vs R E room gr en bnd rel hsp => ?_⟩
  obtain ⟨oc, od, dV, kV, doc, pm, an, cdv, ct, osl, rfl, look, hcode, _, _⟩ := F.ex
  have kept : ∀ b o, base.get? b = some o → s.heap.get? b = some o := fun b o e => (en.bs b o e).1
  have kin : K.In s.heap := en.mod.kin.keeps kept
  have kinds : ∀ y ∈ ps.zip us, (defScope st).names.lookup y.1 = some .local ∨ ((defScope st).names.lookup y.1 = some .cell ∧ ((cellsFrom (s.heap.objs.size + 1) (defScope st).names []).lookup y.1).isSome = true) := by
    rintro ⟨n, v⟩ hy
    exact (S.par n (List.of_mem_zip hy).1).imp (fun q => q) fun q => ⟨q, PySem.W.cellsFrom_some _ _ _ (.inl q)⟩
  refine codeAny_call_function room.depth (kin _ _ look) rfl S.co S.gen rfl (PySem.W.codeRec_of kin hcode) (bnd _ _ _ _ (wpAny_newFunctionEnv_cells S.kind kinds fun env he s1 ent => ?_))
  subst he
  refine ⟨(en.mod.nolimit.keeps kept).keeps ent.toInCall.keep, codeAny_func ?_⟩
  have hlen := ln _ _ _ _ hsp
  obtain ⟨L, G, ok, rr, av, ax⟩ := hsp
  have ht := body cdv A outer s H E ⟨rfl, S.nd, takes_of rfl rfl rfl rfl, passes_of rfl, room.deeper _, gr.mono (Nat.le_succ _)⟩
  have inv : Inv (cxOf (L2.CX P w) P w K mg base N qual (defScope st) f cdv A outer s H E) [] (L2.start N vs) H s1 := inv_start S room.hd en hlen rel ent
  refine wpAny_mono (ht.run.run [] s1 (L2.start N vs) H { nx := fun _ H' => R .non H', rt := R } inv ⟨L, G, ⟨ok, start_rep rr⟩, ?_⟩) (fun fl s' hs => ?_) fun e s' hs => hs
  · exact ⟨fun ρ1 μ1 q σ' L' G' H' s' n' => q.go ok av s' n'.ok (rep_non.mpr rfl), fun _ _ z => z.elim, fun _ _ z => z.elim, fun d μ1 q v L' G' H' s' o' r' => q.go ok av s' o' r', fun C ns ds' ρ1 μ1 q σ' dx L' G' H' s' n' x' => q.go ok ax s' n'.ok x'⟩
  match fl, hs with
  | .ret u, ⟨v, σ', H', J, rv, q⟩ => exact ⟨v, H', J.os, J.bare, J.base, J.hok, rv, q⟩
  | .next, ⟨σ', H', J, q⟩ => exact ⟨.non, H', J.os, J.bare, J.base, J.hok, rfl, q⟩
  | .brk, ⟨_, _, _, q⟩ => exact q.elim
  | .cont, ⟨_, _, _, q⟩ => exact q.elim
end
section
variable {X : Cx} {W : WX} {k : Nat} {ρ : Env'} {μ μ1 μ2 : List M} {e a b ob : Expr} {es : List Expr} {Q Q' : KV} {Z : KX} {d da db : D} {ds ds' : List D} {p pos apos : Pos} {x m : Str} {f : Fnx} {C : Addr} {pl : Sem Bool} {i : Int}
/-- a def's call, by values -/
theorem SpF.call (h : SpX X f ds μ Q Z) (bd : Binds X.K f.fd f.ps []) (g : Gd X W k) (hj : f.lv ≤ k) : wF X W (fun us => call (.ref f.a) us) ds μ Q Z := by
  refine ⟨fun pins s σ H xs us R L G I rx ok r av ax => ?_⟩
  ·
    have hsp : spH X.K ds μ Q Z xs H R (WE W σ) := ⟨L, G, ok, r, av, ax⟩
    have hl : us.length = f.ps.length := by rw [← rx.length]; exact h.len _ _ _ _ hsp
    have b := bd s us I.kIn (by rw [List.append_nil]; exact hl)
    rw [List.append_nil] at b
    exact run_fnG (E := WE W σ) h (g.hr.mono hj) (g.gr.mono hj) b (passAt g.tk σ) I rx hsp
/-- arguments, then a call -/
theorem wA.call {fn : List Value → Sem Value} (h : wA X W ρ μ es (fun ds μ1 => wF X W fn ds μ1 Q Z) Z) {pins : List (Addr × Obj)} {s : Shared} {σ : L2.St} {H : Hp} {L : List Addr} {G : Hp} {R : VK} (I : Inv X pins σ H s) (n : Now X.K L G H μ ρ σ) (v : AccV X.K L G H Q R) (z : AccX W X.K L G H σ Z) (pos : Pos) :
    wpAny (model X.prog X.w) X.A (spliced (backTo pos (starEach es X.env))) (fun us s1 => X.K.In s1.heap ∧ wpAny (model X.prog X.w) X.A (fn us) (EP X pins σ R) X.xe s1) X.xe s :=
  thn (h.go I n z pos) fun us s1 ⟨vs, ds, μ1, L1, G1, H1, I1, rv, q, st, o, r⟩ => ⟨I1.kIn, q.run pins s1 σ H1 vs us R L1 G1 I1 rv o r (v.step st) (z.step st)⟩
theorem wE_call (f : Fnx) (g : Gd X W k) (hm : X.mg x = some (.ref f.a)) (hk : PySem.W.keepIn X.K (.ref f.a) = true) (bd : Binds X.K f.fd f.ps []) (h : wA X W ρ μ (e :: es) (fun ds μ1 => SpX X f ds μ1 Q Z) Z) (hj : f.lv ≤ k := by exact Nat.le_of_ble_eq_true rfl) (hg : Gl X x := by rfl)
    (hdb : (x == ("__debug__" : Str)) = false := by decide) (he : starEach (e :: es) X.env = (false, eval e X.env) :: starEach es X.env := by rfl) (hpl : (backTo pos (starEach es X.env)).any (·.1) = false := by rfl) :
    wE X W ρ μ (.Call (.Name x p) (e :: es) [] pos) Q Z :=
  .by fun pins s σ H R L G I n v z => wpAny_Call_Name_kw (ld_glob I hg hm (PySem.W.callWith_K (h₀ := X.base) I.ok.mod.kin hk (wA.call (fn := fun us => call (.ref f.a) us) ⟨pa_of h.run fun σ H R ⟨L, G, n, v, x⟩ => ⟨L, G, n, fun ds μ' q => v ds μ' (q.call bd g hj), x⟩⟩ I n v z pos) he hpl) hdb)
/-- o.f, a field -/
theorem wE_fld (h : wE X W ρ μ ob (fun d μ1 => ∃ ns fs, (d = .obj C ns fs ∨ ∃ i : Nat, d = .loc i ∧ μ1[i]? = some (.ins C ns fs)) ∧ ∃ d', fldOf ns fs m = some d' ∧ Q d' μ1) Z) (c : Cls X.K C) (na : NoAttr X.K C m) (hb : attributeBase ob m X.env (eval ob X.env) = eval ob X.env := by rfl) : wE X W ρ μ (.Attribute ob m pos) Q Z :=
  ⟨pe_of (pe_fld h.run hb) fun σ H R ⟨L, G, nw, av, ax⟩ => ⟨L, G, nw, fun d μ1 ⟨ns, fs, hd, d', hf, q⟩ v L1 G1 H1 s1 o1 r1 => by
    rcases hd with rfl | ⟨i, rfl, hi⟩
    · obtain ⟨a, dx, vs, ev, eg, _, rr⟩ := rep_obj.mp r1
      obtain ⟨u, l, ru⟩ := fld_rep rr hf
      exact ⟨a, C, dx, _, u, ev, o1.sub _ _ eg, c, na, l, av _ _ q u L1 G1 H1 s1 o1 ru⟩
    · obtain ⟨a, ea, ev⟩ := rep_loc.mp r1
      obtain ⟨dx, vs, eh, _, rr⟩ := o1.at_ i a _ ea hi
      obtain ⟨u, l, ru⟩ := fld_rep rr hf
      exact ⟨a, C, dx, _, u, ev, eh, c, na, l, av _ _ q u L1 G1 H1 s1 o1 ru⟩, ax⟩⟩
/-- a module's name: a constant, a class -/
theorem wE_glob {u : Value} {v : V} (hm : X.mg x = some u) (r : RelV v u) (rd : ∀ L G, Rep X.K L G d v) (h : Q d μ) (hg : Gl X x := by rfl) (hd : (x == ("__debug__" : Str)) = false := by decide) : wE X W ρ μ (.Name x pos) Q Z := .ofV (ev_glob hg hm r rd hd) h
theorem wE_bty {T : String} (hm : X.mg x = none) (hv : bootBuiltins x = some (.type T)) (h : Q (.ty T) μ) (hg : Gl X x := by rfl) (hn : x ≠ "__name__" := by decide) (hd : (x == ("__debug__" : Str)) = false := by decide) : wE X W ρ μ (.Name x pos) Q Z := .ofV (ev_bty hg hm hv hn hd) h
/-- built-ins -/
theorem wE_blt {id : String} (hm : X.mg x = none) (hv : bootBuiltins x = some (.builtin id)) (h : wA X W ρ μ (e :: es) (fun ds μ1 => wF X W (fun us => call (.builtin id) us) ds μ1 Q Z) Z) (hg : Gl X x := by rfl) (hn : x ≠ "__name__" := by decide) (hdb : (x == ("__debug__" : Str)) = false := by decide)
    (he : starEach (e :: es) X.env = (false, eval e X.env) :: starEach es X.env := by rfl) (hpl : (backTo pos (starEach es X.env)).any (·.1) = false := by rfl) : wE X W ρ μ (.Call (.Name x p) (e :: es) [] pos) Q Z := by
  refine .by fun pins s σ H R L G I n v z => ?_
  refine PyProof.Rows.Call_ (ld_blt I hg hm hv ?_ hn hdb)
  refine PyProof.Rows.callWith_builtin1 (thn (h.go I n z pos) fun us s1 ⟨vs, ds, μ1, L1, G1, H1, I1, rv, q, st, o, r⟩ => ?_) he hpl
  exact q.run pins s1 σ H1 vs us R L1 G1 I1 rv o r (v.step st) (z.step st)
theorem wE_bcl {T : String} (hm : X.mg x = none) (hv : bootBuiltins x = some (.type T)) (h : wA X W ρ μ (e :: es) (fun ds μ1 => wF X W (fun us => call (.type T) us) ds μ1 Q Z) Z) (hg : Gl X x := by rfl) (hn : x ≠ "__name__" := by decide) (hdb : (x == ("__debug__" : Str)) = false := by decide)
    (he : starEach (e :: es) X.env = (false, eval e X.env) :: starEach es X.env := by rfl) (hpl : (backTo pos (starEach es X.env)).any (·.1) = false := by rfl) : wE X W ρ μ (.Call (.Name x p) (e :: es) [] pos) Q Z := by
  refine .by fun pins s σ H R L G I n v z => ?_
  refine PyProof.Rows.Call_ (ld_blt I hg hm hv ?_ hn hdb)
  refine PyProof.Rows.callWith_type1 (thn (h.go I n z pos) fun us s1 ⟨vs, ds, μ1, L1, G1, H1, I1, rv, q, st, o, r⟩ => ?_) he hpl
  exact q.run pins s1 σ H1 vs us R L1 G1 I1 rv o r (v.step st) (z.step st)
/-- a list that nobody will change -/
theorem wE_lst (h : wA X W ρ μ es (fun ds μ1 => ds.length ≤ sizeLine ∧ Q (.lst ds) μ1) Z) : wE X W ρ μ (.List es pos) Q Z :=
  ⟨pe_of (pe_lst h.run) fun σ H R ⟨L, G, n, v, x⟩ => ⟨L, G, n, fun ds μ1 ⟨hl, q⟩ vs L1 G1 H1 s1 o1 r1 => ⟨by rw [r1.length]; exact hl, fun p hp => by
    obtain ⟨o', s'⟩ := o1.new (o := .lst vs) hp
    exact v _ _ q _ L1 _ _ (s1.trans s') o' (rep_lst.mpr ⟨p, vs, rfl, upd_same, r1.step s'⟩)⟩, x⟩⟩
/-- a list of the store -/
theorem wE_lstL (h : wA X W ρ μ es (fun ds μ1 => ds.length ≤ sizeLine ∧ Q (.loc μ1.length) (μ1 ++ [.lst ds])) Z) : wE X W ρ μ (.List es pos) Q Z :=
  ⟨pe_of (pe_lst h.run) fun σ H R ⟨L, G, n, v, x⟩ => ⟨L, G, n, fun ds μ1 ⟨hl, q⟩ vs L1 G1 H1 s1 o1 r1 => ⟨by rw [r1.length]; exact hl, fun p hp => by
    obtain ⟨o', s'⟩ := o1.alloc (o := .lst vs) (m := .lst ds) hp ⟨vs, upd_same, r1.mono .app (.refl _)⟩
    exact v _ _ q _ _ _ _ (s1.trans s') o' (rep_loc.mpr ⟨p, by rw [← o1.len]; exact last_get L1 p, rfl⟩)⟩, x⟩⟩

/-! ### subscripts -/
structure wX (X : Cx) (W : WX) (da db : D) (μ : List M) (Q : KV) (Z : KX) : Prop where
  run : ∀ (value slice : Expr) (pins : List (Addr × Obj)) (s : Shared) (σ : L2.St) (H : Hp) (x y : V) (v u : Value) (R : VK) (L : List Addr) (G : Hp), Inv X pins σ H s → RelV x v → RelV y u → Ok X.K L G H μ → Rep X.K L G da x → Rep X.K L G db y → AccV X.K L G H Q R → AccX W X.K L G H σ Z →
    subscripted slice false v u = operate [v, u] (getItem v u) → wpAny (model X.prog X.w) X.A (subscriptTail value slice v u) (EP X pins σ R) X.xe s
theorem wE_sub (h : wE X W ρ μ a (fun da μ1 => wE X W ρ μ1 b (fun db μ2 => wX X W da db μ2 Q Z) Z) Z) (hs : PlainIx b := by exact fun _ _ => rfl) : wE X W ρ μ (.Subscript a b pos) Q Z :=
  .by fun pins s σ H R L G I n v z => PyProof.Rows.Subscript_ (thn (h.go I n z) fun u s1 ⟨y, da, μ1, L1, G1, H1, I1, ry, hb, st1, o1, r1⟩ => thn (hb.go I1 (n.step st1 o1) (z.step st1)) fun u2 s2 ⟨y2, db, μ2, L2, G2, H2, I2, ry2, ho, st2, o2, r2⟩ =>
    ho.run a b pins s2 σ H2 y y2 u u2 R L2 G2 I2 ry ry2 o2 (r1.step st2) r2 (v.step (st1.trans st2)) (z.step (st1.trans st2)) (hs _ _))
theorem wX_at (hd : Ixd μ da ds) (h : atI ds i = some d) (q : Q d μ) : wX X W da (.int i) μ Q Z := by
  refine ⟨fun value slice pins s σ H x y v u R L G I rx ry ok r1 r2 av ax hs => ?_⟩
  have e2 := rep_int.mp r2
  rcases hd with rfl | rfl | rfl | ⟨k, rfl, hk⟩
  · obtain ⟨p, vs, e, hq, rr⟩ := rep_tup.mp r1
    obtain ⟨z, ez, rz⟩ := atI_rep rr h
    exact ix_tup value slice pins s σ H x y v u R I rx ry ⟨p, vs, i, z, e, e2, Same.sqT ok.sub hq, ez, av _ _ q z L G H (.refl _ _ _) ok rz⟩ hs
  · obtain ⟨p, vs, e, hq, rr⟩ := rep_lst.mp r1
    obtain ⟨z, ez, rz⟩ := atI_rep rr h
    exact ix_list value slice pins s σ H x y v u R I rx ry ⟨p, vs, i, z, e, e2, SqL.of (ok.sub _ _ hq), ez, av _ _ q z L G H (.refl _ _ _) ok rz⟩ hs
  · obtain ⟨p, vs, e, hq, rr⟩ := rep_scr.mp r1
    obtain ⟨z, ez, rz⟩ := atI_rep rr h
    exact ix_list value slice pins s σ H x y v u R I rx ry ⟨p, vs, i, z, e, e2, Same.sqL ok.sub hq, ez, av _ _ q z L G H (.refl _ _ _) ok rz⟩ hs
  · obtain ⟨p, ea, e⟩ := rep_loc.mp r1
    obtain ⟨vs, eh, rr⟩ := ok.at_ k p _ ea hk
    obtain ⟨z, ez, rz⟩ := atI_rep rr h
    exact ix_list value slice pins s σ H x y v u R I rx ry ⟨p, vs, i, z, e, e2, SqL.of eh, ez, av _ _ q z L G H (.refl _ _ _) ok rz⟩ hs
theorem atI_ofNat {α : Type} {l : List α} {n : Nat} {y : α} (h : l[n]? = some y) : atI l (n : Int) = some y := by
  unfold atI ixN
  have := (List.getElem?_eq_some_iff.mp h).1
  rw [if_pos (by omega), if_pos (by omega)]
  simpa using h
/-- some place of a sequence -/
theorem wX_some (hd : Ixd μ da ds) (h0 : 0 ≤ i) (h1 : i < ds.length) (q : ∀ (n : Nat) d, ds[n]? = some d → i = n → Q d μ) : wX X W da (.int i) μ Q Z := by
  have hn : i.toNat < ds.length := by omega
  have e : i = (i.toNat : Int) := by omega
  rw [e]
  exact wX_at hd (atI_ofNat (List.getElem?_eq_getElem hn)) (q _ _ (List.getElem?_eq_getElem hn) e)
inductive Ints : List D → List Int → Prop
  | nil : Ints [] []
  | cons {i : Int} {ds : List D} {is : List Int} : Ints ds is → Ints (.int i :: ds) (i :: is)
theorem Ints.get {ds : List D} {is : List Int} (h : Ints ds is) : ∀ (n : Nat) d, ds[n]? = some d → ∃ i, d = .int i ∧ is[n]? = some i := by
  induction h with
  | nil => intro n d e; simp at e
  | cons h ih =>
    intro n d e
    cases n with
    | zero => simp only [List.getElem?_cons_zero, Option.some.injEq] at e; exact ⟨_, e.symm, rfl⟩
    | succ n => simp only [List.getElem?_cons_succ] at e ⊢; exact ih n d e
theorem Ints.len {ds : List D} {is : List Int} (h : Ints ds is) : ds.length = is.length := by
  induction h with
  | nil => rfl
  | cons _ ih => simp [ih]
/-- one of some ints -/
theorem wX_ints {is : List Int} (hd : Ixd μ da ds) (hi : Ints ds is) (h0 : 0 ≤ i) (h1 : i < is.length) (q : ∀ v, v ∈ is → Q (.int v) μ) : wX X W da (.int i) μ Q Z :=
  wX_some hd h0 (by rw [hi.len]; exact h1) fun n d e _ => by
    obtain ⟨v, rfl, e2⟩ := hi.get n d e
    exact q v (List.mem_of_getElem? e2)
end
end PM

set_option Elab.async false
set_option linter.all false
set_option maxRecDepth 100000
namespace PM
open PySem L2
section
variable {X : Cx} {W : WX} {k : Nat} {ρ : Env'} {μ μ1 ν : List M} {Q : KV} {Z : KX} {QT : KT} {i j : Int} {x y : Str} {a b : Bool} {d : D} {ds : List D} {n : Nat}
/-! leaves: ints -/
theorem wB_add (h : Q (.int (i + j)) μ) : wB X W (binaryOp .Add) (.int i) (.int j) μ Q Z := .ofV oo_add h
theorem wB_sub (h : Q (.int (i - j)) μ) : wB X W (binaryOp .Sub) (.int i) (.int j) μ Q Z := .ofV oo_sub h
theorem wB_mul (c : CMulW i j) (h : Q (.int (i * j)) μ) : wB X W (binaryOp .Mult) (.int i) (.int j) μ Q Z := .ofV (oo_mul c) h
theorem wB_mulR (c : -(2 ^ 64) < j ∧ j < 2 ^ 64) (h : Q (.int (i * j)) μ) : wB X W (binaryOp .Mult) (.int i) (.int j) μ Q Z := .ofV (oo_mulS (.inr c)) h
theorem wB_mulL (c : -(2 ^ 64) < i ∧ i < 2 ^ 64) (h : Q (.int (i * j)) μ) : wB X W (binaryOp .Mult) (.int i) (.int j) μ Q Z := .ofV (oo_mulS (.inl c)) h
theorem wB_fdiv (c : CDivW i j) (h : Q (.int (i / j)) μ) : wB X W (binaryOp .FloorDiv) (.int i) (.int j) μ Q Z := .ofV (oo_fdiv c) h
theorem wB_fdivS (c : 0 < j ∧ j < 1073741824) (h : Q (.int (i / j)) μ) : wB X W (binaryOp .FloorDiv) (.int i) (.int j) μ Q Z := .ofV (oo_fdivS c) h
theorem wB_mod (c : 0 < j) (h : Q (.int (i % j)) μ) : wB X W (binaryOp .Mod) (.int i) (.int j) μ Q Z := .ofV (oo_mod c) h
theorem wB_pow (c : CPow i j) (h : Q (.int (i ^ j.toNat)) μ) : wB X W (binaryOp .Pow) (.int i) (.int j) μ Q Z := .ofV (oo_pow c) h
theorem wB_pow5 (h : Q (.int 100000) μ) : wB X W (binaryOp .Pow) (.int 10) (.int 5) μ Q Z := wB_pow ⟨by decide, by decide, by decide⟩ h
theorem wB_pow6 (h : Q (.int 1000000) μ) : wB X W (binaryOp .Pow) (.int 10) (.int 6) μ Q Z := wB_pow ⟨by decide, by decide, by decide⟩ h
theorem wB_pow7 (h : Q (.int 10000000) μ) : wB X W (binaryOp .Pow) (.int 10) (.int 7) μ Q Z := wB_pow ⟨by decide, by decide, by decide⟩ h
theorem wB_pow8 (h : Q (.int 100000000) μ) : wB X W (binaryOp .Pow) (.int 10) (.int 8) μ Q Z := wB_pow ⟨by decide, by decide, by decide⟩ h
theorem wB_pow9 (h : Q (.int 1000000000) μ) : wB X W (binaryOp .Pow) (.int 10) (.int 9) μ Q Z := wB_pow ⟨by decide, by decide, by decide⟩ h
theorem wB_pow18 (h : Q (.int 1000000000000000000) μ) : wB X W (binaryOp .Pow) (.int 10) (.int 18) μ Q Z := wB_pow ⟨by decide, by decide, by decide⟩ h
theorem wB_lt (h : Q (.bl (decide (i < j))) μ) : wB X W (compareOp .Lt) (.int i) (.int j) μ Q Z := .ofV oc_lt h
theorem wB_le (h : Q (.bl (decide (i ≤ j))) μ) : wB X W (compareOp .LtE) (.int i) (.int j) μ Q Z := .ofV oc_le h
theorem wB_gt (h : Q (.bl (decide (j < i))) μ) : wB X W (compareOp .Gt) (.int i) (.int j) μ Q Z := .ofV oc_gt h
theorem wB_ge (h : Q (.bl (decide (j ≤ i))) μ) : wB X W (compareOp .GtE) (.int i) (.int j) μ Q Z := .ofV oc_ge h
theorem wB_eq (h : Q (.bl (decide (i = j))) μ) : wB X W (compareOp .Eq) (.int i) (.int j) μ Q Z := .ofV oc_eq h
theorem wB_ne (h : Q (.bl (!decide (i = j))) μ) : wB X W (compareOp .NotEq) (.int i) (.int j) μ Q Z := .ofV oc_ne h
theorem wB_eqT (h : Q (.bl (decide (x = y))) μ) : wB X W (compareOp .Eq) (.str x) (.str y) μ Q Z := .ofV oc_eqT h
theorem wB_neT (h : Q (.bl (!decide (x = y))) μ) : wB X W (compareOp .NotEq) (.str x) (.str y) μ Q Z := .ofV oc_neT h
theorem wB_eqB (h : Q (.bl (decide (a = b))) μ) : wB X W (compareOp .Eq) (.bl a) (.bl b) μ Q Z := .ofV oc_eqB h
theorem wB_neB (h : Q (.bl (!decide (a = b))) μ) : wB X W (compareOp .NotEq) (.bl a) (.bl b) μ Q Z := .ofV oc_neB h
theorem wB_is (h : Q (.bl d.isN) μ) : wB X W (compareOp .Is) d .non μ Q Z := .ofV oc_is h
theorem wB_isNot (h : Q (.bl (!d.isN)) μ) : wB X W (compareOp .IsNot) d .non μ Q Z := .ofV oc_isNot h
theorem wB_cat (c : x.length + y.length ≤ sizeLine) (h : Q (.str (x ++ y)) μ) : wB X W (binaryOp .Add) (.str x) (.str y) μ Q Z := .ofV (oo_cat c) h
theorem wB_catL {es : List D} (c : ds.length + es.length ≤ sizeLine) (h : Q (.lst (ds ++ es)) μ) : wB X W (binaryOp .Add) (.lst ds) (.lst es) μ Q Z := .ofV (oo_catL c) h
theorem wU_neg (h : Q (.int (-i)) μ) : wU X W (unaryOp .USub) (.int i) μ Q Z := .ofV ou_neg h
/-! leaves: built-ins -/
theorem wF_abs (h : Q (.int (i.natAbs : Nat)) μ) : wF X W (fun us => call (.builtin "abs") us) [.int i] μ Q Z := .ofV cb_abs (by
  rw [show (if i < 0 then -i else i) = ((i.natAbs : Nat) : Int) by split <;> omega]; exact h)
theorem wF_max (g : Gd X W k) (h : Q (.int (max i j)) μ) : wF X W (fun us => call (.builtin "max") us) [.int i, .int j] μ Q Z := .ofV (cb_max g.calm) (by
  rw [show (if j > i then j else i) = max i j by split <;> omega]; exact h)
theorem wF_min (g : Gd X W k) (h : Q (.int (min i j)) μ) : wF X W (fun us => call (.builtin "min") us) [.int i, .int j] μ Q Z := .ofV (cb_min g.calm) (by
  rw [show (if j < i then j else i) = min i j by split <;> omega]; exact h)
theorem wF_intB (h : Q (.int (if b = true then 1 else 0)) μ) : wF X W (fun us => call (.type "int") us) [.bl b] μ Q Z := .ofV ct_intB h
theorem wF_boolB (h : Q (.bl b) μ) : wF X W (fun us => call (.type "bool") us) [.bl b] μ Q Z := .ofV ct_boolB h
theorem wF_strI (c : i.natAbs.log2 < 1920) (h : Q (.str (toString i)) μ) : wF X W (fun us => call (.type "str") us) [.int i] μ Q Z := .ofV (ct_strI c) h
theorem wF_len (c : Ixd μ d ds) (h : Q (.int ds.length) μ) : wF X W (fun us => call (.builtin "len") us) [d] μ Q Z := by
  rcases c with rfl | rfl | rfl | ⟨n, rfl, e⟩
  · exact .ofV (cb_len _ (.inl rfl)) h
  · exact .ofV (cb_len _ (.inr (.inl rfl))) h
  · exact .ofV (cb_len _ (.inr (.inr rfl))) h
  · exact .ofV (cb_lenL e) h
theorem wF_lenS (c : y.length ≤ sizeLine) (h : Q (.int y.length) μ) : wF X W (fun us => call (.builtin "len") us) [.str y] μ Q Z := .ofV (cb_lenS c) h
theorem wF_all {bs : List Bool} (g : Gd X W k) (h : Q (.bl (bs.all id)) μ) : wF X W (fun us => call (.builtin "all") us) [.lst (bs.map D.bl)] μ Q Z := .ofV (cb_all g.calm) h
theorem wF_isi {c : D} {t u : Value} (y : TyD X.K d t) (kk : ClD c u) (hk : PySem.W.kitOne X.K t u = some b) (h : Q (.bl b) μ) : wF X W (fun us => call (.builtin "isinstance") us) [d, c] μ Q Z := .ofV (cb_isi y kk hk) h
/-! branches -/
theorem br_dec {p : Prop} [Decidable p] {A B : Prop} (h1 : p → A) (h2 : ¬p → B) : if decide p = true then A else B := by
  by_cases h : p
  · rw [if_pos (decide_eq_true h)]; exact h1 h
  · rw [if_neg (by simpa using h)]; exact h2 h
theorem br_T {k : Bool} {A B : Prop} (hk : k = true) (h : A) : if k = true then A else B := by rw [if_pos hk]; exact h
theorem br_F {k : Bool} {A B : Prop} (hk : k = false) (h : B) : if k = true then A else B := by rw [if_neg (by simp [hk])]; exact h
/-! the store -/
theorem at_left {m : M} (h : μ[n]? = some m) : (μ ++ ν)[n]? = some m := by
  rw [List.getElem?_append_left (List.getElem?_eq_some_iff.mp h).1]; exact h
theorem at_new {m : M} {q : Nat} (h : ν[q]? = some m) : (μ ++ ν)[μ.length + q]? = some m := by
  rw [List.getElem?_append_right (by omega), Nat.add_sub_cancel_left]; exact h
theorem at_last {m : M} : (μ ++ [m])[μ.length]? = some m := by simp
theorem set_last {m m' : M} : (μ ++ [m]).set μ.length m' = μ ++ [m'] := by
  rw [List.set_append_right _ _ (Nat.le_refl _), Nat.sub_self]; rfl
/-! lists of the store -/
variable {e o : Expr} {es : List Expr} {p pos apos : Pos}
theorem wE_append (h : wE X W ρ μ o (fun d0 μ1 => ∃ n : Nat, d0 = .loc n ∧ (∃ ds', μ1[n]? = some (.lst ds')) ∧ wE X W ρ μ1 e (fun d μ2 => ∃ ds, μ2[n]? = some (.lst ds) ∧ ds.length < sizeLine ∧ Q .non (μ2.set n (.lst (ds ++ [d])))) Z) Z)
    (hbase : attributeBase o "append" X.env (eval o X.env) = eval o X.env := by rfl)
    (hfew : ((backTo pos (starEach [e] X.env)).all (fun x => !x.1) && (backToKw pos (keywordEach [] X.env)).all (fun x => x.1.isSome) && decide ([e].length + ([] : List Keyword).length + (if ([] : List Keyword).isEmpty then 0 else 1) < 30)) = true := by rfl)
    (hline : (apos.endLine == pos.line) = true := by rfl) (hs : starEach [e] X.env = (false, eval e X.env) :: starEach [] X.env := by rfl) :
    wE X W ρ μ (.Call (.Attribute o "append" apos) [e] [] pos) Q Z := by
  refine ⟨pe_of (pe_bm PySem.F.plainAttrs_list PySem.F.slot_list_append PySem.F.type_list_append mt_append h.run (pa_cons aE_ok pa_nil hs) hbase hfew hline hs) fun σ H R ⟨L, G, nw, v, x⟩ => ⟨L, G, nw, fun d0 μ1 ⟨n, ed, ⟨ds', hn1⟩, h2⟩ u L1 G1 H1 s1 o1 r1 => ?_, x⟩⟩
  subst ed
  obtain ⟨p, ea, eu⟩ := rep_loc.mp r1
  obtain ⟨vs1, eh1, _⟩ := o1.at_ n p _ ea hn1
  refine ⟨by rw [eu]; exact .inl ⟨rfl, _, SqL.of eh1⟩, _, h2.run, L1, G1, nw.step s1 o1, fun d μ2 ⟨ds, hn, hl, q⟩ w L2 G2 H2 s2 o2 r2 => ?_, x.step s1⟩
  have ea2 := s2.pre _ _ ea
  obtain ⟨vs, eh, rr⟩ := o2.at_ n p _ ea2 hn
  refine ⟨p, vs, w, eu, rfl, eh, by rw [rr.length]; exact hl, ?_⟩
  obtain ⟨o3, s3⟩ := o2.write (o := .lst (vs ++ [w])) (m := .lst (ds ++ [d])) ea2 ⟨_, upd_same, rr.append (Reps.cons r2 Reps.nil)⟩
  exact v _ _ q _ L2 G2 _ ((s1.trans s2).trans s3) o3 (rep_non.mpr rfl)
/-- x[i] = e, x a list of the store -/
theorem wS_ix {nx : KN} {κ : Ks} {ia : Expr} {pos' : Pos} (h : wE X W ρ μ e (fun d μ1 => wE X W ρ μ1 o (fun d0 μ2 => wE X W ρ μ2 ia (fun di μ3 => ∃ (n : Nat) (i : Int) (ds : List D) (k : Nat), d0 = .loc n ∧ di = .int i ∧ μ3[n]? = some (.lst ds) ∧ ixN ds.length i = some k ∧ nx ρ (μ3.set n (.lst (ds.set k d)))) (κ.z ρ)) (κ.z ρ)) (κ.z ρ))
    (hs : swapsWithSole [.Subscript o ia pos'] e pos.line X.env = pure false := by rfl) (hw : swappedStores [.Subscript o ia pos'] e X.env = pure none := by rfl)
    (h3 : (assignEach [.Subscript o ia pos'] X.env).map (·.2) = [assign (.Subscript o ia pos') X.env] := by rfl)
    (hp : ∀ v, assign (.Subscript o ia pos') X.env v = (do
      let ov ← holding [v] (eval o X.env)
      let iv ← holding [v, ov] (eval ia X.env)
      standAt pos'
      holding [v, ov, iv] (setItem ov iv v)
      release [v, ov, iv] []) := by intro _; rfl) : wS X W ρ μ (.Assign [.Subscript o ia pos'] e pos) nx κ := by
  refine ⟨ps_of (ps_asg h.run (pg_sub aE_ok aE_ok set_list hp) hs hw h3) fun D σ H ⟨L, G, nw, a⟩ => ⟨L, G, nw, fun d μ1 h2 v L1 G1 H1 s1 o1 r1 => ⟨_, h2.run, L1, G1, nw.step s1 o1, fun d0 μ2 h3 u L2 G2 H2 s2 o2 r2 => ⟨_, h3.run, L2, G2, (nw.step s1 o1).step s2 o2, fun di μ3 h4 w L3 G3 H3 s3 o3 r3 => ?_, ((a.x nw).step s1).step s2⟩, (a.x nw).step s1⟩, a.x nw⟩⟩
  obtain ⟨n, i, ds, k, e1, e2, hn, hk, q⟩ := h4
  subst e1 e2
  obtain ⟨p, ea, ew⟩ := rep_loc.mp (r2.step s3)
  obtain ⟨vs, eh, rr⟩ := o3.at_ n p _ ea hn
  refine ⟨p, vs, i, k, ew, rep_int.mp r3, eh, by rw [rr.length]; exact hk, ?_⟩
  obtain ⟨o4, s4⟩ := o3.write (o := .lst (vs.set k v)) (m := .lst (ds.set k d)) ea ⟨_, upd_same, rr.set ((r1.step s2).step s3) k⟩
  exact a.nx _ _ q σ L3 G3 _ (((s1.trans s2).trans s3).trans s4) ⟨o4, (((nw.env.step s1).step s2).step s3).step s4⟩
/-! what is walked -/
variable {tg : Expr} {QA : KA}
theorem wI_lst (h : wE X W ρ μ e (fun d μ1 => ∃ ds, d = .lst ds ∧ QA ds μ1) Z) : wI X W ρ μ tg e QA Z :=
  ⟨pi_of (pi_list h.run) fun σ H R ⟨L, G, n, v, x⟩ => ⟨L, G, n, fun d μ1 ⟨ds, ed, q⟩ u L1 G1 H1 s1 o1 r1 => by
    subst ed
    obtain ⟨a, vs, ev, hq, rr⟩ := rep_lst.mp r1
    exact ⟨a, ev, ⟨vs, SqL.of (o1.sub _ _ hq)⟩, v ds μ1 q _ L1 G1 H1 s1 o1 (jok_lst (SqL.of hq) rr)⟩, x⟩⟩
theorem wI_range1 (hm : X.mg "range" = none) (h : wE X W ρ μ e (fun d μ1 => ∃ j : Int, d = .int j ∧ (-(2 ^ 62) ≤ j ∧ j < 2 ^ 62) ∧ QA (rangeD 0 j.toNat) μ1) Z) (hg : Gl X "range" := by rfl) (hs : starEach [e] X.env = [(false, eval e X.env)] := by rfl) : wI X W ρ μ tg (.Call (.Name "range" p) [e] [] pos) QA Z :=
  ⟨pi_of (pi_range1 hg hm (pa_cons h.run pa_nil hs) hs) fun σ H R ⟨L, G, n, v, x⟩ => ⟨L, G, n, fun d μ1 ⟨j, ed, ⟨h1, h2⟩, q⟩ u L1 G1 H1 s1 o1 r1 => by
    subst ed
    exact ⟨j, by rw [rep_int.mp r1], h1, h2, v _ μ1 q _ L1 G1 H1 s1 o1 jok_rng⟩, x⟩⟩
end
section
variable {X : Cx} {W : WX} {μ : List M} {Q : KV} {Z : KX} {da x y : D} {b : Bool} {i j : Int}
/-- [x, y][int(b)] -/
theorem wX_if2 (hd : Ixd μ da [x, y]) (h : if b = true then Q y μ else Q x μ) : wX X W da (.int (if b = true then 1 else 0)) μ Q Z := by
  cases b with
  | true => exact wX_at hd rfl h
  | false => exact wX_at hd rfl h
theorem wX_if2I (hd : Ixd μ da [.int i, .int j]) (h : Q (.int (if b = true then j else i)) μ) : wX X W da (.int (if b = true then 1 else 0)) μ Q Z := by
  cases b with
  | true => exact wX_at hd rfl h
  | false => exact wX_at hd rfl h
end
/-! boxes -/
abbrev bxI (i j k : Int) : M := .lst [.int i, .int j, .int k]
theorem Ok.unbox {K : PySem.W.Frag} {L : List Addr} {G H : Hp} {μ : List M} {n : Nat} (o : Ok K L G H μ) (h : μ[n]? = some .box) : ∃ i j k, Ok K L G H (μ.set n (bxI i j k)) := by
  have hn : n < L.length := by rw [o.len]; exact (List.getElem?_eq_some_iff.mp h).1
  obtain ⟨i, j, k, e⟩ := o.at_ n L[n] _ (List.getElem?_eq_getElem hn) h
  refine ⟨i, j, k, o.sub, by simpa using o.len, o.nd, o.off, o.liv, fun q a m e1 e2 => ?_⟩
  by_cases hq : n = q
  · subst hq
    rw [List.getElem?_set_self (by rw [← o.len]; exact hn)] at e2
    rw [List.getElem?_eq_getElem hn] at e1
    cases e1
    cases e2
    exact ⟨_, e, Reps.cons (rep_int.mpr rfl) (Reps.cons (rep_int.mpr rfl) (Reps.cons (rep_int.mpr rfl) Reps.nil))⟩
  · rw [List.getElem?_set_ne hq] at e2
    exact o.at_ q a m e1 e2
theorem le_box {μ : List M} {n : Nat} {i j k : Int} (h : μ[n]? = some .box) : Le (μ.set n (bxI i j k)) μ := fun K L G H o => by
  have hn : n < μ.length := (List.getElem?_eq_some_iff.mp h).1
  have hl : n < L.length := by have := o.len; simp at this; omega
  refine ⟨o.sub, by simpa using o.len, o.nd, o.off, o.liv, fun q a m e1 e2 => ?_⟩
  by_cases hq : n = q
  · subst hq
    rw [h] at e2
    cases e2
    obtain ⟨vs, eh, r⟩ := o.at_ n a _ e1 (List.getElem?_set_self hn)
    obtain ⟨v1, r1, rfl, q1, t1⟩ := r.inv_cons
    obtain ⟨v2, v3, rfl, q2, q3⟩ := t1.two
    exact ⟨i, j, k, by rw [eh, rep_int.mp q1, rep_int.mp q2, rep_int.mp q3]⟩
  · exact o.at_ q a m e1 (by rw [List.getElem?_set_ne hq]; exact e2)
theorem le_newbox {μ : List M} {i j k : Int} : Le (μ ++ [bxI i j k]) (μ ++ [.box]) := fun K L G H o => by
  have := le_box (μ := μ ++ [.box]) (n := μ.length) (i := i) (j := j) (k := k) at_last
  rw [set_last] at this
  exact this K L G H o
end PM

set_option Elab.async false
set_option linter.all false
set_option maxRecDepth 100000
namespace PM
open PySem L2
/-! ### names: what a def's scope says is looked up once -/
inductive Kd where
  | no | loc | cell | free
def visB (sc : Scope) (x : Str) : Kd → Bool
  | .no => true
  | .loc => (sc.names.lookup x == some .local) && !(x == ("__debug__" : Str)) && !(x == ("__classdict__" : Str))
  | .cell => (sc.names.lookup x == some .cell) && !(x == ("__debug__" : Str)) && !(x == ("__classdict__" : Str))
  | .free => (sc.names.lookup x == some .free) && !(x == ("__debug__" : Str)) && !(x == ("__classdict__" : Str))
def nmB (sc : Scope) : List Str → List Kd → Bool
  | x :: N, v :: V => visB sc x v && nmB sc N V
  | _, _ => true
def ckB (N : List Str) (V : List Kd) (Gs : List Str) (sc : Scope) : Bool :=
  nmB sc N V && Gs.all fun x => (sc.names.lookup x == some .globalImplicit) && !(x == ("__debug__" : Str)) && !(x == ("__name__" : Str))
structure Nx' (X : Cx) (N : List Str) (V : List Kd) (Gs : List Str) : Prop where
  N_ : X.N = N
  ndN : N.Nodup
  ck : ckB N V Gs X.env.scope = true
structure Fx (X : Cx) (W : WX) (k : Nat) (N : List Str) (V : List Kd) (Gs : List Str) : Prop extends Gd X W k, Nx' X N V Gs
/-- the value of a name -/
inductive Gt : List Str → List Kd → Str → Env' → D → Prop
  | z {x : Str} {N : List Str} {V : List Kd} {d : D} {ρ : Env'} : Gt (x :: N) (.loc :: V) x (some d :: ρ) d
  | c {x : Str} {N : List Str} {V : List Kd} {d : D} {ρ : Env'} : Gt (x :: N) (.cell :: V) x (some d :: ρ) d
  | f {x : Str} {N : List Str} {V : List Kd} {d : D} {ρ : Env'} : Gt (x :: N) (.free :: V) x (some d :: ρ) d
  | s {x y : Str} {N : List Str} {v : Kd} {V : List Kd} {o : Option D} {ρ : Env'} {d : D} : Gt N V x ρ d → Gt (y :: N) (v :: V) x (o :: ρ) d
/-- a name's value is stored -/
inductive Pt : List Str → List Kd → Str → D → Env' → Env' → Nat → Prop
  | z {x : Str} {N : List Str} {V : List Kd} {d : D} {o : Option D} {ρ : Env'} : Pt (x :: N) (.loc :: V) x d (o :: ρ) (some d :: ρ) 0
  | c {x : Str} {N : List Str} {V : List Kd} {d : D} {o : Option D} {ρ : Env'} : Pt (x :: N) (.cell :: V) x d (o :: ρ) (some d :: ρ) 0
  | s {x y : Str} {N : List Str} {v : Kd} {V : List Kd} {d : D} {o : Option D} {ρ ρ' : Env'} {i : Nat} : Pt N V x d ρ ρ' i → Pt (y :: N) (v :: V) x d (o :: ρ) (o :: ρ') (i + 1)
/-- a name among others -/
inductive In : Str → List Str → Prop
  | z {x : Str} {Gs : List Str} : In x (x :: Gs)
  | s {x y : Str} {Gs : List Str} : In x Gs → In x (y :: Gs)
theorem In.mem {x : Str} {Gs : List Str} (h : In x Gs) : x ∈ Gs := by
  induction h with
  | z => exact List.mem_cons_self
  | s _ ih => exact List.mem_cons_of_mem _ ih
theorem Gt.ex {sc : Scope} {N : List Str} {V : List Kd} {x : Str} {ρ : Env'} {d : D} (h : Gt N V x ρ d) (nm : nmB sc N V = true) : ∃ i : Nat, N[i]? = some x ∧ ρ[i]? = some (some d) ∧ Vis sc x ∧ (x == ("__debug__" : Str)) = false ∧ (x == ("__classdict__" : Str)) = false := by
  induction h with
  | z =>
    simp only [nmB, visB, Bool.and_eq_true, Bool.not_eq_true', beq_iff_eq] at nm
    exact ⟨0, rfl, rfl, .inl nm.1.1.1, by simpa using nm.1.1.2, by simpa using nm.1.2⟩
  | c =>
    simp only [nmB, visB, Bool.and_eq_true, Bool.not_eq_true', beq_iff_eq] at nm
    exact ⟨0, rfl, rfl, .inr (.inl nm.1.1.1), by simpa using nm.1.1.2, by simpa using nm.1.2⟩
  | f =>
    simp only [nmB, visB, Bool.and_eq_true, Bool.not_eq_true', beq_iff_eq] at nm
    exact ⟨0, rfl, rfl, .inr (.inr nm.1.1.1), by simpa using nm.1.1.2, by simpa using nm.1.2⟩
  | s _ ih =>
    simp only [nmB, Bool.and_eq_true] at nm
    obtain ⟨i, h1, h2, h3⟩ := ih nm.2
    exact ⟨i + 1, by simpa using h1, by simpa using h2, h3⟩
theorem Pt.ex {sc : Scope} {N : List Str} {V : List Kd} {x : Str} {ρ ρ' : Env'} {d : D} {i : Nat} (h : Pt N V x d ρ ρ' i) (nm : nmB sc N V = true) : N[i]? = some x ∧ ρ' = ρ.set i (some d) ∧ Loc sc x := by
  induction h with
  | z =>
    simp only [nmB, visB, Bool.and_eq_true, Bool.not_eq_true', beq_iff_eq] at nm
    exact ⟨rfl, rfl, .inl nm.1.1.1⟩
  | c =>
    simp only [nmB, visB, Bool.and_eq_true, Bool.not_eq_true', beq_iff_eq] at nm
    exact ⟨rfl, rfl, .inr nm.1.1.1⟩
  | s _ ih =>
    simp only [nmB, Bool.and_eq_true] at nm
    obtain ⟨h1, h2, h3⟩ := ih nm.2
    exact ⟨by simpa using h1, by simp [h2], h3⟩
section
variable {X : Cx} {W : WX} {k : Nat} {N : List Str} {V : List Kd} {Gs : List Str} {ρ ρ' : Env'} {μ μ1 μ2 : List M} {e a b c ob : Expr} {es : List Expr} {Q Q' : KV} {Z : KX} {d da db : D} {ds ds' : List D} {p pos apos : Pos} {x y z m : Str} {nx : KN} {κ : Ks} {i j l : Nat}
theorem Nx'.nm (g : Nx' X N V Gs) : nmB X.env.scope N V = true := by
  have := g.ck
  simp only [ckB, Bool.and_eq_true] at this
  exact this.1
theorem Nx'.gl (g : Nx' X N V Gs) (h : In x Gs) : Gl X x ∧ (x == ("__debug__" : Str)) = false ∧ x ≠ ("__name__" : Str) := by
  have := g.ck
  simp only [ckB, Bool.and_eq_true, List.all_eq_true] at this
  have q := this.2 x h.mem
  simp only [Bool.not_eq_true', beq_iff_eq] at q
  exact ⟨q.1.1, by simpa using q.1.2, fun z => by rw [z] at q; simp at q⟩
/-- the value of a name, by what is wanted of it -/
structure wGt (N : List Str) (V : List Kd) (x : Str) (ρ : Env') (K : D → Prop) : Prop where
  ex : ∃ d, Gt N V x ρ d ∧ K d
theorem wGt_z {K : D → Prop} (h : K d) : wGt (x :: N) (.loc :: V) x (some d :: ρ) K := ⟨⟨d, .z, h⟩⟩
theorem wGt_c {K : D → Prop} (h : K d) : wGt (x :: N) (.cell :: V) x (some d :: ρ) K := ⟨⟨d, .c, h⟩⟩
theorem wGt_f {K : D → Prop} (h : K d) : wGt (x :: N) (.free :: V) x (some d :: ρ) K := ⟨⟨d, .f, h⟩⟩
theorem wGt_s {v : Kd} {o : Option D} {K : D → Prop} (h : wGt N V x ρ K) : wGt (y :: N) (v :: V) x (o :: ρ) K := let ⟨⟨d, h1, h2⟩⟩ := h; ⟨⟨d, .s h1, h2⟩⟩
theorem wGt_chk {K : D → Prop} (h : wGt N V x ρ K) : wGt N V x ρ K := h
structure wPt (N : List Str) (V : List Kd) (x : Str) (d : D) (ρ : Env') (K : Env' → Prop) : Prop where
  ex : ∃ ρ' i, Pt N V x d ρ ρ' i ∧ K ρ'
theorem wPt_z {o : Option D} {K : Env' → Prop} (h : K (some d :: ρ)) : wPt (x :: N) (.loc :: V) x d (o :: ρ) K := ⟨⟨_, 0, .z, h⟩⟩
theorem wPt_c {o : Option D} {K : Env' → Prop} (h : K (some d :: ρ)) : wPt (x :: N) (.cell :: V) x d (o :: ρ) K := ⟨⟨_, 0, .c, h⟩⟩
theorem wPt_s {v : Kd} {o : Option D} {K : Env' → Prop} (h : wPt N V x d ρ (fun ρ' => K (o :: ρ'))) : wPt (y :: N) (v :: V) x d (o :: ρ) K := let ⟨⟨ρ', i, h1, h2⟩⟩ := h; ⟨⟨_, i + 1, .s h1, h2⟩⟩
/-- the place of a name that is stored -/
inductive Ix : List Str → List Kd → Str → Nat → Prop
  | z {x : Str} {N : List Str} {V : List Kd} : Ix (x :: N) (.loc :: V) x 0
  | c {x : Str} {N : List Str} {V : List Kd} : Ix (x :: N) (.cell :: V) x 0
  | s {x y : Str} {N : List Str} {v : Kd} {V : List Kd} {i : Nat} : Ix N V x i → Ix (y :: N) (v :: V) x (i + 1)
inductive Il : List Str → List Kd → Str → Nat → Prop
  | z {x : Str} {N : List Str} {V : List Kd} : Il (x :: N) (.loc :: V) x 0
  | s {x y : Str} {N : List Str} {v : Kd} {V : List Kd} {i : Nat} : Il N V x i → Il (y :: N) (v :: V) x (i + 1)
theorem Ix.ex {sc : Scope} (h : Ix N V x i) (nm : nmB sc N V = true) : N[i]? = some x ∧ Loc sc x := by
  induction h with
  | z =>
    simp only [nmB, visB, Bool.and_eq_true, Bool.not_eq_true', beq_iff_eq] at nm
    exact ⟨rfl, .inl nm.1.1.1⟩
  | c =>
    simp only [nmB, visB, Bool.and_eq_true, Bool.not_eq_true', beq_iff_eq] at nm
    exact ⟨rfl, .inr nm.1.1.1⟩
  | s _ ih =>
    simp only [nmB, Bool.and_eq_true] at nm
    obtain ⟨h1, h3⟩ := ih nm.2
    exact ⟨by simpa using h1, h3⟩
theorem Il.ex {sc : Scope} (h : Il N V x i) (nm : nmB sc N V = true) : N[i]? = some x ∧ sc.names.lookup x = some .local := by
  induction h with
  | z =>
    simp only [nmB, visB, Bool.and_eq_true, Bool.not_eq_true', beq_iff_eq] at nm
    exact ⟨rfl, nm.1.1.1⟩
  | s _ ih =>
    simp only [nmB, Bool.and_eq_true] at nm
    obtain ⟨h1, h3⟩ := ih nm.2
    exact ⟨by simpa using h1, h3⟩
theorem wPt.set {sc : Scope} {K : Env' → Prop} (h : wPt N V x d ρ K) (nm : nmB sc N V = true) (nd : N.Nodup) (e : N[i]? = some x) : K (ρ.set i (some d)) := by
  obtain ⟨ρ', j, p, q⟩ := h.ex
  obtain ⟨e1, rfl, _⟩ := p.ex nm
  rwa [(List.getElem?_inj (List.getElem?_eq_some_iff.mp e).1 nd).mp (e.trans e1.symm)]
theorem wE_name (g : Nx' X N V Gs) (h : wGt N V x ρ (fun d => Q d μ)) : wE X W ρ μ (.Name x pos) Q Z := by
  obtain ⟨d, hd, h⟩ := h.ex
  obtain ⟨i, e1, e2, e3, e4, e5⟩ := hd.ex g.nm
  exact .ofV (ev_var i e2 (by rw [g.N_]; exact e1) e3 e4 e5) h
theorem wG_name (g : Nx' X N V Gs) (h : wPt N V x d ρ (fun ρ' => nx ρ' μ)) (hf : ∀ x, X.fn x = true := by intro _; rfl) : wG X W ρ μ (.Name x pos) d nx := by
  obtain ⟨ρ', i, hp, h⟩ := h.ex
  obtain ⟨e1, rfl, e3⟩ := hp.ex g.nm
  exact ⟨pg_of (eg_name (ρ := ρ) (μ := μ) (d := d) i (by rw [g.N_]; exact g.ndN) (by rw [g.N_]; exact e1) e3 (.inl (hf x))) fun v σ H R ⟨L, G, n, r, a⟩ => ⟨L, G, n, r, a _ _ h⟩⟩
theorem wS_set {pos' : Pos} (g : Nx' X N V Gs) (hi : ∃ i, Ix N V x i) (h : wE X W ρ μ e (fun d μ1 => wPt N V x d ρ (fun ρ' => nx ρ' μ1)) (κ.z ρ)) (hs : swapsWith e (some (.Name x pos')) pos.line X.env = pure false := by rfl) (hf : ∀ x, X.fn x = true := by intro _; rfl) : wS X W ρ μ (.Assign [.Name x pos'] e pos) nx κ := by
  obtain ⟨i, hi⟩ := hi
  obtain ⟨e1, e3⟩ := hi.ex g.nm
  have nd := g.ndN
  exact ⟨ps_of (ps_set (by rw [g.N_]; exact g.ndN) (by rw [g.N_]; exact e1) e3 h.run hs (.inl (hf x))) fun D σ H ⟨L, G, n, a⟩ => ⟨L, G, n, fun d μ1 q v L1 G1 H1 s1 o1 r1 => a.nx _ _ (q.set g.nm nd e1) _ L1 G1 H1 s1 ⟨o1, (n.env.step s1).set r1 i⟩, a.x n⟩⟩
/-- the stores of a, b = x, y -/
theorem swapped2 {env : Env} {px py pt pt2 : Pos} {kt k2 : Nat} (hk : env.blockKind = .function) (hx : env.scope.names.lookup x = some .local) (hy : env.scope.names.lookup y = some .local) (hxy : x ≠ y) (hl : (py.line == px.line) = true)
    (h1 : ([a, b].any fun | .Starred .. => true | _ => false) = false) (h2 : [a, b].all (foldedForSure 8) = false) (h3 : [a, b].all (constantsAlone 8) = false) : swappedStores [.Tuple [.Name x px, .Name y py] kt pt] (.Tuple [a, b] k2 pt2) env = pure (some [x, y]) := by
  unfold swappedStores
  have k1 : (env.kindOf x == some .local) = true := by unfold Env.kindOf; rw [hx]; rfl
  have k2 : (env.kindOf y == some .local) = true := by unfold Env.kindOf; rw [hy]; rfl
  have ed : [x, y].eraseDups.length = 2 := by
    have : (y == x) = false := by simpa using fun z => hxy z.symm
    simp [List.eraseDups_cons, this]
  have hb : (env.blockKind != ScopeKind.function) = false := by rw [hk]; rfl
  simp only [List.length_cons, List.length_nil, hb, h1, List.head?_cons, Option.map_some, Option.getD_some, List.filterMap_cons, List.filterMap_nil, Expr.pos, k1, k2, hl, Bool.true_and, beq_self_eq_true, if_true, ed, h2, h3]
  rw [if_neg (by decide), if_neg (fun h => Bool.noConfusion (h.symm.trans h1))]
  rfl
theorem wS_par {px py pt : Pos} {kt k2 pt2} (g : Fx X W k N V Gs) (hp : ∃ i j, Il N V x i ∧ Il N V y j ∧ i ≠ j) (ha : wA X W ρ μ [a, b] (fun ds μ1 => ∃ da db, ds = [da, db] ∧ wPt N V x da ρ (fun ρ1 => wPt N V y db ρ1 (fun ρ2 => nx ρ2 μ1))) (κ.z ρ)) 
    (hk : X.env.blockKind = .function := by rfl) (hl : (py.line == px.line) = true := by rfl) (h1 : ([a, b].any fun | .Starred .. => true | _ => false) = false := by rfl) (h2 : [a, b].all (foldedForSure 8) = false := by rfl) (h3 : [a, b].all (constantsAlone 8) = false := by rfl) :
    wS X W ρ μ (.Assign [.Tuple [.Name x px, .Name y py] kt pt] (.Tuple [a, b] k2 pt2) pos) nx κ := by
  obtain ⟨i, j, p1, p2, hij⟩ := hp
  obtain ⟨e1, l1⟩ := p1.ex g.nm
  obtain ⟨e2, l2⟩ := p2.ex g.nm
  have nd := g.nd
  rw [g.N_] at nd
  have hxy : x ≠ y := fun t => hij ((List.getElem?_inj (List.getElem?_eq_some_iff.mp e1).1 nd).mp (e1.trans (by rw [t]; exact e2.symm)))
  exact ⟨ps_of (ps_par g.calm g.nd (by rw [g.N_]; exact e1) (by rw [g.N_]; exact e2) hij l1 l2 ha.run (swapped2 hk l1 l2 hxy hl h1 h2 h3) rfl) fun D σ H ⟨L, G, n, ac⟩ => ⟨L, G, n, fun ds μ1 ⟨da, db, e0, q⟩ vs L1 G1 H1 s1 o1 r1 => by
    subst e0
    obtain ⟨v, w, e, q1, q2⟩ := r1.two
    subst e
    exact ⟨v, w, rfl, ac.nx _ _ ((q.set g.nm nd e1).set g.nm nd e2) _ L1 G1 H1 s1 ⟨o1, ((n.env.step s1).set q1 i).set q2 j⟩⟩, ac.x n⟩⟩
theorem swapped3 {env : Env} {px py pz pt pt2 : Pos} {kt k2 : Nat} (hk : env.blockKind = .function) (hx : env.scope.names.lookup x = some .local) (hy : env.scope.names.lookup y = some .local) (hz : env.scope.names.lookup z = some .local) (hxy : x ≠ y) (hxz : x ≠ z) (hyz : y ≠ z) (hl : (py.line == px.line) = true) (hl2 : (pz.line == px.line) = true)
    (h1 : ([a, b, c].any fun | .Starred .. => true | _ => false) = false) (h2 : [a, b, c].all (foldedForSure 8) = false) (h3 : [a, b, c].all (constantsAlone 8) = false) : swappedStores [.Tuple [.Name x px, .Name y py, .Name z pz] kt pt] (.Tuple [a, b, c] k2 pt2) env = pure (some [x, y, z]) := by
  unfold swappedStores
  have k1 : (env.kindOf x == some .local) = true := by unfold Env.kindOf; rw [hx]; rfl
  have k2 : (env.kindOf y == some .local) = true := by unfold Env.kindOf; rw [hy]; rfl
  have k3 : (env.kindOf z == some .local) = true := by unfold Env.kindOf; rw [hz]; rfl
  have ed : [x, y, z].eraseDups.length = 3 := by
    have e1 : (y == x) = false := by simpa using fun z => hxy z.symm
    have e2 : (z == x) = false := by simpa using fun t => hxz t.symm
    have e3 : (z == y) = false := by simpa using fun t => hyz t.symm
    simp [List.eraseDups_cons, e1, e2, e3]
  have hb : (env.blockKind != ScopeKind.function) = false := by rw [hk]; rfl
  simp only [List.length_cons, List.length_nil, hb, h1, List.head?_cons, Option.map_some, Option.getD_some, List.filterMap_cons, List.filterMap_nil, Expr.pos, k1, k2, k3, hl, hl2, Bool.true_and, beq_self_eq_true, if_true, ed, h2, h3]
  rw [if_neg (by decide), if_neg (fun h => Bool.noConfusion (h.symm.trans h1))]
  rfl
theorem wS_par3 {px py pz pt : Pos} {kt k2 pt2} (g : Fx X W k N V Gs) (hp : ∃ i j l, Il N V x i ∧ Il N V y j ∧ Il N V z l ∧ i ≠ j ∧ i ≠ l ∧ j ≠ l) (ha : wA X W ρ μ [a, b, c] (fun ds μ1 => ∃ da db dc, ds = [da, db, dc] ∧ wPt N V x da ρ (fun ρ1 => wPt N V y db ρ1 (fun ρ2 => wPt N V z dc ρ2 (fun ρ3 => nx ρ3 μ1)))) (κ.z ρ))
    (hk : X.env.blockKind = .function := by rfl) (hl : (py.line == px.line) = true := by rfl) (hl2 : (pz.line == px.line) = true := by rfl) (h1 : ([a, b, c].any fun | .Starred .. => true | _ => false) = false := by rfl) (h2 : [a, b, c].all (foldedForSure 8) = false := by rfl) (h3 : [a, b, c].all (constantsAlone 8) = false := by rfl) :
    wS X W ρ μ (.Assign [.Tuple [.Name x px, .Name y py, .Name z pz] kt pt] (.Tuple [a, b, c] k2 pt2) pos) nx κ := by
  obtain ⟨i, j, l, p1, p2, p3, hij, hil, hjl⟩ := hp
  obtain ⟨e1, l1⟩ := p1.ex g.nm
  obtain ⟨e2, l2⟩ := p2.ex g.nm
  obtain ⟨e3, l3⟩ := p3.ex g.nm
  have nd := g.nd
  rw [g.N_] at nd
  have ne : ∀ {s t : Str} {i j : Nat}, N[i]? = some s → N[j]? = some t → i ≠ j → s ≠ t := fun e1 e2 hij t => hij ((List.getElem?_inj (List.getElem?_eq_some_iff.mp e1).1 nd).mp (e1.trans (by rw [t]; exact e2.symm)))
  exact ⟨ps_of (ps_par3 g.calm g.nd (by rw [g.N_]; exact e1) (by rw [g.N_]; exact e2) (by rw [g.N_]; exact e3) hij hil hjl l1 l2 l3 ha.run (swapped3 hk l1 l2 l3 (ne e1 e2 hij) (ne e1 e3 hil) (ne e2 e3 hjl) hl hl2 h1 h2 h3) rfl) fun D σ H ⟨L, G, n, ac⟩ => ⟨L, G, n, fun ds μ1 ⟨da, db, dc, e0, q⟩ vs L1 G1 H1 s1 o1 r1 => by
    subst e0
    obtain ⟨v, r, rfl, q1, r1⟩ := r1.inv_cons
    obtain ⟨u, w, e, q2, q3⟩ := r1.two
    subst e
    exact ⟨v, u, w, rfl, ac.nx _ _ (((q.set g.nm nd e1).set g.nm nd e2).set g.nm nd e3) _ L1 G1 H1 s1 ⟨o1, (((n.env.step s1).set q1 i).set q2 j).set q3 l⟩⟩, ac.x n⟩⟩
/-! is it this name? -/
theorem chkC (x : Str) {kws : List Keyword} (h : wE X W ρ μ (.Call (.Name x p) es kws pos) Q Z) : wE X W ρ μ (.Call (.Name x p) es kws pos) Q Z := h
theorem chkN (x : Str) (h : wE X W ρ μ (.Name x pos) Q Z) : wE X W ρ μ (.Name x pos) Q Z := h
theorem chkA (m : Str) (h : wE X W ρ μ (.Attribute e m pos) Q Z) : wE X W ρ μ (.Attribute e m pos) Q Z := h
theorem chkB (id : String) (h : wF X W (fun us => call (.builtin id) us) ds μ Q Z) : wF X W (fun us => call (.builtin id) us) ds μ Q Z := h
/-! what kind of goal? -/
theorem hdE (h : wE X W ρ μ e Q Z) : wE X W ρ μ e Q Z := h
theorem hdc {kws : List Keyword} (h : wE X W ρ μ (.Call (.Name x p) es kws pos) Q Z) : wE X W ρ μ (.Call (.Name x p) es kws pos) Q Z := h
theorem hdn (h : wE X W ρ μ (.Name x pos) Q Z) : wE X W ρ μ (.Name x pos) Q Z := h
theorem hda (h : wE X W ρ μ (.Attribute e m pos) Q Z) : wE X W ρ μ (.Attribute e m pos) Q Z := h
theorem hdm {kws : List Keyword} (h : wE X W ρ μ (.Call (.Attribute e m apos) es kws pos) Q Z) : wE X W ρ μ (.Call (.Attribute e m apos) es kws pos) Q Z := h
theorem hdA {QA : KA} (h : wA X W ρ μ es QA Z) : wA X W ρ μ es QA Z := h
theorem hdB {f : Value → Value → Sem Value} (h : wB X W f da db μ Q Z) : wB X W f da db μ Q Z := h
theorem hdU {f : Value → Sem Value} (h : wU X W f da μ Q Z) : wU X W f da μ Q Z := h
theorem hdF {f : List Value → Sem Value} (h : wF X W f ds μ Q Z) : wF X W f ds μ Q Z := h
theorem hdX (h : wX X W da db μ Q Z) : wX X W da db μ Q Z := h
theorem hdC {QT : KT} (h : wC X W ρ μ e QT Z) : wC X W ρ μ e QT Z := h
theorem hdW {QT : KT} (h : wCw X W ρ μ e QT Z) : wCw X W ρ μ e QT Z := h
theorem hdS {st : Stmt} (h : wS X W ρ μ st nx κ) : wS X W ρ μ st nx κ := h
theorem hdL {st : List Stmt} (h : wSs X W ρ μ st nx κ) : wSs X W ρ μ st nx κ := h
theorem hdG (h : wG X W ρ μ e d nx) : wG X W ρ μ e d nx := h
theorem hdH (h : wGs X W ρ μ es ds nx) : wGs X W ρ μ es ds nx := h
theorem hdP {Kn : Env' → Prop} (h : wPt N V x d ρ Kn) : wPt N V x d ρ Kn := h
/-! calls by names of the module -/
theorem xE_call (f : Fnx) (g : Fx X W k N V Gs) (hi : In x Gs) (hm : X.mg x = some (.ref f.a)) (hk : PySem.W.keepIn X.K (.ref f.a) = true) (bd : Binds X.K f.fd f.ps []) (h : wA X W ρ μ (e :: es) (fun ds μ1 => SpX X f ds μ1 Q Z) Z) (hj : f.lv ≤ k := by exact Nat.le_of_ble_eq_true rfl)
    (he : starEach (e :: es) X.env = (false, eval e X.env) :: starEach es X.env := by rfl) (hpl : (backTo pos (starEach es X.env)).any (·.1) = false := by rfl) : wE X W ρ μ (.Call (.Name x p) (e :: es) [] pos) Q Z := wE_call f g.toGd hm hk bd h hj (g.gl hi).1 (g.gl hi).2.1 he hpl
theorem xE_cls {C : Addr} (g : Nx' X N V Gs) (hi : In x Gs) (hm : X.mg x = some (.ref C)) (h : Q (.ref C) μ) : wE X W ρ μ (.Name x pos) Q Z := wE_glob (v := .ref C) hm rfl (fun _ _ => rep_ref.mpr rfl) h (g.gl hi).1 (g.gl hi).2.1
theorem xE_bty {T : String} (g : Nx' X N V Gs) (hi : In x Gs) (hm : X.mg x = none) (hv : bootBuiltins x = some (.type T)) (h : Q (.ty T) μ) : wE X W ρ μ (.Name x pos) Q Z := wE_bty hm hv h (g.gl hi).1 (g.gl hi).2.2 (g.gl hi).2.1
theorem xE_blt {id : String} (g : Nx' X N V Gs) (hi : In x Gs) (hm : X.mg x = none) (hv : bootBuiltins x = some (.builtin id)) (h : wA X W ρ μ (e :: es) (fun ds μ1 => wF X W (fun us => call (.builtin id) us) ds μ1 Q Z) Z)
    (he : starEach (e :: es) X.env = (false, eval e X.env) :: starEach es X.env := by rfl) (hpl : (backTo pos (starEach es X.env)).any (·.1) = false := by rfl) : wE X W ρ μ (.Call (.Name x p) (e :: es) [] pos) Q Z := wE_blt hm hv h (g.gl hi).1 (g.gl hi).2.2 (g.gl hi).2.1 he hpl
theorem xE_bcl {T : String} (g : Nx' X N V Gs) (hi : In x Gs) (hm : X.mg x = none) (hv : bootBuiltins x = some (.type T)) (h : wA X W ρ μ (e :: es) (fun ds μ1 => wF X W (fun us => call (.type T) us) ds μ1 Q Z) Z)
    (he : starEach (e :: es) X.env = (false, eval e X.env) :: starEach es X.env := by rfl) (hpl : (backTo pos (starEach es X.env)).any (·.1) = false := by rfl) : wE X W ρ μ (.Call (.Name x p) (e :: es) [] pos) Q Z := wE_bcl hm hv h (g.gl hi).1 (g.gl hi).2.2 (g.gl hi).2.1 he hpl
end
section
variable {P : Program} {w : World} {K : PySem.W.Frag} {mg : Str → Option Value} {base : Heap}
/-- THE RULE for a def, its names looked up -/
theorem spX_of {x qual : Str} {st : Stmt} {dvs : List L2.V} {f : Addr} {fd : FuncData} {N ps : List Str} {V : List Kd} {Gs : List Str} {k : Nat} {ds : List D} {μ : List M} {Q : KV} {Z : KX} (F : FunS K x qual st dvs f fd) (S : FnScope N ps (defScope st)) (ck : ckB N V Gs (defScope st) = true) (hl : ds.length = ps.length)
    (body : ∀ ρ, ρ = startD N ds → ∀ (cdv : Value) (A : Around) (outer : List Env) (s : Shared) (H : Hp) (E : XK), Fx (cxOf (L2.CX P w) P w K mg base N qual (defScope st) f cdv A outer s H E) (fun c d _ H => E c d H) k N V Gs →
      wSs (cxOf (L2.CX P w) P w K mg base N qual (defScope st) f cdv A outer s H E) (fun c d _ H => E c d H) ρ (μ ++ []) (defBody st) (fun _ μ1 => RetOk μ Q .non μ1) { rt := RetOk μ Q, xc := fun C ns ds' _ μ1 => ExcOk μ Z C ns ds' μ1 }) :
    SpF P w K mg base ⟨f, fd, ps, k + 1⟩ ds μ Q Z :=
  spF_of F S hl fun cdv A outer s H E g => by
    have := body _ rfl cdv A outer s H E ⟨g, ⟨rfl, S.nd, ck⟩⟩
    rwa [List.append_nil] at this
end
end PM

set_option Elab.async false
set_option linter.all false
set_option maxRecDepth 100000
namespace PM
open PySem L2
section
variable {X : Cx} {W : WX} {k j : Nat} {N : List Str} {V : List Kd} {Gs : List Str} {ρ ρ' : Env'} {μ μ1 μ2 : List M} {e a b c ob : Expr} {es : List Expr} {Q Q' : KV} {Z : KX} {d da db : D} {ds ds' : List D} {p pos apos pos2 np pos' : Pos} {x y m n : Str} {nx : KN} {κ : Ks} {f : Fnx} {C C' pr : Addr} {pl : Sem Bool} {ns : List Str}
/-! ### classes -/
/-- what __init__ leads to, as the caller sees it -/
inductive MadeOk (μ : List M) (C : Addr) (Q : KV) : D → List M → Prop
  | obj {ns : List Str} {fs : List D} {μ2 : List M} : Lows μ μ2 → ns.length = fs.length → D.los μ.length fs = true → Q (.obj C ns fs) μ2 → MadeOk μ C Q .non (μ2 ++ [.ins C ns fs])
  | loc {ns : List Str} {fs : List D} {μ2 : List M} : μ2.length = μ.length → Q (.loc μ.length) (μ2 ++ [.ins C ns fs]) → MadeOk μ C Q .non (μ2 ++ [.ins C ns fs])
inductive MadeX (μ : List M) (Z : KX) (C : Addr) (ns : List Str) : List D → List M → Prop
  | mk {ds : List D} {μ2 : List M} {m : M} : Lows μ μ2 → D.los μ.length ds = true → Z C ns ds μ2 → MadeX μ Z C ns ds (μ2 ++ [m])
/-- C(e, ..) by the class's name -/
theorem xE_make (g : Nx' X N V Gs) (hi : In x Gs) (hm : X.mg x = some (.ref C)) (hk : PySem.W.keepIn X.K (.ref C) = true) (h : wA X W ρ μ (e :: es) (fun ds μ1 => wF X W (fun us => call (.ref C) us) ds μ1 Q Z) Z)
    (he : starEach (e :: es) X.env = (false, eval e X.env) :: starEach es X.env := by rfl) (hpl : (backTo pos (starEach es X.env)).any (·.1) = false := by rfl) : wE X W ρ μ (.Call (.Name x p) (e :: es) [] pos) Q Z :=
  .by fun pins s σ H R L G I n v z => wpAny_Call_Name_kw (ld_glob I (g.gl hi).1 hm (PySem.W.callWith_K (h₀ := X.base) I.ok.mod.kin hk (h.call I n v z pos) he hpl) (g.gl hi).2.1)
/-- cls(e, ..): the class in a local name -/
theorem wE_makeL (g : Nx' X N V Gs) (hk : PySem.W.keepIn X.K (.ref C) = true) (hd : Gt N V x ρ (.ref C)) (h : wA X W ρ μ (e :: es) (fun ds μ1 => wF X W (fun us => call (.ref C) us) ds μ1 Q Z) Z)
    (he : starEach (e :: es) X.env = (false, eval e X.env) :: starEach es X.env := by rfl) (hpl : (backTo pos (starEach es X.env)).any (·.1) = false := by rfl) : wE X W ρ μ (.Call (.Name x p) (e :: es) [] pos) Q Z := by
  obtain ⟨i, e1, e2, e3, e4, e5⟩ := hd.ex g.nm
  refine .by fun pins s σ H R L G I n v z => ?_
  obtain ⟨w, ew, rw'⟩ := n.env.at_ i _ e2
  refine wpAny_Call_Name_kw (thn ((pe_var (pos := p) (by rw [g.N_]; exact e1) e3 e4 e5).run pins s σ H (fun v H1 => v = .ref C ∧ H1 = H) I ⟨w, ew, rep_ref.mp rw', rfl⟩) fun u s1 ⟨v', H1, I1, r1, q1⟩ => ?_)
  obtain ⟨rfl, rfl⟩ := q1
  cases r1
  exact PySem.W.callWith_K (h₀ := X.base) I.ok.mod.kin hk (h.call I1 n v z pos) he hpl
/-- C.m(e, ..), a class method -/
theorem wE_cmeth {mc : Value} (f : Fnx) (gd : Gd X W k) (r : ClX.CRead X.K C mc) (cm : ClX.CMet X.K C mc m pr f.a) (bd : Binds X.K f.fd f.ps []) (h : wE X W ρ μ ob (fun d μ1 => d = .ref C ∧ wA X W ρ μ1 (e :: es) (fun ds μ2 => SpX X f (.ref C :: ds) μ2 Q Z) Z) Z) (hj : f.lv ≤ k := by exact Nat.le_of_ble_eq_true rfl)
    (hst : starEach (e :: es) X.env = (false, eval e X.env) :: starEach es X.env := by rfl) (hpl : (backTo pos (starEach es X.env)).any (·.1) = false := by rfl)
    (ht : eval (.Call (.Attribute ob m apos) (e :: es) [] pos) X.env = (do
      let ov ← eval ob X.env
      standAt apos.atName
      let (f, first) ← holding [ov] (getMethod ov m pl)
      callWith pos f first (backTo pos (starEach (e :: es) X.env)) (backToKw pos (keywordEach [] X.env))) := by rfl) :
    wE X W ρ μ (.Call (.Attribute ob m apos) (e :: es) [] pos) Q Z := by
  refine .by fun pins s σ H R L G I n v z => ?_
  refine PySem.W.methodCall_KW (pl := pl) (thn (h.go I n z) fun u s1 ⟨y, d, μ1, L1, G1, H1, I1, ry, ⟨ed, ha⟩, st1, o1, r1⟩ => ?_) ht
  subst ed
  have ex := rep_ref.mp r1
  subst ex
  obtain rfl : u = Value.ref C := ry
  refine ClX.getmethcm_ok I1 r cm fun s2 I2 => ?_
  refine ClX.callwith_cm I2 (ClX.base_none I1 (Nat.le_refl _)) cm.fi (thn (ha.go I2 (n.step st1 o1) (z.step st1) pos) fun us s3 ⟨vs, ds, μ2, L2, G2, H2, I3, rv, q, st2, o2, r2⟩ => ⟨⟨ClX.pin_at I3, I3.kIn⟩, ?_⟩) hst hpl
  have zz : wpAny (model X.prog X.w) X.A (call (.ref s1.heap.objs.size) us) (EP X ((s1.heap.objs.size, PySem.W.methodObj (.ref f.a) (.ref C)) :: pins) σ R) X.xe s3 := by
    refine wpAny_call (PySem.W.method_call (ClX.pin_at I3) ?_)
    have hsp : spH X.K (.ref C :: ds) μ2 Q Z (.ref C :: vs) H2 R (WE W σ) := ⟨L2, G2, o2, Reps.cons (r1.step st2) r2, v.step (st1.trans st2), z.step (st1.trans st2)⟩
    have hl : (Value.ref C :: us).length = f.ps.length := by
      rw [← q.len _ _ _ _ hsp]
      simp [rv.length]
    have bb := bd s3 (Value.ref C :: us) I3.kIn (by rw [List.append_nil]; exact hl)
    rw [List.append_nil] at bb
    refine codeAny_mono (q.run X.A X.stack s3 H2 ⟨Value.ref C :: us, []⟩ (Value.ref C :: us) (.ref C :: vs) R (WE W σ) (gd.hr.mono hj) (gd.gr.mono hj) I3.env0 bb (.cons rfl rv) hsp) fun r s' hq => ?_
    cases r with
    | error e => exact passAt gd.tk σ _ H2 s3 e s' I3 hq
    | ok fl =>
      cases fl with
      | ret u => exact I3.after hq
      | next => exact False.elim hq
      | brk => exact False.elim hq
      | cont => exact False.elim hq
  exact thn zz fun _ _ y => ClX.unpinE y
/-! ### errors -/
theorem wS_raise (g : Fx X W k N V Gs) (hi : In x Gs) (c : ErrC X.prog X.w X.K X.mg X.base C ns) (hm : X.mg x = some (.ref C)) (h : wA X W ρ μ (e :: es) (fun ds μ1 => ns.length = ds.length ∧ κ.xc C ns ds ρ μ1) (κ.z ρ)) (hk : 2 ≤ k := by decide)
    (he : starEach (e :: es) X.env = (false, eval e X.env) :: starEach es X.env := by rfl) (hpl : (backTo pos (starEach es X.env)).any (·.1) = false := by rfl) : wS X W ρ μ (.Raise (some (.Call (.Name x p) (e :: es) [] pos)) none pos2) nx κ := by
  obtain ⟨hg, hdb, _⟩ := g.gl hi
  refine ⟨⟨fun pins s σ H D I ⟨L, G, nw, ac⟩ => ?_⟩⟩
  -- the arguments come to one list; then the error is raised
  refine (PS.run (t := fun D σ H => ∃ L G, Now X.K L G H μ ρ σ ∧ AccS W X.K L G H D nx κ) ?_ pins s σ H D I ⟨L, G, nw, ac⟩)
  obtain ⟨fI, fd, ps, sp, hi, ht, F, bd, hc⟩ := c.one
  have mk : PMk X (.Call (.Name x p) (e :: es) [] pos) (fun σ H Q => tMkO C sp [] (fun σ H R => ∃ L G, Now X.K L G H μ ρ σ ∧ (∀ ds μ', (ns.length = ds.length ∧ κ.xc C ns ds ρ μ') → ComesA X.K L G H ds μ' R) ∧ AccX W X.K L G H σ (κ.z ρ)) σ H Q) := pmk_oex c.oex hi ht F (g.hr.mono hk) bd .nil pass0 hg hm h.run hdb he hpl
  rcases hc with ⟨f, rfl, rfl⟩ | ⟨f, f2, rfl, hne, rfl⟩
  · refine ps_of (ps_raise g.calm g.tk mk) fun D σ H ⟨L, G, n, ac⟩ => ⟨L, G, n, fun ds μ1 ⟨hn, q⟩ vs L1 G1 H1 s1 o1 r1 => ?_, ac.x n⟩
    match ds, hn with
    | [d], _ =>
      obtain ⟨v, rfl, rv⟩ := r1.one
      refine ⟨by show 1 ≤ 1000; decide, fun a hna => ⟨a, v, rfl, upd_same, fun dx hdx hne => ⟨rfl, dx, [(f, v)], upd_same, by rw [upd_ne hne, upd_same], ?_, ?_⟩⟩⟩
      · rw [upd_ne hne] at hdx
        exact hdx
      · have hdx' : H1 dx = none := by rw [upd_ne hne] at hdx; exact hdx
        have eH : upd (del (upd (upd (upd H1 a (exo a C none)) dx (exd dx [(f, v)])) a (exo a C (some dx))) a) dx (.xd [(f, v)]) = upd H1 dx (.xd [(f, v)]) := by
          funext b
          by_cases hb : b = dx
          · rw [hb, upd_same, upd_same]
          · rw [upd_ne hb, upd_ne hb]
            by_cases hba : b = a
            · rw [hba, del_same, hna]
            · rw [del_ne hba, upd_ne hba, upd_ne hb, upd_ne hba]
        rw [eH]
        obtain ⟨o2, s2⟩ := o1.new (o := .xd [(f, v)]) hdx'
        exact ac.xc _ _ _ _ _ q σ (some dx) L1 _ _ (s1.trans s2) ⟨o2, (n.env.step s1).step s2⟩ ⟨rfl, .inr ⟨dx, [v], rfl, upd_same, Reps.cons (rv.step s2) Reps.nil⟩⟩
  · refine ps_of (ps_raise g.calm g.tk (t := fun σ H Q => ∃ L G, Now X.K L G H μ ρ σ ∧ (∀ ds μ', ([f, f2].length = ds.length ∧ κ.xc C [f, f2] ds ρ μ') → ComesA X.K L G H ds μ' fun vs H1 => ∃ v u, vs = [v, u] ∧ ∀ dx, H1 dx = none → Q (.ref C) (some dx) (upd H1 dx (.xd [(f, v), (f2, u)]))) ∧ AccX W X.K L G H σ (κ.z ρ)) ?_) fun D σ H ⟨L, G, n, ac⟩ => ⟨L, G, n, fun ds μ1 ⟨hn, q⟩ vs L1 G1 H1 s1 o1 r1 => ?_, ac.x n⟩
    · intro pins s σ H Q I h
      refine thn (mk pins s σ H (fun c d H' => c = .ref C ∧ ∃ dx v u H1, d = some dx ∧ H1 dx = none ∧ H' = upd H1 dx (.xd [(f2, u), (f, v)]) ∧ Q (.ref C) (some dx) (upd H1 dx (.xd [(f, v), (f2, u)]))) I ?_) fun u s' hu => ?_
      · obtain ⟨L, G, n, co, cx⟩ := h
        refine ⟨L, G, n, fun ds μ' q0 vs L1 G1 H1 s1 o1 r1 => ?_, cx⟩
        obtain ⟨v, u, rfl, q⟩ := co ds μ' q0 vs L1 G1 H1 s1 o1 r1
        refine ⟨by show 2 ≤ 1000; decide, fun a hna => ⟨a, v, u, rfl, upd_same, fun dx hdx hne => ⟨rfl, dx, [(f2, u), (f, v)], ?_, upd_same, ?_, rfl, dx, v, u, H1, rfl, ?_, ?_, ?_⟩⟩⟩
        · rw [upd_ne (Ne.symm hne), upd_same]
        · rw [upd_ne hne] at hdx; exact hdx
        · rw [upd_ne hne] at hdx; exact hdx
        · funext b
          by_cases hb : b = dx
          · rw [hb, upd_same, upd_same]
          · rw [upd_ne hb, upd_ne hb]
            by_cases hba : b = a
            · rw [hba, del_same, hna]
            · rw [del_ne hba, upd_ne hb, upd_ne hba, upd_ne hb, upd_ne hba]
        · exact q dx (by rw [upd_ne hne] at hdx; exact hdx)
      · obtain ⟨a, oe, fv, sI, H', cls, d, e1, J, k1, k2, k3, k4, k5, k6, k7, k8, k9, k10, rfl, dx, v, u', H1, rfl, hd1, rfl, q⟩ := hu
        refine ⟨a, oe, fv, sI, _, .ref C, some dx, e1, (xd_same J upd_same (xd_swap (Ne.symm (Ne.symm hne)))), k1, k2, k3, k4, k5, k6, ?_, k8, k9, k10, ?_⟩
        · rw [upd_upd]
          by_cases ha : a = dx
          · subst ha
            rw [upd_same] at k7
            cases k7
          · rw [upd_ne ha] at k7 ⊢
            exact k7
        · rw [upd_upd]
          exact q
    · match ds, hn with
      | [d1, d2], _ =>
        obtain ⟨v, u, rfl, rv, ru⟩ := r1.two
        refine ⟨v, u, rfl, fun dx hdx => ?_⟩
        obtain ⟨o2, s2⟩ := o1.new (o := .xd [(f, v), (f2, u)]) hdx
        exact ac.xc _ _ _ _ _ q σ (some dx) L1 _ _ (s1.trans s2) ⟨o2, (n.env.step s1).step s2⟩ ⟨rfl, .inr ⟨dx, [v, u], rfl, upd_same, Reps.cons (rv.step s2) (Reps.cons (ru.step s2) Reps.nil)⟩⟩
/-! ### try -/
variable {body suite : List Stmt} {b₀ : Stmt} {i : Nat}
theorem Fx.tr {pn : List (Addr × Obj)} {xe : Value → Shared → Prop} {W' : WX} (g : Fx X W k N V Gs) (tk : Takes (X.tr pn xe) W') (po : PassesOwn (model X.prog X.w) X.A X.env xe) : Fx (X.tr pn xe) W' k N V Gs := ⟨⟨g.calm, g.nd, tk, po, g.hr, g.gr⟩, ⟨g.N_, g.ndN, g.ck⟩⟩
theorem wS_try (g : Fx X W k N V Gs) (hi : Il N V n i) (hcn : Names X x (.ref C))
    (hb : ∀ (W' : WX) (pn : List (Addr × Obj)) (xe : Value → Shared → Prop), Fx (X.tr pn xe) W' k N V Gs → wSs (X.tr pn xe) W' ρ μ body nx { κ with xc := fun C' ns ds ρ1 μ1 =>
      (PySem.W.exmOne X.K (.ref C') (.ref C) = some false ∧ κ.xc C' ns ds ρ1 μ1) ∨
      (PySem.W.exmOne X.K (.ref C') (.ref C) = some true ∧ ns ≠ [] ∧ ∀ (a dd : Addr) (oe : Obj) (pn : List (Addr × Obj)), Zc (.ref C') (some dd) oe → (∃ vs, oe.data = .fields vs) → Nx' (X.suite a ((a, oe) :: pn)) N V Gs → ∀ ρs, ρs = ρ1.set i (some (.exn a dd ns ds)) →
        wSs (X.suite a ((a, oe) :: pn)) W0 ρs μ1 (b₀ :: suite) (fun ρ2 μ2 => ∀ ρs, ρs = ρ2.set i none → nx ρs μ2) { rt := κ.rt, bk := fun ρ2 μ2 => κ.bk (ρ2.set i none) μ2, ct := fun ρ2 μ2 => κ.ct (ρ2.set i none) μ2 }) })
    (hs : X.stack = X.env :: X.outer := by rfl) (hf : X.env.frame = some X.env.locals := by rfl) : wS X W ρ μ (.Try body [.ExceptHandler (some (.Name x np)) (some n) (b₀ :: suite) pos'] [] [] pos) nx κ := by
  obtain ⟨e1, l1⟩ := hi.ex g.nm
  refine ⟨ps_of (ps_try_as (i := i) (tb := fun W' => fun D σ H => ∃ L G, Now X.K L G H μ ρ σ ∧ AccS W' X.K L G H D nx { κ with xc := fun C' ns ds ρ1 μ1 => _ }) (ts := fun a cls d => fun D σ H => ∀ oe pn, Zc cls d oe → (∃ vs, oe.data = .fields vs) → aSs (X.suite a ((a, oe) :: pn)) (b₀ :: suite) D σ H) (Wout := W) hs hf g.nd (by rw [g.N_]; exact e1) l1 hcn g.tk
    (fun W' pn xe tk po => (hb W' pn xe (g.tr tk po)).run) (fun a oe cls d pn hz hv => ⟨fun pins s σ H D I t => ?_⟩)) fun D σ H ⟨L, G, nw, ac⟩ => ⟨L, G, nw, ac.nx, ac.bk, ac.ct, ac.rt, fun C' ns ds ρ1 μ1 q σ' dx L' G' H' s' n' x' => ?_⟩⟩
  · exact aSs_ok.run pins s σ H D I (t oe pn hz hv)
  · rcases q with ⟨hno, q⟩ | ⟨hyes, hns, q⟩
    · exact ⟨false, hno, fun z => Bool.noConfusion z, fun _ => ac.xc _ _ _ _ _ q σ' dx L' G' H' s' n' x'⟩
    · rcases x'.2 with z | ⟨dd, vs, rfl, eg, rv⟩
      · exact (hns z).elim
      · refine ⟨true, hyes, fun _ a hna oe pn hz hv => ?_, fun z => Bool.noConfusion z⟩
        refine ⟨_, (q a dd oe pn hz hv ⟨g.N_, g.ndN, g.ck⟩ _ rfl).run, L', G', ⟨n'.ok, n'.env.set (rep_exn.mpr ⟨vs, rfl, eg, x'.1, rv⟩) i⟩, ?_⟩
        have a2 := ac.step s'
        exact ⟨fun ρ2 μ2 h2 σ2 L2 G2 H2 s2 n2 => a2.nx _ _ (h2 _ rfl) _ L2 G2 H2 s2 ⟨n2.ok, n2.env.unset i⟩, fun ρ2 μ2 h2 σ2 L2 G2 H2 s2 n2 => a2.bk _ _ h2 _ L2 G2 H2 s2 ⟨n2.ok, n2.env.unset i⟩, fun ρ2 μ2 h2 σ2 L2 G2 H2 s2 n2 => a2.ct _ _ h2 _ L2 G2 H2 s2 ⟨n2.ok, n2.env.unset i⟩, a2.rt, fun _ _ _ _ _ z => z.elim⟩
/-- e.f of the caught error -/
theorem wE_xf {a dd : Addr} {oe : Obj} {pn : List (Addr × Obj)} {f : Str} (T : XfC X.K C) (hno : PySem.W.findIn X.K (.ref C) f = some none) (hz : Zc (.ref C) (some dd) oe) (hv : ∃ vs, oe.data = .fields vs)
    (h : wE (X.suite a ((a, oe) :: pn)) W ρ μ e (fun d μ1 => ∃ ns ds d', d = .exn a dd ns ds ∧ fldOf ns ds f = some d' ∧ Q d' μ1) Z) (hb : attributeBase e f X.env (eval e X.env) = eval e X.env := by rfl) : wE (X.suite a ((a, oe) :: pn)) W ρ μ (.Attribute e f pos) Q Z :=
  ⟨pe_of (pe_xf T hno hz hv h.run hb) fun σ H R ⟨L, G, nw, av, ax⟩ => ⟨L, G, nw, fun d μ1 ⟨ns, ds, d', ed, hf, q⟩ v L1 G1 H1 s1 o1 r1 => by
    subst ed
    obtain ⟨vs, ev, eg, _, rr⟩ := rep_exn.mp r1
    obtain ⟨u, l, ru⟩ := fld_rep rr hf
    exact ⟨ev, rfl, dd, _, u, rfl, o1.sub _ _ eg, l, av _ _ q u L1 G1 H1 s1 o1 ru⟩, ax⟩⟩
end
end PM

set_option Elab.async false
set_option linter.all false
set_option maxRecDepth 100000
namespace PM
open PySem L2
/-! ### comprehensions -/
abbrev Z0 : KX := fun _ _ _ _ => False
/-- a target in a block: only own slots change -/
structure wGw (X : Cx) (vs : List Nat) (ρ : Env') (μ : List M) (tg : Expr) (d : D) (nx : Env' → Prop) : Prop where
  run : PG X tg (fun v σ H R => ∃ L G, Now X.K L G H μ ρ σ ∧ Rep X.K L G d v ∧ ∀ ρ', nx ρ' → ∀ σ' L' G' H', Step L G H L' G' H' → Now X.K L' G' H' μ ρ' σ' → wipe σ' vs = wipe σ vs → R σ' H')
structure wGws (X : Cx) (vs : List Nat) (ρ : Env') (μ : List M) (ts : List Expr) (ds : List D) (nx : Env' → Prop) : Prop where
  run : PGs X ts (fun us σ H R => ∃ L G, Now X.K L G H μ ρ σ ∧ Reps X.K L G ds us ∧ ∀ ρ', nx ρ' → ∀ σ' L' G' H', Step L G H L' G' H' → Now X.K L' G' H' μ ρ' σ' → wipe σ' vs = wipe σ vs → R σ' H')
structure wTs (X : Cx) (ρ : Env') (μ : List M) (ifs : List Expr) (Q : KT) : Prop where
  run : PTs X ifs (fun σ H R => ∃ L G, Now X.K L G H μ ρ σ ∧ ∀ b μ', Q b μ' → ComesT X.K L G H b μ' R)
/-- a block's context -/
abbrev InBlk (X : Cx) (k : Nat) (N : List Str) (V : List Kd) (Gs : List Str) (scope : Scope) (P : Cx → Prop) : Prop := ∀ (s : Shared) (H : Hp) (C : Addr) (cl : List (Str × Addr)) (fp : List Addr), Fx (X.blk s H scope (compEnvC scope cl C X.env) fp) W0 k N V Gs → P (X.blk s H scope (compEnvC scope cl C X.env) fp)
section
variable {X : Cx} {W : WX} {k : Nat} {N : List Str} {V V' : List Kd} {Gs Gs' : List Str} {ρ ρ' : Env'} {μ μ1 μ2 : List M} {e elt tg iter c : Expr} {es ifs : List Expr} {Q : KV} {Z : KX} {d : D} {ds : List D} {pos : Pos} {x : Str} {scope : Scope} {own : List (Str × Nat)} {vs : List Nat} {nx : Env' → Prop}
/-- a block's scope within a def's -/
def relabS (sc scope : Scope) : Scope := { scope with names := scope.names.map fun (n, k) => if (k == NameKind.free && sc.kind == .function && sc.names.lookup n == some .cell) then (n, NameKind.cell) else (n, k) }
theorem Fx.blk {s : Shared} {H : Hp} {C : Addr} {cl : List (Str × Addr)} {fp : List Addr} (g : Fx X W k N V Gs) (ck : ckB N V' Gs' (relabS X.env.scope scope) = true) : Fx (X.blk s H scope (compEnvC scope cl C X.env) fp) W0 k N V' Gs' := ⟨g.toGd.blk, ⟨g.N_, g.ndN, ck⟩⟩
theorem wGw_name {i : Nat} (g : Nx' X N V Gs) (hi : Il N V x i) (hv : i ∈ vs) (h : wPt N V x d ρ nx) : wGw X vs ρ μ (.Name x pos) d nx := by
  obtain ⟨e1, l1⟩ := hi.ex g.nm
  have hs := h.set g.nm g.ndN e1
  exact ⟨pg_of (ew_name (ρ := ρ) (μ := μ) (d := d) (vs := vs) i (by rw [g.N_]; exact g.ndN) hv (by rw [g.N_]; exact e1) (.inl l1) (.inr l1)) fun v σ H R ⟨L, G, n, r, a⟩ => ⟨L, G, n, r, a _ hs⟩⟩
theorem wTs_nil {Q : KT} (h : Q true μ) : wTs X ρ μ [] Q := ⟨⟨fun pins s σ H R I ⟨L, G, n, a⟩ => pts_nil.run pins s σ H R I (a _ _ h L G H (.refl _ _ _) n.ok)⟩⟩
theorem wTs_one {Q : KT} (h : wC X W0 ρ μ c Q Z0) : wTs X ρ μ [c] Q := ⟨⟨fun pins s σ H R I ⟨L, G, n, a⟩ => (pts_one h.run).run pins s σ H R I ⟨L, G, n, a, fun _ _ _ _ z => z.elim⟩⟩⟩
/-- one turn -/
def wTurn (X : Cx) (k : Nat) (N : List Str) (V : List Kd) (Gs : List Str) (scope : Scope) (vs : List Nat) (tg elt : Expr) (ifs : List Expr) (ρ : Env') (d : D) (μ : List M) (keep : D → List M → Prop) (skip : List M → Prop) : Prop :=
  InBlk X k N V Gs scope fun Y => wGw Y vs (wipeD ρ vs) μ tg d fun ρ1 => InBlk X k N V Gs scope fun Y => wTs Y ρ1 μ ifs fun b μ1 => if b = true then InBlk X k N V Gs scope fun Y => wE Y W0 ρ1 μ1 elt keep Z0 else skip μ1
/-- [elt for tg in iter if ..] by an invariant of what is left, what is done, the store -/
theorem wE_lc (V' : List Kd) (Gs' : List Str) (own : List (Str × Nat)) (Iv : List D → List D → List M → Prop) (g : Fx X W k N V Gs) {sc : Scope} (hsc : X.env.scope = sc) (ck : ckB N V' Gs' (relabS sc scope) = true) (ok : BlkOk X.N X.env.scope scope own)
    (hi : wI X W ρ μ tg iter (fun ds μ1 => ds.length ≤ sizeLine ∧ Iv ds [] μ1) Z)
    (ht : ∀ d ds done μ, Iv (d :: ds) done μ → wTurn X k N V' Gs' scope (own.map (·.2)) tg elt ifs ρ d μ (fun y μ1 => Iv ds (done ++ [y]) μ1) (fun μ1 => Iv ds done μ1))
    (hn : ∀ done μ, Iv [] done μ → Q (.lst done) μ) (hs : ∀ x, foldedSetIterable iter X.env x = pure x := by intro _; rfl) : wE X W ρ μ (.ListComp elt [⟨tg, iter, ifs, 0⟩] scope pos) Q Z := by
  have gb : ∀ (s : Shared) (H : Hp) (C : Addr) (cl : List (Str × Addr)) (fp : List Addr), Fx (X.blk s H scope (compEnvC scope cl C X.env) fp) W0 k N V' Gs' := fun s H C cl fp => g.blk (by rw [hsc]; exact ck)
  refine ⟨pe_of (pe_lc (g := bG X scope tg) (tt := bT X scope ifs) (te := bE X scope elt) g.calm g.nd hi.run ok (fun s H C cl fp => ⟨fun pins s' σ H' v u Q I r ⟨t, p, q⟩ => (p s H C cl fp).run pins s' σ H' v u Q I r q⟩)
    (fun s H C cl fp => ⟨fun pins s' σ H' Q I ⟨t, p, q⟩ => (p s H C cl fp).run pins s' σ H' Q I q⟩) (fun s H C cl fp => ⟨fun pins s' σ H' Q I ⟨t, p, q⟩ => (p s H C cl fp).run pins s' σ H' Q I q⟩) hs) fun σ H R ⟨L, G, nw, av, ax⟩ => ⟨L, G, nw, fun ds μ1 ⟨hl, i0⟩ J L1 G1 H1 s1 o1 j D hD => ?_, ax⟩⟩
  have oD := (o1.newH (o := .lst []) hD).1
  refine ⟨fun i m H' => m = ds.length - i ∧ i ≤ ds.length ∧ ∃ done us μ' L' G', Iv (ds.drop i) done μ' ∧ H' D = some (.lst us) ∧ Reps X.K L' G' done us ∧ Ok X.K L' G' H' μ' ∧ Step L1 G1 H1 L' G' H' ∧ G' D = none ∧ D ∉ L' ∧ done.length ≤ i,
    ⟨ds.length, by simp, Nat.zero_le _, [], [], μ1, L1, G1, i0, upd_same, Reps.nil, oD, (Step.refl L1 G1 H1).poke hD, Same.free o1.sub hD, fun z => mem_ne o1.liv hD D z rfl, Nat.zero_le _⟩, ?_⟩
  rintro i m H2 ⟨rfl, hil, done, us, μ', L2, G2, h2, eD, rd, o2, s2, gD2, nD2, hdi⟩
  have nw2 : ∀ {Lx Gx Hx μx}, Step L2 G2 H2 Lx Gx Hx → Ok X.K Lx Gx Hx μx → Now X.K Lx Gx Hx μx (wipeD ρ (own.map (·.2))) (wipe σ (own.map (·.2))) := fun sx ox => ⟨ox, (nw.env.wipe _).mono ((s1.trans s2).trans sx).pre ((s1.trans s2).trans sx).gs⟩
  have keepD : ∀ {Lx Gx Hx}, Step L2 G2 H2 Lx Gx Hx → Hx D = some (.lst us) ∧ Gx D = none ∧ D ∉ Lx := fun {Lx Gx Hx} sx => by
    refine ⟨sx.hs D _ eD nD2, ?_, fun z => ?_⟩
    · cases e : Gx D with
      | none => rfl
      | some o =>
        rcases sx.gf D o e with q | q
        · rw [gD2] at q; cases q
        · rw [eD] at q; cases q
    · rcases sx.fr D z with q | q
      · exact nD2 q
      · rw [eD] at q; cases q
  generalize hd : ds.drop i = dr at h2
  cases dr with
  | nil =>
    have ei : i = ds.length := by
      have := congrArg List.length hd
      simp at this
      omega
    subst ei
    refine .inl ⟨j.stop L2 G2 H2 _ s2.pre s2.gs o2, ?_⟩
    obtain ⟨o3, sg⟩ := o2.tell (p := D) (o := .lst us) eD nD2
    exact av _ _ (hn _ _ h2) _ L2 _ H2 (s1.trans (s2.tell hD sg)) o3 (rep_lst.mpr ⟨D, us, rfl, upd_same, rd.mono (.refl _) sg⟩)
  | cons d ds' =>
    obtain ⟨e1, e2⟩ := drop_cons hd
    obtain ⟨go, yl⟩ := j.go L2 G2 H2 μ' i d s2.pre s2.gs o2 e1
    have il : i < ds.length := (List.getElem?_eq_some_iff.mp e1).1
    refine .inr ⟨go, fun H' => ∃ done' us' μb L' G', Iv ds' done' μb ∧ H' D = some (.lst us') ∧ Reps X.K L' G' done' us' ∧ Ok X.K L' G' H' μb ∧ Step L1 G1 H1 L' G' H' ∧ G' D = none ∧ D ∉ L' ∧ done'.length ≤ i + 1, fun H' ⟨done', us', μb, L', G', q0, q1, q2, q3, q4, q5, q6, q7⟩ => ⟨ds.length - (i + 1), by omega, rfl, il, done', us', μb, L', G', by rw [e2]; exact q0, q1, q2, q3, q4, q5, q6, q7⟩, fun x H3 yy => ?_⟩
    obtain ⟨G3, s3, o3, r3⟩ := yl x H3 yy
    refine ⟨fun v σ H R => ∃ L G, Now X.K L G H μ' (wipeD ρ (own.map (·.2))) σ ∧ Rep X.K L G d v ∧ ∀ ρ', _ → ∀ σ' L' G' H', Step L G H L' G' H' → Now X.K L' G' H' μ' ρ' σ' → wipe σ' (own.map (·.2)) = wipe σ (own.map (·.2)) → R σ' H', fun s H C cl fp => ((ht d ds' done μ' h2) s H C cl fp (gb s H C cl fp)).run, L2, G3, nw2 s3 o3, r3, fun ρ1 h1 σ4 L4 G4 H4 s4 n4 w4 => ⟨by rw [w4, wipe_idem], fun σ H R => ∃ L G, Now X.K L G H μ' ρ1 σ ∧ ∀ b μ5, _ → ComesT X.K L G H b μ5 R, fun s H C cl fp => (h1 s H C cl fp (gb s H C cl fp)).run, L4, G4, n4, fun b μ5 h5 L5 G5 H5 s5 o5 => ?_⟩⟩
    cases b with
    | true =>
      refine iteT ⟨fun σ H R => ∃ L G, Now X.K L G H μ5 ρ1 σ ∧ AccV X.K L G H _ R ∧ AccX W0 X.K L G H σ Z0, fun s H C cl fp => ((show InBlk X k N V' Gs' scope fun Y => wE Y W0 ρ1 μ5 elt _ Z0 from h5) s H C cl fp (gb s H C cl fp)).run, L5, G5, n4.step s5 o5, fun y μ6 h6 v L6 G6 H6 s6 o6 r6 => ?_, fun _ _ _ _ z => z.elim⟩
      have s36 := ((s3.trans s4).trans s5).trans s6
      obtain ⟨k1, k2, k3⟩ := keepD s36
      refine ⟨us, k1, ?_, done ++ [y], us ++ [v], μ6, L6, G6, h6, upd_same, (rd.step s36).append (Reps.cons r6 Reps.nil), o6.poke k3 k2, (s2.trans s36).poke hD, k2, k3, by simp; omega⟩
      rw [rd.length]
      omega
    | false =>
      have s35 := (s3.trans s4).trans s5
      obtain ⟨k1, k2, k3⟩ := keepD s35
      exact iteF ⟨done, us, μ5, L5, G5, h5, k1, rd.step s35, o5, s2.trans s35, k2, k3, by omega⟩
/-- y = [..]: the name's own slot is written in one go -/
theorem wS_setLc (V' : List Kd) (Gs' : List Str) (own : List (Str × Nat)) (Iv : List D → List D → List M → Prop) {nx : KN} {κ : Ks} {y : Str} {i : Nat} {py spos : Pos} (g : Fx X W k N V Gs) (hy : Il N V y i) {sc : Scope} (hsc : X.env.scope = sc) (ck : ckB N V' Gs' (relabS sc scope) = true) (ok : BlkOk X.N X.env.scope scope own)
    (hi : wI X W ρ μ tg iter (fun ds μ1 => ds.length ≤ sizeLine ∧ Iv ds [] μ1) (κ.z ρ))
    (ht : ∀ d ds done μ, Iv (d :: ds) done μ → wTurn X k N V' Gs' scope (own.map (·.2)) tg elt ifs ρ d μ (fun y μ1 => Iv ds (done ++ [y]) μ1) (fun μ1 => Iv ds done μ1))
    (hn : ∀ done μ, Iv [] done μ → wPt N V y (.lst done) ρ (fun ρ' => nx ρ' μ))
    (hkd : X.env.scope.kind = .function := by rfl) (hl : (py.line == pos.line) = true := by rfl) (hnm : (scope.names.any fun (n, k) => n == y && (k == .local || k == .cell)) = false := by decide +kernel)
    (hs : ∀ x, foldedSetIterable iter X.env x = pure x := by intro _; rfl) : wS X W ρ μ (.Assign [.Name y py] (.ListComp elt [⟨tg, iter, ifs, 0⟩] scope pos) spos) nx κ := by
  obtain ⟨e1, l1⟩ := hy.ex g.nm
  have gb : ∀ (s : Shared) (H : Hp) (C : Addr) (cl : List (Str × Addr)) (fp : List Addr), Fx (X.blk s H scope (compEnvC scope cl C X.env) fp) W0 k N V' Gs' := fun s H C cl fp => g.blk (by rw [hsc]; exact ck)
  refine ⟨ps_of (ps_setLc (g := bG X scope tg) (tt := bT X scope ifs) (te := bE X scope elt) g.calm g.nd (by rw [g.N_]; exact e1) l1 (sw_true hkd l1 hl hnm) hi.run ok (fun s H C cl fp => ⟨fun pins s' σ H' v u Q I r ⟨t, p, q⟩ => (p s H C cl fp).run pins s' σ H' v u Q I r q⟩)
    (fun s H C cl fp => ⟨fun pins s' σ H' Q I ⟨t, p, q⟩ => (p s H C cl fp).run pins s' σ H' Q I q⟩) (fun s H C cl fp => ⟨fun pins s' σ H' Q I ⟨t, p, q⟩ => (p s H C cl fp).run pins s' σ H' Q I q⟩) hs) fun DD σ H ⟨L, G, nw, ac⟩ => ⟨L, G, nw, fun ds μ1 ⟨hl, i0⟩ J L1 G1 H1 s1 o1 j D hD => ?_, ac.x nw⟩⟩
  have oD := (o1.newH (o := .lst []) hD).1
  refine ⟨fun i m H' => m = ds.length - i ∧ i ≤ ds.length ∧ ∃ done us μ' L' G', Iv (ds.drop i) done μ' ∧ H' D = some (.lst us) ∧ Reps X.K L' G' done us ∧ Ok X.K L' G' H' μ' ∧ Step L1 G1 H1 L' G' H' ∧ G' D = none ∧ D ∉ L' ∧ done.length ≤ i,
    ⟨ds.length, by simp, Nat.zero_le _, [], [], μ1, L1, G1, i0, upd_same, Reps.nil, oD, (Step.refl L1 G1 H1).poke hD, Same.free o1.sub hD, fun z => mem_ne o1.liv hD D z rfl, Nat.zero_le _⟩, ?_⟩
  rintro i m H2 ⟨rfl, hil, done, us, μ', L2, G2, h2, eD, rd, o2, s2, gD2, nD2, hdi⟩
  have nw2 : ∀ {Lx Gx Hx μx}, Step L2 G2 H2 Lx Gx Hx → Ok X.K Lx Gx Hx μx → Now X.K Lx Gx Hx μx (wipeD ρ (own.map (·.2))) (wipe σ (own.map (·.2))) := fun sx ox => ⟨ox, (nw.env.wipe _).mono ((s1.trans s2).trans sx).pre ((s1.trans s2).trans sx).gs⟩
  have keepD : ∀ {Lx Gx Hx}, Step L2 G2 H2 Lx Gx Hx → Hx D = some (.lst us) ∧ Gx D = none ∧ D ∉ Lx := fun {Lx Gx Hx} sx => by
    refine ⟨sx.hs D _ eD nD2, ?_, fun z => ?_⟩
    · cases e : Gx D with
      | none => rfl
      | some o =>
        rcases sx.gf D o e with q | q
        · rw [gD2] at q; cases q
        · rw [eD] at q; cases q
    · rcases sx.fr D z with q | q
      · exact nD2 q
      · rw [eD] at q; cases q
  generalize hd : ds.drop i = dr at h2
  cases dr with
  | nil =>
    have ei : i = ds.length := by
      have := congrArg List.length hd
      simp at this
      omega
    subst ei
    refine .inl ⟨j.stop L2 G2 H2 _ s2.pre s2.gs o2, ?_⟩
    obtain ⟨o3, sg⟩ := o2.tell (p := D) (o := .lst us) eD nD2
    have s4 := s1.trans (s2.tell hD sg)
    exact ac.nx _ _ ((hn _ _ h2).set g.nm g.ndN e1) _ L2 _ H2 s4 ⟨o3, (nw.env.step s4).set (rep_lst.mpr ⟨D, us, rfl, upd_same, rd.mono (.refl _) sg⟩) _⟩
  | cons d ds' =>
    obtain ⟨e1, e2⟩ := drop_cons hd
    obtain ⟨go, yl⟩ := j.go L2 G2 H2 μ' i d s2.pre s2.gs o2 e1
    have il : i < ds.length := (List.getElem?_eq_some_iff.mp e1).1
    refine .inr ⟨go, fun H' => ∃ done' us' μb L' G', Iv ds' done' μb ∧ H' D = some (.lst us') ∧ Reps X.K L' G' done' us' ∧ Ok X.K L' G' H' μb ∧ Step L1 G1 H1 L' G' H' ∧ G' D = none ∧ D ∉ L' ∧ done'.length ≤ i + 1, fun H' ⟨done', us', μb, L', G', q0, q1, q2, q3, q4, q5, q6, q7⟩ => ⟨ds.length - (i + 1), by omega, rfl, il, done', us', μb, L', G', by rw [e2]; exact q0, q1, q2, q3, q4, q5, q6, q7⟩, fun x H3 yy => ?_⟩
    obtain ⟨G3, s3, o3, r3⟩ := yl x H3 yy
    refine ⟨fun v σ H R => ∃ L G, Now X.K L G H μ' (wipeD ρ (own.map (·.2))) σ ∧ Rep X.K L G d v ∧ ∀ ρ', _ → ∀ σ' L' G' H', Step L G H L' G' H' → Now X.K L' G' H' μ' ρ' σ' → wipe σ' (own.map (·.2)) = wipe σ (own.map (·.2)) → R σ' H', fun s H C cl fp => ((ht d ds' done μ' h2) s H C cl fp (gb s H C cl fp)).run, L2, G3, nw2 s3 o3, r3, fun ρ1 h1 σ4 L4 G4 H4 s4 n4 w4 => ⟨by rw [w4, wipe_idem], fun σ H R => ∃ L G, Now X.K L G H μ' ρ1 σ ∧ ∀ b μ5, _ → ComesT X.K L G H b μ5 R, fun s H C cl fp => (h1 s H C cl fp (gb s H C cl fp)).run, L4, G4, n4, fun b μ5 h5 L5 G5 H5 s5 o5 => ?_⟩⟩
    cases b with
    | true =>
      refine iteT ⟨fun σ H R => ∃ L G, Now X.K L G H μ5 ρ1 σ ∧ AccV X.K L G H _ R ∧ AccX W0 X.K L G H σ Z0, fun s H C cl fp => ((show InBlk X k N V' Gs' scope fun Y => wE Y W0 ρ1 μ5 elt _ Z0 from h5) s H C cl fp (gb s H C cl fp)).run, L5, G5, n4.step s5 o5, fun y μ6 h6 v L6 G6 H6 s6 o6 r6 => ?_, fun _ _ _ _ z => z.elim⟩
      have s36 := ((s3.trans s4).trans s5).trans s6
      obtain ⟨k1, k2, k3⟩ := keepD s36
      refine ⟨us, k1, ?_, done ++ [y], us ++ [v], μ6, L6, G6, h6, upd_same, (rd.step s36).append (Reps.cons r6 Reps.nil), o6.poke k3 k2, (s2.trans s36).poke hD, k2, k3, by simp; omega⟩
      rw [rd.length]
      omega
    | false =>
      have s35 := (s3.trans s4).trans s5
      obtain ⟨k1, k2, k3⟩ := keepD s35
      exact iteF ⟨done, us, μ5, L5, G5, h5, k1, rd.step s35, o5, s2.trans s35, k2, k3, by omega⟩
end
end PM

set_option Elab.async false
set_option linter.all false
set_option maxRecDepth 100000
namespace PM
open PySem L2
/-! ### calls by keywords -/
structure wK (X : Cx) (W : WX) (ρ : Env') (μ : List M) (kws : List Keyword) (Q : KA) (Z : KX) : Prop where
  run : PK X kws (fun σ H R => ∃ L G, Now X.K L G H μ ρ σ ∧ (∀ ds μ', Q ds μ' → ComesA X.K L G H ds μ' R) ∧ AccX W X.K L G H σ Z)
def aK (X : Cx) (kws : List Keyword) : TA := fun σ H Q => ∃ t, PK X kws t ∧ t σ H Q
section
variable {X : Cx} {W : WX} {k n : Nat} {N : List Str} {V : List Kd} {Gs ks : List Str} {p : List Nat} {ρ : Env'} {μ μ1 : List M} {e ob : Expr} {es : List Expr} {Q : KV} {Z : KX} {QA : KA} {d : D} {ds es' : List D} {pp pos apos kpos : Pos} {x m : Str} {f : Fnx} {C pr : Addr} {pl : Sem Bool} {kws : List Keyword} {nm : Option Str}
theorem wK.go {pins : List (Addr × Obj)} {s : Shared} {σ : L2.St} {H : Hp} {L : List Addr} {G : Hp} (h : wK X W ρ μ kws QA Z) (I : Inv X pins σ H s) (n : Now X.K L G H μ ρ σ) (z : AccX W X.K L G H σ Z) (pos : Pos) :
    wpAny (model X.prog X.w) X.A (evalAll ((backToKw pos (keywordEach kws X.env)).map (·.2))) (fun us s1 => ∃ vs ds μ1 L1 G1 H1, Inv X pins σ H1 s1 ∧ Vals vs us ∧ QA ds μ1 ∧ Step L G H L1 G1 H1 ∧ Ok X.K L1 G1 H1 μ1 ∧ Reps X.K L1 G1 ds vs) X.xe s :=
  thn (h.run.run pos pins s σ H (fun vs H1 => ∃ ds μ1 L1 G1, QA ds μ1 ∧ Step L G H L1 G1 H1 ∧ Ok X.K L1 G1 H1 μ1 ∧ Reps X.K L1 G1 ds vs) I ⟨L, G, n, fun ds μ' q vs L' G' H' s' o' r' => ⟨ds, μ', L', G', q, s', o', r'⟩, z⟩)
    fun us s1 ⟨vs, H1, I1, r1, ds, μ1, L1, G1, q, st, o, r⟩ => ⟨vs, ds, μ1, L1, G1, H1, I1, r1, q, st, o, r⟩
end
end PM

set_option Elab.async false
set_option linter.all false
set_option maxRecDepth 100000
namespace PM
open PySem L2
section
variable {X : Cx} {W : WX} {k : Nat} {N : List Str} {V : List Kd} {Gs : List Str} {ρ : Env'} {μ : List M} {e oe a b c : Expr} {es : List Expr} {Q : KV} {Z : KX} {QT : KT} {QA : KA} {d : D} {ds : List D} {p pos pos' : Pos} {x f : Str} {nx : KN} {κ : Ks}
end
end PM

set_option Elab.async false
set_option linter.all false
set_option maxRecDepth 100000
namespace PM
open PySem L2
section
variable {X : Cx} {W : WX} {k n : Nat} {μ : List M} {ds : List D} {ps : List PyData} {Q : KV} {Z : KX}
end
section
variable {X : Cx} {W : WX} {k j i : Nat} {ps : List Str} {R : Rl} {f C : Addr} {fd : FuncData} {ρ : Env'} {μ μ2 : List M} {ns : List Str} {fs : List D} {d da db : D} {b : Bool} {x : Str} {e : Expr} {op : Operator} {pos pos' : Pos} {nx : KN} {κ : Ks}
end
end PM

set_option Elab.async false
set_option linter.all false
set_option maxRecDepth 100000
namespace PM
open PySem L2 PyProof.Rows
section
variable {prog : Program} {w : World} {A : Around} {E : Value → Shared → Prop} {s : Shared} {K : PySem.W.Frag} {x C f : Addr} {ox : Obj} {od : Option Obj} {name : Str} {id n : String} {B : Builtin} {args : List Value}
end
section
variable {X : Cx} {W : WX} {k j : Nat} {ps : List Str} {R : Rl} {f C : Addr} {fd : FuncData} {μ μ2 : List M} {ns ns' : List Str} {fs fs' : List D} {b : Bool}
end
section
variable {X : Cx} {W : WX} {k j : Nat} {ps : List Str} {R : Rl} {f C : Addr} {fd : FuncData} {ρ : Env'} {μ μ1 μ2 : List M} {ns : List Str} {fs : List D} {y : Str} {e : Expr} {pos : Pos}
end
end PM

set_option Elab.async false
set_option linter.all false
set_option maxRecDepth 100000
namespace PM
open PySem L2
section
variable {X : Cx} {W : WX} {ρ : Env'} {μ : List M} {e e2 : Expr} {elts : List Expr} {kk : Nat} {tpos p pos : Pos} {QA : KA} {Z : KX}
end
end PM

set_option Elab.async false
set_option linter.all false
set_option maxRecDepth 100000
set_option maxHeartbeats 4000000
namespace PM
open PySem PySem.Spec PySem.Calls PyProof.Rows L2
section
variable {prog : Program} {w : World} {A : Around} {E : Value → Shared → Prop} {s : Shared} {K : PySem.W.Frag} {x C : Addr} {ox : Obj} {od : Option Obj}
end
/-- the class, or the tuple of classes, that a caught error is asked for -/
inductive AskD (K : PySem.W.Frag) (C : Addr) : D → Bool → Prop
  | ty {n : String} {b : Bool} (h : PySem.W.kitOne K (.ref C) (.type n) = some b) : AskD K C (.ty n) b
  | own {B : Addr} {b : Bool} (h : PySem.W.kitOne K (.ref C) (.ref B) = some b) : AskD K C (.ref B) b
inductive AskDs (K : PySem.W.Frag) (C : Addr) : List D → Bool → Prop
  | nil : AskDs K C [] false
  | cons {d : D} {ds : List D} {b c : Bool} (h : AskD K C d b) (t : AskDs K C ds c) : AskDs K C (d :: ds) (b || c)
theorem AskD.eq {K : PySem.W.Frag} {C : Addr} {L : List Addr} {G : Hp} {d : D} {b : Bool} {v : V} (h : AskD K C d b) (r : Rep K L G d v) : ∃ u, ClsV v u ∧ PySem.W.kitOne K (.ref C) u = some b := by
  cases h with
  | ty h => rw [rep_ty.mp r]; exact ⟨_, .ty _, h⟩
  | own h => rw [rep_ref.mp r]; exact ⟨_, .own _, h⟩
theorem AskDs.eq {K : PySem.W.Frag} {C : Addr} {L : List Addr} {G : Hp} : ∀ {ds : List D} {b : Bool} {vs : List V}, AskDs K C ds b → Reps K L G ds vs → ∃ us, Paired ClsV vs us ∧ PySem.W.kitAny K (.ref C) us = some b
  | _, _, _, .nil, r => by rw [r.inv_nil]; exact ⟨[], .nil, rfl⟩
  | _, _, _, .cons (b := b) (c := c) h t, r => by
    obtain ⟨v, rest, rfl, ra, rb⟩ := r.inv_cons
    obtain ⟨u, k1, e1⟩ := h.eq ra
    obtain ⟨us, k2, e2⟩ := AskDs.eq t rb
    refine ⟨u :: us, .cons k1 k2, kitAny_cons e1 (fun hb => ?_) (fun hb => ?_)⟩
    · rw [hb, Bool.false_or]; exact e2
    · rw [hb, Bool.true_or]
section
variable {X : Cx} {W : WX} {a C dd : Addr} {oe : Obj} {pn : List (Addr × Obj)} {μ : List M} {Q : KV} {Z : KX}
def rIsEF (K : PySem.W.Frag) (C a dd : Addr) : List V → Hp → VK → Prop := fun xs H Q => ∃ (c : V) (u : Value) (b : Bool) (fs : List (Str × V)), xs = [.ref a, c] ∧ ClsV c u ∧ H dd = some (.xd fs) ∧ PySem.W.kitOne K (.ref C) u = some b ∧ Q (.bl b) H
def rIsET (K : PySem.W.Frag) (C a dd : Addr) : List V → Hp → VK → Prop := fun xs H Q => ∃ (tp : Addr) (cs : List V) (us : List Value) (b : Bool) (fs : List (Str × V)), xs = [.ref a, .ref tp] ∧ SqT K H tp cs ∧ Paired ClsV cs us ∧ H dd = some (.xd fs) ∧ PySem.W.kitAny K (.ref C) us = some b ∧ Q (.bl b) H
end
end PM

set_option Elab.async false
set_option linter.all false
set_option maxRecDepth 100000
set_option maxHeartbeats 4000000
namespace PM
open PySem L2
/-! ### repr(list of own instances) -/
section
variable {prog : Program} {w : World} {A : Around} {E : Value → Shared → Prop} {s : Shared} {K : PySem.W.Frag} {x C f : Addr} {ox : Obj} {od : Option Obj} {name : Str}
end
section
variable {X : Cx} {W : WX} {k j : Nat} {ps : List Str} {R : Rl} {f C : Addr} {fd : FuncData} {μ : List M} {ds : List D} {ts : List Str}
/-- what the items tell -/
def TellsAll (C : Addr) (R : Rl) (μ : List M) (ds : List D) (ts : List Str) : Prop := ts.length = ds.length ∧ ∀ (i : Nat) (d : D), ds[i]? = some d → ∃ t ns fs, ts[i]? = some t ∧ d = .obj C ns fs ∧ R [d] μ (.ret (.str t) μ)
end
end PM

set_option Elab.async false
set_option linter.all false
set_option maxRecDepth 100000
set_option maxHeartbeats 4000000
namespace PM
open PySem
open L2 hiding Inv
/-! ### enumerate(tuple) -/
def IteT (K : PySem.W.Frag) (a : Addr) : It :=
  ⟨fun i H => ∃ (xs : List V) (x : V), SqT K H a xs ∧ xs[i]? = some x, fun i H v H' => ∃ T x, v = .ref T ∧ H T = none ∧ H' = upd H T (.tup [.int (i : Nat), x]) ∧ ∀ xs, SqT K H a xs → xs[i]? = some x, fun i H => ∃ xs : List V, SqT K H a xs ∧ xs.length ≤ i⟩
def iEnumT (K : PySem.W.Frag) (ta : TA) : TI := fun σ H R => ta σ H fun vs H1 => ∃ a xs, vs = [.ref a] ∧ SqT K H1 a xs ∧ R (IteT K a) H1
/-! as rules -/
def enumD (ds : List D) : List D := ds.mapIdx fun i d => .tup [.int (i : Nat), d]
section
variable {X : Cx} {W : WX} {ρ : Env'} {μ : List M} {e : Expr} {elts : List Expr} {kk : Nat} {tpos p pos : Pos} {QA : KA} {Z : KX}
end
end PM

set_option Elab.async false
set_option linter.all false
set_option maxRecDepth 100000
set_option maxHeartbeats 4000000
namespace PM
open PySem L2
/-! ### lists made, emptied; len and subscripts of own instances -/
/-- a list or a tuple, a tree or in the store -/
abbrev Sqd (μ : List M) (d : D) (ds : List D) : Prop := d = .lst ds ∨ d = .tup ds ∨ ∃ n : Nat, d = .loc n ∧ μ[n]? = some (.lst ds)
section
variable {X : Cx} {W : WX} {k : Nat} {ρ : Env'} {μ : List M} {o e a b : Expr} {d : D} {ds : List D} {apos pos : Pos} {Q : KV} {Z : KX} {n : Nat}
theorem Sqd.at_ {K : PySem.W.Frag} {L : List Addr} {G H : Hp} {v : V} (c : Sqd μ d ds) (ok : Ok K L G H μ) (r : Rep K L G d v) : ∃ p vs, v = .ref p ∧ (SqL K H p vs ∨ SqT K H p vs) ∧ Reps K L G ds vs := by
  rcases c with rfl | rfl | ⟨n, rfl, hn⟩
  · obtain ⟨p, vs, e, q, rr⟩ := rep_lst.mp r
    exact ⟨p, vs, e, .inl (SqL.of (ok.sub _ _ q)), rr⟩
  · obtain ⟨p, vs, e, q, rr⟩ := rep_tup.mp r
    exact ⟨p, vs, e, .inr (Same.sqT ok.sub q), rr⟩
  · obtain ⟨p, ea, e⟩ := rep_loc.mp r
    obtain ⟨vs, eh, rr⟩ := ok.at_ n p _ ea hn
    exact ⟨p, vs, e, .inl (SqL.of eh), rr⟩
end
section
variable {X : Cx} {W : WX} {k j : Nat} {ps : List Str} {R : Rl} {f C : Addr} {fd : FuncData} {μ μ2 : List M} {ns : List Str} {fs : List D} {i : Int}
end
section
variable {X : Cx} {W : WX} {k : Nat} {ρ : Env'} {μ : List M} {a b : Expr} {pos : Pos} {Q : KV} {Z : KX} {C : Addr}
end
section
variable {X : Cx} {W : WX} {ρ : Env'} {μ : List M} {a b c : Expr} {pos : Pos} {QT : KT} {Z : KX}
/-- a op b op' c, a test -/
theorem wC_cmp2 {op op' : CmpOp} (h : wE X W ρ μ a (fun da μ1 => wE X W ρ μ1 b (fun db μ2 => wB X W (compareOp op) da db μ2 (fun d μ3 => ∃ k, d = .bl k ∧ if k = true then wE X W ρ μ3 c (fun dc μ4 => wB X W (compareOp op') db dc μ4 (fun d μ5 => ∃ k', d = .bl k' ∧ QT k' μ5) Z) Z else QT false μ3) Z) Z) Z)
    (hm : lastMarks [op, op'] [b, c] = false := by with_unfolding_all rfl) : wC X W ρ μ (.Compare a [op, op'] [b, c] pos) QT Z := by
  refine ⟨⟨fun pins s σ H R I ⟨L, G, n, v, x⟩ => ?_⟩⟩
  refine PyProof.Rows.isTrue_chain (thn (h.go I n x) fun u s1 ⟨y, da, μ1, L1, G1, H1, I1, ry, hb, st1, o1, r1⟩ => PyProof.Rows.test_link (thn (hb.go I1 (n.step st1 o1) (x.step st1)) fun u2 s2 ⟨y2, db, μ2, L2, G2, H2, I2, ry2, ho, st2, o2, r2⟩ => ?_)) hm
  refine thn (ho.run pins s2 σ H2 y y2 u u2 (fun z H' => ∃ k μ3 L3 G3, z = .bl k ∧ Step L2 G2 H2 L3 G3 H' ∧ Ok X.K L3 G3 H' μ3 ∧ if k = true then wE X W ρ μ3 c (fun dc μ4 => wB X W (compareOp op') db dc μ4 (fun d μ5 => ∃ k', d = .bl k' ∧ QT k' μ5) Z) Z else QT false μ3) L2 G2 I2 ry ry2 o2 (r1.step st2) r2 (fun d μ3 ⟨k, e, q⟩ w L3 G3 H3 st3 o3 r3 => by
      subst e
      exact ⟨k, μ3, L3, G3, rep_bl.mp r3, st3, o3, q⟩) (x.step (st1.trans st2))) fun z s3 ⟨y3, H3, I3, r3, k, μ3, L3, G3, e3, st3, o3, q3⟩ => ?_
  subst e3
  cases r3
  refine wpAny_truthy_bool ?_
  cases k with
  | false =>
    rw [if_neg Bool.false_ne_true] at q3 ⊢
    exact ⟨H3, I3, v false μ3 q3 L3 G3 H3 ((st1.trans st2).trans st3) o3⟩
  | true =>
    rw [if_pos rfl] at q3 ⊢
    have st := (st1.trans st2).trans st3
    refine PyProof.Rows.test_last (thn (q3.go I3 (n.step st o3) (x.step st)) fun u4 s4 ⟨y4, dc, μ4, L4, G4, H4, I4, ry4, ho4, st4, o4, r4⟩ => ?_)
    refine thn (ho4.run pins s4 σ H4 y2 y4 u2 u4 (fun z H' => ∃ k, z = .bl k ∧ R k H') L4 G4 I4 ry2 ry4 o4 ((r2.step st3).step st4) r4 (fun d μ5 ⟨k, e, q⟩ w L5 G5 H5 st5 o5 r5 => by
      subst e
      exact ⟨k, rep_bl.mp r5, v k μ5 q L5 G5 H5 ((st.trans st4).trans st5) o5⟩) (x.step (st.trans st4))) fun z s5 ⟨y5, H5, I5, r5, k, e5, q5⟩ => ?_
    subst e5
    cases r5
    exact wpAny_truthy_bool ⟨H5, I5, q5⟩
end
/-! a branch -/
theorem hdI {c : Prop} {i : Decidable c} {a b : Prop} (h : @ite Prop c i a b) : @ite Prop c i a b := h
theorem iteTT {i : Decidable (true = true)} {a b : Prop} (h : a) : @ite Prop (true = true) i a b := by rw [if_pos rfl]; exact h
theorem iteFT {i : Decidable (false = true)} {a b : Prop} (h : b) : @ite Prop (false = true) i a b := by rw [if_neg Bool.false_ne_true]; exact h
theorem iteNT {i : Decidable ((!true) = true)} {a b : Prop} (h : b) : @ite Prop ((!true) = true) i a b := by rw [if_neg (show ¬ ((!true) = true) from Bool.false_ne_true)]; exact h
theorem iteNF {i : Decidable ((!false) = true)} {a b : Prop} (h : a) : @ite Prop ((!false) = true) i a b := by rw [if_pos (show (!false) = true from rfl)]; exact h
theorem hdN1 {d : D} {i : Decidable (d.isN = true)} {a b : Prop} (h : @ite Prop (d.isN = true) i a b) : @ite Prop (d.isN = true) i a b := h
theorem hdN2 {d : D} {i : Decidable ((!d.isN) = true)} {a b : Prop} (h : @ite Prop ((!d.isN) = true) i a b) : @ite Prop ((!d.isN) = true) i a b := h
end PM

set_option Elab.async false
set_option linter.all false
set_option maxRecDepth 100000
set_option maxHeartbeats 1000000
namespace PM
/-! pools that run together, by moments and volumes -/
abbrev P2 : Type := Int × Int
def mrg (a b : P2) : P2 := (a.1 + b.1, a.2 + b.2)
/-- moments crossed: above 0 if b is right of a -/
def crs (a b : P2) : Int := b.1 * a.2 - a.1 * b.2
def wid (a b : P2) : Int := a.2 * b.2 * (a.2 + b.2)
def Tou (a b : P2) : Prop := 2 * crs a b ≤ wid a b ∧ -(2 * crs a b) ≤ wid a b
/-- b is right of a and apart -/
def Apt (a b : P2) : Prop := wid a b < 2 * crs a b
theorem Tou.symm {a b : P2} (h : Tou a b) : Tou b a := by
  obtain ⟨h1, h2⟩ := h
  unfold crs wid at h1 h2
  unfold Tou crs wid
  constructor <;> grind
/-- what touches a part touches the whole -/
theorem Tou.mrg {a b c : P2} (ha : 0 < a.2) (hb : 0 < b.2) (hc : 0 < c.2) (h1 : Tou a b) (h2 : Tou a c) : Tou (PM.mrg a b) c := by
  obtain ⟨m1, v1⟩ := a
  obtain ⟨m2, v2⟩ := b
  obtain ⟨m3, v3⟩ := c
  obtain ⟨p1, p2⟩ := h1
  obtain ⟨q1, q2⟩ := h2
  simp only [Tou, PM.mrg, crs, wid] at *
  have key : v1 * (m3 * (v1 + v2) - (m1 + m2) * v3) = (v1 + v2) * (m3 * v1 - m1 * v3) - v3 * (m2 * v1 - m1 * v2) := by grind
  have s : 0 ≤ v1 + v2 := by omega
  have t : 0 ≤ v3 := by omega
  have a1 := Int.mul_le_mul_of_nonneg_left q1 s
  have a2 := Int.mul_le_mul_of_nonneg_left q2 s
  have b1 := Int.mul_le_mul_of_nonneg_left p1 t
  have b2 := Int.mul_le_mul_of_nonneg_left p2 t
  constructor
  · refine Int.le_of_mul_le_mul_left ?_ ha
    grind
  · refine Int.le_of_mul_le_mul_left ?_ ha
    grind
theorem Apt.not {a b : P2} (h : Apt a b) : ¬ Tou a b := fun z => by
  have := z.1
  unfold Apt at h
  omega
theorem Apt.pos {a b : P2} (ha : 0 < a.2) (hb : 0 < b.2) (h : Apt a b) : 0 < crs a b := by
  have : 0 < wid a b := Int.mul_pos (Int.mul_pos ha hb) (by omega)
  unfold Apt at h
  omega
/-! ### runs -/
def Psv (xs : List P2) : Prop := ∀ p ∈ xs, 0 < p.2
def Stp (xs ys : List P2) : Prop := ∃ a b r, xs.Perm (a :: b :: r) ∧ Tou a b ∧ ys.Perm (mrg a b :: r)
inductive Runs : List P2 → List P2 → Prop
  | refl {xs ys : List P2} (h : xs.Perm ys) : Runs xs ys
  | step {xs ys zs : List P2} (h : Stp xs ys) (t : Runs ys zs) : Runs xs zs
def Nrm (xs : List P2) : Prop := ∀ a b r, xs.Perm (a :: b :: r) → ¬ Tou a b
theorem Psv.perm {xs ys : List P2} (h : Psv xs) (p : xs.Perm ys) : Psv ys := fun q hq => h q (p.mem_iff.mpr hq)
theorem Stp.perm {xs xs' ys : List P2} (h : Stp xs ys) (p : xs'.Perm xs) : Stp xs' ys := let ⟨a, b, r, h1, h2, h3⟩ := h; ⟨a, b, r, p.trans h1, h2, h3⟩
theorem Runs.perm {xs xs' ys : List P2} (h : Runs xs ys) (p : xs'.Perm xs) : Runs xs' ys := by
  cases h with
  | refl q => exact .refl (p.trans q)
  | step s t => exact .step (s.perm p) t
theorem Runs.trans {xs ys zs : List P2} (h : Runs xs ys) (t : Runs ys zs) : Runs xs zs := by
  induction h with
  | refl q => exact t.perm q
  | step s _ ih => exact .step s (ih t)
theorem Stp.pos {xs ys : List P2} (h : Stp xs ys) (p : Psv xs) : Psv ys := by
  obtain ⟨a, b, r, h1, h2, h3⟩ := h
  have q := p.perm h1
  refine Psv.perm (fun z hz => ?_) h3.symm
  rcases List.mem_cons.mp hz with rfl | hz
  · have := q a (by simp)
    have := q b (by simp)
    show 0 < a.2 + b.2
    omega
  · exact q z (by simp [hz])
theorem Runs.pos {xs ys : List P2} (h : Runs xs ys) (p : Psv xs) : Psv ys := by
  induction h with
  | refl q => exact p.perm q
  | step s _ ih => exact ih (s.pos p)
theorem Stp.len {xs ys : List P2} (h : Stp xs ys) : xs.length = ys.length + 1 := by
  obtain ⟨a, b, r, h1, _, h3⟩ := h
  rw [h1.length_eq, h3.length_eq]
  rfl
theorem Nrm.perm {xs ys : List P2} (h : Nrm xs) (p : xs.Perm ys) : Nrm ys := fun a b r e => h a b r (p.trans e)
/-! ### ascending and apart -/
def Asc (xs : List P2) : Prop := xs.Pairwise Apt
end PM

set_option Elab.async false
set_option linter.all false
set_option maxRecDepth 100000
set_option maxHeartbeats 1000000
namespace PM
section
variable {m v m' v' u : Int}
end
/-! bounds -/
def Sm (xs : List P2) : Int := (xs.map fun p => (p.1.natAbs : Int)).sum
def Sv (xs : List P2) : Int := (xs.map fun p => p.2).sum
/-- all pools of a list together are small enough -/
structure Bnd (xs : List P2) : Prop where
  pos : Psv xs
  sm : Sm xs ≤ 2 ^ 110
  sv : Sv xs ≤ 2 ^ 70
theorem sm_cons {p : P2} {xs : List P2} : Sm (p :: xs) = (p.1.natAbs : Int) + Sm xs := by simp [Sm]
theorem sv_cons {p : P2} {xs : List P2} : Sv (p :: xs) = p.2 + Sv xs := by simp [Sv]
theorem sm_perm {xs ys : List P2} (h : xs.Perm ys) : Sm xs = Sm ys := by
  induction h with
  | nil => rfl
  | cons x _ ih => rw [sm_cons, sm_cons, ih]
  | swap x y l => rw [sm_cons, sm_cons, sm_cons, sm_cons]; omega
  | trans _ _ h1 h2 => exact h1.trans h2
theorem sv_perm {xs ys : List P2} (h : xs.Perm ys) : Sv xs = Sv ys := by
  induction h with
  | nil => rfl
  | cons x _ ih => rw [sv_cons, sv_cons, ih]
  | swap x y l => rw [sv_cons, sv_cons, sv_cons, sv_cons]; omega
  | trans _ _ h1 h2 => exact h1.trans h2
theorem sm_nn : ∀ xs : List P2, 0 ≤ Sm xs
  | [] => by simp [Sm]
  | p :: xs => by rw [sm_cons]; have := sm_nn xs; omega
theorem sv_nn : ∀ {xs : List P2}, Psv xs → 0 ≤ Sv xs
  | [], _ => by simp [Sv]
  | p :: xs, h => by
    rw [sv_cons]
    have h1 := sv_nn (xs := xs) fun q hq => h q (by simp [hq])
    have h2 := h p (by simp)
    omega
theorem Bnd.perm {xs ys : List P2} (h : Bnd xs) (p : xs.Perm ys) : Bnd ys := ⟨h.pos.perm p, by rw [← sm_perm p]; exact h.sm, by rw [← sv_perm p]; exact h.sv⟩
theorem Bnd.tail {p : P2} {xs : List P2} (h : Bnd (p :: xs)) : Bnd xs := by
  obtain ⟨h1, h2, h3⟩ := h
  rw [sm_cons] at h2
  rw [sv_cons] at h3
  have := h1 p (by simp)
  exact ⟨fun q hq => h1 q (by simp [hq]), by omega, by omega⟩
theorem Bnd.head {p : P2} {xs : List P2} (h : Bnd (p :: xs)) : -(2 ^ 110) ≤ p.1 ∧ p.1 ≤ 2 ^ 110 ∧ 0 < p.2 ∧ p.2 ≤ 2 ^ 70 := by
  obtain ⟨h1, h2, h3⟩ := h
  rw [sm_cons] at h2
  rw [sv_cons] at h3
  have a := h1 p (by simp)
  have b := sm_nn xs
  have c := sv_nn (xs := xs) fun q hq => h1 q (by simp [hq])
  exact ⟨by omega, by omega, a, by omega⟩
theorem Bnd.mem {p : P2} {xs : List P2} (h : Bnd xs) (hp : p ∈ xs) : -(2 ^ 110) ≤ p.1 ∧ p.1 ≤ 2 ^ 110 ∧ 0 < p.2 ∧ p.2 ≤ 2 ^ 70 := (h.perm (List.perm_cons_erase hp)).head
theorem Bnd.mrg {a b : P2} {xs : List P2} (h : Bnd (a :: b :: xs)) : Bnd (PM.mrg a b :: xs) := by
  obtain ⟨h1, h2, h3⟩ := h
  rw [sm_cons, sm_cons] at h2
  rw [sv_cons, sv_cons] at h3
  have pa := h1 a (by simp)
  have pb := h1 b (by simp)
  refine ⟨fun q hq => ?_, ?_, ?_⟩
  · rcases List.mem_cons.mp hq with rfl | hq
    · show 0 < a.2 + b.2
      omega
    · exact h1 q (by simp [hq])
  · rw [sm_cons]
    show ((a.1 + b.1).natAbs : Int) + _ ≤ _
    omega
  · rw [sv_cons]
    show a.2 + b.2 + _ ≤ _
    omega
theorem Bnd.runs {xs ys : List P2} (h : Bnd xs) (r : Runs xs ys) : Bnd ys := by
  induction r with
  | refl p => exact h.perm p
  | step s _ ih =>
    obtain ⟨a, b, r, h1, _, h3⟩ := s
    exact ih ((h.perm h1).mrg.perm h3.symm)
end PM

set_option Elab.async false
set_option linter.all false
set_option maxRecDepth 100000
set_option maxHeartbeats 4000000
namespace PM
open PySem L2
/-! ### loops over lists that may lie in the store -/
/-- a list, a tree or in the store -/
abbrev Lqd (μ : List M) (d : D) (ds : List D) : Prop := d = .lst ds ∨ ∃ n : Nat, d = .loc n ∧ μ[n]? = some (.lst ds)
theorem Lqd.at_ {μ : List M} {d : D} {ds : List D} {K : PySem.W.Frag} {L : List Addr} {G H : Hp} {v : V} (c : Lqd μ d ds) (ok : Ok K L G H μ) (r : Rep K L G d v) : ∃ p vs, v = .ref p ∧ SqL K H p vs ∧ Reps K L G ds vs := by
  rcases c with rfl | ⟨n, rfl, hn⟩
  · obtain ⟨p, vs, e, q, rr⟩ := rep_lst.mp r
    exact ⟨p, vs, e, SqL.of (ok.sub _ _ q), rr⟩
  · obtain ⟨p, ea, e⟩ := rep_loc.mp r
    obtain ⟨vs, eh, rr⟩ := ok.at_ n p _ ea hn
    exact ⟨p, vs, e, SqL.of eh, rr⟩
section
variable {K : PySem.W.Frag} {L2 : List Addr} {G2 H2 : Hp} {μ2 : List M} {d x : D} {all : List D} {p : Addr} {i : Nat}
end
section
variable {X : Cx} {W : WX} {ρ : Env'} {μ : List M} {tg e : Expr} {pos : Pos} {nx : KN} {κ : Ks}
end
section
variable {X : Cx} {W : WX} {k : Nat} {N : List Str} {V V' : List Kd} {Gs Gs' : List Str} {ρ ρ' : Env'} {μ μ1 μ2 : List M} {e elt tg iter c : Expr} {es ifs : List Expr} {Q : KV} {Z : KX} {d : D} {ds : List D} {pos : Pos} {x : Str} {scope : Scope} {own : List (Str × Nat)} {vs : List Nat} {nx : Env' → Prop}
end
end PM

set_option Elab.async false
set_option linter.all false
set_option maxRecDepth 100000
set_option maxHeartbeats 4000000
namespace PM
open PySem L2
/-! ### slices -/
theorem cut_from (xs : List V) (i : Nat) : cutV xs (some (i : Int)) none = xs.drop i := by
  unfold cutV
  rw [HT.sIx_nat, HT.sIx_none]
  by_cases h : i ≤ xs.length
  · rw [Nat.min_eq_left h]
    exact List.take_of_length_le (by simp)
  · rw [Nat.min_eq_right (by omega), List.drop_eq_nil_of_le (Nat.le_refl _), List.drop_eq_nil_of_le (by omega)]
    exact List.take_nil
theorem cut_upto (xs : List V) (i : Nat) : cutV xs none (some (i : Int)) = xs.take i := by
  unfold cutV
  rw [HT.sIx_nat, HT.sIx_none, List.drop_zero, Nat.sub_zero]
  by_cases h : i ≤ xs.length
  · rw [Nat.min_eq_left h]
  · rw [Nat.min_eq_right (by omega), List.take_length, List.take_of_length_le (by omega)]
theorem reps_drop {K : PySem.W.Frag} {L : List Addr} {G : Hp} : ∀ {ds : List D} {vs : List V} (n : Nat), Reps K L G ds vs → Reps K L G (ds.drop n) (vs.drop n)
  | _, _, 0, r => by simpa using r
  | [], vs, n + 1, r => by rw [r.inv_nil]; simpa using Reps.nil
  | d :: ds, vs, n + 1, r => by
    obtain ⟨u, rest, rfl, ra, rb⟩ := r.inv_cons
    simpa using reps_drop n rb
theorem reps_take {K : PySem.W.Frag} {L : List Addr} {G : Hp} : ∀ {ds : List D} {vs : List V} (n : Nat), Reps K L G ds vs → Reps K L G (ds.take n) (vs.take n)
  | _, _, 0, r => by simpa using Reps.nil
  | [], vs, n + 1, r => by rw [r.inv_nil]; simpa using Reps.nil
  | d :: ds, vs, n + 1, r => by
    obtain ⟨u, rest, rfl, ra, rb⟩ := r.inv_cons
    simpa using Reps.cons ra (reps_take n rb)
section
variable {X : Cx} {W : WX} {ρ : Env'} {μ : List M} {e a : Expr} {pos p2 : Pos} {Q : KV} {Z : KX}
/-- l[i:] -/
theorem wE_from (h : wE X W ρ μ e (fun d μ1 => wE X W ρ μ1 a (fun da μ2 => ∃ (i : Nat) (ds : List D), da = .int (i : Nat) ∧ Lqd μ2 d ds ∧ Q (.lst (ds.drop i)) μ2) Z) Z) : wE X W ρ μ (.Subscript e (.Slice (some a) none none p2) pos) Q Z :=
  ⟨pe_of (pe_slice sl_list h.run (po_some aE_ok) po_none) fun σ H R ⟨L, G, n, v, x⟩ => ⟨L, G, n, fun d μ1 h2 u L1 G1 H1 s1 o1 r1 => ⟨_, h2.run, L1, G1, n.step s1 o1, fun da μ2 ⟨i, ds, ea, lq, q⟩ w L2 G2 H2 s2 o2 r2 => by
    subst ea
    obtain ⟨p, vs, eu, hq, rr⟩ := lq.at_ o2 (r1.step s2)
    refine ⟨i, rep_int.mp r2, p, vs, eu, hq, fun l hl => ?_⟩
    rw [cut_from]
    obtain ⟨o3, s3⟩ := o2.new (o := .lst (vs.drop i)) hl
    exact v _ _ q _ L2 _ _ ((s1.trans s2).trans s3) o3 (rep_lst.mpr ⟨l, _, rfl, upd_same, (reps_drop i rr).step s3⟩), x.step s1⟩, x⟩⟩
/-- l[:i] -/
theorem wE_upto (h : wE X W ρ μ e (fun d μ1 => wE X W ρ μ1 a (fun da μ2 => ∃ (i : Nat) (ds : List D), da = .int (i : Nat) ∧ Lqd μ2 d ds ∧ Q (.lst (ds.take i)) μ2) Z) Z) : wE X W ρ μ (.Subscript e (.Slice none (some a) none p2) pos) Q Z :=
  ⟨pe_of (pe_slice sl_list h.run po_none (po_some aE_ok)) fun σ H R ⟨L, G, n, v, x⟩ => ⟨L, G, n, fun d μ1 h2 u L1 G1 H1 s1 o1 r1 => ⟨_, h2.run, L1, G1, n.step s1 o1, fun da μ2 ⟨i, ds, ea, lq, q⟩ w L2 G2 H2 s2 o2 r2 => by
    subst ea
    obtain ⟨p, vs, eu, hq, rr⟩ := lq.at_ o2 (r1.step s2)
    refine ⟨i, rep_int.mp r2, p, vs, eu, hq, fun l hl => ?_⟩
    rw [cut_upto]
    obtain ⟨o3, s3⟩ := o2.new (o := .lst (vs.take i)) hl
    exact v _ _ q _ L2 _ _ ((s1.trans s2).trans s3) o3 (rep_lst.mpr ⟨l, _, rfl, upd_same, (reps_take i rr).step s3⟩), x.step s1⟩, x⟩⟩
end
end PM

set_option Elab.async false
set_option linter.all false
set_option maxRecDepth 100000
set_option maxHeartbeats 1000000
namespace PM
/-! neighbours from the left -/
theorem Apt.trans {f l x : P2} (hf : 0 < f.2) (hl : 0 < l.2) (hx : 0 < x.2) (h1 : Apt f l) (h2 : Apt l x) : Apt f x := by
  obtain ⟨m1, v1⟩ := f
  obtain ⟨m2, v2⟩ := l
  obtain ⟨m3, v3⟩ := x
  simp only [Apt, crs, wid] at *
  have a1 := Int.mul_le_mul_of_nonneg_left (Int.le_of_lt h1) (show 0 ≤ v3 by omega)
  have a2 := Int.mul_lt_mul_of_pos_left h2 hf
  have p1 : 0 < v1 * v2 * v3 * v2 := Int.mul_pos (Int.mul_pos (Int.mul_pos hf hl) hx) hl
  have key : v2 * (v1 * v3 * (v1 + v3)) < v2 * (2 * (m3 * v1 - m1 * v3)) := by grind
  exact Int.lt_of_mul_lt_mul_left key (by omega)
theorem Stp.cons {p : P2} {xs ys : List P2} (h : Stp xs ys) : Stp (p :: xs) (p :: ys) := by
  obtain ⟨a, b, r, h1, h2, h3⟩ := h
  refine ⟨a, b, p :: r, (h1.cons p).trans ((List.Perm.swap a p (b :: r)).trans ((List.Perm.swap b p r).cons a)), h2, (h3.cons p).trans (List.Perm.swap _ _ _)⟩
theorem Runs.cons {p : P2} {xs ys : List P2} (h : Runs xs ys) : Runs (p :: xs) (p :: ys) := by
  induction h with
  | refl q => exact .refl (q.cons p)
  | step s _ ih => exact .step s.cons ih
theorem Bnd.app : ∀ {xs ys : List P2}, Bnd (xs ++ ys) → Bnd ys
  | [], _, h => h
  | _ :: xs, _, h => Bnd.app (xs := xs) h.tail
theorem Bnd.left {xs ys : List P2} (h : Bnd (xs ++ ys)) : Bnd xs := (h.perm List.perm_append_comm).app
end PM

set_option Elab.async false
set_option linter.all false
set_option maxRecDepth 100000
set_option maxHeartbeats 4000000
namespace PM
open PySem L2
section
variable {X : Cx} {W : WX} {ρ : Env'} {μ : List M} {o e : Expr} {apos pos : Pos} {Q : KV} {Z : KX}
end
section
variable {X : Cx} {W : WX} {ρ : Env'} {μ : List M} {tg e : Expr} {pos : Pos} {nx : KN} {κ : Ks}
end
end PM

set_option Elab.async false
set_option linter.all false
set_option maxRecDepth 100000
set_option maxHeartbeats 1000000
namespace PM
/-! pools just apart, two of them at one end at one spot -/
section
variable {w V : Int}
def stp (w V : Int) (k : Nat) : P2 := (w * (k : Int) * (V + 1) * V, V)
def acc (w V : Int) : Nat → P2
  | 0 => (0, V)
  | k + 1 => mrg (acc w V k) (stp w V k)
end
end PM

set_option Elab.async false
set_option linter.all false
set_option maxRecDepth 100000
set_option maxHeartbeats 4000000
namespace PM
open PySem L2
section
variable {X : Cx} {W : WX} {ρ : Env'} {μ : List M} {e : Expr} {pos p1 p2 p3 : Pos} {k : Nat} {Q : KV} {Z : KX}
end
end PM

set_option Elab.async false
set_option linter.all false
set_option maxRecDepth 100000
/-! Comprehensions and loops over lists that stay as they are: what each item comes to. -/
namespace PM
open PySem L2
inductive All2 {α β : Type} (R : α → β → Prop) : List α → List β → Prop
  | nil : All2 R [] []
  | cons {x : α} {y : β} {xs : List α} {ys : List β} : R x y → All2 R xs ys → All2 R (x :: xs) (y :: ys)
section
variable {α β : Type} {R : α → β → Prop}
theorem All2.snoc {xs : List α} {ys : List β} {x : α} {y : β} (h : All2 R xs ys) (r : R x y) : All2 R (xs ++ [x]) (ys ++ [y]) := by
  induction h with
  | nil => exact .cons r .nil
  | cons a _ ih => exact .cons a ih
theorem All2.len {xs : List α} {ys : List β} (h : All2 R xs ys) : ys.length = xs.length := by
  induction h with
  | nil => rfl
  | cons _ _ ih => simp [ih]
theorem All2.fn {f : α → β} {xs : List α} {ys : List β} (h : All2 (fun x y => y = f x) xs ys) : ys = xs.map f := by
  induction h with
  | nil => rfl
  | cons e _ ih => rw [e, ih]; rfl
theorem All2.mem {xs : List α} {ys : List β} {y : β} (h : All2 R xs ys) (hy : y ∈ ys) : ∃ x ∈ xs, R x y := by
  induction h with
  | nil => cases hy
  | cons a _ ih =>
    rcases List.mem_cons.mp hy with rfl | hy
    · exact ⟨_, by simp, a⟩
    · obtain ⟨x, hx, r⟩ := ih hy
      exact ⟨x, by simp [hx], r⟩
end
section
variable {X : Cx} {W : WX} {ρ : Env'} {μ : List M} {tg e : Expr} {body : List Stmt} {nx nx' : KN} {κ : Ks} {d : D}
theorem wG.imp (h : wG X W ρ μ tg d nx) (hn : ∀ ρ μ, nx ρ μ → nx' ρ μ) : wG X W ρ μ tg d nx' := ⟨pg_of h.run fun v σ H R ⟨L, G, n, r, a⟩ => ⟨L, G, n, r, fun ρ' μ' q => a ρ' μ' (hn _ _ q)⟩⟩
theorem wI.imp {QA QA' : KA} {Z : KX} (h : wI X W ρ μ tg e QA Z) (hq : ∀ ds μ, QA ds μ → QA' ds μ) : wI X W ρ μ tg e QA' Z := ⟨pi_of h.run fun σ H J ⟨L, G, n, v, x⟩ => ⟨L, G, n, fun ds μ' q => v ds μ' (hq _ _ q), x⟩⟩
end
section
variable {X : Cx} {W : WX} {k : Nat} {N : List Str} {V V' : List Kd} {Gs Gs' : List Str} {ρ ρ' : Env'} {μ μ1 μ2 : List M} {e elt tg iter c : Expr} {es ifs : List Expr} {Q : KV} {Z : KX} {d : D} {ds : List D} {pos : Pos} {x : Str} {scope : Scope} {own : List (Str × Nat)} {vs : List Nat}
theorem big_sl {n : Nat} (h : n ≤ 1000000) : n ≤ sizeLine := Nat.le_trans h (by rw [sizeLine_eq]; decide)
/-- [elt for tg in xs if c], nothing in the store changes -/
theorem wE_lcF (V' : List Kd) (Gs' : List Str) (own : List (Str × Nat)) (g : Fx X W k N V Gs) {sc : Scope} (hsc : X.env.scope = sc) (ck : ckB N V' Gs' (relabS sc scope) = true) (ok : BlkOk X.N X.env.scope scope own) {α β : Type} (xs : List α) (rd : α → D) (c : α → Bool) (out : β → D) (R : α → β → Prop)
    (hi : wI X W ρ μ tg iter (fun ds μ1 => ds = xs.map rd ∧ μ1 = μ) Z) (hl : xs.length ≤ 1000000)
    (ht : ∀ x ∈ xs, ∀ (K1 : KV) (K2 : List M → Prop), (c x = true → ∀ b, R x b → K1 (out b) μ) → (c x = false → K2 μ) → wTurn X k N V' Gs' scope (own.map (·.2)) tg elt ifs ρ (rd x) μ K1 K2)
    (h : ∀ ys, All2 R (xs.filter c) ys → Q (.lst (ys.map out)) μ) (hs : ∀ x, foldedSetIterable iter X.env x = pure x := by intro _; rfl) : wE X W ρ μ (.ListComp elt [⟨tg, iter, ifs, 0⟩] scope pos) Q Z := by
  refine wE_lc V' Gs' own (fun ds done μ' => ∃ zs ws bs, xs = zs ++ ws ∧ ds = ws.map rd ∧ All2 R (zs.filter c) bs ∧ done = bs.map out ∧ μ' = μ) g hsc ck ok ?_ ?_ ?_ hs
  · refine wI.imp hi fun ds μ1 ⟨e1, e2⟩ => ?_
    subst e1 e2
    exact ⟨by rw [List.length_map]; exact big_sl hl, [], xs, [], rfl, rfl, .nil, rfl, rfl⟩
  · rintro d ds done μ' ⟨zs, ws, bs, e1, e2, e3, rfl, rfl⟩
    cases ws with
    | nil => cases e2
    | cons y ws =>
      obtain ⟨rfl, rfl⟩ := List.cons.inj e2
      refine ht y (by rw [e1]; simp) _ _ (fun hc b hb => ?_) (fun hc => ?_)
      · exact ⟨zs ++ [y], ws, bs ++ [b], by simp [e1], rfl, by rw [List.filter_append, List.filter_cons_of_pos hc]; exact e3.snoc hb, by simp, rfl⟩
      · exact ⟨zs ++ [y], ws, bs, by simp [e1], rfl, by rw [List.filter_append, List.filter_cons_of_neg (by simp [hc])]; simpa using e3, rfl, rfl⟩
  · rintro done μ' ⟨zs, ws, bs, e1, e2, e3, rfl, rfl⟩
    cases ws with
    | cons y ws => cases e2
    | nil =>
      rw [List.append_nil] at e1
      subst e1
      exact h _ e3
/-- [elt for tg in xs]: each item comes to one of its own -/
theorem wE_lcR (V' : List Kd) (Gs' : List Str) (own : List (Str × Nat)) (g : Fx X W k N V Gs) {sc : Scope} (hsc : X.env.scope = sc) (ck : ckB N V' Gs' (relabS sc scope) = true) (ok : BlkOk X.N X.env.scope scope own) {α β : Type} (xs : List α) (rd : α → D) (out : β → D) (R : α → β → Prop)
    (hi : wI X W ρ μ tg iter (fun ds μ1 => ds = xs.map rd ∧ μ1 = μ) Z) (hl : xs.length ≤ 1000000)
    (ht : ∀ x ∈ xs, ∀ (K1 : KV) (K2 : List M → Prop), (∀ b, R x b → K1 (out b) μ) → wTurn X k N V' Gs' scope (own.map (·.2)) tg elt ifs ρ (rd x) μ K1 K2)
    (h : ∀ ys, All2 R xs ys → Q (.lst (ys.map out)) μ) (hs : ∀ x, foldedSetIterable iter X.env x = pure x := by intro _; rfl) : wE X W ρ μ (.ListComp elt [⟨tg, iter, ifs, 0⟩] scope pos) Q Z :=
  wE_lcF V' Gs' own g hsc ck ok xs rd (fun _ => true) out R hi hl (fun x hx K1 K2 h1 _ => ht x hx K1 K2 (h1 rfl)) (fun ys hy => h ys (by rwa [List.filter_eq_self.mpr (fun _ _ => rfl)] at hy)) hs
/-- [elt for tg in xs]: by a function -/
theorem wE_lcM (V' : List Kd) (Gs' : List Str) (own : List (Str × Nat)) (g : Fx X W k N V Gs) {sc : Scope} (hsc : X.env.scope = sc) (ck : ckB N V' Gs' (relabS sc scope) = true) (ok : BlkOk X.N X.env.scope scope own) {α : Type} (xs : List α) (rd out : α → D)
    (hi : wI X W ρ μ tg iter (fun ds μ1 => ds = xs.map rd ∧ μ1 = μ) Z) (hl : xs.length ≤ 1000000)
    (ht : ∀ x ∈ xs, ∀ (K1 : KV) (K2 : List M → Prop), K1 (out x) μ → wTurn X k N V' Gs' scope (own.map (·.2)) tg elt ifs ρ (rd x) μ K1 K2)
    (h : Q (.lst (xs.map out)) μ) (hs : ∀ x, foldedSetIterable iter X.env x = pure x := by intro _; rfl) : wE X W ρ μ (.ListComp elt [⟨tg, iter, ifs, 0⟩] scope pos) Q Z :=
  wE_lcR V' Gs' own g hsc ck ok xs rd out (fun x b => b = x) hi hl (fun x hx K1 K2 h1 => ht x hx K1 K2 (h1 x rfl)) (fun ys hy => by rw [hy.fn, List.map_id']; exact h) hs
/-- y = [elt for tg in xs if c] -/
theorem wS_setLcF (V' : List Kd) (Gs' : List Str) (own : List (Str × Nat)) (g : Fx X W k N V Gs) {sc : Scope} (hsc : X.env.scope = sc) (ck : ckB N V' Gs' (relabS sc scope) = true) (ok : BlkOk X.N X.env.scope scope own) {nx : KN} {κ : Ks} {y : Str} {i : Nat} {py spos : Pos} (hy : Il N V y i) {α β : Type} (xs : List α) (rd : α → D) (c : α → Bool) (out : β → D) (R : α → β → Prop)
    (hi : wI X W ρ μ tg iter (fun ds μ1 => ds = xs.map rd ∧ μ1 = μ) (κ.z ρ)) (hl : xs.length ≤ 1000000)
    (ht : ∀ x ∈ xs, ∀ (K1 : KV) (K2 : List M → Prop), (c x = true → ∀ b, R x b → K1 (out b) μ) → (c x = false → K2 μ) → wTurn X k N V' Gs' scope (own.map (·.2)) tg elt ifs ρ (rd x) μ K1 K2)
    (h : ∀ ys, All2 R (xs.filter c) ys → wPt N V y (.lst (ys.map out)) ρ (fun ρ' => nx ρ' μ))
    (hkd : X.env.scope.kind = .function := by rfl) (hln : (py.line == pos.line) = true := by rfl) (hnm : (scope.names.any fun (n, k) => n == y && (k == .local || k == .cell)) = false := by decide +kernel)
    (hs : ∀ x, foldedSetIterable iter X.env x = pure x := by intro _; rfl) : wS X W ρ μ (.Assign [.Name y py] (.ListComp elt [⟨tg, iter, ifs, 0⟩] scope pos) spos) nx κ := by
  refine wS_setLc V' Gs' own (fun ds done μ' => ∃ zs ws bs, xs = zs ++ ws ∧ ds = ws.map rd ∧ All2 R (zs.filter c) bs ∧ done = bs.map out ∧ μ' = μ) g hy hsc ck ok ?_ ?_ ?_ hkd hln hnm hs
  · refine wI.imp hi fun ds μ1 ⟨e1, e2⟩ => ?_
    subst e1 e2
    exact ⟨by rw [List.length_map]; exact big_sl hl, [], xs, [], rfl, rfl, .nil, rfl, rfl⟩
  · rintro d ds done μ' ⟨zs, ws, bs, e1, e2, e3, rfl, rfl⟩
    cases ws with
    | nil => cases e2
    | cons y ws =>
      obtain ⟨rfl, rfl⟩ := List.cons.inj e2
      refine ht y (by rw [e1]; simp) _ _ (fun hc b hb => ?_) (fun hc => ?_)
      · exact ⟨zs ++ [y], ws, bs ++ [b], by simp [e1], rfl, by rw [List.filter_append, List.filter_cons_of_pos hc]; exact e3.snoc hb, by simp, rfl⟩
      · exact ⟨zs ++ [y], ws, bs, by simp [e1], rfl, by rw [List.filter_append, List.filter_cons_of_neg (by simp [hc])]; simpa using e3, rfl, rfl⟩
  · rintro done μ' ⟨zs, ws, bs, e1, e2, e3, rfl, rfl⟩
    cases ws with
    | cons y ws => cases e2
    | nil =>
      rw [List.append_nil] at e1
      subst e1
      exact h _ e3
theorem wS_setLcR (V' : List Kd) (Gs' : List Str) (own : List (Str × Nat)) (g : Fx X W k N V Gs) {sc : Scope} (hsc : X.env.scope = sc) (ck : ckB N V' Gs' (relabS sc scope) = true) (ok : BlkOk X.N X.env.scope scope own) {nx : KN} {κ : Ks} {y : Str} {i : Nat} {py spos : Pos} (hy : Il N V y i) {α β : Type} (xs : List α) (rd : α → D) (out : β → D) (R : α → β → Prop)
    (hi : wI X W ρ μ tg iter (fun ds μ1 => ds = xs.map rd ∧ μ1 = μ) (κ.z ρ)) (hl : xs.length ≤ 1000000)
    (ht : ∀ x ∈ xs, ∀ (K1 : KV) (K2 : List M → Prop), (∀ b, R x b → K1 (out b) μ) → wTurn X k N V' Gs' scope (own.map (·.2)) tg elt ifs ρ (rd x) μ K1 K2)
    (h : ∀ ys, All2 R xs ys → wPt N V y (.lst (ys.map out)) ρ (fun ρ' => nx ρ' μ))
    (hkd : X.env.scope.kind = .function := by rfl) (hln : (py.line == pos.line) = true := by rfl) (hnm : (scope.names.any fun (n, k) => n == y && (k == .local || k == .cell)) = false := by decide +kernel)
    (hs : ∀ x, foldedSetIterable iter X.env x = pure x := by intro _; rfl) : wS X W ρ μ (.Assign [.Name y py] (.ListComp elt [⟨tg, iter, ifs, 0⟩] scope pos) spos) nx κ :=
  wS_setLcF V' Gs' own g hsc ck ok hy xs rd (fun _ => true) out R hi hl (fun x hx K1 K2 h1 _ => ht x hx K1 K2 (h1 rfl)) (fun ys hy => h ys (by rwa [List.filter_eq_self.mpr (fun _ _ => rfl)] at hy)) hkd hln hnm hs
end
end PM

set_option Elab.async false
set_option linter.all false
set_option maxRecDepth 100000
set_option maxHeartbeats 4000000
namespace PM
open PySem L2
/-! ### sum(list of own instances, start=own instance) -/
/-- within a built-in -/
def inC (X : Cx) : Cx := { X with A := X.A.in1, xe := fun _ _ => False }
section
variable {X : Cx} {W : WX} {k : Nat} {pins : List (Addr × Obj)} {σ : L2.St} {H : Hp} {s : Shared}
theorem inC_ok (h : X.Ok) : (inC X).Ok := { h with hd := fun c => h.hd c, frames := h.frames }
theorem inC_inv (I : L2.Inv X pins σ H s) : L2.Inv (inC X) pins σ H s := { I with ok := inC_ok I.ok }
theorem inC_back (ok : X.Ok) (I : L2.Inv (inC X) pins σ H s) : L2.Inv X pins σ H s := { I with ok := ok }
theorem Gd.inC (g : Gd X W (k + 1)) : Gd (PM.inC X) W0 k := ⟨g.calm, g.nd, fun u s' ⟨_, _, _, _, _, _, _, _, _, _, _, _, _, _, _, _, w⟩ => w, PassesOwn.never, g.hr.in1, g.gr.mono (Nat.le_succ _)⟩
end
/-- the sums, one by one -/
inductive Sums (X : Cx) (μ : List M) (C : Addr) : D → List D → D → Prop
  | nil {ns : List Str} {fs : List D} : Sums X μ C (.obj C ns fs) [] (.obj C ns fs)
  | cons {ns : List Str} {fs : List D} {d t r : D} {ds : List D} : OpO (inC X) W0 (binaryOp .Add) (.obj C ns fs) d μ (.ret t μ) → Sums X μ C t ds r → Sums X μ C (.obj C ns fs) (d :: ds) r
section
variable {X : Cx} {W : WX} {k : Nat} {C : Addr} {μ : List M}
end
section
variable {X : Cx} {W : WX} {k : Nat} {N : List Str} {V : List Kd} {Gs : List Str} {ρ : Env'} {μ : List M} {e e2 : Expr} {Q : KV} {Z : KX} {p pos kp : Pos} {C : Addr}
end
end PM

set_option Elab.async false
set_option linter.all false
set_option maxRecDepth 100000
set_option maxHeartbeats 4000000
namespace PM
open PySem L2
/-! ### o(..), o an own instance with __call__ -/
section
variable {X : Cx} {W : WX} {k : Nat} {N : List Str} {V : List Kd} {Gs : List Str} {ρ : Env'} {μ : List M} {e : Expr} {es : List Expr} {Q : KV} {Z : KX} {p pos : Pos} {C : Addr} {x : Str}
end
/-! ### C.NAME, a whole number of the class -/
section
variable {X : Cx} {W : WX} {ρ : Env'} {μ : List M} {e : Expr} {Q : KV} {Z : KX} {pos : Pos} {f : Str}
end
end PM

set_option Elab.async false
set_option linter.all false
set_option maxRecDepth 100000
set_option maxHeartbeats 4000000
namespace PM
open PySem L2
section
variable {X : Cx} {W : WX} {ρ : Env'} {μ : List M} {o e e2 : Expr} {Q : KV} {Z : KX} {apos pos : Pos}
end
/-! l[:-1] -/
section
variable {X : Cx} {W : WX} {ρ : Env'} {μ : List M} {e a : Expr} {pos p2 : Pos} {Q : KV} {Z : KX}
end
/-! greater numbers -/
set_option exponentiation.threshold 20000
theorem log_500 {i : Int} (h : -(2 ^ 500) < i ∧ i < 2 ^ 500) : i.natAbs.log2 ≤ 500 := by
  by_cases z : i.natAbs = 0
  · rw [z]; decide
  · have : i.natAbs < 2 ^ 500 := by omega
    exact Nat.le_of_lt ((Nat.log2_lt z).mpr this)
section
variable {X : Cx} {W : WX} {μ : List M} {i j : Int} {Q : KV} {Z : KX}
theorem wB_mulB (c : (-(2 ^ 500) < i ∧ i < 2 ^ 500) ∧ (-(2 ^ 500) < j ∧ j < 2 ^ 500)) (h : Q (.int (i * j)) μ) : wB X W (binaryOp .Mult) (.int i) (.int j) μ Q Z :=
  wB_mul (by have h1 := log_500 c.1; have h2 := log_500 c.2; unfold CMulW; omega) h
theorem wB_fdivB (c : 0 < j ∧ j < 2 ^ 500) (h : Q (.int (i / j)) μ) : wB X W (binaryOp .FloorDiv) (.int i) (.int j) μ Q Z :=
  wB_fdiv ⟨c.1, by have := log_500 (i := j) ⟨by omega, c.2⟩; omega⟩ h
end
end PM

set_option Elab.async false
set_option linter.all false
set_option maxRecDepth 100000
set_option exponentiation.threshold 20000
namespace PM
open PySem L2 PyProof.Rows
/-! ### powers of greater numbers, sums of ints -/
def CPowB (i j : Int) : Prop := (0 ≤ j ∧ j ≤ 8) ∧ i.natAbs < 2 ^ 500
section
variable {X : Cx} {W : WX} {k : Nat} {μ : List M} {i : Int} {Q : KV} {Z : KX}
theorem op_powB : OpR X (binaryOp .Pow) (rI CPowB fun i j => .int (i ^ j.toNat)) := opI fun i j _ _ _ _ _ hc q => by
  have h1 : (Builtin.Int.intBits i : Int) ≤ 500 := Int.ofNat_le.mpr (intBits_le hc.2)
  refine pow_int hc.1.1 ?_ q
  have h2 : (Builtin.Int.intBits i : Int) * j ≤ 500 * 8 := Int.mul_le_mul h1 hc.1.2 hc.1.1 (by omega)
  omega
theorem wB_sq (c : -(2 ^ 500) < i ∧ i < 2 ^ 500) (h : Q (.int (i * i)) μ) : wB X W (binaryOp .Pow) (.int i) (.int 2) μ Q Z :=
  .ofV (oo_intC op_powB (i := i) (j := 2) ⟨by decide, by omega⟩) (by
    rw [show i ^ (2 : Int).toNat = i * i from by rw [show (2 : Int).toNat = 2 from rfl, Int.pow_succ, Int.pow_succ, Int.pow_zero, Int.one_mul]]
    exact h)
theorem wB_cube (c : -(2 ^ 500) < i ∧ i < 2 ^ 500) (h : Q (.int (i * i * i)) μ) : wB X W (binaryOp .Pow) (.int i) (.int 3) μ Q Z :=
  .ofV (oo_intC op_powB (i := i) (j := 3) ⟨by decide, by omega⟩) (by
    rw [show i ^ (3 : Int).toNat = i * i * i from by rw [show (3 : Int).toNat = 3 from rfl, Int.pow_succ, Int.pow_succ, Int.pow_succ, Int.pow_zero, Int.one_mul]]
    exact h)
theorem wF_isTT {ds : List D} (h : Q (.bl true) μ) : wF X W (fun us => call (.builtin "isinstance") us) [.tup ds, .ty "tuple"] μ Q Z := wF_isi .tup (.ty "tuple") rfl h
end
end PM

set_option Elab.async false
set_option linter.all false
set_option maxRecDepth 100000
set_option maxHeartbeats 4000000
namespace PM
open PySem
open L2 hiding Inv
/-! ### zip of two: lists and tuples -/
def SIt (t : Bool) (h : Heap) (it l : Addr) (i : Nat) : Prop := if t then h.IsTupleIter it l i else h.IsListIter it l i
def SHas (t : Bool) (h : Heap) (l : Addr) (items : Array Value) : Prop := if t then h.IsTuple l items else h.IsList l items
def SqB (t : Bool) (K : PySem.W.Frag) (H : Hp) (a : Addr) (xs : List V) : Prop := if t then SqT K H a xs else SqL K H a xs
def srcObj (t : Bool) (l : Addr) : Obj := { cls := .type (if t then "tuple_iterator" else "list_iterator"), data := .fields #[.ref l, .int 0 0] }
theorem SIt.begin (t : Bool) {h : Heap} {it l : Addr} (e : h.get? it = some (srcObj t l)) : SIt t h it l 0 := by
  cases t with
  | true => exact ⟨_, e, rfl, rfl⟩
  | false => exact ⟨_, e, rfl, rfl⟩
theorem SIt.at (t : Bool) {h h' : Heap} {it l : Addr} {i : Nat} (s : SIt t h it l i) (k : ∀ o, h.get? it = some o → h'.get? it = some o) : SIt t h' it l i := by
  cases t with
  | true => exact Heap.IsTupleIter.at s k
  | false => exact Heap.IsListIter.at s k
theorem SIt.obj (t : Bool) {h : Heap} {it l : Addr} {i : Nat} (s : SIt t h it l i) : ∃ o, h.get? it = some o ∧ ∀ v, o.data ≠ .cell v := by
  cases t with
  | true => obtain ⟨o, e, _, d⟩ := s; exact ⟨o, e, fun v q => by rw [d] at q; cases q⟩
  | false => obtain ⟨o, e, _, d⟩ := s; exact ⟨o, e, fun v q => by rw [d] at q; cases q⟩
theorem SqB.has {X : Cx} {pins : List (Addr × Obj)} {σ : L2.St} {H : Hp} {s : Shared} {a : Addr} {xs : List V} (t : Bool) (I : L2.Inv X pins σ H s) (q : SqB t X.K H a xs) : ∃ its : List Value, Vals xs its ∧ SHas t s.heap a its.toArray ∧ a < s.heap.objs.size := by
  cases t with
  | true =>
    obtain ⟨its, rv, p, _⟩ := I.tuple q
    exact ⟨its, rv, p, by obtain ⟨o, ho, _⟩ := p; exact Heap.lt_size ho⟩
  | false =>
    obtain ⟨its, rv, p, _⟩ := I.list q
    exact ⟨its, rv, p.isList, p.lt⟩
theorem SqB.inj {X : Cx} {pins : List (Addr × Obj)} {σ : L2.St} {H : Hp} {s : Shared} {a : Addr} {xs ys : List V} (t : Bool) (I : L2.Inv X pins σ H s) (q : SqB t X.K H a xs) (q' : SqB t X.K H a ys) : xs = ys := by
  cases t with
  | true => exact I.tuple_inj q q'
  | false => exact I.list_inj q q'
/-- the items of two, in new pairs -/
def Itz2 (K : PySem.W.Frag) (ta tb : Bool) (a b : Addr) : It :=
  ⟨fun i H => ∃ (xs ys : List V) (x y : V), SqB ta K H a xs ∧ SqB tb K H b ys ∧ xs[i]? = some x ∧ ys[i]? = some y,
    fun i H v H' => ∃ T x y, v = .ref T ∧ H T = none ∧ H' = upd H T (.tup [x, y]) ∧ (∀ xs, SqB ta K H a xs → xs[i]? = some x) ∧ ∀ ys, SqB tb K H b ys → ys[i]? = some y,
    fun i H => ∃ xs ys : List V, SqB ta K H a xs ∧ SqB tb K H b ys ∧ (i ≤ xs.length ∧ i ≤ ys.length) ∧ (xs.length = i ∨ ys.length = i)⟩
def iZip2 (K : PySem.W.Frag) (t : TA) : TI := fun σ H R => t σ H fun vs H1 => ∃ ta tb a b xs ys, vs = [.ref a, .ref b] ∧ SqB ta K H1 a xs ∧ SqB tb K H1 b ys ∧ R (Itz2 K ta tb a b) H1
/-! as rules -/
theorem SqB.mono (t : Bool) {K : PySem.W.Frag} {G H : Hp} {a : Addr} {xs : List V} (s : Same G H) (q : SqB t K G a xs) : SqB t K H a xs := by
  cases t with
  | true => exact Same.sqT s q
  | false => exact Same.sqL s q
/-- a list or a tuple that nobody changes -/
def Lot (d : D) (ds : List D) : Prop := d = .lst ds ∨ d = .tup ds
theorem Lot.at_ {μ : List M} {K : PySem.W.Frag} {L : List Addr} {G H : Hp} {d : D} {ds : List D} {v : V} (c : Lot d ds) (o : Ok K L G H μ) (r : Rep K L G d v) : ∃ t a vs, v = .ref a ∧ SqB t K G a vs ∧ SqB t K H a vs ∧ Reps K L G ds vs := by
  rcases c with rfl | rfl
  · obtain ⟨a, vs, e, q, rr⟩ := rep_lst.mp r
    exact ⟨false, a, vs, e, SqL.of q, SqL.of (o.sub _ _ q), rr⟩
  · obtain ⟨a, vs, e, q, rr⟩ := rep_tup.mp r
    exact ⟨true, a, vs, e, q, Same.sqT o.sub q, rr⟩
section
variable {X : Cx} {W : WX} {ρ : Env'} {μ : List M} {e e2 : Expr} {elts : List Expr} {kk : Nat} {tpos p pos : Pos} {QA : KA} {Z : KX}
end
end PM

set_option Elab.async false
set_option linter.all false
set_option maxRecDepth 100000
set_option maxHeartbeats 4000000
namespace PM
open PySem PySem.Spec L2 PyProof.Rows
/-! ### defs that may be called while an exception is handled: they neither walk nor raise -/
structure GdC (X : Cx) (W : WX) (k : Nat) : Prop where
  nd : X.N.Nodup
  tk : L2.Takes X W
  hr : L2H.RoomH k X.A
structure FxC (X : Cx) (W : WX) (k : Nat) (N : List Str) (V : List Kd) (Gs : List Str) : Prop extends GdC X W k, Nx' X N V Gs
theorem GdC.suite {X : Cx} {W : WX} {k : Nat} {a : Addr} {pn : List (Addr × Obj)} (g : Gd X W k) : GdC (X.suite a pn) W0 k := ⟨g.nd, fun u s' ⟨_, _, _, _, _, _, _, _, _, _, _, _, _, _, _, _, w⟩ => w, ⟨g.hr.dp, g.hr.un⟩⟩
abbrev cxC (P : Program) (w : World) (K : PySem.W.Frag) (mg : Str → Option Value) (base : Heap) (N : List Str) (qual : Str) (scope : Scope) (f : Addr) (cd : Value) (A : Around) (outer : List Env) (s : Shared) (H : Hp) (E : XK) : Cx :=
  { cxOf (L2.CX P w) P w K mg base N qual scope f cd A outer s H E with calm := false }
structure FnC (P : Program) (w : World) (K : PySem.W.Frag) (mg : Str → Option Value) (base : Heap) (k : Nat) (f : Addr) (fd : FuncData) (ps : List Str) (sp : Sp) : Prop where
  len : ∀ vs H Q E, sp vs H Q E → vs.length = ps.length
  run : ∀ (A : Around) (outer : List Env) (s : Shared) (H : Hp) (args : Args) (us : List Value) (vs : List V) (Q : VK) (E : XK), L2H.RoomH k A → Env0 P w K mg base A outer s H → BindsTo s fd args (ps.zip us) → Vals vs us → sp vs H Q E →
    codeAny (model P w) A (.call (.ref f) args) (CR (L2.CX P w) outer P w H s Q E) s
def SpC (P : Program) (w : World) (K : PySem.W.Frag) (mg : Str → Option Value) (base : Heap) (f : Fnx) (ds : List D) (μ : List M) (Q : KV) (Z : KX) : Prop := FnC P w K mg base f.lv f.a f.fd f.ps (spH K ds μ Q Z)
abbrev SpCX (X : Cx) (f : Fnx) (ds : List D) (μ : List M) (Q : KV) (Z : KX) : Prop := SpC X.prog X.w X.K X.mg X.base f ds μ Q Z
section
variable {P : Program} {w : World} {K : PySem.W.Frag} {mg : Str → Option Value} {base : Heap}
end
section
variable {X : Cx} {W : WX} {k : Nat} {N : List Str} {V : List Kd} {Gs : List Str} {ρ : Env'} {μ : List M} {e : Expr} {es : List Expr} {Q : KV} {Z : KX} {ds : List D} {db : D} {p pos : Pos} {x : Str} {f : Fnx} {C : Addr} {ns : List Str} {fs : List D}
theorem SpC.call (h : SpCX X f ds μ Q Z) (bd : Binds X.K f.fd f.ps []) (g : GdC X W k) (hj : f.lv ≤ k) : wF X W (fun us => call (.ref f.a) us) ds μ Q Z := by
  refine ⟨fun pins s σ H xs us R L G I rx ok r av ax => ?_⟩
  have hsp : spH X.K ds μ Q Z xs H R (WE W σ) := ⟨L, G, ok, r, av, ax⟩
  have hl : us.length = f.ps.length := by rw [← rx.length]; exact h.len _ _ _ _ hsp
  have b := bd s us I.kIn (by rw [List.append_nil]; exact hl)
  rw [List.append_nil] at b
  refine wpAny_call (codeAny_mono (h.run X.A X.stack s H ⟨us, []⟩ us xs R (WE W σ) (g.hr.mono hj) I.env0 b rx hsp) fun r s' hq => ?_)
  cases r with
  | error e => exact passAt g.tk σ pins H s e s' I hq
  | ok fl =>
    cases fl with
    | ret u => exact I.after hq
    | next => exact False.elim hq
    | brk => exact False.elim hq
    | cont => exact False.elim hq
end
end PM

set_option Elab.async false
set_option linter.all false
set_option maxRecDepth 100000
set_option maxHeartbeats 4000000
namespace PM
open PySem L2
/-! ### slices of both ends, tuples whole or not -/
section
variable {X : Cx} {W : WX} {ρ : Env'} {μ : List M} {e a b : Expr} {pos p2 : Pos} {Q : KV} {Z : KX}
end
end PM

set_option Elab.async false
set_option linter.all false
set_option maxRecDepth 100000
set_option maxHeartbeats 4000000
namespace PM
open PySem PySem.SeqAt
open AutoSeq1 (wpAny_loadPart')
open MeetsSeq MeetsSeq2 MeetsSeq3 SeqRoads2
/-! ### == of tuples whose items are compared by own methods -/
section
variable {prog : Program} {w : World} {A : Around} {R : Result → Shared → Prop}
theorem tuple_eqB (l b : Addr) (xs ys : Array Value) (n n2 : Nat) (dd dd2 : Option Addr) (sl sl2 : Array (Option Value)) (e : Nat → Bool) (I : Shared → Prop)
    (turn : ∀ i (h1 : i < xs.size) (h2 : i < ys.size) s, I s → wpAny (model prog w) A.in1 (eqBool xs[i] ys[i]) (fun r s' => r = e i ∧ I s') (fun x s' => R (.error x) s') s)
    (fin : ∀ s, I s → R (.ok (.ret (.bool ((List.range (min xs.size ys.size)).all e && xs.size == ys.size)))) s) {s : Shared} (hl1 : s.heap.get? l = some { cls := .type "tuple", dict := dd, data := .seq xs n, slots := sl }) (hb1 : s.heap.get? b = some { cls := .type "tuple", dict := dd2, data := .seq ys n2, slots := sl2 }) (h : I s) :
    wpAny (model prog w) A.in1 (Builtin.«tuple.__eq__» ⟨[.ref l, .ref b], []⟩) (GQ.FinOf prog w A R) (fun x s' => R (.error x) s') s := by
  have f2 := AutoSeq1.sub_tuple_tuple
  have hZ : (xs.toList.zip ys.toList).length = min xs.size ys.size := by simp
  have h0 := h
  have fin' : ∀ i, (List.range (min xs.size ys.size)).take i |>.all e → ∀ s, I s → R (.ok (.ret (.bool (((List.range (min xs.size ys.size)).drop i).all e && xs.size == ys.size)))) s := fun i hi s hs => by
    have q := fin s hs
    rw [← List.take_append_drop i (List.range (min xs.size ys.size)), List.all_append, hi, Bool.true_and] at q
    exact q
  obtain ⟨hp, g, d, tk, os⟩ := s
  wp_walk using wpAny_loadPart' hl1, wpAny_loadPart' hb1, wpAny_forIn_list _ (fun rest b s' => b.1 = none ∧ ∃ i, rest = (xs.toList.zip ys.toList).drop i ∧ ((List.range (min xs.size ys.size)).take i).all e = true ∧ I s') _
  case turn =>
    rintro ⟨y, x⟩ rest b s' ⟨hb', i, hz, hi, hI⟩
    have hlt : i < (xs.toList.zip ys.toList).length := by
      rcases Nat.lt_or_ge i (xs.toList.zip ys.toList).length with h' | h'
      · exact h'
      · rw [List.drop_of_length_le h'] at hz; cases hz
    have hm : i < min xs.size ys.size := hZ ▸ hlt
    have h1 : i < xs.size := Nat.lt_of_lt_of_le hm (Nat.min_le_left _ _)
    have h2 : i < ys.size := Nat.lt_of_lt_of_le hm (Nat.min_le_right _ _)
    rw [List.drop_eq_getElem_cons hlt] at hz
    injection hz with hyx hrest
    have hy : y = xs[i] := by have := congrArg Prod.fst hyx; simpa using this
    have hx : x = ys[i] := by have := congrArg Prod.snd hyx; simpa using this
    subst hy hx
    have hd : (List.range (min xs.size ys.size)).drop i = i :: (List.range (min xs.size ys.size)).drop (i + 1) := by simp [List.drop_eq_getElem_cons, hm]
    have ht : (List.range (min xs.size ys.size)).take (i + 1) = (List.range (min xs.size ys.size)).take i ++ [i] := by rw [List.take_add_one]; simp [hm]
    refine wpAny_bind (wpAny_mono (turn i h1 h2 s' hI) (fun r s2 q2 => ?_) fun _ _ x => x)
    obtain ⟨hr, q2⟩ := q2
    subst hr
    have f3 := fin' i hi s2 q2
    rw [hd, List.all_cons] at f3
    cases he : e i with
    | true =>
      wp_walk
      exact ⟨rfl, i + 1, hrest, by rw [ht, List.all_append, hi]; simp [he], q2⟩
    | false =>
      rw [he] at f3
      wp_walk
      simpa using f3
  case fin =>
    rintro ⟨b1, b2⟩ s' ⟨hb', i, hz, hi, hI⟩
    simp only at hb'
    subst hb'
    have hge : min xs.size ys.size ≤ i := by
      rcases Nat.lt_or_ge i (xs.toList.zip ys.toList).length with h' | h'
      · rw [List.drop_eq_getElem_cons h'] at hz; cases hz
      · exact hZ ▸ h'
    have f3 := fin' i hi s' hI
    rw [List.drop_of_length_le (by simpa using hge)] at f3
    wp_walk
    simpa [Builtin.Tuple.tupleCompareSizes] using f3
  case h =>
    exact ⟨rfl, 0, rfl, rfl, h0⟩
end
end PM

set_option Elab.async false
set_option linter.all false
set_option maxRecDepth 100000
set_option maxHeartbeats 4000000
namespace PM
open PySem
open L2 hiding Inv
/-- items that are compared: b says whether they are equal -/
structure EqI (X : Cx) (μ : List M) (d e : D) (b : Bool) : Prop where
  rf : ∀ L G v, Rep X.K L G d v → ∃ a, v = .ref a
  rf2 : ∀ L G v, Rep X.K L G e v → ∃ a, v = .ref a
  same : ∀ pins s σ H L G v, L2.Inv X pins σ H s → Ok X.K L G H μ → Rep X.K L G d v → Rep X.K L G e v → b = true
  cmp : OpO X W0 (richCompare .Eq) d e μ (.ret (.bl b) μ)
def LoopB (X : Cx) (μ : List M) (pins : List (Addr × Obj)) (σ : L2.St) (L : List Addr) (G H : Hp) (s' : Shared) : Prop := ∃ L' G' H', L2.Inv X pins σ H' s' ∧ Ok X.K L' G' H' μ ∧ Step L G H L' G' H'
section
variable {X : Cx} {W : WX} {k : Nat} {μ : List M}
theorem EqI.run {d e : D} {b : Bool} (h : EqI X μ d e b) {pins : List (Addr × Obj)} {s : Shared} {σ : L2.St} {H : Hp} {x y : V} {v u : Value} {L : List Addr} {G : Hp} (I : L2.Inv X pins σ H s) (rx : RelV x v) (ry : RelV y u) (ok : Ok X.K L G H μ) (r1 : Rep X.K L G d x) (r2 : Rep X.K L G e y) :
    wpAny (model X.prog X.w) X.A (eqBool v u) (fun r s1 => r = b ∧ LoopB X μ pins σ L G H s1) X.xe s := by
  obtain ⟨a, rfl⟩ := h.rf _ _ _ r1
  obtain ⟨c, rfl⟩ := h.rf2 _ _ _ r2
  cases rx
  cases ry
  by_cases hac : a = c
  · subst hac
    have hb := h.same pins s σ H L G _ I ok r1 r2
    unfold eqBool
    refine wpAny_holding ?_
    refine wpAny_ite_split (fun _ => ?_) (fun z => absurd (beq_self_eq_true _) z)
    exact wpAny_bind (wpAny_rule (wpAny_pure ⟨hb.symm, L, G, H, I, ok, .refl _ _ _⟩))
  · refine GQ.eqBool_refG hac (wpAny_mono (h.cmp pins s σ H (.ref a) (.ref c) (.ref a) (.ref c) (fun v H1 => v = .bl b ∧ ∃ L1 G1, Ok X.K L1 G1 H1 μ ∧ Step L G H L1 G1 H1) L G I rfl rfl ok r1 r2 (fun v L1 G1 H1 s1 o1 r1 => ⟨rep_bl.mp r1, L1, G1, o1, s1⟩)) (fun r s1 hr => ?_) fun _ _ z => z)
    obtain ⟨z, H1, I1, rz, rfl, L1, G1, o1, s1⟩ := hr
    cases rz
    exact ⟨b, rfl, rfl, L1, G1, H1, I1, o1, s1⟩
/-- == of tuples, item by item -/
theorem oc_eqTup (g : Gd X W (k + 1)) {ds es : List D} (f : Nat → Bool) (h : ∀ (i : Nat) (d e : D), ds[i]? = some d → es[i]? = some e → EqI (PM.inC X) μ d e (f i)) :
    OpO X W (richCompare .Eq) (.tup ds) (.tup es) μ (.ret (.bl ((List.range (min ds.length es.length)).all f && ds.length == es.length)) μ) := by
  intro pins s σ H x y v u Q L G I rx ry ok r1 r2 co
  obtain ⟨a, vs, rfl, q1, rr1⟩ := rep_tup.mp r1
  obtain ⟨c, us, rfl, q2, rr2⟩ := rep_tup.mp r2
  cases rx
  cases ry
  obtain ⟨its, rv, p, _⟩ := I.tuple (Same.sqT ok.sub q1)
  obtain ⟨its2, rv2, p2, _⟩ := I.tuple (Same.sqT ok.sub q2)
  obtain ⟨⟨cls, dd, data, sl⟩, ho, hc, n, hd⟩ := id p
  obtain ⟨⟨cls2, dd2, data2, sl2⟩, ho2, hc2, n2, hd2⟩ := id p2
  simp only at hc hd hc2 hd2
  subst hc hd hc2 hd2
  have hu : X.A.units < cLine := by have := g.hr.un; omega
  refine wpAny_richCompare_same_room (op := .Eq) ⟨_, ho, rfl⟩ ⟨_, ho2, rfl⟩ PySem.F.slot_tuple_eq (GQ.call_here PySem.F.slot_tuple_eq ⟨_, ho, rfl⟩ PySem.F.entry_tuple_eq (PySem.F.args_tuple_eq_2 _ _) ?_) hu
  have n1 : its.toArray.size = ds.length := by rw [List.size_toArray, ← rv.length, rr1.length]
  have n2' : its2.toArray.size = es.length := by rw [List.size_toArray, ← rv2.length, rr2.length]
  refine tuple_eqB a c its.toArray its2.toArray n n2 dd dd2 sl sl2 f (fun s' => LoopB X μ pins σ L G H s') (fun i h1 h2 s' hI => ?_) (fun s' hI => ?_) ho ho2 ⟨L, G, H, I, ok, .refl _ _ _⟩
  · obtain ⟨L1, G1, H1, I1, o1, s1⟩ := hI
    have k1 : i < ds.length := by rw [← n1]; exact h1
    have k2 : i < es.length := by rw [← n2']; exact h2
    obtain ⟨x, ex, rx⟩ := (rr1.step s1).get (List.getElem?_eq_getElem k1)
    obtain ⟨y, ey, ry⟩ := (rr2.step s1).get (List.getElem?_eq_getElem k2)
    obtain ⟨v, ev, rv'⟩ := rv.get ex
    obtain ⟨u, eu, ru'⟩ := rv2.get ey
    have g1 : its.toArray[i] = v := by
      have : its[i]? = some its.toArray[i] := by rw [List.getElem?_eq_getElem (by simpa using h1)]; simp
      rw [this] at ev
      exact Option.some.inj ev
    have g2 : its2.toArray[i] = u := by
      have : its2[i]? = some its2.toArray[i] := by rw [List.getElem?_eq_getElem (by simpa using h2)]; simp
      rw [this] at eu
      exact Option.some.inj eu
    rw [g1, g2]
    have hrun := (h i _ _ (List.getElem?_eq_getElem k1) (List.getElem?_eq_getElem k2)).run (pins := pins) (σ := σ) (inC_inv I1) rv' ru' o1 rx ry
    refine wpAny_mono hrun (fun r s2 hr => ?_) (fun _ _ z => False.elim z)
    obtain ⟨hr, L2, G2, H2, I2, o2, s2'⟩ := hr
    exact ⟨hr, L2, G2, H2, inC_back I1.ok I2, o2, s1.trans s2'⟩
  · obtain ⟨L1, G1, H1, I1, o1, s1⟩ := hI
    rw [n1, n2']
    refine ⟨(fun x => nomatch x), ?_⟩
    exact back ⟨.bl _, H1, I1, rfl, co _ L1 G1 H1 s1 o1 (rep_bl.mpr rfl)⟩
/-- tuples among the items -/
theorem EqI.tup (g : Gd X W (k + 1)) {ds es : List D} (f : Nat → Bool) (h : ∀ (i : Nat) (d e : D), ds[i]? = some d → es[i]? = some e → EqI (PM.inC X) μ d e (f i)) :
    EqI X μ (.tup ds) (.tup es) ((List.range (min ds.length es.length)).all f && ds.length == es.length) where
  rf := fun L G v r => by obtain ⟨a, _, e, _⟩ := rep_tup.mp r; exact ⟨a, e⟩
  rf2 := fun L G v r => by obtain ⟨a, _, e, _⟩ := rep_tup.mp r; exact ⟨a, e⟩
  same := fun pins s σ H L G v I ok r1 r2 => by
    obtain ⟨a, vs, rfl, q1, rr1⟩ := rep_tup.mp r1
    obtain ⟨c, us, ec, q2, rr2⟩ := rep_tup.mp r2
    cases ec
    have ev := I.tuple_inj (Same.sqT ok.sub q1) (Same.sqT ok.sub q2)
    subst ev
    have el : ds.length = es.length := rr1.length.symm.trans rr2.length
    rw [el, Nat.min_self, beq_self_eq_true, Bool.and_true, List.all_eq_true]
    intro i hi
    have hi' : i < es.length := List.mem_range.mp hi
    have hi2 : i < ds.length := by omega
    obtain ⟨x, ex, rx⟩ := rr1.get (List.getElem?_eq_getElem hi2)
    obtain ⟨y, ey, ry⟩ := rr2.get (List.getElem?_eq_getElem hi')
    rw [ex] at ey
    cases ey
    exact (h i _ _ (List.getElem?_eq_getElem hi2) (List.getElem?_eq_getElem hi')).same pins s σ H L G _ (inC_inv I) ok rx ry
  cmp := oc_eqTup (W := W0) g.w0 f h
/-- by one list of each -/
theorem all_eq {α : Type} [DecidableEq α] (xs ys : List α) : ((List.range (min xs.length ys.length)).all (fun i => decide (xs[i]? = ys[i]?)) && xs.length == ys.length) = decide (xs = ys) := by
  rw [Bool.eq_iff_iff, Bool.and_eq_true, List.all_eq_true, decide_eq_true_eq, beq_iff_eq]
  constructor
  · rintro ⟨h, hl⟩
    refine List.ext_getElem? fun i => ?_
    by_cases hi : i < xs.length
    · exact of_decide_eq_true (h i (List.mem_range.mpr (by omega)))
    · rw [List.getElem?_eq_none (by omega), List.getElem?_eq_none (by omega)]
  · rintro rfl
    exact ⟨fun i _ => by simp, rfl⟩
theorem EqI.map (g : Gd X W (k + 1)) {α : Type} [DecidableEq α] (rd : α → D) (xs ys : List α) (h : ∀ x ∈ xs, ∀ y ∈ ys, EqI (PM.inC X) μ (rd x) (rd y) (decide (x = y))) :
    EqI X μ (.tup (xs.map rd)) (.tup (ys.map rd)) (decide (xs = ys)) := by
  have := EqI.tup (X := X) (W := W) (μ := μ) g (ds := xs.map rd) (es := ys.map rd) (fun i => decide (xs[i]? = ys[i]?)) (fun i d e hd he => by
    rw [List.getElem?_map] at hd he
    obtain ⟨x, ex, rfl⟩ := Option.map_eq_some_iff.mp hd
    obtain ⟨y, ey, rfl⟩ := Option.map_eq_some_iff.mp he
    have q := h x (List.mem_of_getElem? ex) y (List.mem_of_getElem? ey)
    rw [ex, ey]
    simpa using q)
  rw [List.length_map, List.length_map, all_eq] at this
  exact this
end
end PM

set_option Elab.async false
set_option linter.all false
set_option maxRecDepth 100000
set_option maxHeartbeats 4000000
namespace PM
open PySem
open L2 hiding Inv
/-! ### list != [] , whatever the items are -/
section
variable {X : Cx} {W : WX} {k : Nat} {μ : List M} {Q : KV} {Z : KX}
theorem wB_neE (g : Gd X W k) {d : D} {ds : List D} (hd : Lqd μ d ds) (h : Q (.bl (!ds.isEmpty)) μ) : wB X W (compareOp .NotEq) d (.lst []) μ Q Z := by
  refine ⟨fun pins s σ H x y v u R L G I rx ry ok r1 r2 av ax => ?_⟩
  obtain ⟨a, vs, rfl, q1, rr⟩ := hd.at_ ok r1
  obtain ⟨c, us, rfl, q2, rr2⟩ := rep_lst.mp r2
  cases rr2.inv_nil
  cases rx
  cases ry
  obtain ⟨its, rv, p1, _⟩ := I.list q1
  obtain ⟨its2, rv2, p2, _⟩ := I.list (SqL.of (ok.sub _ _ q2))
  cases rv2
  have hu : X.A.units < cLine := by have := g.hr.un; omega
  have hlen : its.toArray.size = ds.length := by rw [List.size_toArray, ← rv.length, rr.length]
  show wpAny (model X.prog X.w) X.A (richCompare .NotEq (.ref a) (.ref c)) _ _ s
  have fin : ∀ b : Bool, b = (!ds.isEmpty) → EP X pins σ R (.bool b) s := fun b e => ⟨.bl b, H, I, rfl, av _ _ (e ▸ h) _ L G H (.refl _ _ _) ok (rep_bl.mpr rfl)⟩
  cases ds with
  | nil =>
    have e0 : its.toArray.size = ([] : List Value).toArray.size := hlen
    refine SeqAt.RcNeAt.lists (e := fun _ => true) p1.isList p2.isList e0 hu (fun j h1 h2 => absurd h2 (by simp)) X.prog X.w X.xe _ (fin _ ?_)
    rw [hlen]
    rfl
  | cons d ds =>
    refine SeqAt.RcNeAt.lists_lengths p1.isList p2.isList ?_ hu X.prog X.w X.xe _ (fin _ rfl)
    rw [hlen]
    simp
/-- list + list, of the store or not -/
theorem Lqd.raw {K : PySem.W.Frag} {L : List Addr} {G H : Hp} {d : D} {ds : List D} {v : V} (c : Lqd μ d ds) (o : Ok K L G H μ) (r : Rep K L G d v) : ∃ a vs, v = .ref a ∧ H a = some (.lst vs) ∧ Reps K L G ds vs := by
  rcases c with rfl | ⟨n, rfl, hn⟩
  · obtain ⟨a, vs, e, q, rr⟩ := rep_lst.mp r
    exact ⟨a, vs, e, o.sub _ _ q, rr⟩
  · obtain ⟨a, ea, e⟩ := rep_loc.mp r
    obtain ⟨vs, eh, rr⟩ := o.at_ n a _ ea hn
    exact ⟨a, vs, e, eh, rr⟩
theorem wB_catQ {d e : D} {ds es : List D} (hd : Lqd μ d ds) (he : Lqd μ e es) (c : ds.length + es.length ≤ sizeLine) (h : Q (.lst (ds ++ es)) μ) : wB X W (binaryOp .Add) d e μ Q Z := by
  refine .ofV (opO_of op_cat fun σ u v H R L G o r1 r2 co => ?_) h
  obtain ⟨a, vs, rfl, q1, s1⟩ := hd.raw o r1
  obtain ⟨a', vs', rfl, q2, s2⟩ := he.raw o r2
  refine ⟨a, a', vs, vs', rfl, rfl, q1, q2, by rw [s1.length, s2.length]; exact c, fun p hp => ?_⟩
  refine CO.fresh (W := W0) (σ := σ) co o hp (rep_lst.mpr ⟨p, vs ++ vs', rfl, upd_same, ?_⟩)
  have e := (o.new (p := p) (o := .lst (vs ++ vs')) hp).2.gs
  exact (s1.mono (Pre.refl _) e).append (s2.mono (Pre.refl _) e)
end
end PM

set_option Elab.async false
set_option linter.all false
set_option maxRecDepth 100000
set_option maxHeartbeats 4000000
namespace PM
open PySem
open L2 hiding Inv
/-! ### for .., .. in zip(l, m), lists that may lie in the store -/
section
variable {K : PySem.W.Frag} {L2 : List Addr} {G2 H2 : Hp} {μ2 : List M} {d d' x y : D} {xs ys : List D} {p q : Addr} {i : Nat}
end
section
variable {X : Cx} {W : WX} {ρ : Env'} {μ : List M} {e e2 : Expr} {elts : List Expr} {kk : Nat} {tpos p pos pos' : Pos} {nx : KN} {κ : Ks}
end
end PM

set_option Elab.async false
set_option linter.all false
set_option maxRecDepth 100000
set_option maxHeartbeats 4000000
namespace PM
open PySem
open L2 hiding Inv
/-! ### for .., .. in enumerate(l), a list that may lie in the store -/
section
variable {K : PySem.W.Frag} {L2 : List Addr} {G2 H2 : Hp} {μ2 : List M} {d x : D} {xs : List D} {p : Addr} {i : Nat}
end
section
variable {X : Cx} {W : WX} {ρ : Env'} {μ : List M} {e : Expr} {elts : List Expr} {kk : Nat} {tpos p pos pos' : Pos} {nx : KN} {κ : Ks}
end
end PM

set_option Elab.async false
set_option linter.all false
set_option maxRecDepth 100000
set_option maxHeartbeats 4000000
namespace PM
open PySem
open Sem (wp)
/-- a tuple of 4 values, as it is made -/
abbrev IsTupOf4 (h : Heap) (T : Addr) (a1 a2 a3 a4 : Value) : Prop := h.get? T = some { cls := .type "tuple", data := .seq #[a1, a2, a3, a4] }
/-- the cells of a zip over 4 iterators lie apart -/
structure ZipSep4 (z TI TO i1 i2 i3 i4 : Addr) (fp1 fp2 fp3 fp4 : List Addr) : Prop where
  TIz : TI ≠ z
  TOz : TO ≠ z
  TITO : TI ≠ TO
  TIi1 : TI ≠ i1
  mem1 : i1 ∈ fp1
  zf1 : z ∉ fp1
  Tf1 : TO ∉ fp1
  TIi2 : TI ≠ i2
  mem2 : i2 ∈ fp2
  zf2 : z ∉ fp2
  Tf2 : TO ∉ fp2
  TIi3 : TI ≠ i3
  mem3 : i3 ∈ fp3
  zf3 : z ∉ fp3
  Tf3 : TO ∉ fp3
  TIi4 : TI ≠ i4
  mem4 : i4 ∈ fp4
  zf4 : z ∉ fp4
  Tf4 : TO ∉ fp4
  sep1_2 : i1 ∉ fp2
  sep1_3 : i1 ∉ fp3
  sep1_4 : i1 ∉ fp4
  sep2_1 : i2 ∉ fp1
  sep2_3 : i2 ∉ fp3
  sep2_4 : i2 ∉ fp4
  sep3_1 : i3 ∉ fp1
  sep3_2 : i3 ∉ fp2
  sep3_4 : i3 ∉ fp4
  sep4_1 : i4 ∉ fp1
  sep4_2 : i4 ∉ fp2
  sep4_3 : i4 ∉ fp3
section
variable {prog : Program} {w : World} {A : Around} {E : Value → Shared → Prop} {s : Shared} {z TI TO i1 i2 i3 i4 : Addr} {fp1 fp2 fp3 fp4 : List Addr} {n1 n2 n3 n4 i : Nat} {P1 P2 P3 P4 : Nat → Value → Prop} {St1 St2 St3 St4 : Nat → Heap → Prop} {a1 a2 a3 a4 : Value}
end
abbrev gzT4 (h : Heap) (o1 o2 o3 o4 : Obj) : Heap := ((((h.push o1).push o2).push o3).push o4).push { cls := .type "tuple", data := .seq #[.ref h.objs.size, .ref (h.push o1).objs.size, .ref ((h.push o1).push o2).objs.size, .ref (((h.push o1).push o2).push o3).objs.size] }
abbrev gzO4 (h : Heap) (o1 o2 o3 o4 : Obj) : Heap := (gzT4 h o1 o2 o3 o4).push { cls := .type "tuple", data := .seq #[.none, .none, .none, .none] }
abbrev gzZ4 (h : Heap) (o1 o2 o3 o4 : Obj) : Heap := (gzO4 h o1 o2 o3 o4).push { cls := .type "zip", data := .fields #[.none, .bool false, .bool false, .ref ((((h.push o1).push o2).push o3).push o4).objs.size, .ref (gzT4 h o1 o2 o3 o4).objs.size] }
section
variable {prog : Program} {w : World} {A : Around} {E : Value → Shared → Prop} {s : Shared}
end
open L2 hiding Inv
/-- the items of 4, in new tuples -/
def Itz4 (K : PySem.W.Frag) (t1 t2 t3 t4 : Bool) (l1 l2 l3 l4 : Addr) : It :=
  ⟨fun i H => ∃ (xs1 xs2 xs3 xs4 : List V) (x1 x2 x3 x4 : V), SqB t1 K H l1 xs1 ∧ SqB t2 K H l2 xs2 ∧ SqB t3 K H l3 xs3 ∧ SqB t4 K H l4 xs4 ∧ xs1[i]? = some x1 ∧ xs2[i]? = some x2 ∧ xs3[i]? = some x3 ∧ xs4[i]? = some x4,
    fun i H v H' => ∃ T x1 x2 x3 x4, v = .ref T ∧ H T = none ∧ H' = upd H T (.tup [x1, x2, x3, x4]) ∧ (∀ xs, SqB t1 K H l1 xs → xs[i]? = some x1) ∧ (∀ xs, SqB t2 K H l2 xs → xs[i]? = some x2) ∧ (∀ xs, SqB t3 K H l3 xs → xs[i]? = some x3) ∧ (∀ xs, SqB t4 K H l4 xs → xs[i]? = some x4),
    fun i H => ∃ xs1 xs2 xs3 xs4 : List V, SqB t1 K H l1 xs1 ∧ SqB t2 K H l2 xs2 ∧ SqB t3 K H l3 xs3 ∧ SqB t4 K H l4 xs4 ∧ (i ≤ xs1.length ∧ i ≤ xs2.length ∧ i ≤ xs3.length ∧ i ≤ xs4.length) ∧ (xs1.length = i ∨ xs2.length = i ∨ xs3.length = i ∨ xs4.length = i)⟩
def iZip4 (K : PySem.W.Frag) (t : TA) : TI := fun σ H R => t σ H fun vs H1 => ∃ t1 t2 t3 t4 l1 l2 l3 l4 xs1 xs2 xs3 xs4, vs = [.ref l1, .ref l2, .ref l3, .ref l4] ∧ SqB t1 K H1 l1 xs1 ∧ SqB t2 K H1 l2 xs2 ∧ SqB t3 K H1 l3 xs3 ∧ SqB t4 K H1 l4 xs4 ∧ R (Itz4 K t1 t2 t3 t4 l1 l2 l3 l4) H1
section
variable {X : Cx} {W : WX} {ρ : Env'} {μ : List M} {e1 e2 e3 e4 : Expr} {elts : List Expr} {kk : Nat} {tpos p pos : Pos} {QA : KA} {Z : KX}
end
end PM

set_option Elab.async false
set_option linter.all false
set_option maxRecDepth 100000
set_option exponentiation.threshold 20000
namespace PM
open PySem L2
/-! numbers to 2 ^ 4000 -/
section
variable {X : Cx} {W : WX} {μ : List M} {i j : Int} {Q : KV} {Z : KX}
end
end PM

set_option Elab.async false
set_option linter.all false
set_option maxRecDepth 100000
set_option maxHeartbeats 4000000
namespace PM
open PySem
open L2 hiding Inv
/-! ### t + u of tuples; own OP own by what the def promises -/
section
variable {X : Cx} {W : WX} {μ : List M} {ds es : List D} {Q : KV} {Z : KX}
end
section
variable {X : Cx} {W : WX} {k : Nat} {μ : List M} {Q : KV} {Z : KX} {C : Addr} {ns ns' : List Str} {fs fs' : List D}
end
section
variable {X : Cx} {W : WX} {k j : Nat} {ps : List Str} {R : Rl} {f C : Addr} {fd : FuncData} {μ μ2 : List M} {ns : List Str} {fs : List D} {d : D} {b : Bool}
end
end PM

set_option Elab.async false
set_option linter.all false
set_option maxRecDepth 100000
set_option maxHeartbeats 4000000
/-! «yield from» over any tuple that is read, one of the module too; list(o.m()) of a generator method -/
namespace PM
open PySem PySem.Spec PyProof.Rows GenW
open L2
/-- an iterator by its turns; what lies below the call stays, too -/
structure ItK (X : Cx) (H : Hp) (it : Addr) (xs : List V) (Sd : Nat → Heap → Prop) : Prop where
  kind : ∃ T, (∀ j h, Sd j h → ∃ o, h.get? it = some o ∧ o.cls = .type T) ∧ typeLookup (.type T) "close" = pure none ∧ (Value.type T != Value.type "generator") = true
  stay : ∀ j h g, Sd j h → (∀ b o, (b = it ∨ H b ≠ none ∨ b < X.s_0.heap.objs.size) → h.get? b = some o → g.get? b = some o) → Sd j g
  turn : ∀ (B : Around) (j : Nat) (x : V) (s : Shared) (Q : Option Value → Shared → Prop) (F : Value → Shared → Prop), B.handled = none → xs[j]? = some x → Sd j s.heap → (∀ v g tk, RelV x v → Sd (j + 1) g → (∀ b o, b ≠ it → s.heap.get? b = some o → g.get? b = some o) → Q (some v) { s with heap := g, toks := tk }) → wpAny (model X.prog X.w) B (callSpecial? (.ref it) "__next__") Q F s
  stop : ∀ (B : Around) (s : Shared) (Q : Option Value → Shared → Prop) (F : Value → Shared → Prop), B.handled = none → Sd xs.length s.heap → (∀ e g tk, StopX e g → (∀ b o, b ≠ it → s.heap.get? b = some o → g.get? b = some o) → F e { s with heap := g, toks := tk }) → wpAny (model X.prog X.w) B (callSpecial? (.ref it) "__next__") Q F s
structure YfK (X : Cx) (e : Expr) (t : TYf) : Prop where
  run : ∀ (pins : List (Addr × Obj)) (s : Shared) (σ : L2.St) (H : Hp) (Q : List V → Hp → Prop), L2.Inv X pins σ H s → t σ H Q → wpAny (model X.prog X.w) X.A (eval e X.env) (fun v s1 => ∃ T, s1.TypeIs v T ∧ (Value.type T == Value.type "coroutine") = false ∧ wpAny (model X.prog X.w) X.A (pyIter v) (fun u s2 => ∃ (it : Addr) (H' : Hp) (xs : List V) (Sd : Nat → Heap → Prop), u = .ref it ∧ L2.Inv X pins σ H' s2 ∧ (it ∈ X.ex ∨ X.s_0.heap.objs.size ≤ it) ∧ it ≠ X.env.locals ∧ (∀ x c, X.env.cells.lookup x = some c → c ≠ it) ∧ H' it = none ∧ (∀ p ∈ X.pn ++ pins, p.1 ≠ it) ∧ Sd 0 s2.heap ∧ ItK X H' it xs Sd ∧ Q xs H') X.xe s1) X.xe s
section
variable {X : Cx} {e : Expr} {yp pos : Pos} {te : TE}
def tYfSq (K : PySem.W.Frag) (te : TE) : TYf := fun σ H Q => te σ H fun x H1 => ∃ a xs, x = .ref a ∧ SqT K H1 a xs ∧ Q xs H1
end
end PM

set_option Elab.async false
set_option linter.all false
set_option maxRecDepth 100000
set_option maxHeartbeats 4000000
/-! errors of the program's own right under IndexError -/
namespace PM
open PySem PySem.Spec PyProof.Rows
open L2
open PySem.HandSPX PySem.W PySem.Calls Builtin Builtin.ObjectAttr in
section
abbrev ieTail : List Value := [.type "IndexError", .type "LookupError", .type "Exception", .type "BaseException", .type "object"]
end
/-- what the written part says of the class -/
structure OexI (K : PySem.W.Frag) (C : Addr) : Prop where
  cls : ∃ nm q N bs sn sub ab col dd k0 k1 k2 k3 k5, K.lookup C = some (excClassObj nm q C N bs ieTail true sn sub ab col dd k0 k1 k2 k3 k5 "IndexError.__new__")
  sa : PySem.W.findIn K (.ref C) "__setattr__" = some (some (.builtin "object.__setattr__"))
  exC : PySem.W.subIn K (.ref C) (.type "BaseException") = some true
  tyC : PySem.W.typeIn K (.ref C) = some (.type "type")
  kC : PySem.W.keepIn K (.ref C) = true
section
open PySem.HandSPX PySem.W PySem.Calls Builtin Builtin.ObjectAttr
variable {prog : Program} {w : World} {A : Around} {R : Result → Shared → Prop} {hp : Heap} {g : Array GenState} {d : Drawn} {t : Nat} {os : OsState}
end
section
variable {X : Cx} {pins : List (Addr × Obj)} {σ : L2.St} {H : Hp} {s : Shared} {a C dx : Addr} {f : Str} {y : V} {u : Value} {Q : Unit → Shared → Prop} {E : Value → Shared → Prop} {A : Around}
end
/-- IndexError.__init__(self, ..) -/
def tIeI (K : PySem.W.Frag) (ta : TA) : TE := fun σ H Q => ta σ H fun vs H1 => ∃ (a C : Addr) (ws : List V), vs = .ref a :: ws ∧ ws.length ≤ 1000 ∧ OexI K C ∧ H1 a = some (exo a C none) ∧ Q .non H1
/-- self.f = e, the first one -/
def tOsI (K : PySem.W.Frag) (f : Str) (to te : TE) : TS := fun D σ H => te σ H fun y H1 => to σ H1 fun x H2 => ∃ a C : Addr, x = .ref a ∧ OexI K C ∧ PySem.W.findIn K (.ref C) f = some none ∧ H2 a = some (exo a C none) ∧ ∀ dx, H2 dx = none → dx ≠ a → D.nx σ (upd (upd H2 dx (exd dx [(f, y)])) a (exo a C (some dx)))
section
variable {X : Cx} {o e : Expr} {es : List Expr} {to te : TE} {ta : TA} {f : Str} {p p' p1 p2 pos : Pos}
end
section
variable {P : Program} {w : World} {K : PySem.W.Frag} {mg : Str → Option Value} {base : Heap}
end
/-- such a class as its makers need it -/
structure ErrI (P : Program) (w : World) (K : PySem.W.Frag) (mg : Str → Option Value) (base : Heap) (C : Addr) (f : Str) : Prop where
  oex : OexI K C
  one : ∃ fI fd ps, PySem.W.findIn K (.ref C) "__init__" = some (some (.ref fI)) ∧ PySem.W.typeIn K (.ref fI) = some (.type "function") ∧ FnOk P w K mg base CX0 1 fI fd ps (spI1 C f) ∧ Binds K fd ps []
section
variable {X : Cx} {W : WX} {k : Nat} {N : List Str} {V : List Kd} {Gs : List Str} {C : Addr} {f x : Str} {ρ : Env'} {μ : List M} {e : Expr} {es : List Expr} {nx : KN} {κ : Ks} {p pos pos2 : Pos}
end
end PM

set_option Elab.async false
set_option linter.all false
set_option maxRecDepth 100000
set_option maxHeartbeats 4000000
/-! own != anything, by object.__ne__ and the own __eq__; two classes of one's own; a pair read backwards -/
namespace PM
open PySem L2 PyProof.Rows
section
variable {prog : Program} {w : World} {A : Around} {E : Value → Shared → Prop} {s : Shared} {K : PySem.W.Frag} {x C f : Addr} {ox : Obj} {od : Option Obj}
end
section
variable {X : Cx} {W : WX} {k j : Nat} {ps : List Str} {R : Rl} {f C D' : Addr} {fd : FuncData} {μ μ2 : List M} {ns : List Str} {fs : List D} {b : Bool} {db : D} {t : Value}
end
section
variable {prog : Program} {w : World} {A : Around} {E : Value → Shared → Prop} {s : Shared}
end
/-! t[::-1] of a pair -/
def tRevT2 (K : PySem.W.Frag) (te : TE) : TE := fun σ H Q => te σ H fun x H1 => ∃ a u v, x = .ref a ∧ SqT K H1 a [u, v] ∧ ∀ p, H1 p = none → Q (.ref p) (upd H1 p (.tup [v, u]))
section
variable {X : Cx} {W : WX} {ρ : Env'} {μ : List M} {e : Expr} {pos p1 p2 p3 : Pos} {k : Nat} {Q : KV} {Z : KX}
end
end PM

set_option Elab.async false
set_option linter.all false
set_option maxRecDepth 100000
set_option maxHeartbeats 4000000
namespace PM
open PySem L2 PyProof.Rows
section
variable {X : Cx} {W : WX} {k : Nat} {μ : List M} {Q : KV} {Z : KX}
end
end PM

set_option Elab.async false
set_option linter.all false
set_option maxRecDepth 100000
set_option maxHeartbeats 4000000
/-! texts: methods, slices, items, signs, int(..) -/
namespace PM
open PySem L2 PyProof.Rows
/-- the signs of a text, each a text of its own -/
def signs (x : Str) : List D := x.cps.toList.map fun c => D.str ⟨#[c]⟩
theorem signs_len (x : Str) : (signs x).length = x.length := by simp [signs, Str.length]
theorem jok_str {K : PySem.W.Frag} {L : List Addr} {G : Hp} {x : Str} : JOk K (Its x) L G (signs x) where
  go := fun L2 G2 H2 μ2 i d pr sg o e => by
    obtain ⟨c, hc, rfl⟩ : ∃ c, x.cps[i]? = some c ∧ D.str ⟨#[c]⟩ = d := by
      unfold signs at e
      rw [List.getElem?_map, Option.map_eq_some_iff] at e
      obtain ⟨c, h1, h2⟩ := e
      exact ⟨c, by rw [← h1]; simp, h2⟩
    refine ⟨?_, fun v H3 ⟨e1, c', h1, h2⟩ => ?_⟩
    · have := (Array.getElem?_eq_some_iff.mp hc).1
      exact this
    · subst e1 h2
      rw [hc] at h1
      cases h1
      exact ⟨G2, .refl _ _ _, o, rep_str.mpr rfl⟩
  stop := fun L2 G2 H2 μ2 pr sg o => by
    show x.cps.size ≤ (signs x).length
    rw [signs_len]
    exact Nat.le_refl _
section
variable {X : Cx} {W : WX} {k : Nat} {ρ : Env'} {μ : List M} {o e a tg : Expr} {apos pos p2 : Pos} {Q : KV} {QA : KA} {Z : KX} {x y : Str} {i : Int} {c : Nat}
/-- for sign in a text -/
theorem wI_str (h : wE X W ρ μ e (fun d μ1 => ∃ x, d = .str x ∧ QA (signs x) μ1) Z) : wI X W ρ μ tg e QA Z :=
  ⟨pi_of (pi_str h.run) fun σ H R ⟨L, G, n, v, x⟩ => ⟨L, G, n, fun d μ1 ⟨y, ed, q⟩ u L1 G1 H1 s1 o1 r1 => by
    subst ed
    exact ⟨y, rep_str.mp r1, v _ μ1 q _ L1 G1 H1 s1 o1 jok_str⟩, x⟩⟩
/-- x.startswith(y) -/
theorem wE_starts (h : wE X W ρ μ o (fun d μ1 => ∃ a, d = .str a ∧ wE X W ρ μ1 e (fun de μ2 => ∃ b, de = .str b ∧ Q (.bl (Txt.startswith a b)) μ2) Z) Z)
    (hs : starEach [e] X.env = [(false, eval e X.env)] := by rfl) (hbase : attributeBase o "startswith" X.env (eval o X.env) = eval o X.env := by rfl) (hline : (apos.endLine == pos.line) = true := by rfl) : wE X W ρ μ (.Call (.Attribute o "startswith" apos) [e] [] pos) Q Z :=
  ⟨pe_of (pe_m1 PySem.F.slot_str_startswith PySem.F.type_str_startswith mt_startswith h.run aE_ok hs hbase hline) fun σ H R ⟨L, G, n, v, x⟩ => ⟨L, G, n, fun d μ1 ⟨a, ed, h2⟩ u L1 G1 H1 s1 o1 r1 => by
    subst ed
    refine ⟨⟨a, rep_str.mp r1⟩, _, h2.run, L1, G1, n.step s1 o1, fun de μ2 ⟨b, eb, q⟩ w L2 G2 H2 s2 o2 r2 => ?_, x.step s1⟩
    subst eb
    exact ⟨a, b, rep_str.mp r1, by rw [rep_str.mp r2], v _ _ q _ L2 G2 H2 (s1.trans s2) o2 (rep_bl.mpr rfl)⟩, x⟩⟩
/-- x.partition(y) -/
theorem wE_part (h : wE X W ρ μ o (fun d μ1 => ∃ a, d = .str a ∧ wE X W ρ μ1 e (fun de μ2 => ∃ b, de = .str b ∧ (b.length == 0) = false ∧ a.length ≤ sizeLine ∧ Q (.tup [.str (Txt.partition a b).1, .str (Txt.partition a b).2.1, .str (Txt.partition a b).2.2]) μ2) Z) Z)
    (hs : starEach [e] X.env = [(false, eval e X.env)] := by rfl) (hbase : attributeBase o "partition" X.env (eval o X.env) = eval o X.env := by rfl) (hline : (apos.endLine == pos.line) = true := by rfl) : wE X W ρ μ (.Call (.Attribute o "partition" apos) [e] [] pos) Q Z :=
  ⟨pe_of (pe_partition h.run aE_ok hs hbase hline) fun σ H R ⟨L, G, n, v, x⟩ => ⟨L, G, n, fun d μ1 ⟨a, ed, h2⟩ u L1 G1 H1 s1 o1 r1 => by
    subst ed
    refine ⟨⟨a, rep_str.mp r1⟩, _, h2.run, L1, G1, n.step s1 o1, fun de μ2 ⟨b, eb, hb, hl, q⟩ w L2 G2 H2 s2 o2 r2 => ?_, x.step s1⟩
    subst eb
    refine ⟨a, b, rep_str.mp r1, by rw [rep_str.mp r2], hb, hl, fun p hp => ?_⟩
    obtain ⟨o3, s3⟩ := o2.new (o := .tup [.str (Txt.partition a b).1, .str (Txt.partition a b).2.1, .str (Txt.partition a b).2.2]) hp
    exact v _ _ q _ L2 _ _ ((s1.trans s2).trans s3) o3 (rep_tup.mpr ⟨p, _, rfl, SqT.of upd_same, Reps.cons (rep_str.mpr rfl) (Reps.cons (rep_str.mpr rfl) (Reps.cons (rep_str.mpr rfl) Reps.nil))⟩), x⟩⟩
theorem reps_strD {K : PySem.W.Frag} {L : List Addr} {G : Hp} : ∀ ys : List Str, Reps K L G (ys.map D.str) (ys.map V.str)
  | [] => Reps.nil
  | y :: ys => Reps.cons (rep_str.mpr rfl) (reps_strD ys)
/-- x.split(y) -/
theorem wE_split (h : wE X W ρ μ o (fun d μ1 => ∃ a, d = .str a ∧ wE X W ρ μ1 e (fun de μ2 => ∃ b, de = .str b ∧ (b.length == 0) = false ∧ a.length + 2 ≤ sizeLine ∧ Q (.lst ((Txt.split a b).map D.str)) μ2) Z) Z)
    (hs : starEach [e] X.env = [(false, eval e X.env)] := by rfl) (hbase : attributeBase o "split" X.env (eval o X.env) = eval o X.env := by rfl) (hline : (apos.endLine == pos.line) = true := by rfl) : wE X W ρ μ (.Call (.Attribute o "split" apos) [e] [] pos) Q Z :=
  ⟨pe_of (pe_split h.run aE_ok hs hbase hline) fun σ H R ⟨L, G, n, v, x⟩ => ⟨L, G, n, fun d μ1 ⟨a, ed, h2⟩ u L1 G1 H1 s1 o1 r1 => by
    subst ed
    refine ⟨⟨a, rep_str.mp r1⟩, _, h2.run, L1, G1, n.step s1 o1, fun de μ2 ⟨b, eb, hb, hl, q⟩ w L2 G2 H2 s2 o2 r2 => ?_, x.step s1⟩
    subst eb
    refine ⟨a, b, rep_str.mp r1, by rw [rep_str.mp r2], hb, hl, fun p hp => ?_⟩
    obtain ⟨o3, s3⟩ := o2.new (o := .lst ((Txt.split a b).map V.str)) hp
    exact v _ _ q _ L2 _ _ ((s1.trans s2).trans s3) o3 (rep_lst.mpr ⟨p, _, rfl, upd_same, reps_strD _⟩), x⟩⟩
/-- x[i:] of a text -/
theorem wE_sfrom (h : wE X W ρ μ e (fun d μ1 => wE X W ρ μ1 a (fun da μ2 => ∃ (i : Nat) (z : Str), da = .int (i : Nat) ∧ d = .str z ∧ z.length ≤ sizeLine ∧ Q (.str (cutS z (some (i : Int)) none)) μ2) Z) Z) : wE X W ρ μ (.Subscript e (.Slice (some a) none none p2) pos) Q Z :=
  ⟨pe_of (pe_slice sl_str h.run (po_some aE_ok) po_none) fun σ H R ⟨L, G, n, v, x⟩ => ⟨L, G, n, fun d μ1 h2 u L1 G1 H1 s1 o1 r1 => ⟨_, h2.run, L1, G1, n.step s1 o1, fun da μ2 ⟨i, z, ea, ed, hz, q⟩ w L2 G2 H2 s2 o2 r2 => by
    subst ea ed
    exact ⟨i, rep_int.mp r2, z, rep_str.mp r1, hz, v _ _ q _ L2 G2 H2 (s1.trans s2) o2 (rep_str.mpr rfl)⟩, x.step s1⟩, x⟩⟩
/-- x[i] of a text -/
theorem wX_sign (hz : x.length ≤ sizeLine) (h : atI x.cps.toList i = some c) (q : Q (.str ⟨#[c]⟩) μ) : wX X W (.str x) (.int i) μ Q Z := by
  refine ⟨fun value slice pins s σ H z y v u R L G I rx ry ok r1 r2 av ax hs => ?_⟩
  exact ix_str value slice pins s σ H z y v u R I rx ry ⟨x, i, c, rep_str.mp r1, rep_int.mp r2, hz, h, av _ _ q _ L G H (.refl _ _ _) ok (rep_str.mpr rfl)⟩ hs
/-- a sign in a text -/
theorem wB_inSign (h : Q (.bl (decide (c ∈ y.cps.toList))) μ) : wB X W (compareOp .In) (.str ⟨#[c]⟩) (.str y) μ Q Z :=
  .ofV (opO_of op_in_sign fun σ a b H Q L G o r1 r2 co => ⟨c, y, rep_str.mp r1, rep_str.mp r2, CO.now (W := W0) (σ := σ) co o (rep_bl.mpr rfl)⟩) h
end
end PM

set_option Elab.async false
set_option linter.all false
set_option maxRecDepth 100000
set_option maxHeartbeats 4000000
/-! a text times 0 or 1; {i} of a whole number -/
namespace PM
open PySem L2 PyProof.Rows
theorem op_mul01 {X : Cx} : OpR X (binaryOp .Mult) (fun x y H Q => ∃ (a : Str) (n : Int), x = .str a ∧ y = .int n ∧ (n = 0 ∨ n = 1) ∧ Q (.str (if n = 1 then a else Str.empty)) H) := by
  intro pins s σ H x y v u Q I rx ry h
  obtain ⟨a, n, rfl, rfl, hn, q⟩ := h
  obtain ⟨t, rfl⟩ := rx
  obtain ⟨t', rfl⟩ := ry
  rcases hn with rfl | rfl
  · exact PySem.P.mul_str_none (by decide) (by decide) ⟨.str Str.empty, H, I.tok _, ⟨_, rfl⟩, q⟩
  · exact PySem.P.mul_str (by decide) (fun _ h => by simp at h) (fun _ h => by simp at h) (by
      rw [if_neg (by decide), if_pos (by rfl)]
      exact ⟨.str a, H, I, ⟨_, rfl⟩, q⟩)
section
variable {X : Cx} {W : WX} {k : Nat} {ρ : Env'} {μ : List M} {e : Expr} {pos : Pos} {Q : KV} {Z : KX} {x : Str} {n : Int}
/-- text * n, n 0 or 1 -/
theorem wB_mul01 (hn : n = 0 ∨ n = 1) (h : Q (.str (if n = 1 then x else Str.empty)) μ) : wB X W (binaryOp .Mult) (.str x) (.int n) μ Q Z :=
  .ofV (opO_of op_mul01 fun σ a b H Q L G o r1 r2 co => ⟨x, n, rep_str.mp r1, rep_int.mp r2, hn, CO.now (W := W0) (σ := σ) co o (rep_str.mpr rfl)⟩) h
end
end PM

set_option Elab.async false
set_option linter.all false
set_option maxRecDepth 100000
set_option maxHeartbeats 4000000
/-! own error classes called by keywords -/
namespace PySem
namespace HandSKW
open HandSPX Builtin Builtin.ObjectAttr
section
variable {prog : Program} {w : World} {A : Around} {E : Value → Shared → Prop} {R : Result → Shared → Prop} {h : Heap} {g : Array GenState} {d : Drawn} {t : Nat} {os : OsState}
variable {nm q : Str} {C N : Addr} {bs bm bmB : List Value} {hdct : Bool} {sn : List Str} {sub : List Value} {ab : Bool} {col : Option Bool} {dd : Option Addr} {k0 k1 k2 k3 k5 : Option Value} {B newId initId : String} {kw : List (Str × Value)}
end
end HandSKW
end PySem

set_option Elab.async false
set_option linter.all false
set_option maxRecDepth 100000
set_option maxHeartbeats 4000000
/-! errors as values: made, their fields read, asked for their class -/
namespace PM
open PySem PySem.Spec PyProof.Rows
open L2
/-- an __init__ that keeps nothing -/
def spI0 (C : Addr) : Sp := fun vs H Q _ => ∃ a : Addr, vs = [.ref a] ∧ H a = some (exo a C none) ∧ Q .non H
section
variable {P : Program} {w : World} {K : PySem.W.Frag} {mg : Str → Option Value} {base : Heap}
end
/-- what the promise of an __init__ says of its fields -/
inductive KeepS (C : Addr) : List Str → Sp → Prop
  | zero : KeepS C [] (spI0 C)
  | one (f : Str) : KeepS C [f] (spI1 C f)
  | two (f g : Str) : KeepS C [f, g] (spI2 C f g)
/-- an error class as its makers need it, under ValueError or IndexError -/
structure MkE (P : Program) (w : World) (K : PySem.W.Frag) (mg : Str → Option Value) (base : Heap) (C : Addr) (fd : FuncData) (ps ns : List Str) : Prop where
  oex : OexC K C ∨ OexI K C
  one : ∃ fI sp, PySem.W.findIn K (.ref C) "__init__" = some (some (.ref fI)) ∧ PySem.W.typeIn K (.ref fI) = some (.type "function") ∧ FnOk P w K mg base CX0 1 fI fd ps sp ∧ KeepS C ns sp
theorem MkE.kp {P : Program} {w : World} {K : PySem.W.Frag} {mg : Str → Option Value} {base : Heap} {C : Addr} {fd : FuncData} {ps ns : List Str} (m : MkE P w K mg base C fd ps ns) : PySem.W.keepIn K (.ref C) = true := by
  rcases m.oex with T | T <;> exact T.kC
/-- the heap behind the making -/
def Mad (C : Addr) : List Str → List V → Hp → Addr → Hp → Prop
  | [], [], H, a, H2 => H2 = upd H a (exo a C none)
  | [f], [v], H, a, H2 => ∃ dx, H dx = none ∧ dx ≠ a ∧ H2 = upd (upd H dx (exd dx [(f, v)])) a (exo a C (some dx))
  | [f, g], [v, u], H, a, H2 => ∃ dx, H dx = none ∧ dx ≠ a ∧ H2 = upd (upd H dx (exd dx [(g, u), (f, v)])) a (exo a C (some dx))
  | _, _, _, _, _ => False
theorem upd_over {H : Hp} {a : Addr} {o u : HO} : upd (upd H a o) a u = upd H a u := by
  funext b
  by_cases hb : b = a
  · rw [hb, upd_same, upd_same]
  · rw [upd_ne hb, upd_ne hb, upd_ne hb]
theorem upd_swap {H : Hp} {a b : Addr} {o u : HO} (h : a ≠ b) : upd (upd H a o) b u = upd (upd H b u) a o := by
  funext c
  by_cases hb : c = b
  · rw [hb, upd_same, upd_ne (Ne.symm h), upd_same]
  · by_cases ha : c = a
    · rw [ha, upd_ne h, upd_same, upd_same]
    · rw [upd_ne hb, upd_ne ha, upd_ne ha, upd_ne hb]
/-- the promise, from what is wanted behind -/
theorem KeepS.sp {C : Addr} {ns : List Str} {sp : Sp} (k : KeepS C ns sp) {vs : List V} {H : Hp} {a : Addr} {R : Hp → Prop} {E : XK} (hl : vs.length = ns.length) (hn : H a = none) (h : ∀ H2, Mad C ns vs H a H2 → R H2) : sp (.ref a :: vs) (upd H a (exo a C none)) (fun v H2 => v = .non ∧ R H2) E := by
  cases k with
  | zero =>
    match vs, hl with
    | [], _ => exact ⟨a, rfl, upd_same, rfl, h _ rfl⟩
  | one f =>
    match vs, hl with
    | [v], _ =>
      refine ⟨a, v, rfl, upd_same, fun dx hd hne => ⟨rfl, h _ ⟨dx, by rw [upd_ne hne] at hd; exact hd, hne, ?_⟩⟩⟩
      rw [upd_swap (Ne.symm hne), upd_over]
  | two f g =>
    match vs, hl with
    | [v, u], _ =>
      refine ⟨a, v, u, rfl, upd_same, fun dx hd hne => ⟨rfl, h _ ⟨dx, by rw [upd_ne hne] at hd; exact hd, hne, ?_⟩⟩⟩
      rw [upd_swap (Ne.symm hne), upd_over, upd_swap (Ne.symm hne), upd_over]
section
variable {X : Cx} {C : Addr} {fd : FuncData} {ps ns : List Str} {pins : List (Addr × Obj)} {σ : L2.St} {H1 : Hp} {s1 : Shared} {R : VK}
end
/-- the datum of an error -/
def erD (C : Addr) (ns : List Str) (ds : List D) : D := .err C ns.reverse ds.reverse
section
variable {X : Cx} {W : WX} {k : Nat} {N : List Str} {V : List Kd} {Gs ks : List Str} {C : Addr} {fd : FuncData} {ps ns : List Str} {ρ : Env'} {μ : List M} {ds : List D} {kws : List Keyword} {x : Str} {pp pos : Pos} {p : List Nat} {Q : KV} {Z : KX}
end
/-! ### such an error's field, its class -/
section
variable {X : Cx} {pins : List (Addr × Obj)} {σ : L2.St} {H : Hp} {s : Shared} {a C : Addr} {dx : Option Addr} {fs : List (Str × V)}
def rIsV (K : PySem.W.Frag) (C : Addr) : List V → Hp → VK → Prop := fun xs H Q => ∃ (a : Addr) (dx : Option Addr) (fs : List (Str × V)) (c : V) (u : Value) (b : Bool), xs = [.ref a, c] ∧ ClsV c u ∧ H a = some (exo a C dx) ∧ ErD H dx fs ∧ PySem.W.kitOne K (.ref C) u = some b ∧ Q (.bl b) H
end
theorem ErD.mono {G H : Hp} (hs : Same G H) {dx : Option Addr} {fs : List (Str × V)} (h : ErD G dx fs) : ErD H dx fs := by
  cases dx with
  | none => exact h
  | some d => exact hs _ _ h
section
variable {X : Cx} {W : WX} {C : Addr} {c : D} {b : Bool} {ns : List Str} {ds : List D} {ρ : Env'} {μ : List M} {e : Expr} {f : Str} {pos : Pos} {Q : KV} {Z : KX}
def tXv (K : PySem.W.Frag) (C : Addr) (f : Str) (te : TE) : TE := fun σ H Q => te σ H fun x H1 => ∃ (a dd : Addr) (fs : List (Str × V)) (v : V), x = .ref a ∧ H1 a = some (exo a C (some dd)) ∧ H1 dd = some (exd dd fs) ∧ fs.lookup f = some v ∧ Q v H1
end
end PM

set_option Elab.async false
set_option linter.all false
set_option maxRecDepth 100000
set_option maxHeartbeats 4000000
/-! repr of lists of tuples with own instances among the items -/
namespace PM
open PySem L2
section
variable {k : Nat} {A : Around}
theorem tup_room1 (r : Room (k + 1) A) (args : Args) : Room k (A.under (.builtin "tuple.__repr__" args)) :=
  ⟨by first | exact r.hd | (simpa [Around.under] using r.hd), by
    have e : (A.under (.builtin "tuple.__repr__" args)).depth ≤ A.depth + 1 := by
      first | exact Nat.le_succ _ | exact Nat.le_refl _ | simp [Around.under, Code.weight, Code.isCreation, Code.isGuard, Code.isCaller, Code.frames, Code.isFrame, guardIds]
    have := r.dp; omega, by have := r.un; rw [units_under_tuple_repr]; omega⟩
theorem tup_room2 (r : Room (k + 1) A) (args : Args) : Room k (A.under (.builtin "tuple.__repr__.under" args)) :=
  ⟨by first | exact r.hd | (simpa [Around.under] using r.hd), by
    have e : (A.under (.builtin "tuple.__repr__.under" args)).depth ≤ A.depth + 1 := by
      first | exact Nat.le_succ _ | exact Nat.le_refl _ | simp [Around.under, Code.weight, Code.isCreation, Code.isGuard, Code.isCaller, Code.frames, Code.isFrame, guardIds]
    have := r.dp; omega, by have := r.un; rw [units_under_tuple_repr_under]; omega⟩
theorem tup_env1 {P : Program} {w : World} {K : PySem.W.Frag} {mg : Str → Option Value} {base : Heap} {outer : List Env} {s : Shared} {H : Hp} (e : Env0 P w K mg base A outer s H) (args : Args) :
    Env0 P w K mg base (A.under (.builtin "tuple.__repr__" args)) outer s H := ⟨by first | exact e.frames | (simpa [Around.under, Code.envs, Code.isFrame, pushEnvs] using e.frames), e.mod, e.bs, e.bsz, e.funs, e.frf, e.hok, e.bare⟩
theorem tup_env2 {P : Program} {w : World} {K : PySem.W.Frag} {mg : Str → Option Value} {base : Heap} {outer : List Env} {s : Shared} {H : Hp} (e : Env0 P w K mg base A outer s H) (args : Args) :
    Env0 P w K mg base (A.under (.builtin "tuple.__repr__.under" args)) outer s H := ⟨by first | exact e.frames | (simpa [Around.under, Code.envs, Code.isFrame, pushEnvs] using e.frames), e.mod, e.bs, e.bsz, e.funs, e.frf, e.hok, e.bare⟩
end
section
variable {X : Cx} {W : WX} {k j n : Nat} {μ : List M} {ds : List D} {ts : List Str} {d : D} {t : Str}
/-- what a place must give for a text to be asked there -/
structure At_ (X : Cx) (j : Nat) (B : Around) : Prop where
  hr : Room j B
  gs : ∃ g, B.guards = some g
  env : ∀ {pins : List (Addr × Obj)} {σ : L2.St} {s : Shared} {H : Hp}, L2.Inv X pins σ H s → Env0 X.prog X.w X.K X.mg X.base B X.stack s H
/-- d tells t at B: from any later state -/
def Tell (X : Cx) (B : Around) (μ : List M) (L0 : List Addr) (G0 H0 : Hp) (d : D) (t : Str) : Prop :=
  ∀ (b : Nat) (pins : List (Addr × Obj)) (σ : L2.St) (s : Shared) (H : Hp) (L : List Addr) (G : Hp) (v : V) (u : Value) (R : Str → Shared → Prop), b + t.length ≤ sizeLine → L2.Inv X pins σ H s → Ok X.K L G H μ → Step L0 G0 H0 L G H → Rep X.K L G d v → RelV v u →
    (∀ s' H' L' G', L2.Inv X pins σ H' s' → Ok X.K L' G' H' μ → Step L G H L' G' H' → R t s') → wpAny (model X.prog X.w) B (pyReprUnder b u) R X.xe s
theorem Tell.step {B : Around} {L0 L1 : List Addr} {G0 H0 G1 H1 : Hp} (h : Tell X B μ L0 G0 H0 d t) (s : Step L0 G0 H0 L1 G1 H1) : Tell X B μ L1 G1 H1 d t :=
  fun b pins σ s' H L G v u R hb I ok st r rv fin => h b pins σ s' H L G v u R hb I ok (s.trans st) r rv fin
theorem tell_str {B : Around} {L0 : List Addr} {G0 H0 : Hp} {x : Str} (hz : (reprText x).length ≤ sizeLine) : Tell X B μ L0 G0 H0 (.str x) (reprText x) := fun b pins σ s H L G v u R hb I ok st r rv fin => by
  rw [rep_str.mp r] at rv
  obtain ⟨t, rfl⟩ := rv
  exact ReprIs.str x t hz b hb _ _ _ _ fun tk => fin _ H L G (I.tok tk) ok (.refl _ _ _)
inductive Tells (X : Cx) (B : Around) (μ : List M) (L0 : List Addr) (G0 H0 : Hp) : List D → List Str → Prop
  | nil : Tells X B μ L0 G0 H0 [] []
  | cons {d : D} {t : Str} {ds : List D} {ts : List Str} : Tell X B μ L0 G0 H0 d t → Tells X B μ L0 G0 H0 ds ts → Tells X B μ L0 G0 H0 (d :: ds) (t :: ts)
theorem Tells.len {B : Around} {L0 : List Addr} {G0 H0 : Hp} {ds : List D} {ts : List Str} (h : Tells X B μ L0 G0 H0 ds ts) : ts.length = ds.length := by
  induction h with
  | nil => rfl
  | cons _ _ ih => simp [ih]
theorem Tells.get {B : Around} {L0 : List Addr} {G0 H0 : Hp} {ds : List D} {ts : List Str} (h : Tells X B μ L0 G0 H0 ds ts) : ∀ (i : Nat) (d : D), ds[i]? = some d → ∃ t, ts[i]? = some t ∧ Tell X B μ L0 G0 H0 d t := by
  induction h with
  | nil => intro i d e; simp at e
  | cons h1 _ ih =>
    intro i d e
    cases i with
    | zero => simp at e; subst e; exact ⟨_, rfl, h1⟩
    | succ i => simpa using ih i d (by simpa using e)
/-- the items of a tuple, one by one -/
theorem tup_fold {B : Around} {pins : List (Addr × Obj)} {σ : L2.St} {L0 : List Addr} {G0 H0 : Hp} {R : (Array Str × Nat) → Shared → Prop} {ds : List D} {ts : List Str} (h : Tells X B μ L0 G0 H0 ds ts) : ∀ (us : List Value) (vs : List V) (acc : Array Str) (n : Nat) (s : Shared) (H : Hp) (L : List Addr) (G : Hp), n + piled ts ≤ sizeLine → L2.Inv X pins σ H s → Ok X.K L G H μ → Step L0 G0 H0 L G H → Reps X.K L G ds vs → Vals vs us →
    (∀ s' H' L' G', L2.Inv X pins σ H' s' → Ok X.K L' G' H' μ → Step L G H L' G' H' → R ⟨acc ++ ts.toArray, n + piled ts⟩ s') → wpAny (model X.prog X.w) B (forIn us (⟨acc, n⟩ : (Array Str × Nat)) tupBody) R X.xe s := by
  induction h with
  | nil =>
    intro us vs acc n s H L G _ I ok st rr rv fin
    rw [rr.inv_nil] at rv
    cases rv
    have h0 := fin s H L G I ok (.refl _ _ _)
    simp only [List.forIn_nil]
    exact wpAny_pure (by simpa [piled] using h0)
  | @cons d t ds ts h1 h2 ih =>
    intro us vs acc n s H L G hn I ok st rr rv fin
    obtain ⟨v, vs', rfl, r1, r2⟩ := rr.inv_cons
    cases rv with
    | @cons _ u _ us' rv1 rv2 =>
    rw [piled_cons] at hn
    rw [List.forIn_cons]
    refine wpAny_bind (wpAny_bind (h1 (n + 1) pins σ s H L G v u _ (by omega) I ok st r1 rv1 fun s1 H1 L1 G1 I1 o1 s1' => wpAny_pure ?_))
    refine ih us' vs' (acc.push t) (n + (t.length + 2)) s1 H1 L1 G1 (by omega) I1 o1 (st.trans s1') (r2.step s1') rv2 fun s' H' L' G' I' o' s2 => ?_
    have h1 := fin s' H' L' G' I' o' (s1'.trans s2)
    have e : n + piled (t :: ts) = n + (t.length + 2) + piled ts := by rw [piled_cons]; omega
    rw [e] at h1
    simpa using h1
/-- a tuple's text, its items told within -/
theorem own_tup {id : String} {rest : List Value} {B : Around} {g : List Code} {a : Addr} {b : Nat} {pins : List (Addr × Obj)} {σ : L2.St} {s : Shared} {H : Hp} {L : List Addr} {G : Hp} {R : Result → Shared → Prop} (hcg : (Code.builtin id ⟨.ref a :: rest, []⟩).isGuard = true)
    (h : Tells X (B.under (.builtin id ⟨.ref a :: rest, []⟩)) μ L G H ds ts) (hg : B.guards = some g) (hcl : Clear g a) (I : L2.Inv X pins σ H s) (ok : Ok X.K L G H μ) (r : Rep X.K L G (.tup ds) (.ref a)) (hsz : b + (tupleText ts).length ≤ sizeLine)
    (fin : ∀ s' H' L' G' u, L2.Inv X pins σ H' s' → Ok X.K L' G' H' μ → Step L G H L' G' H' → R (.ok (.ret (.str (tupleText ts) u))) s') (err : ∀ e s', X.xe e s' → R (.error e) s') :
    wpOwn (model X.prog X.w) B (.builtin id ⟨.ref a :: rest, []⟩) (Builtin.tupleReprAt b ⟨[.ref a], []⟩) (fun f s' => match f with | .done f => R (.ok f) s' | .again c' => c'.quiet = true ∧ codeAny (model X.prog X.w) B c' R s') (fun e s' => R (.error e) s') s := by
  obtain ⟨a', vs, ea, hq, rr⟩ := rep_tup.mp r
  cases ea
  obtain ⟨its, rv, ⟨o, ho, hc, n, hd⟩, _⟩ := I.tuple (Same.sqT ok.sub hq)
  have hlen : ts.length = its.toArray.size := by simp [h.len, ← rv.length, rr.length]
  have hp := piled_le_tupleText ts
  rw [tuple_repr_tree, tupleReprUnderWay_eq]
  refine wpOwn_bind (wpOwn_stackTailAny hg (tupGuardF_off _) (tupGuardF_pos _) ?_)
  have hn : (g.any fun c => tupGuardF (.ref a) (c, default)) = false := by
    rw [List.any_eq_false]
    intro c hcm
    rw [tupGuardF_of_clear hcl c hcm]
    exact Bool.false_ne_true
  rw [hn]
  refine wpOwn_of_wpAny ?_
  show wpAny _ _ (tupleReprRest b (.ref a)) _ _ s
  unfold tupleReprRest Builtin.Tuple.tupleItemsOf
  refine wpAny_bind (wpAny_bind (wpAny_seqItems ho hd (wpAny_pure ?_)))
  rw [← Array.forIn_toList]
  refine wpAny_bind (wpAny_mono (tup_fold (R := fun r s' => r = ⟨#[] ++ ts.toArray, b + piled ts⟩ ∧ ∃ H' L' G', L2.Inv X pins σ H' s' ∧ Ok X.K L' G' H' μ ∧ Step L G H L' G' H') h its vs #[] b s H L G (by omega) I ok (.refl _ _ _) rr rv fun s' H' L' G' I' o' s1 => ⟨rfl, H', L', G', I', o', s1⟩) (fun r s' hr => ?_) fun e s' he => err e s' he)
  obtain ⟨rfl, H', L', G', I', o', s1⟩ := hr
  refine wpAny_bind (wpAny_mkStr (wpAny_pure ?_) (by simpa [tupleText, hlen] using (show (tupleText ts).length ≤ sizeLine by omega)))
  have h1 := fin _ H' L' G' (s'.toks) (I'.tok (s'.toks + 1)) o' s1
  simpa [tupleText, hlen] using h1
/-- a tuple within a text that is being made -/
theorem tell_tup {B : Around} {L0 : List Addr} {G0 H0 : Hp} (at_ : At_ X (j + 1) B)
    (hcl : ∀ g, B.guards = some g → ∀ {pins : List (Addr × Obj)} {σ : L2.St} {s : Shared} {H : Hp} {L : List Addr} {G : Hp} {a : Addr}, L2.Inv X pins σ H s → Ok X.K L G H μ → Step L0 G0 H0 L G H → Rep X.K L G (.tup ds) (.ref a) → Clear g a)
    (h : ∀ (a : Addr) (rest : List Value) {L : List Addr} {G H : Hp} {pins : List (Addr × Obj)} {σ : L2.St} {s : Shared}, L2.Inv X pins σ H s → Ok X.K L G H μ → Step L0 G0 H0 L G H → Rep X.K L G (.tup ds) (.ref a) → Tells X (B.under (.builtin "tuple.__repr__.under" ⟨.ref a :: rest, []⟩)) μ L G H ds ts) : Tell X B μ L0 G0 H0 (.tup ds) (tupleText ts) := fun b pins σ s H L G v u R hb I ok st r rv fin => by
  obtain ⟨a, vs, rfl, hq, rr⟩ := rep_tup.mp r
  cases rv
  obtain ⟨g, hg⟩ := at_.gs
  obtain ⟨its, rvs, ⟨o, ho, hc, n, hd⟩, _⟩ := I.tuple (Same.sqT ok.sub hq)
  have un := at_.hr.un
  refine wpAny_pyReprUnder_ref (by omega) (wpAny_pyReprObjUnder_twin (twin := "tuple.__repr__.under") ⟨o, ho, hc⟩ F.slot_tuple_repr rfl (by omega) ?_)
  refine call_twin_own (F.quiet_tuple_repr_under _) F.entry_tuple_repr_under F.check_tuple_repr_under ⟨o, ho, hc⟩ F.slot_tuple_repr (F.args_tuple_repr_1 _) ?_
  exact own_tup (R := callEnd _ _) (isGuard_tuple_repr_under _) (h a _ I ok st r) hg (hcl g hg I ok st r) I ok r hb (fun s' H' L' G' u I' o' s1 => ⟨⟨_, _, rfl⟩, _, _, rfl, fin s' H' L' G' I' o' s1⟩) fun e s' he => he
end
end PM

set_option Elab.async false
set_option linter.all false
set_option maxRecDepth 100000
set_option maxHeartbeats 4000000
namespace PM
open PySem L2
section
variable {X : Cx} {W : WX} {k : Nat} {N : List Str} {V V' : List Kd} {Gs Gs' : List Str} {ρ ρ' : Env'} {μ μ1 μ2 : List M} {e elt tg iter c : Expr} {es ifs : List Expr} {Q : KV} {Z : KX} {d : D} {ds : List D} {pos : Pos} {x : Str} {scope : Scope} {own : List (Str × Nat)} {vs : List Nat} {nx : Env' → Prop}
end
end PM

set_option Elab.async false
set_option linter.all false
set_option maxRecDepth 100000
set_option maxHeartbeats 4000000
/-! great integers as texts: where the limit of digits is known -/
namespace PySem.W
open PySem PySem.Calls PySem.NumText PyProof.Rows
namespace KIN
theorem wp_textD {M : Model} {A : Around} {E : Value → Shared → Prop} {s : Shared} {Q : Value → Shared → Prop} {v : Value} {text : List Nat} {n : Int} (hD : s.heap.NoDigits)
    (hs : ¬ (text.takeWhile (· != 0)).length ≤ 640) (hr : (int_private% "readNumeral") 4300 10 (text.takeWhile (· != 0)) = (int_private% "Numeral.value") n)
    (ha : ((text.takeWhile (· != 0)).length == text.length) = true) (h : Q (.int n s.toks) { s with toks := s.toks + 1 }) :
    wpAny M A ((int_private% "intFromText") v text 10) Q E s := by
  obtain ⟨mc, hns, hnone⟩ := hD
  obtain ⟨hp, g, d, tk, os⟩ := s
  repeat (any_goals (first
    | assumption
    | (with_reducible refine wpAny_ite_false (decide_eq_false hs) ?_)
    | (with_reducible refine wpAny_ite_true (decide_eq_true ha) ?_)
    | ((with_reducible show wpAny _ _ Builtin.intMaxStrDigits _ _ _); unfold Builtin.intMaxStrDigits)
    | (with_reducible refine wpAny_nsGet hns ?_)
    | rw [hnone]
    | wp_step))
  all_goals (try rw [hr])
  all_goals (try dsimp only)
  repeat (any_goals (first
    | assumption
    | (with_reducible refine wpAny_ite_true (decide_eq_true ha) ?_)
    | (with_reducible refine wpAny_ite_true ha ?_)
    | wp_step))
/-- int(text), whatever its length -/
theorem meets_text {x : PySem.Str} {u : Tok} {n : Int} (hl : x.length ≤ sizeLine) (hn : PySem.intText? x = some n) :
    Meets (Builtin.«int.__new__» ⟨[.type "int", .str x u], []⟩) (fun A R s => s.heap.NoDigits ∧ R (.ok (.ret (.int n s.toks))) { s with toks := s.toks + 1 }) := by
  by_cases h640 : (numSeenOf x).length ≤ 640
  · have hr : (int_private% "readNumeral") 0 10 (numSeenOf x) = (int_private% "Numeral.value") n ∧ ((numSeenOf x).length == (numTextOf x).length) = true := by
      rcases read0 x h640 with ⟨m, h1, h2, h3⟩ | ⟨h1, _⟩
      · rw [hn] at h1
        injection h1 with h1
        subst h1
        exact ⟨h3, h2⟩
      · rw [hn] at h1
        cases h1
    have hk := Hid.mk (And.intro h640 hr)
    clear h640 hr hl hn
    intro prog w A R s ⟨_, h⟩
    obtain ⟨hp, g, d, tk, os⟩ := s
    have f1 := F.conv_sub_int
    have f2 := F.madeHere_int
    have f3 := str_int
    have f4 := str_idx
    have f5 := str_trunc
    have f6 : typeOf (.str x u) = pure (.type "str") := rfl
    repeat (any_goals (first
      | assumption
      | ((with_reducible show wpAny _ _ ((int_private% "intFromText") _ _ _) _ _ _); refine wp_text hk.out.1 hk.out.2.1 hk.out.2.2 ?_)
      | wp_step))
  · have hr : (int_private% "readNumeral") 4300 10 (numSeenOf x) = (int_private% "Numeral.value") n ∧ ((numSeenOf x).length == (numTextOf x).length) = true := by
      rcases read4300 x hl with ⟨m, h1, h2, h3⟩ | ⟨h1, _⟩
      · rw [hn] at h1
        injection h1 with h1
        subst h1
        exact ⟨h3, h2⟩
      · rw [hn] at h1
        cases h1
    have hk := Hid.mk (And.intro h640 hr)
    clear h640 hr hl hn
    intro prog w A R s ⟨hD, h⟩
    obtain ⟨hp, g, d, tk, os⟩ := s
    have f1 := F.conv_sub_int
    have f2 := F.madeHere_int
    have f3 := str_int
    have f4 := str_idx
    have f5 := str_trunc
    have f6 : typeOf (.str x u) = pure (.type "str") := rfl
    repeat (any_goals (first
      | assumption
      | ((with_reducible show wpAny _ _ ((int_private% "intFromText") _ _ _) _ _ _); refine wp_textD hD hk.out.1 hk.out.2.1 hk.out.2.2 ?_)
      | wp_step))
section
variable {prog : Program} {w : World} {A : Around} {E : Value → Shared → Prop} {s : Shared} {Q : Value → Shared → Prop} {x : PySem.Str} {t : Tok} {n : Int}
theorem call_textD (hD : s.heap.NoDigits) (hn : PySem.intText? x = some n) (hl : x.length ≤ sizeLine) (h : Q (.int n s.toks) { s with toks := s.toks + 1 }) : wpAny (model prog w) A (call (.type "int") [.str x t]) Q E s :=
  call_int_1 (meets_text hl hn) ⟨hD, typeIs_int _ _ _, h⟩
end
end KIN
end PySem.W

set_option Elab.async false
set_option linter.all false
set_option maxRecDepth 100000
set_option maxHeartbeats 4000000
/-! int(text), str(int), {int}, repr of great integers, where the base tells that the limit of digits stands -/
namespace PM
open PySem L2 PyProof.Rows
theorem digD {X : Cx} (hD : X.base.NoDigits) {pins : List (Addr × Obj)} {σ : L2.St} {H : Hp} {s : Shared} (I : L2.Inv X pins σ H s) : s.heap.NoDigits := hD.keeps I.bk
section
variable {X : Cx}
theorem call_intD (hD : X.base.NoDigits) : CallR X (.type "int") (fun xs H Q => ∃ a n, xs = [.str a] ∧ PySem.intText? a = some n ∧ a.length ≤ sizeLine ∧ Q (.int n) H) := by
  intro pins s σ H xs us Q I rs h
  obtain ⟨a, n, rfl, hn, hl, h⟩ := h
  cases rs with
  | cons r1 rs =>
    cases rs
    obtain ⟨t, rfl⟩ := r1
    exact PySem.W.KIN.call_textD (digD hD I) hn hl ⟨.int n, H, I.tok _, ⟨_, rfl⟩, h⟩
theorem call_strD (hD : X.base.NoDigits) (hc : X.calm = true) : CallR X (.type "str") (fun xs H Q => ∃ i : Int, xs = [.int i] ∧ i.natAbs < 10 ^ 4300 ∧ Q (.str (toString i)) H) := by
  intro pins s σ H xs us Q I rs h
  obtain ⟨i, rfl, hi, h⟩ := h
  cases rs with
  | cons r1 rs =>
    cases rs
    obtain ⟨t, rfl⟩ := r1
    exact str_of_int_or (I.ok.hd hc) (digD hD I) (fun _ => ⟨.str (toString i), H, I.tok _, ⟨_, rfl⟩, h⟩) fun hge => absurd hi (Nat.not_lt.mpr hge)
def tFmtD (te : TE) : TE := fun σ H Q => te σ H fun x H1 => ∃ i : Int, x = .int i ∧ i.natAbs < 10 ^ 4300 ∧ Q (.str (toString i)) H1
theorem pe_fmtD (hD : X.base.NoDigits) (hc : X.calm = true) {e : Expr} {te : TE} {pos : Pos} (he : PE X e te) : PE X (.FormattedValue e (-1) none pos) (tFmtD te) := by
  refine ⟨fun pins s σ H Q I h => ?_⟩
  refine wpAny_FormattedValue_plain (thn (he.run pins s σ H _ I h) fun v s1 hv => ?_)
  obtain ⟨x, H1, I1, r1, i, rfl, hz, q⟩ := hv
  obtain ⟨t, rfl⟩ := r1
  exact PyProof.Rows.formatField_int (I1.ok.hd hc) (digD hD I1) (fun _ => ⟨.str (toString i), H1, I1.tok _, ⟨_, rfl⟩, q⟩) fun hge => absurd hz (Nat.not_lt.mpr hge)
end
section
variable {prog : Program} {w : World} {A : Around} {E : Value → Shared → Prop} {s : Shared} {a : Int} {t : Tok}
/-- repr of an int as an object -/
theorem reprObj_intD {Q : Value → Shared → Prop} (hh : A.handled = none) (hn : s.heap.NoDigits) (ha : a.natAbs < 10 ^ 4300) (h : Q (.str (toString a) s.toks) { s with toks := s.toks + 1 }) : wpAny (model prog w) A (pyReprObj (.int a t)) Q E s := by
  unfold pyReprObj
  try (have hv : [Value.int a t].any Value.onHeap = false := rfl; simp only [cRoomFor, hv, Bool.false_eq_true, if_false, pure_bind])
  refine wpAny_bind (wpAny_specialOf (name := Str.ofString "__repr__") (typeIs_int s a t) F.slot_int_repr.lookup ?_)
  refine wpAny_bind (m := callSpecialIfBound? (.int a t) (Str.ofString "__repr__")) (wpAny_callSpecialIfBound?_slot (name := Str.ofString "__repr__") (typeIs_int s a t) F.slot_int_repr
    (call_int_repr_or hh hn (fun hlt => ?_) fun hge => absurd ha (Nat.not_lt.mpr hge)))
  exact wpAny_bind (wpAny_isInstance (T := "str") (b := true) rfl isSubtype_str_str (wpAny_pure h))
end
section
variable {X : Cx} {W : WX} {k : Nat} {ρ : Env'} {μ : List M} {e : Expr} {pos : Pos} {Q : KV} {Z : KX} {x : Str} {i : Int}
theorem wF_intD (hD : X.base.NoDigits) (hn : PySem.intText? x = some i) (hl : x.length ≤ sizeLine) (h : Q (.int i) μ) : wF X W (fun us => call (.type "int") us) [.str x] μ Q Z :=
  .ofV (callO_of (call_intD hD) fun σ xs H Q L G o r co => by
    obtain ⟨v, rfl, r1⟩ := r.one
    exact ⟨x, i, by rw [rep_str.mp r1], hn, hl, CO.now (W := W0) (σ := σ) co o (rep_int.mpr rfl)⟩) h
theorem wF_strD (hD : X.base.NoDigits) (g : Gd X W k) (hi : i.natAbs < 10 ^ 4300) (h : Q (.str (toString i)) μ) : wF X W (fun us => call (.type "str") us) [.int i] μ Q Z :=
  .ofV (callO_of (call_strD hD g.calm) fun σ xs H Q L G o r co => by
    obtain ⟨v, rfl, r1⟩ := r.one
    exact ⟨i, by rw [rep_int.mp r1], hi, CO.now (W := W0) (σ := σ) co o (rep_str.mpr rfl)⟩) h
theorem wE_fmtD (hD : X.base.NoDigits) (g : Gd X W k) (h : wE X W ρ μ e (fun d μ1 => ∃ i : Int, d = .int i ∧ i.natAbs < 10 ^ 4300 ∧ Q (.str (toString i)) μ1) Z) : wE X W ρ μ (.FormattedValue e (-1) none pos) Q Z :=
  ⟨pe_of (pe_fmtD hD g.calm h.run) fun σ H R ⟨L, G, n, v, x⟩ => ⟨L, G, n, fun d μ1 ⟨i, ed, hz, q⟩ u L1 G1 H1 s1 o1 r1 => by
    subst ed
    exact ⟨i, rep_int.mp r1, hz, v _ _ q _ L1 G1 H1 s1 o1 (rep_str.mpr rfl)⟩, x⟩⟩
end
section
variable {X : Cx} {j n k : Nat} {μ : List M} {ds : List D} {ts : List Str} {d : D}
/-- a great integer in a text that is being made -/
theorem tell_intD {B : Around} {L0 : List Addr} {G0 H0 : Hp} {i : Int} (hD : X.base.NoDigits) (a : At_ X j B) (hi : i.natAbs < 10 ^ 4300) : Tell X B μ L0 G0 H0 (.int i) (toString i) := fun b pins σ s H L G v u R hb I ok st r rv fin => by
  rw [rep_int.mp r] at rv
  obtain ⟨t, rfl⟩ := rv
  rw [pyReprUnder_leaf (v := .int i t) (by omega) (fun _ e => nomatch e)]
  unfold pyRepr
  exact wpAny_bind (reprObj_intD a.hr.hd (digD hD I) hi (wpAny_pure (fin _ H L G (I.tok _) ok (.refl _ _ _))))
theorem At_.tup {B : Around} (a : At_ X (j + 1) B) (args : Args) : At_ X j (B.under (.builtin "tuple.__repr__" args)) := by
  obtain ⟨g, hg⟩ := a.gs
  exact ⟨tup_room1 a.hr args, ⟨_, guards_under_guard (isGuard_tuple_repr args) hg⟩, fun I => tup_env1 (a.env I) args⟩
/-- repr(a tuple) -/
theorem cb_reprU (g : Gd X W0 k) (htl : ∀ (B : Around) (L : List Addr) (G H : Hp) (a : Addr) (rest : List Value) {pins : List (Addr × Obj)} {σ : L2.St} {s : Shared}, L2.Inv X pins σ H s → Ok X.K L G H μ → Rep X.K L G (.tup ds) (.ref a) → B.guards = some [] → At_ X j (B.under (.builtin "tuple.__repr__" ⟨.ref a :: rest, []⟩)) → Tells X (B.under (.builtin "tuple.__repr__" ⟨.ref a :: rest, []⟩)) μ L G H ds ts) (hsz : (tupleText ts).length ≤ sizeLine) (hj : j + 3 ≤ k) (hk : 60 ≤ k) :
    CallO X W0 (fun us => call (.builtin "repr") us) [.tup ds] μ (.ret (.str (tupleText ts)) μ) := by
  intro pins s σ H xs us Q L G I rx ok r co
  obtain ⟨v, rfl, r1⟩ := r.one
  obtain ⟨u, rfl, ru⟩ := rx.one
  obtain ⟨a, vs, rfl, q, rr⟩ := rep_tup.mp r1
  cases ru
  obtain ⟨its, rv, ⟨o, ho, hc, m, hd⟩, _⟩ := I.tuple (Same.sqT ok.sub q)
  have hr := g.hr.mono hj
  have gr0 := g.gr.none hk
  refine call_repr_slot (by have := hr.un; omega) ⟨o, ho, hc⟩ F.slot_tuple_repr ?_
  have hB : Room (j + 1) X.A.in1 := (hr.mono (by omega)).in1
  have aB : At_ X (j + 1) X.A.in1 := ⟨hB, ⟨_, gr0⟩, fun I' => I'.env0.in1⟩
  refine wpAny_call (codeAny_call_builtin_own (Code.quiet_builtin _ (by decide +kernel)) F.entry_tuple_repr (F.slot_tuple_repr.check _ _ _ _ _ _ _ _ ⟨o, ho, hc⟩ (F.args_tuple_repr_1 _) ?_))
  refine own_tup (R := callEnd _ _) (b := 0) (g := []) (isGuard_tuple_repr _) (htl X.A.in1 L G H a _ I ok r1 gr0 (aB.tup _)) gr0 (fun _ _ _ _ z => nomatch z) I ok r1 (by omega) (fun s' H' L' G' u I' ok' st' => ?_) fun e s' he => he
  exact ⟨_, _, rfl, .str (tupleText ts), H', I', ⟨u, rfl⟩, co (.str (tupleText ts)) L' G' H' st' ok' (rep_str.mpr rfl)⟩
end
end PM

set_option Elab.async false
set_option linter.all false
set_option maxRecDepth 100000
set_option maxHeartbeats 2000000
/-! the law's own call, where the base also tells that no limit of digits was set -/
namespace PM
open PySem L2
section
variable {P : Program} {w : World} {K : PySem.W.Frag} {mg mb : Str → Option Value} {k : Nat} {fa a : Addr} {fd : FuncData} {x : Str} {s1 : Shared} {vs : List Value} {ns : List Int} {good : List Int → Prop}
/-- one heap that tells of the script at most -/
theorem law_oneN (kin : K.In s1.heap) (gl : s1.heap.Ns mainGlobals mg) (bl : s1.heap.Ns builtinsNs mb) (bb : ∀ x : Str, x ≠ "__name__" → mb x = bootBuiltins x) (lim : s1.heap.NoLimit) (digs : s1.heap.NoDigits) (gens : s1.gens = #[])
    (scr : s1.heap.get? a = some { cls := .type "list", data := .seq vs.toArray }) (room : Room k callerA) (F : ∀ base : Heap, K.In base → base.Ns mainGlobals mg → base.NoDigits → FnG P w K mg base k fa fd [x] (spR K (RLaw good)))
    (bnd : ∀ (s : Shared) (u : Value), BindsTo s fd ⟨[u], []⟩ [(x, u)]) (hgood : good ns) (H : Hp) (only : Only H) (sq : SqL K H a (ns.map V.int)) (hok : HOk P w H s1.heap) (hA : ∀ b, H b ≠ none → b = a) (hK : H a ≠ none → K.lookup a = none) :
    codeAny (model P w) callerA (.call (.ref fa) ⟨[.ref a], []⟩) (fun r s' => r = .ok (.ret (.bool true)) ∧ OldK s1.heap s'.heap ∧ s'.os = s1.os ∧ PyProof.Rows.AllBare s'.gens) s1 := by
  have hidden : ∀ {b : Addr} {o : Obj}, s1.heap.get? b = some o → H b = none → (hidT s1.heap H).get? b = some o := fun e n => hidT_get e n
  have isA : ∀ {b : Addr} {u : HO}, H b = some u → b = a := fun {b u} q => hA b fun z => by rw [z] at q; cases q
  have dictFree : ∀ {b : Addr} {o : Obj} {es : Array DictEntry} {ep : Nat}, s1.heap.get? b = some o → o.data = .dict es ep → H b = none := by
    intro b o es ep e d
    cases q : H b with
    | none => rfl
    | some u =>
      obtain rfl := isA q
      rw [scr] at e
      cases e
      cases (show Data.seq vs.toArray _ = Data.dict es ep from d)
  have names : ∀ {b : Addr} {m : Str → Option Value}, s1.heap.Ns b m → (hidT s1.heap H).Ns b m := fun {b m} ⟨o, es, ep, e, d, r⟩ => ⟨o, es, ep, hidden e (dictFree e d), d, r⟩
  have kin0 : K.In (hidT s1.heap H) := by
    intro b o e
    refine hidden (kin b o e) ?_
    cases q : H b with
    | none => rfl
    | some u =>
      obtain rfl := isA q
      rw [hK (by rw [q]; intro z; cases z)] at e
      cases e
  obtain ⟨mc, lim1, lim2⟩ := lim
  have digs0 : (hidT s1.heap H).NoDigits := let ⟨mc, h1, h2⟩ := digs; ⟨mc, names h1, h2⟩
  have en : Env0 P w K mg (hidT s1.heap H) callerA [] s1 H := ⟨rfl, ⟨kin0, names gl, ⟨mb, names bl, bb⟩, ⟨mc, names lim1, lim2⟩⟩, fun b o e => of_hidT e, Nat.le_of_eq (hidT_size _ _), trivial, fun b hb => absurd (show b ∈ ([] : List Addr) from hb) (by simp), hok, .of_eq gens⟩
  have said : spR K (RLaw good) [.ref a] H (fun v _ => v = .bl true) (fun _ _ _ => False) := by
    refine ⟨[], H, [.scr (ns.map D.int)], [], .ret (.bl true) [], ⟨fun _ _ e => e, rfl, List.nodup_nil, fun b hb => absurd hb (by simp), fun b hb => absurd hb (by simp), fun n b m e => by simp at e⟩, Reps.cons (rep_scr.mpr ⟨a, _, rfl, sq, ints_reps ns⟩) Reps.nil, ⟨ns, hgood, rfl, rfl, rfl⟩, fun v L' G' H' _ _ r => rep_bl.mp r⟩
  refine codeAny_mono ((F _ kin0 (names gl) digs0).run callerA [] s1 H ⟨[.ref a], []⟩ [.ref a] [.ref a] _ _ room (Gr.of rfl) en (bnd s1 (.ref a)) (.cons rfl .nil) said) fun r s' h => ?_
  match r, h with
  | .error e, ⟨_, _, _, _, _, _, _, _, _, _, _, _, z⟩ => exact z.elim
  | .ok .next, h => exact False.elim h
  | .ok .brk, h => exact False.elim h
  | .ok .cont, h => exact False.elim h
  | .ok (.ret u), ⟨v, H', os, bare, un, hok', ru, q⟩ =>
    have ev : v = .bl true := q
    subst ev
    obtain rfl : u = Value.bool true := ru
    refine ⟨rfl, OldK.of_keep fun b o e => ?_, os, bare⟩
    cases q : H b with
    | none => exact un.keep b o e q (by intro z; exact absurd (show b ∈ ([] : List Addr) from z) (by simp)) (by simp)
    | some u =>
      rcases only b with z | ⟨ob, xs, z⟩
      · rw [q] at z; cases z
      · have before := (hok b _ z).1
        have behind := (hok' b _ (un.frzs b ob _ z)).1
        rw [e] at before
        cases before
        exact behind
theorem law_callN (kin : K.In s1.heap) (gl : s1.heap.Ns mainGlobals mg) (bl : s1.heap.Ns builtinsNs mb) (bb : ∀ x : Str, x ≠ "__name__" → mb x = bootBuiltins x) (lim : s1.heap.NoLimit) (digs : s1.heap.NoDigits) (gens : s1.gens = #[])
    (scr : s1.heap.get? a = some { cls := .type "list", data := .seq vs.toArray }) (isI : PyProof.Rows.IntsAre vs ns) (hl : ns.length ≤ sizeLine) (room : Room k callerA) (F : ∀ base : Heap, K.In base → base.Ns mainGlobals mg → base.NoDigits → FnG P w K mg base k fa fd [x] (spR K (RLaw good)))
    (bnd : ∀ (s : Shared) (u : Value), BindsTo s fd ⟨[u], []⟩ [(x, u)]) (hgood : good ns) :
    codeAny (model P w) callerA (.call (.ref fa) ⟨[.ref a], []⟩) (fun r s' => r = .ok (.ret (.bool true)) ∧ OldK s1.heap s'.heap ∧ s'.os = s1.os ∧ PyProof.Rows.AllBare s'.gens) s1 := by
  have rel := vals_ints isI
  cases hk : K.lookup a with
  | some o =>
    have e := kin a o hk
    rw [scr] at e
    cases e
    exact law_oneN kin gl bl bb lim digs gens scr room F bnd hgood (fun _ => none) (fun _ => .inl rfl) (.inr ⟨_, vs.toArray, _, hk, rfl, rfl, rfl, by rw [List.size_toArray, isI.length]; exact hl, by simpa using rel⟩)
      (fun b u z => nomatch z) (fun b z => absurd rfl z) (fun z => absurd rfl z)
  | none =>
    refine law_oneN kin gl bl bb lim digs gens scr room F bnd hgood (upd (fun _ => none) a (.frz { cls := .type "list", data := .seq vs.toArray } (.lst (ns.map V.int)))) (fun b => ?_) (.inl (.inr ⟨_, upd_same⟩)) (fun b u z => ?_) (fun b z => ?_) (fun _ => hk)
    · by_cases hb : b = a
      · rw [hb, upd_same]
        exact .inr ⟨_, _, rfl⟩
      · exact .inl (upd_ne hb)
    · by_cases hb : b = a
      · subst hb
        rw [upd_same] at z
        cases z
        exact ⟨scr, by rw [List.length_map]; exact hl, vs, _, rel, scr⟩
      · rw [upd_ne hb] at z
        cases z
    · by_cases hb : b = a
      · exact hb
      · exact absurd (upd_ne hb) z
end
theorem walkN {l : PySem.W.OpenLaw} {k : Nat} {q : Program} {loose : List Str} {XP : (Str → Option Value) → Heap → Prop} {YP : World → Heap → Prop} {d : DefRec} {K : Params → PySem.W.Frag} {x : Str}
    (hn : l.most = some 63) (hdf : d.params.defaults = []) (room : Room k callerA) (hY : ∀ (w : World) (h : Heap), YP w h → (K w.params).In h)
    (F : ∀ (w : World) (mg : Str → Option Value) (fa : Addr) (h : Heap), (K w.params).In h → h.Ns mainGlobals mg → mg d.name = some (.ref fa) →
      ∃ fd : FuncData, (∀ (s : Shared) (u : Value), BindsTo s fd ⟨[u], []⟩ [(x, u)]) ∧ ∀ base : Heap, (K w.params).In base → base.Ns mainGlobals mg → base.NoDigits → FnG l.prog w (K w.params) mg base k fa fd [x] (spR (K w.params) (RLaw Scr))) :
    PySem.W.WalkO q loose XP YP l.row.toRowW d [] (fun f vs => PySem.call f vs) := by
  refine Att.attach_callB hn hdf fun w s0 s1 mg mb fa o pm cd doc a vs ns G Y ho hd hcd hmg hobj hints hlen hbits hg => ?_
  have kin := hY w _ Y
  obtain ⟨fd, hb, hF⟩ := F w mg fa _ kin G.T.g hmg
  exact law_callN kin G.T.g G.T.b G.T.builtins G.T.nolimit G.T.nodigits hg hobj hints (Nat.le_trans hlen (by decide)) room hF hb ⟨hlen, hbits⟩
end PM

set_option Elab.async false
set_option linter.all false
set_option maxRecDepth 100000
set_option maxHeartbeats 4000000
/-! texts: x[:i], x * n, sign not in x; None in a list of numbers; repr of two kinds of tuples -/
namespace PM
open PySem L2 PyProof.Rows
/-- x * n -/
def rptS (x : Str) (n : Nat) : Str := if n < 1 then Str.empty else if (n == 1 || x.length == 0) = true then x else ⟨(List.replicate n x.cps).foldl (· ++ ·) #[]⟩
theorem fold_size (a : Array Nat) : ∀ (n : Nat) (z : Array Nat), ((List.replicate n a).foldl (· ++ ·) z).size = z.size + a.size * n
  | 0, z => by simp
  | n + 1, z => by
    rw [List.replicate_succ, List.foldl_cons, fold_size a n, Array.size_append, Nat.mul_succ]
    omega
theorem rptS_len (x : Str) (n : Nat) : (rptS x n).length = x.length * n := by
  unfold rptS
  by_cases h1 : n < 1
  · rw [if_pos h1, show n = 0 by omega]; rfl
  · rw [if_neg h1]
    by_cases h2 : (n == 1 || x.length == 0) = true
    · rw [if_pos h2]
      rw [Bool.or_eq_true, beq_iff_eq, beq_iff_eq] at h2
      rcases h2 with h2 | h2
      · rw [h2, Nat.mul_one]
      · rw [h2, Nat.zero_mul]
    · rw [if_neg h2]
      show ((List.replicate n x.cps).foldl (· ++ ·) #[]).size = _
      rw [fold_size]
      show 0 + x.cps.size * n = x.cps.size * n
      omega
theorem op_mulS {X : Cx} : OpR X (binaryOp .Mult) (fun x y H Q => ∃ (a : Str) (n : Nat), x = .str a ∧ y = .int (n : Nat) ∧ n ≤ 100000 ∧ a.length ≤ 100 ∧ Q (.str (rptS a n)) H) := by
  intro pins s σ H x y v u Q I rx ry h
  obtain ⟨a, n, rfl, rfl, hn, ha, q⟩ := h
  obtain ⟨t, rfl⟩ := rx
  obtain ⟨t', rfl⟩ := ry
  have sl := sizeLine_eq
  have hm : a.length * n ≤ 100 * 100000 := Nat.mul_le_mul ha hn
  refine PySem.P.mul_str ?_ (fun h1 _ => ?_) (fun _ _ => ?_) ?_
  · rw [decide_eq_false (by omega), decide_eq_false (by omega)]; rfl
  · have hk : 0 < (n : Int) := by omega
    have h2 : (100 : Int) ≤ (2 ^ 63 - 1) / (n : Int) := (Int.le_ediv_iff_mul_le hk).mpr (by omega)
    omega
  · show decide (a.length * (n : Int).toNat > sizeLine) = false
    rw [Int.toNat_natCast]
    exact decide_eq_false (by omega)
  · unfold rptS at q
    by_cases h1 : n < 1
    · rw [if_pos (by omega)]
      rw [if_pos h1] at q
      exact ⟨by decide, .str Str.empty, H, I.tok _, ⟨_, rfl⟩, q⟩
    · rw [if_neg (by omega)]
      rw [if_neg h1] at q
      have eb : ((n : Int) == 1 || a.length == 0) = (n == 1 || a.length == 0) := by
        congr 1
        rw [Bool.eq_iff_iff, beq_iff_eq, beq_iff_eq]
        omega
      rw [eb]
      by_cases h2 : (n == 1 || a.length == 0) = true
      · rw [if_pos h2]
        rw [if_pos h2] at q
        exact ⟨.str a, H, I, ⟨_, rfl⟩, q⟩
      · rw [if_neg h2]
        rw [if_neg h2] at q
        rw [Int.toNat_natCast]
        refine ⟨?_, .str _, H, I.tok _, ⟨_, rfl⟩, q⟩
        show ((List.replicate n a.cps).foldl (· ++ ·) #[]).size ≤ sizeLine
        rw [fold_size]
        show 0 + a.length * n ≤ _
        omega
/-- the number a text of digits tells, or none -/
def oN : Option Nat → D
  | none => .non
  | some n => .int (n : Int)
def oNp : Option Nat → PyData
  | none => .none
  | some n => .int (n : Int)
theorem oN_py : ∀ o : Option Nat, D.py (oN o) = some (oNp o)
  | none => rfl
  | some _ => rfl
theorem oN_pys : ∀ os : List (Option Nat), D.pys (os.map oN) = some (os.map oNp)
  | [] => by simp only [List.map_nil, D.pys]
  | o :: os => by
    simp only [List.map_cons, D.pys, oN_py, oN_pys os]
    rfl
theorem oN_lay : ∀ os : List (Option Nat), PyData.canLayAll0 (os.map oNp) = true ∧ PyData.depthAll (os.map oNp) ≤ 1
  | [] => ⟨by simp only [List.map_nil, PyData.canLayAll0], by simp only [List.map_nil, PyData.depthAll]; decide⟩
  | o :: os => by
    obtain ⟨h1, h2⟩ := oN_lay os
    cases o with
    | none =>
      refine ⟨?_, ?_⟩
      · simp only [List.map_cons, oNp, PyData.canLayAll0, PyData.canLay0, h1, Bool.and_true]
      · simp only [List.map_cons, oNp, PyData.depthAll, PyData.depth]
        omega
    | some n =>
      refine ⟨?_, ?_⟩
      · simp only [List.map_cons, oNp, PyData.canLayAll0, PyData.canLay0, h1, Bool.and_true]
      · simp only [List.map_cons, oNp, PyData.depthAll, PyData.depth]
        omega
theorem oN_shaped (os : List (Option Nat)) : SeqAt.shaped (.list (os.map oNp)) = true := by
  obtain ⟨h1, h2⟩ := oN_lay os
  show (PyData.canLay0 _ && decide (PyData.depth _ ≤ 64)) = true
  refine Bool.and_eq_true_iff.mpr ⟨by simp only [PyData.canLay0]; exact h1, decide_eq_true ?_⟩
  have : PyData.depth (.list (os.map oNp)) = PyData.depthAll (os.map oNp) + 1 := by simp only [PyData.depth]
  rw [this]
  exact Nat.le_trans (Nat.succ_le_succ h2) (by decide)
section
variable {X : Cx} {W : WX} {k : Nat} {ρ : Env'} {μ : List M} {e a : Expr} {pos p2 : Pos} {Q : KV} {Z : KX} {x y : Str} {n c : Nat} {os : List (Option Nat)}
theorem wB_mulSt (hn : n ≤ 100000) (hx : x.length ≤ 100) (h : Q (.str (rptS x n)) μ) : wB X W (binaryOp .Mult) (.str x) (.int (n : Nat)) μ Q Z :=
  .ofV (opO_of op_mulS fun σ a b H Q L G o r1 r2 co => ⟨x, n, rep_str.mp r1, rep_int.mp r2, hn, hx, CO.now (W := W0) (σ := σ) co o (rep_str.mpr rfl)⟩) h
theorem wB_ninSign (h : Q (.bl (!decide (c ∈ y.cps.toList))) μ) : wB X W (compareOp .NotIn) (.str ⟨#[c]⟩) (.str y) μ Q Z :=
  .ofV (opO_of op_notIn_sign fun σ a b H Q L G o r1 r2 co => ⟨c, y, rep_str.mp r1, rep_str.mp r2, CO.now (W := W0) (σ := σ) co o (rep_bl.mpr rfl)⟩) h
/-- x[:i] of a text -/
theorem wE_supto (h : wE X W ρ μ e (fun d μ1 => wE X W ρ μ1 a (fun da μ2 => ∃ (i : Nat) (z : Str), da = .int (i : Nat) ∧ d = .str z ∧ z.length ≤ sizeLine ∧ Q (.str (cutS z none (some (i : Int)))) μ2) Z) Z) : wE X W ρ μ (.Subscript e (.Slice none (some a) none p2) pos) Q Z :=
  ⟨pe_of (pe_slice sl_str h.run po_none (po_some aE_ok)) fun σ H R ⟨L, G, n, v, x⟩ => ⟨L, G, n, fun d μ1 h2 u L1 G1 H1 s1 o1 r1 => ⟨_, h2.run, L1, G1, n.step s1 o1, fun da μ2 ⟨i, z, ea, ed, hz, q⟩ w L2 G2 H2 s2 o2 r2 => by
    subst ea ed
    exact ⟨i, rep_int.mp r2, z, rep_str.mp r1, hz, v _ _ q _ L2 G2 H2 (s1.trans s2) o2 (rep_str.mpr rfl)⟩, x.step s1⟩, x⟩⟩
/-- None in a list of numbers and Nones -/
theorem wB_nonIn (g : Gd X W k) (h : Q (.bl (os.any fun o => o.isNone)) μ) : wB X W (compareOp .In) .non (.lst (os.map oN)) μ Q Z := by
  refine .ofV (opO_of (op_inD (by have := g.w0.hr.un; omega)) fun σ x y H Q L G o r1 r2 c => ⟨.none, os.map oNp, r1.dp o.sub rfl, r2.dp o.sub (by simp [D.py, oN_pys]), rfl, oN_shaped os, CO.now (W := W0) (σ := σ) c o (rep_bl.mpr ?_)⟩) h
  rw [List.any_map]
  congr 2
  funext o
  cases o <;> rfl
end
/-- what the interpreter tells as a text -/
def Big (i : Int) : Prop := i.natAbs < 10 ^ 4300
section
variable {X : Cx} {k : Nat} {μ : List M} {a b : Str} {x y : Int}
theorem At_.mn {i j : Nat} {B : Around} (a : At_ X j B) (h : i ≤ j) : At_ X i B := ⟨a.hr.mono h, a.gs, a.env⟩
theorem At_.un {j : Nat} {B : Around} (a : At_ X (j + 1) B) (args : Args) : At_ X j (B.under (.builtin "tuple.__repr__.under" args)) := by
  obtain ⟨g, hg⟩ := a.gs
  exact ⟨tup_room2 a.hr args, ⟨_, guards_under_guard (isGuard_tuple_repr_under args) hg⟩, fun I => tup_env2 (a.env I) args⟩
/-- the text of a text as an object: bounds -/
theorem repr_pairS (g : Gd X W0 k) (ha : (reprText a).length ≤ 100000) (hb : (reprText b).length ≤ 100000) (hk : 60 ≤ k) :
    CallO X W0 (fun us => call (.builtin "repr") us) [.tup [.str a, .str b]] μ (.ret (.str (tupleText [reprText a, reprText b])) μ) := by
  have sl := sizeLine_eq
  refine cb_reprU (j := 4) g (fun B L G H c rest => fun I ok r hB at' => .cons (tell_str (by omega)) (.cons (tell_str (by omega)) .nil)) ?_ (by omega) hk
  have := tupleText_len_le [reprText a, reprText b]
  simp at this
  omega
theorem repr_trip (g : Gd X W0 k) (hD : X.base.NoDigits) (ha : (reprText a).length ≤ 100000) (hb : (reprText b).length ≤ 100000) (hx : Big x) (hy : Big y) (l1 : (toString x : Str).length ≤ 5000) (l2 : (toString y : Str).length ≤ 5000) (hk : 60 ≤ k) :
    CallO X W0 (fun us => call (.builtin "repr") us) [.tup [.str a, .tup [.int x, .int y], .str b]] μ (.ret (.str (tupleText [reprText a, tupleText [toString x, toString y], reprText b])) μ) := by
  have sl := sizeLine_eq
  have l3 : (tupleText [toString x, toString y]).length ≤ 20000 := by
    have := tupleText_len_le [toString x, toString y]
    simp only [List.map_cons, List.map_nil, List.sum_cons, List.sum_nil, List.length_cons, List.length_nil] at this
    omega
  refine cb_reprU (j := 4) g (fun B L G H c rest => fun I ok r hB at' => .cons (tell_str (by omega)) (.cons (tell_tup (j := 3) at' (fun gs hg => fun I2 ok2 st2 r2 => ?_) fun c2 rest2 => fun I2 ok2 st2 r2 => .cons (tell_intD hD ((at'.mn (by decide : 2 + 1 ≤ 4)).un _) hx) (.cons (tell_intD hD ((at'.mn (by decide : 2 + 1 ≤ 4)).un _) hy) .nil)) (.cons (tell_str (by omega)) .nil))) ?_ (by omega) hk
  · rw [guards_under_guard (isGuard_tuple_repr _) hB] at hg
    cases hg
    refine (Clear.nil _).cons fun e => ?_
    subst e
    obtain ⟨b1, us, e1, q1, rr1⟩ := rep_tup.mp (r.step st2)
    obtain ⟨b2, ws, e2, q2, rr2⟩ := rep_tup.mp r2
    cases e1
    cases e2
    obtain ⟨its, rv1, ⟨o, ho, hc, n, hd⟩, _⟩ := I2.tuple (Same.sqT ok2.sub q1)
    obtain ⟨its2, rv2, ⟨o2, ho2, hc2, n2, hd2⟩, _⟩ := I2.tuple (Same.sqT ok2.sub q2)
    rw [ho] at ho2
    cases ho2
    rw [hd] at hd2
    have ei : its = its2 := by
      have := (Data.seq.inj hd2).1
      simpa using congrArg Array.toList this
    subst ei
    have n1 := rr1.length
    have n2 := rr2.length
    have n3 := rv1.length
    have n4 := rv2.length
    simp at n1 n2
    omega
  · have := tupleText_len_le [reprText a, tupleText [toString x, toString y], reprText b]
    simp only [List.map_cons, List.map_nil, List.sum_cons, List.sum_nil, List.length_cons, List.length_nil] at this
    omega
end
end PM

set_option Elab.async false
set_option linter.all false
set_option maxRecDepth 100000
set_option maxHeartbeats 4000000
namespace PM
open PySem L2
/-! ### the text by places -/
def top (i : Nat) : Stmt := PySem.Challenge.pw_poolsmeet_k05_texts_of_ratios.main.body.getD i (.Pass ⟨0, 0, 0, 0⟩)
abbrev s_InvalidNumber_init : Stmt := inClass (top 3) 0
abbrev s_common_divisor : Stmt := top 10
abbrev s_digits_value : Stmt := top 11
abbrev s_Ratio_init : Stmt := inClass (top 12) 0
abbrev s_Ratio_read : Stmt := inClass (top 12) 2
abbrev s_Ratio_str : Stmt := inClass (top 12) 7
abbrev s_w_box : Stmt := top 14
abbrev s_w_take : Stmt := top 15
abbrev s_w_lowest : Stmt := top 16
abbrev s_w_digits : Stmt := top 17
abbrev s_w_text : Stmt := top 18
abbrev s_w_spoilt : Stmt := top 19
abbrev s_w_value : Stmt := top 20
abbrev s_w_due : Stmt := top 21
abbrev s_w_told : Stmt := top 22
abbrev s_law : Stmt := top 23
/-- slots: 0 self, 1 value -/
abbrev n_InvalidNumber_init : List Str := ["self", "value"]
abbrev v_InvalidNumber_init : List Kd := [.loc, .loc]
abbrev g_InvalidNumber_init : List Str := ["PoolError"]
theorem sc_InvalidNumber_init : FnScope n_InvalidNumber_init ["self", "value"] (defScope s_InvalidNumber_init) := ⟨rfl, rfl, rfl, by decide +kernel, rfl, by decide +kernel, by decide +kernel⟩
/-- slots: 0 one, 1 other -/
abbrev n_common_divisor : List Str := ["one", "other"]
abbrev v_common_divisor : List Kd := [.loc, .loc]
abbrev g_common_divisor : List Str := []
theorem sc_common_divisor : FnScope n_common_divisor ["one", "other"] (defScope s_common_divisor) := ⟨rfl, rfl, rfl, by decide +kernel, rfl, by decide +kernel, by decide +kernel⟩
/-- slots: 0 word, 1 sign -/
abbrev n_digits_value : List Str := ["word", "sign"]
abbrev v_digits_value : List Kd := [.loc, .no]
abbrev g_digits_value : List Str := ["len", "MOST_DIGITS", "all", "int"]
theorem ck_digits_value : ckB n_digits_value v_digits_value g_digits_value (defScope s_digits_value) = true := by decide +kernel
abbrev v_digits_value_c0 : List Kd := [.no, .loc]
abbrev o_digits_value_c0 : List (Str × Nat) := [("sign", 1)]
abbrev g_digits_value_c0 : List Str := ["DIGITS"]
theorem sc_digits_value : FnScope n_digits_value ["word"] (defScope s_digits_value) := ⟨rfl, rfl, rfl, by decide +kernel, rfl, by decide +kernel, by decide +kernel⟩
/-- slots: 0 self, 1 top, 2 bottom, 3 divisor -/
abbrev n_Ratio_init : List Str := ["self", "top", "bottom", "divisor"]
abbrev v_Ratio_init : List Kd := [.loc, .loc, .loc, .loc]
abbrev g_Ratio_init : List Str := ["InvalidNumber", "common_divisor", "abs"]
theorem sc_Ratio_init : FnScope n_Ratio_init ["self", "top", "bottom"] (defScope s_Ratio_init) := ⟨rfl, rfl, rfl, by decide +kernel, rfl, by decide +kernel, by decide +kernel⟩
/-- slots: 0 cls, 1 text, 2 sign, 3 digits, 4 first, 5 slash, 6 second, 7 top, 8 bottom -/
abbrev n_Ratio_read : List Str := ["cls", "text", "sign", "digits", "first", "slash", "second", "top", "bottom"]
abbrev v_Ratio_read : List Kd := [.loc, .loc, .loc, .loc, .loc, .loc, .loc, .loc, .loc]
abbrev g_Ratio_read : List Str := ["digits_value", "InvalidNumber", "common_divisor"]
theorem ck_Ratio_read : ckB n_Ratio_read v_Ratio_read g_Ratio_read (defScope s_Ratio_read) = true := by decide +kernel
theorem sc_Ratio_read : FnScope n_Ratio_read ["cls", "text"] (defScope s_Ratio_read) := ⟨rfl, rfl, rfl, by decide +kernel, rfl, by decide +kernel, by decide +kernel⟩
/-- slots: 0 self -/
abbrev n_Ratio_str : List Str := ["self"]
abbrev v_Ratio_str : List Kd := [.loc]
abbrev g_Ratio_str : List Str := ["str"]
theorem ck_Ratio_str : ckB n_Ratio_str v_Ratio_str g_Ratio_str (defScope s_Ratio_str) = true := by decide +kernel
theorem sc_Ratio_str : FnScope n_Ratio_str ["self"] (defScope s_Ratio_str) := ⟨rfl, rfl, rfl, by decide +kernel, rfl, by decide +kernel, by decide +kernel⟩
/-- slots: 0 w_script, 1 w_k, 2 w_cell, 3 w_seed -/
abbrev n_w_box : List Str := ["_law_script", "_law_k", "_law_cell", "_law_seed"]
abbrev v_w_box : List Kd := [.loc, .loc, .loc, .loc]
abbrev g_w_box : List Str := ["len", "int"]
theorem ck_w_box : ckB n_w_box v_w_box g_w_box (defScope s_w_box) = true := by decide +kernel
theorem sc_w_box : FnScope n_w_box ["_law_script", "_law_k"] (defScope s_w_box) := ⟨rfl, rfl, rfl, by decide +kernel, rfl, by decide +kernel, by decide +kernel⟩
/-- slots: 0 w_box_here, 1 w_many, 2 w_digit, 3 w_first, 4 w_mixed -/
abbrev n_w_take : List Str := ["_law_box_here", "_law_many", "_law_digit", "_law_first", "_law_mixed"]
abbrev v_w_take : List Kd := [.loc, .loc, .loc, .loc, .loc]
abbrev g_w_take : List Str := []
theorem ck_w_take : ckB n_w_take v_w_take g_w_take (defScope s_w_take) = true := by decide +kernel
theorem sc_w_take : FnScope n_w_take ["_law_box_here", "_law_many"] (defScope s_w_take) := ⟨rfl, rfl, rfl, by decide +kernel, rfl, by decide +kernel, by decide +kernel⟩
/-- slots: 0 w_top, 1 w_bottom, 2 w_one, 3 w_other, 4 w_sign -/
abbrev n_w_lowest : List Str := ["_law_top", "_law_bottom", "_law_one", "_law_other", "_law_sign"]
abbrev v_w_lowest : List Kd := [.loc, .loc, .loc, .loc, .loc]
abbrev g_w_lowest : List Str := ["abs", "int"]
theorem ck_w_lowest : ckB n_w_lowest v_w_lowest g_w_lowest (defScope s_w_lowest) = true := by decide +kernel
theorem sc_w_lowest : FnScope n_w_lowest ["_law_top", "_law_bottom"] (defScope s_w_lowest) := ⟨rfl, rfl, rfl, by decide +kernel, rfl, by decide +kernel, by decide +kernel⟩
/-- slots: 0 w_box_here, 1 w_many, 2 w_first, 3 w_body, 4 w_k -/
abbrev n_w_digits : List Str := ["_law_box_here", "_law_many", "_law_first", "_law_body", "_law_k"]
abbrev v_w_digits : List Kd := [.loc, .loc, .cell, .loc, .no]
abbrev g_w_digits : List Str := ["_law_take", "range", "str", "int"]
theorem ck_w_digits : ckB n_w_digits v_w_digits g_w_digits (defScope s_w_digits) = true := by decide +kernel
abbrev v_w_digits_c0 : List Kd := [.no, .no, .cell, .no, .loc]
abbrev o_w_digits_c0 : List (Str × Nat) := [("_law_k", 4)]
abbrev g_w_digits_c0 : List Str := ["str"]
theorem sc_w_digits : FnScope n_w_digits ["_law_box_here"] (defScope s_w_digits) := ⟨rfl, rfl, rfl, by decide +kernel, rfl, by decide +kernel, by decide +kernel⟩
/-- slots: 0 w_box_here, 1 w_top, 2 w_bottom, 3 w_form, 4 w_text_here, 5 w_pair -/
abbrev n_w_text : List Str := ["_law_box_here", "_law_top", "_law_bottom", "_law_form", "_law_text_here", "_law_pair"]
abbrev v_w_text : List Kd := [.loc, .loc, .loc, .loc, .loc, .loc]
abbrev g_w_text : List Str := ["_law_digits", "_law_take", "len", "_law_lowest", "str", "int"]
theorem ck_w_text : ckB n_w_text v_w_text g_w_text (defScope s_w_text) = true := by decide +kernel
theorem sc_w_text : FnScope n_w_text ["_law_box_here"] (defScope s_w_text) := ⟨rfl, rfl, rfl, by decide +kernel, rfl, by decide +kernel, by decide +kernel⟩
/-- slots: 0 w_box_here, 1 w_text_here, 2 w_at, 3 w_sign -/
abbrev n_w_spoilt : List Str := ["_law_box_here", "_law_text_here", "_law_at", "_law_sign"]
abbrev v_w_spoilt : List Kd := [.loc, .loc, .loc, .loc]
abbrev g_w_spoilt : List Str := ["_law_take", "len"]
theorem ck_w_spoilt : ckB n_w_spoilt v_w_spoilt g_w_spoilt (defScope s_w_spoilt) = true := by decide +kernel
theorem sc_w_spoilt : FnScope n_w_spoilt ["_law_box_here", "_law_text_here"] (defScope s_w_spoilt) := ⟨rfl, rfl, rfl, by decide +kernel, rfl, by decide +kernel, by decide +kernel⟩
/-- slots: 0 w_digits_here, 1 w_sign -/
abbrev n_w_value : List Str := ["_law_digits_here", "_law_sign"]
abbrev v_w_value : List Kd := [.loc, .no]
abbrev g_w_value : List Str := ["len", "int"]
theorem ck_w_value : ckB n_w_value v_w_value g_w_value (defScope s_w_value) = true := by decide +kernel
abbrev v_w_value_c0 : List Kd := [.no, .loc]
abbrev o_w_value_c0 : List (Str × Nat) := [("_law_sign", 1)]
abbrev g_w_value_c0 : List Str := []
theorem sc_w_value : FnScope n_w_value ["_law_digits_here"] (defScope s_w_value) := ⟨rfl, rfl, rfl, by decide +kernel, rfl, by decide +kernel, by decide +kernel⟩
/-- slots: 0 w_text_here, 1 w_body, 2 w_parts, 3 w_values, 4 w_top, 5 w_bottom, 6 w_part -/
abbrev n_w_due : List Str := ["_law_text_here", "_law_body", "_law_parts", "_law_values", "_law_top", "_law_bottom", "_law_part"]
abbrev v_w_due : List Kd := [.loc, .loc, .loc, .loc, .loc, .loc, .no]
abbrev g_w_due : List Str := ["int", "len", "_law_lowest"]
theorem ck_w_due : ckB n_w_due v_w_due g_w_due (defScope s_w_due) = true := by decide +kernel
abbrev v_w_due_c0 : List Kd := [.no, .no, .no, .no, .no, .no, .loc]
abbrev o_w_due_c0 : List (Str × Nat) := [("_law_part", 6)]
abbrev g_w_due_c0 : List Str := ["_law_value"]
theorem sc_w_due : FnScope n_w_due ["_law_text_here"] (defScope s_w_due) := ⟨rfl, rfl, rfl, by decide +kernel, rfl, by decide +kernel, by decide +kernel⟩
/-- slots: 0 w_text_here, 1 w_found, 2 w_ratio, 3 e -/
abbrev n_w_told : List Str := ["_law_text_here", "_law_found", "_law_ratio", "e"]
abbrev v_w_told : List Kd := [.loc, .loc, .loc, .loc]
abbrev g_w_told : List Str := ["Ratio", "str", "InvalidNumber"]
theorem ck_w_told : ckB n_w_told v_w_told g_w_told (defScope s_w_told) = true := by decide +kernel
theorem sc_w_told : FnScope n_w_told ["_law_text_here"] (defScope s_w_told) := ⟨rfl, rfl, rfl, by decide +kernel, rfl, by decide +kernel, by decide +kernel⟩
/-- slots: 0 w_script, 1 w_k, 2 w_box_here, 3 w_text_here, 4 w_other, 5 w_turn, 6 w_ends, 7 w_one, 8 w_due_here -/
abbrev n_law : List Str := ["_law_script", "_law_k", "_law_box_here", "_law_text_here", "_law_other", "_law_turn", "_law_ends", "_law_one", "_law_due_here"]
abbrev v_law : List Kd := [.loc, .loc, .loc, .loc, .loc, .loc, .loc, .loc, .loc]
abbrev g_law : List Str := ["range", "max", "min", "len", "_law_box", "_law_text", "_law_take", "_law_spoilt", "_law_due", "repr", "_law_told"]
theorem ck_law : ckB n_law v_law g_law (defScope s_law) = true := by decide +kernel
theorem sc_law : FnScope n_law ["_law_script"] (defScope s_law) := ⟨rfl, rfl, rfl, by decide +kernel, rfl, by decide +kernel, by decide +kernel⟩
/-! ### what the top has left -/
structure Tx (K : PySem.W.Frag) (mg : Str → Option Value) where
  C_PoolError : Addr
  g_PoolError : mg "PoolError" = some (.ref C_PoolError)
  up_PoolError : UpC K C_PoolError "ValueError.__init__"
  oex_PoolError : OexC K C_PoolError
  C_InvalidNumber : Addr
  g_InvalidNumber : mg "InvalidNumber" = some (.ref C_InvalidNumber)
  oex_InvalidNumber : OexC K C_InvalidNumber
  xf_InvalidNumber : XfC K C_InvalidNumber
  xm_InvalidNumber : PySem.W.exmOne K (.ref C_InvalidNumber) (.ref C_InvalidNumber) = some true
  na_InvalidNumber_value : NoAttr K C_InvalidNumber "value"
  C_Ratio : Addr
  g_Ratio : mg "Ratio" = some (.ref C_Ratio)
  own_Ratio : OwnC K C_Ratio
  cr_Ratio : ClX.CRead K C_Ratio (.type "type")
  na_Ratio_top : NoAttr K C_Ratio "top"
  na_Ratio_bottom : NoAttr K C_Ratio "bottom"
  a_InvalidNumber_init : Addr
  fd_InvalidNumber_init : FuncData
  F_InvalidNumber_init : FunS K "__init__" "InvalidNumber.__init__" s_InvalidNumber_init [] a_InvalidNumber_init fd_InvalidNumber_init
  i_InvalidNumber : PySem.W.findIn K (.ref C_InvalidNumber) "__init__" = some (some (.ref a_InvalidNumber_init))
  t_InvalidNumber : PySem.W.typeIn K (.ref a_InvalidNumber_init) = some (.type "function")
  a_common_divisor : Addr
  fd_common_divisor : FuncData
  F_common_divisor : FunS K "common_divisor" "common_divisor" s_common_divisor [] a_common_divisor fd_common_divisor
  g_common_divisor : mg "common_divisor" = some (.ref a_common_divisor)
  a_digits_value : Addr
  fd_digits_value : FuncData
  F_digits_value : FunS K "digits_value" "digits_value" s_digits_value [] a_digits_value fd_digits_value
  g_digits_value : mg "digits_value" = some (.ref a_digits_value)
  a_Ratio_init : Addr
  fd_Ratio_init : FuncData
  F_Ratio_init : FunS K "__init__" "Ratio.__init__" s_Ratio_init [.int 1] a_Ratio_init fd_Ratio_init
  m_Ratio_init : Meth K C_Ratio "__init__" a_Ratio_init
  mk_Ratio : Mk K C_Ratio a_Ratio_init
  a_Ratio_read : Addr
  fd_Ratio_read : FuncData
  F_Ratio_read : FunS K "read" "Ratio.read" s_Ratio_read [] a_Ratio_read fd_Ratio_read
  p_Ratio_read : Addr
  cm_Ratio_read : ClX.CMet K C_Ratio (.type "type") "read" p_Ratio_read a_Ratio_read
  a_Ratio_str : Addr
  fd_Ratio_str : FuncData
  F_Ratio_str : FunS K "__str__" "Ratio.__str__" s_Ratio_str [] a_Ratio_str fd_Ratio_str
  m_Ratio_str : Meth K C_Ratio "__str__" a_Ratio_str
  a_w_box : Addr
  fd_w_box : FuncData
  F_w_box : FunS K "_law_box" "_law_box" s_w_box [] a_w_box fd_w_box
  g_w_box : mg "_law_box" = some (.ref a_w_box)
  a_w_take : Addr
  fd_w_take : FuncData
  F_w_take : FunS K "_law_take" "_law_take" s_w_take [] a_w_take fd_w_take
  g_w_take : mg "_law_take" = some (.ref a_w_take)
  a_w_lowest : Addr
  fd_w_lowest : FuncData
  F_w_lowest : FunS K "_law_lowest" "_law_lowest" s_w_lowest [] a_w_lowest fd_w_lowest
  g_w_lowest : mg "_law_lowest" = some (.ref a_w_lowest)
  a_w_digits : Addr
  fd_w_digits : FuncData
  F_w_digits : FunS K "_law_digits" "_law_digits" s_w_digits [] a_w_digits fd_w_digits
  g_w_digits : mg "_law_digits" = some (.ref a_w_digits)
  a_w_text : Addr
  fd_w_text : FuncData
  F_w_text : FunS K "_law_text" "_law_text" s_w_text [] a_w_text fd_w_text
  g_w_text : mg "_law_text" = some (.ref a_w_text)
  a_w_spoilt : Addr
  fd_w_spoilt : FuncData
  F_w_spoilt : FunS K "_law_spoilt" "_law_spoilt" s_w_spoilt [] a_w_spoilt fd_w_spoilt
  g_w_spoilt : mg "_law_spoilt" = some (.ref a_w_spoilt)
  a_w_value : Addr
  fd_w_value : FuncData
  F_w_value : FunS K "_law_value" "_law_value" s_w_value [] a_w_value fd_w_value
  g_w_value : mg "_law_value" = some (.ref a_w_value)
  a_w_due : Addr
  fd_w_due : FuncData
  F_w_due : FunS K "_law_due" "_law_due" s_w_due [] a_w_due fd_w_due
  g_w_due : mg "_law_due" = some (.ref a_w_due)
  a_w_told : Addr
  fd_w_told : FuncData
  F_w_told : FunS K "_law_told" "_law_told" s_w_told [] a_w_told fd_w_told
  g_w_told : mg "_law_told" = some (.ref a_w_told)
  a_law : Addr
  fd_law : FuncData
  F_law : FunS K "law" "law" s_law [] a_law fd_law
  g_law : mg "law" = some (.ref a_law)
  n_NotImplemented : mg "NotImplemented" = none
  n_abs : mg "abs" = none
  n_all : mg "all" = none
  n_bool : mg "bool" = none
  n_classmethod : mg "classmethod" = none
  n_int : mg "int" = none
  n_isinstance : mg "isinstance" = none
  n_len : mg "len" = none
  n_max : mg "max" = none
  n_min : mg "min" = none
  n_property : mg "property" = none
  n_range : mg "range" = none
  n_repr : mg "repr" = none
  n_str : mg "str" = none
  c_DIGITS : ∃ t, mg "DIGITS" = some (.str "0123456789" t)
  c_MOST_DIGITS : ∃ t, mg "MOST_DIGITS" = some (.int 1000 t)
section
variable {K : PySem.W.Frag} {mg : Str → Option Value} (T : Tx K mg)
theorem Tx.b_InvalidNumber_init : Binds K T.fd_InvalidNumber_init ["self", "value"] [] := (FunD.plain T.F_InvalidNumber_init).binds fun _ _ _ _ _ _ us hl => match us, hl with | [_, _], _ => rfl
theorem Tx.b_common_divisor : Binds K T.fd_common_divisor ["one", "other"] [] := (FunD.plain T.F_common_divisor).binds fun _ _ _ _ _ _ us hl => match us, hl with | [_, _], _ => rfl
theorem Tx.b_digits_value : Binds K T.fd_digits_value ["word"] [] := (FunD.plain T.F_digits_value).binds fun _ _ _ _ _ _ us hl => match us, hl with | [_], _ => rfl
theorem Tx.b_Ratio_init_2 : ∃ ds, Vals (([.int 1] : List V).drop 0) ds ∧ Binds K T.fd_Ratio_init ["self", "top", "bottom"] ds := T.F_Ratio_init.binds1 2 0 (by intro z; cases z) rfl fun _ _ _ _ _ _ _ us its h1 h2 => match us, its, h1, h2 with | [_, _], [_], _, _ => ⟨_, rfl, rfl⟩
theorem Tx.b_Ratio_init : ∃ ds, Vals (([.int 1] : List V).drop 1) ds ∧ Binds K T.fd_Ratio_init ["self", "top", "bottom"] ds := T.F_Ratio_init.binds1 3 1 (by intro z; cases z) rfl fun _ _ _ _ _ _ _ us its h1 h2 => match us, its, h1, h2 with | [_, _, _], [_], _, _ => ⟨_, rfl, rfl⟩
theorem Tx.b_Ratio_read : Binds K T.fd_Ratio_read ["cls", "text"] [] := (FunD.plain T.F_Ratio_read).binds fun _ _ _ _ _ _ us hl => match us, hl with | [_, _], _ => rfl
theorem Tx.b_Ratio_str : Binds K T.fd_Ratio_str ["self"] [] := (FunD.plain T.F_Ratio_str).binds fun _ _ _ _ _ _ us hl => match us, hl with | [_], _ => rfl
theorem Tx.b_w_box : Binds K T.fd_w_box ["_law_script", "_law_k"] [] := (FunD.plain T.F_w_box).binds fun _ _ _ _ _ _ us hl => match us, hl with | [_, _], _ => rfl
theorem Tx.b_w_take : Binds K T.fd_w_take ["_law_box_here", "_law_many"] [] := (FunD.plain T.F_w_take).binds fun _ _ _ _ _ _ us hl => match us, hl with | [_, _], _ => rfl
theorem Tx.b_w_lowest : Binds K T.fd_w_lowest ["_law_top", "_law_bottom"] [] := (FunD.plain T.F_w_lowest).binds fun _ _ _ _ _ _ us hl => match us, hl with | [_, _], _ => rfl
theorem Tx.b_w_digits : Binds K T.fd_w_digits ["_law_box_here"] [] := (FunD.plain T.F_w_digits).binds fun _ _ _ _ _ _ us hl => match us, hl with | [_], _ => rfl
theorem Tx.b_w_text : Binds K T.fd_w_text ["_law_box_here"] [] := (FunD.plain T.F_w_text).binds fun _ _ _ _ _ _ us hl => match us, hl with | [_], _ => rfl
theorem Tx.b_w_spoilt : Binds K T.fd_w_spoilt ["_law_box_here", "_law_text_here"] [] := (FunD.plain T.F_w_spoilt).binds fun _ _ _ _ _ _ us hl => match us, hl with | [_, _], _ => rfl
theorem Tx.b_w_value : Binds K T.fd_w_value ["_law_digits_here"] [] := (FunD.plain T.F_w_value).binds fun _ _ _ _ _ _ us hl => match us, hl with | [_], _ => rfl
theorem Tx.b_w_due : Binds K T.fd_w_due ["_law_text_here"] [] := (FunD.plain T.F_w_due).binds fun _ _ _ _ _ _ us hl => match us, hl with | [_], _ => rfl
theorem Tx.b_w_told : Binds K T.fd_w_told ["_law_text_here"] [] := (FunD.plain T.F_w_told).binds fun _ _ _ _ _ _ us hl => match us, hl with | [_], _ => rfl
abbrev Tx.f_InvalidNumber_init : Fnx := ⟨T.a_InvalidNumber_init, T.fd_InvalidNumber_init, ["self", "value"], 40⟩
abbrev Tx.f_common_divisor : Fnx := ⟨T.a_common_divisor, T.fd_common_divisor, ["one", "other"], 1⟩
abbrev Tx.f_digits_value : Fnx := ⟨T.a_digits_value, T.fd_digits_value, ["word"], 1⟩
abbrev Tx.f_Ratio_init : Fnx := ⟨T.a_Ratio_init, T.fd_Ratio_init, ["self", "top", "bottom"], 3⟩
abbrev Tx.f_Ratio_read : Fnx := ⟨T.a_Ratio_read, T.fd_Ratio_read, ["cls", "text"], 6⟩
abbrev Tx.f_Ratio_str : Fnx := ⟨T.a_Ratio_str, T.fd_Ratio_str, ["self"], 1⟩
abbrev Tx.f_w_box : Fnx := ⟨T.a_w_box, T.fd_w_box, ["_law_script", "_law_k"], 100⟩
abbrev Tx.f_w_take : Fnx := ⟨T.a_w_take, T.fd_w_take, ["_law_box_here", "_law_many"], 100⟩
abbrev Tx.f_w_lowest : Fnx := ⟨T.a_w_lowest, T.fd_w_lowest, ["_law_top", "_law_bottom"], 100⟩
abbrev Tx.f_w_digits : Fnx := ⟨T.a_w_digits, T.fd_w_digits, ["_law_box_here"], 101⟩
abbrev Tx.f_w_text : Fnx := ⟨T.a_w_text, T.fd_w_text, ["_law_box_here"], 102⟩
abbrev Tx.f_w_spoilt : Fnx := ⟨T.a_w_spoilt, T.fd_w_spoilt, ["_law_box_here", "_law_text_here"], 101⟩
abbrev Tx.f_w_value : Fnx := ⟨T.a_w_value, T.fd_w_value, ["_law_digits_here"], 100⟩
abbrev Tx.f_w_due : Fnx := ⟨T.a_w_due, T.fd_w_due, ["_law_text_here"], 101⟩
abbrev Tx.f_w_told : Fnx := ⟨T.a_w_told, T.fd_w_told, ["_law_text_here"], 100⟩
abbrev Tx.f_law : Fnx := ⟨T.a_law, T.fd_law, ["_law_script"], 103⟩
end
end PM

set_option Elab.async false
set_option linter.all false
set_option maxRecDepth 100000
set_option maxHeartbeats 4000000
namespace PM
open PySem L2 PyProof.Rows
set_option hygiene false
local macro_rules | `(tactic| fail "E") => `(tactic| ((with_reducible refine hdm ?_); fail "m"))
local macro_rules | `(tactic| fail "E") => `(tactic| ((with_reducible refine hda ?_); fail "a"))
local macro_rules | `(tactic| fail "E") => `(tactic| ((with_reducible refine hdn ?_); fail "n"))
local macro_rules | `(tactic| fail "E") => `(tactic| ((with_reducible refine hdc ?_); fail "c"))
local macro_rules | `(tactic| fail "E") => `(tactic| refine wE_if ?_)
local macro_rules | `(tactic| fail "E") => `(tactic| refine wE_un ?_)
local macro_rules | `(tactic| fail "E") => `(tactic| refine wE_one ?_)
local macro_rules | `(tactic| fail "E") => `(tactic| refine wE_or ?_)
local macro_rules | `(tactic| fail "E") => `(tactic| refine wE_and ?_)
local macro_rules | `(tactic| fail "E") => `(tactic| refine wE_not ?_)
local macro_rules | `(tactic| fail "E") => `(tactic| refine wE_non ?_)
local macro_rules | `(tactic| fail "E") => `(tactic| refine wE_bl ?_)
local macro_rules | `(tactic| fail "E") => `(tactic| refine wE_str ?_)
local macro_rules | `(tactic| fail "E") => `(tactic| refine wE_lst ?_)
local macro_rules | `(tactic| fail "E") => `(tactic| refine wE_tup ?_)
local macro_rules | `(tactic| fail "E") => `(tactic| refine wE_cmp ?_)
local macro_rules | `(tactic| fail "E") => `(tactic| refine wE_sub ?_)
local macro_rules | `(tactic| fail "E") => `(tactic| refine wE_bin ?_)
local macro_rules | `(tactic| fail "E") => `(tactic| refine wE_int ?_)
local macro_rules | `(tactic| fail "E") => `(tactic| (refine wE_name gn ?_; (repeat (first | with_reducible refine wGt_z ?_ | with_reducible refine wGt_c ?_ | with_reducible refine wGt_s ?_ | with_reducible refine wGt_f ?_)); fail_if_success refine wGt_chk ?_))
local macro_rules | `(tactic| fail "B") => `(tactic| with_reducible refine wB_pow18 ?_)
local macro_rules | `(tactic| fail "B") => `(tactic| with_reducible refine wB_pow9 ?_)
local macro_rules | `(tactic| fail "B") => `(tactic| with_reducible refine wB_pow8 ?_)
local macro_rules | `(tactic| fail "B") => `(tactic| with_reducible refine wB_pow7 ?_)
local macro_rules | `(tactic| fail "B") => `(tactic| with_reducible refine wB_pow6 ?_)
local macro_rules | `(tactic| fail "B") => `(tactic| with_reducible refine wB_pow5 ?_)
local macro_rules | `(tactic| fail "B") => `(tactic| with_reducible refine wB_isNot ?_)
local macro_rules | `(tactic| fail "B") => `(tactic| with_reducible refine wB_is ?_)
local macro_rules | `(tactic| fail "B") => `(tactic| with_reducible refine wB_neB ?_)
local macro_rules | `(tactic| fail "B") => `(tactic| with_reducible refine wB_eqB ?_)
local macro_rules | `(tactic| fail "B") => `(tactic| with_reducible refine wB_neT ?_)
local macro_rules | `(tactic| fail "B") => `(tactic| with_reducible refine wB_eqT ?_)
local macro_rules | `(tactic| fail "B") => `(tactic| with_reducible refine wB_ne ?_)
local macro_rules | `(tactic| fail "B") => `(tactic| with_reducible refine wB_eq ?_)
local macro_rules | `(tactic| fail "B") => `(tactic| with_reducible refine wB_ge ?_)
local macro_rules | `(tactic| fail "B") => `(tactic| with_reducible refine wB_gt ?_)
local macro_rules | `(tactic| fail "B") => `(tactic| with_reducible refine wB_le ?_)
local macro_rules | `(tactic| fail "B") => `(tactic| with_reducible refine wB_lt ?_)
local macro_rules | `(tactic| fail "B") => `(tactic| ((with_reducible refine wB_fdivB ?qc ?_); (case qc => exact ⟨by (first | with_reducible assumption | omega), by (first | with_reducible assumption | omega)⟩)))
local macro_rules | `(tactic| fail "B") => `(tactic| ((with_reducible refine wB_fdivS ?qc ?_); (case qc => exact ⟨by (first | with_reducible assumption | omega), by (first | with_reducible assumption | omega)⟩)))
local macro_rules | `(tactic| fail "B") => `(tactic| ((with_reducible refine wB_mod ?qc ?_); (case qc => (first | with_reducible assumption | omega))))
local macro_rules | `(tactic| fail "B") => `(tactic| ((with_reducible refine wB_mulB ?qc ?_); (case qc => exact ⟨⟨by (first | with_reducible assumption | omega), by (first | with_reducible assumption | omega)⟩, ⟨by (first | with_reducible assumption | omega), by (first | with_reducible assumption | omega)⟩⟩)))
local macro_rules | `(tactic| fail "B") => `(tactic| ((with_reducible refine wB_mulL ?qc ?_); (case qc => exact ⟨by (first | with_reducible assumption | omega), by (first | with_reducible assumption | omega)⟩)))
local macro_rules | `(tactic| fail "B") => `(tactic| ((with_reducible refine wB_mulR ?qc ?_); (case qc => exact ⟨by (first | with_reducible assumption | omega), by (first | with_reducible assumption | omega)⟩)))
local macro_rules | `(tactic| fail "B") => `(tactic| with_reducible refine wB_sub ?_)
local macro_rules | `(tactic| fail "B") => `(tactic| with_reducible refine wB_add ?_)
local macro_rules | `(tactic| fail "B") => `(tactic| ((with_reducible refine wB_cube ?qc ?_); (case qc => exact ⟨by (first | with_reducible assumption | omega), by (first | with_reducible assumption | omega)⟩)))
local macro_rules | `(tactic| fail "B") => `(tactic| ((with_reducible refine wB_sq ?qc ?_); (case qc => exact ⟨by (first | with_reducible assumption | omega), by (first | with_reducible assumption | omega)⟩)))
local macro_rules | `(tactic| fail "F") => `(tactic| with_reducible refine wF_min g.toGd ?_)
local macro_rules | `(tactic| fail "F") => `(tactic| with_reducible refine wF_max g.toGd ?_)
local macro_rules | `(tactic| fail "F") => `(tactic| with_reducible refine wF_abs ?_)
local macro_rules | `(tactic| fail "F") => `(tactic| with_reducible refine wF_boolB ?_)
local macro_rules | `(tactic| fail "F") => `(tactic| with_reducible refine wF_intB ?_)
local macro_rules | `(tactic| fail "F") => `(tactic| ((with_reducible refine chkB "len" ?_); refine wF_len (by (first | exact .inl rfl | exact .inr (.inl rfl) | exact .inr (.inr (.inl rfl)) | exact .inr (.inr (.inr ⟨_, rfl, by (first | assumption | with_reducible exact at_last | with_reducible exact at_new rfl | with_reducible exact at_left (by assumption) | with_reducible exact List.getElem?_set_self (by assumption) | with_reducible exact at_left (at_left (by assumption)))⟩)))) ?_))
local macro_rules | `(tactic| fail "F") => `(tactic| with_reducible refine wF_isTT ?_)
local macro_rules | `(tactic| fail "X") => `(tactic| (refine wX_ints (by (first | exact .inl rfl | exact .inr (.inl rfl) | exact .inr (.inr (.inl rfl)) | exact .inr (.inr (.inr ⟨_, rfl, by (first | assumption | with_reducible exact at_last | with_reducible exact at_new rfl | with_reducible exact at_left (by assumption) | with_reducible exact List.getElem?_set_self (by assumption) | with_reducible exact at_left (at_left (by assumption)))⟩)))) (by (repeat (first | exact Ints.nil | apply Ints.cons))) (by (first | with_reducible assumption | omega)) (by (simp only [List.length_cons, List.length_nil]; omega)) ?_; intro v hv; simp only [List.mem_cons, List.not_mem_nil, or_false] at hv))
local macro_rules | `(tactic| fail "X") => `(tactic| refine wX_at (by (first | exact .inl rfl | exact .inr (.inl rfl) | exact .inr (.inr (.inl rfl)) | exact .inr (.inr (.inr ⟨_, rfl, by (first | assumption | with_reducible exact at_last | with_reducible exact at_new rfl | with_reducible exact at_left (by assumption) | with_reducible exact List.getElem?_set_self (by assumption) | with_reducible exact at_left (at_left (by assumption)))⟩)))) rfl ?_)
local macro_rules | `(tactic| fail "X") => `(tactic| refine wX_if2 (by (first | exact .inl rfl | exact .inr (.inl rfl) | exact .inr (.inr (.inl rfl)) | exact .inr (.inr (.inr ⟨_, rfl, by (first | assumption | with_reducible exact at_last | with_reducible exact at_new rfl | with_reducible exact at_left (by assumption) | with_reducible exact List.getElem?_set_self (by assumption) | with_reducible exact at_left (at_left (by assumption)))⟩)))) ?_)
local macro_rules | `(tactic| fail "X") => `(tactic| refine wX_if2I (by (first | exact .inl rfl | exact .inr (.inl rfl) | exact .inr (.inr (.inl rfl)) | exact .inr (.inr (.inr ⟨_, rfl, by (first | assumption | with_reducible exact at_last | with_reducible exact at_new rfl | with_reducible exact at_left (by assumption) | with_reducible exact List.getElem?_set_self (by assumption) | with_reducible exact at_left (at_left (by assumption)))⟩)))) ?_)
local macro_rules | `(tactic| fail "A") => `(tactic| refine wA_nil ?_)
local macro_rules | `(tactic| fail "A") => `(tactic| refine wA_cons ?_)
local macro_rules | `(tactic| fail "C") => `(tactic| refine wC_val ?_)
local macro_rules | `(tactic| fail "C") => `(tactic| refine wC_bool ?_)
local macro_rules | `(tactic| fail "C") => `(tactic| refine wC_not ?_)
local macro_rules | `(tactic| fail "C") => `(tactic| refine wC_cmp2 ?_)
local macro_rules | `(tactic| fail "C") => `(tactic| refine wC_cmp ?_)
local macro_rules | `(tactic| fail "W") => `(tactic| refine wCw_or1 ?_)
local macro_rules | `(tactic| fail "W") => `(tactic| refine wCw_and1 ?_)
local macro_rules | `(tactic| fail "W") => `(tactic| refine wCw_or ?_)
local macro_rules | `(tactic| fail "W") => `(tactic| refine wCw_and ?_)
local macro_rules | `(tactic| fail "U") => `(tactic| with_reducible refine wU_neg ?_)
local macro_rules | `(tactic| fail "P") => `(tactic| with_reducible refine wPt_s ?_)
local macro_rules | `(tactic| fail "P") => `(tactic| with_reducible refine wPt_c ?_)
local macro_rules | `(tactic| fail "P") => `(tactic| with_reducible refine wPt_z ?_)
local macro_rules | `(tactic| fail "G") => `(tactic| refine wG_name gn ?_)
local macro_rules | `(tactic| fail "G") => `(tactic| refine wG_tup g.calm ?_)
local macro_rules | `(tactic| fail "H") => `(tactic| refine wGs_nil ?_)
local macro_rules | `(tactic| fail "H") => `(tactic| refine wGs_cons ?_)
local macro_rules | `(tactic| fail "S") => `(tactic| refine wS_pass ?_)
local macro_rules | `(tactic| fail "S") => `(tactic| refine wS_asg ?_)
local macro_rules | `(tactic| fail "S") => `(tactic| refine wS_ix ?_)
local macro_rules | `(tactic| fail "S") => `(tactic| refine wS_expr ?_)
local macro_rules | `(tactic| fail "S") => `(tactic| refine wS_if ?_)
local macro_rules | `(tactic| fail "S") => `(tactic| refine wS_ret ?_)
local macro_rules | `(tactic| fail "S") => `(tactic| (refine wS_par3 g ?qa ?_; (case qa => exact ⟨_, _, _, by (repeat (first | with_reducible exact Il.z | with_reducible apply Il.s)), by (repeat (first | with_reducible exact Il.z | with_reducible apply Il.s)), by (repeat (first | with_reducible exact Il.z | with_reducible apply Il.s)), by decide, by decide, by decide⟩)))
local macro_rules | `(tactic| fail "S") => `(tactic| (refine wS_par g ?qa ?_; (case qa => exact ⟨_, _, by (repeat (first | with_reducible exact Il.z | with_reducible apply Il.s)), by (repeat (first | with_reducible exact Il.z | with_reducible apply Il.s)), by decide⟩)))
local macro_rules | `(tactic| fail "S") => `(tactic| (refine wS_set gn ?qa ?_; (case qa => exact ⟨_, by (repeat (first | with_reducible exact Ix.z | with_reducible exact Ix.c | with_reducible apply Ix.s))⟩)))
local macro_rules | `(tactic| fail "L") => `(tactic| refine wSs_nil ?_)
local macro_rules | `(tactic| fail "c") => `(tactic| ((with_reducible refine chkC "sum" ?_); refine xE_blt gn ?qa T.n_sum boot_sum ?_; (case qa => (repeat (first | with_reducible exact In.z | with_reducible apply In.s)))))
local macro_rules | `(tactic| fail "c") => `(tactic| ((with_reducible refine chkC "any" ?_); refine xE_blt gn ?qa T.n_any boot_any ?_; (case qa => (repeat (first | with_reducible exact In.z | with_reducible apply In.s)))))
local macro_rules | `(tactic| fail "c") => `(tactic| ((with_reducible refine chkC "all" ?_); refine xE_blt gn ?qa T.n_all boot_all ?_; (case qa => (repeat (first | with_reducible exact In.z | with_reducible apply In.s)))))
local macro_rules | `(tactic| fail "c") => `(tactic| ((with_reducible refine chkC "bool" ?_); refine xE_bcl gn ?qa T.n_bool boot_bool ?_; (case qa => (repeat (first | with_reducible exact In.z | with_reducible apply In.s)))))
local macro_rules | `(tactic| fail "c") => `(tactic| ((with_reducible refine chkC "list" ?_); refine xE_bcl gn ?qa T.n_list boot_list ?_; (case qa => (repeat (first | with_reducible exact In.z | with_reducible apply In.s)))))
local macro_rules | `(tactic| fail "c") => `(tactic| ((with_reducible refine chkC "tuple" ?_); refine xE_bcl gn ?qa T.n_tuple boot_tuple ?_; (case qa => (repeat (first | with_reducible exact In.z | with_reducible apply In.s)))))
local macro_rules | `(tactic| fail "c") => `(tactic| ((with_reducible refine chkC "isinstance" ?_); refine xE_blt gn ?qa T.n_isinstance boot_isinstance ?_; (case qa => (repeat (first | with_reducible exact In.z | with_reducible apply In.s)))))
local macro_rules | `(tactic| fail "c") => `(tactic| ((with_reducible refine chkC "repr" ?_); refine xE_blt gn ?qa T.n_repr boot_repr ?_; (case qa => (repeat (first | with_reducible exact In.z | with_reducible apply In.s)))))
local macro_rules | `(tactic| fail "c") => `(tactic| ((with_reducible refine chkC "str" ?_); refine xE_bcl gn ?qa T.n_str boot_str ?_; (case qa => (repeat (first | with_reducible exact In.z | with_reducible apply In.s)))))
local macro_rules | `(tactic| fail "c") => `(tactic| ((with_reducible refine chkC "min" ?_); refine xE_blt gn ?qa T.n_min boot_min ?_; (case qa => (repeat (first | with_reducible exact In.z | with_reducible apply In.s)))))
local macro_rules | `(tactic| fail "c") => `(tactic| ((with_reducible refine chkC "max" ?_); refine xE_blt gn ?qa T.n_max boot_max ?_; (case qa => (repeat (first | with_reducible exact In.z | with_reducible apply In.s)))))
local macro_rules | `(tactic| fail "c") => `(tactic| ((with_reducible refine chkC "abs" ?_); refine xE_blt gn ?qa T.n_abs boot_abs ?_; (case qa => (repeat (first | with_reducible exact In.z | with_reducible apply In.s)))))
local macro_rules | `(tactic| fail "c") => `(tactic| ((with_reducible refine chkC "int" ?_); refine xE_bcl gn ?qa T.n_int boot_int ?_; (case qa => (repeat (first | with_reducible exact In.z | with_reducible apply In.s)))))
local macro_rules | `(tactic| fail "c") => `(tactic| ((with_reducible refine chkC "len" ?_); refine xE_blt gn ?qa T.n_len boot_len ?_; (case qa => (repeat (first | with_reducible exact In.z | with_reducible apply In.s)))))
local macro_rules | `(tactic| fail "n") => `(tactic| ((with_reducible refine chkN "list" ?_); refine xE_bty gn ?qa T.n_list boot_list ?_; (case qa => (repeat (first | with_reducible exact In.z | with_reducible apply In.s)))))
local macro_rules | `(tactic| fail "n") => `(tactic| ((with_reducible refine chkN "tuple" ?_); refine xE_bty gn ?qa T.n_tuple boot_tuple ?_; (case qa => (repeat (first | with_reducible exact In.z | with_reducible apply In.s)))))
local macro_rules | `(tactic| fail "n") => `(tactic| ((with_reducible refine chkN "str" ?_); refine xE_bty gn ?qa T.n_str boot_str ?_; (case qa => (repeat (first | with_reducible exact In.z | with_reducible apply In.s)))))
local macro_rules | `(tactic| fail "n") => `(tactic| ((with_reducible refine chkN "bool" ?_); refine xE_bty gn ?qa T.n_bool boot_bool ?_; (case qa => (repeat (first | with_reducible exact In.z | with_reducible apply In.s)))))
local macro_rules | `(tactic| fail "n") => `(tactic| ((with_reducible refine chkN "int" ?_); refine xE_bty gn ?qa T.n_int boot_int ?_; (case qa => (repeat (first | with_reducible exact In.z | with_reducible apply In.s)))))
local macro_rules | `(tactic| fail "O") => `(tactic| refine Exists.intro _ (Exists.intro _ (Exists.intro _ (Exists.intro _ (And.intro rfl (And.intro rfl (And.intro (by (first | assumption | with_reducible exact at_last | with_reducible exact at_new rfl | with_reducible exact at_left (by assumption) | with_reducible exact List.getElem?_set_self (by assumption) | with_reducible exact at_left (at_left (by assumption)))) (And.intro rfl ?_))))))))
local macro_rules | `(tactic| fail "O") => `(tactic| refine Exists.intro _ (Exists.intro _ (Exists.intro _ (And.intro rfl ?_))))
local macro_rules | `(tactic| fail "O") => `(tactic| refine Exists.intro _ (Exists.intro _ (And.intro rfl ?_)))
local macro_rules | `(tactic| fail "O") => `(tactic| refine And.intro (by (simp only [List.length_cons, List.length_nil]; decide)) ?_)
local macro_rules | `(tactic| fail "O") => `(tactic| refine Exists.intro _ (And.intro rfl ?_))
local macro_rules | `(tactic| fail "I") => `(tactic| ((with_reducible refine hdN2 ?_); (refine iteFT ?_); fail "o"))
local macro_rules | `(tactic| fail "I") => `(tactic| ((with_reducible refine hdN2 ?_); (refine iteTT ?_); fail "o"))
local macro_rules | `(tactic| fail "I") => `(tactic| ((with_reducible refine hdN1 ?_); (refine iteFT ?_); fail "o"))
local macro_rules | `(tactic| fail "I") => `(tactic| ((with_reducible refine hdN1 ?_); (refine iteTT ?_); fail "o"))
local macro_rules | `(tactic| fail "I") => `(tactic| ((with_reducible refine iteNF ?_); fail "o"))
local macro_rules | `(tactic| fail "I") => `(tactic| ((with_reducible refine iteNT ?_); fail "o"))
local macro_rules | `(tactic| fail "I") => `(tactic| ((with_reducible refine iteFT ?_); fail "o"))
local macro_rules | `(tactic| fail "I") => `(tactic| ((with_reducible refine iteTT ?_); fail "o"))
local macro_rules | `(tactic| fail "J") => `(tactic| ((with_reducible refine hdN2 ?_); (refine iteFT ?_); fail "st"))
local macro_rules | `(tactic| fail "J") => `(tactic| ((with_reducible refine hdN2 ?_); (refine iteTT ?_); fail "st"))
local macro_rules | `(tactic| fail "J") => `(tactic| ((with_reducible refine hdN1 ?_); (refine iteFT ?_); fail "st"))
local macro_rules | `(tactic| fail "J") => `(tactic| ((with_reducible refine hdN1 ?_); (refine iteTT ?_); fail "st"))
local macro_rules | `(tactic| fail "J") => `(tactic| ((with_reducible refine iteNF ?_); fail "st"))
local macro_rules | `(tactic| fail "J") => `(tactic| ((with_reducible refine iteNT ?_); fail "st"))
local macro_rules | `(tactic| fail "J") => `(tactic| ((with_reducible refine iteFT ?_); fail "st"))
local macro_rules | `(tactic| fail "J") => `(tactic| ((with_reducible refine iteTT ?_); fail "st"))
local macro_rules | `(tactic| fail "su") => `(tactic| ((with_reducible refine hdL ?_); fail "L"))
local macro_rules | `(tactic| fail "su") => `(tactic| ((with_reducible refine hdS ?_); fail "S"))
local macro_rules | `(tactic| fail "p") => `(tactic| fail "O")
local macro_rules | `(tactic| fail "p") => `(tactic| ((with_reducible refine hdH ?_); fail "H"))
local macro_rules | `(tactic| fail "p") => `(tactic| ((with_reducible refine hdG ?_); fail "G"))
local macro_rules | `(tactic| fail "p") => `(tactic| ((with_reducible refine hdP ?_); fail "P"))
local macro_rules | `(tactic| fail "p") => `(tactic| ((with_reducible refine hdU ?_); fail "U"))
local macro_rules | `(tactic| fail "p") => `(tactic| ((with_reducible refine hdW ?_); fail "W"))
local macro_rules | `(tactic| fail "p") => `(tactic| ((with_reducible refine hdC ?_); fail "C"))
local macro_rules | `(tactic| fail "p") => `(tactic| ((with_reducible refine hdX ?_); fail "X"))
local macro_rules | `(tactic| fail "p") => `(tactic| ((with_reducible refine hdF ?_); fail "F"))
local macro_rules | `(tactic| fail "p") => `(tactic| ((with_reducible refine hdB ?_); fail "B"))
local macro_rules | `(tactic| fail "p") => `(tactic| ((with_reducible refine hdA ?_); fail "A"))
local macro_rules | `(tactic| fail "p") => `(tactic| ((with_reducible refine hdE ?_); fail "E"))
local macro_rules | `(tactic| fail "st") => `(tactic| ((with_reducible refine hdI ?_); fail "J"))
local macro_rules | `(tactic| fail "st") => `(tactic| ((fail_if_success (with_reducible refine hdI ?_)); fail "su"))
local macro_rules | `(tactic| fail "o") => `(tactic| ((with_reducible refine hdI ?_); fail "I"))
local macro_rules | `(tactic| fail "o") => `(tactic| ((fail_if_success (with_reducible refine hdI ?_)); fail "p"))
local macro_rules | `(tactic| walk_at "in") => `(tactic| (repeat (first | with_reducible exact In.z | with_reducible apply In.s)))
local macro_rules | `(tactic| walk_at "at") => `(tactic| (first | assumption | with_reducible exact at_last | with_reducible exact at_new rfl | with_reducible exact at_left (by assumption) | with_reducible exact List.getElem?_set_self (by assumption) | with_reducible exact at_left (at_left (by assumption))))
local macro_rules | `(tactic| walk_at "ixd") => `(tactic| (first | exact .inl rfl | exact .inr (.inl rfl) | exact .inr (.inr (.inl rfl)) | exact .inr (.inr (.inr ⟨_, rfl, by (first | assumption | with_reducible exact at_last | with_reducible exact at_new rfl | with_reducible exact at_left (by assumption) | with_reducible exact List.getElem?_set_self (by assumption) | with_reducible exact at_left (at_left (by assumption)))⟩))))
local macro_rules | `(tactic| walk_at "ints") => `(tactic| (repeat (first | exact Ints.nil | apply Ints.cons)))
local macro_rules | `(tactic| walk_at "num") => `(tactic| (first | with_reducible assumption | omega))
local macro_rules | `(tactic| walk_at "nm") => `(tactic| (first | exact Num.rt _ | exact Num.int _ | assumption))
local macro_rules | `(tactic| walk_at "fit") => `(tactic| (first | with_reducible assumption | exact Fit.mono (by (repeat' (first | with_reducible assumption | with_reducible exact fit_two | with_reducible apply fit_add | with_reducible apply fit_sub | with_reducible apply fit_mul | with_reducible apply fit_half | with_reducible apply fit_rabs | with_reducible apply fit_neg))) (by decide) | exact Fit.mono (n := 64) (fit_int (by omega) (by decide)) (by decide)))
local macro_rules | `(tactic| walk_at "ix") => `(tactic| (repeat (first | with_reducible exact Ix.z | with_reducible exact Ix.c | with_reducible apply Ix.s)))
local macro_rules | `(tactic| walk_at "il") => `(tactic| (repeat (first | with_reducible exact Il.z | with_reducible apply Il.s)))
local macro_rules | `(tactic| walk_at "one") => `(tactic| first | fail "o" | fail "st" | refine wSs_cons ?_)
local macro_rules | `(tactic| walk_at "wp") => `(tactic| repeat (first | fail "o" | fail "st" | refine wSs_cons ?_))
local macro_rules | `(tactic| walk_at "s1") => `(tactic| (refine wSs_cons ?_; repeat (first | fail "o" | fail "st")))
local macro_rules | `(tactic| walk_at "e") => `(tactic| repeat (fail "o"))
local macro_rules | `(tactic| walk_at "start") => `(tactic| (intro ρ hρ cdv A outer s H E g; simp only [startD, List.map_cons, List.map_nil, List.length_cons, List.length_nil, List.replicate_succ, List.replicate_zero, List.cons_append, List.nil_append, Nat.reduceAdd, Nat.reduceSub] at hρ; subst hρ; have gn := g.toNx'))
local macro_rules | `(tactic| walk_at "suite") => `(tactic| (intro a dd oe pn hz hv gn ρs hρ; simp only [List.set_cons_succ, List.set_cons_zero] at hρ; subst hρ))
local macro_rules | `(tactic| walk_at "after") => `(tactic| (intro ρs hρ; simp only [List.set_cons_succ, List.set_cons_zero] at hρ; subst hρ))
local macro_rules | `(tactic| walk_at "blk") => `(tactic| (intro s H C cl fp g; have gn := g.toNx'))

section
set_option hygiene false
local macro_rules | `(tactic| fail "n") => `(tactic| ((with_reducible refine chkN "Ratio" ?_); refine xE_cls gn ?qa T.g_Ratio ?_; (case qa => (repeat (first | with_reducible exact In.z | with_reducible apply In.s)))))
local macro_rules | `(tactic| fail "n") => `(tactic| ((with_reducible refine chkN "InvalidNumber" ?_); refine xE_cls gn ?qa T.g_InvalidNumber ?_; (case qa => (repeat (first | with_reducible exact In.z | with_reducible apply In.s)))))
local macro_rules | `(tactic| fail "n") => `(tactic| ((with_reducible refine chkN "PoolError" ?_); refine xE_cls gn ?qa T.g_PoolError ?_; (case qa => (repeat (first | with_reducible exact In.z | with_reducible apply In.s)))))
section
variable {P : Program} {w : World} {K : PySem.W.Frag} {mg : Str → Option Value} {base : Heap} (T : Tx K mg)
/-- a draw: any number below m -/
theorem sp_take {μ : List M} {n : Nat} {m : Int} {Q : KV} {Z : KX} (hb : μ[n]? = some .box) (h0 : 0 < m) (h1 : m < 2 ^ 64) (h : ∀ d, 0 ≤ d → d < m → Q (.int d) μ) : SpF P w K mg base T.f_w_take [.loc n, .int m] μ Q Z := by
  refine spX_of T.F_w_take sc_w_take ck_w_take rfl ?_
  walk_at "start"
  refine wSs.some (S := fun μ1 => ∃ i j k, μ1 = μ.set n (bxI i j k)) ?_ fun K L G H o => let ⟨i, j, k, o'⟩ := (List.append_nil μ ▸ o).unbox hb; ⟨_, ⟨i, j, k, rfl⟩, o'⟩
  rintro _ ⟨i, j, k, rfl⟩
  have hn : n < μ.length := (List.getElem?_eq_some_iff.mp hb).1
  have fin : ∀ d i j k, 0 ≤ d → d < m → RetOk μ Q (.int d) (μ.set n (bxI i j k)) := fun d i j k q1 q2 => .le (le_box hb) (.same (h d q1 q2))
  walk_at "wp"
  refine br_dec (fun hi => ?_) (fun hi => ?_)
  · walk_at "wp"
    first | refine wB_fdiv ⟨h0, Nat.lt_trans (log2_lt (show m.natAbs < 2 ^ 64 by omega) (by decide)) (by decide)⟩ ?_ | skip
    walk_at "wp"
    rw [List.set_set]
    exact fin _ _ _ _ (Int.emod_nonneg _ (by omega)) (Int.emod_lt_of_pos _ h0)
  · walk_at "wp"
    rw [List.set_set]
    walk_at "wp"
    rw [List.set_set]
    walk_at "wp"
    refine br_dec (fun hm => ?_) (fun hm => ?_)
    · walk_at "wp"
      exact fin _ _ _ _ (Int.emod_nonneg _ (by omega)) (Int.emod_lt_of_pos _ h0)
    · walk_at "wp"
      exact fin _ _ _ _ (Int.emod_nonneg _ (by omega)) (Int.emod_lt_of_pos _ h0)
/-- a new box -/
theorem sp_box {μ : List M} {ns : List Int} {k : Int} {Q : KV} {Z : KX} (h0 : 0 ≤ k) (h1 : k < 1000) (h : Q (.loc μ.length) (μ ++ [.box])) : SpF P w K mg base T.f_w_box [.scr (ns.map D.int), .int k] μ Q Z := by
  refine spX_of T.F_w_box sc_w_box ck_w_box rfl ?_
  walk_at "start"
  have fin : ∀ d i j k, d = .loc (μ ++ ([] : List M)).length → RetOk μ Q d ((μ ++ []) ++ [bxI i j k]) := fun d i j k e => by
    subst e
    rw [List.append_nil]
    exact .le le_newbox (.same h)
  have rest : ∀ c : Int, ∀ {κ : Ks} {nx : KN}, κ.rt = RetOk μ Q → wSs (cxOf (L2.CX P w) P w K mg base n_w_box "_law_box" (defScope s_w_box) T.a_w_box cdv A outer s H E) (fun c d _ H => E c d H) [some (.scr (ns.map D.int)), some (.int k), some (.int c), none] (μ ++ []) ((defBody s_w_box).drop 2) nx κ := by
    intro c κ nx hκ
    walk_at "s1"
    refine wSs_cons (wS_ret ?_)
    rw [hκ]
    refine wE_lstL ?_
    walk_at "e"
    exact fin _ _ _ _ rfl
  walk_at "s1"
  walk_at "s1"
  have ln : (ns.map D.int).length = ns.length := by simp
  rw [ln]
  refine br_dec (fun hk => ?_) (fun hk => ?_)
  · walk_at "s1"
    refine wX_some (by walk_at "ixd") h0 (by rw [ln]; exact hk) fun n d e _ => ?_
    rw [List.getElem?_map] at e
    obtain ⟨i, _, rfl⟩ := Option.map_eq_some_iff.mp e
    walk_at "e"
    refine wSs_nil ?_
    exact rest i (by rfl)
  · walk_at "s1"
    rw [ln]
    refine br_dec (fun hl => ?_) (fun hl => ?_)
    · walk_at "s1"
      rw [ln]
      walk_at "e"
      refine wX_some (by walk_at "ixd") (Int.emod_nonneg _ (by omega)) (by rw [ln]; exact Int.emod_lt_of_pos _ hl) fun n d e _ => ?_
      rw [List.getElem?_map] at e
      obtain ⟨i, _, rfl⟩ := Option.map_eq_some_iff.mp e
      walk_at "e"
      refine wSs_nil (wSs_nil ?_)
      exact rest _ (by rfl)
    · refine wSs_nil (wSs_nil ?_)
      exact rest _ (by rfl)
end
end

section
set_option Elab.async false
set_option linter.all false
set_option maxRecDepth 100000
set_option maxHeartbeats 4000000
open PySem L2 PyProof.Rows
/-- a ratio -/
def rt (C : Addr) (q : Rat) : D := .obj C ["top", "bottom"] [.int q.num, .int q.den]
/-- values that are known: whether they are numbers -/
inductive Kn (K : PySem.W.Frag) (C : Addr) : D → Bool → Prop
  | int (i : Int) : Kn K C (.int i) true
  | rt (q : Rat) : Kn K C (rt C q) true
  | non : Kn K C .non false
  | bl (b : Bool) : Kn K C (.bl b) false
  | str (x : Str) : Kn K C (.str x) false
  | tup (ds : List D) : Kn K C (.tup ds) false
  | lst (ds : List D) : Kn K C (.lst ds) false
  | obj {C' : Addr} (ns : List Str) (ds : List D) : OwnC K C' → C' ≠ C → Kn K C (.obj C' ns ds) false
/-- numbers -/
inductive Num (C : Addr) : D → Rat → Prop
  | int (i : Int) : Num C (.int i) (i : Rat)
  | rt (q : Rat) : Num C (rt C q) q
def isRt (C : Addr) : D → Bool
  | .obj C' _ _ => decide (C' = C)
  | _ => false
def isI : D → Bool
  | .int _ => true
  | _ => false
def isB : D → Bool
  | .bl _ => true
  | _ => false
theorem Kn.ty {K : PySem.W.Frag} {C : Addr} {d : D} {b : Bool} (c : OwnC K C) (h : Kn K C d b) : ∃ t, TyD K d t ∧ PySem.W.kitOne K t (.ref C) = some (isRt C d) ∧ PySem.W.kitOne K t (.type "int") = some (isI d || isB d) ∧ PySem.W.kitOne K t (.type "bool") = some (isB d) := by
  cases h with
  | int i => exact ⟨_, .int, kit_ty_own c mro_int rfl, rfl, rfl⟩
  | rt q => exact ⟨_, .obj c, by simp only [PM.rt, isRt, decide_true]; exact kit_own_self, kit_own_ty c (by decide) (by decide), kit_own_ty c (by decide) (by decide)⟩
  | non => exact ⟨_, .non, kit_ty_own c mro_non rfl, rfl, rfl⟩
  | bl b => exact ⟨_, .bl, kit_ty_own c mro_bool rfl, rfl, rfl⟩
  | str x => exact ⟨_, .str, kit_ty_own c mro_str rfl, rfl, rfl⟩
  | tup ds => exact ⟨_, .tup, kit_ty_own c mro_tup rfl, rfl, rfl⟩
  | lst ds => exact ⟨_, .lst, kit_ty_own c mro_lst rfl, rfl, rfl⟩
  | obj ns ds c' ne => exact ⟨_, .obj c', by simp only [isRt, ne, decide_false]; exact kit_own_own c' c ne, kit_own_ty c' (by decide) (by decide), kit_own_ty c' (by decide) (by decide)⟩
theorem Kn.num {K : PySem.W.Frag} {C : Addr} {d : D} {b : Bool} (h : Kn K C d b) : b = (isRt C d || isI d) := by
  cases h with
  | rt q => simp [PM.rt, isRt]
  | obj ns ds c' ne => simp [isRt, isI, ne]
  | _ => rfl
theorem Kn.nb {K : PySem.W.Frag} {C : Addr} {d : D} {b : Bool} (h : Kn K C d b) : ((isI d || isB d) && !isB d) = isI d := by
  cases h <;> rfl
section
variable {P : Program} {w : World} {K : PySem.W.Frag} {mg : Str → Option Value} {base : Heap} (T : Tx K mg)
def R_is_integer (T : Tx K mg) : Rl := fun ds μ o => ∃ d b, ds = [d] ∧ Kn K T.C_Ratio d b ∧ o = .ret (.bl (isI d)) μ
def R_is_number (T : Tx K mg) : Rl := fun ds μ o => ∃ d b, ds = [d] ∧ Kn K T.C_Ratio d b ∧ o = .ret (.bl b) μ
end
end


section
set_option Elab.async false
set_option linter.all false
set_option maxRecDepth 100000
set_option maxHeartbeats 4000000
open PySem L2 PyProof.Rows
section
variable {P : Program} {w : World} {K : PySem.W.Frag} {mg : Str → Option Value} {base : Heap} (T : Tx K mg)
def R_gcd : Rl := fun ds μ o => ∃ a b : Nat, ds = [.int a, .int b] ∧ o = .ret (.int (Nat.gcd a b : Nat)) μ
theorem ok_common_divisor : FnG P w K mg base 1 T.a_common_divisor T.fd_common_divisor ["one", "other"] (spR K R_gcd) := by
  refine fnR T.F_common_divisor sc_common_divisor (fun ds μ o ⟨d, b, e, _⟩ => by rw [e]; rfl) fun cdv A outer s H E g ds μ o h => ?_
  obtain ⟨a, b, rfl, rfl⟩ := h
  refine ⟨_, .ret0, ess_cons (es_whileM (S := Nat × Nat) (fun s => [some (.int s.1), some (.int s.2)]) (fun _ => μ) (fun s => s.2) (fun s => decide (0 < (s.2 : Int))) (fun s => (s.2, s.1 % s.2)) (fun s => (Nat.gcd s.1 s.2, 0)) g (a, b)
    (fun s => et_cmp (ev_var 1 rfl) ev_int oc_gt) (fun s hs => ?_) (fun s hs => ?_) (fun s hs => ?_) (fun s hs => ?_)) (ess_one (es_retV (ev_var 0 rfl)))⟩
  · refine ess_one ?_
    rw [Int.natCast_emod]
    exact es_par 0 1 g (ev_cons (ev_var 1 rfl) (ev_cons (ev_opI (ev_var 0 rfl) (ev_var 1 rfl) (oo_mod (of_decide_eq_true hs))) ev_nil))
  · have := of_decide_eq_true hs
    exact Nat.mod_lt _ (by omega)
  · have h0 := of_decide_eq_false hs
    have : s.2 = 0 := by omega
    obtain ⟨x, y⟩ := s
    simp only at this
    subst this
    simp
  · obtain ⟨x, y⟩ := s
    simp only [Prod.mk.injEq, and_true]
    rw [Nat.gcd_comm x y, Nat.gcd_rec y x, Nat.gcd_comm]
theorem err_InvalidNumber : ErrC P w K mg base T.C_InvalidNumber ["value"] :=
  ⟨T.oex_InvalidNumber, _, _, _, _, T.i_InvalidNumber, T.t_InvalidNumber, fn_I1 (f := "value") (FunD.plain T.F_InvalidNumber_init) sc_InvalidNumber_init T.oex_InvalidNumber T.na_InvalidNumber_value (fun cdv A outer s H E => pss_cons (ps_expr (pe_upinit rfl T.g_PoolError T.up_PoolError (pa_cons (pv 0) pa_nil))) (pss_one (ps_ost (pv 0) (pv 1)))), T.b_InvalidNumber_init, .inl ⟨_, rfl, rfl⟩⟩
/-- Ratio.__init__ -/
def R_init (T : Tx K mg) : Rl := fun ds μ o => ∃ n t b, ds = [.loc n, .int t, .int b] ∧ μ[n]? = some (.ins T.C_Ratio [] []) ∧
  ((b = 0 ∧ o = .exc T.C_InvalidNumber ["value"] [.int 0] μ) ∨ (b ≠ 0 ∧ b.natAbs < 2 ^ 9000 ∧ o = .ret .non (μ.set n (.ins T.C_Ratio ["top", "bottom"] [.int (Rat.divInt t b).num, .int (Rat.divInt t b).den]))))
theorem gcd_fits {t b : Int} (hb : 0 < b) (h : b.natAbs < 2 ^ 9000) : CDivW t (Nat.gcd t.natAbs b.natAbs : Nat) := by
  have h0 : 0 < Nat.gcd t.natAbs b.natAbs := Nat.gcd_pos_of_pos_right _ (by omega)
  refine ⟨by omega, ?_⟩
  exact log2_lt (Nat.lt_of_le_of_lt (Nat.gcd_le_right _ (by omega)) h) (by decide)
theorem ok_Ratio_init : FnG P w K mg base 3 T.a_Ratio_init T.fd_Ratio_init ["self", "top", "bottom"] (spR K (R_init T)) := by
  refine fnR T.F_Ratio_init sc_Ratio_init (fun ds μ o ⟨n, t, b, e, _⟩ => by rw [e]; rfl) fun cdv A outer s H E g ds μ o h => ?_
  obtain ⟨n, t, b, rfl, hn, h⟩ := h
  rcases h with ⟨hb, rfl⟩ | ⟨hb, hz, rfl⟩
  · exact ⟨_, .exc0, ess_stop (es_ifT (et_cmp (ev_var 2 rfl) ev_int oc_eq) (decide_eq_true hb) (ess_one (es_raise g (err_InvalidNumber T) T.g_InvalidNumber (ev_cons ev_int ev_nil) rfl))) trivial⟩
  · have rest : ∀ t' b' : Int, 0 < b' → b'.natAbs < 2 ^ 9000 → Rat.divInt t' b' = Rat.divInt t b → PSs (cxOf (L2.CX P w) P w K mg base n_Ratio_init "Ratio.__init__" (defScope s_Ratio_init) T.a_Ratio_init cdv A outer s H E) ((defBody s_Ratio_init).drop 2)
        (tS (fun c d _ H => E c d H) K [some (.loc n), some (.int t'), some (.int b'), none] μ (.next [some (.loc n), some (.int t'), some (.int b'), some (.int (Nat.gcd t'.natAbs b'.natAbs : Nat))] (μ.set n (.ins T.C_Ratio ["top", "bottom"] [.int (Rat.divInt t b).num, .int (Rat.divInt t b).den])))) := by
      intro t' b' h0 hz' he
      have e2 : (b' : Int) = (b'.natAbs : Int) := by omega
      refine ess_cons (es_setV 3 g.nd (ev_callV g ⟨ok_common_divisor T, T.b_common_divisor⟩ T.g_common_divisor T.F_common_divisor.kp (ev_cons (ev_bltV (ev_cons (ev_var 1 rfl) ev_nil) cb_abs T.n_abs boot_abs) (ev_cons (ev_var 2 rfl) ev_nil)) ⟨t'.natAbs, b'.natAbs, by rw [← e2, show (if t' < 0 then -t' else t') = (t'.natAbs : Int) by split <;> omega], rfl⟩)) ?_
      refine ess_cons (es_fld (i := n) (ev_opI (ev_var 1 rfl) (ev_var 3 rfl) (oo_fdiv (gcd_fits h0 hz'))) (ev_var 0 rfl) hn T.own_Ratio.cl T.na_Ratio_top) ?_
      refine ess_one (es_eq (es_fld (i := n) (ev_opI (ev_var 2 rfl) (ev_var 3 rfl) (oo_fdiv (gcd_fits h0 hz'))) (ev_var 0 rfl) (by rw [List.getElem?_set_self (List.getElem?_eq_some_iff.mp hn).1]) T.own_Ratio.cl T.na_Ratio_bottom) ?_)
      rw [← he, divInt_num h0, divInt_den h0, List.set_set]
      rfl
    refine ⟨.next [some (.loc n), some (.int (if b < 0 then -t else t)), some (.int (if b < 0 then -b else b)), some (.int (Nat.gcd (if b < 0 then -t else t).natAbs (if b < 0 then -b else b).natAbs : Nat))] _, .next0, ess_cons (es_ifF (et_cmp (ev_var 2 rfl) ev_int oc_eq) (decide_eq_false hb) ess_nil) ?_⟩
    by_cases hn0 : b < 0
    · simp only [hn0, if_true]
      refine ess_cons (es_ifT (et_cmp (ev_var 2 rfl) ev_int oc_lt) (decide_eq_true hn0) (ess_one (es_par 1 2 g (ev_cons (ev_unI (ev_var 1 rfl) ou_neg) (ev_cons (ev_unI (ev_var 2 rfl) ou_neg) ev_nil))))) ?_
      exact rest (-t) (-b) (by omega) (by omega) (Rat.neg_divInt_neg t b)
    · simp only [hn0, if_false]
      exact ess_cons (es_ifF (et_cmp (ev_var 2 rfl) ev_int oc_lt) (decide_eq_false hn0) ess_nil) (rest t b (by omega) hz rfl)
end
end


section
set_option Elab.async false
set_option linter.all false
set_option maxRecDepth 100000
set_option maxHeartbeats 4000000
set_option exponentiation.threshold 20000
open PySem L2 PyProof.Rows
theorem lt_pow_mono {a n m : Nat} (h : a < 2 ^ n) (l : n ≤ m) : a < 2 ^ m := Nat.lt_of_lt_of_le h (Nat.pow_le_pow_right (by decide) l)
theorem Fit.n {n : Nat} {q : Rat} (h : Fit n q) : q.num.natAbs < 2 ^ n := h.1
theorem Fit.d {n : Nat} {q : Rat} (h : Fit n q) : (q.den : Int).natAbs < 2 ^ n := h.2
theorem dm_ne (q r : Rat) : (q.den : Int) * r.den ≠ 0 := Int.mul_ne_zero (by have := q.den_pos; omega) (by have := r.den_pos; omega)
theorem fit_int {n : Nat} {i : Int} (h : i.natAbs < 2 ^ n) (hn : 0 < n) : Fit n (i : Rat) := ⟨h, by
  show 1 < 2 ^ n
  exact Nat.one_lt_two_pow (by omega)⟩
theorem fit_neg {n : Nat} {q : Rat} (h : Fit n q) : Fit n (-q) := ⟨by rw [Rat.neg_num, Int.natAbs_neg]; exact h.1, h.2⟩
theorem fit_mul {n m : Nat} {q r : Rat} (h1 : Fit n q) (h2 : Fit m r) : Fit (n + m) (q * r) := by
  rw [mul_rt]
  refine fit_divInt ?_ ?_ (dm_ne q r)
  · rw [Int.natAbs_mul]; exact mul_lt_pow h1.n h2.n
  · rw [Int.natAbs_mul]; exact mul_lt_pow h1.d h2.d
section
variable {K : PySem.W.Frag} {mg : Str → Option Value} (T : Tx K mg)
theorem mkR {t b : Int} {μ : List M} (hb : b ≠ 0) (hz : b.natAbs < 2 ^ 9000) : MakeR (R_init T) T.C_Ratio [.int t, .int b] μ (.ret (rt T.C_Ratio (Rat.divInt t b)) μ) := by
  refine .obj (ns := ["top", "bottom"]) (fs := [.int (Rat.divInt t b).num, .int (Rat.divInt t b).den]) ⟨μ.length, t, b, rfl, by simp, .inr ⟨hb, hz, ?_⟩⟩ (.refl _) rfl rfl
  rw [List.set_append_right _ _ (Nat.le_refl _)]
  simp
theorem Tx.bR3 : Binds K T.fd_Ratio_init ["self", "top", "bottom"] [] := by
  obtain ⟨ds, h1, h2⟩ := T.b_Ratio_init
  cases h1
  exact h2
end
section
variable {X : Cx} {W : WX} {k : Nat} {T : Tx X.K X.mg} {ρ : Env'} {μ μ1 μ2 : List M} {a b e : Expr} {p pos : Pos} {d : D} {q r : Rat} {t u : Int}
end
section
variable {P : Program} {w : World} {K : PySem.W.Frag} {mg : Str → Option Value} {base : Heap} (T : Tx K mg)
def R_as_ratio (T : Tx K mg) : Rl := fun ds μ o => ∃ d, ds = [d] ∧ ((∃ q, Num T.C_Ratio d q ∧ o = .ret (rt T.C_Ratio q) μ) ∨ (Kn K T.C_Ratio d false ∧ o = .exc T.C_InvalidNumber ["value"] [d] μ))
end
end


section
set_option Elab.async false
set_option linter.all false
set_option maxRecDepth 100000
set_option maxHeartbeats 4000000
set_option exponentiation.threshold 20000
open PySem L2 PyProof.Rows
section
variable {X : Cx} {W : WX} {k : Nat} {T : Tx X.K X.mg} {ρ : Env'} {μ : List M} {e : Expr} {pos : Pos} {d : D} {q r : Rat} {t u : Int} {Q : KV} {Z : KX}
/-- Ratio(t, u), Ratio(t) -/
theorem wF_R2 (T : Tx X.K X.mg) (g : Gd X W k) (hb : u ≠ 0) (hz : u.natAbs < 2 ^ 9000) (h : Q (rt T.C_Ratio (Rat.divInt t u)) μ) (hk : 4 ≤ k := by decide) : wF X W (fun us => call (.ref T.C_Ratio) us) [.int t, .int u] μ Q Z :=
  .of (o := .ret _ _) (makeO (dvs := []) (dds := []) T.mk_Ratio (ok_Ratio_init T) T.bR3 .nil (fun _ _ => Reps.nil) g hk (by exact mkR T hb hz)) h
theorem int_divInt (t : Int) : (t : Rat) = Rat.divInt t 1 := by rw [Rat.divInt_eq_div, Rat.intCast_one]; grind
theorem wF_R1 (T : Tx X.K X.mg) (g : Gd X W k) (h : Q (rt T.C_Ratio (t : Rat)) μ) (hk : 4 ≤ k := by decide) : wF X W (fun us => call (.ref T.C_Ratio) us) [.int t] μ Q Z := by
  obtain ⟨ds, q1, q2⟩ := T.b_Ratio_init_2
  rw [int_divInt] at h
  exact .of (o := .ret _ _) (makeO (dds := [.int 1]) T.mk_Ratio (ok_Ratio_init T) q2 q1 (fun _ _ => Reps.cons (rep_int.mpr rfl) Reps.nil) g hk (by exact mkR T (by decide) (by decide))) h
/-- q.top, q.bottom -/
theorem wE_top (T : Tx X.K X.mg) (h : wE X W ρ μ e (fun d μ1 => ∃ q, d = rt T.C_Ratio q ∧ Q (.int q.num) μ1) Z) (hb : attributeBase e "top" X.env (eval e X.env) = eval e X.env := by rfl) : wE X W ρ μ (.Attribute e "top" pos) Q Z :=
  wE_fld (h.imp fun d μ1 ⟨q, ed, hq⟩ => ⟨_, _, .inl ed, _, rfl, hq⟩) T.own_Ratio.cl T.na_Ratio_top hb
theorem wE_bot (T : Tx X.K X.mg) (h : wE X W ρ μ e (fun d μ1 => ∃ q, d = rt T.C_Ratio q ∧ Q (.int q.den) μ1) Z) (hb : attributeBase e "bottom" X.env (eval e X.env) = eval e X.env := by rfl) : wE X W ρ μ (.Attribute e "bottom" pos) Q Z :=
  wE_fld (h.imp fun d μ1 ⟨q, ed, hq⟩ => ⟨_, _, .inl ed, _, rfl, hq⟩) T.own_Ratio.cl T.na_Ratio_bottom hb
theorem wF_isRt {C : Addr} (c : OwnC X.K C) (h : Q (.bl true) μ) : wF X W (fun us => call (.builtin "isinstance") us) [rt C q, .ref C] μ Q Z := by
  obtain ⟨t, ty, h0, _, _⟩ := (Kn.rt (K := X.K) (C := C) q).ty c
  refine wF_isi ty (.own _) h0 ?_
  simp only [rt, isRt, decide_true]
  exact h
/-- isinstance of plain values and built-in classes -/
theorem wF_isII (h : Q (.bl true) μ) : wF X W (fun us => call (.builtin "isinstance") us) [.int t, .ty "int"] μ Q Z := wF_isi .int (.ty "int") rfl h
theorem wF_isIB (h : Q (.bl false) μ) : wF X W (fun us => call (.builtin "isinstance") us) [.int t, .ty "bool"] μ Q Z := wF_isi .int (.ty "bool") rfl h
theorem wF_isBB {b : Bool} (h : Q (.bl true) μ) : wF X W (fun us => call (.builtin "isinstance") us) [.bl b, .ty "bool"] μ Q Z := wF_isi .bl (.ty "bool") rfl h
end
end



section
set_option hygiene false
local macro_rules | `(tactic| fail "n") => `(tactic| ((with_reducible refine chkN "Ratio" ?_); refine xE_cls gn ?qa T.g_Ratio ?_; (case qa => (repeat (first | with_reducible exact In.z | with_reducible apply In.s)))))
local macro_rules | `(tactic| fail "n") => `(tactic| ((with_reducible refine chkN "InvalidNumber" ?_); refine xE_cls gn ?qa T.g_InvalidNumber ?_; (case qa => (repeat (first | with_reducible exact In.z | with_reducible apply In.s)))))
local macro_rules | `(tactic| fail "n") => `(tactic| ((with_reducible refine chkN "PoolError" ?_); refine xE_cls gn ?qa T.g_PoolError ?_; (case qa => (repeat (first | with_reducible exact In.z | with_reducible apply In.s)))))
def tx (i : Int) : Str := toString i
/-- the text of a ratio -/
def txR (q : Rat) : Str := if q.den = 1 then tx q.num else tx q.num ++ Str.ofString "/" ++ tx q.den
def txP (q : Rat) : Str := Str.ofString "Ratio(" ++ tx q.num ++ Str.ofString ", " ++ tx q.den ++ Str.ofString ")"
section
variable {P : Program} {w : World} {K : PySem.W.Frag} {mg : Str → Option Value} {base : Heap} (T : Tx K mg)
def R1s (T : Tx K mg) (f : Rat → D) : Rl := fun ds μ o => ∃ q, ds = [rt T.C_Ratio q] ∧ Fit 1000 q ∧ o = .ret (f q) μ
end
end

section
set_option Elab.async false
set_option linter.all false
set_option maxRecDepth 100000
set_option maxHeartbeats 4000000
open PySem L2 PyProof.Rows TL
/-! texts of numbers, sign by sign -/
theorem tl_of (s : String) : tl (Str.ofString s) = s.toList.map Char.toNat := tl_ofString s
theorem tl_txN (n : Nat) : tl (tx (n : Int)) = numL n := tl_num n
theorem tl_txM {i : Int} (h : i < 0) : tl (tx i) = 45 :: numL i.natAbs := by
  unfold tx
  show tl (Str.ofString (toString i)) = _
  rw [toString_neg h, tl_ofString, String.toList_append, List.map_append]
  have e : (0 : Int) - i = ((i.natAbs : Nat) : Int) := by omega
  have e2 := tl_num i.natAbs
  rw [tl_ofString] at e2
  rw [e, e2]
  rfl
def sgL (i : Int) : List Nat := if i < 0 then [45] else []
theorem tl_tx (i : Int) : tl (tx i) = sgL i ++ numL i.natAbs := by
  unfold sgL
  by_cases h : i < 0
  · rw [if_pos h, tl_txM h]; rfl
  · rw [if_neg h, List.nil_append, ← tl_txN, show ((i.natAbs : Nat) : Int) = i by omega]
def dnL (d : Nat) : List Nat := if d = 1 then [] else 47 :: numL d
theorem tl_txR (q : Rat) : tl (txR q) = sgL q.num ++ (numL q.num.natAbs ++ dnL q.den) := by
  unfold txR dnL
  by_cases h : q.den = 1
  · rw [if_pos h, if_pos h, tl_tx, List.append_nil]
  · rw [if_neg h, if_neg h, tl_append, tl_append, tl_tx, tl_txN, tl_of, List.append_assoc, List.append_assoc]
    rfl
/-- the text behind the sign -/
def absT (q : Rat) : Str := if q.den = 1 then tx (q.num.natAbs : Int) else tx (q.num.natAbs : Int) ++ Str.ofString "/" ++ tx q.den
/-- a number without digits ahead of it that are 0 -/
theorem numL_zero : ∀ (n : Nat), (numL n).head? = some 48 → n = 0 ∧ numL n = [48] := by
  intro n
  induction n using Nat.strongRecOn with
  | _ n ih =>
    intro h
    by_cases hn : n < 10
    · rw [numL_lt hn] at h ⊢
      simp at h
      exact ⟨h, by rw [h]⟩
    · rw [numL_step (by omega)] at h
      have hne := numL_ne (n / 10)
      have h2 : (numL (n / 10)).head? = some 48 := by
        cases hc : numL (n / 10) with
        | nil => exact absurd hc hne
        | cons c r => rw [hc] at h; simpa using h
      have := (ih (n / 10) (by omega) h2).1
      omega
end


section
set_option Elab.async false
set_option linter.all false
set_option maxRecDepth 100000
set_option maxHeartbeats 4000000
/-! which texts tell a number, which a ratio -/
open PySem L2 PyProof.Rows TL
/-- x is the text of n, of at most 1000 digits -/
def IsN (x : Str) (n : Nat) : Prop := tl x = numL n ∧ (numL n).length ≤ 1000
theorem IsN.inj {x : Str} {m n : Nat} (h1 : IsN x m) (h2 : IsN x n) : m = n := numL_inj (h1.1.symm.trans h2.1)
open Classical in
noncomputable def dv (x : Str) : Option Nat := if h : ∃ n, IsN x n then some h.choose else none
theorem dv_some {x : Str} {n : Nat} : dv x = some n ↔ IsN x n := by
  unfold dv
  constructor
  · intro h
    split at h
    · rename_i hx
      cases h
      exact hx.choose_spec
    · cases h
  · intro h
    rw [dif_pos ⟨n, h⟩]
    exact congrArg some (IsN.inj (Exists.choose_spec (p := fun n => IsN x n) ⟨n, h⟩) h)
theorem dv_none {x : Str} (h : ∀ n, ¬ IsN x n) : dv x = none := by
  unfold dv
  exact dif_neg fun ⟨n, hn⟩ => h n hn
theorem val_of (l : List Nat) (h0 : l ≠ []) (h1 : ∀ c ∈ l, 48 ≤ c ∧ c ≤ 57) (h2 : ¬ (l.head? = some 48 ∧ 1 < l.length)) : ∃ n, l = numL n := by
  suffices ∀ (k : Nat) (l : List Nat), l.length = k → l ≠ [] → (∀ c ∈ l, 48 ≤ c ∧ c ≤ 57) → ¬ (l.head? = some 48 ∧ 1 < l.length) → ∃ n, l = numL n from this _ l rfl h0 h1 h2
  intro k
  induction k with
  | zero => intro l e h0; exact absurd (List.length_eq_zero_iff.mp e) h0
  | succ k ih =>
    intro l e h0 h1 h2
    obtain ⟨r, c, rfl⟩ : ∃ r c, l = r ++ [c] := ⟨l.dropLast, l.getLast h0, (List.dropLast_concat_getLast h0).symm⟩
    have hc := h1 c (by simp)
    cases r with
    | nil =>
      refine ⟨c - 48, ?_⟩
      rw [numL_lt (by omega)]
      show [c] = _
      congr 1
      omega
    | cons d r =>
      have e' : (d :: r).length = k := by simpa using e
      have hd := h1 d (by simp)
      have hn48 : d ≠ 48 := fun z => h2 ⟨by rw [z]; rfl, by simp⟩
      obtain ⟨m, hm⟩ := ih (d :: r) e' (by simp) (fun c hc => h1 c (List.mem_append_left _ hc)) (fun ⟨z, _⟩ => hn48 (by simpa using z))
      have m0 : 0 < m := by
        cases m with
        | zero =>
          rw [numL_lt (by decide)] at hm
          exact absurd (List.cons.inj hm).1 hn48
        | succ m => omega
      refine ⟨10 * m + (c - 48), ?_⟩
      rw [numL_step (by omega), hm, show (10 * m + (c - 48)) / 10 = m by omega, show (10 * m + (c - 48)) % 10 = c - 48 by omega]
      congr 2
      omega
/-- what is asked of a text of digits -/
theorem dv_of {x : Str} (h1 : 1 ≤ x.length) (h2 : x.length ≤ 1000) (h3 : ∀ c ∈ tl x, 48 ≤ c ∧ c ≤ 57) (h4 : ¬ ((tl x).head? = some 48 ∧ 1 < x.length)) : ∃ n, dv x = some n := by
  rw [len_tl] at h1 h2 h4
  obtain ⟨n, hn⟩ := val_of (tl x) (fun z => by rw [z] at h1; exact absurd h1 (by decide)) h3 h4
  exact ⟨n, dv_some.mpr ⟨hn, by rw [← hn]; exact h2⟩⟩
theorem isN_len {x : Str} {n : Nat} (h : IsN x n) : 1 ≤ x.length ∧ x.length ≤ 1000 := by
  rw [len_tl, h.1]
  exact ⟨List.length_pos_iff.mpr (numL_ne n), h.2⟩
theorem isN_dig {x : Str} {n : Nat} (h : IsN x n) : ∀ c ∈ tl x, 48 ≤ c ∧ c ≤ 57 := by
  rw [h.1]
  exact fun c hc => by have := numL_digits n c hc; omega
theorem isN_head {x : Str} {n : Nat} (h : IsN x n) : ¬ ((tl x).head? = some 48 ∧ 1 < x.length) := by
  rw [len_tl, h.1]
  rintro ⟨a, b⟩
  rw [(numL_zero n a).2] at b
  exact absurd b (by decide)
theorem isN_tx {x : Str} {n : Nat} (h : IsN x n) : x = tx (n : Int) := ext_tl (by rw [h.1, tl_txN])
theorem isN_int {x : Str} {n : Nat} (h : IsN x n) : PySem.intText? x = some (n : Int) := by
  rw [isN_tx h]
  exact int_num (Nat.le_trans h.2 (by decide))
theorem numL_low : ∀ (k n : Nat), (numL n).length ≤ k → n < 10 ^ k
  | 0, n, h => absurd h (by have := List.length_pos_iff.mpr (numL_ne n); omega)
  | k + 1, n, h => by
    by_cases hn : n < 10
    · exact Nat.lt_of_lt_of_le hn (by rw [Nat.pow_succ]; have := Nat.pow_pos (n := k) (show 0 < 10 by decide); omega)
    · rw [numL_step (by omega), List.length_append] at h
      have := numL_low k (n / 10) (by simp at h; exact h)
      rw [Nat.pow_succ]
      omega
theorem isN_low {x : Str} {n : Nat} (h : IsN x n) : n < 10 ^ 1000 := numL_low 1000 n h.2
theorem lim_2 : 10 ^ 1000 ≤ 2 ^ 3400 := by decide +kernel
theorem lim_3 : 10 ^ 1000 ≤ 10 ^ 4300 := Nat.pow_le_pow_right (by decide) (by decide)
/-! a text cut at its sign and at its slash -/
def SL : Str := Str.ofString "/"
def MI : Str := Str.ofString "-"
theorem tl_SL : tl SL = [47] := rfl
theorem tl_MI : tl MI = [45] := rfl
def glue (a : Str) : Option Str → Str
  | none => a
  | some c => a ++ SL ++ c
/-- x: s: with a minus; a: ahead of the first slash; oc: behind it -/
structure Par (x : Str) (s : Bool) (a : Str) (oc : Option Str) : Prop where
  st : Txt.startswith x MI = s
  up : decide (cutS x none (some ((1 : Nat) : Int)) = MI) = s
  cut : cutS x (some ((s.toNat : Nat) : Int)) none = glue a oc
  fr : 47 ∉ tl a
  tx : tl x = (if s then [45] else []) ++ tl (glue a oc)
theorem starts_tl (x : Str) : Txt.startswith x MI = decide ((tl x).head? = some 45) := by
  have lx := len_tl x
  have ly : MI.length = 1 := rfl
  have hy : MI.cps.toList = [45] := rfl
  unfold Txt.startswith
  rw [StrLaws.subAt_eq, show x.cps.toList = tl x from rfl, ly, hy]
  cases hn : tl x with
  | nil => rw [hn] at lx; rw [lx]; rfl
  | cons c r =>
    rw [hn] at lx
    rw [lx, decide_eq_true (show 0 + 1 ≤ (c :: r).length by simp), Bool.true_and]
    rw [Bool.eq_iff_iff]
    simp
theorem cut_hd (x : Str) : tl (cutS x none (some ((1 : Nat) : Int))) = (tl x).take 1 := by
  show List.take _ (List.drop _ (tl x)) = _
  rw [HT.sIx_nat, HT.sIx_none, List.drop_zero, Nat.sub_zero]
  have lx := len_tl x
  rw [lx]
  cases hn : tl x with
  | nil => rfl
  | cons c r => rw [show min 1 (c :: r).length = 1 by simp]
theorem cut_tail (x : Str) (k : Nat) : tl (cutS x (some ((k : Nat) : Int)) none) = (tl x).drop k := by
  show List.take _ (List.drop _ (tl x)) = _
  have lx := len_tl x
  rw [HT.sIx_nat, show HT.sIx x.length x.length none = x.length from rfl, lx]
  by_cases h : k ≤ (tl x).length
  · rw [Nat.min_eq_left h, List.take_of_length_le (by rw [List.length_drop]; omega)]
  · rw [Nat.min_eq_right (by omega), List.drop_eq_nil_of_le (Nat.le_refl _), List.drop_eq_nil_of_le (by omega), List.take_nil]
theorem split1 : ∀ l : List Nat, 47 ∉ l ∨ ∃ p r, l = p ++ 47 :: r ∧ 47 ∉ p
  | [] => .inl (by simp)
  | c :: l => by
    by_cases hc : c = 47
    · exact .inr ⟨[], l, by rw [hc]; rfl, by simp⟩
    · rcases split1 l with h | ⟨p, r, e, hp⟩
      · exact .inl (by simp only [List.mem_cons, not_or]; exact ⟨fun z => hc z.symm, h⟩)
      · exact .inr ⟨c :: p, r, by rw [e]; rfl, by simp only [List.mem_cons, not_or]; exact ⟨fun z => hc z.symm, hp⟩⟩
theorem glue_ex (b : Str) : ∃ a oc, b = glue a oc ∧ 47 ∉ tl a := by
  rcases split1 (tl b) with h | ⟨p, r, e, hp⟩
  · exact ⟨b, none, rfl, h⟩
  · refine ⟨⟨p.toArray⟩, some ⟨r.toArray⟩, ext_tl ?_, hp⟩
    show tl b = tl (_ ++ SL ++ _)
    rw [tl_append, tl_append, tl_SL, e]
    show _ = p ++ [47] ++ r
    simp
theorem par_ex (x : Str) : ∃ s a oc, Par x s a oc := by
  obtain ⟨a, oc, e, h⟩ := glue_ex (cutS x (some (((decide ((tl x).head? = some 45)).toNat : Nat) : Int)) none)
  refine ⟨decide ((tl x).head? = some 45), a, oc, starts_tl x, ?_, e, h, ?_⟩
  · rw [Bool.eq_iff_iff, decide_eq_true_eq, decide_eq_true_eq]
    constructor
    · intro z
      have z := congrArg tl z
      rw [cut_hd, tl_MI] at z
      cases hn : tl x with
      | nil => rw [hn] at z; cases z
      | cons c r => rw [hn] at z; simpa using z
    · intro z
      refine ext_tl ?_
      rw [cut_hd, tl_MI]
      cases hn : tl x with
      | nil => rw [hn] at z; cases z
      | cons c r => rw [hn] at z; simpa using z
  · have e2 := congrArg tl e
    rw [cut_tail] at e2
    rw [← e2]
    cases hn : tl x with
    | nil => rfl
    | cons c r =>
      by_cases hc : c = 45
      · subst hc; rfl
      · have : decide ((c :: r).head? = some 45) = false := decide_eq_false (by simpa using hc)
        rw [this]
        rfl
theorem part_glue {a : Str} (h : 47 ∉ tl a) (oc : Option Str) : Txt.partition (glue a oc) SL = (a, if oc.isSome then SL else Str.empty, oc.getD Str.empty) := by
  cases oc with
  | none => exact partition_none (s := 47) (S := []) rfl h
  | some c => exact partition_app (s := 47) (S := []) rfl h
theorem spl_ne (S : List Nat) : ∀ (n : Nat) (acc l : List Nat), spl S n acc l ≠ [] := by
  intro n acc l
  induction l generalizing n acc with
  | nil => rw [spl_nil]; simp
  | cons c l ih =>
    cases n with
    | succ n => exact ih n acc
    | zero =>
      show (if pre S (c :: l) = true then acc :: spl S (S.length - 1) [] l else spl S 0 (acc ++ [c]) l) ≠ []
      split
      · simp
      · exact ih _ _
theorem spl_glue {a : Str} (h : 47 ∉ tl a) (oc : Option Str) : (Txt.split (glue a oc) SL).map tl = tl a :: (match oc with | none => [] | some c => spl [47] 0 [] (tl c)) := by
  rw [split_spl _ SL (by simp [tl_SL]) (kind_ok (by decide +kernel)), tl_SL]
  cases oc with
  | none => exact spl_last1 h
  | some c =>
    show spl [47] 0 [] (tl (a ++ SL ++ c)) = _
    rw [tl_append, tl_append, tl_SL, List.append_assoc]
    exact spl_part1 h
/-- parts between slashes: one, two, or more -/
theorem split_glue {a : Str} (h : 47 ∉ tl a) (oc : Option Str) : (oc = none ∧ Txt.split (glue a oc) SL = [a]) ∨ (∃ c, oc = some c ∧ Txt.split (glue a oc) SL = [a, c]) ∨ (∃ c, oc = some c ∧ dv c = none ∧ 2 < (Txt.split (glue a oc) SL).length) := by
  have e := spl_glue h oc
  cases oc with
  | none => exact .inl ⟨rfl, map_tl_inj e⟩
  | some c =>
    right
    rcases split1 (tl c) with hc | ⟨p, r, ec, hp⟩
    · left
      refine ⟨c, rfl, map_tl_inj ?_⟩
      rw [e, show (match (some c : Option Str) with | none => [] | some c => spl [47] 0 [] (tl c)) = spl [47] 0 [] (tl c) from rfl, spl_last1 hc]
      rfl
    · right
      refine ⟨c, rfl, dv_none fun n hn => ?_, ?_⟩
      · have := isN_dig hn 47 (by rw [ec]; simp)
        omega
      · rw [← List.length_map (f := tl), e]
        show 2 < (tl a :: spl [47] 0 [] (tl c)).length
        rw [ec, show p ++ 47 :: r = p ++ ([47] ++ r) from rfl, spl_part1 hp]
        have := List.length_pos_iff.mpr (spl_ne [47] 0 [] r)
        simp only [List.length_cons]
        omega
def sgn (s : Bool) : Int := if s then -1 else 1
/-- what the parts tell -/
def fin5 (s : Bool) (x : Str) : Option Nat → Option (Option Nat) → Option Rat
  | some t, none => if t = 0 ∧ x ≠ Str.ofString "0" then none else some (Rat.divInt (sgn s * t) 1)
  | some t, some (some b) => if b = 0 ∨ (t = 0 ∧ x ≠ Str.ofString "0") then none else if b = 1 ∨ 1 < Nat.gcd t b then none else some (Rat.divInt (sgn s * t) b)
  | _, _ => none
theorem sgn_nat (s : Bool) (t : Nat) : (sgn s * (t : Int)).natAbs = t := by cases s <;> simp [sgn]
theorem fin5_num {s : Bool} {x : Str} {ot : Option Nat} {ob : Option (Option Nat)} {q : Rat} (h : fin5 s x ot ob = some q) : ∃ t b : Nat, ot = some t ∧ (ob = none ∧ b = 1 ∨ ob = some (some b) ∧ b ≠ 1) ∧ q.num = sgn s * t ∧ q.den = b ∧ (t = 0 → x = Str.ofString "0") := by
  cases ot with
  | none => cases ob <;> cases h
  | some t =>
    cases ob with
    | none =>
      dsimp only [fin5] at h
      split at h
      · cases h
      · rename_i hn
        cases h
        exact ⟨t, 1, rfl, .inl ⟨rfl, rfl⟩, by rw [divInt_num (by decide)]; simp, by have := divInt_den (t := sgn s * (t : Int)) (b := 1) (by decide); simp at this; exact Int.ofNat.inj this, fun z => Classical.byContradiction fun w => hn ⟨z, w⟩⟩
    | some ob =>
      cases ob with
      | none => cases h
      | some b =>
        dsimp only [fin5] at h
        split at h
        · cases h
        · rename_i hn
          split at h
          · cases h
          · rename_i hg
            cases h
            have b0 : b ≠ 0 := fun z => hn (.inl z)
            have g1 : Nat.gcd t b = 1 := by
              have := Nat.gcd_pos_of_pos_right t (Nat.pos_of_ne_zero b0)
              have : ¬ 1 < Nat.gcd t b := fun z => hg (.inr z)
              omega
            refine ⟨t, b, rfl, .inr ⟨rfl, fun z => hg (.inl z)⟩, ?_, ?_, fun z => Classical.byContradiction fun w => hn (.inr ⟨z, w⟩)⟩
            · rw [divInt_num (by omega), sgn_nat, Int.natAbs_natCast, g1]
              simp
            · have := divInt_den (t := sgn s * (t : Int)) (b := (b : Int)) (by omega)
              rw [sgn_nat, Int.natAbs_natCast, g1] at this
              omega
theorem fin5_txt {x a : Str} {s : Bool} {oc : Option Str} {q : Rat} (p : Par x s a oc) (h : fin5 s x (dv a) (oc.map dv) = some q) : txR q = x := by
  obtain ⟨t, b, e1, e2, e3, e4, e5⟩ := fin5_num h
  have ha := dv_some.mp e1
  refine ext_tl ?_
  by_cases t0 : t = 0
  · have ex := e5 t0
    subst ex
    have hb : b = 1 := by
      rcases e2 with ⟨_, hb⟩ | ⟨eo, _⟩
      · exact hb
      · cases oc with
        | none => cases eo
        | some c =>
          have := p.tx
          have e6 : 47 ∈ tl (Str.ofString "0") := by
            rw [this]
            show 47 ∈ _ ++ tl (a ++ SL ++ c)
            rw [tl_append, tl_append, tl_SL]
            simp
          rw [tl_of] at e6
          exact absurd e6 (by decide)
    rw [tl_txR, e3, e4, hb, t0, tl_of]
    cases s <;> rfl
  · have es : sgL q.num = if s then [45] else [] := by
      rw [e3]
      unfold sgL sgn
      cases s
      · rw [if_neg (by simp)]; rfl
      · rw [if_pos (by simp; omega)]; rfl
    rw [tl_txR, p.tx, es, e3, sgn_nat, e4]
    congr 1
    rcases e2 with ⟨eo, hb⟩ | ⟨eo, hb⟩
    · cases oc with
      | some c => cases eo
      | none =>
        show _ = tl a
        rw [ha.1, hb]
        unfold dnL
        rw [if_pos rfl, List.append_nil]
    · cases oc with
      | none => cases eo
      | some c =>
        have hc := dv_some.mp (Option.some.inj eo)
        show _ = tl (a ++ SL ++ c)
        rw [tl_append, tl_append, tl_SL, ha.1, hc.1]
        unfold dnL
        rw [if_neg hb, List.append_assoc]
        rfl
end


open PySem L2 PyProof.Rows TL

section
set_option hygiene false
local macro_rules | `(tactic| fail "c") => `(tactic| ((with_reducible refine chkC "digits_value" ?_); refine xE_call T.f_digits_value g ?qa T.g_digits_value T.F_digits_value.kp T.b_digits_value ?_; (case qa => (repeat (first | with_reducible exact In.z | with_reducible apply In.s)))))
local macro_rules | `(tactic| fail "c") => `(tactic| ((with_reducible refine chkC "common_divisor" ?_); refine xE_call T.f_common_divisor g ?qa T.g_common_divisor T.F_common_divisor.kp T.b_common_divisor ?_; (case qa => (repeat (first | with_reducible exact In.z | with_reducible apply In.s)))))
local macro_rules | `(tactic| fail "n") => `(tactic| ((with_reducible refine chkN "Ratio" ?_); refine xE_cls gn ?qa T.g_Ratio ?_; (case qa => (repeat (first | with_reducible exact In.z | with_reducible apply In.s)))))
local macro_rules | `(tactic| fail "n") => `(tactic| ((with_reducible refine chkN "InvalidNumber" ?_); refine xE_cls gn ?qa T.g_InvalidNumber ?_; (case qa => (repeat (first | with_reducible exact In.z | with_reducible apply In.s)))))
local macro_rules | `(tactic| fail "n") => `(tactic| ((with_reducible refine chkN "PoolError" ?_); refine xE_cls gn ?qa T.g_PoolError ?_; (case qa => (repeat (first | with_reducible exact In.z | with_reducible apply In.s)))))
theorem dig_mem {c : Nat} : c ∈ (Str.ofString "0123456789").cps.toList ↔ 48 ≤ c ∧ c ≤ 57 := by
  constructor
  · intro h
    have : (Str.ofString "0123456789").cps.toList = [48, 49, 50, 51, 52, 53, 54, 55, 56, 57] := by decide +kernel
    rw [this] at h
    simp at h
    omega
  · intro h
    have : c = 48 ∨ c = 49 ∨ c = 50 ∨ c = 51 ∨ c = 52 ∨ c = 53 ∨ c = 54 ∨ c = 55 ∨ c = 56 ∨ c = 57 := by omega
    rcases this with rfl | rfl | rfl | rfl | rfl | rfl | rfl | rfl | rfl | rfl <;> decide +kernel
section
variable {P : Program} {w : World} {K : PySem.W.Frag} {mg : Str → Option Value} {base : Heap} (T : Tx K mg)
theorem sp_digits5 (hD : base.NoDigits) {μ : List M} {x : Str} {Q : KV} {Z : KX} (hl : x.length ≤ 100000) (h : Q (oN (dv x)) μ) : SpF P w K mg base T.f_digits_value [.str x] μ Q Z := by
  have sl := sizeLine_eq
  obtain ⟨t1, e1⟩ := T.c_DIGITS
  obtain ⟨t2, e2⟩ := T.c_MOST_DIGITS
  have lx : x.length = x.cps.toList.length := len_tl x
  refine spX_of T.F_digits_value sc_digits_value ck_digits_value rfl ?_
  walk_at "start"
  rw [List.append_nil]
  walk_at "s1"
  refine wF_lenS (by omega) ?_
  walk_at "e"
  by_cases h1 : 1 ≤ x.length
  rotate_left
  · rw [if_neg (by rw [decide_eq_true_eq]; omega)]
    refine br_T rfl ?_
    walk_at "wp"
    rw [dv_none fun n hn => h1 (isN_len hn).1] at h
    exact .same h
  rw [if_pos (decide_eq_true (show (1 : Int) ≤ (x.length : Int) by omega))]
  refine wE_glob e2 (v := .int 1000) ⟨_, rfl⟩ (fun _ _ => rep_int.mpr rfl) ?_
  walk_at "e"
  by_cases h2 : x.length ≤ 1000
  rotate_left
  · rw [show (decide ((x.length : Int) ≤ 1000)) = false from decide_eq_false (by omega)]
    refine br_T rfl ?_
    walk_at "wp"
    rw [dv_none fun n hn => h2 (isN_len hn).2] at h
    exact .same h
  rw [show (decide ((x.length : Int) ≤ 1000)) = true from decide_eq_true (by omega)]
  refine br_F rfl ?_
  walk_at "e"
  refine wE_lcM v_digits_value_c0 g_digits_value_c0 o_digits_value_c0 g (sc := defScope s_digits_value) rfl (by decide +kernel) (show BlkOk n_digits_value (defScope s_digits_value) _ _ from ⟨rfl, by decide +kernel, by decide +kernel, by decide +kernel, by decide +kernel⟩) x.cps.toList (fun c => D.str ⟨#[c]⟩) (fun c => D.bl (decide (c ∈ (Str.ofString "0123456789").cps.toList))) ?_ (by omega) ?_ ?_
  · refine wI_str ?_
    walk_at "e"
    exact ⟨by unfold signs; rfl, rfl⟩
  · rintro c hc K1 K2 hk
    walk_at "blk"
    refine wGw_name gn (i := 1) (by walk_at "il") (by decide) ?_
    simp only [o_digits_value_c0, List.map_cons, List.map_nil, wipeD, List.set_cons_succ, List.set_cons_zero]
    walk_at "e"
    walk_at "blk"
    refine wTs_nil (br_T rfl ?_)
    walk_at "blk"
    walk_at "e"
    refine wE_glob e1 (v := .str (Str.ofString "0123456789")) ⟨_, rfl⟩ (fun _ _ => rep_str.mpr rfl) ?_
    refine wB_inSign ?_
    exact hk
  rw [show (x.cps.toList).map (fun c => D.bl (decide (c ∈ (Str.ofString "0123456789").cps.toList))) = ((x.cps.toList).map fun c => decide (c ∈ (Str.ofString "0123456789").cps.toList)).map D.bl by rw [List.map_map]; rfl]
  refine wA_nil (wF_all g.toGd ?_)
  walk_at "e"
  by_cases h3 : ∀ c ∈ tl x, 48 ≤ c ∧ c ≤ 57
  rotate_left
  · have : (((x.cps.toList).map fun c => decide (c ∈ (Str.ofString "0123456789").cps.toList)).all id) = false := by
      rw [List.all_map, Bool.eq_false_iff]
      intro z
      rw [List.all_eq_true] at z
      exact h3 fun c hc => dig_mem.mp (of_decide_eq_true (z c hc))
    rw [this]
    refine br_T rfl ?_
    walk_at "wp"
    rw [dv_none fun n hn => h3 (isN_dig hn)] at h
    exact .same h
  have : (((x.cps.toList).map fun c => decide (c ∈ (Str.ofString "0123456789").cps.toList)).all id) = true := by
    rw [List.all_map, List.all_eq_true]
    exact fun c hc => decide_eq_true (dig_mem.mpr (h3 c hc))
  rw [this]
  refine br_F rfl (wSs_nil ?_)
  walk_at "s1"
  have hne : tl x ≠ [] := fun z => by
    rw [len_tl, z] at h1
    exact absurd h1 (by decide)
  obtain ⟨c, r, hnl⟩ := List.exists_cons_of_ne_nil hne
  have hnl' : x.cps.toList = c :: r := hnl
  refine wX_sign (c := c) (by omega) (by rw [hnl']; simp [atI, ixN]) ?_
  walk_at "e"
  have fin : ∀ {Q' : KV}, (¬ ((tl x).head? = some 48 ∧ 1 < x.length)) → (∀ n : Nat, dv x = some n → Q' (.int (n : Int)) μ) → ∃ n : Nat, PySem.intText? x = some (n : Int) ∧ Q' (.int (n : Int)) μ := fun h4 hq => by
    obtain ⟨n, hn⟩ := dv_of h1 h2 h3 h4
    exact ⟨n, isN_int (dv_some.mp hn), hq n hn⟩
  have end1 : ¬ ((tl x).head? = some 48 ∧ 1 < x.length) → ∃ n : Nat, PySem.intText? x = some (n : Int) ∧ Q (.int (n : Int)) μ := fun h4 => fin h4 fun n hn => by
    rw [hn] at h
    exact h
  by_cases hc : c = 48
  · refine br_T (decide_eq_true (by rw [hc]; rfl)) ?_
    walk_at "e"
    refine wF_lenS (by omega) ?_
    walk_at "e"
    by_cases hl1 : 1 < x.length
    · refine br_T (decide_eq_true (by omega)) ?_
      walk_at "e"
      rw [dv_none fun n hn => isN_head hn ⟨by rw [hnl, hc]; rfl, hl1⟩] at h
      exact .same h
    · refine br_F (decide_eq_false (by omega)) ?_
      walk_at "e"
      obtain ⟨n, hn, q⟩ := end1 fun z => hl1 z.2
      refine wF_intD hD hn (by omega) ?_
      exact .same q
  · refine br_F (decide_eq_false fun e => hc ?_) ?_
    · have : (#[c] : Array Nat) = #[48] := congrArg Str.cps e
      simpa using this
    walk_at "e"
    obtain ⟨n, hn, q⟩ := end1 fun z => hc (by rw [hnl] at z; simpa using z.1)
    refine wF_intD hD hn (by omega) ?_
    exact .same q
end
end

open PySem L2 PyProof.Rows TL

section
set_option hygiene false
local macro_rules | `(tactic| fail "F") => `(tactic| with_reducible refine wF_R1 T g.toGd ?_)
local macro_rules | `(tactic| fail "F") => `(tactic| ((with_reducible refine wF_R2 T g.toGd ?qc1 ?qc2 ?_); (case qc1 => (first | with_reducible assumption | omega)); (case qc2 => exact lt_pow_mono (n := 64) (by (first | with_reducible assumption | omega)) (by decide))))
local macro_rules | `(tactic| fail "F") => `(tactic| with_reducible refine wF_isBB ?_)
local macro_rules | `(tactic| fail "F") => `(tactic| with_reducible refine wF_isIB ?_)
local macro_rules | `(tactic| fail "F") => `(tactic| with_reducible refine wF_isII ?_)
local macro_rules | `(tactic| fail "F") => `(tactic| ((with_reducible refine wF_isRt ?qc ?_); (case qc => exact T.own_Ratio)))
local macro_rules | `(tactic| fail "c") => `(tactic| ((with_reducible refine chkC "Ratio" ?_); refine xE_make gn ?qa T.g_Ratio T.mk_Ratio.kp ?_; (case qa => (repeat (first | with_reducible exact In.z | with_reducible apply In.s)))))
local macro_rules | `(tactic| fail "c") => `(tactic| ((with_reducible refine chkC "digits_value" ?_); refine xE_call T.f_digits_value g ?qa T.g_digits_value T.F_digits_value.kp T.b_digits_value ?_; (case qa => (repeat (first | with_reducible exact In.z | with_reducible apply In.s)))))
local macro_rules | `(tactic| fail "c") => `(tactic| ((with_reducible refine chkC "common_divisor" ?_); refine xE_call T.f_common_divisor g ?qa T.g_common_divisor T.F_common_divisor.kp T.b_common_divisor ?_; (case qa => (repeat (first | with_reducible exact In.z | with_reducible apply In.s)))))
local macro_rules | `(tactic| fail "n") => `(tactic| ((with_reducible refine chkN "Ratio" ?_); refine xE_cls gn ?qa T.g_Ratio ?_; (case qa => (repeat (first | with_reducible exact In.z | with_reducible apply In.s)))))
local macro_rules | `(tactic| fail "n") => `(tactic| ((with_reducible refine chkN "InvalidNumber" ?_); refine xE_cls gn ?qa T.g_InvalidNumber ?_; (case qa => (repeat (first | with_reducible exact In.z | with_reducible apply In.s)))))
local macro_rules | `(tactic| fail "n") => `(tactic| ((with_reducible refine chkN "PoolError" ?_); refine xE_cls gn ?qa T.g_PoolError ?_; (case qa => (repeat (first | with_reducible exact In.z | with_reducible apply In.s)))))
local macro_rules | `(tactic| fail "a") => `(tactic| ((with_reducible refine chkA "bottom" ?_); refine wE_bot T ?_))
local macro_rules | `(tactic| fail "a") => `(tactic| ((with_reducible refine chkA "top" ?_); refine wE_top T ?_))
theorem len_app (x y : Str) : (x ++ y).length = x.length + y.length := by rw [len_tl, len_tl, len_tl, tl_append, List.length_append]
theorem glue_len {a c : Str} : (glue a (some c)).length = a.length + 1 + c.length := by
  show (a ++ SL ++ c).length = _
  rw [len_app, len_app]
  rfl
theorem Par.glen {x a : Str} {s : Bool} {oc : Option Str} (p : Par x s a oc) : (glue a oc).length ≤ x.length := by
  rw [len_tl, len_tl, p.tx, List.length_append]
  omega
theorem Par.alen {x a : Str} {s : Bool} {oc : Option Str} (p : Par x s a oc) : a.length ≤ x.length := by
  have := p.glen
  cases oc with
  | none => exact this
  | some c =>
    rw [glue_len] at this
    omega
theorem Par.clen {x a c : Str} {s : Bool} (p : Par x s a (some c)) : c.length ≤ x.length := by
  have := p.glen
  rw [glue_len] at this
  omega
theorem dv_low {a : Str} {n : Nat} (h : dv a = some n) : n < 2 ^ 3400 := Nat.lt_of_lt_of_le (isN_low (dv_some.mp h)) lim_2
section
variable {P : Program} {w : World} {K : PySem.W.Frag} {mg : Str → Option Value} {base : Heap} (T : Tx K mg)
theorem sp_read5 (hD : base.NoDigits) {μ : List M} {x a : Str} {ng : Bool} {oc : Option Str} {Q : KV} {Z : KX} (p : Par x ng a oc) (hl : x.length ≤ 100000)
    (hg : ∀ q, fin5 ng x (dv a) (oc.map dv) = some q → Q (rt T.C_Ratio q) μ) (hb : fin5 ng x (dv a) (oc.map dv) = none → Z T.C_InvalidNumber ["value"] [.str x] μ) : SpF P w K mg base T.f_Ratio_read [.ref T.C_Ratio, .str x] μ Q Z := by
  have sl := sizeLine_eq
  have la := p.alen
  have lg := p.glen
  refine spX_of T.F_Ratio_read sc_Ratio_read ck_Ratio_read rfl ?_
  walk_at "start"
  rw [List.append_nil]
  refine wSs_cut (fun ρ1 μ1 => μ = μ1 ∧ ρ1 = [some (.ref T.C_Ratio), some (.str x), some (.int (sgn ng)), some (.str (glue a oc)), none, none, none, none, none]) ?_ ?_
  · walk_at "wp"
    refine wE_starts ?_
    walk_at "e"
    rw [show Str.ofString "-" = MI from rfl, p.st]
    cases ng with
    | true =>
      refine br_T rfl ?_
      walk_at "e"
      refine wE_sfrom ?_
      walk_at "e"
      refine ⟨1, _, rfl, rfl, by omega, ?_⟩
      have pc : cutS x (some ((1 : Nat) : Int)) none = glue a oc := p.cut
      rw [pc]
      walk_at "e"
      exact ⟨rfl, rfl⟩
    | false =>
      refine br_F rfl ?_
      walk_at "e"
      have ex : x = glue a oc := ext_tl p.tx
      exact ⟨rfl, by rw [← ex]; rfl⟩
  rintro ρ1 μ1 ⟨rfl, rfl⟩
  walk_at "s1"
  refine wE_part ?_
  walk_at "e"
  refine ⟨rfl, by omega, ?_⟩
  rw [show Str.ofString "/" = SL from rfl, part_glue p.fr]
  have hs64 : -(2 ^ 64) < sgn ng ∧ sgn ng < 2 ^ 64 := by cases ng <;> decide
  cases oc with
  | none =>
    dsimp only [Option.isSome, Option.getD]
    walk_at "wp"
    refine sp_digits5 T hD (by omega) ?_
    walk_at "wp"
    refine br_F (by rfl) ?_
    walk_at "wp"
    cases ea : dv a with
    | none =>
      have hz := hb (by rw [ea]; rfl)
      refine br_T rfl ?_
      walk_at "wp"
      refine wS_raise g (by walk_at "in") (err_InvalidNumber T) T.g_InvalidNumber ?_
      walk_at "e"
      exact ⟨rfl, .same hz⟩
    | some t =>
      dsimp only [oN]
      refine br_F (by rfl) ?_
      walk_at "wp"
      refine br_F (by rfl) ?_
      walk_at "wp"
      have fin : fin5 ng x (dv a) (Option.map dv none) = some (Rat.divInt (sgn ng * t) 1) → RetOk μ Q (rt T.C_Ratio (Rat.divInt (sgn ng * t) 1)) μ := fun e => .same (hg _ e)
      by_cases t0 : t = 0
      · refine br_T (decide_eq_true (by omega)) ?_
        walk_at "wp"
        by_cases ex : x = Str.ofString "0"
        · refine br_F (by rw [ex]; rfl) ?_
          walk_at "wp"
          refine br_F (by rfl) ?_
          walk_at "wp"
          refine wE_makeL gn T.mk_Ratio.kp ?_ ?_
          · repeat (first | with_reducible exact Gt.z | with_reducible exact Gt.c | with_reducible apply Gt.s)
          walk_at "e"
          try refine wB_mulL hs64 ?_
          walk_at "e"
          exact fin (by rw [ea]; exact if_neg fun z => z.2 ex)
        · have hz := hb (by rw [ea]; exact if_pos ⟨t0, ex⟩)
          refine br_T (by rw [decide_eq_false ex]; rfl) ?_
          walk_at "wp"
          refine wS_raise g (by walk_at "in") (err_InvalidNumber T) T.g_InvalidNumber ?_
          walk_at "e"
          exact ⟨rfl, .same hz⟩
      · refine br_F (decide_eq_false (by omega)) ?_
        walk_at "wp"
        refine br_F (by rfl) ?_
        walk_at "wp"
        refine wE_makeL gn T.mk_Ratio.kp ?_ ?_
        · repeat (first | with_reducible exact Gt.z | with_reducible exact Gt.c | with_reducible apply Gt.s)
        walk_at "e"
        try refine wB_mulL hs64 ?_
        walk_at "e"
        exact fin (by rw [ea]; exact if_neg fun z => t0 z.1)
  | some c =>
    dsimp only [Option.isSome, Option.getD]
    walk_at "wp"
    refine sp_digits5 T hD (by omega) ?_
    walk_at "wp"
    have lc := p.clen
    refine sp_digits5 T hD (by omega) ?_
    walk_at "wp"
    cases ea : dv a with
    | none =>
      have hz := hb (by rw [ea]; rfl)
      refine br_T rfl ?_
      walk_at "wp"
      refine wS_raise g (by walk_at "in") (err_InvalidNumber T) T.g_InvalidNumber ?_
      walk_at "e"
      exact ⟨rfl, .same hz⟩
    | some t =>
      dsimp only [oN]
      refine br_F (by rfl) ?_
      walk_at "wp"
      cases ec : dv c with
      | none =>
        have hz := hb (by rw [ea, Option.map_some, ec]; rfl)
        refine br_T rfl ?_
        walk_at "wp"
        refine wS_raise g (by walk_at "in") (err_InvalidNumber T) T.g_InvalidNumber ?_
        walk_at "e"
        exact ⟨rfl, .same hz⟩
      | some b =>
        dsimp only [oN]
        refine br_F (by rfl) ?_
        walk_at "wp"
        have ft := dv_low ea
        have fb := dv_low ec
        by_cases b0 : b = 0
        · have hz := hb (by rw [ea, Option.map_some, ec]; exact if_pos (.inl b0))
          refine br_T (decide_eq_true (by omega)) ?_
          walk_at "wp"
          refine wS_raise g (by walk_at "in") (err_InvalidNumber T) T.g_InvalidNumber ?_
          walk_at "e"
          exact ⟨rfl, .same hz⟩
        refine br_F (decide_eq_false (by omega)) ?_
        walk_at "wp"
        by_cases t0 : t = 0
        · have ex : x ≠ Str.ofString "0" := fun e => by
            have e6 : 47 ∈ tl x := by
              rw [p.tx]
              show 47 ∈ _ ++ tl (a ++ SL ++ c)
              rw [tl_append, tl_append, tl_SL]
              simp
            rw [e, tl_of] at e6
            exact absurd e6 (by decide)
          have hz := hb (by rw [ea, Option.map_some, ec]; exact if_pos (.inr ⟨t0, ex⟩))
          refine br_T (decide_eq_true (by omega)) ?_
          walk_at "wp"
          refine br_T (by rw [decide_eq_false ex]; rfl) ?_
          walk_at "wp"
          refine wS_raise g (by walk_at "in") (err_InvalidNumber T) T.g_InvalidNumber ?_
          walk_at "e"
          exact ⟨rfl, .same hz⟩
        refine br_F (decide_eq_false (by omega)) ?_
        walk_at "wp"
        have n1 : ¬ (b = 0 ∨ (t = 0 ∧ x ≠ Str.ofString "0")) := fun z => z.elim b0 fun z => t0 z.1
        refine br_T rfl ?_
        walk_at "wp"
        by_cases b1 : b = 1
        · have hz := hb (by rw [ea, Option.map_some, ec]; exact (if_neg n1).trans (if_pos (.inl b1)))
          refine br_T (decide_eq_true (by omega)) ?_
          walk_at "wp"
          refine wS_raise g (by walk_at "in") (err_InvalidNumber T) T.g_InvalidNumber ?_
          walk_at "e"
          exact ⟨rfl, .same hz⟩
        refine br_F (decide_eq_false (by omega)) ?_
        walk_at "wp"
        refine SpF.ofR (f := T.f_common_divisor) (ok_common_divisor T) ⟨_, _, rfl, rfl⟩ ?_
        dsimp only [FO.In]
        walk_at "wp"
        by_cases hgg : 1 < Nat.gcd t b
        · have hz := hb (by rw [ea, Option.map_some, ec]; exact (if_neg n1).trans (if_pos (.inr hgg)))
          refine br_T (decide_eq_true (by omega)) ?_
          walk_at "wp"
          refine wS_raise g (by walk_at "in") (err_InvalidNumber T) T.g_InvalidNumber ?_
          walk_at "e"
          exact ⟨rfl, .same hz⟩
        refine br_F (decide_eq_false (by omega)) ?_
        walk_at "wp"
        refine wE_makeL gn T.mk_Ratio.kp ?_ ?_
        · repeat (first | with_reducible exact Gt.z | with_reducible exact Gt.c | with_reducible apply Gt.s)
        walk_at "e"
        try refine wB_mulL hs64 ?_
        walk_at "e"
        have hz9 : ((b : Int)).natAbs < 2 ^ 9000 := by
          rw [Int.natAbs_natCast]
          exact Nat.lt_of_lt_of_le fb (by decide +kernel)
        refine wF_R2 T g.toGd (by omega) hz9 ?_
        exact .same (hg _ (by rw [ea, Option.map_some, ec]; exact (if_neg n1).trans (if_neg fun z => z.elim b1 hgg)))
end
end

open PySem L2 PyProof.Rows TL

section
set_option hygiene false
local macro_rules | `(tactic| fail "c") => `(tactic| ((with_reducible refine chkC "_law_told" ?_); refine xE_call T.f_w_told g ?qa T.g_w_told T.F_w_told.kp T.b_w_told ?_; (case qa => (repeat (first | with_reducible exact In.z | with_reducible apply In.s)))))
local macro_rules | `(tactic| fail "c") => `(tactic| ((with_reducible refine chkC "_law_due" ?_); refine xE_call T.f_w_due g ?qa T.g_w_due T.F_w_due.kp T.b_w_due ?_; (case qa => (repeat (first | with_reducible exact In.z | with_reducible apply In.s)))))
local macro_rules | `(tactic| fail "c") => `(tactic| ((with_reducible refine chkC "_law_value" ?_); refine xE_call T.f_w_value g ?qa T.g_w_value T.F_w_value.kp T.b_w_value ?_; (case qa => (repeat (first | with_reducible exact In.z | with_reducible apply In.s)))))
local macro_rules | `(tactic| fail "c") => `(tactic| ((with_reducible refine chkC "_law_spoilt" ?_); refine xE_call T.f_w_spoilt g ?qa T.g_w_spoilt T.F_w_spoilt.kp T.b_w_spoilt ?_; (case qa => (repeat (first | with_reducible exact In.z | with_reducible apply In.s)))))
local macro_rules | `(tactic| fail "c") => `(tactic| ((with_reducible refine chkC "_law_text" ?_); refine xE_call T.f_w_text g ?qa T.g_w_text T.F_w_text.kp T.b_w_text ?_; (case qa => (repeat (first | with_reducible exact In.z | with_reducible apply In.s)))))
local macro_rules | `(tactic| fail "c") => `(tactic| ((with_reducible refine chkC "_law_digits" ?_); refine xE_call T.f_w_digits g ?qa T.g_w_digits T.F_w_digits.kp T.b_w_digits ?_; (case qa => (repeat (first | with_reducible exact In.z | with_reducible apply In.s)))))
local macro_rules | `(tactic| fail "c") => `(tactic| ((with_reducible refine chkC "_law_lowest" ?_); refine xE_call T.f_w_lowest g ?qa T.g_w_lowest T.F_w_lowest.kp T.b_w_lowest ?_; (case qa => (repeat (first | with_reducible exact In.z | with_reducible apply In.s)))))
local macro_rules | `(tactic| fail "c") => `(tactic| ((with_reducible refine chkC "_law_take" ?_); refine xE_call T.f_w_take g ?qa T.g_w_take T.F_w_take.kp T.b_w_take ?_; (case qa => (repeat (first | with_reducible exact In.z | with_reducible apply In.s)))))
local macro_rules | `(tactic| fail "c") => `(tactic| ((with_reducible refine chkC "_law_box" ?_); refine xE_call T.f_w_box g ?qa T.g_w_box T.F_w_box.kp T.b_w_box ?_; (case qa => (repeat (first | with_reducible exact In.z | with_reducible apply In.s)))))
local macro_rules | `(tactic| fail "n") => `(tactic| ((with_reducible refine chkN "Ratio" ?_); refine xE_cls gn ?qa T.g_Ratio ?_; (case qa => (repeat (first | with_reducible exact In.z | with_reducible apply In.s)))))
local macro_rules | `(tactic| fail "n") => `(tactic| ((with_reducible refine chkN "InvalidNumber" ?_); refine xE_cls gn ?qa T.g_InvalidNumber ?_; (case qa => (repeat (first | with_reducible exact In.z | with_reducible apply In.s)))))
local macro_rules | `(tactic| fail "n") => `(tactic| ((with_reducible refine chkN "PoolError" ?_); refine xE_cls gn ?qa T.g_PoolError ?_; (case qa => (repeat (first | with_reducible exact In.z | with_reducible apply In.s)))))
local macro_rules | `(tactic| fail "O") => `(tactic| (refine sp_take T (by (first | assumption | with_reducible exact at_last | with_reducible exact at_new rfl | with_reducible exact at_left (by assumption) | with_reducible exact List.getElem?_set_self (by assumption) | with_reducible exact at_left (at_left (by assumption)))) (by (first | with_reducible assumption | omega)) (by (first | with_reducible assumption | omega)) ?_; intro d h0 h1))
local macro_rules | `(tactic| fail "O") => `(tactic| refine Exists.intro _ (Exists.intro _ (Exists.intro _ (Exists.intro _ (And.intro rfl (And.intro rfl (And.intro (by (first | assumption | with_reducible exact at_last | with_reducible exact at_new rfl | with_reducible exact at_left (by assumption) | with_reducible exact List.getElem?_set_self (by assumption) | with_reducible exact at_left (at_left (by assumption)))) (And.intro rfl ?_))))))))
local macro_rules | `(tactic| fail "O") => `(tactic| refine Exists.intro _ (Exists.intro _ (Exists.intro _ (And.intro rfl ?_))))
local macro_rules | `(tactic| fail "O") => `(tactic| refine Exists.intro _ (Exists.intro _ (And.intro rfl ?_)))
local macro_rules | `(tactic| fail "O") => `(tactic| refine And.intro (by (simp only [List.length_cons, List.length_nil]; decide)) ?_)
local macro_rules | `(tactic| fail "O") => `(tactic| refine Exists.intro _ (And.intro rfl ?_))
section
variable {P : Program} {w : World} {K : PySem.W.Frag} {mg : Str → Option Value} {base : Heap} (T : Tx K mg)
theorem sp_value5 (hD : base.NoDigits) {μ : List M} {x : Str} {Q : KV} {Z : KX} (hl : x.length ≤ 100000) (h : Q (oN (dv x)) μ) : SpF P w K mg base T.f_w_value [.str x] μ Q Z := by
  have sl := sizeLine_eq
  have lx : x.length = x.cps.toList.length := len_tl x
  refine spX_of T.F_w_value sc_w_value ck_w_value rfl ?_
  walk_at "start"
  rw [List.append_nil]
  walk_at "s1"
  refine wF_lenS (by omega) ?_
  walk_at "e"
  by_cases h1 : 1 ≤ x.length
  rotate_left
  · rw [if_neg (by rw [decide_eq_true_eq]; omega)]
    refine br_T rfl ?_
    walk_at "wp"
    rw [dv_none fun n hn => h1 (isN_len hn).1] at h
    exact .same h
  rw [if_pos (decide_eq_true (show (1 : Int) ≤ (x.length : Int) by omega))]
  walk_at "e"
  by_cases h2 : x.length ≤ 1000
  rotate_left
  · rw [show (decide ((x.length : Int) ≤ 1000)) = false from decide_eq_false (by omega)]
    refine br_T rfl ?_
    walk_at "wp"
    rw [dv_none fun n hn => h2 (isN_len hn).2] at h
    exact .same h
  rw [show (decide ((x.length : Int) ≤ 1000)) = true from decide_eq_true (by omega)]
  refine br_F rfl ?_
  walk_at "e"
  refine wE_lcF v_w_value_c0 g_w_value_c0 o_w_value_c0 g (sc := defScope s_w_value) rfl (by decide +kernel) (show BlkOk n_w_value (defScope s_w_value) _ _ from ⟨rfl, by decide +kernel, by decide +kernel, by decide +kernel, by decide +kernel⟩) x.cps.toList (fun c => D.str ⟨#[c]⟩) (fun c => !decide (c ∈ (Str.ofString "0123456789").cps.toList)) (fun c : Nat => D.str ⟨#[c]⟩) (fun x b => b = x) ?_ (by omega) ?_ ?_
  · refine wI_str ?_
    walk_at "e"
    exact ⟨by unfold signs; rfl, rfl⟩
  · rintro c hc K1 K2 k1 k2
    walk_at "blk"
    refine wGw_name gn (i := 1) (by walk_at "il") (by decide) ?_
    simp only [o_w_value_c0, List.map_cons, List.map_nil, wipeD, List.set_cons_succ, List.set_cons_zero]
    walk_at "e"
    walk_at "blk"
    refine wTs_one ?_
    walk_at "e"
    refine wB_ninSign ?_
    walk_at "e"
    cases hm : decide (c ∈ (Str.ofString "0123456789").cps.toList) with
    | true =>
      refine br_F rfl ?_
      exact k2 (by rw [hm]; rfl)
    | false =>
      refine br_T rfl ?_
      walk_at "blk"
      walk_at "e"
      exact k1 (by rw [hm]; rfl) c rfl
  rintro ys hy
  rw [hy.fn, List.map_id']
  walk_at "e"
  refine wB_neE g.toGd (.inl rfl) ?_
  walk_at "e"
  by_cases h3 : ∀ c ∈ tl x, 48 ≤ c ∧ c ≤ 57
  rotate_left
  · have hne : (List.map (fun c => D.str ⟨#[c]⟩) (List.filter (fun c => !decide (c ∈ (Str.ofString "0123456789").cps.toList)) x.cps.toList)).isEmpty = false := by
      rw [List.isEmpty_eq_false_iff, ne_eq, List.map_eq_nil_iff, List.filter_eq_nil_iff]
      intro z
      exact h3 fun c hc => by
        have := z c hc
        simp only [Bool.not_eq_true, Bool.not_eq_false', decide_eq_true_eq] at this
        exact dig_mem.mp this
    rw [hne]
    refine br_T rfl ?_
    walk_at "wp"
    rw [dv_none fun n hn => h3 (isN_dig hn)] at h
    exact .same h
  have hem : (List.map (fun c => D.str ⟨#[c]⟩) (List.filter (fun c => !decide (c ∈ (Str.ofString "0123456789").cps.toList)) x.cps.toList)).isEmpty = true := by
    rw [List.isEmpty_iff, List.map_eq_nil_iff, List.filter_eq_nil_iff]
    intro c hc
    simp only [Bool.not_eq_true, Bool.not_eq_false', decide_eq_true_eq]
    exact dig_mem.mpr (h3 c hc)
  rw [hem]
  refine br_F rfl (wSs_nil ?_)
  have hne : tl x ≠ [] := fun z => by
    rw [len_tl, z] at h1
    exact absurd h1 (by decide)
  obtain ⟨c, r, hnl⟩ := List.exists_cons_of_ne_nil hne
  have hnl' : x.cps.toList = c :: r := hnl
  have end1 : ¬ ((tl x).head? = some 48 ∧ 1 < x.length) → ∃ n : Nat, PySem.intText? x = some (n : Int) ∧ Q (.int (n : Int)) μ := fun h4 => by
    obtain ⟨n, hn⟩ := dv_of h1 h2 h3 h4
    rw [hn] at h
    exact ⟨n, isN_int (dv_some.mp hn), h⟩
  walk_at "s1"
  refine wF_lenS (by omega) ?_
  walk_at "e"
  by_cases hl1 : 1 < x.length
  rotate_left
  · refine br_F (decide_eq_false (by omega)) (wSs_nil ?_)
    walk_at "s1"
    obtain ⟨n, hn, q⟩ := end1 fun z => hl1 z.2
    refine wF_intD hD hn (by omega) ?_
    exact .same q
  refine br_T (decide_eq_true (by omega)) ?_
  walk_at "e"
  refine wX_sign (c := c) (by omega) (by rw [hnl']; simp [atI, ixN]) ?_
  walk_at "e"
  by_cases hc : c = 48
  · refine br_T (decide_eq_true (by rw [hc]; rfl)) ?_
    walk_at "wp"
    rw [dv_none fun n hn => isN_head hn ⟨by rw [hnl, hc]; rfl, hl1⟩] at h
    exact .same h
  · refine br_F (decide_eq_false fun e => hc ?_) (wSs_nil ?_)
    · have : (#[c] : Array Nat) = #[48] := congrArg Str.cps e
      simpa using this
    walk_at "s1"
    obtain ⟨n, hn, q⟩ := end1 fun z => hc (by rw [hnl] at z; simpa using z.1)
    refine wF_intD hD hn (by omega) ?_
    exact .same q
/-- _law_lowest of natural numbers -/
theorem sp_low5 {μ : List M} {t b : Nat} {Q : KV} {Z : KX} (hb : b ≠ 0) (hz : b < 2 ^ 9000) (h : Q (.tup [.int ((t / Nat.gcd t b : Nat) : Int), .int ((b / Nat.gcd t b : Nat) : Int)]) μ) : SpF P w K mg base T.f_w_lowest [.int (t : Int), .int (b : Int)] μ Q Z := by
  refine spX_of T.F_w_lowest sc_w_lowest ck_w_lowest rfl ?_
  walk_at "start"
  have hg0 : 0 < Nat.gcd t b := Nat.gcd_pos_of_pos_right _ (by omega)
  have hd : ∀ i : Int, CDivW i (Nat.gcd t b : Nat) := fun i => ⟨by omega, log2_lt (Nat.lt_of_le_of_lt (Nat.gcd_le_right _ (by omega)) hz) (by decide)⟩
  walk_at "s1"
  refine wSs_cons (wS_while (fun m ρ μ' => ∃ x y : Nat, m = y ∧ μ' = μ ++ [] ∧ Nat.gcd x y = Nat.gcd t b ∧ ρ = [some (.int t), some (.int b), some (.int x), some (.int y), none]) g.po ⟨_, _, rfl, rfl, by rw [Int.natAbs_natCast, Int.natAbs_natCast], rfl⟩ ?_)
  rintro m ρ μ' ⟨x, y, rfl, rfl, e, rfl⟩
  walk_at "e"
  refine br_dec (fun h1 => ?_) (fun h1 => ?_)
  · walk_at "s1"
    refine ⟨x % m, Nat.mod_lt _ (by omega), m, x % m, rfl, rfl, ?_, by rw [Int.natCast_emod]⟩
    rw [Nat.gcd_comm, ← Nat.gcd_rec, Nat.gcd_comm]
    exact e
  · have : m = 0 := by omega
    subst this
    rw [Nat.gcd_zero_right] at e
    subst e
    walk_at "s1"
    walk_at "wp"
    refine wB_fdiv (hd _) ?_
    walk_at "e"
    refine wB_fdiv (hd _) ?_
    walk_at "e"
    have nb : ¬ ((b : Int) < 0) := by omega
    simp only [decide_eq_true_eq, nb, if_false]
    rw [List.append_nil, Int.one_mul, Int.one_mul, ← Int.natCast_ediv, ← Int.natCast_ediv]
    exact .same h
end

open PySem L2 PyProof.Rows TL

section
variable {X : Cx} {W : WX} {ρ : Env'} {μ : List M} {es : List Expr} {ds : List D} {nx : KN} {pos : Pos}
theorem wG_lst {kk : Nat} (hc : X.calm = true) (h : wGs X W ρ μ es ds nx) (hn : (assignEach es X.env).length = ds.length := by rfl) (hst : (assignEach es X.env).findIdx? (·.1) = none := by rfl) : wG X W ρ μ (.Tuple es kk pos) (.lst ds) nx :=
  ⟨pg_of (pg_lst hc h.run hn hst) fun v σ H R ⟨L, G, n, r, a⟩ => by
    obtain ⟨a', vs, e, q, r⟩ := rep_lst.mp r
    exact ⟨a', vs, e, SqL.of (n.ok.sub _ _ q), r.length, L, G, n, r, a⟩⟩
end
theorem wB_neP {X : Cx} {W : WX} {k : Nat} {μ : List M} {Q : KV} {Z : KX} {a b c d : Int} (g : Gd X W k) (h : Q (.bl (!decide (a = c ∧ b = d))) μ) : wB X W (compareOp .NotEq) (.tup [.int a, .int b]) (.tup [.int c, .int d]) μ Q Z :=
  .of (o := .ret _ _) (oc_neD g (p := .tuple [.int a, .int b]) (q := .tuple [.int c, .int d]) rfl rfl rfl rfl) (by
    have : PyData.eqv (.tuple [.int a, .int b]) (.tuple [.int c, .int d]) = decide (a = c ∧ b = d) := by simp only [PyData.eqv, PyData.eqvAll, Bool.and_true, Bool.decide_and]; rfl
    show Q (.bl _) μ
    rw [this]
    exact h)
theorem sg_eq (s : Bool) (t : Nat) : (if s = true then (0 - (t : Int)) else t) = sgn s * t := by cases s <;> simp [sgn]
def dueD : Option Rat → D
  | none => .non
  | some q => .tup [.int q.num, .int q.den]
theorem spl_size (S : List Nat) : ∀ (l : List Nat) (n : Nat) (acc : List Nat), (spl S n acc l).length ≤ l.length + 1 ∧ ∀ p ∈ spl S n acc l, p.length ≤ acc.length + l.length
  | [], n, acc => by
    rw [spl_nil]
    refine ⟨by simp, fun p hp => ?_⟩
    rw [List.mem_singleton.mp hp]
    exact Nat.le_refl _
  | c :: l, n + 1, acc => by
    obtain ⟨h1, h2⟩ := spl_size S l n acc
    refine ⟨?_, fun p hp => ?_⟩
    · show (spl S n acc l).length ≤ _
      simp only [List.length_cons]
      omega
    · have := h2 p hp
      simp only [List.length_cons]
      omega
  | c :: l, 0, acc => by
    show (if pre S (c :: l) = true then acc :: spl S (S.length - 1) [] l else spl S 0 (acc ++ [c]) l).length ≤ _ ∧ ∀ p ∈ (if pre S (c :: l) = true then acc :: spl S (S.length - 1) [] l else spl S 0 (acc ++ [c]) l), _
    split
    · obtain ⟨h1, h2⟩ := spl_size S l (S.length - 1) []
      refine ⟨by simp only [List.length_cons]; omega, fun p hp => ?_⟩
      rcases List.mem_cons.mp hp with e | hp
      · rw [e]; omega
      · have := h2 p hp
        simp only [List.length_cons, List.length_nil] at this ⊢
        omega
    · obtain ⟨h1, h2⟩ := spl_size S l 0 (acc ++ [c])
      refine ⟨by simp only [List.length_cons]; omega, fun p hp => ?_⟩
      have := h2 p hp
      simp only [List.length_append, List.length_cons, List.length_nil] at this ⊢
      omega
theorem split_size (b : Str) : (Txt.split b SL).length ≤ b.length + 1 ∧ ∀ y ∈ Txt.split b SL, y.length ≤ b.length := by
  have e := split_spl b SL (by simp [tl_SL]) (kind_ok (by decide +kernel))
  obtain ⟨h1, h2⟩ := spl_size (tl SL) (tl b) 0 []
  rw [← e, List.length_map, ← len_tl] at h1
  refine ⟨h1, fun y hy => ?_⟩
  have := h2 (tl y) (by rw [← e]; exact List.mem_map_of_mem hy)
  rw [len_tl, len_tl]
  simpa using this
section
variable {P : Program} {w : World} {K : PySem.W.Frag} {mg : Str → Option Value} {base : Heap} (T : Tx K mg)
theorem sp_due5 (hD : base.NoDigits) {μ : List M} {x a : Str} {ng : Bool} {oc : Option Str} {Q : KV} {Z : KX} (p : Par x ng a oc) (hl : x.length ≤ 100000)
    (h : Q (dueD (fin5 ng x (dv a) (oc.map dv))) μ) : SpF P w K mg base T.f_w_due [.str x] μ Q Z := by
  have sl := sizeLine_eq
  have la := p.alen
  have lg := p.glen
  refine spX_of T.F_w_due sc_w_due ck_w_due rfl ?_
  walk_at "start"
  rw [List.append_nil]
  walk_at "s1"
  refine wE_sfrom ?_
  walk_at "e"
  refine wE_supto ?_
  walk_at "e"
  refine ⟨1, _, rfl, rfl, by omega, ?_⟩
  walk_at "e"
  rw [show Str.ofString "-" = MI from rfl, p.up]
  refine ⟨ng.toNat, x, by cases ng <;> rfl, rfl, by omega, ?_⟩
  rw [p.cut]
  walk_at "e"
  walk_at "s1"
  refine wE_split ?_
  walk_at "e"
  refine ⟨rfl, by omega, ?_⟩
  rw [show Str.ofString "/" = SL from rfl]
  walk_at "e"
  have lsp : (Txt.split (glue a oc) SL).length ≤ 1000000 := by have := (split_size (glue a oc)).1; omega
  refine wSs_cons (wS_setLcR v_w_due_c0 g_w_due_c0 o_w_due_c0 g (sc := defScope s_w_due) rfl (by decide +kernel) (show BlkOk n_w_due (defScope s_w_due) _ _ from ⟨rfl, by decide +kernel, by decide +kernel, by decide +kernel, by decide +kernel⟩) (by walk_at "il") (Txt.split (glue a oc) SL) D.str (fun y => oN (dv y)) (fun x y => y = x) ?_ lsp ?_ ?_)
  · refine wI_lst ?_
    walk_at "e"
    exact ⟨rfl, rfl⟩
  · rintro y hy K1 K2 k1
    walk_at "blk"
    refine wGw_name gn (i := 6) (by walk_at "il") (by decide) ?_
    simp only [o_w_due_c0, List.map_cons, List.map_nil, wipeD, List.set_cons_succ, List.set_cons_zero]
    walk_at "e"
    walk_at "blk"
    refine wTs_nil (br_T rfl ?_)
    walk_at "blk"
    walk_at "e"
    have ly : y.length ≤ 100000 := by have := (split_size (glue a oc)).2 y hy; omega
    refine sp_value5 T hD ly ?_
    walk_at "e"
    exact k1 y rfl
  rintro ys hy
  have ey : ys = Txt.split (glue a oc) SL := by rw [hy.fn, List.map_id']
  subst ey
  walk_at "wp"
  rcases split_glue p.fr oc with ⟨rfl, e⟩ | ⟨c, rfl, e⟩ | ⟨c, rfl, ec, e3⟩
  · rw [e]
    simp only [List.map_cons, List.map_nil]
    refine br_F (by rfl) ?_
    walk_at "wp"
    refine wB_nonIn (os := [dv a]) g.toGd ?_
    walk_at "e"
    cases ea : dv a with
    | none =>
      refine br_T rfl ?_
      walk_at "wp"
      rw [ea] at h
      exact .same h
    | some t =>
      refine br_F rfl ?_
      dsimp only [oN]
      walk_at "wp"
      refine wE_upto ?_
      walk_at "e"
      refine wB_catL (by simp only [List.length_cons, List.length_nil]; omega) ?_
      walk_at "e"
      refine ⟨2, _, rfl, .inl rfl, ?_⟩
      simp only [List.cons_append, List.nil_append, List.take_succ_cons, List.take_zero]
      refine wG_lst g.calm ?_
      walk_at "wp"
      refine br_F (by rfl) ?_
      walk_at "wp"
      refine br_F (by rfl) ?_
      walk_at "wp"
      have fin : fin5 ng x (dv a) (Option.map dv none) = some (Rat.divInt (sgn ng * t) 1) → Q (.tup [.int (sgn ng * t), .int 1]) μ := fun e => by
        obtain ⟨t', b', f1, f2, f3, f4, _⟩ := fin5_num e
        rw [ea] at f1
        cases f1
        have fb : b' = 1 := by
          rcases f2 with ⟨_, r⟩ | ⟨r, _⟩
          · exact r
          · cases r
        subst fb
        rw [e] at h
        dsimp only [dueD] at h
        rw [f3, f4] at h
        exact h
      have go : (t = 0 → x = Str.ofString "0") → Q (.tup [.int (sgn ng * t), .int 1]) μ := fun z => fin (by rw [ea]; exact if_neg fun y => y.2 (z y.1))
      by_cases t0 : t = 0
      · refine br_T (decide_eq_true (by omega)) ?_
        walk_at "wp"
        by_cases ex : x = Str.ofString "0"
        · refine br_F (by rw [ex]; rfl) ?_
          walk_at "wp"
          refine wE_supto ?_
          walk_at "e"
          refine ⟨1, _, rfl, rfl, by omega, ?_⟩
          walk_at "e"
          rw [p.up]
          walk_at "wp"
          rw [sg_eq]
          exact .same (go fun _ => ex)
        · refine br_T (by rw [decide_eq_false ex]; rfl) ?_
          walk_at "wp"
          rw [ea, show fin5 ng x (some t) (Option.map dv none) = none from if_pos ⟨t0, ex⟩] at h
          exact .same h
      · refine br_F (decide_eq_false (by omega)) ?_
        walk_at "wp"
        refine wE_supto ?_
        walk_at "e"
        refine ⟨1, _, rfl, rfl, by omega, ?_⟩
        walk_at "e"
        rw [p.up]
        walk_at "wp"
        rw [sg_eq]
        exact .same (go fun z => absurd z t0)
  · rw [e]
    simp only [List.map_cons, List.map_nil]
    refine br_F (by rfl) ?_
    walk_at "wp"
    refine wB_nonIn (os := [dv a, dv c]) g.toGd ?_
    walk_at "e"
    cases ea : dv a with
    | none =>
      refine br_T rfl ?_
      walk_at "wp"
      rw [ea] at h
      exact .same h
    | some t =>
      cases ec : dv c with
      | none =>
        refine br_T rfl ?_
        walk_at "wp"
        rw [ea, Option.map_some, ec] at h
        exact .same h
      | some b =>
        refine br_F rfl ?_
        dsimp only [oN]
        walk_at "wp"
        refine wE_upto ?_
        walk_at "e"
        refine wB_catL (by simp only [List.length_cons, List.length_nil]; omega) ?_
        walk_at "e"
        refine ⟨2, _, rfl, .inl rfl, ?_⟩
        simp only [List.cons_append, List.nil_append, List.take_succ_cons, List.take_zero]
        refine wG_lst g.calm ?_
        walk_at "wp"
        have fa := dv_low ea
        have fb := dv_low ec
        have hn : fin5 ng x (dv a) (Option.map dv (some c)) = none → Q .non μ := fun e => by
          rw [e] at h
          exact h
        by_cases b0 : b = 0
        · refine br_T (decide_eq_true (by omega)) ?_
          walk_at "wp"
          exact .same (hn (by rw [ea, Option.map_some, ec]; exact if_pos (.inl b0)))
        refine br_F (decide_eq_false (by omega)) ?_
        walk_at "wp"
        refine br_T (by rfl) ?_
        walk_at "wp"
        have n1 : t = 0 → Nat.gcd t b = b := fun z => by rw [z, Nat.gcd_zero_left]
        by_cases b1 : b = 1
        · refine br_T (decide_eq_true (by omega)) ?_
          walk_at "wp"
          exact .same (hn (by
            rw [ea, Option.map_some, ec]
            show (if b = 0 ∨ (t = 0 ∧ x ≠ Str.ofString "0") then none else if b = 1 ∨ 1 < Nat.gcd t b then none else some _) = none
            split
            · rfl
            · exact if_pos (.inl b1)))
        refine br_F (decide_eq_false (by omega)) ?_
        walk_at "wp"
        refine sp_low5 T b0 (Nat.lt_of_lt_of_le fb (by decide +kernel)) ?_
        walk_at "wp"
        refine wB_neP g.toGd ?_
        walk_at "e"
        by_cases hgg : Nat.gcd t b = 1
        rotate_left
        · have hlt : b / Nat.gcd t b < b := Nat.div_lt_self (by omega) (by
            have := Nat.gcd_pos_of_pos_right t (Nat.pos_of_ne_zero b0)
            omega)
          refine br_T (by rw [Bool.not_eq_true', decide_eq_false_iff_not]; omega) ?_
          walk_at "wp"
          exact .same (hn (by
            rw [ea, Option.map_some, ec]
            show (if b = 0 ∨ (t = 0 ∧ x ≠ Str.ofString "0") then none else if b = 1 ∨ 1 < Nat.gcd t b then none else some _) = none
            have := Nat.gcd_pos_of_pos_right t (Nat.pos_of_ne_zero b0)
            rw [if_pos (Or.inr (show 1 < Nat.gcd t b by omega))]
            split <;> rfl))
        have t0 : t ≠ 0 := fun z => b1 (by rw [← n1 z, hgg])
        refine br_F (by rw [hgg, Nat.div_one, Nat.div_one]; simp) ?_
        walk_at "wp"
        refine br_F (decide_eq_false (by omega)) ?_
        walk_at "wp"
        refine wE_supto ?_
        walk_at "e"
        refine ⟨1, _, rfl, rfl, by omega, ?_⟩
        walk_at "e"
        rw [p.up]
        walk_at "wp"
        rw [sg_eq]
        have e : fin5 ng x (dv a) (Option.map dv (some c)) = some (Rat.divInt (sgn ng * t) b) := by
          rw [ea, Option.map_some, ec]
          exact (if_neg fun z => z.elim b0 fun z => t0 z.1).trans (if_neg fun z => z.elim b1 fun z => by omega)
        obtain ⟨t', b', f1, f2, f3, f4, _⟩ := fin5_num e
        rw [ea] at f1
        cases f1
        have fb : b' = b := by
          rcases f2 with ⟨r, _⟩ | ⟨r, _⟩
          · cases r
          · rw [Option.map_some, ec] at r
            cases r
            rfl
        subst fb
        rw [e] at h
        dsimp only [dueD] at h
        rw [f3, f4] at h
        exact .same h
  · refine br_T (decide_eq_true (by rw [List.length_map]; omega)) ?_
    walk_at "wp"
    have : fin5 ng x (dv a) (Option.map dv (some c)) = none := by
      rw [Option.map_some, ec]
      cases dv a <;> rfl
    rw [this] at h
    exact .same h
end
end

section
set_option Elab.async false
set_option linter.all false
set_option maxRecDepth 100000
set_option maxHeartbeats 4000000
open PySem L2 PyProof.Rows
section
variable {prog : Program} {w : World} {A : Around} {E : Value → Shared → Prop} {s : Shared}
/-- '>12' as it is parsed -/
def sp12 : Str := Str.ofString ">12"
def f12 : Builtin.Float.FormatSpec := { fill := 32, align := 62, width := some 12 }
/-- a text in twelve places, to the right -/
def pad12 (x : Str) : Str := if 12 ≤ x.length then x else ⟨Array.replicate (12 - x.length) 32 ++ x.cps⟩
end
section
variable {X : Cx} {W : WX} {k j : Nat} {ps : List Str} {R : Rl} {f C : Addr} {fd : FuncData} {ρ : Env'} {μ μ1 μ2 : List M} {ns : List Str} {fs : List D} {y : Str} {e : Expr} {pos p1 p2 : Pos} {kk : Nat}
end
end


section
set_option Elab.async false
set_option linter.all false
set_option maxRecDepth 100000
set_option maxHeartbeats 4000000
open PySem L2 PyProof.Rows
section
variable {X : Cx} {W : WX} {k j : Nat} {ps : List Str} {R : Rl} {f C : Addr} {fd : FuncData} {ρ : Env'} {μ μ1 μ2 : List M} {ns : List Str} {fs : List D} {y : Str} {e v1 v2 : Expr} {es rest : List Expr} {pos p1 p2 : Pos} {kk : Nat} {Q : KV} {Z : KX}
/-- the parts of an f-string, one behind the other -/
def wJ (X : Cx) (W : WX) (ρ : Env') (Q : KV) (Z : KX) : List Expr → Str → List M → Prop
  | [], acc, μ => Q (.str acc) μ
  | e :: es, acc, μ => wE X W ρ μ e (fun d μ1 => ∃ x, d = .str x ∧ (acc ++ x).length ≤ sizeLine ∧ wJ X W ρ Q Z es (acc ++ x) μ1) Z
def teJ (X : Cx) (W : WX) (e : Expr) : TE := fun σ H R => ∃ ρ μ Q Z, wE X W ρ μ e Q Z ∧ ∃ L G, Now X.K L G H μ ρ σ ∧ AccV X.K L G H Q R ∧ AccX W X.K L G H σ Z
theorem pjJ : ∀ es : List Expr, PJ X es (es.map (teJ X W))
  | [] => .nil
  | e :: es => .cons ⟨fun pins s σ H Q I ⟨_, _, _, _, hw, r⟩ => hw.run.run pins s σ H Q I r⟩ (pjJ es)
theorem tJs_J : ∀ (es : List Expr) (acc : Str) (μ : List M) (σ : L2.St) (H : Hp) (R : VK) (L : List Addr) (G : Hp), wJ X W ρ Q Z es acc μ → Now X.K L G H μ ρ σ → AccV X.K L G H Q R → AccX W X.K L G H σ Z → tJs (es.map (teJ X W)) acc σ H (fun out H1 => R (.str out) H1)
  | [], acc, μ, σ, H, R, L, G, h, n, v, x => v _ _ h (.str acc) L G H (.refl _ _ _) n.ok (rep_str.mpr rfl)
  | e :: es, acc, μ, σ, H, R, L, G, h, n, v, x => ⟨ρ, μ, _, _, h, L, G, n, fun d μ1 ⟨y, ed, hl, q⟩ u L1 G1 H1 s1 o1 r1 => by
    subst ed
    exact ⟨y, rep_str.mp r1, hl, tJs_J es (acc ++ y) μ1 σ H1 R L1 G1 q ⟨o1, n.env.mono s1.pre s1.gs⟩ (v.step s1) (x.step s1)⟩, x⟩
/-- an f-string of at least two parts -/
theorem wE_joined (h : wJ X W ρ Q Z (v1 :: v2 :: rest) Str.empty μ) : wE X W ρ μ (.JoinedStr (v1 :: v2 :: rest) pos) Q Z :=
  ⟨pe_of (pe_joined (pjJ (v1 :: v2 :: rest))) fun σ H R ⟨L, G, n, v, x⟩ => tJs_J (v1 :: v2 :: rest) Str.empty μ σ H R L G h n v x⟩
end
end


section
set_option Elab.async false
set_option linter.all false
set_option maxRecDepth 100000
set_option maxHeartbeats 4000000
open PySem L2 PyProof.Rows
theorem reps_strs {K : PySem.W.Frag} {L : List Addr} {G : Hp} : ∀ {ys : List Str} {us : List V}, Reps K L G (ys.map D.str) us → us = ys.map V.str
  | [], us, r => by cases us with
    | nil => rfl
    | cons u us => have := r.length; simp at this
  | y :: ys, us, r => by
    obtain ⟨u, vs, e, r1, r2⟩ := r.inv_cons
    rw [e, rep_str.mp r1, reps_strs r2]
    rfl
section
variable {X : Cx} {W : WX} {ρ : Env'} {μ : List M} {e : Expr} {Q : KV} {Z : KX} {apos pos p1 : Pos} {kk : Nat} {a : Str}
/-- 'sep'.join(a list of texts) -/
theorem wE_join (h : wE X W ρ μ e (fun d μ1 => ∃ ys : List Str, d = .lst (ys.map D.str) ∧ (ys.map (·.length)).sum + ys.length * a.length ≤ 16777216 ∧ Q (.str (Txt.join a ys)) μ1) Z)
    (hs : starEach [e] X.env = [(false, eval e X.env)] := by rfl) (hbase : attributeBase (.Constant (.str a) kk p1) "join" X.env (eval (.Constant (.str a) kk p1) X.env) = eval (.Constant (.str a) kk p1) X.env := by rfl) (hline : (apos.endLine == pos.line) = true := by rfl) :
    wE X W ρ μ (.Call (.Attribute (.Constant (.str a) kk p1) "join" apos) [e] [] pos) Q Z :=
  ⟨pe_of (pe_join pe_str h.run hs hbase hline) fun σ H R ⟨L, G, n, v, x⟩ => ⟨⟨a, rfl⟩, L, G, n, fun d μ1 ⟨ys, ed, hz, q⟩ u L1 G1 H1 s1 o1 r1 => by
    subst ed
    obtain ⟨p, us, rfl, eg, rr⟩ := rep_lst.mp r1
    have eu := reps_strs rr
    subst eu
    exact ⟨a, p, ys, rfl, rfl, .inl (SqL.of (o1.sub _ _ eg)), hz, v _ _ q _ L1 G1 H1 s1 o1 (rep_str.mpr rfl)⟩, x⟩⟩
end
end


open PySem L2 PyProof.Rows TL

section
set_option hygiene false
local macro_rules | `(tactic| fail "F") => `(tactic| with_reducible refine wF_R1 T g.toGd ?_)
local macro_rules | `(tactic| fail "F") => `(tactic| ((with_reducible refine wF_R2 T g.toGd ?qc1 ?qc2 ?_); (case qc1 => (first | with_reducible assumption | omega)); (case qc2 => exact lt_pow_mono (n := 64) (by (first | with_reducible assumption | omega)) (by decide))))
local macro_rules | `(tactic| fail "F") => `(tactic| with_reducible refine wF_isBB ?_)
local macro_rules | `(tactic| fail "F") => `(tactic| with_reducible refine wF_isIB ?_)
local macro_rules | `(tactic| fail "F") => `(tactic| with_reducible refine wF_isII ?_)
local macro_rules | `(tactic| fail "F") => `(tactic| ((with_reducible refine wF_isRt ?qc ?_); (case qc => exact T.own_Ratio)))
local macro_rules | `(tactic| fail "c") => `(tactic| ((with_reducible refine chkC "Ratio" ?_); refine xE_make gn ?qa T.g_Ratio T.mk_Ratio.kp ?_; (case qa => (repeat (first | with_reducible exact In.z | with_reducible apply In.s)))))
local macro_rules | `(tactic| fail "c") => `(tactic| ((with_reducible refine chkC "_law_told" ?_); refine xE_call T.f_w_told g ?qa T.g_w_told T.F_w_told.kp T.b_w_told ?_; (case qa => (repeat (first | with_reducible exact In.z | with_reducible apply In.s)))))
local macro_rules | `(tactic| fail "c") => `(tactic| ((with_reducible refine chkC "_law_due" ?_); refine xE_call T.f_w_due g ?qa T.g_w_due T.F_w_due.kp T.b_w_due ?_; (case qa => (repeat (first | with_reducible exact In.z | with_reducible apply In.s)))))
local macro_rules | `(tactic| fail "c") => `(tactic| ((with_reducible refine chkC "_law_value" ?_); refine xE_call T.f_w_value g ?qa T.g_w_value T.F_w_value.kp T.b_w_value ?_; (case qa => (repeat (first | with_reducible exact In.z | with_reducible apply In.s)))))
local macro_rules | `(tactic| fail "c") => `(tactic| ((with_reducible refine chkC "_law_spoilt" ?_); refine xE_call T.f_w_spoilt g ?qa T.g_w_spoilt T.F_w_spoilt.kp T.b_w_spoilt ?_; (case qa => (repeat (first | with_reducible exact In.z | with_reducible apply In.s)))))
local macro_rules | `(tactic| fail "c") => `(tactic| ((with_reducible refine chkC "_law_text" ?_); refine xE_call T.f_w_text g ?qa T.g_w_text T.F_w_text.kp T.b_w_text ?_; (case qa => (repeat (first | with_reducible exact In.z | with_reducible apply In.s)))))
local macro_rules | `(tactic| fail "c") => `(tactic| ((with_reducible refine chkC "_law_digits" ?_); refine xE_call T.f_w_digits g ?qa T.g_w_digits T.F_w_digits.kp T.b_w_digits ?_; (case qa => (repeat (first | with_reducible exact In.z | with_reducible apply In.s)))))
local macro_rules | `(tactic| fail "c") => `(tactic| ((with_reducible refine chkC "_law_lowest" ?_); refine xE_call T.f_w_lowest g ?qa T.g_w_lowest T.F_w_lowest.kp T.b_w_lowest ?_; (case qa => (repeat (first | with_reducible exact In.z | with_reducible apply In.s)))))
local macro_rules | `(tactic| fail "c") => `(tactic| ((with_reducible refine chkC "_law_take" ?_); refine xE_call T.f_w_take g ?qa T.g_w_take T.F_w_take.kp T.b_w_take ?_; (case qa => (repeat (first | with_reducible exact In.z | with_reducible apply In.s)))))
local macro_rules | `(tactic| fail "c") => `(tactic| ((with_reducible refine chkC "_law_box" ?_); refine xE_call T.f_w_box g ?qa T.g_w_box T.F_w_box.kp T.b_w_box ?_; (case qa => (repeat (first | with_reducible exact In.z | with_reducible apply In.s)))))
local macro_rules | `(tactic| fail "n") => `(tactic| ((with_reducible refine chkN "Ratio" ?_); refine xE_cls gn ?qa T.g_Ratio ?_; (case qa => (repeat (first | with_reducible exact In.z | with_reducible apply In.s)))))
local macro_rules | `(tactic| fail "n") => `(tactic| ((with_reducible refine chkN "InvalidNumber" ?_); refine xE_cls gn ?qa T.g_InvalidNumber ?_; (case qa => (repeat (first | with_reducible exact In.z | with_reducible apply In.s)))))
local macro_rules | `(tactic| fail "n") => `(tactic| ((with_reducible refine chkN "PoolError" ?_); refine xE_cls gn ?qa T.g_PoolError ?_; (case qa => (repeat (first | with_reducible exact In.z | with_reducible apply In.s)))))
local macro_rules | `(tactic| fail "a") => `(tactic| ((with_reducible refine chkA "bottom" ?_); refine wE_bot T ?_))
local macro_rules | `(tactic| fail "a") => `(tactic| ((with_reducible refine chkA "top" ?_); refine wE_top T ?_))
local macro_rules | `(tactic| fail "O") => `(tactic| (refine sp_take T (by (first | assumption | with_reducible exact at_last | with_reducible exact at_new rfl | with_reducible exact at_left (by assumption) | with_reducible exact List.getElem?_set_self (by assumption) | with_reducible exact at_left (at_left (by assumption)))) (by (first | with_reducible assumption | omega)) (by (first | with_reducible assumption | omega)) ?_; intro d h0 h1))
local macro_rules | `(tactic| fail "O") => `(tactic| refine Exists.intro _ (Exists.intro _ (Exists.intro _ (Exists.intro _ (And.intro rfl (And.intro rfl (And.intro (by (first | assumption | with_reducible exact at_last | with_reducible exact at_new rfl | with_reducible exact at_left (by assumption) | with_reducible exact List.getElem?_set_self (by assumption) | with_reducible exact at_left (at_left (by assumption)))) (And.intro rfl ?_))))))))
local macro_rules | `(tactic| fail "O") => `(tactic| refine Exists.intro _ (Exists.intro _ (Exists.intro _ (And.intro rfl ?_))))
local macro_rules | `(tactic| fail "O") => `(tactic| refine Exists.intro _ (Exists.intro _ (And.intro rfl ?_)))
local macro_rules | `(tactic| fail "O") => `(tactic| refine And.intro (by (simp only [List.length_cons, List.length_nil]; decide)) ?_)
local macro_rules | `(tactic| fail "O") => `(tactic| refine Exists.intro _ (And.intro rfl ?_))
def R_str5 {K : PySem.W.Frag} {mg : Str → Option Value} (T : Tx K mg) : Rl := fun ds μ o => ∃ q, ds = [rt T.C_Ratio q] ∧ (Big q.num ∧ Big q.den) ∧ (txR q).length ≤ 100000 ∧ o = .ret (.str (txR q)) μ
section
variable {P : Program} {w : World} {K : PySem.W.Frag} {mg : Str → Option Value} {base : Heap} (T : Tx K mg)
theorem ok_str5 (hD : base.NoDigits) : FnG P w K mg base 1 T.a_Ratio_str T.fd_Ratio_str ["self"] (spR K (R_str5 T)) := by
  refine SpF.rel (f := T.f_Ratio_str) ?_
  rintro ds μ o ⟨q, rfl, ⟨f1, f2⟩, hl, rfl⟩
  have sl := sizeLine_eq
  refine spX_of T.F_Ratio_str sc_Ratio_str ck_Ratio_str rfl ?_
  walk_at "start"
  walk_at "s1"
  have fin : ∀ x, x = txR q → RetOk μ (fun d μ' => FO.ret (.str (txR q)) μ = .ret d μ') (.str x) (μ ++ []) := fun x e => by rw [List.append_nil, e]; exact .same rfl
  refine br_dec (fun h1 => ?_) (fun h1 => ?_)
  · walk_at "s1"
    refine wF_strD hD g.toGd f1 ?_
    exact fin _ (by unfold txR; rw [if_pos (by omega)]; rfl)
  · refine wSs_nil ?_
    have e1 : txR q = tx q.num ++ Str.ofString "/" ++ tx q.den := by unfold txR; rw [if_neg (by omega)]
    have e2 := congrArg Str.length e1
    rw [len_app, len_app] at e2
    have l1 : (Str.ofString "/").length = 1 := rfl
    have l0 : Str.empty.length = 0 := rfl
    have a1 : (Str.ofString (toString q.num)).length = (tx q.num).length := rfl
    have a2 : (Str.ofString (toString (q.den : Int))).length = (tx q.den).length := rfl
    refine wSs_cons (wS_ret (wE_joined ?_))
    refine wE_fmtD hD g.toGd ?_
    walk_at "e"
    refine ⟨f1, _, rfl, by rw [len_app]; omega, ?_⟩
    refine wE_str ⟨_, rfl, by rw [len_app, len_app]; omega, ?_⟩
    refine wE_fmtD hD g.toGd ?_
    walk_at "e"
    refine ⟨f2, _, rfl, by rw [len_app, len_app, len_app]; omega, ?_⟩
    refine fin _ ?_
    rw [e1, Str.empty_append]
    rfl
/-- what is told of a text -/
def toldD (x : Str) : Option Rat → D
  | none => .tup [.str (Str.ofString "invalid"), .str x]
  | some q => .tup [.str (Str.ofString "ratio"), .tup [.int q.num, .int q.den], .str x]
theorem fin5_big {x a : Str} {ng : Bool} {oc : Option Str} {q : Rat} (h : fin5 ng x (dv a) (oc.map dv) = some q) : Big q.num ∧ Big q.den := by
  obtain ⟨t, b, e1, e2, e3, e4, _⟩ := fin5_num h
  have l1 := Nat.lt_of_lt_of_le (isN_low (dv_some.mp e1)) lim_3
  constructor
  · show q.num.natAbs < _
    rw [e3, sgn_nat]
    exact l1
  · show (q.den : Int).natAbs < _
    rw [Int.natAbs_natCast, e4]
    rcases e2 with ⟨_, hb⟩ | ⟨eo, _⟩
    · rw [hb]
      exact Nat.lt_of_lt_of_le (by decide) lim_3
    · cases oc with
      | none => cases eo
      | some c => exact Nat.lt_of_lt_of_le (isN_low (dv_some.mp (Option.some.inj eo))) lim_3
theorem sp_told5 (hD : base.NoDigits) {μ : List M} {x a : Str} {ng : Bool} {oc : Option Str} {Q : KV} {Z : KX} (p : Par x ng a oc) (hl : x.length ≤ 100000)
    (h : Q (toldD x (fin5 ng x (dv a) (oc.map dv))) μ) : SpF P w K mg base T.f_w_told [.str x] μ Q Z := by
  have sl := sizeLine_eq
  refine spX_of T.F_w_told sc_w_told ck_w_told rfl ?_
  walk_at "start"
  rw [List.append_nil]
  walk_at "s1"
  have gn0 := gn
  have g0 := g
  refine wSs_cons (wS_try (C := T.C_InvalidNumber) (i := 3) g (by walk_at "il") ⟨rfl, by decide, .inl T.g_InvalidNumber⟩ ?_)
  intro W' pn xe g
  have gn := g.toNx'
  have yes : PySem.W.exmOne K (.ref T.C_InvalidNumber) (.ref T.C_InvalidNumber) = some true := T.xm_InvalidNumber
  walk_at "wp"
  refine wE_cmeth T.f_Ratio_read g.toGd T.cr_Ratio T.cm_Ratio_read T.b_Ratio_read ?_
  walk_at "e"
  refine ⟨rfl, ?_⟩
  walk_at "e"
  refine sp_read5 T hD p hl (fun q hq => ?_) (fun hn => ?_)
  · have et := fin5_txt p hq
    rw [hq] at h
    walk_at "wp"
    refine .ofV (ct_strOwn g.toGd.w0 T.m_Ratio_str ⟨ok_str5 T hD, T.b_Ratio_str⟩ ⟨q, rfl, fin5_big hq, by rw [et]; exact hl, rfl⟩) ?_
    rw [et]
    walk_at "wp"
    have gn := gn0
    walk_at "wp"
    exact .same h
  · rw [hn] at h
    refine Or.inr ⟨yes, by decide, ?_⟩
    walk_at "suite"
    walk_at "s1"
    refine wE_xf T.xf_InvalidNumber T.na_InvalidNumber_value hz hv ?_
    walk_at "e"
    refine ⟨_, _, _, rfl, rfl, ?_⟩
    walk_at "e"
    refine wSs_nil ?_
    walk_at "after"
    have gn := gn0
    walk_at "wp"
    exact .same h
end

open PySem L2 PyProof.Rows TL

/-- no sign of x is beyond the plain ones -/
def Low (x : Str) : Prop := ∀ c ∈ tl x, c < 1000
theorem Low.app {x y : Str} (h1 : Low x) (h2 : Low y) : Low (x ++ y) := by
  intro c hc
  rw [tl_append] at hc
  rcases List.mem_append.mp hc with h | h
  · exact h1 c h
  · exact h2 c h
theorem low_tx (n : Nat) : Low (tx (n : Int)) := by
  intro c hc
  rw [tl_txN] at hc
  have := numL_digits n c hc
  omega
theorem joinL_mem : ∀ (l : List (List Nat)) (c : Nat), c ∈ joinL [] l → ∃ p ∈ l, c ∈ p
  | [], c, h => by cases h
  | [p], c, h => ⟨p, by simp, h⟩
  | p :: q :: r, c, h => by
    have h' : c ∈ p ++ ([] ++ joinL [] (q :: r)) := h
    rw [List.nil_append] at h'
    rcases List.mem_append.mp h' with h | h
    · exact ⟨p, by simp, h⟩
    · obtain ⟨z, hz, hc⟩ := joinL_mem (q :: r) c h
      exact ⟨z, List.mem_cons_of_mem _ hz, hc⟩
theorem join_low {ys : List Str} (h : ∀ y ∈ ys, Low y) : Low (Txt.join (Str.ofString "") ys) := by
  intro c hc
  rw [join_eq, tl_join] at hc
  obtain ⟨p, hp, hc⟩ := joinL_mem (ys.map tl) c hc
  obtain ⟨y, hy, rfl⟩ := List.mem_map.mp hp
  exact h y hy c hc
theorem joinL_len : ∀ l : List (List Nat), (joinL [] l).length = (l.map List.length).sum
  | [] => rfl
  | [p] => by simp [joinL]
  | p :: q :: r => by
    have ih := joinL_len (q :: r)
    show (p ++ ([] ++ joinL [] (q :: r))).length = _
    rw [List.nil_append, List.length_append, ih]
    simp
theorem join_len (ys : List Str) : (Txt.join (Str.ofString "") ys).length = (ys.map (·.length)).sum := by
  rw [len_tl, join_eq, tl_join]
  show (joinL [] (ys.map tl)).length = _
  rw [joinL_len, List.map_map]
  congr 1
theorem sum_le {l : List Nat} {k : Nat} (h : ∀ x ∈ l, x ≤ k) : l.sum ≤ l.length * k := by
  induction l with
  | nil => simp
  | cons a l ih =>
    rw [List.sum_cons, List.length_cons, Nat.succ_mul]
    have h1 := h a (by simp)
    have h2 := ih fun x hx => h x (by simp [hx])
    omega
theorem tx_one {c : Nat} (h : c < 10) : (tx (c : Int)).length = 1 := by rw [len_tl, tl_txN, numL_lt h]; rfl
section
variable {P : Program} {w : World} {K : PySem.W.Frag} {mg : Str → Option Value} {base : Heap} (T : Tx K mg)
theorem sp_dig5 {μ : List M} {n : Nat} {Q : KV} {Z : KX} (hb : μ[n]? = some .box) (h : ∀ x : Str, x.length ≤ 1001 → Low x → Q (.str x) μ) : SpF P w K mg base T.f_w_digits [.loc n] μ Q Z := by
  have sl := sizeLine_eq
  refine spX_of T.F_w_digits sc_w_digits ck_w_digits rfl ?_
  walk_at "start"
  rw [List.append_nil]
  refine wSs_cut (fun ρ1 μ1 => ∃ m : Int, (1 ≤ m ∧ m ≤ 1001) ∧ μ = μ1 ∧ ρ1 = [some (.loc n), some (.int m), none, none, none]) ?_ ?_
  · walk_at "wp"
    exact ⟨v, by omega, rfl, rfl⟩
  rintro ρ1 μ1 ⟨m, ⟨m0, m1⟩, rfl, rfl⟩
  walk_at "s1"
  refine wSs_cons (wS_setLcR v_w_digits_c0 g_w_digits_c0 o_w_digits_c0 g (sc := defScope s_w_digits) rfl (by decide +kernel) (show BlkOk n_w_digits (defScope s_w_digits) _ _ from ⟨rfl, by decide +kernel, by decide +kernel, by decide +kernel, by decide +kernel⟩) (by walk_at "il") (List.range m.toNat) (fun k : Nat => D.int (0 + (k : Int))) (fun c : Nat => D.str (tx (c : Int))) (fun _ c => c < 10) ?_ (by rw [List.length_range]; omega) ?_ ?_)
  · refine wI_range1 T.n_range ?_
    walk_at "e"
    exact ⟨⟨by omega, by omega⟩, rfl, rfl⟩
  · rintro k hk K1 K2 k1
    have hk' : k < m.toNat := List.mem_range.mp hk
    walk_at "blk"
    refine wGw_name gn (i := 4) (by walk_at "il") (by decide) ?_
    simp only [o_w_digits_c0, List.map_cons, List.map_nil, wipeD, List.set_cons_succ, List.set_cons_zero]
    walk_at "e"
    walk_at "blk"
    refine wTs_nil (br_T rfl ?_)
    walk_at "blk"
    walk_at "e"
    have r0 := Int.emod_nonneg ((1 + d) * (0 + (k : Int) + 3) + (0 + (k : Int)) * (0 + (k : Int)) / 7) (show (10 : Int) ≠ 0 by decide)
    have r1 := Int.emod_lt_of_pos ((1 + d) * (0 + (k : Int) + 3) + (0 + (k : Int)) * (0 + (k : Int)) / 7) (show (0 : Int) < 10 by decide)
    generalize ((1 + d) * (0 + (k : Int) + 3) + (0 + (k : Int)) * (0 + (k : Int)) / 7) % 10 = r at r0 r1 ⊢
    refine wF_strI (Nat.lt_trans (log2_lt (show r.natAbs < 2 ^ 64 by omega) (by decide)) (by decide)) ?_
    have := k1 r.toNat (by omega)
    rw [Int.toNat_of_nonneg r0] at this
    exact this
  rintro ys hy
  walk_at "wp"
  refine wE_join ?_
  walk_at "e"
  rename_i e0 z0 z1
  obtain ⟨c0, hc0, ec0⟩ : ∃ c : Nat, c < 10 ∧ ((1 + e0) * if decide (0 < d) = true then 1 else 0) = (c : Int) := by
    by_cases hd : 0 < d
    · rw [decide_eq_true hd, if_pos rfl, Int.mul_one]
      exact ⟨(1 + e0).toNat, by omega, by omega⟩
    · rw [decide_eq_false hd, if_neg (by decide), Int.mul_zero]
      exact ⟨0, by decide, rfl⟩
  rw [ec0]
  refine wF_strI (Nat.lt_trans (log2_lt (show ((c0 : Int)).natAbs < 2 ^ 64 by omega) (by decide)) (by decide)) ?_
  walk_at "e"
  refine wE_from ?_
  walk_at "e"
  have ly : ys.length = m.toNat := by have := hy.len; rw [List.length_range] at this; omega
  refine ⟨1, _, rfl, .inl rfl, ?_⟩
  refine wB_catL (by simp only [List.length_cons, List.length_nil, List.length_drop, List.length_map]; omega) ?_
  have hl : ∀ y ∈ tx (c0 : Int) :: (ys.map fun c : Nat => tx (c : Int)).drop 1, y.length = 1 := by
    intro y hy'
    rcases List.mem_cons.mp hy' with e | hy'
    · rw [e]; exact tx_one hc0
    · obtain ⟨c, hc, rfl⟩ := List.mem_map.mp (List.mem_of_mem_drop hy')
      obtain ⟨_, _, r⟩ := hy.mem hc
      exact tx_one r
  have hs : ((tx (c0 : Int) :: (ys.map fun c : Nat => tx (c : Int)).drop 1).map (·.length)).sum ≤ 1001 := by
    have := sum_le (l := (tx (c0 : Int) :: (ys.map fun c : Nat => tx (c : Int)).drop 1).map (·.length)) (k := 1) (fun x hx => by
      obtain ⟨y, hy', rfl⟩ := List.mem_map.mp hx
      exact Nat.le_of_eq (hl y hy'))
    rw [List.length_map, List.length_cons, List.length_drop, List.length_map] at this
    omega
  refine ⟨tx (c0 : Int) :: (ys.map fun c : Nat => tx (c : Int)).drop 1, ?_, ?_, ?_⟩
  · rw [List.map_cons, List.map_drop, List.map_map]
    rfl
  · rw [show (Str.ofString "").length = 0 from rfl, Nat.mul_zero]
    omega
  · refine .same (h _ (by rw [join_len]; exact hs) (join_low fun y hy' => ?_))
    rcases List.mem_cons.mp hy' with e | hy'
    · rw [e]; exact low_tx c0
    · obtain ⟨c, hc, rfl⟩ := List.mem_map.mp (List.mem_of_mem_drop hy')
      exact low_tx c
end

open PySem L2 PyProof.Rows TL

theorem low_of {s : String} (h : (s.toList.map Char.toNat).all (fun c => decide (c < 1000)) = true) : Low (Str.ofString s) := by
  intro c hc
  rw [tl_of] at hc
  exact of_decide_eq_true (List.all_eq_true.mp h c hc)
theorem low_if {x : Str} (i : Int) (h : Low x) : Low (if i = 1 then x else Str.empty) := by
  split
  · exact h
  · intro c hc; cases hc
theorem cut_take (x : Str) (k : Nat) : tl (cutS x none (some ((k : Nat) : Int))) = (tl x).take k := by
  show List.take _ (List.drop _ (tl x)) = _
  rw [HT.sIx_nat, HT.sIx_none, List.drop_zero, Nat.sub_zero, len_tl x]
  by_cases h : k ≤ (tl x).length
  · rw [Nat.min_eq_left h]
  · rw [Nat.min_eq_right (by omega), List.take_of_length_le (Nat.le_refl _), List.take_of_length_le (by omega)]
theorem at_ex {α : Type} {l : List α} {i : Int} (h0 : 0 ≤ i) (h1 : i < l.length) : ∃ c, atI l i = some c ∧ c ∈ l := by
  obtain ⟨k, rfl⟩ := Int.eq_ofNat_of_zero_le h0
  have hk : k < l.length := by omega
  exact ⟨l[k], by simp [atI, ixN, hk], List.getElem_mem hk⟩
section
variable {P : Program} {w : World} {K : PySem.W.Frag} {mg : Str → Option Value} {base : Heap} (T : Tx K mg)
theorem tx_small {t : Nat} (h : t < 1000) : (tx (t : Int)).length ≤ 3 := by rw [len_tl, tl_txN]; exact numL_len (by decide) h
theorem sp_text5 {μ : List M} {n : Nat} {Q : KV} {Z : KX} (hb : μ[n]? = some .box) (h : ∀ x : Str, x.length ≤ 3000 → Low x → Q (.str x) μ) : SpF P w K mg base T.f_w_text [.loc n] μ Q Z := by
  have sl := sizeLine_eq
  refine spX_of T.F_w_text sc_w_text ck_w_text rfl ?_
  walk_at "start"
  rw [List.append_nil]
  walk_at "s1"
  refine sp_dig5 T hb fun a ha wa => ?_
  walk_at "e"
  refine sp_dig5 T hb fun b hb2 wb => ?_
  walk_at "e"
  walk_at "s1"
  have ls : (Str.ofString "/").length = 1 := rfl
  have ws : Low (Str.ofString "/") := low_of (by decide)
  have wm : Low (Str.ofString "-") := low_of (by decide)
  refine wSs_cut (fun ρ1 μ1 => ∃ t : Str, (t.length ≤ 2003 ∧ Low t) ∧ μ = μ1 ∧ ρ1 = [some (.loc n), some (.str a), some (.str b), some (.int d), some (.str t), none]) ?_ ?_
  · have fin : ∀ t : Str, t.length ≤ 2003 → Low t → ∃ t' : Str, (t'.length ≤ 2003 ∧ Low t') ∧ μ = μ ∧ [some (D.loc n), some (.str a), some (.str b), some (.int d), some (.str t), none] = [some (.loc n), some (.str a), some (.str b), some (.int d), some (.str t'), none] := fun t ht wt => ⟨t, ⟨ht, wt⟩, rfl, rfl⟩
    walk_at "wp"
    refine br_dec (fun hd => ?_) (fun hd => ?_)
    · walk_at "wp"
      exact fin a (by omega) wa
    · walk_at "wp"
      refine wB_cat (by omega) ?_
      walk_at "e"
      have lab := len_app a b
      refine wF_lenS (by omega) ?_
      walk_at "e"
      refine br_dec (fun hc => ?_) (fun hc => ?_)
      · walk_at "wp"
        exact fin a (by omega) wa
      · walk_at "wp"
        refine wB_cat (by omega) ?_
        walk_at "e"
        refine wB_cat (by rw [len_app]; omega) ?_
        walk_at "e"
        exact fin _ (by rw [len_app, len_app]; omega) ((wa.app ws).app wb)
  rintro ρ1 μ1 ⟨t, ⟨ht, wt⟩, rfl, rfl⟩
  refine wSs_cut (fun ρ1 μ1 => ∃ (t : Str) (o : Option D), (t.length ≤ 2003 ∧ Low t) ∧ μ = μ1 ∧ ρ1 = [some (.loc n), some (.str a), some (.str b), some (.int d), some (.str t), o]) ?_ ?_
  · walk_at "wp"
    refine br_dec (fun hd => ?_) (fun hd => ?_)
    · walk_at "wp"
      rename_i e0 z0 z1 e1 y0 y1
      obtain ⟨p, ep⟩ := Int.eq_ofNat_of_zero_le (show 0 ≤ 1 + e1 by omega)
      obtain ⟨q, eq⟩ := Int.eq_ofNat_of_zero_le (show 0 ≤ 2 + d by omega)
      rw [ep, eq]
      refine sp_low5 T (by omega) (Nat.lt_of_lt_of_le (show q < 2 ^ 64 by omega) (Nat.pow_le_pow_right (by decide) (by decide))) ?_
      have hp : p / Nat.gcd p q < 1000 := Nat.lt_of_le_of_lt (Nat.div_le_self ..) (by omega)
      have hq : q / Nat.gcd p q < 1000 := Nat.lt_of_le_of_lt (Nat.div_le_self ..) (by omega)
      generalize p / Nat.gcd p q = u at hp ⊢
      generalize q / Nat.gcd p q = v at hq ⊢
      have lu := tx_small hp
      have lv := tx_small hq
      have lg : ∀ t : Nat, t < 1000 → ((t : Int)).natAbs.log2 < 1920 := fun t ht => Nat.lt_trans (log2_lt (show ((t : Int)).natAbs < 2 ^ 64 by omega) (by decide)) (by decide)
      have lv' : (Str.ofString (toString (v : Int))).length ≤ 3 := lv
      have lu' : (Str.ofString (toString (u : Int))).length ≤ 3 := lu
      walk_at "wp"
      refine wF_strI (lg u hp) ?_
      walk_at "e"
      refine wF_strI (lg v hq) ?_
      walk_at "e"
      refine wB_cat (by omega) ?_
      walk_at "e"
      refine wB_mul01 (by split <;> simp) ?_
      walk_at "e"
      have lm : ∀ i : Int, (if i = 1 then Str.ofString "/" ++ Str.ofString (toString (v : Int)) else Str.empty).length ≤ 4 := fun i => by
        split
        · rw [len_app]; omega
        · decide
      have l2 := lm (if decide (1 < (v : Int)) = true then 1 else 0)
      refine wB_cat (by omega) ?_
      walk_at "wp"
      refine ⟨_, _, ⟨?_, Low.app (low_tx u) (low_if _ (Low.app ws (low_tx v)))⟩, rfl, rfl⟩
      rw [len_app]
      exact Nat.le_trans (Nat.add_le_add lu l2) (by decide)
    · refine wSs_nil ?_
      exact ⟨t, none, ⟨ht, wt⟩, rfl, rfl⟩
  rintro ρ1 μ1 ⟨t, o, ⟨ht, wt⟩, rfl, rfl⟩
  walk_at "s1"
  refine wB_mul01 (by split <;> simp) ?_
  walk_at "e"
  have lm : ∀ i : Int, (if i = 1 then Str.ofString "-" else Str.empty).length ≤ 1 := fun i => by split <;> decide
  have l2 := lm (if decide (d = 0) = true then 1 else 0)
  refine wB_cat (by omega) ?_
  exact .same (h _ (by rw [len_app]; omega) ((low_if _ wm).app wt))
theorem sp_spoil5 {μ : List M} {n : Nat} {x : Str} {Q : KV} {Z : KX} (hb : μ[n]? = some .box) (hl : x.length ≤ 5000) (wx : Low x) (h : ∀ y : Str, y.length ≤ x.length + 1 → Low y → Q (.str y) μ) : SpF P w K mg base T.f_w_spoilt [.loc n, .str x] μ Q Z := by
  have sl := sizeLine_eq
  refine spX_of T.F_w_spoilt sc_w_spoilt ck_w_spoilt rfl ?_
  walk_at "start"
  rw [List.append_nil]
  walk_at "s1"
  refine wF_lenS (by omega) ?_
  walk_at "e"
  rename_i e0 z0 z1
  obtain ⟨k, ek⟩ := Int.eq_ofNat_of_zero_le z0
  have hk : k ≤ x.length := by omega
  subst ek
  obtain ⟨c, hc, hm⟩ := at_ex (l := (Str.ofString "0123456789-/+ ._aA\n,:;=(|").cps.toList) h0 (by rw [show (Str.ofString "0123456789-/+ ._aA\n,:;=(|").cps.toList.length = 25 by decide +kernel]; exact h1)
  have wc : c < 1000 := List.all_eq_true.mp (show ((Str.ofString "0123456789-/+ ._aA\n,:;=(|").cps.toList.all fun c => decide (c < 1000)) = true by decide +kernel) c hm |> of_decide_eq_true
  refine wX_sign (c := c) (by rw [show (Str.ofString "0123456789-/+ ._aA\n,:;=(|").length = 25 by decide +kernel]; omega) hc ?_
  walk_at "e"
  walk_at "s1"
  refine wE_supto ?_
  walk_at "e"
  refine ⟨k, _, rfl, rfl, by omega, ?_⟩
  walk_at "e"
  rename_i d2 a0 a1
  refine wX_some (by walk_at "ixd") h0 (by simp only [List.length_cons, List.length_nil]; omega) fun m dd e _ => ?_
  obtain ⟨y, rfl, hy, wy⟩ : ∃ y : Str, dd = .str y ∧ y.length ≤ 1 ∧ Low y := by
    match m, e with
    | 0, e => cases e; exact ⟨_, rfl, Nat.le_refl _, fun z hz => by rw [List.mem_singleton.mp hz]; exact wc⟩
    | 1, e => cases e; exact ⟨_, rfl, by decide, low_of (by decide)⟩
  walk_at "e"
  have c1 : (cutS x none (some ((k : Nat) : Int))).length ≤ k := by
    rw [len_tl, cut_take, List.length_take]
    omega
  refine wB_cat (by omega) ?_
  walk_at "e"
  refine wE_sfrom ?_
  walk_at "e"
  obtain ⟨j, ej⟩ := Int.eq_ofNat_of_zero_le (show 0 ≤ (k : Int) + d by omega)
  refine ⟨j, _, ?_, rfl, by omega, ?_⟩
  · rw [ej]
  have c2 : (cutS x (some ((j : Nat) : Int)) none).length ≤ x.length - k := by
    rw [len_tl, cut_tail, List.length_drop, ← len_tl]
    omega
  refine wB_cat (by rw [len_app]; omega) ?_
  refine .same (h _ (by rw [len_app, len_app]; omega) (Low.app (Low.app (fun z hz => ?_) wy) fun z hz => ?_))
  · rw [cut_take] at hz
    exact wx z (List.mem_of_mem_take hz)
  · rw [cut_tail] at hz
    exact wx z (List.mem_of_mem_drop hz)
end

open PySem L2 PyProof.Rows TL

theorem rp_len {x : Str} (h : x.length ≤ 5000) (w : Low x) : (reprText x).length ≤ 100000 := by
  have := PySem.StrLaws.reprText_len x (fun c hc => Nat.lt_of_lt_of_le (w c hc) (by decide))
  omega
theorem fin5_len {x a : Str} {s : Bool} {oc : Option Str} {q : Rat} (h : fin5 s x (dv a) (oc.map dv) = some q) : (Str.ofString (toString q.num)).length ≤ 5000 ∧ (Str.ofString (toString (q.den : Int))).length ≤ 5000 := by
  obtain ⟨t, b, e1, e2, e3, e4, _⟩ := fin5_num h
  have lt := (dv_some.mp e1).2
  constructor
  · show (tx q.num).length ≤ _
    rw [len_tl, tl_tx, e3, sgn_nat, List.length_append]
    unfold sgL
    split <;> simp <;> omega
  · show (tx (q.den : Int)).length ≤ _
    rw [len_tl, tl_txN, e4]
    rcases e2 with ⟨_, hb⟩ | ⟨eo, _⟩
    · rw [hb]; decide
    · cases oc with
      | none => cases eo
      | some c => exact Nat.le_trans (dv_some.mp (Option.some.inj eo)).2 (by decide)
section
variable {P : Program} {w : World} {K : PySem.W.Frag} {mg : Str → Option Value} {base : Heap} (T : Tx K mg)
abbrev lvl_law : Nat := 103
theorem binds_law (T : Tx K mg) (s : Shared) (u : Value) : BindsTo s T.fd_law ⟨[u], []⟩ [("_law_script", u)] := by
  obtain ⟨oc, od, dV, kV, doc, pm, an, cdv, ct, osl, e, look, hcode, hD, _⟩ := T.F_law.ex
  rcases hD with ⟨_, rfl⟩ | ⟨z, _⟩
  · rw [e]
    exact .of_eq rfl
  · exact (z rfl).elim
theorem mem_range {d : D} {n : Nat} (h : d ∈ rangeD 0 n) : ∃ i : Nat, i < n ∧ d = .int (i : Int) := by
  obtain ⟨i, hi, rfl⟩ := List.mem_map.mp h
  exact ⟨i, List.mem_range.mp hi, by simp⟩
theorem fold_mem (a : Array Nat) : ∀ (n : Nat) (z : Array Nat) (c : Nat), c ∈ ((List.replicate n a).foldl (· ++ ·) z).toList → c ∈ z.toList ∨ c ∈ a.toList
  | 0, z, c, h => .inl (by simpa using h)
  | n + 1, z, c, h => by
    rw [List.replicate_succ, List.foldl_cons] at h
    rcases fold_mem a n _ c h with h | h
    · simp only [Array.toList_append, List.mem_append] at h
      exact h
    · exact .inr h
theorem low_rpt {x : Str} (n : Nat) (h : Low x) : Low (rptS x n) := by
  unfold rptS
  split
  · intro c hc; cases hc
  · split
    · exact h
    · intro c hc
      rcases fold_mem x.cps n #[] c hc with z | z
      · cases z
      · exact h c z
/-- a text that is asked -/
def Asked (d : D) : Prop := ∃ x : Str, d = .str x ∧ x.length ≤ 5000 ∧ Low x
theorem asked {x : Str} (h : x.length ≤ 5000) (w : Low x) : Asked (.str x) := ⟨x, rfl, h, w⟩
theorem askedC {s : String} (h : (Str.ofString s).length ≤ 5000) (w : (s.toList.map Char.toNat).all (fun c => decide (c < 1000)) = true) : Asked (.str (Str.ofString s)) := ⟨_, rfl, h, low_of w⟩
theorem ok_law (hD : base.NoDigits) : FnG P w K mg base lvl_law T.a_law T.fd_law ["_law_script"] (spR K (RLaw Scr)) := by
  refine SpF.rel (f := ⟨T.a_law, T.fd_law, ["_law_script"], lvl_law⟩) ?_
  rintro ds μ o ⟨ns, hs, rfl, rfl, rfl⟩
  refine spX_of T.F_law sc_law ck_law rfl ?_
  walk_at "start"
  have sl := sizeLine_eq
  have nl : ns.length ≤ 63 := hs.len
  refine wSs_cons (wS_for g.po g.calm (wI_range1 T.n_range ?_))
  walk_at "e"
  have ml : (ns.map D.int).length ≤ 63 := by rw [List.length_map]; exact nl
  generalize hmk : max (1 : Int) (min 6 ((ns.map D.int).length : Int)) = mk
  have hmk1 : 0 ≤ mk ∧ mk ≤ 6 := by omega
  clear hmk
  refine ⟨⟨by omega, by omega⟩, ?_⟩
  refine wFor_inv (fun ds ρ μ => (∀ d ∈ ds, ∃ i : Nat, i < 6 ∧ d = .int i) ∧ ∃ o1 o2 o3 o4 o5 o6 o7 o8, ρ = [some (.scr (ns.map D.int)), o1, o2, o3, o4, o5, o6, o7, o8]) ?_ ?_ _ _ _ ⟨fun d hd => ?_, _, _, _, _, _, _, _, _, rfl⟩
  rotate_left
  · rintro ρ μ ⟨_, o1, o2, o3, o4, o5, o6, o7, o8, rfl⟩
    walk_at "wp"
    exact RetOk.low (μ := []) rfl rfl
  · obtain ⟨i, hi, rfl⟩ := mem_range hd
    exact ⟨i, by omega, rfl⟩
  rintro d ds ρ μ ⟨hds, o1, o2, o3, o4, o5, o6, o7, o8, rfl⟩
  obtain ⟨i, hi, rfl⟩ := hds d (by simp)
  have hrest : ∀ d ∈ ds, ∃ i : Nat, i < 6 ∧ d = .int i := fun d hd => hds d (by simp [hd])
  walk_at "e"
  walk_at "s1"
  refine sp_box T (by omega) (by omega) ?_
  walk_at "e"
  have hμ : (μ ++ [M.box])[μ.length]? = some .box := at_last
  generalize hm : μ ++ [M.box] = μ1 at *
  generalize hb : μ.length = b at *
  clear hm hb
  walk_at "s1"
  refine sp_text5 T hμ fun x hx wx => ?_
  walk_at "e"
  walk_at "s1"
  refine wSs_cons (wS_for g.po g.calm (wI_range1 T.n_range ?_))
  walk_at "e"
  refine ⟨⟨by omega, by omega⟩, ?_⟩
  refine wFor_inv (fun ds ρ μ' => ∃ y : Str, (y.length + ds.length ≤ 3010 ∧ Low y) ∧ μ1 = μ' ∧ ∃ o5, ρ = [some (.scr (ns.map D.int)), some (.int i), some (.loc b), some (.str x), some (.str y), o5, o6, o7, o8]) ?_ ?_ _ _ _ ⟨x, ⟨?_, wx⟩, rfl, _, rfl⟩
  rotate_right
  · simp only [rangeD, List.length_map, List.length_range]
    omega
  · rintro d0 ds ρ _ ⟨y, ⟨hy, wy⟩, rfl, o5, rfl⟩
    rw [List.length_cons] at hy
    walk_at "e"
    walk_at "s1"
    refine sp_spoil5 T hμ (by omega) wy fun z hz wz => ?_
    walk_at "e"
    exact wSs_nil ⟨z, ⟨by omega, wz⟩, rfl, _, rfl⟩
  rintro ρ _ ⟨y, ⟨hy, wy⟩, rfl, o5, rfl⟩
  refine wSs_cons (wS_set gn ⟨_, by walk_at "ix"⟩ (wE_lstL ?_))
  walk_at "e"
  have hb : b < μ1.length := (List.getElem?_eq_some_iff.mp hμ).1
  have l1 : (Str.ofString " ").length = 1 := rfl
  have l2 : (Str.ofString "\n").length = 1 := rfl
  refine wB_cat (by omega) ?_
  walk_at "e"
  refine wB_cat (by omega) ?_
  walk_at "e"
  refine wB_cat (by omega) ?_
  walk_at "e"
  refine wB_cat (by omega) ?_
  walk_at "e"
  have wb : Low (Str.ofString " ") := low_of (by decide)
  have wn : Low (Str.ofString "\n") := low_of (by decide)
  generalize hE : [D.str (Str.ofString " " ++ x), D.str (x ++ Str.ofString " "), D.str (Str.ofString "\n" ++ x), D.str (x ++ Str.ofString "\n"), D.str (Str.ofString "- 1"), D.str (Str.ofString "1/ 2"), D.str (Str.ofString "1 /2")] = es
  have hel : es.length = 7 := by rw [← hE]; rfl
  have hes : ∀ e ∈ es, Asked e := by
    rw [← hE]
    intro e he
    simp only [List.mem_cons, List.not_mem_nil, or_false] at he
    rcases he with rfl | rfl | rfl | rfl | rfl | rfl | rfl
    · exact asked (by rw [len_app]; omega) (Low.app wb wx)
    · exact asked (by rw [len_app]; omega) (Low.app wx wb)
    · exact asked (by rw [len_app]; omega) (Low.app wn wx)
    · exact asked (by rw [len_app]; omega) (Low.app wx wn)
    · exact askedC (by decide) (by decide)
    · exact askedC (by decide) (by decide)
    · exact askedC (by decide) (by decide)
  clear hE
  have hμ2 : (μ1 ++ [M.lst es])[b]? = some .box := at_left hμ
  walk_at "s1"
  refine wE_append ?_
  walk_at "e"
  refine ⟨⟨_, at_last⟩, ?_⟩
  walk_at "e"
  have c0 : (Str.ofString "0").length = 1 := rfl
  have c1 : (Str.ofString "1").length = 1 := rfl
  have c2 : (Str.ofString "/1").length = 2 := rfl
  have wc0 : Low (Str.ofString "0") := low_of (by decide)
  have wc1 : Low (Str.ofString "1") := low_of (by decide)
  have wc2 : Low (Str.ofString "/1") := low_of (by decide)
  obtain ⟨n1, en1⟩ := Int.eq_ofNat_of_zero_le (show 0 ≤ 990 + d by omega)
  have n1l : n1 ≤ 1000 := by omega
  rw [en1]
  refine wB_mulSt (by omega) (by omega) ?_
  have r1 : (rptS (Str.ofString "0") n1).length = n1 := by rw [rptS_len, c0, Nat.one_mul]
  have w1 := low_rpt n1 wc0
  generalize rptS (Str.ofString "0") n1 = z1 at r1 w1 ⊢
  walk_at "e"
  refine wB_cat (by omega) ?_
  walk_at "e"
  refine wB_cat (by rw [len_app]; omega) ?_
  walk_at "e"
  obtain ⟨n2, en2⟩ := Int.eq_ofNat_of_zero_le (show 0 ≤ 985 + d by omega)
  have n2l : n2 ≤ 1000 := by omega
  rw [en2]
  refine wB_mulSt (by omega) (by omega) ?_
  have r2 : (rptS (Str.ofString "0") n2).length = n2 := by rw [rptS_len, c0, Nat.one_mul]
  have w2 := low_rpt n2 wc0
  generalize rptS (Str.ofString "0") n2 = z2 at r2 w2 ⊢
  walk_at "e"
  refine wB_cat (by rw [len_app, len_app]; omega) ?_
  walk_at "e"
  refine wB_cat (by rw [len_app, len_app, len_app]; omega) ?_
  walk_at "e"
  refine ⟨_, at_last, by omega, ?_⟩
  rw [set_last]
  have hes2 : ∀ e ∈ es ++ [D.str (Str.ofString "1" ++ z1 ++ Str.ofString "/1" ++ z2 ++ Str.ofString "1")], Asked e := by
    intro e he
    rcases List.mem_append.mp he with he | he
    · exact hes e he
    · rw [List.mem_singleton.mp he]
      exact asked (by rw [len_app, len_app, len_app, len_app]; omega) (Low.app (Low.app (Low.app (Low.app wc1 w1) wc2) w2) wc1)
  have hel2 : (es ++ [D.str (Str.ofString "1" ++ z1 ++ Str.ofString "/1" ++ z2 ++ Str.ofString "1")]).length = 8 := by rw [List.length_append, hel]; rfl
  generalize es ++ [D.str (Str.ofString "1" ++ z1 ++ Str.ofString "/1" ++ z2 ++ Str.ofString "1")] = fs at hes2 hel2 ⊢
  clear hes hel
  refine wSs_cons (wS_for g.po g.calm (wI_lst ?_))
  walk_at "e"
  refine wB_catQ (.inl rfl) (.inr ⟨_, rfl, at_last⟩) (by simp only [List.length_cons, List.length_nil]; omega) ?_
  walk_at "e"
  refine wFor_inv (fun ds ρ μ' => (∀ d ∈ ds, Asked d) ∧ μ1 ++ [M.lst fs] = μ' ∧ ∃ o7 o8, ρ = [some (.scr (ns.map D.int)), some (.int i), some (.loc b), some (.str x), some (.str y), o5, some (.loc μ1.length), o7, o8]) ?_ ?_ _ _ _ ⟨?_, rfl, _, _, rfl⟩
  rotate_left
  · rintro ρ _ ⟨_, rfl, o7, o8, rfl⟩
    exact wSs_nil ⟨hrest, _, _, _, _, _, _, _, _, rfl⟩
  · intro e he
    rcases List.mem_append.mp he with he | he
    · simp only [List.mem_cons, List.not_mem_nil, or_false] at he
      rcases he with rfl | rfl | rfl | rfl | rfl | rfl | rfl | rfl | rfl | rfl
      · exact asked (by omega) wx
      · exact asked (by rw [List.length_nil] at hy; omega) wy
      · exact askedC (by decide) (by decide)
      · exact askedC (by decide) (by decide)
      · exact askedC (by decide) (by decide)
      · exact asked (by omega) wx
      · exact askedC (by decide) (by decide)
      · exact askedC (by decide) (by decide)
      · exact askedC (by decide) (by decide)
      · exact askedC (by decide) (by decide)
    · exact hes2 e he
  clear o7 o8
  rintro d0 ds ρ _ ⟨hds2, rfl, o7, o8, rfl⟩
  obtain ⟨t, rfl, ht, wt⟩ := hds2 d0 (by simp)
  have hrest2 : ∀ d ∈ ds, Asked d := fun d hd => hds2 d (by simp [hd])
  obtain ⟨ng, a, oc, p⟩ := par_ex t
  have rt1 := rp_len ht wt
  walk_at "e"
  walk_at "s1"
  refine sp_due5 T hD p (by omega) ?_
  walk_at "e"
  walk_at "s1"
  refine sp_told5 T hD p (by omega) ?_
  cases hr : fin5 ng t (dv a) (oc.map dv) with
  | none =>
    dsimp only [toldD, dueD]
    walk_at "e"
    have ri := rp_len (x := Str.ofString "invalid") (by decide) (low_of (by decide))
    refine .ofV (repr_pairS g.toGd.w0 ri rt1 (by decide)) ?_
    walk_at "e"
    refine .ofV (repr_pairS g.toGd.w0 ri rt1 (by decide)) ?_
    walk_at "e"
    refine br_F (by simp) (wSs_nil ?_)
    exact wSs_nil ⟨hrest2, rfl, _, _, rfl⟩
  | some q =>
    dsimp only [toldD, dueD]
    walk_at "e"
    have ri := rp_len (x := Str.ofString "ratio") (by decide) (low_of (by decide))
    obtain ⟨b1, b2⟩ := fin5_big hr
    obtain ⟨n1, n2⟩ := fin5_len hr
    refine .ofV (repr_trip g.toGd.w0 hD ri rt1 b1 b2 n1 n2 (by decide)) ?_
    walk_at "e"
    refine .ofV (repr_trip g.toGd.w0 hD ri rt1 b1 b2 n1 n2 (by decide)) ?_
    walk_at "e"
    refine br_F (by simp) (wSs_nil ?_)
    exact wSs_nil ⟨hrest2, rfl, _, _, rfl⟩
end
end

end PM

set_option Elab.async false
set_option linter.all false
set_option maxRecDepth 100000
set_option maxHeartbeats 4000000
namespace PM
open PySem L2
theorem tx_mk {K : PySem.W.Frag} {h : Heap} {mg : Str → Option Value} {fa : Addr} (X : K.In h) (G : h.Ns mainGlobals mg) (hfa : mg "law" = some (.ref fa))
    {C_PoolError : Addr}
    {nm_PoolError q_PoolError : Str} {N_PoolError : Addr} {bs_PoolError : List Value} {sn_PoolError : List Str} {sub_PoolError : List Value} {ab_PoolError : Bool} {col_PoolError : Option Bool} {dd_PoolError : Option Addr} {m0_PoolError m1_PoolError m2_PoolError m3_PoolError m5_PoolError : Option Value}
    {C_InvalidNumber : Addr}
    {nm_InvalidNumber q_InvalidNumber : Str} {N_InvalidNumber : Addr} {bs_InvalidNumber : List Value} {sn_InvalidNumber : List Str} {sub_InvalidNumber : List Value} {ab_InvalidNumber : Bool} {col_InvalidNumber : Option Bool} {dd_InvalidNumber : Option Addr} {m0_InvalidNumber m1_InvalidNumber m2_InvalidNumber m3_InvalidNumber m5_InvalidNumber : Option Value}
    {C_Ratio : Addr}
    {lo_Ratio : Value} {ld_Ratio : Option Addr} {lc_Ratio : ClassData} {ls_Ratio : Array (Option Value)}
    {a_InvalidNumber_init : Addr} {oc_InvalidNumber_init kV_InvalidNumber_init dc_InvalidNumber_init pm_InvalidNumber_init cd_InvalidNumber_init ct_InvalidNumber_init : Value} {od_InvalidNumber_init an_InvalidNumber_init : Option Addr} {sl_InvalidNumber_init : Array (Option Value)}
    {a_common_divisor : Addr} {oc_common_divisor kV_common_divisor dc_common_divisor pm_common_divisor cd_common_divisor ct_common_divisor : Value} {od_common_divisor an_common_divisor : Option Addr} {sl_common_divisor : Array (Option Value)}
    {a_digits_value : Addr} {oc_digits_value kV_digits_value dc_digits_value pm_digits_value cd_digits_value ct_digits_value : Value} {od_digits_value an_digits_value : Option Addr} {sl_digits_value : Array (Option Value)}
    {a_Ratio_init : Addr} {oc_Ratio_init kV_Ratio_init dc_Ratio_init pm_Ratio_init cd_Ratio_init ct_Ratio_init : Value} {od_Ratio_init an_Ratio_init : Option Addr} {sl_Ratio_init : Array (Option Value)}
    {T_Ratio_init : Addr} {nn_Ratio_init : Nat}
    {dk_Ratio_init : Tok} {cl_Ratio_init : Value} {sd_Ratio_init : Option Addr} {ss_Ratio_init : Array (Option Value)}
    {a_Ratio_read : Addr} {oc_Ratio_read kV_Ratio_read dc_Ratio_read pm_Ratio_read cd_Ratio_read ct_Ratio_read : Value} {od_Ratio_read an_Ratio_read : Option Addr} {sl_Ratio_read : Array (Option Value)}
    {p_Ratio_read : Addr} {r_Ratio_read : List Value}
    {a_Ratio_str : Addr} {oc_Ratio_str kV_Ratio_str dc_Ratio_str pm_Ratio_str cd_Ratio_str ct_Ratio_str : Value} {od_Ratio_str an_Ratio_str : Option Addr} {sl_Ratio_str : Array (Option Value)}
    {a_w_box : Addr} {oc_w_box kV_w_box dc_w_box pm_w_box cd_w_box ct_w_box : Value} {od_w_box an_w_box : Option Addr} {sl_w_box : Array (Option Value)}
    {a_w_take : Addr} {oc_w_take kV_w_take dc_w_take pm_w_take cd_w_take ct_w_take : Value} {od_w_take an_w_take : Option Addr} {sl_w_take : Array (Option Value)}
    {a_w_lowest : Addr} {oc_w_lowest kV_w_lowest dc_w_lowest pm_w_lowest cd_w_lowest ct_w_lowest : Value} {od_w_lowest an_w_lowest : Option Addr} {sl_w_lowest : Array (Option Value)}
    {a_w_digits : Addr} {oc_w_digits kV_w_digits dc_w_digits pm_w_digits cd_w_digits ct_w_digits : Value} {od_w_digits an_w_digits : Option Addr} {sl_w_digits : Array (Option Value)}
    {a_w_text : Addr} {oc_w_text kV_w_text dc_w_text pm_w_text cd_w_text ct_w_text : Value} {od_w_text an_w_text : Option Addr} {sl_w_text : Array (Option Value)}
    {a_w_spoilt : Addr} {oc_w_spoilt kV_w_spoilt dc_w_spoilt pm_w_spoilt cd_w_spoilt ct_w_spoilt : Value} {od_w_spoilt an_w_spoilt : Option Addr} {sl_w_spoilt : Array (Option Value)}
    {a_w_value : Addr} {oc_w_value kV_w_value dc_w_value pm_w_value cd_w_value ct_w_value : Value} {od_w_value an_w_value : Option Addr} {sl_w_value : Array (Option Value)}
    {a_w_due : Addr} {oc_w_due kV_w_due dc_w_due pm_w_due cd_w_due ct_w_due : Value} {od_w_due an_w_due : Option Addr} {sl_w_due : Array (Option Value)}
    {a_w_told : Addr} {oc_w_told kV_w_told dc_w_told pm_w_told cd_w_told ct_w_told : Value} {od_w_told an_w_told : Option Addr} {sl_w_told : Array (Option Value)}
    {a_law : Addr} {oc_law kV_law dc_law pm_law cd_law ct_law : Value} {od_law an_law : Option Addr} {sl_law : Array (Option Value)}
    {tk_DIGITS : Tok}
    {tk_MOST_DIGITS : Tok}
    (g_PoolError : PySem.W.nsIn K mainGlobals "PoolError" = some (some (.ref C_PoolError)))
    (x_PoolError : K.lookup C_PoolError = some (excClassObj nm_PoolError q_PoolError C_PoolError N_PoolError bs_PoolError [.type "ValueError", .type "Exception", .type "BaseException", .type "object"] true sn_PoolError sub_PoolError ab_PoolError col_PoolError dd_PoolError m0_PoolError m1_PoolError m2_PoolError m3_PoolError m5_PoolError "ValueError.__new__"))
    (sa_PoolError : PySem.W.findIn K (.ref C_PoolError) "__setattr__" = some (some (.builtin "object.__setattr__")))
    (ex_PoolError : PySem.W.subIn K (.ref C_PoolError) (.type "BaseException") = some true)
    (ty_PoolError : PySem.W.typeIn K (.ref C_PoolError) = some (.type "type"))
    (kp_PoolError : PySem.W.keepIn K (.ref C_PoolError) = true)
    (ur_PoolError : PySem.W.readsIn K C_PoolError (.type "type") = true)
    (ug_PoolError : PySem.W.specialIn K (.ref C_PoolError) "__getattribute__" = some (some (.builtin "type.__getattribute__")))
    (uf_PoolError : PySem.W.findCls K (.ref C_PoolError) (.type "type") "__init__" = some (.val (.builtin "ValueError.__init__")))
    (g_InvalidNumber : PySem.W.nsIn K mainGlobals "InvalidNumber" = some (some (.ref C_InvalidNumber)))
    (x_InvalidNumber : K.lookup C_InvalidNumber = some (excClassObj nm_InvalidNumber q_InvalidNumber C_InvalidNumber N_InvalidNumber bs_InvalidNumber [.ref C_PoolError, .type "ValueError", .type "Exception", .type "BaseException", .type "object"] true sn_InvalidNumber sub_InvalidNumber ab_InvalidNumber col_InvalidNumber dd_InvalidNumber m0_InvalidNumber m1_InvalidNumber m2_InvalidNumber m3_InvalidNumber m5_InvalidNumber "ValueError.__new__"))
    (sa_InvalidNumber : PySem.W.findIn K (.ref C_InvalidNumber) "__setattr__" = some (some (.builtin "object.__setattr__")))
    (ex_InvalidNumber : PySem.W.subIn K (.ref C_InvalidNumber) (.type "BaseException") = some true)
    (ty_InvalidNumber : PySem.W.typeIn K (.ref C_InvalidNumber) = some (.type "type"))
    (kp_InvalidNumber : PySem.W.keepIn K (.ref C_InvalidNumber) = true)
    (xg_InvalidNumber : PySem.W.findIn K (.ref C_InvalidNumber) "__getattribute__" = some (some (.builtin "BaseException.__getattribute__")))
    (xn_InvalidNumber : PySem.W.findIn K (.ref C_InvalidNumber) "__getattr__" = some none)
    (xh_InvalidNumber : PySem.W.hasDictIn K C_InvalidNumber = true)
    (xi_InvalidNumber : PySem.W.isClsIn K C_InvalidNumber = true)
    (xs_InvalidNumber : PySem.W.subIn K (.ref C_InvalidNumber) (.ref C_InvalidNumber) = some true)
    (na_InvalidNumber_value : PySem.W.findIn K (.ref C_InvalidNumber) "value" = some none)
    (g_Ratio : PySem.W.nsIn K mainGlobals "Ratio" = some (some (.ref C_Ratio)))
    (pg_Ratio : PySem.W.plainGet K C_Ratio Str.empty = true)
    (hd_Ratio : PySem.W.hasDictIn K C_Ratio = true)
    (po_Ratio : PySem.W.plainOver K C_Ratio = true)
    (sa_Ratio : PySem.W.findIn K (.ref C_Ratio) "__setattr__" = some (some (.builtin "object.__setattr__")))
    (ca_Ratio : PySem.W.findIn K (.ref C_Ratio) "__class__" = some (some (.builtin "object.__class__")))
    (cg_Ratio : PySem.W.specialIn K (.builtin "object.__class__") "__get__" = some (some (.builtin "getset_descriptor.__get__")))
    (ct_Ratio : PySem.W.takesIn K (.builtin "object.__class__") = some true)
    (lk_Ratio : K.lookup C_Ratio = some ⟨lo_Ratio, ld_Ratio, .cls lc_Ratio, ls_Ratio⟩)
    (mr_Ratio : lc_Ratio.mro = [.ref C_Ratio, .type "object"])
    (ty_Ratio : PySem.W.typeIn K (.ref C_Ratio) = some (.type "type"))
    (rd_Ratio : PySem.W.readsIn K C_Ratio (.type "type") = true)
    (gg_Ratio : PySem.W.specialIn K (.ref C_Ratio) "__getattribute__" = some (some (.builtin "type.__getattribute__")))
    (na_Ratio_top : PySem.W.findIn K (.ref C_Ratio) "top" = some none)
    (na_Ratio_bottom : PySem.W.findIn K (.ref C_Ratio) "bottom" = some none)
    (mi_Ratio : PySem.W.makesIn K C_Ratio = true)
    (kc_Ratio : PySem.W.keepIn K (.ref C_Ratio) = true)
    (i_InvalidNumber_init : PySem.W.findIn K (.ref C_InvalidNumber) "__init__" = some (some (.ref a_InvalidNumber_init)))
    (t_InvalidNumber_init : PySem.W.typeIn K (.ref a_InvalidNumber_init) = some (.type "function"))
    (l_InvalidNumber_init : K.lookup a_InvalidNumber_init = some ⟨oc_InvalidNumber_init, od_InvalidNumber_init, .func (PySem.W.fnOf "__init__" "InvalidNumber.__init__" (defArgs s_InvalidNumber_init) (defBody s_InvalidNumber_init) (defScope s_InvalidNumber_init) (.none) kV_InvalidNumber_init dc_InvalidNumber_init pm_InvalidNumber_init an_InvalidNumber_init cd_InvalidNumber_init ct_InvalidNumber_init), sl_InvalidNumber_init⟩)
    (c_InvalidNumber_init : PySem.W.codeIn K cd_InvalidNumber_init "InvalidNumber.__init__" = true)
    (k_InvalidNumber_init : PySem.W.keepIn K (.ref a_InvalidNumber_init) = true)
    (g_common_divisor : PySem.W.nsIn K mainGlobals "common_divisor" = some (some (.ref a_common_divisor)))
    (l_common_divisor : K.lookup a_common_divisor = some ⟨oc_common_divisor, od_common_divisor, .func (PySem.W.fnOf "common_divisor" "common_divisor" (defArgs s_common_divisor) (defBody s_common_divisor) (defScope s_common_divisor) (.none) kV_common_divisor dc_common_divisor pm_common_divisor an_common_divisor cd_common_divisor ct_common_divisor), sl_common_divisor⟩)
    (c_common_divisor : PySem.W.codeIn K cd_common_divisor "common_divisor" = true)
    (k_common_divisor : PySem.W.keepIn K (.ref a_common_divisor) = true)
    (g_digits_value : PySem.W.nsIn K mainGlobals "digits_value" = some (some (.ref a_digits_value)))
    (l_digits_value : K.lookup a_digits_value = some ⟨oc_digits_value, od_digits_value, .func (PySem.W.fnOf "digits_value" "digits_value" (defArgs s_digits_value) (defBody s_digits_value) (defScope s_digits_value) (.none) kV_digits_value dc_digits_value pm_digits_value an_digits_value cd_digits_value ct_digits_value), sl_digits_value⟩)
    (c_digits_value : PySem.W.codeIn K cd_digits_value "digits_value" = true)
    (k_digits_value : PySem.W.keepIn K (.ref a_digits_value) = true)
    (f_Ratio_init : PySem.W.findIn K (.ref C_Ratio) "__init__" = some (some (.ref a_Ratio_init)))
    (t_Ratio_init : PySem.W.isFn K (.ref a_Ratio_init) = true)
    (l_Ratio_init : K.lookup a_Ratio_init = some ⟨oc_Ratio_init, od_Ratio_init, .func (PySem.W.fnOf "__init__" "Ratio.__init__" (defArgs s_Ratio_init) (defBody s_Ratio_init) (defScope s_Ratio_init) (.ref T_Ratio_init) kV_Ratio_init dc_Ratio_init pm_Ratio_init an_Ratio_init cd_Ratio_init ct_Ratio_init), sl_Ratio_init⟩)
    (c_Ratio_init : PySem.W.codeIn K cd_Ratio_init "Ratio.__init__" = true)
    (k_Ratio_init : PySem.W.keepIn K (.ref a_Ratio_init) = true)
    (dt_Ratio_init : K.lookup T_Ratio_init = some ⟨cl_Ratio_init, sd_Ratio_init, .seq #[.int 1 dk_Ratio_init] nn_Ratio_init, ss_Ratio_init⟩)
    (f_Ratio_read : PySem.W.findCls K (.ref C_Ratio) (.type "type") "read" = some (.get (.builtin "classmethod.__get__") (.ref p_Ratio_read) .none (.ref C_Ratio)))
    (pr_Ratio_read : PySem.W.recIn K p_Ratio_read "classmethod" = some (.ref a_Ratio_read :: r_Ratio_read))
    (pf_Ratio_read : PySem.W.fnIn K a_Ratio_read = true)
    (l_Ratio_read : K.lookup a_Ratio_read = some ⟨oc_Ratio_read, od_Ratio_read, .func (PySem.W.fnOf "read" "Ratio.read" (defArgs s_Ratio_read) (defBody s_Ratio_read) (defScope s_Ratio_read) (.none) kV_Ratio_read dc_Ratio_read pm_Ratio_read an_Ratio_read cd_Ratio_read ct_Ratio_read), sl_Ratio_read⟩)
    (c_Ratio_read : PySem.W.codeIn K cd_Ratio_read "Ratio.read" = true)
    (k_Ratio_read : PySem.W.keepIn K (.ref a_Ratio_read) = true)
    (f_Ratio_str : PySem.W.findIn K (.ref C_Ratio) "__str__" = some (some (.ref a_Ratio_str)))
    (t_Ratio_str : PySem.W.isFn K (.ref a_Ratio_str) = true)
    (l_Ratio_str : K.lookup a_Ratio_str = some ⟨oc_Ratio_str, od_Ratio_str, .func (PySem.W.fnOf "__str__" "Ratio.__str__" (defArgs s_Ratio_str) (defBody s_Ratio_str) (defScope s_Ratio_str) (.none) kV_Ratio_str dc_Ratio_str pm_Ratio_str an_Ratio_str cd_Ratio_str ct_Ratio_str), sl_Ratio_str⟩)
    (c_Ratio_str : PySem.W.codeIn K cd_Ratio_str "Ratio.__str__" = true)
    (k_Ratio_str : PySem.W.keepIn K (.ref a_Ratio_str) = true)
    (g_w_box : PySem.W.nsIn K mainGlobals "_law_box" = some (some (.ref a_w_box)))
    (l_w_box : K.lookup a_w_box = some ⟨oc_w_box, od_w_box, .func (PySem.W.fnOf "_law_box" "_law_box" (defArgs s_w_box) (defBody s_w_box) (defScope s_w_box) (.none) kV_w_box dc_w_box pm_w_box an_w_box cd_w_box ct_w_box), sl_w_box⟩)
    (c_w_box : PySem.W.codeIn K cd_w_box "_law_box" = true)
    (k_w_box : PySem.W.keepIn K (.ref a_w_box) = true)
    (g_w_take : PySem.W.nsIn K mainGlobals "_law_take" = some (some (.ref a_w_take)))
    (l_w_take : K.lookup a_w_take = some ⟨oc_w_take, od_w_take, .func (PySem.W.fnOf "_law_take" "_law_take" (defArgs s_w_take) (defBody s_w_take) (defScope s_w_take) (.none) kV_w_take dc_w_take pm_w_take an_w_take cd_w_take ct_w_take), sl_w_take⟩)
    (c_w_take : PySem.W.codeIn K cd_w_take "_law_take" = true)
    (k_w_take : PySem.W.keepIn K (.ref a_w_take) = true)
    (g_w_lowest : PySem.W.nsIn K mainGlobals "_law_lowest" = some (some (.ref a_w_lowest)))
    (l_w_lowest : K.lookup a_w_lowest = some ⟨oc_w_lowest, od_w_lowest, .func (PySem.W.fnOf "_law_lowest" "_law_lowest" (defArgs s_w_lowest) (defBody s_w_lowest) (defScope s_w_lowest) (.none) kV_w_lowest dc_w_lowest pm_w_lowest an_w_lowest cd_w_lowest ct_w_lowest), sl_w_lowest⟩)
    (c_w_lowest : PySem.W.codeIn K cd_w_lowest "_law_lowest" = true)
    (k_w_lowest : PySem.W.keepIn K (.ref a_w_lowest) = true)
    (g_w_digits : PySem.W.nsIn K mainGlobals "_law_digits" = some (some (.ref a_w_digits)))
    (l_w_digits : K.lookup a_w_digits = some ⟨oc_w_digits, od_w_digits, .func (PySem.W.fnOf "_law_digits" "_law_digits" (defArgs s_w_digits) (defBody s_w_digits) (defScope s_w_digits) (.none) kV_w_digits dc_w_digits pm_w_digits an_w_digits cd_w_digits ct_w_digits), sl_w_digits⟩)
    (c_w_digits : PySem.W.codeIn K cd_w_digits "_law_digits" = true)
    (k_w_digits : PySem.W.keepIn K (.ref a_w_digits) = true)
    (g_w_text : PySem.W.nsIn K mainGlobals "_law_text" = some (some (.ref a_w_text)))
    (l_w_text : K.lookup a_w_text = some ⟨oc_w_text, od_w_text, .func (PySem.W.fnOf "_law_text" "_law_text" (defArgs s_w_text) (defBody s_w_text) (defScope s_w_text) (.none) kV_w_text dc_w_text pm_w_text an_w_text cd_w_text ct_w_text), sl_w_text⟩)
    (c_w_text : PySem.W.codeIn K cd_w_text "_law_text" = true)
    (k_w_text : PySem.W.keepIn K (.ref a_w_text) = true)
    (g_w_spoilt : PySem.W.nsIn K mainGlobals "_law_spoilt" = some (some (.ref a_w_spoilt)))
    (l_w_spoilt : K.lookup a_w_spoilt = some ⟨oc_w_spoilt, od_w_spoilt, .func (PySem.W.fnOf "_law_spoilt" "_law_spoilt" (defArgs s_w_spoilt) (defBody s_w_spoilt) (defScope s_w_spoilt) (.none) kV_w_spoilt dc_w_spoilt pm_w_spoilt an_w_spoilt cd_w_spoilt ct_w_spoilt), sl_w_spoilt⟩)
    (c_w_spoilt : PySem.W.codeIn K cd_w_spoilt "_law_spoilt" = true)
    (k_w_spoilt : PySem.W.keepIn K (.ref a_w_spoilt) = true)
    (g_w_value : PySem.W.nsIn K mainGlobals "_law_value" = some (some (.ref a_w_value)))
    (l_w_value : K.lookup a_w_value = some ⟨oc_w_value, od_w_value, .func (PySem.W.fnOf "_law_value" "_law_value" (defArgs s_w_value) (defBody s_w_value) (defScope s_w_value) (.none) kV_w_value dc_w_value pm_w_value an_w_value cd_w_value ct_w_value), sl_w_value⟩)
    (c_w_value : PySem.W.codeIn K cd_w_value "_law_value" = true)
    (k_w_value : PySem.W.keepIn K (.ref a_w_value) = true)
    (g_w_due : PySem.W.nsIn K mainGlobals "_law_due" = some (some (.ref a_w_due)))
    (l_w_due : K.lookup a_w_due = some ⟨oc_w_due, od_w_due, .func (PySem.W.fnOf "_law_due" "_law_due" (defArgs s_w_due) (defBody s_w_due) (defScope s_w_due) (.none) kV_w_due dc_w_due pm_w_due an_w_due cd_w_due ct_w_due), sl_w_due⟩)
    (c_w_due : PySem.W.codeIn K cd_w_due "_law_due" = true)
    (k_w_due : PySem.W.keepIn K (.ref a_w_due) = true)
    (g_w_told : PySem.W.nsIn K mainGlobals "_law_told" = some (some (.ref a_w_told)))
    (l_w_told : K.lookup a_w_told = some ⟨oc_w_told, od_w_told, .func (PySem.W.fnOf "_law_told" "_law_told" (defArgs s_w_told) (defBody s_w_told) (defScope s_w_told) (.none) kV_w_told dc_w_told pm_w_told an_w_told cd_w_told ct_w_told), sl_w_told⟩)
    (c_w_told : PySem.W.codeIn K cd_w_told "_law_told" = true)
    (k_w_told : PySem.W.keepIn K (.ref a_w_told) = true)
    (g_law : PySem.W.nsIn K mainGlobals "law" = some (some (.ref a_law)))
    (l_law : K.lookup a_law = some ⟨oc_law, od_law, .func (PySem.W.fnOf "law" "law" (defArgs s_law) (defBody s_law) (defScope s_law) (.none) kV_law dc_law pm_law an_law cd_law ct_law), sl_law⟩)
    (c_law : PySem.W.codeIn K cd_law "law" = true)
    (k_law : PySem.W.keepIn K (.ref a_law) = true)
    (n_NotImplemented : PySem.W.nsIn K mainGlobals "NotImplemented" = some none)
    (n_abs : PySem.W.nsIn K mainGlobals "abs" = some none)
    (n_all : PySem.W.nsIn K mainGlobals "all" = some none)
    (n_bool : PySem.W.nsIn K mainGlobals "bool" = some none)
    (n_classmethod : PySem.W.nsIn K mainGlobals "classmethod" = some none)
    (n_int : PySem.W.nsIn K mainGlobals "int" = some none)
    (n_isinstance : PySem.W.nsIn K mainGlobals "isinstance" = some none)
    (n_len : PySem.W.nsIn K mainGlobals "len" = some none)
    (n_max : PySem.W.nsIn K mainGlobals "max" = some none)
    (n_min : PySem.W.nsIn K mainGlobals "min" = some none)
    (n_property : PySem.W.nsIn K mainGlobals "property" = some none)
    (n_range : PySem.W.nsIn K mainGlobals "range" = some none)
    (n_repr : PySem.W.nsIn K mainGlobals "repr" = some none)
    (n_str : PySem.W.nsIn K mainGlobals "str" = some none)
    (c_DIGITS : PySem.W.nsIn K mainGlobals "DIGITS" = some (some (.str "0123456789" tk_DIGITS)))
    (c_MOST_DIGITS : PySem.W.nsIn K mainGlobals "MOST_DIGITS" = some (some (.int 1000 tk_MOST_DIGITS))) : ∃ T : Tx K mg, T.a_law = fa := by
  have e : Value.ref fa = Value.ref a_law := Option.some.inj (hfa.symm.trans (PySem.W.mg_of X G g_law))
  exact ⟨{
    C_PoolError := C_PoolError,
    g_PoolError := PySem.W.mg_of X G g_PoolError,
    oex_PoolError := ⟨⟨_, _, _, _, _, _, _, _, _, _, _, _, _, _, _, x_PoolError, rfl⟩, sa_PoolError, ex_PoolError, ty_PoolError, kp_PoolError⟩,
    up_PoolError := ⟨ur_PoolError, ug_PoolError, uf_PoolError⟩,
    C_InvalidNumber := C_InvalidNumber,
    g_InvalidNumber := PySem.W.mg_of X G g_InvalidNumber,
    oex_InvalidNumber := ⟨⟨_, _, _, _, _, _, _, _, _, _, _, _, _, _, _, x_InvalidNumber, rfl⟩, sa_InvalidNumber, ex_InvalidNumber, ty_InvalidNumber, kp_InvalidNumber⟩,
    xf_InvalidNumber := ⟨xg_InvalidNumber, xn_InvalidNumber, ex_InvalidNumber, xh_InvalidNumber⟩,
    xm_InvalidNumber := exm_of ex_InvalidNumber xi_InvalidNumber ty_InvalidNumber xs_InvalidNumber,
    na_InvalidNumber_value := na_InvalidNumber_value,
    C_Ratio := C_Ratio,
    g_Ratio := PySem.W.mg_of X G g_Ratio,
    own_Ratio := ⟨⟨pg_Ratio, hd_Ratio, po_Ratio, sa_Ratio⟩, ca_Ratio, cg_Ratio, ct_Ratio, mro_of lk_Ratio mr_Ratio, ty_Ratio⟩,
    cr_Ratio := ⟨rd_Ratio, gg_Ratio⟩,
    na_Ratio_top := na_Ratio_top,
    na_Ratio_bottom := na_Ratio_bottom,
    i_InvalidNumber := i_InvalidNumber_init,
    t_InvalidNumber := t_InvalidNumber_init,
    a_InvalidNumber_init := a_InvalidNumber_init,
    fd_InvalidNumber_init := _,
    F_InvalidNumber_init := funS_mk l_InvalidNumber_init c_InvalidNumber_init k_InvalidNumber_init,
    g_common_divisor := PySem.W.mg_of X G g_common_divisor,
    a_common_divisor := a_common_divisor,
    fd_common_divisor := _,
    F_common_divisor := funS_mk l_common_divisor c_common_divisor k_common_divisor,
    g_digits_value := PySem.W.mg_of X G g_digits_value,
    a_digits_value := a_digits_value,
    fd_digits_value := _,
    F_digits_value := funS_mk l_digits_value c_digits_value k_digits_value,
    m_Ratio_init := ⟨f_Ratio_init, t_Ratio_init, k_Ratio_init⟩,
    mk_Ratio := ⟨mi_Ratio, f_Ratio_init, t_Ratio_init, kc_Ratio⟩,
    a_Ratio_init := a_Ratio_init,
    fd_Ratio_init := _,
    F_Ratio_init := ⟨⟨_, _, _, _, _, _, _, _, _, _, rfl, l_Ratio_init, c_Ratio_init, .inr ⟨(by intro z; cases z), _, _, [.int 1 dk_Ratio_init], _, rfl, dt_Ratio_init, rfl, .cons ⟨_, rfl⟩ (.nil)⟩, .inl rfl⟩, k_Ratio_init⟩,
    p_Ratio_read := p_Ratio_read,
    cm_Ratio_read := ⟨f_Ratio_read, ⟨_, pr_Ratio_read⟩, pf_Ratio_read⟩,
    a_Ratio_read := a_Ratio_read,
    fd_Ratio_read := _,
    F_Ratio_read := funS_mk l_Ratio_read c_Ratio_read k_Ratio_read,
    m_Ratio_str := ⟨f_Ratio_str, t_Ratio_str, k_Ratio_str⟩,
    a_Ratio_str := a_Ratio_str,
    fd_Ratio_str := _,
    F_Ratio_str := funS_mk l_Ratio_str c_Ratio_str k_Ratio_str,
    g_w_box := PySem.W.mg_of X G g_w_box,
    a_w_box := a_w_box,
    fd_w_box := _,
    F_w_box := funS_mk l_w_box c_w_box k_w_box,
    g_w_take := PySem.W.mg_of X G g_w_take,
    a_w_take := a_w_take,
    fd_w_take := _,
    F_w_take := funS_mk l_w_take c_w_take k_w_take,
    g_w_lowest := PySem.W.mg_of X G g_w_lowest,
    a_w_lowest := a_w_lowest,
    fd_w_lowest := _,
    F_w_lowest := funS_mk l_w_lowest c_w_lowest k_w_lowest,
    g_w_digits := PySem.W.mg_of X G g_w_digits,
    a_w_digits := a_w_digits,
    fd_w_digits := _,
    F_w_digits := funS_mk l_w_digits c_w_digits k_w_digits,
    g_w_text := PySem.W.mg_of X G g_w_text,
    a_w_text := a_w_text,
    fd_w_text := _,
    F_w_text := funS_mk l_w_text c_w_text k_w_text,
    g_w_spoilt := PySem.W.mg_of X G g_w_spoilt,
    a_w_spoilt := a_w_spoilt,
    fd_w_spoilt := _,
    F_w_spoilt := funS_mk l_w_spoilt c_w_spoilt k_w_spoilt,
    g_w_value := PySem.W.mg_of X G g_w_value,
    a_w_value := a_w_value,
    fd_w_value := _,
    F_w_value := funS_mk l_w_value c_w_value k_w_value,
    g_w_due := PySem.W.mg_of X G g_w_due,
    a_w_due := a_w_due,
    fd_w_due := _,
    F_w_due := funS_mk l_w_due c_w_due k_w_due,
    g_w_told := PySem.W.mg_of X G g_w_told,
    a_w_told := a_w_told,
    fd_w_told := _,
    F_w_told := funS_mk l_w_told c_w_told k_w_told,
    g_law := PySem.W.mg_of X G g_law,
    a_law := a_law,
    fd_law := _,
    F_law := funS_mk l_law c_law k_law,
    n_NotImplemented := PySem.W.mg_none_of X G n_NotImplemented,
    n_abs := PySem.W.mg_none_of X G n_abs,
    n_all := PySem.W.mg_none_of X G n_all,
    n_bool := PySem.W.mg_none_of X G n_bool,
    n_classmethod := PySem.W.mg_none_of X G n_classmethod,
    n_int := PySem.W.mg_none_of X G n_int,
    n_isinstance := PySem.W.mg_none_of X G n_isinstance,
    n_len := PySem.W.mg_none_of X G n_len,
    n_max := PySem.W.mg_none_of X G n_max,
    n_min := PySem.W.mg_none_of X G n_min,
    n_property := PySem.W.mg_none_of X G n_property,
    n_range := PySem.W.mg_none_of X G n_range,
    n_repr := PySem.W.mg_none_of X G n_repr,
    n_str := PySem.W.mg_none_of X G n_str,
    c_DIGITS := ⟨_, PySem.W.mg_of X G c_DIGITS⟩,
    c_MOST_DIGITS := ⟨_, PySem.W.mg_of X G c_MOST_DIGITS⟩ }, (Value.ref.inj e).symm⟩
theorem fin_law {P : Program} {w : World} {K : PySem.W.Frag} {mg : Str → Option Value} {fa : Addr} (t : ∃ T : Tx K mg, T.a_law = fa) : ∃ fd : FuncData, (∀ (s : Shared) (u : Value), BindsTo s fd ⟨[u], []⟩ [("_law_script", u)]) ∧ ∀ base : Heap, K.In base → base.Ns mainGlobals mg → base.NoDigits → FnG P w K mg base lvl_law fa fd ["_law_script"] (spR K (RLaw Scr)) := by
  obtain ⟨T, rfl⟩ := t
  exact ⟨T.fd_law, binds_law T, fun base _ _ hD => ok_law T hD⟩
end PM
open PySem PySem.W PyProof.Rows
set_option maxRecDepth 100000 in
set_option maxHeartbeats 0 in
theorem PySem.Challenge.cw_poolsmeet_k05_texts_of_ratios_holds : PySem.Challenge.rw_poolsmeet_k05_texts_of_ratios.Holds := by
  refine topk ?_
  k_fill
  refine PM.walkN (l := PySem.Challenge.rw_poolsmeet_k05_texts_of_ratios) (k := PM.lvl_law) (x := "_law_script") rfl rfl ⟨rfl, by decide, by decide⟩ (fun w h Y => PySem.W.kIn_of Y) ?F
  case F =>
    intro w mg fa h KX G hmg
    refine' PM.fin_law (PM.tx_mk KX G hmg ?g_PoolError ?x_PoolError ?sa_PoolError ?ex_PoolError ?ty_PoolError ?kp_PoolError ?ur_PoolError ?ug_PoolError ?uf_PoolError ?g_InvalidNumber ?x_InvalidNumber ?sa_InvalidNumber ?ex_InvalidNumber ?ty_InvalidNumber ?kp_InvalidNumber ?xg_InvalidNumber ?xn_InvalidNumber ?xh_InvalidNumber ?xi_InvalidNumber ?xs_InvalidNumber ?na_InvalidNumber_value ?g_Ratio ?pg_Ratio ?hd_Ratio ?po_Ratio ?sa_Ratio ?ca_Ratio ?cg_Ratio ?ct_Ratio ?lk_Ratio ?mr_Ratio ?ty_Ratio ?rd_Ratio ?gg_Ratio ?na_Ratio_top ?na_Ratio_bottom ?mi_Ratio ?kc_Ratio ?i_InvalidNumber_init ?t_InvalidNumber_init ?l_InvalidNumber_init ?c_InvalidNumber_init ?k_InvalidNumber_init ?g_common_divisor ?l_common_divisor ?c_common_divisor ?k_common_divisor ?g_digits_value ?l_digits_value ?c_digits_value ?k_digits_value ?f_Ratio_init ?t_Ratio_init ?l_Ratio_init ?c_Ratio_init ?k_Ratio_init ?dt_Ratio_init ?f_Ratio_read ?pr_Ratio_read ?pf_Ratio_read ?l_Ratio_read ?c_Ratio_read ?k_Ratio_read ?f_Ratio_str ?t_Ratio_str ?l_Ratio_str ?c_Ratio_str ?k_Ratio_str ?g_w_box ?l_w_box ?c_w_box ?k_w_box ?g_w_take ?l_w_take ?c_w_take ?k_w_take ?g_w_lowest ?l_w_lowest ?c_w_lowest ?k_w_lowest ?g_w_digits ?l_w_digits ?c_w_digits ?k_w_digits ?g_w_text ?l_w_text ?c_w_text ?k_w_text ?g_w_spoilt ?l_w_spoilt ?c_w_spoilt ?k_w_spoilt ?g_w_value ?l_w_value ?c_w_value ?k_w_value ?g_w_due ?l_w_due ?c_w_due ?k_w_due ?g_w_told ?l_w_told ?c_w_told ?k_w_told ?g_law ?l_law ?c_law ?k_law ?n_NotImplemented ?n_abs ?n_all ?n_bool ?n_classmethod ?n_int ?n_isinstance ?n_len ?n_max ?n_min ?n_property ?n_range ?n_repr ?n_str ?c_DIGITS ?c_MOST_DIGITS)
    (case g_PoolError => first | k_is | (show some _ = some _; k_is))
    (case x_PoolError => first | k_is | (show some _ = some _; k_is))
    (case sa_PoolError => first | k_is | (show some _ = some _; k_is))
    (case ex_PoolError => first | k_is | (show some _ = some _; k_is))
    (case ty_PoolError => first | k_is | (show some _ = some _; k_is))
    (case kp_PoolError => first | k_is | (show some _ = some _; k_is))
    (case ur_PoolError => first | k_is | (show some _ = some _; k_is))
    (case ug_PoolError => first | k_is | (show some _ = some _; k_is))
    (case uf_PoolError => first | k_is | (show some _ = some _; k_is))
    (case g_InvalidNumber => first | k_is | (show some _ = some _; k_is))
    (case x_InvalidNumber => first | k_is | (show some _ = some _; k_is))
    (case sa_InvalidNumber => first | k_is | (show some _ = some _; k_is))
    (case ex_InvalidNumber => first | k_is | (show some _ = some _; k_is))
    (case ty_InvalidNumber => first | k_is | (show some _ = some _; k_is))
    (case kp_InvalidNumber => first | k_is | (show some _ = some _; k_is))
    (case xg_InvalidNumber => first | k_is | (show some _ = some _; k_is))
    (case xn_InvalidNumber => first | k_is | (show some _ = some _; k_is))
    (case xh_InvalidNumber => first | k_is | (show some _ = some _; k_is))
    (case xi_InvalidNumber => first | k_is | (show some _ = some _; k_is))
    (case xs_InvalidNumber => first | k_is | (show some _ = some _; k_is))
    (case na_InvalidNumber_value => first | k_is | (show some _ = some _; k_is))
    (case g_Ratio => first | k_is | (show some _ = some _; k_is))
    (case pg_Ratio => first | k_is | (show some _ = some _; k_is))
    (case hd_Ratio => first | k_is | (show some _ = some _; k_is))
    (case po_Ratio => first | k_is | (show some _ = some _; k_is))
    (case sa_Ratio => first | k_is | (show some _ = some _; k_is))
    (case ca_Ratio => first | k_is | (show some _ = some _; k_is))
    (case cg_Ratio => first | k_is | (show some _ = some _; k_is))
    (case ct_Ratio => first | k_is | (show some _ = some _; k_is))
    (case lk_Ratio => first | k_is | (show some _ = some _; k_is))
    (case mr_Ratio => rfl)
    (case ty_Ratio => first | k_is | (show some _ = some _; k_is))
    (case rd_Ratio => first | k_is | (show some _ = some _; k_is))
    (case gg_Ratio => first | k_is | (show some _ = some _; k_is))
    (case na_Ratio_top => first | k_is | (show some _ = some _; k_is))
    (case na_Ratio_bottom => first | k_is | (show some _ = some _; k_is))
    (case mi_Ratio => first | k_is | (show some _ = some _; k_is))
    (case kc_Ratio => first | k_is | (show some _ = some _; k_is))
    (case i_InvalidNumber_init => first | k_is | (show some _ = some _; k_is))
    (case t_InvalidNumber_init => first | k_is | (show some _ = some _; k_is))
    (case l_InvalidNumber_init => first | k_is | (show some _ = some _; k_is))
    (case c_InvalidNumber_init => first | k_is | (show some _ = some _; k_is))
    (case k_InvalidNumber_init => first | k_is | (show some _ = some _; k_is))
    (case g_common_divisor => first | k_is | (show some _ = some _; k_is))
    (case l_common_divisor => first | k_is | (show some _ = some _; k_is))
    (case c_common_divisor => first | k_is | (show some _ = some _; k_is))
    (case k_common_divisor => first | k_is | (show some _ = some _; k_is))
    (case g_digits_value => first | k_is | (show some _ = some _; k_is))
    (case l_digits_value => first | k_is | (show some _ = some _; k_is))
    (case c_digits_value => first | k_is | (show some _ = some _; k_is))
    (case k_digits_value => first | k_is | (show some _ = some _; k_is))
    (case f_Ratio_init => first | k_is | (show some _ = some _; k_is))
    (case t_Ratio_init => first | k_is | (show some _ = some _; k_is))
    (case l_Ratio_init => first | k_is | (show some _ = some _; k_is))
    (case c_Ratio_init => first | k_is | (show some _ = some _; k_is))
    (case k_Ratio_init => first | k_is | (show some _ = some _; k_is))
    (case dt_Ratio_init => first | k_is | (show some _ = some _; k_is))
    (case f_Ratio_read => first | k_is | (show some _ = some _; k_is))
    (case pr_Ratio_read => first | k_is | (show some _ = some _; k_is))
    (case pf_Ratio_read => first | k_is | (show some _ = some _; k_is))
    (case l_Ratio_read => first | k_is | (show some _ = some _; k_is))
    (case c_Ratio_read => first | k_is | (show some _ = some _; k_is))
    (case k_Ratio_read => first | k_is | (show some _ = some _; k_is))
    (case f_Ratio_str => first | k_is | (show some _ = some _; k_is))
    (case t_Ratio_str => first | k_is | (show some _ = some _; k_is))
    (case l_Ratio_str => first | k_is | (show some _ = some _; k_is))
    (case c_Ratio_str => first | k_is | (show some _ = some _; k_is))
    (case k_Ratio_str => first | k_is | (show some _ = some _; k_is))
    (case g_w_box => first | k_is | (show some _ = some _; k_is))
    (case l_w_box => first | k_is | (show some _ = some _; k_is))
    (case c_w_box => first | k_is | (show some _ = some _; k_is))
    (case k_w_box => first | k_is | (show some _ = some _; k_is))
    (case g_w_take => first | k_is | (show some _ = some _; k_is))
    (case l_w_take => first | k_is | (show some _ = some _; k_is))
    (case c_w_take => first | k_is | (show some _ = some _; k_is))
    (case k_w_take => first | k_is | (show some _ = some _; k_is))
    (case g_w_lowest => first | k_is | (show some _ = some _; k_is))
    (case l_w_lowest => first | k_is | (show some _ = some _; k_is))
    (case c_w_lowest => first | k_is | (show some _ = some _; k_is))
    (case k_w_lowest => first | k_is | (show some _ = some _; k_is))
    (case g_w_digits => first | k_is | (show some _ = some _; k_is))
    (case l_w_digits => first | k_is | (show some _ = some _; k_is))
    (case c_w_digits => first | k_is | (show some _ = some _; k_is))
    (case k_w_digits => first | k_is | (show some _ = some _; k_is))
    (case g_w_text => first | k_is | (show some _ = some _; k_is))
    (case l_w_text => first | k_is | (show some _ = some _; k_is))
    (case c_w_text => first | k_is | (show some _ = some _; k_is))
    (case k_w_text => first | k_is | (show some _ = some _; k_is))
    (case g_w_spoilt => first | k_is | (show some _ = some _; k_is))
    (case l_w_spoilt => first | k_is | (show some _ = some _; k_is))
    (case c_w_spoilt => first | k_is | (show some _ = some _; k_is))
    (case k_w_spoilt => first | k_is | (show some _ = some _; k_is))
    (case g_w_value => first | k_is | (show some _ = some _; k_is))
    (case l_w_value => first | k_is | (show some _ = some _; k_is))
    (case c_w_value => first | k_is | (show some _ = some _; k_is))
    (case k_w_value => first | k_is | (show some _ = some _; k_is))
    (case g_w_due => first | k_is | (show some _ = some _; k_is))
    (case l_w_due => first | k_is | (show some _ = some _; k_is))
    (case c_w_due => first | k_is | (show some _ = some _; k_is))
    (case k_w_due => first | k_is | (show some _ = some _; k_is))
    (case g_w_told => first | k_is | (show some _ = some _; k_is))
    (case l_w_told => first | k_is | (show some _ = some _; k_is))
    (case c_w_told => first | k_is | (show some _ = some _; k_is))
    (case k_w_told => first | k_is | (show some _ = some _; k_is))
    (case g_law => first | k_is | (show some _ = some _; k_is))
    (case l_law => first | k_is | (show some _ = some _; k_is))
    (case c_law => first | k_is | (show some _ = some _; k_is))
    (case k_law => first | k_is | (show some _ = some _; k_is))
    (case n_NotImplemented => first | k_is | (show some _ = some _; k_is))
    (case n_abs => first | k_is | (show some _ = some _; k_is))
    (case n_all => first | k_is | (show some _ = some _; k_is))
    (case n_bool => first | k_is | (show some _ = some _; k_is))
    (case n_classmethod => first | k_is | (show some _ = some _; k_is))
    (case n_int => first | k_is | (show some _ = some _; k_is))
    (case n_isinstance => first | k_is | (show some _ = some _; k_is))
    (case n_len => first | k_is | (show some _ = some _; k_is))
    (case n_max => first | k_is | (show some _ = some _; k_is))
    (case n_min => first | k_is | (show some _ = some _; k_is))
    (case n_property => first | k_is | (show some _ = some _; k_is))
    (case n_range => first | k_is | (show some _ = some _; k_is))
    (case n_repr => first | k_is | (show some _ = some _; k_is))
    (case n_str => first | k_is | (show some _ = some _; k_is))
    (case c_DIGITS => first | k_is | (show some _ = some _; k_is))
    (case c_MOST_DIGITS => first | k_is | (show some _ = some _; k_is))
#print axioms PySem.Challenge.cw_poolsmeet_k05_texts_of_ratios_holds
