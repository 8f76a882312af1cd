import PyProof.Rows.All
import Wide.All
import OpenK.AllK
import Wide.FinOn
import PyProof.EqAt
import PyProof.EqKinds
import PyProof.TupleCall
import HandS.ForMost
import HandS.ForExc
import HandS.ExcInit
import HandS.Wide
import HandS.Flow
import HandS.EndBits
import HandS.ClsMeth
import HandS.Property
import HandS.Defaults
import HandS.IsInst
import HandS.Zip
import HandS.More
import HandS.ExcField
import HandS.SlotsOwn
import KE.KOpsOwn
import HandS.FStr
import HandS.Style
import KE.KCallOwn
import KE.KFmtOwn
import PyProof.StrBlock2
import PyProof.InstNe
import PyProof.StrHeap
import HandS.ExcIs
import KE.GoesMore
import KE.GoesEnum
import KE.GoesZip
import HandS.HotCalls
import HandS.TupAny
import HandS.OwnEq
import PyProof.NeKinds
import HandS.GenList
import HandS.GenYield
import HandS.Deep
import KE.OsRunLaw
import PySem.Challenge.RW_poolsmeet_k14_whole_any_order_of_running
set_option Elab.async false
set_option linter.all false
set_option maxRecDepth 100000
set_option maxHeartbeats 4000000
local macro_rules | `(tactic| k_head) => `(tactic| k_headL)
open PySem.W in
open_top topk for PySem.Challenge.rw_poolsmeet_k14_whole_any_order_of_running
set_option Elab.async false
set_option linter.all false
set_option maxRecDepth 100000
/-! An abstract machine over the layer: data as trees, a store of things that change. -/
namespace PM
open PySem L2

/-- a datum: an immutable tree; loc n: the n-th thing of the store -/
inductive D where
  | non | bl (b : Bool) | int (i : Int) | str (x : Str) | ref (a : Addr) | ty (n : String) | loc (n : Nat)
  | tup (ds : List D) | lst (ds : List D) | scr (ds : List D) | exn (a dd : Addr) (ns : List Str) (ds : List D) | obj (C : Addr) (ns : List Str) (ds : List D)
/-- a thing of the store -/
inductive M where
  | lst (ds : List D) | ins (C : Addr) (ns : List Str) (ds : List D) | gone | box

section
variable (K : PySem.W.Frag) (L : List Addr) (G : Hp)
mutual
def Rep : D → V → Prop
  | .non, v => v = .non
  | .bl b, v => v = .bl b
  | .int i, v => v = .int i
  | .str x, v => v = .str x
  | .ref a, v => v = .ref a
  | .ty n, v => v = .ty n
  | .loc n, v => ∃ a, L[n]? = some a ∧ v = .ref a
  | .tup ds, v => ∃ a vs, v = .ref a ∧ SqT K G a vs ∧ Reps ds vs
  | .lst ds, v => ∃ a vs, v = .ref a ∧ G a = some (.lst vs) ∧ Reps ds vs
  | .scr ds, v => ∃ a vs, v = .ref a ∧ SqL K G a vs ∧ Reps ds vs
  | .exn a dd ns ds, v => ∃ vs, v = .ref a ∧ G dd = some (.xd (ns.zip vs)) ∧ ns.length = ds.length ∧ Reps ds vs
  | .obj C ns ds, v => ∃ a dx vs, v = .ref a ∧ G a = some (.ins C dx (ns.zip vs)) ∧ ns.length = ds.length ∧ Reps ds vs
def Reps : List D → List V → Prop
  | [], vs => vs = []
  | d :: ds, vs => ∃ v r, vs = v :: r ∧ Rep d v ∧ Reps ds r
end
end

theorem Same.rd {H H' : Hp} {a : Addr} {u : HO} (e : Same H H') (h : Rd H a u) : Rd H' a u := by
  rcases h with h | ⟨o, h⟩
  · exact .inl (e _ _ h)
  · exact .inr ⟨o, e _ _ h⟩
theorem Same.sqT {K : PySem.W.Frag} {H H' : Hp} {a : Addr} {xs : List V} (e : Same H H') (h : SqT K H a xs) : SqT K H' a xs := by
  rcases h with h | h
  · exact .inl (Same.rd e h)
  · exact .inr h
theorem Same.sqL {K : PySem.W.Frag} {H H' : Hp} {a : Addr} {xs : List V} (e : Same H H') (h : SqL K H a xs) : SqL K H' a xs := by
  rcases h with h | h
  · exact .inl (Same.rd e h)
  · exact .inr h
/-- the places of the store stay -/
def Pre (L L' : List Addr) : Prop := ∀ (n : Nat) a, L[n]? = some a → L'[n]? = some a
theorem Pre.refl (L : List Addr) : Pre L L := fun _ _ h => h
theorem Pre.trans {L L1 L2 : List Addr} (a : Pre L L1) (b : Pre L1 L2) : Pre L L2 := fun n x h => b n x (a n x h)
theorem Pre.app {L r : List Addr} : Pre L (L ++ r) := fun n a h => by
  rw [List.getElem?_append_left (List.getElem?_eq_some_iff.mp h).1]
  exact h

section
variable {K : PySem.W.Frag} {L L' : List Addr} {G G' : Hp}
mutual
theorem Rep.mono (hl : Pre L L') (hg : Same G G') : ∀ {d : D} {v : V}, Rep K L G d v → Rep K L' G' d v
  | .non, _, h => by simp only [Rep] at h ⊢; exact h
  | .bl _, _, h => by simp only [Rep] at h ⊢; exact h
  | .int _, _, h => by simp only [Rep] at h ⊢; exact h
  | .str _, _, h => by simp only [Rep] at h ⊢; exact h
  | .ref _, _, h => by simp only [Rep] at h ⊢; exact h
  | .ty _, _, h => by simp only [Rep] at h ⊢; exact h
  | .loc n, _, h => by
    simp only [Rep] at h ⊢
    obtain ⟨a, e, r⟩ := h
    exact ⟨a, hl n a e, r⟩
  | .tup ds, _, h => by
    simp only [Rep] at h ⊢
    obtain ⟨a, vs, e, q, r⟩ := h
    exact ⟨a, vs, e, Same.sqT hg q, Reps.mono hl hg r⟩
  | .lst ds, _, h => by
    simp only [Rep] at h ⊢
    obtain ⟨a, vs, e, q, r⟩ := h
    exact ⟨a, vs, e, hg _ _ q, Reps.mono hl hg r⟩
  | .scr ds, _, h => by
    simp only [Rep] at h ⊢
    obtain ⟨a, vs, e, q, r⟩ := h
    exact ⟨a, vs, e, Same.sqL hg q, Reps.mono hl hg r⟩
  | .exn a dd ns ds, _, h => by
    simp only [Rep] at h ⊢
    obtain ⟨vs, e, q, z, r⟩ := h
    exact ⟨vs, e, hg _ _ q, z, Reps.mono hl hg r⟩
  | .obj C ns ds, _, h => by
    simp only [Rep] at h ⊢
    obtain ⟨a, dx, vs, e, q, z, r⟩ := h
    exact ⟨a, dx, vs, e, hg _ _ q, z, Reps.mono hl hg r⟩
theorem Reps.mono (hl : Pre L L') (hg : Same G G') : ∀ {ds : List D} {vs : List V}, Reps K L G ds vs → Reps K L' G' ds vs
  | [], _, h => by simp only [Reps] at h ⊢; exact h
  | d :: ds, _, h => by
    simp only [Reps] at h ⊢
    obtain ⟨v, r, e, h1, h2⟩ := h
    exact ⟨v, r, e, Rep.mono hl hg h1, Reps.mono hl hg h2⟩
end
theorem Reps.length : ∀ {ds : List D} {vs : List V}, Reps K L G ds vs → vs.length = ds.length
  | [], _, h => by simp only [Reps] at h; subst h; rfl
  | d :: ds, _, h => by
    simp only [Reps] at h
    obtain ⟨v, r, e, _, h2⟩ := h
    subst e
    simp [Reps.length h2]
theorem Reps.get : ∀ {ds : List D} {vs : List V} {i : Nat} {d : D}, Reps K L G ds vs → ds[i]? = some d → ∃ v, vs[i]? = some v ∧ Rep K L G d v
  | [], _, i, d, _, e => by simp at e
  | x :: ds, _, 0, d, h, e => by
    simp only [Reps] at h
    obtain ⟨v, r, rfl, h1, _⟩ := h
    simp only [List.getElem?_cons_zero, Option.some.injEq] at e
    subst e
    exact ⟨v, rfl, h1⟩
  | x :: ds, _, i + 1, d, h, e => by
    simp only [Reps] at h
    obtain ⟨v, r, rfl, _, h2⟩ := h
    simp only [List.getElem?_cons_succ] at e ⊢
    exact Reps.get h2 e
theorem Reps.nil : Reps K L G [] [] := by simp only [Reps]
theorem Reps.cons {d : D} {ds : List D} {v : V} {vs : List V} (h : Rep K L G d v) (r : Reps K L G ds vs) : Reps K L G (d :: ds) (v :: vs) := by
  simp only [Reps]
  exact ⟨v, vs, rfl, h, r⟩
theorem Reps.append : ∀ {ds es : List D} {vs us : List V}, Reps K L G ds vs → Reps K L G es us → Reps K L G (ds ++ es) (vs ++ us)
  | [], _, _, _, h, r => by simp only [Reps] at h; subst h; exact r
  | d :: ds, _, _, _, h, r => by
    simp only [Reps] at h
    obtain ⟨v, q, rfl, h1, h2⟩ := h
    exact Reps.cons h1 (Reps.append h2 r)
theorem Reps.inv_nil {vs : List V} (h : Reps K L G [] vs) : vs = [] := by simp only [Reps] at h; exact h
theorem Reps.inv_cons {d : D} {ds : List D} {vs : List V} (h : Reps K L G (d :: ds) vs) : ∃ v r, vs = v :: r ∧ Rep K L G d v ∧ Reps K L G ds r := by simp only [Reps] at h; exact h
theorem Reps.set {d : D} {v : V} (r : Rep K L G d v) : ∀ {ds : List D} {vs : List V} (i : Nat), Reps K L G ds vs → Reps K L G (ds.set i d) (vs.set i v)
  | [], _, _, h => by simp only [Reps] at h; subst h; simp [Reps.nil]
  | x :: ds, _, 0, h => by
    obtain ⟨u, q, rfl, h1, h2⟩ := h.inv_cons
    exact Reps.cons r h2
  | x :: ds, _, i + 1, h => by
    obtain ⟨u, q, rfl, h1, h2⟩ := h.inv_cons
    exact Reps.cons h1 (Reps.set r i h2)
end
theorem rep_non {K L G v} : Rep K L G .non v ↔ v = .non := by simp only [Rep]
theorem rep_bl {K L G b v} : Rep K L G (.bl b) v ↔ v = .bl b := by simp only [Rep]
theorem rep_int {K L G i v} : Rep K L G (.int i) v ↔ v = .int i := by simp only [Rep]
theorem rep_str {K L G i v} : Rep K L G (.str i) v ↔ v = .str i := by simp only [Rep]
theorem rep_ref {K L G i v} : Rep K L G (.ref i) v ↔ v = .ref i := by simp only [Rep]
theorem rep_ty {K L G i v} : Rep K L G (.ty i) v ↔ v = .ty i := by simp only [Rep]
theorem rep_loc {K L G n v} : Rep K L G (.loc n) v ↔ ∃ a, L[n]? = some a ∧ v = .ref a := by simp only [Rep]
theorem rep_tup {K L G ds v} : Rep K L G (.tup ds) v ↔ ∃ a vs, v = .ref a ∧ SqT K G a vs ∧ Reps K L G ds vs := by simp only [Rep]
theorem rep_lst {K L G ds v} : Rep K L G (.lst ds) v ↔ ∃ a vs, v = .ref a ∧ G a = some (.lst vs) ∧ Reps K L G ds vs := by simp only [Rep]
theorem rep_scr {K L G ds v} : Rep K L G (.scr ds) v ↔ ∃ a vs, v = .ref a ∧ SqL K G a vs ∧ Reps K L G ds vs := by simp only [Rep]
theorem rep_exn {K L G a dd ns ds v} : Rep K L G (.exn a dd ns ds) v ↔ ∃ vs, v = .ref a ∧ G dd = some (.xd (ns.zip vs)) ∧ ns.length = ds.length ∧ Reps K L G ds vs := by simp only [Rep]
theorem rep_obj {K L G C ns ds v} : Rep K L G (.obj C ns ds) v ↔ ∃ a dx vs, v = .ref a ∧ G a = some (.ins C dx (ns.zip vs)) ∧ ns.length = ds.length ∧ Reps K L G ds vs := by simp only [Rep]

/-! ### locs below a bound -/
mutual
def D.lo (n : Nat) : D → Bool
  | .loc m => decide (m < n)
  | .tup ds => D.los n ds
  | .lst ds => D.los n ds
  | .scr ds => D.los n ds
  | .exn _ _ _ ds => D.los n ds
  | .obj _ _ ds => D.los n ds
  | .non => true
  | .bl _ => true
  | .int _ => true
  | .str _ => true
  | .ref _ => true
  | .ty _ => true
def D.los (n : Nat) : List D → Bool
  | [] => true
  | d :: ds => D.lo n d && D.los n ds
end
section
variable {K : PySem.W.Frag} {L : List Addr} {G : Hp} {n : Nat}
mutual
theorem Rep.cut : ∀ {d : D} {v : V}, Rep K L G d v → D.lo n d = true → Rep K (L.take n) G d v
  | .non, _, h, _ => by simp only [Rep] at h ⊢; exact h
  | .bl _, _, h, _ => by simp only [Rep] at h ⊢; exact h
  | .int _, _, h, _ => by simp only [Rep] at h ⊢; exact h
  | .str _, _, h, _ => by simp only [Rep] at h ⊢; exact h
  | .ref _, _, h, _ => by simp only [Rep] at h ⊢; exact h
  | .ty _, _, h, _ => by simp only [Rep] at h ⊢; exact h
  | .loc m, _, h, b => by
    simp only [D.lo, decide_eq_true_eq] at b
    simp only [Rep] at h ⊢
    obtain ⟨a, e, r⟩ := h
    exact ⟨a, by rw [List.getElem?_take_of_lt b]; exact e, r⟩
  | .tup ds, _, h, b => by
    simp only [D.lo] at b
    simp only [Rep] at h ⊢
    obtain ⟨a, vs, e, q, r⟩ := h
    exact ⟨a, vs, e, q, Reps.cut r b⟩
  | .lst ds, _, h, b => by
    simp only [D.lo] at b
    simp only [Rep] at h ⊢
    obtain ⟨a, vs, e, q, r⟩ := h
    exact ⟨a, vs, e, q, Reps.cut r b⟩
  | .scr ds, _, h, b => by
    simp only [D.lo] at b
    simp only [Rep] at h ⊢
    obtain ⟨a, vs, e, q, r⟩ := h
    exact ⟨a, vs, e, q, Reps.cut r b⟩
  | .exn a dd ns ds, _, h, b => by
    simp only [D.lo] at b
    simp only [Rep] at h ⊢
    obtain ⟨vs, e, q, z, r⟩ := h
    exact ⟨vs, e, q, z, Reps.cut r b⟩
  | .obj C ns ds, _, h, b => by
    simp only [D.lo] at b
    simp only [Rep] at h ⊢
    obtain ⟨a, dx, vs, e, q, z, r⟩ := h
    exact ⟨a, dx, vs, e, q, z, Reps.cut r b⟩
theorem Reps.cut : ∀ {ds : List D} {vs : List V}, Reps K L G ds vs → D.los n ds = true → Reps K (L.take n) G ds vs
  | [], _, h, _ => by simp only [Reps] at h ⊢; exact h
  | d :: ds, _, h, b => by
    simp only [D.los, Bool.and_eq_true] at b
    simp only [Reps] at h ⊢
    obtain ⟨v, r, e, h1, h2⟩ := h
    exact ⟨v, r, e, Rep.cut h1 b.1, Reps.cut h2 b.2⟩
end
end
def M.lo (n : Nat) : M → Bool
  | .lst ds => D.los n ds
  | .ins _ _ ds => D.los n ds
  | .gone => true
  | .box => true

/-! ### the state -/
def MAt (K : PySem.W.Frag) (L : List Addr) (G H : Hp) (a : Addr) : M → Prop
  | .lst ds => ∃ vs, H a = some (.lst vs) ∧ Reps K L G ds vs
  | .ins C ns ds => ∃ dx vs, H a = some (.ins C dx (ns.zip vs)) ∧ ns.length = ds.length ∧ Reps K L G ds vs
  | .gone => True
  | .box => ∃ i j k : Int, H a = some (.lst [.int i, .int j, .int k])
structure Ok (K : PySem.W.Frag) (L : List Addr) (G H : Hp) (μ : List M) : Prop where
  sub : Same G H
  len : L.length = μ.length
  nd : L.Nodup
  off : ∀ a ∈ L, G a = none
  liv : ∀ a ∈ L, ∃ o, H a = some o
  at_ : ∀ (n : Nat) a m, L[n]? = some a → μ[n]? = some m → MAt K L G H a m
structure RepS (K : PySem.W.Frag) (L : List Addr) (G : Hp) (ρ : List (Option D)) (σ : St) : Prop where
  len : σ.length = ρ.length
  at_ : ∀ (i : Nat) d, ρ[i]? = some (some d) → ∃ v, σ[i]? = some (some v) ∧ Rep K L G d v
structure Step (L : List Addr) (G H : Hp) (L' : List Addr) (G' H' : Hp) : Prop where
  pre : Pre L L'
  gs : Same G G'
  hs : ∀ b o, H b = some o → b ∉ L → H' b = some o
  fr : ∀ a ∈ L', a ∈ L ∨ H a = none
  nn : ∀ b o, H b = some o → ∃ o', H' b = some o'
  gf : ∀ b o, G' b = some o → G b = some o ∨ H b = none
theorem Step.refl (L : List Addr) (G H : Hp) : Step L G H L G H := ⟨.refl _, .refl _, fun _ _ h _ => h, fun _ h => .inl h, fun _ o h => ⟨o, h⟩, fun _ _ h => .inl h⟩
theorem Step.nope {L L' : List Addr} {G H G' H' : Hp} (s : Step L G H L' G' H') {b : Addr} (h : H' b = Option.none) : H b = Option.none := by
  cases e : H b with
  | none => rfl
  | some o =>
    obtain ⟨o', q⟩ := s.nn b o e
    rw [h] at q
    cases q
theorem Step.trans {L L1 L2 : List Addr} {G H G1 H1 G2 H2 : Hp} (a : Step L G H L1 G1 H1) (b : Step L1 G1 H1 L2 G2 H2) : Step L G H L2 G2 H2 where
  pre := a.pre.trans b.pre
  gs := a.gs.trans b.gs
  hs := fun c o h n => b.hs c o (a.hs c o h n) fun z => (a.fr c z).elim n fun q => by rw [q] at h; cases h
  fr := fun c z => by
    rcases b.fr c z with q | q
    · exact a.fr c q
    · exact .inr (a.nope q)
  nn := fun c o h => by
    obtain ⟨o', q⟩ := a.nn c o h
    exact b.nn c o' q
  gf := fun c o h => by
    rcases b.gf c o h with q | q
    · exact a.gf c o q
    · exact .inr (a.nope q)
theorem MAt.mono {K : PySem.W.Frag} {L L' : List Addr} {G G' H : Hp} {a : Addr} {m : M} (hl : Pre L L') (hg : Same G G') (h : MAt K L G H a m) : MAt K L' G' H a m := by
  cases m with
  | lst ds => obtain ⟨vs, e, r⟩ := h; exact ⟨vs, e, r.mono hl hg⟩
  | ins C ns ds => obtain ⟨dx, vs, e, z, r⟩ := h; exact ⟨dx, vs, e, z, r.mono hl hg⟩
  | gone => trivial
  | box => exact h
theorem RepS.mono {K : PySem.W.Frag} {L L' : List Addr} {G G' : Hp} {ρ : List (Option D)} {σ : St} (hl : Pre L L') (hg : Same G G') (h : RepS K L G ρ σ) : RepS K L' G' ρ σ :=
  ⟨h.len, fun i d e => let ⟨v, e', r⟩ := h.at_ i d e; ⟨v, e', r.mono hl hg⟩⟩
theorem RepS.step {K : PySem.W.Frag} {L L' : List Addr} {G H G' H' : Hp} {ρ : List (Option D)} {σ : St} (h : RepS K L G ρ σ) (s : Step L G H L' G' H') : RepS K L' G' ρ σ := h.mono s.pre s.gs
theorem Rep.step {K : PySem.W.Frag} {L L' : List Addr} {G H G' H' : Hp} {d : D} {v : V} (h : Rep K L G d v) (s : Step L G H L' G' H') : Rep K L' G' d v := h.mono s.pre s.gs
theorem Reps.step {K : PySem.W.Frag} {L L' : List Addr} {G H G' H' : Hp} {d : List D} {v : List V} (h : Reps K L G d v) (s : Step L G H L' G' H') : Reps K L' G' d v := h.mono s.pre s.gs
theorem RepS.set {K : PySem.W.Frag} {L : List Addr} {G : Hp} {ρ : List (Option D)} {σ : St} {d : D} {v : V} (h : RepS K L G ρ σ) (r : Rep K L G d v) (i : Nat) : RepS K L G (ρ.set i (some d)) (σ.set i (some v)) := by
  refine ⟨by simpa using h.len, fun j e hj => ?_⟩
  by_cases hi : i = j
  · subst hi
    by_cases hl : i < ρ.length
    · rw [List.getElem?_set_self hl] at hj
      cases hj
      exact ⟨v, by rw [List.getElem?_set_self (by rw [h.len]; exact hl)], r⟩
    · rw [List.getElem?_eq_none (by simpa using hl)] at hj
      cases hj
  · rw [List.getElem?_set_ne hi] at hj ⊢
    exact h.at_ j e hj
theorem RepS.forget {K : PySem.W.Frag} {L : List Addr} {G : Hp} {ρ ρ' : List (Option D)} {σ : St} (h : RepS K L G ρ σ) (hl : ρ'.length = ρ.length) (hs : ∀ (i : Nat) d, ρ'[i]? = some (some d) → ρ[i]? = some (some d)) : RepS K L G ρ' σ :=
  ⟨h.len.trans hl.symm, fun i d e => h.at_ i d (hs i d e)⟩

theorem mem_ne {L : List Addr} {H : Hp} {p : Addr} (h : ∀ a ∈ L, ∃ o, H a = some o) (hp : H p = none) : ∀ a ∈ L, a ≠ p := fun a ha z => by
  obtain ⟨o, e⟩ := h a ha
  rw [z, hp] at e
  cases e
theorem MAt.heap {K : PySem.W.Frag} {L : List Addr} {G H H' : Hp} {a : Addr} {m : M} (he : H' a = H a) (h : MAt K L G H a m) : MAt K L G H' a m := by
  cases m with
  | lst ds => obtain ⟨vs, e, r⟩ := h; exact ⟨vs, he.trans e, r⟩
  | ins C ns ds => obtain ⟨dx, vs, e, z, r⟩ := h; exact ⟨dx, vs, he.trans e, z, r⟩
  | gone => trivial
  | box => obtain ⟨i, j, k, e⟩ := h; exact ⟨i, j, k, he.trans e⟩
section
variable {K : PySem.W.Frag} {L : List Addr} {G H : Hp} {μ : List M} {p : Addr} {o : HO}
theorem Ok.mem (h : Ok K L G H μ) {n : Nat} {a : Addr} (e : L[n]? = some a) : a ∈ L := List.mem_of_getElem? e
/-- a new thing in the heap that is not told -/
theorem Ok.newH (h : Ok K L G H μ) (hp : H p = none) : Ok K L G (upd H p o) μ ∧ Step L G H L G (upd H p o) := by
  have hL := mem_ne h.liv hp
  have sh : Same H (upd H p o) := fun b u e => by rw [upd_ne (ne_of_none e hp)]; exact e
  refine ⟨⟨h.sub.trans sh, h.len, h.nd, h.off, fun a ha => ?_, fun n a m e1 e2 => ?_⟩, .refl _, .refl _, fun b u e _ => sh b u e, fun a ha => .inl ha, fun b u e => ⟨u, sh b u e⟩, fun b u e => .inl e⟩
  · obtain ⟨u, e⟩ := h.liv a ha
    exact ⟨u, sh _ _ e⟩
  · exact (h.at_ n a m e1 e2).heap (upd_ne (hL a (List.mem_of_getElem? e1)))
/-- what stands in the heap, apart from the store, and did not stand before, is told -/
theorem Ok.tell (h : Ok K L G H μ) (hp : H p = some o) (hn : p ∉ L) : Ok K L (upd G p o) H μ ∧ Same G (upd G p o) := by
  have sg : Same G (upd G p o) := fun b u e => by
    by_cases hb : b = p
    · subst hb
      rw [h.sub _ _ e] at hp
      rw [upd_same]
      exact hp.symm
    · rw [upd_ne hb]
      exact e
  refine ⟨⟨fun b u e => ?_, h.len, h.nd, fun a ha => ?_, h.liv, fun n a m e1 e2 => (h.at_ n a m e1 e2).mono (.refl _) sg⟩, sg⟩
  · by_cases hb : b = p
    · subst hb
      rw [upd_same] at e
      rw [hp]
      exact e
    · rw [upd_ne hb] at e
      exact h.sub _ _ e
  · rw [upd_ne (fun (z : a = p) => hn (by rw [← z]; exact ha))]
    exact h.off a ha
theorem Step.tell {L0 : List Addr} {G0 H0 : Hp} (s : Step L0 G0 H0 L G H) (h0 : H0 p = none) (sg : Same G (upd G p o)) : Step L0 G0 H0 L (upd G p o) H :=
  ⟨s.pre, s.gs.trans sg, s.hs, s.fr, s.nn, fun b u e => by
    by_cases hb : b = p
    · rw [hb]
      exact .inr h0
    · rw [upd_ne hb] at e
      exact s.gf b u e⟩
/-- a new immutable object comes -/
theorem Ok.new (h : Ok K L G H μ) (hp : H p = none) : Ok K L (upd G p o) (upd H p o) μ ∧ Step L G H L (upd G p o) (upd H p o) := by
  obtain ⟨h1, s1⟩ := h.newH (o := o) hp
  obtain ⟨h2, sg⟩ := h1.tell (p := p) (o := o) upd_same fun z => mem_ne h.liv hp p z rfl
  exact ⟨h2, s1.tell hp sg⟩
/-- a thing in the heap that nobody tells of, apart from the store, is changed -/
theorem Ok.poke (h : Ok K L G H μ) (hn : p ∉ L) (hg : G p = none) : Ok K L G (upd H p o) μ := by
  refine ⟨fun b u e => ?_, h.len, h.nd, h.off, fun a ha => ?_, fun n a m e1 e2 => ?_⟩
  · rw [upd_ne (ne_of_none e hg)]
    exact h.sub _ _ e
  · rw [upd_ne (fun (z : a = p) => hn (by rw [← z]; exact ha))]
    exact h.liv a ha
  · exact (h.at_ n a m e1 e2).heap (upd_ne fun (z : a = p) => hn (by rw [← z]; exact List.mem_of_getElem? e1))
theorem Step.poke {L0 : List Addr} {G0 H0 : Hp} (s : Step L0 G0 H0 L G H) (h0 : H0 p = none) : Step L0 G0 H0 L G (upd H p o) :=
  ⟨s.pre, s.gs, fun b u e n => by rw [upd_ne (ne_of_none e h0)]; exact s.hs b u e n, s.fr, fun b u e => by rw [upd_ne (ne_of_none e h0)]; exact s.nn b u e, s.gf⟩
theorem get_last {α : Type} {l : List α} {x y : α} {n : Nat} (h : (l ++ [x])[n]? = some y) : l[n]? = some y ∨ (n = l.length ∧ x = y) := by
  by_cases hn : n < l.length
  · rw [List.getElem?_append_left hn] at h
    exact .inl h
  · rw [List.getElem?_append_right (by omega)] at h
    by_cases e : n - l.length = 0
    · rw [e] at h
      exact .inr ⟨by omega, by simpa using h⟩
    · rw [List.getElem?_eq_none (by simp; omega)] at h
      cases h
/-- a thing that stands in the heap, told by nobody, comes to the store -/
theorem Ok.push (h : Ok K L G H μ) {m : M} (hp : H p = some o) (hn : p ∉ L) (hg : G p = none) (hm : MAt K (L ++ [p]) G H p m) (H0 : Hp) (h0 : H0 p = none) : Ok K (L ++ [p]) G H (μ ++ [m]) := by
  refine ⟨h.sub, by simp [h.len], ?_, fun a ha => ?_, fun a ha => ?_, fun n a m' e1 e2 => ?_⟩
  · rw [List.nodup_append]
    refine ⟨h.nd, by simp, fun a ha b hb z => ?_⟩
    simp only [List.mem_singleton] at hb
    subst hb z
    exact hn ha
  · rcases List.mem_append.mp ha with z | z
    · exact h.off a z
    · simp only [List.mem_singleton] at z
      rw [z]
      exact hg
  · rcases List.mem_append.mp ha with z | z
    · exact h.liv a z
    · simp only [List.mem_singleton] at z
      rw [z]
      exact ⟨_, hp⟩
  · rcases get_last e1 with q | ⟨q1, q2⟩
    · rcases get_last e2 with r | ⟨r1, r2⟩
      · exact (h.at_ n a m' q r).mono .app (.refl _)
      · have : n < L.length := (List.getElem?_eq_some_iff.mp q).1
        rw [h.len] at this
        omega
    · rcases get_last e2 with r | ⟨r1, r2⟩
      · have : n < μ.length := (List.getElem?_eq_some_iff.mp r).1
        rw [← h.len] at this
        omega
      · subst q2 r2
        exact hm
/-- a new thing of the store -/
theorem Ok.alloc (h : Ok K L G H μ) {m : M} (hp : H p = none) (hm : MAt K (L ++ [p]) G (upd H p o) p m) : Ok K (L ++ [p]) G (upd H p o) (μ ++ [m]) ∧ Step L G H (L ++ [p]) G (upd H p o) := by
  obtain ⟨h1, s1⟩ := h.newH (o := o) hp
  refine ⟨h1.push (o := o) upd_same (fun z => mem_ne h.liv hp p z rfl) (Same.free h.sub hp) hm H hp, .app, .refl _, s1.hs, fun a ha => ?_, s1.nn, s1.gf⟩
  rcases List.mem_append.mp ha with z | z
  · exact .inl z
  · simp only [List.mem_singleton] at z
    rw [z]
    exact .inr hp
/-- a thing of the store changes -/
theorem Ok.write (h : Ok K L G H μ) {n : Nat} {a : Addr} {m : M} (e : L[n]? = some a) (hm : MAt K L G (upd H a o) a m) : Ok K L G (upd H a o) (μ.set n m) ∧ Step L G H L G (upd H a o) := by
  have ha := List.mem_of_getElem? e
  have nG : ∀ b u, G b = some u → b ≠ a := fun b u q z => by rw [z, h.off a ha] at q; cases q
  refine ⟨⟨fun b u q => ?_, by simp [h.len], h.nd, h.off, fun b hb => ?_, fun k b m' e1 e2 => ?_⟩, .refl _, .refl _, fun b u q hb => ?_, fun b hb => .inl hb, fun b u q => ?_, fun b u q => .inl q⟩
  · rw [upd_ne (nG b u q)]
    exact h.sub _ _ q
  · by_cases z : b = a
    · rw [z, upd_same]
      exact ⟨_, rfl⟩
    · rw [upd_ne z]
      exact h.liv b hb
  · by_cases hk : n = k
    · subst hk
      rw [e] at e1
      cases e1
      have hn : n < μ.length := by rw [← h.len]; exact (List.getElem?_eq_some_iff.mp e).1
      rw [List.getElem?_set_self hn] at e2
      cases e2
      exact hm
    · rw [List.getElem?_set_ne hk] at e2
      refine (h.at_ k b m' e1 e2).heap (upd_ne fun z => hk ?_)
      subst z
      obtain ⟨h1, q1⟩ := List.getElem?_eq_some_iff.mp e
      obtain ⟨h2, q2⟩ := List.getElem?_eq_some_iff.mp e1
      exact (List.getElem_inj h.nd).mp (q1.trans q2.symm)
  · rw [upd_ne (fun (z : b = a) => hb (by rw [z]; exact ha))]
    exact q
  · by_cases z : b = a
    · rw [z, upd_same]
      exact ⟨_, rfl⟩
    · rw [upd_ne z]
      exact ⟨u, q⟩
theorem mAt_cut {a : Addr} {m : M} {n : Nat} (h : MAt K L G H a m) (b : m.lo n = true) : MAt K (L.take n) G H a m := by
  cases m with
  | lst ds => obtain ⟨vs, e, r⟩ := h; exact ⟨vs, e, r.cut b⟩
  | ins C ns ds => obtain ⟨dx, vs, e, z, r⟩ := h; exact ⟨dx, vs, e, z, r.cut b⟩
  | gone => trivial
  | box => exact h
/-- the last things of the store are left behind -/
theorem Ok.cut {ν : List M} (h : Ok K L G H (μ ++ ν)) (b : μ.all (M.lo μ.length) = true) : Ok K (L.take μ.length) G H μ := by
  have hl : μ.length ≤ L.length := by rw [h.len, List.length_append]; omega
  refine ⟨h.sub, by rw [List.length_take]; omega, h.nd.sublist (List.take_sublist _ _), fun a ha => h.off a (List.mem_of_mem_take ha), fun a ha => h.liv a (List.mem_of_mem_take ha), fun n a m e1 e2 => ?_⟩
  have hn : n < μ.length := (List.getElem?_eq_some_iff.mp e2).1
  rw [List.getElem?_take_of_lt hn] at e1
  refine mAt_cut (h.at_ n a m e1 ?_) (List.all_eq_true.mp b m (List.mem_of_getElem? e2))
  rw [List.getElem?_append_left hn]
  exact e2
theorem Step.cut {L0 : List Addr} {G0 H0 : Hp} {n : Nat} (s : Step L0 G0 H0 L G H) (hn : L0.length ≤ n) : Step L0 G0 H0 (L.take n) G H :=
  ⟨fun k a e => by
    rw [List.getElem?_take_of_lt (Nat.lt_of_lt_of_le (List.getElem?_eq_some_iff.mp e).1 hn)]
    exact s.pre k a e, s.gs, s.hs, fun a ha => s.fr a (List.mem_of_mem_take ha), s.nn, s.gf⟩
end
end PM

set_option Elab.async false
set_option linter.all false
set_option maxRecDepth 100000
namespace PM
open PySem L2
abbrev Env' := List (Option D)

/-! ### readings -/
/-- the state as it is told -/
structure Now (K : PySem.W.Frag) (L : List Addr) (G H : Hp) (μ : List M) (ρ : Env') (σ : St) : Prop where
  ok : Ok K L G H μ
  env : RepS K L G ρ σ
/-- a value comes -/
def Comes (K : PySem.W.Frag) (L : List Addr) (G H : Hp) (d : D) (μ' : List M) (Q : VK) : Prop := ∀ v L' G' H', Step L G H L' G' H' → Ok K L' G' H' μ' → Rep K L' G' d v → Q v H'
def ComesT (K : PySem.W.Frag) (L : List Addr) (G H : Hp) (b : Bool) (μ' : List M) (Q : Bool → Hp → Prop) : Prop := ∀ L' G' H', Step L G H L' G' H' → Ok K L' G' H' μ' → Q b H'
def ComesA (K : PySem.W.Frag) (L : List Addr) (G H : Hp) (ds : List D) (μ' : List M) (Q : List V → Hp → Prop) : Prop := ∀ vs L' G' H', Step L G H L' G' H' → Ok K L' G' H' μ' → Reps K L' G' ds vs → Q vs H'
/-- an exception comes: its class, its fields -/
def XdAt (K : PySem.W.Frag) (L : List Addr) (G H : Hp) (dx : Option Addr) (ns : List Str) (ds : List D) : Prop := ns.length = ds.length ∧ (ns = [] ∨ ∃ a vs, dx = some a ∧ G a = some (.xd (ns.zip vs)) ∧ Reps K L G ds vs)
def ComesX (K : PySem.W.Frag) (L : List Addr) (G H : Hp) (C : Addr) (ns : List Str) (ds : List D) (μ' : List M) (E : XK) : Prop := ∀ dx L' G' H', Step L G H L' G' H' → Ok K L' G' H' μ' → XdAt K L' G' H' dx ns ds → E (.ref C) dx H'
def tV (K : PySem.W.Frag) (ρ : Env') (μ : List M) (d : D) (μ' : List M) : TE := fun σ H Q => ∃ L G, Now K L G H μ ρ σ ∧ Comes K L G H d μ' Q
def tVT (K : PySem.W.Frag) (ρ : Env') (μ : List M) (b : Bool) (μ' : List M) : TT := fun σ H Q => ∃ L G, Now K L G H μ ρ σ ∧ ComesT K L G H b μ' Q
def tVA (K : PySem.W.Frag) (ρ : Env') (μ : List M) (ds : List D) (μ' : List M) : TA := fun σ H Q => ∃ L G, Now K L G H μ ρ σ ∧ ComesA K L G H ds μ' Q
/-- an expression that raises; W: what is wished of exceptions -/
def tX (W : WX) (K : PySem.W.Frag) (ρ : Env') (μ : List M) (C : Addr) (ns : List Str) (ds : List D) (μ' : List M) : St → Hp → Prop := fun σ H => ∃ L G, Now K L G H μ ρ σ ∧ ComesX K L G H C ns ds μ' fun c d H' => W c d σ H'
/-- what a call or an expression comes to -/
inductive FO where
  | ret (d : D) (μ : List M) | exc (C : Addr) (ns : List Str) (ds : List D) (μ : List M)
def CO (W : WX) (K : PySem.W.Frag) (L : List Addr) (G H : Hp) (σ : St) (o : FO) (Q : VK) : Prop :=
  match o with
  | .ret d μ' => Comes K L G H d μ' Q
  | .exc C ns ds μ' => ComesX K L G H C ns ds μ' fun c d H' => W c d σ H'
def tO (W : WX) (K : PySem.W.Frag) (ρ : Env') (μ : List M) (o : FO) : TE := fun σ H Q => ∃ L G, Now K L G H μ ρ σ ∧ CO W K L G H σ o Q
inductive Out where
  | next (ρ : Env') (μ : List M) | ret (d : D) (μ : List M) | brk (ρ : Env') (μ : List M) | cont (ρ : Env') (μ : List M)
  | exc (C : Addr) (ns : List Str) (ds : List D) (ρ : Env') (μ : List M)
def Ends' (K : PySem.W.Frag) (L : List Addr) (G H : Hp) (ρ : Env') (μ : List M) (Q : St → Hp → Prop) : Prop := ∀ σ' L' G' H', Step L G H L' G' H' → Now K L' G' H' μ ρ σ' → Q σ' H'
def Post (W : WX) (K : PySem.W.Frag) (L : List Addr) (G H : Hp) (D : Ends) : Out → Prop
  | .next ρ μ => Ends' K L G H ρ μ D.nx
  | .brk ρ μ => Ends' K L G H ρ μ D.bk
  | .cont ρ μ => Ends' K L G H ρ μ D.ct
  | .ret d μ => Comes K L G H d μ D.rt
  | .exc C ns ds ρ μ => ∀ σ' dx L' G' H', Step L G H L' G' H' → Now K L' G' H' μ ρ σ' → XdAt K L' G' H' dx ns ds → W (.ref C) dx σ' H'
def tS (W : WX) (K : PySem.W.Frag) (ρ : Env') (μ : List M) (o : Out) : TS := fun D σ H => ∃ L G, Now K L G H μ ρ σ ∧ Post W K L G H D o

section
variable {K : PySem.W.Frag} {L L1 L2 : List Addr} {G H G1 H1 G2 H2 : Hp} {μ μ1 μ' : List M} {ρ ρ' : Env'} {σ : St} {d : D} {b : Bool} {ds : List D}
theorem Now.step (n : Now K L G H μ ρ σ) (s : Step L G H L1 G1 H1) (o : Ok K L1 G1 H1 μ1) : Now K L1 G1 H1 μ1 ρ σ := ⟨o, n.env.step s⟩
theorem Comes.step {Q : VK} (c : Comes K L G H d μ' Q) (s : Step L G H L1 G1 H1) : Comes K L1 G1 H1 d μ' Q := fun v L' G' H' s' => c v L' G' H' (s.trans s')
theorem ComesT.step {Q : Bool → Hp → Prop} (c : ComesT K L G H b μ' Q) (s : Step L G H L1 G1 H1) : ComesT K L1 G1 H1 b μ' Q := fun L' G' H' s' => c L' G' H' (s.trans s')
theorem ComesA.step {Q : List V → Hp → Prop} (c : ComesA K L G H ds μ' Q) (s : Step L G H L1 G1 H1) : ComesA K L1 G1 H1 ds μ' Q := fun v L' G' H' s' => c v L' G' H' (s.trans s')
theorem ComesX.step {C : Addr} {ns : List Str} {E : XK} (c : ComesX K L G H C ns ds μ' E) (s : Step L G H L1 G1 H1) : ComesX K L1 G1 H1 C ns ds μ' E := fun v L' G' H' s' => c v L' G' H' (s.trans s')
theorem Ends'.step {Q : St → Hp → Prop} (c : Ends' K L G H ρ μ Q) (s : Step L G H L1 G1 H1) : Ends' K L1 G1 H1 ρ μ Q := fun v L' G' H' s' => c v L' G' H' (s.trans s')
theorem Post.step {W : WX} {D : Ends} {o : Out} (c : Post W K L G H D o) (s : Step L G H L1 G1 H1) : Post W K L1 G1 H1 D o := by
  cases o with
  | next ρ μ => exact Ends'.step c s
  | brk ρ μ => exact Ends'.step c s
  | cont ρ μ => exact Ends'.step c s
  | ret d μ => exact Comes.step c s
  | exc C ns ds ρ μ => exact fun σ' dx L' G' H' s' => c σ' dx L' G' H' (s.trans s')
end
section
variable {X : Cx} {e a b : Expr} {es : List Expr} {pos : Pos}
theorem pe_of {t t' : TE} (h : PE X e t) (w : ∀ σ H Q, t' σ H Q → t σ H Q) : PE X e t' := ⟨fun pins s σ H Q I q => h.run pins s σ H Q I (w _ _ _ q)⟩
theorem pt_of {t t' : TT} (h : PT X e t) (w : ∀ σ H Q, t' σ H Q → t σ H Q) : PT X e t' := ⟨fun pins s σ H Q I q => h.run pins s σ H Q I (w _ _ _ q)⟩
theorem pw_of {t t' : TT} (h : PW X e t) (w : ∀ σ H Q, t' σ H Q → t σ H Q) : PW X e t' := ⟨fun wh pins s σ H Q I q => h.run wh pins s σ H Q I (w _ _ _ q)⟩
theorem pa_of {t t' : TA} (h : PA X es t) (w : ∀ σ H Q, t' σ H Q → t σ H Q) : PA X es t' := ⟨fun pos pins s σ H Q I q => h.run pos pins s σ H Q I (w _ _ _ q)⟩
theorem ps_of {st : Stmt} {t t' : TS} (h : PS X st t) (w : ∀ D σ H, t' D σ H → t D σ H) : PS X st t' := ⟨fun pins s σ H D I q => h.run pins s σ H D I (w _ _ _ q)⟩
theorem pss_of {st : List Stmt} {t t' : TS} (h : PSs X st t) (w : ∀ D σ H, t' D σ H → t D σ H) : PSs X st t' := ⟨fun pins s σ H D I q => h.run pins s σ H D I (w _ _ _ q)⟩
end

/-! ### expressions -/
section
variable {X : Cx} {W : WX} {e a b c : Expr} {es : List Expr} {pos : Pos} {ρ : Env'} {μ μ1 μ2 μ3 : List M} {d da db dc : D} {ds : List D} {x : Str} {i : Nat}
/-- a name by its slot -/
theorem ev_var (i : Nat) (hd : ρ[i]? = some (some d)) (hN : X.N[i]? = some x := by rfl) (hv : Vis X.env.scope x := by first | exact Or.inl rfl | exact Or.inr (Or.inl rfl) | exact Or.inr (Or.inr rfl)) (h1 : (x == ("__debug__" : Str)) = false := by decide)
    (h2 : (x == ("__classdict__" : Str)) = false := by decide) : PE X (.Name x pos) (tV X.K ρ μ d μ) :=
  pe_of (pe_var hN hv h1 h2) fun σ H Q ⟨L, G, n, c⟩ => by
    obtain ⟨v, e, r⟩ := n.env.at_ i d hd
    exact ⟨v, e, c v L G H (.refl _ _ _) n.ok r⟩
/-- a value that leaves the heap as it is -/
theorem tV_const {v : V} {σ : St} {H : Hp} {Q : VK} (h : tV X.K ρ μ d μ σ H Q) (r : ∀ L G, Rep X.K L G d v) : Q v H := by
  obtain ⟨L, G, n, c⟩ := h
  exact c v L G H (.refl _ _ _) n.ok (r L G)
theorem ev_int {i j} : PE X (.Constant (.int i) j pos) (tV X.K ρ μ (.int i) μ) := pe_of pe_int fun _ _ _ h => tV_const h fun _ _ => rep_int.mpr rfl
theorem ev_bl {i j} : PE X (.Constant (.bool i) j pos) (tV X.K ρ μ (.bl i) μ) := pe_of pe_bl fun _ _ _ h => tV_const h fun _ _ => rep_bl.mpr rfl
theorem ev_non {j} : PE X (.Constant .none j pos) (tV X.K ρ μ .non μ) := pe_of pe_non fun _ _ _ h => tV_const h fun _ _ => rep_non.mpr rfl
theorem ev_str {i j} : PE X (.Constant (.str i) j pos) (tV X.K ρ μ (.str i) μ) := pe_of pe_str fun _ _ _ h => tV_const h fun _ _ => rep_str.mpr rfl
/-- a module's name: a constant, a class -/
theorem ev_glob {u : Value} {v : V} (hg : Gl X x) (hm : X.mg x = some u) (r : RelV v u) (rd : ∀ L G, Rep X.K L G d v) (hd : (x == ("__debug__" : Str)) = false := by decide) : PE X (.Name x pos) (tV X.K ρ μ d μ) := pe_of (pe_glob hg hm r hd) fun _ _ _ h => tV_const h rd
/-- a built-in class as a value -/
theorem ev_bty {T : String} (hg : Gl X x) (hm : X.mg x = none) (hv : bootBuiltins x = some (.type T)) (hn : x ≠ "__name__" := by decide) (hd : (x == ("__debug__" : Str)) = false := by decide) : PE X (.Name x pos) (tV X.K ρ μ (.ty T) μ) :=
  pe_of (pe_bltn (v := .ty T) hg hm hv rfl hn hd) fun _ _ _ h => tV_const h fun _ _ => rep_ty.mpr rfl

/-! #### arguments -/
theorem ev_nil : PA X [] (tVA X.K ρ μ [] μ) := pa_of pa_nil fun σ H Q ⟨L, G, n, c⟩ => c [] L G H (.refl _ _ _) n.ok Reps.nil
theorem ev_cons (h1 : PE X e (tV X.K ρ μ d μ1)) (h2 : PA X es (tVA X.K ρ μ1 ds μ2)) (hs : starEach (e :: es) X.env = (false, eval e X.env) :: starEach es X.env := by rfl) : PA X (e :: es) (tVA X.K ρ μ (d :: ds) μ2) :=
  pa_of (pa_cons h1 h2 hs) fun σ H Q ⟨L, G, n, c⟩ => ⟨L, G, n, fun v L1 G1 H1 s1 o1 r1 => ⟨L1, G1, n.step s1 o1, fun vs L2 G2 H2 s2 o2 r2 => c (v :: vs) L2 G2 H2 (s1.trans s2) o2 (Reps.cons (r1.step s2) r2)⟩⟩

/-! #### operators, by values -/
/-- an operation on two data -/
def OpO (X : Cx) (W : WX) (f : Value → Value → Sem Value) (da db : D) (μ : List M) (o : FO) : Prop :=
  ∀ (pins : List (Addr × Obj)) (s : Shared) (σ : St) (H : Hp) (x y : V) (v u : Value) (Q : VK) (L : List Addr) (G : Hp), Inv X pins σ H s → RelV x v → RelV y u → Ok X.K L G H μ → Rep X.K L G da x → Rep X.K L G db y → CO W X.K L G H σ o Q →
    wpAny (model X.prog X.w) X.A (f v u) (EP X pins σ Q) X.xe s
def UnO (X : Cx) (W : WX) (f : Value → Sem Value) (da : D) (μ : List M) (o : FO) : Prop :=
  ∀ (pins : List (Addr × Obj)) (s : Shared) (σ : St) (H : Hp) (x : V) (v : Value) (Q : VK) (L : List Addr) (G : Hp), Inv X pins σ H s → RelV x v → Ok X.K L G H μ → Rep X.K L G da x → CO W X.K L G H σ o Q →
    wpAny (model X.prog X.w) X.A (f v) (EP X pins σ Q) X.xe s
def CallO (X : Cx) (W : WX) (f : List Value → Sem Value) (ds : List D) (μ : List M) (o : FO) : Prop :=
  ∀ (pins : List (Addr × Obj)) (s : Shared) (σ : St) (H : Hp) (xs : List V) (us : List Value) (Q : VK) (L : List Addr) (G : Hp), Inv X pins σ H s → Vals xs us → Ok X.K L G H μ → Reps X.K L G ds xs → CO W X.K L G H σ o Q →
    wpAny (model X.prog X.w) X.A (f us) (EP X pins σ Q) X.xe s
theorem opO_of {f : Value → Value → Sem Value} {r : R2} {o : FO} (h : OpR X f r) (w : ∀ σ x y H Q L G, Ok X.K L G H μ → Rep X.K L G da x → Rep X.K L G db y → CO W X.K L G H σ o Q → r x y H Q) : OpO X W f da db μ o :=
  fun pins s σ H x y v u Q L G I rx ry o r1 r2 c => h pins s σ H x y v u Q I rx ry (w _ _ _ _ _ _ _ o r1 r2 c)
theorem unO_of {f : Value → Sem Value} {r : V → Hp → VK → Prop} {o : FO} (h : UnR X f r) (w : ∀ σ x H Q L G, Ok X.K L G H μ → Rep X.K L G da x → CO W X.K L G H σ o Q → r x H Q) : UnO X W f da μ o :=
  fun pins s σ H x v Q L G I rx o r1 c => h pins s σ H x v Q I rx (w _ _ _ _ _ _ o r1 c)
theorem callO_of {f : Value} {r : List V → Hp → VK → Prop} {o : FO} (h : CallR X f r) (w : ∀ σ xs H Q L G, Ok X.K L G H μ → Reps X.K L G ds xs → CO W X.K L G H σ o Q → r xs H Q) : CallO X W (fun us => call f us) ds μ o :=
  fun pins s σ H x v Q L G I rx o r1 c => h pins s σ H x v Q I rx (w _ _ _ _ _ _ o r1 c)
/-- a value that leaves the heap as it is -/
theorem CO.now {σ : St} {H : Hp} {Q : VK} {L : List Addr} {G : Hp} {v : V} (c : CO W X.K L G H σ (.ret d μ) Q) (o : Ok X.K L G H μ) (r : Rep X.K L G d v) : Q v H := c v L G H (.refl _ _ _) o r
/-- a new object, immutable -/
theorem CO.fresh {σ : St} {H : Hp} {Q : VK} {L : List Addr} {G : Hp} {p : Addr} {u : HO} {v : V} (c : CO W X.K L G H σ (.ret d μ) Q) (o : Ok X.K L G H μ) (hp : H p = none) (r : Rep X.K L (upd G p u) d v) : Q v (upd H p u) :=
  let ⟨o', s'⟩ := o.new (o := u) hp
  c v L _ _ s' o' r
theorem CO.step {σ : St} {H : Hp} {Q : VK} {L : List Addr} {G : Hp} {o : FO} {L1 : List Addr} {G1 H1 : Hp} (c : CO W X.K L G H σ o Q) (s : Step L G H L1 G1 H1) : CO W X.K L1 G1 H1 σ o Q := by
  cases o with
  | ret d μ => exact Comes.step c s
  | exc C ns ds μ => exact ComesX.step (E := fun c d H' => W c d σ H') c s
section
variable {o : FO}
theorem binO (ha : PE X a (tV X.K ρ μ da μ1)) (hb : PE X b (tV X.K ρ μ1 db μ2)) {pins : List (Addr × Obj)} {s : Shared} {σ : St} {H : Hp} {Q : VK} {f : Value → Value → Sem Value} (I : Inv X pins σ H s) (ho : OpO X W f da db μ2 o) (h : tO W X.K ρ μ o σ H Q) :
    wpAny (model X.prog X.w) X.A (eval a X.env) (fun v s₁ => wpAny (model X.prog X.w) X.A (eval b X.env) (fun u s₂ => wpAny (model X.prog X.w) X.A (f v u) (EP X pins σ Q) X.xe s₂) X.xe s₁) X.xe s := by
  obtain ⟨L, G, n, c⟩ := h
  exact binT (R := fun x y H2 => ∃ L2 G2, Ok X.K L2 G2 H2 μ2 ∧ Rep X.K L2 G2 da x ∧ Rep X.K L2 G2 db y ∧ CO W X.K L2 G2 H2 σ o Q) ha hb I
    ⟨L, G, n, fun v L1 G1 H1 s1 o1 r1 => ⟨L1, G1, n.step s1 o1, fun u L2 G2 H2 s2 o2 r2 => ⟨L2, G2, o2, r1.step s2, r2, c.step (s1.trans s2)⟩⟩⟩
    fun v u s2 x y H2 I2 rx ry ⟨L2, G2, o2, r1, r2, c2⟩ => ho pins s2 σ H2 x y v u Q L2 G2 I2 rx ry o2 r1 r2 c2
theorem ev_op {op : Operator} (ha : PE X a (tV X.K ρ μ da μ1)) (hb : PE X b (tV X.K ρ μ1 db μ2)) (ho : OpO X W (binaryOp op) da db μ2 o) : PE X (.BinOp a op b pos) (tO W X.K ρ μ o) :=
  ⟨fun pins s σ H Q I h => wpAny_BinOp (binO ha hb I ho h)⟩
theorem ev_cmp {op : CmpOp} (ha : PE X a (tV X.K ρ μ da μ1)) (hb : PE X b (tV X.K ρ μ1 db μ2)) (ho : OpO X W (compareOp op) da db μ2 o) (hm : behindInMarks op b = false := by first | exact nomark _ | rfl) : PE X (.Compare a [op] [b] pos) (tO W X.K ρ μ o) :=
  ⟨fun pins s σ H Q I h => wpAny_Compare1 (binO ha hb I ho h) hm⟩
theorem ev_un {op : UnaryOp} (ha : PE X a (tV X.K ρ μ da μ1)) (ho : UnO X W (unaryOp op) da μ1 o) : PE X (.UnaryOp op a pos) (tO W X.K ρ μ o) :=
  ⟨fun pins s σ H Q I ⟨L, G, n, c⟩ => PyProof.Rows.UnaryOp_ (thn (ha.run pins s σ H (fun x H1 => ∃ L1 G1, Ok X.K L1 G1 H1 μ1 ∧ Rep X.K L1 G1 da x ∧ CO W X.K L1 G1 H1 σ o Q) I ⟨L, G, n, fun v L1 G1 H1 s1 o1 r1 => ⟨L1, G1, o1, r1, c.step s1⟩⟩) fun v s1 ⟨x, H1, I1, r1, L1, G1, o1, rr, c1⟩ =>
    ho pins s1 σ H1 x v Q L1 G1 I1 r1 o1 rr c1)⟩
end
/-! #### tests -/
theorem pe_nev : PE X e (fun _ _ _ => False) := ⟨fun _ _ _ _ _ _ z => z.elim⟩
/-- a test that raises -/
def tOT (W : WX) (K : PySem.W.Frag) (ρ : Env') (μ : List M) (C : Addr) (ns : List Str) (dx : List D) (μ' : List M) : TT := fun σ H _ => ∃ L G, Now K L G H μ ρ σ ∧ ComesX K L G H C ns dx μ' fun c d H' => W c d σ H'
section
variable {k k' : Bool}
/-- a test by its value -/
theorem et_val (h : PE X e (tV X.K ρ μ (.bl k) μ1)) (he : ∀ whole, isTrue e X.env whole = (do let v ← whole; standAt e.pos; holding [v] (truthy v)) := by intro _; rfl) : PT X e (tVT X.K ρ μ k μ1) :=
  pt_of (pt_val h he) fun σ H Q ⟨L, G, n, c⟩ => ⟨L, G, n, fun v L1 G1 H1 s1 o1 r1 => ⟨k, rep_bl.mp r1, c L1 G1 H1 s1 o1⟩⟩
theorem et_cmp {op : CmpOp} (ha : PE X a (tV X.K ρ μ da μ1)) (hb : PE X b (tV X.K ρ μ1 db μ2)) (ho : OpO X (fun _ _ _ _ => False) (compareOp op) da db μ2 (.ret (.bl k) μ3)) (hm : behindInMarks op b = false := by first | exact nomark _ | rfl) : PT X (.Compare a [op] [b] pos) (tVT X.K ρ μ k μ3) := by
  refine ⟨fun pins s σ H Q I h => ?_⟩
  obtain ⟨L, G, n, c⟩ := h
  refine wpAny_isTrue_Compare1 (thn (binO (Q := fun z H' => z = .bl k ∧ Q k H') ha hb I ho ⟨L, G, n, fun v L' G' H' s' o' r' => ⟨rep_bl.mp r', c L' G' H' s' o'⟩⟩) fun v s1 h1 => thn h1 fun u s2 h2 => thn h2 fun z s3 ⟨y, H3, I3, r3, e3, q3⟩ => ?_) hm
  subst e3
  cases r3
  exact wpAny_truthy_bool ⟨H3, I3, q3⟩
theorem et_not (h : PT X a (tVT X.K ρ μ k μ1)) : PT X (.UnaryOp .Not a pos) (tVT X.K ρ μ (!k) μ1) :=
  pt_of (pt_not h) fun σ H Q ⟨L, G, n, c⟩ => ⟨L, G, n, fun L1 G1 H1 s1 o1 => c L1 G1 H1 s1 o1⟩
variable {rest : List Expr}
/-- and, or as values (True, False) -/
theorem ev_one {op} {o : FO} (h : PE X a (tO W X.K ρ μ o)) : PE X (.BoolOp op [a] pos) (tO W X.K ρ μ o) := pe_one h
theorem ev_andT {o : FO} (h : PE X a (tV X.K ρ μ (.bl true) μ1)) (hr : PE X (.BoolOp .And (b :: rest) pos) (tO W X.K ρ μ1 o)) : PE X (.BoolOp .And (a :: b :: rest) pos) (tO W X.K ρ μ o) :=
  pe_of (pe_and h hr) fun σ H Q ⟨L, G, n, c⟩ => ⟨L, G, n, fun v L1 G1 H1 s1 o1 r1 => ⟨true, rep_bl.mp r1, iteT ⟨L1, G1, n.step s1 o1, CO.step c s1⟩⟩⟩
theorem ev_andF (h : PE X a (tV X.K ρ μ (.bl false) μ1)) : PE X (.BoolOp .And (a :: b :: rest) pos) (tV X.K ρ μ (.bl false) μ1) :=
  pe_of (pe_and h pe_nev) fun σ H Q ⟨L, G, n, c⟩ => ⟨L, G, n, fun v L1 G1 H1 s1 o1 r1 => ⟨false, rep_bl.mp r1, iteF (c _ L1 G1 H1 s1 o1 (rep_bl.mpr rfl))⟩⟩
theorem ev_orF {o : FO} (h : PE X a (tV X.K ρ μ (.bl false) μ1)) (hr : PE X (.BoolOp .Or (b :: rest) pos) (tO W X.K ρ μ1 o)) : PE X (.BoolOp .Or (a :: b :: rest) pos) (tO W X.K ρ μ o) :=
  pe_of (pe_or h hr) fun σ H Q ⟨L, G, n, c⟩ => ⟨L, G, n, fun v L1 G1 H1 s1 o1 r1 => ⟨false, rep_bl.mp r1, iteF ⟨L1, G1, n.step s1 o1, CO.step c s1⟩⟩⟩
theorem ev_orT (h : PE X a (tV X.K ρ μ (.bl true) μ1)) : PE X (.BoolOp .Or (a :: b :: rest) pos) (tV X.K ρ μ (.bl true) μ1) :=
  pe_of (pe_or h pe_nev) fun σ H Q ⟨L, G, n, c⟩ => ⟨L, G, n, fun v L1 G1 H1 s1 o1 r1 => ⟨true, rep_bl.mp r1, iteT (c _ L1 G1 H1 s1 o1 (rep_bl.mpr rfl))⟩⟩
theorem ev_and (h : PE X a (tV X.K ρ μ (.bl k) μ)) (hr : k = true → PE X (.BoolOp .And (b :: rest) pos) (tV X.K ρ μ (.bl k') μ)) : PE X (.BoolOp .And (a :: b :: rest) pos) (tV X.K ρ μ (.bl (k && k')) μ) := by
  cases k with
  | true => exact ev_andT (W := fun _ _ _ _ => False) (o := .ret _ _) h (hr rfl)
  | false => exact ev_andF h
theorem ev_or (h : PE X a (tV X.K ρ μ (.bl k) μ)) (hr : k = false → PE X (.BoolOp .Or (b :: rest) pos) (tV X.K ρ μ (.bl k') μ)) : PE X (.BoolOp .Or (a :: b :: rest) pos) (tV X.K ρ μ (.bl (k || k')) μ) := by
  cases k with
  | true => exact ev_orT h
  | false => exact ev_orF (W := fun _ _ _ _ => False) (o := .ret _ _) h (hr rfl)
theorem ev_not (h : PE X a (tV X.K ρ μ (.bl k) μ1)) : PE X (.UnaryOp .Not a pos) (tV X.K ρ μ (.bl (!k)) μ1) :=
  pe_of (pe_not h) fun σ H Q ⟨L, G, n, c⟩ => ⟨L, G, n, fun v L1 G1 H1 s1 o1 r1 => ⟨k, rep_bl.mp r1, c _ L1 G1 H1 s1 o1 (rep_bl.mpr rfl)⟩⟩
end
end
end PM

set_option Elab.async false
set_option linter.all false
set_option maxRecDepth 100000
namespace PM
open PySem L2

/-! ### any reading will do -/
def aT (X : Cx) (e : Expr) : TT := fun σ H Q => ∃ t, PT X e t ∧ t σ H Q
def aSs (X : Cx) (b : List Stmt) : TS := fun D σ H => ∃ t, PSs X b t ∧ t D σ H
def aG (X : Cx) (e : Expr) : TG := fun v σ H Q => ∃ t, PG X e t ∧ t v σ H Q
theorem aT_ok {X : Cx} {e : Expr} : PT X e (aT X e) := ⟨fun pins s σ H Q I ⟨t, p, q⟩ => p.run pins s σ H Q I q⟩
theorem aSs_ok {X : Cx} {b : List Stmt} : PSs X b (aSs X b) := ⟨fun pins s σ H D I ⟨t, p, q⟩ => p.run pins s σ H D I q⟩
theorem aG_ok {X : Cx} {e : Expr} : PG X e (aG X e) := ⟨fun pins s σ H v u Q I r ⟨t, p, q⟩ => p.run pins s σ H v u Q I r q⟩

/-! ### forgetting -/
def Sub : Env' → Env' → Prop
  | [], [] => True
  | none :: r, _ :: s => Sub r s
  | some d :: r, o :: s => o = some d ∧ Sub r s
  | _, _ => False
theorem Sub.refl : ∀ ρ : Env', Sub ρ ρ
  | [] => trivial
  | none :: r => Sub.refl r
  | some d :: r => ⟨rfl, Sub.refl r⟩
theorem Sub.len : ∀ {ρ ρ' : Env'}, Sub ρ ρ' → ρ.length = ρ'.length
  | [], [], _ => rfl
  | none :: r, _ :: s, h => by simp [Sub.len (ρ := r) (ρ' := s) h]
  | some d :: r, o :: s, h => by simp [Sub.len (ρ := r) (ρ' := s) h.2]
  | [], _ :: _, h => h.elim
  | none :: _, [], h => h.elim
  | some _ :: _, [], h => h.elim
theorem Sub.at_ : ∀ {ρ ρ' : Env'}, Sub ρ ρ' → ∀ (i : Nat) d, ρ[i]? = some (some d) → ρ'[i]? = some (some d)
  | [], [], _, i, d, e => by simp at e
  | none :: r, _ :: s, h, 0, d, e => by simp at e
  | none :: r, _ :: s, h, i + 1, d, e => by simpa using Sub.at_ (ρ := r) (ρ' := s) h i d (by simpa using e)
  | some c :: r, o :: s, h, 0, d, e => by
    simp only [List.getElem?_cons_zero, Option.some.injEq] at e
    subst e
    simp [h.1]
  | some c :: r, o :: s, h, i + 1, d, e => by simpa using Sub.at_ (ρ := r) (ρ' := s) h.2 i d (by simpa using e)
  | [], _ :: _, h, _, _, _ => h.elim
  | none :: _, [], h, _, _, _ => h.elim
  | some _ :: _, [], h, _, _, _ => h.elim
theorem Now.forget {K : PySem.W.Frag} {L : List Addr} {G H : Hp} {μ : List M} {ρ ρ' : Env'} {σ : St} (n : Now K L G H μ ρ σ) (s : Sub ρ' ρ) : Now K L G H μ ρ' σ := ⟨n.ok, n.env.forget s.len s.at_⟩

/-! ### what a body needs of its place -/
/-- texts of containers that are being made: none from level 60 on -/
def Gr (k : Nat) (A : Around) : Prop := ∃ g, A.guards = some g ∧ (60 ≤ k → g = [])
theorem Gr.mono {j k : Nat} {A : Around} (h : Gr k A) (hj : j ≤ k) : Gr j A := let ⟨g, e, z⟩ := h; ⟨g, e, fun q => z (Nat.le_trans q hj)⟩
theorem Gr.none {k : Nat} {A : Around} (h : Gr k A) (hk : 60 ≤ k) : A.guards = some [] := let ⟨_, e, z⟩ := h; e.trans (congrArg some (z hk))
theorem Gr.of {k : Nat} {A : Around} (h : A.guards = some []) : Gr k A := ⟨[], h, fun _ => rfl⟩
structure Gd (X : Cx) (W : WX) (k : Nat) : Prop where
  calm : X.calm = true
  nd : X.N.Nodup
  tk : Takes X W
  po : PassesOwn (model X.prog X.w) X.A X.env X.xe
  hr : Room k X.A
  gr : Gr k X.A

/-! ### targets -/
def gD (K : PySem.W.Frag) (μ : List M) (d : D) (ρ ρ' : Env') : TG := fun v σ H Q => ∃ L G, Now K L G H μ ρ σ ∧ Rep K L G d v ∧ Ends' K L G H ρ' μ Q
def gDs (K : PySem.W.Frag) (μ : List M) (ds : List D) (ρ ρ' : Env') : TGs := fun vs σ H Q => ∃ L G, Now K L G H μ ρ σ ∧ Reps K L G ds vs ∧ Ends' K L G H ρ' μ Q
inductive EvWh (X : Cx) (W : WX) (c : Expr) (body : List Stmt) : Nat → Env' → List M → Out → Prop
  | stop {ρ : Env'} {ρ' : Env'} {μ : List M} {μ1 : List M} : PT X c (tVT X.K ρ μ false μ1) → Sub ρ' ρ → EvWh X W c body 0 ρ μ (.next ρ' μ1)
  | next {n : Nat} {ρ : Env'} {μ : List M} {μ1 : List M} {ρ2 : Env'} {μ2 : List M} {q : Out} : PT X c (tVT X.K ρ μ true μ1) → PSs X body (tS W X.K ρ μ1 (.next ρ2 μ2)) → EvWh X W c body n ρ2 μ2 q → EvWh X W c body (n + 1) ρ μ q
  | cont {n : Nat} {ρ : Env'} {μ : List M} {μ1 : List M} {ρ2 : Env'} {μ2 : List M} {q : Out} : PT X c (tVT X.K ρ μ true μ1) → PSs X body (tS W X.K ρ μ1 (.cont ρ2 μ2)) → EvWh X W c body n ρ2 μ2 q → EvWh X W c body (n + 1) ρ μ q
  | brk {ρ : Env'} {μ : List M} {μ1 : List M} {ρ2 : Env'} {μ2 : List M} : PT X c (tVT X.K ρ μ true μ1) → PSs X body (tS W X.K ρ μ1 (.brk ρ2 μ2)) → EvWh X W c body 0 ρ μ (.next ρ2 μ2)
  | ret {ρ : Env'} {μ : List M} {μ1 : List M} {d : D} {μ2 : List M} : PT X c (tVT X.K ρ μ true μ1) → PSs X body (tS W X.K ρ μ1 (.ret d μ2)) → EvWh X W c body 0 ρ μ (.ret d μ2)
  | exc {ρ : Env'} {μ : List M} {μ1 : List M} {C : Addr} {ns : List Str} {ds : List D} {ρ2 : Env'} {μ2 : List M} : PT X c (tVT X.K ρ μ true μ1) → PSs X body (tS W X.K ρ μ1 (.exc C ns ds ρ2 μ2)) → EvWh X W c body 0 ρ μ (.exc C ns ds ρ2 μ2)
inductive EvFor (X : Cx) (W : WX) (tg : Expr) (body : List Stmt) : List D → Env' → List M → Out → Prop
  | nil {ρ : Env'} {ρ' : Env'} {μ : List M} : Sub ρ' ρ → EvFor X W tg body [] ρ μ (.next ρ' μ)
  | next {d : D} {ds : List D} {ρ : Env'} {ρ1 : Env'} {μ : List M} {ρ2 : Env'} {μ2 : List M} {q : Out} : PG X tg (gD X.K μ d ρ ρ1) → PSs X body (tS W X.K ρ1 μ (.next ρ2 μ2)) → EvFor X W tg body ds ρ2 μ2 q → EvFor X W tg body (d :: ds) ρ μ q
  | cont {d : D} {ds : List D} {ρ : Env'} {ρ1 : Env'} {μ : List M} {ρ2 : Env'} {μ2 : List M} {q : Out} : PG X tg (gD X.K μ d ρ ρ1) → PSs X body (tS W X.K ρ1 μ (.cont ρ2 μ2)) → EvFor X W tg body ds ρ2 μ2 q → EvFor X W tg body (d :: ds) ρ μ q
  | brk {d : D} {ds : List D} {ρ : Env'} {ρ1 : Env'} {μ : List M} {ρ2 : Env'} {μ2 : List M} : PG X tg (gD X.K μ d ρ ρ1) → PSs X body (tS W X.K ρ1 μ (.brk ρ2 μ2)) → EvFor X W tg body (d :: ds) ρ μ (.next ρ2 μ2)
  | ret {d : D} {ds : List D} {ρ : Env'} {ρ1 : Env'} {μ : List M} {e : D} {μ2 : List M} : PG X tg (gD X.K μ d ρ ρ1) → PSs X body (tS W X.K ρ1 μ (.ret e μ2)) → EvFor X W tg body (d :: ds) ρ μ (.ret e μ2)
  | exc {d : D} {ds : List D} {ρ : Env'} {ρ1 : Env'} {μ : List M} {C : Addr} {ns : List Str} {es : List D} {ρ2 : Env'} {μ2 : List M} : PG X tg (gD X.K μ d ρ ρ1) → PSs X body (tS W X.K ρ1 μ (.exc C ns es ρ2 μ2)) → EvFor X W tg body (d :: ds) ρ μ (.exc C ns es ρ2 μ2)
section
variable {X : Cx} {W : WX} {k : Nat} {pos : Pos} {e : Expr} {es : List Expr} {ρ ρ1 ρ2 : Env'} {μ μ1 μ2 : List M} {d : D} {ds : List D} {x : Str} {o : FO}
theorem pg_of {t t' : TG} (h : PG X e t) (w : ∀ v σ H Q, t' v σ H Q → t v σ H Q) : PG X e t' := ⟨fun pins s σ H v u Q I r q => h.run pins s σ H v u Q I r (w _ _ _ _ q)⟩
theorem pgs_of {t t' : TGs} (h : PGs X es t) (w : ∀ v σ H Q, t' v σ H Q → t v σ H Q) : PGs X es t' := ⟨fun pins s σ H v u Q I r q => h.run pins s σ H v u Q I r (w _ _ _ _ q)⟩
theorem eg_name (i : Nat) (nd : X.N.Nodup) (hi : X.N[i]? = some x := by rfl) (hx : Loc X.env.scope x := by first | exact Or.inl rfl | exact Or.inr rfl) (hf : X.fn x = true ∨ X.env.scope.names.lookup x = some .local := by first | exact .inl rfl | exact .inr rfl | assumption) :
    PG X (.Name x pos) (gD X.K μ d ρ (ρ.set i (some d))) :=
  pg_of (pg_name nd hi hx hf) fun v σ H Q ⟨L, G, n, r, c⟩ => c _ L G H (.refl _ _ _) ⟨n.ok, n.env.set r i⟩
/-! ### statements -/
def FO.drop (ρ : Env') : FO → Out
  | .ret _ μ => .next ρ μ
  | .exc C ns ds μ => .exc C ns ds ρ μ
def FO.set (ρ : Env') (i : Nat) : FO → Out
  | .ret d μ => .next (ρ.set i (some d)) μ
  | .exc C ns ds μ => .exc C ns ds ρ μ
def FO.out (ρ : Env') : FO → Out
  | .ret d μ => .ret d μ
  | .exc C ns ds μ => .exc C ns ds ρ μ
theorem post_exc {L : List Addr} {G H : Hp} {σ : St} {D : Ends} {C : Addr} {ns : List Str} (n : Now X.K L G H μ ρ σ) (c : Post W X.K L G H D (.exc C ns ds ρ μ1)) : ComesX X.K L G H C ns ds μ1 fun c d H' => W c d σ H' :=
  fun dx L' G' H' s o x => c σ dx L' G' H' s (n.step s o) x
theorem es_set (i : Nat) (nd : X.N.Nodup) (h : PE X e (tO W X.K ρ μ o)) {pos' : Pos} (hi : X.N[i]? = some x := by rfl) (hx : Loc X.env.scope x := by first | exact Or.inl rfl | exact Or.inr rfl) (hs : swapsWith e (some (.Name x pos')) pos.line X.env = pure false := by rfl)
    (hf : X.fn x = true ∨ X.env.scope.names.lookup x = some .local := by first | exact .inl rfl | exact .inr rfl | assumption) : PS X (.Assign [.Name x pos'] e pos) (tS W X.K ρ μ (o.set ρ i)) :=
  ps_of (ps_set nd hi hx h hs hf) fun D σ H ⟨L, G, n, c⟩ => ⟨L, G, n, by
    cases o with
    | ret d μ' => exact fun v L' G' H' s' o' r' => c _ L' G' H' s' ⟨o', (n.env.step s').set r' i⟩
    | exc C ns ds μ' => exact post_exc n c⟩
/-- a, b = x, y -/
theorem es_par (i j : Nat) {y : Str} {a b : Expr} {px py pt : Pos} {kt k2 pt2} {da db : D} (g : Gd X W k) (ha : PA X [a, b] (tVA X.K ρ μ [da, db] μ1)) (hi : X.N[i]? = some x := by rfl) (hj : X.N[j]? = some y := by rfl) (hij : i ≠ j := by decide)
    (hx : X.env.scope.names.lookup x = some .local := by rfl) (hy : X.env.scope.names.lookup y = some .local := by rfl)
    (hw : swappedStores [.Tuple [.Name x px, .Name y py] kt pt] (.Tuple [a, b] k2 pt2) X.env = pure (some [x, y]) := by rfl)
    (hs : swapsWithSole [.Tuple [.Name x px, .Name y py] kt pt] (.Tuple [a, b] k2 pt2) pos.line X.env = pure false := by rfl) :
    PS X (.Assign [.Tuple [.Name x px, .Name y py] kt pt] (.Tuple [a, b] k2 pt2) pos) (tS W X.K ρ μ (.next ((ρ.set i (some da)).set j (some db)) μ1)) :=
  ps_of (ps_par g.calm g.nd hi hj hij hx hy ha hw hs) fun D σ H ⟨L, G, n, c⟩ => ⟨L, G, n, fun vs L' G' H' s' o' r' => by
    obtain ⟨v, r, e, r1, r2⟩ := r'.inv_cons
    obtain ⟨w, r, e', r3, r4⟩ := r2.inv_cons
    have e'' := r4.inv_nil
    subst e e' e''
    exact ⟨v, w, rfl, c _ L' G' H' s' ⟨o', ((n.env.step s').set r1 i).set r3 j⟩⟩⟩
theorem es_ret (h : PE X e (tO W X.K ρ μ o)) : PS X (.Return (some e) pos) (tS W X.K ρ μ (o.out ρ)) :=
  ps_of (ps_ret h) fun D σ H ⟨L, G, n, c⟩ => ⟨L, G, n, by
    cases o with
    | ret d μ' => exact c
    | exc C ns ds μ' => exact post_exc n c⟩
theorem es_pass : PS X (.Pass pos) (tS W X.K ρ μ (.next ρ μ)) := ps_of ps_pass fun D σ H ⟨L, G, n, c⟩ => c _ L G H (.refl _ _ _) n
variable {st : Stmt} {rest A B : List Stmt} {q : Out} {c : Expr} {b : Bool}
theorem es_if (h : PT X c (tVT X.K ρ μ b μ1)) (h1 : b = true → PSs X A (tS W X.K ρ μ1 q)) (h2 : b = false → PSs X B (tS W X.K ρ μ1 q)) : PS X (.If c A B pos) (tS W X.K ρ μ q) := by
  cases b with
  | true => exact ps_of (ps_if h (h1 rfl) pss_never) fun D σ H ⟨L, G, n, c⟩ => ⟨L, G, n, fun L1 G1 H1 s1 o1 => iteT ⟨L1, G1, n.step s1 o1, Post.step c s1⟩⟩
  | false => exact ps_of (ps_if h pss_never (h2 rfl)) fun D σ H ⟨L, G, n, c⟩ => ⟨L, G, n, fun L1 G1 H1 s1 o1 => iteF ⟨L1, G1, n.step s1 o1, Post.step c s1⟩⟩
theorem ess_nil : PSs X [] (tS W X.K ρ μ (.next ρ μ)) := pss_of pss_nil fun D σ H ⟨L, G, n, c⟩ => c _ L G H (.refl _ _ _) n
theorem ess_one (h : PS X st (tS W X.K ρ μ q)) : PSs X [st] (tS W X.K ρ μ q) := pss_one h
theorem ess_cons (h1 : PS X st (tS W X.K ρ μ (.next ρ1 μ1))) (h2 : PSs X rest (tS W X.K ρ1 μ1 q)) : PSs X (st :: rest) (tS W X.K ρ μ q) :=
  pss_of (pss_cons h1 h2) fun D σ H ⟨L, G, n, c⟩ => ⟨L, G, n, fun σ' L' G' H' s' n' => ⟨L', G', n', Post.step c s'⟩⟩
/-- a statement that does not go on -/
def Out.stops : Out → Prop
  | .next _ _ => False
  | _ => True
theorem ess_stop (h1 : PS X st (tS W X.K ρ μ q)) (hq : q.stops) : PSs X (st :: rest) (tS W X.K ρ μ q) :=
  pss_of (pss_cons h1 pss_never) fun D σ H ⟨L, G, n, c⟩ => ⟨L, G, n, by
    cases q with
    | next ρ μ => exact hq.elim
    | ret d μ => exact c
    | brk ρ μ => exact c
    | cont ρ μ => exact c
    | exc C ns ds ρ μ => exact c⟩
theorem es_eq {q' : Out} (h : PS X st (tS W X.K ρ μ q)) (e : q = q') : PS X st (tS W X.K ρ μ q') := e ▸ h
/-! ### while -/
theorem es_while {body : List Stmt} {n : Nat} (g : Gd X W k) (h : EvWh X W c body n ρ μ q) : PS X (.While c body [] pos) (tS W X.K ρ μ q) := by
  refine ps_of (ps_while g.po aT_ok aSs_ok) fun D σ H ⟨L, G, nw, cc⟩ => ?_
  refine ⟨fun m σ' H' => ∃ ρ' μ' L' G', EvWh X W c body m ρ' μ' q ∧ Now X.K L' G' H' μ' ρ' σ' ∧ Post W X.K L' G' H' D q, ⟨n, ρ, μ, L, G, h, nw, cc⟩, ?_⟩
  rintro m σ1 H1 ⟨ρ1, μ1, L1, G1, h1, n1, c1⟩
  cases h1 with
  | stop ht hsub => exact ⟨_, ht, L1, G1, n1, fun L2 G2 H2 s2 o2 => iteF (c1 _ L2 G2 H2 s2 ((n1.step s2 o2).forget hsub))⟩
  | next ht hb hn =>
    rename_i m μ1' ρ2 μ2
    refine ⟨_, ht, L1, G1, n1, fun L2 G2 H2 s2 o2 => iteT ⟨fun σ3 H3 => ∃ L3 G3, Now X.K L3 G3 H3 μ2 ρ2 σ3 ∧ Post W X.K L3 G3 H3 D q, fun σ3 H3 ⟨L3, G3, n3, c3⟩ => ⟨m, Nat.lt_succ_self m, ρ2, μ2, L3, G3, hn, n3, c3⟩, _, hb, L2, G2, n1.step s2 o2, ?_⟩⟩
    exact fun σ3 L3 G3 H3 s3 n3 => ⟨L3, G3, n3, Post.step c1 (s2.trans s3)⟩
  | cont ht hb hn =>
    rename_i m μ1' ρ2 μ2
    refine ⟨_, ht, L1, G1, n1, fun L2 G2 H2 s2 o2 => iteT ⟨fun σ3 H3 => ∃ L3 G3, Now X.K L3 G3 H3 μ2 ρ2 σ3 ∧ Post W X.K L3 G3 H3 D q, fun σ3 H3 ⟨L3, G3, n3, c3⟩ => ⟨m, Nat.lt_succ_self m, ρ2, μ2, L3, G3, hn, n3, c3⟩, _, hb, L2, G2, n1.step s2 o2, ?_⟩⟩
    exact fun σ3 L3 G3 H3 s3 n3 => ⟨L3, G3, n3, Post.step c1 (s2.trans s3)⟩
  | brk ht hb => exact ⟨_, ht, L1, G1, n1, fun L2 G2 H2 s2 o2 => iteT ⟨fun _ _ => False, fun _ _ z => z.elim, _, hb, L2, G2, n1.step s2 o2, Ends'.step c1 s2⟩⟩
  | ret ht hb => exact ⟨_, ht, L1, G1, n1, fun L2 G2 H2 s2 o2 => iteT ⟨fun _ _ => False, fun _ _ z => z.elim, _, hb, L2, G2, n1.step s2 o2, Comes.step c1 s2⟩⟩
  | exc ht hb => exact ⟨_, ht, L1, G1, n1, fun L2 G2 H2 s2 o2 => iteT ⟨fun _ _ => False, fun _ _ z => z.elim, _, hb, L2, G2, n1.step s2 o2, Post.step c1 s2⟩⟩

/-! ### for -/
/-- an iterator that gives ds, one after another -/
structure JOk (K : PySem.W.Frag) (J : It) (L : List Addr) (G : Hp) (ds : List D) : Prop where
  go : ∀ L2 G2 H2 μ2 (i : Nat) d, Pre L L2 → Same G G2 → Ok K L2 G2 H2 μ2 → ds[i]? = some d → J.go i H2 ∧ ∀ x H3, J.yld i H2 x H3 → ∃ G3, Step L2 G2 H2 L2 G3 H3 ∧ Ok K L2 G3 H3 μ2 ∧ Rep K L2 G3 d x
  stop : ∀ L2 G2 H2 μ2, Pre L L2 → Same G G2 → Ok K L2 G2 H2 μ2 → J.stop ds.length H2
def iD (K : PySem.W.Frag) (ρ : Env') (μ : List M) (ds : List D) (μ' : List M) : TI := fun σ H R => ∃ L G, Now K L G H μ ρ σ ∧ ∀ J L' G' H', Step L G H L' G' H' → Ok K L' G' H' μ' → JOk K J L' G' ds → R J H'
theorem pi_of {tg : Expr} {t t' : TI} (h : PI X tg e t) (w : ∀ σ H R, t' σ H R → t σ H R) : PI X tg e t' := ⟨fun pins s σ H R I q => h.run pins s σ H R I (w _ _ _ q)⟩
theorem drop_cons {α : Type} {l : List α} {i : Nat} {x : α} {r : List α} (h : l.drop i = x :: r) : l[i]? = some x ∧ l.drop (i + 1) = r := by
  have hi : i < l.length := by
    by_cases z : i < l.length
    · exact z
    · rw [List.drop_eq_nil_of_le (by omega)] at h
      cases h
  rw [List.drop_eq_getElem_cons hi] at h
  injection h with h1 h2
  exact ⟨by rw [List.getElem?_eq_getElem hi, h1], h2⟩
end
end PM

set_option Elab.async false
set_option linter.all false
set_option maxRecDepth 100000
namespace PM
open PySem L2

/-! ### locs that are there -/
section
variable {K : PySem.W.Frag} {L : List Addr} {G H : Hp}
mutual
theorem Rep.lo : ∀ {d : D} {v : V}, Rep K L G d v → D.lo L.length d = true
  | .non, _, _ => by simp only [D.lo]
  | .bl _, _, _ => by simp only [D.lo]
  | .int _, _, _ => by simp only [D.lo]
  | .str _, _, _ => by simp only [D.lo]
  | .ref _, _, _ => by simp only [D.lo]
  | .ty _, _, _ => by simp only [D.lo]
  | .loc m, _, h => by
    simp only [Rep] at h
    obtain ⟨a, e, _⟩ := h
    simp only [D.lo, decide_eq_true_eq]
    exact (List.getElem?_eq_some_iff.mp e).1
  | .tup ds, _, h => by
    simp only [Rep] at h
    obtain ⟨a, vs, e, q, r⟩ := h
    simp only [D.lo]
    exact Reps.los r
  | .lst ds, _, h => by
    simp only [Rep] at h
    obtain ⟨a, vs, e, q, r⟩ := h
    simp only [D.lo]
    exact Reps.los r
  | .scr ds, _, h => by
    simp only [Rep] at h
    obtain ⟨a, vs, e, q, r⟩ := h
    simp only [D.lo]
    exact Reps.los r
  | .exn a dd ns ds, _, h => by
    simp only [Rep] at h
    obtain ⟨vs, e, q, z, r⟩ := h
    simp only [D.lo]
    exact Reps.los r
  | .obj C ns ds, _, h => by
    simp only [Rep] at h
    obtain ⟨a, dx, vs, e, q, z, r⟩ := h
    simp only [D.lo]
    exact Reps.los r
theorem Reps.los : ∀ {ds : List D} {vs : List V}, Reps K L G ds vs → D.los L.length ds = true
  | [], _, _ => by simp only [D.los]
  | d :: ds, _, h => by
    simp only [Reps] at h
    obtain ⟨v, r, e, h1, h2⟩ := h
    simp only [D.los, Bool.and_eq_true]
    exact ⟨Rep.lo h1, Reps.los h2⟩
end
theorem MAt.lo {a : Addr} {m : M} (h : MAt K L G H a m) : m.lo L.length = true := by
  cases m with
  | lst ds => obtain ⟨vs, e, r⟩ := h; exact r.los
  | ins C ns ds => obtain ⟨dx, vs, e, z, r⟩ := h; exact r.los
  | gone => rfl
  | box => rfl
theorem Ok.lo {μ : List M} (h : Ok K L G H μ) {i : Nat} {m : M} (e : μ[i]? = some m) : m.lo μ.length = true := by
  have hi : i < L.length := by rw [h.len]; exact (List.getElem?_eq_some_iff.mp e).1
  have := (h.at_ i L[i] m (List.getElem?_eq_getElem hi) e).lo
  rw [h.len] at this
  exact this
end
/-- what the store holds behind a call has no places that the call has made -/
def Lows (μ μ2 : List M) : Prop := μ2.length = μ.length ∧ ∀ (i : Nat) m, μ2[i]? = some m → μ[i]? = some m ∨ m.lo μ.length = true
theorem Lows.refl (μ : List M) : Lows μ μ := ⟨rfl, fun _ _ e => .inl e⟩
theorem Lows.set (μ : List M) (i : Nat) {m : M} (h : m.lo μ.length = true) : Lows μ (μ.set i m) := ⟨by simp, fun j x e => by
  by_cases hj : i = j
  · subst hj
    by_cases hi : i < μ.length
    · rw [List.getElem?_set_self hi] at e
      cases e
      exact .inr h
    · rw [List.getElem?_eq_none (by simpa using hi)] at e
      cases e
  · rw [List.getElem?_set_ne hj] at e
    exact .inl e⟩
theorem Lows.all {K : PySem.W.Frag} {L : List Addr} {G H : Hp} {μ μ2 : List M} (l : Lows μ μ2) (o : Ok K L G H μ) : μ2.all (M.lo μ2.length) = true := by
  rw [List.all_eq_true]
  intro m hm
  obtain ⟨i, hi⟩ := List.mem_iff_getElem?.mp hm
  rw [l.1]
  rcases l.2 i m hi with e | e
  · exact o.lo e
  · exact e

/-! ### a def's promise -/
abbrev Rl := List D → List M → FO → Prop
def Got (K : PySem.W.Frag) (L : List Addr) (G H : Hp) (Q : VK) (E : XK) : FO → Prop
  | .ret d μ' => Comes K L G H d μ' Q
  | .exc C ns ds' μ' => ComesX K L G H C ns ds' μ' E
def spR (K : PySem.W.Frag) (R : Rl) : Sp := fun vs H Q E => ∃ L G ds μ o, Ok K L G H μ ∧ Reps K L G ds vs ∧ R ds μ o ∧ Got K L G H Q E o
/-- how a body's end is the def's end (μ: the store at the entry) -/
inductive Leads (μ : List M) : FO → Out → Prop
  | ret0 {d : D} {μ2 : List M} : Leads μ (.ret d μ2) (.ret d μ2)
  | next0 {ρ : Env'} {μ2 : List M} : Leads μ (.ret .non μ2) (.next ρ μ2)
  | exc0 {C : Addr} {ns : List Str} {ds : List D} {ρ : Env'} {μ2 : List M} : Leads μ (.exc C ns ds μ2) (.exc C ns ds ρ μ2)
  | ret {d : D} {μ2 ν : List M} : Lows μ μ2 → D.lo μ.length d = true → Leads μ (.ret d μ2) (.ret d (μ2 ++ ν))
  | next {ρ : Env'} {μ2 ν : List M} : Lows μ μ2 → Leads μ (.ret .non μ2) (.next ρ (μ2 ++ ν))
  | exc {C : Addr} {ns : List Str} {ds : List D} {ρ : Env'} {μ2 ν : List M} : Lows μ μ2 → D.los μ.length ds = true → Leads μ (.exc C ns ds μ2) (.exc C ns ds ρ (μ2 ++ ν))
  /-- a list of its own is handed back: nobody else has it -/
  | retL {ds : List D} {μ2 ν : List M} {n : Nat} : Lows μ μ2 → D.los μ.length ds = true → μ.length ≤ n → (μ2 ++ ν)[n]? = some (.lst ds) → Leads μ (.ret (.lst ds) μ2) (.ret (.loc n) (μ2 ++ ν))
def startD (N : List Str) (ds : List D) : Env' := ds.map some ++ List.replicate (N.length - ds.length) none
theorem start_rep {K : PySem.W.Frag} {L : List Addr} {G : Hp} {N : List Str} {ds : List D} {vs : List V} (r : Reps K L G ds vs) : RepS K L G (startD N ds) (start N vs) := by
  have hl := r.length
  refine ⟨by simp [startD, L2.start, hl], fun i d e => ?_⟩
  unfold startD at e
  unfold L2.start
  by_cases hi : i < ds.length
  · rw [List.getElem?_append_left (by simpa using hi)] at e
    rw [List.getElem?_append_left (by simpa [hl] using hi)]
    rw [List.getElem?_map] at e ⊢
    cases q : ds[i]? with
    | none => rw [q] at e; cases e
    | some x =>
      rw [q] at e
      simp only [Option.map_some, Option.some.injEq] at e
      subst e
      obtain ⟨v, h1, h2⟩ := r.get q
      exact ⟨v, by rw [h1]; rfl, h2⟩
  · rw [List.getElem?_append_right (by simpa using hi)] at e
    rw [List.getElem?_replicate] at e
    split at e <;> cases e
section
variable {P : Program} {w : World} {K : PySem.W.Frag} {mg : Str → Option Value} {base : Heap}
theorem xd_cut {L L' : List Addr} {G H : Hp} {dx : Option Addr} {ns : List Str} {ds : List D} {n : Nat} (x : XdAt K L G H dx ns ds) (h : D.los n ds = true) : XdAt K (L.take n) G H dx ns ds := by
  refine ⟨x.1, ?_⟩
  rcases x.2 with z | ⟨a, vs, e1, e2, r⟩
  · exact .inl z
  · exact .inr ⟨a, vs, e1, e2, r.cut h⟩
/-- the end of a body as its caller sees it -/
theorem leads_post {L : List Addr} {G H : Hp} {μ : List M} {o : FO} {q : Out} {Q : VK} {E : XK} (h : Leads μ o q) (ok : Ok K L G H μ)
    (c : Got K L G H Q E o) : Post (fun c d _ H => E c d H) K L G H { nx := fun _ H' => Q .non H', rt := Q } q := by
  have cut : ∀ {μ2 : List M}, Lows μ μ2 → ∀ {L' : List Addr} {G' H' : Hp} {ν : List M}, Step L G H L' G' H' → Ok K L' G' H' (μ2 ++ ν) → Step L G H (L'.take μ2.length) G' H' ∧ Ok K (L'.take μ2.length) G' H' μ2 := by
    intro μ2 l L' G' H' ν s o
    exact ⟨s.cut (by rw [ok.len, l.1]; exact Nat.le_refl _), o.cut (l.all ok)⟩
  cases h with
  | ret0 => exact c
  | next0 => exact fun σ' L' G' H' s n => c _ L' G' H' s n.ok (rep_non.mpr rfl)
  | exc0 => exact fun σ' dx L' G' H' s n x => c dx L' G' H' s n.ok x
  | ret l hd =>
    intro v L' G' H' s o' r
    obtain ⟨s', o''⟩ := cut l s o'
    exact c v _ G' H' s' o'' (r.cut (by rw [l.1]; exact hd))
  | next l =>
    intro σ' L' G' H' s n
    obtain ⟨s', o''⟩ := cut l s n.ok
    exact c _ _ G' H' s' o'' (rep_non.mpr rfl)
  | exc l hd =>
    intro σ' dx L' G' H' s n x
    obtain ⟨s', o''⟩ := cut l s n.ok
    exact c dx _ G' H' s' o'' (xd_cut (L' := L') x (by rw [l.1]; exact hd))
  | retL l hd hn he =>
    rename_i ds μ2 ν n
    intro v L' G' H' s o' r
    obtain ⟨s', o''⟩ := cut l s o'
    obtain ⟨a, ea, ev⟩ := rep_loc.mp r
    obtain ⟨vs, eh, rv⟩ := o'.at_ n a _ ea he
    have hna : a ∉ L'.take μ2.length := fun z => by
      obtain ⟨j, hj, ej⟩ := List.getElem_of_mem z
      rw [List.length_take] at hj
      rw [List.getElem_take] at ej
      obtain ⟨h1, h2⟩ := List.getElem?_eq_some_iff.mp ea
      have := (List.getElem_inj o'.nd).mp (ej.trans h2.symm)
      rw [l.1] at hj
      omega
    obtain ⟨o3, sg⟩ := o''.tell (p := a) (o := .lst vs) eh hna
    have h0 : H a = none := by
      rcases s.fr a (List.mem_of_getElem? ea) with z | z
      · obtain ⟨j, hj, ej⟩ := List.getElem_of_mem z
        have e1 := s.pre j a (by rw [List.getElem?_eq_getElem hj, ej])
        obtain ⟨h1, h2⟩ := List.getElem?_eq_some_iff.mp ea
        obtain ⟨h3, h4⟩ := List.getElem?_eq_some_iff.mp e1
        have := (List.getElem_inj o'.nd).mp (h4.trans h2.symm)
        rw [ok.len] at hj
        omega
      · exact z
    refine c v _ _ H' (s'.tell h0 sg) o3 (rep_lst.mpr ⟨a, vs, ev, upd_same, ?_⟩)
    exact ((rv.cut (n := μ2.length) (by rw [l.1]; exact hd)).mono (.refl _) sg)
/-- a def keeps its promise, where no text of a container is being made -/
structure FnG (P : Program) (w : World) (K : PySem.W.Frag) (mg : Str → Option Value) (base : Heap) (k : Nat) (f : Addr) (fd : FuncData) (ps : List Str) (sp : Sp) : Prop where
  len : ∀ vs H Q E, sp vs H Q E → vs.length = ps.length
  run : ∀ (A : Around) (outer : List Env) (s : Shared) (H : Hp) (args : Args) (us : List Value) (vs : List V) (Q : VK) (E : XK), Room k A → Gr k A → Env0 P w K mg base A outer s H → BindsTo s fd args (ps.zip us) → Vals vs us → sp vs H Q E →
    codeAny (model P w) A (.call (.ref f) args) (CR (L2.CX P w) outer P w H s Q E) s
/-- a def of the text as it stands behind the top; dvs: its defaults -/
abbrev FunS (K : PySem.W.Frag) (x qual : Str) (st : Stmt) (dvs : List V) (f : Addr) (fd : FuncData) : Prop := FunD K x qual (defArgs st) (defBody st) (defScope st) dvs [] f fd
/-- THE RULE for a def -/
theorem fnR {x qual : Str} {st : Stmt} {dvs : List V} {f : Addr} {fd : FuncData} {N ps : List Str} {k : Nat} {R : Rl} (F : FunS K x qual st dvs f fd) (S : FnScope N ps (defScope st)) (len : ∀ ds μ o, R ds μ o → ds.length = ps.length)
    (body : ∀ (cdv : Value) (A : Around) (outer : List Env) (s : Shared) (H : Hp) (E : XK), Gd (cxOf (L2.CX P w) P w K mg base N qual (defScope st) f cdv A outer s H E) (fun c d _ H => E c d H) k →
      ∀ ds μ o, R ds μ o → ∃ q, Leads μ o q ∧ PSs (cxOf (L2.CX P w) P w K mg base N qual (defScope st) f cdv A outer s H E) (defBody st) (tS (fun c d _ H => E c d H) K (startD N ds) μ q)) :
    FnG P w K mg base (k + 1) f fd ps (spR K R) := by
  have ln : ∀ vs H Q E, spR K R vs H Q E → vs.length = ps.length := fun vs H Q E ⟨L, G, ds, μ, o, _, r, hR, _⟩ => r.length.trans (len ds μ o hR)
  refine ⟨ln, fun A outer s H args us vs Q E room gr en bnd rel hsp => ?_⟩
  obtain ⟨oc, od, dV, kV, doc, pm, an, cdv, ct, osl, rfl, look, hcode, _, _⟩ := F.ex
  have kept : ∀ b o, base.get? b = some o → s.heap.get? b = some o := fun b o e => (en.bs b o e).1
  have kin : K.In s.heap := en.mod.kin.keeps kept
  have kinds : ∀ y ∈ ps.zip us, (defScope st).names.lookup y.1 = some .local ∨ ((defScope st).names.lookup y.1 = some .cell ∧ ((cellsFrom (s.heap.objs.size + 1) (defScope st).names []).lookup y.1).isSome = true) := by
    rintro ⟨n, v⟩ hy
    exact (S.par n (List.of_mem_zip hy).1).imp (fun q => q) fun q => ⟨q, PySem.W.cellsFrom_some _ _ _ (.inl q)⟩
  refine codeAny_call_function room.depth (kin _ _ look) rfl S.co S.gen rfl (PySem.W.codeRec_of kin hcode) (bnd _ _ _ _ (wpAny_newFunctionEnv_cells S.kind kinds fun env he s1 ent => ?_))
  subst he
  refine ⟨(en.mod.nolimit.keeps kept).keeps ent.toInCall.keep, codeAny_func ?_⟩
  have hlen := ln _ _ _ _ hsp
  obtain ⟨L, G, ds, μ, o, ok, rr, hR, c⟩ := hsp
  obtain ⟨q, hlq, ht⟩ := body cdv A outer s H E ⟨rfl, S.nd, takes_of rfl rfl rfl rfl, passes_of rfl, room.deeper _, gr.mono (Nat.le_succ _)⟩ ds μ o hR
  have inv : Inv (cxOf (L2.CX P w) P w K mg base N qual (defScope st) f cdv A outer s H E) [] (L2.start N vs) H s1 := inv_start S room.hd en hlen rel ent
  refine wpAny_mono (ht.run [] s1 (L2.start N vs) H { nx := fun _ H' => Q .non H', rt := Q } inv ⟨L, G, ⟨ok, start_rep rr⟩, leads_post hlq ok c⟩) (fun fl s' hs => ?_) fun e s' hs => hs
  match fl, hs with
  | .ret u, ⟨v, σ', H', J, rv, q⟩ => exact ⟨v, H', J.os, J.bare, J.base, J.hok, rv, q⟩
  | .next, ⟨σ', H', J, q⟩ => exact ⟨.non, H', J.os, J.bare, J.base, J.hok, rfl, q⟩
  | .brk, ⟨_, _, _, q⟩ => exact q.elim
  | .cont, ⟨_, _, _, q⟩ => exact q.elim
theorem FunD.plain {x qual : Str} {st : Stmt} {f : Addr} {fd : FuncData} (F : FunS K x qual st [] f fd) : Fun K x qual st f fd := by
  obtain ⟨oc, od, dV, kV, doc, pm, an, cdv, ct, osl, e, look, hcode, hD, _⟩ := F.ex
  rcases hD with ⟨_, rfl⟩ | ⟨z, _⟩
  · exact ⟨⟨oc, od, kV, doc, pm, an, cdv, ct, osl, e, look, hcode⟩, F.kp⟩
  · exact (z rfl).elim
theorem funS_mk {x qual : Str} {st : Stmt} {f : Addr} {oc : Value} {od an : Option Addr} {osl : Array (Option Value)} {kV doc pm cdv ct : Value} (l : K.lookup f = some ⟨oc, od, .func (PySem.W.fnOf x qual (defArgs st) (defBody st) (defScope st) .none kV doc pm an cdv ct), osl⟩)
    (c : PySem.W.codeIn K cdv qual = true) (k : PySem.W.keepIn K (.ref f) = true) : FunS K x qual st [] f (PySem.W.fnOf x qual (defArgs st) (defBody st) (defScope st) .none kV doc pm an cdv ct) :=
  ⟨⟨oc, od, .none, kV, doc, pm, an, cdv, ct, osl, rfl, l, c, .inl ⟨rfl, rfl⟩, .inl rfl⟩, k⟩
end

/-! ### calls -/
/-- a def that may be called -/
structure Cal (P : Program) (w : World) (K : PySem.W.Frag) (mg : Str → Option Value) (base : Heap) (k : Nat) (ps : List Str) (R : Rl) (f : Addr) (fd : FuncData) : Prop where
  ok : FnG P w K mg base k f fd ps (spR K R)
  bd : Binds K fd ps []
section
variable {X : Cx} {W : WX} {k j : Nat} {ps : List Str} {R : Rl} {f C : Addr} {fd : FuncData} {ds : List D} {μ μ1 μ2 : List M} {o : FO} {e : Expr} {es : List Expr} {x m : Str} {p pos apos : Pos} {ρ : Env'} {d : D}
theorem CO.sp {σ : St} {H : Hp} {Q : VK} {L : List Addr} {G : Hp} {vs : List V} (hR : R ds μ o) (ok : Ok X.K L G H μ) (r : Reps X.K L G ds vs) (c : CO W X.K L G H σ o Q) : spR X.K R vs H Q (WE W σ) :=
  ⟨L, G, ds, μ, o, ok, r, hR, by
    cases o with
    | ret d μ' => exact c
    | exc C ns ds' μ' => exact c⟩
theorem run_fnG {pins : List (Addr × Obj)} {σ : St} {H : Hp} {s : Shared} {Q : VK} {us us' : List Value} {kw : List (Str × Value)} {vs : List V} {sp : Sp} {E : XK} (F : FnG X.prog X.w X.K X.mg X.base j f fd ps sp) (hr : Room j X.A) (gr : Gr j X.A) (hb : BindsTo s fd ⟨us', kw⟩ (ps.zip us)) (hx : PassesAt (L2.CX X.prog X.w) X σ E)
    (I : Inv X pins σ H s) (r : Vals vs us) (h : sp vs H Q E) : wpAny (model X.prog X.w) X.A (call (.ref f) us' kw) (EP X pins σ Q) X.xe s := by
  refine wpAny_call (codeAny_mono (F.run X.A X.stack s H ⟨us', kw⟩ us vs Q E hr gr I.env0 hb r h) fun r s' hq => ?_)
  cases r with
  | error e => exact hx pins H s e s' I hq
  | ok fl =>
    cases fl with
    | ret u => exact I.after hq
    | next => exact False.elim hq
    | brk => exact False.elim hq
    | cont => exact False.elim hq
/-- by values -/
theorem Cal.run (c : Cal X.prog X.w X.K X.mg X.base j ps R f fd) (g : Gd X W k) (hj : j ≤ k) (hR : R ds μ o) : CallO X W (fun us => call (.ref f) us) ds μ o :=
  fun pins s σ H xs us Q L G I rx ok r co => by
    have hsp := CO.sp hR ok r co
    have hl : us.length = ps.length := by rw [← rx.length]; exact c.ok.len _ _ _ _ hsp
    have b := c.bd s us I.kIn (by rw [List.append_nil]; exact hl)
    rw [List.append_nil] at b
    exact run_fnG (E := WE W σ) c.ok (g.hr.mono hj) (g.gr.mono hj) b (passAt g.tk σ) I rx hsp
theorem argsO {f : List Value → Sem Value} (ha : PA X es (tVA X.K ρ μ ds μ1)) (hf : CallO X W f ds μ1 o) {pins : List (Addr × Obj)} {s : Shared} {σ : St} {H : Hp} {Q : VK} (I : Inv X pins σ H s) (h : tO W X.K ρ μ o σ H Q) (pos : Pos) :
    wpAny (model X.prog X.w) X.A (spliced (backTo pos (starEach es X.env))) (fun us s1 => X.K.In s1.heap ∧ wpAny (model X.prog X.w) X.A (f us) (EP X pins σ Q) X.xe s1) X.xe s := by
  obtain ⟨L, G, n, c⟩ := h
  refine thn (ha.run pos pins s σ H (fun vs H1 => ∃ L1 G1, Ok X.K L1 G1 H1 μ1 ∧ Reps X.K L1 G1 ds vs ∧ CO W X.K L1 G1 H1 σ o Q) I ⟨L, G, n, fun vs L1 G1 H1 s1 o1 r1 => ⟨L1, G1, o1, r1, CO.step c s1⟩⟩) fun us s1 ⟨vs, H1, I1, r1, L1, G1, o1, rr, c1⟩ => ⟨I1.kIn, ?_⟩
  exact hf pins s1 σ H1 vs us Q L1 G1 I1 r1 o1 rr c1
/-- f(e, ..) -/
theorem ev_call (g : Gd X W k) (c : Cal X.prog X.w X.K X.mg X.base j ps R f fd) (hm : X.mg x = some (.ref f)) (hk : PySem.W.keepIn X.K (.ref f) = true) (ha : PA X (e :: es) (tVA X.K ρ μ ds μ1)) (hR : R ds μ1 o) (hj : j ≤ k := by decide) (hg : Gl X x := by rfl)
    (hdb : (x == ("__debug__" : Str)) = false := by decide) (he : starEach (e :: es) X.env = (false, eval e X.env) :: starEach es X.env := by rfl) (hpl : (backTo pos (starEach es X.env)).any (·.1) = false := by rfl) :
    PE X (.Call (.Name x p) (e :: es) [] pos) (tO W X.K ρ μ o) :=
  ⟨fun pins s σ H Q I h => wpAny_Call_Name_kw (ld_glob I hg hm (PySem.W.callWith_K (h₀ := X.base) I.ok.mod.kin hk (argsO ha (c.run g hj hR) I h pos) he hpl) hdb)⟩
/-! #### objects -/
/-- a field of an immutable object -/
def fldOf (ns : List Str) (ds : List D) (f : Str) : Option D := (ns.zip ds).lookup f
theorem fld_rep {K : PySem.W.Frag} {L : List Addr} {G : Hp} {f : Str} : ∀ {ns : List Str} {ds : List D} {vs : List V} {d : D}, Reps K L G ds vs → fldOf ns ds f = some d → ∃ v, (ns.zip vs).lookup f = some v ∧ Rep K L G d v
  | [], ds, vs, d, r, h => by simp [fldOf] at h
  | n :: ns, [], vs, d, r, h => by simp [fldOf] at h
  | n :: ns, c :: ds, vs, d, r, h => by
    obtain ⟨v, q, rfl, r1, r2⟩ := r.inv_cons
    unfold fldOf at h
    rw [List.zip_cons_cons] at h ⊢
    simp only [List.lookup] at h ⊢
    cases hf : f == n with
    | true =>
      simp only [hf, Option.some.injEq] at h ⊢
      subst h
      exact ⟨v, rfl, r1⟩
    | false =>
      simp only [hf] at h ⊢
      exact fld_rep r2 h
/-- o.f, o an immutable object -/
theorem ev_fld {ns : List Str} {fs : List D} (ho : PE X e (tV X.K ρ μ (.obj C ns fs) μ1)) (c : Cls X.K C) (n : NoAttr X.K C m) (h : fldOf ns fs m = some d) (hb : attributeBase e m X.env (eval e X.env) = eval e X.env := by rfl) : PE X (.Attribute e m pos) (tV X.K ρ μ d μ1) :=
  pe_of (pe_fld ho hb) fun σ H Q ⟨L, G, nw, co⟩ => ⟨L, G, nw, fun v L1 G1 H1 s1 o1 r1 => by
    obtain ⟨a, dx, vs, ev, eg, _, rr⟩ := rep_obj.mp r1
    obtain ⟨u, l, ru⟩ := fld_rep rr h
    exact ⟨a, C, dx, _, u, ev, o1.sub _ _ eg, c, n, l, co u L1 G1 H1 s1 o1 ru⟩⟩
theorem zip_lookup_none {α β : Type} {f : Str} : ∀ {ns : List Str} {vs : List α} {ds : List β}, vs.length = ds.length → (ns.zip ds).lookup f = none → (ns.zip vs).lookup f = none
  | [], _, _, _, _ => rfl
  | n :: ns, [], _, _, _ => rfl
  | n :: ns, v :: vs, [], h, _ => by simp at h
  | n :: ns, v :: vs, d :: ds, h, e => by
    rw [List.zip_cons_cons] at e ⊢
    simp only [List.lookup] at e ⊢
    cases hf : f == n with
    | true => simp [hf] at e
    | false =>
      simp only [hf] at e ⊢
      exact zip_lookup_none (by simpa using h) e
/-- what is asked of the receiver of a method -/
inductive Recv (C : Addr) (m : Str) (μ : List M) : D → Prop
  | obj {ns : List Str} {fs : List D} : fldOf ns fs m = none → Recv C m μ (.obj C ns fs)
  | loc {ns : List Str} {fs : List D} {i : Nat} : μ[i]? = some (.ins C ns fs) → fldOf ns fs m = none → Recv C m μ (.loc i)
theorem Recv.at_ {L : List Addr} {G H : Hp} {v : V} (r : Recv C m μ d) (ok : Ok X.K L G H μ) (rd : Rep X.K L G d v) : ∃ a dx fs, v = .ref a ∧ H a = some (.ins C dx fs) ∧ fs.lookup m = none := by
  cases r with
  | obj h =>
    obtain ⟨a, dx, vs, ev, eg, _, rr⟩ := rep_obj.mp rd
    exact ⟨a, dx, _, ev, ok.sub _ _ eg, zip_lookup_none rr.length h⟩
  | loc hi h =>
    obtain ⟨a, ea, ev⟩ := rep_loc.mp rd
    obtain ⟨dx, vs, eh, _, rr⟩ := ok.at_ _ a _ ea hi
    exact ⟨a, dx, _, ev, eh, zip_lookup_none rr.length h⟩
end
end PM

set_option Elab.async false
set_option linter.all false
set_option maxRecDepth 100000
namespace PM
open PySem L2

/-! ### making an object -/
section
variable {X : Cx} {W : WX} {k j : Nat} {ps : List Str} {R : Rl} {f C : Addr} {fd : FuncData} {ds : List D} {μ μ1 μ2 : List M} {o : FO} {e : Expr} {es : List Expr} {x m : Str} {p pos apos : Pos} {ρ : Env'} {d : D}
/-- C(..) by what __init__ does: the new thing is the last of the store -/
inductive MakeR (R : Rl) (C : Addr) (ds : List D) (μ : List M) : FO → Prop
  | obj {ns : List Str} {fs : List D} {μ2 : List M} : R (.loc μ.length :: ds) (μ ++ [.ins C [] []]) (.ret .non (μ2 ++ [.ins C ns fs])) → Lows μ μ2 → ns.length = fs.length → D.los μ.length fs = true → MakeR R C ds μ (.ret (.obj C ns fs) μ2)
  | loc {ns : List Str} {fs : List D} {μ2 : List M} : R (.loc μ.length :: ds) (μ ++ [.ins C [] []]) (.ret .non (μ2 ++ [.ins C ns fs])) → μ2.length = μ.length → MakeR R C ds μ (.ret (.loc μ.length) (μ2 ++ [.ins C ns fs]))
  | exc {C' : Addr} {ns : List Str} {fs : List D} {μ2 : List M} {m : M} : R (.loc μ.length :: ds) (μ ++ [.ins C [] []]) (.exc C' ns fs (μ2 ++ [m])) → Lows μ μ2 → D.los μ.length fs = true → MakeR R C ds μ (.exc C' ns fs μ2)
theorem run_makeS {sp : Sp} {dvs : List V} {dvl : List Value} {E : XK} {pins : List (Addr × Obj)} {σ : St} {H : Hp} {s : Shared} {Q : VK} {us : List Value} {vs : List V} (Mk : Mk X.K C f) (F : FnG X.prog X.w X.K X.mg X.base k f fd ps sp) (hr : Room (k + 1) X.A) (gr : Gr (k + 1) X.A) (hb : Binds X.K fd ps dvl) (hd : Vals dvs dvl)
    (hx : PassesAt (L2.CX X.prog X.w) X σ E) (I : Inv X pins σ H s) (r : Vals vs us)
    (h : ∀ x dx, H x = none → H dx = none → dx ≠ x → sp (.ref x :: (vs ++ dvs)) (upd (upd H dx (.own x)) x (.ins C dx [])) (fun v H2 => v = .non ∧ Q (.ref x) H2) E) :
    wpAny (model X.prog X.w) X.A (call (.ref C) us) (EP X pins σ Q) X.xe s := by
  have hq := h (s.heap.objs.size + 1) s.heap.objs.size (I.hok.fresh (Nat.le_succ _)) (I.hok.fresh (Nat.le_refl _)) (Nat.ne_of_lt (Nat.lt_succ_self _))
  have I2 := Inv.made (C := C) I
  have r2 : Vals (V.ref (s.heap.objs.size + 1) :: (vs ++ dvs)) (Value.ref (s.heap.objs.size + 1) :: (us ++ dvl)) := .cons rfl (r.append hd)
  have hl : (Value.ref (s.heap.objs.size + 1) :: us ++ dvl).length = ps.length := by
    have e := r2.length
    rw [F.len _ _ _ _ hq] at e
    exact e.symm
  refine wpAny_call (make_map (f := f) I.kIn Mk.makes Mk.init (beq_iff_eq.mp Mk.fn) (codeAny_mono (F.run _ X.stack _ _ ⟨Value.ref (s.heap.objs.size + 1) :: us, []⟩ (Value.ref (s.heap.objs.size + 1) :: (us ++ dvl)) _ _ E (hr.make C us []) (by obtain ⟨g0, e0, z0⟩ := gr; exact ⟨g0, by first | exact e0 | (simpa [Around.under, Code.guards, Code.isGuard, pushGuards, guardIds] using e0), fun q => z0 (by omega)⟩)
    (I2.env0.make C us []) (hb _ (Value.ref (s.heap.objs.size + 1) :: us) I2.kIn hl) r2 hq) fun r s' hq' => ?_))
  cases r with
  | error e => exact hx pins _ _ e s' I2 hq'
  | ok fl =>
    cases fl with
    | ret u =>
      obtain ⟨v, H', I3, rv, ev, q3⟩ := I2.after hq'
      subst ev
      exact ⟨rv, ⟨V.ref (s.heap.objs.size + 1), H', I3, rfl, q3⟩⟩
    | next => exact False.elim hq'
    | brk => exact False.elim hq'
    | cont => exact False.elim hq'
/-- the new instance in the store -/
theorem Ok.made {K : PySem.W.Frag} {L : List Addr} {G H : Hp} {a dx : Addr} (ok : Ok K L G H μ) (h1 : H a = none) (h2 : H dx = none) (ne : dx ≠ a) :
    Ok K (L ++ [a]) G (upd (upd H dx (.own a)) a (.ins C dx [])) (μ ++ [.ins C [] []]) ∧ Step L G H (L ++ [a]) G (upd (upd H dx (.own a)) a (.ins C dx [])) := by
  obtain ⟨o1, s1⟩ := ok.newH (o := .own a) h2
  have h1' : upd H dx (.own a) a = none := by rw [upd_ne (Ne.symm ne)]; exact h1
  obtain ⟨o2, s2⟩ := o1.alloc (o := .ins C dx []) (m := .ins C [] []) h1' ⟨dx, [], upd_same, rfl, Reps.nil⟩
  exact ⟨o2, s1.trans s2⟩
theorem last_get {α : Type} (l : List α) (x : α) : (l ++ [x])[l.length]? = some x := by simp
theorem makeO {dvs : List V} {dvl : List Value} {dds : List D} (Mk : Mk X.K C f) (F : FnG X.prog X.w X.K X.mg X.base j f fd ps (spR X.K R)) (hb : Binds X.K fd ps dvl) (hd : Vals dvs dvl) (hdd : ∀ L G, Reps X.K L G dds dvs) (g : Gd X W k) (hj : j + 1 ≤ k) (hR : MakeR R C (ds ++ dds) μ o) :
    CallO X W (fun us => call (.ref C) us) ds μ o := by
  intro pins s σ H xs us Q L G I rx ok r co
  refine run_makeS (E := WE W σ) Mk F (g.hr.mono hj) (g.gr.mono hj) hb hd (passAt g.tk σ) I rx fun a dx h1 h2 ne => ?_
  obtain ⟨o2, s2⟩ := ok.made (C := C) h1 h2 ne
  have la : (L ++ [a])[μ.length]? = some a := by rw [← ok.len]; exact last_get L a
  have rr : Reps X.K (L ++ [a]) G (.loc μ.length :: (ds ++ dds)) (.ref a :: (xs ++ dvs)) := Reps.cons (rep_loc.mpr ⟨a, la, rfl⟩) ((r.step s2).append (hdd _ _))
  cases hR with
  | obj h l hl hfs =>
    rename_i ns fs μ2
    refine ⟨_, _, _, _, _, o2, rr, h, fun v L3 G3 H3 s3 o3 r3 => ⟨rep_non.mp r3, ?_⟩⟩
    have s13 := s2.trans s3
    have hlen : μ2.length = μ.length := l.1
    have la3 : L3[μ2.length]? = some a := by rw [hlen]; exact s3.pre _ _ la
    obtain ⟨dx', vs', eh, _, rv⟩ := o3.at_ μ2.length a _ la3 (last_get μ2 _)
    have o4 : Ok X.K (L3.take μ2.length) G3 H3 μ2 := o3.cut (l.all ok)
    have s4 : Step L G H (L3.take μ2.length) G3 H3 := s13.cut (by rw [ok.len, hlen]; exact Nat.le_refl _)
    have hna : a ∉ L3.take μ2.length := fun z => by
      obtain ⟨i, hi, ei⟩ := List.getElem_of_mem z
      rw [List.length_take] at hi
      rw [List.getElem_take] at ei
      obtain ⟨g1, g2⟩ := List.getElem?_eq_some_iff.mp la3
      have := (List.getElem_inj o3.nd).mp (ei.trans g2.symm)
      omega
    obtain ⟨o5, sg⟩ := o4.tell (p := a) (o := .ins C dx' (ns.zip vs')) eh hna
    exact co _ _ _ H3 (s4.tell h1 sg) o5 (rep_obj.mpr ⟨a, dx', vs', rfl, upd_same, hl, (rv.cut (n := μ2.length) (by rw [hlen]; exact hfs)).mono (.refl _) sg⟩)
  | loc h hl =>
    refine ⟨_, _, _, _, _, o2, rr, h, fun v L3 G3 H3 s3 o3 r3 => ⟨rep_non.mp r3, ?_⟩⟩
    exact co _ L3 G3 H3 (s2.trans s3) o3 (rep_loc.mpr ⟨a, s3.pre _ _ la, rfl⟩)
  | exc h l hfs =>
    rename_i C' ns fs μ2 m
    refine ⟨_, _, _, _, _, o2, rr, h, fun dx' L3 G3 H3 s3 o3 x3 => ?_⟩
    have hlen : μ2.length = μ.length := l.1
    exact co dx' _ G3 H3 ((s2.trans s3).cut (n := μ2.length) (by rw [ok.len, hlen]; exact Nat.le_refl _)) (o3.cut (l.all ok)) (xd_cut (L' := L3) x3 (by rw [hlen]; exact hfs))
/-- a class that may be made -/
structure Mak (P : Program) (w : World) (K : PySem.W.Frag) (mg : Str → Option Value) (base : Heap) (k : Nat) (ps : List Str) (R : Rl) (C f : Addr) (fd : FuncData) : Prop where
  mak : Mk K C f
  ok : FnG P w K mg base k f fd ps (spR K R)
/-- C(e, ..), every parameter given -/
theorem ev_make (g : Gd X W k) (c : Mak X.prog X.w X.K X.mg X.base j ps R C f fd) (hb : Binds X.K fd ps []) (hm : X.mg x = some (.ref C)) (ha : PA X (e :: es) (tVA X.K ρ μ ds μ1)) (hR : MakeR R C ds μ1 o) (hj : j + 1 ≤ k := by decide) (hg : Gl X x := by rfl)
    (hdb : (x == ("__debug__" : Str)) = false := by decide) (he : starEach (e :: es) X.env = (false, eval e X.env) :: starEach es X.env := by rfl) (hpl : (backTo pos (starEach es X.env)).any (·.1) = false := by rfl) :
    PE X (.Call (.Name x p) (e :: es) [] pos) (tO W X.K ρ μ o) :=
  ⟨fun pins s σ H Q I h => wpAny_Call_Name_kw (ld_glob I hg hm (PySem.W.callWith_K (h₀ := X.base) I.ok.mod.kin c.mak.kp (argsO ha (makeO (dvs := []) (dds := []) c.mak c.ok hb .nil (fun _ _ => Reps.nil) g hj (by rw [List.append_nil]; exact hR)) I h pos) he hpl) hdb)⟩
/-- C(e, ..), defaults filled up -/
theorem ev_makeD {dvs : List V} {dvl : List Value} {dds : List D} (g : Gd X W k) (c : Mak X.prog X.w X.K X.mg X.base j ps R C f fd) (hb : Binds X.K fd ps dvl) (hd : Vals dvs dvl) (hdd : ∀ L G, Reps X.K L G dds dvs) (hm : X.mg x = some (.ref C)) (ha : PA X (e :: es) (tVA X.K ρ μ ds μ1)) (hR : MakeR R C (ds ++ dds) μ1 o) (hj : j + 1 ≤ k := by decide) (hg : Gl X x := by rfl)
    (hdb : (x == ("__debug__" : Str)) = false := by decide) (he : starEach (e :: es) X.env = (false, eval e X.env) :: starEach es X.env := by rfl) (hpl : (backTo pos (starEach es X.env)).any (·.1) = false := by rfl) :
    PE X (.Call (.Name x p) (e :: es) [] pos) (tO W X.K ρ μ o) :=
  ⟨fun pins s σ H Q I h => wpAny_Call_Name_kw (ld_glob I hg hm (PySem.W.callWith_K (h₀ := X.base) I.ok.mod.kin c.mak.kp (argsO ha (makeO c.mak c.ok hb hd hdd g hj hR) I h pos) he hpl) hdb)⟩
end

/-! ### fields stored -/
section
variable {X : Cx} {W : WX} {k : Nat} {e oe : Expr} {pos pos' : Pos} {ρ : Env'} {μ μ1 μ2 : List M} {d : D} {i : Nat} {C : Addr} {ns : List Str} {fs : List D} {f : Str}
/-- a field put among the others -/
def putN (f : Str) : List Str → List Str
  | [] => [f]
  | g :: r => if g = f then g :: r else g :: putN f r
def putD (f : Str) (d : D) : List Str → List D → List D
  | [], _ => [d]
  | _ :: _, [] => []
  | g :: r, x :: xs => if g = f then d :: xs else x :: putD f d r xs
theorem put_rep {K : PySem.W.Frag} {L : List Addr} {G : Hp} {v : V} (rv : Rep K L G d v) : ∀ {ns : List Str} {fs : List D} {vs : List V}, ns.length = fs.length → Reps K L G fs vs → ∃ vs', putF f v (ns.zip vs) = (putN f ns).zip vs' ∧ (putN f ns).length = (putD f d ns fs).length ∧ Reps K L G (putD f d ns fs) vs'
  | [], [], vs, _, r => ⟨[v], by simp [putF, putN], rfl, Reps.cons rv Reps.nil⟩
  | [], _ :: _, _, h, _ => by simp at h
  | _ :: _, [], _, h, _ => by simp at h
  | g :: ns, x :: fs, vs, h, r => by
    obtain ⟨u, q, rfl, r1, r2⟩ := r.inv_cons
    by_cases hg : g = f
    · refine ⟨v :: q, ?_, ?_, ?_⟩
      · simp [putF, putN, hg]
      · simp only [putN, putD, hg, if_true, List.length_cons]
        simpa using h
      · simp only [putD, hg, if_true]
        exact Reps.cons rv r2
    · obtain ⟨vs', e1, e2, e3⟩ := put_rep rv (by simpa using h) r2
      refine ⟨u :: vs', ?_, ?_, ?_⟩
      · simp [putF, putN, hg, e1]
      · simp only [putN, putD, hg, if_false, List.length_cons, e2]
      · simp only [putD, hg, if_false]
        exact Reps.cons r1 e3
/-- o.f = e, o a thing of the store -/
theorem es_fld (he : PE X e (tV X.K ρ μ d μ1)) (ho : PE X oe (tV X.K ρ μ1 (.loc i) μ2)) (hi : μ2[i]? = some (.ins C ns fs)) (c : Cls X.K C) (n : NoAttr X.K C f) (hl : ns.length < 1000 := by decide) (hs : swapsWith e (some (.Attribute oe f pos')) pos.line X.env = pure false := by rfl) :
    PS X (.Assign [.Attribute oe f pos'] e pos) (tS W X.K ρ μ (.next ρ (μ2.set i (.ins C (putN f ns) (putD f d ns fs))))) :=
  ps_of (ps_fld ho he hs) fun D σ H ⟨L, G, nw, co⟩ => ⟨L, G, nw, fun v L1 G1 H1 s1 o1 r1 => ⟨L1, G1, nw.step s1 o1, fun u L2 G2 H2 s2 o2 r2 => by
    obtain ⟨a, ea, ev⟩ := rep_loc.mp r2
    obtain ⟨dx, vs, eh, hl2, rr⟩ := o2.at_ i a _ ea hi
    obtain ⟨vs', e1, e2, e3⟩ := put_rep (r1.step s2) hl2 rr
    refine ⟨a, C, dx, _, ev, eh, c, n, ?_, ?_⟩
    · rw [List.length_zip]
      omega
    · obtain ⟨o3, s3⟩ := o2.write (o := .ins C dx (putF f v (ns.zip vs))) (m := .ins C (putN f ns) (putD f d ns fs)) ea ⟨dx, vs', by rw [upd_same, e1], e2, e3⟩
      exact co σ L2 G2 _ ((s1.trans s2).trans s3) ⟨o3, ((nw.env.step s1).step s2).step s3⟩⟩⟩
end
end PM

set_option Elab.async false
set_option linter.all false
set_option maxRecDepth 100000
namespace PM
open PySem L2
abbrev W0 : WX := fun _ _ _ _ => False

/-! ### ints -/
section
variable {X : Cx} {W : WX} {μ : List M} {i j : Int} {x y : Str} {a b : Bool}
theorem oo_int {f : Value → Value → Sem Value} {g : Int → Int → Int} (h : OpR X f (rI0 fun i j => .int (g i j))) : OpO X W f (.int i) (.int j) μ (.ret (.int (g i j)) μ) :=
  opO_of h fun σ x y H Q L G o r1 r2 c => ⟨i, j, rep_int.mp r1, rep_int.mp r2, CO.now (W := W) (σ := σ) c o (rep_int.mpr rfl)⟩
theorem oo_intC {f : Value → Value → Sem Value} {C : Int → Int → Prop} {g : Int → Int → Int} (h : OpR X f (rI C fun i j => .int (g i j))) (hc : C i j) : OpO X W f (.int i) (.int j) μ (.ret (.int (g i j)) μ) :=
  opO_of h fun σ x y H Q L G o r1 r2 c => ⟨i, j, rep_int.mp r1, rep_int.mp r2, hc, CO.now (W := W) (σ := σ) c o (rep_int.mpr rfl)⟩
theorem oo_intB {f : Value → Value → Sem Value} {g : Int → Int → Bool} (h : OpR X f (rI0 fun i j => .bl (g i j))) : OpO X W f (.int i) (.int j) μ (.ret (.bl (g i j)) μ) :=
  opO_of h fun σ x y H Q L G o r1 r2 c => ⟨i, j, rep_int.mp r1, rep_int.mp r2, CO.now (W := W) (σ := σ) c o (rep_bl.mpr rfl)⟩
theorem oo_add : OpO X W (binaryOp .Add) (.int i) (.int j) μ (.ret (.int (i + j)) μ) := oo_int op_add
theorem oo_sub : OpO X W (binaryOp .Sub) (.int i) (.int j) μ (.ret (.int (i - j)) μ) := oo_int op_sub
theorem oo_mul (h : CMulW i j) : OpO X W (binaryOp .Mult) (.int i) (.int j) μ (.ret (.int (i * j)) μ) := oo_intC op_mulW h
theorem oo_mulS (h : CMul i j) : OpO X W (binaryOp .Mult) (.int i) (.int j) μ (.ret (.int (i * j)) μ) := oo_intC op_mul h
theorem oo_fdiv (h : CDivW i j) : OpO X W (binaryOp .FloorDiv) (.int i) (.int j) μ (.ret (.int (i / j)) μ) := oo_intC op_fdivW h
theorem oo_fdivS (h : CDiv i j) : OpO X W (binaryOp .FloorDiv) (.int i) (.int j) μ (.ret (.int (i / j)) μ) := oo_intC op_fdiv h
theorem oo_mod (h : 0 < j) : OpO X W (binaryOp .Mod) (.int i) (.int j) μ (.ret (.int (i % j)) μ) := oo_intC op_mod h
theorem oo_pow (h : CPow i j) : OpO X W (binaryOp .Pow) (.int i) (.int j) μ (.ret (.int (i ^ j.toNat)) μ) := oo_intC op_pow h
theorem oc_lt : OpO X W (compareOp .Lt) (.int i) (.int j) μ (.ret (.bl (decide (i < j))) μ) := oo_intB op_lt
theorem oc_le : OpO X W (compareOp .LtE) (.int i) (.int j) μ (.ret (.bl (decide (i ≤ j))) μ) := oo_intB op_le
theorem oc_gt : OpO X W (compareOp .Gt) (.int i) (.int j) μ (.ret (.bl (decide (j < i))) μ) := oo_intB op_gt
theorem oc_ge : OpO X W (compareOp .GtE) (.int i) (.int j) μ (.ret (.bl (decide (j ≤ i))) μ) := oo_intB op_ge
theorem ou_neg : UnO X W (unaryOp .USub) (.int i) μ (.ret (.int (-i)) μ) := unO_of un_neg fun σ x H Q L G o r c => ⟨i, rep_int.mp r, CO.now (W := W) (σ := σ) c o (rep_int.mpr rfl)⟩
/-- == of scalars: as the layer's rule has it -/
def Sc : D → Option V
  | .non => some .non
  | .bl b => some (.bl b)
  | .int i => some (.int i)
  | .str x => some (.str x)
  | _ => none
theorem Sc.rep {K L G} {d : D} {v u : V} (h : Sc d = some v) (r : Rep K L G d u) : u = v := by
  cases d <;> simp only [Sc, Option.some.injEq] at h <;> first | cases h | skip
  · exact rep_non.mp r
  · exact (rep_bl.mp r)
  · exact (rep_int.mp r)
  · exact (rep_str.mp r)
theorem oc_eqS {da db : D} {v u : V} (h1 : Sc da = some v) (h2 : Sc db = some u) (hs : scal v u = true := by rfl) : OpO X W (compareOp .Eq) da db μ (.ret (.bl (decide (v = u))) μ) :=
  opO_of op_eq fun σ x y H Q L G o r1 r2 c => by
    obtain rfl := Sc.rep h1 r1
    obtain rfl := Sc.rep h2 r2
    exact ⟨hs, CO.now (W := W) (σ := σ) c o (rep_bl.mpr rfl)⟩
theorem oc_neS {da db : D} {v u : V} (h1 : Sc da = some v) (h2 : Sc db = some u) (hs : scal v u = true := by rfl) : OpO X W (compareOp .NotEq) da db μ (.ret (.bl (!decide (v = u))) μ) :=
  opO_of op_ne fun σ x y H Q L G o r1 r2 c => by
    obtain rfl := Sc.rep h1 r1
    obtain rfl := Sc.rep h2 r2
    exact ⟨hs, CO.now (W := W) (σ := σ) c o (rep_bl.mpr rfl)⟩
theorem dec_int_eq (i j : Int) : decide (V.int i = V.int j) = decide (i = j) := by
  by_cases h : i = j
  · subst h; simp
  · rw [decide_eq_false h, decide_eq_false (fun z => h (by cases z; rfl))]
theorem dec_str_eq (i j : Str) : decide (V.str i = V.str j) = decide (i = j) := by
  by_cases h : i = j
  · subst h; simp
  · rw [decide_eq_false h, decide_eq_false (fun z => h (by cases z; rfl))]
theorem dec_bl_eq (i j : Bool) : decide (V.bl i = V.bl j) = decide (i = j) := by
  by_cases h : i = j
  · subst h; simp
  · rw [decide_eq_false h, decide_eq_false (fun z => h (by cases z; rfl))]
theorem oc_eq : OpO X W (compareOp .Eq) (.int i) (.int j) μ (.ret (.bl (decide (i = j))) μ) := by
  rw [← dec_int_eq]
  exact oc_eqS rfl rfl
theorem oc_ne : OpO X W (compareOp .NotEq) (.int i) (.int j) μ (.ret (.bl (!decide (i = j))) μ) := by
  rw [← dec_int_eq]
  exact oc_neS rfl rfl
theorem oc_eqT : OpO X W (compareOp .Eq) (.str x) (.str y) μ (.ret (.bl (decide (x = y))) μ) := by
  rw [← dec_str_eq]
  exact oc_eqS rfl rfl
theorem oc_neT : OpO X W (compareOp .NotEq) (.str x) (.str y) μ (.ret (.bl (!decide (x = y))) μ) := by
  rw [← dec_str_eq]
  exact oc_neS rfl rfl
theorem oc_eqB : OpO X W (compareOp .Eq) (.bl a) (.bl b) μ (.ret (.bl (decide (a = b))) μ) := by
  rw [← dec_bl_eq]
  exact oc_eqS rfl rfl
theorem oc_neB : OpO X W (compareOp .NotEq) (.bl a) (.bl b) μ (.ret (.bl (!decide (a = b))) μ) := by
  rw [← dec_bl_eq]
  exact oc_neS rfl rfl
/-- is None -/
def D.isN : D → Bool
  | .non => true
  | _ => false
theorem Rep.isN {K L G} {d : D} {v : V} (r : Rep K L G d v) : decide (v = .non) = d.isN := by
  cases d with
  | non => rw [rep_non.mp r]; rfl
  | bl b => rw [rep_bl.mp r]; rfl
  | int b => rw [rep_int.mp r]; rfl
  | str b => rw [rep_str.mp r]; rfl
  | ref b => rw [rep_ref.mp r]; rfl
  | ty b => rw [rep_ty.mp r]; rfl
  | loc n => obtain ⟨a, _, e⟩ := rep_loc.mp r; rw [e]; rfl
  | tup n => obtain ⟨a, _, e, _⟩ := rep_tup.mp r; rw [e]; rfl
  | lst n => obtain ⟨a, _, e, _⟩ := rep_lst.mp r; rw [e]; rfl
  | scr n => obtain ⟨a, _, e, _⟩ := rep_scr.mp r; rw [e]; rfl
  | obj C n f => obtain ⟨a, _, _, e, _⟩ := rep_obj.mp r; rw [e]; rfl
  | exn a dd n f => obtain ⟨_, e, _⟩ := rep_exn.mp r; rw [e]; rfl
theorem oc_is {d : D} : OpO X W (compareOp .Is) d .non μ (.ret (.bl d.isN) μ) :=
  opO_of op_isN fun σ x y H Q L G o r1 r2 c => ⟨rep_non.mp r2, by rw [r1.isN]; exact CO.now (W := W) (σ := σ) c o (rep_bl.mpr rfl)⟩
theorem oc_isNot {d : D} : OpO X W (compareOp .IsNot) d .non μ (.ret (.bl (!d.isN)) μ) :=
  opO_of op_notN fun σ x y H Q L G o r1 r2 c => ⟨rep_non.mp r2, by rw [r1.isN]; exact CO.now (W := W) (σ := σ) c o (rep_bl.mpr rfl)⟩
end

/-! ### calls of built-ins by name -/
section
variable {X : Cx} {W : WX} {μ μ1 : List M} {ρ : Env'} {ds : List D} {o : FO} {e : Expr} {es : List Expr} {x : Str} {p pos : Pos} {id T : String} {i j : Int}
theorem ev_blt (ha : PA X (e :: es) (tVA X.K ρ μ ds μ1)) (hf : CallO X W (fun us => call (.builtin id) us) ds μ1 o) (hm : X.mg x = none) (hv : bootBuiltins x = some (.builtin id)) (hg : Gl X x := by rfl) (hn : x ≠ "__name__" := by decide) (hdb : (x == ("__debug__" : Str)) = false := by decide)
    (he : starEach (e :: es) X.env = (false, eval e X.env) :: starEach es X.env := by rfl) (hpl : (backTo pos (starEach es X.env)).any (·.1) = false := by rfl) : PE X (.Call (.Name x p) (e :: es) [] pos) (tO W X.K ρ μ o) :=
  ⟨fun pins s σ H Q I h => wpAny_Call_Name_kw (ld_blt I hg hm hv (PyProof.Rows.callWith_builtin1 (thn (argsO ha hf I h pos) fun us s1 h1 => h1.2) he hpl) hn hdb)⟩
theorem Reps.one {K L G} {d : D} {vs : List V} (r : Reps K L G [d] vs) : ∃ v, vs = [v] ∧ Rep K L G d v := by
  obtain ⟨v, q, rfl, r1, r2⟩ := r.inv_cons
  rw [r2.inv_nil]
  exact ⟨v, rfl, r1⟩
theorem Reps.two {K L G} {d c : D} {vs : List V} (r : Reps K L G [d, c] vs) : ∃ v u, vs = [v, u] ∧ Rep K L G d v ∧ Rep K L G c u := by
  obtain ⟨v, q, rfl, r1, r2⟩ := r.inv_cons
  obtain ⟨u, rfl, r3⟩ := r2.one
  exact ⟨v, u, rfl, r1, r3⟩
theorem cb_abs : CallO X W (fun us => call (.builtin "abs") us) [.int i] μ (.ret (.int (if i < 0 then -i else i)) μ) :=
  callO_of call_abs fun σ xs H Q L G o r c => by
    obtain ⟨v, rfl, r1⟩ := r.one
    exact ⟨i, by rw [rep_int.mp r1], CO.now (W := W) (σ := σ) c o (rep_int.mpr rfl)⟩
theorem cb_max (hc : X.calm = true) : CallO X W (fun us => call (.builtin "max") us) [.int i, .int j] μ (.ret (.int (if j > i then j else i)) μ) :=
  callO_of (call_max2 hc) fun σ xs H Q L G o r c => by
    obtain ⟨v, u, rfl, r1, r2⟩ := r.two
    exact ⟨i, j, by rw [rep_int.mp r1, rep_int.mp r2], CO.now (W := W) (σ := σ) c o (rep_int.mpr rfl)⟩
theorem cb_min (hc : X.calm = true) : CallO X W (fun us => call (.builtin "min") us) [.int i, .int j] μ (.ret (.int (if j < i then j else i)) μ) :=
  callO_of (call_min2 hc) fun σ xs H Q L G o r c => by
    obtain ⟨v, u, rfl, r1, r2⟩ := r.two
    exact ⟨i, j, by rw [rep_int.mp r1, rep_int.mp r2], CO.now (W := W) (σ := σ) c o (rep_int.mpr rfl)⟩
theorem ct_intB {b : Bool} : CallO X W (fun us => call (.type "int") us) [.bl b] μ (.ret (.int (if b then 1 else 0)) μ) :=
  callO_of call_int1 fun σ xs H Q L G o r c => by
    obtain ⟨v, rfl, r1⟩ := r.one
    exact .inr ⟨b, by rw [rep_bl.mp r1], CO.now (W := W) (σ := σ) c o (rep_int.mpr rfl)⟩
theorem ct_boolB {b : Bool} : CallO X W (fun us => call (.type "bool") us) [.bl b] μ (.ret (.bl b) μ) :=
  callO_of call_bool1 fun σ xs H Q L G o r c => by
    obtain ⟨v, rfl, r1⟩ := r.one
    exact .inr ⟨b, by rw [rep_bl.mp r1], CO.now (W := W) (σ := σ) c o (rep_bl.mpr rfl)⟩
theorem cb_len {ds : List D} (d : D) (h : d = .tup ds ∨ d = .lst ds ∨ d = .scr ds) : CallO X W (fun us => call (.builtin "len") us) [d] μ (.ret (.int ds.length) μ) :=
  callO_of call_len_seq fun σ xs H Q L G o r c => by
    obtain ⟨v, rfl, r1⟩ := r.one
    rcases h with rfl | rfl | rfl
    · obtain ⟨a, vs, e, q, rr⟩ := rep_tup.mp r1
      exact ⟨a, vs, by rw [e], .inr (Same.sqT o.sub q), by rw [rr.length]; exact CO.now (W := W) (σ := σ) c o (rep_int.mpr rfl)⟩
    · obtain ⟨a, vs, e, q, rr⟩ := rep_lst.mp r1
      exact ⟨a, vs, by rw [e], .inl (SqL.of (o.sub _ _ q)), by rw [rr.length]; exact CO.now (W := W) (σ := σ) c o (rep_int.mpr rfl)⟩
    · obtain ⟨a, vs, e, q, rr⟩ := rep_scr.mp r1
      exact ⟨a, vs, by rw [e], .inl (Same.sqL o.sub q), by rw [rr.length]; exact CO.now (W := W) (σ := σ) c o (rep_int.mpr rfl)⟩
theorem cb_lenL {ds : List D} {n : Nat} (h : μ[n]? = some (.lst ds)) : CallO X W (fun us => call (.builtin "len") us) [.loc n] μ (.ret (.int ds.length) μ) :=
  callO_of call_len_seq fun σ xs H Q L G o r c => by
    obtain ⟨v, rfl, r1⟩ := r.one
    obtain ⟨a, ea, e⟩ := rep_loc.mp r1
    obtain ⟨vs, eh, rr⟩ := o.at_ n a _ ea h
    exact ⟨a, vs, by rw [e], .inl (SqL.of eh), by rw [rr.length]; exact CO.now (W := W) (σ := σ) c o (rep_int.mpr rfl)⟩
/-- tuple(list), tuple(tuple) -/
theorem ct_tup {ds : List D} : CallO X W (fun us => call (.type "tuple") us) [.lst ds] μ (.ret (.tup ds) μ) :=
  callO_of call_tuple_of fun σ xs H Q L G o r c => by
    obtain ⟨v, rfl, r1⟩ := r.one
    obtain ⟨a, vs, e, q, rr⟩ := rep_lst.mp r1
    refine ⟨a, vs, by rw [e], .inl ⟨SqL.of (o.sub _ _ q), fun l hl => ?_⟩⟩
    obtain ⟨o', s'⟩ := o.new (o := .tup vs) hl
    exact c _ L _ _ s' o' (rep_tup.mpr ⟨l, vs, rfl, SqT.of upd_same, rr.step s'⟩)
theorem ct_tupL {ds : List D} {n : Nat} (h : μ[n]? = some (.lst ds)) : CallO X W (fun us => call (.type "tuple") us) [.loc n] μ (.ret (.tup ds) μ) :=
  callO_of call_tuple_of fun σ xs H Q L G o r c => by
    obtain ⟨v, rfl, r1⟩ := r.one
    obtain ⟨a, ea, e⟩ := rep_loc.mp r1
    obtain ⟨vs, eh, rr⟩ := o.at_ n a _ ea h
    refine ⟨a, vs, by rw [e], .inl ⟨SqL.of eh, fun l hl => ?_⟩⟩
    obtain ⟨o', s'⟩ := o.new (o := .tup vs) hl
    exact c _ L _ _ s' o' (rep_tup.mpr ⟨l, vs, rfl, SqT.of upd_same, rr.step s'⟩)
theorem ct_tupT {ds : List D} : CallO X W (fun us => call (.type "tuple") us) [.tup ds] μ (.ret (.tup ds) μ) :=
  callO_of call_tuple_of fun σ xs H Q L G o r c => by
    obtain ⟨v, rfl, r1⟩ := r.one
    obtain ⟨a, vs, e, q, rr⟩ := rep_tup.mp r1
    exact ⟨a, vs, by rw [e], .inr ⟨Same.sqT o.sub q, CO.now (W := W) (σ := σ) c o (by rw [← e]; exact r1)⟩⟩
/-- any, all of a list of bools -/
theorem bls_rep {K L G} : ∀ {bs : List Bool} {vs : List V}, Reps K L G (bs.map D.bl) vs → vs = bs.map V.bl
  | [], vs, r => r.inv_nil
  | b :: bs, vs, r => by
    obtain ⟨v, q, rfl, r1, r2⟩ := r.inv_cons
    rw [rep_bl.mp r1, bls_rep r2]
    rfl
theorem ints_reps {K L G} : ∀ (bs : List Int), Reps K L G (bs.map D.int) (bs.map V.int)
  | [] => Reps.nil
  | b :: bs => Reps.cons (rep_int.mpr rfl) (ints_reps bs)
theorem cb_any (hc : X.calm = true) {bs : List Bool} : CallO X W (fun us => call (.builtin "any") us) [.lst (bs.map D.bl)] μ (.ret (.bl (bs.any _root_.id)) μ) :=
  callO_of (cr_any hc) fun σ xs H Q L G o r c => by
    obtain ⟨v, rfl, r1⟩ := r.one
    obtain ⟨a, vs, e, q, rr⟩ := rep_lst.mp r1
    rw [bls_rep rr] at q
    exact ⟨a, bs, by rw [e], SqL.of (o.sub _ _ q), CO.now (W := W) (σ := σ) c o (rep_bl.mpr rfl)⟩
end

/-! ### displays, items -/
section
variable {X : Cx} {W : WX} {μ μ1 μ2 : List M} {ρ : Env'} {ds : List D} {d : D} {o : FO} {a b e : Expr} {es : List Expr} {pos : Pos} {i : Int}
/-- x[i] by values -/
theorem atI_rep {K L G} {ds : List D} {vs : List V} (r : Reps K L G ds vs) (h : atI ds i = some d) : ∃ v, atI vs i = some v ∧ Rep K L G d v := by
  unfold atI at h ⊢
  rw [r.length]
  cases e : ixN ds.length i with
  | none => rw [e] at h; cases h
  | some j =>
    rw [e] at h
    simp only [Option.bind_some] at h ⊢
    exact r.get h
/-- what can be indexed -/
def Ixd (μ : List M) (d : D) (ds : List D) : Prop := d = .tup ds ∨ d = .lst ds ∨ d = .scr ds ∨ ∃ n, d = .loc n ∧ μ[n]? = some (.lst ds)
end

/-! ### walks -/
section
variable {X : Cx} {W : WX} {μ μ1 μ2 : List M} {ρ : Env'} {ds : List D} {d : D} {e tg : Expr} {pos p : Pos} {i j : Int}
theorem jok_tup {K : PySem.W.Frag} {L : List Addr} {G : Hp} {a : Addr} {vs : List V} (q : SqT K G a vs) (r : Reps K L G ds vs) : JOk K (Itt K a) L G ds where
  go := fun L2 G2 H2 μ2 i d pr sg o e => by
    have q2 : SqT K H2 a vs := Same.sqT (sg.trans o.sub) q
    obtain ⟨v, ev, rv⟩ := r.get e
    exact ⟨⟨vs, v, q2, ev⟩, fun x H3 ⟨e3, y⟩ => by
      subst e3
      have := y vs q2
      rw [ev] at this
      cases this
      exact ⟨G2, .refl _ _ _, o, rv.mono pr sg⟩⟩
  stop := fun L2 G2 H2 μ2 pr sg o => ⟨vs, Same.sqT (sg.trans o.sub) q, by rw [r.length]; exact Nat.le_refl _⟩
theorem jok_lst {K : PySem.W.Frag} {L : List Addr} {G : Hp} {a : Addr} {vs : List V} (q : SqL K G a vs) (r : Reps K L G ds vs) : JOk K (Itl K a) L G ds where
  go := fun L2 G2 H2 μ2 i d pr sg o e => by
    have q2 : SqL K H2 a vs := Same.sqL (sg.trans o.sub) q
    obtain ⟨v, ev, rv⟩ := r.get e
    exact ⟨⟨vs, v, q2, ev⟩, fun x H3 ⟨e3, y⟩ => by
      subst e3
      have := y vs q2
      rw [ev] at this
      cases this
      exact ⟨G2, .refl _ _ _, o, rv.mono pr sg⟩⟩
  stop := fun L2 G2 H2 μ2 pr sg o => ⟨vs, Same.sqL (sg.trans o.sub) q, by rw [r.length]; exact Nat.le_refl _⟩
def rangeD (lo : Int) (n : Nat) : List D := (List.range n).map fun (k : Nat) => D.int (lo + (k : Int))
theorem jok_rng {K : PySem.W.Frag} {L : List Addr} {G : Hp} {lo : Int} {n : Nat} : JOk K (Itr lo n) L G (rangeD lo n) where
  go := fun L2 G2 H2 μ2 i d pr sg o e => by
    have hi : i < n := by
      have := (List.getElem?_eq_some_iff.mp e).1
      simpa [rangeD] using this
    have ed : d = D.int (lo + (i : Int)) := by
      unfold rangeD at e
      rw [List.getElem?_map, List.getElem?_range hi] at e
      simpa using e.symm
    exact ⟨hi, fun x H3 ⟨e3, y⟩ => by
      subst e3 y ed
      exact ⟨G2, .refl _ _ _, o, rep_int.mpr rfl⟩⟩
  stop := fun L2 G2 H2 μ2 pr sg o => by
    show n ≤ (rangeD lo n).length
    simp [rangeD]
end
end PM

set_option Elab.async false
set_option linter.all false
set_option maxRecDepth 100000
set_option maxHeartbeats 2000000
namespace PM
open PySem L2

/-! ### errors of the program's own: their __init__ -/
/-- what is asked of the class above, whose __init__ is called by name -/
structure UpC (K : PySem.W.Frag) (B : Addr) (id : String) : Prop where
  rd : PySem.W.readsIn K B (.type "type") = true
  ga : PySem.W.specialIn K (.ref B) "__getattribute__" = some (some (.builtin "type.__getattribute__"))
  fi : PySem.W.findCls K (.ref B) (.type "type") "__init__" = some (.val (.builtin id))
section
variable {X : Cx} {o e : Expr} {es : List Expr} {to te : TE} {ta : TA} {x : Str} {p p' p1 p2 pos : Pos} {B : Addr}
theorem pe_upinit {pl : Sem Bool} (hg : Gl X x) (hm : X.mg x = some (.ref B)) (u : UpC X.K B "ValueError.__init__") (ha : PA X (e :: es) ta) (hd : (x == ("__debug__" : Str)) = false := by decide)
    (hc : eval (.Call (.Attribute (.Name x p1) "__init__" p2) (e :: es) [] pos) X.env = (do
      let ov ← eval (.Name x p1) X.env
      standAt p2.atName
      let (f, first) ← holding [ov] (getMethod ov "__init__" pl)
      callWith pos f first (backTo pos (starEach (e :: es) X.env)) (backToKw pos (keywordEach [] X.env))) := by rfl)
    (he : starEach (e :: es) X.env = (false, eval e X.env) :: starEach es X.env := by rfl) (hpl : (backTo pos (starEach es X.env)).any (·.1) = false := by rfl) :
    PE X (.Call (.Attribute (.Name x p1) "__init__" p2) (e :: es) [] pos) (tVeI X.K ta) := by
  refine ⟨fun pins s σ H Q I h => ?_⟩
  refine PySem.W.methodCall_KW (ld_glob I hg hm ?_ hd) hc
  refine PySem.W.method_cls I.kIn u.ga (PySem.W.cls_value I.kIn u.rd u.fi rfl ?_)
  show wpAny _ _ (callWith pos (Value.builtin "ValueError.__init__") [] (backTo pos (starEach (e :: es) X.env)) []) _ _ _
  refine PyProof.Rows.callWith_method1 (thn (ha.run pos pins _ σ H _ (I.tok _) h) fun us s1 ⟨vs, H1, I1, r1, a, C, ws, ev, hl, T, ea, q⟩ => ?_) he hpl
  subst ev
  cases r1 with
  | @cons _ u0 _ ur ra rw' =>
    obtain rfl : u0 = Value.ref a := ra
    have hlen : ur.length ≤ sizeLine := by
      rw [← Paired.length rw', sizeLine_eq]
      omega
    exact oinit_ok T I1 ea hlen fun s' J => ⟨.non, H1, J, rfl, q⟩
end
/-- the promise of an __init__ that keeps its arguments in fields of those names: none, one, two -/
def spI1 (C : Addr) (f : Str) : Sp := fun vs H Q _ => ∃ (a : Addr) (v : V), vs = [.ref a, v] ∧ H a = some (exo a C none) ∧ ∀ dx, H dx = none → dx ≠ a → Q .non (upd (upd H dx (exd dx [(f, v)])) a (exo a C (some dx)))
def spI2 (C : Addr) (f g : Str) : Sp := fun vs H Q _ => ∃ (a : Addr) (v u : V), vs = [.ref a, v, u] ∧ H a = some (exo a C none) ∧ ∀ dx, H dx = none → dx ≠ a → Q .non (upd (upd (upd H dx (exd dx [(f, v)])) a (exo a C (some dx))) dx (exd dx [(g, u), (f, v)]))
section
variable {P : Program} {w : World} {K : PySem.W.Frag} {mg : Str → Option Value} {base : Heap}
/-- class E(B): def __init__(self, f): B.__init__(self); self.f = f; hb: pss_cons (ps_expr (pe_upinit rfl hm u (pa_cons (pv 0) pa_nil))) (pss_one (ps_ost (pv 0) (pv 1))) -/
theorem fn_I1 {xq qual : Str} {st : Stmt} {fI C : Addr} {fd : FuncData} {f : Str} (F : Fun K xq qual st fI fd) (S : FnScope ["self", f] ["self", f] (defScope st)) (T : OexC K C) (hno : PySem.W.findIn K (.ref C) f = some none)
    (hb : ∀ cdv A outer s H E, PSs (cxOf CX0 P w K mg base ["self", f] qual (defScope st) fI cdv A outer s H E).nox (defBody st) (tSeq (tDrop (tVeI K (tCons (tVar 0) tNil))) (tOst K f (tVar 0) (tVar 1)))) : FnOk P w K mg base CX0 1 fI fd ["self", f] (spI1 C f) := by
  refine F.ok S (fun vs H Q E h => ?_) (fun cdv A outer s H vs Q E hr h => ⟨_, hb cdv A outer s H E, ?_⟩)
  · obtain ⟨a, v, rfl, _⟩ := h
    rfl
  · obtain ⟨a, v, rfl, ha, k⟩ := h
    exact ⟨_, rfl, a, C, [], rfl, Nat.zero_le _, T, ha, _, rfl, _, rfl, a, C, rfl, T, hno, .inl ⟨ha, fun dx h1 h2 => k dx h1 h2⟩⟩
end
/-- an error class as its makers need it -/
structure ErrC (P : Program) (w : World) (K : PySem.W.Frag) (mg : Str → Option Value) (base : Heap) (C : Addr) (ns : List Str) : Prop where
  oex : OexC K C
  one : ∃ fI fd ps sp, PySem.W.findIn K (.ref C) "__init__" = some (some (.ref fI)) ∧ PySem.W.typeIn K (.ref fI) = some (.type "function") ∧ FnOk P w K mg base CX0 1 fI fd ps sp ∧ Binds K fd ps [] ∧
    ((∃ f, ns = [f] ∧ sp = spI1 C f) ∨ ∃ f g, ns = [f, g] ∧ f ≠ g ∧ sp = spI2 C f g)
section
variable {X : Cx} {W : WX} {k : Nat} {C : Addr} {ns : List Str} {ds : List D} {μ μ1 : List M} {ρ : Env'} {e : Expr} {es : List Expr} {x : Str} {p pos pos2 : Pos}
theorem xd_swap {f g : Str} {v u : V} (h : f ≠ g) : ∀ y : Str, List.lookup y [(g, u), (f, v)] = List.lookup y [(f, v), (g, u)] := fun y => by
  simp only [List.lookup]
  by_cases e1 : y = f
  · subst e1
    have : (y == g) = false := by simpa using h
    simp [this]
  · by_cases e2 : y = g
    · subst e2
      have : (y == f) = false := by simpa using e1
      simp [this]
    · have h1 : (y == f) = false := by simpa using e1
      have h2 : (y == g) = false := by simpa using e2
      simp [h1, h2]
/-- an exception's dict told another way -/
theorem xd_same {pins : List (Addr × Obj)} {σ : St} {H : Hp} {s : Shared} {d : Addr} {fs fs' : List (Str × V)} (I : Inv X pins σ H s) (e : H d = some (.xd fs)) (h : ∀ y, fs.lookup y = fs'.lookup y) : Inv X pins σ (upd H d (.xd fs')) s := by
  have eq : ∀ b o, upd H d (.xd fs') b = some o → (b = d ∧ o = .xd fs') ∨ (b ≠ d ∧ H b = some o) := fun b o q => by
    by_cases hb : b = d
    · subst hb
      rw [upd_same] at q
      exact .inl ⟨rfl, (Option.some.inj q).symm⟩
    · rw [upd_ne hb] at q
      exact .inr ⟨hb, q⟩
  have nd : ∀ {b : Addr} {o : HO}, H b = some o → o ≠ .xd fs → b ≠ d := fun {b o} q n z => by
    rw [z, e] at q
    exact n (Option.some.inj q).symm
  refine I.un (h' := s.heap) (t' := s.toks) ⟨fun b o q n _ _ => q, fun b o q n _ _ => ⟨o.slots, q⟩, fun b o q n _ => ?_, fun b o q _ => ⟨o, q⟩, fun b xs q => ?_, fun b o u q => ?_, fun b ps q => ⟨#[], ?_⟩⟩ fun b o q => ?_
  · rw [upd_ne (fun z => by rw [z, e] at n; cases n)]
    exact n
  · rw [upd_ne (nd q (by intro z; cases z))]
    exact q
  · rw [upd_ne (nd q (by intro z; cases z))]
    exact q
  · rw [upd_ne (nd q (by intro z; cases z)), q]
    simp
  · rcases eq b o q with ⟨rfl, rfl⟩ | ⟨hb, q⟩
    · obtain ⟨mA, hn, r⟩ := (show ObjOk X.prog X.w H s.heap b (.xd fs) from I.hok b _ e)
      exact ⟨mA, hn, fun y => by rw [← h y]; exact r y⟩
    · exact (I.hok b o q).stay (fun _ _ _ z => z) (fun c z => by rw [upd_ne (nd z (by intro y; cases y))]; exact z) fun c xs z => by rw [upd_ne (nd z (by intro y; cases y))]; exact z
/-- raise C(e, ..) -/
theorem es_raise (g : Gd X W k) (c : ErrC X.prog X.w X.K X.mg X.base C ns) (hm : X.mg x = some (.ref C)) (ha : PA X (e :: es) (tVA X.K ρ μ ds μ1)) (hn : ns.length = ds.length) (hk : 2 ≤ k := by decide) (hg : Gl X x := by rfl) (hdb : (x == ("__debug__" : Str)) = false := by decide)
    (he : starEach (e :: es) X.env = (false, eval e X.env) :: starEach es X.env := by rfl) (hpl : (backTo pos (starEach es X.env)).any (·.1) = false := by rfl) :
    PS X (.Raise (some (.Call (.Name x p) (e :: es) [] pos)) none pos2) (tS W X.K ρ μ (.exc C ns ds ρ μ1)) := by
  obtain ⟨fI, fd, ps, sp, hi, ht, F, bd, h⟩ := c.one
  have mk : PMk X (.Call (.Name x p) (e :: es) [] pos) (fun σ H Q => tMkO C sp [] (tVA X.K ρ μ ds μ1) σ H Q) := pmk_oex c.oex hi ht F (g.hr.mono hk) bd .nil pass0 hg hm ha hdb he hpl
  rcases h with ⟨f, rfl, rfl⟩ | ⟨f, f2, rfl, hne, rfl⟩
  · refine ps_of (ps_raise g.calm g.tk mk) fun D σ H ⟨L, G, n, co⟩ => ⟨L, G, n, fun vs L1 G1 H1 s1 o1 r1 => ?_⟩
    match ds, hn with
    | [d], _ =>
      obtain ⟨v, rfl, rv⟩ := r1.one
      refine ⟨by show 1 ≤ 1000; decide, fun a hna => ⟨a, v, rfl, upd_same, fun dx hdx hne => ⟨rfl, dx, [(f, v)], upd_same, by rw [upd_ne hne, upd_same], ?_, ?_⟩⟩⟩
      · rw [upd_ne hne] at hdx
        exact hdx
      · have hdx' : H1 dx = none := by rw [upd_ne hne] at hdx; exact hdx
        have eH : upd (del (upd (upd (upd H1 a (exo a C none)) dx (exd dx [(f, v)])) a (exo a C (some dx))) a) dx (.xd [(f, v)]) = upd H1 dx (.xd [(f, v)]) := by
          funext b
          by_cases hb : b = dx
          · rw [hb, upd_same, upd_same]
          · rw [upd_ne hb, upd_ne hb]
            by_cases hba : b = a
            · rw [hba, del_same, hna]
            · rw [del_ne hba, upd_ne hba, upd_ne hb, upd_ne hba]
        rw [eH]
        obtain ⟨o2, s2⟩ := o1.new (o := .xd [(f, v)]) hdx'
        exact co σ (some dx) L1 _ _ (s1.trans s2) ⟨o2, (n.env.step s1).step s2⟩ ⟨rfl, .inr ⟨dx, [v], rfl, upd_same, Reps.cons (rv.step s2) Reps.nil⟩⟩
  · refine ps_of (ps_raise g.calm g.tk (t := fun σ H Q => tVA X.K ρ μ ds μ1 σ H fun vs H1 => ∃ v u, vs = [v, u] ∧ ∀ dx, H1 dx = none → Q (.ref C) (some dx) (upd H1 dx (.xd [(f, v), (f2, u)]))) ?_) fun D σ H ⟨L, G, n, co⟩ => ⟨L, G, n, fun vs L1 G1 H1 s1 o1 r1 => ?_⟩
    · intro pins s σ H Q I h
      refine thn (mk pins s σ H (fun c d H' => c = .ref C ∧ ∃ dx v u H1, d = some dx ∧ H1 dx = none ∧ H' = upd H1 dx (.xd [(f2, u), (f, v)]) ∧ Q (.ref C) (some dx) (upd H1 dx (.xd [(f, v), (f2, u)]))) I ?_) fun u s' hu => ?_
      · obtain ⟨L, G, n, co⟩ := h
        refine ⟨L, G, n, fun vs L1 G1 H1 s1 o1 r1 => ?_⟩
        obtain ⟨v, u, rfl, q⟩ := co vs L1 G1 H1 s1 o1 r1
        refine ⟨by show 2 ≤ 1000; decide, fun a hna => ⟨a, v, u, rfl, upd_same, fun dx hdx hne => ⟨rfl, dx, [(f2, u), (f, v)], ?_, upd_same, ?_, rfl, dx, v, u, H1, rfl, ?_, ?_, ?_⟩⟩⟩
        · rw [upd_ne (Ne.symm hne), upd_same]
        · rw [upd_ne hne] at hdx; exact hdx
        · rw [upd_ne hne] at hdx; exact hdx
        · funext b
          by_cases hb : b = dx
          · rw [hb, upd_same, upd_same]
          · rw [upd_ne hb, upd_ne hb]
            by_cases hba : b = a
            · rw [hba, del_same, hna]
            · rw [del_ne hba, upd_ne hb, upd_ne hba, upd_ne hb, upd_ne hba]
        · exact q dx (by rw [upd_ne hne] at hdx; exact hdx)
      · obtain ⟨a, oe, fv, sI, H', cls, d, e1, J, k1, k2, k3, k4, k5, k6, k7, k8, k9, k10, rfl, dx, v, u', H1, rfl, hd1, rfl, q⟩ := hu
        refine ⟨a, oe, fv, sI, _, .ref C, some dx, e1, (xd_same J upd_same (xd_swap (Ne.symm (Ne.symm hne)))), k1, k2, k3, k4, k5, k6, ?_, k8, k9, k10, ?_⟩
        · rw [upd_upd]
          by_cases ha : a = dx
          · subst ha
            rw [upd_same] at k7
            cases k7
          · rw [upd_ne ha] at k7 ⊢
            exact k7
        · rw [upd_upd]
          exact q
    · match ds, hn with
      | [d1, d2], _ =>
        obtain ⟨v, u, rfl, rv, ru⟩ := r1.two
        refine ⟨v, u, rfl, fun dx hdx => ?_⟩
        obtain ⟨o2, s2⟩ := o1.new (o := .xd [(f, v), (f2, u)]) hdx
        exact co σ (some dx) L1 _ _ (s1.trans s2) ⟨o2, (n.env.step s1).step s2⟩ ⟨rfl, .inr ⟨dx, [v, u], rfl, upd_same, Reps.cons (rv.step s2) (Reps.cons (ru.step s2) Reps.nil)⟩⟩
end

/-! ### try -/
section
variable {X : Cx} {W : WX} {k i : Nat} {C C' : Addr} {ns : List Str} {ds : List D} {μ μ1 μ2 : List M} {ρ ρ1 ρ2 : Env'} {x n : Str} {np pos pos' : Pos} {body suite : List Stmt} {b₀ : Stmt} {q : Out}
/-- what follows a suite: the name is gone -/
def Out.gone (i : Nat) : Out → Out
  | .next ρ μ => .next (ρ.set i none) μ
  | .brk ρ μ => .brk (ρ.set i none) μ
  | .cont ρ μ => .cont (ρ.set i none) μ
  | q => q
theorem RepS.unset {K : PySem.W.Frag} {L : List Addr} {G : Hp} {ρ : Env'} {σ : St} (h : RepS K L G ρ σ) (i : Nat) : RepS K L G (ρ.set i none) (σ.set i none) := by
  refine ⟨by simpa using h.len, fun j e hj => ?_⟩
  by_cases hi : i = j
  · subst hi
    by_cases hl : i < ρ.length
    · rw [List.getElem?_set_self hl] at hj
      cases hj
    · rw [List.getElem?_eq_none (by simpa using hl)] at hj
      cases hj
  · rw [List.getElem?_set_ne hi] at hj ⊢
    exact h.at_ j e hj
end
end PM

set_option Elab.async false
set_option linter.all false
set_option maxRecDepth 100000
set_option maxHeartbeats 2000000
namespace PM
open PySem L2

/-! ### an own class -/
structure OwnC (K : PySem.W.Frag) (C : Addr) : Prop where
  cl : Cls K C
  ca : PySem.W.findIn K (.ref C) "__class__" = some (some (.builtin "object.__class__"))
  cg : PySem.W.specialIn K (.builtin "object.__class__") "__get__" = some (some (.builtin "getset_descriptor.__get__"))
  ct : PySem.W.takesIn K (.builtin "object.__class__") = some true
  mro : (PySem.W.clsIn K C).map (·.mro) = some [.ref C, .type "object"]
  ty : PySem.W.typeIn K (.ref C) = some (.type "type")
section
variable {K : PySem.W.Frag} {C : Addr}
theorem OwnC.cd (c : OwnC K C) : ∃ cd, PySem.W.clsIn K C = some cd ∧ cd.mro = [.ref C, .type "object"] := by
  have h := c.mro
  cases e : PySem.W.clsIn K C with
  | none => rw [e] at h; cases h
  | some cd =>
    rw [e] at h
    exact ⟨cd, rfl, Option.some.inj h⟩
theorem OwnC.mroIn (c : OwnC K C) (b : Value) : PySem.W.mroIn K C b = some ([Value.ref C, .type "object"].contains b) := by
  obtain ⟨cd, e, m⟩ := c.cd
  unfold PySem.W.mroIn
  rw [e, Option.bind_some, m]
  rfl
theorem OwnC.self (c : OwnC K C) : PySem.W.selfFirst K C = true := by
  obtain ⟨cd, e, m⟩ := c.cd
  unfold PySem.W.selfFirst
  rw [e, Option.any_some, m]
  simp
theorem OwnC.isCls (c : OwnC K C) : PySem.W.isClsIn K C = true := by
  obtain ⟨cd, e, m⟩ := c.cd
  unfold PySem.W.isClsIn
  rw [e]
  rfl
/-- a value's type -/
inductive TyD (K : PySem.W.Frag) : D → Value → Prop
  | non : TyD K .non (.type "NoneType")
  | bl {b : Bool} : TyD K (.bl b) (.type "bool")
  | int {i : Int} : TyD K (.int i) (.type "int")
  | str {x : Str} : TyD K (.str x) (.type "str")
  | tup {ds : List D} : TyD K (.tup ds) (.type "tuple")
  | lst {ds : List D} : TyD K (.lst ds) (.type "list")
  | obj {C : Addr} {ns : List Str} {ds : List D} : OwnC K C → TyD K (.obj C ns ds) (.ref C)
theorem TyD.x {L : List Addr} {G H : Hp} {μ : List M} {d : D} {t : Value} {v : V} (ok : Ok K L G H μ) (y : TyD K d t) (r : Rep K L G d v) : TyX K H v t := by
  cases y with
  | non => rw [rep_non.mp r]; exact .base .non
  | bl => rw [rep_bl.mp r]; exact .base (.bl _)
  | int => rw [rep_int.mp r]; exact .base (.int _)
  | str => rw [rep_str.mp r]; exact .base (.str _)
  | tup =>
    obtain ⟨a, vs, rfl, q, _⟩ := rep_tup.mp r
    rcases Same.sqT ok.sub q with (h | ⟨o, h⟩) | ⟨o, its, n, h, hc, _⟩
    · exact .base (.tup h)
    · exact .fTuple h
    · exact .kTuple h hc
  | lst =>
    obtain ⟨a, vs, rfl, q, _⟩ := rep_lst.mp r
    exact .base (.lst (ok.sub _ _ q))
  | obj c =>
    obtain ⟨a, dx, vs, rfl, q, _⟩ := rep_obj.mp r
    exact .base (.ins (ok.sub _ _ q) c.cl c.ca c.cg c.ct (by rw [c.mroIn]; simp))
/-- isinstance by types -/
theorem kit_own_self : PySem.W.kitOne K (.ref C) (.ref C) = some true := by
  unfold PySem.W.kitOne
  rw [if_pos (by simp)]
theorem kit_own_ty (c : OwnC K C) {T : String} (hm : PySem.W.kitMeta T = true) (hT : T ≠ "object") : PySem.W.kitOne K (.ref C) (.type T) = some false := by
  have e : ([Value.ref C, .type "object"].contains (.type T)) = false := by
    simp only [List.contains_cons, List.contains_nil, Bool.or_false, Bool.or_eq_false_iff, beq_eq_false_iff_ne]
    exact ⟨(by intro z; cases z), (by intro z; cases z; exact hT rfl)⟩
  unfold PySem.W.kitOne
  rw [if_neg (by simp)]
  show (if PySem.W.kitMeta T = true then PySem.W.subIn K (.ref C) (.type T) else none) = some false
  rw [if_pos hm]
  show PySem.W.mroIn K C (.type T) = some false
  rw [c.mroIn, e]
theorem kit_ty_own (c : OwnC K C) {T : String} {l : List Value} (hl : PySem.fastBuiltinMro T = some l) (hn : l.all (fun v => match v with | .type _ => true | _ => false) = true) : PySem.W.kitOne K (.type T) (.ref C) = some false := by
  have e : l.contains (.ref C) = false := by
    rw [List.contains_eq_any_beq, List.any_eq_false]
    intro v hv
    have := List.all_eq_true.mp hn v hv
    cases v <;> simp at this ⊢
  unfold PySem.W.kitOne
  rw [if_neg (by simp)]
  show (if ((PySem.W.clsIn K C).isSome && PySem.W.typeIn K (.ref C) == some (.type "type")) = true then PySem.W.subIn K (.type T) (.ref C) else none) = some false
  have hc : (PySem.W.clsIn K C).isSome = true := c.isCls
  rw [hc, c.ty, if_pos (by simp)]
  show (PySem.fastBuiltinMro T).map (·.contains (.ref C)) = some false
  rw [hl, Option.map_some, e]
/-- two own classes -/
theorem kit_own_own {C' : Addr} (c : OwnC K C) (c' : OwnC K C') (h : C ≠ C') : PySem.W.kitOne K (.ref C) (.ref C') = some false := by
  have e : ([Value.ref C, .type "object"].contains (.ref C')) = false := by
    simp only [List.contains_cons, List.contains_nil, Bool.or_false, Bool.or_eq_false_iff, beq_eq_false_iff_ne]
    exact ⟨(by intro z; cases z; exact h rfl), (by intro z; cases z)⟩
  unfold PySem.W.kitOne
  rw [if_neg (by simp [h])]
  show (if ((PySem.W.clsIn K C').isSome && PySem.W.typeIn K (.ref C') == some (.type "type")) = true then PySem.W.subIn K (.ref C) (.ref C') else none) = some false
  have hc : (PySem.W.clsIn K C').isSome = true := c'.isCls
  rw [hc, c'.ty, if_pos (by simp)]
  show PySem.W.mroIn K C (.ref C') = some false
  rw [c.mroIn, e]
end
/-- the class that is asked for -/
inductive ClD : D → Value → Prop
  | ty (n : String) : ClD (.ty n) (.type n)
  | own (C : Addr) : ClD (.ref C) (.ref C)
section
variable {X : Cx} {W : WX} {μ μ1 μ2 : List M} {ρ : Env'} {d c : D} {b : Bool} {t u : Value}
theorem cb_isi (y : TyD X.K d t) (k : ClD c u) (h : PySem.W.kitOne X.K t u = some b) : CallO X W (fun us => call (.builtin "isinstance") us) [d, c] μ (.ret (.bl b) μ) :=
  callO_of call_isi fun σ xs H Q L G o r co => by
    obtain ⟨v, w, rfl, r1, r2⟩ := r.two
    cases k with
    | ty n => exact ⟨v, .ty n, t, _, b, by rw [rep_ty.mp r2], .ty n, y.x o r1, h, CO.now (W := W) (σ := σ) co o (rep_bl.mpr rfl)⟩
    | own C => exact ⟨v, .ref C, t, _, b, by rw [rep_ref.mp r2], .own C, y.x o r1, h, CO.now (W := W) (σ := σ) co o (rep_bl.mpr rfl)⟩
end
theorem mro_int : PySem.fastBuiltinMro "int" = some [.type "int", .type "object"] := by decide +kernel
theorem mro_str : PySem.fastBuiltinMro "str" = some [.type "str", .type "object"] := by decide +kernel
theorem mro_bool : PySem.fastBuiltinMro "bool" = some [.type "bool", .type "int", .type "object"] := by decide +kernel
theorem mro_non : PySem.fastBuiltinMro "NoneType" = some [.type "NoneType", .type "object"] := by decide +kernel
theorem mro_tup : PySem.fastBuiltinMro "tuple" = some [.type "tuple", .type "object"] := by decide +kernel
theorem mro_lst : PySem.fastBuiltinMro "list" = some [.type "list", .type "object"] := by decide +kernel

/-! ### own operators -/
section
variable {X : Cx} {W : WX} {k j : Nat} {ps : List Str} {R : Rl} {f C : Addr} {fd : FuncData} {μ : List M} {o : FO} {da db : D} {ns : List Str} {fs : List D}
theorem back {pins : List (Addr × Obj)} {σ : St} {Q : VK} {u : Value} {s' : Shared} (h : EP X pins σ Q u s') : PySem.W.CmpBack (EP X pins σ Q) u s' := by
  obtain ⟨v, H', I, r, q⟩ := id h
  cases v with
  | non => cases r; exact h
  | bl b => cases r; exact h
  | int i => obtain ⟨t, rfl⟩ := r; exact h
  | str i => obtain ⟨t, rfl⟩ := r; exact h
  | byt i => obtain ⟨t, rfl⟩ := r; exact h
  | flt i => obtain ⟨t, rfl⟩ := r; exact h
  | ref a => cases r; exact h
  | ty n => cases r; exact h
/-- an instance as the library sees it -/
theorem inst_at {pins : List (Addr × Obj)} {σ : St} {H : Hp} {s : Shared} {a dx : Addr} {gs : List (Str × V)} (I : Inv X pins σ H s) (e : H a = some (.ins C dx gs)) : ∃ ox od, PySem.W.InstAt s.heap a ox C (some od) := by
  obtain ⟨mA, O, _⟩ := ins_get I.hok e
  obtain ⟨od, J, _⟩ := O.look
  exact ⟨_, od, J⟩
/-- the right side's type, as the library looks it up -/
theorem looks_ty {pins : List (Addr × Obj)} {σ : St} {H : Hp} {s : Shared} {L : List Addr} {G : Hp} {v : V} {u t : Value} (I : Inv X pins σ H s) (ok : Ok X.K L G H μ) (y : TyD X.K db t) (r : Rep X.K L G db v) (ru : RelV v u) :
    PySem.W.Looks (model X.prog X.w) s.heap (typeOf u) t := by
  cases y with
  | non => rw [rep_non.mp r] at ru; cases ru; exact .of_pure rfl
  | bl => rw [rep_bl.mp r] at ru; cases ru; exact .of_pure rfl
  | int => rw [rep_int.mp r] at ru; obtain ⟨t, rfl⟩ := ru; exact .of_pure rfl
  | str => rw [rep_str.mp r] at ru; obtain ⟨t, rfl⟩ := ru; exact .of_pure rfl
  | tup =>
    obtain ⟨a, vs, rfl, q, _⟩ := rep_tup.mp r
    cases ru
    obtain ⟨its, _, ⟨o, ho, hc, _⟩, _⟩ := I.tuple (Same.sqT ok.sub q)
    intro A Q E s' k' q'
    exact wpAny_typeOf_ref (k' _ _ ho) (by rw [hc]; exact q')
  | lst =>
    obtain ⟨a, vs, rfl, q, _⟩ := rep_lst.mp r
    cases ru
    obtain ⟨its, _, ⟨o, n, ho, hc, _⟩, _⟩ := I.list (SqL.of (ok.sub _ _ q))
    intro A Q E s' k' q'
    exact wpAny_typeOf_ref (k' _ _ ho) (by rw [hc]; exact q')
  | obj c =>
    obtain ⟨a, dx, vs, rfl, q, _⟩ := rep_obj.mp r
    cases ru
    obtain ⟨ox, od, J⟩ := inst_at I (ok.sub _ _ q)
    exact J.type
/-- a op b, both of the class -/
theorem oo_own {op : Operator} {ns' : List Str} {fs' : List D} (g : Gd X W k) (oc : OwnC X.K C) (hs : PySem.W.findIn X.K (.ref C) (PySem.dunder op.info.2) = some (some (.ref f))) (hf : PySem.W.isFn X.K (.ref f) = true) (c : Cal X.prog X.w X.K X.mg X.base j ps R f fd)
    (hR : R [.obj C ns fs, .obj C ns' fs'] μ o) (hj : j ≤ k := by decide) : OpO X W (binaryOp op) (.obj C ns fs) (.obj C ns' fs') μ o := by
  intro pins s σ H x y v u Q L G I rx ry ok r1 r2 co
  obtain ⟨m, fr⟩ := I.fr
  have ty := looks_ty I ok (.obj oc) r2 ry
  obtain ⟨a, dx, vs, rfl, q, _⟩ := rep_obj.mp r1
  cases rx
  obtain ⟨ox, od, J⟩ := inst_at I (ok.sub _ _ q)
  exact PySem.W.binop_K fr I.mod.kin J ty oc.self hs hf (wpAny_mono (c.run g hj hR pins s σ H [.ref a, y] [.ref a, u] Q L G I (.cons rfl (.cons ry .nil)) ok (Reps.cons r1 (Reps.cons r2 Reps.nil)) co) (fun _ _ z => back z) fun _ _ z => z)
/-- a op n, a of the class, n an int -/
theorem oo_ownI {op : Operator} {i : Int} {rc fo ro : Option Value} (g : Gd X W k) (oc : OwnC X.K C) (hs : PySem.W.findIn X.K (.ref C) (PySem.dunder op.info.2) = some (some (.ref f))) (hf : PySem.W.isFn X.K (.ref f) = true) (hr : PySem.W.findIn X.K (.ref C) (dunderR op.info.2) = some rc) (hp : rc = none ∨ ∃ g : Addr, rc = some (.ref g))
    (h1 : PySem.W.findIn X.K (.type "int") (PySem.dunder op.info.2) = some fo) (h2 : PySem.W.findIn X.K (.type "int") (dunderR op.info.2) = some ro) (c : Cal X.prog X.w X.K X.mg X.base j ps R f fd)
    (hR : R [.obj C ns fs, .int i] μ o) (hj : j ≤ k := by decide) : OpO X W (binaryOp op) (.obj C ns fs) (.int i) μ o := by
  intro pins s σ H x y v u Q L G I rx ry ok r1 r2 co
  obtain ⟨m, fr⟩ := I.fr
  obtain ⟨a, dx, vs, rfl, q, _⟩ := rep_obj.mp r1
  cases rx
  obtain ⟨ox, od, J⟩ := inst_at I (ok.sub _ _ q)
  have ey := rep_int.mp r2
  subst ey
  have ry' := ry
  obtain ⟨t, rfl⟩ := ry'
  exact PySem.W.ksp_binT fr I.mod.kin J rfl oc.self hs hf hr hp h1 h2 (by show (PySem.fastBuiltinMro "int").map (·.contains (.ref C)) = some false; rw [mro_int]; rfl) (wpAny_mono (c.run g hj hR pins s σ H [.ref a, .int i] [.ref a, .int i t] Q L G I (.cons rfl (.cons ⟨t, rfl⟩ .nil)) ok (Reps.cons r1 (Reps.cons r2 Reps.nil)) co) (fun _ _ z => back z) fun _ _ z => z)
/-- -a -/
theorem ou_own (g : Gd X W k) (hs : PySem.W.findIn X.K (.ref C) "__neg__" = some (some (.ref f))) (hf : PySem.W.isFn X.K (.ref f) = true) (c : Cal X.prog X.w X.K X.mg X.base j ps R f fd) (hR : R [.obj C ns fs] μ o) (hj : j ≤ k := by decide) : UnO X W (unaryOp .USub) (.obj C ns fs) μ o := by
  intro pins s σ H x v Q L G I rx ok r1 co
  obtain ⟨m, fr⟩ := I.fr
  obtain ⟨a, dx, vs, rfl, q, _⟩ := rep_obj.mp r1
  cases rx
  obtain ⟨ox, od, J⟩ := inst_at I (ok.sub _ _ q)
  exact PySem.W.ksp_neg fr I.mod.kin J hs hf (c.run g hj hR pins s σ H [.ref a] [.ref a] Q L G I (.cons rfl .nil) ok (Reps.cons r1 Reps.nil) co)
/-- comparisons, a of the class, b of it or of a built-in kind -/
theorem rich_own {op : CmpOp} {t : Value} (g : Gd X W k) (hs : PySem.W.findIn X.K (.ref C) (cmpInfo op).2.1 = some (some (.ref f))) (hf : PySem.W.isFn X.K (.ref f) = true) (y : TyD X.K db t) (hn : PySem.W.notFirst X.K C t = true) (c : Cal X.prog X.w X.K X.mg X.base j ps R f fd)
    (hR : R [.obj C ns fs, db] μ o) (hj : j ≤ k := by decide) : OpO X W (richCompare op) (.obj C ns fs) db μ o := by
  intro pins s σ H x yy v u Q L G I rx ry ok r1 r2 co
  obtain ⟨m, fr⟩ := I.fr
  have ty := looks_ty I ok y r2 ry
  obtain ⟨a, dx, vs, rfl, q, _⟩ := rep_obj.mp r1
  cases rx
  obtain ⟨ox, od, J⟩ := inst_at I (ok.sub _ _ q)
  exact PySem.W.cmp_K (by have := g.hr.un; omega) fr I.mod.kin J ty hn hs hf (wpAny_mono (c.run g hj hR pins s σ H [.ref a, yy] [.ref a, u] Q L G I (.cons rfl (.cons ry .nil)) ok (Reps.cons r1 (Reps.cons r2 Reps.nil)) co) (fun _ _ z => back z) fun _ _ z => z)
theorem notFirst_own {K : PySem.W.Frag} : PySem.W.notFirst K C (.ref C) = true := by unfold PySem.W.notFirst; simp
theorem notFirst_ty {K : PySem.W.Frag} {T : String} {l : List Value} (hl : PySem.fastBuiltinMro T = some l) (hn : l.all (fun v => match v with | .type _ => true | _ => false) = true) : PySem.W.notFirst K C (.type T) = true := by
  have e : l.contains (.ref C) = false := by
    rw [List.contains_eq_any_beq, List.any_eq_false]
    intro v hv
    have := List.all_eq_true.mp hn v hv
    cases v <;> simp at this ⊢
  unfold PySem.W.notFirst
  rw [Bool.or_eq_true_iff]
  refine .inr ?_
  show ((PySem.fastBuiltinMro T).map (·.contains (.ref C)) == some false) = true
  rw [hl, Option.map_some, e]
  rfl
end

/-! ### properties -/
section
variable {X : Cx} {W : WX} {k j : Nat} {ps : List Str} {R : Rl} {f C p g : Addr} {fd : FuncData} {μ μ1 μ2 : List M} {ρ : Env'} {d d' : D} {e : Expr} {m : Str} {pos : Pos} {ds : List D} {o : FO} {es : List Expr} {apos : Pos}
theorem getpropG {pins : List (Addr × Obj)} {σ : St} {H : Hp} {s : Shared} {Q : VK} {b : Bool} {E' : Value → Shared → Prop} {a dx : Addr} {fs : List (Str × V)} {sp : Sp} (I : Inv X pins σ H s) (ea : H a = some (.ins C dx fs)) (c : Cls X.K C) (hp : PropOf X.K C m p g)
    (F : FnG X.prog X.w X.K X.mg X.base j g fd ps sp) (hr : Room (j + 1) X.A) (gr : Gr (j + 1) X.A) (hb : Binds X.K fd ps []) (h : sp [.ref a] H Q (fun _ _ _ => False)) :
    wpAny (model X.prog X.w) X.A (getAttr (.ref a) m b) (EP X pins σ Q) E' s := by
  obtain ⟨mA, O, _, _, _, _⟩ := ins_get I.hok ea
  obtain ⟨od, J, _⟩ := O.look
  obtain ⟨rest, hrec⟩ := hp.rec_
  have I1 := I.tok (s.toks + 1)
  have hl : ([Value.ref a] ++ ([] : List Value)).length = ps.length := by
    rw [← F.len _ _ _ _ h]
    rfl
  have hc : (PySem.W.clsIn X.K C).isSome = true := by
    obtain ⟨cd, hc, _⟩ := PySem.W.any_some c.hd
    rw [hc]
    rfl
  refine PySem.W.get_bind I.kIn J (PySem.W.plainGet_of (c.get m)).1 (PySem.W.findObj_data hc hp.at_ hp.get hp.tak) (PySem.W.plainGet_of (c.get m)).2 (wpAny_call (PySem.W.prop_get (s := { s with toks := s.toks + 1 }) I.kIn hrec ?_))
  refine codeAny_mono (F.run X.A.in1 X.stack { s with toks := s.toks + 1 } H ⟨[.ref a], []⟩ [.ref a] [.ref a] Q (fun _ _ _ => False) hr.in1 (gr.mono (Nat.le_succ _)) I1.env0.in1 (hb _ [.ref a] I1.kIn hl) (.cons rfl .nil) h) fun r s' hq => ?_
  cases r with
  | error er =>
    obtain ⟨_, _, _, _, _, _, _, _, _, _, _, _, z⟩ := hq
    exact z.elim
  | ok fl =>
    cases fl with
    | ret u =>
      obtain ⟨v, H', I3, rv, q3⟩ := I1.after hq
      show wpAny _ _ (handedOut u) _ _ _
      rw [PySem.W.handedOut_of (handed_of rv)]
      exact wpAny_pure ⟨v, H', I3, rv, q3⟩
    | next => exact False.elim hq
    | brk => exact False.elim hq
    | cont => exact False.elim hq
/-! ### class methods -/
end
end PM

set_option Elab.async false
set_option linter.all false
set_option maxRecDepth 100000
set_option maxHeartbeats 2000000
namespace PM
open PySem L2

/-! ### comprehensions -/
def gW (K : PySem.W.Frag) (vs : List Nat) (μ : List M) (d : D) (ρ ρ' : Env') : TG := fun v σ H Q => ∃ L G, Now K L G H μ ρ σ ∧ Rep K L G d v ∧ ∀ σ' L' G' H', Step L G H L' G' H' → Now K L' G' H' μ ρ' σ' → wipe σ' vs = wipe σ vs → Q σ' H'
def gWs (K : PySem.W.Frag) (vs : List Nat) (μ : List M) (ds : List D) (ρ ρ' : Env') : TGs := fun us σ H Q => ∃ L G, Now K L G H μ ρ σ ∧ Reps K L G ds us ∧ ∀ σ' L' G' H', Step L G H L' G' H' → Now K L' G' H' μ ρ' σ' → wipe σ' vs = wipe σ vs → Q σ' H'
theorem wipe_get (σ : St) : ∀ (vs : List Nat) (j : Nat), j ∈ vs → j < σ.length → (wipe σ vs)[j]? = some none
  | [], _, h, _ => by simp at h
  | v :: vs, j, h, hl => by
    unfold wipe
    by_cases e : v = j
    · subst e
      rw [List.getElem?_set_self (by rw [wipe_length]; exact hl)]
    · rw [List.getElem?_set_ne e]
      exact wipe_get σ vs j (by
        rcases List.mem_cons.mp h with z | z
        · exact (e z.symm).elim
        · exact z) hl
theorem wipe_other (σ : St) : ∀ (vs : List Nat) (j : Nat), j ∉ vs → (wipe σ vs)[j]? = σ[j]?
  | [], _, _ => rfl
  | v :: vs, j, h => by
    unfold wipe
    rw [List.getElem?_set_ne (fun e => h (by rw [e]; exact List.mem_cons_self ..))]
    exact wipe_other σ vs j fun z => h (List.mem_cons_of_mem _ z)
theorem wipe_set {σ : St} {vs : List Nat} {i : Nat} {x : Option V} (h : i ∈ vs) : wipe (σ.set i x) vs = wipe σ vs := by
  apply List.ext_getElem?
  intro j
  by_cases hj : j ∈ vs
  · by_cases hl : j < σ.length
    · rw [wipe_get _ vs j hj (by simpa using hl), wipe_get _ vs j hj hl]
    · rw [List.getElem?_eq_none (by rw [wipe_length]; simpa using hl), List.getElem?_eq_none (by rw [wipe_length]; omega)]
  · rw [wipe_other _ vs j hj, wipe_other _ vs j hj, List.getElem?_set_ne (fun e => hj (by rw [← e]; exact h))]
theorem wipe_idem (σ : St) (vs : List Nat) : wipe (wipe σ vs) vs = wipe σ vs := by
  apply List.ext_getElem?
  intro j
  by_cases hj : j ∈ vs
  · by_cases hl : j < σ.length
    · rw [wipe_get _ vs j hj (by rw [wipe_length]; exact hl), wipe_get _ vs j hj hl]
    · rw [List.getElem?_eq_none (by rw [wipe_length, wipe_length]; omega), List.getElem?_eq_none (by rw [wipe_length]; omega)]
  · rw [wipe_other _ vs j hj]
/-- the block's own names forgotten -/
def wipeD (ρ : Env') : List Nat → Env'
  | [] => ρ
  | v :: vs => (wipeD ρ vs).set v none
theorem RepS.wipe {K : PySem.W.Frag} {L : List Addr} {G : Hp} {ρ : Env'} {σ : St} (h : RepS K L G ρ σ) : ∀ vs, RepS K L G (wipeD ρ vs) (L2.wipe σ vs)
  | [] => h
  | v :: vs => by
    unfold wipeD L2.wipe
    exact (RepS.wipe h vs).unset v
section
variable {X : Cx} {e : Expr} {es : List Expr} {pos : Pos} {ρ ρ1 ρ2 : Env'} {μ : List M} {d : D} {ds : List D} {x : Str} {vs : List Nat}
theorem ew_name (i : Nat) (nd : X.N.Nodup) (hv : i ∈ vs := by decide) (hi : X.N[i]? = some x := by rfl) (hx : Loc X.env.scope x := by first | exact Or.inl rfl | exact Or.inr rfl) (hf : X.fn x = true ∨ X.env.scope.names.lookup x = some .local := by first | exact .inl rfl | exact .inr rfl | assumption) :
    PG X (.Name x pos) (gW X.K vs μ d ρ (ρ.set i (some d))) :=
  pg_of (pg_name nd hi hx hf) fun v σ H Q ⟨L, G, n, r, c⟩ => c _ L G H (.refl _ _ _) ⟨n.ok, n.env.set r i⟩ (wipe_set hv)
end
/-- the block's place -/
abbrev BlkAll (X : Cx) (scope : Scope) (P : Cx → Prop) : Prop := ∀ (s : Shared) (H : Hp) (C : Addr) (cl : List (Str × Addr)) (fp : List Addr), P (X.blk s H scope (compEnvC scope cl C X.env) fp)
theorem Gd.blk {X : Cx} {W : WX} {k : Nat} (g : Gd X W k) {s : Shared} {H : Hp} {scope : Scope} {env : Env} {fp : List Addr} : Gd (X.blk s H scope env fp) W0 k := ⟨g.calm, g.nd, takes0, PassesOwn.never, g.hr, g.gr⟩
/-- what a comprehension makes of ds; vs: the slots of its own names -/
inductive EvC (X : Cx) (scope : Scope) (vs : List Nat) (tg elt : Expr) (ifs : List Expr) (ρ : Env') : List D → List M → List D → List M → Prop
  | nil {μ : List M} : EvC X scope vs tg elt ifs ρ [] μ [] μ
  | keep {d y : D} {ds ys : List D} {ρ1 : Env'} {μ μ1 μ2 μ3 : List M} : BlkAll X scope (fun Y => PG Y tg (gW X.K vs μ d (wipeD ρ vs) ρ1)) → BlkAll X scope (fun Y => PTs Y ifs (tVT X.K ρ1 μ true μ1)) → BlkAll X scope (fun Y => PE Y elt (tV X.K ρ1 μ1 y μ2)) →
      EvC X scope vs tg elt ifs ρ ds μ2 ys μ3 → EvC X scope vs tg elt ifs ρ (d :: ds) μ (y :: ys) μ3
  | skip {d : D} {ds ys : List D} {ρ1 : Env'} {μ μ1 μ3 : List M} : BlkAll X scope (fun Y => PG Y tg (gW X.K vs μ d (wipeD ρ vs) ρ1)) → BlkAll X scope (fun Y => PTs Y ifs (tVT X.K ρ1 μ false μ1)) →
      EvC X scope vs tg elt ifs ρ ds μ1 ys μ3 → EvC X scope vs tg elt ifs ρ (d :: ds) μ ys μ3
theorem EvC.len {X : Cx} {scope : Scope} {vs : List Nat} {tg elt : Expr} {ifs : List Expr} {ρ : Env'} {ds ys : List D} {μ μ' : List M} (h : EvC X scope vs tg elt ifs ρ ds μ ys μ') : ys.length ≤ ds.length := by
  induction h with
  | nil => exact Nat.le_refl _
  | keep _ _ _ _ ih => simpa using ih
  | skip _ _ _ ih => exact Nat.le_succ_of_le ih
section
variable {X : Cx} {W : WX} {k : Nat} {elt tg iter : Expr} {ifs : List Expr} {scope : Scope} {own : List (Str × Nat)} {pos : Pos} {ρ : Env'} {μ μ1 μ2 : List M} {ds ys : List D}
def aPTs (X : Cx) (ifs : List Expr) : TT := fun σ H Q => ∃ t, PTs X ifs t ∧ t σ H Q
/-- a reading that holds in every block -/
def bG (X : Cx) (scope : Scope) (e : Expr) : TG := fun v σ H Q => ∃ t, BlkAll X scope (fun Y => PG Y e t) ∧ t v σ H Q
def bT (X : Cx) (scope : Scope) (ifs : List Expr) : TT := fun σ H Q => ∃ t, BlkAll X scope (fun Y => PTs Y ifs t) ∧ t σ H Q
def bE (X : Cx) (scope : Scope) (e : Expr) : TE := fun σ H Q => ∃ t, BlkAll X scope (fun Y => PE Y e t) ∧ t σ H Q
end
end PM

set_option Elab.async false
set_option linter.all false
set_option maxRecDepth 100000
set_option maxHeartbeats 2000000
namespace PM
open PySem L2

/-! ### plain data -/
mutual
def D.py : D → Option PyData
  | .non => some .none
  | .bl b => some (.bool b)
  | .int i => some (.int i)
  | .str x => some (.str x)
  | .tup ds => (D.pys ds).map .tuple
  | .lst ds => (D.pys ds).map .list
  | .scr ds => (D.pys ds).map .list
  | .ref _ => none
  | .ty _ => none
  | .loc _ => none
  | .exn _ _ _ _ => none
  | .obj _ _ _ => none
def D.pys : List D → Option (List PyData)
  | [] => some []
  | d :: ds => (D.py d).bind fun p => (D.pys ds).map fun ps => p :: ps
end
section
variable {K : PySem.W.Frag} {L : List Addr} {G H : Hp}
mutual
theorem Rep.dp (hs : Same G H) : ∀ {d : D} {v : V} {p : PyData}, Rep K L G d v → D.py d = some p → Dp K H v p
  | .non, v, p, r, h => by rw [rep_non.mp r]; simp only [D.py, Option.some.injEq] at h; subst h; exact .non
  | .bl b, v, p, r, h => by rw [rep_bl.mp r]; simp only [D.py, Option.some.injEq] at h; subst h; exact .bl b
  | .int b, v, p, r, h => by rw [rep_int.mp r]; simp only [D.py, Option.some.injEq] at h; subst h; exact .int b
  | .str b, v, p, r, h => by rw [rep_str.mp r]; simp only [D.py, Option.some.injEq] at h; subst h; exact .str b
  | .tup ds, v, p, r, h => by
    simp only [D.py, Option.map_eq_some_iff] at h
    obtain ⟨ps, h1, rfl⟩ := h
    obtain ⟨a, vs, rfl, q, rr⟩ := rep_tup.mp r
    exact .tup (Same.sqT hs q) (Reps.dp hs rr h1)
  | .lst ds, v, p, r, h => by
    simp only [D.py, Option.map_eq_some_iff] at h
    obtain ⟨ps, h1, rfl⟩ := h
    obtain ⟨a, vs, rfl, q, rr⟩ := rep_lst.mp r
    exact .lst (SqL.of (hs _ _ q)) (Reps.dp hs rr h1)
  | .scr ds, v, p, r, h => by
    simp only [D.py, Option.map_eq_some_iff] at h
    obtain ⟨ps, h1, rfl⟩ := h
    obtain ⟨a, vs, rfl, q, rr⟩ := rep_scr.mp r
    exact .lst (Same.sqL hs q) (Reps.dp hs rr h1)
  | .ref _, _, _, _, h => by simp only [D.py] at h; cases h
  | .ty _, _, _, _, h => by simp only [D.py] at h; cases h
  | .loc _, _, _, _, h => by simp only [D.py] at h; cases h
  | .exn _ _ _ _, _, _, _, h => by simp only [D.py] at h; cases h
  | .obj _ _ _, _, _, _, h => by simp only [D.py] at h; cases h
theorem Reps.dp (hs : Same G H) : ∀ {ds : List D} {vs : List V} {ps : List PyData}, Reps K L G ds vs → D.pys ds = some ps → DpAll K H vs ps
  | [], vs, ps, r, h => by
    rw [r.inv_nil]
    simp only [D.pys, Option.some.injEq] at h
    subst h
    exact .nil
  | d :: ds, vs, ps, r, h => by
    obtain ⟨v, q, rfl, r1, r2⟩ := r.inv_cons
    simp only [D.pys, Option.bind_eq_some_iff, Option.map_eq_some_iff] at h
    obtain ⟨p, h1, ps', h2, rfl⟩ := h
    exact .cons (Rep.dp hs r1 h1) (Reps.dp hs r2 h2)
end
end
section
variable {X : Cx} {W : WX} {k : Nat} {μ : List M} {da db : D} {p q : PyData}
end

/-! ### texts -/
section
variable {X : Cx} {W : WX} {k : Nat} {ρ : Env'} {μ μ1 μ2 : List M} {e : Expr} {es : List Expr} {pos : Pos} {x y : Str} {i : Int}
/-- the parts of an f-string -/
inductive EvJ (X : Cx) (ρ : Env') : List Expr → Str → List M → Str → List M → Prop
  | nil {acc : Str} {μ : List M} : EvJ X ρ [] acc μ acc μ
  | cons {e : Expr} {es : List Expr} {acc x out : Str} {μ μ1 μ2 : List M} : PE X e (tV X.K ρ μ (.str x) μ1) → (acc ++ x).length ≤ sizeLine → EvJ X ρ es (acc ++ x) μ1 out μ2 → EvJ X ρ (e :: es) acc μ out μ2
end
end PM

set_option Elab.async false
set_option linter.all false
set_option maxRecDepth 100000
set_option maxHeartbeats 2000000
namespace PM
open PySem L2

/-! ### the law's own call -/
/-- the law: the script in, True out -/
def RLaw (good : List Int → Prop) : Rl := fun ds μ o => ∃ ns : List Int, good ns ∧ μ = [] ∧ ds = [.scr (ns.map D.int)] ∧ o = .ret (.bl true) []
section
variable {P : Program} {w : World} {K : PySem.W.Frag} {mg mb : Str → Option Value} {k : Nat} {fa a : Addr} {fd : FuncData} {x : Str} {s1 : Shared} {vs : List Value} {ns : List Int} {good : List Int → Prop}
/-- one heap that tells of the script at most -/
theorem law_one (kin : K.In s1.heap) (gl : s1.heap.Ns mainGlobals mg) (bl : s1.heap.Ns builtinsNs mb) (bb : ∀ x : Str, x ≠ "__name__" → mb x = bootBuiltins x) (lim : s1.heap.NoLimit) (gens : s1.gens = #[])
    (scr : s1.heap.get? a = some { cls := .type "list", data := .seq vs.toArray }) (room : Room k callerA) (F : ∀ base : Heap, K.In base → base.Ns mainGlobals mg → FnG P w K mg base k fa fd [x] (spR K (RLaw good)))
    (bnd : ∀ (s : Shared) (u : Value), BindsTo s fd ⟨[u], []⟩ [(x, u)]) (hgood : good ns) (H : Hp) (only : Only H) (sq : SqL K H a (ns.map V.int)) (hok : HOk P w H s1.heap) (hA : ∀ b, H b ≠ none → b = a) (hK : H a ≠ none → K.lookup a = none) :
    codeAny (model P w) callerA (.call (.ref fa) ⟨[.ref a], []⟩) (fun r s' => r = .ok (.ret (.bool true)) ∧ OldK s1.heap s'.heap ∧ s'.os = s1.os ∧ PyProof.Rows.AllBare s'.gens) s1 := by
  have hidden : ∀ {b : Addr} {o : Obj}, s1.heap.get? b = some o → H b = none → (hidT s1.heap H).get? b = some o := fun e n => hidT_get e n
  have isA : ∀ {b : Addr} {u : HO}, H b = some u → b = a := fun {b u} q => hA b fun z => by rw [z] at q; cases q
  have dictFree : ∀ {b : Addr} {o : Obj} {es : Array DictEntry} {ep : Nat}, s1.heap.get? b = some o → o.data = .dict es ep → H b = none := by
    intro b o es ep e d
    cases q : H b with
    | none => rfl
    | some u =>
      obtain rfl := isA q
      rw [scr] at e
      cases e
      cases (show Data.seq vs.toArray _ = Data.dict es ep from d)
  have names : ∀ {b : Addr} {m : Str → Option Value}, s1.heap.Ns b m → (hidT s1.heap H).Ns b m := fun {b m} ⟨o, es, ep, e, d, r⟩ => ⟨o, es, ep, hidden e (dictFree e d), d, r⟩
  have kin0 : K.In (hidT s1.heap H) := by
    intro b o e
    refine hidden (kin b o e) ?_
    cases q : H b with
    | none => rfl
    | some u =>
      obtain rfl := isA q
      rw [hK (by rw [q]; intro z; cases z)] at e
      cases e
  obtain ⟨mc, lim1, lim2⟩ := lim
  have en : Env0 P w K mg (hidT s1.heap H) callerA [] s1 H := ⟨rfl, ⟨kin0, names gl, ⟨mb, names bl, bb⟩, ⟨mc, names lim1, lim2⟩⟩, fun b o e => of_hidT e, Nat.le_of_eq (hidT_size _ _), trivial, fun b hb => absurd (show b ∈ ([] : List Addr) from hb) (by simp), hok, .of_eq gens⟩
  have said : spR K (RLaw good) [.ref a] H (fun v _ => v = .bl true) (fun _ _ _ => False) := by
    refine ⟨[], H, [.scr (ns.map D.int)], [], .ret (.bl true) [], ⟨fun _ _ e => e, rfl, List.nodup_nil, fun b hb => absurd hb (by simp), fun b hb => absurd hb (by simp), fun n b m e => by simp at e⟩, Reps.cons (rep_scr.mpr ⟨a, _, rfl, sq, ints_reps ns⟩) Reps.nil, ⟨ns, hgood, rfl, rfl, rfl⟩, fun v L' G' H' _ _ r => rep_bl.mp r⟩
  refine codeAny_mono ((F _ kin0 (names gl)).run callerA [] s1 H ⟨[.ref a], []⟩ [.ref a] [.ref a] _ _ room (Gr.of rfl) en (bnd s1 (.ref a)) (.cons rfl .nil) said) fun r s' h => ?_
  match r, h with
  | .error e, ⟨_, _, _, _, _, _, _, _, _, _, _, _, z⟩ => exact z.elim
  | .ok .next, h => exact False.elim h
  | .ok .brk, h => exact False.elim h
  | .ok .cont, h => exact False.elim h
  | .ok (.ret u), ⟨v, H', os, bare, un, hok', ru, q⟩ =>
    have ev : v = .bl true := q
    subst ev
    obtain rfl : u = Value.bool true := ru
    refine ⟨rfl, OldK.of_keep fun b o e => ?_, os, bare⟩
    cases q : H b with
    | none => exact un.keep b o e q (by intro z; exact absurd (show b ∈ ([] : List Addr) from z) (by simp)) (by simp)
    | some u =>
      rcases only b with z | ⟨ob, xs, z⟩
      · rw [q] at z; cases z
      · have before := (hok b _ z).1
        have behind := (hok' b _ (un.frzs b ob _ z)).1
        rw [e] at before
        cases before
        exact behind
theorem law_callG (kin : K.In s1.heap) (gl : s1.heap.Ns mainGlobals mg) (bl : s1.heap.Ns builtinsNs mb) (bb : ∀ x : Str, x ≠ "__name__" → mb x = bootBuiltins x) (lim : s1.heap.NoLimit) (gens : s1.gens = #[])
    (scr : s1.heap.get? a = some { cls := .type "list", data := .seq vs.toArray }) (isI : PyProof.Rows.IntsAre vs ns) (hl : ns.length ≤ sizeLine) (room : Room k callerA) (F : ∀ base : Heap, K.In base → base.Ns mainGlobals mg → FnG P w K mg base k fa fd [x] (spR K (RLaw good)))
    (bnd : ∀ (s : Shared) (u : Value), BindsTo s fd ⟨[u], []⟩ [(x, u)]) (hgood : good ns) :
    codeAny (model P w) callerA (.call (.ref fa) ⟨[.ref a], []⟩) (fun r s' => r = .ok (.ret (.bool true)) ∧ OldK s1.heap s'.heap ∧ s'.os = s1.os ∧ PyProof.Rows.AllBare s'.gens) s1 := by
  have rel := vals_ints isI
  cases hk : K.lookup a with
  | some o =>
    have e := kin a o hk
    rw [scr] at e
    cases e
    exact law_one kin gl bl bb lim gens scr room F bnd hgood (fun _ => none) (fun _ => .inl rfl) (.inr ⟨_, vs.toArray, _, hk, rfl, rfl, rfl, by rw [List.size_toArray, isI.length]; exact hl, by simpa using rel⟩)
      (fun b u z => nomatch z) (fun b z => absurd rfl z) (fun z => absurd rfl z)
  | none =>
    refine law_one kin gl bl bb lim gens scr room F bnd hgood (upd (fun _ => none) a (.frz { cls := .type "list", data := .seq vs.toArray } (.lst (ns.map V.int)))) (fun b => ?_) (.inl (.inr ⟨_, upd_same⟩)) (fun b u z => ?_) (fun b z => ?_) (fun _ => hk)
    · by_cases hb : b = a
      · rw [hb, upd_same]
        exact .inr ⟨_, _, rfl⟩
      · exact .inl (upd_ne hb)
    · by_cases hb : b = a
      · subst hb
        rw [upd_same] at z
        cases z
        exact ⟨scr, by rw [List.length_map]; exact hl, vs, _, rel, scr⟩
      · rw [upd_ne hb] at z
        cases z
    · by_cases hb : b = a
      · exact hb
      · exact absurd (upd_ne hb) z
end
/-- what is known of a script -/
structure Scr (ns : List Int) : Prop where
  len : ns.length ≤ 63
  bits : ∀ z ∈ ns, Builtin.Int.intBits z ≤ 1048576
theorem walkG {l : PySem.W.OpenLaw} {k : Nat} {q : Program} {loose : List Str} {XP : (Str → Option Value) → Heap → Prop} {YP : World → Heap → Prop} {d : DefRec} {K : Params → PySem.W.Frag} {x : Str}
    (hn : l.most = some 63) (hdf : d.params.defaults = []) (room : Room k callerA) (hY : ∀ (w : World) (h : Heap), YP w h → (K w.params).In h)
    (F : ∀ (w : World) (mg : Str → Option Value) (fa : Addr) (h : Heap), (K w.params).In h → h.Ns mainGlobals mg → mg d.name = some (.ref fa) →
      ∃ fd : FuncData, (∀ (s : Shared) (u : Value), BindsTo s fd ⟨[u], []⟩ [(x, u)]) ∧ ∀ base : Heap, (K w.params).In base → base.Ns mainGlobals mg → FnG l.prog w (K w.params) mg base k fa fd [x] (spR (K w.params) (RLaw Scr))) :
    PySem.W.WalkO q loose XP YP l.row.toRowW d [] (fun f vs => PySem.call f vs) := by
  refine Att.attach_callB hn hdf fun w s0 s1 mg mb fa o pm cd doc a vs ns G Y ho hd hcd hmg hobj hints hlen hbits hg => ?_
  have kin := hY w _ Y
  obtain ⟨fd, hb, hF⟩ := F w mg fa _ kin G.T.g hmg
  exact law_callG kin G.T.g G.T.b G.T.builtins G.T.nolimit hg hobj hints (Nat.le_trans hlen (by decide)) room hF hb ⟨hlen, hbits⟩
end PM

set_option Elab.async false
set_option linter.all false
set_option maxRecDepth 100000
namespace PM
open PySem L2
section
variable {X : Cx} {W : WX} {k : Nat} {e : Expr} {A B body : List Stmt} {pos : Pos} {ρ : Env'} {μ μ1 : List M} {q : Out} {b : Bool} {tg : Expr} {ds : List D}
/-- a while whose state is told by one value -/
theorem es_whileM {S : Type} (ρ : S → Env') (μ : S → List M) (m : S → Nat) (c : S → Bool) (nx fin : S → S) (g : Gd X W k) (s : S)
    (hc : ∀ s, PT X e (tVT X.K (ρ s) (μ s) (c s) (μ s))) (hb : ∀ s, c s = true → PSs X body (tS W X.K (ρ s) (μ s) (.next (ρ (nx s)) (μ (nx s)))))
    (hm : ∀ s, c s = true → m (nx s) < m s) (hf : ∀ s, c s = false → fin s = s) (hf' : ∀ s, c s = true → fin (nx s) = fin s) :
    PS X (.While e body [] pos) (tS W X.K (ρ s) (μ s) (.next (ρ (fin s)) (μ (fin s)))) := by
  have go : ∀ n s, m s = n → ∃ j, EvWh X W e body j (ρ s) (μ s) (.next (ρ (fin s)) (μ (fin s))) := by
    intro n
    induction n using Nat.strongRecOn with
    | _ n ih =>
      intro s hs
      cases h : c s with
      | false => exact ⟨0, by rw [hf s h]; exact .stop (h ▸ hc s) (Sub.refl _)⟩
      | true =>
        obtain ⟨j, h2⟩ := ih (m (nx s)) (by rw [← hs]; exact hm s h) (nx s) rfl
        rw [hf' s h] at h2
        exact ⟨j + 1, .next (h ▸ hc s) (hb s h) h2⟩
  obtain ⟨j, h⟩ := go _ s rfl
  exact es_while g h
theorem es_ifT (h : PT X e (tVT X.K ρ μ b μ1)) (hb : b = true) (h1 : PSs X A (tS W X.K ρ μ1 q)) : PS X (.If e A B pos) (tS W X.K ρ μ q) := es_if h (fun _ => h1) fun z => by rw [hb] at z; cases z
theorem es_ifF (h : PT X e (tVT X.K ρ μ b μ1)) (hb : b = false) (h1 : PSs X B (tS W X.K ρ μ1 q)) : PS X (.If e A B pos) (tS W X.K ρ μ q) := es_if h (fun z => by rw [hb] at z; cases z) fun _ => h1
end
end PM

set_option Elab.async false
set_option linter.all false
set_option maxRecDepth 100000
namespace PM
open PySem L2 PyProof.Rows
section
variable {K : PySem.W.Frag} {C B : Addr}
/-- an error of the class C is what «except B» names -/
theorem exm_of (h1 : PySem.W.subIn K (.ref B) (.type "BaseException") = some true) (h2 : PySem.W.isClsIn K B = true) (h3 : PySem.W.typeIn K (.ref B) = some (.type "type")) {b : Bool} (h4 : PySem.W.subIn K (.ref C) (.ref B) = some b) :
    PySem.W.exmOne K (.ref C) (.ref B) = some b := by
  have h2' : (PySem.W.clsIn K B).isSome = true := h2
  unfold PySem.W.exmOne PySem.W.kitCls
  simp only [h1, h2', h3, h4, beq_self_eq_true, Bool.and_self, if_true]
theorem mro_of {o : Value} {d : Option Addr} {cd : ClassData} {sl : Array (Option Value)} {l : List Value} (h : K.lookup C = some ⟨o, d, .cls cd, sl⟩) (e : cd.mro = l) : (PySem.W.clsIn K C).map (·.mro) = some l := by
  unfold PySem.W.clsIn
  rw [h, ← e]
  rfl
end
/-! ### a op= b on an own class: as a op b -/
section
variable {prog : Program} {w : World} {M : Model} {A : Around} {E : Value → Shared → Prop} {s : Shared} {K : PySem.W.Frag} {x C L f : Addr} {h₀ : Heap} {m : Str → Option Value} {ox : Obj} {od : Option Obj} {nm T : String}
end
end PM

set_option Elab.async false
set_option linter.all false
set_option maxRecDepth 100000
namespace PM
open PySem L2
/-! ### a op= b -/
section
variable {X : Cx} {W : WX} {k j : Nat} {ps : List Str} {R : Rl} {f C : Addr} {fd : FuncData} {μ μ1 μ2 : List M} {o : FO} {da db d : D} {ns ns' : List Str} {fs fs' : List D} {op : Operator} {ρ : Env'} {e : Expr} {pos : Pos} {x : Str}
end
/-! ### calls by names -/
/-- how values are put in the parameters' order: positional ones, then those of the keywords -/
def pick {α : Type} (p : List Nat) (l : List α) : List α := p.filterMap (l[·]?)
structure KwB (K : PySem.W.Frag) (fd : FuncData) (ps : List Str) (n : Nat) (ks : List Str) (p : List Nat) : Prop where
  to : ∀ (s : Shared) (us ws : List Value), K.In s.heap → us.length = n → ws.length = ks.length → BindsTo s fd ⟨us, ks.zip ws⟩ (ps.zip (pick p (us ++ ws)))
  le : ∀ i ∈ p, i < n + ks.length
section
variable {X : Cx} {W : WX} {k j n : Nat} {ps ks : List Str} {p : List Nat} {R : Rl} {f C : Addr} {fd : FuncData} {ds es' : List D} {μ μ1 μ2 : List M} {o : FO} {e : Expr} {es : List Expr} {x m : Str} {pp pos apos kpos : Pos} {ρ : Env'} {d : D} {kws : List Keyword} {nm : Option Str}
theorem pk_of {t t' : TA} (h : PK X kws t) (w : ∀ σ H Q, t' σ H Q → t σ H Q) : PK X kws t' := ⟨fun pos pins s σ H Q I q => h.run pos pins s σ H Q I (w _ _ _ q)⟩
end
end PM

set_option Elab.async false
set_option linter.all false
set_option maxRecDepth 100000
namespace PM
open PySem L2
theorem Gd.w0 {X : Cx} {W : WX} {k : Nat} (g : Gd X W k) : Gd X W0 k := ⟨g.calm, g.nd, g.tk.imp fun _ _ _ _ z => False.elim z, g.po, g.hr, g.gr⟩
/-! ### the rules where a value comes -/
section
variable {X : Cx} {W : WX} {k j i : Nat} {ps : List Str} {R : Rl} {f C : Addr} {fd : FuncData} {ds : List D} {μ μ1 μ2 μ3 : List M} {e a b c : Expr} {es : List Expr} {x m : Str} {p pos apos : Pos} {ρ : Env'} {d d' da db : D} {id T : String} {t : Bool}
theorem es_retV (h : PE X e (tV X.K ρ μ d μ1)) : PS X (.Return (some e) pos) (tS W X.K ρ μ (.ret d μ1)) := es_ret (o := .ret d μ1) h
theorem es_setV (i : Nat) (nd : X.N.Nodup) (h : PE X e (tV X.K ρ μ d μ1)) {pos' : Pos} (hi : X.N[i]? = some x := by rfl) (hx : Loc X.env.scope x := by first | exact Or.inl rfl | exact Or.inr rfl) (hs : swapsWith e (some (.Name x pos')) pos.line X.env = pure false := by rfl)
    (hf : X.fn x = true ∨ X.env.scope.names.lookup x = some .local := by first | exact .inl rfl | exact .inr rfl | assumption) : PS X (.Assign [.Name x pos'] e pos) (tS W X.K ρ μ (.next (ρ.set i (some d)) μ1)) := es_set i nd (o := .ret d μ1) h hi hx hs hf
theorem ev_opV {op : Operator} (ha : PE X a (tV X.K ρ μ da μ1)) (hb : PE X b (tV X.K ρ μ1 db μ2)) (ho : OpO X W (binaryOp op) da db μ2 (.ret d μ3)) : PE X (.BinOp a op b pos) (tV X.K ρ μ d μ3) := ev_op ha hb ho
theorem ev_opI {op : Operator} (ha : PE X a (tV X.K ρ μ da μ1)) (hb : PE X b (tV X.K ρ μ1 db μ2)) (ho : OpO X W0 (binaryOp op) da db μ2 (.ret d μ3)) : PE X (.BinOp a op b pos) (tV X.K ρ μ d μ3) := ev_op (o := .ret d μ3) ha hb ho
theorem ev_cmpV {op : CmpOp} (ha : PE X a (tV X.K ρ μ da μ1)) (hb : PE X b (tV X.K ρ μ1 db μ2)) (ho : OpO X W0 (compareOp op) da db μ2 (.ret d μ3)) (hm : behindInMarks op b = false := by first | exact nomark _ | rfl) : PE X (.Compare a [op] [b] pos) (tV X.K ρ μ d μ3) := ev_cmp (o := .ret d μ3) ha hb ho hm
theorem ev_unV {op : UnaryOp} (ha : PE X a (tV X.K ρ μ da μ1)) (ho : UnO X W (unaryOp op) da μ1 (.ret d μ2)) : PE X (.UnaryOp op a pos) (tV X.K ρ μ d μ2) := ev_un ha ho
theorem ev_unI {op : UnaryOp} (ha : PE X a (tV X.K ρ μ da μ1)) (ho : UnO X W0 (unaryOp op) da μ1 (.ret d μ2)) : PE X (.UnaryOp op a pos) (tV X.K ρ μ d μ2) := ev_un (o := .ret d μ2) ha ho
theorem ev_bltV (ha : PA X (e :: es) (tVA X.K ρ μ ds μ1)) (hf : CallO X W0 (fun us => call (.builtin id) us) ds μ1 (.ret d μ2)) (hm : X.mg x = none) (hv : bootBuiltins x = some (.builtin id)) (hg : Gl X x := by rfl) (hn : x ≠ "__name__" := by decide) (hdb : (x == ("__debug__" : Str)) = false := by decide) (he : starEach (e :: es) X.env = (false, eval e X.env) :: starEach es X.env := by rfl) (hpl : (backTo pos (starEach es X.env)).any (·.1) = false := by rfl) :
    PE X (.Call (.Name x p) (e :: es) [] pos) (tV X.K ρ μ d μ2) := ev_blt (o := .ret d μ2) ha hf hm hv hg hn hdb he hpl
theorem ev_callV (g : Gd X W k) (c : Cal X.prog X.w X.K X.mg X.base j ps R f fd) (hm : X.mg x = some (.ref f)) (hk : PySem.W.keepIn X.K (.ref f) = true) (ha : PA X (e :: es) (tVA X.K ρ μ ds μ1)) (hR : R ds μ1 (.ret d μ2)) (hj : j ≤ k := by decide) (hg : Gl X x := by rfl) (hdb : (x == ("__debug__" : Str)) = false := by decide) (he : starEach (e :: es) X.env = (false, eval e X.env) :: starEach es X.env := by rfl) (hpl : (backTo pos (starEach es X.env)).any (·.1) = false := by rfl) :
    PE X (.Call (.Name x p) (e :: es) [] pos) (tV X.K ρ μ d μ2) := ev_call (o := .ret d μ2) g c hm hk ha hR hj hg hdb he hpl
theorem ev_oneV {op} (h : PE X a (tV X.K ρ μ d μ1)) : PE X (.BoolOp op [a] pos) (tV X.K ρ μ d μ1) := ev_one (W := W0) (o := .ret d μ1) h
end
end PM

set_option Elab.async false
set_option linter.all false
set_option maxRecDepth 100000
namespace PM
open PySem L2
/-! ### statements whose end is known by a property alone -/
section
variable {X : Cx} {W : WX} {k : Nat} {e tg : Expr} {body rest ss A B : List Stmt} {st : Stmt} {pos : Pos} {ds : List D} {ρ ρ0 ρ1 : Env'} {μ μ0 μ1 : List M} {q : Out} {L : Out → Prop} {b : Bool}
def Evs (X : Cx) (W : WX) (ss : List Stmt) (ρ : Env') (μ : List M) (L : Out → Prop) : Prop := ∃ q, L q ∧ PSs X ss (tS W X.K ρ μ q)
/-- the end of a loop's body: the names as at its begin, something known of the store -/
def Nx (ρ0 : Env') (Iv : List M → Prop) : Out → Prop := fun q => ∃ ρ2 μ2, (q = .next ρ2 μ2 ∨ q = .cont ρ2 μ2) ∧ Iv μ2 ∧ Sub ρ0 ρ2
end
end PM

set_option Elab.async false
set_option linter.all false
set_option maxRecDepth 100000
namespace PM
open PySem L2 PyProof.Rows
/-! ### an int, or another plain thing, ahead of an own instance -/
section
variable {i : Int} {t : Tok} {x C dx : Addr}
/-- what a builtin answers that does not know the other side -/
abbrev Declines (x C dx : Addr) : PySem.Spec := fun _ R s => s.heap.get? x = some (PySem.W.instObj C dx) ∧ R (.ok (.ret .notImplemented)) s
theorem dec_le : Meets (Builtin.«int.__le__» ⟨[.int i t, .ref x], []⟩) (Declines x C dx) :=
  .of_wp fun prog w A R s h => by obtain ⟨hp, g, d, tk, os⟩ := s; obtain ⟨hl, h⟩ := h; wp_walk using wpAny_loadPart' hl; exact ⟨_, rfl, h⟩
end
section
variable {prog : Program} {w : World} {A : Around} {E : Value → Shared → Prop} {s : Shared} {K : PySem.W.Frag} {x C dx f : Addr} {od : Option Obj} {T id : String} {B : Builtin} {a : Value}
open PySem.W in
theorem refl_cmp {op : CmpOp} {Q : Value → Shared → Prop} (hu : A.units < cLine) (Y : K.In s.heap) (I : InstAt s.heap x (instObj C dx) C od) (ha : s.TypeIs a T) (h1 : oneThing? op a (.ref x) = none) (hsub : subIn K (.ref C) (.type T) = some false)
    (slot : Slot T (cmpInfo op).2.1 id) (entry : entryFor table id = some B) (args : argsOk id ⟨[a, .ref x], []⟩) (dec : Meets (B ⟨[a, .ref x], []⟩) (Declines x C dx)) (hs : findIn K (.ref C) (cmpInfo op).2.2 = some (some (.ref f))) (hf : isFn K (.ref f) = true)
    (h : wpAny (model prog w) A (call (.ref f) [.ref x, a]) (PySem.W.CmpBack Q) E s) : wpAny (model prog w) A (richCompare op a (.ref x)) Q E s := by
  have one : wpAny (model prog w) A (tryCompare (.ref x) (cmpInfo op).2.2 a) (fun r s' => ∃ v, r = some v ∧ Q v s') E s := by
    unfold tryCompare
    refine wpAny_bind (ifBound_K Y I hs hf (wpAny_mono h (fun v s' hv => ?_) fun _ _ e => e))
    cases v <;> first | exact hv.elim | exact wpAny_pure ⟨_, rfl, hv⟩
  unfold richCompare
  simp only [h1]
  refine wpAny_holding (wpAny_bind (wpAny_cRoomFor hu ?_))
  refine wpAny_bind (wpAny_typeOf ha (wpAny_bind (I.type.here ?_)))
  have ne : (Value.type T != Value.ref C) = true := rfl
  simp only [ne, if_true]
  refine wpAny_bind ((looks_subIn Y hsub).here ?_)
  simp only [Bool.false_eq_true, if_false]
  refine wpAny_bind (wpAny_tryCompare_declines ha slot (call_meets slot ha entry args dec ⟨I.at_, rfl, ?_⟩))
  simp only [Bool.not_false, if_true]
  refine wpAny_bind (wpAny_mono one (fun r s' z => ?_) fun _ _ e => e)
  obtain ⟨v, rfl, hq⟩ := z
  exact wpAny_pure hq
end
/-! ### by data -/
section
variable {X : Cx} {W : WX} {k j : Nat} {ps : List Str} {R : Rl} {f C : Addr} {fd : FuncData} {μ : List M} {o : FO} {da : D} {ns : List Str} {fs : List D} {i : Int}
theorem inst_at2 {pins : List (Addr × Obj)} {σ : L2.St} {H : Hp} {s : Shared} {a dx : Addr} {gs : List (Str × V)} (I : Inv X pins σ H s) (e : H a = some (.ins C dx gs)) : ∃ dx od, PySem.W.InstAt s.heap a (PySem.W.instObj C dx) C (some od) := by
  obtain ⟨mA, O, _⟩ := ins_get I.hok e
  obtain ⟨od, J, _⟩ := O.look
  exact ⟨_, od, J⟩
theorem sub_own (oc : OwnC X.K C) {T : String} (hT : T ≠ "object") : PySem.W.subIn X.K (.ref C) (.type T) = some false := by
  show PySem.W.mroIn X.K C (.type T) = _
  rw [oc.mroIn]
  simp [hT]
/-- n cmp a, n an int -/
theorem oc_intOwn {op : CmpOp} {id : String} {B : Builtin} (g : Gd X W k) (oc : OwnC X.K C) (h1 : ∀ (t : Tok) (x : Addr), oneThing? op (.int i t) (.ref x) = none) (slot : Slot "int" (cmpInfo op).2.1 id) (entry : entryFor table id = some B) (args : ∀ a b, argsOk id ⟨[a, b], []⟩)
    (dec : ∀ (t : Tok) (x dx : Addr), Meets (B ⟨[.int i t, .ref x], []⟩) (Declines x C dx)) (hs : PySem.W.findIn X.K (.ref C) (cmpInfo op).2.2 = some (some (.ref f))) (hf : PySem.W.isFn X.K (.ref f) = true)
    (c : Cal X.prog X.w X.K X.mg X.base j ps R f fd) (hR : R [.obj C ns fs, .int i] μ o) (hj : j ≤ k := by decide) : OpO X W (richCompare op) (.int i) (.obj C ns fs) μ o := by
  intro pins s σ H x y v u Q L G I rx ry ok r1 r2 co
  obtain ⟨a, dx, vs, rfl, q, _⟩ := rep_obj.mp r2
  cases ry
  obtain ⟨dx, od, J⟩ := inst_at2 I (ok.sub _ _ q)
  have ey := rep_int.mp r1
  subst ey
  have rx' := rx
  obtain ⟨t, rfl⟩ := rx'
  exact refl_cmp (by have := g.hr.un; omega) I.kIn J (typeIs_int s i t) (h1 t a) (sub_own oc (by decide)) slot entry (args _ _) (dec t a dx) hs hf (wpAny_mono (c.run g hj hR pins s σ H [.ref a, .int i] [.ref a, .int i t] Q L G I (.cons rfl (.cons ⟨t, rfl⟩ .nil)) ok (Reps.cons r2 (Reps.cons r1 Reps.nil)) co) (fun _ _ z => back z) fun _ _ z => z)
end
end PM

set_option Elab.async false
set_option linter.all false
set_option maxRecDepth 100000
namespace PM
open PySem L2
/-! ### builtins that ask an own method -/
section
variable {X : Cx} {W : WX} {k j : Nat} {ps : List Str} {R : Rl} {f C : Addr} {fd : FuncData} {μ μ2 : List M} {d : D} {ds : List D} {ns : List Str} {fs : List D} {y : Str} {b : Bool}
/-- a call from within a builtin; the value is known to be what d tells -/
theorem Cal.runV {B : Around} {pins : List (Addr × Obj)} {s : Shared} {σ : St} {H : Hp} {xs : List V} {us : List Value} {Q : VK} {L : List Addr} {G : Hp} {E' : Value → Shared → Prop} (c : Cal X.prog X.w X.K X.mg X.base j ps R f fd) (hr : Room j B) (gr : Gr j B) (e0 : Env0 X.prog X.w X.K X.mg X.base B X.stack s H)
    (hR : R ds μ (.ret d μ2)) (I : Inv X pins σ H s) (rx : Vals xs us) (ok : Ok X.K L G H μ) (r : Reps X.K L G ds xs) (co : Comes X.K L G H d μ2 Q) : wpAny (model X.prog X.w) B (call (.ref f) us) (EP X pins σ fun v H' => (∃ L' G', Rep X.K L' G' d v) ∧ Q v H') E' s := by
  have hsp : spR X.K R xs H (fun v H' => (∃ L' G', Rep X.K L' G' d v) ∧ Q v H') (fun _ _ _ => False) := ⟨L, G, ds, μ, .ret d μ2, ok, r, hR, fun v L' G' H' s' o' r' => ⟨⟨L', G', r'⟩, co v L' G' H' s' o' r'⟩⟩
  have hl : us.length = ps.length := by rw [← rx.length]; exact c.ok.len _ _ _ _ hsp
  have bd := c.bd s us I.kIn (by rw [List.append_nil]; exact hl)
  rw [List.append_nil] at bd
  refine wpAny_call (codeAny_mono (c.ok.run B X.stack s H ⟨us, []⟩ us xs _ (fun _ _ _ => False) hr gr e0 bd rx hsp) fun r s' hq => ?_)
  cases r with
  | error er =>
    obtain ⟨_, _, _, _, _, _, _, _, _, _, _, _, z⟩ := hq
    exact z.elim
  | ok fl =>
    cases fl with
    | ret u => exact I.after hq
    | next => exact False.elim hq
    | brk => exact False.elim hq
    | cont => exact False.elim hq
/-- abs(a) -/
theorem cb_absOwn (g : Gd X W k) (hm : Meth X.K C "__abs__" f) (c : Cal X.prog X.w X.K X.mg X.base j ps R f fd) (hR : R [.obj C ns fs] μ (.ret d μ2)) (hj : j + 1 ≤ k := by decide) : CallO X W (fun us => call (.builtin "abs") us) [.obj C ns fs] μ (.ret d μ2) := by
  intro pins s σ H xs us Q L G I rx ok r co
  obtain ⟨v, rfl, r1⟩ := r.one
  obtain ⟨u, rfl, ru⟩ := rx.one
  obtain ⟨a, dx, vs, rfl, q, _⟩ := rep_obj.mp r1
  cases ru
  obtain ⟨ox, od, J⟩ := inst_at I (ok.sub _ _ q)
  have hr := g.hr.mono hj
  refine Calls.call_function_entry PyProof.Rows.kind_abs PyProof.Rows.plain_abs PyProof.Rows.entry_abs (PyProof.Rows.args_abs _) ?_
  unfold Builtin.«abs»
  refine wpAny_bind (m := oneArg "abs" _) (wpAny_pure ?_)
  refine wpAny_bind (m := callSpecial? (.ref a) (Str.ofString "__abs__")) (PySem.W.special_fn I.kIn J hm.at_ (beq_iff_eq.mp hm.fn) (wpAny_mono (c.runV hr.in1 (g.gr.mono (by omega)) I.env0.in1 hR I (xs := [.ref a]) (.cons rfl .nil) ok (Reps.cons r1 Reps.nil) co) (fun r s' hr => ?_) fun _ _ y => y))
  obtain ⟨v, H', I', rv, _, q'⟩ := hr
  exact wpAny_pure ⟨_, rfl, v, H', I', rv, q'⟩
end
end PM

set_option Elab.async false
set_option linter.all false
set_option maxRecDepth 100000
namespace PM
open PySem L2
section
variable {prog : Program} {w : World} {A : Around} {E : Value → Shared → Prop} {s : Shared} {K : PySem.W.Frag} {x C dx f : Addr} {od : Option Obj} {T id : String} {a : Value}
end
section
variable {X : Cx} {W : WX} {k j : Nat} {ps : List Str} {R : Rl} {f C : Addr} {fd : FuncData} {μ : List M} {o : FO} {da : D} {ns : List Str} {fs ds es : List D} {y : Str} {b : Bool}
theorem oo_catL (h : ds.length + es.length ≤ sizeLine) : OpO X W (binaryOp .Add) (.lst ds) (.lst es) μ (.ret (.lst (ds ++ es)) μ) :=
  opO_of op_cat fun σ u v H Q L G o r1 r2 c => by
    obtain ⟨a, vs, rfl, q1, s1⟩ := rep_lst.mp r1
    obtain ⟨a', vs', rfl, q2, s2⟩ := rep_lst.mp r2
    refine ⟨a, a', vs, vs', rfl, rfl, o.sub _ _ q1, o.sub _ _ q2, by rw [s1.length, s2.length]; exact h, fun p hp => ?_⟩
    refine CO.fresh (W := W) (σ := σ) c o hp (rep_lst.mpr ⟨p, vs ++ vs', rfl, upd_same, ?_⟩)
    have e := (o.new (p := p) (o := .lst (vs ++ vs')) hp).2.gs
    exact (s1.mono (Pre.refl _) e).append (s2.mono (Pre.refl _) e)
end
end PM

set_option Elab.async false
set_option linter.all false
set_option maxRecDepth 100000
namespace PM
open PySem L2
section
variable {X : Cx} {W : WX} {k : Nat} {e tg : Expr} {body rest : List Stmt} {pos : Pos} {ds : List D} {ρ : Env'} {μ0 μ1 : List M} {L : Out → Prop}
/-- the end of a loop's body: something known of names and store -/
def NxS (Iv : Env' → List M → Prop) : Out → Prop := fun q => ∃ ρ2 ρ3 μ2, (q = .next ρ2 μ2 ∨ q = .cont ρ2 μ2) ∧ Sub ρ3 ρ2 ∧ Iv ρ3 μ2
end
end PM

set_option Elab.async false
set_option linter.all false
set_option maxRecDepth 100000
namespace PM
open PySem L2 PyProof.Rows
section
variable {prog : Program} {w : World} {A : Around} {E : Value → Shared → Prop} {s : Shared} {K : PySem.W.Frag} {x C f : Addr} {ox : Obj} {od : Option Obj}
end
section
variable {X : Cx} {W : WX} {k j : Nat} {ps : List Str} {R : Rl} {f C : Addr} {fd : FuncData} {μ μ1 μ2 : List M} {o : FO} {ns : List Str} {fs ds : List D} {x y : Str} {b : Bool} {i : Int} {a c : Expr} {rest : List Expr} {pos : Pos} {ρ : Env'}
end
end PM

set_option Elab.async false
set_option linter.all false
set_option maxRecDepth 100000
namespace PM
open PySem L2
section
variable {X : Cx} {W : WX} {k j n : Nat} {ps ks : List Str} {p : List Nat} {R : Rl} {f C : Addr} {fd : FuncData} {ds es' : List D} {μ μ1 μ2 : List M} {o : FO} {x m : Str} {pp pos apos kpos : Pos} {ρ : Env'} {d : D} {kws : List Keyword}
end
end PM

set_option linter.all false
namespace PM
/-! ### plain numbers -/
/-- a number of few bits -/
def Fit (n : Nat) (q : Rat) : Prop := q.num.natAbs < 2 ^ n ∧ q.den < 2 ^ n
theorem Fit.mono {n m : Nat} {q : Rat} (h : Fit n q) (l : n ≤ m) : Fit m q := ⟨Nat.lt_of_lt_of_le h.1 (Nat.pow_le_pow_right (by decide) l), Nat.lt_of_lt_of_le h.2 (Nat.pow_le_pow_right (by decide) l)⟩
theorem divInt_bounds (t b : Int) (hb : b ≠ 0) : (Rat.divInt t b).num.natAbs ≤ t.natAbs ∧ (Rat.divInt t b).den ≤ b.natAbs := by
  constructor
  · rw [Rat.num_divInt]
    refine Nat.le_trans (Int.natAbs_ediv_le_natAbs _ _) ?_
    rw [Int.natAbs_mul]
    have : b.sign.natAbs = 1 := Int.natAbs_sign_of_ne_zero hb
    rw [this, Nat.one_mul]; exact Nat.le_refl _
  · rw [Rat.den_divInt, if_neg hb]
    exact Nat.div_le_self _ _
theorem fit_divInt {n : Nat} {t b : Int} (h1 : t.natAbs < 2 ^ n) (h2 : b.natAbs < 2 ^ n) (hb : b ≠ 0) : Fit n (Rat.divInt t b) :=
  ⟨Nat.lt_of_le_of_lt (divInt_bounds t b hb).1 h1, Nat.lt_of_le_of_lt (divInt_bounds t b hb).2 h2⟩
theorem mul_lt_pow {a b n m : Nat} (h1 : a < 2 ^ n) (h2 : b < 2 ^ m) : a * b < 2 ^ (n + m) := by
  rw [Nat.pow_add]
  exact Nat.mul_lt_mul'' h1 h2
theorem rat_eq (q : Rat) : q = Rat.divInt q.num q.den := (Rat.num_divInt_den q).symm
theorem add_rt (a b : Rat) : a + b = Rat.divInt (a.num * b.den + b.num * a.den) (a.den * b.den) := by
  rw [Rat.add_def', ← Rat.divInt_ofNat]; simp
theorem mul_rt (a b : Rat) : a * b = Rat.divInt (a.num * b.num) (a.den * b.den) := by
  rw [Rat.mul_def', ← Rat.divInt_ofNat]; simp
theorem div_rt (a b : Rat) : a / b = Rat.divInt (a.num * b.den) (a.den * b.num) := by
  rw [Rat.div_def, Rat.inv_def]
  conv => lhs; lhs; rw [rat_eq a]
  rw [Rat.divInt_mul_divInt]
theorem neg_rt (a : Rat) : -a = Rat.divInt (-a.num) a.den := by
  conv => lhs; rw [rat_eq a]
  rw [Rat.neg_divInt]
/-- what Ratio makes of a top and a bottom -/
theorem divInt_num {t b : Int} (hb : 0 < b) : (Rat.divInt t b).num = t / (Nat.gcd t.natAbs b.natAbs : Nat) := by
  rw [Rat.num_divInt, Int.sign_eq_one_of_pos hb, Int.one_mul, Int.gcd_comm]; rfl
theorem divInt_den {t b : Int} (hb : 0 < b) : ((Rat.divInt t b).den : Int) = b / (Nat.gcd t.natAbs b.natAbs : Nat) := by
  rw [Rat.den_divInt, if_neg (by omega), Int.gcd_comm]
  have : b = (b.natAbs : Int) := by omega
  conv => rhs; lhs; rw [this]
  rfl
theorem log2_lt {a n : Nat} (h : a < 2 ^ n) (hn : 0 < n) : a.log2 < n := by
  by_cases z : a = 0
  · subst z; simpa using hn
  · exact (Nat.log2_lt z).mpr h
end PM

set_option Elab.async false
set_option linter.all false
set_option maxRecDepth 100000
set_option maxHeartbeats 4000000
namespace PM

/-! plain facts of pools by integers -/
theorem cast_ne {u : Int} (h : 0 < u) : (u : Rat) ≠ 0 := fun z => by
  have : u = 0 := by exact Rat.intCast_inj.mp z
  omega
section
variable {s v s' v' u t : Int}
theorem pl_sum (hu : 0 < u) : Rat.divInt v u + Rat.divInt v' u = Rat.divInt (v + v') u := by
  have h := cast_ne hu
  simp only [Rat.divInt_eq_div, Rat.intCast_add]
  generalize (u : Rat) = U at *
  grind
theorem pl_dif (hu : 0 < u) : Rat.divInt s u - Rat.divInt s' u = Rat.divInt (s - s') u := by
  have h := cast_ne hu
  simp only [Rat.divInt_eq_div, Rat.intCast_sub]
  generalize (u : Rat) = U at *
  grind
theorem divInt_le {a b u : Int} (hu : 0 < u) : Rat.divInt a u ≤ Rat.divInt b u ↔ a ≤ b := by
  rw [Rat.le_iff_sub_nonneg, pl_dif hu, Rat.divInt_nonneg_iff_of_pos_right hu]
  omega
end
end PM

set_option Elab.async false
set_option linter.all false
set_option maxRecDepth 100000
/-! Weakest preconditions over the abstract machine: what may come is told by continuations. -/
namespace PM
open PySem L2
abbrev KV := D → List M → Prop
abbrev KX := Addr → List Str → List D → List M → Prop
abbrev KT := Bool → List M → Prop
abbrev KA := List D → List M → Prop
abbrev KN := Env' → List M → Prop
/-- exceptions that are taken -/
def AccX (W : WX) (K : PySem.W.Frag) (L : List Addr) (G H : Hp) (σ : St) (Z : KX) : Prop := ∀ C ns ds μ', Z C ns ds μ' → ComesX K L G H C ns ds μ' fun c d H' => W c d σ H'
def AccV (K : PySem.W.Frag) (L : List Addr) (G H : Hp) (Q : KV) (R : VK) : Prop := ∀ d μ', Q d μ' → Comes K L G H d μ' R
section
variable {W : WX} {K : PySem.W.Frag} {L L1 : List Addr} {G H G1 H1 : Hp} {σ : St} {Z Z' : KX} {Q Q' : KV} {R : VK}
theorem AccX.step (a : AccX W K L G H σ Z) (s : Step L G H L1 G1 H1) : AccX W K L1 G1 H1 σ Z := fun C ns ds μ' z => ComesX.step (E := fun c d H' => W c d σ H') (a C ns ds μ' z) s
theorem AccV.step (a : AccV K L G H Q R) (s : Step L G H L1 G1 H1) : AccV K L1 G1 H1 Q R := fun d μ' q => Comes.step (a d μ' q) s
theorem AccX.mono (a : AccX W K L G H σ Z') (h : ∀ C ns ds μ, Z C ns ds μ → Z' C ns ds μ) : AccX W K L G H σ Z := fun C ns ds μ' z => a C ns ds μ' (h _ _ _ _ z)
theorem AccV.mono (a : AccV K L G H Q' R) (h : ∀ d μ, Q d μ → Q' d μ) : AccV K L G H Q R := fun d μ' z => a d μ' (h _ _ z)
end
/-- an expression comes to a value of Q or to an exception of Z -/
structure wE (X : Cx) (W : WX) (ρ : Env') (μ : List M) (e : Expr) (Q : KV) (Z : KX) : Prop where
  run : PE X e (fun σ H R => ∃ L G, Now X.K L G H μ ρ σ ∧ AccV X.K L G H Q R ∧ AccX W X.K L G H σ Z)
structure wC (X : Cx) (W : WX) (ρ : Env') (μ : List M) (e : Expr) (Q : KT) (Z : KX) : Prop where
  run : PT X e (fun σ H R => ∃ L G, Now X.K L G H μ ρ σ ∧ (∀ b μ', Q b μ' → ComesT X.K L G H b μ' R) ∧ AccX W X.K L G H σ Z)
structure wCw (X : Cx) (W : WX) (ρ : Env') (μ : List M) (e : Expr) (Q : KT) (Z : KX) : Prop where
  run : PW X e (fun σ H R => ∃ L G, Now X.K L G H μ ρ σ ∧ (∀ b μ', Q b μ' → ComesT X.K L G H b μ' R) ∧ AccX W X.K L G H σ Z)
structure wA (X : Cx) (W : WX) (ρ : Env') (μ : List M) (es : List Expr) (Q : KA) (Z : KX) : Prop where
  run : PA X es (fun σ H R => ∃ L G, Now X.K L G H μ ρ σ ∧ (∀ ds μ', Q ds μ' → ComesA X.K L G H ds μ' R) ∧ AccX W X.K L G H σ Z)
/-- an operation on two data -/
structure wB (X : Cx) (W : WX) (f : Value → Value → Sem Value) (da db : D) (μ : List M) (Q : KV) (Z : KX) : Prop where
  run : ∀ (pins : List (Addr × Obj)) (s : Shared) (σ : St) (H : Hp) (x y : V) (v u : Value) (R : VK) (L : List Addr) (G : Hp), Inv X pins σ H s → RelV x v → RelV y u → Ok X.K L G H μ → Rep X.K L G da x → Rep X.K L G db y → AccV X.K L G H Q R → AccX W X.K L G H σ Z →
    wpAny (model X.prog X.w) X.A (f v u) (EP X pins σ R) X.xe s
structure wU (X : Cx) (W : WX) (f : Value → Sem Value) (da : D) (μ : List M) (Q : KV) (Z : KX) : Prop where
  run : ∀ (pins : List (Addr × Obj)) (s : Shared) (σ : St) (H : Hp) (x : V) (v : Value) (R : VK) (L : List Addr) (G : Hp), Inv X pins σ H s → RelV x v → Ok X.K L G H μ → Rep X.K L G da x → AccV X.K L G H Q R → AccX W X.K L G H σ Z →
    wpAny (model X.prog X.w) X.A (f v) (EP X pins σ R) X.xe s
structure wF (X : Cx) (W : WX) (f : List Value → Sem Value) (ds : List D) (μ : List M) (Q : KV) (Z : KX) : Prop where
  run : ∀ (pins : List (Addr × Obj)) (s : Shared) (σ : St) (H : Hp) (xs : List V) (us : List Value) (R : VK) (L : List Addr) (G : Hp), Inv X pins σ H s → Vals xs us → Ok X.K L G H μ → Reps X.K L G ds xs → AccV X.K L G H Q R → AccX W X.K L G H σ Z →
    wpAny (model X.prog X.w) X.A (f us) (EP X pins σ R) X.xe s
/-- one outcome among those that may come -/
def FO.In (Q : KV) (Z : KX) : FO → Prop
  | .ret d μ => Q d μ
  | .exc C ns ds μ => Z C ns ds μ
section
variable {X : Cx} {W : WX} {ρ : Env'} {μ μ1 μ2 : List M} {e a b c : Expr} {es : List Expr} {Q Q' : KV} {Z Z' : KX} {o : FO} {d da db : D} {ds : List D} {pos : Pos} {pins : List (Addr × Obj)} {s : Shared} {σ : St} {H : Hp} {L : List Addr} {G : Hp}
theorem CO.of {R : VK} (v : AccV X.K L G H Q R) (x : AccX W X.K L G H σ Z) (h : o.In Q Z) : CO W X.K L G H σ o R := by
  cases o with
  | ret d μ => exact v d μ h
  | exc C ns ds μ => exact x C ns ds μ h
theorem wE.of (h : PE X e (tO W X.K ρ μ o)) (ho : o.In Q Z) : wE X W ρ μ e Q Z := ⟨pe_of h fun σ H R ⟨L, G, n, v, x⟩ => ⟨L, G, n, CO.of v x ho⟩⟩
theorem wE.ofV (h : PE X e (tV X.K ρ μ d μ1)) (ho : Q d μ1) : wE X W ρ μ e Q Z := ⟨pe_of h fun σ H R ⟨L, G, n, v, x⟩ => ⟨L, G, n, v _ _ ho⟩⟩
theorem wE.mono (h : wE X W ρ μ e Q Z) (hq : ∀ d μ, Q d μ → Q' d μ) (hz : ∀ C ns ds μ, Z C ns ds μ → Z' C ns ds μ) : wE X W ρ μ e Q' Z' := ⟨pe_of h.run fun σ H R ⟨L, G, n, v, x⟩ => ⟨L, G, n, v.mono hq, x.mono hz⟩⟩
theorem wE.imp (h : wE X W ρ μ e Q Z) (hq : ∀ d μ, Q d μ → Q' d μ) : wE X W ρ μ e Q' Z := h.mono hq fun _ _ _ _ z => z
theorem wC.imp {Q Q' : KT} (h : wC X W ρ μ e Q Z) (hq : ∀ d μ, Q d μ → Q' d μ) : wC X W ρ μ e Q' Z := ⟨pt_of h.run fun σ H R ⟨L, G, n, v, x⟩ => ⟨L, G, n, fun b μ' q => v b μ' (hq _ _ q), x⟩⟩
theorem wB.of {f : Value → Value → Sem Value} (h : OpO X W f da db μ o) (ho : o.In Q Z) : wB X W f da db μ Q Z := ⟨fun pins s σ H x y v u R L G I rx ry ok r1 r2 av ax => h pins s σ H x y v u R L G I rx ry ok r1 r2 (CO.of av ax ho)⟩
theorem wB.ofV {f : Value → Value → Sem Value} (h : OpO X W0 f da db μ (.ret d μ1)) (ho : Q d μ1) : wB X W f da db μ Q Z := ⟨fun pins s σ H x y v u R L G I rx ry ok r1 r2 av ax => h pins s σ H x y v u R L G I rx ry ok r1 r2 (av _ _ ho)⟩
theorem wU.of {f : Value → Sem Value} (h : UnO X W f da μ o) (ho : o.In Q Z) : wU X W f da μ Q Z := ⟨fun pins s σ H x v R L G I rx ok r1 av ax => h pins s σ H x v R L G I rx ok r1 (CO.of av ax ho)⟩
theorem wU.ofV {f : Value → Sem Value} (h : UnO X W0 f da μ (.ret d μ1)) (ho : Q d μ1) : wU X W f da μ Q Z := ⟨fun pins s σ H x v R L G I rx ok r1 av ax => h pins s σ H x v R L G I rx ok r1 (av _ _ ho)⟩
theorem wF.of {f : List Value → Sem Value} (h : CallO X W f ds μ o) (ho : o.In Q Z) : wF X W f ds μ Q Z := ⟨fun pins s σ H x v R L G I rx ok r1 av ax => h pins s σ H x v R L G I rx ok r1 (CO.of av ax ho)⟩
theorem wF.ofV {f : List Value → Sem Value} (h : CallO X W0 f ds μ (.ret d μ1)) (ho : Q d μ1) : wF X W f ds μ Q Z := ⟨fun pins s σ H x v R L G I rx ok r1 av ax => h pins s σ H x v R L G I rx ok r1 (av _ _ ho)⟩
theorem wB.imp {f : Value → Value → Sem Value} (h : wB X W f da db μ Q Z) (hq : ∀ d μ, Q d μ → Q' d μ) : wB X W f da db μ Q' Z := ⟨fun pins s σ H x y v u R L G I rx ry ok r1 r2 av ax => h.run pins s σ H x y v u R L G I rx ry ok r1 r2 (av.mono hq) ax⟩
theorem wF.imp {f : List Value → Sem Value} (h : wF X W f ds μ Q Z) (hq : ∀ d μ, Q d μ → Q' d μ) : wF X W f ds μ Q' Z := ⟨fun pins s σ H x v R L G I rx ok r1 av ax => h.run pins s σ H x v R L G I rx ok r1 (av.mono hq) ax⟩
/-- running -/
theorem wE.go (h : wE X W ρ μ e Q Z) (I : Inv X pins σ H s) (n : Now X.K L G H μ ρ σ) (z : AccX W X.K L G H σ Z) :
    wpAny (model X.prog X.w) X.A (eval e X.env) (fun u s1 => ∃ v d μ1 L1 G1 H1, Inv X pins σ H1 s1 ∧ RelV v u ∧ Q d μ1 ∧ Step L G H L1 G1 H1 ∧ Ok X.K L1 G1 H1 μ1 ∧ Rep X.K L1 G1 d v) X.xe s :=
  thn (h.run.run pins s σ H (fun v H1 => ∃ d μ1 L1 G1, Q d μ1 ∧ Step L G H L1 G1 H1 ∧ Ok X.K L1 G1 H1 μ1 ∧ Rep X.K L1 G1 d v) I ⟨L, G, n, fun d μ' q v L' G' H' s' o' r' => ⟨d, μ', L', G', q, s', o', r'⟩, z⟩)
    fun u s1 ⟨v, H1, I1, r1, d, μ1, L1, G1, q, st, o, r⟩ => ⟨v, d, μ1, L1, G1, H1, I1, r1, q, st, o, r⟩
theorem wC.go {Q : KT} (h : wC X W ρ μ e Q Z) (I : Inv X pins σ H s) (n : Now X.K L G H μ ρ σ) (z : AccX W X.K L G H σ Z) :
    wpAny (model X.prog X.w) X.A (isTrue e X.env (eval e X.env)) (fun b s1 => ∃ μ1 L1 G1 H1, Inv X pins σ H1 s1 ∧ Q b μ1 ∧ Step L G H L1 G1 H1 ∧ Ok X.K L1 G1 H1 μ1) X.xe s :=
  thn (h.run.run pins s σ H (fun b H1 => ∃ μ1 L1 G1, Q b μ1 ∧ Step L G H L1 G1 H1 ∧ Ok X.K L1 G1 H1 μ1) I ⟨L, G, n, fun b μ' q L' G' H' s' o' => ⟨μ', L', G', q, s', o'⟩, z⟩)
    fun b s1 ⟨H1, I1, μ1, L1, G1, q, st, o⟩ => ⟨μ1, L1, G1, H1, I1, q, st, o⟩
theorem wA.go {Q : KA} (h : wA X W ρ μ es Q Z) (I : Inv X pins σ H s) (n : Now X.K L G H μ ρ σ) (z : AccX W X.K L G H σ Z) (pos : Pos) :
    wpAny (model X.prog X.w) X.A (spliced (backTo pos (starEach es X.env))) (fun us s1 => ∃ vs ds μ1 L1 G1 H1, Inv X pins σ H1 s1 ∧ Vals vs us ∧ Q ds μ1 ∧ Step L G H L1 G1 H1 ∧ Ok X.K L1 G1 H1 μ1 ∧ Reps X.K L1 G1 ds vs) X.xe s :=
  thn (h.run.run pos pins s σ H (fun vs H1 => ∃ ds μ1 L1 G1, Q ds μ1 ∧ Step L G H L1 G1 H1 ∧ Ok X.K L1 G1 H1 μ1 ∧ Reps X.K L1 G1 ds vs) I ⟨L, G, n, fun ds μ' q vs L' G' H' s' o' r' => ⟨ds, μ', L', G', q, s', o', r'⟩, z⟩)
    fun us s1 ⟨vs, H1, I1, r1, ds, μ1, L1, G1, q, st, o, r⟩ => ⟨vs, ds, μ1, L1, G1, H1, I1, r1, q, st, o, r⟩
theorem wE.by (h : ∀ (pins : List (Addr × Obj)) (s : Shared) (σ : St) (H : Hp) (R : VK) (L : List Addr) (G : Hp), Inv X pins σ H s → Now X.K L G H μ ρ σ → AccV X.K L G H Q R → AccX W X.K L G H σ Z → wpAny (model X.prog X.w) X.A (eval e X.env) (EP X pins σ R) X.xe s) : wE X W ρ μ e Q Z :=
  ⟨⟨fun pins s σ H R I ⟨L, G, n, v, x⟩ => h pins s σ H R L G I n v x⟩⟩
/-- the store may be told with less -/
def Le (μ μ' : List M) : Prop := ∀ K L G H, Ok K L G H μ → Ok K L G H μ'
theorem Le.refl (μ : List M) : Le μ μ := fun _ _ _ _ h => h
theorem wE.le (h : wE X W ρ μ e (fun d μ1 => ∃ μ2, Le μ1 μ2 ∧ Q d μ2) Z) : wE X W ρ μ e Q Z :=
  ⟨pe_of h.run fun σ H R ⟨L, G, n, v, x⟩ => ⟨L, G, n, fun d μ1 ⟨μ2, l, q⟩ u L' G' H' s' o' r' => v d μ2 q u L' G' H' s' (l _ _ _ _ o') r', x⟩⟩

/-! #### any reading will do -/
def aE (X : Cx) (e : Expr) : TE := fun σ H Q => ∃ t, PE X e t ∧ t σ H Q
theorem aE_ok : PE X e (aE X e) := ⟨fun pins s σ H Q I ⟨t, p, q⟩ => p.run pins s σ H Q I q⟩
def aW (X : Cx) (e : Expr) : TT := fun σ H Q => ∃ t, PW X e t ∧ t σ H Q
theorem aW_ok : PW X e (aW X e) := ⟨fun wh pins s σ H Q I ⟨t, p, q⟩ => p.run wh pins s σ H Q I q⟩
def aA (X : Cx) (es : List Expr) : TA := fun σ H Q => ∃ t, PA X es t ∧ t σ H Q
theorem aA_ok : PA X es (aA X es) := ⟨fun pos pins s σ H Q I ⟨t, p, q⟩ => p.run pos pins s σ H Q I q⟩

/-! #### expressions -/
theorem wE_int {i j} (h : Q (.int i) μ) : wE X W ρ μ (.Constant (.int i) j pos) Q Z := .ofV ev_int h
theorem wE_bl {i j} (h : Q (.bl i) μ) : wE X W ρ μ (.Constant (.bool i) j pos) Q Z := .ofV ev_bl h
theorem wE_non {j} (h : Q .non μ) : wE X W ρ μ (.Constant .none j pos) Q Z := .ofV ev_non h
theorem wE_str {i j} (h : Q (.str i) μ) : wE X W ρ μ (.Constant (.str i) j pos) Q Z := .ofV ev_str h
theorem wE_bin {op : Operator} (h : wE X W ρ μ a (fun da μ1 => wE X W ρ μ1 b (fun db μ2 => wB X W (binaryOp op) da db μ2 Q Z) Z) Z) : wE X W ρ μ (.BinOp a op b pos) Q Z :=
  .by fun pins s σ H R L G I n v x => wpAny_BinOp (thn (h.go I n x) fun u s1 ⟨y, da, μ1, L1, G1, H1, I1, ry, hb, st1, o1, r1⟩ => thn (hb.go I1 (n.step st1 o1) (x.step st1)) fun u2 s2 ⟨y2, db, μ2, L2, G2, H2, I2, ry2, ho, st2, o2, r2⟩ =>
    ho.run pins s2 σ H2 y y2 u u2 R L2 G2 I2 ry ry2 o2 (r1.step st2) r2 (v.step (st1.trans st2)) (x.step (st1.trans st2)))
theorem wE_cmp {op : CmpOp} (h : wE X W ρ μ a (fun da μ1 => wE X W ρ μ1 b (fun db μ2 => wB X W (compareOp op) da db μ2 Q Z) Z) Z) (hm : behindInMarks op b = false := by first | exact nomark _ | rfl) : wE X W ρ μ (.Compare a [op] [b] pos) Q Z :=
  .by fun pins s σ H R L G I n v x => wpAny_Compare1 (thn (h.go I n x) fun u s1 ⟨y, da, μ1, L1, G1, H1, I1, ry, hb, st1, o1, r1⟩ => thn (hb.go I1 (n.step st1 o1) (x.step st1)) fun u2 s2 ⟨y2, db, μ2, L2, G2, H2, I2, ry2, ho, st2, o2, r2⟩ =>
    ho.run pins s2 σ H2 y y2 u u2 R L2 G2 I2 ry ry2 o2 (r1.step st2) r2 (v.step (st1.trans st2)) (x.step (st1.trans st2))) hm
theorem wE_un {op : UnaryOp} (h : wE X W ρ μ a (fun da μ1 => wU X W (unaryOp op) da μ1 Q Z) Z) : wE X W ρ μ (.UnaryOp op a pos) Q Z :=
  .by fun pins s σ H R L G I n v x => PyProof.Rows.UnaryOp_ (thn (h.go I n x) fun u s1 ⟨y, da, μ1, L1, G1, H1, I1, ry, ho, st1, o1, r1⟩ => ho.run pins s1 σ H1 y u R L1 G1 I1 ry o1 r1 (v.step st1) (x.step st1))
/-- not, of a test -/
theorem wE_not (h : wE X W ρ μ a (fun da μ1 => ∃ k, da = .bl k ∧ Q (.bl (!k)) μ1) Z) : wE X W ρ μ (.UnaryOp .Not a pos) Q Z :=
  ⟨pe_of (pe_not h.run) fun σ H R ⟨L, G, n, v, x⟩ => ⟨L, G, n, fun d μ1 ⟨k, e, q⟩ u L1 G1 H1 s1 o1 r1 => by
    subst e
    exact ⟨k, rep_bl.mp r1, v _ _ q _ L1 G1 H1 s1 o1 (rep_bl.mpr rfl)⟩, x⟩⟩
theorem wE_one {op} (h : wE X W ρ μ a Q Z) : wE X W ρ μ (.BoolOp op [a] pos) Q Z := ⟨pe_one h.run⟩
variable {rest : List Expr}
theorem wE_and (h : wE X W ρ μ a (fun da μ1 => ∃ k, da = .bl k ∧ if k = true then wE X W ρ μ1 (.BoolOp .And (b :: rest) pos) Q Z else Q (.bl false) μ1) Z) : wE X W ρ μ (.BoolOp .And (a :: b :: rest) pos) Q Z :=
  ⟨pe_of (pe_and h.run aE_ok) fun σ H R ⟨L, G, n, v, x⟩ => ⟨L, G, n, fun d μ1 ⟨k, e, q⟩ u L1 G1 H1 s1 o1 r1 => by
    subst e
    refine ⟨k, rep_bl.mp r1, ?_⟩
    cases k with
    | true => rw [if_pos rfl] at q ⊢; exact ⟨_, q.run, L1, G1, n.step s1 o1, v.step s1, x.step s1⟩
    | false => rw [if_neg (by decide)] at q ⊢; exact v _ _ q _ L1 G1 H1 s1 o1 (rep_bl.mpr rfl), x⟩⟩
theorem wE_or (h : wE X W ρ μ a (fun da μ1 => ∃ k, da = .bl k ∧ if k = true then Q (.bl true) μ1 else wE X W ρ μ1 (.BoolOp .Or (b :: rest) pos) Q Z) Z) : wE X W ρ μ (.BoolOp .Or (a :: b :: rest) pos) Q Z :=
  ⟨pe_of (pe_or h.run aE_ok) fun σ H R ⟨L, G, n, v, x⟩ => ⟨L, G, n, fun d μ1 ⟨k, e, q⟩ u L1 G1 H1 s1 o1 r1 => by
    subst e
    refine ⟨k, rep_bl.mp r1, ?_⟩
    cases k with
    | true => rw [if_pos rfl] at q ⊢; exact v _ _ q _ L1 G1 H1 s1 o1 (rep_bl.mpr rfl)
    | false => rw [if_neg (by decide)] at q ⊢; exact ⟨_, q.run, L1, G1, n.step s1 o1, v.step s1, x.step s1⟩, x⟩⟩
theorem wE_if (h : wC X W ρ μ c (fun k μ1 => if k = true then wE X W ρ μ1 a Q Z else wE X W ρ μ1 b Q Z) Z) : wE X W ρ μ (.IfExp c a b pos) Q Z :=
  ⟨pe_of (pe_ifExp h.run aE_ok aE_ok) fun σ H R ⟨L, G, n, v, x⟩ => ⟨L, G, n, fun k μ1 q L1 G1 H1 s1 o1 => by
    cases k with
    | true => exact iteT ⟨_, (show wE X W ρ μ1 a Q Z from q).run, L1, G1, n.step s1 o1, v.step s1, x.step s1⟩
    | false => exact iteF ⟨_, (show wE X W ρ μ1 b Q Z from q).run, L1, G1, n.step s1 o1, v.step s1, x.step s1⟩, x⟩⟩

/-! #### tests -/
variable {QT : KT}
theorem wC_val (h : wE X W ρ μ e (fun d μ1 => ∃ k, d = .bl k ∧ QT k μ1) Z) (he : ∀ whole, isTrue e X.env whole = (do let v ← whole; standAt e.pos; holding [v] (truthy v)) := by intro _; rfl) : wC X W ρ μ e QT Z :=
  ⟨pt_of (pt_val h.run he) fun σ H R ⟨L, G, n, v, x⟩ => ⟨L, G, n, fun d μ1 ⟨k, e, q⟩ u L1 G1 H1 s1 o1 r1 => by
    subst e
    exact ⟨k, rep_bl.mp r1, v k μ1 q L1 G1 H1 s1 o1⟩, x⟩⟩
theorem wC_cmp {op : CmpOp} (h : wE X W ρ μ a (fun da μ1 => wE X W ρ μ1 b (fun db μ2 => wB X W (compareOp op) da db μ2 (fun d μ3 => ∃ k, d = .bl k ∧ QT k μ3) Z) Z) Z) (hm : behindInMarks op b = false := by first | exact nomark _ | rfl) : wC X W ρ μ (.Compare a [op] [b] pos) QT Z := by
  refine ⟨⟨fun pins s σ H R I ⟨L, G, n, v, x⟩ => ?_⟩⟩
  refine wpAny_isTrue_Compare1 (thn (h.go I n x) fun u s1 ⟨y, da, μ1, L1, G1, H1, I1, ry, hb, st1, o1, r1⟩ => thn (hb.go I1 (n.step st1 o1) (x.step st1)) fun u2 s2 ⟨y2, db, μ2, L2, G2, H2, I2, ry2, ho, st2, o2, r2⟩ =>
    thn (ho.run pins s2 σ H2 y y2 u u2 (fun z H' => ∃ k, z = .bl k ∧ R k H') L2 G2 I2 ry ry2 o2 (r1.step st2) r2 (fun d μ3 ⟨k, e, q⟩ w L3 G3 H3 st3 o3 r3 => by
      subst e
      exact ⟨k, rep_bl.mp r3, v k μ3 q L3 G3 H3 ((st1.trans st2).trans st3) o3⟩) (x.step (st1.trans st2))) fun z s3 ⟨y, H3, I3, r3, k, e3, q3⟩ => ?_) hm
  subst e3
  cases r3
  exact wpAny_truthy_bool ⟨H3, I3, q3⟩
theorem wC_not (h : wC X W ρ μ a (fun k μ1 => QT (!k) μ1) Z) : wC X W ρ μ (.UnaryOp .Not a pos) QT Z :=
  ⟨pt_of (pt_not h.run) fun σ H R ⟨L, G, n, v, x⟩ => ⟨L, G, n, fun k μ1 q L1 G1 H1 s1 o1 => v _ _ q L1 G1 H1 s1 o1, x⟩⟩
theorem wC_bool {op} (h : wCw X W ρ μ (.BoolOp op es pos) QT Z) : wC X W ρ μ (.BoolOp op es pos) QT Z := ⟨h.run.pt⟩
theorem wCw_and1 (h : wC X W ρ μ a QT Z) : wCw X W ρ μ (.BoolOp .And [a] pos) QT Z := ⟨pw_and1 h.run⟩
theorem wCw_or1 (h : wC X W ρ μ a QT Z) : wCw X W ρ μ (.BoolOp .Or [a] pos) QT Z := ⟨pw_or1 h.run⟩
theorem wCw_and (h : wC X W ρ μ a (fun k μ1 => if k = true then wCw X W ρ μ1 (.BoolOp .And (b :: rest) pos) QT Z else QT false μ1) Z) : wCw X W ρ μ (.BoolOp .And (a :: b :: rest) pos) QT Z :=
  ⟨pw_of (pw_and h.run aW_ok) fun σ H R ⟨L, G, n, v, x⟩ => ⟨L, G, n, fun k μ1 q L1 G1 H1 s1 o1 => by
    cases k with
    | true => exact iteT ⟨_, (show wCw X W ρ μ1 _ QT Z from q).run, L1, G1, n.step s1 o1, (fun b μ' q => (v b μ' q).step s1), x.step s1⟩
    | false => exact iteF (v false μ1 q L1 G1 H1 s1 o1), x⟩⟩
theorem wCw_or (h : wC X W ρ μ a (fun k μ1 => if k = true then QT true μ1 else wCw X W ρ μ1 (.BoolOp .Or (b :: rest) pos) QT Z) Z) : wCw X W ρ μ (.BoolOp .Or (a :: b :: rest) pos) QT Z :=
  ⟨pw_of (pw_or h.run aW_ok) fun σ H R ⟨L, G, n, v, x⟩ => ⟨L, G, n, fun k μ1 q L1 G1 H1 s1 o1 => by
    cases k with
    | true => exact iteT (v true μ1 q L1 G1 H1 s1 o1)
    | false => exact iteF ⟨_, (show wCw X W ρ μ1 _ QT Z from q).run, L1, G1, n.step s1 o1, (fun b μ' q => (v b μ' q).step s1), x.step s1⟩, x⟩⟩

/-! #### arguments -/
variable {QA : KA}
theorem wA_nil (h : QA [] μ) : wA X W ρ μ [] QA Z := ⟨pa_of pa_nil fun σ H R ⟨L, G, n, v, x⟩ => v [] μ h [] L G H (.refl _ _ _) n.ok Reps.nil⟩
theorem wA_cons (h : wE X W ρ μ e (fun d μ1 => wA X W ρ μ1 es (fun ds μ2 => QA (d :: ds) μ2) Z) Z) (hs : starEach (e :: es) X.env = (false, eval e X.env) :: starEach es X.env := by rfl) : wA X W ρ μ (e :: es) QA Z :=
  ⟨pa_of (pa_cons h.run aA_ok hs) fun σ H R ⟨L, G, n, v, x⟩ => ⟨L, G, n, fun d μ1 q u L1 G1 H1 s1 o1 r1 => ⟨_, q.run, L1, G1, n.step s1 o1, fun ds μ2 q2 us L2 G2 H2 s2 o2 r2 => v _ _ q2 _ L2 G2 H2 (s1.trans s2) o2 (Reps.cons (r1.step s2) r2), x.step s1⟩, x⟩⟩
theorem wE_tup {k : Nat} (h : wA X W ρ μ es (fun ds μ1 => ds.length ≤ sizeLine ∧ Q (.tup ds) μ1) Z) : wE X W ρ μ (.Tuple es k pos) Q Z :=
  ⟨pe_of (pe_tup h.run) fun σ H R ⟨L, G, n, v, x⟩ => ⟨L, G, n, fun ds μ1 ⟨hl, q⟩ vs L1 G1 H1 s1 o1 r1 => ⟨by rw [r1.length]; exact hl, fun p hp => by
    obtain ⟨o', s'⟩ := o1.new (o := .tup vs) hp
    exact v _ _ q _ L1 _ _ (s1.trans s') o' (rep_tup.mpr ⟨p, vs, rfl, .inl (.inl upd_same), r1.step s'⟩)⟩, x⟩⟩
end
end PM

set_option Elab.async false
set_option linter.all false
set_option maxRecDepth 100000
namespace PM
open PySem L2
/-! ### statements -/
structure Ks where
  rt : KV
  bk : KN := fun _ _ => False
  ct : KN := fun _ _ => False
  xc : Addr → List Str → List D → Env' → List M → Prop := fun _ _ _ _ _ => False
abbrev Ks.z (κ : Ks) (ρ : Env') : KX := fun C ns ds μ => κ.xc C ns ds ρ μ
structure AccS (W : WX) (K : PySem.W.Frag) (L : List Addr) (G H : Hp) (D : Ends) (nx : KN) (κ : Ks) : Prop where
  nx : ∀ ρ μ, nx ρ μ → Ends' K L G H ρ μ D.nx
  bk : ∀ ρ μ, κ.bk ρ μ → Ends' K L G H ρ μ D.bk
  ct : ∀ ρ μ, κ.ct ρ μ → Ends' K L G H ρ μ D.ct
  rt : AccV K L G H κ.rt D.rt
  xc : ∀ C ns ds ρ μ, κ.xc C ns ds ρ μ → ∀ σ' dx L' G' H', Step L G H L' G' H' → Now K L' G' H' μ ρ σ' → XdAt K L' G' H' dx ns ds → W (.ref C) dx σ' H'
structure wS (X : Cx) (W : WX) (ρ : Env') (μ : List M) (st : Stmt) (nx : KN) (κ : Ks) : Prop where
  run : PS X st (fun D σ H => ∃ L G, Now X.K L G H μ ρ σ ∧ AccS W X.K L G H D nx κ)
structure wSs (X : Cx) (W : WX) (ρ : Env') (μ : List M) (st : List Stmt) (nx : KN) (κ : Ks) : Prop where
  run : PSs X st (fun D σ H => ∃ L G, Now X.K L G H μ ρ σ ∧ AccS W X.K L G H D nx κ)
structure wG (X : Cx) (W : WX) (ρ : Env') (μ : List M) (tg : Expr) (d : D) (nx : KN) : Prop where
  run : PG X tg (fun v σ H R => ∃ L G, Now X.K L G H μ ρ σ ∧ Rep X.K L G d v ∧ ∀ ρ' μ', nx ρ' μ' → Ends' X.K L G H ρ' μ' R)
section
variable {W : WX} {K : PySem.W.Frag} {L L1 : List Addr} {G H G1 H1 : Hp} {D : Ends} {nx nx' : KN} {κ : Ks} {ρ : Env'} {μ : List M} {σ : St}
theorem AccS.step (a : AccS W K L G H D nx κ) (s : Step L G H L1 G1 H1) : AccS W K L1 G1 H1 D nx κ :=
  ⟨fun ρ μ h => (a.nx ρ μ h).step s, fun ρ μ h => (a.bk ρ μ h).step s, fun ρ μ h => (a.ct ρ μ h).step s, a.rt.step s, fun C ns ds ρ μ h σ' dx L' G' H' s' => a.xc C ns ds ρ μ h σ' dx L' G' H' (s.trans s')⟩
theorem AccS.x (a : AccS W K L G H D nx κ) (n : Now K L G H μ ρ σ) : AccX W K L G H σ (κ.z ρ) := fun C ns ds μ' z dx L' G' H' s o x => a.xc C ns ds ρ μ' z σ dx L' G' H' s (n.step s o) x
end
section
variable {X : Cx} {W : WX} {ρ ρ1 : Env'} {μ μ1 μ2 : List M} {e a b c tg : Expr} {es : List Expr} {Q Q' : KV} {Z : KX} {d da db : D} {ds : List D} {pos : Pos} {nx nx' : KN} {κ : Ks} {st : Stmt} {rest A B : List Stmt} {x : Str} {N : List Str}
theorem wSs.of {q : Out} (h : PSs X rest (tS W X.K ρ μ q)) (hq : match q with | .next ρ μ => nx ρ μ | .brk ρ μ => κ.bk ρ μ | .cont ρ μ => κ.ct ρ μ | .ret d μ => κ.rt d μ | .exc C ns ds ρ μ => κ.xc C ns ds ρ μ) : wSs X W ρ μ rest nx κ :=
  ⟨pss_of h fun D σ H ⟨L, G, n, a⟩ => ⟨L, G, n, by
    cases q with
    | next ρ μ => exact a.nx ρ μ hq
    | brk ρ μ => exact a.bk ρ μ hq
    | cont ρ μ => exact a.ct ρ μ hq
    | ret d μ => exact a.rt d μ hq
    | exc C ns ds ρ μ => exact a.xc C ns ds ρ μ hq⟩⟩
theorem wS.of {q : Out} (h : PS X st (tS W X.K ρ μ q)) (hq : match q with | .next ρ μ => nx ρ μ | .brk ρ μ => κ.bk ρ μ | .cont ρ μ => κ.ct ρ μ | .ret d μ => κ.rt d μ | .exc C ns ds ρ μ => κ.xc C ns ds ρ μ) : wS X W ρ μ st nx κ :=
  ⟨ps_of h fun D σ H ⟨L, G, n, a⟩ => ⟨L, G, n, by
    cases q with
    | next ρ μ => exact a.nx ρ μ hq
    | brk ρ μ => exact a.bk ρ μ hq
    | cont ρ μ => exact a.ct ρ μ hq
    | ret d μ => exact a.rt d μ hq
    | exc C ns ds ρ μ => exact a.xc C ns ds ρ μ hq⟩⟩
theorem wSs_nil (h : nx ρ μ) : wSs X W ρ μ [] nx κ := ⟨pss_of pss_nil fun D σ H ⟨L, G, n, a⟩ => a.nx ρ μ h σ L G H (.refl _ _ _) n⟩
theorem wSs_cons (h : wS X W ρ μ st (fun ρ1 μ1 => wSs X W ρ1 μ1 rest nx κ) κ) : wSs X W ρ μ (st :: rest) nx κ :=
  ⟨pss_of (pss_cons h.run aSs_ok) fun D σ H ⟨L, G, n, a⟩ => ⟨L, G, n, fun ρ1 μ1 h1 σ1 L1 G1 H1 s1 n1 => ⟨_, h1.run, L1, G1, n1, a.step s1⟩, a.bk, a.ct, a.rt, a.xc⟩⟩
theorem wSs.imp (h : wSs X W ρ μ rest nx κ) (hn : ∀ ρ μ, nx ρ μ → nx' ρ μ) : wSs X W ρ μ rest nx' κ := ⟨pss_of h.run fun D σ H ⟨L, G, n, a⟩ => ⟨L, G, n, fun ρ μ q => a.nx ρ μ (hn ρ μ q), a.bk, a.ct, a.rt, a.xc⟩⟩
theorem wS.imp (h : wS X W ρ μ st nx κ) (hn : ∀ ρ μ, nx ρ μ → nx' ρ μ) : wS X W ρ μ st nx' κ := ⟨ps_of h.run fun D σ H ⟨L, G, n, a⟩ => ⟨L, G, n, fun ρ μ q => a.nx ρ μ (hn ρ μ q), a.bk, a.ct, a.rt, a.xc⟩⟩
/-- the store is told with less -/
theorem wSs.le (h : wSs X W ρ μ1 rest nx κ) (l : Le μ μ1) : wSs X W ρ μ rest nx κ := ⟨pss_of h.run fun D σ H ⟨L, G, n, a⟩ => ⟨L, G, ⟨l _ _ _ _ n.ok, n.env⟩, a⟩⟩
/-- the store may be told with more: some of these -/
theorem wSs.some {S : List M → Prop} (h : ∀ μ1, S μ1 → wSs X W ρ μ1 rest nx κ) (l : ∀ K L G H, Ok K L G H μ → ∃ μ1, S μ1 ∧ Ok K L G H μ1) : wSs X W ρ μ rest nx κ :=
  ⟨⟨fun pins s σ H D I ⟨L, G, n, a⟩ => by
    obtain ⟨μ1, s1, o1⟩ := l _ _ _ _ n.ok
    exact (h μ1 s1).run.run pins s σ H D I ⟨L, G, ⟨o1, n.env⟩, a⟩⟩⟩
/-- targets one by one -/
structure wGs (X : Cx) (W : WX) (ρ : Env') (μ : List M) (ts : List Expr) (ds : List D) (nx : KN) : Prop where
  run : PGs X ts (fun vs σ H R => ∃ L G, Now X.K L G H μ ρ σ ∧ Reps X.K L G ds vs ∧ ∀ ρ' μ', nx ρ' μ' → Ends' X.K L G H ρ' μ' R)
def aGs (X : Cx) (e : List Expr) : TGs := fun v σ H Q => ∃ t, PGs X e t ∧ t v σ H Q
theorem aGs_ok : PGs X es (aGs X es) := ⟨fun pins s σ H v u Q I r ⟨t, p, q⟩ => p.run pins s σ H v u Q I r q⟩
theorem wGs_nil (h : nx ρ μ) : wGs X W ρ μ [] [] nx := ⟨pgs_of pgs_nil fun v σ H R ⟨L, G, n, r, a⟩ => ⟨r.inv_nil, a _ _ h _ L G H (.refl _ _ _) n⟩⟩
theorem wGs_cons (h : wG X W ρ μ e d (fun ρ1 μ1 => wGs X W ρ1 μ1 es ds nx)) (hs : (assignEach (e :: es) X.env).map (·.2) = assign e X.env :: (assignEach es X.env).map (·.2) := by rfl) : wGs X W ρ μ (e :: es) (d :: ds) nx :=
  ⟨pgs_of (pgs_cons h.run aGs_ok hs) fun vs σ H R ⟨L, G, n, r, a⟩ => by
    obtain ⟨v, q, e, r1, r2⟩ := r.inv_cons
    exact ⟨v, q, e, L, G, n, r1, fun ρ1 μ1 q1 σ1 L1 G1 H1 s1 n1 => ⟨_, q1.run, L1, G1, n1, r2.step s1, fun ρ' μ' q' => (a ρ' μ' q').step s1⟩⟩⟩
theorem wG_tup {kk : Nat} (hc : X.calm = true) (h : wGs X W ρ μ es ds nx) (hn : (assignEach es X.env).length = ds.length := by rfl) (hst : (assignEach es X.env).findIdx? (·.1) = none := by rfl) : wG X W ρ μ (.Tuple es kk pos) (.tup ds) nx :=
  ⟨pg_of (pg_tup hc h.run hn hst) fun v σ H R ⟨L, G, n, r, a⟩ => by
    obtain ⟨a', vs, e, q, r⟩ := rep_tup.mp r
    exact ⟨a', vs, e, Same.sqT n.ok.sub q, r.length, L, G, n, r, a⟩⟩

theorem wS_expr (h : wE X W ρ μ e (fun _ μ1 => nx ρ μ1) (κ.z ρ)) (hs : swapsWith e none pos.line X.env = pure false := by rfl) : wS X W ρ μ (.Expr e pos) nx κ :=
  ⟨ps_of (ps_expr h.run hs) fun D σ H ⟨L, G, n, a⟩ => ⟨L, G, n, fun d μ1 q v L1 G1 H1 s1 o1 _ => a.nx _ _ q σ L1 G1 H1 s1 (n.step s1 o1), a.x n⟩⟩
theorem wS_asg (h : wE X W ρ μ e (fun d μ1 => wG X W ρ μ1 tg d nx) (κ.z ρ)) (hs : swapsWithSole [tg] e pos.line X.env = pure false := by rfl) (hw : swappedStores [tg] e X.env = pure none := by rfl)
    (h1 : (assignEach [tg] X.env).map (·.2) = [assign tg X.env] := by rfl) : wS X W ρ μ (.Assign [tg] e pos) nx κ :=
  ⟨ps_of (ps_asg h.run aG_ok hs hw h1) fun D σ H ⟨L, G, n, a⟩ => ⟨L, G, n, fun d μ1 q v L1 G1 H1 s1 o1 r1 => ⟨_, q.run, L1, G1, n.step s1 o1, r1, fun ρ' μ' q' => (a.nx ρ' μ' q').step s1⟩, a.x n⟩⟩
theorem wS_ret (h : wE X W ρ μ e κ.rt (κ.z ρ)) : wS X W ρ μ (.Return (some e) pos) nx κ := ⟨ps_of (ps_ret h.run) fun D σ H ⟨L, G, n, a⟩ => ⟨L, G, n, a.rt, a.x n⟩⟩
theorem wS_pass (h : nx ρ μ) : wS X W ρ μ (.Pass pos) nx κ := .of es_pass h
theorem wS_if (h : wC X W ρ μ c (fun k μ1 => if k = true then wSs X W ρ μ1 A nx κ else wSs X W ρ μ1 B nx κ) (κ.z ρ)) : wS X W ρ μ (.If c A B pos) nx κ :=
  ⟨ps_of (ps_if h.run aSs_ok aSs_ok) fun D σ H ⟨L, G, n, a⟩ => ⟨L, G, n, fun k μ1 q L1 G1 H1 s1 o1 => by
    cases k with
    | true => exact iteT ⟨_, (show wSs X W ρ μ1 A nx κ from q).run, L1, G1, n.step s1 o1, a.step s1⟩
    | false => exact iteF ⟨_, (show wSs X W ρ μ1 B nx κ from q).run, L1, G1, n.step s1 o1, a.step s1⟩, a.x n⟩⟩
/-! ### while -/
theorem wS_while {body : List Stmt} (Iv : Nat → KN) {m : Nat} (po : PassesOwn (model X.prog X.w) X.A X.env X.xe) (h0 : Iv m ρ μ)
    (h : ∀ m ρ μ, Iv m ρ μ → wC X W ρ μ c (fun k μ1 => if k = true then wSs X W ρ μ1 body (fun ρ2 μ2 => ∃ m', m' < m ∧ Iv m' ρ2 μ2) { κ with bk := nx, ct := fun ρ2 μ2 => ∃ m', m' < m ∧ Iv m' ρ2 μ2 } else nx ρ μ1) (κ.z ρ)) :
    wS X W ρ μ (.While c body [] pos) nx κ := by
  refine ⟨ps_of (ps_while po aT_ok aSs_ok) fun D σ H ⟨L, G, nw, a⟩ => ?_⟩
  refine ⟨fun m σ' H' => ∃ ρ' μ' L' G', Iv m ρ' μ' ∧ Now X.K L' G' H' μ' ρ' σ' ∧ AccS W X.K L' G' H' D nx κ, ⟨m, ρ, μ, L, G, h0, nw, a⟩, ?_⟩
  rintro m σ1 H1 ⟨ρ1, μ1, L1, G1, h1, n1, a1⟩
  refine ⟨_, (h m ρ1 μ1 h1).run, L1, G1, n1, fun k μ2 q L2 G2 H2 s2 o2 => ?_, a1.x n1⟩
  cases k with
  | true =>
    refine iteT ⟨fun σ3 H3 => ∃ L3 G3 ρ3 μ3 m', m' < m ∧ Iv m' ρ3 μ3 ∧ Now X.K L3 G3 H3 μ3 ρ3 σ3 ∧ AccS W X.K L3 G3 H3 D nx κ, fun σ3 H3 ⟨L3, G3, ρ3, μ3, m', hm, i3, n3, a3⟩ => ⟨m', hm, ρ3, μ3, L3, G3, i3, n3, a3⟩, _, (show wSs X W ρ1 μ2 body _ _ from q).run, L2, G2, n1.step s2 o2, ?_⟩
    have a2 := a1.step s2
    exact ⟨fun ρ3 μ3 ⟨m', hm, i3⟩ σ3 L3 G3 H3 s3 n3 => ⟨L3, G3, ρ3, μ3, m', hm, i3, n3, a2.step s3⟩, a2.nx, fun ρ3 μ3 ⟨m', hm, i3⟩ σ3 L3 G3 H3 s3 n3 => ⟨L3, G3, ρ3, μ3, m', hm, i3, n3, a2.step s3⟩, a2.rt, a2.xc⟩
  | false => exact iteF (a1.nx _ _ (show nx ρ1 μ2 from q) _ L2 G2 H2 s2 (n1.step s2 o2))

/-! ### for -/
/-- what is walked -/
structure wI (X : Cx) (W : WX) (ρ : Env') (μ : List M) (tg e : Expr) (Q : KA) (Z : KX) : Prop where
  run : PI X tg e (fun σ H R => ∃ L G, Now X.K L G H μ ρ σ ∧ (∀ ds μ', Q ds μ' → ∀ J L' G' H', Step L G H L' G' H' → Ok X.K L' G' H' μ' → JOk X.K J L' G' ds → R J H') ∧ AccX W X.K L G H σ Z)
/-- the rest of a loop -/
def wForD (X : Cx) (W : WX) (tg : Expr) (body : List Stmt) (nx : KN) (κ : Ks) : List D → KN
  | [], ρ, μ => nx ρ μ
  | d :: ds, ρ, μ => wG X W ρ μ tg d fun ρ1 μ1 => wSs X W ρ1 μ1 body (wForD X W tg body nx κ ds) { κ with bk := nx, ct := wForD X W tg body nx κ ds }
structure wFor (X : Cx) (W : WX) (tg : Expr) (body : List Stmt) (nx : KN) (κ : Ks) (ds : List D) (ρ : Env') (μ : List M) : Prop where
  run : wForD X W tg body nx κ ds ρ μ
theorem wS_for {body : List Stmt} (po : PassesOwn (model X.prog X.w) X.A X.env X.xe) (hc : X.calm = true) (h : wI X W ρ μ tg e (fun ds μ1 => wFor X W tg body nx κ ds ρ μ1) (κ.z ρ)) (hs : ∀ x, foldedSetIterable e X.env x = pure x := by intro _; rfl) : wS X W ρ μ (.For tg e body [] pos) nx κ := by
  refine ⟨ps_of (ps_for po hc h.run aG_ok aSs_ok hs) fun D σ H ⟨L, G, nw, a⟩ => ⟨L, G, nw, fun ds μ1 hf J L1 G1 H1 s1 o1 j => ?_, a.x nw⟩⟩
  refine ⟨fun i m σ' H' => m = ds.length - i ∧ i ≤ ds.length ∧ ∃ ρ' μ' L' G', wForD X W tg body nx κ (ds.drop i) ρ' μ' ∧ Pre L1 L' ∧ Same G1 G' ∧ Now X.K L' G' H' μ' ρ' σ' ∧ AccS W X.K L' G' H' D nx κ, ⟨ds.length, by simp, Nat.zero_le _, ρ, μ1, L1, G1, hf.run, .refl _, .refl _, nw.step s1 o1, a.step s1⟩, ?_⟩
  rintro i m σ2 H2 ⟨rfl, hil, ρ2, μ2, L2, G2, h2, p2, g2, n2, a2⟩
  generalize hd : ds.drop i = rest at h2
  cases rest with
  | nil =>
    have : i = ds.length := by
      have := congrArg List.length hd
      simp at this
      omega
    subst this
    exact .inl ⟨j.stop L2 G2 H2 μ2 p2 g2 n2.ok, a2.nx _ _ h2 _ L2 G2 H2 (.refl _ _ _) n2⟩
  | cons d ds' =>
    obtain ⟨e1, e2⟩ := drop_cons hd
    obtain ⟨go, yl⟩ := j.go L2 G2 H2 μ2 i d p2 g2 n2.ok e1
    have il : i < ds.length := (List.getElem?_eq_some_iff.mp e1).1
    refine .inr ⟨go, fun σ' H' => ∃ ρ' μ' L' G', wForD X W tg body nx κ ds' ρ' μ' ∧ Pre L1 L' ∧ Same G1 G' ∧ Now X.K L' G' H' μ' ρ' σ' ∧ AccS W X.K L' G' H' D nx κ, fun σ' H' ⟨ρ', μ', L', G', w', p', g', n', a'⟩ => ⟨ds.length - (i + 1), by omega, rfl, il, ρ', μ', L', G', by rw [e2]; exact w', p', g', n', a'⟩, fun x H3 y => ?_⟩
    obtain ⟨G3, s3, o3, r3⟩ := yl x H3 y
    refine ⟨_, (show wG X W ρ2 μ2 tg d _ from h2).run, L2, G3, n2.step s3 o3, r3, fun ρ4 μ4 h4 σ4 L4 G4 H4 s4 n4 => ⟨_, h4.run, L4, G4, n4, ?_⟩⟩
    have a4 := a2.step (s3.trans s4)
    have fin : ∀ ρ5 μ5, wForD X W tg body nx κ ds' ρ5 μ5 → Ends' X.K L4 G4 H4 ρ5 μ5 fun σ' H' => ∃ ρ' μ' L' G', wForD X W tg body nx κ ds' ρ' μ' ∧ Pre L1 L' ∧ Same G1 G' ∧ Now X.K L' G' H' μ' ρ' σ' ∧ AccS W X.K L' G' H' D nx κ :=
      fun ρ5 μ5 w5 σ5 L5 G5 H5 s5 n5 => ⟨ρ5, μ5, L5, G5, w5, (p2.trans s4.pre).trans s5.pre, ((g2.trans s3.gs).trans s4.gs).trans s5.gs, n5, a4.step s5⟩
    exact ⟨fin, a4.nx, fin, a4.rt, a4.xc⟩
/-- a loop by an invariant -/
theorem wFor_inv {body : List Stmt} (Iv : List D → KN) (hb : ∀ d ds ρ μ, Iv (d :: ds) ρ μ → wG X W ρ μ tg d fun ρ1 μ1 => wSs X W ρ1 μ1 body (Iv ds) { κ with bk := nx, ct := Iv ds }) (hn : ∀ ρ μ, Iv [] ρ μ → nx ρ μ) : ∀ ds ρ μ, Iv ds ρ μ → wFor X W tg body nx κ ds ρ μ := by
  suffices ∀ ds ρ μ, Iv ds ρ μ → wForD X W tg body nx κ ds ρ μ from fun ds ρ μ h => ⟨this ds ρ μ h⟩
  intro ds
  induction ds with
  | nil => intro ρ μ h; exact hn ρ μ h
  | cons d ds ih =>
    intro ρ μ h
    refine ⟨pg_of (hb d ds ρ μ h).run fun v σ H R ⟨L, G, n, r, a⟩ => ⟨L, G, n, r, fun ρ1 μ1 h1 => a ρ1 μ1 ?_⟩⟩
    refine ⟨pss_of h1.run fun D σ H ⟨L, G, n, a⟩ => ⟨L, G, n, fun ρ μ q => a.nx ρ μ (ih ρ μ q), a.bk, fun ρ μ q => a.ct ρ μ (ih ρ μ q), a.rt, a.xc⟩⟩
end
end PM

set_option Elab.async false
set_option linter.all false
set_option maxRecDepth 100000
namespace PM
open PySem L2
/-! ### defs -/
/-- what a def is asked for: any of these ends will do -/
def spH (K : PySem.W.Frag) (ds : List D) (μ : List M) (Q : KV) (Z : KX) : Sp := fun vs H R E => ∃ L G, Ok K L G H μ ∧ Reps K L G ds vs ∧ AccV K L G H Q R ∧ ∀ C ns ds' μ', Z C ns ds' μ' → ComesX K L G H C ns ds' μ' E
/-- a def: its place, its parameters, its level -/
structure Fnx where
  a : Addr
  fd : FuncData
  ps : List Str
  lv : Nat
def SpF (P : Program) (w : World) (K : PySem.W.Frag) (mg : Str → Option Value) (base : Heap) (f : Fnx) (ds : List D) (μ : List M) (Q : KV) (Z : KX) : Prop := FnG P w K mg base f.lv f.a f.fd f.ps (spH K ds μ Q Z)
abbrev SpX (X : Cx) (f : Fnx) (ds : List D) (μ : List M) (Q : KV) (Z : KX) : Prop := SpF X.prog X.w X.K X.mg X.base f ds μ Q Z
section
variable {P : Program} {w : World} {K : PySem.W.Frag} {mg : Str → Option Value} {base : Heap} {f : Fnx} {ds : List D} {μ : List M} {Q Q' : KV} {Z Z' : KX}
theorem SpF.mono (h : SpF P w K mg base f ds μ Q Z) (hq : ∀ d μ, Q d μ → Q' d μ) (hz : ∀ C ns ds μ, Z C ns ds μ → Z' C ns ds μ) : SpF P w K mg base f ds μ Q' Z' :=
  ⟨fun vs H R E ⟨L, G, ok, r, v, x⟩ => h.len vs H R E ⟨L, G, ok, r, v.mono hq, fun C ns ds' μ' z => x C ns ds' μ' (hz _ _ _ _ z)⟩,
   fun A outer s H args us vs R E room gr en bd rel ⟨L, G, ok, r, v, x⟩ => h.run A outer s H args us vs R E room gr en bd rel ⟨L, G, ok, r, v.mono hq, fun C ns ds' μ' z => x C ns ds' μ' (hz _ _ _ _ z)⟩⟩
theorem SpF.imp (h : SpF P w K mg base f ds μ Q Z) (hq : ∀ d μ, Q d μ → Q' d μ) : SpF P w K mg base f ds μ Q' Z := h.mono hq fun _ _ _ _ z => z
/-- a def whose ends are told one by one -/
theorem SpF.rel {R : Rl} (h : ∀ ds μ o, R ds μ o → SpF P w K mg base f ds μ (fun d μ' => o = .ret d μ') (fun C ns ds' μ' => o = .exc C ns ds' μ')) : FnG P w K mg base f.lv f.a f.fd f.ps (spR K R) := by
  have key : ∀ vs H Q E, spR K R vs H Q E → ∃ ds μ o, R ds μ o ∧ spH K ds μ (fun d μ' => o = .ret d μ') (fun C ns ds' μ' => o = .exc C ns ds' μ') vs H Q E := by
    rintro vs H Q E ⟨L, G, ds, μ, o, ok, r, hR, c⟩
    refine ⟨ds, μ, o, hR, L, G, ok, r, ?_, ?_⟩
    · rintro d μ' rfl
      exact c
    · rintro C ns ds' μ' rfl
      exact c
  refine ⟨fun vs H Q E q => ?_, fun A outer s H args us vs Q E room gr en bd rel q => ?_⟩
  · obtain ⟨ds, μ, o, hR, z⟩ := key vs H Q E q
    exact (h ds μ o hR).len _ _ _ _ z
  · obtain ⟨ds, μ, o, hR, z⟩ := key vs H Q E q
    exact (h ds μ o hR).run A outer s H args us vs Q E room gr en bd rel z
/-- the other way -/
theorem SpF.ofR {R : Rl} {o : FO} (h : FnG P w K mg base f.lv f.a f.fd f.ps (spR K R)) (hR : R ds μ o) (ho : o.In Q Z) : SpF P w K mg base f ds μ Q Z := by
  have key : ∀ vs H R' E, spH K ds μ Q Z vs H R' E → spR K R vs H R' E := by
    rintro vs H R' E ⟨L, G, ok, r, v, x⟩
    refine ⟨L, G, ds, μ, o, ok, r, hR, ?_⟩
    cases o with
    | ret d μ' => exact v d μ' ho
    | exc C ns ds' μ' => exact x C ns ds' μ' ho
  exact ⟨fun vs H R' E q => h.len _ _ _ _ (key _ _ _ _ q), fun A outer s H args us vs R' E room gr en bd rel q => h.run A outer s H args us vs R' E room gr en bd rel (key _ _ _ _ q)⟩
end
/-! ### what leaves a def -/
/-- things that the def has made are told as they stand at its end -/
inductive Frz (μ : List M) (b : Nat) : List D → List D → Prop
  | nil : Frz μ b [] []
  | lo {d : D} {ds es : List D} : D.lo b d = true → Frz μ b ds es → Frz μ b (d :: ds) (d :: es)
  | tup {xs ys ds es : List D} : Frz μ b xs ys → Frz μ b ds es → Frz μ b (.tup xs :: ds) (.tup ys :: es)
  | lst {xs ys ds es : List D} : Frz μ b xs ys → Frz μ b ds es → Frz μ b (.lst xs :: ds) (.lst ys :: es)
  | obj {C : Addr} {ns : List Str} {xs ys ds es : List D} : Frz μ b xs ys → Frz μ b ds es → Frz μ b (.obj C ns xs :: ds) (.obj C ns ys :: es)
  | locL {n : Nat} {xs ys ds es : List D} : b ≤ n → μ[n]? = some (.lst xs) → Frz μ b xs ys → Frz μ b ds es → Frz μ b (.loc n :: ds) (.lst ys :: es)
  | locI {n : Nat} {C : Addr} {ns : List Str} {xs ys ds es : List D} : b ≤ n → μ[n]? = some (.ins C ns xs) → Frz μ b xs ys → Frz μ b ds es → Frz μ b (.loc n :: ds) (.obj C ns ys :: es)
theorem Frz.len {μ : List M} {b : Nat} {ds es : List D} (h : Frz μ b ds es) : es.length = ds.length := by
  induction h with
  | nil => rfl
  | _ => simp [*]
theorem Frz.los {μ : List M} {b : Nat} : ∀ {ds : List D}, D.los b ds = true → Frz μ b ds ds
  | [], _ => .nil
  | d :: ds, h => by
    simp only [D.los, Bool.and_eq_true] at h
    exact .lo h.1 (Frz.los h.2)
section
variable {K : PySem.W.Frag} {L : List Addr} {G H : Hp} {μ μ2 ν : List M}
/-- the last things of the store are told, and left behind -/
theorem Ok.freeze (o : Ok K L G H (μ2 ++ ν)) (lo : μ2.all (M.lo μ2.length) = true) {L0 : List Addr} {G0 H0 : Hp} (s : Step L0 G0 H0 L G H) (hl : L0.length = μ2.length) :
    ∃ G', Step L0 G0 H0 (L.take μ2.length) G' H ∧ Same G G' ∧ Ok K (L.take μ2.length) G' H μ2 ∧ ∀ ds es vs, Frz (μ2 ++ ν) μ2.length ds es → Reps K L G ds vs → Reps K (L.take μ2.length) G' es vs := by
  classical
  have hll : L.length = μ2.length + ν.length := by rw [o.len, List.length_append]
  refine ⟨fun a => if a ∈ L.drop μ2.length then H a else G a, ?_⟩
  have sep : ∀ a, a ∈ L.take μ2.length → a ∉ L.drop μ2.length := fun a h1 h2 => by
    have := List.nodup_append.mp ((List.take_append_drop μ2.length L).symm ▸ o.nd)
    exact this.2.2 a h1 a h2 rfl
  have sg : Same G (fun a => if a ∈ L.drop μ2.length then H a else G a) := fun a u e => by
    have : a ∉ L.drop μ2.length := fun z => by
      rw [o.off a (List.mem_of_mem_drop z)] at e
      cases e
    simp only [this, if_false]
    exact e
  have c := o.cut lo
  have st := s.cut (n := μ2.length) (by omega)
  refine ⟨⟨st.pre, st.gs.trans sg, st.hs, st.fr, st.nn, fun a u e => ?_⟩, sg, ⟨fun a u e => ?_, c.len, c.nd, fun a ha => ?_, c.liv, fun n a m e1 e2 => (c.at_ n a m e1 e2).mono (.refl _) sg⟩, ?_⟩
  · by_cases z : a ∈ L.drop μ2.length
    · rcases s.fr a (List.mem_of_mem_drop z) with q | q
      · exfalso
        obtain ⟨j, hj, ej⟩ := List.getElem_of_mem q
        have e1 := s.pre j a (by rw [List.getElem?_eq_getElem hj, ej])
        refine sep a ?_ z
        rw [List.mem_iff_getElem?]
        exact ⟨j, by rw [List.getElem?_take_of_lt (by omega)]; exact e1⟩
      · exact .inr q
    · simp only [z, if_false] at e
      exact st.gf a u e
  · by_cases z : a ∈ L.drop μ2.length
    · simp only [z, if_true] at e
      exact e
    · simp only [z, if_false] at e
      exact c.sub a u e
  · simp only [sep a ha, if_false]
    exact c.off a ha
  · intro ds es vs h
    induction h generalizing vs with
    | nil => intro r; exact r.inv_nil ▸ Reps.nil
    | lo hd _ ih =>
      intro r
      obtain ⟨v, q, rfl, r1, r2⟩ := r.inv_cons
      exact Reps.cons ((r1.cut hd).mono (.refl _) sg) (ih q r2)
    | tup _ _ ih1 ih2 =>
      intro r
      obtain ⟨v, q, rfl, r1, r2⟩ := r.inv_cons
      obtain ⟨a, us, e, hq, r1⟩ := rep_tup.mp r1
      exact Reps.cons (rep_tup.mpr ⟨a, us, e, Same.sqT sg hq, ih1 us r1⟩) (ih2 q r2)
    | lst _ _ ih1 ih2 =>
      intro r
      obtain ⟨v, q, rfl, r1, r2⟩ := r.inv_cons
      obtain ⟨a, us, e, hq, r1⟩ := rep_lst.mp r1
      exact Reps.cons (rep_lst.mpr ⟨a, us, e, sg _ _ hq, ih1 us r1⟩) (ih2 q r2)
    | obj h1 _ ih1 ih2 =>
      intro r
      obtain ⟨v, q, rfl, r1, r2⟩ := r.inv_cons
      obtain ⟨a, dx, us, e, hq, z, r1⟩ := rep_obj.mp r1
      exact Reps.cons (rep_obj.mpr ⟨a, dx, us, e, sg _ _ hq, by rw [h1.len]; exact z, ih1 us r1⟩) (ih2 q r2)
    | locL hn hm _ _ ih1 ih2 =>
      intro r
      obtain ⟨v, q, rfl, r1, r2⟩ := r.inv_cons
      obtain ⟨a, ea, e⟩ := rep_loc.mp r1
      obtain ⟨us, eh, r1⟩ := o.at_ _ a _ ea hm
      have hd : a ∈ L.drop μ2.length := by
        rw [List.mem_iff_getElem?]
        exact ⟨_ - μ2.length, by rw [List.getElem?_drop, Nat.add_sub_cancel' hn]; exact ea⟩
      exact Reps.cons (rep_lst.mpr ⟨a, us, e, by simp only [hd, if_true]; exact eh, ih1 us r1⟩) (ih2 q r2)
    | locI hn hm h1 _ ih1 ih2 =>
      intro r
      obtain ⟨v, q, rfl, r1, r2⟩ := r.inv_cons
      obtain ⟨a, ea, e⟩ := rep_loc.mp r1
      obtain ⟨dx, us, eh, z, r1⟩ := o.at_ _ a _ ea hm
      have hd : a ∈ L.drop μ2.length := by
        rw [List.mem_iff_getElem?]
        exact ⟨_ - μ2.length, by rw [List.getElem?_drop, Nat.add_sub_cancel' hn]; exact ea⟩
      exact Reps.cons (rep_obj.mpr ⟨a, dx, us, e, by simp only [hd, if_true]; exact eh, by rw [h1.len]; exact z, ih1 us r1⟩) (ih2 q r2)
end
/-- what is handed back at a def's end, as the caller sees it (μ: the store at the entry) -/
inductive RetOk (μ : List M) (Q : KV) : D → List M → Prop
  | same {d : D} {μ1 : List M} : Q d μ1 → RetOk μ Q d μ1
  | cut {d d' : D} {μ2 ν : List M} : Lows μ μ2 → Frz (μ2 ++ ν) μ.length [d] [d'] → Q d' μ2 → RetOk μ Q d (μ2 ++ ν)
  | le {d : D} {μ1 μ2 : List M} : Le μ1 μ2 → RetOk μ Q d μ2 → RetOk μ Q d μ1
inductive ExcOk (μ : List M) (Z : KX) (C : Addr) (ns : List Str) : List D → List M → Prop
  | same {ds : List D} {μ1 : List M} : Z C ns ds μ1 → ExcOk μ Z C ns ds μ1
  | cut {ds ds' : List D} {μ2 ν : List M} : Lows μ μ2 → Frz (μ2 ++ ν) μ.length ds ds' → Z C ns ds' μ2 → ExcOk μ Z C ns ds (μ2 ++ ν)
  | le {ds : List D} {μ1 μ2 : List M} : Le μ1 μ2 → ExcOk μ Z C ns ds μ2 → ExcOk μ Z C ns ds μ1
theorem RetOk.new {μ ν : List M} {Q : KV} {d d' : D} (h : Frz (μ ++ ν) μ.length [d] [d']) (q : Q d' μ) : RetOk μ Q d (μ ++ ν) := .cut (.refl _) h q
theorem RetOk.low {μ ν : List M} {Q : KV} {d : D} (h : D.lo μ.length d = true) (q : Q d μ) : RetOk μ Q d (μ ++ ν) := .cut (.refl _) (.lo h .nil) q
theorem ExcOk.low {μ ν : List M} {Z : KX} {C : Addr} {ns : List Str} {ds : List D} (h : D.los μ.length ds = true) (q : Z C ns ds μ) : ExcOk μ Z C ns ds (μ ++ ν) := .cut (.refl _) (Frz.los h) q
section
variable {K : PySem.W.Frag} {L L1 : List Addr} {G H G1 H1 : Hp} {μ μ1 : List M} {Q : KV} {Z : KX} {d : D} {C : Addr} {ns : List Str} {ds : List D} {v : V} {R : VK} {E : XK}
theorem RetOk.go (h : RetOk μ Q d μ1) (ok : Ok K L G H μ) (a : AccV K L G H Q R) (s : Step L G H L1 G1 H1) (o : Ok K L1 G1 H1 μ1) (r : Rep K L1 G1 d v) : R v H1 := by
  induction h with
  | same q => exact a _ _ q v L1 G1 H1 s o r
  | cut l f q =>
    rename_i d' μ2 ν
    obtain ⟨G', s', _, o', rr⟩ := o.freeze (l.all ok) s (by rw [ok.len, l.1])
    obtain ⟨w, e, r'⟩ := (rr [d] [d'] [v] (by rw [l.1]; exact f) (Reps.cons r Reps.nil)).one
    cases e
    exact a _ _ q v _ _ H1 s' o' r'
  | le l _ ih => exact ih (l _ _ _ _ o)
theorem ExcOk.go {dx : Option Addr} (h : ExcOk μ Z C ns ds μ1) (ok : Ok K L G H μ) (a : ∀ C ns ds' μ', Z C ns ds' μ' → ComesX K L G H C ns ds' μ' E) (s : Step L G H L1 G1 H1) (o : Ok K L1 G1 H1 μ1) (x : XdAt K L1 G1 H1 dx ns ds) : E (.ref C) dx H1 := by
  induction h with
  | same q => exact a _ _ _ _ q dx L1 G1 H1 s o x
  | cut l f q =>
    obtain ⟨G', s', sg, o', rr⟩ := o.freeze (l.all ok) s (by rw [ok.len, l.1])
    refine a _ _ _ _ q dx _ _ H1 s' o' ⟨by rw [f.len]; exact x.1, ?_⟩
    rcases x.2 with z | ⟨b, vs, e1, e2, r⟩
    · exact .inl z
    · exact .inr ⟨b, vs, e1, sg _ _ e2, rr _ _ _ (by rw [l.1]; exact f) r⟩
  | le l _ ih => exact ih (l _ _ _ _ o)
end
end PM

set_option Elab.async false
set_option linter.all false
set_option maxRecDepth 100000
namespace PM
open PySem PySem.Spec L2 PyProof.Rows
section
variable {P : Program} {w : World} {K : PySem.W.Frag} {mg : Str → Option Value} {base : Heap}
/-- THE RULE for a def -/
theorem spF_of {x qual : Str} {st : Stmt} {dvs : List V} {f : Addr} {fd : FuncData} {N ps : List Str} {k : Nat} {ds : List D} {μ : List M} {Q : KV} {Z : KX} (F : FunS K x qual st dvs f fd) (S : FnScope N ps (defScope st)) (hl : ds.length = ps.length)
    (body : ∀ (cdv : Value) (A : Around) (outer : List Env) (s : Shared) (H : Hp) (E : XK), Gd (cxOf (L2.CX P w) P w K mg base N qual (defScope st) f cdv A outer s H E) (fun c d _ H => E c d H) k →
      wSs (cxOf (L2.CX P w) P w K mg base N qual (defScope st) f cdv A outer s H E) (fun c d _ H => E c d H) (startD N ds) μ (defBody st) (fun _ μ1 => RetOk μ Q .non μ1) { rt := RetOk μ Q, xc := fun C ns ds' _ μ1 => ExcOk μ Z C ns ds' μ1 }) :
    SpF P w K mg base ⟨f, fd, ps, k + 1⟩ ds μ Q Z := by
  have ln : ∀ vs H R E, spH K ds μ Q Z vs H R E → vs.length = ps.length := fun vs H R E ⟨L, G, _, r, _⟩ => r.length.trans hl
  refine ⟨ln, fun A outer s H args us vs R E room gr en bnd rel hsp => ?_⟩
  obtain ⟨oc, od, dV, kV, doc, pm, an, cdv, ct, osl, rfl, look, hcode, _, _⟩ := F.ex
  have kept : ∀ b o, base.get? b = some o → s.heap.get? b = some o := fun b o e => (en.bs b o e).1
  have kin : K.In s.heap := en.mod.kin.keeps kept
  have kinds : ∀ y ∈ ps.zip us, (defScope st).names.lookup y.1 = some .local ∨ ((defScope st).names.lookup y.1 = some .cell ∧ ((cellsFrom (s.heap.objs.size + 1) (defScope st).names []).lookup y.1).isSome = true) := by
    rintro ⟨n, v⟩ hy
    exact (S.par n (List.of_mem_zip hy).1).imp (fun q => q) fun q => ⟨q, PySem.W.cellsFrom_some _ _ _ (.inl q)⟩
  refine codeAny_call_function room.depth (kin _ _ look) rfl S.co S.gen rfl (PySem.W.codeRec_of kin hcode) (bnd _ _ _ _ (wpAny_newFunctionEnv_cells S.kind kinds fun env he s1 ent => ?_))
  subst he
  refine ⟨(en.mod.nolimit.keeps kept).keeps ent.toInCall.keep, codeAny_func ?_⟩
  have hlen := ln _ _ _ _ hsp
  obtain ⟨L, G, ok, rr, av, ax⟩ := hsp
  have ht := body cdv A outer s H E ⟨rfl, S.nd, takes_of rfl rfl rfl rfl, passes_of rfl, room.deeper _, gr.mono (Nat.le_succ _)⟩
  have inv : Inv (cxOf (L2.CX P w) P w K mg base N qual (defScope st) f cdv A outer s H E) [] (L2.start N vs) H s1 := inv_start S room.hd en hlen rel ent
  refine wpAny_mono (ht.run.run [] s1 (L2.start N vs) H { nx := fun _ H' => R .non H', rt := R } inv ⟨L, G, ⟨ok, start_rep rr⟩, ?_⟩) (fun fl s' hs => ?_) fun e s' hs => hs
  · exact ⟨fun ρ1 μ1 q σ' L' G' H' s' n' => q.go ok av s' n'.ok (rep_non.mpr rfl), fun _ _ z => z.elim, fun _ _ z => z.elim, fun d μ1 q v L' G' H' s' o' r' => q.go ok av s' o' r', fun C ns ds' ρ1 μ1 q σ' dx L' G' H' s' n' x' => q.go ok ax s' n'.ok x'⟩
  match fl, hs with
  | .ret u, ⟨v, σ', H', J, rv, q⟩ => exact ⟨v, H', J.os, J.bare, J.base, J.hok, rv, q⟩
  | .next, ⟨σ', H', J, q⟩ => exact ⟨.non, H', J.os, J.bare, J.base, J.hok, rfl, q⟩
  | .brk, ⟨_, _, _, q⟩ => exact q.elim
  | .cont, ⟨_, _, _, q⟩ => exact q.elim
end
section
variable {X : Cx} {W : WX} {k : Nat} {ρ : Env'} {μ μ1 μ2 : List M} {e a b ob : Expr} {es : List Expr} {Q Q' : KV} {Z : KX} {d da db : D} {ds ds' : List D} {p pos apos : Pos} {x m : Str} {f : Fnx} {C : Addr} {pl : Sem Bool} {i : Int}
/-- a def's call, by values -/
theorem SpF.call (h : SpX X f ds μ Q Z) (bd : Binds X.K f.fd f.ps []) (g : Gd X W k) (hj : f.lv ≤ k) : wF X W (fun us => call (.ref f.a) us) ds μ Q Z := by
  refine ⟨fun pins s σ H xs us R L G I rx ok r av ax => ?_⟩
  ·
    have hsp : spH X.K ds μ Q Z xs H R (WE W σ) := ⟨L, G, ok, r, av, ax⟩
    have hl : us.length = f.ps.length := by rw [← rx.length]; exact h.len _ _ _ _ hsp
    have b := bd s us I.kIn (by rw [List.append_nil]; exact hl)
    rw [List.append_nil] at b
    exact run_fnG (E := WE W σ) h (g.hr.mono hj) (g.gr.mono hj) b (passAt g.tk σ) I rx hsp
/-- arguments, then a call -/
theorem wA.call {fn : List Value → Sem Value} (h : wA X W ρ μ es (fun ds μ1 => wF X W fn ds μ1 Q Z) Z) {pins : List (Addr × Obj)} {s : Shared} {σ : L2.St} {H : Hp} {L : List Addr} {G : Hp} {R : VK} (I : Inv X pins σ H s) (n : Now X.K L G H μ ρ σ) (v : AccV X.K L G H Q R) (z : AccX W X.K L G H σ Z) (pos : Pos) :
    wpAny (model X.prog X.w) X.A (spliced (backTo pos (starEach es X.env))) (fun us s1 => X.K.In s1.heap ∧ wpAny (model X.prog X.w) X.A (fn us) (EP X pins σ R) X.xe s1) X.xe s :=
  thn (h.go I n z pos) fun us s1 ⟨vs, ds, μ1, L1, G1, H1, I1, rv, q, st, o, r⟩ => ⟨I1.kIn, q.run pins s1 σ H1 vs us R L1 G1 I1 rv o r (v.step st) (z.step st)⟩
theorem wE_call (f : Fnx) (g : Gd X W k) (hm : X.mg x = some (.ref f.a)) (hk : PySem.W.keepIn X.K (.ref f.a) = true) (bd : Binds X.K f.fd f.ps []) (h : wA X W ρ μ (e :: es) (fun ds μ1 => SpX X f ds μ1 Q Z) Z) (hj : f.lv ≤ k := by exact Nat.le_of_ble_eq_true rfl) (hg : Gl X x := by rfl)
    (hdb : (x == ("__debug__" : Str)) = false := by decide) (he : starEach (e :: es) X.env = (false, eval e X.env) :: starEach es X.env := by rfl) (hpl : (backTo pos (starEach es X.env)).any (·.1) = false := by rfl) :
    wE X W ρ μ (.Call (.Name x p) (e :: es) [] pos) Q Z :=
  .by fun pins s σ H R L G I n v z => wpAny_Call_Name_kw (ld_glob I hg hm (PySem.W.callWith_K (h₀ := X.base) I.ok.mod.kin hk (wA.call (fn := fun us => call (.ref f.a) us) ⟨pa_of h.run fun σ H R ⟨L, G, n, v, x⟩ => ⟨L, G, n, fun ds μ' q => v ds μ' (q.call bd g hj), x⟩⟩ I n v z pos) he hpl) hdb)
/-- o.m(e, ..) -/
theorem wE_meth (f : Fnx) (g : Gd X W k) (cl : Cls X.K C) (hm : Meth X.K C m f.a) (bd : Binds X.K f.fd f.ps []) (h : wE X W ρ μ ob (fun d μ1 => Recv C m μ1 d ∧ wA X W ρ μ1 (e :: es) (fun ds μ2 => SpX X f (d :: ds) μ2 Q Z) Z) Z) (hj : f.lv ≤ k := by exact Nat.le_of_ble_eq_true rfl)
    (hst : starEach (e :: es) X.env = (false, eval e X.env) :: starEach es X.env := by rfl) (hpl : (backTo pos (starEach es X.env)).any (·.1) = false := by rfl)
    (ht : eval (.Call (.Attribute ob m apos) (e :: es) [] pos) X.env = (do
      let ov ← eval ob X.env
      standAt apos.atName
      let (f, first) ← holding [ov] (getMethod ov m pl)
      callWith pos f first (backTo pos (starEach (e :: es) X.env)) (backToKw pos (keywordEach [] X.env))) := by rfl) :
    wE X W ρ μ (.Call (.Attribute ob m apos) (e :: es) [] pos) Q Z := by
  refine .by fun pins s σ H R L G I n v z => ?_
  refine PySem.W.methodCall_KW (pl := pl) (thn (h.go I n z) fun u s1 ⟨y, d, μ1, L1, G1, H1, I1, ry, ⟨hr, ha⟩, st1, o1, r1⟩ => ?_) ht
  obtain ⟨a, dx, fs, ex, ea, l⟩ := hr.at_ o1 r1
  subst ex
  obtain rfl : u = Value.ref a := ry
  refine getmeth_ok I1 ea cl hm l ?_
  refine PySem.W.callWith_K (first := [.ref a]) (h₀ := X.base) I.ok.mod.kin hm.kp (thn (ha.go I1 (n.step st1 o1) (z.step st1) pos) fun us s2 ⟨vs, ds, μ2, L2, G2, H2, I2, rv, q, st2, o2, r2⟩ => ⟨I2.kIn, ?_⟩) hst hpl
  exact (q.call bd g hj).run pins s2 σ H2 (.ref a :: vs) (.ref a :: us) R L2 G2 I2 (.cons rfl rv) o2 (Reps.cons (r1.step st2) r2) (v.step (st1.trans st2)) (z.step (st1.trans st2))
/-- o.f, a field -/
theorem wE_fld (h : wE X W ρ μ ob (fun d μ1 => ∃ ns fs, (d = .obj C ns fs ∨ ∃ i : Nat, d = .loc i ∧ μ1[i]? = some (.ins C ns fs)) ∧ ∃ d', fldOf ns fs m = some d' ∧ Q d' μ1) Z) (c : Cls X.K C) (na : NoAttr X.K C m) (hb : attributeBase ob m X.env (eval ob X.env) = eval ob X.env := by rfl) : wE X W ρ μ (.Attribute ob m pos) Q Z :=
  ⟨pe_of (pe_fld h.run hb) fun σ H R ⟨L, G, nw, av, ax⟩ => ⟨L, G, nw, fun d μ1 ⟨ns, fs, hd, d', hf, q⟩ v L1 G1 H1 s1 o1 r1 => by
    rcases hd with rfl | ⟨i, rfl, hi⟩
    · obtain ⟨a, dx, vs, ev, eg, _, rr⟩ := rep_obj.mp r1
      obtain ⟨u, l, ru⟩ := fld_rep rr hf
      exact ⟨a, C, dx, _, u, ev, o1.sub _ _ eg, c, na, l, av _ _ q u L1 G1 H1 s1 o1 ru⟩
    · obtain ⟨a, ea, ev⟩ := rep_loc.mp r1
      obtain ⟨dx, vs, eh, _, rr⟩ := o1.at_ i a _ ea hi
      obtain ⟨u, l, ru⟩ := fld_rep rr hf
      exact ⟨a, C, dx, _, u, ev, eh, c, na, l, av _ _ q u L1 G1 H1 s1 o1 ru⟩, ax⟩⟩
/-- a module's name: a constant, a class -/
theorem wE_glob {u : Value} {v : V} (hm : X.mg x = some u) (r : RelV v u) (rd : ∀ L G, Rep X.K L G d v) (h : Q d μ) (hg : Gl X x := by rfl) (hd : (x == ("__debug__" : Str)) = false := by decide) : wE X W ρ μ (.Name x pos) Q Z := .ofV (ev_glob hg hm r rd hd) h
theorem wE_bty {T : String} (hm : X.mg x = none) (hv : bootBuiltins x = some (.type T)) (h : Q (.ty T) μ) (hg : Gl X x := by rfl) (hn : x ≠ "__name__" := by decide) (hd : (x == ("__debug__" : Str)) = false := by decide) : wE X W ρ μ (.Name x pos) Q Z := .ofV (ev_bty hg hm hv hn hd) h
/-- built-ins -/
theorem wE_blt {id : String} (hm : X.mg x = none) (hv : bootBuiltins x = some (.builtin id)) (h : wA X W ρ μ (e :: es) (fun ds μ1 => wF X W (fun us => call (.builtin id) us) ds μ1 Q Z) Z) (hg : Gl X x := by rfl) (hn : x ≠ "__name__" := by decide) (hdb : (x == ("__debug__" : Str)) = false := by decide)
    (he : starEach (e :: es) X.env = (false, eval e X.env) :: starEach es X.env := by rfl) (hpl : (backTo pos (starEach es X.env)).any (·.1) = false := by rfl) : wE X W ρ μ (.Call (.Name x p) (e :: es) [] pos) Q Z := by
  refine .by fun pins s σ H R L G I n v z => ?_
  refine PyProof.Rows.Call_ (ld_blt I hg hm hv ?_ hn hdb)
  refine PyProof.Rows.callWith_builtin1 (thn (h.go I n z pos) fun us s1 ⟨vs, ds, μ1, L1, G1, H1, I1, rv, q, st, o, r⟩ => ?_) he hpl
  exact q.run pins s1 σ H1 vs us R L1 G1 I1 rv o r (v.step st) (z.step st)
theorem wE_bcl {T : String} (hm : X.mg x = none) (hv : bootBuiltins x = some (.type T)) (h : wA X W ρ μ (e :: es) (fun ds μ1 => wF X W (fun us => call (.type T) us) ds μ1 Q Z) Z) (hg : Gl X x := by rfl) (hn : x ≠ "__name__" := by decide) (hdb : (x == ("__debug__" : Str)) = false := by decide)
    (he : starEach (e :: es) X.env = (false, eval e X.env) :: starEach es X.env := by rfl) (hpl : (backTo pos (starEach es X.env)).any (·.1) = false := by rfl) : wE X W ρ μ (.Call (.Name x p) (e :: es) [] pos) Q Z := by
  refine .by fun pins s σ H R L G I n v z => ?_
  refine PyProof.Rows.Call_ (ld_blt I hg hm hv ?_ hn hdb)
  refine PyProof.Rows.callWith_type1 (thn (h.go I n z pos) fun us s1 ⟨vs, ds, μ1, L1, G1, H1, I1, rv, q, st, o, r⟩ => ?_) he hpl
  exact q.run pins s1 σ H1 vs us R L1 G1 I1 rv o r (v.step st) (z.step st)
/-- a list that nobody will change -/
theorem wE_lst (h : wA X W ρ μ es (fun ds μ1 => ds.length ≤ sizeLine ∧ Q (.lst ds) μ1) Z) : wE X W ρ μ (.List es pos) Q Z :=
  ⟨pe_of (pe_lst h.run) fun σ H R ⟨L, G, n, v, x⟩ => ⟨L, G, n, fun ds μ1 ⟨hl, q⟩ vs L1 G1 H1 s1 o1 r1 => ⟨by rw [r1.length]; exact hl, fun p hp => by
    obtain ⟨o', s'⟩ := o1.new (o := .lst vs) hp
    exact v _ _ q _ L1 _ _ (s1.trans s') o' (rep_lst.mpr ⟨p, vs, rfl, upd_same, r1.step s'⟩)⟩, x⟩⟩
/-- a list of the store -/
theorem wE_lstL (h : wA X W ρ μ es (fun ds μ1 => ds.length ≤ sizeLine ∧ Q (.loc μ1.length) (μ1 ++ [.lst ds])) Z) : wE X W ρ μ (.List es pos) Q Z :=
  ⟨pe_of (pe_lst h.run) fun σ H R ⟨L, G, n, v, x⟩ => ⟨L, G, n, fun ds μ1 ⟨hl, q⟩ vs L1 G1 H1 s1 o1 r1 => ⟨by rw [r1.length]; exact hl, fun p hp => by
    obtain ⟨o', s'⟩ := o1.alloc (o := .lst vs) (m := .lst ds) hp ⟨vs, upd_same, r1.mono .app (.refl _)⟩
    exact v _ _ q _ _ _ _ (s1.trans s') o' (rep_loc.mpr ⟨p, by rw [← o1.len]; exact last_get L1 p, rfl⟩)⟩, x⟩⟩

/-! ### subscripts -/
structure wX (X : Cx) (W : WX) (da db : D) (μ : List M) (Q : KV) (Z : KX) : Prop where
  run : ∀ (value slice : Expr) (pins : List (Addr × Obj)) (s : Shared) (σ : L2.St) (H : Hp) (x y : V) (v u : Value) (R : VK) (L : List Addr) (G : Hp), Inv X pins σ H s → RelV x v → RelV y u → Ok X.K L G H μ → Rep X.K L G da x → Rep X.K L G db y → AccV X.K L G H Q R → AccX W X.K L G H σ Z →
    subscripted slice false v u = operate [v, u] (getItem v u) → wpAny (model X.prog X.w) X.A (subscriptTail value slice v u) (EP X pins σ R) X.xe s
theorem wE_sub (h : wE X W ρ μ a (fun da μ1 => wE X W ρ μ1 b (fun db μ2 => wX X W da db μ2 Q Z) Z) Z) (hs : PlainIx b := by exact fun _ _ => rfl) : wE X W ρ μ (.Subscript a b pos) Q Z :=
  .by fun pins s σ H R L G I n v z => PyProof.Rows.Subscript_ (thn (h.go I n z) fun u s1 ⟨y, da, μ1, L1, G1, H1, I1, ry, hb, st1, o1, r1⟩ => thn (hb.go I1 (n.step st1 o1) (z.step st1)) fun u2 s2 ⟨y2, db, μ2, L2, G2, H2, I2, ry2, ho, st2, o2, r2⟩ =>
    ho.run a b pins s2 σ H2 y y2 u u2 R L2 G2 I2 ry ry2 o2 (r1.step st2) r2 (v.step (st1.trans st2)) (z.step (st1.trans st2)) (hs _ _))
theorem wX_at (hd : Ixd μ da ds) (h : atI ds i = some d) (q : Q d μ) : wX X W da (.int i) μ Q Z := by
  refine ⟨fun value slice pins s σ H x y v u R L G I rx ry ok r1 r2 av ax hs => ?_⟩
  have e2 := rep_int.mp r2
  rcases hd with rfl | rfl | rfl | ⟨k, rfl, hk⟩
  · obtain ⟨p, vs, e, hq, rr⟩ := rep_tup.mp r1
    obtain ⟨z, ez, rz⟩ := atI_rep rr h
    exact ix_tup value slice pins s σ H x y v u R I rx ry ⟨p, vs, i, z, e, e2, Same.sqT ok.sub hq, ez, av _ _ q z L G H (.refl _ _ _) ok rz⟩ hs
  · obtain ⟨p, vs, e, hq, rr⟩ := rep_lst.mp r1
    obtain ⟨z, ez, rz⟩ := atI_rep rr h
    exact ix_list value slice pins s σ H x y v u R I rx ry ⟨p, vs, i, z, e, e2, SqL.of (ok.sub _ _ hq), ez, av _ _ q z L G H (.refl _ _ _) ok rz⟩ hs
  · obtain ⟨p, vs, e, hq, rr⟩ := rep_scr.mp r1
    obtain ⟨z, ez, rz⟩ := atI_rep rr h
    exact ix_list value slice pins s σ H x y v u R I rx ry ⟨p, vs, i, z, e, e2, Same.sqL ok.sub hq, ez, av _ _ q z L G H (.refl _ _ _) ok rz⟩ hs
  · obtain ⟨p, ea, e⟩ := rep_loc.mp r1
    obtain ⟨vs, eh, rr⟩ := ok.at_ k p _ ea hk
    obtain ⟨z, ez, rz⟩ := atI_rep rr h
    exact ix_list value slice pins s σ H x y v u R I rx ry ⟨p, vs, i, z, e, e2, SqL.of eh, ez, av _ _ q z L G H (.refl _ _ _) ok rz⟩ hs
theorem atI_ofNat {α : Type} {l : List α} {n : Nat} {y : α} (h : l[n]? = some y) : atI l (n : Int) = some y := by
  unfold atI ixN
  have := (List.getElem?_eq_some_iff.mp h).1
  rw [if_pos (by omega), if_pos (by omega)]
  simpa using h
/-- some place of a sequence -/
theorem wX_some (hd : Ixd μ da ds) (h0 : 0 ≤ i) (h1 : i < ds.length) (q : ∀ (n : Nat) d, ds[n]? = some d → i = n → Q d μ) : wX X W da (.int i) μ Q Z := by
  have hn : i.toNat < ds.length := by omega
  have e : i = (i.toNat : Int) := by omega
  rw [e]
  exact wX_at hd (atI_ofNat (List.getElem?_eq_getElem hn)) (q _ _ (List.getElem?_eq_getElem hn) e)
inductive Ints : List D → List Int → Prop
  | nil : Ints [] []
  | cons {i : Int} {ds : List D} {is : List Int} : Ints ds is → Ints (.int i :: ds) (i :: is)
theorem Ints.get {ds : List D} {is : List Int} (h : Ints ds is) : ∀ (n : Nat) d, ds[n]? = some d → ∃ i, d = .int i ∧ is[n]? = some i := by
  induction h with
  | nil => intro n d e; simp at e
  | cons h ih =>
    intro n d e
    cases n with
    | zero => simp only [List.getElem?_cons_zero, Option.some.injEq] at e; exact ⟨_, e.symm, rfl⟩
    | succ n => simp only [List.getElem?_cons_succ] at e ⊢; exact ih n d e
theorem Ints.len {ds : List D} {is : List Int} (h : Ints ds is) : ds.length = is.length := by
  induction h with
  | nil => rfl
  | cons _ ih => simp [ih]
/-- one of some ints -/
theorem wX_ints {is : List Int} (hd : Ixd μ da ds) (hi : Ints ds is) (h0 : 0 ≤ i) (h1 : i < is.length) (q : ∀ v, v ∈ is → Q (.int v) μ) : wX X W da (.int i) μ Q Z :=
  wX_some hd h0 (by rw [hi.len]; exact h1) fun n d e _ => by
    obtain ⟨v, rfl, e2⟩ := hi.get n d e
    exact q v (List.mem_of_getElem? e2)
end
end PM

set_option Elab.async false
set_option linter.all false
set_option maxRecDepth 100000
namespace PM
open PySem L2
section
variable {X : Cx} {W : WX} {k : Nat} {ρ : Env'} {μ μ1 ν : List M} {Q : KV} {Z : KX} {QT : KT} {i j : Int} {x y : Str} {a b : Bool} {d : D} {ds : List D} {n : Nat}
/-! leaves: ints -/
theorem wB_add (h : Q (.int (i + j)) μ) : wB X W (binaryOp .Add) (.int i) (.int j) μ Q Z := .ofV oo_add h
theorem wB_sub (h : Q (.int (i - j)) μ) : wB X W (binaryOp .Sub) (.int i) (.int j) μ Q Z := .ofV oo_sub h
theorem wB_mul (c : CMulW i j) (h : Q (.int (i * j)) μ) : wB X W (binaryOp .Mult) (.int i) (.int j) μ Q Z := .ofV (oo_mul c) h
theorem wB_mulR (c : -(2 ^ 64) < j ∧ j < 2 ^ 64) (h : Q (.int (i * j)) μ) : wB X W (binaryOp .Mult) (.int i) (.int j) μ Q Z := .ofV (oo_mulS (.inr c)) h
theorem wB_mulL (c : -(2 ^ 64) < i ∧ i < 2 ^ 64) (h : Q (.int (i * j)) μ) : wB X W (binaryOp .Mult) (.int i) (.int j) μ Q Z := .ofV (oo_mulS (.inl c)) h
theorem wB_fdiv (c : CDivW i j) (h : Q (.int (i / j)) μ) : wB X W (binaryOp .FloorDiv) (.int i) (.int j) μ Q Z := .ofV (oo_fdiv c) h
theorem wB_fdivS (c : 0 < j ∧ j < 1073741824) (h : Q (.int (i / j)) μ) : wB X W (binaryOp .FloorDiv) (.int i) (.int j) μ Q Z := .ofV (oo_fdivS c) h
theorem wB_mod (c : 0 < j) (h : Q (.int (i % j)) μ) : wB X W (binaryOp .Mod) (.int i) (.int j) μ Q Z := .ofV (oo_mod c) h
theorem wB_pow (c : CPow i j) (h : Q (.int (i ^ j.toNat)) μ) : wB X W (binaryOp .Pow) (.int i) (.int j) μ Q Z := .ofV (oo_pow c) h
theorem wB_pow5 (h : Q (.int 100000) μ) : wB X W (binaryOp .Pow) (.int 10) (.int 5) μ Q Z := wB_pow ⟨by decide, by decide, by decide⟩ h
theorem wB_pow6 (h : Q (.int 1000000) μ) : wB X W (binaryOp .Pow) (.int 10) (.int 6) μ Q Z := wB_pow ⟨by decide, by decide, by decide⟩ h
theorem wB_pow7 (h : Q (.int 10000000) μ) : wB X W (binaryOp .Pow) (.int 10) (.int 7) μ Q Z := wB_pow ⟨by decide, by decide, by decide⟩ h
theorem wB_pow8 (h : Q (.int 100000000) μ) : wB X W (binaryOp .Pow) (.int 10) (.int 8) μ Q Z := wB_pow ⟨by decide, by decide, by decide⟩ h
theorem wB_pow9 (h : Q (.int 1000000000) μ) : wB X W (binaryOp .Pow) (.int 10) (.int 9) μ Q Z := wB_pow ⟨by decide, by decide, by decide⟩ h
theorem wB_pow18 (h : Q (.int 1000000000000000000) μ) : wB X W (binaryOp .Pow) (.int 10) (.int 18) μ Q Z := wB_pow ⟨by decide, by decide, by decide⟩ h
theorem wB_lt (h : Q (.bl (decide (i < j))) μ) : wB X W (compareOp .Lt) (.int i) (.int j) μ Q Z := .ofV oc_lt h
theorem wB_le (h : Q (.bl (decide (i ≤ j))) μ) : wB X W (compareOp .LtE) (.int i) (.int j) μ Q Z := .ofV oc_le h
theorem wB_gt (h : Q (.bl (decide (j < i))) μ) : wB X W (compareOp .Gt) (.int i) (.int j) μ Q Z := .ofV oc_gt h
theorem wB_ge (h : Q (.bl (decide (j ≤ i))) μ) : wB X W (compareOp .GtE) (.int i) (.int j) μ Q Z := .ofV oc_ge h
theorem wB_eq (h : Q (.bl (decide (i = j))) μ) : wB X W (compareOp .Eq) (.int i) (.int j) μ Q Z := .ofV oc_eq h
theorem wB_ne (h : Q (.bl (!decide (i = j))) μ) : wB X W (compareOp .NotEq) (.int i) (.int j) μ Q Z := .ofV oc_ne h
theorem wB_eqT (h : Q (.bl (decide (x = y))) μ) : wB X W (compareOp .Eq) (.str x) (.str y) μ Q Z := .ofV oc_eqT h
theorem wB_neT (h : Q (.bl (!decide (x = y))) μ) : wB X W (compareOp .NotEq) (.str x) (.str y) μ Q Z := .ofV oc_neT h
theorem wB_eqB (h : Q (.bl (decide (a = b))) μ) : wB X W (compareOp .Eq) (.bl a) (.bl b) μ Q Z := .ofV oc_eqB h
theorem wB_neB (h : Q (.bl (!decide (a = b))) μ) : wB X W (compareOp .NotEq) (.bl a) (.bl b) μ Q Z := .ofV oc_neB h
theorem wB_is (h : Q (.bl d.isN) μ) : wB X W (compareOp .Is) d .non μ Q Z := .ofV oc_is h
theorem wB_isNot (h : Q (.bl (!d.isN)) μ) : wB X W (compareOp .IsNot) d .non μ Q Z := .ofV oc_isNot h
theorem wB_catL {es : List D} (c : ds.length + es.length ≤ sizeLine) (h : Q (.lst (ds ++ es)) μ) : wB X W (binaryOp .Add) (.lst ds) (.lst es) μ Q Z := .ofV (oo_catL c) h
theorem wU_neg (h : Q (.int (-i)) μ) : wU X W (unaryOp .USub) (.int i) μ Q Z := .ofV ou_neg h
/-! leaves: built-ins -/
theorem wF_abs (h : Q (.int (i.natAbs : Nat)) μ) : wF X W (fun us => call (.builtin "abs") us) [.int i] μ Q Z := .ofV cb_abs (by
  rw [show (if i < 0 then -i else i) = ((i.natAbs : Nat) : Int) by split <;> omega]; exact h)
theorem wF_max (g : Gd X W k) (h : Q (.int (max i j)) μ) : wF X W (fun us => call (.builtin "max") us) [.int i, .int j] μ Q Z := .ofV (cb_max g.calm) (by
  rw [show (if j > i then j else i) = max i j by split <;> omega]; exact h)
theorem wF_min (g : Gd X W k) (h : Q (.int (min i j)) μ) : wF X W (fun us => call (.builtin "min") us) [.int i, .int j] μ Q Z := .ofV (cb_min g.calm) (by
  rw [show (if j < i then j else i) = min i j by split <;> omega]; exact h)
theorem wF_intB (h : Q (.int (if b = true then 1 else 0)) μ) : wF X W (fun us => call (.type "int") us) [.bl b] μ Q Z := .ofV ct_intB h
theorem wF_boolB (h : Q (.bl b) μ) : wF X W (fun us => call (.type "bool") us) [.bl b] μ Q Z := .ofV ct_boolB h
theorem wF_len (c : Ixd μ d ds) (h : Q (.int ds.length) μ) : wF X W (fun us => call (.builtin "len") us) [d] μ Q Z := by
  rcases c with rfl | rfl | rfl | ⟨n, rfl, e⟩
  · exact .ofV (cb_len _ (.inl rfl)) h
  · exact .ofV (cb_len _ (.inr (.inl rfl))) h
  · exact .ofV (cb_len _ (.inr (.inr rfl))) h
  · exact .ofV (cb_lenL e) h
theorem wF_tup (c : d = .lst ds ∨ d = .tup ds ∨ ∃ n : Nat, d = .loc n ∧ μ[n]? = some (.lst ds)) (h : Q (.tup ds) μ) : wF X W (fun us => call (.type "tuple") us) [d] μ Q Z := by
  rcases c with rfl | rfl | ⟨n, rfl, e⟩
  · exact .ofV ct_tup h
  · exact .ofV ct_tupT h
  · exact .ofV (ct_tupL e) h
theorem wF_any {bs : List Bool} (g : Gd X W k) (h : Q (.bl (bs.any id)) μ) : wF X W (fun us => call (.builtin "any") us) [.lst (bs.map D.bl)] μ Q Z := .ofV (cb_any g.calm) h
theorem wF_isi {c : D} {t u : Value} (y : TyD X.K d t) (kk : ClD c u) (hk : PySem.W.kitOne X.K t u = some b) (h : Q (.bl b) μ) : wF X W (fun us => call (.builtin "isinstance") us) [d, c] μ Q Z := .ofV (cb_isi y kk hk) h
/-! branches -/
theorem br_dec {p : Prop} [Decidable p] {A B : Prop} (h1 : p → A) (h2 : ¬p → B) : if decide p = true then A else B := by
  by_cases h : p
  · rw [if_pos (decide_eq_true h)]; exact h1 h
  · rw [if_neg (by simpa using h)]; exact h2 h
theorem br_T {k : Bool} {A B : Prop} (hk : k = true) (h : A) : if k = true then A else B := by rw [if_pos hk]; exact h
theorem br_F {k : Bool} {A B : Prop} (hk : k = false) (h : B) : if k = true then A else B := by rw [if_neg (by simp [hk])]; exact h
theorem br_bool {k : Bool} {A B : Prop} (h1 : k = true → A) (h2 : k = false → B) : if k = true then A else B := by
  cases k with
  | true => exact h1 rfl
  | false => exact h2 rfl
/-! the store -/
theorem at_left {m : M} (h : μ[n]? = some m) : (μ ++ ν)[n]? = some m := by
  rw [List.getElem?_append_left (List.getElem?_eq_some_iff.mp h).1]; exact h
theorem at_new {m : M} {q : Nat} (h : ν[q]? = some m) : (μ ++ ν)[μ.length + q]? = some m := by
  rw [List.getElem?_append_right (by omega), Nat.add_sub_cancel_left]; exact h
theorem at_last {m : M} : (μ ++ [m])[μ.length]? = some m := by simp
theorem set_last {m m' : M} : (μ ++ [m]).set μ.length m' = μ ++ [m'] := by
  rw [List.set_append_right _ _ (Nat.le_refl _), Nat.sub_self]; rfl
/-! lists of the store -/
variable {e o : Expr} {es : List Expr} {p pos apos : Pos}
theorem wE_append (h : wE X W ρ μ o (fun d0 μ1 => ∃ n : Nat, d0 = .loc n ∧ (∃ ds', μ1[n]? = some (.lst ds')) ∧ wE X W ρ μ1 e (fun d μ2 => ∃ ds, μ2[n]? = some (.lst ds) ∧ ds.length < sizeLine ∧ Q .non (μ2.set n (.lst (ds ++ [d])))) Z) Z)
    (hbase : attributeBase o "append" X.env (eval o X.env) = eval o X.env := by rfl)
    (hfew : ((backTo pos (starEach [e] X.env)).all (fun x => !x.1) && (backToKw pos (keywordEach [] X.env)).all (fun x => x.1.isSome) && decide ([e].length + ([] : List Keyword).length + (if ([] : List Keyword).isEmpty then 0 else 1) < 30)) = true := by rfl)
    (hline : (apos.endLine == pos.line) = true := by rfl) (hs : starEach [e] X.env = (false, eval e X.env) :: starEach [] X.env := by rfl) :
    wE X W ρ μ (.Call (.Attribute o "append" apos) [e] [] pos) Q Z := by
  refine ⟨pe_of (pe_bm PySem.F.plainAttrs_list PySem.F.slot_list_append PySem.F.type_list_append mt_append h.run (pa_cons aE_ok pa_nil hs) hbase hfew hline hs) fun σ H R ⟨L, G, nw, v, x⟩ => ⟨L, G, nw, fun d0 μ1 ⟨n, ed, ⟨ds', hn1⟩, h2⟩ u L1 G1 H1 s1 o1 r1 => ?_, x⟩⟩
  subst ed
  obtain ⟨p, ea, eu⟩ := rep_loc.mp r1
  obtain ⟨vs1, eh1, _⟩ := o1.at_ n p _ ea hn1
  refine ⟨by rw [eu]; exact .inl ⟨rfl, _, SqL.of eh1⟩, _, h2.run, L1, G1, nw.step s1 o1, fun d μ2 ⟨ds, hn, hl, q⟩ w L2 G2 H2 s2 o2 r2 => ?_, x.step s1⟩
  have ea2 := s2.pre _ _ ea
  obtain ⟨vs, eh, rr⟩ := o2.at_ n p _ ea2 hn
  refine ⟨p, vs, w, eu, rfl, eh, by rw [rr.length]; exact hl, ?_⟩
  obtain ⟨o3, s3⟩ := o2.write (o := .lst (vs ++ [w])) (m := .lst (ds ++ [d])) ea2 ⟨_, upd_same, rr.append (Reps.cons r2 Reps.nil)⟩
  exact v _ _ q _ L2 G2 _ ((s1.trans s2).trans s3) o3 (rep_non.mpr rfl)
/-- x[i] = e, x a list of the store -/
theorem wS_ix {nx : KN} {κ : Ks} {ia : Expr} {pos' : Pos} (h : wE X W ρ μ e (fun d μ1 => wE X W ρ μ1 o (fun d0 μ2 => wE X W ρ μ2 ia (fun di μ3 => ∃ (n : Nat) (i : Int) (ds : List D) (k : Nat), d0 = .loc n ∧ di = .int i ∧ μ3[n]? = some (.lst ds) ∧ ixN ds.length i = some k ∧ nx ρ (μ3.set n (.lst (ds.set k d)))) (κ.z ρ)) (κ.z ρ)) (κ.z ρ))
    (hs : swapsWithSole [.Subscript o ia pos'] e pos.line X.env = pure false := by rfl) (hw : swappedStores [.Subscript o ia pos'] e X.env = pure none := by rfl)
    (h3 : (assignEach [.Subscript o ia pos'] X.env).map (·.2) = [assign (.Subscript o ia pos') X.env] := by rfl)
    (hp : ∀ v, assign (.Subscript o ia pos') X.env v = (do
      let ov ← holding [v] (eval o X.env)
      let iv ← holding [v, ov] (eval ia X.env)
      standAt pos'
      holding [v, ov, iv] (setItem ov iv v)
      release [v, ov, iv] []) := by intro _; rfl) : wS X W ρ μ (.Assign [.Subscript o ia pos'] e pos) nx κ := by
  refine ⟨ps_of (ps_asg h.run (pg_sub aE_ok aE_ok set_list hp) hs hw h3) fun D σ H ⟨L, G, nw, a⟩ => ⟨L, G, nw, fun d μ1 h2 v L1 G1 H1 s1 o1 r1 => ⟨_, h2.run, L1, G1, nw.step s1 o1, fun d0 μ2 h3 u L2 G2 H2 s2 o2 r2 => ⟨_, h3.run, L2, G2, (nw.step s1 o1).step s2 o2, fun di μ3 h4 w L3 G3 H3 s3 o3 r3 => ?_, ((a.x nw).step s1).step s2⟩, (a.x nw).step s1⟩, a.x nw⟩⟩
  obtain ⟨n, i, ds, k, e1, e2, hn, hk, q⟩ := h4
  subst e1 e2
  obtain ⟨p, ea, ew⟩ := rep_loc.mp (r2.step s3)
  obtain ⟨vs, eh, rr⟩ := o3.at_ n p _ ea hn
  refine ⟨p, vs, i, k, ew, rep_int.mp r3, eh, by rw [rr.length]; exact hk, ?_⟩
  obtain ⟨o4, s4⟩ := o3.write (o := .lst (vs.set k v)) (m := .lst (ds.set k d)) ea ⟨_, upd_same, rr.set ((r1.step s2).step s3) k⟩
  exact a.nx _ _ q σ L3 G3 _ (((s1.trans s2).trans s3).trans s4) ⟨o4, (((nw.env.step s1).step s2).step s3).step s4⟩
/-! what is walked -/
variable {tg : Expr} {QA : KA}
theorem wI_lst (h : wE X W ρ μ e (fun d μ1 => ∃ ds, d = .lst ds ∧ QA ds μ1) Z) : wI X W ρ μ tg e QA Z :=
  ⟨pi_of (pi_list h.run) fun σ H R ⟨L, G, n, v, x⟩ => ⟨L, G, n, fun d μ1 ⟨ds, ed, q⟩ u L1 G1 H1 s1 o1 r1 => by
    subst ed
    obtain ⟨a, vs, ev, hq, rr⟩ := rep_lst.mp r1
    exact ⟨a, ev, ⟨vs, SqL.of (o1.sub _ _ hq)⟩, v ds μ1 q _ L1 G1 H1 s1 o1 (jok_lst (SqL.of hq) rr)⟩, x⟩⟩
theorem wI_tup (h : wE X W ρ μ e (fun d μ1 => ∃ ds, d = .tup ds ∧ QA ds μ1) Z) : wI X W ρ μ tg e QA Z :=
  ⟨pi_of (pi_tup h.run) fun σ H R ⟨L, G, n, v, x⟩ => ⟨L, G, n, fun d μ1 ⟨ds, ed, q⟩ u L1 G1 H1 s1 o1 r1 => by
    subst ed
    obtain ⟨a, vs, ev, hq, rr⟩ := rep_tup.mp r1
    exact ⟨a, ev, ⟨vs, Same.sqT o1.sub hq⟩, v ds μ1 q _ L1 G1 H1 s1 o1 (jok_tup hq rr)⟩, x⟩⟩
theorem wI_range1 (hm : X.mg "range" = none) (h : wE X W ρ μ e (fun d μ1 => ∃ j : Int, d = .int j ∧ (-(2 ^ 62) ≤ j ∧ j < 2 ^ 62) ∧ QA (rangeD 0 j.toNat) μ1) Z) (hg : Gl X "range" := by rfl) (hs : starEach [e] X.env = [(false, eval e X.env)] := by rfl) : wI X W ρ μ tg (.Call (.Name "range" p) [e] [] pos) QA Z :=
  ⟨pi_of (pi_range1 hg hm (pa_cons h.run pa_nil hs) hs) fun σ H R ⟨L, G, n, v, x⟩ => ⟨L, G, n, fun d μ1 ⟨j, ed, ⟨h1, h2⟩, q⟩ u L1 G1 H1 s1 o1 r1 => by
    subst ed
    exact ⟨j, by rw [rep_int.mp r1], h1, h2, v _ μ1 q _ L1 G1 H1 s1 o1 jok_rng⟩, x⟩⟩
end
section
variable {X : Cx} {W : WX} {μ : List M} {Q : KV} {Z : KX} {da x y : D} {b : Bool} {i j : Int}
/-- [x, y][int(b)] -/
theorem wX_if2 (hd : Ixd μ da [x, y]) (h : if b = true then Q y μ else Q x μ) : wX X W da (.int (if b = true then 1 else 0)) μ Q Z := by
  cases b with
  | true => exact wX_at hd rfl h
  | false => exact wX_at hd rfl h
theorem wX_if2I (hd : Ixd μ da [.int i, .int j]) (h : Q (.int (if b = true then j else i)) μ) : wX X W da (.int (if b = true then 1 else 0)) μ Q Z := by
  cases b with
  | true => exact wX_at hd rfl h
  | false => exact wX_at hd rfl h
end
/-! boxes -/
abbrev bxI (i j k : Int) : M := .lst [.int i, .int j, .int k]
theorem Ok.unbox {K : PySem.W.Frag} {L : List Addr} {G H : Hp} {μ : List M} {n : Nat} (o : Ok K L G H μ) (h : μ[n]? = some .box) : ∃ i j k, Ok K L G H (μ.set n (bxI i j k)) := by
  have hn : n < L.length := by rw [o.len]; exact (List.getElem?_eq_some_iff.mp h).1
  obtain ⟨i, j, k, e⟩ := o.at_ n L[n] _ (List.getElem?_eq_getElem hn) h
  refine ⟨i, j, k, o.sub, by simpa using o.len, o.nd, o.off, o.liv, fun q a m e1 e2 => ?_⟩
  by_cases hq : n = q
  · subst hq
    rw [List.getElem?_set_self (by rw [← o.len]; exact hn)] at e2
    rw [List.getElem?_eq_getElem hn] at e1
    cases e1
    cases e2
    exact ⟨_, e, Reps.cons (rep_int.mpr rfl) (Reps.cons (rep_int.mpr rfl) (Reps.cons (rep_int.mpr rfl) Reps.nil))⟩
  · rw [List.getElem?_set_ne hq] at e2
    exact o.at_ q a m e1 e2
theorem le_box {μ : List M} {n : Nat} {i j k : Int} (h : μ[n]? = some .box) : Le (μ.set n (bxI i j k)) μ := fun K L G H o => by
  have hn : n < μ.length := (List.getElem?_eq_some_iff.mp h).1
  have hl : n < L.length := by have := o.len; simp at this; omega
  refine ⟨o.sub, by simpa using o.len, o.nd, o.off, o.liv, fun q a m e1 e2 => ?_⟩
  by_cases hq : n = q
  · subst hq
    rw [h] at e2
    cases e2
    obtain ⟨vs, eh, r⟩ := o.at_ n a _ e1 (List.getElem?_set_self hn)
    obtain ⟨v1, r1, rfl, q1, t1⟩ := r.inv_cons
    obtain ⟨v2, v3, rfl, q2, q3⟩ := t1.two
    exact ⟨i, j, k, by rw [eh, rep_int.mp q1, rep_int.mp q2, rep_int.mp q3]⟩
  · exact o.at_ q a m e1 (by rw [List.getElem?_set_ne hq]; exact e2)
theorem le_newbox {μ : List M} {i j k : Int} : Le (μ ++ [bxI i j k]) (μ ++ [.box]) := fun K L G H o => by
  have := le_box (μ := μ ++ [.box]) (n := μ.length) (i := i) (j := j) (k := k) at_last
  rw [set_last] at this
  exact this K L G H o
end PM

set_option Elab.async false
set_option linter.all false
set_option maxRecDepth 100000
namespace PM
open PySem L2
/-! ### names: what a def's scope says is looked up once -/
inductive Kd where
  | no | loc | cell | free
def visB (sc : Scope) (x : Str) : Kd → Bool
  | .no => true
  | .loc => (sc.names.lookup x == some .local) && !(x == ("__debug__" : Str)) && !(x == ("__classdict__" : Str))
  | .cell => (sc.names.lookup x == some .cell) && !(x == ("__debug__" : Str)) && !(x == ("__classdict__" : Str))
  | .free => (sc.names.lookup x == some .free) && !(x == ("__debug__" : Str)) && !(x == ("__classdict__" : Str))
def nmB (sc : Scope) : List Str → List Kd → Bool
  | x :: N, v :: V => visB sc x v && nmB sc N V
  | _, _ => true
def ckB (N : List Str) (V : List Kd) (Gs : List Str) (sc : Scope) : Bool :=
  nmB sc N V && Gs.all fun x => (sc.names.lookup x == some .globalImplicit) && !(x == ("__debug__" : Str)) && !(x == ("__name__" : Str))
structure Nx' (X : Cx) (N : List Str) (V : List Kd) (Gs : List Str) : Prop where
  N_ : X.N = N
  ndN : N.Nodup
  ck : ckB N V Gs X.env.scope = true
structure Fx (X : Cx) (W : WX) (k : Nat) (N : List Str) (V : List Kd) (Gs : List Str) : Prop extends Gd X W k, Nx' X N V Gs
/-- the value of a name -/
inductive Gt : List Str → List Kd → Str → Env' → D → Prop
  | z {x : Str} {N : List Str} {V : List Kd} {d : D} {ρ : Env'} : Gt (x :: N) (.loc :: V) x (some d :: ρ) d
  | c {x : Str} {N : List Str} {V : List Kd} {d : D} {ρ : Env'} : Gt (x :: N) (.cell :: V) x (some d :: ρ) d
  | f {x : Str} {N : List Str} {V : List Kd} {d : D} {ρ : Env'} : Gt (x :: N) (.free :: V) x (some d :: ρ) d
  | s {x y : Str} {N : List Str} {v : Kd} {V : List Kd} {o : Option D} {ρ : Env'} {d : D} : Gt N V x ρ d → Gt (y :: N) (v :: V) x (o :: ρ) d
/-- a name's value is stored -/
inductive Pt : List Str → List Kd → Str → D → Env' → Env' → Nat → Prop
  | z {x : Str} {N : List Str} {V : List Kd} {d : D} {o : Option D} {ρ : Env'} : Pt (x :: N) (.loc :: V) x d (o :: ρ) (some d :: ρ) 0
  | c {x : Str} {N : List Str} {V : List Kd} {d : D} {o : Option D} {ρ : Env'} : Pt (x :: N) (.cell :: V) x d (o :: ρ) (some d :: ρ) 0
  | s {x y : Str} {N : List Str} {v : Kd} {V : List Kd} {d : D} {o : Option D} {ρ ρ' : Env'} {i : Nat} : Pt N V x d ρ ρ' i → Pt (y :: N) (v :: V) x d (o :: ρ) (o :: ρ') (i + 1)
/-- a name among others -/
inductive In : Str → List Str → Prop
  | z {x : Str} {Gs : List Str} : In x (x :: Gs)
  | s {x y : Str} {Gs : List Str} : In x Gs → In x (y :: Gs)
theorem In.mem {x : Str} {Gs : List Str} (h : In x Gs) : x ∈ Gs := by
  induction h with
  | z => exact List.mem_cons_self
  | s _ ih => exact List.mem_cons_of_mem _ ih
theorem Gt.ex {sc : Scope} {N : List Str} {V : List Kd} {x : Str} {ρ : Env'} {d : D} (h : Gt N V x ρ d) (nm : nmB sc N V = true) : ∃ i : Nat, N[i]? = some x ∧ ρ[i]? = some (some d) ∧ Vis sc x ∧ (x == ("__debug__" : Str)) = false ∧ (x == ("__classdict__" : Str)) = false := by
  induction h with
  | z =>
    simp only [nmB, visB, Bool.and_eq_true, Bool.not_eq_true', beq_iff_eq] at nm
    exact ⟨0, rfl, rfl, .inl nm.1.1.1, by simpa using nm.1.1.2, by simpa using nm.1.2⟩
  | c =>
    simp only [nmB, visB, Bool.and_eq_true, Bool.not_eq_true', beq_iff_eq] at nm
    exact ⟨0, rfl, rfl, .inr (.inl nm.1.1.1), by simpa using nm.1.1.2, by simpa using nm.1.2⟩
  | f =>
    simp only [nmB, visB, Bool.and_eq_true, Bool.not_eq_true', beq_iff_eq] at nm
    exact ⟨0, rfl, rfl, .inr (.inr nm.1.1.1), by simpa using nm.1.1.2, by simpa using nm.1.2⟩
  | s _ ih =>
    simp only [nmB, Bool.and_eq_true] at nm
    obtain ⟨i, h1, h2, h3⟩ := ih nm.2
    exact ⟨i + 1, by simpa using h1, by simpa using h2, h3⟩
theorem Pt.ex {sc : Scope} {N : List Str} {V : List Kd} {x : Str} {ρ ρ' : Env'} {d : D} {i : Nat} (h : Pt N V x d ρ ρ' i) (nm : nmB sc N V = true) : N[i]? = some x ∧ ρ' = ρ.set i (some d) ∧ Loc sc x := by
  induction h with
  | z =>
    simp only [nmB, visB, Bool.and_eq_true, Bool.not_eq_true', beq_iff_eq] at nm
    exact ⟨rfl, rfl, .inl nm.1.1.1⟩
  | c =>
    simp only [nmB, visB, Bool.and_eq_true, Bool.not_eq_true', beq_iff_eq] at nm
    exact ⟨rfl, rfl, .inr nm.1.1.1⟩
  | s _ ih =>
    simp only [nmB, Bool.and_eq_true] at nm
    obtain ⟨h1, h2, h3⟩ := ih nm.2
    exact ⟨by simpa using h1, by simp [h2], h3⟩
section
variable {X : Cx} {W : WX} {k : Nat} {N : List Str} {V : List Kd} {Gs : List Str} {ρ ρ' : Env'} {μ μ1 μ2 : List M} {e a b c ob : Expr} {es : List Expr} {Q Q' : KV} {Z : KX} {d da db : D} {ds ds' : List D} {p pos apos : Pos} {x y z m : Str} {nx : KN} {κ : Ks} {i j l : Nat}
theorem Nx'.nm (g : Nx' X N V Gs) : nmB X.env.scope N V = true := by
  have := g.ck
  simp only [ckB, Bool.and_eq_true] at this
  exact this.1
theorem Nx'.gl (g : Nx' X N V Gs) (h : In x Gs) : Gl X x ∧ (x == ("__debug__" : Str)) = false ∧ x ≠ ("__name__" : Str) := by
  have := g.ck
  simp only [ckB, Bool.and_eq_true, List.all_eq_true] at this
  have q := this.2 x h.mem
  simp only [Bool.not_eq_true', beq_iff_eq] at q
  exact ⟨q.1.1, by simpa using q.1.2, fun z => by rw [z] at q; simp at q⟩
/-- the value of a name, by what is wanted of it -/
structure wGt (N : List Str) (V : List Kd) (x : Str) (ρ : Env') (K : D → Prop) : Prop where
  ex : ∃ d, Gt N V x ρ d ∧ K d
theorem wGt_z {K : D → Prop} (h : K d) : wGt (x :: N) (.loc :: V) x (some d :: ρ) K := ⟨⟨d, .z, h⟩⟩
theorem wGt_c {K : D → Prop} (h : K d) : wGt (x :: N) (.cell :: V) x (some d :: ρ) K := ⟨⟨d, .c, h⟩⟩
theorem wGt_f {K : D → Prop} (h : K d) : wGt (x :: N) (.free :: V) x (some d :: ρ) K := ⟨⟨d, .f, h⟩⟩
theorem wGt_s {v : Kd} {o : Option D} {K : D → Prop} (h : wGt N V x ρ K) : wGt (y :: N) (v :: V) x (o :: ρ) K := let ⟨⟨d, h1, h2⟩⟩ := h; ⟨⟨d, .s h1, h2⟩⟩
theorem wGt_chk {K : D → Prop} (h : wGt N V x ρ K) : wGt N V x ρ K := h
structure wPt (N : List Str) (V : List Kd) (x : Str) (d : D) (ρ : Env') (K : Env' → Prop) : Prop where
  ex : ∃ ρ' i, Pt N V x d ρ ρ' i ∧ K ρ'
theorem wPt_z {o : Option D} {K : Env' → Prop} (h : K (some d :: ρ)) : wPt (x :: N) (.loc :: V) x d (o :: ρ) K := ⟨⟨_, 0, .z, h⟩⟩
theorem wPt_c {o : Option D} {K : Env' → Prop} (h : K (some d :: ρ)) : wPt (x :: N) (.cell :: V) x d (o :: ρ) K := ⟨⟨_, 0, .c, h⟩⟩
theorem wPt_s {v : Kd} {o : Option D} {K : Env' → Prop} (h : wPt N V x d ρ (fun ρ' => K (o :: ρ'))) : wPt (y :: N) (v :: V) x d (o :: ρ) K := let ⟨⟨ρ', i, h1, h2⟩⟩ := h; ⟨⟨_, i + 1, .s h1, h2⟩⟩
/-- the place of a name that is stored -/
inductive Ix : List Str → List Kd → Str → Nat → Prop
  | z {x : Str} {N : List Str} {V : List Kd} : Ix (x :: N) (.loc :: V) x 0
  | c {x : Str} {N : List Str} {V : List Kd} : Ix (x :: N) (.cell :: V) x 0
  | s {x y : Str} {N : List Str} {v : Kd} {V : List Kd} {i : Nat} : Ix N V x i → Ix (y :: N) (v :: V) x (i + 1)
inductive Il : List Str → List Kd → Str → Nat → Prop
  | z {x : Str} {N : List Str} {V : List Kd} : Il (x :: N) (.loc :: V) x 0
  | s {x y : Str} {N : List Str} {v : Kd} {V : List Kd} {i : Nat} : Il N V x i → Il (y :: N) (v :: V) x (i + 1)
theorem Ix.ex {sc : Scope} (h : Ix N V x i) (nm : nmB sc N V = true) : N[i]? = some x ∧ Loc sc x := by
  induction h with
  | z =>
    simp only [nmB, visB, Bool.and_eq_true, Bool.not_eq_true', beq_iff_eq] at nm
    exact ⟨rfl, .inl nm.1.1.1⟩
  | c =>
    simp only [nmB, visB, Bool.and_eq_true, Bool.not_eq_true', beq_iff_eq] at nm
    exact ⟨rfl, .inr nm.1.1.1⟩
  | s _ ih =>
    simp only [nmB, Bool.and_eq_true] at nm
    obtain ⟨h1, h3⟩ := ih nm.2
    exact ⟨by simpa using h1, h3⟩
theorem Il.ex {sc : Scope} (h : Il N V x i) (nm : nmB sc N V = true) : N[i]? = some x ∧ sc.names.lookup x = some .local := by
  induction h with
  | z =>
    simp only [nmB, visB, Bool.and_eq_true, Bool.not_eq_true', beq_iff_eq] at nm
    exact ⟨rfl, nm.1.1.1⟩
  | s _ ih =>
    simp only [nmB, Bool.and_eq_true] at nm
    obtain ⟨h1, h3⟩ := ih nm.2
    exact ⟨by simpa using h1, h3⟩
theorem wPt.set {sc : Scope} {K : Env' → Prop} (h : wPt N V x d ρ K) (nm : nmB sc N V = true) (nd : N.Nodup) (e : N[i]? = some x) : K (ρ.set i (some d)) := by
  obtain ⟨ρ', j, p, q⟩ := h.ex
  obtain ⟨e1, rfl, _⟩ := p.ex nm
  rwa [(List.getElem?_inj (List.getElem?_eq_some_iff.mp e).1 nd).mp (e.trans e1.symm)]
theorem wE_name (g : Nx' X N V Gs) (h : wGt N V x ρ (fun d => Q d μ)) : wE X W ρ μ (.Name x pos) Q Z := by
  obtain ⟨d, hd, h⟩ := h.ex
  obtain ⟨i, e1, e2, e3, e4, e5⟩ := hd.ex g.nm
  exact .ofV (ev_var i e2 (by rw [g.N_]; exact e1) e3 e4 e5) h
theorem wG_name (g : Nx' X N V Gs) (h : wPt N V x d ρ (fun ρ' => nx ρ' μ)) (hf : ∀ x, X.fn x = true := by intro _; rfl) : wG X W ρ μ (.Name x pos) d nx := by
  obtain ⟨ρ', i, hp, h⟩ := h.ex
  obtain ⟨e1, rfl, e3⟩ := hp.ex g.nm
  exact ⟨pg_of (eg_name (ρ := ρ) (μ := μ) (d := d) i (by rw [g.N_]; exact g.ndN) (by rw [g.N_]; exact e1) e3 (.inl (hf x))) fun v σ H R ⟨L, G, n, r, a⟩ => ⟨L, G, n, r, a _ _ h⟩⟩
theorem wS_set {pos' : Pos} (g : Nx' X N V Gs) (hi : ∃ i, Ix N V x i) (h : wE X W ρ μ e (fun d μ1 => wPt N V x d ρ (fun ρ' => nx ρ' μ1)) (κ.z ρ)) (hs : swapsWith e (some (.Name x pos')) pos.line X.env = pure false := by rfl) (hf : ∀ x, X.fn x = true := by intro _; rfl) : wS X W ρ μ (.Assign [.Name x pos'] e pos) nx κ := by
  obtain ⟨i, hi⟩ := hi
  obtain ⟨e1, e3⟩ := hi.ex g.nm
  have nd := g.ndN
  exact ⟨ps_of (ps_set (by rw [g.N_]; exact g.ndN) (by rw [g.N_]; exact e1) e3 h.run hs (.inl (hf x))) fun D σ H ⟨L, G, n, a⟩ => ⟨L, G, n, fun d μ1 q v L1 G1 H1 s1 o1 r1 => a.nx _ _ (q.set g.nm nd e1) _ L1 G1 H1 s1 ⟨o1, (n.env.step s1).set r1 i⟩, a.x n⟩⟩
/-- the stores of a, b = x, y -/
theorem swapped2 {env : Env} {px py pt pt2 : Pos} {kt k2 : Nat} (hk : env.blockKind = .function) (hx : env.scope.names.lookup x = some .local) (hy : env.scope.names.lookup y = some .local) (hxy : x ≠ y) (hl : (py.line == px.line) = true)
    (h1 : ([a, b].any fun | .Starred .. => true | _ => false) = false) (h2 : [a, b].all (foldedForSure 8) = false) (h3 : [a, b].all (constantsAlone 8) = false) : swappedStores [.Tuple [.Name x px, .Name y py] kt pt] (.Tuple [a, b] k2 pt2) env = pure (some [x, y]) := by
  unfold swappedStores
  have k1 : (env.kindOf x == some .local) = true := by unfold Env.kindOf; rw [hx]; rfl
  have k2 : (env.kindOf y == some .local) = true := by unfold Env.kindOf; rw [hy]; rfl
  have ed : [x, y].eraseDups.length = 2 := by
    have : (y == x) = false := by simpa using fun z => hxy z.symm
    simp [List.eraseDups_cons, this]
  have hb : (env.blockKind != ScopeKind.function) = false := by rw [hk]; rfl
  simp only [List.length_cons, List.length_nil, hb, h1, List.head?_cons, Option.map_some, Option.getD_some, List.filterMap_cons, List.filterMap_nil, Expr.pos, k1, k2, hl, Bool.true_and, beq_self_eq_true, if_true, ed, h2, h3]
  rw [if_neg (by decide), if_neg (fun h => Bool.noConfusion (h.symm.trans h1))]
  rfl
theorem wS_par {px py pt : Pos} {kt k2 pt2} (g : Fx X W k N V Gs) (hp : ∃ i j, Il N V x i ∧ Il N V y j ∧ i ≠ j) (ha : wA X W ρ μ [a, b] (fun ds μ1 => ∃ da db, ds = [da, db] ∧ wPt N V x da ρ (fun ρ1 => wPt N V y db ρ1 (fun ρ2 => nx ρ2 μ1))) (κ.z ρ)) 
    (hk : X.env.blockKind = .function := by rfl) (hl : (py.line == px.line) = true := by rfl) (h1 : ([a, b].any fun | .Starred .. => true | _ => false) = false := by rfl) (h2 : [a, b].all (foldedForSure 8) = false := by rfl) (h3 : [a, b].all (constantsAlone 8) = false := by rfl) :
    wS X W ρ μ (.Assign [.Tuple [.Name x px, .Name y py] kt pt] (.Tuple [a, b] k2 pt2) pos) nx κ := by
  obtain ⟨i, j, p1, p2, hij⟩ := hp
  obtain ⟨e1, l1⟩ := p1.ex g.nm
  obtain ⟨e2, l2⟩ := p2.ex g.nm
  have nd := g.nd
  rw [g.N_] at nd
  have hxy : x ≠ y := fun t => hij ((List.getElem?_inj (List.getElem?_eq_some_iff.mp e1).1 nd).mp (e1.trans (by rw [t]; exact e2.symm)))
  exact ⟨ps_of (ps_par g.calm g.nd (by rw [g.N_]; exact e1) (by rw [g.N_]; exact e2) hij l1 l2 ha.run (swapped2 hk l1 l2 hxy hl h1 h2 h3) rfl) fun D σ H ⟨L, G, n, ac⟩ => ⟨L, G, n, fun ds μ1 ⟨da, db, e0, q⟩ vs L1 G1 H1 s1 o1 r1 => by
    subst e0
    obtain ⟨v, w, e, q1, q2⟩ := r1.two
    subst e
    exact ⟨v, w, rfl, ac.nx _ _ ((q.set g.nm nd e1).set g.nm nd e2) _ L1 G1 H1 s1 ⟨o1, ((n.env.step s1).set q1 i).set q2 j⟩⟩, ac.x n⟩⟩
theorem swapped3 {env : Env} {px py pz pt pt2 : Pos} {kt k2 : Nat} (hk : env.blockKind = .function) (hx : env.scope.names.lookup x = some .local) (hy : env.scope.names.lookup y = some .local) (hz : env.scope.names.lookup z = some .local) (hxy : x ≠ y) (hxz : x ≠ z) (hyz : y ≠ z) (hl : (py.line == px.line) = true) (hl2 : (pz.line == px.line) = true)
    (h1 : ([a, b, c].any fun | .Starred .. => true | _ => false) = false) (h2 : [a, b, c].all (foldedForSure 8) = false) (h3 : [a, b, c].all (constantsAlone 8) = false) : swappedStores [.Tuple [.Name x px, .Name y py, .Name z pz] kt pt] (.Tuple [a, b, c] k2 pt2) env = pure (some [x, y, z]) := by
  unfold swappedStores
  have k1 : (env.kindOf x == some .local) = true := by unfold Env.kindOf; rw [hx]; rfl
  have k2 : (env.kindOf y == some .local) = true := by unfold Env.kindOf; rw [hy]; rfl
  have k3 : (env.kindOf z == some .local) = true := by unfold Env.kindOf; rw [hz]; rfl
  have ed : [x, y, z].eraseDups.length = 3 := by
    have e1 : (y == x) = false := by simpa using fun z => hxy z.symm
    have e2 : (z == x) = false := by simpa using fun t => hxz t.symm
    have e3 : (z == y) = false := by simpa using fun t => hyz t.symm
    simp [List.eraseDups_cons, e1, e2, e3]
  have hb : (env.blockKind != ScopeKind.function) = false := by rw [hk]; rfl
  simp only [List.length_cons, List.length_nil, hb, h1, List.head?_cons, Option.map_some, Option.getD_some, List.filterMap_cons, List.filterMap_nil, Expr.pos, k1, k2, k3, hl, hl2, Bool.true_and, beq_self_eq_true, if_true, ed, h2, h3]
  rw [if_neg (by decide), if_neg (fun h => Bool.noConfusion (h.symm.trans h1))]
  rfl
theorem wS_par3 {px py pz pt : Pos} {kt k2 pt2} (g : Fx X W k N V Gs) (hp : ∃ i j l, Il N V x i ∧ Il N V y j ∧ Il N V z l ∧ i ≠ j ∧ i ≠ l ∧ j ≠ l) (ha : wA X W ρ μ [a, b, c] (fun ds μ1 => ∃ da db dc, ds = [da, db, dc] ∧ wPt N V x da ρ (fun ρ1 => wPt N V y db ρ1 (fun ρ2 => wPt N V z dc ρ2 (fun ρ3 => nx ρ3 μ1)))) (κ.z ρ))
    (hk : X.env.blockKind = .function := by rfl) (hl : (py.line == px.line) = true := by rfl) (hl2 : (pz.line == px.line) = true := by rfl) (h1 : ([a, b, c].any fun | .Starred .. => true | _ => false) = false := by rfl) (h2 : [a, b, c].all (foldedForSure 8) = false := by rfl) (h3 : [a, b, c].all (constantsAlone 8) = false := by rfl) :
    wS X W ρ μ (.Assign [.Tuple [.Name x px, .Name y py, .Name z pz] kt pt] (.Tuple [a, b, c] k2 pt2) pos) nx κ := by
  obtain ⟨i, j, l, p1, p2, p3, hij, hil, hjl⟩ := hp
  obtain ⟨e1, l1⟩ := p1.ex g.nm
  obtain ⟨e2, l2⟩ := p2.ex g.nm
  obtain ⟨e3, l3⟩ := p3.ex g.nm
  have nd := g.nd
  rw [g.N_] at nd
  have ne : ∀ {s t : Str} {i j : Nat}, N[i]? = some s → N[j]? = some t → i ≠ j → s ≠ t := fun e1 e2 hij t => hij ((List.getElem?_inj (List.getElem?_eq_some_iff.mp e1).1 nd).mp (e1.trans (by rw [t]; exact e2.symm)))
  exact ⟨ps_of (ps_par3 g.calm g.nd (by rw [g.N_]; exact e1) (by rw [g.N_]; exact e2) (by rw [g.N_]; exact e3) hij hil hjl l1 l2 l3 ha.run (swapped3 hk l1 l2 l3 (ne e1 e2 hij) (ne e1 e3 hil) (ne e2 e3 hjl) hl hl2 h1 h2 h3) rfl) fun D σ H ⟨L, G, n, ac⟩ => ⟨L, G, n, fun ds μ1 ⟨da, db, dc, e0, q⟩ vs L1 G1 H1 s1 o1 r1 => by
    subst e0
    obtain ⟨v, r, rfl, q1, r1⟩ := r1.inv_cons
    obtain ⟨u, w, e, q2, q3⟩ := r1.two
    subst e
    exact ⟨v, u, w, rfl, ac.nx _ _ (((q.set g.nm nd e1).set g.nm nd e2).set g.nm nd e3) _ L1 G1 H1 s1 ⟨o1, (((n.env.step s1).set q1 i).set q2 j).set q3 l⟩⟩, ac.x n⟩⟩
/-! is it this name? -/
theorem chkC (x : Str) {kws : List Keyword} (h : wE X W ρ μ (.Call (.Name x p) es kws pos) Q Z) : wE X W ρ μ (.Call (.Name x p) es kws pos) Q Z := h
theorem chkN (x : Str) (h : wE X W ρ μ (.Name x pos) Q Z) : wE X W ρ μ (.Name x pos) Q Z := h
theorem chkA (m : Str) (h : wE X W ρ μ (.Attribute e m pos) Q Z) : wE X W ρ μ (.Attribute e m pos) Q Z := h
theorem chkM (m : Str) {kws : List Keyword} (h : wE X W ρ μ (.Call (.Attribute e m apos) es kws pos) Q Z) : wE X W ρ μ (.Call (.Attribute e m apos) es kws pos) Q Z := h
theorem chkB (id : String) (h : wF X W (fun us => call (.builtin id) us) ds μ Q Z) : wF X W (fun us => call (.builtin id) us) ds μ Q Z := h
/-! what kind of goal? -/
theorem hdE (h : wE X W ρ μ e Q Z) : wE X W ρ μ e Q Z := h
theorem hdc {kws : List Keyword} (h : wE X W ρ μ (.Call (.Name x p) es kws pos) Q Z) : wE X W ρ μ (.Call (.Name x p) es kws pos) Q Z := h
theorem hdn (h : wE X W ρ μ (.Name x pos) Q Z) : wE X W ρ μ (.Name x pos) Q Z := h
theorem hda (h : wE X W ρ μ (.Attribute e m pos) Q Z) : wE X W ρ μ (.Attribute e m pos) Q Z := h
theorem hdm {kws : List Keyword} (h : wE X W ρ μ (.Call (.Attribute e m apos) es kws pos) Q Z) : wE X W ρ μ (.Call (.Attribute e m apos) es kws pos) Q Z := h
theorem hdA {QA : KA} (h : wA X W ρ μ es QA Z) : wA X W ρ μ es QA Z := h
theorem hdB {f : Value → Value → Sem Value} (h : wB X W f da db μ Q Z) : wB X W f da db μ Q Z := h
theorem hdU {f : Value → Sem Value} (h : wU X W f da μ Q Z) : wU X W f da μ Q Z := h
theorem hdF {f : List Value → Sem Value} (h : wF X W f ds μ Q Z) : wF X W f ds μ Q Z := h
theorem hdX (h : wX X W da db μ Q Z) : wX X W da db μ Q Z := h
theorem hdC {QT : KT} (h : wC X W ρ μ e QT Z) : wC X W ρ μ e QT Z := h
theorem hdW {QT : KT} (h : wCw X W ρ μ e QT Z) : wCw X W ρ μ e QT Z := h
theorem hdS {st : Stmt} (h : wS X W ρ μ st nx κ) : wS X W ρ μ st nx κ := h
theorem hdL {st : List Stmt} (h : wSs X W ρ μ st nx κ) : wSs X W ρ μ st nx κ := h
theorem hdG (h : wG X W ρ μ e d nx) : wG X W ρ μ e d nx := h
theorem hdH (h : wGs X W ρ μ es ds nx) : wGs X W ρ μ es ds nx := h
theorem hdP {Kn : Env' → Prop} (h : wPt N V x d ρ Kn) : wPt N V x d ρ Kn := h
/-! calls by names of the module -/
theorem xE_call (f : Fnx) (g : Fx X W k N V Gs) (hi : In x Gs) (hm : X.mg x = some (.ref f.a)) (hk : PySem.W.keepIn X.K (.ref f.a) = true) (bd : Binds X.K f.fd f.ps []) (h : wA X W ρ μ (e :: es) (fun ds μ1 => SpX X f ds μ1 Q Z) Z) (hj : f.lv ≤ k := by exact Nat.le_of_ble_eq_true rfl)
    (he : starEach (e :: es) X.env = (false, eval e X.env) :: starEach es X.env := by rfl) (hpl : (backTo pos (starEach es X.env)).any (·.1) = false := by rfl) : wE X W ρ μ (.Call (.Name x p) (e :: es) [] pos) Q Z := wE_call f g.toGd hm hk bd h hj (g.gl hi).1 (g.gl hi).2.1 he hpl
theorem xE_cls {C : Addr} (g : Nx' X N V Gs) (hi : In x Gs) (hm : X.mg x = some (.ref C)) (h : Q (.ref C) μ) : wE X W ρ μ (.Name x pos) Q Z := wE_glob (v := .ref C) hm rfl (fun _ _ => rep_ref.mpr rfl) h (g.gl hi).1 (g.gl hi).2.1
theorem xE_bty {T : String} (g : Nx' X N V Gs) (hi : In x Gs) (hm : X.mg x = none) (hv : bootBuiltins x = some (.type T)) (h : Q (.ty T) μ) : wE X W ρ μ (.Name x pos) Q Z := wE_bty hm hv h (g.gl hi).1 (g.gl hi).2.2 (g.gl hi).2.1
theorem xE_blt {id : String} (g : Nx' X N V Gs) (hi : In x Gs) (hm : X.mg x = none) (hv : bootBuiltins x = some (.builtin id)) (h : wA X W ρ μ (e :: es) (fun ds μ1 => wF X W (fun us => call (.builtin id) us) ds μ1 Q Z) Z)
    (he : starEach (e :: es) X.env = (false, eval e X.env) :: starEach es X.env := by rfl) (hpl : (backTo pos (starEach es X.env)).any (·.1) = false := by rfl) : wE X W ρ μ (.Call (.Name x p) (e :: es) [] pos) Q Z := wE_blt hm hv h (g.gl hi).1 (g.gl hi).2.2 (g.gl hi).2.1 he hpl
theorem xE_bcl {T : String} (g : Nx' X N V Gs) (hi : In x Gs) (hm : X.mg x = none) (hv : bootBuiltins x = some (.type T)) (h : wA X W ρ μ (e :: es) (fun ds μ1 => wF X W (fun us => call (.type T) us) ds μ1 Q Z) Z)
    (he : starEach (e :: es) X.env = (false, eval e X.env) :: starEach es X.env := by rfl) (hpl : (backTo pos (starEach es X.env)).any (·.1) = false := by rfl) : wE X W ρ μ (.Call (.Name x p) (e :: es) [] pos) Q Z := wE_bcl hm hv h (g.gl hi).1 (g.gl hi).2.2 (g.gl hi).2.1 he hpl
end
section
variable {P : Program} {w : World} {K : PySem.W.Frag} {mg : Str → Option Value} {base : Heap}
/-- THE RULE for a def, its names looked up -/
theorem spX_of {x qual : Str} {st : Stmt} {dvs : List L2.V} {f : Addr} {fd : FuncData} {N ps : List Str} {V : List Kd} {Gs : List Str} {k : Nat} {ds : List D} {μ : List M} {Q : KV} {Z : KX} (F : FunS K x qual st dvs f fd) (S : FnScope N ps (defScope st)) (ck : ckB N V Gs (defScope st) = true) (hl : ds.length = ps.length)
    (body : ∀ ρ, ρ = startD N ds → ∀ (cdv : Value) (A : Around) (outer : List Env) (s : Shared) (H : Hp) (E : XK), Fx (cxOf (L2.CX P w) P w K mg base N qual (defScope st) f cdv A outer s H E) (fun c d _ H => E c d H) k N V Gs →
      wSs (cxOf (L2.CX P w) P w K mg base N qual (defScope st) f cdv A outer s H E) (fun c d _ H => E c d H) ρ (μ ++ []) (defBody st) (fun _ μ1 => RetOk μ Q .non μ1) { rt := RetOk μ Q, xc := fun C ns ds' _ μ1 => ExcOk μ Z C ns ds' μ1 }) :
    SpF P w K mg base ⟨f, fd, ps, k + 1⟩ ds μ Q Z :=
  spF_of F S hl fun cdv A outer s H E g => by
    have := body _ rfl cdv A outer s H E ⟨g, ⟨rfl, S.nd, ck⟩⟩
    rwa [List.append_nil] at this
end
end PM

set_option Elab.async false
set_option linter.all false
set_option maxRecDepth 100000
namespace PM
open PySem L2
section
variable {X : Cx} {W : WX} {k j : Nat} {N : List Str} {V : List Kd} {Gs : List Str} {ρ ρ' : Env'} {μ μ1 μ2 : List M} {e a b c ob : Expr} {es : List Expr} {Q Q' : KV} {Z : KX} {d da db : D} {ds ds' : List D} {p pos apos pos2 np pos' : Pos} {x y m n : Str} {nx : KN} {κ : Ks} {f : Fnx} {C C' pr : Addr} {pl : Sem Bool} {ns : List Str}
/-! ### classes -/
/-- what __init__ leads to, as the caller sees it -/
inductive MadeOk (μ : List M) (C : Addr) (Q : KV) : D → List M → Prop
  | obj {ns : List Str} {fs : List D} {μ2 : List M} : Lows μ μ2 → ns.length = fs.length → D.los μ.length fs = true → Q (.obj C ns fs) μ2 → MadeOk μ C Q .non (μ2 ++ [.ins C ns fs])
  | loc {ns : List Str} {fs : List D} {μ2 : List M} : μ2.length = μ.length → Q (.loc μ.length) (μ2 ++ [.ins C ns fs]) → MadeOk μ C Q .non (μ2 ++ [.ins C ns fs])
inductive MadeX (μ : List M) (Z : KX) (C : Addr) (ns : List Str) : List D → List M → Prop
  | mk {ds : List D} {μ2 : List M} {m : M} : Lows μ μ2 → D.los μ.length ds = true → Z C ns ds μ2 → MadeX μ Z C ns ds (μ2 ++ [m])
theorem wF_make {dvs : List L2.V} {dvl : List Value} {dds : List D} (Mk : Mk X.K C f.a) (hb : Binds X.K f.fd f.ps dvl) (hd : Vals dvs dvl) (hdd : ∀ L G, Reps X.K L G dds dvs) (g : Gd X W k) (hj : f.lv + 1 ≤ k)
    (h : SpX X f (.loc μ.length :: (ds ++ dds)) (μ ++ [.ins C [] []]) (MadeOk μ C Q) (fun C' ns ds' μ' => MadeX μ Z C' ns ds' μ')) : wF X W (fun us => call (.ref C) us) ds μ Q Z := by
  refine ⟨fun pins s σ H xs us R L G I rx ok r av ax => ?_⟩
  refine run_makeS (E := WE W σ) Mk h (g.hr.mono hj) (g.gr.mono hj) hb hd (passAt g.tk σ) I rx fun a dx h1 h2 ne => ?_
  obtain ⟨o2, s2⟩ := ok.made (C := C) h1 h2 ne
  have la : (L ++ [a])[μ.length]? = some a := by rw [← ok.len]; exact last_get L a
  have rr : Reps X.K (L ++ [a]) G (.loc μ.length :: (ds ++ dds)) (.ref a :: (xs ++ dvs)) := Reps.cons (rep_loc.mpr ⟨a, la, rfl⟩) ((r.step s2).append (hdd _ _))
  refine ⟨_, _, o2, rr, fun d μ' q v L3 G3 H3 s3 o3 r3 => ?_, fun C' ns' ds' μ' q dx' L3 G3 H3 s3 o3 x3 => ?_⟩
  · cases q with
    | obj l hl hfs q =>
      rename_i ns fs μ2
      refine ⟨rep_non.mp r3, ?_⟩
      have s13 := s2.trans s3
      have hlen : μ2.length = μ.length := l.1
      have la3 : L3[μ2.length]? = some a := by rw [hlen]; exact s3.pre _ _ la
      obtain ⟨dx', vs', eh, _, rv⟩ := o3.at_ μ2.length a _ la3 (last_get μ2 _)
      have o4 : Ok X.K (L3.take μ2.length) G3 H3 μ2 := o3.cut (l.all ok)
      have s4 : Step L G H (L3.take μ2.length) G3 H3 := s13.cut (by rw [ok.len, hlen]; exact Nat.le_refl _)
      have hna : a ∉ L3.take μ2.length := fun z => by
        obtain ⟨i, hi, ei⟩ := List.getElem_of_mem z
        rw [List.length_take] at hi
        rw [List.getElem_take] at ei
        obtain ⟨g1, g2⟩ := List.getElem?_eq_some_iff.mp la3
        have := (List.getElem_inj o3.nd).mp (ei.trans g2.symm)
        omega
      obtain ⟨o5, sg⟩ := o4.tell (p := a) (o := .ins C dx' (ns.zip vs')) eh hna
      exact av _ _ q _ _ _ H3 (s4.tell h1 sg) o5 (rep_obj.mpr ⟨a, dx', vs', rfl, upd_same, hl, (rv.cut (n := μ2.length) (by rw [hlen]; exact hfs)).mono (.refl _) sg⟩)
    | loc hl q => exact ⟨rep_non.mp r3, av _ _ q _ L3 G3 H3 (s2.trans s3) o3 (rep_loc.mpr ⟨a, s3.pre _ _ la, rfl⟩)⟩
  · cases q with
    | mk l hfs q =>
      rename_i μ2 m
      have hlen : μ2.length = μ.length := l.1
      exact ax _ _ _ _ q dx' _ G3 H3 ((s2.trans s3).cut (n := μ2.length) (by rw [ok.len, hlen]; exact Nat.le_refl _)) (o3.cut (l.all ok)) (xd_cut (L' := L3) x3 (by rw [hlen]; exact hfs))
/-- C(e, ..) by the class's name -/
theorem xE_make (g : Nx' X N V Gs) (hi : In x Gs) (hm : X.mg x = some (.ref C)) (hk : PySem.W.keepIn X.K (.ref C) = true) (h : wA X W ρ μ (e :: es) (fun ds μ1 => wF X W (fun us => call (.ref C) us) ds μ1 Q Z) Z)
    (he : starEach (e :: es) X.env = (false, eval e X.env) :: starEach es X.env := by rfl) (hpl : (backTo pos (starEach es X.env)).any (·.1) = false := by rfl) : wE X W ρ μ (.Call (.Name x p) (e :: es) [] pos) Q Z :=
  .by fun pins s σ H R L G I n v z => wpAny_Call_Name_kw (ld_glob I (g.gl hi).1 hm (PySem.W.callWith_K (h₀ := X.base) I.ok.mod.kin hk (h.call I n v z pos) he hpl) (g.gl hi).2.1)
theorem xE_make0 (g : Nx' X N V Gs) (hi : In x Gs) (hm : X.mg x = some (.ref C)) (hk : PySem.W.keepIn X.K (.ref C) = true) (h : wF X W (fun us => call (.ref C) us) [] μ Q Z) : wE X W ρ μ (.Call (.Name x p) [] [] pos) Q Z :=
  .by fun pins s σ H R L G I n v z => wpAny_Call_Name_kw (ld_glob I (g.gl hi).1 hm (PySem.W.callWith_K0 I.kIn hk (h.run pins s σ H [] [] R L G I .nil n.ok Reps.nil v z)) (g.gl hi).2.1)
/-- cls(e, ..): the class in a local name -/
theorem wE_makeL (g : Nx' X N V Gs) (hk : PySem.W.keepIn X.K (.ref C) = true) (hd : Gt N V x ρ (.ref C)) (h : wA X W ρ μ (e :: es) (fun ds μ1 => wF X W (fun us => call (.ref C) us) ds μ1 Q Z) Z)
    (he : starEach (e :: es) X.env = (false, eval e X.env) :: starEach es X.env := by rfl) (hpl : (backTo pos (starEach es X.env)).any (·.1) = false := by rfl) : wE X W ρ μ (.Call (.Name x p) (e :: es) [] pos) Q Z := by
  obtain ⟨i, e1, e2, e3, e4, e5⟩ := hd.ex g.nm
  refine .by fun pins s σ H R L G I n v z => ?_
  obtain ⟨w, ew, rw'⟩ := n.env.at_ i _ e2
  refine wpAny_Call_Name_kw (thn ((pe_var (pos := p) (by rw [g.N_]; exact e1) e3 e4 e5).run pins s σ H (fun v H1 => v = .ref C ∧ H1 = H) I ⟨w, ew, rep_ref.mp rw', rfl⟩) fun u s1 ⟨v', H1, I1, r1, q1⟩ => ?_)
  obtain ⟨rfl, rfl⟩ := q1
  cases r1
  exact PySem.W.callWith_K (h₀ := X.base) I.ok.mod.kin hk (h.call I1 n v z pos) he hpl
/-- o.m, a property; it raises nothing -/
theorem wE_prop (f : Fnx) (gd : Gd X W k) (cl : Cls X.K C) (hp : PropOf X.K C m pr f.a) (bd : Binds X.K f.fd f.ps []) (h : wE X W ρ μ ob (fun d μ1 => Recv C m μ1 d ∧ SpX X f [d] μ1 Q (fun _ _ _ _ => False)) Z) (hj : f.lv + 1 ≤ k := by exact Nat.le_of_ble_eq_true rfl)
    (hb : attributeBase ob m X.env (eval ob X.env) = eval ob X.env := by rfl) : wE X W ρ μ (.Attribute ob m pos) Q Z := by
  refine .by fun pins s σ H R L G I n v z => ?_
  refine attr_of hb (thn (h.go I n z) fun u s1 ⟨y, d, μ1, L1, G1, H1, I1, ry, ⟨hr, sp⟩, st1, o1, r1⟩ => ?_)
  obtain ⟨a, dx, fs, ex, ea, l⟩ := hr.at_ o1 r1
  subst ex
  obtain rfl : u = Value.ref a := ry
  exact getpropG I1 ea cl hp sp (gd.hr.mono hj) (gd.gr.mono hj) bd ⟨L1, G1, o1, Reps.cons r1 Reps.nil, v.step st1, fun _ _ _ _ q => q.elim⟩
/-- C.m(e, ..), a class method -/
theorem wE_cmeth {mc : Value} (f : Fnx) (gd : Gd X W k) (r : ClX.CRead X.K C mc) (cm : ClX.CMet X.K C mc m pr f.a) (bd : Binds X.K f.fd f.ps []) (h : wE X W ρ μ ob (fun d μ1 => d = .ref C ∧ wA X W ρ μ1 (e :: es) (fun ds μ2 => SpX X f (.ref C :: ds) μ2 Q Z) Z) Z) (hj : f.lv ≤ k := by exact Nat.le_of_ble_eq_true rfl)
    (hst : starEach (e :: es) X.env = (false, eval e X.env) :: starEach es X.env := by rfl) (hpl : (backTo pos (starEach es X.env)).any (·.1) = false := by rfl)
    (ht : eval (.Call (.Attribute ob m apos) (e :: es) [] pos) X.env = (do
      let ov ← eval ob X.env
      standAt apos.atName
      let (f, first) ← holding [ov] (getMethod ov m pl)
      callWith pos f first (backTo pos (starEach (e :: es) X.env)) (backToKw pos (keywordEach [] X.env))) := by rfl) :
    wE X W ρ μ (.Call (.Attribute ob m apos) (e :: es) [] pos) Q Z := by
  refine .by fun pins s σ H R L G I n v z => ?_
  refine PySem.W.methodCall_KW (pl := pl) (thn (h.go I n z) fun u s1 ⟨y, d, μ1, L1, G1, H1, I1, ry, ⟨ed, ha⟩, st1, o1, r1⟩ => ?_) ht
  subst ed
  have ex := rep_ref.mp r1
  subst ex
  obtain rfl : u = Value.ref C := ry
  refine ClX.getmethcm_ok I1 r cm fun s2 I2 => ?_
  refine ClX.callwith_cm I2 (ClX.base_none I1 (Nat.le_refl _)) cm.fi (thn (ha.go I2 (n.step st1 o1) (z.step st1) pos) fun us s3 ⟨vs, ds, μ2, L2, G2, H2, I3, rv, q, st2, o2, r2⟩ => ⟨⟨ClX.pin_at I3, I3.kIn⟩, ?_⟩) hst hpl
  have zz : wpAny (model X.prog X.w) X.A (call (.ref s1.heap.objs.size) us) (EP X ((s1.heap.objs.size, PySem.W.methodObj (.ref f.a) (.ref C)) :: pins) σ R) X.xe s3 := by
    refine wpAny_call (PySem.W.method_call (ClX.pin_at I3) ?_)
    have hsp : spH X.K (.ref C :: ds) μ2 Q Z (.ref C :: vs) H2 R (WE W σ) := ⟨L2, G2, o2, Reps.cons (r1.step st2) r2, v.step (st1.trans st2), z.step (st1.trans st2)⟩
    have hl : (Value.ref C :: us).length = f.ps.length := by
      rw [← q.len _ _ _ _ hsp]
      simp [rv.length]
    have bb := bd s3 (Value.ref C :: us) I3.kIn (by rw [List.append_nil]; exact hl)
    rw [List.append_nil] at bb
    refine codeAny_mono (q.run X.A X.stack s3 H2 ⟨Value.ref C :: us, []⟩ (Value.ref C :: us) (.ref C :: vs) R (WE W σ) (gd.hr.mono hj) (gd.gr.mono hj) I3.env0 bb (.cons rfl rv) hsp) fun r s' hq => ?_
    cases r with
    | error e => exact passAt gd.tk σ _ H2 s3 e s' I3 hq
    | ok fl =>
      cases fl with
      | ret u => exact I3.after hq
      | next => exact False.elim hq
      | brk => exact False.elim hq
      | cont => exact False.elim hq
  exact thn zz fun _ _ y => ClX.unpinE y
/-! ### errors -/
theorem wS_raise (g : Fx X W k N V Gs) (hi : In x Gs) (c : ErrC X.prog X.w X.K X.mg X.base C ns) (hm : X.mg x = some (.ref C)) (h : wA X W ρ μ (e :: es) (fun ds μ1 => ns.length = ds.length ∧ κ.xc C ns ds ρ μ1) (κ.z ρ)) (hk : 2 ≤ k := by decide)
    (he : starEach (e :: es) X.env = (false, eval e X.env) :: starEach es X.env := by rfl) (hpl : (backTo pos (starEach es X.env)).any (·.1) = false := by rfl) : wS X W ρ μ (.Raise (some (.Call (.Name x p) (e :: es) [] pos)) none pos2) nx κ := by
  obtain ⟨hg, hdb, _⟩ := g.gl hi
  refine ⟨⟨fun pins s σ H D I ⟨L, G, nw, ac⟩ => ?_⟩⟩
  -- the arguments come to one list; then the error is raised
  refine (PS.run (t := fun D σ H => ∃ L G, Now X.K L G H μ ρ σ ∧ AccS W X.K L G H D nx κ) ?_ pins s σ H D I ⟨L, G, nw, ac⟩)
  obtain ⟨fI, fd, ps, sp, hi, ht, F, bd, hc⟩ := c.one
  have mk : PMk X (.Call (.Name x p) (e :: es) [] pos) (fun σ H Q => tMkO C sp [] (fun σ H R => ∃ L G, Now X.K L G H μ ρ σ ∧ (∀ ds μ', (ns.length = ds.length ∧ κ.xc C ns ds ρ μ') → ComesA X.K L G H ds μ' R) ∧ AccX W X.K L G H σ (κ.z ρ)) σ H Q) := pmk_oex c.oex hi ht F (g.hr.mono hk) bd .nil pass0 hg hm h.run hdb he hpl
  rcases hc with ⟨f, rfl, rfl⟩ | ⟨f, f2, rfl, hne, rfl⟩
  · refine ps_of (ps_raise g.calm g.tk mk) fun D σ H ⟨L, G, n, ac⟩ => ⟨L, G, n, fun ds μ1 ⟨hn, q⟩ vs L1 G1 H1 s1 o1 r1 => ?_, ac.x n⟩
    match ds, hn with
    | [d], _ =>
      obtain ⟨v, rfl, rv⟩ := r1.one
      refine ⟨by show 1 ≤ 1000; decide, fun a hna => ⟨a, v, rfl, upd_same, fun dx hdx hne => ⟨rfl, dx, [(f, v)], upd_same, by rw [upd_ne hne, upd_same], ?_, ?_⟩⟩⟩
      · rw [upd_ne hne] at hdx
        exact hdx
      · have hdx' : H1 dx = none := by rw [upd_ne hne] at hdx; exact hdx
        have eH : upd (del (upd (upd (upd H1 a (exo a C none)) dx (exd dx [(f, v)])) a (exo a C (some dx))) a) dx (.xd [(f, v)]) = upd H1 dx (.xd [(f, v)]) := by
          funext b
          by_cases hb : b = dx
          · rw [hb, upd_same, upd_same]
          · rw [upd_ne hb, upd_ne hb]
            by_cases hba : b = a
            · rw [hba, del_same, hna]
            · rw [del_ne hba, upd_ne hba, upd_ne hb, upd_ne hba]
        rw [eH]
        obtain ⟨o2, s2⟩ := o1.new (o := .xd [(f, v)]) hdx'
        exact ac.xc _ _ _ _ _ q σ (some dx) L1 _ _ (s1.trans s2) ⟨o2, (n.env.step s1).step s2⟩ ⟨rfl, .inr ⟨dx, [v], rfl, upd_same, Reps.cons (rv.step s2) Reps.nil⟩⟩
  · refine ps_of (ps_raise g.calm g.tk (t := fun σ H Q => ∃ L G, Now X.K L G H μ ρ σ ∧ (∀ ds μ', ([f, f2].length = ds.length ∧ κ.xc C [f, f2] ds ρ μ') → ComesA X.K L G H ds μ' fun vs H1 => ∃ v u, vs = [v, u] ∧ ∀ dx, H1 dx = none → Q (.ref C) (some dx) (upd H1 dx (.xd [(f, v), (f2, u)]))) ∧ AccX W X.K L G H σ (κ.z ρ)) ?_) fun D σ H ⟨L, G, n, ac⟩ => ⟨L, G, n, fun ds μ1 ⟨hn, q⟩ vs L1 G1 H1 s1 o1 r1 => ?_, ac.x n⟩
    · intro pins s σ H Q I h
      refine thn (mk pins s σ H (fun c d H' => c = .ref C ∧ ∃ dx v u H1, d = some dx ∧ H1 dx = none ∧ H' = upd H1 dx (.xd [(f2, u), (f, v)]) ∧ Q (.ref C) (some dx) (upd H1 dx (.xd [(f, v), (f2, u)]))) I ?_) fun u s' hu => ?_
      · obtain ⟨L, G, n, co, cx⟩ := h
        refine ⟨L, G, n, fun ds μ' q0 vs L1 G1 H1 s1 o1 r1 => ?_, cx⟩
        obtain ⟨v, u, rfl, q⟩ := co ds μ' q0 vs L1 G1 H1 s1 o1 r1
        refine ⟨by show 2 ≤ 1000; decide, fun a hna => ⟨a, v, u, rfl, upd_same, fun dx hdx hne => ⟨rfl, dx, [(f2, u), (f, v)], ?_, upd_same, ?_, rfl, dx, v, u, H1, rfl, ?_, ?_, ?_⟩⟩⟩
        · rw [upd_ne (Ne.symm hne), upd_same]
        · rw [upd_ne hne] at hdx; exact hdx
        · rw [upd_ne hne] at hdx; exact hdx
        · funext b
          by_cases hb : b = dx
          · rw [hb, upd_same, upd_same]
          · rw [upd_ne hb, upd_ne hb]
            by_cases hba : b = a
            · rw [hba, del_same, hna]
            · rw [del_ne hba, upd_ne hb, upd_ne hba, upd_ne hb, upd_ne hba]
        · exact q dx (by rw [upd_ne hne] at hdx; exact hdx)
      · obtain ⟨a, oe, fv, sI, H', cls, d, e1, J, k1, k2, k3, k4, k5, k6, k7, k8, k9, k10, rfl, dx, v, u', H1, rfl, hd1, rfl, q⟩ := hu
        refine ⟨a, oe, fv, sI, _, .ref C, some dx, e1, (xd_same J upd_same (xd_swap (Ne.symm (Ne.symm hne)))), k1, k2, k3, k4, k5, k6, ?_, k8, k9, k10, ?_⟩
        · rw [upd_upd]
          by_cases ha : a = dx
          · subst ha
            rw [upd_same] at k7
            cases k7
          · rw [upd_ne ha] at k7 ⊢
            exact k7
        · rw [upd_upd]
          exact q
    · match ds, hn with
      | [d1, d2], _ =>
        obtain ⟨v, u, rfl, rv, ru⟩ := r1.two
        refine ⟨v, u, rfl, fun dx hdx => ?_⟩
        obtain ⟨o2, s2⟩ := o1.new (o := .xd [(f, v), (f2, u)]) hdx
        exact ac.xc _ _ _ _ _ q σ (some dx) L1 _ _ (s1.trans s2) ⟨o2, (n.env.step s1).step s2⟩ ⟨rfl, .inr ⟨dx, [v, u], rfl, upd_same, Reps.cons (rv.step s2) (Reps.cons (ru.step s2) Reps.nil)⟩⟩
/-! ### try -/
variable {body suite : List Stmt} {b₀ : Stmt} {i : Nat}
end
end PM

set_option Elab.async false
set_option linter.all false
set_option maxRecDepth 100000
namespace PM
open PySem L2
/-! ### comprehensions -/
abbrev Z0 : KX := fun _ _ _ _ => False
/-- a target in a block: only own slots change -/
structure wGw (X : Cx) (vs : List Nat) (ρ : Env') (μ : List M) (tg : Expr) (d : D) (nx : Env' → Prop) : Prop where
  run : PG X tg (fun v σ H R => ∃ L G, Now X.K L G H μ ρ σ ∧ Rep X.K L G d v ∧ ∀ ρ', nx ρ' → ∀ σ' L' G' H', Step L G H L' G' H' → Now X.K L' G' H' μ ρ' σ' → wipe σ' vs = wipe σ vs → R σ' H')
structure wGws (X : Cx) (vs : List Nat) (ρ : Env') (μ : List M) (ts : List Expr) (ds : List D) (nx : Env' → Prop) : Prop where
  run : PGs X ts (fun us σ H R => ∃ L G, Now X.K L G H μ ρ σ ∧ Reps X.K L G ds us ∧ ∀ ρ', nx ρ' → ∀ σ' L' G' H', Step L G H L' G' H' → Now X.K L' G' H' μ ρ' σ' → wipe σ' vs = wipe σ vs → R σ' H')
structure wTs (X : Cx) (ρ : Env') (μ : List M) (ifs : List Expr) (Q : KT) : Prop where
  run : PTs X ifs (fun σ H R => ∃ L G, Now X.K L G H μ ρ σ ∧ ∀ b μ', Q b μ' → ComesT X.K L G H b μ' R)
/-- a block's context -/
abbrev InBlk (X : Cx) (k : Nat) (N : List Str) (V : List Kd) (Gs : List Str) (scope : Scope) (P : Cx → Prop) : Prop := ∀ (s : Shared) (H : Hp) (C : Addr) (cl : List (Str × Addr)) (fp : List Addr), Fx (X.blk s H scope (compEnvC scope cl C X.env) fp) W0 k N V Gs → P (X.blk s H scope (compEnvC scope cl C X.env) fp)
section
variable {X : Cx} {W : WX} {k : Nat} {N : List Str} {V V' : List Kd} {Gs Gs' : List Str} {ρ ρ' : Env'} {μ μ1 μ2 : List M} {e elt tg iter c : Expr} {es ifs : List Expr} {Q : KV} {Z : KX} {d : D} {ds : List D} {pos : Pos} {x : Str} {scope : Scope} {own : List (Str × Nat)} {vs : List Nat} {nx : Env' → Prop}
/-- a block's scope within a def's -/
def relabS (sc scope : Scope) : Scope := { scope with names := scope.names.map fun (n, k) => if (k == NameKind.free && sc.kind == .function && sc.names.lookup n == some .cell) then (n, NameKind.cell) else (n, k) }
theorem Fx.blk {s : Shared} {H : Hp} {C : Addr} {cl : List (Str × Addr)} {fp : List Addr} (g : Fx X W k N V Gs) (ck : ckB N V' Gs' (relabS X.env.scope scope) = true) : Fx (X.blk s H scope (compEnvC scope cl C X.env) fp) W0 k N V' Gs' := ⟨g.toGd.blk, ⟨g.N_, g.ndN, ck⟩⟩
theorem wGw_name {i : Nat} (g : Nx' X N V Gs) (hi : Il N V x i) (hv : i ∈ vs) (h : wPt N V x d ρ nx) : wGw X vs ρ μ (.Name x pos) d nx := by
  obtain ⟨e1, l1⟩ := hi.ex g.nm
  have hs := h.set g.nm g.ndN e1
  exact ⟨pg_of (ew_name (ρ := ρ) (μ := μ) (d := d) (vs := vs) i (by rw [g.N_]; exact g.ndN) hv (by rw [g.N_]; exact e1) (.inl l1) (.inr l1)) fun v σ H R ⟨L, G, n, r, a⟩ => ⟨L, G, n, r, a _ hs⟩⟩
theorem wTs_nil {Q : KT} (h : Q true μ) : wTs X ρ μ [] Q := ⟨⟨fun pins s σ H R I ⟨L, G, n, a⟩ => pts_nil.run pins s σ H R I (a _ _ h L G H (.refl _ _ _) n.ok)⟩⟩
theorem wTs_one {Q : KT} (h : wC X W0 ρ μ c Q Z0) : wTs X ρ μ [c] Q := ⟨⟨fun pins s σ H R I ⟨L, G, n, a⟩ => (pts_one h.run).run pins s σ H R I ⟨L, G, n, a, fun _ _ _ _ z => z.elim⟩⟩⟩
/-- one turn -/
def wTurn (X : Cx) (k : Nat) (N : List Str) (V : List Kd) (Gs : List Str) (scope : Scope) (vs : List Nat) (tg elt : Expr) (ifs : List Expr) (ρ : Env') (d : D) (μ : List M) (keep : D → List M → Prop) (skip : List M → Prop) : Prop :=
  InBlk X k N V Gs scope fun Y => wGw Y vs (wipeD ρ vs) μ tg d fun ρ1 => InBlk X k N V Gs scope fun Y => wTs Y ρ1 μ ifs fun b μ1 => if b = true then InBlk X k N V Gs scope fun Y => wE Y W0 ρ1 μ1 elt keep Z0 else skip μ1
/-- [elt for tg in iter if ..] by an invariant of what is left, what is done, the store -/
theorem wE_lc (V' : List Kd) (Gs' : List Str) (own : List (Str × Nat)) (Iv : List D → List D → List M → Prop) (g : Fx X W k N V Gs) {sc : Scope} (hsc : X.env.scope = sc) (ck : ckB N V' Gs' (relabS sc scope) = true) (ok : BlkOk X.N X.env.scope scope own)
    (hi : wI X W ρ μ tg iter (fun ds μ1 => ds.length ≤ sizeLine ∧ Iv ds [] μ1) Z)
    (ht : ∀ d ds done μ, Iv (d :: ds) done μ → wTurn X k N V' Gs' scope (own.map (·.2)) tg elt ifs ρ d μ (fun y μ1 => Iv ds (done ++ [y]) μ1) (fun μ1 => Iv ds done μ1))
    (hn : ∀ done μ, Iv [] done μ → Q (.lst done) μ) (hs : ∀ x, foldedSetIterable iter X.env x = pure x := by intro _; rfl) : wE X W ρ μ (.ListComp elt [⟨tg, iter, ifs, 0⟩] scope pos) Q Z := by
  have gb : ∀ (s : Shared) (H : Hp) (C : Addr) (cl : List (Str × Addr)) (fp : List Addr), Fx (X.blk s H scope (compEnvC scope cl C X.env) fp) W0 k N V' Gs' := fun s H C cl fp => g.blk (by rw [hsc]; exact ck)
  refine ⟨pe_of (pe_lc (g := bG X scope tg) (tt := bT X scope ifs) (te := bE X scope elt) g.calm g.nd hi.run ok (fun s H C cl fp => ⟨fun pins s' σ H' v u Q I r ⟨t, p, q⟩ => (p s H C cl fp).run pins s' σ H' v u Q I r q⟩)
    (fun s H C cl fp => ⟨fun pins s' σ H' Q I ⟨t, p, q⟩ => (p s H C cl fp).run pins s' σ H' Q I q⟩) (fun s H C cl fp => ⟨fun pins s' σ H' Q I ⟨t, p, q⟩ => (p s H C cl fp).run pins s' σ H' Q I q⟩) hs) fun σ H R ⟨L, G, nw, av, ax⟩ => ⟨L, G, nw, fun ds μ1 ⟨hl, i0⟩ J L1 G1 H1 s1 o1 j D hD => ?_, ax⟩⟩
  have oD := (o1.newH (o := .lst []) hD).1
  refine ⟨fun i m H' => m = ds.length - i ∧ i ≤ ds.length ∧ ∃ done us μ' L' G', Iv (ds.drop i) done μ' ∧ H' D = some (.lst us) ∧ Reps X.K L' G' done us ∧ Ok X.K L' G' H' μ' ∧ Step L1 G1 H1 L' G' H' ∧ G' D = none ∧ D ∉ L' ∧ done.length ≤ i,
    ⟨ds.length, by simp, Nat.zero_le _, [], [], μ1, L1, G1, i0, upd_same, Reps.nil, oD, (Step.refl L1 G1 H1).poke hD, Same.free o1.sub hD, fun z => mem_ne o1.liv hD D z rfl, Nat.zero_le _⟩, ?_⟩
  rintro i m H2 ⟨rfl, hil, done, us, μ', L2, G2, h2, eD, rd, o2, s2, gD2, nD2, hdi⟩
  have nw2 : ∀ {Lx Gx Hx μx}, Step L2 G2 H2 Lx Gx Hx → Ok X.K Lx Gx Hx μx → Now X.K Lx Gx Hx μx (wipeD ρ (own.map (·.2))) (wipe σ (own.map (·.2))) := fun sx ox => ⟨ox, (nw.env.wipe _).mono ((s1.trans s2).trans sx).pre ((s1.trans s2).trans sx).gs⟩
  have keepD : ∀ {Lx Gx Hx}, Step L2 G2 H2 Lx Gx Hx → Hx D = some (.lst us) ∧ Gx D = none ∧ D ∉ Lx := fun {Lx Gx Hx} sx => by
    refine ⟨sx.hs D _ eD nD2, ?_, fun z => ?_⟩
    · cases e : Gx D with
      | none => rfl
      | some o =>
        rcases sx.gf D o e with q | q
        · rw [gD2] at q; cases q
        · rw [eD] at q; cases q
    · rcases sx.fr D z with q | q
      · exact nD2 q
      · rw [eD] at q; cases q
  generalize hd : ds.drop i = dr at h2
  cases dr with
  | nil =>
    have ei : i = ds.length := by
      have := congrArg List.length hd
      simp at this
      omega
    subst ei
    refine .inl ⟨j.stop L2 G2 H2 _ s2.pre s2.gs o2, ?_⟩
    obtain ⟨o3, sg⟩ := o2.tell (p := D) (o := .lst us) eD nD2
    exact av _ _ (hn _ _ h2) _ L2 _ H2 (s1.trans (s2.tell hD sg)) o3 (rep_lst.mpr ⟨D, us, rfl, upd_same, rd.mono (.refl _) sg⟩)
  | cons d ds' =>
    obtain ⟨e1, e2⟩ := drop_cons hd
    obtain ⟨go, yl⟩ := j.go L2 G2 H2 μ' i d s2.pre s2.gs o2 e1
    have il : i < ds.length := (List.getElem?_eq_some_iff.mp e1).1
    refine .inr ⟨go, fun H' => ∃ done' us' μb L' G', Iv ds' done' μb ∧ H' D = some (.lst us') ∧ Reps X.K L' G' done' us' ∧ Ok X.K L' G' H' μb ∧ Step L1 G1 H1 L' G' H' ∧ G' D = none ∧ D ∉ L' ∧ done'.length ≤ i + 1, fun H' ⟨done', us', μb, L', G', q0, q1, q2, q3, q4, q5, q6, q7⟩ => ⟨ds.length - (i + 1), by omega, rfl, il, done', us', μb, L', G', by rw [e2]; exact q0, q1, q2, q3, q4, q5, q6, q7⟩, fun x H3 yy => ?_⟩
    obtain ⟨G3, s3, o3, r3⟩ := yl x H3 yy
    refine ⟨fun v σ H R => ∃ L G, Now X.K L G H μ' (wipeD ρ (own.map (·.2))) σ ∧ Rep X.K L G d v ∧ ∀ ρ', _ → ∀ σ' L' G' H', Step L G H L' G' H' → Now X.K L' G' H' μ' ρ' σ' → wipe σ' (own.map (·.2)) = wipe σ (own.map (·.2)) → R σ' H', fun s H C cl fp => ((ht d ds' done μ' h2) s H C cl fp (gb s H C cl fp)).run, L2, G3, nw2 s3 o3, r3, fun ρ1 h1 σ4 L4 G4 H4 s4 n4 w4 => ⟨by rw [w4, wipe_idem], fun σ H R => ∃ L G, Now X.K L G H μ' ρ1 σ ∧ ∀ b μ5, _ → ComesT X.K L G H b μ5 R, fun s H C cl fp => (h1 s H C cl fp (gb s H C cl fp)).run, L4, G4, n4, fun b μ5 h5 L5 G5 H5 s5 o5 => ?_⟩⟩
    cases b with
    | true =>
      refine iteT ⟨fun σ H R => ∃ L G, Now X.K L G H μ5 ρ1 σ ∧ AccV X.K L G H _ R ∧ AccX W0 X.K L G H σ Z0, fun s H C cl fp => ((show InBlk X k N V' Gs' scope fun Y => wE Y W0 ρ1 μ5 elt _ Z0 from h5) s H C cl fp (gb s H C cl fp)).run, L5, G5, n4.step s5 o5, fun y μ6 h6 v L6 G6 H6 s6 o6 r6 => ?_, fun _ _ _ _ z => z.elim⟩
      have s36 := ((s3.trans s4).trans s5).trans s6
      obtain ⟨k1, k2, k3⟩ := keepD s36
      refine ⟨us, k1, ?_, done ++ [y], us ++ [v], μ6, L6, G6, h6, upd_same, (rd.step s36).append (Reps.cons r6 Reps.nil), o6.poke k3 k2, (s2.trans s36).poke hD, k2, k3, by simp; omega⟩
      rw [rd.length]
      omega
    | false =>
      have s35 := (s3.trans s4).trans s5
      obtain ⟨k1, k2, k3⟩ := keepD s35
      exact iteF ⟨done, us, μ5, L5, G5, h5, k1, rd.step s35, o5, s2.trans s35, k2, k3, by omega⟩
/-- y = [..]: the name's own slot is written in one go -/
theorem wS_setLc (V' : List Kd) (Gs' : List Str) (own : List (Str × Nat)) (Iv : List D → List D → List M → Prop) {nx : KN} {κ : Ks} {y : Str} {i : Nat} {py spos : Pos} (g : Fx X W k N V Gs) (hy : Il N V y i) {sc : Scope} (hsc : X.env.scope = sc) (ck : ckB N V' Gs' (relabS sc scope) = true) (ok : BlkOk X.N X.env.scope scope own)
    (hi : wI X W ρ μ tg iter (fun ds μ1 => ds.length ≤ sizeLine ∧ Iv ds [] μ1) (κ.z ρ))
    (ht : ∀ d ds done μ, Iv (d :: ds) done μ → wTurn X k N V' Gs' scope (own.map (·.2)) tg elt ifs ρ d μ (fun y μ1 => Iv ds (done ++ [y]) μ1) (fun μ1 => Iv ds done μ1))
    (hn : ∀ done μ, Iv [] done μ → wPt N V y (.lst done) ρ (fun ρ' => nx ρ' μ))
    (hkd : X.env.scope.kind = .function := by rfl) (hl : (py.line == pos.line) = true := by rfl) (hnm : (scope.names.any fun (n, k) => n == y && (k == .local || k == .cell)) = false := by decide +kernel)
    (hs : ∀ x, foldedSetIterable iter X.env x = pure x := by intro _; rfl) : wS X W ρ μ (.Assign [.Name y py] (.ListComp elt [⟨tg, iter, ifs, 0⟩] scope pos) spos) nx κ := by
  obtain ⟨e1, l1⟩ := hy.ex g.nm
  have gb : ∀ (s : Shared) (H : Hp) (C : Addr) (cl : List (Str × Addr)) (fp : List Addr), Fx (X.blk s H scope (compEnvC scope cl C X.env) fp) W0 k N V' Gs' := fun s H C cl fp => g.blk (by rw [hsc]; exact ck)
  refine ⟨ps_of (ps_setLc (g := bG X scope tg) (tt := bT X scope ifs) (te := bE X scope elt) g.calm g.nd (by rw [g.N_]; exact e1) l1 (sw_true hkd l1 hl hnm) hi.run ok (fun s H C cl fp => ⟨fun pins s' σ H' v u Q I r ⟨t, p, q⟩ => (p s H C cl fp).run pins s' σ H' v u Q I r q⟩)
    (fun s H C cl fp => ⟨fun pins s' σ H' Q I ⟨t, p, q⟩ => (p s H C cl fp).run pins s' σ H' Q I q⟩) (fun s H C cl fp => ⟨fun pins s' σ H' Q I ⟨t, p, q⟩ => (p s H C cl fp).run pins s' σ H' Q I q⟩) hs) fun DD σ H ⟨L, G, nw, ac⟩ => ⟨L, G, nw, fun ds μ1 ⟨hl, i0⟩ J L1 G1 H1 s1 o1 j D hD => ?_, ac.x nw⟩⟩
  have oD := (o1.newH (o := .lst []) hD).1
  refine ⟨fun i m H' => m = ds.length - i ∧ i ≤ ds.length ∧ ∃ done us μ' L' G', Iv (ds.drop i) done μ' ∧ H' D = some (.lst us) ∧ Reps X.K L' G' done us ∧ Ok X.K L' G' H' μ' ∧ Step L1 G1 H1 L' G' H' ∧ G' D = none ∧ D ∉ L' ∧ done.length ≤ i,
    ⟨ds.length, by simp, Nat.zero_le _, [], [], μ1, L1, G1, i0, upd_same, Reps.nil, oD, (Step.refl L1 G1 H1).poke hD, Same.free o1.sub hD, fun z => mem_ne o1.liv hD D z rfl, Nat.zero_le _⟩, ?_⟩
  rintro i m H2 ⟨rfl, hil, done, us, μ', L2, G2, h2, eD, rd, o2, s2, gD2, nD2, hdi⟩
  have nw2 : ∀ {Lx Gx Hx μx}, Step L2 G2 H2 Lx Gx Hx → Ok X.K Lx Gx Hx μx → Now X.K Lx Gx Hx μx (wipeD ρ (own.map (·.2))) (wipe σ (own.map (·.2))) := fun sx ox => ⟨ox, (nw.env.wipe _).mono ((s1.trans s2).trans sx).pre ((s1.trans s2).trans sx).gs⟩
  have keepD : ∀ {Lx Gx Hx}, Step L2 G2 H2 Lx Gx Hx → Hx D = some (.lst us) ∧ Gx D = none ∧ D ∉ Lx := fun {Lx Gx Hx} sx => by
    refine ⟨sx.hs D _ eD nD2, ?_, fun z => ?_⟩
    · cases e : Gx D with
      | none => rfl
      | some o =>
        rcases sx.gf D o e with q | q
        · rw [gD2] at q; cases q
        · rw [eD] at q; cases q
    · rcases sx.fr D z with q | q
      · exact nD2 q
      · rw [eD] at q; cases q
  generalize hd : ds.drop i = dr at h2
  cases dr with
  | nil =>
    have ei : i = ds.length := by
      have := congrArg List.length hd
      simp at this
      omega
    subst ei
    refine .inl ⟨j.stop L2 G2 H2 _ s2.pre s2.gs o2, ?_⟩
    obtain ⟨o3, sg⟩ := o2.tell (p := D) (o := .lst us) eD nD2
    have s4 := s1.trans (s2.tell hD sg)
    exact ac.nx _ _ ((hn _ _ h2).set g.nm g.ndN e1) _ L2 _ H2 s4 ⟨o3, (nw.env.step s4).set (rep_lst.mpr ⟨D, us, rfl, upd_same, rd.mono (.refl _) sg⟩) _⟩
  | cons d ds' =>
    obtain ⟨e1, e2⟩ := drop_cons hd
    obtain ⟨go, yl⟩ := j.go L2 G2 H2 μ' i d s2.pre s2.gs o2 e1
    have il : i < ds.length := (List.getElem?_eq_some_iff.mp e1).1
    refine .inr ⟨go, fun H' => ∃ done' us' μb L' G', Iv ds' done' μb ∧ H' D = some (.lst us') ∧ Reps X.K L' G' done' us' ∧ Ok X.K L' G' H' μb ∧ Step L1 G1 H1 L' G' H' ∧ G' D = none ∧ D ∉ L' ∧ done'.length ≤ i + 1, fun H' ⟨done', us', μb, L', G', q0, q1, q2, q3, q4, q5, q6, q7⟩ => ⟨ds.length - (i + 1), by omega, rfl, il, done', us', μb, L', G', by rw [e2]; exact q0, q1, q2, q3, q4, q5, q6, q7⟩, fun x H3 yy => ?_⟩
    obtain ⟨G3, s3, o3, r3⟩ := yl x H3 yy
    refine ⟨fun v σ H R => ∃ L G, Now X.K L G H μ' (wipeD ρ (own.map (·.2))) σ ∧ Rep X.K L G d v ∧ ∀ ρ', _ → ∀ σ' L' G' H', Step L G H L' G' H' → Now X.K L' G' H' μ' ρ' σ' → wipe σ' (own.map (·.2)) = wipe σ (own.map (·.2)) → R σ' H', fun s H C cl fp => ((ht d ds' done μ' h2) s H C cl fp (gb s H C cl fp)).run, L2, G3, nw2 s3 o3, r3, fun ρ1 h1 σ4 L4 G4 H4 s4 n4 w4 => ⟨by rw [w4, wipe_idem], fun σ H R => ∃ L G, Now X.K L G H μ' ρ1 σ ∧ ∀ b μ5, _ → ComesT X.K L G H b μ5 R, fun s H C cl fp => (h1 s H C cl fp (gb s H C cl fp)).run, L4, G4, n4, fun b μ5 h5 L5 G5 H5 s5 o5 => ?_⟩⟩
    cases b with
    | true =>
      refine iteT ⟨fun σ H R => ∃ L G, Now X.K L G H μ5 ρ1 σ ∧ AccV X.K L G H _ R ∧ AccX W0 X.K L G H σ Z0, fun s H C cl fp => ((show InBlk X k N V' Gs' scope fun Y => wE Y W0 ρ1 μ5 elt _ Z0 from h5) s H C cl fp (gb s H C cl fp)).run, L5, G5, n4.step s5 o5, fun y μ6 h6 v L6 G6 H6 s6 o6 r6 => ?_, fun _ _ _ _ z => z.elim⟩
      have s36 := ((s3.trans s4).trans s5).trans s6
      obtain ⟨k1, k2, k3⟩ := keepD s36
      refine ⟨us, k1, ?_, done ++ [y], us ++ [v], μ6, L6, G6, h6, upd_same, (rd.step s36).append (Reps.cons r6 Reps.nil), o6.poke k3 k2, (s2.trans s36).poke hD, k2, k3, by simp; omega⟩
      rw [rd.length]
      omega
    | false =>
      have s35 := (s3.trans s4).trans s5
      obtain ⟨k1, k2, k3⟩ := keepD s35
      exact iteF ⟨done, us, μ5, L5, G5, h5, k1, rd.step s35, o5, s2.trans s35, k2, k3, by omega⟩
end
end PM

set_option Elab.async false
set_option linter.all false
set_option maxRecDepth 100000
namespace PM
open PySem L2
/-! ### calls by keywords -/
structure wK (X : Cx) (W : WX) (ρ : Env') (μ : List M) (kws : List Keyword) (Q : KA) (Z : KX) : Prop where
  run : PK X kws (fun σ H R => ∃ L G, Now X.K L G H μ ρ σ ∧ (∀ ds μ', Q ds μ' → ComesA X.K L G H ds μ' R) ∧ AccX W X.K L G H σ Z)
def aK (X : Cx) (kws : List Keyword) : TA := fun σ H Q => ∃ t, PK X kws t ∧ t σ H Q
section
variable {X : Cx} {W : WX} {k n : Nat} {N : List Str} {V : List Kd} {Gs ks : List Str} {p : List Nat} {ρ : Env'} {μ μ1 : List M} {e ob : Expr} {es : List Expr} {Q : KV} {Z : KX} {QA : KA} {d : D} {ds es' : List D} {pp pos apos kpos : Pos} {x m : Str} {f : Fnx} {C pr : Addr} {pl : Sem Bool} {kws : List Keyword} {nm : Option Str}
theorem aK_ok : PK X kws (aK X kws) := ⟨fun pos pins s σ H Q I ⟨t, p, q⟩ => p.run pos pins s σ H Q I q⟩
theorem wK_nil (h : QA [] μ) : wK X W ρ μ [] QA Z := ⟨pk_of pk_nil fun σ H R ⟨L, G, n, v, x⟩ => v [] μ h [] L G H (.refl _ _ _) n.ok Reps.nil⟩
theorem wK_cons (h : wE X W ρ μ e (fun d μ1 => wK X W ρ μ1 kws (fun ds μ2 => QA (d :: ds) μ2) Z) Z) : wK X W ρ μ (⟨nm, e, kpos⟩ :: kws) QA Z :=
  ⟨pk_of (pk_cons h.run aK_ok) fun σ H R ⟨L, G, n, v, x⟩ => ⟨L, G, n, fun d μ1 q u L1 G1 H1 s1 o1 r1 => ⟨_, q.run, L1, G1, n.step s1 o1, fun ds μ2 q2 us L2 G2 H2 s2 o2 r2 => v _ _ q2 _ L2 G2 H2 (s1.trans s2) o2 (Reps.cons (r1.step s2) r2), x.step s1⟩, x⟩⟩
theorem wK.go {pins : List (Addr × Obj)} {s : Shared} {σ : L2.St} {H : Hp} {L : List Addr} {G : Hp} (h : wK X W ρ μ kws QA Z) (I : Inv X pins σ H s) (n : Now X.K L G H μ ρ σ) (z : AccX W X.K L G H σ Z) (pos : Pos) :
    wpAny (model X.prog X.w) X.A (evalAll ((backToKw pos (keywordEach kws X.env)).map (·.2))) (fun us s1 => ∃ vs ds μ1 L1 G1 H1, Inv X pins σ H1 s1 ∧ Vals vs us ∧ QA ds μ1 ∧ Step L G H L1 G1 H1 ∧ Ok X.K L1 G1 H1 μ1 ∧ Reps X.K L1 G1 ds vs) X.xe s :=
  thn (h.run.run pos pins s σ H (fun vs H1 => ∃ ds μ1 L1 G1, QA ds μ1 ∧ Step L G H L1 G1 H1 ∧ Ok X.K L1 G1 H1 μ1 ∧ Reps X.K L1 G1 ds vs) I ⟨L, G, n, fun ds μ' q vs L' G' H' s' o' r' => ⟨ds, μ', L', G', q, s', o', r'⟩, z⟩)
    fun us s1 ⟨vs, H1, I1, r1, ds, μ1, L1, G1, q, st, o, r⟩ => ⟨vs, ds, μ1, L1, G1, H1, I1, r1, q, st, o, r⟩
end
end PM

set_option Elab.async false
set_option linter.all false
set_option maxRecDepth 100000
namespace PM
open PySem L2
section
variable {X : Cx} {W : WX} {k : Nat} {N : List Str} {V : List Kd} {Gs : List Str} {ρ : Env'} {μ : List M} {e oe a b c : Expr} {es : List Expr} {Q : KV} {Z : KX} {QT : KT} {QA : KA} {d : D} {ds : List D} {p pos pos' : Pos} {x f : Str} {nx : KN} {κ : Ks}
/-- o.f = e, o a thing of the store -/
theorem wS_fld (h : wE X W ρ μ e (fun d μ1 => wE X W ρ μ1 oe (fun d0 μ2 => ∃ (i : Nat) (C : Addr) (ns : List Str) (fs : List D), d0 = .loc i ∧ μ2[i]? = some (.ins C ns fs) ∧ (Cls X.K C ∧ NoAttr X.K C f ∧ ns.length < 1000) ∧ nx ρ (μ2.set i (.ins C (putN f ns) (putD f d ns fs)))) (κ.z ρ)) (κ.z ρ))
    (hs : swapsWith e (some (.Attribute oe f pos')) pos.line X.env = pure false := by rfl) : wS X W ρ μ (.Assign [.Attribute oe f pos'] e pos) nx κ :=
  ⟨ps_of (ps_fld aE_ok h.run hs) fun D σ H ⟨L, G, nw, a⟩ => ⟨L, G, nw, fun d μ1 h2 v L1 G1 H1 s1 o1 r1 => ⟨_, h2.run, L1, G1, nw.step s1 o1, fun d0 μ2 ⟨i, C, ns, fs, ed, hi, ⟨c, n, hl⟩, q⟩ u L2 G2 H2 s2 o2 r2 => by
    subst ed
    obtain ⟨a', ea, ev⟩ := rep_loc.mp r2
    obtain ⟨dx, vs, eh, hl2, rr⟩ := o2.at_ i a' _ ea hi
    obtain ⟨vs', e1, e2, e3⟩ := put_rep (r1.step s2) hl2 rr
    refine ⟨a', C, dx, _, ev, eh, c, n, ?_, ?_⟩
    · rw [List.length_zip]
      omega
    · obtain ⟨o3, s3⟩ := o2.write (o := .ins C dx (putF f v (ns.zip vs))) (m := .ins C (putN f ns) (putD f d ns fs)) ea ⟨dx, vs', by rw [upd_same, e1], e2, e3⟩
      exact a.nx _ _ q σ L2 G2 _ ((s1.trans s2).trans s3) ⟨o3, ((nw.env.step s1).step s2).step s3⟩, (a.x nw).step s1⟩, a.x nw⟩⟩
end
end PM

set_option Elab.async false
set_option linter.all false
set_option maxRecDepth 100000
namespace PM
open PySem L2
section
variable {X : Cx} {W : WX} {k n : Nat} {μ : List M} {ds : List D} {ps : List PyData} {Q : KV} {Z : KX}
theorem oc_neLoc (g : Gd X W k) (hi : μ[n]? = some (.lst ds)) (h1 : D.pys ds = some ps) (s1 : SeqAt.shaped (.list ps) = true) : OpO X W (compareOp .NotEq) (.loc n) (.lst []) μ (.ret (.bl (!PyData.eqv (.list ps) (.list []))) μ) :=
  opO_of (op_neD (by have := g.hr.un; omega)) fun σ x y H Q L G o r1 r2 c => ⟨.list ps, .list [], by
    obtain ⟨a, ea, ev⟩ := rep_loc.mp r1
    obtain ⟨vs, eh, rr⟩ := o.at_ n a _ ea hi
    rw [ev]
    exact .lst (SqL.of eh) (Reps.dp o.sub rr h1), r2.dp o.sub rfl, s1, rfl, CO.now (W := W) (σ := σ) c o (rep_bl.mpr rfl)⟩
/-- l != [] -/
theorem wB_neLoc (g : Gd X W k) (hi : μ[n]? = some (.lst ds)) (h1 : D.pys ds = some ps) (s1 : SeqAt.shaped (.list ps) = true) (h : Q (.bl (!PyData.eqv (.list ps) (.list []))) μ) : wB X W (compareOp .NotEq) (.loc n) (.lst []) μ Q Z := .ofV (oc_neLoc g.w0 hi h1 s1) h
end
section
variable {X : Cx} {W : WX} {k j i : Nat} {ps : List Str} {R : Rl} {f C : Addr} {fd : FuncData} {ρ : Env'} {μ μ2 : List M} {ns : List Str} {fs : List D} {d da db : D} {b : Bool} {x : Str} {e : Expr} {op : Operator} {pos pos' : Pos} {nx : KN} {κ : Ks}
/-- d in o, by __contains__ -/
theorem oc_inOwn (g : Gd X W k) (hm : Meth X.K C "__contains__" f) (cl : Cal X.prog X.w X.K X.mg X.base j ps R f fd) (hR : R [.obj C ns fs, d] μ (.ret (.bl b) μ2)) (hj : j ≤ k := by decide) : OpO X W (compareOp .In) d (.obj C ns fs) μ (.ret (.bl b) μ2) := by
  intro pins s σ H x y v u Q L G I rx ry ok r1 r2 co
  obtain ⟨a, dx, vs, rfl, q, _⟩ := rep_obj.mp r2
  cases ry
  obtain ⟨ox, od, J⟩ := inst_at I (ok.sub _ _ q)
  have hr := g.hr.mono hj
  obtain ⟨m, fr⟩ := I.fr
  refine PySem.W.in_K fr I.mod.kin J hm.at_ hm.fn (wpAny_mono (cl.runV hr (g.gr.mono (by omega)) I.env0 hR I (xs := [.ref a, x]) (.cons rfl (.cons rx .nil)) ok (Reps.cons r2 (Reps.cons r1 Reps.nil)) co) (fun r s' hr => ?_) fun _ _ y => y)
  obtain ⟨v, H', I', rv, ⟨_, _, z⟩, q'⟩ := hr
  rw [rep_bl.mp z] at rv q'
  cases rv
  exact wpAny_truthy_bool ⟨.bl b, H', I', rfl, q'⟩
end
end PM

set_option Elab.async false
set_option linter.all false
set_option maxRecDepth 100000
namespace PM
open PySem L2 PyProof.Rows
section
variable {prog : Program} {w : World} {A : Around} {E : Value → Shared → Prop} {s : Shared} {K : PySem.W.Frag} {x C f : Addr} {ox : Obj} {od : Option Obj} {name : Str} {id n : String} {B : Builtin} {args : List Value}
end
section
variable {X : Cx} {W : WX} {k j : Nat} {ps : List Str} {R : Rl} {f C : Addr} {fd : FuncData} {μ μ2 : List M} {ns ns' : List Str} {fs fs' : List D} {b : Bool}
end
section
variable {X : Cx} {W : WX} {k j : Nat} {ps : List Str} {R : Rl} {f C : Addr} {fd : FuncData} {ρ : Env'} {μ μ1 μ2 : List M} {ns : List Str} {fs : List D} {y : Str} {e : Expr} {pos : Pos}
end
end PM

set_option Elab.async false
set_option linter.all false
set_option maxRecDepth 100000
namespace PM
open PySem L2
section
variable {X : Cx} {W : WX} {ρ : Env'} {μ : List M} {e e2 : Expr} {elts : List Expr} {kk : Nat} {tpos p pos : Pos} {QA : KA} {Z : KX}
end
end PM

set_option Elab.async false
set_option linter.all false
set_option maxRecDepth 100000
set_option maxHeartbeats 4000000
namespace PM
open PySem PySem.Spec PySem.Calls PyProof.Rows L2
section
variable {prog : Program} {w : World} {A : Around} {E : Value → Shared → Prop} {s : Shared} {K : PySem.W.Frag} {x C : Addr} {ox : Obj} {od : Option Obj}
end
/-- the class, or the tuple of classes, that a caught error is asked for -/
inductive AskD (K : PySem.W.Frag) (C : Addr) : D → Bool → Prop
  | ty {n : String} {b : Bool} (h : PySem.W.kitOne K (.ref C) (.type n) = some b) : AskD K C (.ty n) b
  | own {B : Addr} {b : Bool} (h : PySem.W.kitOne K (.ref C) (.ref B) = some b) : AskD K C (.ref B) b
inductive AskDs (K : PySem.W.Frag) (C : Addr) : List D → Bool → Prop
  | nil : AskDs K C [] false
  | cons {d : D} {ds : List D} {b c : Bool} (h : AskD K C d b) (t : AskDs K C ds c) : AskDs K C (d :: ds) (b || c)
theorem AskD.eq {K : PySem.W.Frag} {C : Addr} {L : List Addr} {G : Hp} {d : D} {b : Bool} {v : V} (h : AskD K C d b) (r : Rep K L G d v) : ∃ u, ClsV v u ∧ PySem.W.kitOne K (.ref C) u = some b := by
  cases h with
  | ty h => rw [rep_ty.mp r]; exact ⟨_, .ty _, h⟩
  | own h => rw [rep_ref.mp r]; exact ⟨_, .own _, h⟩
theorem AskDs.eq {K : PySem.W.Frag} {C : Addr} {L : List Addr} {G : Hp} : ∀ {ds : List D} {b : Bool} {vs : List V}, AskDs K C ds b → Reps K L G ds vs → ∃ us, Paired ClsV vs us ∧ PySem.W.kitAny K (.ref C) us = some b
  | _, _, _, .nil, r => by rw [r.inv_nil]; exact ⟨[], .nil, rfl⟩
  | _, _, _, .cons (b := b) (c := c) h t, r => by
    obtain ⟨v, rest, rfl, ra, rb⟩ := r.inv_cons
    obtain ⟨u, k1, e1⟩ := h.eq ra
    obtain ⟨us, k2, e2⟩ := AskDs.eq t rb
    refine ⟨u :: us, .cons k1 k2, kitAny_cons e1 (fun hb => ?_) (fun hb => ?_)⟩
    · rw [hb, Bool.false_or]; exact e2
    · rw [hb, Bool.true_or]
section
variable {X : Cx} {W : WX} {a C dd : Addr} {oe : Obj} {pn : List (Addr × Obj)} {μ : List M} {Q : KV} {Z : KX}
def rIsEF (K : PySem.W.Frag) (C a dd : Addr) : List V → Hp → VK → Prop := fun xs H Q => ∃ (c : V) (u : Value) (b : Bool) (fs : List (Str × V)), xs = [.ref a, c] ∧ ClsV c u ∧ H dd = some (.xd fs) ∧ PySem.W.kitOne K (.ref C) u = some b ∧ Q (.bl b) H
def rIsET (K : PySem.W.Frag) (C a dd : Addr) : List V → Hp → VK → Prop := fun xs H Q => ∃ (tp : Addr) (cs : List V) (us : List Value) (b : Bool) (fs : List (Str × V)), xs = [.ref a, .ref tp] ∧ SqT K H tp cs ∧ Paired ClsV cs us ∧ H dd = some (.xd fs) ∧ PySem.W.kitAny K (.ref C) us = some b ∧ Q (.bl b) H
end
end PM

set_option Elab.async false
set_option linter.all false
set_option maxRecDepth 100000
set_option maxHeartbeats 4000000
namespace PM
open PySem L2
/-! ### repr(list of own instances) -/
section
variable {prog : Program} {w : World} {A : Around} {E : Value → Shared → Prop} {s : Shared} {K : PySem.W.Frag} {x C f : Addr} {ox : Obj} {od : Option Obj} {name : Str}
end
section
variable {X : Cx} {W : WX} {k j : Nat} {ps : List Str} {R : Rl} {f C : Addr} {fd : FuncData} {μ : List M} {ds : List D} {ts : List Str}
/-- what the items tell -/
def TellsAll (C : Addr) (R : Rl) (μ : List M) (ds : List D) (ts : List Str) : Prop := ts.length = ds.length ∧ ∀ (i : Nat) (d : D), ds[i]? = some d → ∃ t ns fs, ts[i]? = some t ∧ d = .obj C ns fs ∧ R [d] μ (.ret (.str t) μ)
end
end PM

set_option Elab.async false
set_option linter.all false
set_option maxRecDepth 100000
set_option maxHeartbeats 4000000
namespace PM
open PySem
open L2 hiding Inv
/-! ### enumerate(tuple) -/
theorem typeCall_enum1 (a : Value) : checkTypeCall "enumerate" ⟨[a], []⟩ = pure () := by kernel_rfl
theorem newCall_enum1 (a : Value) : checkBuiltinCall "enumerate.__new__" ⟨[.type "enumerate", a], []⟩ = pure () := by kernel_rfl
set_option maxHeartbeats 1000000 in
theorem meets_enum1 {v : Value} {o : Obj} {H : Heap → Prop} (B : Begins v o H) :
    Meets (Builtin.«enumerate.__new__» ⟨[.type "enumerate", v], []⟩) (fun _ R s => H s.heap ∧
      R (.ok (.ret (.ref (s.heap.push o).objs.size))) { s with heap := (s.heap.push o).push { cls := .type "enumerate", data := .fields #[.none, .bool false, .ref s.heap.objs.size, rawInt 0, .none, .none] } }) :=
  .of_wp fun prog w A R s h => by
    obtain ⟨hp, g, d, tk, os⟩ := s; obtain ⟨h1, h⟩ := h
    have hsub := sub_enumerate
    have q1 : ∀ {A' : Around} {E : Value → Shared → Prop} {Q : Value → Shared → Prop}, Q (.ref hp.objs.size) ⟨hp.push o, g, d, tk, os⟩ → wpAny (model prog w) A' (pyIter v) Q E ⟨hp, g, d, tk, os⟩ :=
      fun q => B.iter prog w _ _ ⟨hp, g, d, tk, os⟩ _ h1 q
    wp_walk using q1
    refine wpAny_stack_any fun st => wpAny_pure ?_
    split
    · rename_i c _ _ _ _ _
      cases (c == Value.type "enumerate")
      · wp_walk using q1
        exact ⟨_, rfl, h⟩
      · wp_walk using q1
        exact ⟨_, rfl, h⟩
    · wp_walk using q1
      exact ⟨_, rfl, h⟩
theorem enum_begins1 {prog : Program} {w : World} {A : Around} {E : Value → Shared → Prop} {s : Shared} {v : Value} {o : Obj} {H : Heap → Prop} {Q : Value → Shared → Prop} (B : Begins v o H) (h1 : H s.heap)
    (h : ∀ h', IsEnum h' (s.heap.objs.size + 1) s.heap.objs.size 0 .none → h'.get? s.heap.objs.size = some o → h'.objs.size = s.heap.objs.size + 2 →
      (∀ b o, s.heap.get? b = some o → h'.get? b = some o) → Q (.ref (s.heap.objs.size + 1)) { s with heap := h' }) :
    wpAny (model prog w) A (call (.type "enumerate") [v]) Q E s := by
  refine callType_new F.called_enumerate (by decide) (typeCall_enum1 _) (newCall_enum1 _) (fun obj => F.args_object_init_2 obj _) F.entry_enumerate_new
    (meets_enum1 B) ⟨h1, ?_⟩
  have hz : (s.heap.push o).objs.size = s.heap.objs.size + 1 := Heap.size_push ..
  show _ ∧ _
  rw [hz]
  have he : IsEnum ((s.heap.push o).push { cls := .type "enumerate", data := .fields #[.none, .bool false, .ref s.heap.objs.size, rawInt 0, .none, .none] }) (s.heap.objs.size + 1) s.heap.objs.size 0 .none := by
    have := Heap.get?_push_size (s.heap.push o) (o := { cls := .type "enumerate", data := .fields #[.none, .bool false, .ref s.heap.objs.size, rawInt 0, .none, .none] }) rfl
    rw [hz] at this; exact this
  refine ⟨⟨_, he, rfl⟩, h _ he (Heap.get?_push_of_some _ (Heap.get?_push_size _ B.free)) (by rw [Heap.size_push, hz]) fun b o x => Heap.get?_push_of_some _ (Heap.get?_push_of_some _ x)⟩
theorem next_enum_endT {prog : Program} {w : World} {A : Around} {E : Value → Shared → Prop} {s : Shared} {e it t : Addr} {items : Array Value} {n : Nat} {i : Int} {old : Value} {Q : Option Value → Shared → Prop} (hh : A.handled = none) (he : IsEnum s.heap e it i old) (hit : s.heap.IsTupleIter it t n) (ht : s.heap.IsTuple t items) (hx : items[n]? = none)
    (hQ : ∀ h', Heap.ExtBut it s.heap h' → Q none { s with heap := h' }) : wpAny (model prog w) A (pyNext (.ref e)) Q E s := by
  have hT : s.TypeIs (.ref e) "enumerate" := ⟨_, he, rfl⟩
  unfold pyNext
  refine wpAny_bind (wpAny_attempt (wpAny_callSpecial?_slot (name := Str.ofString "__next__") hT F.slot_enumerate_next
    (wpAny_call_entry F.slot_enumerate_next hT F.entry_enumerate_next ?_ (F.args_enumerate_next_1 _))))
  show wpAny _ _ (field (.ref e) 2 >>= _) _ _ _
  refine wpAny_bind (wpAny_field he rfl (x := .ref it) rfl ?_)
  refine wpAny_bind (wpAny_nextOf_tuple_end (A := A.in1) hh hit ht hx fun h' x he' hx' => ?_)
  obtain ⟨o, ho, hc⟩ := hx'
  refine wpAny_bind (wpAny_isInstance (T := "StopIteration") (b := true) ⟨o, ho, hc⟩ isSubtype_stop ?_)
  exact wpAny_pure (hQ _ he')
def IteT (K : PySem.W.Frag) (a : Addr) : It :=
  ⟨fun i H => ∃ (xs : List V) (x : V), SqT K H a xs ∧ xs[i]? = some x, fun i H v H' => ∃ T x, v = .ref T ∧ H T = none ∧ H' = upd H T (.tup [.int (i : Nat), x]) ∧ ∀ xs, SqT K H a xs → xs[i]? = some x, fun i H => ∃ xs : List V, SqT K H a xs ∧ xs.length ≤ i⟩
theorem turn_enumT {P : Program} {w : World} {K : PySem.W.Frag} {elts : List Expr} {kk : Nat} {tpos : Pos} (a e it : Addr) :
    Turn P w K (.Tuple elts kk tpos) (IteT K a) [e, it] e (fun i h => (∃ old, IsEnum h e it ((i : Nat) : Int) old) ∧ h.IsTupleIter it a i ∧ e ≠ it ∧ a ≠ it ∧ a ≠ e) where
  mem := by simp
  obj := fun i h st b hb => by
    obtain ⟨⟨old, he⟩, ⟨o, ho, hc, hd⟩, _⟩ := st
    have e' : b = e ∨ b = it := by simpa using hb
    rcases e' with z | z
    · rw [z]; exact ⟨_, he, fun v q => nomatch q⟩
    · rw [z]; exact ⟨o, ho, fun v q => by rw [hd] at q; cases q⟩
  keep := fun i h h' st k => let ⟨⟨old, he⟩, hi, hne⟩ := st; ⟨⟨old, k e (by simp) _ he⟩, hi.at fun o q => k it (by simp) o q, hne⟩
  item := by
    intro X hP hw hK hc i pins s σ H E I hf st hg
    subst hP hw hK
    obtain ⟨⟨old, he⟩, hit, hne, hai, hae⟩ := st
    obtain ⟨xs, x, hq, hx⟩ := hg
    obtain ⟨its, rv, p, hz⟩ := I.tuple hq
    obtain ⟨u, hu, ru⟩ := rv.get hx
    have hel : e < s.heap.objs.size := Heap.lt_size he
    have hil : it < s.heap.objs.size := by obtain ⟨_, q, _⟩ := hit; exact Heap.lt_size q
    have hlt : i < its.toArray.size := by
      have := (List.getElem?_eq_some_iff.mp hu).1
      simpa using this
    refine wpAny_pyNext_enum_itemD (Draws.tuple (A := X.A.in1) (I.ok.hd hc) it a hai its.toArray) he ⟨hit, p⟩ hlt hne (by simp [hne, Ne.symm hae]) fun x' h' tk hPx ho hst hT hsz hk => ?_
    have ex : x' = u := by
      have h2 : its.toArray[i]? = some u := by simpa using hu
      rw [h2] at hPx
      exact (Option.some.inj hPx).symm
    subst ex
    refine ⟨_, rfl, wpAny_letOwnedTupleGo_enum (s := { s with heap := h', toks := tk + 1 }) ho fun h'' he' sb => ?_⟩
    have hT2 : h''.get? s.heap.objs.size = some { cls := .type "tuple", data := .seq #[.int i tk, x'] } := (sb.2 _ (Nat.ne_of_gt hel)).trans hT
    have new : ObjOk X.prog X.w (upd H s.heap.objs.size (.tup [.int (i : Nat), x])) h'' s.heap.objs.size (.tup [.int (i : Nat), x]) :=
      ⟨by show 2 ≤ sizeLine; decide, [.int i tk, x'], .cons ⟨_, rfl⟩ (.cons ru .nil), ⟨_, hT2, rfl, _, rfl⟩⟩
    have I1 : L2.Inv X pins σ (upd H s.heap.objs.size (.tup [.int (i : Nat), x])) { s with heap := h'', toks := tk + 1 } :=
      I.turnedNew (ch := [e, it]) (fun b ob hb q => (sb.2 b (fun z => hb (by simp [z]))).trans (hk b ob (fun z => hb (by simp [z])) (fun z => hb (by simp [z])) q)) hf (Nat.le_refl _) new
    refine ⟨.ref s.heap.objs.size, _, I1, rfl, ⟨_, x, rfl, I.hok.fresh (Nat.le_refl _), rfl, fun ys hy => by rw [I.tuple_inj hy hq]; exact hx⟩, ⟨⟨x', ?_⟩, hst.1.at fun o q => (sb.2 it (Ne.symm hne)).trans q, hne, hai, hae⟩, fun b hb => ?_⟩
    · have e1 : ((i + 1 : Nat) : Int) = (i : Int) + 1 := by omega
      rw [e1]; exact he'
    · have hb' : b < s.heap.objs.size := by
        have e' : b = e ∨ b = it := by simpa using hb
        rcases e' with z | z
        · rw [z]; exact hel
        · rw [z]; exact hil
      rw [upd_ne (Nat.ne_of_lt hb')]
      exact (hf b hb).1
  done := by
    intro X hP hw hK hc i pins s σ H E I hf st hg
    subst hP hw hK
    obtain ⟨⟨old, he⟩, hit, hne, hai, hae⟩ := st
    obtain ⟨xs, hq, hx⟩ := hg
    obtain ⟨its, rv, p, hz⟩ := I.tuple hq
    obtain ⟨f0, f1, f2, f3, f4, f5⟩ := hf it (by simp)
    have hl := rv.length
    exact next_enum_endT (I.ok.hd hc) he hit p (by simp; omega) fun h' eb => ⟨rfl, I.turned (t' := s.toks) (fun b o hb q => eb b o hb q) f0 f1 f3 f4 f5⟩
  self := fun A i s Q E st h => let ⟨⟨_, he⟩, _⟩ := st; wpAny_pyIter_enum he h
def iEnumT (K : PySem.W.Frag) (ta : TA) : TI := fun σ H R => ta σ H fun vs H1 => ∃ a xs, vs = [.ref a] ∧ SqT K H1 a xs ∧ R (IteT K a) H1
theorem pi_enumT {X : Cx} {e : Expr} {ta : TA} {p pos tpos : Pos} {elts : List Expr} {kk : Nat} (hg : Gl X "enumerate") (hm : X.mg "enumerate" = none) (ha : PA X [e] ta) (hs : starEach [e] X.env = [(false, eval e X.env)] := by rfl) :
    PI X (.Tuple elts kk tpos) (.Call (.Name "enumerate" p) [e] [] pos) (iEnumT X.K ta) := by
  refine ⟨fun pins s σ H R I h => ?_⟩
  refine PyProof.Rows.Call_ (ld_blt I hg hm PyProof.Rows.boot_enumerate (PyProof.Rows.callWith_type1 (thn (ha.run pos pins s σ H _ I h) fun us s1 ⟨vs, H1, I1, r1, q1⟩ => ?_) hs rfl))
  obtain ⟨a, xs, ex, hq, q⟩ := q1
  subst ex
  cases r1 with
  | cons r rr =>
    cases rr
    cases r
    obtain ⟨its, rv, p', hz⟩ := I1.tuple hq
    refine enum_begins1 (begins_tuple a its.toArray) p' fun h' he hit hsz hk => wpAny_pyIter_enum he ?_
    have I2 : L2.Inv X pins σ H1 { s1 with heap := h' } := I1.kept (t' := s1.toks) hk
    have hal : a < s1.heap.objs.size := by obtain ⟨o, ho, _⟩ := p'; exact Heap.lt_size ho
    refine ⟨s1.heap.objs.size + 1, [s1.heap.objs.size + 1, s1.heap.objs.size], _, _, H1, rfl, I2, turn_enumT a (s1.heap.objs.size + 1) s1.heap.objs.size, ⟨⟨.none, he⟩, ⟨_, hit, rfl, rfl⟩, Nat.succ_ne_self _, Nat.ne_of_lt hal, Nat.ne_of_lt (Nat.lt_succ_of_lt hal)⟩, fun b hb => ?_, q⟩
    have e' : b = s1.heap.objs.size + 1 ∨ b = s1.heap.objs.size := by simpa using hb
    have hle : s1.heap.objs.size ≤ b := by
      rcases e' with z | z
      · rw [z]; exact Nat.le_add_right _ _
      · rw [z]; exact Nat.le_refl _
    exact I1.fpOk hle (I1.hok.fresh hle)
/-! as rules -/
def enumD (ds : List D) : List D := ds.mapIdx fun i d => .tup [.int (i : Nat), d]
theorem jok_enumT {K : PySem.W.Frag} {L : List Addr} {G : Hp} {a : Addr} {vs : List V} {ds : List D} (q : SqT K G a vs) (r : Reps K L G ds vs) : JOk K (IteT K a) L G (enumD ds) where
  go := fun L2 G2 H2 μ2 i d pr sg o e => by
    have q2 : SqT K H2 a vs := Same.sqT (sg.trans o.sub) q
    unfold enumD at e
    rw [List.getElem?_mapIdx] at e
    obtain ⟨d1, e1, rfl⟩ := Option.map_eq_some_iff.mp e
    obtain ⟨v, ev, rv⟩ := r.get e1
    exact ⟨⟨vs, v, q2, ev⟩, fun x H3 ⟨T, x1, ex, hT, e3, y⟩ => by
      subst e3
      subst ex
      have h1 := y vs q2
      rw [ev] at h1
      cases h1
      obtain ⟨o', s'⟩ := o.new (o := .tup [.int (i : Nat), v]) hT
      exact ⟨_, s', o', rep_tup.mpr ⟨T, [.int (i : Nat), v], rfl, SqT.of upd_same, Reps.cons (rep_int.mpr rfl) (Reps.cons ((rv.mono pr sg).step s') Reps.nil)⟩⟩⟩
  stop := fun L2 G2 H2 μ2 pr sg o => ⟨vs, Same.sqT (sg.trans o.sub) q, by
    rw [r.length]
    unfold enumD
    rw [List.length_mapIdx]
    exact Nat.le_refl _⟩
section
variable {X : Cx} {W : WX} {ρ : Env'} {μ : List M} {e : Expr} {elts : List Expr} {kk : Nat} {tpos p pos : Pos} {QA : KA} {Z : KX}
/-- for .., .. in enumerate(tuple) -/
theorem wI_enumT (hm : X.mg "enumerate" = none) (h : wA X W ρ μ [e] (fun ds μ1 => ∃ xs, ds = [.tup xs] ∧ QA (enumD xs) μ1) Z) (hg : Gl X "enumerate" := by rfl)
    (hs : starEach [e] X.env = [(false, eval e X.env)] := by rfl) : wI X W ρ μ (.Tuple elts kk tpos) (.Call (.Name "enumerate" p) [e] [] pos) QA Z :=
  ⟨pi_of (pi_enumT hg hm h.run hs) fun σ H R ⟨L, G, n, v, x⟩ => ⟨L, G, n, fun ds μ1 ⟨xs, ed, q⟩ us L1 G1 H1 s1 o1 r1 => by
    subst ed
    obtain ⟨u1, rfl, ra⟩ := r1.one
    obtain ⟨a, vs, rfl, hq, rr⟩ := rep_tup.mp ra
    exact ⟨a, vs, rfl, Same.sqT o1.sub hq, v _ μ1 q _ L1 G1 H1 s1 o1 (jok_enumT hq rr)⟩, x⟩⟩
end
end PM

set_option Elab.async false
set_option linter.all false
set_option maxRecDepth 100000
set_option maxHeartbeats 4000000
namespace PM
open PySem L2
/-! ### lists made, emptied; len and subscripts of own instances -/
/-- a list or a tuple, a tree or in the store -/
abbrev Sqd (μ : List M) (d : D) (ds : List D) : Prop := d = .lst ds ∨ d = .tup ds ∨ ∃ n : Nat, d = .loc n ∧ μ[n]? = some (.lst ds)
section
variable {X : Cx} {W : WX} {k : Nat} {ρ : Env'} {μ : List M} {o e a b : Expr} {d : D} {ds : List D} {apos pos : Pos} {Q : KV} {Z : KX} {n : Nat}
theorem Sqd.at_ {K : PySem.W.Frag} {L : List Addr} {G H : Hp} {v : V} (c : Sqd μ d ds) (ok : Ok K L G H μ) (r : Rep K L G d v) : ∃ p vs, v = .ref p ∧ (SqL K H p vs ∨ SqT K H p vs) ∧ Reps K L G ds vs := by
  rcases c with rfl | rfl | ⟨n, rfl, hn⟩
  · obtain ⟨p, vs, e, q, rr⟩ := rep_lst.mp r
    exact ⟨p, vs, e, .inl (SqL.of (ok.sub _ _ q)), rr⟩
  · obtain ⟨p, vs, e, q, rr⟩ := rep_tup.mp r
    exact ⟨p, vs, e, .inr (Same.sqT ok.sub q), rr⟩
  · obtain ⟨p, ea, e⟩ := rep_loc.mp r
    obtain ⟨vs, eh, rr⟩ := ok.at_ n p _ ea hn
    exact ⟨p, vs, e, .inl (SqL.of eh), rr⟩
/-- list(..), a tree -/
theorem wF_list (c : Sqd μ d ds) (h : Q (.lst ds) μ) : wF X W (fun us => call (.type "list") us) [d] μ Q Z :=
  .ofV (callO_of call_list_of fun σ xs H Q L G o r co => by
    obtain ⟨v, rfl, r1⟩ := r.one
    obtain ⟨p, vs, rfl, hq, rr⟩ := c.at_ o r1
    refine ⟨p, vs, rfl, hq, fun l hl => ?_⟩
    obtain ⟨o', s'⟩ := o.new (o := .lst vs) hl
    exact co _ L _ _ s' o' (rep_lst.mpr ⟨l, vs, rfl, upd_same, rr.step s'⟩)) h
/-- list(..), in the store -/
theorem wF_listM (c : Sqd μ d ds) (h : Q (.loc μ.length) (μ ++ [.lst ds])) : wF X W (fun us => call (.type "list") us) [d] μ Q Z :=
  .ofV (callO_of call_list_of fun σ xs H Q L G o r co => by
    obtain ⟨v, rfl, r1⟩ := r.one
    obtain ⟨p, vs, rfl, hq, rr⟩ := c.at_ o r1
    refine ⟨p, vs, rfl, hq, fun l hl => ?_⟩
    obtain ⟨o', s'⟩ := o.alloc (o := .lst vs) (m := .lst ds) hl ⟨vs, upd_same, rr.mono .app (.refl _)⟩
    exact co _ _ _ _ s' o' (rep_loc.mpr ⟨l, by rw [← o.len]; exact last_get L l, rfl⟩)) h
end
section
variable {X : Cx} {W : WX} {k j : Nat} {ps : List Str} {R : Rl} {f C : Addr} {fd : FuncData} {μ μ2 : List M} {ns : List Str} {fs : List D} {i : Int}
end
section
variable {X : Cx} {W : WX} {k : Nat} {ρ : Env'} {μ : List M} {a b : Expr} {pos : Pos} {Q : KV} {Z : KX} {C : Addr}
end
section
variable {X : Cx} {W : WX} {ρ : Env'} {μ : List M} {a b c : Expr} {pos : Pos} {QT : KT} {Z : KX}
/-- a op b op' c, a test -/
theorem wC_cmp2 {op op' : CmpOp} (h : wE X W ρ μ a (fun da μ1 => wE X W ρ μ1 b (fun db μ2 => wB X W (compareOp op) da db μ2 (fun d μ3 => ∃ k, d = .bl k ∧ if k = true then wE X W ρ μ3 c (fun dc μ4 => wB X W (compareOp op') db dc μ4 (fun d μ5 => ∃ k', d = .bl k' ∧ QT k' μ5) Z) Z else QT false μ3) Z) Z) Z)
    (hm : lastMarks [op, op'] [b, c] = false := by with_unfolding_all rfl) : wC X W ρ μ (.Compare a [op, op'] [b, c] pos) QT Z := by
  refine ⟨⟨fun pins s σ H R I ⟨L, G, n, v, x⟩ => ?_⟩⟩
  refine PyProof.Rows.isTrue_chain (thn (h.go I n x) fun u s1 ⟨y, da, μ1, L1, G1, H1, I1, ry, hb, st1, o1, r1⟩ => PyProof.Rows.test_link (thn (hb.go I1 (n.step st1 o1) (x.step st1)) fun u2 s2 ⟨y2, db, μ2, L2, G2, H2, I2, ry2, ho, st2, o2, r2⟩ => ?_)) hm
  refine thn (ho.run pins s2 σ H2 y y2 u u2 (fun z H' => ∃ k μ3 L3 G3, z = .bl k ∧ Step L2 G2 H2 L3 G3 H' ∧ Ok X.K L3 G3 H' μ3 ∧ if k = true then wE X W ρ μ3 c (fun dc μ4 => wB X W (compareOp op') db dc μ4 (fun d μ5 => ∃ k', d = .bl k' ∧ QT k' μ5) Z) Z else QT false μ3) L2 G2 I2 ry ry2 o2 (r1.step st2) r2 (fun d μ3 ⟨k, e, q⟩ w L3 G3 H3 st3 o3 r3 => by
      subst e
      exact ⟨k, μ3, L3, G3, rep_bl.mp r3, st3, o3, q⟩) (x.step (st1.trans st2))) fun z s3 ⟨y3, H3, I3, r3, k, μ3, L3, G3, e3, st3, o3, q3⟩ => ?_
  subst e3
  cases r3
  refine wpAny_truthy_bool ?_
  cases k with
  | false =>
    rw [if_neg Bool.false_ne_true] at q3 ⊢
    exact ⟨H3, I3, v false μ3 q3 L3 G3 H3 ((st1.trans st2).trans st3) o3⟩
  | true =>
    rw [if_pos rfl] at q3 ⊢
    have st := (st1.trans st2).trans st3
    refine PyProof.Rows.test_last (thn (q3.go I3 (n.step st o3) (x.step st)) fun u4 s4 ⟨y4, dc, μ4, L4, G4, H4, I4, ry4, ho4, st4, o4, r4⟩ => ?_)
    refine thn (ho4.run pins s4 σ H4 y2 y4 u2 u4 (fun z H' => ∃ k, z = .bl k ∧ R k H') L4 G4 I4 ry2 ry4 o4 ((r2.step st3).step st4) r4 (fun d μ5 ⟨k, e, q⟩ w L5 G5 H5 st5 o5 r5 => by
      subst e
      exact ⟨k, rep_bl.mp r5, v k μ5 q L5 G5 H5 ((st.trans st4).trans st5) o5⟩) (x.step (st.trans st4))) fun z s5 ⟨y5, H5, I5, r5, k, e5, q5⟩ => ?_
    subst e5
    cases r5
    exact wpAny_truthy_bool ⟨H5, I5, q5⟩
end
/-! a branch -/
theorem hdI {c : Prop} {i : Decidable c} {a b : Prop} (h : @ite Prop c i a b) : @ite Prop c i a b := h
theorem iteTT {i : Decidable (true = true)} {a b : Prop} (h : a) : @ite Prop (true = true) i a b := by rw [if_pos rfl]; exact h
theorem iteFT {i : Decidable (false = true)} {a b : Prop} (h : b) : @ite Prop (false = true) i a b := by rw [if_neg Bool.false_ne_true]; exact h
theorem iteNT {i : Decidable ((!true) = true)} {a b : Prop} (h : b) : @ite Prop ((!true) = true) i a b := by rw [if_neg (show ¬ ((!true) = true) from Bool.false_ne_true)]; exact h
theorem iteNF {i : Decidable ((!false) = true)} {a b : Prop} (h : a) : @ite Prop ((!false) = true) i a b := by rw [if_pos (show (!false) = true from rfl)]; exact h
theorem hdN1 {d : D} {i : Decidable (d.isN = true)} {a b : Prop} (h : @ite Prop (d.isN = true) i a b) : @ite Prop (d.isN = true) i a b := h
theorem hdN2 {d : D} {i : Decidable ((!d.isN) = true)} {a b : Prop} (h : @ite Prop ((!d.isN) = true) i a b) : @ite Prop ((!d.isN) = true) i a b := h
end PM

set_option Elab.async false
set_option linter.all false
set_option maxRecDepth 100000
set_option maxHeartbeats 1000000
namespace PM
/-! pools that run together, by moments and volumes -/
abbrev P2 : Type := Int × Int
def mrg (a b : P2) : P2 := (a.1 + b.1, a.2 + b.2)
/-- moments crossed: above 0 if b is right of a -/
def crs (a b : P2) : Int := b.1 * a.2 - a.1 * b.2
def wid (a b : P2) : Int := a.2 * b.2 * (a.2 + b.2)
def Tou (a b : P2) : Prop := 2 * crs a b ≤ wid a b ∧ -(2 * crs a b) ≤ wid a b
/-- b is right of a and apart -/
def Apt (a b : P2) : Prop := wid a b < 2 * crs a b
theorem mrg_comm (a b : P2) : mrg a b = mrg b a := by
  unfold mrg
  rw [Int.add_comm a.1, Int.add_comm a.2]
theorem mrg_assoc (a b c : P2) : mrg (mrg a b) c = mrg a (mrg b c) := by
  unfold mrg
  simp only [Int.add_assoc]
theorem Tou.symm {a b : P2} (h : Tou a b) : Tou b a := by
  obtain ⟨h1, h2⟩ := h
  unfold crs wid at h1 h2
  unfold Tou crs wid
  constructor <;> grind
/-- what touches a part touches the whole -/
theorem Tou.mrg {a b c : P2} (ha : 0 < a.2) (hb : 0 < b.2) (hc : 0 < c.2) (h1 : Tou a b) (h2 : Tou a c) : Tou (PM.mrg a b) c := by
  obtain ⟨m1, v1⟩ := a
  obtain ⟨m2, v2⟩ := b
  obtain ⟨m3, v3⟩ := c
  obtain ⟨p1, p2⟩ := h1
  obtain ⟨q1, q2⟩ := h2
  simp only [Tou, PM.mrg, crs, wid] at *
  have key : v1 * (m3 * (v1 + v2) - (m1 + m2) * v3) = (v1 + v2) * (m3 * v1 - m1 * v3) - v3 * (m2 * v1 - m1 * v2) := by grind
  have s : 0 ≤ v1 + v2 := by omega
  have t : 0 ≤ v3 := by omega
  have a1 := Int.mul_le_mul_of_nonneg_left q1 s
  have a2 := Int.mul_le_mul_of_nonneg_left q2 s
  have b1 := Int.mul_le_mul_of_nonneg_left p1 t
  have b2 := Int.mul_le_mul_of_nonneg_left p2 t
  constructor
  · refine Int.le_of_mul_le_mul_left ?_ ha
    grind
  · refine Int.le_of_mul_le_mul_left ?_ ha
    grind
theorem Apt.not {a b : P2} (h : Apt a b) : ¬ Tou a b := fun z => by
  have := z.1
  unfold Apt at h
  omega
theorem Apt.pos {a b : P2} (ha : 0 < a.2) (hb : 0 < b.2) (h : Apt a b) : 0 < crs a b := by
  have : 0 < wid a b := Int.mul_pos (Int.mul_pos ha hb) (by omega)
  unfold Apt at h
  omega
/-! ### runs -/
def Psv (xs : List P2) : Prop := ∀ p ∈ xs, 0 < p.2
def Stp (xs ys : List P2) : Prop := ∃ a b r, xs.Perm (a :: b :: r) ∧ Tou a b ∧ ys.Perm (mrg a b :: r)
inductive Runs : List P2 → List P2 → Prop
  | refl {xs ys : List P2} (h : xs.Perm ys) : Runs xs ys
  | step {xs ys zs : List P2} (h : Stp xs ys) (t : Runs ys zs) : Runs xs zs
def Nrm (xs : List P2) : Prop := ∀ a b r, xs.Perm (a :: b :: r) → ¬ Tou a b
theorem Psv.perm {xs ys : List P2} (h : Psv xs) (p : xs.Perm ys) : Psv ys := fun q hq => h q (p.mem_iff.mpr hq)
theorem Stp.perm {xs xs' ys : List P2} (h : Stp xs ys) (p : xs'.Perm xs) : Stp xs' ys := let ⟨a, b, r, h1, h2, h3⟩ := h; ⟨a, b, r, p.trans h1, h2, h3⟩
theorem Runs.perm {xs xs' ys : List P2} (h : Runs xs ys) (p : xs'.Perm xs) : Runs xs' ys := by
  cases h with
  | refl q => exact .refl (p.trans q)
  | step s t => exact .step (s.perm p) t
theorem Runs.trans {xs ys zs : List P2} (h : Runs xs ys) (t : Runs ys zs) : Runs xs zs := by
  induction h with
  | refl q => exact t.perm q
  | step s _ ih => exact .step s (ih t)
theorem Stp.pos {xs ys : List P2} (h : Stp xs ys) (p : Psv xs) : Psv ys := by
  obtain ⟨a, b, r, h1, h2, h3⟩ := h
  have q := p.perm h1
  refine Psv.perm (fun z hz => ?_) h3.symm
  rcases List.mem_cons.mp hz with rfl | hz
  · have := q a (by simp)
    have := q b (by simp)
    show 0 < a.2 + b.2
    omega
  · exact q z (by simp [hz])
theorem Runs.pos {xs ys : List P2} (h : Runs xs ys) (p : Psv xs) : Psv ys := by
  induction h with
  | refl q => exact p.perm q
  | step s _ ih => exact ih (s.pos p)
theorem Stp.len {xs ys : List P2} (h : Stp xs ys) : xs.length = ys.length + 1 := by
  obtain ⟨a, b, r, h1, _, h3⟩ := h
  rw [h1.length_eq, h3.length_eq]
  rfl
/-- two pairs that share one pool -/
theorem diam1 {a b d : P2} {r : List P2} (p : Psv (a :: b :: d :: r)) (h1 : Tou a b) (h2 : Tou a d) : ∃ z, Stp (mrg a b :: d :: r) z ∧ Stp (mrg a d :: b :: r) z := by
  have pa := p a (by simp)
  have pb := p b (by simp)
  have pd := p d (by simp)
  refine ⟨mrg (mrg a b) d :: r, ⟨_, _, r, .refl _, h1.mrg pa pb pd h2, .refl _⟩, ⟨_, _, r, .refl _, h2.mrg pa pd pb h1, ?_⟩⟩
  rw [mrg_assoc, mrg_assoc, mrg_comm b d]
theorem diam {xs y1 y2 : List P2} (p : Psv xs) (s1 : Stp xs y1) (s2 : Stp xs y2) : y1.Perm y2 ∨ ∃ z, Stp y1 z ∧ Stp y2 z := by
  obtain ⟨a, b, r, e1, t1, f1⟩ := s1
  obtain ⟨c, d, r', e2, t2, f2⟩ := s2
  -- one pool in common, named a
  have shared : ∀ {a b d : P2} {r r' : List P2}, Psv (a :: b :: r) → Tou a b → Tou a d → (b :: r).Perm (d :: r') → (mrg a b :: r).Perm (mrg a d :: r') ∨ ∃ z, Stp (mrg a b :: r) z ∧ Stp (mrg a d :: r') z := by
    intro a b d r r' p t1 t2 e
    have hd : d ∈ b :: r := e.mem_iff.mpr (by simp)
    rcases List.mem_cons.mp hd with rfl | hd
    · exact .inl ((List.Perm.cons_inv e).cons _)
    · obtain ⟨r2, hr⟩ : ∃ r2, r.Perm (d :: r2) := ⟨r.erase d, List.perm_cons_erase hd⟩
      have e' : (d :: b :: r2).Perm (d :: r') := (List.Perm.swap b d r2).trans ((hr.symm.cons b).trans e) |> fun h => h
      have er : (b :: r2).Perm r' := List.Perm.cons_inv e'
      have p' : Psv (a :: b :: d :: r2) := p.perm ((hr.cons b).cons a)
      obtain ⟨z, z1, z2⟩ := diam1 p' t1 t2
      exact .inr ⟨z, z1.perm (hr.cons _), z2.perm (er.symm.cons _)⟩
  have lift : ∀ {u1 u2 : List P2}, y1.Perm u1 → y2.Perm u2 → (u1.Perm u2 ∨ ∃ z, Stp u1 z ∧ Stp u2 z) → (y1.Perm y2 ∨ ∃ z, Stp y1 z ∧ Stp y2 z) := by
    intro u1 u2 h1 h2 h
    rcases h with h | ⟨z, z1, z2⟩
    · exact .inl (h1.trans (h.trans h2.symm))
    · exact .inr ⟨z, z1.perm h1, z2.perm h2⟩
  have e : (a :: b :: r).Perm (c :: d :: r') := e1.symm.trans e2
  have pp : Psv (a :: b :: r) := p.perm e1
  have hc : c ∈ a :: b :: r := e.mem_iff.mpr (by simp)
  rcases List.mem_cons.mp hc with rfl | hc
  · exact lift f1 f2 (shared pp t1 t2 (List.Perm.cons_inv e))
  rcases List.mem_cons.mp hc with rfl | hc
  · have pp' : Psv (c :: a :: r) := pp.perm (List.Perm.swap c a r)
    have e' : (a :: r).Perm (d :: r') := List.Perm.cons_inv ((List.Perm.swap a c r).trans e)
    rw [mrg_comm] at f1
    exact lift f1 f2 (shared pp' t1.symm t2 e')
  · obtain ⟨r1, hr⟩ : ∃ r1, r.Perm (c :: r1) := ⟨r.erase c, List.perm_cons_erase hc⟩
    have e' : (a :: b :: r1).Perm (d :: r') := by
      have : (c :: a :: b :: r1).Perm (c :: d :: r') := by
        refine List.Perm.trans ?_ e
        refine List.Perm.trans ?_ ((hr.symm.cons b).cons a)
        exact (List.Perm.swap a c (b :: r1)).trans ((List.Perm.swap b c r1).cons a)
      exact List.Perm.cons_inv this
    have f1' : y1.Perm (mrg a b :: c :: r1) := f1.trans (hr.cons _)
    have hd : d ∈ a :: b :: r1 := e'.mem_iff.mpr (by simp)
    have ppc : Psv (a :: b :: c :: r1) := pp.perm ((hr.cons b).cons a)
    rcases List.mem_cons.mp hd with rfl | hd
    · -- pairs (d, b) and (c, d)
      have er : (b :: r1).Perm r' := List.Perm.cons_inv e'
      obtain ⟨z, z1, z2⟩ := diam1 ppc t1 t2.symm
      rw [mrg_comm] at f2
      exact .inr ⟨z, z1.perm f1', z2.perm (f2.trans (er.symm.cons _))⟩
    rcases List.mem_cons.mp hd with rfl | hd
    · have er : (a :: r1).Perm r' := List.Perm.cons_inv ((List.Perm.swap a d r1).trans e')
      have pq : Psv (d :: a :: c :: r1) := ppc.perm (List.Perm.swap d a (c :: r1))
      obtain ⟨z, z1, z2⟩ := diam1 pq t1.symm t2.symm
      rw [mrg_comm] at f2 f1'
      exact .inr ⟨z, z1.perm f1', z2.perm (f2.trans (er.symm.cons _))⟩
    · obtain ⟨r2, hr2⟩ : ∃ r2, r1.Perm (d :: r2) := ⟨r1.erase d, List.perm_cons_erase hd⟩
      have er : (a :: b :: r2).Perm r' := by
        have : (d :: a :: b :: r2).Perm (d :: r') := by
          refine List.Perm.trans ?_ e'
          refine List.Perm.trans ?_ ((hr2.symm.cons b).cons a)
          exact (List.Perm.swap a d (b :: r2)).trans ((List.Perm.swap b d r2).cons a)
        exact List.Perm.cons_inv this
      refine .inr ⟨mrg a b :: mrg c d :: r2, ⟨c, d, mrg a b :: r2, ?_, t2, List.Perm.swap _ _ _⟩, ⟨a, b, mrg c d :: r2, ?_, t1, .refl _⟩⟩
      · refine f1'.trans (List.Perm.trans ((hr2.cons c).cons _) ?_)
        exact (List.Perm.swap c (mrg a b) (d :: r2)).trans ((List.Perm.swap d (mrg a b) r2).cons c)
      · refine f2.trans ((er.symm.cons _).trans ?_)
        exact (List.Perm.swap a (mrg c d) (b :: r2)).trans ((List.Perm.swap b (mrg c d) r2).cons a)
theorem nrm_ex : ∀ (n : Nat) (xs : List P2), xs.length = n → ∃ ys, Runs xs ys ∧ Nrm ys := by
  intro n
  induction n with
  | zero =>
    intro xs h
    refine ⟨xs, .refl (.refl _), fun a b r e => ?_⟩
    have := e.length_eq
    simp at this
    omega
  | succ n ih =>
    intro xs h
    by_cases hn : Nrm xs
    · exact ⟨xs, .refl (.refl _), hn⟩
    · have : ∃ a b r, xs.Perm (a :: b :: r) ∧ Tou a b := by
        refine Classical.byContradiction fun z => hn fun a b r e t => z ⟨a, b, r, e, t⟩
      obtain ⟨a, b, r, e, t⟩ := this
      have s : Stp xs (mrg a b :: r) := ⟨a, b, r, e, t, .refl _⟩
      obtain ⟨ys, h1, h2⟩ := ih (mrg a b :: r) (by have := s.len; omega)
      exact ⟨ys, .step s h1, h2⟩
theorem Nrm.perm {xs ys : List P2} (h : Nrm xs) (p : xs.Perm ys) : Nrm ys := fun a b r e => h a b r (p.trans e)
/-- the order does not matter -/
theorem runs_uniq : ∀ (n : Nat) (xs y z : List P2), xs.length = n → Psv xs → Runs xs y → Nrm y → Runs xs z → Nrm z → y.Perm z := by
  intro n
  induction n with
  | zero =>
    intro xs y z hl _ hy _ hz _
    cases hy with
    | step s _ => have := s.len; omega
    | refl p =>
      cases hz with
      | step s _ => have := s.len; omega
      | refl q => exact p.symm.trans q
  | succ n ih =>
    intro xs y z hl hp hy ny hz nz
    cases hy with
    | refl p =>
      cases hz with
      | refl q => exact p.symm.trans q
      | step s _ =>
        obtain ⟨a, b, r, e, t, _⟩ := s
        exact absurd t (ny a b r (p.symm.trans e))
    | step s1 t1 =>
      cases hz with
      | refl q =>
        obtain ⟨a, b, r, e, t, _⟩ := s1
        exact absurd t (nz a b r (q.symm.trans e))
      | step s2 t2 =>
        have l1 := s1.len
        have l2 := s2.len
        rename_i u1 u2
        rcases diam hp s1 s2 with h | ⟨w, w1, w2⟩
        · exact ih _ y z (by omega) (s1.pos hp) t1 ny (t2.perm h) nz
        · obtain ⟨v, v1, v2⟩ := nrm_ex _ w rfl
          have a1 := ih _ y v (by omega) (s1.pos hp) t1 ny (.step w1 v1) v2
          have a2 := ih _ z v (by omega) (s2.pos hp) t2 nz (.step w2 v1) v2
          exact a1.trans a2.symm
/-! ### ascending and apart -/
def Asc (xs : List P2) : Prop := xs.Pairwise Apt
theorem Asc.nrm {xs : List P2} (h : Asc xs) : Nrm xs := fun a b r e t => by
  have h2 : (a :: b :: r).Pairwise (fun p q => ¬ Tou p q) := (List.Pairwise.imp (fun h => h.not) h : xs.Pairwise fun p q => ¬ Tou p q).perm e (fun h z => h z.symm)
  exact (List.pairwise_cons.mp h2).1 b (by simp) t
theorem asc_uniq {xs y z : List P2} (p : Psv xs) (r1 : Runs xs y) (a1 : Asc y) (r2 : Runs xs z) (a2 : Asc z) : y = z := by
  have h := runs_uniq _ xs y z rfl p r1 a1.nrm r2 a2.nrm
  have py := r1.pos p
  have pz := r2.pos p
  refine h.eq_of_pairwise (le := fun a b => Apt a b) (fun a b ha hb h1 h2 => ?_) a1 a2
  have e1 := h1.pos (py a ha) (pz b hb)
  have e2 := h2.pos (pz b hb) (py a ha)
  unfold crs at e1 e2
  omega
end PM

set_option Elab.async false
set_option linter.all false
set_option maxRecDepth 100000
set_option maxHeartbeats 1000000
namespace PM
section
variable {m v m' v' u : Int}
theorem q_dif (hu : 0 < u) (hv : 0 < v) (hv' : 0 < v') : Rat.divInt m' (v' * u) - Rat.divInt m (v * u) = Rat.divInt (m' * v - m * v') (v * v' * u) := by
  have h := cast_ne hu
  have h1 := cast_ne hv
  have h2 := cast_ne hv'
  simp only [Rat.divInt_eq_div, Rat.intCast_sub, Rat.intCast_mul]
  generalize (u : Rat) = U at *
  generalize (v : Rat) = V at *
  generalize (v' : Rat) = V' at *
  grind
theorem q_wid (hu : 0 < u) : (Rat.divInt v u + Rat.divInt v' u) / ((2 : Int) : Rat) = Rat.divInt (v + v') (2 * u) := by
  have h := cast_ne hu
  simp only [Rat.divInt_eq_div, Rat.intCast_add, Rat.intCast_mul]
  generalize (u : Rat) = U at *
  grind
theorem q_mid (hu : 0 < u) (hv : 0 < v) (hv' : 0 < v') : (Rat.divInt m (v * u) * Rat.divInt v u + Rat.divInt m' (v' * u) * Rat.divInt v' u) / (Rat.divInt v u + Rat.divInt v' u) = Rat.divInt (m + m') ((v + v') * u) := by
  have h := cast_ne hu
  have h1 := cast_ne hv
  have h2 := cast_ne hv'
  have h3 : ((v + v' : Int) : Rat) ≠ 0 := cast_ne (by omega)
  simp only [Rat.divInt_eq_div, Rat.intCast_add, Rat.intCast_mul] at *
  generalize (u : Rat) = U at *
  generalize (v : Rat) = V at *
  generalize (v' : Rat) = V' at *
  grind
theorem div_le {a b c d : Int} (hb : 0 < b) (hd : 0 < d) : Rat.divInt a b ≤ Rat.divInt c d ↔ a * d ≤ c * b := by
  rw [Rat.le_iff_sub_nonneg]
  have e : Rat.divInt c d - Rat.divInt a b = Rat.divInt (c * b - a * d) (d * b) := by
    have h1 := cast_ne hb
    have h2 := cast_ne hd
    simp only [Rat.divInt_eq_div, Rat.intCast_sub, Rat.intCast_mul]
    generalize (b : Rat) = B at *
    generalize (d : Rat) = E at *
    grind
  rw [e, Rat.divInt_nonneg_iff_of_pos_right (Int.mul_pos hd hb)]
  omega
/-- the ends of two pools -/
theorem q_ends (hu : 0 < u) (hv : 0 < v) (hv' : 0 < v') : Rat.divInt m' (v' * u) - Rat.divInt v' u / ((2 : Int) : Rat) ≤ Rat.divInt m (v * u) + Rat.divInt v u / ((2 : Int) : Rat) ↔ 2 * (m' * v - m * v') ≤ v * v' * (v + v') := by
  have e : Rat.divInt m' (v' * u) - Rat.divInt v' u / ((2 : Int) : Rat) ≤ Rat.divInt m (v * u) + Rat.divInt v u / ((2 : Int) : Rat) ↔ Rat.divInt m' (v' * u) - Rat.divInt m (v * u) ≤ (Rat.divInt v u + Rat.divInt v' u) / ((2 : Int) : Rat) := by
    generalize Rat.divInt m' (v' * u) = a
    generalize Rat.divInt m (v * u) = b
    generalize Rat.divInt v u = c
    generalize Rat.divInt v' u = d
    constructor <;> intro h <;> grind
  rw [e, q_dif hu hv hv', q_wid hu, div_le (Int.mul_pos (Int.mul_pos hv hv') hu) (by omega)]
  have k : (m' * v - m * v') * (2 * u) = u * (2 * (m' * v - m * v')) := by grind
  have l : (v + v') * (v * v' * u) = u * (v * v' * (v + v')) := by grind
  rw [k, l]
  exact ⟨fun h => Int.le_of_mul_le_mul_left h hu, fun h => Int.mul_le_mul_of_nonneg_left h (by omega)⟩
theorem q_lt (hu : 0 < u) (hv : 0 < v) (hv' : 0 < v') : Rat.divInt m (v * u) < Rat.divInt m' (v' * u) ↔ 0 < m' * v - m * v' := by
  rw [← Rat.not_le, div_le (Int.mul_pos hv' hu) (Int.mul_pos hv hu)]
  have k : m' * (v * u) = u * (m' * v) := by grind
  have l : m * (v' * u) = u * (m * v') := by grind
  rw [k, l]
  have : u * (m' * v) ≤ u * (m * v') ↔ m' * v ≤ m * v' := ⟨fun h => Int.le_of_mul_le_mul_left h hu, fun h => Int.mul_le_mul_of_nonneg_left h (by omega)⟩
  rw [this]
  omega
end
/-! bounds -/
def Sm (xs : List P2) : Int := (xs.map fun p => (p.1.natAbs : Int)).sum
def Sv (xs : List P2) : Int := (xs.map fun p => p.2).sum
/-- all pools of a list together are small enough -/
structure Bnd (xs : List P2) : Prop where
  pos : Psv xs
  sm : Sm xs ≤ 2 ^ 110
  sv : Sv xs ≤ 2 ^ 70
theorem sm_cons {p : P2} {xs : List P2} : Sm (p :: xs) = (p.1.natAbs : Int) + Sm xs := by simp [Sm]
theorem sv_cons {p : P2} {xs : List P2} : Sv (p :: xs) = p.2 + Sv xs := by simp [Sv]
theorem sm_perm {xs ys : List P2} (h : xs.Perm ys) : Sm xs = Sm ys := by
  induction h with
  | nil => rfl
  | cons x _ ih => rw [sm_cons, sm_cons, ih]
  | swap x y l => rw [sm_cons, sm_cons, sm_cons, sm_cons]; omega
  | trans _ _ h1 h2 => exact h1.trans h2
theorem sv_perm {xs ys : List P2} (h : xs.Perm ys) : Sv xs = Sv ys := by
  induction h with
  | nil => rfl
  | cons x _ ih => rw [sv_cons, sv_cons, ih]
  | swap x y l => rw [sv_cons, sv_cons, sv_cons, sv_cons]; omega
  | trans _ _ h1 h2 => exact h1.trans h2
theorem sm_nn : ∀ xs : List P2, 0 ≤ Sm xs
  | [] => by simp [Sm]
  | p :: xs => by rw [sm_cons]; have := sm_nn xs; omega
theorem sv_nn : ∀ {xs : List P2}, Psv xs → 0 ≤ Sv xs
  | [], _ => by simp [Sv]
  | p :: xs, h => by
    rw [sv_cons]
    have h1 := sv_nn (xs := xs) fun q hq => h q (by simp [hq])
    have h2 := h p (by simp)
    omega
theorem Bnd.perm {xs ys : List P2} (h : Bnd xs) (p : xs.Perm ys) : Bnd ys := ⟨h.pos.perm p, by rw [← sm_perm p]; exact h.sm, by rw [← sv_perm p]; exact h.sv⟩
theorem Bnd.tail {p : P2} {xs : List P2} (h : Bnd (p :: xs)) : Bnd xs := by
  obtain ⟨h1, h2, h3⟩ := h
  rw [sm_cons] at h2
  rw [sv_cons] at h3
  have := h1 p (by simp)
  exact ⟨fun q hq => h1 q (by simp [hq]), by omega, by omega⟩
theorem Bnd.head {p : P2} {xs : List P2} (h : Bnd (p :: xs)) : -(2 ^ 110) ≤ p.1 ∧ p.1 ≤ 2 ^ 110 ∧ 0 < p.2 ∧ p.2 ≤ 2 ^ 70 := by
  obtain ⟨h1, h2, h3⟩ := h
  rw [sm_cons] at h2
  rw [sv_cons] at h3
  have a := h1 p (by simp)
  have b := sm_nn xs
  have c := sv_nn (xs := xs) fun q hq => h1 q (by simp [hq])
  exact ⟨by omega, by omega, a, by omega⟩
theorem Bnd.mem {p : P2} {xs : List P2} (h : Bnd xs) (hp : p ∈ xs) : -(2 ^ 110) ≤ p.1 ∧ p.1 ≤ 2 ^ 110 ∧ 0 < p.2 ∧ p.2 ≤ 2 ^ 70 := (h.perm (List.perm_cons_erase hp)).head
theorem Bnd.mrg {a b : P2} {xs : List P2} (h : Bnd (a :: b :: xs)) : Bnd (PM.mrg a b :: xs) := by
  obtain ⟨h1, h2, h3⟩ := h
  rw [sm_cons, sm_cons] at h2
  rw [sv_cons, sv_cons] at h3
  have pa := h1 a (by simp)
  have pb := h1 b (by simp)
  refine ⟨fun q hq => ?_, ?_, ?_⟩
  · rcases List.mem_cons.mp hq with rfl | hq
    · show 0 < a.2 + b.2
      omega
    · exact h1 q (by simp [hq])
  · rw [sm_cons]
    show ((a.1 + b.1).natAbs : Int) + _ ≤ _
    omega
  · rw [sv_cons]
    show a.2 + b.2 + _ ≤ _
    omega
theorem Bnd.runs {xs ys : List P2} (h : Bnd xs) (r : Runs xs ys) : Bnd ys := by
  induction r with
  | refl p => exact h.perm p
  | step s _ ih =>
    obtain ⟨a, b, r, h1, _, h3⟩ := s
    exact ih ((h.perm h1).mrg.perm h3.symm)
end PM

set_option Elab.async false
set_option linter.all false
set_option maxRecDepth 100000
set_option maxHeartbeats 4000000
namespace PM
open PySem L2
/-! ### loops over lists that may lie in the store -/
/-- a list, a tree or in the store -/
abbrev Lqd (μ : List M) (d : D) (ds : List D) : Prop := d = .lst ds ∨ ∃ n : Nat, d = .loc n ∧ μ[n]? = some (.lst ds)
theorem Lqd.at_ {μ : List M} {d : D} {ds : List D} {K : PySem.W.Frag} {L : List Addr} {G H : Hp} {v : V} (c : Lqd μ d ds) (ok : Ok K L G H μ) (r : Rep K L G d v) : ∃ p vs, v = .ref p ∧ SqL K H p vs ∧ Reps K L G ds vs := by
  rcases c with rfl | ⟨n, rfl, hn⟩
  · obtain ⟨p, vs, e, q, rr⟩ := rep_lst.mp r
    exact ⟨p, vs, e, SqL.of (ok.sub _ _ q), rr⟩
  · obtain ⟨p, ea, e⟩ := rep_loc.mp r
    obtain ⟨vs, eh, rr⟩ := ok.at_ n p _ ea hn
    exact ⟨p, vs, e, SqL.of eh, rr⟩
section
variable {K : PySem.W.Frag} {L2 : List Addr} {G2 H2 : Hp} {μ2 : List M} {d x : D} {all : List D} {p : Addr} {i : Nat}
theorem lq_go (c : Lqd μ2 d all) (o : Ok K L2 G2 H2 μ2) (r : Rep K L2 G2 d (.ref p)) (e : all[i]? = some x) : (Itl K p).go i H2 ∧ ∀ y H3, (Itl K p).yld i H2 y H3 → ∃ G3, Step L2 G2 H2 L2 G3 H3 ∧ Ok K L2 G3 H3 μ2 ∧ Rep K L2 G3 x y := by
  obtain ⟨p', vs, ep, hq, rr⟩ := c.at_ o r
  cases ep
  obtain ⟨v, ev, rv⟩ := rr.get e
  exact ⟨⟨vs, v, hq, ev⟩, fun y H3 ⟨e3, h⟩ => by
    subst e3
    have := h vs hq
    rw [ev] at this
    cases this
    exact ⟨G2, .refl _ _ _, o, rv⟩⟩
theorem lq_stop (c : Lqd μ2 d all) (o : Ok K L2 G2 H2 μ2) (r : Rep K L2 G2 d (.ref p)) : (Itl K p).stop all.length H2 := by
  obtain ⟨p', vs, ep, hq, rr⟩ := c.at_ o r
  cases ep
  exact ⟨vs, hq, by rw [rr.length]; exact Nat.le_refl _⟩
end
section
variable {X : Cx} {W : WX} {ρ : Env'} {μ : List M} {tg e : Expr} {pos : Pos} {nx : KN} {κ : Ks}
/-- for .. in l, l may lie in the store (and stays as it is) -/
theorem wS_forS (d0 : D) (all : List D) (Iv : List D → KN) {body : List Stmt} (po : PassesOwn (model X.prog X.w) X.A X.env X.xe) (hc : X.calm = true) (h : wE X W ρ μ e (fun d μ1 => d = d0 ∧ Iv all ρ μ1) (κ.z ρ)) (kp : ∀ ds ρ μ, Iv ds ρ μ → Lqd μ d0 all)
    (hb : ∀ d ds ρ μ, Iv (d :: ds) ρ μ → wG X W ρ μ tg d fun ρ1 μ1 => wSs X W ρ1 μ1 body (Iv ds) { κ with bk := nx, ct := Iv ds }) (hn : ∀ ρ μ, Iv [] ρ μ → nx ρ μ) (hs : ∀ x, foldedSetIterable e X.env x = pure x := by intro _; rfl) : wS X W ρ μ (.For tg e body [] pos) nx κ := by
  refine ⟨ps_of (ps_for po hc (pi_list h.run) aG_ok aSs_ok hs) fun D σ H ⟨L, G, nw, a⟩ => ⟨L, G, nw, fun d μ1 ⟨ed, i0⟩ u L1 G1 H1 s1 o1 r1 => ?_, a.x nw⟩⟩
  subst ed
  obtain ⟨p, vs1, eu, hq1, _⟩ := (kp _ _ _ i0).at_ o1 r1
  subst eu
  refine ⟨p, rfl, ⟨vs1, hq1⟩, ?_⟩
  refine ⟨fun i m σ' H' => m = all.length - i ∧ i ≤ all.length ∧ ∃ ρ' μ' L' G', Iv (all.drop i) ρ' μ' ∧ Pre L1 L' ∧ Same G1 G' ∧ Now X.K L' G' H' μ' ρ' σ' ∧ AccS W X.K L' G' H' D nx κ, ⟨all.length, by simp, Nat.zero_le _, ρ, μ1, L1, G1, by simpa using i0, .refl _, .refl _, nw.step s1 o1, a.step s1⟩, ?_⟩
  rintro i m σ2 H2 ⟨rfl, hil, ρ2, μ2, L2, G2, h2, p2, g2, n2, a2⟩
  have k2 := kp _ _ _ h2
  generalize hd : all.drop i = rest at h2
  cases rest with
  | nil =>
    have : i = all.length := by
      have := congrArg List.length hd
      simp at this
      omega
    subst this
    exact .inl ⟨lq_stop k2 n2.ok (r1.mono p2 g2), a2.nx _ _ (hn _ _ h2) _ L2 G2 H2 (.refl _ _ _) n2⟩
  | cons d ds' =>
    obtain ⟨e1, e2⟩ := drop_cons hd
    obtain ⟨go, yl⟩ := lq_go k2 n2.ok (r1.mono p2 g2) e1
    have il : i < all.length := (List.getElem?_eq_some_iff.mp e1).1
    refine .inr ⟨go, fun σ' H' => ∃ ρ' μ' L' G', Iv ds' ρ' μ' ∧ Pre L1 L' ∧ Same G1 G' ∧ Now X.K L' G' H' μ' ρ' σ' ∧ AccS W X.K L' G' H' D nx κ, fun σ' H' ⟨ρ', μ', L', G', w', p', g', n', a'⟩ => ⟨all.length - (i + 1), by omega, rfl, il, ρ', μ', L', G', by rw [e2]; exact w', p', g', n', a'⟩, fun x H3 y => ?_⟩
    obtain ⟨G3, s3, o3, r3⟩ := yl x H3 y
    refine ⟨_, (hb d ds' ρ2 μ2 h2).run, L2, G3, n2.step s3 o3, r3, fun ρ4 μ4 h4 σ4 L4 G4 H4 s4 n4 => ⟨_, h4.run, L4, G4, n4, ?_⟩⟩
    have a4 := a2.step (s3.trans s4)
    have fin : ∀ ρ5 μ5, Iv ds' ρ5 μ5 → Ends' X.K L4 G4 H4 ρ5 μ5 fun σ' H' => ∃ ρ' μ' L' G', Iv ds' ρ' μ' ∧ Pre L1 L' ∧ Same G1 G' ∧ Now X.K L' G' H' μ' ρ' σ' ∧ AccS W X.K L' G' H' D nx κ :=
      fun ρ5 μ5 w5 σ5 L5 G5 H5 s5 n5 => ⟨ρ5, μ5, L5, G5, w5, (p2.trans s4.pre).trans s5.pre, ((g2.trans s3.gs).trans s4.gs).trans s5.gs, n5, a4.step s5⟩
    exact ⟨fin, a4.nx, fin, a4.rt, a4.xc⟩
end
section
variable {X : Cx} {W : WX} {k : Nat} {N : List Str} {V V' : List Kd} {Gs Gs' : List Str} {ρ ρ' : Env'} {μ μ1 μ2 : List M} {e elt tg iter c : Expr} {es ifs : List Expr} {Q : KV} {Z : KX} {d : D} {ds : List D} {pos : Pos} {x : Str} {scope : Scope} {own : List (Str × Nat)} {vs : List Nat} {nx : Env' → Prop}
/-- y = [..]: the name's own slot is written in one go -/
theorem wS_setLcS (d0 : D) (all : List D) (V' : List Kd) (Gs' : List Str) (own : List (Str × Nat)) (Iv : List D → List D → List M → Prop) {nx : KN} {κ : Ks} {y : Str} {i : Nat} {py spos : Pos} (g : Fx X W k N V Gs) (hy : Il N V y i) {sc : Scope} (hsc : X.env.scope = sc) (ck : ckB N V' Gs' (relabS sc scope) = true) (ok : BlkOk X.N X.env.scope scope own)
    (he : wE X W ρ μ iter (fun d μ1 => d = d0 ∧ all.length ≤ sizeLine ∧ Iv all [] μ1) (κ.z ρ)) (kp : ∀ ds done μ, Iv ds done μ → Lqd μ d0 all)
    (ht : ∀ d ds done μ, Iv (d :: ds) done μ → wTurn X k N V' Gs' scope (own.map (·.2)) tg elt ifs ρ d μ (fun y μ1 => Iv ds (done ++ [y]) μ1) (fun μ1 => Iv ds done μ1))
    (hn : ∀ done μ, Iv [] done μ → wPt N V y (.lst done) ρ (fun ρ' => nx ρ' μ))
    (hkd : X.env.scope.kind = .function := by rfl) (hl : (py.line == pos.line) = true := by rfl) (hnm : (scope.names.any fun (n, k) => n == y && (k == .local || k == .cell)) = false := by decide +kernel)
    (hs : ∀ x, foldedSetIterable iter X.env x = pure x := by intro _; rfl) : wS X W ρ μ (.Assign [.Name y py] (.ListComp elt [⟨tg, iter, ifs, 0⟩] scope pos) spos) nx κ := by
  obtain ⟨e1, l1⟩ := hy.ex g.nm
  have gb : ∀ (s : Shared) (H : Hp) (C : Addr) (cl : List (Str × Addr)) (fp : List Addr), Fx (X.blk s H scope (compEnvC scope cl C X.env) fp) W0 k N V' Gs' := fun s H C cl fp => g.blk (by rw [hsc]; exact ck)
  refine ⟨ps_of (ps_setLc (g := bG X scope tg) (tt := bT X scope ifs) (te := bE X scope elt) g.calm g.nd (by rw [g.N_]; exact e1) l1 (sw_true hkd l1 hl hnm) (pi_list he.run) ok (fun s H C cl fp => ⟨fun pins s' σ H' v u Q I r ⟨t, p, q⟩ => (p s H C cl fp).run pins s' σ H' v u Q I r q⟩)
    (fun s H C cl fp => ⟨fun pins s' σ H' Q I ⟨t, p, q⟩ => (p s H C cl fp).run pins s' σ H' Q I q⟩) (fun s H C cl fp => ⟨fun pins s' σ H' Q I ⟨t, p, q⟩ => (p s H C cl fp).run pins s' σ H' Q I q⟩) hs) fun DD σ H ⟨L, G, nw, ac⟩ => ⟨L, G, nw, fun d μ1 ⟨ed, hl, i0⟩ u L1 G1 H1 s1 o1 r1 => ?_, ac.x nw⟩⟩
  subst ed
  obtain ⟨pp, vs1, eu, hq1, _⟩ := (kp _ _ _ i0).at_ o1 r1
  subst eu
  refine ⟨pp, rfl, ⟨vs1, hq1⟩, fun D hD => ?_⟩
  have oD := (o1.newH (o := .lst []) hD).1
  refine ⟨fun i m H' => m = all.length - i ∧ i ≤ all.length ∧ ∃ done us μ' L' G', Iv (all.drop i) done μ' ∧ H' D = some (.lst us) ∧ Reps X.K L' G' done us ∧ Ok X.K L' G' H' μ' ∧ Step L1 G1 H1 L' G' H' ∧ G' D = none ∧ D ∉ L' ∧ done.length ≤ i,
    ⟨all.length, by simp, Nat.zero_le _, [], [], μ1, L1, G1, i0, upd_same, Reps.nil, oD, (Step.refl L1 G1 H1).poke hD, Same.free o1.sub hD, fun z => mem_ne o1.liv hD D z rfl, Nat.zero_le _⟩, ?_⟩
  rintro i m H2 ⟨rfl, hil, done, us, μ', L2, G2, h2, eD, rd, o2, s2, gD2, nD2, hdi⟩
  have nw2 : ∀ {Lx Gx Hx μx}, Step L2 G2 H2 Lx Gx Hx → Ok X.K Lx Gx Hx μx → Now X.K Lx Gx Hx μx (wipeD ρ (own.map (·.2))) (wipe σ (own.map (·.2))) := fun sx ox => ⟨ox, (nw.env.wipe _).mono ((s1.trans s2).trans sx).pre ((s1.trans s2).trans sx).gs⟩
  have keepD : ∀ {Lx Gx Hx}, Step L2 G2 H2 Lx Gx Hx → Hx D = some (.lst us) ∧ Gx D = none ∧ D ∉ Lx := fun {Lx Gx Hx} sx => by
    refine ⟨sx.hs D _ eD nD2, ?_, fun z => ?_⟩
    · cases e : Gx D with
      | none => rfl
      | some o =>
        rcases sx.gf D o e with q | q
        · rw [gD2] at q; cases q
        · rw [eD] at q; cases q
    · rcases sx.fr D z with q | q
      · exact nD2 q
      · rw [eD] at q; cases q
  generalize hd : all.drop i = dr at h2
  cases dr with
  | nil =>
    have ei : i = all.length := by
      have := congrArg List.length hd
      simp at this
      omega
    subst ei
    refine .inl ⟨lq_stop (kp _ _ _ h2) o2 (r1.mono s2.pre s2.gs), ?_⟩
    obtain ⟨o3, sg⟩ := o2.tell (p := D) (o := .lst us) eD nD2
    have s4 := s1.trans (s2.tell hD sg)
    exact ac.nx _ _ ((hn _ _ h2).set g.nm g.ndN e1) _ L2 _ H2 s4 ⟨o3, (nw.env.step s4).set (rep_lst.mpr ⟨D, us, rfl, upd_same, rd.mono (.refl _) sg⟩) _⟩
  | cons d ds' =>
    obtain ⟨e1, e2⟩ := drop_cons hd
    obtain ⟨go, yl⟩ := lq_go (kp _ _ _ h2) o2 (r1.mono s2.pre s2.gs) e1
    have il : i < all.length := (List.getElem?_eq_some_iff.mp e1).1
    refine .inr ⟨go, fun H' => ∃ done' us' μb L' G', Iv ds' done' μb ∧ H' D = some (.lst us') ∧ Reps X.K L' G' done' us' ∧ Ok X.K L' G' H' μb ∧ Step L1 G1 H1 L' G' H' ∧ G' D = none ∧ D ∉ L' ∧ done'.length ≤ i + 1, fun H' ⟨done', us', μb, L', G', q0, q1, q2, q3, q4, q5, q6, q7⟩ => ⟨all.length - (i + 1), by omega, rfl, il, done', us', μb, L', G', by rw [e2]; exact q0, q1, q2, q3, q4, q5, q6, q7⟩, fun x H3 yy => ?_⟩
    obtain ⟨G3, s3, o3, r3⟩ := yl x H3 yy
    refine ⟨fun v σ H R => ∃ L G, Now X.K L G H μ' (wipeD ρ (own.map (·.2))) σ ∧ Rep X.K L G d v ∧ ∀ ρ', _ → ∀ σ' L' G' H', Step L G H L' G' H' → Now X.K L' G' H' μ' ρ' σ' → wipe σ' (own.map (·.2)) = wipe σ (own.map (·.2)) → R σ' H', fun s H C cl fp => ((ht d ds' done μ' h2) s H C cl fp (gb s H C cl fp)).run, L2, G3, nw2 s3 o3, r3, fun ρ1 h1 σ4 L4 G4 H4 s4 n4 w4 => ⟨by rw [w4, wipe_idem], fun σ H R => ∃ L G, Now X.K L G H μ' ρ1 σ ∧ ∀ b μ5, _ → ComesT X.K L G H b μ5 R, fun s H C cl fp => (h1 s H C cl fp (gb s H C cl fp)).run, L4, G4, n4, fun b μ5 h5 L5 G5 H5 s5 o5 => ?_⟩⟩
    cases b with
    | true =>
      refine iteT ⟨fun σ H R => ∃ L G, Now X.K L G H μ5 ρ1 σ ∧ AccV X.K L G H _ R ∧ AccX W0 X.K L G H σ Z0, fun s H C cl fp => ((show InBlk X k N V' Gs' scope fun Y => wE Y W0 ρ1 μ5 elt _ Z0 from h5) s H C cl fp (gb s H C cl fp)).run, L5, G5, n4.step s5 o5, fun y μ6 h6 v L6 G6 H6 s6 o6 r6 => ?_, fun _ _ _ _ z => z.elim⟩
      have s36 := ((s3.trans s4).trans s5).trans s6
      obtain ⟨k1, k2, k3⟩ := keepD s36
      refine ⟨us, k1, ?_, done ++ [y], us ++ [v], μ6, L6, G6, h6, upd_same, (rd.step s36).append (Reps.cons r6 Reps.nil), o6.poke k3 k2, (s2.trans s36).poke hD, k2, k3, by simp; omega⟩
      rw [rd.length]
      omega
    | false =>
      have s35 := (s3.trans s4).trans s5
      obtain ⟨k1, k2, k3⟩ := keepD s35
      exact iteF ⟨done, us, μ5, L5, G5, h5, k1, rd.step s35, o5, s2.trans s35, k2, k3, by omega⟩
end
end PM

set_option Elab.async false
set_option linter.all false
set_option maxRecDepth 100000
set_option maxHeartbeats 4000000
namespace PM
open PySem L2
/-! ### slices -/
theorem cut_from (xs : List V) (i : Nat) : cutV xs (some (i : Int)) none = xs.drop i := by
  unfold cutV
  rw [HT.sIx_nat, HT.sIx_none]
  by_cases h : i ≤ xs.length
  · rw [Nat.min_eq_left h]
    exact List.take_of_length_le (by simp)
  · rw [Nat.min_eq_right (by omega), List.drop_eq_nil_of_le (Nat.le_refl _), List.drop_eq_nil_of_le (by omega)]
    exact List.take_nil
theorem cut_upto (xs : List V) (i : Nat) : cutV xs none (some (i : Int)) = xs.take i := by
  unfold cutV
  rw [HT.sIx_nat, HT.sIx_none, List.drop_zero, Nat.sub_zero]
  by_cases h : i ≤ xs.length
  · rw [Nat.min_eq_left h]
  · rw [Nat.min_eq_right (by omega), List.take_length, List.take_of_length_le (by omega)]
theorem reps_drop {K : PySem.W.Frag} {L : List Addr} {G : Hp} : ∀ {ds : List D} {vs : List V} (n : Nat), Reps K L G ds vs → Reps K L G (ds.drop n) (vs.drop n)
  | _, _, 0, r => by simpa using r
  | [], vs, n + 1, r => by rw [r.inv_nil]; simpa using Reps.nil
  | d :: ds, vs, n + 1, r => by
    obtain ⟨u, rest, rfl, ra, rb⟩ := r.inv_cons
    simpa using reps_drop n rb
theorem reps_take {K : PySem.W.Frag} {L : List Addr} {G : Hp} : ∀ {ds : List D} {vs : List V} (n : Nat), Reps K L G ds vs → Reps K L G (ds.take n) (vs.take n)
  | _, _, 0, r => by simpa using Reps.nil
  | [], vs, n + 1, r => by rw [r.inv_nil]; simpa using Reps.nil
  | d :: ds, vs, n + 1, r => by
    obtain ⟨u, rest, rfl, ra, rb⟩ := r.inv_cons
    simpa using Reps.cons ra (reps_take n rb)
section
variable {X : Cx} {W : WX} {ρ : Env'} {μ : List M} {e a : Expr} {pos p2 : Pos} {Q : KV} {Z : KX}
/-- l[i:] -/
theorem wE_from (h : wE X W ρ μ e (fun d μ1 => wE X W ρ μ1 a (fun da μ2 => ∃ (i : Nat) (ds : List D), da = .int (i : Nat) ∧ Lqd μ2 d ds ∧ Q (.lst (ds.drop i)) μ2) Z) Z) : wE X W ρ μ (.Subscript e (.Slice (some a) none none p2) pos) Q Z :=
  ⟨pe_of (pe_slice sl_list h.run (po_some aE_ok) po_none) fun σ H R ⟨L, G, n, v, x⟩ => ⟨L, G, n, fun d μ1 h2 u L1 G1 H1 s1 o1 r1 => ⟨_, h2.run, L1, G1, n.step s1 o1, fun da μ2 ⟨i, ds, ea, lq, q⟩ w L2 G2 H2 s2 o2 r2 => by
    subst ea
    obtain ⟨p, vs, eu, hq, rr⟩ := lq.at_ o2 (r1.step s2)
    refine ⟨i, rep_int.mp r2, p, vs, eu, hq, fun l hl => ?_⟩
    rw [cut_from]
    obtain ⟨o3, s3⟩ := o2.new (o := .lst (vs.drop i)) hl
    exact v _ _ q _ L2 _ _ ((s1.trans s2).trans s3) o3 (rep_lst.mpr ⟨l, _, rfl, upd_same, (reps_drop i rr).step s3⟩), x.step s1⟩, x⟩⟩
/-- l[:i] -/
theorem wE_upto (h : wE X W ρ μ e (fun d μ1 => wE X W ρ μ1 a (fun da μ2 => ∃ (i : Nat) (ds : List D), da = .int (i : Nat) ∧ Lqd μ2 d ds ∧ Q (.lst (ds.take i)) μ2) Z) Z) : wE X W ρ μ (.Subscript e (.Slice none (some a) none p2) pos) Q Z :=
  ⟨pe_of (pe_slice sl_list h.run po_none (po_some aE_ok)) fun σ H R ⟨L, G, n, v, x⟩ => ⟨L, G, n, fun d μ1 h2 u L1 G1 H1 s1 o1 r1 => ⟨_, h2.run, L1, G1, n.step s1 o1, fun da μ2 ⟨i, ds, ea, lq, q⟩ w L2 G2 H2 s2 o2 r2 => by
    subst ea
    obtain ⟨p, vs, eu, hq, rr⟩ := lq.at_ o2 (r1.step s2)
    refine ⟨i, rep_int.mp r2, p, vs, eu, hq, fun l hl => ?_⟩
    rw [cut_upto]
    obtain ⟨o3, s3⟩ := o2.new (o := .lst (vs.take i)) hl
    exact v _ _ q _ L2 _ _ ((s1.trans s2).trans s3) o3 (rep_lst.mpr ⟨l, _, rfl, upd_same, (reps_take i rr).step s3⟩), x.step s1⟩, x⟩⟩
end
end PM

set_option Elab.async false
set_option linter.all false
set_option maxRecDepth 100000
set_option maxHeartbeats 1000000
namespace PM
/-! neighbours from the left -/
theorem Apt.trans {f l x : P2} (hf : 0 < f.2) (hl : 0 < l.2) (hx : 0 < x.2) (h1 : Apt f l) (h2 : Apt l x) : Apt f x := by
  obtain ⟨m1, v1⟩ := f
  obtain ⟨m2, v2⟩ := l
  obtain ⟨m3, v3⟩ := x
  simp only [Apt, crs, wid] at *
  have a1 := Int.mul_le_mul_of_nonneg_left (Int.le_of_lt h1) (show 0 ≤ v3 by omega)
  have a2 := Int.mul_lt_mul_of_pos_left h2 hf
  have p1 : 0 < v1 * v2 * v3 * v2 := Int.mul_pos (Int.mul_pos (Int.mul_pos hf hl) hx) hl
  have key : v2 * (v1 * v3 * (v1 + v3)) < v2 * (2 * (m3 * v1 - m1 * v3)) := by grind
  exact Int.lt_of_mul_lt_mul_left key (by omega)
theorem Stp.cons {p : P2} {xs ys : List P2} (h : Stp xs ys) : Stp (p :: xs) (p :: ys) := by
  obtain ⟨a, b, r, h1, h2, h3⟩ := h
  refine ⟨a, b, p :: r, (h1.cons p).trans ((List.Perm.swap a p (b :: r)).trans ((List.Perm.swap b p r).cons a)), h2, (h3.cons p).trans (List.Perm.swap _ _ _)⟩
theorem Runs.cons {p : P2} {xs ys : List P2} (h : Runs xs ys) : Runs (p :: xs) (p :: ys) := by
  induction h with
  | refl q => exact .refl (q.cons p)
  | step s _ ih => exact .step s.cons ih
theorem Bnd.app : ∀ {xs ys : List P2}, Bnd (xs ++ ys) → Bnd ys
  | [], _, h => h
  | _ :: xs, _, h => Bnd.app (xs := xs) h.tail
theorem Bnd.left {xs ys : List P2} (h : Bnd (xs ++ ys)) : Bnd xs := (h.perm List.perm_append_comm).app
end PM

set_option Elab.async false
set_option linter.all false
set_option maxRecDepth 100000
set_option maxHeartbeats 4000000
namespace PM
open PySem L2
theorem reps_erase {K : PySem.W.Frag} {L : List Addr} {G : Hp} : ∀ {ds : List D} {vs : List V} (n : Nat), Reps K L G ds vs → Reps K L G (ds.eraseIdx n) (vs.eraseIdx n)
  | [], vs, n, r => by rw [r.inv_nil]; simpa using Reps.nil
  | d :: ds, vs, 0, r => by
    obtain ⟨u, rest, rfl, ra, rb⟩ := r.inv_cons
    simpa using rb
  | d :: ds, vs, n + 1, r => by
    obtain ⟨u, rest, rfl, ra, rb⟩ := r.inv_cons
    simpa using Reps.cons ra (reps_erase n rb)
section
variable {X : Cx} {W : WX} {ρ : Env'} {μ : List M} {o e : Expr} {apos pos : Pos} {Q : KV} {Z : KX}
/-- x.pop(i) -/
theorem wE_popAt (h : wE X W ρ μ o (fun d0 μ1 => ∃ n : Nat, d0 = .loc n ∧ (∃ ds', μ1[n]? = some (.lst ds')) ∧ wE X W ρ μ1 e (fun di μ2 => ∃ (i : Nat) (ds : List D) (d : D), di = .int (i : Nat) ∧ μ2[n]? = some (.lst ds) ∧ ds[i]? = some d ∧ i < 2 ^ 62 ∧ Q d (μ2.set n (.lst (ds.eraseIdx i)))) Z) Z)
    (hbase : attributeBase o "pop" X.env (eval o X.env) = eval o X.env := by rfl)
    (hfew : ((backTo pos (starEach [e] X.env)).all (fun x => !x.1) && (backToKw pos (keywordEach [] X.env)).all (fun x => x.1.isSome) && decide ([e].length + ([] : List Keyword).length + (if ([] : List Keyword).isEmpty then 0 else 1) < 30)) = true := by rfl)
    (hline : (apos.endLine == pos.line) = true := by rfl) (hs : starEach [e] X.env = (false, eval e X.env) :: starEach [] X.env := by rfl) :
    wE X W ρ μ (.Call (.Attribute o "pop" apos) [e] [] pos) Q Z := by
  refine ⟨pe_of (pe_bm PySem.F.plainAttrs_list PySem.F.slot_list_pop PySem.F.type_list_pop mt_popAt h.run (pa_cons aE_ok pa_nil hs) hbase hfew hline hs) fun σ H R ⟨L, G, nw, v, x⟩ => ⟨L, G, nw, fun d0 μ1 ⟨n, ed, ⟨ds', hn1⟩, h2⟩ u L1 G1 H1 s1 o1 r1 => ?_, x⟩⟩
  subst ed
  obtain ⟨p, ea, eu⟩ := rep_loc.mp r1
  obtain ⟨vs1, eh1, _⟩ := o1.at_ n p _ ea hn1
  refine ⟨by rw [eu]; exact .inl ⟨rfl, _, SqL.of eh1⟩, _, h2.run, L1, G1, nw.step s1 o1, fun di μ2 ⟨i, ds, d, ei, hn, hd, hi, q⟩ w L2 G2 H2 s2 o2 r2 => ?_, x.step s1⟩
  subst ei
  have ea2 := s2.pre _ _ ea
  obtain ⟨vs, eh, rr⟩ := o2.at_ n p _ ea2 hn
  obtain ⟨y, ey, ry⟩ := rr.get hd
  have il : i < vs.length := (List.getElem?_eq_some_iff.mp ey).1
  refine ⟨p, vs, i, i, y, eu, by rw [rep_int.mp r2], eh, by omega, by omega, ?_, ey, ?_⟩
  · unfold seqIndex?
    simp
    omega
  obtain ⟨o3, s3⟩ := o2.write (o := .lst (vs.eraseIdx i)) (m := .lst (ds.eraseIdx i)) ea2 ⟨_, upd_same, reps_erase i rr⟩
  exact v _ _ q _ L2 G2 _ ((s1.trans s2).trans s3) o3 (ry.step s3)
end
section
variable {X : Cx} {W : WX} {ρ : Env'} {μ : List M} {tg e : Expr} {pos : Pos} {nx : KN} {κ : Ks}
/-- for .. in l, l a tuple or a list that may lie in the store -/
theorem wS_forQ (d0 : D) (all : List D) (Iv : List D → KN) {body : List Stmt} (po : PassesOwn (model X.prog X.w) X.A X.env X.xe) (hc : X.calm = true) (h : wE X W ρ μ e (fun d μ1 => d = d0 ∧ Iv all ρ μ1) (κ.z ρ)) (kp : d0 = .tup all ∨ ∀ ds ρ μ, Iv ds ρ μ → Lqd μ d0 all)
    (hb : ∀ d ds ρ μ, Iv (d :: ds) ρ μ → wG X W ρ μ tg d fun ρ1 μ1 => wSs X W ρ1 μ1 body (Iv ds) { κ with bk := nx, ct := Iv ds }) (hn : ∀ ρ μ, Iv [] ρ μ → nx ρ μ) (hs : ∀ x, foldedSetIterable e X.env x = pure x := by intro _; rfl) : wS X W ρ μ (.For tg e body [] pos) nx κ := by
  rcases kp with rfl | kp
  · exact wS_for po hc (wI_tup (h.imp fun d μ1 ⟨ed, i⟩ => ⟨all, ed, wFor_inv Iv hb hn _ _ _ i⟩)) hs
  · exact wS_forS d0 all Iv po hc h kp hb hn hs
end
end PM

set_option Elab.async false
set_option linter.all false
set_option maxRecDepth 100000
set_option maxHeartbeats 1000000
namespace PM
/-! pools just apart, two of them at one end at one spot -/
section
variable {w V : Int}
def stp (w V : Int) (k : Nat) : P2 := (w * (k : Int) * (V + 1) * V, V)
def acc (w V : Int) : Nat → P2
  | 0 => (0, V)
  | k + 1 => mrg (acc w V k) (stp w V k)
end
end PM

set_option Elab.async false
set_option linter.all false
set_option maxRecDepth 100000
set_option maxHeartbeats 4000000
namespace PM
open PySem L2
section
variable {X : Cx} {W : WX} {ρ : Env'} {μ : List M} {e : Expr} {pos p1 p2 p3 : Pos} {k : Nat} {Q : KV} {Z : KX}
end
end PM

set_option Elab.async false
set_option linter.all false
set_option maxRecDepth 100000
/-! Comprehensions and loops over lists that stay as they are: what each item comes to. -/
namespace PM
open PySem L2
inductive All2 {α β : Type} (R : α → β → Prop) : List α → List β → Prop
  | nil : All2 R [] []
  | cons {x : α} {y : β} {xs : List α} {ys : List β} : R x y → All2 R xs ys → All2 R (x :: xs) (y :: ys)
section
variable {α β : Type} {R : α → β → Prop}
theorem All2.snoc {xs : List α} {ys : List β} {x : α} {y : β} (h : All2 R xs ys) (r : R x y) : All2 R (xs ++ [x]) (ys ++ [y]) := by
  induction h with
  | nil => exact .cons r .nil
  | cons a _ ih => exact .cons a ih
theorem All2.len {xs : List α} {ys : List β} (h : All2 R xs ys) : ys.length = xs.length := by
  induction h with
  | nil => rfl
  | cons _ _ ih => simp [ih]
theorem All2.fn {f : α → β} {xs : List α} {ys : List β} (h : All2 (fun x y => y = f x) xs ys) : ys = xs.map f := by
  induction h with
  | nil => rfl
  | cons e _ ih => rw [e, ih]; rfl
theorem All2.mem {xs : List α} {ys : List β} {y : β} (h : All2 R xs ys) (hy : y ∈ ys) : ∃ x ∈ xs, R x y := by
  induction h with
  | nil => cases hy
  | cons a _ ih =>
    rcases List.mem_cons.mp hy with rfl | hy
    · exact ⟨_, by simp, a⟩
    · obtain ⟨x, hx, r⟩ := ih hy
      exact ⟨x, by simp [hx], r⟩
end
section
variable {X : Cx} {W : WX} {ρ : Env'} {μ : List M} {tg e : Expr} {body : List Stmt} {nx nx' : KN} {κ : Ks} {d : D}
theorem wG.imp (h : wG X W ρ μ tg d nx) (hn : ∀ ρ μ, nx ρ μ → nx' ρ μ) : wG X W ρ μ tg d nx' := ⟨pg_of h.run fun v σ H R ⟨L, G, n, r, a⟩ => ⟨L, G, n, r, fun ρ' μ' q => a ρ' μ' (hn _ _ q)⟩⟩
theorem wI.imp {QA QA' : KA} {Z : KX} (h : wI X W ρ μ tg e QA Z) (hq : ∀ ds μ, QA ds μ → QA' ds μ) : wI X W ρ μ tg e QA' Z := ⟨pi_of h.run fun σ H J ⟨L, G, n, v, x⟩ => ⟨L, G, n, fun ds μ' q => v ds μ' (hq _ _ q), x⟩⟩
theorem wSs.nc {bk ct ct' : KN} (h : wSs X W ρ μ body nx { κ with bk := bk, ct := ct }) (hn : ∀ ρ μ, nx ρ μ → nx' ρ μ) (hc : ∀ ρ μ, ct ρ μ → ct' ρ μ) : wSs X W ρ μ body nx' { κ with bk := bk, ct := ct' } :=
  ⟨pss_of h.run fun D σ H ⟨L, G, n, a⟩ => ⟨L, G, n, fun ρ μ q => a.nx ρ μ (hn ρ μ q), a.bk, fun ρ μ q => a.ct ρ μ (hc ρ μ q), a.rt, a.xc⟩⟩
end
section
variable {X : Cx} {W : WX} {k : Nat} {N : List Str} {V V' : List Kd} {Gs Gs' : List Str} {ρ ρ' : Env'} {μ μ1 μ2 : List M} {e elt tg iter c : Expr} {es ifs : List Expr} {Q : KV} {Z : KX} {d : D} {ds : List D} {pos : Pos} {x : Str} {scope : Scope} {own : List (Str × Nat)} {vs : List Nat}
theorem big_sl {n : Nat} (h : n ≤ 1000000) : n ≤ sizeLine := Nat.le_trans h (by rw [sizeLine_eq]; decide)
/-- [elt for tg in xs if c], nothing in the store changes -/
theorem wE_lcF (V' : List Kd) (Gs' : List Str) (own : List (Str × Nat)) (g : Fx X W k N V Gs) {sc : Scope} (hsc : X.env.scope = sc) (ck : ckB N V' Gs' (relabS sc scope) = true) (ok : BlkOk X.N X.env.scope scope own) {α β : Type} (xs : List α) (rd : α → D) (c : α → Bool) (out : β → D) (R : α → β → Prop)
    (hi : wI X W ρ μ tg iter (fun ds μ1 => ds = xs.map rd ∧ μ1 = μ) Z) (hl : xs.length ≤ 1000000)
    (ht : ∀ x ∈ xs, ∀ (K1 : KV) (K2 : List M → Prop), (c x = true → ∀ b, R x b → K1 (out b) μ) → (c x = false → K2 μ) → wTurn X k N V' Gs' scope (own.map (·.2)) tg elt ifs ρ (rd x) μ K1 K2)
    (h : ∀ ys, All2 R (xs.filter c) ys → Q (.lst (ys.map out)) μ) (hs : ∀ x, foldedSetIterable iter X.env x = pure x := by intro _; rfl) : wE X W ρ μ (.ListComp elt [⟨tg, iter, ifs, 0⟩] scope pos) Q Z := by
  refine wE_lc V' Gs' own (fun ds done μ' => ∃ zs ws bs, xs = zs ++ ws ∧ ds = ws.map rd ∧ All2 R (zs.filter c) bs ∧ done = bs.map out ∧ μ' = μ) g hsc ck ok ?_ ?_ ?_ hs
  · refine wI.imp hi fun ds μ1 ⟨e1, e2⟩ => ?_
    subst e1 e2
    exact ⟨by rw [List.length_map]; exact big_sl hl, [], xs, [], rfl, rfl, .nil, rfl, rfl⟩
  · rintro d ds done μ' ⟨zs, ws, bs, e1, e2, e3, rfl, rfl⟩
    cases ws with
    | nil => cases e2
    | cons y ws =>
      obtain ⟨rfl, rfl⟩ := List.cons.inj e2
      refine ht y (by rw [e1]; simp) _ _ (fun hc b hb => ?_) (fun hc => ?_)
      · exact ⟨zs ++ [y], ws, bs ++ [b], by simp [e1], rfl, by rw [List.filter_append, List.filter_cons_of_pos hc]; exact e3.snoc hb, by simp, rfl⟩
      · exact ⟨zs ++ [y], ws, bs, by simp [e1], rfl, by rw [List.filter_append, List.filter_cons_of_neg (by simp [hc])]; simpa using e3, rfl, rfl⟩
  · rintro done μ' ⟨zs, ws, bs, e1, e2, e3, rfl, rfl⟩
    cases ws with
    | cons y ws => cases e2
    | nil =>
      rw [List.append_nil] at e1
      subst e1
      exact h _ e3
/-- [elt for tg in xs]: each item comes to one of its own -/
theorem wE_lcR (V' : List Kd) (Gs' : List Str) (own : List (Str × Nat)) (g : Fx X W k N V Gs) {sc : Scope} (hsc : X.env.scope = sc) (ck : ckB N V' Gs' (relabS sc scope) = true) (ok : BlkOk X.N X.env.scope scope own) {α β : Type} (xs : List α) (rd : α → D) (out : β → D) (R : α → β → Prop)
    (hi : wI X W ρ μ tg iter (fun ds μ1 => ds = xs.map rd ∧ μ1 = μ) Z) (hl : xs.length ≤ 1000000)
    (ht : ∀ x ∈ xs, ∀ (K1 : KV) (K2 : List M → Prop), (∀ b, R x b → K1 (out b) μ) → wTurn X k N V' Gs' scope (own.map (·.2)) tg elt ifs ρ (rd x) μ K1 K2)
    (h : ∀ ys, All2 R xs ys → Q (.lst (ys.map out)) μ) (hs : ∀ x, foldedSetIterable iter X.env x = pure x := by intro _; rfl) : wE X W ρ μ (.ListComp elt [⟨tg, iter, ifs, 0⟩] scope pos) Q Z :=
  wE_lcF V' Gs' own g hsc ck ok xs rd (fun _ => true) out R hi hl (fun x hx K1 K2 h1 _ => ht x hx K1 K2 (h1 rfl)) (fun ys hy => h ys (by rwa [List.filter_eq_self.mpr (fun _ _ => rfl)] at hy)) hs
/-- [elt for tg in xs]: by a function -/
theorem wE_lcM (V' : List Kd) (Gs' : List Str) (own : List (Str × Nat)) (g : Fx X W k N V Gs) {sc : Scope} (hsc : X.env.scope = sc) (ck : ckB N V' Gs' (relabS sc scope) = true) (ok : BlkOk X.N X.env.scope scope own) {α : Type} (xs : List α) (rd out : α → D)
    (hi : wI X W ρ μ tg iter (fun ds μ1 => ds = xs.map rd ∧ μ1 = μ) Z) (hl : xs.length ≤ 1000000)
    (ht : ∀ x ∈ xs, ∀ (K1 : KV) (K2 : List M → Prop), K1 (out x) μ → wTurn X k N V' Gs' scope (own.map (·.2)) tg elt ifs ρ (rd x) μ K1 K2)
    (h : Q (.lst (xs.map out)) μ) (hs : ∀ x, foldedSetIterable iter X.env x = pure x := by intro _; rfl) : wE X W ρ μ (.ListComp elt [⟨tg, iter, ifs, 0⟩] scope pos) Q Z :=
  wE_lcR V' Gs' own g hsc ck ok xs rd out (fun x b => b = x) hi hl (fun x hx K1 K2 h1 => ht x hx K1 K2 (h1 x rfl)) (fun ys hy => by rw [hy.fn, List.map_id']; exact h) hs
/-- y = [elt for tg in xs if c] -/
theorem wS_setLcF (V' : List Kd) (Gs' : List Str) (own : List (Str × Nat)) (g : Fx X W k N V Gs) {sc : Scope} (hsc : X.env.scope = sc) (ck : ckB N V' Gs' (relabS sc scope) = true) (ok : BlkOk X.N X.env.scope scope own) {nx : KN} {κ : Ks} {y : Str} {i : Nat} {py spos : Pos} (hy : Il N V y i) {α β : Type} (xs : List α) (rd : α → D) (c : α → Bool) (out : β → D) (R : α → β → Prop)
    (hi : wI X W ρ μ tg iter (fun ds μ1 => ds = xs.map rd ∧ μ1 = μ) (κ.z ρ)) (hl : xs.length ≤ 1000000)
    (ht : ∀ x ∈ xs, ∀ (K1 : KV) (K2 : List M → Prop), (c x = true → ∀ b, R x b → K1 (out b) μ) → (c x = false → K2 μ) → wTurn X k N V' Gs' scope (own.map (·.2)) tg elt ifs ρ (rd x) μ K1 K2)
    (h : ∀ ys, All2 R (xs.filter c) ys → wPt N V y (.lst (ys.map out)) ρ (fun ρ' => nx ρ' μ))
    (hkd : X.env.scope.kind = .function := by rfl) (hln : (py.line == pos.line) = true := by rfl) (hnm : (scope.names.any fun (n, k) => n == y && (k == .local || k == .cell)) = false := by decide +kernel)
    (hs : ∀ x, foldedSetIterable iter X.env x = pure x := by intro _; rfl) : wS X W ρ μ (.Assign [.Name y py] (.ListComp elt [⟨tg, iter, ifs, 0⟩] scope pos) spos) nx κ := by
  refine wS_setLc V' Gs' own (fun ds done μ' => ∃ zs ws bs, xs = zs ++ ws ∧ ds = ws.map rd ∧ All2 R (zs.filter c) bs ∧ done = bs.map out ∧ μ' = μ) g hy hsc ck ok ?_ ?_ ?_ hkd hln hnm hs
  · refine wI.imp hi fun ds μ1 ⟨e1, e2⟩ => ?_
    subst e1 e2
    exact ⟨by rw [List.length_map]; exact big_sl hl, [], xs, [], rfl, rfl, .nil, rfl, rfl⟩
  · rintro d ds done μ' ⟨zs, ws, bs, e1, e2, e3, rfl, rfl⟩
    cases ws with
    | nil => cases e2
    | cons y ws =>
      obtain ⟨rfl, rfl⟩ := List.cons.inj e2
      refine ht y (by rw [e1]; simp) _ _ (fun hc b hb => ?_) (fun hc => ?_)
      · exact ⟨zs ++ [y], ws, bs ++ [b], by simp [e1], rfl, by rw [List.filter_append, List.filter_cons_of_pos hc]; exact e3.snoc hb, by simp, rfl⟩
      · exact ⟨zs ++ [y], ws, bs, by simp [e1], rfl, by rw [List.filter_append, List.filter_cons_of_neg (by simp [hc])]; simpa using e3, rfl, rfl⟩
  · rintro done μ' ⟨zs, ws, bs, e1, e2, e3, rfl, rfl⟩
    cases ws with
    | cons y ws => cases e2
    | nil =>
      rw [List.append_nil] at e1
      subst e1
      exact h _ e3
theorem wS_setLcR (V' : List Kd) (Gs' : List Str) (own : List (Str × Nat)) (g : Fx X W k N V Gs) {sc : Scope} (hsc : X.env.scope = sc) (ck : ckB N V' Gs' (relabS sc scope) = true) (ok : BlkOk X.N X.env.scope scope own) {nx : KN} {κ : Ks} {y : Str} {i : Nat} {py spos : Pos} (hy : Il N V y i) {α β : Type} (xs : List α) (rd : α → D) (out : β → D) (R : α → β → Prop)
    (hi : wI X W ρ μ tg iter (fun ds μ1 => ds = xs.map rd ∧ μ1 = μ) (κ.z ρ)) (hl : xs.length ≤ 1000000)
    (ht : ∀ x ∈ xs, ∀ (K1 : KV) (K2 : List M → Prop), (∀ b, R x b → K1 (out b) μ) → wTurn X k N V' Gs' scope (own.map (·.2)) tg elt ifs ρ (rd x) μ K1 K2)
    (h : ∀ ys, All2 R xs ys → wPt N V y (.lst (ys.map out)) ρ (fun ρ' => nx ρ' μ))
    (hkd : X.env.scope.kind = .function := by rfl) (hln : (py.line == pos.line) = true := by rfl) (hnm : (scope.names.any fun (n, k) => n == y && (k == .local || k == .cell)) = false := by decide +kernel)
    (hs : ∀ x, foldedSetIterable iter X.env x = pure x := by intro _; rfl) : wS X W ρ μ (.Assign [.Name y py] (.ListComp elt [⟨tg, iter, ifs, 0⟩] scope pos) spos) nx κ :=
  wS_setLcF V' Gs' own g hsc ck ok hy xs rd (fun _ => true) out R hi hl (fun x hx K1 K2 h1 _ => ht x hx K1 K2 (h1 rfl)) (fun ys hy => h ys (by rwa [List.filter_eq_self.mpr (fun _ _ => rfl)] at hy)) hkd hln hnm hs
/-- for tg in xs: by what is behind -/
theorem wFor_L {body : List Stmt} {nx : KN} {κ : Ks} {α : Type} (xs : List α) (rd : α → D) (I : List α → KN)
    (hb : ∀ zs x ws ρ μ, xs = zs ++ x :: ws → I zs ρ μ → wG X W ρ μ tg (rd x) fun ρ1 μ1 => wSs X W ρ1 μ1 body (I (zs ++ [x])) { κ with bk := nx, ct := I (zs ++ [x]) })
    (hn : ∀ ρ μ, I xs ρ μ → nx ρ μ) (ρ : Env') (μ : List M) (h0 : I [] ρ μ) : wFor X W tg body nx κ (xs.map rd) ρ μ := by
  refine wFor_inv (fun ds ρ μ => ∃ zs ws, xs = zs ++ ws ∧ ds = ws.map rd ∧ I zs ρ μ) ?_ ?_ _ _ _ ⟨[], xs, rfl, rfl, h0⟩
  · rintro d ds ρ μ ⟨zs, ws, e1, e2, h⟩
    cases ws with
    | nil => cases e2
    | cons y ws =>
      obtain ⟨rfl, rfl⟩ := List.cons.inj e2
      have e3 : ∀ ρ μ, I (zs ++ [y]) ρ μ → ∃ zs' ws', xs = zs' ++ ws' ∧ ws.map rd = ws'.map rd ∧ I zs' ρ μ := fun ρ μ h => ⟨zs ++ [y], ws, by simp [e1], rfl, h⟩
      exact (hb zs y ws ρ μ e1 h).imp fun ρ1 μ1 h1 => wSs.nc h1 e3 e3
  · rintro ρ μ ⟨zs, ws, e1, e2, h⟩
    cases ws with
    | cons y ws => cases e2
    | nil =>
      rw [List.append_nil] at e1
      subst e1
      exact hn _ _ h
end
end PM

set_option Elab.async false
set_option linter.all false
set_option maxRecDepth 100000
set_option maxHeartbeats 4000000
namespace PM
open PySem L2
/-! ### sum(list of own instances, start=own instance) -/
/-- within a built-in -/
def inC (X : Cx) : Cx := { X with A := X.A.in1, xe := fun _ _ => False }
section
variable {X : Cx} {W : WX} {k : Nat} {pins : List (Addr × Obj)} {σ : L2.St} {H : Hp} {s : Shared}
theorem inC_ok (h : X.Ok) : (inC X).Ok := { h with hd := fun c => h.hd c, frames := h.frames }
theorem inC_inv (I : L2.Inv X pins σ H s) : L2.Inv (inC X) pins σ H s := { I with ok := inC_ok I.ok }
theorem inC_back (ok : X.Ok) (I : L2.Inv (inC X) pins σ H s) : L2.Inv X pins σ H s := { I with ok := ok }
theorem Gd.inC (g : Gd X W (k + 1)) : Gd (PM.inC X) W0 k := ⟨g.calm, g.nd, fun u s' ⟨_, _, _, _, _, _, _, _, _, _, _, _, _, _, _, _, w⟩ => w, PassesOwn.never, g.hr.in1, g.gr.mono (Nat.le_succ _)⟩
end
/-- the sums, one by one -/
inductive Sums (X : Cx) (μ : List M) (C : Addr) : D → List D → D → Prop
  | nil {ns : List Str} {fs : List D} : Sums X μ C (.obj C ns fs) [] (.obj C ns fs)
  | cons {ns : List Str} {fs : List D} {d t r : D} {ds : List D} : OpO (inC X) W0 (binaryOp .Add) (.obj C ns fs) d μ (.ret t μ) → Sums X μ C t ds r → Sums X μ C (.obj C ns fs) (d :: ds) r
section
variable {X : Cx} {W : WX} {k : Nat} {C : Addr} {μ : List M}
theorem sum_loopO {all : List D} {r : D} {a it P : Addr} {pins : List (Addr × Obj)} {σ : L2.St} {H : Hp} {L : List Addr} {G : Hp} {vs : List V} {Rr : Result → Shared → Prop} (hc : X.calm = true)
    (hq : SqL X.K G a vs) (rr : Reps X.K L G all vs) (hPH : H P = none) (hai : a ≠ it) (hPi : P ≠ it) (f1 : it ≠ X.env.locals) (f2 : it ∉ X.fs) (f3 : it ∈ X.ex ∨ X.s_0.heap.objs.size ≤ it) (f4 : ∀ x c, X.env.cells.lookup x = some c → c ≠ it) (f5 : ∀ p ∈ X.pn ++ pins, p.1 ≠ it)
    (fin : ∀ s H' L' G' v u, L2.Inv X pins σ H' s → Ok X.K L' G' H' μ → Step L G H L' G' H' → RelV v u → Rep X.K L' G' r v → Rr (.ok (.ret u)) s) :
    ∀ (ds : List D) (i : Nat) (t : D) (s : Shared) (H' : Hp) (L' : List Addr) (G' : Hp) (tv : V), all.drop i = ds → i ≤ all.length → Sums X μ C t ds r → L2.Inv X pins σ H' s → s.heap.IsListIter it a i → H' it = none → Ok X.K L' G' H' μ → Step L G H L' G' H' → G' P = none → P ∉ L' → H' P = some (.lst [tv]) → Rep X.K L' G' t tv →
    codeAny (model X.prog X.w) X.A (.builtin "sum.loop" ⟨[.ref it, .ref P, rawInt 2, rawInt 0], []⟩) Rr s := by
  intro ds
  induction ds with
  | nil =>
    intro i t s H' L' G' tv hd hi hs I hit f0 ok st gP nP hP rt
    have ei : i = all.length := by
      have := congrArg List.length hd
      simp at this
      omega
    obtain ⟨its, rv, hl, _⟩ := I.list (Same.sqL (st.gs.trans ok.sub) hq)
    obtain ⟨its', m', rv', ho', _⟩ := I.lst hP
    have hil : its.length = all.length := by rw [← rv.length, rr.length]
    cases hs
    obtain ⟨ai, dx, fvs, rfl, q, _⟩ := rep_obj.mp rt
    cases rv' with
    | cons r1 r2 =>
    cases r2
    cases r1
    refine codeAny_builtin F.entry_sum_loop ?_
    rw [Around.under_plainId F.plain_sum_loop _]
    show wpAny _ X.A.in1 (seqItems? (.ref P) >>= _) _ _ s
    refine wpAny_bind (wpAny_seqItems ho' rfl ?_)
    show wpAny _ X.A.in1 (tryCatch (pyNext (.ref it)) _ >>= _) _ _ s
    refine wpAny_bind (wpAny_tryCatch (wpAny_pyNext_list_end (I.ok.hd hc) hit hl.isList (by simp [ei, hil]) fun h' eb => ?_))
    refine wpAny_pure ?_
    exact fin _ H' L' G' (.ref ai) _ (I.turned (t' := s.toks) (fun b o hb q => eb b o hb q) f0 f1 f3 f4 f5) ok st rfl rt
  | cons d ds ih =>
    intro i t s H' L' G' tv hd hi hs I hit f0 ok st gP nP hP rt
    obtain ⟨e1, e2⟩ := drop_cons hd
    have hlt : i < all.length := (List.getElem?_eq_some_iff.mp e1).1
    obtain ⟨its, rv, hl, _⟩ := I.list (Same.sqL (st.gs.trans ok.sub) hq)
    obtain ⟨its', m', rv', ho', _⟩ := I.lst hP
    obtain ⟨v, ev, rvi⟩ := (rr.step st).get e1
    obtain ⟨u, eu, ru⟩ := rv.get ev
    cases hs with
    | @cons ns fs d t' r ds hop hrest =>
    obtain ⟨ai, dx, fvs, rfl, q, _⟩ := rep_obj.mp rt
    cases rv' with
    | cons r1 r2 =>
    cases r2
    cases r1
    refine codeAny_builtin F.entry_sum_loop ?_
    rw [Around.under_plainId F.plain_sum_loop _]
    show wpAny _ X.A.in1 (seqItems? (.ref P) >>= _) _ _ s
    refine wpAny_bind (wpAny_seqItems ho' rfl ?_)
    show wpAny _ X.A.in1 (tryCatch (pyNext (.ref it)) _ >>= _) _ _ s
    refine wpAny_bind (wpAny_tryCatch (wpAny_pyNext_list_item hit hl.isList (x := u) (by simpa using eu) fun h' hit' sb => ?_))
    have I1 : L2.Inv X pins σ H' { s with heap := h', toks := s.toks } := I.turned (t' := s.toks) (fun b o hb q => (sb.2 b hb).trans q) f0 f1 f3 f4 f5
    obtain ⟨oi, hoi, hci, hdi⟩ := id hit'
    have I2 : L2.Inv X ((it, oi) :: pins) σ H' { s with heap := h', toks := s.toks } := I1.pins_of fun p hp => by
      rcases List.mem_cons.mp hp with rfl | hp
      · exact ⟨hoi, f0, f1, f2, fun v => by rw [hdi]; intro z; cases z⟩
      · exact I1.pin p (List.mem_append_right _ hp)
    show wpAny _ X.A.in1 ((holding [u] (binaryOp .Add (.ref ai) u)).attempt >>= _) _ _ _
    refine wpAny_bind (wpAny_attempt (wpAny_holding (wpAny_mono (hop ((it, oi) :: pins) _ σ H' (.ref ai) v (.ref ai) u (fun x H2 => ∃ L2 G2, Ok X.K L2 G2 H2 μ ∧ Step L' G' H' L2 G2 H2 ∧ Rep X.K L2 G2 t' x) L' G' (inC_inv I2) rfl ru ok rt rvi (fun x L2 G2 H2 s2 o2 r2 => ⟨L2, G2, o2, s2, r2⟩)) (fun w s3 hw => ?_) fun _ _ z => z.elim)))
    obtain ⟨x, H3, I3', rx, L3, G3, o3, s3', r3⟩ := hw
    have I3 := inC_back I.ok I3'
    obtain ⟨hk1, hk2, _⟩ := I3.pin (it, oi) (List.mem_append_right _ (by simp))
    have I4 : L2.Inv X pins σ H3 s3 := I3.pins_of fun p hp => I3.pin p (List.mem_append_right _ (by simp [hp]))
    have hP3 : H3 P = some (.lst [.ref ai]) := s3'.hs P _ hP nP
    have gP3 : G3 P = none := by
      cases e : G3 P with
      | none => rfl
      | some o =>
        rcases s3'.gf P o e with z | z
        · rw [gP] at z; cases z
        · rw [hP] at z; cases z
    have nP3 : P ∉ L3 := fun z => by
      rcases s3'.fr P z with z | z
      · exact nP z
      · rw [hP] at z; cases z
    obtain ⟨its3, m3, rv3, ho3, hz3⟩ := I4.lst hP3
    show wpAny _ X.A.in1 (updateSeq P (fun _ => #[w]) >>= _) _ _ _
    have hz3' : its3.length ≤ 1 := by rw [← rv3.length]; simp
    refine wpAny_bind (wpAny_updateSeq ho3 rfl ?_ (by simp only [List.size_toArray]; have : 1 ≤ sizeLine := by decide
                                                      omega))
    refine wpAny_bind (wpAny_letGo ?_)
    have hS2 := Heap.get?_update_self (Obj.mapSeq fun _ => #[w]) ho3 rfl
    refine wpAny_bind (wpAny_updateSeq hS2 rfl ?_)
    refine wpAny_pure ⟨plainId_quiet F.plain_sum_loop _, ?_⟩
    have h1 : ∀ y : V, [y].length ≤ sizeLine := fun _ => by show 1 ≤ sizeLine; decide
    have I5 := I4.lstUpd hP3 ho3 (ys := [x]) (its' := [w]) (f := Obj.mapSeq fun _ => #[w]) rfl (.cons rx .nil) (h1 x) s3.toks
    have I6 := I5.lstUpd (p := P) upd_same (its := [w]) (by rw [hS2]; rfl) (ys := [x]) (its' := [w]) (f := Obj.mapSeq fun _ => #[w]) rfl (.cons rx .nil) (h1 x) s3.toks
    refine ih (i + 1) t' _ _ L3 G3 x e2 hlt hrest I6 ⟨oi, ?_, hci, hdi⟩ ?_ ((o3.poke nP3 gP3).poke nP3 gP3) (((st.trans s3').poke hPH).poke hPH) gP3 nP3 upd_same r3
    · exact (Heap.get?_update_other _ _ hPi).trans ((Heap.get?_update_other _ _ hPi).trans hk1)
    · rw [upd_ne (Ne.symm hPi), upd_ne (Ne.symm hPi)]; exact hk2
theorem args_sumS (a b : Value) : argsOk "sum" ⟨[a], [("start", b)]⟩ := by unfold argsOk; kernel_rfl
theorem call_function_treeK {prog : Program} {w : World} {A : Around} {E : Value → Shared → Prop} {s : Shared} {id : String} {b : Builtin} {args : List Value} {kw : List (Str × Value)} {Q : Value → Shared → Prop} (hk : builtinKind id = none) (hp : plainId id = true)
    (hb : entryFor table id = some b) (ha : argsOk id ⟨args, kw⟩)
    (hc : wpAny (model prog w) A.in1 (b ⟨args, kw⟩) (fun fin s' => match fin with
      | .done f => (match (Except.ok f : Result) with | .ok (.ret v) => Q v s' | .ok _ => False | .error e => E e s')
      | .again c' => c'.quiet = true ∧ codeAny (model prog w) A c' (fun r s' => match r with | .ok (.ret v) => Q v s' | .ok _ => False | .error e => E e s') s') E s) :
    wpAny (model prog w) A (call (.builtin id) args kw) Q E s := by
  refine wpAny_call (codeAny_call_builtin hp hb ?_)
  simp only [checkBuiltinCall, hk]
  cases hsig : Manifest.signature? id with
  | none => exact wpAny_pure hc
  | some sig =>
    simp only [argsOk, hsig] at ha
    have h2 : Bind.checkArgs id sig ⟨args, kw⟩ = pure () := ha
    show wpAny _ A.in1 (Bind.checkArgs id sig ⟨args, kw⟩) _ _ s
    rw [h2]; exact wpAny_pure hc
open PySem.W in
theorem inst_not {prog : Program} {w : World} {K : PySem.W.Frag} {s : Shared} {x : Addr} {ox : Obj} {od : Option Obj} {T : String} (X : K.In s.heap) (I : InstAt s.heap x ox C od) (oc : OwnC K C) (hT : T ≠ "object") : Looks (model prog w) s.heap (isInstance (.ref x) (.type T)) false :=
  I.type.andThen (looks_subIn X (by
    show mroIn K C (.type T) = _
    rw [oc.mroIn]
    simp [hT]))
theorem run_sumO (hc : X.calm = true) (oc : OwnC X.K C) {all : List D} {d0 r : D} (hs : Sums X μ C d0 all r) {pins : List (Addr × Obj)} {σ : L2.St} {H : Hp} {L : List Addr} {G : Hp} {s : Shared} {va vb : V} {ua ub : Value} {Q : VK} (I : L2.Inv X pins σ H s) (ok : Ok X.K L G H μ)
    (ra : RelV va ua) (rb : RelV vb ub) (r1 : Rep X.K L G (.lst all) va) (r2 : Rep X.K L G d0 vb) (q : Comes X.K L G H r μ Q) :
    wpAny (model X.prog X.w) X.A (call (.builtin "sum") [ua] [("start", ub)]) (EP X pins σ Q) X.xe s := by
  obtain ⟨a, vs, rfl, hq, rr⟩ := rep_lst.mp r1
  have hd0 : ∃ ns fs, d0 = .obj C ns fs := by cases hs <;> exact ⟨_, _, rfl⟩
  obtain ⟨ns, fs, e0⟩ := hd0
  have r2' := r2
  rw [e0] at r2'
  obtain ⟨b, dx, fvs, rfl, qb, _⟩ := rep_obj.mp r2'
  cases ra
  cases rb
  obtain ⟨its, rv, hl, _⟩ := I.list (SqL.of (ok.sub _ _ hq))
  obtain ⟨oi, odi, J⟩ := inst_at I (ok.sub _ _ qb)
  refine call_function_treeK F.kind_sum F.plain_sum F.entry_sum (args_sumS _ _) ?_
  unfold Builtin.«sum»
  simp only [List.length_cons, List.length_nil]
  rw [if_neg (by decide)]
  refine wpAny_bind (wpAny_of_eq (show Builtin.Builtins.bindParams "sum" ["start"] 0 ⟨[], [("start", .ref b)]⟩ = pure [some (.ref b)] from rfl) ?_)
  refine wpAny_bind (wpAny_pyIter_list hl.isList ?_)
  refine wpAny_bind (wpAny_pure ?_)
  have hk : ∀ b' o, s.heap.get? b' = some o → (s.heap.push { cls := .type "list_iterator", data := .fields #[.ref a, .int 0 0] }).get? b' = some o := fun b' o e => Heap.get?_push_of_some _ e
  have I1 : L2.Inv X pins σ H { s with heap := s.heap.push { cls := .type "list_iterator", data := .fields #[.ref a, .int 0 0] }, toks := s.toks } := I.kept hk
  obtain ⟨o1, od1, J1⟩ := inst_at I1 (ok.sub _ _ qb)
  simp only [List.forIn_cons, List.forIn_nil]
  refine wpAny_bind (wpAny_bind (wpAny_bind ((inst_not I1.kIn J1 oc (by decide)).here ?_)))
  simp only [Bool.false_eq_true, if_false]
  refine wpAny_pure (wpAny_bind (wpAny_bind ((inst_not I1.kIn J1 oc (by decide)).here ?_)))
  simp only [Bool.false_eq_true, if_false]
  refine wpAny_pure (wpAny_bind (wpAny_bind ((inst_not I1.kIn J1 oc (by decide)).here ?_)))
  simp only [Bool.false_eq_true, if_false]
  refine wpAny_pure (wpAny_pure ?_)
  refine wpAny_bind (wpAny_newObj_type ?_)
  refine wpAny_pure ⟨plainId_quiet F.plain_sum_loop _, ?_⟩
  have hsz : s.heap.objs.size < (s.heap.push { cls := .type "list_iterator", data := .fields #[.ref a, .int 0 0] }).objs.size := Heap.lt_size (Heap.get?_push_size _ rfl)
  have hPH : H (s.heap.push { cls := .type "list_iterator", data := .fields #[.ref a, .int 0 0] }).objs.size = none := I1.hok.fresh (Nat.le_refl _)
  obtain ⟨okP, stP⟩ := ok.newH (o := .lst [.ref b]) hPH
  have I2 := I1.laid (h' := (s.heap.push { cls := .type "list_iterator", data := .fields #[.ref a, .int 0 0] }).push { cls := .type "list", data := .seq #[.ref b] }) (t' := s.toks) (fun b' u e => Heap.get?_push_of_some _ e) (Nat.le_refl _) (o := .lst [.ref b]) ⟨by show 1 ≤ sizeLine; decide, [.ref b], 0, .cons rfl .nil, Heap.get?_push_size _ rfl⟩
  obtain ⟨f0, f1, f2, f3, f4, f5⟩ := I.fpOk (b := s.heap.objs.size) (Nat.le_refl _) (I.hok.fresh (Nat.le_refl _))
  have hai : a ≠ s.heap.objs.size := by
    obtain ⟨o, m, ho, _⟩ := hl
    exact Nat.ne_of_lt (Heap.lt_size ho)
  refine sum_loopO (r := r) (a := a) (pins := pins) (σ := σ) (H := H) (L := L) (G := G) hc (SqL.of hq) rr hPH hai (Nat.ne_of_gt hsz) f1 f2 f3 f4 f5 (fun s' H' L' G' v u I' ok' st' rv r' => ⟨v, H', I', rv, q v L' G' H' st' ok' r'⟩) all 0 d0 _ _ L G (.ref b) rfl (Nat.zero_le _) hs I2 ⟨_, Heap.get?_push_of_some _ (Heap.get?_push_size _ rfl), rfl, rfl⟩ ?_ okP stP (Same.free ok.sub hPH) (fun z => mem_ne ok.liv hPH _ z rfl) upd_same r2
  rw [upd_ne (Nat.ne_of_lt hsz)]
  exact f0
end
section
variable {X : Cx} {W : WX} {k : Nat} {N : List Str} {V : List Kd} {Gs : List Str} {ρ : Env'} {μ : List M} {e e2 : Expr} {Q : KV} {Z : KX} {p pos kp : Pos} {C : Addr}
/-- sum(list, start=..) -/
theorem xE_sumS (g : Fx X W k N V Gs) (hi : In "sum" Gs) (hm : X.mg "sum" = none) (oc : OwnC X.K C)
    (h : wA X W ρ μ [e] (fun ds μ1 => wK X W ρ μ1 [⟨some "start", e2, kp⟩] (fun es μ2 => ∃ all d0 r, ds = [.lst all] ∧ es = [d0] ∧ Sums X μ2 C d0 all r ∧ Q r μ2) Z) Z)
    (he : backTo pos (starEach [e] X.env) = (false, eval e X.env) :: backTo pos (starEach [] X.env) := by rfl)
    (hplain : (backTo pos (starEach [e] X.env)).any (·.1) = false := by rfl)
    (hall : (backToKw pos (keywordEach [⟨some "start", e2, kp⟩] X.env)).all (·.1.isSome) = true := by rfl)
    (hkw : (backToKw pos (keywordEach [⟨some "start", e2, kp⟩] X.env)).any (·.1.isNone) = false := by rfl)
    (hks : (backToKw pos (keywordEach [⟨some "start", e2, kp⟩] X.env)).filterMap (·.1) = ([("start" : Str)] : List Str) := by rfl) : wE X W ρ μ (.Call (.Name "sum" p) [e] [⟨some "start", e2, kp⟩] pos) Q Z := by
  refine .by fun pins s σ H R L G I n v z => ?_
  refine wpAny_Call_Name_kw (ld_blt I (g.gl hi).1 hm PyProof.Rows.boot_sum (PyProof.Rows.callWith_kw ?_ he hplain hall hkw) (g.gl hi).2.2 (g.gl hi).2.1)
  refine thn (h.go I n z pos) fun us s1 ⟨vs, ds, μ1, L1, G1, H1, I1, r1, q1, st1, o1, rr1⟩ => ?_
  refine thn (q1.go I1 (n.step st1 o1) (z.step st1) pos) fun ks s2 ⟨ws, es, μ2, L2, G2, H2, I2, r2, ⟨all, d0, r, ed, ee, hs, hq⟩, st2, o2, rr2⟩ => ?_
  subst ed ee
  rw [hks]
  obtain ⟨va, rfl, ra⟩ := rr1.one
  obtain ⟨ua, rfl, rua⟩ := r1.one
  obtain ⟨vb, rfl, rb⟩ := rr2.one
  obtain ⟨ub, rfl, rub⟩ := r2.one
  exact run_sumO g.calm oc hs I2 o2 rua rub (ra.step st2) rb (Comes.step (v r μ2 hq) (st1.trans st2))
end
end PM

set_option Elab.async false
set_option linter.all false
set_option maxRecDepth 100000
set_option maxHeartbeats 4000000
namespace PM
open PySem L2
/-! ### o(..), o an own instance with __call__ -/
section
variable {X : Cx} {W : WX} {k : Nat} {N : List Str} {V : List Kd} {Gs : List Str} {ρ : Env'} {μ : List M} {e : Expr} {es : List Expr} {Q : KV} {Z : KX} {p pos : Pos} {C : Addr} {x : Str}
end
/-! ### C.NAME, a whole number of the class -/
section
variable {X : Cx} {W : WX} {ρ : Env'} {μ : List M} {e : Expr} {Q : KV} {Z : KX} {pos : Pos} {f : Str}
end
end PM

set_option Elab.async false
set_option linter.all false
set_option maxRecDepth 100000
set_option maxHeartbeats 4000000
namespace PM
open PySem L2
section
variable {X : Cx} {W : WX} {ρ : Env'} {μ : List M} {o e e2 : Expr} {Q : KV} {Z : KX} {apos pos : Pos}
end
/-! l[:-1] -/
section
variable {X : Cx} {W : WX} {ρ : Env'} {μ : List M} {e a : Expr} {pos p2 : Pos} {Q : KV} {Z : KX}
end
/-! greater numbers -/
set_option exponentiation.threshold 20000
theorem log_500 {i : Int} (h : -(2 ^ 500) < i ∧ i < 2 ^ 500) : i.natAbs.log2 ≤ 500 := by
  by_cases z : i.natAbs = 0
  · rw [z]; decide
  · have : i.natAbs < 2 ^ 500 := by omega
    exact Nat.le_of_lt ((Nat.log2_lt z).mpr this)
section
variable {X : Cx} {W : WX} {μ : List M} {i j : Int} {Q : KV} {Z : KX}
theorem wB_mulB (c : (-(2 ^ 500) < i ∧ i < 2 ^ 500) ∧ (-(2 ^ 500) < j ∧ j < 2 ^ 500)) (h : Q (.int (i * j)) μ) : wB X W (binaryOp .Mult) (.int i) (.int j) μ Q Z :=
  wB_mul (by have h1 := log_500 c.1; have h2 := log_500 c.2; unfold CMulW; omega) h
theorem wB_fdivB (c : 0 < j ∧ j < 2 ^ 500) (h : Q (.int (i / j)) μ) : wB X W (binaryOp .FloorDiv) (.int i) (.int j) μ Q Z :=
  wB_fdiv ⟨c.1, by have := log_500 (i := j) ⟨by omega, c.2⟩; omega⟩ h
end
end PM

set_option Elab.async false
set_option linter.all false
set_option maxRecDepth 100000
set_option exponentiation.threshold 20000
namespace PM
open PySem L2 PyProof.Rows
/-! ### powers of greater numbers, sums of ints -/
def CPowB (i j : Int) : Prop := (0 ≤ j ∧ j ≤ 8) ∧ i.natAbs < 2 ^ 500
section
variable {X : Cx} {W : WX} {k : Nat} {μ : List M} {i : Int} {Q : KV} {Z : KX}
theorem op_powB : OpR X (binaryOp .Pow) (rI CPowB fun i j => .int (i ^ j.toNat)) := opI fun i j _ _ _ _ _ hc q => by
  have h1 : (Builtin.Int.intBits i : Int) ≤ 500 := Int.ofNat_le.mpr (intBits_le hc.2)
  refine pow_int hc.1.1 ?_ q
  have h2 : (Builtin.Int.intBits i : Int) * j ≤ 500 * 8 := Int.mul_le_mul h1 hc.1.2 hc.1.1 (by omega)
  omega
theorem wB_sq (c : -(2 ^ 500) < i ∧ i < 2 ^ 500) (h : Q (.int (i * i)) μ) : wB X W (binaryOp .Pow) (.int i) (.int 2) μ Q Z :=
  .ofV (oo_intC op_powB (i := i) (j := 2) ⟨by decide, by omega⟩) (by
    rw [show i ^ (2 : Int).toNat = i * i from by rw [show (2 : Int).toNat = 2 from rfl, Int.pow_succ, Int.pow_succ, Int.pow_zero, Int.one_mul]]
    exact h)
theorem wB_cube (c : -(2 ^ 500) < i ∧ i < 2 ^ 500) (h : Q (.int (i * i * i)) μ) : wB X W (binaryOp .Pow) (.int i) (.int 3) μ Q Z :=
  .ofV (oo_intC op_powB (i := i) (j := 3) ⟨by decide, by omega⟩) (by
    rw [show i ^ (3 : Int).toNat = i * i * i from by rw [show (3 : Int).toNat = 3 from rfl, Int.pow_succ, Int.pow_succ, Int.pow_succ, Int.pow_zero, Int.one_mul]]
    exact h)
theorem wF_isTT {ds : List D} (h : Q (.bl true) μ) : wF X W (fun us => call (.builtin "isinstance") us) [.tup ds, .ty "tuple"] μ Q Z := wF_isi .tup (.ty "tuple") rfl h
end
end PM

set_option Elab.async false
set_option linter.all false
set_option maxRecDepth 100000
set_option maxHeartbeats 4000000
namespace PM
open PySem
open L2 hiding Inv
/-! ### zip of two: lists and tuples -/
def SIt (t : Bool) (h : Heap) (it l : Addr) (i : Nat) : Prop := if t then h.IsTupleIter it l i else h.IsListIter it l i
def SHas (t : Bool) (h : Heap) (l : Addr) (items : Array Value) : Prop := if t then h.IsTuple l items else h.IsList l items
def SqB (t : Bool) (K : PySem.W.Frag) (H : Hp) (a : Addr) (xs : List V) : Prop := if t then SqT K H a xs else SqL K H a xs
def srcObj (t : Bool) (l : Addr) : Obj := { cls := .type (if t then "tuple_iterator" else "list_iterator"), data := .fields #[.ref l, .int 0 0] }
theorem SIt.begin (t : Bool) {h : Heap} {it l : Addr} (e : h.get? it = some (srcObj t l)) : SIt t h it l 0 := by
  cases t with
  | true => exact ⟨_, e, rfl, rfl⟩
  | false => exact ⟨_, e, rfl, rfl⟩
theorem SIt.at (t : Bool) {h h' : Heap} {it l : Addr} {i : Nat} (s : SIt t h it l i) (k : ∀ o, h.get? it = some o → h'.get? it = some o) : SIt t h' it l i := by
  cases t with
  | true => exact Heap.IsTupleIter.at s k
  | false => exact Heap.IsListIter.at s k
theorem SIt.obj (t : Bool) {h : Heap} {it l : Addr} {i : Nat} (s : SIt t h it l i) : ∃ o, h.get? it = some o ∧ ∀ v, o.data ≠ .cell v := by
  cases t with
  | true => obtain ⟨o, e, _, d⟩ := s; exact ⟨o, e, fun v q => by rw [d] at q; cases q⟩
  | false => obtain ⟨o, e, _, d⟩ := s; exact ⟨o, e, fun v q => by rw [d] at q; cases q⟩
theorem SqB.has {X : Cx} {pins : List (Addr × Obj)} {σ : L2.St} {H : Hp} {s : Shared} {a : Addr} {xs : List V} (t : Bool) (I : L2.Inv X pins σ H s) (q : SqB t X.K H a xs) : ∃ its : List Value, Vals xs its ∧ SHas t s.heap a its.toArray ∧ a < s.heap.objs.size := by
  cases t with
  | true =>
    obtain ⟨its, rv, p, _⟩ := I.tuple q
    exact ⟨its, rv, p, by obtain ⟨o, ho, _⟩ := p; exact Heap.lt_size ho⟩
  | false =>
    obtain ⟨its, rv, p, _⟩ := I.list q
    exact ⟨its, rv, p.isList, p.lt⟩
theorem SqB.inj {X : Cx} {pins : List (Addr × Obj)} {σ : L2.St} {H : Hp} {s : Shared} {a : Addr} {xs ys : List V} (t : Bool) (I : L2.Inv X pins σ H s) (q : SqB t X.K H a xs) (q' : SqB t X.K H a ys) : xs = ys := by
  cases t with
  | true => exact I.tuple_inj q q'
  | false => exact I.list_inj q q'
/-- the items of two, in new pairs -/
def Itz2 (K : PySem.W.Frag) (ta tb : Bool) (a b : Addr) : It :=
  ⟨fun i H => ∃ (xs ys : List V) (x y : V), SqB ta K H a xs ∧ SqB tb K H b ys ∧ xs[i]? = some x ∧ ys[i]? = some y,
    fun i H v H' => ∃ T x y, v = .ref T ∧ H T = none ∧ H' = upd H T (.tup [x, y]) ∧ (∀ xs, SqB ta K H a xs → xs[i]? = some x) ∧ ∀ ys, SqB tb K H b ys → ys[i]? = some y,
    fun i H => ∃ xs ys : List V, SqB ta K H a xs ∧ SqB tb K H b ys ∧ (i ≤ xs.length ∧ i ≤ ys.length) ∧ (xs.length = i ∨ ys.length = i)⟩
def iZip2 (K : PySem.W.Frag) (t : TA) : TI := fun σ H R => t σ H fun vs H1 => ∃ ta tb a b xs ys, vs = [.ref a, .ref b] ∧ SqB ta K H1 a xs ∧ SqB tb K H1 b ys ∧ R (Itz2 K ta tb a b) H1
/-! as rules -/
theorem SqB.mono (t : Bool) {K : PySem.W.Frag} {G H : Hp} {a : Addr} {xs : List V} (s : Same G H) (q : SqB t K G a xs) : SqB t K H a xs := by
  cases t with
  | true => exact Same.sqT s q
  | false => exact Same.sqL s q
/-- a list or a tuple that nobody changes -/
def Lot (d : D) (ds : List D) : Prop := d = .lst ds ∨ d = .tup ds
theorem Lot.at_ {μ : List M} {K : PySem.W.Frag} {L : List Addr} {G H : Hp} {d : D} {ds : List D} {v : V} (c : Lot d ds) (o : Ok K L G H μ) (r : Rep K L G d v) : ∃ t a vs, v = .ref a ∧ SqB t K G a vs ∧ SqB t K H a vs ∧ Reps K L G ds vs := by
  rcases c with rfl | rfl
  · obtain ⟨a, vs, e, q, rr⟩ := rep_lst.mp r
    exact ⟨false, a, vs, e, SqL.of q, SqL.of (o.sub _ _ q), rr⟩
  · obtain ⟨a, vs, e, q, rr⟩ := rep_tup.mp r
    exact ⟨true, a, vs, e, q, Same.sqT o.sub q, rr⟩
section
variable {X : Cx} {W : WX} {ρ : Env'} {μ : List M} {e e2 : Expr} {elts : List Expr} {kk : Nat} {tpos p pos : Pos} {QA : KA} {Z : KX}
end
end PM

set_option Elab.async false
set_option linter.all false
set_option maxRecDepth 100000
set_option maxHeartbeats 4000000
namespace PM
open PySem PySem.Spec L2 PyProof.Rows
/-! ### defs that may be called while an exception is handled: they neither walk nor raise -/
structure GdC (X : Cx) (W : WX) (k : Nat) : Prop where
  nd : X.N.Nodup
  tk : L2.Takes X W
  hr : L2H.RoomH k X.A
structure FxC (X : Cx) (W : WX) (k : Nat) (N : List Str) (V : List Kd) (Gs : List Str) : Prop extends GdC X W k, Nx' X N V Gs
theorem GdC.suite {X : Cx} {W : WX} {k : Nat} {a : Addr} {pn : List (Addr × Obj)} (g : Gd X W k) : GdC (X.suite a pn) W0 k := ⟨g.nd, fun u s' ⟨_, _, _, _, _, _, _, _, _, _, _, _, _, _, _, _, w⟩ => w, ⟨g.hr.dp, g.hr.un⟩⟩
abbrev cxC (P : Program) (w : World) (K : PySem.W.Frag) (mg : Str → Option Value) (base : Heap) (N : List Str) (qual : Str) (scope : Scope) (f : Addr) (cd : Value) (A : Around) (outer : List Env) (s : Shared) (H : Hp) (E : XK) : Cx :=
  { cxOf (L2.CX P w) P w K mg base N qual scope f cd A outer s H E with calm := false }
structure FnC (P : Program) (w : World) (K : PySem.W.Frag) (mg : Str → Option Value) (base : Heap) (k : Nat) (f : Addr) (fd : FuncData) (ps : List Str) (sp : Sp) : Prop where
  len : ∀ vs H Q E, sp vs H Q E → vs.length = ps.length
  run : ∀ (A : Around) (outer : List Env) (s : Shared) (H : Hp) (args : Args) (us : List Value) (vs : List V) (Q : VK) (E : XK), L2H.RoomH k A → Env0 P w K mg base A outer s H → BindsTo s fd args (ps.zip us) → Vals vs us → sp vs H Q E →
    codeAny (model P w) A (.call (.ref f) args) (CR (L2.CX P w) outer P w H s Q E) s
def SpC (P : Program) (w : World) (K : PySem.W.Frag) (mg : Str → Option Value) (base : Heap) (f : Fnx) (ds : List D) (μ : List M) (Q : KV) (Z : KX) : Prop := FnC P w K mg base f.lv f.a f.fd f.ps (spH K ds μ Q Z)
abbrev SpCX (X : Cx) (f : Fnx) (ds : List D) (μ : List M) (Q : KV) (Z : KX) : Prop := SpC X.prog X.w X.K X.mg X.base f ds μ Q Z
section
variable {P : Program} {w : World} {K : PySem.W.Frag} {mg : Str → Option Value} {base : Heap}
end
section
variable {X : Cx} {W : WX} {k : Nat} {N : List Str} {V : List Kd} {Gs : List Str} {ρ : Env'} {μ : List M} {e : Expr} {es : List Expr} {Q : KV} {Z : KX} {ds : List D} {db : D} {p pos : Pos} {x : Str} {f : Fnx} {C : Addr} {ns : List Str} {fs : List D}
theorem SpC.call (h : SpCX X f ds μ Q Z) (bd : Binds X.K f.fd f.ps []) (g : GdC X W k) (hj : f.lv ≤ k) : wF X W (fun us => call (.ref f.a) us) ds μ Q Z := by
  refine ⟨fun pins s σ H xs us R L G I rx ok r av ax => ?_⟩
  have hsp : spH X.K ds μ Q Z xs H R (WE W σ) := ⟨L, G, ok, r, av, ax⟩
  have hl : us.length = f.ps.length := by rw [← rx.length]; exact h.len _ _ _ _ hsp
  have b := bd s us I.kIn (by rw [List.append_nil]; exact hl)
  rw [List.append_nil] at b
  refine wpAny_call (codeAny_mono (h.run X.A X.stack s H ⟨us, []⟩ us xs R (WE W σ) (g.hr.mono hj) I.env0 b rx hsp) fun r s' hq => ?_)
  cases r with
  | error e => exact passAt g.tk σ pins H s e s' I hq
  | ok fl =>
    cases fl with
    | ret u => exact I.after hq
    | next => exact False.elim hq
    | brk => exact False.elim hq
    | cont => exact False.elim hq
end
end PM

set_option Elab.async false
set_option linter.all false
set_option maxRecDepth 100000
set_option maxHeartbeats 4000000
namespace PM
open PySem L2
/-! ### slices of both ends, tuples whole or not -/
section
variable {X : Cx} {W : WX} {ρ : Env'} {μ : List M} {e a b : Expr} {pos p2 : Pos} {Q : KV} {Z : KX}
end
end PM

set_option Elab.async false
set_option linter.all false
set_option maxRecDepth 100000
set_option maxHeartbeats 4000000
namespace PM
open PySem PySem.SeqAt
open AutoSeq1 (wpAny_loadPart')
open MeetsSeq MeetsSeq2 MeetsSeq3 SeqRoads2
/-! ### == of tuples whose items are compared by own methods -/
section
variable {prog : Program} {w : World} {A : Around} {R : Result → Shared → Prop}
theorem tuple_eqB (l b : Addr) (xs ys : Array Value) (n n2 : Nat) (dd dd2 : Option Addr) (sl sl2 : Array (Option Value)) (e : Nat → Bool) (I : Shared → Prop)
    (turn : ∀ i (h1 : i < xs.size) (h2 : i < ys.size) s, I s → wpAny (model prog w) A.in1 (eqBool xs[i] ys[i]) (fun r s' => r = e i ∧ I s') (fun x s' => R (.error x) s') s)
    (fin : ∀ s, I s → R (.ok (.ret (.bool ((List.range (min xs.size ys.size)).all e && xs.size == ys.size)))) s) {s : Shared} (hl1 : s.heap.get? l = some { cls := .type "tuple", dict := dd, data := .seq xs n, slots := sl }) (hb1 : s.heap.get? b = some { cls := .type "tuple", dict := dd2, data := .seq ys n2, slots := sl2 }) (h : I s) :
    wpAny (model prog w) A.in1 (Builtin.«tuple.__eq__» ⟨[.ref l, .ref b], []⟩) (GQ.FinOf prog w A R) (fun x s' => R (.error x) s') s := by
  have f2 := AutoSeq1.sub_tuple_tuple
  have hZ : (xs.toList.zip ys.toList).length = min xs.size ys.size := by simp
  have h0 := h
  have fin' : ∀ i, (List.range (min xs.size ys.size)).take i |>.all e → ∀ s, I s → R (.ok (.ret (.bool (((List.range (min xs.size ys.size)).drop i).all e && xs.size == ys.size)))) s := fun i hi s hs => by
    have q := fin s hs
    rw [← List.take_append_drop i (List.range (min xs.size ys.size)), List.all_append, hi, Bool.true_and] at q
    exact q
  obtain ⟨hp, g, d, tk, os⟩ := s
  wp_walk using wpAny_loadPart' hl1, wpAny_loadPart' hb1, wpAny_forIn_list _ (fun rest b s' => b.1 = none ∧ ∃ i, rest = (xs.toList.zip ys.toList).drop i ∧ ((List.range (min xs.size ys.size)).take i).all e = true ∧ I s') _
  case turn =>
    rintro ⟨y, x⟩ rest b s' ⟨hb', i, hz, hi, hI⟩
    have hlt : i < (xs.toList.zip ys.toList).length := by
      rcases Nat.lt_or_ge i (xs.toList.zip ys.toList).length with h' | h'
      · exact h'
      · rw [List.drop_of_length_le h'] at hz; cases hz
    have hm : i < min xs.size ys.size := hZ ▸ hlt
    have h1 : i < xs.size := Nat.lt_of_lt_of_le hm (Nat.min_le_left _ _)
    have h2 : i < ys.size := Nat.lt_of_lt_of_le hm (Nat.min_le_right _ _)
    rw [List.drop_eq_getElem_cons hlt] at hz
    injection hz with hyx hrest
    have hy : y = xs[i] := by have := congrArg Prod.fst hyx; simpa using this
    have hx : x = ys[i] := by have := congrArg Prod.snd hyx; simpa using this
    subst hy hx
    have hd : (List.range (min xs.size ys.size)).drop i = i :: (List.range (min xs.size ys.size)).drop (i + 1) := by simp [List.drop_eq_getElem_cons, hm]
    have ht : (List.range (min xs.size ys.size)).take (i + 1) = (List.range (min xs.size ys.size)).take i ++ [i] := by rw [List.take_add_one]; simp [hm]
    refine wpAny_bind (wpAny_mono (turn i h1 h2 s' hI) (fun r s2 q2 => ?_) fun _ _ x => x)
    obtain ⟨hr, q2⟩ := q2
    subst hr
    have f3 := fin' i hi s2 q2
    rw [hd, List.all_cons] at f3
    cases he : e i with
    | true =>
      wp_walk
      exact ⟨rfl, i + 1, hrest, by rw [ht, List.all_append, hi]; simp [he], q2⟩
    | false =>
      rw [he] at f3
      wp_walk
      simpa using f3
  case fin =>
    rintro ⟨b1, b2⟩ s' ⟨hb', i, hz, hi, hI⟩
    simp only at hb'
    subst hb'
    have hge : min xs.size ys.size ≤ i := by
      rcases Nat.lt_or_ge i (xs.toList.zip ys.toList).length with h' | h'
      · rw [List.drop_eq_getElem_cons h'] at hz; cases hz
      · exact hZ ▸ h'
    have f3 := fin' i hi s' hI
    rw [List.drop_of_length_le (by simpa using hge)] at f3
    wp_walk
    simpa [Builtin.Tuple.tupleCompareSizes] using f3
  case h =>
    exact ⟨rfl, 0, rfl, rfl, h0⟩
end
end PM

set_option Elab.async false
set_option linter.all false
set_option maxRecDepth 100000
set_option maxHeartbeats 4000000
namespace PM
open PySem
open L2 hiding Inv
/-- items that are compared: b says whether they are equal -/
structure EqI (X : Cx) (μ : List M) (d e : D) (b : Bool) : Prop where
  rf : ∀ L G v, Rep X.K L G d v → ∃ a, v = .ref a
  rf2 : ∀ L G v, Rep X.K L G e v → ∃ a, v = .ref a
  same : ∀ pins s σ H L G v, L2.Inv X pins σ H s → Ok X.K L G H μ → Rep X.K L G d v → Rep X.K L G e v → b = true
  cmp : OpO X W0 (richCompare .Eq) d e μ (.ret (.bl b) μ)
def LoopB (X : Cx) (μ : List M) (pins : List (Addr × Obj)) (σ : L2.St) (L : List Addr) (G H : Hp) (s' : Shared) : Prop := ∃ L' G' H', L2.Inv X pins σ H' s' ∧ Ok X.K L' G' H' μ ∧ Step L G H L' G' H'
section
variable {X : Cx} {W : WX} {k : Nat} {μ : List M}
theorem EqI.run {d e : D} {b : Bool} (h : EqI X μ d e b) {pins : List (Addr × Obj)} {s : Shared} {σ : L2.St} {H : Hp} {x y : V} {v u : Value} {L : List Addr} {G : Hp} (I : L2.Inv X pins σ H s) (rx : RelV x v) (ry : RelV y u) (ok : Ok X.K L G H μ) (r1 : Rep X.K L G d x) (r2 : Rep X.K L G e y) :
    wpAny (model X.prog X.w) X.A (eqBool v u) (fun r s1 => r = b ∧ LoopB X μ pins σ L G H s1) X.xe s := by
  obtain ⟨a, rfl⟩ := h.rf _ _ _ r1
  obtain ⟨c, rfl⟩ := h.rf2 _ _ _ r2
  cases rx
  cases ry
  by_cases hac : a = c
  · subst hac
    have hb := h.same pins s σ H L G _ I ok r1 r2
    unfold eqBool
    refine wpAny_holding ?_
    refine wpAny_ite_split (fun _ => ?_) (fun z => absurd (beq_self_eq_true _) z)
    exact wpAny_bind (wpAny_rule (wpAny_pure ⟨hb.symm, L, G, H, I, ok, .refl _ _ _⟩))
  · refine GQ.eqBool_refG hac (wpAny_mono (h.cmp pins s σ H (.ref a) (.ref c) (.ref a) (.ref c) (fun v H1 => v = .bl b ∧ ∃ L1 G1, Ok X.K L1 G1 H1 μ ∧ Step L G H L1 G1 H1) L G I rfl rfl ok r1 r2 (fun v L1 G1 H1 s1 o1 r1 => ⟨rep_bl.mp r1, L1, G1, o1, s1⟩)) (fun r s1 hr => ?_) fun _ _ z => z)
    obtain ⟨z, H1, I1, rz, rfl, L1, G1, o1, s1⟩ := hr
    cases rz
    exact ⟨b, rfl, rfl, L1, G1, H1, I1, o1, s1⟩
/-- == of tuples, item by item -/
theorem oc_eqTup (g : Gd X W (k + 1)) {ds es : List D} (f : Nat → Bool) (h : ∀ (i : Nat) (d e : D), ds[i]? = some d → es[i]? = some e → EqI (PM.inC X) μ d e (f i)) :
    OpO X W (richCompare .Eq) (.tup ds) (.tup es) μ (.ret (.bl ((List.range (min ds.length es.length)).all f && ds.length == es.length)) μ) := by
  intro pins s σ H x y v u Q L G I rx ry ok r1 r2 co
  obtain ⟨a, vs, rfl, q1, rr1⟩ := rep_tup.mp r1
  obtain ⟨c, us, rfl, q2, rr2⟩ := rep_tup.mp r2
  cases rx
  cases ry
  obtain ⟨its, rv, p, _⟩ := I.tuple (Same.sqT ok.sub q1)
  obtain ⟨its2, rv2, p2, _⟩ := I.tuple (Same.sqT ok.sub q2)
  obtain ⟨⟨cls, dd, data, sl⟩, ho, hc, n, hd⟩ := id p
  obtain ⟨⟨cls2, dd2, data2, sl2⟩, ho2, hc2, n2, hd2⟩ := id p2
  simp only at hc hd hc2 hd2
  subst hc hd hc2 hd2
  have hu : X.A.units < cLine := by have := g.hr.un; omega
  refine wpAny_richCompare_same_room (op := .Eq) ⟨_, ho, rfl⟩ ⟨_, ho2, rfl⟩ PySem.F.slot_tuple_eq (GQ.call_here PySem.F.slot_tuple_eq ⟨_, ho, rfl⟩ PySem.F.entry_tuple_eq (PySem.F.args_tuple_eq_2 _ _) ?_) hu
  have n1 : its.toArray.size = ds.length := by rw [List.size_toArray, ← rv.length, rr1.length]
  have n2' : its2.toArray.size = es.length := by rw [List.size_toArray, ← rv2.length, rr2.length]
  refine tuple_eqB a c its.toArray its2.toArray n n2 dd dd2 sl sl2 f (fun s' => LoopB X μ pins σ L G H s') (fun i h1 h2 s' hI => ?_) (fun s' hI => ?_) ho ho2 ⟨L, G, H, I, ok, .refl _ _ _⟩
  · obtain ⟨L1, G1, H1, I1, o1, s1⟩ := hI
    have k1 : i < ds.length := by rw [← n1]; exact h1
    have k2 : i < es.length := by rw [← n2']; exact h2
    obtain ⟨x, ex, rx⟩ := (rr1.step s1).get (List.getElem?_eq_getElem k1)
    obtain ⟨y, ey, ry⟩ := (rr2.step s1).get (List.getElem?_eq_getElem k2)
    obtain ⟨v, ev, rv'⟩ := rv.get ex
    obtain ⟨u, eu, ru'⟩ := rv2.get ey
    have g1 : its.toArray[i] = v := by
      have : its[i]? = some its.toArray[i] := by rw [List.getElem?_eq_getElem (by simpa using h1)]; simp
      rw [this] at ev
      exact Option.some.inj ev
    have g2 : its2.toArray[i] = u := by
      have : its2[i]? = some its2.toArray[i] := by rw [List.getElem?_eq_getElem (by simpa using h2)]; simp
      rw [this] at eu
      exact Option.some.inj eu
    rw [g1, g2]
    have hrun := (h i _ _ (List.getElem?_eq_getElem k1) (List.getElem?_eq_getElem k2)).run (pins := pins) (σ := σ) (inC_inv I1) rv' ru' o1 rx ry
    refine wpAny_mono hrun (fun r s2 hr => ?_) (fun _ _ z => False.elim z)
    obtain ⟨hr, L2, G2, H2, I2, o2, s2'⟩ := hr
    exact ⟨hr, L2, G2, H2, inC_back I1.ok I2, o2, s1.trans s2'⟩
  · obtain ⟨L1, G1, H1, I1, o1, s1⟩ := hI
    rw [n1, n2']
    refine ⟨(fun x => nomatch x), ?_⟩
    exact back ⟨.bl _, H1, I1, rfl, co _ L1 G1 H1 s1 o1 (rep_bl.mpr rfl)⟩
/-- tuples among the items -/
theorem EqI.tup (g : Gd X W (k + 1)) {ds es : List D} (f : Nat → Bool) (h : ∀ (i : Nat) (d e : D), ds[i]? = some d → es[i]? = some e → EqI (PM.inC X) μ d e (f i)) :
    EqI X μ (.tup ds) (.tup es) ((List.range (min ds.length es.length)).all f && ds.length == es.length) where
  rf := fun L G v r => by obtain ⟨a, _, e, _⟩ := rep_tup.mp r; exact ⟨a, e⟩
  rf2 := fun L G v r => by obtain ⟨a, _, e, _⟩ := rep_tup.mp r; exact ⟨a, e⟩
  same := fun pins s σ H L G v I ok r1 r2 => by
    obtain ⟨a, vs, rfl, q1, rr1⟩ := rep_tup.mp r1
    obtain ⟨c, us, ec, q2, rr2⟩ := rep_tup.mp r2
    cases ec
    have ev := I.tuple_inj (Same.sqT ok.sub q1) (Same.sqT ok.sub q2)
    subst ev
    have el : ds.length = es.length := rr1.length.symm.trans rr2.length
    rw [el, Nat.min_self, beq_self_eq_true, Bool.and_true, List.all_eq_true]
    intro i hi
    have hi' : i < es.length := List.mem_range.mp hi
    have hi2 : i < ds.length := by omega
    obtain ⟨x, ex, rx⟩ := rr1.get (List.getElem?_eq_getElem hi2)
    obtain ⟨y, ey, ry⟩ := rr2.get (List.getElem?_eq_getElem hi')
    rw [ex] at ey
    cases ey
    exact (h i _ _ (List.getElem?_eq_getElem hi2) (List.getElem?_eq_getElem hi')).same pins s σ H L G _ (inC_inv I) ok rx ry
  cmp := oc_eqTup (W := W0) g.w0 f h
/-- by one list of each -/
theorem all_eq {α : Type} [DecidableEq α] (xs ys : List α) : ((List.range (min xs.length ys.length)).all (fun i => decide (xs[i]? = ys[i]?)) && xs.length == ys.length) = decide (xs = ys) := by
  rw [Bool.eq_iff_iff, Bool.and_eq_true, List.all_eq_true, decide_eq_true_eq, beq_iff_eq]
  constructor
  · rintro ⟨h, hl⟩
    refine List.ext_getElem? fun i => ?_
    by_cases hi : i < xs.length
    · exact of_decide_eq_true (h i (List.mem_range.mpr (by omega)))
    · rw [List.getElem?_eq_none (by omega), List.getElem?_eq_none (by omega)]
  · rintro rfl
    exact ⟨fun i _ => by simp, rfl⟩
theorem oc_eqMap (g : Gd X W (k + 1)) {α : Type} [DecidableEq α] (rd : α → D) (xs ys : List α) (h : ∀ x ∈ xs, ∀ y ∈ ys, EqI (PM.inC X) μ (rd x) (rd y) (decide (x = y))) :
    OpO X W (richCompare .Eq) (.tup (xs.map rd)) (.tup (ys.map rd)) μ (.ret (.bl (decide (xs = ys))) μ) := by
  have := oc_eqTup (X := X) (W := W) (μ := μ) g (ds := xs.map rd) (es := ys.map rd) (fun i => decide (xs[i]? = ys[i]?)) (fun i d e hd he => by
    rw [List.getElem?_map] at hd he
    obtain ⟨x, ex, rfl⟩ := Option.map_eq_some_iff.mp hd
    obtain ⟨y, ey, rfl⟩ := Option.map_eq_some_iff.mp he
    have q := h x (List.mem_of_getElem? ex) y (List.mem_of_getElem? ey)
    rw [ex, ey]
    simpa using q)
  rw [List.length_map, List.length_map, all_eq] at this
  exact this
theorem EqI.map (g : Gd X W (k + 1)) {α : Type} [DecidableEq α] (rd : α → D) (xs ys : List α) (h : ∀ x ∈ xs, ∀ y ∈ ys, EqI (PM.inC X) μ (rd x) (rd y) (decide (x = y))) :
    EqI X μ (.tup (xs.map rd)) (.tup (ys.map rd)) (decide (xs = ys)) := by
  have := EqI.tup (X := X) (W := W) (μ := μ) g (ds := xs.map rd) (es := ys.map rd) (fun i => decide (xs[i]? = ys[i]?)) (fun i d e hd he => by
    rw [List.getElem?_map] at hd he
    obtain ⟨x, ex, rfl⟩ := Option.map_eq_some_iff.mp hd
    obtain ⟨y, ey, rfl⟩ := Option.map_eq_some_iff.mp he
    have q := h x (List.mem_of_getElem? ex) y (List.mem_of_getElem? ey)
    rw [ex, ey]
    simpa using q)
  rw [List.length_map, List.length_map, all_eq] at this
  exact this
end
end PM

set_option Elab.async false
set_option linter.all false
set_option maxRecDepth 100000
set_option maxHeartbeats 4000000
namespace PM
open PySem
open L2 hiding Inv
/-! ### list != [] , whatever the items are -/
section
variable {X : Cx} {W : WX} {k : Nat} {μ : List M} {Q : KV} {Z : KX}
theorem wB_neE (g : Gd X W k) {d : D} {ds : List D} (hd : Lqd μ d ds) (h : Q (.bl (!ds.isEmpty)) μ) : wB X W (compareOp .NotEq) d (.lst []) μ Q Z := by
  refine ⟨fun pins s σ H x y v u R L G I rx ry ok r1 r2 av ax => ?_⟩
  obtain ⟨a, vs, rfl, q1, rr⟩ := hd.at_ ok r1
  obtain ⟨c, us, rfl, q2, rr2⟩ := rep_lst.mp r2
  cases rr2.inv_nil
  cases rx
  cases ry
  obtain ⟨its, rv, p1, _⟩ := I.list q1
  obtain ⟨its2, rv2, p2, _⟩ := I.list (SqL.of (ok.sub _ _ q2))
  cases rv2
  have hu : X.A.units < cLine := by have := g.hr.un; omega
  have hlen : its.toArray.size = ds.length := by rw [List.size_toArray, ← rv.length, rr.length]
  show wpAny (model X.prog X.w) X.A (richCompare .NotEq (.ref a) (.ref c)) _ _ s
  have fin : ∀ b : Bool, b = (!ds.isEmpty) → EP X pins σ R (.bool b) s := fun b e => ⟨.bl b, H, I, rfl, av _ _ (e ▸ h) _ L G H (.refl _ _ _) ok (rep_bl.mpr rfl)⟩
  cases ds with
  | nil =>
    have e0 : its.toArray.size = ([] : List Value).toArray.size := hlen
    refine SeqAt.RcNeAt.lists (e := fun _ => true) p1.isList p2.isList e0 hu (fun j h1 h2 => absurd h2 (by simp)) X.prog X.w X.xe _ (fin _ ?_)
    rw [hlen]
    rfl
  | cons d ds =>
    refine SeqAt.RcNeAt.lists_lengths p1.isList p2.isList ?_ hu X.prog X.w X.xe _ (fin _ rfl)
    rw [hlen]
    simp
end
end PM

set_option Elab.async false
set_option linter.all false
set_option maxRecDepth 100000
set_option maxHeartbeats 4000000
namespace PM
open PySem
open L2 hiding Inv
/-! ### for .., .. in zip(l, m), lists that may lie in the store -/
section
variable {K : PySem.W.Frag} {L2 : List Addr} {G2 H2 : Hp} {μ2 : List M} {d d' x y : D} {xs ys : List D} {p q : Addr} {i : Nat}
end
section
variable {X : Cx} {W : WX} {ρ : Env'} {μ : List M} {e e2 : Expr} {elts : List Expr} {kk : Nat} {tpos p pos pos' : Pos} {nx : KN} {κ : Ks}
end
end PM

set_option Elab.async false
set_option linter.all false
set_option maxRecDepth 100000
set_option maxHeartbeats 4000000
namespace PM
open PySem
open L2 hiding Inv
/-! ### for .., .. in enumerate(l), a list that may lie in the store -/
section
variable {K : PySem.W.Frag} {L2 : List Addr} {G2 H2 : Hp} {μ2 : List M} {d x : D} {xs : List D} {p : Addr} {i : Nat}
end
section
variable {X : Cx} {W : WX} {ρ : Env'} {μ : List M} {e : Expr} {elts : List Expr} {kk : Nat} {tpos p pos pos' : Pos} {nx : KN} {κ : Ks}
end
end PM

set_option Elab.async false
set_option linter.all false
set_option maxRecDepth 100000
set_option maxHeartbeats 4000000
namespace PM
open PySem
open Sem (wp)
/-- a tuple of 4 values, as it is made -/
abbrev IsTupOf4 (h : Heap) (T : Addr) (a1 a2 a3 a4 : Value) : Prop := h.get? T = some { cls := .type "tuple", data := .seq #[a1, a2, a3, a4] }
/-- the cells of a zip over 4 iterators lie apart -/
structure ZipSep4 (z TI TO i1 i2 i3 i4 : Addr) (fp1 fp2 fp3 fp4 : List Addr) : Prop where
  TIz : TI ≠ z
  TOz : TO ≠ z
  TITO : TI ≠ TO
  TIi1 : TI ≠ i1
  mem1 : i1 ∈ fp1
  zf1 : z ∉ fp1
  Tf1 : TO ∉ fp1
  TIi2 : TI ≠ i2
  mem2 : i2 ∈ fp2
  zf2 : z ∉ fp2
  Tf2 : TO ∉ fp2
  TIi3 : TI ≠ i3
  mem3 : i3 ∈ fp3
  zf3 : z ∉ fp3
  Tf3 : TO ∉ fp3
  TIi4 : TI ≠ i4
  mem4 : i4 ∈ fp4
  zf4 : z ∉ fp4
  Tf4 : TO ∉ fp4
  sep1_2 : i1 ∉ fp2
  sep1_3 : i1 ∉ fp3
  sep1_4 : i1 ∉ fp4
  sep2_1 : i2 ∉ fp1
  sep2_3 : i2 ∉ fp3
  sep2_4 : i2 ∉ fp4
  sep3_1 : i3 ∉ fp1
  sep3_2 : i3 ∉ fp2
  sep3_4 : i3 ∉ fp4
  sep4_1 : i4 ∉ fp1
  sep4_2 : i4 ∉ fp2
  sep4_3 : i4 ∉ fp3
section
variable {prog : Program} {w : World} {A : Around} {E : Value → Shared → Prop} {s : Shared} {z TI TO i1 i2 i3 i4 : Addr} {fp1 fp2 fp3 fp4 : List Addr} {n1 n2 n3 n4 i : Nat} {P1 P2 P3 P4 : Nat → Value → Prop} {St1 St2 St3 St4 : Nat → Heap → Prop} {a1 a2 a3 a4 : Value}
end
abbrev gzT4 (h : Heap) (o1 o2 o3 o4 : Obj) : Heap := ((((h.push o1).push o2).push o3).push o4).push { cls := .type "tuple", data := .seq #[.ref h.objs.size, .ref (h.push o1).objs.size, .ref ((h.push o1).push o2).objs.size, .ref (((h.push o1).push o2).push o3).objs.size] }
abbrev gzO4 (h : Heap) (o1 o2 o3 o4 : Obj) : Heap := (gzT4 h o1 o2 o3 o4).push { cls := .type "tuple", data := .seq #[.none, .none, .none, .none] }
abbrev gzZ4 (h : Heap) (o1 o2 o3 o4 : Obj) : Heap := (gzO4 h o1 o2 o3 o4).push { cls := .type "zip", data := .fields #[.none, .bool false, .bool false, .ref ((((h.push o1).push o2).push o3).push o4).objs.size, .ref (gzT4 h o1 o2 o3 o4).objs.size] }
section
variable {prog : Program} {w : World} {A : Around} {E : Value → Shared → Prop} {s : Shared}
end
open L2 hiding Inv
/-- the items of 4, in new tuples -/
def Itz4 (K : PySem.W.Frag) (t1 t2 t3 t4 : Bool) (l1 l2 l3 l4 : Addr) : It :=
  ⟨fun i H => ∃ (xs1 xs2 xs3 xs4 : List V) (x1 x2 x3 x4 : V), SqB t1 K H l1 xs1 ∧ SqB t2 K H l2 xs2 ∧ SqB t3 K H l3 xs3 ∧ SqB t4 K H l4 xs4 ∧ xs1[i]? = some x1 ∧ xs2[i]? = some x2 ∧ xs3[i]? = some x3 ∧ xs4[i]? = some x4,
    fun i H v H' => ∃ T x1 x2 x3 x4, v = .ref T ∧ H T = none ∧ H' = upd H T (.tup [x1, x2, x3, x4]) ∧ (∀ xs, SqB t1 K H l1 xs → xs[i]? = some x1) ∧ (∀ xs, SqB t2 K H l2 xs → xs[i]? = some x2) ∧ (∀ xs, SqB t3 K H l3 xs → xs[i]? = some x3) ∧ (∀ xs, SqB t4 K H l4 xs → xs[i]? = some x4),
    fun i H => ∃ xs1 xs2 xs3 xs4 : List V, SqB t1 K H l1 xs1 ∧ SqB t2 K H l2 xs2 ∧ SqB t3 K H l3 xs3 ∧ SqB t4 K H l4 xs4 ∧ (i ≤ xs1.length ∧ i ≤ xs2.length ∧ i ≤ xs3.length ∧ i ≤ xs4.length) ∧ (xs1.length = i ∨ xs2.length = i ∨ xs3.length = i ∨ xs4.length = i)⟩
def iZip4 (K : PySem.W.Frag) (t : TA) : TI := fun σ H R => t σ H fun vs H1 => ∃ t1 t2 t3 t4 l1 l2 l3 l4 xs1 xs2 xs3 xs4, vs = [.ref l1, .ref l2, .ref l3, .ref l4] ∧ SqB t1 K H1 l1 xs1 ∧ SqB t2 K H1 l2 xs2 ∧ SqB t3 K H1 l3 xs3 ∧ SqB t4 K H1 l4 xs4 ∧ R (Itz4 K t1 t2 t3 t4 l1 l2 l3 l4) H1
section
variable {X : Cx} {W : WX} {ρ : Env'} {μ : List M} {e1 e2 e3 e4 : Expr} {elts : List Expr} {kk : Nat} {tpos p pos : Pos} {QA : KA} {Z : KX}
end
end PM

set_option Elab.async false
set_option linter.all false
set_option maxRecDepth 100000
set_option exponentiation.threshold 20000
namespace PM
open PySem L2
/-! numbers to 2 ^ 4000 -/
section
variable {X : Cx} {W : WX} {μ : List M} {i j : Int} {Q : KV} {Z : KX}
end
end PM

set_option Elab.async false
set_option linter.all false
set_option maxRecDepth 100000
set_option maxHeartbeats 4000000
namespace PM
open PySem
open L2 hiding Inv
/-! ### t + u of tuples; own OP own by what the def promises -/
section
variable {X : Cx} {W : WX} {μ : List M} {ds es : List D} {Q : KV} {Z : KX}
theorem oo_catA (h : ds.length + es.length ≤ sizeLine) : OpO X W (binaryOp .Add) (.tup ds) (.tup es) μ (.ret (.tup (ds ++ es)) μ) :=
  opO_of op_catA fun σ u v H Q L G o r1 r2 c => by
    obtain ⟨a, vs, rfl, q1, s1⟩ := rep_tup.mp r1
    obtain ⟨b, us, rfl, q2, s2⟩ := rep_tup.mp r2
    refine ⟨a, b, vs, us, rfl, rfl, Same.sqT o.sub q1, Same.sqT o.sub q2, by rw [s1.length, s2.length]; exact h, fun z => ?_, fun z1 z2 => ?_, fun z1 z2 p hp => ?_⟩
    · have e : ds = [] := List.length_eq_zero_iff.mp (by rw [← s1.length, z]; rfl)
      exact CO.now (W := W) (σ := σ) c o (by rw [e, List.nil_append]; exact r2)
    · have e : es = [] := List.length_eq_zero_iff.mp (by rw [← s2.length, z2]; rfl)
      exact CO.now (W := W) (σ := σ) c o (by rw [e, List.append_nil]; exact r1)
    · refine CO.fresh (W := W) (σ := σ) c o hp (rep_tup.mpr ⟨p, vs ++ us, rfl, SqT.of upd_same, ?_⟩)
      have e := (o.new (p := p) (o := .tup (vs ++ us)) hp).2.gs
      exact (s1.mono (Pre.refl _) e).append (s2.mono (Pre.refl _) e)
theorem wB_catA (c : ds.length + es.length ≤ sizeLine) (h : Q (.tup (ds ++ es)) μ) : wB X W (binaryOp .Add) (.tup ds) (.tup es) μ Q Z := .ofV (oo_catA c) h
end
section
variable {X : Cx} {W : WX} {k : Nat} {μ : List M} {Q : KV} {Z : KX} {C : Addr} {ns ns' : List Str} {fs fs' : List D}
/-- a op b, both of the class -/
theorem wB_binO {op : Operator} (f : Fnx) (g : Gd X W k) (oc : OwnC X.K C) (hm : Meth X.K C (PySem.dunder op.info.2) f.a) (bd : Binds X.K f.fd f.ps []) (h : SpX X f [.obj C ns fs, .obj C ns' fs'] μ Q Z) (hj : f.lv ≤ k := by exact Nat.le_of_ble_eq_true rfl) : wB X W (binaryOp op) (.obj C ns fs) (.obj C ns' fs') μ Q Z := by
  refine ⟨fun pins s σ H x yy v u R L G I rx ry ok r1 r2 av ax => ?_⟩
  obtain ⟨m, fr⟩ := I.fr
  have ty := looks_ty I ok (.obj oc) r2 ry
  obtain ⟨a, dx, vs, rfl, q, _⟩ := rep_obj.mp r1
  cases rx
  obtain ⟨ox, od, J⟩ := inst_at I (ok.sub _ _ q)
  exact PySem.W.binop_K fr I.mod.kin J ty oc.self hm.at_ hm.fn (wpAny_mono ((h.call bd g hj).run pins s σ H [.ref a, yy] [.ref a, u] R L G I (.cons rfl (.cons ry .nil)) ok (Reps.cons r1 (Reps.cons r2 Reps.nil)) av ax) (fun _ _ z => back z) fun _ _ z => z)
end
section
variable {X : Cx} {W : WX} {k j : Nat} {ps : List Str} {R : Rl} {f C : Addr} {fd : FuncData} {μ μ2 : List M} {ns : List Str} {fs : List D} {d : D} {b : Bool}
/-- d not in o, by __contains__ -/
theorem oc_notInOwn (g : Gd X W k) (hm : Meth X.K C "__contains__" f) (cl : Cal X.prog X.w X.K X.mg X.base j ps R f fd) (hR : R [.obj C ns fs, d] μ (.ret (.bl b) μ2)) (hj : j ≤ k := by decide) : OpO X W (compareOp .NotIn) d (.obj C ns fs) μ (.ret (.bl (!b)) μ2) := by
  intro pins s σ H x y v u Q L G I rx ry ok r1 r2 co
  obtain ⟨a, dx, vs, rfl, q, _⟩ := rep_obj.mp r2
  cases ry
  obtain ⟨ox, od, J⟩ := inst_at I (ok.sub _ _ q)
  have hr := g.hr.mono hj
  obtain ⟨m, fr⟩ := I.fr
  have co' : Comes X.K L G H (.bl b) μ2 (fun _ H' => Q (.bl (!b)) H') := fun v L' G' H' s' o' r' => co (.bl (!b)) L' G' H' s' o' (rep_bl.mpr rfl)
  refine PySem.W.notIn_K fr I.mod.kin J hm.at_ hm.fn (wpAny_mono (cl.runV hr (g.gr.mono (by omega)) I.env0 hR I (xs := [.ref a, x]) (.cons rfl (.cons rx .nil)) ok (Reps.cons r2 (Reps.cons r1 Reps.nil)) co') (fun r s' hr => ?_) fun _ _ y => y)
  obtain ⟨v, H', I', rv, ⟨_, _, z⟩, q'⟩ := hr
  rw [rep_bl.mp z] at rv
  cases rv
  exact wpAny_truthy_bool ⟨.bl (!b), H', I', rfl, q'⟩
end
end PM

set_option Elab.async false
set_option linter.all false
set_option maxRecDepth 100000
set_option maxHeartbeats 4000000
/-! «yield from» over any tuple that is read, one of the module too; list(o.m()) of a generator method -/
namespace PM
open PySem PySem.Spec PyProof.Rows GenW
open L2
/-- an iterator by its turns; what lies below the call stays, too -/
structure ItK (X : Cx) (H : Hp) (it : Addr) (xs : List V) (Sd : Nat → Heap → Prop) : Prop where
  kind : ∃ T, (∀ j h, Sd j h → ∃ o, h.get? it = some o ∧ o.cls = .type T) ∧ typeLookup (.type T) "close" = pure none ∧ (Value.type T != Value.type "generator") = true
  stay : ∀ j h g, Sd j h → (∀ b o, (b = it ∨ H b ≠ none ∨ b < X.s_0.heap.objs.size) → h.get? b = some o → g.get? b = some o) → Sd j g
  turn : ∀ (B : Around) (j : Nat) (x : V) (s : Shared) (Q : Option Value → Shared → Prop) (F : Value → Shared → Prop), B.handled = none → xs[j]? = some x → Sd j s.heap → (∀ v g tk, RelV x v → Sd (j + 1) g → (∀ b o, b ≠ it → s.heap.get? b = some o → g.get? b = some o) → Q (some v) { s with heap := g, toks := tk }) → wpAny (model X.prog X.w) B (callSpecial? (.ref it) "__next__") Q F s
  stop : ∀ (B : Around) (s : Shared) (Q : Option Value → Shared → Prop) (F : Value → Shared → Prop), B.handled = none → Sd xs.length s.heap → (∀ e g tk, StopX e g → (∀ b o, b ≠ it → s.heap.get? b = some o → g.get? b = some o) → F e { s with heap := g, toks := tk }) → wpAny (model X.prog X.w) B (callSpecial? (.ref it) "__next__") Q F s
structure YfK (X : Cx) (e : Expr) (t : TYf) : Prop where
  run : ∀ (pins : List (Addr × Obj)) (s : Shared) (σ : L2.St) (H : Hp) (Q : List V → Hp → Prop), L2.Inv X pins σ H s → t σ H Q → wpAny (model X.prog X.w) X.A (eval e X.env) (fun v s1 => ∃ T, s1.TypeIs v T ∧ (Value.type T == Value.type "coroutine") = false ∧ wpAny (model X.prog X.w) X.A (pyIter v) (fun u s2 => ∃ (it : Addr) (H' : Hp) (xs : List V) (Sd : Nat → Heap → Prop), u = .ref it ∧ L2.Inv X pins σ H' s2 ∧ (it ∈ X.ex ∨ X.s_0.heap.objs.size ≤ it) ∧ it ≠ X.env.locals ∧ (∀ x c, X.env.cells.lookup x = some c → c ≠ it) ∧ H' it = none ∧ (∀ p ∈ X.pn ++ pins, p.1 ≠ it) ∧ Sd 0 s2.heap ∧ ItK X H' it xs Sd ∧ Q xs H') X.xe s1) X.xe s
section
variable {X : Cx} {e : Expr} {yp pos : Pos} {te : TE}
theorem seg_K {S : Addr} {ip : List (Addr × Obj)} {A : Around} {R : GenEnd} {fs : List Frame} {it : Addr} {xs ys : List V} {Sd : Nat → Heap → Prop} {σ : L2.St} {H : Hp} (k1 : ∀ p ∈ X.pn, p.1 ≠ S) (k2 : ∀ p ∈ ip, p.1 ≠ S) (k3 : ∀ p ∈ X.pn ++ ip, p.1 ≠ it) (kA : Apart X S) (kx : it ∈ X.ex ∨ X.s_0.heap.objs.size ≤ it) (kL : it ≠ X.env.locals) (kc : ∀ x c, X.env.cells.lookup x = some c → c ≠ it) (kS : it ≠ S) (kH : H it = none) (q : ItK X H it xs Sd)
    (k4 : (A.over (.builtin "proto.yield_from" ⟨[.ref it, .bool false, .none], []⟩) fs).handled = none) (k5 : splitAtGen fs = none) (k6 : fs.any Frame.guarded = false) (k7 : ys.length + xs.length ≤ sizeLine) (fin : ∀ (n : Nat) (s₀ s : Shared), n + (ys ++ xs).length = sizeLine → GI X S ip (ys ++ xs) σ H s → Seg (model X.prog X.w) A R (GY X S) n s₀ (.builtin "proto.yield_from" ⟨[.ref it, .bool false, .none], []⟩) (.pure (.done (.ret .none))) fs s) :
    ∀ (r j n : Nat) (s₀ s : Shared), j + r = xs.length → n + (ys.length + j) = sizeLine → GI X S ip (ys ++ xs.take j) σ H s → Sd j s.heap → Seg (model X.prog X.w) A R (GY X S) n s₀ (.builtin "proto.yield_from" ⟨[.ref it, .bool false, .none], []⟩) ((model X.prog X.w).den (.builtin "proto.yield_from" ⟨[.ref it, .bool false, .none], []⟩)) fs s := by
  obtain ⟨T, kT, kcl, kng⟩ := q.kind
  have moved : ∀ {zs : List V} {s : Shared} {g : Heap} {tk : Nat}, GI X S ip zs σ H s → (∀ b o, b ≠ it → s.heap.get? b = some o → g.get? b = some o) → GI X S ip zs σ H { s with heap := g, toks := tk } := fun {zs s g tk} hI hk => by
    obtain ⟨acc, cc, r, I⟩ := hI
    exact ⟨acc, cc, r, I.turned (it := it) hk kH kL kx kc fun p hp => (List.mem_append.mp hp).elim (fun hp => k3 p (List.mem_append_left _ hp)) fun hp => (List.mem_cons.mp hp).elim (fun hp => by rw [hp]; exact Ne.symm kS) fun hp => k3 p (List.mem_append_right _ hp)⟩
  intro r
  induction r with
  | zero =>
    intro j n s₀ s hj hn hI hd
    obtain rfl : j = xs.length := by omega
    rw [List.take_length] at hI
    rw [den_yf]; unfold Builtin.«proto.yield_from»; try dsimp only
    refine seg_bind (wpAny_pure ?_); try dsimp only
    refine seg_bind (wpAny_attempt (wpAny_holding ?_)); rw [if_neg Bool.false_ne_true, if_pos (show (Value.none == Value.none) = true from rfl)]
    refine wpAny_bind (wpAny_rule (wpAny_bind ?_)); refine q.stop _ s _ _ k4 hd fun e g tk hS hk => ?_
    obtain ⟨a, o, vs, rfl, z1, z2, z3, z4⟩ := hS
    try dsimp only
    refine seg_bind (wpAny_endsTurn z1 z2 ?_); try dsimp only
    rw [if_pos rfl]; first | refine seg_bind (wpAny_rule ?_) | (rw [if_neg Bool.false_ne_true]; refine seg_bind (wpAny_rule ?_)) | (rw [if_neg Bool.false_ne_true]; refine seg_bind (wpAny_pure ?_); refine seg_bind (wpAny_rule ?_))
    refine seg_bind (wpAny_field z1 z3 z4 ?_); exact fin n s₀ _ (by rw [List.length_append]; exact hn) (moved hI hk)
  | succ r ih =>
    intro j n s₀ s hj hn hI hd
    have jl : j < xs.length := by omega
    obtain ⟨x, hx⟩ : ∃ x, xs[j]? = some x := ⟨_, List.getElem?_eq_getElem jl⟩
    obtain ⟨n, rfl⟩ : ∃ m, n = m + 1 := ⟨n - 1, by omega⟩
    have tl : (xs.take j).length = j := by rw [List.length_take]; omega
    rw [den_yf]; unfold Builtin.«proto.yield_from»; try dsimp only
    refine seg_bind (wpAny_pure ?_); try dsimp only
    refine seg_bind (wpAny_attempt (wpAny_holding ?_)); rw [if_neg Bool.false_ne_true, if_pos (show (Value.none == Value.none) = true from rfl)]
    refine wpAny_bind (wpAny_rule (wpAny_bind ?_)); refine q.turn _ j x s _ _ k4 hx hd fun v g tk rv hd' hk => ?_
    have J := moved (tk := tk) hI hk
    obtain ⟨oi, z1, z2⟩ := kT (j + 1) g hd'
    refine wpAny_pure ?_; try dsimp only
    refine seg_bind (wpAny_typeOf (T := T) ⟨oi, z1, z2⟩ ?_); try dsimp only
    first | (refine seg_bind (wpAny_of_eq kcl ?_); refine seg_bind (wpAny_pure ?_)) | refine seg_bind (wpAny_bind (wpAny_of_eq kcl (wpAny_pure ?_))) | refine seg_bind (wpAny_of_eq kcl ?_)
    try dsimp only
    refine seg_bind (wpAny_sleptOver z1 z2 kng ?_); refine seg_yield k5 rfl k6 ?_
    refine ⟨ys ++ xs.take j, x, ip, σ, H, by rw [List.length_append, tl]; exact hn, rv, J, fun t z => ?_⟩
    have S0 := J.at.1
    have J2 := J.woken k1 k2 kA rv z
    have hd2 : Sd (j + 1) t.heap := q.stay (j + 1) g t.heap hd' fun b o hb e => z.keep b o (fun hm => by
      rcases hb with y | y | y
      · exact kS (y.symm.trans hm)
      · rw [hm] at y; exact y S0
      · rw [hm] at y
        exact absurd (Nat.lt_of_lt_of_le y kA.1) (Nat.lt_irrefl _)) e
    obtain ⟨oj, z3, z4⟩ := kT (j + 1) t.heap hd2
    rw [show ys ++ xs.take j ++ [x] = ys ++ xs.take (j + 1) by rw [List.append_assoc, List.take_add_one, hx]; rfl] at J2
    show Seg _ _ _ _ n t _ (Builtin.Generator.sleptOver (.ref it) false >>= fun _ => _) fs t
    refine seg_bind (wpAny_sleptOver z3 z4 kng ?_); try dsimp only
    refine seg_bind (wpAny_pure ?_); exact seg_again (plainId_quiet plain_yf _) (ih (j + 1) n t t (by omega) (by omega) J2 hd2)
theorem gs_yieldK {t : TYf} (he : YfK X e t) (hc : X.A.handled = none) (hi : interactive X.env = false := by rfl) : GS X (.Expr (.YieldFrom e yp) pos) (tGFrom t) := by
  refine ⟨fun A S ip R n ys s₀ c fs K J gd lv s σ H D g hn k hI ht => ?_⟩; rw [exec_Expr X.env _ pos hi rfl]
  show Seg _ _ _ _ n s₀ c (.at pos fun _ => ((eval e X.env >>= fun v => (standAt yp >>= fun _ => yieldFrom X.env v)) >>= fun z => dropValue (.YieldFrom e yp) pos z).wrap K J gd lv) fs s
  refine seg_at ?_; obtain ⟨acc, cc, r, I⟩ := hI
  refine segw_bind2 ?_; rw [g.over]
  refine wpAny_mono (he.run _ s σ H _ I ht) (fun v t hv => ?_) fun x s' hx => k.exc n s₀ x s' hx
  obtain ⟨T, kT, kn, kit⟩ := hv
  have kn' : ¬ ((Value.type T == Value.type "coroutine") = true) := fun z => by rw [kn] at z; cases z
  refine seg_at ?_; show Seg _ _ _ _ n s₀ c ((yieldFrom X.env v).wrap (fun b => (dropValue (.YieldFrom e yp) pos b).wrap K J gd lv) J gd lv) fs t
  unfold yieldFrom; refine seg_bind_wrap (wpAny_typeOf kT ?_)
  rw [if_neg kn']; refine seg_bind_wrap (wpAny_holding ?_)
  rw [g.over]; refine wpAny_mono kit (fun u s2 hu => ?_) fun x s' hx => k.exc n s₀ x s' hx
  obtain ⟨it, H', xs, Sd, rfl, I2, q1, q2, q3, q4, q5, q6, q7, q8, q9⟩ := hu
  refine seg_call fun p => ?_
  have kS : it ≠ S := fun z => q5 (S, lstObj acc cc) (List.mem_append_right _ List.mem_cons_self) z.symm
  refine seg_K (xs := xs) (ys := ys) g.pn g.ip (fun p hp => (List.mem_append.mp hp).elim (fun z => q5 p (List.mem_append_left _ z)) fun z => q5 p (List.mem_append_right _ (List.mem_cons_of_mem _ z))) g.apart q1 q2 q3 kS q4 q7 ?_ ?_ ?_ q8 (fun n' t0 t hn' hG => ?_) xs.length 0 n s₀ s2 (Nat.zero_add _) hn ⟨acc, cc, by rw [List.take_zero, List.append_nil]; exact r, I2⟩ q6
  · show (A.over c fs).handled = none; rw [g.over]; exact hc
  · show (splitAtGen fs).map _ = none; rw [g.split]; rfl
  · show (gd false || fs.any Frame.guarded) = false; rw [g.gd, g.guard]; rfl
  · exact seg_leaf (.ok (.ret .none)) (k.ok n' (ys ++ xs) t0 t .next hn' ⟨σ, H', hG, q9⟩)
def tYfSq (K : PySem.W.Frag) (te : TE) : TYf := fun σ H Q => te σ H fun x H1 => ∃ a xs, x = .ref a ∧ SqT K H1 a xs ∧ Q xs H1
/-- any tuple that is read -/
theorem yf_sq (he : PE X e te) : YfK X e (tYfSq X.K te) := by
  refine ⟨fun pins s σ H Q I h => ?_⟩
  refine thn (he.run pins s σ H _ I h) fun v s1 ⟨x, H1, I1, r1, a, xs, ex, ha, hq⟩ => ?_
  subst ex
  obtain rfl : v = Value.ref a := r1
  obtain ⟨its, ri, ht, hlen⟩ := I1.tuple ha
  have kept : ∀ {h g : Heap}, (∀ b o, (b = s1.heap.objs.size ∨ H1 b ≠ none ∨ b < X.s_0.heap.objs.size) → h.get? b = some o → g.get? b = some o) → IsTup h a its.toArray → IsTup g a its.toArray := fun {h g} hk ⟨o2, e2, r2⟩ => by
    refine ⟨o2, hk a o2 (.inr ?_) e2, r2⟩
    rcases ha with z | ⟨o, _, _, z, _⟩
    · exact .inl fun y => by
        rcases z with z | ⟨_, z⟩ <;> rw [y] at z <;> cases z
    · exact .inr (Nat.lt_of_lt_of_le (Heap.lt_size (I1.ok.mod.kin a o z)) I1.ok.bsz)
  refine ⟨"tuple", ht.typeIs, by decide, iter_tuple ht ?_⟩
  have ksz : ∀ b o, s1.heap.get? b = some o → b ≠ s1.heap.objs.size := fun b o e => Nat.ne_of_lt (Heap.lt_size e)
  have kp : ∀ b o, s1.heap.get? b = some o → (s1.heap.push { cls := .type "tuple_iterator", data := .fields #[.ref a, .int 0 0] }).get? b = some o := fun b o e => Heap.get?_push_of_some _ e
  refine ⟨s1.heap.objs.size, H1, xs, fun j h => IsTupIter h s1.heap.objs.size a j ∧ IsTup h a its.toArray, rfl, I1.kept (t' := s1.toks) kp, .inr I1.sz, Nat.ne_of_gt I1.lt, fun y c hy => ?_, I1.hok.fresh (Nat.le_refl _), fun p hp => ksz p.1 _ (I1.pin p hp).1, ⟨⟨_, Heap.get?_push_size _ rfl, rfl, rfl⟩, ht.push _⟩, ⟨⟨"tuple_iterator", fun j h q => ?_, close_tup, by decide⟩, fun j h g q hk => ?_, fun B j x s2 Q' F hA hx q hQ => ?_, fun B s2 Q' F hA q hE => ?_⟩, hq⟩
  · obtain ⟨v, o, ho, _⟩ := I1.cell y c hy
    exact ksz c o ho
  · obtain ⟨⟨o, ho, hc, _⟩, _⟩ := q; exact ⟨o, ho, hc⟩
  · obtain ⟨⟨o, ho, r⟩, q2⟩ := q; exact ⟨⟨o, hk _ o (.inl rfl) ho, r⟩, kept hk q2⟩
  · obtain ⟨q1, q2⟩ := q
    obtain ⟨u, hu, ru⟩ := ri.get hx
    exact special_tup_item q1 q2 (x := u) (by simpa using hu) fun g z hs => hQ u g s2.toks ru ⟨z, q2.extBut hs.extBut (Nat.ne_of_lt ht.lt)⟩ fun b o hb eb => hs.extBut b o hb eb
  · obtain ⟨q1, q2⟩ := q
    have none' : its.toArray[xs.length]? = none := by
      have e := ri.length
      have e2 : its[xs.length]? = none := List.getElem?_eq_none_iff.mpr (by omega)
      simpa using e2
    exact special_tup_end hA q1 q2 none' fun e g hS hk => hE e g s2.toks hS fun b o hb eb => hk b o hb eb
end
end PM

set_option Elab.async false
set_option linter.all false
set_option maxRecDepth 100000
set_option maxHeartbeats 4000000
namespace PM
open PySem L2
/-! ### the text by places -/
def top (i : Nat) : Stmt := PySem.Challenge.pw_poolsmeet_k14_whole_any_order_of_running.main.body.getD i (.Pass ⟨0, 0, 0, 0⟩)
abbrev s_InvalidNumber_init : Stmt := inClass (top 3) 0
abbrev s_Touching_init : Stmt := inClass (top 4) 0
abbrev s_is_integer : Stmt := top 9
abbrev s_is_number : Stmt := top 10
abbrev s_as_ratio : Stmt := top 11
abbrev s_common_divisor : Stmt := top 12
abbrev s_Ratio_init : Stmt := inClass (top 14) 0
abbrev s_Ratio_over : Stmt := inClass (top 14) 5
abbrev s_Ratio_neg : Stmt := inClass (top 14) 9
abbrev s_Ratio_abs : Stmt := inClass (top 14) 10
abbrev s_Ratio_add : Stmt := inClass (top 14) 11
abbrev s_Ratio_radd : Stmt := inClass (top 14) 12
abbrev s_Ratio_sub : Stmt := inClass (top 14) 13
abbrev s_Ratio_rsub : Stmt := inClass (top 14) 14
abbrev s_Ratio_mul : Stmt := inClass (top 14) 15
abbrev s_Ratio_rmul : Stmt := inClass (top 14) 16
abbrev s_Ratio_eq : Stmt := inClass (top 14) 19
abbrev s_Ratio_ne : Stmt := inClass (top 14) 20
abbrev s_Ratio_lt : Stmt := inClass (top 14) 21
abbrev s_Ratio_le : Stmt := inClass (top 14) 22
abbrev s_Ratio_gt : Stmt := inClass (top 14) 23
abbrev s_Ratio_ge : Stmt := inClass (top 14) 24
abbrev s_Pool_init : Stmt := inClass (top 16) 0
abbrev s_Pool_middle : Stmt := inClass (top 16) 2
abbrev s_Pool_volume : Stmt := inClass (top 16) 3
abbrev s_Pool_left : Stmt := inClass (top 16) 4
abbrev s_Pool_right : Stmt := inClass (top 16) 5
abbrev s_Pool_gap_to : Stmt := inClass (top 16) 6
abbrev s_Pool_touches : Stmt := inClass (top 16) 7
abbrev s_Pool_contains : Stmt := inClass (top 16) 8
abbrev s_Pool_eq : Stmt := inClass (top 16) 9
abbrev s_Pool_add : Stmt := inClass (top 16) 10
abbrev s_insert_pool : Stmt := top 18
abbrev s_add_pool : Stmt := top 19
abbrev s_run_together : Stmt := top 20
abbrev s_total_volume : Stmt := top 22
abbrev s_Water_init : Stmt := inClass (top 24) 0
abbrev s_Water_settled : Stmt := inClass (top 24) 1
abbrev s_Water_volume : Stmt := inClass (top 24) 2
abbrev s_Water_pools : Stmt := inClass (top 24) 5
abbrev s_Water_is_within : Stmt := inClass (top 24) 7
abbrev s_Water_len : Stmt := inClass (top 24) 9
abbrev s_Water_getitem : Stmt := inClass (top 24) 11
abbrev s_Water_contains : Stmt := inClass (top 24) 13
abbrev s_Water_add : Stmt := inClass (top 24) 16
abbrev s_Water_eq : Stmt := inClass (top 24) 19
abbrev s_Water_ne : Stmt := inClass (top 24) 20
abbrev s_Water_le : Stmt := inClass (top 24) 21
abbrev s_w_box : Stmt := top 26
abbrev s_w_take : Stmt := top 27
abbrev s_w_scene : Stmt := top 28
abbrev s_w_number : Stmt := top 29
abbrev s_w_pool : Stmt := top 30
abbrev s_w_mixed : Stmt := top 31
abbrev s_w_added : Stmt := top 32
abbrev s_law : Stmt := top 33
/-- slots: 0 self, 1 value -/
abbrev n_InvalidNumber_init : List Str := ["self", "value"]
abbrev v_InvalidNumber_init : List Kd := [.loc, .loc]
abbrev g_InvalidNumber_init : List Str := ["PoolError"]
theorem sc_InvalidNumber_init : FnScope n_InvalidNumber_init ["self", "value"] (defScope s_InvalidNumber_init) := ⟨rfl, rfl, rfl, by decide +kernel, rfl, by decide +kernel, by decide +kernel⟩
/-- slots: 0 self, 1 index -/
abbrev n_Touching_init : List Str := ["self", "index"]
abbrev v_Touching_init : List Kd := [.loc, .loc]
abbrev g_Touching_init : List Str := ["PoolError"]
theorem sc_Touching_init : FnScope n_Touching_init ["self", "index"] (defScope s_Touching_init) := ⟨rfl, rfl, rfl, by decide +kernel, rfl, by decide +kernel, by decide +kernel⟩
/-- slots: 0 value -/
abbrev n_is_integer : List Str := ["value"]
abbrev v_is_integer : List Kd := [.loc]
abbrev g_is_integer : List Str := ["isinstance", "int", "bool"]
theorem sc_is_integer : FnScope n_is_integer ["value"] (defScope s_is_integer) := ⟨rfl, rfl, rfl, by decide +kernel, rfl, by decide +kernel, by decide +kernel⟩
/-- slots: 0 value -/
abbrev n_is_number : List Str := ["value"]
abbrev v_is_number : List Kd := [.loc]
abbrev g_is_number : List Str := ["isinstance", "Ratio", "is_integer"]
theorem sc_is_number : FnScope n_is_number ["value"] (defScope s_is_number) := ⟨rfl, rfl, rfl, by decide +kernel, rfl, by decide +kernel, by decide +kernel⟩
/-- slots: 0 value -/
abbrev n_as_ratio : List Str := ["value"]
abbrev v_as_ratio : List Kd := [.loc]
abbrev g_as_ratio : List Str := ["isinstance", "Ratio", "is_integer", "InvalidNumber"]
theorem sc_as_ratio : FnScope n_as_ratio ["value"] (defScope s_as_ratio) := ⟨rfl, rfl, rfl, by decide +kernel, rfl, by decide +kernel, by decide +kernel⟩
/-- slots: 0 one, 1 other -/
abbrev n_common_divisor : List Str := ["one", "other"]
abbrev v_common_divisor : List Kd := [.loc, .loc]
abbrev g_common_divisor : List Str := []
theorem sc_common_divisor : FnScope n_common_divisor ["one", "other"] (defScope s_common_divisor) := ⟨rfl, rfl, rfl, by decide +kernel, rfl, by decide +kernel, by decide +kernel⟩
/-- slots: 0 self, 1 top, 2 bottom, 3 divisor -/
abbrev n_Ratio_init : List Str := ["self", "top", "bottom", "divisor"]
abbrev v_Ratio_init : List Kd := [.loc, .loc, .loc, .loc]
abbrev g_Ratio_init : List Str := ["InvalidNumber", "common_divisor", "abs"]
theorem sc_Ratio_init : FnScope n_Ratio_init ["self", "top", "bottom"] (defScope s_Ratio_init) := ⟨rfl, rfl, rfl, by decide +kernel, rfl, by decide +kernel, by decide +kernel⟩
/-- slots: 0 self, 1 other, 2 divisor -/
abbrev n_Ratio_over : List Str := ["self", "other", "divisor"]
abbrev v_Ratio_over : List Kd := [.loc, .loc, .loc]
abbrev g_Ratio_over : List Str := ["as_ratio", "InvalidNumber", "Ratio"]
theorem sc_Ratio_over : FnScope n_Ratio_over ["self", "other"] (defScope s_Ratio_over) := ⟨rfl, rfl, rfl, by decide +kernel, rfl, by decide +kernel, by decide +kernel⟩
/-- slots: 0 self -/
abbrev n_Ratio_neg : List Str := ["self"]
abbrev v_Ratio_neg : List Kd := [.loc]
abbrev g_Ratio_neg : List Str := ["Ratio"]
theorem sc_Ratio_neg : FnScope n_Ratio_neg ["self"] (defScope s_Ratio_neg) := ⟨rfl, rfl, rfl, by decide +kernel, rfl, by decide +kernel, by decide +kernel⟩
/-- slots: 0 self -/
abbrev n_Ratio_abs : List Str := ["self"]
abbrev v_Ratio_abs : List Kd := [.loc]
abbrev g_Ratio_abs : List Str := ["Ratio", "abs"]
theorem sc_Ratio_abs : FnScope n_Ratio_abs ["self"] (defScope s_Ratio_abs) := ⟨rfl, rfl, rfl, by decide +kernel, rfl, by decide +kernel, by decide +kernel⟩
/-- slots: 0 self, 1 other, 2 more -/
abbrev n_Ratio_add : List Str := ["self", "other", "more"]
abbrev v_Ratio_add : List Kd := [.loc, .loc, .loc]
abbrev g_Ratio_add : List Str := ["is_number", "NotImplemented", "as_ratio", "Ratio"]
theorem sc_Ratio_add : FnScope n_Ratio_add ["self", "other"] (defScope s_Ratio_add) := ⟨rfl, rfl, rfl, by decide +kernel, rfl, by decide +kernel, by decide +kernel⟩
/-- slots: 0 self, 1 other -/
abbrev n_Ratio_radd : List Str := ["self", "other"]
abbrev v_Ratio_radd : List Kd := [.loc, .loc]
abbrev g_Ratio_radd : List Str := ["is_number", "NotImplemented"]
/-- slots: 0 self, 1 other -/
abbrev n_Ratio_sub : List Str := ["self", "other"]
abbrev v_Ratio_sub : List Kd := [.loc, .loc]
abbrev g_Ratio_sub : List Str := ["is_number", "NotImplemented", "as_ratio"]
theorem sc_Ratio_sub : FnScope n_Ratio_sub ["self", "other"] (defScope s_Ratio_sub) := ⟨rfl, rfl, rfl, by decide +kernel, rfl, by decide +kernel, by decide +kernel⟩
/-- slots: 0 self, 1 other -/
abbrev n_Ratio_rsub : List Str := ["self", "other"]
abbrev v_Ratio_rsub : List Kd := [.loc, .loc]
abbrev g_Ratio_rsub : List Str := ["is_number", "NotImplemented"]
/-- slots: 0 self, 1 other, 2 factor -/
abbrev n_Ratio_mul : List Str := ["self", "other", "factor"]
abbrev v_Ratio_mul : List Kd := [.loc, .loc, .loc]
abbrev g_Ratio_mul : List Str := ["is_number", "NotImplemented", "as_ratio", "Ratio"]
theorem sc_Ratio_mul : FnScope n_Ratio_mul ["self", "other"] (defScope s_Ratio_mul) := ⟨rfl, rfl, rfl, by decide +kernel, rfl, by decide +kernel, by decide +kernel⟩
/-- slots: 0 self, 1 other -/
abbrev n_Ratio_rmul : List Str := ["self", "other"]
abbrev v_Ratio_rmul : List Kd := [.loc, .loc]
abbrev g_Ratio_rmul : List Str := ["is_number", "NotImplemented"]
/-- slots: 0 self, 1 other, 2 value -/
abbrev n_Ratio_eq : List Str := ["self", "other", "value"]
abbrev v_Ratio_eq : List Kd := [.loc, .loc, .loc]
abbrev g_Ratio_eq : List Str := ["is_number", "as_ratio"]
theorem sc_Ratio_eq : FnScope n_Ratio_eq ["self", "other"] (defScope s_Ratio_eq) := ⟨rfl, rfl, rfl, by decide +kernel, rfl, by decide +kernel, by decide +kernel⟩
/-- slots: 0 self, 1 other -/
abbrev n_Ratio_ne : List Str := ["self", "other"]
abbrev v_Ratio_ne : List Kd := [.loc, .loc]
abbrev g_Ratio_ne : List Str := []
theorem sc_Ratio_ne : FnScope n_Ratio_ne ["self", "other"] (defScope s_Ratio_ne) := ⟨rfl, rfl, rfl, by decide +kernel, rfl, by decide +kernel, by decide +kernel⟩
/-- slots: 0 self, 1 other, 2 value -/
abbrev n_Ratio_lt : List Str := ["self", "other", "value"]
abbrev v_Ratio_lt : List Kd := [.loc, .loc, .loc]
abbrev g_Ratio_lt : List Str := ["is_number", "NotImplemented", "as_ratio"]
theorem sc_Ratio_lt : FnScope n_Ratio_lt ["self", "other"] (defScope s_Ratio_lt) := ⟨rfl, rfl, rfl, by decide +kernel, rfl, by decide +kernel, by decide +kernel⟩
/-- slots: 0 self, 1 other, 2 value -/
abbrev n_Ratio_le : List Str := ["self", "other", "value"]
abbrev v_Ratio_le : List Kd := [.loc, .loc, .loc]
abbrev g_Ratio_le : List Str := ["is_number", "NotImplemented", "as_ratio"]
theorem sc_Ratio_le : FnScope n_Ratio_le ["self", "other"] (defScope s_Ratio_le) := ⟨rfl, rfl, rfl, by decide +kernel, rfl, by decide +kernel, by decide +kernel⟩
/-- slots: 0 self, 1 other, 2 value -/
abbrev n_Ratio_gt : List Str := ["self", "other", "value"]
abbrev v_Ratio_gt : List Kd := [.loc, .loc, .loc]
abbrev g_Ratio_gt : List Str := ["is_number", "NotImplemented", "as_ratio"]
theorem sc_Ratio_gt : FnScope n_Ratio_gt ["self", "other"] (defScope s_Ratio_gt) := ⟨rfl, rfl, rfl, by decide +kernel, rfl, by decide +kernel, by decide +kernel⟩
/-- slots: 0 self, 1 other, 2 value -/
abbrev n_Ratio_ge : List Str := ["self", "other", "value"]
abbrev v_Ratio_ge : List Kd := [.loc, .loc, .loc]
abbrev g_Ratio_ge : List Str := ["is_number", "NotImplemented", "as_ratio"]
theorem sc_Ratio_ge : FnScope n_Ratio_ge ["self", "other"] (defScope s_Ratio_ge) := ⟨rfl, rfl, rfl, by decide +kernel, rfl, by decide +kernel, by decide +kernel⟩
/-- slots: 0 self, 1 middle, 2 volume -/
abbrev n_Pool_init : List Str := ["self", "middle", "volume"]
abbrev v_Pool_init : List Kd := [.loc, .loc, .loc]
abbrev g_Pool_init : List Str := ["as_ratio", "InvalidNumber"]
theorem ck_Pool_init : ckB n_Pool_init v_Pool_init g_Pool_init (defScope s_Pool_init) = true := by decide +kernel
theorem sc_Pool_init : FnScope n_Pool_init ["self", "middle", "volume"] (defScope s_Pool_init) := ⟨rfl, rfl, rfl, by decide +kernel, rfl, by decide +kernel, by decide +kernel⟩
/-- slots: 0 self -/
abbrev n_Pool_middle : List Str := ["self"]
abbrev v_Pool_middle : List Kd := [.loc]
abbrev g_Pool_middle : List Str := []
theorem ck_Pool_middle : ckB n_Pool_middle v_Pool_middle g_Pool_middle (defScope s_Pool_middle) = true := by decide +kernel
theorem sc_Pool_middle : FnScope n_Pool_middle ["self"] (defScope s_Pool_middle) := ⟨rfl, rfl, rfl, by decide +kernel, rfl, by decide +kernel, by decide +kernel⟩
/-- slots: 0 self -/
abbrev n_Pool_volume : List Str := ["self"]
abbrev v_Pool_volume : List Kd := [.loc]
abbrev g_Pool_volume : List Str := []
theorem ck_Pool_volume : ckB n_Pool_volume v_Pool_volume g_Pool_volume (defScope s_Pool_volume) = true := by decide +kernel
theorem sc_Pool_volume : FnScope n_Pool_volume ["self"] (defScope s_Pool_volume) := ⟨rfl, rfl, rfl, by decide +kernel, rfl, by decide +kernel, by decide +kernel⟩
/-- slots: 0 self -/
abbrev n_Pool_left : List Str := ["self"]
abbrev v_Pool_left : List Kd := [.loc]
abbrev g_Pool_left : List Str := []
theorem ck_Pool_left : ckB n_Pool_left v_Pool_left g_Pool_left (defScope s_Pool_left) = true := by decide +kernel
theorem sc_Pool_left : FnScope n_Pool_left ["self"] (defScope s_Pool_left) := ⟨rfl, rfl, rfl, by decide +kernel, rfl, by decide +kernel, by decide +kernel⟩
/-- slots: 0 self -/
abbrev n_Pool_right : List Str := ["self"]
abbrev v_Pool_right : List Kd := [.loc]
abbrev g_Pool_right : List Str := []
theorem ck_Pool_right : ckB n_Pool_right v_Pool_right g_Pool_right (defScope s_Pool_right) = true := by decide +kernel
theorem sc_Pool_right : FnScope n_Pool_right ["self"] (defScope s_Pool_right) := ⟨rfl, rfl, rfl, by decide +kernel, rfl, by decide +kernel, by decide +kernel⟩
/-- slots: 0 self, 1 other -/
abbrev n_Pool_gap_to : List Str := ["self", "other"]
abbrev v_Pool_gap_to : List Kd := [.loc, .loc]
abbrev g_Pool_gap_to : List Str := ["abs"]
theorem ck_Pool_gap_to : ckB n_Pool_gap_to v_Pool_gap_to g_Pool_gap_to (defScope s_Pool_gap_to) = true := by decide +kernel
theorem sc_Pool_gap_to : FnScope n_Pool_gap_to ["self", "other"] (defScope s_Pool_gap_to) := ⟨rfl, rfl, rfl, by decide +kernel, rfl, by decide +kernel, by decide +kernel⟩
/-- slots: 0 self, 1 other -/
abbrev n_Pool_touches : List Str := ["self", "other"]
abbrev v_Pool_touches : List Kd := [.loc, .loc]
abbrev g_Pool_touches : List Str := []
theorem ck_Pool_touches : ckB n_Pool_touches v_Pool_touches g_Pool_touches (defScope s_Pool_touches) = true := by decide +kernel
theorem sc_Pool_touches : FnScope n_Pool_touches ["self", "other"] (defScope s_Pool_touches) := ⟨rfl, rfl, rfl, by decide +kernel, rfl, by decide +kernel, by decide +kernel⟩
/-- slots: 0 self, 1 x -/
abbrev n_Pool_contains : List Str := ["self", "x"]
abbrev v_Pool_contains : List Kd := [.loc, .loc]
abbrev g_Pool_contains : List Str := []
theorem ck_Pool_contains : ckB n_Pool_contains v_Pool_contains g_Pool_contains (defScope s_Pool_contains) = true := by decide +kernel
theorem sc_Pool_contains : FnScope n_Pool_contains ["self", "x"] (defScope s_Pool_contains) := ⟨rfl, rfl, rfl, by decide +kernel, rfl, by decide +kernel, by decide +kernel⟩
/-- slots: 0 self, 1 other -/
abbrev n_Pool_eq : List Str := ["self", "other"]
abbrev v_Pool_eq : List Kd := [.loc, .loc]
abbrev g_Pool_eq : List Str := ["isinstance", "Pool"]
theorem ck_Pool_eq : ckB n_Pool_eq v_Pool_eq g_Pool_eq (defScope s_Pool_eq) = true := by decide +kernel
theorem sc_Pool_eq : FnScope n_Pool_eq ["self", "other"] (defScope s_Pool_eq) := ⟨rfl, rfl, rfl, by decide +kernel, rfl, by decide +kernel, by decide +kernel⟩
/-- slots: 0 self, 1 other, 2 total, 3 moment -/
abbrev n_Pool_add : List Str := ["self", "other", "total", "moment"]
abbrev v_Pool_add : List Kd := [.loc, .loc, .loc, .loc]
abbrev g_Pool_add : List Str := ["isinstance", "Pool", "NotImplemented"]
theorem ck_Pool_add : ckB n_Pool_add v_Pool_add g_Pool_add (defScope s_Pool_add) = true := by decide +kernel
theorem sc_Pool_add : FnScope n_Pool_add ["self", "other"] (defScope s_Pool_add) := ⟨rfl, rfl, rfl, by decide +kernel, rfl, by decide +kernel, by decide +kernel⟩
/-- slots: 0 pools, 1 new, 2 before, 3 pool -/
abbrev n_insert_pool : List Str := ["pools", "new", "before", "pool"]
abbrev v_insert_pool : List Kd := [.loc, .cell, .loc, .no]
abbrev g_insert_pool : List Str := ["len"]
theorem ck_insert_pool : ckB n_insert_pool v_insert_pool g_insert_pool (defScope s_insert_pool) = true := by decide +kernel
abbrev v_insert_pool_c0 : List Kd := [.no, .cell, .no, .loc]
abbrev o_insert_pool_c0 : List (Str × Nat) := [("pool", 3)]
abbrev g_insert_pool_c0 : List Str := []
theorem sc_insert_pool : FnScope n_insert_pool ["pools", "new"] (defScope s_insert_pool) := ⟨rfl, rfl, rfl, by decide +kernel, rfl, by decide +kernel, by decide +kernel⟩
/-- slots: 0 pools, 1 new, 2 is_growing, 3 apart, 4 pool -/
abbrev n_add_pool : List Str := ["pools", "new", "is_growing", "apart", "pool"]
abbrev v_add_pool : List Kd := [.loc, .loc, .loc, .loc, .loc]
abbrev g_add_pool : List Str := ["insert_pool"]
theorem ck_add_pool : ckB n_add_pool v_add_pool g_add_pool (defScope s_add_pool) = true := by decide +kernel
theorem sc_add_pool : FnScope n_add_pool ["pools", "new"] (defScope s_add_pool) := ⟨rfl, rfl, rfl, by decide +kernel, rfl, by decide +kernel, by decide +kernel⟩
/-- slots: 0 pools, 1 found, 2 pool -/
abbrev n_run_together : List Str := ["pools", "found", "pool"]
abbrev v_run_together : List Kd := [.loc, .loc, .loc]
abbrev g_run_together : List Str := ["add_pool"]
theorem ck_run_together : ckB n_run_together v_run_together g_run_together (defScope s_run_together) = true := by decide +kernel
theorem sc_run_together : FnScope n_run_together ["pools"] (defScope s_run_together) := ⟨rfl, rfl, rfl, by decide +kernel, rfl, by decide +kernel, by decide +kernel⟩
/-- slots: 0 pools, 1 pool -/
abbrev n_total_volume : List Str := ["pools", "pool"]
abbrev v_total_volume : List Kd := [.loc, .no]
abbrev g_total_volume : List Str := ["sum", "Ratio"]
theorem ck_total_volume : ckB n_total_volume v_total_volume g_total_volume (defScope s_total_volume) = true := by decide +kernel
abbrev v_total_volume_c0 : List Kd := [.no, .loc]
abbrev o_total_volume_c0 : List (Str × Nat) := [("pool", 1)]
abbrev g_total_volume_c0 : List Str := []
theorem sc_total_volume : FnScope n_total_volume ["pools"] (defScope s_total_volume) := ⟨rfl, rfl, rfl, by decide +kernel, rfl, by decide +kernel, by decide +kernel⟩
/-- slots: 0 self, 1 pools, 2 index, 3 pool -/
abbrev n_Water_init : List Str := ["self", "pools", "index", "pool"]
abbrev v_Water_init : List Kd := [.loc, .loc, .loc, .loc]
abbrev g_Water_init : List Str := ["tuple", "enumerate", "Touching"]
theorem ck_Water_init : ckB n_Water_init v_Water_init g_Water_init (defScope s_Water_init) = true := by decide +kernel
theorem sc_Water_init : FnScope n_Water_init ["self", "pools"] (defScope s_Water_init) := ⟨rfl, rfl, rfl, by decide +kernel, rfl, by decide +kernel, by decide +kernel⟩
/-- slots: 0 cls, 1 pools -/
abbrev n_Water_settled : List Str := ["cls", "pools"]
abbrev v_Water_settled : List Kd := [.loc, .loc]
abbrev g_Water_settled : List Str := ["run_together"]
theorem ck_Water_settled : ckB n_Water_settled v_Water_settled g_Water_settled (defScope s_Water_settled) = true := by decide +kernel
theorem sc_Water_settled : FnScope n_Water_settled ["cls", "pools"] (defScope s_Water_settled) := ⟨rfl, rfl, rfl, by decide +kernel, rfl, by decide +kernel, by decide +kernel⟩
/-- slots: 0 self -/
abbrev n_Water_volume : List Str := ["self"]
abbrev v_Water_volume : List Kd := [.loc]
abbrev g_Water_volume : List Str := ["total_volume"]
theorem ck_Water_volume : ckB n_Water_volume v_Water_volume g_Water_volume (defScope s_Water_volume) = true := by decide +kernel
theorem sc_Water_volume : FnScope n_Water_volume ["self"] (defScope s_Water_volume) := ⟨rfl, rfl, rfl, by decide +kernel, rfl, by decide +kernel, by decide +kernel⟩
/-- slots: 0 self -/
abbrev n_Water_pools : List Str := ["self"]
abbrev v_Water_pools : List Kd := [.loc]
abbrev g_Water_pools : List Str := []
theorem gs_Water_pools : GScope n_Water_pools ["self"] (defScope s_Water_pools) := ⟨rfl, rfl, rfl, by decide +kernel, rfl, by decide +kernel, by decide +kernel⟩
/-- slots: 0 self, 1 other, 2 pool, 3 wide -/
abbrev n_Water_is_within : List Str := ["self", "other", "pool", "wide"]
abbrev v_Water_is_within : List Kd := [.loc, .loc, .cell, .no]
abbrev g_Water_is_within : List Str := ["any"]
theorem ck_Water_is_within : ckB n_Water_is_within v_Water_is_within g_Water_is_within (defScope s_Water_is_within) = true := by decide +kernel
abbrev v_Water_is_within_c0 : List Kd := [.no, .no, .cell, .loc]
abbrev o_Water_is_within_c0 : List (Str × Nat) := [("wide", 3)]
abbrev g_Water_is_within_c0 : List Str := []
theorem sc_Water_is_within : FnScope n_Water_is_within ["self", "other"] (defScope s_Water_is_within) := ⟨rfl, rfl, rfl, by decide +kernel, rfl, by decide +kernel, by decide +kernel⟩
/-- slots: 0 self -/
abbrev n_Water_len : List Str := ["self"]
abbrev v_Water_len : List Kd := [.loc]
abbrev g_Water_len : List Str := ["len"]
/-- slots: 0 self, 1 at -/
abbrev n_Water_getitem : List Str := ["self", "at"]
abbrev v_Water_getitem : List Kd := [.loc, .loc]
abbrev g_Water_getitem : List Str := ["len", "UnknownIndex"]
/-- slots: 0 self, 1 x, 2 pool -/
abbrev n_Water_contains : List Str := ["self", "x", "pool"]
abbrev v_Water_contains : List Kd := [.loc, .cell, .no]
abbrev g_Water_contains : List Str := ["any"]
theorem ck_Water_contains : ckB n_Water_contains v_Water_contains g_Water_contains (defScope s_Water_contains) = true := by decide +kernel
abbrev v_Water_contains_c0 : List Kd := [.no, .cell, .loc]
abbrev o_Water_contains_c0 : List (Str × Nat) := [("pool", 2)]
abbrev g_Water_contains_c0 : List Str := []
theorem sc_Water_contains : FnScope n_Water_contains ["self", "x"] (defScope s_Water_contains) := ⟨rfl, rfl, rfl, by decide +kernel, rfl, by decide +kernel, by decide +kernel⟩
/-- slots: 0 self, 1 other -/
abbrev n_Water_add : List Str := ["self", "other"]
abbrev v_Water_add : List Kd := [.loc, .loc]
abbrev g_Water_add : List Str := ["isinstance", "Water", "NotImplemented", "run_together"]
theorem ck_Water_add : ckB n_Water_add v_Water_add g_Water_add (defScope s_Water_add) = true := by decide +kernel
theorem sc_Water_add : FnScope n_Water_add ["self", "other"] (defScope s_Water_add) := ⟨rfl, rfl, rfl, by decide +kernel, rfl, by decide +kernel, by decide +kernel⟩
/-- slots: 0 self, 1 other -/
abbrev n_Water_eq : List Str := ["self", "other"]
abbrev v_Water_eq : List Kd := [.loc, .loc]
abbrev g_Water_eq : List Str := ["isinstance", "Water"]
theorem ck_Water_eq : ckB n_Water_eq v_Water_eq g_Water_eq (defScope s_Water_eq) = true := by decide +kernel
theorem sc_Water_eq : FnScope n_Water_eq ["self", "other"] (defScope s_Water_eq) := ⟨rfl, rfl, rfl, by decide +kernel, rfl, by decide +kernel, by decide +kernel⟩
/-- slots: 0 self, 1 other -/
abbrev n_Water_ne : List Str := ["self", "other"]
abbrev v_Water_ne : List Kd := [.loc, .loc]
abbrev g_Water_ne : List Str := []
theorem ck_Water_ne : ckB n_Water_ne v_Water_ne g_Water_ne (defScope s_Water_ne) = true := by decide +kernel
theorem sc_Water_ne : FnScope n_Water_ne ["self", "other"] (defScope s_Water_ne) := ⟨rfl, rfl, rfl, by decide +kernel, rfl, by decide +kernel, by decide +kernel⟩
/-- slots: 0 self, 1 other -/
abbrev n_Water_le : List Str := ["self", "other"]
abbrev v_Water_le : List Kd := [.loc, .loc]
abbrev g_Water_le : List Str := ["isinstance", "Water", "NotImplemented"]
theorem ck_Water_le : ckB n_Water_le v_Water_le g_Water_le (defScope s_Water_le) = true := by decide +kernel
theorem sc_Water_le : FnScope n_Water_le ["self", "other"] (defScope s_Water_le) := ⟨rfl, rfl, rfl, by decide +kernel, rfl, by decide +kernel, by decide +kernel⟩
/-- slots: 0 w_script, 1 w_k, 2 w_cell, 3 w_seed -/
abbrev n_w_box : List Str := ["_law_script", "_law_k", "_law_cell", "_law_seed"]
abbrev v_w_box : List Kd := [.loc, .loc, .loc, .loc]
abbrev g_w_box : List Str := ["len", "int"]
theorem ck_w_box : ckB n_w_box v_w_box g_w_box (defScope s_w_box) = true := by decide +kernel
theorem sc_w_box : FnScope n_w_box ["_law_script", "_law_k"] (defScope s_w_box) := ⟨rfl, rfl, rfl, by decide +kernel, rfl, by decide +kernel, by decide +kernel⟩
/-- slots: 0 w_box_here, 1 w_many, 2 w_digit, 3 w_first, 4 w_mixed_here -/
abbrev n_w_take : List Str := ["_law_box_here", "_law_many", "_law_digit", "_law_first", "_law_mixed_here"]
abbrev v_w_take : List Kd := [.loc, .loc, .loc, .loc, .loc]
abbrev g_w_take : List Str := []
theorem ck_w_take : ckB n_w_take v_w_take g_w_take (defScope s_w_take) = true := by decide +kernel
theorem sc_w_take : FnScope n_w_take ["_law_box_here", "_law_many"] (defScope s_w_take) := ⟨rfl, rfl, rfl, by decide +kernel, rfl, by decide +kernel, by decide +kernel⟩
/-- slots: 0 w_box_here, 1 w_most, 2 w_unit, 3 w_many, 4 w_found, 5 w_wide, 6 w_turn, 7 w_volume, 8 w_form, 9 w_spot, 10 w_last, 11 w_amount, 12 w_half -/
abbrev n_w_scene : List Str := ["_law_box_here", "_law_most", "_law_unit", "_law_many", "_law_found", "_law_wide", "_law_turn", "_law_volume", "_law_form", "_law_spot", "_law_last", "_law_amount", "_law_half"]
abbrev v_w_scene : List Kd := [.loc, .loc, .loc, .loc, .loc, .loc, .loc, .loc, .loc, .loc, .loc, .loc, .loc]
abbrev g_w_scene : List Str := ["_law_take", "range"]
theorem ck_w_scene : ckB n_w_scene v_w_scene g_w_scene (defScope s_w_scene) = true := by decide +kernel
theorem sc_w_scene : FnScope n_w_scene ["_law_box_here", "_law_most"] (defScope s_w_scene) := ⟨rfl, rfl, rfl, by decide +kernel, rfl, by decide +kernel, by decide +kernel⟩
/-- slots: 0 w_box_here, 1 w_top, 2 w_unit -/
abbrev n_w_number : List Str := ["_law_box_here", "_law_top", "_law_unit"]
abbrev v_w_number : List Kd := [.loc, .loc, .loc]
abbrev g_w_number : List Str := ["_law_take", "Ratio"]
theorem ck_w_number : ckB n_w_number v_w_number g_w_number (defScope s_w_number) = true := by decide +kernel
theorem sc_w_number : FnScope n_w_number ["_law_box_here", "_law_top", "_law_unit"] (defScope s_w_number) := ⟨rfl, rfl, rfl, by decide +kernel, rfl, by decide +kernel, by decide +kernel⟩
/-- slots: 0 w_box_here, 1 w_unit, 2 w_drop -/
abbrev n_w_pool : List Str := ["_law_box_here", "_law_unit", "_law_drop"]
abbrev v_w_pool : List Kd := [.loc, .loc, .loc]
abbrev g_w_pool : List Str := ["Pool", "_law_number"]
theorem ck_w_pool : ckB n_w_pool v_w_pool g_w_pool (defScope s_w_pool) = true := by decide +kernel
theorem sc_w_pool : FnScope n_w_pool ["_law_box_here", "_law_unit", "_law_drop"] (defScope s_w_pool) := ⟨rfl, rfl, rfl, by decide +kernel, rfl, by decide +kernel, by decide +kernel⟩
/-- slots: 0 w_box_here, 1 w_items, 2 w_left, 3 w_found -/
abbrev n_w_mixed : List Str := ["_law_box_here", "_law_items", "_law_left", "_law_found"]
abbrev v_w_mixed : List Kd := [.loc, .loc, .loc, .loc]
abbrev g_w_mixed : List Str := ["list", "_law_take", "len"]
theorem ck_w_mixed : ckB n_w_mixed v_w_mixed g_w_mixed (defScope s_w_mixed) = true := by decide +kernel
theorem sc_w_mixed : FnScope n_w_mixed ["_law_box_here", "_law_items"] (defScope s_w_mixed) := ⟨rfl, rfl, rfl, by decide +kernel, rfl, by decide +kernel, by decide +kernel⟩
/-- slots: 0 w_box_here, 1 w_some, 2 w_left, 3 w_at -/
abbrev n_w_added : List Str := ["_law_box_here", "_law_some", "_law_left", "_law_at"]
abbrev v_w_added : List Kd := [.loc, .loc, .loc, .loc]
abbrev g_w_added : List Str := ["list", "len", "_law_take"]
theorem ck_w_added : ckB n_w_added v_w_added g_w_added (defScope s_w_added) = true := by decide +kernel
theorem sc_w_added : FnScope n_w_added ["_law_box_here", "_law_some"] (defScope s_w_added) := ⟨rfl, rfl, rfl, by decide +kernel, rfl, by decide +kernel, by decide +kernel⟩
/-- slots: 0 w_script, 1 w_k, 2 w_box_here, 3 w_unit, 4 w_drops, 5 w_some, 6 w_whole, 7 w_parts, 8 w_pool_here, 9 w_waters, 10 w_turn, 11 w_grown, 12 w_last, 13 w_total, 14 w_drop, 15 w_part, 16 w_one -/
abbrev n_law : List Str := ["_law_script", "_law_k", "_law_box_here", "_law_unit", "_law_drops", "_law_some", "_law_whole", "_law_parts", "_law_pool_here", "_law_waters", "_law_turn", "_law_grown", "_law_last", "_law_total", "_law_drop", "_law_part", "_law_one"]
abbrev v_law : List Kd := [.loc, .loc, .cell, .cell, .loc, .loc, .cell, .loc, .loc, .loc, .loc, .loc, .loc, .loc, .no, .no, .no]
abbrev g_law : List Str := ["range", "max", "min", "len", "_law_box", "_law_scene", "_law_take", "Water", "_law_mixed", "_law_added", "list"]
theorem ck_law : ckB n_law v_law g_law (defScope s_law) = true := by decide +kernel
abbrev v_law_c0 : List Kd := [.no, .no, .cell, .cell, .no, .no, .no, .no, .no, .no, .no, .no, .no, .no, .loc, .no, .no]
abbrev o_law_c0 : List (Str × Nat) := [("_law_drop", 14)]
abbrev g_law_c0 : List Str := ["_law_pool"]
abbrev v_law_c1 : List Kd := [.no, .no, .no, .no, .no, .no, .no, .no, .no, .no, .no, .no, .no, .no, .no, .loc, .no]
abbrev o_law_c1 : List (Str × Nat) := [("_law_part", 15)]
abbrev g_law_c1 : List Str := ["Water"]
abbrev v_law_c2 : List Kd := [.no, .no, .no, .no, .no, .no, .cell, .no, .no, .no, .no, .no, .no, .no, .no, .no, .loc]
abbrev o_law_c2 : List (Str × Nat) := [("_law_one", 16)]
abbrev g_law_c2 : List Str := []
theorem sc_law : FnScope n_law ["_law_script"] (defScope s_law) := ⟨rfl, rfl, rfl, by decide +kernel, rfl, by decide +kernel, by decide +kernel⟩
/-! ### what the top has left -/
structure Tx (K : PySem.W.Frag) (mg : Str → Option Value) where
  C_PoolError : Addr
  g_PoolError : mg "PoolError" = some (.ref C_PoolError)
  up_PoolError : UpC K C_PoolError "ValueError.__init__"
  oex_PoolError : OexC K C_PoolError
  C_InvalidNumber : Addr
  g_InvalidNumber : mg "InvalidNumber" = some (.ref C_InvalidNumber)
  oex_InvalidNumber : OexC K C_InvalidNumber
  xf_InvalidNumber : XfC K C_InvalidNumber
  xm_InvalidNumber : PySem.W.exmOne K (.ref C_InvalidNumber) (.ref C_InvalidNumber) = some true
  na_InvalidNumber_value : NoAttr K C_InvalidNumber "value"
  C_Touching : Addr
  g_Touching : mg "Touching" = some (.ref C_Touching)
  oex_Touching : OexC K C_Touching
  xf_Touching : XfC K C_Touching
  xm_Touching : PySem.W.exmOne K (.ref C_Touching) (.ref C_Touching) = some true
  na_Touching_index : NoAttr K C_Touching "index"
  C_UnknownIndex : Addr
  g_UnknownIndex : mg "UnknownIndex" = some (.ref C_UnknownIndex)
  C_Ratio : Addr
  g_Ratio : mg "Ratio" = some (.ref C_Ratio)
  own_Ratio : OwnC K C_Ratio
  cr_Ratio : ClX.CRead K C_Ratio (.type "type")
  na_Ratio_top : NoAttr K C_Ratio "top"
  na_Ratio_bottom : NoAttr K C_Ratio "bottom"
  C_Pool : Addr
  g_Pool : mg "Pool" = some (.ref C_Pool)
  own_Pool : OwnC K C_Pool
  cr_Pool : ClX.CRead K C_Pool (.type "type")
  na_Pool_center : NoAttr K C_Pool "center"
  na_Pool_amount : NoAttr K C_Pool "amount"
  nq_Pool : PySem.W.findIn K (.ref C_Pool) "__ne__" = some (some (.builtin "object.__ne__"))
  C_Water : Addr
  g_Water : mg "Water" = some (.ref C_Water)
  own_Water : OwnC K C_Water
  cr_Water : ClX.CRead K C_Water (.type "type")
  na_Water_rows : NoAttr K C_Water "rows"
  a_InvalidNumber_init : Addr
  fd_InvalidNumber_init : FuncData
  F_InvalidNumber_init : FunS K "__init__" "InvalidNumber.__init__" s_InvalidNumber_init [] a_InvalidNumber_init fd_InvalidNumber_init
  i_InvalidNumber : PySem.W.findIn K (.ref C_InvalidNumber) "__init__" = some (some (.ref a_InvalidNumber_init))
  t_InvalidNumber : PySem.W.typeIn K (.ref a_InvalidNumber_init) = some (.type "function")
  a_Touching_init : Addr
  fd_Touching_init : FuncData
  F_Touching_init : FunS K "__init__" "Touching.__init__" s_Touching_init [] a_Touching_init fd_Touching_init
  i_Touching : PySem.W.findIn K (.ref C_Touching) "__init__" = some (some (.ref a_Touching_init))
  t_Touching : PySem.W.typeIn K (.ref a_Touching_init) = some (.type "function")
  a_is_integer : Addr
  fd_is_integer : FuncData
  F_is_integer : FunS K "is_integer" "is_integer" s_is_integer [] a_is_integer fd_is_integer
  g_is_integer : mg "is_integer" = some (.ref a_is_integer)
  a_is_number : Addr
  fd_is_number : FuncData
  F_is_number : FunS K "is_number" "is_number" s_is_number [] a_is_number fd_is_number
  g_is_number : mg "is_number" = some (.ref a_is_number)
  a_as_ratio : Addr
  fd_as_ratio : FuncData
  F_as_ratio : FunS K "as_ratio" "as_ratio" s_as_ratio [] a_as_ratio fd_as_ratio
  g_as_ratio : mg "as_ratio" = some (.ref a_as_ratio)
  a_common_divisor : Addr
  fd_common_divisor : FuncData
  F_common_divisor : FunS K "common_divisor" "common_divisor" s_common_divisor [] a_common_divisor fd_common_divisor
  g_common_divisor : mg "common_divisor" = some (.ref a_common_divisor)
  a_Ratio_init : Addr
  fd_Ratio_init : FuncData
  F_Ratio_init : FunS K "__init__" "Ratio.__init__" s_Ratio_init [.int 1] a_Ratio_init fd_Ratio_init
  m_Ratio_init : Meth K C_Ratio "__init__" a_Ratio_init
  mk_Ratio : Mk K C_Ratio a_Ratio_init
  a_Ratio_over : Addr
  fd_Ratio_over : FuncData
  F_Ratio_over : FunS K "over" "Ratio.over" s_Ratio_over [] a_Ratio_over fd_Ratio_over
  m_Ratio_over : Meth K C_Ratio "over" a_Ratio_over
  a_Ratio_neg : Addr
  fd_Ratio_neg : FuncData
  F_Ratio_neg : FunS K "__neg__" "Ratio.__neg__" s_Ratio_neg [] a_Ratio_neg fd_Ratio_neg
  m_Ratio_neg : Meth K C_Ratio "__neg__" a_Ratio_neg
  a_Ratio_abs : Addr
  fd_Ratio_abs : FuncData
  F_Ratio_abs : FunS K "__abs__" "Ratio.__abs__" s_Ratio_abs [] a_Ratio_abs fd_Ratio_abs
  m_Ratio_abs : Meth K C_Ratio "__abs__" a_Ratio_abs
  a_Ratio_add : Addr
  fd_Ratio_add : FuncData
  F_Ratio_add : FunS K "__add__" "Ratio.__add__" s_Ratio_add [] a_Ratio_add fd_Ratio_add
  m_Ratio_add : Meth K C_Ratio "__add__" a_Ratio_add
  a_Ratio_radd : Addr
  fd_Ratio_radd : FuncData
  F_Ratio_radd : FunS K "__radd__" "Ratio.__radd__" s_Ratio_radd [] a_Ratio_radd fd_Ratio_radd
  m_Ratio_radd : Meth K C_Ratio "__radd__" a_Ratio_radd
  a_Ratio_sub : Addr
  fd_Ratio_sub : FuncData
  F_Ratio_sub : FunS K "__sub__" "Ratio.__sub__" s_Ratio_sub [] a_Ratio_sub fd_Ratio_sub
  m_Ratio_sub : Meth K C_Ratio "__sub__" a_Ratio_sub
  a_Ratio_rsub : Addr
  fd_Ratio_rsub : FuncData
  F_Ratio_rsub : FunS K "__rsub__" "Ratio.__rsub__" s_Ratio_rsub [] a_Ratio_rsub fd_Ratio_rsub
  m_Ratio_rsub : Meth K C_Ratio "__rsub__" a_Ratio_rsub
  a_Ratio_mul : Addr
  fd_Ratio_mul : FuncData
  F_Ratio_mul : FunS K "__mul__" "Ratio.__mul__" s_Ratio_mul [] a_Ratio_mul fd_Ratio_mul
  m_Ratio_mul : Meth K C_Ratio "__mul__" a_Ratio_mul
  a_Ratio_rmul : Addr
  fd_Ratio_rmul : FuncData
  F_Ratio_rmul : FunS K "__rmul__" "Ratio.__rmul__" s_Ratio_rmul [] a_Ratio_rmul fd_Ratio_rmul
  m_Ratio_rmul : Meth K C_Ratio "__rmul__" a_Ratio_rmul
  a_Ratio_eq : Addr
  fd_Ratio_eq : FuncData
  F_Ratio_eq : FunS K "__eq__" "Ratio.__eq__" s_Ratio_eq [] a_Ratio_eq fd_Ratio_eq
  m_Ratio_eq : Meth K C_Ratio "__eq__" a_Ratio_eq
  a_Ratio_ne : Addr
  fd_Ratio_ne : FuncData
  F_Ratio_ne : FunS K "__ne__" "Ratio.__ne__" s_Ratio_ne [] a_Ratio_ne fd_Ratio_ne
  m_Ratio_ne : Meth K C_Ratio "__ne__" a_Ratio_ne
  a_Ratio_lt : Addr
  fd_Ratio_lt : FuncData
  F_Ratio_lt : FunS K "__lt__" "Ratio.__lt__" s_Ratio_lt [] a_Ratio_lt fd_Ratio_lt
  m_Ratio_lt : Meth K C_Ratio "__lt__" a_Ratio_lt
  a_Ratio_le : Addr
  fd_Ratio_le : FuncData
  F_Ratio_le : FunS K "__le__" "Ratio.__le__" s_Ratio_le [] a_Ratio_le fd_Ratio_le
  m_Ratio_le : Meth K C_Ratio "__le__" a_Ratio_le
  a_Ratio_gt : Addr
  fd_Ratio_gt : FuncData
  F_Ratio_gt : FunS K "__gt__" "Ratio.__gt__" s_Ratio_gt [] a_Ratio_gt fd_Ratio_gt
  m_Ratio_gt : Meth K C_Ratio "__gt__" a_Ratio_gt
  a_Ratio_ge : Addr
  fd_Ratio_ge : FuncData
  F_Ratio_ge : FunS K "__ge__" "Ratio.__ge__" s_Ratio_ge [] a_Ratio_ge fd_Ratio_ge
  m_Ratio_ge : Meth K C_Ratio "__ge__" a_Ratio_ge
  a_Pool_init : Addr
  fd_Pool_init : FuncData
  F_Pool_init : FunS K "__init__" "Pool.__init__" s_Pool_init [] a_Pool_init fd_Pool_init
  m_Pool_init : Meth K C_Pool "__init__" a_Pool_init
  mk_Pool : Mk K C_Pool a_Pool_init
  a_Pool_middle : Addr
  fd_Pool_middle : FuncData
  F_Pool_middle : FunS K "middle" "Pool.middle" s_Pool_middle [] a_Pool_middle fd_Pool_middle
  p_Pool_middle : Addr
  P_Pool_middle : PropOf K C_Pool "middle" p_Pool_middle a_Pool_middle
  a_Pool_volume : Addr
  fd_Pool_volume : FuncData
  F_Pool_volume : FunS K "volume" "Pool.volume" s_Pool_volume [] a_Pool_volume fd_Pool_volume
  p_Pool_volume : Addr
  P_Pool_volume : PropOf K C_Pool "volume" p_Pool_volume a_Pool_volume
  a_Pool_left : Addr
  fd_Pool_left : FuncData
  F_Pool_left : FunS K "left" "Pool.left" s_Pool_left [] a_Pool_left fd_Pool_left
  p_Pool_left : Addr
  P_Pool_left : PropOf K C_Pool "left" p_Pool_left a_Pool_left
  a_Pool_right : Addr
  fd_Pool_right : FuncData
  F_Pool_right : FunS K "right" "Pool.right" s_Pool_right [] a_Pool_right fd_Pool_right
  p_Pool_right : Addr
  P_Pool_right : PropOf K C_Pool "right" p_Pool_right a_Pool_right
  a_Pool_gap_to : Addr
  fd_Pool_gap_to : FuncData
  F_Pool_gap_to : FunS K "gap_to" "Pool.gap_to" s_Pool_gap_to [] a_Pool_gap_to fd_Pool_gap_to
  m_Pool_gap_to : Meth K C_Pool "gap_to" a_Pool_gap_to
  a_Pool_touches : Addr
  fd_Pool_touches : FuncData
  F_Pool_touches : FunS K "touches" "Pool.touches" s_Pool_touches [] a_Pool_touches fd_Pool_touches
  m_Pool_touches : Meth K C_Pool "touches" a_Pool_touches
  a_Pool_contains : Addr
  fd_Pool_contains : FuncData
  F_Pool_contains : FunS K "__contains__" "Pool.__contains__" s_Pool_contains [] a_Pool_contains fd_Pool_contains
  m_Pool_contains : Meth K C_Pool "__contains__" a_Pool_contains
  a_Pool_eq : Addr
  fd_Pool_eq : FuncData
  F_Pool_eq : FunS K "__eq__" "Pool.__eq__" s_Pool_eq [] a_Pool_eq fd_Pool_eq
  m_Pool_eq : Meth K C_Pool "__eq__" a_Pool_eq
  a_Pool_add : Addr
  fd_Pool_add : FuncData
  F_Pool_add : FunS K "__add__" "Pool.__add__" s_Pool_add [] a_Pool_add fd_Pool_add
  m_Pool_add : Meth K C_Pool "__add__" a_Pool_add
  a_insert_pool : Addr
  fd_insert_pool : FuncData
  F_insert_pool : FunS K "insert_pool" "insert_pool" s_insert_pool [] a_insert_pool fd_insert_pool
  g_insert_pool : mg "insert_pool" = some (.ref a_insert_pool)
  a_add_pool : Addr
  fd_add_pool : FuncData
  F_add_pool : FunS K "add_pool" "add_pool" s_add_pool [] a_add_pool fd_add_pool
  g_add_pool : mg "add_pool" = some (.ref a_add_pool)
  a_run_together : Addr
  fd_run_together : FuncData
  F_run_together : FunS K "run_together" "run_together" s_run_together [] a_run_together fd_run_together
  g_run_together : mg "run_together" = some (.ref a_run_together)
  a_total_volume : Addr
  fd_total_volume : FuncData
  F_total_volume : FunS K "total_volume" "total_volume" s_total_volume [] a_total_volume fd_total_volume
  g_total_volume : mg "total_volume" = some (.ref a_total_volume)
  a_Water_init : Addr
  fd_Water_init : FuncData
  t0_Water_init : Addr
  T0_Water_init : ∃ (o : Obj) (n : Nat), K.lookup t0_Water_init = some o ∧ o.cls = .type "tuple" ∧ o.data = .seq #[] n
  F_Water_init : FunS K "__init__" "Water.__init__" s_Water_init [.ref t0_Water_init] a_Water_init fd_Water_init
  m_Water_init : Meth K C_Water "__init__" a_Water_init
  mk_Water : Mk K C_Water a_Water_init
  a_Water_settled : Addr
  fd_Water_settled : FuncData
  F_Water_settled : FunS K "settled" "Water.settled" s_Water_settled [] a_Water_settled fd_Water_settled
  p_Water_settled : Addr
  cm_Water_settled : ClX.CMet K C_Water (.type "type") "settled" p_Water_settled a_Water_settled
  a_Water_volume : Addr
  fd_Water_volume : FuncData
  F_Water_volume : FunS K "volume" "Water.volume" s_Water_volume [] a_Water_volume fd_Water_volume
  p_Water_volume : Addr
  P_Water_volume : PropOf K C_Water "volume" p_Water_volume a_Water_volume
  a_Water_pools : Addr
  fd_Water_pools : FuncData
  F_Water_pools : FunS K "pools" "Water.pools" s_Water_pools [] a_Water_pools fd_Water_pools
  m_Water_pools : Meth K C_Water "pools" a_Water_pools
  a_Water_is_within : Addr
  fd_Water_is_within : FuncData
  F_Water_is_within : FunS K "is_within" "Water.is_within" s_Water_is_within [] a_Water_is_within fd_Water_is_within
  m_Water_is_within : Meth K C_Water "is_within" a_Water_is_within
  a_Water_len : Addr
  fd_Water_len : FuncData
  F_Water_len : FunS K "__len__" "Water.__len__" s_Water_len [] a_Water_len fd_Water_len
  m_Water_len : Meth K C_Water "__len__" a_Water_len
  a_Water_getitem : Addr
  fd_Water_getitem : FuncData
  F_Water_getitem : FunS K "__getitem__" "Water.__getitem__" s_Water_getitem [] a_Water_getitem fd_Water_getitem
  m_Water_getitem : Meth K C_Water "__getitem__" a_Water_getitem
  fi_Water_getitem : PySem.W.fnIn K a_Water_getitem = true
  a_Water_contains : Addr
  fd_Water_contains : FuncData
  F_Water_contains : FunS K "__contains__" "Water.__contains__" s_Water_contains [] a_Water_contains fd_Water_contains
  m_Water_contains : Meth K C_Water "__contains__" a_Water_contains
  a_Water_add : Addr
  fd_Water_add : FuncData
  F_Water_add : FunS K "__add__" "Water.__add__" s_Water_add [] a_Water_add fd_Water_add
  m_Water_add : Meth K C_Water "__add__" a_Water_add
  a_Water_eq : Addr
  fd_Water_eq : FuncData
  F_Water_eq : FunS K "__eq__" "Water.__eq__" s_Water_eq [] a_Water_eq fd_Water_eq
  m_Water_eq : Meth K C_Water "__eq__" a_Water_eq
  a_Water_ne : Addr
  fd_Water_ne : FuncData
  F_Water_ne : FunS K "__ne__" "Water.__ne__" s_Water_ne [] a_Water_ne fd_Water_ne
  m_Water_ne : Meth K C_Water "__ne__" a_Water_ne
  a_Water_le : Addr
  fd_Water_le : FuncData
  F_Water_le : FunS K "__le__" "Water.__le__" s_Water_le [] a_Water_le fd_Water_le
  m_Water_le : Meth K C_Water "__le__" a_Water_le
  a_w_box : Addr
  fd_w_box : FuncData
  F_w_box : FunS K "_law_box" "_law_box" s_w_box [] a_w_box fd_w_box
  g_w_box : mg "_law_box" = some (.ref a_w_box)
  a_w_take : Addr
  fd_w_take : FuncData
  F_w_take : FunS K "_law_take" "_law_take" s_w_take [] a_w_take fd_w_take
  g_w_take : mg "_law_take" = some (.ref a_w_take)
  a_w_scene : Addr
  fd_w_scene : FuncData
  F_w_scene : FunS K "_law_scene" "_law_scene" s_w_scene [] a_w_scene fd_w_scene
  g_w_scene : mg "_law_scene" = some (.ref a_w_scene)
  a_w_number : Addr
  fd_w_number : FuncData
  F_w_number : FunS K "_law_number" "_law_number" s_w_number [] a_w_number fd_w_number
  g_w_number : mg "_law_number" = some (.ref a_w_number)
  a_w_pool : Addr
  fd_w_pool : FuncData
  F_w_pool : FunS K "_law_pool" "_law_pool" s_w_pool [] a_w_pool fd_w_pool
  g_w_pool : mg "_law_pool" = some (.ref a_w_pool)
  a_w_mixed : Addr
  fd_w_mixed : FuncData
  F_w_mixed : FunS K "_law_mixed" "_law_mixed" s_w_mixed [] a_w_mixed fd_w_mixed
  g_w_mixed : mg "_law_mixed" = some (.ref a_w_mixed)
  a_w_added : Addr
  fd_w_added : FuncData
  F_w_added : FunS K "_law_added" "_law_added" s_w_added [] a_w_added fd_w_added
  g_w_added : mg "_law_added" = some (.ref a_w_added)
  a_law : Addr
  fd_law : FuncData
  F_law : FunS K "law" "law" s_law [] a_law fd_law
  g_law : mg "law" = some (.ref a_law)
  io_add : ∃ fo, PySem.W.findIn K (.type "int") "__add__" = some fo
  ior_add : ∃ fo, PySem.W.findIn K (.type "int") "__radd__" = some fo
  nio_add : PySem.W.findIn K (.type "object") "__iadd__" = some none
  io_mul : ∃ fo, PySem.W.findIn K (.type "int") "__mul__" = some fo
  ior_mul : ∃ fo, PySem.W.findIn K (.type "int") "__rmul__" = some fo
  nio_mul : PySem.W.findIn K (.type "object") "__imul__" = some none
  io_sub : ∃ fo, PySem.W.findIn K (.type "int") "__sub__" = some fo
  ior_sub : ∃ fo, PySem.W.findIn K (.type "int") "__rsub__" = some fo
  nio_sub : PySem.W.findIn K (.type "object") "__isub__" = some none
  nii_Ratio_add : PySem.W.findIn K (.ref C_Ratio) "__iadd__" = some none
  nii_Ratio_sub : PySem.W.findIn K (.ref C_Ratio) "__isub__" = some none
  nii_Ratio_mul : PySem.W.findIn K (.ref C_Ratio) "__imul__" = some none
  nii_Pool_add : PySem.W.findIn K (.ref C_Pool) "__iadd__" = some none
  nr_Pool_add : PySem.W.findIn K (.ref C_Pool) "__radd__" = some none
  nii_Water_add : PySem.W.findIn K (.ref C_Water) "__iadd__" = some none
  nr_Water_add : PySem.W.findIn K (.ref C_Water) "__radd__" = some none
  n_IndexError : mg "IndexError" = none
  n_NotImplemented : mg "NotImplemented" = none
  n_TypeError : mg "TypeError" = none
  n_abs : mg "abs" = none
  n_all : mg "all" = none
  n_any : mg "any" = none
  n_bool : mg "bool" = none
  n_classmethod : mg "classmethod" = none
  n_enumerate : mg "enumerate" = none
  n_int : mg "int" = none
  n_isinstance : mg "isinstance" = none
  n_len : mg "len" = none
  n_list : mg "list" = none
  n_max : mg "max" = none
  n_min : mg "min" = none
  n_property : mg "property" = none
  n_range : mg "range" = none
  n_str : mg "str" = none
  n_sum : mg "sum" = none
  n_tuple : mg "tuple" = none
  c_DIGITS : ∃ t, mg "DIGITS" = some (.str "0123456789" t)
  c_MOST_DIGITS : ∃ t, mg "MOST_DIGITS" = some (.int 1000 t)
section
variable {K : PySem.W.Frag} {mg : Str → Option Value} (T : Tx K mg)
theorem Tx.b_InvalidNumber_init : Binds K T.fd_InvalidNumber_init ["self", "value"] [] := (FunD.plain T.F_InvalidNumber_init).binds fun _ _ _ _ _ _ us hl => match us, hl with | [_, _], _ => rfl
theorem Tx.b_Touching_init : Binds K T.fd_Touching_init ["self", "index"] [] := (FunD.plain T.F_Touching_init).binds fun _ _ _ _ _ _ us hl => match us, hl with | [_, _], _ => rfl
theorem Tx.b_is_integer : Binds K T.fd_is_integer ["value"] [] := (FunD.plain T.F_is_integer).binds fun _ _ _ _ _ _ us hl => match us, hl with | [_], _ => rfl
theorem Tx.b_is_number : Binds K T.fd_is_number ["value"] [] := (FunD.plain T.F_is_number).binds fun _ _ _ _ _ _ us hl => match us, hl with | [_], _ => rfl
theorem Tx.b_as_ratio : Binds K T.fd_as_ratio ["value"] [] := (FunD.plain T.F_as_ratio).binds fun _ _ _ _ _ _ us hl => match us, hl with | [_], _ => rfl
theorem Tx.b_common_divisor : Binds K T.fd_common_divisor ["one", "other"] [] := (FunD.plain T.F_common_divisor).binds fun _ _ _ _ _ _ us hl => match us, hl with | [_, _], _ => rfl
theorem Tx.b_Ratio_init_2 : ∃ ds, Vals (([.int 1] : List V).drop 0) ds ∧ Binds K T.fd_Ratio_init ["self", "top", "bottom"] ds := T.F_Ratio_init.binds1 2 0 (by intro z; cases z) rfl fun _ _ _ _ _ _ _ us its h1 h2 => match us, its, h1, h2 with | [_, _], [_], _, _ => ⟨_, rfl, rfl⟩
theorem Tx.b_Ratio_init : ∃ ds, Vals (([.int 1] : List V).drop 1) ds ∧ Binds K T.fd_Ratio_init ["self", "top", "bottom"] ds := T.F_Ratio_init.binds1 3 1 (by intro z; cases z) rfl fun _ _ _ _ _ _ _ us its h1 h2 => match us, its, h1, h2 with | [_, _, _], [_], _, _ => ⟨_, rfl, rfl⟩
theorem Tx.b_Ratio_over : Binds K T.fd_Ratio_over ["self", "other"] [] := (FunD.plain T.F_Ratio_over).binds fun _ _ _ _ _ _ us hl => match us, hl with | [_, _], _ => rfl
theorem Tx.b_Ratio_neg : Binds K T.fd_Ratio_neg ["self"] [] := (FunD.plain T.F_Ratio_neg).binds fun _ _ _ _ _ _ us hl => match us, hl with | [_], _ => rfl
theorem Tx.b_Ratio_abs : Binds K T.fd_Ratio_abs ["self"] [] := (FunD.plain T.F_Ratio_abs).binds fun _ _ _ _ _ _ us hl => match us, hl with | [_], _ => rfl
theorem Tx.b_Ratio_add : Binds K T.fd_Ratio_add ["self", "other"] [] := (FunD.plain T.F_Ratio_add).binds fun _ _ _ _ _ _ us hl => match us, hl with | [_, _], _ => rfl
theorem Tx.b_Ratio_sub : Binds K T.fd_Ratio_sub ["self", "other"] [] := (FunD.plain T.F_Ratio_sub).binds fun _ _ _ _ _ _ us hl => match us, hl with | [_, _], _ => rfl
theorem Tx.b_Ratio_mul : Binds K T.fd_Ratio_mul ["self", "other"] [] := (FunD.plain T.F_Ratio_mul).binds fun _ _ _ _ _ _ us hl => match us, hl with | [_, _], _ => rfl
theorem Tx.b_Ratio_eq : Binds K T.fd_Ratio_eq ["self", "other"] [] := (FunD.plain T.F_Ratio_eq).binds fun _ _ _ _ _ _ us hl => match us, hl with | [_, _], _ => rfl
theorem Tx.b_Ratio_ne : Binds K T.fd_Ratio_ne ["self", "other"] [] := (FunD.plain T.F_Ratio_ne).binds fun _ _ _ _ _ _ us hl => match us, hl with | [_, _], _ => rfl
theorem Tx.b_Ratio_lt : Binds K T.fd_Ratio_lt ["self", "other"] [] := (FunD.plain T.F_Ratio_lt).binds fun _ _ _ _ _ _ us hl => match us, hl with | [_, _], _ => rfl
theorem Tx.b_Ratio_le : Binds K T.fd_Ratio_le ["self", "other"] [] := (FunD.plain T.F_Ratio_le).binds fun _ _ _ _ _ _ us hl => match us, hl with | [_, _], _ => rfl
theorem Tx.b_Ratio_gt : Binds K T.fd_Ratio_gt ["self", "other"] [] := (FunD.plain T.F_Ratio_gt).binds fun _ _ _ _ _ _ us hl => match us, hl with | [_, _], _ => rfl
theorem Tx.b_Ratio_ge : Binds K T.fd_Ratio_ge ["self", "other"] [] := (FunD.plain T.F_Ratio_ge).binds fun _ _ _ _ _ _ us hl => match us, hl with | [_, _], _ => rfl
theorem Tx.b_Pool_init : Binds K T.fd_Pool_init ["self", "middle", "volume"] [] := (FunD.plain T.F_Pool_init).binds fun _ _ _ _ _ _ us hl => match us, hl with | [_, _, _], _ => rfl
theorem Tx.b_Pool_middle : Binds K T.fd_Pool_middle ["self"] [] := (FunD.plain T.F_Pool_middle).binds fun _ _ _ _ _ _ us hl => match us, hl with | [_], _ => rfl
theorem Tx.b_Pool_volume : Binds K T.fd_Pool_volume ["self"] [] := (FunD.plain T.F_Pool_volume).binds fun _ _ _ _ _ _ us hl => match us, hl with | [_], _ => rfl
theorem Tx.b_Pool_left : Binds K T.fd_Pool_left ["self"] [] := (FunD.plain T.F_Pool_left).binds fun _ _ _ _ _ _ us hl => match us, hl with | [_], _ => rfl
theorem Tx.b_Pool_right : Binds K T.fd_Pool_right ["self"] [] := (FunD.plain T.F_Pool_right).binds fun _ _ _ _ _ _ us hl => match us, hl with | [_], _ => rfl
theorem Tx.b_Pool_gap_to : Binds K T.fd_Pool_gap_to ["self", "other"] [] := (FunD.plain T.F_Pool_gap_to).binds fun _ _ _ _ _ _ us hl => match us, hl with | [_, _], _ => rfl
theorem Tx.b_Pool_touches : Binds K T.fd_Pool_touches ["self", "other"] [] := (FunD.plain T.F_Pool_touches).binds fun _ _ _ _ _ _ us hl => match us, hl with | [_, _], _ => rfl
theorem Tx.b_Pool_contains : Binds K T.fd_Pool_contains ["self", "x"] [] := (FunD.plain T.F_Pool_contains).binds fun _ _ _ _ _ _ us hl => match us, hl with | [_, _], _ => rfl
theorem Tx.b_Pool_eq : Binds K T.fd_Pool_eq ["self", "other"] [] := (FunD.plain T.F_Pool_eq).binds fun _ _ _ _ _ _ us hl => match us, hl with | [_, _], _ => rfl
theorem Tx.b_Pool_add : Binds K T.fd_Pool_add ["self", "other"] [] := (FunD.plain T.F_Pool_add).binds fun _ _ _ _ _ _ us hl => match us, hl with | [_, _], _ => rfl
theorem Tx.b_insert_pool : Binds K T.fd_insert_pool ["pools", "new"] [] := (FunD.plain T.F_insert_pool).binds fun _ _ _ _ _ _ us hl => match us, hl with | [_, _], _ => rfl
theorem Tx.b_add_pool : Binds K T.fd_add_pool ["pools", "new"] [] := (FunD.plain T.F_add_pool).binds fun _ _ _ _ _ _ us hl => match us, hl with | [_, _], _ => rfl
theorem Tx.b_run_together : Binds K T.fd_run_together ["pools"] [] := (FunD.plain T.F_run_together).binds fun _ _ _ _ _ _ us hl => match us, hl with | [_], _ => rfl
theorem Tx.b_total_volume : Binds K T.fd_total_volume ["pools"] [] := (FunD.plain T.F_total_volume).binds fun _ _ _ _ _ _ us hl => match us, hl with | [_], _ => rfl
theorem Tx.b_Water_init_1 : ∃ ds, Vals (([.ref T.t0_Water_init] : List V).drop 0) ds ∧ Binds K T.fd_Water_init ["self", "pools"] ds := T.F_Water_init.binds1 1 0 (by intro z; cases z) rfl fun _ _ _ _ _ _ _ us its h1 h2 => match us, its, h1, h2 with | [_], [_], _, _ => ⟨_, rfl, rfl⟩
theorem Tx.b_Water_init : ∃ ds, Vals (([.ref T.t0_Water_init] : List V).drop 1) ds ∧ Binds K T.fd_Water_init ["self", "pools"] ds := T.F_Water_init.binds1 2 1 (by intro z; cases z) rfl fun _ _ _ _ _ _ _ us its h1 h2 => match us, its, h1, h2 with | [_, _], [_], _, _ => ⟨_, rfl, rfl⟩
theorem Tx.b_Water_settled : Binds K T.fd_Water_settled ["cls", "pools"] [] := (FunD.plain T.F_Water_settled).binds fun _ _ _ _ _ _ us hl => match us, hl with | [_, _], _ => rfl
theorem Tx.b_Water_volume : Binds K T.fd_Water_volume ["self"] [] := (FunD.plain T.F_Water_volume).binds fun _ _ _ _ _ _ us hl => match us, hl with | [_], _ => rfl
theorem Tx.b_Water_pools : Binds K T.fd_Water_pools ["self"] [] := (FunD.plain T.F_Water_pools).binds fun _ _ _ _ _ _ us hl => match us, hl with | [_], _ => rfl
theorem Tx.b_Water_is_within : Binds K T.fd_Water_is_within ["self", "other"] [] := (FunD.plain T.F_Water_is_within).binds fun _ _ _ _ _ _ us hl => match us, hl with | [_, _], _ => rfl
theorem Tx.b_Water_contains : Binds K T.fd_Water_contains ["self", "x"] [] := (FunD.plain T.F_Water_contains).binds fun _ _ _ _ _ _ us hl => match us, hl with | [_, _], _ => rfl
theorem Tx.b_Water_add : Binds K T.fd_Water_add ["self", "other"] [] := (FunD.plain T.F_Water_add).binds fun _ _ _ _ _ _ us hl => match us, hl with | [_, _], _ => rfl
theorem Tx.b_Water_eq : Binds K T.fd_Water_eq ["self", "other"] [] := (FunD.plain T.F_Water_eq).binds fun _ _ _ _ _ _ us hl => match us, hl with | [_, _], _ => rfl
theorem Tx.b_Water_ne : Binds K T.fd_Water_ne ["self", "other"] [] := (FunD.plain T.F_Water_ne).binds fun _ _ _ _ _ _ us hl => match us, hl with | [_, _], _ => rfl
theorem Tx.b_Water_le : Binds K T.fd_Water_le ["self", "other"] [] := (FunD.plain T.F_Water_le).binds fun _ _ _ _ _ _ us hl => match us, hl with | [_, _], _ => rfl
theorem Tx.b_w_box : Binds K T.fd_w_box ["_law_script", "_law_k"] [] := (FunD.plain T.F_w_box).binds fun _ _ _ _ _ _ us hl => match us, hl with | [_, _], _ => rfl
theorem Tx.b_w_take : Binds K T.fd_w_take ["_law_box_here", "_law_many"] [] := (FunD.plain T.F_w_take).binds fun _ _ _ _ _ _ us hl => match us, hl with | [_, _], _ => rfl
theorem Tx.b_w_scene : Binds K T.fd_w_scene ["_law_box_here", "_law_most"] [] := (FunD.plain T.F_w_scene).binds fun _ _ _ _ _ _ us hl => match us, hl with | [_, _], _ => rfl
theorem Tx.b_w_number : Binds K T.fd_w_number ["_law_box_here", "_law_top", "_law_unit"] [] := (FunD.plain T.F_w_number).binds fun _ _ _ _ _ _ us hl => match us, hl with | [_, _, _], _ => rfl
theorem Tx.b_w_pool : Binds K T.fd_w_pool ["_law_box_here", "_law_unit", "_law_drop"] [] := (FunD.plain T.F_w_pool).binds fun _ _ _ _ _ _ us hl => match us, hl with | [_, _, _], _ => rfl
theorem Tx.b_w_mixed : Binds K T.fd_w_mixed ["_law_box_here", "_law_items"] [] := (FunD.plain T.F_w_mixed).binds fun _ _ _ _ _ _ us hl => match us, hl with | [_, _], _ => rfl
theorem Tx.b_w_added : Binds K T.fd_w_added ["_law_box_here", "_law_some"] [] := (FunD.plain T.F_w_added).binds fun _ _ _ _ _ _ us hl => match us, hl with | [_, _], _ => rfl
abbrev Tx.f_InvalidNumber_init : Fnx := ⟨T.a_InvalidNumber_init, T.fd_InvalidNumber_init, ["self", "value"], 40⟩
abbrev Tx.f_Touching_init : Fnx := ⟨T.a_Touching_init, T.fd_Touching_init, ["self", "index"], 40⟩
abbrev Tx.f_is_integer : Fnx := ⟨T.a_is_integer, T.fd_is_integer, ["value"], 1⟩
abbrev Tx.f_is_number : Fnx := ⟨T.a_is_number, T.fd_is_number, ["value"], 2⟩
abbrev Tx.f_as_ratio : Fnx := ⟨T.a_as_ratio, T.fd_as_ratio, ["value"], 5⟩
abbrev Tx.f_common_divisor : Fnx := ⟨T.a_common_divisor, T.fd_common_divisor, ["one", "other"], 1⟩
abbrev Tx.f_Ratio_init : Fnx := ⟨T.a_Ratio_init, T.fd_Ratio_init, ["self", "top", "bottom"], 3⟩
abbrev Tx.f_Ratio_over : Fnx := ⟨T.a_Ratio_over, T.fd_Ratio_over, ["self", "other"], 6⟩
abbrev Tx.f_Ratio_neg : Fnx := ⟨T.a_Ratio_neg, T.fd_Ratio_neg, ["self"], 5⟩
abbrev Tx.f_Ratio_abs : Fnx := ⟨T.a_Ratio_abs, T.fd_Ratio_abs, ["self"], 5⟩
abbrev Tx.f_Ratio_add : Fnx := ⟨T.a_Ratio_add, T.fd_Ratio_add, ["self", "other"], 6⟩
abbrev Tx.f_Ratio_radd : Fnx := ⟨T.a_Ratio_radd, T.fd_Ratio_radd, ["self", "other"], 7⟩
abbrev Tx.f_Ratio_sub : Fnx := ⟨T.a_Ratio_sub, T.fd_Ratio_sub, ["self", "other"], 7⟩
abbrev Tx.f_Ratio_rsub : Fnx := ⟨T.a_Ratio_rsub, T.fd_Ratio_rsub, ["self", "other"], 7⟩
abbrev Tx.f_Ratio_mul : Fnx := ⟨T.a_Ratio_mul, T.fd_Ratio_mul, ["self", "other"], 6⟩
abbrev Tx.f_Ratio_rmul : Fnx := ⟨T.a_Ratio_rmul, T.fd_Ratio_rmul, ["self", "other"], 7⟩
abbrev Tx.f_Ratio_eq : Fnx := ⟨T.a_Ratio_eq, T.fd_Ratio_eq, ["self", "other"], 6⟩
abbrev Tx.f_Ratio_ne : Fnx := ⟨T.a_Ratio_ne, T.fd_Ratio_ne, ["self", "other"], 7⟩
abbrev Tx.f_Ratio_lt : Fnx := ⟨T.a_Ratio_lt, T.fd_Ratio_lt, ["self", "other"], 6⟩
abbrev Tx.f_Ratio_le : Fnx := ⟨T.a_Ratio_le, T.fd_Ratio_le, ["self", "other"], 6⟩
abbrev Tx.f_Ratio_gt : Fnx := ⟨T.a_Ratio_gt, T.fd_Ratio_gt, ["self", "other"], 6⟩
abbrev Tx.f_Ratio_ge : Fnx := ⟨T.a_Ratio_ge, T.fd_Ratio_ge, ["self", "other"], 6⟩
abbrev Tx.f_Pool_init : Fnx := ⟨T.a_Pool_init, T.fd_Pool_init, ["self", "middle", "volume"], 40⟩
abbrev Tx.f_Pool_middle : Fnx := ⟨T.a_Pool_middle, T.fd_Pool_middle, ["self"], 40⟩
abbrev Tx.f_Pool_volume : Fnx := ⟨T.a_Pool_volume, T.fd_Pool_volume, ["self"], 40⟩
abbrev Tx.f_Pool_left : Fnx := ⟨T.a_Pool_left, T.fd_Pool_left, ["self"], 40⟩
abbrev Tx.f_Pool_right : Fnx := ⟨T.a_Pool_right, T.fd_Pool_right, ["self"], 40⟩
abbrev Tx.f_Pool_gap_to : Fnx := ⟨T.a_Pool_gap_to, T.fd_Pool_gap_to, ["self", "other"], 40⟩
abbrev Tx.f_Pool_touches : Fnx := ⟨T.a_Pool_touches, T.fd_Pool_touches, ["self", "other"], 41⟩
abbrev Tx.f_Pool_contains : Fnx := ⟨T.a_Pool_contains, T.fd_Pool_contains, ["self", "x"], 43⟩
abbrev Tx.f_Pool_eq : Fnx := ⟨T.a_Pool_eq, T.fd_Pool_eq, ["self", "other"], 41⟩
abbrev Tx.f_Pool_add : Fnx := ⟨T.a_Pool_add, T.fd_Pool_add, ["self", "other"], 42⟩
abbrev Tx.f_insert_pool : Fnx := ⟨T.a_insert_pool, T.fd_insert_pool, ["pools", "new"], 44⟩
abbrev Tx.f_add_pool : Fnx := ⟨T.a_add_pool, T.fd_add_pool, ["pools", "new"], 46⟩
abbrev Tx.f_run_together : Fnx := ⟨T.a_run_together, T.fd_run_together, ["pools"], 48⟩
abbrev Tx.f_total_volume : Fnx := ⟨T.a_total_volume, T.fd_total_volume, ["pools"], 42⟩
abbrev Tx.f_Water_init : Fnx := ⟨T.a_Water_init, T.fd_Water_init, ["self", "pools"], 44⟩
abbrev Tx.f_Water_settled : Fnx := ⟨T.a_Water_settled, T.fd_Water_settled, ["cls", "pools"], 50⟩
abbrev Tx.f_Water_volume : Fnx := ⟨T.a_Water_volume, T.fd_Water_volume, ["self"], 44⟩
abbrev Tx.f_Water_pools : Fnx := ⟨T.a_Water_pools, T.fd_Water_pools, ["self"], 40⟩
abbrev Tx.f_Water_is_within : Fnx := ⟨T.a_Water_is_within, T.fd_Water_is_within, ["self", "other"], 44⟩
abbrev Tx.f_Water_len : Fnx := ⟨T.a_Water_len, T.fd_Water_len, ["self"], 40⟩
abbrev Tx.f_Water_getitem : Fnx := ⟨T.a_Water_getitem, T.fd_Water_getitem, ["self", "at"], 40⟩
abbrev Tx.f_Water_contains : Fnx := ⟨T.a_Water_contains, T.fd_Water_contains, ["self", "x"], 46⟩
abbrev Tx.f_Water_add : Fnx := ⟨T.a_Water_add, T.fd_Water_add, ["self", "other"], 50⟩
abbrev Tx.f_Water_eq : Fnx := ⟨T.a_Water_eq, T.fd_Water_eq, ["self", "other"], 44⟩
abbrev Tx.f_Water_ne : Fnx := ⟨T.a_Water_ne, T.fd_Water_ne, ["self", "other"], 46⟩
abbrev Tx.f_Water_le : Fnx := ⟨T.a_Water_le, T.fd_Water_le, ["self", "other"], 46⟩
abbrev Tx.f_w_box : Fnx := ⟨T.a_w_box, T.fd_w_box, ["_law_script", "_law_k"], 100⟩
abbrev Tx.f_w_take : Fnx := ⟨T.a_w_take, T.fd_w_take, ["_law_box_here", "_law_many"], 100⟩
abbrev Tx.f_w_scene : Fnx := ⟨T.a_w_scene, T.fd_w_scene, ["_law_box_here", "_law_most"], 101⟩
abbrev Tx.f_w_number : Fnx := ⟨T.a_w_number, T.fd_w_number, ["_law_box_here", "_law_top", "_law_unit"], 101⟩
abbrev Tx.f_w_pool : Fnx := ⟨T.a_w_pool, T.fd_w_pool, ["_law_box_here", "_law_unit", "_law_drop"], 102⟩
abbrev Tx.f_w_mixed : Fnx := ⟨T.a_w_mixed, T.fd_w_mixed, ["_law_box_here", "_law_items"], 101⟩
abbrev Tx.f_w_added : Fnx := ⟨T.a_w_added, T.fd_w_added, ["_law_box_here", "_law_some"], 101⟩
abbrev Tx.f_law : Fnx := ⟨T.a_law, T.fd_law, ["_law_script"], 103⟩
end
end PM

set_option Elab.async false
set_option linter.all false
set_option maxRecDepth 100000
set_option maxHeartbeats 4000000
namespace PM
open PySem L2 PyProof.Rows
set_option hygiene false
local macro_rules | `(tactic| fail "E") => `(tactic| ((with_reducible refine hdm ?_); fail "m"))
local macro_rules | `(tactic| fail "E") => `(tactic| ((with_reducible refine hda ?_); fail "a"))
local macro_rules | `(tactic| fail "E") => `(tactic| ((with_reducible refine hdn ?_); fail "n"))
local macro_rules | `(tactic| fail "E") => `(tactic| ((with_reducible refine hdc ?_); fail "c"))
local macro_rules | `(tactic| fail "E") => `(tactic| refine wE_if ?_)
local macro_rules | `(tactic| fail "E") => `(tactic| refine wE_un ?_)
local macro_rules | `(tactic| fail "E") => `(tactic| refine wE_one ?_)
local macro_rules | `(tactic| fail "E") => `(tactic| refine wE_or ?_)
local macro_rules | `(tactic| fail "E") => `(tactic| refine wE_and ?_)
local macro_rules | `(tactic| fail "E") => `(tactic| refine wE_not ?_)
local macro_rules | `(tactic| fail "E") => `(tactic| refine wE_non ?_)
local macro_rules | `(tactic| fail "E") => `(tactic| refine wE_bl ?_)
local macro_rules | `(tactic| fail "E") => `(tactic| refine wE_str ?_)
local macro_rules | `(tactic| fail "E") => `(tactic| refine wE_lst ?_)
local macro_rules | `(tactic| fail "E") => `(tactic| refine wE_tup ?_)
local macro_rules | `(tactic| fail "E") => `(tactic| refine wE_cmp ?_)
local macro_rules | `(tactic| fail "E") => `(tactic| refine wE_sub ?_)
local macro_rules | `(tactic| fail "E") => `(tactic| refine wE_bin ?_)
local macro_rules | `(tactic| fail "E") => `(tactic| refine wE_int ?_)
local macro_rules | `(tactic| fail "E") => `(tactic| (refine wE_name gn ?_; (repeat (first | with_reducible refine wGt_z ?_ | with_reducible refine wGt_c ?_ | with_reducible refine wGt_s ?_ | with_reducible refine wGt_f ?_)); fail_if_success refine wGt_chk ?_))
local macro_rules | `(tactic| fail "B") => `(tactic| with_reducible refine wB_pow18 ?_)
local macro_rules | `(tactic| fail "B") => `(tactic| with_reducible refine wB_pow9 ?_)
local macro_rules | `(tactic| fail "B") => `(tactic| with_reducible refine wB_pow8 ?_)
local macro_rules | `(tactic| fail "B") => `(tactic| with_reducible refine wB_pow7 ?_)
local macro_rules | `(tactic| fail "B") => `(tactic| with_reducible refine wB_pow6 ?_)
local macro_rules | `(tactic| fail "B") => `(tactic| with_reducible refine wB_pow5 ?_)
local macro_rules | `(tactic| fail "B") => `(tactic| with_reducible refine wB_isNot ?_)
local macro_rules | `(tactic| fail "B") => `(tactic| with_reducible refine wB_is ?_)
local macro_rules | `(tactic| fail "B") => `(tactic| with_reducible refine wB_neB ?_)
local macro_rules | `(tactic| fail "B") => `(tactic| with_reducible refine wB_eqB ?_)
local macro_rules | `(tactic| fail "B") => `(tactic| with_reducible refine wB_neT ?_)
local macro_rules | `(tactic| fail "B") => `(tactic| with_reducible refine wB_eqT ?_)
local macro_rules | `(tactic| fail "B") => `(tactic| with_reducible refine wB_ne ?_)
local macro_rules | `(tactic| fail "B") => `(tactic| with_reducible refine wB_eq ?_)
local macro_rules | `(tactic| fail "B") => `(tactic| with_reducible refine wB_ge ?_)
local macro_rules | `(tactic| fail "B") => `(tactic| with_reducible refine wB_gt ?_)
local macro_rules | `(tactic| fail "B") => `(tactic| with_reducible refine wB_le ?_)
local macro_rules | `(tactic| fail "B") => `(tactic| with_reducible refine wB_lt ?_)
local macro_rules | `(tactic| fail "B") => `(tactic| ((with_reducible refine wB_fdivB ?qc ?_); (case qc => exact ⟨by (first | with_reducible assumption | omega), by (first | with_reducible assumption | omega)⟩)))
local macro_rules | `(tactic| fail "B") => `(tactic| ((with_reducible refine wB_fdivS ?qc ?_); (case qc => exact ⟨by (first | with_reducible assumption | omega), by (first | with_reducible assumption | omega)⟩)))
local macro_rules | `(tactic| fail "B") => `(tactic| ((with_reducible refine wB_mod ?qc ?_); (case qc => (first | with_reducible assumption | omega))))
local macro_rules | `(tactic| fail "B") => `(tactic| ((with_reducible refine wB_mulB ?qc ?_); (case qc => exact ⟨⟨by (first | with_reducible assumption | omega), by (first | with_reducible assumption | omega)⟩, ⟨by (first | with_reducible assumption | omega), by (first | with_reducible assumption | omega)⟩⟩)))
local macro_rules | `(tactic| fail "B") => `(tactic| ((with_reducible refine wB_mulL ?qc ?_); (case qc => exact ⟨by (first | with_reducible assumption | omega), by (first | with_reducible assumption | omega)⟩)))
local macro_rules | `(tactic| fail "B") => `(tactic| ((with_reducible refine wB_mulR ?qc ?_); (case qc => exact ⟨by (first | with_reducible assumption | omega), by (first | with_reducible assumption | omega)⟩)))
local macro_rules | `(tactic| fail "B") => `(tactic| with_reducible refine wB_sub ?_)
local macro_rules | `(tactic| fail "B") => `(tactic| with_reducible refine wB_add ?_)
local macro_rules | `(tactic| fail "B") => `(tactic| ((with_reducible refine wB_cube ?qc ?_); (case qc => exact ⟨by (first | with_reducible assumption | omega), by (first | with_reducible assumption | omega)⟩)))
local macro_rules | `(tactic| fail "B") => `(tactic| ((with_reducible refine wB_sq ?qc ?_); (case qc => exact ⟨by (first | with_reducible assumption | omega), by (first | with_reducible assumption | omega)⟩)))
local macro_rules | `(tactic| fail "F") => `(tactic| with_reducible refine wF_min g.toGd ?_)
local macro_rules | `(tactic| fail "F") => `(tactic| with_reducible refine wF_max g.toGd ?_)
local macro_rules | `(tactic| fail "F") => `(tactic| with_reducible refine wF_abs ?_)
local macro_rules | `(tactic| fail "F") => `(tactic| with_reducible refine wF_boolB ?_)
local macro_rules | `(tactic| fail "F") => `(tactic| with_reducible refine wF_intB ?_)
local macro_rules | `(tactic| fail "F") => `(tactic| ((with_reducible refine chkB "len" ?_); refine wF_len (by (first | exact .inl rfl | exact .inr (.inl rfl) | exact .inr (.inr (.inl rfl)) | exact .inr (.inr (.inr ⟨_, rfl, by (first | assumption | with_reducible exact at_last | with_reducible exact at_new rfl | with_reducible exact at_left (by assumption) | with_reducible exact List.getElem?_set_self (by assumption) | with_reducible exact at_left (at_left (by assumption)))⟩)))) ?_))
local macro_rules | `(tactic| fail "F") => `(tactic| with_reducible refine wF_isTT ?_)
local macro_rules | `(tactic| fail "X") => `(tactic| (refine wX_ints (by (first | exact .inl rfl | exact .inr (.inl rfl) | exact .inr (.inr (.inl rfl)) | exact .inr (.inr (.inr ⟨_, rfl, by (first | assumption | with_reducible exact at_last | with_reducible exact at_new rfl | with_reducible exact at_left (by assumption) | with_reducible exact List.getElem?_set_self (by assumption) | with_reducible exact at_left (at_left (by assumption)))⟩)))) (by (repeat (first | exact Ints.nil | apply Ints.cons))) (by (first | with_reducible assumption | omega)) (by (simp only [List.length_cons, List.length_nil]; omega)) ?_; intro v hv; simp only [List.mem_cons, List.not_mem_nil, or_false] at hv))
local macro_rules | `(tactic| fail "X") => `(tactic| refine wX_at (by (first | exact .inl rfl | exact .inr (.inl rfl) | exact .inr (.inr (.inl rfl)) | exact .inr (.inr (.inr ⟨_, rfl, by (first | assumption | with_reducible exact at_last | with_reducible exact at_new rfl | with_reducible exact at_left (by assumption) | with_reducible exact List.getElem?_set_self (by assumption) | with_reducible exact at_left (at_left (by assumption)))⟩)))) rfl ?_)
local macro_rules | `(tactic| fail "X") => `(tactic| refine wX_if2 (by (first | exact .inl rfl | exact .inr (.inl rfl) | exact .inr (.inr (.inl rfl)) | exact .inr (.inr (.inr ⟨_, rfl, by (first | assumption | with_reducible exact at_last | with_reducible exact at_new rfl | with_reducible exact at_left (by assumption) | with_reducible exact List.getElem?_set_self (by assumption) | with_reducible exact at_left (at_left (by assumption)))⟩)))) ?_)
local macro_rules | `(tactic| fail "X") => `(tactic| refine wX_if2I (by (first | exact .inl rfl | exact .inr (.inl rfl) | exact .inr (.inr (.inl rfl)) | exact .inr (.inr (.inr ⟨_, rfl, by (first | assumption | with_reducible exact at_last | with_reducible exact at_new rfl | with_reducible exact at_left (by assumption) | with_reducible exact List.getElem?_set_self (by assumption) | with_reducible exact at_left (at_left (by assumption)))⟩)))) ?_)
local macro_rules | `(tactic| fail "A") => `(tactic| refine wA_nil ?_)
local macro_rules | `(tactic| fail "A") => `(tactic| refine wA_cons ?_)
local macro_rules | `(tactic| fail "C") => `(tactic| refine wC_val ?_)
local macro_rules | `(tactic| fail "C") => `(tactic| refine wC_bool ?_)
local macro_rules | `(tactic| fail "C") => `(tactic| refine wC_not ?_)
local macro_rules | `(tactic| fail "C") => `(tactic| refine wC_cmp2 ?_)
local macro_rules | `(tactic| fail "C") => `(tactic| refine wC_cmp ?_)
local macro_rules | `(tactic| fail "W") => `(tactic| refine wCw_or1 ?_)
local macro_rules | `(tactic| fail "W") => `(tactic| refine wCw_and1 ?_)
local macro_rules | `(tactic| fail "W") => `(tactic| refine wCw_or ?_)
local macro_rules | `(tactic| fail "W") => `(tactic| refine wCw_and ?_)
local macro_rules | `(tactic| fail "U") => `(tactic| with_reducible refine wU_neg ?_)
local macro_rules | `(tactic| fail "P") => `(tactic| with_reducible refine wPt_s ?_)
local macro_rules | `(tactic| fail "P") => `(tactic| with_reducible refine wPt_c ?_)
local macro_rules | `(tactic| fail "P") => `(tactic| with_reducible refine wPt_z ?_)
local macro_rules | `(tactic| fail "G") => `(tactic| refine wG_name gn ?_)
local macro_rules | `(tactic| fail "G") => `(tactic| refine wG_tup g.calm ?_)
local macro_rules | `(tactic| fail "H") => `(tactic| refine wGs_nil ?_)
local macro_rules | `(tactic| fail "H") => `(tactic| refine wGs_cons ?_)
local macro_rules | `(tactic| fail "S") => `(tactic| refine wS_pass ?_)
local macro_rules | `(tactic| fail "S") => `(tactic| refine wS_asg ?_)
local macro_rules | `(tactic| fail "S") => `(tactic| refine wS_ix ?_)
local macro_rules | `(tactic| fail "S") => `(tactic| refine wS_expr ?_)
local macro_rules | `(tactic| fail "S") => `(tactic| refine wS_if ?_)
local macro_rules | `(tactic| fail "S") => `(tactic| refine wS_ret ?_)
local macro_rules | `(tactic| fail "S") => `(tactic| (refine wS_par3 g ?qa ?_; (case qa => exact ⟨_, _, _, by (repeat (first | with_reducible exact Il.z | with_reducible apply Il.s)), by (repeat (first | with_reducible exact Il.z | with_reducible apply Il.s)), by (repeat (first | with_reducible exact Il.z | with_reducible apply Il.s)), by decide, by decide, by decide⟩)))
local macro_rules | `(tactic| fail "S") => `(tactic| (refine wS_par g ?qa ?_; (case qa => exact ⟨_, _, by (repeat (first | with_reducible exact Il.z | with_reducible apply Il.s)), by (repeat (first | with_reducible exact Il.z | with_reducible apply Il.s)), by decide⟩)))
local macro_rules | `(tactic| fail "S") => `(tactic| (refine wS_set gn ?qa ?_; (case qa => exact ⟨_, by (repeat (first | with_reducible exact Ix.z | with_reducible exact Ix.c | with_reducible apply Ix.s))⟩)))
local macro_rules | `(tactic| fail "L") => `(tactic| refine wSs_nil ?_)
local macro_rules | `(tactic| fail "c") => `(tactic| ((with_reducible refine chkC "sum" ?_); refine xE_blt gn ?qa T.n_sum boot_sum ?_; (case qa => (repeat (first | with_reducible exact In.z | with_reducible apply In.s)))))
local macro_rules | `(tactic| fail "c") => `(tactic| ((with_reducible refine chkC "any" ?_); refine xE_blt gn ?qa T.n_any boot_any ?_; (case qa => (repeat (first | with_reducible exact In.z | with_reducible apply In.s)))))
local macro_rules | `(tactic| fail "c") => `(tactic| ((with_reducible refine chkC "all" ?_); refine xE_blt gn ?qa T.n_all boot_all ?_; (case qa => (repeat (first | with_reducible exact In.z | with_reducible apply In.s)))))
local macro_rules | `(tactic| fail "c") => `(tactic| ((with_reducible refine chkC "bool" ?_); refine xE_bcl gn ?qa T.n_bool boot_bool ?_; (case qa => (repeat (first | with_reducible exact In.z | with_reducible apply In.s)))))
local macro_rules | `(tactic| fail "c") => `(tactic| ((with_reducible refine chkC "list" ?_); refine xE_bcl gn ?qa T.n_list boot_list ?_; (case qa => (repeat (first | with_reducible exact In.z | with_reducible apply In.s)))))
local macro_rules | `(tactic| fail "c") => `(tactic| ((with_reducible refine chkC "tuple" ?_); refine xE_bcl gn ?qa T.n_tuple boot_tuple ?_; (case qa => (repeat (first | with_reducible exact In.z | with_reducible apply In.s)))))
local macro_rules | `(tactic| fail "c") => `(tactic| ((with_reducible refine chkC "isinstance" ?_); refine xE_blt gn ?qa T.n_isinstance boot_isinstance ?_; (case qa => (repeat (first | with_reducible exact In.z | with_reducible apply In.s)))))
local macro_rules | `(tactic| fail "c") => `(tactic| ((with_reducible refine chkC "repr" ?_); refine xE_blt gn ?qa T.n_repr boot_repr ?_; (case qa => (repeat (first | with_reducible exact In.z | with_reducible apply In.s)))))
local macro_rules | `(tactic| fail "c") => `(tactic| ((with_reducible refine chkC "str" ?_); refine xE_bcl gn ?qa T.n_str boot_str ?_; (case qa => (repeat (first | with_reducible exact In.z | with_reducible apply In.s)))))
local macro_rules | `(tactic| fail "c") => `(tactic| ((with_reducible refine chkC "min" ?_); refine xE_blt gn ?qa T.n_min boot_min ?_; (case qa => (repeat (first | with_reducible exact In.z | with_reducible apply In.s)))))
local macro_rules | `(tactic| fail "c") => `(tactic| ((with_reducible refine chkC "max" ?_); refine xE_blt gn ?qa T.n_max boot_max ?_; (case qa => (repeat (first | with_reducible exact In.z | with_reducible apply In.s)))))
local macro_rules | `(tactic| fail "c") => `(tactic| ((with_reducible refine chkC "abs" ?_); refine xE_blt gn ?qa T.n_abs boot_abs ?_; (case qa => (repeat (first | with_reducible exact In.z | with_reducible apply In.s)))))
local macro_rules | `(tactic| fail "c") => `(tactic| ((with_reducible refine chkC "int" ?_); refine xE_bcl gn ?qa T.n_int boot_int ?_; (case qa => (repeat (first | with_reducible exact In.z | with_reducible apply In.s)))))
local macro_rules | `(tactic| fail "c") => `(tactic| ((with_reducible refine chkC "len" ?_); refine xE_blt gn ?qa T.n_len boot_len ?_; (case qa => (repeat (first | with_reducible exact In.z | with_reducible apply In.s)))))
local macro_rules | `(tactic| fail "n") => `(tactic| ((with_reducible refine chkN "list" ?_); refine xE_bty gn ?qa T.n_list boot_list ?_; (case qa => (repeat (first | with_reducible exact In.z | with_reducible apply In.s)))))
local macro_rules | `(tactic| fail "n") => `(tactic| ((with_reducible refine chkN "tuple" ?_); refine xE_bty gn ?qa T.n_tuple boot_tuple ?_; (case qa => (repeat (first | with_reducible exact In.z | with_reducible apply In.s)))))
local macro_rules | `(tactic| fail "n") => `(tactic| ((with_reducible refine chkN "str" ?_); refine xE_bty gn ?qa T.n_str boot_str ?_; (case qa => (repeat (first | with_reducible exact In.z | with_reducible apply In.s)))))
local macro_rules | `(tactic| fail "n") => `(tactic| ((with_reducible refine chkN "bool" ?_); refine xE_bty gn ?qa T.n_bool boot_bool ?_; (case qa => (repeat (first | with_reducible exact In.z | with_reducible apply In.s)))))
local macro_rules | `(tactic| fail "n") => `(tactic| ((with_reducible refine chkN "int" ?_); refine xE_bty gn ?qa T.n_int boot_int ?_; (case qa => (repeat (first | with_reducible exact In.z | with_reducible apply In.s)))))
local macro_rules | `(tactic| fail "O") => `(tactic| refine Exists.intro _ (Exists.intro _ (Exists.intro _ (Exists.intro _ (And.intro rfl (And.intro rfl (And.intro (by (first | assumption | with_reducible exact at_last | with_reducible exact at_new rfl | with_reducible exact at_left (by assumption) | with_reducible exact List.getElem?_set_self (by assumption) | with_reducible exact at_left (at_left (by assumption)))) (And.intro rfl ?_))))))))
local macro_rules | `(tactic| fail "O") => `(tactic| refine Exists.intro _ (Exists.intro _ (Exists.intro _ (And.intro rfl ?_))))
local macro_rules | `(tactic| fail "O") => `(tactic| refine Exists.intro _ (Exists.intro _ (And.intro rfl ?_)))
local macro_rules | `(tactic| fail "O") => `(tactic| refine And.intro (by (simp only [List.length_cons, List.length_nil]; decide)) ?_)
local macro_rules | `(tactic| fail "O") => `(tactic| refine Exists.intro _ (And.intro rfl ?_))
local macro_rules | `(tactic| fail "I") => `(tactic| ((with_reducible refine hdN2 ?_); (refine iteFT ?_); fail "o"))
local macro_rules | `(tactic| fail "I") => `(tactic| ((with_reducible refine hdN2 ?_); (refine iteTT ?_); fail "o"))
local macro_rules | `(tactic| fail "I") => `(tactic| ((with_reducible refine hdN1 ?_); (refine iteFT ?_); fail "o"))
local macro_rules | `(tactic| fail "I") => `(tactic| ((with_reducible refine hdN1 ?_); (refine iteTT ?_); fail "o"))
local macro_rules | `(tactic| fail "I") => `(tactic| ((with_reducible refine iteNF ?_); fail "o"))
local macro_rules | `(tactic| fail "I") => `(tactic| ((with_reducible refine iteNT ?_); fail "o"))
local macro_rules | `(tactic| fail "I") => `(tactic| ((with_reducible refine iteFT ?_); fail "o"))
local macro_rules | `(tactic| fail "I") => `(tactic| ((with_reducible refine iteTT ?_); fail "o"))
local macro_rules | `(tactic| fail "J") => `(tactic| ((with_reducible refine hdN2 ?_); (refine iteFT ?_); fail "st"))
local macro_rules | `(tactic| fail "J") => `(tactic| ((with_reducible refine hdN2 ?_); (refine iteTT ?_); fail "st"))
local macro_rules | `(tactic| fail "J") => `(tactic| ((with_reducible refine hdN1 ?_); (refine iteFT ?_); fail "st"))
local macro_rules | `(tactic| fail "J") => `(tactic| ((with_reducible refine hdN1 ?_); (refine iteTT ?_); fail "st"))
local macro_rules | `(tactic| fail "J") => `(tactic| ((with_reducible refine iteNF ?_); fail "st"))
local macro_rules | `(tactic| fail "J") => `(tactic| ((with_reducible refine iteNT ?_); fail "st"))
local macro_rules | `(tactic| fail "J") => `(tactic| ((with_reducible refine iteFT ?_); fail "st"))
local macro_rules | `(tactic| fail "J") => `(tactic| ((with_reducible refine iteTT ?_); fail "st"))
local macro_rules | `(tactic| fail "su") => `(tactic| ((with_reducible refine hdL ?_); fail "L"))
local macro_rules | `(tactic| fail "su") => `(tactic| ((with_reducible refine hdS ?_); fail "S"))
local macro_rules | `(tactic| fail "p") => `(tactic| fail "O")
local macro_rules | `(tactic| fail "p") => `(tactic| ((with_reducible refine hdH ?_); fail "H"))
local macro_rules | `(tactic| fail "p") => `(tactic| ((with_reducible refine hdG ?_); fail "G"))
local macro_rules | `(tactic| fail "p") => `(tactic| ((with_reducible refine hdP ?_); fail "P"))
local macro_rules | `(tactic| fail "p") => `(tactic| ((with_reducible refine hdU ?_); fail "U"))
local macro_rules | `(tactic| fail "p") => `(tactic| ((with_reducible refine hdW ?_); fail "W"))
local macro_rules | `(tactic| fail "p") => `(tactic| ((with_reducible refine hdC ?_); fail "C"))
local macro_rules | `(tactic| fail "p") => `(tactic| ((with_reducible refine hdX ?_); fail "X"))
local macro_rules | `(tactic| fail "p") => `(tactic| ((with_reducible refine hdF ?_); fail "F"))
local macro_rules | `(tactic| fail "p") => `(tactic| ((with_reducible refine hdB ?_); fail "B"))
local macro_rules | `(tactic| fail "p") => `(tactic| ((with_reducible refine hdA ?_); fail "A"))
local macro_rules | `(tactic| fail "p") => `(tactic| ((with_reducible refine hdE ?_); fail "E"))
local macro_rules | `(tactic| fail "st") => `(tactic| ((with_reducible refine hdI ?_); fail "J"))
local macro_rules | `(tactic| fail "st") => `(tactic| ((fail_if_success (with_reducible refine hdI ?_)); fail "su"))
local macro_rules | `(tactic| fail "o") => `(tactic| ((with_reducible refine hdI ?_); fail "I"))
local macro_rules | `(tactic| fail "o") => `(tactic| ((fail_if_success (with_reducible refine hdI ?_)); fail "p"))
local macro_rules | `(tactic| walk_at "in") => `(tactic| (repeat (first | with_reducible exact In.z | with_reducible apply In.s)))
local macro_rules | `(tactic| walk_at "at") => `(tactic| (first | assumption | with_reducible exact at_last | with_reducible exact at_new rfl | with_reducible exact at_left (by assumption) | with_reducible exact List.getElem?_set_self (by assumption) | with_reducible exact at_left (at_left (by assumption))))
local macro_rules | `(tactic| walk_at "ixd") => `(tactic| (first | exact .inl rfl | exact .inr (.inl rfl) | exact .inr (.inr (.inl rfl)) | exact .inr (.inr (.inr ⟨_, rfl, by (first | assumption | with_reducible exact at_last | with_reducible exact at_new rfl | with_reducible exact at_left (by assumption) | with_reducible exact List.getElem?_set_self (by assumption) | with_reducible exact at_left (at_left (by assumption)))⟩))))
local macro_rules | `(tactic| walk_at "ints") => `(tactic| (repeat (first | exact Ints.nil | apply Ints.cons)))
local macro_rules | `(tactic| walk_at "num") => `(tactic| (first | with_reducible assumption | omega))
local macro_rules | `(tactic| walk_at "nm") => `(tactic| (first | exact Num.rt _ | exact Num.int _ | assumption))
local macro_rules | `(tactic| walk_at "fit") => `(tactic| (first | with_reducible assumption | exact Fit.mono (by (repeat' (first | with_reducible assumption | with_reducible exact fit_two | with_reducible apply fit_add | with_reducible apply fit_sub | with_reducible apply fit_mul | with_reducible apply fit_half | with_reducible apply fit_rabs | with_reducible apply fit_neg))) (by decide) | exact Fit.mono (n := 64) (fit_int (by omega) (by decide)) (by decide)))
local macro_rules | `(tactic| walk_at "ix") => `(tactic| (repeat (first | with_reducible exact Ix.z | with_reducible exact Ix.c | with_reducible apply Ix.s)))
local macro_rules | `(tactic| walk_at "il") => `(tactic| (repeat (first | with_reducible exact Il.z | with_reducible apply Il.s)))
local macro_rules | `(tactic| walk_at "one") => `(tactic| first | fail "o" | fail "st" | refine wSs_cons ?_)
local macro_rules | `(tactic| walk_at "wp") => `(tactic| repeat (first | fail "o" | fail "st" | refine wSs_cons ?_))
local macro_rules | `(tactic| walk_at "s1") => `(tactic| (refine wSs_cons ?_; repeat (first | fail "o" | fail "st")))
local macro_rules | `(tactic| walk_at "e") => `(tactic| repeat (fail "o"))
local macro_rules | `(tactic| walk_at "start") => `(tactic| (intro ρ hρ cdv A outer s H E g; simp only [startD, List.map_cons, List.map_nil, List.length_cons, List.length_nil, List.replicate_succ, List.replicate_zero, List.cons_append, List.nil_append, Nat.reduceAdd, Nat.reduceSub] at hρ; subst hρ; have gn := g.toNx'))
local macro_rules | `(tactic| walk_at "suite") => `(tactic| (intro a dd oe pn hz hv gn ρs hρ; simp only [List.set_cons_succ, List.set_cons_zero] at hρ; subst hρ))
local macro_rules | `(tactic| walk_at "after") => `(tactic| (intro ρs hρ; simp only [List.set_cons_succ, List.set_cons_zero] at hρ; subst hρ))
local macro_rules | `(tactic| walk_at "blk") => `(tactic| (intro s H C cl fp g; have gn := g.toNx'))

section
set_option hygiene false
local macro_rules | `(tactic| fail "n") => `(tactic| ((with_reducible refine chkN "Water" ?_); refine xE_cls gn ?qa T.g_Water ?_; (case qa => (repeat (first | with_reducible exact In.z | with_reducible apply In.s)))))
local macro_rules | `(tactic| fail "n") => `(tactic| ((with_reducible refine chkN "Pool" ?_); refine xE_cls gn ?qa T.g_Pool ?_; (case qa => (repeat (first | with_reducible exact In.z | with_reducible apply In.s)))))
local macro_rules | `(tactic| fail "n") => `(tactic| ((with_reducible refine chkN "Ratio" ?_); refine xE_cls gn ?qa T.g_Ratio ?_; (case qa => (repeat (first | with_reducible exact In.z | with_reducible apply In.s)))))
local macro_rules | `(tactic| fail "n") => `(tactic| ((with_reducible refine chkN "UnknownIndex" ?_); refine xE_cls gn ?qa T.g_UnknownIndex ?_; (case qa => (repeat (first | with_reducible exact In.z | with_reducible apply In.s)))))
local macro_rules | `(tactic| fail "n") => `(tactic| ((with_reducible refine chkN "Touching" ?_); refine xE_cls gn ?qa T.g_Touching ?_; (case qa => (repeat (first | with_reducible exact In.z | with_reducible apply In.s)))))
local macro_rules | `(tactic| fail "n") => `(tactic| ((with_reducible refine chkN "InvalidNumber" ?_); refine xE_cls gn ?qa T.g_InvalidNumber ?_; (case qa => (repeat (first | with_reducible exact In.z | with_reducible apply In.s)))))
local macro_rules | `(tactic| fail "n") => `(tactic| ((with_reducible refine chkN "PoolError" ?_); refine xE_cls gn ?qa T.g_PoolError ?_; (case qa => (repeat (first | with_reducible exact In.z | with_reducible apply In.s)))))
section
variable {P : Program} {w : World} {K : PySem.W.Frag} {mg : Str → Option Value} {base : Heap} (T : Tx K mg)
/-- a draw: any number below m -/
theorem sp_take {μ : List M} {n : Nat} {m : Int} {Q : KV} {Z : KX} (hb : μ[n]? = some .box) (h0 : 0 < m) (h1 : m < 2 ^ 64) (h : ∀ d, 0 ≤ d → d < m → Q (.int d) μ) : SpF P w K mg base T.f_w_take [.loc n, .int m] μ Q Z := by
  refine spX_of T.F_w_take sc_w_take ck_w_take rfl ?_
  walk_at "start"
  refine wSs.some (S := fun μ1 => ∃ i j k, μ1 = μ.set n (bxI i j k)) ?_ fun K L G H o => let ⟨i, j, k, o'⟩ := (List.append_nil μ ▸ o).unbox hb; ⟨_, ⟨i, j, k, rfl⟩, o'⟩
  rintro _ ⟨i, j, k, rfl⟩
  have hn : n < μ.length := (List.getElem?_eq_some_iff.mp hb).1
  have fin : ∀ d i j k, 0 ≤ d → d < m → RetOk μ Q (.int d) (μ.set n (bxI i j k)) := fun d i j k q1 q2 => .le (le_box hb) (.same (h d q1 q2))
  walk_at "wp"
  refine br_dec (fun hi => ?_) (fun hi => ?_)
  · walk_at "wp"
    first | refine wB_fdiv ⟨h0, Nat.lt_trans (log2_lt (show m.natAbs < 2 ^ 64 by omega) (by decide)) (by decide)⟩ ?_ | skip
    walk_at "wp"
    rw [List.set_set]
    exact fin _ _ _ _ (Int.emod_nonneg _ (by omega)) (Int.emod_lt_of_pos _ h0)
  · walk_at "wp"
    rw [List.set_set]
    walk_at "wp"
    rw [List.set_set]
    walk_at "wp"
    refine br_dec (fun hm => ?_) (fun hm => ?_)
    · walk_at "wp"
      exact fin _ _ _ _ (Int.emod_nonneg _ (by omega)) (Int.emod_lt_of_pos _ h0)
    · walk_at "wp"
      exact fin _ _ _ _ (Int.emod_nonneg _ (by omega)) (Int.emod_lt_of_pos _ h0)
/-- a new box -/
theorem sp_box {μ : List M} {ns : List Int} {k : Int} {Q : KV} {Z : KX} (h0 : 0 ≤ k) (h1 : k < 1000) (h : Q (.loc μ.length) (μ ++ [.box])) : SpF P w K mg base T.f_w_box [.scr (ns.map D.int), .int k] μ Q Z := by
  refine spX_of T.F_w_box sc_w_box ck_w_box rfl ?_
  walk_at "start"
  have fin : ∀ d i j k, d = .loc (μ ++ ([] : List M)).length → RetOk μ Q d ((μ ++ []) ++ [bxI i j k]) := fun d i j k e => by
    subst e
    rw [List.append_nil]
    exact .le le_newbox (.same h)
  have rest : ∀ c : Int, ∀ {κ : Ks} {nx : KN}, κ.rt = RetOk μ Q → wSs (cxOf (L2.CX P w) P w K mg base n_w_box "_law_box" (defScope s_w_box) T.a_w_box cdv A outer s H E) (fun c d _ H => E c d H) [some (.scr (ns.map D.int)), some (.int k), some (.int c), none] (μ ++ []) ((defBody s_w_box).drop 2) nx κ := by
    intro c κ nx hκ
    walk_at "s1"
    refine wSs_cons (wS_ret ?_)
    rw [hκ]
    refine wE_lstL ?_
    walk_at "e"
    exact fin _ _ _ _ rfl
  walk_at "s1"
  walk_at "s1"
  have ln : (ns.map D.int).length = ns.length := by simp
  rw [ln]
  refine br_dec (fun hk => ?_) (fun hk => ?_)
  · walk_at "s1"
    refine wX_some (by walk_at "ixd") h0 (by rw [ln]; exact hk) fun n d e _ => ?_
    rw [List.getElem?_map] at e
    obtain ⟨i, _, rfl⟩ := Option.map_eq_some_iff.mp e
    walk_at "e"
    refine wSs_nil ?_
    exact rest i (by rfl)
  · walk_at "s1"
    rw [ln]
    refine br_dec (fun hl => ?_) (fun hl => ?_)
    · walk_at "s1"
      rw [ln]
      walk_at "e"
      refine wX_some (by walk_at "ixd") (Int.emod_nonneg _ (by omega)) (by rw [ln]; exact Int.emod_lt_of_pos _ hl) fun n d e _ => ?_
      rw [List.getElem?_map] at e
      obtain ⟨i, _, rfl⟩ := Option.map_eq_some_iff.mp e
      walk_at "e"
      refine wSs_nil (wSs_nil ?_)
      exact rest _ (by rfl)
    · refine wSs_nil (wSs_nil ?_)
      exact rest _ (by rfl)
end
end

section
set_option Elab.async false
set_option linter.all false
set_option maxRecDepth 100000
set_option maxHeartbeats 4000000
open PySem L2 PyProof.Rows
/-- a ratio -/
def rt (C : Addr) (q : Rat) : D := .obj C ["top", "bottom"] [.int q.num, .int q.den]
/-- values that are known: whether they are numbers -/
inductive Kn (K : PySem.W.Frag) (C : Addr) : D → Bool → Prop
  | int (i : Int) : Kn K C (.int i) true
  | rt (q : Rat) : Kn K C (rt C q) true
  | non : Kn K C .non false
  | bl (b : Bool) : Kn K C (.bl b) false
  | str (x : Str) : Kn K C (.str x) false
  | tup (ds : List D) : Kn K C (.tup ds) false
  | lst (ds : List D) : Kn K C (.lst ds) false
  | obj {C' : Addr} (ns : List Str) (ds : List D) : OwnC K C' → C' ≠ C → Kn K C (.obj C' ns ds) false
/-- numbers -/
inductive Num (C : Addr) : D → Rat → Prop
  | int (i : Int) : Num C (.int i) (i : Rat)
  | rt (q : Rat) : Num C (rt C q) q
theorem Num.kn {K : PySem.W.Frag} {C : Addr} {d : D} {q : Rat} : Num C d q → Kn K C d true
  | .int i => .int i
  | .rt q => .rt q
def isRt (C : Addr) : D → Bool
  | .obj C' _ _ => decide (C' = C)
  | _ => false
def isI : D → Bool
  | .int _ => true
  | _ => false
def isB : D → Bool
  | .bl _ => true
  | _ => false
theorem Kn.ty {K : PySem.W.Frag} {C : Addr} {d : D} {b : Bool} (c : OwnC K C) (h : Kn K C d b) : ∃ t, TyD K d t ∧ PySem.W.kitOne K t (.ref C) = some (isRt C d) ∧ PySem.W.kitOne K t (.type "int") = some (isI d || isB d) ∧ PySem.W.kitOne K t (.type "bool") = some (isB d) := by
  cases h with
  | int i => exact ⟨_, .int, kit_ty_own c mro_int rfl, rfl, rfl⟩
  | rt q => exact ⟨_, .obj c, by simp only [PM.rt, isRt, decide_true]; exact kit_own_self, kit_own_ty c (by decide) (by decide), kit_own_ty c (by decide) (by decide)⟩
  | non => exact ⟨_, .non, kit_ty_own c mro_non rfl, rfl, rfl⟩
  | bl b => exact ⟨_, .bl, kit_ty_own c mro_bool rfl, rfl, rfl⟩
  | str x => exact ⟨_, .str, kit_ty_own c mro_str rfl, rfl, rfl⟩
  | tup ds => exact ⟨_, .tup, kit_ty_own c mro_tup rfl, rfl, rfl⟩
  | lst ds => exact ⟨_, .lst, kit_ty_own c mro_lst rfl, rfl, rfl⟩
  | obj ns ds c' ne => exact ⟨_, .obj c', by simp only [isRt, ne, decide_false]; exact kit_own_own c' c ne, kit_own_ty c' (by decide) (by decide), kit_own_ty c' (by decide) (by decide)⟩
theorem Kn.num {K : PySem.W.Frag} {C : Addr} {d : D} {b : Bool} (h : Kn K C d b) : b = (isRt C d || isI d) := by
  cases h with
  | rt q => simp [PM.rt, isRt]
  | obj ns ds c' ne => simp [isRt, isI, ne]
  | _ => rfl
theorem Kn.nb {K : PySem.W.Frag} {C : Addr} {d : D} {b : Bool} (h : Kn K C d b) : ((isI d || isB d) && !isB d) = isI d := by
  cases h <;> rfl
section
variable {P : Program} {w : World} {K : PySem.W.Frag} {mg : Str → Option Value} {base : Heap} (T : Tx K mg)
def R_is_integer (T : Tx K mg) : Rl := fun ds μ o => ∃ d b, ds = [d] ∧ Kn K T.C_Ratio d b ∧ o = .ret (.bl (isI d)) μ
theorem ok_is_integer : FnG P w K mg base 1 T.a_is_integer T.fd_is_integer ["value"] (spR K (R_is_integer T)) := by
  refine fnR T.F_is_integer sc_is_integer (fun ds μ o ⟨d, b, e, _⟩ => by rw [e]; rfl) fun cdv A outer s H E g ds μ o h => ?_
  obtain ⟨d, b, rfl, kn, rfl⟩ := h
  obtain ⟨t, ty, h0, h1, h2⟩ := kn.ty T.own_Ratio
  rw [← kn.nb]
  refine ⟨_, .ret0, ess_one (es_retV (ev_and (k := isI d || isB d) (k' := !isB d) (ev_bltV (ev_cons (ev_var 0 rfl) (ev_cons (ev_bty (T := "int") rfl T.n_int boot_int) ev_nil)) (cb_isi ty (.ty "int") h1) T.n_isinstance boot_isinstance) fun _ => ?_))⟩
  exact ev_oneV (ev_not (ev_bltV (ev_cons (ev_var 0 rfl) (ev_cons (ev_bty (T := "bool") rfl T.n_bool boot_bool) ev_nil)) (cb_isi ty (.ty "bool") h2) T.n_isinstance boot_isinstance))
def R_is_number (T : Tx K mg) : Rl := fun ds μ o => ∃ d b, ds = [d] ∧ Kn K T.C_Ratio d b ∧ o = .ret (.bl b) μ
theorem ok_is_number : FnG P w K mg base 2 T.a_is_number T.fd_is_number ["value"] (spR K (R_is_number T)) := by
  refine fnR T.F_is_number sc_is_number (fun ds μ o ⟨d, b, e, _⟩ => by rw [e]; rfl) fun cdv A outer s H E g ds μ o h => ?_
  obtain ⟨d, b, rfl, kn, rfl⟩ := h
  obtain ⟨t, ty, h0, h1, h2⟩ := kn.ty T.own_Ratio
  rw [kn.num]
  refine ⟨_, .ret0, ess_one (es_retV (ev_or (k := isRt T.C_Ratio d) (k' := isI d) (ev_bltV (ev_cons (ev_var 0 rfl) (ev_cons (ev_glob (v := .ref T.C_Ratio) (d := .ref T.C_Ratio) rfl T.g_Ratio rfl fun _ _ => rep_ref.mpr rfl) ev_nil)) (cb_isi ty (.own _) h0) T.n_isinstance boot_isinstance) fun _ => ?_))⟩
  exact ev_oneV (ev_callV g ⟨ok_is_integer T, T.b_is_integer⟩ T.g_is_integer T.F_is_integer.kp (ev_cons (ev_var 0 rfl) ev_nil) ⟨d, b, rfl, kn, rfl⟩)
end
end


section
set_option Elab.async false
set_option linter.all false
set_option maxRecDepth 100000
set_option maxHeartbeats 4000000
open PySem L2 PyProof.Rows
section
variable {P : Program} {w : World} {K : PySem.W.Frag} {mg : Str → Option Value} {base : Heap} (T : Tx K mg)
def R_gcd : Rl := fun ds μ o => ∃ a b : Nat, ds = [.int a, .int b] ∧ o = .ret (.int (Nat.gcd a b : Nat)) μ
theorem ok_common_divisor : FnG P w K mg base 1 T.a_common_divisor T.fd_common_divisor ["one", "other"] (spR K R_gcd) := by
  refine fnR T.F_common_divisor sc_common_divisor (fun ds μ o ⟨d, b, e, _⟩ => by rw [e]; rfl) fun cdv A outer s H E g ds μ o h => ?_
  obtain ⟨a, b, rfl, rfl⟩ := h
  refine ⟨_, .ret0, ess_cons (es_whileM (S := Nat × Nat) (fun s => [some (.int s.1), some (.int s.2)]) (fun _ => μ) (fun s => s.2) (fun s => decide (0 < (s.2 : Int))) (fun s => (s.2, s.1 % s.2)) (fun s => (Nat.gcd s.1 s.2, 0)) g (a, b)
    (fun s => et_cmp (ev_var 1 rfl) ev_int oc_gt) (fun s hs => ?_) (fun s hs => ?_) (fun s hs => ?_) (fun s hs => ?_)) (ess_one (es_retV (ev_var 0 rfl)))⟩
  · refine ess_one ?_
    rw [Int.natCast_emod]
    exact es_par 0 1 g (ev_cons (ev_var 1 rfl) (ev_cons (ev_opI (ev_var 0 rfl) (ev_var 1 rfl) (oo_mod (of_decide_eq_true hs))) ev_nil))
  · have := of_decide_eq_true hs
    exact Nat.mod_lt _ (by omega)
  · have h0 := of_decide_eq_false hs
    have : s.2 = 0 := by omega
    obtain ⟨x, y⟩ := s
    simp only at this
    subst this
    simp
  · obtain ⟨x, y⟩ := s
    simp only [Prod.mk.injEq, and_true]
    rw [Nat.gcd_comm x y, Nat.gcd_rec y x, Nat.gcd_comm]
theorem err_InvalidNumber : ErrC P w K mg base T.C_InvalidNumber ["value"] :=
  ⟨T.oex_InvalidNumber, _, _, _, _, T.i_InvalidNumber, T.t_InvalidNumber, fn_I1 (f := "value") (FunD.plain T.F_InvalidNumber_init) sc_InvalidNumber_init T.oex_InvalidNumber T.na_InvalidNumber_value (fun cdv A outer s H E => pss_cons (ps_expr (pe_upinit rfl T.g_PoolError T.up_PoolError (pa_cons (pv 0) pa_nil))) (pss_one (ps_ost (pv 0) (pv 1)))), T.b_InvalidNumber_init, .inl ⟨_, rfl, rfl⟩⟩
/-- Ratio.__init__ -/
def R_init (T : Tx K mg) : Rl := fun ds μ o => ∃ n t b, ds = [.loc n, .int t, .int b] ∧ μ[n]? = some (.ins T.C_Ratio [] []) ∧
  ((b = 0 ∧ o = .exc T.C_InvalidNumber ["value"] [.int 0] μ) ∨ (b ≠ 0 ∧ b.natAbs < 2 ^ 9000 ∧ o = .ret .non (μ.set n (.ins T.C_Ratio ["top", "bottom"] [.int (Rat.divInt t b).num, .int (Rat.divInt t b).den]))))
theorem gcd_fits {t b : Int} (hb : 0 < b) (h : b.natAbs < 2 ^ 9000) : CDivW t (Nat.gcd t.natAbs b.natAbs : Nat) := by
  have h0 : 0 < Nat.gcd t.natAbs b.natAbs := Nat.gcd_pos_of_pos_right _ (by omega)
  refine ⟨by omega, ?_⟩
  exact log2_lt (Nat.lt_of_le_of_lt (Nat.gcd_le_right _ (by omega)) h) (by decide)
theorem ok_Ratio_init : FnG P w K mg base 3 T.a_Ratio_init T.fd_Ratio_init ["self", "top", "bottom"] (spR K (R_init T)) := by
  refine fnR T.F_Ratio_init sc_Ratio_init (fun ds μ o ⟨n, t, b, e, _⟩ => by rw [e]; rfl) fun cdv A outer s H E g ds μ o h => ?_
  obtain ⟨n, t, b, rfl, hn, h⟩ := h
  rcases h with ⟨hb, rfl⟩ | ⟨hb, hz, rfl⟩
  · exact ⟨_, .exc0, ess_stop (es_ifT (et_cmp (ev_var 2 rfl) ev_int oc_eq) (decide_eq_true hb) (ess_one (es_raise g (err_InvalidNumber T) T.g_InvalidNumber (ev_cons ev_int ev_nil) rfl))) trivial⟩
  · have rest : ∀ t' b' : Int, 0 < b' → b'.natAbs < 2 ^ 9000 → Rat.divInt t' b' = Rat.divInt t b → PSs (cxOf (L2.CX P w) P w K mg base n_Ratio_init "Ratio.__init__" (defScope s_Ratio_init) T.a_Ratio_init cdv A outer s H E) ((defBody s_Ratio_init).drop 2)
        (tS (fun c d _ H => E c d H) K [some (.loc n), some (.int t'), some (.int b'), none] μ (.next [some (.loc n), some (.int t'), some (.int b'), some (.int (Nat.gcd t'.natAbs b'.natAbs : Nat))] (μ.set n (.ins T.C_Ratio ["top", "bottom"] [.int (Rat.divInt t b).num, .int (Rat.divInt t b).den])))) := by
      intro t' b' h0 hz' he
      have e2 : (b' : Int) = (b'.natAbs : Int) := by omega
      refine ess_cons (es_setV 3 g.nd (ev_callV g ⟨ok_common_divisor T, T.b_common_divisor⟩ T.g_common_divisor T.F_common_divisor.kp (ev_cons (ev_bltV (ev_cons (ev_var 1 rfl) ev_nil) cb_abs T.n_abs boot_abs) (ev_cons (ev_var 2 rfl) ev_nil)) ⟨t'.natAbs, b'.natAbs, by rw [← e2, show (if t' < 0 then -t' else t') = (t'.natAbs : Int) by split <;> omega], rfl⟩)) ?_
      refine ess_cons (es_fld (i := n) (ev_opI (ev_var 1 rfl) (ev_var 3 rfl) (oo_fdiv (gcd_fits h0 hz'))) (ev_var 0 rfl) hn T.own_Ratio.cl T.na_Ratio_top) ?_
      refine ess_one (es_eq (es_fld (i := n) (ev_opI (ev_var 2 rfl) (ev_var 3 rfl) (oo_fdiv (gcd_fits h0 hz'))) (ev_var 0 rfl) (by rw [List.getElem?_set_self (List.getElem?_eq_some_iff.mp hn).1]) T.own_Ratio.cl T.na_Ratio_bottom) ?_)
      rw [← he, divInt_num h0, divInt_den h0, List.set_set]
      rfl
    refine ⟨.next [some (.loc n), some (.int (if b < 0 then -t else t)), some (.int (if b < 0 then -b else b)), some (.int (Nat.gcd (if b < 0 then -t else t).natAbs (if b < 0 then -b else b).natAbs : Nat))] _, .next0, ess_cons (es_ifF (et_cmp (ev_var 2 rfl) ev_int oc_eq) (decide_eq_false hb) ess_nil) ?_⟩
    by_cases hn0 : b < 0
    · simp only [hn0, if_true]
      refine ess_cons (es_ifT (et_cmp (ev_var 2 rfl) ev_int oc_lt) (decide_eq_true hn0) (ess_one (es_par 1 2 g (ev_cons (ev_unI (ev_var 1 rfl) ou_neg) (ev_cons (ev_unI (ev_var 2 rfl) ou_neg) ev_nil))))) ?_
      exact rest (-t) (-b) (by omega) (by omega) (Rat.neg_divInt_neg t b)
    · simp only [hn0, if_false]
      exact ess_cons (es_ifF (et_cmp (ev_var 2 rfl) ev_int oc_lt) (decide_eq_false hn0) ess_nil) (rest t b (by omega) hz rfl)
end
end


section
set_option Elab.async false
set_option linter.all false
set_option maxRecDepth 100000
set_option maxHeartbeats 4000000
set_option exponentiation.threshold 20000
open PySem L2 PyProof.Rows
theorem lt_pow_mono {a n m : Nat} (h : a < 2 ^ n) (l : n ≤ m) : a < 2 ^ m := Nat.lt_of_lt_of_le h (Nat.pow_le_pow_right (by decide) l)
theorem cmul {i j : Int} (h1 : i.natAbs < 2 ^ 4000) (h2 : j.natAbs < 2 ^ 4000) : CMulW i j := by
  have a := log2_lt h1 (by decide)
  have b := log2_lt h2 (by decide)
  unfold CMulW
  omega
theorem Fit.n {n : Nat} {q : Rat} (h : Fit n q) : q.num.natAbs < 2 ^ n := h.1
theorem Fit.d {n : Nat} {q : Rat} (h : Fit n q) : (q.den : Int).natAbs < 2 ^ n := h.2
theorem dm_fits {q r : Rat} (h1 : Fit 4000 q) (h2 : Fit 4000 r) : ((q.den : Int) * r.den).natAbs < 2 ^ 9000 := by
  rw [Int.natAbs_mul]
  exact lt_pow_mono (mul_lt_pow h1.d h2.d) (by decide)
theorem dm_ne (q r : Rat) : (q.den : Int) * r.den ≠ 0 := Int.mul_ne_zero (by have := q.den_pos; omega) (by have := r.den_pos; omega)
theorem fit_int {n : Nat} {i : Int} (h : i.natAbs < 2 ^ n) (hn : 0 < n) : Fit n (i : Rat) := ⟨h, by
  show 1 < 2 ^ n
  exact Nat.one_lt_two_pow (by omega)⟩
theorem fit_neg {n : Nat} {q : Rat} (h : Fit n q) : Fit n (-q) := ⟨by rw [Rat.neg_num, Int.natAbs_neg]; exact h.1, h.2⟩
theorem fit_mul {n m : Nat} {q r : Rat} (h1 : Fit n q) (h2 : Fit m r) : Fit (n + m) (q * r) := by
  rw [mul_rt]
  refine fit_divInt ?_ ?_ (dm_ne q r)
  · rw [Int.natAbs_mul]; exact mul_lt_pow h1.n h2.n
  · rw [Int.natAbs_mul]; exact mul_lt_pow h1.d h2.d
theorem fit_div {n m : Nat} {q r : Rat} (h1 : Fit n q) (h2 : Fit m r) (hr : r ≠ 0) : Fit (n + m) (q / r) := by
  rw [div_rt]
  have : r.num ≠ 0 := fun e => hr (Rat.num_eq_zero.mp e)
  refine fit_divInt ?_ ?_ (Int.mul_ne_zero (by have := q.den_pos; omega) this)
  · rw [Int.natAbs_mul]; exact mul_lt_pow h1.n h2.d
  · rw [Int.natAbs_mul]; exact mul_lt_pow h1.d h2.n
section
variable {K : PySem.W.Frag} {mg : Str → Option Value} (T : Tx K mg)
theorem mkR {t b : Int} {μ : List M} (hb : b ≠ 0) (hz : b.natAbs < 2 ^ 9000) : MakeR (R_init T) T.C_Ratio [.int t, .int b] μ (.ret (rt T.C_Ratio (Rat.divInt t b)) μ) := by
  refine .obj (ns := ["top", "bottom"]) (fs := [.int (Rat.divInt t b).num, .int (Rat.divInt t b).den]) ⟨μ.length, t, b, rfl, by simp, .inr ⟨hb, hz, ?_⟩⟩ (.refl _) rfl rfl
  rw [List.set_append_right _ _ (Nat.le_refl _)]
  simp
theorem Tx.bR3 : Binds K T.fd_Ratio_init ["self", "top", "bottom"] [] := by
  obtain ⟨ds, h1, h2⟩ := T.b_Ratio_init
  cases h1
  exact h2
end
section
variable {X : Cx} {W : WX} {k : Nat} {T : Tx X.K X.mg} {ρ : Env'} {μ μ1 μ2 : List M} {a b e : Expr} {p pos : Pos} {d : D} {q r : Rat} {t u : Int}
/-- Ratio(t, u) -/
theorem ev_R2 (g : Gd X W k) (h1 : PE X a (tV X.K ρ μ (.int t) μ1)) (h2 : PE X b (tV X.K ρ μ1 (.int u) μ2)) (hb : u ≠ 0) (hz : u.natAbs < 2 ^ 9000) (hk : 4 ≤ k := by decide) (hg : Gl X "Ratio" := by rfl)
    (he : starEach [a, b] X.env = (false, eval a X.env) :: starEach [b] X.env := by rfl) (he2 : starEach [b] X.env = (false, eval b X.env) :: starEach [] X.env := by rfl) (hpl : (backTo pos (starEach [b] X.env)).any (·.1) = false := by rfl) :
    PE X (.Call (.Name "Ratio" p) [a, b] [] pos) (tV X.K ρ μ (rt T.C_Ratio (Rat.divInt t u)) μ2) :=
  ev_make (W := W) (o := .ret _ _) g ⟨T.mk_Ratio, ok_Ratio_init T⟩ T.bR3 T.g_Ratio (ev_cons h1 (ev_cons h2 ev_nil he2) he) (mkR T hb hz) hk hg (by decide) he hpl
/-- Ratio(t) -/
theorem ev_R1 (g : Gd X W k) (h1 : PE X a (tV X.K ρ μ (.int t) μ1)) (hk : 4 ≤ k := by decide) (hg : Gl X "Ratio" := by rfl)
    (he : starEach [a] X.env = (false, eval a X.env) :: starEach [] X.env := by rfl) :
    PE X (.Call (.Name "Ratio" p) [a] [] pos) (tV X.K ρ μ (rt T.C_Ratio (t : Rat)) μ1) := by
  obtain ⟨ds, q1, q2⟩ := T.b_Ratio_init_2
  have e : (t : Rat) = Rat.divInt t 1 := by rw [Rat.divInt_eq_div, Rat.intCast_one]; grind
  rw [e]
  exact ev_makeD (W := W) (o := .ret _ _) (dds := [.int 1]) g ⟨T.mk_Ratio, ok_Ratio_init T⟩ q2 q1 (fun _ _ => Reps.cons (rep_int.mpr rfl) Reps.nil) T.g_Ratio (ev_cons h1 ev_nil he) (mkR T (by decide) (by decide)) hk hg (by decide) he rfl
theorem ev_top (h : PE X e (tV X.K ρ μ (rt T.C_Ratio q) μ1)) (hb : attributeBase e "top" X.env (eval e X.env) = eval e X.env := by rfl) : PE X (.Attribute e "top" pos) (tV X.K ρ μ (.int q.num) μ1) := ev_fld h T.own_Ratio.cl T.na_Ratio_top rfl hb
theorem ev_bot (h : PE X e (tV X.K ρ μ (rt T.C_Ratio q) μ1)) (hb : attributeBase e "bottom" X.env (eval e X.env) = eval e X.env := by rfl) : PE X (.Attribute e "bottom" pos) (tV X.K ρ μ (.int q.den) μ1) := ev_fld h T.own_Ratio.cl T.na_Ratio_bottom rfl hb
/-- isinstance(e, Ratio) -/
theorem ev_isiR {n : Bool} {p2 : Pos} (h : PE X e (tV X.K ρ μ d μ1)) (kn : Kn X.K T.C_Ratio d n) (h1 : Gl X "isinstance" := by rfl) (h2 : Gl X "Ratio" := by rfl) (he : starEach [e, .Name "Ratio" p2] X.env = (false, eval e X.env) :: starEach [.Name "Ratio" p2] X.env := by rfl) :
    PE X (.Call (.Name "isinstance" p) [e, .Name "Ratio" p2] [] pos) (tV X.K ρ μ (.bl (isRt T.C_Ratio d)) μ1) := by
  obtain ⟨t, ty, h0, _, _⟩ := kn.ty T.own_Ratio
  exact ev_bltV (ev_cons h (ev_cons (ev_glob (v := .ref T.C_Ratio) (d := .ref T.C_Ratio) h2 T.g_Ratio rfl fun _ _ => rep_ref.mpr rfl) ev_nil) he) (cb_isi ty (.own _) h0) T.n_isinstance boot_isinstance h1 (by decide) (by decide) he rfl
theorem ev_isint {n : Bool} (g : Gd X W k) (h : PE X e (tV X.K ρ μ d μ1)) (kn : Kn X.K T.C_Ratio d n) (hk : 1 ≤ k := by decide) (hg : Gl X "is_integer" := by rfl) (he : starEach [e] X.env = (false, eval e X.env) :: starEach [] X.env := by rfl) :
    PE X (.Call (.Name "is_integer" p) [e] [] pos) (tV X.K ρ μ (.bl (isI d)) μ1) :=
  ev_callV g ⟨ok_is_integer T, T.b_is_integer⟩ T.g_is_integer T.F_is_integer.kp (ev_cons h ev_nil he) ⟨d, n, rfl, kn, rfl⟩ hk hg (by decide) he rfl
theorem ev_isnum {n : Bool} (g : Gd X W k) (h : PE X e (tV X.K ρ μ d μ1)) (kn : Kn X.K T.C_Ratio d n) (hk : 2 ≤ k := by decide) (hg : Gl X "is_number" := by rfl) (he : starEach [e] X.env = (false, eval e X.env) :: starEach [] X.env := by rfl) :
    PE X (.Call (.Name "is_number" p) [e] [] pos) (tV X.K ρ μ (.bl n) μ1) :=
  ev_callV g ⟨ok_is_number T, T.b_is_number⟩ T.g_is_number T.F_is_number.kp (ev_cons h ev_nil he) ⟨d, n, rfl, kn, rfl⟩ hk hg (by decide) he rfl
end
section
variable {P : Program} {w : World} {K : PySem.W.Frag} {mg : Str → Option Value} {base : Heap} (T : Tx K mg)
def R_as_ratio (T : Tx K mg) : Rl := fun ds μ o => ∃ d, ds = [d] ∧ ((∃ q, Num T.C_Ratio d q ∧ o = .ret (rt T.C_Ratio q) μ) ∨ (Kn K T.C_Ratio d false ∧ o = .exc T.C_InvalidNumber ["value"] [d] μ))
theorem ok_as_ratio : FnG P w K mg base 5 T.a_as_ratio T.fd_as_ratio ["value"] (spR K (R_as_ratio T)) := by
  refine fnR T.F_as_ratio sc_as_ratio (fun ds μ o ⟨d, e, _⟩ => by rw [e]; rfl) fun cdv A outer s H E g ds μ o h => ?_
  obtain ⟨d, rfl, h⟩ := h
  rcases h with ⟨q, hq, rfl⟩ | ⟨kn, rfl⟩
  · cases hq with
    | rt q => exact ⟨_, .ret0, ess_stop (es_ifT (et_val (ev_isiR (T := T) (ev_var 0 rfl) (.rt q))) (by simp [rt, isRt]) (ess_one (es_retV (ev_var 0 rfl)))) trivial⟩
    | int i =>
      exact ⟨_, .ret0, ess_cons (es_ifF (et_val (ev_isiR (T := T) (ev_var 0 rfl) (.int i))) rfl ess_nil)
        (ess_cons (es_ifF (et_not (et_val (ev_isint (T := T) g (ev_var 0 rfl) (.int i)))) rfl ess_nil) (ess_one (es_retV (ev_R1 (T := T) g (ev_var 0 rfl)))))⟩
  · obtain ⟨h1, h2⟩ := Bool.or_eq_false_iff.mp kn.num.symm
    exact ⟨_, .exc0, ess_cons (es_ifF (et_val (ev_isiR (ev_var 0 rfl) (by exact kn))) h1 ess_nil)
      (ess_stop (es_ifT (et_not (et_val (ev_isint g (ev_var 0 rfl) (by exact kn)))) (by rw [h2]; rfl) (ess_one (es_raise g (err_InvalidNumber T) T.g_InvalidNumber (ev_cons (ev_var 0 rfl) ev_nil) rfl))) trivial)⟩
end
end


section
set_option Elab.async false
set_option linter.all false
set_option maxRecDepth 100000
set_option maxHeartbeats 4000000
set_option exponentiation.threshold 20000
open PySem L2 PyProof.Rows
section
variable {X : Cx} {W : WX} {k : Nat} {T : Tx X.K X.mg} {ρ : Env'} {μ μ1 μ2 : List M} {a b e : Expr} {p pos : Pos} {d : D} {q r : Rat} {t u : Int}
theorem ev_as (g : Gd X W k) (h : PE X e (tV X.K ρ μ d μ1)) (hn : Num T.C_Ratio d q) (hk : 5 ≤ k := by decide) (hg : Gl X "as_ratio" := by rfl) (he : starEach [e] X.env = (false, eval e X.env) :: starEach [] X.env := by rfl) :
    PE X (.Call (.Name "as_ratio" p) [e] [] pos) (tV X.K ρ μ (rt T.C_Ratio q) μ1) :=
  ev_callV g ⟨ok_as_ratio T, T.b_as_ratio⟩ T.g_as_ratio T.F_as_ratio.kp (ev_cons h ev_nil he) ⟨d, rfl, .inl ⟨q, hn, rfl⟩⟩ hk hg (by decide) he rfl
end
section
variable {P : Program} {w : World} {K : PySem.W.Frag} {mg : Str → Option Value} {base : Heap} (T : Tx K mg)
/-- a method of a ratio alone -/
def R1 (T : Tx K mg) (f : Rat → D) : Rl := fun ds μ o => ∃ q, ds = [rt T.C_Ratio q] ∧ Fit 4000 q ∧ o = .ret (f q) μ
/-- a method of a ratio and a number -/
def R2 (T : Tx K mg) (f : Rat → Rat → D) : Rl := fun ds μ o => ∃ q d r, ds = [rt T.C_Ratio q, d] ∧ Num T.C_Ratio d r ∧ Fit 4000 q ∧ Fit 4000 r ∧ o = .ret (f q r) μ
/-- a division -/
def RD (T : Tx K mg) (n : Nat) (f : Rat → Rat → D) : Rl := fun ds μ o => ∃ q d r, ds = [rt T.C_Ratio q, d] ∧ Num T.C_Ratio d r ∧ Fit n q ∧ Fit n r ∧ ((r = 0 ∧ o = .exc T.C_InvalidNumber ["value"] [.int 0] μ) ∨ (r ≠ 0 ∧ o = .ret (f q r) μ))
theorem ok_neg : FnG P w K mg base 5 T.a_Ratio_neg T.fd_Ratio_neg ["self"] (spR K (R1 T fun q => rt T.C_Ratio (-q))) := by
  refine fnR T.F_Ratio_neg sc_Ratio_neg (fun ds μ o ⟨q, e, _⟩ => by rw [e]; rfl) fun cdv A outer s H E g ds μ o h => ?_
  obtain ⟨q, rfl, hq, rfl⟩ := h
  dsimp only
  refine ⟨_, .ret0, ess_one (es_retV ?_)⟩
  rw [neg_rt]
  exact ev_R2 g (ev_unI (ev_top (ev_var 0 rfl)) ou_neg) (ev_bot (ev_var 0 rfl)) (by have := q.den_pos; omega) (lt_pow_mono hq.d (by decide))
theorem ok_over : FnG P w K mg base 6 T.a_Ratio_over T.fd_Ratio_over ["self", "other"] (spR K (RD T 4000 fun q r => rt T.C_Ratio (q / r))) := by
  refine fnR T.F_Ratio_over sc_Ratio_over (fun ds μ o ⟨q, d, r, e, _⟩ => by rw [e]; rfl) fun cdv A outer s H E g ds μ o h => ?_
  obtain ⟨q, d, r, rfl, hd, hq, hr, h⟩ := h
  rcases h with ⟨z, rfl⟩ | ⟨z, rfl⟩
  · exact ⟨_, .exc0, ess_cons (es_setV 2 g.nd (ev_as g (ev_var 1 rfl) (by exact hd))) (ess_stop (es_ifT (et_cmp (ev_top (ev_var 2 rfl)) ev_int oc_eq) (decide_eq_true (Rat.num_eq_zero.mpr z)) (ess_one (es_raise g (err_InvalidNumber T) T.g_InvalidNumber (ev_cons ev_int ev_nil) rfl))) trivial)⟩
  · have z' : r.num ≠ 0 := fun e => z (Rat.num_eq_zero.mp e)
    dsimp only
    refine ⟨_, .ret0, ess_cons (es_setV 2 g.nd (ev_as g (ev_var 1 rfl) (by exact hd))) (ess_cons (es_ifF (et_cmp (ev_top (ev_var 2 rfl)) ev_int oc_eq) (decide_eq_false z') ess_nil) (ess_one (es_retV ?_)))⟩
    rw [div_rt]
    refine ev_R2 g (ev_opI (ev_top (ev_var 0 rfl)) (ev_bot (ev_var 2 rfl)) (oo_mul (cmul hq.n hr.d))) (ev_opI (ev_bot (ev_var 0 rfl)) (ev_top (ev_var 2 rfl)) (oo_mul (cmul hq.d hr.n))) (Int.mul_ne_zero (by have := q.den_pos; omega) z') ?_
    rw [Int.natAbs_mul]
    exact lt_pow_mono (mul_lt_pow hq.d hr.n) (by decide)
theorem ok_add : FnG P w K mg base 6 T.a_Ratio_add T.fd_Ratio_add ["self", "other"] (spR K (R2 T fun q r => rt T.C_Ratio (q + r))) := by
  refine fnR T.F_Ratio_add sc_Ratio_add (fun ds μ o ⟨q, d, r, e, _⟩ => by rw [e]; rfl) fun cdv A outer s H E g ds μ o h => ?_
  obtain ⟨q, d, r, rfl, hd, hq, hr, rfl⟩ := h
  dsimp only
  refine ⟨_, .ret0, ess_cons (es_ifF (et_not (et_val (ev_isnum g (ev_var 1 rfl) (by exact hd.kn)))) rfl ess_nil) (ess_cons (es_setV 2 g.nd (ev_as g (ev_var 1 rfl) (by exact hd))) (ess_one (es_retV ?_)))⟩
  rw [add_rt]
  exact ev_R2 g (ev_opI (ev_opI (ev_top (ev_var 0 rfl)) (ev_bot (ev_var 2 rfl)) (oo_mul (cmul hq.n hr.d))) (ev_opI (ev_top (ev_var 2 rfl)) (ev_bot (ev_var 0 rfl)) (oo_mul (cmul hr.n hq.d))) oo_add)
    (ev_opI (ev_bot (ev_var 0 rfl)) (ev_bot (ev_var 2 rfl)) (oo_mul (cmul hq.d hr.d))) (dm_ne q r) (dm_fits hq hr)
theorem ok_mul : FnG P w K mg base 6 T.a_Ratio_mul T.fd_Ratio_mul ["self", "other"] (spR K (R2 T fun q r => rt T.C_Ratio (q * r))) := by
  refine fnR T.F_Ratio_mul sc_Ratio_mul (fun ds μ o ⟨q, d, r, e, _⟩ => by rw [e]; rfl) fun cdv A outer s H E g ds μ o h => ?_
  obtain ⟨q, d, r, rfl, hd, hq, hr, rfl⟩ := h
  dsimp only
  refine ⟨_, .ret0, ess_cons (es_ifF (et_not (et_val (ev_isnum g (ev_var 1 rfl) (by exact hd.kn)))) rfl ess_nil) (ess_cons (es_setV 2 g.nd (ev_as g (ev_var 1 rfl) (by exact hd))) (ess_one (es_retV ?_)))⟩
  rw [mul_rt]
  exact ev_R2 g (ev_opI (ev_top (ev_var 0 rfl)) (ev_top (ev_var 2 rfl)) (oo_mul (cmul hq.n hr.n))) (ev_opI (ev_bot (ev_var 0 rfl)) (ev_bot (ev_var 2 rfl)) (oo_mul (cmul hq.d hr.d))) (dm_ne q r) (dm_fits hq hr)
end
end


section
set_option Elab.async false
set_option linter.all false
set_option maxRecDepth 100000
set_option maxHeartbeats 4000000
set_option exponentiation.threshold 20000
open PySem L2 PyProof.Rows
section
variable {X : Cx} {W : WX} {k j : Nat} {T : Tx X.K X.mg} {ρ : Env'} {μ μ1 μ2 : List M} {a b e : Expr} {p pos : Pos} {d : D} {q r : Rat} {t u : Int} {op : Operator} {ps : List Str} {R : Rl} {f : Addr} {fd : FuncData} {o : FO}
/-- ratio op number -/
theorem oo_num {rc fo ro : Option Value} (g : Gd X W k) (hm : Meth X.K T.C_Ratio (PySem.dunder op.info.2) f) (hr : PySem.W.findIn X.K (.ref T.C_Ratio) (dunderR op.info.2) = some rc) (hp : rc = none ∨ ∃ g : Addr, rc = some (.ref g))
    (h1 : PySem.W.findIn X.K (.type "int") (PySem.dunder op.info.2) = some fo) (h2 : PySem.W.findIn X.K (.type "int") (dunderR op.info.2) = some ro) (c : Cal X.prog X.w X.K X.mg X.base j ps R f fd) (hd : Num T.C_Ratio d r)
    (hR : R [rt T.C_Ratio q, d] μ o) (hj : j ≤ k := by decide) : OpO X W (binaryOp op) (rt T.C_Ratio q) d μ o := by
  cases hd with
  | int i => exact oo_ownI g T.own_Ratio hm.at_ hm.fn hr hp h1 h2 c hR hj
  | rt r => exact oo_own g T.own_Ratio hm.at_ hm.fn c hR hj
theorem oR_add (g : Gd X W k) (hd : Num T.C_Ratio d r) (hq : Fit 4000 q) (hr : Fit 4000 r) (hj : 6 ≤ k := by decide) : OpO X W (binaryOp .Add) (rt T.C_Ratio q) d μ (.ret (rt T.C_Ratio (q + r)) μ) := by
  obtain ⟨_, h1⟩ := T.io_add; obtain ⟨_, h2⟩ := T.ior_add
  exact oo_num (op := .Add) g T.m_Ratio_add T.m_Ratio_radd.at_ (.inr ⟨_, rfl⟩) h1 h2 ⟨ok_add T, T.b_Ratio_add⟩ hd ⟨q, d, r, rfl, hd, hq, hr, rfl⟩ hj
theorem oR_mul (g : Gd X W k) (hd : Num T.C_Ratio d r) (hq : Fit 4000 q) (hr : Fit 4000 r) (hj : 6 ≤ k := by decide) : OpO X W (binaryOp .Mult) (rt T.C_Ratio q) d μ (.ret (rt T.C_Ratio (q * r)) μ) := by
  obtain ⟨_, h1⟩ := T.io_mul; obtain ⟨_, h2⟩ := T.ior_mul
  exact oo_num (op := .Mult) g T.m_Ratio_mul T.m_Ratio_rmul.at_ (.inr ⟨_, rfl⟩) h1 h2 ⟨ok_mul T, T.b_Ratio_mul⟩ hd ⟨q, d, r, rfl, hd, hq, hr, rfl⟩ hj
theorem oR_neg (g : Gd X W k) (hq : Fit 4000 q) (hj : 5 ≤ k := by decide) : UnO X W (unaryOp .USub) (rt T.C_Ratio q) μ (.ret (rt T.C_Ratio (-q)) μ) :=
  ou_own g T.m_Ratio_neg.at_ T.m_Ratio_neg.fn ⟨ok_neg T, T.b_Ratio_neg⟩ ⟨q, rfl, hq, rfl⟩ hj
end
section
variable {P : Program} {w : World} {K : PySem.W.Frag} {mg : Str → Option Value} {base : Heap} (T : Tx K mg)
theorem ok_sub : FnG P w K mg base 7 T.a_Ratio_sub T.fd_Ratio_sub ["self", "other"] (spR K (R2 T fun q r => rt T.C_Ratio (q - r))) := by
  refine fnR T.F_Ratio_sub sc_Ratio_sub (fun ds μ o ⟨q, d, r, e, _⟩ => by rw [e]; rfl) fun cdv A outer s H E g ds μ o h => ?_
  obtain ⟨q, d, r, rfl, hd, hq, hr, rfl⟩ := h
  dsimp only
  rw [Rat.sub_eq_add_neg]
  exact ⟨_, .ret0, ess_cons (es_ifF (et_not (et_val (ev_isnum g (ev_var 1 rfl) (by exact hd.kn)))) rfl ess_nil) (ess_one (es_retV (ev_opV (ev_var 0 rfl) (ev_unV (ev_as g (ev_var 1 rfl) (by exact hd)) (oR_neg g hr)) (oR_add g (.rt _) hq (fit_neg hr)))))⟩
end
section
variable {X : Cx} {W : WX} {k j : Nat} {T : Tx X.K X.mg} {ρ : Env'} {μ μ1 μ2 : List M} {a b e : Expr} {p pos : Pos} {d : D} {q r : Rat} {t u : Int} {o : FO}
theorem oR_sub (g : Gd X W k) (hd : Num T.C_Ratio d r) (hq : Fit 4000 q) (hr : Fit 4000 r) (hj : 7 ≤ k := by decide) : OpO X W (binaryOp .Sub) (rt T.C_Ratio q) d μ (.ret (rt T.C_Ratio (q - r)) μ) := by
  obtain ⟨_, h1⟩ := T.io_sub; obtain ⟨_, h2⟩ := T.ior_sub
  exact oo_num (op := .Sub) g T.m_Ratio_sub T.m_Ratio_rsub.at_ (.inr ⟨_, rfl⟩) h1 h2 ⟨ok_sub T, T.b_Ratio_sub⟩ hd ⟨q, d, r, rfl, hd, hq, hr, rfl⟩ hj
end
section
variable {P : Program} {w : World} {K : PySem.W.Frag} {mg : Str → Option Value} {base : Heap} (T : Tx K mg)
end
end


section
set_option Elab.async false
set_option linter.all false
set_option maxRecDepth 100000
set_option maxHeartbeats 4000000
set_option exponentiation.threshold 20000
open PySem L2 PyProof.Rows
/-- the value without its sign -/
def rabs (q : Rat) : Rat := if q < 0 then -q else q
theorem num_neg_iff (q : Rat) : q < 0 ↔ q.num < 0 := by
  rw [Rat.lt_iff]; simp
theorem rabs_num (q : Rat) : (rabs q).num = if q.num < 0 then -q.num else q.num := by
  unfold rabs
  by_cases h : q < 0
  · rw [if_pos h, if_pos ((num_neg_iff q).mp h), Rat.neg_num]
  · rw [if_neg h, if_neg (fun z => h ((num_neg_iff q).mpr z))]
theorem rabs_den (q : Rat) : (rabs q).den = q.den := by
  unfold rabs
  split <;> rfl
theorem abs_rt (q : Rat) : rabs q = Rat.divInt (if q.num < 0 then -q.num else q.num) q.den := by
  rw [rat_eq (rabs q), rabs_num, rabs_den]
theorem fit_rabs {n : Nat} {q : Rat} (h : Fit n q) : Fit n (rabs q) := by
  unfold rabs
  split
  · exact fit_neg h
  · exact h
section
variable {P : Program} {w : World} {K : PySem.W.Frag} {mg : Str → Option Value} {base : Heap} (T : Tx K mg)
theorem ok_abs : FnG P w K mg base 5 T.a_Ratio_abs T.fd_Ratio_abs ["self"] (spR K (R1 T fun q => rt T.C_Ratio (rabs q))) := by
  refine fnR T.F_Ratio_abs sc_Ratio_abs (fun ds μ o ⟨q, e, _⟩ => by rw [e]; rfl) fun cdv A outer s H E g ds μ o h => ?_
  obtain ⟨q, rfl, hq, rfl⟩ := h
  dsimp only
  refine ⟨_, .ret0, ess_one (es_retV ?_)⟩
  rw [abs_rt]
  exact ev_R2 g (ev_bltV (ev_cons (ev_top (ev_var 0 rfl)) ev_nil) cb_abs T.n_abs boot_abs) (ev_bot (ev_var 0 rfl)) (by have := q.den_pos; omega) (lt_pow_mono hq.d (by decide))
/-- ratio == anything -/
def R_eq (T : Tx K mg) : Rl := fun ds μ o => ∃ q d, ds = [rt T.C_Ratio q, d] ∧ ((∃ r, Num T.C_Ratio d r ∧ o = .ret (.bl (decide (q = r))) μ) ∨ (Kn K T.C_Ratio d false ∧ o = .ret (.bl false) μ))
theorem eq_rt (q r : Rat) : decide (q = r) = (decide (q.num = r.num) && decide ((q.den : Int) = r.den)) := by
  rw [← Bool.decide_and]
  refine decide_eq_decide.mpr ⟨fun h => by subst h; exact ⟨rfl, rfl⟩, fun h => Rat.ext h.1 (by omega)⟩
theorem ok_eq : FnG P w K mg base 6 T.a_Ratio_eq T.fd_Ratio_eq ["self", "other"] (spR K (R_eq T)) := by
  refine fnR T.F_Ratio_eq sc_Ratio_eq (fun ds μ o ⟨q, d, e, _⟩ => by rw [e]; rfl) fun cdv A outer s H E g ds μ o h => ?_
  obtain ⟨q, d, rfl, h⟩ := h
  rcases h with ⟨r, hd, rfl⟩ | ⟨kn, rfl⟩
  · rw [eq_rt]
    exact ⟨_, .ret0, ess_cons (es_ifF (et_not (et_val (ev_isnum g (ev_var 1 rfl) (by exact hd.kn)))) rfl ess_nil) (ess_cons (es_setV 2 g.nd (ev_as g (ev_var 1 rfl) (by exact hd))) (ess_one (es_retV (ev_and (ev_cmpV (ev_top (T := T) (q := q) (ev_var 0 rfl)) (ev_top (T := T) (q := r) (ev_var 2 rfl)) oc_eq) fun _ => ev_oneV (ev_cmpV (ev_bot (T := T) (q := q) (ev_var 0 rfl)) (ev_bot (T := T) (q := r) (ev_var 2 rfl)) oc_eq)))))⟩
  · exact ⟨_, .ret0, ess_stop (es_ifT (et_not (et_val (ev_isnum g (ev_var 1 rfl) (by exact kn)))) rfl (ess_one (es_retV ev_bl))) trivial⟩
end
section
variable {X : Cx} {W : WX} {k j : Nat} {T : Tx X.K X.mg} {ρ : Env'} {μ μ1 μ2 : List M} {a b e : Expr} {p pos : Pos} {d : D} {q r : Rat} {t u : Int} {o : FO} {op : CmpOp} {ps : List Str} {R : Rl} {f : Addr} {fd : FuncData}
theorem Kn.nf {K : PySem.W.Frag} {C : Addr} {n : Bool} (c : OwnC K C) (h : Kn K C d n) : ∃ t, TyD K d t ∧ PySem.W.notFirst K C t = true := by
  cases h with
  | int i => exact ⟨_, .int, notFirst_ty mro_int rfl⟩
  | rt q => exact ⟨_, .obj c, notFirst_own⟩
  | non => exact ⟨_, .non, notFirst_ty mro_non rfl⟩
  | bl b => exact ⟨_, .bl, notFirst_ty mro_bool rfl⟩
  | str x => exact ⟨_, .str, notFirst_ty mro_str rfl⟩
  | tup ds => exact ⟨_, .tup, notFirst_ty mro_tup rfl⟩
  | lst ds => exact ⟨_, .lst, notFirst_ty mro_lst rfl⟩
  | @obj C' ns ds c' ne =>
    refine ⟨_, .obj c', ?_⟩
    unfold PySem.W.notFirst
    rw [show PySem.W.subIn K (.ref C') (.ref C) = some false by
      show PySem.W.mroIn K C' (.ref C) = _
      rw [c'.mroIn]
      simp [Ne.symm ne]]
    simp
/-- ratio cmp a known value -/
theorem rich_R {n : Bool} (g : Gd X W k) (hm : Meth X.K T.C_Ratio (cmpInfo op).2.1 f) (kn : Kn X.K T.C_Ratio d n) (c : Cal X.prog X.w X.K X.mg X.base j ps R f fd) (hR : R [rt T.C_Ratio q, d] μ o) (hj : j ≤ k := by decide) : OpO X W (richCompare op) (rt T.C_Ratio q) d μ o := by
  obtain ⟨t, ty, nf⟩ := kn.nf T.own_Ratio
  exact rich_own g hm.at_ hm.fn ty nf c hR hj
theorem oR_eqN (g : Gd X W k) (hd : Num T.C_Ratio d r) (hj : 6 ≤ k := by decide) : OpO X W (compareOp .Eq) (rt T.C_Ratio q) d μ (.ret (.bl (decide (q = r))) μ) :=
  rich_R (op := .Eq) g T.m_Ratio_eq hd.kn ⟨ok_eq T, T.b_Ratio_eq⟩ ⟨q, d, rfl, .inl ⟨r, hd, rfl⟩⟩ hj
theorem oR_eqK (g : Gd X W k) (hd : Kn X.K T.C_Ratio d false) (hj : 6 ≤ k := by decide) : OpO X W (compareOp .Eq) (rt T.C_Ratio q) d μ (.ret (.bl false) μ) :=
  rich_R (op := .Eq) g T.m_Ratio_eq hd ⟨ok_eq T, T.b_Ratio_eq⟩ ⟨q, d, rfl, .inr ⟨hd, rfl⟩⟩ hj
end
section
variable {P : Program} {w : World} {K : PySem.W.Frag} {mg : Str → Option Value} {base : Heap} (T : Tx K mg)
def R_ne (T : Tx K mg) : Rl := fun ds μ o => ∃ q d, ds = [rt T.C_Ratio q, d] ∧ ((∃ r, Num T.C_Ratio d r ∧ o = .ret (.bl (!decide (q = r))) μ) ∨ (Kn K T.C_Ratio d false ∧ o = .ret (.bl true) μ))
theorem ok_ne : FnG P w K mg base 7 T.a_Ratio_ne T.fd_Ratio_ne ["self", "other"] (spR K (R_ne T)) := by
  refine fnR T.F_Ratio_ne sc_Ratio_ne (fun ds μ o ⟨q, d, e, _⟩ => by rw [e]; rfl) fun cdv A outer s H E g ds μ o h => ?_
  obtain ⟨q, d, rfl, h⟩ := h
  rcases h with ⟨r, hd, rfl⟩ | ⟨kn, rfl⟩
  · exact ⟨_, .ret0, ess_one (es_retV (ev_not (ev_cmpV (ev_var 0 rfl) (ev_var 1 rfl) (oR_eqN g.w0 (by exact hd)))))⟩
  · exact ⟨_, .ret0, ess_one (es_retV (ev_not (ev_cmpV (ev_var 0 rfl) (ev_var 1 rfl) (oR_eqK g.w0 (by exact kn)))))⟩
theorem lt_rt (q r : Rat) : decide (q < r) = decide (q.num * r.den < r.num * q.den) := decide_eq_decide.mpr (Rat.lt_iff q r)
theorem le_rt (q r : Rat) : decide (q ≤ r) = decide (q.num * r.den ≤ r.num * q.den) := decide_eq_decide.mpr (Rat.le_iff q r)
theorem ok_lt : FnG P w K mg base 6 T.a_Ratio_lt T.fd_Ratio_lt ["self", "other"] (spR K (R2 T fun q r => .bl (decide (q < r)))) := by
  refine fnR T.F_Ratio_lt sc_Ratio_lt (fun ds μ o ⟨q, d, r, e, _⟩ => by rw [e]; rfl) fun cdv A outer s H E g ds μ o h => ?_
  obtain ⟨q, d, r, rfl, hd, hq, hr, rfl⟩ := h
  dsimp only
  rw [lt_rt]
  exact ⟨_, .ret0, ess_cons (es_ifF (et_not (et_val (ev_isnum g (ev_var 1 rfl) (by exact hd.kn)))) rfl ess_nil) (ess_cons (es_setV 2 g.nd (ev_as g (ev_var 1 rfl) (by exact hd))) (ess_one (es_retV (ev_cmpV (ev_opI (ev_top (T := T) (q := q) (ev_var 0 rfl)) (ev_bot (T := T) (q := r) (ev_var 2 rfl)) (oo_mul (cmul hq.n hr.d))) (ev_opI (ev_top (T := T) (q := r) (ev_var 2 rfl)) (ev_bot (T := T) (q := q) (ev_var 0 rfl)) (oo_mul (cmul hr.n hq.d))) oc_lt))))⟩
theorem ok_le : FnG P w K mg base 6 T.a_Ratio_le T.fd_Ratio_le ["self", "other"] (spR K (R2 T fun q r => .bl (decide (q ≤ r)))) := by
  refine fnR T.F_Ratio_le sc_Ratio_le (fun ds μ o ⟨q, d, r, e, _⟩ => by rw [e]; rfl) fun cdv A outer s H E g ds μ o h => ?_
  obtain ⟨q, d, r, rfl, hd, hq, hr, rfl⟩ := h
  dsimp only
  rw [le_rt]
  exact ⟨_, .ret0, ess_cons (es_ifF (et_not (et_val (ev_isnum g (ev_var 1 rfl) (by exact hd.kn)))) rfl ess_nil) (ess_cons (es_setV 2 g.nd (ev_as g (ev_var 1 rfl) (by exact hd))) (ess_one (es_retV (ev_cmpV (ev_opI (ev_top (T := T) (q := q) (ev_var 0 rfl)) (ev_bot (T := T) (q := r) (ev_var 2 rfl)) (oo_mul (cmul hq.n hr.d))) (ev_opI (ev_top (T := T) (q := r) (ev_var 2 rfl)) (ev_bot (T := T) (q := q) (ev_var 0 rfl)) (oo_mul (cmul hr.n hq.d))) oc_le))))⟩
theorem ok_gt : FnG P w K mg base 6 T.a_Ratio_gt T.fd_Ratio_gt ["self", "other"] (spR K (R2 T fun q r => .bl (decide (r < q)))) := by
  refine fnR T.F_Ratio_gt sc_Ratio_gt (fun ds μ o ⟨q, d, r, e, _⟩ => by rw [e]; rfl) fun cdv A outer s H E g ds μ o h => ?_
  obtain ⟨q, d, r, rfl, hd, hq, hr, rfl⟩ := h
  dsimp only
  rw [lt_rt]
  exact ⟨_, .ret0, ess_cons (es_ifF (et_not (et_val (ev_isnum g (ev_var 1 rfl) (by exact hd.kn)))) rfl ess_nil) (ess_cons (es_setV 2 g.nd (ev_as g (ev_var 1 rfl) (by exact hd))) (ess_one (es_retV (ev_cmpV (ev_opI (ev_top (T := T) (q := q) (ev_var 0 rfl)) (ev_bot (T := T) (q := r) (ev_var 2 rfl)) (oo_mul (cmul hq.n hr.d))) (ev_opI (ev_top (T := T) (q := r) (ev_var 2 rfl)) (ev_bot (T := T) (q := q) (ev_var 0 rfl)) (oo_mul (cmul hr.n hq.d))) oc_gt))))⟩
theorem ok_ge : FnG P w K mg base 6 T.a_Ratio_ge T.fd_Ratio_ge ["self", "other"] (spR K (R2 T fun q r => .bl (decide (r ≤ q)))) := by
  refine fnR T.F_Ratio_ge sc_Ratio_ge (fun ds μ o ⟨q, d, r, e, _⟩ => by rw [e]; rfl) fun cdv A outer s H E g ds μ o h => ?_
  obtain ⟨q, d, r, rfl, hd, hq, hr, rfl⟩ := h
  dsimp only
  rw [le_rt]
  exact ⟨_, .ret0, ess_cons (es_ifF (et_not (et_val (ev_isnum g (ev_var 1 rfl) (by exact hd.kn)))) rfl ess_nil) (ess_cons (es_setV 2 g.nd (ev_as g (ev_var 1 rfl) (by exact hd))) (ess_one (es_retV (ev_cmpV (ev_opI (ev_top (T := T) (q := q) (ev_var 0 rfl)) (ev_bot (T := T) (q := r) (ev_var 2 rfl)) (oo_mul (cmul hq.n hr.d))) (ev_opI (ev_top (T := T) (q := r) (ev_var 2 rfl)) (ev_bot (T := T) (q := q) (ev_var 0 rfl)) (oo_mul (cmul hr.n hq.d))) oc_ge))))⟩
end
end


section
set_option Elab.async false
set_option linter.all false
set_option maxRecDepth 100000
set_option maxHeartbeats 4000000
set_option exponentiation.threshold 20000
open PySem L2 PyProof.Rows
section
variable {X : Cx} {W : WX} {k j : Nat} {T : Tx X.K X.mg} {μ : List M} {d : D} {q r : Rat} {i : Int}
/-! ### ratio cmp number -/
theorem oR_ltN (g : Gd X W k) (hd : Num T.C_Ratio d r) (hq : Fit 4000 q) (hr : Fit 4000 r) (hj : 6 ≤ k := by decide) : OpO X W (compareOp .Lt) (rt T.C_Ratio q) d μ (.ret (.bl (decide (q < r))) μ) :=
  rich_R (op := .Lt) g T.m_Ratio_lt hd.kn ⟨ok_lt T, T.b_Ratio_lt⟩ ⟨q, d, r, rfl, hd, hq, hr, rfl⟩ hj
theorem oR_leN (g : Gd X W k) (hd : Num T.C_Ratio d r) (hq : Fit 4000 q) (hr : Fit 4000 r) (hj : 6 ≤ k := by decide) : OpO X W (compareOp .LtE) (rt T.C_Ratio q) d μ (.ret (.bl (decide (q ≤ r))) μ) :=
  rich_R (op := .LtE) g T.m_Ratio_le hd.kn ⟨ok_le T, T.b_Ratio_le⟩ ⟨q, d, r, rfl, hd, hq, hr, rfl⟩ hj
theorem oR_gtN (g : Gd X W k) (hd : Num T.C_Ratio d r) (hq : Fit 4000 q) (hr : Fit 4000 r) (hj : 6 ≤ k := by decide) : OpO X W (compareOp .Gt) (rt T.C_Ratio q) d μ (.ret (.bl (decide (r < q))) μ) :=
  rich_R (op := .Gt) g T.m_Ratio_gt hd.kn ⟨ok_gt T, T.b_Ratio_gt⟩ ⟨q, d, r, rfl, hd, hq, hr, rfl⟩ hj
theorem oR_geN (g : Gd X W k) (hd : Num T.C_Ratio d r) (hq : Fit 4000 q) (hr : Fit 4000 r) (hj : 6 ≤ k := by decide) : OpO X W (compareOp .GtE) (rt T.C_Ratio q) d μ (.ret (.bl (decide (r ≤ q))) μ) :=
  rich_R (op := .GtE) g T.m_Ratio_ge hd.kn ⟨ok_ge T, T.b_Ratio_ge⟩ ⟨q, d, r, rfl, hd, hq, hr, rfl⟩ hj
theorem oR_neN (g : Gd X W k) (hd : Num T.C_Ratio d r) (hj : 7 ≤ k := by decide) : OpO X W (compareOp .NotEq) (rt T.C_Ratio q) d μ (.ret (.bl (!decide (q = r))) μ) :=
  rich_R (op := .NotEq) g T.m_Ratio_ne hd.kn ⟨ok_ne T, T.b_Ratio_ne⟩ ⟨q, d, rfl, .inl ⟨r, hd, rfl⟩⟩ hj
/-! ### number cmp ratio -/
theorem oL_le (g : Gd X W k) (hd : Num T.C_Ratio d r) (hq : Fit 4000 q) (hr : Fit 4000 r) (hj : 6 ≤ k := by decide) : OpO X W (compareOp .LtE) d (rt T.C_Ratio q) μ (.ret (.bl (decide (r ≤ q))) μ) := by
  cases hd with
  | int i => exact oc_intOwn (op := .LtE) g T.own_Ratio (fun _ _ => rfl) PySem.F.slot_int_le PySem.F.entry_int_le PySem.F.args_int_le_2 (fun _ _ _ => dec_le) T.m_Ratio_ge.at_ T.m_Ratio_ge.fn ⟨ok_ge T, T.b_Ratio_ge⟩ ⟨q, _, _, rfl, .int i, hq, hr, rfl⟩ hj
  | rt r => exact oR_leN g (.rt q) hr hq hj
/-! ### number op ratio -/
/-! ### ratio op= number -/
/-- abs(ratio) -/
theorem cR_abs (g : Gd X W k) (hq : Fit 4000 q) (hj : 6 ≤ k := by decide) : CallO X W (fun us => call (.builtin "abs") us) [rt T.C_Ratio q] μ (.ret (rt T.C_Ratio (rabs q)) μ) :=
  cb_absOwn g T.m_Ratio_abs ⟨ok_abs T, T.b_Ratio_abs⟩ ⟨q, rfl, hq, rfl⟩ hj
end
end


section
set_option Elab.async false
set_option linter.all false
set_option maxRecDepth 100000
set_option maxHeartbeats 4000000
set_option exponentiation.threshold 20000
open PySem L2 PyProof.Rows
section
variable {X : Cx} {W : WX} {k : Nat} {T : Tx X.K X.mg} {ρ : Env'} {μ : List M} {e : Expr} {pos : Pos} {d : D} {q r : Rat} {t u : Int} {Q : KV} {Z : KX}
/-- Ratio(t, u), Ratio(t) -/
theorem wF_R2 (T : Tx X.K X.mg) (g : Gd X W k) (hb : u ≠ 0) (hz : u.natAbs < 2 ^ 9000) (h : Q (rt T.C_Ratio (Rat.divInt t u)) μ) (hk : 4 ≤ k := by decide) : wF X W (fun us => call (.ref T.C_Ratio) us) [.int t, .int u] μ Q Z :=
  .of (o := .ret _ _) (makeO (dvs := []) (dds := []) T.mk_Ratio (ok_Ratio_init T) T.bR3 .nil (fun _ _ => Reps.nil) g hk (by exact mkR T hb hz)) h
theorem int_divInt (t : Int) : (t : Rat) = Rat.divInt t 1 := by rw [Rat.divInt_eq_div, Rat.intCast_one]; grind
theorem wF_R1 (T : Tx X.K X.mg) (g : Gd X W k) (h : Q (rt T.C_Ratio (t : Rat)) μ) (hk : 4 ≤ k := by decide) : wF X W (fun us => call (.ref T.C_Ratio) us) [.int t] μ Q Z := by
  obtain ⟨ds, q1, q2⟩ := T.b_Ratio_init_2
  rw [int_divInt] at h
  exact .of (o := .ret _ _) (makeO (dds := [.int 1]) T.mk_Ratio (ok_Ratio_init T) q2 q1 (fun _ _ => Reps.cons (rep_int.mpr rfl) Reps.nil) g hk (by exact mkR T (by decide) (by decide))) h
/-- q.top, q.bottom -/
theorem wE_top (T : Tx X.K X.mg) (h : wE X W ρ μ e (fun d μ1 => ∃ q, d = rt T.C_Ratio q ∧ Q (.int q.num) μ1) Z) (hb : attributeBase e "top" X.env (eval e X.env) = eval e X.env := by rfl) : wE X W ρ μ (.Attribute e "top" pos) Q Z :=
  wE_fld (h.imp fun d μ1 ⟨q, ed, hq⟩ => ⟨_, _, .inl ed, _, rfl, hq⟩) T.own_Ratio.cl T.na_Ratio_top hb
theorem wE_bot (T : Tx X.K X.mg) (h : wE X W ρ μ e (fun d μ1 => ∃ q, d = rt T.C_Ratio q ∧ Q (.int q.den) μ1) Z) (hb : attributeBase e "bottom" X.env (eval e X.env) = eval e X.env := by rfl) : wE X W ρ μ (.Attribute e "bottom" pos) Q Z :=
  wE_fld (h.imp fun d μ1 ⟨q, ed, hq⟩ => ⟨_, _, .inl ed, _, rfl, hq⟩) T.own_Ratio.cl T.na_Ratio_bottom hb
theorem wF_isRt {C : Addr} (c : OwnC X.K C) (h : Q (.bl true) μ) : wF X W (fun us => call (.builtin "isinstance") us) [rt C q, .ref C] μ Q Z := by
  obtain ⟨t, ty, h0, _, _⟩ := (Kn.rt (K := X.K) (C := C) q).ty c
  refine wF_isi ty (.own _) h0 ?_
  simp only [rt, isRt, decide_true]
  exact h
/-- isinstance of plain values and built-in classes -/
theorem wF_isII (h : Q (.bl true) μ) : wF X W (fun us => call (.builtin "isinstance") us) [.int t, .ty "int"] μ Q Z := wF_isi .int (.ty "int") rfl h
theorem wF_isIB (h : Q (.bl false) μ) : wF X W (fun us => call (.builtin "isinstance") us) [.int t, .ty "bool"] μ Q Z := wF_isi .int (.ty "bool") rfl h
theorem wF_isBB {b : Bool} (h : Q (.bl true) μ) : wF X W (fun us => call (.builtin "isinstance") us) [.bl b, .ty "bool"] μ Q Z := wF_isi .bl (.ty "bool") rfl h
end
end


section
set_option Elab.async false
set_option linter.all false
set_option maxRecDepth 100000
set_option maxHeartbeats 4000000
set_option exponentiation.threshold 20000
open PySem L2 PyProof.Rows
theorem fit_add {n m : Nat} {q r : Rat} (h1 : Fit n q) (h2 : Fit m r) : Fit (n + m + 1) (q + r) := by
  rw [add_rt]
  have a1 := mul_lt_pow h1.n h2.d
  have a2 := mul_lt_pow h2.n h1.d
  have a3 := mul_lt_pow h1.d h2.d
  have e1 : 2 ^ (n + m + 1) = 2 ^ (n + m) + 2 ^ (n + m) := by rw [Nat.pow_succ]; omega
  rw [Nat.add_comm m n] at a2
  refine fit_divInt ?_ ?_ (dm_ne q r)
  · have b := Int.natAbs_add_le (q.num * r.den) (r.num * q.den)
    rw [Int.natAbs_mul, Int.natAbs_mul] at b
    omega
  · rw [Int.natAbs_mul]
    omega
theorem fit_sub {n m : Nat} {q r : Rat} (h1 : Fit n q) (h2 : Fit m r) : Fit (n + m + 1) (q - r) := by
  rw [Rat.sub_eq_add_neg]
  exact fit_add h1 (fit_neg h2)
section
variable {X : Cx} {W : WX} {k : Nat} {T : Tx X.K X.mg} {μ : List M} {d : D} {q r : Rat} {i : Int} {Q : KV} {Z : KX}
/-! is it this? -/
theorem chkAdd {C : Addr} (h : wB X W (binaryOp .Add) (rt C q) d μ Q Z) : wB X W (binaryOp .Add) (rt C q) d μ Q Z := h
theorem chkSub {C : Addr} (h : wB X W (binaryOp .Sub) (rt C q) d μ Q Z) : wB X W (binaryOp .Sub) (rt C q) d μ Q Z := h
theorem chkMul {C : Addr} (h : wB X W (binaryOp .Mult) (rt C q) d μ Q Z) : wB X W (binaryOp .Mult) (rt C q) d μ Q Z := h
theorem chkCm {C : Addr} (op : CmpOp) (h : wB X W (compareOp op) (rt C q) d μ Q Z) : wB X W (compareOp op) (rt C q) d μ Q Z := h
theorem chkCmL {C : Addr} (op : CmpOp) (h : wB X W (compareOp op) d (rt C q) μ Q Z) : wB X W (compareOp op) d (rt C q) μ Q Z := h
theorem chkNg {C : Addr} (h : wU X W (unaryOp .USub) (rt C q) μ Q Z) : wU X W (unaryOp .USub) (rt C q) μ Q Z := h
theorem fit_two : Fit 2 ((2 : Int) : Rat) := ⟨by decide, by decide⟩
/-! a ratio and a number -/
theorem wB_addR (T : Tx X.K X.mg) (g : Gd X W k) (hd : Num T.C_Ratio d r) (hq : Fit 4000 q) (hr : Fit 4000 r) (h : Q (rt T.C_Ratio (q + r)) μ) (hj : 7 ≤ k := by decide) : wB X W (binaryOp .Add) (rt T.C_Ratio q) d μ Q Z := .ofV (oR_add g.w0 hd hq hr (by omega)) h
theorem wE_addR (T : Tx X.K X.mg) (g : Gd X W k) (h : ∃ r, Num T.C_Ratio d r ∧ (Fit 4000 q ∧ Fit 4000 r) ∧ Q (rt T.C_Ratio (q + r)) μ) (hj : 7 ≤ k := by decide) : wB X W (binaryOp .Add) (rt T.C_Ratio q) d μ Q Z := let ⟨_, a, ⟨b, c⟩, e⟩ := h; wB_addR T g a b c e hj
theorem wB_subR (T : Tx X.K X.mg) (g : Gd X W k) (hd : Num T.C_Ratio d r) (hq : Fit 4000 q) (hr : Fit 4000 r) (h : Q (rt T.C_Ratio (q - r)) μ) (hj : 7 ≤ k := by decide) : wB X W (binaryOp .Sub) (rt T.C_Ratio q) d μ Q Z := .ofV (oR_sub g.w0 hd hq hr hj) h
theorem wE_subR (T : Tx X.K X.mg) (g : Gd X W k) (h : ∃ r, Num T.C_Ratio d r ∧ (Fit 4000 q ∧ Fit 4000 r) ∧ Q (rt T.C_Ratio (q - r)) μ) (hj : 7 ≤ k := by decide) : wB X W (binaryOp .Sub) (rt T.C_Ratio q) d μ Q Z := let ⟨_, a, ⟨b, c⟩, e⟩ := h; wB_subR T g a b c e hj
theorem wB_mulRt (T : Tx X.K X.mg) (g : Gd X W k) (hd : Num T.C_Ratio d r) (hq : Fit 4000 q) (hr : Fit 4000 r) (h : Q (rt T.C_Ratio (q * r)) μ) (hj : 7 ≤ k := by decide) : wB X W (binaryOp .Mult) (rt T.C_Ratio q) d μ Q Z := .ofV (oR_mul g.w0 hd hq hr (by omega)) h
theorem wE_mulRt (T : Tx X.K X.mg) (g : Gd X W k) (h : ∃ r, Num T.C_Ratio d r ∧ (Fit 4000 q ∧ Fit 4000 r) ∧ Q (rt T.C_Ratio (q * r)) μ) (hj : 7 ≤ k := by decide) : wB X W (binaryOp .Mult) (rt T.C_Ratio q) d μ Q Z := let ⟨_, a, ⟨b, c⟩, e⟩ := h; wB_mulRt T g a b c e hj
theorem wU_negR (T : Tx X.K X.mg) (g : Gd X W k) (hq : Fit 4000 q) (h : Q (rt T.C_Ratio (-q)) μ) (hj : 7 ≤ k := by decide) : wU X W (unaryOp .USub) (rt T.C_Ratio q) μ Q Z := .ofV (oR_neg g.w0 hq (by omega)) h
theorem wF_absR (T : Tx X.K X.mg) (g : Gd X W k) (hq : Fit 4000 q) (h : Q (rt T.C_Ratio (rabs q)) μ) (hj : 7 ≤ k := by decide) : wF X W (fun us => call (.builtin "abs") us) [rt T.C_Ratio q] μ Q Z := .ofV (cR_abs g.w0 hq (by omega)) h
theorem wB_leR (T : Tx X.K X.mg) (g : Gd X W k) (hd : Num T.C_Ratio d r) (hq : Fit 4000 q) (hr : Fit 4000 r) (h : Q (.bl (decide (q ≤ r))) μ) (hj : 7 ≤ k := by decide) : wB X W (compareOp .LtE) (rt T.C_Ratio q) d μ Q Z := .ofV (oR_leN g.w0 hd hq hr (by omega)) h
theorem wE_leR (T : Tx X.K X.mg) (g : Gd X W k) (h : ∃ r, Num T.C_Ratio d r ∧ (Fit 4000 q ∧ Fit 4000 r) ∧ Q (.bl (decide (q ≤ r))) μ) (hj : 7 ≤ k := by decide) : wB X W (compareOp .LtE) (rt T.C_Ratio q) d μ Q Z := let ⟨_, a, ⟨b, c⟩, e⟩ := h; wB_leR T g a b c e hj
theorem wB_ltR (T : Tx X.K X.mg) (g : Gd X W k) (hd : Num T.C_Ratio d r) (hq : Fit 4000 q) (hr : Fit 4000 r) (h : Q (.bl (decide (q < r))) μ) (hj : 7 ≤ k := by decide) : wB X W (compareOp .Lt) (rt T.C_Ratio q) d μ Q Z := .ofV (oR_ltN g.w0 hd hq hr (by omega)) h
theorem wE_ltR (T : Tx X.K X.mg) (g : Gd X W k) (h : ∃ r, Num T.C_Ratio d r ∧ (Fit 4000 q ∧ Fit 4000 r) ∧ Q (.bl (decide (q < r))) μ) (hj : 7 ≤ k := by decide) : wB X W (compareOp .Lt) (rt T.C_Ratio q) d μ Q Z := let ⟨_, a, ⟨b, c⟩, e⟩ := h; wB_ltR T g a b c e hj
theorem wB_gtR (T : Tx X.K X.mg) (g : Gd X W k) (hd : Num T.C_Ratio d r) (hq : Fit 4000 q) (hr : Fit 4000 r) (h : Q (.bl (decide (r < q))) μ) (hj : 7 ≤ k := by decide) : wB X W (compareOp .Gt) (rt T.C_Ratio q) d μ Q Z := .ofV (oR_gtN g.w0 hd hq hr (by omega)) h
theorem wE_gtR (T : Tx X.K X.mg) (g : Gd X W k) (h : ∃ r, Num T.C_Ratio d r ∧ (Fit 4000 q ∧ Fit 4000 r) ∧ Q (.bl (decide (r < q))) μ) (hj : 7 ≤ k := by decide) : wB X W (compareOp .Gt) (rt T.C_Ratio q) d μ Q Z := let ⟨_, a, ⟨b, c⟩, e⟩ := h; wB_gtR T g a b c e hj
theorem wB_geR (T : Tx X.K X.mg) (g : Gd X W k) (hd : Num T.C_Ratio d r) (hq : Fit 4000 q) (hr : Fit 4000 r) (h : Q (.bl (decide (r ≤ q))) μ) (hj : 7 ≤ k := by decide) : wB X W (compareOp .GtE) (rt T.C_Ratio q) d μ Q Z := .ofV (oR_geN g.w0 hd hq hr (by omega)) h
theorem wE_geR (T : Tx X.K X.mg) (g : Gd X W k) (h : ∃ r, Num T.C_Ratio d r ∧ (Fit 4000 q ∧ Fit 4000 r) ∧ Q (.bl (decide (r ≤ q))) μ) (hj : 7 ≤ k := by decide) : wB X W (compareOp .GtE) (rt T.C_Ratio q) d μ Q Z := let ⟨_, a, ⟨b, c⟩, e⟩ := h; wB_geR T g a b c e hj
theorem wB_eqR (T : Tx X.K X.mg) (g : Gd X W k) (hd : Num T.C_Ratio d r) (h : Q (.bl (decide (q = r))) μ) (hj : 7 ≤ k := by decide) : wB X W (compareOp .Eq) (rt T.C_Ratio q) d μ Q Z := .ofV (oR_eqN g.w0 hd (by omega)) h
theorem wE_eqR (T : Tx X.K X.mg) (g : Gd X W k) (h : ∃ r, Num T.C_Ratio d r ∧ Q (.bl (decide (q = r))) μ) (hj : 7 ≤ k := by decide) : wB X W (compareOp .Eq) (rt T.C_Ratio q) d μ Q Z := let ⟨_, a, e⟩ := h; wB_eqR T g a e hj
theorem wB_neR (T : Tx X.K X.mg) (g : Gd X W k) (hd : Num T.C_Ratio d r) (h : Q (.bl (!decide (q = r))) μ) (hj : 7 ≤ k := by decide) : wB X W (compareOp .NotEq) (rt T.C_Ratio q) d μ Q Z := .ofV (oR_neN g.w0 hd hj) h
theorem wE_neR (T : Tx X.K X.mg) (g : Gd X W k) (h : ∃ r, Num T.C_Ratio d r ∧ Q (.bl (!decide (q = r))) μ) (hj : 7 ≤ k := by decide) : wB X W (compareOp .NotEq) (rt T.C_Ratio q) d μ Q Z := let ⟨_, a, e⟩ := h; wB_neR T g a e hj
/-! a number and a ratio -/
theorem wB_leL (T : Tx X.K X.mg) (g : Gd X W k) (hd : Num T.C_Ratio d r) (hq : Fit 4000 q) (hr : Fit 4000 r) (h : Q (.bl (decide (r ≤ q))) μ) (hj : 7 ≤ k := by decide) : wB X W (compareOp .LtE) d (rt T.C_Ratio q) μ Q Z := .ofV (oL_le g.w0 hd hq hr (by omega)) h
theorem wE_leL (T : Tx X.K X.mg) (g : Gd X W k) (h : ∃ r, Num T.C_Ratio d r ∧ (Fit 4000 q ∧ Fit 4000 r) ∧ Q (.bl (decide (r ≤ q))) μ) (hj : 7 ≤ k := by decide) : wB X W (compareOp .LtE) d (rt T.C_Ratio q) μ Q Z := let ⟨_, a, ⟨b, c⟩, e⟩ := h; wB_leL T g a b c e hj
end
end



section
set_option hygiene false
local macro_rules | `(tactic| fail "n") => `(tactic| ((with_reducible refine chkN "Water" ?_); refine xE_cls gn ?qa T.g_Water ?_; (case qa => (repeat (first | with_reducible exact In.z | with_reducible apply In.s)))))
local macro_rules | `(tactic| fail "n") => `(tactic| ((with_reducible refine chkN "Pool" ?_); refine xE_cls gn ?qa T.g_Pool ?_; (case qa => (repeat (first | with_reducible exact In.z | with_reducible apply In.s)))))
local macro_rules | `(tactic| fail "n") => `(tactic| ((with_reducible refine chkN "Ratio" ?_); refine xE_cls gn ?qa T.g_Ratio ?_; (case qa => (repeat (first | with_reducible exact In.z | with_reducible apply In.s)))))
local macro_rules | `(tactic| fail "n") => `(tactic| ((with_reducible refine chkN "UnknownIndex" ?_); refine xE_cls gn ?qa T.g_UnknownIndex ?_; (case qa => (repeat (first | with_reducible exact In.z | with_reducible apply In.s)))))
local macro_rules | `(tactic| fail "n") => `(tactic| ((with_reducible refine chkN "Touching" ?_); refine xE_cls gn ?qa T.g_Touching ?_; (case qa => (repeat (first | with_reducible exact In.z | with_reducible apply In.s)))))
local macro_rules | `(tactic| fail "n") => `(tactic| ((with_reducible refine chkN "InvalidNumber" ?_); refine xE_cls gn ?qa T.g_InvalidNumber ?_; (case qa => (repeat (first | with_reducible exact In.z | with_reducible apply In.s)))))
local macro_rules | `(tactic| fail "n") => `(tactic| ((with_reducible refine chkN "PoolError" ?_); refine xE_cls gn ?qa T.g_PoolError ?_; (case qa => (repeat (first | with_reducible exact In.z | with_reducible apply In.s)))))
def tx (i : Int) : Str := toString i
/-- the text of a ratio -/
def txR (q : Rat) : Str := if q.den = 1 then tx q.num else tx q.num ++ Str.ofString "/" ++ tx q.den
def txP (q : Rat) : Str := Str.ofString "Ratio(" ++ tx q.num ++ Str.ofString ", " ++ tx q.den ++ Str.ofString ")"
theorem sl_big : 1000000 ≤ sizeLine := by rw [sizeLine_eq]; decide
section
variable {P : Program} {w : World} {K : PySem.W.Frag} {mg : Str → Option Value} {base : Heap} (T : Tx K mg)
def R1s (T : Tx K mg) (f : Rat → D) : Rl := fun ds μ o => ∃ q, ds = [rt T.C_Ratio q] ∧ Fit 1000 q ∧ o = .ret (f q) μ
end
end


section
set_option hygiene false
local macro_rules | `(tactic| fail "B") => `(tactic| ((with_reducible refine chkCmL .LtE ?_); refine wE_leL T g.toGd ?_; refine Exists.intro _ (And.intro (by (first | exact Num.rt _ | exact Num.int _ | assumption)) (And.intro (And.intro (by (first | with_reducible assumption | exact Fit.mono (by (repeat' (first | with_reducible assumption | with_reducible exact fit_two | with_reducible apply fit_add | with_reducible apply fit_sub | with_reducible apply fit_mul | with_reducible apply fit_half | with_reducible apply fit_rabs | with_reducible apply fit_neg))) (by decide) | exact Fit.mono (n := 64) (fit_int (by omega) (by decide)) (by decide))) (by (first | with_reducible assumption | exact Fit.mono (by (repeat' (first | with_reducible assumption | with_reducible exact fit_two | with_reducible apply fit_add | with_reducible apply fit_sub | with_reducible apply fit_mul | with_reducible apply fit_half | with_reducible apply fit_rabs | with_reducible apply fit_neg))) (by decide) | exact Fit.mono (n := 64) (fit_int (by omega) (by decide)) (by decide)))) ?_))))
local macro_rules | `(tactic| fail "B") => `(tactic| ((with_reducible refine chkCm .NotEq ?_); refine wE_neR T g.toGd ?_; refine Exists.intro _ (And.intro (by (first | exact Num.rt _ | exact Num.int _ | assumption)) ?_)))
local macro_rules | `(tactic| fail "B") => `(tactic| ((with_reducible refine chkCm .Eq ?_); refine wE_eqR T g.toGd ?_; refine Exists.intro _ (And.intro (by (first | exact Num.rt _ | exact Num.int _ | assumption)) ?_)))
local macro_rules | `(tactic| fail "B") => `(tactic| ((with_reducible refine chkCm .GtE ?_); refine wE_geR T g.toGd ?_; refine Exists.intro _ (And.intro (by (first | exact Num.rt _ | exact Num.int _ | assumption)) (And.intro (And.intro (by (first | with_reducible assumption | exact Fit.mono (by (repeat' (first | with_reducible assumption | with_reducible exact fit_two | with_reducible apply fit_add | with_reducible apply fit_sub | with_reducible apply fit_mul | with_reducible apply fit_half | with_reducible apply fit_rabs | with_reducible apply fit_neg))) (by decide) | exact Fit.mono (n := 64) (fit_int (by omega) (by decide)) (by decide))) (by (first | with_reducible assumption | exact Fit.mono (by (repeat' (first | with_reducible assumption | with_reducible exact fit_two | with_reducible apply fit_add | with_reducible apply fit_sub | with_reducible apply fit_mul | with_reducible apply fit_half | with_reducible apply fit_rabs | with_reducible apply fit_neg))) (by decide) | exact Fit.mono (n := 64) (fit_int (by omega) (by decide)) (by decide)))) ?_))))
local macro_rules | `(tactic| fail "B") => `(tactic| ((with_reducible refine chkCm .Gt ?_); refine wE_gtR T g.toGd ?_; refine Exists.intro _ (And.intro (by (first | exact Num.rt _ | exact Num.int _ | assumption)) (And.intro (And.intro (by (first | with_reducible assumption | exact Fit.mono (by (repeat' (first | with_reducible assumption | with_reducible exact fit_two | with_reducible apply fit_add | with_reducible apply fit_sub | with_reducible apply fit_mul | with_reducible apply fit_half | with_reducible apply fit_rabs | with_reducible apply fit_neg))) (by decide) | exact Fit.mono (n := 64) (fit_int (by omega) (by decide)) (by decide))) (by (first | with_reducible assumption | exact Fit.mono (by (repeat' (first | with_reducible assumption | with_reducible exact fit_two | with_reducible apply fit_add | with_reducible apply fit_sub | with_reducible apply fit_mul | with_reducible apply fit_half | with_reducible apply fit_rabs | with_reducible apply fit_neg))) (by decide) | exact Fit.mono (n := 64) (fit_int (by omega) (by decide)) (by decide)))) ?_))))
local macro_rules | `(tactic| fail "B") => `(tactic| ((with_reducible refine chkCm .Lt ?_); refine wE_ltR T g.toGd ?_; refine Exists.intro _ (And.intro (by (first | exact Num.rt _ | exact Num.int _ | assumption)) (And.intro (And.intro (by (first | with_reducible assumption | exact Fit.mono (by (repeat' (first | with_reducible assumption | with_reducible exact fit_two | with_reducible apply fit_add | with_reducible apply fit_sub | with_reducible apply fit_mul | with_reducible apply fit_half | with_reducible apply fit_rabs | with_reducible apply fit_neg))) (by decide) | exact Fit.mono (n := 64) (fit_int (by omega) (by decide)) (by decide))) (by (first | with_reducible assumption | exact Fit.mono (by (repeat' (first | with_reducible assumption | with_reducible exact fit_two | with_reducible apply fit_add | with_reducible apply fit_sub | with_reducible apply fit_mul | with_reducible apply fit_half | with_reducible apply fit_rabs | with_reducible apply fit_neg))) (by decide) | exact Fit.mono (n := 64) (fit_int (by omega) (by decide)) (by decide)))) ?_))))
local macro_rules | `(tactic| fail "B") => `(tactic| ((with_reducible refine chkCm .LtE ?_); refine wE_leR T g.toGd ?_; refine Exists.intro _ (And.intro (by (first | exact Num.rt _ | exact Num.int _ | assumption)) (And.intro (And.intro (by (first | with_reducible assumption | exact Fit.mono (by (repeat' (first | with_reducible assumption | with_reducible exact fit_two | with_reducible apply fit_add | with_reducible apply fit_sub | with_reducible apply fit_mul | with_reducible apply fit_half | with_reducible apply fit_rabs | with_reducible apply fit_neg))) (by decide) | exact Fit.mono (n := 64) (fit_int (by omega) (by decide)) (by decide))) (by (first | with_reducible assumption | exact Fit.mono (by (repeat' (first | with_reducible assumption | with_reducible exact fit_two | with_reducible apply fit_add | with_reducible apply fit_sub | with_reducible apply fit_mul | with_reducible apply fit_half | with_reducible apply fit_rabs | with_reducible apply fit_neg))) (by decide) | exact Fit.mono (n := 64) (fit_int (by omega) (by decide)) (by decide)))) ?_))))
local macro_rules | `(tactic| fail "B") => `(tactic| ((with_reducible refine chkMul ?_); refine wE_mulRt T g.toGd ?_; refine Exists.intro _ (And.intro (by (first | exact Num.rt _ | exact Num.int _ | assumption)) (And.intro (And.intro (by (first | with_reducible assumption | exact Fit.mono (by (repeat' (first | with_reducible assumption | with_reducible exact fit_two | with_reducible apply fit_add | with_reducible apply fit_sub | with_reducible apply fit_mul | with_reducible apply fit_half | with_reducible apply fit_rabs | with_reducible apply fit_neg))) (by decide) | exact Fit.mono (n := 64) (fit_int (by omega) (by decide)) (by decide))) (by (first | with_reducible assumption | exact Fit.mono (by (repeat' (first | with_reducible assumption | with_reducible exact fit_two | with_reducible apply fit_add | with_reducible apply fit_sub | with_reducible apply fit_mul | with_reducible apply fit_half | with_reducible apply fit_rabs | with_reducible apply fit_neg))) (by decide) | exact Fit.mono (n := 64) (fit_int (by omega) (by decide)) (by decide)))) ?_))))
local macro_rules | `(tactic| fail "B") => `(tactic| ((with_reducible refine chkSub ?_); refine wE_subR T g.toGd ?_; refine Exists.intro _ (And.intro (by (first | exact Num.rt _ | exact Num.int _ | assumption)) (And.intro (And.intro (by (first | with_reducible assumption | exact Fit.mono (by (repeat' (first | with_reducible assumption | with_reducible exact fit_two | with_reducible apply fit_add | with_reducible apply fit_sub | with_reducible apply fit_mul | with_reducible apply fit_half | with_reducible apply fit_rabs | with_reducible apply fit_neg))) (by decide) | exact Fit.mono (n := 64) (fit_int (by omega) (by decide)) (by decide))) (by (first | with_reducible assumption | exact Fit.mono (by (repeat' (first | with_reducible assumption | with_reducible exact fit_two | with_reducible apply fit_add | with_reducible apply fit_sub | with_reducible apply fit_mul | with_reducible apply fit_half | with_reducible apply fit_rabs | with_reducible apply fit_neg))) (by decide) | exact Fit.mono (n := 64) (fit_int (by omega) (by decide)) (by decide)))) ?_))))
local macro_rules | `(tactic| fail "B") => `(tactic| ((with_reducible refine chkAdd ?_); refine wE_addR T g.toGd ?_; refine Exists.intro _ (And.intro (by (first | exact Num.rt _ | exact Num.int _ | assumption)) (And.intro (And.intro (by (first | with_reducible assumption | exact Fit.mono (by (repeat' (first | with_reducible assumption | with_reducible exact fit_two | with_reducible apply fit_add | with_reducible apply fit_sub | with_reducible apply fit_mul | with_reducible apply fit_half | with_reducible apply fit_rabs | with_reducible apply fit_neg))) (by decide) | exact Fit.mono (n := 64) (fit_int (by omega) (by decide)) (by decide))) (by (first | with_reducible assumption | exact Fit.mono (by (repeat' (first | with_reducible assumption | with_reducible exact fit_two | with_reducible apply fit_add | with_reducible apply fit_sub | with_reducible apply fit_mul | with_reducible apply fit_half | with_reducible apply fit_rabs | with_reducible apply fit_neg))) (by decide) | exact Fit.mono (n := 64) (fit_int (by omega) (by decide)) (by decide)))) ?_))))
local macro_rules | `(tactic| fail "F") => `(tactic| ((with_reducible refine chkB "abs" ?_); refine wF_absR T g.toGd ?qf ?_; (case qf => (first | with_reducible assumption | exact Fit.mono (by (repeat' (first | with_reducible assumption | with_reducible exact fit_two | with_reducible apply fit_add | with_reducible apply fit_sub | with_reducible apply fit_mul | with_reducible apply fit_half | with_reducible apply fit_rabs | with_reducible apply fit_neg))) (by decide) | exact Fit.mono (n := 64) (fit_int (by omega) (by decide)) (by decide)))))
local macro_rules | `(tactic| fail "F") => `(tactic| with_reducible refine wF_R1 T g.toGd ?_)
local macro_rules | `(tactic| fail "F") => `(tactic| ((with_reducible refine wF_R2 T g.toGd ?qc1 ?qc2 ?_); (case qc1 => (first | with_reducible assumption | omega)); (case qc2 => exact lt_pow_mono (n := 64) (by (first | with_reducible assumption | omega)) (by decide))))
local macro_rules | `(tactic| fail "F") => `(tactic| with_reducible refine wF_isBB ?_)
local macro_rules | `(tactic| fail "F") => `(tactic| with_reducible refine wF_isIB ?_)
local macro_rules | `(tactic| fail "F") => `(tactic| with_reducible refine wF_isII ?_)
local macro_rules | `(tactic| fail "F") => `(tactic| ((with_reducible refine wF_isRt ?qc ?_); (case qc => exact T.own_Ratio)))
local macro_rules | `(tactic| fail "U") => `(tactic| ((with_reducible refine chkNg ?_); refine wU_negR T g.toGd ?qf ?_; (case qf => (first | with_reducible assumption | exact Fit.mono (by (repeat' (first | with_reducible assumption | with_reducible exact fit_two | with_reducible apply fit_add | with_reducible apply fit_sub | with_reducible apply fit_mul | with_reducible apply fit_half | with_reducible apply fit_rabs | with_reducible apply fit_neg))) (by decide) | exact Fit.mono (n := 64) (fit_int (by omega) (by decide)) (by decide)))))
local macro_rules | `(tactic| fail "c") => `(tactic| ((with_reducible refine chkC "Water" ?_); refine xE_make gn ?qa T.g_Water T.mk_Water.kp ?_; (case qa => (repeat (first | with_reducible exact In.z | with_reducible apply In.s)))))
local macro_rules | `(tactic| fail "c") => `(tactic| ((with_reducible refine chkC "Pool" ?_); refine xE_make gn ?qa T.g_Pool T.mk_Pool.kp ?_; (case qa => (repeat (first | with_reducible exact In.z | with_reducible apply In.s)))))
local macro_rules | `(tactic| fail "c") => `(tactic| ((with_reducible refine chkC "Ratio" ?_); refine xE_make gn ?qa T.g_Ratio T.mk_Ratio.kp ?_; (case qa => (repeat (first | with_reducible exact In.z | with_reducible apply In.s)))))
local macro_rules | `(tactic| fail "n") => `(tactic| ((with_reducible refine chkN "Water" ?_); refine xE_cls gn ?qa T.g_Water ?_; (case qa => (repeat (first | with_reducible exact In.z | with_reducible apply In.s)))))
local macro_rules | `(tactic| fail "n") => `(tactic| ((with_reducible refine chkN "Pool" ?_); refine xE_cls gn ?qa T.g_Pool ?_; (case qa => (repeat (first | with_reducible exact In.z | with_reducible apply In.s)))))
local macro_rules | `(tactic| fail "n") => `(tactic| ((with_reducible refine chkN "Ratio" ?_); refine xE_cls gn ?qa T.g_Ratio ?_; (case qa => (repeat (first | with_reducible exact In.z | with_reducible apply In.s)))))
local macro_rules | `(tactic| fail "n") => `(tactic| ((with_reducible refine chkN "UnknownIndex" ?_); refine xE_cls gn ?qa T.g_UnknownIndex ?_; (case qa => (repeat (first | with_reducible exact In.z | with_reducible apply In.s)))))
local macro_rules | `(tactic| fail "n") => `(tactic| ((with_reducible refine chkN "Touching" ?_); refine xE_cls gn ?qa T.g_Touching ?_; (case qa => (repeat (first | with_reducible exact In.z | with_reducible apply In.s)))))
local macro_rules | `(tactic| fail "n") => `(tactic| ((with_reducible refine chkN "InvalidNumber" ?_); refine xE_cls gn ?qa T.g_InvalidNumber ?_; (case qa => (repeat (first | with_reducible exact In.z | with_reducible apply In.s)))))
local macro_rules | `(tactic| fail "n") => `(tactic| ((with_reducible refine chkN "PoolError" ?_); refine xE_cls gn ?qa T.g_PoolError ?_; (case qa => (repeat (first | with_reducible exact In.z | with_reducible apply In.s)))))
local macro_rules | `(tactic| fail "a") => `(tactic| ((with_reducible refine chkA "bottom" ?_); refine wE_bot T ?_))
local macro_rules | `(tactic| fail "a") => `(tactic| ((with_reducible refine chkA "top" ?_); refine wE_top T ?_))
/-- a pool -/
def pl (CP C : Addr) (c v : Rat) : D := .obj CP ["center", "amount"] [rt C c, rt C v]
theorem fit_half {n : Nat} {q : Rat} (h : Fit n q) : Fit (n + 2) (q / ((2 : Int) : Rat)) := fit_div h fit_two (by decide)
section
variable {P : Program} {w : World} {K : PySem.W.Frag} {mg : Str → Option Value} {base : Heap} (T : Tx K mg)
abbrev Tx.pl (T : Tx K mg) (c v : Rat) : D := PM.pl T.C_Pool T.C_Ratio c v
theorem sp_as {μ : List M} {d : D} {q : Rat} {Q : KV} {Z : KX} (hd : Num T.C_Ratio d q) (h : Q (rt T.C_Ratio q) μ) : SpF P w K mg base T.f_as_ratio [d] μ Q Z := SpF.ofR (ok_as_ratio T) ⟨d, rfl, .inl ⟨q, hd, rfl⟩⟩ h
theorem sp_over {μ : List M} {d : D} {q r : Rat} {Q : KV} {Z : KX} (hd : Num T.C_Ratio d r) (hq : Fit 4000 q) (hr : Fit 4000 r) (h0 : r ≠ 0) (h : Q (rt T.C_Ratio (q / r)) μ) : SpF P w K mg base ⟨T.a_Ratio_over, T.fd_Ratio_over, ["self", "other"], 6⟩ [rt T.C_Ratio q, d] μ Q Z := SpF.ofR (f := ⟨T.a_Ratio_over, T.fd_Ratio_over, ["self", "other"], 6⟩) (ok_over T) ⟨q, d, r, rfl, hd, hq, hr, .inr ⟨h0, rfl⟩⟩ h
/-- Pool.__init__ -/
theorem sp_Pool_init {μ : List M} {dc dv : D} {c v : Rat} {Q : KV} {Z : KX} (hc : Num T.C_Ratio dc c) (hv : Num T.C_Ratio dv v) (fv : Fit 600 v) (h : (0 < v → Q (T.pl c v) μ)) (hx : v ≤ 0 → D.lo μ.length dv = true ∧ Z T.C_InvalidNumber ["value"] [dv] μ) :
    SpF P w K mg base T.f_Pool_init [.loc μ.length, dc, dv] (μ ++ [.ins T.C_Pool [] []]) (MadeOk μ T.C_Pool Q) (fun C' ns ds' μ' => MadeX μ Z C' ns ds' μ') := by
  refine spX_of T.F_Pool_init sc_Pool_init ck_Pool_init rfl ?_
  walk_at "start"
  rw [List.append_nil]
  refine wSs_cons (wS_fld ?_)
  refine xE_call T.f_as_ratio g (by walk_at "in") T.g_as_ratio T.F_as_ratio.kp T.b_as_ratio ?_
  walk_at "e"
  refine sp_as T hc ?_
  walk_at "e"
  refine ⟨_, _, _, _, rfl, at_last, ⟨T.own_Pool.cl, T.na_Pool_center, by decide⟩, ?_⟩
  rw [set_last]
  refine wSs_cons (wS_fld ?_)
  refine xE_call T.f_as_ratio g (by walk_at "in") T.g_as_ratio T.F_as_ratio.kp T.b_as_ratio ?_
  walk_at "e"
  refine sp_as T hv ?_
  walk_at "e"
  refine ⟨_, _, _, _, rfl, at_last, ⟨T.own_Pool.cl, T.na_Pool_amount, by decide⟩, ?_⟩
  rw [set_last]
  have em : M.ins T.C_Pool (putN "amount" (putN "center" [])) (putD "amount" (rt T.C_Ratio v) (putN "center" []) (putD "center" (rt T.C_Ratio c) [] [])) = .ins T.C_Pool ["center", "amount"] [rt T.C_Ratio c, rt T.C_Ratio v] := rfl
  rw [em]
  refine wSs_cons (wS_if (wC_cmp ?_))
  refine wE_fld ?_ T.own_Pool.cl T.na_Pool_amount
  walk_at "e"
  refine ⟨_, _, .inr ⟨_, rfl, at_last⟩, _, rfl, ?_⟩
  walk_at "e"
  refine br_dec (fun hl => ?_) (fun hl => ?_)
  · obtain ⟨lo, hz⟩ := hx hl
    refine wSs_cons (wS_raise g (by walk_at "in") (err_InvalidNumber T) T.g_InvalidNumber ?_)
    walk_at "e"
    exact ⟨rfl, .same (.mk (.refl _) (by simp [D.los, lo]) hz)⟩
  · walk_at "wp"
    exact .same (.obj (.refl _) rfl rfl (h (Rat.not_le.mp hl)))
end
section
variable {X : Cx} {W : WX} {k : Nat} {ρ : Env'} {μ : List M} {e ob : Expr} {pos : Pos} {d dc dv : D} {c v q r : Rat} {Q : KV} {Z : KX}
/-- Pool(c, v) -/
theorem wF_Pool (T : Tx X.K X.mg) (g : Gd X W k) (hc : Num T.C_Ratio dc c) (hv : Num T.C_Ratio dv v) (fv : Fit 600 v) (h0 : 0 < v) (h : Q (T.pl c v) μ) (hk : 41 ≤ k := by decide) : wF X W (fun us => call (.ref T.C_Pool) us) [dc, dv] μ Q Z :=
  wF_make (f := T.f_Pool_init) (dvs := []) (dds := []) T.mk_Pool T.b_Pool_init .nil (fun _ _ => Reps.nil) g hk (sp_Pool_init T hc hv fv (fun _ => h) fun z => absurd h0 (Rat.not_lt.mpr z))
theorem wE_cen (T : Tx X.K X.mg) (h : wE X W ρ μ ob (fun d μ1 => ∃ c v, d = T.pl c v ∧ Q (rt T.C_Ratio c) μ1) Z) (hb : attributeBase ob "center" X.env (eval ob X.env) = eval ob X.env := by rfl) : wE X W ρ μ (.Attribute ob "center" pos) Q Z :=
  wE_fld (h.imp fun d μ1 ⟨c, v, ed, hq⟩ => ⟨_, _, .inl ed, _, rfl, hq⟩) T.own_Pool.cl T.na_Pool_center hb
theorem wE_amt (T : Tx X.K X.mg) (h : wE X W ρ μ ob (fun d μ1 => ∃ c v, d = T.pl c v ∧ Q (rt T.C_Ratio v) μ1) Z) (hb : attributeBase ob "amount" X.env (eval ob X.env) = eval ob X.env := by rfl) : wE X W ρ μ (.Attribute ob "amount" pos) Q Z :=
  wE_fld (h.imp fun d μ1 ⟨c, v, ed, hq⟩ => ⟨_, _, .inl ed, _, rfl, hq⟩) T.own_Pool.cl T.na_Pool_amount hb
/-- q.over(d) -/
theorem wE_over {apos : Pos} {pl : Sem Bool} (T : Tx X.K X.mg) (g : Gd X W k) (h : wE X W ρ μ ob (fun d0 μ1 => ∃ q, d0 = rt T.C_Ratio q ∧ wE X W ρ μ1 e (fun d μ2 => ∃ r, Num T.C_Ratio d r ∧ (Fit 4000 q ∧ Fit 4000 r ∧ r ≠ 0) ∧ Q (rt T.C_Ratio (q / r)) μ2) Z) Z) (hk : 6 ≤ k := by decide)
    (hst : starEach [e] X.env = (false, eval e X.env) :: starEach [] X.env := by rfl)
    (ht : eval (.Call (.Attribute ob "over" apos) [e] [] pos) X.env = (do
      let ov ← eval ob X.env
      standAt apos.atName
      let (f, first) ← holding [ov] (getMethod ov "over" pl)
      callWith pos f first (backTo pos (starEach [e] X.env)) (backToKw pos (keywordEach [] X.env))) := by rfl) : wE X W ρ μ (.Call (.Attribute ob "over" apos) [e] [] pos) Q Z :=
  wE_meth (pl := pl) ⟨T.a_Ratio_over, T.fd_Ratio_over, ["self", "other"], 6⟩ g T.own_Ratio.cl T.m_Ratio_over T.b_Ratio_over (h.imp fun d0 μ1 ⟨q, ed, h1⟩ => ⟨by rw [ed]; exact .obj rfl, wA_cons (h1.imp fun d μ2 ⟨r, hn, ⟨f1, f2, r0⟩, hq⟩ => wA_nil (by
    rw [ed]
    exact sp_over T hn f1 f2 r0 hq)) hst⟩) hk hst rfl ht
end
end


section
set_option hygiene false
local macro_rules | `(tactic| fail "B") => `(tactic| ((with_reducible refine chkCmL .LtE ?_); refine wE_leL T g.toGd ?_; refine Exists.intro _ (And.intro (by (first | exact Num.rt _ | exact Num.int _ | assumption)) (And.intro (And.intro (by (first | with_reducible assumption | exact Fit.mono (by (repeat' (first | with_reducible assumption | with_reducible exact fit_two | with_reducible apply fit_add | with_reducible apply fit_sub | with_reducible apply fit_mul | with_reducible apply fit_half | with_reducible apply fit_rabs | with_reducible apply fit_neg))) (by decide) | exact Fit.mono (n := 64) (fit_int (by omega) (by decide)) (by decide))) (by (first | with_reducible assumption | exact Fit.mono (by (repeat' (first | with_reducible assumption | with_reducible exact fit_two | with_reducible apply fit_add | with_reducible apply fit_sub | with_reducible apply fit_mul | with_reducible apply fit_half | with_reducible apply fit_rabs | with_reducible apply fit_neg))) (by decide) | exact Fit.mono (n := 64) (fit_int (by omega) (by decide)) (by decide)))) ?_))))
local macro_rules | `(tactic| fail "B") => `(tactic| ((with_reducible refine chkCm .NotEq ?_); refine wE_neR T g.toGd ?_; refine Exists.intro _ (And.intro (by (first | exact Num.rt _ | exact Num.int _ | assumption)) ?_)))
local macro_rules | `(tactic| fail "B") => `(tactic| ((with_reducible refine chkCm .Eq ?_); refine wE_eqR T g.toGd ?_; refine Exists.intro _ (And.intro (by (first | exact Num.rt _ | exact Num.int _ | assumption)) ?_)))
local macro_rules | `(tactic| fail "B") => `(tactic| ((with_reducible refine chkCm .GtE ?_); refine wE_geR T g.toGd ?_; refine Exists.intro _ (And.intro (by (first | exact Num.rt _ | exact Num.int _ | assumption)) (And.intro (And.intro (by (first | with_reducible assumption | exact Fit.mono (by (repeat' (first | with_reducible assumption | with_reducible exact fit_two | with_reducible apply fit_add | with_reducible apply fit_sub | with_reducible apply fit_mul | with_reducible apply fit_half | with_reducible apply fit_rabs | with_reducible apply fit_neg))) (by decide) | exact Fit.mono (n := 64) (fit_int (by omega) (by decide)) (by decide))) (by (first | with_reducible assumption | exact Fit.mono (by (repeat' (first | with_reducible assumption | with_reducible exact fit_two | with_reducible apply fit_add | with_reducible apply fit_sub | with_reducible apply fit_mul | with_reducible apply fit_half | with_reducible apply fit_rabs | with_reducible apply fit_neg))) (by decide) | exact Fit.mono (n := 64) (fit_int (by omega) (by decide)) (by decide)))) ?_))))
local macro_rules | `(tactic| fail "B") => `(tactic| ((with_reducible refine chkCm .Gt ?_); refine wE_gtR T g.toGd ?_; refine Exists.intro _ (And.intro (by (first | exact Num.rt _ | exact Num.int _ | assumption)) (And.intro (And.intro (by (first | with_reducible assumption | exact Fit.mono (by (repeat' (first | with_reducible assumption | with_reducible exact fit_two | with_reducible apply fit_add | with_reducible apply fit_sub | with_reducible apply fit_mul | with_reducible apply fit_half | with_reducible apply fit_rabs | with_reducible apply fit_neg))) (by decide) | exact Fit.mono (n := 64) (fit_int (by omega) (by decide)) (by decide))) (by (first | with_reducible assumption | exact Fit.mono (by (repeat' (first | with_reducible assumption | with_reducible exact fit_two | with_reducible apply fit_add | with_reducible apply fit_sub | with_reducible apply fit_mul | with_reducible apply fit_half | with_reducible apply fit_rabs | with_reducible apply fit_neg))) (by decide) | exact Fit.mono (n := 64) (fit_int (by omega) (by decide)) (by decide)))) ?_))))
local macro_rules | `(tactic| fail "B") => `(tactic| ((with_reducible refine chkCm .Lt ?_); refine wE_ltR T g.toGd ?_; refine Exists.intro _ (And.intro (by (first | exact Num.rt _ | exact Num.int _ | assumption)) (And.intro (And.intro (by (first | with_reducible assumption | exact Fit.mono (by (repeat' (first | with_reducible assumption | with_reducible exact fit_two | with_reducible apply fit_add | with_reducible apply fit_sub | with_reducible apply fit_mul | with_reducible apply fit_half | with_reducible apply fit_rabs | with_reducible apply fit_neg))) (by decide) | exact Fit.mono (n := 64) (fit_int (by omega) (by decide)) (by decide))) (by (first | with_reducible assumption | exact Fit.mono (by (repeat' (first | with_reducible assumption | with_reducible exact fit_two | with_reducible apply fit_add | with_reducible apply fit_sub | with_reducible apply fit_mul | with_reducible apply fit_half | with_reducible apply fit_rabs | with_reducible apply fit_neg))) (by decide) | exact Fit.mono (n := 64) (fit_int (by omega) (by decide)) (by decide)))) ?_))))
local macro_rules | `(tactic| fail "B") => `(tactic| ((with_reducible refine chkCm .LtE ?_); refine wE_leR T g.toGd ?_; refine Exists.intro _ (And.intro (by (first | exact Num.rt _ | exact Num.int _ | assumption)) (And.intro (And.intro (by (first | with_reducible assumption | exact Fit.mono (by (repeat' (first | with_reducible assumption | with_reducible exact fit_two | with_reducible apply fit_add | with_reducible apply fit_sub | with_reducible apply fit_mul | with_reducible apply fit_half | with_reducible apply fit_rabs | with_reducible apply fit_neg))) (by decide) | exact Fit.mono (n := 64) (fit_int (by omega) (by decide)) (by decide))) (by (first | with_reducible assumption | exact Fit.mono (by (repeat' (first | with_reducible assumption | with_reducible exact fit_two | with_reducible apply fit_add | with_reducible apply fit_sub | with_reducible apply fit_mul | with_reducible apply fit_half | with_reducible apply fit_rabs | with_reducible apply fit_neg))) (by decide) | exact Fit.mono (n := 64) (fit_int (by omega) (by decide)) (by decide)))) ?_))))
local macro_rules | `(tactic| fail "B") => `(tactic| ((with_reducible refine chkMul ?_); refine wE_mulRt T g.toGd ?_; refine Exists.intro _ (And.intro (by (first | exact Num.rt _ | exact Num.int _ | assumption)) (And.intro (And.intro (by (first | with_reducible assumption | exact Fit.mono (by (repeat' (first | with_reducible assumption | with_reducible exact fit_two | with_reducible apply fit_add | with_reducible apply fit_sub | with_reducible apply fit_mul | with_reducible apply fit_half | with_reducible apply fit_rabs | with_reducible apply fit_neg))) (by decide) | exact Fit.mono (n := 64) (fit_int (by omega) (by decide)) (by decide))) (by (first | with_reducible assumption | exact Fit.mono (by (repeat' (first | with_reducible assumption | with_reducible exact fit_two | with_reducible apply fit_add | with_reducible apply fit_sub | with_reducible apply fit_mul | with_reducible apply fit_half | with_reducible apply fit_rabs | with_reducible apply fit_neg))) (by decide) | exact Fit.mono (n := 64) (fit_int (by omega) (by decide)) (by decide)))) ?_))))
local macro_rules | `(tactic| fail "B") => `(tactic| ((with_reducible refine chkSub ?_); refine wE_subR T g.toGd ?_; refine Exists.intro _ (And.intro (by (first | exact Num.rt _ | exact Num.int _ | assumption)) (And.intro (And.intro (by (first | with_reducible assumption | exact Fit.mono (by (repeat' (first | with_reducible assumption | with_reducible exact fit_two | with_reducible apply fit_add | with_reducible apply fit_sub | with_reducible apply fit_mul | with_reducible apply fit_half | with_reducible apply fit_rabs | with_reducible apply fit_neg))) (by decide) | exact Fit.mono (n := 64) (fit_int (by omega) (by decide)) (by decide))) (by (first | with_reducible assumption | exact Fit.mono (by (repeat' (first | with_reducible assumption | with_reducible exact fit_two | with_reducible apply fit_add | with_reducible apply fit_sub | with_reducible apply fit_mul | with_reducible apply fit_half | with_reducible apply fit_rabs | with_reducible apply fit_neg))) (by decide) | exact Fit.mono (n := 64) (fit_int (by omega) (by decide)) (by decide)))) ?_))))
local macro_rules | `(tactic| fail "B") => `(tactic| ((with_reducible refine chkAdd ?_); refine wE_addR T g.toGd ?_; refine Exists.intro _ (And.intro (by (first | exact Num.rt _ | exact Num.int _ | assumption)) (And.intro (And.intro (by (first | with_reducible assumption | exact Fit.mono (by (repeat' (first | with_reducible assumption | with_reducible exact fit_two | with_reducible apply fit_add | with_reducible apply fit_sub | with_reducible apply fit_mul | with_reducible apply fit_half | with_reducible apply fit_rabs | with_reducible apply fit_neg))) (by decide) | exact Fit.mono (n := 64) (fit_int (by omega) (by decide)) (by decide))) (by (first | with_reducible assumption | exact Fit.mono (by (repeat' (first | with_reducible assumption | with_reducible exact fit_two | with_reducible apply fit_add | with_reducible apply fit_sub | with_reducible apply fit_mul | with_reducible apply fit_half | with_reducible apply fit_rabs | with_reducible apply fit_neg))) (by decide) | exact Fit.mono (n := 64) (fit_int (by omega) (by decide)) (by decide)))) ?_))))
local macro_rules | `(tactic| fail "F") => `(tactic| ((with_reducible refine chkB "abs" ?_); refine wF_absR T g.toGd ?qf ?_; (case qf => (first | with_reducible assumption | exact Fit.mono (by (repeat' (first | with_reducible assumption | with_reducible exact fit_two | with_reducible apply fit_add | with_reducible apply fit_sub | with_reducible apply fit_mul | with_reducible apply fit_half | with_reducible apply fit_rabs | with_reducible apply fit_neg))) (by decide) | exact Fit.mono (n := 64) (fit_int (by omega) (by decide)) (by decide)))))
local macro_rules | `(tactic| fail "F") => `(tactic| with_reducible refine wF_R1 T g.toGd ?_)
local macro_rules | `(tactic| fail "F") => `(tactic| ((with_reducible refine wF_R2 T g.toGd ?qc1 ?qc2 ?_); (case qc1 => (first | with_reducible assumption | omega)); (case qc2 => exact lt_pow_mono (n := 64) (by (first | with_reducible assumption | omega)) (by decide))))
local macro_rules | `(tactic| fail "F") => `(tactic| with_reducible refine wF_isBB ?_)
local macro_rules | `(tactic| fail "F") => `(tactic| with_reducible refine wF_isIB ?_)
local macro_rules | `(tactic| fail "F") => `(tactic| with_reducible refine wF_isII ?_)
local macro_rules | `(tactic| fail "F") => `(tactic| ((with_reducible refine wF_isRt ?qc ?_); (case qc => exact T.own_Ratio)))
local macro_rules | `(tactic| fail "U") => `(tactic| ((with_reducible refine chkNg ?_); refine wU_negR T g.toGd ?qf ?_; (case qf => (first | with_reducible assumption | exact Fit.mono (by (repeat' (first | with_reducible assumption | with_reducible exact fit_two | with_reducible apply fit_add | with_reducible apply fit_sub | with_reducible apply fit_mul | with_reducible apply fit_half | with_reducible apply fit_rabs | with_reducible apply fit_neg))) (by decide) | exact Fit.mono (n := 64) (fit_int (by omega) (by decide)) (by decide)))))
local macro_rules | `(tactic| fail "c") => `(tactic| ((with_reducible refine chkC "Water" ?_); refine xE_make gn ?qa T.g_Water T.mk_Water.kp ?_; (case qa => (repeat (first | with_reducible exact In.z | with_reducible apply In.s)))))
local macro_rules | `(tactic| fail "c") => `(tactic| ((with_reducible refine chkC "Pool" ?_); refine xE_make gn ?qa T.g_Pool T.mk_Pool.kp ?_; (case qa => (repeat (first | with_reducible exact In.z | with_reducible apply In.s)))))
local macro_rules | `(tactic| fail "c") => `(tactic| ((with_reducible refine chkC "Ratio" ?_); refine xE_make gn ?qa T.g_Ratio T.mk_Ratio.kp ?_; (case qa => (repeat (first | with_reducible exact In.z | with_reducible apply In.s)))))
local macro_rules | `(tactic| fail "n") => `(tactic| ((with_reducible refine chkN "Water" ?_); refine xE_cls gn ?qa T.g_Water ?_; (case qa => (repeat (first | with_reducible exact In.z | with_reducible apply In.s)))))
local macro_rules | `(tactic| fail "n") => `(tactic| ((with_reducible refine chkN "Pool" ?_); refine xE_cls gn ?qa T.g_Pool ?_; (case qa => (repeat (first | with_reducible exact In.z | with_reducible apply In.s)))))
local macro_rules | `(tactic| fail "n") => `(tactic| ((with_reducible refine chkN "Ratio" ?_); refine xE_cls gn ?qa T.g_Ratio ?_; (case qa => (repeat (first | with_reducible exact In.z | with_reducible apply In.s)))))
local macro_rules | `(tactic| fail "n") => `(tactic| ((with_reducible refine chkN "UnknownIndex" ?_); refine xE_cls gn ?qa T.g_UnknownIndex ?_; (case qa => (repeat (first | with_reducible exact In.z | with_reducible apply In.s)))))
local macro_rules | `(tactic| fail "n") => `(tactic| ((with_reducible refine chkN "Touching" ?_); refine xE_cls gn ?qa T.g_Touching ?_; (case qa => (repeat (first | with_reducible exact In.z | with_reducible apply In.s)))))
local macro_rules | `(tactic| fail "n") => `(tactic| ((with_reducible refine chkN "InvalidNumber" ?_); refine xE_cls gn ?qa T.g_InvalidNumber ?_; (case qa => (repeat (first | with_reducible exact In.z | with_reducible apply In.s)))))
local macro_rules | `(tactic| fail "n") => `(tactic| ((with_reducible refine chkN "PoolError" ?_); refine xE_cls gn ?qa T.g_PoolError ?_; (case qa => (repeat (first | with_reducible exact In.z | with_reducible apply In.s)))))
local macro_rules | `(tactic| fail "a") => `(tactic| ((with_reducible refine chkA "amount" ?_); refine wE_amt T ?_))
local macro_rules | `(tactic| fail "a") => `(tactic| ((with_reducible refine chkA "center" ?_); refine wE_cen T ?_))
local macro_rules | `(tactic| fail "a") => `(tactic| ((with_reducible refine chkA "bottom" ?_); refine wE_bot T ?_))
local macro_rules | `(tactic| fail "a") => `(tactic| ((with_reducible refine chkA "top" ?_); refine wE_top T ?_))
local macro_rules | `(tactic| fail "m") => `(tactic| ((with_reducible refine chkM "over" ?_); refine wE_over T g.toGd ?_))
local macro_rules | `(tactic| fail "O") => `(tactic| refine Exists.intro _ (And.intro (by (first | exact Num.rt _ | exact Num.int _ | assumption)) (And.intro (And.intro (by (first | with_reducible assumption | exact Fit.mono (by (repeat' (first | with_reducible assumption | with_reducible exact fit_two | with_reducible apply fit_add | with_reducible apply fit_sub | with_reducible apply fit_mul | with_reducible apply fit_half | with_reducible apply fit_rabs | with_reducible apply fit_neg))) (by decide) | exact Fit.mono (n := 64) (fit_int (by omega) (by decide)) (by decide))) (And.intro (by (first | with_reducible assumption | exact Fit.mono (by (repeat' (first | with_reducible assumption | with_reducible exact fit_two | with_reducible apply fit_add | with_reducible apply fit_sub | with_reducible apply fit_mul | with_reducible apply fit_half | with_reducible apply fit_rabs | with_reducible apply fit_neg))) (by decide) | exact Fit.mono (n := 64) (fit_int (by omega) (by decide)) (by decide))) (by decide))) ?_)))
local macro_rules | `(tactic| fail "O") => `(tactic| refine Exists.intro _ (Exists.intro _ (Exists.intro _ (Exists.intro _ (And.intro rfl (And.intro rfl (And.intro (by (first | assumption | with_reducible exact at_last | with_reducible exact at_new rfl | with_reducible exact at_left (by assumption) | with_reducible exact List.getElem?_set_self (by assumption) | with_reducible exact at_left (at_left (by assumption)))) (And.intro rfl ?_))))))))
local macro_rules | `(tactic| fail "O") => `(tactic| refine Exists.intro _ (Exists.intro _ (Exists.intro _ (And.intro rfl ?_))))
local macro_rules | `(tactic| fail "O") => `(tactic| refine Exists.intro _ (Exists.intro _ (And.intro rfl ?_)))
local macro_rules | `(tactic| fail "O") => `(tactic| refine And.intro (by (simp only [List.length_cons, List.length_nil]; decide)) ?_)
local macro_rules | `(tactic| fail "O") => `(tactic| refine Exists.intro _ (And.intro rfl ?_))
abbrev r2 : Rat := ((2 : Int) : Rat)
def gapV (c v c' v' : Rat) : Rat := rabs (c - c') - (v + v') / r2
theorem is_cross {t u : Int} (h0 : 0 < u) : (Rat.divInt t u).num * u = t * (Rat.divInt t u).den := by
  have e : Rat.divInt (Rat.divInt t u).num (Rat.divInt t u).den = Rat.divInt t u := Rat.num_divInt_den _
  exact (Rat.divInt_eq_divInt_iff (by have := (Rat.divInt t u).den_pos; omega) (by omega)).mp e
theorem fit_dr {t u : Int} (h1 : -(2 ^ 31) < t ∧ t < 2 ^ 31) (h2 : 0 < u ∧ u < 2 ^ 31) : Fit 31 (Rat.divInt t u) := fit_divInt (n := 31) (by omega) (by omega) (by omega)
theorem divInt_pos {t u : Int} (h1 : 0 < t) (h2 : 0 < u) : 0 < Rat.divInt t u := by
  have e := is_cross (t := t) h2
  have dp := (Rat.divInt t u).den_pos
  have h3 : 0 < t * ((Rat.divInt t u).den : Int) := Int.mul_pos h1 (by omega)
  rw [← e] at h3
  have h4 : 0 < (Rat.divInt t u).num := Int.pos_of_mul_pos_left h3 h2
  rw [Rat.lt_iff]
  show 0 * _ < (Rat.divInt t u).num * 1
  omega
section
variable {X : Cx} {W : WX} {μ : List M} {c v : Rat} {Q : KV} {Z : KX}
theorem wF_isPl {CP C : Addr} (h1 : OwnC X.K CP) (h : Q (.bl true) μ) : wF X W (fun us => call (.builtin "isinstance") us) [pl CP C c v, .ref CP] μ Q Z := wF_isi (.obj h1) (.own _) kit_own_self h
end
section
variable {P : Program} {w : World} {K : PySem.W.Frag} {mg : Str → Option Value} {base : Heap} (T : Tx K mg) {μ : List M} {c v c' v' : Rat} {Q : KV} {Z : KX}
theorem sp_middle (h : Q (rt T.C_Ratio c) μ) : SpF P w K mg base T.f_Pool_middle [T.pl c v] μ Q Z := by
  refine spX_of T.F_Pool_middle sc_Pool_middle ck_Pool_middle rfl ?_
  walk_at "start"
  walk_at "wp"
  rw [List.append_nil]
  exact .same h
theorem sp_volume (h : Q (rt T.C_Ratio v) μ) : SpF P w K mg base T.f_Pool_volume [T.pl c v] μ Q Z := by
  refine spX_of T.F_Pool_volume sc_Pool_volume ck_Pool_volume rfl ?_
  walk_at "start"
  walk_at "wp"
  rw [List.append_nil]
  exact .same h
theorem sp_left (fc : Fit 600 c) (fv : Fit 600 v) (h : Q (rt T.C_Ratio (c - v / r2)) μ) : SpF P w K mg base T.f_Pool_left [T.pl c v] μ Q Z := by
  refine spX_of T.F_Pool_left sc_Pool_left ck_Pool_left rfl ?_
  walk_at "start"
  walk_at "wp"
  rw [List.append_nil]
  exact .same h
theorem sp_right (fc : Fit 600 c) (fv : Fit 600 v) (h : Q (rt T.C_Ratio (c + v / r2)) μ) : SpF P w K mg base T.f_Pool_right [T.pl c v] μ Q Z := by
  refine spX_of T.F_Pool_right sc_Pool_right ck_Pool_right rfl ?_
  walk_at "start"
  walk_at "wp"
  rw [List.append_nil]
  exact .same h
theorem sp_gap (fc : Fit 600 c) (fv : Fit 600 v) (fc' : Fit 600 c') (fv' : Fit 600 v') (h : Q (rt T.C_Ratio (gapV c v c' v')) μ) : SpF P w K mg base T.f_Pool_gap_to [T.pl c v, T.pl c' v'] μ Q Z := by
  refine spX_of T.F_Pool_gap_to sc_Pool_gap_to ck_Pool_gap_to rfl ?_
  walk_at "start"
  walk_at "wp"
  rw [List.append_nil]
  exact .same h
theorem fit_gap (fc : Fit 600 c) (fv : Fit 600 v) (fc' : Fit 600 c') (fv' : Fit 600 v') : Fit 3000 (gapV c v c' v') := (fit_sub (fit_rabs (fit_sub fc fc')) (fit_half (fit_add fv fv'))).mono (by decide)
theorem sp_touches (fc : Fit 600 c) (fv : Fit 600 v) (fc' : Fit 600 c') (fv' : Fit 600 v') (h : Q (.bl (decide (gapV c v c' v' ≤ 0))) μ) : SpF P w K mg base ⟨T.a_Pool_touches, T.fd_Pool_touches, ["self", "other"], 41⟩ [T.pl c v, T.pl c' v'] μ Q Z := by
  refine spX_of T.F_Pool_touches sc_Pool_touches ck_Pool_touches rfl ?_
  walk_at "start"
  have fg := fit_gap fc fv fc' fv'
  refine wSs_cons (wS_ret (wE_cmp (wE_meth T.f_Pool_gap_to g.toGd T.own_Pool.cl T.m_Pool_gap_to T.b_Pool_gap_to ?_)))
  walk_at "e"
  refine ⟨.obj rfl, ?_⟩
  walk_at "e"
  refine sp_gap T fc fv fc' fv' ?_
  walk_at "e"
  rw [List.append_nil]
  exact .same h
theorem sp_padd (fc : Fit 130 c) (fv : Fit 130 v) (fc' : Fit 130 c') (fv' : Fit 130 v') (h0 : 0 < v) (h0' : 0 < v') (h : Q (T.pl ((c * v + c' * v') / (v + v')) (v + v')) μ) : SpF P w K mg base ⟨T.a_Pool_add, T.fd_Pool_add, ["self", "other"], 42⟩ [T.pl c v, T.pl c' v'] μ Q Z := by
  refine spX_of T.F_Pool_add sc_Pool_add ck_Pool_add rfl ?_
  walk_at "start"
  have hs : 0 < v + v' := by
    have a := Rat.add_lt_add_left (c := v) |>.mpr h0'
    rw [Rat.add_zero] at a
    exact Std.lt_trans h0 a
  have hne : v + v' ≠ 0 := fun z => by rw [z] at hs; exact Rat.lt_irrefl hs
  have ft : Fit 600 (v + v') := by walk_at "fit"
  have fm : Fit 600 (c * v + c' * v') := by walk_at "fit"
  walk_at "s1"
  refine wF_isPl T.own_Pool ?_
  walk_at "wp"
  refine ⟨_, .rt _, ⟨by walk_at "fit", by walk_at "fit", hne⟩, ?_⟩
  walk_at "e"
  refine wF_Pool T g.toGd (.rt _) (.rt _) ft hs ?_
  rw [List.append_nil]
  exact .same h
end
section
variable {X : Cx} {W : WX} {k : Nat} {ρ : Env'} {μ : List M} {ob : Expr} {pos : Pos} {Q : KV} {Z : KX}
/-! properties of pools, read -/
theorem wE_mid (T : Tx X.K X.mg) (g : Gd X W k) (h : wE X W ρ μ ob (fun d μ1 => ∃ c v, d = T.pl c v ∧ Q (rt T.C_Ratio c) μ1) Z) (hk : 41 ≤ k := by decide) (hb : attributeBase ob "middle" X.env (eval ob X.env) = eval ob X.env := by rfl) : wE X W ρ μ (.Attribute ob "middle" pos) Q Z :=
  wE_prop T.f_Pool_middle g T.own_Pool.cl T.P_Pool_middle T.b_Pool_middle (h.imp fun d μ1 ⟨c, v, ed, hq⟩ => ⟨by rw [ed]; exact .obj rfl, by rw [ed]; exact sp_middle T hq⟩) hk hb
theorem wE_vol (T : Tx X.K X.mg) (g : Gd X W k) (h : wE X W ρ μ ob (fun d μ1 => ∃ c v, d = T.pl c v ∧ Q (rt T.C_Ratio v) μ1) Z) (hk : 41 ≤ k := by decide) (hb : attributeBase ob "volume" X.env (eval ob X.env) = eval ob X.env := by rfl) : wE X W ρ μ (.Attribute ob "volume" pos) Q Z :=
  wE_prop T.f_Pool_volume g T.own_Pool.cl T.P_Pool_volume T.b_Pool_volume (h.imp fun d μ1 ⟨c, v, ed, hq⟩ => ⟨by rw [ed]; exact .obj rfl, by rw [ed]; exact sp_volume T hq⟩) hk hb
theorem wE_left (T : Tx X.K X.mg) (g : Gd X W k) (h : wE X W ρ μ ob (fun d μ1 => ∃ c v, d = T.pl c v ∧ (Fit 600 c ∧ Fit 600 v) ∧ Q (rt T.C_Ratio (c - v / r2)) μ1) Z) (hk : 41 ≤ k := by decide) (hb : attributeBase ob "left" X.env (eval ob X.env) = eval ob X.env := by rfl) : wE X W ρ μ (.Attribute ob "left" pos) Q Z :=
  wE_prop T.f_Pool_left g T.own_Pool.cl T.P_Pool_left T.b_Pool_left (h.imp fun d μ1 ⟨c, v, ed, ⟨f1, f2⟩, hq⟩ => ⟨by rw [ed]; exact .obj rfl, by rw [ed]; exact sp_left T f1 f2 hq⟩) hk hb
theorem wE_right (T : Tx X.K X.mg) (g : Gd X W k) (h : wE X W ρ μ ob (fun d μ1 => ∃ c v, d = T.pl c v ∧ (Fit 600 c ∧ Fit 600 v) ∧ Q (rt T.C_Ratio (c + v / r2)) μ1) Z) (hk : 41 ≤ k := by decide) (hb : attributeBase ob "right" X.env (eval ob X.env) = eval ob X.env := by rfl) : wE X W ρ μ (.Attribute ob "right" pos) Q Z :=
  wE_prop T.f_Pool_right g T.own_Pool.cl T.P_Pool_right T.b_Pool_right (h.imp fun d μ1 ⟨c, v, ed, ⟨f1, f2⟩, hq⟩ => ⟨by rw [ed]; exact .obj rfl, by rw [ed]; exact sp_right T f1 f2 hq⟩) hk hb
end
section
variable {P : Program} {w : World} {K : PySem.W.Frag} {mg : Str → Option Value} {base : Heap} (T : Tx K mg) {μ : List M} {c v c' v' : Rat} {Q : KV} {Z : KX}
theorem sp_contains {d : D} {x : Rat} (hd : Num T.C_Ratio d x) (fx : Fit 600 x) (fc : Fit 600 c) (fv : Fit 600 v) (h : Q (.bl (decide (c - v / r2 ≤ x) && decide (x ≤ c + v / r2))) μ) : SpF P w K mg base ⟨T.a_Pool_contains, T.fd_Pool_contains, ["self", "x"], 43⟩ [T.pl c v, d] μ Q Z := by
  refine spX_of T.F_Pool_contains sc_Pool_contains ck_Pool_contains rfl ?_
  walk_at "start"
  walk_at "s1"
  refine wE_left T g.toGd ?_
  walk_at "e"
  refine ⟨⟨fc, fv⟩, ?_⟩
  walk_at "e"
  refine br_bool (fun h1 => ?_) (fun h1 => ?_)
  · walk_at "e"
    refine wE_right T g.toGd ?_
    walk_at "e"
    refine ⟨⟨fc, fv⟩, ?_⟩
    refine wE_leL T g.toGd ⟨_, hd, ⟨?_, ?_⟩, ?_⟩
    · walk_at "fit"
    · walk_at "fit"
    rw [h1, Bool.true_and] at h
    rw [List.append_nil]
    exact .same h
  · rw [h1, Bool.false_and] at h
    rw [List.append_nil]
    exact .same h
theorem sp_peq (h : Q (.bl (decide (c = c') && decide (v = v'))) μ) : SpF P w K mg base ⟨T.a_Pool_eq, T.fd_Pool_eq, ["self", "other"], 41⟩ [T.pl c v, T.pl c' v'] μ Q Z := by
  refine spX_of T.F_Pool_eq sc_Pool_eq ck_Pool_eq rfl ?_
  walk_at "start"
  walk_at "s1"
  refine wF_isPl T.own_Pool ?_
  walk_at "wp"
  refine br_bool (fun h1 => ?_) (fun h1 => ?_)
  · walk_at "e"
    rw [h1, Bool.true_and] at h
    rw [List.append_nil]
    exact .same h
  · rw [h1, Bool.false_and] at h
    rw [List.append_nil]
    exact .same h
end
end


section
set_option hygiene false
local macro_rules | `(tactic| fail "B") => `(tactic| ((with_reducible refine chkCmL .LtE ?_); refine wE_leL T g.toGd ?_; refine Exists.intro _ (And.intro (by (first | exact Num.rt _ | exact Num.int _ | assumption)) (And.intro (And.intro (by (first | with_reducible assumption | exact Fit.mono (by (repeat' (first | with_reducible assumption | with_reducible exact fit_two | with_reducible apply fit_add | with_reducible apply fit_sub | with_reducible apply fit_mul | with_reducible apply fit_half | with_reducible apply fit_rabs | with_reducible apply fit_neg))) (by decide) | exact Fit.mono (n := 64) (fit_int (by omega) (by decide)) (by decide))) (by (first | with_reducible assumption | exact Fit.mono (by (repeat' (first | with_reducible assumption | with_reducible exact fit_two | with_reducible apply fit_add | with_reducible apply fit_sub | with_reducible apply fit_mul | with_reducible apply fit_half | with_reducible apply fit_rabs | with_reducible apply fit_neg))) (by decide) | exact Fit.mono (n := 64) (fit_int (by omega) (by decide)) (by decide)))) ?_))))
local macro_rules | `(tactic| fail "B") => `(tactic| ((with_reducible refine chkCm .NotEq ?_); refine wE_neR T g.toGd ?_; refine Exists.intro _ (And.intro (by (first | exact Num.rt _ | exact Num.int _ | assumption)) ?_)))
local macro_rules | `(tactic| fail "B") => `(tactic| ((with_reducible refine chkCm .Eq ?_); refine wE_eqR T g.toGd ?_; refine Exists.intro _ (And.intro (by (first | exact Num.rt _ | exact Num.int _ | assumption)) ?_)))
local macro_rules | `(tactic| fail "B") => `(tactic| ((with_reducible refine chkCm .GtE ?_); refine wE_geR T g.toGd ?_; refine Exists.intro _ (And.intro (by (first | exact Num.rt _ | exact Num.int _ | assumption)) (And.intro (And.intro (by (first | with_reducible assumption | exact Fit.mono (by (repeat' (first | with_reducible assumption | with_reducible exact fit_two | with_reducible apply fit_add | with_reducible apply fit_sub | with_reducible apply fit_mul | with_reducible apply fit_half | with_reducible apply fit_rabs | with_reducible apply fit_neg))) (by decide) | exact Fit.mono (n := 64) (fit_int (by omega) (by decide)) (by decide))) (by (first | with_reducible assumption | exact Fit.mono (by (repeat' (first | with_reducible assumption | with_reducible exact fit_two | with_reducible apply fit_add | with_reducible apply fit_sub | with_reducible apply fit_mul | with_reducible apply fit_half | with_reducible apply fit_rabs | with_reducible apply fit_neg))) (by decide) | exact Fit.mono (n := 64) (fit_int (by omega) (by decide)) (by decide)))) ?_))))
local macro_rules | `(tactic| fail "B") => `(tactic| ((with_reducible refine chkCm .Gt ?_); refine wE_gtR T g.toGd ?_; refine Exists.intro _ (And.intro (by (first | exact Num.rt _ | exact Num.int _ | assumption)) (And.intro (And.intro (by (first | with_reducible assumption | exact Fit.mono (by (repeat' (first | with_reducible assumption | with_reducible exact fit_two | with_reducible apply fit_add | with_reducible apply fit_sub | with_reducible apply fit_mul | with_reducible apply fit_half | with_reducible apply fit_rabs | with_reducible apply fit_neg))) (by decide) | exact Fit.mono (n := 64) (fit_int (by omega) (by decide)) (by decide))) (by (first | with_reducible assumption | exact Fit.mono (by (repeat' (first | with_reducible assumption | with_reducible exact fit_two | with_reducible apply fit_add | with_reducible apply fit_sub | with_reducible apply fit_mul | with_reducible apply fit_half | with_reducible apply fit_rabs | with_reducible apply fit_neg))) (by decide) | exact Fit.mono (n := 64) (fit_int (by omega) (by decide)) (by decide)))) ?_))))
local macro_rules | `(tactic| fail "B") => `(tactic| ((with_reducible refine chkCm .Lt ?_); refine wE_ltR T g.toGd ?_; refine Exists.intro _ (And.intro (by (first | exact Num.rt _ | exact Num.int _ | assumption)) (And.intro (And.intro (by (first | with_reducible assumption | exact Fit.mono (by (repeat' (first | with_reducible assumption | with_reducible exact fit_two | with_reducible apply fit_add | with_reducible apply fit_sub | with_reducible apply fit_mul | with_reducible apply fit_half | with_reducible apply fit_rabs | with_reducible apply fit_neg))) (by decide) | exact Fit.mono (n := 64) (fit_int (by omega) (by decide)) (by decide))) (by (first | with_reducible assumption | exact Fit.mono (by (repeat' (first | with_reducible assumption | with_reducible exact fit_two | with_reducible apply fit_add | with_reducible apply fit_sub | with_reducible apply fit_mul | with_reducible apply fit_half | with_reducible apply fit_rabs | with_reducible apply fit_neg))) (by decide) | exact Fit.mono (n := 64) (fit_int (by omega) (by decide)) (by decide)))) ?_))))
local macro_rules | `(tactic| fail "B") => `(tactic| ((with_reducible refine chkCm .LtE ?_); refine wE_leR T g.toGd ?_; refine Exists.intro _ (And.intro (by (first | exact Num.rt _ | exact Num.int _ | assumption)) (And.intro (And.intro (by (first | with_reducible assumption | exact Fit.mono (by (repeat' (first | with_reducible assumption | with_reducible exact fit_two | with_reducible apply fit_add | with_reducible apply fit_sub | with_reducible apply fit_mul | with_reducible apply fit_half | with_reducible apply fit_rabs | with_reducible apply fit_neg))) (by decide) | exact Fit.mono (n := 64) (fit_int (by omega) (by decide)) (by decide))) (by (first | with_reducible assumption | exact Fit.mono (by (repeat' (first | with_reducible assumption | with_reducible exact fit_two | with_reducible apply fit_add | with_reducible apply fit_sub | with_reducible apply fit_mul | with_reducible apply fit_half | with_reducible apply fit_rabs | with_reducible apply fit_neg))) (by decide) | exact Fit.mono (n := 64) (fit_int (by omega) (by decide)) (by decide)))) ?_))))
local macro_rules | `(tactic| fail "B") => `(tactic| ((with_reducible refine chkMul ?_); refine wE_mulRt T g.toGd ?_; refine Exists.intro _ (And.intro (by (first | exact Num.rt _ | exact Num.int _ | assumption)) (And.intro (And.intro (by (first | with_reducible assumption | exact Fit.mono (by (repeat' (first | with_reducible assumption | with_reducible exact fit_two | with_reducible apply fit_add | with_reducible apply fit_sub | with_reducible apply fit_mul | with_reducible apply fit_half | with_reducible apply fit_rabs | with_reducible apply fit_neg))) (by decide) | exact Fit.mono (n := 64) (fit_int (by omega) (by decide)) (by decide))) (by (first | with_reducible assumption | exact Fit.mono (by (repeat' (first | with_reducible assumption | with_reducible exact fit_two | with_reducible apply fit_add | with_reducible apply fit_sub | with_reducible apply fit_mul | with_reducible apply fit_half | with_reducible apply fit_rabs | with_reducible apply fit_neg))) (by decide) | exact Fit.mono (n := 64) (fit_int (by omega) (by decide)) (by decide)))) ?_))))
local macro_rules | `(tactic| fail "B") => `(tactic| ((with_reducible refine chkSub ?_); refine wE_subR T g.toGd ?_; refine Exists.intro _ (And.intro (by (first | exact Num.rt _ | exact Num.int _ | assumption)) (And.intro (And.intro (by (first | with_reducible assumption | exact Fit.mono (by (repeat' (first | with_reducible assumption | with_reducible exact fit_two | with_reducible apply fit_add | with_reducible apply fit_sub | with_reducible apply fit_mul | with_reducible apply fit_half | with_reducible apply fit_rabs | with_reducible apply fit_neg))) (by decide) | exact Fit.mono (n := 64) (fit_int (by omega) (by decide)) (by decide))) (by (first | with_reducible assumption | exact Fit.mono (by (repeat' (first | with_reducible assumption | with_reducible exact fit_two | with_reducible apply fit_add | with_reducible apply fit_sub | with_reducible apply fit_mul | with_reducible apply fit_half | with_reducible apply fit_rabs | with_reducible apply fit_neg))) (by decide) | exact Fit.mono (n := 64) (fit_int (by omega) (by decide)) (by decide)))) ?_))))
local macro_rules | `(tactic| fail "B") => `(tactic| ((with_reducible refine chkAdd ?_); refine wE_addR T g.toGd ?_; refine Exists.intro _ (And.intro (by (first | exact Num.rt _ | exact Num.int _ | assumption)) (And.intro (And.intro (by (first | with_reducible assumption | exact Fit.mono (by (repeat' (first | with_reducible assumption | with_reducible exact fit_two | with_reducible apply fit_add | with_reducible apply fit_sub | with_reducible apply fit_mul | with_reducible apply fit_half | with_reducible apply fit_rabs | with_reducible apply fit_neg))) (by decide) | exact Fit.mono (n := 64) (fit_int (by omega) (by decide)) (by decide))) (by (first | with_reducible assumption | exact Fit.mono (by (repeat' (first | with_reducible assumption | with_reducible exact fit_two | with_reducible apply fit_add | with_reducible apply fit_sub | with_reducible apply fit_mul | with_reducible apply fit_half | with_reducible apply fit_rabs | with_reducible apply fit_neg))) (by decide) | exact Fit.mono (n := 64) (fit_int (by omega) (by decide)) (by decide)))) ?_))))
local macro_rules | `(tactic| fail "F") => `(tactic| ((with_reducible refine chkB "abs" ?_); refine wF_absR T g.toGd ?qf ?_; (case qf => (first | with_reducible assumption | exact Fit.mono (by (repeat' (first | with_reducible assumption | with_reducible exact fit_two | with_reducible apply fit_add | with_reducible apply fit_sub | with_reducible apply fit_mul | with_reducible apply fit_half | with_reducible apply fit_rabs | with_reducible apply fit_neg))) (by decide) | exact Fit.mono (n := 64) (fit_int (by omega) (by decide)) (by decide)))))
local macro_rules | `(tactic| fail "F") => `(tactic| with_reducible refine wF_R1 T g.toGd ?_)
local macro_rules | `(tactic| fail "F") => `(tactic| ((with_reducible refine wF_R2 T g.toGd ?qc1 ?qc2 ?_); (case qc1 => (first | with_reducible assumption | omega)); (case qc2 => exact lt_pow_mono (n := 64) (by (first | with_reducible assumption | omega)) (by decide))))
local macro_rules | `(tactic| fail "F") => `(tactic| with_reducible refine wF_isBB ?_)
local macro_rules | `(tactic| fail "F") => `(tactic| with_reducible refine wF_isIB ?_)
local macro_rules | `(tactic| fail "F") => `(tactic| with_reducible refine wF_isII ?_)
local macro_rules | `(tactic| fail "F") => `(tactic| ((with_reducible refine wF_isRt ?qc ?_); (case qc => exact T.own_Ratio)))
local macro_rules | `(tactic| fail "U") => `(tactic| ((with_reducible refine chkNg ?_); refine wU_negR T g.toGd ?qf ?_; (case qf => (first | with_reducible assumption | exact Fit.mono (by (repeat' (first | with_reducible assumption | with_reducible exact fit_two | with_reducible apply fit_add | with_reducible apply fit_sub | with_reducible apply fit_mul | with_reducible apply fit_half | with_reducible apply fit_rabs | with_reducible apply fit_neg))) (by decide) | exact Fit.mono (n := 64) (fit_int (by omega) (by decide)) (by decide)))))
local macro_rules | `(tactic| fail "c") => `(tactic| ((with_reducible refine chkC "Water" ?_); refine xE_make gn ?qa T.g_Water T.mk_Water.kp ?_; (case qa => (repeat (first | with_reducible exact In.z | with_reducible apply In.s)))))
local macro_rules | `(tactic| fail "c") => `(tactic| ((with_reducible refine chkC "Pool" ?_); refine xE_make gn ?qa T.g_Pool T.mk_Pool.kp ?_; (case qa => (repeat (first | with_reducible exact In.z | with_reducible apply In.s)))))
local macro_rules | `(tactic| fail "c") => `(tactic| ((with_reducible refine chkC "Ratio" ?_); refine xE_make gn ?qa T.g_Ratio T.mk_Ratio.kp ?_; (case qa => (repeat (first | with_reducible exact In.z | with_reducible apply In.s)))))
local macro_rules | `(tactic| fail "c") => `(tactic| ((with_reducible refine chkC "as_ratio" ?_); refine xE_call T.f_as_ratio g ?qa T.g_as_ratio T.F_as_ratio.kp T.b_as_ratio ?_; (case qa => (repeat (first | with_reducible exact In.z | with_reducible apply In.s)))))
local macro_rules | `(tactic| fail "n") => `(tactic| ((with_reducible refine chkN "Water" ?_); refine xE_cls gn ?qa T.g_Water ?_; (case qa => (repeat (first | with_reducible exact In.z | with_reducible apply In.s)))))
local macro_rules | `(tactic| fail "n") => `(tactic| ((with_reducible refine chkN "Pool" ?_); refine xE_cls gn ?qa T.g_Pool ?_; (case qa => (repeat (first | with_reducible exact In.z | with_reducible apply In.s)))))
local macro_rules | `(tactic| fail "n") => `(tactic| ((with_reducible refine chkN "Ratio" ?_); refine xE_cls gn ?qa T.g_Ratio ?_; (case qa => (repeat (first | with_reducible exact In.z | with_reducible apply In.s)))))
local macro_rules | `(tactic| fail "n") => `(tactic| ((with_reducible refine chkN "UnknownIndex" ?_); refine xE_cls gn ?qa T.g_UnknownIndex ?_; (case qa => (repeat (first | with_reducible exact In.z | with_reducible apply In.s)))))
local macro_rules | `(tactic| fail "n") => `(tactic| ((with_reducible refine chkN "Touching" ?_); refine xE_cls gn ?qa T.g_Touching ?_; (case qa => (repeat (first | with_reducible exact In.z | with_reducible apply In.s)))))
local macro_rules | `(tactic| fail "n") => `(tactic| ((with_reducible refine chkN "InvalidNumber" ?_); refine xE_cls gn ?qa T.g_InvalidNumber ?_; (case qa => (repeat (first | with_reducible exact In.z | with_reducible apply In.s)))))
local macro_rules | `(tactic| fail "n") => `(tactic| ((with_reducible refine chkN "PoolError" ?_); refine xE_cls gn ?qa T.g_PoolError ?_; (case qa => (repeat (first | with_reducible exact In.z | with_reducible apply In.s)))))
local macro_rules | `(tactic| fail "a") => `(tactic| ((with_reducible refine chkA "amount" ?_); refine wE_amt T ?_))
local macro_rules | `(tactic| fail "a") => `(tactic| ((with_reducible refine chkA "center" ?_); refine wE_cen T ?_))
local macro_rules | `(tactic| fail "a") => `(tactic| ((with_reducible refine chkA "bottom" ?_); refine wE_bot T ?_))
local macro_rules | `(tactic| fail "a") => `(tactic| ((with_reducible refine chkA "top" ?_); refine wE_top T ?_))
local macro_rules | `(tactic| fail "m") => `(tactic| ((with_reducible refine chkM "over" ?_); refine wE_over T g.toGd ?_))
local macro_rules | `(tactic| fail "O") => `(tactic| refine Exists.intro _ (And.intro (by (first | exact Num.rt _ | exact Num.int _ | assumption)) (And.intro (And.intro (by (first | with_reducible assumption | exact Fit.mono (by (repeat' (first | with_reducible assumption | with_reducible exact fit_two | with_reducible apply fit_add | with_reducible apply fit_sub | with_reducible apply fit_mul | with_reducible apply fit_half | with_reducible apply fit_rabs | with_reducible apply fit_neg))) (by decide) | exact Fit.mono (n := 64) (fit_int (by omega) (by decide)) (by decide))) (And.intro (by (first | with_reducible assumption | exact Fit.mono (by (repeat' (first | with_reducible assumption | with_reducible exact fit_two | with_reducible apply fit_add | with_reducible apply fit_sub | with_reducible apply fit_mul | with_reducible apply fit_half | with_reducible apply fit_rabs | with_reducible apply fit_neg))) (by decide) | exact Fit.mono (n := 64) (fit_int (by omega) (by decide)) (by decide))) (by decide))) ?_)))
local macro_rules | `(tactic| fail "O") => `(tactic| refine Exists.intro _ (Exists.intro _ (Exists.intro _ (Exists.intro _ (And.intro rfl (And.intro rfl (And.intro (by (first | assumption | with_reducible exact at_last | with_reducible exact at_new rfl | with_reducible exact at_left (by assumption) | with_reducible exact List.getElem?_set_self (by assumption) | with_reducible exact at_left (at_left (by assumption)))) (And.intro rfl ?_))))))))
local macro_rules | `(tactic| fail "O") => `(tactic| refine Exists.intro _ (Exists.intro _ (Exists.intro _ (And.intro rfl ?_))))
local macro_rules | `(tactic| fail "O") => `(tactic| refine Exists.intro _ (Exists.intro _ (And.intro rfl ?_)))
local macro_rules | `(tactic| fail "O") => `(tactic| refine And.intro (by (simp only [List.length_cons, List.length_nil]; decide)) ?_)
local macro_rules | `(tactic| fail "O") => `(tactic| refine Exists.intro _ (And.intro rfl ?_))
section
variable {P : Program} {w : World} {K : PySem.W.Frag} {mg : Str → Option Value} {base : Heap} (T : Tx K mg)
/-! the methods as relations, for the operators -/
def R_padd (T : Tx K mg) : Rl := fun ds μ o => ∃ c v c' v', ds = [T.pl c v, T.pl c' v'] ∧ (Fit 130 c ∧ Fit 130 v ∧ Fit 130 c' ∧ Fit 130 v') ∧ 0 < v ∧ 0 < v' ∧ o = .ret (T.pl ((c * v + c' * v') / (v + v')) (v + v')) μ
theorem ok_padd : FnG P w K mg base 42 T.a_Pool_add T.fd_Pool_add ["self", "other"] (spR K (R_padd T)) := by
  refine SpF.rel (f := ⟨T.a_Pool_add, T.fd_Pool_add, ["self", "other"], 42⟩) ?_
  rintro ds μ o ⟨c, v, c', v', rfl, ⟨f1, f2, f3, f4⟩, h0, h0', rfl⟩
  exact sp_padd T f1 f2 f3 f4 h0 h0' rfl
theorem sp_peqK {μ : List M} {d : D} {t : Value} {c v : Rat} {Q : KV} {Z : KX} (ty : TyD K d t) (hk : PySem.W.kitOne K t (.ref T.C_Pool) = some false) (h : Q (.bl false) μ) : SpF P w K mg base ⟨T.a_Pool_eq, T.fd_Pool_eq, ["self", "other"], 41⟩ [T.pl c v, d] μ Q Z := by
  refine spX_of T.F_Pool_eq sc_Pool_eq ck_Pool_eq rfl ?_
  walk_at "start"
  walk_at "s1"
  refine wF_isi ty (.own _) hk ?_
  walk_at "wp"
  rw [List.append_nil]
  exact .same h
def R_peq (T : Tx K mg) : Rl := fun ds μ o => ∃ c v d b, ds = [T.pl c v, d] ∧ ((∃ c' v', d = T.pl c' v' ∧ b = (decide (c = c') && decide (v = v'))) ∨ (∃ t, TyD K d t ∧ PySem.W.kitOne K t (.ref T.C_Pool) = some false ∧ b = false)) ∧ o = .ret (.bl b) μ
theorem ok_peq : FnG P w K mg base 41 T.a_Pool_eq T.fd_Pool_eq ["self", "other"] (spR K (R_peq T)) := by
  refine SpF.rel (f := ⟨T.a_Pool_eq, T.fd_Pool_eq, ["self", "other"], 41⟩) ?_
  rintro ds μ o ⟨c, v, d, b, rfl, h, rfl⟩
  rcases h with ⟨c', v', rfl, rfl⟩ | ⟨t, ty, hk, rfl⟩
  · exact sp_peq T rfl
  · exact sp_peqK T ty hk rfl
def R_pin (T : Tx K mg) : Rl := fun ds μ o => ∃ c v d x, ds = [T.pl c v, d] ∧ Num T.C_Ratio d x ∧ Fit 600 x ∧ Fit 600 c ∧ Fit 600 v ∧ o = .ret (.bl (decide (c - v / r2 ≤ x) && decide (x ≤ c + v / r2))) μ
theorem ok_pin : FnG P w K mg base 43 T.a_Pool_contains T.fd_Pool_contains ["self", "x"] (spR K (R_pin T)) := by
  refine SpF.rel (f := ⟨T.a_Pool_contains, T.fd_Pool_contains, ["self", "x"], 43⟩) ?_
  rintro ds μ o ⟨c, v, d, x, rfl, hd, f1, f2, f3, rfl⟩
  exact sp_contains T hd f1 f2 f3 rfl
end
section
variable {X : Cx} {W : WX} {k : Nat} {μ : List M} {d : D} {t : Value} {c v c' v' x : Rat} {Q : KV} {Z : KX}
theorem wB_addP (T : Tx X.K X.mg) (g : Gd X W k) (h : (Fit 130 c ∧ Fit 130 v ∧ Fit 130 c' ∧ Fit 130 v') ∧ (0 < v ∧ 0 < v') ∧ Q (T.pl ((c * v + c' * v') / (v + v')) (v + v')) μ) (hj : 42 ≤ k := by decide) : wB X W (binaryOp .Add) (T.pl c v) (T.pl c' v') μ Q Z :=
  .ofV (oo_own (op := .Add) g.w0 T.own_Pool T.m_Pool_add.at_ T.m_Pool_add.fn ⟨ok_padd T, T.b_Pool_add⟩ ⟨c, v, c', v', rfl, h.1, h.2.1.1, h.2.1.2, rfl⟩ hj) h.2.2
theorem wB_inP (T : Tx X.K X.mg) (g : Gd X W k) (hd : Num T.C_Ratio d x) (fx : Fit 600 x) (fc : Fit 600 c) (fv : Fit 600 v) (h : Q (.bl (decide (c - v / r2 ≤ x) && decide (x ≤ c + v / r2))) μ) (hj : 43 ≤ k := by decide) : wB X W (compareOp .In) d (T.pl c v) μ Q Z :=
  .ofV (oc_inOwn g.w0 T.m_Pool_contains ⟨ok_pin T, T.b_Pool_contains⟩ ⟨c, v, d, x, rfl, hd, fx, fc, fv, rfl⟩ hj) h
end
end


section
set_option hygiene false
local macro_rules | `(tactic| fail "B") => `(tactic| ((with_reducible refine chkCmL .LtE ?_); refine wE_leL T g.toGd ?_; refine Exists.intro _ (And.intro (by (first | exact Num.rt _ | exact Num.int _ | assumption)) (And.intro (And.intro (by (first | with_reducible assumption | exact Fit.mono (by (repeat' (first | with_reducible assumption | with_reducible exact fit_two | with_reducible apply fit_add | with_reducible apply fit_sub | with_reducible apply fit_mul | with_reducible apply fit_half | with_reducible apply fit_rabs | with_reducible apply fit_neg))) (by decide) | exact Fit.mono (n := 64) (fit_int (by omega) (by decide)) (by decide))) (by (first | with_reducible assumption | exact Fit.mono (by (repeat' (first | with_reducible assumption | with_reducible exact fit_two | with_reducible apply fit_add | with_reducible apply fit_sub | with_reducible apply fit_mul | with_reducible apply fit_half | with_reducible apply fit_rabs | with_reducible apply fit_neg))) (by decide) | exact Fit.mono (n := 64) (fit_int (by omega) (by decide)) (by decide)))) ?_))))
local macro_rules | `(tactic| fail "B") => `(tactic| ((with_reducible refine chkCm .NotEq ?_); refine wE_neR T g.toGd ?_; refine Exists.intro _ (And.intro (by (first | exact Num.rt _ | exact Num.int _ | assumption)) ?_)))
local macro_rules | `(tactic| fail "B") => `(tactic| ((with_reducible refine chkCm .Eq ?_); refine wE_eqR T g.toGd ?_; refine Exists.intro _ (And.intro (by (first | exact Num.rt _ | exact Num.int _ | assumption)) ?_)))
local macro_rules | `(tactic| fail "B") => `(tactic| ((with_reducible refine chkCm .GtE ?_); refine wE_geR T g.toGd ?_; refine Exists.intro _ (And.intro (by (first | exact Num.rt _ | exact Num.int _ | assumption)) (And.intro (And.intro (by (first | with_reducible assumption | exact Fit.mono (by (repeat' (first | with_reducible assumption | with_reducible exact fit_two | with_reducible apply fit_add | with_reducible apply fit_sub | with_reducible apply fit_mul | with_reducible apply fit_half | with_reducible apply fit_rabs | with_reducible apply fit_neg))) (by decide) | exact Fit.mono (n := 64) (fit_int (by omega) (by decide)) (by decide))) (by (first | with_reducible assumption | exact Fit.mono (by (repeat' (first | with_reducible assumption | with_reducible exact fit_two | with_reducible apply fit_add | with_reducible apply fit_sub | with_reducible apply fit_mul | with_reducible apply fit_half | with_reducible apply fit_rabs | with_reducible apply fit_neg))) (by decide) | exact Fit.mono (n := 64) (fit_int (by omega) (by decide)) (by decide)))) ?_))))
local macro_rules | `(tactic| fail "B") => `(tactic| ((with_reducible refine chkCm .Gt ?_); refine wE_gtR T g.toGd ?_; refine Exists.intro _ (And.intro (by (first | exact Num.rt _ | exact Num.int _ | assumption)) (And.intro (And.intro (by (first | with_reducible assumption | exact Fit.mono (by (repeat' (first | with_reducible assumption | with_reducible exact fit_two | with_reducible apply fit_add | with_reducible apply fit_sub | with_reducible apply fit_mul | with_reducible apply fit_half | with_reducible apply fit_rabs | with_reducible apply fit_neg))) (by decide) | exact Fit.mono (n := 64) (fit_int (by omega) (by decide)) (by decide))) (by (first | with_reducible assumption | exact Fit.mono (by (repeat' (first | with_reducible assumption | with_reducible exact fit_two | with_reducible apply fit_add | with_reducible apply fit_sub | with_reducible apply fit_mul | with_reducible apply fit_half | with_reducible apply fit_rabs | with_reducible apply fit_neg))) (by decide) | exact Fit.mono (n := 64) (fit_int (by omega) (by decide)) (by decide)))) ?_))))
local macro_rules | `(tactic| fail "B") => `(tactic| ((with_reducible refine chkCm .Lt ?_); refine wE_ltR T g.toGd ?_; refine Exists.intro _ (And.intro (by (first | exact Num.rt _ | exact Num.int _ | assumption)) (And.intro (And.intro (by (first | with_reducible assumption | exact Fit.mono (by (repeat' (first | with_reducible assumption | with_reducible exact fit_two | with_reducible apply fit_add | with_reducible apply fit_sub | with_reducible apply fit_mul | with_reducible apply fit_half | with_reducible apply fit_rabs | with_reducible apply fit_neg))) (by decide) | exact Fit.mono (n := 64) (fit_int (by omega) (by decide)) (by decide))) (by (first | with_reducible assumption | exact Fit.mono (by (repeat' (first | with_reducible assumption | with_reducible exact fit_two | with_reducible apply fit_add | with_reducible apply fit_sub | with_reducible apply fit_mul | with_reducible apply fit_half | with_reducible apply fit_rabs | with_reducible apply fit_neg))) (by decide) | exact Fit.mono (n := 64) (fit_int (by omega) (by decide)) (by decide)))) ?_))))
local macro_rules | `(tactic| fail "B") => `(tactic| ((with_reducible refine chkCm .LtE ?_); refine wE_leR T g.toGd ?_; refine Exists.intro _ (And.intro (by (first | exact Num.rt _ | exact Num.int _ | assumption)) (And.intro (And.intro (by (first | with_reducible assumption | exact Fit.mono (by (repeat' (first | with_reducible assumption | with_reducible exact fit_two | with_reducible apply fit_add | with_reducible apply fit_sub | with_reducible apply fit_mul | with_reducible apply fit_half | with_reducible apply fit_rabs | with_reducible apply fit_neg))) (by decide) | exact Fit.mono (n := 64) (fit_int (by omega) (by decide)) (by decide))) (by (first | with_reducible assumption | exact Fit.mono (by (repeat' (first | with_reducible assumption | with_reducible exact fit_two | with_reducible apply fit_add | with_reducible apply fit_sub | with_reducible apply fit_mul | with_reducible apply fit_half | with_reducible apply fit_rabs | with_reducible apply fit_neg))) (by decide) | exact Fit.mono (n := 64) (fit_int (by omega) (by decide)) (by decide)))) ?_))))
local macro_rules | `(tactic| fail "B") => `(tactic| ((with_reducible refine chkMul ?_); refine wE_mulRt T g.toGd ?_; refine Exists.intro _ (And.intro (by (first | exact Num.rt _ | exact Num.int _ | assumption)) (And.intro (And.intro (by (first | with_reducible assumption | exact Fit.mono (by (repeat' (first | with_reducible assumption | with_reducible exact fit_two | with_reducible apply fit_add | with_reducible apply fit_sub | with_reducible apply fit_mul | with_reducible apply fit_half | with_reducible apply fit_rabs | with_reducible apply fit_neg))) (by decide) | exact Fit.mono (n := 64) (fit_int (by omega) (by decide)) (by decide))) (by (first | with_reducible assumption | exact Fit.mono (by (repeat' (first | with_reducible assumption | with_reducible exact fit_two | with_reducible apply fit_add | with_reducible apply fit_sub | with_reducible apply fit_mul | with_reducible apply fit_half | with_reducible apply fit_rabs | with_reducible apply fit_neg))) (by decide) | exact Fit.mono (n := 64) (fit_int (by omega) (by decide)) (by decide)))) ?_))))
local macro_rules | `(tactic| fail "B") => `(tactic| ((with_reducible refine chkSub ?_); refine wE_subR T g.toGd ?_; refine Exists.intro _ (And.intro (by (first | exact Num.rt _ | exact Num.int _ | assumption)) (And.intro (And.intro (by (first | with_reducible assumption | exact Fit.mono (by (repeat' (first | with_reducible assumption | with_reducible exact fit_two | with_reducible apply fit_add | with_reducible apply fit_sub | with_reducible apply fit_mul | with_reducible apply fit_half | with_reducible apply fit_rabs | with_reducible apply fit_neg))) (by decide) | exact Fit.mono (n := 64) (fit_int (by omega) (by decide)) (by decide))) (by (first | with_reducible assumption | exact Fit.mono (by (repeat' (first | with_reducible assumption | with_reducible exact fit_two | with_reducible apply fit_add | with_reducible apply fit_sub | with_reducible apply fit_mul | with_reducible apply fit_half | with_reducible apply fit_rabs | with_reducible apply fit_neg))) (by decide) | exact Fit.mono (n := 64) (fit_int (by omega) (by decide)) (by decide)))) ?_))))
local macro_rules | `(tactic| fail "B") => `(tactic| ((with_reducible refine chkAdd ?_); refine wE_addR T g.toGd ?_; refine Exists.intro _ (And.intro (by (first | exact Num.rt _ | exact Num.int _ | assumption)) (And.intro (And.intro (by (first | with_reducible assumption | exact Fit.mono (by (repeat' (first | with_reducible assumption | with_reducible exact fit_two | with_reducible apply fit_add | with_reducible apply fit_sub | with_reducible apply fit_mul | with_reducible apply fit_half | with_reducible apply fit_rabs | with_reducible apply fit_neg))) (by decide) | exact Fit.mono (n := 64) (fit_int (by omega) (by decide)) (by decide))) (by (first | with_reducible assumption | exact Fit.mono (by (repeat' (first | with_reducible assumption | with_reducible exact fit_two | with_reducible apply fit_add | with_reducible apply fit_sub | with_reducible apply fit_mul | with_reducible apply fit_half | with_reducible apply fit_rabs | with_reducible apply fit_neg))) (by decide) | exact Fit.mono (n := 64) (fit_int (by omega) (by decide)) (by decide)))) ?_))))
local macro_rules | `(tactic| fail "F") => `(tactic| ((with_reducible refine chkB "abs" ?_); refine wF_absR T g.toGd ?qf ?_; (case qf => (first | with_reducible assumption | exact Fit.mono (by (repeat' (first | with_reducible assumption | with_reducible exact fit_two | with_reducible apply fit_add | with_reducible apply fit_sub | with_reducible apply fit_mul | with_reducible apply fit_half | with_reducible apply fit_rabs | with_reducible apply fit_neg))) (by decide) | exact Fit.mono (n := 64) (fit_int (by omega) (by decide)) (by decide)))))
local macro_rules | `(tactic| fail "F") => `(tactic| with_reducible refine wF_R1 T g.toGd ?_)
local macro_rules | `(tactic| fail "F") => `(tactic| ((with_reducible refine wF_R2 T g.toGd ?qc1 ?qc2 ?_); (case qc1 => (first | with_reducible assumption | omega)); (case qc2 => exact lt_pow_mono (n := 64) (by (first | with_reducible assumption | omega)) (by decide))))
local macro_rules | `(tactic| fail "F") => `(tactic| with_reducible refine wF_isBB ?_)
local macro_rules | `(tactic| fail "F") => `(tactic| with_reducible refine wF_isIB ?_)
local macro_rules | `(tactic| fail "F") => `(tactic| with_reducible refine wF_isII ?_)
local macro_rules | `(tactic| fail "F") => `(tactic| ((with_reducible refine wF_isRt ?qc ?_); (case qc => exact T.own_Ratio)))
local macro_rules | `(tactic| fail "U") => `(tactic| ((with_reducible refine chkNg ?_); refine wU_negR T g.toGd ?qf ?_; (case qf => (first | with_reducible assumption | exact Fit.mono (by (repeat' (first | with_reducible assumption | with_reducible exact fit_two | with_reducible apply fit_add | with_reducible apply fit_sub | with_reducible apply fit_mul | with_reducible apply fit_half | with_reducible apply fit_rabs | with_reducible apply fit_neg))) (by decide) | exact Fit.mono (n := 64) (fit_int (by omega) (by decide)) (by decide)))))
local macro_rules | `(tactic| fail "c") => `(tactic| ((with_reducible refine chkC "Water" ?_); refine xE_make gn ?qa T.g_Water T.mk_Water.kp ?_; (case qa => (repeat (first | with_reducible exact In.z | with_reducible apply In.s)))))
local macro_rules | `(tactic| fail "c") => `(tactic| ((with_reducible refine chkC "Pool" ?_); refine xE_make gn ?qa T.g_Pool T.mk_Pool.kp ?_; (case qa => (repeat (first | with_reducible exact In.z | with_reducible apply In.s)))))
local macro_rules | `(tactic| fail "c") => `(tactic| ((with_reducible refine chkC "Ratio" ?_); refine xE_make gn ?qa T.g_Ratio T.mk_Ratio.kp ?_; (case qa => (repeat (first | with_reducible exact In.z | with_reducible apply In.s)))))
local macro_rules | `(tactic| fail "n") => `(tactic| ((with_reducible refine chkN "Water" ?_); refine xE_cls gn ?qa T.g_Water ?_; (case qa => (repeat (first | with_reducible exact In.z | with_reducible apply In.s)))))
local macro_rules | `(tactic| fail "n") => `(tactic| ((with_reducible refine chkN "Pool" ?_); refine xE_cls gn ?qa T.g_Pool ?_; (case qa => (repeat (first | with_reducible exact In.z | with_reducible apply In.s)))))
local macro_rules | `(tactic| fail "n") => `(tactic| ((with_reducible refine chkN "Ratio" ?_); refine xE_cls gn ?qa T.g_Ratio ?_; (case qa => (repeat (first | with_reducible exact In.z | with_reducible apply In.s)))))
local macro_rules | `(tactic| fail "n") => `(tactic| ((with_reducible refine chkN "UnknownIndex" ?_); refine xE_cls gn ?qa T.g_UnknownIndex ?_; (case qa => (repeat (first | with_reducible exact In.z | with_reducible apply In.s)))))
local macro_rules | `(tactic| fail "n") => `(tactic| ((with_reducible refine chkN "Touching" ?_); refine xE_cls gn ?qa T.g_Touching ?_; (case qa => (repeat (first | with_reducible exact In.z | with_reducible apply In.s)))))
local macro_rules | `(tactic| fail "n") => `(tactic| ((with_reducible refine chkN "InvalidNumber" ?_); refine xE_cls gn ?qa T.g_InvalidNumber ?_; (case qa => (repeat (first | with_reducible exact In.z | with_reducible apply In.s)))))
local macro_rules | `(tactic| fail "n") => `(tactic| ((with_reducible refine chkN "PoolError" ?_); refine xE_cls gn ?qa T.g_PoolError ?_; (case qa => (repeat (first | with_reducible exact In.z | with_reducible apply In.s)))))
local macro_rules | `(tactic| fail "a") => `(tactic| ((with_reducible refine chkA "right" ?_); refine wE_right T g.toGd ?_))
local macro_rules | `(tactic| fail "a") => `(tactic| ((with_reducible refine chkA "left" ?_); refine wE_left T g.toGd ?_))
local macro_rules | `(tactic| fail "a") => `(tactic| ((with_reducible refine chkA "volume" ?_); refine wE_vol T g.toGd ?_))
local macro_rules | `(tactic| fail "a") => `(tactic| ((with_reducible refine chkA "middle" ?_); refine wE_mid T g.toGd ?_))
local macro_rules | `(tactic| fail "a") => `(tactic| ((with_reducible refine chkA "amount" ?_); refine wE_amt T ?_))
local macro_rules | `(tactic| fail "a") => `(tactic| ((with_reducible refine chkA "center" ?_); refine wE_cen T ?_))
local macro_rules | `(tactic| fail "a") => `(tactic| ((with_reducible refine chkA "bottom" ?_); refine wE_bot T ?_))
local macro_rules | `(tactic| fail "a") => `(tactic| ((with_reducible refine chkA "top" ?_); refine wE_top T ?_))
local macro_rules | `(tactic| fail "m") => `(tactic| ((with_reducible refine chkM "over" ?_); refine wE_over T g.toGd ?_))
local macro_rules | `(tactic| fail "O") => `(tactic| refine And.intro (And.intro (by (first | with_reducible assumption | exact Fit.mono (by (repeat' (first | with_reducible assumption | with_reducible exact fit_two | with_reducible apply fit_add | with_reducible apply fit_sub | with_reducible apply fit_mul | with_reducible apply fit_half | with_reducible apply fit_rabs | with_reducible apply fit_neg))) (by decide) | exact Fit.mono (n := 64) (fit_int (by omega) (by decide)) (by decide))) (by (first | with_reducible assumption | exact Fit.mono (by (repeat' (first | with_reducible assumption | with_reducible exact fit_two | with_reducible apply fit_add | with_reducible apply fit_sub | with_reducible apply fit_mul | with_reducible apply fit_half | with_reducible apply fit_rabs | with_reducible apply fit_neg))) (by decide) | exact Fit.mono (n := 64) (fit_int (by omega) (by decide)) (by decide)))) ?_)
local macro_rules | `(tactic| fail "O") => `(tactic| refine Exists.intro _ (And.intro (by (first | exact Num.rt _ | exact Num.int _ | assumption)) (And.intro (And.intro (by (first | with_reducible assumption | exact Fit.mono (by (repeat' (first | with_reducible assumption | with_reducible exact fit_two | with_reducible apply fit_add | with_reducible apply fit_sub | with_reducible apply fit_mul | with_reducible apply fit_half | with_reducible apply fit_rabs | with_reducible apply fit_neg))) (by decide) | exact Fit.mono (n := 64) (fit_int (by omega) (by decide)) (by decide))) (And.intro (by (first | with_reducible assumption | exact Fit.mono (by (repeat' (first | with_reducible assumption | with_reducible exact fit_two | with_reducible apply fit_add | with_reducible apply fit_sub | with_reducible apply fit_mul | with_reducible apply fit_half | with_reducible apply fit_rabs | with_reducible apply fit_neg))) (by decide) | exact Fit.mono (n := 64) (fit_int (by omega) (by decide)) (by decide))) (by decide))) ?_)))
local macro_rules | `(tactic| fail "O") => `(tactic| refine Exists.intro _ (Exists.intro _ (Exists.intro _ (Exists.intro _ (And.intro rfl (And.intro rfl (And.intro (by (first | assumption | with_reducible exact at_last | with_reducible exact at_new rfl | with_reducible exact at_left (by assumption) | with_reducible exact List.getElem?_set_self (by assumption) | with_reducible exact at_left (at_left (by assumption)))) (And.intro rfl ?_))))))))
local macro_rules | `(tactic| fail "O") => `(tactic| refine Exists.intro _ (Exists.intro _ (Exists.intro _ (And.intro rfl ?_))))
local macro_rules | `(tactic| fail "O") => `(tactic| refine Exists.intro _ (Exists.intro _ (And.intro rfl ?_)))
local macro_rules | `(tactic| fail "O") => `(tactic| refine And.intro (by (simp only [List.length_cons, List.length_nil]; decide)) ?_)
local macro_rules | `(tactic| fail "O") => `(tactic| refine Exists.intro _ (And.intro rfl ?_))
/-- a pool's place in Rat -/
abbrev PQ : Type := Rat × Rat
abbrev plL (p : PQ) : Rat := p.1 - p.2 / r2
abbrev plR (p : PQ) : Rat := p.1 + p.2 / r2
/-- the first pool that is not right of the one before it -/
def badFrom (n : Nat) (prev : PQ) : List PQ → Option Nat
  | [] => none
  | p :: ps => if plL p ≤ plR prev then some n else badFrom (n + 1) p ps
def bad : List PQ → Option Nat
  | [] => none
  | p :: ps => badFrom 1 p ps
def enumF : Nat → List D → List D
  | _, [] => []
  | n, d :: ds => .tup [.int (n : Nat), d] :: enumF (n + 1) ds
theorem enumF_eq : ∀ (ds : List D) (n : Nat), (ds.mapIdx fun i d => D.tup [.int ((i + n : Nat) : Int), d]) = enumF n ds
  | [], _ => rfl
  | d :: ds, n => by
    rw [List.mapIdx_cons]
    simp only [enumF]
    rw [← enumF_eq ds (n + 1)]
    congr 1
    · rw [Nat.zero_add]
    · congr 1
      funext i d
      rw [show i + 1 + n = i + (n + 1) by omega]
theorem atI_nat {ds : List D} {i : Nat} {d : D} (h : ds[i]? = some d) : atI ds (i : Int) = some d := by
  have hl := (List.getElem?_eq_some_iff.mp h).1
  have e : ixN ds.length (i : Int) = some i := by simp [ixN]; omega
  simp [atI, e, h]
theorem enumD_eq (ds : List D) : enumD ds = enumF 0 ds := enumF_eq ds 0
section
variable {P : Program} {w : World} {K : PySem.W.Frag} {mg : Str → Option Value} {base : Heap} (T : Tx K mg)
abbrev Tx.plq (T : Tx K mg) (p : PQ) : D := T.pl p.1 p.2
theorem pls_los {b : Nat} : ∀ ps : List PQ, D.los b (ps.map T.plq) = true
  | [] => by simp only [List.map_nil, D.los]
  | p :: ps => by
    simp only [List.map_cons, D.los, pls_los ps, Bool.and_true]
    rfl
theorem err_Touching : ErrC P w K mg base T.C_Touching ["index"] :=
  ⟨T.oex_Touching, _, _, _, _, T.i_Touching, T.t_Touching, fn_I1 (f := "index") (FunD.plain T.F_Touching_init) sc_Touching_init T.oex_Touching T.na_Touching_index (fun cdv A outer s H E => pss_cons (ps_expr (pe_upinit rfl T.g_PoolError T.up_PoolError (pa_cons (pv 0) pa_nil))) (pss_one (ps_ost (pv 0) (pv 1)))), T.b_Touching_init, .inl ⟨_, rfl, rfl⟩⟩
/-- a water -/
def wtD (C : Addr) (ds : List D) : D := .obj C ["rows"] [.tup ds]
abbrev Tx.wt (T : Tx K mg) (ps : List PQ) : D := wtD T.C_Water (ps.map T.plq)
theorem wt_lo {b : Nat} (ps : List PQ) : D.lo b (T.wt ps) = true := by
  simp only [Tx.wt, wtD, D.lo, D.los, pls_los, Bool.and_self]
theorem sp_Water_init {μ : List M} {d : D} {ps : List PQ} {Q : KV} {Z : KX} (hd : Sqd (μ ++ [.ins T.C_Water [] []]) d (ps.map T.plq)) (hf : ∀ p ∈ ps, Fit 600 p.1 ∧ Fit 600 p.2) (h : bad ps = none → Q (T.wt ps) μ) (hx : ∀ n, bad ps = some n → Z T.C_Touching ["index"] [.int (n : Nat)] μ) :
    SpF P w K mg base T.f_Water_init [.loc μ.length, d] (μ ++ [.ins T.C_Water [] []]) (MadeOk μ T.C_Water Q) (fun C' ns ds' μ' => MadeX μ Z C' ns ds' μ') := by
  refine spX_of T.F_Water_init sc_Water_init ck_Water_init rfl ?_
  walk_at "start"
  rw [List.append_nil]
  refine wSs_cons (wS_fld ?_)
  walk_at "e"
  refine wF_tup hd ?_
  walk_at "e"
  refine ⟨_, _, _, _, rfl, at_last, ⟨T.own_Water.cl, T.na_Water_rows, by decide⟩, ?_⟩
  rw [set_last]
  have em : M.ins T.C_Water (putN "rows" []) (putD "rows" (.tup (ps.map T.plq)) [] []) = .ins T.C_Water ["rows"] [.tup (ps.map T.plq)] := rfl
  rw [em]
  refine wSs_cons (wS_for g.po g.calm (wI_enumT T.n_enumerate ?_))
  refine wA_cons (wE_fld ?_ T.own_Water.cl T.na_Water_rows)
  walk_at "e"
  refine ⟨_, _, .inr ⟨_, rfl, at_last⟩, _, rfl, ?_⟩
  refine wA_nil ⟨_, rfl, ?_⟩
  rw [enumD_eq]
  refine wFor_inv (fun ds ρ μ' => ∃ done rest : List PQ, ps = done ++ rest ∧ ds = enumF done.length (rest.map T.plq) ∧ ((done = []) ∨ ∃ done' prev, done = done' ++ [prev] ∧ bad ps = badFrom done.length prev rest) ∧ μ ++ [.ins T.C_Water ["rows"] [.tup (ps.map T.plq)]] = μ' ∧ ∃ o2 o3, ρ = [some (.loc μ.length), some d, o2, o3]) ?_ ?_ _ _ _ ⟨[], ps, rfl, rfl, .inl rfl, rfl, _, _, rfl⟩
  · rintro d0 ds ρ _ ⟨done, rest, ep, ed, hb, rfl, o2, o3, rfl⟩
    cases rest with
    | nil => cases ed
    | cons p rest =>
    obtain ⟨rfl, rfl⟩ := List.cons.inj ed
    walk_at "e"
    walk_at "s1"
    rcases hb with rfl | ⟨done', prev, rfl, hb⟩
    · refine br_F rfl (wSs_nil (wSs_nil ⟨[p], rest, ep, rfl, .inr ⟨[], p, rfl, ?_⟩, rfl, _, _, rfl⟩))
      rw [ep]
      rfl
    · have fp := hf p (by rw [ep]; simp)
      have fq := hf prev (by rw [ep]; simp)
      obtain ⟨f1, f2⟩ := fp
      obtain ⟨f3, f4⟩ := fq
      refine br_T (by simp) ?_
      walk_at "e"
      refine wE_fld ?_ T.own_Water.cl T.na_Water_rows
      walk_at "e"
      refine ⟨_, _, .inr ⟨_, rfl, at_last⟩, _, rfl, ?_⟩
      walk_at "e"
      refine wX_at (d := T.plq prev) (.inl rfl) ?_ ?_
      · rw [ep]
        have e1 : (((done' ++ [prev]).length : Nat) : Int) - 1 = (done'.length : Nat) := by simp
        rw [e1]
        exact atI_nat (by simp)
      walk_at "e"
      have hbf : badFrom (done' ++ [prev]).length prev (p :: rest) = if plL p ≤ plR prev then some (done' ++ [prev]).length else badFrom ((done' ++ [prev]).length + 1) p rest := rfl
      refine br_dec (fun hl => ?_) (fun hl => ?_)
      · rw [hbf, if_pos hl] at hb
        refine wSs_cons (wS_raise g (by walk_at "in") (err_Touching T) T.g_Touching ?_)
        walk_at "e"
        exact ⟨rfl, .same (.mk (.refl _) rfl (hx _ hb))⟩
      · rw [hbf, if_neg hl] at hb
        refine wSs_nil (wSs_nil ⟨done' ++ [prev] ++ [p], rest, by rw [ep]; simp, by simp, .inr ⟨done' ++ [prev], p, rfl, ?_⟩, rfl, _, _, rfl⟩)
        rw [hb]
        simp
  · rintro ρ _ ⟨done, rest, ep, ed, hb, rfl, o2, o3, rfl⟩
    cases rest with
    | cons p rest => cases ed
    | nil =>
    have hn : bad ps = none := by
      rcases hb with rfl | ⟨done', prev, rfl, hb⟩
      · rw [ep]; rfl
      · rw [hb]; rfl
    walk_at "wp"
    exact .same (.obj (.refl _) (by first | rfl | simp only [D.los, D.lo, pls_los, Bool.and_self]) (by first | rfl | simp only [D.los, D.lo, pls_los, Bool.and_self]) (h hn))
def R_wlen (T : Tx K mg) : Rl := fun ds μ o => ∃ ps : List PQ, ds = [T.wt ps] ∧ ps.length ≤ 1000000 ∧ o = .ret (.int (ps.length : Nat)) μ
end
section
variable {X : Cx} {W : WX} {k : Nat} {ρ : Env'} {μ : List M} {d : D} {a b : Expr} {pos : Pos} {ps : List PQ} {Q : KV} {Z : KX}
/-- Water(..) -/
theorem wF_Water (T : Tx X.K X.mg) (g : Gd X W k) (hd : Sqd μ d (ps.map T.plq)) (hf : ∀ p ∈ ps, Fit 600 p.1 ∧ Fit 600 p.2) (h : bad ps = none → Q (T.wt ps) μ) (hx : ∀ n, bad ps = some n → Z T.C_Touching ["index"] [.int (n : Nat)] μ) (hk : 45 ≤ k := by decide) : wF X W (fun us => call (.ref T.C_Water) us) [d] μ Q Z := by
  obtain ⟨its, hv, hb⟩ := T.b_Water_init
  have e : its = [] := by cases hv; rfl
  subst e
  refine wF_make (f := T.f_Water_init) (dvs := []) (dds := []) T.mk_Water hb .nil (fun _ _ => Reps.nil) g hk (sp_Water_init T ?_ hf h hx)
  rcases hd with rfl | rfl | ⟨n, rfl, hn⟩
  · exact .inl rfl
  · exact .inr (.inl rfl)
  · exact .inr (.inr ⟨n, rfl, at_left hn⟩)
/-- Water() -/
theorem wF_Water0 (T : Tx X.K X.mg) (g : Gd X W k) (h : Q (T.wt []) μ) (hk : 45 ≤ k := by decide) : wF X W (fun us => call (.ref T.C_Water) us) [] μ Q Z := by
  obtain ⟨its, hv, hb⟩ := T.b_Water_init_1
  obtain ⟨o, n, h1, h2, h3⟩ := T.T0_Water_init
  refine wF_make (f := T.f_Water_init) (dvs := [.ref T.t0_Water_init]) (dds := [.tup []]) T.mk_Water hb hv (fun L G => Reps.cons (rep_tup.mpr ⟨_, [], rfl, .inr ⟨o, #[], n, h1, h2, h3, Nat.zero_le _, .nil⟩, Reps.nil⟩) Reps.nil) g hk (sp_Water_init T (ps := []) (.inr (.inl rfl)) (fun p hp => by cases hp) (fun _ => h) (fun n hn => by cases hn))
end
end


section
set_option hygiene false
local macro_rules | `(tactic| fail "B") => `(tactic| ((with_reducible refine chkCmL .LtE ?_); refine wE_leL T g.toGd ?_; refine Exists.intro _ (And.intro (by (first | exact Num.rt _ | exact Num.int _ | assumption)) (And.intro (And.intro (by (first | with_reducible assumption | exact Fit.mono (by (repeat' (first | with_reducible assumption | with_reducible exact fit_two | with_reducible apply fit_add | with_reducible apply fit_sub | with_reducible apply fit_mul | with_reducible apply fit_half | with_reducible apply fit_rabs | with_reducible apply fit_neg))) (by decide) | exact Fit.mono (n := 64) (fit_int (by omega) (by decide)) (by decide))) (by (first | with_reducible assumption | exact Fit.mono (by (repeat' (first | with_reducible assumption | with_reducible exact fit_two | with_reducible apply fit_add | with_reducible apply fit_sub | with_reducible apply fit_mul | with_reducible apply fit_half | with_reducible apply fit_rabs | with_reducible apply fit_neg))) (by decide) | exact Fit.mono (n := 64) (fit_int (by omega) (by decide)) (by decide)))) ?_))))
local macro_rules | `(tactic| fail "B") => `(tactic| ((with_reducible refine chkCm .NotEq ?_); refine wE_neR T g.toGd ?_; refine Exists.intro _ (And.intro (by (first | exact Num.rt _ | exact Num.int _ | assumption)) ?_)))
local macro_rules | `(tactic| fail "B") => `(tactic| ((with_reducible refine chkCm .Eq ?_); refine wE_eqR T g.toGd ?_; refine Exists.intro _ (And.intro (by (first | exact Num.rt _ | exact Num.int _ | assumption)) ?_)))
local macro_rules | `(tactic| fail "B") => `(tactic| ((with_reducible refine chkCm .GtE ?_); refine wE_geR T g.toGd ?_; refine Exists.intro _ (And.intro (by (first | exact Num.rt _ | exact Num.int _ | assumption)) (And.intro (And.intro (by (first | with_reducible assumption | exact Fit.mono (by (repeat' (first | with_reducible assumption | with_reducible exact fit_two | with_reducible apply fit_add | with_reducible apply fit_sub | with_reducible apply fit_mul | with_reducible apply fit_half | with_reducible apply fit_rabs | with_reducible apply fit_neg))) (by decide) | exact Fit.mono (n := 64) (fit_int (by omega) (by decide)) (by decide))) (by (first | with_reducible assumption | exact Fit.mono (by (repeat' (first | with_reducible assumption | with_reducible exact fit_two | with_reducible apply fit_add | with_reducible apply fit_sub | with_reducible apply fit_mul | with_reducible apply fit_half | with_reducible apply fit_rabs | with_reducible apply fit_neg))) (by decide) | exact Fit.mono (n := 64) (fit_int (by omega) (by decide)) (by decide)))) ?_))))
local macro_rules | `(tactic| fail "B") => `(tactic| ((with_reducible refine chkCm .Gt ?_); refine wE_gtR T g.toGd ?_; refine Exists.intro _ (And.intro (by (first | exact Num.rt _ | exact Num.int _ | assumption)) (And.intro (And.intro (by (first | with_reducible assumption | exact Fit.mono (by (repeat' (first | with_reducible assumption | with_reducible exact fit_two | with_reducible apply fit_add | with_reducible apply fit_sub | with_reducible apply fit_mul | with_reducible apply fit_half | with_reducible apply fit_rabs | with_reducible apply fit_neg))) (by decide) | exact Fit.mono (n := 64) (fit_int (by omega) (by decide)) (by decide))) (by (first | with_reducible assumption | exact Fit.mono (by (repeat' (first | with_reducible assumption | with_reducible exact fit_two | with_reducible apply fit_add | with_reducible apply fit_sub | with_reducible apply fit_mul | with_reducible apply fit_half | with_reducible apply fit_rabs | with_reducible apply fit_neg))) (by decide) | exact Fit.mono (n := 64) (fit_int (by omega) (by decide)) (by decide)))) ?_))))
local macro_rules | `(tactic| fail "B") => `(tactic| ((with_reducible refine chkCm .Lt ?_); refine wE_ltR T g.toGd ?_; refine Exists.intro _ (And.intro (by (first | exact Num.rt _ | exact Num.int _ | assumption)) (And.intro (And.intro (by (first | with_reducible assumption | exact Fit.mono (by (repeat' (first | with_reducible assumption | with_reducible exact fit_two | with_reducible apply fit_add | with_reducible apply fit_sub | with_reducible apply fit_mul | with_reducible apply fit_half | with_reducible apply fit_rabs | with_reducible apply fit_neg))) (by decide) | exact Fit.mono (n := 64) (fit_int (by omega) (by decide)) (by decide))) (by (first | with_reducible assumption | exact Fit.mono (by (repeat' (first | with_reducible assumption | with_reducible exact fit_two | with_reducible apply fit_add | with_reducible apply fit_sub | with_reducible apply fit_mul | with_reducible apply fit_half | with_reducible apply fit_rabs | with_reducible apply fit_neg))) (by decide) | exact Fit.mono (n := 64) (fit_int (by omega) (by decide)) (by decide)))) ?_))))
local macro_rules | `(tactic| fail "B") => `(tactic| ((with_reducible refine chkCm .LtE ?_); refine wE_leR T g.toGd ?_; refine Exists.intro _ (And.intro (by (first | exact Num.rt _ | exact Num.int _ | assumption)) (And.intro (And.intro (by (first | with_reducible assumption | exact Fit.mono (by (repeat' (first | with_reducible assumption | with_reducible exact fit_two | with_reducible apply fit_add | with_reducible apply fit_sub | with_reducible apply fit_mul | with_reducible apply fit_half | with_reducible apply fit_rabs | with_reducible apply fit_neg))) (by decide) | exact Fit.mono (n := 64) (fit_int (by omega) (by decide)) (by decide))) (by (first | with_reducible assumption | exact Fit.mono (by (repeat' (first | with_reducible assumption | with_reducible exact fit_two | with_reducible apply fit_add | with_reducible apply fit_sub | with_reducible apply fit_mul | with_reducible apply fit_half | with_reducible apply fit_rabs | with_reducible apply fit_neg))) (by decide) | exact Fit.mono (n := 64) (fit_int (by omega) (by decide)) (by decide)))) ?_))))
local macro_rules | `(tactic| fail "B") => `(tactic| ((with_reducible refine chkMul ?_); refine wE_mulRt T g.toGd ?_; refine Exists.intro _ (And.intro (by (first | exact Num.rt _ | exact Num.int _ | assumption)) (And.intro (And.intro (by (first | with_reducible assumption | exact Fit.mono (by (repeat' (first | with_reducible assumption | with_reducible exact fit_two | with_reducible apply fit_add | with_reducible apply fit_sub | with_reducible apply fit_mul | with_reducible apply fit_half | with_reducible apply fit_rabs | with_reducible apply fit_neg))) (by decide) | exact Fit.mono (n := 64) (fit_int (by omega) (by decide)) (by decide))) (by (first | with_reducible assumption | exact Fit.mono (by (repeat' (first | with_reducible assumption | with_reducible exact fit_two | with_reducible apply fit_add | with_reducible apply fit_sub | with_reducible apply fit_mul | with_reducible apply fit_half | with_reducible apply fit_rabs | with_reducible apply fit_neg))) (by decide) | exact Fit.mono (n := 64) (fit_int (by omega) (by decide)) (by decide)))) ?_))))
local macro_rules | `(tactic| fail "B") => `(tactic| ((with_reducible refine chkSub ?_); refine wE_subR T g.toGd ?_; refine Exists.intro _ (And.intro (by (first | exact Num.rt _ | exact Num.int _ | assumption)) (And.intro (And.intro (by (first | with_reducible assumption | exact Fit.mono (by (repeat' (first | with_reducible assumption | with_reducible exact fit_two | with_reducible apply fit_add | with_reducible apply fit_sub | with_reducible apply fit_mul | with_reducible apply fit_half | with_reducible apply fit_rabs | with_reducible apply fit_neg))) (by decide) | exact Fit.mono (n := 64) (fit_int (by omega) (by decide)) (by decide))) (by (first | with_reducible assumption | exact Fit.mono (by (repeat' (first | with_reducible assumption | with_reducible exact fit_two | with_reducible apply fit_add | with_reducible apply fit_sub | with_reducible apply fit_mul | with_reducible apply fit_half | with_reducible apply fit_rabs | with_reducible apply fit_neg))) (by decide) | exact Fit.mono (n := 64) (fit_int (by omega) (by decide)) (by decide)))) ?_))))
local macro_rules | `(tactic| fail "B") => `(tactic| ((with_reducible refine chkAdd ?_); refine wE_addR T g.toGd ?_; refine Exists.intro _ (And.intro (by (first | exact Num.rt _ | exact Num.int _ | assumption)) (And.intro (And.intro (by (first | with_reducible assumption | exact Fit.mono (by (repeat' (first | with_reducible assumption | with_reducible exact fit_two | with_reducible apply fit_add | with_reducible apply fit_sub | with_reducible apply fit_mul | with_reducible apply fit_half | with_reducible apply fit_rabs | with_reducible apply fit_neg))) (by decide) | exact Fit.mono (n := 64) (fit_int (by omega) (by decide)) (by decide))) (by (first | with_reducible assumption | exact Fit.mono (by (repeat' (first | with_reducible assumption | with_reducible exact fit_two | with_reducible apply fit_add | with_reducible apply fit_sub | with_reducible apply fit_mul | with_reducible apply fit_half | with_reducible apply fit_rabs | with_reducible apply fit_neg))) (by decide) | exact Fit.mono (n := 64) (fit_int (by omega) (by decide)) (by decide)))) ?_))))
local macro_rules | `(tactic| fail "F") => `(tactic| ((with_reducible refine chkB "abs" ?_); refine wF_absR T g.toGd ?qf ?_; (case qf => (first | with_reducible assumption | exact Fit.mono (by (repeat' (first | with_reducible assumption | with_reducible exact fit_two | with_reducible apply fit_add | with_reducible apply fit_sub | with_reducible apply fit_mul | with_reducible apply fit_half | with_reducible apply fit_rabs | with_reducible apply fit_neg))) (by decide) | exact Fit.mono (n := 64) (fit_int (by omega) (by decide)) (by decide)))))
local macro_rules | `(tactic| fail "F") => `(tactic| with_reducible refine wF_R1 T g.toGd ?_)
local macro_rules | `(tactic| fail "F") => `(tactic| ((with_reducible refine wF_R2 T g.toGd ?qc1 ?qc2 ?_); (case qc1 => (first | with_reducible assumption | omega)); (case qc2 => exact lt_pow_mono (n := 64) (by (first | with_reducible assumption | omega)) (by decide))))
local macro_rules | `(tactic| fail "F") => `(tactic| with_reducible refine wF_isBB ?_)
local macro_rules | `(tactic| fail "F") => `(tactic| with_reducible refine wF_isIB ?_)
local macro_rules | `(tactic| fail "F") => `(tactic| with_reducible refine wF_isII ?_)
local macro_rules | `(tactic| fail "F") => `(tactic| ((with_reducible refine wF_isRt ?qc ?_); (case qc => exact T.own_Ratio)))
local macro_rules | `(tactic| fail "U") => `(tactic| ((with_reducible refine chkNg ?_); refine wU_negR T g.toGd ?qf ?_; (case qf => (first | with_reducible assumption | exact Fit.mono (by (repeat' (first | with_reducible assumption | with_reducible exact fit_two | with_reducible apply fit_add | with_reducible apply fit_sub | with_reducible apply fit_mul | with_reducible apply fit_half | with_reducible apply fit_rabs | with_reducible apply fit_neg))) (by decide) | exact Fit.mono (n := 64) (fit_int (by omega) (by decide)) (by decide)))))
local macro_rules | `(tactic| fail "c") => `(tactic| ((with_reducible refine chkC "Water" ?_); refine xE_make gn ?qa T.g_Water T.mk_Water.kp ?_; (case qa => (repeat (first | with_reducible exact In.z | with_reducible apply In.s)))))
local macro_rules | `(tactic| fail "c") => `(tactic| ((with_reducible refine chkC "Pool" ?_); refine xE_make gn ?qa T.g_Pool T.mk_Pool.kp ?_; (case qa => (repeat (first | with_reducible exact In.z | with_reducible apply In.s)))))
local macro_rules | `(tactic| fail "c") => `(tactic| ((with_reducible refine chkC "Ratio" ?_); refine xE_make gn ?qa T.g_Ratio T.mk_Ratio.kp ?_; (case qa => (repeat (first | with_reducible exact In.z | with_reducible apply In.s)))))
local macro_rules | `(tactic| fail "c") => `(tactic| ((with_reducible refine chkC "run_together" ?_); refine xE_call T.f_run_together g ?qa T.g_run_together T.F_run_together.kp T.b_run_together ?_; (case qa => (repeat (first | with_reducible exact In.z | with_reducible apply In.s)))))
local macro_rules | `(tactic| fail "c") => `(tactic| ((with_reducible refine chkC "add_pool" ?_); refine xE_call T.f_add_pool g ?qa T.g_add_pool T.F_add_pool.kp T.b_add_pool ?_; (case qa => (repeat (first | with_reducible exact In.z | with_reducible apply In.s)))))
local macro_rules | `(tactic| fail "c") => `(tactic| ((with_reducible refine chkC "insert_pool" ?_); refine xE_call T.f_insert_pool g ?qa T.g_insert_pool T.F_insert_pool.kp T.b_insert_pool ?_; (case qa => (repeat (first | with_reducible exact In.z | with_reducible apply In.s)))))
local macro_rules | `(tactic| fail "n") => `(tactic| ((with_reducible refine chkN "Water" ?_); refine xE_cls gn ?qa T.g_Water ?_; (case qa => (repeat (first | with_reducible exact In.z | with_reducible apply In.s)))))
local macro_rules | `(tactic| fail "n") => `(tactic| ((with_reducible refine chkN "Pool" ?_); refine xE_cls gn ?qa T.g_Pool ?_; (case qa => (repeat (first | with_reducible exact In.z | with_reducible apply In.s)))))
local macro_rules | `(tactic| fail "n") => `(tactic| ((with_reducible refine chkN "Ratio" ?_); refine xE_cls gn ?qa T.g_Ratio ?_; (case qa => (repeat (first | with_reducible exact In.z | with_reducible apply In.s)))))
local macro_rules | `(tactic| fail "n") => `(tactic| ((with_reducible refine chkN "UnknownIndex" ?_); refine xE_cls gn ?qa T.g_UnknownIndex ?_; (case qa => (repeat (first | with_reducible exact In.z | with_reducible apply In.s)))))
local macro_rules | `(tactic| fail "n") => `(tactic| ((with_reducible refine chkN "Touching" ?_); refine xE_cls gn ?qa T.g_Touching ?_; (case qa => (repeat (first | with_reducible exact In.z | with_reducible apply In.s)))))
local macro_rules | `(tactic| fail "n") => `(tactic| ((with_reducible refine chkN "InvalidNumber" ?_); refine xE_cls gn ?qa T.g_InvalidNumber ?_; (case qa => (repeat (first | with_reducible exact In.z | with_reducible apply In.s)))))
local macro_rules | `(tactic| fail "n") => `(tactic| ((with_reducible refine chkN "PoolError" ?_); refine xE_cls gn ?qa T.g_PoolError ?_; (case qa => (repeat (first | with_reducible exact In.z | with_reducible apply In.s)))))
local macro_rules | `(tactic| fail "a") => `(tactic| ((with_reducible refine chkA "right" ?_); refine wE_right T g.toGd ?_))
local macro_rules | `(tactic| fail "a") => `(tactic| ((with_reducible refine chkA "left" ?_); refine wE_left T g.toGd ?_))
local macro_rules | `(tactic| fail "a") => `(tactic| ((with_reducible refine chkA "volume" ?_); refine wE_vol T g.toGd ?_))
local macro_rules | `(tactic| fail "a") => `(tactic| ((with_reducible refine chkA "middle" ?_); refine wE_mid T g.toGd ?_))
local macro_rules | `(tactic| fail "a") => `(tactic| ((with_reducible refine chkA "amount" ?_); refine wE_amt T ?_))
local macro_rules | `(tactic| fail "a") => `(tactic| ((with_reducible refine chkA "center" ?_); refine wE_cen T ?_))
local macro_rules | `(tactic| fail "a") => `(tactic| ((with_reducible refine chkA "bottom" ?_); refine wE_bot T ?_))
local macro_rules | `(tactic| fail "a") => `(tactic| ((with_reducible refine chkA "top" ?_); refine wE_top T ?_))
local macro_rules | `(tactic| fail "m") => `(tactic| ((with_reducible refine chkM "over" ?_); refine wE_over T g.toGd ?_))
local macro_rules | `(tactic| fail "O") => `(tactic| refine And.intro (And.intro (by (first | with_reducible assumption | exact Fit.mono (by (repeat' (first | with_reducible assumption | with_reducible exact fit_two | with_reducible apply fit_add | with_reducible apply fit_sub | with_reducible apply fit_mul | with_reducible apply fit_half | with_reducible apply fit_rabs | with_reducible apply fit_neg))) (by decide) | exact Fit.mono (n := 64) (fit_int (by omega) (by decide)) (by decide))) (by (first | with_reducible assumption | exact Fit.mono (by (repeat' (first | with_reducible assumption | with_reducible exact fit_two | with_reducible apply fit_add | with_reducible apply fit_sub | with_reducible apply fit_mul | with_reducible apply fit_half | with_reducible apply fit_rabs | with_reducible apply fit_neg))) (by decide) | exact Fit.mono (n := 64) (fit_int (by omega) (by decide)) (by decide)))) ?_)
local macro_rules | `(tactic| fail "O") => `(tactic| refine Exists.intro _ (And.intro (by (first | exact Num.rt _ | exact Num.int _ | assumption)) (And.intro (And.intro (by (first | with_reducible assumption | exact Fit.mono (by (repeat' (first | with_reducible assumption | with_reducible exact fit_two | with_reducible apply fit_add | with_reducible apply fit_sub | with_reducible apply fit_mul | with_reducible apply fit_half | with_reducible apply fit_rabs | with_reducible apply fit_neg))) (by decide) | exact Fit.mono (n := 64) (fit_int (by omega) (by decide)) (by decide))) (And.intro (by (first | with_reducible assumption | exact Fit.mono (by (repeat' (first | with_reducible assumption | with_reducible exact fit_two | with_reducible apply fit_add | with_reducible apply fit_sub | with_reducible apply fit_mul | with_reducible apply fit_half | with_reducible apply fit_rabs | with_reducible apply fit_neg))) (by decide) | exact Fit.mono (n := 64) (fit_int (by omega) (by decide)) (by decide))) (by decide))) ?_)))
local macro_rules | `(tactic| fail "O") => `(tactic| refine Exists.intro _ (Exists.intro _ (Exists.intro _ (Exists.intro _ (And.intro rfl (And.intro rfl (And.intro (by (first | assumption | with_reducible exact at_last | with_reducible exact at_new rfl | with_reducible exact at_left (by assumption) | with_reducible exact List.getElem?_set_self (by assumption) | with_reducible exact at_left (at_left (by assumption)))) (And.intro rfl ?_))))))))
local macro_rules | `(tactic| fail "O") => `(tactic| refine Exists.intro _ (Exists.intro _ (Exists.intro _ (And.intro rfl ?_))))
local macro_rules | `(tactic| fail "O") => `(tactic| refine Exists.intro _ (Exists.intro _ (And.intro rfl ?_)))
local macro_rules | `(tactic| fail "O") => `(tactic| refine And.intro (by (simp only [List.length_cons, List.length_nil]; decide)) ?_)
local macro_rules | `(tactic| fail "O") => `(tactic| refine Exists.intro _ (And.intro rfl ?_))
/-- a pool told by moment and volume -/
abbrev mq (u : Int) (q : P2) : PQ := (Rat.divInt q.1 (q.2 * u), Rat.divInt q.2 u)
theorem rabs_divInt {t u : Int} (hu : 0 < u) : rabs (Rat.divInt t u) = Rat.divInt (t.natAbs : Int) u := by
  unfold rabs
  have e : Rat.divInt t u < 0 ↔ t < 0 := by
    have h := divInt_le (a := 0) (b := t) hu
    rw [Rat.zero_divInt] at h
    rw [← Rat.not_le, h]
    omega
  by_cases h : t < 0
  · rw [if_pos (e.mpr h), Rat.neg_divInt]
    congr 1
    omega
  · rw [if_neg (fun z => h (e.mp z))]
    congr 1
    omega
theorem gap_tou {u : Int} {a b : P2} (hu : 0 < u) (ha : 0 < a.2) (hb : 0 < b.2) : gapV (mq u a).1 (mq u a).2 (mq u b).1 (mq u b).2 ≤ 0 ↔ Tou a b := by
  have h0 : 0 < b.2 * a.2 * u := Int.mul_pos (Int.mul_pos hb ha) hu
  unfold gapV
  rw [show (mq u a).1 - (mq u b).1 = _ from q_dif (m := b.1) (v := b.2) (m' := a.1) (v' := a.2) hu hb ha, rabs_divInt h0, show ((mq u a).2 + (mq u b).2) / r2 = _ from q_wid hu]
  have e : ∀ x y : Rat, x - y ≤ 0 ↔ x ≤ y := fun x y => by constructor <;> intro h <;> grind
  rw [e, div_le h0 (by omega)]
  unfold Tou crs wid
  have k : ∀ n : Int, n * (2 * u) = u * (2 * n) := fun n => by grind
  have l : (a.2 + b.2) * (b.2 * a.2 * u) = u * (a.2 * b.2 * (a.2 + b.2)) := by grind
  rw [k, l]
  have m : u * (2 * ((a.1 * b.2 - b.1 * a.2).natAbs : Int)) ≤ u * (a.2 * b.2 * (a.2 + b.2)) ↔ 2 * ((a.1 * b.2 - b.1 * a.2).natAbs : Int) ≤ a.2 * b.2 * (a.2 + b.2) := ⟨fun h => Int.le_of_mul_le_mul_left h hu, fun h => Int.mul_le_mul_of_nonneg_left h (by omega)⟩
  rw [m]
  omega
theorem fit_mq {u : Int} {p : P2} (hu : 0 < u) (hu1 : u ≤ 1000000) (h : -(2 ^ 110) ≤ p.1 ∧ p.1 ≤ 2 ^ 110 ∧ 0 < p.2 ∧ p.2 ≤ 2 ^ 70) : Fit 120 (mq u p).1 ∧ Fit 120 (mq u p).2 := by
  obtain ⟨h1, h2, h3, h4⟩ := h
  have b0 : 0 < p.2 * u := Int.mul_pos h3 hu
  have b1 : p.2 * u ≤ 2 ^ 70 * 1000000 := Int.mul_le_mul h4 hu1 (by omega) (by omega)
  exact ⟨fit_divInt (n := 120) (by omega) (by omega) (by omega), fit_divInt (n := 120) (by omega) (by omega) (by omega)⟩
/-! ascending lists cut in two -/
theorem crs_anti (a b : P2) : crs b a = -crs a b := by unfold crs; omega
theorem wid_comm (a b : P2) : wid b a = wid a b := by unfold wid; grind
theorem crs_tr {p p' q : P2} (hp : 0 < p.2) (hp' : 0 < p'.2) (hq : 0 < q.2) (h1 : ¬ 0 < crs p q) (h2 : 0 < crs p p') : ¬ 0 < crs p' q := by
  unfold crs at *
  have a1 := Int.mul_le_mul_of_nonneg_left (show q.1 * p.2 ≤ p.1 * q.2 by omega) (show 0 ≤ p'.2 by omega)
  have a2 := Int.mul_le_mul_of_nonneg_left (show p.1 * p'.2 ≤ p'.1 * p.2 by omega) (show 0 ≤ q.2 by omega)
  have a3 : p.2 * (q.1 * p'.2) ≤ p.2 * (p'.1 * q.2) := by grind
  have := Int.le_of_mul_le_mul_left a3 hp
  omega
theorem cut_asc {q : P2} (hq : 0 < q.2) : ∀ {ys : List P2}, Psv ys → Asc ys → ∃ n, ys.filter (fun p => decide (0 < crs p q)) = ys.take n ∧ n = (ys.filter (fun p => decide (0 < crs p q))).length ∧ (∀ p ∈ ys.take n, 0 < crs p q) ∧ ∀ p ∈ ys.drop n, ¬ 0 < crs p q
  | [], _, _ => ⟨0, rfl, rfl, by simp, by simp⟩
  | y :: ys, hp, ha => by
    have hy := hp y (by simp)
    obtain ⟨a1, a2⟩ := List.pairwise_cons.mp ha
    by_cases h : 0 < crs y q
    · obtain ⟨n, e1, e2, e3, e4⟩ := cut_asc hq (ys := ys) (fun p h => hp p (by simp [h])) a2
      refine ⟨n + 1, ?_, ?_, ?_, ?_⟩
      · rw [List.filter_cons_of_pos (by simpa using h), e1, List.take_succ_cons]
      · rw [List.filter_cons_of_pos (by simpa using h), List.length_cons, ← e2]
      · intro p hpm
        rw [List.take_succ_cons] at hpm
        rcases List.mem_cons.mp hpm with rfl | hpm
        · exact h
        · exact e3 p hpm
      · intro p hpm
        rw [List.drop_succ_cons] at hpm
        exact e4 p hpm
    · have all : ∀ p ∈ y :: ys, ¬ 0 < crs p q := fun p hpm => by
        rcases List.mem_cons.mp hpm with rfl | hpm
        · exact h
        · exact crs_tr hy (hp p (by simp [hpm])) hq h ((a1 p hpm).pos hy (hp p (by simp [hpm])))
      have e : (y :: ys).filter (fun p => decide (0 < crs p q)) = [] := List.filter_eq_nil_iff.mpr fun p hpm => by simpa using all p hpm
      exact ⟨0, by rw [e]; rfl, by rw [e]; rfl, by simp, by simpa using all⟩
theorem ins_asc {q : P2} {ys : List P2} {n : Nat} (hq : 0 < q.2) (hp : Psv ys) (ha : Asc ys) (hn : ∀ p ∈ ys, ¬ Tou p q) (h1 : ∀ p ∈ ys.take n, 0 < crs p q) (h2 : ∀ p ∈ ys.drop n, ¬ 0 < crs p q) : Asc (ys.take n ++ [q] ++ ys.drop n) := by
  have hs : Asc (ys.take n ++ ys.drop n) := by rw [List.take_append_drop]; exact ha
  obtain ⟨b1, b2, b3⟩ := List.pairwise_append.mp hs
  have wp : ∀ p ∈ ys, 0 < wid p q := fun p hpm => Int.mul_pos (Int.mul_pos (hp p hpm) hq) (by have := hp p hpm; omega)
  have c1 : ∀ p ∈ ys.take n, Apt p q := fun p hpm => by
    have m := List.mem_of_mem_take hpm
    have z := hn p m
    have y := h1 p hpm
    have x := wp p m
    unfold Tou at z
    unfold Apt
    omega
  have c2 : ∀ p ∈ ys.drop n, Apt q p := fun p hpm => by
    have m := List.mem_of_mem_drop hpm
    have z := hn p m
    have y := h2 p hpm
    have x := wp p m
    unfold Tou at z
    unfold Apt
    rw [crs_anti p q, wid_comm p q]
    omega
  rw [List.append_assoc]
  refine List.pairwise_append.mpr ⟨b1, List.pairwise_cons.mpr ⟨c2, b2⟩, fun a ha' b hb' => ?_⟩
  rcases List.mem_cons.mp hb' with rfl | hb'
  · exact c1 a ha'
  · exact b3 a ha' b hb'
theorem asc_bad {u : Int} (hu : 0 < u) : ∀ {ys : List P2}, Psv ys → Asc ys → bad (ys.map (mq u)) = none := by
  have key : ∀ (ys : List P2) (n : Nat) (p : P2), Psv (p :: ys) → Asc (p :: ys) → badFrom n (mq u p) (ys.map (mq u)) = none := by
    intro ys
    induction ys with
    | nil => intro n p _ _; rfl
    | cons y ys ih =>
      intro n p hp ha
      obtain ⟨a1, a2⟩ := List.pairwise_cons.mp ha
      have h := a1 y (by simp)
      have e : ¬ plL (mq u y) ≤ plR (mq u p) := fun z => by
        have := (q_ends (m := p.1) (v := p.2) (m' := y.1) (v' := y.2) hu (hp p (by simp)) (hp y (by simp))).mp z
        unfold Apt crs wid at h
        omega
      show (if plL (mq u y) ≤ plR (mq u p) then some n else badFrom (n + 1) (mq u y) (ys.map (mq u))) = none
      rw [if_neg e]
      exact ih _ _ (fun q hq => hp q (by simp [hq])) a2
  intro ys hp ha
  cases ys with
  | nil => rfl
  | cons y ys => exact key ys 1 y hp ha
section
variable {P : Program} {w : World} {K : PySem.W.Frag} {mg : Str → Option Value} {base : Heap} (T : Tx K mg)
abbrev Tx.pm (T : Tx K mg) (u : Int) (p : P2) : D := T.plq (mq u p)
theorem pls_map_los {b : Nat} {u : Int} (zs : List P2) : D.los b (zs.map (T.pm u)) = true := by
  have := pls_los T (b := b) (zs.map (mq u))
  rw [List.map_map] at this
  exact this
theorem sp_insert {μ : List M} {d : D} {u : Int} {ys : List P2} {q : P2} {Q : KV} {Z : KX} (hu : 0 < u) (hu1 : u ≤ 1000000) (hl : ys.length ≤ 10000) (hd : Lqd μ d (ys.map (T.pm u))) (hb : Bnd (q :: ys)) (ha : Asc ys) (hn : ∀ p ∈ ys, ¬ Tou p q)
    (h : ∀ zs, Asc zs → zs.Perm (q :: ys) → Q (.lst (zs.map (T.pm u))) μ) : SpF P w K mg base T.f_insert_pool [d, T.pm u q] μ Q Z := by
  refine spX_of T.F_insert_pool sc_insert_pool ck_insert_pool rfl ?_
  walk_at "start"
  rw [List.append_nil]
  have hq := hb.head.2.2.1
  have hp : Psv ys := hb.tail.pos
  obtain ⟨n, e1, e2, e3, e4⟩ := cut_asc hq hp ha
  have sl := sl_big
  obtain ⟨fq1, fq2⟩ := fit_mq hu hu1 hb.head
  refine wSs_cons (wS_setLcS d (ys.map (T.pm u)) v_insert_pool_c0 g_insert_pool_c0 o_insert_pool_c0 (fun ds done μ' => ∃ zs ws : List P2, ys = zs ++ ws ∧ ds = ws.map (T.pm u) ∧ done = (zs.filter (fun p => decide (0 < crs p q))).map (T.pm u) ∧ μ = μ') g (by walk_at "il") (sc := defScope s_insert_pool) rfl (by decide +kernel) (show BlkOk n_insert_pool (defScope s_insert_pool) _ _ from ⟨rfl, by decide +kernel, by decide +kernel, by decide +kernel, by decide +kernel⟩) ?_ ?_ ?_ ?_)
  · walk_at "e"
    exact ⟨rfl, by rw [List.length_map]; omega, [], ys, rfl, rfl, rfl, rfl⟩
  · rintro ds done μ' ⟨_, _, _, _, _, rfl⟩
    exact hd
  · rintro d1 ds done μ' ⟨zs, ws, ey, ew, rfl, rfl⟩
    cases ws with
    | nil => cases ew
    | cons p ws =>
      obtain ⟨rfl, rfl⟩ := List.cons.inj ew
      have pm : p ∈ ys := by rw [ey]; simp
      have hpp := (hb.tail.mem pm).2.2.1
      obtain ⟨fp1, fp2⟩ := fit_mq hu hu1 (hb.tail.mem pm)
      have elt : (mq u p).1 < (mq u q).1 ↔ 0 < crs p q := q_lt hu hpp hq
      walk_at "blk"
      refine wGw_name gn (i := 3) (by walk_at "il") (by decide) ?_
      simp only [o_insert_pool_c0, List.map_cons, List.map_nil, wipeD, List.set_cons_succ, List.set_cons_zero]
      walk_at "e"
      walk_at "blk"
      refine wTs_one ?_
      walk_at "e"
      refine br_dec (fun h1 => ?_) (fun h1 => ?_)
      · have h2 := elt.mp h1
        walk_at "blk"
        walk_at "e"
        exact ⟨zs ++ [p], ws, by rw [ey]; simp, rfl, by simp [List.filter_append, h2], rfl⟩
      · have h2 : ¬ 0 < crs p q := fun z => h1 (elt.mpr z)
        exact ⟨zs ++ [p], ws, by rw [ey]; simp, rfl, by simp [List.filter_append, h2], rfl⟩
  rintro done μ' ⟨zs, ws, ey, ew, rfl, rfl⟩
  cases ws with
  | cons p ws => cases ew
  | nil =>
  rw [List.append_nil] at ey
  subst ey
  have nl : n ≤ ys.length := by rw [e2]; exact List.length_filter_le _ _
  have tl : (ys.take n).length = n := by rw [List.length_take]; omega
  rw [e1]
  walk_at "e"
  walk_at "s1"
  refine wB_catL (by simp only [List.length_map, List.length_cons, List.length_nil, tl]; omega) ?_
  refine wE_from ?_
  walk_at "e"
  refine ⟨_, _, rfl, hd, ?_⟩
  refine wB_catL (by simp only [List.length_append, List.length_drop, List.length_map, List.length_cons, List.length_nil, tl]; omega) ?_
  have e : (ys.take n).map (T.pm u) ++ [T.pm u q] ++ (ys.map (T.pm u)).drop ((ys.take n).map (T.pm u)).length = (ys.take n ++ [q] ++ ys.drop n).map (T.pm u) := by
    rw [List.length_map, tl]
    simp
  rw [e]
  refine .same (h _ (ins_asc hq hp ha hn e3 e4) ?_)
  rw [List.append_assoc]
  refine List.perm_middle.trans ?_
  show (q :: (ys.take n ++ ys.drop n)).Perm (q :: ys)
  rw [List.take_append_drop]
/-- one pool more -/
theorem sp_addp {μ : List M} {d : D} {u : Int} {ys : List P2} {q : P2} {Q : KV} {Z : KX} (hu : 0 < u) (hu1 : u ≤ 1000000) (hl : ys.length ≤ 10000) (hd : Lqd μ d (ys.map (T.pm u))) (hb : Bnd (q :: ys)) (ha : Asc ys)
    (h : ∀ zs, Asc zs → Runs (q :: ys) zs → Q (.lst (zs.map (T.pm u))) μ) : SpF P w K mg base T.f_add_pool [d, T.pm u q] μ Q Z := by
  refine spX_of T.F_add_pool sc_add_pool ck_add_pool rfl ?_
  walk_at "start"
  rw [List.append_nil]
  walk_at "s1"
  have sl := sl_big
  refine wSs_cons (wS_while (fun m ρ μ' => ∃ (ys' : List P2) (q' : P2) (gr : Bool) (d' : D) (ext : List M) (o3 o4 : Option D), ρ = [some d', some (T.pm u q'), some (.bl gr), o3, o4] ∧ μ' = μ ++ ext ∧ Lqd μ' d' (ys'.map (T.pm u)) ∧ ys'.length ≤ 10000 ∧ Asc ys' ∧ Runs (q :: ys) (q' :: ys') ∧ (gr = false → ∀ p ∈ ys', ¬ Tou p q') ∧ m = ys'.length * 2 + (if gr = true then 1 else 0)) g.po ⟨ys, q, true, d, [], _, _, rfl, (List.append_nil _).symm, hd, hl, ha, .refl (.refl _), (fun z => by cases z), rfl⟩ ?_)
  rintro m ρ μ' ⟨ys', q', gr, d', ext, o3, o4, rfl, rfl, hd', hl', ha', hr, hg, rfl⟩
  have hb' : Bnd (q' :: ys') := hb.runs hr
  walk_at "e"
  refine br_bool (fun h1 => ?_) (fun h1 => ?_)
  · subst h1
    walk_at "s1"
    refine wSs_cons (wS_set gn ⟨_, by walk_at "ix"⟩ (wE_lstL (wA_nil ⟨Nat.zero_le _, ?_⟩)))
    walk_at "e"
    refine wSs_cons (wS_forS d' (ys'.map (T.pm u)) (fun ds ρ μ2 => ∃ (ap rest : List P2) (q2 : P2) (gr2 : Bool) (o4 : Option D), ds = rest.map (T.pm u) ∧ ρ = [some d', some (T.pm u q2), some (.bl gr2), some (.loc (μ ++ ext).length), o4] ∧ μ2 = (μ ++ ext) ++ [.lst (ap.map (T.pm u))] ∧ (ap ++ rest).Sublist ys' ∧ Runs (q' :: ys') (q2 :: (ap ++ rest)) ∧ (gr2 = false → q2 = q' ∧ ap ++ rest = ys' ∧ ∀ p ∈ ap, ¬ Tou p q') ∧ (gr2 = true → (ap ++ rest).length < ys'.length)) g.po g.calm ?_ ?_ ?_ ?_)
    · walk_at "e"
      exact ⟨rfl, [], ys', q', false, _, rfl, rfl, rfl, List.Sublist.refl _, .refl (.refl _), fun _ => ⟨rfl, rfl, by simp⟩, fun z => by cases z⟩
    · rintro ds ρ _ ⟨ap, rest, q2, gr2, o4, _, _, rfl, _⟩
      rcases hd' with rfl | ⟨n, rfl, hn⟩
      · exact .inl rfl
      · exact .inr ⟨n, rfl, at_left hn⟩
    · rintro d1 ds ρ _ ⟨ap, rest, q2, gr2, o4, ew, rfl, rfl, hsub, hr2, hf, ht⟩
      cases rest with
      | nil => cases ew
      | cons p rest =>
      obtain ⟨rfl, rfl⟩ := List.cons.inj ew
      have hb2 : Bnd (q2 :: (ap ++ p :: rest)) := hb'.runs hr2
      have bp := hb2.tail.mem (p := p) (by simp)
      obtain ⟨fp1, fp2⟩ := fit_mq hu hu1 bp
      obtain ⟨fq1, fq2⟩ := fit_mq hu hu1 hb2.head
      have hpp := bp.2.2.1
      have hqq := hb2.head.2.2.1
      have sl2 := hsub.length_le
      rw [List.length_append, List.length_cons] at sl2
      walk_at "e"
      walk_at "s1"
      refine wE_meth ⟨T.a_Pool_touches, T.fd_Pool_touches, ["self", "other"], 41⟩ g.toGd T.own_Pool.cl T.m_Pool_touches T.b_Pool_touches ?_
      walk_at "e"
      refine ⟨.obj rfl, ?_⟩
      walk_at "e"
      refine sp_touches T (fp1.mono (by decide)) (fp2.mono (by decide)) (fq1.mono (by decide)) (fq2.mono (by decide)) ?_
      walk_at "e"
      refine br_dec (fun hg => ?_) (fun hg => ?_)
      · have hT : Tou p q2 := (gap_tou hu hpp hqq).mp hg
        walk_at "s1"
        refine wB_addP T g.toGd ⟨⟨fq1.mono (by decide), fq2.mono (by decide), fp1.mono (by decide), fp2.mono (by decide)⟩, ⟨divInt_pos hqq hu, divInt_pos hpp hu⟩, ?_⟩
        have em : ((mq u q2).1 * (mq u q2).2 + (mq u p).1 * (mq u p).2) / ((mq u q2).2 + (mq u p).2) = (mq u (mrg q2 p)).1 := q_mid hu hqq hpp
        have ev : (mq u q2).2 + (mq u p).2 = (mq u (mrg q2 p)).2 := pl_sum hu
        rw [em, ev]
        walk_at "e"
        walk_at "s1"
        refine ⟨ap, rest, mrg q2 p, true, _, rfl, rfl, rfl, (List.Sublist.append (List.Sublist.refl ap) (List.sublist_cons_self p rest)).trans hsub, hr2.trans (.step ⟨q2, p, ap ++ rest, List.perm_middle.cons q2, hT.symm, .refl _⟩ (.refl (.refl _))), (fun z => by cases z), fun _ => ?_⟩
        rw [List.length_append]
        omega
      · have hT : ¬ Tou p q2 := fun z => hg ((gap_tou hu hpp hqq).mpr z)
        refine wSs_cons (wS_expr (wE_append ?_))
        walk_at "e"
        refine ⟨⟨_, at_last⟩, ?_⟩
        walk_at "e"
        refine ⟨_, at_last, by rw [List.length_map]; omega, ?_⟩
        refine wSs_nil (wSs_nil ⟨ap ++ [p], rest, q2, gr2, _, rfl, rfl, by simp [set_last], by simpa using hsub, by simpa using hr2, fun z => ?_, fun z => by simpa using ht z⟩)
        obtain ⟨a1, a2, a3⟩ := hf z
        refine ⟨a1, by simpa using a2, fun x hx => ?_⟩
        rcases List.mem_append.mp hx with hx | hx
        · exact a3 x hx
        · rw [List.mem_singleton.mp hx, ← a1]
          exact hT
    · rintro ρ _ ⟨ap, rest, q2, gr2, o4, ew, rfl, rfl, hsub, hr2, hf, ht⟩
      cases rest with
      | cons p rest => cases ew
      | nil =>
      simp only [List.append_nil] at hsub hr2 hf ht
      have sl2 := hsub.length_le
      walk_at "s1"
      refine ⟨ap.length * 2 + (if gr2 = true then 1 else 0), ?_, ap, q2, gr2, _, ext ++ [.lst (ap.map (T.pm u))], _, _, rfl, by simp, .inr ⟨_, rfl, at_last⟩, by omega, List.Pairwise.sublist hsub ha', hr.trans hr2, fun z => ?_, rfl⟩
      · cases gr2 with
        | true => have := ht rfl; simp; omega
        | false => simp; omega
      · obtain ⟨a1, a2, a3⟩ := hf z
        rw [a1]
        exact a3
  · subst h1
    walk_at "s1"
    refine sp_insert T hu hu1 hl' hd' hb' ha' (hg rfl) fun zs hz1 hz2 => ?_
    exact RetOk.low (by simp only [D.lo]; exact pls_map_los T zs) (h zs hz1 (hr.trans (.refl hz2.symm)))
end


section
variable {P : Program} {w : World} {K : PySem.W.Frag} {mg : Str → Option Value} {base : Heap} (T : Tx K mg)
theorem Runs.len {xs ys : List P2} (h : Runs xs ys) : ys.length ≤ xs.length := by
  induction h with
  | refl p => exact Nat.le_of_eq p.length_eq.symm
  | step s _ ih => have := s.len; omega
theorem sp_runt {μ : List M} {d : D} {u : Int} {xs : List P2} {Q : KV} {Z : KX} (hu : 0 < u) (hu1 : u ≤ 1000000) (hl : xs.length ≤ 10000) (hd : Sqd μ d (xs.map (T.pm u))) (hb : Bnd xs)
    (h : ∀ zs, Asc zs → Runs xs zs → Q (.lst (zs.map (T.pm u))) μ) : SpF P w K mg base T.f_run_together [d] μ Q Z := by
  refine spX_of T.F_run_together sc_run_together ck_run_together rfl ?_
  walk_at "start"
  rw [List.append_nil]
  walk_at "s1"
  have hd2 : d = .tup (xs.map (T.pm u)) ∨ Lqd μ d (xs.map (T.pm u)) := by
    rcases hd with h | h | h
    · exact .inr (.inl h)
    · exact .inl h
    · exact .inr (.inr h)
  refine wSs_cons (wS_forQ d (xs.map (T.pm u)) (fun ds ρ μ' => ∃ done rest fs : List P2, xs = done ++ rest ∧ ds = rest.map (T.pm u) ∧ Asc fs ∧ Runs done fs ∧ μ = μ' ∧ ∃ o2, ρ = [some d, some (.lst (fs.map (T.pm u))), o2]) g.po g.calm ?_ ?_ ?_ ?_)
  · walk_at "e"
    exact ⟨rfl, [], xs, [], rfl, rfl, List.Pairwise.nil, .refl (.refl _), rfl, _, rfl⟩
  · rcases hd2 with h | h
    · exact .inl h
    · refine .inr ?_
      rintro ds ρ _ ⟨_, _, _, _, _, _, _, rfl, _⟩
      exact h
  · rintro d1 ds ρ _ ⟨done, rest, fs, ex, ed, ha, hr, rfl, o2, rfl⟩
    cases rest with
    | nil => cases ed
    | cons p rest =>
    obtain ⟨rfl, rfl⟩ := List.cons.inj ed
    have bd : Bnd (p :: done) := by
      have h1 : Bnd (done ++ [p] ++ rest) := by rw [ex] at hb; simpa using hb
      exact h1.left.perm List.perm_append_comm
    have bf : Bnd (p :: fs) := bd.runs hr.cons
    have fl : fs.length ≤ 10000 := by
      have h1 := hr.len
      have h2 := congrArg List.length ex
      simp at h2
      omega
    walk_at "e"
    walk_at "s1"
    refine sp_addp T hu hu1 fl (.inl rfl) bf ha fun zs hz1 hz2 => ?_
    walk_at "e"
    refine wSs_nil ⟨done ++ [p], rest, zs, by rw [ex]; simp, rfl, hz1, ?_, rfl, _, rfl⟩
    exact Runs.perm (hr.cons.trans hz2) List.perm_append_comm
  · rintro ρ _ ⟨done, rest, fs, ex, ed, ha, hr, rfl, o2, rfl⟩
    cases rest with
    | cons p rest => cases ed
    | nil =>
    rw [List.append_nil] at ex
    subst ex
    walk_at "wp"
    exact .same (h fs ha hr)
theorem sp_settled {μ : List M} {d : D} {u : Int} {xs : List P2} {Q : KV} {Z : KX} (hu : 0 < u) (hu1 : u ≤ 1000000) (hl : xs.length ≤ 10000) (hd : Sqd μ d (xs.map (T.pm u))) (hb : Bnd xs)
    (h : ∀ zs, Asc zs → Runs xs zs → Q (T.wt (zs.map (mq u))) μ) : SpF P w K mg base T.f_Water_settled [.ref T.C_Water, d] μ Q Z := by
  refine spX_of T.F_Water_settled sc_Water_settled ck_Water_settled rfl ?_
  walk_at "start"
  rw [List.append_nil]
  refine wSs_cons (wS_ret (wE_makeL gn T.mk_Water.kp ?_ ?_))
  · repeat (first | with_reducible exact Gt.z | with_reducible exact Gt.c | with_reducible apply Gt.s)
  walk_at "e"
  refine sp_runt T hu hu1 hl hd hb fun zs hz1 hz2 => ?_
  walk_at "e"
  have bz := hb.runs hz2
  have eb : bad (zs.map (mq u)) = none := asc_bad hu bz.pos hz1
  refine wF_Water (ps := zs.map (mq u)) T g.toGd (.inl (by simp only [List.map_map]; rfl)) (fun p hp => ?_) (fun _ => RetOk.same (h zs hz1 hz2)) (fun n hn => by rw [eb] at hn; cases hn)
  obtain ⟨q, hq, rfl⟩ := List.mem_map.mp hp
  obtain ⟨f1, f2⟩ := fit_mq hu hu1 (bz.mem hq)
  exact ⟨f1.mono (by decide), f2.mono (by decide)⟩
end
end


section
set_option hygiene false
local macro_rules | `(tactic| fail "B") => `(tactic| ((with_reducible refine chkCmL .LtE ?_); refine wE_leL T g.toGd ?_; refine Exists.intro _ (And.intro (by (first | exact Num.rt _ | exact Num.int _ | assumption)) (And.intro (And.intro (by (first | with_reducible assumption | exact Fit.mono (by (repeat' (first | with_reducible assumption | with_reducible exact fit_two | with_reducible apply fit_add | with_reducible apply fit_sub | with_reducible apply fit_mul | with_reducible apply fit_half | with_reducible apply fit_rabs | with_reducible apply fit_neg))) (by decide) | exact Fit.mono (n := 64) (fit_int (by omega) (by decide)) (by decide))) (by (first | with_reducible assumption | exact Fit.mono (by (repeat' (first | with_reducible assumption | with_reducible exact fit_two | with_reducible apply fit_add | with_reducible apply fit_sub | with_reducible apply fit_mul | with_reducible apply fit_half | with_reducible apply fit_rabs | with_reducible apply fit_neg))) (by decide) | exact Fit.mono (n := 64) (fit_int (by omega) (by decide)) (by decide)))) ?_))))
local macro_rules | `(tactic| fail "B") => `(tactic| ((with_reducible refine chkCm .NotEq ?_); refine wE_neR T g.toGd ?_; refine Exists.intro _ (And.intro (by (first | exact Num.rt _ | exact Num.int _ | assumption)) ?_)))
local macro_rules | `(tactic| fail "B") => `(tactic| ((with_reducible refine chkCm .Eq ?_); refine wE_eqR T g.toGd ?_; refine Exists.intro _ (And.intro (by (first | exact Num.rt _ | exact Num.int _ | assumption)) ?_)))
local macro_rules | `(tactic| fail "B") => `(tactic| ((with_reducible refine chkCm .GtE ?_); refine wE_geR T g.toGd ?_; refine Exists.intro _ (And.intro (by (first | exact Num.rt _ | exact Num.int _ | assumption)) (And.intro (And.intro (by (first | with_reducible assumption | exact Fit.mono (by (repeat' (first | with_reducible assumption | with_reducible exact fit_two | with_reducible apply fit_add | with_reducible apply fit_sub | with_reducible apply fit_mul | with_reducible apply fit_half | with_reducible apply fit_rabs | with_reducible apply fit_neg))) (by decide) | exact Fit.mono (n := 64) (fit_int (by omega) (by decide)) (by decide))) (by (first | with_reducible assumption | exact Fit.mono (by (repeat' (first | with_reducible assumption | with_reducible exact fit_two | with_reducible apply fit_add | with_reducible apply fit_sub | with_reducible apply fit_mul | with_reducible apply fit_half | with_reducible apply fit_rabs | with_reducible apply fit_neg))) (by decide) | exact Fit.mono (n := 64) (fit_int (by omega) (by decide)) (by decide)))) ?_))))
local macro_rules | `(tactic| fail "B") => `(tactic| ((with_reducible refine chkCm .Gt ?_); refine wE_gtR T g.toGd ?_; refine Exists.intro _ (And.intro (by (first | exact Num.rt _ | exact Num.int _ | assumption)) (And.intro (And.intro (by (first | with_reducible assumption | exact Fit.mono (by (repeat' (first | with_reducible assumption | with_reducible exact fit_two | with_reducible apply fit_add | with_reducible apply fit_sub | with_reducible apply fit_mul | with_reducible apply fit_half | with_reducible apply fit_rabs | with_reducible apply fit_neg))) (by decide) | exact Fit.mono (n := 64) (fit_int (by omega) (by decide)) (by decide))) (by (first | with_reducible assumption | exact Fit.mono (by (repeat' (first | with_reducible assumption | with_reducible exact fit_two | with_reducible apply fit_add | with_reducible apply fit_sub | with_reducible apply fit_mul | with_reducible apply fit_half | with_reducible apply fit_rabs | with_reducible apply fit_neg))) (by decide) | exact Fit.mono (n := 64) (fit_int (by omega) (by decide)) (by decide)))) ?_))))
local macro_rules | `(tactic| fail "B") => `(tactic| ((with_reducible refine chkCm .Lt ?_); refine wE_ltR T g.toGd ?_; refine Exists.intro _ (And.intro (by (first | exact Num.rt _ | exact Num.int _ | assumption)) (And.intro (And.intro (by (first | with_reducible assumption | exact Fit.mono (by (repeat' (first | with_reducible assumption | with_reducible exact fit_two | with_reducible apply fit_add | with_reducible apply fit_sub | with_reducible apply fit_mul | with_reducible apply fit_half | with_reducible apply fit_rabs | with_reducible apply fit_neg))) (by decide) | exact Fit.mono (n := 64) (fit_int (by omega) (by decide)) (by decide))) (by (first | with_reducible assumption | exact Fit.mono (by (repeat' (first | with_reducible assumption | with_reducible exact fit_two | with_reducible apply fit_add | with_reducible apply fit_sub | with_reducible apply fit_mul | with_reducible apply fit_half | with_reducible apply fit_rabs | with_reducible apply fit_neg))) (by decide) | exact Fit.mono (n := 64) (fit_int (by omega) (by decide)) (by decide)))) ?_))))
local macro_rules | `(tactic| fail "B") => `(tactic| ((with_reducible refine chkCm .LtE ?_); refine wE_leR T g.toGd ?_; refine Exists.intro _ (And.intro (by (first | exact Num.rt _ | exact Num.int _ | assumption)) (And.intro (And.intro (by (first | with_reducible assumption | exact Fit.mono (by (repeat' (first | with_reducible assumption | with_reducible exact fit_two | with_reducible apply fit_add | with_reducible apply fit_sub | with_reducible apply fit_mul | with_reducible apply fit_half | with_reducible apply fit_rabs | with_reducible apply fit_neg))) (by decide) | exact Fit.mono (n := 64) (fit_int (by omega) (by decide)) (by decide))) (by (first | with_reducible assumption | exact Fit.mono (by (repeat' (first | with_reducible assumption | with_reducible exact fit_two | with_reducible apply fit_add | with_reducible apply fit_sub | with_reducible apply fit_mul | with_reducible apply fit_half | with_reducible apply fit_rabs | with_reducible apply fit_neg))) (by decide) | exact Fit.mono (n := 64) (fit_int (by omega) (by decide)) (by decide)))) ?_))))
local macro_rules | `(tactic| fail "B") => `(tactic| ((with_reducible refine chkMul ?_); refine wE_mulRt T g.toGd ?_; refine Exists.intro _ (And.intro (by (first | exact Num.rt _ | exact Num.int _ | assumption)) (And.intro (And.intro (by (first | with_reducible assumption | exact Fit.mono (by (repeat' (first | with_reducible assumption | with_reducible exact fit_two | with_reducible apply fit_add | with_reducible apply fit_sub | with_reducible apply fit_mul | with_reducible apply fit_half | with_reducible apply fit_rabs | with_reducible apply fit_neg))) (by decide) | exact Fit.mono (n := 64) (fit_int (by omega) (by decide)) (by decide))) (by (first | with_reducible assumption | exact Fit.mono (by (repeat' (first | with_reducible assumption | with_reducible exact fit_two | with_reducible apply fit_add | with_reducible apply fit_sub | with_reducible apply fit_mul | with_reducible apply fit_half | with_reducible apply fit_rabs | with_reducible apply fit_neg))) (by decide) | exact Fit.mono (n := 64) (fit_int (by omega) (by decide)) (by decide)))) ?_))))
local macro_rules | `(tactic| fail "B") => `(tactic| ((with_reducible refine chkSub ?_); refine wE_subR T g.toGd ?_; refine Exists.intro _ (And.intro (by (first | exact Num.rt _ | exact Num.int _ | assumption)) (And.intro (And.intro (by (first | with_reducible assumption | exact Fit.mono (by (repeat' (first | with_reducible assumption | with_reducible exact fit_two | with_reducible apply fit_add | with_reducible apply fit_sub | with_reducible apply fit_mul | with_reducible apply fit_half | with_reducible apply fit_rabs | with_reducible apply fit_neg))) (by decide) | exact Fit.mono (n := 64) (fit_int (by omega) (by decide)) (by decide))) (by (first | with_reducible assumption | exact Fit.mono (by (repeat' (first | with_reducible assumption | with_reducible exact fit_two | with_reducible apply fit_add | with_reducible apply fit_sub | with_reducible apply fit_mul | with_reducible apply fit_half | with_reducible apply fit_rabs | with_reducible apply fit_neg))) (by decide) | exact Fit.mono (n := 64) (fit_int (by omega) (by decide)) (by decide)))) ?_))))
local macro_rules | `(tactic| fail "B") => `(tactic| ((with_reducible refine chkAdd ?_); refine wE_addR T g.toGd ?_; refine Exists.intro _ (And.intro (by (first | exact Num.rt _ | exact Num.int _ | assumption)) (And.intro (And.intro (by (first | with_reducible assumption | exact Fit.mono (by (repeat' (first | with_reducible assumption | with_reducible exact fit_two | with_reducible apply fit_add | with_reducible apply fit_sub | with_reducible apply fit_mul | with_reducible apply fit_half | with_reducible apply fit_rabs | with_reducible apply fit_neg))) (by decide) | exact Fit.mono (n := 64) (fit_int (by omega) (by decide)) (by decide))) (by (first | with_reducible assumption | exact Fit.mono (by (repeat' (first | with_reducible assumption | with_reducible exact fit_two | with_reducible apply fit_add | with_reducible apply fit_sub | with_reducible apply fit_mul | with_reducible apply fit_half | with_reducible apply fit_rabs | with_reducible apply fit_neg))) (by decide) | exact Fit.mono (n := 64) (fit_int (by omega) (by decide)) (by decide)))) ?_))))
local macro_rules | `(tactic| fail "F") => `(tactic| ((with_reducible refine chkB "abs" ?_); refine wF_absR T g.toGd ?qf ?_; (case qf => (first | with_reducible assumption | exact Fit.mono (by (repeat' (first | with_reducible assumption | with_reducible exact fit_two | with_reducible apply fit_add | with_reducible apply fit_sub | with_reducible apply fit_mul | with_reducible apply fit_half | with_reducible apply fit_rabs | with_reducible apply fit_neg))) (by decide) | exact Fit.mono (n := 64) (fit_int (by omega) (by decide)) (by decide)))))
local macro_rules | `(tactic| fail "F") => `(tactic| with_reducible refine wF_R1 T g.toGd ?_)
local macro_rules | `(tactic| fail "F") => `(tactic| ((with_reducible refine wF_R2 T g.toGd ?qc1 ?qc2 ?_); (case qc1 => (first | with_reducible assumption | omega)); (case qc2 => exact lt_pow_mono (n := 64) (by (first | with_reducible assumption | omega)) (by decide))))
local macro_rules | `(tactic| fail "F") => `(tactic| with_reducible refine wF_isBB ?_)
local macro_rules | `(tactic| fail "F") => `(tactic| with_reducible refine wF_isIB ?_)
local macro_rules | `(tactic| fail "F") => `(tactic| with_reducible refine wF_isII ?_)
local macro_rules | `(tactic| fail "F") => `(tactic| ((with_reducible refine wF_isRt ?qc ?_); (case qc => exact T.own_Ratio)))
local macro_rules | `(tactic| fail "U") => `(tactic| ((with_reducible refine chkNg ?_); refine wU_negR T g.toGd ?qf ?_; (case qf => (first | with_reducible assumption | exact Fit.mono (by (repeat' (first | with_reducible assumption | with_reducible exact fit_two | with_reducible apply fit_add | with_reducible apply fit_sub | with_reducible apply fit_mul | with_reducible apply fit_half | with_reducible apply fit_rabs | with_reducible apply fit_neg))) (by decide) | exact Fit.mono (n := 64) (fit_int (by omega) (by decide)) (by decide)))))
local macro_rules | `(tactic| fail "c") => `(tactic| ((with_reducible refine chkC "Water" ?_); refine xE_make gn ?qa T.g_Water T.mk_Water.kp ?_; (case qa => (repeat (first | with_reducible exact In.z | with_reducible apply In.s)))))
local macro_rules | `(tactic| fail "c") => `(tactic| ((with_reducible refine chkC "Pool" ?_); refine xE_make gn ?qa T.g_Pool T.mk_Pool.kp ?_; (case qa => (repeat (first | with_reducible exact In.z | with_reducible apply In.s)))))
local macro_rules | `(tactic| fail "c") => `(tactic| ((with_reducible refine chkC "Ratio" ?_); refine xE_make gn ?qa T.g_Ratio T.mk_Ratio.kp ?_; (case qa => (repeat (first | with_reducible exact In.z | with_reducible apply In.s)))))
local macro_rules | `(tactic| fail "c") => `(tactic| ((with_reducible refine chkC "as_ratio" ?_); refine xE_call T.f_as_ratio g ?qa T.g_as_ratio T.F_as_ratio.kp T.b_as_ratio ?_; (case qa => (repeat (first | with_reducible exact In.z | with_reducible apply In.s)))))
local macro_rules | `(tactic| fail "n") => `(tactic| ((with_reducible refine chkN "Water" ?_); refine xE_cls gn ?qa T.g_Water ?_; (case qa => (repeat (first | with_reducible exact In.z | with_reducible apply In.s)))))
local macro_rules | `(tactic| fail "n") => `(tactic| ((with_reducible refine chkN "Pool" ?_); refine xE_cls gn ?qa T.g_Pool ?_; (case qa => (repeat (first | with_reducible exact In.z | with_reducible apply In.s)))))
local macro_rules | `(tactic| fail "n") => `(tactic| ((with_reducible refine chkN "Ratio" ?_); refine xE_cls gn ?qa T.g_Ratio ?_; (case qa => (repeat (first | with_reducible exact In.z | with_reducible apply In.s)))))
local macro_rules | `(tactic| fail "n") => `(tactic| ((with_reducible refine chkN "UnknownIndex" ?_); refine xE_cls gn ?qa T.g_UnknownIndex ?_; (case qa => (repeat (first | with_reducible exact In.z | with_reducible apply In.s)))))
local macro_rules | `(tactic| fail "n") => `(tactic| ((with_reducible refine chkN "Touching" ?_); refine xE_cls gn ?qa T.g_Touching ?_; (case qa => (repeat (first | with_reducible exact In.z | with_reducible apply In.s)))))
local macro_rules | `(tactic| fail "n") => `(tactic| ((with_reducible refine chkN "InvalidNumber" ?_); refine xE_cls gn ?qa T.g_InvalidNumber ?_; (case qa => (repeat (first | with_reducible exact In.z | with_reducible apply In.s)))))
local macro_rules | `(tactic| fail "n") => `(tactic| ((with_reducible refine chkN "PoolError" ?_); refine xE_cls gn ?qa T.g_PoolError ?_; (case qa => (repeat (first | with_reducible exact In.z | with_reducible apply In.s)))))
local macro_rules | `(tactic| fail "a") => `(tactic| ((with_reducible refine chkA "right" ?_); refine wE_right T g.toGd ?_))
local macro_rules | `(tactic| fail "a") => `(tactic| ((with_reducible refine chkA "left" ?_); refine wE_left T g.toGd ?_))
local macro_rules | `(tactic| fail "a") => `(tactic| ((with_reducible refine chkA "volume" ?_); refine wE_vol T g.toGd ?_))
local macro_rules | `(tactic| fail "a") => `(tactic| ((with_reducible refine chkA "middle" ?_); refine wE_mid T g.toGd ?_))
local macro_rules | `(tactic| fail "a") => `(tactic| ((with_reducible refine chkA "bottom" ?_); refine wE_bot T ?_))
local macro_rules | `(tactic| fail "a") => `(tactic| ((with_reducible refine chkA "top" ?_); refine wE_top T ?_))
local macro_rules | `(tactic| fail "O") => `(tactic| refine And.intro (And.intro (by (first | with_reducible assumption | exact Fit.mono (by (repeat' (first | with_reducible assumption | with_reducible exact fit_two | with_reducible apply fit_add | with_reducible apply fit_sub | with_reducible apply fit_mul | with_reducible apply fit_half | with_reducible apply fit_rabs | with_reducible apply fit_neg))) (by decide) | exact Fit.mono (n := 64) (fit_int (by omega) (by decide)) (by decide))) (by (first | with_reducible assumption | exact Fit.mono (by (repeat' (first | with_reducible assumption | with_reducible exact fit_two | with_reducible apply fit_add | with_reducible apply fit_sub | with_reducible apply fit_mul | with_reducible apply fit_half | with_reducible apply fit_rabs | with_reducible apply fit_neg))) (by decide) | exact Fit.mono (n := 64) (fit_int (by omega) (by decide)) (by decide)))) ?_)
local macro_rules | `(tactic| fail "O") => `(tactic| refine Exists.intro _ (Exists.intro _ (Exists.intro _ (Exists.intro _ (And.intro rfl (And.intro rfl (And.intro (by (first | assumption | with_reducible exact at_last | with_reducible exact at_new rfl | with_reducible exact at_left (by assumption) | with_reducible exact List.getElem?_set_self (by assumption) | with_reducible exact at_left (at_left (by assumption)))) (And.intro rfl ?_))))))))
local macro_rules | `(tactic| fail "O") => `(tactic| refine Exists.intro _ (Exists.intro _ (Exists.intro _ (And.intro rfl ?_))))
local macro_rules | `(tactic| fail "O") => `(tactic| refine Exists.intro _ (Exists.intro _ (And.intro rfl ?_)))
local macro_rules | `(tactic| fail "O") => `(tactic| refine And.intro (by (simp only [List.length_cons, List.length_nil]; decide)) ?_)
local macro_rules | `(tactic| fail "O") => `(tactic| refine Exists.intro _ (And.intro rfl ?_))
section
variable {X : Cx} {W : WX} {k : Nat} {μ : List M} {Q : KV} {Z : KX} {db : D} {t : Value} {C : Addr} {ns : List Str} {fs : List D}
/-- own cmp any -/
theorem wB_cmpO {op : CmpOp} (f : Fnx) (g : Gd X W k) (hm : Meth X.K C (cmpInfo op).2.1 f.a) (bd : Binds X.K f.fd f.ps []) (y : TyD X.K db t) (hn : PySem.W.notFirst X.K C t = true) (h : SpX X f [.obj C ns fs, db] μ Q Z) (hj : f.lv ≤ k := by exact Nat.le_of_ble_eq_true rfl) : wB X W (richCompare op) (.obj C ns fs) db μ Q Z := by
  refine ⟨fun pins s σ H x yy v u R L G I rx ry ok r1 r2 av ax => ?_⟩
  obtain ⟨m, fr⟩ := I.fr
  have ty := looks_ty I ok y r2 ry
  obtain ⟨a, dx, vs, rfl, q, _⟩ := rep_obj.mp r1
  cases rx
  obtain ⟨ox, od, J⟩ := inst_at I (ok.sub _ _ q)
  exact PySem.W.cmp_K (by have := g.hr.un; omega) fr I.mod.kin J ty hn hm.at_ hm.fn (wpAny_mono ((h.call bd g hj).run pins s σ H [.ref a, yy] [.ref a, u] R L G I (.cons rfl (.cons ry .nil)) ok (Reps.cons r1 (Reps.cons r2 Reps.nil)) av ax) (fun _ _ z => back z) fun _ _ z => z)
/-! items that are ratios or pools -/
theorem obj2_inj {K : PySem.W.Frag} {L : List Addr} {G : Hp} {v : V} {a b c d : D} {n1 n2 : Str} (r1 : Rep K L G (.obj C [n1, n2] [a, b]) v) (r2 : Rep K L G (.obj C [n1, n2] [c, d]) v) : ∃ x y, Rep K L G a x ∧ Rep K L G b y ∧ Rep K L G c x ∧ Rep K L G d y := by
  obtain ⟨p, dx, vs, e, q, hl, rr⟩ := rep_obj.mp r1
  obtain ⟨p2, dx2, us, e2, q2, hl2, rr2⟩ := rep_obj.mp r2
  rw [e] at e2
  cases e2
  rw [q] at q2
  obtain ⟨x, y, rfl, h1, h2⟩ := rr.two
  obtain ⟨x2, y2, rfl, h3, h4⟩ := rr2.two
  simp only [List.zip_cons_cons, List.zip_nil_right, Option.some.injEq, HO.ins.injEq, List.cons.injEq, Prod.mk.injEq, true_and, and_true] at q2
  obtain ⟨_, rfl, rfl⟩ := q2
  exact ⟨x, y, h1, h2, h3, h4⟩
theorem rt_inj {K : PySem.W.Frag} {L : List Addr} {G : Hp} {v : V} {q r : Rat} (r1 : Rep K L G (rt C q) v) (r2 : Rep K L G (rt C r) v) : q = r := by
  obtain ⟨x, y, h1, h2, h3, h4⟩ := obj2_inj r1 r2
  have e1 := (rep_int.mp h1).symm.trans (rep_int.mp h3)
  have e2 := (rep_int.mp h2).symm.trans (rep_int.mp h4)
  injection e1 with e3
  injection e2 with e4
  exact Rat.ext e3 (by omega)
theorem pl_inj {K : PySem.W.Frag} {L : List Addr} {G : Hp} {v : V} {CP C : Addr} {c w c' w' : Rat} (r1 : Rep K L G (pl CP C c w) v) (r2 : Rep K L G (pl CP C c' w') v) : c = c' ∧ w = w' := by
  obtain ⟨x, y, h1, h2, h3, h4⟩ := obj2_inj r1 r2
  exact ⟨rt_inj h1 h3, rt_inj h2 h4⟩
end
section
variable {X : Cx} {W : WX} {k : Nat} {μ : List M} {Q : KV} {Z : KX}
theorem eqI_pl (T : Tx X.K X.mg) (g : Gd X W k) (p q : PQ) (hj : 41 ≤ k := by decide) : EqI X μ (T.plq p) (T.plq q) (decide (p = q)) where
  rf := fun L G v h => by obtain ⟨a, _, _, e, _⟩ := rep_obj.mp h; exact ⟨a, e⟩
  rf2 := fun L G v h => by obtain ⟨a, _, _, e, _⟩ := rep_obj.mp h; exact ⟨a, e⟩
  same := fun pins s σ H L G v I ok r1 r2 => by
    obtain ⟨h1, h2⟩ := pl_inj r1 r2
    exact decide_eq_true (Prod.ext h1 h2)
  cmp := by
    have := rich_own (X := X) (W := W0) (μ := μ) (op := .Eq) g.w0 T.m_Pool_eq.at_ T.m_Pool_eq.fn (.obj T.own_Pool) notFirst_own ⟨ok_peq T, T.b_Pool_eq⟩ ⟨p.1, p.2, _, _, rfl, .inl ⟨q.1, q.2, rfl, rfl⟩, rfl⟩ hj
    rw [show (decide (p.1 = q.1) && decide (p.2 = q.2)) = decide (p = q) from by
      rw [← Bool.decide_and, Bool.eq_iff_iff, decide_eq_true_eq, decide_eq_true_eq]
      exact ⟨fun h => Prod.ext h.1 h.2, fun h => by rw [h]; exact ⟨rfl, rfl⟩⟩] at this
    exact this
theorem wB_eqPls (T : Tx X.K X.mg) (g : Gd X W (k + 1)) {ps qs : List PQ} (h : Q (.bl (decide (ps = qs))) μ) (hj : 41 ≤ k := by decide) : wB X W (compareOp .Eq) (.tup (ps.map T.plq)) (.tup (qs.map T.plq)) μ Q Z :=
  .ofV (oc_eqMap (X := X) (W := W0) g.w0 T.plq ps qs fun p _ q _ => eqI_pl (X := PM.inC X) T g.inC p q hj) h
end
section
variable {P : Program} {w : World} {K : PySem.W.Frag} {mg : Str → Option Value} {base : Heap} (T : Tx K mg)
theorem sp_weq {μ : List M} {ps qs : List PQ} {Q : KV} {Z : KX} (h : Q (.bl (decide (ps = qs))) μ) : SpF P w K mg base T.f_Water_eq [T.wt ps, T.wt qs] μ Q Z := by
  refine spX_of T.F_Water_eq sc_Water_eq ck_Water_eq rfl ?_
  walk_at "start"
  rw [List.append_nil]
  walk_at "s1"
  refine wF_isi (.obj T.own_Water) (.own _) kit_own_self ?_
  walk_at "e"
  refine wSs_nil ?_
  refine wSs_cons (wS_ret (wE_cmp (wE_fld ?_ T.own_Water.cl T.na_Water_rows)))
  walk_at "e"
  refine ⟨_, _, .inl rfl, _, rfl, ?_⟩
  refine wE_fld ?_ T.own_Water.cl T.na_Water_rows
  walk_at "e"
  refine ⟨_, _, .inl rfl, _, rfl, ?_⟩
  refine wB_eqPls T g.toGd ?_
  exact .same h
end
section
variable {X : Cx} {W : WX} {k : Nat} {μ : List M} {Q : KV} {Z : KX}
theorem wB_eqW (T : Tx X.K X.mg) (g : Gd X W k) {ps qs : List PQ} (h : Q (.bl (decide (ps = qs))) μ) (hj : 44 ≤ k := by decide) : wB X W (compareOp .Eq) (T.wt ps) (T.wt qs) μ Q Z :=
  wB_cmpO (op := .Eq) T.f_Water_eq g T.m_Water_eq T.b_Water_eq (.obj T.own_Water) notFirst_own (sp_weq T h) hj
end
end


section
set_option hygiene false
local macro_rules | `(tactic| fail "B") => `(tactic| ((with_reducible refine chkCmL .LtE ?_); refine wE_leL T g.toGd ?_; refine Exists.intro _ (And.intro (by (first | exact Num.rt _ | exact Num.int _ | assumption)) (And.intro (And.intro (by (first | with_reducible assumption | exact Fit.mono (by (repeat' (first | with_reducible assumption | with_reducible exact fit_two | with_reducible apply fit_add | with_reducible apply fit_sub | with_reducible apply fit_mul | with_reducible apply fit_half | with_reducible apply fit_rabs | with_reducible apply fit_neg))) (by decide) | exact Fit.mono (n := 64) (fit_int (by omega) (by decide)) (by decide))) (by (first | with_reducible assumption | exact Fit.mono (by (repeat' (first | with_reducible assumption | with_reducible exact fit_two | with_reducible apply fit_add | with_reducible apply fit_sub | with_reducible apply fit_mul | with_reducible apply fit_half | with_reducible apply fit_rabs | with_reducible apply fit_neg))) (by decide) | exact Fit.mono (n := 64) (fit_int (by omega) (by decide)) (by decide)))) ?_))))
local macro_rules | `(tactic| fail "B") => `(tactic| ((with_reducible refine chkCm .NotEq ?_); refine wE_neR T g.toGd ?_; refine Exists.intro _ (And.intro (by (first | exact Num.rt _ | exact Num.int _ | assumption)) ?_)))
local macro_rules | `(tactic| fail "B") => `(tactic| ((with_reducible refine chkCm .Eq ?_); refine wE_eqR T g.toGd ?_; refine Exists.intro _ (And.intro (by (first | exact Num.rt _ | exact Num.int _ | assumption)) ?_)))
local macro_rules | `(tactic| fail "B") => `(tactic| ((with_reducible refine chkCm .GtE ?_); refine wE_geR T g.toGd ?_; refine Exists.intro _ (And.intro (by (first | exact Num.rt _ | exact Num.int _ | assumption)) (And.intro (And.intro (by (first | with_reducible assumption | exact Fit.mono (by (repeat' (first | with_reducible assumption | with_reducible exact fit_two | with_reducible apply fit_add | with_reducible apply fit_sub | with_reducible apply fit_mul | with_reducible apply fit_half | with_reducible apply fit_rabs | with_reducible apply fit_neg))) (by decide) | exact Fit.mono (n := 64) (fit_int (by omega) (by decide)) (by decide))) (by (first | with_reducible assumption | exact Fit.mono (by (repeat' (first | with_reducible assumption | with_reducible exact fit_two | with_reducible apply fit_add | with_reducible apply fit_sub | with_reducible apply fit_mul | with_reducible apply fit_half | with_reducible apply fit_rabs | with_reducible apply fit_neg))) (by decide) | exact Fit.mono (n := 64) (fit_int (by omega) (by decide)) (by decide)))) ?_))))
local macro_rules | `(tactic| fail "B") => `(tactic| ((with_reducible refine chkCm .Gt ?_); refine wE_gtR T g.toGd ?_; refine Exists.intro _ (And.intro (by (first | exact Num.rt _ | exact Num.int _ | assumption)) (And.intro (And.intro (by (first | with_reducible assumption | exact Fit.mono (by (repeat' (first | with_reducible assumption | with_reducible exact fit_two | with_reducible apply fit_add | with_reducible apply fit_sub | with_reducible apply fit_mul | with_reducible apply fit_half | with_reducible apply fit_rabs | with_reducible apply fit_neg))) (by decide) | exact Fit.mono (n := 64) (fit_int (by omega) (by decide)) (by decide))) (by (first | with_reducible assumption | exact Fit.mono (by (repeat' (first | with_reducible assumption | with_reducible exact fit_two | with_reducible apply fit_add | with_reducible apply fit_sub | with_reducible apply fit_mul | with_reducible apply fit_half | with_reducible apply fit_rabs | with_reducible apply fit_neg))) (by decide) | exact Fit.mono (n := 64) (fit_int (by omega) (by decide)) (by decide)))) ?_))))
local macro_rules | `(tactic| fail "B") => `(tactic| ((with_reducible refine chkCm .Lt ?_); refine wE_ltR T g.toGd ?_; refine Exists.intro _ (And.intro (by (first | exact Num.rt _ | exact Num.int _ | assumption)) (And.intro (And.intro (by (first | with_reducible assumption | exact Fit.mono (by (repeat' (first | with_reducible assumption | with_reducible exact fit_two | with_reducible apply fit_add | with_reducible apply fit_sub | with_reducible apply fit_mul | with_reducible apply fit_half | with_reducible apply fit_rabs | with_reducible apply fit_neg))) (by decide) | exact Fit.mono (n := 64) (fit_int (by omega) (by decide)) (by decide))) (by (first | with_reducible assumption | exact Fit.mono (by (repeat' (first | with_reducible assumption | with_reducible exact fit_two | with_reducible apply fit_add | with_reducible apply fit_sub | with_reducible apply fit_mul | with_reducible apply fit_half | with_reducible apply fit_rabs | with_reducible apply fit_neg))) (by decide) | exact Fit.mono (n := 64) (fit_int (by omega) (by decide)) (by decide)))) ?_))))
local macro_rules | `(tactic| fail "B") => `(tactic| ((with_reducible refine chkCm .LtE ?_); refine wE_leR T g.toGd ?_; refine Exists.intro _ (And.intro (by (first | exact Num.rt _ | exact Num.int _ | assumption)) (And.intro (And.intro (by (first | with_reducible assumption | exact Fit.mono (by (repeat' (first | with_reducible assumption | with_reducible exact fit_two | with_reducible apply fit_add | with_reducible apply fit_sub | with_reducible apply fit_mul | with_reducible apply fit_half | with_reducible apply fit_rabs | with_reducible apply fit_neg))) (by decide) | exact Fit.mono (n := 64) (fit_int (by omega) (by decide)) (by decide))) (by (first | with_reducible assumption | exact Fit.mono (by (repeat' (first | with_reducible assumption | with_reducible exact fit_two | with_reducible apply fit_add | with_reducible apply fit_sub | with_reducible apply fit_mul | with_reducible apply fit_half | with_reducible apply fit_rabs | with_reducible apply fit_neg))) (by decide) | exact Fit.mono (n := 64) (fit_int (by omega) (by decide)) (by decide)))) ?_))))
local macro_rules | `(tactic| fail "B") => `(tactic| ((with_reducible refine chkMul ?_); refine wE_mulRt T g.toGd ?_; refine Exists.intro _ (And.intro (by (first | exact Num.rt _ | exact Num.int _ | assumption)) (And.intro (And.intro (by (first | with_reducible assumption | exact Fit.mono (by (repeat' (first | with_reducible assumption | with_reducible exact fit_two | with_reducible apply fit_add | with_reducible apply fit_sub | with_reducible apply fit_mul | with_reducible apply fit_half | with_reducible apply fit_rabs | with_reducible apply fit_neg))) (by decide) | exact Fit.mono (n := 64) (fit_int (by omega) (by decide)) (by decide))) (by (first | with_reducible assumption | exact Fit.mono (by (repeat' (first | with_reducible assumption | with_reducible exact fit_two | with_reducible apply fit_add | with_reducible apply fit_sub | with_reducible apply fit_mul | with_reducible apply fit_half | with_reducible apply fit_rabs | with_reducible apply fit_neg))) (by decide) | exact Fit.mono (n := 64) (fit_int (by omega) (by decide)) (by decide)))) ?_))))
local macro_rules | `(tactic| fail "B") => `(tactic| ((with_reducible refine chkSub ?_); refine wE_subR T g.toGd ?_; refine Exists.intro _ (And.intro (by (first | exact Num.rt _ | exact Num.int _ | assumption)) (And.intro (And.intro (by (first | with_reducible assumption | exact Fit.mono (by (repeat' (first | with_reducible assumption | with_reducible exact fit_two | with_reducible apply fit_add | with_reducible apply fit_sub | with_reducible apply fit_mul | with_reducible apply fit_half | with_reducible apply fit_rabs | with_reducible apply fit_neg))) (by decide) | exact Fit.mono (n := 64) (fit_int (by omega) (by decide)) (by decide))) (by (first | with_reducible assumption | exact Fit.mono (by (repeat' (first | with_reducible assumption | with_reducible exact fit_two | with_reducible apply fit_add | with_reducible apply fit_sub | with_reducible apply fit_mul | with_reducible apply fit_half | with_reducible apply fit_rabs | with_reducible apply fit_neg))) (by decide) | exact Fit.mono (n := 64) (fit_int (by omega) (by decide)) (by decide)))) ?_))))
local macro_rules | `(tactic| fail "B") => `(tactic| ((with_reducible refine chkAdd ?_); refine wE_addR T g.toGd ?_; refine Exists.intro _ (And.intro (by (first | exact Num.rt _ | exact Num.int _ | assumption)) (And.intro (And.intro (by (first | with_reducible assumption | exact Fit.mono (by (repeat' (first | with_reducible assumption | with_reducible exact fit_two | with_reducible apply fit_add | with_reducible apply fit_sub | with_reducible apply fit_mul | with_reducible apply fit_half | with_reducible apply fit_rabs | with_reducible apply fit_neg))) (by decide) | exact Fit.mono (n := 64) (fit_int (by omega) (by decide)) (by decide))) (by (first | with_reducible assumption | exact Fit.mono (by (repeat' (first | with_reducible assumption | with_reducible exact fit_two | with_reducible apply fit_add | with_reducible apply fit_sub | with_reducible apply fit_mul | with_reducible apply fit_half | with_reducible apply fit_rabs | with_reducible apply fit_neg))) (by decide) | exact Fit.mono (n := 64) (fit_int (by omega) (by decide)) (by decide)))) ?_))))
local macro_rules | `(tactic| fail "F") => `(tactic| ((with_reducible refine chkB "abs" ?_); refine wF_absR T g.toGd ?qf ?_; (case qf => (first | with_reducible assumption | exact Fit.mono (by (repeat' (first | with_reducible assumption | with_reducible exact fit_two | with_reducible apply fit_add | with_reducible apply fit_sub | with_reducible apply fit_mul | with_reducible apply fit_half | with_reducible apply fit_rabs | with_reducible apply fit_neg))) (by decide) | exact Fit.mono (n := 64) (fit_int (by omega) (by decide)) (by decide)))))
local macro_rules | `(tactic| fail "F") => `(tactic| with_reducible refine wF_R1 T g.toGd ?_)
local macro_rules | `(tactic| fail "F") => `(tactic| ((with_reducible refine wF_R2 T g.toGd ?qc1 ?qc2 ?_); (case qc1 => (first | with_reducible assumption | omega)); (case qc2 => exact lt_pow_mono (n := 64) (by (first | with_reducible assumption | omega)) (by decide))))
local macro_rules | `(tactic| fail "F") => `(tactic| with_reducible refine wF_isBB ?_)
local macro_rules | `(tactic| fail "F") => `(tactic| with_reducible refine wF_isIB ?_)
local macro_rules | `(tactic| fail "F") => `(tactic| with_reducible refine wF_isII ?_)
local macro_rules | `(tactic| fail "F") => `(tactic| ((with_reducible refine wF_isRt ?qc ?_); (case qc => exact T.own_Ratio)))
local macro_rules | `(tactic| fail "U") => `(tactic| ((with_reducible refine chkNg ?_); refine wU_negR T g.toGd ?qf ?_; (case qf => (first | with_reducible assumption | exact Fit.mono (by (repeat' (first | with_reducible assumption | with_reducible exact fit_two | with_reducible apply fit_add | with_reducible apply fit_sub | with_reducible apply fit_mul | with_reducible apply fit_half | with_reducible apply fit_rabs | with_reducible apply fit_neg))) (by decide) | exact Fit.mono (n := 64) (fit_int (by omega) (by decide)) (by decide)))))
local macro_rules | `(tactic| fail "c") => `(tactic| ((with_reducible refine chkC "Water" ?_); refine xE_make gn ?qa T.g_Water T.mk_Water.kp ?_; (case qa => (repeat (first | with_reducible exact In.z | with_reducible apply In.s)))))
local macro_rules | `(tactic| fail "c") => `(tactic| ((with_reducible refine chkC "Pool" ?_); refine xE_make gn ?qa T.g_Pool T.mk_Pool.kp ?_; (case qa => (repeat (first | with_reducible exact In.z | with_reducible apply In.s)))))
local macro_rules | `(tactic| fail "c") => `(tactic| ((with_reducible refine chkC "Ratio" ?_); refine xE_make gn ?qa T.g_Ratio T.mk_Ratio.kp ?_; (case qa => (repeat (first | with_reducible exact In.z | with_reducible apply In.s)))))
local macro_rules | `(tactic| fail "c") => `(tactic| ((with_reducible refine chkC "run_together" ?_); refine xE_call T.f_run_together g ?qa T.g_run_together T.F_run_together.kp T.b_run_together ?_; (case qa => (repeat (first | with_reducible exact In.z | with_reducible apply In.s)))))
local macro_rules | `(tactic| fail "c") => `(tactic| ((with_reducible refine chkC "as_ratio" ?_); refine xE_call T.f_as_ratio g ?qa T.g_as_ratio T.F_as_ratio.kp T.b_as_ratio ?_; (case qa => (repeat (first | with_reducible exact In.z | with_reducible apply In.s)))))
local macro_rules | `(tactic| fail "n") => `(tactic| ((with_reducible refine chkN "Water" ?_); refine xE_cls gn ?qa T.g_Water ?_; (case qa => (repeat (first | with_reducible exact In.z | with_reducible apply In.s)))))
local macro_rules | `(tactic| fail "n") => `(tactic| ((with_reducible refine chkN "Pool" ?_); refine xE_cls gn ?qa T.g_Pool ?_; (case qa => (repeat (first | with_reducible exact In.z | with_reducible apply In.s)))))
local macro_rules | `(tactic| fail "n") => `(tactic| ((with_reducible refine chkN "Ratio" ?_); refine xE_cls gn ?qa T.g_Ratio ?_; (case qa => (repeat (first | with_reducible exact In.z | with_reducible apply In.s)))))
local macro_rules | `(tactic| fail "n") => `(tactic| ((with_reducible refine chkN "UnknownIndex" ?_); refine xE_cls gn ?qa T.g_UnknownIndex ?_; (case qa => (repeat (first | with_reducible exact In.z | with_reducible apply In.s)))))
local macro_rules | `(tactic| fail "n") => `(tactic| ((with_reducible refine chkN "Touching" ?_); refine xE_cls gn ?qa T.g_Touching ?_; (case qa => (repeat (first | with_reducible exact In.z | with_reducible apply In.s)))))
local macro_rules | `(tactic| fail "n") => `(tactic| ((with_reducible refine chkN "InvalidNumber" ?_); refine xE_cls gn ?qa T.g_InvalidNumber ?_; (case qa => (repeat (first | with_reducible exact In.z | with_reducible apply In.s)))))
local macro_rules | `(tactic| fail "n") => `(tactic| ((with_reducible refine chkN "PoolError" ?_); refine xE_cls gn ?qa T.g_PoolError ?_; (case qa => (repeat (first | with_reducible exact In.z | with_reducible apply In.s)))))
local macro_rules | `(tactic| fail "a") => `(tactic| ((with_reducible refine chkA "right" ?_); refine wE_right T g.toGd ?_))
local macro_rules | `(tactic| fail "a") => `(tactic| ((with_reducible refine chkA "left" ?_); refine wE_left T g.toGd ?_))
local macro_rules | `(tactic| fail "a") => `(tactic| ((with_reducible refine chkA "volume" ?_); refine wE_vol T g.toGd ?_))
local macro_rules | `(tactic| fail "a") => `(tactic| ((with_reducible refine chkA "middle" ?_); refine wE_mid T g.toGd ?_))
local macro_rules | `(tactic| fail "a") => `(tactic| ((with_reducible refine chkA "amount" ?_); refine wE_amt T ?_))
local macro_rules | `(tactic| fail "a") => `(tactic| ((with_reducible refine chkA "center" ?_); refine wE_cen T ?_))
local macro_rules | `(tactic| fail "a") => `(tactic| ((with_reducible refine chkA "bottom" ?_); refine wE_bot T ?_))
local macro_rules | `(tactic| fail "a") => `(tactic| ((with_reducible refine chkA "top" ?_); refine wE_top T ?_))
local macro_rules | `(tactic| fail "m") => `(tactic| ((with_reducible refine chkM "over" ?_); refine wE_over T g.toGd ?_))
local macro_rules | `(tactic| fail "O") => `(tactic| refine And.intro (And.intro (by (first | with_reducible assumption | exact Fit.mono (by (repeat' (first | with_reducible assumption | with_reducible exact fit_two | with_reducible apply fit_add | with_reducible apply fit_sub | with_reducible apply fit_mul | with_reducible apply fit_half | with_reducible apply fit_rabs | with_reducible apply fit_neg))) (by decide) | exact Fit.mono (n := 64) (fit_int (by omega) (by decide)) (by decide))) (by (first | with_reducible assumption | exact Fit.mono (by (repeat' (first | with_reducible assumption | with_reducible exact fit_two | with_reducible apply fit_add | with_reducible apply fit_sub | with_reducible apply fit_mul | with_reducible apply fit_half | with_reducible apply fit_rabs | with_reducible apply fit_neg))) (by decide) | exact Fit.mono (n := 64) (fit_int (by omega) (by decide)) (by decide)))) ?_)
local macro_rules | `(tactic| fail "O") => `(tactic| refine Exists.intro _ (And.intro (by (first | exact Num.rt _ | exact Num.int _ | assumption)) (And.intro (And.intro (by (first | with_reducible assumption | exact Fit.mono (by (repeat' (first | with_reducible assumption | with_reducible exact fit_two | with_reducible apply fit_add | with_reducible apply fit_sub | with_reducible apply fit_mul | with_reducible apply fit_half | with_reducible apply fit_rabs | with_reducible apply fit_neg))) (by decide) | exact Fit.mono (n := 64) (fit_int (by omega) (by decide)) (by decide))) (And.intro (by (first | with_reducible assumption | exact Fit.mono (by (repeat' (first | with_reducible assumption | with_reducible exact fit_two | with_reducible apply fit_add | with_reducible apply fit_sub | with_reducible apply fit_mul | with_reducible apply fit_half | with_reducible apply fit_rabs | with_reducible apply fit_neg))) (by decide) | exact Fit.mono (n := 64) (fit_int (by omega) (by decide)) (by decide))) (by decide))) ?_)))
local macro_rules | `(tactic| fail "O") => `(tactic| refine Exists.intro _ (Exists.intro _ (Exists.intro _ (Exists.intro _ (And.intro rfl (And.intro rfl (And.intro (by (first | assumption | with_reducible exact at_last | with_reducible exact at_new rfl | with_reducible exact at_left (by assumption) | with_reducible exact List.getElem?_set_self (by assumption) | with_reducible exact at_left (at_left (by assumption)))) (And.intro rfl ?_))))))))
local macro_rules | `(tactic| fail "O") => `(tactic| refine Exists.intro _ (Exists.intro _ (Exists.intro _ (And.intro rfl ?_))))
local macro_rules | `(tactic| fail "O") => `(tactic| refine Exists.intro _ (Exists.intro _ (And.intro rfl ?_)))
local macro_rules | `(tactic| fail "O") => `(tactic| refine And.intro (by (simp only [List.length_cons, List.length_nil]; decide)) ?_)
local macro_rules | `(tactic| fail "O") => `(tactic| refine Exists.intro _ (And.intro rfl ?_))
/-- within one pool of the other water -/
def inW (p q : PQ) : Bool := decide (plL q ≤ plL p) && decide (plR p ≤ plR q)
def inWs (ps qs : List PQ) : Bool := ps.all fun p => qs.any fun q => inW p q
def inPl (x : Rat) (p : PQ) : Bool := decide (plL p ≤ x) && decide (x ≤ plR p)
theorem anys {α : Type} (f : α → Bool) (xs : List α) : (xs.map f).any id = xs.any f := by rw [List.any_map]; rfl
section
variable {P : Program} {w : World} {K : PySem.W.Frag} {mg : Str → Option Value} {base : Heap} (T : Tx K mg)
theorem sp_within {μ : List M} {ps qs : List PQ} {Q : KV} {Z : KX} (hp : ∀ p ∈ ps, Fit 600 p.1 ∧ Fit 600 p.2) (hq : ∀ p ∈ qs, Fit 600 p.1 ∧ Fit 600 p.2) (hl : qs.length ≤ 1000) (h : Q (.bl (inWs ps qs)) μ) : SpF P w K mg base T.f_Water_is_within [T.wt ps, T.wt qs] μ Q Z := by
  refine spX_of T.F_Water_is_within sc_Water_is_within ck_Water_is_within rfl ?_
  walk_at "start"
  rw [List.append_nil]
  refine wSs_cons (wS_for g.po g.calm (wI_tup (wE_fld ?_ T.own_Water.cl T.na_Water_rows)))
  walk_at "e"
  refine ⟨_, _, .inl rfl, _, rfl, ?_⟩
  refine ⟨_, rfl, ?_⟩
  refine wFor_L ps T.plq (fun done ρ μ' => μ = μ' ∧ (done.all fun p => qs.any fun q => inW p q) = true ∧ ∃ o2 o3, ρ = [some (T.wt ps), some (T.wt qs), o2, o3]) ?_ ?_ _ _ ⟨rfl, rfl, _, _, rfl⟩
  rotate_left
  · rintro ρ _ ⟨rfl, hb, o2, o3, rfl⟩
    have hb' : inWs ps qs = true := hb
    rw [hb'] at h
    walk_at "s1"
    exact .same h
  rintro done p ws ρ _ ed ⟨rfl, hb, o2, o3, rfl⟩
  obtain ⟨f1, f2⟩ := hp p (by rw [ed]; simp)
  walk_at "e"
  refine wSs_cons (wS_if (wC_not (wC_val (xE_blt gn (by walk_at "in") T.n_any boot_any ?_))))
  refine wA_cons (wE_lcM v_Water_is_within_c0 g_Water_is_within_c0 o_Water_is_within_c0 g (sc := defScope s_Water_is_within) rfl (by decide +kernel) (show BlkOk n_Water_is_within (defScope s_Water_is_within) _ _ from ⟨rfl, by decide +kernel, by decide +kernel, by decide +kernel, by decide +kernel⟩) qs T.plq (fun q => D.bl (inW p q)) ?_ (by omega) ?_ ?_)
  · refine wI_tup (wE_fld ?_ T.own_Water.cl T.na_Water_rows)
    walk_at "e"
    exact ⟨_, _, .inl rfl, _, rfl, _, rfl, rfl, rfl⟩
  · rintro q hq' K1 K2 hk
    obtain ⟨f3, f4⟩ := hq q hq'
    walk_at "blk"
    refine wGw_name gn (i := 3) (by walk_at "il") (by decide) ?_
    simp only [o_Water_is_within_c0, List.map_cons, List.map_nil, wipeD, List.set_cons_succ, List.set_cons_zero]
    walk_at "e"
    walk_at "blk"
    refine wTs_nil (br_T rfl ?_)
    walk_at "blk"
    walk_at "e"
    unfold inW at hk
    refine br_bool (fun h1 => ?_) (fun h1 => ?_)
    · walk_at "e"
      rw [h1, Bool.true_and] at hk
      exact hk
    · rw [h1, Bool.false_and] at hk
      exact hk
  rw [show qs.map (fun q => D.bl (inW p q)) = (qs.map (inW p)).map D.bl by rw [List.map_map]; rfl]
  refine wA_nil (wF_any g.toGd ?_)
  rw [anys]
  refine ⟨_, rfl, ?_⟩
  cases hc : qs.any (inW p) with
  | true =>
    refine br_F rfl (wSs_nil (wSs_nil ⟨rfl, ?_, _, _, rfl⟩))
    rw [List.all_append, hb]
    simp [hc]
  | false =>
    refine br_T rfl ?_
    have hb' : inWs ps qs = false := by
      unfold inWs
      rw [ed, List.all_append, List.all_cons, hb]
      simp [hc]
    rw [hb'] at h
    walk_at "s1"
    exact .same h
theorem sp_wle {μ : List M} {ps qs : List PQ} {Q : KV} {Z : KX} (hp : ∀ p ∈ ps, Fit 600 p.1 ∧ Fit 600 p.2) (hq : ∀ p ∈ qs, Fit 600 p.1 ∧ Fit 600 p.2) (hl : qs.length ≤ 1000) (h : Q (.bl (inWs ps qs)) μ) : SpF P w K mg base T.f_Water_le [T.wt ps, T.wt qs] μ Q Z := by
  refine spX_of T.F_Water_le sc_Water_le ck_Water_le rfl ?_
  walk_at "start"
  rw [List.append_nil]
  walk_at "s1"
  refine wF_isi (.obj T.own_Water) (.own _) kit_own_self ?_
  walk_at "e"
  refine wSs_nil ?_
  refine wSs_cons (wS_ret (wE_meth T.f_Water_is_within g.toGd T.own_Water.cl T.m_Water_is_within T.b_Water_is_within ?_))
  walk_at "e"
  refine ⟨.obj rfl, ?_⟩
  walk_at "e"
  exact sp_within T hp hq hl (.same h)
theorem sp_wadd {μ : List M} {u : Int} {xs ys : List P2} {Q : KV} {Z : KX} (hu : 0 < u) (hu1 : u ≤ 1000000) (hl : xs.length + ys.length ≤ 10000) (hb : Bnd (xs ++ ys))
    (h : ∀ zs, Asc zs → Runs (xs ++ ys) zs → Q (T.wt (zs.map (mq u))) μ) : SpF P w K mg base T.f_Water_add [T.wt (xs.map (mq u)), T.wt (ys.map (mq u))] μ Q Z := by
  refine spX_of T.F_Water_add sc_Water_add ck_Water_add rfl ?_
  walk_at "start"
  rw [List.append_nil]
  walk_at "s1"
  refine wF_isi (.obj T.own_Water) (.own _) kit_own_self ?_
  walk_at "e"
  refine wSs_nil ?_
  have sl := sl_big
  refine wSs_cons (wS_ret (xE_make gn (by walk_at "in") T.g_Water T.mk_Water.kp ?_))
  refine wA_cons (xE_call T.f_run_together g (by walk_at "in") T.g_run_together T.F_run_together.kp T.b_run_together ?_)
  refine wA_cons (wE_bin (wE_fld ?_ T.own_Water.cl T.na_Water_rows))
  walk_at "e"
  refine ⟨_, _, .inl rfl, _, rfl, ?_⟩
  refine wE_fld ?_ T.own_Water.cl T.na_Water_rows
  walk_at "e"
  refine ⟨_, _, .inl rfl, _, rfl, ?_⟩
  refine wB_catA (by simp only [List.length_map]; omega) ?_
  walk_at "e"
  refine sp_runt T (xs := xs ++ ys) hu hu1 (by rw [List.length_append]; exact hl) (.inr (.inl (by rw [List.map_append, List.map_map, List.map_map]; rfl))) hb fun zs hz1 hz2 => ?_
  walk_at "e"
  have bz := hb.runs hz2
  have eb : bad (zs.map (mq u)) = none := asc_bad hu bz.pos hz1
  refine wF_Water (ps := zs.map (mq u)) T g.toGd (.inl (by simp only [List.map_map]; rfl)) (fun p hp => ?_) (fun _ => RetOk.same (h zs hz1 hz2)) (fun n hn => by rw [eb] at hn; cases hn)
  obtain ⟨q, hq, rfl⟩ := List.mem_map.mp hp
  obtain ⟨f1, f2⟩ := fit_mq hu hu1 (bz.mem hq)
  exact ⟨f1.mono (by decide), f2.mono (by decide)⟩
theorem sp_win {μ : List M} {ps : List PQ} {d : D} {x : Rat} {Q : KV} {Z : KX} (hd : Num T.C_Ratio d x) (fx : Fit 600 x) (hp : ∀ p ∈ ps, Fit 600 p.1 ∧ Fit 600 p.2) (hl : ps.length ≤ 1000) (h : Q (.bl (ps.any (inPl x))) μ) : SpF P w K mg base T.f_Water_contains [T.wt ps, d] μ Q Z := by
  refine spX_of T.F_Water_contains sc_Water_contains ck_Water_contains rfl ?_
  walk_at "start"
  rw [List.append_nil]
  refine wSs_cons (wS_ret (xE_blt gn (by walk_at "in") T.n_any boot_any ?_))
  refine wA_cons (wE_lcM v_Water_contains_c0 g_Water_contains_c0 o_Water_contains_c0 g (sc := defScope s_Water_contains) rfl (by decide +kernel) (show BlkOk n_Water_contains (defScope s_Water_contains) _ _ from ⟨rfl, by decide +kernel, by decide +kernel, by decide +kernel, by decide +kernel⟩) ps T.plq (fun p => D.bl (inPl x p)) ?_ (by omega) ?_ ?_)
  · refine wI_tup (wE_fld ?_ T.own_Water.cl T.na_Water_rows)
    walk_at "e"
    exact ⟨_, _, .inl rfl, _, rfl, _, rfl, rfl, rfl⟩
  · rintro p hp' K1 K2 hk
    obtain ⟨f3, f4⟩ := hp p hp'
    walk_at "blk"
    refine wGw_name gn (i := 2) (by walk_at "il") (by decide) ?_
    simp only [o_Water_contains_c0, List.map_cons, List.map_nil, wipeD, List.set_cons_succ, List.set_cons_zero]
    walk_at "e"
    walk_at "blk"
    refine wTs_nil (br_T rfl ?_)
    walk_at "blk"
    refine wE_cmp ?_
    walk_at "e"
    exact wB_inP T g.toGd hd fx f3 f4 hk
  rw [show ps.map (fun p => D.bl (inPl x p)) = (ps.map (inPl x)).map D.bl by rw [List.map_map]; rfl]
  refine wA_nil (wF_any g.toGd ?_)
  rw [anys]
  exact .same h
def R_win (T : Tx K mg) : Rl := fun ds μ o => ∃ (ps : List PQ) (d : D) (x : Rat), ds = [T.wt ps, d] ∧ Num T.C_Ratio d x ∧ Fit 600 x ∧ (∀ p ∈ ps, Fit 600 p.1 ∧ Fit 600 p.2) ∧ ps.length ≤ 1000 ∧ o = .ret (.bl (ps.any (inPl x))) μ
theorem ok_win : FnG P w K mg base 46 T.a_Water_contains T.fd_Water_contains ["self", "x"] (spR K (R_win T)) := by
  refine SpF.rel (f := T.f_Water_contains) ?_
  rintro ds μ o ⟨ps, d, x, rfl, hd, fx, hp, hl, rfl⟩
  exact sp_win T hd fx hp hl rfl
end
section
variable {X : Cx} {W : WX} {k : Nat} {μ : List M} {Q : KV} {Z : KX}
theorem wB_leW (T : Tx X.K X.mg) (g : Gd X W k) {ps qs : List PQ} (hp : ∀ p ∈ ps, Fit 600 p.1 ∧ Fit 600 p.2) (hq : ∀ p ∈ qs, Fit 600 p.1 ∧ Fit 600 p.2) (hl : qs.length ≤ 1000) (h : Q (.bl (inWs ps qs)) μ) (hj : 46 ≤ k := by decide) : wB X W (compareOp .LtE) (T.wt ps) (T.wt qs) μ Q Z :=
  wB_cmpO (op := .LtE) T.f_Water_le g T.m_Water_le T.b_Water_le (.obj T.own_Water) notFirst_own (sp_wle T hp hq hl h) hj
theorem wB_addW (T : Tx X.K X.mg) (g : Gd X W k) {u : Int} {xs ys : List P2} (hu : 0 < u) (hu1 : u ≤ 1000000) (hl : xs.length + ys.length ≤ 10000) (hb : Bnd (xs ++ ys))
    (h : ∀ zs, Asc zs → Runs (xs ++ ys) zs → Q (T.wt (zs.map (mq u))) μ) (hj : 50 ≤ k := by decide) : wB X W (binaryOp .Add) (T.wt (xs.map (mq u))) (T.wt (ys.map (mq u))) μ Q Z :=
  wB_binO (op := .Add) T.f_Water_add g T.own_Water T.m_Water_add T.b_Water_add (sp_wadd T hu hu1 hl hb h) hj
theorem wB_ninWt (T : Tx X.K X.mg) (g : Gd X W k) {ps : List PQ} {d : D} {x : Rat} (hd : Num T.C_Ratio d x) (fx : Fit 600 x) (hp : ∀ p ∈ ps, Fit 600 p.1 ∧ Fit 600 p.2) (hl : ps.length ≤ 1000) (h : Q (.bl (!(ps.any (inPl x)))) μ) (hj : 46 ≤ k := by decide) : wB X W (compareOp .NotIn) d (T.wt ps) μ Q Z :=
  .ofV (oc_notInOwn g.w0 T.m_Water_contains ⟨ok_win T, T.b_Water_contains⟩ ⟨ps, d, x, rfl, hd, fx, hp, hl, rfl⟩ hj) h
end
section
variable {P : Program} {w : World} {K : PySem.W.Frag} {mg : Str → Option Value} {base : Heap} (T : Tx K mg)
theorem sp_wne {μ : List M} {ps qs : List PQ} {Q : KV} {Z : KX} (h : Q (.bl (!decide (ps = qs))) μ) : SpF P w K mg base T.f_Water_ne [T.wt ps, T.wt qs] μ Q Z := by
  refine spX_of T.F_Water_ne sc_Water_ne ck_Water_ne rfl ?_
  walk_at "start"
  rw [List.append_nil]
  refine wSs_cons (wS_ret (wE_not (wE_cmp ?_)))
  walk_at "e"
  refine wB_eqW T g.toGd ?_
  refine ⟨_, rfl, ?_⟩
  exact .same h
end
section
variable {X : Cx} {W : WX} {k : Nat} {μ : List M} {Q : KV} {Z : KX}
theorem wB_neW (T : Tx X.K X.mg) (g : Gd X W k) {ps qs : List PQ} (h : Q (.bl (!decide (ps = qs))) μ) (hj : 46 ≤ k := by decide) : wB X W (compareOp .NotEq) (T.wt ps) (T.wt qs) μ Q Z :=
  wB_cmpO (op := .NotEq) T.f_Water_ne g T.m_Water_ne T.b_Water_ne (.obj T.own_Water) notFirst_own (sp_wne T h) hj
end
end

section
set_option Elab.async false
set_option linter.all false
set_option maxRecDepth 100000
set_option maxHeartbeats 4000000
set_option exponentiation.threshold 20000
open PySem L2 PyProof.Rows
/-! list(water.pools()) -/
section
variable {P : Program} {w : World} {K : PySem.W.Frag} {mg : Str → Option Value} {base : Heap} (T : Tx K mg)
/-- what the generator hands out -/
def spPools (K : PySem.W.Frag) (C : Addr) : SpG := fun vs H Q E => ∃ a dx r xs, vs = [.ref a] ∧ H a = some (.ins C dx [("rows", .ref r)]) ∧ SqT K H r xs ∧ xs.length ≤ sizeLine ∧ Q xs H
theorem gf_pools (T : Tx K mg) : GFn P w K mg base 41 T.a_Water_pools T.fd_Water_pools ["self"] (spPools K T.C_Water) := by
  obtain ⟨oc, od, dV, kV, doc, pm, an, cdv, ct, osl, e, look, hcode, hD, _⟩ := T.F_Water_pools.ex
  rw [e] at look ⊢
  refine gfn_of look hcode gs_Water_pools (fun vs H Q E h => ?_) fun A outer s H vs Q E pn hr h => ⟨_, gss_cons (gs_yieldK (yf_sq (pe_fld (pv 0) rfl)) hr.hd) gss_nil, ?_⟩
  · obtain ⟨a, dx, r, xs, rfl, _⟩ := h
    rfl
  · obtain ⟨a, dx, r, xs, rfl, ha, hs, hl, q⟩ := h
    exact ⟨_, rfl, a, _, dx, _, .ref r, rfl, ha, T.own_Water.cl, T.na_Water_rows, rfl, r, xs, rfl, hs, by simpa using hl, q⟩
end
section
variable {X : Cx} {W : WX} {k : Nat} {N : List Str} {V : List Kd} {Gs : List Str} {ρ : Env'} {μ : List M} {ob : Expr} {p pos pos' apos : Pos} {Q : KV} {Z : KX}
theorem wE_listPools {pl : Sem Bool} (T : Tx X.K X.mg) (g : Fx X W k N V Gs) (hi : In "list" Gs) (hm : X.mg "list" = none) (h : wE X W ρ μ ob (fun d μ1 => ∃ ps : List PQ, d = T.wt ps ∧ ps.length ≤ 1000000 ∧ Q (.lst (ps.map T.plq)) μ1) Z) (hj : 44 ≤ k := by decide)
    (he : starEach [.Call (.Attribute ob "pools" apos) [] [] pos'] X.env = (false, eval (.Call (.Attribute ob "pools" apos) [] [] pos') X.env) :: starEach [] X.env := by rfl)
    (ht : eval (.Call (.Attribute ob "pools" apos) [] [] pos') X.env = (do
      let ov ← eval ob X.env
      standAt apos.atName
      let (f, first) ← holding [ov] (getMethod ov "pools" pl)
      callWith pos' f first (backTo pos' (starEach [] X.env)) (backToKw pos' (keywordEach [] X.env))) := by rfl) : wE X W ρ μ (.Call (.Name "list" p) [.Call (.Attribute ob "pools" apos) [] [] pos'] [] pos) Q Z := by
  have g0 := g.toGd
  refine ⟨pe_of (pe_listG (E := fun _ _ _ => False) (pgen_meth0 (pl := pl) h.run T.own_Water.cl T.m_Water_pools (gf_pools (P := X.prog) (w := X.w) (base := X.base) T) (g0.hr.mono (by omega)) T.b_Water_pools .nil ht) ?_ (fun _ _ _ z => z.elim) (g0.hr.mono hj) (g.gl hi).1 hm boot_list (he := he)) fun σ H R ⟨L, G, nw, v, x⟩ => ⟨L, G, nw, fun d μ1 ⟨ps, ed, hl, q⟩ u L1 G1 H1 s1 o1 r1 => ?_, x⟩⟩
  · rintro pins σ H sc e s I ⟨_, _, _, _, _, _, _, _, _, _, _, _, z⟩
    exact z.elim
  subst ed
  obtain ⟨a, dx, vs, rfl, eg, _, rr⟩ := rep_obj.mp r1
  obtain ⟨t, rest, rfl, rt, r0⟩ := rr.inv_cons
  cases r0.inv_nil
  obtain ⟨r, us, rfl, sq, ru⟩ := rep_tup.mp rt
  have ul : us.length ≤ sizeLine := by rw [ru.length, List.length_map]; exact big_sl hl
  refine ⟨a, dx, _, rfl, o1.sub _ _ eg, rfl, a, dx, r, us, rfl, o1.sub _ _ eg, Same.sqT o1.sub sq, ul, fun p hp => ?_⟩
  obtain ⟨o3, s3⟩ := o1.new (p := p) (o := .lst us) hp
  exact v _ _ q _ _ _ _ (s1.trans s3) o3 (rep_lst.mpr ⟨p, us, rfl, upd_same, ru.mono (.refl _) s3.gs⟩)
end
end



section
set_option hygiene false
local macro_rules | `(tactic| fail "F") => `(tactic| with_reducible refine wF_R1 T g.toGd ?_)
local macro_rules | `(tactic| fail "F") => `(tactic| ((with_reducible refine wF_R2 T g.toGd ?qc1 ?qc2 ?_); (case qc1 => (first | with_reducible assumption | omega)); (case qc2 => exact lt_pow_mono (n := 64) (by (first | with_reducible assumption | omega)) (by decide))))
local macro_rules | `(tactic| fail "F") => `(tactic| with_reducible refine wF_isBB ?_)
local macro_rules | `(tactic| fail "F") => `(tactic| with_reducible refine wF_isIB ?_)
local macro_rules | `(tactic| fail "F") => `(tactic| with_reducible refine wF_isII ?_)
local macro_rules | `(tactic| fail "F") => `(tactic| ((with_reducible refine wF_isRt ?qc ?_); (case qc => exact T.own_Ratio)))
local macro_rules | `(tactic| fail "c") => `(tactic| ((with_reducible refine chkC "Water" ?_); refine xE_make gn ?qa T.g_Water T.mk_Water.kp ?_; (case qa => (repeat (first | with_reducible exact In.z | with_reducible apply In.s)))))
local macro_rules | `(tactic| fail "c") => `(tactic| ((with_reducible refine chkC "Pool" ?_); refine xE_make gn ?qa T.g_Pool T.mk_Pool.kp ?_; (case qa => (repeat (first | with_reducible exact In.z | with_reducible apply In.s)))))
local macro_rules | `(tactic| fail "c") => `(tactic| ((with_reducible refine chkC "Ratio" ?_); refine xE_make gn ?qa T.g_Ratio T.mk_Ratio.kp ?_; (case qa => (repeat (first | with_reducible exact In.z | with_reducible apply In.s)))))
local macro_rules | `(tactic| fail "c") => `(tactic| ((with_reducible refine chkC "_law_added" ?_); refine xE_call T.f_w_added g ?qa T.g_w_added T.F_w_added.kp T.b_w_added ?_; (case qa => (repeat (first | with_reducible exact In.z | with_reducible apply In.s)))))
local macro_rules | `(tactic| fail "c") => `(tactic| ((with_reducible refine chkC "_law_mixed" ?_); refine xE_call T.f_w_mixed g ?qa T.g_w_mixed T.F_w_mixed.kp T.b_w_mixed ?_; (case qa => (repeat (first | with_reducible exact In.z | with_reducible apply In.s)))))
local macro_rules | `(tactic| fail "c") => `(tactic| ((with_reducible refine chkC "_law_pool" ?_); refine xE_call T.f_w_pool g ?qa T.g_w_pool T.F_w_pool.kp T.b_w_pool ?_; (case qa => (repeat (first | with_reducible exact In.z | with_reducible apply In.s)))))
local macro_rules | `(tactic| fail "c") => `(tactic| ((with_reducible refine chkC "_law_number" ?_); refine xE_call T.f_w_number g ?qa T.g_w_number T.F_w_number.kp T.b_w_number ?_; (case qa => (repeat (first | with_reducible exact In.z | with_reducible apply In.s)))))
local macro_rules | `(tactic| fail "c") => `(tactic| ((with_reducible refine chkC "_law_scene" ?_); refine xE_call T.f_w_scene g ?qa T.g_w_scene T.F_w_scene.kp T.b_w_scene ?_; (case qa => (repeat (first | with_reducible exact In.z | with_reducible apply In.s)))))
local macro_rules | `(tactic| fail "c") => `(tactic| ((with_reducible refine chkC "_law_take" ?_); refine xE_call T.f_w_take g ?qa T.g_w_take T.F_w_take.kp T.b_w_take ?_; (case qa => (repeat (first | with_reducible exact In.z | with_reducible apply In.s)))))
local macro_rules | `(tactic| fail "c") => `(tactic| ((with_reducible refine chkC "_law_box" ?_); refine xE_call T.f_w_box g ?qa T.g_w_box T.F_w_box.kp T.b_w_box ?_; (case qa => (repeat (first | with_reducible exact In.z | with_reducible apply In.s)))))
local macro_rules | `(tactic| fail "n") => `(tactic| ((with_reducible refine chkN "Water" ?_); refine xE_cls gn ?qa T.g_Water ?_; (case qa => (repeat (first | with_reducible exact In.z | with_reducible apply In.s)))))
local macro_rules | `(tactic| fail "n") => `(tactic| ((with_reducible refine chkN "Pool" ?_); refine xE_cls gn ?qa T.g_Pool ?_; (case qa => (repeat (first | with_reducible exact In.z | with_reducible apply In.s)))))
local macro_rules | `(tactic| fail "n") => `(tactic| ((with_reducible refine chkN "Ratio" ?_); refine xE_cls gn ?qa T.g_Ratio ?_; (case qa => (repeat (first | with_reducible exact In.z | with_reducible apply In.s)))))
local macro_rules | `(tactic| fail "n") => `(tactic| ((with_reducible refine chkN "UnknownIndex" ?_); refine xE_cls gn ?qa T.g_UnknownIndex ?_; (case qa => (repeat (first | with_reducible exact In.z | with_reducible apply In.s)))))
local macro_rules | `(tactic| fail "n") => `(tactic| ((with_reducible refine chkN "Touching" ?_); refine xE_cls gn ?qa T.g_Touching ?_; (case qa => (repeat (first | with_reducible exact In.z | with_reducible apply In.s)))))
local macro_rules | `(tactic| fail "n") => `(tactic| ((with_reducible refine chkN "InvalidNumber" ?_); refine xE_cls gn ?qa T.g_InvalidNumber ?_; (case qa => (repeat (first | with_reducible exact In.z | with_reducible apply In.s)))))
local macro_rules | `(tactic| fail "n") => `(tactic| ((with_reducible refine chkN "PoolError" ?_); refine xE_cls gn ?qa T.g_PoolError ?_; (case qa => (repeat (first | with_reducible exact In.z | with_reducible apply In.s)))))
local macro_rules | `(tactic| fail "a") => `(tactic| ((with_reducible refine chkA "right" ?_); refine wE_right T g.toGd ?_))
local macro_rules | `(tactic| fail "a") => `(tactic| ((with_reducible refine chkA "left" ?_); refine wE_left T g.toGd ?_))
local macro_rules | `(tactic| fail "a") => `(tactic| ((with_reducible refine chkA "volume" ?_); refine wE_vol T g.toGd ?_))
local macro_rules | `(tactic| fail "a") => `(tactic| ((with_reducible refine chkA "middle" ?_); refine wE_mid T g.toGd ?_))
local macro_rules | `(tactic| fail "a") => `(tactic| ((with_reducible refine chkA "bottom" ?_); refine wE_bot T ?_))
local macro_rules | `(tactic| fail "a") => `(tactic| ((with_reducible refine chkA "top" ?_); refine wE_top T ?_))
local macro_rules | `(tactic| fail "O") => `(tactic| refine And.intro (And.intro (by (first | with_reducible assumption | exact Fit.mono (by (repeat' (first | with_reducible assumption | with_reducible exact fit_two | with_reducible apply fit_add | with_reducible apply fit_sub | with_reducible apply fit_mul | with_reducible apply fit_half | with_reducible apply fit_rabs | with_reducible apply fit_neg))) (by decide) | exact Fit.mono (n := 64) (fit_int (by omega) (by decide)) (by decide))) (by (first | with_reducible assumption | exact Fit.mono (by (repeat' (first | with_reducible assumption | with_reducible exact fit_two | with_reducible apply fit_add | with_reducible apply fit_sub | with_reducible apply fit_mul | with_reducible apply fit_half | with_reducible apply fit_rabs | with_reducible apply fit_neg))) (by decide) | exact Fit.mono (n := 64) (fit_int (by omega) (by decide)) (by decide)))) ?_)
local macro_rules | `(tactic| fail "O") => `(tactic| (refine sp_take T (by (first | assumption | with_reducible exact at_last | with_reducible exact at_new rfl | with_reducible exact at_left (by assumption) | with_reducible exact List.getElem?_set_self (by assumption) | with_reducible exact at_left (at_left (by assumption)))) (by (first | with_reducible assumption | omega)) (by (first | with_reducible assumption | omega)) ?_; intro d h0 h1))
local macro_rules | `(tactic| fail "O") => `(tactic| refine Exists.intro _ (Exists.intro _ (Exists.intro _ (Exists.intro _ (And.intro rfl (And.intro rfl (And.intro (by (first | assumption | with_reducible exact at_last | with_reducible exact at_new rfl | with_reducible exact at_left (by assumption) | with_reducible exact List.getElem?_set_self (by assumption) | with_reducible exact at_left (at_left (by assumption)))) (And.intro rfl ?_))))))))
local macro_rules | `(tactic| fail "O") => `(tactic| refine Exists.intro _ (Exists.intro _ (Exists.intro _ (And.intro rfl ?_))))
local macro_rules | `(tactic| fail "O") => `(tactic| refine Exists.intro _ (Exists.intro _ (And.intro rfl ?_)))
local macro_rules | `(tactic| fail "O") => `(tactic| refine And.intro (by (simp only [List.length_cons, List.length_nil]; decide)) ?_)
local macro_rules | `(tactic| fail "O") => `(tactic| refine Exists.intro _ (And.intro rfl ?_))
theorem q_lend {m v u : Int} (hu : 0 < u) (hv : 0 < v) : Rat.divInt m (v * u) - Rat.divInt v u / r2 = Rat.divInt (2 * m - v * v) (2 * v * u) := by
  have h := cast_ne hu
  have h1 := cast_ne hv
  simp only [r2, Rat.divInt_eq_div, Rat.intCast_sub, Rat.intCast_mul]
  generalize (u : Rat) = U at *
  generalize (v : Rat) = V at *
  grind
theorem q_rend {m v u : Int} (hu : 0 < u) (hv : 0 < v) : Rat.divInt m (v * u) + Rat.divInt v u / r2 = Rat.divInt (2 * m + v * v) (2 * v * u) := by
  have h := cast_ne hu
  have h1 := cast_ne hv
  simp only [r2, Rat.divInt_eq_div, Rat.intCast_add, Rat.intCast_mul]
  generalize (u : Rat) = U at *
  generalize (v : Rat) = V at *
  grind
theorem fit_sum {u v : Int} (hu : 0 < u) (hu1 : u ≤ 2 ^ 70) (h0 : 0 ≤ v) (h1 : v ≤ 2 ^ 80) : Fit 600 (Rat.divInt v u) := (fit_divInt (n := 120) (by omega) (by omega) (by omega)).mono (by decide)
theorem sums_rt {X : Cx} {W : WX} {k : Nat} {μ : List M} (T : Tx X.K X.mg) (g : Gd X W (k + 1)) {u : Int} (hu : 0 < u) (hu1 : u ≤ 2 ^ 70) (hk : 6 ≤ k := by decide) : ∀ (vs : List Int) (a : Int), 0 ≤ a → (∀ v ∈ vs, 0 ≤ v) → a + vs.sum ≤ 2 ^ 80 →
    Sums X μ T.C_Ratio (rt T.C_Ratio (Rat.divInt a u)) (vs.map fun v => rt T.C_Ratio (Rat.divInt v u)) (rt T.C_Ratio (Rat.divInt (a + vs.sum) u))
  | [], a, _, _, _ => by
    rw [List.sum_nil, Int.add_zero]
    exact .nil
  | v :: vs, a, h0, hv, hb => by
    rw [List.sum_cons] at hb
    have v0 := hv v (by simp)
    have s0 : 0 ≤ vs.sum := by
      have : ∀ l : List Int, (∀ x ∈ l, 0 ≤ x) → 0 ≤ l.sum := fun l hl => by
        induction l with
        | nil => simp
        | cons x l ih =>
          rw [List.sum_cons]
          have := hl x (by simp)
          have := ih fun y hy => hl y (by simp [hy])
          omega
      exact this vs fun x hx => hv x (by simp [hx])
    have ih := sums_rt (μ := μ) T g hu hu1 hk vs (a + v) (by omega) (fun x hx => hv x (by simp [hx])) (by omega)
    rw [List.sum_cons, ← Int.add_assoc]
    refine .cons ?_ ih
    have := oR_add (X := inC X) (T := T) (μ := μ) (Gd.inC g) (.rt (Rat.divInt v u)) ((fit_sum hu hu1 h0 (by omega)).mono (by decide)) ((fit_sum hu hu1 v0 (by omega)).mono (by decide)) hk
    rwa [pl_sum hu] at this
section
variable {P : Program} {w : World} {K : PySem.W.Frag} {mg : Str → Option Value} {base : Heap} (T : Tx K mg)
/-- the volume of a water -/
theorem sp_total {μ : List M} {u : Int} {zs : List P2} {Q : KV} {Z : KX} (hu : 0 < u) (hu1 : u ≤ 2 ^ 70) (hl : zs.length ≤ 1000) (hz : ∀ p ∈ zs, 0 ≤ p.2) (hs : Sv zs ≤ 2 ^ 80) (h : Q (rt T.C_Ratio (Rat.divInt (Sv zs) u)) μ) : SpF P w K mg base T.f_total_volume [.tup ((zs.map (mq u)).map T.plq)] μ Q Z := by
  refine spX_of T.F_total_volume sc_total_volume ck_total_volume rfl ?_
  walk_at "start"
  rw [List.append_nil]
  refine wSs_cons (wS_ret (xE_sumS g (by walk_at "in") T.n_sum T.own_Ratio ?_))
  refine wA_cons (wE_lcM v_total_volume_c0 g_total_volume_c0 o_total_volume_c0 g (sc := defScope s_total_volume) rfl (by decide +kernel) (show BlkOk n_total_volume (defScope s_total_volume) _ _ from ⟨rfl, by decide +kernel, by decide +kernel, by decide +kernel, by decide +kernel⟩) zs (fun z => T.plq (mq u z)) (fun z => rt T.C_Ratio (Rat.divInt z.2 u)) ?_ (by omega) ?_ ?_)
  · refine wI_tup ?_
    walk_at "e"
    exact ⟨by rw [List.map_map]; rfl, rfl⟩
  · rintro p hp K1 K2 hk
    walk_at "blk"
    refine wGw_name gn (i := 1) (by walk_at "il") (by decide) ?_
    simp only [o_total_volume_c0, List.map_cons, List.map_nil, wipeD, List.set_cons_succ, List.set_cons_zero]
    walk_at "e"
    walk_at "blk"
    refine wTs_nil (br_T rfl ?_)
    walk_at "blk"
    walk_at "e"
    exact hk
  refine wA_nil (wK_cons ?_)
  walk_at "e"
  refine wK_nil ⟨_, _, rt T.C_Ratio (Rat.divInt (Sv zs) u), rfl, rfl, ?_, .same h⟩
  have e0 : ((0 : Int) : Rat) = Rat.divInt 0 u := by rw [Rat.zero_divInt]; rfl
  rw [e0]
  have := sums_rt (X := cxOf (L2.CX P w) P w K mg base n_total_volume (Str.ofString "total_volume") (defScope s_total_volume) T.a_total_volume cdv A outer s H E) (μ := μ) T g.toGd hu hu1 (by decide) (zs.map (·.2)) 0 (Int.le_refl _) (fun v hv => by obtain ⟨p, hp, rfl⟩ := List.mem_map.mp hv; exact hz p hp) (by rw [Int.zero_add]; exact hs)
  rw [List.map_map, Int.zero_add] at this
  exact this
theorem sp_wvolume {μ : List M} {u : Int} {zs : List P2} {Q : KV} {Z : KX} (hu : 0 < u) (hu1 : u ≤ 2 ^ 70) (hl : zs.length ≤ 1000) (hz : ∀ p ∈ zs, 0 ≤ p.2) (hs : Sv zs ≤ 2 ^ 80) (h : Q (rt T.C_Ratio (Rat.divInt (Sv zs) u)) μ) : SpF P w K mg base T.f_Water_volume [T.wt (zs.map (mq u))] μ Q Z := by
  refine spX_of T.F_Water_volume sc_Water_volume ck_Water_volume rfl ?_
  walk_at "start"
  rw [List.append_nil]
  refine wSs_cons (wS_ret (xE_call T.f_total_volume g (by walk_at "in") T.g_total_volume T.F_total_volume.kp T.b_total_volume ?_))
  refine wA_cons (wE_fld ?_ T.own_Water.cl T.na_Water_rows)
  walk_at "e"
  refine ⟨_, _, .inl rfl, _, rfl, ?_⟩
  walk_at "e"
  exact sp_total T hu hu1 hl hz hs (.same h)
end
section
variable {X : Cx} {W : WX} {k : Nat} {ρ : Env'} {μ : List M} {ob : Expr} {pos : Pos} {Q : KV} {Z : KX}
theorem wE_wvol (T : Tx X.K X.mg) (g : Gd X W k) {u : Int} {zs : List P2} (hu : 0 < u) (hu1 : u ≤ 2 ^ 70) (hl : zs.length ≤ 1000) (hz : ∀ p ∈ zs, 0 ≤ p.2) (hs : Sv zs ≤ 2 ^ 80) (h : wE X W ρ μ ob (fun d μ1 => d = T.wt (zs.map (mq u)) ∧ Q (rt T.C_Ratio (Rat.divInt (Sv zs) u)) μ1) Z) (hk : 45 ≤ k := by decide) (hb : attributeBase ob "volume" X.env (eval ob X.env) = eval ob X.env := by rfl) : wE X W ρ μ (.Attribute ob "volume" pos) Q Z :=
  wE_prop T.f_Water_volume g T.own_Water.cl T.P_Water_volume T.b_Water_volume (h.imp fun d μ1 ⟨ed, hq⟩ => ⟨by rw [ed]; exact .obj rfl, by rw [ed]; exact sp_wvolume T hu hu1 hl hz hs hq⟩) hk hb
end
end


section
set_option hygiene false
local macro_rules | `(tactic| fail "F") => `(tactic| with_reducible refine wF_R1 T g.toGd ?_)
local macro_rules | `(tactic| fail "F") => `(tactic| ((with_reducible refine wF_R2 T g.toGd ?qc1 ?qc2 ?_); (case qc1 => (first | with_reducible assumption | omega)); (case qc2 => exact lt_pow_mono (n := 64) (by (first | with_reducible assumption | omega)) (by decide))))
local macro_rules | `(tactic| fail "F") => `(tactic| with_reducible refine wF_isBB ?_)
local macro_rules | `(tactic| fail "F") => `(tactic| with_reducible refine wF_isIB ?_)
local macro_rules | `(tactic| fail "F") => `(tactic| with_reducible refine wF_isII ?_)
local macro_rules | `(tactic| fail "F") => `(tactic| ((with_reducible refine wF_isRt ?qc ?_); (case qc => exact T.own_Ratio)))
local macro_rules | `(tactic| fail "c") => `(tactic| ((with_reducible refine chkC "Water" ?_); refine xE_make gn ?qa T.g_Water T.mk_Water.kp ?_; (case qa => (repeat (first | with_reducible exact In.z | with_reducible apply In.s)))))
local macro_rules | `(tactic| fail "c") => `(tactic| ((with_reducible refine chkC "Pool" ?_); refine xE_make gn ?qa T.g_Pool T.mk_Pool.kp ?_; (case qa => (repeat (first | with_reducible exact In.z | with_reducible apply In.s)))))
local macro_rules | `(tactic| fail "c") => `(tactic| ((with_reducible refine chkC "Ratio" ?_); refine xE_make gn ?qa T.g_Ratio T.mk_Ratio.kp ?_; (case qa => (repeat (first | with_reducible exact In.z | with_reducible apply In.s)))))
local macro_rules | `(tactic| fail "c") => `(tactic| ((with_reducible refine chkC "_law_take" ?_); refine xE_call T.f_w_take g ?qa T.g_w_take T.F_w_take.kp T.b_w_take ?_; (case qa => (repeat (first | with_reducible exact In.z | with_reducible apply In.s)))))
local macro_rules | `(tactic| fail "n") => `(tactic| ((with_reducible refine chkN "Water" ?_); refine xE_cls gn ?qa T.g_Water ?_; (case qa => (repeat (first | with_reducible exact In.z | with_reducible apply In.s)))))
local macro_rules | `(tactic| fail "n") => `(tactic| ((with_reducible refine chkN "Pool" ?_); refine xE_cls gn ?qa T.g_Pool ?_; (case qa => (repeat (first | with_reducible exact In.z | with_reducible apply In.s)))))
local macro_rules | `(tactic| fail "n") => `(tactic| ((with_reducible refine chkN "Ratio" ?_); refine xE_cls gn ?qa T.g_Ratio ?_; (case qa => (repeat (first | with_reducible exact In.z | with_reducible apply In.s)))))
local macro_rules | `(tactic| fail "n") => `(tactic| ((with_reducible refine chkN "UnknownIndex" ?_); refine xE_cls gn ?qa T.g_UnknownIndex ?_; (case qa => (repeat (first | with_reducible exact In.z | with_reducible apply In.s)))))
local macro_rules | `(tactic| fail "n") => `(tactic| ((with_reducible refine chkN "Touching" ?_); refine xE_cls gn ?qa T.g_Touching ?_; (case qa => (repeat (first | with_reducible exact In.z | with_reducible apply In.s)))))
local macro_rules | `(tactic| fail "n") => `(tactic| ((with_reducible refine chkN "InvalidNumber" ?_); refine xE_cls gn ?qa T.g_InvalidNumber ?_; (case qa => (repeat (first | with_reducible exact In.z | with_reducible apply In.s)))))
local macro_rules | `(tactic| fail "n") => `(tactic| ((with_reducible refine chkN "PoolError" ?_); refine xE_cls gn ?qa T.g_PoolError ?_; (case qa => (repeat (first | with_reducible exact In.z | with_reducible apply In.s)))))
local macro_rules | `(tactic| fail "a") => `(tactic| ((with_reducible refine chkA "bottom" ?_); refine wE_bot T ?_))
local macro_rules | `(tactic| fail "a") => `(tactic| ((with_reducible refine chkA "top" ?_); refine wE_top T ?_))
local macro_rules | `(tactic| fail "O") => `(tactic| (refine sp_take T (by (first | assumption | with_reducible exact at_last | with_reducible exact at_new rfl | with_reducible exact at_left (by assumption) | with_reducible exact List.getElem?_set_self (by assumption) | with_reducible exact at_left (at_left (by assumption)))) (by (first | with_reducible assumption | omega)) (by (first | with_reducible assumption | omega)) ?_; intro d h0 h1))
local macro_rules | `(tactic| fail "O") => `(tactic| refine Exists.intro _ (Exists.intro _ (Exists.intro _ (Exists.intro _ (And.intro rfl (And.intro rfl (And.intro (by (first | assumption | with_reducible exact at_last | with_reducible exact at_new rfl | with_reducible exact at_left (by assumption) | with_reducible exact List.getElem?_set_self (by assumption) | with_reducible exact at_left (at_left (by assumption)))) (And.intro rfl ?_))))))))
local macro_rules | `(tactic| fail "O") => `(tactic| refine Exists.intro _ (Exists.intro _ (Exists.intro _ (And.intro rfl ?_))))
local macro_rules | `(tactic| fail "O") => `(tactic| refine Exists.intro _ (Exists.intro _ (And.intro rfl ?_)))
local macro_rules | `(tactic| fail "O") => `(tactic| refine And.intro (by (simp only [List.length_cons, List.length_nil]; decide)) ?_)
local macro_rules | `(tactic| fail "O") => `(tactic| refine Exists.intro _ (And.intro rfl ?_))
theorem divInt_whole {t u : Int} (h0 : 0 < u) (h : t % u = 0) : Rat.divInt t u = ((t / u : Int) : Rat) := by
  have e : t = (t / u) * u := by
    have := Int.emod_add_mul_ediv t u
    rw [h, Int.zero_add, Int.mul_comm] at this
    exact this.symm
  rw [int_divInt]
  exact (Rat.divInt_eq_divInt_iff (by omega) (by decide)).mpr (by rw [Int.mul_one]; exact e)
section
variable {P : Program} {w : World} {K : PySem.W.Frag} {mg : Str → Option Value} {base : Heap} (T : Tx K mg)
/-- a number to pass on -/
theorem sp_num {μ : List M} {n : Nat} {t u : Int} {Q : KV} {Z : KX} (hb : μ[n]? = some .box) (hu : 0 < u) (hu1 : u < 2 ^ 64) (h : ∀ d, Num T.C_Ratio d (Rat.divInt t u) → Q d μ) : SpF P w K mg base T.f_w_number [.loc n, .int t, .int u] μ Q Z := by
  refine spX_of T.F_w_number sc_w_number ck_w_number rfl ?_
  walk_at "start"
  rw [List.append_nil]
  have rest : ∀ {κ : Ks} {nx : KN}, κ.rt = RetOk μ Q → wSs (cxOf (L2.CX P w) P w K mg base n_w_number (Str.ofString "_law_number") (defScope s_w_number) T.a_w_number cdv A outer s H E) (fun c d _ H => E c d H) [some (.loc n), some (.int t), some (.int u)] μ ((defBody s_w_number).drop 1) nx κ := by
    intro κ nx hκ
    refine wSs_cons (wS_ret ?_)
    rw [hκ]
    walk_at "e"
    exact .same (h _ (.rt _))
  walk_at "s1"
  refine br_dec (fun hm => ?_) (fun hm => ?_)
  · walk_at "e"
    refine br_dec (fun h2 => ?_) (fun h2 => ?_)
    · walk_at "s1"
      first | refine wB_fdiv ⟨hu, Nat.lt_trans (log2_lt (show u.natAbs < 2 ^ 64 by omega) (by decide)) (by decide)⟩ ?_ | skip
      refine .same (h _ ?_)
      rw [divInt_whole hu hm]
      exact .int _
    · exact wSs_nil (rest rfl)
  · exact wSs_nil (rest rfl)
end
end

section
set_option Elab.async false
set_option linter.all false
set_option maxRecDepth 100000
set_option maxHeartbeats 4000000
set_option exponentiation.threshold 20000
open PySem L2 PyProof.Rows
/-- a drop of the law: its middle and its volume -/
def dr (p : Int × Int) : D := .tup [.int p.1, .int p.2]
def drp (p : Int × Int) : PyData := .tuple [.int p.1, .int p.2]
theorem drs_py : ∀ xs : List (Int × Int), D.pys (xs.map dr) = some (xs.map drp)
  | [] => by simp only [List.map_nil, D.pys]
  | p :: xs => by
    simp only [List.map_cons, D.pys, dr, D.py, drs_py xs]
    rfl
theorem drs_lay : ∀ xs : List (Int × Int), PyData.canLayAll0 (xs.map drp) = true ∧ PyData.depthAll (xs.map drp) ≤ 1
  | [] => ⟨by simp only [List.map_nil, PyData.canLayAll0], by simp only [List.map_nil, PyData.depthAll]; decide⟩
  | p :: xs => by
    obtain ⟨h1, h2⟩ := drs_lay xs
    refine ⟨?_, ?_⟩
    · simp only [List.map_cons, PyData.canLayAll0, drp, PyData.canLay0, h1, Bool.and_true]
    · simp only [List.map_cons, PyData.depthAll, drp, PyData.depth]
      omega
theorem drs_shaped (xs : List (Int × Int)) : SeqAt.shaped (.list (xs.map drp)) = true := by
  obtain ⟨h1, h2⟩ := drs_lay xs
  show (PyData.canLay0 _ && decide (PyData.depth _ ≤ 64)) = true
  refine Bool.and_eq_true_iff.mpr ⟨by simp only [PyData.canLay0]; exact h1, decide_eq_true ?_⟩
  have : PyData.depth (.list (xs.map drp)) = PyData.depthAll (xs.map drp) + 1 := by simp only [PyData.depth]
  rw [this]
  exact Nat.le_trans (Nat.succ_le_succ h2) (by decide)
theorem drs_none (xs : List (Int × Int)) : (!PyData.eqv (.list (xs.map drp)) (.list [])) = !xs.isEmpty := by
  cases xs with
  | nil => simp only [List.map_nil, PyData.eqv, PyData.eqvAll]; rfl
  | cons p xs => simp only [List.map_cons, PyData.eqv, PyData.eqvAll]; rfl
theorem drs_los {b : Nat} : ∀ xs : List (Int × Int), D.los b (xs.map dr) = true
  | [] => by simp only [List.map_nil, D.los]
  | p :: xs => by simp only [List.map_cons, D.los, dr, D.lo, drs_los xs, Bool.and_self]
theorem drs_last {p : Int × Int} {ys : List (Int × Int)} : atI ((ys ++ [p]).map dr) (-1) = some (dr p) := by
  have e : ixN (ys.length + 1) (-1) = some ys.length := by simp [ixN]; omega
  simp [atI, e]
end



section
set_option hygiene false
local macro_rules | `(tactic| fail "F") => `(tactic| with_reducible refine wF_R1 T g.toGd ?_)
local macro_rules | `(tactic| fail "F") => `(tactic| ((with_reducible refine wF_R2 T g.toGd ?qc1 ?qc2 ?_); (case qc1 => (first | with_reducible assumption | omega)); (case qc2 => exact lt_pow_mono (n := 64) (by (first | with_reducible assumption | omega)) (by decide))))
local macro_rules | `(tactic| fail "F") => `(tactic| with_reducible refine wF_isBB ?_)
local macro_rules | `(tactic| fail "F") => `(tactic| with_reducible refine wF_isIB ?_)
local macro_rules | `(tactic| fail "F") => `(tactic| with_reducible refine wF_isII ?_)
local macro_rules | `(tactic| fail "F") => `(tactic| ((with_reducible refine wF_isRt ?qc ?_); (case qc => exact T.own_Ratio)))
local macro_rules | `(tactic| fail "c") => `(tactic| ((with_reducible refine chkC "Water" ?_); refine xE_make gn ?qa T.g_Water T.mk_Water.kp ?_; (case qa => (repeat (first | with_reducible exact In.z | with_reducible apply In.s)))))
local macro_rules | `(tactic| fail "c") => `(tactic| ((with_reducible refine chkC "Pool" ?_); refine xE_make gn ?qa T.g_Pool T.mk_Pool.kp ?_; (case qa => (repeat (first | with_reducible exact In.z | with_reducible apply In.s)))))
local macro_rules | `(tactic| fail "c") => `(tactic| ((with_reducible refine chkC "Ratio" ?_); refine xE_make gn ?qa T.g_Ratio T.mk_Ratio.kp ?_; (case qa => (repeat (first | with_reducible exact In.z | with_reducible apply In.s)))))
local macro_rules | `(tactic| fail "c") => `(tactic| ((with_reducible refine chkC "_law_take" ?_); refine xE_call T.f_w_take g ?qa T.g_w_take T.F_w_take.kp T.b_w_take ?_; (case qa => (repeat (first | with_reducible exact In.z | with_reducible apply In.s)))))
local macro_rules | `(tactic| fail "n") => `(tactic| ((with_reducible refine chkN "Water" ?_); refine xE_cls gn ?qa T.g_Water ?_; (case qa => (repeat (first | with_reducible exact In.z | with_reducible apply In.s)))))
local macro_rules | `(tactic| fail "n") => `(tactic| ((with_reducible refine chkN "Pool" ?_); refine xE_cls gn ?qa T.g_Pool ?_; (case qa => (repeat (first | with_reducible exact In.z | with_reducible apply In.s)))))
local macro_rules | `(tactic| fail "n") => `(tactic| ((with_reducible refine chkN "Ratio" ?_); refine xE_cls gn ?qa T.g_Ratio ?_; (case qa => (repeat (first | with_reducible exact In.z | with_reducible apply In.s)))))
local macro_rules | `(tactic| fail "n") => `(tactic| ((with_reducible refine chkN "UnknownIndex" ?_); refine xE_cls gn ?qa T.g_UnknownIndex ?_; (case qa => (repeat (first | with_reducible exact In.z | with_reducible apply In.s)))))
local macro_rules | `(tactic| fail "n") => `(tactic| ((with_reducible refine chkN "Touching" ?_); refine xE_cls gn ?qa T.g_Touching ?_; (case qa => (repeat (first | with_reducible exact In.z | with_reducible apply In.s)))))
local macro_rules | `(tactic| fail "n") => `(tactic| ((with_reducible refine chkN "InvalidNumber" ?_); refine xE_cls gn ?qa T.g_InvalidNumber ?_; (case qa => (repeat (first | with_reducible exact In.z | with_reducible apply In.s)))))
local macro_rules | `(tactic| fail "n") => `(tactic| ((with_reducible refine chkN "PoolError" ?_); refine xE_cls gn ?qa T.g_PoolError ?_; (case qa => (repeat (first | with_reducible exact In.z | with_reducible apply In.s)))))
local macro_rules | `(tactic| fail "a") => `(tactic| ((with_reducible refine chkA "bottom" ?_); refine wE_bot T ?_))
local macro_rules | `(tactic| fail "a") => `(tactic| ((with_reducible refine chkA "top" ?_); refine wE_top T ?_))
local macro_rules | `(tactic| fail "O") => `(tactic| (refine sp_take T (by (first | assumption | with_reducible exact at_last | with_reducible exact at_new rfl | with_reducible exact at_left (by assumption) | with_reducible exact List.getElem?_set_self (by assumption) | with_reducible exact at_left (at_left (by assumption)))) (by (first | with_reducible assumption | omega)) (by (first | with_reducible assumption | omega)) ?_; intro d h0 h1))
local macro_rules | `(tactic| fail "O") => `(tactic| refine Exists.intro _ (Exists.intro _ (Exists.intro _ (Exists.intro _ (And.intro rfl (And.intro rfl (And.intro (by (first | assumption | with_reducible exact at_last | with_reducible exact at_new rfl | with_reducible exact at_left (by assumption) | with_reducible exact List.getElem?_set_self (by assumption) | with_reducible exact at_left (at_left (by assumption)))) (And.intro rfl ?_))))))))
local macro_rules | `(tactic| fail "O") => `(tactic| refine Exists.intro _ (Exists.intro _ (Exists.intro _ (And.intro rfl ?_))))
local macro_rules | `(tactic| fail "O") => `(tactic| refine Exists.intro _ (Exists.intro _ (And.intro rfl ?_)))
local macro_rules | `(tactic| fail "O") => `(tactic| refine And.intro (by (simp only [List.length_cons, List.length_nil]; decide)) ?_)
local macro_rules | `(tactic| fail "O") => `(tactic| refine Exists.intro _ (And.intro rfl ?_))
/-- what is known of a drop -/
def DrOk (c : Int) (p : Int × Int) : Prop := -(500000000 + 1002 * c) ≤ p.1 ∧ p.1 ≤ 500000000 + 1002 * c ∧ 1 ≤ p.2 ∧ p.2 ≤ 1001
theorem DrOk.mono {c c' : Int} {p : Int × Int} (h : DrOk c p) (hc : c ≤ c') : DrOk c' p := by
  obtain ⟨a, b, d, e⟩ := h
  exact ⟨by omega, by omega, d, e⟩
section
variable {P : Program} {w : World} {K : PySem.W.Frag} {mg : Str → Option Value} {base : Heap} (T : Tx K mg)
theorem sp_scene {μ : List M} {n : Nat} {m : Int} {Q : KV} {Z : KX} (hb : μ[n]? = some .box) (m0 : 0 ≤ m) (m1 : m < 1000) (h : ∀ (u : Int) (xs : List (Int × Int)), 0 < u → u ≤ 1000 → xs.length ≤ m.toNat → (∀ p ∈ xs, DrOk 1000 p) → Q (.tup [.int u, .lst (xs.map dr)]) μ) : SpF P w K mg base T.f_w_scene [.loc n, .int m] μ Q Z := by
  refine spX_of T.F_w_scene sc_w_scene ck_w_scene rfl ?_
  walk_at "start"
  rw [List.append_nil]
  have hn : n < μ.length := (List.getElem?_eq_some_iff.mp hb).1
  walk_at "s1"
  have u0 : 0 < v ∧ v ≤ 1000 := by omega
  clear hv
  obtain ⟨unit, rfl⟩ : ∃ unit, unit = v := ⟨_, rfl⟩
  have hm1 : 0 < m + 1 := by omega
  refine wSs_cons (wS_par g ⟨_, _, by walk_at "il", by walk_at "il", by decide⟩ ?_)
  refine wA_cons (wE.imp (Q := fun d μ1 => ∃ i : Int, d = .int i ∧ (0 ≤ i ∧ i < m + 1) ∧ μ = μ1) ?_ ?_)
  · walk_at "e"
    exact ⟨⟨h0, h1⟩, rfl⟩
  rintro _ _ ⟨many, rfl, ⟨k0, k1⟩, rfl⟩
  refine wA_cons (wE_lstL (wA_nil ⟨Nat.zero_le _, ?_⟩))
  walk_at "e"
  walk_at "s1"
  have w0 : 0 < v ∧ v ≤ 500000000 := by omega
  clear hv
  obtain ⟨wide, rfl⟩ : ∃ wide, wide = v := ⟨_, rfl⟩
  refine wSs_cons (wS_for g.po g.calm (wI_range1 T.n_range ?_))
  walk_at "e"
  refine ⟨⟨by omega, by omega⟩, ?_⟩
  refine wFor_inv (fun ds ρ μ' => ∃ xs : List (Int × Int), xs.length + ds.length ≤ m.toNat ∧ (∀ p ∈ xs, DrOk xs.length p) ∧ μ ++ [.lst (xs.map dr)] = μ' ∧ ∃ o1 o2 o3 o4 o5 o6 o7, ρ = [some (.loc n), some (.int m), some (.int unit), some (.int many), some (.loc μ.length), some (.int wide), o1, o2, o3, o4, o5, o6, o7]) ?_ ?_ _ _ _ ⟨[], by simp [rangeD]; omega, by simp, rfl, _, _, _, _, _, _, _, rfl⟩
  rotate_left
  · rintro ρ _ ⟨xs, hl, hx, rfl, o1, o2, o3, o4, o5, o6, o7, rfl⟩
    walk_at "s1"
    refine .new (.tup (.lo rfl (.locL (Nat.le_refl _) at_last (.los ?_) .nil)) .nil) (h _ _ u0.1 u0.2 (by simpa using hl) fun p hp => (hx p hp).mono (by simp at hl; omega))
    exact drs_los xs
  rintro d0 ds ρ _ ⟨xs, hl, hx, rfl, o1, o2, o3, o4, o5, o6, o7, rfl⟩
  walk_at "e"
  walk_at "s1"
  rename_i vol _ _
  have v0 : 1 ≤ 1 + vol ∧ 1 + vol ≤ 1000 := by omega
  obtain ⟨vol1, hvol⟩ : ∃ x, 1 + vol = x := ⟨_, rfl⟩
  rw [hvol] at v0 ⊢
  clear hv
  obtain ⟨form, rfl⟩ : ∃ form, form = d := ⟨_, rfl⟩
  obtain ⟨f0, f1⟩ : 0 ≤ form ∧ form < 5 := ⟨h0, h1⟩
  walk_at "s1"
  have s0 : -wide ≤ d - wide ∧ d - wide ≤ wide := by omega
  obtain ⟨spot, hspot⟩ : ∃ x, d - wide = x := ⟨_, rfl⟩
  rw [hspot] at s0 ⊢
  clear hspot hvol
  have ext : ∀ a b : Int, DrOk (xs.length + 1) (a, b) → (xs ++ [(a, b)]).length + ds.length ≤ m.toNat ∧ (∀ p ∈ xs ++ [(a, b)], DrOk (xs ++ [(a, b)]).length p) := fun a b hab => by
    refine ⟨by simp at hl ⊢; omega, fun p hp => ?_⟩
    rcases List.mem_append.mp hp with hp | hp
    · exact (hx p hp).mono (by simp; omega)
    · rw [List.mem_singleton.mp hp]
      exact hab.mono (by simp)
  have sz : (xs.map dr).length < sizeLine := by
    have := sl_big
    simp at hl ⊢
    omega
  walk_at "s1"
  refine br_dec (fun hf => ?_) (fun hf => ?_)
  · walk_at "e"
    refine wB_neLoc g.toGd at_last (drs_py xs) (drs_shaped xs) ?_
    rw [drs_none]
    walk_at "e"
    rcases List.eq_nil_or_concat xs with rfl | ⟨ys, p, rfl⟩
    · refine br_F rfl (wSs_nil ?_)
      refine wSs_cons (wS_expr (wE_append ?_))
      walk_at "e"
      refine ⟨⟨_, at_last⟩, ?_⟩
      walk_at "e"
      refine ⟨_, at_last, sz, ?_⟩
      obtain ⟨e1, e2⟩ := ext spot vol1 ⟨by simp; omega, by simp; omega, by simp; omega, by simp; omega⟩
      exact wSs_nil ⟨_, e1, e2, by simp [set_last, dr], _, _, _, _, _, _, _, rfl⟩
    · refine br_T (by simp) ?_
      simp only [List.concat_eq_append] at *
      obtain ⟨last, amt⟩ := p
      obtain ⟨p0, p1, p2, p3⟩ := hx (last, amt) (by simp)
      simp only at p0 p1 p2 p3
      walk_at "s1"
      refine wX_at (by walk_at "ixd") drs_last ?_
      walk_at "e"
      walk_at "s1"
      obtain ⟨vol2, hv2⟩ : ∃ x, vol1 + (vol1 + amt) % 2 = x := ⟨_, rfl⟩
      rw [hv2]
      have v2 : 1 ≤ vol2 ∧ vol2 ≤ 1001 := by omega
      walk_at "s1"
      obtain ⟨half, hh⟩ : ∃ x, (vol2 + amt) / 2 = x := ⟨_, rfl⟩
      rw [hh]
      have hh0 : 0 ≤ half ∧ half ≤ 1001 := by omega
      walk_at "s1"
      have hv' : 0 ≤ v ∧ v ≤ 1002 := by omega
      refine wSs_cons (wS_expr (wE_append ?_))
      walk_at "e"
      refine ⟨⟨_, at_last⟩, ?_⟩
      walk_at "e"
      refine ⟨_, at_last, sz, ?_⟩
      obtain ⟨e1, e2⟩ := ext (last + v) vol2 ⟨by simp at p0 ⊢; omega, by simp at p1 ⊢; omega, by simp; omega, by simp; omega⟩
      exact wSs_nil ⟨_, e1, e2, by simp [set_last, dr], _, _, _, _, _, _, _, rfl⟩
  · refine wSs_nil ?_
    refine wSs_cons (wS_expr (wE_append ?_))
    walk_at "e"
    refine ⟨⟨_, at_last⟩, ?_⟩
    walk_at "e"
    refine ⟨_, at_last, sz, ?_⟩
    obtain ⟨e1, e2⟩ := ext spot vol1 ⟨by simp; omega, by simp; omega, by simp; omega, by simp; omega⟩
    exact wSs_nil ⟨_, e1, e2, by simp [set_last, dr], _, _, _, _, _, _, _, rfl⟩
end
end


section
set_option hygiene false
local macro_rules | `(tactic| fail "F") => `(tactic| with_reducible refine wF_R1 T g.toGd ?_)
local macro_rules | `(tactic| fail "F") => `(tactic| ((with_reducible refine wF_R2 T g.toGd ?qc1 ?qc2 ?_); (case qc1 => (first | with_reducible assumption | omega)); (case qc2 => exact lt_pow_mono (n := 64) (by (first | with_reducible assumption | omega)) (by decide))))
local macro_rules | `(tactic| fail "F") => `(tactic| with_reducible refine wF_isBB ?_)
local macro_rules | `(tactic| fail "F") => `(tactic| with_reducible refine wF_isIB ?_)
local macro_rules | `(tactic| fail "F") => `(tactic| with_reducible refine wF_isII ?_)
local macro_rules | `(tactic| fail "F") => `(tactic| ((with_reducible refine wF_isRt ?qc ?_); (case qc => exact T.own_Ratio)))
local macro_rules | `(tactic| fail "c") => `(tactic| ((with_reducible refine chkC "Water" ?_); refine xE_make gn ?qa T.g_Water T.mk_Water.kp ?_; (case qa => (repeat (first | with_reducible exact In.z | with_reducible apply In.s)))))
local macro_rules | `(tactic| fail "c") => `(tactic| ((with_reducible refine chkC "Pool" ?_); refine xE_make gn ?qa T.g_Pool T.mk_Pool.kp ?_; (case qa => (repeat (first | with_reducible exact In.z | with_reducible apply In.s)))))
local macro_rules | `(tactic| fail "c") => `(tactic| ((with_reducible refine chkC "Ratio" ?_); refine xE_make gn ?qa T.g_Ratio T.mk_Ratio.kp ?_; (case qa => (repeat (first | with_reducible exact In.z | with_reducible apply In.s)))))
local macro_rules | `(tactic| fail "c") => `(tactic| ((with_reducible refine chkC "_law_added" ?_); refine xE_call T.f_w_added g ?qa T.g_w_added T.F_w_added.kp T.b_w_added ?_; (case qa => (repeat (first | with_reducible exact In.z | with_reducible apply In.s)))))
local macro_rules | `(tactic| fail "c") => `(tactic| ((with_reducible refine chkC "_law_mixed" ?_); refine xE_call T.f_w_mixed g ?qa T.g_w_mixed T.F_w_mixed.kp T.b_w_mixed ?_; (case qa => (repeat (first | with_reducible exact In.z | with_reducible apply In.s)))))
local macro_rules | `(tactic| fail "c") => `(tactic| ((with_reducible refine chkC "_law_pool" ?_); refine xE_call T.f_w_pool g ?qa T.g_w_pool T.F_w_pool.kp T.b_w_pool ?_; (case qa => (repeat (first | with_reducible exact In.z | with_reducible apply In.s)))))
local macro_rules | `(tactic| fail "c") => `(tactic| ((with_reducible refine chkC "_law_number" ?_); refine xE_call T.f_w_number g ?qa T.g_w_number T.F_w_number.kp T.b_w_number ?_; (case qa => (repeat (first | with_reducible exact In.z | with_reducible apply In.s)))))
local macro_rules | `(tactic| fail "c") => `(tactic| ((with_reducible refine chkC "_law_scene" ?_); refine xE_call T.f_w_scene g ?qa T.g_w_scene T.F_w_scene.kp T.b_w_scene ?_; (case qa => (repeat (first | with_reducible exact In.z | with_reducible apply In.s)))))
local macro_rules | `(tactic| fail "c") => `(tactic| ((with_reducible refine chkC "_law_take" ?_); refine xE_call T.f_w_take g ?qa T.g_w_take T.F_w_take.kp T.b_w_take ?_; (case qa => (repeat (first | with_reducible exact In.z | with_reducible apply In.s)))))
local macro_rules | `(tactic| fail "c") => `(tactic| ((with_reducible refine chkC "_law_box" ?_); refine xE_call T.f_w_box g ?qa T.g_w_box T.F_w_box.kp T.b_w_box ?_; (case qa => (repeat (first | with_reducible exact In.z | with_reducible apply In.s)))))
local macro_rules | `(tactic| fail "n") => `(tactic| ((with_reducible refine chkN "Water" ?_); refine xE_cls gn ?qa T.g_Water ?_; (case qa => (repeat (first | with_reducible exact In.z | with_reducible apply In.s)))))
local macro_rules | `(tactic| fail "n") => `(tactic| ((with_reducible refine chkN "Pool" ?_); refine xE_cls gn ?qa T.g_Pool ?_; (case qa => (repeat (first | with_reducible exact In.z | with_reducible apply In.s)))))
local macro_rules | `(tactic| fail "n") => `(tactic| ((with_reducible refine chkN "Ratio" ?_); refine xE_cls gn ?qa T.g_Ratio ?_; (case qa => (repeat (first | with_reducible exact In.z | with_reducible apply In.s)))))
local macro_rules | `(tactic| fail "n") => `(tactic| ((with_reducible refine chkN "UnknownIndex" ?_); refine xE_cls gn ?qa T.g_UnknownIndex ?_; (case qa => (repeat (first | with_reducible exact In.z | with_reducible apply In.s)))))
local macro_rules | `(tactic| fail "n") => `(tactic| ((with_reducible refine chkN "Touching" ?_); refine xE_cls gn ?qa T.g_Touching ?_; (case qa => (repeat (first | with_reducible exact In.z | with_reducible apply In.s)))))
local macro_rules | `(tactic| fail "n") => `(tactic| ((with_reducible refine chkN "InvalidNumber" ?_); refine xE_cls gn ?qa T.g_InvalidNumber ?_; (case qa => (repeat (first | with_reducible exact In.z | with_reducible apply In.s)))))
local macro_rules | `(tactic| fail "n") => `(tactic| ((with_reducible refine chkN "PoolError" ?_); refine xE_cls gn ?qa T.g_PoolError ?_; (case qa => (repeat (first | with_reducible exact In.z | with_reducible apply In.s)))))
local macro_rules | `(tactic| fail "a") => `(tactic| ((with_reducible refine chkA "bottom" ?_); refine wE_bot T ?_))
local macro_rules | `(tactic| fail "a") => `(tactic| ((with_reducible refine chkA "top" ?_); refine wE_top T ?_))
local macro_rules | `(tactic| fail "O") => `(tactic| (refine sp_take T (by (first | assumption | with_reducible exact at_last | with_reducible exact at_new rfl | with_reducible exact at_left (by assumption) | with_reducible exact List.getElem?_set_self (by assumption) | with_reducible exact at_left (at_left (by assumption)))) (by (first | with_reducible assumption | omega)) (by (first | with_reducible assumption | omega)) ?_; intro d h0 h1))
local macro_rules | `(tactic| fail "O") => `(tactic| refine Exists.intro _ (Exists.intro _ (Exists.intro _ (Exists.intro _ (And.intro rfl (And.intro rfl (And.intro (by (first | assumption | with_reducible exact at_last | with_reducible exact at_new rfl | with_reducible exact at_left (by assumption) | with_reducible exact List.getElem?_set_self (by assumption) | with_reducible exact at_left (at_left (by assumption)))) (And.intro rfl ?_))))))))
local macro_rules | `(tactic| fail "O") => `(tactic| refine Exists.intro _ (Exists.intro _ (Exists.intro _ (And.intro rfl ?_))))
local macro_rules | `(tactic| fail "O") => `(tactic| refine Exists.intro _ (Exists.intro _ (And.intro rfl ?_)))
local macro_rules | `(tactic| fail "O") => `(tactic| refine And.intro (by (simp only [List.length_cons, List.length_nil]; decide)) ?_)
local macro_rules | `(tactic| fail "O") => `(tactic| refine Exists.intro _ (And.intro rfl ?_))
section
variable {P : Program} {w : World} {K : PySem.W.Frag} {mg : Str → Option Value} {base : Heap} (T : Tx K mg)
/-- the pool with this middle and volume -/
theorem sp_pool {μ : List M} {n : Nat} {u : Int} {p : Int × Int} {Q : KV} {Z : KX} (hb : μ[n]? = some .box) (hu : 0 < u) (hu1 : u ≤ 1000000) (hp : DrOk 1000 p) (h : Q (T.pl (Rat.divInt p.1 u) (Rat.divInt p.2 u)) μ) : SpF P w K mg base T.f_w_pool [.loc n, .int u, dr p] μ Q Z := by
  refine spX_of T.F_w_pool sc_w_pool ck_w_pool rfl ?_
  walk_at "start"
  rw [List.append_nil]
  obtain ⟨s, v⟩ := p
  obtain ⟨p0, p1, p2, p3⟩ := hp
  simp only at p0 p1 p2 p3
  unfold dr
  walk_at "s1"
  refine sp_num T hb hu (by omega) fun d1 n1 => ?_
  walk_at "e"
  refine sp_num T hb hu (by omega) fun d2 n2 => ?_
  walk_at "e"
  refine wF_Pool T g.toGd n1 n2 ((fit_dr (by omega) (by omega)).mono (by decide)) (divInt_pos (by omega) hu) ?_
  exact .same h
end
end

section
set_option Elab.async false
set_option linter.all false
set_option maxRecDepth 100000
set_option maxHeartbeats 4000000
set_option exponentiation.threshold 20000
open PySem L2 PyProof.Rows
/-! drops of the waters' scenes as pools -/
def mo (p : Int × Int) : Int × Int := (p.1 * p.2, p.2)
theorem mul_bd' {a b A B : Int} (h1 : -A ≤ a) (h2 : a ≤ A) (h3 : 0 ≤ b) (h4 : b ≤ B) : -(A * B) ≤ a * b ∧ a * b ≤ A * B := by
  have hA : 0 ≤ A := by omega
  have e1 : a * b ≤ A * b := Int.mul_le_mul_of_nonneg_right h2 h3
  have e2 : A * b ≤ A * B := Int.mul_le_mul_of_nonneg_left h4 hA
  have e3 : -A * b ≤ a * b := Int.mul_le_mul_of_nonneg_right h1 h3
  rw [Int.neg_mul] at e3
  omega
/-- a list of small pools is small together -/
theorem bnd_of {c : Int} : ∀ {xs : List P2}, (∀ p ∈ xs, -c ≤ p.1 ∧ p.1 ≤ c ∧ 0 < p.2 ∧ p.2 ≤ 2000) → 0 ≤ c → xs.length * c ≤ 2 ^ 55 → xs.length ≤ 500 → Bnd xs := by
  intro xs h hc h1 h2
  have key : ∀ ys : List P2, (∀ p ∈ ys, -c ≤ p.1 ∧ p.1 ≤ c ∧ 0 < p.2 ∧ p.2 ≤ 2000) → Sm ys ≤ ys.length * c ∧ Sv ys ≤ ys.length * 2000 := by
    intro ys
    induction ys with
    | nil => intro _; exact ⟨by simp [Sm], by simp [Sv]⟩
    | cons p ys ih =>
      intro hp
      obtain ⟨a1, a2⟩ := ih fun q hq => hp q (by simp [hq])
      obtain ⟨b1, b2, b3, b4⟩ := hp p (by simp)
      rw [sm_cons, sv_cons, List.length_cons]
      have e : ((ys.length + 1 : Nat) : Int) = (ys.length : Int) + 1 := by omega
      rw [e, Int.add_mul, Int.add_mul]
      omega
  obtain ⟨k1, k2⟩ := key xs h
  exact ⟨fun p hp => (h p hp).2.2.1, by omega, by omega⟩
theorem mq_mo {u : Int} (hu : 0 < u) {p : P2} (hp : 0 < p.2) : mq u (mo p) = (Rat.divInt p.1 u, Rat.divInt p.2 u) := by
  have e : Rat.divInt (p.1 * p.2) (p.2 * u) = Rat.divInt p.1 u := (Rat.divInt_eq_divInt_iff (Int.ne_of_gt (Int.mul_pos hp hu)) (Int.ne_of_gt hu)).mpr (by rw [Int.mul_assoc])
  show (Rat.divInt (p.1 * p.2) (p.2 * u), Rat.divInt p.2 u) = _
  rw [e]
theorem dr_bnd {xs zs : List P2} (hl : xs.length ≤ 40) (hx : ∀ p ∈ xs, DrOk 1000 p) (hz : zs.Perm xs) : Bnd (zs.map mo) := by
  refine bnd_of (c := 600000000000) (fun q hq => ?_) (by omega) ?_ ?_
  · obtain ⟨p, hpm, rfl⟩ := List.mem_map.mp hq
    obtain ⟨p0, p1, p2, p3⟩ := hx p (hz.mem_iff.mp hpm)
    obtain ⟨c1, c2⟩ := mul_bd' (A := 590000000) (B := 1001) (a := p.1) (b := p.2) (by omega) (by omega) (by omega) (by omega)
    exact ⟨by simp only [mo]; omega, by simp only [mo]; omega, by simp only [mo]; omega, by simp only [mo]; omega⟩
  · rw [List.length_map, hz.length_eq]; omega
  · rw [List.length_map, hz.length_eq]; omega
end



section
set_option hygiene false
local macro_rules | `(tactic| fail "F") => `(tactic| with_reducible refine wF_R1 T g.toGd ?_)
local macro_rules | `(tactic| fail "F") => `(tactic| ((with_reducible refine wF_R2 T g.toGd ?qc1 ?qc2 ?_); (case qc1 => (first | with_reducible assumption | omega)); (case qc2 => exact lt_pow_mono (n := 64) (by (first | with_reducible assumption | omega)) (by decide))))
local macro_rules | `(tactic| fail "F") => `(tactic| with_reducible refine wF_isBB ?_)
local macro_rules | `(tactic| fail "F") => `(tactic| with_reducible refine wF_isIB ?_)
local macro_rules | `(tactic| fail "F") => `(tactic| with_reducible refine wF_isII ?_)
local macro_rules | `(tactic| fail "F") => `(tactic| ((with_reducible refine wF_isRt ?qc ?_); (case qc => exact T.own_Ratio)))
local macro_rules | `(tactic| fail "c") => `(tactic| ((with_reducible refine chkC "Water" ?_); refine xE_make gn ?qa T.g_Water T.mk_Water.kp ?_; (case qa => (repeat (first | with_reducible exact In.z | with_reducible apply In.s)))))
local macro_rules | `(tactic| fail "c") => `(tactic| ((with_reducible refine chkC "Pool" ?_); refine xE_make gn ?qa T.g_Pool T.mk_Pool.kp ?_; (case qa => (repeat (first | with_reducible exact In.z | with_reducible apply In.s)))))
local macro_rules | `(tactic| fail "c") => `(tactic| ((with_reducible refine chkC "Ratio" ?_); refine xE_make gn ?qa T.g_Ratio T.mk_Ratio.kp ?_; (case qa => (repeat (first | with_reducible exact In.z | with_reducible apply In.s)))))
local macro_rules | `(tactic| fail "c") => `(tactic| ((with_reducible refine chkC "_law_added" ?_); refine xE_call T.f_w_added g ?qa T.g_w_added T.F_w_added.kp T.b_w_added ?_; (case qa => (repeat (first | with_reducible exact In.z | with_reducible apply In.s)))))
local macro_rules | `(tactic| fail "c") => `(tactic| ((with_reducible refine chkC "_law_mixed" ?_); refine xE_call T.f_w_mixed g ?qa T.g_w_mixed T.F_w_mixed.kp T.b_w_mixed ?_; (case qa => (repeat (first | with_reducible exact In.z | with_reducible apply In.s)))))
local macro_rules | `(tactic| fail "c") => `(tactic| ((with_reducible refine chkC "_law_pool" ?_); refine xE_call T.f_w_pool g ?qa T.g_w_pool T.F_w_pool.kp T.b_w_pool ?_; (case qa => (repeat (first | with_reducible exact In.z | with_reducible apply In.s)))))
local macro_rules | `(tactic| fail "c") => `(tactic| ((with_reducible refine chkC "_law_number" ?_); refine xE_call T.f_w_number g ?qa T.g_w_number T.F_w_number.kp T.b_w_number ?_; (case qa => (repeat (first | with_reducible exact In.z | with_reducible apply In.s)))))
local macro_rules | `(tactic| fail "c") => `(tactic| ((with_reducible refine chkC "_law_scene" ?_); refine xE_call T.f_w_scene g ?qa T.g_w_scene T.F_w_scene.kp T.b_w_scene ?_; (case qa => (repeat (first | with_reducible exact In.z | with_reducible apply In.s)))))
local macro_rules | `(tactic| fail "c") => `(tactic| ((with_reducible refine chkC "_law_take" ?_); refine xE_call T.f_w_take g ?qa T.g_w_take T.F_w_take.kp T.b_w_take ?_; (case qa => (repeat (first | with_reducible exact In.z | with_reducible apply In.s)))))
local macro_rules | `(tactic| fail "c") => `(tactic| ((with_reducible refine chkC "_law_box" ?_); refine xE_call T.f_w_box g ?qa T.g_w_box T.F_w_box.kp T.b_w_box ?_; (case qa => (repeat (first | with_reducible exact In.z | with_reducible apply In.s)))))
local macro_rules | `(tactic| fail "n") => `(tactic| ((with_reducible refine chkN "Water" ?_); refine xE_cls gn ?qa T.g_Water ?_; (case qa => (repeat (first | with_reducible exact In.z | with_reducible apply In.s)))))
local macro_rules | `(tactic| fail "n") => `(tactic| ((with_reducible refine chkN "Pool" ?_); refine xE_cls gn ?qa T.g_Pool ?_; (case qa => (repeat (first | with_reducible exact In.z | with_reducible apply In.s)))))
local macro_rules | `(tactic| fail "n") => `(tactic| ((with_reducible refine chkN "Ratio" ?_); refine xE_cls gn ?qa T.g_Ratio ?_; (case qa => (repeat (first | with_reducible exact In.z | with_reducible apply In.s)))))
local macro_rules | `(tactic| fail "n") => `(tactic| ((with_reducible refine chkN "UnknownIndex" ?_); refine xE_cls gn ?qa T.g_UnknownIndex ?_; (case qa => (repeat (first | with_reducible exact In.z | with_reducible apply In.s)))))
local macro_rules | `(tactic| fail "n") => `(tactic| ((with_reducible refine chkN "Touching" ?_); refine xE_cls gn ?qa T.g_Touching ?_; (case qa => (repeat (first | with_reducible exact In.z | with_reducible apply In.s)))))
local macro_rules | `(tactic| fail "n") => `(tactic| ((with_reducible refine chkN "InvalidNumber" ?_); refine xE_cls gn ?qa T.g_InvalidNumber ?_; (case qa => (repeat (first | with_reducible exact In.z | with_reducible apply In.s)))))
local macro_rules | `(tactic| fail "n") => `(tactic| ((with_reducible refine chkN "PoolError" ?_); refine xE_cls gn ?qa T.g_PoolError ?_; (case qa => (repeat (first | with_reducible exact In.z | with_reducible apply In.s)))))
local macro_rules | `(tactic| fail "a") => `(tactic| ((with_reducible refine chkA "bottom" ?_); refine wE_bot T ?_))
local macro_rules | `(tactic| fail "a") => `(tactic| ((with_reducible refine chkA "top" ?_); refine wE_top T ?_))
local macro_rules | `(tactic| fail "O") => `(tactic| (refine sp_take T (by (first | assumption | with_reducible exact at_last | with_reducible exact at_new rfl | with_reducible exact at_left (by assumption) | with_reducible exact List.getElem?_set_self (by assumption) | with_reducible exact at_left (at_left (by assumption)))) (by (first | with_reducible assumption | omega)) (by (first | with_reducible assumption | omega)) ?_; intro d h0 h1))
local macro_rules | `(tactic| fail "O") => `(tactic| refine Exists.intro _ (Exists.intro _ (Exists.intro _ (Exists.intro _ (And.intro rfl (And.intro rfl (And.intro (by (first | assumption | with_reducible exact at_last | with_reducible exact at_new rfl | with_reducible exact at_left (by assumption) | with_reducible exact List.getElem?_set_self (by assumption) | with_reducible exact at_left (at_left (by assumption)))) (And.intro rfl ?_))))))))
local macro_rules | `(tactic| fail "O") => `(tactic| refine Exists.intro _ (Exists.intro _ (Exists.intro _ (And.intro rfl ?_))))
local macro_rules | `(tactic| fail "O") => `(tactic| refine Exists.intro _ (Exists.intro _ (And.intro rfl ?_)))
local macro_rules | `(tactic| fail "O") => `(tactic| refine And.intro (by (simp only [List.length_cons, List.length_nil]; decide)) ?_)
local macro_rules | `(tactic| fail "O") => `(tactic| refine Exists.intro _ (And.intro rfl ?_))
theorem er_map {α β : Type} (f : α → β) : ∀ (l : List α) (i : Nat), (l.map f).eraseIdx i = (l.eraseIdx i).map f
  | [], _ => by simp
  | a :: l, 0 => by simp
  | a :: l, i + 1 => by simp [er_map f l i]
theorem er_perm {α : Type} : ∀ {l : List α} {i : Nat} (h : i < l.length), (l[i] :: l.eraseIdx i).Perm l
  | a :: l, 0, _ => by simp
  | a :: l, i + 1, h => by
    have := er_perm (l := l) (i := i) (by simpa using h)
    simp only [List.getElem_cons_succ, List.eraseIdx_cons_succ]
    exact (List.Perm.swap _ _ _).trans (this.cons a)
theorem los_map {α : Type} {rd : α → D} (hlo : ∀ b x, D.lo b (rd x) = true) {b : Nat} : ∀ xs : List α, D.los b (xs.map rd) = true
  | [] => by simp only [List.map_nil, D.los]
  | x :: xs => by simp only [List.map_cons, D.los, hlo b x, los_map hlo xs, Bool.and_self]
section
variable {P : Program} {w : World} {K : PySem.W.Frag} {mg : Str → Option Value} {base : Heap} (T : Tx K mg)
theorem sp_mixedG {α : Type} {rd : α → D} {μ : List M} {n : Nat} {d0 : D} {xs : List α} {Q : KV} {Z : KX} (hb : μ[n]? = some .box) (hl : xs.length ≤ 1000) (hlo : ∀ b x, D.lo b (rd x) = true) (hd0 : Lqd μ d0 (xs.map rd)) (h : ∀ zs : List α, zs.Perm xs → Q (.lst (zs.map rd)) μ) : SpF P w K mg base T.f_w_mixed [.loc n, d0] μ Q Z := by
  refine spX_of T.F_w_mixed sc_w_mixed ck_w_mixed rfl ?_
  walk_at "start"
  rw [List.append_nil]
  have sl := sl_big
  have hn : n < μ.length := (List.getElem?_eq_some_iff.mp hb).1
  refine wSs_cons (wS_par g ⟨_, _, by walk_at "il", by walk_at "il", by decide⟩ ?_)
  walk_at "e"
  refine wF_listM (hd0.elim .inl fun h => .inr (.inr h)) ?_
  refine wA_cons (wE_lstL (wA_nil ⟨Nat.zero_le _, ?_⟩))
  walk_at "e"
  have a0 : ∀ a b : M, (μ ++ [a] ++ [b])[μ.length]? = some a := fun a b => by simp
  have a1 : ∀ a b : M, (μ ++ [a] ++ [b])[(μ ++ [a]).length]? = some b := fun a b => by simp
  have ab : ∀ a b : M, (μ ++ [a] ++ [b])[n]? = some .box := fun a b => at_left (at_left hb)
  have e0 : ∀ a b c : M, (μ ++ [a] ++ [b]).set μ.length c = μ ++ [c] ++ [b] := fun a b c => by simp
  have e1 : ∀ a b c : M, (μ ++ [a] ++ [b]).set (μ ++ [a]).length c = μ ++ [a] ++ [c] := fun a b c => set_last
  have lne : ∀ a c : M, (μ ++ [a]).length = (μ ++ [c]).length := fun a c => by simp
  refine wSs_cons (wS_while (fun m ρ μ' => ∃ ls fs : List α, m = ls.length ∧ ρ = [some (.loc n), some d0, some (.loc μ.length), some (.loc (μ ++ [M.lst (xs.map rd)]).length)] ∧ μ ++ [.lst (ls.map rd)] ++ [.lst (fs.map rd)] = μ' ∧ (fs ++ ls).Perm xs) g.po ⟨xs, [], rfl, rfl, rfl, by simp⟩ ?_)
  rintro m ρ _ ⟨ls, fs, rfl, rfl, rfl, hp⟩
  have hlen : fs.length + ls.length = xs.length := by rw [← List.length_append]; exact hp.length_eq
  have hbx := ab (.lst (ls.map rd)) (.lst (fs.map rd))
  walk_at "e"
  refine wB_neE g.toGd (.inr ⟨_, rfl, a0 _ _⟩) ?_
  walk_at "e"
  cases ls with
  | nil =>
    refine br_F rfl ?_
    rw [List.append_nil] at hp
    walk_at "s1"
    rw [lne (M.lst (xs.map rd)) (M.lst (([] : List α).map rd))]
    rw [List.append_assoc]
    refine .new (.locL (by simp) ?_ (.los (los_map hlo fs)) .nil) (h fs hp)
    rw [← List.append_assoc]
    exact a1 _ _
  | cons l0 ls0 =>
    refine br_T rfl ?_
    obtain ⟨ls, hls⟩ : ∃ ls, ls = l0 :: ls0 := ⟨_, rfl⟩
    rw [← hls] at hp hlen hbx ⊢
    have lp : 0 < ls.length := by rw [hls]; simp
    rw [lne (M.lst (xs.map rd)) (M.lst (ls.map rd))]
    refine wSs_cons (wS_expr (wE_append ?_))
    walk_at "e"
    refine ⟨⟨_, a1 _ _⟩, ?_⟩
    refine wE_popAt ?_
    walk_at "e"
    refine ⟨⟨_, a0 _ _⟩, ?_⟩
    have ha0 := a0 (.lst (ls.map rd)) (.lst (fs.map rd))
    have lm : 0 < ((ls.map rd).length : Int) ∧ ((ls.map rd).length : Int) ≤ 1000 := by rw [List.length_map]; omega
    walk_at "e"
    obtain ⟨i, rfl⟩ : ∃ i : Nat, d = (i : Int) := ⟨d.toNat, by omega⟩
    have il : i < ls.length := by rw [List.length_map] at h1; omega
    refine ⟨i, ls.map rd, rd ls[i], rfl, a0 _ _, by simp [il], by omega, ?_⟩
    rw [e0, lne (M.lst (ls.map rd)) (M.lst ((ls.map rd).eraseIdx i))]
    refine ⟨_, a1 _ _, by rw [List.length_map]; omega, ?_⟩
    rw [e1]
    have em : (ls.map rd).eraseIdx i = (ls.eraseIdx i).map rd := er_map rd ls i
    rw [em]
    refine wSs_nil ⟨(ls.eraseIdx i).length, by rw [List.length_eraseIdx_of_lt il]; omega, ls.eraseIdx i, fs ++ [ls[i]], rfl, by rw [lne (M.lst ((ls.eraseIdx i).map rd)) (M.lst (xs.map rd))], by simp, ?_⟩
    refine List.Perm.trans ?_ hp
    rw [List.append_assoc]
    exact (er_perm il).append_left fs
end
end

section
set_option Elab.async false
set_option linter.all false
theorem divInt_le2 {a b c d : Int} (hb : 0 < b) (hd : 0 < d) : Rat.divInt a b ≤ Rat.divInt c d ↔ a * d ≤ c * b := by
  have e1 : Rat.divInt a b = Rat.divInt (a * d) (b * d) := (Rat.divInt_eq_divInt_iff (by omega) (by have := Int.mul_pos hb hd; omega)).mpr (by grind)
  have e2 : Rat.divInt c d = Rat.divInt (c * b) (b * d) := (Rat.divInt_eq_divInt_iff (by omega) (by have := Int.mul_pos hb hd; omega)).mpr (by grind)
  rw [e1, e2, divInt_le (Int.mul_pos hb hd)]
end


section
set_option Elab.async false
set_option linter.all false
set_option maxRecDepth 100000
set_option maxHeartbeats 4000000
set_option exponentiation.threshold 20000
open PySem L2 PyProof.Rows
/-! pools within pools; sums of waters -/
/-- within another pool, pools as moment and volume -/
def Wi (p q : P2) : Prop := (2 * q.1 - q.2 * q.2) * p.2 ≤ (2 * p.1 - p.2 * p.2) * q.2 ∧ (2 * p.1 + p.2 * p.2) * q.2 ≤ (2 * q.1 + q.2 * q.2) * p.2
theorem Wi.refl (p : P2) : Wi p p := ⟨Int.le_refl _, Int.le_refl _⟩
theorem Wi.trans {p q r : P2} (hp : 0 < p.2) (hq : 0 < q.2) (hr : 0 < r.2) (h1 : Wi p q) (h2 : Wi q r) : Wi p r := by
  obtain ⟨a1, a2⟩ := h1
  obtain ⟨b1, b2⟩ := h2
  have c1 := Int.mul_le_mul_of_nonneg_right a1 (show 0 ≤ r.2 by omega)
  have c2 := Int.mul_le_mul_of_nonneg_right a2 (show 0 ≤ r.2 by omega)
  have d1 := Int.mul_le_mul_of_nonneg_right b1 (show 0 ≤ p.2 by omega)
  have d2 := Int.mul_le_mul_of_nonneg_right b2 (show 0 ≤ p.2 by omega)
  constructor
  · refine Int.le_of_mul_le_mul_right (a := q.2) ?_ hq
    grind
  · refine Int.le_of_mul_le_mul_right (a := q.2) ?_ hq
    grind
theorem wi_mrg {a b : P2} (h : Tou a b) : Wi a (mrg a b) := by
  obtain ⟨m, v⟩ := a
  obtain ⟨n, w⟩ := b
  obtain ⟨h1, h2⟩ := h
  simp only [crs, wid, Wi, mrg] at *
  constructor
  · have e : (2 * m - v * v) * (v + w) - (2 * (m + n) - (v + w) * (v + w)) * v = v * w * (v + w) - 2 * (n * v - m * w) := by grind
    omega
  · have e : (2 * (m + n) + (v + w) * (v + w)) * v - (2 * m + v * v) * (v + w) = v * w * (v + w) + 2 * (n * v - m * w) := by grind
    omega
theorem wi_stp {xs ys : List P2} (hp : Psv xs) (h : Stp xs ys) {p : P2} (hm : p ∈ xs) : ∃ q ∈ ys, Wi p q := by
  obtain ⟨a, b, r, h1, h2, h3⟩ := h
  rcases List.mem_cons.mp (h1.mem_iff.mp hm) with rfl | hm
  · exact ⟨_, h3.mem_iff.mpr (by simp), wi_mrg h2⟩
  · rcases List.mem_cons.mp hm with rfl | hm
    · exact ⟨mrg a p, h3.mem_iff.mpr (by simp), by rw [mrg_comm]; exact wi_mrg h2.symm⟩
    · exact ⟨p, h3.mem_iff.mpr (by simp [hm]), .refl p⟩
theorem wi_runs {xs ys : List P2} (h : Runs xs ys) : Psv xs → ∀ p ∈ xs, ∃ q ∈ ys, Wi p q := by
  induction h with
  | refl e => exact fun _ p hm => ⟨p, e.mem_iff.mp hm, .refl p⟩
  | step s t ih =>
    intro hp p hm
    obtain ⟨q, hq, w1⟩ := wi_stp hp s hm
    have hp2 := s.pos hp
    obtain ⟨r, hr, w2⟩ := ih hp2 q hq
    exact ⟨r, hr, w1.trans (hp p hm) (hp2 q hq) (t.pos hp2 r hr) w2⟩
theorem plL_mq {u : Int} {p : P2} (hu : 0 < u) (hp : 0 < p.2) : plL (mq u p) = Rat.divInt (2 * p.1 - p.2 * p.2) (2 * p.2 * u) := q_lend hu hp
theorem plR_mq {u : Int} {p : P2} (hu : 0 < u) (hp : 0 < p.2) : plR (mq u p) = Rat.divInt (2 * p.1 + p.2 * p.2) (2 * p.2 * u) := q_rend hu hp
theorem cancel2 {a b c d u : Int} (hu : 0 < u) : a * (2 * d * u) ≤ c * (2 * b * u) ↔ a * d ≤ c * b := by
  have e1 : a * (2 * d * u) = a * d * (2 * u) := by grind
  have e2 : c * (2 * b * u) = c * b * (2 * u) := by grind
  rw [e1, e2]
  exact ⟨fun h => Int.le_of_mul_le_mul_right h (by omega), fun h => Int.mul_le_mul_of_nonneg_right h (by omega)⟩
theorem wi_inW {u : Int} {p q : P2} (hu : 0 < u) (hp : 0 < p.2) (hq : 0 < q.2) : inW (mq u p) (mq u q) = true ↔ Wi p q := by
  have p2 : 0 < 2 * p.2 * u := Int.mul_pos (by omega) hu
  have q2 : 0 < 2 * q.2 * u := Int.mul_pos (by omega) hu
  unfold inW
  rw [Bool.and_eq_true, decide_eq_true_eq, decide_eq_true_eq, plL_mq hu hp, plL_mq hu hq, plR_mq hu hp, plR_mq hu hq, divInt_le2 q2 p2, divInt_le2 p2 q2, cancel2 hu, cancel2 hu]
  exact Iff.rfl
theorem wi_inWs {u : Int} {xs ys : List P2} (hu : 0 < u) (hx : Psv xs) (hy : Psv ys) (h : ∀ p ∈ xs, ∃ q ∈ ys, Wi p q) : inWs (xs.map (mq u)) (ys.map (mq u)) = true := by
  unfold inWs
  rw [List.all_eq_true]
  intro p' hp'
  obtain ⟨p, hp, rfl⟩ := List.mem_map.mp hp'
  obtain ⟨q, hq, w⟩ := h p hp
  rw [List.any_eq_true]
  exact ⟨_, List.mem_map_of_mem hq, (wi_inW hu (hx p hp) (hy q hq)).mpr w⟩
/-- the middle of a pool that lies within one of a water -/
theorem wi_mid {u : Int} {p : P2} {ys : List P2} (hu : 0 < u) (hp : 0 < p.2) (hy : Psv ys) (h : ∃ q ∈ ys, Wi p q) : (ys.map (mq u)).any (inPl (mq u p).1) = true := by
  obtain ⟨q, hq, w⟩ := h
  rw [List.any_eq_true]
  refine ⟨_, List.mem_map_of_mem hq, ?_⟩
  have hw := (wi_inW hu hp (hy q hq)).mpr w
  unfold inW at hw
  unfold inPl
  rw [Bool.and_eq_true, decide_eq_true_eq, decide_eq_true_eq] at hw ⊢
  have h0 : (0 : Rat) ≤ (mq u p).2 / r2 := by
    have : 0 ≤ Rat.divInt p.2 u := Rat.divInt_nonneg (by omega) (by omega)
    show 0 ≤ Rat.divInt p.2 u / r2
    have r : (r2 : Rat) = 2 := rfl
    rw [r]
    grind
  have e1 : plL (mq u p) ≤ (mq u p).1 := by show (mq u p).1 - (mq u p).2 / r2 ≤ _; grind
  have e2 : (mq u p).1 ≤ plR (mq u p) := by show _ ≤ (mq u p).1 + (mq u p).2 / r2; grind
  exact ⟨Rat.le_trans hw.1 e1, Rat.le_trans e2 hw.2⟩
/-! sums of waters -/
theorem Runs.appR {xs ys : List P2} (h : Runs xs ys) : ∀ zs : List P2, Runs (zs ++ xs) (zs ++ ys)
  | [] => h
  | z :: zs => Runs.cons (Runs.appR h zs)
theorem Runs.permR {xs ys ys' : List P2} (h : Runs xs ys) (e : ys.Perm ys') : Runs xs ys' := h.trans (.refl e)
theorem Runs.appL {xs ys : List P2} (h : Runs xs ys) (zs : List P2) : Runs (xs ++ zs) (ys ++ zs) := (Runs.perm (h.appR zs) List.perm_append_comm).permR List.perm_append_comm
theorem Runs.app {xs ys as bs : List P2} (h : Runs xs ys) (h2 : Runs as bs) : Runs (xs ++ as) (ys ++ bs) := (h.appL as).trans (h2.appR ys)
theorem perm_flat {xs ys : List (List P2)} (h : xs.Perm ys) : xs.flatten.Perm ys.flatten := by
  induction h with
  | nil => exact .refl _
  | cons x _ ih => rw [List.flatten_cons, List.flatten_cons]; exact ih.append_left x
  | swap x y l =>
    simp only [List.flatten_cons]
    rw [← List.append_assoc, ← List.append_assoc]
    exact List.Perm.append_right _ List.perm_append_comm
  | trans _ _ i1 i2 => exact i1.trans i2
theorem flat_set {i : Nat} {x : P2} : ∀ {qs : List (List P2)} {q : List P2}, qs[i]? = some q → (qs.set i (q ++ [x])).flatten.Perm (x :: qs.flatten)
  := by
  induction i with
  | zero =>
    intro qs q h
    cases qs with
    | nil => cases h
    | cons a qs =>
      cases h
      rw [List.set_cons_zero, List.flatten_cons, List.flatten_cons, List.append_assoc]
      exact List.perm_middle
  | succ i ih =>
    intro qs q h
    cases qs with
    | nil => cases h
    | cons a qs =>
      rw [List.set_cons_succ, List.flatten_cons, List.flatten_cons]
      exact ((ih (by simpa using h)).append_left a).trans List.perm_middle
theorem sv_stp {xs ys : List P2} (h : Stp xs ys) : Sv xs = Sv ys := by
  obtain ⟨a, b, r, h1, _, h3⟩ := h
  rw [sv_perm h1, sv_perm h3, sv_cons, sv_cons, sv_cons]
  show a.2 + (b.2 + Sv r) = a.2 + b.2 + Sv r
  omega
theorem sv_runs {xs ys : List P2} (h : Runs xs ys) : Sv xs = Sv ys := by
  induction h with
  | refl e => exact sv_perm e
  | step s _ ih => rw [sv_stp s, ih]
end



section
set_option hygiene false
local macro_rules | `(tactic| fail "F") => `(tactic| with_reducible refine wF_R1 T g.toGd ?_)
local macro_rules | `(tactic| fail "F") => `(tactic| ((with_reducible refine wF_R2 T g.toGd ?qc1 ?qc2 ?_); (case qc1 => (first | with_reducible assumption | omega)); (case qc2 => exact lt_pow_mono (n := 64) (by (first | with_reducible assumption | omega)) (by decide))))
local macro_rules | `(tactic| fail "F") => `(tactic| with_reducible refine wF_isBB ?_)
local macro_rules | `(tactic| fail "F") => `(tactic| with_reducible refine wF_isIB ?_)
local macro_rules | `(tactic| fail "F") => `(tactic| with_reducible refine wF_isII ?_)
local macro_rules | `(tactic| fail "F") => `(tactic| ((with_reducible refine wF_isRt ?qc ?_); (case qc => exact T.own_Ratio)))
local macro_rules | `(tactic| fail "c") => `(tactic| ((with_reducible refine chkC "Water" ?_); refine xE_make gn ?qa T.g_Water T.mk_Water.kp ?_; (case qa => (repeat (first | with_reducible exact In.z | with_reducible apply In.s)))))
local macro_rules | `(tactic| fail "c") => `(tactic| ((with_reducible refine chkC "Pool" ?_); refine xE_make gn ?qa T.g_Pool T.mk_Pool.kp ?_; (case qa => (repeat (first | with_reducible exact In.z | with_reducible apply In.s)))))
local macro_rules | `(tactic| fail "c") => `(tactic| ((with_reducible refine chkC "Ratio" ?_); refine xE_make gn ?qa T.g_Ratio T.mk_Ratio.kp ?_; (case qa => (repeat (first | with_reducible exact In.z | with_reducible apply In.s)))))
local macro_rules | `(tactic| fail "c") => `(tactic| ((with_reducible refine chkC "_law_added" ?_); refine xE_call T.f_w_added g ?qa T.g_w_added T.F_w_added.kp T.b_w_added ?_; (case qa => (repeat (first | with_reducible exact In.z | with_reducible apply In.s)))))
local macro_rules | `(tactic| fail "c") => `(tactic| ((with_reducible refine chkC "_law_mixed" ?_); refine xE_call T.f_w_mixed g ?qa T.g_w_mixed T.F_w_mixed.kp T.b_w_mixed ?_; (case qa => (repeat (first | with_reducible exact In.z | with_reducible apply In.s)))))
local macro_rules | `(tactic| fail "c") => `(tactic| ((with_reducible refine chkC "_law_pool" ?_); refine xE_call T.f_w_pool g ?qa T.g_w_pool T.F_w_pool.kp T.b_w_pool ?_; (case qa => (repeat (first | with_reducible exact In.z | with_reducible apply In.s)))))
local macro_rules | `(tactic| fail "c") => `(tactic| ((with_reducible refine chkC "_law_number" ?_); refine xE_call T.f_w_number g ?qa T.g_w_number T.F_w_number.kp T.b_w_number ?_; (case qa => (repeat (first | with_reducible exact In.z | with_reducible apply In.s)))))
local macro_rules | `(tactic| fail "c") => `(tactic| ((with_reducible refine chkC "_law_scene" ?_); refine xE_call T.f_w_scene g ?qa T.g_w_scene T.F_w_scene.kp T.b_w_scene ?_; (case qa => (repeat (first | with_reducible exact In.z | with_reducible apply In.s)))))
local macro_rules | `(tactic| fail "c") => `(tactic| ((with_reducible refine chkC "_law_take" ?_); refine xE_call T.f_w_take g ?qa T.g_w_take T.F_w_take.kp T.b_w_take ?_; (case qa => (repeat (first | with_reducible exact In.z | with_reducible apply In.s)))))
local macro_rules | `(tactic| fail "c") => `(tactic| ((with_reducible refine chkC "_law_box" ?_); refine xE_call T.f_w_box g ?qa T.g_w_box T.F_w_box.kp T.b_w_box ?_; (case qa => (repeat (first | with_reducible exact In.z | with_reducible apply In.s)))))
local macro_rules | `(tactic| fail "n") => `(tactic| ((with_reducible refine chkN "Water" ?_); refine xE_cls gn ?qa T.g_Water ?_; (case qa => (repeat (first | with_reducible exact In.z | with_reducible apply In.s)))))
local macro_rules | `(tactic| fail "n") => `(tactic| ((with_reducible refine chkN "Pool" ?_); refine xE_cls gn ?qa T.g_Pool ?_; (case qa => (repeat (first | with_reducible exact In.z | with_reducible apply In.s)))))
local macro_rules | `(tactic| fail "n") => `(tactic| ((with_reducible refine chkN "Ratio" ?_); refine xE_cls gn ?qa T.g_Ratio ?_; (case qa => (repeat (first | with_reducible exact In.z | with_reducible apply In.s)))))
local macro_rules | `(tactic| fail "n") => `(tactic| ((with_reducible refine chkN "UnknownIndex" ?_); refine xE_cls gn ?qa T.g_UnknownIndex ?_; (case qa => (repeat (first | with_reducible exact In.z | with_reducible apply In.s)))))
local macro_rules | `(tactic| fail "n") => `(tactic| ((with_reducible refine chkN "Touching" ?_); refine xE_cls gn ?qa T.g_Touching ?_; (case qa => (repeat (first | with_reducible exact In.z | with_reducible apply In.s)))))
local macro_rules | `(tactic| fail "n") => `(tactic| ((with_reducible refine chkN "InvalidNumber" ?_); refine xE_cls gn ?qa T.g_InvalidNumber ?_; (case qa => (repeat (first | with_reducible exact In.z | with_reducible apply In.s)))))
local macro_rules | `(tactic| fail "n") => `(tactic| ((with_reducible refine chkN "PoolError" ?_); refine xE_cls gn ?qa T.g_PoolError ?_; (case qa => (repeat (first | with_reducible exact In.z | with_reducible apply In.s)))))
local macro_rules | `(tactic| fail "a") => `(tactic| ((with_reducible refine chkA "bottom" ?_); refine wE_bot T ?_))
local macro_rules | `(tactic| fail "a") => `(tactic| ((with_reducible refine chkA "top" ?_); refine wE_top T ?_))
local macro_rules | `(tactic| fail "O") => `(tactic| (refine sp_take T (by (first | assumption | with_reducible exact at_last | with_reducible exact at_new rfl | with_reducible exact at_left (by assumption) | with_reducible exact List.getElem?_set_self (by assumption) | with_reducible exact at_left (at_left (by assumption)))) (by (first | with_reducible assumption | omega)) (by (first | with_reducible assumption | omega)) ?_; intro d h0 h1))
local macro_rules | `(tactic| fail "O") => `(tactic| refine Exists.intro _ (Exists.intro _ (Exists.intro _ (Exists.intro _ (And.intro rfl (And.intro rfl (And.intro (by (first | assumption | with_reducible exact at_last | with_reducible exact at_new rfl | with_reducible exact at_left (by assumption) | with_reducible exact List.getElem?_set_self (by assumption) | with_reducible exact at_left (at_left (by assumption)))) (And.intro rfl ?_))))))))
local macro_rules | `(tactic| fail "O") => `(tactic| refine Exists.intro _ (Exists.intro _ (Exists.intro _ (And.intro rfl ?_))))
local macro_rules | `(tactic| fail "O") => `(tactic| refine Exists.intro _ (Exists.intro _ (And.intro rfl ?_)))
local macro_rules | `(tactic| fail "O") => `(tactic| refine And.intro (by (simp only [List.length_cons, List.length_nil]; decide)) ?_)
local macro_rules | `(tactic| fail "O") => `(tactic| refine Exists.intro _ (And.intro rfl ?_))
theorem split_at {α : Type} {xs : List α} {i : Nat} (h : i + 1 < xs.length) : ∃ A a b C, xs = A ++ a :: b :: C ∧ A.length = i := by
  refine ⟨xs.take i, xs[i], xs[i + 1], xs.drop (i + 2), ?_, by rw [List.length_take]; omega⟩
  rw [List.getElem_cons_drop, List.getElem_cons_drop, List.take_append_drop]
section
variable {P : Program} {w : World} {K : PySem.W.Frag} {mg : Str → Option Value} {base : Heap} (T : Tx K mg)
/-- a water, its pools in parts -/
abbrev Tx.wq (T : Tx K mg) (u : Int) (l : List P2) : D := T.wt (l.map (mq u))
theorem sp_added {μ : List M} {n : Nat} {u : Int} {ls : List (List P2)} {Q : KV} {Z : KX} (hb : μ[n]? = some .box) (hu : 0 < u) (hu1 : u ≤ 1000000) (hl : ls.length ≤ 100) (hne : ls ≠ []) (ha : ∀ l ∈ ls, Asc l) (hB : Bnd ls.flatten) (hfl : ls.flatten.length ≤ 1000)
    (h : ∀ l, Asc l → Runs ls.flatten l → Q (T.wq u l) μ) : SpF P w K mg base T.f_w_added [.loc n, .lst (ls.map (T.wq u))] μ Q Z := by
  refine spX_of T.F_w_added sc_w_added ck_w_added rfl ?_
  walk_at "start"
  rw [List.append_nil]
  have sl := sl_big
  walk_at "s1"
  refine wF_list (.inl rfl) ?_
  walk_at "e"
  refine wSs_cons (wS_while (fun m ρ μ' => ∃ rs : List (List P2), m = rs.length ∧ rs ≠ [] ∧ (∀ l ∈ rs, Asc l) ∧ Runs ls.flatten rs.flatten ∧ rs.length ≤ 100 ∧ μ = μ' ∧ ∃ o3, ρ = [some (.loc n), some (.lst (ls.map (T.wq u))), some (.lst (rs.map (T.wq u))), o3]) g.po ⟨ls, rfl, hne, ha, .refl (.refl _), hl, rfl, _, rfl⟩ ?_)
  rintro m ρ _ ⟨rs, rfl, rne, ra, rr, rl, rfl, o3, rfl⟩
  have lm : ((rs.map (T.wq u)).length : Int) = rs.length := by rw [List.length_map]
  have rp : 0 < rs.length := List.length_pos_iff.mpr rne
  have bR := hB.runs rr
  walk_at "e"
  refine br_dec (fun hc => ?_) (fun hc => ?_)
  · walk_at "s1"
    obtain ⟨i, rfl⟩ : ∃ i : Nat, d = (i : Int) := ⟨d.toNat, by omega⟩
    obtain ⟨A, a, b, C, rfl, rfl⟩ := split_at (xs := rs) (i := i) (by omega)
    have e1 : (A ++ a :: b :: C).flatten = A.flatten ++ ((a ++ b) ++ C.flatten) := by simp [List.flatten_append]
    have bab : Bnd (a ++ b) := by
      rw [e1] at bR
      exact (bR.app).left
    have lab : a.length + b.length ≤ 10000 := by
      have h1 := rr.len
      rw [e1] at h1
      simp only [List.length_append] at h1
      omega
    refine wSs_cons (wS_set gn ⟨_, by walk_at "ix"⟩ (wE_bin (wE_bin (wE_upto ?_))))
    walk_at "e"
    refine ⟨A.length, _, rfl, .inl rfl, ?_⟩
    walk_at "e"
    refine wX_at (i := ((A.length : Nat) : Int)) (d := T.wq u a) (by walk_at "ixd") (atI_ofNat (by simp)) ?_
    walk_at "e"
    rw [show ((A.length : Nat) : Int) + 1 = ((A.length + 1 : Nat) : Int) by omega]
    refine wX_at (d := T.wq u b) (by walk_at "ixd") (atI_ofNat (by simp)) ?_
    walk_at "e"
    refine wB_addW T g.toGd hu hu1 lab bab fun zs hz1 hz2 => ?_
    walk_at "e"
    refine wB_catL (by simp at rl ⊢; omega) ?_
    refine wE_from ?_
    walk_at "e"
    refine ⟨A.length + 2, _, congrArg D.int (by omega), .inl rfl, ?_⟩
    refine wB_catL (by simp at rl ⊢; omega) ?_
    walk_at "e"
    have e2 : ((A ++ a :: b :: C).map (T.wq u)).take A.length ++ [T.wt (zs.map (mq u))] ++ ((A ++ a :: b :: C).map (T.wq u)).drop (A.length + 2) = (A ++ zs :: C).map (T.wq u) := by
      rw [← List.map_take, ← List.map_drop, List.take_left', show (A ++ a :: b :: C).drop (A.length + 2) = C by
        rw [List.drop_append, List.drop_of_length_le (by omega), show A.length + 2 - A.length = 2 by omega]; rfl]
      · simp
      · rfl
    rw [e2]
    refine wSs_nil ⟨(A ++ zs :: C).length, by simp, A ++ zs :: C, rfl, by simp, fun l hl' => ?_, ?_, by simp at rl ⊢; omega, rfl, _, rfl⟩
    · rcases List.mem_append.mp hl' with h1 | h1
      · exact ra l (by simp [h1])
      · rcases List.mem_cons.mp h1 with rfl | h1
        · exact hz1
        · exact ra l (by simp [h1])
    · refine rr.trans ?_
      rw [e1, show (A ++ zs :: C).flatten = A.flatten ++ (zs ++ C.flatten) by simp [List.flatten_append]]
      exact (hz2.appL _).appR _
  · have r1 : rs.length = 1 := by omega
    obtain ⟨l, rfl⟩ := List.length_eq_one_iff.mp r1
    walk_at "s1"
    refine .same (h l (ra l (by simp)) ?_)
    have e : [l].flatten = l := by simp
    rw [e] at rr
    exact rr
end
theorem bls_pys : ∀ bs : List Bool, D.pys (bs.map D.bl) = some (bs.map PyData.bool)
  | [] => by simp only [List.map_nil, D.pys]
  | b :: bs => by
    simp only [List.map_cons, D.pys, D.py, bls_pys bs]
    rfl
theorem bls_lay : ∀ bs : List Bool, PyData.canLayAll0 (bs.map PyData.bool) = true ∧ PyData.depthAll (bs.map PyData.bool) ≤ 1
  | [] => ⟨by simp only [List.map_nil, PyData.canLayAll0], by simp only [List.map_nil, PyData.depthAll]; decide⟩
  | b :: bs => by
    obtain ⟨h1, h2⟩ := bls_lay bs
    refine ⟨?_, ?_⟩
    · simp only [List.map_cons, PyData.canLayAll0, PyData.canLay0, h1, Bool.and_true]
    · simp only [List.map_cons, PyData.depthAll, PyData.depth]
      omega
theorem bls_shaped (bs : List Bool) : SeqAt.shaped (.list (bs.map PyData.bool)) = true := by
  obtain ⟨h1, h2⟩ := bls_lay bs
  show (PyData.canLay0 _ && decide (PyData.depth _ ≤ 64)) = true
  refine Bool.and_eq_true_iff.mpr ⟨by simp only [PyData.canLay0]; exact h1, decide_eq_true ?_⟩
  have : PyData.depth (.list (bs.map PyData.bool)) = PyData.depthAll (bs.map PyData.bool) + 1 := by simp only [PyData.depth]
  rw [this]
  exact Nat.le_trans (Nat.succ_le_succ h2) (by decide)
/-- b in a list of truths -/
theorem wB_inBs {X : Cx} {W : WX} {k : Nat} {μ : List M} {Q : KV} {Z : KX} (g : Gd X W k) {bs : List Bool} {b : Bool} (h : Q (.bl (bs.any fun z => z == b)) μ) : wB X W (compareOp .In) (.bl b) (.lst (bs.map D.bl)) μ Q Z := by
  refine .ofV (opO_of (op_inD (by have := g.hr.un; omega)) fun σ x y H Q L G o r1 r2 c => ⟨.bool b, bs.map PyData.bool, r1.dp o.sub rfl, r2.dp o.sub (by simp only [D.py, bls_pys]; rfl), rfl, bls_shaped bs, CO.now (W := W0) (σ := σ) c o (rep_bl.mpr ?_)⟩) h
  rw [List.any_map]
  congr 1
end


section
set_option hygiene false
local macro_rules | `(tactic| fail "B") => `(tactic| ((with_reducible refine chkCmL .LtE ?_); refine wE_leL T g.toGd ?_; refine Exists.intro _ (And.intro (by (first | exact Num.rt _ | exact Num.int _ | assumption)) (And.intro (And.intro (by (first | with_reducible assumption | exact Fit.mono (by (repeat' (first | with_reducible assumption | with_reducible exact fit_two | with_reducible apply fit_add | with_reducible apply fit_sub | with_reducible apply fit_mul | with_reducible apply fit_half | with_reducible apply fit_rabs | with_reducible apply fit_neg))) (by decide) | exact Fit.mono (n := 64) (fit_int (by omega) (by decide)) (by decide))) (by (first | with_reducible assumption | exact Fit.mono (by (repeat' (first | with_reducible assumption | with_reducible exact fit_two | with_reducible apply fit_add | with_reducible apply fit_sub | with_reducible apply fit_mul | with_reducible apply fit_half | with_reducible apply fit_rabs | with_reducible apply fit_neg))) (by decide) | exact Fit.mono (n := 64) (fit_int (by omega) (by decide)) (by decide)))) ?_))))
local macro_rules | `(tactic| fail "B") => `(tactic| ((with_reducible refine chkCm .NotEq ?_); refine wE_neR T g.toGd ?_; refine Exists.intro _ (And.intro (by (first | exact Num.rt _ | exact Num.int _ | assumption)) ?_)))
local macro_rules | `(tactic| fail "B") => `(tactic| ((with_reducible refine chkCm .Eq ?_); refine wE_eqR T g.toGd ?_; refine Exists.intro _ (And.intro (by (first | exact Num.rt _ | exact Num.int _ | assumption)) ?_)))
local macro_rules | `(tactic| fail "B") => `(tactic| ((with_reducible refine chkCm .GtE ?_); refine wE_geR T g.toGd ?_; refine Exists.intro _ (And.intro (by (first | exact Num.rt _ | exact Num.int _ | assumption)) (And.intro (And.intro (by (first | with_reducible assumption | exact Fit.mono (by (repeat' (first | with_reducible assumption | with_reducible exact fit_two | with_reducible apply fit_add | with_reducible apply fit_sub | with_reducible apply fit_mul | with_reducible apply fit_half | with_reducible apply fit_rabs | with_reducible apply fit_neg))) (by decide) | exact Fit.mono (n := 64) (fit_int (by omega) (by decide)) (by decide))) (by (first | with_reducible assumption | exact Fit.mono (by (repeat' (first | with_reducible assumption | with_reducible exact fit_two | with_reducible apply fit_add | with_reducible apply fit_sub | with_reducible apply fit_mul | with_reducible apply fit_half | with_reducible apply fit_rabs | with_reducible apply fit_neg))) (by decide) | exact Fit.mono (n := 64) (fit_int (by omega) (by decide)) (by decide)))) ?_))))
local macro_rules | `(tactic| fail "B") => `(tactic| ((with_reducible refine chkCm .Gt ?_); refine wE_gtR T g.toGd ?_; refine Exists.intro _ (And.intro (by (first | exact Num.rt _ | exact Num.int _ | assumption)) (And.intro (And.intro (by (first | with_reducible assumption | exact Fit.mono (by (repeat' (first | with_reducible assumption | with_reducible exact fit_two | with_reducible apply fit_add | with_reducible apply fit_sub | with_reducible apply fit_mul | with_reducible apply fit_half | with_reducible apply fit_rabs | with_reducible apply fit_neg))) (by decide) | exact Fit.mono (n := 64) (fit_int (by omega) (by decide)) (by decide))) (by (first | with_reducible assumption | exact Fit.mono (by (repeat' (first | with_reducible assumption | with_reducible exact fit_two | with_reducible apply fit_add | with_reducible apply fit_sub | with_reducible apply fit_mul | with_reducible apply fit_half | with_reducible apply fit_rabs | with_reducible apply fit_neg))) (by decide) | exact Fit.mono (n := 64) (fit_int (by omega) (by decide)) (by decide)))) ?_))))
local macro_rules | `(tactic| fail "B") => `(tactic| ((with_reducible refine chkCm .Lt ?_); refine wE_ltR T g.toGd ?_; refine Exists.intro _ (And.intro (by (first | exact Num.rt _ | exact Num.int _ | assumption)) (And.intro (And.intro (by (first | with_reducible assumption | exact Fit.mono (by (repeat' (first | with_reducible assumption | with_reducible exact fit_two | with_reducible apply fit_add | with_reducible apply fit_sub | with_reducible apply fit_mul | with_reducible apply fit_half | with_reducible apply fit_rabs | with_reducible apply fit_neg))) (by decide) | exact Fit.mono (n := 64) (fit_int (by omega) (by decide)) (by decide))) (by (first | with_reducible assumption | exact Fit.mono (by (repeat' (first | with_reducible assumption | with_reducible exact fit_two | with_reducible apply fit_add | with_reducible apply fit_sub | with_reducible apply fit_mul | with_reducible apply fit_half | with_reducible apply fit_rabs | with_reducible apply fit_neg))) (by decide) | exact Fit.mono (n := 64) (fit_int (by omega) (by decide)) (by decide)))) ?_))))
local macro_rules | `(tactic| fail "B") => `(tactic| ((with_reducible refine chkCm .LtE ?_); refine wE_leR T g.toGd ?_; refine Exists.intro _ (And.intro (by (first | exact Num.rt _ | exact Num.int _ | assumption)) (And.intro (And.intro (by (first | with_reducible assumption | exact Fit.mono (by (repeat' (first | with_reducible assumption | with_reducible exact fit_two | with_reducible apply fit_add | with_reducible apply fit_sub | with_reducible apply fit_mul | with_reducible apply fit_half | with_reducible apply fit_rabs | with_reducible apply fit_neg))) (by decide) | exact Fit.mono (n := 64) (fit_int (by omega) (by decide)) (by decide))) (by (first | with_reducible assumption | exact Fit.mono (by (repeat' (first | with_reducible assumption | with_reducible exact fit_two | with_reducible apply fit_add | with_reducible apply fit_sub | with_reducible apply fit_mul | with_reducible apply fit_half | with_reducible apply fit_rabs | with_reducible apply fit_neg))) (by decide) | exact Fit.mono (n := 64) (fit_int (by omega) (by decide)) (by decide)))) ?_))))
local macro_rules | `(tactic| fail "B") => `(tactic| ((with_reducible refine chkMul ?_); refine wE_mulRt T g.toGd ?_; refine Exists.intro _ (And.intro (by (first | exact Num.rt _ | exact Num.int _ | assumption)) (And.intro (And.intro (by (first | with_reducible assumption | exact Fit.mono (by (repeat' (first | with_reducible assumption | with_reducible exact fit_two | with_reducible apply fit_add | with_reducible apply fit_sub | with_reducible apply fit_mul | with_reducible apply fit_half | with_reducible apply fit_rabs | with_reducible apply fit_neg))) (by decide) | exact Fit.mono (n := 64) (fit_int (by omega) (by decide)) (by decide))) (by (first | with_reducible assumption | exact Fit.mono (by (repeat' (first | with_reducible assumption | with_reducible exact fit_two | with_reducible apply fit_add | with_reducible apply fit_sub | with_reducible apply fit_mul | with_reducible apply fit_half | with_reducible apply fit_rabs | with_reducible apply fit_neg))) (by decide) | exact Fit.mono (n := 64) (fit_int (by omega) (by decide)) (by decide)))) ?_))))
local macro_rules | `(tactic| fail "B") => `(tactic| ((with_reducible refine chkSub ?_); refine wE_subR T g.toGd ?_; refine Exists.intro _ (And.intro (by (first | exact Num.rt _ | exact Num.int _ | assumption)) (And.intro (And.intro (by (first | with_reducible assumption | exact Fit.mono (by (repeat' (first | with_reducible assumption | with_reducible exact fit_two | with_reducible apply fit_add | with_reducible apply fit_sub | with_reducible apply fit_mul | with_reducible apply fit_half | with_reducible apply fit_rabs | with_reducible apply fit_neg))) (by decide) | exact Fit.mono (n := 64) (fit_int (by omega) (by decide)) (by decide))) (by (first | with_reducible assumption | exact Fit.mono (by (repeat' (first | with_reducible assumption | with_reducible exact fit_two | with_reducible apply fit_add | with_reducible apply fit_sub | with_reducible apply fit_mul | with_reducible apply fit_half | with_reducible apply fit_rabs | with_reducible apply fit_neg))) (by decide) | exact Fit.mono (n := 64) (fit_int (by omega) (by decide)) (by decide)))) ?_))))
local macro_rules | `(tactic| fail "B") => `(tactic| ((with_reducible refine chkAdd ?_); refine wE_addR T g.toGd ?_; refine Exists.intro _ (And.intro (by (first | exact Num.rt _ | exact Num.int _ | assumption)) (And.intro (And.intro (by (first | with_reducible assumption | exact Fit.mono (by (repeat' (first | with_reducible assumption | with_reducible exact fit_two | with_reducible apply fit_add | with_reducible apply fit_sub | with_reducible apply fit_mul | with_reducible apply fit_half | with_reducible apply fit_rabs | with_reducible apply fit_neg))) (by decide) | exact Fit.mono (n := 64) (fit_int (by omega) (by decide)) (by decide))) (by (first | with_reducible assumption | exact Fit.mono (by (repeat' (first | with_reducible assumption | with_reducible exact fit_two | with_reducible apply fit_add | with_reducible apply fit_sub | with_reducible apply fit_mul | with_reducible apply fit_half | with_reducible apply fit_rabs | with_reducible apply fit_neg))) (by decide) | exact Fit.mono (n := 64) (fit_int (by omega) (by decide)) (by decide)))) ?_))))
local macro_rules | `(tactic| fail "F") => `(tactic| ((with_reducible refine chkB "abs" ?_); refine wF_absR T g.toGd ?qf ?_; (case qf => (first | with_reducible assumption | exact Fit.mono (by (repeat' (first | with_reducible assumption | with_reducible exact fit_two | with_reducible apply fit_add | with_reducible apply fit_sub | with_reducible apply fit_mul | with_reducible apply fit_half | with_reducible apply fit_rabs | with_reducible apply fit_neg))) (by decide) | exact Fit.mono (n := 64) (fit_int (by omega) (by decide)) (by decide)))))
local macro_rules | `(tactic| fail "F") => `(tactic| with_reducible refine wF_R1 T g.toGd ?_)
local macro_rules | `(tactic| fail "F") => `(tactic| ((with_reducible refine wF_R2 T g.toGd ?qc1 ?qc2 ?_); (case qc1 => (first | with_reducible assumption | omega)); (case qc2 => exact lt_pow_mono (n := 64) (by (first | with_reducible assumption | omega)) (by decide))))
local macro_rules | `(tactic| fail "F") => `(tactic| with_reducible refine wF_isBB ?_)
local macro_rules | `(tactic| fail "F") => `(tactic| with_reducible refine wF_isIB ?_)
local macro_rules | `(tactic| fail "F") => `(tactic| with_reducible refine wF_isII ?_)
local macro_rules | `(tactic| fail "F") => `(tactic| ((with_reducible refine wF_isRt ?qc ?_); (case qc => exact T.own_Ratio)))
local macro_rules | `(tactic| fail "U") => `(tactic| ((with_reducible refine chkNg ?_); refine wU_negR T g.toGd ?qf ?_; (case qf => (first | with_reducible assumption | exact Fit.mono (by (repeat' (first | with_reducible assumption | with_reducible exact fit_two | with_reducible apply fit_add | with_reducible apply fit_sub | with_reducible apply fit_mul | with_reducible apply fit_half | with_reducible apply fit_rabs | with_reducible apply fit_neg))) (by decide) | exact Fit.mono (n := 64) (fit_int (by omega) (by decide)) (by decide)))))
local macro_rules | `(tactic| fail "c") => `(tactic| ((with_reducible refine chkC "Water" ?_); refine xE_make gn ?qa T.g_Water T.mk_Water.kp ?_; (case qa => (repeat (first | with_reducible exact In.z | with_reducible apply In.s)))))
local macro_rules | `(tactic| fail "c") => `(tactic| ((with_reducible refine chkC "Pool" ?_); refine xE_make gn ?qa T.g_Pool T.mk_Pool.kp ?_; (case qa => (repeat (first | with_reducible exact In.z | with_reducible apply In.s)))))
local macro_rules | `(tactic| fail "c") => `(tactic| ((with_reducible refine chkC "Ratio" ?_); refine xE_make gn ?qa T.g_Ratio T.mk_Ratio.kp ?_; (case qa => (repeat (first | with_reducible exact In.z | with_reducible apply In.s)))))
local macro_rules | `(tactic| fail "c") => `(tactic| ((with_reducible refine chkC "_law_added" ?_); refine xE_call T.f_w_added g ?qa T.g_w_added T.F_w_added.kp T.b_w_added ?_; (case qa => (repeat (first | with_reducible exact In.z | with_reducible apply In.s)))))
local macro_rules | `(tactic| fail "c") => `(tactic| ((with_reducible refine chkC "_law_mixed" ?_); refine xE_call T.f_w_mixed g ?qa T.g_w_mixed T.F_w_mixed.kp T.b_w_mixed ?_; (case qa => (repeat (first | with_reducible exact In.z | with_reducible apply In.s)))))
local macro_rules | `(tactic| fail "c") => `(tactic| ((with_reducible refine chkC "_law_pool" ?_); refine xE_call T.f_w_pool g ?qa T.g_w_pool T.F_w_pool.kp T.b_w_pool ?_; (case qa => (repeat (first | with_reducible exact In.z | with_reducible apply In.s)))))
local macro_rules | `(tactic| fail "c") => `(tactic| ((with_reducible refine chkC "_law_number" ?_); refine xE_call T.f_w_number g ?qa T.g_w_number T.F_w_number.kp T.b_w_number ?_; (case qa => (repeat (first | with_reducible exact In.z | with_reducible apply In.s)))))
local macro_rules | `(tactic| fail "c") => `(tactic| ((with_reducible refine chkC "_law_scene" ?_); refine xE_call T.f_w_scene g ?qa T.g_w_scene T.F_w_scene.kp T.b_w_scene ?_; (case qa => (repeat (first | with_reducible exact In.z | with_reducible apply In.s)))))
local macro_rules | `(tactic| fail "c") => `(tactic| ((with_reducible refine chkC "_law_take" ?_); refine xE_call T.f_w_take g ?qa T.g_w_take T.F_w_take.kp T.b_w_take ?_; (case qa => (repeat (first | with_reducible exact In.z | with_reducible apply In.s)))))
local macro_rules | `(tactic| fail "c") => `(tactic| ((with_reducible refine chkC "_law_box" ?_); refine xE_call T.f_w_box g ?qa T.g_w_box T.F_w_box.kp T.b_w_box ?_; (case qa => (repeat (first | with_reducible exact In.z | with_reducible apply In.s)))))
local macro_rules | `(tactic| fail "n") => `(tactic| ((with_reducible refine chkN "Water" ?_); refine xE_cls gn ?qa T.g_Water ?_; (case qa => (repeat (first | with_reducible exact In.z | with_reducible apply In.s)))))
local macro_rules | `(tactic| fail "n") => `(tactic| ((with_reducible refine chkN "Pool" ?_); refine xE_cls gn ?qa T.g_Pool ?_; (case qa => (repeat (first | with_reducible exact In.z | with_reducible apply In.s)))))
local macro_rules | `(tactic| fail "n") => `(tactic| ((with_reducible refine chkN "Ratio" ?_); refine xE_cls gn ?qa T.g_Ratio ?_; (case qa => (repeat (first | with_reducible exact In.z | with_reducible apply In.s)))))
local macro_rules | `(tactic| fail "n") => `(tactic| ((with_reducible refine chkN "UnknownIndex" ?_); refine xE_cls gn ?qa T.g_UnknownIndex ?_; (case qa => (repeat (first | with_reducible exact In.z | with_reducible apply In.s)))))
local macro_rules | `(tactic| fail "n") => `(tactic| ((with_reducible refine chkN "Touching" ?_); refine xE_cls gn ?qa T.g_Touching ?_; (case qa => (repeat (first | with_reducible exact In.z | with_reducible apply In.s)))))
local macro_rules | `(tactic| fail "n") => `(tactic| ((with_reducible refine chkN "InvalidNumber" ?_); refine xE_cls gn ?qa T.g_InvalidNumber ?_; (case qa => (repeat (first | with_reducible exact In.z | with_reducible apply In.s)))))
local macro_rules | `(tactic| fail "n") => `(tactic| ((with_reducible refine chkN "PoolError" ?_); refine xE_cls gn ?qa T.g_PoolError ?_; (case qa => (repeat (first | with_reducible exact In.z | with_reducible apply In.s)))))
local macro_rules | `(tactic| fail "a") => `(tactic| ((with_reducible refine chkA "bottom" ?_); refine wE_bot T ?_))
local macro_rules | `(tactic| fail "a") => `(tactic| ((with_reducible refine chkA "top" ?_); refine wE_top T ?_))
local macro_rules | `(tactic| fail "O") => `(tactic| (refine sp_take T (by (first | assumption | with_reducible exact at_last | with_reducible exact at_new rfl | with_reducible exact at_left (by assumption) | with_reducible exact List.getElem?_set_self (by assumption) | with_reducible exact at_left (at_left (by assumption)))) (by (first | with_reducible assumption | omega)) (by (first | with_reducible assumption | omega)) ?_; intro d h0 h1))
local macro_rules | `(tactic| fail "O") => `(tactic| refine Exists.intro _ (Exists.intro _ (Exists.intro _ (Exists.intro _ (And.intro rfl (And.intro rfl (And.intro (by (first | assumption | with_reducible exact at_last | with_reducible exact at_new rfl | with_reducible exact at_left (by assumption) | with_reducible exact List.getElem?_set_self (by assumption) | with_reducible exact at_left (at_left (by assumption)))) (And.intro rfl ?_))))))))
local macro_rules | `(tactic| fail "O") => `(tactic| refine Exists.intro _ (Exists.intro _ (Exists.intro _ (And.intro rfl ?_))))
local macro_rules | `(tactic| fail "O") => `(tactic| refine Exists.intro _ (Exists.intro _ (And.intro rfl ?_)))
local macro_rules | `(tactic| fail "O") => `(tactic| refine And.intro (by (simp only [List.length_cons, List.length_nil]; decide)) ?_)
local macro_rules | `(tactic| fail "O") => `(tactic| refine Exists.intro _ (And.intro rfl ?_))
/-- the parts, dealt one by one -/
abbrev prt (u : Int) (T : P2 → D) (qs : List (List P2)) : List M := qs.map fun q => M.lst (q.map T)
theorem prt_at {μ : List M} {T : P2 → D} {u : Int} {qs : List (List P2)} {i : Nat} {q : List P2} (h : qs[i]? = some q) : (μ ++ prt u T qs)[μ.length + i]? = some (.lst (q.map T)) := by
  rw [List.getElem?_append_right (by omega), show μ.length + i - μ.length = i by omega, List.getElem?_map, h]
  rfl
theorem prt_set {μ : List M} {T : P2 → D} {u : Int} {qs : List (List P2)} {i : Nat} {q : List P2} : (μ ++ prt u T qs).set (μ.length + i) (.lst (q.map T)) = μ ++ prt u T (qs.set i q) := by
  rw [List.set_append, if_neg (by omega), show μ.length + i - μ.length = i by omega, prt, prt, List.map_set]
theorem all2_runs {qs : List (List P2)} : ∀ {is : List Nat} {ls : List (List P2)}, All2 (fun i l => Asc l ∧ Runs (qs.getD i []) l) is ls → (∀ l ∈ ls, Asc l) ∧ Runs (is.map fun i => qs.getD i []).flatten ls.flatten
  | [], _, .nil => ⟨(fun _ h => by cases h), .refl (.refl _)⟩
  | i :: is, _, .cons h t => by
    obtain ⟨h1, h2⟩ := all2_runs t
    refine ⟨fun l hl => ?_, ?_⟩
    · rcases List.mem_cons.mp hl with rfl | hl
      · exact h.1
      · exact h1 l hl
    · rw [List.map_cons, List.flatten_cons, List.flatten_cons]
      exact h.2.app h2
theorem range_getD {qs : List (List P2)} (h : qs.length = 4) : (List.range 4).map (fun i => qs.getD i []) = qs := by
  match qs, h with
  | [a, b, c, d], _ => rfl
section
variable {P : Program} {w : World} {K : PySem.W.Frag} {mg : Str → Option Value} {base : Heap} (T : Tx K mg)
abbrev lvl_law : Nat := 104
theorem binds_law (T : Tx K mg) (s : Shared) (u : Value) : BindsTo s T.fd_law ⟨[u], []⟩ [("_law_script", u)] := by
  obtain ⟨oc, od, dV, kV, doc, pm, an, cdv, ct, osl, e, look, hcode, hD, _⟩ := T.F_law.ex
  rcases hD with ⟨_, rfl⟩ | ⟨z, _⟩
  · rw [e]
    exact .of_eq rfl
  · exact (z rfl).elim
theorem mem_range {d : D} {n : Nat} (h : d ∈ rangeD 0 n) : ∃ i : Nat, i < n ∧ d = .int (i : Int) := by
  obtain ⟨i, hi, rfl⟩ := List.mem_map.mp h
  exact ⟨i, List.mem_range.mp hi, by simp⟩
theorem fit_wq {u : Int} {l : List P2} (hu : 0 < u) (hu1 : u ≤ 1000000) (hb : Bnd l) : ∀ p ∈ l.map (mq u), Fit 600 p.1 ∧ Fit 600 p.2 := fun p hp => by
  obtain ⟨q, hq, rfl⟩ := List.mem_map.mp hp
  obtain ⟨f1, f2⟩ := fit_mq hu hu1 (hb.mem hq)
  exact ⟨f1.mono (by decide), f2.mono (by decide)⟩
theorem ok_law : FnG P w K mg base lvl_law T.a_law T.fd_law ["_law_script"] (spR K (RLaw Scr)) := by
  refine SpF.rel (f := ⟨T.a_law, T.fd_law, ["_law_script"], lvl_law⟩) ?_
  rintro ds μ o ⟨ns, hs, rfl, rfl, rfl⟩
  refine spX_of T.F_law sc_law ck_law rfl ?_
  walk_at "start"
  have sl := sl_big
  refine wSs_cons (wS_for g.po g.calm (wI_range1 T.n_range ?_))
  walk_at "e"
  refine ⟨⟨by omega, by omega⟩, ?_⟩
  refine wFor_inv (fun ds ρ μ => (∀ d ∈ ds, ∃ i : Nat, i < 4 ∧ d = .int i) ∧ ∃ o1 o2 o3 o4 o5 o6 o7 o8 o9 o10 o11 o12 o13 o14 o15 o16, ρ = [some (.scr (ns.map D.int)), o1, o2, o3, o4, o5, o6, o7, o8, o9, o10, o11, o12, o13, o14, o15, o16]) ?_ ?_ _ _ _ ⟨fun d hd => ?_, _, _, _, _, _, _, _, _, _, _, _, _, _, _, _, _, rfl⟩
  rotate_left
  · rintro ρ μ ⟨_, o1, o2, o3, o4, o5, o6, o7, o8, o9, o10, o11, o12, o13, o14, o15, o16, rfl⟩
    walk_at "wp"
    exact RetOk.low (μ := []) rfl rfl
  · obtain ⟨i, hi, rfl⟩ := mem_range hd
    exact ⟨i, by omega, rfl⟩
  rintro d ds ρ μ ⟨hds, o1, o2, o3, o4, o5, o6, o7, o8, o9, o10, o11, o12, o13, o14, o15, o16, rfl⟩
  obtain ⟨i, hi, rfl⟩ := hds d (by simp)
  have hrest : ∀ d ∈ ds, ∃ i : Nat, i < 4 ∧ d = .int i := fun d hd => hds d (by simp [hd])
  walk_at "e"
  walk_at "s1"
  refine sp_box T (by omega) (by omega) ?_
  walk_at "e"
  have hμ : (μ ++ [M.box])[μ.length]? = some .box := at_last
  generalize hm : μ ++ [M.box] = μ1 at *
  generalize hb : μ.length = b at *
  clear hm hb
  have hbn : b < μ1.length := (List.getElem?_eq_some_iff.mp hμ).1
  walk_at "s1"
  have v0 : 0 ≤ v ∧ v ≤ 40 := by omega
  clear hv
  refine sp_scene T hμ (by omega) (by omega) fun u xs hu hu1 hl hx => ?_
  walk_at "e"
  have xl : xs.length ≤ 40 := by omega
  have bm : Bnd (xs.map mo) := dr_bnd xl hx (.refl _)
  refine wSs_cons (wS_setLcR v_law_c0 g_law_c0 o_law_c0 g (sc := defScope s_law) rfl (by decide +kernel) (show BlkOk n_law (defScope s_law) _ _ from ⟨rfl, by decide +kernel, by decide +kernel, by decide +kernel, by decide +kernel⟩) (by walk_at "il") xs dr (T.pm u) (fun p q => q = mo p) ?_ (by omega) ?_ ?_)
  · refine wI_lst ?_
    walk_at "e"
    exact ⟨rfl, rfl⟩
  · rintro p hp K1 K2 hk
    have p2 : 0 < p.2 := by have := (hx p hp).2.2.1; omega
    walk_at "blk"
    refine wGw_name gn (i := 14) (by walk_at "il") (by decide) ?_
    simp only [o_law_c0, List.map_cons, List.map_nil, wipeD, List.set_cons_succ, List.set_cons_zero]
    walk_at "e"
    walk_at "blk"
    refine wTs_nil (br_T rfl ?_)
    walk_at "blk"
    walk_at "e"
    refine sp_pool T hμ hu (by omega) (hx p hp) ?_
    have := hk (mo p) rfl
    rw [show T.pm u (mo p) = T.pl (Rat.divInt p.1 u) (Rat.divInt p.2 u) by show T.pl (mq u (mo p)).1 (mq u (mo p)).2 = _; rw [mq_mo hu p2]] at this
    exact this
  intro ms hms
  rw [hms.fn]
  clear hms ms
  generalize hms : xs.map mo = ms at *
  have ml : ms.length ≤ 40 := by rw [← hms, List.length_map]; exact xl
  walk_at "e"
  have pml : ∀ b x, D.lo b (T.pm u x) = true := fun b x => rfl
  refine wSs_cons (wS_asg (wE_tup ?_))
  refine wA_cons (wE_cmeth T.f_Water_settled g.toGd T.cr_Water T.cm_Water_settled T.b_Water_settled ?_)
  walk_at "e"
  refine ⟨rfl, ?_⟩
  walk_at "e"
  refine sp_settled T (u := u) (xs := ms) hu (by omega) (by omega) (.inl rfl) bm fun zs hz1 hz2 => ?_
  have bz := hz2
  have bzz := bm.runs hz2
  have zl : zs.length ≤ 40 := Nat.le_trans hz2.len ml
  have fz := fit_wq hu (by omega) bzz
  refine wA_cons (wE_lst ?_)
  refine wA_cons (wE_lstL (wA_nil ⟨Nat.zero_le _, ?_⟩))
  refine wA_cons (wE_lstL (wA_nil ⟨Nat.zero_le _, ?_⟩))
  refine wA_cons (wE_lstL (wA_nil ⟨Nat.zero_le _, ?_⟩))
  refine wA_cons (wE_lstL (wA_nil ⟨Nat.zero_le _, ?_⟩))
  walk_at "e"
  have em0 : μ1 ++ [.lst []] ++ [.lst []] ++ [.lst []] ++ [.lst []] = μ1 ++ prt u (T.pm u) [[], [], [], []] := by simp
  have ep0 : D.lst [.loc μ1.length, .loc (μ1 ++ [M.lst []]).length, .loc (μ1 ++ [M.lst []] ++ [M.lst []]).length, .loc (μ1 ++ [M.lst []] ++ [M.lst []] ++ [M.lst []]).length] = .lst ((List.range 4).map fun j => .loc (μ1.length + j)) := by simp [List.range, List.range.loop]
  rw [em0, ep0]
  generalize hP : (D.lst ((List.range 4).map fun j => .loc (μ1.length + j))) = dP
  have dPl : Lqd (μ1 ++ prt u (T.pm u) [[], [], [], []]) dP ((List.range 4).map fun j => .loc (μ1.length + j)) := .inl hP.symm
  walk_at "e"
  refine wSs_cons (wS_for g.po g.calm (wI_lst ?_))
  walk_at "e"
  refine sp_mixedG T (at_left hμ) (by omega) pml (.inl rfl) fun ys hys => ?_
  have yl : ys.length ≤ 40 := by rw [hys.length_eq]; exact ml
  refine ⟨_, rfl, ?_⟩
  refine wFor_L ys (T.pm u) (fun done ρ μ' => ∃ qs : List (List P2), qs.length = 4 ∧ qs.flatten.Perm done ∧ μ1 ++ prt u (T.pm u) qs = μ' ∧ ∃ o8 o9 o10 o11 o12 o13 o14 o15 o16, ρ = [some (.scr (ns.map D.int)), some (.int i), some (.loc b), some (.int u), some (.lst (xs.map dr)), some (.lst (ms.map (T.pm u))), some (T.wq u zs), some dP, o8, o9, o10, o11, o12, o13, o14, o15, o16]) ?_ ?_ _ _ ⟨[[], [], [], []], rfl, .refl _, rfl, _, _, _, _, _, _, _, _, _, rfl⟩
  · rintro done p ws ρ _ ed ⟨qs, ql, qp, rfl, o8, o9, o10, o11, o12, o13, o14, o15, o16, rfl⟩
    have hbx : (μ1 ++ prt u (T.pm u) qs)[b]? = some .box := at_left hμ
    have dl : done.length < ys.length := by rw [ed]; simp
    walk_at "e"
    refine wSs_cons (wS_expr (wE_append ?_))
    rw [← hP]
    walk_at "e"
    obtain ⟨j, rfl⟩ : ∃ j : Nat, d = (j : Int) := ⟨d.toNat, by omega⟩
    have jl : j < 4 := by omega
    obtain ⟨q, hq⟩ : ∃ q, qs[j]? = some q := ⟨_, List.getElem?_eq_getElem (by omega)⟩
    refine wX_at (d := .loc (μ1.length + j)) (by walk_at "ixd") (atI_ofNat (by simp [List.getElem?_map, List.getElem?_range jl])) ?_
    refine ⟨_, rfl, ⟨_, prt_at hq⟩, ?_⟩
    walk_at "e"
    have qle : q.length ≤ 1000 := by
      have h1 : q.length ≤ qs.flatten.length := by
        have hm : q ∈ qs := List.mem_of_getElem? hq
        exact (List.sublist_flatten_of_mem hm).length_le
      rw [qp.length_eq] at h1
      omega
    refine ⟨_, prt_at hq, by rw [List.length_map]; omega, ?_⟩
    have e1 : q.map (T.pm u) ++ [T.pm u p] = (q ++ [p]).map (T.pm u) := by simp
    rw [e1, prt_set]
    rw [hP]
    refine wSs_nil ⟨qs.set j (q ++ [p]), by rw [List.length_set]; exact ql, ?_, rfl, _, _, _, _, _, _, _, _, _, rfl⟩
    exact (flat_set hq).trans ((qp.cons p).trans (List.perm_append_singleton p done).symm)
  rintro ρ _ ⟨qs, ql, qp, rfl, o8, o9, o10, o11, o12, o13, o14, o15, o16, rfl⟩
  have qm : qs.flatten.Perm ms := qp.trans hys
  have hbx : (μ1 ++ prt u (T.pm u) qs)[b]? = some .box := at_left hμ
  have bq : Bnd qs.flatten := bm.perm qm.symm
  generalize hM : μ1 ++ prt u (T.pm u) qs = μ2 at *
  have hpt : ∀ j : Nat, j < 4 → μ2[μ1.length + j]? = some (.lst ((qs.getD j []).map (T.pm u))) := fun j hj => by
    rw [← hM]
    refine prt_at ?_
    rw [List.getD_eq_getElem?_getD, List.getElem?_eq_getElem (show j < qs.length by omega)]
    rfl
  have hql : ∀ j : Nat, j < 4 → (qs.getD j []).length ≤ 40 ∧ Bnd (qs.getD j []) := fun j hj => by
    have hm : qs.getD j [] ∈ qs := by
      rw [List.getD_eq_getElem?_getD, List.getElem?_eq_getElem (show j < qs.length by omega)]
      exact List.getElem_mem _
    generalize qs.getD j [] = q at *
    obtain ⟨A, B, e⟩ := List.append_of_mem hm
    have e1 : qs.flatten = A.flatten ++ (q ++ B.flatten) := by rw [e]; simp
    have h1 := qm.length_eq
    rw [e1] at h1 bq
    simp only [List.length_append] at h1
    exact ⟨by omega, (bq.app).left⟩
  refine wSs_cons (wS_setLcR v_law_c1 g_law_c1 o_law_c1 g (sc := defScope s_law) rfl (by decide +kernel) (show BlkOk n_law (defScope s_law) _ _ from ⟨rfl, by decide +kernel, by decide +kernel, by decide +kernel, by decide +kernel⟩) (by walk_at "il") (List.range 4) (fun j : Nat => D.loc (μ1.length + j)) (T.wq u) (fun j l => Asc l ∧ Runs (qs.getD j []) l) ?_ (by simp) ?_ ?_)
  · refine wI_lst ?_
    walk_at "e"
    exact ⟨_, hP.symm, rfl, rfl⟩
  · rintro j hj K1 K2 hk
    have hj4 := List.mem_range.mp hj
    obtain ⟨j1, j2⟩ := hql j hj4
    walk_at "blk"
    refine wGw_name gn (i := 15) (by walk_at "il") (by decide) ?_
    simp only [o_law_c1, List.map_cons, List.map_nil, wipeD, List.set_cons_succ, List.set_cons_zero]
    walk_at "e"
    walk_at "blk"
    refine wTs_nil (br_T rfl ?_)
    walk_at "blk"
    refine wE_cmeth T.f_Water_settled g.toGd T.cr_Water T.cm_Water_settled T.b_Water_settled ?_
    walk_at "e"
    refine ⟨rfl, ?_⟩
    walk_at "e"
    exact sp_settled T (u := u) (xs := qs.getD j []) hu (by omega) (by omega) (.inr (.inr ⟨_, rfl, hpt j hj4⟩)) j2 fun l h1 h2 => hk l ⟨h1, h2⟩
  intro ls hls
  obtain ⟨la, lr⟩ := all2_runs hls
  rw [range_getD ql] at lr
  have lsl : ls.length = 4 := by rw [hls.len]; simp
  have lne : ls ≠ [] := fun z => by rw [z] at lsl; cases lsl
  have lrz : ∀ l, Asc l → Runs ls.flatten l → l = zs := fun l h1 h2 => asc_uniq bm.pos ((lr.trans h2).perm qm.symm) h1 bz hz1
  have bl : Bnd ls.flatten := bq.runs lr
  have lfl : ls.flatten.length ≤ 1000 := by
    have h1 := lr.len
    have h2 := qm.length_eq
    omega
  have wlo : ∀ b l, D.lo b (T.wq u l) = true := fun b l => wt_lo T _
  clear hls hpt hql
  walk_at "e"
  refine wSs_cons (wS_for g.po g.calm (wI_range1 T.n_range ?_))
  walk_at "e"
  refine ⟨⟨by omega, by omega⟩, ?_⟩
  refine wFor_inv (fun ds' ρ μ' => μ2 = μ' ∧ ∃ o8 o10 o11 o12 o13 o14 o15 o16, ρ = [some (.scr (ns.map D.int)), some (.int i), some (.loc b), some (.int u), some (.lst (xs.map dr)), some (.lst (ms.map (T.pm u))), some (T.wq u zs), some dP, o8, some (.lst (ls.map (T.wq u))), o10, o11, o12, o13, o14, o15, o16]) ?_ ?_ _ _ _ ⟨rfl, _, _, _, _, _, _, _, _, rfl⟩
  · rintro d' ds' ρ _ ⟨rfl, o8, o10, o11, o12, o13, o14, o15, o16, rfl⟩
    walk_at "e"
    walk_at "s1"
    refine sp_added T hbx hu (by omega) (by omega) lne la bl lfl fun l h1 h2 => ?_
    rw [lrz l h1 h2]
    walk_at "e"
    refine wB_neW T g.toGd ?_
    refine ⟨_, rfl, ?_⟩
    refine br_F (by simp) ?_
    walk_at "e"
    refine sp_mixedG T hbx (by omega) wlo (.inl rfl) fun ks hks => ?_
    walk_at "e"
    refine sp_added T hbx hu (by omega) (by rw [hks.length_eq]; omega) (fun z => lne (by rw [z] at hks; exact List.nil_perm.mp hks)) (fun l hl => la l (hks.mem_iff.mp hl)) (bl.perm (perm_flat hks.symm)) (by rw [(perm_flat hks).length_eq]; exact lfl) fun l h1 h2 => ?_
    rw [lrz l h1 (h2.perm (perm_flat hks).symm)]
    walk_at "e"
    refine wB_neW T g.toGd ?_
    refine ⟨_, rfl, ?_⟩
    refine br_F (by simp) ?_
    exact wSs_nil (wSs_nil ⟨rfl, _, _, _, _, _, _, _, _, rfl⟩)
  rintro ρ _ ⟨rfl, o8, o10, o11, o12, o13, o14, o15, o16, rfl⟩
  refine wSs_cons (wS_set gn ⟨_, by walk_at "ix"⟩ (xE_make0 gn (by walk_at "in") T.g_Water T.mk_Water.kp (wF_Water0 T g.toGd ?_)))
  walk_at "e"
  refine wSs_cons (wS_for g.po g.calm (wI_lst ?_))
  walk_at "e"
  refine sp_mixedG T hbx (by omega) pml (.inl rfl) fun ts hts => ?_
  have tl : ts.length ≤ 40 := by rw [hts.length_eq]; exact ml
  have bt : Bnd ts := bm.perm hts.symm
  refine ⟨_, rfl, ?_⟩
  refine wFor_L ts (T.pm u) (fun done ρ μ' => ∃ gs : List P2, Asc gs ∧ Runs done gs ∧ μ2 = μ' ∧ ∃ o8 o10 o12 o13 o14 o15 o16, ρ = [some (.scr (ns.map D.int)), some (.int i), some (.loc b), some (.int u), some (.lst (xs.map dr)), some (.lst (ms.map (T.pm u))), some (T.wq u zs), some dP, o8, some (.lst (ls.map (T.wq u))), o10, some (T.wq u gs), o12, o13, o14, o15, o16]) ?_ ?_ _ _ ⟨[], List.Pairwise.nil, .refl (.refl _), rfl, _, _, _, _, _, _, _, rfl⟩
  · rintro done p ws ρ _ ed ⟨gs, ga, gr, rfl, o8, o10, o12, o13, o14, o15, o16, rfl⟩
    have bd : Bnd (done ++ [p]) := by
      have h1 : Bnd ((done ++ [p]) ++ ws) := by rw [ed] at bt; simpa using bt
      exact h1.left
    have bg : Bnd (gs ++ [p]) := bd.runs (gr.appL [p])
    have pp : 0 < p.2 := bg.pos p (by simp)
    have gl : gs.length ≤ 40 := by
      have h1 := gr.len
      have h2 := congrArg List.length ed
      simp at h2
      omega
    have bpp : Bnd [p] := bg.app
    walk_at "e"
    walk_at "s1"
    refine wSs_cons (wS_set gn ⟨_, by walk_at "ix"⟩ (wE_bin ?_))
    walk_at "e"
    refine wF_Water (ps := [mq u p]) T g.toGd (.inl rfl) (fit_wq (l := [p]) hu (by omega) bpp) (fun _ => ?_) (fun n hn => by cases hn)
    walk_at "e"
    refine wB_addW T g.toGd (xs := gs) (ys := [p]) hu (by omega) (by simp; omega) bg fun g2 hg1 hg2 => ?_
    have bg2 := bg.runs hg2
    have g2l : g2.length ≤ 1000 := by
      have := hg2.len
      simp at this
      omega
    have wi := wi_runs hg2 bg.pos
    walk_at "e"
    refine wSs_cons (wS_if (wC_bool (wCw_or (wC_not (wC_cmp ?_)))))
    walk_at "e"
    refine wB_leW T g.toGd (fit_wq hu (by omega) bg.left) (fit_wq hu (by omega) bg2) (by rw [List.length_map]; exact g2l) ?_
    rw [wi_inWs hu bg.left.pos bg2.pos fun q hq => wi q (by simp [hq])]
    refine ⟨_, rfl, ?_⟩
    refine br_F rfl ?_
    refine wCw_or1 (wC_cmp (wE_mid T g.toGd ?_))
    walk_at "e"
    refine wB_ninWt T g.toGd (.rt _) (fit_wq (l := [p]) hu (by omega) bpp (mq u p) (by simp)).1 (fit_wq hu (by omega) bg2) (by rw [List.length_map]; exact g2l) ?_
    rw [wi_mid hu pp bg2.pos (wi p (by simp))]
    refine ⟨_, rfl, ?_⟩
    refine br_F rfl (wSs_nil (wSs_nil ⟨g2, hg1, (gr.appL [p]).trans hg2, rfl, _, _, _, _, _, _, _, rfl⟩))
  rintro ρ _ ⟨gs, ga, gr, rfl, o8, o10, o12, o13, o14, o15, o16, rfl⟩
  obtain rfl : gs = zs := asc_uniq bm.pos (gr.perm hts.symm) ga bz hz1
  obtain ⟨l0, l1, l2, l3, rfl⟩ : ∃ l0 l1 l2 l3, ls = [l0, l1, l2, l3] := by
    match ls, lsl with
    | [a, b, c, d], _ => exact ⟨a, b, c, d, rfl⟩
  have svz : Sv gs = Sv l0 + Sv l1 + Sv l2 + Sv l3 := by
    have e1 : ∀ as bs : List P2, Sv (as ++ bs) = Sv as + Sv bs := fun as bs => by unfold Sv; rw [List.map_append, List.sum_append]
    have h1 := sv_runs bz
    have h2 := sv_runs lr
    rw [← sv_perm qm, h2] at h1
    rw [← h1]
    simp only [List.flatten_cons, List.flatten_nil, List.append_nil, e1]
    omega
  have bsub : ∀ l ∈ [l0, l1, l2, l3], Bnd l := fun l hl => by
    obtain ⟨A, B, e⟩ := List.append_of_mem hl
    have e1 : [l0, l1, l2, l3].flatten = A.flatten ++ (l ++ B.flatten) := by rw [e]; simp
    rw [e1] at bl
    exact (bl.app).left
  have lsub : ∀ l ∈ [l0, l1, l2, l3], l.length ≤ 1000 := fun l hl => Nat.le_trans (List.sublist_flatten_of_mem hl).length_le lfl
  have b0 := bsub l0 (by simp)
  have b1 := bsub l1 (by simp)
  have b2 := bsub l2 (by simp)
  have b3 := bsub l3 (by simp)
  have s0 := b0.sv
  have s1 := b1.sv
  have s2 := b2.sv
  have s3 := b3.sv
  have sz := bzz.sv
  have n0 := sv_nn b0.pos
  have n1 := sv_nn b1.pos
  have n2 := sv_nn b2.pos
  have n3 := sv_nn b3.pos
  have f0 : Fit 600 (Rat.divInt (Sv l0) u) := fit_sum hu (by omega) n0 (by omega)
  have f1 : Fit 600 (Rat.divInt (Sv l1) u) := fit_sum hu (by omega) n1 (by omega)
  have f2 : Fit 600 (Rat.divInt (Sv l2) u) := fit_sum hu (by omega) n2 (by omega)
  have f3 : Fit 600 (Rat.divInt (Sv l3) u) := fit_sum hu (by omega) n3 (by omega)
  have f01 : Fit 600 (Rat.divInt (Sv l0 + Sv l1) u) := fit_sum hu (by omega) (by omega) (by omega)
  have f012 : Fit 600 (Rat.divInt (Sv l0 + Sv l1 + Sv l2) u) := fit_sum hu (by omega) (by omega) (by omega)
  refine wSs_cons (wS_set gn ⟨_, by walk_at "ix"⟩ (wE_bin (wE_bin (wE_bin (wE_wvol T g.toGd (zs := l0) hu (by omega) (lsub l0 (by simp)) (fun p hp => Int.le_of_lt (b0.pos p hp)) (by omega) ?_)))))
  walk_at "e"
  refine ⟨rfl, ?_⟩
  refine wE_wvol T g.toGd (zs := l1) hu (by omega) (lsub l1 (by simp)) (fun p hp => Int.le_of_lt (b1.pos p hp)) (by omega) ?_
  walk_at "e"
  refine ⟨rfl, ?_⟩
  refine wB_addR T g.toGd (.rt _) (f0.mono (by decide)) (f1.mono (by decide)) ?_
  rw [pl_sum hu]
  refine wE_wvol T g.toGd (zs := l2) hu (by omega) (lsub l2 (by simp)) (fun p hp => Int.le_of_lt (b2.pos p hp)) (by omega) ?_
  walk_at "e"
  refine ⟨rfl, ?_⟩
  refine wB_addR T g.toGd (.rt _) (f01.mono (by decide)) (f2.mono (by decide)) ?_
  rw [pl_sum hu]
  refine wE_wvol T g.toGd (zs := l3) hu (by omega) (lsub l3 (by simp)) (fun p hp => Int.le_of_lt (b3.pos p hp)) (by omega) ?_
  walk_at "e"
  refine ⟨rfl, ?_⟩
  refine wB_addR T g.toGd (.rt _) (f012.mono (by decide)) (f3.mono (by decide)) ?_
  rw [pl_sum hu, ← svz]
  walk_at "e"
  refine wSs_cons (wS_if (wC_bool (wCw_or (wC_cmp ?_))))
  walk_at "e"
  refine wB_neW T g.toGd ?_
  refine ⟨_, rfl, ?_⟩
  refine br_F (by simp) ?_
  refine wCw_or (wC_cmp (wE_wvol T g.toGd (zs := gs) hu (by omega) (by omega) (fun p hp => Int.le_of_lt (bzz.pos p hp)) (by omega) ?_))
  walk_at "e"
  refine ⟨rfl, ?_⟩
  walk_at "e"
  refine br_F (by simp) ?_
  refine wCw_or1 (wC_cmp ?_)
  walk_at "e"
  have zr : Runs [l0, l1, l2, l3].flatten gs := by
    obtain ⟨t, t1, t2⟩ := nrm_ex _ [l0, l1, l2, l3].flatten rfl
    exact t1.permR (runs_uniq _ ms t gs rfl bm.pos ((lr.trans t1).perm qm.symm) t2 bz hz1.nrm)
  have wz : ∀ l ∈ [l0, l1, l2, l3], inWs (l.map (mq u)) (gs.map (mq u)) = true := fun l hl => wi_inWs hu (bsub l hl).pos bzz.pos fun p hp => wi_runs (zr) bl.pos p (List.mem_flatten_of_mem hl hp)
  refine wE_lcM v_law_c2 g_law_c2 o_law_c2 g (sc := defScope s_law) rfl (by decide +kernel) (show BlkOk n_law (defScope s_law) _ _ from ⟨rfl, by decide +kernel, by decide +kernel, by decide +kernel, by decide +kernel⟩) [l0, l1, l2, l3] (T.wq u) (fun _ => D.bl true) ?_ (by simp) ?_ ?_
  · refine wI_lst ?_
    walk_at "e"
    first | exact ⟨_, rfl, rfl, rfl⟩ | exact ⟨rfl, rfl⟩
  · rintro l hl K1 K2 hk
    walk_at "blk"
    refine wGw_name gn (i := 16) (by walk_at "il") (by decide) ?_
    simp only [o_law_c2, List.map_cons, List.map_nil, wipeD, List.set_cons_succ, List.set_cons_zero]
    walk_at "e"
    walk_at "blk"
    refine wTs_nil (br_T rfl ?_)
    walk_at "blk"
    walk_at "e"
    refine wB_leW T g.toGd (fit_wq hu (by omega) (bsub l hl)) fz (by rw [List.length_map]; omega) ?_
    rw [wz l hl]
    exact hk
  refine wB_inBs g.toGd (bs := [true, true, true, true]) ?_
  refine ⟨_, rfl, ?_⟩
  refine br_F rfl (wSs_nil ?_)
  refine wSs_cons (wS_if (wC_bool (wCw_or (wC_cmp (wE_cmeth T.f_Water_settled g.toGd T.cr_Water T.cm_Water_settled T.b_Water_settled ?_)))))
  walk_at "e"
  refine ⟨rfl, ?_⟩
  refine wA_cons (wE_listPools T g (by walk_at "in") T.n_list ?_)
  walk_at "e"
  refine ⟨by rw [List.length_map]; omega, ?_⟩
  walk_at "e"
  have emm : (gs.map (mq u)).map T.plq = gs.map (T.pm u) := by rw [List.map_map]; rfl
  rw [emm]
  refine sp_settled T (u := u) (xs := gs) hu (by omega) (by omega) (.inl rfl) bzz fun l h1 h2 => ?_
  obtain rfl : l = gs := asc_uniq bzz.pos h2 h1 (.refl (.refl _)) hz1
  walk_at "e"
  refine wB_neW T g.toGd ?_
  refine ⟨_, rfl, ?_⟩
  refine br_F (by simp) ?_
  refine wCw_or1 (wC_cmp (xE_make gn (by walk_at "in") T.g_Water T.mk_Water.kp (wA_cons (wE_listPools T g (by walk_at "in") T.n_list ?_))))
  walk_at "e"
  refine ⟨by rw [List.length_map]; omega, ?_⟩
  walk_at "e"
  refine wF_Water (ps := l.map (mq u)) T g.toGd (.inl rfl) fz (fun _ => ?_) (fun n hn => by rw [asc_bad hu bzz.pos hz1] at hn; cases hn)
  walk_at "e"
  refine wB_neW T g.toGd ?_
  refine ⟨_, rfl, ?_⟩
  exact br_F (by simp) (wSs_nil (wSs_nil ⟨hrest, _, _, _, _, _, _, _, _, _, _, _, _, _, _, _, _, rfl⟩))
end
end

end PM

set_option Elab.async false
set_option linter.all false
set_option maxRecDepth 100000
set_option maxHeartbeats 4000000
namespace PM
open PySem L2
theorem tx_mk {K : PySem.W.Frag} {h : Heap} {mg : Str → Option Value} {fa : Addr} (X : K.In h) (G : h.Ns mainGlobals mg) (hfa : mg "law" = some (.ref fa))
    {C_PoolError : Addr}
    {nm_PoolError q_PoolError : Str} {N_PoolError : Addr} {bs_PoolError : List Value} {sn_PoolError : List Str} {sub_PoolError : List Value} {ab_PoolError : Bool} {col_PoolError : Option Bool} {dd_PoolError : Option Addr} {m0_PoolError m1_PoolError m2_PoolError m3_PoolError m5_PoolError : Option Value}
    {C_InvalidNumber : Addr}
    {nm_InvalidNumber q_InvalidNumber : Str} {N_InvalidNumber : Addr} {bs_InvalidNumber : List Value} {sn_InvalidNumber : List Str} {sub_InvalidNumber : List Value} {ab_InvalidNumber : Bool} {col_InvalidNumber : Option Bool} {dd_InvalidNumber : Option Addr} {m0_InvalidNumber m1_InvalidNumber m2_InvalidNumber m3_InvalidNumber m5_InvalidNumber : Option Value}
    {C_Touching : Addr}
    {nm_Touching q_Touching : Str} {N_Touching : Addr} {bs_Touching : List Value} {sn_Touching : List Str} {sub_Touching : List Value} {ab_Touching : Bool} {col_Touching : Option Bool} {dd_Touching : Option Addr} {m0_Touching m1_Touching m2_Touching m3_Touching m5_Touching : Option Value}
    {C_UnknownIndex : Addr}
    {C_Ratio : Addr}
    {lo_Ratio : Value} {ld_Ratio : Option Addr} {lc_Ratio : ClassData} {ls_Ratio : Array (Option Value)}
    {C_Pool : Addr}
    {lo_Pool : Value} {ld_Pool : Option Addr} {lc_Pool : ClassData} {ls_Pool : Array (Option Value)}
    {C_Water : Addr}
    {lo_Water : Value} {ld_Water : Option Addr} {lc_Water : ClassData} {ls_Water : Array (Option Value)}
    {a_InvalidNumber_init : Addr} {oc_InvalidNumber_init kV_InvalidNumber_init dc_InvalidNumber_init pm_InvalidNumber_init cd_InvalidNumber_init ct_InvalidNumber_init : Value} {od_InvalidNumber_init an_InvalidNumber_init : Option Addr} {sl_InvalidNumber_init : Array (Option Value)}
    {a_Touching_init : Addr} {oc_Touching_init kV_Touching_init dc_Touching_init pm_Touching_init cd_Touching_init ct_Touching_init : Value} {od_Touching_init an_Touching_init : Option Addr} {sl_Touching_init : Array (Option Value)}
    {a_is_integer : Addr} {oc_is_integer kV_is_integer dc_is_integer pm_is_integer cd_is_integer ct_is_integer : Value} {od_is_integer an_is_integer : Option Addr} {sl_is_integer : Array (Option Value)}
    {a_is_number : Addr} {oc_is_number kV_is_number dc_is_number pm_is_number cd_is_number ct_is_number : Value} {od_is_number an_is_number : Option Addr} {sl_is_number : Array (Option Value)}
    {a_as_ratio : Addr} {oc_as_ratio kV_as_ratio dc_as_ratio pm_as_ratio cd_as_ratio ct_as_ratio : Value} {od_as_ratio an_as_ratio : Option Addr} {sl_as_ratio : Array (Option Value)}
    {a_common_divisor : Addr} {oc_common_divisor kV_common_divisor dc_common_divisor pm_common_divisor cd_common_divisor ct_common_divisor : Value} {od_common_divisor an_common_divisor : Option Addr} {sl_common_divisor : Array (Option Value)}
    {a_Ratio_init : Addr} {oc_Ratio_init kV_Ratio_init dc_Ratio_init pm_Ratio_init cd_Ratio_init ct_Ratio_init : Value} {od_Ratio_init an_Ratio_init : Option Addr} {sl_Ratio_init : Array (Option Value)}
    {T_Ratio_init : Addr} {nn_Ratio_init : Nat}
    {dk_Ratio_init : Tok} {cl_Ratio_init : Value} {sd_Ratio_init : Option Addr} {ss_Ratio_init : Array (Option Value)}
    {a_Ratio_over : Addr} {oc_Ratio_over kV_Ratio_over dc_Ratio_over pm_Ratio_over cd_Ratio_over ct_Ratio_over : Value} {od_Ratio_over an_Ratio_over : Option Addr} {sl_Ratio_over : Array (Option Value)}
    {a_Ratio_neg : Addr} {oc_Ratio_neg kV_Ratio_neg dc_Ratio_neg pm_Ratio_neg cd_Ratio_neg ct_Ratio_neg : Value} {od_Ratio_neg an_Ratio_neg : Option Addr} {sl_Ratio_neg : Array (Option Value)}
    {a_Ratio_abs : Addr} {oc_Ratio_abs kV_Ratio_abs dc_Ratio_abs pm_Ratio_abs cd_Ratio_abs ct_Ratio_abs : Value} {od_Ratio_abs an_Ratio_abs : Option Addr} {sl_Ratio_abs : Array (Option Value)}
    {a_Ratio_add : Addr} {oc_Ratio_add kV_Ratio_add dc_Ratio_add pm_Ratio_add cd_Ratio_add ct_Ratio_add : Value} {od_Ratio_add an_Ratio_add : Option Addr} {sl_Ratio_add : Array (Option Value)}
    {a_Ratio_radd : Addr} {oc_Ratio_radd kV_Ratio_radd dc_Ratio_radd pm_Ratio_radd cd_Ratio_radd ct_Ratio_radd : Value} {od_Ratio_radd an_Ratio_radd : Option Addr} {sl_Ratio_radd : Array (Option Value)}
    {a_Ratio_sub : Addr} {oc_Ratio_sub kV_Ratio_sub dc_Ratio_sub pm_Ratio_sub cd_Ratio_sub ct_Ratio_sub : Value} {od_Ratio_sub an_Ratio_sub : Option Addr} {sl_Ratio_sub : Array (Option Value)}
    {a_Ratio_rsub : Addr} {oc_Ratio_rsub kV_Ratio_rsub dc_Ratio_rsub pm_Ratio_rsub cd_Ratio_rsub ct_Ratio_rsub : Value} {od_Ratio_rsub an_Ratio_rsub : Option Addr} {sl_Ratio_rsub : Array (Option Value)}
    {a_Ratio_mul : Addr} {oc_Ratio_mul kV_Ratio_mul dc_Ratio_mul pm_Ratio_mul cd_Ratio_mul ct_Ratio_mul : Value} {od_Ratio_mul an_Ratio_mul : Option Addr} {sl_Ratio_mul : Array (Option Value)}
    {a_Ratio_rmul : Addr} {oc_Ratio_rmul kV_Ratio_rmul dc_Ratio_rmul pm_Ratio_rmul cd_Ratio_rmul ct_Ratio_rmul : Value} {od_Ratio_rmul an_Ratio_rmul : Option Addr} {sl_Ratio_rmul : Array (Option Value)}
    {a_Ratio_eq : Addr} {oc_Ratio_eq kV_Ratio_eq dc_Ratio_eq pm_Ratio_eq cd_Ratio_eq ct_Ratio_eq : Value} {od_Ratio_eq an_Ratio_eq : Option Addr} {sl_Ratio_eq : Array (Option Value)}
    {a_Ratio_ne : Addr} {oc_Ratio_ne kV_Ratio_ne dc_Ratio_ne pm_Ratio_ne cd_Ratio_ne ct_Ratio_ne : Value} {od_Ratio_ne an_Ratio_ne : Option Addr} {sl_Ratio_ne : Array (Option Value)}
    {a_Ratio_lt : Addr} {oc_Ratio_lt kV_Ratio_lt dc_Ratio_lt pm_Ratio_lt cd_Ratio_lt ct_Ratio_lt : Value} {od_Ratio_lt an_Ratio_lt : Option Addr} {sl_Ratio_lt : Array (Option Value)}
    {a_Ratio_le : Addr} {oc_Ratio_le kV_Ratio_le dc_Ratio_le pm_Ratio_le cd_Ratio_le ct_Ratio_le : Value} {od_Ratio_le an_Ratio_le : Option Addr} {sl_Ratio_le : Array (Option Value)}
    {a_Ratio_gt : Addr} {oc_Ratio_gt kV_Ratio_gt dc_Ratio_gt pm_Ratio_gt cd_Ratio_gt ct_Ratio_gt : Value} {od_Ratio_gt an_Ratio_gt : Option Addr} {sl_Ratio_gt : Array (Option Value)}
    {a_Ratio_ge : Addr} {oc_Ratio_ge kV_Ratio_ge dc_Ratio_ge pm_Ratio_ge cd_Ratio_ge ct_Ratio_ge : Value} {od_Ratio_ge an_Ratio_ge : Option Addr} {sl_Ratio_ge : Array (Option Value)}
    {a_Pool_init : Addr} {oc_Pool_init kV_Pool_init dc_Pool_init pm_Pool_init cd_Pool_init ct_Pool_init : Value} {od_Pool_init an_Pool_init : Option Addr} {sl_Pool_init : Array (Option Value)}
    {a_Pool_middle : Addr} {oc_Pool_middle kV_Pool_middle dc_Pool_middle pm_Pool_middle cd_Pool_middle ct_Pool_middle : Value} {od_Pool_middle an_Pool_middle : Option Addr} {sl_Pool_middle : Array (Option Value)}
    {p_Pool_middle : Addr} {r_Pool_middle : List Value}
    {a_Pool_volume : Addr} {oc_Pool_volume kV_Pool_volume dc_Pool_volume pm_Pool_volume cd_Pool_volume ct_Pool_volume : Value} {od_Pool_volume an_Pool_volume : Option Addr} {sl_Pool_volume : Array (Option Value)}
    {p_Pool_volume : Addr} {r_Pool_volume : List Value}
    {a_Pool_left : Addr} {oc_Pool_left kV_Pool_left dc_Pool_left pm_Pool_left cd_Pool_left ct_Pool_left : Value} {od_Pool_left an_Pool_left : Option Addr} {sl_Pool_left : Array (Option Value)}
    {p_Pool_left : Addr} {r_Pool_left : List Value}
    {a_Pool_right : Addr} {oc_Pool_right kV_Pool_right dc_Pool_right pm_Pool_right cd_Pool_right ct_Pool_right : Value} {od_Pool_right an_Pool_right : Option Addr} {sl_Pool_right : Array (Option Value)}
    {p_Pool_right : Addr} {r_Pool_right : List Value}
    {a_Pool_gap_to : Addr} {oc_Pool_gap_to kV_Pool_gap_to dc_Pool_gap_to pm_Pool_gap_to cd_Pool_gap_to ct_Pool_gap_to : Value} {od_Pool_gap_to an_Pool_gap_to : Option Addr} {sl_Pool_gap_to : Array (Option Value)}
    {a_Pool_touches : Addr} {oc_Pool_touches kV_Pool_touches dc_Pool_touches pm_Pool_touches cd_Pool_touches ct_Pool_touches : Value} {od_Pool_touches an_Pool_touches : Option Addr} {sl_Pool_touches : Array (Option Value)}
    {a_Pool_contains : Addr} {oc_Pool_contains kV_Pool_contains dc_Pool_contains pm_Pool_contains cd_Pool_contains ct_Pool_contains : Value} {od_Pool_contains an_Pool_contains : Option Addr} {sl_Pool_contains : Array (Option Value)}
    {a_Pool_eq : Addr} {oc_Pool_eq kV_Pool_eq dc_Pool_eq pm_Pool_eq cd_Pool_eq ct_Pool_eq : Value} {od_Pool_eq an_Pool_eq : Option Addr} {sl_Pool_eq : Array (Option Value)}
    {a_Pool_add : Addr} {oc_Pool_add kV_Pool_add dc_Pool_add pm_Pool_add cd_Pool_add ct_Pool_add : Value} {od_Pool_add an_Pool_add : Option Addr} {sl_Pool_add : Array (Option Value)}
    {a_insert_pool : Addr} {oc_insert_pool kV_insert_pool dc_insert_pool pm_insert_pool cd_insert_pool ct_insert_pool : Value} {od_insert_pool an_insert_pool : Option Addr} {sl_insert_pool : Array (Option Value)}
    {a_add_pool : Addr} {oc_add_pool kV_add_pool dc_add_pool pm_add_pool cd_add_pool ct_add_pool : Value} {od_add_pool an_add_pool : Option Addr} {sl_add_pool : Array (Option Value)}
    {a_run_together : Addr} {oc_run_together kV_run_together dc_run_together pm_run_together cd_run_together ct_run_together : Value} {od_run_together an_run_together : Option Addr} {sl_run_together : Array (Option Value)}
    {a_total_volume : Addr} {oc_total_volume kV_total_volume dc_total_volume pm_total_volume cd_total_volume ct_total_volume : Value} {od_total_volume an_total_volume : Option Addr} {sl_total_volume : Array (Option Value)}
    {a_Water_init : Addr} {oc_Water_init kV_Water_init dc_Water_init pm_Water_init cd_Water_init ct_Water_init : Value} {od_Water_init an_Water_init : Option Addr} {sl_Water_init : Array (Option Value)}
    {T_Water_init : Addr} {nn_Water_init : Nat}
    {z_Water_init : Addr} {zd_Water_init : Option Addr} {zn_Water_init : Nat} {zs_Water_init : Array (Option Value)}
    {cl_Water_init : Value} {sd_Water_init : Option Addr} {ss_Water_init : Array (Option Value)}
    {a_Water_settled : Addr} {oc_Water_settled kV_Water_settled dc_Water_settled pm_Water_settled cd_Water_settled ct_Water_settled : Value} {od_Water_settled an_Water_settled : Option Addr} {sl_Water_settled : Array (Option Value)}
    {p_Water_settled : Addr} {r_Water_settled : List Value}
    {a_Water_volume : Addr} {oc_Water_volume kV_Water_volume dc_Water_volume pm_Water_volume cd_Water_volume ct_Water_volume : Value} {od_Water_volume an_Water_volume : Option Addr} {sl_Water_volume : Array (Option Value)}
    {p_Water_volume : Addr} {r_Water_volume : List Value}
    {a_Water_pools : Addr} {oc_Water_pools kV_Water_pools dc_Water_pools pm_Water_pools cd_Water_pools ct_Water_pools : Value} {od_Water_pools an_Water_pools : Option Addr} {sl_Water_pools : Array (Option Value)}
    {a_Water_is_within : Addr} {oc_Water_is_within kV_Water_is_within dc_Water_is_within pm_Water_is_within cd_Water_is_within ct_Water_is_within : Value} {od_Water_is_within an_Water_is_within : Option Addr} {sl_Water_is_within : Array (Option Value)}
    {a_Water_len : Addr} {oc_Water_len kV_Water_len dc_Water_len pm_Water_len cd_Water_len ct_Water_len : Value} {od_Water_len an_Water_len : Option Addr} {sl_Water_len : Array (Option Value)}
    {a_Water_getitem : Addr} {oc_Water_getitem kV_Water_getitem dc_Water_getitem pm_Water_getitem cd_Water_getitem ct_Water_getitem : Value} {od_Water_getitem an_Water_getitem : Option Addr} {sl_Water_getitem : Array (Option Value)}
    {a_Water_contains : Addr} {oc_Water_contains kV_Water_contains dc_Water_contains pm_Water_contains cd_Water_contains ct_Water_contains : Value} {od_Water_contains an_Water_contains : Option Addr} {sl_Water_contains : Array (Option Value)}
    {a_Water_add : Addr} {oc_Water_add kV_Water_add dc_Water_add pm_Water_add cd_Water_add ct_Water_add : Value} {od_Water_add an_Water_add : Option Addr} {sl_Water_add : Array (Option Value)}
    {a_Water_eq : Addr} {oc_Water_eq kV_Water_eq dc_Water_eq pm_Water_eq cd_Water_eq ct_Water_eq : Value} {od_Water_eq an_Water_eq : Option Addr} {sl_Water_eq : Array (Option Value)}
    {a_Water_ne : Addr} {oc_Water_ne kV_Water_ne dc_Water_ne pm_Water_ne cd_Water_ne ct_Water_ne : Value} {od_Water_ne an_Water_ne : Option Addr} {sl_Water_ne : Array (Option Value)}
    {a_Water_le : Addr} {oc_Water_le kV_Water_le dc_Water_le pm_Water_le cd_Water_le ct_Water_le : Value} {od_Water_le an_Water_le : Option Addr} {sl_Water_le : Array (Option Value)}
    {a_w_box : Addr} {oc_w_box kV_w_box dc_w_box pm_w_box cd_w_box ct_w_box : Value} {od_w_box an_w_box : Option Addr} {sl_w_box : Array (Option Value)}
    {a_w_take : Addr} {oc_w_take kV_w_take dc_w_take pm_w_take cd_w_take ct_w_take : Value} {od_w_take an_w_take : Option Addr} {sl_w_take : Array (Option Value)}
    {a_w_scene : Addr} {oc_w_scene kV_w_scene dc_w_scene pm_w_scene cd_w_scene ct_w_scene : Value} {od_w_scene an_w_scene : Option Addr} {sl_w_scene : Array (Option Value)}
    {a_w_number : Addr} {oc_w_number kV_w_number dc_w_number pm_w_number cd_w_number ct_w_number : Value} {od_w_number an_w_number : Option Addr} {sl_w_number : Array (Option Value)}
    {a_w_pool : Addr} {oc_w_pool kV_w_pool dc_w_pool pm_w_pool cd_w_pool ct_w_pool : Value} {od_w_pool an_w_pool : Option Addr} {sl_w_pool : Array (Option Value)}
    {a_w_mixed : Addr} {oc_w_mixed kV_w_mixed dc_w_mixed pm_w_mixed cd_w_mixed ct_w_mixed : Value} {od_w_mixed an_w_mixed : Option Addr} {sl_w_mixed : Array (Option Value)}
    {a_w_added : Addr} {oc_w_added kV_w_added dc_w_added pm_w_added cd_w_added ct_w_added : Value} {od_w_added an_w_added : Option Addr} {sl_w_added : Array (Option Value)}
    {a_law : Addr} {oc_law kV_law dc_law pm_law cd_law ct_law : Value} {od_law an_law : Option Addr} {sl_law : Array (Option Value)}
    {fo_add ro_add : Option Value}
    {fo_mul ro_mul : Option Value}
    {fo_sub ro_sub : Option Value}
    {tk_DIGITS : Tok}
    {tk_MOST_DIGITS : Tok}
    (g_PoolError : PySem.W.nsIn K mainGlobals "PoolError" = some (some (.ref C_PoolError)))
    (x_PoolError : K.lookup C_PoolError = some (excClassObj nm_PoolError q_PoolError C_PoolError N_PoolError bs_PoolError [.type "ValueError", .type "Exception", .type "BaseException", .type "object"] true sn_PoolError sub_PoolError ab_PoolError col_PoolError dd_PoolError m0_PoolError m1_PoolError m2_PoolError m3_PoolError m5_PoolError "ValueError.__new__"))
    (sa_PoolError : PySem.W.findIn K (.ref C_PoolError) "__setattr__" = some (some (.builtin "object.__setattr__")))
    (ex_PoolError : PySem.W.subIn K (.ref C_PoolError) (.type "BaseException") = some true)
    (ty_PoolError : PySem.W.typeIn K (.ref C_PoolError) = some (.type "type"))
    (kp_PoolError : PySem.W.keepIn K (.ref C_PoolError) = true)
    (ur_PoolError : PySem.W.readsIn K C_PoolError (.type "type") = true)
    (ug_PoolError : PySem.W.specialIn K (.ref C_PoolError) "__getattribute__" = some (some (.builtin "type.__getattribute__")))
    (uf_PoolError : PySem.W.findCls K (.ref C_PoolError) (.type "type") "__init__" = some (.val (.builtin "ValueError.__init__")))
    (g_InvalidNumber : PySem.W.nsIn K mainGlobals "InvalidNumber" = some (some (.ref C_InvalidNumber)))
    (x_InvalidNumber : K.lookup C_InvalidNumber = some (excClassObj nm_InvalidNumber q_InvalidNumber C_InvalidNumber N_InvalidNumber bs_InvalidNumber [.ref C_PoolError, .type "ValueError", .type "Exception", .type "BaseException", .type "object"] true sn_InvalidNumber sub_InvalidNumber ab_InvalidNumber col_InvalidNumber dd_InvalidNumber m0_InvalidNumber m1_InvalidNumber m2_InvalidNumber m3_InvalidNumber m5_InvalidNumber "ValueError.__new__"))
    (sa_InvalidNumber : PySem.W.findIn K (.ref C_InvalidNumber) "__setattr__" = some (some (.builtin "object.__setattr__")))
    (ex_InvalidNumber : PySem.W.subIn K (.ref C_InvalidNumber) (.type "BaseException") = some true)
    (ty_InvalidNumber : PySem.W.typeIn K (.ref C_InvalidNumber) = some (.type "type"))
    (kp_InvalidNumber : PySem.W.keepIn K (.ref C_InvalidNumber) = true)
    (xg_InvalidNumber : PySem.W.findIn K (.ref C_InvalidNumber) "__getattribute__" = some (some (.builtin "BaseException.__getattribute__")))
    (xn_InvalidNumber : PySem.W.findIn K (.ref C_InvalidNumber) "__getattr__" = some none)
    (xh_InvalidNumber : PySem.W.hasDictIn K C_InvalidNumber = true)
    (xi_InvalidNumber : PySem.W.isClsIn K C_InvalidNumber = true)
    (xs_InvalidNumber : PySem.W.subIn K (.ref C_InvalidNumber) (.ref C_InvalidNumber) = some true)
    (na_InvalidNumber_value : PySem.W.findIn K (.ref C_InvalidNumber) "value" = some none)
    (g_Touching : PySem.W.nsIn K mainGlobals "Touching" = some (some (.ref C_Touching)))
    (x_Touching : K.lookup C_Touching = some (excClassObj nm_Touching q_Touching C_Touching N_Touching bs_Touching [.ref C_PoolError, .type "ValueError", .type "Exception", .type "BaseException", .type "object"] true sn_Touching sub_Touching ab_Touching col_Touching dd_Touching m0_Touching m1_Touching m2_Touching m3_Touching m5_Touching "ValueError.__new__"))
    (sa_Touching : PySem.W.findIn K (.ref C_Touching) "__setattr__" = some (some (.builtin "object.__setattr__")))
    (ex_Touching : PySem.W.subIn K (.ref C_Touching) (.type "BaseException") = some true)
    (ty_Touching : PySem.W.typeIn K (.ref C_Touching) = some (.type "type"))
    (kp_Touching : PySem.W.keepIn K (.ref C_Touching) = true)
    (xg_Touching : PySem.W.findIn K (.ref C_Touching) "__getattribute__" = some (some (.builtin "BaseException.__getattribute__")))
    (xn_Touching : PySem.W.findIn K (.ref C_Touching) "__getattr__" = some none)
    (xh_Touching : PySem.W.hasDictIn K C_Touching = true)
    (xi_Touching : PySem.W.isClsIn K C_Touching = true)
    (xs_Touching : PySem.W.subIn K (.ref C_Touching) (.ref C_Touching) = some true)
    (na_Touching_index : PySem.W.findIn K (.ref C_Touching) "index" = some none)
    (g_UnknownIndex : PySem.W.nsIn K mainGlobals "UnknownIndex" = some (some (.ref C_UnknownIndex)))
    (g_Ratio : PySem.W.nsIn K mainGlobals "Ratio" = some (some (.ref C_Ratio)))
    (pg_Ratio : PySem.W.plainGet K C_Ratio Str.empty = true)
    (hd_Ratio : PySem.W.hasDictIn K C_Ratio = true)
    (po_Ratio : PySem.W.plainOver K C_Ratio = true)
    (sa_Ratio : PySem.W.findIn K (.ref C_Ratio) "__setattr__" = some (some (.builtin "object.__setattr__")))
    (ca_Ratio : PySem.W.findIn K (.ref C_Ratio) "__class__" = some (some (.builtin "object.__class__")))
    (cg_Ratio : PySem.W.specialIn K (.builtin "object.__class__") "__get__" = some (some (.builtin "getset_descriptor.__get__")))
    (ct_Ratio : PySem.W.takesIn K (.builtin "object.__class__") = some true)
    (lk_Ratio : K.lookup C_Ratio = some ⟨lo_Ratio, ld_Ratio, .cls lc_Ratio, ls_Ratio⟩)
    (mr_Ratio : lc_Ratio.mro = [.ref C_Ratio, .type "object"])
    (ty_Ratio : PySem.W.typeIn K (.ref C_Ratio) = some (.type "type"))
    (rd_Ratio : PySem.W.readsIn K C_Ratio (.type "type") = true)
    (gg_Ratio : PySem.W.specialIn K (.ref C_Ratio) "__getattribute__" = some (some (.builtin "type.__getattribute__")))
    (na_Ratio_top : PySem.W.findIn K (.ref C_Ratio) "top" = some none)
    (na_Ratio_bottom : PySem.W.findIn K (.ref C_Ratio) "bottom" = some none)
    (mi_Ratio : PySem.W.makesIn K C_Ratio = true)
    (kc_Ratio : PySem.W.keepIn K (.ref C_Ratio) = true)
    (g_Pool : PySem.W.nsIn K mainGlobals "Pool" = some (some (.ref C_Pool)))
    (pg_Pool : PySem.W.plainGet K C_Pool Str.empty = true)
    (hd_Pool : PySem.W.hasDictIn K C_Pool = true)
    (po_Pool : PySem.W.plainOver K C_Pool = true)
    (sa_Pool : PySem.W.findIn K (.ref C_Pool) "__setattr__" = some (some (.builtin "object.__setattr__")))
    (ca_Pool : PySem.W.findIn K (.ref C_Pool) "__class__" = some (some (.builtin "object.__class__")))
    (cg_Pool : PySem.W.specialIn K (.builtin "object.__class__") "__get__" = some (some (.builtin "getset_descriptor.__get__")))
    (ct_Pool : PySem.W.takesIn K (.builtin "object.__class__") = some true)
    (lk_Pool : K.lookup C_Pool = some ⟨lo_Pool, ld_Pool, .cls lc_Pool, ls_Pool⟩)
    (mr_Pool : lc_Pool.mro = [.ref C_Pool, .type "object"])
    (ty_Pool : PySem.W.typeIn K (.ref C_Pool) = some (.type "type"))
    (rd_Pool : PySem.W.readsIn K C_Pool (.type "type") = true)
    (gg_Pool : PySem.W.specialIn K (.ref C_Pool) "__getattribute__" = some (some (.builtin "type.__getattribute__")))
    (na_Pool_center : PySem.W.findIn K (.ref C_Pool) "center" = some none)
    (na_Pool_amount : PySem.W.findIn K (.ref C_Pool) "amount" = some none)
    (mi_Pool : PySem.W.makesIn K C_Pool = true)
    (kc_Pool : PySem.W.keepIn K (.ref C_Pool) = true)
    (g_Water : PySem.W.nsIn K mainGlobals "Water" = some (some (.ref C_Water)))
    (pg_Water : PySem.W.plainGet K C_Water Str.empty = true)
    (hd_Water : PySem.W.hasDictIn K C_Water = true)
    (po_Water : PySem.W.plainOver K C_Water = true)
    (sa_Water : PySem.W.findIn K (.ref C_Water) "__setattr__" = some (some (.builtin "object.__setattr__")))
    (ca_Water : PySem.W.findIn K (.ref C_Water) "__class__" = some (some (.builtin "object.__class__")))
    (cg_Water : PySem.W.specialIn K (.builtin "object.__class__") "__get__" = some (some (.builtin "getset_descriptor.__get__")))
    (ct_Water : PySem.W.takesIn K (.builtin "object.__class__") = some true)
    (lk_Water : K.lookup C_Water = some ⟨lo_Water, ld_Water, .cls lc_Water, ls_Water⟩)
    (mr_Water : lc_Water.mro = [.ref C_Water, .type "object"])
    (ty_Water : PySem.W.typeIn K (.ref C_Water) = some (.type "type"))
    (rd_Water : PySem.W.readsIn K C_Water (.type "type") = true)
    (gg_Water : PySem.W.specialIn K (.ref C_Water) "__getattribute__" = some (some (.builtin "type.__getattribute__")))
    (na_Water_rows : PySem.W.findIn K (.ref C_Water) "rows" = some none)
    (mi_Water : PySem.W.makesIn K C_Water = true)
    (kc_Water : PySem.W.keepIn K (.ref C_Water) = true)
    (i_InvalidNumber_init : PySem.W.findIn K (.ref C_InvalidNumber) "__init__" = some (some (.ref a_InvalidNumber_init)))
    (t_InvalidNumber_init : PySem.W.typeIn K (.ref a_InvalidNumber_init) = some (.type "function"))
    (l_InvalidNumber_init : K.lookup a_InvalidNumber_init = some ⟨oc_InvalidNumber_init, od_InvalidNumber_init, .func (PySem.W.fnOf "__init__" "InvalidNumber.__init__" (defArgs s_InvalidNumber_init) (defBody s_InvalidNumber_init) (defScope s_InvalidNumber_init) (.none) kV_InvalidNumber_init dc_InvalidNumber_init pm_InvalidNumber_init an_InvalidNumber_init cd_InvalidNumber_init ct_InvalidNumber_init), sl_InvalidNumber_init⟩)
    (c_InvalidNumber_init : PySem.W.codeIn K cd_InvalidNumber_init "InvalidNumber.__init__" = true)
    (k_InvalidNumber_init : PySem.W.keepIn K (.ref a_InvalidNumber_init) = true)
    (i_Touching_init : PySem.W.findIn K (.ref C_Touching) "__init__" = some (some (.ref a_Touching_init)))
    (t_Touching_init : PySem.W.typeIn K (.ref a_Touching_init) = some (.type "function"))
    (l_Touching_init : K.lookup a_Touching_init = some ⟨oc_Touching_init, od_Touching_init, .func (PySem.W.fnOf "__init__" "Touching.__init__" (defArgs s_Touching_init) (defBody s_Touching_init) (defScope s_Touching_init) (.none) kV_Touching_init dc_Touching_init pm_Touching_init an_Touching_init cd_Touching_init ct_Touching_init), sl_Touching_init⟩)
    (c_Touching_init : PySem.W.codeIn K cd_Touching_init "Touching.__init__" = true)
    (k_Touching_init : PySem.W.keepIn K (.ref a_Touching_init) = true)
    (g_is_integer : PySem.W.nsIn K mainGlobals "is_integer" = some (some (.ref a_is_integer)))
    (l_is_integer : K.lookup a_is_integer = some ⟨oc_is_integer, od_is_integer, .func (PySem.W.fnOf "is_integer" "is_integer" (defArgs s_is_integer) (defBody s_is_integer) (defScope s_is_integer) (.none) kV_is_integer dc_is_integer pm_is_integer an_is_integer cd_is_integer ct_is_integer), sl_is_integer⟩)
    (c_is_integer : PySem.W.codeIn K cd_is_integer "is_integer" = true)
    (k_is_integer : PySem.W.keepIn K (.ref a_is_integer) = true)
    (g_is_number : PySem.W.nsIn K mainGlobals "is_number" = some (some (.ref a_is_number)))
    (l_is_number : K.lookup a_is_number = some ⟨oc_is_number, od_is_number, .func (PySem.W.fnOf "is_number" "is_number" (defArgs s_is_number) (defBody s_is_number) (defScope s_is_number) (.none) kV_is_number dc_is_number pm_is_number an_is_number cd_is_number ct_is_number), sl_is_number⟩)
    (c_is_number : PySem.W.codeIn K cd_is_number "is_number" = true)
    (k_is_number : PySem.W.keepIn K (.ref a_is_number) = true)
    (g_as_ratio : PySem.W.nsIn K mainGlobals "as_ratio" = some (some (.ref a_as_ratio)))
    (l_as_ratio : K.lookup a_as_ratio = some ⟨oc_as_ratio, od_as_ratio, .func (PySem.W.fnOf "as_ratio" "as_ratio" (defArgs s_as_ratio) (defBody s_as_ratio) (defScope s_as_ratio) (.none) kV_as_ratio dc_as_ratio pm_as_ratio an_as_ratio cd_as_ratio ct_as_ratio), sl_as_ratio⟩)
    (c_as_ratio : PySem.W.codeIn K cd_as_ratio "as_ratio" = true)
    (k_as_ratio : PySem.W.keepIn K (.ref a_as_ratio) = true)
    (g_common_divisor : PySem.W.nsIn K mainGlobals "common_divisor" = some (some (.ref a_common_divisor)))
    (l_common_divisor : K.lookup a_common_divisor = some ⟨oc_common_divisor, od_common_divisor, .func (PySem.W.fnOf "common_divisor" "common_divisor" (defArgs s_common_divisor) (defBody s_common_divisor) (defScope s_common_divisor) (.none) kV_common_divisor dc_common_divisor pm_common_divisor an_common_divisor cd_common_divisor ct_common_divisor), sl_common_divisor⟩)
    (c_common_divisor : PySem.W.codeIn K cd_common_divisor "common_divisor" = true)
    (k_common_divisor : PySem.W.keepIn K (.ref a_common_divisor) = true)
    (f_Ratio_init : PySem.W.findIn K (.ref C_Ratio) "__init__" = some (some (.ref a_Ratio_init)))
    (t_Ratio_init : PySem.W.isFn K (.ref a_Ratio_init) = true)
    (l_Ratio_init : K.lookup a_Ratio_init = some ⟨oc_Ratio_init, od_Ratio_init, .func (PySem.W.fnOf "__init__" "Ratio.__init__" (defArgs s_Ratio_init) (defBody s_Ratio_init) (defScope s_Ratio_init) (.ref T_Ratio_init) kV_Ratio_init dc_Ratio_init pm_Ratio_init an_Ratio_init cd_Ratio_init ct_Ratio_init), sl_Ratio_init⟩)
    (c_Ratio_init : PySem.W.codeIn K cd_Ratio_init "Ratio.__init__" = true)
    (k_Ratio_init : PySem.W.keepIn K (.ref a_Ratio_init) = true)
    (dt_Ratio_init : K.lookup T_Ratio_init = some ⟨cl_Ratio_init, sd_Ratio_init, .seq #[.int 1 dk_Ratio_init] nn_Ratio_init, ss_Ratio_init⟩)
    (f_Ratio_over : PySem.W.findIn K (.ref C_Ratio) "over" = some (some (.ref a_Ratio_over)))
    (t_Ratio_over : PySem.W.isFn K (.ref a_Ratio_over) = true)
    (l_Ratio_over : K.lookup a_Ratio_over = some ⟨oc_Ratio_over, od_Ratio_over, .func (PySem.W.fnOf "over" "Ratio.over" (defArgs s_Ratio_over) (defBody s_Ratio_over) (defScope s_Ratio_over) (.none) kV_Ratio_over dc_Ratio_over pm_Ratio_over an_Ratio_over cd_Ratio_over ct_Ratio_over), sl_Ratio_over⟩)
    (c_Ratio_over : PySem.W.codeIn K cd_Ratio_over "Ratio.over" = true)
    (k_Ratio_over : PySem.W.keepIn K (.ref a_Ratio_over) = true)
    (f_Ratio_neg : PySem.W.findIn K (.ref C_Ratio) "__neg__" = some (some (.ref a_Ratio_neg)))
    (t_Ratio_neg : PySem.W.isFn K (.ref a_Ratio_neg) = true)
    (l_Ratio_neg : K.lookup a_Ratio_neg = some ⟨oc_Ratio_neg, od_Ratio_neg, .func (PySem.W.fnOf "__neg__" "Ratio.__neg__" (defArgs s_Ratio_neg) (defBody s_Ratio_neg) (defScope s_Ratio_neg) (.none) kV_Ratio_neg dc_Ratio_neg pm_Ratio_neg an_Ratio_neg cd_Ratio_neg ct_Ratio_neg), sl_Ratio_neg⟩)
    (c_Ratio_neg : PySem.W.codeIn K cd_Ratio_neg "Ratio.__neg__" = true)
    (k_Ratio_neg : PySem.W.keepIn K (.ref a_Ratio_neg) = true)
    (f_Ratio_abs : PySem.W.findIn K (.ref C_Ratio) "__abs__" = some (some (.ref a_Ratio_abs)))
    (t_Ratio_abs : PySem.W.isFn K (.ref a_Ratio_abs) = true)
    (l_Ratio_abs : K.lookup a_Ratio_abs = some ⟨oc_Ratio_abs, od_Ratio_abs, .func (PySem.W.fnOf "__abs__" "Ratio.__abs__" (defArgs s_Ratio_abs) (defBody s_Ratio_abs) (defScope s_Ratio_abs) (.none) kV_Ratio_abs dc_Ratio_abs pm_Ratio_abs an_Ratio_abs cd_Ratio_abs ct_Ratio_abs), sl_Ratio_abs⟩)
    (c_Ratio_abs : PySem.W.codeIn K cd_Ratio_abs "Ratio.__abs__" = true)
    (k_Ratio_abs : PySem.W.keepIn K (.ref a_Ratio_abs) = true)
    (f_Ratio_add : PySem.W.findIn K (.ref C_Ratio) "__add__" = some (some (.ref a_Ratio_add)))
    (t_Ratio_add : PySem.W.isFn K (.ref a_Ratio_add) = true)
    (l_Ratio_add : K.lookup a_Ratio_add = some ⟨oc_Ratio_add, od_Ratio_add, .func (PySem.W.fnOf "__add__" "Ratio.__add__" (defArgs s_Ratio_add) (defBody s_Ratio_add) (defScope s_Ratio_add) (.none) kV_Ratio_add dc_Ratio_add pm_Ratio_add an_Ratio_add cd_Ratio_add ct_Ratio_add), sl_Ratio_add⟩)
    (c_Ratio_add : PySem.W.codeIn K cd_Ratio_add "Ratio.__add__" = true)
    (k_Ratio_add : PySem.W.keepIn K (.ref a_Ratio_add) = true)
    (f_Ratio_radd : PySem.W.findIn K (.ref C_Ratio) "__radd__" = some (some (.ref a_Ratio_radd)))
    (t_Ratio_radd : PySem.W.isFn K (.ref a_Ratio_radd) = true)
    (l_Ratio_radd : K.lookup a_Ratio_radd = some ⟨oc_Ratio_radd, od_Ratio_radd, .func (PySem.W.fnOf "__radd__" "Ratio.__radd__" (defArgs s_Ratio_radd) (defBody s_Ratio_radd) (defScope s_Ratio_radd) (.none) kV_Ratio_radd dc_Ratio_radd pm_Ratio_radd an_Ratio_radd cd_Ratio_radd ct_Ratio_radd), sl_Ratio_radd⟩)
    (c_Ratio_radd : PySem.W.codeIn K cd_Ratio_radd "Ratio.__radd__" = true)
    (k_Ratio_radd : PySem.W.keepIn K (.ref a_Ratio_radd) = true)
    (f_Ratio_sub : PySem.W.findIn K (.ref C_Ratio) "__sub__" = some (some (.ref a_Ratio_sub)))
    (t_Ratio_sub : PySem.W.isFn K (.ref a_Ratio_sub) = true)
    (l_Ratio_sub : K.lookup a_Ratio_sub = some ⟨oc_Ratio_sub, od_Ratio_sub, .func (PySem.W.fnOf "__sub__" "Ratio.__sub__" (defArgs s_Ratio_sub) (defBody s_Ratio_sub) (defScope s_Ratio_sub) (.none) kV_Ratio_sub dc_Ratio_sub pm_Ratio_sub an_Ratio_sub cd_Ratio_sub ct_Ratio_sub), sl_Ratio_sub⟩)
    (c_Ratio_sub : PySem.W.codeIn K cd_Ratio_sub "Ratio.__sub__" = true)
    (k_Ratio_sub : PySem.W.keepIn K (.ref a_Ratio_sub) = true)
    (f_Ratio_rsub : PySem.W.findIn K (.ref C_Ratio) "__rsub__" = some (some (.ref a_Ratio_rsub)))
    (t_Ratio_rsub : PySem.W.isFn K (.ref a_Ratio_rsub) = true)
    (l_Ratio_rsub : K.lookup a_Ratio_rsub = some ⟨oc_Ratio_rsub, od_Ratio_rsub, .func (PySem.W.fnOf "__rsub__" "Ratio.__rsub__" (defArgs s_Ratio_rsub) (defBody s_Ratio_rsub) (defScope s_Ratio_rsub) (.none) kV_Ratio_rsub dc_Ratio_rsub pm_Ratio_rsub an_Ratio_rsub cd_Ratio_rsub ct_Ratio_rsub), sl_Ratio_rsub⟩)
    (c_Ratio_rsub : PySem.W.codeIn K cd_Ratio_rsub "Ratio.__rsub__" = true)
    (k_Ratio_rsub : PySem.W.keepIn K (.ref a_Ratio_rsub) = true)
    (f_Ratio_mul : PySem.W.findIn K (.ref C_Ratio) "__mul__" = some (some (.ref a_Ratio_mul)))
    (t_Ratio_mul : PySem.W.isFn K (.ref a_Ratio_mul) = true)
    (l_Ratio_mul : K.lookup a_Ratio_mul = some ⟨oc_Ratio_mul, od_Ratio_mul, .func (PySem.W.fnOf "__mul__" "Ratio.__mul__" (defArgs s_Ratio_mul) (defBody s_Ratio_mul) (defScope s_Ratio_mul) (.none) kV_Ratio_mul dc_Ratio_mul pm_Ratio_mul an_Ratio_mul cd_Ratio_mul ct_Ratio_mul), sl_Ratio_mul⟩)
    (c_Ratio_mul : PySem.W.codeIn K cd_Ratio_mul "Ratio.__mul__" = true)
    (k_Ratio_mul : PySem.W.keepIn K (.ref a_Ratio_mul) = true)
    (f_Ratio_rmul : PySem.W.findIn K (.ref C_Ratio) "__rmul__" = some (some (.ref a_Ratio_rmul)))
    (t_Ratio_rmul : PySem.W.isFn K (.ref a_Ratio_rmul) = true)
    (l_Ratio_rmul : K.lookup a_Ratio_rmul = some ⟨oc_Ratio_rmul, od_Ratio_rmul, .func (PySem.W.fnOf "__rmul__" "Ratio.__rmul__" (defArgs s_Ratio_rmul) (defBody s_Ratio_rmul) (defScope s_Ratio_rmul) (.none) kV_Ratio_rmul dc_Ratio_rmul pm_Ratio_rmul an_Ratio_rmul cd_Ratio_rmul ct_Ratio_rmul), sl_Ratio_rmul⟩)
    (c_Ratio_rmul : PySem.W.codeIn K cd_Ratio_rmul "Ratio.__rmul__" = true)
    (k_Ratio_rmul : PySem.W.keepIn K (.ref a_Ratio_rmul) = true)
    (f_Ratio_eq : PySem.W.findIn K (.ref C_Ratio) "__eq__" = some (some (.ref a_Ratio_eq)))
    (t_Ratio_eq : PySem.W.isFn K (.ref a_Ratio_eq) = true)
    (l_Ratio_eq : K.lookup a_Ratio_eq = some ⟨oc_Ratio_eq, od_Ratio_eq, .func (PySem.W.fnOf "__eq__" "Ratio.__eq__" (defArgs s_Ratio_eq) (defBody s_Ratio_eq) (defScope s_Ratio_eq) (.none) kV_Ratio_eq dc_Ratio_eq pm_Ratio_eq an_Ratio_eq cd_Ratio_eq ct_Ratio_eq), sl_Ratio_eq⟩)
    (c_Ratio_eq : PySem.W.codeIn K cd_Ratio_eq "Ratio.__eq__" = true)
    (k_Ratio_eq : PySem.W.keepIn K (.ref a_Ratio_eq) = true)
    (f_Ratio_ne : PySem.W.findIn K (.ref C_Ratio) "__ne__" = some (some (.ref a_Ratio_ne)))
    (t_Ratio_ne : PySem.W.isFn K (.ref a_Ratio_ne) = true)
    (l_Ratio_ne : K.lookup a_Ratio_ne = some ⟨oc_Ratio_ne, od_Ratio_ne, .func (PySem.W.fnOf "__ne__" "Ratio.__ne__" (defArgs s_Ratio_ne) (defBody s_Ratio_ne) (defScope s_Ratio_ne) (.none) kV_Ratio_ne dc_Ratio_ne pm_Ratio_ne an_Ratio_ne cd_Ratio_ne ct_Ratio_ne), sl_Ratio_ne⟩)
    (c_Ratio_ne : PySem.W.codeIn K cd_Ratio_ne "Ratio.__ne__" = true)
    (k_Ratio_ne : PySem.W.keepIn K (.ref a_Ratio_ne) = true)
    (f_Ratio_lt : PySem.W.findIn K (.ref C_Ratio) "__lt__" = some (some (.ref a_Ratio_lt)))
    (t_Ratio_lt : PySem.W.isFn K (.ref a_Ratio_lt) = true)
    (l_Ratio_lt : K.lookup a_Ratio_lt = some ⟨oc_Ratio_lt, od_Ratio_lt, .func (PySem.W.fnOf "__lt__" "Ratio.__lt__" (defArgs s_Ratio_lt) (defBody s_Ratio_lt) (defScope s_Ratio_lt) (.none) kV_Ratio_lt dc_Ratio_lt pm_Ratio_lt an_Ratio_lt cd_Ratio_lt ct_Ratio_lt), sl_Ratio_lt⟩)
    (c_Ratio_lt : PySem.W.codeIn K cd_Ratio_lt "Ratio.__lt__" = true)
    (k_Ratio_lt : PySem.W.keepIn K (.ref a_Ratio_lt) = true)
    (f_Ratio_le : PySem.W.findIn K (.ref C_Ratio) "__le__" = some (some (.ref a_Ratio_le)))
    (t_Ratio_le : PySem.W.isFn K (.ref a_Ratio_le) = true)
    (l_Ratio_le : K.lookup a_Ratio_le = some ⟨oc_Ratio_le, od_Ratio_le, .func (PySem.W.fnOf "__le__" "Ratio.__le__" (defArgs s_Ratio_le) (defBody s_Ratio_le) (defScope s_Ratio_le) (.none) kV_Ratio_le dc_Ratio_le pm_Ratio_le an_Ratio_le cd_Ratio_le ct_Ratio_le), sl_Ratio_le⟩)
    (c_Ratio_le : PySem.W.codeIn K cd_Ratio_le "Ratio.__le__" = true)
    (k_Ratio_le : PySem.W.keepIn K (.ref a_Ratio_le) = true)
    (f_Ratio_gt : PySem.W.findIn K (.ref C_Ratio) "__gt__" = some (some (.ref a_Ratio_gt)))
    (t_Ratio_gt : PySem.W.isFn K (.ref a_Ratio_gt) = true)
    (l_Ratio_gt : K.lookup a_Ratio_gt = some ⟨oc_Ratio_gt, od_Ratio_gt, .func (PySem.W.fnOf "__gt__" "Ratio.__gt__" (defArgs s_Ratio_gt) (defBody s_Ratio_gt) (defScope s_Ratio_gt) (.none) kV_Ratio_gt dc_Ratio_gt pm_Ratio_gt an_Ratio_gt cd_Ratio_gt ct_Ratio_gt), sl_Ratio_gt⟩)
    (c_Ratio_gt : PySem.W.codeIn K cd_Ratio_gt "Ratio.__gt__" = true)
    (k_Ratio_gt : PySem.W.keepIn K (.ref a_Ratio_gt) = true)
    (f_Ratio_ge : PySem.W.findIn K (.ref C_Ratio) "__ge__" = some (some (.ref a_Ratio_ge)))
    (t_Ratio_ge : PySem.W.isFn K (.ref a_Ratio_ge) = true)
    (l_Ratio_ge : K.lookup a_Ratio_ge = some ⟨oc_Ratio_ge, od_Ratio_ge, .func (PySem.W.fnOf "__ge__" "Ratio.__ge__" (defArgs s_Ratio_ge) (defBody s_Ratio_ge) (defScope s_Ratio_ge) (.none) kV_Ratio_ge dc_Ratio_ge pm_Ratio_ge an_Ratio_ge cd_Ratio_ge ct_Ratio_ge), sl_Ratio_ge⟩)
    (c_Ratio_ge : PySem.W.codeIn K cd_Ratio_ge "Ratio.__ge__" = true)
    (k_Ratio_ge : PySem.W.keepIn K (.ref a_Ratio_ge) = true)
    (f_Pool_init : PySem.W.findIn K (.ref C_Pool) "__init__" = some (some (.ref a_Pool_init)))
    (t_Pool_init : PySem.W.isFn K (.ref a_Pool_init) = true)
    (l_Pool_init : K.lookup a_Pool_init = some ⟨oc_Pool_init, od_Pool_init, .func (PySem.W.fnOf "__init__" "Pool.__init__" (defArgs s_Pool_init) (defBody s_Pool_init) (defScope s_Pool_init) (.none) kV_Pool_init dc_Pool_init pm_Pool_init an_Pool_init cd_Pool_init ct_Pool_init), sl_Pool_init⟩)
    (c_Pool_init : PySem.W.codeIn K cd_Pool_init "Pool.__init__" = true)
    (k_Pool_init : PySem.W.keepIn K (.ref a_Pool_init) = true)
    (f_Pool_middle : PySem.W.findIn K (.ref C_Pool) "middle" = some (some (.ref p_Pool_middle)))
    (pg_Pool_middle : PySem.W.specialIn K (.ref p_Pool_middle) "__get__" = some (some (.builtin "property.__get__")))
    (pt_Pool_middle : PySem.W.takesIn K (.ref p_Pool_middle) = some true)
    (pr_Pool_middle : PySem.W.recIn K p_Pool_middle "property" = some (.ref a_Pool_middle :: r_Pool_middle))
    (l_Pool_middle : K.lookup a_Pool_middle = some ⟨oc_Pool_middle, od_Pool_middle, .func (PySem.W.fnOf "middle" "Pool.middle" (defArgs s_Pool_middle) (defBody s_Pool_middle) (defScope s_Pool_middle) (.none) kV_Pool_middle dc_Pool_middle pm_Pool_middle an_Pool_middle cd_Pool_middle ct_Pool_middle), sl_Pool_middle⟩)
    (c_Pool_middle : PySem.W.codeIn K cd_Pool_middle "Pool.middle" = true)
    (k_Pool_middle : PySem.W.keepIn K (.ref a_Pool_middle) = true)
    (f_Pool_volume : PySem.W.findIn K (.ref C_Pool) "volume" = some (some (.ref p_Pool_volume)))
    (pg_Pool_volume : PySem.W.specialIn K (.ref p_Pool_volume) "__get__" = some (some (.builtin "property.__get__")))
    (pt_Pool_volume : PySem.W.takesIn K (.ref p_Pool_volume) = some true)
    (pr_Pool_volume : PySem.W.recIn K p_Pool_volume "property" = some (.ref a_Pool_volume :: r_Pool_volume))
    (l_Pool_volume : K.lookup a_Pool_volume = some ⟨oc_Pool_volume, od_Pool_volume, .func (PySem.W.fnOf "volume" "Pool.volume" (defArgs s_Pool_volume) (defBody s_Pool_volume) (defScope s_Pool_volume) (.none) kV_Pool_volume dc_Pool_volume pm_Pool_volume an_Pool_volume cd_Pool_volume ct_Pool_volume), sl_Pool_volume⟩)
    (c_Pool_volume : PySem.W.codeIn K cd_Pool_volume "Pool.volume" = true)
    (k_Pool_volume : PySem.W.keepIn K (.ref a_Pool_volume) = true)
    (f_Pool_left : PySem.W.findIn K (.ref C_Pool) "left" = some (some (.ref p_Pool_left)))
    (pg_Pool_left : PySem.W.specialIn K (.ref p_Pool_left) "__get__" = some (some (.builtin "property.__get__")))
    (pt_Pool_left : PySem.W.takesIn K (.ref p_Pool_left) = some true)
    (pr_Pool_left : PySem.W.recIn K p_Pool_left "property" = some (.ref a_Pool_left :: r_Pool_left))
    (l_Pool_left : K.lookup a_Pool_left = some ⟨oc_Pool_left, od_Pool_left, .func (PySem.W.fnOf "left" "Pool.left" (defArgs s_Pool_left) (defBody s_Pool_left) (defScope s_Pool_left) (.none) kV_Pool_left dc_Pool_left pm_Pool_left an_Pool_left cd_Pool_left ct_Pool_left), sl_Pool_left⟩)
    (c_Pool_left : PySem.W.codeIn K cd_Pool_left "Pool.left" = true)
    (k_Pool_left : PySem.W.keepIn K (.ref a_Pool_left) = true)
    (f_Pool_right : PySem.W.findIn K (.ref C_Pool) "right" = some (some (.ref p_Pool_right)))
    (pg_Pool_right : PySem.W.specialIn K (.ref p_Pool_right) "__get__" = some (some (.builtin "property.__get__")))
    (pt_Pool_right : PySem.W.takesIn K (.ref p_Pool_right) = some true)
    (pr_Pool_right : PySem.W.recIn K p_Pool_right "property" = some (.ref a_Pool_right :: r_Pool_right))
    (l_Pool_right : K.lookup a_Pool_right = some ⟨oc_Pool_right, od_Pool_right, .func (PySem.W.fnOf "right" "Pool.right" (defArgs s_Pool_right) (defBody s_Pool_right) (defScope s_Pool_right) (.none) kV_Pool_right dc_Pool_right pm_Pool_right an_Pool_right cd_Pool_right ct_Pool_right), sl_Pool_right⟩)
    (c_Pool_right : PySem.W.codeIn K cd_Pool_right "Pool.right" = true)
    (k_Pool_right : PySem.W.keepIn K (.ref a_Pool_right) = true)
    (f_Pool_gap_to : PySem.W.findIn K (.ref C_Pool) "gap_to" = some (some (.ref a_Pool_gap_to)))
    (t_Pool_gap_to : PySem.W.isFn K (.ref a_Pool_gap_to) = true)
    (l_Pool_gap_to : K.lookup a_Pool_gap_to = some ⟨oc_Pool_gap_to, od_Pool_gap_to, .func (PySem.W.fnOf "gap_to" "Pool.gap_to" (defArgs s_Pool_gap_to) (defBody s_Pool_gap_to) (defScope s_Pool_gap_to) (.none) kV_Pool_gap_to dc_Pool_gap_to pm_Pool_gap_to an_Pool_gap_to cd_Pool_gap_to ct_Pool_gap_to), sl_Pool_gap_to⟩)
    (c_Pool_gap_to : PySem.W.codeIn K cd_Pool_gap_to "Pool.gap_to" = true)
    (k_Pool_gap_to : PySem.W.keepIn K (.ref a_Pool_gap_to) = true)
    (f_Pool_touches : PySem.W.findIn K (.ref C_Pool) "touches" = some (some (.ref a_Pool_touches)))
    (t_Pool_touches : PySem.W.isFn K (.ref a_Pool_touches) = true)
    (l_Pool_touches : K.lookup a_Pool_touches = some ⟨oc_Pool_touches, od_Pool_touches, .func (PySem.W.fnOf "touches" "Pool.touches" (defArgs s_Pool_touches) (defBody s_Pool_touches) (defScope s_Pool_touches) (.none) kV_Pool_touches dc_Pool_touches pm_Pool_touches an_Pool_touches cd_Pool_touches ct_Pool_touches), sl_Pool_touches⟩)
    (c_Pool_touches : PySem.W.codeIn K cd_Pool_touches "Pool.touches" = true)
    (k_Pool_touches : PySem.W.keepIn K (.ref a_Pool_touches) = true)
    (f_Pool_contains : PySem.W.findIn K (.ref C_Pool) "__contains__" = some (some (.ref a_Pool_contains)))
    (t_Pool_contains : PySem.W.isFn K (.ref a_Pool_contains) = true)
    (l_Pool_contains : K.lookup a_Pool_contains = some ⟨oc_Pool_contains, od_Pool_contains, .func (PySem.W.fnOf "__contains__" "Pool.__contains__" (defArgs s_Pool_contains) (defBody s_Pool_contains) (defScope s_Pool_contains) (.none) kV_Pool_contains dc_Pool_contains pm_Pool_contains an_Pool_contains cd_Pool_contains ct_Pool_contains), sl_Pool_contains⟩)
    (c_Pool_contains : PySem.W.codeIn K cd_Pool_contains "Pool.__contains__" = true)
    (k_Pool_contains : PySem.W.keepIn K (.ref a_Pool_contains) = true)
    (f_Pool_eq : PySem.W.findIn K (.ref C_Pool) "__eq__" = some (some (.ref a_Pool_eq)))
    (t_Pool_eq : PySem.W.isFn K (.ref a_Pool_eq) = true)
    (l_Pool_eq : K.lookup a_Pool_eq = some ⟨oc_Pool_eq, od_Pool_eq, .func (PySem.W.fnOf "__eq__" "Pool.__eq__" (defArgs s_Pool_eq) (defBody s_Pool_eq) (defScope s_Pool_eq) (.none) kV_Pool_eq dc_Pool_eq pm_Pool_eq an_Pool_eq cd_Pool_eq ct_Pool_eq), sl_Pool_eq⟩)
    (c_Pool_eq : PySem.W.codeIn K cd_Pool_eq "Pool.__eq__" = true)
    (k_Pool_eq : PySem.W.keepIn K (.ref a_Pool_eq) = true)
    (f_Pool_add : PySem.W.findIn K (.ref C_Pool) "__add__" = some (some (.ref a_Pool_add)))
    (t_Pool_add : PySem.W.isFn K (.ref a_Pool_add) = true)
    (l_Pool_add : K.lookup a_Pool_add = some ⟨oc_Pool_add, od_Pool_add, .func (PySem.W.fnOf "__add__" "Pool.__add__" (defArgs s_Pool_add) (defBody s_Pool_add) (defScope s_Pool_add) (.none) kV_Pool_add dc_Pool_add pm_Pool_add an_Pool_add cd_Pool_add ct_Pool_add), sl_Pool_add⟩)
    (c_Pool_add : PySem.W.codeIn K cd_Pool_add "Pool.__add__" = true)
    (k_Pool_add : PySem.W.keepIn K (.ref a_Pool_add) = true)
    (g_insert_pool : PySem.W.nsIn K mainGlobals "insert_pool" = some (some (.ref a_insert_pool)))
    (l_insert_pool : K.lookup a_insert_pool = some ⟨oc_insert_pool, od_insert_pool, .func (PySem.W.fnOf "insert_pool" "insert_pool" (defArgs s_insert_pool) (defBody s_insert_pool) (defScope s_insert_pool) (.none) kV_insert_pool dc_insert_pool pm_insert_pool an_insert_pool cd_insert_pool ct_insert_pool), sl_insert_pool⟩)
    (c_insert_pool : PySem.W.codeIn K cd_insert_pool "insert_pool" = true)
    (k_insert_pool : PySem.W.keepIn K (.ref a_insert_pool) = true)
    (g_add_pool : PySem.W.nsIn K mainGlobals "add_pool" = some (some (.ref a_add_pool)))
    (l_add_pool : K.lookup a_add_pool = some ⟨oc_add_pool, od_add_pool, .func (PySem.W.fnOf "add_pool" "add_pool" (defArgs s_add_pool) (defBody s_add_pool) (defScope s_add_pool) (.none) kV_add_pool dc_add_pool pm_add_pool an_add_pool cd_add_pool ct_add_pool), sl_add_pool⟩)
    (c_add_pool : PySem.W.codeIn K cd_add_pool "add_pool" = true)
    (k_add_pool : PySem.W.keepIn K (.ref a_add_pool) = true)
    (g_run_together : PySem.W.nsIn K mainGlobals "run_together" = some (some (.ref a_run_together)))
    (l_run_together : K.lookup a_run_together = some ⟨oc_run_together, od_run_together, .func (PySem.W.fnOf "run_together" "run_together" (defArgs s_run_together) (defBody s_run_together) (defScope s_run_together) (.none) kV_run_together dc_run_together pm_run_together an_run_together cd_run_together ct_run_together), sl_run_together⟩)
    (c_run_together : PySem.W.codeIn K cd_run_together "run_together" = true)
    (k_run_together : PySem.W.keepIn K (.ref a_run_together) = true)
    (g_total_volume : PySem.W.nsIn K mainGlobals "total_volume" = some (some (.ref a_total_volume)))
    (l_total_volume : K.lookup a_total_volume = some ⟨oc_total_volume, od_total_volume, .func (PySem.W.fnOf "total_volume" "total_volume" (defArgs s_total_volume) (defBody s_total_volume) (defScope s_total_volume) (.none) kV_total_volume dc_total_volume pm_total_volume an_total_volume cd_total_volume ct_total_volume), sl_total_volume⟩)
    (c_total_volume : PySem.W.codeIn K cd_total_volume "total_volume" = true)
    (k_total_volume : PySem.W.keepIn K (.ref a_total_volume) = true)
    (f_Water_init : PySem.W.findIn K (.ref C_Water) "__init__" = some (some (.ref a_Water_init)))
    (t_Water_init : PySem.W.isFn K (.ref a_Water_init) = true)
    (l_Water_init : K.lookup a_Water_init = some ⟨oc_Water_init, od_Water_init, .func (PySem.W.fnOf "__init__" "Water.__init__" (defArgs s_Water_init) (defBody s_Water_init) (defScope s_Water_init) (.ref T_Water_init) kV_Water_init dc_Water_init pm_Water_init an_Water_init cd_Water_init ct_Water_init), sl_Water_init⟩)
    (c_Water_init : PySem.W.codeIn K cd_Water_init "Water.__init__" = true)
    (k_Water_init : PySem.W.keepIn K (.ref a_Water_init) = true)
    (dt_Water_init : K.lookup T_Water_init = some ⟨cl_Water_init, sd_Water_init, .seq #[.ref z_Water_init] nn_Water_init, ss_Water_init⟩)
    (dz_Water_init : K.lookup z_Water_init = some ⟨.type "tuple", zd_Water_init, .seq #[] zn_Water_init, zs_Water_init⟩)
    (f_Water_settled : PySem.W.findCls K (.ref C_Water) (.type "type") "settled" = some (.get (.builtin "classmethod.__get__") (.ref p_Water_settled) .none (.ref C_Water)))
    (pr_Water_settled : PySem.W.recIn K p_Water_settled "classmethod" = some (.ref a_Water_settled :: r_Water_settled))
    (pf_Water_settled : PySem.W.fnIn K a_Water_settled = true)
    (l_Water_settled : K.lookup a_Water_settled = some ⟨oc_Water_settled, od_Water_settled, .func (PySem.W.fnOf "settled" "Water.settled" (defArgs s_Water_settled) (defBody s_Water_settled) (defScope s_Water_settled) (.none) kV_Water_settled dc_Water_settled pm_Water_settled an_Water_settled cd_Water_settled ct_Water_settled), sl_Water_settled⟩)
    (c_Water_settled : PySem.W.codeIn K cd_Water_settled "Water.settled" = true)
    (k_Water_settled : PySem.W.keepIn K (.ref a_Water_settled) = true)
    (f_Water_volume : PySem.W.findIn K (.ref C_Water) "volume" = some (some (.ref p_Water_volume)))
    (pg_Water_volume : PySem.W.specialIn K (.ref p_Water_volume) "__get__" = some (some (.builtin "property.__get__")))
    (pt_Water_volume : PySem.W.takesIn K (.ref p_Water_volume) = some true)
    (pr_Water_volume : PySem.W.recIn K p_Water_volume "property" = some (.ref a_Water_volume :: r_Water_volume))
    (l_Water_volume : K.lookup a_Water_volume = some ⟨oc_Water_volume, od_Water_volume, .func (PySem.W.fnOf "volume" "Water.volume" (defArgs s_Water_volume) (defBody s_Water_volume) (defScope s_Water_volume) (.none) kV_Water_volume dc_Water_volume pm_Water_volume an_Water_volume cd_Water_volume ct_Water_volume), sl_Water_volume⟩)
    (c_Water_volume : PySem.W.codeIn K cd_Water_volume "Water.volume" = true)
    (k_Water_volume : PySem.W.keepIn K (.ref a_Water_volume) = true)
    (f_Water_pools : PySem.W.findIn K (.ref C_Water) "pools" = some (some (.ref a_Water_pools)))
    (t_Water_pools : PySem.W.isFn K (.ref a_Water_pools) = true)
    (l_Water_pools : K.lookup a_Water_pools = some ⟨oc_Water_pools, od_Water_pools, .func (PySem.W.fnOf "pools" "Water.pools" (defArgs s_Water_pools) (defBody s_Water_pools) (defScope s_Water_pools) (.none) kV_Water_pools dc_Water_pools pm_Water_pools an_Water_pools cd_Water_pools ct_Water_pools), sl_Water_pools⟩)
    (c_Water_pools : PySem.W.codeIn K cd_Water_pools "Water.pools" = true)
    (k_Water_pools : PySem.W.keepIn K (.ref a_Water_pools) = true)
    (f_Water_is_within : PySem.W.findIn K (.ref C_Water) "is_within" = some (some (.ref a_Water_is_within)))
    (t_Water_is_within : PySem.W.isFn K (.ref a_Water_is_within) = true)
    (l_Water_is_within : K.lookup a_Water_is_within = some ⟨oc_Water_is_within, od_Water_is_within, .func (PySem.W.fnOf "is_within" "Water.is_within" (defArgs s_Water_is_within) (defBody s_Water_is_within) (defScope s_Water_is_within) (.none) kV_Water_is_within dc_Water_is_within pm_Water_is_within an_Water_is_within cd_Water_is_within ct_Water_is_within), sl_Water_is_within⟩)
    (c_Water_is_within : PySem.W.codeIn K cd_Water_is_within "Water.is_within" = true)
    (k_Water_is_within : PySem.W.keepIn K (.ref a_Water_is_within) = true)
    (f_Water_len : PySem.W.findIn K (.ref C_Water) "__len__" = some (some (.ref a_Water_len)))
    (t_Water_len : PySem.W.isFn K (.ref a_Water_len) = true)
    (l_Water_len : K.lookup a_Water_len = some ⟨oc_Water_len, od_Water_len, .func (PySem.W.fnOf "__len__" "Water.__len__" (defArgs s_Water_len) (defBody s_Water_len) (defScope s_Water_len) (.none) kV_Water_len dc_Water_len pm_Water_len an_Water_len cd_Water_len ct_Water_len), sl_Water_len⟩)
    (c_Water_len : PySem.W.codeIn K cd_Water_len "Water.__len__" = true)
    (k_Water_len : PySem.W.keepIn K (.ref a_Water_len) = true)
    (f_Water_getitem : PySem.W.findIn K (.ref C_Water) "__getitem__" = some (some (.ref a_Water_getitem)))
    (t_Water_getitem : PySem.W.isFn K (.ref a_Water_getitem) = true)
    (fi_Water_getitem : PySem.W.fnIn K a_Water_getitem = true)
    (l_Water_getitem : K.lookup a_Water_getitem = some ⟨oc_Water_getitem, od_Water_getitem, .func (PySem.W.fnOf "__getitem__" "Water.__getitem__" (defArgs s_Water_getitem) (defBody s_Water_getitem) (defScope s_Water_getitem) (.none) kV_Water_getitem dc_Water_getitem pm_Water_getitem an_Water_getitem cd_Water_getitem ct_Water_getitem), sl_Water_getitem⟩)
    (c_Water_getitem : PySem.W.codeIn K cd_Water_getitem "Water.__getitem__" = true)
    (k_Water_getitem : PySem.W.keepIn K (.ref a_Water_getitem) = true)
    (f_Water_contains : PySem.W.findIn K (.ref C_Water) "__contains__" = some (some (.ref a_Water_contains)))
    (t_Water_contains : PySem.W.isFn K (.ref a_Water_contains) = true)
    (l_Water_contains : K.lookup a_Water_contains = some ⟨oc_Water_contains, od_Water_contains, .func (PySem.W.fnOf "__contains__" "Water.__contains__" (defArgs s_Water_contains) (defBody s_Water_contains) (defScope s_Water_contains) (.none) kV_Water_contains dc_Water_contains pm_Water_contains an_Water_contains cd_Water_contains ct_Water_contains), sl_Water_contains⟩)
    (c_Water_contains : PySem.W.codeIn K cd_Water_contains "Water.__contains__" = true)
    (k_Water_contains : PySem.W.keepIn K (.ref a_Water_contains) = true)
    (f_Water_add : PySem.W.findIn K (.ref C_Water) "__add__" = some (some (.ref a_Water_add)))
    (t_Water_add : PySem.W.isFn K (.ref a_Water_add) = true)
    (l_Water_add : K.lookup a_Water_add = some ⟨oc_Water_add, od_Water_add, .func (PySem.W.fnOf "__add__" "Water.__add__" (defArgs s_Water_add) (defBody s_Water_add) (defScope s_Water_add) (.none) kV_Water_add dc_Water_add pm_Water_add an_Water_add cd_Water_add ct_Water_add), sl_Water_add⟩)
    (c_Water_add : PySem.W.codeIn K cd_Water_add "Water.__add__" = true)
    (k_Water_add : PySem.W.keepIn K (.ref a_Water_add) = true)
    (f_Water_eq : PySem.W.findIn K (.ref C_Water) "__eq__" = some (some (.ref a_Water_eq)))
    (t_Water_eq : PySem.W.isFn K (.ref a_Water_eq) = true)
    (l_Water_eq : K.lookup a_Water_eq = some ⟨oc_Water_eq, od_Water_eq, .func (PySem.W.fnOf "__eq__" "Water.__eq__" (defArgs s_Water_eq) (defBody s_Water_eq) (defScope s_Water_eq) (.none) kV_Water_eq dc_Water_eq pm_Water_eq an_Water_eq cd_Water_eq ct_Water_eq), sl_Water_eq⟩)
    (c_Water_eq : PySem.W.codeIn K cd_Water_eq "Water.__eq__" = true)
    (k_Water_eq : PySem.W.keepIn K (.ref a_Water_eq) = true)
    (f_Water_ne : PySem.W.findIn K (.ref C_Water) "__ne__" = some (some (.ref a_Water_ne)))
    (t_Water_ne : PySem.W.isFn K (.ref a_Water_ne) = true)
    (l_Water_ne : K.lookup a_Water_ne = some ⟨oc_Water_ne, od_Water_ne, .func (PySem.W.fnOf "__ne__" "Water.__ne__" (defArgs s_Water_ne) (defBody s_Water_ne) (defScope s_Water_ne) (.none) kV_Water_ne dc_Water_ne pm_Water_ne an_Water_ne cd_Water_ne ct_Water_ne), sl_Water_ne⟩)
    (c_Water_ne : PySem.W.codeIn K cd_Water_ne "Water.__ne__" = true)
    (k_Water_ne : PySem.W.keepIn K (.ref a_Water_ne) = true)
    (f_Water_le : PySem.W.findIn K (.ref C_Water) "__le__" = some (some (.ref a_Water_le)))
    (t_Water_le : PySem.W.isFn K (.ref a_Water_le) = true)
    (l_Water_le : K.lookup a_Water_le = some ⟨oc_Water_le, od_Water_le, .func (PySem.W.fnOf "__le__" "Water.__le__" (defArgs s_Water_le) (defBody s_Water_le) (defScope s_Water_le) (.none) kV_Water_le dc_Water_le pm_Water_le an_Water_le cd_Water_le ct_Water_le), sl_Water_le⟩)
    (c_Water_le : PySem.W.codeIn K cd_Water_le "Water.__le__" = true)
    (k_Water_le : PySem.W.keepIn K (.ref a_Water_le) = true)
    (g_w_box : PySem.W.nsIn K mainGlobals "_law_box" = some (some (.ref a_w_box)))
    (l_w_box : K.lookup a_w_box = some ⟨oc_w_box, od_w_box, .func (PySem.W.fnOf "_law_box" "_law_box" (defArgs s_w_box) (defBody s_w_box) (defScope s_w_box) (.none) kV_w_box dc_w_box pm_w_box an_w_box cd_w_box ct_w_box), sl_w_box⟩)
    (c_w_box : PySem.W.codeIn K cd_w_box "_law_box" = true)
    (k_w_box : PySem.W.keepIn K (.ref a_w_box) = true)
    (g_w_take : PySem.W.nsIn K mainGlobals "_law_take" = some (some (.ref a_w_take)))
    (l_w_take : K.lookup a_w_take = some ⟨oc_w_take, od_w_take, .func (PySem.W.fnOf "_law_take" "_law_take" (defArgs s_w_take) (defBody s_w_take) (defScope s_w_take) (.none) kV_w_take dc_w_take pm_w_take an_w_take cd_w_take ct_w_take), sl_w_take⟩)
    (c_w_take : PySem.W.codeIn K cd_w_take "_law_take" = true)
    (k_w_take : PySem.W.keepIn K (.ref a_w_take) = true)
    (g_w_scene : PySem.W.nsIn K mainGlobals "_law_scene" = some (some (.ref a_w_scene)))
    (l_w_scene : K.lookup a_w_scene = some ⟨oc_w_scene, od_w_scene, .func (PySem.W.fnOf "_law_scene" "_law_scene" (defArgs s_w_scene) (defBody s_w_scene) (defScope s_w_scene) (.none) kV_w_scene dc_w_scene pm_w_scene an_w_scene cd_w_scene ct_w_scene), sl_w_scene⟩)
    (c_w_scene : PySem.W.codeIn K cd_w_scene "_law_scene" = true)
    (k_w_scene : PySem.W.keepIn K (.ref a_w_scene) = true)
    (g_w_number : PySem.W.nsIn K mainGlobals "_law_number" = some (some (.ref a_w_number)))
    (l_w_number : K.lookup a_w_number = some ⟨oc_w_number, od_w_number, .func (PySem.W.fnOf "_law_number" "_law_number" (defArgs s_w_number) (defBody s_w_number) (defScope s_w_number) (.none) kV_w_number dc_w_number pm_w_number an_w_number cd_w_number ct_w_number), sl_w_number⟩)
    (c_w_number : PySem.W.codeIn K cd_w_number "_law_number" = true)
    (k_w_number : PySem.W.keepIn K (.ref a_w_number) = true)
    (g_w_pool : PySem.W.nsIn K mainGlobals "_law_pool" = some (some (.ref a_w_pool)))
    (l_w_pool : K.lookup a_w_pool = some ⟨oc_w_pool, od_w_pool, .func (PySem.W.fnOf "_law_pool" "_law_pool" (defArgs s_w_pool) (defBody s_w_pool) (defScope s_w_pool) (.none) kV_w_pool dc_w_pool pm_w_pool an_w_pool cd_w_pool ct_w_pool), sl_w_pool⟩)
    (c_w_pool : PySem.W.codeIn K cd_w_pool "_law_pool" = true)
    (k_w_pool : PySem.W.keepIn K (.ref a_w_pool) = true)
    (g_w_mixed : PySem.W.nsIn K mainGlobals "_law_mixed" = some (some (.ref a_w_mixed)))
    (l_w_mixed : K.lookup a_w_mixed = some ⟨oc_w_mixed, od_w_mixed, .func (PySem.W.fnOf "_law_mixed" "_law_mixed" (defArgs s_w_mixed) (defBody s_w_mixed) (defScope s_w_mixed) (.none) kV_w_mixed dc_w_mixed pm_w_mixed an_w_mixed cd_w_mixed ct_w_mixed), sl_w_mixed⟩)
    (c_w_mixed : PySem.W.codeIn K cd_w_mixed "_law_mixed" = true)
    (k_w_mixed : PySem.W.keepIn K (.ref a_w_mixed) = true)
    (g_w_added : PySem.W.nsIn K mainGlobals "_law_added" = some (some (.ref a_w_added)))
    (l_w_added : K.lookup a_w_added = some ⟨oc_w_added, od_w_added, .func (PySem.W.fnOf "_law_added" "_law_added" (defArgs s_w_added) (defBody s_w_added) (defScope s_w_added) (.none) kV_w_added dc_w_added pm_w_added an_w_added cd_w_added ct_w_added), sl_w_added⟩)
    (c_w_added : PySem.W.codeIn K cd_w_added "_law_added" = true)
    (k_w_added : PySem.W.keepIn K (.ref a_w_added) = true)
    (g_law : PySem.W.nsIn K mainGlobals "law" = some (some (.ref a_law)))
    (l_law : K.lookup a_law = some ⟨oc_law, od_law, .func (PySem.W.fnOf "law" "law" (defArgs s_law) (defBody s_law) (defScope s_law) (.none) kV_law dc_law pm_law an_law cd_law ct_law), sl_law⟩)
    (c_law : PySem.W.codeIn K cd_law "law" = true)
    (k_law : PySem.W.keepIn K (.ref a_law) = true)
    (io_add : PySem.W.findIn K (.type "int") "__add__" = some fo_add)
    (ior_add : PySem.W.findIn K (.type "int") "__radd__" = some ro_add)
    (nio_add : PySem.W.findIn K (.type "object") "__iadd__" = some none)
    (io_mul : PySem.W.findIn K (.type "int") "__mul__" = some fo_mul)
    (ior_mul : PySem.W.findIn K (.type "int") "__rmul__" = some ro_mul)
    (nio_mul : PySem.W.findIn K (.type "object") "__imul__" = some none)
    (io_sub : PySem.W.findIn K (.type "int") "__sub__" = some fo_sub)
    (ior_sub : PySem.W.findIn K (.type "int") "__rsub__" = some ro_sub)
    (nio_sub : PySem.W.findIn K (.type "object") "__isub__" = some none)
    (nii_Ratio_add : PySem.W.findIn K (.ref C_Ratio) "__iadd__" = some none)
    (nii_Ratio_sub : PySem.W.findIn K (.ref C_Ratio) "__isub__" = some none)
    (nii_Ratio_mul : PySem.W.findIn K (.ref C_Ratio) "__imul__" = some none)
    (nq_Pool : PySem.W.findIn K (.ref C_Pool) "__ne__" = some (some (.builtin "object.__ne__")))
    (nii_Pool_add : PySem.W.findIn K (.ref C_Pool) "__iadd__" = some none)
    (nr_Pool_add : PySem.W.findIn K (.ref C_Pool) "__radd__" = some none)
    (nii_Water_add : PySem.W.findIn K (.ref C_Water) "__iadd__" = some none)
    (nr_Water_add : PySem.W.findIn K (.ref C_Water) "__radd__" = some none)
    (n_IndexError : PySem.W.nsIn K mainGlobals "IndexError" = some none)
    (n_NotImplemented : PySem.W.nsIn K mainGlobals "NotImplemented" = some none)
    (n_TypeError : PySem.W.nsIn K mainGlobals "TypeError" = some none)
    (n_abs : PySem.W.nsIn K mainGlobals "abs" = some none)
    (n_all : PySem.W.nsIn K mainGlobals "all" = some none)
    (n_any : PySem.W.nsIn K mainGlobals "any" = some none)
    (n_bool : PySem.W.nsIn K mainGlobals "bool" = some none)
    (n_classmethod : PySem.W.nsIn K mainGlobals "classmethod" = some none)
    (n_enumerate : PySem.W.nsIn K mainGlobals "enumerate" = some none)
    (n_int : PySem.W.nsIn K mainGlobals "int" = some none)
    (n_isinstance : PySem.W.nsIn K mainGlobals "isinstance" = some none)
    (n_len : PySem.W.nsIn K mainGlobals "len" = some none)
    (n_list : PySem.W.nsIn K mainGlobals "list" = some none)
    (n_max : PySem.W.nsIn K mainGlobals "max" = some none)
    (n_min : PySem.W.nsIn K mainGlobals "min" = some none)
    (n_property : PySem.W.nsIn K mainGlobals "property" = some none)
    (n_range : PySem.W.nsIn K mainGlobals "range" = some none)
    (n_str : PySem.W.nsIn K mainGlobals "str" = some none)
    (n_sum : PySem.W.nsIn K mainGlobals "sum" = some none)
    (n_tuple : PySem.W.nsIn K mainGlobals "tuple" = some none)
    (c_DIGITS : PySem.W.nsIn K mainGlobals "DIGITS" = some (some (.str "0123456789" tk_DIGITS)))
    (c_MOST_DIGITS : PySem.W.nsIn K mainGlobals "MOST_DIGITS" = some (some (.int 1000 tk_MOST_DIGITS))) : ∃ T : Tx K mg, T.a_law = fa := by
  have e : Value.ref fa = Value.ref a_law := Option.some.inj (hfa.symm.trans (PySem.W.mg_of X G g_law))
  exact ⟨{
    C_PoolError := C_PoolError,
    g_PoolError := PySem.W.mg_of X G g_PoolError,
    oex_PoolError := ⟨⟨_, _, _, _, _, _, _, _, _, _, _, _, _, _, _, x_PoolError, rfl⟩, sa_PoolError, ex_PoolError, ty_PoolError, kp_PoolError⟩,
    up_PoolError := ⟨ur_PoolError, ug_PoolError, uf_PoolError⟩,
    C_InvalidNumber := C_InvalidNumber,
    g_InvalidNumber := PySem.W.mg_of X G g_InvalidNumber,
    oex_InvalidNumber := ⟨⟨_, _, _, _, _, _, _, _, _, _, _, _, _, _, _, x_InvalidNumber, rfl⟩, sa_InvalidNumber, ex_InvalidNumber, ty_InvalidNumber, kp_InvalidNumber⟩,
    xf_InvalidNumber := ⟨xg_InvalidNumber, xn_InvalidNumber, ex_InvalidNumber, xh_InvalidNumber⟩,
    xm_InvalidNumber := exm_of ex_InvalidNumber xi_InvalidNumber ty_InvalidNumber xs_InvalidNumber,
    na_InvalidNumber_value := na_InvalidNumber_value,
    C_Touching := C_Touching,
    g_Touching := PySem.W.mg_of X G g_Touching,
    oex_Touching := ⟨⟨_, _, _, _, _, _, _, _, _, _, _, _, _, _, _, x_Touching, rfl⟩, sa_Touching, ex_Touching, ty_Touching, kp_Touching⟩,
    xf_Touching := ⟨xg_Touching, xn_Touching, ex_Touching, xh_Touching⟩,
    xm_Touching := exm_of ex_Touching xi_Touching ty_Touching xs_Touching,
    na_Touching_index := na_Touching_index,
    C_UnknownIndex := C_UnknownIndex,
    g_UnknownIndex := PySem.W.mg_of X G g_UnknownIndex,
    C_Ratio := C_Ratio,
    g_Ratio := PySem.W.mg_of X G g_Ratio,
    own_Ratio := ⟨⟨pg_Ratio, hd_Ratio, po_Ratio, sa_Ratio⟩, ca_Ratio, cg_Ratio, ct_Ratio, mro_of lk_Ratio mr_Ratio, ty_Ratio⟩,
    cr_Ratio := ⟨rd_Ratio, gg_Ratio⟩,
    na_Ratio_top := na_Ratio_top,
    na_Ratio_bottom := na_Ratio_bottom,
    C_Pool := C_Pool,
    g_Pool := PySem.W.mg_of X G g_Pool,
    own_Pool := ⟨⟨pg_Pool, hd_Pool, po_Pool, sa_Pool⟩, ca_Pool, cg_Pool, ct_Pool, mro_of lk_Pool mr_Pool, ty_Pool⟩,
    cr_Pool := ⟨rd_Pool, gg_Pool⟩,
    na_Pool_center := na_Pool_center,
    na_Pool_amount := na_Pool_amount,
    C_Water := C_Water,
    g_Water := PySem.W.mg_of X G g_Water,
    own_Water := ⟨⟨pg_Water, hd_Water, po_Water, sa_Water⟩, ca_Water, cg_Water, ct_Water, mro_of lk_Water mr_Water, ty_Water⟩,
    cr_Water := ⟨rd_Water, gg_Water⟩,
    na_Water_rows := na_Water_rows,
    i_InvalidNumber := i_InvalidNumber_init,
    t_InvalidNumber := t_InvalidNumber_init,
    a_InvalidNumber_init := a_InvalidNumber_init,
    fd_InvalidNumber_init := _,
    F_InvalidNumber_init := funS_mk l_InvalidNumber_init c_InvalidNumber_init k_InvalidNumber_init,
    i_Touching := i_Touching_init,
    t_Touching := t_Touching_init,
    a_Touching_init := a_Touching_init,
    fd_Touching_init := _,
    F_Touching_init := funS_mk l_Touching_init c_Touching_init k_Touching_init,
    g_is_integer := PySem.W.mg_of X G g_is_integer,
    a_is_integer := a_is_integer,
    fd_is_integer := _,
    F_is_integer := funS_mk l_is_integer c_is_integer k_is_integer,
    g_is_number := PySem.W.mg_of X G g_is_number,
    a_is_number := a_is_number,
    fd_is_number := _,
    F_is_number := funS_mk l_is_number c_is_number k_is_number,
    g_as_ratio := PySem.W.mg_of X G g_as_ratio,
    a_as_ratio := a_as_ratio,
    fd_as_ratio := _,
    F_as_ratio := funS_mk l_as_ratio c_as_ratio k_as_ratio,
    g_common_divisor := PySem.W.mg_of X G g_common_divisor,
    a_common_divisor := a_common_divisor,
    fd_common_divisor := _,
    F_common_divisor := funS_mk l_common_divisor c_common_divisor k_common_divisor,
    m_Ratio_init := ⟨f_Ratio_init, t_Ratio_init, k_Ratio_init⟩,
    mk_Ratio := ⟨mi_Ratio, f_Ratio_init, t_Ratio_init, kc_Ratio⟩,
    a_Ratio_init := a_Ratio_init,
    fd_Ratio_init := _,
    F_Ratio_init := ⟨⟨_, _, _, _, _, _, _, _, _, _, rfl, l_Ratio_init, c_Ratio_init, .inr ⟨(by intro z; cases z), _, _, [.int 1 dk_Ratio_init], _, rfl, dt_Ratio_init, rfl, .cons ⟨_, rfl⟩ (.nil)⟩, .inl rfl⟩, k_Ratio_init⟩,
    m_Ratio_over := ⟨f_Ratio_over, t_Ratio_over, k_Ratio_over⟩,
    a_Ratio_over := a_Ratio_over,
    fd_Ratio_over := _,
    F_Ratio_over := funS_mk l_Ratio_over c_Ratio_over k_Ratio_over,
    m_Ratio_neg := ⟨f_Ratio_neg, t_Ratio_neg, k_Ratio_neg⟩,
    a_Ratio_neg := a_Ratio_neg,
    fd_Ratio_neg := _,
    F_Ratio_neg := funS_mk l_Ratio_neg c_Ratio_neg k_Ratio_neg,
    m_Ratio_abs := ⟨f_Ratio_abs, t_Ratio_abs, k_Ratio_abs⟩,
    a_Ratio_abs := a_Ratio_abs,
    fd_Ratio_abs := _,
    F_Ratio_abs := funS_mk l_Ratio_abs c_Ratio_abs k_Ratio_abs,
    m_Ratio_add := ⟨f_Ratio_add, t_Ratio_add, k_Ratio_add⟩,
    a_Ratio_add := a_Ratio_add,
    fd_Ratio_add := _,
    F_Ratio_add := funS_mk l_Ratio_add c_Ratio_add k_Ratio_add,
    m_Ratio_radd := ⟨f_Ratio_radd, t_Ratio_radd, k_Ratio_radd⟩,
    a_Ratio_radd := a_Ratio_radd,
    fd_Ratio_radd := _,
    F_Ratio_radd := funS_mk l_Ratio_radd c_Ratio_radd k_Ratio_radd,
    m_Ratio_sub := ⟨f_Ratio_sub, t_Ratio_sub, k_Ratio_sub⟩,
    a_Ratio_sub := a_Ratio_sub,
    fd_Ratio_sub := _,
    F_Ratio_sub := funS_mk l_Ratio_sub c_Ratio_sub k_Ratio_sub,
    m_Ratio_rsub := ⟨f_Ratio_rsub, t_Ratio_rsub, k_Ratio_rsub⟩,
    a_Ratio_rsub := a_Ratio_rsub,
    fd_Ratio_rsub := _,
    F_Ratio_rsub := funS_mk l_Ratio_rsub c_Ratio_rsub k_Ratio_rsub,
    m_Ratio_mul := ⟨f_Ratio_mul, t_Ratio_mul, k_Ratio_mul⟩,
    a_Ratio_mul := a_Ratio_mul,
    fd_Ratio_mul := _,
    F_Ratio_mul := funS_mk l_Ratio_mul c_Ratio_mul k_Ratio_mul,
    m_Ratio_rmul := ⟨f_Ratio_rmul, t_Ratio_rmul, k_Ratio_rmul⟩,
    a_Ratio_rmul := a_Ratio_rmul,
    fd_Ratio_rmul := _,
    F_Ratio_rmul := funS_mk l_Ratio_rmul c_Ratio_rmul k_Ratio_rmul,
    m_Ratio_eq := ⟨f_Ratio_eq, t_Ratio_eq, k_Ratio_eq⟩,
    a_Ratio_eq := a_Ratio_eq,
    fd_Ratio_eq := _,
    F_Ratio_eq := funS_mk l_Ratio_eq c_Ratio_eq k_Ratio_eq,
    m_Ratio_ne := ⟨f_Ratio_ne, t_Ratio_ne, k_Ratio_ne⟩,
    a_Ratio_ne := a_Ratio_ne,
    fd_Ratio_ne := _,
    F_Ratio_ne := funS_mk l_Ratio_ne c_Ratio_ne k_Ratio_ne,
    m_Ratio_lt := ⟨f_Ratio_lt, t_Ratio_lt, k_Ratio_lt⟩,
    a_Ratio_lt := a_Ratio_lt,
    fd_Ratio_lt := _,
    F_Ratio_lt := funS_mk l_Ratio_lt c_Ratio_lt k_Ratio_lt,
    m_Ratio_le := ⟨f_Ratio_le, t_Ratio_le, k_Ratio_le⟩,
    a_Ratio_le := a_Ratio_le,
    fd_Ratio_le := _,
    F_Ratio_le := funS_mk l_Ratio_le c_Ratio_le k_Ratio_le,
    m_Ratio_gt := ⟨f_Ratio_gt, t_Ratio_gt, k_Ratio_gt⟩,
    a_Ratio_gt := a_Ratio_gt,
    fd_Ratio_gt := _,
    F_Ratio_gt := funS_mk l_Ratio_gt c_Ratio_gt k_Ratio_gt,
    m_Ratio_ge := ⟨f_Ratio_ge, t_Ratio_ge, k_Ratio_ge⟩,
    a_Ratio_ge := a_Ratio_ge,
    fd_Ratio_ge := _,
    F_Ratio_ge := funS_mk l_Ratio_ge c_Ratio_ge k_Ratio_ge,
    m_Pool_init := ⟨f_Pool_init, t_Pool_init, k_Pool_init⟩,
    mk_Pool := ⟨mi_Pool, f_Pool_init, t_Pool_init, kc_Pool⟩,
    a_Pool_init := a_Pool_init,
    fd_Pool_init := _,
    F_Pool_init := funS_mk l_Pool_init c_Pool_init k_Pool_init,
    p_Pool_middle := p_Pool_middle,
    P_Pool_middle := ⟨f_Pool_middle, pg_Pool_middle, pt_Pool_middle, _, pr_Pool_middle⟩,
    a_Pool_middle := a_Pool_middle,
    fd_Pool_middle := _,
    F_Pool_middle := funS_mk l_Pool_middle c_Pool_middle k_Pool_middle,
    p_Pool_volume := p_Pool_volume,
    P_Pool_volume := ⟨f_Pool_volume, pg_Pool_volume, pt_Pool_volume, _, pr_Pool_volume⟩,
    a_Pool_volume := a_Pool_volume,
    fd_Pool_volume := _,
    F_Pool_volume := funS_mk l_Pool_volume c_Pool_volume k_Pool_volume,
    p_Pool_left := p_Pool_left,
    P_Pool_left := ⟨f_Pool_left, pg_Pool_left, pt_Pool_left, _, pr_Pool_left⟩,
    a_Pool_left := a_Pool_left,
    fd_Pool_left := _,
    F_Pool_left := funS_mk l_Pool_left c_Pool_left k_Pool_left,
    p_Pool_right := p_Pool_right,
    P_Pool_right := ⟨f_Pool_right, pg_Pool_right, pt_Pool_right, _, pr_Pool_right⟩,
    a_Pool_right := a_Pool_right,
    fd_Pool_right := _,
    F_Pool_right := funS_mk l_Pool_right c_Pool_right k_Pool_right,
    m_Pool_gap_to := ⟨f_Pool_gap_to, t_Pool_gap_to, k_Pool_gap_to⟩,
    a_Pool_gap_to := a_Pool_gap_to,
    fd_Pool_gap_to := _,
    F_Pool_gap_to := funS_mk l_Pool_gap_to c_Pool_gap_to k_Pool_gap_to,
    m_Pool_touches := ⟨f_Pool_touches, t_Pool_touches, k_Pool_touches⟩,
    a_Pool_touches := a_Pool_touches,
    fd_Pool_touches := _,
    F_Pool_touches := funS_mk l_Pool_touches c_Pool_touches k_Pool_touches,
    m_Pool_contains := ⟨f_Pool_contains, t_Pool_contains, k_Pool_contains⟩,
    a_Pool_contains := a_Pool_contains,
    fd_Pool_contains := _,
    F_Pool_contains := funS_mk l_Pool_contains c_Pool_contains k_Pool_contains,
    m_Pool_eq := ⟨f_Pool_eq, t_Pool_eq, k_Pool_eq⟩,
    a_Pool_eq := a_Pool_eq,
    fd_Pool_eq := _,
    F_Pool_eq := funS_mk l_Pool_eq c_Pool_eq k_Pool_eq,
    m_Pool_add := ⟨f_Pool_add, t_Pool_add, k_Pool_add⟩,
    a_Pool_add := a_Pool_add,
    fd_Pool_add := _,
    F_Pool_add := funS_mk l_Pool_add c_Pool_add k_Pool_add,
    g_insert_pool := PySem.W.mg_of X G g_insert_pool,
    a_insert_pool := a_insert_pool,
    fd_insert_pool := _,
    F_insert_pool := funS_mk l_insert_pool c_insert_pool k_insert_pool,
    g_add_pool := PySem.W.mg_of X G g_add_pool,
    a_add_pool := a_add_pool,
    fd_add_pool := _,
    F_add_pool := funS_mk l_add_pool c_add_pool k_add_pool,
    g_run_together := PySem.W.mg_of X G g_run_together,
    a_run_together := a_run_together,
    fd_run_together := _,
    F_run_together := funS_mk l_run_together c_run_together k_run_together,
    g_total_volume := PySem.W.mg_of X G g_total_volume,
    a_total_volume := a_total_volume,
    fd_total_volume := _,
    F_total_volume := funS_mk l_total_volume c_total_volume k_total_volume,
    m_Water_init := ⟨f_Water_init, t_Water_init, k_Water_init⟩,
    mk_Water := ⟨mi_Water, f_Water_init, t_Water_init, kc_Water⟩,
    a_Water_init := a_Water_init,
    fd_Water_init := _,
    t0_Water_init := z_Water_init,
    T0_Water_init := ⟨_, _, dz_Water_init, rfl, rfl⟩,
    F_Water_init := ⟨⟨_, _, _, _, _, _, _, _, _, _, rfl, l_Water_init, c_Water_init, .inr ⟨(by intro z; cases z), _, _, [.ref z_Water_init], _, rfl, dt_Water_init, rfl, .cons rfl (.nil)⟩, .inl rfl⟩, k_Water_init⟩,
    p_Water_settled := p_Water_settled,
    cm_Water_settled := ⟨f_Water_settled, ⟨_, pr_Water_settled⟩, pf_Water_settled⟩,
    a_Water_settled := a_Water_settled,
    fd_Water_settled := _,
    F_Water_settled := funS_mk l_Water_settled c_Water_settled k_Water_settled,
    p_Water_volume := p_Water_volume,
    P_Water_volume := ⟨f_Water_volume, pg_Water_volume, pt_Water_volume, _, pr_Water_volume⟩,
    a_Water_volume := a_Water_volume,
    fd_Water_volume := _,
    F_Water_volume := funS_mk l_Water_volume c_Water_volume k_Water_volume,
    m_Water_pools := ⟨f_Water_pools, t_Water_pools, k_Water_pools⟩,
    a_Water_pools := a_Water_pools,
    fd_Water_pools := _,
    F_Water_pools := funS_mk l_Water_pools c_Water_pools k_Water_pools,
    m_Water_is_within := ⟨f_Water_is_within, t_Water_is_within, k_Water_is_within⟩,
    a_Water_is_within := a_Water_is_within,
    fd_Water_is_within := _,
    F_Water_is_within := funS_mk l_Water_is_within c_Water_is_within k_Water_is_within,
    m_Water_len := ⟨f_Water_len, t_Water_len, k_Water_len⟩,
    a_Water_len := a_Water_len,
    fd_Water_len := _,
    F_Water_len := funS_mk l_Water_len c_Water_len k_Water_len,
    m_Water_getitem := ⟨f_Water_getitem, t_Water_getitem, k_Water_getitem⟩,
    fi_Water_getitem := fi_Water_getitem,
    a_Water_getitem := a_Water_getitem,
    fd_Water_getitem := _,
    F_Water_getitem := funS_mk l_Water_getitem c_Water_getitem k_Water_getitem,
    m_Water_contains := ⟨f_Water_contains, t_Water_contains, k_Water_contains⟩,
    a_Water_contains := a_Water_contains,
    fd_Water_contains := _,
    F_Water_contains := funS_mk l_Water_contains c_Water_contains k_Water_contains,
    m_Water_add := ⟨f_Water_add, t_Water_add, k_Water_add⟩,
    a_Water_add := a_Water_add,
    fd_Water_add := _,
    F_Water_add := funS_mk l_Water_add c_Water_add k_Water_add,
    m_Water_eq := ⟨f_Water_eq, t_Water_eq, k_Water_eq⟩,
    a_Water_eq := a_Water_eq,
    fd_Water_eq := _,
    F_Water_eq := funS_mk l_Water_eq c_Water_eq k_Water_eq,
    m_Water_ne := ⟨f_Water_ne, t_Water_ne, k_Water_ne⟩,
    a_Water_ne := a_Water_ne,
    fd_Water_ne := _,
    F_Water_ne := funS_mk l_Water_ne c_Water_ne k_Water_ne,
    m_Water_le := ⟨f_Water_le, t_Water_le, k_Water_le⟩,
    a_Water_le := a_Water_le,
    fd_Water_le := _,
    F_Water_le := funS_mk l_Water_le c_Water_le k_Water_le,
    g_w_box := PySem.W.mg_of X G g_w_box,
    a_w_box := a_w_box,
    fd_w_box := _,
    F_w_box := funS_mk l_w_box c_w_box k_w_box,
    g_w_take := PySem.W.mg_of X G g_w_take,
    a_w_take := a_w_take,
    fd_w_take := _,
    F_w_take := funS_mk l_w_take c_w_take k_w_take,
    g_w_scene := PySem.W.mg_of X G g_w_scene,
    a_w_scene := a_w_scene,
    fd_w_scene := _,
    F_w_scene := funS_mk l_w_scene c_w_scene k_w_scene,
    g_w_number := PySem.W.mg_of X G g_w_number,
    a_w_number := a_w_number,
    fd_w_number := _,
    F_w_number := funS_mk l_w_number c_w_number k_w_number,
    g_w_pool := PySem.W.mg_of X G g_w_pool,
    a_w_pool := a_w_pool,
    fd_w_pool := _,
    F_w_pool := funS_mk l_w_pool c_w_pool k_w_pool,
    g_w_mixed := PySem.W.mg_of X G g_w_mixed,
    a_w_mixed := a_w_mixed,
    fd_w_mixed := _,
    F_w_mixed := funS_mk l_w_mixed c_w_mixed k_w_mixed,
    g_w_added := PySem.W.mg_of X G g_w_added,
    a_w_added := a_w_added,
    fd_w_added := _,
    F_w_added := funS_mk l_w_added c_w_added k_w_added,
    g_law := PySem.W.mg_of X G g_law,
    a_law := a_law,
    fd_law := _,
    F_law := funS_mk l_law c_law k_law,
    io_add := ⟨_, io_add⟩,
    ior_add := ⟨_, ior_add⟩,
    nio_add := nio_add,
    io_mul := ⟨_, io_mul⟩,
    ior_mul := ⟨_, ior_mul⟩,
    nio_mul := nio_mul,
    io_sub := ⟨_, io_sub⟩,
    ior_sub := ⟨_, ior_sub⟩,
    nio_sub := nio_sub,
    nii_Ratio_add := nii_Ratio_add,
    nii_Ratio_sub := nii_Ratio_sub,
    nii_Ratio_mul := nii_Ratio_mul,
    nq_Pool := nq_Pool,
    nii_Pool_add := nii_Pool_add,
    nr_Pool_add := nr_Pool_add,
    nii_Water_add := nii_Water_add,
    nr_Water_add := nr_Water_add,
    n_IndexError := PySem.W.mg_none_of X G n_IndexError,
    n_NotImplemented := PySem.W.mg_none_of X G n_NotImplemented,
    n_TypeError := PySem.W.mg_none_of X G n_TypeError,
    n_abs := PySem.W.mg_none_of X G n_abs,
    n_all := PySem.W.mg_none_of X G n_all,
    n_any := PySem.W.mg_none_of X G n_any,
    n_bool := PySem.W.mg_none_of X G n_bool,
    n_classmethod := PySem.W.mg_none_of X G n_classmethod,
    n_enumerate := PySem.W.mg_none_of X G n_enumerate,
    n_int := PySem.W.mg_none_of X G n_int,
    n_isinstance := PySem.W.mg_none_of X G n_isinstance,
    n_len := PySem.W.mg_none_of X G n_len,
    n_list := PySem.W.mg_none_of X G n_list,
    n_max := PySem.W.mg_none_of X G n_max,
    n_min := PySem.W.mg_none_of X G n_min,
    n_property := PySem.W.mg_none_of X G n_property,
    n_range := PySem.W.mg_none_of X G n_range,
    n_str := PySem.W.mg_none_of X G n_str,
    n_sum := PySem.W.mg_none_of X G n_sum,
    n_tuple := PySem.W.mg_none_of X G n_tuple,
    c_DIGITS := ⟨_, PySem.W.mg_of X G c_DIGITS⟩,
    c_MOST_DIGITS := ⟨_, PySem.W.mg_of X G c_MOST_DIGITS⟩ }, (Value.ref.inj e).symm⟩
theorem fin_law {P : Program} {w : World} {K : PySem.W.Frag} {mg : Str → Option Value} {fa : Addr} (t : ∃ T : Tx K mg, T.a_law = fa) : ∃ fd : FuncData, (∀ (s : Shared) (u : Value), BindsTo s fd ⟨[u], []⟩ [("_law_script", u)]) ∧ ∀ base : Heap, K.In base → base.Ns mainGlobals mg → FnG P w K mg base lvl_law fa fd ["_law_script"] (spR K (RLaw Scr)) := by
  obtain ⟨T, rfl⟩ := t
  exact ⟨T.fd_law, binds_law T, fun base _ _ => ok_law T⟩
end PM
open PySem PySem.W PyProof.Rows
set_option maxRecDepth 100000 in
set_option maxHeartbeats 0 in
theorem PySem.Challenge.cw_poolsmeet_k14_whole_any_order_of_running_holds : PySem.Challenge.rw_poolsmeet_k14_whole_any_order_of_running.Holds := by
  refine topk ?_
  k_fill
  refine PM.walkG (l := PySem.Challenge.rw_poolsmeet_k14_whole_any_order_of_running) (k := PM.lvl_law) (x := "_law_script") rfl rfl ⟨rfl, by decide, by decide⟩ (fun w h Y => PySem.W.kIn_of Y) ?F
  case F =>
    intro w mg fa h KX G hmg
    refine' PM.fin_law (PM.tx_mk KX G hmg ?g_PoolError ?x_PoolError ?sa_PoolError ?ex_PoolError ?ty_PoolError ?kp_PoolError ?ur_PoolError ?ug_PoolError ?uf_PoolError ?g_InvalidNumber ?x_InvalidNumber ?sa_InvalidNumber ?ex_InvalidNumber ?ty_InvalidNumber ?kp_InvalidNumber ?xg_InvalidNumber ?xn_InvalidNumber ?xh_InvalidNumber ?xi_InvalidNumber ?xs_InvalidNumber ?na_InvalidNumber_value ?g_Touching ?x_Touching ?sa_Touching ?ex_Touching ?ty_Touching ?kp_Touching ?xg_Touching ?xn_Touching ?xh_Touching ?xi_Touching ?xs_Touching ?na_Touching_index ?g_UnknownIndex ?g_Ratio ?pg_Ratio ?hd_Ratio ?po_Ratio ?sa_Ratio ?ca_Ratio ?cg_Ratio ?ct_Ratio ?lk_Ratio ?mr_Ratio ?ty_Ratio ?rd_Ratio ?gg_Ratio ?na_Ratio_top ?na_Ratio_bottom ?mi_Ratio ?kc_Ratio ?g_Pool ?pg_Pool ?hd_Pool ?po_Pool ?sa_Pool ?ca_Pool ?cg_Pool ?ct_Pool ?lk_Pool ?mr_Pool ?ty_Pool ?rd_Pool ?gg_Pool ?na_Pool_center ?na_Pool_amount ?mi_Pool ?kc_Pool ?g_Water ?pg_Water ?hd_Water ?po_Water ?sa_Water ?ca_Water ?cg_Water ?ct_Water ?lk_Water ?mr_Water ?ty_Water ?rd_Water ?gg_Water ?na_Water_rows ?mi_Water ?kc_Water ?i_InvalidNumber_init ?t_InvalidNumber_init ?l_InvalidNumber_init ?c_InvalidNumber_init ?k_InvalidNumber_init ?i_Touching_init ?t_Touching_init ?l_Touching_init ?c_Touching_init ?k_Touching_init ?g_is_integer ?l_is_integer ?c_is_integer ?k_is_integer ?g_is_number ?l_is_number ?c_is_number ?k_is_number ?g_as_ratio ?l_as_ratio ?c_as_ratio ?k_as_ratio ?g_common_divisor ?l_common_divisor ?c_common_divisor ?k_common_divisor ?f_Ratio_init ?t_Ratio_init ?l_Ratio_init ?c_Ratio_init ?k_Ratio_init ?dt_Ratio_init ?f_Ratio_over ?t_Ratio_over ?l_Ratio_over ?c_Ratio_over ?k_Ratio_over ?f_Ratio_neg ?t_Ratio_neg ?l_Ratio_neg ?c_Ratio_neg ?k_Ratio_neg ?f_Ratio_abs ?t_Ratio_abs ?l_Ratio_abs ?c_Ratio_abs ?k_Ratio_abs ?f_Ratio_add ?t_Ratio_add ?l_Ratio_add ?c_Ratio_add ?k_Ratio_add ?f_Ratio_radd ?t_Ratio_radd ?l_Ratio_radd ?c_Ratio_radd ?k_Ratio_radd ?f_Ratio_sub ?t_Ratio_sub ?l_Ratio_sub ?c_Ratio_sub ?k_Ratio_sub ?f_Ratio_rsub ?t_Ratio_rsub ?l_Ratio_rsub ?c_Ratio_rsub ?k_Ratio_rsub ?f_Ratio_mul ?t_Ratio_mul ?l_Ratio_mul ?c_Ratio_mul ?k_Ratio_mul ?f_Ratio_rmul ?t_Ratio_rmul ?l_Ratio_rmul ?c_Ratio_rmul ?k_Ratio_rmul ?f_Ratio_eq ?t_Ratio_eq ?l_Ratio_eq ?c_Ratio_eq ?k_Ratio_eq ?f_Ratio_ne ?t_Ratio_ne ?l_Ratio_ne ?c_Ratio_ne ?k_Ratio_ne ?f_Ratio_lt ?t_Ratio_lt ?l_Ratio_lt ?c_Ratio_lt ?k_Ratio_lt ?f_Ratio_le ?t_Ratio_le ?l_Ratio_le ?c_Ratio_le ?k_Ratio_le ?f_Ratio_gt ?t_Ratio_gt ?l_Ratio_gt ?c_Ratio_gt ?k_Ratio_gt ?f_Ratio_ge ?t_Ratio_ge ?l_Ratio_ge ?c_Ratio_ge ?k_Ratio_ge ?f_Pool_init ?t_Pool_init ?l_Pool_init ?c_Pool_init ?k_Pool_init ?f_Pool_middle ?pg_Pool_middle ?pt_Pool_middle ?pr_Pool_middle ?l_Pool_middle ?c_Pool_middle ?k_Pool_middle ?f_Pool_volume ?pg_Pool_volume ?pt_Pool_volume ?pr_Pool_volume ?l_Pool_volume ?c_Pool_volume ?k_Pool_volume ?f_Pool_left ?pg_Pool_left ?pt_Pool_left ?pr_Pool_left ?l_Pool_left ?c_Pool_left ?k_Pool_left ?f_Pool_right ?pg_Pool_right ?pt_Pool_right ?pr_Pool_right ?l_Pool_right ?c_Pool_right ?k_Pool_right ?f_Pool_gap_to ?t_Pool_gap_to ?l_Pool_gap_to ?c_Pool_gap_to ?k_Pool_gap_to ?f_Pool_touches ?t_Pool_touches ?l_Pool_touches ?c_Pool_touches ?k_Pool_touches ?f_Pool_contains ?t_Pool_contains ?l_Pool_contains ?c_Pool_contains ?k_Pool_contains ?f_Pool_eq ?t_Pool_eq ?l_Pool_eq ?c_Pool_eq ?k_Pool_eq ?f_Pool_add ?t_Pool_add ?l_Pool_add ?c_Pool_add ?k_Pool_add ?g_insert_pool ?l_insert_pool ?c_insert_pool ?k_insert_pool ?g_add_pool ?l_add_pool ?c_add_pool ?k_add_pool ?g_run_together ?l_run_together ?c_run_together ?k_run_together ?g_total_volume ?l_total_volume ?c_total_volume ?k_total_volume ?f_Water_init ?t_Water_init ?l_Water_init ?c_Water_init ?k_Water_init ?dt_Water_init ?dz_Water_init ?f_Water_settled ?pr_Water_settled ?pf_Water_settled ?l_Water_settled ?c_Water_settled ?k_Water_settled ?f_Water_volume ?pg_Water_volume ?pt_Water_volume ?pr_Water_volume ?l_Water_volume ?c_Water_volume ?k_Water_volume ?f_Water_pools ?t_Water_pools ?l_Water_pools ?c_Water_pools ?k_Water_pools ?f_Water_is_within ?t_Water_is_within ?l_Water_is_within ?c_Water_is_within ?k_Water_is_within ?f_Water_len ?t_Water_len ?l_Water_len ?c_Water_len ?k_Water_len ?f_Water_getitem ?t_Water_getitem ?fi_Water_getitem ?l_Water_getitem ?c_Water_getitem ?k_Water_getitem ?f_Water_contains ?t_Water_contains ?l_Water_contains ?c_Water_contains ?k_Water_contains ?f_Water_add ?t_Water_add ?l_Water_add ?c_Water_add ?k_Water_add ?f_Water_eq ?t_Water_eq ?l_Water_eq ?c_Water_eq ?k_Water_eq ?f_Water_ne ?t_Water_ne ?l_Water_ne ?c_Water_ne ?k_Water_ne ?f_Water_le ?t_Water_le ?l_Water_le ?c_Water_le ?k_Water_le ?g_w_box ?l_w_box ?c_w_box ?k_w_box ?g_w_take ?l_w_take ?c_w_take ?k_w_take ?g_w_scene ?l_w_scene ?c_w_scene ?k_w_scene ?g_w_number ?l_w_number ?c_w_number ?k_w_number ?g_w_pool ?l_w_pool ?c_w_pool ?k_w_pool ?g_w_mixed ?l_w_mixed ?c_w_mixed ?k_w_mixed ?g_w_added ?l_w_added ?c_w_added ?k_w_added ?g_law ?l_law ?c_law ?k_law ?io_add ?ior_add ?nio_add ?io_mul ?ior_mul ?nio_mul ?io_sub ?ior_sub ?nio_sub ?nii_Ratio_add ?nii_Ratio_sub ?nii_Ratio_mul ?nq_Pool ?nii_Pool_add ?nr_Pool_add ?nii_Water_add ?nr_Water_add ?n_IndexError ?n_NotImplemented ?n_TypeError ?n_abs ?n_all ?n_any ?n_bool ?n_classmethod ?n_enumerate ?n_int ?n_isinstance ?n_len ?n_list ?n_max ?n_min ?n_property ?n_range ?n_str ?n_sum ?n_tuple ?c_DIGITS ?c_MOST_DIGITS)
    (case g_PoolError => first | k_is | (show some _ = some _; k_is))
    (case x_PoolError => first | k_is | (show some _ = some _; k_is))
    (case sa_PoolError => first | k_is | (show some _ = some _; k_is))
    (case ex_PoolError => first | k_is | (show some _ = some _; k_is))
    (case ty_PoolError => first | k_is | (show some _ = some _; k_is))
    (case kp_PoolError => first | k_is | (show some _ = some _; k_is))
    (case ur_PoolError => first | k_is | (show some _ = some _; k_is))
    (case ug_PoolError => first | k_is | (show some _ = some _; k_is))
    (case uf_PoolError => first | k_is | (show some _ = some _; k_is))
    (case g_InvalidNumber => first | k_is | (show some _ = some _; k_is))
    (case x_InvalidNumber => first | k_is | (show some _ = some _; k_is))
    (case sa_InvalidNumber => first | k_is | (show some _ = some _; k_is))
    (case ex_InvalidNumber => first | k_is | (show some _ = some _; k_is))
    (case ty_InvalidNumber => first | k_is | (show some _ = some _; k_is))
    (case kp_InvalidNumber => first | k_is | (show some _ = some _; k_is))
    (case xg_InvalidNumber => first | k_is | (show some _ = some _; k_is))
    (case xn_InvalidNumber => first | k_is | (show some _ = some _; k_is))
    (case xh_InvalidNumber => first | k_is | (show some _ = some _; k_is))
    (case xi_InvalidNumber => first | k_is | (show some _ = some _; k_is))
    (case xs_InvalidNumber => first | k_is | (show some _ = some _; k_is))
    (case na_InvalidNumber_value => first | k_is | (show some _ = some _; k_is))
    (case g_Touching => first | k_is | (show some _ = some _; k_is))
    (case x_Touching => first | k_is | (show some _ = some _; k_is))
    (case sa_Touching => first | k_is | (show some _ = some _; k_is))
    (case ex_Touching => first | k_is | (show some _ = some _; k_is))
    (case ty_Touching => first | k_is | (show some _ = some _; k_is))
    (case kp_Touching => first | k_is | (show some _ = some _; k_is))
    (case xg_Touching => first | k_is | (show some _ = some _; k_is))
    (case xn_Touching => first | k_is | (show some _ = some _; k_is))
    (case xh_Touching => first | k_is | (show some _ = some _; k_is))
    (case xi_Touching => first | k_is | (show some _ = some _; k_is))
    (case xs_Touching => first | k_is | (show some _ = some _; k_is))
    (case na_Touching_index => first | k_is | (show some _ = some _; k_is))
    (case g_UnknownIndex => first | k_is | (show some _ = some _; k_is))
    (case g_Ratio => first | k_is | (show some _ = some _; k_is))
    (case pg_Ratio => first | k_is | (show some _ = some _; k_is))
    (case hd_Ratio => first | k_is | (show some _ = some _; k_is))
    (case po_Ratio => first | k_is | (show some _ = some _; k_is))
    (case sa_Ratio => first | k_is | (show some _ = some _; k_is))
    (case ca_Ratio => first | k_is | (show some _ = some _; k_is))
    (case cg_Ratio => first | k_is | (show some _ = some _; k_is))
    (case ct_Ratio => first | k_is | (show some _ = some _; k_is))
    (case lk_Ratio => first | k_is | (show some _ = some _; k_is))
    (case mr_Ratio => rfl)
    (case ty_Ratio => first | k_is | (show some _ = some _; k_is))
    (case rd_Ratio => first | k_is | (show some _ = some _; k_is))
    (case gg_Ratio => first | k_is | (show some _ = some _; k_is))
    (case na_Ratio_top => first | k_is | (show some _ = some _; k_is))
    (case na_Ratio_bottom => first | k_is | (show some _ = some _; k_is))
    (case mi_Ratio => first | k_is | (show some _ = some _; k_is))
    (case kc_Ratio => first | k_is | (show some _ = some _; k_is))
    (case g_Pool => first | k_is | (show some _ = some _; k_is))
    (case pg_Pool => first | k_is | (show some _ = some _; k_is))
    (case hd_Pool => first | k_is | (show some _ = some _; k_is))
    (case po_Pool => first | k_is | (show some _ = some _; k_is))
    (case sa_Pool => first | k_is | (show some _ = some _; k_is))
    (case ca_Pool => first | k_is | (show some _ = some _; k_is))
    (case cg_Pool => first | k_is | (show some _ = some _; k_is))
    (case ct_Pool => first | k_is | (show some _ = some _; k_is))
    (case lk_Pool => first | k_is | (show some _ = some _; k_is))
    (case mr_Pool => rfl)
    (case ty_Pool => first | k_is | (show some _ = some _; k_is))
    (case rd_Pool => first | k_is | (show some _ = some _; k_is))
    (case gg_Pool => first | k_is | (show some _ = some _; k_is))
    (case na_Pool_center => first | k_is | (show some _ = some _; k_is))
    (case na_Pool_amount => first | k_is | (show some _ = some _; k_is))
    (case mi_Pool => first | k_is | (show some _ = some _; k_is))
    (case kc_Pool => first | k_is | (show some _ = some _; k_is))
    (case g_Water => first | k_is | (show some _ = some _; k_is))
    (case pg_Water => first | k_is | (show some _ = some _; k_is))
    (case hd_Water => first | k_is | (show some _ = some _; k_is))
    (case po_Water => first | k_is | (show some _ = some _; k_is))
    (case sa_Water => first | k_is | (show some _ = some _; k_is))
    (case ca_Water => first | k_is | (show some _ = some _; k_is))
    (case cg_Water => first | k_is | (show some _ = some _; k_is))
    (case ct_Water => first | k_is | (show some _ = some _; k_is))
    (case lk_Water => first | k_is | (show some _ = some _; k_is))
    (case mr_Water => rfl)
    (case ty_Water => first | k_is | (show some _ = some _; k_is))
    (case rd_Water => first | k_is | (show some _ = some _; k_is))
    (case gg_Water => first | k_is | (show some _ = some _; k_is))
    (case na_Water_rows => first | k_is | (show some _ = some _; k_is))
    (case mi_Water => first | k_is | (show some _ = some _; k_is))
    (case kc_Water => first | k_is | (show some _ = some _; k_is))
    (case i_InvalidNumber_init => first | k_is | (show some _ = some _; k_is))
    (case t_InvalidNumber_init => first | k_is | (show some _ = some _; k_is))
    (case l_InvalidNumber_init => first | k_is | (show some _ = some _; k_is))
    (case c_InvalidNumber_init => first | k_is | (show some _ = some _; k_is))
    (case k_InvalidNumber_init => first | k_is | (show some _ = some _; k_is))
    (case i_Touching_init => first | k_is | (show some _ = some _; k_is))
    (case t_Touching_init => first | k_is | (show some _ = some _; k_is))
    (case l_Touching_init => first | k_is | (show some _ = some _; k_is))
    (case c_Touching_init => first | k_is | (show some _ = some _; k_is))
    (case k_Touching_init => first | k_is | (show some _ = some _; k_is))
    (case g_is_integer => first | k_is | (show some _ = some _; k_is))
    (case l_is_integer => first | k_is | (show some _ = some _; k_is))
    (case c_is_integer => first | k_is | (show some _ = some _; k_is))
    (case k_is_integer => first | k_is | (show some _ = some _; k_is))
    (case g_is_number => first | k_is | (show some _ = some _; k_is))
    (case l_is_number => first | k_is | (show some _ = some _; k_is))
    (case c_is_number => first | k_is | (show some _ = some _; k_is))
    (case k_is_number => first | k_is | (show some _ = some _; k_is))
    (case g_as_ratio => first | k_is | (show some _ = some _; k_is))
    (case l_as_ratio => first | k_is | (show some _ = some _; k_is))
    (case c_as_ratio => first | k_is | (show some _ = some _; k_is))
    (case k_as_ratio => first | k_is | (show some _ = some _; k_is))
    (case g_common_divisor => first | k_is | (show some _ = some _; k_is))
    (case l_common_divisor => first | k_is | (show some _ = some _; k_is))
    (case c_common_divisor => first | k_is | (show some _ = some _; k_is))
    (case k_common_divisor => first | k_is | (show some _ = some _; k_is))
    (case f_Ratio_init => first | k_is | (show some _ = some _; k_is))
    (case t_Ratio_init => first | k_is | (show some _ = some _; k_is))
    (case l_Ratio_init => first | k_is | (show some _ = some _; k_is))
    (case c_Ratio_init => first | k_is | (show some _ = some _; k_is))
    (case k_Ratio_init => first | k_is | (show some _ = some _; k_is))
    (case dt_Ratio_init => first | k_is | (show some _ = some _; k_is))
    (case f_Ratio_over => first | k_is | (show some _ = some _; k_is))
    (case t_Ratio_over => first | k_is | (show some _ = some _; k_is))
    (case l_Ratio_over => first | k_is | (show some _ = some _; k_is))
    (case c_Ratio_over => first | k_is | (show some _ = some _; k_is))
    (case k_Ratio_over => first | k_is | (show some _ = some _; k_is))
    (case f_Ratio_neg => first | k_is | (show some _ = some _; k_is))
    (case t_Ratio_neg => first | k_is | (show some _ = some _; k_is))
    (case l_Ratio_neg => first | k_is | (show some _ = some _; k_is))
    (case c_Ratio_neg => first | k_is | (show some _ = some _; k_is))
    (case k_Ratio_neg => first | k_is | (show some _ = some _; k_is))
    (case f_Ratio_abs => first | k_is | (show some _ = some _; k_is))
    (case t_Ratio_abs => first | k_is | (show some _ = some _; k_is))
    (case l_Ratio_abs => first | k_is | (show some _ = some _; k_is))
    (case c_Ratio_abs => first | k_is | (show some _ = some _; k_is))
    (case k_Ratio_abs => first | k_is | (show some _ = some _; k_is))
    (case f_Ratio_add => first | k_is | (show some _ = some _; k_is))
    (case t_Ratio_add => first | k_is | (show some _ = some _; k_is))
    (case l_Ratio_add => first | k_is | (show some _ = some _; k_is))
    (case c_Ratio_add => first | k_is | (show some _ = some _; k_is))
    (case k_Ratio_add => first | k_is | (show some _ = some _; k_is))
    (case f_Ratio_radd => first | k_is | (show some _ = some _; k_is))
    (case t_Ratio_radd => first | k_is | (show some _ = some _; k_is))
    (case l_Ratio_radd => first | k_is | (show some _ = some _; k_is))
    (case c_Ratio_radd => first | k_is | (show some _ = some _; k_is))
    (case k_Ratio_radd => first | k_is | (show some _ = some _; k_is))
    (case f_Ratio_sub => first | k_is | (show some _ = some _; k_is))
    (case t_Ratio_sub => first | k_is | (show some _ = some _; k_is))
    (case l_Ratio_sub => first | k_is | (show some _ = some _; k_is))
    (case c_Ratio_sub => first | k_is | (show some _ = some _; k_is))
    (case k_Ratio_sub => first | k_is | (show some _ = some _; k_is))
    (case f_Ratio_rsub => first | k_is | (show some _ = some _; k_is))
    (case t_Ratio_rsub => first | k_is | (show some _ = some _; k_is))
    (case l_Ratio_rsub => first | k_is | (show some _ = some _; k_is))
    (case c_Ratio_rsub => first | k_is | (show some _ = some _; k_is))
    (case k_Ratio_rsub => first | k_is | (show some _ = some _; k_is))
    (case f_Ratio_mul => first | k_is | (show some _ = some _; k_is))
    (case t_Ratio_mul => first | k_is | (show some _ = some _; k_is))
    (case l_Ratio_mul => first | k_is | (show some _ = some _; k_is))
    (case c_Ratio_mul => first | k_is | (show some _ = some _; k_is))
    (case k_Ratio_mul => first | k_is | (show some _ = some _; k_is))
    (case f_Ratio_rmul => first | k_is | (show some _ = some _; k_is))
    (case t_Ratio_rmul => first | k_is | (show some _ = some _; k_is))
    (case l_Ratio_rmul => first | k_is | (show some _ = some _; k_is))
    (case c_Ratio_rmul => first | k_is | (show some _ = some _; k_is))
    (case k_Ratio_rmul => first | k_is | (show some _ = some _; k_is))
    (case f_Ratio_eq => first | k_is | (show some _ = some _; k_is))
    (case t_Ratio_eq => first | k_is | (show some _ = some _; k_is))
    (case l_Ratio_eq => first | k_is | (show some _ = some _; k_is))
    (case c_Ratio_eq => first | k_is | (show some _ = some _; k_is))
    (case k_Ratio_eq => first | k_is | (show some _ = some _; k_is))
    (case f_Ratio_ne => first | k_is | (show some _ = some _; k_is))
    (case t_Ratio_ne => first | k_is | (show some _ = some _; k_is))
    (case l_Ratio_ne => first | k_is | (show some _ = some _; k_is))
    (case c_Ratio_ne => first | k_is | (show some _ = some _; k_is))
    (case k_Ratio_ne => first | k_is | (show some _ = some _; k_is))
    (case f_Ratio_lt => first | k_is | (show some _ = some _; k_is))
    (case t_Ratio_lt => first | k_is | (show some _ = some _; k_is))
    (case l_Ratio_lt => first | k_is | (show some _ = some _; k_is))
    (case c_Ratio_lt => first | k_is | (show some _ = some _; k_is))
    (case k_Ratio_lt => first | k_is | (show some _ = some _; k_is))
    (case f_Ratio_le => first | k_is | (show some _ = some _; k_is))
    (case t_Ratio_le => first | k_is | (show some _ = some _; k_is))
    (case l_Ratio_le => first | k_is | (show some _ = some _; k_is))
    (case c_Ratio_le => first | k_is | (show some _ = some _; k_is))
    (case k_Ratio_le => first | k_is | (show some _ = some _; k_is))
    (case f_Ratio_gt => first | k_is | (show some _ = some _; k_is))
    (case t_Ratio_gt => first | k_is | (show some _ = some _; k_is))
    (case l_Ratio_gt => first | k_is | (show some _ = some _; k_is))
    (case c_Ratio_gt => first | k_is | (show some _ = some _; k_is))
    (case k_Ratio_gt => first | k_is | (show some _ = some _; k_is))
    (case f_Ratio_ge => first | k_is | (show some _ = some _; k_is))
    (case t_Ratio_ge => first | k_is | (show some _ = some _; k_is))
    (case l_Ratio_ge => first | k_is | (show some _ = some _; k_is))
    (case c_Ratio_ge => first | k_is | (show some _ = some _; k_is))
    (case k_Ratio_ge => first | k_is | (show some _ = some _; k_is))
    (case f_Pool_init => first | k_is | (show some _ = some _; k_is))
    (case t_Pool_init => first | k_is | (show some _ = some _; k_is))
    (case l_Pool_init => first | k_is | (show some _ = some _; k_is))
    (case c_Pool_init => first | k_is | (show some _ = some _; k_is))
    (case k_Pool_init => first | k_is | (show some _ = some _; k_is))
    (case f_Pool_middle => first | k_is | (show some _ = some _; k_is))
    (case pg_Pool_middle => first | k_is | (show some _ = some _; k_is))
    (case pt_Pool_middle => first | k_is | (show some _ = some _; k_is))
    (case pr_Pool_middle => first | k_is | (show some _ = some _; k_is))
    (case l_Pool_middle => first | k_is | (show some _ = some _; k_is))
    (case c_Pool_middle => first | k_is | (show some _ = some _; k_is))
    (case k_Pool_middle => first | k_is | (show some _ = some _; k_is))
    (case f_Pool_volume => first | k_is | (show some _ = some _; k_is))
    (case pg_Pool_volume => first | k_is | (show some _ = some _; k_is))
    (case pt_Pool_volume => first | k_is | (show some _ = some _; k_is))
    (case pr_Pool_volume => first | k_is | (show some _ = some _; k_is))
    (case l_Pool_volume => first | k_is | (show some _ = some _; k_is))
    (case c_Pool_volume => first | k_is | (show some _ = some _; k_is))
    (case k_Pool_volume => first | k_is | (show some _ = some _; k_is))
    (case f_Pool_left => first | k_is | (show some _ = some _; k_is))
    (case pg_Pool_left => first | k_is | (show some _ = some _; k_is))
    (case pt_Pool_left => first | k_is | (show some _ = some _; k_is))
    (case pr_Pool_left => first | k_is | (show some _ = some _; k_is))
    (case l_Pool_left => first | k_is | (show some _ = some _; k_is))
    (case c_Pool_left => first | k_is | (show some _ = some _; k_is))
    (case k_Pool_left => first | k_is | (show some _ = some _; k_is))
    (case f_Pool_right => first | k_is | (show some _ = some _; k_is))
    (case pg_Pool_right => first | k_is | (show some _ = some _; k_is))
    (case pt_Pool_right => first | k_is | (show some _ = some _; k_is))
    (case pr_Pool_right => first | k_is | (show some _ = some _; k_is))
    (case l_Pool_right => first | k_is | (show some _ = some _; k_is))
    (case c_Pool_right => first | k_is | (show some _ = some _; k_is))
    (case k_Pool_right => first | k_is | (show some _ = some _; k_is))
    (case f_Pool_gap_to => first | k_is | (show some _ = some _; k_is))
    (case t_Pool_gap_to => first | k_is | (show some _ = some _; k_is))
    (case l_Pool_gap_to => first | k_is | (show some _ = some _; k_is))
    (case c_Pool_gap_to => first | k_is | (show some _ = some _; k_is))
    (case k_Pool_gap_to => first | k_is | (show some _ = some _; k_is))
    (case f_Pool_touches => first | k_is | (show some _ = some _; k_is))
    (case t_Pool_touches => first | k_is | (show some _ = some _; k_is))
    (case l_Pool_touches => first | k_is | (show some _ = some _; k_is))
    (case c_Pool_touches => first | k_is | (show some _ = some _; k_is))
    (case k_Pool_touches => first | k_is | (show some _ = some _; k_is))
    (case f_Pool_contains => first | k_is | (show some _ = some _; k_is))
    (case t_Pool_contains => first | k_is | (show some _ = some _; k_is))
    (case l_Pool_contains => first | k_is | (show some _ = some _; k_is))
    (case c_Pool_contains => first | k_is | (show some _ = some _; k_is))
    (case k_Pool_contains => first | k_is | (show some _ = some _; k_is))
    (case f_Pool_eq => first | k_is | (show some _ = some _; k_is))
    (case t_Pool_eq => first | k_is | (show some _ = some _; k_is))
    (case l_Pool_eq => first | k_is | (show some _ = some _; k_is))
    (case c_Pool_eq => first | k_is | (show some _ = some _; k_is))
    (case k_Pool_eq => first | k_is | (show some _ = some _; k_is))
    (case f_Pool_add => first | k_is | (show some _ = some _; k_is))
    (case t_Pool_add => first | k_is | (show some _ = some _; k_is))
    (case l_Pool_add => first | k_is | (show some _ = some _; k_is))
    (case c_Pool_add => first | k_is | (show some _ = some _; k_is))
    (case k_Pool_add => first | k_is | (show some _ = some _; k_is))
    (case g_insert_pool => first | k_is | (show some _ = some _; k_is))
    (case l_insert_pool => first | k_is | (show some _ = some _; k_is))
    (case c_insert_pool => first | k_is | (show some _ = some _; k_is))
    (case k_insert_pool => first | k_is | (show some _ = some _; k_is))
    (case g_add_pool => first | k_is | (show some _ = some _; k_is))
    (case l_add_pool => first | k_is | (show some _ = some _; k_is))
    (case c_add_pool => first | k_is | (show some _ = some _; k_is))
    (case k_add_pool => first | k_is | (show some _ = some _; k_is))
    (case g_run_together => first | k_is | (show some _ = some _; k_is))
    (case l_run_together => first | k_is | (show some _ = some _; k_is))
    (case c_run_together => first | k_is | (show some _ = some _; k_is))
    (case k_run_together => first | k_is | (show some _ = some _; k_is))
    (case g_total_volume => first | k_is | (show some _ = some _; k_is))
    (case l_total_volume => first | k_is | (show some _ = some _; k_is))
    (case c_total_volume => first | k_is | (show some _ = some _; k_is))
    (case k_total_volume => first | k_is | (show some _ = some _; k_is))
    (case f_Water_init => first | k_is | (show some _ = some _; k_is))
    (case t_Water_init => first | k_is | (show some _ = some _; k_is))
    (case l_Water_init => first | k_is | (show some _ = some _; k_is))
    (case c_Water_init => first | k_is | (show some _ = some _; k_is))
    (case k_Water_init => first | k_is | (show some _ = some _; k_is))
    (case dt_Water_init => first | k_is | (show some _ = some _; k_is))
    (case dz_Water_init => first | k_is | (show some _ = some _; k_is))
    (case f_Water_settled => first | k_is | (show some _ = some _; k_is))
    (case pr_Water_settled => first | k_is | (show some _ = some _; k_is))
    (case pf_Water_settled => first | k_is | (show some _ = some _; k_is))
    (case l_Water_settled => first | k_is | (show some _ = some _; k_is))
    (case c_Water_settled => first | k_is | (show some _ = some _; k_is))
    (case k_Water_settled => first | k_is | (show some _ = some _; k_is))
    (case f_Water_volume => first | k_is | (show some _ = some _; k_is))
    (case pg_Water_volume => first | k_is | (show some _ = some _; k_is))
    (case pt_Water_volume => first | k_is | (show some _ = some _; k_is))
    (case pr_Water_volume => first | k_is | (show some _ = some _; k_is))
    (case l_Water_volume => first | k_is | (show some _ = some _; k_is))
    (case c_Water_volume => first | k_is | (show some _ = some _; k_is))
    (case k_Water_volume => first | k_is | (show some _ = some _; k_is))
    (case f_Water_pools => first | k_is | (show some _ = some _; k_is))
    (case t_Water_pools => first | k_is | (show some _ = some _; k_is))
    (case l_Water_pools => first | k_is | (show some _ = some _; k_is))
    (case c_Water_pools => first | k_is | (show some _ = some _; k_is))
    (case k_Water_pools => first | k_is | (show some _ = some _; k_is))
    (case f_Water_is_within => first | k_is | (show some _ = some _; k_is))
    (case t_Water_is_within => first | k_is | (show some _ = some _; k_is))
    (case l_Water_is_within => first | k_is | (show some _ = some _; k_is))
    (case c_Water_is_within => first | k_is | (show some _ = some _; k_is))
    (case k_Water_is_within => first | k_is | (show some _ = some _; k_is))
    (case f_Water_len => first | k_is | (show some _ = some _; k_is))
    (case t_Water_len => first | k_is | (show some _ = some _; k_is))
    (case l_Water_len => first | k_is | (show some _ = some _; k_is))
    (case c_Water_len => first | k_is | (show some _ = some _; k_is))
    (case k_Water_len => first | k_is | (show some _ = some _; k_is))
    (case f_Water_getitem => first | k_is | (show some _ = some _; k_is))
    (case t_Water_getitem => first | k_is | (show some _ = some _; k_is))
    (case fi_Water_getitem => first | k_is | (show some _ = some _; k_is))
    (case l_Water_getitem => first | k_is | (show some _ = some _; k_is))
    (case c_Water_getitem => first | k_is | (show some _ = some _; k_is))
    (case k_Water_getitem => first | k_is | (show some _ = some _; k_is))
    (case f_Water_contains => first | k_is | (show some _ = some _; k_is))
    (case t_Water_contains => first | k_is | (show some _ = some _; k_is))
    (case l_Water_contains => first | k_is | (show some _ = some _; k_is))
    (case c_Water_contains => first | k_is | (show some _ = some _; k_is))
    (case k_Water_contains => first | k_is | (show some _ = some _; k_is))
    (case f_Water_add => first | k_is | (show some _ = some _; k_is))
    (case t_Water_add => first | k_is | (show some _ = some _; k_is))
    (case l_Water_add => first | k_is | (show some _ = some _; k_is))
    (case c_Water_add => first | k_is | (show some _ = some _; k_is))
    (case k_Water_add => first | k_is | (show some _ = some _; k_is))
    (case f_Water_eq => first | k_is | (show some _ = some _; k_is))
    (case t_Water_eq => first | k_is | (show some _ = some _; k_is))
    (case l_Water_eq => first | k_is | (show some _ = some _; k_is))
    (case c_Water_eq => first | k_is | (show some _ = some _; k_is))
    (case k_Water_eq => first | k_is | (show some _ = some _; k_is))
    (case f_Water_ne => first | k_is | (show some _ = some _; k_is))
    (case t_Water_ne => first | k_is | (show some _ = some _; k_is))
    (case l_Water_ne => first | k_is | (show some _ = some _; k_is))
    (case c_Water_ne => first | k_is | (show some _ = some _; k_is))
    (case k_Water_ne => first | k_is | (show some _ = some _; k_is))
    (case f_Water_le => first | k_is | (show some _ = some _; k_is))
    (case t_Water_le => first | k_is | (show some _ = some _; k_is))
    (case l_Water_le => first | k_is | (show some _ = some _; k_is))
    (case c_Water_le => first | k_is | (show some _ = some _; k_is))
    (case k_Water_le => first | k_is | (show some _ = some _; k_is))
    (case g_w_box => first | k_is | (show some _ = some _; k_is))
    (case l_w_box => first | k_is | (show some _ = some _; k_is))
    (case c_w_box => first | k_is | (show some _ = some _; k_is))
    (case k_w_box => first | k_is | (show some _ = some _; k_is))
    (case g_w_take => first | k_is | (show some _ = some _; k_is))
    (case l_w_take => first | k_is | (show some _ = some _; k_is))
    (case c_w_take => first | k_is | (show some _ = some _; k_is))
    (case k_w_take => first | k_is | (show some _ = some _; k_is))
    (case g_w_scene => first | k_is | (show some _ = some _; k_is))
    (case l_w_scene => first | k_is | (show some _ = some _; k_is))
    (case c_w_scene => first | k_is | (show some _ = some _; k_is))
    (case k_w_scene => first | k_is | (show some _ = some _; k_is))
    (case g_w_number => first | k_is | (show some _ = some _; k_is))
    (case l_w_number => first | k_is | (show some _ = some _; k_is))
    (case c_w_number => first | k_is | (show some _ = some _; k_is))
    (case k_w_number => first | k_is | (show some _ = some _; k_is))
    (case g_w_pool => first | k_is | (show some _ = some _; k_is))
    (case l_w_pool => first | k_is | (show some _ = some _; k_is))
    (case c_w_pool => first | k_is | (show some _ = some _; k_is))
    (case k_w_pool => first | k_is | (show some _ = some _; k_is))
    (case g_w_mixed => first | k_is | (show some _ = some _; k_is))
    (case l_w_mixed => first | k_is | (show some _ = some _; k_is))
    (case c_w_mixed => first | k_is | (show some _ = some _; k_is))
    (case k_w_mixed => first | k_is | (show some _ = some _; k_is))
    (case g_w_added => first | k_is | (show some _ = some _; k_is))
    (case l_w_added => first | k_is | (show some _ = some _; k_is))
    (case c_w_added => first | k_is | (show some _ = some _; k_is))
    (case k_w_added => first | k_is | (show some _ = some _; k_is))
    (case g_law => first | k_is | (show some _ = some _; k_is))
    (case l_law => first | k_is | (show some _ = some _; k_is))
    (case c_law => first | k_is | (show some _ = some _; k_is))
    (case k_law => first | k_is | (show some _ = some _; k_is))
    (case io_add => first | k_is | (show some _ = some _; k_is))
    (case ior_add => first | k_is | (show some _ = some _; k_is))
    (case nio_add => first | k_is | (show some _ = some _; k_is))
    (case io_mul => first | k_is | (show some _ = some _; k_is))
    (case ior_mul => first | k_is | (show some _ = some _; k_is))
    (case nio_mul => first | k_is | (show some _ = some _; k_is))
    (case io_sub => first | k_is | (show some _ = some _; k_is))
    (case ior_sub => first | k_is | (show some _ = some _; k_is))
    (case nio_sub => first | k_is | (show some _ = some _; k_is))
    (case nii_Ratio_add => first | k_is | (show some _ = some _; k_is))
    (case nii_Ratio_sub => first | k_is | (show some _ = some _; k_is))
    (case nii_Ratio_mul => first | k_is | (show some _ = some _; k_is))
    (case nq_Pool => first | k_is | (show some _ = some _; k_is))
    (case nii_Pool_add => first | k_is | (show some _ = some _; k_is))
    (case nr_Pool_add => first | k_is | (show some _ = some _; k_is))
    (case nii_Water_add => first | k_is | (show some _ = some _; k_is))
    (case nr_Water_add => first | k_is | (show some _ = some _; k_is))
    (case n_IndexError => first | k_is | (show some _ = some _; k_is))
    (case n_NotImplemented => first | k_is | (show some _ = some _; k_is))
    (case n_TypeError => first | k_is | (show some _ = some _; k_is))
    (case n_abs => first | k_is | (show some _ = some _; k_is))
    (case n_all => first | k_is | (show some _ = some _; k_is))
    (case n_any => first | k_is | (show some _ = some _; k_is))
    (case n_bool => first | k_is | (show some _ = some _; k_is))
    (case n_classmethod => first | k_is | (show some _ = some _; k_is))
    (case n_enumerate => first | k_is | (show some _ = some _; k_is))
    (case n_int => first | k_is | (show some _ = some _; k_is))
    (case n_isinstance => first | k_is | (show some _ = some _; k_is))
    (case n_len => first | k_is | (show some _ = some _; k_is))
    (case n_list => first | k_is | (show some _ = some _; k_is))
    (case n_max => first | k_is | (show some _ = some _; k_is))
    (case n_min => first | k_is | (show some _ = some _; k_is))
    (case n_property => first | k_is | (show some _ = some _; k_is))
    (case n_range => first | k_is | (show some _ = some _; k_is))
    (case n_str => first | k_is | (show some _ = some _; k_is))
    (case n_sum => first | k_is | (show some _ = some _; k_is))
    (case n_tuple => first | k_is | (show some _ = some _; k_is))
    (case c_DIGITS => first | k_is | (show some _ = some _; k_is))
    (case c_MOST_DIGITS => first | k_is | (show some _ = some _; k_is))
#print axioms PySem.Challenge.cw_poolsmeet_k14_whole_any_order_of_running_holds
