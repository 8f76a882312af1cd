import PyProof.Rows.All
import Wide.All
import OpenK.AllK
import Wide.FinOn
import PyProof.EqAt
import PyProof.EqKinds
import PyProof.TupleCall
import HandS.ForMost
import HandS.ForExc
import HandS.ExcInit
import HandS.Wide
import HandS.Flow
import HandS.EndBits
import HandS.ClsMeth
import HandS.Property
import HandS.Defaults
import HandS.IsInst
import HandS.Zip
import HandS.More
import HandS.ExcField
import HandS.SlotsOwn
import KE.KOpsOwn
import HandS.FStr
import HandS.Style
import KE.KCallOwn
import KE.KFmtOwn
import PyProof.StrBlock2
import PyProof.InstNe
import PyProof.StrHeap
import HandS.ExcIs
import KE.GoesMore
import KE.GoesEnum
import PySem.Challenge.RW_poolsmeet_k08_waters_made
set_option Elab.async false
set_option linter.all false
set_option maxRecDepth 100000
/-! An abstract machine over the layer: data as trees, a store of things that change. -/
namespace PM
open PySem L2

/-- a datum: an immutable tree; loc n: the n-th thing of the store -/
inductive D where
  | non | bl (b : Bool) | int (i : Int) | str (x : Str) | ref (a : Addr) | ty (n : String) | loc (n : Nat)
  | tup (ds : List D) | lst (ds : List D) | scr (ds : List D) | exn (a dd : Addr) (ns : List Str) (ds : List D) | obj (C : Addr) (ns : List Str) (ds : List D)
/-- a thing of the store -/
inductive M where
  | lst (ds : List D) | ins (C : Addr) (ns : List Str) (ds : List D) | gone | box

section
variable (K : PySem.W.Frag) (L : List Addr) (G : Hp)
mutual
def Rep : D → V → Prop
  | .non, v => v = .non
  | .bl b, v => v = .bl b
  | .int i, v => v = .int i
  | .str x, v => v = .str x
  | .ref a, v => v = .ref a
  | .ty n, v => v = .ty n
  | .loc n, v => ∃ a, L[n]? = some a ∧ v = .ref a
  | .tup ds, v => ∃ a vs, v = .ref a ∧ SqT K G a vs ∧ Reps ds vs
  | .lst ds, v => ∃ a vs, v = .ref a ∧ G a = some (.lst vs) ∧ Reps ds vs
  | .scr ds, v => ∃ a vs, v = .ref a ∧ SqL K G a vs ∧ Reps ds vs
  | .exn a dd ns ds, v => ∃ vs, v = .ref a ∧ G dd = some (.xd (ns.zip vs)) ∧ ns.length = ds.length ∧ Reps ds vs
  | .obj C ns ds, v => ∃ a dx vs, v = .ref a ∧ G a = some (.ins C dx (ns.zip vs)) ∧ ns.length = ds.length ∧ Reps ds vs
def Reps : List D → List V → Prop
  | [], vs => vs = []
  | d :: ds, vs => ∃ v r, vs = v :: r ∧ Rep d v ∧ Reps ds r
end
end

theorem Same.rd {H H' : Hp} {a : Addr} {u : HO} (e : Same H H') (h : Rd H a u) : Rd H' a u := by
  rcases h with h | ⟨o, h⟩
  · exact .inl (e _ _ h)
  · exact .inr ⟨o, e _ _ h⟩
theorem Same.sqT {K : PySem.W.Frag} {H H' : Hp} {a : Addr} {xs : List V} (e : Same H H') (h : SqT K H a xs) : SqT K H' a xs := by
  rcases h with h | h
  · exact .inl (Same.rd e h)
  · exact .inr h
theorem Same.sqL {K : PySem.W.Frag} {H H' : Hp} {a : Addr} {xs : List V} (e : Same H H') (h : SqL K H a xs) : SqL K H' a xs := by
  rcases h with h | h
  · exact .inl (Same.rd e h)
  · exact .inr h
/-- the places of the store stay -/
def Pre (L L' : List Addr) : Prop := ∀ (n : Nat) a, L[n]? = some a → L'[n]? = some a
theorem Pre.refl (L : List Addr) : Pre L L := fun _ _ h => h
theorem Pre.trans {L L1 L2 : List Addr} (a : Pre L L1) (b : Pre L1 L2) : Pre L L2 := fun n x h => b n x (a n x h)
theorem Pre.app {L r : List Addr} : Pre L (L ++ r) := fun n a h => by
  rw [List.getElem?_append_left (List.getElem?_eq_some_iff.mp h).1]
  exact h

section
variable {K : PySem.W.Frag} {L L' : List Addr} {G G' : Hp}
mutual
theorem Rep.mono (hl : Pre L L') (hg : Same G G') : ∀ {d : D} {v : V}, Rep K L G d v → Rep K L' G' d v
  | .non, _, h => by simp only [Rep] at h ⊢; exact h
  | .bl _, _, h => by simp only [Rep] at h ⊢; exact h
  | .int _, _, h => by simp only [Rep] at h ⊢; exact h
  | .str _, _, h => by simp only [Rep] at h ⊢; exact h
  | .ref _, _, h => by simp only [Rep] at h ⊢; exact h
  | .ty _, _, h => by simp only [Rep] at h ⊢; exact h
  | .loc n, _, h => by
    simp only [Rep] at h ⊢
    obtain ⟨a, e, r⟩ := h
    exact ⟨a, hl n a e, r⟩
  | .tup ds, _, h => by
    simp only [Rep] at h ⊢
    obtain ⟨a, vs, e, q, r⟩ := h
    exact ⟨a, vs, e, Same.sqT hg q, Reps.mono hl hg r⟩
  | .lst ds, _, h => by
    simp only [Rep] at h ⊢
    obtain ⟨a, vs, e, q, r⟩ := h
    exact ⟨a, vs, e, hg _ _ q, Reps.mono hl hg r⟩
  | .scr ds, _, h => by
    simp only [Rep] at h ⊢
    obtain ⟨a, vs, e, q, r⟩ := h
    exact ⟨a, vs, e, Same.sqL hg q, Reps.mono hl hg r⟩
  | .exn a dd ns ds, _, h => by
    simp only [Rep] at h ⊢
    obtain ⟨vs, e, q, z, r⟩ := h
    exact ⟨vs, e, hg _ _ q, z, Reps.mono hl hg r⟩
  | .obj C ns ds, _, h => by
    simp only [Rep] at h ⊢
    obtain ⟨a, dx, vs, e, q, z, r⟩ := h
    exact ⟨a, dx, vs, e, hg _ _ q, z, Reps.mono hl hg r⟩
theorem Reps.mono (hl : Pre L L') (hg : Same G G') : ∀ {ds : List D} {vs : List V}, Reps K L G ds vs → Reps K L' G' ds vs
  | [], _, h => by simp only [Reps] at h ⊢; exact h
  | d :: ds, _, h => by
    simp only [Reps] at h ⊢
    obtain ⟨v, r, e, h1, h2⟩ := h
    exact ⟨v, r, e, Rep.mono hl hg h1, Reps.mono hl hg h2⟩
end
theorem Reps.length : ∀ {ds : List D} {vs : List V}, Reps K L G ds vs → vs.length = ds.length
  | [], _, h => by simp only [Reps] at h; subst h; rfl
  | d :: ds, _, h => by
    simp only [Reps] at h
    obtain ⟨v, r, e, _, h2⟩ := h
    subst e
    simp [Reps.length h2]
theorem Reps.get : ∀ {ds : List D} {vs : List V} {i : Nat} {d : D}, Reps K L G ds vs → ds[i]? = some d → ∃ v, vs[i]? = some v ∧ Rep K L G d v
  | [], _, i, d, _, e => by simp at e
  | x :: ds, _, 0, d, h, e => by
    simp only [Reps] at h
    obtain ⟨v, r, rfl, h1, _⟩ := h
    simp only [List.getElem?_cons_zero, Option.some.injEq] at e
    subst e
    exact ⟨v, rfl, h1⟩
  | x :: ds, _, i + 1, d, h, e => by
    simp only [Reps] at h
    obtain ⟨v, r, rfl, _, h2⟩ := h
    simp only [List.getElem?_cons_succ] at e ⊢
    exact Reps.get h2 e
theorem Reps.nil : Reps K L G [] [] := by simp only [Reps]
theorem Reps.cons {d : D} {ds : List D} {v : V} {vs : List V} (h : Rep K L G d v) (r : Reps K L G ds vs) : Reps K L G (d :: ds) (v :: vs) := by
  simp only [Reps]
  exact ⟨v, vs, rfl, h, r⟩
theorem Reps.append : ∀ {ds es : List D} {vs us : List V}, Reps K L G ds vs → Reps K L G es us → Reps K L G (ds ++ es) (vs ++ us)
  | [], _, _, _, h, r => by simp only [Reps] at h; subst h; exact r
  | d :: ds, _, _, _, h, r => by
    simp only [Reps] at h
    obtain ⟨v, q, rfl, h1, h2⟩ := h
    exact Reps.cons h1 (Reps.append h2 r)
theorem Reps.inv_nil {vs : List V} (h : Reps K L G [] vs) : vs = [] := by simp only [Reps] at h; exact h
theorem Reps.inv_cons {d : D} {ds : List D} {vs : List V} (h : Reps K L G (d :: ds) vs) : ∃ v r, vs = v :: r ∧ Rep K L G d v ∧ Reps K L G ds r := by simp only [Reps] at h; exact h
theorem Reps.set {d : D} {v : V} (r : Rep K L G d v) : ∀ {ds : List D} {vs : List V} (i : Nat), Reps K L G ds vs → Reps K L G (ds.set i d) (vs.set i v)
  | [], _, _, h => by simp only [Reps] at h; subst h; simp [Reps.nil]
  | x :: ds, _, 0, h => by
    obtain ⟨u, q, rfl, h1, h2⟩ := h.inv_cons
    exact Reps.cons r h2
  | x :: ds, _, i + 1, h => by
    obtain ⟨u, q, rfl, h1, h2⟩ := h.inv_cons
    exact Reps.cons h1 (Reps.set r i h2)
end
theorem rep_non {K L G v} : Rep K L G .non v ↔ v = .non := by simp only [Rep]
theorem rep_bl {K L G b v} : Rep K L G (.bl b) v ↔ v = .bl b := by simp only [Rep]
theorem rep_int {K L G i v} : Rep K L G (.int i) v ↔ v = .int i := by simp only [Rep]
theorem rep_str {K L G i v} : Rep K L G (.str i) v ↔ v = .str i := by simp only [Rep]
theorem rep_ref {K L G i v} : Rep K L G (.ref i) v ↔ v = .ref i := by simp only [Rep]
theorem rep_ty {K L G i v} : Rep K L G (.ty i) v ↔ v = .ty i := by simp only [Rep]
theorem rep_loc {K L G n v} : Rep K L G (.loc n) v ↔ ∃ a, L[n]? = some a ∧ v = .ref a := by simp only [Rep]
theorem rep_tup {K L G ds v} : Rep K L G (.tup ds) v ↔ ∃ a vs, v = .ref a ∧ SqT K G a vs ∧ Reps K L G ds vs := by simp only [Rep]
theorem rep_lst {K L G ds v} : Rep K L G (.lst ds) v ↔ ∃ a vs, v = .ref a ∧ G a = some (.lst vs) ∧ Reps K L G ds vs := by simp only [Rep]
theorem rep_scr {K L G ds v} : Rep K L G (.scr ds) v ↔ ∃ a vs, v = .ref a ∧ SqL K G a vs ∧ Reps K L G ds vs := by simp only [Rep]
theorem rep_exn {K L G a dd ns ds v} : Rep K L G (.exn a dd ns ds) v ↔ ∃ vs, v = .ref a ∧ G dd = some (.xd (ns.zip vs)) ∧ ns.length = ds.length ∧ Reps K L G ds vs := by simp only [Rep]
theorem rep_obj {K L G C ns ds v} : Rep K L G (.obj C ns ds) v ↔ ∃ a dx vs, v = .ref a ∧ G a = some (.ins C dx (ns.zip vs)) ∧ ns.length = ds.length ∧ Reps K L G ds vs := by simp only [Rep]

/-! ### locs below a bound -/
mutual
def D.lo (n : Nat) : D → Bool
  | .loc m => decide (m < n)
  | .tup ds => D.los n ds
  | .lst ds => D.los n ds
  | .scr ds => D.los n ds
  | .exn _ _ _ ds => D.los n ds
  | .obj _ _ ds => D.los n ds
  | .non => true
  | .bl _ => true
  | .int _ => true
  | .str _ => true
  | .ref _ => true
  | .ty _ => true
def D.los (n : Nat) : List D → Bool
  | [] => true
  | d :: ds => D.lo n d && D.los n ds
end
section
variable {K : PySem.W.Frag} {L : List Addr} {G : Hp} {n : Nat}
mutual
theorem Rep.cut : ∀ {d : D} {v : V}, Rep K L G d v → D.lo n d = true → Rep K (L.take n) G d v
  | .non, _, h, _ => by simp only [Rep] at h ⊢; exact h
  | .bl _, _, h, _ => by simp only [Rep] at h ⊢; exact h
  | .int _, _, h, _ => by simp only [Rep] at h ⊢; exact h
  | .str _, _, h, _ => by simp only [Rep] at h ⊢; exact h
  | .ref _, _, h, _ => by simp only [Rep] at h ⊢; exact h
  | .ty _, _, h, _ => by simp only [Rep] at h ⊢; exact h
  | .loc m, _, h, b => by
    simp only [D.lo, decide_eq_true_eq] at b
    simp only [Rep] at h ⊢
    obtain ⟨a, e, r⟩ := h
    exact ⟨a, by rw [List.getElem?_take_of_lt b]; exact e, r⟩
  | .tup ds, _, h, b => by
    simp only [D.lo] at b
    simp only [Rep] at h ⊢
    obtain ⟨a, vs, e, q, r⟩ := h
    exact ⟨a, vs, e, q, Reps.cut r b⟩
  | .lst ds, _, h, b => by
    simp only [D.lo] at b
    simp only [Rep] at h ⊢
    obtain ⟨a, vs, e, q, r⟩ := h
    exact ⟨a, vs, e, q, Reps.cut r b⟩
  | .scr ds, _, h, b => by
    simp only [D.lo] at b
    simp only [Rep] at h ⊢
    obtain ⟨a, vs, e, q, r⟩ := h
    exact ⟨a, vs, e, q, Reps.cut r b⟩
  | .exn a dd ns ds, _, h, b => by
    simp only [D.lo] at b
    simp only [Rep] at h ⊢
    obtain ⟨vs, e, q, z, r⟩ := h
    exact ⟨vs, e, q, z, Reps.cut r b⟩
  | .obj C ns ds, _, h, b => by
    simp only [D.lo] at b
    simp only [Rep] at h ⊢
    obtain ⟨a, dx, vs, e, q, z, r⟩ := h
    exact ⟨a, dx, vs, e, q, z, Reps.cut r b⟩
theorem Reps.cut : ∀ {ds : List D} {vs : List V}, Reps K L G ds vs → D.los n ds = true → Reps K (L.take n) G ds vs
  | [], _, h, _ => by simp only [Reps] at h ⊢; exact h
  | d :: ds, _, h, b => by
    simp only [D.los, Bool.and_eq_true] at b
    simp only [Reps] at h ⊢
    obtain ⟨v, r, e, h1, h2⟩ := h
    exact ⟨v, r, e, Rep.cut h1 b.1, Reps.cut h2 b.2⟩
end
end
def M.lo (n : Nat) : M → Bool
  | .lst ds => D.los n ds
  | .ins _ _ ds => D.los n ds
  | .gone => true
  | .box => true

/-! ### the state -/
def MAt (K : PySem.W.Frag) (L : List Addr) (G H : Hp) (a : Addr) : M → Prop
  | .lst ds => ∃ vs, H a = some (.lst vs) ∧ Reps K L G ds vs
  | .ins C ns ds => ∃ dx vs, H a = some (.ins C dx (ns.zip vs)) ∧ ns.length = ds.length ∧ Reps K L G ds vs
  | .gone => True
  | .box => ∃ i j k : Int, H a = some (.lst [.int i, .int j, .int k])
structure Ok (K : PySem.W.Frag) (L : List Addr) (G H : Hp) (μ : List M) : Prop where
  sub : Same G H
  len : L.length = μ.length
  nd : L.Nodup
  off : ∀ a ∈ L, G a = none
  liv : ∀ a ∈ L, ∃ o, H a = some o
  at_ : ∀ (n : Nat) a m, L[n]? = some a → μ[n]? = some m → MAt K L G H a m
structure RepS (K : PySem.W.Frag) (L : List Addr) (G : Hp) (ρ : List (Option D)) (σ : St) : Prop where
  len : σ.length = ρ.length
  at_ : ∀ (i : Nat) d, ρ[i]? = some (some d) → ∃ v, σ[i]? = some (some v) ∧ Rep K L G d v
structure Step (L : List Addr) (G H : Hp) (L' : List Addr) (G' H' : Hp) : Prop where
  pre : Pre L L'
  gs : Same G G'
  hs : ∀ b o, H b = some o → b ∉ L → H' b = some o
  fr : ∀ a ∈ L', a ∈ L ∨ H a = none
  nn : ∀ b o, H b = some o → ∃ o', H' b = some o'
  gf : ∀ b o, G' b = some o → G b = some o ∨ H b = none
theorem Step.refl (L : List Addr) (G H : Hp) : Step L G H L G H := ⟨.refl _, .refl _, fun _ _ h _ => h, fun _ h => .inl h, fun _ o h => ⟨o, h⟩, fun _ _ h => .inl h⟩
theorem Step.nope {L L' : List Addr} {G H G' H' : Hp} (s : Step L G H L' G' H') {b : Addr} (h : H' b = Option.none) : H b = Option.none := by
  cases e : H b with
  | none => rfl
  | some o =>
    obtain ⟨o', q⟩ := s.nn b o e
    rw [h] at q
    cases q
theorem Step.trans {L L1 L2 : List Addr} {G H G1 H1 G2 H2 : Hp} (a : Step L G H L1 G1 H1) (b : Step L1 G1 H1 L2 G2 H2) : Step L G H L2 G2 H2 where
  pre := a.pre.trans b.pre
  gs := a.gs.trans b.gs
  hs := fun c o h n => b.hs c o (a.hs c o h n) fun z => (a.fr c z).elim n fun q => by rw [q] at h; cases h
  fr := fun c z => by
    rcases b.fr c z with q | q
    · exact a.fr c q
    · exact .inr (a.nope q)
  nn := fun c o h => by
    obtain ⟨o', q⟩ := a.nn c o h
    exact b.nn c o' q
  gf := fun c o h => by
    rcases b.gf c o h with q | q
    · exact a.gf c o q
    · exact .inr (a.nope q)
theorem MAt.mono {K : PySem.W.Frag} {L L' : List Addr} {G G' H : Hp} {a : Addr} {m : M} (hl : Pre L L') (hg : Same G G') (h : MAt K L G H a m) : MAt K L' G' H a m := by
  cases m with
  | lst ds => obtain ⟨vs, e, r⟩ := h; exact ⟨vs, e, r.mono hl hg⟩
  | ins C ns ds => obtain ⟨dx, vs, e, z, r⟩ := h; exact ⟨dx, vs, e, z, r.mono hl hg⟩
  | gone => trivial
  | box => exact h
theorem RepS.mono {K : PySem.W.Frag} {L L' : List Addr} {G G' : Hp} {ρ : List (Option D)} {σ : St} (hl : Pre L L') (hg : Same G G') (h : RepS K L G ρ σ) : RepS K L' G' ρ σ :=
  ⟨h.len, fun i d e => let ⟨v, e', r⟩ := h.at_ i d e; ⟨v, e', r.mono hl hg⟩⟩
theorem RepS.step {K : PySem.W.Frag} {L L' : List Addr} {G H G' H' : Hp} {ρ : List (Option D)} {σ : St} (h : RepS K L G ρ σ) (s : Step L G H L' G' H') : RepS K L' G' ρ σ := h.mono s.pre s.gs
theorem Rep.step {K : PySem.W.Frag} {L L' : List Addr} {G H G' H' : Hp} {d : D} {v : V} (h : Rep K L G d v) (s : Step L G H L' G' H') : Rep K L' G' d v := h.mono s.pre s.gs
theorem Reps.step {K : PySem.W.Frag} {L L' : List Addr} {G H G' H' : Hp} {d : List D} {v : List V} (h : Reps K L G d v) (s : Step L G H L' G' H') : Reps K L' G' d v := h.mono s.pre s.gs
theorem RepS.set {K : PySem.W.Frag} {L : List Addr} {G : Hp} {ρ : List (Option D)} {σ : St} {d : D} {v : V} (h : RepS K L G ρ σ) (r : Rep K L G d v) (i : Nat) : RepS K L G (ρ.set i (some d)) (σ.set i (some v)) := by
  refine ⟨by simpa using h.len, fun j e hj => ?_⟩
  by_cases hi : i = j
  · subst hi
    by_cases hl : i < ρ.length
    · rw [List.getElem?_set_self hl] at hj
      cases hj
      exact ⟨v, by rw [List.getElem?_set_self (by rw [h.len]; exact hl)], r⟩
    · rw [List.getElem?_eq_none (by simpa using hl)] at hj
      cases hj
  · rw [List.getElem?_set_ne hi] at hj ⊢
    exact h.at_ j e hj
theorem RepS.forget {K : PySem.W.Frag} {L : List Addr} {G : Hp} {ρ ρ' : List (Option D)} {σ : St} (h : RepS K L G ρ σ) (hl : ρ'.length = ρ.length) (hs : ∀ (i : Nat) d, ρ'[i]? = some (some d) → ρ[i]? = some (some d)) : RepS K L G ρ' σ :=
  ⟨h.len.trans hl.symm, fun i d e => h.at_ i d (hs i d e)⟩

theorem mem_ne {L : List Addr} {H : Hp} {p : Addr} (h : ∀ a ∈ L, ∃ o, H a = some o) (hp : H p = none) : ∀ a ∈ L, a ≠ p := fun a ha z => by
  obtain ⟨o, e⟩ := h a ha
  rw [z, hp] at e
  cases e
theorem MAt.heap {K : PySem.W.Frag} {L : List Addr} {G H H' : Hp} {a : Addr} {m : M} (he : H' a = H a) (h : MAt K L G H a m) : MAt K L G H' a m := by
  cases m with
  | lst ds => obtain ⟨vs, e, r⟩ := h; exact ⟨vs, he.trans e, r⟩
  | ins C ns ds => obtain ⟨dx, vs, e, z, r⟩ := h; exact ⟨dx, vs, he.trans e, z, r⟩
  | gone => trivial
  | box => obtain ⟨i, j, k, e⟩ := h; exact ⟨i, j, k, he.trans e⟩
section
variable {K : PySem.W.Frag} {L : List Addr} {G H : Hp} {μ : List M} {p : Addr} {o : HO}
theorem Ok.mem (h : Ok K L G H μ) {n : Nat} {a : Addr} (e : L[n]? = some a) : a ∈ L := List.mem_of_getElem? e
/-- a new thing in the heap that is not told -/
theorem Ok.newH (h : Ok K L G H μ) (hp : H p = none) : Ok K L G (upd H p o) μ ∧ Step L G H L G (upd H p o) := by
  have hL := mem_ne h.liv hp
  have sh : Same H (upd H p o) := fun b u e => by rw [upd_ne (ne_of_none e hp)]; exact e
  refine ⟨⟨h.sub.trans sh, h.len, h.nd, h.off, fun a ha => ?_, fun n a m e1 e2 => ?_⟩, .refl _, .refl _, fun b u e _ => sh b u e, fun a ha => .inl ha, fun b u e => ⟨u, sh b u e⟩, fun b u e => .inl e⟩
  · obtain ⟨u, e⟩ := h.liv a ha
    exact ⟨u, sh _ _ e⟩
  · exact (h.at_ n a m e1 e2).heap (upd_ne (hL a (List.mem_of_getElem? e1)))
/-- what stands in the heap, apart from the store, and did not stand before, is told -/
theorem Ok.tell (h : Ok K L G H μ) (hp : H p = some o) (hn : p ∉ L) : Ok K L (upd G p o) H μ ∧ Same G (upd G p o) := by
  have sg : Same G (upd G p o) := fun b u e => by
    by_cases hb : b = p
    · subst hb
      rw [h.sub _ _ e] at hp
      rw [upd_same]
      exact hp.symm
    · rw [upd_ne hb]
      exact e
  refine ⟨⟨fun b u e => ?_, h.len, h.nd, fun a ha => ?_, h.liv, fun n a m e1 e2 => (h.at_ n a m e1 e2).mono (.refl _) sg⟩, sg⟩
  · by_cases hb : b = p
    · subst hb
      rw [upd_same] at e
      rw [hp]
      exact e
    · rw [upd_ne hb] at e
      exact h.sub _ _ e
  · rw [upd_ne (fun (z : a = p) => hn (by rw [← z]; exact ha))]
    exact h.off a ha
theorem Step.tell {L0 : List Addr} {G0 H0 : Hp} (s : Step L0 G0 H0 L G H) (h0 : H0 p = none) (sg : Same G (upd G p o)) : Step L0 G0 H0 L (upd G p o) H :=
  ⟨s.pre, s.gs.trans sg, s.hs, s.fr, s.nn, fun b u e => by
    by_cases hb : b = p
    · rw [hb]
      exact .inr h0
    · rw [upd_ne hb] at e
      exact s.gf b u e⟩
/-- a new immutable object comes -/
theorem Ok.new (h : Ok K L G H μ) (hp : H p = none) : Ok K L (upd G p o) (upd H p o) μ ∧ Step L G H L (upd G p o) (upd H p o) := by
  obtain ⟨h1, s1⟩ := h.newH (o := o) hp
  obtain ⟨h2, sg⟩ := h1.tell (p := p) (o := o) upd_same fun z => mem_ne h.liv hp p z rfl
  exact ⟨h2, s1.tell hp sg⟩
/-- a thing in the heap that nobody tells of, apart from the store, is changed -/
theorem Ok.poke (h : Ok K L G H μ) (hn : p ∉ L) (hg : G p = none) : Ok K L G (upd H p o) μ := by
  refine ⟨fun b u e => ?_, h.len, h.nd, h.off, fun a ha => ?_, fun n a m e1 e2 => ?_⟩
  · rw [upd_ne (ne_of_none e hg)]
    exact h.sub _ _ e
  · rw [upd_ne (fun (z : a = p) => hn (by rw [← z]; exact ha))]
    exact h.liv a ha
  · exact (h.at_ n a m e1 e2).heap (upd_ne fun (z : a = p) => hn (by rw [← z]; exact List.mem_of_getElem? e1))
theorem Step.poke {L0 : List Addr} {G0 H0 : Hp} (s : Step L0 G0 H0 L G H) (h0 : H0 p = none) : Step L0 G0 H0 L G (upd H p o) :=
  ⟨s.pre, s.gs, fun b u e n => by rw [upd_ne (ne_of_none e h0)]; exact s.hs b u e n, s.fr, fun b u e => by rw [upd_ne (ne_of_none e h0)]; exact s.nn b u e, s.gf⟩
theorem get_last {α : Type} {l : List α} {x y : α} {n : Nat} (h : (l ++ [x])[n]? = some y) : l[n]? = some y ∨ (n = l.length ∧ x = y) := by
  by_cases hn : n < l.length
  · rw [List.getElem?_append_left hn] at h
    exact .inl h
  · rw [List.getElem?_append_right (by omega)] at h
    by_cases e : n - l.length = 0
    · rw [e] at h
      exact .inr ⟨by omega, by simpa using h⟩
    · rw [List.getElem?_eq_none (by simp; omega)] at h
      cases h
/-- a thing that stands in the heap, told by nobody, comes to the store -/
theorem Ok.push (h : Ok K L G H μ) {m : M} (hp : H p = some o) (hn : p ∉ L) (hg : G p = none) (hm : MAt K (L ++ [p]) G H p m) (H0 : Hp) (h0 : H0 p = none) : Ok K (L ++ [p]) G H (μ ++ [m]) := by
  refine ⟨h.sub, by simp [h.len], ?_, fun a ha => ?_, fun a ha => ?_, fun n a m' e1 e2 => ?_⟩
  · rw [List.nodup_append]
    refine ⟨h.nd, by simp, fun a ha b hb z => ?_⟩
    simp only [List.mem_singleton] at hb
    subst hb z
    exact hn ha
  · rcases List.mem_append.mp ha with z | z
    · exact h.off a z
    · simp only [List.mem_singleton] at z
      rw [z]
      exact hg
  · rcases List.mem_append.mp ha with z | z
    · exact h.liv a z
    · simp only [List.mem_singleton] at z
      rw [z]
      exact ⟨_, hp⟩
  · rcases get_last e1 with q | ⟨q1, q2⟩
    · rcases get_last e2 with r | ⟨r1, r2⟩
      · exact (h.at_ n a m' q r).mono .app (.refl _)
      · have : n < L.length := (List.getElem?_eq_some_iff.mp q).1
        rw [h.len] at this
        omega
    · rcases get_last e2 with r | ⟨r1, r2⟩
      · have : n < μ.length := (List.getElem?_eq_some_iff.mp r).1
        rw [← h.len] at this
        omega
      · subst q2 r2
        exact hm
/-- a new thing of the store -/
theorem Ok.alloc (h : Ok K L G H μ) {m : M} (hp : H p = none) (hm : MAt K (L ++ [p]) G (upd H p o) p m) : Ok K (L ++ [p]) G (upd H p o) (μ ++ [m]) ∧ Step L G H (L ++ [p]) G (upd H p o) := by
  obtain ⟨h1, s1⟩ := h.newH (o := o) hp
  refine ⟨h1.push (o := o) upd_same (fun z => mem_ne h.liv hp p z rfl) (Same.free h.sub hp) hm H hp, .app, .refl _, s1.hs, fun a ha => ?_, s1.nn, s1.gf⟩
  rcases List.mem_append.mp ha with z | z
  · exact .inl z
  · simp only [List.mem_singleton] at z
    rw [z]
    exact .inr hp
/-- a thing of the store changes -/
theorem Ok.write (h : Ok K L G H μ) {n : Nat} {a : Addr} {m : M} (e : L[n]? = some a) (hm : MAt K L G (upd H a o) a m) : Ok K L G (upd H a o) (μ.set n m) ∧ Step L G H L G (upd H a o) := by
  have ha := List.mem_of_getElem? e
  have nG : ∀ b u, G b = some u → b ≠ a := fun b u q z => by rw [z, h.off a ha] at q; cases q
  refine ⟨⟨fun b u q => ?_, by simp [h.len], h.nd, h.off, fun b hb => ?_, fun k b m' e1 e2 => ?_⟩, .refl _, .refl _, fun b u q hb => ?_, fun b hb => .inl hb, fun b u q => ?_, fun b u q => .inl q⟩
  · rw [upd_ne (nG b u q)]
    exact h.sub _ _ q
  · by_cases z : b = a
    · rw [z, upd_same]
      exact ⟨_, rfl⟩
    · rw [upd_ne z]
      exact h.liv b hb
  · by_cases hk : n = k
    · subst hk
      rw [e] at e1
      cases e1
      have hn : n < μ.length := by rw [← h.len]; exact (List.getElem?_eq_some_iff.mp e).1
      rw [List.getElem?_set_self hn] at e2
      cases e2
      exact hm
    · rw [List.getElem?_set_ne hk] at e2
      refine (h.at_ k b m' e1 e2).heap (upd_ne fun z => hk ?_)
      subst z
      obtain ⟨h1, q1⟩ := List.getElem?_eq_some_iff.mp e
      obtain ⟨h2, q2⟩ := List.getElem?_eq_some_iff.mp e1
      exact (List.getElem_inj h.nd).mp (q1.trans q2.symm)
  · rw [upd_ne (fun (z : b = a) => hb (by rw [z]; exact ha))]
    exact q
  · by_cases z : b = a
    · rw [z, upd_same]
      exact ⟨_, rfl⟩
    · rw [upd_ne z]
      exact ⟨u, q⟩
theorem mAt_cut {a : Addr} {m : M} {n : Nat} (h : MAt K L G H a m) (b : m.lo n = true) : MAt K (L.take n) G H a m := by
  cases m with
  | lst ds => obtain ⟨vs, e, r⟩ := h; exact ⟨vs, e, r.cut b⟩
  | ins C ns ds => obtain ⟨dx, vs, e, z, r⟩ := h; exact ⟨dx, vs, e, z, r.cut b⟩
  | gone => trivial
  | box => exact h
/-- the last things of the store are left behind -/
theorem Ok.cut {ν : List M} (h : Ok K L G H (μ ++ ν)) (b : μ.all (M.lo μ.length) = true) : Ok K (L.take μ.length) G H μ := by
  have hl : μ.length ≤ L.length := by rw [h.len, List.length_append]; omega
  refine ⟨h.sub, by rw [List.length_take]; omega, h.nd.sublist (List.take_sublist _ _), fun a ha => h.off a (List.mem_of_mem_take ha), fun a ha => h.liv a (List.mem_of_mem_take ha), fun n a m e1 e2 => ?_⟩
  have hn : n < μ.length := (List.getElem?_eq_some_iff.mp e2).1
  rw [List.getElem?_take_of_lt hn] at e1
  refine mAt_cut (h.at_ n a m e1 ?_) (List.all_eq_true.mp b m (List.mem_of_getElem? e2))
  rw [List.getElem?_append_left hn]
  exact e2
theorem Step.cut {L0 : List Addr} {G0 H0 : Hp} {n : Nat} (s : Step L0 G0 H0 L G H) (hn : L0.length ≤ n) : Step L0 G0 H0 (L.take n) G H :=
  ⟨fun k a e => by
    rw [List.getElem?_take_of_lt (Nat.lt_of_lt_of_le (List.getElem?_eq_some_iff.mp e).1 hn)]
    exact s.pre k a e, s.gs, s.hs, fun a ha => s.fr a (List.mem_of_mem_take ha), s.nn, s.gf⟩
end
end PM
set_option Elab.async false
set_option linter.all false
set_option maxRecDepth 100000
namespace PM
open PySem L2
abbrev Env' := List (Option D)

/-! ### readings -/
/-- the state as it is told -/
structure Now (K : PySem.W.Frag) (L : List Addr) (G H : Hp) (μ : List M) (ρ : Env') (σ : St) : Prop where
  ok : Ok K L G H μ
  env : RepS K L G ρ σ
/-- a value comes -/
def Comes (K : PySem.W.Frag) (L : List Addr) (G H : Hp) (d : D) (μ' : List M) (Q : VK) : Prop := ∀ v L' G' H', Step L G H L' G' H' → Ok K L' G' H' μ' → Rep K L' G' d v → Q v H'
def ComesT (K : PySem.W.Frag) (L : List Addr) (G H : Hp) (b : Bool) (μ' : List M) (Q : Bool → Hp → Prop) : Prop := ∀ L' G' H', Step L G H L' G' H' → Ok K L' G' H' μ' → Q b H'
def ComesA (K : PySem.W.Frag) (L : List Addr) (G H : Hp) (ds : List D) (μ' : List M) (Q : List V → Hp → Prop) : Prop := ∀ vs L' G' H', Step L G H L' G' H' → Ok K L' G' H' μ' → Reps K L' G' ds vs → Q vs H'
/-- an exception comes: its class, its fields -/
def XdAt (K : PySem.W.Frag) (L : List Addr) (G H : Hp) (dx : Option Addr) (ns : List Str) (ds : List D) : Prop := ns.length = ds.length ∧ (ns = [] ∨ ∃ a vs, dx = some a ∧ G a = some (.xd (ns.zip vs)) ∧ Reps K L G ds vs)
def ComesX (K : PySem.W.Frag) (L : List Addr) (G H : Hp) (C : Addr) (ns : List Str) (ds : List D) (μ' : List M) (E : XK) : Prop := ∀ dx L' G' H', Step L G H L' G' H' → Ok K L' G' H' μ' → XdAt K L' G' H' dx ns ds → E (.ref C) dx H'
def tV (K : PySem.W.Frag) (ρ : Env') (μ : List M) (d : D) (μ' : List M) : TE := fun σ H Q => ∃ L G, Now K L G H μ ρ σ ∧ Comes K L G H d μ' Q
def tVT (K : PySem.W.Frag) (ρ : Env') (μ : List M) (b : Bool) (μ' : List M) : TT := fun σ H Q => ∃ L G, Now K L G H μ ρ σ ∧ ComesT K L G H b μ' Q
def tVA (K : PySem.W.Frag) (ρ : Env') (μ : List M) (ds : List D) (μ' : List M) : TA := fun σ H Q => ∃ L G, Now K L G H μ ρ σ ∧ ComesA K L G H ds μ' Q
/-- an expression that raises; W: what is wished of exceptions -/
def tX (W : WX) (K : PySem.W.Frag) (ρ : Env') (μ : List M) (C : Addr) (ns : List Str) (ds : List D) (μ' : List M) : St → Hp → Prop := fun σ H => ∃ L G, Now K L G H μ ρ σ ∧ ComesX K L G H C ns ds μ' fun c d H' => W c d σ H'
/-- what a call or an expression comes to -/
inductive FO where
  | ret (d : D) (μ : List M) | exc (C : Addr) (ns : List Str) (ds : List D) (μ : List M)
def CO (W : WX) (K : PySem.W.Frag) (L : List Addr) (G H : Hp) (σ : St) (o : FO) (Q : VK) : Prop :=
  match o with
  | .ret d μ' => Comes K L G H d μ' Q
  | .exc C ns ds μ' => ComesX K L G H C ns ds μ' fun c d H' => W c d σ H'
def tO (W : WX) (K : PySem.W.Frag) (ρ : Env') (μ : List M) (o : FO) : TE := fun σ H Q => ∃ L G, Now K L G H μ ρ σ ∧ CO W K L G H σ o Q
inductive Out where
  | next (ρ : Env') (μ : List M) | ret (d : D) (μ : List M) | brk (ρ : Env') (μ : List M) | cont (ρ : Env') (μ : List M)
  | exc (C : Addr) (ns : List Str) (ds : List D) (ρ : Env') (μ : List M)
def Ends' (K : PySem.W.Frag) (L : List Addr) (G H : Hp) (ρ : Env') (μ : List M) (Q : St → Hp → Prop) : Prop := ∀ σ' L' G' H', Step L G H L' G' H' → Now K L' G' H' μ ρ σ' → Q σ' H'
def Post (W : WX) (K : PySem.W.Frag) (L : List Addr) (G H : Hp) (D : Ends) : Out → Prop
  | .next ρ μ => Ends' K L G H ρ μ D.nx
  | .brk ρ μ => Ends' K L G H ρ μ D.bk
  | .cont ρ μ => Ends' K L G H ρ μ D.ct
  | .ret d μ => Comes K L G H d μ D.rt
  | .exc C ns ds ρ μ => ∀ σ' dx L' G' H', Step L G H L' G' H' → Now K L' G' H' μ ρ σ' → XdAt K L' G' H' dx ns ds → W (.ref C) dx σ' H'
def tS (W : WX) (K : PySem.W.Frag) (ρ : Env') (μ : List M) (o : Out) : TS := fun D σ H => ∃ L G, Now K L G H μ ρ σ ∧ Post W K L G H D o

section
variable {K : PySem.W.Frag} {L L1 L2 : List Addr} {G H G1 H1 G2 H2 : Hp} {μ μ1 μ' : List M} {ρ ρ' : Env'} {σ : St} {d : D} {b : Bool} {ds : List D}
theorem Now.step (n : Now K L G H μ ρ σ) (s : Step L G H L1 G1 H1) (o : Ok K L1 G1 H1 μ1) : Now K L1 G1 H1 μ1 ρ σ := ⟨o, n.env.step s⟩
theorem Comes.step {Q : VK} (c : Comes K L G H d μ' Q) (s : Step L G H L1 G1 H1) : Comes K L1 G1 H1 d μ' Q := fun v L' G' H' s' => c v L' G' H' (s.trans s')
theorem ComesT.step {Q : Bool → Hp → Prop} (c : ComesT K L G H b μ' Q) (s : Step L G H L1 G1 H1) : ComesT K L1 G1 H1 b μ' Q := fun L' G' H' s' => c L' G' H' (s.trans s')
theorem ComesA.step {Q : List V → Hp → Prop} (c : ComesA K L G H ds μ' Q) (s : Step L G H L1 G1 H1) : ComesA K L1 G1 H1 ds μ' Q := fun v L' G' H' s' => c v L' G' H' (s.trans s')
theorem ComesX.step {C : Addr} {ns : List Str} {E : XK} (c : ComesX K L G H C ns ds μ' E) (s : Step L G H L1 G1 H1) : ComesX K L1 G1 H1 C ns ds μ' E := fun v L' G' H' s' => c v L' G' H' (s.trans s')
theorem Ends'.step {Q : St → Hp → Prop} (c : Ends' K L G H ρ μ Q) (s : Step L G H L1 G1 H1) : Ends' K L1 G1 H1 ρ μ Q := fun v L' G' H' s' => c v L' G' H' (s.trans s')
theorem Post.step {W : WX} {D : Ends} {o : Out} (c : Post W K L G H D o) (s : Step L G H L1 G1 H1) : Post W K L1 G1 H1 D o := by
  cases o with
  | next ρ μ => exact Ends'.step c s
  | brk ρ μ => exact Ends'.step c s
  | cont ρ μ => exact Ends'.step c s
  | ret d μ => exact Comes.step c s
  | exc C ns ds ρ μ => exact fun σ' dx L' G' H' s' => c σ' dx L' G' H' (s.trans s')
end
section
variable {X : Cx} {e a b : Expr} {es : List Expr} {pos : Pos}
theorem pe_of {t t' : TE} (h : PE X e t) (w : ∀ σ H Q, t' σ H Q → t σ H Q) : PE X e t' := ⟨fun pins s σ H Q I q => h.run pins s σ H Q I (w _ _ _ q)⟩
theorem pt_of {t t' : TT} (h : PT X e t) (w : ∀ σ H Q, t' σ H Q → t σ H Q) : PT X e t' := ⟨fun pins s σ H Q I q => h.run pins s σ H Q I (w _ _ _ q)⟩
theorem pw_of {t t' : TT} (h : PW X e t) (w : ∀ σ H Q, t' σ H Q → t σ H Q) : PW X e t' := ⟨fun wh pins s σ H Q I q => h.run wh pins s σ H Q I (w _ _ _ q)⟩
theorem pa_of {t t' : TA} (h : PA X es t) (w : ∀ σ H Q, t' σ H Q → t σ H Q) : PA X es t' := ⟨fun pos pins s σ H Q I q => h.run pos pins s σ H Q I (w _ _ _ q)⟩
theorem ps_of {st : Stmt} {t t' : TS} (h : PS X st t) (w : ∀ D σ H, t' D σ H → t D σ H) : PS X st t' := ⟨fun pins s σ H D I q => h.run pins s σ H D I (w _ _ _ q)⟩
theorem pss_of {st : List Stmt} {t t' : TS} (h : PSs X st t) (w : ∀ D σ H, t' D σ H → t D σ H) : PSs X st t' := ⟨fun pins s σ H D I q => h.run pins s σ H D I (w _ _ _ q)⟩
end

/-! ### expressions -/
section
variable {X : Cx} {W : WX} {e a b c : Expr} {es : List Expr} {pos : Pos} {ρ : Env'} {μ μ1 μ2 μ3 : List M} {d da db dc : D} {ds : List D} {x : Str} {i : Nat}
/-- a name by its slot -/
theorem ev_var (i : Nat) (hd : ρ[i]? = some (some d)) (hN : X.N[i]? = some x := by rfl) (hv : Vis X.env.scope x := by first | exact Or.inl rfl | exact Or.inr (Or.inl rfl) | exact Or.inr (Or.inr rfl)) (h1 : (x == ("__debug__" : Str)) = false := by decide)
    (h2 : (x == ("__classdict__" : Str)) = false := by decide) : PE X (.Name x pos) (tV X.K ρ μ d μ) :=
  pe_of (pe_var hN hv h1 h2) fun σ H Q ⟨L, G, n, c⟩ => by
    obtain ⟨v, e, r⟩ := n.env.at_ i d hd
    exact ⟨v, e, c v L G H (.refl _ _ _) n.ok r⟩
/-- a value that leaves the heap as it is -/
theorem tV_const {v : V} {σ : St} {H : Hp} {Q : VK} (h : tV X.K ρ μ d μ σ H Q) (r : ∀ L G, Rep X.K L G d v) : Q v H := by
  obtain ⟨L, G, n, c⟩ := h
  exact c v L G H (.refl _ _ _) n.ok (r L G)
theorem ev_int {i j} : PE X (.Constant (.int i) j pos) (tV X.K ρ μ (.int i) μ) := pe_of pe_int fun _ _ _ h => tV_const h fun _ _ => rep_int.mpr rfl
theorem ev_bl {i j} : PE X (.Constant (.bool i) j pos) (tV X.K ρ μ (.bl i) μ) := pe_of pe_bl fun _ _ _ h => tV_const h fun _ _ => rep_bl.mpr rfl
theorem ev_non {j} : PE X (.Constant .none j pos) (tV X.K ρ μ .non μ) := pe_of pe_non fun _ _ _ h => tV_const h fun _ _ => rep_non.mpr rfl
theorem ev_str {i j} : PE X (.Constant (.str i) j pos) (tV X.K ρ μ (.str i) μ) := pe_of pe_str fun _ _ _ h => tV_const h fun _ _ => rep_str.mpr rfl
/-- a module's name: a constant, a class -/
theorem ev_glob {u : Value} {v : V} (hg : Gl X x) (hm : X.mg x = some u) (r : RelV v u) (rd : ∀ L G, Rep X.K L G d v) (hd : (x == ("__debug__" : Str)) = false := by decide) : PE X (.Name x pos) (tV X.K ρ μ d μ) := pe_of (pe_glob hg hm r hd) fun _ _ _ h => tV_const h rd
/-- a built-in class as a value -/
theorem ev_bty {T : String} (hg : Gl X x) (hm : X.mg x = none) (hv : bootBuiltins x = some (.type T)) (hn : x ≠ "__name__" := by decide) (hd : (x == ("__debug__" : Str)) = false := by decide) : PE X (.Name x pos) (tV X.K ρ μ (.ty T) μ) :=
  pe_of (pe_bltn (v := .ty T) hg hm hv rfl hn hd) fun _ _ _ h => tV_const h fun _ _ => rep_ty.mpr rfl

/-! #### arguments -/
theorem ev_nil : PA X [] (tVA X.K ρ μ [] μ) := pa_of pa_nil fun σ H Q ⟨L, G, n, c⟩ => c [] L G H (.refl _ _ _) n.ok Reps.nil
theorem ev_cons (h1 : PE X e (tV X.K ρ μ d μ1)) (h2 : PA X es (tVA X.K ρ μ1 ds μ2)) (hs : starEach (e :: es) X.env = (false, eval e X.env) :: starEach es X.env := by rfl) : PA X (e :: es) (tVA X.K ρ μ (d :: ds) μ2) :=
  pa_of (pa_cons h1 h2 hs) fun σ H Q ⟨L, G, n, c⟩ => ⟨L, G, n, fun v L1 G1 H1 s1 o1 r1 => ⟨L1, G1, n.step s1 o1, fun vs L2 G2 H2 s2 o2 r2 => c (v :: vs) L2 G2 H2 (s1.trans s2) o2 (Reps.cons (r1.step s2) r2)⟩⟩

/-! #### operators, by values -/
/-- an operation on two data -/
def OpO (X : Cx) (W : WX) (f : Value → Value → Sem Value) (da db : D) (μ : List M) (o : FO) : Prop :=
  ∀ (pins : List (Addr × Obj)) (s : Shared) (σ : St) (H : Hp) (x y : V) (v u : Value) (Q : VK) (L : List Addr) (G : Hp), Inv X pins σ H s → RelV x v → RelV y u → Ok X.K L G H μ → Rep X.K L G da x → Rep X.K L G db y → CO W X.K L G H σ o Q →
    wpAny (model X.prog X.w) X.A (f v u) (EP X pins σ Q) X.xe s
def UnO (X : Cx) (W : WX) (f : Value → Sem Value) (da : D) (μ : List M) (o : FO) : Prop :=
  ∀ (pins : List (Addr × Obj)) (s : Shared) (σ : St) (H : Hp) (x : V) (v : Value) (Q : VK) (L : List Addr) (G : Hp), Inv X pins σ H s → RelV x v → Ok X.K L G H μ → Rep X.K L G da x → CO W X.K L G H σ o Q →
    wpAny (model X.prog X.w) X.A (f v) (EP X pins σ Q) X.xe s
def CallO (X : Cx) (W : WX) (f : List Value → Sem Value) (ds : List D) (μ : List M) (o : FO) : Prop :=
  ∀ (pins : List (Addr × Obj)) (s : Shared) (σ : St) (H : Hp) (xs : List V) (us : List Value) (Q : VK) (L : List Addr) (G : Hp), Inv X pins σ H s → Vals xs us → Ok X.K L G H μ → Reps X.K L G ds xs → CO W X.K L G H σ o Q →
    wpAny (model X.prog X.w) X.A (f us) (EP X pins σ Q) X.xe s
theorem opO_of {f : Value → Value → Sem Value} {r : R2} {o : FO} (h : OpR X f r) (w : ∀ σ x y H Q L G, Ok X.K L G H μ → Rep X.K L G da x → Rep X.K L G db y → CO W X.K L G H σ o Q → r x y H Q) : OpO X W f da db μ o :=
  fun pins s σ H x y v u Q L G I rx ry o r1 r2 c => h pins s σ H x y v u Q I rx ry (w _ _ _ _ _ _ _ o r1 r2 c)
theorem unO_of {f : Value → Sem Value} {r : V → Hp → VK → Prop} {o : FO} (h : UnR X f r) (w : ∀ σ x H Q L G, Ok X.K L G H μ → Rep X.K L G da x → CO W X.K L G H σ o Q → r x H Q) : UnO X W f da μ o :=
  fun pins s σ H x v Q L G I rx o r1 c => h pins s σ H x v Q I rx (w _ _ _ _ _ _ o r1 c)
theorem callO_of {f : Value} {r : List V → Hp → VK → Prop} {o : FO} (h : CallR X f r) (w : ∀ σ xs H Q L G, Ok X.K L G H μ → Reps X.K L G ds xs → CO W X.K L G H σ o Q → r xs H Q) : CallO X W (fun us => call f us) ds μ o :=
  fun pins s σ H x v Q L G I rx o r1 c => h pins s σ H x v Q I rx (w _ _ _ _ _ _ o r1 c)
/-- a value that leaves the heap as it is -/
theorem CO.now {σ : St} {H : Hp} {Q : VK} {L : List Addr} {G : Hp} {v : V} (c : CO W X.K L G H σ (.ret d μ) Q) (o : Ok X.K L G H μ) (r : Rep X.K L G d v) : Q v H := c v L G H (.refl _ _ _) o r
/-- a new object, immutable -/
theorem CO.fresh {σ : St} {H : Hp} {Q : VK} {L : List Addr} {G : Hp} {p : Addr} {u : HO} {v : V} (c : CO W X.K L G H σ (.ret d μ) Q) (o : Ok X.K L G H μ) (hp : H p = none) (r : Rep X.K L (upd G p u) d v) : Q v (upd H p u) :=
  let ⟨o', s'⟩ := o.new (o := u) hp
  c v L _ _ s' o' r
theorem CO.step {σ : St} {H : Hp} {Q : VK} {L : List Addr} {G : Hp} {o : FO} {L1 : List Addr} {G1 H1 : Hp} (c : CO W X.K L G H σ o Q) (s : Step L G H L1 G1 H1) : CO W X.K L1 G1 H1 σ o Q := by
  cases o with
  | ret d μ => exact Comes.step c s
  | exc C ns ds μ => exact ComesX.step (E := fun c d H' => W c d σ H') c s
section
variable {o : FO}
theorem binO (ha : PE X a (tV X.K ρ μ da μ1)) (hb : PE X b (tV X.K ρ μ1 db μ2)) {pins : List (Addr × Obj)} {s : Shared} {σ : St} {H : Hp} {Q : VK} {f : Value → Value → Sem Value} (I : Inv X pins σ H s) (ho : OpO X W f da db μ2 o) (h : tO W X.K ρ μ o σ H Q) :
    wpAny (model X.prog X.w) X.A (eval a X.env) (fun v s₁ => wpAny (model X.prog X.w) X.A (eval b X.env) (fun u s₂ => wpAny (model X.prog X.w) X.A (f v u) (EP X pins σ Q) X.xe s₂) X.xe s₁) X.xe s := by
  obtain ⟨L, G, n, c⟩ := h
  exact binT (R := fun x y H2 => ∃ L2 G2, Ok X.K L2 G2 H2 μ2 ∧ Rep X.K L2 G2 da x ∧ Rep X.K L2 G2 db y ∧ CO W X.K L2 G2 H2 σ o Q) ha hb I
    ⟨L, G, n, fun v L1 G1 H1 s1 o1 r1 => ⟨L1, G1, n.step s1 o1, fun u L2 G2 H2 s2 o2 r2 => ⟨L2, G2, o2, r1.step s2, r2, c.step (s1.trans s2)⟩⟩⟩
    fun v u s2 x y H2 I2 rx ry ⟨L2, G2, o2, r1, r2, c2⟩ => ho pins s2 σ H2 x y v u Q L2 G2 I2 rx ry o2 r1 r2 c2
theorem ev_op {op : Operator} (ha : PE X a (tV X.K ρ μ da μ1)) (hb : PE X b (tV X.K ρ μ1 db μ2)) (ho : OpO X W (binaryOp op) da db μ2 o) : PE X (.BinOp a op b pos) (tO W X.K ρ μ o) :=
  ⟨fun pins s σ H Q I h => wpAny_BinOp (binO ha hb I ho h)⟩
theorem ev_cmp {op : CmpOp} (ha : PE X a (tV X.K ρ μ da μ1)) (hb : PE X b (tV X.K ρ μ1 db μ2)) (ho : OpO X W (compareOp op) da db μ2 o) (hm : behindInMarks op b = false := by first | exact nomark _ | rfl) : PE X (.Compare a [op] [b] pos) (tO W X.K ρ μ o) :=
  ⟨fun pins s σ H Q I h => wpAny_Compare1 (binO ha hb I ho h) hm⟩
theorem ev_un {op : UnaryOp} (ha : PE X a (tV X.K ρ μ da μ1)) (ho : UnO X W (unaryOp op) da μ1 o) : PE X (.UnaryOp op a pos) (tO W X.K ρ μ o) :=
  ⟨fun pins s σ H Q I ⟨L, G, n, c⟩ => PyProof.Rows.UnaryOp_ (thn (ha.run pins s σ H (fun x H1 => ∃ L1 G1, Ok X.K L1 G1 H1 μ1 ∧ Rep X.K L1 G1 da x ∧ CO W X.K L1 G1 H1 σ o Q) I ⟨L, G, n, fun v L1 G1 H1 s1 o1 r1 => ⟨L1, G1, o1, r1, c.step s1⟩⟩) fun v s1 ⟨x, H1, I1, r1, L1, G1, o1, rr, c1⟩ =>
    ho pins s1 σ H1 x v Q L1 G1 I1 r1 o1 rr c1)⟩
end
/-! #### tests -/
theorem pe_nev : PE X e (fun _ _ _ => False) := ⟨fun _ _ _ _ _ _ z => z.elim⟩
/-- a test that raises -/
def tOT (W : WX) (K : PySem.W.Frag) (ρ : Env') (μ : List M) (C : Addr) (ns : List Str) (dx : List D) (μ' : List M) : TT := fun σ H _ => ∃ L G, Now K L G H μ ρ σ ∧ ComesX K L G H C ns dx μ' fun c d H' => W c d σ H'
section
variable {k k' : Bool}
/-- a test by its value -/
theorem et_val (h : PE X e (tV X.K ρ μ (.bl k) μ1)) (he : ∀ whole, isTrue e X.env whole = (do let v ← whole; standAt e.pos; holding [v] (truthy v)) := by intro _; rfl) : PT X e (tVT X.K ρ μ k μ1) :=
  pt_of (pt_val h he) fun σ H Q ⟨L, G, n, c⟩ => ⟨L, G, n, fun v L1 G1 H1 s1 o1 r1 => ⟨k, rep_bl.mp r1, c L1 G1 H1 s1 o1⟩⟩
theorem et_cmp {op : CmpOp} (ha : PE X a (tV X.K ρ μ da μ1)) (hb : PE X b (tV X.K ρ μ1 db μ2)) (ho : OpO X (fun _ _ _ _ => False) (compareOp op) da db μ2 (.ret (.bl k) μ3)) (hm : behindInMarks op b = false := by first | exact nomark _ | rfl) : PT X (.Compare a [op] [b] pos) (tVT X.K ρ μ k μ3) := by
  refine ⟨fun pins s σ H Q I h => ?_⟩
  obtain ⟨L, G, n, c⟩ := h
  refine wpAny_isTrue_Compare1 (thn (binO (Q := fun z H' => z = .bl k ∧ Q k H') ha hb I ho ⟨L, G, n, fun v L' G' H' s' o' r' => ⟨rep_bl.mp r', c L' G' H' s' o'⟩⟩) fun v s1 h1 => thn h1 fun u s2 h2 => thn h2 fun z s3 ⟨y, H3, I3, r3, e3, q3⟩ => ?_) hm
  subst e3
  cases r3
  exact wpAny_truthy_bool ⟨H3, I3, q3⟩
theorem et_not (h : PT X a (tVT X.K ρ μ k μ1)) : PT X (.UnaryOp .Not a pos) (tVT X.K ρ μ (!k) μ1) :=
  pt_of (pt_not h) fun σ H Q ⟨L, G, n, c⟩ => ⟨L, G, n, fun L1 G1 H1 s1 o1 => c L1 G1 H1 s1 o1⟩
variable {rest : List Expr}
/-- and, or as values (True, False) -/
theorem ev_one {op} {o : FO} (h : PE X a (tO W X.K ρ μ o)) : PE X (.BoolOp op [a] pos) (tO W X.K ρ μ o) := pe_one h
theorem ev_andT {o : FO} (h : PE X a (tV X.K ρ μ (.bl true) μ1)) (hr : PE X (.BoolOp .And (b :: rest) pos) (tO W X.K ρ μ1 o)) : PE X (.BoolOp .And (a :: b :: rest) pos) (tO W X.K ρ μ o) :=
  pe_of (pe_and h hr) fun σ H Q ⟨L, G, n, c⟩ => ⟨L, G, n, fun v L1 G1 H1 s1 o1 r1 => ⟨true, rep_bl.mp r1, iteT ⟨L1, G1, n.step s1 o1, CO.step c s1⟩⟩⟩
theorem ev_andF (h : PE X a (tV X.K ρ μ (.bl false) μ1)) : PE X (.BoolOp .And (a :: b :: rest) pos) (tV X.K ρ μ (.bl false) μ1) :=
  pe_of (pe_and h pe_nev) fun σ H Q ⟨L, G, n, c⟩ => ⟨L, G, n, fun v L1 G1 H1 s1 o1 r1 => ⟨false, rep_bl.mp r1, iteF (c _ L1 G1 H1 s1 o1 (rep_bl.mpr rfl))⟩⟩
theorem ev_orF {o : FO} (h : PE X a (tV X.K ρ μ (.bl false) μ1)) (hr : PE X (.BoolOp .Or (b :: rest) pos) (tO W X.K ρ μ1 o)) : PE X (.BoolOp .Or (a :: b :: rest) pos) (tO W X.K ρ μ o) :=
  pe_of (pe_or h hr) fun σ H Q ⟨L, G, n, c⟩ => ⟨L, G, n, fun v L1 G1 H1 s1 o1 r1 => ⟨false, rep_bl.mp r1, iteF ⟨L1, G1, n.step s1 o1, CO.step c s1⟩⟩⟩
theorem ev_orT (h : PE X a (tV X.K ρ μ (.bl true) μ1)) : PE X (.BoolOp .Or (a :: b :: rest) pos) (tV X.K ρ μ (.bl true) μ1) :=
  pe_of (pe_or h pe_nev) fun σ H Q ⟨L, G, n, c⟩ => ⟨L, G, n, fun v L1 G1 H1 s1 o1 r1 => ⟨true, rep_bl.mp r1, iteT (c _ L1 G1 H1 s1 o1 (rep_bl.mpr rfl))⟩⟩
theorem ev_and (h : PE X a (tV X.K ρ μ (.bl k) μ)) (hr : k = true → PE X (.BoolOp .And (b :: rest) pos) (tV X.K ρ μ (.bl k') μ)) : PE X (.BoolOp .And (a :: b :: rest) pos) (tV X.K ρ μ (.bl (k && k')) μ) := by
  cases k with
  | true => exact ev_andT (W := fun _ _ _ _ => False) (o := .ret _ _) h (hr rfl)
  | false => exact ev_andF h
theorem ev_or (h : PE X a (tV X.K ρ μ (.bl k) μ)) (hr : k = false → PE X (.BoolOp .Or (b :: rest) pos) (tV X.K ρ μ (.bl k') μ)) : PE X (.BoolOp .Or (a :: b :: rest) pos) (tV X.K ρ μ (.bl (k || k')) μ) := by
  cases k with
  | true => exact ev_orT h
  | false => exact ev_orF (W := fun _ _ _ _ => False) (o := .ret _ _) h (hr rfl)
theorem ev_not (h : PE X a (tV X.K ρ μ (.bl k) μ1)) : PE X (.UnaryOp .Not a pos) (tV X.K ρ μ (.bl (!k)) μ1) :=
  pe_of (pe_not h) fun σ H Q ⟨L, G, n, c⟩ => ⟨L, G, n, fun v L1 G1 H1 s1 o1 r1 => ⟨k, rep_bl.mp r1, c _ L1 G1 H1 s1 o1 (rep_bl.mpr rfl)⟩⟩
end
end
end PM
set_option Elab.async false
set_option linter.all false
set_option maxRecDepth 100000
namespace PM
open PySem L2

/-! ### any reading will do -/
def aT (X : Cx) (e : Expr) : TT := fun σ H Q => ∃ t, PT X e t ∧ t σ H Q
def aSs (X : Cx) (b : List Stmt) : TS := fun D σ H => ∃ t, PSs X b t ∧ t D σ H
def aG (X : Cx) (e : Expr) : TG := fun v σ H Q => ∃ t, PG X e t ∧ t v σ H Q
theorem aT_ok {X : Cx} {e : Expr} : PT X e (aT X e) := ⟨fun pins s σ H Q I ⟨t, p, q⟩ => p.run pins s σ H Q I q⟩
theorem aSs_ok {X : Cx} {b : List Stmt} : PSs X b (aSs X b) := ⟨fun pins s σ H D I ⟨t, p, q⟩ => p.run pins s σ H D I q⟩
theorem aG_ok {X : Cx} {e : Expr} : PG X e (aG X e) := ⟨fun pins s σ H v u Q I r ⟨t, p, q⟩ => p.run pins s σ H v u Q I r q⟩

/-! ### forgetting -/
def Sub : Env' → Env' → Prop
  | [], [] => True
  | none :: r, _ :: s => Sub r s
  | some d :: r, o :: s => o = some d ∧ Sub r s
  | _, _ => False
theorem Sub.refl : ∀ ρ : Env', Sub ρ ρ
  | [] => trivial
  | none :: r => Sub.refl r
  | some d :: r => ⟨rfl, Sub.refl r⟩
theorem Sub.len : ∀ {ρ ρ' : Env'}, Sub ρ ρ' → ρ.length = ρ'.length
  | [], [], _ => rfl
  | none :: r, _ :: s, h => by simp [Sub.len (ρ := r) (ρ' := s) h]
  | some d :: r, o :: s, h => by simp [Sub.len (ρ := r) (ρ' := s) h.2]
  | [], _ :: _, h => h.elim
  | none :: _, [], h => h.elim
  | some _ :: _, [], h => h.elim
theorem Sub.at_ : ∀ {ρ ρ' : Env'}, Sub ρ ρ' → ∀ (i : Nat) d, ρ[i]? = some (some d) → ρ'[i]? = some (some d)
  | [], [], _, i, d, e => by simp at e
  | none :: r, _ :: s, h, 0, d, e => by simp at e
  | none :: r, _ :: s, h, i + 1, d, e => by simpa using Sub.at_ (ρ := r) (ρ' := s) h i d (by simpa using e)
  | some c :: r, o :: s, h, 0, d, e => by
    simp only [List.getElem?_cons_zero, Option.some.injEq] at e
    subst e
    simp [h.1]
  | some c :: r, o :: s, h, i + 1, d, e => by simpa using Sub.at_ (ρ := r) (ρ' := s) h.2 i d (by simpa using e)
  | [], _ :: _, h, _, _, _ => h.elim
  | none :: _, [], h, _, _, _ => h.elim
  | some _ :: _, [], h, _, _, _ => h.elim
theorem Now.forget {K : PySem.W.Frag} {L : List Addr} {G H : Hp} {μ : List M} {ρ ρ' : Env'} {σ : St} (n : Now K L G H μ ρ σ) (s : Sub ρ' ρ) : Now K L G H μ ρ' σ := ⟨n.ok, n.env.forget s.len s.at_⟩

/-! ### what a body needs of its place -/
/-- texts of containers that are being made: none from level 60 on -/
def Gr (k : Nat) (A : Around) : Prop := ∃ g, A.guards = some g ∧ (60 ≤ k → g = [])
theorem Gr.mono {j k : Nat} {A : Around} (h : Gr k A) (hj : j ≤ k) : Gr j A := let ⟨g, e, z⟩ := h; ⟨g, e, fun q => z (Nat.le_trans q hj)⟩
theorem Gr.none {k : Nat} {A : Around} (h : Gr k A) (hk : 60 ≤ k) : A.guards = some [] := let ⟨_, e, z⟩ := h; e.trans (congrArg some (z hk))
theorem Gr.of {k : Nat} {A : Around} (h : A.guards = some []) : Gr k A := ⟨[], h, fun _ => rfl⟩
structure Gd (X : Cx) (W : WX) (k : Nat) : Prop where
  calm : X.calm = true
  nd : X.N.Nodup
  tk : Takes X W
  po : PassesOwn (model X.prog X.w) X.A X.env X.xe
  hr : Room k X.A
  gr : Gr k X.A

/-! ### targets -/
def gD (K : PySem.W.Frag) (μ : List M) (d : D) (ρ ρ' : Env') : TG := fun v σ H Q => ∃ L G, Now K L G H μ ρ σ ∧ Rep K L G d v ∧ Ends' K L G H ρ' μ Q
def gDs (K : PySem.W.Frag) (μ : List M) (ds : List D) (ρ ρ' : Env') : TGs := fun vs σ H Q => ∃ L G, Now K L G H μ ρ σ ∧ Reps K L G ds vs ∧ Ends' K L G H ρ' μ Q
inductive EvWh (X : Cx) (W : WX) (c : Expr) (body : List Stmt) : Nat → Env' → List M → Out → Prop
  | stop {ρ : Env'} {ρ' : Env'} {μ : List M} {μ1 : List M} : PT X c (tVT X.K ρ μ false μ1) → Sub ρ' ρ → EvWh X W c body 0 ρ μ (.next ρ' μ1)
  | next {n : Nat} {ρ : Env'} {μ : List M} {μ1 : List M} {ρ2 : Env'} {μ2 : List M} {q : Out} : PT X c (tVT X.K ρ μ true μ1) → PSs X body (tS W X.K ρ μ1 (.next ρ2 μ2)) → EvWh X W c body n ρ2 μ2 q → EvWh X W c body (n + 1) ρ μ q
  | cont {n : Nat} {ρ : Env'} {μ : List M} {μ1 : List M} {ρ2 : Env'} {μ2 : List M} {q : Out} : PT X c (tVT X.K ρ μ true μ1) → PSs X body (tS W X.K ρ μ1 (.cont ρ2 μ2)) → EvWh X W c body n ρ2 μ2 q → EvWh X W c body (n + 1) ρ μ q
  | brk {ρ : Env'} {μ : List M} {μ1 : List M} {ρ2 : Env'} {μ2 : List M} : PT X c (tVT X.K ρ μ true μ1) → PSs X body (tS W X.K ρ μ1 (.brk ρ2 μ2)) → EvWh X W c body 0 ρ μ (.next ρ2 μ2)
  | ret {ρ : Env'} {μ : List M} {μ1 : List M} {d : D} {μ2 : List M} : PT X c (tVT X.K ρ μ true μ1) → PSs X body (tS W X.K ρ μ1 (.ret d μ2)) → EvWh X W c body 0 ρ μ (.ret d μ2)
  | exc {ρ : Env'} {μ : List M} {μ1 : List M} {C : Addr} {ns : List Str} {ds : List D} {ρ2 : Env'} {μ2 : List M} : PT X c (tVT X.K ρ μ true μ1) → PSs X body (tS W X.K ρ μ1 (.exc C ns ds ρ2 μ2)) → EvWh X W c body 0 ρ μ (.exc C ns ds ρ2 μ2)
inductive EvFor (X : Cx) (W : WX) (tg : Expr) (body : List Stmt) : List D → Env' → List M → Out → Prop
  | nil {ρ : Env'} {ρ' : Env'} {μ : List M} : Sub ρ' ρ → EvFor X W tg body [] ρ μ (.next ρ' μ)
  | next {d : D} {ds : List D} {ρ : Env'} {ρ1 : Env'} {μ : List M} {ρ2 : Env'} {μ2 : List M} {q : Out} : PG X tg (gD X.K μ d ρ ρ1) → PSs X body (tS W X.K ρ1 μ (.next ρ2 μ2)) → EvFor X W tg body ds ρ2 μ2 q → EvFor X W tg body (d :: ds) ρ μ q
  | cont {d : D} {ds : List D} {ρ : Env'} {ρ1 : Env'} {μ : List M} {ρ2 : Env'} {μ2 : List M} {q : Out} : PG X tg (gD X.K μ d ρ ρ1) → PSs X body (tS W X.K ρ1 μ (.cont ρ2 μ2)) → EvFor X W tg body ds ρ2 μ2 q → EvFor X W tg body (d :: ds) ρ μ q
  | brk {d : D} {ds : List D} {ρ : Env'} {ρ1 : Env'} {μ : List M} {ρ2 : Env'} {μ2 : List M} : PG X tg (gD X.K μ d ρ ρ1) → PSs X body (tS W X.K ρ1 μ (.brk ρ2 μ2)) → EvFor X W tg body (d :: ds) ρ μ (.next ρ2 μ2)
  | ret {d : D} {ds : List D} {ρ : Env'} {ρ1 : Env'} {μ : List M} {e : D} {μ2 : List M} : PG X tg (gD X.K μ d ρ ρ1) → PSs X body (tS W X.K ρ1 μ (.ret e μ2)) → EvFor X W tg body (d :: ds) ρ μ (.ret e μ2)
  | exc {d : D} {ds : List D} {ρ : Env'} {ρ1 : Env'} {μ : List M} {C : Addr} {ns : List Str} {es : List D} {ρ2 : Env'} {μ2 : List M} : PG X tg (gD X.K μ d ρ ρ1) → PSs X body (tS W X.K ρ1 μ (.exc C ns es ρ2 μ2)) → EvFor X W tg body (d :: ds) ρ μ (.exc C ns es ρ2 μ2)
section
variable {X : Cx} {W : WX} {k : Nat} {pos : Pos} {e : Expr} {es : List Expr} {ρ ρ1 ρ2 : Env'} {μ μ1 μ2 : List M} {d : D} {ds : List D} {x : Str} {o : FO}
theorem pg_of {t t' : TG} (h : PG X e t) (w : ∀ v σ H Q, t' v σ H Q → t v σ H Q) : PG X e t' := ⟨fun pins s σ H v u Q I r q => h.run pins s σ H v u Q I r (w _ _ _ _ q)⟩
theorem pgs_of {t t' : TGs} (h : PGs X es t) (w : ∀ v σ H Q, t' v σ H Q → t v σ H Q) : PGs X es t' := ⟨fun pins s σ H v u Q I r q => h.run pins s σ H v u Q I r (w _ _ _ _ q)⟩
theorem eg_name (i : Nat) (nd : X.N.Nodup) (hi : X.N[i]? = some x := by rfl) (hx : Loc X.env.scope x := by first | exact Or.inl rfl | exact Or.inr rfl) (hf : X.fn x = true ∨ X.env.scope.names.lookup x = some .local := by first | exact .inl rfl | exact .inr rfl | assumption) :
    PG X (.Name x pos) (gD X.K μ d ρ (ρ.set i (some d))) :=
  pg_of (pg_name nd hi hx hf) fun v σ H Q ⟨L, G, n, r, c⟩ => c _ L G H (.refl _ _ _) ⟨n.ok, n.env.set r i⟩
/-! ### statements -/
def FO.drop (ρ : Env') : FO → Out
  | .ret _ μ => .next ρ μ
  | .exc C ns ds μ => .exc C ns ds ρ μ
def FO.set (ρ : Env') (i : Nat) : FO → Out
  | .ret d μ => .next (ρ.set i (some d)) μ
  | .exc C ns ds μ => .exc C ns ds ρ μ
def FO.out (ρ : Env') : FO → Out
  | .ret d μ => .ret d μ
  | .exc C ns ds μ => .exc C ns ds ρ μ
theorem post_exc {L : List Addr} {G H : Hp} {σ : St} {D : Ends} {C : Addr} {ns : List Str} (n : Now X.K L G H μ ρ σ) (c : Post W X.K L G H D (.exc C ns ds ρ μ1)) : ComesX X.K L G H C ns ds μ1 fun c d H' => W c d σ H' :=
  fun dx L' G' H' s o x => c σ dx L' G' H' s (n.step s o) x
theorem es_set (i : Nat) (nd : X.N.Nodup) (h : PE X e (tO W X.K ρ μ o)) {pos' : Pos} (hi : X.N[i]? = some x := by rfl) (hx : Loc X.env.scope x := by first | exact Or.inl rfl | exact Or.inr rfl) (hs : swapsWith e (some (.Name x pos')) pos.line X.env = pure false := by rfl)
    (hf : X.fn x = true ∨ X.env.scope.names.lookup x = some .local := by first | exact .inl rfl | exact .inr rfl | assumption) : PS X (.Assign [.Name x pos'] e pos) (tS W X.K ρ μ (o.set ρ i)) :=
  ps_of (ps_set nd hi hx h hs hf) fun D σ H ⟨L, G, n, c⟩ => ⟨L, G, n, by
    cases o with
    | ret d μ' => exact fun v L' G' H' s' o' r' => c _ L' G' H' s' ⟨o', (n.env.step s').set r' i⟩
    | exc C ns ds μ' => exact post_exc n c⟩
/-- a, b = x, y -/
theorem es_par (i j : Nat) {y : Str} {a b : Expr} {px py pt : Pos} {kt k2 pt2} {da db : D} (g : Gd X W k) (ha : PA X [a, b] (tVA X.K ρ μ [da, db] μ1)) (hi : X.N[i]? = some x := by rfl) (hj : X.N[j]? = some y := by rfl) (hij : i ≠ j := by decide)
    (hx : X.env.scope.names.lookup x = some .local := by rfl) (hy : X.env.scope.names.lookup y = some .local := by rfl)
    (hw : swappedStores [.Tuple [.Name x px, .Name y py] kt pt] (.Tuple [a, b] k2 pt2) X.env = pure (some [x, y]) := by rfl)
    (hs : swapsWithSole [.Tuple [.Name x px, .Name y py] kt pt] (.Tuple [a, b] k2 pt2) pos.line X.env = pure false := by rfl) :
    PS X (.Assign [.Tuple [.Name x px, .Name y py] kt pt] (.Tuple [a, b] k2 pt2) pos) (tS W X.K ρ μ (.next ((ρ.set i (some da)).set j (some db)) μ1)) :=
  ps_of (ps_par g.calm g.nd hi hj hij hx hy ha hw hs) fun D σ H ⟨L, G, n, c⟩ => ⟨L, G, n, fun vs L' G' H' s' o' r' => by
    obtain ⟨v, r, e, r1, r2⟩ := r'.inv_cons
    obtain ⟨w, r, e', r3, r4⟩ := r2.inv_cons
    have e'' := r4.inv_nil
    subst e e' e''
    exact ⟨v, w, rfl, c _ L' G' H' s' ⟨o', ((n.env.step s').set r1 i).set r3 j⟩⟩⟩
theorem es_ret (h : PE X e (tO W X.K ρ μ o)) : PS X (.Return (some e) pos) (tS W X.K ρ μ (o.out ρ)) :=
  ps_of (ps_ret h) fun D σ H ⟨L, G, n, c⟩ => ⟨L, G, n, by
    cases o with
    | ret d μ' => exact c
    | exc C ns ds μ' => exact post_exc n c⟩
theorem es_pass : PS X (.Pass pos) (tS W X.K ρ μ (.next ρ μ)) := ps_of ps_pass fun D σ H ⟨L, G, n, c⟩ => c _ L G H (.refl _ _ _) n
variable {st : Stmt} {rest A B : List Stmt} {q : Out} {c : Expr} {b : Bool}
theorem es_if (h : PT X c (tVT X.K ρ μ b μ1)) (h1 : b = true → PSs X A (tS W X.K ρ μ1 q)) (h2 : b = false → PSs X B (tS W X.K ρ μ1 q)) : PS X (.If c A B pos) (tS W X.K ρ μ q) := by
  cases b with
  | true => exact ps_of (ps_if h (h1 rfl) pss_never) fun D σ H ⟨L, G, n, c⟩ => ⟨L, G, n, fun L1 G1 H1 s1 o1 => iteT ⟨L1, G1, n.step s1 o1, Post.step c s1⟩⟩
  | false => exact ps_of (ps_if h pss_never (h2 rfl)) fun D σ H ⟨L, G, n, c⟩ => ⟨L, G, n, fun L1 G1 H1 s1 o1 => iteF ⟨L1, G1, n.step s1 o1, Post.step c s1⟩⟩
theorem ess_nil : PSs X [] (tS W X.K ρ μ (.next ρ μ)) := pss_of pss_nil fun D σ H ⟨L, G, n, c⟩ => c _ L G H (.refl _ _ _) n
theorem ess_one (h : PS X st (tS W X.K ρ μ q)) : PSs X [st] (tS W X.K ρ μ q) := pss_one h
theorem ess_cons (h1 : PS X st (tS W X.K ρ μ (.next ρ1 μ1))) (h2 : PSs X rest (tS W X.K ρ1 μ1 q)) : PSs X (st :: rest) (tS W X.K ρ μ q) :=
  pss_of (pss_cons h1 h2) fun D σ H ⟨L, G, n, c⟩ => ⟨L, G, n, fun σ' L' G' H' s' n' => ⟨L', G', n', Post.step c s'⟩⟩
/-- a statement that does not go on -/
def Out.stops : Out → Prop
  | .next _ _ => False
  | _ => True
theorem ess_stop (h1 : PS X st (tS W X.K ρ μ q)) (hq : q.stops) : PSs X (st :: rest) (tS W X.K ρ μ q) :=
  pss_of (pss_cons h1 pss_never) fun D σ H ⟨L, G, n, c⟩ => ⟨L, G, n, by
    cases q with
    | next ρ μ => exact hq.elim
    | ret d μ => exact c
    | brk ρ μ => exact c
    | cont ρ μ => exact c
    | exc C ns ds ρ μ => exact c⟩
theorem es_eq {q' : Out} (h : PS X st (tS W X.K ρ μ q)) (e : q = q') : PS X st (tS W X.K ρ μ q') := e ▸ h
/-! ### while -/
theorem es_while {body : List Stmt} {n : Nat} (g : Gd X W k) (h : EvWh X W c body n ρ μ q) : PS X (.While c body [] pos) (tS W X.K ρ μ q) := by
  refine ps_of (ps_while g.po aT_ok aSs_ok) fun D σ H ⟨L, G, nw, cc⟩ => ?_
  refine ⟨fun m σ' H' => ∃ ρ' μ' L' G', EvWh X W c body m ρ' μ' q ∧ Now X.K L' G' H' μ' ρ' σ' ∧ Post W X.K L' G' H' D q, ⟨n, ρ, μ, L, G, h, nw, cc⟩, ?_⟩
  rintro m σ1 H1 ⟨ρ1, μ1, L1, G1, h1, n1, c1⟩
  cases h1 with
  | stop ht hsub => exact ⟨_, ht, L1, G1, n1, fun L2 G2 H2 s2 o2 => iteF (c1 _ L2 G2 H2 s2 ((n1.step s2 o2).forget hsub))⟩
  | next ht hb hn =>
    rename_i m μ1' ρ2 μ2
    refine ⟨_, ht, L1, G1, n1, fun L2 G2 H2 s2 o2 => iteT ⟨fun σ3 H3 => ∃ L3 G3, Now X.K L3 G3 H3 μ2 ρ2 σ3 ∧ Post W X.K L3 G3 H3 D q, fun σ3 H3 ⟨L3, G3, n3, c3⟩ => ⟨m, Nat.lt_succ_self m, ρ2, μ2, L3, G3, hn, n3, c3⟩, _, hb, L2, G2, n1.step s2 o2, ?_⟩⟩
    exact fun σ3 L3 G3 H3 s3 n3 => ⟨L3, G3, n3, Post.step c1 (s2.trans s3)⟩
  | cont ht hb hn =>
    rename_i m μ1' ρ2 μ2
    refine ⟨_, ht, L1, G1, n1, fun L2 G2 H2 s2 o2 => iteT ⟨fun σ3 H3 => ∃ L3 G3, Now X.K L3 G3 H3 μ2 ρ2 σ3 ∧ Post W X.K L3 G3 H3 D q, fun σ3 H3 ⟨L3, G3, n3, c3⟩ => ⟨m, Nat.lt_succ_self m, ρ2, μ2, L3, G3, hn, n3, c3⟩, _, hb, L2, G2, n1.step s2 o2, ?_⟩⟩
    exact fun σ3 L3 G3 H3 s3 n3 => ⟨L3, G3, n3, Post.step c1 (s2.trans s3)⟩
  | brk ht hb => exact ⟨_, ht, L1, G1, n1, fun L2 G2 H2 s2 o2 => iteT ⟨fun _ _ => False, fun _ _ z => z.elim, _, hb, L2, G2, n1.step s2 o2, Ends'.step c1 s2⟩⟩
  | ret ht hb => exact ⟨_, ht, L1, G1, n1, fun L2 G2 H2 s2 o2 => iteT ⟨fun _ _ => False, fun _ _ z => z.elim, _, hb, L2, G2, n1.step s2 o2, Comes.step c1 s2⟩⟩
  | exc ht hb => exact ⟨_, ht, L1, G1, n1, fun L2 G2 H2 s2 o2 => iteT ⟨fun _ _ => False, fun _ _ z => z.elim, _, hb, L2, G2, n1.step s2 o2, Post.step c1 s2⟩⟩

/-! ### for -/
/-- an iterator that gives ds, one after another -/
structure JOk (K : PySem.W.Frag) (J : It) (L : List Addr) (G : Hp) (ds : List D) : Prop where
  go : ∀ L2 G2 H2 μ2 (i : Nat) d, Pre L L2 → Same G G2 → Ok K L2 G2 H2 μ2 → ds[i]? = some d → J.go i H2 ∧ ∀ x H3, J.yld i H2 x H3 → ∃ G3, Step L2 G2 H2 L2 G3 H3 ∧ Ok K L2 G3 H3 μ2 ∧ Rep K L2 G3 d x
  stop : ∀ L2 G2 H2 μ2, Pre L L2 → Same G G2 → Ok K L2 G2 H2 μ2 → J.stop ds.length H2
def iD (K : PySem.W.Frag) (ρ : Env') (μ : List M) (ds : List D) (μ' : List M) : TI := fun σ H R => ∃ L G, Now K L G H μ ρ σ ∧ ∀ J L' G' H', Step L G H L' G' H' → Ok K L' G' H' μ' → JOk K J L' G' ds → R J H'
theorem pi_of {tg : Expr} {t t' : TI} (h : PI X tg e t) (w : ∀ σ H R, t' σ H R → t σ H R) : PI X tg e t' := ⟨fun pins s σ H R I q => h.run pins s σ H R I (w _ _ _ q)⟩
theorem drop_cons {α : Type} {l : List α} {i : Nat} {x : α} {r : List α} (h : l.drop i = x :: r) : l[i]? = some x ∧ l.drop (i + 1) = r := by
  have hi : i < l.length := by
    by_cases z : i < l.length
    · exact z
    · rw [List.drop_eq_nil_of_le (by omega)] at h
      cases h
  rw [List.drop_eq_getElem_cons hi] at h
  injection h with h1 h2
  exact ⟨by rw [List.getElem?_eq_getElem hi, h1], h2⟩
end
end PM
set_option Elab.async false
set_option linter.all false
set_option maxRecDepth 100000
namespace PM
open PySem L2

/-! ### locs that are there -/
section
variable {K : PySem.W.Frag} {L : List Addr} {G H : Hp}
mutual
theorem Rep.lo : ∀ {d : D} {v : V}, Rep K L G d v → D.lo L.length d = true
  | .non, _, _ => by simp only [D.lo]
  | .bl _, _, _ => by simp only [D.lo]
  | .int _, _, _ => by simp only [D.lo]
  | .str _, _, _ => by simp only [D.lo]
  | .ref _, _, _ => by simp only [D.lo]
  | .ty _, _, _ => by simp only [D.lo]
  | .loc m, _, h => by
    simp only [Rep] at h
    obtain ⟨a, e, _⟩ := h
    simp only [D.lo, decide_eq_true_eq]
    exact (List.getElem?_eq_some_iff.mp e).1
  | .tup ds, _, h => by
    simp only [Rep] at h
    obtain ⟨a, vs, e, q, r⟩ := h
    simp only [D.lo]
    exact Reps.los r
  | .lst ds, _, h => by
    simp only [Rep] at h
    obtain ⟨a, vs, e, q, r⟩ := h
    simp only [D.lo]
    exact Reps.los r
  | .scr ds, _, h => by
    simp only [Rep] at h
    obtain ⟨a, vs, e, q, r⟩ := h
    simp only [D.lo]
    exact Reps.los r
  | .exn a dd ns ds, _, h => by
    simp only [Rep] at h
    obtain ⟨vs, e, q, z, r⟩ := h
    simp only [D.lo]
    exact Reps.los r
  | .obj C ns ds, _, h => by
    simp only [Rep] at h
    obtain ⟨a, dx, vs, e, q, z, r⟩ := h
    simp only [D.lo]
    exact Reps.los r
theorem Reps.los : ∀ {ds : List D} {vs : List V}, Reps K L G ds vs → D.los L.length ds = true
  | [], _, _ => by simp only [D.los]
  | d :: ds, _, h => by
    simp only [Reps] at h
    obtain ⟨v, r, e, h1, h2⟩ := h
    simp only [D.los, Bool.and_eq_true]
    exact ⟨Rep.lo h1, Reps.los h2⟩
end
theorem MAt.lo {a : Addr} {m : M} (h : MAt K L G H a m) : m.lo L.length = true := by
  cases m with
  | lst ds => obtain ⟨vs, e, r⟩ := h; exact r.los
  | ins C ns ds => obtain ⟨dx, vs, e, z, r⟩ := h; exact r.los
  | gone => rfl
  | box => rfl
theorem Ok.lo {μ : List M} (h : Ok K L G H μ) {i : Nat} {m : M} (e : μ[i]? = some m) : m.lo μ.length = true := by
  have hi : i < L.length := by rw [h.len]; exact (List.getElem?_eq_some_iff.mp e).1
  have := (h.at_ i L[i] m (List.getElem?_eq_getElem hi) e).lo
  rw [h.len] at this
  exact this
end
/-- what the store holds behind a call has no places that the call has made -/
def Lows (μ μ2 : List M) : Prop := μ2.length = μ.length ∧ ∀ (i : Nat) m, μ2[i]? = some m → μ[i]? = some m ∨ m.lo μ.length = true
theorem Lows.refl (μ : List M) : Lows μ μ := ⟨rfl, fun _ _ e => .inl e⟩
theorem Lows.set (μ : List M) (i : Nat) {m : M} (h : m.lo μ.length = true) : Lows μ (μ.set i m) := ⟨by simp, fun j x e => by
  by_cases hj : i = j
  · subst hj
    by_cases hi : i < μ.length
    · rw [List.getElem?_set_self hi] at e
      cases e
      exact .inr h
    · rw [List.getElem?_eq_none (by simpa using hi)] at e
      cases e
  · rw [List.getElem?_set_ne hj] at e
    exact .inl e⟩
theorem Lows.all {K : PySem.W.Frag} {L : List Addr} {G H : Hp} {μ μ2 : List M} (l : Lows μ μ2) (o : Ok K L G H μ) : μ2.all (M.lo μ2.length) = true := by
  rw [List.all_eq_true]
  intro m hm
  obtain ⟨i, hi⟩ := List.mem_iff_getElem?.mp hm
  rw [l.1]
  rcases l.2 i m hi with e | e
  · exact o.lo e
  · exact e

/-! ### a def's promise -/
abbrev Rl := List D → List M → FO → Prop
def Got (K : PySem.W.Frag) (L : List Addr) (G H : Hp) (Q : VK) (E : XK) : FO → Prop
  | .ret d μ' => Comes K L G H d μ' Q
  | .exc C ns ds' μ' => ComesX K L G H C ns ds' μ' E
def spR (K : PySem.W.Frag) (R : Rl) : Sp := fun vs H Q E => ∃ L G ds μ o, Ok K L G H μ ∧ Reps K L G ds vs ∧ R ds μ o ∧ Got K L G H Q E o
/-- how a body's end is the def's end (μ: the store at the entry) -/
inductive Leads (μ : List M) : FO → Out → Prop
  | ret0 {d : D} {μ2 : List M} : Leads μ (.ret d μ2) (.ret d μ2)
  | next0 {ρ : Env'} {μ2 : List M} : Leads μ (.ret .non μ2) (.next ρ μ2)
  | exc0 {C : Addr} {ns : List Str} {ds : List D} {ρ : Env'} {μ2 : List M} : Leads μ (.exc C ns ds μ2) (.exc C ns ds ρ μ2)
  | ret {d : D} {μ2 ν : List M} : Lows μ μ2 → D.lo μ.length d = true → Leads μ (.ret d μ2) (.ret d (μ2 ++ ν))
  | next {ρ : Env'} {μ2 ν : List M} : Lows μ μ2 → Leads μ (.ret .non μ2) (.next ρ (μ2 ++ ν))
  | exc {C : Addr} {ns : List Str} {ds : List D} {ρ : Env'} {μ2 ν : List M} : Lows μ μ2 → D.los μ.length ds = true → Leads μ (.exc C ns ds μ2) (.exc C ns ds ρ (μ2 ++ ν))
  /-- a list of its own is handed back: nobody else has it -/
  | retL {ds : List D} {μ2 ν : List M} {n : Nat} : Lows μ μ2 → D.los μ.length ds = true → μ.length ≤ n → (μ2 ++ ν)[n]? = some (.lst ds) → Leads μ (.ret (.lst ds) μ2) (.ret (.loc n) (μ2 ++ ν))
def startD (N : List Str) (ds : List D) : Env' := ds.map some ++ List.replicate (N.length - ds.length) none
theorem start_rep {K : PySem.W.Frag} {L : List Addr} {G : Hp} {N : List Str} {ds : List D} {vs : List V} (r : Reps K L G ds vs) : RepS K L G (startD N ds) (start N vs) := by
  have hl := r.length
  refine ⟨by simp [startD, L2.start, hl], fun i d e => ?_⟩
  unfold startD at e
  unfold L2.start
  by_cases hi : i < ds.length
  · rw [List.getElem?_append_left (by simpa using hi)] at e
    rw [List.getElem?_append_left (by simpa [hl] using hi)]
    rw [List.getElem?_map] at e ⊢
    cases q : ds[i]? with
    | none => rw [q] at e; cases e
    | some x =>
      rw [q] at e
      simp only [Option.map_some, Option.some.injEq] at e
      subst e
      obtain ⟨v, h1, h2⟩ := r.get q
      exact ⟨v, by rw [h1]; rfl, h2⟩
  · rw [List.getElem?_append_right (by simpa using hi)] at e
    rw [List.getElem?_replicate] at e
    split at e <;> cases e
section
variable {P : Program} {w : World} {K : PySem.W.Frag} {mg : Str → Option Value} {base : Heap}
theorem xd_cut {L L' : List Addr} {G H : Hp} {dx : Option Addr} {ns : List Str} {ds : List D} {n : Nat} (x : XdAt K L G H dx ns ds) (h : D.los n ds = true) : XdAt K (L.take n) G H dx ns ds := by
  refine ⟨x.1, ?_⟩
  rcases x.2 with z | ⟨a, vs, e1, e2, r⟩
  · exact .inl z
  · exact .inr ⟨a, vs, e1, e2, r.cut h⟩
/-- the end of a body as its caller sees it -/
theorem leads_post {L : List Addr} {G H : Hp} {μ : List M} {o : FO} {q : Out} {Q : VK} {E : XK} (h : Leads μ o q) (ok : Ok K L G H μ)
    (c : Got K L G H Q E o) : Post (fun c d _ H => E c d H) K L G H { nx := fun _ H' => Q .non H', rt := Q } q := by
  have cut : ∀ {μ2 : List M}, Lows μ μ2 → ∀ {L' : List Addr} {G' H' : Hp} {ν : List M}, Step L G H L' G' H' → Ok K L' G' H' (μ2 ++ ν) → Step L G H (L'.take μ2.length) G' H' ∧ Ok K (L'.take μ2.length) G' H' μ2 := by
    intro μ2 l L' G' H' ν s o
    exact ⟨s.cut (by rw [ok.len, l.1]; exact Nat.le_refl _), o.cut (l.all ok)⟩
  cases h with
  | ret0 => exact c
  | next0 => exact fun σ' L' G' H' s n => c _ L' G' H' s n.ok (rep_non.mpr rfl)
  | exc0 => exact fun σ' dx L' G' H' s n x => c dx L' G' H' s n.ok x
  | ret l hd =>
    intro v L' G' H' s o' r
    obtain ⟨s', o''⟩ := cut l s o'
    exact c v _ G' H' s' o'' (r.cut (by rw [l.1]; exact hd))
  | next l =>
    intro σ' L' G' H' s n
    obtain ⟨s', o''⟩ := cut l s n.ok
    exact c _ _ G' H' s' o'' (rep_non.mpr rfl)
  | exc l hd =>
    intro σ' dx L' G' H' s n x
    obtain ⟨s', o''⟩ := cut l s n.ok
    exact c dx _ G' H' s' o'' (xd_cut (L' := L') x (by rw [l.1]; exact hd))
  | retL l hd hn he =>
    rename_i ds μ2 ν n
    intro v L' G' H' s o' r
    obtain ⟨s', o''⟩ := cut l s o'
    obtain ⟨a, ea, ev⟩ := rep_loc.mp r
    obtain ⟨vs, eh, rv⟩ := o'.at_ n a _ ea he
    have hna : a ∉ L'.take μ2.length := fun z => by
      obtain ⟨j, hj, ej⟩ := List.getElem_of_mem z
      rw [List.length_take] at hj
      rw [List.getElem_take] at ej
      obtain ⟨h1, h2⟩ := List.getElem?_eq_some_iff.mp ea
      have := (List.getElem_inj o'.nd).mp (ej.trans h2.symm)
      rw [l.1] at hj
      omega
    obtain ⟨o3, sg⟩ := o''.tell (p := a) (o := .lst vs) eh hna
    have h0 : H a = none := by
      rcases s.fr a (List.mem_of_getElem? ea) with z | z
      · obtain ⟨j, hj, ej⟩ := List.getElem_of_mem z
        have e1 := s.pre j a (by rw [List.getElem?_eq_getElem hj, ej])
        obtain ⟨h1, h2⟩ := List.getElem?_eq_some_iff.mp ea
        obtain ⟨h3, h4⟩ := List.getElem?_eq_some_iff.mp e1
        have := (List.getElem_inj o'.nd).mp (h4.trans h2.symm)
        rw [ok.len] at hj
        omega
      · exact z
    refine c v _ _ H' (s'.tell h0 sg) o3 (rep_lst.mpr ⟨a, vs, ev, upd_same, ?_⟩)
    exact ((rv.cut (n := μ2.length) (by rw [l.1]; exact hd)).mono (.refl _) sg)
/-- a def keeps its promise, where no text of a container is being made -/
structure FnG (P : Program) (w : World) (K : PySem.W.Frag) (mg : Str → Option Value) (base : Heap) (k : Nat) (f : Addr) (fd : FuncData) (ps : List Str) (sp : Sp) : Prop where
  len : ∀ vs H Q E, sp vs H Q E → vs.length = ps.length
  run : ∀ (A : Around) (outer : List Env) (s : Shared) (H : Hp) (args : Args) (us : List Value) (vs : List V) (Q : VK) (E : XK), Room k A → Gr k A → Env0 P w K mg base A outer s H → BindsTo s fd args (ps.zip us) → Vals vs us → sp vs H Q E →
    codeAny (model P w) A (.call (.ref f) args) (CR (L2.CX P w) outer P w H s Q E) s
/-- a def of the text as it stands behind the top; dvs: its defaults -/
abbrev FunS (K : PySem.W.Frag) (x qual : Str) (st : Stmt) (dvs : List V) (f : Addr) (fd : FuncData) : Prop := FunD K x qual (defArgs st) (defBody st) (defScope st) dvs [] f fd
/-- THE RULE for a def -/
theorem fnR {x qual : Str} {st : Stmt} {dvs : List V} {f : Addr} {fd : FuncData} {N ps : List Str} {k : Nat} {R : Rl} (F : FunS K x qual st dvs f fd) (S : FnScope N ps (defScope st)) (len : ∀ ds μ o, R ds μ o → ds.length = ps.length)
    (body : ∀ (cdv : Value) (A : Around) (outer : List Env) (s : Shared) (H : Hp) (E : XK), Gd (cxOf (L2.CX P w) P w K mg base N qual (defScope st) f cdv A outer s H E) (fun c d _ H => E c d H) k →
      ∀ ds μ o, R ds μ o → ∃ q, Leads μ o q ∧ PSs (cxOf (L2.CX P w) P w K mg base N qual (defScope st) f cdv A outer s H E) (defBody st) (tS (fun c d _ H => E c d H) K (startD N ds) μ q)) :
    FnG P w K mg base (k + 1) f fd ps (spR K R) := by
  have ln : ∀ vs H Q E, spR K R vs H Q E → vs.length = ps.length := fun vs H Q E ⟨L, G, ds, μ, o, _, r, hR, _⟩ => r.length.trans (len ds μ o hR)
  refine ⟨ln, fun A outer s H args us vs Q E room gr en bnd rel hsp => ?_⟩
  obtain ⟨oc, od, dV, kV, doc, pm, an, cdv, ct, osl, rfl, look, hcode, _, _⟩ := F.ex
  have kept : ∀ b o, base.get? b = some o → s.heap.get? b = some o := fun b o e => (en.bs b o e).1
  have kin : K.In s.heap := en.mod.kin.keeps kept
  have kinds : ∀ y ∈ ps.zip us, (defScope st).names.lookup y.1 = some .local ∨ ((defScope st).names.lookup y.1 = some .cell ∧ ((cellsFrom (s.heap.objs.size + 1) (defScope st).names []).lookup y.1).isSome = true) := by
    rintro ⟨n, v⟩ hy
    exact (S.par n (List.of_mem_zip hy).1).imp (fun q => q) fun q => ⟨q, PySem.W.cellsFrom_some _ _ _ (.inl q)⟩
  refine codeAny_call_function room.depth (kin _ _ look) rfl S.co S.gen rfl (PySem.W.codeRec_of kin hcode) (bnd _ _ _ _ (wpAny_newFunctionEnv_cells S.kind kinds fun env he s1 ent => ?_))
  subst he
  refine ⟨(en.mod.nolimit.keeps kept).keeps ent.toInCall.keep, codeAny_func ?_⟩
  have hlen := ln _ _ _ _ hsp
  obtain ⟨L, G, ds, μ, o, ok, rr, hR, c⟩ := hsp
  obtain ⟨q, hlq, ht⟩ := body cdv A outer s H E ⟨rfl, S.nd, takes_of rfl rfl rfl rfl, passes_of rfl, room.deeper _, gr.mono (Nat.le_succ _)⟩ ds μ o hR
  have inv : Inv (cxOf (L2.CX P w) P w K mg base N qual (defScope st) f cdv A outer s H E) [] (L2.start N vs) H s1 := inv_start S room.hd en hlen rel ent
  refine wpAny_mono (ht.run [] s1 (L2.start N vs) H { nx := fun _ H' => Q .non H', rt := Q } inv ⟨L, G, ⟨ok, start_rep rr⟩, leads_post hlq ok c⟩) (fun fl s' hs => ?_) fun e s' hs => hs
  match fl, hs with
  | .ret u, ⟨v, σ', H', J, rv, q⟩ => exact ⟨v, H', J.os, J.bare, J.base, J.hok, rv, q⟩
  | .next, ⟨σ', H', J, q⟩ => exact ⟨.non, H', J.os, J.bare, J.base, J.hok, rfl, q⟩
  | .brk, ⟨_, _, _, q⟩ => exact q.elim
  | .cont, ⟨_, _, _, q⟩ => exact q.elim
theorem FunD.plain {x qual : Str} {st : Stmt} {f : Addr} {fd : FuncData} (F : FunS K x qual st [] f fd) : Fun K x qual st f fd := by
  obtain ⟨oc, od, dV, kV, doc, pm, an, cdv, ct, osl, e, look, hcode, hD, _⟩ := F.ex
  rcases hD with ⟨_, rfl⟩ | ⟨z, _⟩
  · exact ⟨⟨oc, od, kV, doc, pm, an, cdv, ct, osl, e, look, hcode⟩, F.kp⟩
  · exact (z rfl).elim
theorem funS_mk {x qual : Str} {st : Stmt} {f : Addr} {oc : Value} {od an : Option Addr} {osl : Array (Option Value)} {kV doc pm cdv ct : Value} (l : K.lookup f = some ⟨oc, od, .func (PySem.W.fnOf x qual (defArgs st) (defBody st) (defScope st) .none kV doc pm an cdv ct), osl⟩)
    (c : PySem.W.codeIn K cdv qual = true) (k : PySem.W.keepIn K (.ref f) = true) : FunS K x qual st [] f (PySem.W.fnOf x qual (defArgs st) (defBody st) (defScope st) .none kV doc pm an cdv ct) :=
  ⟨⟨oc, od, .none, kV, doc, pm, an, cdv, ct, osl, rfl, l, c, .inl ⟨rfl, rfl⟩, .inl rfl⟩, k⟩
end

/-! ### calls -/
/-- a def that may be called -/
structure Cal (P : Program) (w : World) (K : PySem.W.Frag) (mg : Str → Option Value) (base : Heap) (k : Nat) (ps : List Str) (R : Rl) (f : Addr) (fd : FuncData) : Prop where
  ok : FnG P w K mg base k f fd ps (spR K R)
  bd : Binds K fd ps []
section
variable {X : Cx} {W : WX} {k j : Nat} {ps : List Str} {R : Rl} {f C : Addr} {fd : FuncData} {ds : List D} {μ μ1 μ2 : List M} {o : FO} {e : Expr} {es : List Expr} {x m : Str} {p pos apos : Pos} {ρ : Env'} {d : D}
theorem CO.sp {σ : St} {H : Hp} {Q : VK} {L : List Addr} {G : Hp} {vs : List V} (hR : R ds μ o) (ok : Ok X.K L G H μ) (r : Reps X.K L G ds vs) (c : CO W X.K L G H σ o Q) : spR X.K R vs H Q (WE W σ) :=
  ⟨L, G, ds, μ, o, ok, r, hR, by
    cases o with
    | ret d μ' => exact c
    | exc C ns ds' μ' => exact c⟩
theorem run_fnG {pins : List (Addr × Obj)} {σ : St} {H : Hp} {s : Shared} {Q : VK} {us us' : List Value} {kw : List (Str × Value)} {vs : List V} {sp : Sp} {E : XK} (F : FnG X.prog X.w X.K X.mg X.base j f fd ps sp) (hr : Room j X.A) (gr : Gr j X.A) (hb : BindsTo s fd ⟨us', kw⟩ (ps.zip us)) (hx : PassesAt (L2.CX X.prog X.w) X σ E)
    (I : Inv X pins σ H s) (r : Vals vs us) (h : sp vs H Q E) : wpAny (model X.prog X.w) X.A (call (.ref f) us' kw) (EP X pins σ Q) X.xe s := by
  refine wpAny_call (codeAny_mono (F.run X.A X.stack s H ⟨us', kw⟩ us vs Q E hr gr I.env0 hb r h) fun r s' hq => ?_)
  cases r with
  | error e => exact hx pins H s e s' I hq
  | ok fl =>
    cases fl with
    | ret u => exact I.after hq
    | next => exact False.elim hq
    | brk => exact False.elim hq
    | cont => exact False.elim hq
/-- by values -/
theorem Cal.run (c : Cal X.prog X.w X.K X.mg X.base j ps R f fd) (g : Gd X W k) (hj : j ≤ k) (hR : R ds μ o) : CallO X W (fun us => call (.ref f) us) ds μ o :=
  fun pins s σ H xs us Q L G I rx ok r co => by
    have hsp := CO.sp hR ok r co
    have hl : us.length = ps.length := by rw [← rx.length]; exact c.ok.len _ _ _ _ hsp
    have b := c.bd s us I.kIn (by rw [List.append_nil]; exact hl)
    rw [List.append_nil] at b
    exact run_fnG (E := WE W σ) c.ok (g.hr.mono hj) (g.gr.mono hj) b (passAt g.tk σ) I rx hsp
theorem argsO {f : List Value → Sem Value} (ha : PA X es (tVA X.K ρ μ ds μ1)) (hf : CallO X W f ds μ1 o) {pins : List (Addr × Obj)} {s : Shared} {σ : St} {H : Hp} {Q : VK} (I : Inv X pins σ H s) (h : tO W X.K ρ μ o σ H Q) (pos : Pos) :
    wpAny (model X.prog X.w) X.A (spliced (backTo pos (starEach es X.env))) (fun us s1 => X.K.In s1.heap ∧ wpAny (model X.prog X.w) X.A (f us) (EP X pins σ Q) X.xe s1) X.xe s := by
  obtain ⟨L, G, n, c⟩ := h
  refine thn (ha.run pos pins s σ H (fun vs H1 => ∃ L1 G1, Ok X.K L1 G1 H1 μ1 ∧ Reps X.K L1 G1 ds vs ∧ CO W X.K L1 G1 H1 σ o Q) I ⟨L, G, n, fun vs L1 G1 H1 s1 o1 r1 => ⟨L1, G1, o1, r1, CO.step c s1⟩⟩) fun us s1 ⟨vs, H1, I1, r1, L1, G1, o1, rr, c1⟩ => ⟨I1.kIn, ?_⟩
  exact hf pins s1 σ H1 vs us Q L1 G1 I1 r1 o1 rr c1
/-- f(e, ..) -/
theorem ev_call (g : Gd X W k) (c : Cal X.prog X.w X.K X.mg X.base j ps R f fd) (hm : X.mg x = some (.ref f)) (hk : PySem.W.keepIn X.K (.ref f) = true) (ha : PA X (e :: es) (tVA X.K ρ μ ds μ1)) (hR : R ds μ1 o) (hj : j ≤ k := by decide) (hg : Gl X x := by rfl)
    (hdb : (x == ("__debug__" : Str)) = false := by decide) (he : starEach (e :: es) X.env = (false, eval e X.env) :: starEach es X.env := by rfl) (hpl : (backTo pos (starEach es X.env)).any (·.1) = false := by rfl) :
    PE X (.Call (.Name x p) (e :: es) [] pos) (tO W X.K ρ μ o) :=
  ⟨fun pins s σ H Q I h => wpAny_Call_Name_kw (ld_glob I hg hm (PySem.W.callWith_K (h₀ := X.base) I.ok.mod.kin hk (argsO ha (c.run g hj hR) I h pos) he hpl) hdb)⟩
/-! #### objects -/
/-- a field of an immutable object -/
def fldOf (ns : List Str) (ds : List D) (f : Str) : Option D := (ns.zip ds).lookup f
theorem fld_rep {K : PySem.W.Frag} {L : List Addr} {G : Hp} {f : Str} : ∀ {ns : List Str} {ds : List D} {vs : List V} {d : D}, Reps K L G ds vs → fldOf ns ds f = some d → ∃ v, (ns.zip vs).lookup f = some v ∧ Rep K L G d v
  | [], ds, vs, d, r, h => by simp [fldOf] at h
  | n :: ns, [], vs, d, r, h => by simp [fldOf] at h
  | n :: ns, c :: ds, vs, d, r, h => by
    obtain ⟨v, q, rfl, r1, r2⟩ := r.inv_cons
    unfold fldOf at h
    rw [List.zip_cons_cons] at h ⊢
    simp only [List.lookup] at h ⊢
    cases hf : f == n with
    | true =>
      simp only [hf, Option.some.injEq] at h ⊢
      subst h
      exact ⟨v, rfl, r1⟩
    | false =>
      simp only [hf] at h ⊢
      exact fld_rep r2 h
/-- o.f, o an immutable object -/
theorem ev_fld {ns : List Str} {fs : List D} (ho : PE X e (tV X.K ρ μ (.obj C ns fs) μ1)) (c : Cls X.K C) (n : NoAttr X.K C m) (h : fldOf ns fs m = some d) (hb : attributeBase e m X.env (eval e X.env) = eval e X.env := by rfl) : PE X (.Attribute e m pos) (tV X.K ρ μ d μ1) :=
  pe_of (pe_fld ho hb) fun σ H Q ⟨L, G, nw, co⟩ => ⟨L, G, nw, fun v L1 G1 H1 s1 o1 r1 => by
    obtain ⟨a, dx, vs, ev, eg, _, rr⟩ := rep_obj.mp r1
    obtain ⟨u, l, ru⟩ := fld_rep rr h
    exact ⟨a, C, dx, _, u, ev, o1.sub _ _ eg, c, n, l, co u L1 G1 H1 s1 o1 ru⟩⟩
theorem zip_lookup_none {α β : Type} {f : Str} : ∀ {ns : List Str} {vs : List α} {ds : List β}, vs.length = ds.length → (ns.zip ds).lookup f = none → (ns.zip vs).lookup f = none
  | [], _, _, _, _ => rfl
  | n :: ns, [], _, _, _ => rfl
  | n :: ns, v :: vs, [], h, _ => by simp at h
  | n :: ns, v :: vs, d :: ds, h, e => by
    rw [List.zip_cons_cons] at e ⊢
    simp only [List.lookup] at e ⊢
    cases hf : f == n with
    | true => simp [hf] at e
    | false =>
      simp only [hf] at e ⊢
      exact zip_lookup_none (by simpa using h) e
/-- what is asked of the receiver of a method -/
inductive Recv (C : Addr) (m : Str) (μ : List M) : D → Prop
  | obj {ns : List Str} {fs : List D} : fldOf ns fs m = none → Recv C m μ (.obj C ns fs)
  | loc {ns : List Str} {fs : List D} {i : Nat} : μ[i]? = some (.ins C ns fs) → fldOf ns fs m = none → Recv C m μ (.loc i)
theorem Recv.at_ {L : List Addr} {G H : Hp} {v : V} (r : Recv C m μ d) (ok : Ok X.K L G H μ) (rd : Rep X.K L G d v) : ∃ a dx fs, v = .ref a ∧ H a = some (.ins C dx fs) ∧ fs.lookup m = none := by
  cases r with
  | obj h =>
    obtain ⟨a, dx, vs, ev, eg, _, rr⟩ := rep_obj.mp rd
    exact ⟨a, dx, _, ev, ok.sub _ _ eg, zip_lookup_none rr.length h⟩
  | loc hi h =>
    obtain ⟨a, ea, ev⟩ := rep_loc.mp rd
    obtain ⟨dx, vs, eh, _, rr⟩ := ok.at_ _ a _ ea hi
    exact ⟨a, dx, _, ev, eh, zip_lookup_none rr.length h⟩
end
end PM
set_option Elab.async false
set_option linter.all false
set_option maxRecDepth 100000
namespace PM
open PySem L2

/-! ### making an object -/
section
variable {X : Cx} {W : WX} {k j : Nat} {ps : List Str} {R : Rl} {f C : Addr} {fd : FuncData} {ds : List D} {μ μ1 μ2 : List M} {o : FO} {e : Expr} {es : List Expr} {x m : Str} {p pos apos : Pos} {ρ : Env'} {d : D}
/-- C(..) by what __init__ does: the new thing is the last of the store -/
inductive MakeR (R : Rl) (C : Addr) (ds : List D) (μ : List M) : FO → Prop
  | obj {ns : List Str} {fs : List D} {μ2 : List M} : R (.loc μ.length :: ds) (μ ++ [.ins C [] []]) (.ret .non (μ2 ++ [.ins C ns fs])) → Lows μ μ2 → ns.length = fs.length → D.los μ.length fs = true → MakeR R C ds μ (.ret (.obj C ns fs) μ2)
  | loc {ns : List Str} {fs : List D} {μ2 : List M} : R (.loc μ.length :: ds) (μ ++ [.ins C [] []]) (.ret .non (μ2 ++ [.ins C ns fs])) → μ2.length = μ.length → MakeR R C ds μ (.ret (.loc μ.length) (μ2 ++ [.ins C ns fs]))
  | exc {C' : Addr} {ns : List Str} {fs : List D} {μ2 : List M} {m : M} : R (.loc μ.length :: ds) (μ ++ [.ins C [] []]) (.exc C' ns fs (μ2 ++ [m])) → Lows μ μ2 → D.los μ.length fs = true → MakeR R C ds μ (.exc C' ns fs μ2)
theorem run_makeS {sp : Sp} {dvs : List V} {dvl : List Value} {E : XK} {pins : List (Addr × Obj)} {σ : St} {H : Hp} {s : Shared} {Q : VK} {us : List Value} {vs : List V} (Mk : Mk X.K C f) (F : FnG X.prog X.w X.K X.mg X.base k f fd ps sp) (hr : Room (k + 1) X.A) (gr : Gr (k + 1) X.A) (hb : Binds X.K fd ps dvl) (hd : Vals dvs dvl)
    (hx : PassesAt (L2.CX X.prog X.w) X σ E) (I : Inv X pins σ H s) (r : Vals vs us)
    (h : ∀ x dx, H x = none → H dx = none → dx ≠ x → sp (.ref x :: (vs ++ dvs)) (upd (upd H dx (.own x)) x (.ins C dx [])) (fun v H2 => v = .non ∧ Q (.ref x) H2) E) :
    wpAny (model X.prog X.w) X.A (call (.ref C) us) (EP X pins σ Q) X.xe s := by
  have hq := h (s.heap.objs.size + 1) s.heap.objs.size (I.hok.fresh (Nat.le_succ _)) (I.hok.fresh (Nat.le_refl _)) (Nat.ne_of_lt (Nat.lt_succ_self _))
  have I2 := Inv.made (C := C) I
  have r2 : Vals (V.ref (s.heap.objs.size + 1) :: (vs ++ dvs)) (Value.ref (s.heap.objs.size + 1) :: (us ++ dvl)) := .cons rfl (r.append hd)
  have hl : (Value.ref (s.heap.objs.size + 1) :: us ++ dvl).length = ps.length := by
    have e := r2.length
    rw [F.len _ _ _ _ hq] at e
    exact e.symm
  refine wpAny_call (make_map (f := f) I.kIn Mk.makes Mk.init (beq_iff_eq.mp Mk.fn) (codeAny_mono (F.run _ X.stack _ _ ⟨Value.ref (s.heap.objs.size + 1) :: us, []⟩ (Value.ref (s.heap.objs.size + 1) :: (us ++ dvl)) _ _ E (hr.make C us []) (by obtain ⟨g0, e0, z0⟩ := gr; exact ⟨g0, by first | exact e0 | (simpa [Around.under, Code.guards, Code.isGuard, pushGuards, guardIds] using e0), fun q => z0 (by omega)⟩)
    (I2.env0.make C us []) (hb _ (Value.ref (s.heap.objs.size + 1) :: us) I2.kIn hl) r2 hq) fun r s' hq' => ?_))
  cases r with
  | error e => exact hx pins _ _ e s' I2 hq'
  | ok fl =>
    cases fl with
    | ret u =>
      obtain ⟨v, H', I3, rv, ev, q3⟩ := I2.after hq'
      subst ev
      exact ⟨rv, ⟨V.ref (s.heap.objs.size + 1), H', I3, rfl, q3⟩⟩
    | next => exact False.elim hq'
    | brk => exact False.elim hq'
    | cont => exact False.elim hq'
/-- the new instance in the store -/
theorem Ok.made {K : PySem.W.Frag} {L : List Addr} {G H : Hp} {a dx : Addr} (ok : Ok K L G H μ) (h1 : H a = none) (h2 : H dx = none) (ne : dx ≠ a) :
    Ok K (L ++ [a]) G (upd (upd H dx (.own a)) a (.ins C dx [])) (μ ++ [.ins C [] []]) ∧ Step L G H (L ++ [a]) G (upd (upd H dx (.own a)) a (.ins C dx [])) := by
  obtain ⟨o1, s1⟩ := ok.newH (o := .own a) h2
  have h1' : upd H dx (.own a) a = none := by rw [upd_ne (Ne.symm ne)]; exact h1
  obtain ⟨o2, s2⟩ := o1.alloc (o := .ins C dx []) (m := .ins C [] []) h1' ⟨dx, [], upd_same, rfl, Reps.nil⟩
  exact ⟨o2, s1.trans s2⟩
theorem last_get {α : Type} (l : List α) (x : α) : (l ++ [x])[l.length]? = some x := by simp
theorem makeO {dvs : List V} {dvl : List Value} {dds : List D} (Mk : Mk X.K C f) (F : FnG X.prog X.w X.K X.mg X.base j f fd ps (spR X.K R)) (hb : Binds X.K fd ps dvl) (hd : Vals dvs dvl) (hdd : ∀ L G, Reps X.K L G dds dvs) (g : Gd X W k) (hj : j + 1 ≤ k) (hR : MakeR R C (ds ++ dds) μ o) :
    CallO X W (fun us => call (.ref C) us) ds μ o := by
  intro pins s σ H xs us Q L G I rx ok r co
  refine run_makeS (E := WE W σ) Mk F (g.hr.mono hj) (g.gr.mono hj) hb hd (passAt g.tk σ) I rx fun a dx h1 h2 ne => ?_
  obtain ⟨o2, s2⟩ := ok.made (C := C) h1 h2 ne
  have la : (L ++ [a])[μ.length]? = some a := by rw [← ok.len]; exact last_get L a
  have rr : Reps X.K (L ++ [a]) G (.loc μ.length :: (ds ++ dds)) (.ref a :: (xs ++ dvs)) := Reps.cons (rep_loc.mpr ⟨a, la, rfl⟩) ((r.step s2).append (hdd _ _))
  cases hR with
  | obj h l hl hfs =>
    rename_i ns fs μ2
    refine ⟨_, _, _, _, _, o2, rr, h, fun v L3 G3 H3 s3 o3 r3 => ⟨rep_non.mp r3, ?_⟩⟩
    have s13 := s2.trans s3
    have hlen : μ2.length = μ.length := l.1
    have la3 : L3[μ2.length]? = some a := by rw [hlen]; exact s3.pre _ _ la
    obtain ⟨dx', vs', eh, _, rv⟩ := o3.at_ μ2.length a _ la3 (last_get μ2 _)
    have o4 : Ok X.K (L3.take μ2.length) G3 H3 μ2 := o3.cut (l.all ok)
    have s4 : Step L G H (L3.take μ2.length) G3 H3 := s13.cut (by rw [ok.len, hlen]; exact Nat.le_refl _)
    have hna : a ∉ L3.take μ2.length := fun z => by
      obtain ⟨i, hi, ei⟩ := List.getElem_of_mem z
      rw [List.length_take] at hi
      rw [List.getElem_take] at ei
      obtain ⟨g1, g2⟩ := List.getElem?_eq_some_iff.mp la3
      have := (List.getElem_inj o3.nd).mp (ei.trans g2.symm)
      omega
    obtain ⟨o5, sg⟩ := o4.tell (p := a) (o := .ins C dx' (ns.zip vs')) eh hna
    exact co _ _ _ H3 (s4.tell h1 sg) o5 (rep_obj.mpr ⟨a, dx', vs', rfl, upd_same, hl, (rv.cut (n := μ2.length) (by rw [hlen]; exact hfs)).mono (.refl _) sg⟩)
  | loc h hl =>
    refine ⟨_, _, _, _, _, o2, rr, h, fun v L3 G3 H3 s3 o3 r3 => ⟨rep_non.mp r3, ?_⟩⟩
    exact co _ L3 G3 H3 (s2.trans s3) o3 (rep_loc.mpr ⟨a, s3.pre _ _ la, rfl⟩)
  | exc h l hfs =>
    rename_i C' ns fs μ2 m
    refine ⟨_, _, _, _, _, o2, rr, h, fun dx' L3 G3 H3 s3 o3 x3 => ?_⟩
    have hlen : μ2.length = μ.length := l.1
    exact co dx' _ G3 H3 ((s2.trans s3).cut (n := μ2.length) (by rw [ok.len, hlen]; exact Nat.le_refl _)) (o3.cut (l.all ok)) (xd_cut (L' := L3) x3 (by rw [hlen]; exact hfs))
/-- a class that may be made -/
structure Mak (P : Program) (w : World) (K : PySem.W.Frag) (mg : Str → Option Value) (base : Heap) (k : Nat) (ps : List Str) (R : Rl) (C f : Addr) (fd : FuncData) : Prop where
  mak : Mk K C f
  ok : FnG P w K mg base k f fd ps (spR K R)
/-- C(e, ..), every parameter given -/
theorem ev_make (g : Gd X W k) (c : Mak X.prog X.w X.K X.mg X.base j ps R C f fd) (hb : Binds X.K fd ps []) (hm : X.mg x = some (.ref C)) (ha : PA X (e :: es) (tVA X.K ρ μ ds μ1)) (hR : MakeR R C ds μ1 o) (hj : j + 1 ≤ k := by decide) (hg : Gl X x := by rfl)
    (hdb : (x == ("__debug__" : Str)) = false := by decide) (he : starEach (e :: es) X.env = (false, eval e X.env) :: starEach es X.env := by rfl) (hpl : (backTo pos (starEach es X.env)).any (·.1) = false := by rfl) :
    PE X (.Call (.Name x p) (e :: es) [] pos) (tO W X.K ρ μ o) :=
  ⟨fun pins s σ H Q I h => wpAny_Call_Name_kw (ld_glob I hg hm (PySem.W.callWith_K (h₀ := X.base) I.ok.mod.kin c.mak.kp (argsO ha (makeO (dvs := []) (dds := []) c.mak c.ok hb .nil (fun _ _ => Reps.nil) g hj (by rw [List.append_nil]; exact hR)) I h pos) he hpl) hdb)⟩
/-- C(e, ..), defaults filled up -/
theorem ev_makeD {dvs : List V} {dvl : List Value} {dds : List D} (g : Gd X W k) (c : Mak X.prog X.w X.K X.mg X.base j ps R C f fd) (hb : Binds X.K fd ps dvl) (hd : Vals dvs dvl) (hdd : ∀ L G, Reps X.K L G dds dvs) (hm : X.mg x = some (.ref C)) (ha : PA X (e :: es) (tVA X.K ρ μ ds μ1)) (hR : MakeR R C (ds ++ dds) μ1 o) (hj : j + 1 ≤ k := by decide) (hg : Gl X x := by rfl)
    (hdb : (x == ("__debug__" : Str)) = false := by decide) (he : starEach (e :: es) X.env = (false, eval e X.env) :: starEach es X.env := by rfl) (hpl : (backTo pos (starEach es X.env)).any (·.1) = false := by rfl) :
    PE X (.Call (.Name x p) (e :: es) [] pos) (tO W X.K ρ μ o) :=
  ⟨fun pins s σ H Q I h => wpAny_Call_Name_kw (ld_glob I hg hm (PySem.W.callWith_K (h₀ := X.base) I.ok.mod.kin c.mak.kp (argsO ha (makeO c.mak c.ok hb hd hdd g hj hR) I h pos) he hpl) hdb)⟩
end

/-! ### fields stored -/
section
variable {X : Cx} {W : WX} {k : Nat} {e oe : Expr} {pos pos' : Pos} {ρ : Env'} {μ μ1 μ2 : List M} {d : D} {i : Nat} {C : Addr} {ns : List Str} {fs : List D} {f : Str}
/-- a field put among the others -/
def putN (f : Str) : List Str → List Str
  | [] => [f]
  | g :: r => if g = f then g :: r else g :: putN f r
def putD (f : Str) (d : D) : List Str → List D → List D
  | [], _ => [d]
  | _ :: _, [] => []
  | g :: r, x :: xs => if g = f then d :: xs else x :: putD f d r xs
theorem put_rep {K : PySem.W.Frag} {L : List Addr} {G : Hp} {v : V} (rv : Rep K L G d v) : ∀ {ns : List Str} {fs : List D} {vs : List V}, ns.length = fs.length → Reps K L G fs vs → ∃ vs', putF f v (ns.zip vs) = (putN f ns).zip vs' ∧ (putN f ns).length = (putD f d ns fs).length ∧ Reps K L G (putD f d ns fs) vs'
  | [], [], vs, _, r => ⟨[v], by simp [putF, putN], rfl, Reps.cons rv Reps.nil⟩
  | [], _ :: _, _, h, _ => by simp at h
  | _ :: _, [], _, h, _ => by simp at h
  | g :: ns, x :: fs, vs, h, r => by
    obtain ⟨u, q, rfl, r1, r2⟩ := r.inv_cons
    by_cases hg : g = f
    · refine ⟨v :: q, ?_, ?_, ?_⟩
      · simp [putF, putN, hg]
      · simp only [putN, putD, hg, if_true, List.length_cons]
        simpa using h
      · simp only [putD, hg, if_true]
        exact Reps.cons rv r2
    · obtain ⟨vs', e1, e2, e3⟩ := put_rep rv (by simpa using h) r2
      refine ⟨u :: vs', ?_, ?_, ?_⟩
      · simp [putF, putN, hg, e1]
      · simp only [putN, putD, hg, if_false, List.length_cons, e2]
      · simp only [putD, hg, if_false]
        exact Reps.cons r1 e3
/-- o.f = e, o a thing of the store -/
theorem es_fld (he : PE X e (tV X.K ρ μ d μ1)) (ho : PE X oe (tV X.K ρ μ1 (.loc i) μ2)) (hi : μ2[i]? = some (.ins C ns fs)) (c : Cls X.K C) (n : NoAttr X.K C f) (hl : ns.length < 1000 := by decide) (hs : swapsWith e (some (.Attribute oe f pos')) pos.line X.env = pure false := by rfl) :
    PS X (.Assign [.Attribute oe f pos'] e pos) (tS W X.K ρ μ (.next ρ (μ2.set i (.ins C (putN f ns) (putD f d ns fs))))) :=
  ps_of (ps_fld ho he hs) fun D σ H ⟨L, G, nw, co⟩ => ⟨L, G, nw, fun v L1 G1 H1 s1 o1 r1 => ⟨L1, G1, nw.step s1 o1, fun u L2 G2 H2 s2 o2 r2 => by
    obtain ⟨a, ea, ev⟩ := rep_loc.mp r2
    obtain ⟨dx, vs, eh, hl2, rr⟩ := o2.at_ i a _ ea hi
    obtain ⟨vs', e1, e2, e3⟩ := put_rep (r1.step s2) hl2 rr
    refine ⟨a, C, dx, _, ev, eh, c, n, ?_, ?_⟩
    · rw [List.length_zip]
      omega
    · obtain ⟨o3, s3⟩ := o2.write (o := .ins C dx (putF f v (ns.zip vs))) (m := .ins C (putN f ns) (putD f d ns fs)) ea ⟨dx, vs', by rw [upd_same, e1], e2, e3⟩
      exact co σ L2 G2 _ ((s1.trans s2).trans s3) ⟨o3, ((nw.env.step s1).step s2).step s3⟩⟩⟩
end
end PM
set_option Elab.async false
set_option linter.all false
set_option maxRecDepth 100000
namespace PM
open PySem L2
abbrev W0 : WX := fun _ _ _ _ => False

/-! ### ints -/
section
variable {X : Cx} {W : WX} {μ : List M} {i j : Int} {x y : Str} {a b : Bool}
theorem oo_int {f : Value → Value → Sem Value} {g : Int → Int → Int} (h : OpR X f (rI0 fun i j => .int (g i j))) : OpO X W f (.int i) (.int j) μ (.ret (.int (g i j)) μ) :=
  opO_of h fun σ x y H Q L G o r1 r2 c => ⟨i, j, rep_int.mp r1, rep_int.mp r2, CO.now (W := W) (σ := σ) c o (rep_int.mpr rfl)⟩
theorem oo_intC {f : Value → Value → Sem Value} {C : Int → Int → Prop} {g : Int → Int → Int} (h : OpR X f (rI C fun i j => .int (g i j))) (hc : C i j) : OpO X W f (.int i) (.int j) μ (.ret (.int (g i j)) μ) :=
  opO_of h fun σ x y H Q L G o r1 r2 c => ⟨i, j, rep_int.mp r1, rep_int.mp r2, hc, CO.now (W := W) (σ := σ) c o (rep_int.mpr rfl)⟩
theorem oo_intB {f : Value → Value → Sem Value} {g : Int → Int → Bool} (h : OpR X f (rI0 fun i j => .bl (g i j))) : OpO X W f (.int i) (.int j) μ (.ret (.bl (g i j)) μ) :=
  opO_of h fun σ x y H Q L G o r1 r2 c => ⟨i, j, rep_int.mp r1, rep_int.mp r2, CO.now (W := W) (σ := σ) c o (rep_bl.mpr rfl)⟩
theorem oo_add : OpO X W (binaryOp .Add) (.int i) (.int j) μ (.ret (.int (i + j)) μ) := oo_int op_add
theorem oo_sub : OpO X W (binaryOp .Sub) (.int i) (.int j) μ (.ret (.int (i - j)) μ) := oo_int op_sub
theorem oo_mul (h : CMulW i j) : OpO X W (binaryOp .Mult) (.int i) (.int j) μ (.ret (.int (i * j)) μ) := oo_intC op_mulW h
theorem oo_mulS (h : CMul i j) : OpO X W (binaryOp .Mult) (.int i) (.int j) μ (.ret (.int (i * j)) μ) := oo_intC op_mul h
theorem oo_fdiv (h : CDivW i j) : OpO X W (binaryOp .FloorDiv) (.int i) (.int j) μ (.ret (.int (i / j)) μ) := oo_intC op_fdivW h
theorem oo_fdivS (h : CDiv i j) : OpO X W (binaryOp .FloorDiv) (.int i) (.int j) μ (.ret (.int (i / j)) μ) := oo_intC op_fdiv h
theorem oo_mod (h : 0 < j) : OpO X W (binaryOp .Mod) (.int i) (.int j) μ (.ret (.int (i % j)) μ) := oo_intC op_mod h
theorem oo_pow (h : CPow i j) : OpO X W (binaryOp .Pow) (.int i) (.int j) μ (.ret (.int (i ^ j.toNat)) μ) := oo_intC op_pow h
theorem oc_lt : OpO X W (compareOp .Lt) (.int i) (.int j) μ (.ret (.bl (decide (i < j))) μ) := oo_intB op_lt
theorem oc_le : OpO X W (compareOp .LtE) (.int i) (.int j) μ (.ret (.bl (decide (i ≤ j))) μ) := oo_intB op_le
theorem oc_gt : OpO X W (compareOp .Gt) (.int i) (.int j) μ (.ret (.bl (decide (j < i))) μ) := oo_intB op_gt
theorem oc_ge : OpO X W (compareOp .GtE) (.int i) (.int j) μ (.ret (.bl (decide (j ≤ i))) μ) := oo_intB op_ge
theorem ou_neg : UnO X W (unaryOp .USub) (.int i) μ (.ret (.int (-i)) μ) := unO_of un_neg fun σ x H Q L G o r c => ⟨i, rep_int.mp r, CO.now (W := W) (σ := σ) c o (rep_int.mpr rfl)⟩
/-- == of scalars: as the layer's rule has it -/
def Sc : D → Option V
  | .non => some .non
  | .bl b => some (.bl b)
  | .int i => some (.int i)
  | .str x => some (.str x)
  | _ => none
theorem Sc.rep {K L G} {d : D} {v u : V} (h : Sc d = some v) (r : Rep K L G d u) : u = v := by
  cases d <;> simp only [Sc, Option.some.injEq] at h <;> first | cases h | skip
  · exact rep_non.mp r
  · exact (rep_bl.mp r)
  · exact (rep_int.mp r)
  · exact (rep_str.mp r)
theorem oc_eqS {da db : D} {v u : V} (h1 : Sc da = some v) (h2 : Sc db = some u) (hs : scal v u = true := by rfl) : OpO X W (compareOp .Eq) da db μ (.ret (.bl (decide (v = u))) μ) :=
  opO_of op_eq fun σ x y H Q L G o r1 r2 c => by
    obtain rfl := Sc.rep h1 r1
    obtain rfl := Sc.rep h2 r2
    exact ⟨hs, CO.now (W := W) (σ := σ) c o (rep_bl.mpr rfl)⟩
theorem oc_neS {da db : D} {v u : V} (h1 : Sc da = some v) (h2 : Sc db = some u) (hs : scal v u = true := by rfl) : OpO X W (compareOp .NotEq) da db μ (.ret (.bl (!decide (v = u))) μ) :=
  opO_of op_ne fun σ x y H Q L G o r1 r2 c => by
    obtain rfl := Sc.rep h1 r1
    obtain rfl := Sc.rep h2 r2
    exact ⟨hs, CO.now (W := W) (σ := σ) c o (rep_bl.mpr rfl)⟩
theorem dec_int_eq (i j : Int) : decide (V.int i = V.int j) = decide (i = j) := by
  by_cases h : i = j
  · subst h; simp
  · rw [decide_eq_false h, decide_eq_false (fun z => h (by cases z; rfl))]
theorem dec_str_eq (i j : Str) : decide (V.str i = V.str j) = decide (i = j) := by
  by_cases h : i = j
  · subst h; simp
  · rw [decide_eq_false h, decide_eq_false (fun z => h (by cases z; rfl))]
theorem dec_bl_eq (i j : Bool) : decide (V.bl i = V.bl j) = decide (i = j) := by
  by_cases h : i = j
  · subst h; simp
  · rw [decide_eq_false h, decide_eq_false (fun z => h (by cases z; rfl))]
theorem oc_eq : OpO X W (compareOp .Eq) (.int i) (.int j) μ (.ret (.bl (decide (i = j))) μ) := by
  rw [← dec_int_eq]
  exact oc_eqS rfl rfl
theorem oc_ne : OpO X W (compareOp .NotEq) (.int i) (.int j) μ (.ret (.bl (!decide (i = j))) μ) := by
  rw [← dec_int_eq]
  exact oc_neS rfl rfl
theorem oc_eqT : OpO X W (compareOp .Eq) (.str x) (.str y) μ (.ret (.bl (decide (x = y))) μ) := by
  rw [← dec_str_eq]
  exact oc_eqS rfl rfl
theorem oc_neT : OpO X W (compareOp .NotEq) (.str x) (.str y) μ (.ret (.bl (!decide (x = y))) μ) := by
  rw [← dec_str_eq]
  exact oc_neS rfl rfl
theorem oc_eqB : OpO X W (compareOp .Eq) (.bl a) (.bl b) μ (.ret (.bl (decide (a = b))) μ) := by
  rw [← dec_bl_eq]
  exact oc_eqS rfl rfl
theorem oc_neB : OpO X W (compareOp .NotEq) (.bl a) (.bl b) μ (.ret (.bl (!decide (a = b))) μ) := by
  rw [← dec_bl_eq]
  exact oc_neS rfl rfl
/-- is None -/
def D.isN : D → Bool
  | .non => true
  | _ => false
theorem Rep.isN {K L G} {d : D} {v : V} (r : Rep K L G d v) : decide (v = .non) = d.isN := by
  cases d with
  | non => rw [rep_non.mp r]; rfl
  | bl b => rw [rep_bl.mp r]; rfl
  | int b => rw [rep_int.mp r]; rfl
  | str b => rw [rep_str.mp r]; rfl
  | ref b => rw [rep_ref.mp r]; rfl
  | ty b => rw [rep_ty.mp r]; rfl
  | loc n => obtain ⟨a, _, e⟩ := rep_loc.mp r; rw [e]; rfl
  | tup n => obtain ⟨a, _, e, _⟩ := rep_tup.mp r; rw [e]; rfl
  | lst n => obtain ⟨a, _, e, _⟩ := rep_lst.mp r; rw [e]; rfl
  | scr n => obtain ⟨a, _, e, _⟩ := rep_scr.mp r; rw [e]; rfl
  | obj C n f => obtain ⟨a, _, _, e, _⟩ := rep_obj.mp r; rw [e]; rfl
  | exn a dd n f => obtain ⟨_, e, _⟩ := rep_exn.mp r; rw [e]; rfl
theorem oc_is {d : D} : OpO X W (compareOp .Is) d .non μ (.ret (.bl d.isN) μ) :=
  opO_of op_isN fun σ x y H Q L G o r1 r2 c => ⟨rep_non.mp r2, by rw [r1.isN]; exact CO.now (W := W) (σ := σ) c o (rep_bl.mpr rfl)⟩
theorem oc_isNot {d : D} : OpO X W (compareOp .IsNot) d .non μ (.ret (.bl (!d.isN)) μ) :=
  opO_of op_notN fun σ x y H Q L G o r1 r2 c => ⟨rep_non.mp r2, by rw [r1.isN]; exact CO.now (W := W) (σ := σ) c o (rep_bl.mpr rfl)⟩
end

/-! ### calls of built-ins by name -/
section
variable {X : Cx} {W : WX} {μ μ1 : List M} {ρ : Env'} {ds : List D} {o : FO} {e : Expr} {es : List Expr} {x : Str} {p pos : Pos} {id T : String} {i j : Int}
theorem ev_blt (ha : PA X (e :: es) (tVA X.K ρ μ ds μ1)) (hf : CallO X W (fun us => call (.builtin id) us) ds μ1 o) (hm : X.mg x = none) (hv : bootBuiltins x = some (.builtin id)) (hg : Gl X x := by rfl) (hn : x ≠ "__name__" := by decide) (hdb : (x == ("__debug__" : Str)) = false := by decide)
    (he : starEach (e :: es) X.env = (false, eval e X.env) :: starEach es X.env := by rfl) (hpl : (backTo pos (starEach es X.env)).any (·.1) = false := by rfl) : PE X (.Call (.Name x p) (e :: es) [] pos) (tO W X.K ρ μ o) :=
  ⟨fun pins s σ H Q I h => wpAny_Call_Name_kw (ld_blt I hg hm hv (PyProof.Rows.callWith_builtin1 (thn (argsO ha hf I h pos) fun us s1 h1 => h1.2) he hpl) hn hdb)⟩
theorem Reps.one {K L G} {d : D} {vs : List V} (r : Reps K L G [d] vs) : ∃ v, vs = [v] ∧ Rep K L G d v := by
  obtain ⟨v, q, rfl, r1, r2⟩ := r.inv_cons
  rw [r2.inv_nil]
  exact ⟨v, rfl, r1⟩
theorem Reps.two {K L G} {d c : D} {vs : List V} (r : Reps K L G [d, c] vs) : ∃ v u, vs = [v, u] ∧ Rep K L G d v ∧ Rep K L G c u := by
  obtain ⟨v, q, rfl, r1, r2⟩ := r.inv_cons
  obtain ⟨u, rfl, r3⟩ := r2.one
  exact ⟨v, u, rfl, r1, r3⟩
theorem cb_abs : CallO X W (fun us => call (.builtin "abs") us) [.int i] μ (.ret (.int (if i < 0 then -i else i)) μ) :=
  callO_of call_abs fun σ xs H Q L G o r c => by
    obtain ⟨v, rfl, r1⟩ := r.one
    exact ⟨i, by rw [rep_int.mp r1], CO.now (W := W) (σ := σ) c o (rep_int.mpr rfl)⟩
theorem cb_max (hc : X.calm = true) : CallO X W (fun us => call (.builtin "max") us) [.int i, .int j] μ (.ret (.int (if j > i then j else i)) μ) :=
  callO_of (call_max2 hc) fun σ xs H Q L G o r c => by
    obtain ⟨v, u, rfl, r1, r2⟩ := r.two
    exact ⟨i, j, by rw [rep_int.mp r1, rep_int.mp r2], CO.now (W := W) (σ := σ) c o (rep_int.mpr rfl)⟩
theorem cb_min (hc : X.calm = true) : CallO X W (fun us => call (.builtin "min") us) [.int i, .int j] μ (.ret (.int (if j < i then j else i)) μ) :=
  callO_of (call_min2 hc) fun σ xs H Q L G o r c => by
    obtain ⟨v, u, rfl, r1, r2⟩ := r.two
    exact ⟨i, j, by rw [rep_int.mp r1, rep_int.mp r2], CO.now (W := W) (σ := σ) c o (rep_int.mpr rfl)⟩
theorem ct_intB {b : Bool} : CallO X W (fun us => call (.type "int") us) [.bl b] μ (.ret (.int (if b then 1 else 0)) μ) :=
  callO_of call_int1 fun σ xs H Q L G o r c => by
    obtain ⟨v, rfl, r1⟩ := r.one
    exact .inr ⟨b, by rw [rep_bl.mp r1], CO.now (W := W) (σ := σ) c o (rep_int.mpr rfl)⟩
theorem ct_boolB {b : Bool} : CallO X W (fun us => call (.type "bool") us) [.bl b] μ (.ret (.bl b) μ) :=
  callO_of call_bool1 fun σ xs H Q L G o r c => by
    obtain ⟨v, rfl, r1⟩ := r.one
    exact .inr ⟨b, by rw [rep_bl.mp r1], CO.now (W := W) (σ := σ) c o (rep_bl.mpr rfl)⟩
theorem ct_strI (h : i.natAbs.log2 < 1920) : CallO X W (fun us => call (.type "str") us) [.int i] μ (.ret (.str (toString i)) μ) :=
  callO_of call_str_int fun σ xs H Q L G o r c => by
    obtain ⟨v, rfl, r1⟩ := r.one
    exact ⟨i, by rw [rep_int.mp r1], h, CO.now (W := W) (σ := σ) c o (rep_str.mpr rfl)⟩
theorem cb_len {ds : List D} (d : D) (h : d = .tup ds ∨ d = .lst ds ∨ d = .scr ds) : CallO X W (fun us => call (.builtin "len") us) [d] μ (.ret (.int ds.length) μ) :=
  callO_of call_len_seq fun σ xs H Q L G o r c => by
    obtain ⟨v, rfl, r1⟩ := r.one
    rcases h with rfl | rfl | rfl
    · obtain ⟨a, vs, e, q, rr⟩ := rep_tup.mp r1
      exact ⟨a, vs, by rw [e], .inr (Same.sqT o.sub q), by rw [rr.length]; exact CO.now (W := W) (σ := σ) c o (rep_int.mpr rfl)⟩
    · obtain ⟨a, vs, e, q, rr⟩ := rep_lst.mp r1
      exact ⟨a, vs, by rw [e], .inl (SqL.of (o.sub _ _ q)), by rw [rr.length]; exact CO.now (W := W) (σ := σ) c o (rep_int.mpr rfl)⟩
    · obtain ⟨a, vs, e, q, rr⟩ := rep_scr.mp r1
      exact ⟨a, vs, by rw [e], .inl (Same.sqL o.sub q), by rw [rr.length]; exact CO.now (W := W) (σ := σ) c o (rep_int.mpr rfl)⟩
theorem cb_lenL {ds : List D} {n : Nat} (h : μ[n]? = some (.lst ds)) : CallO X W (fun us => call (.builtin "len") us) [.loc n] μ (.ret (.int ds.length) μ) :=
  callO_of call_len_seq fun σ xs H Q L G o r c => by
    obtain ⟨v, rfl, r1⟩ := r.one
    obtain ⟨a, ea, e⟩ := rep_loc.mp r1
    obtain ⟨vs, eh, rr⟩ := o.at_ n a _ ea h
    exact ⟨a, vs, by rw [e], .inl (SqL.of eh), by rw [rr.length]; exact CO.now (W := W) (σ := σ) c o (rep_int.mpr rfl)⟩
/-- tuple(list), tuple(tuple) -/
theorem ct_tup {ds : List D} : CallO X W (fun us => call (.type "tuple") us) [.lst ds] μ (.ret (.tup ds) μ) :=
  callO_of call_tuple_of fun σ xs H Q L G o r c => by
    obtain ⟨v, rfl, r1⟩ := r.one
    obtain ⟨a, vs, e, q, rr⟩ := rep_lst.mp r1
    refine ⟨a, vs, by rw [e], .inl ⟨SqL.of (o.sub _ _ q), fun l hl => ?_⟩⟩
    obtain ⟨o', s'⟩ := o.new (o := .tup vs) hl
    exact c _ L _ _ s' o' (rep_tup.mpr ⟨l, vs, rfl, SqT.of upd_same, rr.step s'⟩)
theorem ct_tupL {ds : List D} {n : Nat} (h : μ[n]? = some (.lst ds)) : CallO X W (fun us => call (.type "tuple") us) [.loc n] μ (.ret (.tup ds) μ) :=
  callO_of call_tuple_of fun σ xs H Q L G o r c => by
    obtain ⟨v, rfl, r1⟩ := r.one
    obtain ⟨a, ea, e⟩ := rep_loc.mp r1
    obtain ⟨vs, eh, rr⟩ := o.at_ n a _ ea h
    refine ⟨a, vs, by rw [e], .inl ⟨SqL.of eh, fun l hl => ?_⟩⟩
    obtain ⟨o', s'⟩ := o.new (o := .tup vs) hl
    exact c _ L _ _ s' o' (rep_tup.mpr ⟨l, vs, rfl, SqT.of upd_same, rr.step s'⟩)
theorem ct_tupT {ds : List D} : CallO X W (fun us => call (.type "tuple") us) [.tup ds] μ (.ret (.tup ds) μ) :=
  callO_of call_tuple_of fun σ xs H Q L G o r c => by
    obtain ⟨v, rfl, r1⟩ := r.one
    obtain ⟨a, vs, e, q, rr⟩ := rep_tup.mp r1
    exact ⟨a, vs, by rw [e], .inr ⟨Same.sqT o.sub q, CO.now (W := W) (σ := σ) c o (by rw [← e]; exact r1)⟩⟩
theorem ints_reps {K L G} : ∀ (bs : List Int), Reps K L G (bs.map D.int) (bs.map V.int)
  | [] => Reps.nil
  | b :: bs => Reps.cons (rep_int.mpr rfl) (ints_reps bs)
end

/-! ### displays, items -/
section
variable {X : Cx} {W : WX} {μ μ1 μ2 : List M} {ρ : Env'} {ds : List D} {d : D} {o : FO} {a b e : Expr} {es : List Expr} {pos : Pos} {i : Int}
/-- x[i] by values -/
theorem atI_rep {K L G} {ds : List D} {vs : List V} (r : Reps K L G ds vs) (h : atI ds i = some d) : ∃ v, atI vs i = some v ∧ Rep K L G d v := by
  unfold atI at h ⊢
  rw [r.length]
  cases e : ixN ds.length i with
  | none => rw [e] at h; cases h
  | some j =>
    rw [e] at h
    simp only [Option.bind_some] at h ⊢
    exact r.get h
/-- what can be indexed -/
def Ixd (μ : List M) (d : D) (ds : List D) : Prop := d = .tup ds ∨ d = .lst ds ∨ d = .scr ds ∨ ∃ n, d = .loc n ∧ μ[n]? = some (.lst ds)
end

/-! ### walks -/
section
variable {X : Cx} {W : WX} {μ μ1 μ2 : List M} {ρ : Env'} {ds : List D} {d : D} {e tg : Expr} {pos p : Pos} {i j : Int}
theorem jok_tup {K : PySem.W.Frag} {L : List Addr} {G : Hp} {a : Addr} {vs : List V} (q : SqT K G a vs) (r : Reps K L G ds vs) : JOk K (Itt K a) L G ds where
  go := fun L2 G2 H2 μ2 i d pr sg o e => by
    have q2 : SqT K H2 a vs := Same.sqT (sg.trans o.sub) q
    obtain ⟨v, ev, rv⟩ := r.get e
    exact ⟨⟨vs, v, q2, ev⟩, fun x H3 ⟨e3, y⟩ => by
      subst e3
      have := y vs q2
      rw [ev] at this
      cases this
      exact ⟨G2, .refl _ _ _, o, rv.mono pr sg⟩⟩
  stop := fun L2 G2 H2 μ2 pr sg o => ⟨vs, Same.sqT (sg.trans o.sub) q, by rw [r.length]; exact Nat.le_refl _⟩
theorem jok_lst {K : PySem.W.Frag} {L : List Addr} {G : Hp} {a : Addr} {vs : List V} (q : SqL K G a vs) (r : Reps K L G ds vs) : JOk K (Itl K a) L G ds where
  go := fun L2 G2 H2 μ2 i d pr sg o e => by
    have q2 : SqL K H2 a vs := Same.sqL (sg.trans o.sub) q
    obtain ⟨v, ev, rv⟩ := r.get e
    exact ⟨⟨vs, v, q2, ev⟩, fun x H3 ⟨e3, y⟩ => by
      subst e3
      have := y vs q2
      rw [ev] at this
      cases this
      exact ⟨G2, .refl _ _ _, o, rv.mono pr sg⟩⟩
  stop := fun L2 G2 H2 μ2 pr sg o => ⟨vs, Same.sqL (sg.trans o.sub) q, by rw [r.length]; exact Nat.le_refl _⟩
def rangeD (lo : Int) (n : Nat) : List D := (List.range n).map fun (k : Nat) => D.int (lo + (k : Int))
theorem jok_rng {K : PySem.W.Frag} {L : List Addr} {G : Hp} {lo : Int} {n : Nat} : JOk K (Itr lo n) L G (rangeD lo n) where
  go := fun L2 G2 H2 μ2 i d pr sg o e => by
    have hi : i < n := by
      have := (List.getElem?_eq_some_iff.mp e).1
      simpa [rangeD] using this
    have ed : d = D.int (lo + (i : Int)) := by
      unfold rangeD at e
      rw [List.getElem?_map, List.getElem?_range hi] at e
      simpa using e.symm
    exact ⟨hi, fun x H3 ⟨e3, y⟩ => by
      subst e3 y ed
      exact ⟨G2, .refl _ _ _, o, rep_int.mpr rfl⟩⟩
  stop := fun L2 G2 H2 μ2 pr sg o => by
    show n ≤ (rangeD lo n).length
    simp [rangeD]
end
end PM
set_option Elab.async false
set_option linter.all false
set_option maxRecDepth 100000
set_option maxHeartbeats 2000000
namespace PM
open PySem L2

/-! ### errors of the program's own: their __init__ -/
/-- what is asked of the class above, whose __init__ is called by name -/
structure UpC (K : PySem.W.Frag) (B : Addr) (id : String) : Prop where
  rd : PySem.W.readsIn K B (.type "type") = true
  ga : PySem.W.specialIn K (.ref B) "__getattribute__" = some (some (.builtin "type.__getattribute__"))
  fi : PySem.W.findCls K (.ref B) (.type "type") "__init__" = some (.val (.builtin id))
section
variable {X : Cx} {o e : Expr} {es : List Expr} {to te : TE} {ta : TA} {x : Str} {p p' p1 p2 pos : Pos} {B : Addr}
theorem pe_upinit {pl : Sem Bool} (hg : Gl X x) (hm : X.mg x = some (.ref B)) (u : UpC X.K B "ValueError.__init__") (ha : PA X (e :: es) ta) (hd : (x == ("__debug__" : Str)) = false := by decide)
    (hc : eval (.Call (.Attribute (.Name x p1) "__init__" p2) (e :: es) [] pos) X.env = (do
      let ov ← eval (.Name x p1) X.env
      standAt p2.atName
      let (f, first) ← holding [ov] (getMethod ov "__init__" pl)
      callWith pos f first (backTo pos (starEach (e :: es) X.env)) (backToKw pos (keywordEach [] X.env))) := by rfl)
    (he : starEach (e :: es) X.env = (false, eval e X.env) :: starEach es X.env := by rfl) (hpl : (backTo pos (starEach es X.env)).any (·.1) = false := by rfl) :
    PE X (.Call (.Attribute (.Name x p1) "__init__" p2) (e :: es) [] pos) (tVeI X.K ta) := by
  refine ⟨fun pins s σ H Q I h => ?_⟩
  refine PySem.W.methodCall_KW (ld_glob I hg hm ?_ hd) hc
  refine PySem.W.method_cls I.kIn u.ga (PySem.W.cls_value I.kIn u.rd u.fi rfl ?_)
  show wpAny _ _ (callWith pos (Value.builtin "ValueError.__init__") [] (backTo pos (starEach (e :: es) X.env)) []) _ _ _
  refine PyProof.Rows.callWith_method1 (thn (ha.run pos pins _ σ H _ (I.tok _) h) fun us s1 ⟨vs, H1, I1, r1, a, C, ws, ev, hl, T, ea, q⟩ => ?_) he hpl
  subst ev
  cases r1 with
  | @cons _ u0 _ ur ra rw' =>
    obtain rfl : u0 = Value.ref a := ra
    have hlen : ur.length ≤ sizeLine := by
      rw [← Paired.length rw', sizeLine_eq]
      omega
    exact oinit_ok T I1 ea hlen fun s' J => ⟨.non, H1, J, rfl, q⟩
end
/-- the promise of an __init__ that keeps its arguments in fields of those names: none, one, two -/
def spI1 (C : Addr) (f : Str) : Sp := fun vs H Q _ => ∃ (a : Addr) (v : V), vs = [.ref a, v] ∧ H a = some (exo a C none) ∧ ∀ dx, H dx = none → dx ≠ a → Q .non (upd (upd H dx (exd dx [(f, v)])) a (exo a C (some dx)))
def spI2 (C : Addr) (f g : Str) : Sp := fun vs H Q _ => ∃ (a : Addr) (v u : V), vs = [.ref a, v, u] ∧ H a = some (exo a C none) ∧ ∀ dx, H dx = none → dx ≠ a → Q .non (upd (upd (upd H dx (exd dx [(f, v)])) a (exo a C (some dx))) dx (exd dx [(g, u), (f, v)]))
section
variable {P : Program} {w : World} {K : PySem.W.Frag} {mg : Str → Option Value} {base : Heap}
/-- class E(B): def __init__(self, f): B.__init__(self); self.f = f; hb: pss_cons (ps_expr (pe_upinit rfl hm u (pa_cons (pv 0) pa_nil))) (pss_one (ps_ost (pv 0) (pv 1))) -/
theorem fn_I1 {xq qual : Str} {st : Stmt} {fI C : Addr} {fd : FuncData} {f : Str} (F : Fun K xq qual st fI fd) (S : FnScope ["self", f] ["self", f] (defScope st)) (T : OexC K C) (hno : PySem.W.findIn K (.ref C) f = some none)
    (hb : ∀ cdv A outer s H E, PSs (cxOf CX0 P w K mg base ["self", f] qual (defScope st) fI cdv A outer s H E).nox (defBody st) (tSeq (tDrop (tVeI K (tCons (tVar 0) tNil))) (tOst K f (tVar 0) (tVar 1)))) : FnOk P w K mg base CX0 1 fI fd ["self", f] (spI1 C f) := by
  refine F.ok S (fun vs H Q E h => ?_) (fun cdv A outer s H vs Q E hr h => ⟨_, hb cdv A outer s H E, ?_⟩)
  · obtain ⟨a, v, rfl, _⟩ := h
    rfl
  · obtain ⟨a, v, rfl, ha, k⟩ := h
    exact ⟨_, rfl, a, C, [], rfl, Nat.zero_le _, T, ha, _, rfl, _, rfl, a, C, rfl, T, hno, .inl ⟨ha, fun dx h1 h2 => k dx h1 h2⟩⟩
end
/-- an error class as its makers need it -/
structure ErrC (P : Program) (w : World) (K : PySem.W.Frag) (mg : Str → Option Value) (base : Heap) (C : Addr) (ns : List Str) : Prop where
  oex : OexC K C
  one : ∃ fI fd ps sp, PySem.W.findIn K (.ref C) "__init__" = some (some (.ref fI)) ∧ PySem.W.typeIn K (.ref fI) = some (.type "function") ∧ FnOk P w K mg base CX0 1 fI fd ps sp ∧ Binds K fd ps [] ∧
    ((∃ f, ns = [f] ∧ sp = spI1 C f) ∨ ∃ f g, ns = [f, g] ∧ f ≠ g ∧ sp = spI2 C f g)
section
variable {X : Cx} {W : WX} {k : Nat} {C : Addr} {ns : List Str} {ds : List D} {μ μ1 : List M} {ρ : Env'} {e : Expr} {es : List Expr} {x : Str} {p pos pos2 : Pos}
theorem xd_swap {f g : Str} {v u : V} (h : f ≠ g) : ∀ y : Str, List.lookup y [(g, u), (f, v)] = List.lookup y [(f, v), (g, u)] := fun y => by
  simp only [List.lookup]
  by_cases e1 : y = f
  · subst e1
    have : (y == g) = false := by simpa using h
    simp [this]
  · by_cases e2 : y = g
    · subst e2
      have : (y == f) = false := by simpa using e1
      simp [this]
    · have h1 : (y == f) = false := by simpa using e1
      have h2 : (y == g) = false := by simpa using e2
      simp [h1, h2]
/-- an exception's dict told another way -/
theorem xd_same {pins : List (Addr × Obj)} {σ : St} {H : Hp} {s : Shared} {d : Addr} {fs fs' : List (Str × V)} (I : Inv X pins σ H s) (e : H d = some (.xd fs)) (h : ∀ y, fs.lookup y = fs'.lookup y) : Inv X pins σ (upd H d (.xd fs')) s := by
  have eq : ∀ b o, upd H d (.xd fs') b = some o → (b = d ∧ o = .xd fs') ∨ (b ≠ d ∧ H b = some o) := fun b o q => by
    by_cases hb : b = d
    · subst hb
      rw [upd_same] at q
      exact .inl ⟨rfl, (Option.some.inj q).symm⟩
    · rw [upd_ne hb] at q
      exact .inr ⟨hb, q⟩
  have nd : ∀ {b : Addr} {o : HO}, H b = some o → o ≠ .xd fs → b ≠ d := fun {b o} q n z => by
    rw [z, e] at q
    exact n (Option.some.inj q).symm
  refine I.un (h' := s.heap) (t' := s.toks) ⟨fun b o q n _ _ => q, fun b o q n _ _ => ⟨o.slots, q⟩, fun b o q n _ => ?_, fun b o q _ => ⟨o, q⟩, fun b xs q => ?_, fun b o u q => ?_, fun b ps q => ⟨#[], ?_⟩⟩ fun b o q => ?_
  · rw [upd_ne (fun z => by rw [z, e] at n; cases n)]
    exact n
  · rw [upd_ne (nd q (by intro z; cases z))]
    exact q
  · rw [upd_ne (nd q (by intro z; cases z))]
    exact q
  · rw [upd_ne (nd q (by intro z; cases z)), q]
    simp
  · rcases eq b o q with ⟨rfl, rfl⟩ | ⟨hb, q⟩
    · obtain ⟨mA, hn, r⟩ := (show ObjOk X.prog X.w H s.heap b (.xd fs) from I.hok b _ e)
      exact ⟨mA, hn, fun y => by rw [← h y]; exact r y⟩
    · exact (I.hok b o q).stay (fun _ _ _ z => z) (fun c z => by rw [upd_ne (nd z (by intro y; cases y))]; exact z) fun c xs z => by rw [upd_ne (nd z (by intro y; cases y))]; exact z
/-- raise C(e, ..) -/
theorem es_raise (g : Gd X W k) (c : ErrC X.prog X.w X.K X.mg X.base C ns) (hm : X.mg x = some (.ref C)) (ha : PA X (e :: es) (tVA X.K ρ μ ds μ1)) (hn : ns.length = ds.length) (hk : 2 ≤ k := by decide) (hg : Gl X x := by rfl) (hdb : (x == ("__debug__" : Str)) = false := by decide)
    (he : starEach (e :: es) X.env = (false, eval e X.env) :: starEach es X.env := by rfl) (hpl : (backTo pos (starEach es X.env)).any (·.1) = false := by rfl) :
    PS X (.Raise (some (.Call (.Name x p) (e :: es) [] pos)) none pos2) (tS W X.K ρ μ (.exc C ns ds ρ μ1)) := by
  obtain ⟨fI, fd, ps, sp, hi, ht, F, bd, h⟩ := c.one
  have mk : PMk X (.Call (.Name x p) (e :: es) [] pos) (fun σ H Q => tMkO C sp [] (tVA X.K ρ μ ds μ1) σ H Q) := pmk_oex c.oex hi ht F (g.hr.mono hk) bd .nil pass0 hg hm ha hdb he hpl
  rcases h with ⟨f, rfl, rfl⟩ | ⟨f, f2, rfl, hne, rfl⟩
  · refine ps_of (ps_raise g.calm g.tk mk) fun D σ H ⟨L, G, n, co⟩ => ⟨L, G, n, fun vs L1 G1 H1 s1 o1 r1 => ?_⟩
    match ds, hn with
    | [d], _ =>
      obtain ⟨v, rfl, rv⟩ := r1.one
      refine ⟨by show 1 ≤ 1000; decide, fun a hna => ⟨a, v, rfl, upd_same, fun dx hdx hne => ⟨rfl, dx, [(f, v)], upd_same, by rw [upd_ne hne, upd_same], ?_, ?_⟩⟩⟩
      · rw [upd_ne hne] at hdx
        exact hdx
      · have hdx' : H1 dx = none := by rw [upd_ne hne] at hdx; exact hdx
        have eH : upd (del (upd (upd (upd H1 a (exo a C none)) dx (exd dx [(f, v)])) a (exo a C (some dx))) a) dx (.xd [(f, v)]) = upd H1 dx (.xd [(f, v)]) := by
          funext b
          by_cases hb : b = dx
          · rw [hb, upd_same, upd_same]
          · rw [upd_ne hb, upd_ne hb]
            by_cases hba : b = a
            · rw [hba, del_same, hna]
            · rw [del_ne hba, upd_ne hba, upd_ne hb, upd_ne hba]
        rw [eH]
        obtain ⟨o2, s2⟩ := o1.new (o := .xd [(f, v)]) hdx'
        exact co σ (some dx) L1 _ _ (s1.trans s2) ⟨o2, (n.env.step s1).step s2⟩ ⟨rfl, .inr ⟨dx, [v], rfl, upd_same, Reps.cons (rv.step s2) Reps.nil⟩⟩
  · refine ps_of (ps_raise g.calm g.tk (t := fun σ H Q => tVA X.K ρ μ ds μ1 σ H fun vs H1 => ∃ v u, vs = [v, u] ∧ ∀ dx, H1 dx = none → Q (.ref C) (some dx) (upd H1 dx (.xd [(f, v), (f2, u)]))) ?_) fun D σ H ⟨L, G, n, co⟩ => ⟨L, G, n, fun vs L1 G1 H1 s1 o1 r1 => ?_⟩
    · intro pins s σ H Q I h
      refine thn (mk pins s σ H (fun c d H' => c = .ref C ∧ ∃ dx v u H1, d = some dx ∧ H1 dx = none ∧ H' = upd H1 dx (.xd [(f2, u), (f, v)]) ∧ Q (.ref C) (some dx) (upd H1 dx (.xd [(f, v), (f2, u)]))) I ?_) fun u s' hu => ?_
      · obtain ⟨L, G, n, co⟩ := h
        refine ⟨L, G, n, fun vs L1 G1 H1 s1 o1 r1 => ?_⟩
        obtain ⟨v, u, rfl, q⟩ := co vs L1 G1 H1 s1 o1 r1
        refine ⟨by show 2 ≤ 1000; decide, fun a hna => ⟨a, v, u, rfl, upd_same, fun dx hdx hne => ⟨rfl, dx, [(f2, u), (f, v)], ?_, upd_same, ?_, rfl, dx, v, u, H1, rfl, ?_, ?_, ?_⟩⟩⟩
        · rw [upd_ne (Ne.symm hne), upd_same]
        · rw [upd_ne hne] at hdx; exact hdx
        · rw [upd_ne hne] at hdx; exact hdx
        · funext b
          by_cases hb : b = dx
          · rw [hb, upd_same, upd_same]
          · rw [upd_ne hb, upd_ne hb]
            by_cases hba : b = a
            · rw [hba, del_same, hna]
            · rw [del_ne hba, upd_ne hb, upd_ne hba, upd_ne hb, upd_ne hba]
        · exact q dx (by rw [upd_ne hne] at hdx; exact hdx)
      · obtain ⟨a, oe, fv, sI, H', cls, d, e1, J, k1, k2, k3, k4, k5, k6, k7, k8, k9, k10, rfl, dx, v, u', H1, rfl, hd1, rfl, q⟩ := hu
        refine ⟨a, oe, fv, sI, _, .ref C, some dx, e1, (xd_same J upd_same (xd_swap (Ne.symm (Ne.symm hne)))), k1, k2, k3, k4, k5, k6, ?_, k8, k9, k10, ?_⟩
        · rw [upd_upd]
          by_cases ha : a = dx
          · subst ha
            rw [upd_same] at k7
            cases k7
          · rw [upd_ne ha] at k7 ⊢
            exact k7
        · rw [upd_upd]
          exact q
    · match ds, hn with
      | [d1, d2], _ =>
        obtain ⟨v, u, rfl, rv, ru⟩ := r1.two
        refine ⟨v, u, rfl, fun dx hdx => ?_⟩
        obtain ⟨o2, s2⟩ := o1.new (o := .xd [(f, v), (f2, u)]) hdx
        exact co σ (some dx) L1 _ _ (s1.trans s2) ⟨o2, (n.env.step s1).step s2⟩ ⟨rfl, .inr ⟨dx, [v, u], rfl, upd_same, Reps.cons (rv.step s2) (Reps.cons (ru.step s2) Reps.nil)⟩⟩
end

/-! ### try -/
section
variable {X : Cx} {W : WX} {k i : Nat} {C C' : Addr} {ns : List Str} {ds : List D} {μ μ1 μ2 : List M} {ρ ρ1 ρ2 : Env'} {x n : Str} {np pos pos' : Pos} {body suite : List Stmt} {b₀ : Stmt} {q : Out}
/-- what follows a suite: the name is gone -/
def Out.gone (i : Nat) : Out → Out
  | .next ρ μ => .next (ρ.set i none) μ
  | .brk ρ μ => .brk (ρ.set i none) μ
  | .cont ρ μ => .cont (ρ.set i none) μ
  | q => q
theorem RepS.unset {K : PySem.W.Frag} {L : List Addr} {G : Hp} {ρ : Env'} {σ : St} (h : RepS K L G ρ σ) (i : Nat) : RepS K L G (ρ.set i none) (σ.set i none) := by
  refine ⟨by simpa using h.len, fun j e hj => ?_⟩
  by_cases hi : i = j
  · subst hi
    by_cases hl : i < ρ.length
    · rw [List.getElem?_set_self hl] at hj
      cases hj
    · rw [List.getElem?_eq_none (by simpa using hl)] at hj
      cases hj
  · rw [List.getElem?_set_ne hi] at hj ⊢
    exact h.at_ j e hj
end
end PM
set_option Elab.async false
set_option linter.all false
set_option maxRecDepth 100000
set_option maxHeartbeats 2000000
namespace PM
open PySem L2

/-! ### an own class -/
structure OwnC (K : PySem.W.Frag) (C : Addr) : Prop where
  cl : Cls K C
  ca : PySem.W.findIn K (.ref C) "__class__" = some (some (.builtin "object.__class__"))
  cg : PySem.W.specialIn K (.builtin "object.__class__") "__get__" = some (some (.builtin "getset_descriptor.__get__"))
  ct : PySem.W.takesIn K (.builtin "object.__class__") = some true
  mro : (PySem.W.clsIn K C).map (·.mro) = some [.ref C, .type "object"]
  ty : PySem.W.typeIn K (.ref C) = some (.type "type")
section
variable {K : PySem.W.Frag} {C : Addr}
theorem OwnC.cd (c : OwnC K C) : ∃ cd, PySem.W.clsIn K C = some cd ∧ cd.mro = [.ref C, .type "object"] := by
  have h := c.mro
  cases e : PySem.W.clsIn K C with
  | none => rw [e] at h; cases h
  | some cd =>
    rw [e] at h
    exact ⟨cd, rfl, Option.some.inj h⟩
theorem OwnC.mroIn (c : OwnC K C) (b : Value) : PySem.W.mroIn K C b = some ([Value.ref C, .type "object"].contains b) := by
  obtain ⟨cd, e, m⟩ := c.cd
  unfold PySem.W.mroIn
  rw [e, Option.bind_some, m]
  rfl
theorem OwnC.self (c : OwnC K C) : PySem.W.selfFirst K C = true := by
  obtain ⟨cd, e, m⟩ := c.cd
  unfold PySem.W.selfFirst
  rw [e, Option.any_some, m]
  simp
theorem OwnC.isCls (c : OwnC K C) : PySem.W.isClsIn K C = true := by
  obtain ⟨cd, e, m⟩ := c.cd
  unfold PySem.W.isClsIn
  rw [e]
  rfl
/-- a value's type -/
inductive TyD (K : PySem.W.Frag) : D → Value → Prop
  | non : TyD K .non (.type "NoneType")
  | bl {b : Bool} : TyD K (.bl b) (.type "bool")
  | int {i : Int} : TyD K (.int i) (.type "int")
  | str {x : Str} : TyD K (.str x) (.type "str")
  | tup {ds : List D} : TyD K (.tup ds) (.type "tuple")
  | lst {ds : List D} : TyD K (.lst ds) (.type "list")
  | obj {C : Addr} {ns : List Str} {ds : List D} : OwnC K C → TyD K (.obj C ns ds) (.ref C)
theorem TyD.x {L : List Addr} {G H : Hp} {μ : List M} {d : D} {t : Value} {v : V} (ok : Ok K L G H μ) (y : TyD K d t) (r : Rep K L G d v) : TyX K H v t := by
  cases y with
  | non => rw [rep_non.mp r]; exact .base .non
  | bl => rw [rep_bl.mp r]; exact .base (.bl _)
  | int => rw [rep_int.mp r]; exact .base (.int _)
  | str => rw [rep_str.mp r]; exact .base (.str _)
  | tup =>
    obtain ⟨a, vs, rfl, q, _⟩ := rep_tup.mp r
    rcases Same.sqT ok.sub q with (h | ⟨o, h⟩) | ⟨o, its, n, h, hc, _⟩
    · exact .base (.tup h)
    · exact .fTuple h
    · exact .kTuple h hc
  | lst =>
    obtain ⟨a, vs, rfl, q, _⟩ := rep_lst.mp r
    exact .base (.lst (ok.sub _ _ q))
  | obj c =>
    obtain ⟨a, dx, vs, rfl, q, _⟩ := rep_obj.mp r
    exact .base (.ins (ok.sub _ _ q) c.cl c.ca c.cg c.ct (by rw [c.mroIn]; simp))
/-- isinstance by types -/
theorem kit_own_self : PySem.W.kitOne K (.ref C) (.ref C) = some true := by
  unfold PySem.W.kitOne
  rw [if_pos (by simp)]
theorem kit_own_ty (c : OwnC K C) {T : String} (hm : PySem.W.kitMeta T = true) (hT : T ≠ "object") : PySem.W.kitOne K (.ref C) (.type T) = some false := by
  have e : ([Value.ref C, .type "object"].contains (.type T)) = false := by
    simp only [List.contains_cons, List.contains_nil, Bool.or_false, Bool.or_eq_false_iff, beq_eq_false_iff_ne]
    exact ⟨(by intro z; cases z), (by intro z; cases z; exact hT rfl)⟩
  unfold PySem.W.kitOne
  rw [if_neg (by simp)]
  show (if PySem.W.kitMeta T = true then PySem.W.subIn K (.ref C) (.type T) else none) = some false
  rw [if_pos hm]
  show PySem.W.mroIn K C (.type T) = some false
  rw [c.mroIn, e]
theorem kit_ty_own (c : OwnC K C) {T : String} {l : List Value} (hl : PySem.fastBuiltinMro T = some l) (hn : l.all (fun v => match v with | .type _ => true | _ => false) = true) : PySem.W.kitOne K (.type T) (.ref C) = some false := by
  have e : l.contains (.ref C) = false := by
    rw [List.contains_eq_any_beq, List.any_eq_false]
    intro v hv
    have := List.all_eq_true.mp hn v hv
    cases v <;> simp at this ⊢
  unfold PySem.W.kitOne
  rw [if_neg (by simp)]
  show (if ((PySem.W.clsIn K C).isSome && PySem.W.typeIn K (.ref C) == some (.type "type")) = true then PySem.W.subIn K (.type T) (.ref C) else none) = some false
  have hc : (PySem.W.clsIn K C).isSome = true := c.isCls
  rw [hc, c.ty, if_pos (by simp)]
  show (PySem.fastBuiltinMro T).map (·.contains (.ref C)) = some false
  rw [hl, Option.map_some, e]
/-- two own classes -/
theorem kit_own_own {C' : Addr} (c : OwnC K C) (c' : OwnC K C') (h : C ≠ C') : PySem.W.kitOne K (.ref C) (.ref C') = some false := by
  have e : ([Value.ref C, .type "object"].contains (.ref C')) = false := by
    simp only [List.contains_cons, List.contains_nil, Bool.or_false, Bool.or_eq_false_iff, beq_eq_false_iff_ne]
    exact ⟨(by intro z; cases z; exact h rfl), (by intro z; cases z)⟩
  unfold PySem.W.kitOne
  rw [if_neg (by simp [h])]
  show (if ((PySem.W.clsIn K C').isSome && PySem.W.typeIn K (.ref C') == some (.type "type")) = true then PySem.W.subIn K (.ref C) (.ref C') else none) = some false
  have hc : (PySem.W.clsIn K C').isSome = true := c'.isCls
  rw [hc, c'.ty, if_pos (by simp)]
  show PySem.W.mroIn K C (.ref C') = some false
  rw [c.mroIn, e]
end
/-- the class that is asked for -/
inductive ClD : D → Value → Prop
  | ty (n : String) : ClD (.ty n) (.type n)
  | own (C : Addr) : ClD (.ref C) (.ref C)
section
variable {X : Cx} {W : WX} {μ μ1 μ2 : List M} {ρ : Env'} {d c : D} {b : Bool} {t u : Value}
theorem cb_isi (y : TyD X.K d t) (k : ClD c u) (h : PySem.W.kitOne X.K t u = some b) : CallO X W (fun us => call (.builtin "isinstance") us) [d, c] μ (.ret (.bl b) μ) :=
  callO_of call_isi fun σ xs H Q L G o r co => by
    obtain ⟨v, w, rfl, r1, r2⟩ := r.two
    cases k with
    | ty n => exact ⟨v, .ty n, t, _, b, by rw [rep_ty.mp r2], .ty n, y.x o r1, h, CO.now (W := W) (σ := σ) co o (rep_bl.mpr rfl)⟩
    | own C => exact ⟨v, .ref C, t, _, b, by rw [rep_ref.mp r2], .own C, y.x o r1, h, CO.now (W := W) (σ := σ) co o (rep_bl.mpr rfl)⟩
end
theorem mro_int : PySem.fastBuiltinMro "int" = some [.type "int", .type "object"] := by decide +kernel
theorem mro_str : PySem.fastBuiltinMro "str" = some [.type "str", .type "object"] := by decide +kernel
theorem mro_bool : PySem.fastBuiltinMro "bool" = some [.type "bool", .type "int", .type "object"] := by decide +kernel
theorem mro_non : PySem.fastBuiltinMro "NoneType" = some [.type "NoneType", .type "object"] := by decide +kernel
theorem mro_tup : PySem.fastBuiltinMro "tuple" = some [.type "tuple", .type "object"] := by decide +kernel
theorem mro_lst : PySem.fastBuiltinMro "list" = some [.type "list", .type "object"] := by decide +kernel

/-! ### own operators -/
section
variable {X : Cx} {W : WX} {k j : Nat} {ps : List Str} {R : Rl} {f C : Addr} {fd : FuncData} {μ : List M} {o : FO} {da db : D} {ns : List Str} {fs : List D}
theorem back {pins : List (Addr × Obj)} {σ : St} {Q : VK} {u : Value} {s' : Shared} (h : EP X pins σ Q u s') : PySem.W.CmpBack (EP X pins σ Q) u s' := by
  obtain ⟨v, H', I, r, q⟩ := id h
  cases v with
  | non => cases r; exact h
  | bl b => cases r; exact h
  | int i => obtain ⟨t, rfl⟩ := r; exact h
  | str i => obtain ⟨t, rfl⟩ := r; exact h
  | byt i => obtain ⟨t, rfl⟩ := r; exact h
  | flt i => obtain ⟨t, rfl⟩ := r; exact h
  | ref a => cases r; exact h
  | ty n => cases r; exact h
/-- an instance as the library sees it -/
theorem inst_at {pins : List (Addr × Obj)} {σ : St} {H : Hp} {s : Shared} {a dx : Addr} {gs : List (Str × V)} (I : Inv X pins σ H s) (e : H a = some (.ins C dx gs)) : ∃ ox od, PySem.W.InstAt s.heap a ox C (some od) := by
  obtain ⟨mA, O, _⟩ := ins_get I.hok e
  obtain ⟨od, J, _⟩ := O.look
  exact ⟨_, od, J⟩
/-- the right side's type, as the library looks it up -/
theorem looks_ty {pins : List (Addr × Obj)} {σ : St} {H : Hp} {s : Shared} {L : List Addr} {G : Hp} {v : V} {u t : Value} (I : Inv X pins σ H s) (ok : Ok X.K L G H μ) (y : TyD X.K db t) (r : Rep X.K L G db v) (ru : RelV v u) :
    PySem.W.Looks (model X.prog X.w) s.heap (typeOf u) t := by
  cases y with
  | non => rw [rep_non.mp r] at ru; cases ru; exact .of_pure rfl
  | bl => rw [rep_bl.mp r] at ru; cases ru; exact .of_pure rfl
  | int => rw [rep_int.mp r] at ru; obtain ⟨t, rfl⟩ := ru; exact .of_pure rfl
  | str => rw [rep_str.mp r] at ru; obtain ⟨t, rfl⟩ := ru; exact .of_pure rfl
  | tup =>
    obtain ⟨a, vs, rfl, q, _⟩ := rep_tup.mp r
    cases ru
    obtain ⟨its, _, ⟨o, ho, hc, _⟩, _⟩ := I.tuple (Same.sqT ok.sub q)
    intro A Q E s' k' q'
    exact wpAny_typeOf_ref (k' _ _ ho) (by rw [hc]; exact q')
  | lst =>
    obtain ⟨a, vs, rfl, q, _⟩ := rep_lst.mp r
    cases ru
    obtain ⟨its, _, ⟨o, n, ho, hc, _⟩, _⟩ := I.list (SqL.of (ok.sub _ _ q))
    intro A Q E s' k' q'
    exact wpAny_typeOf_ref (k' _ _ ho) (by rw [hc]; exact q')
  | obj c =>
    obtain ⟨a, dx, vs, rfl, q, _⟩ := rep_obj.mp r
    cases ru
    obtain ⟨ox, od, J⟩ := inst_at I (ok.sub _ _ q)
    exact J.type
/-- a op b, both of the class -/
theorem oo_own {op : Operator} {ns' : List Str} {fs' : List D} (g : Gd X W k) (oc : OwnC X.K C) (hs : PySem.W.findIn X.K (.ref C) (PySem.dunder op.info.2) = some (some (.ref f))) (hf : PySem.W.isFn X.K (.ref f) = true) (c : Cal X.prog X.w X.K X.mg X.base j ps R f fd)
    (hR : R [.obj C ns fs, .obj C ns' fs'] μ o) (hj : j ≤ k := by decide) : OpO X W (binaryOp op) (.obj C ns fs) (.obj C ns' fs') μ o := by
  intro pins s σ H x y v u Q L G I rx ry ok r1 r2 co
  obtain ⟨m, fr⟩ := I.fr
  have ty := looks_ty I ok (.obj oc) r2 ry
  obtain ⟨a, dx, vs, rfl, q, _⟩ := rep_obj.mp r1
  cases rx
  obtain ⟨ox, od, J⟩ := inst_at I (ok.sub _ _ q)
  exact PySem.W.binop_K fr I.mod.kin J ty oc.self hs hf (wpAny_mono (c.run g hj hR pins s σ H [.ref a, y] [.ref a, u] Q L G I (.cons rfl (.cons ry .nil)) ok (Reps.cons r1 (Reps.cons r2 Reps.nil)) co) (fun _ _ z => back z) fun _ _ z => z)
/-- a op n, a of the class, n an int -/
theorem oo_ownI {op : Operator} {i : Int} {rc fo ro : Option Value} (g : Gd X W k) (oc : OwnC X.K C) (hs : PySem.W.findIn X.K (.ref C) (PySem.dunder op.info.2) = some (some (.ref f))) (hf : PySem.W.isFn X.K (.ref f) = true) (hr : PySem.W.findIn X.K (.ref C) (dunderR op.info.2) = some rc) (hp : rc = none ∨ ∃ g : Addr, rc = some (.ref g))
    (h1 : PySem.W.findIn X.K (.type "int") (PySem.dunder op.info.2) = some fo) (h2 : PySem.W.findIn X.K (.type "int") (dunderR op.info.2) = some ro) (c : Cal X.prog X.w X.K X.mg X.base j ps R f fd)
    (hR : R [.obj C ns fs, .int i] μ o) (hj : j ≤ k := by decide) : OpO X W (binaryOp op) (.obj C ns fs) (.int i) μ o := by
  intro pins s σ H x y v u Q L G I rx ry ok r1 r2 co
  obtain ⟨m, fr⟩ := I.fr
  obtain ⟨a, dx, vs, rfl, q, _⟩ := rep_obj.mp r1
  cases rx
  obtain ⟨ox, od, J⟩ := inst_at I (ok.sub _ _ q)
  have ey := rep_int.mp r2
  subst ey
  have ry' := ry
  obtain ⟨t, rfl⟩ := ry'
  exact PySem.W.ksp_binT fr I.mod.kin J rfl oc.self hs hf hr hp h1 h2 (by show (PySem.fastBuiltinMro "int").map (·.contains (.ref C)) = some false; rw [mro_int]; rfl) (wpAny_mono (c.run g hj hR pins s σ H [.ref a, .int i] [.ref a, .int i t] Q L G I (.cons rfl (.cons ⟨t, rfl⟩ .nil)) ok (Reps.cons r1 (Reps.cons r2 Reps.nil)) co) (fun _ _ z => back z) fun _ _ z => z)
/-- -a -/
theorem ou_own (g : Gd X W k) (hs : PySem.W.findIn X.K (.ref C) "__neg__" = some (some (.ref f))) (hf : PySem.W.isFn X.K (.ref f) = true) (c : Cal X.prog X.w X.K X.mg X.base j ps R f fd) (hR : R [.obj C ns fs] μ o) (hj : j ≤ k := by decide) : UnO X W (unaryOp .USub) (.obj C ns fs) μ o := by
  intro pins s σ H x v Q L G I rx ok r1 co
  obtain ⟨m, fr⟩ := I.fr
  obtain ⟨a, dx, vs, rfl, q, _⟩ := rep_obj.mp r1
  cases rx
  obtain ⟨ox, od, J⟩ := inst_at I (ok.sub _ _ q)
  exact PySem.W.ksp_neg fr I.mod.kin J hs hf (c.run g hj hR pins s σ H [.ref a] [.ref a] Q L G I (.cons rfl .nil) ok (Reps.cons r1 Reps.nil) co)
/-- comparisons, a of the class, b of it or of a built-in kind -/
theorem rich_own {op : CmpOp} {t : Value} (g : Gd X W k) (hs : PySem.W.findIn X.K (.ref C) (cmpInfo op).2.1 = some (some (.ref f))) (hf : PySem.W.isFn X.K (.ref f) = true) (y : TyD X.K db t) (hn : PySem.W.notFirst X.K C t = true) (c : Cal X.prog X.w X.K X.mg X.base j ps R f fd)
    (hR : R [.obj C ns fs, db] μ o) (hj : j ≤ k := by decide) : OpO X W (richCompare op) (.obj C ns fs) db μ o := by
  intro pins s σ H x yy v u Q L G I rx ry ok r1 r2 co
  obtain ⟨m, fr⟩ := I.fr
  have ty := looks_ty I ok y r2 ry
  obtain ⟨a, dx, vs, rfl, q, _⟩ := rep_obj.mp r1
  cases rx
  obtain ⟨ox, od, J⟩ := inst_at I (ok.sub _ _ q)
  exact PySem.W.cmp_K (by have := g.hr.un; omega) fr I.mod.kin J ty hn hs hf (wpAny_mono (c.run g hj hR pins s σ H [.ref a, yy] [.ref a, u] Q L G I (.cons rfl (.cons ry .nil)) ok (Reps.cons r1 (Reps.cons r2 Reps.nil)) co) (fun _ _ z => back z) fun _ _ z => z)
theorem notFirst_own {K : PySem.W.Frag} : PySem.W.notFirst K C (.ref C) = true := by unfold PySem.W.notFirst; simp
theorem notFirst_ty {K : PySem.W.Frag} {T : String} {l : List Value} (hl : PySem.fastBuiltinMro T = some l) (hn : l.all (fun v => match v with | .type _ => true | _ => false) = true) : PySem.W.notFirst K C (.type T) = true := by
  have e : l.contains (.ref C) = false := by
    rw [List.contains_eq_any_beq, List.any_eq_false]
    intro v hv
    have := List.all_eq_true.mp hn v hv
    cases v <;> simp at this ⊢
  unfold PySem.W.notFirst
  rw [Bool.or_eq_true_iff]
  refine .inr ?_
  show ((PySem.fastBuiltinMro T).map (·.contains (.ref C)) == some false) = true
  rw [hl, Option.map_some, e]
  rfl
end

/-! ### properties -/
section
variable {X : Cx} {W : WX} {k j : Nat} {ps : List Str} {R : Rl} {f C p g : Addr} {fd : FuncData} {μ μ1 μ2 : List M} {ρ : Env'} {d d' : D} {e : Expr} {m : Str} {pos : Pos} {ds : List D} {o : FO} {es : List Expr} {apos : Pos}
theorem getpropG {pins : List (Addr × Obj)} {σ : St} {H : Hp} {s : Shared} {Q : VK} {b : Bool} {E' : Value → Shared → Prop} {a dx : Addr} {fs : List (Str × V)} {sp : Sp} (I : Inv X pins σ H s) (ea : H a = some (.ins C dx fs)) (c : Cls X.K C) (hp : PropOf X.K C m p g)
    (F : FnG X.prog X.w X.K X.mg X.base j g fd ps sp) (hr : Room (j + 1) X.A) (gr : Gr (j + 1) X.A) (hb : Binds X.K fd ps []) (h : sp [.ref a] H Q (fun _ _ _ => False)) :
    wpAny (model X.prog X.w) X.A (getAttr (.ref a) m b) (EP X pins σ Q) E' s := by
  obtain ⟨mA, O, _, _, _, _⟩ := ins_get I.hok ea
  obtain ⟨od, J, _⟩ := O.look
  obtain ⟨rest, hrec⟩ := hp.rec_
  have I1 := I.tok (s.toks + 1)
  have hl : ([Value.ref a] ++ ([] : List Value)).length = ps.length := by
    rw [← F.len _ _ _ _ h]
    rfl
  have hc : (PySem.W.clsIn X.K C).isSome = true := by
    obtain ⟨cd, hc, _⟩ := PySem.W.any_some c.hd
    rw [hc]
    rfl
  refine PySem.W.get_bind I.kIn J (PySem.W.plainGet_of (c.get m)).1 (PySem.W.findObj_data hc hp.at_ hp.get hp.tak) (PySem.W.plainGet_of (c.get m)).2 (wpAny_call (PySem.W.prop_get (s := { s with toks := s.toks + 1 }) I.kIn hrec ?_))
  refine codeAny_mono (F.run X.A.in1 X.stack { s with toks := s.toks + 1 } H ⟨[.ref a], []⟩ [.ref a] [.ref a] Q (fun _ _ _ => False) hr.in1 (gr.mono (Nat.le_succ _)) I1.env0.in1 (hb _ [.ref a] I1.kIn hl) (.cons rfl .nil) h) fun r s' hq => ?_
  cases r with
  | error er =>
    obtain ⟨_, _, _, _, _, _, _, _, _, _, _, _, z⟩ := hq
    exact z.elim
  | ok fl =>
    cases fl with
    | ret u =>
      obtain ⟨v, H', I3, rv, q3⟩ := I1.after hq
      show wpAny _ _ (handedOut u) _ _ _
      rw [PySem.W.handedOut_of (handed_of rv)]
      exact wpAny_pure ⟨v, H', I3, rv, q3⟩
    | next => exact False.elim hq
    | brk => exact False.elim hq
    | cont => exact False.elim hq
/-! ### class methods -/
end
end PM
set_option Elab.async false
set_option linter.all false
set_option maxRecDepth 100000
set_option maxHeartbeats 2000000
namespace PM
open PySem L2

/-! ### comprehensions -/
def gW (K : PySem.W.Frag) (vs : List Nat) (μ : List M) (d : D) (ρ ρ' : Env') : TG := fun v σ H Q => ∃ L G, Now K L G H μ ρ σ ∧ Rep K L G d v ∧ ∀ σ' L' G' H', Step L G H L' G' H' → Now K L' G' H' μ ρ' σ' → wipe σ' vs = wipe σ vs → Q σ' H'
def gWs (K : PySem.W.Frag) (vs : List Nat) (μ : List M) (ds : List D) (ρ ρ' : Env') : TGs := fun us σ H Q => ∃ L G, Now K L G H μ ρ σ ∧ Reps K L G ds us ∧ ∀ σ' L' G' H', Step L G H L' G' H' → Now K L' G' H' μ ρ' σ' → wipe σ' vs = wipe σ vs → Q σ' H'
theorem wipe_get (σ : St) : ∀ (vs : List Nat) (j : Nat), j ∈ vs → j < σ.length → (wipe σ vs)[j]? = some none
  | [], _, h, _ => by simp at h
  | v :: vs, j, h, hl => by
    unfold wipe
    by_cases e : v = j
    · subst e
      rw [List.getElem?_set_self (by rw [wipe_length]; exact hl)]
    · rw [List.getElem?_set_ne e]
      exact wipe_get σ vs j (by
        rcases List.mem_cons.mp h with z | z
        · exact (e z.symm).elim
        · exact z) hl
theorem wipe_other (σ : St) : ∀ (vs : List Nat) (j : Nat), j ∉ vs → (wipe σ vs)[j]? = σ[j]?
  | [], _, _ => rfl
  | v :: vs, j, h => by
    unfold wipe
    rw [List.getElem?_set_ne (fun e => h (by rw [e]; exact List.mem_cons_self ..))]
    exact wipe_other σ vs j fun z => h (List.mem_cons_of_mem _ z)
theorem wipe_set {σ : St} {vs : List Nat} {i : Nat} {x : Option V} (h : i ∈ vs) : wipe (σ.set i x) vs = wipe σ vs := by
  apply List.ext_getElem?
  intro j
  by_cases hj : j ∈ vs
  · by_cases hl : j < σ.length
    · rw [wipe_get _ vs j hj (by simpa using hl), wipe_get _ vs j hj hl]
    · rw [List.getElem?_eq_none (by rw [wipe_length]; simpa using hl), List.getElem?_eq_none (by rw [wipe_length]; omega)]
  · rw [wipe_other _ vs j hj, wipe_other _ vs j hj, List.getElem?_set_ne (fun e => hj (by rw [← e]; exact h))]
theorem wipe_idem (σ : St) (vs : List Nat) : wipe (wipe σ vs) vs = wipe σ vs := by
  apply List.ext_getElem?
  intro j
  by_cases hj : j ∈ vs
  · by_cases hl : j < σ.length
    · rw [wipe_get _ vs j hj (by rw [wipe_length]; exact hl), wipe_get _ vs j hj hl]
    · rw [List.getElem?_eq_none (by rw [wipe_length, wipe_length]; omega), List.getElem?_eq_none (by rw [wipe_length]; omega)]
  · rw [wipe_other _ vs j hj]
/-- the block's own names forgotten -/
def wipeD (ρ : Env') : List Nat → Env'
  | [] => ρ
  | v :: vs => (wipeD ρ vs).set v none
theorem RepS.wipe {K : PySem.W.Frag} {L : List Addr} {G : Hp} {ρ : Env'} {σ : St} (h : RepS K L G ρ σ) : ∀ vs, RepS K L G (wipeD ρ vs) (L2.wipe σ vs)
  | [] => h
  | v :: vs => by
    unfold wipeD L2.wipe
    exact (RepS.wipe h vs).unset v
section
variable {X : Cx} {e : Expr} {es : List Expr} {pos : Pos} {ρ ρ1 ρ2 : Env'} {μ : List M} {d : D} {ds : List D} {x : Str} {vs : List Nat}
theorem ew_name (i : Nat) (nd : X.N.Nodup) (hv : i ∈ vs := by decide) (hi : X.N[i]? = some x := by rfl) (hx : Loc X.env.scope x := by first | exact Or.inl rfl | exact Or.inr rfl) (hf : X.fn x = true ∨ X.env.scope.names.lookup x = some .local := by first | exact .inl rfl | exact .inr rfl | assumption) :
    PG X (.Name x pos) (gW X.K vs μ d ρ (ρ.set i (some d))) :=
  pg_of (pg_name nd hi hx hf) fun v σ H Q ⟨L, G, n, r, c⟩ => c _ L G H (.refl _ _ _) ⟨n.ok, n.env.set r i⟩ (wipe_set hv)
end
/-- the block's place -/
abbrev BlkAll (X : Cx) (scope : Scope) (P : Cx → Prop) : Prop := ∀ (s : Shared) (H : Hp) (C : Addr) (cl : List (Str × Addr)) (fp : List Addr), P (X.blk s H scope (compEnvC scope cl C X.env) fp)
theorem Gd.blk {X : Cx} {W : WX} {k : Nat} (g : Gd X W k) {s : Shared} {H : Hp} {scope : Scope} {env : Env} {fp : List Addr} : Gd (X.blk s H scope env fp) W0 k := ⟨g.calm, g.nd, takes0, PassesOwn.never, g.hr, g.gr⟩
/-- what a comprehension makes of ds; vs: the slots of its own names -/
inductive EvC (X : Cx) (scope : Scope) (vs : List Nat) (tg elt : Expr) (ifs : List Expr) (ρ : Env') : List D → List M → List D → List M → Prop
  | nil {μ : List M} : EvC X scope vs tg elt ifs ρ [] μ [] μ
  | keep {d y : D} {ds ys : List D} {ρ1 : Env'} {μ μ1 μ2 μ3 : List M} : BlkAll X scope (fun Y => PG Y tg (gW X.K vs μ d (wipeD ρ vs) ρ1)) → BlkAll X scope (fun Y => PTs Y ifs (tVT X.K ρ1 μ true μ1)) → BlkAll X scope (fun Y => PE Y elt (tV X.K ρ1 μ1 y μ2)) →
      EvC X scope vs tg elt ifs ρ ds μ2 ys μ3 → EvC X scope vs tg elt ifs ρ (d :: ds) μ (y :: ys) μ3
  | skip {d : D} {ds ys : List D} {ρ1 : Env'} {μ μ1 μ3 : List M} : BlkAll X scope (fun Y => PG Y tg (gW X.K vs μ d (wipeD ρ vs) ρ1)) → BlkAll X scope (fun Y => PTs Y ifs (tVT X.K ρ1 μ false μ1)) →
      EvC X scope vs tg elt ifs ρ ds μ1 ys μ3 → EvC X scope vs tg elt ifs ρ (d :: ds) μ ys μ3
theorem EvC.len {X : Cx} {scope : Scope} {vs : List Nat} {tg elt : Expr} {ifs : List Expr} {ρ : Env'} {ds ys : List D} {μ μ' : List M} (h : EvC X scope vs tg elt ifs ρ ds μ ys μ') : ys.length ≤ ds.length := by
  induction h with
  | nil => exact Nat.le_refl _
  | keep _ _ _ _ ih => simpa using ih
  | skip _ _ _ ih => exact Nat.le_succ_of_le ih
section
variable {X : Cx} {W : WX} {k : Nat} {elt tg iter : Expr} {ifs : List Expr} {scope : Scope} {own : List (Str × Nat)} {pos : Pos} {ρ : Env'} {μ μ1 μ2 : List M} {ds ys : List D}
def aPTs (X : Cx) (ifs : List Expr) : TT := fun σ H Q => ∃ t, PTs X ifs t ∧ t σ H Q
/-- a reading that holds in every block -/
def bG (X : Cx) (scope : Scope) (e : Expr) : TG := fun v σ H Q => ∃ t, BlkAll X scope (fun Y => PG Y e t) ∧ t v σ H Q
def bT (X : Cx) (scope : Scope) (ifs : List Expr) : TT := fun σ H Q => ∃ t, BlkAll X scope (fun Y => PTs Y ifs t) ∧ t σ H Q
def bE (X : Cx) (scope : Scope) (e : Expr) : TE := fun σ H Q => ∃ t, BlkAll X scope (fun Y => PE Y e t) ∧ t σ H Q
end
end PM
set_option Elab.async false
set_option linter.all false
set_option maxRecDepth 100000
set_option maxHeartbeats 2000000
namespace PM
open PySem L2

/-! ### plain data -/
mutual
def D.py : D → Option PyData
  | .non => some .none
  | .bl b => some (.bool b)
  | .int i => some (.int i)
  | .str x => some (.str x)
  | .tup ds => (D.pys ds).map .tuple
  | .lst ds => (D.pys ds).map .list
  | .scr ds => (D.pys ds).map .list
  | .ref _ => none
  | .ty _ => none
  | .loc _ => none
  | .exn _ _ _ _ => none
  | .obj _ _ _ => none
def D.pys : List D → Option (List PyData)
  | [] => some []
  | d :: ds => (D.py d).bind fun p => (D.pys ds).map fun ps => p :: ps
end
section
variable {K : PySem.W.Frag} {L : List Addr} {G H : Hp}
mutual
theorem Rep.dp (hs : Same G H) : ∀ {d : D} {v : V} {p : PyData}, Rep K L G d v → D.py d = some p → Dp K H v p
  | .non, v, p, r, h => by rw [rep_non.mp r]; simp only [D.py, Option.some.injEq] at h; subst h; exact .non
  | .bl b, v, p, r, h => by rw [rep_bl.mp r]; simp only [D.py, Option.some.injEq] at h; subst h; exact .bl b
  | .int b, v, p, r, h => by rw [rep_int.mp r]; simp only [D.py, Option.some.injEq] at h; subst h; exact .int b
  | .str b, v, p, r, h => by rw [rep_str.mp r]; simp only [D.py, Option.some.injEq] at h; subst h; exact .str b
  | .tup ds, v, p, r, h => by
    simp only [D.py, Option.map_eq_some_iff] at h
    obtain ⟨ps, h1, rfl⟩ := h
    obtain ⟨a, vs, rfl, q, rr⟩ := rep_tup.mp r
    exact .tup (Same.sqT hs q) (Reps.dp hs rr h1)
  | .lst ds, v, p, r, h => by
    simp only [D.py, Option.map_eq_some_iff] at h
    obtain ⟨ps, h1, rfl⟩ := h
    obtain ⟨a, vs, rfl, q, rr⟩ := rep_lst.mp r
    exact .lst (SqL.of (hs _ _ q)) (Reps.dp hs rr h1)
  | .scr ds, v, p, r, h => by
    simp only [D.py, Option.map_eq_some_iff] at h
    obtain ⟨ps, h1, rfl⟩ := h
    obtain ⟨a, vs, rfl, q, rr⟩ := rep_scr.mp r
    exact .lst (Same.sqL hs q) (Reps.dp hs rr h1)
  | .ref _, _, _, _, h => by simp only [D.py] at h; cases h
  | .ty _, _, _, _, h => by simp only [D.py] at h; cases h
  | .loc _, _, _, _, h => by simp only [D.py] at h; cases h
  | .exn _ _ _ _, _, _, _, h => by simp only [D.py] at h; cases h
  | .obj _ _ _, _, _, _, h => by simp only [D.py] at h; cases h
theorem Reps.dp (hs : Same G H) : ∀ {ds : List D} {vs : List V} {ps : List PyData}, Reps K L G ds vs → D.pys ds = some ps → DpAll K H vs ps
  | [], vs, ps, r, h => by
    rw [r.inv_nil]
    simp only [D.pys, Option.some.injEq] at h
    subst h
    exact .nil
  | d :: ds, vs, ps, r, h => by
    obtain ⟨v, q, rfl, r1, r2⟩ := r.inv_cons
    simp only [D.pys, Option.bind_eq_some_iff, Option.map_eq_some_iff] at h
    obtain ⟨p, h1, ps', h2, rfl⟩ := h
    exact .cons (Rep.dp hs r1 h1) (Reps.dp hs r2 h2)
end
end
section
variable {X : Cx} {W : WX} {k : Nat} {μ : List M} {da db : D} {p q : PyData}
theorem py_nodict : ∀ {d : D} {p : PyData}, D.py d = some p → p.hasDict = false := by
  have both : ∀ n : Nat, (∀ (d : D) (p : PyData), sizeOf d < n → D.py d = some p → p.hasDict = false) ∧ (∀ (ds : List D) (ps : List PyData), sizeOf ds < n → D.pys ds = some ps → PyData.hasDictAll ps = false) := by
    intro n
    induction n with
    | zero => exact ⟨fun _ _ h => absurd h (Nat.not_lt_zero _), fun _ _ h => absurd h (Nat.not_lt_zero _)⟩
    | succ n ih =>
      refine ⟨fun d p hn h => ?_, fun ds ps hn h => ?_⟩
      · cases d with
        | non => simp only [D.py, Option.some.injEq] at h; subst h; simp only [PyData.hasDict]
        | bl b => simp only [D.py, Option.some.injEq] at h; subst h; simp only [PyData.hasDict]
        | int b => simp only [D.py, Option.some.injEq] at h; subst h; simp only [PyData.hasDict]
        | str b => simp only [D.py, Option.some.injEq] at h; subst h; simp only [PyData.hasDict]
        | tup ds =>
          simp only [D.py, Option.map_eq_some_iff] at h
          obtain ⟨ps, h1, rfl⟩ := h
          simp only [PyData.hasDict]
          exact ih.2 ds ps (by simp at hn; omega) h1
        | lst ds =>
          simp only [D.py, Option.map_eq_some_iff] at h
          obtain ⟨ps, h1, rfl⟩ := h
          simp only [PyData.hasDict]
          exact ih.2 ds ps (by simp at hn; omega) h1
        | scr ds =>
          simp only [D.py, Option.map_eq_some_iff] at h
          obtain ⟨ps, h1, rfl⟩ := h
          simp only [PyData.hasDict]
          exact ih.2 ds ps (by simp at hn; omega) h1
        | ref _ => simp only [D.py] at h; cases h
        | ty _ => simp only [D.py] at h; cases h
        | loc _ => simp only [D.py] at h; cases h
        | exn _ _ _ _ => simp only [D.py] at h; cases h
        | obj _ _ _ => simp only [D.py] at h; cases h
      · cases ds with
        | nil => simp only [D.pys, Option.some.injEq] at h; subst h; simp only [PyData.hasDictAll]
        | cons d ds =>
          simp only [D.pys, Option.bind_eq_some_iff, Option.map_eq_some_iff] at h
          obtain ⟨p, h1, ps', h2, rfl⟩ := h
          simp only [PyData.hasDictAll, Bool.or_eq_false_iff]
          exact ⟨ih.1 d p (by simp at hn; omega) h1, ih.2 ds ps' (by simp at hn; omega) h2⟩
  intro d p h
  exact (both (sizeOf d + 1)).1 d p (Nat.lt_succ_self _) h
/-- repr(x) of plain data -/
theorem cb_repr (g : Gd X W k) (h : D.py da = some p) (hs : p.showable = true) (hz : p.shown.length ≤ sizeLine) (hd : p.depth ≤ 100) (hk : 60 ≤ k := by decide) : CallO X W (fun us => call (.builtin "repr") us) [da] μ (.ret (.str p.shown) μ) := by
  intro pins s σ H xs us Q L G I rx ok r co
  obtain ⟨v, rfl, rv⟩ := r.one
  obtain ⟨u, rfl, ru⟩ := rx.one
  have dp := rv.dp ok.sub h
  obtain ⟨as, rd⟩ := Dp.reads I p v u dp ru
  have fin : ∀ (h' : Heap) (t : Tok) (tk : Nat), (∀ b o, s.heap.get? b = some o → h'.get? b = some o) → EP X pins σ Q (.str p.shown t) { s with heap := h', toks := tk } := fun h' t tk kk => ⟨.str p.shown, H, I.kept (t' := tk) kk, ⟨t, rfl⟩, CO.now (W := W) (σ := σ) co ok (rep_str.mpr rfl)⟩
  have un := g.hr.un
  cases rd with
  | none => exact PySem.P.repr_of_none (by have := fin s.heap s.toks (s.toks + 1) (fun _ _ e => e); simpa only [PyData.shown] using this)
  | bool b => exact PySem.P.repr_of_bool (by have := fin s.heap s.toks (s.toks + 1) (fun _ _ e => e); simpa only [PyData.shown] using this)
  | int i t => exact PySem.P.repr_of_int (by simpa [PyData.showable] using hs) (by have := fin s.heap s.toks (s.toks + 1) (fun _ _ e => e); simpa only [PyData.shown] using this)
  | str x t => exact PySem.P.repr_of_str (by have := fin s.heap s.toks (s.toks + 1) (fun _ _ e => e); simpa only [PyData.shown] using this) (by simpa only [PyData.shown] using hz)
  | list h1 h2 h3 h4 => exact repr_of_reads' (.list h1 h2 h3 h4) hs (PyData.noDict_hsm (py_nodict h)) (g.gr.none hk) (by omega) (fun _ _ e => e) (fun h' u tk hk => fin h' u tk hk) hz
  | tuple h1 h2 h3 h4 => exact repr_of_reads' (.tuple h1 h2 h3 h4) hs (PyData.noDict_hsm (py_nodict h)) (g.gr.none hk) (by omega) (fun _ _ e => e) (fun h' u tk hk => fin h' u tk hk) hz
  | dict h1 h2 h3 h4 h5 => exact absurd (py_nodict h) (by simp [PyData.hasDict])
end

/-! ### texts -/
section
variable {X : Cx} {W : WX} {k : Nat} {ρ : Env'} {μ μ1 μ2 : List M} {e : Expr} {es : List Expr} {pos : Pos} {x y : Str} {i : Int}
theorem ev_fmtI (h : PE X e (tV X.K ρ μ (.int i) μ1)) (hz : i.natAbs.log2 < 1920) : PE X (.FormattedValue e (-1) none pos) (tV X.K ρ μ (.str (toString i)) μ1) :=
  pe_of (pe_fmt h) fun σ H Q ⟨L, G, n, c⟩ => ⟨L, G, n, fun v L1 G1 H1 s1 o1 r1 => .inr ⟨i, rep_int.mp r1, hz, c _ L1 G1 H1 s1 o1 (rep_str.mpr rfl)⟩⟩
/-- the parts of an f-string -/
inductive EvJ (X : Cx) (ρ : Env') : List Expr → Str → List M → Str → List M → Prop
  | nil {acc : Str} {μ : List M} : EvJ X ρ [] acc μ acc μ
  | cons {e : Expr} {es : List Expr} {acc x out : Str} {μ μ1 μ2 : List M} : PE X e (tV X.K ρ μ (.str x) μ1) → (acc ++ x).length ≤ sizeLine → EvJ X ρ es (acc ++ x) μ1 out μ2 → EvJ X ρ (e :: es) acc μ out μ2
theorem evj_read {es : List Expr} {acc out : Str} (h : EvJ X ρ es acc μ out μ2) : ∃ ts, PJ X es ts ∧ ∀ σ H (Q : Str → Hp → Prop), (∃ L G, Now X.K L G H μ ρ σ ∧ ∀ L' G' H', Step L G H L' G' H' → Ok X.K L' G' H' μ2 → Q out H') → tJs ts acc σ H Q := by
  induction h with
  | nil => exact ⟨[], .nil, fun σ H Q ⟨L, G, n, c⟩ => c L G H (.refl _ _ _) n.ok⟩
  | cons h1 hz h2 ih =>
    obtain ⟨ts, pj, rd⟩ := ih
    refine ⟨_, .cons h1 pj, fun σ H Q ⟨L, G, n, c⟩ => ⟨L, G, n, fun v L1 G1 H1 s1 o1 r1 => ⟨_, rep_str.mp r1, hz, rd σ H1 Q ⟨L1, G1, n.step s1 o1, fun L' G' H' s' o' => c L' G' H' (s1.trans s') o'⟩⟩⟩⟩
theorem ev_joined {v1 v2 : Expr} {rest : List Expr} {out : Str} (h : EvJ X ρ (v1 :: v2 :: rest) Str.empty μ out μ1) : PE X (.JoinedStr (v1 :: v2 :: rest) pos) (tV X.K ρ μ (.str out) μ1) := by
  obtain ⟨ts, pj, rd⟩ := evj_read h
  exact pe_of (pe_joined pj) fun σ H Q ⟨L, G, n, c⟩ => rd σ H _ ⟨L, G, n, fun L' G' H' s' o' => c _ L' G' H' s' o' (rep_str.mpr rfl)⟩
end
end PM
set_option Elab.async false
set_option linter.all false
set_option maxRecDepth 100000
set_option maxHeartbeats 2000000
namespace PM
open PySem L2

/-! ### the law's own call -/
/-- the law: the script in, True out -/
def RLaw (good : List Int → Prop) : Rl := fun ds μ o => ∃ ns : List Int, good ns ∧ μ = [] ∧ ds = [.scr (ns.map D.int)] ∧ o = .ret (.bl true) []
section
variable {P : Program} {w : World} {K : PySem.W.Frag} {mg mb : Str → Option Value} {k : Nat} {fa a : Addr} {fd : FuncData} {x : Str} {s1 : Shared} {vs : List Value} {ns : List Int} {good : List Int → Prop}
/-- one heap that tells of the script at most -/
theorem law_one (kin : K.In s1.heap) (gl : s1.heap.Ns mainGlobals mg) (bl : s1.heap.Ns builtinsNs mb) (bb : ∀ x : Str, x ≠ "__name__" → mb x = bootBuiltins x) (lim : s1.heap.NoLimit) (gens : s1.gens = #[])
    (scr : s1.heap.get? a = some { cls := .type "list", data := .seq vs.toArray }) (room : Room k callerA) (F : ∀ base : Heap, K.In base → base.Ns mainGlobals mg → FnG P w K mg base k fa fd [x] (spR K (RLaw good)))
    (bnd : ∀ (s : Shared) (u : Value), BindsTo s fd ⟨[u], []⟩ [(x, u)]) (hgood : good ns) (H : Hp) (only : Only H) (sq : SqL K H a (ns.map V.int)) (hok : HOk P w H s1.heap) (hA : ∀ b, H b ≠ none → b = a) (hK : H a ≠ none → K.lookup a = none) :
    codeAny (model P w) callerA (.call (.ref fa) ⟨[.ref a], []⟩) (fun r s' => r = .ok (.ret (.bool true)) ∧ OldK s1.heap s'.heap ∧ s'.os = s1.os ∧ PyProof.Rows.AllBare s'.gens) s1 := by
  have hidden : ∀ {b : Addr} {o : Obj}, s1.heap.get? b = some o → H b = none → (hidT s1.heap H).get? b = some o := fun e n => hidT_get e n
  have isA : ∀ {b : Addr} {u : HO}, H b = some u → b = a := fun {b u} q => hA b fun z => by rw [z] at q; cases q
  have dictFree : ∀ {b : Addr} {o : Obj} {es : Array DictEntry} {ep : Nat}, s1.heap.get? b = some o → o.data = .dict es ep → H b = none := by
    intro b o es ep e d
    cases q : H b with
    | none => rfl
    | some u =>
      obtain rfl := isA q
      rw [scr] at e
      cases e
      cases (show Data.seq vs.toArray _ = Data.dict es ep from d)
  have names : ∀ {b : Addr} {m : Str → Option Value}, s1.heap.Ns b m → (hidT s1.heap H).Ns b m := fun {b m} ⟨o, es, ep, e, d, r⟩ => ⟨o, es, ep, hidden e (dictFree e d), d, r⟩
  have kin0 : K.In (hidT s1.heap H) := by
    intro b o e
    refine hidden (kin b o e) ?_
    cases q : H b with
    | none => rfl
    | some u =>
      obtain rfl := isA q
      rw [hK (by rw [q]; intro z; cases z)] at e
      cases e
  obtain ⟨mc, lim1, lim2⟩ := lim
  have en : Env0 P w K mg (hidT s1.heap H) callerA [] s1 H := ⟨rfl, ⟨kin0, names gl, ⟨mb, names bl, bb⟩, ⟨mc, names lim1, lim2⟩⟩, fun b o e => of_hidT e, Nat.le_of_eq (hidT_size _ _), trivial, fun b hb => absurd (show b ∈ ([] : List Addr) from hb) (by simp), hok, .of_eq gens⟩
  have said : spR K (RLaw good) [.ref a] H (fun v _ => v = .bl true) (fun _ _ _ => False) := by
    refine ⟨[], H, [.scr (ns.map D.int)], [], .ret (.bl true) [], ⟨fun _ _ e => e, rfl, List.nodup_nil, fun b hb => absurd hb (by simp), fun b hb => absurd hb (by simp), fun n b m e => by simp at e⟩, Reps.cons (rep_scr.mpr ⟨a, _, rfl, sq, ints_reps ns⟩) Reps.nil, ⟨ns, hgood, rfl, rfl, rfl⟩, fun v L' G' H' _ _ r => rep_bl.mp r⟩
  refine codeAny_mono ((F _ kin0 (names gl)).run callerA [] s1 H ⟨[.ref a], []⟩ [.ref a] [.ref a] _ _ room (Gr.of rfl) en (bnd s1 (.ref a)) (.cons rfl .nil) said) fun r s' h => ?_
  match r, h with
  | .error e, ⟨_, _, _, _, _, _, _, _, _, _, _, _, z⟩ => exact z.elim
  | .ok .next, h => exact False.elim h
  | .ok .brk, h => exact False.elim h
  | .ok .cont, h => exact False.elim h
  | .ok (.ret u), ⟨v, H', os, bare, un, hok', ru, q⟩ =>
    have ev : v = .bl true := q
    subst ev
    obtain rfl : u = Value.bool true := ru
    refine ⟨rfl, OldK.of_keep fun b o e => ?_, os, bare⟩
    cases q : H b with
    | none => exact un.keep b o e q (by intro z; exact absurd (show b ∈ ([] : List Addr) from z) (by simp)) (by simp)
    | some u =>
      rcases only b with z | ⟨ob, xs, z⟩
      · rw [q] at z; cases z
      · have before := (hok b _ z).1
        have behind := (hok' b _ (un.frzs b ob _ z)).1
        rw [e] at before
        cases before
        exact behind
theorem law_callG (kin : K.In s1.heap) (gl : s1.heap.Ns mainGlobals mg) (bl : s1.heap.Ns builtinsNs mb) (bb : ∀ x : Str, x ≠ "__name__" → mb x = bootBuiltins x) (lim : s1.heap.NoLimit) (gens : s1.gens = #[])
    (scr : s1.heap.get? a = some { cls := .type "list", data := .seq vs.toArray }) (isI : PyProof.Rows.IntsAre vs ns) (hl : ns.length ≤ sizeLine) (room : Room k callerA) (F : ∀ base : Heap, K.In base → base.Ns mainGlobals mg → FnG P w K mg base k fa fd [x] (spR K (RLaw good)))
    (bnd : ∀ (s : Shared) (u : Value), BindsTo s fd ⟨[u], []⟩ [(x, u)]) (hgood : good ns) :
    codeAny (model P w) callerA (.call (.ref fa) ⟨[.ref a], []⟩) (fun r s' => r = .ok (.ret (.bool true)) ∧ OldK s1.heap s'.heap ∧ s'.os = s1.os ∧ PyProof.Rows.AllBare s'.gens) s1 := by
  have rel := vals_ints isI
  cases hk : K.lookup a with
  | some o =>
    have e := kin a o hk
    rw [scr] at e
    cases e
    exact law_one kin gl bl bb lim gens scr room F bnd hgood (fun _ => none) (fun _ => .inl rfl) (.inr ⟨_, vs.toArray, _, hk, rfl, rfl, rfl, by rw [List.size_toArray, isI.length]; exact hl, by simpa using rel⟩)
      (fun b u z => nomatch z) (fun b z => absurd rfl z) (fun z => absurd rfl z)
  | none =>
    refine law_one kin gl bl bb lim gens scr room F bnd hgood (upd (fun _ => none) a (.frz { cls := .type "list", data := .seq vs.toArray } (.lst (ns.map V.int)))) (fun b => ?_) (.inl (.inr ⟨_, upd_same⟩)) (fun b u z => ?_) (fun b z => ?_) (fun _ => hk)
    · by_cases hb : b = a
      · rw [hb, upd_same]
        exact .inr ⟨_, _, rfl⟩
      · exact .inl (upd_ne hb)
    · by_cases hb : b = a
      · subst hb
        rw [upd_same] at z
        cases z
        exact ⟨scr, by rw [List.length_map]; exact hl, vs, _, rel, scr⟩
      · rw [upd_ne hb] at z
        cases z
    · by_cases hb : b = a
      · exact hb
      · exact absurd (upd_ne hb) z
end
/-- what is known of a script -/
structure Scr (ns : List Int) : Prop where
  len : ns.length ≤ 63
  bits : ∀ z ∈ ns, Builtin.Int.intBits z ≤ 1048576
theorem walkG {l : PySem.W.OpenLaw} {k : Nat} {q : Program} {loose : List Str} {XP : (Str → Option Value) → Heap → Prop} {YP : World → Heap → Prop} {d : DefRec} {K : Params → PySem.W.Frag} {x : Str}
    (hn : l.most = some 63) (hdf : d.params.defaults = []) (room : Room k callerA) (hY : ∀ (w : World) (h : Heap), YP w h → (K w.params).In h)
    (F : ∀ (w : World) (mg : Str → Option Value) (fa : Addr) (h : Heap), (K w.params).In h → h.Ns mainGlobals mg → mg d.name = some (.ref fa) →
      ∃ fd : FuncData, (∀ (s : Shared) (u : Value), BindsTo s fd ⟨[u], []⟩ [(x, u)]) ∧ ∀ base : Heap, (K w.params).In base → base.Ns mainGlobals mg → FnG l.prog w (K w.params) mg base k fa fd [x] (spR (K w.params) (RLaw Scr))) :
    PySem.W.WalkO q loose XP YP l.row.toRowW d [] (fun f vs => PySem.call f vs) := by
  refine Att.attach_callB hn hdf fun w s0 s1 mg mb fa o pm cd doc a vs ns G Y ho hd hcd hmg hobj hints hlen hbits hg => ?_
  have kin := hY w _ Y
  obtain ⟨fd, hb, hF⟩ := F w mg fa _ kin G.T.g hmg
  exact law_callG kin G.T.g G.T.b G.T.builtins G.T.nolimit hg hobj hints (Nat.le_trans hlen (by decide)) room hF hb ⟨hlen, hbits⟩
end PM
set_option Elab.async false
set_option linter.all false
set_option maxRecDepth 100000
namespace PM
open PySem L2
section
variable {X : Cx} {W : WX} {k : Nat} {e : Expr} {A B body : List Stmt} {pos : Pos} {ρ : Env'} {μ μ1 : List M} {q : Out} {b : Bool} {tg : Expr} {ds : List D}
/-- a while whose state is told by one value -/
theorem es_whileM {S : Type} (ρ : S → Env') (μ : S → List M) (m : S → Nat) (c : S → Bool) (nx fin : S → S) (g : Gd X W k) (s : S)
    (hc : ∀ s, PT X e (tVT X.K (ρ s) (μ s) (c s) (μ s))) (hb : ∀ s, c s = true → PSs X body (tS W X.K (ρ s) (μ s) (.next (ρ (nx s)) (μ (nx s)))))
    (hm : ∀ s, c s = true → m (nx s) < m s) (hf : ∀ s, c s = false → fin s = s) (hf' : ∀ s, c s = true → fin (nx s) = fin s) :
    PS X (.While e body [] pos) (tS W X.K (ρ s) (μ s) (.next (ρ (fin s)) (μ (fin s)))) := by
  have go : ∀ n s, m s = n → ∃ j, EvWh X W e body j (ρ s) (μ s) (.next (ρ (fin s)) (μ (fin s))) := by
    intro n
    induction n using Nat.strongRecOn with
    | _ n ih =>
      intro s hs
      cases h : c s with
      | false => exact ⟨0, by rw [hf s h]; exact .stop (h ▸ hc s) (Sub.refl _)⟩
      | true =>
        obtain ⟨j, h2⟩ := ih (m (nx s)) (by rw [← hs]; exact hm s h) (nx s) rfl
        rw [hf' s h] at h2
        exact ⟨j + 1, .next (h ▸ hc s) (hb s h) h2⟩
  obtain ⟨j, h⟩ := go _ s rfl
  exact es_while g h
theorem es_ifT (h : PT X e (tVT X.K ρ μ b μ1)) (hb : b = true) (h1 : PSs X A (tS W X.K ρ μ1 q)) : PS X (.If e A B pos) (tS W X.K ρ μ q) := es_if h (fun _ => h1) fun z => by rw [hb] at z; cases z
theorem es_ifF (h : PT X e (tVT X.K ρ μ b μ1)) (hb : b = false) (h1 : PSs X B (tS W X.K ρ μ1 q)) : PS X (.If e A B pos) (tS W X.K ρ μ q) := es_if h (fun z => by rw [hb] at z; cases z) fun _ => h1
end
end PM
set_option Elab.async false
set_option linter.all false
set_option maxRecDepth 100000
namespace PM
open PySem L2 PyProof.Rows
section
variable {K : PySem.W.Frag} {C B : Addr}
/-- an error of the class C is what «except B» names -/
theorem exm_of (h1 : PySem.W.subIn K (.ref B) (.type "BaseException") = some true) (h2 : PySem.W.isClsIn K B = true) (h3 : PySem.W.typeIn K (.ref B) = some (.type "type")) {b : Bool} (h4 : PySem.W.subIn K (.ref C) (.ref B) = some b) :
    PySem.W.exmOne K (.ref C) (.ref B) = some b := by
  have h2' : (PySem.W.clsIn K B).isSome = true := h2
  unfold PySem.W.exmOne PySem.W.kitCls
  simp only [h1, h2', h3, h4, beq_self_eq_true, Bool.and_self, if_true]
theorem mro_of {o : Value} {d : Option Addr} {cd : ClassData} {sl : Array (Option Value)} {l : List Value} (h : K.lookup C = some ⟨o, d, .cls cd, sl⟩) (e : cd.mro = l) : (PySem.W.clsIn K C).map (·.mro) = some l := by
  unfold PySem.W.clsIn
  rw [h, ← e]
  rfl
end
/-! ### a op= b on an own class: as a op b -/
section
variable {prog : Program} {w : World} {M : Model} {A : Around} {E : Value → Shared → Prop} {s : Shared} {K : PySem.W.Frag} {x C L f : Addr} {h₀ : Heap} {m : Str → Option Value} {ox : Obj} {od : Option Obj} {nm T : String}
end
end PM
set_option Elab.async false
set_option linter.all false
set_option maxRecDepth 100000
namespace PM
open PySem L2
/-! ### a op= b -/
section
variable {X : Cx} {W : WX} {k j : Nat} {ps : List Str} {R : Rl} {f C : Addr} {fd : FuncData} {μ μ1 μ2 : List M} {o : FO} {da db d : D} {ns ns' : List Str} {fs fs' : List D} {op : Operator} {ρ : Env'} {e : Expr} {pos : Pos} {x : Str}
end
/-! ### calls by names -/
/-- how values are put in the parameters' order: positional ones, then those of the keywords -/
def pick {α : Type} (p : List Nat) (l : List α) : List α := p.filterMap (l[·]?)
structure KwB (K : PySem.W.Frag) (fd : FuncData) (ps : List Str) (n : Nat) (ks : List Str) (p : List Nat) : Prop where
  to : ∀ (s : Shared) (us ws : List Value), K.In s.heap → us.length = n → ws.length = ks.length → BindsTo s fd ⟨us, ks.zip ws⟩ (ps.zip (pick p (us ++ ws)))
  le : ∀ i ∈ p, i < n + ks.length
theorem pick_vals {p : List Nat} {vs : List V} {us : List Value} (r : Vals vs us) : Vals (pick p vs) (pick p us) := by
  induction p with
  | nil => exact .nil
  | cons a p ih =>
    unfold pick at ih ⊢
    rw [List.filterMap_cons, List.filterMap_cons]
    by_cases h : a < vs.length
    · obtain ⟨u, e1, e2⟩ := r.get (List.getElem?_eq_getElem h)
      rw [List.getElem?_eq_getElem h, e1]
      exact .cons e2 ih
    · rw [List.getElem?_eq_none (by omega), List.getElem?_eq_none (by rw [← r.length]; omega)]
      exact ih
theorem pick_reps {K : PySem.W.Frag} {L : List Addr} {G : Hp} {p : List Nat} {ds : List D} {vs : List V} (r : Reps K L G ds vs) : Reps K L G (pick p ds) (pick p vs) := by
  induction p with
  | nil => exact Reps.nil
  | cons a p ih =>
    unfold pick at ih ⊢
    rw [List.filterMap_cons, List.filterMap_cons]
    by_cases h : a < ds.length
    · obtain ⟨v, e1, e2⟩ := r.get (List.getElem?_eq_getElem h)
      rw [List.getElem?_eq_getElem h, e1]
      exact Reps.cons e2 ih
    · rw [List.getElem?_eq_none (by omega), List.getElem?_eq_none (by rw [r.length]; omega)]
      exact ih
section
variable {X : Cx} {W : WX} {k j n : Nat} {ps ks : List Str} {p : List Nat} {R : Rl} {f C : Addr} {fd : FuncData} {ds es' : List D} {μ μ1 μ2 : List M} {o : FO} {e : Expr} {es : List Expr} {x m : Str} {pp pos apos kpos : Pos} {ρ : Env'} {d : D} {kws : List Keyword} {nm : Option Str}
theorem pk_of {t t' : TA} (h : PK X kws t) (w : ∀ σ H Q, t' σ H Q → t σ H Q) : PK X kws t' := ⟨fun pos pins s σ H Q I q => h.run pos pins s σ H Q I (w _ _ _ q)⟩
end
end PM
set_option Elab.async false
set_option linter.all false
set_option maxRecDepth 100000
namespace PM
open PySem L2
theorem Gd.w0 {X : Cx} {W : WX} {k : Nat} (g : Gd X W k) : Gd X W0 k := ⟨g.calm, g.nd, g.tk.imp fun _ _ _ _ z => False.elim z, g.po, g.hr, g.gr⟩
/-! ### the rules where a value comes -/
section
variable {X : Cx} {W : WX} {k j i : Nat} {ps : List Str} {R : Rl} {f C : Addr} {fd : FuncData} {ds : List D} {μ μ1 μ2 μ3 : List M} {e a b c : Expr} {es : List Expr} {x m : Str} {p pos apos : Pos} {ρ : Env'} {d d' da db : D} {id T : String} {t : Bool}
theorem es_retV (h : PE X e (tV X.K ρ μ d μ1)) : PS X (.Return (some e) pos) (tS W X.K ρ μ (.ret d μ1)) := es_ret (o := .ret d μ1) h
theorem es_setV (i : Nat) (nd : X.N.Nodup) (h : PE X e (tV X.K ρ μ d μ1)) {pos' : Pos} (hi : X.N[i]? = some x := by rfl) (hx : Loc X.env.scope x := by first | exact Or.inl rfl | exact Or.inr rfl) (hs : swapsWith e (some (.Name x pos')) pos.line X.env = pure false := by rfl)
    (hf : X.fn x = true ∨ X.env.scope.names.lookup x = some .local := by first | exact .inl rfl | exact .inr rfl | assumption) : PS X (.Assign [.Name x pos'] e pos) (tS W X.K ρ μ (.next (ρ.set i (some d)) μ1)) := es_set i nd (o := .ret d μ1) h hi hx hs hf
theorem ev_opV {op : Operator} (ha : PE X a (tV X.K ρ μ da μ1)) (hb : PE X b (tV X.K ρ μ1 db μ2)) (ho : OpO X W (binaryOp op) da db μ2 (.ret d μ3)) : PE X (.BinOp a op b pos) (tV X.K ρ μ d μ3) := ev_op ha hb ho
theorem ev_opI {op : Operator} (ha : PE X a (tV X.K ρ μ da μ1)) (hb : PE X b (tV X.K ρ μ1 db μ2)) (ho : OpO X W0 (binaryOp op) da db μ2 (.ret d μ3)) : PE X (.BinOp a op b pos) (tV X.K ρ μ d μ3) := ev_op (o := .ret d μ3) ha hb ho
theorem ev_cmpV {op : CmpOp} (ha : PE X a (tV X.K ρ μ da μ1)) (hb : PE X b (tV X.K ρ μ1 db μ2)) (ho : OpO X W0 (compareOp op) da db μ2 (.ret d μ3)) (hm : behindInMarks op b = false := by first | exact nomark _ | rfl) : PE X (.Compare a [op] [b] pos) (tV X.K ρ μ d μ3) := ev_cmp (o := .ret d μ3) ha hb ho hm
theorem ev_unV {op : UnaryOp} (ha : PE X a (tV X.K ρ μ da μ1)) (ho : UnO X W (unaryOp op) da μ1 (.ret d μ2)) : PE X (.UnaryOp op a pos) (tV X.K ρ μ d μ2) := ev_un ha ho
theorem ev_unI {op : UnaryOp} (ha : PE X a (tV X.K ρ μ da μ1)) (ho : UnO X W0 (unaryOp op) da μ1 (.ret d μ2)) : PE X (.UnaryOp op a pos) (tV X.K ρ μ d μ2) := ev_un (o := .ret d μ2) ha ho
theorem ev_bltV (ha : PA X (e :: es) (tVA X.K ρ μ ds μ1)) (hf : CallO X W0 (fun us => call (.builtin id) us) ds μ1 (.ret d μ2)) (hm : X.mg x = none) (hv : bootBuiltins x = some (.builtin id)) (hg : Gl X x := by rfl) (hn : x ≠ "__name__" := by decide) (hdb : (x == ("__debug__" : Str)) = false := by decide) (he : starEach (e :: es) X.env = (false, eval e X.env) :: starEach es X.env := by rfl) (hpl : (backTo pos (starEach es X.env)).any (·.1) = false := by rfl) :
    PE X (.Call (.Name x p) (e :: es) [] pos) (tV X.K ρ μ d μ2) := ev_blt (o := .ret d μ2) ha hf hm hv hg hn hdb he hpl
theorem ev_callV (g : Gd X W k) (c : Cal X.prog X.w X.K X.mg X.base j ps R f fd) (hm : X.mg x = some (.ref f)) (hk : PySem.W.keepIn X.K (.ref f) = true) (ha : PA X (e :: es) (tVA X.K ρ μ ds μ1)) (hR : R ds μ1 (.ret d μ2)) (hj : j ≤ k := by decide) (hg : Gl X x := by rfl) (hdb : (x == ("__debug__" : Str)) = false := by decide) (he : starEach (e :: es) X.env = (false, eval e X.env) :: starEach es X.env := by rfl) (hpl : (backTo pos (starEach es X.env)).any (·.1) = false := by rfl) :
    PE X (.Call (.Name x p) (e :: es) [] pos) (tV X.K ρ μ d μ2) := ev_call (o := .ret d μ2) g c hm hk ha hR hj hg hdb he hpl
theorem ev_oneV {op} (h : PE X a (tV X.K ρ μ d μ1)) : PE X (.BoolOp op [a] pos) (tV X.K ρ μ d μ1) := ev_one (W := W0) (o := .ret d μ1) h
end
end PM
set_option Elab.async false
set_option linter.all false
set_option maxRecDepth 100000
namespace PM
open PySem L2
/-! ### statements whose end is known by a property alone -/
section
variable {X : Cx} {W : WX} {k : Nat} {e tg : Expr} {body rest ss A B : List Stmt} {st : Stmt} {pos : Pos} {ds : List D} {ρ ρ0 ρ1 : Env'} {μ μ0 μ1 : List M} {q : Out} {L : Out → Prop} {b : Bool}
def Evs (X : Cx) (W : WX) (ss : List Stmt) (ρ : Env') (μ : List M) (L : Out → Prop) : Prop := ∃ q, L q ∧ PSs X ss (tS W X.K ρ μ q)
/-- the end of a loop's body: the names as at its begin, something known of the store -/
def Nx (ρ0 : Env') (Iv : List M → Prop) : Out → Prop := fun q => ∃ ρ2 μ2, (q = .next ρ2 μ2 ∨ q = .cont ρ2 μ2) ∧ Iv μ2 ∧ Sub ρ0 ρ2
end
end PM
set_option Elab.async false
set_option linter.all false
set_option maxRecDepth 100000
namespace PM
open PySem L2 PyProof.Rows
/-! ### an int, or another plain thing, ahead of an own instance -/
section
variable {i : Int} {t : Tok} {x C dx : Addr}
/-- what a builtin answers that does not know the other side -/
abbrev Declines (x C dx : Addr) : PySem.Spec := fun _ R s => s.heap.get? x = some (PySem.W.instObj C dx) ∧ R (.ok (.ret .notImplemented)) s
theorem dec_le : Meets (Builtin.«int.__le__» ⟨[.int i t, .ref x], []⟩) (Declines x C dx) :=
  .of_wp fun prog w A R s h => by obtain ⟨hp, g, d, tk, os⟩ := s; obtain ⟨hl, h⟩ := h; wp_walk using wpAny_loadPart' hl; exact ⟨_, rfl, h⟩
end
section
variable {prog : Program} {w : World} {A : Around} {E : Value → Shared → Prop} {s : Shared} {K : PySem.W.Frag} {x C dx f : Addr} {od : Option Obj} {T id : String} {B : Builtin} {a : Value}
open PySem.W in
theorem refl_cmp {op : CmpOp} {Q : Value → Shared → Prop} (hu : A.units < cLine) (Y : K.In s.heap) (I : InstAt s.heap x (instObj C dx) C od) (ha : s.TypeIs a T) (h1 : oneThing? op a (.ref x) = none) (hsub : subIn K (.ref C) (.type T) = some false)
    (slot : Slot T (cmpInfo op).2.1 id) (entry : entryFor table id = some B) (args : argsOk id ⟨[a, .ref x], []⟩) (dec : Meets (B ⟨[a, .ref x], []⟩) (Declines x C dx)) (hs : findIn K (.ref C) (cmpInfo op).2.2 = some (some (.ref f))) (hf : isFn K (.ref f) = true)
    (h : wpAny (model prog w) A (call (.ref f) [.ref x, a]) (PySem.W.CmpBack Q) E s) : wpAny (model prog w) A (richCompare op a (.ref x)) Q E s := by
  have one : wpAny (model prog w) A (tryCompare (.ref x) (cmpInfo op).2.2 a) (fun r s' => ∃ v, r = some v ∧ Q v s') E s := by
    unfold tryCompare
    refine wpAny_bind (ifBound_K Y I hs hf (wpAny_mono h (fun v s' hv => ?_) fun _ _ e => e))
    cases v <;> first | exact hv.elim | exact wpAny_pure ⟨_, rfl, hv⟩
  unfold richCompare
  simp only [h1]
  refine wpAny_holding (wpAny_bind (wpAny_cRoomFor hu ?_))
  refine wpAny_bind (wpAny_typeOf ha (wpAny_bind (I.type.here ?_)))
  have ne : (Value.type T != Value.ref C) = true := rfl
  simp only [ne, if_true]
  refine wpAny_bind ((looks_subIn Y hsub).here ?_)
  simp only [Bool.false_eq_true, if_false]
  refine wpAny_bind (wpAny_tryCompare_declines ha slot (call_meets slot ha entry args dec ⟨I.at_, rfl, ?_⟩))
  simp only [Bool.not_false, if_true]
  refine wpAny_bind (wpAny_mono one (fun r s' z => ?_) fun _ _ e => e)
  obtain ⟨v, rfl, hq⟩ := z
  exact wpAny_pure hq
end
/-! ### by data -/
section
variable {X : Cx} {W : WX} {k j : Nat} {ps : List Str} {R : Rl} {f C : Addr} {fd : FuncData} {μ : List M} {o : FO} {da : D} {ns : List Str} {fs : List D} {i : Int}
theorem inst_at2 {pins : List (Addr × Obj)} {σ : L2.St} {H : Hp} {s : Shared} {a dx : Addr} {gs : List (Str × V)} (I : Inv X pins σ H s) (e : H a = some (.ins C dx gs)) : ∃ dx od, PySem.W.InstAt s.heap a (PySem.W.instObj C dx) C (some od) := by
  obtain ⟨mA, O, _⟩ := ins_get I.hok e
  obtain ⟨od, J, _⟩ := O.look
  exact ⟨_, od, J⟩
theorem sub_own (oc : OwnC X.K C) {T : String} (hT : T ≠ "object") : PySem.W.subIn X.K (.ref C) (.type T) = some false := by
  show PySem.W.mroIn X.K C (.type T) = _
  rw [oc.mroIn]
  simp [hT]
/-- n cmp a, n an int -/
theorem oc_intOwn {op : CmpOp} {id : String} {B : Builtin} (g : Gd X W k) (oc : OwnC X.K C) (h1 : ∀ (t : Tok) (x : Addr), oneThing? op (.int i t) (.ref x) = none) (slot : Slot "int" (cmpInfo op).2.1 id) (entry : entryFor table id = some B) (args : ∀ a b, argsOk id ⟨[a, b], []⟩)
    (dec : ∀ (t : Tok) (x dx : Addr), Meets (B ⟨[.int i t, .ref x], []⟩) (Declines x C dx)) (hs : PySem.W.findIn X.K (.ref C) (cmpInfo op).2.2 = some (some (.ref f))) (hf : PySem.W.isFn X.K (.ref f) = true)
    (c : Cal X.prog X.w X.K X.mg X.base j ps R f fd) (hR : R [.obj C ns fs, .int i] μ o) (hj : j ≤ k := by decide) : OpO X W (richCompare op) (.int i) (.obj C ns fs) μ o := by
  intro pins s σ H x y v u Q L G I rx ry ok r1 r2 co
  obtain ⟨a, dx, vs, rfl, q, _⟩ := rep_obj.mp r2
  cases ry
  obtain ⟨dx, od, J⟩ := inst_at2 I (ok.sub _ _ q)
  have ey := rep_int.mp r1
  subst ey
  have rx' := rx
  obtain ⟨t, rfl⟩ := rx'
  exact refl_cmp (by have := g.hr.un; omega) I.kIn J (typeIs_int s i t) (h1 t a) (sub_own oc (by decide)) slot entry (args _ _) (dec t a dx) hs hf (wpAny_mono (c.run g hj hR pins s σ H [.ref a, .int i] [.ref a, .int i t] Q L G I (.cons rfl (.cons ⟨t, rfl⟩ .nil)) ok (Reps.cons r2 (Reps.cons r1 Reps.nil)) co) (fun _ _ z => back z) fun _ _ z => z)
end
end PM
set_option Elab.async false
set_option linter.all false
set_option maxRecDepth 100000
namespace PM
open PySem L2
/-! ### builtins that ask an own method -/
section
variable {X : Cx} {W : WX} {k j : Nat} {ps : List Str} {R : Rl} {f C : Addr} {fd : FuncData} {μ μ2 : List M} {d : D} {ds : List D} {ns : List Str} {fs : List D} {y : Str} {b : Bool}
/-- a call from within a builtin; the value is known to be what d tells -/
theorem Cal.runV {B : Around} {pins : List (Addr × Obj)} {s : Shared} {σ : St} {H : Hp} {xs : List V} {us : List Value} {Q : VK} {L : List Addr} {G : Hp} {E' : Value → Shared → Prop} (c : Cal X.prog X.w X.K X.mg X.base j ps R f fd) (hr : Room j B) (gr : Gr j B) (e0 : Env0 X.prog X.w X.K X.mg X.base B X.stack s H)
    (hR : R ds μ (.ret d μ2)) (I : Inv X pins σ H s) (rx : Vals xs us) (ok : Ok X.K L G H μ) (r : Reps X.K L G ds xs) (co : Comes X.K L G H d μ2 Q) : wpAny (model X.prog X.w) B (call (.ref f) us) (EP X pins σ fun v H' => (∃ L' G', Rep X.K L' G' d v) ∧ Q v H') E' s := by
  have hsp : spR X.K R xs H (fun v H' => (∃ L' G', Rep X.K L' G' d v) ∧ Q v H') (fun _ _ _ => False) := ⟨L, G, ds, μ, .ret d μ2, ok, r, hR, fun v L' G' H' s' o' r' => ⟨⟨L', G', r'⟩, co v L' G' H' s' o' r'⟩⟩
  have hl : us.length = ps.length := by rw [← rx.length]; exact c.ok.len _ _ _ _ hsp
  have bd := c.bd s us I.kIn (by rw [List.append_nil]; exact hl)
  rw [List.append_nil] at bd
  refine wpAny_call (codeAny_mono (c.ok.run B X.stack s H ⟨us, []⟩ us xs _ (fun _ _ _ => False) hr gr e0 bd rx hsp) fun r s' hq => ?_)
  cases r with
  | error er =>
    obtain ⟨_, _, _, _, _, _, _, _, _, _, _, _, z⟩ := hq
    exact z.elim
  | ok fl =>
    cases fl with
    | ret u => exact I.after hq
    | next => exact False.elim hq
    | brk => exact False.elim hq
    | cont => exact False.elim hq
end
end PM
set_option Elab.async false
set_option linter.all false
set_option maxRecDepth 100000
namespace PM
open PySem L2
section
variable {prog : Program} {w : World} {A : Around} {E : Value → Shared → Prop} {s : Shared} {K : PySem.W.Frag} {x C dx f : Addr} {od : Option Obj} {T id : String} {a : Value}
end
section
variable {X : Cx} {W : WX} {k j : Nat} {ps : List Str} {R : Rl} {f C : Addr} {fd : FuncData} {μ : List M} {o : FO} {da : D} {ns : List Str} {fs ds es : List D} {y : Str} {b : Bool}
theorem oo_catL (h : ds.length + es.length ≤ sizeLine) : OpO X W (binaryOp .Add) (.lst ds) (.lst es) μ (.ret (.lst (ds ++ es)) μ) :=
  opO_of op_cat fun σ u v H Q L G o r1 r2 c => by
    obtain ⟨a, vs, rfl, q1, s1⟩ := rep_lst.mp r1
    obtain ⟨a', vs', rfl, q2, s2⟩ := rep_lst.mp r2
    refine ⟨a, a', vs, vs', rfl, rfl, o.sub _ _ q1, o.sub _ _ q2, by rw [s1.length, s2.length]; exact h, fun p hp => ?_⟩
    refine CO.fresh (W := W) (σ := σ) c o hp (rep_lst.mpr ⟨p, vs ++ vs', rfl, upd_same, ?_⟩)
    have e := (o.new (p := p) (o := .lst (vs ++ vs')) hp).2.gs
    exact (s1.mono (Pre.refl _) e).append (s2.mono (Pre.refl _) e)
end
end PM
set_option Elab.async false
set_option linter.all false
set_option maxRecDepth 100000
namespace PM
open PySem L2
section
variable {X : Cx} {W : WX} {k : Nat} {e tg : Expr} {body rest : List Stmt} {pos : Pos} {ds : List D} {ρ : Env'} {μ0 μ1 : List M} {L : Out → Prop}
/-- the end of a loop's body: something known of names and store -/
def NxS (Iv : Env' → List M → Prop) : Out → Prop := fun q => ∃ ρ2 ρ3 μ2, (q = .next ρ2 μ2 ∨ q = .cont ρ2 μ2) ∧ Sub ρ3 ρ2 ∧ Iv ρ3 μ2
end
end PM
set_option Elab.async false
set_option linter.all false
set_option maxRecDepth 100000
namespace PM
open PySem L2 PyProof.Rows
section
variable {prog : Program} {w : World} {A : Around} {E : Value → Shared → Prop} {s : Shared} {K : PySem.W.Frag} {x C f : Addr} {ox : Obj} {od : Option Obj}
end
section
variable {X : Cx} {W : WX} {k j : Nat} {ps : List Str} {R : Rl} {f C : Addr} {fd : FuncData} {μ μ1 μ2 : List M} {o : FO} {ns : List Str} {fs ds : List D} {x y : Str} {b : Bool} {i : Int} {a c : Expr} {rest : List Expr} {pos : Pos} {ρ : Env'}
end
end PM
set_option Elab.async false
set_option linter.all false
set_option maxRecDepth 100000
namespace PM
open PySem L2
section
variable {X : Cx} {W : WX} {k j n : Nat} {ps ks : List Str} {p : List Nat} {R : Rl} {f C : Addr} {fd : FuncData} {ds es' : List D} {μ μ1 μ2 : List M} {o : FO} {x m : Str} {pp pos apos kpos : Pos} {ρ : Env'} {d : D} {kws : List Keyword}
/-- what __init__ is asked for -/
theorem make_sp {L : List Addr} {G H : Hp} {xs : List V} {σ : St} {Q : VK} (hR : MakeR R C ds μ o) (ok : Ok X.K L G H μ) (r : Reps X.K L G ds xs) (co : CO W X.K L G H σ o Q) (a dx : Addr) (h1 : H a = none) (h2 : H dx = none) (ne : dx ≠ a) :
    spR X.K R (.ref a :: xs) (upd (upd H dx (.own a)) a (.ins C dx [])) (fun v H2 => v = .non ∧ Q (.ref a) H2) (WE W σ) := by
  obtain ⟨o2, s2⟩ := ok.made (C := C) h1 h2 ne
  have la : (L ++ [a])[μ.length]? = some a := by rw [← ok.len]; exact last_get L a
  have rr : Reps X.K (L ++ [a]) G (.loc μ.length :: ds) (.ref a :: xs) := Reps.cons (rep_loc.mpr ⟨a, la, rfl⟩) (r.step s2)
  cases hR with
  | obj h l hl hfs =>
    rename_i ns fs μ2
    refine ⟨_, _, _, _, _, o2, rr, h, fun v L3 G3 H3 s3 o3 r3 => ⟨rep_non.mp r3, ?_⟩⟩
    have s13 := s2.trans s3
    have hlen : μ2.length = μ.length := l.1
    have la3 : L3[μ2.length]? = some a := by rw [hlen]; exact s3.pre _ _ la
    obtain ⟨dx', vs', eh, _, rv⟩ := o3.at_ μ2.length a _ la3 (last_get μ2 _)
    have o4 : Ok X.K (L3.take μ2.length) G3 H3 μ2 := o3.cut (l.all ok)
    have s4 : Step L G H (L3.take μ2.length) G3 H3 := s13.cut (by rw [ok.len, hlen]; exact Nat.le_refl _)
    have hna : a ∉ L3.take μ2.length := fun z => by
      obtain ⟨i, hi, ei⟩ := List.getElem_of_mem z
      rw [List.length_take] at hi
      rw [List.getElem_take] at ei
      obtain ⟨g1, g2⟩ := List.getElem?_eq_some_iff.mp la3
      have := (List.getElem_inj o3.nd).mp (ei.trans g2.symm)
      omega
    obtain ⟨o5, sg⟩ := o4.tell (p := a) (o := .ins C dx' (ns.zip vs')) eh hna
    exact co _ _ _ H3 (s4.tell h1 sg) o5 (rep_obj.mpr ⟨a, dx', vs', rfl, upd_same, hl, (rv.cut (n := μ2.length) (by rw [hlen]; exact hfs)).mono (.refl _) sg⟩)
  | loc h hl =>
    refine ⟨_, _, _, _, _, o2, rr, h, fun v L3 G3 H3 s3 o3 r3 => ⟨rep_non.mp r3, ?_⟩⟩
    exact co _ L3 G3 H3 (s2.trans s3) o3 (rep_loc.mpr ⟨a, s3.pre _ _ la, rfl⟩)
  | exc h l hfs =>
    rename_i C' ns fs μ2 m
    refine ⟨_, _, _, _, _, o2, rr, h, fun dx' L3 G3 H3 s3 o3 x3 => ?_⟩
    have hlen : μ2.length = μ.length := l.1
    exact co dx' _ G3 H3 ((s2.trans s3).cut (n := μ2.length) (by rw [ok.len, hlen]; exact Nat.le_refl _)) (o3.cut (l.all ok)) (xd_cut (L' := L3) x3 (by rw [hlen]; exact hfs))
/-- C(k = v, ..), by values; q puts the keywords' values in the order of the parameters -/
theorem run_makeKG {pins : List (Addr × Obj)} {σ : St} {H : Hp} {s : Shared} {Q : VK} {ws : List Value} {zs : List V} {q : List Nat} {L : List Addr} {G : Hp} (Mk : Mk X.K C f) (F : FnG X.prog X.w X.K X.mg X.base j f fd ps (spR X.K R)) (g : Gd X W k) (hj : j + 1 ≤ k) (hb : KwB X.K fd ps 1 ks (0 :: q.map (· + 1)))
    (I : Inv X pins σ H s) (rz : Vals zs ws) (ok : Ok X.K L G H μ) (r : Reps X.K L G ds zs) (l2 : ds.length = ks.length) (hR : MakeR R C (pick q ds) μ o) (co : CO W X.K L G H σ o Q) :
    wpAny (model X.prog X.w) X.A (call (.ref C) [] (ks.zip ws)) (EP X pins σ Q) X.xe s := by
  have hq := make_sp hR ok (pick_reps r) co (s.heap.objs.size + 1) s.heap.objs.size (I.hok.fresh (Nat.le_succ _)) (I.hok.fresh (Nat.le_refl _)) (Nat.ne_of_lt (Nat.lt_succ_self _))
  have I2 := Inv.made (C := C) I
  have hr := g.hr.mono hj
  have pk : ∀ {α : Type} (x : α) (l : List α), pick (0 :: q.map (· + 1)) ([x] ++ l) = x :: pick q l := fun x l => by
    unfold pick
    rw [List.filterMap_cons, List.filterMap_map]
    rfl
  have bd := hb.to { s with heap := _ } [Value.ref (s.heap.objs.size + 1)] ws I2.kIn rfl (by rw [← rz.length, r.length, l2])
  rw [pk] at bd
  have r2 : Vals (V.ref (s.heap.objs.size + 1) :: pick q zs) (Value.ref (s.heap.objs.size + 1) :: pick q ws) := .cons rfl (pick_vals rz)
  refine wpAny_call (make_map (f := f) I.kIn Mk.makes Mk.init (beq_iff_eq.mp Mk.fn) (codeAny_mono (F.run _ X.stack _ _ ⟨[Value.ref (s.heap.objs.size + 1)], ks.zip ws⟩ (Value.ref (s.heap.objs.size + 1) :: pick q ws) _ _ (WE W σ) (hr.make C [] (ks.zip ws)) (by obtain ⟨g0, e0, z0⟩ := g.gr; exact ⟨g0, by first | exact e0 | (simpa [Around.under, Code.guards, Code.isGuard, pushGuards, guardIds] using e0), fun q => z0 (by omega)⟩)
    (I2.env0.make C [] (ks.zip ws)) bd r2 hq) fun r s' hq' => ?_))
  cases r with
  | error e => exact passAt g.tk σ pins _ _ e s' I2 hq'
  | ok fl =>
    cases fl with
    | ret u =>
      obtain ⟨v, H', I3, rv, ev, q3⟩ := I2.after hq'
      subst ev
      exact ⟨rv, ⟨V.ref (s.heap.objs.size + 1), H', I3, rfl, q3⟩⟩
    | next => exact False.elim hq'
    | brk => exact False.elim hq'
    | cont => exact False.elim hq'
end
end PM
set_option linter.all false
namespace PM
/-! ### plain numbers -/
/-- a number of few bits -/
def Fit (n : Nat) (q : Rat) : Prop := q.num.natAbs < 2 ^ n ∧ q.den < 2 ^ n
theorem Fit.mono {n m : Nat} {q : Rat} (h : Fit n q) (l : n ≤ m) : Fit m q := ⟨Nat.lt_of_lt_of_le h.1 (Nat.pow_le_pow_right (by decide) l), Nat.lt_of_lt_of_le h.2 (Nat.pow_le_pow_right (by decide) l)⟩
theorem divInt_bounds (t b : Int) (hb : b ≠ 0) : (Rat.divInt t b).num.natAbs ≤ t.natAbs ∧ (Rat.divInt t b).den ≤ b.natAbs := by
  constructor
  · rw [Rat.num_divInt]
    refine Nat.le_trans (Int.natAbs_ediv_le_natAbs _ _) ?_
    rw [Int.natAbs_mul]
    have : b.sign.natAbs = 1 := Int.natAbs_sign_of_ne_zero hb
    rw [this, Nat.one_mul]; exact Nat.le_refl _
  · rw [Rat.den_divInt, if_neg hb]
    exact Nat.div_le_self _ _
theorem fit_divInt {n : Nat} {t b : Int} (h1 : t.natAbs < 2 ^ n) (h2 : b.natAbs < 2 ^ n) (hb : b ≠ 0) : Fit n (Rat.divInt t b) :=
  ⟨Nat.lt_of_le_of_lt (divInt_bounds t b hb).1 h1, Nat.lt_of_le_of_lt (divInt_bounds t b hb).2 h2⟩
theorem mul_lt_pow {a b n m : Nat} (h1 : a < 2 ^ n) (h2 : b < 2 ^ m) : a * b < 2 ^ (n + m) := by
  rw [Nat.pow_add]
  exact Nat.mul_lt_mul'' h1 h2
theorem rat_eq (q : Rat) : q = Rat.divInt q.num q.den := (Rat.num_divInt_den q).symm
theorem add_rt (a b : Rat) : a + b = Rat.divInt (a.num * b.den + b.num * a.den) (a.den * b.den) := by
  rw [Rat.add_def', ← Rat.divInt_ofNat]; simp
theorem mul_rt (a b : Rat) : a * b = Rat.divInt (a.num * b.num) (a.den * b.den) := by
  rw [Rat.mul_def', ← Rat.divInt_ofNat]; simp
theorem div_rt (a b : Rat) : a / b = Rat.divInt (a.num * b.den) (a.den * b.num) := by
  rw [Rat.div_def, Rat.inv_def]
  conv => lhs; lhs; rw [rat_eq a]
  rw [Rat.divInt_mul_divInt]
theorem neg_rt (a : Rat) : -a = Rat.divInt (-a.num) a.den := by
  conv => lhs; rw [rat_eq a]
  rw [Rat.neg_divInt]
/-- what Ratio makes of a top and a bottom -/
theorem divInt_num {t b : Int} (hb : 0 < b) : (Rat.divInt t b).num = t / (Nat.gcd t.natAbs b.natAbs : Nat) := by
  rw [Rat.num_divInt, Int.sign_eq_one_of_pos hb, Int.one_mul, Int.gcd_comm]; rfl
theorem divInt_den {t b : Int} (hb : 0 < b) : ((Rat.divInt t b).den : Int) = b / (Nat.gcd t.natAbs b.natAbs : Nat) := by
  rw [Rat.den_divInt, if_neg (by omega), Int.gcd_comm]
  have : b = (b.natAbs : Int) := by omega
  conv => rhs; lhs; rw [this]
  rfl
theorem log2_lt {a n : Nat} (h : a < 2 ^ n) (hn : 0 < n) : a.log2 < n := by
  by_cases z : a = 0
  · subst z; simpa using hn
  · exact (Nat.log2_lt z).mpr h
end PM
set_option Elab.async false
set_option linter.all false
set_option maxRecDepth 100000
set_option maxHeartbeats 4000000
namespace PM

/-! plain facts of pools by integers -/
theorem cast_ne {u : Int} (h : 0 < u) : (u : Rat) ≠ 0 := fun z => by
  have : u = 0 := by exact Rat.intCast_inj.mp z
  omega
section
variable {s v s' v' u t : Int}
theorem pl_left (hu : 0 < u) : Rat.divInt s u - Rat.divInt v u / ((2 : Int) : Rat) = Rat.divInt (2 * s - v) (2 * u) := by
  have h := cast_ne hu
  simp only [Rat.divInt_eq_div, Rat.intCast_sub, Rat.intCast_mul]
  generalize (u : Rat) = U at *
  grind
theorem pl_right (hu : 0 < u) : Rat.divInt s u + Rat.divInt v u / ((2 : Int) : Rat) = Rat.divInt (2 * s + v) (2 * u) := by
  have h := cast_ne hu
  simp only [Rat.divInt_eq_div, Rat.intCast_add, Rat.intCast_mul]
  generalize (u : Rat) = U at *
  grind
theorem pl_dif (hu : 0 < u) : Rat.divInt s u - Rat.divInt s' u = Rat.divInt (s - s') u := by
  have h := cast_ne hu
  simp only [Rat.divInt_eq_div, Rat.intCast_sub]
  generalize (u : Rat) = U at *
  grind
theorem divInt_le {a b u : Int} (hu : 0 < u) : Rat.divInt a u ≤ Rat.divInt b u ↔ a ≤ b := by
  rw [Rat.le_iff_sub_nonneg, pl_dif hu, Rat.divInt_nonneg_iff_of_pos_right hu]
  omega
end
end PM
set_option Elab.async false
set_option linter.all false
set_option maxRecDepth 100000
/-! Weakest preconditions over the abstract machine: what may come is told by continuations. -/
namespace PM
open PySem L2
abbrev KV := D → List M → Prop
abbrev KX := Addr → List Str → List D → List M → Prop
abbrev KT := Bool → List M → Prop
abbrev KA := List D → List M → Prop
abbrev KN := Env' → List M → Prop
/-- exceptions that are taken -/
def AccX (W : WX) (K : PySem.W.Frag) (L : List Addr) (G H : Hp) (σ : St) (Z : KX) : Prop := ∀ C ns ds μ', Z C ns ds μ' → ComesX K L G H C ns ds μ' fun c d H' => W c d σ H'
def AccV (K : PySem.W.Frag) (L : List Addr) (G H : Hp) (Q : KV) (R : VK) : Prop := ∀ d μ', Q d μ' → Comes K L G H d μ' R
section
variable {W : WX} {K : PySem.W.Frag} {L L1 : List Addr} {G H G1 H1 : Hp} {σ : St} {Z Z' : KX} {Q Q' : KV} {R : VK}
theorem AccX.step (a : AccX W K L G H σ Z) (s : Step L G H L1 G1 H1) : AccX W K L1 G1 H1 σ Z := fun C ns ds μ' z => ComesX.step (E := fun c d H' => W c d σ H') (a C ns ds μ' z) s
theorem AccV.step (a : AccV K L G H Q R) (s : Step L G H L1 G1 H1) : AccV K L1 G1 H1 Q R := fun d μ' q => Comes.step (a d μ' q) s
theorem AccX.mono (a : AccX W K L G H σ Z') (h : ∀ C ns ds μ, Z C ns ds μ → Z' C ns ds μ) : AccX W K L G H σ Z := fun C ns ds μ' z => a C ns ds μ' (h _ _ _ _ z)
theorem AccV.mono (a : AccV K L G H Q' R) (h : ∀ d μ, Q d μ → Q' d μ) : AccV K L G H Q R := fun d μ' z => a d μ' (h _ _ z)
end
/-- an expression comes to a value of Q or to an exception of Z -/
structure wE (X : Cx) (W : WX) (ρ : Env') (μ : List M) (e : Expr) (Q : KV) (Z : KX) : Prop where
  run : PE X e (fun σ H R => ∃ L G, Now X.K L G H μ ρ σ ∧ AccV X.K L G H Q R ∧ AccX W X.K L G H σ Z)
structure wC (X : Cx) (W : WX) (ρ : Env') (μ : List M) (e : Expr) (Q : KT) (Z : KX) : Prop where
  run : PT X e (fun σ H R => ∃ L G, Now X.K L G H μ ρ σ ∧ (∀ b μ', Q b μ' → ComesT X.K L G H b μ' R) ∧ AccX W X.K L G H σ Z)
structure wCw (X : Cx) (W : WX) (ρ : Env') (μ : List M) (e : Expr) (Q : KT) (Z : KX) : Prop where
  run : PW X e (fun σ H R => ∃ L G, Now X.K L G H μ ρ σ ∧ (∀ b μ', Q b μ' → ComesT X.K L G H b μ' R) ∧ AccX W X.K L G H σ Z)
structure wA (X : Cx) (W : WX) (ρ : Env') (μ : List M) (es : List Expr) (Q : KA) (Z : KX) : Prop where
  run : PA X es (fun σ H R => ∃ L G, Now X.K L G H μ ρ σ ∧ (∀ ds μ', Q ds μ' → ComesA X.K L G H ds μ' R) ∧ AccX W X.K L G H σ Z)
/-- an operation on two data -/
structure wB (X : Cx) (W : WX) (f : Value → Value → Sem Value) (da db : D) (μ : List M) (Q : KV) (Z : KX) : Prop where
  run : ∀ (pins : List (Addr × Obj)) (s : Shared) (σ : St) (H : Hp) (x y : V) (v u : Value) (R : VK) (L : List Addr) (G : Hp), Inv X pins σ H s → RelV x v → RelV y u → Ok X.K L G H μ → Rep X.K L G da x → Rep X.K L G db y → AccV X.K L G H Q R → AccX W X.K L G H σ Z →
    wpAny (model X.prog X.w) X.A (f v u) (EP X pins σ R) X.xe s
structure wU (X : Cx) (W : WX) (f : Value → Sem Value) (da : D) (μ : List M) (Q : KV) (Z : KX) : Prop where
  run : ∀ (pins : List (Addr × Obj)) (s : Shared) (σ : St) (H : Hp) (x : V) (v : Value) (R : VK) (L : List Addr) (G : Hp), Inv X pins σ H s → RelV x v → Ok X.K L G H μ → Rep X.K L G da x → AccV X.K L G H Q R → AccX W X.K L G H σ Z →
    wpAny (model X.prog X.w) X.A (f v) (EP X pins σ R) X.xe s
structure wF (X : Cx) (W : WX) (f : List Value → Sem Value) (ds : List D) (μ : List M) (Q : KV) (Z : KX) : Prop where
  run : ∀ (pins : List (Addr × Obj)) (s : Shared) (σ : St) (H : Hp) (xs : List V) (us : List Value) (R : VK) (L : List Addr) (G : Hp), Inv X pins σ H s → Vals xs us → Ok X.K L G H μ → Reps X.K L G ds xs → AccV X.K L G H Q R → AccX W X.K L G H σ Z →
    wpAny (model X.prog X.w) X.A (f us) (EP X pins σ R) X.xe s
/-- one outcome among those that may come -/
def FO.In (Q : KV) (Z : KX) : FO → Prop
  | .ret d μ => Q d μ
  | .exc C ns ds μ => Z C ns ds μ
section
variable {X : Cx} {W : WX} {ρ : Env'} {μ μ1 μ2 : List M} {e a b c : Expr} {es : List Expr} {Q Q' : KV} {Z Z' : KX} {o : FO} {d da db : D} {ds : List D} {pos : Pos} {pins : List (Addr × Obj)} {s : Shared} {σ : St} {H : Hp} {L : List Addr} {G : Hp}
theorem CO.of {R : VK} (v : AccV X.K L G H Q R) (x : AccX W X.K L G H σ Z) (h : o.In Q Z) : CO W X.K L G H σ o R := by
  cases o with
  | ret d μ => exact v d μ h
  | exc C ns ds μ => exact x C ns ds μ h
theorem wE.of (h : PE X e (tO W X.K ρ μ o)) (ho : o.In Q Z) : wE X W ρ μ e Q Z := ⟨pe_of h fun σ H R ⟨L, G, n, v, x⟩ => ⟨L, G, n, CO.of v x ho⟩⟩
theorem wE.ofV (h : PE X e (tV X.K ρ μ d μ1)) (ho : Q d μ1) : wE X W ρ μ e Q Z := ⟨pe_of h fun σ H R ⟨L, G, n, v, x⟩ => ⟨L, G, n, v _ _ ho⟩⟩
theorem wE.mono (h : wE X W ρ μ e Q Z) (hq : ∀ d μ, Q d μ → Q' d μ) (hz : ∀ C ns ds μ, Z C ns ds μ → Z' C ns ds μ) : wE X W ρ μ e Q' Z' := ⟨pe_of h.run fun σ H R ⟨L, G, n, v, x⟩ => ⟨L, G, n, v.mono hq, x.mono hz⟩⟩
theorem wE.imp (h : wE X W ρ μ e Q Z) (hq : ∀ d μ, Q d μ → Q' d μ) : wE X W ρ μ e Q' Z := h.mono hq fun _ _ _ _ z => z
theorem wC.imp {Q Q' : KT} (h : wC X W ρ μ e Q Z) (hq : ∀ d μ, Q d μ → Q' d μ) : wC X W ρ μ e Q' Z := ⟨pt_of h.run fun σ H R ⟨L, G, n, v, x⟩ => ⟨L, G, n, fun b μ' q => v b μ' (hq _ _ q), x⟩⟩
theorem wB.of {f : Value → Value → Sem Value} (h : OpO X W f da db μ o) (ho : o.In Q Z) : wB X W f da db μ Q Z := ⟨fun pins s σ H x y v u R L G I rx ry ok r1 r2 av ax => h pins s σ H x y v u R L G I rx ry ok r1 r2 (CO.of av ax ho)⟩
theorem wB.ofV {f : Value → Value → Sem Value} (h : OpO X W0 f da db μ (.ret d μ1)) (ho : Q d μ1) : wB X W f da db μ Q Z := ⟨fun pins s σ H x y v u R L G I rx ry ok r1 r2 av ax => h pins s σ H x y v u R L G I rx ry ok r1 r2 (av _ _ ho)⟩
theorem wU.of {f : Value → Sem Value} (h : UnO X W f da μ o) (ho : o.In Q Z) : wU X W f da μ Q Z := ⟨fun pins s σ H x v R L G I rx ok r1 av ax => h pins s σ H x v R L G I rx ok r1 (CO.of av ax ho)⟩
theorem wU.ofV {f : Value → Sem Value} (h : UnO X W0 f da μ (.ret d μ1)) (ho : Q d μ1) : wU X W f da μ Q Z := ⟨fun pins s σ H x v R L G I rx ok r1 av ax => h pins s σ H x v R L G I rx ok r1 (av _ _ ho)⟩
theorem wF.of {f : List Value → Sem Value} (h : CallO X W f ds μ o) (ho : o.In Q Z) : wF X W f ds μ Q Z := ⟨fun pins s σ H x v R L G I rx ok r1 av ax => h pins s σ H x v R L G I rx ok r1 (CO.of av ax ho)⟩
theorem wF.ofV {f : List Value → Sem Value} (h : CallO X W0 f ds μ (.ret d μ1)) (ho : Q d μ1) : wF X W f ds μ Q Z := ⟨fun pins s σ H x v R L G I rx ok r1 av ax => h pins s σ H x v R L G I rx ok r1 (av _ _ ho)⟩
theorem wB.imp {f : Value → Value → Sem Value} (h : wB X W f da db μ Q Z) (hq : ∀ d μ, Q d μ → Q' d μ) : wB X W f da db μ Q' Z := ⟨fun pins s σ H x y v u R L G I rx ry ok r1 r2 av ax => h.run pins s σ H x y v u R L G I rx ry ok r1 r2 (av.mono hq) ax⟩
theorem wF.imp {f : List Value → Sem Value} (h : wF X W f ds μ Q Z) (hq : ∀ d μ, Q d μ → Q' d μ) : wF X W f ds μ Q' Z := ⟨fun pins s σ H x v R L G I rx ok r1 av ax => h.run pins s σ H x v R L G I rx ok r1 (av.mono hq) ax⟩
/-- running -/
theorem wE.go (h : wE X W ρ μ e Q Z) (I : Inv X pins σ H s) (n : Now X.K L G H μ ρ σ) (z : AccX W X.K L G H σ Z) :
    wpAny (model X.prog X.w) X.A (eval e X.env) (fun u s1 => ∃ v d μ1 L1 G1 H1, Inv X pins σ H1 s1 ∧ RelV v u ∧ Q d μ1 ∧ Step L G H L1 G1 H1 ∧ Ok X.K L1 G1 H1 μ1 ∧ Rep X.K L1 G1 d v) X.xe s :=
  thn (h.run.run pins s σ H (fun v H1 => ∃ d μ1 L1 G1, Q d μ1 ∧ Step L G H L1 G1 H1 ∧ Ok X.K L1 G1 H1 μ1 ∧ Rep X.K L1 G1 d v) I ⟨L, G, n, fun d μ' q v L' G' H' s' o' r' => ⟨d, μ', L', G', q, s', o', r'⟩, z⟩)
    fun u s1 ⟨v, H1, I1, r1, d, μ1, L1, G1, q, st, o, r⟩ => ⟨v, d, μ1, L1, G1, H1, I1, r1, q, st, o, r⟩
theorem wC.go {Q : KT} (h : wC X W ρ μ e Q Z) (I : Inv X pins σ H s) (n : Now X.K L G H μ ρ σ) (z : AccX W X.K L G H σ Z) :
    wpAny (model X.prog X.w) X.A (isTrue e X.env (eval e X.env)) (fun b s1 => ∃ μ1 L1 G1 H1, Inv X pins σ H1 s1 ∧ Q b μ1 ∧ Step L G H L1 G1 H1 ∧ Ok X.K L1 G1 H1 μ1) X.xe s :=
  thn (h.run.run pins s σ H (fun b H1 => ∃ μ1 L1 G1, Q b μ1 ∧ Step L G H L1 G1 H1 ∧ Ok X.K L1 G1 H1 μ1) I ⟨L, G, n, fun b μ' q L' G' H' s' o' => ⟨μ', L', G', q, s', o'⟩, z⟩)
    fun b s1 ⟨H1, I1, μ1, L1, G1, q, st, o⟩ => ⟨μ1, L1, G1, H1, I1, q, st, o⟩
theorem wA.go {Q : KA} (h : wA X W ρ μ es Q Z) (I : Inv X pins σ H s) (n : Now X.K L G H μ ρ σ) (z : AccX W X.K L G H σ Z) (pos : Pos) :
    wpAny (model X.prog X.w) X.A (spliced (backTo pos (starEach es X.env))) (fun us s1 => ∃ vs ds μ1 L1 G1 H1, Inv X pins σ H1 s1 ∧ Vals vs us ∧ Q ds μ1 ∧ Step L G H L1 G1 H1 ∧ Ok X.K L1 G1 H1 μ1 ∧ Reps X.K L1 G1 ds vs) X.xe s :=
  thn (h.run.run pos pins s σ H (fun vs H1 => ∃ ds μ1 L1 G1, Q ds μ1 ∧ Step L G H L1 G1 H1 ∧ Ok X.K L1 G1 H1 μ1 ∧ Reps X.K L1 G1 ds vs) I ⟨L, G, n, fun ds μ' q vs L' G' H' s' o' r' => ⟨ds, μ', L', G', q, s', o', r'⟩, z⟩)
    fun us s1 ⟨vs, H1, I1, r1, ds, μ1, L1, G1, q, st, o, r⟩ => ⟨vs, ds, μ1, L1, G1, H1, I1, r1, q, st, o, r⟩
theorem wE.by (h : ∀ (pins : List (Addr × Obj)) (s : Shared) (σ : St) (H : Hp) (R : VK) (L : List Addr) (G : Hp), Inv X pins σ H s → Now X.K L G H μ ρ σ → AccV X.K L G H Q R → AccX W X.K L G H σ Z → wpAny (model X.prog X.w) X.A (eval e X.env) (EP X pins σ R) X.xe s) : wE X W ρ μ e Q Z :=
  ⟨⟨fun pins s σ H R I ⟨L, G, n, v, x⟩ => h pins s σ H R L G I n v x⟩⟩
/-- the store may be told with less -/
def Le (μ μ' : List M) : Prop := ∀ K L G H, Ok K L G H μ → Ok K L G H μ'
theorem Le.refl (μ : List M) : Le μ μ := fun _ _ _ _ h => h
theorem wE.le (h : wE X W ρ μ e (fun d μ1 => ∃ μ2, Le μ1 μ2 ∧ Q d μ2) Z) : wE X W ρ μ e Q Z :=
  ⟨pe_of h.run fun σ H R ⟨L, G, n, v, x⟩ => ⟨L, G, n, fun d μ1 ⟨μ2, l, q⟩ u L' G' H' s' o' r' => v d μ2 q u L' G' H' s' (l _ _ _ _ o') r', x⟩⟩

/-! #### any reading will do -/
def aE (X : Cx) (e : Expr) : TE := fun σ H Q => ∃ t, PE X e t ∧ t σ H Q
theorem aE_ok : PE X e (aE X e) := ⟨fun pins s σ H Q I ⟨t, p, q⟩ => p.run pins s σ H Q I q⟩
def aW (X : Cx) (e : Expr) : TT := fun σ H Q => ∃ t, PW X e t ∧ t σ H Q
theorem aW_ok : PW X e (aW X e) := ⟨fun wh pins s σ H Q I ⟨t, p, q⟩ => p.run wh pins s σ H Q I q⟩
def aA (X : Cx) (es : List Expr) : TA := fun σ H Q => ∃ t, PA X es t ∧ t σ H Q
theorem aA_ok : PA X es (aA X es) := ⟨fun pos pins s σ H Q I ⟨t, p, q⟩ => p.run pos pins s σ H Q I q⟩

/-! #### expressions -/
theorem wE_int {i j} (h : Q (.int i) μ) : wE X W ρ μ (.Constant (.int i) j pos) Q Z := .ofV ev_int h
theorem wE_bl {i j} (h : Q (.bl i) μ) : wE X W ρ μ (.Constant (.bool i) j pos) Q Z := .ofV ev_bl h
theorem wE_non {j} (h : Q .non μ) : wE X W ρ μ (.Constant .none j pos) Q Z := .ofV ev_non h
theorem wE_str {i j} (h : Q (.str i) μ) : wE X W ρ μ (.Constant (.str i) j pos) Q Z := .ofV ev_str h
theorem wE_bin {op : Operator} (h : wE X W ρ μ a (fun da μ1 => wE X W ρ μ1 b (fun db μ2 => wB X W (binaryOp op) da db μ2 Q Z) Z) Z) : wE X W ρ μ (.BinOp a op b pos) Q Z :=
  .by fun pins s σ H R L G I n v x => wpAny_BinOp (thn (h.go I n x) fun u s1 ⟨y, da, μ1, L1, G1, H1, I1, ry, hb, st1, o1, r1⟩ => thn (hb.go I1 (n.step st1 o1) (x.step st1)) fun u2 s2 ⟨y2, db, μ2, L2, G2, H2, I2, ry2, ho, st2, o2, r2⟩ =>
    ho.run pins s2 σ H2 y y2 u u2 R L2 G2 I2 ry ry2 o2 (r1.step st2) r2 (v.step (st1.trans st2)) (x.step (st1.trans st2)))
theorem wE_cmp {op : CmpOp} (h : wE X W ρ μ a (fun da μ1 => wE X W ρ μ1 b (fun db μ2 => wB X W (compareOp op) da db μ2 Q Z) Z) Z) (hm : behindInMarks op b = false := by first | exact nomark _ | rfl) : wE X W ρ μ (.Compare a [op] [b] pos) Q Z :=
  .by fun pins s σ H R L G I n v x => wpAny_Compare1 (thn (h.go I n x) fun u s1 ⟨y, da, μ1, L1, G1, H1, I1, ry, hb, st1, o1, r1⟩ => thn (hb.go I1 (n.step st1 o1) (x.step st1)) fun u2 s2 ⟨y2, db, μ2, L2, G2, H2, I2, ry2, ho, st2, o2, r2⟩ =>
    ho.run pins s2 σ H2 y y2 u u2 R L2 G2 I2 ry ry2 o2 (r1.step st2) r2 (v.step (st1.trans st2)) (x.step (st1.trans st2))) hm
theorem wE_un {op : UnaryOp} (h : wE X W ρ μ a (fun da μ1 => wU X W (unaryOp op) da μ1 Q Z) Z) : wE X W ρ μ (.UnaryOp op a pos) Q Z :=
  .by fun pins s σ H R L G I n v x => PyProof.Rows.UnaryOp_ (thn (h.go I n x) fun u s1 ⟨y, da, μ1, L1, G1, H1, I1, ry, ho, st1, o1, r1⟩ => ho.run pins s1 σ H1 y u R L1 G1 I1 ry o1 r1 (v.step st1) (x.step st1))
/-- not, of a test -/
theorem wE_not (h : wE X W ρ μ a (fun da μ1 => ∃ k, da = .bl k ∧ Q (.bl (!k)) μ1) Z) : wE X W ρ μ (.UnaryOp .Not a pos) Q Z :=
  ⟨pe_of (pe_not h.run) fun σ H R ⟨L, G, n, v, x⟩ => ⟨L, G, n, fun d μ1 ⟨k, e, q⟩ u L1 G1 H1 s1 o1 r1 => by
    subst e
    exact ⟨k, rep_bl.mp r1, v _ _ q _ L1 G1 H1 s1 o1 (rep_bl.mpr rfl)⟩, x⟩⟩
theorem wE_one {op} (h : wE X W ρ μ a Q Z) : wE X W ρ μ (.BoolOp op [a] pos) Q Z := ⟨pe_one h.run⟩
variable {rest : List Expr}
theorem wE_and (h : wE X W ρ μ a (fun da μ1 => ∃ k, da = .bl k ∧ if k = true then wE X W ρ μ1 (.BoolOp .And (b :: rest) pos) Q Z else Q (.bl false) μ1) Z) : wE X W ρ μ (.BoolOp .And (a :: b :: rest) pos) Q Z :=
  ⟨pe_of (pe_and h.run aE_ok) fun σ H R ⟨L, G, n, v, x⟩ => ⟨L, G, n, fun d μ1 ⟨k, e, q⟩ u L1 G1 H1 s1 o1 r1 => by
    subst e
    refine ⟨k, rep_bl.mp r1, ?_⟩
    cases k with
    | true => rw [if_pos rfl] at q ⊢; exact ⟨_, q.run, L1, G1, n.step s1 o1, v.step s1, x.step s1⟩
    | false => rw [if_neg (by decide)] at q ⊢; exact v _ _ q _ L1 G1 H1 s1 o1 (rep_bl.mpr rfl), x⟩⟩
theorem wE_or (h : wE X W ρ μ a (fun da μ1 => ∃ k, da = .bl k ∧ if k = true then Q (.bl true) μ1 else wE X W ρ μ1 (.BoolOp .Or (b :: rest) pos) Q Z) Z) : wE X W ρ μ (.BoolOp .Or (a :: b :: rest) pos) Q Z :=
  ⟨pe_of (pe_or h.run aE_ok) fun σ H R ⟨L, G, n, v, x⟩ => ⟨L, G, n, fun d μ1 ⟨k, e, q⟩ u L1 G1 H1 s1 o1 r1 => by
    subst e
    refine ⟨k, rep_bl.mp r1, ?_⟩
    cases k with
    | true => rw [if_pos rfl] at q ⊢; exact v _ _ q _ L1 G1 H1 s1 o1 (rep_bl.mpr rfl)
    | false => rw [if_neg (by decide)] at q ⊢; exact ⟨_, q.run, L1, G1, n.step s1 o1, v.step s1, x.step s1⟩, x⟩⟩
theorem wE_if (h : wC X W ρ μ c (fun k μ1 => if k = true then wE X W ρ μ1 a Q Z else wE X W ρ μ1 b Q Z) Z) : wE X W ρ μ (.IfExp c a b pos) Q Z :=
  ⟨pe_of (pe_ifExp h.run aE_ok aE_ok) fun σ H R ⟨L, G, n, v, x⟩ => ⟨L, G, n, fun k μ1 q L1 G1 H1 s1 o1 => by
    cases k with
    | true => exact iteT ⟨_, (show wE X W ρ μ1 a Q Z from q).run, L1, G1, n.step s1 o1, v.step s1, x.step s1⟩
    | false => exact iteF ⟨_, (show wE X W ρ μ1 b Q Z from q).run, L1, G1, n.step s1 o1, v.step s1, x.step s1⟩, x⟩⟩

/-! #### tests -/
variable {QT : KT}
theorem wC_val (h : wE X W ρ μ e (fun d μ1 => ∃ k, d = .bl k ∧ QT k μ1) Z) (he : ∀ whole, isTrue e X.env whole = (do let v ← whole; standAt e.pos; holding [v] (truthy v)) := by intro _; rfl) : wC X W ρ μ e QT Z :=
  ⟨pt_of (pt_val h.run he) fun σ H R ⟨L, G, n, v, x⟩ => ⟨L, G, n, fun d μ1 ⟨k, e, q⟩ u L1 G1 H1 s1 o1 r1 => by
    subst e
    exact ⟨k, rep_bl.mp r1, v k μ1 q L1 G1 H1 s1 o1⟩, x⟩⟩
theorem wC_cmp {op : CmpOp} (h : wE X W ρ μ a (fun da μ1 => wE X W ρ μ1 b (fun db μ2 => wB X W (compareOp op) da db μ2 (fun d μ3 => ∃ k, d = .bl k ∧ QT k μ3) Z) Z) Z) (hm : behindInMarks op b = false := by first | exact nomark _ | rfl) : wC X W ρ μ (.Compare a [op] [b] pos) QT Z := by
  refine ⟨⟨fun pins s σ H R I ⟨L, G, n, v, x⟩ => ?_⟩⟩
  refine wpAny_isTrue_Compare1 (thn (h.go I n x) fun u s1 ⟨y, da, μ1, L1, G1, H1, I1, ry, hb, st1, o1, r1⟩ => thn (hb.go I1 (n.step st1 o1) (x.step st1)) fun u2 s2 ⟨y2, db, μ2, L2, G2, H2, I2, ry2, ho, st2, o2, r2⟩ =>
    thn (ho.run pins s2 σ H2 y y2 u u2 (fun z H' => ∃ k, z = .bl k ∧ R k H') L2 G2 I2 ry ry2 o2 (r1.step st2) r2 (fun d μ3 ⟨k, e, q⟩ w L3 G3 H3 st3 o3 r3 => by
      subst e
      exact ⟨k, rep_bl.mp r3, v k μ3 q L3 G3 H3 ((st1.trans st2).trans st3) o3⟩) (x.step (st1.trans st2))) fun z s3 ⟨y, H3, I3, r3, k, e3, q3⟩ => ?_) hm
  subst e3
  cases r3
  exact wpAny_truthy_bool ⟨H3, I3, q3⟩
theorem wC_not (h : wC X W ρ μ a (fun k μ1 => QT (!k) μ1) Z) : wC X W ρ μ (.UnaryOp .Not a pos) QT Z :=
  ⟨pt_of (pt_not h.run) fun σ H R ⟨L, G, n, v, x⟩ => ⟨L, G, n, fun k μ1 q L1 G1 H1 s1 o1 => v _ _ q L1 G1 H1 s1 o1, x⟩⟩
theorem wC_bool {op} (h : wCw X W ρ μ (.BoolOp op es pos) QT Z) : wC X W ρ μ (.BoolOp op es pos) QT Z := ⟨h.run.pt⟩
theorem wCw_and1 (h : wC X W ρ μ a QT Z) : wCw X W ρ μ (.BoolOp .And [a] pos) QT Z := ⟨pw_and1 h.run⟩
theorem wCw_or1 (h : wC X W ρ μ a QT Z) : wCw X W ρ μ (.BoolOp .Or [a] pos) QT Z := ⟨pw_or1 h.run⟩
theorem wCw_and (h : wC X W ρ μ a (fun k μ1 => if k = true then wCw X W ρ μ1 (.BoolOp .And (b :: rest) pos) QT Z else QT false μ1) Z) : wCw X W ρ μ (.BoolOp .And (a :: b :: rest) pos) QT Z :=
  ⟨pw_of (pw_and h.run aW_ok) fun σ H R ⟨L, G, n, v, x⟩ => ⟨L, G, n, fun k μ1 q L1 G1 H1 s1 o1 => by
    cases k with
    | true => exact iteT ⟨_, (show wCw X W ρ μ1 _ QT Z from q).run, L1, G1, n.step s1 o1, (fun b μ' q => (v b μ' q).step s1), x.step s1⟩
    | false => exact iteF (v false μ1 q L1 G1 H1 s1 o1), x⟩⟩
theorem wCw_or (h : wC X W ρ μ a (fun k μ1 => if k = true then QT true μ1 else wCw X W ρ μ1 (.BoolOp .Or (b :: rest) pos) QT Z) Z) : wCw X W ρ μ (.BoolOp .Or (a :: b :: rest) pos) QT Z :=
  ⟨pw_of (pw_or h.run aW_ok) fun σ H R ⟨L, G, n, v, x⟩ => ⟨L, G, n, fun k μ1 q L1 G1 H1 s1 o1 => by
    cases k with
    | true => exact iteT (v true μ1 q L1 G1 H1 s1 o1)
    | false => exact iteF ⟨_, (show wCw X W ρ μ1 _ QT Z from q).run, L1, G1, n.step s1 o1, (fun b μ' q => (v b μ' q).step s1), x.step s1⟩, x⟩⟩

/-! #### arguments -/
variable {QA : KA}
theorem wA_nil (h : QA [] μ) : wA X W ρ μ [] QA Z := ⟨pa_of pa_nil fun σ H R ⟨L, G, n, v, x⟩ => v [] μ h [] L G H (.refl _ _ _) n.ok Reps.nil⟩
theorem wA_cons (h : wE X W ρ μ e (fun d μ1 => wA X W ρ μ1 es (fun ds μ2 => QA (d :: ds) μ2) Z) Z) (hs : starEach (e :: es) X.env = (false, eval e X.env) :: starEach es X.env := by rfl) : wA X W ρ μ (e :: es) QA Z :=
  ⟨pa_of (pa_cons h.run aA_ok hs) fun σ H R ⟨L, G, n, v, x⟩ => ⟨L, G, n, fun d μ1 q u L1 G1 H1 s1 o1 r1 => ⟨_, q.run, L1, G1, n.step s1 o1, fun ds μ2 q2 us L2 G2 H2 s2 o2 r2 => v _ _ q2 _ L2 G2 H2 (s1.trans s2) o2 (Reps.cons (r1.step s2) r2), x.step s1⟩, x⟩⟩
theorem wE_tup {k : Nat} (h : wA X W ρ μ es (fun ds μ1 => ds.length ≤ sizeLine ∧ Q (.tup ds) μ1) Z) : wE X W ρ μ (.Tuple es k pos) Q Z :=
  ⟨pe_of (pe_tup h.run) fun σ H R ⟨L, G, n, v, x⟩ => ⟨L, G, n, fun ds μ1 ⟨hl, q⟩ vs L1 G1 H1 s1 o1 r1 => ⟨by rw [r1.length]; exact hl, fun p hp => by
    obtain ⟨o', s'⟩ := o1.new (o := .tup vs) hp
    exact v _ _ q _ L1 _ _ (s1.trans s') o' (rep_tup.mpr ⟨p, vs, rfl, .inl (.inl upd_same), r1.step s'⟩)⟩, x⟩⟩
end
end PM
set_option Elab.async false
set_option linter.all false
set_option maxRecDepth 100000
namespace PM
open PySem L2
/-! ### statements -/
structure Ks where
  rt : KV
  bk : KN := fun _ _ => False
  ct : KN := fun _ _ => False
  xc : Addr → List Str → List D → Env' → List M → Prop := fun _ _ _ _ _ => False
abbrev Ks.z (κ : Ks) (ρ : Env') : KX := fun C ns ds μ => κ.xc C ns ds ρ μ
structure AccS (W : WX) (K : PySem.W.Frag) (L : List Addr) (G H : Hp) (D : Ends) (nx : KN) (κ : Ks) : Prop where
  nx : ∀ ρ μ, nx ρ μ → Ends' K L G H ρ μ D.nx
  bk : ∀ ρ μ, κ.bk ρ μ → Ends' K L G H ρ μ D.bk
  ct : ∀ ρ μ, κ.ct ρ μ → Ends' K L G H ρ μ D.ct
  rt : AccV K L G H κ.rt D.rt
  xc : ∀ C ns ds ρ μ, κ.xc C ns ds ρ μ → ∀ σ' dx L' G' H', Step L G H L' G' H' → Now K L' G' H' μ ρ σ' → XdAt K L' G' H' dx ns ds → W (.ref C) dx σ' H'
structure wS (X : Cx) (W : WX) (ρ : Env') (μ : List M) (st : Stmt) (nx : KN) (κ : Ks) : Prop where
  run : PS X st (fun D σ H => ∃ L G, Now X.K L G H μ ρ σ ∧ AccS W X.K L G H D nx κ)
structure wSs (X : Cx) (W : WX) (ρ : Env') (μ : List M) (st : List Stmt) (nx : KN) (κ : Ks) : Prop where
  run : PSs X st (fun D σ H => ∃ L G, Now X.K L G H μ ρ σ ∧ AccS W X.K L G H D nx κ)
structure wG (X : Cx) (W : WX) (ρ : Env') (μ : List M) (tg : Expr) (d : D) (nx : KN) : Prop where
  run : PG X tg (fun v σ H R => ∃ L G, Now X.K L G H μ ρ σ ∧ Rep X.K L G d v ∧ ∀ ρ' μ', nx ρ' μ' → Ends' X.K L G H ρ' μ' R)
section
variable {W : WX} {K : PySem.W.Frag} {L L1 : List Addr} {G H G1 H1 : Hp} {D : Ends} {nx nx' : KN} {κ : Ks} {ρ : Env'} {μ : List M} {σ : St}
theorem AccS.step (a : AccS W K L G H D nx κ) (s : Step L G H L1 G1 H1) : AccS W K L1 G1 H1 D nx κ :=
  ⟨fun ρ μ h => (a.nx ρ μ h).step s, fun ρ μ h => (a.bk ρ μ h).step s, fun ρ μ h => (a.ct ρ μ h).step s, a.rt.step s, fun C ns ds ρ μ h σ' dx L' G' H' s' => a.xc C ns ds ρ μ h σ' dx L' G' H' (s.trans s')⟩
theorem AccS.x (a : AccS W K L G H D nx κ) (n : Now K L G H μ ρ σ) : AccX W K L G H σ (κ.z ρ) := fun C ns ds μ' z dx L' G' H' s o x => a.xc C ns ds ρ μ' z σ dx L' G' H' s (n.step s o) x
end
section
variable {X : Cx} {W : WX} {ρ ρ1 : Env'} {μ μ1 μ2 : List M} {e a b c tg : Expr} {es : List Expr} {Q Q' : KV} {Z : KX} {d da db : D} {ds : List D} {pos : Pos} {nx nx' : KN} {κ : Ks} {st : Stmt} {rest A B : List Stmt} {x : Str} {N : List Str}
theorem wSs.of {q : Out} (h : PSs X rest (tS W X.K ρ μ q)) (hq : match q with | .next ρ μ => nx ρ μ | .brk ρ μ => κ.bk ρ μ | .cont ρ μ => κ.ct ρ μ | .ret d μ => κ.rt d μ | .exc C ns ds ρ μ => κ.xc C ns ds ρ μ) : wSs X W ρ μ rest nx κ :=
  ⟨pss_of h fun D σ H ⟨L, G, n, a⟩ => ⟨L, G, n, by
    cases q with
    | next ρ μ => exact a.nx ρ μ hq
    | brk ρ μ => exact a.bk ρ μ hq
    | cont ρ μ => exact a.ct ρ μ hq
    | ret d μ => exact a.rt d μ hq
    | exc C ns ds ρ μ => exact a.xc C ns ds ρ μ hq⟩⟩
theorem wS.of {q : Out} (h : PS X st (tS W X.K ρ μ q)) (hq : match q with | .next ρ μ => nx ρ μ | .brk ρ μ => κ.bk ρ μ | .cont ρ μ => κ.ct ρ μ | .ret d μ => κ.rt d μ | .exc C ns ds ρ μ => κ.xc C ns ds ρ μ) : wS X W ρ μ st nx κ :=
  ⟨ps_of h fun D σ H ⟨L, G, n, a⟩ => ⟨L, G, n, by
    cases q with
    | next ρ μ => exact a.nx ρ μ hq
    | brk ρ μ => exact a.bk ρ μ hq
    | cont ρ μ => exact a.ct ρ μ hq
    | ret d μ => exact a.rt d μ hq
    | exc C ns ds ρ μ => exact a.xc C ns ds ρ μ hq⟩⟩
theorem wSs_nil (h : nx ρ μ) : wSs X W ρ μ [] nx κ := ⟨pss_of pss_nil fun D σ H ⟨L, G, n, a⟩ => a.nx ρ μ h σ L G H (.refl _ _ _) n⟩
theorem wSs_cons (h : wS X W ρ μ st (fun ρ1 μ1 => wSs X W ρ1 μ1 rest nx κ) κ) : wSs X W ρ μ (st :: rest) nx κ :=
  ⟨pss_of (pss_cons h.run aSs_ok) fun D σ H ⟨L, G, n, a⟩ => ⟨L, G, n, fun ρ1 μ1 h1 σ1 L1 G1 H1 s1 n1 => ⟨_, h1.run, L1, G1, n1, a.step s1⟩, a.bk, a.ct, a.rt, a.xc⟩⟩
theorem wSs.imp (h : wSs X W ρ μ rest nx κ) (hn : ∀ ρ μ, nx ρ μ → nx' ρ μ) : wSs X W ρ μ rest nx' κ := ⟨pss_of h.run fun D σ H ⟨L, G, n, a⟩ => ⟨L, G, n, fun ρ μ q => a.nx ρ μ (hn ρ μ q), a.bk, a.ct, a.rt, a.xc⟩⟩
theorem wS.imp (h : wS X W ρ μ st nx κ) (hn : ∀ ρ μ, nx ρ μ → nx' ρ μ) : wS X W ρ μ st nx' κ := ⟨ps_of h.run fun D σ H ⟨L, G, n, a⟩ => ⟨L, G, n, fun ρ μ q => a.nx ρ μ (hn ρ μ q), a.bk, a.ct, a.rt, a.xc⟩⟩
/-- the store is told with less -/
theorem wSs.le (h : wSs X W ρ μ1 rest nx κ) (l : Le μ μ1) : wSs X W ρ μ rest nx κ := ⟨pss_of h.run fun D σ H ⟨L, G, n, a⟩ => ⟨L, G, ⟨l _ _ _ _ n.ok, n.env⟩, a⟩⟩
/-- the store may be told with more: some of these -/
theorem wSs.some {S : List M → Prop} (h : ∀ μ1, S μ1 → wSs X W ρ μ1 rest nx κ) (l : ∀ K L G H, Ok K L G H μ → ∃ μ1, S μ1 ∧ Ok K L G H μ1) : wSs X W ρ μ rest nx κ :=
  ⟨⟨fun pins s σ H D I ⟨L, G, n, a⟩ => by
    obtain ⟨μ1, s1, o1⟩ := l _ _ _ _ n.ok
    exact (h μ1 s1).run.run pins s σ H D I ⟨L, G, ⟨o1, n.env⟩, a⟩⟩⟩
/-- targets one by one -/
structure wGs (X : Cx) (W : WX) (ρ : Env') (μ : List M) (ts : List Expr) (ds : List D) (nx : KN) : Prop where
  run : PGs X ts (fun vs σ H R => ∃ L G, Now X.K L G H μ ρ σ ∧ Reps X.K L G ds vs ∧ ∀ ρ' μ', nx ρ' μ' → Ends' X.K L G H ρ' μ' R)
def aGs (X : Cx) (e : List Expr) : TGs := fun v σ H Q => ∃ t, PGs X e t ∧ t v σ H Q
theorem aGs_ok : PGs X es (aGs X es) := ⟨fun pins s σ H v u Q I r ⟨t, p, q⟩ => p.run pins s σ H v u Q I r q⟩
theorem wGs_nil (h : nx ρ μ) : wGs X W ρ μ [] [] nx := ⟨pgs_of pgs_nil fun v σ H R ⟨L, G, n, r, a⟩ => ⟨r.inv_nil, a _ _ h _ L G H (.refl _ _ _) n⟩⟩
theorem wGs_cons (h : wG X W ρ μ e d (fun ρ1 μ1 => wGs X W ρ1 μ1 es ds nx)) (hs : (assignEach (e :: es) X.env).map (·.2) = assign e X.env :: (assignEach es X.env).map (·.2) := by rfl) : wGs X W ρ μ (e :: es) (d :: ds) nx :=
  ⟨pgs_of (pgs_cons h.run aGs_ok hs) fun vs σ H R ⟨L, G, n, r, a⟩ => by
    obtain ⟨v, q, e, r1, r2⟩ := r.inv_cons
    exact ⟨v, q, e, L, G, n, r1, fun ρ1 μ1 q1 σ1 L1 G1 H1 s1 n1 => ⟨_, q1.run, L1, G1, n1, r2.step s1, fun ρ' μ' q' => (a ρ' μ' q').step s1⟩⟩⟩
theorem wG_tup {kk : Nat} (hc : X.calm = true) (h : wGs X W ρ μ es ds nx) (hn : (assignEach es X.env).length = ds.length := by rfl) (hst : (assignEach es X.env).findIdx? (·.1) = none := by rfl) : wG X W ρ μ (.Tuple es kk pos) (.tup ds) nx :=
  ⟨pg_of (pg_tup hc h.run hn hst) fun v σ H R ⟨L, G, n, r, a⟩ => by
    obtain ⟨a', vs, e, q, r⟩ := rep_tup.mp r
    exact ⟨a', vs, e, Same.sqT n.ok.sub q, r.length, L, G, n, r, a⟩⟩

theorem wS_expr (h : wE X W ρ μ e (fun _ μ1 => nx ρ μ1) (κ.z ρ)) (hs : swapsWith e none pos.line X.env = pure false := by rfl) : wS X W ρ μ (.Expr e pos) nx κ :=
  ⟨ps_of (ps_expr h.run hs) fun D σ H ⟨L, G, n, a⟩ => ⟨L, G, n, fun d μ1 q v L1 G1 H1 s1 o1 _ => a.nx _ _ q σ L1 G1 H1 s1 (n.step s1 o1), a.x n⟩⟩
theorem wS_asg (h : wE X W ρ μ e (fun d μ1 => wG X W ρ μ1 tg d nx) (κ.z ρ)) (hs : swapsWithSole [tg] e pos.line X.env = pure false := by rfl) (hw : swappedStores [tg] e X.env = pure none := by rfl)
    (h1 : (assignEach [tg] X.env).map (·.2) = [assign tg X.env] := by rfl) : wS X W ρ μ (.Assign [tg] e pos) nx κ :=
  ⟨ps_of (ps_asg h.run aG_ok hs hw h1) fun D σ H ⟨L, G, n, a⟩ => ⟨L, G, n, fun d μ1 q v L1 G1 H1 s1 o1 r1 => ⟨_, q.run, L1, G1, n.step s1 o1, r1, fun ρ' μ' q' => (a.nx ρ' μ' q').step s1⟩, a.x n⟩⟩
theorem wS_ret (h : wE X W ρ μ e κ.rt (κ.z ρ)) : wS X W ρ μ (.Return (some e) pos) nx κ := ⟨ps_of (ps_ret h.run) fun D σ H ⟨L, G, n, a⟩ => ⟨L, G, n, a.rt, a.x n⟩⟩
theorem wS_pass (h : nx ρ μ) : wS X W ρ μ (.Pass pos) nx κ := .of es_pass h
theorem wS_if (h : wC X W ρ μ c (fun k μ1 => if k = true then wSs X W ρ μ1 A nx κ else wSs X W ρ μ1 B nx κ) (κ.z ρ)) : wS X W ρ μ (.If c A B pos) nx κ :=
  ⟨ps_of (ps_if h.run aSs_ok aSs_ok) fun D σ H ⟨L, G, n, a⟩ => ⟨L, G, n, fun k μ1 q L1 G1 H1 s1 o1 => by
    cases k with
    | true => exact iteT ⟨_, (show wSs X W ρ μ1 A nx κ from q).run, L1, G1, n.step s1 o1, a.step s1⟩
    | false => exact iteF ⟨_, (show wSs X W ρ μ1 B nx κ from q).run, L1, G1, n.step s1 o1, a.step s1⟩, a.x n⟩⟩
/-! ### while -/
/-! ### for -/
/-- what is walked -/
structure wI (X : Cx) (W : WX) (ρ : Env') (μ : List M) (tg e : Expr) (Q : KA) (Z : KX) : Prop where
  run : PI X tg e (fun σ H R => ∃ L G, Now X.K L G H μ ρ σ ∧ (∀ ds μ', Q ds μ' → ∀ J L' G' H', Step L G H L' G' H' → Ok X.K L' G' H' μ' → JOk X.K J L' G' ds → R J H') ∧ AccX W X.K L G H σ Z)
/-- the rest of a loop -/
def wForD (X : Cx) (W : WX) (tg : Expr) (body : List Stmt) (nx : KN) (κ : Ks) : List D → KN
  | [], ρ, μ => nx ρ μ
  | d :: ds, ρ, μ => wG X W ρ μ tg d fun ρ1 μ1 => wSs X W ρ1 μ1 body (wForD X W tg body nx κ ds) { κ with bk := nx, ct := wForD X W tg body nx κ ds }
structure wFor (X : Cx) (W : WX) (tg : Expr) (body : List Stmt) (nx : KN) (κ : Ks) (ds : List D) (ρ : Env') (μ : List M) : Prop where
  run : wForD X W tg body nx κ ds ρ μ
theorem wS_for {body : List Stmt} (po : PassesOwn (model X.prog X.w) X.A X.env X.xe) (hc : X.calm = true) (h : wI X W ρ μ tg e (fun ds μ1 => wFor X W tg body nx κ ds ρ μ1) (κ.z ρ)) (hs : ∀ x, foldedSetIterable e X.env x = pure x := by intro _; rfl) : wS X W ρ μ (.For tg e body [] pos) nx κ := by
  refine ⟨ps_of (ps_for po hc h.run aG_ok aSs_ok hs) fun D σ H ⟨L, G, nw, a⟩ => ⟨L, G, nw, fun ds μ1 hf J L1 G1 H1 s1 o1 j => ?_, a.x nw⟩⟩
  refine ⟨fun i m σ' H' => m = ds.length - i ∧ i ≤ ds.length ∧ ∃ ρ' μ' L' G', wForD X W tg body nx κ (ds.drop i) ρ' μ' ∧ Pre L1 L' ∧ Same G1 G' ∧ Now X.K L' G' H' μ' ρ' σ' ∧ AccS W X.K L' G' H' D nx κ, ⟨ds.length, by simp, Nat.zero_le _, ρ, μ1, L1, G1, hf.run, .refl _, .refl _, nw.step s1 o1, a.step s1⟩, ?_⟩
  rintro i m σ2 H2 ⟨rfl, hil, ρ2, μ2, L2, G2, h2, p2, g2, n2, a2⟩
  generalize hd : ds.drop i = rest at h2
  cases rest with
  | nil =>
    have : i = ds.length := by
      have := congrArg List.length hd
      simp at this
      omega
    subst this
    exact .inl ⟨j.stop L2 G2 H2 μ2 p2 g2 n2.ok, a2.nx _ _ h2 _ L2 G2 H2 (.refl _ _ _) n2⟩
  | cons d ds' =>
    obtain ⟨e1, e2⟩ := drop_cons hd
    obtain ⟨go, yl⟩ := j.go L2 G2 H2 μ2 i d p2 g2 n2.ok e1
    have il : i < ds.length := (List.getElem?_eq_some_iff.mp e1).1
    refine .inr ⟨go, fun σ' H' => ∃ ρ' μ' L' G', wForD X W tg body nx κ ds' ρ' μ' ∧ Pre L1 L' ∧ Same G1 G' ∧ Now X.K L' G' H' μ' ρ' σ' ∧ AccS W X.K L' G' H' D nx κ, fun σ' H' ⟨ρ', μ', L', G', w', p', g', n', a'⟩ => ⟨ds.length - (i + 1), by omega, rfl, il, ρ', μ', L', G', by rw [e2]; exact w', p', g', n', a'⟩, fun x H3 y => ?_⟩
    obtain ⟨G3, s3, o3, r3⟩ := yl x H3 y
    refine ⟨_, (show wG X W ρ2 μ2 tg d _ from h2).run, L2, G3, n2.step s3 o3, r3, fun ρ4 μ4 h4 σ4 L4 G4 H4 s4 n4 => ⟨_, h4.run, L4, G4, n4, ?_⟩⟩
    have a4 := a2.step (s3.trans s4)
    have fin : ∀ ρ5 μ5, wForD X W tg body nx κ ds' ρ5 μ5 → Ends' X.K L4 G4 H4 ρ5 μ5 fun σ' H' => ∃ ρ' μ' L' G', wForD X W tg body nx κ ds' ρ' μ' ∧ Pre L1 L' ∧ Same G1 G' ∧ Now X.K L' G' H' μ' ρ' σ' ∧ AccS W X.K L' G' H' D nx κ :=
      fun ρ5 μ5 w5 σ5 L5 G5 H5 s5 n5 => ⟨ρ5, μ5, L5, G5, w5, (p2.trans s4.pre).trans s5.pre, ((g2.trans s3.gs).trans s4.gs).trans s5.gs, n5, a4.step s5⟩
    exact ⟨fin, a4.nx, fin, a4.rt, a4.xc⟩
/-- a loop by an invariant -/
theorem wFor_inv {body : List Stmt} (Iv : List D → KN) (hb : ∀ d ds ρ μ, Iv (d :: ds) ρ μ → wG X W ρ μ tg d fun ρ1 μ1 => wSs X W ρ1 μ1 body (Iv ds) { κ with bk := nx, ct := Iv ds }) (hn : ∀ ρ μ, Iv [] ρ μ → nx ρ μ) : ∀ ds ρ μ, Iv ds ρ μ → wFor X W tg body nx κ ds ρ μ := by
  suffices ∀ ds ρ μ, Iv ds ρ μ → wForD X W tg body nx κ ds ρ μ from fun ds ρ μ h => ⟨this ds ρ μ h⟩
  intro ds
  induction ds with
  | nil => intro ρ μ h; exact hn ρ μ h
  | cons d ds ih =>
    intro ρ μ h
    refine ⟨pg_of (hb d ds ρ μ h).run fun v σ H R ⟨L, G, n, r, a⟩ => ⟨L, G, n, r, fun ρ1 μ1 h1 => a ρ1 μ1 ?_⟩⟩
    refine ⟨pss_of h1.run fun D σ H ⟨L, G, n, a⟩ => ⟨L, G, n, fun ρ μ q => a.nx ρ μ (ih ρ μ q), a.bk, fun ρ μ q => a.ct ρ μ (ih ρ μ q), a.rt, a.xc⟩⟩
theorem wFor_cons {body : List Stmt} (h : wG X W ρ μ tg d fun ρ1 μ1 => wSs X W ρ1 μ1 body (wFor X W tg body nx κ ds) { κ with bk := nx, ct := wFor X W tg body nx κ ds }) : wFor X W tg body nx κ (d :: ds) ρ μ :=
  ⟨⟨pg_of h.run fun v σ H R ⟨L, G, n, r, a⟩ => ⟨L, G, n, r, fun ρ1 μ1 h1 => a ρ1 μ1 ⟨pss_of h1.run fun D σ H ⟨L, G, n, a⟩ => ⟨L, G, n, fun ρ μ q => a.nx ρ μ q.run, a.bk, fun ρ μ q => a.ct ρ μ q.run, a.rt, a.xc⟩⟩⟩⟩⟩
end
end PM
set_option Elab.async false
set_option linter.all false
set_option maxRecDepth 100000
namespace PM
open PySem L2
/-! ### defs -/
/-- what a def is asked for: any of these ends will do -/
def spH (K : PySem.W.Frag) (ds : List D) (μ : List M) (Q : KV) (Z : KX) : Sp := fun vs H R E => ∃ L G, Ok K L G H μ ∧ Reps K L G ds vs ∧ AccV K L G H Q R ∧ ∀ C ns ds' μ', Z C ns ds' μ' → ComesX K L G H C ns ds' μ' E
/-- a def: its place, its parameters, its level -/
structure Fnx where
  a : Addr
  fd : FuncData
  ps : List Str
  lv : Nat
def SpF (P : Program) (w : World) (K : PySem.W.Frag) (mg : Str → Option Value) (base : Heap) (f : Fnx) (ds : List D) (μ : List M) (Q : KV) (Z : KX) : Prop := FnG P w K mg base f.lv f.a f.fd f.ps (spH K ds μ Q Z)
abbrev SpX (X : Cx) (f : Fnx) (ds : List D) (μ : List M) (Q : KV) (Z : KX) : Prop := SpF X.prog X.w X.K X.mg X.base f ds μ Q Z
section
variable {P : Program} {w : World} {K : PySem.W.Frag} {mg : Str → Option Value} {base : Heap} {f : Fnx} {ds : List D} {μ : List M} {Q Q' : KV} {Z Z' : KX}
theorem SpF.mono (h : SpF P w K mg base f ds μ Q Z) (hq : ∀ d μ, Q d μ → Q' d μ) (hz : ∀ C ns ds μ, Z C ns ds μ → Z' C ns ds μ) : SpF P w K mg base f ds μ Q' Z' :=
  ⟨fun vs H R E ⟨L, G, ok, r, v, x⟩ => h.len vs H R E ⟨L, G, ok, r, v.mono hq, fun C ns ds' μ' z => x C ns ds' μ' (hz _ _ _ _ z)⟩,
   fun A outer s H args us vs R E room gr en bd rel ⟨L, G, ok, r, v, x⟩ => h.run A outer s H args us vs R E room gr en bd rel ⟨L, G, ok, r, v.mono hq, fun C ns ds' μ' z => x C ns ds' μ' (hz _ _ _ _ z)⟩⟩
theorem SpF.imp (h : SpF P w K mg base f ds μ Q Z) (hq : ∀ d μ, Q d μ → Q' d μ) : SpF P w K mg base f ds μ Q' Z := h.mono hq fun _ _ _ _ z => z
/-- a def whose ends are told one by one -/
theorem SpF.rel {R : Rl} (h : ∀ ds μ o, R ds μ o → SpF P w K mg base f ds μ (fun d μ' => o = .ret d μ') (fun C ns ds' μ' => o = .exc C ns ds' μ')) : FnG P w K mg base f.lv f.a f.fd f.ps (spR K R) := by
  have key : ∀ vs H Q E, spR K R vs H Q E → ∃ ds μ o, R ds μ o ∧ spH K ds μ (fun d μ' => o = .ret d μ') (fun C ns ds' μ' => o = .exc C ns ds' μ') vs H Q E := by
    rintro vs H Q E ⟨L, G, ds, μ, o, ok, r, hR, c⟩
    refine ⟨ds, μ, o, hR, L, G, ok, r, ?_, ?_⟩
    · rintro d μ' rfl
      exact c
    · rintro C ns ds' μ' rfl
      exact c
  refine ⟨fun vs H Q E q => ?_, fun A outer s H args us vs Q E room gr en bd rel q => ?_⟩
  · obtain ⟨ds, μ, o, hR, z⟩ := key vs H Q E q
    exact (h ds μ o hR).len _ _ _ _ z
  · obtain ⟨ds, μ, o, hR, z⟩ := key vs H Q E q
    exact (h ds μ o hR).run A outer s H args us vs Q E room gr en bd rel z
/-- the other way -/
theorem SpF.ofR {R : Rl} {o : FO} (h : FnG P w K mg base f.lv f.a f.fd f.ps (spR K R)) (hR : R ds μ o) (ho : o.In Q Z) : SpF P w K mg base f ds μ Q Z := by
  have key : ∀ vs H R' E, spH K ds μ Q Z vs H R' E → spR K R vs H R' E := by
    rintro vs H R' E ⟨L, G, ok, r, v, x⟩
    refine ⟨L, G, ds, μ, o, ok, r, hR, ?_⟩
    cases o with
    | ret d μ' => exact v d μ' ho
    | exc C ns ds' μ' => exact x C ns ds' μ' ho
  exact ⟨fun vs H R' E q => h.len _ _ _ _ (key _ _ _ _ q), fun A outer s H args us vs R' E room gr en bd rel q => h.run A outer s H args us vs R' E room gr en bd rel (key _ _ _ _ q)⟩
end
/-! ### what leaves a def -/
/-- things that the def has made are told as they stand at its end -/
inductive Frz (μ : List M) (b : Nat) : List D → List D → Prop
  | nil : Frz μ b [] []
  | lo {d : D} {ds es : List D} : D.lo b d = true → Frz μ b ds es → Frz μ b (d :: ds) (d :: es)
  | tup {xs ys ds es : List D} : Frz μ b xs ys → Frz μ b ds es → Frz μ b (.tup xs :: ds) (.tup ys :: es)
  | lst {xs ys ds es : List D} : Frz μ b xs ys → Frz μ b ds es → Frz μ b (.lst xs :: ds) (.lst ys :: es)
  | obj {C : Addr} {ns : List Str} {xs ys ds es : List D} : Frz μ b xs ys → Frz μ b ds es → Frz μ b (.obj C ns xs :: ds) (.obj C ns ys :: es)
  | locL {n : Nat} {xs ys ds es : List D} : b ≤ n → μ[n]? = some (.lst xs) → Frz μ b xs ys → Frz μ b ds es → Frz μ b (.loc n :: ds) (.lst ys :: es)
  | locI {n : Nat} {C : Addr} {ns : List Str} {xs ys ds es : List D} : b ≤ n → μ[n]? = some (.ins C ns xs) → Frz μ b xs ys → Frz μ b ds es → Frz μ b (.loc n :: ds) (.obj C ns ys :: es)
theorem Frz.len {μ : List M} {b : Nat} {ds es : List D} (h : Frz μ b ds es) : es.length = ds.length := by
  induction h with
  | nil => rfl
  | _ => simp [*]
theorem Frz.los {μ : List M} {b : Nat} : ∀ {ds : List D}, D.los b ds = true → Frz μ b ds ds
  | [], _ => .nil
  | d :: ds, h => by
    simp only [D.los, Bool.and_eq_true] at h
    exact .lo h.1 (Frz.los h.2)
section
variable {K : PySem.W.Frag} {L : List Addr} {G H : Hp} {μ μ2 ν : List M}
/-- the last things of the store are told, and left behind -/
theorem Ok.freeze (o : Ok K L G H (μ2 ++ ν)) (lo : μ2.all (M.lo μ2.length) = true) {L0 : List Addr} {G0 H0 : Hp} (s : Step L0 G0 H0 L G H) (hl : L0.length = μ2.length) :
    ∃ G', Step L0 G0 H0 (L.take μ2.length) G' H ∧ Same G G' ∧ Ok K (L.take μ2.length) G' H μ2 ∧ ∀ ds es vs, Frz (μ2 ++ ν) μ2.length ds es → Reps K L G ds vs → Reps K (L.take μ2.length) G' es vs := by
  classical
  have hll : L.length = μ2.length + ν.length := by rw [o.len, List.length_append]
  refine ⟨fun a => if a ∈ L.drop μ2.length then H a else G a, ?_⟩
  have sep : ∀ a, a ∈ L.take μ2.length → a ∉ L.drop μ2.length := fun a h1 h2 => by
    have := List.nodup_append.mp ((List.take_append_drop μ2.length L).symm ▸ o.nd)
    exact this.2.2 a h1 a h2 rfl
  have sg : Same G (fun a => if a ∈ L.drop μ2.length then H a else G a) := fun a u e => by
    have : a ∉ L.drop μ2.length := fun z => by
      rw [o.off a (List.mem_of_mem_drop z)] at e
      cases e
    simp only [this, if_false]
    exact e
  have c := o.cut lo
  have st := s.cut (n := μ2.length) (by omega)
  refine ⟨⟨st.pre, st.gs.trans sg, st.hs, st.fr, st.nn, fun a u e => ?_⟩, sg, ⟨fun a u e => ?_, c.len, c.nd, fun a ha => ?_, c.liv, fun n a m e1 e2 => (c.at_ n a m e1 e2).mono (.refl _) sg⟩, ?_⟩
  · by_cases z : a ∈ L.drop μ2.length
    · rcases s.fr a (List.mem_of_mem_drop z) with q | q
      · exfalso
        obtain ⟨j, hj, ej⟩ := List.getElem_of_mem q
        have e1 := s.pre j a (by rw [List.getElem?_eq_getElem hj, ej])
        refine sep a ?_ z
        rw [List.mem_iff_getElem?]
        exact ⟨j, by rw [List.getElem?_take_of_lt (by omega)]; exact e1⟩
      · exact .inr q
    · simp only [z, if_false] at e
      exact st.gf a u e
  · by_cases z : a ∈ L.drop μ2.length
    · simp only [z, if_true] at e
      exact e
    · simp only [z, if_false] at e
      exact c.sub a u e
  · simp only [sep a ha, if_false]
    exact c.off a ha
  · intro ds es vs h
    induction h generalizing vs with
    | nil => intro r; exact r.inv_nil ▸ Reps.nil
    | lo hd _ ih =>
      intro r
      obtain ⟨v, q, rfl, r1, r2⟩ := r.inv_cons
      exact Reps.cons ((r1.cut hd).mono (.refl _) sg) (ih q r2)
    | tup _ _ ih1 ih2 =>
      intro r
      obtain ⟨v, q, rfl, r1, r2⟩ := r.inv_cons
      obtain ⟨a, us, e, hq, r1⟩ := rep_tup.mp r1
      exact Reps.cons (rep_tup.mpr ⟨a, us, e, Same.sqT sg hq, ih1 us r1⟩) (ih2 q r2)
    | lst _ _ ih1 ih2 =>
      intro r
      obtain ⟨v, q, rfl, r1, r2⟩ := r.inv_cons
      obtain ⟨a, us, e, hq, r1⟩ := rep_lst.mp r1
      exact Reps.cons (rep_lst.mpr ⟨a, us, e, sg _ _ hq, ih1 us r1⟩) (ih2 q r2)
    | obj h1 _ ih1 ih2 =>
      intro r
      obtain ⟨v, q, rfl, r1, r2⟩ := r.inv_cons
      obtain ⟨a, dx, us, e, hq, z, r1⟩ := rep_obj.mp r1
      exact Reps.cons (rep_obj.mpr ⟨a, dx, us, e, sg _ _ hq, by rw [h1.len]; exact z, ih1 us r1⟩) (ih2 q r2)
    | locL hn hm _ _ ih1 ih2 =>
      intro r
      obtain ⟨v, q, rfl, r1, r2⟩ := r.inv_cons
      obtain ⟨a, ea, e⟩ := rep_loc.mp r1
      obtain ⟨us, eh, r1⟩ := o.at_ _ a _ ea hm
      have hd : a ∈ L.drop μ2.length := by
        rw [List.mem_iff_getElem?]
        exact ⟨_ - μ2.length, by rw [List.getElem?_drop, Nat.add_sub_cancel' hn]; exact ea⟩
      exact Reps.cons (rep_lst.mpr ⟨a, us, e, by simp only [hd, if_true]; exact eh, ih1 us r1⟩) (ih2 q r2)
    | locI hn hm h1 _ ih1 ih2 =>
      intro r
      obtain ⟨v, q, rfl, r1, r2⟩ := r.inv_cons
      obtain ⟨a, ea, e⟩ := rep_loc.mp r1
      obtain ⟨dx, us, eh, z, r1⟩ := o.at_ _ a _ ea hm
      have hd : a ∈ L.drop μ2.length := by
        rw [List.mem_iff_getElem?]
        exact ⟨_ - μ2.length, by rw [List.getElem?_drop, Nat.add_sub_cancel' hn]; exact ea⟩
      exact Reps.cons (rep_obj.mpr ⟨a, dx, us, e, by simp only [hd, if_true]; exact eh, by rw [h1.len]; exact z, ih1 us r1⟩) (ih2 q r2)
end
/-- what is handed back at a def's end, as the caller sees it (μ: the store at the entry) -/
inductive RetOk (μ : List M) (Q : KV) : D → List M → Prop
  | same {d : D} {μ1 : List M} : Q d μ1 → RetOk μ Q d μ1
  | cut {d d' : D} {μ2 ν : List M} : Lows μ μ2 → Frz (μ2 ++ ν) μ.length [d] [d'] → Q d' μ2 → RetOk μ Q d (μ2 ++ ν)
  | le {d : D} {μ1 μ2 : List M} : Le μ1 μ2 → RetOk μ Q d μ2 → RetOk μ Q d μ1
inductive ExcOk (μ : List M) (Z : KX) (C : Addr) (ns : List Str) : List D → List M → Prop
  | same {ds : List D} {μ1 : List M} : Z C ns ds μ1 → ExcOk μ Z C ns ds μ1
  | cut {ds ds' : List D} {μ2 ν : List M} : Lows μ μ2 → Frz (μ2 ++ ν) μ.length ds ds' → Z C ns ds' μ2 → ExcOk μ Z C ns ds (μ2 ++ ν)
  | le {ds : List D} {μ1 μ2 : List M} : Le μ1 μ2 → ExcOk μ Z C ns ds μ2 → ExcOk μ Z C ns ds μ1
theorem RetOk.new {μ ν : List M} {Q : KV} {d d' : D} (h : Frz (μ ++ ν) μ.length [d] [d']) (q : Q d' μ) : RetOk μ Q d (μ ++ ν) := .cut (.refl _) h q
theorem RetOk.low {μ ν : List M} {Q : KV} {d : D} (h : D.lo μ.length d = true) (q : Q d μ) : RetOk μ Q d (μ ++ ν) := .cut (.refl _) (.lo h .nil) q
theorem ExcOk.low {μ ν : List M} {Z : KX} {C : Addr} {ns : List Str} {ds : List D} (h : D.los μ.length ds = true) (q : Z C ns ds μ) : ExcOk μ Z C ns ds (μ ++ ν) := .cut (.refl _) (Frz.los h) q
section
variable {K : PySem.W.Frag} {L L1 : List Addr} {G H G1 H1 : Hp} {μ μ1 : List M} {Q : KV} {Z : KX} {d : D} {C : Addr} {ns : List Str} {ds : List D} {v : V} {R : VK} {E : XK}
theorem RetOk.go (h : RetOk μ Q d μ1) (ok : Ok K L G H μ) (a : AccV K L G H Q R) (s : Step L G H L1 G1 H1) (o : Ok K L1 G1 H1 μ1) (r : Rep K L1 G1 d v) : R v H1 := by
  induction h with
  | same q => exact a _ _ q v L1 G1 H1 s o r
  | cut l f q =>
    rename_i d' μ2 ν
    obtain ⟨G', s', _, o', rr⟩ := o.freeze (l.all ok) s (by rw [ok.len, l.1])
    obtain ⟨w, e, r'⟩ := (rr [d] [d'] [v] (by rw [l.1]; exact f) (Reps.cons r Reps.nil)).one
    cases e
    exact a _ _ q v _ _ H1 s' o' r'
  | le l _ ih => exact ih (l _ _ _ _ o)
theorem ExcOk.go {dx : Option Addr} (h : ExcOk μ Z C ns ds μ1) (ok : Ok K L G H μ) (a : ∀ C ns ds' μ', Z C ns ds' μ' → ComesX K L G H C ns ds' μ' E) (s : Step L G H L1 G1 H1) (o : Ok K L1 G1 H1 μ1) (x : XdAt K L1 G1 H1 dx ns ds) : E (.ref C) dx H1 := by
  induction h with
  | same q => exact a _ _ _ _ q dx L1 G1 H1 s o x
  | cut l f q =>
    obtain ⟨G', s', sg, o', rr⟩ := o.freeze (l.all ok) s (by rw [ok.len, l.1])
    refine a _ _ _ _ q dx _ _ H1 s' o' ⟨by rw [f.len]; exact x.1, ?_⟩
    rcases x.2 with z | ⟨b, vs, e1, e2, r⟩
    · exact .inl z
    · exact .inr ⟨b, vs, e1, sg _ _ e2, rr _ _ _ (by rw [l.1]; exact f) r⟩
  | le l _ ih => exact ih (l _ _ _ _ o)
end
end PM
set_option Elab.async false
set_option linter.all false
set_option maxRecDepth 100000
namespace PM
open PySem PySem.Spec L2 PyProof.Rows
section
variable {P : Program} {w : World} {K : PySem.W.Frag} {mg : Str → Option Value} {base : Heap}
/-- THE RULE for a def -/
theorem spF_of {x qual : Str} {st : Stmt} {dvs : List V} {f : Addr} {fd : FuncData} {N ps : List Str} {k : Nat} {ds : List D} {μ : List M} {Q : KV} {Z : KX} (F : FunS K x qual st dvs f fd) (S : FnScope N ps (defScope st)) (hl : ds.length = ps.length)
    (body : ∀ (cdv : Value) (A : Around) (outer : List Env) (s : Shared) (H : Hp) (E : XK), Gd (cxOf (L2.CX P w) P w K mg base N qual (defScope st) f cdv A outer s H E) (fun c d _ H => E c d H) k →
      wSs (cxOf (L2.CX P w) P w K mg base N qual (defScope st) f cdv A outer s H E) (fun c d _ H => E c d H) (startD N ds) μ (defBody st) (fun _ μ1 => RetOk μ Q .non μ1) { rt := RetOk μ Q, xc := fun C ns ds' _ μ1 => ExcOk μ Z C ns ds' μ1 }) :
    SpF P w K mg base ⟨f, fd, ps, k + 1⟩ ds μ Q Z := by
  have ln : ∀ vs H R E, spH K ds μ Q Z vs H R E → vs.length = ps.length := fun vs H R E ⟨L, G, _, r, _⟩ => r.length.trans hl
  refine ⟨ln, fun A outer s H args us vs R E room gr en bnd rel hsp => ?_⟩
  obtain ⟨oc, od, dV, kV, doc, pm, an, cdv, ct, osl, rfl, look, hcode, _, _⟩ := F.ex
  have kept : ∀ b o, base.get? b = some o → s.heap.get? b = some o := fun b o e => (en.bs b o e).1
  have kin : K.In s.heap := en.mod.kin.keeps kept
  have kinds : ∀ y ∈ ps.zip us, (defScope st).names.lookup y.1 = some .local ∨ ((defScope st).names.lookup y.1 = some .cell ∧ ((cellsFrom (s.heap.objs.size + 1) (defScope st).names []).lookup y.1).isSome = true) := by
    rintro ⟨n, v⟩ hy
    exact (S.par n (List.of_mem_zip hy).1).imp (fun q => q) fun q => ⟨q, PySem.W.cellsFrom_some _ _ _ (.inl q)⟩
  refine codeAny_call_function room.depth (kin _ _ look) rfl S.co S.gen rfl (PySem.W.codeRec_of kin hcode) (bnd _ _ _ _ (wpAny_newFunctionEnv_cells S.kind kinds fun env he s1 ent => ?_))
  subst he
  refine ⟨(en.mod.nolimit.keeps kept).keeps ent.toInCall.keep, codeAny_func ?_⟩
  have hlen := ln _ _ _ _ hsp
  obtain ⟨L, G, ok, rr, av, ax⟩ := hsp
  have ht := body cdv A outer s H E ⟨rfl, S.nd, takes_of rfl rfl rfl rfl, passes_of rfl, room.deeper _, gr.mono (Nat.le_succ _)⟩
  have inv : Inv (cxOf (L2.CX P w) P w K mg base N qual (defScope st) f cdv A outer s H E) [] (L2.start N vs) H s1 := inv_start S room.hd en hlen rel ent
  refine wpAny_mono (ht.run.run [] s1 (L2.start N vs) H { nx := fun _ H' => R .non H', rt := R } inv ⟨L, G, ⟨ok, start_rep rr⟩, ?_⟩) (fun fl s' hs => ?_) fun e s' hs => hs
  · exact ⟨fun ρ1 μ1 q σ' L' G' H' s' n' => q.go ok av s' n'.ok (rep_non.mpr rfl), fun _ _ z => z.elim, fun _ _ z => z.elim, fun d μ1 q v L' G' H' s' o' r' => q.go ok av s' o' r', fun C ns ds' ρ1 μ1 q σ' dx L' G' H' s' n' x' => q.go ok ax s' n'.ok x'⟩
  match fl, hs with
  | .ret u, ⟨v, σ', H', J, rv, q⟩ => exact ⟨v, H', J.os, J.bare, J.base, J.hok, rv, q⟩
  | .next, ⟨σ', H', J, q⟩ => exact ⟨.non, H', J.os, J.bare, J.base, J.hok, rfl, q⟩
  | .brk, ⟨_, _, _, q⟩ => exact q.elim
  | .cont, ⟨_, _, _, q⟩ => exact q.elim
end
section
variable {X : Cx} {W : WX} {k : Nat} {ρ : Env'} {μ μ1 μ2 : List M} {e a b ob : Expr} {es : List Expr} {Q Q' : KV} {Z : KX} {d da db : D} {ds ds' : List D} {p pos apos : Pos} {x m : Str} {f : Fnx} {C : Addr} {pl : Sem Bool} {i : Int}
/-- a def's call, by values -/
theorem SpF.call (h : SpX X f ds μ Q Z) (bd : Binds X.K f.fd f.ps []) (g : Gd X W k) (hj : f.lv ≤ k) : wF X W (fun us => call (.ref f.a) us) ds μ Q Z := by
  refine ⟨fun pins s σ H xs us R L G I rx ok r av ax => ?_⟩
  ·
    have hsp : spH X.K ds μ Q Z xs H R (WE W σ) := ⟨L, G, ok, r, av, ax⟩
    have hl : us.length = f.ps.length := by rw [← rx.length]; exact h.len _ _ _ _ hsp
    have b := bd s us I.kIn (by rw [List.append_nil]; exact hl)
    rw [List.append_nil] at b
    exact run_fnG (E := WE W σ) h (g.hr.mono hj) (g.gr.mono hj) b (passAt g.tk σ) I rx hsp
/-- arguments, then a call -/
theorem wA.call {fn : List Value → Sem Value} (h : wA X W ρ μ es (fun ds μ1 => wF X W fn ds μ1 Q Z) Z) {pins : List (Addr × Obj)} {s : Shared} {σ : L2.St} {H : Hp} {L : List Addr} {G : Hp} {R : VK} (I : Inv X pins σ H s) (n : Now X.K L G H μ ρ σ) (v : AccV X.K L G H Q R) (z : AccX W X.K L G H σ Z) (pos : Pos) :
    wpAny (model X.prog X.w) X.A (spliced (backTo pos (starEach es X.env))) (fun us s1 => X.K.In s1.heap ∧ wpAny (model X.prog X.w) X.A (fn us) (EP X pins σ R) X.xe s1) X.xe s :=
  thn (h.go I n z pos) fun us s1 ⟨vs, ds, μ1, L1, G1, H1, I1, rv, q, st, o, r⟩ => ⟨I1.kIn, q.run pins s1 σ H1 vs us R L1 G1 I1 rv o r (v.step st) (z.step st)⟩
theorem wE_call (f : Fnx) (g : Gd X W k) (hm : X.mg x = some (.ref f.a)) (hk : PySem.W.keepIn X.K (.ref f.a) = true) (bd : Binds X.K f.fd f.ps []) (h : wA X W ρ μ (e :: es) (fun ds μ1 => SpX X f ds μ1 Q Z) Z) (hj : f.lv ≤ k := by exact Nat.le_of_ble_eq_true rfl) (hg : Gl X x := by rfl)
    (hdb : (x == ("__debug__" : Str)) = false := by decide) (he : starEach (e :: es) X.env = (false, eval e X.env) :: starEach es X.env := by rfl) (hpl : (backTo pos (starEach es X.env)).any (·.1) = false := by rfl) :
    wE X W ρ μ (.Call (.Name x p) (e :: es) [] pos) Q Z :=
  .by fun pins s σ H R L G I n v z => wpAny_Call_Name_kw (ld_glob I hg hm (PySem.W.callWith_K (h₀ := X.base) I.ok.mod.kin hk (wA.call (fn := fun us => call (.ref f.a) us) ⟨pa_of h.run fun σ H R ⟨L, G, n, v, x⟩ => ⟨L, G, n, fun ds μ' q => v ds μ' (q.call bd g hj), x⟩⟩ I n v z pos) he hpl) hdb)
/-- o.m(e, ..) -/
theorem wE_meth (f : Fnx) (g : Gd X W k) (cl : Cls X.K C) (hm : Meth X.K C m f.a) (bd : Binds X.K f.fd f.ps []) (h : wE X W ρ μ ob (fun d μ1 => Recv C m μ1 d ∧ wA X W ρ μ1 (e :: es) (fun ds μ2 => SpX X f (d :: ds) μ2 Q Z) Z) Z) (hj : f.lv ≤ k := by exact Nat.le_of_ble_eq_true rfl)
    (hst : starEach (e :: es) X.env = (false, eval e X.env) :: starEach es X.env := by rfl) (hpl : (backTo pos (starEach es X.env)).any (·.1) = false := by rfl)
    (ht : eval (.Call (.Attribute ob m apos) (e :: es) [] pos) X.env = (do
      let ov ← eval ob X.env
      standAt apos.atName
      let (f, first) ← holding [ov] (getMethod ov m pl)
      callWith pos f first (backTo pos (starEach (e :: es) X.env)) (backToKw pos (keywordEach [] X.env))) := by rfl) :
    wE X W ρ μ (.Call (.Attribute ob m apos) (e :: es) [] pos) Q Z := by
  refine .by fun pins s σ H R L G I n v z => ?_
  refine PySem.W.methodCall_KW (pl := pl) (thn (h.go I n z) fun u s1 ⟨y, d, μ1, L1, G1, H1, I1, ry, ⟨hr, ha⟩, st1, o1, r1⟩ => ?_) ht
  obtain ⟨a, dx, fs, ex, ea, l⟩ := hr.at_ o1 r1
  subst ex
  obtain rfl : u = Value.ref a := ry
  refine getmeth_ok I1 ea cl hm l ?_
  refine PySem.W.callWith_K (first := [.ref a]) (h₀ := X.base) I.ok.mod.kin hm.kp (thn (ha.go I1 (n.step st1 o1) (z.step st1) pos) fun us s2 ⟨vs, ds, μ2, L2, G2, H2, I2, rv, q, st2, o2, r2⟩ => ⟨I2.kIn, ?_⟩) hst hpl
  exact (q.call bd g hj).run pins s2 σ H2 (.ref a :: vs) (.ref a :: us) R L2 G2 I2 (.cons rfl rv) o2 (Reps.cons (r1.step st2) r2) (v.step (st1.trans st2)) (z.step (st1.trans st2))
/-- o.f, a field -/
theorem wE_fld (h : wE X W ρ μ ob (fun d μ1 => ∃ ns fs, (d = .obj C ns fs ∨ ∃ i : Nat, d = .loc i ∧ μ1[i]? = some (.ins C ns fs)) ∧ ∃ d', fldOf ns fs m = some d' ∧ Q d' μ1) Z) (c : Cls X.K C) (na : NoAttr X.K C m) (hb : attributeBase ob m X.env (eval ob X.env) = eval ob X.env := by rfl) : wE X W ρ μ (.Attribute ob m pos) Q Z :=
  ⟨pe_of (pe_fld h.run hb) fun σ H R ⟨L, G, nw, av, ax⟩ => ⟨L, G, nw, fun d μ1 ⟨ns, fs, hd, d', hf, q⟩ v L1 G1 H1 s1 o1 r1 => by
    rcases hd with rfl | ⟨i, rfl, hi⟩
    · obtain ⟨a, dx, vs, ev, eg, _, rr⟩ := rep_obj.mp r1
      obtain ⟨u, l, ru⟩ := fld_rep rr hf
      exact ⟨a, C, dx, _, u, ev, o1.sub _ _ eg, c, na, l, av _ _ q u L1 G1 H1 s1 o1 ru⟩
    · obtain ⟨a, ea, ev⟩ := rep_loc.mp r1
      obtain ⟨dx, vs, eh, _, rr⟩ := o1.at_ i a _ ea hi
      obtain ⟨u, l, ru⟩ := fld_rep rr hf
      exact ⟨a, C, dx, _, u, ev, eh, c, na, l, av _ _ q u L1 G1 H1 s1 o1 ru⟩, ax⟩⟩
/-- a module's name: a constant, a class -/
theorem wE_glob {u : Value} {v : V} (hm : X.mg x = some u) (r : RelV v u) (rd : ∀ L G, Rep X.K L G d v) (h : Q d μ) (hg : Gl X x := by rfl) (hd : (x == ("__debug__" : Str)) = false := by decide) : wE X W ρ μ (.Name x pos) Q Z := .ofV (ev_glob hg hm r rd hd) h
theorem wE_bty {T : String} (hm : X.mg x = none) (hv : bootBuiltins x = some (.type T)) (h : Q (.ty T) μ) (hg : Gl X x := by rfl) (hn : x ≠ "__name__" := by decide) (hd : (x == ("__debug__" : Str)) = false := by decide) : wE X W ρ μ (.Name x pos) Q Z := .ofV (ev_bty hg hm hv hn hd) h
/-- built-ins -/
theorem wE_blt {id : String} (hm : X.mg x = none) (hv : bootBuiltins x = some (.builtin id)) (h : wA X W ρ μ (e :: es) (fun ds μ1 => wF X W (fun us => call (.builtin id) us) ds μ1 Q Z) Z) (hg : Gl X x := by rfl) (hn : x ≠ "__name__" := by decide) (hdb : (x == ("__debug__" : Str)) = false := by decide)
    (he : starEach (e :: es) X.env = (false, eval e X.env) :: starEach es X.env := by rfl) (hpl : (backTo pos (starEach es X.env)).any (·.1) = false := by rfl) : wE X W ρ μ (.Call (.Name x p) (e :: es) [] pos) Q Z := by
  refine .by fun pins s σ H R L G I n v z => ?_
  refine PyProof.Rows.Call_ (ld_blt I hg hm hv ?_ hn hdb)
  refine PyProof.Rows.callWith_builtin1 (thn (h.go I n z pos) fun us s1 ⟨vs, ds, μ1, L1, G1, H1, I1, rv, q, st, o, r⟩ => ?_) he hpl
  exact q.run pins s1 σ H1 vs us R L1 G1 I1 rv o r (v.step st) (z.step st)
theorem wE_bcl {T : String} (hm : X.mg x = none) (hv : bootBuiltins x = some (.type T)) (h : wA X W ρ μ (e :: es) (fun ds μ1 => wF X W (fun us => call (.type T) us) ds μ1 Q Z) Z) (hg : Gl X x := by rfl) (hn : x ≠ "__name__" := by decide) (hdb : (x == ("__debug__" : Str)) = false := by decide)
    (he : starEach (e :: es) X.env = (false, eval e X.env) :: starEach es X.env := by rfl) (hpl : (backTo pos (starEach es X.env)).any (·.1) = false := by rfl) : wE X W ρ μ (.Call (.Name x p) (e :: es) [] pos) Q Z := by
  refine .by fun pins s σ H R L G I n v z => ?_
  refine PyProof.Rows.Call_ (ld_blt I hg hm hv ?_ hn hdb)
  refine PyProof.Rows.callWith_type1 (thn (h.go I n z pos) fun us s1 ⟨vs, ds, μ1, L1, G1, H1, I1, rv, q, st, o, r⟩ => ?_) he hpl
  exact q.run pins s1 σ H1 vs us R L1 G1 I1 rv o r (v.step st) (z.step st)
/-- a list that nobody will change -/
theorem wE_lst (h : wA X W ρ μ es (fun ds μ1 => ds.length ≤ sizeLine ∧ Q (.lst ds) μ1) Z) : wE X W ρ μ (.List es pos) Q Z :=
  ⟨pe_of (pe_lst h.run) fun σ H R ⟨L, G, n, v, x⟩ => ⟨L, G, n, fun ds μ1 ⟨hl, q⟩ vs L1 G1 H1 s1 o1 r1 => ⟨by rw [r1.length]; exact hl, fun p hp => by
    obtain ⟨o', s'⟩ := o1.new (o := .lst vs) hp
    exact v _ _ q _ L1 _ _ (s1.trans s') o' (rep_lst.mpr ⟨p, vs, rfl, upd_same, r1.step s'⟩)⟩, x⟩⟩
/-- a list of the store -/
theorem wE_lstL (h : wA X W ρ μ es (fun ds μ1 => ds.length ≤ sizeLine ∧ Q (.loc μ1.length) (μ1 ++ [.lst ds])) Z) : wE X W ρ μ (.List es pos) Q Z :=
  ⟨pe_of (pe_lst h.run) fun σ H R ⟨L, G, n, v, x⟩ => ⟨L, G, n, fun ds μ1 ⟨hl, q⟩ vs L1 G1 H1 s1 o1 r1 => ⟨by rw [r1.length]; exact hl, fun p hp => by
    obtain ⟨o', s'⟩ := o1.alloc (o := .lst vs) (m := .lst ds) hp ⟨vs, upd_same, r1.mono .app (.refl _)⟩
    exact v _ _ q _ _ _ _ (s1.trans s') o' (rep_loc.mpr ⟨p, by rw [← o1.len]; exact last_get L1 p, rfl⟩)⟩, x⟩⟩

/-! ### subscripts -/
structure wX (X : Cx) (W : WX) (da db : D) (μ : List M) (Q : KV) (Z : KX) : Prop where
  run : ∀ (value slice : Expr) (pins : List (Addr × Obj)) (s : Shared) (σ : L2.St) (H : Hp) (x y : V) (v u : Value) (R : VK) (L : List Addr) (G : Hp), Inv X pins σ H s → RelV x v → RelV y u → Ok X.K L G H μ → Rep X.K L G da x → Rep X.K L G db y → AccV X.K L G H Q R → AccX W X.K L G H σ Z →
    subscripted slice false v u = operate [v, u] (getItem v u) → wpAny (model X.prog X.w) X.A (subscriptTail value slice v u) (EP X pins σ R) X.xe s
theorem wE_sub (h : wE X W ρ μ a (fun da μ1 => wE X W ρ μ1 b (fun db μ2 => wX X W da db μ2 Q Z) Z) Z) (hs : PlainIx b := by exact fun _ _ => rfl) : wE X W ρ μ (.Subscript a b pos) Q Z :=
  .by fun pins s σ H R L G I n v z => PyProof.Rows.Subscript_ (thn (h.go I n z) fun u s1 ⟨y, da, μ1, L1, G1, H1, I1, ry, hb, st1, o1, r1⟩ => thn (hb.go I1 (n.step st1 o1) (z.step st1)) fun u2 s2 ⟨y2, db, μ2, L2, G2, H2, I2, ry2, ho, st2, o2, r2⟩ =>
    ho.run a b pins s2 σ H2 y y2 u u2 R L2 G2 I2 ry ry2 o2 (r1.step st2) r2 (v.step (st1.trans st2)) (z.step (st1.trans st2)) (hs _ _))
theorem wX_at (hd : Ixd μ da ds) (h : atI ds i = some d) (q : Q d μ) : wX X W da (.int i) μ Q Z := by
  refine ⟨fun value slice pins s σ H x y v u R L G I rx ry ok r1 r2 av ax hs => ?_⟩
  have e2 := rep_int.mp r2
  rcases hd with rfl | rfl | rfl | ⟨k, rfl, hk⟩
  · obtain ⟨p, vs, e, hq, rr⟩ := rep_tup.mp r1
    obtain ⟨z, ez, rz⟩ := atI_rep rr h
    exact ix_tup value slice pins s σ H x y v u R I rx ry ⟨p, vs, i, z, e, e2, Same.sqT ok.sub hq, ez, av _ _ q z L G H (.refl _ _ _) ok rz⟩ hs
  · obtain ⟨p, vs, e, hq, rr⟩ := rep_lst.mp r1
    obtain ⟨z, ez, rz⟩ := atI_rep rr h
    exact ix_list value slice pins s σ H x y v u R I rx ry ⟨p, vs, i, z, e, e2, SqL.of (ok.sub _ _ hq), ez, av _ _ q z L G H (.refl _ _ _) ok rz⟩ hs
  · obtain ⟨p, vs, e, hq, rr⟩ := rep_scr.mp r1
    obtain ⟨z, ez, rz⟩ := atI_rep rr h
    exact ix_list value slice pins s σ H x y v u R I rx ry ⟨p, vs, i, z, e, e2, Same.sqL ok.sub hq, ez, av _ _ q z L G H (.refl _ _ _) ok rz⟩ hs
  · obtain ⟨p, ea, e⟩ := rep_loc.mp r1
    obtain ⟨vs, eh, rr⟩ := ok.at_ k p _ ea hk
    obtain ⟨z, ez, rz⟩ := atI_rep rr h
    exact ix_list value slice pins s σ H x y v u R I rx ry ⟨p, vs, i, z, e, e2, SqL.of eh, ez, av _ _ q z L G H (.refl _ _ _) ok rz⟩ hs
theorem atI_ofNat {α : Type} {l : List α} {n : Nat} {y : α} (h : l[n]? = some y) : atI l (n : Int) = some y := by
  unfold atI ixN
  have := (List.getElem?_eq_some_iff.mp h).1
  rw [if_pos (by omega), if_pos (by omega)]
  simpa using h
/-- some place of a sequence -/
theorem wX_some (hd : Ixd μ da ds) (h0 : 0 ≤ i) (h1 : i < ds.length) (q : ∀ (n : Nat) d, ds[n]? = some d → i = n → Q d μ) : wX X W da (.int i) μ Q Z := by
  have hn : i.toNat < ds.length := by omega
  have e : i = (i.toNat : Int) := by omega
  rw [e]
  exact wX_at hd (atI_ofNat (List.getElem?_eq_getElem hn)) (q _ _ (List.getElem?_eq_getElem hn) e)
inductive Ints : List D → List Int → Prop
  | nil : Ints [] []
  | cons {i : Int} {ds : List D} {is : List Int} : Ints ds is → Ints (.int i :: ds) (i :: is)
theorem Ints.get {ds : List D} {is : List Int} (h : Ints ds is) : ∀ (n : Nat) d, ds[n]? = some d → ∃ i, d = .int i ∧ is[n]? = some i := by
  induction h with
  | nil => intro n d e; simp at e
  | cons h ih =>
    intro n d e
    cases n with
    | zero => simp only [List.getElem?_cons_zero, Option.some.injEq] at e; exact ⟨_, e.symm, rfl⟩
    | succ n => simp only [List.getElem?_cons_succ] at e ⊢; exact ih n d e
theorem Ints.len {ds : List D} {is : List Int} (h : Ints ds is) : ds.length = is.length := by
  induction h with
  | nil => rfl
  | cons _ ih => simp [ih]
/-- one of some ints -/
theorem wX_ints {is : List Int} (hd : Ixd μ da ds) (hi : Ints ds is) (h0 : 0 ≤ i) (h1 : i < is.length) (q : ∀ v, v ∈ is → Q (.int v) μ) : wX X W da (.int i) μ Q Z :=
  wX_some hd h0 (by rw [hi.len]; exact h1) fun n d e _ => by
    obtain ⟨v, rfl, e2⟩ := hi.get n d e
    exact q v (List.mem_of_getElem? e2)
end
end PM
set_option Elab.async false
set_option linter.all false
set_option maxRecDepth 100000
namespace PM
open PySem L2
section
variable {X : Cx} {W : WX} {k : Nat} {ρ : Env'} {μ μ1 ν : List M} {Q : KV} {Z : KX} {QT : KT} {i j : Int} {x y : Str} {a b : Bool} {d : D} {ds : List D} {n : Nat}
/-! leaves: ints -/
theorem wB_add (h : Q (.int (i + j)) μ) : wB X W (binaryOp .Add) (.int i) (.int j) μ Q Z := .ofV oo_add h
theorem wB_sub (h : Q (.int (i - j)) μ) : wB X W (binaryOp .Sub) (.int i) (.int j) μ Q Z := .ofV oo_sub h
theorem wB_mulR (c : -(2 ^ 64) < j ∧ j < 2 ^ 64) (h : Q (.int (i * j)) μ) : wB X W (binaryOp .Mult) (.int i) (.int j) μ Q Z := .ofV (oo_mulS (.inr c)) h
theorem wB_mulL (c : -(2 ^ 64) < i ∧ i < 2 ^ 64) (h : Q (.int (i * j)) μ) : wB X W (binaryOp .Mult) (.int i) (.int j) μ Q Z := .ofV (oo_mulS (.inl c)) h
theorem wB_fdiv (c : CDivW i j) (h : Q (.int (i / j)) μ) : wB X W (binaryOp .FloorDiv) (.int i) (.int j) μ Q Z := .ofV (oo_fdiv c) h
theorem wB_fdivS (c : 0 < j ∧ j < 1073741824) (h : Q (.int (i / j)) μ) : wB X W (binaryOp .FloorDiv) (.int i) (.int j) μ Q Z := .ofV (oo_fdivS c) h
theorem wB_mod (c : 0 < j) (h : Q (.int (i % j)) μ) : wB X W (binaryOp .Mod) (.int i) (.int j) μ Q Z := .ofV (oo_mod c) h
theorem wB_pow (c : CPow i j) (h : Q (.int (i ^ j.toNat)) μ) : wB X W (binaryOp .Pow) (.int i) (.int j) μ Q Z := .ofV (oo_pow c) h
theorem wB_pow5 (h : Q (.int 100000) μ) : wB X W (binaryOp .Pow) (.int 10) (.int 5) μ Q Z := wB_pow ⟨by decide, by decide, by decide⟩ h
theorem wB_pow6 (h : Q (.int 1000000) μ) : wB X W (binaryOp .Pow) (.int 10) (.int 6) μ Q Z := wB_pow ⟨by decide, by decide, by decide⟩ h
theorem wB_pow7 (h : Q (.int 10000000) μ) : wB X W (binaryOp .Pow) (.int 10) (.int 7) μ Q Z := wB_pow ⟨by decide, by decide, by decide⟩ h
theorem wB_pow8 (h : Q (.int 100000000) μ) : wB X W (binaryOp .Pow) (.int 10) (.int 8) μ Q Z := wB_pow ⟨by decide, by decide, by decide⟩ h
theorem wB_pow9 (h : Q (.int 1000000000) μ) : wB X W (binaryOp .Pow) (.int 10) (.int 9) μ Q Z := wB_pow ⟨by decide, by decide, by decide⟩ h
theorem wB_pow18 (h : Q (.int 1000000000000000000) μ) : wB X W (binaryOp .Pow) (.int 10) (.int 18) μ Q Z := wB_pow ⟨by decide, by decide, by decide⟩ h
theorem wB_lt (h : Q (.bl (decide (i < j))) μ) : wB X W (compareOp .Lt) (.int i) (.int j) μ Q Z := .ofV oc_lt h
theorem wB_le (h : Q (.bl (decide (i ≤ j))) μ) : wB X W (compareOp .LtE) (.int i) (.int j) μ Q Z := .ofV oc_le h
theorem wB_gt (h : Q (.bl (decide (j < i))) μ) : wB X W (compareOp .Gt) (.int i) (.int j) μ Q Z := .ofV oc_gt h
theorem wB_ge (h : Q (.bl (decide (j ≤ i))) μ) : wB X W (compareOp .GtE) (.int i) (.int j) μ Q Z := .ofV oc_ge h
theorem wB_eq (h : Q (.bl (decide (i = j))) μ) : wB X W (compareOp .Eq) (.int i) (.int j) μ Q Z := .ofV oc_eq h
theorem wB_ne (h : Q (.bl (!decide (i = j))) μ) : wB X W (compareOp .NotEq) (.int i) (.int j) μ Q Z := .ofV oc_ne h
theorem wB_eqT (h : Q (.bl (decide (x = y))) μ) : wB X W (compareOp .Eq) (.str x) (.str y) μ Q Z := .ofV oc_eqT h
theorem wB_neT (h : Q (.bl (!decide (x = y))) μ) : wB X W (compareOp .NotEq) (.str x) (.str y) μ Q Z := .ofV oc_neT h
theorem wB_eqB (h : Q (.bl (decide (a = b))) μ) : wB X W (compareOp .Eq) (.bl a) (.bl b) μ Q Z := .ofV oc_eqB h
theorem wB_neB (h : Q (.bl (!decide (a = b))) μ) : wB X W (compareOp .NotEq) (.bl a) (.bl b) μ Q Z := .ofV oc_neB h
theorem wB_is (h : Q (.bl d.isN) μ) : wB X W (compareOp .Is) d .non μ Q Z := .ofV oc_is h
theorem wB_isNot (h : Q (.bl (!d.isN)) μ) : wB X W (compareOp .IsNot) d .non μ Q Z := .ofV oc_isNot h
theorem wB_catL {es : List D} (c : ds.length + es.length ≤ sizeLine) (h : Q (.lst (ds ++ es)) μ) : wB X W (binaryOp .Add) (.lst ds) (.lst es) μ Q Z := .ofV (oo_catL c) h
theorem wU_neg (h : Q (.int (-i)) μ) : wU X W (unaryOp .USub) (.int i) μ Q Z := .ofV ou_neg h
/-! leaves: built-ins -/
theorem wF_abs (h : Q (.int (i.natAbs : Nat)) μ) : wF X W (fun us => call (.builtin "abs") us) [.int i] μ Q Z := .ofV cb_abs (by
  rw [show (if i < 0 then -i else i) = ((i.natAbs : Nat) : Int) by split <;> omega]; exact h)
theorem wF_max (g : Gd X W k) (h : Q (.int (max i j)) μ) : wF X W (fun us => call (.builtin "max") us) [.int i, .int j] μ Q Z := .ofV (cb_max g.calm) (by
  rw [show (if j > i then j else i) = max i j by split <;> omega]; exact h)
theorem wF_min (g : Gd X W k) (h : Q (.int (min i j)) μ) : wF X W (fun us => call (.builtin "min") us) [.int i, .int j] μ Q Z := .ofV (cb_min g.calm) (by
  rw [show (if j < i then j else i) = min i j by split <;> omega]; exact h)
theorem wF_intB (h : Q (.int (if b = true then 1 else 0)) μ) : wF X W (fun us => call (.type "int") us) [.bl b] μ Q Z := .ofV ct_intB h
theorem wF_boolB (h : Q (.bl b) μ) : wF X W (fun us => call (.type "bool") us) [.bl b] μ Q Z := .ofV ct_boolB h
theorem wF_strI (c : i.natAbs.log2 < 1920) (h : Q (.str (toString i)) μ) : wF X W (fun us => call (.type "str") us) [.int i] μ Q Z := .ofV (ct_strI c) h
theorem wF_len (c : Ixd μ d ds) (h : Q (.int ds.length) μ) : wF X W (fun us => call (.builtin "len") us) [d] μ Q Z := by
  rcases c with rfl | rfl | rfl | ⟨n, rfl, e⟩
  · exact .ofV (cb_len _ (.inl rfl)) h
  · exact .ofV (cb_len _ (.inr (.inl rfl))) h
  · exact .ofV (cb_len _ (.inr (.inr rfl))) h
  · exact .ofV (cb_lenL e) h
theorem wF_tup (c : d = .lst ds ∨ d = .tup ds ∨ ∃ n : Nat, d = .loc n ∧ μ[n]? = some (.lst ds)) (h : Q (.tup ds) μ) : wF X W (fun us => call (.type "tuple") us) [d] μ Q Z := by
  rcases c with rfl | rfl | ⟨n, rfl, e⟩
  · exact .ofV ct_tup h
  · exact .ofV ct_tupT h
  · exact .ofV (ct_tupL e) h
theorem wF_isi {c : D} {t u : Value} (y : TyD X.K d t) (kk : ClD c u) (hk : PySem.W.kitOne X.K t u = some b) (h : Q (.bl b) μ) : wF X W (fun us => call (.builtin "isinstance") us) [d, c] μ Q Z := .ofV (cb_isi y kk hk) h
/-! branches -/
theorem br_dec {p : Prop} [Decidable p] {A B : Prop} (h1 : p → A) (h2 : ¬p → B) : if decide p = true then A else B := by
  by_cases h : p
  · rw [if_pos (decide_eq_true h)]; exact h1 h
  · rw [if_neg (by simpa using h)]; exact h2 h
theorem br_T {k : Bool} {A B : Prop} (hk : k = true) (h : A) : if k = true then A else B := by rw [if_pos hk]; exact h
theorem br_F {k : Bool} {A B : Prop} (hk : k = false) (h : B) : if k = true then A else B := by rw [if_neg (by simp [hk])]; exact h
/-! the store -/
theorem at_left {m : M} (h : μ[n]? = some m) : (μ ++ ν)[n]? = some m := by
  rw [List.getElem?_append_left (List.getElem?_eq_some_iff.mp h).1]; exact h
theorem at_new {m : M} {q : Nat} (h : ν[q]? = some m) : (μ ++ ν)[μ.length + q]? = some m := by
  rw [List.getElem?_append_right (by omega), Nat.add_sub_cancel_left]; exact h
theorem at_last {m : M} : (μ ++ [m])[μ.length]? = some m := by simp
theorem set_last {m m' : M} : (μ ++ [m]).set μ.length m' = μ ++ [m'] := by
  rw [List.set_append_right _ _ (Nat.le_refl _), Nat.sub_self]; rfl
/-! lists of the store -/
variable {e o : Expr} {es : List Expr} {p pos apos : Pos}
theorem wE_append (h : wE X W ρ μ o (fun d0 μ1 => ∃ n : Nat, d0 = .loc n ∧ (∃ ds', μ1[n]? = some (.lst ds')) ∧ wE X W ρ μ1 e (fun d μ2 => ∃ ds, μ2[n]? = some (.lst ds) ∧ ds.length < sizeLine ∧ Q .non (μ2.set n (.lst (ds ++ [d])))) Z) Z)
    (hbase : attributeBase o "append" X.env (eval o X.env) = eval o X.env := by rfl)
    (hfew : ((backTo pos (starEach [e] X.env)).all (fun x => !x.1) && (backToKw pos (keywordEach [] X.env)).all (fun x => x.1.isSome) && decide ([e].length + ([] : List Keyword).length + (if ([] : List Keyword).isEmpty then 0 else 1) < 30)) = true := by rfl)
    (hline : (apos.endLine == pos.line) = true := by rfl) (hs : starEach [e] X.env = (false, eval e X.env) :: starEach [] X.env := by rfl) :
    wE X W ρ μ (.Call (.Attribute o "append" apos) [e] [] pos) Q Z := by
  refine ⟨pe_of (pe_bm PySem.F.plainAttrs_list PySem.F.slot_list_append PySem.F.type_list_append mt_append h.run (pa_cons aE_ok pa_nil hs) hbase hfew hline hs) fun σ H R ⟨L, G, nw, v, x⟩ => ⟨L, G, nw, fun d0 μ1 ⟨n, ed, ⟨ds', hn1⟩, h2⟩ u L1 G1 H1 s1 o1 r1 => ?_, x⟩⟩
  subst ed
  obtain ⟨p, ea, eu⟩ := rep_loc.mp r1
  obtain ⟨vs1, eh1, _⟩ := o1.at_ n p _ ea hn1
  refine ⟨by rw [eu]; exact .inl ⟨rfl, _, SqL.of eh1⟩, _, h2.run, L1, G1, nw.step s1 o1, fun d μ2 ⟨ds, hn, hl, q⟩ w L2 G2 H2 s2 o2 r2 => ?_, x.step s1⟩
  have ea2 := s2.pre _ _ ea
  obtain ⟨vs, eh, rr⟩ := o2.at_ n p _ ea2 hn
  refine ⟨p, vs, w, eu, rfl, eh, by rw [rr.length]; exact hl, ?_⟩
  obtain ⟨o3, s3⟩ := o2.write (o := .lst (vs ++ [w])) (m := .lst (ds ++ [d])) ea2 ⟨_, upd_same, rr.append (Reps.cons r2 Reps.nil)⟩
  exact v _ _ q _ L2 G2 _ ((s1.trans s2).trans s3) o3 (rep_non.mpr rfl)
/-- x[i] = e, x a list of the store -/
theorem wS_ix {nx : KN} {κ : Ks} {ia : Expr} {pos' : Pos} (h : wE X W ρ μ e (fun d μ1 => wE X W ρ μ1 o (fun d0 μ2 => wE X W ρ μ2 ia (fun di μ3 => ∃ (n : Nat) (i : Int) (ds : List D) (k : Nat), d0 = .loc n ∧ di = .int i ∧ μ3[n]? = some (.lst ds) ∧ ixN ds.length i = some k ∧ nx ρ (μ3.set n (.lst (ds.set k d)))) (κ.z ρ)) (κ.z ρ)) (κ.z ρ))
    (hs : swapsWithSole [.Subscript o ia pos'] e pos.line X.env = pure false := by rfl) (hw : swappedStores [.Subscript o ia pos'] e X.env = pure none := by rfl)
    (h3 : (assignEach [.Subscript o ia pos'] X.env).map (·.2) = [assign (.Subscript o ia pos') X.env] := by rfl)
    (hp : ∀ v, assign (.Subscript o ia pos') X.env v = (do
      let ov ← holding [v] (eval o X.env)
      let iv ← holding [v, ov] (eval ia X.env)
      standAt pos'
      holding [v, ov, iv] (setItem ov iv v)
      release [v, ov, iv] []) := by intro _; rfl) : wS X W ρ μ (.Assign [.Subscript o ia pos'] e pos) nx κ := by
  refine ⟨ps_of (ps_asg h.run (pg_sub aE_ok aE_ok set_list hp) hs hw h3) fun D σ H ⟨L, G, nw, a⟩ => ⟨L, G, nw, fun d μ1 h2 v L1 G1 H1 s1 o1 r1 => ⟨_, h2.run, L1, G1, nw.step s1 o1, fun d0 μ2 h3 u L2 G2 H2 s2 o2 r2 => ⟨_, h3.run, L2, G2, (nw.step s1 o1).step s2 o2, fun di μ3 h4 w L3 G3 H3 s3 o3 r3 => ?_, ((a.x nw).step s1).step s2⟩, (a.x nw).step s1⟩, a.x nw⟩⟩
  obtain ⟨n, i, ds, k, e1, e2, hn, hk, q⟩ := h4
  subst e1 e2
  obtain ⟨p, ea, ew⟩ := rep_loc.mp (r2.step s3)
  obtain ⟨vs, eh, rr⟩ := o3.at_ n p _ ea hn
  refine ⟨p, vs, i, k, ew, rep_int.mp r3, eh, by rw [rr.length]; exact hk, ?_⟩
  obtain ⟨o4, s4⟩ := o3.write (o := .lst (vs.set k v)) (m := .lst (ds.set k d)) ea ⟨_, upd_same, rr.set ((r1.step s2).step s3) k⟩
  exact a.nx _ _ q σ L3 G3 _ (((s1.trans s2).trans s3).trans s4) ⟨o4, (((nw.env.step s1).step s2).step s3).step s4⟩
/-! what is walked -/
variable {tg : Expr} {QA : KA}
theorem wI_lst (h : wE X W ρ μ e (fun d μ1 => ∃ ds, d = .lst ds ∧ QA ds μ1) Z) : wI X W ρ μ tg e QA Z :=
  ⟨pi_of (pi_list h.run) fun σ H R ⟨L, G, n, v, x⟩ => ⟨L, G, n, fun d μ1 ⟨ds, ed, q⟩ u L1 G1 H1 s1 o1 r1 => by
    subst ed
    obtain ⟨a, vs, ev, hq, rr⟩ := rep_lst.mp r1
    exact ⟨a, ev, ⟨vs, SqL.of (o1.sub _ _ hq)⟩, v ds μ1 q _ L1 G1 H1 s1 o1 (jok_lst (SqL.of hq) rr)⟩, x⟩⟩
theorem wI_tup (h : wE X W ρ μ e (fun d μ1 => ∃ ds, d = .tup ds ∧ QA ds μ1) Z) : wI X W ρ μ tg e QA Z :=
  ⟨pi_of (pi_tup h.run) fun σ H R ⟨L, G, n, v, x⟩ => ⟨L, G, n, fun d μ1 ⟨ds, ed, q⟩ u L1 G1 H1 s1 o1 r1 => by
    subst ed
    obtain ⟨a, vs, ev, hq, rr⟩ := rep_tup.mp r1
    exact ⟨a, ev, ⟨vs, Same.sqT o1.sub hq⟩, v ds μ1 q _ L1 G1 H1 s1 o1 (jok_tup hq rr)⟩, x⟩⟩
theorem wI_range1 (hm : X.mg "range" = none) (h : wE X W ρ μ e (fun d μ1 => ∃ j : Int, d = .int j ∧ (-(2 ^ 62) ≤ j ∧ j < 2 ^ 62) ∧ QA (rangeD 0 j.toNat) μ1) Z) (hg : Gl X "range" := by rfl) (hs : starEach [e] X.env = [(false, eval e X.env)] := by rfl) : wI X W ρ μ tg (.Call (.Name "range" p) [e] [] pos) QA Z :=
  ⟨pi_of (pi_range1 hg hm (pa_cons h.run pa_nil hs) hs) fun σ H R ⟨L, G, n, v, x⟩ => ⟨L, G, n, fun d μ1 ⟨j, ed, ⟨h1, h2⟩, q⟩ u L1 G1 H1 s1 o1 r1 => by
    subst ed
    exact ⟨j, by rw [rep_int.mp r1], h1, h2, v _ μ1 q _ L1 G1 H1 s1 o1 jok_rng⟩, x⟩⟩
theorem wI_range2 {e2 : Expr} (hm : X.mg "range" = none) (h : wE X W ρ μ e (fun d μ1 => wE X W ρ μ1 e2 (fun d2 μ2 => ∃ i j : Int, d = .int i ∧ d2 = .int j ∧ (-(2 ^ 62) ≤ i ∧ i < 2 ^ 62 ∧ -(2 ^ 62) ≤ j ∧ j < 2 ^ 62) ∧ QA (rangeD i (j - i).toNat) μ2) Z) Z) (hg : Gl X "range" := by rfl)
    (hs : starEach [e, e2] X.env = [(false, eval e X.env), (false, eval e2 X.env)] := by rfl) (hs2 : starEach [e2] X.env = [(false, eval e2 X.env)] := by rfl) : wI X W ρ μ tg (.Call (.Name "range" p) [e, e2] [] pos) QA Z :=
  ⟨pi_of (pi_range2 hg hm (pa_cons h.run (pa_cons aE_ok pa_nil hs2) (by rw [hs, hs2])) hs hs2) fun σ H R ⟨L, G, n, v, x⟩ => ⟨L, G, n, fun d μ1 h2 u L1 G1 H1 s1 o1 r1 => ⟨_, h2.run, L1, G1, n.step s1 o1, fun d2 μ2 ⟨i, j, e1, e2, hb, q⟩ u2 L2 G2 H2 s2 o2 r2 => by
    subst e1 e2
    exact ⟨i, j, by rw [rep_int.mp r1, rep_int.mp r2], hb, v _ μ2 q _ L2 G2 H2 (s1.trans s2) o2 jok_rng⟩, x.step s1⟩, x⟩⟩
end
section
variable {X : Cx} {W : WX} {μ : List M} {Q : KV} {Z : KX} {da x y : D} {b : Bool} {i j : Int}
/-- [x, y][int(b)] -/
theorem wX_if2 (hd : Ixd μ da [x, y]) (h : if b = true then Q y μ else Q x μ) : wX X W da (.int (if b = true then 1 else 0)) μ Q Z := by
  cases b with
  | true => exact wX_at hd rfl h
  | false => exact wX_at hd rfl h
theorem wX_if2I (hd : Ixd μ da [.int i, .int j]) (h : Q (.int (if b = true then j else i)) μ) : wX X W da (.int (if b = true then 1 else 0)) μ Q Z := by
  cases b with
  | true => exact wX_at hd rfl h
  | false => exact wX_at hd rfl h
end
/-! boxes -/
abbrev bxI (i j k : Int) : M := .lst [.int i, .int j, .int k]
theorem Ok.unbox {K : PySem.W.Frag} {L : List Addr} {G H : Hp} {μ : List M} {n : Nat} (o : Ok K L G H μ) (h : μ[n]? = some .box) : ∃ i j k, Ok K L G H (μ.set n (bxI i j k)) := by
  have hn : n < L.length := by rw [o.len]; exact (List.getElem?_eq_some_iff.mp h).1
  obtain ⟨i, j, k, e⟩ := o.at_ n L[n] _ (List.getElem?_eq_getElem hn) h
  refine ⟨i, j, k, o.sub, by simpa using o.len, o.nd, o.off, o.liv, fun q a m e1 e2 => ?_⟩
  by_cases hq : n = q
  · subst hq
    rw [List.getElem?_set_self (by rw [← o.len]; exact hn)] at e2
    rw [List.getElem?_eq_getElem hn] at e1
    cases e1
    cases e2
    exact ⟨_, e, Reps.cons (rep_int.mpr rfl) (Reps.cons (rep_int.mpr rfl) (Reps.cons (rep_int.mpr rfl) Reps.nil))⟩
  · rw [List.getElem?_set_ne hq] at e2
    exact o.at_ q a m e1 e2
theorem le_box {μ : List M} {n : Nat} {i j k : Int} (h : μ[n]? = some .box) : Le (μ.set n (bxI i j k)) μ := fun K L G H o => by
  have hn : n < μ.length := (List.getElem?_eq_some_iff.mp h).1
  have hl : n < L.length := by have := o.len; simp at this; omega
  refine ⟨o.sub, by simpa using o.len, o.nd, o.off, o.liv, fun q a m e1 e2 => ?_⟩
  by_cases hq : n = q
  · subst hq
    rw [h] at e2
    cases e2
    obtain ⟨vs, eh, r⟩ := o.at_ n a _ e1 (List.getElem?_set_self hn)
    obtain ⟨v1, r1, rfl, q1, t1⟩ := r.inv_cons
    obtain ⟨v2, v3, rfl, q2, q3⟩ := t1.two
    exact ⟨i, j, k, by rw [eh, rep_int.mp q1, rep_int.mp q2, rep_int.mp q3]⟩
  · exact o.at_ q a m e1 (by rw [List.getElem?_set_ne hq]; exact e2)
theorem le_newbox {μ : List M} {i j k : Int} : Le (μ ++ [bxI i j k]) (μ ++ [.box]) := fun K L G H o => by
  have := le_box (μ := μ ++ [.box]) (n := μ.length) (i := i) (j := j) (k := k) at_last
  rw [set_last] at this
  exact this K L G H o
end PM
set_option Elab.async false
set_option linter.all false
set_option maxRecDepth 100000
namespace PM
open PySem L2
/-! ### names: what a def's scope says is looked up once -/
inductive Kd where
  | no | loc | cell | free
def visB (sc : Scope) (x : Str) : Kd → Bool
  | .no => true
  | .loc => (sc.names.lookup x == some .local) && !(x == ("__debug__" : Str)) && !(x == ("__classdict__" : Str))
  | .cell => (sc.names.lookup x == some .cell) && !(x == ("__debug__" : Str)) && !(x == ("__classdict__" : Str))
  | .free => (sc.names.lookup x == some .free) && !(x == ("__debug__" : Str)) && !(x == ("__classdict__" : Str))
def nmB (sc : Scope) : List Str → List Kd → Bool
  | x :: N, v :: V => visB sc x v && nmB sc N V
  | _, _ => true
def ckB (N : List Str) (V : List Kd) (Gs : List Str) (sc : Scope) : Bool :=
  nmB sc N V && Gs.all fun x => (sc.names.lookup x == some .globalImplicit) && !(x == ("__debug__" : Str)) && !(x == ("__name__" : Str))
structure Nx' (X : Cx) (N : List Str) (V : List Kd) (Gs : List Str) : Prop where
  N_ : X.N = N
  ndN : N.Nodup
  ck : ckB N V Gs X.env.scope = true
structure Fx (X : Cx) (W : WX) (k : Nat) (N : List Str) (V : List Kd) (Gs : List Str) : Prop extends Gd X W k, Nx' X N V Gs
/-- the value of a name -/
inductive Gt : List Str → List Kd → Str → Env' → D → Prop
  | z {x : Str} {N : List Str} {V : List Kd} {d : D} {ρ : Env'} : Gt (x :: N) (.loc :: V) x (some d :: ρ) d
  | c {x : Str} {N : List Str} {V : List Kd} {d : D} {ρ : Env'} : Gt (x :: N) (.cell :: V) x (some d :: ρ) d
  | f {x : Str} {N : List Str} {V : List Kd} {d : D} {ρ : Env'} : Gt (x :: N) (.free :: V) x (some d :: ρ) d
  | s {x y : Str} {N : List Str} {v : Kd} {V : List Kd} {o : Option D} {ρ : Env'} {d : D} : Gt N V x ρ d → Gt (y :: N) (v :: V) x (o :: ρ) d
/-- a name's value is stored -/
inductive Pt : List Str → List Kd → Str → D → Env' → Env' → Nat → Prop
  | z {x : Str} {N : List Str} {V : List Kd} {d : D} {o : Option D} {ρ : Env'} : Pt (x :: N) (.loc :: V) x d (o :: ρ) (some d :: ρ) 0
  | c {x : Str} {N : List Str} {V : List Kd} {d : D} {o : Option D} {ρ : Env'} : Pt (x :: N) (.cell :: V) x d (o :: ρ) (some d :: ρ) 0
  | s {x y : Str} {N : List Str} {v : Kd} {V : List Kd} {d : D} {o : Option D} {ρ ρ' : Env'} {i : Nat} : Pt N V x d ρ ρ' i → Pt (y :: N) (v :: V) x d (o :: ρ) (o :: ρ') (i + 1)
/-- a name among others -/
inductive In : Str → List Str → Prop
  | z {x : Str} {Gs : List Str} : In x (x :: Gs)
  | s {x y : Str} {Gs : List Str} : In x Gs → In x (y :: Gs)
theorem In.mem {x : Str} {Gs : List Str} (h : In x Gs) : x ∈ Gs := by
  induction h with
  | z => exact List.mem_cons_self
  | s _ ih => exact List.mem_cons_of_mem _ ih
theorem Gt.ex {sc : Scope} {N : List Str} {V : List Kd} {x : Str} {ρ : Env'} {d : D} (h : Gt N V x ρ d) (nm : nmB sc N V = true) : ∃ i : Nat, N[i]? = some x ∧ ρ[i]? = some (some d) ∧ Vis sc x ∧ (x == ("__debug__" : Str)) = false ∧ (x == ("__classdict__" : Str)) = false := by
  induction h with
  | z =>
    simp only [nmB, visB, Bool.and_eq_true, Bool.not_eq_true', beq_iff_eq] at nm
    exact ⟨0, rfl, rfl, .inl nm.1.1.1, by simpa using nm.1.1.2, by simpa using nm.1.2⟩
  | c =>
    simp only [nmB, visB, Bool.and_eq_true, Bool.not_eq_true', beq_iff_eq] at nm
    exact ⟨0, rfl, rfl, .inr (.inl nm.1.1.1), by simpa using nm.1.1.2, by simpa using nm.1.2⟩
  | f =>
    simp only [nmB, visB, Bool.and_eq_true, Bool.not_eq_true', beq_iff_eq] at nm
    exact ⟨0, rfl, rfl, .inr (.inr nm.1.1.1), by simpa using nm.1.1.2, by simpa using nm.1.2⟩
  | s _ ih =>
    simp only [nmB, Bool.and_eq_true] at nm
    obtain ⟨i, h1, h2, h3⟩ := ih nm.2
    exact ⟨i + 1, by simpa using h1, by simpa using h2, h3⟩
theorem Pt.ex {sc : Scope} {N : List Str} {V : List Kd} {x : Str} {ρ ρ' : Env'} {d : D} {i : Nat} (h : Pt N V x d ρ ρ' i) (nm : nmB sc N V = true) : N[i]? = some x ∧ ρ' = ρ.set i (some d) ∧ Loc sc x := by
  induction h with
  | z =>
    simp only [nmB, visB, Bool.and_eq_true, Bool.not_eq_true', beq_iff_eq] at nm
    exact ⟨rfl, rfl, .inl nm.1.1.1⟩
  | c =>
    simp only [nmB, visB, Bool.and_eq_true, Bool.not_eq_true', beq_iff_eq] at nm
    exact ⟨rfl, rfl, .inr nm.1.1.1⟩
  | s _ ih =>
    simp only [nmB, Bool.and_eq_true] at nm
    obtain ⟨h1, h2, h3⟩ := ih nm.2
    exact ⟨by simpa using h1, by simp [h2], h3⟩
section
variable {X : Cx} {W : WX} {k : Nat} {N : List Str} {V : List Kd} {Gs : List Str} {ρ ρ' : Env'} {μ μ1 μ2 : List M} {e a b c ob : Expr} {es : List Expr} {Q Q' : KV} {Z : KX} {d da db : D} {ds ds' : List D} {p pos apos : Pos} {x y z m : Str} {nx : KN} {κ : Ks} {i j l : Nat}
theorem Nx'.nm (g : Nx' X N V Gs) : nmB X.env.scope N V = true := by
  have := g.ck
  simp only [ckB, Bool.and_eq_true] at this
  exact this.1
theorem Nx'.gl (g : Nx' X N V Gs) (h : In x Gs) : Gl X x ∧ (x == ("__debug__" : Str)) = false ∧ x ≠ ("__name__" : Str) := by
  have := g.ck
  simp only [ckB, Bool.and_eq_true, List.all_eq_true] at this
  have q := this.2 x h.mem
  simp only [Bool.not_eq_true', beq_iff_eq] at q
  exact ⟨q.1.1, by simpa using q.1.2, fun z => by rw [z] at q; simp at q⟩
/-- the value of a name, by what is wanted of it -/
structure wGt (N : List Str) (V : List Kd) (x : Str) (ρ : Env') (K : D → Prop) : Prop where
  ex : ∃ d, Gt N V x ρ d ∧ K d
theorem wGt_z {K : D → Prop} (h : K d) : wGt (x :: N) (.loc :: V) x (some d :: ρ) K := ⟨⟨d, .z, h⟩⟩
theorem wGt_c {K : D → Prop} (h : K d) : wGt (x :: N) (.cell :: V) x (some d :: ρ) K := ⟨⟨d, .c, h⟩⟩
theorem wGt_f {K : D → Prop} (h : K d) : wGt (x :: N) (.free :: V) x (some d :: ρ) K := ⟨⟨d, .f, h⟩⟩
theorem wGt_s {v : Kd} {o : Option D} {K : D → Prop} (h : wGt N V x ρ K) : wGt (y :: N) (v :: V) x (o :: ρ) K := let ⟨⟨d, h1, h2⟩⟩ := h; ⟨⟨d, .s h1, h2⟩⟩
theorem wGt_chk {K : D → Prop} (h : wGt N V x ρ K) : wGt N V x ρ K := h
structure wPt (N : List Str) (V : List Kd) (x : Str) (d : D) (ρ : Env') (K : Env' → Prop) : Prop where
  ex : ∃ ρ' i, Pt N V x d ρ ρ' i ∧ K ρ'
theorem wPt_z {o : Option D} {K : Env' → Prop} (h : K (some d :: ρ)) : wPt (x :: N) (.loc :: V) x d (o :: ρ) K := ⟨⟨_, 0, .z, h⟩⟩
theorem wPt_c {o : Option D} {K : Env' → Prop} (h : K (some d :: ρ)) : wPt (x :: N) (.cell :: V) x d (o :: ρ) K := ⟨⟨_, 0, .c, h⟩⟩
theorem wPt_s {v : Kd} {o : Option D} {K : Env' → Prop} (h : wPt N V x d ρ (fun ρ' => K (o :: ρ'))) : wPt (y :: N) (v :: V) x d (o :: ρ) K := let ⟨⟨ρ', i, h1, h2⟩⟩ := h; ⟨⟨_, i + 1, .s h1, h2⟩⟩
/-- the place of a name that is stored -/
inductive Ix : List Str → List Kd → Str → Nat → Prop
  | z {x : Str} {N : List Str} {V : List Kd} : Ix (x :: N) (.loc :: V) x 0
  | c {x : Str} {N : List Str} {V : List Kd} : Ix (x :: N) (.cell :: V) x 0
  | s {x y : Str} {N : List Str} {v : Kd} {V : List Kd} {i : Nat} : Ix N V x i → Ix (y :: N) (v :: V) x (i + 1)
inductive Il : List Str → List Kd → Str → Nat → Prop
  | z {x : Str} {N : List Str} {V : List Kd} : Il (x :: N) (.loc :: V) x 0
  | s {x y : Str} {N : List Str} {v : Kd} {V : List Kd} {i : Nat} : Il N V x i → Il (y :: N) (v :: V) x (i + 1)
theorem Ix.ex {sc : Scope} (h : Ix N V x i) (nm : nmB sc N V = true) : N[i]? = some x ∧ Loc sc x := by
  induction h with
  | z =>
    simp only [nmB, visB, Bool.and_eq_true, Bool.not_eq_true', beq_iff_eq] at nm
    exact ⟨rfl, .inl nm.1.1.1⟩
  | c =>
    simp only [nmB, visB, Bool.and_eq_true, Bool.not_eq_true', beq_iff_eq] at nm
    exact ⟨rfl, .inr nm.1.1.1⟩
  | s _ ih =>
    simp only [nmB, Bool.and_eq_true] at nm
    obtain ⟨h1, h3⟩ := ih nm.2
    exact ⟨by simpa using h1, h3⟩
theorem Il.ex {sc : Scope} (h : Il N V x i) (nm : nmB sc N V = true) : N[i]? = some x ∧ sc.names.lookup x = some .local := by
  induction h with
  | z =>
    simp only [nmB, visB, Bool.and_eq_true, Bool.not_eq_true', beq_iff_eq] at nm
    exact ⟨rfl, nm.1.1.1⟩
  | s _ ih =>
    simp only [nmB, Bool.and_eq_true] at nm
    obtain ⟨h1, h3⟩ := ih nm.2
    exact ⟨by simpa using h1, h3⟩
theorem wPt.set {sc : Scope} {K : Env' → Prop} (h : wPt N V x d ρ K) (nm : nmB sc N V = true) (nd : N.Nodup) (e : N[i]? = some x) : K (ρ.set i (some d)) := by
  obtain ⟨ρ', j, p, q⟩ := h.ex
  obtain ⟨e1, rfl, _⟩ := p.ex nm
  rwa [(List.getElem?_inj (List.getElem?_eq_some_iff.mp e).1 nd).mp (e.trans e1.symm)]
theorem wE_name (g : Nx' X N V Gs) (h : wGt N V x ρ (fun d => Q d μ)) : wE X W ρ μ (.Name x pos) Q Z := by
  obtain ⟨d, hd, h⟩ := h.ex
  obtain ⟨i, e1, e2, e3, e4, e5⟩ := hd.ex g.nm
  exact .ofV (ev_var i e2 (by rw [g.N_]; exact e1) e3 e4 e5) h
theorem wG_name (g : Nx' X N V Gs) (h : wPt N V x d ρ (fun ρ' => nx ρ' μ)) (hf : ∀ x, X.fn x = true := by intro _; rfl) : wG X W ρ μ (.Name x pos) d nx := by
  obtain ⟨ρ', i, hp, h⟩ := h.ex
  obtain ⟨e1, rfl, e3⟩ := hp.ex g.nm
  exact ⟨pg_of (eg_name (ρ := ρ) (μ := μ) (d := d) i (by rw [g.N_]; exact g.ndN) (by rw [g.N_]; exact e1) e3 (.inl (hf x))) fun v σ H R ⟨L, G, n, r, a⟩ => ⟨L, G, n, r, a _ _ h⟩⟩
theorem wS_set {pos' : Pos} (g : Nx' X N V Gs) (hi : ∃ i, Ix N V x i) (h : wE X W ρ μ e (fun d μ1 => wPt N V x d ρ (fun ρ' => nx ρ' μ1)) (κ.z ρ)) (hs : swapsWith e (some (.Name x pos')) pos.line X.env = pure false := by rfl) (hf : ∀ x, X.fn x = true := by intro _; rfl) : wS X W ρ μ (.Assign [.Name x pos'] e pos) nx κ := by
  obtain ⟨i, hi⟩ := hi
  obtain ⟨e1, e3⟩ := hi.ex g.nm
  have nd := g.ndN
  exact ⟨ps_of (ps_set (by rw [g.N_]; exact g.ndN) (by rw [g.N_]; exact e1) e3 h.run hs (.inl (hf x))) fun D σ H ⟨L, G, n, a⟩ => ⟨L, G, n, fun d μ1 q v L1 G1 H1 s1 o1 r1 => a.nx _ _ (q.set g.nm nd e1) _ L1 G1 H1 s1 ⟨o1, (n.env.step s1).set r1 i⟩, a.x n⟩⟩
/-- the stores of a, b = x, y -/
theorem swapped2 {env : Env} {px py pt pt2 : Pos} {kt k2 : Nat} (hk : env.blockKind = .function) (hx : env.scope.names.lookup x = some .local) (hy : env.scope.names.lookup y = some .local) (hxy : x ≠ y) (hl : (py.line == px.line) = true)
    (h1 : ([a, b].any fun | .Starred .. => true | _ => false) = false) (h2 : [a, b].all (foldedForSure 8) = false) (h3 : [a, b].all (constantsAlone 8) = false) : swappedStores [.Tuple [.Name x px, .Name y py] kt pt] (.Tuple [a, b] k2 pt2) env = pure (some [x, y]) := by
  unfold swappedStores
  have k1 : (env.kindOf x == some .local) = true := by unfold Env.kindOf; rw [hx]; rfl
  have k2 : (env.kindOf y == some .local) = true := by unfold Env.kindOf; rw [hy]; rfl
  have ed : [x, y].eraseDups.length = 2 := by
    have : (y == x) = false := by simpa using fun z => hxy z.symm
    simp [List.eraseDups_cons, this]
  have hb : (env.blockKind != ScopeKind.function) = false := by rw [hk]; rfl
  simp only [List.length_cons, List.length_nil, hb, h1, List.head?_cons, Option.map_some, Option.getD_some, List.filterMap_cons, List.filterMap_nil, Expr.pos, k1, k2, hl, Bool.true_and, beq_self_eq_true, if_true, ed, h2, h3]
  rw [if_neg (by decide), if_neg (fun h => Bool.noConfusion (h.symm.trans h1))]
  rfl
theorem wS_par {px py pt : Pos} {kt k2 pt2} (g : Fx X W k N V Gs) (hp : ∃ i j, Il N V x i ∧ Il N V y j ∧ i ≠ j) (ha : wA X W ρ μ [a, b] (fun ds μ1 => ∃ da db, ds = [da, db] ∧ wPt N V x da ρ (fun ρ1 => wPt N V y db ρ1 (fun ρ2 => nx ρ2 μ1))) (κ.z ρ)) 
    (hk : X.env.blockKind = .function := by rfl) (hl : (py.line == px.line) = true := by rfl) (h1 : ([a, b].any fun | .Starred .. => true | _ => false) = false := by rfl) (h2 : [a, b].all (foldedForSure 8) = false := by rfl) (h3 : [a, b].all (constantsAlone 8) = false := by rfl) :
    wS X W ρ μ (.Assign [.Tuple [.Name x px, .Name y py] kt pt] (.Tuple [a, b] k2 pt2) pos) nx κ := by
  obtain ⟨i, j, p1, p2, hij⟩ := hp
  obtain ⟨e1, l1⟩ := p1.ex g.nm
  obtain ⟨e2, l2⟩ := p2.ex g.nm
  have nd := g.nd
  rw [g.N_] at nd
  have hxy : x ≠ y := fun t => hij ((List.getElem?_inj (List.getElem?_eq_some_iff.mp e1).1 nd).mp (e1.trans (by rw [t]; exact e2.symm)))
  exact ⟨ps_of (ps_par g.calm g.nd (by rw [g.N_]; exact e1) (by rw [g.N_]; exact e2) hij l1 l2 ha.run (swapped2 hk l1 l2 hxy hl h1 h2 h3) rfl) fun D σ H ⟨L, G, n, ac⟩ => ⟨L, G, n, fun ds μ1 ⟨da, db, e0, q⟩ vs L1 G1 H1 s1 o1 r1 => by
    subst e0
    obtain ⟨v, w, e, q1, q2⟩ := r1.two
    subst e
    exact ⟨v, w, rfl, ac.nx _ _ ((q.set g.nm nd e1).set g.nm nd e2) _ L1 G1 H1 s1 ⟨o1, ((n.env.step s1).set q1 i).set q2 j⟩⟩, ac.x n⟩⟩
theorem swapped3 {env : Env} {px py pz pt pt2 : Pos} {kt k2 : Nat} (hk : env.blockKind = .function) (hx : env.scope.names.lookup x = some .local) (hy : env.scope.names.lookup y = some .local) (hz : env.scope.names.lookup z = some .local) (hxy : x ≠ y) (hxz : x ≠ z) (hyz : y ≠ z) (hl : (py.line == px.line) = true) (hl2 : (pz.line == px.line) = true)
    (h1 : ([a, b, c].any fun | .Starred .. => true | _ => false) = false) (h2 : [a, b, c].all (foldedForSure 8) = false) (h3 : [a, b, c].all (constantsAlone 8) = false) : swappedStores [.Tuple [.Name x px, .Name y py, .Name z pz] kt pt] (.Tuple [a, b, c] k2 pt2) env = pure (some [x, y, z]) := by
  unfold swappedStores
  have k1 : (env.kindOf x == some .local) = true := by unfold Env.kindOf; rw [hx]; rfl
  have k2 : (env.kindOf y == some .local) = true := by unfold Env.kindOf; rw [hy]; rfl
  have k3 : (env.kindOf z == some .local) = true := by unfold Env.kindOf; rw [hz]; rfl
  have ed : [x, y, z].eraseDups.length = 3 := by
    have e1 : (y == x) = false := by simpa using fun z => hxy z.symm
    have e2 : (z == x) = false := by simpa using fun t => hxz t.symm
    have e3 : (z == y) = false := by simpa using fun t => hyz t.symm
    simp [List.eraseDups_cons, e1, e2, e3]
  have hb : (env.blockKind != ScopeKind.function) = false := by rw [hk]; rfl
  simp only [List.length_cons, List.length_nil, hb, h1, List.head?_cons, Option.map_some, Option.getD_some, List.filterMap_cons, List.filterMap_nil, Expr.pos, k1, k2, k3, hl, hl2, Bool.true_and, beq_self_eq_true, if_true, ed, h2, h3]
  rw [if_neg (by decide), if_neg (fun h => Bool.noConfusion (h.symm.trans h1))]
  rfl
theorem wS_par3 {px py pz pt : Pos} {kt k2 pt2} (g : Fx X W k N V Gs) (hp : ∃ i j l, Il N V x i ∧ Il N V y j ∧ Il N V z l ∧ i ≠ j ∧ i ≠ l ∧ j ≠ l) (ha : wA X W ρ μ [a, b, c] (fun ds μ1 => ∃ da db dc, ds = [da, db, dc] ∧ wPt N V x da ρ (fun ρ1 => wPt N V y db ρ1 (fun ρ2 => wPt N V z dc ρ2 (fun ρ3 => nx ρ3 μ1)))) (κ.z ρ))
    (hk : X.env.blockKind = .function := by rfl) (hl : (py.line == px.line) = true := by rfl) (hl2 : (pz.line == px.line) = true := by rfl) (h1 : ([a, b, c].any fun | .Starred .. => true | _ => false) = false := by rfl) (h2 : [a, b, c].all (foldedForSure 8) = false := by rfl) (h3 : [a, b, c].all (constantsAlone 8) = false := by rfl) :
    wS X W ρ μ (.Assign [.Tuple [.Name x px, .Name y py, .Name z pz] kt pt] (.Tuple [a, b, c] k2 pt2) pos) nx κ := by
  obtain ⟨i, j, l, p1, p2, p3, hij, hil, hjl⟩ := hp
  obtain ⟨e1, l1⟩ := p1.ex g.nm
  obtain ⟨e2, l2⟩ := p2.ex g.nm
  obtain ⟨e3, l3⟩ := p3.ex g.nm
  have nd := g.nd
  rw [g.N_] at nd
  have ne : ∀ {s t : Str} {i j : Nat}, N[i]? = some s → N[j]? = some t → i ≠ j → s ≠ t := fun e1 e2 hij t => hij ((List.getElem?_inj (List.getElem?_eq_some_iff.mp e1).1 nd).mp (e1.trans (by rw [t]; exact e2.symm)))
  exact ⟨ps_of (ps_par3 g.calm g.nd (by rw [g.N_]; exact e1) (by rw [g.N_]; exact e2) (by rw [g.N_]; exact e3) hij hil hjl l1 l2 l3 ha.run (swapped3 hk l1 l2 l3 (ne e1 e2 hij) (ne e1 e3 hil) (ne e2 e3 hjl) hl hl2 h1 h2 h3) rfl) fun D σ H ⟨L, G, n, ac⟩ => ⟨L, G, n, fun ds μ1 ⟨da, db, dc, e0, q⟩ vs L1 G1 H1 s1 o1 r1 => by
    subst e0
    obtain ⟨v, r, rfl, q1, r1⟩ := r1.inv_cons
    obtain ⟨u, w, e, q2, q3⟩ := r1.two
    subst e
    exact ⟨v, u, w, rfl, ac.nx _ _ (((q.set g.nm nd e1).set g.nm nd e2).set g.nm nd e3) _ L1 G1 H1 s1 ⟨o1, (((n.env.step s1).set q1 i).set q2 j).set q3 l⟩⟩, ac.x n⟩⟩
/-! is it this name? -/
theorem chkC (x : Str) {kws : List Keyword} (h : wE X W ρ μ (.Call (.Name x p) es kws pos) Q Z) : wE X W ρ μ (.Call (.Name x p) es kws pos) Q Z := h
theorem chkN (x : Str) (h : wE X W ρ μ (.Name x pos) Q Z) : wE X W ρ μ (.Name x pos) Q Z := h
theorem chkA (m : Str) (h : wE X W ρ μ (.Attribute e m pos) Q Z) : wE X W ρ μ (.Attribute e m pos) Q Z := h
theorem chkM (m : Str) {kws : List Keyword} (h : wE X W ρ μ (.Call (.Attribute e m apos) es kws pos) Q Z) : wE X W ρ μ (.Call (.Attribute e m apos) es kws pos) Q Z := h
theorem chkB (id : String) (h : wF X W (fun us => call (.builtin id) us) ds μ Q Z) : wF X W (fun us => call (.builtin id) us) ds μ Q Z := h
/-! what kind of goal? -/
theorem hdE (h : wE X W ρ μ e Q Z) : wE X W ρ μ e Q Z := h
theorem hdc {kws : List Keyword} (h : wE X W ρ μ (.Call (.Name x p) es kws pos) Q Z) : wE X W ρ μ (.Call (.Name x p) es kws pos) Q Z := h
theorem hdn (h : wE X W ρ μ (.Name x pos) Q Z) : wE X W ρ μ (.Name x pos) Q Z := h
theorem hda (h : wE X W ρ μ (.Attribute e m pos) Q Z) : wE X W ρ μ (.Attribute e m pos) Q Z := h
theorem hdm {kws : List Keyword} (h : wE X W ρ μ (.Call (.Attribute e m apos) es kws pos) Q Z) : wE X W ρ μ (.Call (.Attribute e m apos) es kws pos) Q Z := h
theorem hdA {QA : KA} (h : wA X W ρ μ es QA Z) : wA X W ρ μ es QA Z := h
theorem hdB {f : Value → Value → Sem Value} (h : wB X W f da db μ Q Z) : wB X W f da db μ Q Z := h
theorem hdU {f : Value → Sem Value} (h : wU X W f da μ Q Z) : wU X W f da μ Q Z := h
theorem hdF {f : List Value → Sem Value} (h : wF X W f ds μ Q Z) : wF X W f ds μ Q Z := h
theorem hdX (h : wX X W da db μ Q Z) : wX X W da db μ Q Z := h
theorem hdC {QT : KT} (h : wC X W ρ μ e QT Z) : wC X W ρ μ e QT Z := h
theorem hdW {QT : KT} (h : wCw X W ρ μ e QT Z) : wCw X W ρ μ e QT Z := h
theorem hdS {st : Stmt} (h : wS X W ρ μ st nx κ) : wS X W ρ μ st nx κ := h
theorem hdL {st : List Stmt} (h : wSs X W ρ μ st nx κ) : wSs X W ρ μ st nx κ := h
theorem hdG (h : wG X W ρ μ e d nx) : wG X W ρ μ e d nx := h
theorem hdH (h : wGs X W ρ μ es ds nx) : wGs X W ρ μ es ds nx := h
theorem hdP {Kn : Env' → Prop} (h : wPt N V x d ρ Kn) : wPt N V x d ρ Kn := h
/-! calls by names of the module -/
theorem xE_call (f : Fnx) (g : Fx X W k N V Gs) (hi : In x Gs) (hm : X.mg x = some (.ref f.a)) (hk : PySem.W.keepIn X.K (.ref f.a) = true) (bd : Binds X.K f.fd f.ps []) (h : wA X W ρ μ (e :: es) (fun ds μ1 => SpX X f ds μ1 Q Z) Z) (hj : f.lv ≤ k := by exact Nat.le_of_ble_eq_true rfl)
    (he : starEach (e :: es) X.env = (false, eval e X.env) :: starEach es X.env := by rfl) (hpl : (backTo pos (starEach es X.env)).any (·.1) = false := by rfl) : wE X W ρ μ (.Call (.Name x p) (e :: es) [] pos) Q Z := wE_call f g.toGd hm hk bd h hj (g.gl hi).1 (g.gl hi).2.1 he hpl
theorem xE_cls {C : Addr} (g : Nx' X N V Gs) (hi : In x Gs) (hm : X.mg x = some (.ref C)) (h : Q (.ref C) μ) : wE X W ρ μ (.Name x pos) Q Z := wE_glob (v := .ref C) hm rfl (fun _ _ => rep_ref.mpr rfl) h (g.gl hi).1 (g.gl hi).2.1
theorem xE_bty {T : String} (g : Nx' X N V Gs) (hi : In x Gs) (hm : X.mg x = none) (hv : bootBuiltins x = some (.type T)) (h : Q (.ty T) μ) : wE X W ρ μ (.Name x pos) Q Z := wE_bty hm hv h (g.gl hi).1 (g.gl hi).2.2 (g.gl hi).2.1
theorem xE_blt {id : String} (g : Nx' X N V Gs) (hi : In x Gs) (hm : X.mg x = none) (hv : bootBuiltins x = some (.builtin id)) (h : wA X W ρ μ (e :: es) (fun ds μ1 => wF X W (fun us => call (.builtin id) us) ds μ1 Q Z) Z)
    (he : starEach (e :: es) X.env = (false, eval e X.env) :: starEach es X.env := by rfl) (hpl : (backTo pos (starEach es X.env)).any (·.1) = false := by rfl) : wE X W ρ μ (.Call (.Name x p) (e :: es) [] pos) Q Z := wE_blt hm hv h (g.gl hi).1 (g.gl hi).2.2 (g.gl hi).2.1 he hpl
theorem xE_bcl {T : String} (g : Nx' X N V Gs) (hi : In x Gs) (hm : X.mg x = none) (hv : bootBuiltins x = some (.type T)) (h : wA X W ρ μ (e :: es) (fun ds μ1 => wF X W (fun us => call (.type T) us) ds μ1 Q Z) Z)
    (he : starEach (e :: es) X.env = (false, eval e X.env) :: starEach es X.env := by rfl) (hpl : (backTo pos (starEach es X.env)).any (·.1) = false := by rfl) : wE X W ρ μ (.Call (.Name x p) (e :: es) [] pos) Q Z := wE_bcl hm hv h (g.gl hi).1 (g.gl hi).2.2 (g.gl hi).2.1 he hpl
end
section
variable {P : Program} {w : World} {K : PySem.W.Frag} {mg : Str → Option Value} {base : Heap}
/-- THE RULE for a def, its names looked up -/
theorem spX_of {x qual : Str} {st : Stmt} {dvs : List L2.V} {f : Addr} {fd : FuncData} {N ps : List Str} {V : List Kd} {Gs : List Str} {k : Nat} {ds : List D} {μ : List M} {Q : KV} {Z : KX} (F : FunS K x qual st dvs f fd) (S : FnScope N ps (defScope st)) (ck : ckB N V Gs (defScope st) = true) (hl : ds.length = ps.length)
    (body : ∀ ρ, ρ = startD N ds → ∀ (cdv : Value) (A : Around) (outer : List Env) (s : Shared) (H : Hp) (E : XK), Fx (cxOf (L2.CX P w) P w K mg base N qual (defScope st) f cdv A outer s H E) (fun c d _ H => E c d H) k N V Gs →
      wSs (cxOf (L2.CX P w) P w K mg base N qual (defScope st) f cdv A outer s H E) (fun c d _ H => E c d H) ρ (μ ++ []) (defBody st) (fun _ μ1 => RetOk μ Q .non μ1) { rt := RetOk μ Q, xc := fun C ns ds' _ μ1 => ExcOk μ Z C ns ds' μ1 }) :
    SpF P w K mg base ⟨f, fd, ps, k + 1⟩ ds μ Q Z :=
  spF_of F S hl fun cdv A outer s H E g => by
    have := body _ rfl cdv A outer s H E ⟨g, ⟨rfl, S.nd, ck⟩⟩
    rwa [List.append_nil] at this
end
end PM
set_option Elab.async false
set_option linter.all false
set_option maxRecDepth 100000
namespace PM
open PySem L2
section
variable {X : Cx} {W : WX} {k j : Nat} {N : List Str} {V : List Kd} {Gs : List Str} {ρ ρ' : Env'} {μ μ1 μ2 : List M} {e a b c ob : Expr} {es : List Expr} {Q Q' : KV} {Z : KX} {d da db : D} {ds ds' : List D} {p pos apos pos2 np pos' : Pos} {x y m n : Str} {nx : KN} {κ : Ks} {f : Fnx} {C C' pr : Addr} {pl : Sem Bool} {ns : List Str}
/-! ### classes -/
/-- what __init__ leads to, as the caller sees it -/
inductive MadeOk (μ : List M) (C : Addr) (Q : KV) : D → List M → Prop
  | obj {ns : List Str} {fs : List D} {μ2 : List M} : Lows μ μ2 → ns.length = fs.length → D.los μ.length fs = true → Q (.obj C ns fs) μ2 → MadeOk μ C Q .non (μ2 ++ [.ins C ns fs])
  | loc {ns : List Str} {fs : List D} {μ2 : List M} : μ2.length = μ.length → Q (.loc μ.length) (μ2 ++ [.ins C ns fs]) → MadeOk μ C Q .non (μ2 ++ [.ins C ns fs])
inductive MadeX (μ : List M) (Z : KX) (C : Addr) (ns : List Str) : List D → List M → Prop
  | mk {ds : List D} {μ2 : List M} {m : M} : Lows μ μ2 → D.los μ.length ds = true → Z C ns ds μ2 → MadeX μ Z C ns ds (μ2 ++ [m])
theorem wF_make {dvs : List L2.V} {dvl : List Value} {dds : List D} (Mk : Mk X.K C f.a) (hb : Binds X.K f.fd f.ps dvl) (hd : Vals dvs dvl) (hdd : ∀ L G, Reps X.K L G dds dvs) (g : Gd X W k) (hj : f.lv + 1 ≤ k)
    (h : SpX X f (.loc μ.length :: (ds ++ dds)) (μ ++ [.ins C [] []]) (MadeOk μ C Q) (fun C' ns ds' μ' => MadeX μ Z C' ns ds' μ')) : wF X W (fun us => call (.ref C) us) ds μ Q Z := by
  refine ⟨fun pins s σ H xs us R L G I rx ok r av ax => ?_⟩
  refine run_makeS (E := WE W σ) Mk h (g.hr.mono hj) (g.gr.mono hj) hb hd (passAt g.tk σ) I rx fun a dx h1 h2 ne => ?_
  obtain ⟨o2, s2⟩ := ok.made (C := C) h1 h2 ne
  have la : (L ++ [a])[μ.length]? = some a := by rw [← ok.len]; exact last_get L a
  have rr : Reps X.K (L ++ [a]) G (.loc μ.length :: (ds ++ dds)) (.ref a :: (xs ++ dvs)) := Reps.cons (rep_loc.mpr ⟨a, la, rfl⟩) ((r.step s2).append (hdd _ _))
  refine ⟨_, _, o2, rr, fun d μ' q v L3 G3 H3 s3 o3 r3 => ?_, fun C' ns' ds' μ' q dx' L3 G3 H3 s3 o3 x3 => ?_⟩
  · cases q with
    | obj l hl hfs q =>
      rename_i ns fs μ2
      refine ⟨rep_non.mp r3, ?_⟩
      have s13 := s2.trans s3
      have hlen : μ2.length = μ.length := l.1
      have la3 : L3[μ2.length]? = some a := by rw [hlen]; exact s3.pre _ _ la
      obtain ⟨dx', vs', eh, _, rv⟩ := o3.at_ μ2.length a _ la3 (last_get μ2 _)
      have o4 : Ok X.K (L3.take μ2.length) G3 H3 μ2 := o3.cut (l.all ok)
      have s4 : Step L G H (L3.take μ2.length) G3 H3 := s13.cut (by rw [ok.len, hlen]; exact Nat.le_refl _)
      have hna : a ∉ L3.take μ2.length := fun z => by
        obtain ⟨i, hi, ei⟩ := List.getElem_of_mem z
        rw [List.length_take] at hi
        rw [List.getElem_take] at ei
        obtain ⟨g1, g2⟩ := List.getElem?_eq_some_iff.mp la3
        have := (List.getElem_inj o3.nd).mp (ei.trans g2.symm)
        omega
      obtain ⟨o5, sg⟩ := o4.tell (p := a) (o := .ins C dx' (ns.zip vs')) eh hna
      exact av _ _ q _ _ _ H3 (s4.tell h1 sg) o5 (rep_obj.mpr ⟨a, dx', vs', rfl, upd_same, hl, (rv.cut (n := μ2.length) (by rw [hlen]; exact hfs)).mono (.refl _) sg⟩)
    | loc hl q => exact ⟨rep_non.mp r3, av _ _ q _ L3 G3 H3 (s2.trans s3) o3 (rep_loc.mpr ⟨a, s3.pre _ _ la, rfl⟩)⟩
  · cases q with
    | mk l hfs q =>
      rename_i μ2 m
      have hlen : μ2.length = μ.length := l.1
      exact ax _ _ _ _ q dx' _ G3 H3 ((s2.trans s3).cut (n := μ2.length) (by rw [ok.len, hlen]; exact Nat.le_refl _)) (o3.cut (l.all ok)) (xd_cut (L' := L3) x3 (by rw [hlen]; exact hfs))
/-- C(e, ..) by the class's name -/
theorem xE_make (g : Nx' X N V Gs) (hi : In x Gs) (hm : X.mg x = some (.ref C)) (hk : PySem.W.keepIn X.K (.ref C) = true) (h : wA X W ρ μ (e :: es) (fun ds μ1 => wF X W (fun us => call (.ref C) us) ds μ1 Q Z) Z)
    (he : starEach (e :: es) X.env = (false, eval e X.env) :: starEach es X.env := by rfl) (hpl : (backTo pos (starEach es X.env)).any (·.1) = false := by rfl) : wE X W ρ μ (.Call (.Name x p) (e :: es) [] pos) Q Z :=
  .by fun pins s σ H R L G I n v z => wpAny_Call_Name_kw (ld_glob I (g.gl hi).1 hm (PySem.W.callWith_K (h₀ := X.base) I.ok.mod.kin hk (h.call I n v z pos) he hpl) (g.gl hi).2.1)
theorem xE_make0 (g : Nx' X N V Gs) (hi : In x Gs) (hm : X.mg x = some (.ref C)) (hk : PySem.W.keepIn X.K (.ref C) = true) (h : wF X W (fun us => call (.ref C) us) [] μ Q Z) : wE X W ρ μ (.Call (.Name x p) [] [] pos) Q Z :=
  .by fun pins s σ H R L G I n v z => wpAny_Call_Name_kw (ld_glob I (g.gl hi).1 hm (PySem.W.callWith_K0 I.kIn hk (h.run pins s σ H [] [] R L G I .nil n.ok Reps.nil v z)) (g.gl hi).2.1)
/-- o.m, a property; it raises nothing -/
theorem wE_prop (f : Fnx) (gd : Gd X W k) (cl : Cls X.K C) (hp : PropOf X.K C m pr f.a) (bd : Binds X.K f.fd f.ps []) (h : wE X W ρ μ ob (fun d μ1 => Recv C m μ1 d ∧ SpX X f [d] μ1 Q (fun _ _ _ _ => False)) Z) (hj : f.lv + 1 ≤ k := by exact Nat.le_of_ble_eq_true rfl)
    (hb : attributeBase ob m X.env (eval ob X.env) = eval ob X.env := by rfl) : wE X W ρ μ (.Attribute ob m pos) Q Z := by
  refine .by fun pins s σ H R L G I n v z => ?_
  refine attr_of hb (thn (h.go I n z) fun u s1 ⟨y, d, μ1, L1, G1, H1, I1, ry, ⟨hr, sp⟩, st1, o1, r1⟩ => ?_)
  obtain ⟨a, dx, fs, ex, ea, l⟩ := hr.at_ o1 r1
  subst ex
  obtain rfl : u = Value.ref a := ry
  exact getpropG I1 ea cl hp sp (gd.hr.mono hj) (gd.gr.mono hj) bd ⟨L1, G1, o1, Reps.cons r1 Reps.nil, v.step st1, fun _ _ _ _ q => q.elim⟩
/-! ### errors -/
theorem wS_raise (g : Fx X W k N V Gs) (hi : In x Gs) (c : ErrC X.prog X.w X.K X.mg X.base C ns) (hm : X.mg x = some (.ref C)) (h : wA X W ρ μ (e :: es) (fun ds μ1 => ns.length = ds.length ∧ κ.xc C ns ds ρ μ1) (κ.z ρ)) (hk : 2 ≤ k := by decide)
    (he : starEach (e :: es) X.env = (false, eval e X.env) :: starEach es X.env := by rfl) (hpl : (backTo pos (starEach es X.env)).any (·.1) = false := by rfl) : wS X W ρ μ (.Raise (some (.Call (.Name x p) (e :: es) [] pos)) none pos2) nx κ := by
  obtain ⟨hg, hdb, _⟩ := g.gl hi
  refine ⟨⟨fun pins s σ H D I ⟨L, G, nw, ac⟩ => ?_⟩⟩
  -- the arguments come to one list; then the error is raised
  refine (PS.run (t := fun D σ H => ∃ L G, Now X.K L G H μ ρ σ ∧ AccS W X.K L G H D nx κ) ?_ pins s σ H D I ⟨L, G, nw, ac⟩)
  obtain ⟨fI, fd, ps, sp, hi, ht, F, bd, hc⟩ := c.one
  have mk : PMk X (.Call (.Name x p) (e :: es) [] pos) (fun σ H Q => tMkO C sp [] (fun σ H R => ∃ L G, Now X.K L G H μ ρ σ ∧ (∀ ds μ', (ns.length = ds.length ∧ κ.xc C ns ds ρ μ') → ComesA X.K L G H ds μ' R) ∧ AccX W X.K L G H σ (κ.z ρ)) σ H Q) := pmk_oex c.oex hi ht F (g.hr.mono hk) bd .nil pass0 hg hm h.run hdb he hpl
  rcases hc with ⟨f, rfl, rfl⟩ | ⟨f, f2, rfl, hne, rfl⟩
  · refine ps_of (ps_raise g.calm g.tk mk) fun D σ H ⟨L, G, n, ac⟩ => ⟨L, G, n, fun ds μ1 ⟨hn, q⟩ vs L1 G1 H1 s1 o1 r1 => ?_, ac.x n⟩
    match ds, hn with
    | [d], _ =>
      obtain ⟨v, rfl, rv⟩ := r1.one
      refine ⟨by show 1 ≤ 1000; decide, fun a hna => ⟨a, v, rfl, upd_same, fun dx hdx hne => ⟨rfl, dx, [(f, v)], upd_same, by rw [upd_ne hne, upd_same], ?_, ?_⟩⟩⟩
      · rw [upd_ne hne] at hdx
        exact hdx
      · have hdx' : H1 dx = none := by rw [upd_ne hne] at hdx; exact hdx
        have eH : upd (del (upd (upd (upd H1 a (exo a C none)) dx (exd dx [(f, v)])) a (exo a C (some dx))) a) dx (.xd [(f, v)]) = upd H1 dx (.xd [(f, v)]) := by
          funext b
          by_cases hb : b = dx
          · rw [hb, upd_same, upd_same]
          · rw [upd_ne hb, upd_ne hb]
            by_cases hba : b = a
            · rw [hba, del_same, hna]
            · rw [del_ne hba, upd_ne hba, upd_ne hb, upd_ne hba]
        rw [eH]
        obtain ⟨o2, s2⟩ := o1.new (o := .xd [(f, v)]) hdx'
        exact ac.xc _ _ _ _ _ q σ (some dx) L1 _ _ (s1.trans s2) ⟨o2, (n.env.step s1).step s2⟩ ⟨rfl, .inr ⟨dx, [v], rfl, upd_same, Reps.cons (rv.step s2) Reps.nil⟩⟩
  · refine ps_of (ps_raise g.calm g.tk (t := fun σ H Q => ∃ L G, Now X.K L G H μ ρ σ ∧ (∀ ds μ', ([f, f2].length = ds.length ∧ κ.xc C [f, f2] ds ρ μ') → ComesA X.K L G H ds μ' fun vs H1 => ∃ v u, vs = [v, u] ∧ ∀ dx, H1 dx = none → Q (.ref C) (some dx) (upd H1 dx (.xd [(f, v), (f2, u)]))) ∧ AccX W X.K L G H σ (κ.z ρ)) ?_) fun D σ H ⟨L, G, n, ac⟩ => ⟨L, G, n, fun ds μ1 ⟨hn, q⟩ vs L1 G1 H1 s1 o1 r1 => ?_, ac.x n⟩
    · intro pins s σ H Q I h
      refine thn (mk pins s σ H (fun c d H' => c = .ref C ∧ ∃ dx v u H1, d = some dx ∧ H1 dx = none ∧ H' = upd H1 dx (.xd [(f2, u), (f, v)]) ∧ Q (.ref C) (some dx) (upd H1 dx (.xd [(f, v), (f2, u)]))) I ?_) fun u s' hu => ?_
      · obtain ⟨L, G, n, co, cx⟩ := h
        refine ⟨L, G, n, fun ds μ' q0 vs L1 G1 H1 s1 o1 r1 => ?_, cx⟩
        obtain ⟨v, u, rfl, q⟩ := co ds μ' q0 vs L1 G1 H1 s1 o1 r1
        refine ⟨by show 2 ≤ 1000; decide, fun a hna => ⟨a, v, u, rfl, upd_same, fun dx hdx hne => ⟨rfl, dx, [(f2, u), (f, v)], ?_, upd_same, ?_, rfl, dx, v, u, H1, rfl, ?_, ?_, ?_⟩⟩⟩
        · rw [upd_ne (Ne.symm hne), upd_same]
        · rw [upd_ne hne] at hdx; exact hdx
        · rw [upd_ne hne] at hdx; exact hdx
        · funext b
          by_cases hb : b = dx
          · rw [hb, upd_same, upd_same]
          · rw [upd_ne hb, upd_ne hb]
            by_cases hba : b = a
            · rw [hba, del_same, hna]
            · rw [del_ne hba, upd_ne hb, upd_ne hba, upd_ne hb, upd_ne hba]
        · exact q dx (by rw [upd_ne hne] at hdx; exact hdx)
      · obtain ⟨a, oe, fv, sI, H', cls, d, e1, J, k1, k2, k3, k4, k5, k6, k7, k8, k9, k10, rfl, dx, v, u', H1, rfl, hd1, rfl, q⟩ := hu
        refine ⟨a, oe, fv, sI, _, .ref C, some dx, e1, (xd_same J upd_same (xd_swap (Ne.symm (Ne.symm hne)))), k1, k2, k3, k4, k5, k6, ?_, k8, k9, k10, ?_⟩
        · rw [upd_upd]
          by_cases ha : a = dx
          · subst ha
            rw [upd_same] at k7
            cases k7
          · rw [upd_ne ha] at k7 ⊢
            exact k7
        · rw [upd_upd]
          exact q
    · match ds, hn with
      | [d1, d2], _ =>
        obtain ⟨v, u, rfl, rv, ru⟩ := r1.two
        refine ⟨v, u, rfl, fun dx hdx => ?_⟩
        obtain ⟨o2, s2⟩ := o1.new (o := .xd [(f, v), (f2, u)]) hdx
        exact ac.xc _ _ _ _ _ q σ (some dx) L1 _ _ (s1.trans s2) ⟨o2, (n.env.step s1).step s2⟩ ⟨rfl, .inr ⟨dx, [v, u], rfl, upd_same, Reps.cons (rv.step s2) (Reps.cons (ru.step s2) Reps.nil)⟩⟩
/-! ### try -/
variable {body suite : List Stmt} {b₀ : Stmt} {i : Nat}
theorem Fx.tr {pn : List (Addr × Obj)} {xe : Value → Shared → Prop} {W' : WX} (g : Fx X W k N V Gs) (tk : Takes (X.tr pn xe) W') (po : PassesOwn (model X.prog X.w) X.A X.env xe) : Fx (X.tr pn xe) W' k N V Gs := ⟨⟨g.calm, g.nd, tk, po, g.hr, g.gr⟩, ⟨g.N_, g.ndN, g.ck⟩⟩
theorem wS_try (g : Fx X W k N V Gs) (hi : Il N V n i) (hcn : Names X x (.ref C))
    (hb : ∀ (W' : WX) (pn : List (Addr × Obj)) (xe : Value → Shared → Prop), Fx (X.tr pn xe) W' k N V Gs → wSs (X.tr pn xe) W' ρ μ body nx { κ with xc := fun C' ns ds ρ1 μ1 =>
      (PySem.W.exmOne X.K (.ref C') (.ref C) = some false ∧ κ.xc C' ns ds ρ1 μ1) ∨
      (PySem.W.exmOne X.K (.ref C') (.ref C) = some true ∧ ns ≠ [] ∧ ∀ (a dd : Addr) (oe : Obj) (pn : List (Addr × Obj)), Zc (.ref C') (some dd) oe → (∃ vs, oe.data = .fields vs) → Nx' (X.suite a ((a, oe) :: pn)) N V Gs → ∀ ρs, ρs = ρ1.set i (some (.exn a dd ns ds)) →
        wSs (X.suite a ((a, oe) :: pn)) W0 ρs μ1 (b₀ :: suite) (fun ρ2 μ2 => ∀ ρs, ρs = ρ2.set i none → nx ρs μ2) { rt := κ.rt, bk := fun ρ2 μ2 => κ.bk (ρ2.set i none) μ2, ct := fun ρ2 μ2 => κ.ct (ρ2.set i none) μ2 }) })
    (hs : X.stack = X.env :: X.outer := by rfl) (hf : X.env.frame = some X.env.locals := by rfl) : wS X W ρ μ (.Try body [.ExceptHandler (some (.Name x np)) (some n) (b₀ :: suite) pos'] [] [] pos) nx κ := by
  obtain ⟨e1, l1⟩ := hi.ex g.nm
  refine ⟨ps_of (ps_try_as (i := i) (tb := fun W' => fun D σ H => ∃ L G, Now X.K L G H μ ρ σ ∧ AccS W' X.K L G H D nx { κ with xc := fun C' ns ds ρ1 μ1 => _ }) (ts := fun a cls d => fun D σ H => ∀ oe pn, Zc cls d oe → (∃ vs, oe.data = .fields vs) → aSs (X.suite a ((a, oe) :: pn)) (b₀ :: suite) D σ H) (Wout := W) hs hf g.nd (by rw [g.N_]; exact e1) l1 hcn g.tk
    (fun W' pn xe tk po => (hb W' pn xe (g.tr tk po)).run) (fun a oe cls d pn hz hv => ⟨fun pins s σ H D I t => ?_⟩)) fun D σ H ⟨L, G, nw, ac⟩ => ⟨L, G, nw, ac.nx, ac.bk, ac.ct, ac.rt, fun C' ns ds ρ1 μ1 q σ' dx L' G' H' s' n' x' => ?_⟩⟩
  · exact aSs_ok.run pins s σ H D I (t oe pn hz hv)
  · rcases q with ⟨hno, q⟩ | ⟨hyes, hns, q⟩
    · exact ⟨false, hno, fun z => Bool.noConfusion z, fun _ => ac.xc _ _ _ _ _ q σ' dx L' G' H' s' n' x'⟩
    · rcases x'.2 with z | ⟨dd, vs, rfl, eg, rv⟩
      · exact (hns z).elim
      · refine ⟨true, hyes, fun _ a hna oe pn hz hv => ?_, fun z => Bool.noConfusion z⟩
        refine ⟨_, (q a dd oe pn hz hv ⟨g.N_, g.ndN, g.ck⟩ _ rfl).run, L', G', ⟨n'.ok, n'.env.set (rep_exn.mpr ⟨vs, rfl, eg, x'.1, rv⟩) i⟩, ?_⟩
        have a2 := ac.step s'
        exact ⟨fun ρ2 μ2 h2 σ2 L2 G2 H2 s2 n2 => a2.nx _ _ (h2 _ rfl) _ L2 G2 H2 s2 ⟨n2.ok, n2.env.unset i⟩, fun ρ2 μ2 h2 σ2 L2 G2 H2 s2 n2 => a2.bk _ _ h2 _ L2 G2 H2 s2 ⟨n2.ok, n2.env.unset i⟩, fun ρ2 μ2 h2 σ2 L2 G2 H2 s2 n2 => a2.ct _ _ h2 _ L2 G2 H2 s2 ⟨n2.ok, n2.env.unset i⟩, a2.rt, fun _ _ _ _ _ z => z.elim⟩
/-- e.f of the caught error -/
theorem wE_xf {a dd : Addr} {oe : Obj} {pn : List (Addr × Obj)} {f : Str} (T : XfC X.K C) (hno : PySem.W.findIn X.K (.ref C) f = some none) (hz : Zc (.ref C) (some dd) oe) (hv : ∃ vs, oe.data = .fields vs)
    (h : wE (X.suite a ((a, oe) :: pn)) W ρ μ e (fun d μ1 => ∃ ns ds d', d = .exn a dd ns ds ∧ fldOf ns ds f = some d' ∧ Q d' μ1) Z) (hb : attributeBase e f X.env (eval e X.env) = eval e X.env := by rfl) : wE (X.suite a ((a, oe) :: pn)) W ρ μ (.Attribute e f pos) Q Z :=
  ⟨pe_of (pe_xf T hno hz hv h.run hb) fun σ H R ⟨L, G, nw, av, ax⟩ => ⟨L, G, nw, fun d μ1 ⟨ns, ds, d', ed, hf, q⟩ v L1 G1 H1 s1 o1 r1 => by
    subst ed
    obtain ⟨vs, ev, eg, _, rr⟩ := rep_exn.mp r1
    obtain ⟨u, l, ru⟩ := fld_rep rr hf
    exact ⟨ev, rfl, dd, _, u, rfl, o1.sub _ _ eg, l, av _ _ q u L1 G1 H1 s1 o1 ru⟩, ax⟩⟩
end
end PM
set_option Elab.async false
set_option linter.all false
set_option maxRecDepth 100000
namespace PM
open PySem L2
/-! ### comprehensions -/
abbrev Z0 : KX := fun _ _ _ _ => False
/-- a target in a block: only own slots change -/
structure wGw (X : Cx) (vs : List Nat) (ρ : Env') (μ : List M) (tg : Expr) (d : D) (nx : Env' → Prop) : Prop where
  run : PG X tg (fun v σ H R => ∃ L G, Now X.K L G H μ ρ σ ∧ Rep X.K L G d v ∧ ∀ ρ', nx ρ' → ∀ σ' L' G' H', Step L G H L' G' H' → Now X.K L' G' H' μ ρ' σ' → wipe σ' vs = wipe σ vs → R σ' H')
structure wGws (X : Cx) (vs : List Nat) (ρ : Env') (μ : List M) (ts : List Expr) (ds : List D) (nx : Env' → Prop) : Prop where
  run : PGs X ts (fun us σ H R => ∃ L G, Now X.K L G H μ ρ σ ∧ Reps X.K L G ds us ∧ ∀ ρ', nx ρ' → ∀ σ' L' G' H', Step L G H L' G' H' → Now X.K L' G' H' μ ρ' σ' → wipe σ' vs = wipe σ vs → R σ' H')
structure wTs (X : Cx) (ρ : Env') (μ : List M) (ifs : List Expr) (Q : KT) : Prop where
  run : PTs X ifs (fun σ H R => ∃ L G, Now X.K L G H μ ρ σ ∧ ∀ b μ', Q b μ' → ComesT X.K L G H b μ' R)
/-- a block's context -/
abbrev InBlk (X : Cx) (k : Nat) (N : List Str) (V : List Kd) (Gs : List Str) (scope : Scope) (P : Cx → Prop) : Prop := ∀ (s : Shared) (H : Hp) (C : Addr) (cl : List (Str × Addr)) (fp : List Addr), Fx (X.blk s H scope (compEnvC scope cl C X.env) fp) W0 k N V Gs → P (X.blk s H scope (compEnvC scope cl C X.env) fp)
section
variable {X : Cx} {W : WX} {k : Nat} {N : List Str} {V V' : List Kd} {Gs Gs' : List Str} {ρ ρ' : Env'} {μ μ1 μ2 : List M} {e elt tg iter c : Expr} {es ifs : List Expr} {Q : KV} {Z : KX} {d : D} {ds : List D} {pos : Pos} {x : Str} {scope : Scope} {own : List (Str × Nat)} {vs : List Nat} {nx : Env' → Prop}
/-- a block's scope within a def's -/
def relabS (sc scope : Scope) : Scope := { scope with names := scope.names.map fun (n, k) => if (k == NameKind.free && sc.kind == .function && sc.names.lookup n == some .cell) then (n, NameKind.cell) else (n, k) }
theorem Fx.blk {s : Shared} {H : Hp} {C : Addr} {cl : List (Str × Addr)} {fp : List Addr} (g : Fx X W k N V Gs) (ck : ckB N V' Gs' (relabS X.env.scope scope) = true) : Fx (X.blk s H scope (compEnvC scope cl C X.env) fp) W0 k N V' Gs' := ⟨g.toGd.blk, ⟨g.N_, g.ndN, ck⟩⟩
theorem wGw_name {i : Nat} (g : Nx' X N V Gs) (hi : Il N V x i) (hv : i ∈ vs) (h : wPt N V x d ρ nx) : wGw X vs ρ μ (.Name x pos) d nx := by
  obtain ⟨e1, l1⟩ := hi.ex g.nm
  have hs := h.set g.nm g.ndN e1
  exact ⟨pg_of (ew_name (ρ := ρ) (μ := μ) (d := d) (vs := vs) i (by rw [g.N_]; exact g.ndN) hv (by rw [g.N_]; exact e1) (.inl l1) (.inr l1)) fun v σ H R ⟨L, G, n, r, a⟩ => ⟨L, G, n, r, a _ hs⟩⟩
theorem wGws_nil (h : nx ρ) : wGws X vs ρ μ [] [] nx := ⟨pgs_of pgs_nil fun v σ H R ⟨L, G, n, r, a⟩ => ⟨r.inv_nil, a _ h _ L G H (.refl _ _ _) n rfl⟩⟩
theorem wGws_cons (h : wGw X vs ρ μ e d (fun ρ1 => wGws X vs ρ1 μ es ds nx)) (hs : (assignEach (e :: es) X.env).map (·.2) = assign e X.env :: (assignEach es X.env).map (·.2) := by rfl) : wGws X vs ρ μ (e :: es) (d :: ds) nx :=
  ⟨pgs_of (pgs_cons h.run aGs_ok hs) fun us σ H R ⟨L, G, n, r, a⟩ => by
    obtain ⟨v, q, e, r1, r2⟩ := r.inv_cons
    exact ⟨v, q, e, L, G, n, r1, fun ρ1 q1 σ1 L1 G1 H1 s1 n1 w1 => ⟨_, q1.run, L1, G1, n1, r2.step s1, fun ρ' q' σ' L' G' H' s' n' w' => a ρ' q' σ' L' G' H' (s1.trans s') n' (w'.trans w1)⟩⟩⟩
theorem wGw_tup {kk : Nat} (hc : X.calm = true) (h : wGws X vs ρ μ es ds nx) (hn : (assignEach es X.env).length = ds.length := by rfl) (hst : (assignEach es X.env).findIdx? (·.1) = none := by rfl) : wGw X vs ρ μ (.Tuple es kk pos) (.tup ds) nx :=
  ⟨pg_of (pg_tup hc h.run hn hst) fun v σ H R ⟨L, G, n, r, a⟩ => by
    obtain ⟨a', us, e, q, r⟩ := rep_tup.mp r
    exact ⟨a', us, e, Same.sqT n.ok.sub q, r.length, L, G, n, r, a⟩⟩
theorem wTs_nil {Q : KT} (h : Q true μ) : wTs X ρ μ [] Q := ⟨⟨fun pins s σ H R I ⟨L, G, n, a⟩ => pts_nil.run pins s σ H R I (a _ _ h L G H (.refl _ _ _) n.ok)⟩⟩
/-- one turn -/
def wTurn (X : Cx) (k : Nat) (N : List Str) (V : List Kd) (Gs : List Str) (scope : Scope) (vs : List Nat) (tg elt : Expr) (ifs : List Expr) (ρ : Env') (d : D) (μ : List M) (keep : D → List M → Prop) (skip : List M → Prop) : Prop :=
  InBlk X k N V Gs scope fun Y => wGw Y vs (wipeD ρ vs) μ tg d fun ρ1 => InBlk X k N V Gs scope fun Y => wTs Y ρ1 μ ifs fun b μ1 => if b = true then InBlk X k N V Gs scope fun Y => wE Y W0 ρ1 μ1 elt keep Z0 else skip μ1
/-- [elt for tg in iter if ..] by an invariant of what is left, what is done, the store -/
theorem wE_lc (V' : List Kd) (Gs' : List Str) (own : List (Str × Nat)) (Iv : List D → List D → List M → Prop) (g : Fx X W k N V Gs) {sc : Scope} (hsc : X.env.scope = sc) (ck : ckB N V' Gs' (relabS sc scope) = true) (ok : BlkOk X.N X.env.scope scope own)
    (hi : wI X W ρ μ tg iter (fun ds μ1 => ds.length ≤ sizeLine ∧ Iv ds [] μ1) Z)
    (ht : ∀ d ds done μ, Iv (d :: ds) done μ → wTurn X k N V' Gs' scope (own.map (·.2)) tg elt ifs ρ d μ (fun y μ1 => Iv ds (done ++ [y]) μ1) (fun μ1 => Iv ds done μ1))
    (hn : ∀ done μ, Iv [] done μ → Q (.lst done) μ) (hs : ∀ x, foldedSetIterable iter X.env x = pure x := by intro _; rfl) : wE X W ρ μ (.ListComp elt [⟨tg, iter, ifs, 0⟩] scope pos) Q Z := by
  have gb : ∀ (s : Shared) (H : Hp) (C : Addr) (cl : List (Str × Addr)) (fp : List Addr), Fx (X.blk s H scope (compEnvC scope cl C X.env) fp) W0 k N V' Gs' := fun s H C cl fp => g.blk (by rw [hsc]; exact ck)
  refine ⟨pe_of (pe_lc (g := bG X scope tg) (tt := bT X scope ifs) (te := bE X scope elt) g.calm g.nd hi.run ok (fun s H C cl fp => ⟨fun pins s' σ H' v u Q I r ⟨t, p, q⟩ => (p s H C cl fp).run pins s' σ H' v u Q I r q⟩)
    (fun s H C cl fp => ⟨fun pins s' σ H' Q I ⟨t, p, q⟩ => (p s H C cl fp).run pins s' σ H' Q I q⟩) (fun s H C cl fp => ⟨fun pins s' σ H' Q I ⟨t, p, q⟩ => (p s H C cl fp).run pins s' σ H' Q I q⟩) hs) fun σ H R ⟨L, G, nw, av, ax⟩ => ⟨L, G, nw, fun ds μ1 ⟨hl, i0⟩ J L1 G1 H1 s1 o1 j D hD => ?_, ax⟩⟩
  have oD := (o1.newH (o := .lst []) hD).1
  refine ⟨fun i m H' => m = ds.length - i ∧ i ≤ ds.length ∧ ∃ done us μ' L' G', Iv (ds.drop i) done μ' ∧ H' D = some (.lst us) ∧ Reps X.K L' G' done us ∧ Ok X.K L' G' H' μ' ∧ Step L1 G1 H1 L' G' H' ∧ G' D = none ∧ D ∉ L' ∧ done.length ≤ i,
    ⟨ds.length, by simp, Nat.zero_le _, [], [], μ1, L1, G1, i0, upd_same, Reps.nil, oD, (Step.refl L1 G1 H1).poke hD, Same.free o1.sub hD, fun z => mem_ne o1.liv hD D z rfl, Nat.zero_le _⟩, ?_⟩
  rintro i m H2 ⟨rfl, hil, done, us, μ', L2, G2, h2, eD, rd, o2, s2, gD2, nD2, hdi⟩
  have nw2 : ∀ {Lx Gx Hx μx}, Step L2 G2 H2 Lx Gx Hx → Ok X.K Lx Gx Hx μx → Now X.K Lx Gx Hx μx (wipeD ρ (own.map (·.2))) (wipe σ (own.map (·.2))) := fun sx ox => ⟨ox, (nw.env.wipe _).mono ((s1.trans s2).trans sx).pre ((s1.trans s2).trans sx).gs⟩
  have keepD : ∀ {Lx Gx Hx}, Step L2 G2 H2 Lx Gx Hx → Hx D = some (.lst us) ∧ Gx D = none ∧ D ∉ Lx := fun {Lx Gx Hx} sx => by
    refine ⟨sx.hs D _ eD nD2, ?_, fun z => ?_⟩
    · cases e : Gx D with
      | none => rfl
      | some o =>
        rcases sx.gf D o e with q | q
        · rw [gD2] at q; cases q
        · rw [eD] at q; cases q
    · rcases sx.fr D z with q | q
      · exact nD2 q
      · rw [eD] at q; cases q
  generalize hd : ds.drop i = dr at h2
  cases dr with
  | nil =>
    have ei : i = ds.length := by
      have := congrArg List.length hd
      simp at this
      omega
    subst ei
    refine .inl ⟨j.stop L2 G2 H2 _ s2.pre s2.gs o2, ?_⟩
    obtain ⟨o3, sg⟩ := o2.tell (p := D) (o := .lst us) eD nD2
    exact av _ _ (hn _ _ h2) _ L2 _ H2 (s1.trans (s2.tell hD sg)) o3 (rep_lst.mpr ⟨D, us, rfl, upd_same, rd.mono (.refl _) sg⟩)
  | cons d ds' =>
    obtain ⟨e1, e2⟩ := drop_cons hd
    obtain ⟨go, yl⟩ := j.go L2 G2 H2 μ' i d s2.pre s2.gs o2 e1
    have il : i < ds.length := (List.getElem?_eq_some_iff.mp e1).1
    refine .inr ⟨go, fun H' => ∃ done' us' μb L' G', Iv ds' done' μb ∧ H' D = some (.lst us') ∧ Reps X.K L' G' done' us' ∧ Ok X.K L' G' H' μb ∧ Step L1 G1 H1 L' G' H' ∧ G' D = none ∧ D ∉ L' ∧ done'.length ≤ i + 1, fun H' ⟨done', us', μb, L', G', q0, q1, q2, q3, q4, q5, q6, q7⟩ => ⟨ds.length - (i + 1), by omega, rfl, il, done', us', μb, L', G', by rw [e2]; exact q0, q1, q2, q3, q4, q5, q6, q7⟩, fun x H3 yy => ?_⟩
    obtain ⟨G3, s3, o3, r3⟩ := yl x H3 yy
    refine ⟨fun v σ H R => ∃ L G, Now X.K L G H μ' (wipeD ρ (own.map (·.2))) σ ∧ Rep X.K L G d v ∧ ∀ ρ', _ → ∀ σ' L' G' H', Step L G H L' G' H' → Now X.K L' G' H' μ' ρ' σ' → wipe σ' (own.map (·.2)) = wipe σ (own.map (·.2)) → R σ' H', fun s H C cl fp => ((ht d ds' done μ' h2) s H C cl fp (gb s H C cl fp)).run, L2, G3, nw2 s3 o3, r3, fun ρ1 h1 σ4 L4 G4 H4 s4 n4 w4 => ⟨by rw [w4, wipe_idem], fun σ H R => ∃ L G, Now X.K L G H μ' ρ1 σ ∧ ∀ b μ5, _ → ComesT X.K L G H b μ5 R, fun s H C cl fp => (h1 s H C cl fp (gb s H C cl fp)).run, L4, G4, n4, fun b μ5 h5 L5 G5 H5 s5 o5 => ?_⟩⟩
    cases b with
    | true =>
      refine iteT ⟨fun σ H R => ∃ L G, Now X.K L G H μ5 ρ1 σ ∧ AccV X.K L G H _ R ∧ AccX W0 X.K L G H σ Z0, fun s H C cl fp => ((show InBlk X k N V' Gs' scope fun Y => wE Y W0 ρ1 μ5 elt _ Z0 from h5) s H C cl fp (gb s H C cl fp)).run, L5, G5, n4.step s5 o5, fun y μ6 h6 v L6 G6 H6 s6 o6 r6 => ?_, fun _ _ _ _ z => z.elim⟩
      have s36 := ((s3.trans s4).trans s5).trans s6
      obtain ⟨k1, k2, k3⟩ := keepD s36
      refine ⟨us, k1, ?_, done ++ [y], us ++ [v], μ6, L6, G6, h6, upd_same, (rd.step s36).append (Reps.cons r6 Reps.nil), o6.poke k3 k2, (s2.trans s36).poke hD, k2, k3, by simp; omega⟩
      rw [rd.length]
      omega
    | false =>
      have s35 := (s3.trans s4).trans s5
      obtain ⟨k1, k2, k3⟩ := keepD s35
      exact iteF ⟨done, us, μ5, L5, G5, h5, k1, rd.step s35, o5, s2.trans s35, k2, k3, by omega⟩
/-- y = [..]: the name's own slot is written in one go -/
theorem wS_setLc (V' : List Kd) (Gs' : List Str) (own : List (Str × Nat)) (Iv : List D → List D → List M → Prop) {nx : KN} {κ : Ks} {y : Str} {i : Nat} {py spos : Pos} (g : Fx X W k N V Gs) (hy : Il N V y i) {sc : Scope} (hsc : X.env.scope = sc) (ck : ckB N V' Gs' (relabS sc scope) = true) (ok : BlkOk X.N X.env.scope scope own)
    (hi : wI X W ρ μ tg iter (fun ds μ1 => ds.length ≤ sizeLine ∧ Iv ds [] μ1) (κ.z ρ))
    (ht : ∀ d ds done μ, Iv (d :: ds) done μ → wTurn X k N V' Gs' scope (own.map (·.2)) tg elt ifs ρ d μ (fun y μ1 => Iv ds (done ++ [y]) μ1) (fun μ1 => Iv ds done μ1))
    (hn : ∀ done μ, Iv [] done μ → wPt N V y (.lst done) ρ (fun ρ' => nx ρ' μ))
    (hkd : X.env.scope.kind = .function := by rfl) (hl : (py.line == pos.line) = true := by rfl) (hnm : (scope.names.any fun (n, k) => n == y && (k == .local || k == .cell)) = false := by decide +kernel)
    (hs : ∀ x, foldedSetIterable iter X.env x = pure x := by intro _; rfl) : wS X W ρ μ (.Assign [.Name y py] (.ListComp elt [⟨tg, iter, ifs, 0⟩] scope pos) spos) nx κ := by
  obtain ⟨e1, l1⟩ := hy.ex g.nm
  have gb : ∀ (s : Shared) (H : Hp) (C : Addr) (cl : List (Str × Addr)) (fp : List Addr), Fx (X.blk s H scope (compEnvC scope cl C X.env) fp) W0 k N V' Gs' := fun s H C cl fp => g.blk (by rw [hsc]; exact ck)
  refine ⟨ps_of (ps_setLc (g := bG X scope tg) (tt := bT X scope ifs) (te := bE X scope elt) g.calm g.nd (by rw [g.N_]; exact e1) l1 (sw_true hkd l1 hl hnm) hi.run ok (fun s H C cl fp => ⟨fun pins s' σ H' v u Q I r ⟨t, p, q⟩ => (p s H C cl fp).run pins s' σ H' v u Q I r q⟩)
    (fun s H C cl fp => ⟨fun pins s' σ H' Q I ⟨t, p, q⟩ => (p s H C cl fp).run pins s' σ H' Q I q⟩) (fun s H C cl fp => ⟨fun pins s' σ H' Q I ⟨t, p, q⟩ => (p s H C cl fp).run pins s' σ H' Q I q⟩) hs) fun DD σ H ⟨L, G, nw, ac⟩ => ⟨L, G, nw, fun ds μ1 ⟨hl, i0⟩ J L1 G1 H1 s1 o1 j D hD => ?_, ac.x nw⟩⟩
  have oD := (o1.newH (o := .lst []) hD).1
  refine ⟨fun i m H' => m = ds.length - i ∧ i ≤ ds.length ∧ ∃ done us μ' L' G', Iv (ds.drop i) done μ' ∧ H' D = some (.lst us) ∧ Reps X.K L' G' done us ∧ Ok X.K L' G' H' μ' ∧ Step L1 G1 H1 L' G' H' ∧ G' D = none ∧ D ∉ L' ∧ done.length ≤ i,
    ⟨ds.length, by simp, Nat.zero_le _, [], [], μ1, L1, G1, i0, upd_same, Reps.nil, oD, (Step.refl L1 G1 H1).poke hD, Same.free o1.sub hD, fun z => mem_ne o1.liv hD D z rfl, Nat.zero_le _⟩, ?_⟩
  rintro i m H2 ⟨rfl, hil, done, us, μ', L2, G2, h2, eD, rd, o2, s2, gD2, nD2, hdi⟩
  have nw2 : ∀ {Lx Gx Hx μx}, Step L2 G2 H2 Lx Gx Hx → Ok X.K Lx Gx Hx μx → Now X.K Lx Gx Hx μx (wipeD ρ (own.map (·.2))) (wipe σ (own.map (·.2))) := fun sx ox => ⟨ox, (nw.env.wipe _).mono ((s1.trans s2).trans sx).pre ((s1.trans s2).trans sx).gs⟩
  have keepD : ∀ {Lx Gx Hx}, Step L2 G2 H2 Lx Gx Hx → Hx D = some (.lst us) ∧ Gx D = none ∧ D ∉ Lx := fun {Lx Gx Hx} sx => by
    refine ⟨sx.hs D _ eD nD2, ?_, fun z => ?_⟩
    · cases e : Gx D with
      | none => rfl
      | some o =>
        rcases sx.gf D o e with q | q
        · rw [gD2] at q; cases q
        · rw [eD] at q; cases q
    · rcases sx.fr D z with q | q
      · exact nD2 q
      · rw [eD] at q; cases q
  generalize hd : ds.drop i = dr at h2
  cases dr with
  | nil =>
    have ei : i = ds.length := by
      have := congrArg List.length hd
      simp at this
      omega
    subst ei
    refine .inl ⟨j.stop L2 G2 H2 _ s2.pre s2.gs o2, ?_⟩
    obtain ⟨o3, sg⟩ := o2.tell (p := D) (o := .lst us) eD nD2
    have s4 := s1.trans (s2.tell hD sg)
    exact ac.nx _ _ ((hn _ _ h2).set g.nm g.ndN e1) _ L2 _ H2 s4 ⟨o3, (nw.env.step s4).set (rep_lst.mpr ⟨D, us, rfl, upd_same, rd.mono (.refl _) sg⟩) _⟩
  | cons d ds' =>
    obtain ⟨e1, e2⟩ := drop_cons hd
    obtain ⟨go, yl⟩ := j.go L2 G2 H2 μ' i d s2.pre s2.gs o2 e1
    have il : i < ds.length := (List.getElem?_eq_some_iff.mp e1).1
    refine .inr ⟨go, fun H' => ∃ done' us' μb L' G', Iv ds' done' μb ∧ H' D = some (.lst us') ∧ Reps X.K L' G' done' us' ∧ Ok X.K L' G' H' μb ∧ Step L1 G1 H1 L' G' H' ∧ G' D = none ∧ D ∉ L' ∧ done'.length ≤ i + 1, fun H' ⟨done', us', μb, L', G', q0, q1, q2, q3, q4, q5, q6, q7⟩ => ⟨ds.length - (i + 1), by omega, rfl, il, done', us', μb, L', G', by rw [e2]; exact q0, q1, q2, q3, q4, q5, q6, q7⟩, fun x H3 yy => ?_⟩
    obtain ⟨G3, s3, o3, r3⟩ := yl x H3 yy
    refine ⟨fun v σ H R => ∃ L G, Now X.K L G H μ' (wipeD ρ (own.map (·.2))) σ ∧ Rep X.K L G d v ∧ ∀ ρ', _ → ∀ σ' L' G' H', Step L G H L' G' H' → Now X.K L' G' H' μ' ρ' σ' → wipe σ' (own.map (·.2)) = wipe σ (own.map (·.2)) → R σ' H', fun s H C cl fp => ((ht d ds' done μ' h2) s H C cl fp (gb s H C cl fp)).run, L2, G3, nw2 s3 o3, r3, fun ρ1 h1 σ4 L4 G4 H4 s4 n4 w4 => ⟨by rw [w4, wipe_idem], fun σ H R => ∃ L G, Now X.K L G H μ' ρ1 σ ∧ ∀ b μ5, _ → ComesT X.K L G H b μ5 R, fun s H C cl fp => (h1 s H C cl fp (gb s H C cl fp)).run, L4, G4, n4, fun b μ5 h5 L5 G5 H5 s5 o5 => ?_⟩⟩
    cases b with
    | true =>
      refine iteT ⟨fun σ H R => ∃ L G, Now X.K L G H μ5 ρ1 σ ∧ AccV X.K L G H _ R ∧ AccX W0 X.K L G H σ Z0, fun s H C cl fp => ((show InBlk X k N V' Gs' scope fun Y => wE Y W0 ρ1 μ5 elt _ Z0 from h5) s H C cl fp (gb s H C cl fp)).run, L5, G5, n4.step s5 o5, fun y μ6 h6 v L6 G6 H6 s6 o6 r6 => ?_, fun _ _ _ _ z => z.elim⟩
      have s36 := ((s3.trans s4).trans s5).trans s6
      obtain ⟨k1, k2, k3⟩ := keepD s36
      refine ⟨us, k1, ?_, done ++ [y], us ++ [v], μ6, L6, G6, h6, upd_same, (rd.step s36).append (Reps.cons r6 Reps.nil), o6.poke k3 k2, (s2.trans s36).poke hD, k2, k3, by simp; omega⟩
      rw [rd.length]
      omega
    | false =>
      have s35 := (s3.trans s4).trans s5
      obtain ⟨k1, k2, k3⟩ := keepD s35
      exact iteF ⟨done, us, μ5, L5, G5, h5, k1, rd.step s35, o5, s2.trans s35, k2, k3, by omega⟩
end
end PM
set_option Elab.async false
set_option linter.all false
set_option maxRecDepth 100000
namespace PM
open PySem L2
/-! ### calls by keywords -/
structure wK (X : Cx) (W : WX) (ρ : Env') (μ : List M) (kws : List Keyword) (Q : KA) (Z : KX) : Prop where
  run : PK X kws (fun σ H R => ∃ L G, Now X.K L G H μ ρ σ ∧ (∀ ds μ', Q ds μ' → ComesA X.K L G H ds μ' R) ∧ AccX W X.K L G H σ Z)
def aK (X : Cx) (kws : List Keyword) : TA := fun σ H Q => ∃ t, PK X kws t ∧ t σ H Q
section
variable {X : Cx} {W : WX} {k n : Nat} {N : List Str} {V : List Kd} {Gs ks : List Str} {p : List Nat} {ρ : Env'} {μ μ1 : List M} {e ob : Expr} {es : List Expr} {Q : KV} {Z : KX} {QA : KA} {d : D} {ds es' : List D} {pp pos apos kpos : Pos} {x m : Str} {f : Fnx} {C pr : Addr} {pl : Sem Bool} {kws : List Keyword} {nm : Option Str}
theorem aK_ok : PK X kws (aK X kws) := ⟨fun pos pins s σ H Q I ⟨t, p, q⟩ => p.run pos pins s σ H Q I q⟩
theorem wK_nil (h : QA [] μ) : wK X W ρ μ [] QA Z := ⟨pk_of pk_nil fun σ H R ⟨L, G, n, v, x⟩ => v [] μ h [] L G H (.refl _ _ _) n.ok Reps.nil⟩
theorem wK_cons (h : wE X W ρ μ e (fun d μ1 => wK X W ρ μ1 kws (fun ds μ2 => QA (d :: ds) μ2) Z) Z) : wK X W ρ μ (⟨nm, e, kpos⟩ :: kws) QA Z :=
  ⟨pk_of (pk_cons h.run aK_ok) fun σ H R ⟨L, G, n, v, x⟩ => ⟨L, G, n, fun d μ1 q u L1 G1 H1 s1 o1 r1 => ⟨_, q.run, L1, G1, n.step s1 o1, fun ds μ2 q2 us L2 G2 H2 s2 o2 r2 => v _ _ q2 _ L2 G2 H2 (s1.trans s2) o2 (Reps.cons (r1.step s2) r2), x.step s1⟩, x⟩⟩
theorem wK.go {pins : List (Addr × Obj)} {s : Shared} {σ : L2.St} {H : Hp} {L : List Addr} {G : Hp} (h : wK X W ρ μ kws QA Z) (I : Inv X pins σ H s) (n : Now X.K L G H μ ρ σ) (z : AccX W X.K L G H σ Z) (pos : Pos) :
    wpAny (model X.prog X.w) X.A (evalAll ((backToKw pos (keywordEach kws X.env)).map (·.2))) (fun us s1 => ∃ vs ds μ1 L1 G1 H1, Inv X pins σ H1 s1 ∧ Vals vs us ∧ QA ds μ1 ∧ Step L G H L1 G1 H1 ∧ Ok X.K L1 G1 H1 μ1 ∧ Reps X.K L1 G1 ds vs) X.xe s :=
  thn (h.run.run pos pins s σ H (fun vs H1 => ∃ ds μ1 L1 G1, QA ds μ1 ∧ Step L G H L1 G1 H1 ∧ Ok X.K L1 G1 H1 μ1 ∧ Reps X.K L1 G1 ds vs) I ⟨L, G, n, fun ds μ' q vs L' G' H' s' o' r' => ⟨ds, μ', L', G', q, s', o', r'⟩, z⟩)
    fun us s1 ⟨vs, H1, I1, r1, ds, μ1, L1, G1, q, st, o, r⟩ => ⟨vs, ds, μ1, L1, G1, H1, I1, r1, q, st, o, r⟩
/-- C(k = v, ..) -/
theorem xE_makeK {q : List Nat} (g : Fx X W k N V Gs) (hi : In x Gs) (hm : X.mg x = some (.ref C)) (Mk : Mk X.K C f.a) (hb : KwB X.K f.fd f.ps 1 ks (0 :: q.map (· + 1))) {Rl' : Rl} (F : FnG X.prog X.w X.K X.mg X.base f.lv f.a f.fd f.ps (spR X.K Rl')) (h : wK X W ρ μ kws (fun ds μ1 => ds.length = ks.length ∧ ∃ o, MakeR Rl' C (pick q ds) μ1 o ∧ o.In Q Z) Z) (hj : f.lv + 1 ≤ k := by exact Nat.le_of_ble_eq_true rfl)
    (hall : (backToKw pos (keywordEach kws X.env)).all (·.1.isSome) = true := by rfl) (hks : (backToKw pos (keywordEach kws X.env)).filterMap (·.1) = ks := by rfl)
    (hpl : ((backTo pos (starEach [] X.env)).any (·.1) || (backToKw pos (keywordEach kws X.env)).any (·.1.isNone)) = false := by rfl) : wE X W ρ μ (.Call (.Name x pp) [] kws pos) Q Z := by
  refine .by fun pins s σ H R L G I n v z => ?_
  refine wpAny_Call_Name_kw (ld_glob I (g.gl hi).1 hm ?_ (g.gl hi).2.1)
  refine PySem.W.callWith_KW0 (h₀ := X.base) I.ok.mod.kin Mk.kp hall ?_ hpl
  refine thn (h.go I n z pos) fun ws s2 ⟨zs, ds, μ1, L2, G2, H2, I2, rz, ⟨hl, o, hR, ho⟩, st2, o2, r2⟩ => ⟨I2.kIn, ?_⟩
  rw [hks]
  exact run_makeKG Mk F g.toGd hj hb I2 rz o2 r2 hl hR (CO.of (v.step st2) (z.step st2) ho)
end
end PM
set_option Elab.async false
set_option linter.all false
set_option maxRecDepth 100000
namespace PM
open PySem L2
section
variable {X : Cx} {W : WX} {k : Nat} {N : List Str} {V : List Kd} {Gs : List Str} {ρ : Env'} {μ : List M} {e oe a b c : Expr} {es : List Expr} {Q : KV} {Z : KX} {QT : KT} {QA : KA} {d : D} {ds : List D} {p pos pos' : Pos} {x f : Str} {nx : KN} {κ : Ks}
/-- o.f = e, o a thing of the store -/
theorem wS_fld (h : wE X W ρ μ e (fun d μ1 => wE X W ρ μ1 oe (fun d0 μ2 => ∃ (i : Nat) (C : Addr) (ns : List Str) (fs : List D), d0 = .loc i ∧ μ2[i]? = some (.ins C ns fs) ∧ (Cls X.K C ∧ NoAttr X.K C f ∧ ns.length < 1000) ∧ nx ρ (μ2.set i (.ins C (putN f ns) (putD f d ns fs)))) (κ.z ρ)) (κ.z ρ))
    (hs : swapsWith e (some (.Attribute oe f pos')) pos.line X.env = pure false := by rfl) : wS X W ρ μ (.Assign [.Attribute oe f pos'] e pos) nx κ :=
  ⟨ps_of (ps_fld aE_ok h.run hs) fun D σ H ⟨L, G, nw, a⟩ => ⟨L, G, nw, fun d μ1 h2 v L1 G1 H1 s1 o1 r1 => ⟨_, h2.run, L1, G1, nw.step s1 o1, fun d0 μ2 ⟨i, C, ns, fs, ed, hi, ⟨c, n, hl⟩, q⟩ u L2 G2 H2 s2 o2 r2 => by
    subst ed
    obtain ⟨a', ea, ev⟩ := rep_loc.mp r2
    obtain ⟨dx, vs, eh, hl2, rr⟩ := o2.at_ i a' _ ea hi
    obtain ⟨vs', e1, e2, e3⟩ := put_rep (r1.step s2) hl2 rr
    refine ⟨a', C, dx, _, ev, eh, c, n, ?_, ?_⟩
    · rw [List.length_zip]
      omega
    · obtain ⟨o3, s3⟩ := o2.write (o := .ins C dx (putF f v (ns.zip vs))) (m := .ins C (putN f ns) (putD f d ns fs)) ea ⟨dx, vs', by rw [upd_same, e1], e2, e3⟩
      exact a.nx _ _ q σ L2 G2 _ ((s1.trans s2).trans s3) ⟨o3, ((nw.env.step s1).step s2).step s3⟩, (a.x nw).step s1⟩, a.x nw⟩⟩
end
end PM
set_option Elab.async false
set_option linter.all false
set_option maxRecDepth 100000
namespace PM
open PySem L2
section
variable {X : Cx} {W : WX} {k n : Nat} {μ : List M} {ds : List D} {ps : List PyData} {Q : KV} {Z : KX}
theorem oc_neLoc (g : Gd X W k) (hi : μ[n]? = some (.lst ds)) (h1 : D.pys ds = some ps) (s1 : SeqAt.shaped (.list ps) = true) : OpO X W (compareOp .NotEq) (.loc n) (.lst []) μ (.ret (.bl (!PyData.eqv (.list ps) (.list []))) μ) :=
  opO_of (op_neD (by have := g.hr.un; omega)) fun σ x y H Q L G o r1 r2 c => ⟨.list ps, .list [], by
    obtain ⟨a, ea, ev⟩ := rep_loc.mp r1
    obtain ⟨vs, eh, rr⟩ := o.at_ n a _ ea hi
    rw [ev]
    exact .lst (SqL.of eh) (Reps.dp o.sub rr h1), r2.dp o.sub rfl, s1, rfl, CO.now (W := W) (σ := σ) c o (rep_bl.mpr rfl)⟩
/-- l != [] -/
theorem wB_neLoc (g : Gd X W k) (hi : μ[n]? = some (.lst ds)) (h1 : D.pys ds = some ps) (s1 : SeqAt.shaped (.list ps) = true) (h : Q (.bl (!PyData.eqv (.list ps) (.list []))) μ) : wB X W (compareOp .NotEq) (.loc n) (.lst []) μ Q Z := .ofV (oc_neLoc g.w0 hi h1 s1) h
end
section
variable {X : Cx} {W : WX} {k j i : Nat} {ps : List Str} {R : Rl} {f C : Addr} {fd : FuncData} {ρ : Env'} {μ μ2 : List M} {ns : List Str} {fs : List D} {d da db : D} {b : Bool} {x : Str} {e : Expr} {op : Operator} {pos pos' : Pos} {nx : KN} {κ : Ks}
end
end PM
set_option Elab.async false
set_option linter.all false
set_option maxRecDepth 100000
namespace PM
open PySem L2 PyProof.Rows
section
variable {prog : Program} {w : World} {A : Around} {E : Value → Shared → Prop} {s : Shared} {K : PySem.W.Frag} {x C f : Addr} {ox : Obj} {od : Option Obj} {name : Str} {id n : String} {B : Builtin} {args : List Value}
theorem slot_obj_format : Slot "object" "__format__" "object.__format__" :=
  .of (owner := "object") (n := "__format__") (by rw [typeLookup_type, builtinLookup_eq_fast]; kernel_rfl) (by decide +kernel) (by decide +kernel) (by decide +kernel)
    (by first | exact .inl (by decide +kernel) | exact .inr (by decide +kernel)) (by rw [isSubtype_type]; kernel_rfl)
open PySem.W in
theorem check_meth {M : Model} {i owner n : String} {self : Value} {rest : List Value} {kw : List (Str × Value)} {Q : Unit → Shared → Prop}
    (hk : builtinKind i = some .slot ∨ builtinKind i = some .method) (hs : splitId i = some (owner, n)) (hi : Looks M s.heap (isInstance self (.type owner)) true) (ha : argsOk i ⟨self :: rest, kw⟩) (q : Q () s) :
    wpAny M A (checkBuiltinCall i ⟨self :: rest, kw⟩) Q E s := by
  rcases hk with hk | hk <;>
  · simp only [checkBuiltinCall, hk, hs]
    refine wpAny_bind (hi.here ?_)
    simp only [Bool.not_true, Bool.false_eq_true, if_false]
    cases hsig : Manifest.signature? i with
    | none => exact wpAny_pure q
    | some sig =>
      simp only [argsOk, hsig] at ha
      have h2 : Bind.checkArgs i sig ⟨self :: rest, kw⟩ = pure () := ha
      show wpAny M A (Bind.checkArgs i sig ⟨self :: rest, kw⟩) Q E s
      rw [h2]; exact wpAny_pure q
open PySem.W in
theorem inst_object (X : K.In s.heap) (I : InstAt s.heap x ox C od) (oc : OwnC K C) : Looks (model prog w) s.heap (isInstance (.ref x) (.type "object")) true :=
  I.type.andThen (looks_subIn X (by
    show mroIn K C (.type "object") = _
    rw [oc.mroIn]
    simp))
open PySem.W in
/-- a built-in of object, called with an own instance -/
theorem call_objB {Q : Value → Shared → Prop} (X : K.In s.heap) (I : InstAt s.heap x ox C od) (oc : OwnC K C) (S : Slot "object" name id) (hk : builtinKind id = some .slot ∨ builtinKind id = some .method) (hs : splitId id = some ("object", n)) (hb : entryFor table id = some B) (ha : argsOk id ⟨.ref x :: args, []⟩)
    (h : wpAny (model prog w) A.in1 (B ⟨.ref x :: args, []⟩) (fun fin s' => ∃ v, fin = .done (.ret v) ∧ Q v s') E s) : wpAny (model prog w) A (call (.builtin id) (.ref x :: args)) Q E s := by
  refine wpAny_call (codeAny_call_builtin S.plain hb (check_meth hk hs (inst_object X I oc) ha (wpAny_mono h (fun fin s' h' => ?_) fun _ _ h' => h')))
  obtain ⟨v, rfl, hv⟩ := h'
  exact hv
open PySem.W in
theorem special_objB {Q : Option Value → Shared → Prop} (X : K.In s.heap) (I : InstAt s.heap x ox C od) (S : Slot "object" name id) (hs : findIn K (.ref C) name = some (some (.builtin id)))
    (h : wpAny (model prog w) A (call (.builtin id) (.ref x :: args)) (fun v => Q (some v)) E s) : wpAny (model prog w) A (callSpecial? (.ref x) name args) Q E s := by
  unfold callSpecial?
  refine wpAny_bind (wpAny_bind (I.type.here ((looks_findIn X hs).here ?_)))
  simp only [S.bind]
  exact wpAny_holding (wpAny_bind (wpAny_pure (wpAny_bind (wpAny_mono h (fun v s' h' => wpAny_pure h') fun _ _ h' => h'))))
open PySem.W in
theorem pyStr_own {Q : Value → Shared → Prop} (hu : A.units < cLine) (X : K.In s.heap) (I : InstAt s.heap x ox C od) (hs : findIn K (.ref C) "__str__" = some (some (.ref f))) (hf : isFn K (.ref f) = true)
    (h : wpAny (model prog w) A (call (.ref f) [.ref x]) (fun r s' => ∃ y t, r = .str y t ∧ Q r s') E s) : wpAny (model prog w) A (pyStrObj (.ref x)) Q E s := by
  unfold pyStrObj
  refine wpAny_bind (m := cRoomFor _ _) (wpAny_cRoomFor hu ?_)
  refine wpAny_bind (m := callSpecial? (.ref x) (Str.ofString "__str__")) (special_fn X I hs (beq_iff_eq.mp hf) (wpAny_mono h (fun r s' hr => ?_) fun _ _ y => y))
  obtain ⟨y, t, rfl, hq⟩ := hr
  exact wpAny_bind (wpAny_isInstance (T := "str") (b := true) rfl isSubtype_str_str (wpAny_pure hq))
open PySem.W in
/-- f"{x}" -/
theorem fmt_own {Q : Value → Shared → Prop} (hu : A.in1.units < cLine) (X : K.In s.heap) (I : InstAt s.heap x ox C od) (oc : OwnC K C) (hfm : findIn K (.ref C) "__format__" = some (some (.builtin "object.__format__"))) (hs : findIn K (.ref C) "__str__" = some (some (.ref f))) (hf : isFn K (.ref f) = true)
    (h : wpAny (model prog w) A.in1 (call (.ref f) [.ref x]) (fun r s' => ∃ y t, r = .str y t ∧ Q r s') E { s with toks := s.toks + 1 }) : wpAny (model prog w) A (formatField (.ref x) Str.empty) Q E s := by
  show wpAny _ _ (holding [.ref x] (pyFormat (.ref x) Str.empty)) _ _ _
  refine wpAny_holding ?_
  unfold pyFormat
  refine wpAny_bind (wpAny_mkStr ?_)
  have X' : K.In ({ s with toks := s.toks + 1 } : Shared).heap := X
  have I' : InstAt ({ s with toks := s.toks + 1 } : Shared).heap x ox C od := I
  refine wpAny_bind (m := callSpecial? (.ref x) (Str.ofString "__format__") [.str Str.empty s.toks]) (special_objB X' I' slot_obj_format hfm (call_objB (n := "__format__") X' I' oc slot_obj_format (by first | exact .inl (by decide +kernel) | exact .inr (by decide +kernel)) (by decide +kernel) F.entry_object_format (F.args_object_format_2 _ _) ?_))
  show wpAny _ _ (do let _shown ← typeNameOf (.str Str.empty s.toks); (do ret (← pyStrObj (.ref x)))) _ _ _
  refine wpAny_bind (wpAny_typeNameOf (T := "str") (typeIs_str _ _ _) (by decide) fun _ => ?_)
  refine wpAny_bind (pyStr_own hu X' I' hs hf (wpAny_mono h (fun r s₁ h₁ => ?_) fun _ _ e => e))
  obtain ⟨y, t, rfl, hq⟩ := h₁
  exact ⟨y, t, rfl, wpAny_pure ⟨_, rfl, wpAny_bind (wpAny_isInstance (T := "str") (b := true) rfl isSubtype_str_str (wpAny_pure hq))⟩⟩
end
section
variable {X : Cx} {W : WX} {k j : Nat} {ps : List Str} {R : Rl} {f C : Addr} {fd : FuncData} {μ μ2 : List M} {ns ns' : List Str} {fs fs' : List D} {b : Bool}
end
section
variable {X : Cx} {W : WX} {k j : Nat} {ps : List Str} {R : Rl} {f C : Addr} {fd : FuncData} {ρ : Env'} {μ μ1 μ2 : List M} {ns : List Str} {fs : List D} {y : Str} {e : Expr} {pos : Pos}
/-- {x}: an own instance, by __str__ -/
theorem ev_fmtOwn (g : Gd X W k) (oc : OwnC X.K C) (hfm : PySem.W.findIn X.K (.ref C) "__format__" = some (some (.builtin "object.__format__"))) (hm : Meth X.K C "__str__" f) (cl : Cal X.prog X.w X.K X.mg X.base j ps R f fd) (he : PE X e (tV X.K ρ μ (.obj C ns fs) μ1)) (hR : R [.obj C ns fs] μ1 (.ret (.str y) μ2)) (hj : j + 1 ≤ k := by decide) : PE X (.FormattedValue e (-1) none pos) (tV X.K ρ μ (.str y) μ2) := by
  refine ⟨fun pins s σ H Q I ⟨L, G, n, c⟩ => ?_⟩
  refine wpAny_FormattedValue_plain (thn (he.run pins s σ H (fun x H1 => ∃ L1 G1, Step L G H L1 G1 H1 ∧ Ok X.K L1 G1 H1 μ1 ∧ Rep X.K L1 G1 (.obj C ns fs) x) I ⟨L, G, n, fun v L1 G1 H1 s1 o1 r1 => ⟨L1, G1, s1, o1, r1⟩⟩) fun v s1 hv => ?_)
  obtain ⟨x, H1, I1, rx, L1, G1, s1', o1, r1⟩ := hv
  obtain ⟨a, dx, vs, rfl, q, _⟩ := rep_obj.mp r1
  cases rx
  obtain ⟨ox, od, J⟩ := inst_at I1 (o1.sub _ _ q)
  have hr := g.hr.mono hj
  refine fmt_own (by have := hr.in1.un; omega) I1.kIn J oc hfm hm.at_ hm.fn (wpAny_mono (cl.runV hr.in1 (g.gr.mono (by omega)) (I1.tok _).env0.in1 hR (I1.tok _) (xs := [.ref a]) (.cons rfl .nil) o1 (Reps.cons r1 Reps.nil) (Q := Q) (Comes.step c s1')) (fun r s' hr => ?_) fun _ _ y => y)
  obtain ⟨v, H', I', rv, ⟨_, _, z⟩, q'⟩ := hr
  rw [rep_str.mp z] at rv q'
  obtain ⟨t, rfl⟩ := rv
  exact ⟨y, t, rfl, .str y, H', I', ⟨t, rfl⟩, q'⟩
end
end PM
set_option Elab.async false
set_option linter.all false
set_option maxRecDepth 100000
namespace PM
open PySem L2
section
variable {X : Cx} {W : WX} {ρ : Env'} {μ : List M} {e e2 : Expr} {elts : List Expr} {kk : Nat} {tpos p pos : Pos} {QA : KA} {Z : KX}
end
end PM
set_option Elab.async false
set_option linter.all false
set_option maxRecDepth 100000
set_option maxHeartbeats 4000000
namespace PM
open PySem PySem.Spec PySem.Calls PyProof.Rows L2
section
variable {prog : Program} {w : World} {A : Around} {E : Value → Shared → Prop} {s : Shared} {K : PySem.W.Frag} {x C : Addr} {ox : Obj} {od : Option Obj}
open PySem.W in
theorem findObj_any {name : Str} {a g : Value} (hc : (clsIn K C).isSome = true) (ha : findIn K (.ref C) name = some (some a)) (hg : specialIn K a "__get__" = some (some g)) (ht : takesIn K a = some true) : findObj K C od name = some (.bind g a) := by
  obtain ⟨cd, hc⟩ := Option.isSome_iff_exists.mp hc
  unfold findObj
  rw [hc, Option.bind_some, ha, Option.bind_some]
  simp [hg, ht]
open PySem.W in
/-- e.__class__, e a caught error with fields -/
theorem class_errF (T : ExcC K C) {Q : Option Value → Shared → Prop} (X : K.In s.heap) (I : InstAt s.heap x ox C od) (h : Q (some (.ref C)) { s with toks := s.toks + 1 }) : wpAny (model prog w) A (getAttr? (.ref x) "__class__") Q E s := by
  have hfo : findObj K C od "__class__" = some (.bind (.builtin "getset_descriptor.__get__") (.builtin "object.__class__")) := findObj_any (by obtain ⟨cd, hc, _⟩ := any_some T.hd; rw [hc]; rfl) T.ha T.hn T.ht
  obtain ⟨hp, gs, dr, tk, os⟩ := s
  have t0 := I.type (M := model prog w)
  have t1 := looks_findIn (M := model prog w) X T.hg
  have t2 := looks_findIn (M := model prog w) X T.hk
  have t3 := looks_find (M := model prog w) X I hfo
  have ib : Looks (model prog w) hp (isInstance (.ref x) (.type "BaseException")) true := t0.andThen (looks_subIn X T.hs)
  have n2 : (Value.builtin "BaseException.__getattribute__" == Value.builtin "object.__getattribute__") = false := by decide +kernel
  have n1 : (onTheHeap (Value.ref C) && Value.builtin "BaseException.__getattribute__" == Value.builtin "object.__getattribute__") = false := by rw [n2]; rfl
  unfold getAttr? getAttrBy? getAttrBy
  refine wpAny_bind (wpAny_mkText (wpAny_bind (wpAny_attempt (wpAny_holding (wpAny_bind (t0.at (wpAny_bind (t1.at ?_))))))))
  show wpAny _ _ (if (onTheHeap (Value.ref C) && Value.builtin "BaseException.__getattribute__" == Value.builtin "object.__getattribute__") = true then _ else _) _ _ _
  rw [n1, if_neg Bool.false_ne_true]
  unfold getAttrByItsOwn hookBefore
  refine wpAny_bind ?_
  rw [if_pos (show onTheHeap (Value.ref C) = true from rfl)]
  refine t2.at (wpAny_bind (wpAny_attempt (wpAny_holding ?_)))
  unfold callGetattribute
  rw [show (false && onTheHeap (Value.builtin "BaseException.__getattribute__")) = false from rfl, if_neg Bool.false_ne_true]
  unfold boundAndCalled
  rw [PySem.F.excAttr_ValueError.ga.bind (.ref x)]
  refine wpAny_bind (wpAny_pure ?_)
  show wpAny _ _ (call (.builtin "BaseException.__getattribute__") [.ref x, .str "__class__" tk]) _ _ _
  refine wpAny_call (codeAny_call_builtin PySem.F.excAttr_ValueError.ga.plain PySem.F.entry_bexc_ga ?_)
  refine @check_slot (model prog w) _ _ ⟨hp, gs, dr, tk + 1, os⟩ "BaseException.__getattribute__" "BaseException" "__getattribute__" (.ref x) [.str "__class__" tk] [] _ (by decide +kernel) (by decide +kernel) ib (PySem.F.args_bexc_ga (.ref x) (.str "__class__" tk)) ?_
  unfold Builtin.«object.__getattribute__»
  refine wpAny_bind (wpAny_of_eq (a := ((Value.ref x : Value), [Value.str "__class__" tk])) (by first | rfl | (simp only [slotArgs]; rfl)) ?_)
  refine wpAny_bind (wpAny_pure (wpAny_bind (t0.at (wpAny_bind (t3.at ?_)))))
  show wpAny _ _ (holding [Value.builtin "object.__class__"] (call (.builtin "getset_descriptor.__get__") [.builtin "object.__class__", .ref x, .ref C]) >>= ret) _ _ _
  refine wpAny_bind (wpAny_holding (wpAny_call (class_get (s := ⟨hp, gs, dr, tk + 1, os⟩) (ox := ox) (od := od) X I T.hm (wpAny_pure ?_))))
  show wpAny _ _ (handedOut (.ref C)) _ _ _
  rw [handedOut_of (v := .ref C) rfl]
  first
    | exact wpAny_pure (wpAny_pure h)
    | exact wpAny_pure h
    | exact wpAny_pure (wpAny_bind (wpAny_pure (wpAny_pure h)))
open PySem.W in
theorem kitx_errF (T : ExcC K C) : KitX K (.ref x) (.ref C) (fun h => InstAt h x ox C od) where
  ty := fun _ _ _ I => I.type
  it := fun _ _ X _ => by
    obtain ⟨cdD, hcD, _⟩ := any_some T.hd
    unfold clsIn at hcD
    split at hcD
    · rename_i c' d' cd' sl' ho
      intro A' Q' E' s' k q
      unfold isType loadHead
      exact wpAny_bind (wpAny_loadPart (k _ _ (X _ _ ho)) (wpAny_pure q))
    · cases hcD
  ne := fun h tp dd its n sl X htp => by
    obtain ⟨cdD, hcD, _⟩ := any_some T.hd
    refine Bool.eq_false_iff.mpr fun q => ?_
    have e : C = tp := Value.ref.inj (beq_iff_eq.mp q)
    subst e
    unfold clsIn at hcD
    split at hcD
    · rename_i c' d' cd' sl' ho
      have z := (X _ _ ho).symm.trans htp
      cases z
    · cases hcD
  ca := fun X I k => class_errF T X I k
theorem kit_err {B : Addr} {b : Bool} (hi : PySem.W.isClsIn K B = true) (ty : PySem.W.typeIn K (.ref B) = some (.type "type")) (self : PySem.W.subIn K (.ref C) (.ref C) = some true) (hs : PySem.W.subIn K (.ref C) (.ref B) = some b) : PySem.W.kitOne K (.ref C) (.ref B) = some b := by
  unfold PySem.W.kitOne
  by_cases h : C = B
  · subst h
    rw [self] at hs
    cases hs
    rw [if_pos (by simp)]
  · rw [if_neg (by simpa using h)]
    have h2' : (PySem.W.clsIn K B).isSome = true := hi
    unfold PySem.W.kitCls
    simp only [h2', ty, hs, beq_self_eq_true, Bool.and_self, if_true]
end
/-- the class, or the tuple of classes, that a caught error is asked for -/
inductive AskD (K : PySem.W.Frag) (C : Addr) : D → Bool → Prop
  | ty {n : String} {b : Bool} (h : PySem.W.kitOne K (.ref C) (.type n) = some b) : AskD K C (.ty n) b
  | own {B : Addr} {b : Bool} (h : PySem.W.kitOne K (.ref C) (.ref B) = some b) : AskD K C (.ref B) b
inductive AskDs (K : PySem.W.Frag) (C : Addr) : List D → Bool → Prop
  | nil : AskDs K C [] false
  | cons {d : D} {ds : List D} {b c : Bool} (h : AskD K C d b) (t : AskDs K C ds c) : AskDs K C (d :: ds) (b || c)
theorem AskD.eq {K : PySem.W.Frag} {C : Addr} {L : List Addr} {G : Hp} {d : D} {b : Bool} {v : V} (h : AskD K C d b) (r : Rep K L G d v) : ∃ u, ClsV v u ∧ PySem.W.kitOne K (.ref C) u = some b := by
  cases h with
  | ty h => rw [rep_ty.mp r]; exact ⟨_, .ty _, h⟩
  | own h => rw [rep_ref.mp r]; exact ⟨_, .own _, h⟩
theorem AskDs.eq {K : PySem.W.Frag} {C : Addr} {L : List Addr} {G : Hp} : ∀ {ds : List D} {b : Bool} {vs : List V}, AskDs K C ds b → Reps K L G ds vs → ∃ us, Paired ClsV vs us ∧ PySem.W.kitAny K (.ref C) us = some b
  | _, _, _, .nil, r => by rw [r.inv_nil]; exact ⟨[], .nil, rfl⟩
  | _, _, _, .cons (b := b) (c := c) h t, r => by
    obtain ⟨v, rest, rfl, ra, rb⟩ := r.inv_cons
    obtain ⟨u, k1, e1⟩ := h.eq ra
    obtain ⟨us, k2, e2⟩ := AskDs.eq t rb
    refine ⟨u :: us, .cons k1 k2, kitAny_cons e1 (fun hb => ?_) (fun hb => ?_)⟩
    · rw [hb, Bool.false_or]; exact e2
    · rw [hb, Bool.true_or]
section
variable {X : Cx} {W : WX} {a C dd : Addr} {oe : Obj} {pn : List (Addr × Obj)} {μ : List M} {Q : KV} {Z : KX}
def rIsEF (K : PySem.W.Frag) (C a dd : Addr) : List V → Hp → VK → Prop := fun xs H Q => ∃ (c : V) (u : Value) (b : Bool) (fs : List (Str × V)), xs = [.ref a, c] ∧ ClsV c u ∧ H dd = some (.xd fs) ∧ PySem.W.kitOne K (.ref C) u = some b ∧ Q (.bl b) H
def rIsET (K : PySem.W.Frag) (C a dd : Addr) : List V → Hp → VK → Prop := fun xs H Q => ∃ (tp : Addr) (cs : List V) (us : List Value) (b : Bool) (fs : List (Str × V)), xs = [.ref a, .ref tp] ∧ SqT K H tp cs ∧ Paired ClsV cs us ∧ H dd = some (.xd fs) ∧ PySem.W.kitAny K (.ref C) us = some b ∧ Q (.bl b) H
theorem inst_errF {pins : List (Addr × Obj)} {σ : L2.St} {H : Hp} {s : Shared} {fs : List (Str × V)} (I : L2.Inv (X.suite a ((a, oe) :: pn)) pins σ H s) (hz : Zc (.ref C) (some dd) oe) (hf : ∃ vs, oe.data = .fields vs) (ea : H dd = some (.xd fs)) : ∃ od, PySem.W.InstAt s.heap a oe C (some od) := by
  obtain ⟨ha, _⟩ := I.pin (a, oe) (List.mem_append_left _ List.mem_cons_self)
  obtain ⟨vs, hd⟩ := hf
  have hx : ObjOk X.prog X.w H s.heap dd (.xd fs) := I.hok dd _ ea
  obtain ⟨mA, hns, hr⟩ := hx
  obtain ⟨od, ho, hl⟩ := lookIn_ns hns
  exact ⟨od, ha, hz.1, by unfold PySem.W.notCls; rw [hd] <;> rfl, by rw [hz.2]; exact ho⟩
theorem call_isEF (T : ExcC X.K C) (hz : Zc (.ref C) (some dd) oe) (hf : ∃ vs, oe.data = .fields vs) : CallR (X.suite a ((a, oe) :: pn)) (.builtin "isinstance") (rIsEF X.K C a dd) := by
  intro pins s σ H xs us Q I r h
  obtain ⟨c, u, b, fs, rfl, k, ea, e, q⟩ := h
  obtain ⟨u1, u2, rfl, r1, r2⟩ := vals2 r
  have e2 := k.eq r2
  subst e2
  cases (show u1 = Value.ref a from r1)
  obtain ⟨od, J⟩ := inst_errF I hz hf ea
  exact PySem.W.kia_one (kitx_errF T) I.kIn J e (fun z => nomatch z) fun tk => ⟨.bl b, H, I.tok tk, rfl, q⟩
theorem call_isET (T : ExcC X.K C) (hz : Zc (.ref C) (some dd) oe) (hf : ∃ vs, oe.data = .fields vs) : CallR (X.suite a ((a, oe) :: pn)) (.builtin "isinstance") (rIsET X.K C a dd) := by
  intro pins s σ H xs us Q I r h
  obtain ⟨tp, cs, ws, b, fs, rfl, hT, k, ea, e, q⟩ := h
  obtain ⟨u1, u2, rfl, r1, r2⟩ := vals2 r
  cases (show u2 = Value.ref tp from r2)
  cases (show u1 = Value.ref a from r1)
  obtain ⟨od, J⟩ := inst_errF I hz hf ea
  obtain ⟨its, rv, ⟨o, h1, h2, n, h3⟩, _⟩ := I.tuple hT
  have e3 := ClsV.all k rv
  obtain ⟨oc, od', dt, sl⟩ := o
  simp only at h2 h3
  subst h2 h3
  exact PySem.W.kia_tup (kitx_errF T) I.kIn J h1 (by rw [e3]; exact e) (fun z => nomatch z) fun tk => ⟨.bl b, H, I.tok tk, rfl, q⟩
theorem wF_isE {c : D} {b : Bool} {ns : List Str} {ds : List D} (T : ExcC X.K C) (hz : Zc (.ref C) (some dd) oe) (hf : ∃ vs, oe.data = .fields vs) (hk : AskD X.K C c b) (h : Q (.bl b) μ) : wF (X.suite a ((a, oe) :: pn)) W (fun us => call (.builtin "isinstance") us) [.exn a dd ns ds, c] μ Q Z :=
  .ofV (callO_of (call_isEF T hz hf) fun σ xs H Q L G o r co => by
    obtain ⟨v, w, rfl, r1, r2⟩ := r.two
    obtain ⟨vs, rfl, eg, _, rr⟩ := rep_exn.mp r1
    obtain ⟨u, k, e⟩ := hk.eq r2
    exact ⟨w, u, b, _, rfl, k, o.sub _ _ eg, e, CO.now (W := W) (σ := σ) co o (rep_bl.mpr rfl)⟩) h
theorem wF_isET {cs : List D} {b : Bool} {ns : List Str} {ds : List D} (T : ExcC X.K C) (hz : Zc (.ref C) (some dd) oe) (hf : ∃ vs, oe.data = .fields vs) (hk : AskDs X.K C cs b) (h : Q (.bl b) μ) : wF (X.suite a ((a, oe) :: pn)) W (fun us => call (.builtin "isinstance") us) [.exn a dd ns ds, .tup cs] μ Q Z :=
  .ofV (callO_of (call_isET T hz hf) fun σ xs H Q L G o r co => by
    obtain ⟨v, w, rfl, r1, r2⟩ := r.two
    obtain ⟨vs, rfl, eg, _, rr⟩ := rep_exn.mp r1
    obtain ⟨tp, us, rfl, hq, ru⟩ := rep_tup.mp r2
    obtain ⟨ws, k, e⟩ := hk.eq ru
    exact ⟨tp, us, ws, b, _, rfl, Same.sqT o.sub hq, k, o.sub _ _ eg, e, CO.now (W := W) (σ := σ) co o (rep_bl.mpr rfl)⟩) h
end
end PM
set_option Elab.async false
set_option linter.all false
set_option maxRecDepth 100000
set_option maxHeartbeats 4000000
namespace PM
open PySem L2
/-! ### repr(list of own instances) -/
section
variable {prog : Program} {w : World} {A : Around} {E : Value → Shared → Prop} {s : Shared} {K : PySem.W.Frag} {x C f : Addr} {ox : Obj} {od : Option Obj} {name : Str}
open PySem.W in
theorem ifBoundBy_K {last : Value → List Value → Sem Value} {Q : Option Value → Shared → Prop} (X : K.In s.heap) (I : InstAt s.heap x ox C od) (hs : findIn K (.ref C) name = some (some (.ref f))) (hf : isFn K (.ref f) = true)
    (h : wpAny (model prog w) A (last (.ref f) [.ref x]) (fun v => Q (some v)) E s) : wpAny (model prog w) A (callSpecialIfBoundBy? last (.ref x) name) Q E s := by
  simp only [callSpecialIfBoundBy?, bindSpecialIfBound?]
  refine wpAny_holding (wpAny_bind (wpAny_bind (wpAny_bind (I.type.here ((looks_findIn X hs).here ?_)))))
  refine wpAny_bind (wpAny_askSetting (wpAny_ite ?_))
  have fin : wpAny (model prog w) A (last (.ref f) [.ref x] >>= fun v => pure (some v)) Q E s := wpAny_bind (wpAny_mono h (fun v s' h' => wpAny_pure h') fun _ _ h' => h')
  split
  · exact wpAny_bind ((bind_fn X _ (beq_iff_eq.mp hf)).here (wpAny_pure (by exact fin)))
  · exact wpAny_tryCatch (wpAny_bind ((bind_fn X _ (beq_iff_eq.mp hf)).here (wpAny_pure (by exact fin))))
open PySem.W in
theorem reprUnder_K {b : Nat} {Q : Str → Shared → Prop} (hb : b ≤ sizeLine) (hu : A.units < cLine) (X : K.In s.heap) (I : InstAt s.heap x ox C od) (hs : findIn K (.ref C) "__repr__" = some (some (.ref f))) (hf : isFn K (.ref f) = true)
    (h : wpAny (model prog w) A (call (.ref f) [.ref x]) (fun v s' => ∃ y u, v = .str y u ∧ Q y s') E s) : wpAny (model prog w) A (pyReprUnder b (.ref x)) Q E s := by
  refine wpAny_pyReprUnder_ref hb ?_
  unfold pyReprObjUnder pyReprObjBy
  refine wpAny_bind (wpAny_cRoomFor hu ?_)
  refine wpAny_bind (wpAny_bind (I.type.here ((looks_findIn X hs).here ?_)))
  show wpAny _ _ (if (some (Value.ref f)).isNone = true then _ else _) _ _ _
  rw [if_neg (by simp)]
  refine wpAny_bind (ifBoundBy_K X I hs hf ?_)
  show wpAny _ _ (call (.ref f) [.ref x]) _ _ _
  refine wpAny_mono h (fun v s' hv => ?_) fun _ _ y => y
  obtain ⟨y, u, rfl, q⟩ := hv
  exact wpAny_bind (wpAny_isInstance (T := "str") (b := true) rfl isSubtype_str_str (wpAny_pure ⟨y, u, rfl, q⟩))
end
theorem loop_room {k : Nat} {A : Around} (r : Room (k + 1) A) (args : Args) : Room k (A.under (.builtin "list.__repr__.loop" args)) :=
  ⟨by first | exact r.hd | (simpa [Around.under] using r.hd), by
    have e : (A.under (.builtin "list.__repr__.loop" args)).depth ≤ A.depth + 1 := by
      first | exact Nat.le_succ _ | exact Nat.le_refl _ | simp [Around.under, Code.weight, Code.isCreation, Code.isGuard, Code.isCaller, Code.frames, Code.isFrame, guardIds]
    have := r.dp; omega, by have := r.un; rw [units_under_list_loop]; omega⟩
theorem loop_env0 {P : Program} {w : World} {K : PySem.W.Frag} {mg : Str → Option Value} {base : Heap} {A : Around} {outer : List Env} {s : Shared} {H : Hp} (e : Env0 P w K mg base A outer s H) (args : Args) :
    Env0 P w K mg base (A.under (.builtin "list.__repr__.loop" args)) outer s H := ⟨by first | exact e.frames | (simpa [Around.under, Code.envs, Code.isFrame, pushEnvs] using e.frames), e.mod, e.bs, e.bsz, e.funs, e.frf, e.hok, e.bare⟩
theorem loop_gr {k : Nat} {A : Around} (g : Gr k A) (hk : k < 60) (args : Args) : Gr k (A.under (.builtin "list.__repr__.loop" args)) := by
  obtain ⟨l, e, _⟩ := g
  exact ⟨_, guards_under_guard (isGuard_list_loop _) e, fun q => absurd q (by omega)⟩
theorem vals_strValues : ∀ {ts : List Str} {us : List Value}, Vals (ts.map V.str) us → ∃ l : List (Str × Tok), us = strValues l ∧ l.map (·.1) = ts
  | [], _, r => by cases r; exact ⟨[], rfl, rfl⟩
  | t :: ts, _, r => by
    cases r with
    | cons r1 r2 =>
      obtain ⟨tk, rfl⟩ := r1
      obtain ⟨l, rfl, e⟩ := vals_strValues r2
      exact ⟨(t, tk) :: l, rfl, by rw [List.map_cons, e]⟩
section
variable {X : Cx} {W : WX} {k j : Nat} {ps : List Str} {R : Rl} {f C : Addr} {fd : FuncData} {μ : List M} {ds : List D} {ts : List Str}
/-- what the items tell -/
def TellsAll (C : Addr) (R : Rl) (μ : List M) (ds : List D) (ts : List Str) : Prop := ts.length = ds.length ∧ ∀ (i : Nat) (d : D), ds[i]? = some d → ∃ t ns fs, ts[i]? = some t ∧ d = .obj C ns fs ∧ R [d] μ (.ret (.str t) μ)
theorem repr_loopO (hm : Meth X.K C "__repr__" f) (c : Cal X.prog X.w X.K X.mg X.base j ps R f fd) (hj : j < 60) {B : Around} (hr : Room (j + 1) B) (gr : Gr j B) (htl : TellsAll C R μ ds ts) {a P : Addr} {pins : List (Addr × Obj)} {σ : L2.St} {H : Hp} {L : List Addr} {G : Hp} {vs : List V} {Rr : Result → Shared → Prop}
    (he : ∀ {s H'}, L2.Inv X pins σ H' s → Env0 X.prog X.w X.K X.mg X.base B X.stack s H') (hq : SqL X.K G a vs) (rr : Reps X.K L G ds vs) (hPH : H P = none) (hsz : (listText ts).length ≤ sizeLine)
    (fin : ∀ s H' L' G' u, L2.Inv X pins σ H' s → Ok X.K L' G' H' μ → Step L G H L' G' H' → Rr (.ok (.ret (.str (listText ts) u))) s) :
    ∀ (n i : Nat) (s : Shared) (H' : Hp) (L' : List Addr) (G' : Hp), ds.length - i = n → i ≤ ds.length → L2.Inv X pins σ H' s → Ok X.K L' G' H' μ → Step L G H L' G' H' → G' P = none → P ∉ L' → H' P = some (.lst ((ts.take i).map V.str)) →
    codeAny (model X.prog X.w) B (.builtin "list.__repr__.loop" ⟨[.ref a, rawInt i, .ref P, rawInt ((piled (ts.take i) : Nat) : Int)], []⟩) Rr s := by
  have hX : (listText ts).length = (textFrom 0 "[" ts).length + 1 := by
    show (textFrom 0 "[" ts ++ "]").length = _
    rw [strLen_append]; rfl
  have hL := textFrom_len ts 0 "["
  have hsz1 : ts.length ≤ sizeLine := by
    have h1 := hL.1
    rw [if_neg (Nat.lt_irrefl 0)] at h1
    omega
  have hsz2 : ∀ t ∈ ts, t.length ≤ sizeLine := fun t ht => by
    have h2 := hL.2.1 t ht
    omega
  have hp3 := piled_le_listText ts
  have hlen : ts.length = ds.length := htl.1
  intro n
  induction n with
  | zero =>
    intro i s H' L' G' hk hi I ok st gP nP hP
    have hin : i = ds.length := by omega
    obtain ⟨its, rv, ⟨o, m, ho, hcl, hdn, hd⟩, _⟩ := I.list (Same.sqL (st.gs.trans ok.sub) hq)
    obtain ⟨its', m', rv', ho', _⟩ := I.lst hP
    obtain ⟨l, rfl, el⟩ := vals_strValues rv'
    have hil : its.length = ds.length := by rw [← rv.length, rr.length]
    refine codeAny_builtin F.entry_list_repr_loop ?_
    show wpAny _ _ (Builtin.«list.__repr__.loop» ⟨[.ref a, .int i 0, .ref P, .int ((piled (ts.take i) : Nat) : Int) 0], []⟩) _ _ s
    rw [repr_loop_tree]
    refine wpAny_bind (wpAny_listItems ho hd ?_)
    have hnone : its.toArray[(i : Int).toNat]? = none := by simp [hin, hil]
    simp only [hnone]
    unfold reprEnd
    refine wpAny_bind (wpAny_listItems ho' rfl ?_)
    show wpAny _ _ (forIn ((strValues l).zipIdx) _ _ >>= _) _ _ _
    rw [repr_fold]
    refine wpAny_bind (wpAny_pure ?_)
    have hall : l.map (·.1) = ts := by rw [el, hin, ← hlen, List.take_length]
    rw [hall]
    refine wpAny_bind (wpAny_mkStr (wpAny_pure ?_) hsz)
    exact fin _ H' L' G' _ (I.tok _) ok st
  | succ n ih =>
    intro i s H' L' G' hk hi I ok st gP nP hP
    have hlt : i < ds.length := by omega
    obtain ⟨its, rv, ⟨o, m, ho, hcl, hdn, hd⟩, _⟩ := I.list (Same.sqL (st.gs.trans ok.sub) hq)
    obtain ⟨t, ns, fs, ht, ed, hR⟩ := htl.2 i ds[i] (by simp [hlt])
    obtain ⟨v, ev, rvi⟩ := (rr.step st).get (show ds[i]? = some ds[i] by simp [hlt])
    rw [ed] at rvi hR
    obtain ⟨ai, dx, fvs, rfl, q, _⟩ := rep_obj.mp rvi
    have hil : its.length = ds.length := by rw [← rv.length, rr.length]
    have eit : its[i]? = some (.ref ai) := by
      have hli : i < its.length := by omega
      have := rv.get ev
      obtain ⟨u, eu, ru⟩ := this
      cases ru
      exact eu
    have hp1 := piled_take_succ ht
    have hp2 := piled_take_le ts (i + 1)
    obtain ⟨oi, odi, J⟩ := inst_at I (ok.sub _ _ q)
    refine codeAny_builtin F.entry_list_repr_loop ?_
    show wpAny _ _ (Builtin.«list.__repr__.loop» ⟨[.ref a, .int i 0, .ref P, .int ((piled (ts.take i) : Nat) : Int) 0], []⟩) _ _ s
    rw [repr_loop_tree]
    refine wpAny_bind (wpAny_listItems ho hd ?_)
    have hsome : its.toArray[(i : Int).toNat]? = some (.ref ai) := by simp [eit]
    simp only [hsome]
    rw [Int.toNat_natCast]
    refine wpAny_bind (wpAny_holding (reprUnder_K (by omega) (by rw [units_under_list_loop]; have := hr.un; omega) I.kIn J hm.at_ hm.fn (wpAny_mono (c.runV (loop_room hr _) (loop_gr gr hj _) (loop_env0 (he I) _) hR I (xs := [.ref ai]) (.cons rfl .nil) ok (Reps.cons rvi Reps.nil) (Q := fun v H2 => v = .str t ∧ ∃ L2 G2, Ok X.K L2 G2 H2 μ ∧ Step L' G' H' L2 G2 H2) (fun v L2 G2 H2 s2 o2 r2 => ⟨rep_str.mp r2, L2, G2, o2, s2⟩)) (fun r s' hr' => ?_) fun _ _ y => y)))
    obtain ⟨v', H2, I2, rv2, _, rfl, L2, G2, o2, s2⟩ := hr'
    obtain ⟨tk, rfl⟩ := rv2
    refine ⟨t, tk, rfl, ?_⟩
    refine wpAny_bind (wpAny_mkStr ?_ (hsz2 t (List.mem_of_getElem? ht)))
    refine wpAny_bind ?_
    show wpAny _ _ (updateSeq P _) _ _ _
    have hP2 : H2 P = some (.lst ((ts.take i).map V.str)) := s2.hs P _ hP nP
    have gP2 : G2 P = none := by
      cases e : G2 P with
      | none => rfl
      | some o =>
        rcases s2.gf P o e with z | z
        · rw [gP] at z; cases z
        · rw [hP] at z; cases z
    have nP2 : P ∉ L2 := fun z => by
      rcases s2.fr P z with z | z
      · exact nP z
      · rw [hP] at z; cases z
    obtain ⟨its2, m2, rv3, ho2, hz2⟩ := I2.lst hP2
    have hl2 : its2.length = (ts.take i).length := by rw [← rv3.length, List.length_map]
    have hl3 : (ts.take i).length ≤ i := by rw [List.length_take]; omega
    refine wpAny_updateSeq ho2 rfl (wpAny_pure ⟨F.quiet_list_repr_loop _, ?_⟩) (by simp only [List.size_toArray]; omega)
    have e1 : ((i : Int) + 1) = ((i + 1 : Nat) : Int) := by omega
    have e2 : piled (ts.take i) + (t.length + 2) = piled (ts.take (i + 1)) := by omega
    rw [e1, e2]
    have hll : (ts.take (i + 1)).length ≤ sizeLine := by rw [List.length_take]; omega
    have etk : (ts.take (i + 1)).map V.str = (ts.take i).map V.str ++ [V.str t] := by rw [List.take_add_one, ht]; simp
    refine ih (i + 1) _ (upd H2 P (.lst ((ts.take (i + 1)).map V.str))) L2 G2 (by omega) hlt ?_ (o2.poke nP2 gP2) ((st.trans s2).poke hPH) gP2 nP2 upd_same
    exact I2.lstUpd hP2 ho2 (its' := its2 ++ [Value.str t s'.toks]) (n' := m2 + 1) (by simp [Obj.mapSeq]) (by rw [etk]; exact rv3.append (.cons ⟨_, rfl⟩ .nil)) (by rw [List.length_map]; exact hll) (s'.toks + 1)
theorem cb_reprLO (g : Gd X W k) (hm : Meth X.K C "__repr__" f) (c : Cal X.prog X.w X.K X.mg X.base j ps R f fd) (htl : TellsAll C R μ ds ts) (hsz : (listText ts).length ≤ sizeLine) (hj : j < 60 ∧ j + 3 ≤ k ∧ 60 ≤ k := by decide) : CallO X W (fun us => call (.builtin "repr") us) [.lst ds] μ (.ret (.str (listText ts)) μ) := by
  cases ds with
  | nil =>
    have e : ts = [] := List.length_eq_zero_iff.mp htl.1
    subst e
    have := cb_repr (W := W) (μ := μ) g (da := .lst []) (p := .list []) rfl rfl (by decide +kernel) (by decide) hj.2.2
    rw [show (PyData.list []).shown = listText [] by decide +kernel] at this
    exact this
  | cons d0 ds0 =>
    intro pins s σ H xs us Q L G I rx ok r co
    obtain ⟨v, rfl, r1⟩ := r.one
    obtain ⟨u, rfl, ru⟩ := rx.one
    obtain ⟨a, vs, rfl, q, rr⟩ := rep_lst.mp r1
    cases ru
    have hq : SqL X.K G a vs := SqL.of q
    obtain ⟨its, rv, ⟨o, m, ho, hcl, hdn, hd⟩, _⟩ := I.list (SqL.of (ok.sub _ _ q))
    have hr := g.hr.mono hj.2.1
    have gr0 := g.gr.none hj.2.2
    obtain ⟨v1, vs1, rfl, _, _⟩ := rr.inv_cons
    cases rv with
    | @cons _ x _ l rv1 rv2 =>
    refine call_repr_slot (by have := hr.un; omega) ⟨o, ho, hcl⟩ F.slot_list_repr.toG ?_
    refine wpAny_call (codeAny_call_builtin F.slot_list_repr.plain F.entry_list_repr (F.slot_list_repr.check _ _ _ _ _ _ _ _ ⟨o, ho, hcl⟩ (F.args_list_repr_1 _) ?_))
    show wpAny _ _ (Builtin.listReprAt 0 ⟨[.ref a], []⟩) _ _ _
    refine wpAny_list_repr_head (g := []) gr0 (fun _ _ _ z => nomatch z) ho hd ?_
    refine wpAny_bind (m := newList []) (wpAny_newObj_type ?_)
    refine wpAny_pure ⟨F.quiet_list_repr_loop _, ?_⟩
    have hPH : H s.heap.objs.size = none := I.hok.fresh (Nat.le_refl _)
    obtain ⟨okP, stP⟩ := ok.newH (o := .lst []) hPH
    have IP : L2.Inv X pins σ (upd H s.heap.objs.size (.lst [])) { s with heap := s.heap.push { cls := .type "list", data := .seq #[] }, toks := s.toks } :=
      I.laid (fun b u e => Heap.get?_push_of_some _ e) (Nat.le_refl _) ⟨Nat.zero_le _, [], 0, .nil, Heap.get?_push_size _ rfl⟩
    refine repr_loopO (P := s.heap.objs.size) (pins := pins) (σ := σ) (H := H) (L := L) (G := G) (vs := v1 :: vs1) hm c hj.1 (hr.mono (by omega)).in1 ⟨[], gr0, fun _ => rfl⟩ htl (fun I' => I'.env0.in1) hq rr hPH hsz (fun s' H' L' G' u I' ok' st' => ?_) _ 0 _ _ L G rfl (Nat.zero_le _) IP okP stP (Same.free ok.sub hPH) (fun z => mem_ne ok.liv hPH _ z rfl) (by rw [List.take_zero]; exact upd_same)
    exact ⟨_, _, rfl, .str (listText ts), H', I', ⟨u, rfl⟩, co (.str (listText ts)) L' G' H' st' ok' (rep_str.mpr rfl)⟩
end
end PM
set_option Elab.async false
set_option linter.all false
set_option maxRecDepth 100000
set_option maxHeartbeats 4000000
namespace PM
open PySem
open L2 hiding Inv
/-! ### enumerate(tuple) -/
theorem typeCall_enum1 (a : Value) : checkTypeCall "enumerate" ⟨[a], []⟩ = pure () := by kernel_rfl
theorem newCall_enum1 (a : Value) : checkBuiltinCall "enumerate.__new__" ⟨[.type "enumerate", a], []⟩ = pure () := by kernel_rfl
set_option maxHeartbeats 1000000 in
theorem meets_enum1 {v : Value} {o : Obj} {H : Heap → Prop} (B : Begins v o H) :
    Meets (Builtin.«enumerate.__new__» ⟨[.type "enumerate", v], []⟩) (fun _ R s => H s.heap ∧
      R (.ok (.ret (.ref (s.heap.push o).objs.size))) { s with heap := (s.heap.push o).push { cls := .type "enumerate", data := .fields #[.none, .bool false, .ref s.heap.objs.size, rawInt 0, .none, .none] } }) :=
  .of_wp fun prog w A R s h => by
    obtain ⟨hp, g, d, tk, os⟩ := s; obtain ⟨h1, h⟩ := h
    have hsub := sub_enumerate
    have q1 : ∀ {A' : Around} {E : Value → Shared → Prop} {Q : Value → Shared → Prop}, Q (.ref hp.objs.size) ⟨hp.push o, g, d, tk, os⟩ → wpAny (model prog w) A' (pyIter v) Q E ⟨hp, g, d, tk, os⟩ :=
      fun q => B.iter prog w _ _ ⟨hp, g, d, tk, os⟩ _ h1 q
    wp_walk using q1
    refine wpAny_stack_any fun st => wpAny_pure ?_
    split
    · rename_i c _ _ _ _ _
      cases (c == Value.type "enumerate")
      · wp_walk using q1
        exact ⟨_, rfl, h⟩
      · wp_walk using q1
        exact ⟨_, rfl, h⟩
    · wp_walk using q1
      exact ⟨_, rfl, h⟩
theorem enum_begins1 {prog : Program} {w : World} {A : Around} {E : Value → Shared → Prop} {s : Shared} {v : Value} {o : Obj} {H : Heap → Prop} {Q : Value → Shared → Prop} (B : Begins v o H) (h1 : H s.heap)
    (h : ∀ h', IsEnum h' (s.heap.objs.size + 1) s.heap.objs.size 0 .none → h'.get? s.heap.objs.size = some o → h'.objs.size = s.heap.objs.size + 2 →
      (∀ b o, s.heap.get? b = some o → h'.get? b = some o) → Q (.ref (s.heap.objs.size + 1)) { s with heap := h' }) :
    wpAny (model prog w) A (call (.type "enumerate") [v]) Q E s := by
  refine callType_new F.called_enumerate (by decide) (typeCall_enum1 _) (newCall_enum1 _) (fun obj => F.args_object_init_2 obj _) F.entry_enumerate_new
    (meets_enum1 B) ⟨h1, ?_⟩
  have hz : (s.heap.push o).objs.size = s.heap.objs.size + 1 := Heap.size_push ..
  show _ ∧ _
  rw [hz]
  have he : IsEnum ((s.heap.push o).push { cls := .type "enumerate", data := .fields #[.none, .bool false, .ref s.heap.objs.size, rawInt 0, .none, .none] }) (s.heap.objs.size + 1) s.heap.objs.size 0 .none := by
    have := Heap.get?_push_size (s.heap.push o) (o := { cls := .type "enumerate", data := .fields #[.none, .bool false, .ref s.heap.objs.size, rawInt 0, .none, .none] }) rfl
    rw [hz] at this; exact this
  refine ⟨⟨_, he, rfl⟩, h _ he (Heap.get?_push_of_some _ (Heap.get?_push_size _ B.free)) (by rw [Heap.size_push, hz]) fun b o x => Heap.get?_push_of_some _ (Heap.get?_push_of_some _ x)⟩
theorem next_enum_endT {prog : Program} {w : World} {A : Around} {E : Value → Shared → Prop} {s : Shared} {e it t : Addr} {items : Array Value} {n : Nat} {i : Int} {old : Value} {Q : Option Value → Shared → Prop} (hh : A.handled = none) (he : IsEnum s.heap e it i old) (hit : s.heap.IsTupleIter it t n) (ht : s.heap.IsTuple t items) (hx : items[n]? = none)
    (hQ : ∀ h', Heap.ExtBut it s.heap h' → Q none { s with heap := h' }) : wpAny (model prog w) A (pyNext (.ref e)) Q E s := by
  have hT : s.TypeIs (.ref e) "enumerate" := ⟨_, he, rfl⟩
  unfold pyNext
  refine wpAny_bind (wpAny_attempt (wpAny_callSpecial?_slot (name := Str.ofString "__next__") hT F.slot_enumerate_next
    (wpAny_call_entry F.slot_enumerate_next hT F.entry_enumerate_next ?_ (F.args_enumerate_next_1 _))))
  show wpAny _ _ (field (.ref e) 2 >>= _) _ _ _
  refine wpAny_bind (wpAny_field he rfl (x := .ref it) rfl ?_)
  refine wpAny_bind (wpAny_nextOf_tuple_end (A := A.in1) hh hit ht hx fun h' x he' hx' => ?_)
  obtain ⟨o, ho, hc⟩ := hx'
  refine wpAny_bind (wpAny_isInstance (T := "StopIteration") (b := true) ⟨o, ho, hc⟩ isSubtype_stop ?_)
  exact wpAny_pure (hQ _ he')
def IteT (K : PySem.W.Frag) (a : Addr) : It :=
  ⟨fun i H => ∃ (xs : List V) (x : V), SqT K H a xs ∧ xs[i]? = some x, fun i H v H' => ∃ T x, v = .ref T ∧ H T = none ∧ H' = upd H T (.tup [.int (i : Nat), x]) ∧ ∀ xs, SqT K H a xs → xs[i]? = some x, fun i H => ∃ xs : List V, SqT K H a xs ∧ xs.length ≤ i⟩
theorem turn_enumT {P : Program} {w : World} {K : PySem.W.Frag} {elts : List Expr} {kk : Nat} {tpos : Pos} (a e it : Addr) :
    Turn P w K (.Tuple elts kk tpos) (IteT K a) [e, it] e (fun i h => (∃ old, IsEnum h e it ((i : Nat) : Int) old) ∧ h.IsTupleIter it a i ∧ e ≠ it ∧ a ≠ it ∧ a ≠ e) where
  mem := by simp
  obj := fun i h st b hb => by
    obtain ⟨⟨old, he⟩, ⟨o, ho, hc, hd⟩, _⟩ := st
    have e' : b = e ∨ b = it := by simpa using hb
    rcases e' with z | z
    · rw [z]; exact ⟨_, he, fun v q => nomatch q⟩
    · rw [z]; exact ⟨o, ho, fun v q => by rw [hd] at q; cases q⟩
  keep := fun i h h' st k => let ⟨⟨old, he⟩, hi, hne⟩ := st; ⟨⟨old, k e (by simp) _ he⟩, hi.at fun o q => k it (by simp) o q, hne⟩
  item := by
    intro X hP hw hK hc i pins s σ H E I hf st hg
    subst hP hw hK
    obtain ⟨⟨old, he⟩, hit, hne, hai, hae⟩ := st
    obtain ⟨xs, x, hq, hx⟩ := hg
    obtain ⟨its, rv, p, hz⟩ := I.tuple hq
    obtain ⟨u, hu, ru⟩ := rv.get hx
    have hel : e < s.heap.objs.size := Heap.lt_size he
    have hil : it < s.heap.objs.size := by obtain ⟨_, q, _⟩ := hit; exact Heap.lt_size q
    have hlt : i < its.toArray.size := by
      have := (List.getElem?_eq_some_iff.mp hu).1
      simpa using this
    refine wpAny_pyNext_enum_itemD (Draws.tuple (A := X.A.in1) (I.ok.hd hc) it a hai its.toArray) he ⟨hit, p⟩ hlt hne (by simp [hne, Ne.symm hae]) fun x' h' tk hPx ho hst hT hsz hk => ?_
    have ex : x' = u := by
      have h2 : its.toArray[i]? = some u := by simpa using hu
      rw [h2] at hPx
      exact (Option.some.inj hPx).symm
    subst ex
    refine ⟨_, rfl, wpAny_letOwnedTupleGo_enum (s := { s with heap := h', toks := tk + 1 }) ho fun h'' he' sb => ?_⟩
    have hT2 : h''.get? s.heap.objs.size = some { cls := .type "tuple", data := .seq #[.int i tk, x'] } := (sb.2 _ (Nat.ne_of_gt hel)).trans hT
    have new : ObjOk X.prog X.w (upd H s.heap.objs.size (.tup [.int (i : Nat), x])) h'' s.heap.objs.size (.tup [.int (i : Nat), x]) :=
      ⟨by show 2 ≤ sizeLine; decide, [.int i tk, x'], .cons ⟨_, rfl⟩ (.cons ru .nil), ⟨_, hT2, rfl, _, rfl⟩⟩
    have I1 : L2.Inv X pins σ (upd H s.heap.objs.size (.tup [.int (i : Nat), x])) { s with heap := h'', toks := tk + 1 } :=
      I.turnedNew (ch := [e, it]) (fun b ob hb q => (sb.2 b (fun z => hb (by simp [z]))).trans (hk b ob (fun z => hb (by simp [z])) (fun z => hb (by simp [z])) q)) hf (Nat.le_refl _) new
    refine ⟨.ref s.heap.objs.size, _, I1, rfl, ⟨_, x, rfl, I.hok.fresh (Nat.le_refl _), rfl, fun ys hy => by rw [I.tuple_inj hy hq]; exact hx⟩, ⟨⟨x', ?_⟩, hst.1.at fun o q => (sb.2 it (Ne.symm hne)).trans q, hne, hai, hae⟩, fun b hb => ?_⟩
    · have e1 : ((i + 1 : Nat) : Int) = (i : Int) + 1 := by omega
      rw [e1]; exact he'
    · have hb' : b < s.heap.objs.size := by
        have e' : b = e ∨ b = it := by simpa using hb
        rcases e' with z | z
        · rw [z]; exact hel
        · rw [z]; exact hil
      rw [upd_ne (Nat.ne_of_lt hb')]
      exact (hf b hb).1
  done := by
    intro X hP hw hK hc i pins s σ H E I hf st hg
    subst hP hw hK
    obtain ⟨⟨old, he⟩, hit, hne, hai, hae⟩ := st
    obtain ⟨xs, hq, hx⟩ := hg
    obtain ⟨its, rv, p, hz⟩ := I.tuple hq
    obtain ⟨f0, f1, f2, f3, f4, f5⟩ := hf it (by simp)
    have hl := rv.length
    exact next_enum_endT (I.ok.hd hc) he hit p (by simp; omega) fun h' eb => ⟨rfl, I.turned (t' := s.toks) (fun b o hb q => eb b o hb q) f0 f1 f3 f4 f5⟩
  self := fun A i s Q E st h => let ⟨⟨_, he⟩, _⟩ := st; wpAny_pyIter_enum he h
def iEnumT (K : PySem.W.Frag) (ta : TA) : TI := fun σ H R => ta σ H fun vs H1 => ∃ a xs, vs = [.ref a] ∧ SqT K H1 a xs ∧ R (IteT K a) H1
theorem pi_enumT {X : Cx} {e : Expr} {ta : TA} {p pos tpos : Pos} {elts : List Expr} {kk : Nat} (hg : Gl X "enumerate") (hm : X.mg "enumerate" = none) (ha : PA X [e] ta) (hs : starEach [e] X.env = [(false, eval e X.env)] := by rfl) :
    PI X (.Tuple elts kk tpos) (.Call (.Name "enumerate" p) [e] [] pos) (iEnumT X.K ta) := by
  refine ⟨fun pins s σ H R I h => ?_⟩
  refine PyProof.Rows.Call_ (ld_blt I hg hm PyProof.Rows.boot_enumerate (PyProof.Rows.callWith_type1 (thn (ha.run pos pins s σ H _ I h) fun us s1 ⟨vs, H1, I1, r1, q1⟩ => ?_) hs rfl))
  obtain ⟨a, xs, ex, hq, q⟩ := q1
  subst ex
  cases r1 with
  | cons r rr =>
    cases rr
    cases r
    obtain ⟨its, rv, p', hz⟩ := I1.tuple hq
    refine enum_begins1 (begins_tuple a its.toArray) p' fun h' he hit hsz hk => wpAny_pyIter_enum he ?_
    have I2 : L2.Inv X pins σ H1 { s1 with heap := h' } := I1.kept (t' := s1.toks) hk
    have hal : a < s1.heap.objs.size := by obtain ⟨o, ho, _⟩ := p'; exact Heap.lt_size ho
    refine ⟨s1.heap.objs.size + 1, [s1.heap.objs.size + 1, s1.heap.objs.size], _, _, H1, rfl, I2, turn_enumT a (s1.heap.objs.size + 1) s1.heap.objs.size, ⟨⟨.none, he⟩, ⟨_, hit, rfl, rfl⟩, Nat.succ_ne_self _, Nat.ne_of_lt hal, Nat.ne_of_lt (Nat.lt_succ_of_lt hal)⟩, fun b hb => ?_, q⟩
    have e' : b = s1.heap.objs.size + 1 ∨ b = s1.heap.objs.size := by simpa using hb
    have hle : s1.heap.objs.size ≤ b := by
      rcases e' with z | z
      · rw [z]; exact Nat.le_add_right _ _
      · rw [z]; exact Nat.le_refl _
    exact I1.fpOk hle (I1.hok.fresh hle)
/-! as rules -/
def enumD (ds : List D) : List D := ds.mapIdx fun i d => .tup [.int (i : Nat), d]
theorem jok_enumT {K : PySem.W.Frag} {L : List Addr} {G : Hp} {a : Addr} {vs : List V} {ds : List D} (q : SqT K G a vs) (r : Reps K L G ds vs) : JOk K (IteT K a) L G (enumD ds) where
  go := fun L2 G2 H2 μ2 i d pr sg o e => by
    have q2 : SqT K H2 a vs := Same.sqT (sg.trans o.sub) q
    unfold enumD at e
    rw [List.getElem?_mapIdx] at e
    obtain ⟨d1, e1, rfl⟩ := Option.map_eq_some_iff.mp e
    obtain ⟨v, ev, rv⟩ := r.get e1
    exact ⟨⟨vs, v, q2, ev⟩, fun x H3 ⟨T, x1, ex, hT, e3, y⟩ => by
      subst e3
      subst ex
      have h1 := y vs q2
      rw [ev] at h1
      cases h1
      obtain ⟨o', s'⟩ := o.new (o := .tup [.int (i : Nat), v]) hT
      exact ⟨_, s', o', rep_tup.mpr ⟨T, [.int (i : Nat), v], rfl, SqT.of upd_same, Reps.cons (rep_int.mpr rfl) (Reps.cons ((rv.mono pr sg).step s') Reps.nil)⟩⟩⟩
  stop := fun L2 G2 H2 μ2 pr sg o => ⟨vs, Same.sqT (sg.trans o.sub) q, by
    rw [r.length]
    unfold enumD
    rw [List.length_mapIdx]
    exact Nat.le_refl _⟩
theorem jok_enum {K : PySem.W.Frag} {L : List Addr} {G : Hp} {a : Addr} {vs : List V} {ds : List D} (q : SqL K G a vs) (r : Reps K L G ds vs) : JOk K (Ite K a) L G (enumD ds) where
  go := fun L2 G2 H2 μ2 i d pr sg o e => by
    have q2 : SqL K H2 a vs := Same.sqL (sg.trans o.sub) q
    unfold enumD at e
    rw [List.getElem?_mapIdx] at e
    obtain ⟨d1, e1, rfl⟩ := Option.map_eq_some_iff.mp e
    obtain ⟨v, ev, rv⟩ := r.get e1
    exact ⟨⟨vs, v, q2, ev⟩, fun x H3 ⟨T, x1, ex, hT, e3, y⟩ => by
      subst e3
      subst ex
      have h1 := y vs q2
      rw [ev] at h1
      cases h1
      obtain ⟨o', s'⟩ := o.new (o := .tup [.int (i : Nat), v]) hT
      exact ⟨_, s', o', rep_tup.mpr ⟨T, [.int (i : Nat), v], rfl, SqT.of upd_same, Reps.cons (rep_int.mpr rfl) (Reps.cons ((rv.mono pr sg).step s') Reps.nil)⟩⟩⟩
  stop := fun L2 G2 H2 μ2 pr sg o => ⟨vs, Same.sqL (sg.trans o.sub) q, by
    rw [r.length]
    unfold enumD
    rw [List.length_mapIdx]
    exact Nat.le_refl _⟩
section
variable {X : Cx} {W : WX} {ρ : Env'} {μ : List M} {e : Expr} {elts : List Expr} {kk : Nat} {tpos p pos : Pos} {QA : KA} {Z : KX}
/-- for .., .. in enumerate(tuple) -/
theorem wI_enumT (hm : X.mg "enumerate" = none) (h : wA X W ρ μ [e] (fun ds μ1 => ∃ xs, ds = [.tup xs] ∧ QA (enumD xs) μ1) Z) (hg : Gl X "enumerate" := by rfl)
    (hs : starEach [e] X.env = [(false, eval e X.env)] := by rfl) : wI X W ρ μ (.Tuple elts kk tpos) (.Call (.Name "enumerate" p) [e] [] pos) QA Z :=
  ⟨pi_of (pi_enumT hg hm h.run hs) fun σ H R ⟨L, G, n, v, x⟩ => ⟨L, G, n, fun ds μ1 ⟨xs, ed, q⟩ us L1 G1 H1 s1 o1 r1 => by
    subst ed
    obtain ⟨u1, rfl, ra⟩ := r1.one
    obtain ⟨a, vs, rfl, hq, rr⟩ := rep_tup.mp ra
    exact ⟨a, vs, rfl, Same.sqT o1.sub hq, v _ μ1 q _ L1 G1 H1 s1 o1 (jok_enumT hq rr)⟩, x⟩⟩
/-- for .., .. in enumerate(list) -/
theorem wI_enum (hm : X.mg "enumerate" = none) (h : wA X W ρ μ [e] (fun ds μ1 => ∃ xs, ds = [.lst xs] ∧ QA (enumD xs) μ1) Z) (hg : Gl X "enumerate" := by rfl)
    (hs : starEach [e] X.env = [(false, eval e X.env)] := by rfl) : wI X W ρ μ (.Tuple elts kk tpos) (.Call (.Name "enumerate" p) [e] [] pos) QA Z :=
  ⟨pi_of (pi_enum hg hm h.run hs) fun σ H R ⟨L, G, n, v, x⟩ => ⟨L, G, n, fun ds μ1 ⟨xs, ed, q⟩ us L1 G1 H1 s1 o1 r1 => by
    subst ed
    obtain ⟨u1, rfl, ra⟩ := r1.one
    obtain ⟨a, vs, rfl, hq, rr⟩ := rep_lst.mp ra
    exact ⟨a, vs, rfl, SqL.of (o1.sub _ _ hq), v _ μ1 q _ L1 G1 H1 s1 o1 (jok_enum (SqL.of hq) rr)⟩, x⟩⟩
end
end PM
set_option Elab.async false
set_option linter.all false
set_option maxRecDepth 100000
set_option maxHeartbeats 4000000
namespace PM
open PySem L2
/-! ### lists made, emptied; len and subscripts of own instances -/
/-- a list or a tuple, a tree or in the store -/
abbrev Sqd (μ : List M) (d : D) (ds : List D) : Prop := d = .lst ds ∨ d = .tup ds ∨ ∃ n : Nat, d = .loc n ∧ μ[n]? = some (.lst ds)
section
variable {X : Cx} {W : WX} {k : Nat} {ρ : Env'} {μ : List M} {o e a b : Expr} {d : D} {ds : List D} {apos pos : Pos} {Q : KV} {Z : KX} {n : Nat}
theorem Sqd.at_ {K : PySem.W.Frag} {L : List Addr} {G H : Hp} {v : V} (c : Sqd μ d ds) (ok : Ok K L G H μ) (r : Rep K L G d v) : ∃ p vs, v = .ref p ∧ (SqL K H p vs ∨ SqT K H p vs) ∧ Reps K L G ds vs := by
  rcases c with rfl | rfl | ⟨n, rfl, hn⟩
  · obtain ⟨p, vs, e, q, rr⟩ := rep_lst.mp r
    exact ⟨p, vs, e, .inl (SqL.of (ok.sub _ _ q)), rr⟩
  · obtain ⟨p, vs, e, q, rr⟩ := rep_tup.mp r
    exact ⟨p, vs, e, .inr (Same.sqT ok.sub q), rr⟩
  · obtain ⟨p, ea, e⟩ := rep_loc.mp r
    obtain ⟨vs, eh, rr⟩ := ok.at_ n p _ ea hn
    exact ⟨p, vs, e, .inl (SqL.of eh), rr⟩
/-- list(..), a tree -/
theorem wF_list (c : Sqd μ d ds) (h : Q (.lst ds) μ) : wF X W (fun us => call (.type "list") us) [d] μ Q Z :=
  .ofV (callO_of call_list_of fun σ xs H Q L G o r co => by
    obtain ⟨v, rfl, r1⟩ := r.one
    obtain ⟨p, vs, rfl, hq, rr⟩ := c.at_ o r1
    refine ⟨p, vs, rfl, hq, fun l hl => ?_⟩
    obtain ⟨o', s'⟩ := o.new (o := .lst vs) hl
    exact co _ L _ _ s' o' (rep_lst.mpr ⟨l, vs, rfl, upd_same, rr.step s'⟩)) h
/-- list(..), in the store -/
theorem wF_listM (c : Sqd μ d ds) (h : Q (.loc μ.length) (μ ++ [.lst ds])) : wF X W (fun us => call (.type "list") us) [d] μ Q Z :=
  .ofV (callO_of call_list_of fun σ xs H Q L G o r co => by
    obtain ⟨v, rfl, r1⟩ := r.one
    obtain ⟨p, vs, rfl, hq, rr⟩ := c.at_ o r1
    refine ⟨p, vs, rfl, hq, fun l hl => ?_⟩
    obtain ⟨o', s'⟩ := o.alloc (o := .lst vs) (m := .lst ds) hl ⟨vs, upd_same, rr.mono .app (.refl _)⟩
    exact co _ _ _ _ s' o' (rep_loc.mpr ⟨l, by rw [← o.len]; exact last_get L l, rfl⟩)) h
/-- x.clear() -/
theorem wE_clear (h : wE X W ρ μ o (fun d0 μ1 => ∃ n : Nat, d0 = .loc n ∧ (∃ ds', μ1[n]? = some (.lst ds')) ∧ Q .non (μ1.set n (.lst []))) Z)
    (hbase : attributeBase o "clear" X.env (eval o X.env) = eval o X.env := by rfl) (hline : (apos.endLine == pos.line) = true := by rfl) :
    wE X W ρ μ (.Call (.Attribute o "clear" apos) [] [] pos) Q Z := by
  refine ⟨pe_of (pe_bm0 PySem.F.plainAttrs_list PySem.F.slot_list_clear PySem.F.type_list_clear mt_clear h.run hbase hline) fun σ H R ⟨L, G, nw, v, x⟩ => ⟨L, G, nw, fun d0 μ1 ⟨n, ed, ⟨ds', hn1⟩, q⟩ u L1 G1 H1 s1 o1 r1 => ?_, x⟩⟩
  subst ed
  obtain ⟨p, ea, eu⟩ := rep_loc.mp r1
  obtain ⟨vs1, eh1, _⟩ := o1.at_ n p _ ea hn1
  obtain ⟨o3, s3⟩ := o1.write (o := .lst []) (m := .lst []) ea ⟨_, upd_same, Reps.nil⟩
  exact ⟨by rw [eu]; exact .inl ⟨rfl, _, SqL.of eh1⟩, p, vs1, eu, rfl, eh1, v _ _ q _ L1 G1 _ (s1.trans s3) o3 (rep_non.mpr rfl)⟩
/-- list * int -/
theorem wB_rep {i : Int} (hi : -(2 ^ 63) ≤ i ∧ i < 2 ^ 63) (hl : ds.length * i.toNat ≤ sizeLine) (h : Q (.lst (List.replicate i.toNat ds).flatten) μ) : wB X W (binaryOp .Mult) (.lst ds) (.int i) μ Q Z :=
  .ofV (opO_of op_rep fun σ u v H Q L G o r1 r2 c => by
    obtain ⟨a, vs, rfl, q1, s1⟩ := rep_lst.mp r1
    refine ⟨a, i, vs, rfl, rep_int.mp r2, o.sub _ _ q1, hi.1, hi.2, by rw [s1.length]; exact hl, fun p hp => ?_⟩
    obtain ⟨o', s'⟩ := o.new (o := .lst (List.replicate i.toNat vs).flatten) hp
    refine c _ L _ _ s' o' (rep_lst.mpr ⟨p, _, rfl, upd_same, ?_⟩)
    have rp : ∀ m : Nat, Reps X.K L (upd G p (.lst (List.replicate i.toNat vs).flatten)) (List.replicate m ds).flatten (List.replicate m vs).flatten := fun m => by
      induction m with
      | zero => exact Reps.nil
      | succ m ih => rw [List.replicate_succ, List.replicate_succ, List.flatten_cons, List.flatten_cons]; exact (s1.step s').append ih
    exact rp _) h
/-- isinstance of a list of the store -/
theorem wF_isLoc {c : D} {u : Value} {bb : Bool} (hn : μ[n]? = some (.lst ds)) (kk : ClD c u) (hk : PySem.W.kitOne X.K (.type "list") u = some bb) (h : Q (.bl bb) μ) : wF X W (fun us => call (.builtin "isinstance") us) [.loc n, c] μ Q Z :=
  .ofV (callO_of call_isi fun σ xs H Q L G o r co => by
    obtain ⟨v, w, rfl, r1, r2⟩ := r.two
    obtain ⟨p, ea, rfl⟩ := rep_loc.mp r1
    obtain ⟨vs, eh, rr⟩ := o.at_ n p _ ea hn
    cases kk with
    | ty n => exact ⟨_, .ty n, _, _, bb, by rw [rep_ty.mp r2], .ty n, .base (.lst eh), hk, CO.now (W := W) (σ := σ) co o (rep_bl.mpr rfl)⟩
    | own C => exact ⟨_, .ref C, _, _, bb, by rw [rep_ref.mp r2], .own C, .base (.lst eh), hk, CO.now (W := W) (σ := σ) co o (rep_bl.mpr rfl)⟩) h
end
section
variable {X : Cx} {W : WX} {k j : Nat} {ps : List Str} {R : Rl} {f C : Addr} {fd : FuncData} {μ μ2 : List M} {ns : List Str} {fs : List D} {i : Int}
/-- len(own) -/
theorem cb_lenOwn (g : Gd X W k) (hm : Meth X.K C "__len__" f) (c : Cal X.prog X.w X.K X.mg X.base j ps R f fd) (hR : R [.obj C ns fs] μ (.ret (.int i) μ2)) (hi : 0 ≤ i ∧ i < 2 ^ 63) (hj : j + 1 ≤ k := by decide) : CallO X W (fun us => call (.builtin "len") us) [.obj C ns fs] μ (.ret (.int i) μ2) := by
  intro pins s σ H xs us Q L G I rx ok r co
  obtain ⟨v, rfl, r1⟩ := r.one
  obtain ⟨u, rfl, ru⟩ := rx.one
  obtain ⟨a, dx, vs, rfl, q, _⟩ := rep_obj.mp r1
  cases ru
  obtain ⟨ox, od, J⟩ := inst_at I (ok.sub _ _ q)
  have hr := g.hr.mono hj
  obtain ⟨m, fr⟩ := I.fr
  refine PySem.W.len_K fr I.mod.kin J hm.at_ hm.fn (wpAny_mono (c.runV hr.in1 (g.gr.mono (by omega)) I.env0.in1 hR I (xs := [.ref a]) (.cons rfl .nil) ok (Reps.cons r1 Reps.nil) co) (fun r s' hr => ?_) fun _ _ y => y)
  obtain ⟨v, H', I', rv, ⟨_, _, z⟩, q'⟩ := hr
  rw [rep_int.mp z] at rv q'
  obtain ⟨t, rfl⟩ := rv
  exact ⟨hi, .int i, H', I'.tok _, ⟨_, rfl⟩, q'⟩
end
section
variable {X : Cx} {W : WX} {k : Nat} {ρ : Env'} {μ : List M} {a b : Expr} {pos : Pos} {Q : KV} {Z : KX} {C : Addr}
/-- a call from within a builtin -/
theorem run_fnB {B : Around} {j : Nat} {f : Addr} {fd : FuncData} {ps : List Str} {pins : List (Addr × Obj)} {σ : L2.St} {H : Hp} {s : Shared} {Q : VK} {us us' : List Value} {kw : List (Str × Value)} {vs : List V} {sp : Sp} {E : XK} (F : FnG X.prog X.w X.K X.mg X.base j f fd ps sp) (hr : Room j B) (gr : Gr j B) (e0 : Env0 X.prog X.w X.K X.mg X.base B X.stack s H) (hb : BindsTo s fd ⟨us', kw⟩ (ps.zip us)) (hx : PassesAt (L2.CX X.prog X.w) X σ E)
    (I : L2.Inv X pins σ H s) (r : Vals vs us) (h : sp vs H Q E) : wpAny (model X.prog X.w) B (call (.ref f) us' kw) (EP X pins σ Q) X.xe s := by
  refine wpAny_call (codeAny_mono (F.run B X.stack s H ⟨us', kw⟩ us vs Q E hr gr e0 hb r h) fun r s' hq => ?_)
  cases r with
  | error e => exact hx pins H s e s' I hq
  | ok fl =>
    cases fl with
    | ret u => exact I.after hq
    | next => exact False.elim hq
    | brk => exact False.elim hq
    | cont => exact False.elim hq
/-- x[i], by an own __getitem__ -/
theorem wE_subO (f : Fnx) (g : Gd X W k) (hm : Meth X.K C "__getitem__" f.a) (hfn : PySem.W.fnIn X.K f.a = true) (bd : Binds X.K f.fd f.ps []) (h : wE X W ρ μ a (fun da μ1 => (∃ ns fs, da = .obj C ns fs) ∧ wE X W ρ μ1 b (fun db μ2 => SpX X f [da, db] μ2 Q Z) Z) Z) (hj : f.lv + 1 ≤ k := by exact Nat.le_of_ble_eq_true rfl)
    (hsl : ∀ (x : Addr) (i : Value), subscripted b true (.ref x) i = runValue (.builtin "lifetime.subscript" ⟨[.ref x, i], []⟩) := by intro _ _; with_unfolding_all rfl) : wE X W ρ μ (.Subscript a b pos) Q Z := by
  refine .by fun pins s σ H R L G I n v z => PyProof.Rows.Subscript_ (thn (h.go I n z) fun u s1 ⟨y, da, μ1, L1, G1, H1, I1, ry, ⟨⟨ns, fs, ed⟩, hb⟩, st1, o1, r1⟩ => thn (hb.go I1 (n.step st1 o1) (z.step st1)) fun u2 s2 ⟨y2, db, μ2, L2, G2, H2, I2, ry2, sp, st2, o2, r2⟩ => ?_)
  subst ed
  have r1' := r1.step st2
  obtain ⟨p, dx, vs, rfl, q, _⟩ := rep_obj.mp r1'
  cases ry
  obtain ⟨ox, od, J⟩ := inst_at I2 (o2.sub _ _ q)
  obtain ⟨m, fr⟩ := I2.fr
  have hr := g.hr.mono hj
  refine PySem.W.sub_K fr I2.mod.kin J hm.at_ hfn hm.fn ?_ (hsl p u2)
  have hsp : spH X.K [.obj C ns fs, db] μ2 Q Z [.ref p, y2] H2 R (WE W σ) := ⟨L2, G2, o2, Reps.cons r1' (Reps.cons r2 Reps.nil), v.step (st1.trans st2), z.step (st1.trans st2)⟩
  have hl : [Value.ref p, u2].length = f.ps.length := sp.len _ _ _ _ hsp
  have bb := bd s2 [Value.ref p, u2] I2.kIn (by rw [List.append_nil]; exact hl)
  rw [List.append_nil] at bb
  exact run_fnB (vs := [.ref p, y2]) (E := WE W σ) sp hr.in1 (g.gr.mono (by omega)) I2.env0.in1 bb (passAt g.tk σ) I2 (.cons rfl (.cons ry2 .nil)) hsp
end
section
variable {X : Cx} {W : WX} {ρ : Env'} {μ : List M} {a b c : Expr} {pos : Pos} {QT : KT} {Z : KX}
/-- a op b op' c, a test -/
theorem wC_cmp2 {op op' : CmpOp} (h : wE X W ρ μ a (fun da μ1 => wE X W ρ μ1 b (fun db μ2 => wB X W (compareOp op) da db μ2 (fun d μ3 => ∃ k, d = .bl k ∧ if k = true then wE X W ρ μ3 c (fun dc μ4 => wB X W (compareOp op') db dc μ4 (fun d μ5 => ∃ k', d = .bl k' ∧ QT k' μ5) Z) Z else QT false μ3) Z) Z) Z)
    (hm : lastMarks [op, op'] [b, c] = false := by with_unfolding_all rfl) : wC X W ρ μ (.Compare a [op, op'] [b, c] pos) QT Z := by
  refine ⟨⟨fun pins s σ H R I ⟨L, G, n, v, x⟩ => ?_⟩⟩
  refine PyProof.Rows.isTrue_chain (thn (h.go I n x) fun u s1 ⟨y, da, μ1, L1, G1, H1, I1, ry, hb, st1, o1, r1⟩ => PyProof.Rows.test_link (thn (hb.go I1 (n.step st1 o1) (x.step st1)) fun u2 s2 ⟨y2, db, μ2, L2, G2, H2, I2, ry2, ho, st2, o2, r2⟩ => ?_)) hm
  refine thn (ho.run pins s2 σ H2 y y2 u u2 (fun z H' => ∃ k μ3 L3 G3, z = .bl k ∧ Step L2 G2 H2 L3 G3 H' ∧ Ok X.K L3 G3 H' μ3 ∧ if k = true then wE X W ρ μ3 c (fun dc μ4 => wB X W (compareOp op') db dc μ4 (fun d μ5 => ∃ k', d = .bl k' ∧ QT k' μ5) Z) Z else QT false μ3) L2 G2 I2 ry ry2 o2 (r1.step st2) r2 (fun d μ3 ⟨k, e, q⟩ w L3 G3 H3 st3 o3 r3 => by
      subst e
      exact ⟨k, μ3, L3, G3, rep_bl.mp r3, st3, o3, q⟩) (x.step (st1.trans st2))) fun z s3 ⟨y3, H3, I3, r3, k, μ3, L3, G3, e3, st3, o3, q3⟩ => ?_
  subst e3
  cases r3
  refine wpAny_truthy_bool ?_
  cases k with
  | false =>
    rw [if_neg Bool.false_ne_true] at q3 ⊢
    exact ⟨H3, I3, v false μ3 q3 L3 G3 H3 ((st1.trans st2).trans st3) o3⟩
  | true =>
    rw [if_pos rfl] at q3 ⊢
    have st := (st1.trans st2).trans st3
    refine PyProof.Rows.test_last (thn (q3.go I3 (n.step st o3) (x.step st)) fun u4 s4 ⟨y4, dc, μ4, L4, G4, H4, I4, ry4, ho4, st4, o4, r4⟩ => ?_)
    refine thn (ho4.run pins s4 σ H4 y2 y4 u2 u4 (fun z H' => ∃ k, z = .bl k ∧ R k H') L4 G4 I4 ry2 ry4 o4 ((r2.step st3).step st4) r4 (fun d μ5 ⟨k, e, q⟩ w L5 G5 H5 st5 o5 r5 => by
      subst e
      exact ⟨k, rep_bl.mp r5, v k μ5 q L5 G5 H5 ((st.trans st4).trans st5) o5⟩) (x.step (st.trans st4))) fun z s5 ⟨y5, H5, I5, r5, k, e5, q5⟩ => ?_
    subst e5
    cases r5
    exact wpAny_truthy_bool ⟨H5, I5, q5⟩
end
/-! a branch -/
theorem hdI {c : Prop} {i : Decidable c} {a b : Prop} (h : @ite Prop c i a b) : @ite Prop c i a b := h
theorem iteTT {i : Decidable (true = true)} {a b : Prop} (h : a) : @ite Prop (true = true) i a b := by rw [if_pos rfl]; exact h
theorem iteFT {i : Decidable (false = true)} {a b : Prop} (h : b) : @ite Prop (false = true) i a b := by rw [if_neg Bool.false_ne_true]; exact h
theorem iteNT {i : Decidable ((!true) = true)} {a b : Prop} (h : b) : @ite Prop ((!true) = true) i a b := by rw [if_neg (show ¬ ((!true) = true) from Bool.false_ne_true)]; exact h
theorem iteNF {i : Decidable ((!false) = true)} {a b : Prop} (h : a) : @ite Prop ((!false) = true) i a b := by rw [if_pos (show (!false) = true from rfl)]; exact h
theorem hdN1 {d : D} {i : Decidable (d.isN = true)} {a b : Prop} (h : @ite Prop (d.isN = true) i a b) : @ite Prop (d.isN = true) i a b := h
theorem hdN2 {d : D} {i : Decidable ((!d.isN) = true)} {a b : Prop} (h : @ite Prop ((!d.isN) = true) i a b) : @ite Prop ((!d.isN) = true) i a b := h
end PM
set_option Elab.async false
set_option linter.all false
set_option maxRecDepth 100000
set_option maxHeartbeats 4000000
namespace PM
open PySem L2
/-! ### the text by places -/
def top (i : Nat) : Stmt := PySem.Challenge.pw_poolsmeet_k08_waters_made.main.body.getD i (.Pass ⟨0, 0, 0, 0⟩)
abbrev s_InvalidNumber_init : Stmt := inClass (top 3) 0
abbrev s_Touching_init : Stmt := inClass (top 6) 0
abbrev s_is_integer : Stmt := top 11
abbrev s_is_number : Stmt := top 12
abbrev s_as_ratio : Stmt := top 13
abbrev s_common_divisor : Stmt := top 14
abbrev s_Ratio_init : Stmt := inClass (top 16) 0
abbrev s_Ratio_over : Stmt := inClass (top 16) 5
abbrev s_Ratio_str : Stmt := inClass (top 16) 7
abbrev s_Ratio_neg : Stmt := inClass (top 16) 9
abbrev s_Ratio_add : Stmt := inClass (top 16) 11
abbrev s_Ratio_radd : Stmt := inClass (top 16) 12
abbrev s_Ratio_sub : Stmt := inClass (top 16) 13
abbrev s_Ratio_rsub : Stmt := inClass (top 16) 14
abbrev s_Ratio_le : Stmt := inClass (top 16) 22
abbrev s_Ratio_ge : Stmt := inClass (top 16) 24
abbrev s_Pool_init : Stmt := inClass (top 18) 0
abbrev s_Pool_middle : Stmt := inClass (top 18) 2
abbrev s_Pool_volume : Stmt := inClass (top 18) 3
abbrev s_Pool_left : Stmt := inClass (top 18) 4
abbrev s_Pool_right : Stmt := inClass (top 18) 5
abbrev s_Pool_repr : Stmt := inClass (top 18) 11
abbrev s_Water_init : Stmt := inClass (top 26) 0
abbrev s_Water_len : Stmt := inClass (top 26) 9
abbrev s_Water_getitem : Stmt := inClass (top 26) 11
abbrev s_w_box : Stmt := top 28
abbrev s_w_take : Stmt := top 29
abbrev s_w_number : Stmt := top 30
abbrev s_w_is : Stmt := top 31
abbrev s_w_pool : Stmt := top 32
abbrev s_w_moments : Stmt := top 33
abbrev s_w_is_water : Stmt := top 34
abbrev s_w_row : Stmt := top 35
abbrev s_w_long_row : Stmt := top 36
abbrev s_w_due : Stmt := top 37
abbrev s_w_made : Stmt := top 38
abbrev s_law : Stmt := top 39
/-- slots: 0 self, 1 value -/
abbrev n_InvalidNumber_init : List Str := ["self", "value"]
abbrev v_InvalidNumber_init : List Kd := [.loc, .loc]
abbrev g_InvalidNumber_init : List Str := ["PoolError"]
theorem sc_InvalidNumber_init : FnScope n_InvalidNumber_init ["self", "value"] (defScope s_InvalidNumber_init) := ⟨rfl, rfl, rfl, by decide +kernel, rfl, by decide +kernel, by decide +kernel⟩
/-- slots: 0 self, 1 index -/
abbrev n_Touching_init : List Str := ["self", "index"]
abbrev v_Touching_init : List Kd := [.loc, .loc]
abbrev g_Touching_init : List Str := ["PoolError"]
theorem sc_Touching_init : FnScope n_Touching_init ["self", "index"] (defScope s_Touching_init) := ⟨rfl, rfl, rfl, by decide +kernel, rfl, by decide +kernel, by decide +kernel⟩
/-- slots: 0 value -/
abbrev n_is_integer : List Str := ["value"]
abbrev v_is_integer : List Kd := [.loc]
abbrev g_is_integer : List Str := ["isinstance", "int", "bool"]
theorem sc_is_integer : FnScope n_is_integer ["value"] (defScope s_is_integer) := ⟨rfl, rfl, rfl, by decide +kernel, rfl, by decide +kernel, by decide +kernel⟩
/-- slots: 0 value -/
abbrev n_is_number : List Str := ["value"]
abbrev v_is_number : List Kd := [.loc]
abbrev g_is_number : List Str := ["isinstance", "Ratio", "is_integer"]
theorem sc_is_number : FnScope n_is_number ["value"] (defScope s_is_number) := ⟨rfl, rfl, rfl, by decide +kernel, rfl, by decide +kernel, by decide +kernel⟩
/-- slots: 0 value -/
abbrev n_as_ratio : List Str := ["value"]
abbrev v_as_ratio : List Kd := [.loc]
abbrev g_as_ratio : List Str := ["isinstance", "Ratio", "is_integer", "InvalidNumber"]
theorem sc_as_ratio : FnScope n_as_ratio ["value"] (defScope s_as_ratio) := ⟨rfl, rfl, rfl, by decide +kernel, rfl, by decide +kernel, by decide +kernel⟩
/-- slots: 0 one, 1 other -/
abbrev n_common_divisor : List Str := ["one", "other"]
abbrev v_common_divisor : List Kd := [.loc, .loc]
abbrev g_common_divisor : List Str := []
theorem sc_common_divisor : FnScope n_common_divisor ["one", "other"] (defScope s_common_divisor) := ⟨rfl, rfl, rfl, by decide +kernel, rfl, by decide +kernel, by decide +kernel⟩
/-- slots: 0 self, 1 top, 2 bottom, 3 divisor -/
abbrev n_Ratio_init : List Str := ["self", "top", "bottom", "divisor"]
abbrev v_Ratio_init : List Kd := [.loc, .loc, .loc, .loc]
abbrev g_Ratio_init : List Str := ["InvalidNumber", "common_divisor", "abs"]
theorem sc_Ratio_init : FnScope n_Ratio_init ["self", "top", "bottom"] (defScope s_Ratio_init) := ⟨rfl, rfl, rfl, by decide +kernel, rfl, by decide +kernel, by decide +kernel⟩
/-- slots: 0 self, 1 other, 2 divisor -/
abbrev n_Ratio_over : List Str := ["self", "other", "divisor"]
abbrev v_Ratio_over : List Kd := [.loc, .loc, .loc]
abbrev g_Ratio_over : List Str := ["as_ratio", "InvalidNumber", "Ratio"]
theorem sc_Ratio_over : FnScope n_Ratio_over ["self", "other"] (defScope s_Ratio_over) := ⟨rfl, rfl, rfl, by decide +kernel, rfl, by decide +kernel, by decide +kernel⟩
/-- slots: 0 self -/
abbrev n_Ratio_str : List Str := ["self"]
abbrev v_Ratio_str : List Kd := [.loc]
abbrev g_Ratio_str : List Str := ["str"]
theorem ck_Ratio_str : ckB n_Ratio_str v_Ratio_str g_Ratio_str (defScope s_Ratio_str) = true := by decide +kernel
theorem sc_Ratio_str : FnScope n_Ratio_str ["self"] (defScope s_Ratio_str) := ⟨rfl, rfl, rfl, by decide +kernel, rfl, by decide +kernel, by decide +kernel⟩
/-- slots: 0 self -/
abbrev n_Ratio_neg : List Str := ["self"]
abbrev v_Ratio_neg : List Kd := [.loc]
abbrev g_Ratio_neg : List Str := ["Ratio"]
theorem sc_Ratio_neg : FnScope n_Ratio_neg ["self"] (defScope s_Ratio_neg) := ⟨rfl, rfl, rfl, by decide +kernel, rfl, by decide +kernel, by decide +kernel⟩
/-- slots: 0 self, 1 other, 2 more -/
abbrev n_Ratio_add : List Str := ["self", "other", "more"]
abbrev v_Ratio_add : List Kd := [.loc, .loc, .loc]
abbrev g_Ratio_add : List Str := ["is_number", "NotImplemented", "as_ratio", "Ratio"]
theorem sc_Ratio_add : FnScope n_Ratio_add ["self", "other"] (defScope s_Ratio_add) := ⟨rfl, rfl, rfl, by decide +kernel, rfl, by decide +kernel, by decide +kernel⟩
/-- slots: 0 self, 1 other -/
abbrev n_Ratio_radd : List Str := ["self", "other"]
abbrev v_Ratio_radd : List Kd := [.loc, .loc]
abbrev g_Ratio_radd : List Str := ["is_number", "NotImplemented"]
/-- slots: 0 self, 1 other -/
abbrev n_Ratio_sub : List Str := ["self", "other"]
abbrev v_Ratio_sub : List Kd := [.loc, .loc]
abbrev g_Ratio_sub : List Str := ["is_number", "NotImplemented", "as_ratio"]
theorem sc_Ratio_sub : FnScope n_Ratio_sub ["self", "other"] (defScope s_Ratio_sub) := ⟨rfl, rfl, rfl, by decide +kernel, rfl, by decide +kernel, by decide +kernel⟩
/-- slots: 0 self, 1 other -/
abbrev n_Ratio_rsub : List Str := ["self", "other"]
abbrev v_Ratio_rsub : List Kd := [.loc, .loc]
abbrev g_Ratio_rsub : List Str := ["is_number", "NotImplemented"]
/-- slots: 0 self, 1 other, 2 value -/
abbrev n_Ratio_le : List Str := ["self", "other", "value"]
abbrev v_Ratio_le : List Kd := [.loc, .loc, .loc]
abbrev g_Ratio_le : List Str := ["is_number", "NotImplemented", "as_ratio"]
theorem sc_Ratio_le : FnScope n_Ratio_le ["self", "other"] (defScope s_Ratio_le) := ⟨rfl, rfl, rfl, by decide +kernel, rfl, by decide +kernel, by decide +kernel⟩
/-- slots: 0 self, 1 other, 2 value -/
abbrev n_Ratio_ge : List Str := ["self", "other", "value"]
abbrev v_Ratio_ge : List Kd := [.loc, .loc, .loc]
abbrev g_Ratio_ge : List Str := ["is_number", "NotImplemented", "as_ratio"]
theorem sc_Ratio_ge : FnScope n_Ratio_ge ["self", "other"] (defScope s_Ratio_ge) := ⟨rfl, rfl, rfl, by decide +kernel, rfl, by decide +kernel, by decide +kernel⟩
/-- slots: 0 self, 1 middle, 2 volume -/
abbrev n_Pool_init : List Str := ["self", "middle", "volume"]
abbrev v_Pool_init : List Kd := [.loc, .loc, .loc]
abbrev g_Pool_init : List Str := ["as_ratio", "InvalidNumber"]
theorem ck_Pool_init : ckB n_Pool_init v_Pool_init g_Pool_init (defScope s_Pool_init) = true := by decide +kernel
theorem sc_Pool_init : FnScope n_Pool_init ["self", "middle", "volume"] (defScope s_Pool_init) := ⟨rfl, rfl, rfl, by decide +kernel, rfl, by decide +kernel, by decide +kernel⟩
/-- slots: 0 self -/
abbrev n_Pool_middle : List Str := ["self"]
abbrev v_Pool_middle : List Kd := [.loc]
abbrev g_Pool_middle : List Str := []
theorem ck_Pool_middle : ckB n_Pool_middle v_Pool_middle g_Pool_middle (defScope s_Pool_middle) = true := by decide +kernel
theorem sc_Pool_middle : FnScope n_Pool_middle ["self"] (defScope s_Pool_middle) := ⟨rfl, rfl, rfl, by decide +kernel, rfl, by decide +kernel, by decide +kernel⟩
/-- slots: 0 self -/
abbrev n_Pool_volume : List Str := ["self"]
abbrev v_Pool_volume : List Kd := [.loc]
abbrev g_Pool_volume : List Str := []
theorem ck_Pool_volume : ckB n_Pool_volume v_Pool_volume g_Pool_volume (defScope s_Pool_volume) = true := by decide +kernel
theorem sc_Pool_volume : FnScope n_Pool_volume ["self"] (defScope s_Pool_volume) := ⟨rfl, rfl, rfl, by decide +kernel, rfl, by decide +kernel, by decide +kernel⟩
/-- slots: 0 self -/
abbrev n_Pool_left : List Str := ["self"]
abbrev v_Pool_left : List Kd := [.loc]
abbrev g_Pool_left : List Str := []
theorem ck_Pool_left : ckB n_Pool_left v_Pool_left g_Pool_left (defScope s_Pool_left) = true := by decide +kernel
theorem sc_Pool_left : FnScope n_Pool_left ["self"] (defScope s_Pool_left) := ⟨rfl, rfl, rfl, by decide +kernel, rfl, by decide +kernel, by decide +kernel⟩
/-- slots: 0 self -/
abbrev n_Pool_right : List Str := ["self"]
abbrev v_Pool_right : List Kd := [.loc]
abbrev g_Pool_right : List Str := []
theorem ck_Pool_right : ckB n_Pool_right v_Pool_right g_Pool_right (defScope s_Pool_right) = true := by decide +kernel
theorem sc_Pool_right : FnScope n_Pool_right ["self"] (defScope s_Pool_right) := ⟨rfl, rfl, rfl, by decide +kernel, rfl, by decide +kernel, by decide +kernel⟩
/-- slots: 0 self -/
abbrev n_Pool_repr : List Str := ["self"]
abbrev v_Pool_repr : List Kd := [.loc]
abbrev g_Pool_repr : List Str := []
theorem ck_Pool_repr : ckB n_Pool_repr v_Pool_repr g_Pool_repr (defScope s_Pool_repr) = true := by decide +kernel
theorem sc_Pool_repr : FnScope n_Pool_repr ["self"] (defScope s_Pool_repr) := ⟨rfl, rfl, rfl, by decide +kernel, rfl, by decide +kernel, by decide +kernel⟩
/-- slots: 0 self, 1 pools, 2 index, 3 pool -/
abbrev n_Water_init : List Str := ["self", "pools", "index", "pool"]
abbrev v_Water_init : List Kd := [.loc, .loc, .loc, .loc]
abbrev g_Water_init : List Str := ["tuple", "enumerate", "Touching"]
theorem ck_Water_init : ckB n_Water_init v_Water_init g_Water_init (defScope s_Water_init) = true := by decide +kernel
theorem sc_Water_init : FnScope n_Water_init ["self", "pools"] (defScope s_Water_init) := ⟨rfl, rfl, rfl, by decide +kernel, rfl, by decide +kernel, by decide +kernel⟩
/-- slots: 0 self -/
abbrev n_Water_len : List Str := ["self"]
abbrev v_Water_len : List Kd := [.loc]
abbrev g_Water_len : List Str := ["len"]
theorem ck_Water_len : ckB n_Water_len v_Water_len g_Water_len (defScope s_Water_len) = true := by decide +kernel
theorem sc_Water_len : FnScope n_Water_len ["self"] (defScope s_Water_len) := ⟨rfl, rfl, rfl, by decide +kernel, rfl, by decide +kernel, by decide +kernel⟩
/-- slots: 0 self, 1 at -/
abbrev n_Water_getitem : List Str := ["self", "at"]
abbrev v_Water_getitem : List Kd := [.loc, .loc]
abbrev g_Water_getitem : List Str := ["len", "UnknownIndex"]
theorem ck_Water_getitem : ckB n_Water_getitem v_Water_getitem g_Water_getitem (defScope s_Water_getitem) = true := by decide +kernel
theorem sc_Water_getitem : FnScope n_Water_getitem ["self", "at"] (defScope s_Water_getitem) := ⟨rfl, rfl, rfl, by decide +kernel, rfl, by decide +kernel, by decide +kernel⟩
/-- slots: 0 w_script, 1 w_k, 2 w_cell, 3 w_seed -/
abbrev n_w_box : List Str := ["_law_script", "_law_k", "_law_cell", "_law_seed"]
abbrev v_w_box : List Kd := [.loc, .loc, .loc, .loc]
abbrev g_w_box : List Str := ["len", "int"]
theorem ck_w_box : ckB n_w_box v_w_box g_w_box (defScope s_w_box) = true := by decide +kernel
theorem sc_w_box : FnScope n_w_box ["_law_script", "_law_k"] (defScope s_w_box) := ⟨rfl, rfl, rfl, by decide +kernel, rfl, by decide +kernel, by decide +kernel⟩
/-- slots: 0 w_box_here, 1 w_many, 2 w_digit, 3 w_first, 4 w_mixed -/
abbrev n_w_take : List Str := ["_law_box_here", "_law_many", "_law_digit", "_law_first", "_law_mixed"]
abbrev v_w_take : List Kd := [.loc, .loc, .loc, .loc, .loc]
abbrev g_w_take : List Str := []
theorem ck_w_take : ckB n_w_take v_w_take g_w_take (defScope s_w_take) = true := by decide +kernel
theorem sc_w_take : FnScope n_w_take ["_law_box_here", "_law_many"] (defScope s_w_take) := ⟨rfl, rfl, rfl, by decide +kernel, rfl, by decide +kernel, by decide +kernel⟩
/-- slots: 0 w_box_here, 1 w_top, 2 w_unit -/
abbrev n_w_number : List Str := ["_law_box_here", "_law_top", "_law_unit"]
abbrev v_w_number : List Kd := [.loc, .loc, .loc]
abbrev g_w_number : List Str := ["_law_take", "Ratio"]
theorem ck_w_number : ckB n_w_number v_w_number g_w_number (defScope s_w_number) = true := by decide +kernel
theorem sc_w_number : FnScope n_w_number ["_law_box_here", "_law_top", "_law_unit"] (defScope s_w_number) := ⟨rfl, rfl, rfl, by decide +kernel, rfl, by decide +kernel, by decide +kernel⟩
/-- slots: 0 w_found, 1 w_top, 2 w_bottom -/
abbrev n_w_is : List Str := ["_law_found", "_law_top", "_law_bottom"]
abbrev v_w_is : List Kd := [.loc, .loc, .loc]
abbrev g_w_is : List Str := ["isinstance", "Ratio"]
theorem ck_w_is : ckB n_w_is v_w_is g_w_is (defScope s_w_is) = true := by decide +kernel
theorem sc_w_is : FnScope n_w_is ["_law_found", "_law_top", "_law_bottom"] (defScope s_w_is) := ⟨rfl, rfl, rfl, by decide +kernel, rfl, by decide +kernel, by decide +kernel⟩
/-- slots: 0 w_box_here, 1 w_unit, 2 w_drop -/
abbrev n_w_pool : List Str := ["_law_box_here", "_law_unit", "_law_drop"]
abbrev v_w_pool : List Kd := [.loc, .loc, .loc]
abbrev g_w_pool : List Str := ["Pool", "_law_number"]
theorem ck_w_pool : ckB n_w_pool v_w_pool g_w_pool (defScope s_w_pool) = true := by decide +kernel
theorem sc_w_pool : FnScope n_w_pool ["_law_box_here", "_law_unit", "_law_drop"] (defScope s_w_pool) := ⟨rfl, rfl, rfl, by decide +kernel, rfl, by decide +kernel, by decide +kernel⟩
/-- slots: 0 w_drops, 1 w_spot, 2 w_volume -/
abbrev n_w_moments : List Str := ["_law_drops", "_law_spot", "_law_volume"]
abbrev v_w_moments : List Kd := [.loc, .no, .no]
abbrev g_w_moments : List Str := []
theorem ck_w_moments : ckB n_w_moments v_w_moments g_w_moments (defScope s_w_moments) = true := by decide +kernel
abbrev v_w_moments_c0 : List Kd := [.no, .loc, .loc]
abbrev o_w_moments_c0 : List (Str × Nat) := [("_law_spot", 1), ("_law_volume", 2)]
abbrev g_w_moments_c0 : List Str := []
theorem sc_w_moments : FnScope n_w_moments ["_law_drops"] (defScope s_w_moments) := ⟨rfl, rfl, rfl, by decide +kernel, rfl, by decide +kernel, by decide +kernel⟩
/-- slots: 0 w_found, 1 w_unit, 2 w_dues, 3 w_at, 4 w_moment, 5 w_volume -/
abbrev n_w_is_water : List Str := ["_law_found", "_law_unit", "_law_dues", "_law_at", "_law_moment", "_law_volume"]
abbrev v_w_is_water : List Kd := [.loc, .loc, .loc, .loc, .loc, .loc]
abbrev g_w_is_water : List Str := ["isinstance", "Water", "len", "enumerate", "_law_is"]
theorem ck_w_is_water : ckB n_w_is_water v_w_is_water g_w_is_water (defScope s_w_is_water) = true := by decide +kernel
theorem sc_w_is_water : FnScope n_w_is_water ["_law_found", "_law_unit", "_law_dues"] (defScope s_w_is_water) := ⟨rfl, rfl, rfl, by decide +kernel, rfl, by decide +kernel, by decide +kernel⟩
/-- slots: 0 w_box_here, 1 w_unit, 2 w_found, 3 w_turn, 4 w_volume, 5 w_form, 6 w_spot, 7 w_last, 8 w_amount, 9 w_half, 10 w_beside -/
abbrev n_w_row : List Str := ["_law_box_here", "_law_unit", "_law_found", "_law_turn", "_law_volume", "_law_form", "_law_spot", "_law_last", "_law_amount", "_law_half", "_law_beside"]
abbrev v_w_row : List Kd := [.loc, .loc, .loc, .loc, .loc, .loc, .loc, .loc, .loc, .loc, .loc]
abbrev g_w_row : List Str := ["_law_take", "range"]
theorem ck_w_row : ckB n_w_row v_w_row g_w_row (defScope s_w_row) = true := by decide +kernel
theorem sc_w_row : FnScope n_w_row ["_law_box_here"] (defScope s_w_row) := ⟨rfl, rfl, rfl, by decide +kernel, rfl, by decide +kernel, by decide +kernel⟩
/-- slots: 0 w_box_here, 1 w_many, 2 w_found, 3 w_wrong, 4 w_at, 5 w_spot, 6 w_volume, 7 w_last, 8 w_amount, 9 w_half -/
abbrev n_w_long_row : List Str := ["_law_box_here", "_law_many", "_law_found", "_law_wrong", "_law_at", "_law_spot", "_law_volume", "_law_last", "_law_amount", "_law_half"]
abbrev v_w_long_row : List Kd := [.loc, .loc, .loc, .loc, .loc, .loc, .loc, .loc, .loc, .loc]
abbrev g_w_long_row : List Str := ["_law_take", "int", "range"]
theorem ck_w_long_row : ckB n_w_long_row v_w_long_row g_w_long_row (defScope s_w_long_row) = true := by decide +kernel
theorem sc_w_long_row : FnScope n_w_long_row ["_law_box_here"] (defScope s_w_long_row) := ⟨rfl, rfl, rfl, by decide +kernel, rfl, by decide +kernel, by decide +kernel⟩
/-- slots: 0 w_drops, 1 w_at, 2 w_one, 3 w_other -/
abbrev n_w_due : List Str := ["_law_drops", "_law_at", "_law_one", "_law_other"]
abbrev v_w_due : List Kd := [.loc, .loc, .loc, .loc]
abbrev g_w_due : List Str := ["range", "len"]
theorem ck_w_due : ckB n_w_due v_w_due g_w_due (defScope s_w_due) = true := by decide +kernel
theorem sc_w_due : FnScope n_w_due ["_law_drops"] (defScope s_w_due) := ⟨rfl, rfl, rfl, by decide +kernel, rfl, by decide +kernel, by decide +kernel⟩
/-- slots: 0 w_some, 1 w_found, 2 e, 3 w_strange -/
abbrev n_w_made : List Str := ["_law_some", "_law_found", "e", "_law_strange"]
abbrev v_w_made : List Kd := [.loc, .loc, .loc, .loc]
abbrev g_w_made : List Str := ["Water", "Touching", "isinstance", "Full", "InvalidDrop", "InvalidNumber", "PoolError"]
theorem ck_w_made : ckB n_w_made v_w_made g_w_made (defScope s_w_made) = true := by decide +kernel
theorem sc_w_made : FnScope n_w_made ["_law_some"] (defScope s_w_made) := ⟨rfl, rfl, rfl, by decide +kernel, rfl, by decide +kernel, by decide +kernel⟩
/-- slots: 0 w_script, 1 w_k, 2 w_box_here, 3 w_turn, 4 w_unit, 5 w_drops, 6 w_some, 7 w_due_here, 8 w_kept, 9 w_passed, 10 w_found, 11 w_drop -/
abbrev n_law : List Str := ["_law_script", "_law_k", "_law_box_here", "_law_turn", "_law_unit", "_law_drops", "_law_some", "_law_due_here", "_law_kept", "_law_passed", "_law_found", "_law_drop"]
abbrev v_law : List Kd := [.loc, .loc, .cell, .loc, .cell, .loc, .loc, .loc, .loc, .loc, .loc, .no]
abbrev g_law : List Str := ["range", "max", "min", "len", "_law_box", "_law_take", "_law_row", "_law_long_row", "_law_due", "repr", "list", "tuple", "_law_made", "isinstance", "_law_is_water", "_law_moments", "Water"]
theorem ck_law : ckB n_law v_law g_law (defScope s_law) = true := by decide +kernel
abbrev v_law_c0 : List Kd := [.no, .no, .cell, .no, .cell, .no, .no, .no, .no, .no, .no, .loc]
abbrev o_law_c0 : List (Str × Nat) := [("_law_drop", 11)]
abbrev g_law_c0 : List Str := ["_law_pool"]
theorem sc_law : FnScope n_law ["_law_script"] (defScope s_law) := ⟨rfl, rfl, rfl, by decide +kernel, rfl, by decide +kernel, by decide +kernel⟩
/-! ### what the top has left -/
structure Tx (K : PySem.W.Frag) (mg : Str → Option Value) where
  C_PoolError : Addr
  g_PoolError : mg "PoolError" = some (.ref C_PoolError)
  up_PoolError : UpC K C_PoolError "ValueError.__init__"
  oex_PoolError : OexC K C_PoolError
  C_InvalidNumber : Addr
  g_InvalidNumber : mg "InvalidNumber" = some (.ref C_InvalidNumber)
  oex_InvalidNumber : OexC K C_InvalidNumber
  xf_InvalidNumber : XfC K C_InvalidNumber
  xm_InvalidNumber : PySem.W.exmOne K (.ref C_InvalidNumber) (.ref C_InvalidNumber) = some true
  na_InvalidNumber_value : NoAttr K C_InvalidNumber "value"
  C_InvalidDrop : Addr
  g_InvalidDrop : mg "InvalidDrop" = some (.ref C_InvalidDrop)
  C_Full : Addr
  g_Full : mg "Full" = some (.ref C_Full)
  C_Touching : Addr
  g_Touching : mg "Touching" = some (.ref C_Touching)
  oex_Touching : OexC K C_Touching
  xf_Touching : XfC K C_Touching
  xm_Touching : PySem.W.exmOne K (.ref C_Touching) (.ref C_Touching) = some true
  na_Touching_index : NoAttr K C_Touching "index"
  C_UnknownIndex : Addr
  g_UnknownIndex : mg "UnknownIndex" = some (.ref C_UnknownIndex)
  C_Ratio : Addr
  g_Ratio : mg "Ratio" = some (.ref C_Ratio)
  own_Ratio : OwnC K C_Ratio
  cr_Ratio : ClX.CRead K C_Ratio (.type "type")
  na_Ratio_top : NoAttr K C_Ratio "top"
  na_Ratio_bottom : NoAttr K C_Ratio "bottom"
  fm_Ratio : PySem.W.findIn K (.ref C_Ratio) "__format__" = some (some (.builtin "object.__format__"))
  C_Pool : Addr
  g_Pool : mg "Pool" = some (.ref C_Pool)
  own_Pool : OwnC K C_Pool
  cr_Pool : ClX.CRead K C_Pool (.type "type")
  na_Pool_center : NoAttr K C_Pool "center"
  na_Pool_amount : NoAttr K C_Pool "amount"
  C_Water : Addr
  g_Water : mg "Water" = some (.ref C_Water)
  own_Water : OwnC K C_Water
  cr_Water : ClX.CRead K C_Water (.type "type")
  na_Water_rows : NoAttr K C_Water "rows"
  a_InvalidNumber_init : Addr
  fd_InvalidNumber_init : FuncData
  F_InvalidNumber_init : FunS K "__init__" "InvalidNumber.__init__" s_InvalidNumber_init [] a_InvalidNumber_init fd_InvalidNumber_init
  i_InvalidNumber : PySem.W.findIn K (.ref C_InvalidNumber) "__init__" = some (some (.ref a_InvalidNumber_init))
  t_InvalidNumber : PySem.W.typeIn K (.ref a_InvalidNumber_init) = some (.type "function")
  a_Touching_init : Addr
  fd_Touching_init : FuncData
  F_Touching_init : FunS K "__init__" "Touching.__init__" s_Touching_init [] a_Touching_init fd_Touching_init
  i_Touching : PySem.W.findIn K (.ref C_Touching) "__init__" = some (some (.ref a_Touching_init))
  t_Touching : PySem.W.typeIn K (.ref a_Touching_init) = some (.type "function")
  a_is_integer : Addr
  fd_is_integer : FuncData
  F_is_integer : FunS K "is_integer" "is_integer" s_is_integer [] a_is_integer fd_is_integer
  g_is_integer : mg "is_integer" = some (.ref a_is_integer)
  a_is_number : Addr
  fd_is_number : FuncData
  F_is_number : FunS K "is_number" "is_number" s_is_number [] a_is_number fd_is_number
  g_is_number : mg "is_number" = some (.ref a_is_number)
  a_as_ratio : Addr
  fd_as_ratio : FuncData
  F_as_ratio : FunS K "as_ratio" "as_ratio" s_as_ratio [] a_as_ratio fd_as_ratio
  g_as_ratio : mg "as_ratio" = some (.ref a_as_ratio)
  a_common_divisor : Addr
  fd_common_divisor : FuncData
  F_common_divisor : FunS K "common_divisor" "common_divisor" s_common_divisor [] a_common_divisor fd_common_divisor
  g_common_divisor : mg "common_divisor" = some (.ref a_common_divisor)
  a_Ratio_init : Addr
  fd_Ratio_init : FuncData
  F_Ratio_init : FunS K "__init__" "Ratio.__init__" s_Ratio_init [.int 1] a_Ratio_init fd_Ratio_init
  m_Ratio_init : Meth K C_Ratio "__init__" a_Ratio_init
  mk_Ratio : Mk K C_Ratio a_Ratio_init
  a_Ratio_over : Addr
  fd_Ratio_over : FuncData
  F_Ratio_over : FunS K "over" "Ratio.over" s_Ratio_over [] a_Ratio_over fd_Ratio_over
  m_Ratio_over : Meth K C_Ratio "over" a_Ratio_over
  a_Ratio_str : Addr
  fd_Ratio_str : FuncData
  F_Ratio_str : FunS K "__str__" "Ratio.__str__" s_Ratio_str [] a_Ratio_str fd_Ratio_str
  m_Ratio_str : Meth K C_Ratio "__str__" a_Ratio_str
  a_Ratio_neg : Addr
  fd_Ratio_neg : FuncData
  F_Ratio_neg : FunS K "__neg__" "Ratio.__neg__" s_Ratio_neg [] a_Ratio_neg fd_Ratio_neg
  m_Ratio_neg : Meth K C_Ratio "__neg__" a_Ratio_neg
  a_Ratio_add : Addr
  fd_Ratio_add : FuncData
  F_Ratio_add : FunS K "__add__" "Ratio.__add__" s_Ratio_add [] a_Ratio_add fd_Ratio_add
  m_Ratio_add : Meth K C_Ratio "__add__" a_Ratio_add
  a_Ratio_radd : Addr
  fd_Ratio_radd : FuncData
  F_Ratio_radd : FunS K "__radd__" "Ratio.__radd__" s_Ratio_radd [] a_Ratio_radd fd_Ratio_radd
  m_Ratio_radd : Meth K C_Ratio "__radd__" a_Ratio_radd
  a_Ratio_sub : Addr
  fd_Ratio_sub : FuncData
  F_Ratio_sub : FunS K "__sub__" "Ratio.__sub__" s_Ratio_sub [] a_Ratio_sub fd_Ratio_sub
  m_Ratio_sub : Meth K C_Ratio "__sub__" a_Ratio_sub
  a_Ratio_rsub : Addr
  fd_Ratio_rsub : FuncData
  F_Ratio_rsub : FunS K "__rsub__" "Ratio.__rsub__" s_Ratio_rsub [] a_Ratio_rsub fd_Ratio_rsub
  m_Ratio_rsub : Meth K C_Ratio "__rsub__" a_Ratio_rsub
  a_Ratio_le : Addr
  fd_Ratio_le : FuncData
  F_Ratio_le : FunS K "__le__" "Ratio.__le__" s_Ratio_le [] a_Ratio_le fd_Ratio_le
  m_Ratio_le : Meth K C_Ratio "__le__" a_Ratio_le
  a_Ratio_ge : Addr
  fd_Ratio_ge : FuncData
  F_Ratio_ge : FunS K "__ge__" "Ratio.__ge__" s_Ratio_ge [] a_Ratio_ge fd_Ratio_ge
  m_Ratio_ge : Meth K C_Ratio "__ge__" a_Ratio_ge
  a_Pool_init : Addr
  fd_Pool_init : FuncData
  F_Pool_init : FunS K "__init__" "Pool.__init__" s_Pool_init [] a_Pool_init fd_Pool_init
  m_Pool_init : Meth K C_Pool "__init__" a_Pool_init
  mk_Pool : Mk K C_Pool a_Pool_init
  a_Pool_middle : Addr
  fd_Pool_middle : FuncData
  F_Pool_middle : FunS K "middle" "Pool.middle" s_Pool_middle [] a_Pool_middle fd_Pool_middle
  p_Pool_middle : Addr
  P_Pool_middle : PropOf K C_Pool "middle" p_Pool_middle a_Pool_middle
  a_Pool_volume : Addr
  fd_Pool_volume : FuncData
  F_Pool_volume : FunS K "volume" "Pool.volume" s_Pool_volume [] a_Pool_volume fd_Pool_volume
  p_Pool_volume : Addr
  P_Pool_volume : PropOf K C_Pool "volume" p_Pool_volume a_Pool_volume
  a_Pool_left : Addr
  fd_Pool_left : FuncData
  F_Pool_left : FunS K "left" "Pool.left" s_Pool_left [] a_Pool_left fd_Pool_left
  p_Pool_left : Addr
  P_Pool_left : PropOf K C_Pool "left" p_Pool_left a_Pool_left
  a_Pool_right : Addr
  fd_Pool_right : FuncData
  F_Pool_right : FunS K "right" "Pool.right" s_Pool_right [] a_Pool_right fd_Pool_right
  p_Pool_right : Addr
  P_Pool_right : PropOf K C_Pool "right" p_Pool_right a_Pool_right
  a_Pool_repr : Addr
  fd_Pool_repr : FuncData
  F_Pool_repr : FunS K "__repr__" "Pool.__repr__" s_Pool_repr [] a_Pool_repr fd_Pool_repr
  m_Pool_repr : Meth K C_Pool "__repr__" a_Pool_repr
  a_Water_init : Addr
  fd_Water_init : FuncData
  t0_Water_init : Addr
  T0_Water_init : ∃ (o : Obj) (n : Nat), K.lookup t0_Water_init = some o ∧ o.cls = .type "tuple" ∧ o.data = .seq #[] n
  F_Water_init : FunS K "__init__" "Water.__init__" s_Water_init [.ref t0_Water_init] a_Water_init fd_Water_init
  m_Water_init : Meth K C_Water "__init__" a_Water_init
  mk_Water : Mk K C_Water a_Water_init
  a_Water_len : Addr
  fd_Water_len : FuncData
  F_Water_len : FunS K "__len__" "Water.__len__" s_Water_len [] a_Water_len fd_Water_len
  m_Water_len : Meth K C_Water "__len__" a_Water_len
  a_Water_getitem : Addr
  fd_Water_getitem : FuncData
  F_Water_getitem : FunS K "__getitem__" "Water.__getitem__" s_Water_getitem [] a_Water_getitem fd_Water_getitem
  m_Water_getitem : Meth K C_Water "__getitem__" a_Water_getitem
  fi_Water_getitem : PySem.W.fnIn K a_Water_getitem = true
  a_w_box : Addr
  fd_w_box : FuncData
  F_w_box : FunS K "_law_box" "_law_box" s_w_box [] a_w_box fd_w_box
  g_w_box : mg "_law_box" = some (.ref a_w_box)
  a_w_take : Addr
  fd_w_take : FuncData
  F_w_take : FunS K "_law_take" "_law_take" s_w_take [] a_w_take fd_w_take
  g_w_take : mg "_law_take" = some (.ref a_w_take)
  a_w_number : Addr
  fd_w_number : FuncData
  F_w_number : FunS K "_law_number" "_law_number" s_w_number [] a_w_number fd_w_number
  g_w_number : mg "_law_number" = some (.ref a_w_number)
  a_w_is : Addr
  fd_w_is : FuncData
  F_w_is : FunS K "_law_is" "_law_is" s_w_is [] a_w_is fd_w_is
  g_w_is : mg "_law_is" = some (.ref a_w_is)
  a_w_pool : Addr
  fd_w_pool : FuncData
  F_w_pool : FunS K "_law_pool" "_law_pool" s_w_pool [] a_w_pool fd_w_pool
  g_w_pool : mg "_law_pool" = some (.ref a_w_pool)
  a_w_moments : Addr
  fd_w_moments : FuncData
  F_w_moments : FunS K "_law_moments" "_law_moments" s_w_moments [] a_w_moments fd_w_moments
  g_w_moments : mg "_law_moments" = some (.ref a_w_moments)
  a_w_is_water : Addr
  fd_w_is_water : FuncData
  F_w_is_water : FunS K "_law_is_water" "_law_is_water" s_w_is_water [] a_w_is_water fd_w_is_water
  g_w_is_water : mg "_law_is_water" = some (.ref a_w_is_water)
  a_w_row : Addr
  fd_w_row : FuncData
  F_w_row : FunS K "_law_row" "_law_row" s_w_row [] a_w_row fd_w_row
  g_w_row : mg "_law_row" = some (.ref a_w_row)
  a_w_long_row : Addr
  fd_w_long_row : FuncData
  F_w_long_row : FunS K "_law_long_row" "_law_long_row" s_w_long_row [] a_w_long_row fd_w_long_row
  g_w_long_row : mg "_law_long_row" = some (.ref a_w_long_row)
  a_w_due : Addr
  fd_w_due : FuncData
  F_w_due : FunS K "_law_due" "_law_due" s_w_due [] a_w_due fd_w_due
  g_w_due : mg "_law_due" = some (.ref a_w_due)
  a_w_made : Addr
  fd_w_made : FuncData
  F_w_made : FunS K "_law_made" "_law_made" s_w_made [] a_w_made fd_w_made
  g_w_made : mg "_law_made" = some (.ref a_w_made)
  a_law : Addr
  fd_law : FuncData
  F_law : FunS K "law" "law" s_law [] a_law fd_law
  g_law : mg "law" = some (.ref a_law)
  xk_Touching : ExcC K C_Touching
  ki_Touching_Full : PySem.W.kitOne K (.ref C_Touching) (.ref C_Full) = some false
  ki_Touching_InvalidDrop : PySem.W.kitOne K (.ref C_Touching) (.ref C_InvalidDrop) = some false
  ki_Touching_InvalidNumber : PySem.W.kitOne K (.ref C_Touching) (.ref C_InvalidNumber) = some false
  ki_Touching_PoolError : PySem.W.kitOne K (.ref C_Touching) (.ref C_PoolError) = some true
  io_add : ∃ fo, PySem.W.findIn K (.type "int") "__add__" = some fo
  ior_add : ∃ fo, PySem.W.findIn K (.type "int") "__radd__" = some fo
  nio_add : PySem.W.findIn K (.type "object") "__iadd__" = some none
  io_sub : ∃ fo, PySem.W.findIn K (.type "int") "__sub__" = some fo
  ior_sub : ∃ fo, PySem.W.findIn K (.type "int") "__rsub__" = some fo
  nio_sub : PySem.W.findIn K (.type "object") "__isub__" = some none
  nii_Ratio_add : PySem.W.findIn K (.ref C_Ratio) "__iadd__" = some none
  nii_Ratio_sub : PySem.W.findIn K (.ref C_Ratio) "__isub__" = some none
  n_IndexError : mg "IndexError" = none
  n_NotImplemented : mg "NotImplemented" = none
  n_TypeError : mg "TypeError" = none
  n_abs : mg "abs" = none
  n_all : mg "all" = none
  n_any : mg "any" = none
  n_bool : mg "bool" = none
  n_classmethod : mg "classmethod" = none
  n_enumerate : mg "enumerate" = none
  n_int : mg "int" = none
  n_isinstance : mg "isinstance" = none
  n_len : mg "len" = none
  n_list : mg "list" = none
  n_max : mg "max" = none
  n_min : mg "min" = none
  n_property : mg "property" = none
  n_range : mg "range" = none
  n_repr : mg "repr" = none
  n_str : mg "str" = none
  n_sum : mg "sum" = none
  n_tuple : mg "tuple" = none
  c_DIGITS : ∃ t, mg "DIGITS" = some (.str "0123456789" t)
  c_MOST_DIGITS : ∃ t, mg "MOST_DIGITS" = some (.int 1000 t)
section
variable {K : PySem.W.Frag} {mg : Str → Option Value} (T : Tx K mg)
theorem Tx.b_InvalidNumber_init : Binds K T.fd_InvalidNumber_init ["self", "value"] [] := (FunD.plain T.F_InvalidNumber_init).binds fun _ _ _ _ _ _ us hl => match us, hl with | [_, _], _ => rfl
theorem Tx.b_Touching_init : Binds K T.fd_Touching_init ["self", "index"] [] := (FunD.plain T.F_Touching_init).binds fun _ _ _ _ _ _ us hl => match us, hl with | [_, _], _ => rfl
theorem Tx.b_is_integer : Binds K T.fd_is_integer ["value"] [] := (FunD.plain T.F_is_integer).binds fun _ _ _ _ _ _ us hl => match us, hl with | [_], _ => rfl
theorem Tx.b_is_number : Binds K T.fd_is_number ["value"] [] := (FunD.plain T.F_is_number).binds fun _ _ _ _ _ _ us hl => match us, hl with | [_], _ => rfl
theorem Tx.b_as_ratio : Binds K T.fd_as_ratio ["value"] [] := (FunD.plain T.F_as_ratio).binds fun _ _ _ _ _ _ us hl => match us, hl with | [_], _ => rfl
theorem Tx.b_common_divisor : Binds K T.fd_common_divisor ["one", "other"] [] := (FunD.plain T.F_common_divisor).binds fun _ _ _ _ _ _ us hl => match us, hl with | [_, _], _ => rfl
theorem Tx.b_Ratio_init_2 : ∃ ds, Vals (([.int 1] : List V).drop 0) ds ∧ Binds K T.fd_Ratio_init ["self", "top", "bottom"] ds := T.F_Ratio_init.binds1 2 0 (by intro z; cases z) rfl fun _ _ _ _ _ _ _ us its h1 h2 => match us, its, h1, h2 with | [_, _], [_], _, _ => ⟨_, rfl, rfl⟩
theorem Tx.b_Ratio_init : ∃ ds, Vals (([.int 1] : List V).drop 1) ds ∧ Binds K T.fd_Ratio_init ["self", "top", "bottom"] ds := T.F_Ratio_init.binds1 3 1 (by intro z; cases z) rfl fun _ _ _ _ _ _ _ us its h1 h2 => match us, its, h1, h2 with | [_, _, _], [_], _, _ => ⟨_, rfl, rfl⟩
theorem Tx.b_Ratio_over : Binds K T.fd_Ratio_over ["self", "other"] [] := (FunD.plain T.F_Ratio_over).binds fun _ _ _ _ _ _ us hl => match us, hl with | [_, _], _ => rfl
theorem Tx.b_Ratio_str : Binds K T.fd_Ratio_str ["self"] [] := (FunD.plain T.F_Ratio_str).binds fun _ _ _ _ _ _ us hl => match us, hl with | [_], _ => rfl
theorem Tx.b_Ratio_neg : Binds K T.fd_Ratio_neg ["self"] [] := (FunD.plain T.F_Ratio_neg).binds fun _ _ _ _ _ _ us hl => match us, hl with | [_], _ => rfl
theorem Tx.b_Ratio_add : Binds K T.fd_Ratio_add ["self", "other"] [] := (FunD.plain T.F_Ratio_add).binds fun _ _ _ _ _ _ us hl => match us, hl with | [_, _], _ => rfl
theorem Tx.b_Ratio_sub : Binds K T.fd_Ratio_sub ["self", "other"] [] := (FunD.plain T.F_Ratio_sub).binds fun _ _ _ _ _ _ us hl => match us, hl with | [_, _], _ => rfl
theorem Tx.b_Ratio_le : Binds K T.fd_Ratio_le ["self", "other"] [] := (FunD.plain T.F_Ratio_le).binds fun _ _ _ _ _ _ us hl => match us, hl with | [_, _], _ => rfl
theorem Tx.b_Ratio_ge : Binds K T.fd_Ratio_ge ["self", "other"] [] := (FunD.plain T.F_Ratio_ge).binds fun _ _ _ _ _ _ us hl => match us, hl with | [_, _], _ => rfl
theorem Tx.b_Pool_init : Binds K T.fd_Pool_init ["self", "middle", "volume"] [] := (FunD.plain T.F_Pool_init).binds fun _ _ _ _ _ _ us hl => match us, hl with | [_, _, _], _ => rfl
theorem Tx.b_Pool_middle : Binds K T.fd_Pool_middle ["self"] [] := (FunD.plain T.F_Pool_middle).binds fun _ _ _ _ _ _ us hl => match us, hl with | [_], _ => rfl
theorem Tx.b_Pool_volume : Binds K T.fd_Pool_volume ["self"] [] := (FunD.plain T.F_Pool_volume).binds fun _ _ _ _ _ _ us hl => match us, hl with | [_], _ => rfl
theorem Tx.b_Pool_left : Binds K T.fd_Pool_left ["self"] [] := (FunD.plain T.F_Pool_left).binds fun _ _ _ _ _ _ us hl => match us, hl with | [_], _ => rfl
theorem Tx.b_Pool_right : Binds K T.fd_Pool_right ["self"] [] := (FunD.plain T.F_Pool_right).binds fun _ _ _ _ _ _ us hl => match us, hl with | [_], _ => rfl
theorem Tx.b_Pool_repr : Binds K T.fd_Pool_repr ["self"] [] := (FunD.plain T.F_Pool_repr).binds fun _ _ _ _ _ _ us hl => match us, hl with | [_], _ => rfl
theorem Tx.b_Water_init_1 : ∃ ds, Vals (([.ref T.t0_Water_init] : List V).drop 0) ds ∧ Binds K T.fd_Water_init ["self", "pools"] ds := T.F_Water_init.binds1 1 0 (by intro z; cases z) rfl fun _ _ _ _ _ _ _ us its h1 h2 => match us, its, h1, h2 with | [_], [_], _, _ => ⟨_, rfl, rfl⟩
theorem Tx.b_Water_init : ∃ ds, Vals (([.ref T.t0_Water_init] : List V).drop 1) ds ∧ Binds K T.fd_Water_init ["self", "pools"] ds := T.F_Water_init.binds1 2 1 (by intro z; cases z) rfl fun _ _ _ _ _ _ _ us its h1 h2 => match us, its, h1, h2 with | [_, _], [_], _, _ => ⟨_, rfl, rfl⟩
theorem Tx.b_Water_len : Binds K T.fd_Water_len ["self"] [] := (FunD.plain T.F_Water_len).binds fun _ _ _ _ _ _ us hl => match us, hl with | [_], _ => rfl
theorem Tx.b_Water_getitem : Binds K T.fd_Water_getitem ["self", "at"] [] := (FunD.plain T.F_Water_getitem).binds fun _ _ _ _ _ _ us hl => match us, hl with | [_, _], _ => rfl
theorem Tx.b_w_box : Binds K T.fd_w_box ["_law_script", "_law_k"] [] := (FunD.plain T.F_w_box).binds fun _ _ _ _ _ _ us hl => match us, hl with | [_, _], _ => rfl
theorem Tx.b_w_take : Binds K T.fd_w_take ["_law_box_here", "_law_many"] [] := (FunD.plain T.F_w_take).binds fun _ _ _ _ _ _ us hl => match us, hl with | [_, _], _ => rfl
theorem Tx.b_w_number : Binds K T.fd_w_number ["_law_box_here", "_law_top", "_law_unit"] [] := (FunD.plain T.F_w_number).binds fun _ _ _ _ _ _ us hl => match us, hl with | [_, _, _], _ => rfl
theorem Tx.b_w_is : Binds K T.fd_w_is ["_law_found", "_law_top", "_law_bottom"] [] := (FunD.plain T.F_w_is).binds fun _ _ _ _ _ _ us hl => match us, hl with | [_, _, _], _ => rfl
theorem Tx.b_w_pool : Binds K T.fd_w_pool ["_law_box_here", "_law_unit", "_law_drop"] [] := (FunD.plain T.F_w_pool).binds fun _ _ _ _ _ _ us hl => match us, hl with | [_, _, _], _ => rfl
theorem Tx.b_w_moments : Binds K T.fd_w_moments ["_law_drops"] [] := (FunD.plain T.F_w_moments).binds fun _ _ _ _ _ _ us hl => match us, hl with | [_], _ => rfl
theorem Tx.b_w_is_water : Binds K T.fd_w_is_water ["_law_found", "_law_unit", "_law_dues"] [] := (FunD.plain T.F_w_is_water).binds fun _ _ _ _ _ _ us hl => match us, hl with | [_, _, _], _ => rfl
theorem Tx.b_w_row : Binds K T.fd_w_row ["_law_box_here"] [] := (FunD.plain T.F_w_row).binds fun _ _ _ _ _ _ us hl => match us, hl with | [_], _ => rfl
theorem Tx.b_w_long_row : Binds K T.fd_w_long_row ["_law_box_here"] [] := (FunD.plain T.F_w_long_row).binds fun _ _ _ _ _ _ us hl => match us, hl with | [_], _ => rfl
theorem Tx.b_w_due : Binds K T.fd_w_due ["_law_drops"] [] := (FunD.plain T.F_w_due).binds fun _ _ _ _ _ _ us hl => match us, hl with | [_], _ => rfl
theorem Tx.b_w_made : Binds K T.fd_w_made ["_law_some"] [] := (FunD.plain T.F_w_made).binds fun _ _ _ _ _ _ us hl => match us, hl with | [_], _ => rfl
abbrev Tx.f_InvalidNumber_init : Fnx := ⟨T.a_InvalidNumber_init, T.fd_InvalidNumber_init, ["self", "value"], 40⟩
abbrev Tx.f_Touching_init : Fnx := ⟨T.a_Touching_init, T.fd_Touching_init, ["self", "index"], 40⟩
abbrev Tx.f_is_integer : Fnx := ⟨T.a_is_integer, T.fd_is_integer, ["value"], 1⟩
abbrev Tx.f_is_number : Fnx := ⟨T.a_is_number, T.fd_is_number, ["value"], 2⟩
abbrev Tx.f_as_ratio : Fnx := ⟨T.a_as_ratio, T.fd_as_ratio, ["value"], 5⟩
abbrev Tx.f_common_divisor : Fnx := ⟨T.a_common_divisor, T.fd_common_divisor, ["one", "other"], 1⟩
abbrev Tx.f_Ratio_init : Fnx := ⟨T.a_Ratio_init, T.fd_Ratio_init, ["self", "top", "bottom"], 3⟩
abbrev Tx.f_Ratio_over : Fnx := ⟨T.a_Ratio_over, T.fd_Ratio_over, ["self", "other"], 6⟩
abbrev Tx.f_Ratio_str : Fnx := ⟨T.a_Ratio_str, T.fd_Ratio_str, ["self"], 1⟩
abbrev Tx.f_Ratio_neg : Fnx := ⟨T.a_Ratio_neg, T.fd_Ratio_neg, ["self"], 5⟩
abbrev Tx.f_Ratio_add : Fnx := ⟨T.a_Ratio_add, T.fd_Ratio_add, ["self", "other"], 6⟩
abbrev Tx.f_Ratio_radd : Fnx := ⟨T.a_Ratio_radd, T.fd_Ratio_radd, ["self", "other"], 7⟩
abbrev Tx.f_Ratio_sub : Fnx := ⟨T.a_Ratio_sub, T.fd_Ratio_sub, ["self", "other"], 7⟩
abbrev Tx.f_Ratio_rsub : Fnx := ⟨T.a_Ratio_rsub, T.fd_Ratio_rsub, ["self", "other"], 7⟩
abbrev Tx.f_Ratio_le : Fnx := ⟨T.a_Ratio_le, T.fd_Ratio_le, ["self", "other"], 6⟩
abbrev Tx.f_Ratio_ge : Fnx := ⟨T.a_Ratio_ge, T.fd_Ratio_ge, ["self", "other"], 6⟩
abbrev Tx.f_Pool_init : Fnx := ⟨T.a_Pool_init, T.fd_Pool_init, ["self", "middle", "volume"], 40⟩
abbrev Tx.f_Pool_middle : Fnx := ⟨T.a_Pool_middle, T.fd_Pool_middle, ["self"], 40⟩
abbrev Tx.f_Pool_volume : Fnx := ⟨T.a_Pool_volume, T.fd_Pool_volume, ["self"], 40⟩
abbrev Tx.f_Pool_left : Fnx := ⟨T.a_Pool_left, T.fd_Pool_left, ["self"], 40⟩
abbrev Tx.f_Pool_right : Fnx := ⟨T.a_Pool_right, T.fd_Pool_right, ["self"], 40⟩
abbrev Tx.f_Pool_repr : Fnx := ⟨T.a_Pool_repr, T.fd_Pool_repr, ["self"], 41⟩
abbrev Tx.f_Water_init : Fnx := ⟨T.a_Water_init, T.fd_Water_init, ["self", "pools"], 44⟩
abbrev Tx.f_Water_len : Fnx := ⟨T.a_Water_len, T.fd_Water_len, ["self"], 40⟩
abbrev Tx.f_Water_getitem : Fnx := ⟨T.a_Water_getitem, T.fd_Water_getitem, ["self", "at"], 40⟩
abbrev Tx.f_w_box : Fnx := ⟨T.a_w_box, T.fd_w_box, ["_law_script", "_law_k"], 100⟩
abbrev Tx.f_w_take : Fnx := ⟨T.a_w_take, T.fd_w_take, ["_law_box_here", "_law_many"], 100⟩
abbrev Tx.f_w_number : Fnx := ⟨T.a_w_number, T.fd_w_number, ["_law_box_here", "_law_top", "_law_unit"], 101⟩
abbrev Tx.f_w_is : Fnx := ⟨T.a_w_is, T.fd_w_is, ["_law_found", "_law_top", "_law_bottom"], 100⟩
abbrev Tx.f_w_pool : Fnx := ⟨T.a_w_pool, T.fd_w_pool, ["_law_box_here", "_law_unit", "_law_drop"], 102⟩
abbrev Tx.f_w_moments : Fnx := ⟨T.a_w_moments, T.fd_w_moments, ["_law_drops"], 100⟩
abbrev Tx.f_w_is_water : Fnx := ⟨T.a_w_is_water, T.fd_w_is_water, ["_law_found", "_law_unit", "_law_dues"], 101⟩
abbrev Tx.f_w_row : Fnx := ⟨T.a_w_row, T.fd_w_row, ["_law_box_here"], 101⟩
abbrev Tx.f_w_long_row : Fnx := ⟨T.a_w_long_row, T.fd_w_long_row, ["_law_box_here"], 101⟩
abbrev Tx.f_w_due : Fnx := ⟨T.a_w_due, T.fd_w_due, ["_law_drops"], 100⟩
abbrev Tx.f_w_made : Fnx := ⟨T.a_w_made, T.fd_w_made, ["_law_some"], 100⟩
abbrev Tx.f_law : Fnx := ⟨T.a_law, T.fd_law, ["_law_script"], 103⟩
end
end PM
set_option Elab.async false
set_option linter.all false
set_option maxRecDepth 100000
set_option maxHeartbeats 4000000
namespace PM
open PySem L2 PyProof.Rows
set_option hygiene false
local macro_rules | `(tactic| fail "E") => `(tactic| ((with_reducible refine hdn ?_); fail "n"))
local macro_rules | `(tactic| fail "E") => `(tactic| ((with_reducible refine hdc ?_); fail "c"))
local macro_rules | `(tactic| fail "E") => `(tactic| refine wE_if ?_)
local macro_rules | `(tactic| fail "E") => `(tactic| refine wE_un ?_)
local macro_rules | `(tactic| fail "E") => `(tactic| refine wE_one ?_)
local macro_rules | `(tactic| fail "E") => `(tactic| refine wE_or ?_)
local macro_rules | `(tactic| fail "E") => `(tactic| refine wE_and ?_)
local macro_rules | `(tactic| fail "E") => `(tactic| refine wE_not ?_)
local macro_rules | `(tactic| fail "E") => `(tactic| refine wE_non ?_)
local macro_rules | `(tactic| fail "E") => `(tactic| refine wE_bl ?_)
local macro_rules | `(tactic| fail "E") => `(tactic| refine wE_str ?_)
local macro_rules | `(tactic| fail "E") => `(tactic| refine wE_lst ?_)
local macro_rules | `(tactic| fail "E") => `(tactic| refine wE_tup ?_)
local macro_rules | `(tactic| fail "E") => `(tactic| refine wE_cmp ?_)
local macro_rules | `(tactic| fail "E") => `(tactic| refine wE_sub ?_)
local macro_rules | `(tactic| fail "E") => `(tactic| refine wE_bin ?_)
local macro_rules | `(tactic| fail "E") => `(tactic| refine wE_int ?_)
local macro_rules | `(tactic| fail "E") => `(tactic| (refine wE_name gn ?_; (repeat (first | with_reducible refine wGt_z ?_ | with_reducible refine wGt_c ?_ | with_reducible refine wGt_s ?_ | with_reducible refine wGt_f ?_)); fail_if_success refine wGt_chk ?_))
local macro_rules | `(tactic| fail "B") => `(tactic| with_reducible refine wB_pow18 ?_)
local macro_rules | `(tactic| fail "B") => `(tactic| with_reducible refine wB_pow9 ?_)
local macro_rules | `(tactic| fail "B") => `(tactic| with_reducible refine wB_pow8 ?_)
local macro_rules | `(tactic| fail "B") => `(tactic| with_reducible refine wB_pow7 ?_)
local macro_rules | `(tactic| fail "B") => `(tactic| with_reducible refine wB_pow6 ?_)
local macro_rules | `(tactic| fail "B") => `(tactic| with_reducible refine wB_pow5 ?_)
local macro_rules | `(tactic| fail "B") => `(tactic| with_reducible refine wB_isNot ?_)
local macro_rules | `(tactic| fail "B") => `(tactic| with_reducible refine wB_is ?_)
local macro_rules | `(tactic| fail "B") => `(tactic| with_reducible refine wB_neB ?_)
local macro_rules | `(tactic| fail "B") => `(tactic| with_reducible refine wB_eqB ?_)
local macro_rules | `(tactic| fail "B") => `(tactic| with_reducible refine wB_neT ?_)
local macro_rules | `(tactic| fail "B") => `(tactic| with_reducible refine wB_eqT ?_)
local macro_rules | `(tactic| fail "B") => `(tactic| with_reducible refine wB_ne ?_)
local macro_rules | `(tactic| fail "B") => `(tactic| with_reducible refine wB_eq ?_)
local macro_rules | `(tactic| fail "B") => `(tactic| with_reducible refine wB_ge ?_)
local macro_rules | `(tactic| fail "B") => `(tactic| with_reducible refine wB_gt ?_)
local macro_rules | `(tactic| fail "B") => `(tactic| with_reducible refine wB_le ?_)
local macro_rules | `(tactic| fail "B") => `(tactic| with_reducible refine wB_lt ?_)
local macro_rules | `(tactic| fail "B") => `(tactic| ((with_reducible refine wB_fdivS ?qc ?_); (case qc => exact ⟨by (first | with_reducible assumption | omega), by (first | with_reducible assumption | omega)⟩)))
local macro_rules | `(tactic| fail "B") => `(tactic| ((with_reducible refine wB_mod ?qc ?_); (case qc => (first | with_reducible assumption | omega))))
local macro_rules | `(tactic| fail "B") => `(tactic| ((with_reducible refine wB_mulL ?qc ?_); (case qc => exact ⟨by (first | with_reducible assumption | omega), by (first | with_reducible assumption | omega)⟩)))
local macro_rules | `(tactic| fail "B") => `(tactic| ((with_reducible refine wB_mulR ?qc ?_); (case qc => exact ⟨by (first | with_reducible assumption | omega), by (first | with_reducible assumption | omega)⟩)))
local macro_rules | `(tactic| fail "B") => `(tactic| with_reducible refine wB_sub ?_)
local macro_rules | `(tactic| fail "B") => `(tactic| with_reducible refine wB_add ?_)
local macro_rules | `(tactic| fail "F") => `(tactic| with_reducible refine wF_min g.toGd ?_)
local macro_rules | `(tactic| fail "F") => `(tactic| with_reducible refine wF_max g.toGd ?_)
local macro_rules | `(tactic| fail "F") => `(tactic| with_reducible refine wF_abs ?_)
local macro_rules | `(tactic| fail "F") => `(tactic| with_reducible refine wF_boolB ?_)
local macro_rules | `(tactic| fail "F") => `(tactic| with_reducible refine wF_intB ?_)
local macro_rules | `(tactic| fail "F") => `(tactic| ((with_reducible refine chkB "len" ?_); refine wF_len (by (first | exact .inl rfl | exact .inr (.inl rfl) | exact .inr (.inr (.inl rfl)) | exact .inr (.inr (.inr ⟨_, rfl, by (first | assumption | with_reducible exact at_last | with_reducible exact at_new rfl | with_reducible exact at_left (by assumption) | with_reducible exact List.getElem?_set_self (by assumption) | with_reducible exact at_left (at_left (by assumption)))⟩)))) ?_))
local macro_rules | `(tactic| fail "X") => `(tactic| (refine wX_ints (by (first | exact .inl rfl | exact .inr (.inl rfl) | exact .inr (.inr (.inl rfl)) | exact .inr (.inr (.inr ⟨_, rfl, by (first | assumption | with_reducible exact at_last | with_reducible exact at_new rfl | with_reducible exact at_left (by assumption) | with_reducible exact List.getElem?_set_self (by assumption) | with_reducible exact at_left (at_left (by assumption)))⟩)))) (by (repeat (first | exact Ints.nil | apply Ints.cons))) (by (first | with_reducible assumption | omega)) (by (simp only [List.length_cons, List.length_nil]; omega)) ?_; intro v hv; simp only [List.mem_cons, List.not_mem_nil, or_false] at hv))
local macro_rules | `(tactic| fail "X") => `(tactic| refine wX_at (by (first | exact .inl rfl | exact .inr (.inl rfl) | exact .inr (.inr (.inl rfl)) | exact .inr (.inr (.inr ⟨_, rfl, by (first | assumption | with_reducible exact at_last | with_reducible exact at_new rfl | with_reducible exact at_left (by assumption) | with_reducible exact List.getElem?_set_self (by assumption) | with_reducible exact at_left (at_left (by assumption)))⟩)))) rfl ?_)
local macro_rules | `(tactic| fail "X") => `(tactic| refine wX_if2 (by (first | exact .inl rfl | exact .inr (.inl rfl) | exact .inr (.inr (.inl rfl)) | exact .inr (.inr (.inr ⟨_, rfl, by (first | assumption | with_reducible exact at_last | with_reducible exact at_new rfl | with_reducible exact at_left (by assumption) | with_reducible exact List.getElem?_set_self (by assumption) | with_reducible exact at_left (at_left (by assumption)))⟩)))) ?_)
local macro_rules | `(tactic| fail "X") => `(tactic| refine wX_if2I (by (first | exact .inl rfl | exact .inr (.inl rfl) | exact .inr (.inr (.inl rfl)) | exact .inr (.inr (.inr ⟨_, rfl, by (first | assumption | with_reducible exact at_last | with_reducible exact at_new rfl | with_reducible exact at_left (by assumption) | with_reducible exact List.getElem?_set_self (by assumption) | with_reducible exact at_left (at_left (by assumption)))⟩)))) ?_)
local macro_rules | `(tactic| fail "A") => `(tactic| refine wA_nil ?_)
local macro_rules | `(tactic| fail "A") => `(tactic| refine wA_cons ?_)
local macro_rules | `(tactic| fail "C") => `(tactic| refine wC_val ?_)
local macro_rules | `(tactic| fail "C") => `(tactic| refine wC_bool ?_)
local macro_rules | `(tactic| fail "C") => `(tactic| refine wC_not ?_)
local macro_rules | `(tactic| fail "C") => `(tactic| refine wC_cmp ?_)
local macro_rules | `(tactic| fail "W") => `(tactic| refine wCw_or1 ?_)
local macro_rules | `(tactic| fail "W") => `(tactic| refine wCw_and1 ?_)
local macro_rules | `(tactic| fail "W") => `(tactic| refine wCw_or ?_)
local macro_rules | `(tactic| fail "W") => `(tactic| refine wCw_and ?_)
local macro_rules | `(tactic| fail "U") => `(tactic| with_reducible refine wU_neg ?_)
local macro_rules | `(tactic| fail "P") => `(tactic| with_reducible refine wPt_s ?_)
local macro_rules | `(tactic| fail "P") => `(tactic| with_reducible refine wPt_c ?_)
local macro_rules | `(tactic| fail "P") => `(tactic| with_reducible refine wPt_z ?_)
local macro_rules | `(tactic| fail "G") => `(tactic| refine wG_name gn ?_)
local macro_rules | `(tactic| fail "G") => `(tactic| refine wG_tup g.calm ?_)
local macro_rules | `(tactic| fail "H") => `(tactic| refine wGs_nil ?_)
local macro_rules | `(tactic| fail "H") => `(tactic| refine wGs_cons ?_)
local macro_rules | `(tactic| fail "S") => `(tactic| refine wS_pass ?_)
local macro_rules | `(tactic| fail "S") => `(tactic| refine wS_asg ?_)
local macro_rules | `(tactic| fail "S") => `(tactic| refine wS_ix ?_)
local macro_rules | `(tactic| fail "S") => `(tactic| refine wS_expr ?_)
local macro_rules | `(tactic| fail "S") => `(tactic| refine wS_if ?_)
local macro_rules | `(tactic| fail "S") => `(tactic| refine wS_ret ?_)
local macro_rules | `(tactic| fail "S") => `(tactic| (refine wS_par3 g ?qa ?_; (case qa => exact ⟨_, _, _, by (repeat (first | with_reducible exact Il.z | with_reducible apply Il.s)), by (repeat (first | with_reducible exact Il.z | with_reducible apply Il.s)), by (repeat (first | with_reducible exact Il.z | with_reducible apply Il.s)), by decide, by decide, by decide⟩)))
local macro_rules | `(tactic| fail "S") => `(tactic| (refine wS_par g ?qa ?_; (case qa => exact ⟨_, _, by (repeat (first | with_reducible exact Il.z | with_reducible apply Il.s)), by (repeat (first | with_reducible exact Il.z | with_reducible apply Il.s)), by decide⟩)))
local macro_rules | `(tactic| fail "S") => `(tactic| (refine wS_set gn ?qa ?_; (case qa => exact ⟨_, by (repeat (first | with_reducible exact Ix.z | with_reducible exact Ix.c | with_reducible apply Ix.s))⟩)))
local macro_rules | `(tactic| fail "L") => `(tactic| refine wSs_nil ?_)
local macro_rules | `(tactic| fail "c") => `(tactic| ((with_reducible refine chkC "sum" ?_); refine xE_blt gn ?qa T.n_sum boot_sum ?_; (case qa => (repeat (first | with_reducible exact In.z | with_reducible apply In.s)))))
local macro_rules | `(tactic| fail "c") => `(tactic| ((with_reducible refine chkC "any" ?_); refine xE_blt gn ?qa T.n_any boot_any ?_; (case qa => (repeat (first | with_reducible exact In.z | with_reducible apply In.s)))))
local macro_rules | `(tactic| fail "c") => `(tactic| ((with_reducible refine chkC "all" ?_); refine xE_blt gn ?qa T.n_all boot_all ?_; (case qa => (repeat (first | with_reducible exact In.z | with_reducible apply In.s)))))
local macro_rules | `(tactic| fail "c") => `(tactic| ((with_reducible refine chkC "bool" ?_); refine xE_bcl gn ?qa T.n_bool boot_bool ?_; (case qa => (repeat (first | with_reducible exact In.z | with_reducible apply In.s)))))
local macro_rules | `(tactic| fail "c") => `(tactic| ((with_reducible refine chkC "list" ?_); refine xE_bcl gn ?qa T.n_list boot_list ?_; (case qa => (repeat (first | with_reducible exact In.z | with_reducible apply In.s)))))
local macro_rules | `(tactic| fail "c") => `(tactic| ((with_reducible refine chkC "tuple" ?_); refine xE_bcl gn ?qa T.n_tuple boot_tuple ?_; (case qa => (repeat (first | with_reducible exact In.z | with_reducible apply In.s)))))
local macro_rules | `(tactic| fail "c") => `(tactic| ((with_reducible refine chkC "isinstance" ?_); refine xE_blt gn ?qa T.n_isinstance boot_isinstance ?_; (case qa => (repeat (first | with_reducible exact In.z | with_reducible apply In.s)))))
local macro_rules | `(tactic| fail "c") => `(tactic| ((with_reducible refine chkC "repr" ?_); refine xE_blt gn ?qa T.n_repr boot_repr ?_; (case qa => (repeat (first | with_reducible exact In.z | with_reducible apply In.s)))))
local macro_rules | `(tactic| fail "c") => `(tactic| ((with_reducible refine chkC "str" ?_); refine xE_bcl gn ?qa T.n_str boot_str ?_; (case qa => (repeat (first | with_reducible exact In.z | with_reducible apply In.s)))))
local macro_rules | `(tactic| fail "c") => `(tactic| ((with_reducible refine chkC "min" ?_); refine xE_blt gn ?qa T.n_min boot_min ?_; (case qa => (repeat (first | with_reducible exact In.z | with_reducible apply In.s)))))
local macro_rules | `(tactic| fail "c") => `(tactic| ((with_reducible refine chkC "max" ?_); refine xE_blt gn ?qa T.n_max boot_max ?_; (case qa => (repeat (first | with_reducible exact In.z | with_reducible apply In.s)))))
local macro_rules | `(tactic| fail "c") => `(tactic| ((with_reducible refine chkC "abs" ?_); refine xE_blt gn ?qa T.n_abs boot_abs ?_; (case qa => (repeat (first | with_reducible exact In.z | with_reducible apply In.s)))))
local macro_rules | `(tactic| fail "c") => `(tactic| ((with_reducible refine chkC "int" ?_); refine xE_bcl gn ?qa T.n_int boot_int ?_; (case qa => (repeat (first | with_reducible exact In.z | with_reducible apply In.s)))))
local macro_rules | `(tactic| fail "c") => `(tactic| ((with_reducible refine chkC "len" ?_); refine xE_blt gn ?qa T.n_len boot_len ?_; (case qa => (repeat (first | with_reducible exact In.z | with_reducible apply In.s)))))
local macro_rules | `(tactic| fail "n") => `(tactic| ((with_reducible refine chkN "Water" ?_); refine xE_cls gn ?qa T.g_Water ?_; (case qa => (repeat (first | with_reducible exact In.z | with_reducible apply In.s)))))
local macro_rules | `(tactic| fail "n") => `(tactic| ((with_reducible refine chkN "Pool" ?_); refine xE_cls gn ?qa T.g_Pool ?_; (case qa => (repeat (first | with_reducible exact In.z | with_reducible apply In.s)))))
local macro_rules | `(tactic| fail "n") => `(tactic| ((with_reducible refine chkN "Ratio" ?_); refine xE_cls gn ?qa T.g_Ratio ?_; (case qa => (repeat (first | with_reducible exact In.z | with_reducible apply In.s)))))
local macro_rules | `(tactic| fail "n") => `(tactic| ((with_reducible refine chkN "UnknownIndex" ?_); refine xE_cls gn ?qa T.g_UnknownIndex ?_; (case qa => (repeat (first | with_reducible exact In.z | with_reducible apply In.s)))))
local macro_rules | `(tactic| fail "n") => `(tactic| ((with_reducible refine chkN "Touching" ?_); refine xE_cls gn ?qa T.g_Touching ?_; (case qa => (repeat (first | with_reducible exact In.z | with_reducible apply In.s)))))
local macro_rules | `(tactic| fail "n") => `(tactic| ((with_reducible refine chkN "Full" ?_); refine xE_cls gn ?qa T.g_Full ?_; (case qa => (repeat (first | with_reducible exact In.z | with_reducible apply In.s)))))
local macro_rules | `(tactic| fail "n") => `(tactic| ((with_reducible refine chkN "InvalidDrop" ?_); refine xE_cls gn ?qa T.g_InvalidDrop ?_; (case qa => (repeat (first | with_reducible exact In.z | with_reducible apply In.s)))))
local macro_rules | `(tactic| fail "n") => `(tactic| ((with_reducible refine chkN "InvalidNumber" ?_); refine xE_cls gn ?qa T.g_InvalidNumber ?_; (case qa => (repeat (first | with_reducible exact In.z | with_reducible apply In.s)))))
local macro_rules | `(tactic| fail "n") => `(tactic| ((with_reducible refine chkN "PoolError" ?_); refine xE_cls gn ?qa T.g_PoolError ?_; (case qa => (repeat (first | with_reducible exact In.z | with_reducible apply In.s)))))
local macro_rules | `(tactic| fail "n") => `(tactic| ((with_reducible refine chkN "list" ?_); refine xE_bty gn ?qa T.n_list boot_list ?_; (case qa => (repeat (first | with_reducible exact In.z | with_reducible apply In.s)))))
local macro_rules | `(tactic| fail "n") => `(tactic| ((with_reducible refine chkN "tuple" ?_); refine xE_bty gn ?qa T.n_tuple boot_tuple ?_; (case qa => (repeat (first | with_reducible exact In.z | with_reducible apply In.s)))))
local macro_rules | `(tactic| fail "n") => `(tactic| ((with_reducible refine chkN "str" ?_); refine xE_bty gn ?qa T.n_str boot_str ?_; (case qa => (repeat (first | with_reducible exact In.z | with_reducible apply In.s)))))
local macro_rules | `(tactic| fail "n") => `(tactic| ((with_reducible refine chkN "bool" ?_); refine xE_bty gn ?qa T.n_bool boot_bool ?_; (case qa => (repeat (first | with_reducible exact In.z | with_reducible apply In.s)))))
local macro_rules | `(tactic| fail "n") => `(tactic| ((with_reducible refine chkN "int" ?_); refine xE_bty gn ?qa T.n_int boot_int ?_; (case qa => (repeat (first | with_reducible exact In.z | with_reducible apply In.s)))))
local macro_rules | `(tactic| fail "O") => `(tactic| refine Exists.intro _ (Exists.intro _ (Exists.intro _ (Exists.intro _ (And.intro rfl (And.intro rfl (And.intro (by (first | assumption | with_reducible exact at_last | with_reducible exact at_new rfl | with_reducible exact at_left (by assumption) | with_reducible exact List.getElem?_set_self (by assumption) | with_reducible exact at_left (at_left (by assumption)))) (And.intro rfl ?_))))))))
local macro_rules | `(tactic| fail "O") => `(tactic| refine Exists.intro _ (Exists.intro _ (Exists.intro _ (And.intro rfl ?_))))
local macro_rules | `(tactic| fail "O") => `(tactic| refine Exists.intro _ (Exists.intro _ (And.intro rfl ?_)))
local macro_rules | `(tactic| fail "O") => `(tactic| refine And.intro (by (simp only [List.length_cons, List.length_nil]; decide)) ?_)
local macro_rules | `(tactic| fail "O") => `(tactic| refine Exists.intro _ (And.intro rfl ?_))
local macro_rules | `(tactic| fail "I") => `(tactic| ((with_reducible refine iteNF ?_); fail "o"))
local macro_rules | `(tactic| fail "I") => `(tactic| ((with_reducible refine iteNT ?_); fail "o"))
local macro_rules | `(tactic| fail "I") => `(tactic| ((with_reducible refine iteFT ?_); fail "o"))
local macro_rules | `(tactic| fail "I") => `(tactic| ((with_reducible refine iteTT ?_); fail "o"))
local macro_rules | `(tactic| fail "J") => `(tactic| ((with_reducible refine iteNF ?_); fail "st"))
local macro_rules | `(tactic| fail "J") => `(tactic| ((with_reducible refine iteNT ?_); fail "st"))
local macro_rules | `(tactic| fail "J") => `(tactic| ((with_reducible refine iteFT ?_); fail "st"))
local macro_rules | `(tactic| fail "J") => `(tactic| ((with_reducible refine iteTT ?_); fail "st"))
local macro_rules | `(tactic| fail "su") => `(tactic| ((with_reducible refine hdL ?_); fail "L"))
local macro_rules | `(tactic| fail "su") => `(tactic| ((with_reducible refine hdS ?_); fail "S"))
local macro_rules | `(tactic| fail "p") => `(tactic| fail "O")
local macro_rules | `(tactic| fail "p") => `(tactic| ((with_reducible refine hdH ?_); fail "H"))
local macro_rules | `(tactic| fail "p") => `(tactic| ((with_reducible refine hdG ?_); fail "G"))
local macro_rules | `(tactic| fail "p") => `(tactic| ((with_reducible refine hdP ?_); fail "P"))
local macro_rules | `(tactic| fail "p") => `(tactic| ((with_reducible refine hdU ?_); fail "U"))
local macro_rules | `(tactic| fail "p") => `(tactic| ((with_reducible refine hdW ?_); fail "W"))
local macro_rules | `(tactic| fail "p") => `(tactic| ((with_reducible refine hdC ?_); fail "C"))
local macro_rules | `(tactic| fail "p") => `(tactic| ((with_reducible refine hdX ?_); fail "X"))
local macro_rules | `(tactic| fail "p") => `(tactic| ((with_reducible refine hdF ?_); fail "F"))
local macro_rules | `(tactic| fail "p") => `(tactic| ((with_reducible refine hdB ?_); fail "B"))
local macro_rules | `(tactic| fail "p") => `(tactic| ((with_reducible refine hdA ?_); fail "A"))
local macro_rules | `(tactic| fail "p") => `(tactic| ((with_reducible refine hdE ?_); fail "E"))
local macro_rules | `(tactic| fail "st") => `(tactic| ((with_reducible refine hdI ?_); fail "J"))
local macro_rules | `(tactic| fail "st") => `(tactic| ((fail_if_success (with_reducible refine hdI ?_)); fail "su"))
local macro_rules | `(tactic| fail "o") => `(tactic| ((with_reducible refine hdI ?_); fail "I"))
local macro_rules | `(tactic| fail "o") => `(tactic| ((fail_if_success (with_reducible refine hdI ?_)); fail "p"))
local macro_rules | `(tactic| walk_at "in") => `(tactic| (repeat (first | with_reducible exact In.z | with_reducible apply In.s)))
local macro_rules | `(tactic| walk_at "at") => `(tactic| (first | assumption | with_reducible exact at_last | with_reducible exact at_new rfl | with_reducible exact at_left (by assumption) | with_reducible exact List.getElem?_set_self (by assumption) | with_reducible exact at_left (at_left (by assumption))))
local macro_rules | `(tactic| walk_at "ixd") => `(tactic| (first | exact .inl rfl | exact .inr (.inl rfl) | exact .inr (.inr (.inl rfl)) | exact .inr (.inr (.inr ⟨_, rfl, by (first | assumption | with_reducible exact at_last | with_reducible exact at_new rfl | with_reducible exact at_left (by assumption) | with_reducible exact List.getElem?_set_self (by assumption) | with_reducible exact at_left (at_left (by assumption)))⟩))))
local macro_rules | `(tactic| walk_at "ints") => `(tactic| (repeat (first | exact Ints.nil | apply Ints.cons)))
local macro_rules | `(tactic| walk_at "num") => `(tactic| (first | with_reducible assumption | omega))
local macro_rules | `(tactic| walk_at "nm") => `(tactic| (first | exact Num.rt _ | exact Num.int _ | assumption))
local macro_rules | `(tactic| walk_at "fit") => `(tactic| (first | with_reducible assumption | exact Fit.mono (by (repeat' (first | with_reducible assumption | with_reducible exact fit_two | with_reducible apply fit_add | with_reducible apply fit_sub | with_reducible apply fit_mul | with_reducible apply fit_half | with_reducible apply fit_rabs | with_reducible apply fit_neg))) (by decide) | exact Fit.mono (n := 64) (fit_int (by omega) (by decide)) (by decide)))
local macro_rules | `(tactic| walk_at "ix") => `(tactic| (repeat (first | with_reducible exact Ix.z | with_reducible exact Ix.c | with_reducible apply Ix.s)))
local macro_rules | `(tactic| walk_at "il") => `(tactic| (repeat (first | with_reducible exact Il.z | with_reducible apply Il.s)))
local macro_rules | `(tactic| walk_at "one") => `(tactic| first | fail "o" | fail "st" | refine wSs_cons ?_)
local macro_rules | `(tactic| walk_at "wp") => `(tactic| repeat (first | fail "o" | fail "st" | refine wSs_cons ?_))
local macro_rules | `(tactic| walk_at "s1") => `(tactic| (refine wSs_cons ?_; repeat (first | fail "o" | fail "st")))
local macro_rules | `(tactic| walk_at "e") => `(tactic| repeat (fail "o"))
local macro_rules | `(tactic| walk_at "start") => `(tactic| (intro ρ hρ cdv A outer s H E g; simp only [startD, List.map_cons, List.map_nil, List.length_cons, List.length_nil, List.replicate_succ, List.replicate_zero, List.cons_append, List.nil_append, Nat.reduceAdd, Nat.reduceSub] at hρ; subst hρ; have gn := g.toNx'))
local macro_rules | `(tactic| walk_at "suite") => `(tactic| (intro a dd oe pn hz hv gn ρs hρ; simp only [List.set_cons_succ, List.set_cons_zero] at hρ; subst hρ))
local macro_rules | `(tactic| walk_at "after") => `(tactic| (intro ρs hρ; simp only [List.set_cons_succ, List.set_cons_zero] at hρ; subst hρ))
local macro_rules | `(tactic| walk_at "blk") => `(tactic| (intro s H C cl fp g; have gn := g.toNx'))
section
variable {P : Program} {w : World} {K : PySem.W.Frag} {mg : Str → Option Value} {base : Heap} (T : Tx K mg)
/-- a draw: any number below m -/
theorem sp_take {μ : List M} {n : Nat} {m : Int} {Q : KV} {Z : KX} (hb : μ[n]? = some .box) (h0 : 0 < m) (h1 : m < 2 ^ 64) (h : ∀ d, 0 ≤ d → d < m → Q (.int d) μ) : SpF P w K mg base T.f_w_take [.loc n, .int m] μ Q Z := by
  refine spX_of T.F_w_take sc_w_take ck_w_take rfl ?_
  walk_at "start"
  refine wSs.some (S := fun μ1 => ∃ i j k, μ1 = μ.set n (bxI i j k)) ?_ fun K L G H o => let ⟨i, j, k, o'⟩ := (List.append_nil μ ▸ o).unbox hb; ⟨_, ⟨i, j, k, rfl⟩, o'⟩
  rintro _ ⟨i, j, k, rfl⟩
  have hn : n < μ.length := (List.getElem?_eq_some_iff.mp hb).1
  have fin : ∀ d i j k, 0 ≤ d → d < m → RetOk μ Q (.int d) (μ.set n (bxI i j k)) := fun d i j k q1 q2 => .le (le_box hb) (.same (h d q1 q2))
  walk_at "wp"
  refine br_dec (fun hi => ?_) (fun hi => ?_)
  · walk_at "wp"
    refine wB_fdiv ⟨h0, Nat.lt_trans (log2_lt (show m.natAbs < 2 ^ 64 by omega) (by decide)) (by decide)⟩ ?_
    walk_at "wp"
    rw [List.set_set]
    exact fin _ _ _ _ (Int.emod_nonneg _ (by omega)) (Int.emod_lt_of_pos _ h0)
  · walk_at "wp"
    rw [List.set_set]
    walk_at "wp"
    rw [List.set_set]
    walk_at "wp"
    refine br_dec (fun hm => ?_) (fun hm => ?_)
    · walk_at "wp"
      exact fin _ _ _ _ (Int.emod_nonneg _ (by omega)) (Int.emod_lt_of_pos _ h0)
    · walk_at "wp"
      exact fin _ _ _ _ (Int.emod_nonneg _ (by omega)) (Int.emod_lt_of_pos _ h0)
/-- a new box -/
theorem sp_box {μ : List M} {ns : List Int} {k : Int} {Q : KV} {Z : KX} (h0 : 0 ≤ k) (h1 : k < 1000) (h : Q (.loc μ.length) (μ ++ [.box])) : SpF P w K mg base T.f_w_box [.scr (ns.map D.int), .int k] μ Q Z := by
  refine spX_of T.F_w_box sc_w_box ck_w_box rfl ?_
  walk_at "start"
  have fin : ∀ d i j k, d = .loc (μ ++ ([] : List M)).length → RetOk μ Q d ((μ ++ []) ++ [bxI i j k]) := fun d i j k e => by
    subst e
    rw [List.append_nil]
    exact .le le_newbox (.same h)
  have rest : ∀ c : Int, ∀ {κ : Ks} {nx : KN}, κ.rt = RetOk μ Q → wSs (cxOf (L2.CX P w) P w K mg base n_w_box "_law_box" (defScope s_w_box) T.a_w_box cdv A outer s H E) (fun c d _ H => E c d H) [some (.scr (ns.map D.int)), some (.int k), some (.int c), none] (μ ++ []) ((defBody s_w_box).drop 2) nx κ := by
    intro c κ nx hκ
    walk_at "s1"
    refine wSs_cons (wS_ret ?_)
    rw [hκ]
    refine wE_lstL ?_
    walk_at "e"
    exact fin _ _ _ _ rfl
  walk_at "s1"
  walk_at "s1"
  have ln : (ns.map D.int).length = ns.length := by simp
  rw [ln]
  refine br_dec (fun hk => ?_) (fun hk => ?_)
  · walk_at "s1"
    refine wX_some (by walk_at "ixd") h0 (by rw [ln]; exact hk) fun n d e _ => ?_
    rw [List.getElem?_map] at e
    obtain ⟨i, _, rfl⟩ := Option.map_eq_some_iff.mp e
    walk_at "e"
    refine wSs_nil ?_
    exact rest i (by rfl)
  · walk_at "s1"
    rw [ln]
    refine br_dec (fun hl => ?_) (fun hl => ?_)
    · walk_at "s1"
      rw [ln]
      walk_at "e"
      refine wX_some (by walk_at "ixd") (Int.emod_nonneg _ (by omega)) (by rw [ln]; exact Int.emod_lt_of_pos _ hl) fun n d e _ => ?_
      rw [List.getElem?_map] at e
      obtain ⟨i, _, rfl⟩ := Option.map_eq_some_iff.mp e
      walk_at "e"
      refine wSs_nil (wSs_nil ?_)
      exact rest _ (by rfl)
    · refine wSs_nil (wSs_nil ?_)
      exact rest _ (by rfl)
end
end PM
set_option Elab.async false
set_option linter.all false
set_option maxRecDepth 100000
set_option maxHeartbeats 4000000
namespace PM
open PySem L2 PyProof.Rows
/-- a ratio -/
def rt (C : Addr) (q : Rat) : D := .obj C ["top", "bottom"] [.int q.num, .int q.den]
/-- values that are known: whether they are numbers -/
inductive Kn (K : PySem.W.Frag) (C : Addr) : D → Bool → Prop
  | int (i : Int) : Kn K C (.int i) true
  | rt (q : Rat) : Kn K C (rt C q) true
  | non : Kn K C .non false
  | bl (b : Bool) : Kn K C (.bl b) false
  | str (x : Str) : Kn K C (.str x) false
  | tup (ds : List D) : Kn K C (.tup ds) false
  | lst (ds : List D) : Kn K C (.lst ds) false
  | obj {C' : Addr} (ns : List Str) (ds : List D) : OwnC K C' → C' ≠ C → Kn K C (.obj C' ns ds) false
/-- numbers -/
inductive Num (C : Addr) : D → Rat → Prop
  | int (i : Int) : Num C (.int i) (i : Rat)
  | rt (q : Rat) : Num C (rt C q) q
theorem Num.kn {K : PySem.W.Frag} {C : Addr} {d : D} {q : Rat} : Num C d q → Kn K C d true
  | .int i => .int i
  | .rt q => .rt q
def isRt (C : Addr) : D → Bool
  | .obj C' _ _ => decide (C' = C)
  | _ => false
def isI : D → Bool
  | .int _ => true
  | _ => false
def isB : D → Bool
  | .bl _ => true
  | _ => false
theorem Kn.ty {K : PySem.W.Frag} {C : Addr} {d : D} {b : Bool} (c : OwnC K C) (h : Kn K C d b) : ∃ t, TyD K d t ∧ PySem.W.kitOne K t (.ref C) = some (isRt C d) ∧ PySem.W.kitOne K t (.type "int") = some (isI d || isB d) ∧ PySem.W.kitOne K t (.type "bool") = some (isB d) := by
  cases h with
  | int i => exact ⟨_, .int, kit_ty_own c mro_int rfl, rfl, rfl⟩
  | rt q => exact ⟨_, .obj c, by simp only [PM.rt, isRt, decide_true]; exact kit_own_self, kit_own_ty c (by decide) (by decide), kit_own_ty c (by decide) (by decide)⟩
  | non => exact ⟨_, .non, kit_ty_own c mro_non rfl, rfl, rfl⟩
  | bl b => exact ⟨_, .bl, kit_ty_own c mro_bool rfl, rfl, rfl⟩
  | str x => exact ⟨_, .str, kit_ty_own c mro_str rfl, rfl, rfl⟩
  | tup ds => exact ⟨_, .tup, kit_ty_own c mro_tup rfl, rfl, rfl⟩
  | lst ds => exact ⟨_, .lst, kit_ty_own c mro_lst rfl, rfl, rfl⟩
  | obj ns ds c' ne => exact ⟨_, .obj c', by simp only [isRt, ne, decide_false]; exact kit_own_own c' c ne, kit_own_ty c' (by decide) (by decide), kit_own_ty c' (by decide) (by decide)⟩
theorem Kn.num {K : PySem.W.Frag} {C : Addr} {d : D} {b : Bool} (h : Kn K C d b) : b = (isRt C d || isI d) := by
  cases h with
  | rt q => simp [PM.rt, isRt]
  | obj ns ds c' ne => simp [isRt, isI, ne]
  | _ => rfl
theorem Kn.nb {K : PySem.W.Frag} {C : Addr} {d : D} {b : Bool} (h : Kn K C d b) : ((isI d || isB d) && !isB d) = isI d := by
  cases h <;> rfl
section
variable {P : Program} {w : World} {K : PySem.W.Frag} {mg : Str → Option Value} {base : Heap} (T : Tx K mg)
def R_is_integer (T : Tx K mg) : Rl := fun ds μ o => ∃ d b, ds = [d] ∧ Kn K T.C_Ratio d b ∧ o = .ret (.bl (isI d)) μ
theorem ok_is_integer : FnG P w K mg base 1 T.a_is_integer T.fd_is_integer ["value"] (spR K (R_is_integer T)) := by
  refine fnR T.F_is_integer sc_is_integer (fun ds μ o ⟨d, b, e, _⟩ => by rw [e]; rfl) fun cdv A outer s H E g ds μ o h => ?_
  obtain ⟨d, b, rfl, kn, rfl⟩ := h
  obtain ⟨t, ty, h0, h1, h2⟩ := kn.ty T.own_Ratio
  rw [← kn.nb]
  refine ⟨_, .ret0, ess_one (es_retV (ev_and (k := isI d || isB d) (k' := !isB d) (ev_bltV (ev_cons (ev_var 0 rfl) (ev_cons (ev_bty (T := "int") rfl T.n_int boot_int) ev_nil)) (cb_isi ty (.ty "int") h1) T.n_isinstance boot_isinstance) fun _ => ?_))⟩
  exact ev_oneV (ev_not (ev_bltV (ev_cons (ev_var 0 rfl) (ev_cons (ev_bty (T := "bool") rfl T.n_bool boot_bool) ev_nil)) (cb_isi ty (.ty "bool") h2) T.n_isinstance boot_isinstance))
def R_is_number (T : Tx K mg) : Rl := fun ds μ o => ∃ d b, ds = [d] ∧ Kn K T.C_Ratio d b ∧ o = .ret (.bl b) μ
theorem ok_is_number : FnG P w K mg base 2 T.a_is_number T.fd_is_number ["value"] (spR K (R_is_number T)) := by
  refine fnR T.F_is_number sc_is_number (fun ds μ o ⟨d, b, e, _⟩ => by rw [e]; rfl) fun cdv A outer s H E g ds μ o h => ?_
  obtain ⟨d, b, rfl, kn, rfl⟩ := h
  obtain ⟨t, ty, h0, h1, h2⟩ := kn.ty T.own_Ratio
  rw [kn.num]
  refine ⟨_, .ret0, ess_one (es_retV (ev_or (k := isRt T.C_Ratio d) (k' := isI d) (ev_bltV (ev_cons (ev_var 0 rfl) (ev_cons (ev_glob (v := .ref T.C_Ratio) (d := .ref T.C_Ratio) rfl T.g_Ratio rfl fun _ _ => rep_ref.mpr rfl) ev_nil)) (cb_isi ty (.own _) h0) T.n_isinstance boot_isinstance) fun _ => ?_))⟩
  exact ev_oneV (ev_callV g ⟨ok_is_integer T, T.b_is_integer⟩ T.g_is_integer T.F_is_integer.kp (ev_cons (ev_var 0 rfl) ev_nil) ⟨d, b, rfl, kn, rfl⟩)
end
end PM
set_option Elab.async false
set_option linter.all false
set_option maxRecDepth 100000
set_option maxHeartbeats 4000000
namespace PM
open PySem L2 PyProof.Rows
section
variable {P : Program} {w : World} {K : PySem.W.Frag} {mg : Str → Option Value} {base : Heap} (T : Tx K mg)
def R_gcd : Rl := fun ds μ o => ∃ a b : Nat, ds = [.int a, .int b] ∧ o = .ret (.int (Nat.gcd a b : Nat)) μ
theorem ok_common_divisor : FnG P w K mg base 1 T.a_common_divisor T.fd_common_divisor ["one", "other"] (spR K R_gcd) := by
  refine fnR T.F_common_divisor sc_common_divisor (fun ds μ o ⟨d, b, e, _⟩ => by rw [e]; rfl) fun cdv A outer s H E g ds μ o h => ?_
  obtain ⟨a, b, rfl, rfl⟩ := h
  refine ⟨_, .ret0, ess_cons (es_whileM (S := Nat × Nat) (fun s => [some (.int s.1), some (.int s.2)]) (fun _ => μ) (fun s => s.2) (fun s => decide (0 < (s.2 : Int))) (fun s => (s.2, s.1 % s.2)) (fun s => (Nat.gcd s.1 s.2, 0)) g (a, b)
    (fun s => et_cmp (ev_var 1 rfl) ev_int oc_gt) (fun s hs => ?_) (fun s hs => ?_) (fun s hs => ?_) (fun s hs => ?_)) (ess_one (es_retV (ev_var 0 rfl)))⟩
  · refine ess_one ?_
    rw [Int.natCast_emod]
    exact es_par 0 1 g (ev_cons (ev_var 1 rfl) (ev_cons (ev_opI (ev_var 0 rfl) (ev_var 1 rfl) (oo_mod (of_decide_eq_true hs))) ev_nil))
  · have := of_decide_eq_true hs
    exact Nat.mod_lt _ (by omega)
  · have h0 := of_decide_eq_false hs
    have : s.2 = 0 := by omega
    obtain ⟨x, y⟩ := s
    simp only at this
    subst this
    simp
  · obtain ⟨x, y⟩ := s
    simp only [Prod.mk.injEq, and_true]
    rw [Nat.gcd_comm x y, Nat.gcd_rec y x, Nat.gcd_comm]
theorem err_InvalidNumber : ErrC P w K mg base T.C_InvalidNumber ["value"] :=
  ⟨T.oex_InvalidNumber, _, _, _, _, T.i_InvalidNumber, T.t_InvalidNumber, fn_I1 (f := "value") (FunD.plain T.F_InvalidNumber_init) sc_InvalidNumber_init T.oex_InvalidNumber T.na_InvalidNumber_value (fun cdv A outer s H E => pss_cons (ps_expr (pe_upinit rfl T.g_PoolError T.up_PoolError (pa_cons (pv 0) pa_nil))) (pss_one (ps_ost (pv 0) (pv 1)))), T.b_InvalidNumber_init, .inl ⟨_, rfl, rfl⟩⟩
/-- Ratio.__init__ -/
def R_init (T : Tx K mg) : Rl := fun ds μ o => ∃ n t b, ds = [.loc n, .int t, .int b] ∧ μ[n]? = some (.ins T.C_Ratio [] []) ∧
  ((b = 0 ∧ o = .exc T.C_InvalidNumber ["value"] [.int 0] μ) ∨ (b ≠ 0 ∧ b.natAbs < 2 ^ 9000 ∧ o = .ret .non (μ.set n (.ins T.C_Ratio ["top", "bottom"] [.int (Rat.divInt t b).num, .int (Rat.divInt t b).den]))))
theorem gcd_fits {t b : Int} (hb : 0 < b) (h : b.natAbs < 2 ^ 9000) : CDivW t (Nat.gcd t.natAbs b.natAbs : Nat) := by
  have h0 : 0 < Nat.gcd t.natAbs b.natAbs := Nat.gcd_pos_of_pos_right _ (by omega)
  refine ⟨by omega, ?_⟩
  exact log2_lt (Nat.lt_of_le_of_lt (Nat.gcd_le_right _ (by omega)) h) (by decide)
theorem ok_Ratio_init : FnG P w K mg base 3 T.a_Ratio_init T.fd_Ratio_init ["self", "top", "bottom"] (spR K (R_init T)) := by
  refine fnR T.F_Ratio_init sc_Ratio_init (fun ds μ o ⟨n, t, b, e, _⟩ => by rw [e]; rfl) fun cdv A outer s H E g ds μ o h => ?_
  obtain ⟨n, t, b, rfl, hn, h⟩ := h
  rcases h with ⟨hb, rfl⟩ | ⟨hb, hz, rfl⟩
  · exact ⟨_, .exc0, ess_stop (es_ifT (et_cmp (ev_var 2 rfl) ev_int oc_eq) (decide_eq_true hb) (ess_one (es_raise g (err_InvalidNumber T) T.g_InvalidNumber (ev_cons ev_int ev_nil) rfl))) trivial⟩
  · have rest : ∀ t' b' : Int, 0 < b' → b'.natAbs < 2 ^ 9000 → Rat.divInt t' b' = Rat.divInt t b → PSs (cxOf (L2.CX P w) P w K mg base n_Ratio_init "Ratio.__init__" (defScope s_Ratio_init) T.a_Ratio_init cdv A outer s H E) ((defBody s_Ratio_init).drop 2)
        (tS (fun c d _ H => E c d H) K [some (.loc n), some (.int t'), some (.int b'), none] μ (.next [some (.loc n), some (.int t'), some (.int b'), some (.int (Nat.gcd t'.natAbs b'.natAbs : Nat))] (μ.set n (.ins T.C_Ratio ["top", "bottom"] [.int (Rat.divInt t b).num, .int (Rat.divInt t b).den])))) := by
      intro t' b' h0 hz' he
      have e2 : (b' : Int) = (b'.natAbs : Int) := by omega
      refine ess_cons (es_setV 3 g.nd (ev_callV g ⟨ok_common_divisor T, T.b_common_divisor⟩ T.g_common_divisor T.F_common_divisor.kp (ev_cons (ev_bltV (ev_cons (ev_var 1 rfl) ev_nil) cb_abs T.n_abs boot_abs) (ev_cons (ev_var 2 rfl) ev_nil)) ⟨t'.natAbs, b'.natAbs, by rw [← e2, show (if t' < 0 then -t' else t') = (t'.natAbs : Int) by split <;> omega], rfl⟩)) ?_
      refine ess_cons (es_fld (i := n) (ev_opI (ev_var 1 rfl) (ev_var 3 rfl) (oo_fdiv (gcd_fits h0 hz'))) (ev_var 0 rfl) hn T.own_Ratio.cl T.na_Ratio_top) ?_
      refine ess_one (es_eq (es_fld (i := n) (ev_opI (ev_var 2 rfl) (ev_var 3 rfl) (oo_fdiv (gcd_fits h0 hz'))) (ev_var 0 rfl) (by rw [List.getElem?_set_self (List.getElem?_eq_some_iff.mp hn).1]) T.own_Ratio.cl T.na_Ratio_bottom) ?_)
      rw [← he, divInt_num h0, divInt_den h0, List.set_set]
      rfl
    refine ⟨.next [some (.loc n), some (.int (if b < 0 then -t else t)), some (.int (if b < 0 then -b else b)), some (.int (Nat.gcd (if b < 0 then -t else t).natAbs (if b < 0 then -b else b).natAbs : Nat))] _, .next0, ess_cons (es_ifF (et_cmp (ev_var 2 rfl) ev_int oc_eq) (decide_eq_false hb) ess_nil) ?_⟩
    by_cases hn0 : b < 0
    · simp only [hn0, if_true]
      refine ess_cons (es_ifT (et_cmp (ev_var 2 rfl) ev_int oc_lt) (decide_eq_true hn0) (ess_one (es_par 1 2 g (ev_cons (ev_unI (ev_var 1 rfl) ou_neg) (ev_cons (ev_unI (ev_var 2 rfl) ou_neg) ev_nil))))) ?_
      exact rest (-t) (-b) (by omega) (by omega) (Rat.neg_divInt_neg t b)
    · simp only [hn0, if_false]
      exact ess_cons (es_ifF (et_cmp (ev_var 2 rfl) ev_int oc_lt) (decide_eq_false hn0) ess_nil) (rest t b (by omega) hz rfl)
end
end PM
set_option Elab.async false
set_option linter.all false
set_option maxRecDepth 100000
set_option maxHeartbeats 4000000
set_option exponentiation.threshold 20000
namespace PM
open PySem L2 PyProof.Rows
theorem lt_pow_mono {a n m : Nat} (h : a < 2 ^ n) (l : n ≤ m) : a < 2 ^ m := Nat.lt_of_lt_of_le h (Nat.pow_le_pow_right (by decide) l)
theorem cmul {i j : Int} (h1 : i.natAbs < 2 ^ 4000) (h2 : j.natAbs < 2 ^ 4000) : CMulW i j := by
  have a := log2_lt h1 (by decide)
  have b := log2_lt h2 (by decide)
  unfold CMulW
  omega
theorem Fit.n {n : Nat} {q : Rat} (h : Fit n q) : q.num.natAbs < 2 ^ n := h.1
theorem Fit.d {n : Nat} {q : Rat} (h : Fit n q) : (q.den : Int).natAbs < 2 ^ n := h.2
theorem dm_fits {q r : Rat} (h1 : Fit 4000 q) (h2 : Fit 4000 r) : ((q.den : Int) * r.den).natAbs < 2 ^ 9000 := by
  rw [Int.natAbs_mul]
  exact lt_pow_mono (mul_lt_pow h1.d h2.d) (by decide)
theorem dm_ne (q r : Rat) : (q.den : Int) * r.den ≠ 0 := Int.mul_ne_zero (by have := q.den_pos; omega) (by have := r.den_pos; omega)
theorem fit_int {n : Nat} {i : Int} (h : i.natAbs < 2 ^ n) (hn : 0 < n) : Fit n (i : Rat) := ⟨h, by
  show 1 < 2 ^ n
  exact Nat.one_lt_two_pow (by omega)⟩
theorem fit_neg {n : Nat} {q : Rat} (h : Fit n q) : Fit n (-q) := ⟨by rw [Rat.neg_num, Int.natAbs_neg]; exact h.1, h.2⟩
theorem fit_mul {n m : Nat} {q r : Rat} (h1 : Fit n q) (h2 : Fit m r) : Fit (n + m) (q * r) := by
  rw [mul_rt]
  refine fit_divInt ?_ ?_ (dm_ne q r)
  · rw [Int.natAbs_mul]; exact mul_lt_pow h1.n h2.n
  · rw [Int.natAbs_mul]; exact mul_lt_pow h1.d h2.d
theorem fit_div {n m : Nat} {q r : Rat} (h1 : Fit n q) (h2 : Fit m r) (hr : r ≠ 0) : Fit (n + m) (q / r) := by
  rw [div_rt]
  have : r.num ≠ 0 := fun e => hr (Rat.num_eq_zero.mp e)
  refine fit_divInt ?_ ?_ (Int.mul_ne_zero (by have := q.den_pos; omega) this)
  · rw [Int.natAbs_mul]; exact mul_lt_pow h1.n h2.d
  · rw [Int.natAbs_mul]; exact mul_lt_pow h1.d h2.n
section
variable {K : PySem.W.Frag} {mg : Str → Option Value} (T : Tx K mg)
theorem mkR {t b : Int} {μ : List M} (hb : b ≠ 0) (hz : b.natAbs < 2 ^ 9000) : MakeR (R_init T) T.C_Ratio [.int t, .int b] μ (.ret (rt T.C_Ratio (Rat.divInt t b)) μ) := by
  refine .obj (ns := ["top", "bottom"]) (fs := [.int (Rat.divInt t b).num, .int (Rat.divInt t b).den]) ⟨μ.length, t, b, rfl, by simp, .inr ⟨hb, hz, ?_⟩⟩ (.refl _) rfl rfl
  rw [List.set_append_right _ _ (Nat.le_refl _)]
  simp
theorem Tx.bR3 : Binds K T.fd_Ratio_init ["self", "top", "bottom"] [] := by
  obtain ⟨ds, h1, h2⟩ := T.b_Ratio_init
  cases h1
  exact h2
end
section
variable {X : Cx} {W : WX} {k : Nat} {T : Tx X.K X.mg} {ρ : Env'} {μ μ1 μ2 : List M} {a b e : Expr} {p pos : Pos} {d : D} {q r : Rat} {t u : Int}
/-- Ratio(t, u) -/
theorem ev_R2 (g : Gd X W k) (h1 : PE X a (tV X.K ρ μ (.int t) μ1)) (h2 : PE X b (tV X.K ρ μ1 (.int u) μ2)) (hb : u ≠ 0) (hz : u.natAbs < 2 ^ 9000) (hk : 4 ≤ k := by decide) (hg : Gl X "Ratio" := by rfl)
    (he : starEach [a, b] X.env = (false, eval a X.env) :: starEach [b] X.env := by rfl) (he2 : starEach [b] X.env = (false, eval b X.env) :: starEach [] X.env := by rfl) (hpl : (backTo pos (starEach [b] X.env)).any (·.1) = false := by rfl) :
    PE X (.Call (.Name "Ratio" p) [a, b] [] pos) (tV X.K ρ μ (rt T.C_Ratio (Rat.divInt t u)) μ2) :=
  ev_make (W := W) (o := .ret _ _) g ⟨T.mk_Ratio, ok_Ratio_init T⟩ T.bR3 T.g_Ratio (ev_cons h1 (ev_cons h2 ev_nil he2) he) (mkR T hb hz) hk hg (by decide) he hpl
/-- Ratio(t) -/
theorem ev_R1 (g : Gd X W k) (h1 : PE X a (tV X.K ρ μ (.int t) μ1)) (hk : 4 ≤ k := by decide) (hg : Gl X "Ratio" := by rfl)
    (he : starEach [a] X.env = (false, eval a X.env) :: starEach [] X.env := by rfl) :
    PE X (.Call (.Name "Ratio" p) [a] [] pos) (tV X.K ρ μ (rt T.C_Ratio (t : Rat)) μ1) := by
  obtain ⟨ds, q1, q2⟩ := T.b_Ratio_init_2
  have e : (t : Rat) = Rat.divInt t 1 := by rw [Rat.divInt_eq_div, Rat.intCast_one]; grind
  rw [e]
  exact ev_makeD (W := W) (o := .ret _ _) (dds := [.int 1]) g ⟨T.mk_Ratio, ok_Ratio_init T⟩ q2 q1 (fun _ _ => Reps.cons (rep_int.mpr rfl) Reps.nil) T.g_Ratio (ev_cons h1 ev_nil he) (mkR T (by decide) (by decide)) hk hg (by decide) he rfl
theorem ev_top (h : PE X e (tV X.K ρ μ (rt T.C_Ratio q) μ1)) (hb : attributeBase e "top" X.env (eval e X.env) = eval e X.env := by rfl) : PE X (.Attribute e "top" pos) (tV X.K ρ μ (.int q.num) μ1) := ev_fld h T.own_Ratio.cl T.na_Ratio_top rfl hb
theorem ev_bot (h : PE X e (tV X.K ρ μ (rt T.C_Ratio q) μ1)) (hb : attributeBase e "bottom" X.env (eval e X.env) = eval e X.env := by rfl) : PE X (.Attribute e "bottom" pos) (tV X.K ρ μ (.int q.den) μ1) := ev_fld h T.own_Ratio.cl T.na_Ratio_bottom rfl hb
/-- isinstance(e, Ratio) -/
theorem ev_isiR {n : Bool} {p2 : Pos} (h : PE X e (tV X.K ρ μ d μ1)) (kn : Kn X.K T.C_Ratio d n) (h1 : Gl X "isinstance" := by rfl) (h2 : Gl X "Ratio" := by rfl) (he : starEach [e, .Name "Ratio" p2] X.env = (false, eval e X.env) :: starEach [.Name "Ratio" p2] X.env := by rfl) :
    PE X (.Call (.Name "isinstance" p) [e, .Name "Ratio" p2] [] pos) (tV X.K ρ μ (.bl (isRt T.C_Ratio d)) μ1) := by
  obtain ⟨t, ty, h0, _, _⟩ := kn.ty T.own_Ratio
  exact ev_bltV (ev_cons h (ev_cons (ev_glob (v := .ref T.C_Ratio) (d := .ref T.C_Ratio) h2 T.g_Ratio rfl fun _ _ => rep_ref.mpr rfl) ev_nil) he) (cb_isi ty (.own _) h0) T.n_isinstance boot_isinstance h1 (by decide) (by decide) he rfl
theorem ev_isint {n : Bool} (g : Gd X W k) (h : PE X e (tV X.K ρ μ d μ1)) (kn : Kn X.K T.C_Ratio d n) (hk : 1 ≤ k := by decide) (hg : Gl X "is_integer" := by rfl) (he : starEach [e] X.env = (false, eval e X.env) :: starEach [] X.env := by rfl) :
    PE X (.Call (.Name "is_integer" p) [e] [] pos) (tV X.K ρ μ (.bl (isI d)) μ1) :=
  ev_callV g ⟨ok_is_integer T, T.b_is_integer⟩ T.g_is_integer T.F_is_integer.kp (ev_cons h ev_nil he) ⟨d, n, rfl, kn, rfl⟩ hk hg (by decide) he rfl
theorem ev_isnum {n : Bool} (g : Gd X W k) (h : PE X e (tV X.K ρ μ d μ1)) (kn : Kn X.K T.C_Ratio d n) (hk : 2 ≤ k := by decide) (hg : Gl X "is_number" := by rfl) (he : starEach [e] X.env = (false, eval e X.env) :: starEach [] X.env := by rfl) :
    PE X (.Call (.Name "is_number" p) [e] [] pos) (tV X.K ρ μ (.bl n) μ1) :=
  ev_callV g ⟨ok_is_number T, T.b_is_number⟩ T.g_is_number T.F_is_number.kp (ev_cons h ev_nil he) ⟨d, n, rfl, kn, rfl⟩ hk hg (by decide) he rfl
end
section
variable {P : Program} {w : World} {K : PySem.W.Frag} {mg : Str → Option Value} {base : Heap} (T : Tx K mg)
def R_as_ratio (T : Tx K mg) : Rl := fun ds μ o => ∃ d, ds = [d] ∧ ((∃ q, Num T.C_Ratio d q ∧ o = .ret (rt T.C_Ratio q) μ) ∨ (Kn K T.C_Ratio d false ∧ o = .exc T.C_InvalidNumber ["value"] [d] μ))
theorem ok_as_ratio : FnG P w K mg base 5 T.a_as_ratio T.fd_as_ratio ["value"] (spR K (R_as_ratio T)) := by
  refine fnR T.F_as_ratio sc_as_ratio (fun ds μ o ⟨d, e, _⟩ => by rw [e]; rfl) fun cdv A outer s H E g ds μ o h => ?_
  obtain ⟨d, rfl, h⟩ := h
  rcases h with ⟨q, hq, rfl⟩ | ⟨kn, rfl⟩
  · cases hq with
    | rt q => exact ⟨_, .ret0, ess_stop (es_ifT (et_val (ev_isiR (T := T) (ev_var 0 rfl) (.rt q))) (by simp [rt, isRt]) (ess_one (es_retV (ev_var 0 rfl)))) trivial⟩
    | int i =>
      exact ⟨_, .ret0, ess_cons (es_ifF (et_val (ev_isiR (T := T) (ev_var 0 rfl) (.int i))) rfl ess_nil)
        (ess_cons (es_ifF (et_not (et_val (ev_isint (T := T) g (ev_var 0 rfl) (.int i)))) rfl ess_nil) (ess_one (es_retV (ev_R1 (T := T) g (ev_var 0 rfl)))))⟩
  · obtain ⟨h1, h2⟩ := Bool.or_eq_false_iff.mp kn.num.symm
    exact ⟨_, .exc0, ess_cons (es_ifF (et_val (ev_isiR (ev_var 0 rfl) (by exact kn))) h1 ess_nil)
      (ess_stop (es_ifT (et_not (et_val (ev_isint g (ev_var 0 rfl) (by exact kn)))) (by rw [h2]; rfl) (ess_one (es_raise g (err_InvalidNumber T) T.g_InvalidNumber (ev_cons (ev_var 0 rfl) ev_nil) rfl))) trivial)⟩
end
end PM
set_option Elab.async false
set_option linter.all false
set_option maxRecDepth 100000
set_option maxHeartbeats 4000000
set_option exponentiation.threshold 20000
namespace PM
open PySem L2 PyProof.Rows
section
variable {X : Cx} {W : WX} {k : Nat} {T : Tx X.K X.mg} {ρ : Env'} {μ μ1 μ2 : List M} {a b e : Expr} {p pos : Pos} {d : D} {q r : Rat} {t u : Int}
theorem ev_as (g : Gd X W k) (h : PE X e (tV X.K ρ μ d μ1)) (hn : Num T.C_Ratio d q) (hk : 5 ≤ k := by decide) (hg : Gl X "as_ratio" := by rfl) (he : starEach [e] X.env = (false, eval e X.env) :: starEach [] X.env := by rfl) :
    PE X (.Call (.Name "as_ratio" p) [e] [] pos) (tV X.K ρ μ (rt T.C_Ratio q) μ1) :=
  ev_callV g ⟨ok_as_ratio T, T.b_as_ratio⟩ T.g_as_ratio T.F_as_ratio.kp (ev_cons h ev_nil he) ⟨d, rfl, .inl ⟨q, hn, rfl⟩⟩ hk hg (by decide) he rfl
end
section
variable {P : Program} {w : World} {K : PySem.W.Frag} {mg : Str → Option Value} {base : Heap} (T : Tx K mg)
/-- a method of a ratio alone -/
def R1 (T : Tx K mg) (f : Rat → D) : Rl := fun ds μ o => ∃ q, ds = [rt T.C_Ratio q] ∧ Fit 4000 q ∧ o = .ret (f q) μ
/-- a method of a ratio and a number -/
def R2 (T : Tx K mg) (f : Rat → Rat → D) : Rl := fun ds μ o => ∃ q d r, ds = [rt T.C_Ratio q, d] ∧ Num T.C_Ratio d r ∧ Fit 4000 q ∧ Fit 4000 r ∧ o = .ret (f q r) μ
/-- a division -/
def RD (T : Tx K mg) (n : Nat) (f : Rat → Rat → D) : Rl := fun ds μ o => ∃ q d r, ds = [rt T.C_Ratio q, d] ∧ Num T.C_Ratio d r ∧ Fit n q ∧ Fit n r ∧ ((r = 0 ∧ o = .exc T.C_InvalidNumber ["value"] [.int 0] μ) ∨ (r ≠ 0 ∧ o = .ret (f q r) μ))
theorem ok_neg : FnG P w K mg base 5 T.a_Ratio_neg T.fd_Ratio_neg ["self"] (spR K (R1 T fun q => rt T.C_Ratio (-q))) := by
  refine fnR T.F_Ratio_neg sc_Ratio_neg (fun ds μ o ⟨q, e, _⟩ => by rw [e]; rfl) fun cdv A outer s H E g ds μ o h => ?_
  obtain ⟨q, rfl, hq, rfl⟩ := h
  dsimp only
  refine ⟨_, .ret0, ess_one (es_retV ?_)⟩
  rw [neg_rt]
  exact ev_R2 g (ev_unI (ev_top (ev_var 0 rfl)) ou_neg) (ev_bot (ev_var 0 rfl)) (by have := q.den_pos; omega) (lt_pow_mono hq.d (by decide))
theorem ok_over : FnG P w K mg base 6 T.a_Ratio_over T.fd_Ratio_over ["self", "other"] (spR K (RD T 4000 fun q r => rt T.C_Ratio (q / r))) := by
  refine fnR T.F_Ratio_over sc_Ratio_over (fun ds μ o ⟨q, d, r, e, _⟩ => by rw [e]; rfl) fun cdv A outer s H E g ds μ o h => ?_
  obtain ⟨q, d, r, rfl, hd, hq, hr, h⟩ := h
  rcases h with ⟨z, rfl⟩ | ⟨z, rfl⟩
  · exact ⟨_, .exc0, ess_cons (es_setV 2 g.nd (ev_as g (ev_var 1 rfl) (by exact hd))) (ess_stop (es_ifT (et_cmp (ev_top (ev_var 2 rfl)) ev_int oc_eq) (decide_eq_true (Rat.num_eq_zero.mpr z)) (ess_one (es_raise g (err_InvalidNumber T) T.g_InvalidNumber (ev_cons ev_int ev_nil) rfl))) trivial)⟩
  · have z' : r.num ≠ 0 := fun e => z (Rat.num_eq_zero.mp e)
    dsimp only
    refine ⟨_, .ret0, ess_cons (es_setV 2 g.nd (ev_as g (ev_var 1 rfl) (by exact hd))) (ess_cons (es_ifF (et_cmp (ev_top (ev_var 2 rfl)) ev_int oc_eq) (decide_eq_false z') ess_nil) (ess_one (es_retV ?_)))⟩
    rw [div_rt]
    refine ev_R2 g (ev_opI (ev_top (ev_var 0 rfl)) (ev_bot (ev_var 2 rfl)) (oo_mul (cmul hq.n hr.d))) (ev_opI (ev_bot (ev_var 0 rfl)) (ev_top (ev_var 2 rfl)) (oo_mul (cmul hq.d hr.n))) (Int.mul_ne_zero (by have := q.den_pos; omega) z') ?_
    rw [Int.natAbs_mul]
    exact lt_pow_mono (mul_lt_pow hq.d hr.n) (by decide)
theorem ok_add : FnG P w K mg base 6 T.a_Ratio_add T.fd_Ratio_add ["self", "other"] (spR K (R2 T fun q r => rt T.C_Ratio (q + r))) := by
  refine fnR T.F_Ratio_add sc_Ratio_add (fun ds μ o ⟨q, d, r, e, _⟩ => by rw [e]; rfl) fun cdv A outer s H E g ds μ o h => ?_
  obtain ⟨q, d, r, rfl, hd, hq, hr, rfl⟩ := h
  dsimp only
  refine ⟨_, .ret0, ess_cons (es_ifF (et_not (et_val (ev_isnum g (ev_var 1 rfl) (by exact hd.kn)))) rfl ess_nil) (ess_cons (es_setV 2 g.nd (ev_as g (ev_var 1 rfl) (by exact hd))) (ess_one (es_retV ?_)))⟩
  rw [add_rt]
  exact ev_R2 g (ev_opI (ev_opI (ev_top (ev_var 0 rfl)) (ev_bot (ev_var 2 rfl)) (oo_mul (cmul hq.n hr.d))) (ev_opI (ev_top (ev_var 2 rfl)) (ev_bot (ev_var 0 rfl)) (oo_mul (cmul hr.n hq.d))) oo_add)
    (ev_opI (ev_bot (ev_var 0 rfl)) (ev_bot (ev_var 2 rfl)) (oo_mul (cmul hq.d hr.d))) (dm_ne q r) (dm_fits hq hr)
end
end PM
set_option Elab.async false
set_option linter.all false
set_option maxRecDepth 100000
set_option maxHeartbeats 4000000
set_option exponentiation.threshold 20000
namespace PM
open PySem L2 PyProof.Rows
section
variable {X : Cx} {W : WX} {k j : Nat} {T : Tx X.K X.mg} {ρ : Env'} {μ μ1 μ2 : List M} {a b e : Expr} {p pos : Pos} {d : D} {q r : Rat} {t u : Int} {op : Operator} {ps : List Str} {R : Rl} {f : Addr} {fd : FuncData} {o : FO}
/-- ratio op number -/
theorem oo_num {rc fo ro : Option Value} (g : Gd X W k) (hm : Meth X.K T.C_Ratio (PySem.dunder op.info.2) f) (hr : PySem.W.findIn X.K (.ref T.C_Ratio) (dunderR op.info.2) = some rc) (hp : rc = none ∨ ∃ g : Addr, rc = some (.ref g))
    (h1 : PySem.W.findIn X.K (.type "int") (PySem.dunder op.info.2) = some fo) (h2 : PySem.W.findIn X.K (.type "int") (dunderR op.info.2) = some ro) (c : Cal X.prog X.w X.K X.mg X.base j ps R f fd) (hd : Num T.C_Ratio d r)
    (hR : R [rt T.C_Ratio q, d] μ o) (hj : j ≤ k := by decide) : OpO X W (binaryOp op) (rt T.C_Ratio q) d μ o := by
  cases hd with
  | int i => exact oo_ownI g T.own_Ratio hm.at_ hm.fn hr hp h1 h2 c hR hj
  | rt r => exact oo_own g T.own_Ratio hm.at_ hm.fn c hR hj
theorem oR_add (g : Gd X W k) (hd : Num T.C_Ratio d r) (hq : Fit 4000 q) (hr : Fit 4000 r) (hj : 6 ≤ k := by decide) : OpO X W (binaryOp .Add) (rt T.C_Ratio q) d μ (.ret (rt T.C_Ratio (q + r)) μ) := by
  obtain ⟨_, h1⟩ := T.io_add; obtain ⟨_, h2⟩ := T.ior_add
  exact oo_num (op := .Add) g T.m_Ratio_add T.m_Ratio_radd.at_ (.inr ⟨_, rfl⟩) h1 h2 ⟨ok_add T, T.b_Ratio_add⟩ hd ⟨q, d, r, rfl, hd, hq, hr, rfl⟩ hj
theorem oR_neg (g : Gd X W k) (hq : Fit 4000 q) (hj : 5 ≤ k := by decide) : UnO X W (unaryOp .USub) (rt T.C_Ratio q) μ (.ret (rt T.C_Ratio (-q)) μ) :=
  ou_own g T.m_Ratio_neg.at_ T.m_Ratio_neg.fn ⟨ok_neg T, T.b_Ratio_neg⟩ ⟨q, rfl, hq, rfl⟩ hj
end
section
variable {P : Program} {w : World} {K : PySem.W.Frag} {mg : Str → Option Value} {base : Heap} (T : Tx K mg)
theorem ok_sub : FnG P w K mg base 7 T.a_Ratio_sub T.fd_Ratio_sub ["self", "other"] (spR K (R2 T fun q r => rt T.C_Ratio (q - r))) := by
  refine fnR T.F_Ratio_sub sc_Ratio_sub (fun ds μ o ⟨q, d, r, e, _⟩ => by rw [e]; rfl) fun cdv A outer s H E g ds μ o h => ?_
  obtain ⟨q, d, r, rfl, hd, hq, hr, rfl⟩ := h
  dsimp only
  rw [Rat.sub_eq_add_neg]
  exact ⟨_, .ret0, ess_cons (es_ifF (et_not (et_val (ev_isnum g (ev_var 1 rfl) (by exact hd.kn)))) rfl ess_nil) (ess_one (es_retV (ev_opV (ev_var 0 rfl) (ev_unV (ev_as g (ev_var 1 rfl) (by exact hd)) (oR_neg g hr)) (oR_add g (.rt _) hq (fit_neg hr)))))⟩
end
section
variable {X : Cx} {W : WX} {k j : Nat} {T : Tx X.K X.mg} {ρ : Env'} {μ μ1 μ2 : List M} {a b e : Expr} {p pos : Pos} {d : D} {q r : Rat} {t u : Int} {o : FO}
theorem oR_sub (g : Gd X W k) (hd : Num T.C_Ratio d r) (hq : Fit 4000 q) (hr : Fit 4000 r) (hj : 7 ≤ k := by decide) : OpO X W (binaryOp .Sub) (rt T.C_Ratio q) d μ (.ret (rt T.C_Ratio (q - r)) μ) := by
  obtain ⟨_, h1⟩ := T.io_sub; obtain ⟨_, h2⟩ := T.ior_sub
  exact oo_num (op := .Sub) g T.m_Ratio_sub T.m_Ratio_rsub.at_ (.inr ⟨_, rfl⟩) h1 h2 ⟨ok_sub T, T.b_Ratio_sub⟩ hd ⟨q, d, r, rfl, hd, hq, hr, rfl⟩ hj
end
section
variable {P : Program} {w : World} {K : PySem.W.Frag} {mg : Str → Option Value} {base : Heap} (T : Tx K mg)
end
end PM
set_option Elab.async false
set_option linter.all false
set_option maxRecDepth 100000
set_option maxHeartbeats 4000000
set_option exponentiation.threshold 20000
namespace PM
open PySem L2 PyProof.Rows
/-- the value without its sign -/
def rabs (q : Rat) : Rat := if q < 0 then -q else q
theorem fit_rabs {n : Nat} {q : Rat} (h : Fit n q) : Fit n (rabs q) := by
  unfold rabs
  split
  · exact fit_neg h
  · exact h
section
variable {P : Program} {w : World} {K : PySem.W.Frag} {mg : Str → Option Value} {base : Heap} (T : Tx K mg)
/-- ratio == anything -/
def R_eq (T : Tx K mg) : Rl := fun ds μ o => ∃ q d, ds = [rt T.C_Ratio q, d] ∧ ((∃ r, Num T.C_Ratio d r ∧ o = .ret (.bl (decide (q = r))) μ) ∨ (Kn K T.C_Ratio d false ∧ o = .ret (.bl false) μ))
end
section
variable {X : Cx} {W : WX} {k j : Nat} {T : Tx X.K X.mg} {ρ : Env'} {μ μ1 μ2 : List M} {a b e : Expr} {p pos : Pos} {d : D} {q r : Rat} {t u : Int} {o : FO} {op : CmpOp} {ps : List Str} {R : Rl} {f : Addr} {fd : FuncData}
theorem Kn.nf {K : PySem.W.Frag} {C : Addr} {n : Bool} (c : OwnC K C) (h : Kn K C d n) : ∃ t, TyD K d t ∧ PySem.W.notFirst K C t = true := by
  cases h with
  | int i => exact ⟨_, .int, notFirst_ty mro_int rfl⟩
  | rt q => exact ⟨_, .obj c, notFirst_own⟩
  | non => exact ⟨_, .non, notFirst_ty mro_non rfl⟩
  | bl b => exact ⟨_, .bl, notFirst_ty mro_bool rfl⟩
  | str x => exact ⟨_, .str, notFirst_ty mro_str rfl⟩
  | tup ds => exact ⟨_, .tup, notFirst_ty mro_tup rfl⟩
  | lst ds => exact ⟨_, .lst, notFirst_ty mro_lst rfl⟩
  | @obj C' ns ds c' ne =>
    refine ⟨_, .obj c', ?_⟩
    unfold PySem.W.notFirst
    rw [show PySem.W.subIn K (.ref C') (.ref C) = some false by
      show PySem.W.mroIn K C' (.ref C) = _
      rw [c'.mroIn]
      simp [Ne.symm ne]]
    simp
/-- ratio cmp a known value -/
theorem rich_R {n : Bool} (g : Gd X W k) (hm : Meth X.K T.C_Ratio (cmpInfo op).2.1 f) (kn : Kn X.K T.C_Ratio d n) (c : Cal X.prog X.w X.K X.mg X.base j ps R f fd) (hR : R [rt T.C_Ratio q, d] μ o) (hj : j ≤ k := by decide) : OpO X W (richCompare op) (rt T.C_Ratio q) d μ o := by
  obtain ⟨t, ty, nf⟩ := kn.nf T.own_Ratio
  exact rich_own g hm.at_ hm.fn ty nf c hR hj
end
section
variable {P : Program} {w : World} {K : PySem.W.Frag} {mg : Str → Option Value} {base : Heap} (T : Tx K mg)
def R_ne (T : Tx K mg) : Rl := fun ds μ o => ∃ q d, ds = [rt T.C_Ratio q, d] ∧ ((∃ r, Num T.C_Ratio d r ∧ o = .ret (.bl (!decide (q = r))) μ) ∨ (Kn K T.C_Ratio d false ∧ o = .ret (.bl true) μ))
theorem le_rt (q r : Rat) : decide (q ≤ r) = decide (q.num * r.den ≤ r.num * q.den) := decide_eq_decide.mpr (Rat.le_iff q r)
theorem ok_le : FnG P w K mg base 6 T.a_Ratio_le T.fd_Ratio_le ["self", "other"] (spR K (R2 T fun q r => .bl (decide (q ≤ r)))) := by
  refine fnR T.F_Ratio_le sc_Ratio_le (fun ds μ o ⟨q, d, r, e, _⟩ => by rw [e]; rfl) fun cdv A outer s H E g ds μ o h => ?_
  obtain ⟨q, d, r, rfl, hd, hq, hr, rfl⟩ := h
  dsimp only
  rw [le_rt]
  exact ⟨_, .ret0, ess_cons (es_ifF (et_not (et_val (ev_isnum g (ev_var 1 rfl) (by exact hd.kn)))) rfl ess_nil) (ess_cons (es_setV 2 g.nd (ev_as g (ev_var 1 rfl) (by exact hd))) (ess_one (es_retV (ev_cmpV (ev_opI (ev_top (T := T) (q := q) (ev_var 0 rfl)) (ev_bot (T := T) (q := r) (ev_var 2 rfl)) (oo_mul (cmul hq.n hr.d))) (ev_opI (ev_top (T := T) (q := r) (ev_var 2 rfl)) (ev_bot (T := T) (q := q) (ev_var 0 rfl)) (oo_mul (cmul hr.n hq.d))) oc_le))))⟩
theorem ok_ge : FnG P w K mg base 6 T.a_Ratio_ge T.fd_Ratio_ge ["self", "other"] (spR K (R2 T fun q r => .bl (decide (r ≤ q)))) := by
  refine fnR T.F_Ratio_ge sc_Ratio_ge (fun ds μ o ⟨q, d, r, e, _⟩ => by rw [e]; rfl) fun cdv A outer s H E g ds μ o h => ?_
  obtain ⟨q, d, r, rfl, hd, hq, hr, rfl⟩ := h
  dsimp only
  rw [le_rt]
  exact ⟨_, .ret0, ess_cons (es_ifF (et_not (et_val (ev_isnum g (ev_var 1 rfl) (by exact hd.kn)))) rfl ess_nil) (ess_cons (es_setV 2 g.nd (ev_as g (ev_var 1 rfl) (by exact hd))) (ess_one (es_retV (ev_cmpV (ev_opI (ev_top (T := T) (q := q) (ev_var 0 rfl)) (ev_bot (T := T) (q := r) (ev_var 2 rfl)) (oo_mul (cmul hq.n hr.d))) (ev_opI (ev_top (T := T) (q := r) (ev_var 2 rfl)) (ev_bot (T := T) (q := q) (ev_var 0 rfl)) (oo_mul (cmul hr.n hq.d))) oc_ge))))⟩
end
end PM
set_option Elab.async false
set_option linter.all false
set_option maxRecDepth 100000
set_option maxHeartbeats 4000000
set_option exponentiation.threshold 20000
namespace PM
open PySem L2 PyProof.Rows
section
variable {X : Cx} {W : WX} {k j : Nat} {T : Tx X.K X.mg} {μ : List M} {d : D} {q r : Rat} {i : Int}
/-! ### ratio cmp number -/
theorem oR_leN (g : Gd X W k) (hd : Num T.C_Ratio d r) (hq : Fit 4000 q) (hr : Fit 4000 r) (hj : 6 ≤ k := by decide) : OpO X W (compareOp .LtE) (rt T.C_Ratio q) d μ (.ret (.bl (decide (q ≤ r))) μ) :=
  rich_R (op := .LtE) g T.m_Ratio_le hd.kn ⟨ok_le T, T.b_Ratio_le⟩ ⟨q, d, r, rfl, hd, hq, hr, rfl⟩ hj
theorem oR_geN (g : Gd X W k) (hd : Num T.C_Ratio d r) (hq : Fit 4000 q) (hr : Fit 4000 r) (hj : 6 ≤ k := by decide) : OpO X W (compareOp .GtE) (rt T.C_Ratio q) d μ (.ret (.bl (decide (r ≤ q))) μ) :=
  rich_R (op := .GtE) g T.m_Ratio_ge hd.kn ⟨ok_ge T, T.b_Ratio_ge⟩ ⟨q, d, r, rfl, hd, hq, hr, rfl⟩ hj
/-! ### number cmp ratio -/
theorem oL_le (g : Gd X W k) (hd : Num T.C_Ratio d r) (hq : Fit 4000 q) (hr : Fit 4000 r) (hj : 6 ≤ k := by decide) : OpO X W (compareOp .LtE) d (rt T.C_Ratio q) μ (.ret (.bl (decide (r ≤ q))) μ) := by
  cases hd with
  | int i => exact oc_intOwn (op := .LtE) g T.own_Ratio (fun _ _ => rfl) PySem.F.slot_int_le PySem.F.entry_int_le PySem.F.args_int_le_2 (fun _ _ _ => dec_le) T.m_Ratio_ge.at_ T.m_Ratio_ge.fn ⟨ok_ge T, T.b_Ratio_ge⟩ ⟨q, _, _, rfl, .int i, hq, hr, rfl⟩ hj
  | rt r => exact oR_leN g (.rt q) hr hq hj
/-! ### number op ratio -/
/-! ### ratio op= number -/
end
end PM
set_option Elab.async false
set_option linter.all false
set_option maxRecDepth 100000
set_option maxHeartbeats 4000000
set_option exponentiation.threshold 20000
namespace PM
open PySem L2 PyProof.Rows
section
variable {X : Cx} {W : WX} {k : Nat} {T : Tx X.K X.mg} {ρ : Env'} {μ : List M} {e : Expr} {pos : Pos} {d : D} {q r : Rat} {t u : Int} {Q : KV} {Z : KX}
/-- Ratio(t, u), Ratio(t) -/
theorem wF_R2 (T : Tx X.K X.mg) (g : Gd X W k) (hb : u ≠ 0) (hz : u.natAbs < 2 ^ 9000) (h : Q (rt T.C_Ratio (Rat.divInt t u)) μ) (hk : 4 ≤ k := by decide) : wF X W (fun us => call (.ref T.C_Ratio) us) [.int t, .int u] μ Q Z :=
  .of (o := .ret _ _) (makeO (dvs := []) (dds := []) T.mk_Ratio (ok_Ratio_init T) T.bR3 .nil (fun _ _ => Reps.nil) g hk (by exact mkR T hb hz)) h
theorem int_divInt (t : Int) : (t : Rat) = Rat.divInt t 1 := by rw [Rat.divInt_eq_div, Rat.intCast_one]; grind
theorem wF_R1 (T : Tx X.K X.mg) (g : Gd X W k) (h : Q (rt T.C_Ratio (t : Rat)) μ) (hk : 4 ≤ k := by decide) : wF X W (fun us => call (.ref T.C_Ratio) us) [.int t] μ Q Z := by
  obtain ⟨ds, q1, q2⟩ := T.b_Ratio_init_2
  rw [int_divInt] at h
  exact .of (o := .ret _ _) (makeO (dds := [.int 1]) T.mk_Ratio (ok_Ratio_init T) q2 q1 (fun _ _ => Reps.cons (rep_int.mpr rfl) Reps.nil) g hk (by exact mkR T (by decide) (by decide))) h
/-- q.top, q.bottom -/
theorem wE_top (T : Tx X.K X.mg) (h : wE X W ρ μ e (fun d μ1 => ∃ q, d = rt T.C_Ratio q ∧ Q (.int q.num) μ1) Z) (hb : attributeBase e "top" X.env (eval e X.env) = eval e X.env := by rfl) : wE X W ρ μ (.Attribute e "top" pos) Q Z :=
  wE_fld (h.imp fun d μ1 ⟨q, ed, hq⟩ => ⟨_, _, .inl ed, _, rfl, hq⟩) T.own_Ratio.cl T.na_Ratio_top hb
theorem wE_bot (T : Tx X.K X.mg) (h : wE X W ρ μ e (fun d μ1 => ∃ q, d = rt T.C_Ratio q ∧ Q (.int q.den) μ1) Z) (hb : attributeBase e "bottom" X.env (eval e X.env) = eval e X.env := by rfl) : wE X W ρ μ (.Attribute e "bottom" pos) Q Z :=
  wE_fld (h.imp fun d μ1 ⟨q, ed, hq⟩ => ⟨_, _, .inl ed, _, rfl, hq⟩) T.own_Ratio.cl T.na_Ratio_bottom hb
theorem wF_isRt {C : Addr} (c : OwnC X.K C) (h : Q (.bl true) μ) : wF X W (fun us => call (.builtin "isinstance") us) [rt C q, .ref C] μ Q Z := by
  obtain ⟨t, ty, h0, _, _⟩ := (Kn.rt (K := X.K) (C := C) q).ty c
  refine wF_isi ty (.own _) h0 ?_
  simp only [rt, isRt, decide_true]
  exact h
/-- isinstance of plain values and built-in classes -/
theorem wF_isII (h : Q (.bl true) μ) : wF X W (fun us => call (.builtin "isinstance") us) [.int t, .ty "int"] μ Q Z := wF_isi .int (.ty "int") rfl h
theorem wF_isIB (h : Q (.bl false) μ) : wF X W (fun us => call (.builtin "isinstance") us) [.int t, .ty "bool"] μ Q Z := wF_isi .int (.ty "bool") rfl h
theorem wF_isBB {b : Bool} (h : Q (.bl true) μ) : wF X W (fun us => call (.builtin "isinstance") us) [.bl b, .ty "bool"] μ Q Z := wF_isi .bl (.ty "bool") rfl h
end
end PM
set_option Elab.async false
set_option linter.all false
set_option maxRecDepth 100000
set_option maxHeartbeats 4000000
set_option exponentiation.threshold 20000
namespace PM
open PySem L2 PyProof.Rows
theorem fit_add {n m : Nat} {q r : Rat} (h1 : Fit n q) (h2 : Fit m r) : Fit (n + m + 1) (q + r) := by
  rw [add_rt]
  have a1 := mul_lt_pow h1.n h2.d
  have a2 := mul_lt_pow h2.n h1.d
  have a3 := mul_lt_pow h1.d h2.d
  have e1 : 2 ^ (n + m + 1) = 2 ^ (n + m) + 2 ^ (n + m) := by rw [Nat.pow_succ]; omega
  rw [Nat.add_comm m n] at a2
  refine fit_divInt ?_ ?_ (dm_ne q r)
  · have b := Int.natAbs_add_le (q.num * r.den) (r.num * q.den)
    rw [Int.natAbs_mul, Int.natAbs_mul] at b
    omega
  · rw [Int.natAbs_mul]
    omega
theorem fit_sub {n m : Nat} {q r : Rat} (h1 : Fit n q) (h2 : Fit m r) : Fit (n + m + 1) (q - r) := by
  rw [Rat.sub_eq_add_neg]
  exact fit_add h1 (fit_neg h2)
section
variable {X : Cx} {W : WX} {k : Nat} {T : Tx X.K X.mg} {μ : List M} {d : D} {q r : Rat} {i : Int} {Q : KV} {Z : KX}
/-! is it this? -/
theorem chkAdd {C : Addr} (h : wB X W (binaryOp .Add) (rt C q) d μ Q Z) : wB X W (binaryOp .Add) (rt C q) d μ Q Z := h
theorem chkSub {C : Addr} (h : wB X W (binaryOp .Sub) (rt C q) d μ Q Z) : wB X W (binaryOp .Sub) (rt C q) d μ Q Z := h
theorem chkCm {C : Addr} (op : CmpOp) (h : wB X W (compareOp op) (rt C q) d μ Q Z) : wB X W (compareOp op) (rt C q) d μ Q Z := h
theorem chkCmL {C : Addr} (op : CmpOp) (h : wB X W (compareOp op) d (rt C q) μ Q Z) : wB X W (compareOp op) d (rt C q) μ Q Z := h
theorem chkNg {C : Addr} (h : wU X W (unaryOp .USub) (rt C q) μ Q Z) : wU X W (unaryOp .USub) (rt C q) μ Q Z := h
theorem fit_two : Fit 2 ((2 : Int) : Rat) := ⟨by decide, by decide⟩
/-! a ratio and a number -/
theorem wB_addR (T : Tx X.K X.mg) (g : Gd X W k) (hd : Num T.C_Ratio d r) (hq : Fit 4000 q) (hr : Fit 4000 r) (h : Q (rt T.C_Ratio (q + r)) μ) (hj : 7 ≤ k := by decide) : wB X W (binaryOp .Add) (rt T.C_Ratio q) d μ Q Z := .ofV (oR_add g.w0 hd hq hr (by omega)) h
theorem wE_addR (T : Tx X.K X.mg) (g : Gd X W k) (h : ∃ r, Num T.C_Ratio d r ∧ (Fit 4000 q ∧ Fit 4000 r) ∧ Q (rt T.C_Ratio (q + r)) μ) (hj : 7 ≤ k := by decide) : wB X W (binaryOp .Add) (rt T.C_Ratio q) d μ Q Z := let ⟨_, a, ⟨b, c⟩, e⟩ := h; wB_addR T g a b c e hj
theorem wB_subR (T : Tx X.K X.mg) (g : Gd X W k) (hd : Num T.C_Ratio d r) (hq : Fit 4000 q) (hr : Fit 4000 r) (h : Q (rt T.C_Ratio (q - r)) μ) (hj : 7 ≤ k := by decide) : wB X W (binaryOp .Sub) (rt T.C_Ratio q) d μ Q Z := .ofV (oR_sub g.w0 hd hq hr hj) h
theorem wE_subR (T : Tx X.K X.mg) (g : Gd X W k) (h : ∃ r, Num T.C_Ratio d r ∧ (Fit 4000 q ∧ Fit 4000 r) ∧ Q (rt T.C_Ratio (q - r)) μ) (hj : 7 ≤ k := by decide) : wB X W (binaryOp .Sub) (rt T.C_Ratio q) d μ Q Z := let ⟨_, a, ⟨b, c⟩, e⟩ := h; wB_subR T g a b c e hj
theorem wU_negR (T : Tx X.K X.mg) (g : Gd X W k) (hq : Fit 4000 q) (h : Q (rt T.C_Ratio (-q)) μ) (hj : 7 ≤ k := by decide) : wU X W (unaryOp .USub) (rt T.C_Ratio q) μ Q Z := .ofV (oR_neg g.w0 hq (by omega)) h
theorem wB_leR (T : Tx X.K X.mg) (g : Gd X W k) (hd : Num T.C_Ratio d r) (hq : Fit 4000 q) (hr : Fit 4000 r) (h : Q (.bl (decide (q ≤ r))) μ) (hj : 7 ≤ k := by decide) : wB X W (compareOp .LtE) (rt T.C_Ratio q) d μ Q Z := .ofV (oR_leN g.w0 hd hq hr (by omega)) h
theorem wE_leR (T : Tx X.K X.mg) (g : Gd X W k) (h : ∃ r, Num T.C_Ratio d r ∧ (Fit 4000 q ∧ Fit 4000 r) ∧ Q (.bl (decide (q ≤ r))) μ) (hj : 7 ≤ k := by decide) : wB X W (compareOp .LtE) (rt T.C_Ratio q) d μ Q Z := let ⟨_, a, ⟨b, c⟩, e⟩ := h; wB_leR T g a b c e hj
theorem wB_geR (T : Tx X.K X.mg) (g : Gd X W k) (hd : Num T.C_Ratio d r) (hq : Fit 4000 q) (hr : Fit 4000 r) (h : Q (.bl (decide (r ≤ q))) μ) (hj : 7 ≤ k := by decide) : wB X W (compareOp .GtE) (rt T.C_Ratio q) d μ Q Z := .ofV (oR_geN g.w0 hd hq hr (by omega)) h
theorem wE_geR (T : Tx X.K X.mg) (g : Gd X W k) (h : ∃ r, Num T.C_Ratio d r ∧ (Fit 4000 q ∧ Fit 4000 r) ∧ Q (.bl (decide (r ≤ q))) μ) (hj : 7 ≤ k := by decide) : wB X W (compareOp .GtE) (rt T.C_Ratio q) d μ Q Z := let ⟨_, a, ⟨b, c⟩, e⟩ := h; wB_geR T g a b c e hj
theorem wB_leL (T : Tx X.K X.mg) (g : Gd X W k) (hd : Num T.C_Ratio d r) (hq : Fit 4000 q) (hr : Fit 4000 r) (h : Q (.bl (decide (r ≤ q))) μ) (hj : 7 ≤ k := by decide) : wB X W (compareOp .LtE) d (rt T.C_Ratio q) μ Q Z := .ofV (oL_le g.w0 hd hq hr (by omega)) h
theorem wE_leL (T : Tx X.K X.mg) (g : Gd X W k) (h : ∃ r, Num T.C_Ratio d r ∧ (Fit 4000 q ∧ Fit 4000 r) ∧ Q (.bl (decide (r ≤ q))) μ) (hj : 7 ≤ k := by decide) : wB X W (compareOp .LtE) d (rt T.C_Ratio q) μ Q Z := let ⟨_, a, ⟨b, c⟩, e⟩ := h; wB_leL T g a b c e hj
end
end PM
set_option Elab.async false
set_option linter.all false
set_option maxRecDepth 100000
set_option maxHeartbeats 4000000
set_option exponentiation.threshold 20000
namespace PM
open PySem L2 PyProof.Rows
set_option hygiene false
local macro_rules | `(tactic| fail "E") => `(tactic| ((with_reducible refine hdn ?_); fail "n"))
local macro_rules | `(tactic| fail "E") => `(tactic| ((with_reducible refine hdc ?_); fail "c"))
local macro_rules | `(tactic| fail "E") => `(tactic| refine wE_if ?_)
local macro_rules | `(tactic| fail "E") => `(tactic| refine wE_un ?_)
local macro_rules | `(tactic| fail "E") => `(tactic| refine wE_one ?_)
local macro_rules | `(tactic| fail "E") => `(tactic| refine wE_or ?_)
local macro_rules | `(tactic| fail "E") => `(tactic| refine wE_and ?_)
local macro_rules | `(tactic| fail "E") => `(tactic| refine wE_not ?_)
local macro_rules | `(tactic| fail "E") => `(tactic| refine wE_non ?_)
local macro_rules | `(tactic| fail "E") => `(tactic| refine wE_bl ?_)
local macro_rules | `(tactic| fail "E") => `(tactic| refine wE_str ?_)
local macro_rules | `(tactic| fail "E") => `(tactic| refine wE_lst ?_)
local macro_rules | `(tactic| fail "E") => `(tactic| refine wE_tup ?_)
local macro_rules | `(tactic| fail "E") => `(tactic| refine wE_cmp ?_)
local macro_rules | `(tactic| fail "E") => `(tactic| refine wE_sub ?_)
local macro_rules | `(tactic| fail "E") => `(tactic| refine wE_bin ?_)
local macro_rules | `(tactic| fail "E") => `(tactic| refine wE_int ?_)
local macro_rules | `(tactic| fail "E") => `(tactic| (refine wE_name gn ?_; (repeat (first | with_reducible refine wGt_z ?_ | with_reducible refine wGt_c ?_ | with_reducible refine wGt_s ?_ | with_reducible refine wGt_f ?_)); fail_if_success refine wGt_chk ?_))
local macro_rules | `(tactic| fail "B") => `(tactic| with_reducible refine wB_pow18 ?_)
local macro_rules | `(tactic| fail "B") => `(tactic| with_reducible refine wB_pow9 ?_)
local macro_rules | `(tactic| fail "B") => `(tactic| with_reducible refine wB_pow8 ?_)
local macro_rules | `(tactic| fail "B") => `(tactic| with_reducible refine wB_pow7 ?_)
local macro_rules | `(tactic| fail "B") => `(tactic| with_reducible refine wB_pow6 ?_)
local macro_rules | `(tactic| fail "B") => `(tactic| with_reducible refine wB_pow5 ?_)
local macro_rules | `(tactic| fail "B") => `(tactic| with_reducible refine wB_isNot ?_)
local macro_rules | `(tactic| fail "B") => `(tactic| with_reducible refine wB_is ?_)
local macro_rules | `(tactic| fail "B") => `(tactic| with_reducible refine wB_neB ?_)
local macro_rules | `(tactic| fail "B") => `(tactic| with_reducible refine wB_eqB ?_)
local macro_rules | `(tactic| fail "B") => `(tactic| with_reducible refine wB_neT ?_)
local macro_rules | `(tactic| fail "B") => `(tactic| with_reducible refine wB_eqT ?_)
local macro_rules | `(tactic| fail "B") => `(tactic| with_reducible refine wB_ne ?_)
local macro_rules | `(tactic| fail "B") => `(tactic| with_reducible refine wB_eq ?_)
local macro_rules | `(tactic| fail "B") => `(tactic| with_reducible refine wB_ge ?_)
local macro_rules | `(tactic| fail "B") => `(tactic| with_reducible refine wB_gt ?_)
local macro_rules | `(tactic| fail "B") => `(tactic| with_reducible refine wB_le ?_)
local macro_rules | `(tactic| fail "B") => `(tactic| with_reducible refine wB_lt ?_)
local macro_rules | `(tactic| fail "B") => `(tactic| ((with_reducible refine wB_fdivS ?qc ?_); (case qc => exact ⟨by (first | with_reducible assumption | omega), by (first | with_reducible assumption | omega)⟩)))
local macro_rules | `(tactic| fail "B") => `(tactic| ((with_reducible refine wB_mod ?qc ?_); (case qc => (first | with_reducible assumption | omega))))
local macro_rules | `(tactic| fail "B") => `(tactic| ((with_reducible refine wB_mulL ?qc ?_); (case qc => exact ⟨by (first | with_reducible assumption | omega), by (first | with_reducible assumption | omega)⟩)))
local macro_rules | `(tactic| fail "B") => `(tactic| ((with_reducible refine wB_mulR ?qc ?_); (case qc => exact ⟨by (first | with_reducible assumption | omega), by (first | with_reducible assumption | omega)⟩)))
local macro_rules | `(tactic| fail "B") => `(tactic| with_reducible refine wB_sub ?_)
local macro_rules | `(tactic| fail "B") => `(tactic| with_reducible refine wB_add ?_)
local macro_rules | `(tactic| fail "F") => `(tactic| with_reducible refine wF_min g.toGd ?_)
local macro_rules | `(tactic| fail "F") => `(tactic| with_reducible refine wF_max g.toGd ?_)
local macro_rules | `(tactic| fail "F") => `(tactic| with_reducible refine wF_abs ?_)
local macro_rules | `(tactic| fail "F") => `(tactic| with_reducible refine wF_boolB ?_)
local macro_rules | `(tactic| fail "F") => `(tactic| with_reducible refine wF_intB ?_)
local macro_rules | `(tactic| fail "F") => `(tactic| ((with_reducible refine chkB "len" ?_); refine wF_len (by (first | exact .inl rfl | exact .inr (.inl rfl) | exact .inr (.inr (.inl rfl)) | exact .inr (.inr (.inr ⟨_, rfl, by (first | assumption | with_reducible exact at_last | with_reducible exact at_new rfl | with_reducible exact at_left (by assumption) | with_reducible exact List.getElem?_set_self (by assumption) | with_reducible exact at_left (at_left (by assumption)))⟩)))) ?_))
local macro_rules | `(tactic| fail "X") => `(tactic| (refine wX_ints (by (first | exact .inl rfl | exact .inr (.inl rfl) | exact .inr (.inr (.inl rfl)) | exact .inr (.inr (.inr ⟨_, rfl, by (first | assumption | with_reducible exact at_last | with_reducible exact at_new rfl | with_reducible exact at_left (by assumption) | with_reducible exact List.getElem?_set_self (by assumption) | with_reducible exact at_left (at_left (by assumption)))⟩)))) (by (repeat (first | exact Ints.nil | apply Ints.cons))) (by (first | with_reducible assumption | omega)) (by (simp only [List.length_cons, List.length_nil]; omega)) ?_; intro v hv; simp only [List.mem_cons, List.not_mem_nil, or_false] at hv))
local macro_rules | `(tactic| fail "X") => `(tactic| refine wX_at (by (first | exact .inl rfl | exact .inr (.inl rfl) | exact .inr (.inr (.inl rfl)) | exact .inr (.inr (.inr ⟨_, rfl, by (first | assumption | with_reducible exact at_last | with_reducible exact at_new rfl | with_reducible exact at_left (by assumption) | with_reducible exact List.getElem?_set_self (by assumption) | with_reducible exact at_left (at_left (by assumption)))⟩)))) rfl ?_)
local macro_rules | `(tactic| fail "X") => `(tactic| refine wX_if2 (by (first | exact .inl rfl | exact .inr (.inl rfl) | exact .inr (.inr (.inl rfl)) | exact .inr (.inr (.inr ⟨_, rfl, by (first | assumption | with_reducible exact at_last | with_reducible exact at_new rfl | with_reducible exact at_left (by assumption) | with_reducible exact List.getElem?_set_self (by assumption) | with_reducible exact at_left (at_left (by assumption)))⟩)))) ?_)
local macro_rules | `(tactic| fail "X") => `(tactic| refine wX_if2I (by (first | exact .inl rfl | exact .inr (.inl rfl) | exact .inr (.inr (.inl rfl)) | exact .inr (.inr (.inr ⟨_, rfl, by (first | assumption | with_reducible exact at_last | with_reducible exact at_new rfl | with_reducible exact at_left (by assumption) | with_reducible exact List.getElem?_set_self (by assumption) | with_reducible exact at_left (at_left (by assumption)))⟩)))) ?_)
local macro_rules | `(tactic| fail "A") => `(tactic| refine wA_nil ?_)
local macro_rules | `(tactic| fail "A") => `(tactic| refine wA_cons ?_)
local macro_rules | `(tactic| fail "C") => `(tactic| refine wC_val ?_)
local macro_rules | `(tactic| fail "C") => `(tactic| refine wC_bool ?_)
local macro_rules | `(tactic| fail "C") => `(tactic| refine wC_not ?_)
local macro_rules | `(tactic| fail "C") => `(tactic| refine wC_cmp ?_)
local macro_rules | `(tactic| fail "W") => `(tactic| refine wCw_or1 ?_)
local macro_rules | `(tactic| fail "W") => `(tactic| refine wCw_and1 ?_)
local macro_rules | `(tactic| fail "W") => `(tactic| refine wCw_or ?_)
local macro_rules | `(tactic| fail "W") => `(tactic| refine wCw_and ?_)
local macro_rules | `(tactic| fail "U") => `(tactic| with_reducible refine wU_neg ?_)
local macro_rules | `(tactic| fail "P") => `(tactic| with_reducible refine wPt_s ?_)
local macro_rules | `(tactic| fail "P") => `(tactic| with_reducible refine wPt_c ?_)
local macro_rules | `(tactic| fail "P") => `(tactic| with_reducible refine wPt_z ?_)
local macro_rules | `(tactic| fail "G") => `(tactic| refine wG_name gn ?_)
local macro_rules | `(tactic| fail "G") => `(tactic| refine wG_tup g.calm ?_)
local macro_rules | `(tactic| fail "H") => `(tactic| refine wGs_nil ?_)
local macro_rules | `(tactic| fail "H") => `(tactic| refine wGs_cons ?_)
local macro_rules | `(tactic| fail "S") => `(tactic| refine wS_pass ?_)
local macro_rules | `(tactic| fail "S") => `(tactic| refine wS_asg ?_)
local macro_rules | `(tactic| fail "S") => `(tactic| refine wS_ix ?_)
local macro_rules | `(tactic| fail "S") => `(tactic| refine wS_expr ?_)
local macro_rules | `(tactic| fail "S") => `(tactic| refine wS_if ?_)
local macro_rules | `(tactic| fail "S") => `(tactic| refine wS_ret ?_)
local macro_rules | `(tactic| fail "S") => `(tactic| (refine wS_par3 g ?qa ?_; (case qa => exact ⟨_, _, _, by (repeat (first | with_reducible exact Il.z | with_reducible apply Il.s)), by (repeat (first | with_reducible exact Il.z | with_reducible apply Il.s)), by (repeat (first | with_reducible exact Il.z | with_reducible apply Il.s)), by decide, by decide, by decide⟩)))
local macro_rules | `(tactic| fail "S") => `(tactic| (refine wS_par g ?qa ?_; (case qa => exact ⟨_, _, by (repeat (first | with_reducible exact Il.z | with_reducible apply Il.s)), by (repeat (first | with_reducible exact Il.z | with_reducible apply Il.s)), by decide⟩)))
local macro_rules | `(tactic| fail "S") => `(tactic| (refine wS_set gn ?qa ?_; (case qa => exact ⟨_, by (repeat (first | with_reducible exact Ix.z | with_reducible exact Ix.c | with_reducible apply Ix.s))⟩)))
local macro_rules | `(tactic| fail "L") => `(tactic| refine wSs_nil ?_)
local macro_rules | `(tactic| fail "c") => `(tactic| ((with_reducible refine chkC "sum" ?_); refine xE_blt gn ?qa T.n_sum boot_sum ?_; (case qa => (repeat (first | with_reducible exact In.z | with_reducible apply In.s)))))
local macro_rules | `(tactic| fail "c") => `(tactic| ((with_reducible refine chkC "any" ?_); refine xE_blt gn ?qa T.n_any boot_any ?_; (case qa => (repeat (first | with_reducible exact In.z | with_reducible apply In.s)))))
local macro_rules | `(tactic| fail "c") => `(tactic| ((with_reducible refine chkC "all" ?_); refine xE_blt gn ?qa T.n_all boot_all ?_; (case qa => (repeat (first | with_reducible exact In.z | with_reducible apply In.s)))))
local macro_rules | `(tactic| fail "c") => `(tactic| ((with_reducible refine chkC "bool" ?_); refine xE_bcl gn ?qa T.n_bool boot_bool ?_; (case qa => (repeat (first | with_reducible exact In.z | with_reducible apply In.s)))))
local macro_rules | `(tactic| fail "c") => `(tactic| ((with_reducible refine chkC "list" ?_); refine xE_bcl gn ?qa T.n_list boot_list ?_; (case qa => (repeat (first | with_reducible exact In.z | with_reducible apply In.s)))))
local macro_rules | `(tactic| fail "c") => `(tactic| ((with_reducible refine chkC "tuple" ?_); refine xE_bcl gn ?qa T.n_tuple boot_tuple ?_; (case qa => (repeat (first | with_reducible exact In.z | with_reducible apply In.s)))))
local macro_rules | `(tactic| fail "c") => `(tactic| ((with_reducible refine chkC "isinstance" ?_); refine xE_blt gn ?qa T.n_isinstance boot_isinstance ?_; (case qa => (repeat (first | with_reducible exact In.z | with_reducible apply In.s)))))
local macro_rules | `(tactic| fail "c") => `(tactic| ((with_reducible refine chkC "repr" ?_); refine xE_blt gn ?qa T.n_repr boot_repr ?_; (case qa => (repeat (first | with_reducible exact In.z | with_reducible apply In.s)))))
local macro_rules | `(tactic| fail "c") => `(tactic| ((with_reducible refine chkC "str" ?_); refine xE_bcl gn ?qa T.n_str boot_str ?_; (case qa => (repeat (first | with_reducible exact In.z | with_reducible apply In.s)))))
local macro_rules | `(tactic| fail "c") => `(tactic| ((with_reducible refine chkC "min" ?_); refine xE_blt gn ?qa T.n_min boot_min ?_; (case qa => (repeat (first | with_reducible exact In.z | with_reducible apply In.s)))))
local macro_rules | `(tactic| fail "c") => `(tactic| ((with_reducible refine chkC "max" ?_); refine xE_blt gn ?qa T.n_max boot_max ?_; (case qa => (repeat (first | with_reducible exact In.z | with_reducible apply In.s)))))
local macro_rules | `(tactic| fail "c") => `(tactic| ((with_reducible refine chkC "abs" ?_); refine xE_blt gn ?qa T.n_abs boot_abs ?_; (case qa => (repeat (first | with_reducible exact In.z | with_reducible apply In.s)))))
local macro_rules | `(tactic| fail "c") => `(tactic| ((with_reducible refine chkC "int" ?_); refine xE_bcl gn ?qa T.n_int boot_int ?_; (case qa => (repeat (first | with_reducible exact In.z | with_reducible apply In.s)))))
local macro_rules | `(tactic| fail "c") => `(tactic| ((with_reducible refine chkC "len" ?_); refine xE_blt gn ?qa T.n_len boot_len ?_; (case qa => (repeat (first | with_reducible exact In.z | with_reducible apply In.s)))))
local macro_rules | `(tactic| fail "n") => `(tactic| ((with_reducible refine chkN "Water" ?_); refine xE_cls gn ?qa T.g_Water ?_; (case qa => (repeat (first | with_reducible exact In.z | with_reducible apply In.s)))))
local macro_rules | `(tactic| fail "n") => `(tactic| ((with_reducible refine chkN "Pool" ?_); refine xE_cls gn ?qa T.g_Pool ?_; (case qa => (repeat (first | with_reducible exact In.z | with_reducible apply In.s)))))
local macro_rules | `(tactic| fail "n") => `(tactic| ((with_reducible refine chkN "Ratio" ?_); refine xE_cls gn ?qa T.g_Ratio ?_; (case qa => (repeat (first | with_reducible exact In.z | with_reducible apply In.s)))))
local macro_rules | `(tactic| fail "n") => `(tactic| ((with_reducible refine chkN "UnknownIndex" ?_); refine xE_cls gn ?qa T.g_UnknownIndex ?_; (case qa => (repeat (first | with_reducible exact In.z | with_reducible apply In.s)))))
local macro_rules | `(tactic| fail "n") => `(tactic| ((with_reducible refine chkN "Touching" ?_); refine xE_cls gn ?qa T.g_Touching ?_; (case qa => (repeat (first | with_reducible exact In.z | with_reducible apply In.s)))))
local macro_rules | `(tactic| fail "n") => `(tactic| ((with_reducible refine chkN "Full" ?_); refine xE_cls gn ?qa T.g_Full ?_; (case qa => (repeat (first | with_reducible exact In.z | with_reducible apply In.s)))))
local macro_rules | `(tactic| fail "n") => `(tactic| ((with_reducible refine chkN "InvalidDrop" ?_); refine xE_cls gn ?qa T.g_InvalidDrop ?_; (case qa => (repeat (first | with_reducible exact In.z | with_reducible apply In.s)))))
local macro_rules | `(tactic| fail "n") => `(tactic| ((with_reducible refine chkN "InvalidNumber" ?_); refine xE_cls gn ?qa T.g_InvalidNumber ?_; (case qa => (repeat (first | with_reducible exact In.z | with_reducible apply In.s)))))
local macro_rules | `(tactic| fail "n") => `(tactic| ((with_reducible refine chkN "PoolError" ?_); refine xE_cls gn ?qa T.g_PoolError ?_; (case qa => (repeat (first | with_reducible exact In.z | with_reducible apply In.s)))))
local macro_rules | `(tactic| fail "n") => `(tactic| ((with_reducible refine chkN "list" ?_); refine xE_bty gn ?qa T.n_list boot_list ?_; (case qa => (repeat (first | with_reducible exact In.z | with_reducible apply In.s)))))
local macro_rules | `(tactic| fail "n") => `(tactic| ((with_reducible refine chkN "tuple" ?_); refine xE_bty gn ?qa T.n_tuple boot_tuple ?_; (case qa => (repeat (first | with_reducible exact In.z | with_reducible apply In.s)))))
local macro_rules | `(tactic| fail "n") => `(tactic| ((with_reducible refine chkN "str" ?_); refine xE_bty gn ?qa T.n_str boot_str ?_; (case qa => (repeat (first | with_reducible exact In.z | with_reducible apply In.s)))))
local macro_rules | `(tactic| fail "n") => `(tactic| ((with_reducible refine chkN "bool" ?_); refine xE_bty gn ?qa T.n_bool boot_bool ?_; (case qa => (repeat (first | with_reducible exact In.z | with_reducible apply In.s)))))
local macro_rules | `(tactic| fail "n") => `(tactic| ((with_reducible refine chkN "int" ?_); refine xE_bty gn ?qa T.n_int boot_int ?_; (case qa => (repeat (first | with_reducible exact In.z | with_reducible apply In.s)))))
local macro_rules | `(tactic| fail "O") => `(tactic| refine Exists.intro _ (Exists.intro _ (Exists.intro _ (Exists.intro _ (And.intro rfl (And.intro rfl (And.intro (by (first | assumption | with_reducible exact at_last | with_reducible exact at_new rfl | with_reducible exact at_left (by assumption) | with_reducible exact List.getElem?_set_self (by assumption) | with_reducible exact at_left (at_left (by assumption)))) (And.intro rfl ?_))))))))
local macro_rules | `(tactic| fail "O") => `(tactic| refine Exists.intro _ (Exists.intro _ (Exists.intro _ (And.intro rfl ?_))))
local macro_rules | `(tactic| fail "O") => `(tactic| refine Exists.intro _ (Exists.intro _ (And.intro rfl ?_)))
local macro_rules | `(tactic| fail "O") => `(tactic| refine And.intro (by (simp only [List.length_cons, List.length_nil]; decide)) ?_)
local macro_rules | `(tactic| fail "O") => `(tactic| refine Exists.intro _ (And.intro rfl ?_))
local macro_rules | `(tactic| fail "I") => `(tactic| ((with_reducible refine iteNF ?_); fail "o"))
local macro_rules | `(tactic| fail "I") => `(tactic| ((with_reducible refine iteNT ?_); fail "o"))
local macro_rules | `(tactic| fail "I") => `(tactic| ((with_reducible refine iteFT ?_); fail "o"))
local macro_rules | `(tactic| fail "I") => `(tactic| ((with_reducible refine iteTT ?_); fail "o"))
local macro_rules | `(tactic| fail "J") => `(tactic| ((with_reducible refine iteNF ?_); fail "st"))
local macro_rules | `(tactic| fail "J") => `(tactic| ((with_reducible refine iteNT ?_); fail "st"))
local macro_rules | `(tactic| fail "J") => `(tactic| ((with_reducible refine iteFT ?_); fail "st"))
local macro_rules | `(tactic| fail "J") => `(tactic| ((with_reducible refine iteTT ?_); fail "st"))
local macro_rules | `(tactic| fail "su") => `(tactic| ((with_reducible refine hdL ?_); fail "L"))
local macro_rules | `(tactic| fail "su") => `(tactic| ((with_reducible refine hdS ?_); fail "S"))
local macro_rules | `(tactic| fail "p") => `(tactic| fail "O")
local macro_rules | `(tactic| fail "p") => `(tactic| ((with_reducible refine hdH ?_); fail "H"))
local macro_rules | `(tactic| fail "p") => `(tactic| ((with_reducible refine hdG ?_); fail "G"))
local macro_rules | `(tactic| fail "p") => `(tactic| ((with_reducible refine hdP ?_); fail "P"))
local macro_rules | `(tactic| fail "p") => `(tactic| ((with_reducible refine hdU ?_); fail "U"))
local macro_rules | `(tactic| fail "p") => `(tactic| ((with_reducible refine hdW ?_); fail "W"))
local macro_rules | `(tactic| fail "p") => `(tactic| ((with_reducible refine hdC ?_); fail "C"))
local macro_rules | `(tactic| fail "p") => `(tactic| ((with_reducible refine hdX ?_); fail "X"))
local macro_rules | `(tactic| fail "p") => `(tactic| ((with_reducible refine hdF ?_); fail "F"))
local macro_rules | `(tactic| fail "p") => `(tactic| ((with_reducible refine hdB ?_); fail "B"))
local macro_rules | `(tactic| fail "p") => `(tactic| ((with_reducible refine hdA ?_); fail "A"))
local macro_rules | `(tactic| fail "p") => `(tactic| ((with_reducible refine hdE ?_); fail "E"))
local macro_rules | `(tactic| fail "st") => `(tactic| ((with_reducible refine hdI ?_); fail "J"))
local macro_rules | `(tactic| fail "st") => `(tactic| ((fail_if_success (with_reducible refine hdI ?_)); fail "su"))
local macro_rules | `(tactic| fail "o") => `(tactic| ((with_reducible refine hdI ?_); fail "I"))
local macro_rules | `(tactic| fail "o") => `(tactic| ((fail_if_success (with_reducible refine hdI ?_)); fail "p"))
local macro_rules | `(tactic| walk_at "in") => `(tactic| (repeat (first | with_reducible exact In.z | with_reducible apply In.s)))
local macro_rules | `(tactic| walk_at "at") => `(tactic| (first | assumption | with_reducible exact at_last | with_reducible exact at_new rfl | with_reducible exact at_left (by assumption) | with_reducible exact List.getElem?_set_self (by assumption) | with_reducible exact at_left (at_left (by assumption))))
local macro_rules | `(tactic| walk_at "ixd") => `(tactic| (first | exact .inl rfl | exact .inr (.inl rfl) | exact .inr (.inr (.inl rfl)) | exact .inr (.inr (.inr ⟨_, rfl, by (first | assumption | with_reducible exact at_last | with_reducible exact at_new rfl | with_reducible exact at_left (by assumption) | with_reducible exact List.getElem?_set_self (by assumption) | with_reducible exact at_left (at_left (by assumption)))⟩))))
local macro_rules | `(tactic| walk_at "ints") => `(tactic| (repeat (first | exact Ints.nil | apply Ints.cons)))
local macro_rules | `(tactic| walk_at "num") => `(tactic| (first | with_reducible assumption | omega))
local macro_rules | `(tactic| walk_at "nm") => `(tactic| (first | exact Num.rt _ | exact Num.int _ | assumption))
local macro_rules | `(tactic| walk_at "fit") => `(tactic| (first | with_reducible assumption | exact Fit.mono (by (repeat' (first | with_reducible assumption | with_reducible exact fit_two | with_reducible apply fit_add | with_reducible apply fit_sub | with_reducible apply fit_mul | with_reducible apply fit_half | with_reducible apply fit_rabs | with_reducible apply fit_neg))) (by decide) | exact Fit.mono (n := 64) (fit_int (by omega) (by decide)) (by decide)))
local macro_rules | `(tactic| walk_at "ix") => `(tactic| (repeat (first | with_reducible exact Ix.z | with_reducible exact Ix.c | with_reducible apply Ix.s)))
local macro_rules | `(tactic| walk_at "il") => `(tactic| (repeat (first | with_reducible exact Il.z | with_reducible apply Il.s)))
local macro_rules | `(tactic| walk_at "one") => `(tactic| first | fail "o" | fail "st" | refine wSs_cons ?_)
local macro_rules | `(tactic| walk_at "wp") => `(tactic| repeat (first | fail "o" | fail "st" | refine wSs_cons ?_))
local macro_rules | `(tactic| walk_at "s1") => `(tactic| (refine wSs_cons ?_; repeat (first | fail "o" | fail "st")))
local macro_rules | `(tactic| walk_at "e") => `(tactic| repeat (fail "o"))
local macro_rules | `(tactic| walk_at "start") => `(tactic| (intro ρ hρ cdv A outer s H E g; simp only [startD, List.map_cons, List.map_nil, List.length_cons, List.length_nil, List.replicate_succ, List.replicate_zero, List.cons_append, List.nil_append, Nat.reduceAdd, Nat.reduceSub] at hρ; subst hρ; have gn := g.toNx'))
local macro_rules | `(tactic| walk_at "suite") => `(tactic| (intro a dd oe pn hz hv gn ρs hρ; simp only [List.set_cons_succ, List.set_cons_zero] at hρ; subst hρ))
local macro_rules | `(tactic| walk_at "after") => `(tactic| (intro ρs hρ; simp only [List.set_cons_succ, List.set_cons_zero] at hρ; subst hρ))
local macro_rules | `(tactic| walk_at "blk") => `(tactic| (intro s H C cl fp g; have gn := g.toNx'))
def tx (i : Int) : Str := toString i
/-- the text of a ratio -/
def txR (q : Rat) : Str := if q.den = 1 then tx q.num else tx q.num ++ Str.ofString "/" ++ tx q.den
def txP (q : Rat) : Str := Str.ofString "Ratio(" ++ tx q.num ++ Str.ofString ", " ++ tx q.den ++ Str.ofString ")"
theorem log_fit {i : Int} (h : i.natAbs < 2 ^ 1000) : i.natAbs.log2 < 1920 := Nat.lt_trans (log2_lt h (by decide)) (by decide)
theorem int_len {i : Int} (h : i.natAbs < 2 ^ 1000) : (tx i).length ≤ 2000 := by
  have := int_text_length_le (a := i) (k := 1920) (by decide) (log_fit h)
  clear h
  unfold tx
  rw [PySem.ofString_length]
  omega
theorem sl_big : 1000000 ≤ sizeLine := by rw [sizeLine_eq]; decide
theorem txR_len {q : Rat} (h : Fit 1000 q) : (txR q).length ≤ 4001 := by
  have e1 := int_len h.n
  have e2 := int_len h.d
  have c1 : (Str.ofString "/").length = 1 := rfl
  unfold txR
  split
  · omega
  · rw [Str.length_append, Str.length_append, c1]
    omega
section
variable {P : Program} {w : World} {K : PySem.W.Frag} {mg : Str → Option Value} {base : Heap} (T : Tx K mg)
def R1s (T : Tx K mg) (f : Rat → D) : Rl := fun ds μ o => ∃ q, ds = [rt T.C_Ratio q] ∧ Fit 1000 q ∧ o = .ret (f q) μ
theorem ok_str : FnG P w K mg base 1 T.a_Ratio_str T.fd_Ratio_str ["self"] (spR K (R1s T fun q => .str (txR q))) := by
  refine SpF.rel (f := T.f_Ratio_str) ?_
  rintro ds μ o ⟨q, rfl, hq, rfl⟩
  refine spX_of T.F_Ratio_str sc_Ratio_str ck_Ratio_str rfl ?_
  walk_at "start"
  have sl := sl_big
  have l1 := int_len hq.n
  have l2 := int_len hq.d
  walk_at "s1"
  refine wE_bot (T := T) ?_
  walk_at "e"
  have fin : ∀ x, x = txR q → RetOk μ (fun d μ' => FO.ret (.str (txR q)) μ = .ret d μ') (.str x) (μ ++ []) := fun x e => by rw [List.append_nil, e]; exact .same rfl
  refine br_dec (fun h1 => ?_) (fun h1 => ?_)
  · walk_at "s1"
    refine wE_top (T := T) ?_
    walk_at "e"
    refine wF_strI (log_fit hq.n) ?_
    exact fin _ (by unfold txR; rw [if_pos (by omega)]; rfl)
  · refine wSs_nil ?_
    refine wSs_cons (wS_ret (.ofV (ev_joined (.cons (ev_fmtI (ev_top (T := T) (q := q) (ev_var 0 rfl)) (log_fit hq.n)) ?_ (.cons ev_str ?_ (.cons (ev_fmtI (ev_bot (T := T) (q := q) (ev_var 0 rfl)) (log_fit hq.d)) ?_ .nil)))) ?_))
    · show (Str.empty ++ tx q.num).length ≤ _
      rw [Str.length_append]
      show 0 + _ ≤ _
      omega
    · show (Str.empty ++ tx q.num ++ Str.ofString "/").length ≤ _
      rw [Str.length_append, Str.length_append]
      show 0 + _ + 1 ≤ _
      omega
    · show (Str.empty ++ tx q.num ++ Str.ofString "/" ++ tx q.den).length ≤ _
      rw [Str.length_append, Str.length_append, Str.length_append]
      show 0 + _ + 1 + _ ≤ _
      omega
    · refine fin _ ?_
      unfold txR
      rw [if_neg (by omega)]
      rw [Str.empty_append]
      rfl
end
end PM
set_option Elab.async false
set_option linter.all false
set_option maxRecDepth 100000
set_option maxHeartbeats 4000000
set_option exponentiation.threshold 20000
namespace PM
open PySem L2 PyProof.Rows
set_option hygiene false
local macro_rules | `(tactic| fail "E") => `(tactic| ((with_reducible refine hda ?_); fail "a"))
local macro_rules | `(tactic| fail "E") => `(tactic| ((with_reducible refine hdn ?_); fail "n"))
local macro_rules | `(tactic| fail "E") => `(tactic| ((with_reducible refine hdc ?_); fail "c"))
local macro_rules | `(tactic| fail "E") => `(tactic| refine wE_if ?_)
local macro_rules | `(tactic| fail "E") => `(tactic| refine wE_un ?_)
local macro_rules | `(tactic| fail "E") => `(tactic| refine wE_one ?_)
local macro_rules | `(tactic| fail "E") => `(tactic| refine wE_or ?_)
local macro_rules | `(tactic| fail "E") => `(tactic| refine wE_and ?_)
local macro_rules | `(tactic| fail "E") => `(tactic| refine wE_not ?_)
local macro_rules | `(tactic| fail "E") => `(tactic| refine wE_non ?_)
local macro_rules | `(tactic| fail "E") => `(tactic| refine wE_bl ?_)
local macro_rules | `(tactic| fail "E") => `(tactic| refine wE_str ?_)
local macro_rules | `(tactic| fail "E") => `(tactic| refine wE_lst ?_)
local macro_rules | `(tactic| fail "E") => `(tactic| refine wE_tup ?_)
local macro_rules | `(tactic| fail "E") => `(tactic| refine wE_cmp ?_)
local macro_rules | `(tactic| fail "E") => `(tactic| refine wE_sub ?_)
local macro_rules | `(tactic| fail "E") => `(tactic| refine wE_bin ?_)
local macro_rules | `(tactic| fail "E") => `(tactic| refine wE_int ?_)
local macro_rules | `(tactic| fail "E") => `(tactic| (refine wE_name gn ?_; (repeat (first | with_reducible refine wGt_z ?_ | with_reducible refine wGt_c ?_ | with_reducible refine wGt_s ?_ | with_reducible refine wGt_f ?_)); fail_if_success refine wGt_chk ?_))
local macro_rules | `(tactic| fail "B") => `(tactic| ((with_reducible refine chkCmL .LtE ?_); refine wE_leL T g.toGd ?_; refine Exists.intro _ (And.intro (by (first | exact Num.rt _ | exact Num.int _ | assumption)) (And.intro (And.intro (by (first | with_reducible assumption | exact Fit.mono (by (repeat' (first | with_reducible assumption | with_reducible exact fit_two | with_reducible apply fit_add | with_reducible apply fit_sub | with_reducible apply fit_mul | with_reducible apply fit_half | with_reducible apply fit_rabs | with_reducible apply fit_neg))) (by decide) | exact Fit.mono (n := 64) (fit_int (by omega) (by decide)) (by decide))) (by (first | with_reducible assumption | exact Fit.mono (by (repeat' (first | with_reducible assumption | with_reducible exact fit_two | with_reducible apply fit_add | with_reducible apply fit_sub | with_reducible apply fit_mul | with_reducible apply fit_half | with_reducible apply fit_rabs | with_reducible apply fit_neg))) (by decide) | exact Fit.mono (n := 64) (fit_int (by omega) (by decide)) (by decide)))) ?_))))
local macro_rules | `(tactic| fail "B") => `(tactic| ((with_reducible refine chkCm .GtE ?_); refine wE_geR T g.toGd ?_; refine Exists.intro _ (And.intro (by (first | exact Num.rt _ | exact Num.int _ | assumption)) (And.intro (And.intro (by (first | with_reducible assumption | exact Fit.mono (by (repeat' (first | with_reducible assumption | with_reducible exact fit_two | with_reducible apply fit_add | with_reducible apply fit_sub | with_reducible apply fit_mul | with_reducible apply fit_half | with_reducible apply fit_rabs | with_reducible apply fit_neg))) (by decide) | exact Fit.mono (n := 64) (fit_int (by omega) (by decide)) (by decide))) (by (first | with_reducible assumption | exact Fit.mono (by (repeat' (first | with_reducible assumption | with_reducible exact fit_two | with_reducible apply fit_add | with_reducible apply fit_sub | with_reducible apply fit_mul | with_reducible apply fit_half | with_reducible apply fit_rabs | with_reducible apply fit_neg))) (by decide) | exact Fit.mono (n := 64) (fit_int (by omega) (by decide)) (by decide)))) ?_))))
local macro_rules | `(tactic| fail "B") => `(tactic| ((with_reducible refine chkCm .LtE ?_); refine wE_leR T g.toGd ?_; refine Exists.intro _ (And.intro (by (first | exact Num.rt _ | exact Num.int _ | assumption)) (And.intro (And.intro (by (first | with_reducible assumption | exact Fit.mono (by (repeat' (first | with_reducible assumption | with_reducible exact fit_two | with_reducible apply fit_add | with_reducible apply fit_sub | with_reducible apply fit_mul | with_reducible apply fit_half | with_reducible apply fit_rabs | with_reducible apply fit_neg))) (by decide) | exact Fit.mono (n := 64) (fit_int (by omega) (by decide)) (by decide))) (by (first | with_reducible assumption | exact Fit.mono (by (repeat' (first | with_reducible assumption | with_reducible exact fit_two | with_reducible apply fit_add | with_reducible apply fit_sub | with_reducible apply fit_mul | with_reducible apply fit_half | with_reducible apply fit_rabs | with_reducible apply fit_neg))) (by decide) | exact Fit.mono (n := 64) (fit_int (by omega) (by decide)) (by decide)))) ?_))))
local macro_rules | `(tactic| fail "B") => `(tactic| ((with_reducible refine chkSub ?_); refine wE_subR T g.toGd ?_; refine Exists.intro _ (And.intro (by (first | exact Num.rt _ | exact Num.int _ | assumption)) (And.intro (And.intro (by (first | with_reducible assumption | exact Fit.mono (by (repeat' (first | with_reducible assumption | with_reducible exact fit_two | with_reducible apply fit_add | with_reducible apply fit_sub | with_reducible apply fit_mul | with_reducible apply fit_half | with_reducible apply fit_rabs | with_reducible apply fit_neg))) (by decide) | exact Fit.mono (n := 64) (fit_int (by omega) (by decide)) (by decide))) (by (first | with_reducible assumption | exact Fit.mono (by (repeat' (first | with_reducible assumption | with_reducible exact fit_two | with_reducible apply fit_add | with_reducible apply fit_sub | with_reducible apply fit_mul | with_reducible apply fit_half | with_reducible apply fit_rabs | with_reducible apply fit_neg))) (by decide) | exact Fit.mono (n := 64) (fit_int (by omega) (by decide)) (by decide)))) ?_))))
local macro_rules | `(tactic| fail "B") => `(tactic| ((with_reducible refine chkAdd ?_); refine wE_addR T g.toGd ?_; refine Exists.intro _ (And.intro (by (first | exact Num.rt _ | exact Num.int _ | assumption)) (And.intro (And.intro (by (first | with_reducible assumption | exact Fit.mono (by (repeat' (first | with_reducible assumption | with_reducible exact fit_two | with_reducible apply fit_add | with_reducible apply fit_sub | with_reducible apply fit_mul | with_reducible apply fit_half | with_reducible apply fit_rabs | with_reducible apply fit_neg))) (by decide) | exact Fit.mono (n := 64) (fit_int (by omega) (by decide)) (by decide))) (by (first | with_reducible assumption | exact Fit.mono (by (repeat' (first | with_reducible assumption | with_reducible exact fit_two | with_reducible apply fit_add | with_reducible apply fit_sub | with_reducible apply fit_mul | with_reducible apply fit_half | with_reducible apply fit_rabs | with_reducible apply fit_neg))) (by decide) | exact Fit.mono (n := 64) (fit_int (by omega) (by decide)) (by decide)))) ?_))))
local macro_rules | `(tactic| fail "B") => `(tactic| with_reducible refine wB_pow18 ?_)
local macro_rules | `(tactic| fail "B") => `(tactic| with_reducible refine wB_pow9 ?_)
local macro_rules | `(tactic| fail "B") => `(tactic| with_reducible refine wB_pow8 ?_)
local macro_rules | `(tactic| fail "B") => `(tactic| with_reducible refine wB_pow7 ?_)
local macro_rules | `(tactic| fail "B") => `(tactic| with_reducible refine wB_pow6 ?_)
local macro_rules | `(tactic| fail "B") => `(tactic| with_reducible refine wB_pow5 ?_)
local macro_rules | `(tactic| fail "B") => `(tactic| with_reducible refine wB_isNot ?_)
local macro_rules | `(tactic| fail "B") => `(tactic| with_reducible refine wB_is ?_)
local macro_rules | `(tactic| fail "B") => `(tactic| with_reducible refine wB_neB ?_)
local macro_rules | `(tactic| fail "B") => `(tactic| with_reducible refine wB_eqB ?_)
local macro_rules | `(tactic| fail "B") => `(tactic| with_reducible refine wB_neT ?_)
local macro_rules | `(tactic| fail "B") => `(tactic| with_reducible refine wB_eqT ?_)
local macro_rules | `(tactic| fail "B") => `(tactic| with_reducible refine wB_ne ?_)
local macro_rules | `(tactic| fail "B") => `(tactic| with_reducible refine wB_eq ?_)
local macro_rules | `(tactic| fail "B") => `(tactic| with_reducible refine wB_ge ?_)
local macro_rules | `(tactic| fail "B") => `(tactic| with_reducible refine wB_gt ?_)
local macro_rules | `(tactic| fail "B") => `(tactic| with_reducible refine wB_le ?_)
local macro_rules | `(tactic| fail "B") => `(tactic| with_reducible refine wB_lt ?_)
local macro_rules | `(tactic| fail "B") => `(tactic| ((with_reducible refine wB_fdivS ?qc ?_); (case qc => exact ⟨by (first | with_reducible assumption | omega), by (first | with_reducible assumption | omega)⟩)))
local macro_rules | `(tactic| fail "B") => `(tactic| ((with_reducible refine wB_mod ?qc ?_); (case qc => (first | with_reducible assumption | omega))))
local macro_rules | `(tactic| fail "B") => `(tactic| ((with_reducible refine wB_mulL ?qc ?_); (case qc => exact ⟨by (first | with_reducible assumption | omega), by (first | with_reducible assumption | omega)⟩)))
local macro_rules | `(tactic| fail "B") => `(tactic| ((with_reducible refine wB_mulR ?qc ?_); (case qc => exact ⟨by (first | with_reducible assumption | omega), by (first | with_reducible assumption | omega)⟩)))
local macro_rules | `(tactic| fail "B") => `(tactic| with_reducible refine wB_sub ?_)
local macro_rules | `(tactic| fail "B") => `(tactic| with_reducible refine wB_add ?_)
local macro_rules | `(tactic| fail "F") => `(tactic| with_reducible refine wF_R1 T g.toGd ?_)
local macro_rules | `(tactic| fail "F") => `(tactic| ((with_reducible refine wF_R2 T g.toGd ?qc1 ?qc2 ?_); (case qc1 => (first | with_reducible assumption | omega)); (case qc2 => exact lt_pow_mono (n := 64) (by (first | with_reducible assumption | omega)) (by decide))))
local macro_rules | `(tactic| fail "F") => `(tactic| with_reducible refine wF_isBB ?_)
local macro_rules | `(tactic| fail "F") => `(tactic| with_reducible refine wF_isIB ?_)
local macro_rules | `(tactic| fail "F") => `(tactic| with_reducible refine wF_isII ?_)
local macro_rules | `(tactic| fail "F") => `(tactic| ((with_reducible refine wF_isRt ?qc ?_); (case qc => exact T.own_Ratio)))
local macro_rules | `(tactic| fail "F") => `(tactic| with_reducible refine wF_min g.toGd ?_)
local macro_rules | `(tactic| fail "F") => `(tactic| with_reducible refine wF_max g.toGd ?_)
local macro_rules | `(tactic| fail "F") => `(tactic| with_reducible refine wF_abs ?_)
local macro_rules | `(tactic| fail "F") => `(tactic| with_reducible refine wF_boolB ?_)
local macro_rules | `(tactic| fail "F") => `(tactic| with_reducible refine wF_intB ?_)
local macro_rules | `(tactic| fail "F") => `(tactic| ((with_reducible refine chkB "len" ?_); refine wF_len (by (first | exact .inl rfl | exact .inr (.inl rfl) | exact .inr (.inr (.inl rfl)) | exact .inr (.inr (.inr ⟨_, rfl, by (first | assumption | with_reducible exact at_last | with_reducible exact at_new rfl | with_reducible exact at_left (by assumption) | with_reducible exact List.getElem?_set_self (by assumption) | with_reducible exact at_left (at_left (by assumption)))⟩)))) ?_))
local macro_rules | `(tactic| fail "X") => `(tactic| (refine wX_ints (by (first | exact .inl rfl | exact .inr (.inl rfl) | exact .inr (.inr (.inl rfl)) | exact .inr (.inr (.inr ⟨_, rfl, by (first | assumption | with_reducible exact at_last | with_reducible exact at_new rfl | with_reducible exact at_left (by assumption) | with_reducible exact List.getElem?_set_self (by assumption) | with_reducible exact at_left (at_left (by assumption)))⟩)))) (by (repeat (first | exact Ints.nil | apply Ints.cons))) (by (first | with_reducible assumption | omega)) (by (simp only [List.length_cons, List.length_nil]; omega)) ?_; intro v hv; simp only [List.mem_cons, List.not_mem_nil, or_false] at hv))
local macro_rules | `(tactic| fail "X") => `(tactic| refine wX_at (by (first | exact .inl rfl | exact .inr (.inl rfl) | exact .inr (.inr (.inl rfl)) | exact .inr (.inr (.inr ⟨_, rfl, by (first | assumption | with_reducible exact at_last | with_reducible exact at_new rfl | with_reducible exact at_left (by assumption) | with_reducible exact List.getElem?_set_self (by assumption) | with_reducible exact at_left (at_left (by assumption)))⟩)))) rfl ?_)
local macro_rules | `(tactic| fail "X") => `(tactic| refine wX_if2 (by (first | exact .inl rfl | exact .inr (.inl rfl) | exact .inr (.inr (.inl rfl)) | exact .inr (.inr (.inr ⟨_, rfl, by (first | assumption | with_reducible exact at_last | with_reducible exact at_new rfl | with_reducible exact at_left (by assumption) | with_reducible exact List.getElem?_set_self (by assumption) | with_reducible exact at_left (at_left (by assumption)))⟩)))) ?_)
local macro_rules | `(tactic| fail "X") => `(tactic| refine wX_if2I (by (first | exact .inl rfl | exact .inr (.inl rfl) | exact .inr (.inr (.inl rfl)) | exact .inr (.inr (.inr ⟨_, rfl, by (first | assumption | with_reducible exact at_last | with_reducible exact at_new rfl | with_reducible exact at_left (by assumption) | with_reducible exact List.getElem?_set_self (by assumption) | with_reducible exact at_left (at_left (by assumption)))⟩)))) ?_)
local macro_rules | `(tactic| fail "A") => `(tactic| refine wA_nil ?_)
local macro_rules | `(tactic| fail "A") => `(tactic| refine wA_cons ?_)
local macro_rules | `(tactic| fail "C") => `(tactic| refine wC_val ?_)
local macro_rules | `(tactic| fail "C") => `(tactic| refine wC_bool ?_)
local macro_rules | `(tactic| fail "C") => `(tactic| refine wC_not ?_)
local macro_rules | `(tactic| fail "C") => `(tactic| refine wC_cmp ?_)
local macro_rules | `(tactic| fail "W") => `(tactic| refine wCw_or1 ?_)
local macro_rules | `(tactic| fail "W") => `(tactic| refine wCw_and1 ?_)
local macro_rules | `(tactic| fail "W") => `(tactic| refine wCw_or ?_)
local macro_rules | `(tactic| fail "W") => `(tactic| refine wCw_and ?_)
local macro_rules | `(tactic| fail "U") => `(tactic| ((with_reducible refine chkNg ?_); refine wU_negR T g.toGd ?qf ?_; (case qf => (first | with_reducible assumption | exact Fit.mono (by (repeat' (first | with_reducible assumption | with_reducible exact fit_two | with_reducible apply fit_add | with_reducible apply fit_sub | with_reducible apply fit_mul | with_reducible apply fit_half | with_reducible apply fit_rabs | with_reducible apply fit_neg))) (by decide) | exact Fit.mono (n := 64) (fit_int (by omega) (by decide)) (by decide)))))
local macro_rules | `(tactic| fail "U") => `(tactic| with_reducible refine wU_neg ?_)
local macro_rules | `(tactic| fail "P") => `(tactic| with_reducible refine wPt_s ?_)
local macro_rules | `(tactic| fail "P") => `(tactic| with_reducible refine wPt_c ?_)
local macro_rules | `(tactic| fail "P") => `(tactic| with_reducible refine wPt_z ?_)
local macro_rules | `(tactic| fail "G") => `(tactic| refine wG_name gn ?_)
local macro_rules | `(tactic| fail "G") => `(tactic| refine wG_tup g.calm ?_)
local macro_rules | `(tactic| fail "H") => `(tactic| refine wGs_nil ?_)
local macro_rules | `(tactic| fail "H") => `(tactic| refine wGs_cons ?_)
local macro_rules | `(tactic| fail "S") => `(tactic| refine wS_pass ?_)
local macro_rules | `(tactic| fail "S") => `(tactic| refine wS_asg ?_)
local macro_rules | `(tactic| fail "S") => `(tactic| refine wS_ix ?_)
local macro_rules | `(tactic| fail "S") => `(tactic| refine wS_expr ?_)
local macro_rules | `(tactic| fail "S") => `(tactic| refine wS_if ?_)
local macro_rules | `(tactic| fail "S") => `(tactic| refine wS_ret ?_)
local macro_rules | `(tactic| fail "S") => `(tactic| (refine wS_par3 g ?qa ?_; (case qa => exact ⟨_, _, _, by (repeat (first | with_reducible exact Il.z | with_reducible apply Il.s)), by (repeat (first | with_reducible exact Il.z | with_reducible apply Il.s)), by (repeat (first | with_reducible exact Il.z | with_reducible apply Il.s)), by decide, by decide, by decide⟩)))
local macro_rules | `(tactic| fail "S") => `(tactic| (refine wS_par g ?qa ?_; (case qa => exact ⟨_, _, by (repeat (first | with_reducible exact Il.z | with_reducible apply Il.s)), by (repeat (first | with_reducible exact Il.z | with_reducible apply Il.s)), by decide⟩)))
local macro_rules | `(tactic| fail "S") => `(tactic| (refine wS_set gn ?qa ?_; (case qa => exact ⟨_, by (repeat (first | with_reducible exact Ix.z | with_reducible exact Ix.c | with_reducible apply Ix.s))⟩)))
local macro_rules | `(tactic| fail "L") => `(tactic| refine wSs_nil ?_)
local macro_rules | `(tactic| fail "c") => `(tactic| ((with_reducible refine chkC "Water" ?_); refine xE_make gn ?qa T.g_Water T.mk_Water.kp ?_; (case qa => (repeat (first | with_reducible exact In.z | with_reducible apply In.s)))))
local macro_rules | `(tactic| fail "c") => `(tactic| ((with_reducible refine chkC "Pool" ?_); refine xE_make gn ?qa T.g_Pool T.mk_Pool.kp ?_; (case qa => (repeat (first | with_reducible exact In.z | with_reducible apply In.s)))))
local macro_rules | `(tactic| fail "c") => `(tactic| ((with_reducible refine chkC "Ratio" ?_); refine xE_make gn ?qa T.g_Ratio T.mk_Ratio.kp ?_; (case qa => (repeat (first | with_reducible exact In.z | with_reducible apply In.s)))))
local macro_rules | `(tactic| fail "c") => `(tactic| ((with_reducible refine chkC "sum" ?_); refine xE_blt gn ?qa T.n_sum boot_sum ?_; (case qa => (repeat (first | with_reducible exact In.z | with_reducible apply In.s)))))
local macro_rules | `(tactic| fail "c") => `(tactic| ((with_reducible refine chkC "any" ?_); refine xE_blt gn ?qa T.n_any boot_any ?_; (case qa => (repeat (first | with_reducible exact In.z | with_reducible apply In.s)))))
local macro_rules | `(tactic| fail "c") => `(tactic| ((with_reducible refine chkC "all" ?_); refine xE_blt gn ?qa T.n_all boot_all ?_; (case qa => (repeat (first | with_reducible exact In.z | with_reducible apply In.s)))))
local macro_rules | `(tactic| fail "c") => `(tactic| ((with_reducible refine chkC "bool" ?_); refine xE_bcl gn ?qa T.n_bool boot_bool ?_; (case qa => (repeat (first | with_reducible exact In.z | with_reducible apply In.s)))))
local macro_rules | `(tactic| fail "c") => `(tactic| ((with_reducible refine chkC "list" ?_); refine xE_bcl gn ?qa T.n_list boot_list ?_; (case qa => (repeat (first | with_reducible exact In.z | with_reducible apply In.s)))))
local macro_rules | `(tactic| fail "c") => `(tactic| ((with_reducible refine chkC "tuple" ?_); refine xE_bcl gn ?qa T.n_tuple boot_tuple ?_; (case qa => (repeat (first | with_reducible exact In.z | with_reducible apply In.s)))))
local macro_rules | `(tactic| fail "c") => `(tactic| ((with_reducible refine chkC "isinstance" ?_); refine xE_blt gn ?qa T.n_isinstance boot_isinstance ?_; (case qa => (repeat (first | with_reducible exact In.z | with_reducible apply In.s)))))
local macro_rules | `(tactic| fail "c") => `(tactic| ((with_reducible refine chkC "repr" ?_); refine xE_blt gn ?qa T.n_repr boot_repr ?_; (case qa => (repeat (first | with_reducible exact In.z | with_reducible apply In.s)))))
local macro_rules | `(tactic| fail "c") => `(tactic| ((with_reducible refine chkC "str" ?_); refine xE_bcl gn ?qa T.n_str boot_str ?_; (case qa => (repeat (first | with_reducible exact In.z | with_reducible apply In.s)))))
local macro_rules | `(tactic| fail "c") => `(tactic| ((with_reducible refine chkC "min" ?_); refine xE_blt gn ?qa T.n_min boot_min ?_; (case qa => (repeat (first | with_reducible exact In.z | with_reducible apply In.s)))))
local macro_rules | `(tactic| fail "c") => `(tactic| ((with_reducible refine chkC "max" ?_); refine xE_blt gn ?qa T.n_max boot_max ?_; (case qa => (repeat (first | with_reducible exact In.z | with_reducible apply In.s)))))
local macro_rules | `(tactic| fail "c") => `(tactic| ((with_reducible refine chkC "abs" ?_); refine xE_blt gn ?qa T.n_abs boot_abs ?_; (case qa => (repeat (first | with_reducible exact In.z | with_reducible apply In.s)))))
local macro_rules | `(tactic| fail "c") => `(tactic| ((with_reducible refine chkC "int" ?_); refine xE_bcl gn ?qa T.n_int boot_int ?_; (case qa => (repeat (first | with_reducible exact In.z | with_reducible apply In.s)))))
local macro_rules | `(tactic| fail "c") => `(tactic| ((with_reducible refine chkC "len" ?_); refine xE_blt gn ?qa T.n_len boot_len ?_; (case qa => (repeat (first | with_reducible exact In.z | with_reducible apply In.s)))))
local macro_rules | `(tactic| fail "n") => `(tactic| ((with_reducible refine chkN "Water" ?_); refine xE_cls gn ?qa T.g_Water ?_; (case qa => (repeat (first | with_reducible exact In.z | with_reducible apply In.s)))))
local macro_rules | `(tactic| fail "n") => `(tactic| ((with_reducible refine chkN "Pool" ?_); refine xE_cls gn ?qa T.g_Pool ?_; (case qa => (repeat (first | with_reducible exact In.z | with_reducible apply In.s)))))
local macro_rules | `(tactic| fail "n") => `(tactic| ((with_reducible refine chkN "Ratio" ?_); refine xE_cls gn ?qa T.g_Ratio ?_; (case qa => (repeat (first | with_reducible exact In.z | with_reducible apply In.s)))))
local macro_rules | `(tactic| fail "n") => `(tactic| ((with_reducible refine chkN "UnknownIndex" ?_); refine xE_cls gn ?qa T.g_UnknownIndex ?_; (case qa => (repeat (first | with_reducible exact In.z | with_reducible apply In.s)))))
local macro_rules | `(tactic| fail "n") => `(tactic| ((with_reducible refine chkN "Touching" ?_); refine xE_cls gn ?qa T.g_Touching ?_; (case qa => (repeat (first | with_reducible exact In.z | with_reducible apply In.s)))))
local macro_rules | `(tactic| fail "n") => `(tactic| ((with_reducible refine chkN "Full" ?_); refine xE_cls gn ?qa T.g_Full ?_; (case qa => (repeat (first | with_reducible exact In.z | with_reducible apply In.s)))))
local macro_rules | `(tactic| fail "n") => `(tactic| ((with_reducible refine chkN "InvalidDrop" ?_); refine xE_cls gn ?qa T.g_InvalidDrop ?_; (case qa => (repeat (first | with_reducible exact In.z | with_reducible apply In.s)))))
local macro_rules | `(tactic| fail "n") => `(tactic| ((with_reducible refine chkN "InvalidNumber" ?_); refine xE_cls gn ?qa T.g_InvalidNumber ?_; (case qa => (repeat (first | with_reducible exact In.z | with_reducible apply In.s)))))
local macro_rules | `(tactic| fail "n") => `(tactic| ((with_reducible refine chkN "PoolError" ?_); refine xE_cls gn ?qa T.g_PoolError ?_; (case qa => (repeat (first | with_reducible exact In.z | with_reducible apply In.s)))))
local macro_rules | `(tactic| fail "n") => `(tactic| ((with_reducible refine chkN "list" ?_); refine xE_bty gn ?qa T.n_list boot_list ?_; (case qa => (repeat (first | with_reducible exact In.z | with_reducible apply In.s)))))
local macro_rules | `(tactic| fail "n") => `(tactic| ((with_reducible refine chkN "tuple" ?_); refine xE_bty gn ?qa T.n_tuple boot_tuple ?_; (case qa => (repeat (first | with_reducible exact In.z | with_reducible apply In.s)))))
local macro_rules | `(tactic| fail "n") => `(tactic| ((with_reducible refine chkN "str" ?_); refine xE_bty gn ?qa T.n_str boot_str ?_; (case qa => (repeat (first | with_reducible exact In.z | with_reducible apply In.s)))))
local macro_rules | `(tactic| fail "n") => `(tactic| ((with_reducible refine chkN "bool" ?_); refine xE_bty gn ?qa T.n_bool boot_bool ?_; (case qa => (repeat (first | with_reducible exact In.z | with_reducible apply In.s)))))
local macro_rules | `(tactic| fail "n") => `(tactic| ((with_reducible refine chkN "int" ?_); refine xE_bty gn ?qa T.n_int boot_int ?_; (case qa => (repeat (first | with_reducible exact In.z | with_reducible apply In.s)))))
local macro_rules | `(tactic| fail "a") => `(tactic| ((with_reducible refine chkA "bottom" ?_); refine wE_bot T ?_))
local macro_rules | `(tactic| fail "a") => `(tactic| ((with_reducible refine chkA "top" ?_); refine wE_top T ?_))
local macro_rules | `(tactic| fail "O") => `(tactic| refine Exists.intro _ (Exists.intro _ (Exists.intro _ (Exists.intro _ (And.intro rfl (And.intro rfl (And.intro (by (first | assumption | with_reducible exact at_last | with_reducible exact at_new rfl | with_reducible exact at_left (by assumption) | with_reducible exact List.getElem?_set_self (by assumption) | with_reducible exact at_left (at_left (by assumption)))) (And.intro rfl ?_))))))))
local macro_rules | `(tactic| fail "O") => `(tactic| refine Exists.intro _ (Exists.intro _ (Exists.intro _ (And.intro rfl ?_))))
local macro_rules | `(tactic| fail "O") => `(tactic| refine Exists.intro _ (Exists.intro _ (And.intro rfl ?_)))
local macro_rules | `(tactic| fail "O") => `(tactic| refine And.intro (by (simp only [List.length_cons, List.length_nil]; decide)) ?_)
local macro_rules | `(tactic| fail "O") => `(tactic| refine Exists.intro _ (And.intro rfl ?_))
local macro_rules | `(tactic| fail "I") => `(tactic| ((with_reducible refine iteNF ?_); fail "o"))
local macro_rules | `(tactic| fail "I") => `(tactic| ((with_reducible refine iteNT ?_); fail "o"))
local macro_rules | `(tactic| fail "I") => `(tactic| ((with_reducible refine iteFT ?_); fail "o"))
local macro_rules | `(tactic| fail "I") => `(tactic| ((with_reducible refine iteTT ?_); fail "o"))
local macro_rules | `(tactic| fail "J") => `(tactic| ((with_reducible refine iteNF ?_); fail "st"))
local macro_rules | `(tactic| fail "J") => `(tactic| ((with_reducible refine iteNT ?_); fail "st"))
local macro_rules | `(tactic| fail "J") => `(tactic| ((with_reducible refine iteFT ?_); fail "st"))
local macro_rules | `(tactic| fail "J") => `(tactic| ((with_reducible refine iteTT ?_); fail "st"))
local macro_rules | `(tactic| fail "su") => `(tactic| ((with_reducible refine hdL ?_); fail "L"))
local macro_rules | `(tactic| fail "su") => `(tactic| ((with_reducible refine hdS ?_); fail "S"))
local macro_rules | `(tactic| fail "p") => `(tactic| fail "O")
local macro_rules | `(tactic| fail "p") => `(tactic| ((with_reducible refine hdH ?_); fail "H"))
local macro_rules | `(tactic| fail "p") => `(tactic| ((with_reducible refine hdG ?_); fail "G"))
local macro_rules | `(tactic| fail "p") => `(tactic| ((with_reducible refine hdP ?_); fail "P"))
local macro_rules | `(tactic| fail "p") => `(tactic| ((with_reducible refine hdU ?_); fail "U"))
local macro_rules | `(tactic| fail "p") => `(tactic| ((with_reducible refine hdW ?_); fail "W"))
local macro_rules | `(tactic| fail "p") => `(tactic| ((with_reducible refine hdC ?_); fail "C"))
local macro_rules | `(tactic| fail "p") => `(tactic| ((with_reducible refine hdX ?_); fail "X"))
local macro_rules | `(tactic| fail "p") => `(tactic| ((with_reducible refine hdF ?_); fail "F"))
local macro_rules | `(tactic| fail "p") => `(tactic| ((with_reducible refine hdB ?_); fail "B"))
local macro_rules | `(tactic| fail "p") => `(tactic| ((with_reducible refine hdA ?_); fail "A"))
local macro_rules | `(tactic| fail "p") => `(tactic| ((with_reducible refine hdE ?_); fail "E"))
local macro_rules | `(tactic| fail "st") => `(tactic| ((with_reducible refine hdI ?_); fail "J"))
local macro_rules | `(tactic| fail "st") => `(tactic| ((fail_if_success (with_reducible refine hdI ?_)); fail "su"))
local macro_rules | `(tactic| fail "o") => `(tactic| ((with_reducible refine hdI ?_); fail "I"))
local macro_rules | `(tactic| fail "o") => `(tactic| ((fail_if_success (with_reducible refine hdI ?_)); fail "p"))
local macro_rules | `(tactic| walk_at "in") => `(tactic| (repeat (first | with_reducible exact In.z | with_reducible apply In.s)))
local macro_rules | `(tactic| walk_at "at") => `(tactic| (first | assumption | with_reducible exact at_last | with_reducible exact at_new rfl | with_reducible exact at_left (by assumption) | with_reducible exact List.getElem?_set_self (by assumption) | with_reducible exact at_left (at_left (by assumption))))
local macro_rules | `(tactic| walk_at "ixd") => `(tactic| (first | exact .inl rfl | exact .inr (.inl rfl) | exact .inr (.inr (.inl rfl)) | exact .inr (.inr (.inr ⟨_, rfl, by (first | assumption | with_reducible exact at_last | with_reducible exact at_new rfl | with_reducible exact at_left (by assumption) | with_reducible exact List.getElem?_set_self (by assumption) | with_reducible exact at_left (at_left (by assumption)))⟩))))
local macro_rules | `(tactic| walk_at "ints") => `(tactic| (repeat (first | exact Ints.nil | apply Ints.cons)))
local macro_rules | `(tactic| walk_at "num") => `(tactic| (first | with_reducible assumption | omega))
local macro_rules | `(tactic| walk_at "nm") => `(tactic| (first | exact Num.rt _ | exact Num.int _ | assumption))
local macro_rules | `(tactic| walk_at "fit") => `(tactic| (first | with_reducible assumption | exact Fit.mono (by (repeat' (first | with_reducible assumption | with_reducible exact fit_two | with_reducible apply fit_add | with_reducible apply fit_sub | with_reducible apply fit_mul | with_reducible apply fit_half | with_reducible apply fit_rabs | with_reducible apply fit_neg))) (by decide) | exact Fit.mono (n := 64) (fit_int (by omega) (by decide)) (by decide)))
local macro_rules | `(tactic| walk_at "ix") => `(tactic| (repeat (first | with_reducible exact Ix.z | with_reducible exact Ix.c | with_reducible apply Ix.s)))
local macro_rules | `(tactic| walk_at "il") => `(tactic| (repeat (first | with_reducible exact Il.z | with_reducible apply Il.s)))
local macro_rules | `(tactic| walk_at "one") => `(tactic| first | fail "o" | fail "st" | refine wSs_cons ?_)
local macro_rules | `(tactic| walk_at "wp") => `(tactic| repeat (first | fail "o" | fail "st" | refine wSs_cons ?_))
local macro_rules | `(tactic| walk_at "s1") => `(tactic| (refine wSs_cons ?_; repeat (first | fail "o" | fail "st")))
local macro_rules | `(tactic| walk_at "e") => `(tactic| repeat (fail "o"))
local macro_rules | `(tactic| walk_at "start") => `(tactic| (intro ρ hρ cdv A outer s H E g; simp only [startD, List.map_cons, List.map_nil, List.length_cons, List.length_nil, List.replicate_succ, List.replicate_zero, List.cons_append, List.nil_append, Nat.reduceAdd, Nat.reduceSub] at hρ; subst hρ; have gn := g.toNx'))
local macro_rules | `(tactic| walk_at "suite") => `(tactic| (intro a dd oe pn hz hv gn ρs hρ; simp only [List.set_cons_succ, List.set_cons_zero] at hρ; subst hρ))
local macro_rules | `(tactic| walk_at "after") => `(tactic| (intro ρs hρ; simp only [List.set_cons_succ, List.set_cons_zero] at hρ; subst hρ))
local macro_rules | `(tactic| walk_at "blk") => `(tactic| (intro s H C cl fp g; have gn := g.toNx'))
/-- a pool -/
def pl (CP C : Addr) (c v : Rat) : D := .obj CP ["center", "amount"] [rt C c, rt C v]
theorem fit_half {n : Nat} {q : Rat} (h : Fit n q) : Fit (n + 2) (q / ((2 : Int) : Rat)) := fit_div h fit_two (by decide)
section
variable {P : Program} {w : World} {K : PySem.W.Frag} {mg : Str → Option Value} {base : Heap} (T : Tx K mg)
abbrev Tx.pl (T : Tx K mg) (c v : Rat) : D := PM.pl T.C_Pool T.C_Ratio c v
theorem sp_as {μ : List M} {d : D} {q : Rat} {Q : KV} {Z : KX} (hd : Num T.C_Ratio d q) (h : Q (rt T.C_Ratio q) μ) : SpF P w K mg base T.f_as_ratio [d] μ Q Z := SpF.ofR (ok_as_ratio T) ⟨d, rfl, .inl ⟨q, hd, rfl⟩⟩ h
theorem sp_over {μ : List M} {d : D} {q r : Rat} {Q : KV} {Z : KX} (hd : Num T.C_Ratio d r) (hq : Fit 4000 q) (hr : Fit 4000 r) (h0 : r ≠ 0) (h : Q (rt T.C_Ratio (q / r)) μ) : SpF P w K mg base ⟨T.a_Ratio_over, T.fd_Ratio_over, ["self", "other"], 6⟩ [rt T.C_Ratio q, d] μ Q Z := SpF.ofR (f := ⟨T.a_Ratio_over, T.fd_Ratio_over, ["self", "other"], 6⟩) (ok_over T) ⟨q, d, r, rfl, hd, hq, hr, .inr ⟨h0, rfl⟩⟩ h
/-- Pool.__init__ -/
theorem sp_Pool_init {μ : List M} {dc dv : D} {c v : Rat} {Q : KV} {Z : KX} (hc : Num T.C_Ratio dc c) (hv : Num T.C_Ratio dv v) (fv : Fit 300 v) (h : (0 < v → Q (T.pl c v) μ)) (hx : v ≤ 0 → D.lo μ.length dv = true ∧ Z T.C_InvalidNumber ["value"] [dv] μ) :
    SpF P w K mg base T.f_Pool_init [.loc μ.length, dc, dv] (μ ++ [.ins T.C_Pool [] []]) (MadeOk μ T.C_Pool Q) (fun C' ns ds' μ' => MadeX μ Z C' ns ds' μ') := by
  refine spX_of T.F_Pool_init sc_Pool_init ck_Pool_init rfl ?_
  walk_at "start"
  rw [List.append_nil]
  refine wSs_cons (wS_fld ?_)
  refine xE_call T.f_as_ratio g (by walk_at "in") T.g_as_ratio T.F_as_ratio.kp T.b_as_ratio ?_
  walk_at "e"
  refine sp_as T hc ?_
  walk_at "e"
  refine ⟨_, _, _, _, rfl, at_last, ⟨T.own_Pool.cl, T.na_Pool_center, by decide⟩, ?_⟩
  rw [set_last]
  refine wSs_cons (wS_fld ?_)
  refine xE_call T.f_as_ratio g (by walk_at "in") T.g_as_ratio T.F_as_ratio.kp T.b_as_ratio ?_
  walk_at "e"
  refine sp_as T hv ?_
  walk_at "e"
  refine ⟨_, _, _, _, rfl, at_last, ⟨T.own_Pool.cl, T.na_Pool_amount, by decide⟩, ?_⟩
  rw [set_last]
  have em : M.ins T.C_Pool (putN "amount" (putN "center" [])) (putD "amount" (rt T.C_Ratio v) (putN "center" []) (putD "center" (rt T.C_Ratio c) [] [])) = .ins T.C_Pool ["center", "amount"] [rt T.C_Ratio c, rt T.C_Ratio v] := rfl
  rw [em]
  refine wSs_cons (wS_if (wC_cmp ?_))
  refine wE_fld ?_ T.own_Pool.cl T.na_Pool_amount
  walk_at "e"
  refine ⟨_, _, .inr ⟨_, rfl, at_last⟩, _, rfl, ?_⟩
  walk_at "e"
  refine br_dec (fun hl => ?_) (fun hl => ?_)
  · obtain ⟨lo, hz⟩ := hx hl
    refine wSs_cons (wS_raise g (by walk_at "in") (err_InvalidNumber T) T.g_InvalidNumber ?_)
    walk_at "e"
    exact ⟨rfl, .same (.mk (.refl _) (by simp [D.los, lo]) hz)⟩
  · walk_at "wp"
    exact .same (.obj (.refl _) rfl rfl (h (Rat.not_le.mp hl)))
end
section
variable {X : Cx} {W : WX} {k : Nat} {ρ : Env'} {μ : List M} {e ob : Expr} {pos : Pos} {d dc dv : D} {c v q r : Rat} {Q : KV} {Z : KX}
/-- Pool(c, v) -/
theorem wF_Pool (T : Tx X.K X.mg) (g : Gd X W k) (hc : Num T.C_Ratio dc c) (hv : Num T.C_Ratio dv v) (fv : Fit 300 v) (h0 : 0 < v) (h : Q (T.pl c v) μ) (hk : 41 ≤ k := by decide) : wF X W (fun us => call (.ref T.C_Pool) us) [dc, dv] μ Q Z :=
  wF_make (f := T.f_Pool_init) (dvs := []) (dds := []) T.mk_Pool T.b_Pool_init .nil (fun _ _ => Reps.nil) g hk (sp_Pool_init T hc hv fv (fun _ => h) fun z => absurd h0 (Rat.not_lt.mpr z))
theorem wE_cen (T : Tx X.K X.mg) (h : wE X W ρ μ ob (fun d μ1 => ∃ c v, d = T.pl c v ∧ Q (rt T.C_Ratio c) μ1) Z) (hb : attributeBase ob "center" X.env (eval ob X.env) = eval ob X.env := by rfl) : wE X W ρ μ (.Attribute ob "center" pos) Q Z :=
  wE_fld (h.imp fun d μ1 ⟨c, v, ed, hq⟩ => ⟨_, _, .inl ed, _, rfl, hq⟩) T.own_Pool.cl T.na_Pool_center hb
theorem wE_amt (T : Tx X.K X.mg) (h : wE X W ρ μ ob (fun d μ1 => ∃ c v, d = T.pl c v ∧ Q (rt T.C_Ratio v) μ1) Z) (hb : attributeBase ob "amount" X.env (eval ob X.env) = eval ob X.env := by rfl) : wE X W ρ μ (.Attribute ob "amount" pos) Q Z :=
  wE_fld (h.imp fun d μ1 ⟨c, v, ed, hq⟩ => ⟨_, _, .inl ed, _, rfl, hq⟩) T.own_Pool.cl T.na_Pool_amount hb
/-- q.over(d) -/
theorem wE_over {apos : Pos} {pl : Sem Bool} (T : Tx X.K X.mg) (g : Gd X W k) (h : wE X W ρ μ ob (fun d0 μ1 => ∃ q, d0 = rt T.C_Ratio q ∧ wE X W ρ μ1 e (fun d μ2 => ∃ r, Num T.C_Ratio d r ∧ (Fit 4000 q ∧ Fit 4000 r ∧ r ≠ 0) ∧ Q (rt T.C_Ratio (q / r)) μ2) Z) Z) (hk : 6 ≤ k := by decide)
    (hst : starEach [e] X.env = (false, eval e X.env) :: starEach [] X.env := by rfl)
    (ht : eval (.Call (.Attribute ob "over" apos) [e] [] pos) X.env = (do
      let ov ← eval ob X.env
      standAt apos.atName
      let (f, first) ← holding [ov] (getMethod ov "over" pl)
      callWith pos f first (backTo pos (starEach [e] X.env)) (backToKw pos (keywordEach [] X.env))) := by rfl) : wE X W ρ μ (.Call (.Attribute ob "over" apos) [e] [] pos) Q Z :=
  wE_meth (pl := pl) ⟨T.a_Ratio_over, T.fd_Ratio_over, ["self", "other"], 6⟩ g T.own_Ratio.cl T.m_Ratio_over T.b_Ratio_over (h.imp fun d0 μ1 ⟨q, ed, h1⟩ => ⟨by rw [ed]; exact .obj rfl, wA_cons (h1.imp fun d μ2 ⟨r, hn, ⟨f1, f2, r0⟩, hq⟩ => wA_nil (by
    rw [ed]
    exact sp_over T hn f1 f2 r0 hq)) hst⟩) hk hst rfl ht
end
end PM
set_option Elab.async false
set_option linter.all false
set_option maxRecDepth 100000
set_option maxHeartbeats 4000000
set_option exponentiation.threshold 20000
namespace PM
open PySem L2 PyProof.Rows
set_option hygiene false
local macro_rules | `(tactic| fail "E") => `(tactic| ((with_reducible refine hdm ?_); fail "m"))
local macro_rules | `(tactic| fail "E") => `(tactic| ((with_reducible refine hda ?_); fail "a"))
local macro_rules | `(tactic| fail "E") => `(tactic| ((with_reducible refine hdn ?_); fail "n"))
local macro_rules | `(tactic| fail "E") => `(tactic| ((with_reducible refine hdc ?_); fail "c"))
local macro_rules | `(tactic| fail "E") => `(tactic| refine wE_if ?_)
local macro_rules | `(tactic| fail "E") => `(tactic| refine wE_un ?_)
local macro_rules | `(tactic| fail "E") => `(tactic| refine wE_one ?_)
local macro_rules | `(tactic| fail "E") => `(tactic| refine wE_or ?_)
local macro_rules | `(tactic| fail "E") => `(tactic| refine wE_and ?_)
local macro_rules | `(tactic| fail "E") => `(tactic| refine wE_not ?_)
local macro_rules | `(tactic| fail "E") => `(tactic| refine wE_non ?_)
local macro_rules | `(tactic| fail "E") => `(tactic| refine wE_bl ?_)
local macro_rules | `(tactic| fail "E") => `(tactic| refine wE_str ?_)
local macro_rules | `(tactic| fail "E") => `(tactic| refine wE_lst ?_)
local macro_rules | `(tactic| fail "E") => `(tactic| refine wE_tup ?_)
local macro_rules | `(tactic| fail "E") => `(tactic| refine wE_cmp ?_)
local macro_rules | `(tactic| fail "E") => `(tactic| refine wE_sub ?_)
local macro_rules | `(tactic| fail "E") => `(tactic| refine wE_bin ?_)
local macro_rules | `(tactic| fail "E") => `(tactic| refine wE_int ?_)
local macro_rules | `(tactic| fail "E") => `(tactic| (refine wE_name gn ?_; (repeat (first | with_reducible refine wGt_z ?_ | with_reducible refine wGt_c ?_ | with_reducible refine wGt_s ?_ | with_reducible refine wGt_f ?_)); fail_if_success refine wGt_chk ?_))
local macro_rules | `(tactic| fail "B") => `(tactic| ((with_reducible refine chkCmL .LtE ?_); refine wE_leL T g.toGd ?_; refine Exists.intro _ (And.intro (by (first | exact Num.rt _ | exact Num.int _ | assumption)) (And.intro (And.intro (by (first | with_reducible assumption | exact Fit.mono (by (repeat' (first | with_reducible assumption | with_reducible exact fit_two | with_reducible apply fit_add | with_reducible apply fit_sub | with_reducible apply fit_mul | with_reducible apply fit_half | with_reducible apply fit_rabs | with_reducible apply fit_neg))) (by decide) | exact Fit.mono (n := 64) (fit_int (by omega) (by decide)) (by decide))) (by (first | with_reducible assumption | exact Fit.mono (by (repeat' (first | with_reducible assumption | with_reducible exact fit_two | with_reducible apply fit_add | with_reducible apply fit_sub | with_reducible apply fit_mul | with_reducible apply fit_half | with_reducible apply fit_rabs | with_reducible apply fit_neg))) (by decide) | exact Fit.mono (n := 64) (fit_int (by omega) (by decide)) (by decide)))) ?_))))
local macro_rules | `(tactic| fail "B") => `(tactic| ((with_reducible refine chkCm .GtE ?_); refine wE_geR T g.toGd ?_; refine Exists.intro _ (And.intro (by (first | exact Num.rt _ | exact Num.int _ | assumption)) (And.intro (And.intro (by (first | with_reducible assumption | exact Fit.mono (by (repeat' (first | with_reducible assumption | with_reducible exact fit_two | with_reducible apply fit_add | with_reducible apply fit_sub | with_reducible apply fit_mul | with_reducible apply fit_half | with_reducible apply fit_rabs | with_reducible apply fit_neg))) (by decide) | exact Fit.mono (n := 64) (fit_int (by omega) (by decide)) (by decide))) (by (first | with_reducible assumption | exact Fit.mono (by (repeat' (first | with_reducible assumption | with_reducible exact fit_two | with_reducible apply fit_add | with_reducible apply fit_sub | with_reducible apply fit_mul | with_reducible apply fit_half | with_reducible apply fit_rabs | with_reducible apply fit_neg))) (by decide) | exact Fit.mono (n := 64) (fit_int (by omega) (by decide)) (by decide)))) ?_))))
local macro_rules | `(tactic| fail "B") => `(tactic| ((with_reducible refine chkCm .LtE ?_); refine wE_leR T g.toGd ?_; refine Exists.intro _ (And.intro (by (first | exact Num.rt _ | exact Num.int _ | assumption)) (And.intro (And.intro (by (first | with_reducible assumption | exact Fit.mono (by (repeat' (first | with_reducible assumption | with_reducible exact fit_two | with_reducible apply fit_add | with_reducible apply fit_sub | with_reducible apply fit_mul | with_reducible apply fit_half | with_reducible apply fit_rabs | with_reducible apply fit_neg))) (by decide) | exact Fit.mono (n := 64) (fit_int (by omega) (by decide)) (by decide))) (by (first | with_reducible assumption | exact Fit.mono (by (repeat' (first | with_reducible assumption | with_reducible exact fit_two | with_reducible apply fit_add | with_reducible apply fit_sub | with_reducible apply fit_mul | with_reducible apply fit_half | with_reducible apply fit_rabs | with_reducible apply fit_neg))) (by decide) | exact Fit.mono (n := 64) (fit_int (by omega) (by decide)) (by decide)))) ?_))))
local macro_rules | `(tactic| fail "B") => `(tactic| ((with_reducible refine chkSub ?_); refine wE_subR T g.toGd ?_; refine Exists.intro _ (And.intro (by (first | exact Num.rt _ | exact Num.int _ | assumption)) (And.intro (And.intro (by (first | with_reducible assumption | exact Fit.mono (by (repeat' (first | with_reducible assumption | with_reducible exact fit_two | with_reducible apply fit_add | with_reducible apply fit_sub | with_reducible apply fit_mul | with_reducible apply fit_half | with_reducible apply fit_rabs | with_reducible apply fit_neg))) (by decide) | exact Fit.mono (n := 64) (fit_int (by omega) (by decide)) (by decide))) (by (first | with_reducible assumption | exact Fit.mono (by (repeat' (first | with_reducible assumption | with_reducible exact fit_two | with_reducible apply fit_add | with_reducible apply fit_sub | with_reducible apply fit_mul | with_reducible apply fit_half | with_reducible apply fit_rabs | with_reducible apply fit_neg))) (by decide) | exact Fit.mono (n := 64) (fit_int (by omega) (by decide)) (by decide)))) ?_))))
local macro_rules | `(tactic| fail "B") => `(tactic| ((with_reducible refine chkAdd ?_); refine wE_addR T g.toGd ?_; refine Exists.intro _ (And.intro (by (first | exact Num.rt _ | exact Num.int _ | assumption)) (And.intro (And.intro (by (first | with_reducible assumption | exact Fit.mono (by (repeat' (first | with_reducible assumption | with_reducible exact fit_two | with_reducible apply fit_add | with_reducible apply fit_sub | with_reducible apply fit_mul | with_reducible apply fit_half | with_reducible apply fit_rabs | with_reducible apply fit_neg))) (by decide) | exact Fit.mono (n := 64) (fit_int (by omega) (by decide)) (by decide))) (by (first | with_reducible assumption | exact Fit.mono (by (repeat' (first | with_reducible assumption | with_reducible exact fit_two | with_reducible apply fit_add | with_reducible apply fit_sub | with_reducible apply fit_mul | with_reducible apply fit_half | with_reducible apply fit_rabs | with_reducible apply fit_neg))) (by decide) | exact Fit.mono (n := 64) (fit_int (by omega) (by decide)) (by decide)))) ?_))))
local macro_rules | `(tactic| fail "B") => `(tactic| with_reducible refine wB_pow18 ?_)
local macro_rules | `(tactic| fail "B") => `(tactic| with_reducible refine wB_pow9 ?_)
local macro_rules | `(tactic| fail "B") => `(tactic| with_reducible refine wB_pow8 ?_)
local macro_rules | `(tactic| fail "B") => `(tactic| with_reducible refine wB_pow7 ?_)
local macro_rules | `(tactic| fail "B") => `(tactic| with_reducible refine wB_pow6 ?_)
local macro_rules | `(tactic| fail "B") => `(tactic| with_reducible refine wB_pow5 ?_)
local macro_rules | `(tactic| fail "B") => `(tactic| with_reducible refine wB_isNot ?_)
local macro_rules | `(tactic| fail "B") => `(tactic| with_reducible refine wB_is ?_)
local macro_rules | `(tactic| fail "B") => `(tactic| with_reducible refine wB_neB ?_)
local macro_rules | `(tactic| fail "B") => `(tactic| with_reducible refine wB_eqB ?_)
local macro_rules | `(tactic| fail "B") => `(tactic| with_reducible refine wB_neT ?_)
local macro_rules | `(tactic| fail "B") => `(tactic| with_reducible refine wB_eqT ?_)
local macro_rules | `(tactic| fail "B") => `(tactic| with_reducible refine wB_ne ?_)
local macro_rules | `(tactic| fail "B") => `(tactic| with_reducible refine wB_eq ?_)
local macro_rules | `(tactic| fail "B") => `(tactic| with_reducible refine wB_ge ?_)
local macro_rules | `(tactic| fail "B") => `(tactic| with_reducible refine wB_gt ?_)
local macro_rules | `(tactic| fail "B") => `(tactic| with_reducible refine wB_le ?_)
local macro_rules | `(tactic| fail "B") => `(tactic| with_reducible refine wB_lt ?_)
local macro_rules | `(tactic| fail "B") => `(tactic| ((with_reducible refine wB_fdivS ?qc ?_); (case qc => exact ⟨by (first | with_reducible assumption | omega), by (first | with_reducible assumption | omega)⟩)))
local macro_rules | `(tactic| fail "B") => `(tactic| ((with_reducible refine wB_mod ?qc ?_); (case qc => (first | with_reducible assumption | omega))))
local macro_rules | `(tactic| fail "B") => `(tactic| ((with_reducible refine wB_mulL ?qc ?_); (case qc => exact ⟨by (first | with_reducible assumption | omega), by (first | with_reducible assumption | omega)⟩)))
local macro_rules | `(tactic| fail "B") => `(tactic| ((with_reducible refine wB_mulR ?qc ?_); (case qc => exact ⟨by (first | with_reducible assumption | omega), by (first | with_reducible assumption | omega)⟩)))
local macro_rules | `(tactic| fail "B") => `(tactic| with_reducible refine wB_sub ?_)
local macro_rules | `(tactic| fail "B") => `(tactic| with_reducible refine wB_add ?_)
local macro_rules | `(tactic| fail "F") => `(tactic| with_reducible refine wF_R1 T g.toGd ?_)
local macro_rules | `(tactic| fail "F") => `(tactic| ((with_reducible refine wF_R2 T g.toGd ?qc1 ?qc2 ?_); (case qc1 => (first | with_reducible assumption | omega)); (case qc2 => exact lt_pow_mono (n := 64) (by (first | with_reducible assumption | omega)) (by decide))))
local macro_rules | `(tactic| fail "F") => `(tactic| with_reducible refine wF_isBB ?_)
local macro_rules | `(tactic| fail "F") => `(tactic| with_reducible refine wF_isIB ?_)
local macro_rules | `(tactic| fail "F") => `(tactic| with_reducible refine wF_isII ?_)
local macro_rules | `(tactic| fail "F") => `(tactic| ((with_reducible refine wF_isRt ?qc ?_); (case qc => exact T.own_Ratio)))
local macro_rules | `(tactic| fail "F") => `(tactic| with_reducible refine wF_min g.toGd ?_)
local macro_rules | `(tactic| fail "F") => `(tactic| with_reducible refine wF_max g.toGd ?_)
local macro_rules | `(tactic| fail "F") => `(tactic| with_reducible refine wF_abs ?_)
local macro_rules | `(tactic| fail "F") => `(tactic| with_reducible refine wF_boolB ?_)
local macro_rules | `(tactic| fail "F") => `(tactic| with_reducible refine wF_intB ?_)
local macro_rules | `(tactic| fail "F") => `(tactic| ((with_reducible refine chkB "len" ?_); refine wF_len (by (first | exact .inl rfl | exact .inr (.inl rfl) | exact .inr (.inr (.inl rfl)) | exact .inr (.inr (.inr ⟨_, rfl, by (first | assumption | with_reducible exact at_last | with_reducible exact at_new rfl | with_reducible exact at_left (by assumption) | with_reducible exact List.getElem?_set_self (by assumption) | with_reducible exact at_left (at_left (by assumption)))⟩)))) ?_))
local macro_rules | `(tactic| fail "X") => `(tactic| (refine wX_ints (by (first | exact .inl rfl | exact .inr (.inl rfl) | exact .inr (.inr (.inl rfl)) | exact .inr (.inr (.inr ⟨_, rfl, by (first | assumption | with_reducible exact at_last | with_reducible exact at_new rfl | with_reducible exact at_left (by assumption) | with_reducible exact List.getElem?_set_self (by assumption) | with_reducible exact at_left (at_left (by assumption)))⟩)))) (by (repeat (first | exact Ints.nil | apply Ints.cons))) (by (first | with_reducible assumption | omega)) (by (simp only [List.length_cons, List.length_nil]; omega)) ?_; intro v hv; simp only [List.mem_cons, List.not_mem_nil, or_false] at hv))
local macro_rules | `(tactic| fail "X") => `(tactic| refine wX_at (by (first | exact .inl rfl | exact .inr (.inl rfl) | exact .inr (.inr (.inl rfl)) | exact .inr (.inr (.inr ⟨_, rfl, by (first | assumption | with_reducible exact at_last | with_reducible exact at_new rfl | with_reducible exact at_left (by assumption) | with_reducible exact List.getElem?_set_self (by assumption) | with_reducible exact at_left (at_left (by assumption)))⟩)))) rfl ?_)
local macro_rules | `(tactic| fail "X") => `(tactic| refine wX_if2 (by (first | exact .inl rfl | exact .inr (.inl rfl) | exact .inr (.inr (.inl rfl)) | exact .inr (.inr (.inr ⟨_, rfl, by (first | assumption | with_reducible exact at_last | with_reducible exact at_new rfl | with_reducible exact at_left (by assumption) | with_reducible exact List.getElem?_set_self (by assumption) | with_reducible exact at_left (at_left (by assumption)))⟩)))) ?_)
local macro_rules | `(tactic| fail "X") => `(tactic| refine wX_if2I (by (first | exact .inl rfl | exact .inr (.inl rfl) | exact .inr (.inr (.inl rfl)) | exact .inr (.inr (.inr ⟨_, rfl, by (first | assumption | with_reducible exact at_last | with_reducible exact at_new rfl | with_reducible exact at_left (by assumption) | with_reducible exact List.getElem?_set_self (by assumption) | with_reducible exact at_left (at_left (by assumption)))⟩)))) ?_)
local macro_rules | `(tactic| fail "A") => `(tactic| refine wA_nil ?_)
local macro_rules | `(tactic| fail "A") => `(tactic| refine wA_cons ?_)
local macro_rules | `(tactic| fail "C") => `(tactic| refine wC_val ?_)
local macro_rules | `(tactic| fail "C") => `(tactic| refine wC_bool ?_)
local macro_rules | `(tactic| fail "C") => `(tactic| refine wC_not ?_)
local macro_rules | `(tactic| fail "C") => `(tactic| refine wC_cmp ?_)
local macro_rules | `(tactic| fail "W") => `(tactic| refine wCw_or1 ?_)
local macro_rules | `(tactic| fail "W") => `(tactic| refine wCw_and1 ?_)
local macro_rules | `(tactic| fail "W") => `(tactic| refine wCw_or ?_)
local macro_rules | `(tactic| fail "W") => `(tactic| refine wCw_and ?_)
local macro_rules | `(tactic| fail "U") => `(tactic| ((with_reducible refine chkNg ?_); refine wU_negR T g.toGd ?qf ?_; (case qf => (first | with_reducible assumption | exact Fit.mono (by (repeat' (first | with_reducible assumption | with_reducible exact fit_two | with_reducible apply fit_add | with_reducible apply fit_sub | with_reducible apply fit_mul | with_reducible apply fit_half | with_reducible apply fit_rabs | with_reducible apply fit_neg))) (by decide) | exact Fit.mono (n := 64) (fit_int (by omega) (by decide)) (by decide)))))
local macro_rules | `(tactic| fail "U") => `(tactic| with_reducible refine wU_neg ?_)
local macro_rules | `(tactic| fail "P") => `(tactic| with_reducible refine wPt_s ?_)
local macro_rules | `(tactic| fail "P") => `(tactic| with_reducible refine wPt_c ?_)
local macro_rules | `(tactic| fail "P") => `(tactic| with_reducible refine wPt_z ?_)
local macro_rules | `(tactic| fail "G") => `(tactic| refine wG_name gn ?_)
local macro_rules | `(tactic| fail "G") => `(tactic| refine wG_tup g.calm ?_)
local macro_rules | `(tactic| fail "H") => `(tactic| refine wGs_nil ?_)
local macro_rules | `(tactic| fail "H") => `(tactic| refine wGs_cons ?_)
local macro_rules | `(tactic| fail "S") => `(tactic| refine wS_pass ?_)
local macro_rules | `(tactic| fail "S") => `(tactic| refine wS_asg ?_)
local macro_rules | `(tactic| fail "S") => `(tactic| refine wS_ix ?_)
local macro_rules | `(tactic| fail "S") => `(tactic| refine wS_expr ?_)
local macro_rules | `(tactic| fail "S") => `(tactic| refine wS_if ?_)
local macro_rules | `(tactic| fail "S") => `(tactic| refine wS_ret ?_)
local macro_rules | `(tactic| fail "S") => `(tactic| (refine wS_par3 g ?qa ?_; (case qa => exact ⟨_, _, _, by (repeat (first | with_reducible exact Il.z | with_reducible apply Il.s)), by (repeat (first | with_reducible exact Il.z | with_reducible apply Il.s)), by (repeat (first | with_reducible exact Il.z | with_reducible apply Il.s)), by decide, by decide, by decide⟩)))
local macro_rules | `(tactic| fail "S") => `(tactic| (refine wS_par g ?qa ?_; (case qa => exact ⟨_, _, by (repeat (first | with_reducible exact Il.z | with_reducible apply Il.s)), by (repeat (first | with_reducible exact Il.z | with_reducible apply Il.s)), by decide⟩)))
local macro_rules | `(tactic| fail "S") => `(tactic| (refine wS_set gn ?qa ?_; (case qa => exact ⟨_, by (repeat (first | with_reducible exact Ix.z | with_reducible exact Ix.c | with_reducible apply Ix.s))⟩)))
local macro_rules | `(tactic| fail "L") => `(tactic| refine wSs_nil ?_)
local macro_rules | `(tactic| fail "c") => `(tactic| ((with_reducible refine chkC "Water" ?_); refine xE_make gn ?qa T.g_Water T.mk_Water.kp ?_; (case qa => (repeat (first | with_reducible exact In.z | with_reducible apply In.s)))))
local macro_rules | `(tactic| fail "c") => `(tactic| ((with_reducible refine chkC "Pool" ?_); refine xE_make gn ?qa T.g_Pool T.mk_Pool.kp ?_; (case qa => (repeat (first | with_reducible exact In.z | with_reducible apply In.s)))))
local macro_rules | `(tactic| fail "c") => `(tactic| ((with_reducible refine chkC "Ratio" ?_); refine xE_make gn ?qa T.g_Ratio T.mk_Ratio.kp ?_; (case qa => (repeat (first | with_reducible exact In.z | with_reducible apply In.s)))))
local macro_rules | `(tactic| fail "c") => `(tactic| ((with_reducible refine chkC "sum" ?_); refine xE_blt gn ?qa T.n_sum boot_sum ?_; (case qa => (repeat (first | with_reducible exact In.z | with_reducible apply In.s)))))
local macro_rules | `(tactic| fail "c") => `(tactic| ((with_reducible refine chkC "any" ?_); refine xE_blt gn ?qa T.n_any boot_any ?_; (case qa => (repeat (first | with_reducible exact In.z | with_reducible apply In.s)))))
local macro_rules | `(tactic| fail "c") => `(tactic| ((with_reducible refine chkC "all" ?_); refine xE_blt gn ?qa T.n_all boot_all ?_; (case qa => (repeat (first | with_reducible exact In.z | with_reducible apply In.s)))))
local macro_rules | `(tactic| fail "c") => `(tactic| ((with_reducible refine chkC "bool" ?_); refine xE_bcl gn ?qa T.n_bool boot_bool ?_; (case qa => (repeat (first | with_reducible exact In.z | with_reducible apply In.s)))))
local macro_rules | `(tactic| fail "c") => `(tactic| ((with_reducible refine chkC "list" ?_); refine xE_bcl gn ?qa T.n_list boot_list ?_; (case qa => (repeat (first | with_reducible exact In.z | with_reducible apply In.s)))))
local macro_rules | `(tactic| fail "c") => `(tactic| ((with_reducible refine chkC "tuple" ?_); refine xE_bcl gn ?qa T.n_tuple boot_tuple ?_; (case qa => (repeat (first | with_reducible exact In.z | with_reducible apply In.s)))))
local macro_rules | `(tactic| fail "c") => `(tactic| ((with_reducible refine chkC "isinstance" ?_); refine xE_blt gn ?qa T.n_isinstance boot_isinstance ?_; (case qa => (repeat (first | with_reducible exact In.z | with_reducible apply In.s)))))
local macro_rules | `(tactic| fail "c") => `(tactic| ((with_reducible refine chkC "repr" ?_); refine xE_blt gn ?qa T.n_repr boot_repr ?_; (case qa => (repeat (first | with_reducible exact In.z | with_reducible apply In.s)))))
local macro_rules | `(tactic| fail "c") => `(tactic| ((with_reducible refine chkC "str" ?_); refine xE_bcl gn ?qa T.n_str boot_str ?_; (case qa => (repeat (first | with_reducible exact In.z | with_reducible apply In.s)))))
local macro_rules | `(tactic| fail "c") => `(tactic| ((with_reducible refine chkC "min" ?_); refine xE_blt gn ?qa T.n_min boot_min ?_; (case qa => (repeat (first | with_reducible exact In.z | with_reducible apply In.s)))))
local macro_rules | `(tactic| fail "c") => `(tactic| ((with_reducible refine chkC "max" ?_); refine xE_blt gn ?qa T.n_max boot_max ?_; (case qa => (repeat (first | with_reducible exact In.z | with_reducible apply In.s)))))
local macro_rules | `(tactic| fail "c") => `(tactic| ((with_reducible refine chkC "abs" ?_); refine xE_blt gn ?qa T.n_abs boot_abs ?_; (case qa => (repeat (first | with_reducible exact In.z | with_reducible apply In.s)))))
local macro_rules | `(tactic| fail "c") => `(tactic| ((with_reducible refine chkC "int" ?_); refine xE_bcl gn ?qa T.n_int boot_int ?_; (case qa => (repeat (first | with_reducible exact In.z | with_reducible apply In.s)))))
local macro_rules | `(tactic| fail "c") => `(tactic| ((with_reducible refine chkC "len" ?_); refine xE_blt gn ?qa T.n_len boot_len ?_; (case qa => (repeat (first | with_reducible exact In.z | with_reducible apply In.s)))))
local macro_rules | `(tactic| fail "n") => `(tactic| ((with_reducible refine chkN "Water" ?_); refine xE_cls gn ?qa T.g_Water ?_; (case qa => (repeat (first | with_reducible exact In.z | with_reducible apply In.s)))))
local macro_rules | `(tactic| fail "n") => `(tactic| ((with_reducible refine chkN "Pool" ?_); refine xE_cls gn ?qa T.g_Pool ?_; (case qa => (repeat (first | with_reducible exact In.z | with_reducible apply In.s)))))
local macro_rules | `(tactic| fail "n") => `(tactic| ((with_reducible refine chkN "Ratio" ?_); refine xE_cls gn ?qa T.g_Ratio ?_; (case qa => (repeat (first | with_reducible exact In.z | with_reducible apply In.s)))))
local macro_rules | `(tactic| fail "n") => `(tactic| ((with_reducible refine chkN "UnknownIndex" ?_); refine xE_cls gn ?qa T.g_UnknownIndex ?_; (case qa => (repeat (first | with_reducible exact In.z | with_reducible apply In.s)))))
local macro_rules | `(tactic| fail "n") => `(tactic| ((with_reducible refine chkN "Touching" ?_); refine xE_cls gn ?qa T.g_Touching ?_; (case qa => (repeat (first | with_reducible exact In.z | with_reducible apply In.s)))))
local macro_rules | `(tactic| fail "n") => `(tactic| ((with_reducible refine chkN "Full" ?_); refine xE_cls gn ?qa T.g_Full ?_; (case qa => (repeat (first | with_reducible exact In.z | with_reducible apply In.s)))))
local macro_rules | `(tactic| fail "n") => `(tactic| ((with_reducible refine chkN "InvalidDrop" ?_); refine xE_cls gn ?qa T.g_InvalidDrop ?_; (case qa => (repeat (first | with_reducible exact In.z | with_reducible apply In.s)))))
local macro_rules | `(tactic| fail "n") => `(tactic| ((with_reducible refine chkN "InvalidNumber" ?_); refine xE_cls gn ?qa T.g_InvalidNumber ?_; (case qa => (repeat (first | with_reducible exact In.z | with_reducible apply In.s)))))
local macro_rules | `(tactic| fail "n") => `(tactic| ((with_reducible refine chkN "PoolError" ?_); refine xE_cls gn ?qa T.g_PoolError ?_; (case qa => (repeat (first | with_reducible exact In.z | with_reducible apply In.s)))))
local macro_rules | `(tactic| fail "n") => `(tactic| ((with_reducible refine chkN "list" ?_); refine xE_bty gn ?qa T.n_list boot_list ?_; (case qa => (repeat (first | with_reducible exact In.z | with_reducible apply In.s)))))
local macro_rules | `(tactic| fail "n") => `(tactic| ((with_reducible refine chkN "tuple" ?_); refine xE_bty gn ?qa T.n_tuple boot_tuple ?_; (case qa => (repeat (first | with_reducible exact In.z | with_reducible apply In.s)))))
local macro_rules | `(tactic| fail "n") => `(tactic| ((with_reducible refine chkN "str" ?_); refine xE_bty gn ?qa T.n_str boot_str ?_; (case qa => (repeat (first | with_reducible exact In.z | with_reducible apply In.s)))))
local macro_rules | `(tactic| fail "n") => `(tactic| ((with_reducible refine chkN "bool" ?_); refine xE_bty gn ?qa T.n_bool boot_bool ?_; (case qa => (repeat (first | with_reducible exact In.z | with_reducible apply In.s)))))
local macro_rules | `(tactic| fail "n") => `(tactic| ((with_reducible refine chkN "int" ?_); refine xE_bty gn ?qa T.n_int boot_int ?_; (case qa => (repeat (first | with_reducible exact In.z | with_reducible apply In.s)))))
local macro_rules | `(tactic| fail "a") => `(tactic| ((with_reducible refine chkA "amount" ?_); refine wE_amt T ?_))
local macro_rules | `(tactic| fail "a") => `(tactic| ((with_reducible refine chkA "center" ?_); refine wE_cen T ?_))
local macro_rules | `(tactic| fail "a") => `(tactic| ((with_reducible refine chkA "bottom" ?_); refine wE_bot T ?_))
local macro_rules | `(tactic| fail "a") => `(tactic| ((with_reducible refine chkA "top" ?_); refine wE_top T ?_))
local macro_rules | `(tactic| fail "m") => `(tactic| ((with_reducible refine chkM "over" ?_); refine wE_over T g.toGd ?_))
local macro_rules | `(tactic| fail "O") => `(tactic| refine Exists.intro _ (And.intro (by (first | exact Num.rt _ | exact Num.int _ | assumption)) (And.intro (And.intro (by (first | with_reducible assumption | exact Fit.mono (by (repeat' (first | with_reducible assumption | with_reducible exact fit_two | with_reducible apply fit_add | with_reducible apply fit_sub | with_reducible apply fit_mul | with_reducible apply fit_half | with_reducible apply fit_rabs | with_reducible apply fit_neg))) (by decide) | exact Fit.mono (n := 64) (fit_int (by omega) (by decide)) (by decide))) (And.intro (by (first | with_reducible assumption | exact Fit.mono (by (repeat' (first | with_reducible assumption | with_reducible exact fit_two | with_reducible apply fit_add | with_reducible apply fit_sub | with_reducible apply fit_mul | with_reducible apply fit_half | with_reducible apply fit_rabs | with_reducible apply fit_neg))) (by decide) | exact Fit.mono (n := 64) (fit_int (by omega) (by decide)) (by decide))) (by decide))) ?_)))
local macro_rules | `(tactic| fail "O") => `(tactic| refine Exists.intro _ (Exists.intro _ (Exists.intro _ (Exists.intro _ (And.intro rfl (And.intro rfl (And.intro (by (first | assumption | with_reducible exact at_last | with_reducible exact at_new rfl | with_reducible exact at_left (by assumption) | with_reducible exact List.getElem?_set_self (by assumption) | with_reducible exact at_left (at_left (by assumption)))) (And.intro rfl ?_))))))))
local macro_rules | `(tactic| fail "O") => `(tactic| refine Exists.intro _ (Exists.intro _ (Exists.intro _ (And.intro rfl ?_))))
local macro_rules | `(tactic| fail "O") => `(tactic| refine Exists.intro _ (Exists.intro _ (And.intro rfl ?_)))
local macro_rules | `(tactic| fail "O") => `(tactic| refine And.intro (by (simp only [List.length_cons, List.length_nil]; decide)) ?_)
local macro_rules | `(tactic| fail "O") => `(tactic| refine Exists.intro _ (And.intro rfl ?_))
local macro_rules | `(tactic| fail "I") => `(tactic| ((with_reducible refine iteNF ?_); fail "o"))
local macro_rules | `(tactic| fail "I") => `(tactic| ((with_reducible refine iteNT ?_); fail "o"))
local macro_rules | `(tactic| fail "I") => `(tactic| ((with_reducible refine iteFT ?_); fail "o"))
local macro_rules | `(tactic| fail "I") => `(tactic| ((with_reducible refine iteTT ?_); fail "o"))
local macro_rules | `(tactic| fail "J") => `(tactic| ((with_reducible refine iteNF ?_); fail "st"))
local macro_rules | `(tactic| fail "J") => `(tactic| ((with_reducible refine iteNT ?_); fail "st"))
local macro_rules | `(tactic| fail "J") => `(tactic| ((with_reducible refine iteFT ?_); fail "st"))
local macro_rules | `(tactic| fail "J") => `(tactic| ((with_reducible refine iteTT ?_); fail "st"))
local macro_rules | `(tactic| fail "su") => `(tactic| ((with_reducible refine hdL ?_); fail "L"))
local macro_rules | `(tactic| fail "su") => `(tactic| ((with_reducible refine hdS ?_); fail "S"))
local macro_rules | `(tactic| fail "p") => `(tactic| fail "O")
local macro_rules | `(tactic| fail "p") => `(tactic| ((with_reducible refine hdH ?_); fail "H"))
local macro_rules | `(tactic| fail "p") => `(tactic| ((with_reducible refine hdG ?_); fail "G"))
local macro_rules | `(tactic| fail "p") => `(tactic| ((with_reducible refine hdP ?_); fail "P"))
local macro_rules | `(tactic| fail "p") => `(tactic| ((with_reducible refine hdU ?_); fail "U"))
local macro_rules | `(tactic| fail "p") => `(tactic| ((with_reducible refine hdW ?_); fail "W"))
local macro_rules | `(tactic| fail "p") => `(tactic| ((with_reducible refine hdC ?_); fail "C"))
local macro_rules | `(tactic| fail "p") => `(tactic| ((with_reducible refine hdX ?_); fail "X"))
local macro_rules | `(tactic| fail "p") => `(tactic| ((with_reducible refine hdF ?_); fail "F"))
local macro_rules | `(tactic| fail "p") => `(tactic| ((with_reducible refine hdB ?_); fail "B"))
local macro_rules | `(tactic| fail "p") => `(tactic| ((with_reducible refine hdA ?_); fail "A"))
local macro_rules | `(tactic| fail "p") => `(tactic| ((with_reducible refine hdE ?_); fail "E"))
local macro_rules | `(tactic| fail "st") => `(tactic| ((with_reducible refine hdI ?_); fail "J"))
local macro_rules | `(tactic| fail "st") => `(tactic| ((fail_if_success (with_reducible refine hdI ?_)); fail "su"))
local macro_rules | `(tactic| fail "o") => `(tactic| ((with_reducible refine hdI ?_); fail "I"))
local macro_rules | `(tactic| fail "o") => `(tactic| ((fail_if_success (with_reducible refine hdI ?_)); fail "p"))
local macro_rules | `(tactic| walk_at "in") => `(tactic| (repeat (first | with_reducible exact In.z | with_reducible apply In.s)))
local macro_rules | `(tactic| walk_at "at") => `(tactic| (first | assumption | with_reducible exact at_last | with_reducible exact at_new rfl | with_reducible exact at_left (by assumption) | with_reducible exact List.getElem?_set_self (by assumption) | with_reducible exact at_left (at_left (by assumption))))
local macro_rules | `(tactic| walk_at "ixd") => `(tactic| (first | exact .inl rfl | exact .inr (.inl rfl) | exact .inr (.inr (.inl rfl)) | exact .inr (.inr (.inr ⟨_, rfl, by (first | assumption | with_reducible exact at_last | with_reducible exact at_new rfl | with_reducible exact at_left (by assumption) | with_reducible exact List.getElem?_set_self (by assumption) | with_reducible exact at_left (at_left (by assumption)))⟩))))
local macro_rules | `(tactic| walk_at "ints") => `(tactic| (repeat (first | exact Ints.nil | apply Ints.cons)))
local macro_rules | `(tactic| walk_at "num") => `(tactic| (first | with_reducible assumption | omega))
local macro_rules | `(tactic| walk_at "nm") => `(tactic| (first | exact Num.rt _ | exact Num.int _ | assumption))
local macro_rules | `(tactic| walk_at "fit") => `(tactic| (first | with_reducible assumption | exact Fit.mono (by (repeat' (first | with_reducible assumption | with_reducible exact fit_two | with_reducible apply fit_add | with_reducible apply fit_sub | with_reducible apply fit_mul | with_reducible apply fit_half | with_reducible apply fit_rabs | with_reducible apply fit_neg))) (by decide) | exact Fit.mono (n := 64) (fit_int (by omega) (by decide)) (by decide)))
local macro_rules | `(tactic| walk_at "ix") => `(tactic| (repeat (first | with_reducible exact Ix.z | with_reducible exact Ix.c | with_reducible apply Ix.s)))
local macro_rules | `(tactic| walk_at "il") => `(tactic| (repeat (first | with_reducible exact Il.z | with_reducible apply Il.s)))
local macro_rules | `(tactic| walk_at "one") => `(tactic| first | fail "o" | fail "st" | refine wSs_cons ?_)
local macro_rules | `(tactic| walk_at "wp") => `(tactic| repeat (first | fail "o" | fail "st" | refine wSs_cons ?_))
local macro_rules | `(tactic| walk_at "s1") => `(tactic| (refine wSs_cons ?_; repeat (first | fail "o" | fail "st")))
local macro_rules | `(tactic| walk_at "e") => `(tactic| repeat (fail "o"))
local macro_rules | `(tactic| walk_at "start") => `(tactic| (intro ρ hρ cdv A outer s H E g; simp only [startD, List.map_cons, List.map_nil, List.length_cons, List.length_nil, List.replicate_succ, List.replicate_zero, List.cons_append, List.nil_append, Nat.reduceAdd, Nat.reduceSub] at hρ; subst hρ; have gn := g.toNx'))
local macro_rules | `(tactic| walk_at "suite") => `(tactic| (intro a dd oe pn hz hv gn ρs hρ; simp only [List.set_cons_succ, List.set_cons_zero] at hρ; subst hρ))
local macro_rules | `(tactic| walk_at "after") => `(tactic| (intro ρs hρ; simp only [List.set_cons_succ, List.set_cons_zero] at hρ; subst hρ))
local macro_rules | `(tactic| walk_at "blk") => `(tactic| (intro s H C cl fp g; have gn := g.toNx'))
abbrev r2 : Rat := ((2 : Int) : Rat)
def gapV (c v c' v' : Rat) : Rat := rabs (c - c') - (v + v') / r2
section
variable {X : Cx} {W : WX} {μ : List M} {c v : Rat} {Q : KV} {Z : KX}
end
section
variable {P : Program} {w : World} {K : PySem.W.Frag} {mg : Str → Option Value} {base : Heap} (T : Tx K mg) {μ : List M} {c v c' v' : Rat} {Q : KV} {Z : KX}
theorem sp_middle (h : Q (rt T.C_Ratio c) μ) : SpF P w K mg base T.f_Pool_middle [T.pl c v] μ Q Z := by
  refine spX_of T.F_Pool_middle sc_Pool_middle ck_Pool_middle rfl ?_
  walk_at "start"
  walk_at "wp"
  rw [List.append_nil]
  exact .same h
theorem sp_volume (h : Q (rt T.C_Ratio v) μ) : SpF P w K mg base T.f_Pool_volume [T.pl c v] μ Q Z := by
  refine spX_of T.F_Pool_volume sc_Pool_volume ck_Pool_volume rfl ?_
  walk_at "start"
  walk_at "wp"
  rw [List.append_nil]
  exact .same h
theorem sp_left (fc : Fit 300 c) (fv : Fit 300 v) (h : Q (rt T.C_Ratio (c - v / r2)) μ) : SpF P w K mg base T.f_Pool_left [T.pl c v] μ Q Z := by
  refine spX_of T.F_Pool_left sc_Pool_left ck_Pool_left rfl ?_
  walk_at "start"
  walk_at "wp"
  rw [List.append_nil]
  exact .same h
theorem sp_right (fc : Fit 300 c) (fv : Fit 300 v) (h : Q (rt T.C_Ratio (c + v / r2)) μ) : SpF P w K mg base T.f_Pool_right [T.pl c v] μ Q Z := by
  refine spX_of T.F_Pool_right sc_Pool_right ck_Pool_right rfl ?_
  walk_at "start"
  walk_at "wp"
  rw [List.append_nil]
  exact .same h
end
section
variable {X : Cx} {W : WX} {k : Nat} {ρ : Env'} {μ : List M} {ob : Expr} {pos : Pos} {Q : KV} {Z : KX}
/-! properties of pools, read -/
theorem wE_mid (T : Tx X.K X.mg) (g : Gd X W k) (h : wE X W ρ μ ob (fun d μ1 => ∃ c v, d = T.pl c v ∧ Q (rt T.C_Ratio c) μ1) Z) (hk : 41 ≤ k := by decide) (hb : attributeBase ob "middle" X.env (eval ob X.env) = eval ob X.env := by rfl) : wE X W ρ μ (.Attribute ob "middle" pos) Q Z :=
  wE_prop T.f_Pool_middle g T.own_Pool.cl T.P_Pool_middle T.b_Pool_middle (h.imp fun d μ1 ⟨c, v, ed, hq⟩ => ⟨by rw [ed]; exact .obj rfl, by rw [ed]; exact sp_middle T hq⟩) hk hb
theorem wE_vol (T : Tx X.K X.mg) (g : Gd X W k) (h : wE X W ρ μ ob (fun d μ1 => ∃ c v, d = T.pl c v ∧ Q (rt T.C_Ratio v) μ1) Z) (hk : 41 ≤ k := by decide) (hb : attributeBase ob "volume" X.env (eval ob X.env) = eval ob X.env := by rfl) : wE X W ρ μ (.Attribute ob "volume" pos) Q Z :=
  wE_prop T.f_Pool_volume g T.own_Pool.cl T.P_Pool_volume T.b_Pool_volume (h.imp fun d μ1 ⟨c, v, ed, hq⟩ => ⟨by rw [ed]; exact .obj rfl, by rw [ed]; exact sp_volume T hq⟩) hk hb
theorem wE_left (T : Tx X.K X.mg) (g : Gd X W k) (h : wE X W ρ μ ob (fun d μ1 => ∃ c v, d = T.pl c v ∧ (Fit 300 c ∧ Fit 300 v) ∧ Q (rt T.C_Ratio (c - v / r2)) μ1) Z) (hk : 41 ≤ k := by decide) (hb : attributeBase ob "left" X.env (eval ob X.env) = eval ob X.env := by rfl) : wE X W ρ μ (.Attribute ob "left" pos) Q Z :=
  wE_prop T.f_Pool_left g T.own_Pool.cl T.P_Pool_left T.b_Pool_left (h.imp fun d μ1 ⟨c, v, ed, ⟨f1, f2⟩, hq⟩ => ⟨by rw [ed]; exact .obj rfl, by rw [ed]; exact sp_left T f1 f2 hq⟩) hk hb
theorem wE_right (T : Tx X.K X.mg) (g : Gd X W k) (h : wE X W ρ μ ob (fun d μ1 => ∃ c v, d = T.pl c v ∧ (Fit 300 c ∧ Fit 300 v) ∧ Q (rt T.C_Ratio (c + v / r2)) μ1) Z) (hk : 41 ≤ k := by decide) (hb : attributeBase ob "right" X.env (eval ob X.env) = eval ob X.env := by rfl) : wE X W ρ μ (.Attribute ob "right" pos) Q Z :=
  wE_prop T.f_Pool_right g T.own_Pool.cl T.P_Pool_right T.b_Pool_right (h.imp fun d μ1 ⟨c, v, ed, ⟨f1, f2⟩, hq⟩ => ⟨by rw [ed]; exact .obj rfl, by rw [ed]; exact sp_right T f1 f2 hq⟩) hk hb
end
section
variable {P : Program} {w : World} {K : PySem.W.Frag} {mg : Str → Option Value} {base : Heap} (T : Tx K mg) {μ : List M} {c v c' v' : Rat} {Q : KV} {Z : KX}
end
end PM
set_option Elab.async false
set_option linter.all false
set_option maxRecDepth 100000
set_option maxHeartbeats 4000000
set_option exponentiation.threshold 20000
namespace PM
open PySem L2 PyProof.Rows
set_option hygiene false
local macro_rules | `(tactic| fail "E") => `(tactic| ((with_reducible refine hdm ?_); fail "m"))
local macro_rules | `(tactic| fail "E") => `(tactic| ((with_reducible refine hda ?_); fail "a"))
local macro_rules | `(tactic| fail "E") => `(tactic| ((with_reducible refine hdn ?_); fail "n"))
local macro_rules | `(tactic| fail "E") => `(tactic| ((with_reducible refine hdc ?_); fail "c"))
local macro_rules | `(tactic| fail "E") => `(tactic| refine wE_if ?_)
local macro_rules | `(tactic| fail "E") => `(tactic| refine wE_un ?_)
local macro_rules | `(tactic| fail "E") => `(tactic| refine wE_one ?_)
local macro_rules | `(tactic| fail "E") => `(tactic| refine wE_or ?_)
local macro_rules | `(tactic| fail "E") => `(tactic| refine wE_and ?_)
local macro_rules | `(tactic| fail "E") => `(tactic| refine wE_not ?_)
local macro_rules | `(tactic| fail "E") => `(tactic| refine wE_non ?_)
local macro_rules | `(tactic| fail "E") => `(tactic| refine wE_bl ?_)
local macro_rules | `(tactic| fail "E") => `(tactic| refine wE_str ?_)
local macro_rules | `(tactic| fail "E") => `(tactic| refine wE_lst ?_)
local macro_rules | `(tactic| fail "E") => `(tactic| refine wE_tup ?_)
local macro_rules | `(tactic| fail "E") => `(tactic| refine wE_cmp ?_)
local macro_rules | `(tactic| fail "E") => `(tactic| refine wE_sub ?_)
local macro_rules | `(tactic| fail "E") => `(tactic| refine wE_bin ?_)
local macro_rules | `(tactic| fail "E") => `(tactic| refine wE_int ?_)
local macro_rules | `(tactic| fail "E") => `(tactic| (refine wE_name gn ?_; (repeat (first | with_reducible refine wGt_z ?_ | with_reducible refine wGt_c ?_ | with_reducible refine wGt_s ?_ | with_reducible refine wGt_f ?_)); fail_if_success refine wGt_chk ?_))
local macro_rules | `(tactic| fail "B") => `(tactic| ((with_reducible refine chkCmL .LtE ?_); refine wE_leL T g.toGd ?_; refine Exists.intro _ (And.intro (by (first | exact Num.rt _ | exact Num.int _ | assumption)) (And.intro (And.intro (by (first | with_reducible assumption | exact Fit.mono (by (repeat' (first | with_reducible assumption | with_reducible exact fit_two | with_reducible apply fit_add | with_reducible apply fit_sub | with_reducible apply fit_mul | with_reducible apply fit_half | with_reducible apply fit_rabs | with_reducible apply fit_neg))) (by decide) | exact Fit.mono (n := 64) (fit_int (by omega) (by decide)) (by decide))) (by (first | with_reducible assumption | exact Fit.mono (by (repeat' (first | with_reducible assumption | with_reducible exact fit_two | with_reducible apply fit_add | with_reducible apply fit_sub | with_reducible apply fit_mul | with_reducible apply fit_half | with_reducible apply fit_rabs | with_reducible apply fit_neg))) (by decide) | exact Fit.mono (n := 64) (fit_int (by omega) (by decide)) (by decide)))) ?_))))
local macro_rules | `(tactic| fail "B") => `(tactic| ((with_reducible refine chkCm .GtE ?_); refine wE_geR T g.toGd ?_; refine Exists.intro _ (And.intro (by (first | exact Num.rt _ | exact Num.int _ | assumption)) (And.intro (And.intro (by (first | with_reducible assumption | exact Fit.mono (by (repeat' (first | with_reducible assumption | with_reducible exact fit_two | with_reducible apply fit_add | with_reducible apply fit_sub | with_reducible apply fit_mul | with_reducible apply fit_half | with_reducible apply fit_rabs | with_reducible apply fit_neg))) (by decide) | exact Fit.mono (n := 64) (fit_int (by omega) (by decide)) (by decide))) (by (first | with_reducible assumption | exact Fit.mono (by (repeat' (first | with_reducible assumption | with_reducible exact fit_two | with_reducible apply fit_add | with_reducible apply fit_sub | with_reducible apply fit_mul | with_reducible apply fit_half | with_reducible apply fit_rabs | with_reducible apply fit_neg))) (by decide) | exact Fit.mono (n := 64) (fit_int (by omega) (by decide)) (by decide)))) ?_))))
local macro_rules | `(tactic| fail "B") => `(tactic| ((with_reducible refine chkCm .LtE ?_); refine wE_leR T g.toGd ?_; refine Exists.intro _ (And.intro (by (first | exact Num.rt _ | exact Num.int _ | assumption)) (And.intro (And.intro (by (first | with_reducible assumption | exact Fit.mono (by (repeat' (first | with_reducible assumption | with_reducible exact fit_two | with_reducible apply fit_add | with_reducible apply fit_sub | with_reducible apply fit_mul | with_reducible apply fit_half | with_reducible apply fit_rabs | with_reducible apply fit_neg))) (by decide) | exact Fit.mono (n := 64) (fit_int (by omega) (by decide)) (by decide))) (by (first | with_reducible assumption | exact Fit.mono (by (repeat' (first | with_reducible assumption | with_reducible exact fit_two | with_reducible apply fit_add | with_reducible apply fit_sub | with_reducible apply fit_mul | with_reducible apply fit_half | with_reducible apply fit_rabs | with_reducible apply fit_neg))) (by decide) | exact Fit.mono (n := 64) (fit_int (by omega) (by decide)) (by decide)))) ?_))))
local macro_rules | `(tactic| fail "B") => `(tactic| ((with_reducible refine chkSub ?_); refine wE_subR T g.toGd ?_; refine Exists.intro _ (And.intro (by (first | exact Num.rt _ | exact Num.int _ | assumption)) (And.intro (And.intro (by (first | with_reducible assumption | exact Fit.mono (by (repeat' (first | with_reducible assumption | with_reducible exact fit_two | with_reducible apply fit_add | with_reducible apply fit_sub | with_reducible apply fit_mul | with_reducible apply fit_half | with_reducible apply fit_rabs | with_reducible apply fit_neg))) (by decide) | exact Fit.mono (n := 64) (fit_int (by omega) (by decide)) (by decide))) (by (first | with_reducible assumption | exact Fit.mono (by (repeat' (first | with_reducible assumption | with_reducible exact fit_two | with_reducible apply fit_add | with_reducible apply fit_sub | with_reducible apply fit_mul | with_reducible apply fit_half | with_reducible apply fit_rabs | with_reducible apply fit_neg))) (by decide) | exact Fit.mono (n := 64) (fit_int (by omega) (by decide)) (by decide)))) ?_))))
local macro_rules | `(tactic| fail "B") => `(tactic| ((with_reducible refine chkAdd ?_); refine wE_addR T g.toGd ?_; refine Exists.intro _ (And.intro (by (first | exact Num.rt _ | exact Num.int _ | assumption)) (And.intro (And.intro (by (first | with_reducible assumption | exact Fit.mono (by (repeat' (first | with_reducible assumption | with_reducible exact fit_two | with_reducible apply fit_add | with_reducible apply fit_sub | with_reducible apply fit_mul | with_reducible apply fit_half | with_reducible apply fit_rabs | with_reducible apply fit_neg))) (by decide) | exact Fit.mono (n := 64) (fit_int (by omega) (by decide)) (by decide))) (by (first | with_reducible assumption | exact Fit.mono (by (repeat' (first | with_reducible assumption | with_reducible exact fit_two | with_reducible apply fit_add | with_reducible apply fit_sub | with_reducible apply fit_mul | with_reducible apply fit_half | with_reducible apply fit_rabs | with_reducible apply fit_neg))) (by decide) | exact Fit.mono (n := 64) (fit_int (by omega) (by decide)) (by decide)))) ?_))))
local macro_rules | `(tactic| fail "B") => `(tactic| with_reducible refine wB_pow18 ?_)
local macro_rules | `(tactic| fail "B") => `(tactic| with_reducible refine wB_pow9 ?_)
local macro_rules | `(tactic| fail "B") => `(tactic| with_reducible refine wB_pow8 ?_)
local macro_rules | `(tactic| fail "B") => `(tactic| with_reducible refine wB_pow7 ?_)
local macro_rules | `(tactic| fail "B") => `(tactic| with_reducible refine wB_pow6 ?_)
local macro_rules | `(tactic| fail "B") => `(tactic| with_reducible refine wB_pow5 ?_)
local macro_rules | `(tactic| fail "B") => `(tactic| with_reducible refine wB_isNot ?_)
local macro_rules | `(tactic| fail "B") => `(tactic| with_reducible refine wB_is ?_)
local macro_rules | `(tactic| fail "B") => `(tactic| with_reducible refine wB_neB ?_)
local macro_rules | `(tactic| fail "B") => `(tactic| with_reducible refine wB_eqB ?_)
local macro_rules | `(tactic| fail "B") => `(tactic| with_reducible refine wB_neT ?_)
local macro_rules | `(tactic| fail "B") => `(tactic| with_reducible refine wB_eqT ?_)
local macro_rules | `(tactic| fail "B") => `(tactic| with_reducible refine wB_ne ?_)
local macro_rules | `(tactic| fail "B") => `(tactic| with_reducible refine wB_eq ?_)
local macro_rules | `(tactic| fail "B") => `(tactic| with_reducible refine wB_ge ?_)
local macro_rules | `(tactic| fail "B") => `(tactic| with_reducible refine wB_gt ?_)
local macro_rules | `(tactic| fail "B") => `(tactic| with_reducible refine wB_le ?_)
local macro_rules | `(tactic| fail "B") => `(tactic| with_reducible refine wB_lt ?_)
local macro_rules | `(tactic| fail "B") => `(tactic| ((with_reducible refine wB_fdivS ?qc ?_); (case qc => exact ⟨by (first | with_reducible assumption | omega), by (first | with_reducible assumption | omega)⟩)))
local macro_rules | `(tactic| fail "B") => `(tactic| ((with_reducible refine wB_mod ?qc ?_); (case qc => (first | with_reducible assumption | omega))))
local macro_rules | `(tactic| fail "B") => `(tactic| ((with_reducible refine wB_mulL ?qc ?_); (case qc => exact ⟨by (first | with_reducible assumption | omega), by (first | with_reducible assumption | omega)⟩)))
local macro_rules | `(tactic| fail "B") => `(tactic| ((with_reducible refine wB_mulR ?qc ?_); (case qc => exact ⟨by (first | with_reducible assumption | omega), by (first | with_reducible assumption | omega)⟩)))
local macro_rules | `(tactic| fail "B") => `(tactic| with_reducible refine wB_sub ?_)
local macro_rules | `(tactic| fail "B") => `(tactic| with_reducible refine wB_add ?_)
local macro_rules | `(tactic| fail "F") => `(tactic| with_reducible refine wF_R1 T g.toGd ?_)
local macro_rules | `(tactic| fail "F") => `(tactic| ((with_reducible refine wF_R2 T g.toGd ?qc1 ?qc2 ?_); (case qc1 => (first | with_reducible assumption | omega)); (case qc2 => exact lt_pow_mono (n := 64) (by (first | with_reducible assumption | omega)) (by decide))))
local macro_rules | `(tactic| fail "F") => `(tactic| with_reducible refine wF_isBB ?_)
local macro_rules | `(tactic| fail "F") => `(tactic| with_reducible refine wF_isIB ?_)
local macro_rules | `(tactic| fail "F") => `(tactic| with_reducible refine wF_isII ?_)
local macro_rules | `(tactic| fail "F") => `(tactic| ((with_reducible refine wF_isRt ?qc ?_); (case qc => exact T.own_Ratio)))
local macro_rules | `(tactic| fail "F") => `(tactic| with_reducible refine wF_min g.toGd ?_)
local macro_rules | `(tactic| fail "F") => `(tactic| with_reducible refine wF_max g.toGd ?_)
local macro_rules | `(tactic| fail "F") => `(tactic| with_reducible refine wF_abs ?_)
local macro_rules | `(tactic| fail "F") => `(tactic| with_reducible refine wF_boolB ?_)
local macro_rules | `(tactic| fail "F") => `(tactic| with_reducible refine wF_intB ?_)
local macro_rules | `(tactic| fail "F") => `(tactic| ((with_reducible refine chkB "len" ?_); refine wF_len (by (first | exact .inl rfl | exact .inr (.inl rfl) | exact .inr (.inr (.inl rfl)) | exact .inr (.inr (.inr ⟨_, rfl, by (first | assumption | with_reducible exact at_last | with_reducible exact at_new rfl | with_reducible exact at_left (by assumption) | with_reducible exact List.getElem?_set_self (by assumption) | with_reducible exact at_left (at_left (by assumption)))⟩)))) ?_))
local macro_rules | `(tactic| fail "X") => `(tactic| (refine wX_ints (by (first | exact .inl rfl | exact .inr (.inl rfl) | exact .inr (.inr (.inl rfl)) | exact .inr (.inr (.inr ⟨_, rfl, by (first | assumption | with_reducible exact at_last | with_reducible exact at_new rfl | with_reducible exact at_left (by assumption) | with_reducible exact List.getElem?_set_self (by assumption) | with_reducible exact at_left (at_left (by assumption)))⟩)))) (by (repeat (first | exact Ints.nil | apply Ints.cons))) (by (first | with_reducible assumption | omega)) (by (simp only [List.length_cons, List.length_nil]; omega)) ?_; intro v hv; simp only [List.mem_cons, List.not_mem_nil, or_false] at hv))
local macro_rules | `(tactic| fail "X") => `(tactic| refine wX_at (by (first | exact .inl rfl | exact .inr (.inl rfl) | exact .inr (.inr (.inl rfl)) | exact .inr (.inr (.inr ⟨_, rfl, by (first | assumption | with_reducible exact at_last | with_reducible exact at_new rfl | with_reducible exact at_left (by assumption) | with_reducible exact List.getElem?_set_self (by assumption) | with_reducible exact at_left (at_left (by assumption)))⟩)))) rfl ?_)
local macro_rules | `(tactic| fail "X") => `(tactic| refine wX_if2 (by (first | exact .inl rfl | exact .inr (.inl rfl) | exact .inr (.inr (.inl rfl)) | exact .inr (.inr (.inr ⟨_, rfl, by (first | assumption | with_reducible exact at_last | with_reducible exact at_new rfl | with_reducible exact at_left (by assumption) | with_reducible exact List.getElem?_set_self (by assumption) | with_reducible exact at_left (at_left (by assumption)))⟩)))) ?_)
local macro_rules | `(tactic| fail "X") => `(tactic| refine wX_if2I (by (first | exact .inl rfl | exact .inr (.inl rfl) | exact .inr (.inr (.inl rfl)) | exact .inr (.inr (.inr ⟨_, rfl, by (first | assumption | with_reducible exact at_last | with_reducible exact at_new rfl | with_reducible exact at_left (by assumption) | with_reducible exact List.getElem?_set_self (by assumption) | with_reducible exact at_left (at_left (by assumption)))⟩)))) ?_)
local macro_rules | `(tactic| fail "A") => `(tactic| refine wA_nil ?_)
local macro_rules | `(tactic| fail "A") => `(tactic| refine wA_cons ?_)
local macro_rules | `(tactic| fail "C") => `(tactic| refine wC_val ?_)
local macro_rules | `(tactic| fail "C") => `(tactic| refine wC_bool ?_)
local macro_rules | `(tactic| fail "C") => `(tactic| refine wC_not ?_)
local macro_rules | `(tactic| fail "C") => `(tactic| refine wC_cmp ?_)
local macro_rules | `(tactic| fail "W") => `(tactic| refine wCw_or1 ?_)
local macro_rules | `(tactic| fail "W") => `(tactic| refine wCw_and1 ?_)
local macro_rules | `(tactic| fail "W") => `(tactic| refine wCw_or ?_)
local macro_rules | `(tactic| fail "W") => `(tactic| refine wCw_and ?_)
local macro_rules | `(tactic| fail "U") => `(tactic| ((with_reducible refine chkNg ?_); refine wU_negR T g.toGd ?qf ?_; (case qf => (first | with_reducible assumption | exact Fit.mono (by (repeat' (first | with_reducible assumption | with_reducible exact fit_two | with_reducible apply fit_add | with_reducible apply fit_sub | with_reducible apply fit_mul | with_reducible apply fit_half | with_reducible apply fit_rabs | with_reducible apply fit_neg))) (by decide) | exact Fit.mono (n := 64) (fit_int (by omega) (by decide)) (by decide)))))
local macro_rules | `(tactic| fail "U") => `(tactic| with_reducible refine wU_neg ?_)
local macro_rules | `(tactic| fail "P") => `(tactic| with_reducible refine wPt_s ?_)
local macro_rules | `(tactic| fail "P") => `(tactic| with_reducible refine wPt_c ?_)
local macro_rules | `(tactic| fail "P") => `(tactic| with_reducible refine wPt_z ?_)
local macro_rules | `(tactic| fail "G") => `(tactic| refine wG_name gn ?_)
local macro_rules | `(tactic| fail "G") => `(tactic| refine wG_tup g.calm ?_)
local macro_rules | `(tactic| fail "H") => `(tactic| refine wGs_nil ?_)
local macro_rules | `(tactic| fail "H") => `(tactic| refine wGs_cons ?_)
local macro_rules | `(tactic| fail "S") => `(tactic| refine wS_pass ?_)
local macro_rules | `(tactic| fail "S") => `(tactic| refine wS_asg ?_)
local macro_rules | `(tactic| fail "S") => `(tactic| refine wS_ix ?_)
local macro_rules | `(tactic| fail "S") => `(tactic| refine wS_expr ?_)
local macro_rules | `(tactic| fail "S") => `(tactic| refine wS_if ?_)
local macro_rules | `(tactic| fail "S") => `(tactic| refine wS_ret ?_)
local macro_rules | `(tactic| fail "S") => `(tactic| (refine wS_par3 g ?qa ?_; (case qa => exact ⟨_, _, _, by (repeat (first | with_reducible exact Il.z | with_reducible apply Il.s)), by (repeat (first | with_reducible exact Il.z | with_reducible apply Il.s)), by (repeat (first | with_reducible exact Il.z | with_reducible apply Il.s)), by decide, by decide, by decide⟩)))
local macro_rules | `(tactic| fail "S") => `(tactic| (refine wS_par g ?qa ?_; (case qa => exact ⟨_, _, by (repeat (first | with_reducible exact Il.z | with_reducible apply Il.s)), by (repeat (first | with_reducible exact Il.z | with_reducible apply Il.s)), by decide⟩)))
local macro_rules | `(tactic| fail "S") => `(tactic| (refine wS_set gn ?qa ?_; (case qa => exact ⟨_, by (repeat (first | with_reducible exact Ix.z | with_reducible exact Ix.c | with_reducible apply Ix.s))⟩)))
local macro_rules | `(tactic| fail "L") => `(tactic| refine wSs_nil ?_)
local macro_rules | `(tactic| fail "c") => `(tactic| ((with_reducible refine chkC "Water" ?_); refine xE_make gn ?qa T.g_Water T.mk_Water.kp ?_; (case qa => (repeat (first | with_reducible exact In.z | with_reducible apply In.s)))))
local macro_rules | `(tactic| fail "c") => `(tactic| ((with_reducible refine chkC "Pool" ?_); refine xE_make gn ?qa T.g_Pool T.mk_Pool.kp ?_; (case qa => (repeat (first | with_reducible exact In.z | with_reducible apply In.s)))))
local macro_rules | `(tactic| fail "c") => `(tactic| ((with_reducible refine chkC "Ratio" ?_); refine xE_make gn ?qa T.g_Ratio T.mk_Ratio.kp ?_; (case qa => (repeat (first | with_reducible exact In.z | with_reducible apply In.s)))))
local macro_rules | `(tactic| fail "c") => `(tactic| ((with_reducible refine chkC "as_ratio" ?_); refine xE_call T.f_as_ratio g ?qa T.g_as_ratio T.F_as_ratio.kp T.b_as_ratio ?_; (case qa => (repeat (first | with_reducible exact In.z | with_reducible apply In.s)))))
local macro_rules | `(tactic| fail "c") => `(tactic| ((with_reducible refine chkC "sum" ?_); refine xE_blt gn ?qa T.n_sum boot_sum ?_; (case qa => (repeat (first | with_reducible exact In.z | with_reducible apply In.s)))))
local macro_rules | `(tactic| fail "c") => `(tactic| ((with_reducible refine chkC "any" ?_); refine xE_blt gn ?qa T.n_any boot_any ?_; (case qa => (repeat (first | with_reducible exact In.z | with_reducible apply In.s)))))
local macro_rules | `(tactic| fail "c") => `(tactic| ((with_reducible refine chkC "all" ?_); refine xE_blt gn ?qa T.n_all boot_all ?_; (case qa => (repeat (first | with_reducible exact In.z | with_reducible apply In.s)))))
local macro_rules | `(tactic| fail "c") => `(tactic| ((with_reducible refine chkC "bool" ?_); refine xE_bcl gn ?qa T.n_bool boot_bool ?_; (case qa => (repeat (first | with_reducible exact In.z | with_reducible apply In.s)))))
local macro_rules | `(tactic| fail "c") => `(tactic| ((with_reducible refine chkC "list" ?_); refine xE_bcl gn ?qa T.n_list boot_list ?_; (case qa => (repeat (first | with_reducible exact In.z | with_reducible apply In.s)))))
local macro_rules | `(tactic| fail "c") => `(tactic| ((with_reducible refine chkC "tuple" ?_); refine xE_bcl gn ?qa T.n_tuple boot_tuple ?_; (case qa => (repeat (first | with_reducible exact In.z | with_reducible apply In.s)))))
local macro_rules | `(tactic| fail "c") => `(tactic| ((with_reducible refine chkC "isinstance" ?_); refine xE_blt gn ?qa T.n_isinstance boot_isinstance ?_; (case qa => (repeat (first | with_reducible exact In.z | with_reducible apply In.s)))))
local macro_rules | `(tactic| fail "c") => `(tactic| ((with_reducible refine chkC "repr" ?_); refine xE_blt gn ?qa T.n_repr boot_repr ?_; (case qa => (repeat (first | with_reducible exact In.z | with_reducible apply In.s)))))
local macro_rules | `(tactic| fail "c") => `(tactic| ((with_reducible refine chkC "str" ?_); refine xE_bcl gn ?qa T.n_str boot_str ?_; (case qa => (repeat (first | with_reducible exact In.z | with_reducible apply In.s)))))
local macro_rules | `(tactic| fail "c") => `(tactic| ((with_reducible refine chkC "min" ?_); refine xE_blt gn ?qa T.n_min boot_min ?_; (case qa => (repeat (first | with_reducible exact In.z | with_reducible apply In.s)))))
local macro_rules | `(tactic| fail "c") => `(tactic| ((with_reducible refine chkC "max" ?_); refine xE_blt gn ?qa T.n_max boot_max ?_; (case qa => (repeat (first | with_reducible exact In.z | with_reducible apply In.s)))))
local macro_rules | `(tactic| fail "c") => `(tactic| ((with_reducible refine chkC "abs" ?_); refine xE_blt gn ?qa T.n_abs boot_abs ?_; (case qa => (repeat (first | with_reducible exact In.z | with_reducible apply In.s)))))
local macro_rules | `(tactic| fail "c") => `(tactic| ((with_reducible refine chkC "int" ?_); refine xE_bcl gn ?qa T.n_int boot_int ?_; (case qa => (repeat (first | with_reducible exact In.z | with_reducible apply In.s)))))
local macro_rules | `(tactic| fail "c") => `(tactic| ((with_reducible refine chkC "len" ?_); refine xE_blt gn ?qa T.n_len boot_len ?_; (case qa => (repeat (first | with_reducible exact In.z | with_reducible apply In.s)))))
local macro_rules | `(tactic| fail "n") => `(tactic| ((with_reducible refine chkN "Water" ?_); refine xE_cls gn ?qa T.g_Water ?_; (case qa => (repeat (first | with_reducible exact In.z | with_reducible apply In.s)))))
local macro_rules | `(tactic| fail "n") => `(tactic| ((with_reducible refine chkN "Pool" ?_); refine xE_cls gn ?qa T.g_Pool ?_; (case qa => (repeat (first | with_reducible exact In.z | with_reducible apply In.s)))))
local macro_rules | `(tactic| fail "n") => `(tactic| ((with_reducible refine chkN "Ratio" ?_); refine xE_cls gn ?qa T.g_Ratio ?_; (case qa => (repeat (first | with_reducible exact In.z | with_reducible apply In.s)))))
local macro_rules | `(tactic| fail "n") => `(tactic| ((with_reducible refine chkN "UnknownIndex" ?_); refine xE_cls gn ?qa T.g_UnknownIndex ?_; (case qa => (repeat (first | with_reducible exact In.z | with_reducible apply In.s)))))
local macro_rules | `(tactic| fail "n") => `(tactic| ((with_reducible refine chkN "Touching" ?_); refine xE_cls gn ?qa T.g_Touching ?_; (case qa => (repeat (first | with_reducible exact In.z | with_reducible apply In.s)))))
local macro_rules | `(tactic| fail "n") => `(tactic| ((with_reducible refine chkN "Full" ?_); refine xE_cls gn ?qa T.g_Full ?_; (case qa => (repeat (first | with_reducible exact In.z | with_reducible apply In.s)))))
local macro_rules | `(tactic| fail "n") => `(tactic| ((with_reducible refine chkN "InvalidDrop" ?_); refine xE_cls gn ?qa T.g_InvalidDrop ?_; (case qa => (repeat (first | with_reducible exact In.z | with_reducible apply In.s)))))
local macro_rules | `(tactic| fail "n") => `(tactic| ((with_reducible refine chkN "InvalidNumber" ?_); refine xE_cls gn ?qa T.g_InvalidNumber ?_; (case qa => (repeat (first | with_reducible exact In.z | with_reducible apply In.s)))))
local macro_rules | `(tactic| fail "n") => `(tactic| ((with_reducible refine chkN "PoolError" ?_); refine xE_cls gn ?qa T.g_PoolError ?_; (case qa => (repeat (first | with_reducible exact In.z | with_reducible apply In.s)))))
local macro_rules | `(tactic| fail "n") => `(tactic| ((with_reducible refine chkN "list" ?_); refine xE_bty gn ?qa T.n_list boot_list ?_; (case qa => (repeat (first | with_reducible exact In.z | with_reducible apply In.s)))))
local macro_rules | `(tactic| fail "n") => `(tactic| ((with_reducible refine chkN "tuple" ?_); refine xE_bty gn ?qa T.n_tuple boot_tuple ?_; (case qa => (repeat (first | with_reducible exact In.z | with_reducible apply In.s)))))
local macro_rules | `(tactic| fail "n") => `(tactic| ((with_reducible refine chkN "str" ?_); refine xE_bty gn ?qa T.n_str boot_str ?_; (case qa => (repeat (first | with_reducible exact In.z | with_reducible apply In.s)))))
local macro_rules | `(tactic| fail "n") => `(tactic| ((with_reducible refine chkN "bool" ?_); refine xE_bty gn ?qa T.n_bool boot_bool ?_; (case qa => (repeat (first | with_reducible exact In.z | with_reducible apply In.s)))))
local macro_rules | `(tactic| fail "n") => `(tactic| ((with_reducible refine chkN "int" ?_); refine xE_bty gn ?qa T.n_int boot_int ?_; (case qa => (repeat (first | with_reducible exact In.z | with_reducible apply In.s)))))
local macro_rules | `(tactic| fail "a") => `(tactic| ((with_reducible refine chkA "amount" ?_); refine wE_amt T ?_))
local macro_rules | `(tactic| fail "a") => `(tactic| ((with_reducible refine chkA "center" ?_); refine wE_cen T ?_))
local macro_rules | `(tactic| fail "a") => `(tactic| ((with_reducible refine chkA "bottom" ?_); refine wE_bot T ?_))
local macro_rules | `(tactic| fail "a") => `(tactic| ((with_reducible refine chkA "top" ?_); refine wE_top T ?_))
local macro_rules | `(tactic| fail "m") => `(tactic| ((with_reducible refine chkM "over" ?_); refine wE_over T g.toGd ?_))
local macro_rules | `(tactic| fail "O") => `(tactic| refine Exists.intro _ (And.intro (by (first | exact Num.rt _ | exact Num.int _ | assumption)) (And.intro (And.intro (by (first | with_reducible assumption | exact Fit.mono (by (repeat' (first | with_reducible assumption | with_reducible exact fit_two | with_reducible apply fit_add | with_reducible apply fit_sub | with_reducible apply fit_mul | with_reducible apply fit_half | with_reducible apply fit_rabs | with_reducible apply fit_neg))) (by decide) | exact Fit.mono (n := 64) (fit_int (by omega) (by decide)) (by decide))) (And.intro (by (first | with_reducible assumption | exact Fit.mono (by (repeat' (first | with_reducible assumption | with_reducible exact fit_two | with_reducible apply fit_add | with_reducible apply fit_sub | with_reducible apply fit_mul | with_reducible apply fit_half | with_reducible apply fit_rabs | with_reducible apply fit_neg))) (by decide) | exact Fit.mono (n := 64) (fit_int (by omega) (by decide)) (by decide))) (by decide))) ?_)))
local macro_rules | `(tactic| fail "O") => `(tactic| refine Exists.intro _ (Exists.intro _ (Exists.intro _ (Exists.intro _ (And.intro rfl (And.intro rfl (And.intro (by (first | assumption | with_reducible exact at_last | with_reducible exact at_new rfl | with_reducible exact at_left (by assumption) | with_reducible exact List.getElem?_set_self (by assumption) | with_reducible exact at_left (at_left (by assumption)))) (And.intro rfl ?_))))))))
local macro_rules | `(tactic| fail "O") => `(tactic| refine Exists.intro _ (Exists.intro _ (Exists.intro _ (And.intro rfl ?_))))
local macro_rules | `(tactic| fail "O") => `(tactic| refine Exists.intro _ (Exists.intro _ (And.intro rfl ?_)))
local macro_rules | `(tactic| fail "O") => `(tactic| refine And.intro (by (simp only [List.length_cons, List.length_nil]; decide)) ?_)
local macro_rules | `(tactic| fail "O") => `(tactic| refine Exists.intro _ (And.intro rfl ?_))
local macro_rules | `(tactic| fail "I") => `(tactic| ((with_reducible refine iteNF ?_); fail "o"))
local macro_rules | `(tactic| fail "I") => `(tactic| ((with_reducible refine iteNT ?_); fail "o"))
local macro_rules | `(tactic| fail "I") => `(tactic| ((with_reducible refine iteFT ?_); fail "o"))
local macro_rules | `(tactic| fail "I") => `(tactic| ((with_reducible refine iteTT ?_); fail "o"))
local macro_rules | `(tactic| fail "J") => `(tactic| ((with_reducible refine iteNF ?_); fail "st"))
local macro_rules | `(tactic| fail "J") => `(tactic| ((with_reducible refine iteNT ?_); fail "st"))
local macro_rules | `(tactic| fail "J") => `(tactic| ((with_reducible refine iteFT ?_); fail "st"))
local macro_rules | `(tactic| fail "J") => `(tactic| ((with_reducible refine iteTT ?_); fail "st"))
local macro_rules | `(tactic| fail "su") => `(tactic| ((with_reducible refine hdL ?_); fail "L"))
local macro_rules | `(tactic| fail "su") => `(tactic| ((with_reducible refine hdS ?_); fail "S"))
local macro_rules | `(tactic| fail "p") => `(tactic| fail "O")
local macro_rules | `(tactic| fail "p") => `(tactic| ((with_reducible refine hdH ?_); fail "H"))
local macro_rules | `(tactic| fail "p") => `(tactic| ((with_reducible refine hdG ?_); fail "G"))
local macro_rules | `(tactic| fail "p") => `(tactic| ((with_reducible refine hdP ?_); fail "P"))
local macro_rules | `(tactic| fail "p") => `(tactic| ((with_reducible refine hdU ?_); fail "U"))
local macro_rules | `(tactic| fail "p") => `(tactic| ((with_reducible refine hdW ?_); fail "W"))
local macro_rules | `(tactic| fail "p") => `(tactic| ((with_reducible refine hdC ?_); fail "C"))
local macro_rules | `(tactic| fail "p") => `(tactic| ((with_reducible refine hdX ?_); fail "X"))
local macro_rules | `(tactic| fail "p") => `(tactic| ((with_reducible refine hdF ?_); fail "F"))
local macro_rules | `(tactic| fail "p") => `(tactic| ((with_reducible refine hdB ?_); fail "B"))
local macro_rules | `(tactic| fail "p") => `(tactic| ((with_reducible refine hdA ?_); fail "A"))
local macro_rules | `(tactic| fail "p") => `(tactic| ((with_reducible refine hdE ?_); fail "E"))
local macro_rules | `(tactic| fail "st") => `(tactic| ((with_reducible refine hdI ?_); fail "J"))
local macro_rules | `(tactic| fail "st") => `(tactic| ((fail_if_success (with_reducible refine hdI ?_)); fail "su"))
local macro_rules | `(tactic| fail "o") => `(tactic| ((with_reducible refine hdI ?_); fail "I"))
local macro_rules | `(tactic| fail "o") => `(tactic| ((fail_if_success (with_reducible refine hdI ?_)); fail "p"))
local macro_rules | `(tactic| walk_at "in") => `(tactic| (repeat (first | with_reducible exact In.z | with_reducible apply In.s)))
local macro_rules | `(tactic| walk_at "at") => `(tactic| (first | assumption | with_reducible exact at_last | with_reducible exact at_new rfl | with_reducible exact at_left (by assumption) | with_reducible exact List.getElem?_set_self (by assumption) | with_reducible exact at_left (at_left (by assumption))))
local macro_rules | `(tactic| walk_at "ixd") => `(tactic| (first | exact .inl rfl | exact .inr (.inl rfl) | exact .inr (.inr (.inl rfl)) | exact .inr (.inr (.inr ⟨_, rfl, by (first | assumption | with_reducible exact at_last | with_reducible exact at_new rfl | with_reducible exact at_left (by assumption) | with_reducible exact List.getElem?_set_self (by assumption) | with_reducible exact at_left (at_left (by assumption)))⟩))))
local macro_rules | `(tactic| walk_at "ints") => `(tactic| (repeat (first | exact Ints.nil | apply Ints.cons)))
local macro_rules | `(tactic| walk_at "num") => `(tactic| (first | with_reducible assumption | omega))
local macro_rules | `(tactic| walk_at "nm") => `(tactic| (first | exact Num.rt _ | exact Num.int _ | assumption))
local macro_rules | `(tactic| walk_at "fit") => `(tactic| (first | with_reducible assumption | exact Fit.mono (by (repeat' (first | with_reducible assumption | with_reducible exact fit_two | with_reducible apply fit_add | with_reducible apply fit_sub | with_reducible apply fit_mul | with_reducible apply fit_half | with_reducible apply fit_rabs | with_reducible apply fit_neg))) (by decide) | exact Fit.mono (n := 64) (fit_int (by omega) (by decide)) (by decide)))
local macro_rules | `(tactic| walk_at "ix") => `(tactic| (repeat (first | with_reducible exact Ix.z | with_reducible exact Ix.c | with_reducible apply Ix.s)))
local macro_rules | `(tactic| walk_at "il") => `(tactic| (repeat (first | with_reducible exact Il.z | with_reducible apply Il.s)))
local macro_rules | `(tactic| walk_at "one") => `(tactic| first | fail "o" | fail "st" | refine wSs_cons ?_)
local macro_rules | `(tactic| walk_at "wp") => `(tactic| repeat (first | fail "o" | fail "st" | refine wSs_cons ?_))
local macro_rules | `(tactic| walk_at "s1") => `(tactic| (refine wSs_cons ?_; repeat (first | fail "o" | fail "st")))
local macro_rules | `(tactic| walk_at "e") => `(tactic| repeat (fail "o"))
local macro_rules | `(tactic| walk_at "start") => `(tactic| (intro ρ hρ cdv A outer s H E g; simp only [startD, List.map_cons, List.map_nil, List.length_cons, List.length_nil, List.replicate_succ, List.replicate_zero, List.cons_append, List.nil_append, Nat.reduceAdd, Nat.reduceSub] at hρ; subst hρ; have gn := g.toNx'))
local macro_rules | `(tactic| walk_at "suite") => `(tactic| (intro a dd oe pn hz hv gn ρs hρ; simp only [List.set_cons_succ, List.set_cons_zero] at hρ; subst hρ))
local macro_rules | `(tactic| walk_at "after") => `(tactic| (intro ρs hρ; simp only [List.set_cons_succ, List.set_cons_zero] at hρ; subst hρ))
local macro_rules | `(tactic| walk_at "blk") => `(tactic| (intro s H C cl fp g; have gn := g.toNx'))
section
variable {P : Program} {w : World} {K : PySem.W.Frag} {mg : Str → Option Value} {base : Heap} (T : Tx K mg)
/-! the methods as relations, for the operators -/
end
section
variable {X : Cx} {W : WX} {k : Nat} {μ : List M} {d : D} {t : Value} {c v c' v' x : Rat} {Q : KV} {Z : KX}
end
end PM
set_option Elab.async false
set_option linter.all false
set_option maxRecDepth 100000
set_option maxHeartbeats 4000000
set_option exponentiation.threshold 20000
namespace PM
open PySem L2 PyProof.Rows
set_option hygiene false
local macro_rules | `(tactic| fail "E") => `(tactic| ((with_reducible refine hdm ?_); fail "m"))
local macro_rules | `(tactic| fail "E") => `(tactic| ((with_reducible refine hda ?_); fail "a"))
local macro_rules | `(tactic| fail "E") => `(tactic| ((with_reducible refine hdn ?_); fail "n"))
local macro_rules | `(tactic| fail "E") => `(tactic| ((with_reducible refine hdc ?_); fail "c"))
local macro_rules | `(tactic| fail "E") => `(tactic| refine wE_if ?_)
local macro_rules | `(tactic| fail "E") => `(tactic| refine wE_un ?_)
local macro_rules | `(tactic| fail "E") => `(tactic| refine wE_one ?_)
local macro_rules | `(tactic| fail "E") => `(tactic| refine wE_or ?_)
local macro_rules | `(tactic| fail "E") => `(tactic| refine wE_and ?_)
local macro_rules | `(tactic| fail "E") => `(tactic| refine wE_not ?_)
local macro_rules | `(tactic| fail "E") => `(tactic| refine wE_non ?_)
local macro_rules | `(tactic| fail "E") => `(tactic| refine wE_bl ?_)
local macro_rules | `(tactic| fail "E") => `(tactic| refine wE_str ?_)
local macro_rules | `(tactic| fail "E") => `(tactic| refine wE_lst ?_)
local macro_rules | `(tactic| fail "E") => `(tactic| refine wE_tup ?_)
local macro_rules | `(tactic| fail "E") => `(tactic| refine wE_cmp ?_)
local macro_rules | `(tactic| fail "E") => `(tactic| refine wE_sub ?_)
local macro_rules | `(tactic| fail "E") => `(tactic| refine wE_bin ?_)
local macro_rules | `(tactic| fail "E") => `(tactic| refine wE_int ?_)
local macro_rules | `(tactic| fail "E") => `(tactic| (refine wE_name gn ?_; (repeat (first | with_reducible refine wGt_z ?_ | with_reducible refine wGt_c ?_ | with_reducible refine wGt_s ?_ | with_reducible refine wGt_f ?_)); fail_if_success refine wGt_chk ?_))
local macro_rules | `(tactic| fail "B") => `(tactic| ((with_reducible refine chkCmL .LtE ?_); refine wE_leL T g.toGd ?_; refine Exists.intro _ (And.intro (by (first | exact Num.rt _ | exact Num.int _ | assumption)) (And.intro (And.intro (by (first | with_reducible assumption | exact Fit.mono (by (repeat' (first | with_reducible assumption | with_reducible exact fit_two | with_reducible apply fit_add | with_reducible apply fit_sub | with_reducible apply fit_mul | with_reducible apply fit_half | with_reducible apply fit_rabs | with_reducible apply fit_neg))) (by decide) | exact Fit.mono (n := 64) (fit_int (by omega) (by decide)) (by decide))) (by (first | with_reducible assumption | exact Fit.mono (by (repeat' (first | with_reducible assumption | with_reducible exact fit_two | with_reducible apply fit_add | with_reducible apply fit_sub | with_reducible apply fit_mul | with_reducible apply fit_half | with_reducible apply fit_rabs | with_reducible apply fit_neg))) (by decide) | exact Fit.mono (n := 64) (fit_int (by omega) (by decide)) (by decide)))) ?_))))
local macro_rules | `(tactic| fail "B") => `(tactic| ((with_reducible refine chkCm .GtE ?_); refine wE_geR T g.toGd ?_; refine Exists.intro _ (And.intro (by (first | exact Num.rt _ | exact Num.int _ | assumption)) (And.intro (And.intro (by (first | with_reducible assumption | exact Fit.mono (by (repeat' (first | with_reducible assumption | with_reducible exact fit_two | with_reducible apply fit_add | with_reducible apply fit_sub | with_reducible apply fit_mul | with_reducible apply fit_half | with_reducible apply fit_rabs | with_reducible apply fit_neg))) (by decide) | exact Fit.mono (n := 64) (fit_int (by omega) (by decide)) (by decide))) (by (first | with_reducible assumption | exact Fit.mono (by (repeat' (first | with_reducible assumption | with_reducible exact fit_two | with_reducible apply fit_add | with_reducible apply fit_sub | with_reducible apply fit_mul | with_reducible apply fit_half | with_reducible apply fit_rabs | with_reducible apply fit_neg))) (by decide) | exact Fit.mono (n := 64) (fit_int (by omega) (by decide)) (by decide)))) ?_))))
local macro_rules | `(tactic| fail "B") => `(tactic| ((with_reducible refine chkCm .LtE ?_); refine wE_leR T g.toGd ?_; refine Exists.intro _ (And.intro (by (first | exact Num.rt _ | exact Num.int _ | assumption)) (And.intro (And.intro (by (first | with_reducible assumption | exact Fit.mono (by (repeat' (first | with_reducible assumption | with_reducible exact fit_two | with_reducible apply fit_add | with_reducible apply fit_sub | with_reducible apply fit_mul | with_reducible apply fit_half | with_reducible apply fit_rabs | with_reducible apply fit_neg))) (by decide) | exact Fit.mono (n := 64) (fit_int (by omega) (by decide)) (by decide))) (by (first | with_reducible assumption | exact Fit.mono (by (repeat' (first | with_reducible assumption | with_reducible exact fit_two | with_reducible apply fit_add | with_reducible apply fit_sub | with_reducible apply fit_mul | with_reducible apply fit_half | with_reducible apply fit_rabs | with_reducible apply fit_neg))) (by decide) | exact Fit.mono (n := 64) (fit_int (by omega) (by decide)) (by decide)))) ?_))))
local macro_rules | `(tactic| fail "B") => `(tactic| ((with_reducible refine chkSub ?_); refine wE_subR T g.toGd ?_; refine Exists.intro _ (And.intro (by (first | exact Num.rt _ | exact Num.int _ | assumption)) (And.intro (And.intro (by (first | with_reducible assumption | exact Fit.mono (by (repeat' (first | with_reducible assumption | with_reducible exact fit_two | with_reducible apply fit_add | with_reducible apply fit_sub | with_reducible apply fit_mul | with_reducible apply fit_half | with_reducible apply fit_rabs | with_reducible apply fit_neg))) (by decide) | exact Fit.mono (n := 64) (fit_int (by omega) (by decide)) (by decide))) (by (first | with_reducible assumption | exact Fit.mono (by (repeat' (first | with_reducible assumption | with_reducible exact fit_two | with_reducible apply fit_add | with_reducible apply fit_sub | with_reducible apply fit_mul | with_reducible apply fit_half | with_reducible apply fit_rabs | with_reducible apply fit_neg))) (by decide) | exact Fit.mono (n := 64) (fit_int (by omega) (by decide)) (by decide)))) ?_))))
local macro_rules | `(tactic| fail "B") => `(tactic| ((with_reducible refine chkAdd ?_); refine wE_addR T g.toGd ?_; refine Exists.intro _ (And.intro (by (first | exact Num.rt _ | exact Num.int _ | assumption)) (And.intro (And.intro (by (first | with_reducible assumption | exact Fit.mono (by (repeat' (first | with_reducible assumption | with_reducible exact fit_two | with_reducible apply fit_add | with_reducible apply fit_sub | with_reducible apply fit_mul | with_reducible apply fit_half | with_reducible apply fit_rabs | with_reducible apply fit_neg))) (by decide) | exact Fit.mono (n := 64) (fit_int (by omega) (by decide)) (by decide))) (by (first | with_reducible assumption | exact Fit.mono (by (repeat' (first | with_reducible assumption | with_reducible exact fit_two | with_reducible apply fit_add | with_reducible apply fit_sub | with_reducible apply fit_mul | with_reducible apply fit_half | with_reducible apply fit_rabs | with_reducible apply fit_neg))) (by decide) | exact Fit.mono (n := 64) (fit_int (by omega) (by decide)) (by decide)))) ?_))))
local macro_rules | `(tactic| fail "B") => `(tactic| with_reducible refine wB_pow18 ?_)
local macro_rules | `(tactic| fail "B") => `(tactic| with_reducible refine wB_pow9 ?_)
local macro_rules | `(tactic| fail "B") => `(tactic| with_reducible refine wB_pow8 ?_)
local macro_rules | `(tactic| fail "B") => `(tactic| with_reducible refine wB_pow7 ?_)
local macro_rules | `(tactic| fail "B") => `(tactic| with_reducible refine wB_pow6 ?_)
local macro_rules | `(tactic| fail "B") => `(tactic| with_reducible refine wB_pow5 ?_)
local macro_rules | `(tactic| fail "B") => `(tactic| with_reducible refine wB_isNot ?_)
local macro_rules | `(tactic| fail "B") => `(tactic| with_reducible refine wB_is ?_)
local macro_rules | `(tactic| fail "B") => `(tactic| with_reducible refine wB_neB ?_)
local macro_rules | `(tactic| fail "B") => `(tactic| with_reducible refine wB_eqB ?_)
local macro_rules | `(tactic| fail "B") => `(tactic| with_reducible refine wB_neT ?_)
local macro_rules | `(tactic| fail "B") => `(tactic| with_reducible refine wB_eqT ?_)
local macro_rules | `(tactic| fail "B") => `(tactic| with_reducible refine wB_ne ?_)
local macro_rules | `(tactic| fail "B") => `(tactic| with_reducible refine wB_eq ?_)
local macro_rules | `(tactic| fail "B") => `(tactic| with_reducible refine wB_ge ?_)
local macro_rules | `(tactic| fail "B") => `(tactic| with_reducible refine wB_gt ?_)
local macro_rules | `(tactic| fail "B") => `(tactic| with_reducible refine wB_le ?_)
local macro_rules | `(tactic| fail "B") => `(tactic| with_reducible refine wB_lt ?_)
local macro_rules | `(tactic| fail "B") => `(tactic| ((with_reducible refine wB_fdivS ?qc ?_); (case qc => exact ⟨by (first | with_reducible assumption | omega), by (first | with_reducible assumption | omega)⟩)))
local macro_rules | `(tactic| fail "B") => `(tactic| ((with_reducible refine wB_mod ?qc ?_); (case qc => (first | with_reducible assumption | omega))))
local macro_rules | `(tactic| fail "B") => `(tactic| ((with_reducible refine wB_mulL ?qc ?_); (case qc => exact ⟨by (first | with_reducible assumption | omega), by (first | with_reducible assumption | omega)⟩)))
local macro_rules | `(tactic| fail "B") => `(tactic| ((with_reducible refine wB_mulR ?qc ?_); (case qc => exact ⟨by (first | with_reducible assumption | omega), by (first | with_reducible assumption | omega)⟩)))
local macro_rules | `(tactic| fail "B") => `(tactic| with_reducible refine wB_sub ?_)
local macro_rules | `(tactic| fail "B") => `(tactic| with_reducible refine wB_add ?_)
local macro_rules | `(tactic| fail "F") => `(tactic| with_reducible refine wF_R1 T g.toGd ?_)
local macro_rules | `(tactic| fail "F") => `(tactic| ((with_reducible refine wF_R2 T g.toGd ?qc1 ?qc2 ?_); (case qc1 => (first | with_reducible assumption | omega)); (case qc2 => exact lt_pow_mono (n := 64) (by (first | with_reducible assumption | omega)) (by decide))))
local macro_rules | `(tactic| fail "F") => `(tactic| with_reducible refine wF_isBB ?_)
local macro_rules | `(tactic| fail "F") => `(tactic| with_reducible refine wF_isIB ?_)
local macro_rules | `(tactic| fail "F") => `(tactic| with_reducible refine wF_isII ?_)
local macro_rules | `(tactic| fail "F") => `(tactic| ((with_reducible refine wF_isRt ?qc ?_); (case qc => exact T.own_Ratio)))
local macro_rules | `(tactic| fail "F") => `(tactic| with_reducible refine wF_min g.toGd ?_)
local macro_rules | `(tactic| fail "F") => `(tactic| with_reducible refine wF_max g.toGd ?_)
local macro_rules | `(tactic| fail "F") => `(tactic| with_reducible refine wF_abs ?_)
local macro_rules | `(tactic| fail "F") => `(tactic| with_reducible refine wF_boolB ?_)
local macro_rules | `(tactic| fail "F") => `(tactic| with_reducible refine wF_intB ?_)
local macro_rules | `(tactic| fail "F") => `(tactic| ((with_reducible refine chkB "len" ?_); refine wF_len (by (first | exact .inl rfl | exact .inr (.inl rfl) | exact .inr (.inr (.inl rfl)) | exact .inr (.inr (.inr ⟨_, rfl, by (first | assumption | with_reducible exact at_last | with_reducible exact at_new rfl | with_reducible exact at_left (by assumption) | with_reducible exact List.getElem?_set_self (by assumption) | with_reducible exact at_left (at_left (by assumption)))⟩)))) ?_))
local macro_rules | `(tactic| fail "X") => `(tactic| (refine wX_ints (by (first | exact .inl rfl | exact .inr (.inl rfl) | exact .inr (.inr (.inl rfl)) | exact .inr (.inr (.inr ⟨_, rfl, by (first | assumption | with_reducible exact at_last | with_reducible exact at_new rfl | with_reducible exact at_left (by assumption) | with_reducible exact List.getElem?_set_self (by assumption) | with_reducible exact at_left (at_left (by assumption)))⟩)))) (by (repeat (first | exact Ints.nil | apply Ints.cons))) (by (first | with_reducible assumption | omega)) (by (simp only [List.length_cons, List.length_nil]; omega)) ?_; intro v hv; simp only [List.mem_cons, List.not_mem_nil, or_false] at hv))
local macro_rules | `(tactic| fail "X") => `(tactic| refine wX_at (by (first | exact .inl rfl | exact .inr (.inl rfl) | exact .inr (.inr (.inl rfl)) | exact .inr (.inr (.inr ⟨_, rfl, by (first | assumption | with_reducible exact at_last | with_reducible exact at_new rfl | with_reducible exact at_left (by assumption) | with_reducible exact List.getElem?_set_self (by assumption) | with_reducible exact at_left (at_left (by assumption)))⟩)))) rfl ?_)
local macro_rules | `(tactic| fail "X") => `(tactic| refine wX_if2 (by (first | exact .inl rfl | exact .inr (.inl rfl) | exact .inr (.inr (.inl rfl)) | exact .inr (.inr (.inr ⟨_, rfl, by (first | assumption | with_reducible exact at_last | with_reducible exact at_new rfl | with_reducible exact at_left (by assumption) | with_reducible exact List.getElem?_set_self (by assumption) | with_reducible exact at_left (at_left (by assumption)))⟩)))) ?_)
local macro_rules | `(tactic| fail "X") => `(tactic| refine wX_if2I (by (first | exact .inl rfl | exact .inr (.inl rfl) | exact .inr (.inr (.inl rfl)) | exact .inr (.inr (.inr ⟨_, rfl, by (first | assumption | with_reducible exact at_last | with_reducible exact at_new rfl | with_reducible exact at_left (by assumption) | with_reducible exact List.getElem?_set_self (by assumption) | with_reducible exact at_left (at_left (by assumption)))⟩)))) ?_)
local macro_rules | `(tactic| fail "A") => `(tactic| refine wA_nil ?_)
local macro_rules | `(tactic| fail "A") => `(tactic| refine wA_cons ?_)
local macro_rules | `(tactic| fail "C") => `(tactic| refine wC_val ?_)
local macro_rules | `(tactic| fail "C") => `(tactic| refine wC_bool ?_)
local macro_rules | `(tactic| fail "C") => `(tactic| refine wC_not ?_)
local macro_rules | `(tactic| fail "C") => `(tactic| refine wC_cmp ?_)
local macro_rules | `(tactic| fail "W") => `(tactic| refine wCw_or1 ?_)
local macro_rules | `(tactic| fail "W") => `(tactic| refine wCw_and1 ?_)
local macro_rules | `(tactic| fail "W") => `(tactic| refine wCw_or ?_)
local macro_rules | `(tactic| fail "W") => `(tactic| refine wCw_and ?_)
local macro_rules | `(tactic| fail "U") => `(tactic| ((with_reducible refine chkNg ?_); refine wU_negR T g.toGd ?qf ?_; (case qf => (first | with_reducible assumption | exact Fit.mono (by (repeat' (first | with_reducible assumption | with_reducible exact fit_two | with_reducible apply fit_add | with_reducible apply fit_sub | with_reducible apply fit_mul | with_reducible apply fit_half | with_reducible apply fit_rabs | with_reducible apply fit_neg))) (by decide) | exact Fit.mono (n := 64) (fit_int (by omega) (by decide)) (by decide)))))
local macro_rules | `(tactic| fail "U") => `(tactic| with_reducible refine wU_neg ?_)
local macro_rules | `(tactic| fail "P") => `(tactic| with_reducible refine wPt_s ?_)
local macro_rules | `(tactic| fail "P") => `(tactic| with_reducible refine wPt_c ?_)
local macro_rules | `(tactic| fail "P") => `(tactic| with_reducible refine wPt_z ?_)
local macro_rules | `(tactic| fail "G") => `(tactic| refine wG_name gn ?_)
local macro_rules | `(tactic| fail "G") => `(tactic| refine wG_tup g.calm ?_)
local macro_rules | `(tactic| fail "H") => `(tactic| refine wGs_nil ?_)
local macro_rules | `(tactic| fail "H") => `(tactic| refine wGs_cons ?_)
local macro_rules | `(tactic| fail "S") => `(tactic| refine wS_pass ?_)
local macro_rules | `(tactic| fail "S") => `(tactic| refine wS_asg ?_)
local macro_rules | `(tactic| fail "S") => `(tactic| refine wS_ix ?_)
local macro_rules | `(tactic| fail "S") => `(tactic| refine wS_expr ?_)
local macro_rules | `(tactic| fail "S") => `(tactic| refine wS_if ?_)
local macro_rules | `(tactic| fail "S") => `(tactic| refine wS_ret ?_)
local macro_rules | `(tactic| fail "S") => `(tactic| (refine wS_par3 g ?qa ?_; (case qa => exact ⟨_, _, _, by (repeat (first | with_reducible exact Il.z | with_reducible apply Il.s)), by (repeat (first | with_reducible exact Il.z | with_reducible apply Il.s)), by (repeat (first | with_reducible exact Il.z | with_reducible apply Il.s)), by decide, by decide, by decide⟩)))
local macro_rules | `(tactic| fail "S") => `(tactic| (refine wS_par g ?qa ?_; (case qa => exact ⟨_, _, by (repeat (first | with_reducible exact Il.z | with_reducible apply Il.s)), by (repeat (first | with_reducible exact Il.z | with_reducible apply Il.s)), by decide⟩)))
local macro_rules | `(tactic| fail "S") => `(tactic| (refine wS_set gn ?qa ?_; (case qa => exact ⟨_, by (repeat (first | with_reducible exact Ix.z | with_reducible exact Ix.c | with_reducible apply Ix.s))⟩)))
local macro_rules | `(tactic| fail "L") => `(tactic| refine wSs_nil ?_)
local macro_rules | `(tactic| fail "c") => `(tactic| ((with_reducible refine chkC "Water" ?_); refine xE_make gn ?qa T.g_Water T.mk_Water.kp ?_; (case qa => (repeat (first | with_reducible exact In.z | with_reducible apply In.s)))))
local macro_rules | `(tactic| fail "c") => `(tactic| ((with_reducible refine chkC "Pool" ?_); refine xE_make gn ?qa T.g_Pool T.mk_Pool.kp ?_; (case qa => (repeat (first | with_reducible exact In.z | with_reducible apply In.s)))))
local macro_rules | `(tactic| fail "c") => `(tactic| ((with_reducible refine chkC "Ratio" ?_); refine xE_make gn ?qa T.g_Ratio T.mk_Ratio.kp ?_; (case qa => (repeat (first | with_reducible exact In.z | with_reducible apply In.s)))))
local macro_rules | `(tactic| fail "c") => `(tactic| ((with_reducible refine chkC "sum" ?_); refine xE_blt gn ?qa T.n_sum boot_sum ?_; (case qa => (repeat (first | with_reducible exact In.z | with_reducible apply In.s)))))
local macro_rules | `(tactic| fail "c") => `(tactic| ((with_reducible refine chkC "any" ?_); refine xE_blt gn ?qa T.n_any boot_any ?_; (case qa => (repeat (first | with_reducible exact In.z | with_reducible apply In.s)))))
local macro_rules | `(tactic| fail "c") => `(tactic| ((with_reducible refine chkC "all" ?_); refine xE_blt gn ?qa T.n_all boot_all ?_; (case qa => (repeat (first | with_reducible exact In.z | with_reducible apply In.s)))))
local macro_rules | `(tactic| fail "c") => `(tactic| ((with_reducible refine chkC "bool" ?_); refine xE_bcl gn ?qa T.n_bool boot_bool ?_; (case qa => (repeat (first | with_reducible exact In.z | with_reducible apply In.s)))))
local macro_rules | `(tactic| fail "c") => `(tactic| ((with_reducible refine chkC "list" ?_); refine xE_bcl gn ?qa T.n_list boot_list ?_; (case qa => (repeat (first | with_reducible exact In.z | with_reducible apply In.s)))))
local macro_rules | `(tactic| fail "c") => `(tactic| ((with_reducible refine chkC "tuple" ?_); refine xE_bcl gn ?qa T.n_tuple boot_tuple ?_; (case qa => (repeat (first | with_reducible exact In.z | with_reducible apply In.s)))))
local macro_rules | `(tactic| fail "c") => `(tactic| ((with_reducible refine chkC "isinstance" ?_); refine xE_blt gn ?qa T.n_isinstance boot_isinstance ?_; (case qa => (repeat (first | with_reducible exact In.z | with_reducible apply In.s)))))
local macro_rules | `(tactic| fail "c") => `(tactic| ((with_reducible refine chkC "repr" ?_); refine xE_blt gn ?qa T.n_repr boot_repr ?_; (case qa => (repeat (first | with_reducible exact In.z | with_reducible apply In.s)))))
local macro_rules | `(tactic| fail "c") => `(tactic| ((with_reducible refine chkC "str" ?_); refine xE_bcl gn ?qa T.n_str boot_str ?_; (case qa => (repeat (first | with_reducible exact In.z | with_reducible apply In.s)))))
local macro_rules | `(tactic| fail "c") => `(tactic| ((with_reducible refine chkC "min" ?_); refine xE_blt gn ?qa T.n_min boot_min ?_; (case qa => (repeat (first | with_reducible exact In.z | with_reducible apply In.s)))))
local macro_rules | `(tactic| fail "c") => `(tactic| ((with_reducible refine chkC "max" ?_); refine xE_blt gn ?qa T.n_max boot_max ?_; (case qa => (repeat (first | with_reducible exact In.z | with_reducible apply In.s)))))
local macro_rules | `(tactic| fail "c") => `(tactic| ((with_reducible refine chkC "abs" ?_); refine xE_blt gn ?qa T.n_abs boot_abs ?_; (case qa => (repeat (first | with_reducible exact In.z | with_reducible apply In.s)))))
local macro_rules | `(tactic| fail "c") => `(tactic| ((with_reducible refine chkC "int" ?_); refine xE_bcl gn ?qa T.n_int boot_int ?_; (case qa => (repeat (first | with_reducible exact In.z | with_reducible apply In.s)))))
local macro_rules | `(tactic| fail "c") => `(tactic| ((with_reducible refine chkC "len" ?_); refine xE_blt gn ?qa T.n_len boot_len ?_; (case qa => (repeat (first | with_reducible exact In.z | with_reducible apply In.s)))))
local macro_rules | `(tactic| fail "n") => `(tactic| ((with_reducible refine chkN "Water" ?_); refine xE_cls gn ?qa T.g_Water ?_; (case qa => (repeat (first | with_reducible exact In.z | with_reducible apply In.s)))))
local macro_rules | `(tactic| fail "n") => `(tactic| ((with_reducible refine chkN "Pool" ?_); refine xE_cls gn ?qa T.g_Pool ?_; (case qa => (repeat (first | with_reducible exact In.z | with_reducible apply In.s)))))
local macro_rules | `(tactic| fail "n") => `(tactic| ((with_reducible refine chkN "Ratio" ?_); refine xE_cls gn ?qa T.g_Ratio ?_; (case qa => (repeat (first | with_reducible exact In.z | with_reducible apply In.s)))))
local macro_rules | `(tactic| fail "n") => `(tactic| ((with_reducible refine chkN "UnknownIndex" ?_); refine xE_cls gn ?qa T.g_UnknownIndex ?_; (case qa => (repeat (first | with_reducible exact In.z | with_reducible apply In.s)))))
local macro_rules | `(tactic| fail "n") => `(tactic| ((with_reducible refine chkN "Touching" ?_); refine xE_cls gn ?qa T.g_Touching ?_; (case qa => (repeat (first | with_reducible exact In.z | with_reducible apply In.s)))))
local macro_rules | `(tactic| fail "n") => `(tactic| ((with_reducible refine chkN "Full" ?_); refine xE_cls gn ?qa T.g_Full ?_; (case qa => (repeat (first | with_reducible exact In.z | with_reducible apply In.s)))))
local macro_rules | `(tactic| fail "n") => `(tactic| ((with_reducible refine chkN "InvalidDrop" ?_); refine xE_cls gn ?qa T.g_InvalidDrop ?_; (case qa => (repeat (first | with_reducible exact In.z | with_reducible apply In.s)))))
local macro_rules | `(tactic| fail "n") => `(tactic| ((with_reducible refine chkN "InvalidNumber" ?_); refine xE_cls gn ?qa T.g_InvalidNumber ?_; (case qa => (repeat (first | with_reducible exact In.z | with_reducible apply In.s)))))
local macro_rules | `(tactic| fail "n") => `(tactic| ((with_reducible refine chkN "PoolError" ?_); refine xE_cls gn ?qa T.g_PoolError ?_; (case qa => (repeat (first | with_reducible exact In.z | with_reducible apply In.s)))))
local macro_rules | `(tactic| fail "n") => `(tactic| ((with_reducible refine chkN "list" ?_); refine xE_bty gn ?qa T.n_list boot_list ?_; (case qa => (repeat (first | with_reducible exact In.z | with_reducible apply In.s)))))
local macro_rules | `(tactic| fail "n") => `(tactic| ((with_reducible refine chkN "tuple" ?_); refine xE_bty gn ?qa T.n_tuple boot_tuple ?_; (case qa => (repeat (first | with_reducible exact In.z | with_reducible apply In.s)))))
local macro_rules | `(tactic| fail "n") => `(tactic| ((with_reducible refine chkN "str" ?_); refine xE_bty gn ?qa T.n_str boot_str ?_; (case qa => (repeat (first | with_reducible exact In.z | with_reducible apply In.s)))))
local macro_rules | `(tactic| fail "n") => `(tactic| ((with_reducible refine chkN "bool" ?_); refine xE_bty gn ?qa T.n_bool boot_bool ?_; (case qa => (repeat (first | with_reducible exact In.z | with_reducible apply In.s)))))
local macro_rules | `(tactic| fail "n") => `(tactic| ((with_reducible refine chkN "int" ?_); refine xE_bty gn ?qa T.n_int boot_int ?_; (case qa => (repeat (first | with_reducible exact In.z | with_reducible apply In.s)))))
local macro_rules | `(tactic| fail "a") => `(tactic| ((with_reducible refine chkA "amount" ?_); refine wE_amt T ?_))
local macro_rules | `(tactic| fail "a") => `(tactic| ((with_reducible refine chkA "center" ?_); refine wE_cen T ?_))
local macro_rules | `(tactic| fail "a") => `(tactic| ((with_reducible refine chkA "bottom" ?_); refine wE_bot T ?_))
local macro_rules | `(tactic| fail "a") => `(tactic| ((with_reducible refine chkA "top" ?_); refine wE_top T ?_))
local macro_rules | `(tactic| fail "m") => `(tactic| ((with_reducible refine chkM "over" ?_); refine wE_over T g.toGd ?_))
local macro_rules | `(tactic| fail "O") => `(tactic| refine Exists.intro _ (And.intro (by (first | exact Num.rt _ | exact Num.int _ | assumption)) (And.intro (And.intro (by (first | with_reducible assumption | exact Fit.mono (by (repeat' (first | with_reducible assumption | with_reducible exact fit_two | with_reducible apply fit_add | with_reducible apply fit_sub | with_reducible apply fit_mul | with_reducible apply fit_half | with_reducible apply fit_rabs | with_reducible apply fit_neg))) (by decide) | exact Fit.mono (n := 64) (fit_int (by omega) (by decide)) (by decide))) (And.intro (by (first | with_reducible assumption | exact Fit.mono (by (repeat' (first | with_reducible assumption | with_reducible exact fit_two | with_reducible apply fit_add | with_reducible apply fit_sub | with_reducible apply fit_mul | with_reducible apply fit_half | with_reducible apply fit_rabs | with_reducible apply fit_neg))) (by decide) | exact Fit.mono (n := 64) (fit_int (by omega) (by decide)) (by decide))) (by decide))) ?_)))
local macro_rules | `(tactic| fail "O") => `(tactic| refine Exists.intro _ (Exists.intro _ (Exists.intro _ (Exists.intro _ (And.intro rfl (And.intro rfl (And.intro (by (first | assumption | with_reducible exact at_last | with_reducible exact at_new rfl | with_reducible exact at_left (by assumption) | with_reducible exact List.getElem?_set_self (by assumption) | with_reducible exact at_left (at_left (by assumption)))) (And.intro rfl ?_))))))))
local macro_rules | `(tactic| fail "O") => `(tactic| refine Exists.intro _ (Exists.intro _ (Exists.intro _ (And.intro rfl ?_))))
local macro_rules | `(tactic| fail "O") => `(tactic| refine Exists.intro _ (Exists.intro _ (And.intro rfl ?_)))
local macro_rules | `(tactic| fail "O") => `(tactic| refine And.intro (by (simp only [List.length_cons, List.length_nil]; decide)) ?_)
local macro_rules | `(tactic| fail "O") => `(tactic| refine Exists.intro _ (And.intro rfl ?_))
local macro_rules | `(tactic| fail "I") => `(tactic| ((with_reducible refine iteNF ?_); fail "o"))
local macro_rules | `(tactic| fail "I") => `(tactic| ((with_reducible refine iteNT ?_); fail "o"))
local macro_rules | `(tactic| fail "I") => `(tactic| ((with_reducible refine iteFT ?_); fail "o"))
local macro_rules | `(tactic| fail "I") => `(tactic| ((with_reducible refine iteTT ?_); fail "o"))
local macro_rules | `(tactic| fail "J") => `(tactic| ((with_reducible refine iteNF ?_); fail "st"))
local macro_rules | `(tactic| fail "J") => `(tactic| ((with_reducible refine iteNT ?_); fail "st"))
local macro_rules | `(tactic| fail "J") => `(tactic| ((with_reducible refine iteFT ?_); fail "st"))
local macro_rules | `(tactic| fail "J") => `(tactic| ((with_reducible refine iteTT ?_); fail "st"))
local macro_rules | `(tactic| fail "su") => `(tactic| ((with_reducible refine hdL ?_); fail "L"))
local macro_rules | `(tactic| fail "su") => `(tactic| ((with_reducible refine hdS ?_); fail "S"))
local macro_rules | `(tactic| fail "p") => `(tactic| fail "O")
local macro_rules | `(tactic| fail "p") => `(tactic| ((with_reducible refine hdH ?_); fail "H"))
local macro_rules | `(tactic| fail "p") => `(tactic| ((with_reducible refine hdG ?_); fail "G"))
local macro_rules | `(tactic| fail "p") => `(tactic| ((with_reducible refine hdP ?_); fail "P"))
local macro_rules | `(tactic| fail "p") => `(tactic| ((with_reducible refine hdU ?_); fail "U"))
local macro_rules | `(tactic| fail "p") => `(tactic| ((with_reducible refine hdW ?_); fail "W"))
local macro_rules | `(tactic| fail "p") => `(tactic| ((with_reducible refine hdC ?_); fail "C"))
local macro_rules | `(tactic| fail "p") => `(tactic| ((with_reducible refine hdX ?_); fail "X"))
local macro_rules | `(tactic| fail "p") => `(tactic| ((with_reducible refine hdF ?_); fail "F"))
local macro_rules | `(tactic| fail "p") => `(tactic| ((with_reducible refine hdB ?_); fail "B"))
local macro_rules | `(tactic| fail "p") => `(tactic| ((with_reducible refine hdA ?_); fail "A"))
local macro_rules | `(tactic| fail "p") => `(tactic| ((with_reducible refine hdE ?_); fail "E"))
local macro_rules | `(tactic| fail "st") => `(tactic| ((with_reducible refine hdI ?_); fail "J"))
local macro_rules | `(tactic| fail "st") => `(tactic| ((fail_if_success (with_reducible refine hdI ?_)); fail "su"))
local macro_rules | `(tactic| fail "o") => `(tactic| ((with_reducible refine hdI ?_); fail "I"))
local macro_rules | `(tactic| fail "o") => `(tactic| ((fail_if_success (with_reducible refine hdI ?_)); fail "p"))
local macro_rules | `(tactic| walk_at "in") => `(tactic| (repeat (first | with_reducible exact In.z | with_reducible apply In.s)))
local macro_rules | `(tactic| walk_at "at") => `(tactic| (first | assumption | with_reducible exact at_last | with_reducible exact at_new rfl | with_reducible exact at_left (by assumption) | with_reducible exact List.getElem?_set_self (by assumption) | with_reducible exact at_left (at_left (by assumption))))
local macro_rules | `(tactic| walk_at "ixd") => `(tactic| (first | exact .inl rfl | exact .inr (.inl rfl) | exact .inr (.inr (.inl rfl)) | exact .inr (.inr (.inr ⟨_, rfl, by (first | assumption | with_reducible exact at_last | with_reducible exact at_new rfl | with_reducible exact at_left (by assumption) | with_reducible exact List.getElem?_set_self (by assumption) | with_reducible exact at_left (at_left (by assumption)))⟩))))
local macro_rules | `(tactic| walk_at "ints") => `(tactic| (repeat (first | exact Ints.nil | apply Ints.cons)))
local macro_rules | `(tactic| walk_at "num") => `(tactic| (first | with_reducible assumption | omega))
local macro_rules | `(tactic| walk_at "nm") => `(tactic| (first | exact Num.rt _ | exact Num.int _ | assumption))
local macro_rules | `(tactic| walk_at "fit") => `(tactic| (first | with_reducible assumption | exact Fit.mono (by (repeat' (first | with_reducible assumption | with_reducible exact fit_two | with_reducible apply fit_add | with_reducible apply fit_sub | with_reducible apply fit_mul | with_reducible apply fit_half | with_reducible apply fit_rabs | with_reducible apply fit_neg))) (by decide) | exact Fit.mono (n := 64) (fit_int (by omega) (by decide)) (by decide)))
local macro_rules | `(tactic| walk_at "ix") => `(tactic| (repeat (first | with_reducible exact Ix.z | with_reducible exact Ix.c | with_reducible apply Ix.s)))
local macro_rules | `(tactic| walk_at "il") => `(tactic| (repeat (first | with_reducible exact Il.z | with_reducible apply Il.s)))
local macro_rules | `(tactic| walk_at "one") => `(tactic| first | fail "o" | fail "st" | refine wSs_cons ?_)
local macro_rules | `(tactic| walk_at "wp") => `(tactic| repeat (first | fail "o" | fail "st" | refine wSs_cons ?_))
local macro_rules | `(tactic| walk_at "s1") => `(tactic| (refine wSs_cons ?_; repeat (first | fail "o" | fail "st")))
local macro_rules | `(tactic| walk_at "e") => `(tactic| repeat (fail "o"))
local macro_rules | `(tactic| walk_at "start") => `(tactic| (intro ρ hρ cdv A outer s H E g; simp only [startD, List.map_cons, List.map_nil, List.length_cons, List.length_nil, List.replicate_succ, List.replicate_zero, List.cons_append, List.nil_append, Nat.reduceAdd, Nat.reduceSub] at hρ; subst hρ; have gn := g.toNx'))
local macro_rules | `(tactic| walk_at "suite") => `(tactic| (intro a dd oe pn hz hv gn ρs hρ; simp only [List.set_cons_succ, List.set_cons_zero] at hρ; subst hρ))
local macro_rules | `(tactic| walk_at "after") => `(tactic| (intro ρs hρ; simp only [List.set_cons_succ, List.set_cons_zero] at hρ; subst hρ))
local macro_rules | `(tactic| walk_at "blk") => `(tactic| (intro s H C cl fp g; have gn := g.toNx'))
/-- the text of a pool -/
def txPl (c v : Rat) : Str := Str.ofString "Pool(" ++ txR c ++ Str.ofString ", " ++ txR v ++ Str.ofString ")"
section
variable {X : Cx} {W : WX} {k : Nat} {ρ : Env'} {μ : List M} {e : Expr} {pos : Pos} {c v c' v' : Rat} {q : Rat} {Q : KV} {Z : KX}
theorem ev_fmtR (T : Tx X.K X.mg) (g : Gd X W k) (hq : Fit 1000 q) (he : PE X e (tV X.K ρ μ (rt T.C_Ratio q) μ)) (hj : 2 ≤ k := by decide) : PE X (.FormattedValue e (-1) none pos) (tV X.K ρ μ (.str (txR q)) μ) :=
  ev_fmtOwn g T.own_Ratio T.fm_Ratio T.m_Ratio_str ⟨ok_str T, T.b_Ratio_str⟩ he ⟨q, rfl, hq, rfl⟩ hj
end
section
variable {P : Program} {w : World} {K : PySem.W.Frag} {mg : Str → Option Value} {base : Heap} (T : Tx K mg)
def R_prepr (T : Tx K mg) : Rl := fun ds μ o => ∃ c v, ds = [T.pl c v] ∧ Fit 1000 c ∧ Fit 1000 v ∧ o = .ret (.str (txPl c v)) μ
theorem ok_prepr : FnG P w K mg base 41 T.a_Pool_repr T.fd_Pool_repr ["self"] (spR K (R_prepr T)) := by
  refine SpF.rel (f := ⟨T.a_Pool_repr, T.fd_Pool_repr, ["self"], 41⟩) ?_
  rintro ds μ o ⟨c, v, rfl, hc, hv, rfl⟩
  refine spX_of T.F_Pool_repr sc_Pool_repr ck_Pool_repr rfl ?_
  walk_at "start"
  have sl := sl_big
  have l1 := txR_len hc
  have l2 := txR_len hv
  have fin : ∀ x, x = txPl c v → RetOk μ (fun d μ' => FO.ret (.str (txPl c v)) μ = .ret d μ') (.str x) (μ ++ []) := fun x e => by rw [List.append_nil, e]; exact .same rfl
  refine wSs_cons (wS_ret (.ofV (ev_joined (.cons ev_str ?_ (.cons (ev_fmtR T g.toGd.w0 hc (ev_fld (C := T.C_Pool) (ns := ["center", "amount"]) (fs := [rt T.C_Ratio c, rt T.C_Ratio v]) (ev_var 0 rfl) T.own_Pool.cl T.na_Pool_center rfl)) ?_ (.cons ev_str ?_ (.cons (ev_fmtR T g.toGd.w0 hv (ev_fld (C := T.C_Pool) (ns := ["center", "amount"]) (fs := [rt T.C_Ratio c, rt T.C_Ratio v]) (ev_var 0 rfl) T.own_Pool.cl T.na_Pool_amount rfl)) ?_ (.cons ev_str ?_ .nil)))))) ?_))
  · show (Str.empty ++ Str.ofString "Pool(").length ≤ _
    rw [Str.length_append]
    show 0 + 5 ≤ _
    omega
  · show (Str.empty ++ Str.ofString "Pool(" ++ txR c).length ≤ _
    rw [Str.length_append, Str.length_append]
    show 0 + 5 + _ ≤ _
    omega
  · show (Str.empty ++ Str.ofString "Pool(" ++ txR c ++ Str.ofString ", ").length ≤ _
    rw [Str.length_append, Str.length_append, Str.length_append]
    show 0 + 5 + _ + 2 ≤ _
    omega
  · show (Str.empty ++ Str.ofString "Pool(" ++ txR c ++ Str.ofString ", " ++ txR v).length ≤ _
    rw [Str.length_append, Str.length_append, Str.length_append, Str.length_append]
    show 0 + 5 + _ + 2 + _ ≤ _
    omega
  · show (Str.empty ++ Str.ofString "Pool(" ++ txR c ++ Str.ofString ", " ++ txR v ++ Str.ofString ")").length ≤ _
    rw [Str.length_append, Str.length_append, Str.length_append, Str.length_append, Str.length_append]
    show 0 + 5 + _ + 2 + _ + 1 ≤ _
    omega
  · refine fin _ ?_
    unfold txPl
    rw [Str.empty_append]
end
end PM
set_option Elab.async false
set_option linter.all false
set_option maxRecDepth 100000
set_option maxHeartbeats 4000000
set_option exponentiation.threshold 20000
namespace PM
open PySem L2 PyProof.Rows
set_option hygiene false
local macro_rules | `(tactic| fail "E") => `(tactic| ((with_reducible refine hdm ?_); fail "m"))
local macro_rules | `(tactic| fail "E") => `(tactic| ((with_reducible refine hda ?_); fail "a"))
local macro_rules | `(tactic| fail "E") => `(tactic| ((with_reducible refine hdn ?_); fail "n"))
local macro_rules | `(tactic| fail "E") => `(tactic| ((with_reducible refine hdc ?_); fail "c"))
local macro_rules | `(tactic| fail "E") => `(tactic| refine wE_if ?_)
local macro_rules | `(tactic| fail "E") => `(tactic| refine wE_un ?_)
local macro_rules | `(tactic| fail "E") => `(tactic| refine wE_one ?_)
local macro_rules | `(tactic| fail "E") => `(tactic| refine wE_or ?_)
local macro_rules | `(tactic| fail "E") => `(tactic| refine wE_and ?_)
local macro_rules | `(tactic| fail "E") => `(tactic| refine wE_not ?_)
local macro_rules | `(tactic| fail "E") => `(tactic| refine wE_non ?_)
local macro_rules | `(tactic| fail "E") => `(tactic| refine wE_bl ?_)
local macro_rules | `(tactic| fail "E") => `(tactic| refine wE_str ?_)
local macro_rules | `(tactic| fail "E") => `(tactic| refine wE_lst ?_)
local macro_rules | `(tactic| fail "E") => `(tactic| refine wE_tup ?_)
local macro_rules | `(tactic| fail "E") => `(tactic| refine wE_cmp ?_)
local macro_rules | `(tactic| fail "E") => `(tactic| refine wE_sub ?_)
local macro_rules | `(tactic| fail "E") => `(tactic| refine wE_bin ?_)
local macro_rules | `(tactic| fail "E") => `(tactic| refine wE_int ?_)
local macro_rules | `(tactic| fail "E") => `(tactic| (refine wE_name gn ?_; (repeat (first | with_reducible refine wGt_z ?_ | with_reducible refine wGt_c ?_ | with_reducible refine wGt_s ?_ | with_reducible refine wGt_f ?_)); fail_if_success refine wGt_chk ?_))
local macro_rules | `(tactic| fail "B") => `(tactic| ((with_reducible refine chkCmL .LtE ?_); refine wE_leL T g.toGd ?_; refine Exists.intro _ (And.intro (by (first | exact Num.rt _ | exact Num.int _ | assumption)) (And.intro (And.intro (by (first | with_reducible assumption | exact Fit.mono (by (repeat' (first | with_reducible assumption | with_reducible exact fit_two | with_reducible apply fit_add | with_reducible apply fit_sub | with_reducible apply fit_mul | with_reducible apply fit_half | with_reducible apply fit_rabs | with_reducible apply fit_neg))) (by decide) | exact Fit.mono (n := 64) (fit_int (by omega) (by decide)) (by decide))) (by (first | with_reducible assumption | exact Fit.mono (by (repeat' (first | with_reducible assumption | with_reducible exact fit_two | with_reducible apply fit_add | with_reducible apply fit_sub | with_reducible apply fit_mul | with_reducible apply fit_half | with_reducible apply fit_rabs | with_reducible apply fit_neg))) (by decide) | exact Fit.mono (n := 64) (fit_int (by omega) (by decide)) (by decide)))) ?_))))
local macro_rules | `(tactic| fail "B") => `(tactic| ((with_reducible refine chkCm .GtE ?_); refine wE_geR T g.toGd ?_; refine Exists.intro _ (And.intro (by (first | exact Num.rt _ | exact Num.int _ | assumption)) (And.intro (And.intro (by (first | with_reducible assumption | exact Fit.mono (by (repeat' (first | with_reducible assumption | with_reducible exact fit_two | with_reducible apply fit_add | with_reducible apply fit_sub | with_reducible apply fit_mul | with_reducible apply fit_half | with_reducible apply fit_rabs | with_reducible apply fit_neg))) (by decide) | exact Fit.mono (n := 64) (fit_int (by omega) (by decide)) (by decide))) (by (first | with_reducible assumption | exact Fit.mono (by (repeat' (first | with_reducible assumption | with_reducible exact fit_two | with_reducible apply fit_add | with_reducible apply fit_sub | with_reducible apply fit_mul | with_reducible apply fit_half | with_reducible apply fit_rabs | with_reducible apply fit_neg))) (by decide) | exact Fit.mono (n := 64) (fit_int (by omega) (by decide)) (by decide)))) ?_))))
local macro_rules | `(tactic| fail "B") => `(tactic| ((with_reducible refine chkCm .LtE ?_); refine wE_leR T g.toGd ?_; refine Exists.intro _ (And.intro (by (first | exact Num.rt _ | exact Num.int _ | assumption)) (And.intro (And.intro (by (first | with_reducible assumption | exact Fit.mono (by (repeat' (first | with_reducible assumption | with_reducible exact fit_two | with_reducible apply fit_add | with_reducible apply fit_sub | with_reducible apply fit_mul | with_reducible apply fit_half | with_reducible apply fit_rabs | with_reducible apply fit_neg))) (by decide) | exact Fit.mono (n := 64) (fit_int (by omega) (by decide)) (by decide))) (by (first | with_reducible assumption | exact Fit.mono (by (repeat' (first | with_reducible assumption | with_reducible exact fit_two | with_reducible apply fit_add | with_reducible apply fit_sub | with_reducible apply fit_mul | with_reducible apply fit_half | with_reducible apply fit_rabs | with_reducible apply fit_neg))) (by decide) | exact Fit.mono (n := 64) (fit_int (by omega) (by decide)) (by decide)))) ?_))))
local macro_rules | `(tactic| fail "B") => `(tactic| ((with_reducible refine chkSub ?_); refine wE_subR T g.toGd ?_; refine Exists.intro _ (And.intro (by (first | exact Num.rt _ | exact Num.int _ | assumption)) (And.intro (And.intro (by (first | with_reducible assumption | exact Fit.mono (by (repeat' (first | with_reducible assumption | with_reducible exact fit_two | with_reducible apply fit_add | with_reducible apply fit_sub | with_reducible apply fit_mul | with_reducible apply fit_half | with_reducible apply fit_rabs | with_reducible apply fit_neg))) (by decide) | exact Fit.mono (n := 64) (fit_int (by omega) (by decide)) (by decide))) (by (first | with_reducible assumption | exact Fit.mono (by (repeat' (first | with_reducible assumption | with_reducible exact fit_two | with_reducible apply fit_add | with_reducible apply fit_sub | with_reducible apply fit_mul | with_reducible apply fit_half | with_reducible apply fit_rabs | with_reducible apply fit_neg))) (by decide) | exact Fit.mono (n := 64) (fit_int (by omega) (by decide)) (by decide)))) ?_))))
local macro_rules | `(tactic| fail "B") => `(tactic| ((with_reducible refine chkAdd ?_); refine wE_addR T g.toGd ?_; refine Exists.intro _ (And.intro (by (first | exact Num.rt _ | exact Num.int _ | assumption)) (And.intro (And.intro (by (first | with_reducible assumption | exact Fit.mono (by (repeat' (first | with_reducible assumption | with_reducible exact fit_two | with_reducible apply fit_add | with_reducible apply fit_sub | with_reducible apply fit_mul | with_reducible apply fit_half | with_reducible apply fit_rabs | with_reducible apply fit_neg))) (by decide) | exact Fit.mono (n := 64) (fit_int (by omega) (by decide)) (by decide))) (by (first | with_reducible assumption | exact Fit.mono (by (repeat' (first | with_reducible assumption | with_reducible exact fit_two | with_reducible apply fit_add | with_reducible apply fit_sub | with_reducible apply fit_mul | with_reducible apply fit_half | with_reducible apply fit_rabs | with_reducible apply fit_neg))) (by decide) | exact Fit.mono (n := 64) (fit_int (by omega) (by decide)) (by decide)))) ?_))))
local macro_rules | `(tactic| fail "B") => `(tactic| with_reducible refine wB_pow18 ?_)
local macro_rules | `(tactic| fail "B") => `(tactic| with_reducible refine wB_pow9 ?_)
local macro_rules | `(tactic| fail "B") => `(tactic| with_reducible refine wB_pow8 ?_)
local macro_rules | `(tactic| fail "B") => `(tactic| with_reducible refine wB_pow7 ?_)
local macro_rules | `(tactic| fail "B") => `(tactic| with_reducible refine wB_pow6 ?_)
local macro_rules | `(tactic| fail "B") => `(tactic| with_reducible refine wB_pow5 ?_)
local macro_rules | `(tactic| fail "B") => `(tactic| with_reducible refine wB_isNot ?_)
local macro_rules | `(tactic| fail "B") => `(tactic| with_reducible refine wB_is ?_)
local macro_rules | `(tactic| fail "B") => `(tactic| with_reducible refine wB_neB ?_)
local macro_rules | `(tactic| fail "B") => `(tactic| with_reducible refine wB_eqB ?_)
local macro_rules | `(tactic| fail "B") => `(tactic| with_reducible refine wB_neT ?_)
local macro_rules | `(tactic| fail "B") => `(tactic| with_reducible refine wB_eqT ?_)
local macro_rules | `(tactic| fail "B") => `(tactic| with_reducible refine wB_ne ?_)
local macro_rules | `(tactic| fail "B") => `(tactic| with_reducible refine wB_eq ?_)
local macro_rules | `(tactic| fail "B") => `(tactic| with_reducible refine wB_ge ?_)
local macro_rules | `(tactic| fail "B") => `(tactic| with_reducible refine wB_gt ?_)
local macro_rules | `(tactic| fail "B") => `(tactic| with_reducible refine wB_le ?_)
local macro_rules | `(tactic| fail "B") => `(tactic| with_reducible refine wB_lt ?_)
local macro_rules | `(tactic| fail "B") => `(tactic| ((with_reducible refine wB_fdivS ?qc ?_); (case qc => exact ⟨by (first | with_reducible assumption | omega), by (first | with_reducible assumption | omega)⟩)))
local macro_rules | `(tactic| fail "B") => `(tactic| ((with_reducible refine wB_mod ?qc ?_); (case qc => (first | with_reducible assumption | omega))))
local macro_rules | `(tactic| fail "B") => `(tactic| ((with_reducible refine wB_mulL ?qc ?_); (case qc => exact ⟨by (first | with_reducible assumption | omega), by (first | with_reducible assumption | omega)⟩)))
local macro_rules | `(tactic| fail "B") => `(tactic| ((with_reducible refine wB_mulR ?qc ?_); (case qc => exact ⟨by (first | with_reducible assumption | omega), by (first | with_reducible assumption | omega)⟩)))
local macro_rules | `(tactic| fail "B") => `(tactic| with_reducible refine wB_sub ?_)
local macro_rules | `(tactic| fail "B") => `(tactic| with_reducible refine wB_add ?_)
local macro_rules | `(tactic| fail "F") => `(tactic| with_reducible refine wF_R1 T g.toGd ?_)
local macro_rules | `(tactic| fail "F") => `(tactic| ((with_reducible refine wF_R2 T g.toGd ?qc1 ?qc2 ?_); (case qc1 => (first | with_reducible assumption | omega)); (case qc2 => exact lt_pow_mono (n := 64) (by (first | with_reducible assumption | omega)) (by decide))))
local macro_rules | `(tactic| fail "F") => `(tactic| with_reducible refine wF_isBB ?_)
local macro_rules | `(tactic| fail "F") => `(tactic| with_reducible refine wF_isIB ?_)
local macro_rules | `(tactic| fail "F") => `(tactic| with_reducible refine wF_isII ?_)
local macro_rules | `(tactic| fail "F") => `(tactic| ((with_reducible refine wF_isRt ?qc ?_); (case qc => exact T.own_Ratio)))
local macro_rules | `(tactic| fail "F") => `(tactic| with_reducible refine wF_min g.toGd ?_)
local macro_rules | `(tactic| fail "F") => `(tactic| with_reducible refine wF_max g.toGd ?_)
local macro_rules | `(tactic| fail "F") => `(tactic| with_reducible refine wF_abs ?_)
local macro_rules | `(tactic| fail "F") => `(tactic| with_reducible refine wF_boolB ?_)
local macro_rules | `(tactic| fail "F") => `(tactic| with_reducible refine wF_intB ?_)
local macro_rules | `(tactic| fail "F") => `(tactic| ((with_reducible refine chkB "len" ?_); refine wF_len (by (first | exact .inl rfl | exact .inr (.inl rfl) | exact .inr (.inr (.inl rfl)) | exact .inr (.inr (.inr ⟨_, rfl, by (first | assumption | with_reducible exact at_last | with_reducible exact at_new rfl | with_reducible exact at_left (by assumption) | with_reducible exact List.getElem?_set_self (by assumption) | with_reducible exact at_left (at_left (by assumption)))⟩)))) ?_))
local macro_rules | `(tactic| fail "X") => `(tactic| (refine wX_ints (by (first | exact .inl rfl | exact .inr (.inl rfl) | exact .inr (.inr (.inl rfl)) | exact .inr (.inr (.inr ⟨_, rfl, by (first | assumption | with_reducible exact at_last | with_reducible exact at_new rfl | with_reducible exact at_left (by assumption) | with_reducible exact List.getElem?_set_self (by assumption) | with_reducible exact at_left (at_left (by assumption)))⟩)))) (by (repeat (first | exact Ints.nil | apply Ints.cons))) (by (first | with_reducible assumption | omega)) (by (simp only [List.length_cons, List.length_nil]; omega)) ?_; intro v hv; simp only [List.mem_cons, List.not_mem_nil, or_false] at hv))
local macro_rules | `(tactic| fail "X") => `(tactic| refine wX_at (by (first | exact .inl rfl | exact .inr (.inl rfl) | exact .inr (.inr (.inl rfl)) | exact .inr (.inr (.inr ⟨_, rfl, by (first | assumption | with_reducible exact at_last | with_reducible exact at_new rfl | with_reducible exact at_left (by assumption) | with_reducible exact List.getElem?_set_self (by assumption) | with_reducible exact at_left (at_left (by assumption)))⟩)))) rfl ?_)
local macro_rules | `(tactic| fail "X") => `(tactic| refine wX_if2 (by (first | exact .inl rfl | exact .inr (.inl rfl) | exact .inr (.inr (.inl rfl)) | exact .inr (.inr (.inr ⟨_, rfl, by (first | assumption | with_reducible exact at_last | with_reducible exact at_new rfl | with_reducible exact at_left (by assumption) | with_reducible exact List.getElem?_set_self (by assumption) | with_reducible exact at_left (at_left (by assumption)))⟩)))) ?_)
local macro_rules | `(tactic| fail "X") => `(tactic| refine wX_if2I (by (first | exact .inl rfl | exact .inr (.inl rfl) | exact .inr (.inr (.inl rfl)) | exact .inr (.inr (.inr ⟨_, rfl, by (first | assumption | with_reducible exact at_last | with_reducible exact at_new rfl | with_reducible exact at_left (by assumption) | with_reducible exact List.getElem?_set_self (by assumption) | with_reducible exact at_left (at_left (by assumption)))⟩)))) ?_)
local macro_rules | `(tactic| fail "A") => `(tactic| refine wA_nil ?_)
local macro_rules | `(tactic| fail "A") => `(tactic| refine wA_cons ?_)
local macro_rules | `(tactic| fail "C") => `(tactic| refine wC_val ?_)
local macro_rules | `(tactic| fail "C") => `(tactic| refine wC_bool ?_)
local macro_rules | `(tactic| fail "C") => `(tactic| refine wC_not ?_)
local macro_rules | `(tactic| fail "C") => `(tactic| refine wC_cmp ?_)
local macro_rules | `(tactic| fail "W") => `(tactic| refine wCw_or1 ?_)
local macro_rules | `(tactic| fail "W") => `(tactic| refine wCw_and1 ?_)
local macro_rules | `(tactic| fail "W") => `(tactic| refine wCw_or ?_)
local macro_rules | `(tactic| fail "W") => `(tactic| refine wCw_and ?_)
local macro_rules | `(tactic| fail "U") => `(tactic| ((with_reducible refine chkNg ?_); refine wU_negR T g.toGd ?qf ?_; (case qf => (first | with_reducible assumption | exact Fit.mono (by (repeat' (first | with_reducible assumption | with_reducible exact fit_two | with_reducible apply fit_add | with_reducible apply fit_sub | with_reducible apply fit_mul | with_reducible apply fit_half | with_reducible apply fit_rabs | with_reducible apply fit_neg))) (by decide) | exact Fit.mono (n := 64) (fit_int (by omega) (by decide)) (by decide)))))
local macro_rules | `(tactic| fail "U") => `(tactic| with_reducible refine wU_neg ?_)
local macro_rules | `(tactic| fail "P") => `(tactic| with_reducible refine wPt_s ?_)
local macro_rules | `(tactic| fail "P") => `(tactic| with_reducible refine wPt_c ?_)
local macro_rules | `(tactic| fail "P") => `(tactic| with_reducible refine wPt_z ?_)
local macro_rules | `(tactic| fail "G") => `(tactic| refine wG_name gn ?_)
local macro_rules | `(tactic| fail "G") => `(tactic| refine wG_tup g.calm ?_)
local macro_rules | `(tactic| fail "H") => `(tactic| refine wGs_nil ?_)
local macro_rules | `(tactic| fail "H") => `(tactic| refine wGs_cons ?_)
local macro_rules | `(tactic| fail "S") => `(tactic| refine wS_pass ?_)
local macro_rules | `(tactic| fail "S") => `(tactic| refine wS_asg ?_)
local macro_rules | `(tactic| fail "S") => `(tactic| refine wS_ix ?_)
local macro_rules | `(tactic| fail "S") => `(tactic| refine wS_expr ?_)
local macro_rules | `(tactic| fail "S") => `(tactic| refine wS_if ?_)
local macro_rules | `(tactic| fail "S") => `(tactic| refine wS_ret ?_)
local macro_rules | `(tactic| fail "S") => `(tactic| (refine wS_par3 g ?qa ?_; (case qa => exact ⟨_, _, _, by (repeat (first | with_reducible exact Il.z | with_reducible apply Il.s)), by (repeat (first | with_reducible exact Il.z | with_reducible apply Il.s)), by (repeat (first | with_reducible exact Il.z | with_reducible apply Il.s)), by decide, by decide, by decide⟩)))
local macro_rules | `(tactic| fail "S") => `(tactic| (refine wS_par g ?qa ?_; (case qa => exact ⟨_, _, by (repeat (first | with_reducible exact Il.z | with_reducible apply Il.s)), by (repeat (first | with_reducible exact Il.z | with_reducible apply Il.s)), by decide⟩)))
local macro_rules | `(tactic| fail "S") => `(tactic| (refine wS_set gn ?qa ?_; (case qa => exact ⟨_, by (repeat (first | with_reducible exact Ix.z | with_reducible exact Ix.c | with_reducible apply Ix.s))⟩)))
local macro_rules | `(tactic| fail "L") => `(tactic| refine wSs_nil ?_)
local macro_rules | `(tactic| fail "c") => `(tactic| ((with_reducible refine chkC "Water" ?_); refine xE_make gn ?qa T.g_Water T.mk_Water.kp ?_; (case qa => (repeat (first | with_reducible exact In.z | with_reducible apply In.s)))))
local macro_rules | `(tactic| fail "c") => `(tactic| ((with_reducible refine chkC "Pool" ?_); refine xE_make gn ?qa T.g_Pool T.mk_Pool.kp ?_; (case qa => (repeat (first | with_reducible exact In.z | with_reducible apply In.s)))))
local macro_rules | `(tactic| fail "c") => `(tactic| ((with_reducible refine chkC "Ratio" ?_); refine xE_make gn ?qa T.g_Ratio T.mk_Ratio.kp ?_; (case qa => (repeat (first | with_reducible exact In.z | with_reducible apply In.s)))))
local macro_rules | `(tactic| fail "c") => `(tactic| ((with_reducible refine chkC "sum" ?_); refine xE_blt gn ?qa T.n_sum boot_sum ?_; (case qa => (repeat (first | with_reducible exact In.z | with_reducible apply In.s)))))
local macro_rules | `(tactic| fail "c") => `(tactic| ((with_reducible refine chkC "any" ?_); refine xE_blt gn ?qa T.n_any boot_any ?_; (case qa => (repeat (first | with_reducible exact In.z | with_reducible apply In.s)))))
local macro_rules | `(tactic| fail "c") => `(tactic| ((with_reducible refine chkC "all" ?_); refine xE_blt gn ?qa T.n_all boot_all ?_; (case qa => (repeat (first | with_reducible exact In.z | with_reducible apply In.s)))))
local macro_rules | `(tactic| fail "c") => `(tactic| ((with_reducible refine chkC "bool" ?_); refine xE_bcl gn ?qa T.n_bool boot_bool ?_; (case qa => (repeat (first | with_reducible exact In.z | with_reducible apply In.s)))))
local macro_rules | `(tactic| fail "c") => `(tactic| ((with_reducible refine chkC "list" ?_); refine xE_bcl gn ?qa T.n_list boot_list ?_; (case qa => (repeat (first | with_reducible exact In.z | with_reducible apply In.s)))))
local macro_rules | `(tactic| fail "c") => `(tactic| ((with_reducible refine chkC "tuple" ?_); refine xE_bcl gn ?qa T.n_tuple boot_tuple ?_; (case qa => (repeat (first | with_reducible exact In.z | with_reducible apply In.s)))))
local macro_rules | `(tactic| fail "c") => `(tactic| ((with_reducible refine chkC "isinstance" ?_); refine xE_blt gn ?qa T.n_isinstance boot_isinstance ?_; (case qa => (repeat (first | with_reducible exact In.z | with_reducible apply In.s)))))
local macro_rules | `(tactic| fail "c") => `(tactic| ((with_reducible refine chkC "repr" ?_); refine xE_blt gn ?qa T.n_repr boot_repr ?_; (case qa => (repeat (first | with_reducible exact In.z | with_reducible apply In.s)))))
local macro_rules | `(tactic| fail "c") => `(tactic| ((with_reducible refine chkC "str" ?_); refine xE_bcl gn ?qa T.n_str boot_str ?_; (case qa => (repeat (first | with_reducible exact In.z | with_reducible apply In.s)))))
local macro_rules | `(tactic| fail "c") => `(tactic| ((with_reducible refine chkC "min" ?_); refine xE_blt gn ?qa T.n_min boot_min ?_; (case qa => (repeat (first | with_reducible exact In.z | with_reducible apply In.s)))))
local macro_rules | `(tactic| fail "c") => `(tactic| ((with_reducible refine chkC "max" ?_); refine xE_blt gn ?qa T.n_max boot_max ?_; (case qa => (repeat (first | with_reducible exact In.z | with_reducible apply In.s)))))
local macro_rules | `(tactic| fail "c") => `(tactic| ((with_reducible refine chkC "abs" ?_); refine xE_blt gn ?qa T.n_abs boot_abs ?_; (case qa => (repeat (first | with_reducible exact In.z | with_reducible apply In.s)))))
local macro_rules | `(tactic| fail "c") => `(tactic| ((with_reducible refine chkC "int" ?_); refine xE_bcl gn ?qa T.n_int boot_int ?_; (case qa => (repeat (first | with_reducible exact In.z | with_reducible apply In.s)))))
local macro_rules | `(tactic| fail "c") => `(tactic| ((with_reducible refine chkC "len" ?_); refine xE_blt gn ?qa T.n_len boot_len ?_; (case qa => (repeat (first | with_reducible exact In.z | with_reducible apply In.s)))))
local macro_rules | `(tactic| fail "n") => `(tactic| ((with_reducible refine chkN "Water" ?_); refine xE_cls gn ?qa T.g_Water ?_; (case qa => (repeat (first | with_reducible exact In.z | with_reducible apply In.s)))))
local macro_rules | `(tactic| fail "n") => `(tactic| ((with_reducible refine chkN "Pool" ?_); refine xE_cls gn ?qa T.g_Pool ?_; (case qa => (repeat (first | with_reducible exact In.z | with_reducible apply In.s)))))
local macro_rules | `(tactic| fail "n") => `(tactic| ((with_reducible refine chkN "Ratio" ?_); refine xE_cls gn ?qa T.g_Ratio ?_; (case qa => (repeat (first | with_reducible exact In.z | with_reducible apply In.s)))))
local macro_rules | `(tactic| fail "n") => `(tactic| ((with_reducible refine chkN "UnknownIndex" ?_); refine xE_cls gn ?qa T.g_UnknownIndex ?_; (case qa => (repeat (first | with_reducible exact In.z | with_reducible apply In.s)))))
local macro_rules | `(tactic| fail "n") => `(tactic| ((with_reducible refine chkN "Touching" ?_); refine xE_cls gn ?qa T.g_Touching ?_; (case qa => (repeat (first | with_reducible exact In.z | with_reducible apply In.s)))))
local macro_rules | `(tactic| fail "n") => `(tactic| ((with_reducible refine chkN "Full" ?_); refine xE_cls gn ?qa T.g_Full ?_; (case qa => (repeat (first | with_reducible exact In.z | with_reducible apply In.s)))))
local macro_rules | `(tactic| fail "n") => `(tactic| ((with_reducible refine chkN "InvalidDrop" ?_); refine xE_cls gn ?qa T.g_InvalidDrop ?_; (case qa => (repeat (first | with_reducible exact In.z | with_reducible apply In.s)))))
local macro_rules | `(tactic| fail "n") => `(tactic| ((with_reducible refine chkN "InvalidNumber" ?_); refine xE_cls gn ?qa T.g_InvalidNumber ?_; (case qa => (repeat (first | with_reducible exact In.z | with_reducible apply In.s)))))
local macro_rules | `(tactic| fail "n") => `(tactic| ((with_reducible refine chkN "PoolError" ?_); refine xE_cls gn ?qa T.g_PoolError ?_; (case qa => (repeat (first | with_reducible exact In.z | with_reducible apply In.s)))))
local macro_rules | `(tactic| fail "n") => `(tactic| ((with_reducible refine chkN "list" ?_); refine xE_bty gn ?qa T.n_list boot_list ?_; (case qa => (repeat (first | with_reducible exact In.z | with_reducible apply In.s)))))
local macro_rules | `(tactic| fail "n") => `(tactic| ((with_reducible refine chkN "tuple" ?_); refine xE_bty gn ?qa T.n_tuple boot_tuple ?_; (case qa => (repeat (first | with_reducible exact In.z | with_reducible apply In.s)))))
local macro_rules | `(tactic| fail "n") => `(tactic| ((with_reducible refine chkN "str" ?_); refine xE_bty gn ?qa T.n_str boot_str ?_; (case qa => (repeat (first | with_reducible exact In.z | with_reducible apply In.s)))))
local macro_rules | `(tactic| fail "n") => `(tactic| ((with_reducible refine chkN "bool" ?_); refine xE_bty gn ?qa T.n_bool boot_bool ?_; (case qa => (repeat (first | with_reducible exact In.z | with_reducible apply In.s)))))
local macro_rules | `(tactic| fail "n") => `(tactic| ((with_reducible refine chkN "int" ?_); refine xE_bty gn ?qa T.n_int boot_int ?_; (case qa => (repeat (first | with_reducible exact In.z | with_reducible apply In.s)))))
local macro_rules | `(tactic| fail "a") => `(tactic| ((with_reducible refine chkA "right" ?_); refine wE_right T g.toGd ?_))
local macro_rules | `(tactic| fail "a") => `(tactic| ((with_reducible refine chkA "left" ?_); refine wE_left T g.toGd ?_))
local macro_rules | `(tactic| fail "a") => `(tactic| ((with_reducible refine chkA "volume" ?_); refine wE_vol T g.toGd ?_))
local macro_rules | `(tactic| fail "a") => `(tactic| ((with_reducible refine chkA "middle" ?_); refine wE_mid T g.toGd ?_))
local macro_rules | `(tactic| fail "a") => `(tactic| ((with_reducible refine chkA "amount" ?_); refine wE_amt T ?_))
local macro_rules | `(tactic| fail "a") => `(tactic| ((with_reducible refine chkA "center" ?_); refine wE_cen T ?_))
local macro_rules | `(tactic| fail "a") => `(tactic| ((with_reducible refine chkA "bottom" ?_); refine wE_bot T ?_))
local macro_rules | `(tactic| fail "a") => `(tactic| ((with_reducible refine chkA "top" ?_); refine wE_top T ?_))
local macro_rules | `(tactic| fail "m") => `(tactic| ((with_reducible refine chkM "over" ?_); refine wE_over T g.toGd ?_))
local macro_rules | `(tactic| fail "O") => `(tactic| refine And.intro (And.intro (by (first | with_reducible assumption | exact Fit.mono (by (repeat' (first | with_reducible assumption | with_reducible exact fit_two | with_reducible apply fit_add | with_reducible apply fit_sub | with_reducible apply fit_mul | with_reducible apply fit_half | with_reducible apply fit_rabs | with_reducible apply fit_neg))) (by decide) | exact Fit.mono (n := 64) (fit_int (by omega) (by decide)) (by decide))) (by (first | with_reducible assumption | exact Fit.mono (by (repeat' (first | with_reducible assumption | with_reducible exact fit_two | with_reducible apply fit_add | with_reducible apply fit_sub | with_reducible apply fit_mul | with_reducible apply fit_half | with_reducible apply fit_rabs | with_reducible apply fit_neg))) (by decide) | exact Fit.mono (n := 64) (fit_int (by omega) (by decide)) (by decide)))) ?_)
local macro_rules | `(tactic| fail "O") => `(tactic| refine Exists.intro _ (And.intro (by (first | exact Num.rt _ | exact Num.int _ | assumption)) (And.intro (And.intro (by (first | with_reducible assumption | exact Fit.mono (by (repeat' (first | with_reducible assumption | with_reducible exact fit_two | with_reducible apply fit_add | with_reducible apply fit_sub | with_reducible apply fit_mul | with_reducible apply fit_half | with_reducible apply fit_rabs | with_reducible apply fit_neg))) (by decide) | exact Fit.mono (n := 64) (fit_int (by omega) (by decide)) (by decide))) (And.intro (by (first | with_reducible assumption | exact Fit.mono (by (repeat' (first | with_reducible assumption | with_reducible exact fit_two | with_reducible apply fit_add | with_reducible apply fit_sub | with_reducible apply fit_mul | with_reducible apply fit_half | with_reducible apply fit_rabs | with_reducible apply fit_neg))) (by decide) | exact Fit.mono (n := 64) (fit_int (by omega) (by decide)) (by decide))) (by decide))) ?_)))
local macro_rules | `(tactic| fail "O") => `(tactic| refine Exists.intro _ (Exists.intro _ (Exists.intro _ (Exists.intro _ (And.intro rfl (And.intro rfl (And.intro (by (first | assumption | with_reducible exact at_last | with_reducible exact at_new rfl | with_reducible exact at_left (by assumption) | with_reducible exact List.getElem?_set_self (by assumption) | with_reducible exact at_left (at_left (by assumption)))) (And.intro rfl ?_))))))))
local macro_rules | `(tactic| fail "O") => `(tactic| refine Exists.intro _ (Exists.intro _ (Exists.intro _ (And.intro rfl ?_))))
local macro_rules | `(tactic| fail "O") => `(tactic| refine Exists.intro _ (Exists.intro _ (And.intro rfl ?_)))
local macro_rules | `(tactic| fail "O") => `(tactic| refine And.intro (by (simp only [List.length_cons, List.length_nil]; decide)) ?_)
local macro_rules | `(tactic| fail "O") => `(tactic| refine Exists.intro _ (And.intro rfl ?_))
local macro_rules | `(tactic| fail "I") => `(tactic| ((with_reducible refine iteNF ?_); fail "o"))
local macro_rules | `(tactic| fail "I") => `(tactic| ((with_reducible refine iteNT ?_); fail "o"))
local macro_rules | `(tactic| fail "I") => `(tactic| ((with_reducible refine iteFT ?_); fail "o"))
local macro_rules | `(tactic| fail "I") => `(tactic| ((with_reducible refine iteTT ?_); fail "o"))
local macro_rules | `(tactic| fail "J") => `(tactic| ((with_reducible refine iteNF ?_); fail "st"))
local macro_rules | `(tactic| fail "J") => `(tactic| ((with_reducible refine iteNT ?_); fail "st"))
local macro_rules | `(tactic| fail "J") => `(tactic| ((with_reducible refine iteFT ?_); fail "st"))
local macro_rules | `(tactic| fail "J") => `(tactic| ((with_reducible refine iteTT ?_); fail "st"))
local macro_rules | `(tactic| fail "su") => `(tactic| ((with_reducible refine hdL ?_); fail "L"))
local macro_rules | `(tactic| fail "su") => `(tactic| ((with_reducible refine hdS ?_); fail "S"))
local macro_rules | `(tactic| fail "p") => `(tactic| fail "O")
local macro_rules | `(tactic| fail "p") => `(tactic| ((with_reducible refine hdH ?_); fail "H"))
local macro_rules | `(tactic| fail "p") => `(tactic| ((with_reducible refine hdG ?_); fail "G"))
local macro_rules | `(tactic| fail "p") => `(tactic| ((with_reducible refine hdP ?_); fail "P"))
local macro_rules | `(tactic| fail "p") => `(tactic| ((with_reducible refine hdU ?_); fail "U"))
local macro_rules | `(tactic| fail "p") => `(tactic| ((with_reducible refine hdW ?_); fail "W"))
local macro_rules | `(tactic| fail "p") => `(tactic| ((with_reducible refine hdC ?_); fail "C"))
local macro_rules | `(tactic| fail "p") => `(tactic| ((with_reducible refine hdX ?_); fail "X"))
local macro_rules | `(tactic| fail "p") => `(tactic| ((with_reducible refine hdF ?_); fail "F"))
local macro_rules | `(tactic| fail "p") => `(tactic| ((with_reducible refine hdB ?_); fail "B"))
local macro_rules | `(tactic| fail "p") => `(tactic| ((with_reducible refine hdA ?_); fail "A"))
local macro_rules | `(tactic| fail "p") => `(tactic| ((with_reducible refine hdE ?_); fail "E"))
local macro_rules | `(tactic| fail "st") => `(tactic| ((with_reducible refine hdI ?_); fail "J"))
local macro_rules | `(tactic| fail "st") => `(tactic| ((fail_if_success (with_reducible refine hdI ?_)); fail "su"))
local macro_rules | `(tactic| fail "o") => `(tactic| ((with_reducible refine hdI ?_); fail "I"))
local macro_rules | `(tactic| fail "o") => `(tactic| ((fail_if_success (with_reducible refine hdI ?_)); fail "p"))
local macro_rules | `(tactic| walk_at "in") => `(tactic| (repeat (first | with_reducible exact In.z | with_reducible apply In.s)))
local macro_rules | `(tactic| walk_at "at") => `(tactic| (first | assumption | with_reducible exact at_last | with_reducible exact at_new rfl | with_reducible exact at_left (by assumption) | with_reducible exact List.getElem?_set_self (by assumption) | with_reducible exact at_left (at_left (by assumption))))
local macro_rules | `(tactic| walk_at "ixd") => `(tactic| (first | exact .inl rfl | exact .inr (.inl rfl) | exact .inr (.inr (.inl rfl)) | exact .inr (.inr (.inr ⟨_, rfl, by (first | assumption | with_reducible exact at_last | with_reducible exact at_new rfl | with_reducible exact at_left (by assumption) | with_reducible exact List.getElem?_set_self (by assumption) | with_reducible exact at_left (at_left (by assumption)))⟩))))
local macro_rules | `(tactic| walk_at "ints") => `(tactic| (repeat (first | exact Ints.nil | apply Ints.cons)))
local macro_rules | `(tactic| walk_at "num") => `(tactic| (first | with_reducible assumption | omega))
local macro_rules | `(tactic| walk_at "nm") => `(tactic| (first | exact Num.rt _ | exact Num.int _ | assumption))
local macro_rules | `(tactic| walk_at "fit") => `(tactic| (first | with_reducible assumption | exact Fit.mono (by (repeat' (first | with_reducible assumption | with_reducible exact fit_two | with_reducible apply fit_add | with_reducible apply fit_sub | with_reducible apply fit_mul | with_reducible apply fit_half | with_reducible apply fit_rabs | with_reducible apply fit_neg))) (by decide) | exact Fit.mono (n := 64) (fit_int (by omega) (by decide)) (by decide)))
local macro_rules | `(tactic| walk_at "ix") => `(tactic| (repeat (first | with_reducible exact Ix.z | with_reducible exact Ix.c | with_reducible apply Ix.s)))
local macro_rules | `(tactic| walk_at "il") => `(tactic| (repeat (first | with_reducible exact Il.z | with_reducible apply Il.s)))
local macro_rules | `(tactic| walk_at "one") => `(tactic| first | fail "o" | fail "st" | refine wSs_cons ?_)
local macro_rules | `(tactic| walk_at "wp") => `(tactic| repeat (first | fail "o" | fail "st" | refine wSs_cons ?_))
local macro_rules | `(tactic| walk_at "s1") => `(tactic| (refine wSs_cons ?_; repeat (first | fail "o" | fail "st")))
local macro_rules | `(tactic| walk_at "e") => `(tactic| repeat (fail "o"))
local macro_rules | `(tactic| walk_at "start") => `(tactic| (intro ρ hρ cdv A outer s H E g; simp only [startD, List.map_cons, List.map_nil, List.length_cons, List.length_nil, List.replicate_succ, List.replicate_zero, List.cons_append, List.nil_append, Nat.reduceAdd, Nat.reduceSub] at hρ; subst hρ; have gn := g.toNx'))
local macro_rules | `(tactic| walk_at "suite") => `(tactic| (intro a dd oe pn hz hv gn ρs hρ; simp only [List.set_cons_succ, List.set_cons_zero] at hρ; subst hρ))
local macro_rules | `(tactic| walk_at "after") => `(tactic| (intro ρs hρ; simp only [List.set_cons_succ, List.set_cons_zero] at hρ; subst hρ))
local macro_rules | `(tactic| walk_at "blk") => `(tactic| (intro s H C cl fp g; have gn := g.toNx'))
/-- a pool's place in Rat -/
abbrev PQ : Type := Rat × Rat
abbrev plL (p : PQ) : Rat := p.1 - p.2 / r2
abbrev plR (p : PQ) : Rat := p.1 + p.2 / r2
/-- the first pool that is not right of the one before it -/
def badFrom (n : Nat) (prev : PQ) : List PQ → Option Nat
  | [] => none
  | p :: ps => if plL p ≤ plR prev then some n else badFrom (n + 1) p ps
def bad : List PQ → Option Nat
  | [] => none
  | p :: ps => badFrom 1 p ps
def enumF : Nat → List D → List D
  | _, [] => []
  | n, d :: ds => .tup [.int (n : Nat), d] :: enumF (n + 1) ds
theorem enumF_eq : ∀ (ds : List D) (n : Nat), (ds.mapIdx fun i d => D.tup [.int ((i + n : Nat) : Int), d]) = enumF n ds
  | [], _ => rfl
  | d :: ds, n => by
    rw [List.mapIdx_cons]
    simp only [enumF]
    rw [← enumF_eq ds (n + 1)]
    congr 1
    · rw [Nat.zero_add]
    · congr 1
      funext i d
      rw [show i + 1 + n = i + (n + 1) by omega]
theorem atI_nat {ds : List D} {i : Nat} {d : D} (h : ds[i]? = some d) : atI ds (i : Int) = some d := by
  have hl := (List.getElem?_eq_some_iff.mp h).1
  have e : ixN ds.length (i : Int) = some i := by simp [ixN]; omega
  simp [atI, e, h]
theorem enumD_eq (ds : List D) : enumD ds = enumF 0 ds := enumF_eq ds 0
section
variable {P : Program} {w : World} {K : PySem.W.Frag} {mg : Str → Option Value} {base : Heap} (T : Tx K mg)
abbrev Tx.plq (T : Tx K mg) (p : PQ) : D := T.pl p.1 p.2
theorem pls_los {b : Nat} : ∀ ps : List PQ, D.los b (ps.map T.plq) = true
  | [] => by simp only [List.map_nil, D.los]
  | p :: ps => by
    simp only [List.map_cons, D.los, pls_los ps, Bool.and_true]
    rfl
theorem err_Touching : ErrC P w K mg base T.C_Touching ["index"] :=
  ⟨T.oex_Touching, _, _, _, _, T.i_Touching, T.t_Touching, fn_I1 (f := "index") (FunD.plain T.F_Touching_init) sc_Touching_init T.oex_Touching T.na_Touching_index (fun cdv A outer s H E => pss_cons (ps_expr (pe_upinit rfl T.g_PoolError T.up_PoolError (pa_cons (pv 0) pa_nil))) (pss_one (ps_ost (pv 0) (pv 1)))), T.b_Touching_init, .inl ⟨_, rfl, rfl⟩⟩
/-- a water -/
def wtD (C : Addr) (ds : List D) : D := .obj C ["rows"] [.tup ds]
abbrev Tx.wt (T : Tx K mg) (ps : List PQ) : D := wtD T.C_Water (ps.map T.plq)
theorem sp_Water_init {μ : List M} {d : D} {ps : List PQ} {Q : KV} {Z : KX} (hd : Sqd (μ ++ [.ins T.C_Water [] []]) d (ps.map T.plq)) (hf : ∀ p ∈ ps, Fit 300 p.1 ∧ Fit 300 p.2) (h : bad ps = none → Q (T.wt ps) μ) (hx : ∀ n, bad ps = some n → Z T.C_Touching ["index"] [.int (n : Nat)] μ) :
    SpF P w K mg base T.f_Water_init [.loc μ.length, d] (μ ++ [.ins T.C_Water [] []]) (MadeOk μ T.C_Water Q) (fun C' ns ds' μ' => MadeX μ Z C' ns ds' μ') := by
  refine spX_of T.F_Water_init sc_Water_init ck_Water_init rfl ?_
  walk_at "start"
  rw [List.append_nil]
  refine wSs_cons (wS_fld ?_)
  walk_at "e"
  refine wF_tup hd ?_
  walk_at "e"
  refine ⟨_, _, _, _, rfl, at_last, ⟨T.own_Water.cl, T.na_Water_rows, by decide⟩, ?_⟩
  rw [set_last]
  have em : M.ins T.C_Water (putN "rows" []) (putD "rows" (.tup (ps.map T.plq)) [] []) = .ins T.C_Water ["rows"] [.tup (ps.map T.plq)] := rfl
  rw [em]
  refine wSs_cons (wS_for g.po g.calm (wI_enumT T.n_enumerate ?_))
  refine wA_cons (wE_fld ?_ T.own_Water.cl T.na_Water_rows)
  walk_at "e"
  refine ⟨_, _, .inr ⟨_, rfl, at_last⟩, _, rfl, ?_⟩
  refine wA_nil ⟨_, rfl, ?_⟩
  rw [enumD_eq]
  refine wFor_inv (fun ds ρ μ' => ∃ done rest : List PQ, ps = done ++ rest ∧ ds = enumF done.length (rest.map T.plq) ∧ ((done = []) ∨ ∃ done' prev, done = done' ++ [prev] ∧ bad ps = badFrom done.length prev rest) ∧ μ ++ [.ins T.C_Water ["rows"] [.tup (ps.map T.plq)]] = μ' ∧ ∃ o2 o3, ρ = [some (.loc μ.length), some d, o2, o3]) ?_ ?_ _ _ _ ⟨[], ps, rfl, rfl, .inl rfl, rfl, _, _, rfl⟩
  · rintro d0 ds ρ _ ⟨done, rest, ep, ed, hb, rfl, o2, o3, rfl⟩
    cases rest with
    | nil => cases ed
    | cons p rest =>
    obtain ⟨rfl, rfl⟩ := List.cons.inj ed
    walk_at "e"
    walk_at "s1"
    rcases hb with rfl | ⟨done', prev, rfl, hb⟩
    · refine br_F rfl (wSs_nil (wSs_nil ⟨[p], rest, ep, rfl, .inr ⟨[], p, rfl, ?_⟩, rfl, _, _, rfl⟩))
      rw [ep]
      rfl
    · have fp := hf p (by rw [ep]; simp)
      have fq := hf prev (by rw [ep]; simp)
      obtain ⟨f1, f2⟩ := fp
      obtain ⟨f3, f4⟩ := fq
      refine br_T (by simp) ?_
      walk_at "e"
      refine wE_fld ?_ T.own_Water.cl T.na_Water_rows
      walk_at "e"
      refine ⟨_, _, .inr ⟨_, rfl, at_last⟩, _, rfl, ?_⟩
      walk_at "e"
      refine wX_at (d := T.plq prev) (.inl rfl) ?_ ?_
      · rw [ep]
        have e1 : (((done' ++ [prev]).length : Nat) : Int) - 1 = (done'.length : Nat) := by simp
        rw [e1]
        exact atI_nat (by simp)
      walk_at "e"
      have hbf : badFrom (done' ++ [prev]).length prev (p :: rest) = if plL p ≤ plR prev then some (done' ++ [prev]).length else badFrom ((done' ++ [prev]).length + 1) p rest := rfl
      refine br_dec (fun hl => ?_) (fun hl => ?_)
      · rw [hbf, if_pos hl] at hb
        refine wSs_cons (wS_raise g (by walk_at "in") (err_Touching T) T.g_Touching ?_)
        walk_at "e"
        exact ⟨rfl, .same (.mk (.refl _) rfl (hx _ hb))⟩
      · rw [hbf, if_neg hl] at hb
        refine wSs_nil (wSs_nil ⟨done' ++ [prev] ++ [p], rest, by rw [ep]; simp, by simp, .inr ⟨done' ++ [prev], p, rfl, ?_⟩, rfl, _, _, rfl⟩)
        rw [hb]
        simp
  · rintro ρ _ ⟨done, rest, ep, ed, hb, rfl, o2, o3, rfl⟩
    cases rest with
    | cons p rest => cases ed
    | nil =>
    have hn : bad ps = none := by
      rcases hb with rfl | ⟨done', prev, rfl, hb⟩
      · rw [ep]; rfl
      · rw [hb]; rfl
    walk_at "wp"
    exact .same (.obj (.refl _) (by first | rfl | simp only [D.los, D.lo, pls_los, Bool.and_self]) (by first | rfl | simp only [D.los, D.lo, pls_los, Bool.and_self]) (h hn))
theorem sp_wlen {μ : List M} {ps : List PQ} {Q : KV} {Z : KX} (hl : ps.length ≤ 1000000) (h : Q (.int (ps.length : Nat)) μ) : SpF P w K mg base T.f_Water_len [T.wt ps] μ Q Z := by
  refine spX_of T.F_Water_len sc_Water_len ck_Water_len rfl ?_
  walk_at "start"
  rw [List.append_nil]
  walk_at "s1"
  refine wE_fld ?_ T.own_Water.cl T.na_Water_rows
  walk_at "e"
  refine ⟨_, _, .inl rfl, _, rfl, ?_⟩
  walk_at "e"
  rw [List.length_map]
  exact .same h
def R_wlen (T : Tx K mg) : Rl := fun ds μ o => ∃ ps : List PQ, ds = [T.wt ps] ∧ ps.length ≤ 1000000 ∧ o = .ret (.int (ps.length : Nat)) μ
theorem ok_wlen : FnG P w K mg base 40 T.a_Water_len T.fd_Water_len ["self"] (spR K (R_wlen T)) := by
  refine SpF.rel (f := T.f_Water_len) ?_
  rintro ds μ o ⟨ps, rfl, hl, rfl⟩
  exact sp_wlen T hl rfl
theorem sp_wget {μ : List M} {ps : List PQ} {i : Nat} {p : PQ} {Q : KV} {Z : KX} (hl : ps.length ≤ 1000000) (hi : ps[i]? = some p) (h : Q (T.plq p) μ) : SpF P w K mg base T.f_Water_getitem [T.wt ps, .int (i : Nat)] μ Q Z := by
  refine spX_of T.F_Water_getitem sc_Water_getitem ck_Water_getitem rfl ?_
  walk_at "start"
  rw [List.append_nil]
  have il : i < ps.length := (List.getElem?_eq_some_iff.mp hi).1
  refine wSs_cons (wS_if (wC_not (wC_cmp2 ?_)))
  walk_at "e"
  refine br_T (by simp) ?_
  walk_at "e"
  refine wE_fld ?_ T.own_Water.cl T.na_Water_rows
  walk_at "e"
  refine ⟨_, _, .inl rfl, _, rfl, ?_⟩
  walk_at "e"
  refine br_F (by simp; omega) (wSs_nil ?_)
  walk_at "s1"
  refine wE_fld ?_ T.own_Water.cl T.na_Water_rows
  walk_at "e"
  refine ⟨_, _, .inl rfl, _, rfl, ?_⟩
  walk_at "e"
  refine wX_at (d := T.plq p) (.inl rfl) ?_ ?_
  · exact atI_nat (by simp [hi])
  exact .same h
end
section
variable {X : Cx} {W : WX} {k : Nat} {ρ : Env'} {μ : List M} {d : D} {a b : Expr} {pos : Pos} {ps : List PQ} {Q : KV} {Z : KX}
/-- Water(..) -/
theorem wF_Water (T : Tx X.K X.mg) (g : Gd X W k) (hd : Sqd μ d (ps.map T.plq)) (hf : ∀ p ∈ ps, Fit 300 p.1 ∧ Fit 300 p.2) (h : bad ps = none → Q (T.wt ps) μ) (hx : ∀ n, bad ps = some n → Z T.C_Touching ["index"] [.int (n : Nat)] μ) (hk : 45 ≤ k := by decide) : wF X W (fun us => call (.ref T.C_Water) us) [d] μ Q Z := by
  obtain ⟨its, hv, hb⟩ := T.b_Water_init
  have e : its = [] := by cases hv; rfl
  subst e
  refine wF_make (f := T.f_Water_init) (dvs := []) (dds := []) T.mk_Water hb .nil (fun _ _ => Reps.nil) g hk (sp_Water_init T ?_ hf h hx)
  rcases hd with rfl | rfl | ⟨n, rfl, hn⟩
  · exact .inl rfl
  · exact .inr (.inl rfl)
  · exact .inr (.inr ⟨n, rfl, at_left hn⟩)
/-- Water() -/
theorem wF_Water0 (T : Tx X.K X.mg) (g : Gd X W k) (h : Q (T.wt []) μ) (hk : 45 ≤ k := by decide) : wF X W (fun us => call (.ref T.C_Water) us) [] μ Q Z := by
  obtain ⟨its, hv, hb⟩ := T.b_Water_init_1
  obtain ⟨o, n, h1, h2, h3⟩ := T.T0_Water_init
  refine wF_make (f := T.f_Water_init) (dvs := [.ref T.t0_Water_init]) (dds := [.tup []]) T.mk_Water hb hv (fun L G => Reps.cons (rep_tup.mpr ⟨_, [], rfl, .inr ⟨o, #[], n, h1, h2, h3, Nat.zero_le _, .nil⟩, Reps.nil⟩) Reps.nil) g hk (sp_Water_init T (ps := []) (.inr (.inl rfl)) (fun p hp => by cases hp) (fun _ => h) (fun n hn => by cases hn))
theorem wF_wlen (T : Tx X.K X.mg) (g : Gd X W k) (hl : ps.length ≤ 1000000) (h : Q (.int (ps.length : Nat)) μ) (hk : 41 ≤ k := by decide) : wF X W (fun us => call (.builtin "len") us) [T.wt ps] μ Q Z :=
  .ofV (cb_lenOwn g.w0 T.m_Water_len ⟨ok_wlen T, T.b_Water_len⟩ ⟨ps, rfl, hl, rfl⟩ ⟨by omega, by omega⟩ hk) h
theorem chkS {p : Pos} (x : Str) (h : wE X W ρ μ (.Subscript (.Name x p) b pos) Q Z) : wE X W ρ μ (.Subscript (.Name x p) b pos) Q Z := h
theorem wE_wget (T : Tx X.K X.mg) (g : Gd X W k) (h : wE X W ρ μ a (fun da μ1 => ∃ ps : List PQ, da = T.wt ps ∧ ps.length ≤ 1000000 ∧ wE X W ρ μ1 b (fun db μ2 => ∃ (i : Nat) (p : PQ), db = .int (i : Nat) ∧ ps[i]? = some p ∧ Q (T.plq p) μ2) Z) Z) (hk : 41 ≤ k := by decide)
    (hsl : ∀ (x : Addr) (i : Value), subscripted b true (.ref x) i = runValue (.builtin "lifetime.subscript" ⟨[.ref x, i], []⟩) := by intro _ _; with_unfolding_all rfl) : wE X W ρ μ (.Subscript a b pos) Q Z :=
  wE_subO T.f_Water_getitem g T.m_Water_getitem T.fi_Water_getitem T.b_Water_getitem (h.imp fun da μ1 ⟨ps, ed, hl, h2⟩ => ⟨⟨_, _, ed⟩, h2.imp fun db μ2 ⟨i, p, ei, hi, q⟩ => by rw [ed, ei]; exact sp_wget T hl hi q⟩) hk hsl
end
end PM
set_option Elab.async false
set_option linter.all false
set_option maxRecDepth 100000
set_option maxHeartbeats 4000000
set_option exponentiation.threshold 20000
namespace PM
open PySem L2 PyProof.Rows
set_option hygiene false
local macro_rules | `(tactic| fail "E") => `(tactic| ((with_reducible refine hda ?_); fail "a"))
local macro_rules | `(tactic| fail "E") => `(tactic| ((with_reducible refine hdn ?_); fail "n"))
local macro_rules | `(tactic| fail "E") => `(tactic| ((with_reducible refine hdc ?_); fail "c"))
local macro_rules | `(tactic| fail "E") => `(tactic| refine wE_if ?_)
local macro_rules | `(tactic| fail "E") => `(tactic| refine wE_un ?_)
local macro_rules | `(tactic| fail "E") => `(tactic| refine wE_one ?_)
local macro_rules | `(tactic| fail "E") => `(tactic| refine wE_or ?_)
local macro_rules | `(tactic| fail "E") => `(tactic| refine wE_and ?_)
local macro_rules | `(tactic| fail "E") => `(tactic| refine wE_not ?_)
local macro_rules | `(tactic| fail "E") => `(tactic| refine wE_non ?_)
local macro_rules | `(tactic| fail "E") => `(tactic| refine wE_bl ?_)
local macro_rules | `(tactic| fail "E") => `(tactic| refine wE_str ?_)
local macro_rules | `(tactic| fail "E") => `(tactic| refine wE_lst ?_)
local macro_rules | `(tactic| fail "E") => `(tactic| refine wE_tup ?_)
local macro_rules | `(tactic| fail "E") => `(tactic| refine wE_cmp ?_)
local macro_rules | `(tactic| fail "E") => `(tactic| refine wE_sub ?_)
local macro_rules | `(tactic| fail "E") => `(tactic| refine wE_bin ?_)
local macro_rules | `(tactic| fail "E") => `(tactic| refine wE_int ?_)
local macro_rules | `(tactic| fail "E") => `(tactic| (refine wE_name gn ?_; (repeat (first | with_reducible refine wGt_z ?_ | with_reducible refine wGt_c ?_ | with_reducible refine wGt_s ?_ | with_reducible refine wGt_f ?_)); fail_if_success refine wGt_chk ?_))
local macro_rules | `(tactic| fail "B") => `(tactic| with_reducible refine wB_pow18 ?_)
local macro_rules | `(tactic| fail "B") => `(tactic| with_reducible refine wB_pow9 ?_)
local macro_rules | `(tactic| fail "B") => `(tactic| with_reducible refine wB_pow8 ?_)
local macro_rules | `(tactic| fail "B") => `(tactic| with_reducible refine wB_pow7 ?_)
local macro_rules | `(tactic| fail "B") => `(tactic| with_reducible refine wB_pow6 ?_)
local macro_rules | `(tactic| fail "B") => `(tactic| with_reducible refine wB_pow5 ?_)
local macro_rules | `(tactic| fail "B") => `(tactic| with_reducible refine wB_isNot ?_)
local macro_rules | `(tactic| fail "B") => `(tactic| with_reducible refine wB_is ?_)
local macro_rules | `(tactic| fail "B") => `(tactic| with_reducible refine wB_neB ?_)
local macro_rules | `(tactic| fail "B") => `(tactic| with_reducible refine wB_eqB ?_)
local macro_rules | `(tactic| fail "B") => `(tactic| with_reducible refine wB_neT ?_)
local macro_rules | `(tactic| fail "B") => `(tactic| with_reducible refine wB_eqT ?_)
local macro_rules | `(tactic| fail "B") => `(tactic| with_reducible refine wB_ne ?_)
local macro_rules | `(tactic| fail "B") => `(tactic| with_reducible refine wB_eq ?_)
local macro_rules | `(tactic| fail "B") => `(tactic| with_reducible refine wB_ge ?_)
local macro_rules | `(tactic| fail "B") => `(tactic| with_reducible refine wB_gt ?_)
local macro_rules | `(tactic| fail "B") => `(tactic| with_reducible refine wB_le ?_)
local macro_rules | `(tactic| fail "B") => `(tactic| with_reducible refine wB_lt ?_)
local macro_rules | `(tactic| fail "B") => `(tactic| ((with_reducible refine wB_fdivS ?qc ?_); (case qc => exact ⟨by (first | with_reducible assumption | omega), by (first | with_reducible assumption | omega)⟩)))
local macro_rules | `(tactic| fail "B") => `(tactic| ((with_reducible refine wB_mod ?qc ?_); (case qc => (first | with_reducible assumption | omega))))
local macro_rules | `(tactic| fail "B") => `(tactic| ((with_reducible refine wB_mulL ?qc ?_); (case qc => exact ⟨by (first | with_reducible assumption | omega), by (first | with_reducible assumption | omega)⟩)))
local macro_rules | `(tactic| fail "B") => `(tactic| ((with_reducible refine wB_mulR ?qc ?_); (case qc => exact ⟨by (first | with_reducible assumption | omega), by (first | with_reducible assumption | omega)⟩)))
local macro_rules | `(tactic| fail "B") => `(tactic| with_reducible refine wB_sub ?_)
local macro_rules | `(tactic| fail "B") => `(tactic| with_reducible refine wB_add ?_)
local macro_rules | `(tactic| fail "F") => `(tactic| with_reducible refine wF_R1 T g.toGd ?_)
local macro_rules | `(tactic| fail "F") => `(tactic| ((with_reducible refine wF_R2 T g.toGd ?qc1 ?qc2 ?_); (case qc1 => (first | with_reducible assumption | omega)); (case qc2 => exact lt_pow_mono (n := 64) (by (first | with_reducible assumption | omega)) (by decide))))
local macro_rules | `(tactic| fail "F") => `(tactic| with_reducible refine wF_isBB ?_)
local macro_rules | `(tactic| fail "F") => `(tactic| with_reducible refine wF_isIB ?_)
local macro_rules | `(tactic| fail "F") => `(tactic| with_reducible refine wF_isII ?_)
local macro_rules | `(tactic| fail "F") => `(tactic| ((with_reducible refine wF_isRt ?qc ?_); (case qc => exact T.own_Ratio)))
local macro_rules | `(tactic| fail "F") => `(tactic| with_reducible refine wF_min g.toGd ?_)
local macro_rules | `(tactic| fail "F") => `(tactic| with_reducible refine wF_max g.toGd ?_)
local macro_rules | `(tactic| fail "F") => `(tactic| with_reducible refine wF_abs ?_)
local macro_rules | `(tactic| fail "F") => `(tactic| with_reducible refine wF_boolB ?_)
local macro_rules | `(tactic| fail "F") => `(tactic| with_reducible refine wF_intB ?_)
local macro_rules | `(tactic| fail "F") => `(tactic| ((with_reducible refine chkB "len" ?_); refine wF_len (by (first | exact .inl rfl | exact .inr (.inl rfl) | exact .inr (.inr (.inl rfl)) | exact .inr (.inr (.inr ⟨_, rfl, by (first | assumption | with_reducible exact at_last | with_reducible exact at_new rfl | with_reducible exact at_left (by assumption) | with_reducible exact List.getElem?_set_self (by assumption) | with_reducible exact at_left (at_left (by assumption)))⟩)))) ?_))
local macro_rules | `(tactic| fail "X") => `(tactic| (refine wX_ints (by (first | exact .inl rfl | exact .inr (.inl rfl) | exact .inr (.inr (.inl rfl)) | exact .inr (.inr (.inr ⟨_, rfl, by (first | assumption | with_reducible exact at_last | with_reducible exact at_new rfl | with_reducible exact at_left (by assumption) | with_reducible exact List.getElem?_set_self (by assumption) | with_reducible exact at_left (at_left (by assumption)))⟩)))) (by (repeat (first | exact Ints.nil | apply Ints.cons))) (by (first | with_reducible assumption | omega)) (by (simp only [List.length_cons, List.length_nil]; omega)) ?_; intro v hv; simp only [List.mem_cons, List.not_mem_nil, or_false] at hv))
local macro_rules | `(tactic| fail "X") => `(tactic| refine wX_at (by (first | exact .inl rfl | exact .inr (.inl rfl) | exact .inr (.inr (.inl rfl)) | exact .inr (.inr (.inr ⟨_, rfl, by (first | assumption | with_reducible exact at_last | with_reducible exact at_new rfl | with_reducible exact at_left (by assumption) | with_reducible exact List.getElem?_set_self (by assumption) | with_reducible exact at_left (at_left (by assumption)))⟩)))) rfl ?_)
local macro_rules | `(tactic| fail "X") => `(tactic| refine wX_if2 (by (first | exact .inl rfl | exact .inr (.inl rfl) | exact .inr (.inr (.inl rfl)) | exact .inr (.inr (.inr ⟨_, rfl, by (first | assumption | with_reducible exact at_last | with_reducible exact at_new rfl | with_reducible exact at_left (by assumption) | with_reducible exact List.getElem?_set_self (by assumption) | with_reducible exact at_left (at_left (by assumption)))⟩)))) ?_)
local macro_rules | `(tactic| fail "X") => `(tactic| refine wX_if2I (by (first | exact .inl rfl | exact .inr (.inl rfl) | exact .inr (.inr (.inl rfl)) | exact .inr (.inr (.inr ⟨_, rfl, by (first | assumption | with_reducible exact at_last | with_reducible exact at_new rfl | with_reducible exact at_left (by assumption) | with_reducible exact List.getElem?_set_self (by assumption) | with_reducible exact at_left (at_left (by assumption)))⟩)))) ?_)
local macro_rules | `(tactic| fail "A") => `(tactic| refine wA_nil ?_)
local macro_rules | `(tactic| fail "A") => `(tactic| refine wA_cons ?_)
local macro_rules | `(tactic| fail "C") => `(tactic| refine wC_val ?_)
local macro_rules | `(tactic| fail "C") => `(tactic| refine wC_bool ?_)
local macro_rules | `(tactic| fail "C") => `(tactic| refine wC_not ?_)
local macro_rules | `(tactic| fail "C") => `(tactic| refine wC_cmp ?_)
local macro_rules | `(tactic| fail "W") => `(tactic| refine wCw_or1 ?_)
local macro_rules | `(tactic| fail "W") => `(tactic| refine wCw_and1 ?_)
local macro_rules | `(tactic| fail "W") => `(tactic| refine wCw_or ?_)
local macro_rules | `(tactic| fail "W") => `(tactic| refine wCw_and ?_)
local macro_rules | `(tactic| fail "U") => `(tactic| with_reducible refine wU_neg ?_)
local macro_rules | `(tactic| fail "P") => `(tactic| with_reducible refine wPt_s ?_)
local macro_rules | `(tactic| fail "P") => `(tactic| with_reducible refine wPt_c ?_)
local macro_rules | `(tactic| fail "P") => `(tactic| with_reducible refine wPt_z ?_)
local macro_rules | `(tactic| fail "G") => `(tactic| refine wG_name gn ?_)
local macro_rules | `(tactic| fail "G") => `(tactic| refine wG_tup g.calm ?_)
local macro_rules | `(tactic| fail "H") => `(tactic| refine wGs_nil ?_)
local macro_rules | `(tactic| fail "H") => `(tactic| refine wGs_cons ?_)
local macro_rules | `(tactic| fail "S") => `(tactic| refine wS_pass ?_)
local macro_rules | `(tactic| fail "S") => `(tactic| refine wS_asg ?_)
local macro_rules | `(tactic| fail "S") => `(tactic| refine wS_ix ?_)
local macro_rules | `(tactic| fail "S") => `(tactic| refine wS_expr ?_)
local macro_rules | `(tactic| fail "S") => `(tactic| refine wS_if ?_)
local macro_rules | `(tactic| fail "S") => `(tactic| refine wS_ret ?_)
local macro_rules | `(tactic| fail "S") => `(tactic| (refine wS_par3 g ?qa ?_; (case qa => exact ⟨_, _, _, by (repeat (first | with_reducible exact Il.z | with_reducible apply Il.s)), by (repeat (first | with_reducible exact Il.z | with_reducible apply Il.s)), by (repeat (first | with_reducible exact Il.z | with_reducible apply Il.s)), by decide, by decide, by decide⟩)))
local macro_rules | `(tactic| fail "S") => `(tactic| (refine wS_par g ?qa ?_; (case qa => exact ⟨_, _, by (repeat (first | with_reducible exact Il.z | with_reducible apply Il.s)), by (repeat (first | with_reducible exact Il.z | with_reducible apply Il.s)), by decide⟩)))
local macro_rules | `(tactic| fail "S") => `(tactic| (refine wS_set gn ?qa ?_; (case qa => exact ⟨_, by (repeat (first | with_reducible exact Ix.z | with_reducible exact Ix.c | with_reducible apply Ix.s))⟩)))
local macro_rules | `(tactic| fail "L") => `(tactic| refine wSs_nil ?_)
local macro_rules | `(tactic| fail "c") => `(tactic| ((with_reducible refine chkC "Water" ?_); refine xE_make gn ?qa T.g_Water T.mk_Water.kp ?_; (case qa => (repeat (first | with_reducible exact In.z | with_reducible apply In.s)))))
local macro_rules | `(tactic| fail "c") => `(tactic| ((with_reducible refine chkC "Pool" ?_); refine xE_make gn ?qa T.g_Pool T.mk_Pool.kp ?_; (case qa => (repeat (first | with_reducible exact In.z | with_reducible apply In.s)))))
local macro_rules | `(tactic| fail "c") => `(tactic| ((with_reducible refine chkC "Ratio" ?_); refine xE_make gn ?qa T.g_Ratio T.mk_Ratio.kp ?_; (case qa => (repeat (first | with_reducible exact In.z | with_reducible apply In.s)))))
local macro_rules | `(tactic| fail "c") => `(tactic| ((with_reducible refine chkC "_law_take" ?_); refine xE_call T.f_w_take g ?qa T.g_w_take T.F_w_take.kp T.b_w_take ?_; (case qa => (repeat (first | with_reducible exact In.z | with_reducible apply In.s)))))
local macro_rules | `(tactic| fail "c") => `(tactic| ((with_reducible refine chkC "sum" ?_); refine xE_blt gn ?qa T.n_sum boot_sum ?_; (case qa => (repeat (first | with_reducible exact In.z | with_reducible apply In.s)))))
local macro_rules | `(tactic| fail "c") => `(tactic| ((with_reducible refine chkC "any" ?_); refine xE_blt gn ?qa T.n_any boot_any ?_; (case qa => (repeat (first | with_reducible exact In.z | with_reducible apply In.s)))))
local macro_rules | `(tactic| fail "c") => `(tactic| ((with_reducible refine chkC "all" ?_); refine xE_blt gn ?qa T.n_all boot_all ?_; (case qa => (repeat (first | with_reducible exact In.z | with_reducible apply In.s)))))
local macro_rules | `(tactic| fail "c") => `(tactic| ((with_reducible refine chkC "bool" ?_); refine xE_bcl gn ?qa T.n_bool boot_bool ?_; (case qa => (repeat (first | with_reducible exact In.z | with_reducible apply In.s)))))
local macro_rules | `(tactic| fail "c") => `(tactic| ((with_reducible refine chkC "list" ?_); refine xE_bcl gn ?qa T.n_list boot_list ?_; (case qa => (repeat (first | with_reducible exact In.z | with_reducible apply In.s)))))
local macro_rules | `(tactic| fail "c") => `(tactic| ((with_reducible refine chkC "tuple" ?_); refine xE_bcl gn ?qa T.n_tuple boot_tuple ?_; (case qa => (repeat (first | with_reducible exact In.z | with_reducible apply In.s)))))
local macro_rules | `(tactic| fail "c") => `(tactic| ((with_reducible refine chkC "isinstance" ?_); refine xE_blt gn ?qa T.n_isinstance boot_isinstance ?_; (case qa => (repeat (first | with_reducible exact In.z | with_reducible apply In.s)))))
local macro_rules | `(tactic| fail "c") => `(tactic| ((with_reducible refine chkC "repr" ?_); refine xE_blt gn ?qa T.n_repr boot_repr ?_; (case qa => (repeat (first | with_reducible exact In.z | with_reducible apply In.s)))))
local macro_rules | `(tactic| fail "c") => `(tactic| ((with_reducible refine chkC "str" ?_); refine xE_bcl gn ?qa T.n_str boot_str ?_; (case qa => (repeat (first | with_reducible exact In.z | with_reducible apply In.s)))))
local macro_rules | `(tactic| fail "c") => `(tactic| ((with_reducible refine chkC "min" ?_); refine xE_blt gn ?qa T.n_min boot_min ?_; (case qa => (repeat (first | with_reducible exact In.z | with_reducible apply In.s)))))
local macro_rules | `(tactic| fail "c") => `(tactic| ((with_reducible refine chkC "max" ?_); refine xE_blt gn ?qa T.n_max boot_max ?_; (case qa => (repeat (first | with_reducible exact In.z | with_reducible apply In.s)))))
local macro_rules | `(tactic| fail "c") => `(tactic| ((with_reducible refine chkC "abs" ?_); refine xE_blt gn ?qa T.n_abs boot_abs ?_; (case qa => (repeat (first | with_reducible exact In.z | with_reducible apply In.s)))))
local macro_rules | `(tactic| fail "c") => `(tactic| ((with_reducible refine chkC "int" ?_); refine xE_bcl gn ?qa T.n_int boot_int ?_; (case qa => (repeat (first | with_reducible exact In.z | with_reducible apply In.s)))))
local macro_rules | `(tactic| fail "c") => `(tactic| ((with_reducible refine chkC "len" ?_); refine xE_blt gn ?qa T.n_len boot_len ?_; (case qa => (repeat (first | with_reducible exact In.z | with_reducible apply In.s)))))
local macro_rules | `(tactic| fail "n") => `(tactic| ((with_reducible refine chkN "Water" ?_); refine xE_cls gn ?qa T.g_Water ?_; (case qa => (repeat (first | with_reducible exact In.z | with_reducible apply In.s)))))
local macro_rules | `(tactic| fail "n") => `(tactic| ((with_reducible refine chkN "Pool" ?_); refine xE_cls gn ?qa T.g_Pool ?_; (case qa => (repeat (first | with_reducible exact In.z | with_reducible apply In.s)))))
local macro_rules | `(tactic| fail "n") => `(tactic| ((with_reducible refine chkN "Ratio" ?_); refine xE_cls gn ?qa T.g_Ratio ?_; (case qa => (repeat (first | with_reducible exact In.z | with_reducible apply In.s)))))
local macro_rules | `(tactic| fail "n") => `(tactic| ((with_reducible refine chkN "UnknownIndex" ?_); refine xE_cls gn ?qa T.g_UnknownIndex ?_; (case qa => (repeat (first | with_reducible exact In.z | with_reducible apply In.s)))))
local macro_rules | `(tactic| fail "n") => `(tactic| ((with_reducible refine chkN "Touching" ?_); refine xE_cls gn ?qa T.g_Touching ?_; (case qa => (repeat (first | with_reducible exact In.z | with_reducible apply In.s)))))
local macro_rules | `(tactic| fail "n") => `(tactic| ((with_reducible refine chkN "Full" ?_); refine xE_cls gn ?qa T.g_Full ?_; (case qa => (repeat (first | with_reducible exact In.z | with_reducible apply In.s)))))
local macro_rules | `(tactic| fail "n") => `(tactic| ((with_reducible refine chkN "InvalidDrop" ?_); refine xE_cls gn ?qa T.g_InvalidDrop ?_; (case qa => (repeat (first | with_reducible exact In.z | with_reducible apply In.s)))))
local macro_rules | `(tactic| fail "n") => `(tactic| ((with_reducible refine chkN "InvalidNumber" ?_); refine xE_cls gn ?qa T.g_InvalidNumber ?_; (case qa => (repeat (first | with_reducible exact In.z | with_reducible apply In.s)))))
local macro_rules | `(tactic| fail "n") => `(tactic| ((with_reducible refine chkN "PoolError" ?_); refine xE_cls gn ?qa T.g_PoolError ?_; (case qa => (repeat (first | with_reducible exact In.z | with_reducible apply In.s)))))
local macro_rules | `(tactic| fail "n") => `(tactic| ((with_reducible refine chkN "list" ?_); refine xE_bty gn ?qa T.n_list boot_list ?_; (case qa => (repeat (first | with_reducible exact In.z | with_reducible apply In.s)))))
local macro_rules | `(tactic| fail "n") => `(tactic| ((with_reducible refine chkN "tuple" ?_); refine xE_bty gn ?qa T.n_tuple boot_tuple ?_; (case qa => (repeat (first | with_reducible exact In.z | with_reducible apply In.s)))))
local macro_rules | `(tactic| fail "n") => `(tactic| ((with_reducible refine chkN "str" ?_); refine xE_bty gn ?qa T.n_str boot_str ?_; (case qa => (repeat (first | with_reducible exact In.z | with_reducible apply In.s)))))
local macro_rules | `(tactic| fail "n") => `(tactic| ((with_reducible refine chkN "bool" ?_); refine xE_bty gn ?qa T.n_bool boot_bool ?_; (case qa => (repeat (first | with_reducible exact In.z | with_reducible apply In.s)))))
local macro_rules | `(tactic| fail "n") => `(tactic| ((with_reducible refine chkN "int" ?_); refine xE_bty gn ?qa T.n_int boot_int ?_; (case qa => (repeat (first | with_reducible exact In.z | with_reducible apply In.s)))))
local macro_rules | `(tactic| fail "a") => `(tactic| ((with_reducible refine chkA "bottom" ?_); refine wE_bot T ?_))
local macro_rules | `(tactic| fail "a") => `(tactic| ((with_reducible refine chkA "top" ?_); refine wE_top T ?_))
local macro_rules | `(tactic| fail "O") => `(tactic| (refine sp_take T (by (first | assumption | with_reducible exact at_last | with_reducible exact at_new rfl | with_reducible exact at_left (by assumption) | with_reducible exact List.getElem?_set_self (by assumption) | with_reducible exact at_left (at_left (by assumption)))) (by (first | with_reducible assumption | omega)) (by (first | with_reducible assumption | omega)) ?_; intro d h0 h1))
local macro_rules | `(tactic| fail "O") => `(tactic| refine Exists.intro _ (Exists.intro _ (Exists.intro _ (Exists.intro _ (And.intro rfl (And.intro rfl (And.intro (by (first | assumption | with_reducible exact at_last | with_reducible exact at_new rfl | with_reducible exact at_left (by assumption) | with_reducible exact List.getElem?_set_self (by assumption) | with_reducible exact at_left (at_left (by assumption)))) (And.intro rfl ?_))))))))
local macro_rules | `(tactic| fail "O") => `(tactic| refine Exists.intro _ (Exists.intro _ (Exists.intro _ (And.intro rfl ?_))))
local macro_rules | `(tactic| fail "O") => `(tactic| refine Exists.intro _ (Exists.intro _ (And.intro rfl ?_)))
local macro_rules | `(tactic| fail "O") => `(tactic| refine And.intro (by (simp only [List.length_cons, List.length_nil]; decide)) ?_)
local macro_rules | `(tactic| fail "O") => `(tactic| refine Exists.intro _ (And.intro rfl ?_))
local macro_rules | `(tactic| fail "I") => `(tactic| ((with_reducible refine iteNF ?_); fail "o"))
local macro_rules | `(tactic| fail "I") => `(tactic| ((with_reducible refine iteNT ?_); fail "o"))
local macro_rules | `(tactic| fail "I") => `(tactic| ((with_reducible refine iteFT ?_); fail "o"))
local macro_rules | `(tactic| fail "I") => `(tactic| ((with_reducible refine iteTT ?_); fail "o"))
local macro_rules | `(tactic| fail "J") => `(tactic| ((with_reducible refine iteNF ?_); fail "st"))
local macro_rules | `(tactic| fail "J") => `(tactic| ((with_reducible refine iteNT ?_); fail "st"))
local macro_rules | `(tactic| fail "J") => `(tactic| ((with_reducible refine iteFT ?_); fail "st"))
local macro_rules | `(tactic| fail "J") => `(tactic| ((with_reducible refine iteTT ?_); fail "st"))
local macro_rules | `(tactic| fail "su") => `(tactic| ((with_reducible refine hdL ?_); fail "L"))
local macro_rules | `(tactic| fail "su") => `(tactic| ((with_reducible refine hdS ?_); fail "S"))
local macro_rules | `(tactic| fail "p") => `(tactic| fail "O")
local macro_rules | `(tactic| fail "p") => `(tactic| ((with_reducible refine hdH ?_); fail "H"))
local macro_rules | `(tactic| fail "p") => `(tactic| ((with_reducible refine hdG ?_); fail "G"))
local macro_rules | `(tactic| fail "p") => `(tactic| ((with_reducible refine hdP ?_); fail "P"))
local macro_rules | `(tactic| fail "p") => `(tactic| ((with_reducible refine hdU ?_); fail "U"))
local macro_rules | `(tactic| fail "p") => `(tactic| ((with_reducible refine hdW ?_); fail "W"))
local macro_rules | `(tactic| fail "p") => `(tactic| ((with_reducible refine hdC ?_); fail "C"))
local macro_rules | `(tactic| fail "p") => `(tactic| ((with_reducible refine hdX ?_); fail "X"))
local macro_rules | `(tactic| fail "p") => `(tactic| ((with_reducible refine hdF ?_); fail "F"))
local macro_rules | `(tactic| fail "p") => `(tactic| ((with_reducible refine hdB ?_); fail "B"))
local macro_rules | `(tactic| fail "p") => `(tactic| ((with_reducible refine hdA ?_); fail "A"))
local macro_rules | `(tactic| fail "p") => `(tactic| ((with_reducible refine hdE ?_); fail "E"))
local macro_rules | `(tactic| fail "st") => `(tactic| ((with_reducible refine hdI ?_); fail "J"))
local macro_rules | `(tactic| fail "st") => `(tactic| ((fail_if_success (with_reducible refine hdI ?_)); fail "su"))
local macro_rules | `(tactic| fail "o") => `(tactic| ((with_reducible refine hdI ?_); fail "I"))
local macro_rules | `(tactic| fail "o") => `(tactic| ((fail_if_success (with_reducible refine hdI ?_)); fail "p"))
local macro_rules | `(tactic| walk_at "in") => `(tactic| (repeat (first | with_reducible exact In.z | with_reducible apply In.s)))
local macro_rules | `(tactic| walk_at "at") => `(tactic| (first | assumption | with_reducible exact at_last | with_reducible exact at_new rfl | with_reducible exact at_left (by assumption) | with_reducible exact List.getElem?_set_self (by assumption) | with_reducible exact at_left (at_left (by assumption))))
local macro_rules | `(tactic| walk_at "ixd") => `(tactic| (first | exact .inl rfl | exact .inr (.inl rfl) | exact .inr (.inr (.inl rfl)) | exact .inr (.inr (.inr ⟨_, rfl, by (first | assumption | with_reducible exact at_last | with_reducible exact at_new rfl | with_reducible exact at_left (by assumption) | with_reducible exact List.getElem?_set_self (by assumption) | with_reducible exact at_left (at_left (by assumption)))⟩))))
local macro_rules | `(tactic| walk_at "ints") => `(tactic| (repeat (first | exact Ints.nil | apply Ints.cons)))
local macro_rules | `(tactic| walk_at "num") => `(tactic| (first | with_reducible assumption | omega))
local macro_rules | `(tactic| walk_at "nm") => `(tactic| (first | exact Num.rt _ | exact Num.int _ | assumption))
local macro_rules | `(tactic| walk_at "fit") => `(tactic| (first | with_reducible assumption | exact Fit.mono (by (repeat' (first | with_reducible assumption | with_reducible exact fit_two | with_reducible apply fit_add | with_reducible apply fit_sub | with_reducible apply fit_mul | with_reducible apply fit_half | with_reducible apply fit_rabs | with_reducible apply fit_neg))) (by decide) | exact Fit.mono (n := 64) (fit_int (by omega) (by decide)) (by decide)))
local macro_rules | `(tactic| walk_at "ix") => `(tactic| (repeat (first | with_reducible exact Ix.z | with_reducible exact Ix.c | with_reducible apply Ix.s)))
local macro_rules | `(tactic| walk_at "il") => `(tactic| (repeat (first | with_reducible exact Il.z | with_reducible apply Il.s)))
local macro_rules | `(tactic| walk_at "one") => `(tactic| first | fail "o" | fail "st" | refine wSs_cons ?_)
local macro_rules | `(tactic| walk_at "wp") => `(tactic| repeat (first | fail "o" | fail "st" | refine wSs_cons ?_))
local macro_rules | `(tactic| walk_at "s1") => `(tactic| (refine wSs_cons ?_; repeat (first | fail "o" | fail "st")))
local macro_rules | `(tactic| walk_at "e") => `(tactic| repeat (fail "o"))
local macro_rules | `(tactic| walk_at "start") => `(tactic| (intro ρ hρ cdv A outer s H E g; simp only [startD, List.map_cons, List.map_nil, List.length_cons, List.length_nil, List.replicate_succ, List.replicate_zero, List.cons_append, List.nil_append, Nat.reduceAdd, Nat.reduceSub] at hρ; subst hρ; have gn := g.toNx'))
local macro_rules | `(tactic| walk_at "suite") => `(tactic| (intro a dd oe pn hz hv gn ρs hρ; simp only [List.set_cons_succ, List.set_cons_zero] at hρ; subst hρ))
local macro_rules | `(tactic| walk_at "after") => `(tactic| (intro ρs hρ; simp only [List.set_cons_succ, List.set_cons_zero] at hρ; subst hρ))
local macro_rules | `(tactic| walk_at "blk") => `(tactic| (intro s H C cl fp g; have gn := g.toNx'))
theorem divInt_whole {t u : Int} (h0 : 0 < u) (h : t % u = 0) : Rat.divInt t u = ((t / u : Int) : Rat) := by
  have e : t = (t / u) * u := by
    have := Int.emod_add_mul_ediv t u
    rw [h, Int.zero_add, Int.mul_comm] at this
    exact this.symm
  rw [int_divInt]
  exact (Rat.divInt_eq_divInt_iff (by omega) (by decide)).mpr (by rw [Int.mul_one]; exact e)
theorem is_cross {t u : Int} (h0 : 0 < u) : (Rat.divInt t u).num * u = t * (Rat.divInt t u).den := by
  have e : Rat.divInt (Rat.divInt t u).num (Rat.divInt t u).den = Rat.divInt t u := Rat.num_divInt_den _
  exact (Rat.divInt_eq_divInt_iff (by have := (Rat.divInt t u).den_pos; omega) (by omega)).mp e
section
variable {P : Program} {w : World} {K : PySem.W.Frag} {mg : Str → Option Value} {base : Heap} (T : Tx K mg)
/-- a number to pass on -/
theorem sp_num {μ : List M} {n : Nat} {t u : Int} {Q : KV} {Z : KX} (hb : μ[n]? = some .box) (hu : 0 < u) (hu1 : u < 2 ^ 64) (h : ∀ d, Num T.C_Ratio d (Rat.divInt t u) → Q d μ) : SpF P w K mg base T.f_w_number [.loc n, .int t, .int u] μ Q Z := by
  refine spX_of T.F_w_number sc_w_number ck_w_number rfl ?_
  walk_at "start"
  rw [List.append_nil]
  have rest : ∀ {κ : Ks} {nx : KN}, κ.rt = RetOk μ Q → wSs (cxOf (L2.CX P w) P w K mg base n_w_number (Str.ofString "_law_number") (defScope s_w_number) T.a_w_number cdv A outer s H E) (fun c d _ H => E c d H) [some (.loc n), some (.int t), some (.int u)] μ ((defBody s_w_number).drop 1) nx κ := by
    intro κ nx hκ
    refine wSs_cons (wS_ret ?_)
    rw [hκ]
    walk_at "e"
    exact .same (h _ (.rt _))
  walk_at "s1"
  refine br_dec (fun hm => ?_) (fun hm => ?_)
  · walk_at "e"
    refine br_dec (fun h2 => ?_) (fun h2 => ?_)
    · walk_at "s1"
      refine wB_fdiv ⟨hu, Nat.lt_trans (log2_lt (show u.natAbs < 2 ^ 64 by omega) (by decide)) (by decide)⟩ ?_
      refine .same (h _ ?_)
      rw [divInt_whole hu hm]
      exact .int _
    · exact wSs_nil (rest rfl)
  · exact wSs_nil (rest rfl)
/-- is it this ratio? -/
theorem sp_is3 {μ : List M} {q : Rat} {t u : Int} {Q : KV} {Z : KX} (hu : 0 < u) (hu1 : u < 2 ^ 64) (ht : -(2 ^ 64) < t ∧ t < 2 ^ 64) (e : q = Rat.divInt t u) (h : Q (.bl true) μ) : SpF P w K mg base T.f_w_is [rt T.C_Ratio q, .int t, .int u] μ Q Z := by
  refine spX_of T.F_w_is sc_w_is ck_w_is rfl ?_
  walk_at "start"
  rw [List.append_nil]
  obtain ⟨t1, t2⟩ := ht
  walk_at "wp"
  subst e
  rw [is_cross hu]
  simp only [decide_true]
  exact .same h
end
/-- a drop of the law: its middle and its volume -/
def dr (p : Int × Int) : D := .tup [.int p.1, .int p.2]
def drp (p : Int × Int) : PyData := .tuple [.int p.1, .int p.2]
theorem drs_py : ∀ xs : List (Int × Int), D.pys (xs.map dr) = some (xs.map drp)
  | [] => by simp only [List.map_nil, D.pys]
  | p :: xs => by
    simp only [List.map_cons, D.pys, dr, D.py, drs_py xs]
    rfl
theorem drs_lay : ∀ xs : List (Int × Int), PyData.canLayAll0 (xs.map drp) = true ∧ PyData.depthAll (xs.map drp) ≤ 1
  | [] => ⟨by simp only [List.map_nil, PyData.canLayAll0], by simp only [List.map_nil, PyData.depthAll]; decide⟩
  | p :: xs => by
    obtain ⟨h1, h2⟩ := drs_lay xs
    refine ⟨?_, ?_⟩
    · simp only [List.map_cons, PyData.canLayAll0, drp, PyData.canLay0, h1, Bool.and_true]
    · simp only [List.map_cons, PyData.depthAll, drp, PyData.depth]
      omega
theorem drs_shaped (xs : List (Int × Int)) : SeqAt.shaped (.list (xs.map drp)) = true := by
  obtain ⟨h1, h2⟩ := drs_lay xs
  show (PyData.canLay0 _ && decide (PyData.depth _ ≤ 64)) = true
  refine Bool.and_eq_true_iff.mpr ⟨by simp only [PyData.canLay0]; exact h1, decide_eq_true ?_⟩
  have : PyData.depth (.list (xs.map drp)) = PyData.depthAll (xs.map drp) + 1 := by simp only [PyData.depth]
  rw [this]
  exact Nat.le_trans (Nat.succ_le_succ h2) (by decide)
theorem drs_none (xs : List (Int × Int)) : (!PyData.eqv (.list (xs.map drp)) (.list [])) = !xs.isEmpty := by
  cases xs with
  | nil => simp only [List.map_nil, PyData.eqv, PyData.eqvAll]; rfl
  | cons p xs => simp only [List.map_cons, PyData.eqv, PyData.eqvAll]; rfl
theorem drs_los {b : Nat} : ∀ xs : List (Int × Int), D.los b (xs.map dr) = true
  | [] => by simp only [List.map_nil, D.los]
  | p :: xs => by simp only [List.map_cons, D.los, dr, D.lo, drs_los xs, Bool.and_self]
theorem drs_last {p : Int × Int} {ys : List (Int × Int)} : atI ((ys ++ [p]).map dr) (-1) = some (dr p) := by
  have e : ixN (ys.length + 1) (-1) = some ys.length := by simp [ixN]; omega
  simp [atI, e]
/-- what is known of a drop -/
def DrOk (c : Int) (p : Int × Int) : Prop := -(500000000 + 1002 * c) ≤ p.1 ∧ p.1 ≤ 500000000 + 1002 * c ∧ 1 ≤ p.2 ∧ p.2 ≤ 1001
theorem DrOk.mono {c c' : Int} {p : Int × Int} (h : DrOk c p) (hc : c ≤ c') : DrOk c' p := by
  obtain ⟨a, b, d, e⟩ := h
  exact ⟨by omega, by omega, d, e⟩
section
variable {P : Program} {w : World} {K : PySem.W.Frag} {mg : Str → Option Value} {base : Heap} (T : Tx K mg)
end
end PM
set_option Elab.async false
set_option linter.all false
set_option maxRecDepth 100000
set_option maxHeartbeats 4000000
set_option exponentiation.threshold 20000
namespace PM
open PySem L2 PyProof.Rows
set_option hygiene false
local macro_rules | `(tactic| fail "E") => `(tactic| ((with_reducible refine hda ?_); fail "a"))
local macro_rules | `(tactic| fail "E") => `(tactic| ((with_reducible refine hdn ?_); fail "n"))
local macro_rules | `(tactic| fail "E") => `(tactic| ((with_reducible refine hdc ?_); fail "c"))
local macro_rules | `(tactic| fail "E") => `(tactic| refine wE_if ?_)
local macro_rules | `(tactic| fail "E") => `(tactic| refine wE_un ?_)
local macro_rules | `(tactic| fail "E") => `(tactic| refine wE_one ?_)
local macro_rules | `(tactic| fail "E") => `(tactic| refine wE_or ?_)
local macro_rules | `(tactic| fail "E") => `(tactic| refine wE_and ?_)
local macro_rules | `(tactic| fail "E") => `(tactic| refine wE_not ?_)
local macro_rules | `(tactic| fail "E") => `(tactic| refine wE_non ?_)
local macro_rules | `(tactic| fail "E") => `(tactic| refine wE_bl ?_)
local macro_rules | `(tactic| fail "E") => `(tactic| refine wE_str ?_)
local macro_rules | `(tactic| fail "E") => `(tactic| refine wE_lst ?_)
local macro_rules | `(tactic| fail "E") => `(tactic| refine wE_tup ?_)
local macro_rules | `(tactic| fail "E") => `(tactic| refine wE_cmp ?_)
local macro_rules | `(tactic| fail "E") => `(tactic| refine wE_sub ?_)
local macro_rules | `(tactic| fail "E") => `(tactic| refine wE_bin ?_)
local macro_rules | `(tactic| fail "E") => `(tactic| refine wE_int ?_)
local macro_rules | `(tactic| fail "E") => `(tactic| (refine wE_name gn ?_; (repeat (first | with_reducible refine wGt_z ?_ | with_reducible refine wGt_c ?_ | with_reducible refine wGt_s ?_ | with_reducible refine wGt_f ?_)); fail_if_success refine wGt_chk ?_))
local macro_rules | `(tactic| fail "B") => `(tactic| with_reducible refine wB_pow18 ?_)
local macro_rules | `(tactic| fail "B") => `(tactic| with_reducible refine wB_pow9 ?_)
local macro_rules | `(tactic| fail "B") => `(tactic| with_reducible refine wB_pow8 ?_)
local macro_rules | `(tactic| fail "B") => `(tactic| with_reducible refine wB_pow7 ?_)
local macro_rules | `(tactic| fail "B") => `(tactic| with_reducible refine wB_pow6 ?_)
local macro_rules | `(tactic| fail "B") => `(tactic| with_reducible refine wB_pow5 ?_)
local macro_rules | `(tactic| fail "B") => `(tactic| with_reducible refine wB_isNot ?_)
local macro_rules | `(tactic| fail "B") => `(tactic| with_reducible refine wB_is ?_)
local macro_rules | `(tactic| fail "B") => `(tactic| with_reducible refine wB_neB ?_)
local macro_rules | `(tactic| fail "B") => `(tactic| with_reducible refine wB_eqB ?_)
local macro_rules | `(tactic| fail "B") => `(tactic| with_reducible refine wB_neT ?_)
local macro_rules | `(tactic| fail "B") => `(tactic| with_reducible refine wB_eqT ?_)
local macro_rules | `(tactic| fail "B") => `(tactic| with_reducible refine wB_ne ?_)
local macro_rules | `(tactic| fail "B") => `(tactic| with_reducible refine wB_eq ?_)
local macro_rules | `(tactic| fail "B") => `(tactic| with_reducible refine wB_ge ?_)
local macro_rules | `(tactic| fail "B") => `(tactic| with_reducible refine wB_gt ?_)
local macro_rules | `(tactic| fail "B") => `(tactic| with_reducible refine wB_le ?_)
local macro_rules | `(tactic| fail "B") => `(tactic| with_reducible refine wB_lt ?_)
local macro_rules | `(tactic| fail "B") => `(tactic| ((with_reducible refine wB_fdivS ?qc ?_); (case qc => exact ⟨by (first | with_reducible assumption | omega), by (first | with_reducible assumption | omega)⟩)))
local macro_rules | `(tactic| fail "B") => `(tactic| ((with_reducible refine wB_mod ?qc ?_); (case qc => (first | with_reducible assumption | omega))))
local macro_rules | `(tactic| fail "B") => `(tactic| ((with_reducible refine wB_mulL ?qc ?_); (case qc => exact ⟨by (first | with_reducible assumption | omega), by (first | with_reducible assumption | omega)⟩)))
local macro_rules | `(tactic| fail "B") => `(tactic| ((with_reducible refine wB_mulR ?qc ?_); (case qc => exact ⟨by (first | with_reducible assumption | omega), by (first | with_reducible assumption | omega)⟩)))
local macro_rules | `(tactic| fail "B") => `(tactic| with_reducible refine wB_sub ?_)
local macro_rules | `(tactic| fail "B") => `(tactic| with_reducible refine wB_add ?_)
local macro_rules | `(tactic| fail "F") => `(tactic| with_reducible refine wF_R1 T g.toGd ?_)
local macro_rules | `(tactic| fail "F") => `(tactic| ((with_reducible refine wF_R2 T g.toGd ?qc1 ?qc2 ?_); (case qc1 => (first | with_reducible assumption | omega)); (case qc2 => exact lt_pow_mono (n := 64) (by (first | with_reducible assumption | omega)) (by decide))))
local macro_rules | `(tactic| fail "F") => `(tactic| with_reducible refine wF_isBB ?_)
local macro_rules | `(tactic| fail "F") => `(tactic| with_reducible refine wF_isIB ?_)
local macro_rules | `(tactic| fail "F") => `(tactic| with_reducible refine wF_isII ?_)
local macro_rules | `(tactic| fail "F") => `(tactic| ((with_reducible refine wF_isRt ?qc ?_); (case qc => exact T.own_Ratio)))
local macro_rules | `(tactic| fail "F") => `(tactic| with_reducible refine wF_min g.toGd ?_)
local macro_rules | `(tactic| fail "F") => `(tactic| with_reducible refine wF_max g.toGd ?_)
local macro_rules | `(tactic| fail "F") => `(tactic| with_reducible refine wF_abs ?_)
local macro_rules | `(tactic| fail "F") => `(tactic| with_reducible refine wF_boolB ?_)
local macro_rules | `(tactic| fail "F") => `(tactic| with_reducible refine wF_intB ?_)
local macro_rules | `(tactic| fail "F") => `(tactic| ((with_reducible refine chkB "len" ?_); refine wF_len (by (first | exact .inl rfl | exact .inr (.inl rfl) | exact .inr (.inr (.inl rfl)) | exact .inr (.inr (.inr ⟨_, rfl, by (first | assumption | with_reducible exact at_last | with_reducible exact at_new rfl | with_reducible exact at_left (by assumption) | with_reducible exact List.getElem?_set_self (by assumption) | with_reducible exact at_left (at_left (by assumption)))⟩)))) ?_))
local macro_rules | `(tactic| fail "X") => `(tactic| (refine wX_ints (by (first | exact .inl rfl | exact .inr (.inl rfl) | exact .inr (.inr (.inl rfl)) | exact .inr (.inr (.inr ⟨_, rfl, by (first | assumption | with_reducible exact at_last | with_reducible exact at_new rfl | with_reducible exact at_left (by assumption) | with_reducible exact List.getElem?_set_self (by assumption) | with_reducible exact at_left (at_left (by assumption)))⟩)))) (by (repeat (first | exact Ints.nil | apply Ints.cons))) (by (first | with_reducible assumption | omega)) (by (simp only [List.length_cons, List.length_nil]; omega)) ?_; intro v hv; simp only [List.mem_cons, List.not_mem_nil, or_false] at hv))
local macro_rules | `(tactic| fail "X") => `(tactic| refine wX_at (by (first | exact .inl rfl | exact .inr (.inl rfl) | exact .inr (.inr (.inl rfl)) | exact .inr (.inr (.inr ⟨_, rfl, by (first | assumption | with_reducible exact at_last | with_reducible exact at_new rfl | with_reducible exact at_left (by assumption) | with_reducible exact List.getElem?_set_self (by assumption) | with_reducible exact at_left (at_left (by assumption)))⟩)))) rfl ?_)
local macro_rules | `(tactic| fail "X") => `(tactic| refine wX_if2 (by (first | exact .inl rfl | exact .inr (.inl rfl) | exact .inr (.inr (.inl rfl)) | exact .inr (.inr (.inr ⟨_, rfl, by (first | assumption | with_reducible exact at_last | with_reducible exact at_new rfl | with_reducible exact at_left (by assumption) | with_reducible exact List.getElem?_set_self (by assumption) | with_reducible exact at_left (at_left (by assumption)))⟩)))) ?_)
local macro_rules | `(tactic| fail "X") => `(tactic| refine wX_if2I (by (first | exact .inl rfl | exact .inr (.inl rfl) | exact .inr (.inr (.inl rfl)) | exact .inr (.inr (.inr ⟨_, rfl, by (first | assumption | with_reducible exact at_last | with_reducible exact at_new rfl | with_reducible exact at_left (by assumption) | with_reducible exact List.getElem?_set_self (by assumption) | with_reducible exact at_left (at_left (by assumption)))⟩)))) ?_)
local macro_rules | `(tactic| fail "A") => `(tactic| refine wA_nil ?_)
local macro_rules | `(tactic| fail "A") => `(tactic| refine wA_cons ?_)
local macro_rules | `(tactic| fail "C") => `(tactic| refine wC_val ?_)
local macro_rules | `(tactic| fail "C") => `(tactic| refine wC_bool ?_)
local macro_rules | `(tactic| fail "C") => `(tactic| refine wC_not ?_)
local macro_rules | `(tactic| fail "C") => `(tactic| refine wC_cmp ?_)
local macro_rules | `(tactic| fail "W") => `(tactic| refine wCw_or1 ?_)
local macro_rules | `(tactic| fail "W") => `(tactic| refine wCw_and1 ?_)
local macro_rules | `(tactic| fail "W") => `(tactic| refine wCw_or ?_)
local macro_rules | `(tactic| fail "W") => `(tactic| refine wCw_and ?_)
local macro_rules | `(tactic| fail "U") => `(tactic| with_reducible refine wU_neg ?_)
local macro_rules | `(tactic| fail "P") => `(tactic| with_reducible refine wPt_s ?_)
local macro_rules | `(tactic| fail "P") => `(tactic| with_reducible refine wPt_c ?_)
local macro_rules | `(tactic| fail "P") => `(tactic| with_reducible refine wPt_z ?_)
local macro_rules | `(tactic| fail "G") => `(tactic| refine wG_name gn ?_)
local macro_rules | `(tactic| fail "G") => `(tactic| refine wG_tup g.calm ?_)
local macro_rules | `(tactic| fail "H") => `(tactic| refine wGs_nil ?_)
local macro_rules | `(tactic| fail "H") => `(tactic| refine wGs_cons ?_)
local macro_rules | `(tactic| fail "S") => `(tactic| refine wS_pass ?_)
local macro_rules | `(tactic| fail "S") => `(tactic| refine wS_asg ?_)
local macro_rules | `(tactic| fail "S") => `(tactic| refine wS_ix ?_)
local macro_rules | `(tactic| fail "S") => `(tactic| refine wS_expr ?_)
local macro_rules | `(tactic| fail "S") => `(tactic| refine wS_if ?_)
local macro_rules | `(tactic| fail "S") => `(tactic| refine wS_ret ?_)
local macro_rules | `(tactic| fail "S") => `(tactic| (refine wS_par3 g ?qa ?_; (case qa => exact ⟨_, _, _, by (repeat (first | with_reducible exact Il.z | with_reducible apply Il.s)), by (repeat (first | with_reducible exact Il.z | with_reducible apply Il.s)), by (repeat (first | with_reducible exact Il.z | with_reducible apply Il.s)), by decide, by decide, by decide⟩)))
local macro_rules | `(tactic| fail "S") => `(tactic| (refine wS_par g ?qa ?_; (case qa => exact ⟨_, _, by (repeat (first | with_reducible exact Il.z | with_reducible apply Il.s)), by (repeat (first | with_reducible exact Il.z | with_reducible apply Il.s)), by decide⟩)))
local macro_rules | `(tactic| fail "S") => `(tactic| (refine wS_set gn ?qa ?_; (case qa => exact ⟨_, by (repeat (first | with_reducible exact Ix.z | with_reducible exact Ix.c | with_reducible apply Ix.s))⟩)))
local macro_rules | `(tactic| fail "L") => `(tactic| refine wSs_nil ?_)
local macro_rules | `(tactic| fail "c") => `(tactic| ((with_reducible refine chkC "Water" ?_); refine xE_make gn ?qa T.g_Water T.mk_Water.kp ?_; (case qa => (repeat (first | with_reducible exact In.z | with_reducible apply In.s)))))
local macro_rules | `(tactic| fail "c") => `(tactic| ((with_reducible refine chkC "Pool" ?_); refine xE_make gn ?qa T.g_Pool T.mk_Pool.kp ?_; (case qa => (repeat (first | with_reducible exact In.z | with_reducible apply In.s)))))
local macro_rules | `(tactic| fail "c") => `(tactic| ((with_reducible refine chkC "Ratio" ?_); refine xE_make gn ?qa T.g_Ratio T.mk_Ratio.kp ?_; (case qa => (repeat (first | with_reducible exact In.z | with_reducible apply In.s)))))
local macro_rules | `(tactic| fail "c") => `(tactic| ((with_reducible refine chkC "_law_made" ?_); refine xE_call T.f_w_made g ?qa T.g_w_made T.F_w_made.kp T.b_w_made ?_; (case qa => (repeat (first | with_reducible exact In.z | with_reducible apply In.s)))))
local macro_rules | `(tactic| fail "c") => `(tactic| ((with_reducible refine chkC "_law_due" ?_); refine xE_call T.f_w_due g ?qa T.g_w_due T.F_w_due.kp T.b_w_due ?_; (case qa => (repeat (first | with_reducible exact In.z | with_reducible apply In.s)))))
local macro_rules | `(tactic| fail "c") => `(tactic| ((with_reducible refine chkC "_law_long_row" ?_); refine xE_call T.f_w_long_row g ?qa T.g_w_long_row T.F_w_long_row.kp T.b_w_long_row ?_; (case qa => (repeat (first | with_reducible exact In.z | with_reducible apply In.s)))))
local macro_rules | `(tactic| fail "c") => `(tactic| ((with_reducible refine chkC "_law_row" ?_); refine xE_call T.f_w_row g ?qa T.g_w_row T.F_w_row.kp T.b_w_row ?_; (case qa => (repeat (first | with_reducible exact In.z | with_reducible apply In.s)))))
local macro_rules | `(tactic| fail "c") => `(tactic| ((with_reducible refine chkC "_law_is_water" ?_); refine xE_call T.f_w_is_water g ?qa T.g_w_is_water T.F_w_is_water.kp T.b_w_is_water ?_; (case qa => (repeat (first | with_reducible exact In.z | with_reducible apply In.s)))))
local macro_rules | `(tactic| fail "c") => `(tactic| ((with_reducible refine chkC "_law_moments" ?_); refine xE_call T.f_w_moments g ?qa T.g_w_moments T.F_w_moments.kp T.b_w_moments ?_; (case qa => (repeat (first | with_reducible exact In.z | with_reducible apply In.s)))))
local macro_rules | `(tactic| fail "c") => `(tactic| ((with_reducible refine chkC "_law_pool" ?_); refine xE_call T.f_w_pool g ?qa T.g_w_pool T.F_w_pool.kp T.b_w_pool ?_; (case qa => (repeat (first | with_reducible exact In.z | with_reducible apply In.s)))))
local macro_rules | `(tactic| fail "c") => `(tactic| ((with_reducible refine chkC "_law_is" ?_); refine xE_call T.f_w_is g ?qa T.g_w_is T.F_w_is.kp T.b_w_is ?_; (case qa => (repeat (first | with_reducible exact In.z | with_reducible apply In.s)))))
local macro_rules | `(tactic| fail "c") => `(tactic| ((with_reducible refine chkC "_law_number" ?_); refine xE_call T.f_w_number g ?qa T.g_w_number T.F_w_number.kp T.b_w_number ?_; (case qa => (repeat (first | with_reducible exact In.z | with_reducible apply In.s)))))
local macro_rules | `(tactic| fail "c") => `(tactic| ((with_reducible refine chkC "_law_take" ?_); refine xE_call T.f_w_take g ?qa T.g_w_take T.F_w_take.kp T.b_w_take ?_; (case qa => (repeat (first | with_reducible exact In.z | with_reducible apply In.s)))))
local macro_rules | `(tactic| fail "c") => `(tactic| ((with_reducible refine chkC "_law_box" ?_); refine xE_call T.f_w_box g ?qa T.g_w_box T.F_w_box.kp T.b_w_box ?_; (case qa => (repeat (first | with_reducible exact In.z | with_reducible apply In.s)))))
local macro_rules | `(tactic| fail "c") => `(tactic| ((with_reducible refine chkC "sum" ?_); refine xE_blt gn ?qa T.n_sum boot_sum ?_; (case qa => (repeat (first | with_reducible exact In.z | with_reducible apply In.s)))))
local macro_rules | `(tactic| fail "c") => `(tactic| ((with_reducible refine chkC "any" ?_); refine xE_blt gn ?qa T.n_any boot_any ?_; (case qa => (repeat (first | with_reducible exact In.z | with_reducible apply In.s)))))
local macro_rules | `(tactic| fail "c") => `(tactic| ((with_reducible refine chkC "all" ?_); refine xE_blt gn ?qa T.n_all boot_all ?_; (case qa => (repeat (first | with_reducible exact In.z | with_reducible apply In.s)))))
local macro_rules | `(tactic| fail "c") => `(tactic| ((with_reducible refine chkC "bool" ?_); refine xE_bcl gn ?qa T.n_bool boot_bool ?_; (case qa => (repeat (first | with_reducible exact In.z | with_reducible apply In.s)))))
local macro_rules | `(tactic| fail "c") => `(tactic| ((with_reducible refine chkC "list" ?_); refine xE_bcl gn ?qa T.n_list boot_list ?_; (case qa => (repeat (first | with_reducible exact In.z | with_reducible apply In.s)))))
local macro_rules | `(tactic| fail "c") => `(tactic| ((with_reducible refine chkC "tuple" ?_); refine xE_bcl gn ?qa T.n_tuple boot_tuple ?_; (case qa => (repeat (first | with_reducible exact In.z | with_reducible apply In.s)))))
local macro_rules | `(tactic| fail "c") => `(tactic| ((with_reducible refine chkC "isinstance" ?_); refine xE_blt gn ?qa T.n_isinstance boot_isinstance ?_; (case qa => (repeat (first | with_reducible exact In.z | with_reducible apply In.s)))))
local macro_rules | `(tactic| fail "c") => `(tactic| ((with_reducible refine chkC "repr" ?_); refine xE_blt gn ?qa T.n_repr boot_repr ?_; (case qa => (repeat (first | with_reducible exact In.z | with_reducible apply In.s)))))
local macro_rules | `(tactic| fail "c") => `(tactic| ((with_reducible refine chkC "str" ?_); refine xE_bcl gn ?qa T.n_str boot_str ?_; (case qa => (repeat (first | with_reducible exact In.z | with_reducible apply In.s)))))
local macro_rules | `(tactic| fail "c") => `(tactic| ((with_reducible refine chkC "min" ?_); refine xE_blt gn ?qa T.n_min boot_min ?_; (case qa => (repeat (first | with_reducible exact In.z | with_reducible apply In.s)))))
local macro_rules | `(tactic| fail "c") => `(tactic| ((with_reducible refine chkC "max" ?_); refine xE_blt gn ?qa T.n_max boot_max ?_; (case qa => (repeat (first | with_reducible exact In.z | with_reducible apply In.s)))))
local macro_rules | `(tactic| fail "c") => `(tactic| ((with_reducible refine chkC "abs" ?_); refine xE_blt gn ?qa T.n_abs boot_abs ?_; (case qa => (repeat (first | with_reducible exact In.z | with_reducible apply In.s)))))
local macro_rules | `(tactic| fail "c") => `(tactic| ((with_reducible refine chkC "int" ?_); refine xE_bcl gn ?qa T.n_int boot_int ?_; (case qa => (repeat (first | with_reducible exact In.z | with_reducible apply In.s)))))
local macro_rules | `(tactic| fail "c") => `(tactic| ((with_reducible refine chkC "len" ?_); refine xE_blt gn ?qa T.n_len boot_len ?_; (case qa => (repeat (first | with_reducible exact In.z | with_reducible apply In.s)))))
local macro_rules | `(tactic| fail "n") => `(tactic| ((with_reducible refine chkN "Water" ?_); refine xE_cls gn ?qa T.g_Water ?_; (case qa => (repeat (first | with_reducible exact In.z | with_reducible apply In.s)))))
local macro_rules | `(tactic| fail "n") => `(tactic| ((with_reducible refine chkN "Pool" ?_); refine xE_cls gn ?qa T.g_Pool ?_; (case qa => (repeat (first | with_reducible exact In.z | with_reducible apply In.s)))))
local macro_rules | `(tactic| fail "n") => `(tactic| ((with_reducible refine chkN "Ratio" ?_); refine xE_cls gn ?qa T.g_Ratio ?_; (case qa => (repeat (first | with_reducible exact In.z | with_reducible apply In.s)))))
local macro_rules | `(tactic| fail "n") => `(tactic| ((with_reducible refine chkN "UnknownIndex" ?_); refine xE_cls gn ?qa T.g_UnknownIndex ?_; (case qa => (repeat (first | with_reducible exact In.z | with_reducible apply In.s)))))
local macro_rules | `(tactic| fail "n") => `(tactic| ((with_reducible refine chkN "Touching" ?_); refine xE_cls gn ?qa T.g_Touching ?_; (case qa => (repeat (first | with_reducible exact In.z | with_reducible apply In.s)))))
local macro_rules | `(tactic| fail "n") => `(tactic| ((with_reducible refine chkN "Full" ?_); refine xE_cls gn ?qa T.g_Full ?_; (case qa => (repeat (first | with_reducible exact In.z | with_reducible apply In.s)))))
local macro_rules | `(tactic| fail "n") => `(tactic| ((with_reducible refine chkN "InvalidDrop" ?_); refine xE_cls gn ?qa T.g_InvalidDrop ?_; (case qa => (repeat (first | with_reducible exact In.z | with_reducible apply In.s)))))
local macro_rules | `(tactic| fail "n") => `(tactic| ((with_reducible refine chkN "InvalidNumber" ?_); refine xE_cls gn ?qa T.g_InvalidNumber ?_; (case qa => (repeat (first | with_reducible exact In.z | with_reducible apply In.s)))))
local macro_rules | `(tactic| fail "n") => `(tactic| ((with_reducible refine chkN "PoolError" ?_); refine xE_cls gn ?qa T.g_PoolError ?_; (case qa => (repeat (first | with_reducible exact In.z | with_reducible apply In.s)))))
local macro_rules | `(tactic| fail "n") => `(tactic| ((with_reducible refine chkN "list" ?_); refine xE_bty gn ?qa T.n_list boot_list ?_; (case qa => (repeat (first | with_reducible exact In.z | with_reducible apply In.s)))))
local macro_rules | `(tactic| fail "n") => `(tactic| ((with_reducible refine chkN "tuple" ?_); refine xE_bty gn ?qa T.n_tuple boot_tuple ?_; (case qa => (repeat (first | with_reducible exact In.z | with_reducible apply In.s)))))
local macro_rules | `(tactic| fail "n") => `(tactic| ((with_reducible refine chkN "str" ?_); refine xE_bty gn ?qa T.n_str boot_str ?_; (case qa => (repeat (first | with_reducible exact In.z | with_reducible apply In.s)))))
local macro_rules | `(tactic| fail "n") => `(tactic| ((with_reducible refine chkN "bool" ?_); refine xE_bty gn ?qa T.n_bool boot_bool ?_; (case qa => (repeat (first | with_reducible exact In.z | with_reducible apply In.s)))))
local macro_rules | `(tactic| fail "n") => `(tactic| ((with_reducible refine chkN "int" ?_); refine xE_bty gn ?qa T.n_int boot_int ?_; (case qa => (repeat (first | with_reducible exact In.z | with_reducible apply In.s)))))
local macro_rules | `(tactic| fail "a") => `(tactic| ((with_reducible refine chkA "bottom" ?_); refine wE_bot T ?_))
local macro_rules | `(tactic| fail "a") => `(tactic| ((with_reducible refine chkA "top" ?_); refine wE_top T ?_))
local macro_rules | `(tactic| fail "O") => `(tactic| (refine sp_take T (by (first | assumption | with_reducible exact at_last | with_reducible exact at_new rfl | with_reducible exact at_left (by assumption) | with_reducible exact List.getElem?_set_self (by assumption) | with_reducible exact at_left (at_left (by assumption)))) (by (first | with_reducible assumption | omega)) (by (first | with_reducible assumption | omega)) ?_; intro d h0 h1))
local macro_rules | `(tactic| fail "O") => `(tactic| refine Exists.intro _ (Exists.intro _ (Exists.intro _ (Exists.intro _ (And.intro rfl (And.intro rfl (And.intro (by (first | assumption | with_reducible exact at_last | with_reducible exact at_new rfl | with_reducible exact at_left (by assumption) | with_reducible exact List.getElem?_set_self (by assumption) | with_reducible exact at_left (at_left (by assumption)))) (And.intro rfl ?_))))))))
local macro_rules | `(tactic| fail "O") => `(tactic| refine Exists.intro _ (Exists.intro _ (Exists.intro _ (And.intro rfl ?_))))
local macro_rules | `(tactic| fail "O") => `(tactic| refine Exists.intro _ (Exists.intro _ (And.intro rfl ?_)))
local macro_rules | `(tactic| fail "O") => `(tactic| refine And.intro (by (simp only [List.length_cons, List.length_nil]; decide)) ?_)
local macro_rules | `(tactic| fail "O") => `(tactic| refine Exists.intro _ (And.intro rfl ?_))
local macro_rules | `(tactic| fail "I") => `(tactic| ((with_reducible refine iteNF ?_); fail "o"))
local macro_rules | `(tactic| fail "I") => `(tactic| ((with_reducible refine iteNT ?_); fail "o"))
local macro_rules | `(tactic| fail "I") => `(tactic| ((with_reducible refine iteFT ?_); fail "o"))
local macro_rules | `(tactic| fail "I") => `(tactic| ((with_reducible refine iteTT ?_); fail "o"))
local macro_rules | `(tactic| fail "J") => `(tactic| ((with_reducible refine iteNF ?_); fail "st"))
local macro_rules | `(tactic| fail "J") => `(tactic| ((with_reducible refine iteNT ?_); fail "st"))
local macro_rules | `(tactic| fail "J") => `(tactic| ((with_reducible refine iteFT ?_); fail "st"))
local macro_rules | `(tactic| fail "J") => `(tactic| ((with_reducible refine iteTT ?_); fail "st"))
local macro_rules | `(tactic| fail "su") => `(tactic| ((with_reducible refine hdL ?_); fail "L"))
local macro_rules | `(tactic| fail "su") => `(tactic| ((with_reducible refine hdS ?_); fail "S"))
local macro_rules | `(tactic| fail "p") => `(tactic| fail "O")
local macro_rules | `(tactic| fail "p") => `(tactic| ((with_reducible refine hdH ?_); fail "H"))
local macro_rules | `(tactic| fail "p") => `(tactic| ((with_reducible refine hdG ?_); fail "G"))
local macro_rules | `(tactic| fail "p") => `(tactic| ((with_reducible refine hdP ?_); fail "P"))
local macro_rules | `(tactic| fail "p") => `(tactic| ((with_reducible refine hdU ?_); fail "U"))
local macro_rules | `(tactic| fail "p") => `(tactic| ((with_reducible refine hdW ?_); fail "W"))
local macro_rules | `(tactic| fail "p") => `(tactic| ((with_reducible refine hdC ?_); fail "C"))
local macro_rules | `(tactic| fail "p") => `(tactic| ((with_reducible refine hdX ?_); fail "X"))
local macro_rules | `(tactic| fail "p") => `(tactic| ((with_reducible refine hdF ?_); fail "F"))
local macro_rules | `(tactic| fail "p") => `(tactic| ((with_reducible refine hdB ?_); fail "B"))
local macro_rules | `(tactic| fail "p") => `(tactic| ((with_reducible refine hdA ?_); fail "A"))
local macro_rules | `(tactic| fail "p") => `(tactic| ((with_reducible refine hdE ?_); fail "E"))
local macro_rules | `(tactic| fail "st") => `(tactic| ((with_reducible refine hdI ?_); fail "J"))
local macro_rules | `(tactic| fail "st") => `(tactic| ((fail_if_success (with_reducible refine hdI ?_)); fail "su"))
local macro_rules | `(tactic| fail "o") => `(tactic| ((with_reducible refine hdI ?_); fail "I"))
local macro_rules | `(tactic| fail "o") => `(tactic| ((fail_if_success (with_reducible refine hdI ?_)); fail "p"))
local macro_rules | `(tactic| walk_at "in") => `(tactic| (repeat (first | with_reducible exact In.z | with_reducible apply In.s)))
local macro_rules | `(tactic| walk_at "at") => `(tactic| (first | assumption | with_reducible exact at_last | with_reducible exact at_new rfl | with_reducible exact at_left (by assumption) | with_reducible exact List.getElem?_set_self (by assumption) | with_reducible exact at_left (at_left (by assumption))))
local macro_rules | `(tactic| walk_at "ixd") => `(tactic| (first | exact .inl rfl | exact .inr (.inl rfl) | exact .inr (.inr (.inl rfl)) | exact .inr (.inr (.inr ⟨_, rfl, by (first | assumption | with_reducible exact at_last | with_reducible exact at_new rfl | with_reducible exact at_left (by assumption) | with_reducible exact List.getElem?_set_self (by assumption) | with_reducible exact at_left (at_left (by assumption)))⟩))))
local macro_rules | `(tactic| walk_at "ints") => `(tactic| (repeat (first | exact Ints.nil | apply Ints.cons)))
local macro_rules | `(tactic| walk_at "num") => `(tactic| (first | with_reducible assumption | omega))
local macro_rules | `(tactic| walk_at "nm") => `(tactic| (first | exact Num.rt _ | exact Num.int _ | assumption))
local macro_rules | `(tactic| walk_at "fit") => `(tactic| (first | with_reducible assumption | exact Fit.mono (by (repeat' (first | with_reducible assumption | with_reducible exact fit_two | with_reducible apply fit_add | with_reducible apply fit_sub | with_reducible apply fit_mul | with_reducible apply fit_half | with_reducible apply fit_rabs | with_reducible apply fit_neg))) (by decide) | exact Fit.mono (n := 64) (fit_int (by omega) (by decide)) (by decide)))
local macro_rules | `(tactic| walk_at "ix") => `(tactic| (repeat (first | with_reducible exact Ix.z | with_reducible exact Ix.c | with_reducible apply Ix.s)))
local macro_rules | `(tactic| walk_at "il") => `(tactic| (repeat (first | with_reducible exact Il.z | with_reducible apply Il.s)))
local macro_rules | `(tactic| walk_at "one") => `(tactic| first | fail "o" | fail "st" | refine wSs_cons ?_)
local macro_rules | `(tactic| walk_at "wp") => `(tactic| repeat (first | fail "o" | fail "st" | refine wSs_cons ?_))
local macro_rules | `(tactic| walk_at "s1") => `(tactic| (refine wSs_cons ?_; repeat (first | fail "o" | fail "st")))
local macro_rules | `(tactic| walk_at "e") => `(tactic| repeat (fail "o"))
local macro_rules | `(tactic| walk_at "start") => `(tactic| (intro ρ hρ cdv A outer s H E g; simp only [startD, List.map_cons, List.map_nil, List.length_cons, List.length_nil, List.replicate_succ, List.replicate_zero, List.cons_append, List.nil_append, Nat.reduceAdd, Nat.reduceSub] at hρ; subst hρ; have gn := g.toNx'))
local macro_rules | `(tactic| walk_at "suite") => `(tactic| (intro a dd oe pn hz hv gn ρs hρ; simp only [List.set_cons_succ, List.set_cons_zero] at hρ; subst hρ))
local macro_rules | `(tactic| walk_at "after") => `(tactic| (intro ρs hρ; simp only [List.set_cons_succ, List.set_cons_zero] at hρ; subst hρ))
local macro_rules | `(tactic| walk_at "blk") => `(tactic| (intro s H C cl fp g; have gn := g.toNx'))
section
variable {P : Program} {w : World} {K : PySem.W.Frag} {mg : Str → Option Value} {base : Heap} (T : Tx K mg)
theorem fit_dr {t u : Int} (h1 : -(2 ^ 31) < t ∧ t < 2 ^ 31) (h2 : 0 < u ∧ u < 2 ^ 31) : Fit 31 (Rat.divInt t u) := fit_divInt (n := 31) (by omega) (by omega) (by omega)
theorem divInt_pos {t u : Int} (h1 : 0 < t) (h2 : 0 < u) : 0 < Rat.divInt t u := by
  have e := is_cross (t := t) h2
  have dp := (Rat.divInt t u).den_pos
  have h3 : 0 < t * ((Rat.divInt t u).den : Int) := Int.mul_pos h1 (by omega)
  rw [← e] at h3
  have h4 : 0 < (Rat.divInt t u).num := Int.pos_of_mul_pos_left h3 h2
  rw [Rat.lt_iff]
  show 0 * _ < (Rat.divInt t u).num * 1
  omega
/-- the pool with this middle and volume -/
theorem sp_pool {μ : List M} {n : Nat} {u : Int} {p : Int × Int} {Q : KV} {Z : KX} (hb : μ[n]? = some .box) (hu : 0 < u) (hu1 : u ≤ 1000000) (hp : DrOk 1000 p) (h : Q (T.pl (Rat.divInt p.1 u) (Rat.divInt p.2 u)) μ) : SpF P w K mg base T.f_w_pool [.loc n, .int u, dr p] μ Q Z := by
  refine spX_of T.F_w_pool sc_w_pool ck_w_pool rfl ?_
  walk_at "start"
  rw [List.append_nil]
  obtain ⟨s, v⟩ := p
  obtain ⟨p0, p1, p2, p3⟩ := hp
  simp only at p0 p1 p2 p3
  unfold dr
  walk_at "s1"
  refine sp_num T hb hu (by omega) fun d1 n1 => ?_
  walk_at "e"
  refine sp_num T hb hu (by omega) fun d2 n2 => ?_
  walk_at "e"
  refine wF_Pool T g.toGd n1 n2 ((fit_dr (by omega) (by omega)).mono (by decide)) (divInt_pos (by omega) hu) ?_
  exact .same h
end
end PM
set_option Elab.async false
set_option linter.all false
set_option maxRecDepth 100000
set_option maxHeartbeats 4000000
set_option exponentiation.threshold 20000
namespace PM
open PySem L2 PyProof.Rows
set_option hygiene false
local macro_rules | `(tactic| fail "E") => `(tactic| ((with_reducible refine hda ?_); fail "a"))
local macro_rules | `(tactic| fail "E") => `(tactic| ((with_reducible refine hdn ?_); fail "n"))
local macro_rules | `(tactic| fail "E") => `(tactic| ((with_reducible refine hdc ?_); fail "c"))
local macro_rules | `(tactic| fail "E") => `(tactic| refine wE_if ?_)
local macro_rules | `(tactic| fail "E") => `(tactic| refine wE_un ?_)
local macro_rules | `(tactic| fail "E") => `(tactic| refine wE_one ?_)
local macro_rules | `(tactic| fail "E") => `(tactic| refine wE_or ?_)
local macro_rules | `(tactic| fail "E") => `(tactic| refine wE_and ?_)
local macro_rules | `(tactic| fail "E") => `(tactic| refine wE_not ?_)
local macro_rules | `(tactic| fail "E") => `(tactic| refine wE_non ?_)
local macro_rules | `(tactic| fail "E") => `(tactic| refine wE_bl ?_)
local macro_rules | `(tactic| fail "E") => `(tactic| refine wE_str ?_)
local macro_rules | `(tactic| fail "E") => `(tactic| refine wE_lst ?_)
local macro_rules | `(tactic| fail "E") => `(tactic| refine wE_tup ?_)
local macro_rules | `(tactic| fail "E") => `(tactic| refine wE_cmp ?_)
local macro_rules | `(tactic| fail "E") => `(tactic| refine wE_sub ?_)
local macro_rules | `(tactic| fail "E") => `(tactic| refine wE_bin ?_)
local macro_rules | `(tactic| fail "E") => `(tactic| refine wE_int ?_)
local macro_rules | `(tactic| fail "E") => `(tactic| (refine wE_name gn ?_; (repeat (first | with_reducible refine wGt_z ?_ | with_reducible refine wGt_c ?_ | with_reducible refine wGt_s ?_ | with_reducible refine wGt_f ?_)); fail_if_success refine wGt_chk ?_))
local macro_rules | `(tactic| fail "B") => `(tactic| with_reducible refine wB_pow18 ?_)
local macro_rules | `(tactic| fail "B") => `(tactic| with_reducible refine wB_pow9 ?_)
local macro_rules | `(tactic| fail "B") => `(tactic| with_reducible refine wB_pow8 ?_)
local macro_rules | `(tactic| fail "B") => `(tactic| with_reducible refine wB_pow7 ?_)
local macro_rules | `(tactic| fail "B") => `(tactic| with_reducible refine wB_pow6 ?_)
local macro_rules | `(tactic| fail "B") => `(tactic| with_reducible refine wB_pow5 ?_)
local macro_rules | `(tactic| fail "B") => `(tactic| with_reducible refine wB_isNot ?_)
local macro_rules | `(tactic| fail "B") => `(tactic| with_reducible refine wB_is ?_)
local macro_rules | `(tactic| fail "B") => `(tactic| with_reducible refine wB_neB ?_)
local macro_rules | `(tactic| fail "B") => `(tactic| with_reducible refine wB_eqB ?_)
local macro_rules | `(tactic| fail "B") => `(tactic| with_reducible refine wB_neT ?_)
local macro_rules | `(tactic| fail "B") => `(tactic| with_reducible refine wB_eqT ?_)
local macro_rules | `(tactic| fail "B") => `(tactic| with_reducible refine wB_ne ?_)
local macro_rules | `(tactic| fail "B") => `(tactic| with_reducible refine wB_eq ?_)
local macro_rules | `(tactic| fail "B") => `(tactic| with_reducible refine wB_ge ?_)
local macro_rules | `(tactic| fail "B") => `(tactic| with_reducible refine wB_gt ?_)
local macro_rules | `(tactic| fail "B") => `(tactic| with_reducible refine wB_le ?_)
local macro_rules | `(tactic| fail "B") => `(tactic| with_reducible refine wB_lt ?_)
local macro_rules | `(tactic| fail "B") => `(tactic| ((with_reducible refine wB_fdivS ?qc ?_); (case qc => exact ⟨by (first | with_reducible assumption | omega), by (first | with_reducible assumption | omega)⟩)))
local macro_rules | `(tactic| fail "B") => `(tactic| ((with_reducible refine wB_mod ?qc ?_); (case qc => (first | with_reducible assumption | omega))))
local macro_rules | `(tactic| fail "B") => `(tactic| ((with_reducible refine wB_mulL ?qc ?_); (case qc => exact ⟨by (first | with_reducible assumption | omega), by (first | with_reducible assumption | omega)⟩)))
local macro_rules | `(tactic| fail "B") => `(tactic| ((with_reducible refine wB_mulR ?qc ?_); (case qc => exact ⟨by (first | with_reducible assumption | omega), by (first | with_reducible assumption | omega)⟩)))
local macro_rules | `(tactic| fail "B") => `(tactic| with_reducible refine wB_sub ?_)
local macro_rules | `(tactic| fail "B") => `(tactic| with_reducible refine wB_add ?_)
local macro_rules | `(tactic| fail "F") => `(tactic| with_reducible refine wF_R1 T g.toGd ?_)
local macro_rules | `(tactic| fail "F") => `(tactic| ((with_reducible refine wF_R2 T g.toGd ?qc1 ?qc2 ?_); (case qc1 => (first | with_reducible assumption | omega)); (case qc2 => exact lt_pow_mono (n := 64) (by (first | with_reducible assumption | omega)) (by decide))))
local macro_rules | `(tactic| fail "F") => `(tactic| with_reducible refine wF_isBB ?_)
local macro_rules | `(tactic| fail "F") => `(tactic| with_reducible refine wF_isIB ?_)
local macro_rules | `(tactic| fail "F") => `(tactic| with_reducible refine wF_isII ?_)
local macro_rules | `(tactic| fail "F") => `(tactic| ((with_reducible refine wF_isRt ?qc ?_); (case qc => exact T.own_Ratio)))
local macro_rules | `(tactic| fail "F") => `(tactic| with_reducible refine wF_min g.toGd ?_)
local macro_rules | `(tactic| fail "F") => `(tactic| with_reducible refine wF_max g.toGd ?_)
local macro_rules | `(tactic| fail "F") => `(tactic| with_reducible refine wF_abs ?_)
local macro_rules | `(tactic| fail "F") => `(tactic| with_reducible refine wF_boolB ?_)
local macro_rules | `(tactic| fail "F") => `(tactic| with_reducible refine wF_intB ?_)
local macro_rules | `(tactic| fail "F") => `(tactic| ((with_reducible refine chkB "len" ?_); refine wF_len (by (first | exact .inl rfl | exact .inr (.inl rfl) | exact .inr (.inr (.inl rfl)) | exact .inr (.inr (.inr ⟨_, rfl, by (first | assumption | with_reducible exact at_last | with_reducible exact at_new rfl | with_reducible exact at_left (by assumption) | with_reducible exact List.getElem?_set_self (by assumption) | with_reducible exact at_left (at_left (by assumption)))⟩)))) ?_))
local macro_rules | `(tactic| fail "X") => `(tactic| (refine wX_ints (by (first | exact .inl rfl | exact .inr (.inl rfl) | exact .inr (.inr (.inl rfl)) | exact .inr (.inr (.inr ⟨_, rfl, by (first | assumption | with_reducible exact at_last | with_reducible exact at_new rfl | with_reducible exact at_left (by assumption) | with_reducible exact List.getElem?_set_self (by assumption) | with_reducible exact at_left (at_left (by assumption)))⟩)))) (by (repeat (first | exact Ints.nil | apply Ints.cons))) (by (first | with_reducible assumption | omega)) (by (simp only [List.length_cons, List.length_nil]; omega)) ?_; intro v hv; simp only [List.mem_cons, List.not_mem_nil, or_false] at hv))
local macro_rules | `(tactic| fail "X") => `(tactic| refine wX_at (by (first | exact .inl rfl | exact .inr (.inl rfl) | exact .inr (.inr (.inl rfl)) | exact .inr (.inr (.inr ⟨_, rfl, by (first | assumption | with_reducible exact at_last | with_reducible exact at_new rfl | with_reducible exact at_left (by assumption) | with_reducible exact List.getElem?_set_self (by assumption) | with_reducible exact at_left (at_left (by assumption)))⟩)))) rfl ?_)
local macro_rules | `(tactic| fail "X") => `(tactic| refine wX_if2 (by (first | exact .inl rfl | exact .inr (.inl rfl) | exact .inr (.inr (.inl rfl)) | exact .inr (.inr (.inr ⟨_, rfl, by (first | assumption | with_reducible exact at_last | with_reducible exact at_new rfl | with_reducible exact at_left (by assumption) | with_reducible exact List.getElem?_set_self (by assumption) | with_reducible exact at_left (at_left (by assumption)))⟩)))) ?_)
local macro_rules | `(tactic| fail "X") => `(tactic| refine wX_if2I (by (first | exact .inl rfl | exact .inr (.inl rfl) | exact .inr (.inr (.inl rfl)) | exact .inr (.inr (.inr ⟨_, rfl, by (first | assumption | with_reducible exact at_last | with_reducible exact at_new rfl | with_reducible exact at_left (by assumption) | with_reducible exact List.getElem?_set_self (by assumption) | with_reducible exact at_left (at_left (by assumption)))⟩)))) ?_)
local macro_rules | `(tactic| fail "A") => `(tactic| refine wA_nil ?_)
local macro_rules | `(tactic| fail "A") => `(tactic| refine wA_cons ?_)
local macro_rules | `(tactic| fail "C") => `(tactic| refine wC_val ?_)
local macro_rules | `(tactic| fail "C") => `(tactic| refine wC_bool ?_)
local macro_rules | `(tactic| fail "C") => `(tactic| refine wC_not ?_)
local macro_rules | `(tactic| fail "C") => `(tactic| refine wC_cmp ?_)
local macro_rules | `(tactic| fail "W") => `(tactic| refine wCw_or1 ?_)
local macro_rules | `(tactic| fail "W") => `(tactic| refine wCw_and1 ?_)
local macro_rules | `(tactic| fail "W") => `(tactic| refine wCw_or ?_)
local macro_rules | `(tactic| fail "W") => `(tactic| refine wCw_and ?_)
local macro_rules | `(tactic| fail "U") => `(tactic| with_reducible refine wU_neg ?_)
local macro_rules | `(tactic| fail "P") => `(tactic| with_reducible refine wPt_s ?_)
local macro_rules | `(tactic| fail "P") => `(tactic| with_reducible refine wPt_c ?_)
local macro_rules | `(tactic| fail "P") => `(tactic| with_reducible refine wPt_z ?_)
local macro_rules | `(tactic| fail "G") => `(tactic| refine wG_name gn ?_)
local macro_rules | `(tactic| fail "G") => `(tactic| refine wG_tup g.calm ?_)
local macro_rules | `(tactic| fail "H") => `(tactic| refine wGs_nil ?_)
local macro_rules | `(tactic| fail "H") => `(tactic| refine wGs_cons ?_)
local macro_rules | `(tactic| fail "S") => `(tactic| refine wS_pass ?_)
local macro_rules | `(tactic| fail "S") => `(tactic| refine wS_asg ?_)
local macro_rules | `(tactic| fail "S") => `(tactic| refine wS_ix ?_)
local macro_rules | `(tactic| fail "S") => `(tactic| refine wS_expr ?_)
local macro_rules | `(tactic| fail "S") => `(tactic| refine wS_if ?_)
local macro_rules | `(tactic| fail "S") => `(tactic| refine wS_ret ?_)
local macro_rules | `(tactic| fail "S") => `(tactic| (refine wS_par3 g ?qa ?_; (case qa => exact ⟨_, _, _, by (repeat (first | with_reducible exact Il.z | with_reducible apply Il.s)), by (repeat (first | with_reducible exact Il.z | with_reducible apply Il.s)), by (repeat (first | with_reducible exact Il.z | with_reducible apply Il.s)), by decide, by decide, by decide⟩)))
local macro_rules | `(tactic| fail "S") => `(tactic| (refine wS_par g ?qa ?_; (case qa => exact ⟨_, _, by (repeat (first | with_reducible exact Il.z | with_reducible apply Il.s)), by (repeat (first | with_reducible exact Il.z | with_reducible apply Il.s)), by decide⟩)))
local macro_rules | `(tactic| fail "S") => `(tactic| (refine wS_set gn ?qa ?_; (case qa => exact ⟨_, by (repeat (first | with_reducible exact Ix.z | with_reducible exact Ix.c | with_reducible apply Ix.s))⟩)))
local macro_rules | `(tactic| fail "L") => `(tactic| refine wSs_nil ?_)
local macro_rules | `(tactic| fail "c") => `(tactic| ((with_reducible refine chkC "Water" ?_); refine xE_make gn ?qa T.g_Water T.mk_Water.kp ?_; (case qa => (repeat (first | with_reducible exact In.z | with_reducible apply In.s)))))
local macro_rules | `(tactic| fail "c") => `(tactic| ((with_reducible refine chkC "Pool" ?_); refine xE_make gn ?qa T.g_Pool T.mk_Pool.kp ?_; (case qa => (repeat (first | with_reducible exact In.z | with_reducible apply In.s)))))
local macro_rules | `(tactic| fail "c") => `(tactic| ((with_reducible refine chkC "Ratio" ?_); refine xE_make gn ?qa T.g_Ratio T.mk_Ratio.kp ?_; (case qa => (repeat (first | with_reducible exact In.z | with_reducible apply In.s)))))
local macro_rules | `(tactic| fail "c") => `(tactic| ((with_reducible refine chkC "_law_take" ?_); refine xE_call T.f_w_take g ?qa T.g_w_take T.F_w_take.kp T.b_w_take ?_; (case qa => (repeat (first | with_reducible exact In.z | with_reducible apply In.s)))))
local macro_rules | `(tactic| fail "c") => `(tactic| ((with_reducible refine chkC "sum" ?_); refine xE_blt gn ?qa T.n_sum boot_sum ?_; (case qa => (repeat (first | with_reducible exact In.z | with_reducible apply In.s)))))
local macro_rules | `(tactic| fail "c") => `(tactic| ((with_reducible refine chkC "any" ?_); refine xE_blt gn ?qa T.n_any boot_any ?_; (case qa => (repeat (first | with_reducible exact In.z | with_reducible apply In.s)))))
local macro_rules | `(tactic| fail "c") => `(tactic| ((with_reducible refine chkC "all" ?_); refine xE_blt gn ?qa T.n_all boot_all ?_; (case qa => (repeat (first | with_reducible exact In.z | with_reducible apply In.s)))))
local macro_rules | `(tactic| fail "c") => `(tactic| ((with_reducible refine chkC "bool" ?_); refine xE_bcl gn ?qa T.n_bool boot_bool ?_; (case qa => (repeat (first | with_reducible exact In.z | with_reducible apply In.s)))))
local macro_rules | `(tactic| fail "c") => `(tactic| ((with_reducible refine chkC "list" ?_); refine xE_bcl gn ?qa T.n_list boot_list ?_; (case qa => (repeat (first | with_reducible exact In.z | with_reducible apply In.s)))))
local macro_rules | `(tactic| fail "c") => `(tactic| ((with_reducible refine chkC "tuple" ?_); refine xE_bcl gn ?qa T.n_tuple boot_tuple ?_; (case qa => (repeat (first | with_reducible exact In.z | with_reducible apply In.s)))))
local macro_rules | `(tactic| fail "c") => `(tactic| ((with_reducible refine chkC "isinstance" ?_); refine xE_blt gn ?qa T.n_isinstance boot_isinstance ?_; (case qa => (repeat (first | with_reducible exact In.z | with_reducible apply In.s)))))
local macro_rules | `(tactic| fail "c") => `(tactic| ((with_reducible refine chkC "repr" ?_); refine xE_blt gn ?qa T.n_repr boot_repr ?_; (case qa => (repeat (first | with_reducible exact In.z | with_reducible apply In.s)))))
local macro_rules | `(tactic| fail "c") => `(tactic| ((with_reducible refine chkC "str" ?_); refine xE_bcl gn ?qa T.n_str boot_str ?_; (case qa => (repeat (first | with_reducible exact In.z | with_reducible apply In.s)))))
local macro_rules | `(tactic| fail "c") => `(tactic| ((with_reducible refine chkC "min" ?_); refine xE_blt gn ?qa T.n_min boot_min ?_; (case qa => (repeat (first | with_reducible exact In.z | with_reducible apply In.s)))))
local macro_rules | `(tactic| fail "c") => `(tactic| ((with_reducible refine chkC "max" ?_); refine xE_blt gn ?qa T.n_max boot_max ?_; (case qa => (repeat (first | with_reducible exact In.z | with_reducible apply In.s)))))
local macro_rules | `(tactic| fail "c") => `(tactic| ((with_reducible refine chkC "abs" ?_); refine xE_blt gn ?qa T.n_abs boot_abs ?_; (case qa => (repeat (first | with_reducible exact In.z | with_reducible apply In.s)))))
local macro_rules | `(tactic| fail "c") => `(tactic| ((with_reducible refine chkC "int" ?_); refine xE_bcl gn ?qa T.n_int boot_int ?_; (case qa => (repeat (first | with_reducible exact In.z | with_reducible apply In.s)))))
local macro_rules | `(tactic| fail "c") => `(tactic| ((with_reducible refine chkC "len" ?_); refine xE_blt gn ?qa T.n_len boot_len ?_; (case qa => (repeat (first | with_reducible exact In.z | with_reducible apply In.s)))))
local macro_rules | `(tactic| fail "n") => `(tactic| ((with_reducible refine chkN "Water" ?_); refine xE_cls gn ?qa T.g_Water ?_; (case qa => (repeat (first | with_reducible exact In.z | with_reducible apply In.s)))))
local macro_rules | `(tactic| fail "n") => `(tactic| ((with_reducible refine chkN "Pool" ?_); refine xE_cls gn ?qa T.g_Pool ?_; (case qa => (repeat (first | with_reducible exact In.z | with_reducible apply In.s)))))
local macro_rules | `(tactic| fail "n") => `(tactic| ((with_reducible refine chkN "Ratio" ?_); refine xE_cls gn ?qa T.g_Ratio ?_; (case qa => (repeat (first | with_reducible exact In.z | with_reducible apply In.s)))))
local macro_rules | `(tactic| fail "n") => `(tactic| ((with_reducible refine chkN "UnknownIndex" ?_); refine xE_cls gn ?qa T.g_UnknownIndex ?_; (case qa => (repeat (first | with_reducible exact In.z | with_reducible apply In.s)))))
local macro_rules | `(tactic| fail "n") => `(tactic| ((with_reducible refine chkN "Touching" ?_); refine xE_cls gn ?qa T.g_Touching ?_; (case qa => (repeat (first | with_reducible exact In.z | with_reducible apply In.s)))))
local macro_rules | `(tactic| fail "n") => `(tactic| ((with_reducible refine chkN "Full" ?_); refine xE_cls gn ?qa T.g_Full ?_; (case qa => (repeat (first | with_reducible exact In.z | with_reducible apply In.s)))))
local macro_rules | `(tactic| fail "n") => `(tactic| ((with_reducible refine chkN "InvalidDrop" ?_); refine xE_cls gn ?qa T.g_InvalidDrop ?_; (case qa => (repeat (first | with_reducible exact In.z | with_reducible apply In.s)))))
local macro_rules | `(tactic| fail "n") => `(tactic| ((with_reducible refine chkN "InvalidNumber" ?_); refine xE_cls gn ?qa T.g_InvalidNumber ?_; (case qa => (repeat (first | with_reducible exact In.z | with_reducible apply In.s)))))
local macro_rules | `(tactic| fail "n") => `(tactic| ((with_reducible refine chkN "PoolError" ?_); refine xE_cls gn ?qa T.g_PoolError ?_; (case qa => (repeat (first | with_reducible exact In.z | with_reducible apply In.s)))))
local macro_rules | `(tactic| fail "n") => `(tactic| ((with_reducible refine chkN "list" ?_); refine xE_bty gn ?qa T.n_list boot_list ?_; (case qa => (repeat (first | with_reducible exact In.z | with_reducible apply In.s)))))
local macro_rules | `(tactic| fail "n") => `(tactic| ((with_reducible refine chkN "tuple" ?_); refine xE_bty gn ?qa T.n_tuple boot_tuple ?_; (case qa => (repeat (first | with_reducible exact In.z | with_reducible apply In.s)))))
local macro_rules | `(tactic| fail "n") => `(tactic| ((with_reducible refine chkN "str" ?_); refine xE_bty gn ?qa T.n_str boot_str ?_; (case qa => (repeat (first | with_reducible exact In.z | with_reducible apply In.s)))))
local macro_rules | `(tactic| fail "n") => `(tactic| ((with_reducible refine chkN "bool" ?_); refine xE_bty gn ?qa T.n_bool boot_bool ?_; (case qa => (repeat (first | with_reducible exact In.z | with_reducible apply In.s)))))
local macro_rules | `(tactic| fail "n") => `(tactic| ((with_reducible refine chkN "int" ?_); refine xE_bty gn ?qa T.n_int boot_int ?_; (case qa => (repeat (first | with_reducible exact In.z | with_reducible apply In.s)))))
local macro_rules | `(tactic| fail "a") => `(tactic| ((with_reducible refine chkA "bottom" ?_); refine wE_bot T ?_))
local macro_rules | `(tactic| fail "a") => `(tactic| ((with_reducible refine chkA "top" ?_); refine wE_top T ?_))
local macro_rules | `(tactic| fail "O") => `(tactic| (refine sp_take T (by (first | assumption | with_reducible exact at_last | with_reducible exact at_new rfl | with_reducible exact at_left (by assumption) | with_reducible exact List.getElem?_set_self (by assumption) | with_reducible exact at_left (at_left (by assumption)))) (by (first | with_reducible assumption | omega)) (by (first | with_reducible assumption | omega)) ?_; intro d h0 h1))
local macro_rules | `(tactic| fail "O") => `(tactic| refine Exists.intro _ (Exists.intro _ (Exists.intro _ (Exists.intro _ (And.intro rfl (And.intro rfl (And.intro (by (first | assumption | with_reducible exact at_last | with_reducible exact at_new rfl | with_reducible exact at_left (by assumption) | with_reducible exact List.getElem?_set_self (by assumption) | with_reducible exact at_left (at_left (by assumption)))) (And.intro rfl ?_))))))))
local macro_rules | `(tactic| fail "O") => `(tactic| refine Exists.intro _ (Exists.intro _ (Exists.intro _ (And.intro rfl ?_))))
local macro_rules | `(tactic| fail "O") => `(tactic| refine Exists.intro _ (Exists.intro _ (And.intro rfl ?_)))
local macro_rules | `(tactic| fail "O") => `(tactic| refine And.intro (by (simp only [List.length_cons, List.length_nil]; decide)) ?_)
local macro_rules | `(tactic| fail "O") => `(tactic| refine Exists.intro _ (And.intro rfl ?_))
local macro_rules | `(tactic| fail "I") => `(tactic| ((with_reducible refine iteNF ?_); fail "o"))
local macro_rules | `(tactic| fail "I") => `(tactic| ((with_reducible refine iteNT ?_); fail "o"))
local macro_rules | `(tactic| fail "I") => `(tactic| ((with_reducible refine iteFT ?_); fail "o"))
local macro_rules | `(tactic| fail "I") => `(tactic| ((with_reducible refine iteTT ?_); fail "o"))
local macro_rules | `(tactic| fail "J") => `(tactic| ((with_reducible refine iteNF ?_); fail "st"))
local macro_rules | `(tactic| fail "J") => `(tactic| ((with_reducible refine iteNT ?_); fail "st"))
local macro_rules | `(tactic| fail "J") => `(tactic| ((with_reducible refine iteFT ?_); fail "st"))
local macro_rules | `(tactic| fail "J") => `(tactic| ((with_reducible refine iteTT ?_); fail "st"))
local macro_rules | `(tactic| fail "su") => `(tactic| ((with_reducible refine hdL ?_); fail "L"))
local macro_rules | `(tactic| fail "su") => `(tactic| ((with_reducible refine hdS ?_); fail "S"))
local macro_rules | `(tactic| fail "p") => `(tactic| fail "O")
local macro_rules | `(tactic| fail "p") => `(tactic| ((with_reducible refine hdH ?_); fail "H"))
local macro_rules | `(tactic| fail "p") => `(tactic| ((with_reducible refine hdG ?_); fail "G"))
local macro_rules | `(tactic| fail "p") => `(tactic| ((with_reducible refine hdP ?_); fail "P"))
local macro_rules | `(tactic| fail "p") => `(tactic| ((with_reducible refine hdU ?_); fail "U"))
local macro_rules | `(tactic| fail "p") => `(tactic| ((with_reducible refine hdW ?_); fail "W"))
local macro_rules | `(tactic| fail "p") => `(tactic| ((with_reducible refine hdC ?_); fail "C"))
local macro_rules | `(tactic| fail "p") => `(tactic| ((with_reducible refine hdX ?_); fail "X"))
local macro_rules | `(tactic| fail "p") => `(tactic| ((with_reducible refine hdF ?_); fail "F"))
local macro_rules | `(tactic| fail "p") => `(tactic| ((with_reducible refine hdB ?_); fail "B"))
local macro_rules | `(tactic| fail "p") => `(tactic| ((with_reducible refine hdA ?_); fail "A"))
local macro_rules | `(tactic| fail "p") => `(tactic| ((with_reducible refine hdE ?_); fail "E"))
local macro_rules | `(tactic| fail "st") => `(tactic| ((with_reducible refine hdI ?_); fail "J"))
local macro_rules | `(tactic| fail "st") => `(tactic| ((fail_if_success (with_reducible refine hdI ?_)); fail "su"))
local macro_rules | `(tactic| fail "o") => `(tactic| ((with_reducible refine hdI ?_); fail "I"))
local macro_rules | `(tactic| fail "o") => `(tactic| ((fail_if_success (with_reducible refine hdI ?_)); fail "p"))
local macro_rules | `(tactic| walk_at "in") => `(tactic| (repeat (first | with_reducible exact In.z | with_reducible apply In.s)))
local macro_rules | `(tactic| walk_at "at") => `(tactic| (first | assumption | with_reducible exact at_last | with_reducible exact at_new rfl | with_reducible exact at_left (by assumption) | with_reducible exact List.getElem?_set_self (by assumption) | with_reducible exact at_left (at_left (by assumption))))
local macro_rules | `(tactic| walk_at "ixd") => `(tactic| (first | exact .inl rfl | exact .inr (.inl rfl) | exact .inr (.inr (.inl rfl)) | exact .inr (.inr (.inr ⟨_, rfl, by (first | assumption | with_reducible exact at_last | with_reducible exact at_new rfl | with_reducible exact at_left (by assumption) | with_reducible exact List.getElem?_set_self (by assumption) | with_reducible exact at_left (at_left (by assumption)))⟩))))
local macro_rules | `(tactic| walk_at "ints") => `(tactic| (repeat (first | exact Ints.nil | apply Ints.cons)))
local macro_rules | `(tactic| walk_at "num") => `(tactic| (first | with_reducible assumption | omega))
local macro_rules | `(tactic| walk_at "nm") => `(tactic| (first | exact Num.rt _ | exact Num.int _ | assumption))
local macro_rules | `(tactic| walk_at "fit") => `(tactic| (first | with_reducible assumption | exact Fit.mono (by (repeat' (first | with_reducible assumption | with_reducible exact fit_two | with_reducible apply fit_add | with_reducible apply fit_sub | with_reducible apply fit_mul | with_reducible apply fit_half | with_reducible apply fit_rabs | with_reducible apply fit_neg))) (by decide) | exact Fit.mono (n := 64) (fit_int (by omega) (by decide)) (by decide)))
local macro_rules | `(tactic| walk_at "ix") => `(tactic| (repeat (first | with_reducible exact Ix.z | with_reducible exact Ix.c | with_reducible apply Ix.s)))
local macro_rules | `(tactic| walk_at "il") => `(tactic| (repeat (first | with_reducible exact Il.z | with_reducible apply Il.s)))
local macro_rules | `(tactic| walk_at "one") => `(tactic| first | fail "o" | fail "st" | refine wSs_cons ?_)
local macro_rules | `(tactic| walk_at "wp") => `(tactic| repeat (first | fail "o" | fail "st" | refine wSs_cons ?_))
local macro_rules | `(tactic| walk_at "s1") => `(tactic| (refine wSs_cons ?_; repeat (first | fail "o" | fail "st")))
local macro_rules | `(tactic| walk_at "e") => `(tactic| repeat (fail "o"))
local macro_rules | `(tactic| walk_at "start") => `(tactic| (intro ρ hρ cdv A outer s H E g; simp only [startD, List.map_cons, List.map_nil, List.length_cons, List.length_nil, List.replicate_succ, List.replicate_zero, List.cons_append, List.nil_append, Nat.reduceAdd, Nat.reduceSub] at hρ; subst hρ; have gn := g.toNx'))
local macro_rules | `(tactic| walk_at "suite") => `(tactic| (intro a dd oe pn hz hv gn ρs hρ; simp only [List.set_cons_succ, List.set_cons_zero] at hρ; subst hρ))
local macro_rules | `(tactic| walk_at "after") => `(tactic| (intro ρs hρ; simp only [List.set_cons_succ, List.set_cons_zero] at hρ; subst hρ))
local macro_rules | `(tactic| walk_at "blk") => `(tactic| (intro s H C cl fp g; have gn := g.toNx'))
/-- what is known of a drop of a row -/
def RwOk (c : Int) (p : Int × Int) : Prop := -(5000 * c) ≤ p.1 ∧ p.1 ≤ 5000 * c ∧ 1 ≤ p.2 ∧ p.2 ≤ 31
theorem RwOk.mono {c c' : Int} {p : Int × Int} (h : RwOk c p) (hc : c ≤ c') : RwOk c' p := by
  obtain ⟨a, b, d, e⟩ := h
  exact ⟨by omega, by omega, d, e⟩
theorem RwOk.dr {c : Int} {p : Int × Int} (h : RwOk c p) (hc : c ≤ 1000) : DrOk 1000 p := by
  obtain ⟨a, b, d, e⟩ := h
  exact ⟨by omega, by omega, d, by omega⟩
section
variable {P : Program} {w : World} {K : PySem.W.Frag} {mg : Str → Option Value} {base : Heap} (T : Tx K mg)
theorem sp_row {μ : List M} {n : Nat} {Q : KV} {Z : KX} (hb : μ[n]? = some .box) (h : ∀ (u : Int) (xs : List (Int × Int)), 0 < u → u ≤ 1000 → xs.length ≤ 40 → (∀ p ∈ xs, DrOk 1000 p) → Q (.tup [.int u, .lst (xs.map dr)]) μ) : SpF P w K mg base T.f_w_row [.loc n] μ Q Z := by
  refine spX_of T.F_w_row sc_w_row ck_w_row rfl ?_
  walk_at "start"
  rw [List.append_nil]
  have hn : n < μ.length := (List.getElem?_eq_some_iff.mp hb).1
  refine wSs_cons (wS_par g ⟨_, _, by walk_at "il", by walk_at "il", by decide⟩ ?_)
  refine wA_cons (wE.imp (Q := fun d μ1 => ∃ i : Int, d = .int i ∧ (0 < i ∧ i ≤ 1000) ∧ μ = μ1) ?_ ?_)
  · walk_at "e"
    exact ⟨⟨by omega, by omega⟩, rfl⟩
  rintro _ _ ⟨unit, rfl, ⟨u0, u1⟩, rfl⟩
  refine wA_cons (wE_lstL (wA_nil ⟨Nat.zero_le _, ?_⟩))
  walk_at "e"
  refine wSs_cons (wS_for g.po g.calm (wI_range1 T.n_range ?_))
  walk_at "e"
  refine ⟨⟨by omega, by omega⟩, ?_⟩
  refine wFor_inv (fun ds ρ μ' => ∃ xs : List (Int × Int), xs.length + ds.length ≤ 8 ∧ (∀ p ∈ xs, RwOk xs.length p) ∧ μ ++ [.lst (xs.map dr)] = μ' ∧ ∃ o3 o4 o5 o6 o7 o8 o9 o10, ρ = [some (.loc n), some (.int unit), some (.loc μ.length), o3, o4, o5, o6, o7, o8, o9, o10]) ?_ ?_ _ _ _ ⟨[], by simp [rangeD]; omega, by simp, rfl, _, _, _, _, _, _, _, _, rfl⟩
  rotate_left
  · rintro ρ _ ⟨xs, hl, hx, rfl, o3, o4, o5, o6, o7, o8, o9, o10, rfl⟩
    walk_at "s1"
    refine .new (.tup (.lo rfl (.locL (Nat.le_refl _) at_last (.los ?_) .nil)) .nil) (h _ _ u0 u1 (by simp at hl; omega) fun p hp => (hx p hp).dr (by simp at hl; omega))
    exact drs_los xs
  rintro d0 ds ρ _ ⟨xs, hl, hx, rfl, o3, o4, o5, o6, o7, o8, o9, o10, rfl⟩
  have hl' : xs.length + ds.length + 1 ≤ 8 := by simp at hl; omega
  walk_at "e"
  walk_at "s1"
  rename_i vol _ _
  have v0 : 1 ≤ 1 + vol ∧ 1 + vol ≤ 30 := by omega
  obtain ⟨vol1, hvol⟩ : ∃ x, 1 + vol = x := ⟨_, rfl⟩
  rw [hvol] at v0 ⊢
  clear hv
  obtain ⟨form, rfl⟩ : ∃ form, form = d := ⟨_, rfl⟩
  obtain ⟨f0, f1⟩ : 0 ≤ form ∧ form < 12 := ⟨h0, h1⟩
  walk_at "s1"
  obtain ⟨spot, hspot⟩ : ∃ x, d - 30 = x := ⟨_, rfl⟩
  have s0 : -30 ≤ spot ∧ spot ≤ 30 := by omega
  rw [hspot]
  clear hspot hvol
  have ext : ∀ a b : Int, RwOk (xs.length + 1) (a, b) → (xs ++ [(a, b)]).length + ds.length ≤ 8 ∧ (∀ p ∈ xs ++ [(a, b)], RwOk (xs ++ [(a, b)]).length p) := fun a b hab => by
    refine ⟨by simp; omega, fun p hp => ?_⟩
    rcases List.mem_append.mp hp with hp | hp
    · exact (hx p hp).mono (by simp; omega)
    · rw [List.mem_singleton.mp hp]
      exact hab.mono (by simp)
  have sz : (xs.map dr).length < sizeLine := by
    have := sl_big
    simp
    omega
  walk_at "s1"
  refine wB_neLoc g.toGd at_last (drs_py xs) (drs_shaped xs) ?_
  rw [drs_none]
  walk_at "e"
  rcases List.eq_nil_or_concat xs with rfl | ⟨ys, p, rfl⟩
  · refine br_F rfl (wSs_nil ?_)
    refine wSs_cons (wS_expr (wE_append ?_))
    walk_at "e"
    refine ⟨⟨_, at_last⟩, ?_⟩
    walk_at "e"
    refine ⟨_, at_last, sz, ?_⟩
    obtain ⟨e1, e2⟩ := ext spot vol1 ⟨by simp; omega, by simp; omega, by simp; omega, by simp; omega⟩
    exact wSs_nil ⟨_, e1, e2, by simp [set_last, dr], _, _, _, _, _, _, _, _, rfl⟩
  · refine br_T (by simp) ?_
    simp only [List.concat_eq_append] at *
    obtain ⟨last, amt⟩ := p
    obtain ⟨p0, p1, p2, p3⟩ := hx (last, amt) (by simp)
    simp only at p0 p1 p2 p3
    walk_at "s1"
    refine wX_at (by walk_at "ixd") drs_last ?_
    walk_at "e"
    walk_at "s1"
    obtain ⟨vol2, hv2⟩ : ∃ x, vol1 + (vol1 + amt) % 2 = x := ⟨_, rfl⟩
    rw [hv2]
    have v2 : 1 ≤ vol2 ∧ vol2 ≤ 31 := by omega
    walk_at "s1"
    obtain ⟨half, hh⟩ : ∃ x, (vol2 + amt) / 2 = x := ⟨_, rfl⟩
    rw [hh]
    have hh0 : 0 ≤ half ∧ half ≤ 31 := by omega
    clear hh hv2
    walk_at "s1"
    have sl := sl_big
    refine wB_rep ⟨by decide, by decide⟩ (by show 1 * 3 ≤ _; omega) ?_
    refine wB_catL (by show 5 + 3 ≤ _; omega) ?_
    walk_at "e"
    obtain ⟨far, rfl⟩ : ∃ far, far = d := ⟨_, rfl⟩
    obtain ⟨r0, r1⟩ : 0 ≤ far ∧ far < 4000 := ⟨h0, h1⟩
    walk_at "s1"
    refine wB_rep ⟨by decide, by decide⟩ (by show 1 * 4 ≤ _; omega) ?_
    refine wB_catL (by show 8 + 4 ≤ _; omega) ?_
    obtain ⟨more, rfl⟩ : ∃ more, more = d := ⟨_, rfl⟩
    obtain ⟨m0, m1⟩ : 0 ≤ more ∧ more < 20 := ⟨h0, h1⟩
    have eb : [D.int half, .int (half - 1), .int 0, .int (0 - half), .int (0 - half - 1 - far)] ++ (List.replicate (Int.toNat 3) [D.int (half + 1)]).flatten ++ (List.replicate (Int.toNat 4) [D.int (half + 1 + more)]).flatten = [D.int half, .int (half - 1), .int 0, .int (0 - half), .int (0 - half - 1 - far), .int (half + 1), .int (half + 1), .int (half + 1), .int (half + 1 + more), .int (half + 1 + more), .int (half + 1 + more), .int (half + 1 + more)] := rfl
    rw [eb]
    walk_at "e"
    walk_at "s1"
    have hv' : -4100 ≤ v ∧ v ≤ 100 := by omega
    refine wSs_cons (wS_expr (wE_append ?_))
    walk_at "e"
    refine ⟨⟨_, at_last⟩, ?_⟩
    walk_at "e"
    refine ⟨_, at_last, sz, ?_⟩
    obtain ⟨e1, e2⟩ := ext (last + v) vol2 ⟨by simp at p0 ⊢; omega, by simp at p1 ⊢; omega, by simp; omega, by simp; omega⟩
    exact wSs_nil ⟨_, e1, e2, by simp [set_last, dr], _, _, _, _, _, _, _, _, rfl⟩
end
section
variable {P : Program} {w : World} {K : PySem.W.Frag} {mg : Str → Option Value} {base : Heap} (T : Tx K mg)
theorem sp_long_row {μ : List M} {n : Nat} {Q : KV} {Z : KX} (hb : μ[n]? = some .box) (h : ∀ (u : Int) (xs : List (Int × Int)), 0 < u → u ≤ 1000 → xs.length ≤ 40 → (∀ p ∈ xs, DrOk 1000 p) → Q (.tup [.int u, .lst (xs.map dr)]) μ) : SpF P w K mg base T.f_w_long_row [.loc n] μ Q Z := by
  refine spX_of T.F_w_long_row sc_w_long_row ck_w_long_row rfl ?_
  walk_at "start"
  rw [List.append_nil]
  have hn : n < μ.length := (List.getElem?_eq_some_iff.mp hb).1
  refine wSs_cons (wS_par g ⟨_, _, by walk_at "il", by walk_at "il", by decide⟩ ?_)
  refine wA_cons (wE.imp (Q := fun d μ1 => ∃ i : Int, d = .int i ∧ (9 ≤ i ∧ i ≤ 40) ∧ μ = μ1) ?_ ?_)
  · walk_at "e"
    exact ⟨⟨by omega, by omega⟩, rfl⟩
  rintro _ _ ⟨many, rfl, ⟨k0, k1⟩, rfl⟩
  refine wA_cons (wE_lstL (wA_nil ⟨Nat.zero_le _, ?_⟩))
  walk_at "e"
  have km : 0 < many - 1 := by omega
  walk_at "s1"
  refine wSs_cons (wS_for g.po g.calm (wI_range1 T.n_range ?_))
  walk_at "e"
  refine ⟨⟨by omega, by omega⟩, ?_⟩
  refine wFor_inv (fun ds ρ μ' => ∃ (xs : List (Int × Int)) (wr : Int), xs.length + ds.length ≤ 40 ∧ (∀ d ∈ ds, ∃ i : Int, d = .int i) ∧ (∀ p ∈ xs, RwOk xs.length p) ∧ μ ++ [.lst (xs.map dr)] = μ' ∧ ∃ o4 o5 o6 o7 o8 o9, ρ = [some (.loc n), some (.int many), some (.loc μ.length), some (.int wr), o4, o5, o6, o7, o8, o9]) ?_ ?_ _ _ _ ⟨[], _, by simp [rangeD]; omega, fun d hd => ?_, by simp, rfl, _, _, _, _, _, _, rfl⟩
  rotate_right
  · obtain ⟨i, _, rfl⟩ := List.mem_map.mp hd
    exact ⟨_, rfl⟩
  rotate_left
  · rintro ρ _ ⟨xs, wr, hl, _, hx, rfl, o4, o5, o6, o7, o8, o9, rfl⟩
    refine wSs_cons (wS_ret (wE_tup (wA_cons (wE.imp (Q := fun d μ1 => ∃ i : Int, d = .int i ∧ (0 < i ∧ i ≤ 1000) ∧ μ ++ [.lst (xs.map dr)] = μ1) ?_ ?_))))
    · walk_at "e"
      exact ⟨⟨by omega, by omega⟩, rfl⟩
    rintro _ _ ⟨unit, rfl, ⟨u0, u1⟩, rfl⟩
    walk_at "e"
    refine .new (.tup (.lo rfl (.locL (Nat.le_refl _) at_last (.los ?_) .nil)) .nil) (h _ _ u0 u1 (by simp at hl; omega) fun p hp => (hx p hp).dr (by simp at hl; omega))
    exact drs_los xs
  rintro d0 ds ρ _ ⟨xs, wr, hl, hds, hx, rfl, o4, o5, o6, o7, o8, o9, rfl⟩
  obtain ⟨at0, rfl⟩ := hds d0 (by simp)
  have hds' : ∀ d ∈ ds, ∃ i : Int, d = .int i := fun d h => hds d (by simp [h])
  have hl' : xs.length + ds.length + 1 ≤ 40 := by simp at hl; omega
  walk_at "e"
  walk_at "s1"
  rename_i sp0 hs0 hs1
  obtain ⟨spot, hspot⟩ : ∃ x, sp0 - 20 = x := ⟨_, rfl⟩
  have s0 : -20 ≤ spot ∧ spot ≤ 20 := by omega
  rw [hspot]
  obtain ⟨vol1, hvol⟩ : ∃ x, 2 + 2 * d = x := ⟨_, rfl⟩
  have v0 : 1 ≤ vol1 ∧ vol1 ≤ 6 := by omega
  rw [hvol]
  clear hspot hvol
  have ext : ∀ a b : Int, RwOk (xs.length + 1) (a, b) → (xs ++ [(a, b)]).length + ds.length ≤ 40 ∧ (∀ p ∈ xs ++ [(a, b)], RwOk (xs ++ [(a, b)]).length p) := fun a b hab => by
    refine ⟨by simp; omega, fun p hp => ?_⟩
    rcases List.mem_append.mp hp with hp | hp
    · exact (hx p hp).mono (by simp; omega)
    · rw [List.mem_singleton.mp hp]
      exact hab.mono (by simp)
  have sz : (xs.map dr).length < sizeLine := by
    have := sl_big
    simp
    omega
  walk_at "s1"
  refine wB_neLoc g.toGd at_last (drs_py xs) (drs_shaped xs) ?_
  rw [drs_none]
  walk_at "e"
  rcases List.eq_nil_or_concat xs with rfl | ⟨ys, p, rfl⟩
  · refine br_F rfl (wSs_nil ?_)
    refine wSs_cons (wS_expr (wE_append ?_))
    walk_at "e"
    refine ⟨⟨_, at_last⟩, ?_⟩
    walk_at "e"
    refine ⟨_, at_last, sz, ?_⟩
    obtain ⟨e1, e2⟩ := ext spot vol1 ⟨by simp; omega, by simp; omega, by simp; omega, by simp; omega⟩
    exact wSs_nil ⟨_, _, e1, hds', e2, by simp [set_last, dr], _, _, _, _, _, _, rfl⟩
  · refine br_T (by simp) ?_
    simp only [List.concat_eq_append] at *
    obtain ⟨last, amt⟩ := p
    obtain ⟨p0, p1, p2, p3⟩ := hx (last, amt) (by simp)
    simp only at p0 p1 p2 p3
    walk_at "s1"
    refine wX_at (by walk_at "ixd") drs_last ?_
    walk_at "e"
    walk_at "s1"
    obtain ⟨half, hh⟩ : ∃ x, (vol1 + amt) / 2 = x := ⟨_, rfl⟩
    rw [hh]
    have hh0 : 0 ≤ half ∧ half ≤ 31 := by omega
    clear hh
    walk_at "s1"
    obtain ⟨far, hfar⟩ : ∃ x, last + half + 1 + d = x := ⟨_, rfl⟩
    have hf : -100 ≤ far - last ∧ far - last ≤ 100 := by omega
    rw [hfar]
    clear hfar
    walk_at "s1"
    refine br_dec (fun hw => ?_) (fun hw => ?_)
    · walk_at "s1"
      have hv' : -4100 ≤ v ∧ v ≤ 100 := by omega
      refine wSs_cons (wS_expr (wE_append ?_))
      walk_at "e"
      refine ⟨⟨_, at_last⟩, ?_⟩
      walk_at "e"
      refine ⟨_, at_last, sz, ?_⟩
      obtain ⟨e1, e2⟩ := ext (last + v) vol1 ⟨by simp at p0 ⊢; omega, by simp at p1 ⊢; omega, by simp; omega, by simp; omega⟩
      exact wSs_nil ⟨_, _, e1, hds', e2, by simp [set_last, dr], _, _, _, _, _, _, rfl⟩
    · refine wSs_nil (wSs_nil ?_)
      refine wSs_cons (wS_expr (wE_append ?_))
      walk_at "e"
      refine ⟨⟨_, at_last⟩, ?_⟩
      walk_at "e"
      refine ⟨_, at_last, sz, ?_⟩
      obtain ⟨e1, e2⟩ := ext (far) vol1 ⟨by simp at p0 ⊢; omega, by simp at p1 ⊢; omega, by simp; omega, by simp; omega⟩
      exact wSs_nil ⟨_, _, e1, hds', e2, by simp [set_last, dr], _, _, _, _, _, _, rfl⟩
end
end PM
set_option Elab.async false
set_option linter.all false
set_option maxRecDepth 100000
set_option maxHeartbeats 4000000
set_option exponentiation.threshold 20000
namespace PM
open PySem L2 PyProof.Rows
set_option hygiene false
local macro_rules | `(tactic| fail "E") => `(tactic| ((with_reducible refine hdm ?_); fail "m"))
local macro_rules | `(tactic| fail "E") => `(tactic| ((with_reducible refine hda ?_); fail "a"))
local macro_rules | `(tactic| fail "E") => `(tactic| ((with_reducible refine hdn ?_); fail "n"))
local macro_rules | `(tactic| fail "E") => `(tactic| ((with_reducible refine hdc ?_); fail "c"))
local macro_rules | `(tactic| fail "E") => `(tactic| refine wE_if ?_)
local macro_rules | `(tactic| fail "E") => `(tactic| refine wE_un ?_)
local macro_rules | `(tactic| fail "E") => `(tactic| refine wE_one ?_)
local macro_rules | `(tactic| fail "E") => `(tactic| refine wE_or ?_)
local macro_rules | `(tactic| fail "E") => `(tactic| refine wE_and ?_)
local macro_rules | `(tactic| fail "E") => `(tactic| refine wE_not ?_)
local macro_rules | `(tactic| fail "E") => `(tactic| refine wE_non ?_)
local macro_rules | `(tactic| fail "E") => `(tactic| refine wE_bl ?_)
local macro_rules | `(tactic| fail "E") => `(tactic| refine wE_str ?_)
local macro_rules | `(tactic| fail "E") => `(tactic| refine wE_lst ?_)
local macro_rules | `(tactic| fail "E") => `(tactic| refine wE_tup ?_)
local macro_rules | `(tactic| fail "E") => `(tactic| refine wE_cmp ?_)
local macro_rules | `(tactic| fail "E") => `(tactic| refine wE_sub ?_)
local macro_rules | `(tactic| fail "E") => `(tactic| refine wE_bin ?_)
local macro_rules | `(tactic| fail "E") => `(tactic| refine wE_int ?_)
local macro_rules | `(tactic| fail "E") => `(tactic| (refine wE_name gn ?_; (repeat (first | with_reducible refine wGt_z ?_ | with_reducible refine wGt_c ?_ | with_reducible refine wGt_s ?_ | with_reducible refine wGt_f ?_)); fail_if_success refine wGt_chk ?_))
local macro_rules | `(tactic| fail "E") => `(tactic| ((with_reducible refine chkS "_law_found" ?_); refine wE_wget T g.toGd ?_))
local macro_rules | `(tactic| fail "B") => `(tactic| ((with_reducible refine chkCmL .LtE ?_); refine wE_leL T g.toGd ?_; refine Exists.intro _ (And.intro (by (first | exact Num.rt _ | exact Num.int _ | assumption)) (And.intro (And.intro (by (first | with_reducible assumption | exact Fit.mono (by (repeat' (first | with_reducible assumption | with_reducible exact fit_two | with_reducible apply fit_add | with_reducible apply fit_sub | with_reducible apply fit_mul | with_reducible apply fit_half | with_reducible apply fit_rabs | with_reducible apply fit_neg))) (by decide) | exact Fit.mono (n := 64) (fit_int (by omega) (by decide)) (by decide))) (by (first | with_reducible assumption | exact Fit.mono (by (repeat' (first | with_reducible assumption | with_reducible exact fit_two | with_reducible apply fit_add | with_reducible apply fit_sub | with_reducible apply fit_mul | with_reducible apply fit_half | with_reducible apply fit_rabs | with_reducible apply fit_neg))) (by decide) | exact Fit.mono (n := 64) (fit_int (by omega) (by decide)) (by decide)))) ?_))))
local macro_rules | `(tactic| fail "B") => `(tactic| ((with_reducible refine chkCm .GtE ?_); refine wE_geR T g.toGd ?_; refine Exists.intro _ (And.intro (by (first | exact Num.rt _ | exact Num.int _ | assumption)) (And.intro (And.intro (by (first | with_reducible assumption | exact Fit.mono (by (repeat' (first | with_reducible assumption | with_reducible exact fit_two | with_reducible apply fit_add | with_reducible apply fit_sub | with_reducible apply fit_mul | with_reducible apply fit_half | with_reducible apply fit_rabs | with_reducible apply fit_neg))) (by decide) | exact Fit.mono (n := 64) (fit_int (by omega) (by decide)) (by decide))) (by (first | with_reducible assumption | exact Fit.mono (by (repeat' (first | with_reducible assumption | with_reducible exact fit_two | with_reducible apply fit_add | with_reducible apply fit_sub | with_reducible apply fit_mul | with_reducible apply fit_half | with_reducible apply fit_rabs | with_reducible apply fit_neg))) (by decide) | exact Fit.mono (n := 64) (fit_int (by omega) (by decide)) (by decide)))) ?_))))
local macro_rules | `(tactic| fail "B") => `(tactic| ((with_reducible refine chkCm .LtE ?_); refine wE_leR T g.toGd ?_; refine Exists.intro _ (And.intro (by (first | exact Num.rt _ | exact Num.int _ | assumption)) (And.intro (And.intro (by (first | with_reducible assumption | exact Fit.mono (by (repeat' (first | with_reducible assumption | with_reducible exact fit_two | with_reducible apply fit_add | with_reducible apply fit_sub | with_reducible apply fit_mul | with_reducible apply fit_half | with_reducible apply fit_rabs | with_reducible apply fit_neg))) (by decide) | exact Fit.mono (n := 64) (fit_int (by omega) (by decide)) (by decide))) (by (first | with_reducible assumption | exact Fit.mono (by (repeat' (first | with_reducible assumption | with_reducible exact fit_two | with_reducible apply fit_add | with_reducible apply fit_sub | with_reducible apply fit_mul | with_reducible apply fit_half | with_reducible apply fit_rabs | with_reducible apply fit_neg))) (by decide) | exact Fit.mono (n := 64) (fit_int (by omega) (by decide)) (by decide)))) ?_))))
local macro_rules | `(tactic| fail "B") => `(tactic| ((with_reducible refine chkSub ?_); refine wE_subR T g.toGd ?_; refine Exists.intro _ (And.intro (by (first | exact Num.rt _ | exact Num.int _ | assumption)) (And.intro (And.intro (by (first | with_reducible assumption | exact Fit.mono (by (repeat' (first | with_reducible assumption | with_reducible exact fit_two | with_reducible apply fit_add | with_reducible apply fit_sub | with_reducible apply fit_mul | with_reducible apply fit_half | with_reducible apply fit_rabs | with_reducible apply fit_neg))) (by decide) | exact Fit.mono (n := 64) (fit_int (by omega) (by decide)) (by decide))) (by (first | with_reducible assumption | exact Fit.mono (by (repeat' (first | with_reducible assumption | with_reducible exact fit_two | with_reducible apply fit_add | with_reducible apply fit_sub | with_reducible apply fit_mul | with_reducible apply fit_half | with_reducible apply fit_rabs | with_reducible apply fit_neg))) (by decide) | exact Fit.mono (n := 64) (fit_int (by omega) (by decide)) (by decide)))) ?_))))
local macro_rules | `(tactic| fail "B") => `(tactic| ((with_reducible refine chkAdd ?_); refine wE_addR T g.toGd ?_; refine Exists.intro _ (And.intro (by (first | exact Num.rt _ | exact Num.int _ | assumption)) (And.intro (And.intro (by (first | with_reducible assumption | exact Fit.mono (by (repeat' (first | with_reducible assumption | with_reducible exact fit_two | with_reducible apply fit_add | with_reducible apply fit_sub | with_reducible apply fit_mul | with_reducible apply fit_half | with_reducible apply fit_rabs | with_reducible apply fit_neg))) (by decide) | exact Fit.mono (n := 64) (fit_int (by omega) (by decide)) (by decide))) (by (first | with_reducible assumption | exact Fit.mono (by (repeat' (first | with_reducible assumption | with_reducible exact fit_two | with_reducible apply fit_add | with_reducible apply fit_sub | with_reducible apply fit_mul | with_reducible apply fit_half | with_reducible apply fit_rabs | with_reducible apply fit_neg))) (by decide) | exact Fit.mono (n := 64) (fit_int (by omega) (by decide)) (by decide)))) ?_))))
local macro_rules | `(tactic| fail "B") => `(tactic| with_reducible refine wB_pow18 ?_)
local macro_rules | `(tactic| fail "B") => `(tactic| with_reducible refine wB_pow9 ?_)
local macro_rules | `(tactic| fail "B") => `(tactic| with_reducible refine wB_pow8 ?_)
local macro_rules | `(tactic| fail "B") => `(tactic| with_reducible refine wB_pow7 ?_)
local macro_rules | `(tactic| fail "B") => `(tactic| with_reducible refine wB_pow6 ?_)
local macro_rules | `(tactic| fail "B") => `(tactic| with_reducible refine wB_pow5 ?_)
local macro_rules | `(tactic| fail "B") => `(tactic| with_reducible refine wB_isNot ?_)
local macro_rules | `(tactic| fail "B") => `(tactic| with_reducible refine wB_is ?_)
local macro_rules | `(tactic| fail "B") => `(tactic| with_reducible refine wB_neB ?_)
local macro_rules | `(tactic| fail "B") => `(tactic| with_reducible refine wB_eqB ?_)
local macro_rules | `(tactic| fail "B") => `(tactic| with_reducible refine wB_neT ?_)
local macro_rules | `(tactic| fail "B") => `(tactic| with_reducible refine wB_eqT ?_)
local macro_rules | `(tactic| fail "B") => `(tactic| with_reducible refine wB_ne ?_)
local macro_rules | `(tactic| fail "B") => `(tactic| with_reducible refine wB_eq ?_)
local macro_rules | `(tactic| fail "B") => `(tactic| with_reducible refine wB_ge ?_)
local macro_rules | `(tactic| fail "B") => `(tactic| with_reducible refine wB_gt ?_)
local macro_rules | `(tactic| fail "B") => `(tactic| with_reducible refine wB_le ?_)
local macro_rules | `(tactic| fail "B") => `(tactic| with_reducible refine wB_lt ?_)
local macro_rules | `(tactic| fail "B") => `(tactic| ((with_reducible refine wB_fdivS ?qc ?_); (case qc => exact ⟨by (first | with_reducible assumption | omega), by (first | with_reducible assumption | omega)⟩)))
local macro_rules | `(tactic| fail "B") => `(tactic| ((with_reducible refine wB_mod ?qc ?_); (case qc => (first | with_reducible assumption | omega))))
local macro_rules | `(tactic| fail "B") => `(tactic| ((with_reducible refine wB_mulL ?qc ?_); (case qc => exact ⟨by (first | with_reducible assumption | omega), by (first | with_reducible assumption | omega)⟩)))
local macro_rules | `(tactic| fail "B") => `(tactic| ((with_reducible refine wB_mulR ?qc ?_); (case qc => exact ⟨by (first | with_reducible assumption | omega), by (first | with_reducible assumption | omega)⟩)))
local macro_rules | `(tactic| fail "B") => `(tactic| with_reducible refine wB_sub ?_)
local macro_rules | `(tactic| fail "B") => `(tactic| with_reducible refine wB_add ?_)
local macro_rules | `(tactic| fail "F") => `(tactic| with_reducible refine wF_R1 T g.toGd ?_)
local macro_rules | `(tactic| fail "F") => `(tactic| ((with_reducible refine wF_R2 T g.toGd ?qc1 ?qc2 ?_); (case qc1 => (first | with_reducible assumption | omega)); (case qc2 => exact lt_pow_mono (n := 64) (by (first | with_reducible assumption | omega)) (by decide))))
local macro_rules | `(tactic| fail "F") => `(tactic| with_reducible refine wF_isBB ?_)
local macro_rules | `(tactic| fail "F") => `(tactic| with_reducible refine wF_isIB ?_)
local macro_rules | `(tactic| fail "F") => `(tactic| with_reducible refine wF_isII ?_)
local macro_rules | `(tactic| fail "F") => `(tactic| ((with_reducible refine wF_isRt ?qc ?_); (case qc => exact T.own_Ratio)))
local macro_rules | `(tactic| fail "F") => `(tactic| with_reducible refine wF_min g.toGd ?_)
local macro_rules | `(tactic| fail "F") => `(tactic| with_reducible refine wF_max g.toGd ?_)
local macro_rules | `(tactic| fail "F") => `(tactic| with_reducible refine wF_abs ?_)
local macro_rules | `(tactic| fail "F") => `(tactic| with_reducible refine wF_boolB ?_)
local macro_rules | `(tactic| fail "F") => `(tactic| with_reducible refine wF_intB ?_)
local macro_rules | `(tactic| fail "F") => `(tactic| ((with_reducible refine chkB "len" ?_); refine wF_len (by (first | exact .inl rfl | exact .inr (.inl rfl) | exact .inr (.inr (.inl rfl)) | exact .inr (.inr (.inr ⟨_, rfl, by (first | assumption | with_reducible exact at_last | with_reducible exact at_new rfl | with_reducible exact at_left (by assumption) | with_reducible exact List.getElem?_set_self (by assumption) | with_reducible exact at_left (at_left (by assumption)))⟩)))) ?_))
local macro_rules | `(tactic| fail "X") => `(tactic| (refine wX_ints (by (first | exact .inl rfl | exact .inr (.inl rfl) | exact .inr (.inr (.inl rfl)) | exact .inr (.inr (.inr ⟨_, rfl, by (first | assumption | with_reducible exact at_last | with_reducible exact at_new rfl | with_reducible exact at_left (by assumption) | with_reducible exact List.getElem?_set_self (by assumption) | with_reducible exact at_left (at_left (by assumption)))⟩)))) (by (repeat (first | exact Ints.nil | apply Ints.cons))) (by (first | with_reducible assumption | omega)) (by (simp only [List.length_cons, List.length_nil]; omega)) ?_; intro v hv; simp only [List.mem_cons, List.not_mem_nil, or_false] at hv))
local macro_rules | `(tactic| fail "X") => `(tactic| refine wX_at (by (first | exact .inl rfl | exact .inr (.inl rfl) | exact .inr (.inr (.inl rfl)) | exact .inr (.inr (.inr ⟨_, rfl, by (first | assumption | with_reducible exact at_last | with_reducible exact at_new rfl | with_reducible exact at_left (by assumption) | with_reducible exact List.getElem?_set_self (by assumption) | with_reducible exact at_left (at_left (by assumption)))⟩)))) rfl ?_)
local macro_rules | `(tactic| fail "X") => `(tactic| refine wX_if2 (by (first | exact .inl rfl | exact .inr (.inl rfl) | exact .inr (.inr (.inl rfl)) | exact .inr (.inr (.inr ⟨_, rfl, by (first | assumption | with_reducible exact at_last | with_reducible exact at_new rfl | with_reducible exact at_left (by assumption) | with_reducible exact List.getElem?_set_self (by assumption) | with_reducible exact at_left (at_left (by assumption)))⟩)))) ?_)
local macro_rules | `(tactic| fail "X") => `(tactic| refine wX_if2I (by (first | exact .inl rfl | exact .inr (.inl rfl) | exact .inr (.inr (.inl rfl)) | exact .inr (.inr (.inr ⟨_, rfl, by (first | assumption | with_reducible exact at_last | with_reducible exact at_new rfl | with_reducible exact at_left (by assumption) | with_reducible exact List.getElem?_set_self (by assumption) | with_reducible exact at_left (at_left (by assumption)))⟩)))) ?_)
local macro_rules | `(tactic| fail "A") => `(tactic| refine wA_nil ?_)
local macro_rules | `(tactic| fail "A") => `(tactic| refine wA_cons ?_)
local macro_rules | `(tactic| fail "C") => `(tactic| refine wC_val ?_)
local macro_rules | `(tactic| fail "C") => `(tactic| refine wC_bool ?_)
local macro_rules | `(tactic| fail "C") => `(tactic| refine wC_not ?_)
local macro_rules | `(tactic| fail "C") => `(tactic| refine wC_cmp ?_)
local macro_rules | `(tactic| fail "W") => `(tactic| refine wCw_or1 ?_)
local macro_rules | `(tactic| fail "W") => `(tactic| refine wCw_and1 ?_)
local macro_rules | `(tactic| fail "W") => `(tactic| refine wCw_or ?_)
local macro_rules | `(tactic| fail "W") => `(tactic| refine wCw_and ?_)
local macro_rules | `(tactic| fail "U") => `(tactic| ((with_reducible refine chkNg ?_); refine wU_negR T g.toGd ?qf ?_; (case qf => (first | with_reducible assumption | exact Fit.mono (by (repeat' (first | with_reducible assumption | with_reducible exact fit_two | with_reducible apply fit_add | with_reducible apply fit_sub | with_reducible apply fit_mul | with_reducible apply fit_half | with_reducible apply fit_rabs | with_reducible apply fit_neg))) (by decide) | exact Fit.mono (n := 64) (fit_int (by omega) (by decide)) (by decide)))))
local macro_rules | `(tactic| fail "U") => `(tactic| with_reducible refine wU_neg ?_)
local macro_rules | `(tactic| fail "P") => `(tactic| with_reducible refine wPt_s ?_)
local macro_rules | `(tactic| fail "P") => `(tactic| with_reducible refine wPt_c ?_)
local macro_rules | `(tactic| fail "P") => `(tactic| with_reducible refine wPt_z ?_)
local macro_rules | `(tactic| fail "G") => `(tactic| refine wG_name gn ?_)
local macro_rules | `(tactic| fail "G") => `(tactic| refine wG_tup g.calm ?_)
local macro_rules | `(tactic| fail "H") => `(tactic| refine wGs_nil ?_)
local macro_rules | `(tactic| fail "H") => `(tactic| refine wGs_cons ?_)
local macro_rules | `(tactic| fail "S") => `(tactic| refine wS_pass ?_)
local macro_rules | `(tactic| fail "S") => `(tactic| refine wS_asg ?_)
local macro_rules | `(tactic| fail "S") => `(tactic| refine wS_ix ?_)
local macro_rules | `(tactic| fail "S") => `(tactic| refine wS_expr ?_)
local macro_rules | `(tactic| fail "S") => `(tactic| refine wS_if ?_)
local macro_rules | `(tactic| fail "S") => `(tactic| refine wS_ret ?_)
local macro_rules | `(tactic| fail "S") => `(tactic| (refine wS_par3 g ?qa ?_; (case qa => exact ⟨_, _, _, by (repeat (first | with_reducible exact Il.z | with_reducible apply Il.s)), by (repeat (first | with_reducible exact Il.z | with_reducible apply Il.s)), by (repeat (first | with_reducible exact Il.z | with_reducible apply Il.s)), by decide, by decide, by decide⟩)))
local macro_rules | `(tactic| fail "S") => `(tactic| (refine wS_par g ?qa ?_; (case qa => exact ⟨_, _, by (repeat (first | with_reducible exact Il.z | with_reducible apply Il.s)), by (repeat (first | with_reducible exact Il.z | with_reducible apply Il.s)), by decide⟩)))
local macro_rules | `(tactic| fail "S") => `(tactic| (refine wS_set gn ?qa ?_; (case qa => exact ⟨_, by (repeat (first | with_reducible exact Ix.z | with_reducible exact Ix.c | with_reducible apply Ix.s))⟩)))
local macro_rules | `(tactic| fail "L") => `(tactic| refine wSs_nil ?_)
local macro_rules | `(tactic| fail "c") => `(tactic| ((with_reducible refine chkC "Water" ?_); refine xE_make gn ?qa T.g_Water T.mk_Water.kp ?_; (case qa => (repeat (first | with_reducible exact In.z | with_reducible apply In.s)))))
local macro_rules | `(tactic| fail "c") => `(tactic| ((with_reducible refine chkC "Pool" ?_); refine xE_make gn ?qa T.g_Pool T.mk_Pool.kp ?_; (case qa => (repeat (first | with_reducible exact In.z | with_reducible apply In.s)))))
local macro_rules | `(tactic| fail "c") => `(tactic| ((with_reducible refine chkC "Ratio" ?_); refine xE_make gn ?qa T.g_Ratio T.mk_Ratio.kp ?_; (case qa => (repeat (first | with_reducible exact In.z | with_reducible apply In.s)))))
local macro_rules | `(tactic| fail "c") => `(tactic| ((with_reducible refine chkC "_law_made" ?_); refine xE_call T.f_w_made g ?qa T.g_w_made T.F_w_made.kp T.b_w_made ?_; (case qa => (repeat (first | with_reducible exact In.z | with_reducible apply In.s)))))
local macro_rules | `(tactic| fail "c") => `(tactic| ((with_reducible refine chkC "_law_due" ?_); refine xE_call T.f_w_due g ?qa T.g_w_due T.F_w_due.kp T.b_w_due ?_; (case qa => (repeat (first | with_reducible exact In.z | with_reducible apply In.s)))))
local macro_rules | `(tactic| fail "c") => `(tactic| ((with_reducible refine chkC "_law_long_row" ?_); refine xE_call T.f_w_long_row g ?qa T.g_w_long_row T.F_w_long_row.kp T.b_w_long_row ?_; (case qa => (repeat (first | with_reducible exact In.z | with_reducible apply In.s)))))
local macro_rules | `(tactic| fail "c") => `(tactic| ((with_reducible refine chkC "_law_row" ?_); refine xE_call T.f_w_row g ?qa T.g_w_row T.F_w_row.kp T.b_w_row ?_; (case qa => (repeat (first | with_reducible exact In.z | with_reducible apply In.s)))))
local macro_rules | `(tactic| fail "c") => `(tactic| ((with_reducible refine chkC "_law_is_water" ?_); refine xE_call T.f_w_is_water g ?qa T.g_w_is_water T.F_w_is_water.kp T.b_w_is_water ?_; (case qa => (repeat (first | with_reducible exact In.z | with_reducible apply In.s)))))
local macro_rules | `(tactic| fail "c") => `(tactic| ((with_reducible refine chkC "_law_moments" ?_); refine xE_call T.f_w_moments g ?qa T.g_w_moments T.F_w_moments.kp T.b_w_moments ?_; (case qa => (repeat (first | with_reducible exact In.z | with_reducible apply In.s)))))
local macro_rules | `(tactic| fail "c") => `(tactic| ((with_reducible refine chkC "_law_pool" ?_); refine xE_call T.f_w_pool g ?qa T.g_w_pool T.F_w_pool.kp T.b_w_pool ?_; (case qa => (repeat (first | with_reducible exact In.z | with_reducible apply In.s)))))
local macro_rules | `(tactic| fail "c") => `(tactic| ((with_reducible refine chkC "_law_is" ?_); refine xE_call T.f_w_is g ?qa T.g_w_is T.F_w_is.kp T.b_w_is ?_; (case qa => (repeat (first | with_reducible exact In.z | with_reducible apply In.s)))))
local macro_rules | `(tactic| fail "c") => `(tactic| ((with_reducible refine chkC "_law_number" ?_); refine xE_call T.f_w_number g ?qa T.g_w_number T.F_w_number.kp T.b_w_number ?_; (case qa => (repeat (first | with_reducible exact In.z | with_reducible apply In.s)))))
local macro_rules | `(tactic| fail "c") => `(tactic| ((with_reducible refine chkC "_law_take" ?_); refine xE_call T.f_w_take g ?qa T.g_w_take T.F_w_take.kp T.b_w_take ?_; (case qa => (repeat (first | with_reducible exact In.z | with_reducible apply In.s)))))
local macro_rules | `(tactic| fail "c") => `(tactic| ((with_reducible refine chkC "_law_box" ?_); refine xE_call T.f_w_box g ?qa T.g_w_box T.F_w_box.kp T.b_w_box ?_; (case qa => (repeat (first | with_reducible exact In.z | with_reducible apply In.s)))))
local macro_rules | `(tactic| fail "c") => `(tactic| ((with_reducible refine chkC "sum" ?_); refine xE_blt gn ?qa T.n_sum boot_sum ?_; (case qa => (repeat (first | with_reducible exact In.z | with_reducible apply In.s)))))
local macro_rules | `(tactic| fail "c") => `(tactic| ((with_reducible refine chkC "any" ?_); refine xE_blt gn ?qa T.n_any boot_any ?_; (case qa => (repeat (first | with_reducible exact In.z | with_reducible apply In.s)))))
local macro_rules | `(tactic| fail "c") => `(tactic| ((with_reducible refine chkC "all" ?_); refine xE_blt gn ?qa T.n_all boot_all ?_; (case qa => (repeat (first | with_reducible exact In.z | with_reducible apply In.s)))))
local macro_rules | `(tactic| fail "c") => `(tactic| ((with_reducible refine chkC "bool" ?_); refine xE_bcl gn ?qa T.n_bool boot_bool ?_; (case qa => (repeat (first | with_reducible exact In.z | with_reducible apply In.s)))))
local macro_rules | `(tactic| fail "c") => `(tactic| ((with_reducible refine chkC "list" ?_); refine xE_bcl gn ?qa T.n_list boot_list ?_; (case qa => (repeat (first | with_reducible exact In.z | with_reducible apply In.s)))))
local macro_rules | `(tactic| fail "c") => `(tactic| ((with_reducible refine chkC "tuple" ?_); refine xE_bcl gn ?qa T.n_tuple boot_tuple ?_; (case qa => (repeat (first | with_reducible exact In.z | with_reducible apply In.s)))))
local macro_rules | `(tactic| fail "c") => `(tactic| ((with_reducible refine chkC "isinstance" ?_); refine xE_blt gn ?qa T.n_isinstance boot_isinstance ?_; (case qa => (repeat (first | with_reducible exact In.z | with_reducible apply In.s)))))
local macro_rules | `(tactic| fail "c") => `(tactic| ((with_reducible refine chkC "repr" ?_); refine xE_blt gn ?qa T.n_repr boot_repr ?_; (case qa => (repeat (first | with_reducible exact In.z | with_reducible apply In.s)))))
local macro_rules | `(tactic| fail "c") => `(tactic| ((with_reducible refine chkC "str" ?_); refine xE_bcl gn ?qa T.n_str boot_str ?_; (case qa => (repeat (first | with_reducible exact In.z | with_reducible apply In.s)))))
local macro_rules | `(tactic| fail "c") => `(tactic| ((with_reducible refine chkC "min" ?_); refine xE_blt gn ?qa T.n_min boot_min ?_; (case qa => (repeat (first | with_reducible exact In.z | with_reducible apply In.s)))))
local macro_rules | `(tactic| fail "c") => `(tactic| ((with_reducible refine chkC "max" ?_); refine xE_blt gn ?qa T.n_max boot_max ?_; (case qa => (repeat (first | with_reducible exact In.z | with_reducible apply In.s)))))
local macro_rules | `(tactic| fail "c") => `(tactic| ((with_reducible refine chkC "abs" ?_); refine xE_blt gn ?qa T.n_abs boot_abs ?_; (case qa => (repeat (first | with_reducible exact In.z | with_reducible apply In.s)))))
local macro_rules | `(tactic| fail "c") => `(tactic| ((with_reducible refine chkC "int" ?_); refine xE_bcl gn ?qa T.n_int boot_int ?_; (case qa => (repeat (first | with_reducible exact In.z | with_reducible apply In.s)))))
local macro_rules | `(tactic| fail "c") => `(tactic| ((with_reducible refine chkC "len" ?_); refine xE_blt gn ?qa T.n_len boot_len ?_; (case qa => (repeat (first | with_reducible exact In.z | with_reducible apply In.s)))))
local macro_rules | `(tactic| fail "n") => `(tactic| ((with_reducible refine chkN "Water" ?_); refine xE_cls gn ?qa T.g_Water ?_; (case qa => (repeat (first | with_reducible exact In.z | with_reducible apply In.s)))))
local macro_rules | `(tactic| fail "n") => `(tactic| ((with_reducible refine chkN "Pool" ?_); refine xE_cls gn ?qa T.g_Pool ?_; (case qa => (repeat (first | with_reducible exact In.z | with_reducible apply In.s)))))
local macro_rules | `(tactic| fail "n") => `(tactic| ((with_reducible refine chkN "Ratio" ?_); refine xE_cls gn ?qa T.g_Ratio ?_; (case qa => (repeat (first | with_reducible exact In.z | with_reducible apply In.s)))))
local macro_rules | `(tactic| fail "n") => `(tactic| ((with_reducible refine chkN "UnknownIndex" ?_); refine xE_cls gn ?qa T.g_UnknownIndex ?_; (case qa => (repeat (first | with_reducible exact In.z | with_reducible apply In.s)))))
local macro_rules | `(tactic| fail "n") => `(tactic| ((with_reducible refine chkN "Touching" ?_); refine xE_cls gn ?qa T.g_Touching ?_; (case qa => (repeat (first | with_reducible exact In.z | with_reducible apply In.s)))))
local macro_rules | `(tactic| fail "n") => `(tactic| ((with_reducible refine chkN "Full" ?_); refine xE_cls gn ?qa T.g_Full ?_; (case qa => (repeat (first | with_reducible exact In.z | with_reducible apply In.s)))))
local macro_rules | `(tactic| fail "n") => `(tactic| ((with_reducible refine chkN "InvalidDrop" ?_); refine xE_cls gn ?qa T.g_InvalidDrop ?_; (case qa => (repeat (first | with_reducible exact In.z | with_reducible apply In.s)))))
local macro_rules | `(tactic| fail "n") => `(tactic| ((with_reducible refine chkN "InvalidNumber" ?_); refine xE_cls gn ?qa T.g_InvalidNumber ?_; (case qa => (repeat (first | with_reducible exact In.z | with_reducible apply In.s)))))
local macro_rules | `(tactic| fail "n") => `(tactic| ((with_reducible refine chkN "PoolError" ?_); refine xE_cls gn ?qa T.g_PoolError ?_; (case qa => (repeat (first | with_reducible exact In.z | with_reducible apply In.s)))))
local macro_rules | `(tactic| fail "n") => `(tactic| ((with_reducible refine chkN "list" ?_); refine xE_bty gn ?qa T.n_list boot_list ?_; (case qa => (repeat (first | with_reducible exact In.z | with_reducible apply In.s)))))
local macro_rules | `(tactic| fail "n") => `(tactic| ((with_reducible refine chkN "tuple" ?_); refine xE_bty gn ?qa T.n_tuple boot_tuple ?_; (case qa => (repeat (first | with_reducible exact In.z | with_reducible apply In.s)))))
local macro_rules | `(tactic| fail "n") => `(tactic| ((with_reducible refine chkN "str" ?_); refine xE_bty gn ?qa T.n_str boot_str ?_; (case qa => (repeat (first | with_reducible exact In.z | with_reducible apply In.s)))))
local macro_rules | `(tactic| fail "n") => `(tactic| ((with_reducible refine chkN "bool" ?_); refine xE_bty gn ?qa T.n_bool boot_bool ?_; (case qa => (repeat (first | with_reducible exact In.z | with_reducible apply In.s)))))
local macro_rules | `(tactic| fail "n") => `(tactic| ((with_reducible refine chkN "int" ?_); refine xE_bty gn ?qa T.n_int boot_int ?_; (case qa => (repeat (first | with_reducible exact In.z | with_reducible apply In.s)))))
local macro_rules | `(tactic| fail "a") => `(tactic| ((with_reducible refine chkA "right" ?_); refine wE_right T g.toGd ?_))
local macro_rules | `(tactic| fail "a") => `(tactic| ((with_reducible refine chkA "left" ?_); refine wE_left T g.toGd ?_))
local macro_rules | `(tactic| fail "a") => `(tactic| ((with_reducible refine chkA "volume" ?_); refine wE_vol T g.toGd ?_))
local macro_rules | `(tactic| fail "a") => `(tactic| ((with_reducible refine chkA "middle" ?_); refine wE_mid T g.toGd ?_))
local macro_rules | `(tactic| fail "a") => `(tactic| ((with_reducible refine chkA "amount" ?_); refine wE_amt T ?_))
local macro_rules | `(tactic| fail "a") => `(tactic| ((with_reducible refine chkA "center" ?_); refine wE_cen T ?_))
local macro_rules | `(tactic| fail "a") => `(tactic| ((with_reducible refine chkA "bottom" ?_); refine wE_bot T ?_))
local macro_rules | `(tactic| fail "a") => `(tactic| ((with_reducible refine chkA "top" ?_); refine wE_top T ?_))
local macro_rules | `(tactic| fail "m") => `(tactic| ((with_reducible refine chkM "over" ?_); refine wE_over T g.toGd ?_))
local macro_rules | `(tactic| fail "O") => `(tactic| refine And.intro (by assumption) ?_)
local macro_rules | `(tactic| fail "O") => `(tactic| refine And.intro (And.intro (by (first | with_reducible assumption | exact Fit.mono (by (repeat' (first | with_reducible assumption | with_reducible exact fit_two | with_reducible apply fit_add | with_reducible apply fit_sub | with_reducible apply fit_mul | with_reducible apply fit_half | with_reducible apply fit_rabs | with_reducible apply fit_neg))) (by decide) | exact Fit.mono (n := 64) (fit_int (by omega) (by decide)) (by decide))) (by (first | with_reducible assumption | exact Fit.mono (by (repeat' (first | with_reducible assumption | with_reducible exact fit_two | with_reducible apply fit_add | with_reducible apply fit_sub | with_reducible apply fit_mul | with_reducible apply fit_half | with_reducible apply fit_rabs | with_reducible apply fit_neg))) (by decide) | exact Fit.mono (n := 64) (fit_int (by omega) (by decide)) (by decide)))) ?_)
local macro_rules | `(tactic| fail "O") => `(tactic| refine Exists.intro _ (And.intro (by (first | exact Num.rt _ | exact Num.int _ | assumption)) (And.intro (And.intro (by (first | with_reducible assumption | exact Fit.mono (by (repeat' (first | with_reducible assumption | with_reducible exact fit_two | with_reducible apply fit_add | with_reducible apply fit_sub | with_reducible apply fit_mul | with_reducible apply fit_half | with_reducible apply fit_rabs | with_reducible apply fit_neg))) (by decide) | exact Fit.mono (n := 64) (fit_int (by omega) (by decide)) (by decide))) (And.intro (by (first | with_reducible assumption | exact Fit.mono (by (repeat' (first | with_reducible assumption | with_reducible exact fit_two | with_reducible apply fit_add | with_reducible apply fit_sub | with_reducible apply fit_mul | with_reducible apply fit_half | with_reducible apply fit_rabs | with_reducible apply fit_neg))) (by decide) | exact Fit.mono (n := 64) (fit_int (by omega) (by decide)) (by decide))) (by decide))) ?_)))
local macro_rules | `(tactic| fail "O") => `(tactic| (refine sp_take T (by (first | assumption | with_reducible exact at_last | with_reducible exact at_new rfl | with_reducible exact at_left (by assumption) | with_reducible exact List.getElem?_set_self (by assumption) | with_reducible exact at_left (at_left (by assumption)))) (by (first | with_reducible assumption | omega)) (by (first | with_reducible assumption | omega)) ?_; intro d h0 h1))
local macro_rules | `(tactic| fail "O") => `(tactic| refine Exists.intro _ (Exists.intro _ (Exists.intro _ (Exists.intro _ (And.intro rfl (And.intro rfl (And.intro (by (first | assumption | with_reducible exact at_last | with_reducible exact at_new rfl | with_reducible exact at_left (by assumption) | with_reducible exact List.getElem?_set_self (by assumption) | with_reducible exact at_left (at_left (by assumption)))) (And.intro rfl ?_))))))))
local macro_rules | `(tactic| fail "O") => `(tactic| refine Exists.intro _ (Exists.intro _ (Exists.intro _ (And.intro rfl ?_))))
local macro_rules | `(tactic| fail "O") => `(tactic| refine Exists.intro _ (Exists.intro _ (And.intro rfl ?_)))
local macro_rules | `(tactic| fail "O") => `(tactic| refine And.intro (by (simp only [List.length_cons, List.length_nil]; decide)) ?_)
local macro_rules | `(tactic| fail "O") => `(tactic| refine Exists.intro _ (And.intro rfl ?_))
local macro_rules | `(tactic| fail "I") => `(tactic| ((with_reducible refine iteNF ?_); fail "o"))
local macro_rules | `(tactic| fail "I") => `(tactic| ((with_reducible refine iteNT ?_); fail "o"))
local macro_rules | `(tactic| fail "I") => `(tactic| ((with_reducible refine iteFT ?_); fail "o"))
local macro_rules | `(tactic| fail "I") => `(tactic| ((with_reducible refine iteTT ?_); fail "o"))
local macro_rules | `(tactic| fail "J") => `(tactic| ((with_reducible refine iteNF ?_); fail "st"))
local macro_rules | `(tactic| fail "J") => `(tactic| ((with_reducible refine iteNT ?_); fail "st"))
local macro_rules | `(tactic| fail "J") => `(tactic| ((with_reducible refine iteFT ?_); fail "st"))
local macro_rules | `(tactic| fail "J") => `(tactic| ((with_reducible refine iteTT ?_); fail "st"))
local macro_rules | `(tactic| fail "su") => `(tactic| ((with_reducible refine hdL ?_); fail "L"))
local macro_rules | `(tactic| fail "su") => `(tactic| ((with_reducible refine hdS ?_); fail "S"))
local macro_rules | `(tactic| fail "p") => `(tactic| fail "O")
local macro_rules | `(tactic| fail "p") => `(tactic| ((with_reducible refine hdH ?_); fail "H"))
local macro_rules | `(tactic| fail "p") => `(tactic| ((with_reducible refine hdG ?_); fail "G"))
local macro_rules | `(tactic| fail "p") => `(tactic| ((with_reducible refine hdP ?_); fail "P"))
local macro_rules | `(tactic| fail "p") => `(tactic| ((with_reducible refine hdU ?_); fail "U"))
local macro_rules | `(tactic| fail "p") => `(tactic| ((with_reducible refine hdW ?_); fail "W"))
local macro_rules | `(tactic| fail "p") => `(tactic| ((with_reducible refine hdC ?_); fail "C"))
local macro_rules | `(tactic| fail "p") => `(tactic| ((with_reducible refine hdX ?_); fail "X"))
local macro_rules | `(tactic| fail "p") => `(tactic| ((with_reducible refine hdF ?_); fail "F"))
local macro_rules | `(tactic| fail "p") => `(tactic| ((with_reducible refine hdB ?_); fail "B"))
local macro_rules | `(tactic| fail "p") => `(tactic| ((with_reducible refine hdA ?_); fail "A"))
local macro_rules | `(tactic| fail "p") => `(tactic| ((with_reducible refine hdE ?_); fail "E"))
local macro_rules | `(tactic| fail "st") => `(tactic| ((with_reducible refine hdI ?_); fail "J"))
local macro_rules | `(tactic| fail "st") => `(tactic| ((fail_if_success (with_reducible refine hdI ?_)); fail "su"))
local macro_rules | `(tactic| fail "o") => `(tactic| ((with_reducible refine hdI ?_); fail "I"))
local macro_rules | `(tactic| fail "o") => `(tactic| ((fail_if_success (with_reducible refine hdI ?_)); fail "p"))
local macro_rules | `(tactic| walk_at "in") => `(tactic| (repeat (first | with_reducible exact In.z | with_reducible apply In.s)))
local macro_rules | `(tactic| walk_at "at") => `(tactic| (first | assumption | with_reducible exact at_last | with_reducible exact at_new rfl | with_reducible exact at_left (by assumption) | with_reducible exact List.getElem?_set_self (by assumption) | with_reducible exact at_left (at_left (by assumption))))
local macro_rules | `(tactic| walk_at "ixd") => `(tactic| (first | exact .inl rfl | exact .inr (.inl rfl) | exact .inr (.inr (.inl rfl)) | exact .inr (.inr (.inr ⟨_, rfl, by (first | assumption | with_reducible exact at_last | with_reducible exact at_new rfl | with_reducible exact at_left (by assumption) | with_reducible exact List.getElem?_set_self (by assumption) | with_reducible exact at_left (at_left (by assumption)))⟩))))
local macro_rules | `(tactic| walk_at "ints") => `(tactic| (repeat (first | exact Ints.nil | apply Ints.cons)))
local macro_rules | `(tactic| walk_at "num") => `(tactic| (first | with_reducible assumption | omega))
local macro_rules | `(tactic| walk_at "nm") => `(tactic| (first | exact Num.rt _ | exact Num.int _ | assumption))
local macro_rules | `(tactic| walk_at "fit") => `(tactic| (first | with_reducible assumption | exact Fit.mono (by (repeat' (first | with_reducible assumption | with_reducible exact fit_two | with_reducible apply fit_add | with_reducible apply fit_sub | with_reducible apply fit_mul | with_reducible apply fit_half | with_reducible apply fit_rabs | with_reducible apply fit_neg))) (by decide) | exact Fit.mono (n := 64) (fit_int (by omega) (by decide)) (by decide)))
local macro_rules | `(tactic| walk_at "ix") => `(tactic| (repeat (first | with_reducible exact Ix.z | with_reducible exact Ix.c | with_reducible apply Ix.s)))
local macro_rules | `(tactic| walk_at "il") => `(tactic| (repeat (first | with_reducible exact Il.z | with_reducible apply Il.s)))
local macro_rules | `(tactic| walk_at "one") => `(tactic| first | fail "o" | fail "st" | refine wSs_cons ?_)
local macro_rules | `(tactic| walk_at "wp") => `(tactic| repeat (first | fail "o" | fail "st" | refine wSs_cons ?_))
local macro_rules | `(tactic| walk_at "s1") => `(tactic| (refine wSs_cons ?_; repeat (first | fail "o" | fail "st")))
local macro_rules | `(tactic| walk_at "e") => `(tactic| repeat (fail "o"))
local macro_rules | `(tactic| walk_at "start") => `(tactic| (intro ρ hρ cdv A outer s H E g; simp only [startD, List.map_cons, List.map_nil, List.length_cons, List.length_nil, List.replicate_succ, List.replicate_zero, List.cons_append, List.nil_append, Nat.reduceAdd, Nat.reduceSub] at hρ; subst hρ; have gn := g.toNx'))
local macro_rules | `(tactic| walk_at "suite") => `(tactic| (intro a dd oe pn hz hv gn ρs hρ; simp only [List.set_cons_succ, List.set_cons_zero] at hρ; subst hρ))
local macro_rules | `(tactic| walk_at "after") => `(tactic| (intro ρs hρ; simp only [List.set_cons_succ, List.set_cons_zero] at hρ; subst hρ))
local macro_rules | `(tactic| walk_at "blk") => `(tactic| (intro s H C cl fp g; have gn := g.toNx'))
/-- moment and volume of a drop -/
def mo (p : Int × Int) : Int × Int := (p.1 * p.2, p.2)
section
variable {P : Program} {w : World} {K : PySem.W.Frag} {mg : Str → Option Value} {base : Heap} (T : Tx K mg)
theorem sp_moments {μ : List M} {xs : List (Int × Int)} {Q : KV} {Z : KX} (hl : xs.length ≤ 1000) (hx : ∀ p ∈ xs, -(2 ^ 40) ≤ p.1 ∧ p.1 ≤ 2 ^ 40 ∧ 0 ≤ p.2 ∧ p.2 ≤ 2 ^ 20) (h : Q (.lst ((xs.map mo).map dr)) μ) : SpF P w K mg base T.f_w_moments [.lst (xs.map dr)] μ Q Z := by
  refine spX_of T.F_w_moments sc_w_moments ck_w_moments rfl ?_
  walk_at "start"
  rw [List.append_nil]
  refine wSs_cons (wS_ret (wE_lc v_w_moments_c0 g_w_moments_c0 o_w_moments_c0 (fun ds done μ' => ∃ zs ws : List (Int × Int), xs = zs ++ ws ∧ ds = ws.map dr ∧ done = (zs.map mo).map dr ∧ μ = μ') g (sc := defScope s_w_moments) rfl (by decide +kernel) (show BlkOk n_w_moments (defScope s_w_moments) _ _ from ⟨rfl, by decide +kernel, by decide +kernel, by decide +kernel, by decide +kernel⟩) ?_ ?_ ?_))
  · refine wI_lst ?_
    walk_at "e"
    refine ⟨?_, [], xs, rfl, rfl, rfl, rfl⟩
    have := sl_big
    rw [List.length_map]
    omega
  · rintro d ds done μ' ⟨zs, ws, ey, ew, rfl, rfl⟩
    cases ws with
    | nil => cases ew
    | cons p ws =>
      obtain ⟨rfl, rfl⟩ := List.cons.inj ew
      obtain ⟨p0, p1, p2, p3⟩ := hx p (by rw [ey]; simp)
      obtain ⟨sp, vo⟩ := p
      simp only at p0 p1 p2 p3
      walk_at "blk"
      refine wGw_tup g.calm ?_
      simp only [o_w_moments_c0, List.map_cons, List.map_nil, wipeD, List.set_cons_succ, List.set_cons_zero]
      refine wGws_cons (wGw_name gn (i := 1) (by walk_at "il") (by decide) ?_)
      walk_at "e"
      refine wGws_cons (wGw_name gn (i := 2) (by walk_at "il") (by decide) ?_)
      walk_at "e"
      refine wGws_nil ?_
      walk_at "blk"
      refine wTs_nil (br_T rfl ?_)
      walk_at "blk"
      walk_at "e"
      exact ⟨zs ++ [(sp, vo)], ws, by rw [ey]; simp, rfl, by simp [mo, dr], rfl⟩
  · rintro done μ' ⟨zs, ws, ey, ew, rfl, rfl⟩
    cases ws with
    | cons p ws => cases ew
    | nil =>
      rw [List.append_nil] at ey
      subst ey
      exact .same h
/-- a water told by moments and volumes -/
abbrev mq (u : Int) (q : Int × Int) : PQ := (Rat.divInt q.1 (q.2 * u), Rat.divInt q.2 u)
theorem sp_is_water {μ : List M} {u : Int} {ms : List (Int × Int)} {Q : KV} {Z : KX} (hu : 0 < u) (hu1 : u ≤ 1000000) (hl : ms.length ≤ 1000) (hm : ∀ q ∈ ms, -(2 ^ 60) ≤ q.1 ∧ q.1 ≤ 2 ^ 60 ∧ 0 < q.2 ∧ q.2 ≤ 2 ^ 30) (h : Q (.bl true) μ) : SpF P w K mg base T.f_w_is_water [T.wt (ms.map (mq u)), .int u, .lst (ms.map dr)] μ Q Z := by
  refine spX_of T.F_w_is_water sc_w_is_water ck_w_is_water rfl ?_
  walk_at "start"
  rw [List.append_nil]
  have ml : (ms.map (mq u)).length ≤ 1000000 := by rw [List.length_map]; omega
  walk_at "s1"
  refine wF_isi (.obj T.own_Water) (.own _) kit_own_self ?_
  walk_at "e"
  refine wF_wlen T g.toGd ml ?_
  walk_at "e"
  refine br_F (by simp) (wSs_nil ?_)
  refine wSs_cons (wS_for g.po g.calm (wI_enum T.n_enumerate ?_))
  walk_at "e"
  rw [enumD_eq]
  refine wFor_inv (fun ds ρ μ' => ∃ zs ws : List (Int × Int), ms = zs ++ ws ∧ ds = enumF zs.length (ws.map dr) ∧ μ = μ' ∧ ∃ o3 o4 o5, ρ = [some (T.wt (ms.map (mq u))), some (.int u), some (.lst (ms.map dr)), o3, o4, o5]) ?_ ?_ _ _ _ ⟨[], ms, rfl, rfl, rfl, _, _, _, rfl⟩
  · rintro d0 ds ρ _ ⟨zs, ws, ep, ed, rfl, o3, o4, o5, rfl⟩
    cases ws with
    | nil => cases ed
    | cons q ws =>
    obtain ⟨rfl, rfl⟩ := List.cons.inj ed
    obtain ⟨q0, q1, q2, q3⟩ := hm q (by rw [ep]; simp)
    obtain ⟨mm, vo⟩ := q
    simp only at q0 q1 q2 q3
    have b0 : 0 < vo * u := Int.mul_pos q2 hu
    have b1 : vo * u ≤ 2 ^ 30 * 1000000 := Int.mul_le_mul q3 hu1 (by omega) (by omega)
    have at0 : (ms.map (mq u))[zs.length]? = some (mq u (mm, vo)) := by rw [ep]; simp
    simp only [dr]
    walk_at "e"
    walk_at "s1"
    refine ⟨_, _, rfl, at0, ?_⟩
    walk_at "e"
    refine sp_is3 (t := mm) (u := vo * u) T b0 (by omega) (by omega) rfl ?_
    walk_at "e"
    refine ⟨_, _, rfl, at0, ?_⟩
    walk_at "e"
    refine sp_is3 (t := vo) (u := u) T hu (by omega) (by omega) rfl ?_
    walk_at "e"
    exact wSs_nil (wSs_nil ⟨zs ++ [(mm, vo)], ws, by rw [ep]; simp, by simp, rfl, _, _, _, rfl⟩)
  · rintro ρ _ ⟨zs, ws, ep, ed, rfl, o3, o4, o5, rfl⟩
    walk_at "wp"
    exact .same h
end
end PM
set_option Elab.async false
set_option linter.all false
set_option maxRecDepth 100000
set_option maxHeartbeats 4000000
set_option exponentiation.threshold 20000
namespace PM
open PySem L2 PyProof.Rows
set_option hygiene false
local macro_rules | `(tactic| fail "E") => `(tactic| ((with_reducible refine hdm ?_); fail "m"))
local macro_rules | `(tactic| fail "E") => `(tactic| ((with_reducible refine hda ?_); fail "a"))
local macro_rules | `(tactic| fail "E") => `(tactic| ((with_reducible refine hdn ?_); fail "n"))
local macro_rules | `(tactic| fail "E") => `(tactic| ((with_reducible refine hdc ?_); fail "c"))
local macro_rules | `(tactic| fail "E") => `(tactic| refine wE_if ?_)
local macro_rules | `(tactic| fail "E") => `(tactic| refine wE_un ?_)
local macro_rules | `(tactic| fail "E") => `(tactic| refine wE_one ?_)
local macro_rules | `(tactic| fail "E") => `(tactic| refine wE_or ?_)
local macro_rules | `(tactic| fail "E") => `(tactic| refine wE_and ?_)
local macro_rules | `(tactic| fail "E") => `(tactic| refine wE_not ?_)
local macro_rules | `(tactic| fail "E") => `(tactic| refine wE_non ?_)
local macro_rules | `(tactic| fail "E") => `(tactic| refine wE_bl ?_)
local macro_rules | `(tactic| fail "E") => `(tactic| refine wE_str ?_)
local macro_rules | `(tactic| fail "E") => `(tactic| refine wE_lst ?_)
local macro_rules | `(tactic| fail "E") => `(tactic| refine wE_tup ?_)
local macro_rules | `(tactic| fail "E") => `(tactic| refine wE_cmp ?_)
local macro_rules | `(tactic| fail "E") => `(tactic| refine wE_sub ?_)
local macro_rules | `(tactic| fail "E") => `(tactic| refine wE_bin ?_)
local macro_rules | `(tactic| fail "E") => `(tactic| refine wE_int ?_)
local macro_rules | `(tactic| fail "E") => `(tactic| (refine wE_name gn ?_; (repeat (first | with_reducible refine wGt_z ?_ | with_reducible refine wGt_c ?_ | with_reducible refine wGt_s ?_ | with_reducible refine wGt_f ?_)); fail_if_success refine wGt_chk ?_))
local macro_rules | `(tactic| fail "B") => `(tactic| ((with_reducible refine chkCmL .LtE ?_); refine wE_leL T g.toGd ?_; refine Exists.intro _ (And.intro (by (first | exact Num.rt _ | exact Num.int _ | assumption)) (And.intro (And.intro (by (first | with_reducible assumption | exact Fit.mono (by (repeat' (first | with_reducible assumption | with_reducible exact fit_two | with_reducible apply fit_add | with_reducible apply fit_sub | with_reducible apply fit_mul | with_reducible apply fit_half | with_reducible apply fit_rabs | with_reducible apply fit_neg))) (by decide) | exact Fit.mono (n := 64) (fit_int (by omega) (by decide)) (by decide))) (by (first | with_reducible assumption | exact Fit.mono (by (repeat' (first | with_reducible assumption | with_reducible exact fit_two | with_reducible apply fit_add | with_reducible apply fit_sub | with_reducible apply fit_mul | with_reducible apply fit_half | with_reducible apply fit_rabs | with_reducible apply fit_neg))) (by decide) | exact Fit.mono (n := 64) (fit_int (by omega) (by decide)) (by decide)))) ?_))))
local macro_rules | `(tactic| fail "B") => `(tactic| ((with_reducible refine chkCm .GtE ?_); refine wE_geR T g.toGd ?_; refine Exists.intro _ (And.intro (by (first | exact Num.rt _ | exact Num.int _ | assumption)) (And.intro (And.intro (by (first | with_reducible assumption | exact Fit.mono (by (repeat' (first | with_reducible assumption | with_reducible exact fit_two | with_reducible apply fit_add | with_reducible apply fit_sub | with_reducible apply fit_mul | with_reducible apply fit_half | with_reducible apply fit_rabs | with_reducible apply fit_neg))) (by decide) | exact Fit.mono (n := 64) (fit_int (by omega) (by decide)) (by decide))) (by (first | with_reducible assumption | exact Fit.mono (by (repeat' (first | with_reducible assumption | with_reducible exact fit_two | with_reducible apply fit_add | with_reducible apply fit_sub | with_reducible apply fit_mul | with_reducible apply fit_half | with_reducible apply fit_rabs | with_reducible apply fit_neg))) (by decide) | exact Fit.mono (n := 64) (fit_int (by omega) (by decide)) (by decide)))) ?_))))
local macro_rules | `(tactic| fail "B") => `(tactic| ((with_reducible refine chkCm .LtE ?_); refine wE_leR T g.toGd ?_; refine Exists.intro _ (And.intro (by (first | exact Num.rt _ | exact Num.int _ | assumption)) (And.intro (And.intro (by (first | with_reducible assumption | exact Fit.mono (by (repeat' (first | with_reducible assumption | with_reducible exact fit_two | with_reducible apply fit_add | with_reducible apply fit_sub | with_reducible apply fit_mul | with_reducible apply fit_half | with_reducible apply fit_rabs | with_reducible apply fit_neg))) (by decide) | exact Fit.mono (n := 64) (fit_int (by omega) (by decide)) (by decide))) (by (first | with_reducible assumption | exact Fit.mono (by (repeat' (first | with_reducible assumption | with_reducible exact fit_two | with_reducible apply fit_add | with_reducible apply fit_sub | with_reducible apply fit_mul | with_reducible apply fit_half | with_reducible apply fit_rabs | with_reducible apply fit_neg))) (by decide) | exact Fit.mono (n := 64) (fit_int (by omega) (by decide)) (by decide)))) ?_))))
local macro_rules | `(tactic| fail "B") => `(tactic| ((with_reducible refine chkSub ?_); refine wE_subR T g.toGd ?_; refine Exists.intro _ (And.intro (by (first | exact Num.rt _ | exact Num.int _ | assumption)) (And.intro (And.intro (by (first | with_reducible assumption | exact Fit.mono (by (repeat' (first | with_reducible assumption | with_reducible exact fit_two | with_reducible apply fit_add | with_reducible apply fit_sub | with_reducible apply fit_mul | with_reducible apply fit_half | with_reducible apply fit_rabs | with_reducible apply fit_neg))) (by decide) | exact Fit.mono (n := 64) (fit_int (by omega) (by decide)) (by decide))) (by (first | with_reducible assumption | exact Fit.mono (by (repeat' (first | with_reducible assumption | with_reducible exact fit_two | with_reducible apply fit_add | with_reducible apply fit_sub | with_reducible apply fit_mul | with_reducible apply fit_half | with_reducible apply fit_rabs | with_reducible apply fit_neg))) (by decide) | exact Fit.mono (n := 64) (fit_int (by omega) (by decide)) (by decide)))) ?_))))
local macro_rules | `(tactic| fail "B") => `(tactic| ((with_reducible refine chkAdd ?_); refine wE_addR T g.toGd ?_; refine Exists.intro _ (And.intro (by (first | exact Num.rt _ | exact Num.int _ | assumption)) (And.intro (And.intro (by (first | with_reducible assumption | exact Fit.mono (by (repeat' (first | with_reducible assumption | with_reducible exact fit_two | with_reducible apply fit_add | with_reducible apply fit_sub | with_reducible apply fit_mul | with_reducible apply fit_half | with_reducible apply fit_rabs | with_reducible apply fit_neg))) (by decide) | exact Fit.mono (n := 64) (fit_int (by omega) (by decide)) (by decide))) (by (first | with_reducible assumption | exact Fit.mono (by (repeat' (first | with_reducible assumption | with_reducible exact fit_two | with_reducible apply fit_add | with_reducible apply fit_sub | with_reducible apply fit_mul | with_reducible apply fit_half | with_reducible apply fit_rabs | with_reducible apply fit_neg))) (by decide) | exact Fit.mono (n := 64) (fit_int (by omega) (by decide)) (by decide)))) ?_))))
local macro_rules | `(tactic| fail "B") => `(tactic| with_reducible refine wB_pow18 ?_)
local macro_rules | `(tactic| fail "B") => `(tactic| with_reducible refine wB_pow9 ?_)
local macro_rules | `(tactic| fail "B") => `(tactic| with_reducible refine wB_pow8 ?_)
local macro_rules | `(tactic| fail "B") => `(tactic| with_reducible refine wB_pow7 ?_)
local macro_rules | `(tactic| fail "B") => `(tactic| with_reducible refine wB_pow6 ?_)
local macro_rules | `(tactic| fail "B") => `(tactic| with_reducible refine wB_pow5 ?_)
local macro_rules | `(tactic| fail "B") => `(tactic| with_reducible refine wB_isNot ?_)
local macro_rules | `(tactic| fail "B") => `(tactic| with_reducible refine wB_is ?_)
local macro_rules | `(tactic| fail "B") => `(tactic| with_reducible refine wB_neB ?_)
local macro_rules | `(tactic| fail "B") => `(tactic| with_reducible refine wB_eqB ?_)
local macro_rules | `(tactic| fail "B") => `(tactic| with_reducible refine wB_neT ?_)
local macro_rules | `(tactic| fail "B") => `(tactic| with_reducible refine wB_eqT ?_)
local macro_rules | `(tactic| fail "B") => `(tactic| with_reducible refine wB_ne ?_)
local macro_rules | `(tactic| fail "B") => `(tactic| with_reducible refine wB_eq ?_)
local macro_rules | `(tactic| fail "B") => `(tactic| with_reducible refine wB_ge ?_)
local macro_rules | `(tactic| fail "B") => `(tactic| with_reducible refine wB_gt ?_)
local macro_rules | `(tactic| fail "B") => `(tactic| with_reducible refine wB_le ?_)
local macro_rules | `(tactic| fail "B") => `(tactic| with_reducible refine wB_lt ?_)
local macro_rules | `(tactic| fail "B") => `(tactic| ((with_reducible refine wB_fdivS ?qc ?_); (case qc => exact ⟨by (first | with_reducible assumption | omega), by (first | with_reducible assumption | omega)⟩)))
local macro_rules | `(tactic| fail "B") => `(tactic| ((with_reducible refine wB_mod ?qc ?_); (case qc => (first | with_reducible assumption | omega))))
local macro_rules | `(tactic| fail "B") => `(tactic| ((with_reducible refine wB_mulL ?qc ?_); (case qc => exact ⟨by (first | with_reducible assumption | omega), by (first | with_reducible assumption | omega)⟩)))
local macro_rules | `(tactic| fail "B") => `(tactic| ((with_reducible refine wB_mulR ?qc ?_); (case qc => exact ⟨by (first | with_reducible assumption | omega), by (first | with_reducible assumption | omega)⟩)))
local macro_rules | `(tactic| fail "B") => `(tactic| with_reducible refine wB_sub ?_)
local macro_rules | `(tactic| fail "B") => `(tactic| with_reducible refine wB_add ?_)
local macro_rules | `(tactic| fail "F") => `(tactic| with_reducible refine wF_R1 T g.toGd ?_)
local macro_rules | `(tactic| fail "F") => `(tactic| ((with_reducible refine wF_R2 T g.toGd ?qc1 ?qc2 ?_); (case qc1 => (first | with_reducible assumption | omega)); (case qc2 => exact lt_pow_mono (n := 64) (by (first | with_reducible assumption | omega)) (by decide))))
local macro_rules | `(tactic| fail "F") => `(tactic| with_reducible refine wF_isBB ?_)
local macro_rules | `(tactic| fail "F") => `(tactic| with_reducible refine wF_isIB ?_)
local macro_rules | `(tactic| fail "F") => `(tactic| with_reducible refine wF_isII ?_)
local macro_rules | `(tactic| fail "F") => `(tactic| ((with_reducible refine wF_isRt ?qc ?_); (case qc => exact T.own_Ratio)))
local macro_rules | `(tactic| fail "F") => `(tactic| with_reducible refine wF_min g.toGd ?_)
local macro_rules | `(tactic| fail "F") => `(tactic| with_reducible refine wF_max g.toGd ?_)
local macro_rules | `(tactic| fail "F") => `(tactic| with_reducible refine wF_abs ?_)
local macro_rules | `(tactic| fail "F") => `(tactic| with_reducible refine wF_boolB ?_)
local macro_rules | `(tactic| fail "F") => `(tactic| with_reducible refine wF_intB ?_)
local macro_rules | `(tactic| fail "F") => `(tactic| ((with_reducible refine chkB "len" ?_); refine wF_len (by (first | exact .inl rfl | exact .inr (.inl rfl) | exact .inr (.inr (.inl rfl)) | exact .inr (.inr (.inr ⟨_, rfl, by (first | assumption | with_reducible exact at_last | with_reducible exact at_new rfl | with_reducible exact at_left (by assumption) | with_reducible exact List.getElem?_set_self (by assumption) | with_reducible exact at_left (at_left (by assumption)))⟩)))) ?_))
local macro_rules | `(tactic| fail "X") => `(tactic| (refine wX_ints (by (first | exact .inl rfl | exact .inr (.inl rfl) | exact .inr (.inr (.inl rfl)) | exact .inr (.inr (.inr ⟨_, rfl, by (first | assumption | with_reducible exact at_last | with_reducible exact at_new rfl | with_reducible exact at_left (by assumption) | with_reducible exact List.getElem?_set_self (by assumption) | with_reducible exact at_left (at_left (by assumption)))⟩)))) (by (repeat (first | exact Ints.nil | apply Ints.cons))) (by (first | with_reducible assumption | omega)) (by (simp only [List.length_cons, List.length_nil]; omega)) ?_; intro v hv; simp only [List.mem_cons, List.not_mem_nil, or_false] at hv))
local macro_rules | `(tactic| fail "X") => `(tactic| refine wX_at (by (first | exact .inl rfl | exact .inr (.inl rfl) | exact .inr (.inr (.inl rfl)) | exact .inr (.inr (.inr ⟨_, rfl, by (first | assumption | with_reducible exact at_last | with_reducible exact at_new rfl | with_reducible exact at_left (by assumption) | with_reducible exact List.getElem?_set_self (by assumption) | with_reducible exact at_left (at_left (by assumption)))⟩)))) rfl ?_)
local macro_rules | `(tactic| fail "X") => `(tactic| refine wX_if2 (by (first | exact .inl rfl | exact .inr (.inl rfl) | exact .inr (.inr (.inl rfl)) | exact .inr (.inr (.inr ⟨_, rfl, by (first | assumption | with_reducible exact at_last | with_reducible exact at_new rfl | with_reducible exact at_left (by assumption) | with_reducible exact List.getElem?_set_self (by assumption) | with_reducible exact at_left (at_left (by assumption)))⟩)))) ?_)
local macro_rules | `(tactic| fail "X") => `(tactic| refine wX_if2I (by (first | exact .inl rfl | exact .inr (.inl rfl) | exact .inr (.inr (.inl rfl)) | exact .inr (.inr (.inr ⟨_, rfl, by (first | assumption | with_reducible exact at_last | with_reducible exact at_new rfl | with_reducible exact at_left (by assumption) | with_reducible exact List.getElem?_set_self (by assumption) | with_reducible exact at_left (at_left (by assumption)))⟩)))) ?_)
local macro_rules | `(tactic| fail "A") => `(tactic| refine wA_nil ?_)
local macro_rules | `(tactic| fail "A") => `(tactic| refine wA_cons ?_)
local macro_rules | `(tactic| fail "C") => `(tactic| refine wC_val ?_)
local macro_rules | `(tactic| fail "C") => `(tactic| refine wC_bool ?_)
local macro_rules | `(tactic| fail "C") => `(tactic| refine wC_not ?_)
local macro_rules | `(tactic| fail "C") => `(tactic| refine wC_cmp ?_)
local macro_rules | `(tactic| fail "W") => `(tactic| refine wCw_or1 ?_)
local macro_rules | `(tactic| fail "W") => `(tactic| refine wCw_and1 ?_)
local macro_rules | `(tactic| fail "W") => `(tactic| refine wCw_or ?_)
local macro_rules | `(tactic| fail "W") => `(tactic| refine wCw_and ?_)
local macro_rules | `(tactic| fail "U") => `(tactic| ((with_reducible refine chkNg ?_); refine wU_negR T g.toGd ?qf ?_; (case qf => (first | with_reducible assumption | exact Fit.mono (by (repeat' (first | with_reducible assumption | with_reducible exact fit_two | with_reducible apply fit_add | with_reducible apply fit_sub | with_reducible apply fit_mul | with_reducible apply fit_half | with_reducible apply fit_rabs | with_reducible apply fit_neg))) (by decide) | exact Fit.mono (n := 64) (fit_int (by omega) (by decide)) (by decide)))))
local macro_rules | `(tactic| fail "U") => `(tactic| with_reducible refine wU_neg ?_)
local macro_rules | `(tactic| fail "P") => `(tactic| with_reducible refine wPt_s ?_)
local macro_rules | `(tactic| fail "P") => `(tactic| with_reducible refine wPt_c ?_)
local macro_rules | `(tactic| fail "P") => `(tactic| with_reducible refine wPt_z ?_)
local macro_rules | `(tactic| fail "G") => `(tactic| refine wG_name gn ?_)
local macro_rules | `(tactic| fail "G") => `(tactic| refine wG_tup g.calm ?_)
local macro_rules | `(tactic| fail "H") => `(tactic| refine wGs_nil ?_)
local macro_rules | `(tactic| fail "H") => `(tactic| refine wGs_cons ?_)
local macro_rules | `(tactic| fail "S") => `(tactic| refine wS_pass ?_)
local macro_rules | `(tactic| fail "S") => `(tactic| refine wS_asg ?_)
local macro_rules | `(tactic| fail "S") => `(tactic| refine wS_ix ?_)
local macro_rules | `(tactic| fail "S") => `(tactic| refine wS_expr ?_)
local macro_rules | `(tactic| fail "S") => `(tactic| refine wS_if ?_)
local macro_rules | `(tactic| fail "S") => `(tactic| refine wS_ret ?_)
local macro_rules | `(tactic| fail "S") => `(tactic| (refine wS_par3 g ?qa ?_; (case qa => exact ⟨_, _, _, by (repeat (first | with_reducible exact Il.z | with_reducible apply Il.s)), by (repeat (first | with_reducible exact Il.z | with_reducible apply Il.s)), by (repeat (first | with_reducible exact Il.z | with_reducible apply Il.s)), by decide, by decide, by decide⟩)))
local macro_rules | `(tactic| fail "S") => `(tactic| (refine wS_par g ?qa ?_; (case qa => exact ⟨_, _, by (repeat (first | with_reducible exact Il.z | with_reducible apply Il.s)), by (repeat (first | with_reducible exact Il.z | with_reducible apply Il.s)), by decide⟩)))
local macro_rules | `(tactic| fail "S") => `(tactic| (refine wS_set gn ?qa ?_; (case qa => exact ⟨_, by (repeat (first | with_reducible exact Ix.z | with_reducible exact Ix.c | with_reducible apply Ix.s))⟩)))
local macro_rules | `(tactic| fail "L") => `(tactic| refine wSs_nil ?_)
local macro_rules | `(tactic| fail "c") => `(tactic| ((with_reducible refine chkC "Water" ?_); refine xE_make gn ?qa T.g_Water T.mk_Water.kp ?_; (case qa => (repeat (first | with_reducible exact In.z | with_reducible apply In.s)))))
local macro_rules | `(tactic| fail "c") => `(tactic| ((with_reducible refine chkC "Pool" ?_); refine xE_make gn ?qa T.g_Pool T.mk_Pool.kp ?_; (case qa => (repeat (first | with_reducible exact In.z | with_reducible apply In.s)))))
local macro_rules | `(tactic| fail "c") => `(tactic| ((with_reducible refine chkC "Ratio" ?_); refine xE_make gn ?qa T.g_Ratio T.mk_Ratio.kp ?_; (case qa => (repeat (first | with_reducible exact In.z | with_reducible apply In.s)))))
local macro_rules | `(tactic| fail "c") => `(tactic| ((with_reducible refine chkC "_law_made" ?_); refine xE_call T.f_w_made g ?qa T.g_w_made T.F_w_made.kp T.b_w_made ?_; (case qa => (repeat (first | with_reducible exact In.z | with_reducible apply In.s)))))
local macro_rules | `(tactic| fail "c") => `(tactic| ((with_reducible refine chkC "_law_due" ?_); refine xE_call T.f_w_due g ?qa T.g_w_due T.F_w_due.kp T.b_w_due ?_; (case qa => (repeat (first | with_reducible exact In.z | with_reducible apply In.s)))))
local macro_rules | `(tactic| fail "c") => `(tactic| ((with_reducible refine chkC "_law_long_row" ?_); refine xE_call T.f_w_long_row g ?qa T.g_w_long_row T.F_w_long_row.kp T.b_w_long_row ?_; (case qa => (repeat (first | with_reducible exact In.z | with_reducible apply In.s)))))
local macro_rules | `(tactic| fail "c") => `(tactic| ((with_reducible refine chkC "_law_row" ?_); refine xE_call T.f_w_row g ?qa T.g_w_row T.F_w_row.kp T.b_w_row ?_; (case qa => (repeat (first | with_reducible exact In.z | with_reducible apply In.s)))))
local macro_rules | `(tactic| fail "c") => `(tactic| ((with_reducible refine chkC "_law_is_water" ?_); refine xE_call T.f_w_is_water g ?qa T.g_w_is_water T.F_w_is_water.kp T.b_w_is_water ?_; (case qa => (repeat (first | with_reducible exact In.z | with_reducible apply In.s)))))
local macro_rules | `(tactic| fail "c") => `(tactic| ((with_reducible refine chkC "_law_moments" ?_); refine xE_call T.f_w_moments g ?qa T.g_w_moments T.F_w_moments.kp T.b_w_moments ?_; (case qa => (repeat (first | with_reducible exact In.z | with_reducible apply In.s)))))
local macro_rules | `(tactic| fail "c") => `(tactic| ((with_reducible refine chkC "_law_pool" ?_); refine xE_call T.f_w_pool g ?qa T.g_w_pool T.F_w_pool.kp T.b_w_pool ?_; (case qa => (repeat (first | with_reducible exact In.z | with_reducible apply In.s)))))
local macro_rules | `(tactic| fail "c") => `(tactic| ((with_reducible refine chkC "_law_is" ?_); refine xE_call T.f_w_is g ?qa T.g_w_is T.F_w_is.kp T.b_w_is ?_; (case qa => (repeat (first | with_reducible exact In.z | with_reducible apply In.s)))))
local macro_rules | `(tactic| fail "c") => `(tactic| ((with_reducible refine chkC "_law_number" ?_); refine xE_call T.f_w_number g ?qa T.g_w_number T.F_w_number.kp T.b_w_number ?_; (case qa => (repeat (first | with_reducible exact In.z | with_reducible apply In.s)))))
local macro_rules | `(tactic| fail "c") => `(tactic| ((with_reducible refine chkC "_law_take" ?_); refine xE_call T.f_w_take g ?qa T.g_w_take T.F_w_take.kp T.b_w_take ?_; (case qa => (repeat (first | with_reducible exact In.z | with_reducible apply In.s)))))
local macro_rules | `(tactic| fail "c") => `(tactic| ((with_reducible refine chkC "_law_box" ?_); refine xE_call T.f_w_box g ?qa T.g_w_box T.F_w_box.kp T.b_w_box ?_; (case qa => (repeat (first | with_reducible exact In.z | with_reducible apply In.s)))))
local macro_rules | `(tactic| fail "c") => `(tactic| ((with_reducible refine chkC "sum" ?_); refine xE_blt gn ?qa T.n_sum boot_sum ?_; (case qa => (repeat (first | with_reducible exact In.z | with_reducible apply In.s)))))
local macro_rules | `(tactic| fail "c") => `(tactic| ((with_reducible refine chkC "any" ?_); refine xE_blt gn ?qa T.n_any boot_any ?_; (case qa => (repeat (first | with_reducible exact In.z | with_reducible apply In.s)))))
local macro_rules | `(tactic| fail "c") => `(tactic| ((with_reducible refine chkC "all" ?_); refine xE_blt gn ?qa T.n_all boot_all ?_; (case qa => (repeat (first | with_reducible exact In.z | with_reducible apply In.s)))))
local macro_rules | `(tactic| fail "c") => `(tactic| ((with_reducible refine chkC "bool" ?_); refine xE_bcl gn ?qa T.n_bool boot_bool ?_; (case qa => (repeat (first | with_reducible exact In.z | with_reducible apply In.s)))))
local macro_rules | `(tactic| fail "c") => `(tactic| ((with_reducible refine chkC "list" ?_); refine xE_bcl gn ?qa T.n_list boot_list ?_; (case qa => (repeat (first | with_reducible exact In.z | with_reducible apply In.s)))))
local macro_rules | `(tactic| fail "c") => `(tactic| ((with_reducible refine chkC "tuple" ?_); refine xE_bcl gn ?qa T.n_tuple boot_tuple ?_; (case qa => (repeat (first | with_reducible exact In.z | with_reducible apply In.s)))))
local macro_rules | `(tactic| fail "c") => `(tactic| ((with_reducible refine chkC "isinstance" ?_); refine xE_blt gn ?qa T.n_isinstance boot_isinstance ?_; (case qa => (repeat (first | with_reducible exact In.z | with_reducible apply In.s)))))
local macro_rules | `(tactic| fail "c") => `(tactic| ((with_reducible refine chkC "repr" ?_); refine xE_blt gn ?qa T.n_repr boot_repr ?_; (case qa => (repeat (first | with_reducible exact In.z | with_reducible apply In.s)))))
local macro_rules | `(tactic| fail "c") => `(tactic| ((with_reducible refine chkC "str" ?_); refine xE_bcl gn ?qa T.n_str boot_str ?_; (case qa => (repeat (first | with_reducible exact In.z | with_reducible apply In.s)))))
local macro_rules | `(tactic| fail "c") => `(tactic| ((with_reducible refine chkC "min" ?_); refine xE_blt gn ?qa T.n_min boot_min ?_; (case qa => (repeat (first | with_reducible exact In.z | with_reducible apply In.s)))))
local macro_rules | `(tactic| fail "c") => `(tactic| ((with_reducible refine chkC "max" ?_); refine xE_blt gn ?qa T.n_max boot_max ?_; (case qa => (repeat (first | with_reducible exact In.z | with_reducible apply In.s)))))
local macro_rules | `(tactic| fail "c") => `(tactic| ((with_reducible refine chkC "abs" ?_); refine xE_blt gn ?qa T.n_abs boot_abs ?_; (case qa => (repeat (first | with_reducible exact In.z | with_reducible apply In.s)))))
local macro_rules | `(tactic| fail "c") => `(tactic| ((with_reducible refine chkC "int" ?_); refine xE_bcl gn ?qa T.n_int boot_int ?_; (case qa => (repeat (first | with_reducible exact In.z | with_reducible apply In.s)))))
local macro_rules | `(tactic| fail "c") => `(tactic| ((with_reducible refine chkC "len" ?_); refine xE_blt gn ?qa T.n_len boot_len ?_; (case qa => (repeat (first | with_reducible exact In.z | with_reducible apply In.s)))))
local macro_rules | `(tactic| fail "n") => `(tactic| ((with_reducible refine chkN "Water" ?_); refine xE_cls gn ?qa T.g_Water ?_; (case qa => (repeat (first | with_reducible exact In.z | with_reducible apply In.s)))))
local macro_rules | `(tactic| fail "n") => `(tactic| ((with_reducible refine chkN "Pool" ?_); refine xE_cls gn ?qa T.g_Pool ?_; (case qa => (repeat (first | with_reducible exact In.z | with_reducible apply In.s)))))
local macro_rules | `(tactic| fail "n") => `(tactic| ((with_reducible refine chkN "Ratio" ?_); refine xE_cls gn ?qa T.g_Ratio ?_; (case qa => (repeat (first | with_reducible exact In.z | with_reducible apply In.s)))))
local macro_rules | `(tactic| fail "n") => `(tactic| ((with_reducible refine chkN "UnknownIndex" ?_); refine xE_cls gn ?qa T.g_UnknownIndex ?_; (case qa => (repeat (first | with_reducible exact In.z | with_reducible apply In.s)))))
local macro_rules | `(tactic| fail "n") => `(tactic| ((with_reducible refine chkN "Touching" ?_); refine xE_cls gn ?qa T.g_Touching ?_; (case qa => (repeat (first | with_reducible exact In.z | with_reducible apply In.s)))))
local macro_rules | `(tactic| fail "n") => `(tactic| ((with_reducible refine chkN "Full" ?_); refine xE_cls gn ?qa T.g_Full ?_; (case qa => (repeat (first | with_reducible exact In.z | with_reducible apply In.s)))))
local macro_rules | `(tactic| fail "n") => `(tactic| ((with_reducible refine chkN "InvalidDrop" ?_); refine xE_cls gn ?qa T.g_InvalidDrop ?_; (case qa => (repeat (first | with_reducible exact In.z | with_reducible apply In.s)))))
local macro_rules | `(tactic| fail "n") => `(tactic| ((with_reducible refine chkN "InvalidNumber" ?_); refine xE_cls gn ?qa T.g_InvalidNumber ?_; (case qa => (repeat (first | with_reducible exact In.z | with_reducible apply In.s)))))
local macro_rules | `(tactic| fail "n") => `(tactic| ((with_reducible refine chkN "PoolError" ?_); refine xE_cls gn ?qa T.g_PoolError ?_; (case qa => (repeat (first | with_reducible exact In.z | with_reducible apply In.s)))))
local macro_rules | `(tactic| fail "n") => `(tactic| ((with_reducible refine chkN "list" ?_); refine xE_bty gn ?qa T.n_list boot_list ?_; (case qa => (repeat (first | with_reducible exact In.z | with_reducible apply In.s)))))
local macro_rules | `(tactic| fail "n") => `(tactic| ((with_reducible refine chkN "tuple" ?_); refine xE_bty gn ?qa T.n_tuple boot_tuple ?_; (case qa => (repeat (first | with_reducible exact In.z | with_reducible apply In.s)))))
local macro_rules | `(tactic| fail "n") => `(tactic| ((with_reducible refine chkN "str" ?_); refine xE_bty gn ?qa T.n_str boot_str ?_; (case qa => (repeat (first | with_reducible exact In.z | with_reducible apply In.s)))))
local macro_rules | `(tactic| fail "n") => `(tactic| ((with_reducible refine chkN "bool" ?_); refine xE_bty gn ?qa T.n_bool boot_bool ?_; (case qa => (repeat (first | with_reducible exact In.z | with_reducible apply In.s)))))
local macro_rules | `(tactic| fail "n") => `(tactic| ((with_reducible refine chkN "int" ?_); refine xE_bty gn ?qa T.n_int boot_int ?_; (case qa => (repeat (first | with_reducible exact In.z | with_reducible apply In.s)))))
local macro_rules | `(tactic| fail "a") => `(tactic| ((with_reducible refine chkA "right" ?_); refine wE_right T g.toGd ?_))
local macro_rules | `(tactic| fail "a") => `(tactic| ((with_reducible refine chkA "left" ?_); refine wE_left T g.toGd ?_))
local macro_rules | `(tactic| fail "a") => `(tactic| ((with_reducible refine chkA "volume" ?_); refine wE_vol T g.toGd ?_))
local macro_rules | `(tactic| fail "a") => `(tactic| ((with_reducible refine chkA "middle" ?_); refine wE_mid T g.toGd ?_))
local macro_rules | `(tactic| fail "a") => `(tactic| ((with_reducible refine chkA "amount" ?_); refine wE_amt T ?_))
local macro_rules | `(tactic| fail "a") => `(tactic| ((with_reducible refine chkA "center" ?_); refine wE_cen T ?_))
local macro_rules | `(tactic| fail "a") => `(tactic| ((with_reducible refine chkA "bottom" ?_); refine wE_bot T ?_))
local macro_rules | `(tactic| fail "a") => `(tactic| ((with_reducible refine chkA "top" ?_); refine wE_top T ?_))
local macro_rules | `(tactic| fail "m") => `(tactic| ((with_reducible refine chkM "over" ?_); refine wE_over T g.toGd ?_))
local macro_rules | `(tactic| fail "O") => `(tactic| refine And.intro (And.intro (by (first | with_reducible assumption | exact Fit.mono (by (repeat' (first | with_reducible assumption | with_reducible exact fit_two | with_reducible apply fit_add | with_reducible apply fit_sub | with_reducible apply fit_mul | with_reducible apply fit_half | with_reducible apply fit_rabs | with_reducible apply fit_neg))) (by decide) | exact Fit.mono (n := 64) (fit_int (by omega) (by decide)) (by decide))) (by (first | with_reducible assumption | exact Fit.mono (by (repeat' (first | with_reducible assumption | with_reducible exact fit_two | with_reducible apply fit_add | with_reducible apply fit_sub | with_reducible apply fit_mul | with_reducible apply fit_half | with_reducible apply fit_rabs | with_reducible apply fit_neg))) (by decide) | exact Fit.mono (n := 64) (fit_int (by omega) (by decide)) (by decide)))) ?_)
local macro_rules | `(tactic| fail "O") => `(tactic| refine Exists.intro _ (And.intro (by (first | exact Num.rt _ | exact Num.int _ | assumption)) (And.intro (And.intro (by (first | with_reducible assumption | exact Fit.mono (by (repeat' (first | with_reducible assumption | with_reducible exact fit_two | with_reducible apply fit_add | with_reducible apply fit_sub | with_reducible apply fit_mul | with_reducible apply fit_half | with_reducible apply fit_rabs | with_reducible apply fit_neg))) (by decide) | exact Fit.mono (n := 64) (fit_int (by omega) (by decide)) (by decide))) (And.intro (by (first | with_reducible assumption | exact Fit.mono (by (repeat' (first | with_reducible assumption | with_reducible exact fit_two | with_reducible apply fit_add | with_reducible apply fit_sub | with_reducible apply fit_mul | with_reducible apply fit_half | with_reducible apply fit_rabs | with_reducible apply fit_neg))) (by decide) | exact Fit.mono (n := 64) (fit_int (by omega) (by decide)) (by decide))) (by decide))) ?_)))
local macro_rules | `(tactic| fail "O") => `(tactic| (refine sp_take T (by (first | assumption | with_reducible exact at_last | with_reducible exact at_new rfl | with_reducible exact at_left (by assumption) | with_reducible exact List.getElem?_set_self (by assumption) | with_reducible exact at_left (at_left (by assumption)))) (by (first | with_reducible assumption | omega)) (by (first | with_reducible assumption | omega)) ?_; intro d h0 h1))
local macro_rules | `(tactic| fail "O") => `(tactic| refine Exists.intro _ (Exists.intro _ (Exists.intro _ (Exists.intro _ (And.intro rfl (And.intro rfl (And.intro (by (first | assumption | with_reducible exact at_last | with_reducible exact at_new rfl | with_reducible exact at_left (by assumption) | with_reducible exact List.getElem?_set_self (by assumption) | with_reducible exact at_left (at_left (by assumption)))) (And.intro rfl ?_))))))))
local macro_rules | `(tactic| fail "O") => `(tactic| refine Exists.intro _ (Exists.intro _ (Exists.intro _ (And.intro rfl ?_))))
local macro_rules | `(tactic| fail "O") => `(tactic| refine Exists.intro _ (Exists.intro _ (And.intro rfl ?_)))
local macro_rules | `(tactic| fail "O") => `(tactic| refine And.intro (by (simp only [List.length_cons, List.length_nil]; decide)) ?_)
local macro_rules | `(tactic| fail "O") => `(tactic| refine Exists.intro _ (And.intro rfl ?_))
local macro_rules | `(tactic| fail "I") => `(tactic| ((with_reducible refine iteNF ?_); fail "o"))
local macro_rules | `(tactic| fail "I") => `(tactic| ((with_reducible refine iteNT ?_); fail "o"))
local macro_rules | `(tactic| fail "I") => `(tactic| ((with_reducible refine iteFT ?_); fail "o"))
local macro_rules | `(tactic| fail "I") => `(tactic| ((with_reducible refine iteTT ?_); fail "o"))
local macro_rules | `(tactic| fail "J") => `(tactic| ((with_reducible refine iteNF ?_); fail "st"))
local macro_rules | `(tactic| fail "J") => `(tactic| ((with_reducible refine iteNT ?_); fail "st"))
local macro_rules | `(tactic| fail "J") => `(tactic| ((with_reducible refine iteFT ?_); fail "st"))
local macro_rules | `(tactic| fail "J") => `(tactic| ((with_reducible refine iteTT ?_); fail "st"))
local macro_rules | `(tactic| fail "su") => `(tactic| ((with_reducible refine hdL ?_); fail "L"))
local macro_rules | `(tactic| fail "su") => `(tactic| ((with_reducible refine hdS ?_); fail "S"))
local macro_rules | `(tactic| fail "p") => `(tactic| fail "O")
local macro_rules | `(tactic| fail "p") => `(tactic| ((with_reducible refine hdH ?_); fail "H"))
local macro_rules | `(tactic| fail "p") => `(tactic| ((with_reducible refine hdG ?_); fail "G"))
local macro_rules | `(tactic| fail "p") => `(tactic| ((with_reducible refine hdP ?_); fail "P"))
local macro_rules | `(tactic| fail "p") => `(tactic| ((with_reducible refine hdU ?_); fail "U"))
local macro_rules | `(tactic| fail "p") => `(tactic| ((with_reducible refine hdW ?_); fail "W"))
local macro_rules | `(tactic| fail "p") => `(tactic| ((with_reducible refine hdC ?_); fail "C"))
local macro_rules | `(tactic| fail "p") => `(tactic| ((with_reducible refine hdX ?_); fail "X"))
local macro_rules | `(tactic| fail "p") => `(tactic| ((with_reducible refine hdF ?_); fail "F"))
local macro_rules | `(tactic| fail "p") => `(tactic| ((with_reducible refine hdB ?_); fail "B"))
local macro_rules | `(tactic| fail "p") => `(tactic| ((with_reducible refine hdA ?_); fail "A"))
local macro_rules | `(tactic| fail "p") => `(tactic| ((with_reducible refine hdE ?_); fail "E"))
local macro_rules | `(tactic| fail "st") => `(tactic| ((with_reducible refine hdI ?_); fail "J"))
local macro_rules | `(tactic| fail "st") => `(tactic| ((fail_if_success (with_reducible refine hdI ?_)); fail "su"))
local macro_rules | `(tactic| fail "o") => `(tactic| ((with_reducible refine hdI ?_); fail "I"))
local macro_rules | `(tactic| fail "o") => `(tactic| ((fail_if_success (with_reducible refine hdI ?_)); fail "p"))
local macro_rules | `(tactic| walk_at "in") => `(tactic| (repeat (first | with_reducible exact In.z | with_reducible apply In.s)))
local macro_rules | `(tactic| walk_at "at") => `(tactic| (first | assumption | with_reducible exact at_last | with_reducible exact at_new rfl | with_reducible exact at_left (by assumption) | with_reducible exact List.getElem?_set_self (by assumption) | with_reducible exact at_left (at_left (by assumption))))
local macro_rules | `(tactic| walk_at "ixd") => `(tactic| (first | exact .inl rfl | exact .inr (.inl rfl) | exact .inr (.inr (.inl rfl)) | exact .inr (.inr (.inr ⟨_, rfl, by (first | assumption | with_reducible exact at_last | with_reducible exact at_new rfl | with_reducible exact at_left (by assumption) | with_reducible exact List.getElem?_set_self (by assumption) | with_reducible exact at_left (at_left (by assumption)))⟩))))
local macro_rules | `(tactic| walk_at "ints") => `(tactic| (repeat (first | exact Ints.nil | apply Ints.cons)))
local macro_rules | `(tactic| walk_at "num") => `(tactic| (first | with_reducible assumption | omega))
local macro_rules | `(tactic| walk_at "nm") => `(tactic| (first | exact Num.rt _ | exact Num.int _ | assumption))
local macro_rules | `(tactic| walk_at "fit") => `(tactic| (first | with_reducible assumption | exact Fit.mono (by (repeat' (first | with_reducible assumption | with_reducible exact fit_two | with_reducible apply fit_add | with_reducible apply fit_sub | with_reducible apply fit_mul | with_reducible apply fit_half | with_reducible apply fit_rabs | with_reducible apply fit_neg))) (by decide) | exact Fit.mono (n := 64) (fit_int (by omega) (by decide)) (by decide)))
local macro_rules | `(tactic| walk_at "ix") => `(tactic| (repeat (first | with_reducible exact Ix.z | with_reducible exact Ix.c | with_reducible apply Ix.s)))
local macro_rules | `(tactic| walk_at "il") => `(tactic| (repeat (first | with_reducible exact Il.z | with_reducible apply Il.s)))
local macro_rules | `(tactic| walk_at "one") => `(tactic| first | fail "o" | fail "st" | refine wSs_cons ?_)
local macro_rules | `(tactic| walk_at "wp") => `(tactic| repeat (first | fail "o" | fail "st" | refine wSs_cons ?_))
local macro_rules | `(tactic| walk_at "s1") => `(tactic| (refine wSs_cons ?_; repeat (first | fail "o" | fail "st")))
local macro_rules | `(tactic| walk_at "e") => `(tactic| repeat (fail "o"))
local macro_rules | `(tactic| walk_at "start") => `(tactic| (intro ρ hρ cdv A outer s H E g; simp only [startD, List.map_cons, List.map_nil, List.length_cons, List.length_nil, List.replicate_succ, List.replicate_zero, List.cons_append, List.nil_append, Nat.reduceAdd, Nat.reduceSub] at hρ; subst hρ; have gn := g.toNx'))
local macro_rules | `(tactic| walk_at "suite") => `(tactic| (intro a dd oe pn hz hv gn ρs hρ; simp only [List.set_cons_succ, List.set_cons_zero] at hρ; subst hρ))
local macro_rules | `(tactic| walk_at "after") => `(tactic| (intro ρs hρ; simp only [List.set_cons_succ, List.set_cons_zero] at hρ; subst hρ))
local macro_rules | `(tactic| walk_at "blk") => `(tactic| (intro s H C cl fp g; have gn := g.toNx'))
def dueFrom (n : Nat) (prev : Int × Int) : List (Int × Int) → Option Nat
  | [] => none
  | p :: ps => if 2 * (p.1 - prev.1) ≤ prev.2 + p.2 then some n else dueFrom (n + 1) p ps
def due : List (Int × Int) → Option Nat
  | [] => none
  | p :: ps => dueFrom 1 p ps
abbrev dq (u : Int) (p : Int × Int) : PQ := (Rat.divInt p.1 u, Rat.divInt p.2 u)
theorem dueFrom_bad {u : Int} (hu : 0 < u) : ∀ (xs : List (Int × Int)) (n : Nat) (prev : Int × Int), badFrom n (dq u prev) (xs.map (dq u)) = dueFrom n prev xs
  | [], _, _ => rfl
  | p :: xs, n, prev => by
    have e : plL (dq u p) ≤ plR (dq u prev) ↔ 2 * (p.1 - prev.1) ≤ prev.2 + p.2 := by
      have e1 : plL (dq u p) = Rat.divInt (2 * p.1 - p.2) (2 * u) := pl_left hu
      have e2 : plR (dq u prev) = Rat.divInt (2 * prev.1 + prev.2) (2 * u) := pl_right hu
      rw [e1, e2, divInt_le (by omega)]
      omega
    show (if plL (dq u p) ≤ plR (dq u prev) then some n else badFrom (n + 1) (dq u p) (xs.map (dq u))) = if 2 * (p.1 - prev.1) ≤ prev.2 + p.2 then some n else dueFrom (n + 1) p xs
    by_cases h : 2 * (p.1 - prev.1) ≤ prev.2 + p.2
    · rw [if_pos h, if_pos (e.mpr h)]
    · rw [if_neg h, if_neg (fun z => h (e.mp z))]
      exact dueFrom_bad hu xs (n + 1) p
theorem due_bad {u : Int} (hu : 0 < u) : ∀ xs : List (Int × Int), bad (xs.map (dq u)) = due xs
  | [] => rfl
  | p :: xs => dueFrom_bad hu xs 1 p
theorem dueFrom_lt : ∀ (xs : List (Int × Int)) (n m : Nat) (prev : Int × Int), dueFrom n prev xs = some m → m < n + xs.length
  | [], _, _, _, h => by cases h
  | p :: xs, n, m, prev, h => by
    simp only [dueFrom] at h
    split at h
    · cases h; simp
    · have := dueFrom_lt xs (n + 1) m p h
      simp at this ⊢
      omega
theorem due_lt {xs : List (Int × Int)} {m : Nat} (h : due xs = some m) : m < xs.length := by
  cases xs with
  | nil => cases h
  | cons p xs =>
    have := dueFrom_lt xs 1 m p h
    simp
    omega
def dueD : Option Nat → D
  | none => .non
  | some n => .int (n : Nat)
theorem rangeD_cons {i : Int} {n : Nat} : rangeD i (n + 1) = .int i :: rangeD (i + 1) n := by
  unfold rangeD
  rw [List.range_succ_eq_map]
  simp only [List.map_cons, List.map_map]
  congr 1
  · simp
  · apply List.map_congr_left
    intro a _
    simp [Function.comp]
    omega
section
variable {P : Program} {w : World} {K : PySem.W.Frag} {mg : Str → Option Value} {base : Heap} (T : Tx K mg)
theorem sp_due {μ : List M} {xs : List (Int × Int)} {Q : KV} {Z : KX} (hl : xs.length ≤ 1000) (h : Q (dueD (due xs)) μ) : SpF P w K mg base T.f_w_due [.lst (xs.map dr)] μ Q Z := by
  refine spX_of T.F_w_due sc_w_due ck_w_due rfl ?_
  walk_at "start"
  rw [List.append_nil]
  have ln : (xs.map dr).length = xs.length := List.length_map ..
  refine wSs_cons (wS_for g.po g.calm (wI_range2 T.n_range ?_))
  walk_at "e"
  refine ⟨_, _, rfl, rfl, ⟨by omega, by omega, by omega, by omega⟩, ?_⟩
  cases xs with
  | nil =>
    refine wFor_inv (fun ds ρ μ' => ds = [] ∧ μ = μ' ∧ ρ = [some (.lst []), none, none, none]) ?_ ?_ _ _ _ ⟨rfl, rfl, rfl⟩
    · rintro d ds ρ _ ⟨z, _⟩
      cases z
    · rintro ρ _ ⟨_, rfl, rfl⟩
      walk_at "wp"
      exact .same h
  | cons p0 xs0 =>
    obtain ⟨xs, hxs⟩ : ∃ xs, xs = p0 :: xs0 := ⟨_, rfl⟩
    rw [← hxs] at h hl ln ⊢
    refine wFor_inv (fun ds ρ μ' => ∃ done' prev rest, xs = done' ++ [prev] ++ rest ∧ ds = rangeD ((done'.length + 1 : Nat) : Int) rest.length ∧ due xs = dueFrom (done'.length + 1) prev rest ∧ μ = μ' ∧ ∃ o1 o2 o3, ρ = [some (.lst (xs.map dr)), o1, o2, o3]) ?_ ?_ _ _ _ ⟨[], p0, xs0, hxs, ?_, by rw [hxs]; rfl, rfl, _, _, _, rfl⟩
    rotate_right
    · rw [hxs]
      simp
    · rintro d ds ρ _ ⟨done', prev, rest, ex, ed, hd, rfl, o1, o2, o3, rfl⟩
      cases rest with
      | nil => cases ed
      | cons p rest =>
      rw [List.length_cons, rangeD_cons] at ed
      obtain ⟨rfl, rfl⟩ := List.cons.inj ed
      have a0 : (xs.map dr)[done'.length]? = some (dr prev) := by rw [ex]; simp
      have a1 : (xs.map dr)[done'.length + 1]? = some (dr p) := by
        rw [ex, List.map_append, List.map_append, List.getElem?_append_right (by simp)]
        simp
      have hdf : dueFrom (done'.length + 1) prev (p :: rest) = if 2 * (p.1 - prev.1) ≤ prev.2 + p.2 then some (done'.length + 1) else dueFrom (done'.length + 1 + 1) p rest := rfl
      rw [hdf] at hd
      obtain ⟨s1, v1⟩ := p
      obtain ⟨s0, v0⟩ := prev
      simp only [dr] at a0 a1 ⊢
      simp only at hd
      walk_at "e"
      walk_at "s1"
      refine wX_at (i := ((done'.length + 1 : Nat) : Int) - 1) (by walk_at "ixd") (by rw [show ((done'.length + 1 : Nat) : Int) - 1 = (done'.length : Nat) by omega]; exact atI_nat a0) ?_
      walk_at "e"
      refine wX_at (by walk_at "ixd") (atI_nat a1) ?_
      walk_at "e"
      walk_at "s1"
      refine br_dec (fun hc => ?_) (fun hc => ?_)
      · rw [if_pos hc] at hd
        walk_at "wp"
        rw [hd] at h
        exact .same h
      · rw [if_neg hc] at hd
        refine wSs_nil (wSs_nil ⟨done' ++ [(s0, v0)], (s1, v1), rest, by rw [ex]; simp, by simp, by rw [hd]; simp, rfl, _, _, _, rfl⟩)
    · rintro ρ _ ⟨done', prev, rest, ex, ed, hd, rfl, o1, o2, o3, rfl⟩
      cases rest with
      | cons p rest => rw [List.length_cons, rangeD_cons] at ed; cases ed
      | nil =>
      rw [hd] at h
      walk_at "wp"
      exact .same h
theorem sp_made {μ : List M} {d : D} {ps : List PQ} {Q : KV} {Z : KX} (hd : Sqd μ d (ps.map T.plq)) (hf : ∀ p ∈ ps, Fit 300 p.1 ∧ Fit 300 p.2) (h : bad ps = none → Q (T.wt ps) μ) (hx : ∀ n, bad ps = some n → Q (.tup [.str "touching", .int (n : Nat)]) μ) : SpF P w K mg base T.f_w_made [d] μ Q Z := by
  refine spX_of T.F_w_made sc_w_made ck_w_made rfl ?_
  walk_at "start"
  rw [List.append_nil]
  walk_at "s1"
  have gn0 := gn
  have g0 := g
  refine wSs_cons (wS_try (C := T.C_Touching) (i := 2) g (by walk_at "il") ⟨rfl, by decide, .inl T.g_Touching⟩ ?_)
  intro W' pn xe g
  have gn := g.toNx'
  have yes : PySem.W.exmOne K (.ref T.C_Touching) (.ref T.C_Touching) = some true := T.xm_Touching
  walk_at "s1"
  refine wF_Water T g.toGd hd hf (fun hn => ?_) (fun n hn => ?_)
  · walk_at "e"
    refine wSs_nil ?_
    have gn := gn0
    have g := g0
    walk_at "wp"
    exact .same (h hn)
  · refine Or.inr ⟨yes, by decide, ?_⟩
    walk_at "suite"
    walk_at "s1"
    refine wF_isET (b := false) T.xk_Touching hz hv (show AskDs _ _ _ (false || (false || (false || false))) from .cons (.own T.ki_Touching_Full) (.cons (.own T.ki_Touching_InvalidDrop) (.cons (.own T.ki_Touching_InvalidNumber) .nil))) ?_
    walk_at "e"
    walk_at "s1"
    refine wF_isE T.xk_Touching hz hv (.own T.ki_Touching_PoolError) ?_
    walk_at "e"
    refine wE_xf T.xf_Touching T.na_Touching_index hz hv ?_
    walk_at "e"
    refine ⟨_, _, _, rfl, rfl, ?_⟩
    walk_at "e"
    refine wSs_nil ?_
    walk_at "after"
    have gn := gn0
    walk_at "wp"
    exact .same (hx n hn)
end
theorem piled_le {B : Nat} : ∀ ts : List Str, (∀ t ∈ ts, t.length ≤ B) → piled ts ≤ ts.length * (B + 2)
  | [], _ => Nat.zero_le _
  | t :: ts, h => by
    have h1 := h t (by simp)
    have h2 := piled_le ts fun x hx => h x (by simp [hx])
    rw [piled_cons, List.length_cons, Nat.succ_mul]
    omega
theorem listText_le : ∀ ts : List Str, (listText ts).length ≤ piled ts + 2
  | [] => by decide
  | t :: r => by
    have h := textFrom_length_pos r 1 (("[" : Str) ++ (if (0 : Nat) > 0 then ", " else "" : String) ++ t) (Nat.succ_pos 0)
    have e : ((("[" : Str) ++ (if (0 : Nat) > 0 then ", " else "" : String) ++ t)).length = 1 + t.length := by
      rw [strLen_append, strLen_append]; rfl
    have hX : (listText (t :: r)).length = (textFrom 0 "[" (t :: r)).length + 1 := by
      show (textFrom 0 "[" (t :: r) ++ "]").length = _
      rw [strLen_append]; rfl
    have hY : (textFrom 0 "[" (t :: r)).length = (textFrom 1 (("[" : Str) ++ (if (0 : Nat) > 0 then ", " else "" : String) ++ t) r).length := rfl
    rw [hX, hY, h, e, piled_cons]; omega
theorem txPl_len {c v : Rat} (hc : Fit 1000 c) (hv : Fit 1000 v) : (txPl c v).length ≤ 8010 := by
  have l1 := txR_len hc
  have l2 := txR_len hv
  unfold txPl
  rw [Str.length_append, Str.length_append, Str.length_append, Str.length_append]
  show 5 + _ + 2 + _ + 1 ≤ _
  omega
/-- the texts of pools -/
def txs (ps : List PQ) : List Str := ps.map fun p => txPl p.1 p.2
theorem txs_fit {ps : List PQ} (hl : ps.length ≤ 100) (hf : ∀ p ∈ ps, Fit 1000 p.1 ∧ Fit 1000 p.2) : (listText (txs ps)).length ≤ sizeLine := by
  have h1 := listText_le (txs ps)
  have h2 := piled_le (B := 8010) (txs ps) fun t ht => by
    obtain ⟨p, hp, rfl⟩ := List.mem_map.mp ht
    exact txPl_len (hf p hp).1 (hf p hp).2
  have h3 : (txs ps).length = ps.length := List.length_map ..
  have h4 : ps.length * (8010 + 2) ≤ 100 * (8010 + 2) := Nat.mul_le_mul_right _ hl
  have := sl_big
  rw [h3] at h2
  omega
section
variable {P : Program} {w : World} {K : PySem.W.Frag} {mg : Str → Option Value} {base : Heap} (T : Tx K mg)
theorem txs_tell {μ : List M} {ps : List PQ} (hf : ∀ p ∈ ps, Fit 1000 p.1 ∧ Fit 1000 p.2) : TellsAll T.C_Pool (R_prepr T) μ (ps.map T.plq) (txs ps) := by
  refine ⟨by simp [txs], fun i d h => ?_⟩
  rw [List.getElem?_map] at h
  obtain ⟨p, hp, rfl⟩ := Option.map_eq_some_iff.mp h
  have hm : p ∈ ps := List.mem_of_getElem? hp
  exact ⟨txPl p.1 p.2, _, _, by simp [txs, hp], rfl, p.1, p.2, rfl, (hf p hm).1, (hf p hm).2, rfl⟩
theorem mo_mq {u : Int} {xs : List (Int × Int)} (hu : 0 < u) (hx : ∀ p ∈ xs, DrOk 1000 p) : (xs.map mo).map (mq u) = xs.map (dq u) := by
  rw [List.map_map]
  refine List.map_congr_left fun p hp => ?_
  obtain ⟨_, _, p2, _⟩ := hx p hp
  have hv : 0 < p.2 := by omega
  show (Rat.divInt (p.1 * p.2) (p.2 * u), Rat.divInt p.2 u) = (Rat.divInt p.1 u, Rat.divInt p.2 u)
  have e : Rat.divInt (p.1 * p.2) (p.2 * u) = Rat.divInt p.1 u := (Rat.divInt_eq_divInt_iff (Int.ne_of_gt (Int.mul_pos hv hu)) (Int.ne_of_gt hu)).mpr (by rw [Int.mul_assoc])
  rw [e]
/-- Water(()) as a relation -/
theorem sp_Winit0 {μ : List M} {Q : KV} {Z : KX} (h : Q .non (μ ++ [.ins T.C_Water ["rows"] [.tup []]])) : SpF P w K mg base T.f_Water_init [.loc μ.length, .tup []] (μ ++ [.ins T.C_Water [] []]) Q Z := by
  refine spX_of T.F_Water_init sc_Water_init ck_Water_init rfl ?_
  walk_at "start"
  rw [List.append_nil]
  refine wSs_cons (wS_fld ?_)
  walk_at "e"
  refine wF_tup (.inr (.inl rfl)) ?_
  walk_at "e"
  refine ⟨_, _, _, _, rfl, at_last, ⟨T.own_Water.cl, T.na_Water_rows, by decide⟩, ?_⟩
  rw [set_last]
  have em : M.ins T.C_Water (putN "rows" []) (putD "rows" (.tup []) [] []) = .ins T.C_Water ["rows"] [.tup []] := rfl
  rw [em]
  refine wSs_cons (wS_for g.po g.calm (wI_enumT T.n_enumerate ?_))
  refine wA_cons (wE_fld ?_ T.own_Water.cl T.na_Water_rows)
  walk_at "e"
  refine ⟨_, _, .inr ⟨_, rfl, at_last⟩, _, rfl, ?_⟩
  refine wA_nil ⟨_, rfl, ?_⟩
  refine wFor_inv (fun ds ρ μ' => ds = [] ∧ μ ++ [.ins T.C_Water ["rows"] [.tup []]] = μ') ?_ ?_ _ _ _ ⟨rfl, rfl⟩
  · rintro d ds ρ _ ⟨z, _⟩
    cases z
  · rintro ρ _ ⟨_, rfl⟩
    walk_at "wp"
    exact .same h
def R_w0 (T : Tx K mg) : Rl := fun ds μ o => ∃ μ0 : List M, ds = [.loc μ0.length, .tup []] ∧ μ = μ0 ++ [.ins T.C_Water [] []] ∧ o = .ret .non (μ0 ++ [.ins T.C_Water ["rows"] [.tup []]])
theorem ok_w0 : FnG P w K mg base 44 T.a_Water_init T.fd_Water_init ["self", "pools"] (spR K (R_w0 T)) := by
  refine SpF.rel (f := T.f_Water_init) ?_
  rintro ds μ o ⟨μ0, rfl, rfl, rfl⟩
  exact sp_Winit0 T rfl
theorem mk_w0 {μ : List M} : MakeR (R_w0 T) T.C_Water [.tup []] μ (.ret (T.wt []) μ) :=
  .obj (ns := ["rows"]) (fs := [.tup []]) ⟨μ, rfl, rfl, rfl⟩ (.refl _) rfl rfl
theorem kb_Winit : KwB K T.fd_Water_init ["self", "pools"] 1 ["pools"] (0 :: [0].map (· + 1)) where
  to := by
    obtain ⟨oc, od, dV, kV, doc, pm, an, cdv, ct, osl, e, look, hcode, hD, _⟩ := T.F_Water_init.ex
    rcases hD with ⟨e0, _⟩ | ⟨_, TT, o, its, m, rfl, lT, oT, rT⟩
    · cases e0
    · intro s us ws X h1 h2
      obtain ⟨u, rfl, _⟩ := rT.one
      rw [e]
      match us, ws, h1, h2 with
      | [_], [_], _, _ => exact BindsTo.of_looks fun M => looks_items (M := M) X lT oT (.of_pure rfl)
  le := by decide
end
end PM
set_option Elab.async false
set_option linter.all false
set_option maxRecDepth 100000
set_option maxHeartbeats 4000000
set_option exponentiation.threshold 20000
namespace PM
open PySem L2 PyProof.Rows
set_option hygiene false
local macro_rules | `(tactic| fail "E") => `(tactic| ((with_reducible refine hdm ?_); fail "m"))
local macro_rules | `(tactic| fail "E") => `(tactic| ((with_reducible refine hda ?_); fail "a"))
local macro_rules | `(tactic| fail "E") => `(tactic| ((with_reducible refine hdn ?_); fail "n"))
local macro_rules | `(tactic| fail "E") => `(tactic| ((with_reducible refine hdc ?_); fail "c"))
local macro_rules | `(tactic| fail "E") => `(tactic| refine wE_if ?_)
local macro_rules | `(tactic| fail "E") => `(tactic| refine wE_un ?_)
local macro_rules | `(tactic| fail "E") => `(tactic| refine wE_one ?_)
local macro_rules | `(tactic| fail "E") => `(tactic| refine wE_or ?_)
local macro_rules | `(tactic| fail "E") => `(tactic| refine wE_and ?_)
local macro_rules | `(tactic| fail "E") => `(tactic| refine wE_not ?_)
local macro_rules | `(tactic| fail "E") => `(tactic| refine wE_non ?_)
local macro_rules | `(tactic| fail "E") => `(tactic| refine wE_bl ?_)
local macro_rules | `(tactic| fail "E") => `(tactic| refine wE_str ?_)
local macro_rules | `(tactic| fail "E") => `(tactic| refine wE_lst ?_)
local macro_rules | `(tactic| fail "E") => `(tactic| refine wE_tup ?_)
local macro_rules | `(tactic| fail "E") => `(tactic| refine wE_cmp ?_)
local macro_rules | `(tactic| fail "E") => `(tactic| refine wE_sub ?_)
local macro_rules | `(tactic| fail "E") => `(tactic| refine wE_bin ?_)
local macro_rules | `(tactic| fail "E") => `(tactic| refine wE_int ?_)
local macro_rules | `(tactic| fail "E") => `(tactic| (refine wE_name gn ?_; (repeat (first | with_reducible refine wGt_z ?_ | with_reducible refine wGt_c ?_ | with_reducible refine wGt_s ?_ | with_reducible refine wGt_f ?_)); fail_if_success refine wGt_chk ?_))
local macro_rules | `(tactic| fail "B") => `(tactic| ((with_reducible refine chkCmL .LtE ?_); refine wE_leL T g.toGd ?_; refine Exists.intro _ (And.intro (by (first | exact Num.rt _ | exact Num.int _ | assumption)) (And.intro (And.intro (by (first | with_reducible assumption | exact Fit.mono (by (repeat' (first | with_reducible assumption | with_reducible exact fit_two | with_reducible apply fit_add | with_reducible apply fit_sub | with_reducible apply fit_mul | with_reducible apply fit_half | with_reducible apply fit_rabs | with_reducible apply fit_neg))) (by decide) | exact Fit.mono (n := 64) (fit_int (by omega) (by decide)) (by decide))) (by (first | with_reducible assumption | exact Fit.mono (by (repeat' (first | with_reducible assumption | with_reducible exact fit_two | with_reducible apply fit_add | with_reducible apply fit_sub | with_reducible apply fit_mul | with_reducible apply fit_half | with_reducible apply fit_rabs | with_reducible apply fit_neg))) (by decide) | exact Fit.mono (n := 64) (fit_int (by omega) (by decide)) (by decide)))) ?_))))
local macro_rules | `(tactic| fail "B") => `(tactic| ((with_reducible refine chkCm .GtE ?_); refine wE_geR T g.toGd ?_; refine Exists.intro _ (And.intro (by (first | exact Num.rt _ | exact Num.int _ | assumption)) (And.intro (And.intro (by (first | with_reducible assumption | exact Fit.mono (by (repeat' (first | with_reducible assumption | with_reducible exact fit_two | with_reducible apply fit_add | with_reducible apply fit_sub | with_reducible apply fit_mul | with_reducible apply fit_half | with_reducible apply fit_rabs | with_reducible apply fit_neg))) (by decide) | exact Fit.mono (n := 64) (fit_int (by omega) (by decide)) (by decide))) (by (first | with_reducible assumption | exact Fit.mono (by (repeat' (first | with_reducible assumption | with_reducible exact fit_two | with_reducible apply fit_add | with_reducible apply fit_sub | with_reducible apply fit_mul | with_reducible apply fit_half | with_reducible apply fit_rabs | with_reducible apply fit_neg))) (by decide) | exact Fit.mono (n := 64) (fit_int (by omega) (by decide)) (by decide)))) ?_))))
local macro_rules | `(tactic| fail "B") => `(tactic| ((with_reducible refine chkCm .LtE ?_); refine wE_leR T g.toGd ?_; refine Exists.intro _ (And.intro (by (first | exact Num.rt _ | exact Num.int _ | assumption)) (And.intro (And.intro (by (first | with_reducible assumption | exact Fit.mono (by (repeat' (first | with_reducible assumption | with_reducible exact fit_two | with_reducible apply fit_add | with_reducible apply fit_sub | with_reducible apply fit_mul | with_reducible apply fit_half | with_reducible apply fit_rabs | with_reducible apply fit_neg))) (by decide) | exact Fit.mono (n := 64) (fit_int (by omega) (by decide)) (by decide))) (by (first | with_reducible assumption | exact Fit.mono (by (repeat' (first | with_reducible assumption | with_reducible exact fit_two | with_reducible apply fit_add | with_reducible apply fit_sub | with_reducible apply fit_mul | with_reducible apply fit_half | with_reducible apply fit_rabs | with_reducible apply fit_neg))) (by decide) | exact Fit.mono (n := 64) (fit_int (by omega) (by decide)) (by decide)))) ?_))))
local macro_rules | `(tactic| fail "B") => `(tactic| ((with_reducible refine chkSub ?_); refine wE_subR T g.toGd ?_; refine Exists.intro _ (And.intro (by (first | exact Num.rt _ | exact Num.int _ | assumption)) (And.intro (And.intro (by (first | with_reducible assumption | exact Fit.mono (by (repeat' (first | with_reducible assumption | with_reducible exact fit_two | with_reducible apply fit_add | with_reducible apply fit_sub | with_reducible apply fit_mul | with_reducible apply fit_half | with_reducible apply fit_rabs | with_reducible apply fit_neg))) (by decide) | exact Fit.mono (n := 64) (fit_int (by omega) (by decide)) (by decide))) (by (first | with_reducible assumption | exact Fit.mono (by (repeat' (first | with_reducible assumption | with_reducible exact fit_two | with_reducible apply fit_add | with_reducible apply fit_sub | with_reducible apply fit_mul | with_reducible apply fit_half | with_reducible apply fit_rabs | with_reducible apply fit_neg))) (by decide) | exact Fit.mono (n := 64) (fit_int (by omega) (by decide)) (by decide)))) ?_))))
local macro_rules | `(tactic| fail "B") => `(tactic| ((with_reducible refine chkAdd ?_); refine wE_addR T g.toGd ?_; refine Exists.intro _ (And.intro (by (first | exact Num.rt _ | exact Num.int _ | assumption)) (And.intro (And.intro (by (first | with_reducible assumption | exact Fit.mono (by (repeat' (first | with_reducible assumption | with_reducible exact fit_two | with_reducible apply fit_add | with_reducible apply fit_sub | with_reducible apply fit_mul | with_reducible apply fit_half | with_reducible apply fit_rabs | with_reducible apply fit_neg))) (by decide) | exact Fit.mono (n := 64) (fit_int (by omega) (by decide)) (by decide))) (by (first | with_reducible assumption | exact Fit.mono (by (repeat' (first | with_reducible assumption | with_reducible exact fit_two | with_reducible apply fit_add | with_reducible apply fit_sub | with_reducible apply fit_mul | with_reducible apply fit_half | with_reducible apply fit_rabs | with_reducible apply fit_neg))) (by decide) | exact Fit.mono (n := 64) (fit_int (by omega) (by decide)) (by decide)))) ?_))))
local macro_rules | `(tactic| fail "B") => `(tactic| with_reducible refine wB_pow18 ?_)
local macro_rules | `(tactic| fail "B") => `(tactic| with_reducible refine wB_pow9 ?_)
local macro_rules | `(tactic| fail "B") => `(tactic| with_reducible refine wB_pow8 ?_)
local macro_rules | `(tactic| fail "B") => `(tactic| with_reducible refine wB_pow7 ?_)
local macro_rules | `(tactic| fail "B") => `(tactic| with_reducible refine wB_pow6 ?_)
local macro_rules | `(tactic| fail "B") => `(tactic| with_reducible refine wB_pow5 ?_)
local macro_rules | `(tactic| fail "B") => `(tactic| with_reducible refine wB_isNot ?_)
local macro_rules | `(tactic| fail "B") => `(tactic| with_reducible refine wB_is ?_)
local macro_rules | `(tactic| fail "B") => `(tactic| with_reducible refine wB_neB ?_)
local macro_rules | `(tactic| fail "B") => `(tactic| with_reducible refine wB_eqB ?_)
local macro_rules | `(tactic| fail "B") => `(tactic| with_reducible refine wB_neT ?_)
local macro_rules | `(tactic| fail "B") => `(tactic| with_reducible refine wB_eqT ?_)
local macro_rules | `(tactic| fail "B") => `(tactic| with_reducible refine wB_ne ?_)
local macro_rules | `(tactic| fail "B") => `(tactic| with_reducible refine wB_eq ?_)
local macro_rules | `(tactic| fail "B") => `(tactic| with_reducible refine wB_ge ?_)
local macro_rules | `(tactic| fail "B") => `(tactic| with_reducible refine wB_gt ?_)
local macro_rules | `(tactic| fail "B") => `(tactic| with_reducible refine wB_le ?_)
local macro_rules | `(tactic| fail "B") => `(tactic| with_reducible refine wB_lt ?_)
local macro_rules | `(tactic| fail "B") => `(tactic| ((with_reducible refine wB_fdivS ?qc ?_); (case qc => exact ⟨by (first | with_reducible assumption | omega), by (first | with_reducible assumption | omega)⟩)))
local macro_rules | `(tactic| fail "B") => `(tactic| ((with_reducible refine wB_mod ?qc ?_); (case qc => (first | with_reducible assumption | omega))))
local macro_rules | `(tactic| fail "B") => `(tactic| ((with_reducible refine wB_mulL ?qc ?_); (case qc => exact ⟨by (first | with_reducible assumption | omega), by (first | with_reducible assumption | omega)⟩)))
local macro_rules | `(tactic| fail "B") => `(tactic| ((with_reducible refine wB_mulR ?qc ?_); (case qc => exact ⟨by (first | with_reducible assumption | omega), by (first | with_reducible assumption | omega)⟩)))
local macro_rules | `(tactic| fail "B") => `(tactic| with_reducible refine wB_sub ?_)
local macro_rules | `(tactic| fail "B") => `(tactic| with_reducible refine wB_add ?_)
local macro_rules | `(tactic| fail "F") => `(tactic| with_reducible refine wF_R1 T g.toGd ?_)
local macro_rules | `(tactic| fail "F") => `(tactic| ((with_reducible refine wF_R2 T g.toGd ?qc1 ?qc2 ?_); (case qc1 => (first | with_reducible assumption | omega)); (case qc2 => exact lt_pow_mono (n := 64) (by (first | with_reducible assumption | omega)) (by decide))))
local macro_rules | `(tactic| fail "F") => `(tactic| with_reducible refine wF_isBB ?_)
local macro_rules | `(tactic| fail "F") => `(tactic| with_reducible refine wF_isIB ?_)
local macro_rules | `(tactic| fail "F") => `(tactic| with_reducible refine wF_isII ?_)
local macro_rules | `(tactic| fail "F") => `(tactic| ((with_reducible refine wF_isRt ?qc ?_); (case qc => exact T.own_Ratio)))
local macro_rules | `(tactic| fail "F") => `(tactic| with_reducible refine wF_min g.toGd ?_)
local macro_rules | `(tactic| fail "F") => `(tactic| with_reducible refine wF_max g.toGd ?_)
local macro_rules | `(tactic| fail "F") => `(tactic| with_reducible refine wF_abs ?_)
local macro_rules | `(tactic| fail "F") => `(tactic| with_reducible refine wF_boolB ?_)
local macro_rules | `(tactic| fail "F") => `(tactic| with_reducible refine wF_intB ?_)
local macro_rules | `(tactic| fail "F") => `(tactic| ((with_reducible refine chkB "len" ?_); refine wF_len (by (first | exact .inl rfl | exact .inr (.inl rfl) | exact .inr (.inr (.inl rfl)) | exact .inr (.inr (.inr ⟨_, rfl, by (first | assumption | with_reducible exact at_last | with_reducible exact at_new rfl | with_reducible exact at_left (by assumption) | with_reducible exact List.getElem?_set_self (by assumption) | with_reducible exact at_left (at_left (by assumption)))⟩)))) ?_))
local macro_rules | `(tactic| fail "X") => `(tactic| (refine wX_ints (by (first | exact .inl rfl | exact .inr (.inl rfl) | exact .inr (.inr (.inl rfl)) | exact .inr (.inr (.inr ⟨_, rfl, by (first | assumption | with_reducible exact at_last | with_reducible exact at_new rfl | with_reducible exact at_left (by assumption) | with_reducible exact List.getElem?_set_self (by assumption) | with_reducible exact at_left (at_left (by assumption)))⟩)))) (by (repeat (first | exact Ints.nil | apply Ints.cons))) (by (first | with_reducible assumption | omega)) (by (simp only [List.length_cons, List.length_nil]; omega)) ?_; intro v hv; simp only [List.mem_cons, List.not_mem_nil, or_false] at hv))
local macro_rules | `(tactic| fail "X") => `(tactic| refine wX_at (by (first | exact .inl rfl | exact .inr (.inl rfl) | exact .inr (.inr (.inl rfl)) | exact .inr (.inr (.inr ⟨_, rfl, by (first | assumption | with_reducible exact at_last | with_reducible exact at_new rfl | with_reducible exact at_left (by assumption) | with_reducible exact List.getElem?_set_self (by assumption) | with_reducible exact at_left (at_left (by assumption)))⟩)))) rfl ?_)
local macro_rules | `(tactic| fail "X") => `(tactic| refine wX_if2 (by (first | exact .inl rfl | exact .inr (.inl rfl) | exact .inr (.inr (.inl rfl)) | exact .inr (.inr (.inr ⟨_, rfl, by (first | assumption | with_reducible exact at_last | with_reducible exact at_new rfl | with_reducible exact at_left (by assumption) | with_reducible exact List.getElem?_set_self (by assumption) | with_reducible exact at_left (at_left (by assumption)))⟩)))) ?_)
local macro_rules | `(tactic| fail "X") => `(tactic| refine wX_if2I (by (first | exact .inl rfl | exact .inr (.inl rfl) | exact .inr (.inr (.inl rfl)) | exact .inr (.inr (.inr ⟨_, rfl, by (first | assumption | with_reducible exact at_last | with_reducible exact at_new rfl | with_reducible exact at_left (by assumption) | with_reducible exact List.getElem?_set_self (by assumption) | with_reducible exact at_left (at_left (by assumption)))⟩)))) ?_)
local macro_rules | `(tactic| fail "A") => `(tactic| refine wA_nil ?_)
local macro_rules | `(tactic| fail "A") => `(tactic| refine wA_cons ?_)
local macro_rules | `(tactic| fail "C") => `(tactic| refine wC_val ?_)
local macro_rules | `(tactic| fail "C") => `(tactic| refine wC_bool ?_)
local macro_rules | `(tactic| fail "C") => `(tactic| refine wC_not ?_)
local macro_rules | `(tactic| fail "C") => `(tactic| refine wC_cmp ?_)
local macro_rules | `(tactic| fail "W") => `(tactic| refine wCw_or1 ?_)
local macro_rules | `(tactic| fail "W") => `(tactic| refine wCw_and1 ?_)
local macro_rules | `(tactic| fail "W") => `(tactic| refine wCw_or ?_)
local macro_rules | `(tactic| fail "W") => `(tactic| refine wCw_and ?_)
local macro_rules | `(tactic| fail "U") => `(tactic| ((with_reducible refine chkNg ?_); refine wU_negR T g.toGd ?qf ?_; (case qf => (first | with_reducible assumption | exact Fit.mono (by (repeat' (first | with_reducible assumption | with_reducible exact fit_two | with_reducible apply fit_add | with_reducible apply fit_sub | with_reducible apply fit_mul | with_reducible apply fit_half | with_reducible apply fit_rabs | with_reducible apply fit_neg))) (by decide) | exact Fit.mono (n := 64) (fit_int (by omega) (by decide)) (by decide)))))
local macro_rules | `(tactic| fail "U") => `(tactic| with_reducible refine wU_neg ?_)
local macro_rules | `(tactic| fail "P") => `(tactic| with_reducible refine wPt_s ?_)
local macro_rules | `(tactic| fail "P") => `(tactic| with_reducible refine wPt_c ?_)
local macro_rules | `(tactic| fail "P") => `(tactic| with_reducible refine wPt_z ?_)
local macro_rules | `(tactic| fail "G") => `(tactic| refine wG_name gn ?_)
local macro_rules | `(tactic| fail "G") => `(tactic| refine wG_tup g.calm ?_)
local macro_rules | `(tactic| fail "H") => `(tactic| refine wGs_nil ?_)
local macro_rules | `(tactic| fail "H") => `(tactic| refine wGs_cons ?_)
local macro_rules | `(tactic| fail "S") => `(tactic| refine wS_pass ?_)
local macro_rules | `(tactic| fail "S") => `(tactic| refine wS_asg ?_)
local macro_rules | `(tactic| fail "S") => `(tactic| refine wS_ix ?_)
local macro_rules | `(tactic| fail "S") => `(tactic| refine wS_expr ?_)
local macro_rules | `(tactic| fail "S") => `(tactic| refine wS_if ?_)
local macro_rules | `(tactic| fail "S") => `(tactic| refine wS_ret ?_)
local macro_rules | `(tactic| fail "S") => `(tactic| (refine wS_par3 g ?qa ?_; (case qa => exact ⟨_, _, _, by (repeat (first | with_reducible exact Il.z | with_reducible apply Il.s)), by (repeat (first | with_reducible exact Il.z | with_reducible apply Il.s)), by (repeat (first | with_reducible exact Il.z | with_reducible apply Il.s)), by decide, by decide, by decide⟩)))
local macro_rules | `(tactic| fail "S") => `(tactic| (refine wS_par g ?qa ?_; (case qa => exact ⟨_, _, by (repeat (first | with_reducible exact Il.z | with_reducible apply Il.s)), by (repeat (first | with_reducible exact Il.z | with_reducible apply Il.s)), by decide⟩)))
local macro_rules | `(tactic| fail "S") => `(tactic| (refine wS_set gn ?qa ?_; (case qa => exact ⟨_, by (repeat (first | with_reducible exact Ix.z | with_reducible exact Ix.c | with_reducible apply Ix.s))⟩)))
local macro_rules | `(tactic| fail "L") => `(tactic| refine wSs_nil ?_)
local macro_rules | `(tactic| fail "c") => `(tactic| ((with_reducible refine chkC "Water" ?_); refine xE_make gn ?qa T.g_Water T.mk_Water.kp ?_; (case qa => (repeat (first | with_reducible exact In.z | with_reducible apply In.s)))))
local macro_rules | `(tactic| fail "c") => `(tactic| ((with_reducible refine chkC "Pool" ?_); refine xE_make gn ?qa T.g_Pool T.mk_Pool.kp ?_; (case qa => (repeat (first | with_reducible exact In.z | with_reducible apply In.s)))))
local macro_rules | `(tactic| fail "c") => `(tactic| ((with_reducible refine chkC "Ratio" ?_); refine xE_make gn ?qa T.g_Ratio T.mk_Ratio.kp ?_; (case qa => (repeat (first | with_reducible exact In.z | with_reducible apply In.s)))))
local macro_rules | `(tactic| fail "c") => `(tactic| ((with_reducible refine chkC "_law_made" ?_); refine xE_call T.f_w_made g ?qa T.g_w_made T.F_w_made.kp T.b_w_made ?_; (case qa => (repeat (first | with_reducible exact In.z | with_reducible apply In.s)))))
local macro_rules | `(tactic| fail "c") => `(tactic| ((with_reducible refine chkC "_law_due" ?_); refine xE_call T.f_w_due g ?qa T.g_w_due T.F_w_due.kp T.b_w_due ?_; (case qa => (repeat (first | with_reducible exact In.z | with_reducible apply In.s)))))
local macro_rules | `(tactic| fail "c") => `(tactic| ((with_reducible refine chkC "_law_long_row" ?_); refine xE_call T.f_w_long_row g ?qa T.g_w_long_row T.F_w_long_row.kp T.b_w_long_row ?_; (case qa => (repeat (first | with_reducible exact In.z | with_reducible apply In.s)))))
local macro_rules | `(tactic| fail "c") => `(tactic| ((with_reducible refine chkC "_law_row" ?_); refine xE_call T.f_w_row g ?qa T.g_w_row T.F_w_row.kp T.b_w_row ?_; (case qa => (repeat (first | with_reducible exact In.z | with_reducible apply In.s)))))
local macro_rules | `(tactic| fail "c") => `(tactic| ((with_reducible refine chkC "_law_is_water" ?_); refine xE_call T.f_w_is_water g ?qa T.g_w_is_water T.F_w_is_water.kp T.b_w_is_water ?_; (case qa => (repeat (first | with_reducible exact In.z | with_reducible apply In.s)))))
local macro_rules | `(tactic| fail "c") => `(tactic| ((with_reducible refine chkC "_law_moments" ?_); refine xE_call T.f_w_moments g ?qa T.g_w_moments T.F_w_moments.kp T.b_w_moments ?_; (case qa => (repeat (first | with_reducible exact In.z | with_reducible apply In.s)))))
local macro_rules | `(tactic| fail "c") => `(tactic| ((with_reducible refine chkC "_law_pool" ?_); refine xE_call T.f_w_pool g ?qa T.g_w_pool T.F_w_pool.kp T.b_w_pool ?_; (case qa => (repeat (first | with_reducible exact In.z | with_reducible apply In.s)))))
local macro_rules | `(tactic| fail "c") => `(tactic| ((with_reducible refine chkC "_law_is" ?_); refine xE_call T.f_w_is g ?qa T.g_w_is T.F_w_is.kp T.b_w_is ?_; (case qa => (repeat (first | with_reducible exact In.z | with_reducible apply In.s)))))
local macro_rules | `(tactic| fail "c") => `(tactic| ((with_reducible refine chkC "_law_number" ?_); refine xE_call T.f_w_number g ?qa T.g_w_number T.F_w_number.kp T.b_w_number ?_; (case qa => (repeat (first | with_reducible exact In.z | with_reducible apply In.s)))))
local macro_rules | `(tactic| fail "c") => `(tactic| ((with_reducible refine chkC "_law_take" ?_); refine xE_call T.f_w_take g ?qa T.g_w_take T.F_w_take.kp T.b_w_take ?_; (case qa => (repeat (first | with_reducible exact In.z | with_reducible apply In.s)))))
local macro_rules | `(tactic| fail "c") => `(tactic| ((with_reducible refine chkC "_law_box" ?_); refine xE_call T.f_w_box g ?qa T.g_w_box T.F_w_box.kp T.b_w_box ?_; (case qa => (repeat (first | with_reducible exact In.z | with_reducible apply In.s)))))
local macro_rules | `(tactic| fail "c") => `(tactic| ((with_reducible refine chkC "sum" ?_); refine xE_blt gn ?qa T.n_sum boot_sum ?_; (case qa => (repeat (first | with_reducible exact In.z | with_reducible apply In.s)))))
local macro_rules | `(tactic| fail "c") => `(tactic| ((with_reducible refine chkC "any" ?_); refine xE_blt gn ?qa T.n_any boot_any ?_; (case qa => (repeat (first | with_reducible exact In.z | with_reducible apply In.s)))))
local macro_rules | `(tactic| fail "c") => `(tactic| ((with_reducible refine chkC "all" ?_); refine xE_blt gn ?qa T.n_all boot_all ?_; (case qa => (repeat (first | with_reducible exact In.z | with_reducible apply In.s)))))
local macro_rules | `(tactic| fail "c") => `(tactic| ((with_reducible refine chkC "bool" ?_); refine xE_bcl gn ?qa T.n_bool boot_bool ?_; (case qa => (repeat (first | with_reducible exact In.z | with_reducible apply In.s)))))
local macro_rules | `(tactic| fail "c") => `(tactic| ((with_reducible refine chkC "list" ?_); refine xE_bcl gn ?qa T.n_list boot_list ?_; (case qa => (repeat (first | with_reducible exact In.z | with_reducible apply In.s)))))
local macro_rules | `(tactic| fail "c") => `(tactic| ((with_reducible refine chkC "tuple" ?_); refine xE_bcl gn ?qa T.n_tuple boot_tuple ?_; (case qa => (repeat (first | with_reducible exact In.z | with_reducible apply In.s)))))
local macro_rules | `(tactic| fail "c") => `(tactic| ((with_reducible refine chkC "isinstance" ?_); refine xE_blt gn ?qa T.n_isinstance boot_isinstance ?_; (case qa => (repeat (first | with_reducible exact In.z | with_reducible apply In.s)))))
local macro_rules | `(tactic| fail "c") => `(tactic| ((with_reducible refine chkC "repr" ?_); refine xE_blt gn ?qa T.n_repr boot_repr ?_; (case qa => (repeat (first | with_reducible exact In.z | with_reducible apply In.s)))))
local macro_rules | `(tactic| fail "c") => `(tactic| ((with_reducible refine chkC "str" ?_); refine xE_bcl gn ?qa T.n_str boot_str ?_; (case qa => (repeat (first | with_reducible exact In.z | with_reducible apply In.s)))))
local macro_rules | `(tactic| fail "c") => `(tactic| ((with_reducible refine chkC "min" ?_); refine xE_blt gn ?qa T.n_min boot_min ?_; (case qa => (repeat (first | with_reducible exact In.z | with_reducible apply In.s)))))
local macro_rules | `(tactic| fail "c") => `(tactic| ((with_reducible refine chkC "max" ?_); refine xE_blt gn ?qa T.n_max boot_max ?_; (case qa => (repeat (first | with_reducible exact In.z | with_reducible apply In.s)))))
local macro_rules | `(tactic| fail "c") => `(tactic| ((with_reducible refine chkC "abs" ?_); refine xE_blt gn ?qa T.n_abs boot_abs ?_; (case qa => (repeat (first | with_reducible exact In.z | with_reducible apply In.s)))))
local macro_rules | `(tactic| fail "c") => `(tactic| ((with_reducible refine chkC "int" ?_); refine xE_bcl gn ?qa T.n_int boot_int ?_; (case qa => (repeat (first | with_reducible exact In.z | with_reducible apply In.s)))))
local macro_rules | `(tactic| fail "c") => `(tactic| ((with_reducible refine chkC "len" ?_); refine xE_blt gn ?qa T.n_len boot_len ?_; (case qa => (repeat (first | with_reducible exact In.z | with_reducible apply In.s)))))
local macro_rules | `(tactic| fail "n") => `(tactic| ((with_reducible refine chkN "Water" ?_); refine xE_cls gn ?qa T.g_Water ?_; (case qa => (repeat (first | with_reducible exact In.z | with_reducible apply In.s)))))
local macro_rules | `(tactic| fail "n") => `(tactic| ((with_reducible refine chkN "Pool" ?_); refine xE_cls gn ?qa T.g_Pool ?_; (case qa => (repeat (first | with_reducible exact In.z | with_reducible apply In.s)))))
local macro_rules | `(tactic| fail "n") => `(tactic| ((with_reducible refine chkN "Ratio" ?_); refine xE_cls gn ?qa T.g_Ratio ?_; (case qa => (repeat (first | with_reducible exact In.z | with_reducible apply In.s)))))
local macro_rules | `(tactic| fail "n") => `(tactic| ((with_reducible refine chkN "UnknownIndex" ?_); refine xE_cls gn ?qa T.g_UnknownIndex ?_; (case qa => (repeat (first | with_reducible exact In.z | with_reducible apply In.s)))))
local macro_rules | `(tactic| fail "n") => `(tactic| ((with_reducible refine chkN "Touching" ?_); refine xE_cls gn ?qa T.g_Touching ?_; (case qa => (repeat (first | with_reducible exact In.z | with_reducible apply In.s)))))
local macro_rules | `(tactic| fail "n") => `(tactic| ((with_reducible refine chkN "Full" ?_); refine xE_cls gn ?qa T.g_Full ?_; (case qa => (repeat (first | with_reducible exact In.z | with_reducible apply In.s)))))
local macro_rules | `(tactic| fail "n") => `(tactic| ((with_reducible refine chkN "InvalidDrop" ?_); refine xE_cls gn ?qa T.g_InvalidDrop ?_; (case qa => (repeat (first | with_reducible exact In.z | with_reducible apply In.s)))))
local macro_rules | `(tactic| fail "n") => `(tactic| ((with_reducible refine chkN "InvalidNumber" ?_); refine xE_cls gn ?qa T.g_InvalidNumber ?_; (case qa => (repeat (first | with_reducible exact In.z | with_reducible apply In.s)))))
local macro_rules | `(tactic| fail "n") => `(tactic| ((with_reducible refine chkN "PoolError" ?_); refine xE_cls gn ?qa T.g_PoolError ?_; (case qa => (repeat (first | with_reducible exact In.z | with_reducible apply In.s)))))
local macro_rules | `(tactic| fail "n") => `(tactic| ((with_reducible refine chkN "list" ?_); refine xE_bty gn ?qa T.n_list boot_list ?_; (case qa => (repeat (first | with_reducible exact In.z | with_reducible apply In.s)))))
local macro_rules | `(tactic| fail "n") => `(tactic| ((with_reducible refine chkN "tuple" ?_); refine xE_bty gn ?qa T.n_tuple boot_tuple ?_; (case qa => (repeat (first | with_reducible exact In.z | with_reducible apply In.s)))))
local macro_rules | `(tactic| fail "n") => `(tactic| ((with_reducible refine chkN "str" ?_); refine xE_bty gn ?qa T.n_str boot_str ?_; (case qa => (repeat (first | with_reducible exact In.z | with_reducible apply In.s)))))
local macro_rules | `(tactic| fail "n") => `(tactic| ((with_reducible refine chkN "bool" ?_); refine xE_bty gn ?qa T.n_bool boot_bool ?_; (case qa => (repeat (first | with_reducible exact In.z | with_reducible apply In.s)))))
local macro_rules | `(tactic| fail "n") => `(tactic| ((with_reducible refine chkN "int" ?_); refine xE_bty gn ?qa T.n_int boot_int ?_; (case qa => (repeat (first | with_reducible exact In.z | with_reducible apply In.s)))))
local macro_rules | `(tactic| fail "a") => `(tactic| ((with_reducible refine chkA "right" ?_); refine wE_right T g.toGd ?_))
local macro_rules | `(tactic| fail "a") => `(tactic| ((with_reducible refine chkA "left" ?_); refine wE_left T g.toGd ?_))
local macro_rules | `(tactic| fail "a") => `(tactic| ((with_reducible refine chkA "volume" ?_); refine wE_vol T g.toGd ?_))
local macro_rules | `(tactic| fail "a") => `(tactic| ((with_reducible refine chkA "middle" ?_); refine wE_mid T g.toGd ?_))
local macro_rules | `(tactic| fail "a") => `(tactic| ((with_reducible refine chkA "amount" ?_); refine wE_amt T ?_))
local macro_rules | `(tactic| fail "a") => `(tactic| ((with_reducible refine chkA "center" ?_); refine wE_cen T ?_))
local macro_rules | `(tactic| fail "a") => `(tactic| ((with_reducible refine chkA "bottom" ?_); refine wE_bot T ?_))
local macro_rules | `(tactic| fail "a") => `(tactic| ((with_reducible refine chkA "top" ?_); refine wE_top T ?_))
local macro_rules | `(tactic| fail "m") => `(tactic| ((with_reducible refine chkM "over" ?_); refine wE_over T g.toGd ?_))
local macro_rules | `(tactic| fail "O") => `(tactic| refine And.intro (And.intro (by (first | with_reducible assumption | exact Fit.mono (by (repeat' (first | with_reducible assumption | with_reducible exact fit_two | with_reducible apply fit_add | with_reducible apply fit_sub | with_reducible apply fit_mul | with_reducible apply fit_half | with_reducible apply fit_rabs | with_reducible apply fit_neg))) (by decide) | exact Fit.mono (n := 64) (fit_int (by omega) (by decide)) (by decide))) (by (first | with_reducible assumption | exact Fit.mono (by (repeat' (first | with_reducible assumption | with_reducible exact fit_two | with_reducible apply fit_add | with_reducible apply fit_sub | with_reducible apply fit_mul | with_reducible apply fit_half | with_reducible apply fit_rabs | with_reducible apply fit_neg))) (by decide) | exact Fit.mono (n := 64) (fit_int (by omega) (by decide)) (by decide)))) ?_)
local macro_rules | `(tactic| fail "O") => `(tactic| refine Exists.intro _ (And.intro (by (first | exact Num.rt _ | exact Num.int _ | assumption)) (And.intro (And.intro (by (first | with_reducible assumption | exact Fit.mono (by (repeat' (first | with_reducible assumption | with_reducible exact fit_two | with_reducible apply fit_add | with_reducible apply fit_sub | with_reducible apply fit_mul | with_reducible apply fit_half | with_reducible apply fit_rabs | with_reducible apply fit_neg))) (by decide) | exact Fit.mono (n := 64) (fit_int (by omega) (by decide)) (by decide))) (And.intro (by (first | with_reducible assumption | exact Fit.mono (by (repeat' (first | with_reducible assumption | with_reducible exact fit_two | with_reducible apply fit_add | with_reducible apply fit_sub | with_reducible apply fit_mul | with_reducible apply fit_half | with_reducible apply fit_rabs | with_reducible apply fit_neg))) (by decide) | exact Fit.mono (n := 64) (fit_int (by omega) (by decide)) (by decide))) (by decide))) ?_)))
local macro_rules | `(tactic| fail "O") => `(tactic| (refine sp_take T (by (first | assumption | with_reducible exact at_last | with_reducible exact at_new rfl | with_reducible exact at_left (by assumption) | with_reducible exact List.getElem?_set_self (by assumption) | with_reducible exact at_left (at_left (by assumption)))) (by (first | with_reducible assumption | omega)) (by (first | with_reducible assumption | omega)) ?_; intro d h0 h1))
local macro_rules | `(tactic| fail "O") => `(tactic| refine Exists.intro _ (Exists.intro _ (Exists.intro _ (Exists.intro _ (And.intro rfl (And.intro rfl (And.intro (by (first | assumption | with_reducible exact at_last | with_reducible exact at_new rfl | with_reducible exact at_left (by assumption) | with_reducible exact List.getElem?_set_self (by assumption) | with_reducible exact at_left (at_left (by assumption)))) (And.intro rfl ?_))))))))
local macro_rules | `(tactic| fail "O") => `(tactic| refine Exists.intro _ (Exists.intro _ (Exists.intro _ (And.intro rfl ?_))))
local macro_rules | `(tactic| fail "O") => `(tactic| refine Exists.intro _ (Exists.intro _ (And.intro rfl ?_)))
local macro_rules | `(tactic| fail "O") => `(tactic| refine And.intro (by (simp only [List.length_cons, List.length_nil]; decide)) ?_)
local macro_rules | `(tactic| fail "O") => `(tactic| refine Exists.intro _ (And.intro rfl ?_))
local macro_rules | `(tactic| fail "I") => `(tactic| ((with_reducible refine hdN2 ?_); (refine iteFT ?_); fail "o"))
local macro_rules | `(tactic| fail "I") => `(tactic| ((with_reducible refine hdN2 ?_); (refine iteTT ?_); fail "o"))
local macro_rules | `(tactic| fail "I") => `(tactic| ((with_reducible refine hdN1 ?_); (refine iteFT ?_); fail "o"))
local macro_rules | `(tactic| fail "I") => `(tactic| ((with_reducible refine hdN1 ?_); (refine iteTT ?_); fail "o"))
local macro_rules | `(tactic| fail "I") => `(tactic| ((with_reducible refine iteNF ?_); fail "o"))
local macro_rules | `(tactic| fail "I") => `(tactic| ((with_reducible refine iteNT ?_); fail "o"))
local macro_rules | `(tactic| fail "I") => `(tactic| ((with_reducible refine iteFT ?_); fail "o"))
local macro_rules | `(tactic| fail "I") => `(tactic| ((with_reducible refine iteTT ?_); fail "o"))
local macro_rules | `(tactic| fail "J") => `(tactic| ((with_reducible refine hdN2 ?_); (refine iteFT ?_); fail "st"))
local macro_rules | `(tactic| fail "J") => `(tactic| ((with_reducible refine hdN2 ?_); (refine iteTT ?_); fail "st"))
local macro_rules | `(tactic| fail "J") => `(tactic| ((with_reducible refine hdN1 ?_); (refine iteFT ?_); fail "st"))
local macro_rules | `(tactic| fail "J") => `(tactic| ((with_reducible refine hdN1 ?_); (refine iteTT ?_); fail "st"))
local macro_rules | `(tactic| fail "J") => `(tactic| ((with_reducible refine iteNF ?_); fail "st"))
local macro_rules | `(tactic| fail "J") => `(tactic| ((with_reducible refine iteNT ?_); fail "st"))
local macro_rules | `(tactic| fail "J") => `(tactic| ((with_reducible refine iteFT ?_); fail "st"))
local macro_rules | `(tactic| fail "J") => `(tactic| ((with_reducible refine iteTT ?_); fail "st"))
local macro_rules | `(tactic| fail "su") => `(tactic| ((with_reducible refine hdL ?_); fail "L"))
local macro_rules | `(tactic| fail "su") => `(tactic| ((with_reducible refine hdS ?_); fail "S"))
local macro_rules | `(tactic| fail "p") => `(tactic| fail "O")
local macro_rules | `(tactic| fail "p") => `(tactic| ((with_reducible refine hdH ?_); fail "H"))
local macro_rules | `(tactic| fail "p") => `(tactic| ((with_reducible refine hdG ?_); fail "G"))
local macro_rules | `(tactic| fail "p") => `(tactic| ((with_reducible refine hdP ?_); fail "P"))
local macro_rules | `(tactic| fail "p") => `(tactic| ((with_reducible refine hdU ?_); fail "U"))
local macro_rules | `(tactic| fail "p") => `(tactic| ((with_reducible refine hdW ?_); fail "W"))
local macro_rules | `(tactic| fail "p") => `(tactic| ((with_reducible refine hdC ?_); fail "C"))
local macro_rules | `(tactic| fail "p") => `(tactic| ((with_reducible refine hdX ?_); fail "X"))
local macro_rules | `(tactic| fail "p") => `(tactic| ((with_reducible refine hdF ?_); fail "F"))
local macro_rules | `(tactic| fail "p") => `(tactic| ((with_reducible refine hdB ?_); fail "B"))
local macro_rules | `(tactic| fail "p") => `(tactic| ((with_reducible refine hdA ?_); fail "A"))
local macro_rules | `(tactic| fail "p") => `(tactic| ((with_reducible refine hdE ?_); fail "E"))
local macro_rules | `(tactic| fail "st") => `(tactic| ((with_reducible refine hdI ?_); fail "J"))
local macro_rules | `(tactic| fail "st") => `(tactic| ((fail_if_success (with_reducible refine hdI ?_)); fail "su"))
local macro_rules | `(tactic| fail "o") => `(tactic| ((with_reducible refine hdI ?_); fail "I"))
local macro_rules | `(tactic| fail "o") => `(tactic| ((fail_if_success (with_reducible refine hdI ?_)); fail "p"))
local macro_rules | `(tactic| walk_at "in") => `(tactic| (repeat (first | with_reducible exact In.z | with_reducible apply In.s)))
local macro_rules | `(tactic| walk_at "at") => `(tactic| (first | assumption | with_reducible exact at_last | with_reducible exact at_new rfl | with_reducible exact at_left (by assumption) | with_reducible exact List.getElem?_set_self (by assumption) | with_reducible exact at_left (at_left (by assumption))))
local macro_rules | `(tactic| walk_at "ixd") => `(tactic| (first | exact .inl rfl | exact .inr (.inl rfl) | exact .inr (.inr (.inl rfl)) | exact .inr (.inr (.inr ⟨_, rfl, by (first | assumption | with_reducible exact at_last | with_reducible exact at_new rfl | with_reducible exact at_left (by assumption) | with_reducible exact List.getElem?_set_self (by assumption) | with_reducible exact at_left (at_left (by assumption)))⟩))))
local macro_rules | `(tactic| walk_at "ints") => `(tactic| (repeat (first | exact Ints.nil | apply Ints.cons)))
local macro_rules | `(tactic| walk_at "num") => `(tactic| (first | with_reducible assumption | omega))
local macro_rules | `(tactic| walk_at "nm") => `(tactic| (first | exact Num.rt _ | exact Num.int _ | assumption))
local macro_rules | `(tactic| walk_at "fit") => `(tactic| (first | with_reducible assumption | exact Fit.mono (by (repeat' (first | with_reducible assumption | with_reducible exact fit_two | with_reducible apply fit_add | with_reducible apply fit_sub | with_reducible apply fit_mul | with_reducible apply fit_half | with_reducible apply fit_rabs | with_reducible apply fit_neg))) (by decide) | exact Fit.mono (n := 64) (fit_int (by omega) (by decide)) (by decide)))
local macro_rules | `(tactic| walk_at "ix") => `(tactic| (repeat (first | with_reducible exact Ix.z | with_reducible exact Ix.c | with_reducible apply Ix.s)))
local macro_rules | `(tactic| walk_at "il") => `(tactic| (repeat (first | with_reducible exact Il.z | with_reducible apply Il.s)))
local macro_rules | `(tactic| walk_at "one") => `(tactic| first | fail "o" | fail "st" | refine wSs_cons ?_)
local macro_rules | `(tactic| walk_at "wp") => `(tactic| repeat (first | fail "o" | fail "st" | refine wSs_cons ?_))
local macro_rules | `(tactic| walk_at "s1") => `(tactic| (refine wSs_cons ?_; repeat (first | fail "o" | fail "st")))
local macro_rules | `(tactic| walk_at "e") => `(tactic| repeat (fail "o"))
local macro_rules | `(tactic| walk_at "start") => `(tactic| (intro ρ hρ cdv A outer s H E g; simp only [startD, List.map_cons, List.map_nil, List.length_cons, List.length_nil, List.replicate_succ, List.replicate_zero, List.cons_append, List.nil_append, Nat.reduceAdd, Nat.reduceSub] at hρ; subst hρ; have gn := g.toNx'))
local macro_rules | `(tactic| walk_at "suite") => `(tactic| (intro a dd oe pn hz hv gn ρs hρ; simp only [List.set_cons_succ, List.set_cons_zero] at hρ; subst hρ))
local macro_rules | `(tactic| walk_at "after") => `(tactic| (intro ρs hρ; simp only [List.set_cons_succ, List.set_cons_zero] at hρ; subst hρ))
local macro_rules | `(tactic| walk_at "blk") => `(tactic| (intro s H C cl fp g; have gn := g.toNx'))
theorem mul_bd {a b A B : Int} (h1 : -A ≤ a) (h2 : a ≤ A) (h3 : 0 ≤ b) (h4 : b ≤ B) : -(A * B) ≤ a * b ∧ a * b ≤ A * B := by
  have hA : 0 ≤ A := by omega
  have e1 : a * b ≤ A * b := Int.mul_le_mul_of_nonneg_right h2 h3
  have e2 : A * b ≤ A * B := Int.mul_le_mul_of_nonneg_left h4 hA
  have e3 : -A * b ≤ a * b := Int.mul_le_mul_of_nonneg_right h1 h3
  rw [Int.neg_mul] at e3
  omega
/-- the statements of a loop -/
def forBody : Stmt → List Stmt
  | .For _ _ b _ _ => b
  | _ => []
def law_mid : List Stmt := forBody ((forBody ((defBody s_law).getD 0 (.Pass ⟨0, 0, 0, 0⟩))).getD 1 (.Pass ⟨0, 0, 0, 0⟩))
def law_in : List Stmt := forBody (law_mid.getD 3 (.Pass ⟨0, 0, 0, 0⟩))
/-- what is told of a place -/
abbrev tch (n : Nat) : D := .tup [.str "touching", .int (n : Nat)]
abbrev tchP (n : Nat) : PyData := .tuple [.str "touching", .int (n : Nat)]
theorem tch_all : (List.range 64).all (fun n => (tchP n).showable && decide ((tchP n).shown.length ≤ sizeLine) && decide ((tchP n).depth ≤ 100)) = true := by decide +kernel
theorem tch_fits {n : Nat} (h : n < 64) : (tchP n).showable = true ∧ (tchP n).shown.length ≤ sizeLine ∧ (tchP n).depth ≤ 100 := by
  have := List.all_eq_true.mp tch_all n (List.mem_range.mpr h)
  simp only [Bool.and_eq_true, decide_eq_true_eq] at this
  exact ⟨this.1.1, this.1.2, this.2⟩
section
variable {X : Cx} {W : WX} {k : Nat} {μ : List M} {n : Nat} {Q : KV} {Z : KX}
theorem wF_reprT (g : Gd X W k) (hn : n < 64) (h : ∀ tx, tx = (tchP n).shown → Q (.str tx) μ) (hk : 60 ≤ k := by decide) : wF X W (fun us => call (.builtin "repr") us) [tch n] μ Q Z :=
  .of (o := .ret _ _) (cb_repr g (p := tchP n) rfl (tch_fits hn).1 (tch_fits hn).2.1 (tch_fits hn).2.2 hk) (h _ rfl)
end
section
variable {P : Program} {w : World} {K : PySem.W.Frag} {mg : Str → Option Value} {base : Heap} (T : Tx K mg)
theorem law_pass {cdv : Value} {A : Around} {outer : List Env} {s : Shared} {H : Hp} {E : XK} {W : WX} (g : Fx (cxOf (L2.CX P w) P w K mg base n_law (Str.ofString "law") (defScope s_law) T.a_law cdv A outer s H E) W 102 n_law v_law g_law) {μ1 : List M} {b : Nat} {u : Int} (hu : 0 < u) (hu1 : u ≤ 1000) {xs : List (Int × Int)} (hl : xs.length ≤ 40) (hx : ∀ p ∈ xs, DrOk 1000 p) {d0 d1 d3 d6 d : D} {o10 o11 : Option D} {nx : KN} {κ : Ks}
    (hd : (∃ m, d = .loc m ∧ μ1[m]? = some (.lst ((xs.map (dq u)).map T.plq)) ∧ ∀ o10, nx [some d0, some d1, some (.loc b), some d3, some (.int u), some (.lst (xs.map dr)), some d6, some (dueD (due xs)), some (.str (listText (txs (xs.map (dq u))))), some d, o10, o11] (μ1.set m (.lst []))) ∨
      (d = .tup ((xs.map (dq u)).map T.plq) ∧ ∀ o10, nx [some d0, some d1, some (.loc b), some d3, some (.int u), some (.lst (xs.map dr)), some d6, some (dueD (due xs)), some (.str (listText (txs (xs.map (dq u))))), some d, o10, o11] μ1)) :
    wSs (cxOf (L2.CX P w) P w K mg base n_law (Str.ofString "law") (defScope s_law) T.a_law cdv A outer s H E) W [some d0, some d1, some (.loc b), some d3, some (.int u), some (.lst (xs.map dr)), some d6, some (dueD (due xs)), some (.str (listText (txs (xs.map (dq u))))), some d, o10, o11] μ1 law_in nx κ := by
  have gn := g.toNx'
  have hs : Sqd μ1 d ((xs.map (dq u)).map T.plq) := by
    rcases hd with ⟨m, rfl, hm, _⟩ | ⟨rfl, _⟩
    · exact .inr (.inr ⟨m, rfl, hm⟩)
    · exact .inr (.inl rfl)
  have ft : ∀ p ∈ xs.map (dq u), Fit 31 p.1 ∧ Fit 31 p.2 := fun p hp => by
    obtain ⟨q, hq, rfl⟩ := List.mem_map.mp hp
    obtain ⟨p0, p1, p2, p3⟩ := hx q hq
    exact ⟨fit_dr (by omega) (by omega), fit_dr (by omega) (by omega)⟩
  have f300 : ∀ p ∈ xs.map (dq u), Fit 300 p.1 ∧ Fit 300 p.2 := fun p hp => ⟨(ft p hp).1.mono (by decide), (ft p hp).2.mono (by decide)⟩
  have f1000 : ∀ p ∈ xs.map (dq u), Fit 1000 p.1 ∧ Fit 1000 p.2 := fun p hp => ⟨(ft p hp).1.mono (by decide), (ft p hp).2.mono (by decide)⟩
  have hlq : (xs.map (dq u)).length ≤ 100 := by rw [List.length_map]; omega
  have eb : bad (xs.map (dq u)) = due xs := due_bad hu xs
  have rest : ∀ (f : D), (due xs = none → f = T.wt (xs.map (dq u))) → (∀ n, due xs = some n → f = tch n) → wSs (cxOf (L2.CX P w) P w K mg base n_law (Str.ofString "law") (defScope s_law) T.a_law cdv A outer s H E) W [some d0, some d1, some (.loc b), some d3, some (.int u), some (.lst (xs.map dr)), some d6, some (dueD (due xs)), some (.str (listText (txs (xs.map (dq u))))), some d, some f, o11] μ1 (law_in.drop 1) nx κ := by
    intro f hf0 hf1
    have rest2 : ∀ μ2 : List M, nx [some d0, some d1, some (.loc b), some d3, some (.int u), some (.lst (xs.map dr)), some d6, some (dueD (due xs)), some (.str (listText (txs (xs.map (dq u))))), some d, some f, o11] μ2 → wSs (cxOf (L2.CX P w) P w K mg base n_law (Str.ofString "law") (defScope s_law) T.a_law cdv A outer s H E) W [some d0, some d1, some (.loc b), some d3, some (.int u), some (.lst (xs.map dr)), some d6, some (dueD (due xs)), some (.str (listText (txs (xs.map (dq u))))), some d, some f, o11] μ2 (law_in.drop 3) nx κ := by
      intro μ2 hn
      cases hdue : due xs with
      | none =>
        rw [hdue] at hn
        rw [hf0 hdue] at hn ⊢
        have hmm : ∀ p ∈ xs, -(2 ^ 40) ≤ p.1 ∧ p.1 ≤ 2 ^ 40 ∧ 0 ≤ p.2 ∧ p.2 ≤ 2 ^ 20 := fun p hp => by
          obtain ⟨p0, p1, p2, p3⟩ := hx p hp
          exact ⟨by omega, by omega, by omega, by omega⟩
        have hmq : ∀ q ∈ xs.map mo, -(2 ^ 60) ≤ q.1 ∧ q.1 ≤ 2 ^ 60 ∧ 0 < q.2 ∧ q.2 ≤ 2 ^ 30 := fun q hq => by
          obtain ⟨p, hp, rfl⟩ := List.mem_map.mp hq
          obtain ⟨p0, p1, p2, p3⟩ := hx p hp
          obtain ⟨b1, b2⟩ := mul_bd (A := 600000000) (B := 1001) (a := p.1) (b := p.2) (by omega) (by omega) (by omega) (by omega)
          exact ⟨by simp only [mo]; omega, by simp only [mo]; omega, by simp only [mo]; omega, by simp only [mo]; omega⟩
        simp only [dueD] at hn ⊢
        walk_at "s1"
        walk_at "s1"
        refine sp_moments T (by omega) hmm ?_
        walk_at "e"
        rw [← mo_mq hu hx]
        refine sp_is_water T hu (by omega) (by rw [List.length_map]; omega) hmq ?_
        walk_at "e"
        rw [mo_mq hu hx]
        exact wSs_nil (wSs_nil hn)
      | some n =>
        rw [hdue] at hn
        rw [hf1 n hdue] at hn ⊢
        have hn64 : n < 64 := Nat.lt_of_lt_of_le (due_lt hdue) (by omega)
        simp only [dueD] at hn ⊢
        walk_at "s1"
        refine wF_reprT g.toGd hn64 fun tx htx => ?_
        walk_at "e"
        refine wF_reprT g.toGd hn64 fun tx2 htx2 => ?_
        walk_at "e"
        refine br_F (by rw [htx, htx2]; simp) (wSs_nil ?_)
        walk_at "s1"
        exact hn
    walk_at "s1"
    refine wF_list hs ?_
    walk_at "e"
    refine .ofV (cb_reprLO g.toGd.w0 T.m_Pool_repr ⟨ok_prepr T, T.b_Pool_repr⟩ (txs_tell T f1000) (txs_fit hlq f1000)) ?_
    walk_at "e"
    refine br_F (by simp) (wSs_nil ?_)
    walk_at "s1"
    rcases hd with ⟨m, rfl, hm, hn⟩ | ⟨rfl, hn⟩
    · refine wF_isLoc hm (.ty "list") rfl ?_
      walk_at "e"
      refine br_T rfl ?_
      refine wSs_cons (wS_expr (wE_clear ?_))
      walk_at "e"
      refine ⟨⟨_, hm⟩, ?_⟩
      refine wSs_nil ?_
      exact rest2 _ (hn _)
    · refine wF_isi .tup (.ty "list") rfl ?_
      walk_at "e"
      refine br_F rfl (wSs_nil ?_)
      exact rest2 _ (hn _)
  refine wSs_cons (wS_set gn ⟨_, by walk_at "ix"⟩ ?_)
  walk_at "e"
  refine sp_made T hs f300 (fun hn => ?_) (fun n hn => ?_)
  · walk_at "e"
    exact rest _ (fun _ => rfl) (fun n z => by rw [← eb, hn] at z; cases z)
  · walk_at "e"
    exact rest _ (fun z => by rw [← eb, hn] at z; cases z) (fun m z => by rw [← eb, hn] at z; cases z; rfl)
end
section
variable {P : Program} {w : World} {K : PySem.W.Frag} {mg : Str → Option Value} {base : Heap} (T : Tx K mg)
theorem law_turn {cdv : Value} {A : Around} {outer : List Env} {s : Shared} {H : Hp} {E : XK} {W : WX} (g : Fx (cxOf (L2.CX P w) P w K mg base n_law (Str.ofString "law") (defScope s_law) T.a_law cdv A outer s H E) W 102 n_law v_law g_law) {μ2 : List M} {b : Nat} (hμ : μ2[b]? = some .box) {d0 d1 d3 : D} {o4 o5 o6 o7 o8 o9 o10 o11 : Option D} {nx : KN} {κ : Ks}
    (hn : ∀ μ3 o4 o5 o6 o7 o8 o9 o10 o11, μ3[b]? = some .box → nx [some d0, some d1, some (.loc b), some d3, o4, o5, o6, o7, o8, o9, o10, o11] μ3) :
    wSs (cxOf (L2.CX P w) P w K mg base n_law (Str.ofString "law") (defScope s_law) T.a_law cdv A outer s H E) W [some d0, some d1, some (.loc b), some d3, o4, o5, o6, o7, o8, o9, o10, o11] μ2 law_mid nx κ := by
  have gn := g.toNx'
  have hb2 : b < μ2.length := (List.getElem?_eq_some_iff.mp hμ).1
  refine wSs_cons (wS_asg (wE.imp (Q := fun d μ' => ∃ (u : Int) (xs : List (Int × Int)), d = .tup [.int u, .lst (xs.map dr)] ∧ (0 < u ∧ u ≤ 1000 ∧ xs.length ≤ 40 ∧ ∀ p ∈ xs, DrOk 1000 p) ∧ μ2 = μ') ?_ ?_))
  · walk_at "e"
    refine br_dec (fun hc => ?_) (fun hc => ?_)
    · walk_at "e"
      exact sp_row T hμ fun u xs h1 h2 h3 h4 => ⟨u, xs, rfl, ⟨h1, h2, h3, h4⟩, rfl⟩
    · walk_at "e"
      exact sp_long_row T hμ fun u xs h1 h2 h3 h4 => ⟨u, xs, rfl, ⟨h1, h2, h3, h4⟩, rfl⟩
  rintro _ _ ⟨u, xs, rfl, ⟨hu, hu1, hl, hx⟩, rfl⟩
  walk_at "e"
  have ft : ∀ p ∈ xs.map (dq u), Fit 31 p.1 ∧ Fit 31 p.2 := fun p hp => by
    obtain ⟨q, hq, rfl⟩ := List.mem_map.mp hp
    obtain ⟨p0, p1, p2, p3⟩ := hx q hq
    exact ⟨fit_dr (by omega) (by omega), fit_dr (by omega) (by omega)⟩
  have f1000 : ∀ p ∈ xs.map (dq u), Fit 1000 p.1 ∧ Fit 1000 p.2 := fun p hp => ⟨(ft p hp).1.mono (by decide), (ft p hp).2.mono (by decide)⟩
  have hlq : (xs.map (dq u)).length ≤ 100 := by rw [List.length_map]; omega
  refine wSs_cons (wS_setLc v_law_c0 g_law_c0 o_law_c0 (fun ds done μ' => ∃ zs ws : List (Int × Int), xs = zs ++ ws ∧ ds = ws.map dr ∧ done = (zs.map (dq u)).map T.plq ∧ μ2 = μ') g (by walk_at "il") (sc := defScope s_law) rfl (by decide +kernel) (show BlkOk n_law (defScope s_law) _ _ from ⟨rfl, by decide +kernel, by decide +kernel, by decide +kernel, by decide +kernel⟩) ?_ ?_ ?_)
  · refine wI_lst ?_
    walk_at "e"
    refine ⟨?_, [], xs, rfl, rfl, rfl, rfl⟩
    have := sl_big
    rw [List.length_map]
    omega
  · rintro d ds done μ' ⟨zs, ws, ey, ew, rfl, rfl⟩
    cases ws with
    | nil => cases ew
    | cons p ws =>
      obtain ⟨rfl, rfl⟩ := List.cons.inj ew
      have hp : DrOk 1000 p := hx p (by rw [ey]; simp)
      walk_at "blk"
      refine wGw_name gn (i := 11) (by walk_at "il") (by decide) ?_
      simp only [o_law_c0, List.map_cons, List.map_nil, wipeD, List.set_cons_succ, List.set_cons_zero]
      walk_at "e"
      walk_at "blk"
      refine wTs_nil (br_T rfl ?_)
      walk_at "blk"
      walk_at "e"
      refine sp_pool T hμ hu (by omega) hp ?_
      exact ⟨zs ++ [p], ws, by rw [ey]; simp, rfl, by simp, rfl⟩
  rintro done μ' ⟨zs, ws, ey, ew, rfl, rfl⟩
  cases ws with
  | cons p ws => cases ew
  | nil =>
  rw [List.append_nil] at ey
  subst ey
  walk_at "e"
  walk_at "s1"
  refine sp_due T (by omega) ?_
  walk_at "e"
  refine .ofV (cb_reprLO g.toGd.w0 T.m_Pool_repr ⟨ok_prepr T, T.b_Pool_repr⟩ (txs_tell T f1000) (txs_fit hlq f1000)) ?_
  walk_at "e"
  refine wSs_cons (wS_for g.po g.calm (wI_tup ?_))
  walk_at "e"
  refine wF_listM (.inl rfl) ?_
  walk_at "e"
  refine wF_tup (.inl rfl) ?_
  walk_at "e"
  refine wFor_cons ?_
  walk_at "e"
  refine law_pass T g hu hu1 hl hx (.inl ⟨_, rfl, at_last, fun o10 => ?_⟩)
  rw [set_last]
  refine wFor_cons ?_
  walk_at "e"
  refine law_pass T g hu hu1 hl hx (.inr ⟨rfl, fun o10 => ?_⟩)
  refine wFor_inv (fun ds ρ μ' => ds = [] ∧ μ2 ++ [.lst []] = μ' ∧ ∃ o9 o10, ρ = [some d0, some d1, some (.loc b), some d3, some (.int u), some (.lst (xs.map dr)), some (.lst ((xs.map (dq u)).map T.plq)), some (dueD (due xs)), some (.str (listText (txs (xs.map (dq u))))), o9, o10, o11]) ?_ ?_ _ _ _ ⟨rfl, rfl, _, _, rfl⟩
  · rintro d ds ρ _ ⟨z, _⟩
    cases z
  rintro ρ _ ⟨_, rfl, o9, o10, rfl⟩
  walk_at "s1"
  refine .ofV (cb_reprLO g.toGd.w0 T.m_Pool_repr ⟨ok_prepr T, T.b_Pool_repr⟩ (txs_tell T f1000) (txs_fit hlq f1000)) ?_
  walk_at "e"
  refine br_F (by simp) (wSs_nil ?_)
  exact wSs_nil (hn _ _ _ _ _ _ _ _ _ (at_left hμ))
end
section
variable {P : Program} {w : World} {K : PySem.W.Frag} {mg : Str → Option Value} {base : Heap} (T : Tx K mg)
abbrev lvl_law : Nat := 103
theorem binds_law (T : Tx K mg) (s : Shared) (u : Value) : BindsTo s T.fd_law ⟨[u], []⟩ [("_law_script", u)] := by
  obtain ⟨oc, od, dV, kV, doc, pm, an, cdv, ct, osl, e, look, hcode, hD, _⟩ := T.F_law.ex
  rcases hD with ⟨_, rfl⟩ | ⟨z, _⟩
  · rw [e]
    exact .of_eq rfl
  · exact (z rfl).elim
theorem mem_range {d : D} {n : Nat} (h : d ∈ rangeD 0 n) : ∃ i : Nat, i < n ∧ d = .int (i : Int) := by
  obtain ⟨i, hi, rfl⟩ := List.mem_map.mp h
  exact ⟨i, List.mem_range.mp hi, by simp⟩
theorem ok_law : FnG P w K mg base lvl_law T.a_law T.fd_law ["_law_script"] (spR K (RLaw Scr)) := by
  refine SpF.rel (f := ⟨T.a_law, T.fd_law, ["_law_script"], lvl_law⟩) ?_
  rintro ds μ o ⟨ns, hs, rfl, rfl, rfl⟩
  refine spX_of T.F_law sc_law ck_law rfl ?_
  walk_at "start"
  refine wSs_cons (wS_for g.po g.calm (wI_range1 T.n_range ?_))
  walk_at "e"
  refine ⟨⟨by omega, by omega⟩, ?_⟩
  refine wFor_inv (fun ds ρ μ => (∀ d ∈ ds, ∃ i : Nat, i < 5 ∧ d = .int i) ∧ ∃ o1 o2 o3 o4 o5 o6 o7 o8 o9 o10 o11, ρ = [some (.scr (ns.map D.int)), o1, o2, o3, o4, o5, o6, o7, o8, o9, o10, o11]) ?_ ?_ _ _ _ ⟨fun d hd => ?_, _, _, _, _, _, _, _, _, _, _, _, rfl⟩
  rotate_left
  · rintro ρ μ ⟨_, o1, o2, o3, o4, o5, o6, o7, o8, o9, o10, o11, rfl⟩
    walk_at "s1"
    refine xE_make0 gn (by walk_at "in") T.g_Water T.mk_Water.kp (wF_Water0 T g.toGd ?_)
    walk_at "e"
    refine wF_wlen T g.toGd (ps := []) (by decide) ?_
    walk_at "e"
    refine br_T rfl ?_
    walk_at "e"
    refine xE_makeK (f := T.f_Water_init) (q := [0]) g (by walk_at "in") T.g_Water T.mk_Water (kb_Winit T) (ok_w0 T) ?_
    refine wK_cons ?_
    walk_at "e"
    refine wK_nil ⟨rfl, _, mk_w0 T, ?_⟩
    show wA _ _ _ _ _ _ _
    walk_at "e"
    refine wF_wlen T g.toGd (ps := []) (by decide) ?_
    walk_at "e"
    exact RetOk.low (μ := []) rfl rfl
  · obtain ⟨i, hi, rfl⟩ := mem_range hd
    exact ⟨i, by omega, rfl⟩
  rintro d ds ρ μ ⟨hds, o1, o2, o3, o4, o5, o6, o7, o8, o9, o10, o11, rfl⟩
  obtain ⟨i, hi, rfl⟩ := hds d (by simp)
  have hrest : ∀ d ∈ ds, ∃ i : Nat, i < 5 ∧ d = .int i := fun d hd => hds d (by simp [hd])
  walk_at "e"
  walk_at "s1"
  refine sp_box T (by omega) (by omega) ?_
  walk_at "e"
  have hμ : (μ ++ [M.box])[μ.length]? = some .box := at_last
  generalize hm : μ ++ [M.box] = μ1 at *
  refine wSs_cons (wS_for g.po g.calm (wI_range1 T.n_range ?_))
  walk_at "e"
  refine ⟨⟨by omega, by omega⟩, ?_⟩
  refine wFor_inv (fun ds ρ μ' => μ'[μ.length]? = some .box ∧ ∃ o3 o4 o5 o6 o7 o8 o9 o10 o11, ρ = [some (.scr (ns.map D.int)), some (.int i), some (.loc μ.length), o3, o4, o5, o6, o7, o8, o9, o10, o11]) ?_ ?_ _ _ _ ⟨hμ, _, _, _, _, _, _, _, _, _, rfl⟩
  · rintro d ds' ρ μ2 ⟨h2, o3, o4, o5, o6, o7, o8, o9, o10, o11, rfl⟩
    walk_at "e"
    exact law_turn T g h2 (fun μ3 o4 o5 o6 o7 o8 o9 o10 o11 h3 => ⟨h3, _, _, _, _, _, _, _, _, _, rfl⟩)
  · rintro ρ μ2 ⟨_, o3, o4, o5, o6, o7, o8, o9, o10, o11, rfl⟩
    exact wSs_nil ⟨hrest, _, _, _, _, _, _, _, _, _, _, _, rfl⟩
end
end PM
set_option Elab.async false
set_option linter.all false
set_option maxRecDepth 100000
set_option maxHeartbeats 4000000
namespace PM
open PySem L2
theorem tx_mk {K : PySem.W.Frag} {h : Heap} {mg : Str → Option Value} {fa : Addr} (X : K.In h) (G : h.Ns mainGlobals mg) (hfa : mg "law" = some (.ref fa))
    {C_PoolError : Addr}
    {nm_PoolError q_PoolError : Str} {N_PoolError : Addr} {bs_PoolError : List Value} {sn_PoolError : List Str} {sub_PoolError : List Value} {ab_PoolError : Bool} {col_PoolError : Option Bool} {dd_PoolError : Option Addr} {m0_PoolError m1_PoolError m2_PoolError m3_PoolError m5_PoolError : Option Value}
    {C_InvalidNumber : Addr}
    {nm_InvalidNumber q_InvalidNumber : Str} {N_InvalidNumber : Addr} {bs_InvalidNumber : List Value} {sn_InvalidNumber : List Str} {sub_InvalidNumber : List Value} {ab_InvalidNumber : Bool} {col_InvalidNumber : Option Bool} {dd_InvalidNumber : Option Addr} {m0_InvalidNumber m1_InvalidNumber m2_InvalidNumber m3_InvalidNumber m5_InvalidNumber : Option Value}
    {C_InvalidDrop : Addr}
    {C_Full : Addr}
    {C_Touching : Addr}
    {nm_Touching q_Touching : Str} {N_Touching : Addr} {bs_Touching : List Value} {sn_Touching : List Str} {sub_Touching : List Value} {ab_Touching : Bool} {col_Touching : Option Bool} {dd_Touching : Option Addr} {m0_Touching m1_Touching m2_Touching m3_Touching m5_Touching : Option Value}
    {C_UnknownIndex : Addr}
    {C_Ratio : Addr}
    {lo_Ratio : Value} {ld_Ratio : Option Addr} {lc_Ratio : ClassData} {ls_Ratio : Array (Option Value)}
    {C_Pool : Addr}
    {lo_Pool : Value} {ld_Pool : Option Addr} {lc_Pool : ClassData} {ls_Pool : Array (Option Value)}
    {C_Water : Addr}
    {lo_Water : Value} {ld_Water : Option Addr} {lc_Water : ClassData} {ls_Water : Array (Option Value)}
    {a_InvalidNumber_init : Addr} {oc_InvalidNumber_init kV_InvalidNumber_init dc_InvalidNumber_init pm_InvalidNumber_init cd_InvalidNumber_init ct_InvalidNumber_init : Value} {od_InvalidNumber_init an_InvalidNumber_init : Option Addr} {sl_InvalidNumber_init : Array (Option Value)}
    {a_Touching_init : Addr} {oc_Touching_init kV_Touching_init dc_Touching_init pm_Touching_init cd_Touching_init ct_Touching_init : Value} {od_Touching_init an_Touching_init : Option Addr} {sl_Touching_init : Array (Option Value)}
    {a_is_integer : Addr} {oc_is_integer kV_is_integer dc_is_integer pm_is_integer cd_is_integer ct_is_integer : Value} {od_is_integer an_is_integer : Option Addr} {sl_is_integer : Array (Option Value)}
    {a_is_number : Addr} {oc_is_number kV_is_number dc_is_number pm_is_number cd_is_number ct_is_number : Value} {od_is_number an_is_number : Option Addr} {sl_is_number : Array (Option Value)}
    {a_as_ratio : Addr} {oc_as_ratio kV_as_ratio dc_as_ratio pm_as_ratio cd_as_ratio ct_as_ratio : Value} {od_as_ratio an_as_ratio : Option Addr} {sl_as_ratio : Array (Option Value)}
    {a_common_divisor : Addr} {oc_common_divisor kV_common_divisor dc_common_divisor pm_common_divisor cd_common_divisor ct_common_divisor : Value} {od_common_divisor an_common_divisor : Option Addr} {sl_common_divisor : Array (Option Value)}
    {a_Ratio_init : Addr} {oc_Ratio_init kV_Ratio_init dc_Ratio_init pm_Ratio_init cd_Ratio_init ct_Ratio_init : Value} {od_Ratio_init an_Ratio_init : Option Addr} {sl_Ratio_init : Array (Option Value)}
    {T_Ratio_init : Addr} {nn_Ratio_init : Nat}
    {dk_Ratio_init : Tok} {cl_Ratio_init : Value} {sd_Ratio_init : Option Addr} {ss_Ratio_init : Array (Option Value)}
    {a_Ratio_over : Addr} {oc_Ratio_over kV_Ratio_over dc_Ratio_over pm_Ratio_over cd_Ratio_over ct_Ratio_over : Value} {od_Ratio_over an_Ratio_over : Option Addr} {sl_Ratio_over : Array (Option Value)}
    {a_Ratio_str : Addr} {oc_Ratio_str kV_Ratio_str dc_Ratio_str pm_Ratio_str cd_Ratio_str ct_Ratio_str : Value} {od_Ratio_str an_Ratio_str : Option Addr} {sl_Ratio_str : Array (Option Value)}
    {a_Ratio_neg : Addr} {oc_Ratio_neg kV_Ratio_neg dc_Ratio_neg pm_Ratio_neg cd_Ratio_neg ct_Ratio_neg : Value} {od_Ratio_neg an_Ratio_neg : Option Addr} {sl_Ratio_neg : Array (Option Value)}
    {a_Ratio_add : Addr} {oc_Ratio_add kV_Ratio_add dc_Ratio_add pm_Ratio_add cd_Ratio_add ct_Ratio_add : Value} {od_Ratio_add an_Ratio_add : Option Addr} {sl_Ratio_add : Array (Option Value)}
    {a_Ratio_radd : Addr} {oc_Ratio_radd kV_Ratio_radd dc_Ratio_radd pm_Ratio_radd cd_Ratio_radd ct_Ratio_radd : Value} {od_Ratio_radd an_Ratio_radd : Option Addr} {sl_Ratio_radd : Array (Option Value)}
    {a_Ratio_sub : Addr} {oc_Ratio_sub kV_Ratio_sub dc_Ratio_sub pm_Ratio_sub cd_Ratio_sub ct_Ratio_sub : Value} {od_Ratio_sub an_Ratio_sub : Option Addr} {sl_Ratio_sub : Array (Option Value)}
    {a_Ratio_rsub : Addr} {oc_Ratio_rsub kV_Ratio_rsub dc_Ratio_rsub pm_Ratio_rsub cd_Ratio_rsub ct_Ratio_rsub : Value} {od_Ratio_rsub an_Ratio_rsub : Option Addr} {sl_Ratio_rsub : Array (Option Value)}
    {a_Ratio_le : Addr} {oc_Ratio_le kV_Ratio_le dc_Ratio_le pm_Ratio_le cd_Ratio_le ct_Ratio_le : Value} {od_Ratio_le an_Ratio_le : Option Addr} {sl_Ratio_le : Array (Option Value)}
    {a_Ratio_ge : Addr} {oc_Ratio_ge kV_Ratio_ge dc_Ratio_ge pm_Ratio_ge cd_Ratio_ge ct_Ratio_ge : Value} {od_Ratio_ge an_Ratio_ge : Option Addr} {sl_Ratio_ge : Array (Option Value)}
    {a_Pool_init : Addr} {oc_Pool_init kV_Pool_init dc_Pool_init pm_Pool_init cd_Pool_init ct_Pool_init : Value} {od_Pool_init an_Pool_init : Option Addr} {sl_Pool_init : Array (Option Value)}
    {a_Pool_middle : Addr} {oc_Pool_middle kV_Pool_middle dc_Pool_middle pm_Pool_middle cd_Pool_middle ct_Pool_middle : Value} {od_Pool_middle an_Pool_middle : Option Addr} {sl_Pool_middle : Array (Option Value)}
    {p_Pool_middle : Addr} {r_Pool_middle : List Value}
    {a_Pool_volume : Addr} {oc_Pool_volume kV_Pool_volume dc_Pool_volume pm_Pool_volume cd_Pool_volume ct_Pool_volume : Value} {od_Pool_volume an_Pool_volume : Option Addr} {sl_Pool_volume : Array (Option Value)}
    {p_Pool_volume : Addr} {r_Pool_volume : List Value}
    {a_Pool_left : Addr} {oc_Pool_left kV_Pool_left dc_Pool_left pm_Pool_left cd_Pool_left ct_Pool_left : Value} {od_Pool_left an_Pool_left : Option Addr} {sl_Pool_left : Array (Option Value)}
    {p_Pool_left : Addr} {r_Pool_left : List Value}
    {a_Pool_right : Addr} {oc_Pool_right kV_Pool_right dc_Pool_right pm_Pool_right cd_Pool_right ct_Pool_right : Value} {od_Pool_right an_Pool_right : Option Addr} {sl_Pool_right : Array (Option Value)}
    {p_Pool_right : Addr} {r_Pool_right : List Value}
    {a_Pool_repr : Addr} {oc_Pool_repr kV_Pool_repr dc_Pool_repr pm_Pool_repr cd_Pool_repr ct_Pool_repr : Value} {od_Pool_repr an_Pool_repr : Option Addr} {sl_Pool_repr : Array (Option Value)}
    {a_Water_init : Addr} {oc_Water_init kV_Water_init dc_Water_init pm_Water_init cd_Water_init ct_Water_init : Value} {od_Water_init an_Water_init : Option Addr} {sl_Water_init : Array (Option Value)}
    {T_Water_init : Addr} {nn_Water_init : Nat}
    {z_Water_init : Addr} {zd_Water_init : Option Addr} {zn_Water_init : Nat} {zs_Water_init : Array (Option Value)}
    {cl_Water_init : Value} {sd_Water_init : Option Addr} {ss_Water_init : Array (Option Value)}
    {a_Water_len : Addr} {oc_Water_len kV_Water_len dc_Water_len pm_Water_len cd_Water_len ct_Water_len : Value} {od_Water_len an_Water_len : Option Addr} {sl_Water_len : Array (Option Value)}
    {a_Water_getitem : Addr} {oc_Water_getitem kV_Water_getitem dc_Water_getitem pm_Water_getitem cd_Water_getitem ct_Water_getitem : Value} {od_Water_getitem an_Water_getitem : Option Addr} {sl_Water_getitem : Array (Option Value)}
    {a_w_box : Addr} {oc_w_box kV_w_box dc_w_box pm_w_box cd_w_box ct_w_box : Value} {od_w_box an_w_box : Option Addr} {sl_w_box : Array (Option Value)}
    {a_w_take : Addr} {oc_w_take kV_w_take dc_w_take pm_w_take cd_w_take ct_w_take : Value} {od_w_take an_w_take : Option Addr} {sl_w_take : Array (Option Value)}
    {a_w_number : Addr} {oc_w_number kV_w_number dc_w_number pm_w_number cd_w_number ct_w_number : Value} {od_w_number an_w_number : Option Addr} {sl_w_number : Array (Option Value)}
    {a_w_is : Addr} {oc_w_is kV_w_is dc_w_is pm_w_is cd_w_is ct_w_is : Value} {od_w_is an_w_is : Option Addr} {sl_w_is : Array (Option Value)}
    {a_w_pool : Addr} {oc_w_pool kV_w_pool dc_w_pool pm_w_pool cd_w_pool ct_w_pool : Value} {od_w_pool an_w_pool : Option Addr} {sl_w_pool : Array (Option Value)}
    {a_w_moments : Addr} {oc_w_moments kV_w_moments dc_w_moments pm_w_moments cd_w_moments ct_w_moments : Value} {od_w_moments an_w_moments : Option Addr} {sl_w_moments : Array (Option Value)}
    {a_w_is_water : Addr} {oc_w_is_water kV_w_is_water dc_w_is_water pm_w_is_water cd_w_is_water ct_w_is_water : Value} {od_w_is_water an_w_is_water : Option Addr} {sl_w_is_water : Array (Option Value)}
    {a_w_row : Addr} {oc_w_row kV_w_row dc_w_row pm_w_row cd_w_row ct_w_row : Value} {od_w_row an_w_row : Option Addr} {sl_w_row : Array (Option Value)}
    {a_w_long_row : Addr} {oc_w_long_row kV_w_long_row dc_w_long_row pm_w_long_row cd_w_long_row ct_w_long_row : Value} {od_w_long_row an_w_long_row : Option Addr} {sl_w_long_row : Array (Option Value)}
    {a_w_due : Addr} {oc_w_due kV_w_due dc_w_due pm_w_due cd_w_due ct_w_due : Value} {od_w_due an_w_due : Option Addr} {sl_w_due : Array (Option Value)}
    {a_w_made : Addr} {oc_w_made kV_w_made dc_w_made pm_w_made cd_w_made ct_w_made : Value} {od_w_made an_w_made : Option Addr} {sl_w_made : Array (Option Value)}
    {a_law : Addr} {oc_law kV_law dc_law pm_law cd_law ct_law : Value} {od_law an_law : Option Addr} {sl_law : Array (Option Value)}
    {fo_add ro_add : Option Value}
    {fo_sub ro_sub : Option Value}
    {tk_DIGITS : Tok}
    {tk_MOST_DIGITS : Tok}
    (g_PoolError : PySem.W.nsIn K mainGlobals "PoolError" = some (some (.ref C_PoolError)))
    (x_PoolError : K.lookup C_PoolError = some (excClassObj nm_PoolError q_PoolError C_PoolError N_PoolError bs_PoolError [.type "ValueError", .type "Exception", .type "BaseException", .type "object"] true sn_PoolError sub_PoolError ab_PoolError col_PoolError dd_PoolError m0_PoolError m1_PoolError m2_PoolError m3_PoolError m5_PoolError "ValueError.__new__"))
    (sa_PoolError : PySem.W.findIn K (.ref C_PoolError) "__setattr__" = some (some (.builtin "object.__setattr__")))
    (ex_PoolError : PySem.W.subIn K (.ref C_PoolError) (.type "BaseException") = some true)
    (ty_PoolError : PySem.W.typeIn K (.ref C_PoolError) = some (.type "type"))
    (kp_PoolError : PySem.W.keepIn K (.ref C_PoolError) = true)
    (ur_PoolError : PySem.W.readsIn K C_PoolError (.type "type") = true)
    (ug_PoolError : PySem.W.specialIn K (.ref C_PoolError) "__getattribute__" = some (some (.builtin "type.__getattribute__")))
    (uf_PoolError : PySem.W.findCls K (.ref C_PoolError) (.type "type") "__init__" = some (.val (.builtin "ValueError.__init__")))
    (g_InvalidNumber : PySem.W.nsIn K mainGlobals "InvalidNumber" = some (some (.ref C_InvalidNumber)))
    (x_InvalidNumber : K.lookup C_InvalidNumber = some (excClassObj nm_InvalidNumber q_InvalidNumber C_InvalidNumber N_InvalidNumber bs_InvalidNumber [.ref C_PoolError, .type "ValueError", .type "Exception", .type "BaseException", .type "object"] true sn_InvalidNumber sub_InvalidNumber ab_InvalidNumber col_InvalidNumber dd_InvalidNumber m0_InvalidNumber m1_InvalidNumber m2_InvalidNumber m3_InvalidNumber m5_InvalidNumber "ValueError.__new__"))
    (sa_InvalidNumber : PySem.W.findIn K (.ref C_InvalidNumber) "__setattr__" = some (some (.builtin "object.__setattr__")))
    (ex_InvalidNumber : PySem.W.subIn K (.ref C_InvalidNumber) (.type "BaseException") = some true)
    (ty_InvalidNumber : PySem.W.typeIn K (.ref C_InvalidNumber) = some (.type "type"))
    (kp_InvalidNumber : PySem.W.keepIn K (.ref C_InvalidNumber) = true)
    (xg_InvalidNumber : PySem.W.findIn K (.ref C_InvalidNumber) "__getattribute__" = some (some (.builtin "BaseException.__getattribute__")))
    (xn_InvalidNumber : PySem.W.findIn K (.ref C_InvalidNumber) "__getattr__" = some none)
    (xh_InvalidNumber : PySem.W.hasDictIn K C_InvalidNumber = true)
    (xi_InvalidNumber : PySem.W.isClsIn K C_InvalidNumber = true)
    (xs_InvalidNumber : PySem.W.subIn K (.ref C_InvalidNumber) (.ref C_InvalidNumber) = some true)
    (na_InvalidNumber_value : PySem.W.findIn K (.ref C_InvalidNumber) "value" = some none)
    (g_InvalidDrop : PySem.W.nsIn K mainGlobals "InvalidDrop" = some (some (.ref C_InvalidDrop)))
    (ty_InvalidDrop : PySem.W.typeIn K (.ref C_InvalidDrop) = some (.type "type"))
    (xi_InvalidDrop : PySem.W.isClsIn K C_InvalidDrop = true)
    (g_Full : PySem.W.nsIn K mainGlobals "Full" = some (some (.ref C_Full)))
    (ty_Full : PySem.W.typeIn K (.ref C_Full) = some (.type "type"))
    (xi_Full : PySem.W.isClsIn K C_Full = true)
    (g_Touching : PySem.W.nsIn K mainGlobals "Touching" = some (some (.ref C_Touching)))
    (x_Touching : K.lookup C_Touching = some (excClassObj nm_Touching q_Touching C_Touching N_Touching bs_Touching [.ref C_PoolError, .type "ValueError", .type "Exception", .type "BaseException", .type "object"] true sn_Touching sub_Touching ab_Touching col_Touching dd_Touching m0_Touching m1_Touching m2_Touching m3_Touching m5_Touching "ValueError.__new__"))
    (sa_Touching : PySem.W.findIn K (.ref C_Touching) "__setattr__" = some (some (.builtin "object.__setattr__")))
    (ex_Touching : PySem.W.subIn K (.ref C_Touching) (.type "BaseException") = some true)
    (ty_Touching : PySem.W.typeIn K (.ref C_Touching) = some (.type "type"))
    (kp_Touching : PySem.W.keepIn K (.ref C_Touching) = true)
    (xg_Touching : PySem.W.findIn K (.ref C_Touching) "__getattribute__" = some (some (.builtin "BaseException.__getattribute__")))
    (xn_Touching : PySem.W.findIn K (.ref C_Touching) "__getattr__" = some none)
    (xh_Touching : PySem.W.hasDictIn K C_Touching = true)
    (xi_Touching : PySem.W.isClsIn K C_Touching = true)
    (xs_Touching : PySem.W.subIn K (.ref C_Touching) (.ref C_Touching) = some true)
    (na_Touching_index : PySem.W.findIn K (.ref C_Touching) "index" = some none)
    (g_UnknownIndex : PySem.W.nsIn K mainGlobals "UnknownIndex" = some (some (.ref C_UnknownIndex)))
    (g_Ratio : PySem.W.nsIn K mainGlobals "Ratio" = some (some (.ref C_Ratio)))
    (pg_Ratio : PySem.W.plainGet K C_Ratio Str.empty = true)
    (hd_Ratio : PySem.W.hasDictIn K C_Ratio = true)
    (po_Ratio : PySem.W.plainOver K C_Ratio = true)
    (sa_Ratio : PySem.W.findIn K (.ref C_Ratio) "__setattr__" = some (some (.builtin "object.__setattr__")))
    (ca_Ratio : PySem.W.findIn K (.ref C_Ratio) "__class__" = some (some (.builtin "object.__class__")))
    (cg_Ratio : PySem.W.specialIn K (.builtin "object.__class__") "__get__" = some (some (.builtin "getset_descriptor.__get__")))
    (ct_Ratio : PySem.W.takesIn K (.builtin "object.__class__") = some true)
    (lk_Ratio : K.lookup C_Ratio = some ⟨lo_Ratio, ld_Ratio, .cls lc_Ratio, ls_Ratio⟩)
    (mr_Ratio : lc_Ratio.mro = [.ref C_Ratio, .type "object"])
    (ty_Ratio : PySem.W.typeIn K (.ref C_Ratio) = some (.type "type"))
    (rd_Ratio : PySem.W.readsIn K C_Ratio (.type "type") = true)
    (gg_Ratio : PySem.W.specialIn K (.ref C_Ratio) "__getattribute__" = some (some (.builtin "type.__getattribute__")))
    (na_Ratio_top : PySem.W.findIn K (.ref C_Ratio) "top" = some none)
    (na_Ratio_bottom : PySem.W.findIn K (.ref C_Ratio) "bottom" = some none)
    (mi_Ratio : PySem.W.makesIn K C_Ratio = true)
    (kc_Ratio : PySem.W.keepIn K (.ref C_Ratio) = true)
    (g_Pool : PySem.W.nsIn K mainGlobals "Pool" = some (some (.ref C_Pool)))
    (pg_Pool : PySem.W.plainGet K C_Pool Str.empty = true)
    (hd_Pool : PySem.W.hasDictIn K C_Pool = true)
    (po_Pool : PySem.W.plainOver K C_Pool = true)
    (sa_Pool : PySem.W.findIn K (.ref C_Pool) "__setattr__" = some (some (.builtin "object.__setattr__")))
    (ca_Pool : PySem.W.findIn K (.ref C_Pool) "__class__" = some (some (.builtin "object.__class__")))
    (cg_Pool : PySem.W.specialIn K (.builtin "object.__class__") "__get__" = some (some (.builtin "getset_descriptor.__get__")))
    (ct_Pool : PySem.W.takesIn K (.builtin "object.__class__") = some true)
    (lk_Pool : K.lookup C_Pool = some ⟨lo_Pool, ld_Pool, .cls lc_Pool, ls_Pool⟩)
    (mr_Pool : lc_Pool.mro = [.ref C_Pool, .type "object"])
    (ty_Pool : PySem.W.typeIn K (.ref C_Pool) = some (.type "type"))
    (rd_Pool : PySem.W.readsIn K C_Pool (.type "type") = true)
    (gg_Pool : PySem.W.specialIn K (.ref C_Pool) "__getattribute__" = some (some (.builtin "type.__getattribute__")))
    (na_Pool_center : PySem.W.findIn K (.ref C_Pool) "center" = some none)
    (na_Pool_amount : PySem.W.findIn K (.ref C_Pool) "amount" = some none)
    (mi_Pool : PySem.W.makesIn K C_Pool = true)
    (kc_Pool : PySem.W.keepIn K (.ref C_Pool) = true)
    (g_Water : PySem.W.nsIn K mainGlobals "Water" = some (some (.ref C_Water)))
    (pg_Water : PySem.W.plainGet K C_Water Str.empty = true)
    (hd_Water : PySem.W.hasDictIn K C_Water = true)
    (po_Water : PySem.W.plainOver K C_Water = true)
    (sa_Water : PySem.W.findIn K (.ref C_Water) "__setattr__" = some (some (.builtin "object.__setattr__")))
    (ca_Water : PySem.W.findIn K (.ref C_Water) "__class__" = some (some (.builtin "object.__class__")))
    (cg_Water : PySem.W.specialIn K (.builtin "object.__class__") "__get__" = some (some (.builtin "getset_descriptor.__get__")))
    (ct_Water : PySem.W.takesIn K (.builtin "object.__class__") = some true)
    (lk_Water : K.lookup C_Water = some ⟨lo_Water, ld_Water, .cls lc_Water, ls_Water⟩)
    (mr_Water : lc_Water.mro = [.ref C_Water, .type "object"])
    (ty_Water : PySem.W.typeIn K (.ref C_Water) = some (.type "type"))
    (rd_Water : PySem.W.readsIn K C_Water (.type "type") = true)
    (gg_Water : PySem.W.specialIn K (.ref C_Water) "__getattribute__" = some (some (.builtin "type.__getattribute__")))
    (na_Water_rows : PySem.W.findIn K (.ref C_Water) "rows" = some none)
    (mi_Water : PySem.W.makesIn K C_Water = true)
    (kc_Water : PySem.W.keepIn K (.ref C_Water) = true)
    (i_InvalidNumber_init : PySem.W.findIn K (.ref C_InvalidNumber) "__init__" = some (some (.ref a_InvalidNumber_init)))
    (t_InvalidNumber_init : PySem.W.typeIn K (.ref a_InvalidNumber_init) = some (.type "function"))
    (l_InvalidNumber_init : K.lookup a_InvalidNumber_init = some ⟨oc_InvalidNumber_init, od_InvalidNumber_init, .func (PySem.W.fnOf "__init__" "InvalidNumber.__init__" (defArgs s_InvalidNumber_init) (defBody s_InvalidNumber_init) (defScope s_InvalidNumber_init) (.none) kV_InvalidNumber_init dc_InvalidNumber_init pm_InvalidNumber_init an_InvalidNumber_init cd_InvalidNumber_init ct_InvalidNumber_init), sl_InvalidNumber_init⟩)
    (c_InvalidNumber_init : PySem.W.codeIn K cd_InvalidNumber_init "InvalidNumber.__init__" = true)
    (k_InvalidNumber_init : PySem.W.keepIn K (.ref a_InvalidNumber_init) = true)
    (i_Touching_init : PySem.W.findIn K (.ref C_Touching) "__init__" = some (some (.ref a_Touching_init)))
    (t_Touching_init : PySem.W.typeIn K (.ref a_Touching_init) = some (.type "function"))
    (l_Touching_init : K.lookup a_Touching_init = some ⟨oc_Touching_init, od_Touching_init, .func (PySem.W.fnOf "__init__" "Touching.__init__" (defArgs s_Touching_init) (defBody s_Touching_init) (defScope s_Touching_init) (.none) kV_Touching_init dc_Touching_init pm_Touching_init an_Touching_init cd_Touching_init ct_Touching_init), sl_Touching_init⟩)
    (c_Touching_init : PySem.W.codeIn K cd_Touching_init "Touching.__init__" = true)
    (k_Touching_init : PySem.W.keepIn K (.ref a_Touching_init) = true)
    (g_is_integer : PySem.W.nsIn K mainGlobals "is_integer" = some (some (.ref a_is_integer)))
    (l_is_integer : K.lookup a_is_integer = some ⟨oc_is_integer, od_is_integer, .func (PySem.W.fnOf "is_integer" "is_integer" (defArgs s_is_integer) (defBody s_is_integer) (defScope s_is_integer) (.none) kV_is_integer dc_is_integer pm_is_integer an_is_integer cd_is_integer ct_is_integer), sl_is_integer⟩)
    (c_is_integer : PySem.W.codeIn K cd_is_integer "is_integer" = true)
    (k_is_integer : PySem.W.keepIn K (.ref a_is_integer) = true)
    (g_is_number : PySem.W.nsIn K mainGlobals "is_number" = some (some (.ref a_is_number)))
    (l_is_number : K.lookup a_is_number = some ⟨oc_is_number, od_is_number, .func (PySem.W.fnOf "is_number" "is_number" (defArgs s_is_number) (defBody s_is_number) (defScope s_is_number) (.none) kV_is_number dc_is_number pm_is_number an_is_number cd_is_number ct_is_number), sl_is_number⟩)
    (c_is_number : PySem.W.codeIn K cd_is_number "is_number" = true)
    (k_is_number : PySem.W.keepIn K (.ref a_is_number) = true)
    (g_as_ratio : PySem.W.nsIn K mainGlobals "as_ratio" = some (some (.ref a_as_ratio)))
    (l_as_ratio : K.lookup a_as_ratio = some ⟨oc_as_ratio, od_as_ratio, .func (PySem.W.fnOf "as_ratio" "as_ratio" (defArgs s_as_ratio) (defBody s_as_ratio) (defScope s_as_ratio) (.none) kV_as_ratio dc_as_ratio pm_as_ratio an_as_ratio cd_as_ratio ct_as_ratio), sl_as_ratio⟩)
    (c_as_ratio : PySem.W.codeIn K cd_as_ratio "as_ratio" = true)
    (k_as_ratio : PySem.W.keepIn K (.ref a_as_ratio) = true)
    (g_common_divisor : PySem.W.nsIn K mainGlobals "common_divisor" = some (some (.ref a_common_divisor)))
    (l_common_divisor : K.lookup a_common_divisor = some ⟨oc_common_divisor, od_common_divisor, .func (PySem.W.fnOf "common_divisor" "common_divisor" (defArgs s_common_divisor) (defBody s_common_divisor) (defScope s_common_divisor) (.none) kV_common_divisor dc_common_divisor pm_common_divisor an_common_divisor cd_common_divisor ct_common_divisor), sl_common_divisor⟩)
    (c_common_divisor : PySem.W.codeIn K cd_common_divisor "common_divisor" = true)
    (k_common_divisor : PySem.W.keepIn K (.ref a_common_divisor) = true)
    (f_Ratio_init : PySem.W.findIn K (.ref C_Ratio) "__init__" = some (some (.ref a_Ratio_init)))
    (t_Ratio_init : PySem.W.isFn K (.ref a_Ratio_init) = true)
    (l_Ratio_init : K.lookup a_Ratio_init = some ⟨oc_Ratio_init, od_Ratio_init, .func (PySem.W.fnOf "__init__" "Ratio.__init__" (defArgs s_Ratio_init) (defBody s_Ratio_init) (defScope s_Ratio_init) (.ref T_Ratio_init) kV_Ratio_init dc_Ratio_init pm_Ratio_init an_Ratio_init cd_Ratio_init ct_Ratio_init), sl_Ratio_init⟩)
    (c_Ratio_init : PySem.W.codeIn K cd_Ratio_init "Ratio.__init__" = true)
    (k_Ratio_init : PySem.W.keepIn K (.ref a_Ratio_init) = true)
    (dt_Ratio_init : K.lookup T_Ratio_init = some ⟨cl_Ratio_init, sd_Ratio_init, .seq #[.int 1 dk_Ratio_init] nn_Ratio_init, ss_Ratio_init⟩)
    (f_Ratio_over : PySem.W.findIn K (.ref C_Ratio) "over" = some (some (.ref a_Ratio_over)))
    (t_Ratio_over : PySem.W.isFn K (.ref a_Ratio_over) = true)
    (l_Ratio_over : K.lookup a_Ratio_over = some ⟨oc_Ratio_over, od_Ratio_over, .func (PySem.W.fnOf "over" "Ratio.over" (defArgs s_Ratio_over) (defBody s_Ratio_over) (defScope s_Ratio_over) (.none) kV_Ratio_over dc_Ratio_over pm_Ratio_over an_Ratio_over cd_Ratio_over ct_Ratio_over), sl_Ratio_over⟩)
    (c_Ratio_over : PySem.W.codeIn K cd_Ratio_over "Ratio.over" = true)
    (k_Ratio_over : PySem.W.keepIn K (.ref a_Ratio_over) = true)
    (f_Ratio_str : PySem.W.findIn K (.ref C_Ratio) "__str__" = some (some (.ref a_Ratio_str)))
    (t_Ratio_str : PySem.W.isFn K (.ref a_Ratio_str) = true)
    (l_Ratio_str : K.lookup a_Ratio_str = some ⟨oc_Ratio_str, od_Ratio_str, .func (PySem.W.fnOf "__str__" "Ratio.__str__" (defArgs s_Ratio_str) (defBody s_Ratio_str) (defScope s_Ratio_str) (.none) kV_Ratio_str dc_Ratio_str pm_Ratio_str an_Ratio_str cd_Ratio_str ct_Ratio_str), sl_Ratio_str⟩)
    (c_Ratio_str : PySem.W.codeIn K cd_Ratio_str "Ratio.__str__" = true)
    (k_Ratio_str : PySem.W.keepIn K (.ref a_Ratio_str) = true)
    (f_Ratio_neg : PySem.W.findIn K (.ref C_Ratio) "__neg__" = some (some (.ref a_Ratio_neg)))
    (t_Ratio_neg : PySem.W.isFn K (.ref a_Ratio_neg) = true)
    (l_Ratio_neg : K.lookup a_Ratio_neg = some ⟨oc_Ratio_neg, od_Ratio_neg, .func (PySem.W.fnOf "__neg__" "Ratio.__neg__" (defArgs s_Ratio_neg) (defBody s_Ratio_neg) (defScope s_Ratio_neg) (.none) kV_Ratio_neg dc_Ratio_neg pm_Ratio_neg an_Ratio_neg cd_Ratio_neg ct_Ratio_neg), sl_Ratio_neg⟩)
    (c_Ratio_neg : PySem.W.codeIn K cd_Ratio_neg "Ratio.__neg__" = true)
    (k_Ratio_neg : PySem.W.keepIn K (.ref a_Ratio_neg) = true)
    (f_Ratio_add : PySem.W.findIn K (.ref C_Ratio) "__add__" = some (some (.ref a_Ratio_add)))
    (t_Ratio_add : PySem.W.isFn K (.ref a_Ratio_add) = true)
    (l_Ratio_add : K.lookup a_Ratio_add = some ⟨oc_Ratio_add, od_Ratio_add, .func (PySem.W.fnOf "__add__" "Ratio.__add__" (defArgs s_Ratio_add) (defBody s_Ratio_add) (defScope s_Ratio_add) (.none) kV_Ratio_add dc_Ratio_add pm_Ratio_add an_Ratio_add cd_Ratio_add ct_Ratio_add), sl_Ratio_add⟩)
    (c_Ratio_add : PySem.W.codeIn K cd_Ratio_add "Ratio.__add__" = true)
    (k_Ratio_add : PySem.W.keepIn K (.ref a_Ratio_add) = true)
    (f_Ratio_radd : PySem.W.findIn K (.ref C_Ratio) "__radd__" = some (some (.ref a_Ratio_radd)))
    (t_Ratio_radd : PySem.W.isFn K (.ref a_Ratio_radd) = true)
    (l_Ratio_radd : K.lookup a_Ratio_radd = some ⟨oc_Ratio_radd, od_Ratio_radd, .func (PySem.W.fnOf "__radd__" "Ratio.__radd__" (defArgs s_Ratio_radd) (defBody s_Ratio_radd) (defScope s_Ratio_radd) (.none) kV_Ratio_radd dc_Ratio_radd pm_Ratio_radd an_Ratio_radd cd_Ratio_radd ct_Ratio_radd), sl_Ratio_radd⟩)
    (c_Ratio_radd : PySem.W.codeIn K cd_Ratio_radd "Ratio.__radd__" = true)
    (k_Ratio_radd : PySem.W.keepIn K (.ref a_Ratio_radd) = true)
    (f_Ratio_sub : PySem.W.findIn K (.ref C_Ratio) "__sub__" = some (some (.ref a_Ratio_sub)))
    (t_Ratio_sub : PySem.W.isFn K (.ref a_Ratio_sub) = true)
    (l_Ratio_sub : K.lookup a_Ratio_sub = some ⟨oc_Ratio_sub, od_Ratio_sub, .func (PySem.W.fnOf "__sub__" "Ratio.__sub__" (defArgs s_Ratio_sub) (defBody s_Ratio_sub) (defScope s_Ratio_sub) (.none) kV_Ratio_sub dc_Ratio_sub pm_Ratio_sub an_Ratio_sub cd_Ratio_sub ct_Ratio_sub), sl_Ratio_sub⟩)
    (c_Ratio_sub : PySem.W.codeIn K cd_Ratio_sub "Ratio.__sub__" = true)
    (k_Ratio_sub : PySem.W.keepIn K (.ref a_Ratio_sub) = true)
    (f_Ratio_rsub : PySem.W.findIn K (.ref C_Ratio) "__rsub__" = some (some (.ref a_Ratio_rsub)))
    (t_Ratio_rsub : PySem.W.isFn K (.ref a_Ratio_rsub) = true)
    (l_Ratio_rsub : K.lookup a_Ratio_rsub = some ⟨oc_Ratio_rsub, od_Ratio_rsub, .func (PySem.W.fnOf "__rsub__" "Ratio.__rsub__" (defArgs s_Ratio_rsub) (defBody s_Ratio_rsub) (defScope s_Ratio_rsub) (.none) kV_Ratio_rsub dc_Ratio_rsub pm_Ratio_rsub an_Ratio_rsub cd_Ratio_rsub ct_Ratio_rsub), sl_Ratio_rsub⟩)
    (c_Ratio_rsub : PySem.W.codeIn K cd_Ratio_rsub "Ratio.__rsub__" = true)
    (k_Ratio_rsub : PySem.W.keepIn K (.ref a_Ratio_rsub) = true)
    (f_Ratio_le : PySem.W.findIn K (.ref C_Ratio) "__le__" = some (some (.ref a_Ratio_le)))
    (t_Ratio_le : PySem.W.isFn K (.ref a_Ratio_le) = true)
    (l_Ratio_le : K.lookup a_Ratio_le = some ⟨oc_Ratio_le, od_Ratio_le, .func (PySem.W.fnOf "__le__" "Ratio.__le__" (defArgs s_Ratio_le) (defBody s_Ratio_le) (defScope s_Ratio_le) (.none) kV_Ratio_le dc_Ratio_le pm_Ratio_le an_Ratio_le cd_Ratio_le ct_Ratio_le), sl_Ratio_le⟩)
    (c_Ratio_le : PySem.W.codeIn K cd_Ratio_le "Ratio.__le__" = true)
    (k_Ratio_le : PySem.W.keepIn K (.ref a_Ratio_le) = true)
    (f_Ratio_ge : PySem.W.findIn K (.ref C_Ratio) "__ge__" = some (some (.ref a_Ratio_ge)))
    (t_Ratio_ge : PySem.W.isFn K (.ref a_Ratio_ge) = true)
    (l_Ratio_ge : K.lookup a_Ratio_ge = some ⟨oc_Ratio_ge, od_Ratio_ge, .func (PySem.W.fnOf "__ge__" "Ratio.__ge__" (defArgs s_Ratio_ge) (defBody s_Ratio_ge) (defScope s_Ratio_ge) (.none) kV_Ratio_ge dc_Ratio_ge pm_Ratio_ge an_Ratio_ge cd_Ratio_ge ct_Ratio_ge), sl_Ratio_ge⟩)
    (c_Ratio_ge : PySem.W.codeIn K cd_Ratio_ge "Ratio.__ge__" = true)
    (k_Ratio_ge : PySem.W.keepIn K (.ref a_Ratio_ge) = true)
    (f_Pool_init : PySem.W.findIn K (.ref C_Pool) "__init__" = some (some (.ref a_Pool_init)))
    (t_Pool_init : PySem.W.isFn K (.ref a_Pool_init) = true)
    (l_Pool_init : K.lookup a_Pool_init = some ⟨oc_Pool_init, od_Pool_init, .func (PySem.W.fnOf "__init__" "Pool.__init__" (defArgs s_Pool_init) (defBody s_Pool_init) (defScope s_Pool_init) (.none) kV_Pool_init dc_Pool_init pm_Pool_init an_Pool_init cd_Pool_init ct_Pool_init), sl_Pool_init⟩)
    (c_Pool_init : PySem.W.codeIn K cd_Pool_init "Pool.__init__" = true)
    (k_Pool_init : PySem.W.keepIn K (.ref a_Pool_init) = true)
    (f_Pool_middle : PySem.W.findIn K (.ref C_Pool) "middle" = some (some (.ref p_Pool_middle)))
    (pg_Pool_middle : PySem.W.specialIn K (.ref p_Pool_middle) "__get__" = some (some (.builtin "property.__get__")))
    (pt_Pool_middle : PySem.W.takesIn K (.ref p_Pool_middle) = some true)
    (pr_Pool_middle : PySem.W.recIn K p_Pool_middle "property" = some (.ref a_Pool_middle :: r_Pool_middle))
    (l_Pool_middle : K.lookup a_Pool_middle = some ⟨oc_Pool_middle, od_Pool_middle, .func (PySem.W.fnOf "middle" "Pool.middle" (defArgs s_Pool_middle) (defBody s_Pool_middle) (defScope s_Pool_middle) (.none) kV_Pool_middle dc_Pool_middle pm_Pool_middle an_Pool_middle cd_Pool_middle ct_Pool_middle), sl_Pool_middle⟩)
    (c_Pool_middle : PySem.W.codeIn K cd_Pool_middle "Pool.middle" = true)
    (k_Pool_middle : PySem.W.keepIn K (.ref a_Pool_middle) = true)
    (f_Pool_volume : PySem.W.findIn K (.ref C_Pool) "volume" = some (some (.ref p_Pool_volume)))
    (pg_Pool_volume : PySem.W.specialIn K (.ref p_Pool_volume) "__get__" = some (some (.builtin "property.__get__")))
    (pt_Pool_volume : PySem.W.takesIn K (.ref p_Pool_volume) = some true)
    (pr_Pool_volume : PySem.W.recIn K p_Pool_volume "property" = some (.ref a_Pool_volume :: r_Pool_volume))
    (l_Pool_volume : K.lookup a_Pool_volume = some ⟨oc_Pool_volume, od_Pool_volume, .func (PySem.W.fnOf "volume" "Pool.volume" (defArgs s_Pool_volume) (defBody s_Pool_volume) (defScope s_Pool_volume) (.none) kV_Pool_volume dc_Pool_volume pm_Pool_volume an_Pool_volume cd_Pool_volume ct_Pool_volume), sl_Pool_volume⟩)
    (c_Pool_volume : PySem.W.codeIn K cd_Pool_volume "Pool.volume" = true)
    (k_Pool_volume : PySem.W.keepIn K (.ref a_Pool_volume) = true)
    (f_Pool_left : PySem.W.findIn K (.ref C_Pool) "left" = some (some (.ref p_Pool_left)))
    (pg_Pool_left : PySem.W.specialIn K (.ref p_Pool_left) "__get__" = some (some (.builtin "property.__get__")))
    (pt_Pool_left : PySem.W.takesIn K (.ref p_Pool_left) = some true)
    (pr_Pool_left : PySem.W.recIn K p_Pool_left "property" = some (.ref a_Pool_left :: r_Pool_left))
    (l_Pool_left : K.lookup a_Pool_left = some ⟨oc_Pool_left, od_Pool_left, .func (PySem.W.fnOf "left" "Pool.left" (defArgs s_Pool_left) (defBody s_Pool_left) (defScope s_Pool_left) (.none) kV_Pool_left dc_Pool_left pm_Pool_left an_Pool_left cd_Pool_left ct_Pool_left), sl_Pool_left⟩)
    (c_Pool_left : PySem.W.codeIn K cd_Pool_left "Pool.left" = true)
    (k_Pool_left : PySem.W.keepIn K (.ref a_Pool_left) = true)
    (f_Pool_right : PySem.W.findIn K (.ref C_Pool) "right" = some (some (.ref p_Pool_right)))
    (pg_Pool_right : PySem.W.specialIn K (.ref p_Pool_right) "__get__" = some (some (.builtin "property.__get__")))
    (pt_Pool_right : PySem.W.takesIn K (.ref p_Pool_right) = some true)
    (pr_Pool_right : PySem.W.recIn K p_Pool_right "property" = some (.ref a_Pool_right :: r_Pool_right))
    (l_Pool_right : K.lookup a_Pool_right = some ⟨oc_Pool_right, od_Pool_right, .func (PySem.W.fnOf "right" "Pool.right" (defArgs s_Pool_right) (defBody s_Pool_right) (defScope s_Pool_right) (.none) kV_Pool_right dc_Pool_right pm_Pool_right an_Pool_right cd_Pool_right ct_Pool_right), sl_Pool_right⟩)
    (c_Pool_right : PySem.W.codeIn K cd_Pool_right "Pool.right" = true)
    (k_Pool_right : PySem.W.keepIn K (.ref a_Pool_right) = true)
    (f_Pool_repr : PySem.W.findIn K (.ref C_Pool) "__repr__" = some (some (.ref a_Pool_repr)))
    (t_Pool_repr : PySem.W.isFn K (.ref a_Pool_repr) = true)
    (l_Pool_repr : K.lookup a_Pool_repr = some ⟨oc_Pool_repr, od_Pool_repr, .func (PySem.W.fnOf "__repr__" "Pool.__repr__" (defArgs s_Pool_repr) (defBody s_Pool_repr) (defScope s_Pool_repr) (.none) kV_Pool_repr dc_Pool_repr pm_Pool_repr an_Pool_repr cd_Pool_repr ct_Pool_repr), sl_Pool_repr⟩)
    (c_Pool_repr : PySem.W.codeIn K cd_Pool_repr "Pool.__repr__" = true)
    (k_Pool_repr : PySem.W.keepIn K (.ref a_Pool_repr) = true)
    (f_Water_init : PySem.W.findIn K (.ref C_Water) "__init__" = some (some (.ref a_Water_init)))
    (t_Water_init : PySem.W.isFn K (.ref a_Water_init) = true)
    (l_Water_init : K.lookup a_Water_init = some ⟨oc_Water_init, od_Water_init, .func (PySem.W.fnOf "__init__" "Water.__init__" (defArgs s_Water_init) (defBody s_Water_init) (defScope s_Water_init) (.ref T_Water_init) kV_Water_init dc_Water_init pm_Water_init an_Water_init cd_Water_init ct_Water_init), sl_Water_init⟩)
    (c_Water_init : PySem.W.codeIn K cd_Water_init "Water.__init__" = true)
    (k_Water_init : PySem.W.keepIn K (.ref a_Water_init) = true)
    (dt_Water_init : K.lookup T_Water_init = some ⟨cl_Water_init, sd_Water_init, .seq #[.ref z_Water_init] nn_Water_init, ss_Water_init⟩)
    (dz_Water_init : K.lookup z_Water_init = some ⟨.type "tuple", zd_Water_init, .seq #[] zn_Water_init, zs_Water_init⟩)
    (f_Water_len : PySem.W.findIn K (.ref C_Water) "__len__" = some (some (.ref a_Water_len)))
    (t_Water_len : PySem.W.isFn K (.ref a_Water_len) = true)
    (l_Water_len : K.lookup a_Water_len = some ⟨oc_Water_len, od_Water_len, .func (PySem.W.fnOf "__len__" "Water.__len__" (defArgs s_Water_len) (defBody s_Water_len) (defScope s_Water_len) (.none) kV_Water_len dc_Water_len pm_Water_len an_Water_len cd_Water_len ct_Water_len), sl_Water_len⟩)
    (c_Water_len : PySem.W.codeIn K cd_Water_len "Water.__len__" = true)
    (k_Water_len : PySem.W.keepIn K (.ref a_Water_len) = true)
    (f_Water_getitem : PySem.W.findIn K (.ref C_Water) "__getitem__" = some (some (.ref a_Water_getitem)))
    (t_Water_getitem : PySem.W.isFn K (.ref a_Water_getitem) = true)
    (fi_Water_getitem : PySem.W.fnIn K a_Water_getitem = true)
    (l_Water_getitem : K.lookup a_Water_getitem = some ⟨oc_Water_getitem, od_Water_getitem, .func (PySem.W.fnOf "__getitem__" "Water.__getitem__" (defArgs s_Water_getitem) (defBody s_Water_getitem) (defScope s_Water_getitem) (.none) kV_Water_getitem dc_Water_getitem pm_Water_getitem an_Water_getitem cd_Water_getitem ct_Water_getitem), sl_Water_getitem⟩)
    (c_Water_getitem : PySem.W.codeIn K cd_Water_getitem "Water.__getitem__" = true)
    (k_Water_getitem : PySem.W.keepIn K (.ref a_Water_getitem) = true)
    (g_w_box : PySem.W.nsIn K mainGlobals "_law_box" = some (some (.ref a_w_box)))
    (l_w_box : K.lookup a_w_box = some ⟨oc_w_box, od_w_box, .func (PySem.W.fnOf "_law_box" "_law_box" (defArgs s_w_box) (defBody s_w_box) (defScope s_w_box) (.none) kV_w_box dc_w_box pm_w_box an_w_box cd_w_box ct_w_box), sl_w_box⟩)
    (c_w_box : PySem.W.codeIn K cd_w_box "_law_box" = true)
    (k_w_box : PySem.W.keepIn K (.ref a_w_box) = true)
    (g_w_take : PySem.W.nsIn K mainGlobals "_law_take" = some (some (.ref a_w_take)))
    (l_w_take : K.lookup a_w_take = some ⟨oc_w_take, od_w_take, .func (PySem.W.fnOf "_law_take" "_law_take" (defArgs s_w_take) (defBody s_w_take) (defScope s_w_take) (.none) kV_w_take dc_w_take pm_w_take an_w_take cd_w_take ct_w_take), sl_w_take⟩)
    (c_w_take : PySem.W.codeIn K cd_w_take "_law_take" = true)
    (k_w_take : PySem.W.keepIn K (.ref a_w_take) = true)
    (g_w_number : PySem.W.nsIn K mainGlobals "_law_number" = some (some (.ref a_w_number)))
    (l_w_number : K.lookup a_w_number = some ⟨oc_w_number, od_w_number, .func (PySem.W.fnOf "_law_number" "_law_number" (defArgs s_w_number) (defBody s_w_number) (defScope s_w_number) (.none) kV_w_number dc_w_number pm_w_number an_w_number cd_w_number ct_w_number), sl_w_number⟩)
    (c_w_number : PySem.W.codeIn K cd_w_number "_law_number" = true)
    (k_w_number : PySem.W.keepIn K (.ref a_w_number) = true)
    (g_w_is : PySem.W.nsIn K mainGlobals "_law_is" = some (some (.ref a_w_is)))
    (l_w_is : K.lookup a_w_is = some ⟨oc_w_is, od_w_is, .func (PySem.W.fnOf "_law_is" "_law_is" (defArgs s_w_is) (defBody s_w_is) (defScope s_w_is) (.none) kV_w_is dc_w_is pm_w_is an_w_is cd_w_is ct_w_is), sl_w_is⟩)
    (c_w_is : PySem.W.codeIn K cd_w_is "_law_is" = true)
    (k_w_is : PySem.W.keepIn K (.ref a_w_is) = true)
    (g_w_pool : PySem.W.nsIn K mainGlobals "_law_pool" = some (some (.ref a_w_pool)))
    (l_w_pool : K.lookup a_w_pool = some ⟨oc_w_pool, od_w_pool, .func (PySem.W.fnOf "_law_pool" "_law_pool" (defArgs s_w_pool) (defBody s_w_pool) (defScope s_w_pool) (.none) kV_w_pool dc_w_pool pm_w_pool an_w_pool cd_w_pool ct_w_pool), sl_w_pool⟩)
    (c_w_pool : PySem.W.codeIn K cd_w_pool "_law_pool" = true)
    (k_w_pool : PySem.W.keepIn K (.ref a_w_pool) = true)
    (g_w_moments : PySem.W.nsIn K mainGlobals "_law_moments" = some (some (.ref a_w_moments)))
    (l_w_moments : K.lookup a_w_moments = some ⟨oc_w_moments, od_w_moments, .func (PySem.W.fnOf "_law_moments" "_law_moments" (defArgs s_w_moments) (defBody s_w_moments) (defScope s_w_moments) (.none) kV_w_moments dc_w_moments pm_w_moments an_w_moments cd_w_moments ct_w_moments), sl_w_moments⟩)
    (c_w_moments : PySem.W.codeIn K cd_w_moments "_law_moments" = true)
    (k_w_moments : PySem.W.keepIn K (.ref a_w_moments) = true)
    (g_w_is_water : PySem.W.nsIn K mainGlobals "_law_is_water" = some (some (.ref a_w_is_water)))
    (l_w_is_water : K.lookup a_w_is_water = some ⟨oc_w_is_water, od_w_is_water, .func (PySem.W.fnOf "_law_is_water" "_law_is_water" (defArgs s_w_is_water) (defBody s_w_is_water) (defScope s_w_is_water) (.none) kV_w_is_water dc_w_is_water pm_w_is_water an_w_is_water cd_w_is_water ct_w_is_water), sl_w_is_water⟩)
    (c_w_is_water : PySem.W.codeIn K cd_w_is_water "_law_is_water" = true)
    (k_w_is_water : PySem.W.keepIn K (.ref a_w_is_water) = true)
    (g_w_row : PySem.W.nsIn K mainGlobals "_law_row" = some (some (.ref a_w_row)))
    (l_w_row : K.lookup a_w_row = some ⟨oc_w_row, od_w_row, .func (PySem.W.fnOf "_law_row" "_law_row" (defArgs s_w_row) (defBody s_w_row) (defScope s_w_row) (.none) kV_w_row dc_w_row pm_w_row an_w_row cd_w_row ct_w_row), sl_w_row⟩)
    (c_w_row : PySem.W.codeIn K cd_w_row "_law_row" = true)
    (k_w_row : PySem.W.keepIn K (.ref a_w_row) = true)
    (g_w_long_row : PySem.W.nsIn K mainGlobals "_law_long_row" = some (some (.ref a_w_long_row)))
    (l_w_long_row : K.lookup a_w_long_row = some ⟨oc_w_long_row, od_w_long_row, .func (PySem.W.fnOf "_law_long_row" "_law_long_row" (defArgs s_w_long_row) (defBody s_w_long_row) (defScope s_w_long_row) (.none) kV_w_long_row dc_w_long_row pm_w_long_row an_w_long_row cd_w_long_row ct_w_long_row), sl_w_long_row⟩)
    (c_w_long_row : PySem.W.codeIn K cd_w_long_row "_law_long_row" = true)
    (k_w_long_row : PySem.W.keepIn K (.ref a_w_long_row) = true)
    (g_w_due : PySem.W.nsIn K mainGlobals "_law_due" = some (some (.ref a_w_due)))
    (l_w_due : K.lookup a_w_due = some ⟨oc_w_due, od_w_due, .func (PySem.W.fnOf "_law_due" "_law_due" (defArgs s_w_due) (defBody s_w_due) (defScope s_w_due) (.none) kV_w_due dc_w_due pm_w_due an_w_due cd_w_due ct_w_due), sl_w_due⟩)
    (c_w_due : PySem.W.codeIn K cd_w_due "_law_due" = true)
    (k_w_due : PySem.W.keepIn K (.ref a_w_due) = true)
    (g_w_made : PySem.W.nsIn K mainGlobals "_law_made" = some (some (.ref a_w_made)))
    (l_w_made : K.lookup a_w_made = some ⟨oc_w_made, od_w_made, .func (PySem.W.fnOf "_law_made" "_law_made" (defArgs s_w_made) (defBody s_w_made) (defScope s_w_made) (.none) kV_w_made dc_w_made pm_w_made an_w_made cd_w_made ct_w_made), sl_w_made⟩)
    (c_w_made : PySem.W.codeIn K cd_w_made "_law_made" = true)
    (k_w_made : PySem.W.keepIn K (.ref a_w_made) = true)
    (g_law : PySem.W.nsIn K mainGlobals "law" = some (some (.ref a_law)))
    (l_law : K.lookup a_law = some ⟨oc_law, od_law, .func (PySem.W.fnOf "law" "law" (defArgs s_law) (defBody s_law) (defScope s_law) (.none) kV_law dc_law pm_law an_law cd_law ct_law), sl_law⟩)
    (c_law : PySem.W.codeIn K cd_law "law" = true)
    (k_law : PySem.W.keepIn K (.ref a_law) = true)
    (ca_Touching : PySem.W.findIn K (.ref C_Touching) "__class__" = some (some (.builtin "object.__class__")))
    (cg_Touching : PySem.W.specialIn K (.builtin "object.__class__") "__get__" = some (some (.builtin "getset_descriptor.__get__")))
    (ct_Touching : PySem.W.takesIn K (.builtin "object.__class__") = some true)
    (cm_Touching : PySem.W.subIn K (.ref C_Touching) (.type "object") = some true)
    (xi_PoolError : PySem.W.isClsIn K C_PoolError = true)
    (ks_Touching_Full : PySem.W.subIn K (.ref C_Touching) (.ref C_Full) = some false)
    (ks_Touching_InvalidDrop : PySem.W.subIn K (.ref C_Touching) (.ref C_InvalidDrop) = some false)
    (ks_Touching_InvalidNumber : PySem.W.subIn K (.ref C_Touching) (.ref C_InvalidNumber) = some false)
    (ks_Touching_PoolError : PySem.W.subIn K (.ref C_Touching) (.ref C_PoolError) = some true)
    (io_add : PySem.W.findIn K (.type "int") "__add__" = some fo_add)
    (ior_add : PySem.W.findIn K (.type "int") "__radd__" = some ro_add)
    (nio_add : PySem.W.findIn K (.type "object") "__iadd__" = some none)
    (io_sub : PySem.W.findIn K (.type "int") "__sub__" = some fo_sub)
    (ior_sub : PySem.W.findIn K (.type "int") "__rsub__" = some ro_sub)
    (nio_sub : PySem.W.findIn K (.type "object") "__isub__" = some none)
    (fm_Ratio : PySem.W.findIn K (.ref C_Ratio) "__format__" = some (some (.builtin "object.__format__")))
    (nii_Ratio_add : PySem.W.findIn K (.ref C_Ratio) "__iadd__" = some none)
    (nii_Ratio_sub : PySem.W.findIn K (.ref C_Ratio) "__isub__" = some none)
    (n_IndexError : PySem.W.nsIn K mainGlobals "IndexError" = some none)
    (n_NotImplemented : PySem.W.nsIn K mainGlobals "NotImplemented" = some none)
    (n_TypeError : PySem.W.nsIn K mainGlobals "TypeError" = some none)
    (n_abs : PySem.W.nsIn K mainGlobals "abs" = some none)
    (n_all : PySem.W.nsIn K mainGlobals "all" = some none)
    (n_any : PySem.W.nsIn K mainGlobals "any" = some none)
    (n_bool : PySem.W.nsIn K mainGlobals "bool" = some none)
    (n_classmethod : PySem.W.nsIn K mainGlobals "classmethod" = some none)
    (n_enumerate : PySem.W.nsIn K mainGlobals "enumerate" = some none)
    (n_int : PySem.W.nsIn K mainGlobals "int" = some none)
    (n_isinstance : PySem.W.nsIn K mainGlobals "isinstance" = some none)
    (n_len : PySem.W.nsIn K mainGlobals "len" = some none)
    (n_list : PySem.W.nsIn K mainGlobals "list" = some none)
    (n_max : PySem.W.nsIn K mainGlobals "max" = some none)
    (n_min : PySem.W.nsIn K mainGlobals "min" = some none)
    (n_property : PySem.W.nsIn K mainGlobals "property" = some none)
    (n_range : PySem.W.nsIn K mainGlobals "range" = some none)
    (n_repr : PySem.W.nsIn K mainGlobals "repr" = some none)
    (n_str : PySem.W.nsIn K mainGlobals "str" = some none)
    (n_sum : PySem.W.nsIn K mainGlobals "sum" = some none)
    (n_tuple : PySem.W.nsIn K mainGlobals "tuple" = some none)
    (c_DIGITS : PySem.W.nsIn K mainGlobals "DIGITS" = some (some (.str "0123456789" tk_DIGITS)))
    (c_MOST_DIGITS : PySem.W.nsIn K mainGlobals "MOST_DIGITS" = some (some (.int 1000 tk_MOST_DIGITS))) : ∃ T : Tx K mg, T.a_law = fa := by
  have e : Value.ref fa = Value.ref a_law := Option.some.inj (hfa.symm.trans (PySem.W.mg_of X G g_law))
  exact ⟨{
    C_PoolError := C_PoolError,
    g_PoolError := PySem.W.mg_of X G g_PoolError,
    oex_PoolError := ⟨⟨_, _, _, _, _, _, _, _, _, _, _, _, _, _, _, x_PoolError, rfl⟩, sa_PoolError, ex_PoolError, ty_PoolError, kp_PoolError⟩,
    up_PoolError := ⟨ur_PoolError, ug_PoolError, uf_PoolError⟩,
    C_InvalidNumber := C_InvalidNumber,
    g_InvalidNumber := PySem.W.mg_of X G g_InvalidNumber,
    oex_InvalidNumber := ⟨⟨_, _, _, _, _, _, _, _, _, _, _, _, _, _, _, x_InvalidNumber, rfl⟩, sa_InvalidNumber, ex_InvalidNumber, ty_InvalidNumber, kp_InvalidNumber⟩,
    xf_InvalidNumber := ⟨xg_InvalidNumber, xn_InvalidNumber, ex_InvalidNumber, xh_InvalidNumber⟩,
    xm_InvalidNumber := exm_of ex_InvalidNumber xi_InvalidNumber ty_InvalidNumber xs_InvalidNumber,
    na_InvalidNumber_value := na_InvalidNumber_value,
    C_InvalidDrop := C_InvalidDrop,
    g_InvalidDrop := PySem.W.mg_of X G g_InvalidDrop,
    C_Full := C_Full,
    g_Full := PySem.W.mg_of X G g_Full,
    C_Touching := C_Touching,
    g_Touching := PySem.W.mg_of X G g_Touching,
    oex_Touching := ⟨⟨_, _, _, _, _, _, _, _, _, _, _, _, _, _, _, x_Touching, rfl⟩, sa_Touching, ex_Touching, ty_Touching, kp_Touching⟩,
    xf_Touching := ⟨xg_Touching, xn_Touching, ex_Touching, xh_Touching⟩,
    xm_Touching := exm_of ex_Touching xi_Touching ty_Touching xs_Touching,
    na_Touching_index := na_Touching_index,
    C_UnknownIndex := C_UnknownIndex,
    g_UnknownIndex := PySem.W.mg_of X G g_UnknownIndex,
    C_Ratio := C_Ratio,
    g_Ratio := PySem.W.mg_of X G g_Ratio,
    own_Ratio := ⟨⟨pg_Ratio, hd_Ratio, po_Ratio, sa_Ratio⟩, ca_Ratio, cg_Ratio, ct_Ratio, mro_of lk_Ratio mr_Ratio, ty_Ratio⟩,
    cr_Ratio := ⟨rd_Ratio, gg_Ratio⟩,
    na_Ratio_top := na_Ratio_top,
    na_Ratio_bottom := na_Ratio_bottom,
    C_Pool := C_Pool,
    g_Pool := PySem.W.mg_of X G g_Pool,
    own_Pool := ⟨⟨pg_Pool, hd_Pool, po_Pool, sa_Pool⟩, ca_Pool, cg_Pool, ct_Pool, mro_of lk_Pool mr_Pool, ty_Pool⟩,
    cr_Pool := ⟨rd_Pool, gg_Pool⟩,
    na_Pool_center := na_Pool_center,
    na_Pool_amount := na_Pool_amount,
    C_Water := C_Water,
    g_Water := PySem.W.mg_of X G g_Water,
    own_Water := ⟨⟨pg_Water, hd_Water, po_Water, sa_Water⟩, ca_Water, cg_Water, ct_Water, mro_of lk_Water mr_Water, ty_Water⟩,
    cr_Water := ⟨rd_Water, gg_Water⟩,
    na_Water_rows := na_Water_rows,
    i_InvalidNumber := i_InvalidNumber_init,
    t_InvalidNumber := t_InvalidNumber_init,
    a_InvalidNumber_init := a_InvalidNumber_init,
    fd_InvalidNumber_init := _,
    F_InvalidNumber_init := funS_mk l_InvalidNumber_init c_InvalidNumber_init k_InvalidNumber_init,
    i_Touching := i_Touching_init,
    t_Touching := t_Touching_init,
    a_Touching_init := a_Touching_init,
    fd_Touching_init := _,
    F_Touching_init := funS_mk l_Touching_init c_Touching_init k_Touching_init,
    g_is_integer := PySem.W.mg_of X G g_is_integer,
    a_is_integer := a_is_integer,
    fd_is_integer := _,
    F_is_integer := funS_mk l_is_integer c_is_integer k_is_integer,
    g_is_number := PySem.W.mg_of X G g_is_number,
    a_is_number := a_is_number,
    fd_is_number := _,
    F_is_number := funS_mk l_is_number c_is_number k_is_number,
    g_as_ratio := PySem.W.mg_of X G g_as_ratio,
    a_as_ratio := a_as_ratio,
    fd_as_ratio := _,
    F_as_ratio := funS_mk l_as_ratio c_as_ratio k_as_ratio,
    g_common_divisor := PySem.W.mg_of X G g_common_divisor,
    a_common_divisor := a_common_divisor,
    fd_common_divisor := _,
    F_common_divisor := funS_mk l_common_divisor c_common_divisor k_common_divisor,
    m_Ratio_init := ⟨f_Ratio_init, t_Ratio_init, k_Ratio_init⟩,
    mk_Ratio := ⟨mi_Ratio, f_Ratio_init, t_Ratio_init, kc_Ratio⟩,
    a_Ratio_init := a_Ratio_init,
    fd_Ratio_init := _,
    F_Ratio_init := ⟨⟨_, _, _, _, _, _, _, _, _, _, rfl, l_Ratio_init, c_Ratio_init, .inr ⟨(by intro z; cases z), _, _, [.int 1 dk_Ratio_init], _, rfl, dt_Ratio_init, rfl, .cons ⟨_, rfl⟩ (.nil)⟩, .inl rfl⟩, k_Ratio_init⟩,
    m_Ratio_over := ⟨f_Ratio_over, t_Ratio_over, k_Ratio_over⟩,
    a_Ratio_over := a_Ratio_over,
    fd_Ratio_over := _,
    F_Ratio_over := funS_mk l_Ratio_over c_Ratio_over k_Ratio_over,
    m_Ratio_str := ⟨f_Ratio_str, t_Ratio_str, k_Ratio_str⟩,
    a_Ratio_str := a_Ratio_str,
    fd_Ratio_str := _,
    F_Ratio_str := funS_mk l_Ratio_str c_Ratio_str k_Ratio_str,
    m_Ratio_neg := ⟨f_Ratio_neg, t_Ratio_neg, k_Ratio_neg⟩,
    a_Ratio_neg := a_Ratio_neg,
    fd_Ratio_neg := _,
    F_Ratio_neg := funS_mk l_Ratio_neg c_Ratio_neg k_Ratio_neg,
    m_Ratio_add := ⟨f_Ratio_add, t_Ratio_add, k_Ratio_add⟩,
    a_Ratio_add := a_Ratio_add,
    fd_Ratio_add := _,
    F_Ratio_add := funS_mk l_Ratio_add c_Ratio_add k_Ratio_add,
    m_Ratio_radd := ⟨f_Ratio_radd, t_Ratio_radd, k_Ratio_radd⟩,
    a_Ratio_radd := a_Ratio_radd,
    fd_Ratio_radd := _,
    F_Ratio_radd := funS_mk l_Ratio_radd c_Ratio_radd k_Ratio_radd,
    m_Ratio_sub := ⟨f_Ratio_sub, t_Ratio_sub, k_Ratio_sub⟩,
    a_Ratio_sub := a_Ratio_sub,
    fd_Ratio_sub := _,
    F_Ratio_sub := funS_mk l_Ratio_sub c_Ratio_sub k_Ratio_sub,
    m_Ratio_rsub := ⟨f_Ratio_rsub, t_Ratio_rsub, k_Ratio_rsub⟩,
    a_Ratio_rsub := a_Ratio_rsub,
    fd_Ratio_rsub := _,
    F_Ratio_rsub := funS_mk l_Ratio_rsub c_Ratio_rsub k_Ratio_rsub,
    m_Ratio_le := ⟨f_Ratio_le, t_Ratio_le, k_Ratio_le⟩,
    a_Ratio_le := a_Ratio_le,
    fd_Ratio_le := _,
    F_Ratio_le := funS_mk l_Ratio_le c_Ratio_le k_Ratio_le,
    m_Ratio_ge := ⟨f_Ratio_ge, t_Ratio_ge, k_Ratio_ge⟩,
    a_Ratio_ge := a_Ratio_ge,
    fd_Ratio_ge := _,
    F_Ratio_ge := funS_mk l_Ratio_ge c_Ratio_ge k_Ratio_ge,
    m_Pool_init := ⟨f_Pool_init, t_Pool_init, k_Pool_init⟩,
    mk_Pool := ⟨mi_Pool, f_Pool_init, t_Pool_init, kc_Pool⟩,
    a_Pool_init := a_Pool_init,
    fd_Pool_init := _,
    F_Pool_init := funS_mk l_Pool_init c_Pool_init k_Pool_init,
    p_Pool_middle := p_Pool_middle,
    P_Pool_middle := ⟨f_Pool_middle, pg_Pool_middle, pt_Pool_middle, _, pr_Pool_middle⟩,
    a_Pool_middle := a_Pool_middle,
    fd_Pool_middle := _,
    F_Pool_middle := funS_mk l_Pool_middle c_Pool_middle k_Pool_middle,
    p_Pool_volume := p_Pool_volume,
    P_Pool_volume := ⟨f_Pool_volume, pg_Pool_volume, pt_Pool_volume, _, pr_Pool_volume⟩,
    a_Pool_volume := a_Pool_volume,
    fd_Pool_volume := _,
    F_Pool_volume := funS_mk l_Pool_volume c_Pool_volume k_Pool_volume,
    p_Pool_left := p_Pool_left,
    P_Pool_left := ⟨f_Pool_left, pg_Pool_left, pt_Pool_left, _, pr_Pool_left⟩,
    a_Pool_left := a_Pool_left,
    fd_Pool_left := _,
    F_Pool_left := funS_mk l_Pool_left c_Pool_left k_Pool_left,
    p_Pool_right := p_Pool_right,
    P_Pool_right := ⟨f_Pool_right, pg_Pool_right, pt_Pool_right, _, pr_Pool_right⟩,
    a_Pool_right := a_Pool_right,
    fd_Pool_right := _,
    F_Pool_right := funS_mk l_Pool_right c_Pool_right k_Pool_right,
    m_Pool_repr := ⟨f_Pool_repr, t_Pool_repr, k_Pool_repr⟩,
    a_Pool_repr := a_Pool_repr,
    fd_Pool_repr := _,
    F_Pool_repr := funS_mk l_Pool_repr c_Pool_repr k_Pool_repr,
    m_Water_init := ⟨f_Water_init, t_Water_init, k_Water_init⟩,
    mk_Water := ⟨mi_Water, f_Water_init, t_Water_init, kc_Water⟩,
    a_Water_init := a_Water_init,
    fd_Water_init := _,
    t0_Water_init := z_Water_init,
    T0_Water_init := ⟨_, _, dz_Water_init, rfl, rfl⟩,
    F_Water_init := ⟨⟨_, _, _, _, _, _, _, _, _, _, rfl, l_Water_init, c_Water_init, .inr ⟨(by intro z; cases z), _, _, [.ref z_Water_init], _, rfl, dt_Water_init, rfl, .cons rfl (.nil)⟩, .inl rfl⟩, k_Water_init⟩,
    m_Water_len := ⟨f_Water_len, t_Water_len, k_Water_len⟩,
    a_Water_len := a_Water_len,
    fd_Water_len := _,
    F_Water_len := funS_mk l_Water_len c_Water_len k_Water_len,
    m_Water_getitem := ⟨f_Water_getitem, t_Water_getitem, k_Water_getitem⟩,
    fi_Water_getitem := fi_Water_getitem,
    a_Water_getitem := a_Water_getitem,
    fd_Water_getitem := _,
    F_Water_getitem := funS_mk l_Water_getitem c_Water_getitem k_Water_getitem,
    g_w_box := PySem.W.mg_of X G g_w_box,
    a_w_box := a_w_box,
    fd_w_box := _,
    F_w_box := funS_mk l_w_box c_w_box k_w_box,
    g_w_take := PySem.W.mg_of X G g_w_take,
    a_w_take := a_w_take,
    fd_w_take := _,
    F_w_take := funS_mk l_w_take c_w_take k_w_take,
    g_w_number := PySem.W.mg_of X G g_w_number,
    a_w_number := a_w_number,
    fd_w_number := _,
    F_w_number := funS_mk l_w_number c_w_number k_w_number,
    g_w_is := PySem.W.mg_of X G g_w_is,
    a_w_is := a_w_is,
    fd_w_is := _,
    F_w_is := funS_mk l_w_is c_w_is k_w_is,
    g_w_pool := PySem.W.mg_of X G g_w_pool,
    a_w_pool := a_w_pool,
    fd_w_pool := _,
    F_w_pool := funS_mk l_w_pool c_w_pool k_w_pool,
    g_w_moments := PySem.W.mg_of X G g_w_moments,
    a_w_moments := a_w_moments,
    fd_w_moments := _,
    F_w_moments := funS_mk l_w_moments c_w_moments k_w_moments,
    g_w_is_water := PySem.W.mg_of X G g_w_is_water,
    a_w_is_water := a_w_is_water,
    fd_w_is_water := _,
    F_w_is_water := funS_mk l_w_is_water c_w_is_water k_w_is_water,
    g_w_row := PySem.W.mg_of X G g_w_row,
    a_w_row := a_w_row,
    fd_w_row := _,
    F_w_row := funS_mk l_w_row c_w_row k_w_row,
    g_w_long_row := PySem.W.mg_of X G g_w_long_row,
    a_w_long_row := a_w_long_row,
    fd_w_long_row := _,
    F_w_long_row := funS_mk l_w_long_row c_w_long_row k_w_long_row,
    g_w_due := PySem.W.mg_of X G g_w_due,
    a_w_due := a_w_due,
    fd_w_due := _,
    F_w_due := funS_mk l_w_due c_w_due k_w_due,
    g_w_made := PySem.W.mg_of X G g_w_made,
    a_w_made := a_w_made,
    fd_w_made := _,
    F_w_made := funS_mk l_w_made c_w_made k_w_made,
    g_law := PySem.W.mg_of X G g_law,
    a_law := a_law,
    fd_law := _,
    F_law := funS_mk l_law c_law k_law,
    xk_Touching := ⟨xg_Touching, xn_Touching, ex_Touching, xh_Touching, ca_Touching, cg_Touching, ct_Touching, cm_Touching⟩,
    ki_Touching_Full := kit_err xi_Full ty_Full xs_Touching ks_Touching_Full,
    ki_Touching_InvalidDrop := kit_err xi_InvalidDrop ty_InvalidDrop xs_Touching ks_Touching_InvalidDrop,
    ki_Touching_InvalidNumber := kit_err xi_InvalidNumber ty_InvalidNumber xs_Touching ks_Touching_InvalidNumber,
    ki_Touching_PoolError := kit_err xi_PoolError ty_PoolError xs_Touching ks_Touching_PoolError,
    io_add := ⟨_, io_add⟩,
    ior_add := ⟨_, ior_add⟩,
    nio_add := nio_add,
    io_sub := ⟨_, io_sub⟩,
    ior_sub := ⟨_, ior_sub⟩,
    nio_sub := nio_sub,
    fm_Ratio := fm_Ratio,
    nii_Ratio_add := nii_Ratio_add,
    nii_Ratio_sub := nii_Ratio_sub,
    n_IndexError := PySem.W.mg_none_of X G n_IndexError,
    n_NotImplemented := PySem.W.mg_none_of X G n_NotImplemented,
    n_TypeError := PySem.W.mg_none_of X G n_TypeError,
    n_abs := PySem.W.mg_none_of X G n_abs,
    n_all := PySem.W.mg_none_of X G n_all,
    n_any := PySem.W.mg_none_of X G n_any,
    n_bool := PySem.W.mg_none_of X G n_bool,
    n_classmethod := PySem.W.mg_none_of X G n_classmethod,
    n_enumerate := PySem.W.mg_none_of X G n_enumerate,
    n_int := PySem.W.mg_none_of X G n_int,
    n_isinstance := PySem.W.mg_none_of X G n_isinstance,
    n_len := PySem.W.mg_none_of X G n_len,
    n_list := PySem.W.mg_none_of X G n_list,
    n_max := PySem.W.mg_none_of X G n_max,
    n_min := PySem.W.mg_none_of X G n_min,
    n_property := PySem.W.mg_none_of X G n_property,
    n_range := PySem.W.mg_none_of X G n_range,
    n_repr := PySem.W.mg_none_of X G n_repr,
    n_str := PySem.W.mg_none_of X G n_str,
    n_sum := PySem.W.mg_none_of X G n_sum,
    n_tuple := PySem.W.mg_none_of X G n_tuple,
    c_DIGITS := ⟨_, PySem.W.mg_of X G c_DIGITS⟩,
    c_MOST_DIGITS := ⟨_, PySem.W.mg_of X G c_MOST_DIGITS⟩ }, (Value.ref.inj e).symm⟩
theorem fin_law {P : Program} {w : World} {K : PySem.W.Frag} {mg : Str → Option Value} {fa : Addr} (t : ∃ T : Tx K mg, T.a_law = fa) : ∃ fd : FuncData, (∀ (s : Shared) (u : Value), BindsTo s fd ⟨[u], []⟩ [("_law_script", u)]) ∧ ∀ base : Heap, K.In base → base.Ns mainGlobals mg → FnG P w K mg base lvl_law fa fd ["_law_script"] (spR K (RLaw Scr)) := by
  obtain ⟨T, rfl⟩ := t
  exact ⟨T.fd_law, binds_law T, fun base _ _ => ok_law T⟩
end PM
open PySem PySem.W PyProof.Rows
set_option maxRecDepth 100000 in
set_option maxHeartbeats 0 in
theorem PySem.Challenge.cw_poolsmeet_k08_waters_made_holds : PySem.Challenge.rw_poolsmeet_k08_waters_made.Holds := by
  w_on; o_law; k_head; (case hw => w_witness2)
  k_fill
  refine PM.walkG (l := PySem.Challenge.rw_poolsmeet_k08_waters_made) (k := PM.lvl_law) (x := "_law_script") rfl rfl ⟨rfl, by decide, by decide⟩ (fun w h Y => PySem.W.kIn_of Y) ?F
  case F =>
    intro w mg fa h KX G hmg
    refine' PM.fin_law (PM.tx_mk KX G hmg ?g_PoolError ?x_PoolError ?sa_PoolError ?ex_PoolError ?ty_PoolError ?kp_PoolError ?ur_PoolError ?ug_PoolError ?uf_PoolError ?g_InvalidNumber ?x_InvalidNumber ?sa_InvalidNumber ?ex_InvalidNumber ?ty_InvalidNumber ?kp_InvalidNumber ?xg_InvalidNumber ?xn_InvalidNumber ?xh_InvalidNumber ?xi_InvalidNumber ?xs_InvalidNumber ?na_InvalidNumber_value ?g_InvalidDrop ?ty_InvalidDrop ?xi_InvalidDrop ?g_Full ?ty_Full ?xi_Full ?g_Touching ?x_Touching ?sa_Touching ?ex_Touching ?ty_Touching ?kp_Touching ?xg_Touching ?xn_Touching ?xh_Touching ?xi_Touching ?xs_Touching ?na_Touching_index ?g_UnknownIndex ?g_Ratio ?pg_Ratio ?hd_Ratio ?po_Ratio ?sa_Ratio ?ca_Ratio ?cg_Ratio ?ct_Ratio ?lk_Ratio ?mr_Ratio ?ty_Ratio ?rd_Ratio ?gg_Ratio ?na_Ratio_top ?na_Ratio_bottom ?mi_Ratio ?kc_Ratio ?g_Pool ?pg_Pool ?hd_Pool ?po_Pool ?sa_Pool ?ca_Pool ?cg_Pool ?ct_Pool ?lk_Pool ?mr_Pool ?ty_Pool ?rd_Pool ?gg_Pool ?na_Pool_center ?na_Pool_amount ?mi_Pool ?kc_Pool ?g_Water ?pg_Water ?hd_Water ?po_Water ?sa_Water ?ca_Water ?cg_Water ?ct_Water ?lk_Water ?mr_Water ?ty_Water ?rd_Water ?gg_Water ?na_Water_rows ?mi_Water ?kc_Water ?i_InvalidNumber_init ?t_InvalidNumber_init ?l_InvalidNumber_init ?c_InvalidNumber_init ?k_InvalidNumber_init ?i_Touching_init ?t_Touching_init ?l_Touching_init ?c_Touching_init ?k_Touching_init ?g_is_integer ?l_is_integer ?c_is_integer ?k_is_integer ?g_is_number ?l_is_number ?c_is_number ?k_is_number ?g_as_ratio ?l_as_ratio ?c_as_ratio ?k_as_ratio ?g_common_divisor ?l_common_divisor ?c_common_divisor ?k_common_divisor ?f_Ratio_init ?t_Ratio_init ?l_Ratio_init ?c_Ratio_init ?k_Ratio_init ?dt_Ratio_init ?f_Ratio_over ?t_Ratio_over ?l_Ratio_over ?c_Ratio_over ?k_Ratio_over ?f_Ratio_str ?t_Ratio_str ?l_Ratio_str ?c_Ratio_str ?k_Ratio_str ?f_Ratio_neg ?t_Ratio_neg ?l_Ratio_neg ?c_Ratio_neg ?k_Ratio_neg ?f_Ratio_add ?t_Ratio_add ?l_Ratio_add ?c_Ratio_add ?k_Ratio_add ?f_Ratio_radd ?t_Ratio_radd ?l_Ratio_radd ?c_Ratio_radd ?k_Ratio_radd ?f_Ratio_sub ?t_Ratio_sub ?l_Ratio_sub ?c_Ratio_sub ?k_Ratio_sub ?f_Ratio_rsub ?t_Ratio_rsub ?l_Ratio_rsub ?c_Ratio_rsub ?k_Ratio_rsub ?f_Ratio_le ?t_Ratio_le ?l_Ratio_le ?c_Ratio_le ?k_Ratio_le ?f_Ratio_ge ?t_Ratio_ge ?l_Ratio_ge ?c_Ratio_ge ?k_Ratio_ge ?f_Pool_init ?t_Pool_init ?l_Pool_init ?c_Pool_init ?k_Pool_init ?f_Pool_middle ?pg_Pool_middle ?pt_Pool_middle ?pr_Pool_middle ?l_Pool_middle ?c_Pool_middle ?k_Pool_middle ?f_Pool_volume ?pg_Pool_volume ?pt_Pool_volume ?pr_Pool_volume ?l_Pool_volume ?c_Pool_volume ?k_Pool_volume ?f_Pool_left ?pg_Pool_left ?pt_Pool_left ?pr_Pool_left ?l_Pool_left ?c_Pool_left ?k_Pool_left ?f_Pool_right ?pg_Pool_right ?pt_Pool_right ?pr_Pool_right ?l_Pool_right ?c_Pool_right ?k_Pool_right ?f_Pool_repr ?t_Pool_repr ?l_Pool_repr ?c_Pool_repr ?k_Pool_repr ?f_Water_init ?t_Water_init ?l_Water_init ?c_Water_init ?k_Water_init ?dt_Water_init ?dz_Water_init ?f_Water_len ?t_Water_len ?l_Water_len ?c_Water_len ?k_Water_len ?f_Water_getitem ?t_Water_getitem ?fi_Water_getitem ?l_Water_getitem ?c_Water_getitem ?k_Water_getitem ?g_w_box ?l_w_box ?c_w_box ?k_w_box ?g_w_take ?l_w_take ?c_w_take ?k_w_take ?g_w_number ?l_w_number ?c_w_number ?k_w_number ?g_w_is ?l_w_is ?c_w_is ?k_w_is ?g_w_pool ?l_w_pool ?c_w_pool ?k_w_pool ?g_w_moments ?l_w_moments ?c_w_moments ?k_w_moments ?g_w_is_water ?l_w_is_water ?c_w_is_water ?k_w_is_water ?g_w_row ?l_w_row ?c_w_row ?k_w_row ?g_w_long_row ?l_w_long_row ?c_w_long_row ?k_w_long_row ?g_w_due ?l_w_due ?c_w_due ?k_w_due ?g_w_made ?l_w_made ?c_w_made ?k_w_made ?g_law ?l_law ?c_law ?k_law ?ca_Touching ?cg_Touching ?ct_Touching ?cm_Touching ?xi_PoolError ?ks_Touching_Full ?ks_Touching_InvalidDrop ?ks_Touching_InvalidNumber ?ks_Touching_PoolError ?io_add ?ior_add ?nio_add ?io_sub ?ior_sub ?nio_sub ?fm_Ratio ?nii_Ratio_add ?nii_Ratio_sub ?n_IndexError ?n_NotImplemented ?n_TypeError ?n_abs ?n_all ?n_any ?n_bool ?n_classmethod ?n_enumerate ?n_int ?n_isinstance ?n_len ?n_list ?n_max ?n_min ?n_property ?n_range ?n_repr ?n_str ?n_sum ?n_tuple ?c_DIGITS ?c_MOST_DIGITS)
    (case g_PoolError => first | k_is | (show some _ = some _; k_is))
    (case x_PoolError => first | k_is | (show some _ = some _; k_is))
    (case sa_PoolError => first | k_is | (show some _ = some _; k_is))
    (case ex_PoolError => first | k_is | (show some _ = some _; k_is))
    (case ty_PoolError => first | k_is | (show some _ = some _; k_is))
    (case kp_PoolError => first | k_is | (show some _ = some _; k_is))
    (case ur_PoolError => first | k_is | (show some _ = some _; k_is))
    (case ug_PoolError => first | k_is | (show some _ = some _; k_is))
    (case uf_PoolError => first | k_is | (show some _ = some _; k_is))
    (case g_InvalidNumber => first | k_is | (show some _ = some _; k_is))
    (case x_InvalidNumber => first | k_is | (show some _ = some _; k_is))
    (case sa_InvalidNumber => first | k_is | (show some _ = some _; k_is))
    (case ex_InvalidNumber => first | k_is | (show some _ = some _; k_is))
    (case ty_InvalidNumber => first | k_is | (show some _ = some _; k_is))
    (case kp_InvalidNumber => first | k_is | (show some _ = some _; k_is))
    (case xg_InvalidNumber => first | k_is | (show some _ = some _; k_is))
    (case xn_InvalidNumber => first | k_is | (show some _ = some _; k_is))
    (case xh_InvalidNumber => first | k_is | (show some _ = some _; k_is))
    (case xi_InvalidNumber => first | k_is | (show some _ = some _; k_is))
    (case xs_InvalidNumber => first | k_is | (show some _ = some _; k_is))
    (case na_InvalidNumber_value => first | k_is | (show some _ = some _; k_is))
    (case g_InvalidDrop => first | k_is | (show some _ = some _; k_is))
    (case ty_InvalidDrop => first | k_is | (show some _ = some _; k_is))
    (case xi_InvalidDrop => first | k_is | (show some _ = some _; k_is))
    (case g_Full => first | k_is | (show some _ = some _; k_is))
    (case ty_Full => first | k_is | (show some _ = some _; k_is))
    (case xi_Full => first | k_is | (show some _ = some _; k_is))
    (case g_Touching => first | k_is | (show some _ = some _; k_is))
    (case x_Touching => first | k_is | (show some _ = some _; k_is))
    (case sa_Touching => first | k_is | (show some _ = some _; k_is))
    (case ex_Touching => first | k_is | (show some _ = some _; k_is))
    (case ty_Touching => first | k_is | (show some _ = some _; k_is))
    (case kp_Touching => first | k_is | (show some _ = some _; k_is))
    (case xg_Touching => first | k_is | (show some _ = some _; k_is))
    (case xn_Touching => first | k_is | (show some _ = some _; k_is))
    (case xh_Touching => first | k_is | (show some _ = some _; k_is))
    (case xi_Touching => first | k_is | (show some _ = some _; k_is))
    (case xs_Touching => first | k_is | (show some _ = some _; k_is))
    (case na_Touching_index => first | k_is | (show some _ = some _; k_is))
    (case g_UnknownIndex => first | k_is | (show some _ = some _; k_is))
    (case g_Ratio => first | k_is | (show some _ = some _; k_is))
    (case pg_Ratio => first | k_is | (show some _ = some _; k_is))
    (case hd_Ratio => first | k_is | (show some _ = some _; k_is))
    (case po_Ratio => first | k_is | (show some _ = some _; k_is))
    (case sa_Ratio => first | k_is | (show some _ = some _; k_is))
    (case ca_Ratio => first | k_is | (show some _ = some _; k_is))
    (case cg_Ratio => first | k_is | (show some _ = some _; k_is))
    (case ct_Ratio => first | k_is | (show some _ = some _; k_is))
    (case lk_Ratio => first | k_is | (show some _ = some _; k_is))
    (case mr_Ratio => rfl)
    (case ty_Ratio => first | k_is | (show some _ = some _; k_is))
    (case rd_Ratio => first | k_is | (show some _ = some _; k_is))
    (case gg_Ratio => first | k_is | (show some _ = some _; k_is))
    (case na_Ratio_top => first | k_is | (show some _ = some _; k_is))
    (case na_Ratio_bottom => first | k_is | (show some _ = some _; k_is))
    (case mi_Ratio => first | k_is | (show some _ = some _; k_is))
    (case kc_Ratio => first | k_is | (show some _ = some _; k_is))
    (case g_Pool => first | k_is | (show some _ = some _; k_is))
    (case pg_Pool => first | k_is | (show some _ = some _; k_is))
    (case hd_Pool => first | k_is | (show some _ = some _; k_is))
    (case po_Pool => first | k_is | (show some _ = some _; k_is))
    (case sa_Pool => first | k_is | (show some _ = some _; k_is))
    (case ca_Pool => first | k_is | (show some _ = some _; k_is))
    (case cg_Pool => first | k_is | (show some _ = some _; k_is))
    (case ct_Pool => first | k_is | (show some _ = some _; k_is))
    (case lk_Pool => first | k_is | (show some _ = some _; k_is))
    (case mr_Pool => rfl)
    (case ty_Pool => first | k_is | (show some _ = some _; k_is))
    (case rd_Pool => first | k_is | (show some _ = some _; k_is))
    (case gg_Pool => first | k_is | (show some _ = some _; k_is))
    (case na_Pool_center => first | k_is | (show some _ = some _; k_is))
    (case na_Pool_amount => first | k_is | (show some _ = some _; k_is))
    (case mi_Pool => first | k_is | (show some _ = some _; k_is))
    (case kc_Pool => first | k_is | (show some _ = some _; k_is))
    (case g_Water => first | k_is | (show some _ = some _; k_is))
    (case pg_Water => first | k_is | (show some _ = some _; k_is))
    (case hd_Water => first | k_is | (show some _ = some _; k_is))
    (case po_Water => first | k_is | (show some _ = some _; k_is))
    (case sa_Water => first | k_is | (show some _ = some _; k_is))
    (case ca_Water => first | k_is | (show some _ = some _; k_is))
    (case cg_Water => first | k_is | (show some _ = some _; k_is))
    (case ct_Water => first | k_is | (show some _ = some _; k_is))
    (case lk_Water => first | k_is | (show some _ = some _; k_is))
    (case mr_Water => rfl)
    (case ty_Water => first | k_is | (show some _ = some _; k_is))
    (case rd_Water => first | k_is | (show some _ = some _; k_is))
    (case gg_Water => first | k_is | (show some _ = some _; k_is))
    (case na_Water_rows => first | k_is | (show some _ = some _; k_is))
    (case mi_Water => first | k_is | (show some _ = some _; k_is))
    (case kc_Water => first | k_is | (show some _ = some _; k_is))
    (case i_InvalidNumber_init => first | k_is | (show some _ = some _; k_is))
    (case t_InvalidNumber_init => first | k_is | (show some _ = some _; k_is))
    (case l_InvalidNumber_init => first | k_is | (show some _ = some _; k_is))
    (case c_InvalidNumber_init => first | k_is | (show some _ = some _; k_is))
    (case k_InvalidNumber_init => first | k_is | (show some _ = some _; k_is))
    (case i_Touching_init => first | k_is | (show some _ = some _; k_is))
    (case t_Touching_init => first | k_is | (show some _ = some _; k_is))
    (case l_Touching_init => first | k_is | (show some _ = some _; k_is))
    (case c_Touching_init => first | k_is | (show some _ = some _; k_is))
    (case k_Touching_init => first | k_is | (show some _ = some _; k_is))
    (case g_is_integer => first | k_is | (show some _ = some _; k_is))
    (case l_is_integer => first | k_is | (show some _ = some _; k_is))
    (case c_is_integer => first | k_is | (show some _ = some _; k_is))
    (case k_is_integer => first | k_is | (show some _ = some _; k_is))
    (case g_is_number => first | k_is | (show some _ = some _; k_is))
    (case l_is_number => first | k_is | (show some _ = some _; k_is))
    (case c_is_number => first | k_is | (show some _ = some _; k_is))
    (case k_is_number => first | k_is | (show some _ = some _; k_is))
    (case g_as_ratio => first | k_is | (show some _ = some _; k_is))
    (case l_as_ratio => first | k_is | (show some _ = some _; k_is))
    (case c_as_ratio => first | k_is | (show some _ = some _; k_is))
    (case k_as_ratio => first | k_is | (show some _ = some _; k_is))
    (case g_common_divisor => first | k_is | (show some _ = some _; k_is))
    (case l_common_divisor => first | k_is | (show some _ = some _; k_is))
    (case c_common_divisor => first | k_is | (show some _ = some _; k_is))
    (case k_common_divisor => first | k_is | (show some _ = some _; k_is))
    (case f_Ratio_init => first | k_is | (show some _ = some _; k_is))
    (case t_Ratio_init => first | k_is | (show some _ = some _; k_is))
    (case l_Ratio_init => first | k_is | (show some _ = some _; k_is))
    (case c_Ratio_init => first | k_is | (show some _ = some _; k_is))
    (case k_Ratio_init => first | k_is | (show some _ = some _; k_is))
    (case dt_Ratio_init => first | k_is | (show some _ = some _; k_is))
    (case f_Ratio_over => first | k_is | (show some _ = some _; k_is))
    (case t_Ratio_over => first | k_is | (show some _ = some _; k_is))
    (case l_Ratio_over => first | k_is | (show some _ = some _; k_is))
    (case c_Ratio_over => first | k_is | (show some _ = some _; k_is))
    (case k_Ratio_over => first | k_is | (show some _ = some _; k_is))
    (case f_Ratio_str => first | k_is | (show some _ = some _; k_is))
    (case t_Ratio_str => first | k_is | (show some _ = some _; k_is))
    (case l_Ratio_str => first | k_is | (show some _ = some _; k_is))
    (case c_Ratio_str => first | k_is | (show some _ = some _; k_is))
    (case k_Ratio_str => first | k_is | (show some _ = some _; k_is))
    (case f_Ratio_neg => first | k_is | (show some _ = some _; k_is))
    (case t_Ratio_neg => first | k_is | (show some _ = some _; k_is))
    (case l_Ratio_neg => first | k_is | (show some _ = some _; k_is))
    (case c_Ratio_neg => first | k_is | (show some _ = some _; k_is))
    (case k_Ratio_neg => first | k_is | (show some _ = some _; k_is))
    (case f_Ratio_add => first | k_is | (show some _ = some _; k_is))
    (case t_Ratio_add => first | k_is | (show some _ = some _; k_is))
    (case l_Ratio_add => first | k_is | (show some _ = some _; k_is))
    (case c_Ratio_add => first | k_is | (show some _ = some _; k_is))
    (case k_Ratio_add => first | k_is | (show some _ = some _; k_is))
    (case f_Ratio_radd => first | k_is | (show some _ = some _; k_is))
    (case t_Ratio_radd => first | k_is | (show some _ = some _; k_is))
    (case l_Ratio_radd => first | k_is | (show some _ = some _; k_is))
    (case c_Ratio_radd => first | k_is | (show some _ = some _; k_is))
    (case k_Ratio_radd => first | k_is | (show some _ = some _; k_is))
    (case f_Ratio_sub => first | k_is | (show some _ = some _; k_is))
    (case t_Ratio_sub => first | k_is | (show some _ = some _; k_is))
    (case l_Ratio_sub => first | k_is | (show some _ = some _; k_is))
    (case c_Ratio_sub => first | k_is | (show some _ = some _; k_is))
    (case k_Ratio_sub => first | k_is | (show some _ = some _; k_is))
    (case f_Ratio_rsub => first | k_is | (show some _ = some _; k_is))
    (case t_Ratio_rsub => first | k_is | (show some _ = some _; k_is))
    (case l_Ratio_rsub => first | k_is | (show some _ = some _; k_is))
    (case c_Ratio_rsub => first | k_is | (show some _ = some _; k_is))
    (case k_Ratio_rsub => first | k_is | (show some _ = some _; k_is))
    (case f_Ratio_le => first | k_is | (show some _ = some _; k_is))
    (case t_Ratio_le => first | k_is | (show some _ = some _; k_is))
    (case l_Ratio_le => first | k_is | (show some _ = some _; k_is))
    (case c_Ratio_le => first | k_is | (show some _ = some _; k_is))
    (case k_Ratio_le => first | k_is | (show some _ = some _; k_is))
    (case f_Ratio_ge => first | k_is | (show some _ = some _; k_is))
    (case t_Ratio_ge => first | k_is | (show some _ = some _; k_is))
    (case l_Ratio_ge => first | k_is | (show some _ = some _; k_is))
    (case c_Ratio_ge => first | k_is | (show some _ = some _; k_is))
    (case k_Ratio_ge => first | k_is | (show some _ = some _; k_is))
    (case f_Pool_init => first | k_is | (show some _ = some _; k_is))
    (case t_Pool_init => first | k_is | (show some _ = some _; k_is))
    (case l_Pool_init => first | k_is | (show some _ = some _; k_is))
    (case c_Pool_init => first | k_is | (show some _ = some _; k_is))
    (case k_Pool_init => first | k_is | (show some _ = some _; k_is))
    (case f_Pool_middle => first | k_is | (show some _ = some _; k_is))
    (case pg_Pool_middle => first | k_is | (show some _ = some _; k_is))
    (case pt_Pool_middle => first | k_is | (show some _ = some _; k_is))
    (case pr_Pool_middle => first | k_is | (show some _ = some _; k_is))
    (case l_Pool_middle => first | k_is | (show some _ = some _; k_is))
    (case c_Pool_middle => first | k_is | (show some _ = some _; k_is))
    (case k_Pool_middle => first | k_is | (show some _ = some _; k_is))
    (case f_Pool_volume => first | k_is | (show some _ = some _; k_is))
    (case pg_Pool_volume => first | k_is | (show some _ = some _; k_is))
    (case pt_Pool_volume => first | k_is | (show some _ = some _; k_is))
    (case pr_Pool_volume => first | k_is | (show some _ = some _; k_is))
    (case l_Pool_volume => first | k_is | (show some _ = some _; k_is))
    (case c_Pool_volume => first | k_is | (show some _ = some _; k_is))
    (case k_Pool_volume => first | k_is | (show some _ = some _; k_is))
    (case f_Pool_left => first | k_is | (show some _ = some _; k_is))
    (case pg_Pool_left => first | k_is | (show some _ = some _; k_is))
    (case pt_Pool_left => first | k_is | (show some _ = some _; k_is))
    (case pr_Pool_left => first | k_is | (show some _ = some _; k_is))
    (case l_Pool_left => first | k_is | (show some _ = some _; k_is))
    (case c_Pool_left => first | k_is | (show some _ = some _; k_is))
    (case k_Pool_left => first | k_is | (show some _ = some _; k_is))
    (case f_Pool_right => first | k_is | (show some _ = some _; k_is))
    (case pg_Pool_right => first | k_is | (show some _ = some _; k_is))
    (case pt_Pool_right => first | k_is | (show some _ = some _; k_is))
    (case pr_Pool_right => first | k_is | (show some _ = some _; k_is))
    (case l_Pool_right => first | k_is | (show some _ = some _; k_is))
    (case c_Pool_right => first | k_is | (show some _ = some _; k_is))
    (case k_Pool_right => first | k_is | (show some _ = some _; k_is))
    (case f_Pool_repr => first | k_is | (show some _ = some _; k_is))
    (case t_Pool_repr => first | k_is | (show some _ = some _; k_is))
    (case l_Pool_repr => first | k_is | (show some _ = some _; k_is))
    (case c_Pool_repr => first | k_is | (show some _ = some _; k_is))
    (case k_Pool_repr => first | k_is | (show some _ = some _; k_is))
    (case f_Water_init => first | k_is | (show some _ = some _; k_is))
    (case t_Water_init => first | k_is | (show some _ = some _; k_is))
    (case l_Water_init => first | k_is | (show some _ = some _; k_is))
    (case c_Water_init => first | k_is | (show some _ = some _; k_is))
    (case k_Water_init => first | k_is | (show some _ = some _; k_is))
    (case dt_Water_init => first | k_is | (show some _ = some _; k_is))
    (case dz_Water_init => first | k_is | (show some _ = some _; k_is))
    (case f_Water_len => first | k_is | (show some _ = some _; k_is))
    (case t_Water_len => first | k_is | (show some _ = some _; k_is))
    (case l_Water_len => first | k_is | (show some _ = some _; k_is))
    (case c_Water_len => first | k_is | (show some _ = some _; k_is))
    (case k_Water_len => first | k_is | (show some _ = some _; k_is))
    (case f_Water_getitem => first | k_is | (show some _ = some _; k_is))
    (case t_Water_getitem => first | k_is | (show some _ = some _; k_is))
    (case fi_Water_getitem => first | k_is | (show some _ = some _; k_is))
    (case l_Water_getitem => first | k_is | (show some _ = some _; k_is))
    (case c_Water_getitem => first | k_is | (show some _ = some _; k_is))
    (case k_Water_getitem => first | k_is | (show some _ = some _; k_is))
    (case g_w_box => first | k_is | (show some _ = some _; k_is))
    (case l_w_box => first | k_is | (show some _ = some _; k_is))
    (case c_w_box => first | k_is | (show some _ = some _; k_is))
    (case k_w_box => first | k_is | (show some _ = some _; k_is))
    (case g_w_take => first | k_is | (show some _ = some _; k_is))
    (case l_w_take => first | k_is | (show some _ = some _; k_is))
    (case c_w_take => first | k_is | (show some _ = some _; k_is))
    (case k_w_take => first | k_is | (show some _ = some _; k_is))
    (case g_w_number => first | k_is | (show some _ = some _; k_is))
    (case l_w_number => first | k_is | (show some _ = some _; k_is))
    (case c_w_number => first | k_is | (show some _ = some _; k_is))
    (case k_w_number => first | k_is | (show some _ = some _; k_is))
    (case g_w_is => first | k_is | (show some _ = some _; k_is))
    (case l_w_is => first | k_is | (show some _ = some _; k_is))
    (case c_w_is => first | k_is | (show some _ = some _; k_is))
    (case k_w_is => first | k_is | (show some _ = some _; k_is))
    (case g_w_pool => first | k_is | (show some _ = some _; k_is))
    (case l_w_pool => first | k_is | (show some _ = some _; k_is))
    (case c_w_pool => first | k_is | (show some _ = some _; k_is))
    (case k_w_pool => first | k_is | (show some _ = some _; k_is))
    (case g_w_moments => first | k_is | (show some _ = some _; k_is))
    (case l_w_moments => first | k_is | (show some _ = some _; k_is))
    (case c_w_moments => first | k_is | (show some _ = some _; k_is))
    (case k_w_moments => first | k_is | (show some _ = some _; k_is))
    (case g_w_is_water => first | k_is | (show some _ = some _; k_is))
    (case l_w_is_water => first | k_is | (show some _ = some _; k_is))
    (case c_w_is_water => first | k_is | (show some _ = some _; k_is))
    (case k_w_is_water => first | k_is | (show some _ = some _; k_is))
    (case g_w_row => first | k_is | (show some _ = some _; k_is))
    (case l_w_row => first | k_is | (show some _ = some _; k_is))
    (case c_w_row => first | k_is | (show some _ = some _; k_is))
    (case k_w_row => first | k_is | (show some _ = some _; k_is))
    (case g_w_long_row => first | k_is | (show some _ = some _; k_is))
    (case l_w_long_row => first | k_is | (show some _ = some _; k_is))
    (case c_w_long_row => first | k_is | (show some _ = some _; k_is))
    (case k_w_long_row => first | k_is | (show some _ = some _; k_is))
    (case g_w_due => first | k_is | (show some _ = some _; k_is))
    (case l_w_due => first | k_is | (show some _ = some _; k_is))
    (case c_w_due => first | k_is | (show some _ = some _; k_is))
    (case k_w_due => first | k_is | (show some _ = some _; k_is))
    (case g_w_made => first | k_is | (show some _ = some _; k_is))
    (case l_w_made => first | k_is | (show some _ = some _; k_is))
    (case c_w_made => first | k_is | (show some _ = some _; k_is))
    (case k_w_made => first | k_is | (show some _ = some _; k_is))
    (case g_law => first | k_is | (show some _ = some _; k_is))
    (case l_law => first | k_is | (show some _ = some _; k_is))
    (case c_law => first | k_is | (show some _ = some _; k_is))
    (case k_law => first | k_is | (show some _ = some _; k_is))
    (case ca_Touching => first | k_is | (show some _ = some _; k_is))
    (case cg_Touching => first | k_is | (show some _ = some _; k_is))
    (case ct_Touching => first | k_is | (show some _ = some _; k_is))
    (case cm_Touching => first | k_is | (show some _ = some _; k_is))
    (case xi_PoolError => first | k_is | (show some _ = some _; k_is))
    (case ks_Touching_Full => first | k_is | (show some _ = some _; k_is))
    (case ks_Touching_InvalidDrop => first | k_is | (show some _ = some _; k_is))
    (case ks_Touching_InvalidNumber => first | k_is | (show some _ = some _; k_is))
    (case ks_Touching_PoolError => first | k_is | (show some _ = some _; k_is))
    (case io_add => first | k_is | (show some _ = some _; k_is))
    (case ior_add => first | k_is | (show some _ = some _; k_is))
    (case nio_add => first | k_is | (show some _ = some _; k_is))
    (case io_sub => first | k_is | (show some _ = some _; k_is))
    (case ior_sub => first | k_is | (show some _ = some _; k_is))
    (case nio_sub => first | k_is | (show some _ = some _; k_is))
    (case fm_Ratio => first | k_is | (show some _ = some _; k_is))
    (case nii_Ratio_add => first | k_is | (show some _ = some _; k_is))
    (case nii_Ratio_sub => first | k_is | (show some _ = some _; k_is))
    (case n_IndexError => first | k_is | (show some _ = some _; k_is))
    (case n_NotImplemented => first | k_is | (show some _ = some _; k_is))
    (case n_TypeError => first | k_is | (show some _ = some _; k_is))
    (case n_abs => first | k_is | (show some _ = some _; k_is))
    (case n_all => first | k_is | (show some _ = some _; k_is))
    (case n_any => first | k_is | (show some _ = some _; k_is))
    (case n_bool => first | k_is | (show some _ = some _; k_is))
    (case n_classmethod => first | k_is | (show some _ = some _; k_is))
    (case n_enumerate => first | k_is | (show some _ = some _; k_is))
    (case n_int => first | k_is | (show some _ = some _; k_is))
    (case n_isinstance => first | k_is | (show some _ = some _; k_is))
    (case n_len => first | k_is | (show some _ = some _; k_is))
    (case n_list => first | k_is | (show some _ = some _; k_is))
    (case n_max => first | k_is | (show some _ = some _; k_is))
    (case n_min => first | k_is | (show some _ = some _; k_is))
    (case n_property => first | k_is | (show some _ = some _; k_is))
    (case n_range => first | k_is | (show some _ = some _; k_is))
    (case n_repr => first | k_is | (show some _ = some _; k_is))
    (case n_str => first | k_is | (show some _ = some _; k_is))
    (case n_sum => first | k_is | (show some _ = some _; k_is))
    (case n_tuple => first | k_is | (show some _ = some _; k_is))
    (case c_DIGITS => first | k_is | (show some _ = some _; k_is))
    (case c_MOST_DIGITS => first | k_is | (show some _ = some _; k_is))
#print axioms PySem.Challenge.cw_poolsmeet_k08_waters_made_holds
