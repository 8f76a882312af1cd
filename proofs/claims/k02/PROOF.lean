import PyProof.Rows.All
import Wide.All
import OpenK.AllK
import Wide.FinOn
import PyProof.EqAt
import PyProof.EqKinds
import PyProof.TupleCall
import HandS.ForMost
import HandS.ForExc
import HandS.ExcInit
import HandS.Wide
import HandS.Flow
import HandS.EndBits
import HandS.ClsMeth
import HandS.Property
import HandS.Defaults
import HandS.IsInst
import HandS.Zip
import HandS.More
import HandS.ExcField
import HandS.SlotsOwn
import KE.KOpsOwn
import HandS.FStr
import HandS.Style
import KE.KCallOwn
import KE.KFmtOwn
import PyProof.StrBlock2
import PySem.Challenge.RW_poolsmeet_k02_ratios_made
set_option Elab.async false
set_option linter.all false
set_option maxRecDepth 100000
/-! An abstract machine over the layer: data as trees, a store of things that change. -/
namespace PM
open PySem L2

/-- a datum: an immutable tree; loc n: the n-th thing of the store -/
inductive D where
  | non | bl (b : Bool) | int (i : Int) | str (x : Str) | ref (a : Addr) | ty (n : String) | loc (n : Nat)
  | tup (ds : List D) | lst (ds : List D) | scr (ds : List D) | exn (a dd : Addr) (ns : List Str) (ds : List D) | obj (C : Addr) (ns : List Str) (ds : List D)
/-- a thing of the store -/
inductive M where
  | lst (ds : List D) | ins (C : Addr) (ns : List Str) (ds : List D) | gone | box

section
variable (K : PySem.W.Frag) (L : List Addr) (G : Hp)
mutual
def Rep : D → V → Prop
  | .non, v => v = .non
  | .bl b, v => v = .bl b
  | .int i, v => v = .int i
  | .str x, v => v = .str x
  | .ref a, v => v = .ref a
  | .ty n, v => v = .ty n
  | .loc n, v => ∃ a, L[n]? = some a ∧ v = .ref a
  | .tup ds, v => ∃ a vs, v = .ref a ∧ SqT K G a vs ∧ Reps ds vs
  | .lst ds, v => ∃ a vs, v = .ref a ∧ G a = some (.lst vs) ∧ Reps ds vs
  | .scr ds, v => ∃ a vs, v = .ref a ∧ SqL K G a vs ∧ Reps ds vs
  | .exn a dd ns ds, v => ∃ vs, v = .ref a ∧ G dd = some (.xd (ns.zip vs)) ∧ ns.length = ds.length ∧ Reps ds vs
  | .obj C ns ds, v => ∃ a dx vs, v = .ref a ∧ G a = some (.ins C dx (ns.zip vs)) ∧ ns.length = ds.length ∧ Reps ds vs
def Reps : List D → List V → Prop
  | [], vs => vs = []
  | d :: ds, vs => ∃ v r, vs = v :: r ∧ Rep d v ∧ Reps ds r
end
end

theorem Same.rd {H H' : Hp} {a : Addr} {u : HO} (e : Same H H') (h : Rd H a u) : Rd H' a u := by
  rcases h with h | ⟨o, h⟩
  · exact .inl (e _ _ h)
  · exact .inr ⟨o, e _ _ h⟩
theorem Same.sqT {K : PySem.W.Frag} {H H' : Hp} {a : Addr} {xs : List V} (e : Same H H') (h : SqT K H a xs) : SqT K H' a xs := by
  rcases h with h | h
  · exact .inl (Same.rd e h)
  · exact .inr h
theorem Same.sqL {K : PySem.W.Frag} {H H' : Hp} {a : Addr} {xs : List V} (e : Same H H') (h : SqL K H a xs) : SqL K H' a xs := by
  rcases h with h | h
  · exact .inl (Same.rd e h)
  · exact .inr h
/-- the places of the store stay -/
def Pre (L L' : List Addr) : Prop := ∀ (n : Nat) a, L[n]? = some a → L'[n]? = some a
theorem Pre.refl (L : List Addr) : Pre L L := fun _ _ h => h
theorem Pre.trans {L L1 L2 : List Addr} (a : Pre L L1) (b : Pre L1 L2) : Pre L L2 := fun n x h => b n x (a n x h)
theorem Pre.app {L r : List Addr} : Pre L (L ++ r) := fun n a h => by
  rw [List.getElem?_append_left (List.getElem?_eq_some_iff.mp h).1]
  exact h

section
variable {K : PySem.W.Frag} {L L' : List Addr} {G G' : Hp}
mutual
theorem Rep.mono (hl : Pre L L') (hg : Same G G') : ∀ {d : D} {v : V}, Rep K L G d v → Rep K L' G' d v
  | .non, _, h => by simp only [Rep] at h ⊢; exact h
  | .bl _, _, h => by simp only [Rep] at h ⊢; exact h
  | .int _, _, h => by simp only [Rep] at h ⊢; exact h
  | .str _, _, h => by simp only [Rep] at h ⊢; exact h
  | .ref _, _, h => by simp only [Rep] at h ⊢; exact h
  | .ty _, _, h => by simp only [Rep] at h ⊢; exact h
  | .loc n, _, h => by
    simp only [Rep] at h ⊢
    obtain ⟨a, e, r⟩ := h
    exact ⟨a, hl n a e, r⟩
  | .tup ds, _, h => by
    simp only [Rep] at h ⊢
    obtain ⟨a, vs, e, q, r⟩ := h
    exact ⟨a, vs, e, Same.sqT hg q, Reps.mono hl hg r⟩
  | .lst ds, _, h => by
    simp only [Rep] at h ⊢
    obtain ⟨a, vs, e, q, r⟩ := h
    exact ⟨a, vs, e, hg _ _ q, Reps.mono hl hg r⟩
  | .scr ds, _, h => by
    simp only [Rep] at h ⊢
    obtain ⟨a, vs, e, q, r⟩ := h
    exact ⟨a, vs, e, Same.sqL hg q, Reps.mono hl hg r⟩
  | .exn a dd ns ds, _, h => by
    simp only [Rep] at h ⊢
    obtain ⟨vs, e, q, z, r⟩ := h
    exact ⟨vs, e, hg _ _ q, z, Reps.mono hl hg r⟩
  | .obj C ns ds, _, h => by
    simp only [Rep] at h ⊢
    obtain ⟨a, dx, vs, e, q, z, r⟩ := h
    exact ⟨a, dx, vs, e, hg _ _ q, z, Reps.mono hl hg r⟩
theorem Reps.mono (hl : Pre L L') (hg : Same G G') : ∀ {ds : List D} {vs : List V}, Reps K L G ds vs → Reps K L' G' ds vs
  | [], _, h => by simp only [Reps] at h ⊢; exact h
  | d :: ds, _, h => by
    simp only [Reps] at h ⊢
    obtain ⟨v, r, e, h1, h2⟩ := h
    exact ⟨v, r, e, Rep.mono hl hg h1, Reps.mono hl hg h2⟩
end
theorem Reps.length : ∀ {ds : List D} {vs : List V}, Reps K L G ds vs → vs.length = ds.length
  | [], _, h => by simp only [Reps] at h; subst h; rfl
  | d :: ds, _, h => by
    simp only [Reps] at h
    obtain ⟨v, r, e, _, h2⟩ := h
    subst e
    simp [Reps.length h2]
theorem Reps.get : ∀ {ds : List D} {vs : List V} {i : Nat} {d : D}, Reps K L G ds vs → ds[i]? = some d → ∃ v, vs[i]? = some v ∧ Rep K L G d v
  | [], _, i, d, _, e => by simp at e
  | x :: ds, _, 0, d, h, e => by
    simp only [Reps] at h
    obtain ⟨v, r, rfl, h1, _⟩ := h
    simp only [List.getElem?_cons_zero, Option.some.injEq] at e
    subst e
    exact ⟨v, rfl, h1⟩
  | x :: ds, _, i + 1, d, h, e => by
    simp only [Reps] at h
    obtain ⟨v, r, rfl, _, h2⟩ := h
    simp only [List.getElem?_cons_succ] at e ⊢
    exact Reps.get h2 e
theorem Reps.nil : Reps K L G [] [] := by simp only [Reps]
theorem Reps.cons {d : D} {ds : List D} {v : V} {vs : List V} (h : Rep K L G d v) (r : Reps K L G ds vs) : Reps K L G (d :: ds) (v :: vs) := by
  simp only [Reps]
  exact ⟨v, vs, rfl, h, r⟩
theorem Reps.append : ∀ {ds es : List D} {vs us : List V}, Reps K L G ds vs → Reps K L G es us → Reps K L G (ds ++ es) (vs ++ us)
  | [], _, _, _, h, r => by simp only [Reps] at h; subst h; exact r
  | d :: ds, _, _, _, h, r => by
    simp only [Reps] at h
    obtain ⟨v, q, rfl, h1, h2⟩ := h
    exact Reps.cons h1 (Reps.append h2 r)
theorem Reps.inv_nil {vs : List V} (h : Reps K L G [] vs) : vs = [] := by simp only [Reps] at h; exact h
theorem Reps.inv_cons {d : D} {ds : List D} {vs : List V} (h : Reps K L G (d :: ds) vs) : ∃ v r, vs = v :: r ∧ Rep K L G d v ∧ Reps K L G ds r := by simp only [Reps] at h; exact h
theorem Reps.set {d : D} {v : V} (r : Rep K L G d v) : ∀ {ds : List D} {vs : List V} (i : Nat), Reps K L G ds vs → Reps K L G (ds.set i d) (vs.set i v)
  | [], _, _, h => by simp only [Reps] at h; subst h; simp [Reps.nil]
  | x :: ds, _, 0, h => by
    obtain ⟨u, q, rfl, h1, h2⟩ := h.inv_cons
    exact Reps.cons r h2
  | x :: ds, _, i + 1, h => by
    obtain ⟨u, q, rfl, h1, h2⟩ := h.inv_cons
    exact Reps.cons h1 (Reps.set r i h2)
/-- by places -/
theorem Reps.of_get : ∀ {ds : List D} {vs : List V}, vs.length = ds.length → (∀ (i : Nat) d v, ds[i]? = some d → vs[i]? = some v → Rep K L G d v) → Reps K L G ds vs
  | [], [], _, _ => Reps.nil
  | d :: ds, v :: vs, hl, h => Reps.cons (h 0 d v rfl rfl) (Reps.of_get (by simpa using hl) fun i d v e1 e2 => h (i + 1) d v (by simpa using e1) (by simpa using e2))
  | [], _ :: _, hl, _ => by simp at hl
  | _ :: _, [], hl, _ => by simp at hl
end
theorem rep_non {K L G v} : Rep K L G .non v ↔ v = .non := by simp only [Rep]
theorem rep_bl {K L G b v} : Rep K L G (.bl b) v ↔ v = .bl b := by simp only [Rep]
theorem rep_int {K L G i v} : Rep K L G (.int i) v ↔ v = .int i := by simp only [Rep]
theorem rep_str {K L G i v} : Rep K L G (.str i) v ↔ v = .str i := by simp only [Rep]
theorem rep_ref {K L G i v} : Rep K L G (.ref i) v ↔ v = .ref i := by simp only [Rep]
theorem rep_ty {K L G i v} : Rep K L G (.ty i) v ↔ v = .ty i := by simp only [Rep]
theorem rep_loc {K L G n v} : Rep K L G (.loc n) v ↔ ∃ a, L[n]? = some a ∧ v = .ref a := by simp only [Rep]
theorem rep_tup {K L G ds v} : Rep K L G (.tup ds) v ↔ ∃ a vs, v = .ref a ∧ SqT K G a vs ∧ Reps K L G ds vs := by simp only [Rep]
theorem rep_lst {K L G ds v} : Rep K L G (.lst ds) v ↔ ∃ a vs, v = .ref a ∧ G a = some (.lst vs) ∧ Reps K L G ds vs := by simp only [Rep]
theorem rep_scr {K L G ds v} : Rep K L G (.scr ds) v ↔ ∃ a vs, v = .ref a ∧ SqL K G a vs ∧ Reps K L G ds vs := by simp only [Rep]
theorem rep_exn {K L G a dd ns ds v} : Rep K L G (.exn a dd ns ds) v ↔ ∃ vs, v = .ref a ∧ G dd = some (.xd (ns.zip vs)) ∧ ns.length = ds.length ∧ Reps K L G ds vs := by simp only [Rep]
theorem rep_obj {K L G C ns ds v} : Rep K L G (.obj C ns ds) v ↔ ∃ a dx vs, v = .ref a ∧ G a = some (.ins C dx (ns.zip vs)) ∧ ns.length = ds.length ∧ Reps K L G ds vs := by simp only [Rep]

/-! ### locs below a bound -/
mutual
def D.lo (n : Nat) : D → Bool
  | .loc m => decide (m < n)
  | .tup ds => D.los n ds
  | .lst ds => D.los n ds
  | .scr ds => D.los n ds
  | .exn _ _ _ ds => D.los n ds
  | .obj _ _ ds => D.los n ds
  | .non => true
  | .bl _ => true
  | .int _ => true
  | .str _ => true
  | .ref _ => true
  | .ty _ => true
def D.los (n : Nat) : List D → Bool
  | [] => true
  | d :: ds => D.lo n d && D.los n ds
end
mutual
theorem D.lo_mono {n m : Nat} (h : n ≤ m) : ∀ {d : D}, D.lo n d = true → D.lo m d = true
  | .loc k, e => by
    simp only [D.lo, decide_eq_true_eq] at e ⊢
    omega
  | .tup ds, e => by simp only [D.lo] at e ⊢; exact D.los_mono h e
  | .lst ds, e => by simp only [D.lo] at e ⊢; exact D.los_mono h e
  | .scr ds, e => by simp only [D.lo] at e ⊢; exact D.los_mono h e
  | .exn _ _ _ ds, e => by simp only [D.lo] at e ⊢; exact D.los_mono h e
  | .obj _ _ ds, e => by simp only [D.lo] at e ⊢; exact D.los_mono h e
  | .non, e => by simp only [D.lo]
  | .bl _, e => by simp only [D.lo]
  | .int _, e => by simp only [D.lo]
  | .str _, e => by simp only [D.lo]
  | .ref _, e => by simp only [D.lo]
  | .ty _, e => by simp only [D.lo]
theorem D.los_mono {n m : Nat} (h : n ≤ m) : ∀ {ds : List D}, D.los n ds = true → D.los m ds = true
  | [], _ => by simp only [D.los]
  | d :: ds, e => by
    simp only [D.los, Bool.and_eq_true] at e ⊢
    exact ⟨D.lo_mono h e.1, D.los_mono h e.2⟩
end
section
variable {K : PySem.W.Frag} {L : List Addr} {G : Hp} {n : Nat}
mutual
theorem Rep.cut : ∀ {d : D} {v : V}, Rep K L G d v → D.lo n d = true → Rep K (L.take n) G d v
  | .non, _, h, _ => by simp only [Rep] at h ⊢; exact h
  | .bl _, _, h, _ => by simp only [Rep] at h ⊢; exact h
  | .int _, _, h, _ => by simp only [Rep] at h ⊢; exact h
  | .str _, _, h, _ => by simp only [Rep] at h ⊢; exact h
  | .ref _, _, h, _ => by simp only [Rep] at h ⊢; exact h
  | .ty _, _, h, _ => by simp only [Rep] at h ⊢; exact h
  | .loc m, _, h, b => by
    simp only [D.lo, decide_eq_true_eq] at b
    simp only [Rep] at h ⊢
    obtain ⟨a, e, r⟩ := h
    exact ⟨a, by rw [List.getElem?_take_of_lt b]; exact e, r⟩
  | .tup ds, _, h, b => by
    simp only [D.lo] at b
    simp only [Rep] at h ⊢
    obtain ⟨a, vs, e, q, r⟩ := h
    exact ⟨a, vs, e, q, Reps.cut r b⟩
  | .lst ds, _, h, b => by
    simp only [D.lo] at b
    simp only [Rep] at h ⊢
    obtain ⟨a, vs, e, q, r⟩ := h
    exact ⟨a, vs, e, q, Reps.cut r b⟩
  | .scr ds, _, h, b => by
    simp only [D.lo] at b
    simp only [Rep] at h ⊢
    obtain ⟨a, vs, e, q, r⟩ := h
    exact ⟨a, vs, e, q, Reps.cut r b⟩
  | .exn a dd ns ds, _, h, b => by
    simp only [D.lo] at b
    simp only [Rep] at h ⊢
    obtain ⟨vs, e, q, z, r⟩ := h
    exact ⟨vs, e, q, z, Reps.cut r b⟩
  | .obj C ns ds, _, h, b => by
    simp only [D.lo] at b
    simp only [Rep] at h ⊢
    obtain ⟨a, dx, vs, e, q, z, r⟩ := h
    exact ⟨a, dx, vs, e, q, z, Reps.cut r b⟩
theorem Reps.cut : ∀ {ds : List D} {vs : List V}, Reps K L G ds vs → D.los n ds = true → Reps K (L.take n) G ds vs
  | [], _, h, _ => by simp only [Reps] at h ⊢; exact h
  | d :: ds, _, h, b => by
    simp only [D.los, Bool.and_eq_true] at b
    simp only [Reps] at h ⊢
    obtain ⟨v, r, e, h1, h2⟩ := h
    exact ⟨v, r, e, Rep.cut h1 b.1, Reps.cut h2 b.2⟩
end
end
def M.lo (n : Nat) : M → Bool
  | .lst ds => D.los n ds
  | .ins _ _ ds => D.los n ds
  | .gone => true
  | .box => true

/-! ### the state -/
def MAt (K : PySem.W.Frag) (L : List Addr) (G H : Hp) (a : Addr) : M → Prop
  | .lst ds => ∃ vs, H a = some (.lst vs) ∧ Reps K L G ds vs
  | .ins C ns ds => ∃ dx vs, H a = some (.ins C dx (ns.zip vs)) ∧ ns.length = ds.length ∧ Reps K L G ds vs
  | .gone => True
  | .box => ∃ i j k : Int, H a = some (.lst [.int i, .int j, .int k])
structure Ok (K : PySem.W.Frag) (L : List Addr) (G H : Hp) (μ : List M) : Prop where
  sub : Same G H
  len : L.length = μ.length
  nd : L.Nodup
  off : ∀ a ∈ L, G a = none
  liv : ∀ a ∈ L, ∃ o, H a = some o
  at_ : ∀ (n : Nat) a m, L[n]? = some a → μ[n]? = some m → MAt K L G H a m
structure RepS (K : PySem.W.Frag) (L : List Addr) (G : Hp) (ρ : List (Option D)) (σ : St) : Prop where
  len : σ.length = ρ.length
  at_ : ∀ (i : Nat) d, ρ[i]? = some (some d) → ∃ v, σ[i]? = some (some v) ∧ Rep K L G d v
structure Step (L : List Addr) (G H : Hp) (L' : List Addr) (G' H' : Hp) : Prop where
  pre : Pre L L'
  gs : Same G G'
  hs : ∀ b o, H b = some o → b ∉ L → H' b = some o
  fr : ∀ a ∈ L', a ∈ L ∨ H a = none
  nn : ∀ b o, H b = some o → ∃ o', H' b = some o'
  gf : ∀ b o, G' b = some o → G b = some o ∨ H b = none
theorem Step.refl (L : List Addr) (G H : Hp) : Step L G H L G H := ⟨.refl _, .refl _, fun _ _ h _ => h, fun _ h => .inl h, fun _ o h => ⟨o, h⟩, fun _ _ h => .inl h⟩
theorem Step.nope {L L' : List Addr} {G H G' H' : Hp} (s : Step L G H L' G' H') {b : Addr} (h : H' b = Option.none) : H b = Option.none := by
  cases e : H b with
  | none => rfl
  | some o =>
    obtain ⟨o', q⟩ := s.nn b o e
    rw [h] at q
    cases q
theorem Step.trans {L L1 L2 : List Addr} {G H G1 H1 G2 H2 : Hp} (a : Step L G H L1 G1 H1) (b : Step L1 G1 H1 L2 G2 H2) : Step L G H L2 G2 H2 where
  pre := a.pre.trans b.pre
  gs := a.gs.trans b.gs
  hs := fun c o h n => b.hs c o (a.hs c o h n) fun z => (a.fr c z).elim n fun q => by rw [q] at h; cases h
  fr := fun c z => by
    rcases b.fr c z with q | q
    · exact a.fr c q
    · exact .inr (a.nope q)
  nn := fun c o h => by
    obtain ⟨o', q⟩ := a.nn c o h
    exact b.nn c o' q
  gf := fun c o h => by
    rcases b.gf c o h with q | q
    · exact a.gf c o q
    · exact .inr (a.nope q)
theorem MAt.mono {K : PySem.W.Frag} {L L' : List Addr} {G G' H : Hp} {a : Addr} {m : M} (hl : Pre L L') (hg : Same G G') (h : MAt K L G H a m) : MAt K L' G' H a m := by
  cases m with
  | lst ds => obtain ⟨vs, e, r⟩ := h; exact ⟨vs, e, r.mono hl hg⟩
  | ins C ns ds => obtain ⟨dx, vs, e, z, r⟩ := h; exact ⟨dx, vs, e, z, r.mono hl hg⟩
  | gone => trivial
  | box => exact h
theorem RepS.mono {K : PySem.W.Frag} {L L' : List Addr} {G G' : Hp} {ρ : List (Option D)} {σ : St} (hl : Pre L L') (hg : Same G G') (h : RepS K L G ρ σ) : RepS K L' G' ρ σ :=
  ⟨h.len, fun i d e => let ⟨v, e', r⟩ := h.at_ i d e; ⟨v, e', r.mono hl hg⟩⟩
theorem RepS.step {K : PySem.W.Frag} {L L' : List Addr} {G H G' H' : Hp} {ρ : List (Option D)} {σ : St} (h : RepS K L G ρ σ) (s : Step L G H L' G' H') : RepS K L' G' ρ σ := h.mono s.pre s.gs
theorem Rep.step {K : PySem.W.Frag} {L L' : List Addr} {G H G' H' : Hp} {d : D} {v : V} (h : Rep K L G d v) (s : Step L G H L' G' H') : Rep K L' G' d v := h.mono s.pre s.gs
theorem Reps.step {K : PySem.W.Frag} {L L' : List Addr} {G H G' H' : Hp} {d : List D} {v : List V} (h : Reps K L G d v) (s : Step L G H L' G' H') : Reps K L' G' d v := h.mono s.pre s.gs
theorem RepS.set {K : PySem.W.Frag} {L : List Addr} {G : Hp} {ρ : List (Option D)} {σ : St} {d : D} {v : V} (h : RepS K L G ρ σ) (r : Rep K L G d v) (i : Nat) : RepS K L G (ρ.set i (some d)) (σ.set i (some v)) := by
  refine ⟨by simpa using h.len, fun j e hj => ?_⟩
  by_cases hi : i = j
  · subst hi
    by_cases hl : i < ρ.length
    · rw [List.getElem?_set_self hl] at hj
      cases hj
      exact ⟨v, by rw [List.getElem?_set_self (by rw [h.len]; exact hl)], r⟩
    · rw [List.getElem?_eq_none (by simpa using hl)] at hj
      cases hj
  · rw [List.getElem?_set_ne hi] at hj ⊢
    exact h.at_ j e hj
theorem RepS.forget {K : PySem.W.Frag} {L : List Addr} {G : Hp} {ρ ρ' : List (Option D)} {σ : St} (h : RepS K L G ρ σ) (hl : ρ'.length = ρ.length) (hs : ∀ (i : Nat) d, ρ'[i]? = some (some d) → ρ[i]? = some (some d)) : RepS K L G ρ' σ :=
  ⟨h.len.trans hl.symm, fun i d e => h.at_ i d (hs i d e)⟩

theorem mem_ne {L : List Addr} {H : Hp} {p : Addr} (h : ∀ a ∈ L, ∃ o, H a = some o) (hp : H p = none) : ∀ a ∈ L, a ≠ p := fun a ha z => by
  obtain ⟨o, e⟩ := h a ha
  rw [z, hp] at e
  cases e
theorem MAt.heap {K : PySem.W.Frag} {L : List Addr} {G H H' : Hp} {a : Addr} {m : M} (he : H' a = H a) (h : MAt K L G H a m) : MAt K L G H' a m := by
  cases m with
  | lst ds => obtain ⟨vs, e, r⟩ := h; exact ⟨vs, he.trans e, r⟩
  | ins C ns ds => obtain ⟨dx, vs, e, z, r⟩ := h; exact ⟨dx, vs, he.trans e, z, r⟩
  | gone => trivial
  | box => obtain ⟨i, j, k, e⟩ := h; exact ⟨i, j, k, he.trans e⟩
section
variable {K : PySem.W.Frag} {L : List Addr} {G H : Hp} {μ : List M} {p : Addr} {o : HO}
theorem Ok.mem (h : Ok K L G H μ) {n : Nat} {a : Addr} (e : L[n]? = some a) : a ∈ L := List.mem_of_getElem? e
/-- a new thing in the heap that is not told -/
theorem Ok.newH (h : Ok K L G H μ) (hp : H p = none) : Ok K L G (upd H p o) μ ∧ Step L G H L G (upd H p o) := by
  have hL := mem_ne h.liv hp
  have sh : Same H (upd H p o) := fun b u e => by rw [upd_ne (ne_of_none e hp)]; exact e
  refine ⟨⟨h.sub.trans sh, h.len, h.nd, h.off, fun a ha => ?_, fun n a m e1 e2 => ?_⟩, .refl _, .refl _, fun b u e _ => sh b u e, fun a ha => .inl ha, fun b u e => ⟨u, sh b u e⟩, fun b u e => .inl e⟩
  · obtain ⟨u, e⟩ := h.liv a ha
    exact ⟨u, sh _ _ e⟩
  · exact (h.at_ n a m e1 e2).heap (upd_ne (hL a (List.mem_of_getElem? e1)))
/-- what stands in the heap, apart from the store, and did not stand before, is told -/
theorem Ok.tell (h : Ok K L G H μ) (hp : H p = some o) (hn : p ∉ L) : Ok K L (upd G p o) H μ ∧ Same G (upd G p o) := by
  have sg : Same G (upd G p o) := fun b u e => by
    by_cases hb : b = p
    · subst hb
      rw [h.sub _ _ e] at hp
      rw [upd_same]
      exact hp.symm
    · rw [upd_ne hb]
      exact e
  refine ⟨⟨fun b u e => ?_, h.len, h.nd, fun a ha => ?_, h.liv, fun n a m e1 e2 => (h.at_ n a m e1 e2).mono (.refl _) sg⟩, sg⟩
  · by_cases hb : b = p
    · subst hb
      rw [upd_same] at e
      rw [hp]
      exact e
    · rw [upd_ne hb] at e
      exact h.sub _ _ e
  · rw [upd_ne (fun (z : a = p) => hn (by rw [← z]; exact ha))]
    exact h.off a ha
theorem Step.tell {L0 : List Addr} {G0 H0 : Hp} (s : Step L0 G0 H0 L G H) (h0 : H0 p = none) (sg : Same G (upd G p o)) : Step L0 G0 H0 L (upd G p o) H :=
  ⟨s.pre, s.gs.trans sg, s.hs, s.fr, s.nn, fun b u e => by
    by_cases hb : b = p
    · rw [hb]
      exact .inr h0
    · rw [upd_ne hb] at e
      exact s.gf b u e⟩
/-- a new immutable object comes -/
theorem Ok.new (h : Ok K L G H μ) (hp : H p = none) : Ok K L (upd G p o) (upd H p o) μ ∧ Step L G H L (upd G p o) (upd H p o) := by
  obtain ⟨h1, s1⟩ := h.newH (o := o) hp
  obtain ⟨h2, sg⟩ := h1.tell (p := p) (o := o) upd_same fun z => mem_ne h.liv hp p z rfl
  exact ⟨h2, s1.tell hp sg⟩
/-- a thing in the heap that nobody tells of, apart from the store, is changed -/
theorem Ok.poke (h : Ok K L G H μ) (hn : p ∉ L) (hg : G p = none) : Ok K L G (upd H p o) μ := by
  refine ⟨fun b u e => ?_, h.len, h.nd, h.off, fun a ha => ?_, fun n a m e1 e2 => ?_⟩
  · rw [upd_ne (ne_of_none e hg)]
    exact h.sub _ _ e
  · rw [upd_ne (fun (z : a = p) => hn (by rw [← z]; exact ha))]
    exact h.liv a ha
  · exact (h.at_ n a m e1 e2).heap (upd_ne fun (z : a = p) => hn (by rw [← z]; exact List.mem_of_getElem? e1))
theorem Step.poke {L0 : List Addr} {G0 H0 : Hp} (s : Step L0 G0 H0 L G H) (h0 : H0 p = none) : Step L0 G0 H0 L G (upd H p o) :=
  ⟨s.pre, s.gs, fun b u e n => by rw [upd_ne (ne_of_none e h0)]; exact s.hs b u e n, s.fr, fun b u e => by rw [upd_ne (ne_of_none e h0)]; exact s.nn b u e, s.gf⟩
theorem get_last {α : Type} {l : List α} {x y : α} {n : Nat} (h : (l ++ [x])[n]? = some y) : l[n]? = some y ∨ (n = l.length ∧ x = y) := by
  by_cases hn : n < l.length
  · rw [List.getElem?_append_left hn] at h
    exact .inl h
  · rw [List.getElem?_append_right (by omega)] at h
    by_cases e : n - l.length = 0
    · rw [e] at h
      exact .inr ⟨by omega, by simpa using h⟩
    · rw [List.getElem?_eq_none (by simp; omega)] at h
      cases h
/-- a thing that stands in the heap, told by nobody, comes to the store -/
theorem Ok.push (h : Ok K L G H μ) {m : M} (hp : H p = some o) (hn : p ∉ L) (hg : G p = none) (hm : MAt K (L ++ [p]) G H p m) (H0 : Hp) (h0 : H0 p = none) : Ok K (L ++ [p]) G H (μ ++ [m]) := by
  refine ⟨h.sub, by simp [h.len], ?_, fun a ha => ?_, fun a ha => ?_, fun n a m' e1 e2 => ?_⟩
  · rw [List.nodup_append]
    refine ⟨h.nd, by simp, fun a ha b hb z => ?_⟩
    simp only [List.mem_singleton] at hb
    subst hb z
    exact hn ha
  · rcases List.mem_append.mp ha with z | z
    · exact h.off a z
    · simp only [List.mem_singleton] at z
      rw [z]
      exact hg
  · rcases List.mem_append.mp ha with z | z
    · exact h.liv a z
    · simp only [List.mem_singleton] at z
      rw [z]
      exact ⟨_, hp⟩
  · rcases get_last e1 with q | ⟨q1, q2⟩
    · rcases get_last e2 with r | ⟨r1, r2⟩
      · exact (h.at_ n a m' q r).mono .app (.refl _)
      · have : n < L.length := (List.getElem?_eq_some_iff.mp q).1
        rw [h.len] at this
        omega
    · rcases get_last e2 with r | ⟨r1, r2⟩
      · have : n < μ.length := (List.getElem?_eq_some_iff.mp r).1
        rw [← h.len] at this
        omega
      · subst q2 r2
        exact hm
/-- a new thing of the store -/
theorem Ok.alloc (h : Ok K L G H μ) {m : M} (hp : H p = none) (hm : MAt K (L ++ [p]) G (upd H p o) p m) : Ok K (L ++ [p]) G (upd H p o) (μ ++ [m]) ∧ Step L G H (L ++ [p]) G (upd H p o) := by
  obtain ⟨h1, s1⟩ := h.newH (o := o) hp
  refine ⟨h1.push (o := o) upd_same (fun z => mem_ne h.liv hp p z rfl) (Same.free h.sub hp) hm H hp, .app, .refl _, s1.hs, fun a ha => ?_, s1.nn, s1.gf⟩
  rcases List.mem_append.mp ha with z | z
  · exact .inl z
  · simp only [List.mem_singleton] at z
    rw [z]
    exact .inr hp
/-- a thing of the store changes -/
theorem Ok.write (h : Ok K L G H μ) {n : Nat} {a : Addr} {m : M} (e : L[n]? = some a) (hm : MAt K L G (upd H a o) a m) : Ok K L G (upd H a o) (μ.set n m) ∧ Step L G H L G (upd H a o) := by
  have ha := List.mem_of_getElem? e
  have nG : ∀ b u, G b = some u → b ≠ a := fun b u q z => by rw [z, h.off a ha] at q; cases q
  refine ⟨⟨fun b u q => ?_, by simp [h.len], h.nd, h.off, fun b hb => ?_, fun k b m' e1 e2 => ?_⟩, .refl _, .refl _, fun b u q hb => ?_, fun b hb => .inl hb, fun b u q => ?_, fun b u q => .inl q⟩
  · rw [upd_ne (nG b u q)]
    exact h.sub _ _ q
  · by_cases z : b = a
    · rw [z, upd_same]
      exact ⟨_, rfl⟩
    · rw [upd_ne z]
      exact h.liv b hb
  · by_cases hk : n = k
    · subst hk
      rw [e] at e1
      cases e1
      have hn : n < μ.length := by rw [← h.len]; exact (List.getElem?_eq_some_iff.mp e).1
      rw [List.getElem?_set_self hn] at e2
      cases e2
      exact hm
    · rw [List.getElem?_set_ne hk] at e2
      refine (h.at_ k b m' e1 e2).heap (upd_ne fun z => hk ?_)
      subst z
      obtain ⟨h1, q1⟩ := List.getElem?_eq_some_iff.mp e
      obtain ⟨h2, q2⟩ := List.getElem?_eq_some_iff.mp e1
      exact (List.getElem_inj h.nd).mp (q1.trans q2.symm)
  · rw [upd_ne (fun (z : b = a) => hb (by rw [z]; exact ha))]
    exact q
  · by_cases z : b = a
    · rw [z, upd_same]
      exact ⟨_, rfl⟩
    · rw [upd_ne z]
      exact ⟨u, q⟩
theorem mAt_cut {a : Addr} {m : M} {n : Nat} (h : MAt K L G H a m) (b : m.lo n = true) : MAt K (L.take n) G H a m := by
  cases m with
  | lst ds => obtain ⟨vs, e, r⟩ := h; exact ⟨vs, e, r.cut b⟩
  | ins C ns ds => obtain ⟨dx, vs, e, z, r⟩ := h; exact ⟨dx, vs, e, z, r.cut b⟩
  | gone => trivial
  | box => exact h
/-- the last things of the store are left behind -/
theorem Ok.cut {ν : List M} (h : Ok K L G H (μ ++ ν)) (b : μ.all (M.lo μ.length) = true) : Ok K (L.take μ.length) G H μ := by
  have hl : μ.length ≤ L.length := by rw [h.len, List.length_append]; omega
  refine ⟨h.sub, by rw [List.length_take]; omega, h.nd.sublist (List.take_sublist _ _), fun a ha => h.off a (List.mem_of_mem_take ha), fun a ha => h.liv a (List.mem_of_mem_take ha), fun n a m e1 e2 => ?_⟩
  have hn : n < μ.length := (List.getElem?_eq_some_iff.mp e2).1
  rw [List.getElem?_take_of_lt hn] at e1
  refine mAt_cut (h.at_ n a m e1 ?_) (List.all_eq_true.mp b m (List.mem_of_getElem? e2))
  rw [List.getElem?_append_left hn]
  exact e2
theorem Step.cut {L0 : List Addr} {G0 H0 : Hp} {n : Nat} (s : Step L0 G0 H0 L G H) (hn : L0.length ≤ n) : Step L0 G0 H0 (L.take n) G H :=
  ⟨fun k a e => by
    rw [List.getElem?_take_of_lt (Nat.lt_of_lt_of_le (List.getElem?_eq_some_iff.mp e).1 hn)]
    exact s.pre k a e, s.gs, s.hs, fun a ha => s.fr a (List.mem_of_mem_take ha), s.nn, s.gf⟩
end
end PM
set_option Elab.async false
set_option linter.all false
set_option maxRecDepth 100000
namespace PM
open PySem L2
abbrev Env' := List (Option D)

/-! ### readings -/
/-- the state as it is told -/
structure Now (K : PySem.W.Frag) (L : List Addr) (G H : Hp) (μ : List M) (ρ : Env') (σ : St) : Prop where
  ok : Ok K L G H μ
  env : RepS K L G ρ σ
/-- a value comes -/
def Comes (K : PySem.W.Frag) (L : List Addr) (G H : Hp) (d : D) (μ' : List M) (Q : VK) : Prop := ∀ v L' G' H', Step L G H L' G' H' → Ok K L' G' H' μ' → Rep K L' G' d v → Q v H'
def ComesT (K : PySem.W.Frag) (L : List Addr) (G H : Hp) (b : Bool) (μ' : List M) (Q : Bool → Hp → Prop) : Prop := ∀ L' G' H', Step L G H L' G' H' → Ok K L' G' H' μ' → Q b H'
def ComesA (K : PySem.W.Frag) (L : List Addr) (G H : Hp) (ds : List D) (μ' : List M) (Q : List V → Hp → Prop) : Prop := ∀ vs L' G' H', Step L G H L' G' H' → Ok K L' G' H' μ' → Reps K L' G' ds vs → Q vs H'
/-- an exception comes: its class, its fields -/
def XdAt (K : PySem.W.Frag) (L : List Addr) (G H : Hp) (dx : Option Addr) (ns : List Str) (ds : List D) : Prop := ns.length = ds.length ∧ (ns = [] ∨ ∃ a vs, dx = some a ∧ G a = some (.xd (ns.zip vs)) ∧ Reps K L G ds vs)
def ComesX (K : PySem.W.Frag) (L : List Addr) (G H : Hp) (C : Addr) (ns : List Str) (ds : List D) (μ' : List M) (E : XK) : Prop := ∀ dx L' G' H', Step L G H L' G' H' → Ok K L' G' H' μ' → XdAt K L' G' H' dx ns ds → E (.ref C) dx H'
def tV (K : PySem.W.Frag) (ρ : Env') (μ : List M) (d : D) (μ' : List M) : TE := fun σ H Q => ∃ L G, Now K L G H μ ρ σ ∧ Comes K L G H d μ' Q
def tVT (K : PySem.W.Frag) (ρ : Env') (μ : List M) (b : Bool) (μ' : List M) : TT := fun σ H Q => ∃ L G, Now K L G H μ ρ σ ∧ ComesT K L G H b μ' Q
def tVA (K : PySem.W.Frag) (ρ : Env') (μ : List M) (ds : List D) (μ' : List M) : TA := fun σ H Q => ∃ L G, Now K L G H μ ρ σ ∧ ComesA K L G H ds μ' Q
/-- an expression that raises; W: what is wished of exceptions -/
def tX (W : WX) (K : PySem.W.Frag) (ρ : Env') (μ : List M) (C : Addr) (ns : List Str) (ds : List D) (μ' : List M) : St → Hp → Prop := fun σ H => ∃ L G, Now K L G H μ ρ σ ∧ ComesX K L G H C ns ds μ' fun c d H' => W c d σ H'
/-- what a call or an expression comes to -/
inductive FO where
  | ret (d : D) (μ : List M) | exc (C : Addr) (ns : List Str) (ds : List D) (μ : List M)
def CO (W : WX) (K : PySem.W.Frag) (L : List Addr) (G H : Hp) (σ : St) (o : FO) (Q : VK) : Prop :=
  match o with
  | .ret d μ' => Comes K L G H d μ' Q
  | .exc C ns ds μ' => ComesX K L G H C ns ds μ' fun c d H' => W c d σ H'
def tO (W : WX) (K : PySem.W.Frag) (ρ : Env') (μ : List M) (o : FO) : TE := fun σ H Q => ∃ L G, Now K L G H μ ρ σ ∧ CO W K L G H σ o Q
inductive Out where
  | next (ρ : Env') (μ : List M) | ret (d : D) (μ : List M) | brk (ρ : Env') (μ : List M) | cont (ρ : Env') (μ : List M)
  | exc (C : Addr) (ns : List Str) (ds : List D) (ρ : Env') (μ : List M)
def Ends' (K : PySem.W.Frag) (L : List Addr) (G H : Hp) (ρ : Env') (μ : List M) (Q : St → Hp → Prop) : Prop := ∀ σ' L' G' H', Step L G H L' G' H' → Now K L' G' H' μ ρ σ' → Q σ' H'
def Post (W : WX) (K : PySem.W.Frag) (L : List Addr) (G H : Hp) (D : Ends) : Out → Prop
  | .next ρ μ => Ends' K L G H ρ μ D.nx
  | .brk ρ μ => Ends' K L G H ρ μ D.bk
  | .cont ρ μ => Ends' K L G H ρ μ D.ct
  | .ret d μ => Comes K L G H d μ D.rt
  | .exc C ns ds ρ μ => ∀ σ' dx L' G' H', Step L G H L' G' H' → Now K L' G' H' μ ρ σ' → XdAt K L' G' H' dx ns ds → W (.ref C) dx σ' H'
def tS (W : WX) (K : PySem.W.Frag) (ρ : Env') (μ : List M) (o : Out) : TS := fun D σ H => ∃ L G, Now K L G H μ ρ σ ∧ Post W K L G H D o

section
variable {K : PySem.W.Frag} {L L1 L2 : List Addr} {G H G1 H1 G2 H2 : Hp} {μ μ1 μ' : List M} {ρ ρ' : Env'} {σ : St} {d : D} {b : Bool} {ds : List D}
theorem Now.step (n : Now K L G H μ ρ σ) (s : Step L G H L1 G1 H1) (o : Ok K L1 G1 H1 μ1) : Now K L1 G1 H1 μ1 ρ σ := ⟨o, n.env.step s⟩
theorem Comes.step {Q : VK} (c : Comes K L G H d μ' Q) (s : Step L G H L1 G1 H1) : Comes K L1 G1 H1 d μ' Q := fun v L' G' H' s' => c v L' G' H' (s.trans s')
theorem ComesT.step {Q : Bool → Hp → Prop} (c : ComesT K L G H b μ' Q) (s : Step L G H L1 G1 H1) : ComesT K L1 G1 H1 b μ' Q := fun L' G' H' s' => c L' G' H' (s.trans s')
theorem ComesA.step {Q : List V → Hp → Prop} (c : ComesA K L G H ds μ' Q) (s : Step L G H L1 G1 H1) : ComesA K L1 G1 H1 ds μ' Q := fun v L' G' H' s' => c v L' G' H' (s.trans s')
theorem ComesX.step {C : Addr} {ns : List Str} {E : XK} (c : ComesX K L G H C ns ds μ' E) (s : Step L G H L1 G1 H1) : ComesX K L1 G1 H1 C ns ds μ' E := fun v L' G' H' s' => c v L' G' H' (s.trans s')
theorem Ends'.step {Q : St → Hp → Prop} (c : Ends' K L G H ρ μ Q) (s : Step L G H L1 G1 H1) : Ends' K L1 G1 H1 ρ μ Q := fun v L' G' H' s' => c v L' G' H' (s.trans s')
theorem Post.step {W : WX} {D : Ends} {o : Out} (c : Post W K L G H D o) (s : Step L G H L1 G1 H1) : Post W K L1 G1 H1 D o := by
  cases o with
  | next ρ μ => exact Ends'.step c s
  | brk ρ μ => exact Ends'.step c s
  | cont ρ μ => exact Ends'.step c s
  | ret d μ => exact Comes.step c s
  | exc C ns ds ρ μ => exact fun σ' dx L' G' H' s' => c σ' dx L' G' H' (s.trans s')
end
section
variable {X : Cx} {e a b : Expr} {es : List Expr} {pos : Pos}
theorem pe_of {t t' : TE} (h : PE X e t) (w : ∀ σ H Q, t' σ H Q → t σ H Q) : PE X e t' := ⟨fun pins s σ H Q I q => h.run pins s σ H Q I (w _ _ _ q)⟩
theorem pt_of {t t' : TT} (h : PT X e t) (w : ∀ σ H Q, t' σ H Q → t σ H Q) : PT X e t' := ⟨fun pins s σ H Q I q => h.run pins s σ H Q I (w _ _ _ q)⟩
theorem pw_of {t t' : TT} (h : PW X e t) (w : ∀ σ H Q, t' σ H Q → t σ H Q) : PW X e t' := ⟨fun wh pins s σ H Q I q => h.run wh pins s σ H Q I (w _ _ _ q)⟩
theorem pa_of {t t' : TA} (h : PA X es t) (w : ∀ σ H Q, t' σ H Q → t σ H Q) : PA X es t' := ⟨fun pos pins s σ H Q I q => h.run pos pins s σ H Q I (w _ _ _ q)⟩
theorem ps_of {st : Stmt} {t t' : TS} (h : PS X st t) (w : ∀ D σ H, t' D σ H → t D σ H) : PS X st t' := ⟨fun pins s σ H D I q => h.run pins s σ H D I (w _ _ _ q)⟩
theorem pss_of {st : List Stmt} {t t' : TS} (h : PSs X st t) (w : ∀ D σ H, t' D σ H → t D σ H) : PSs X st t' := ⟨fun pins s σ H D I q => h.run pins s σ H D I (w _ _ _ q)⟩
end

/-! ### expressions -/
section
variable {X : Cx} {W : WX} {e a b c : Expr} {es : List Expr} {pos : Pos} {ρ : Env'} {μ μ1 μ2 μ3 : List M} {d da db dc : D} {ds : List D} {x : Str} {i : Nat}
/-- a name by its slot -/
theorem ev_var (i : Nat) (hd : ρ[i]? = some (some d)) (hN : X.N[i]? = some x := by rfl) (hv : Vis X.env.scope x := by first | exact Or.inl rfl | exact Or.inr (Or.inl rfl) | exact Or.inr (Or.inr rfl)) (h1 : (x == ("__debug__" : Str)) = false := by decide)
    (h2 : (x == ("__classdict__" : Str)) = false := by decide) : PE X (.Name x pos) (tV X.K ρ μ d μ) :=
  pe_of (pe_var hN hv h1 h2) fun σ H Q ⟨L, G, n, c⟩ => by
    obtain ⟨v, e, r⟩ := n.env.at_ i d hd
    exact ⟨v, e, c v L G H (.refl _ _ _) n.ok r⟩
/-- a value that leaves the heap as it is -/
theorem tV_const {v : V} {σ : St} {H : Hp} {Q : VK} (h : tV X.K ρ μ d μ σ H Q) (r : ∀ L G, Rep X.K L G d v) : Q v H := by
  obtain ⟨L, G, n, c⟩ := h
  exact c v L G H (.refl _ _ _) n.ok (r L G)
theorem ev_int {i j} : PE X (.Constant (.int i) j pos) (tV X.K ρ μ (.int i) μ) := pe_of pe_int fun _ _ _ h => tV_const h fun _ _ => rep_int.mpr rfl
theorem ev_bl {i j} : PE X (.Constant (.bool i) j pos) (tV X.K ρ μ (.bl i) μ) := pe_of pe_bl fun _ _ _ h => tV_const h fun _ _ => rep_bl.mpr rfl
theorem ev_non {j} : PE X (.Constant .none j pos) (tV X.K ρ μ .non μ) := pe_of pe_non fun _ _ _ h => tV_const h fun _ _ => rep_non.mpr rfl
theorem ev_str {i j} : PE X (.Constant (.str i) j pos) (tV X.K ρ μ (.str i) μ) := pe_of pe_str fun _ _ _ h => tV_const h fun _ _ => rep_str.mpr rfl
/-- a module's name: a constant, a class -/
theorem ev_glob {u : Value} {v : V} (hg : Gl X x) (hm : X.mg x = some u) (r : RelV v u) (rd : ∀ L G, Rep X.K L G d v) (hd : (x == ("__debug__" : Str)) = false := by decide) : PE X (.Name x pos) (tV X.K ρ μ d μ) := pe_of (pe_glob hg hm r hd) fun _ _ _ h => tV_const h rd
/-- a built-in class as a value -/
theorem ev_bty {T : String} (hg : Gl X x) (hm : X.mg x = none) (hv : bootBuiltins x = some (.type T)) (hn : x ≠ "__name__" := by decide) (hd : (x == ("__debug__" : Str)) = false := by decide) : PE X (.Name x pos) (tV X.K ρ μ (.ty T) μ) :=
  pe_of (pe_bltn (v := .ty T) hg hm hv rfl hn hd) fun _ _ _ h => tV_const h fun _ _ => rep_ty.mpr rfl

/-! #### arguments -/
theorem ev_nil : PA X [] (tVA X.K ρ μ [] μ) := pa_of pa_nil fun σ H Q ⟨L, G, n, c⟩ => c [] L G H (.refl _ _ _) n.ok Reps.nil
theorem ev_cons (h1 : PE X e (tV X.K ρ μ d μ1)) (h2 : PA X es (tVA X.K ρ μ1 ds μ2)) (hs : starEach (e :: es) X.env = (false, eval e X.env) :: starEach es X.env := by rfl) : PA X (e :: es) (tVA X.K ρ μ (d :: ds) μ2) :=
  pa_of (pa_cons h1 h2 hs) fun σ H Q ⟨L, G, n, c⟩ => ⟨L, G, n, fun v L1 G1 H1 s1 o1 r1 => ⟨L1, G1, n.step s1 o1, fun vs L2 G2 H2 s2 o2 r2 => c (v :: vs) L2 G2 H2 (s1.trans s2) o2 (Reps.cons (r1.step s2) r2)⟩⟩

/-! #### operators, by values -/
/-- an operation on two data -/
def OpO (X : Cx) (W : WX) (f : Value → Value → Sem Value) (da db : D) (μ : List M) (o : FO) : Prop :=
  ∀ (pins : List (Addr × Obj)) (s : Shared) (σ : St) (H : Hp) (x y : V) (v u : Value) (Q : VK) (L : List Addr) (G : Hp), Inv X pins σ H s → RelV x v → RelV y u → Ok X.K L G H μ → Rep X.K L G da x → Rep X.K L G db y → CO W X.K L G H σ o Q →
    wpAny (model X.prog X.w) X.A (f v u) (EP X pins σ Q) X.xe s
def UnO (X : Cx) (W : WX) (f : Value → Sem Value) (da : D) (μ : List M) (o : FO) : Prop :=
  ∀ (pins : List (Addr × Obj)) (s : Shared) (σ : St) (H : Hp) (x : V) (v : Value) (Q : VK) (L : List Addr) (G : Hp), Inv X pins σ H s → RelV x v → Ok X.K L G H μ → Rep X.K L G da x → CO W X.K L G H σ o Q →
    wpAny (model X.prog X.w) X.A (f v) (EP X pins σ Q) X.xe s
def CallO (X : Cx) (W : WX) (f : List Value → Sem Value) (ds : List D) (μ : List M) (o : FO) : Prop :=
  ∀ (pins : List (Addr × Obj)) (s : Shared) (σ : St) (H : Hp) (xs : List V) (us : List Value) (Q : VK) (L : List Addr) (G : Hp), Inv X pins σ H s → Vals xs us → Ok X.K L G H μ → Reps X.K L G ds xs → CO W X.K L G H σ o Q →
    wpAny (model X.prog X.w) X.A (f us) (EP X pins σ Q) X.xe s
theorem opO_of {f : Value → Value → Sem Value} {r : R2} {o : FO} (h : OpR X f r) (w : ∀ σ x y H Q L G, Ok X.K L G H μ → Rep X.K L G da x → Rep X.K L G db y → CO W X.K L G H σ o Q → r x y H Q) : OpO X W f da db μ o :=
  fun pins s σ H x y v u Q L G I rx ry o r1 r2 c => h pins s σ H x y v u Q I rx ry (w _ _ _ _ _ _ _ o r1 r2 c)
theorem unO_of {f : Value → Sem Value} {r : V → Hp → VK → Prop} {o : FO} (h : UnR X f r) (w : ∀ σ x H Q L G, Ok X.K L G H μ → Rep X.K L G da x → CO W X.K L G H σ o Q → r x H Q) : UnO X W f da μ o :=
  fun pins s σ H x v Q L G I rx o r1 c => h pins s σ H x v Q I rx (w _ _ _ _ _ _ o r1 c)
theorem callO_of {f : Value} {r : List V → Hp → VK → Prop} {o : FO} (h : CallR X f r) (w : ∀ σ xs H Q L G, Ok X.K L G H μ → Reps X.K L G ds xs → CO W X.K L G H σ o Q → r xs H Q) : CallO X W (fun us => call f us) ds μ o :=
  fun pins s σ H x v Q L G I rx o r1 c => h pins s σ H x v Q I rx (w _ _ _ _ _ _ o r1 c)
/-- a value that leaves the heap as it is -/
theorem CO.now {σ : St} {H : Hp} {Q : VK} {L : List Addr} {G : Hp} {v : V} (c : CO W X.K L G H σ (.ret d μ) Q) (o : Ok X.K L G H μ) (r : Rep X.K L G d v) : Q v H := c v L G H (.refl _ _ _) o r
/-- a new object, immutable -/
theorem CO.fresh {σ : St} {H : Hp} {Q : VK} {L : List Addr} {G : Hp} {p : Addr} {u : HO} {v : V} (c : CO W X.K L G H σ (.ret d μ) Q) (o : Ok X.K L G H μ) (hp : H p = none) (r : Rep X.K L (upd G p u) d v) : Q v (upd H p u) :=
  let ⟨o', s'⟩ := o.new (o := u) hp
  c v L _ _ s' o' r
theorem CO.step {σ : St} {H : Hp} {Q : VK} {L : List Addr} {G : Hp} {o : FO} {L1 : List Addr} {G1 H1 : Hp} (c : CO W X.K L G H σ o Q) (s : Step L G H L1 G1 H1) : CO W X.K L1 G1 H1 σ o Q := by
  cases o with
  | ret d μ => exact Comes.step c s
  | exc C ns ds μ => exact ComesX.step (E := fun c d H' => W c d σ H') c s
section
variable {o : FO}
theorem binO (ha : PE X a (tV X.K ρ μ da μ1)) (hb : PE X b (tV X.K ρ μ1 db μ2)) {pins : List (Addr × Obj)} {s : Shared} {σ : St} {H : Hp} {Q : VK} {f : Value → Value → Sem Value} (I : Inv X pins σ H s) (ho : OpO X W f da db μ2 o) (h : tO W X.K ρ μ o σ H Q) :
    wpAny (model X.prog X.w) X.A (eval a X.env) (fun v s₁ => wpAny (model X.prog X.w) X.A (eval b X.env) (fun u s₂ => wpAny (model X.prog X.w) X.A (f v u) (EP X pins σ Q) X.xe s₂) X.xe s₁) X.xe s := by
  obtain ⟨L, G, n, c⟩ := h
  exact binT (R := fun x y H2 => ∃ L2 G2, Ok X.K L2 G2 H2 μ2 ∧ Rep X.K L2 G2 da x ∧ Rep X.K L2 G2 db y ∧ CO W X.K L2 G2 H2 σ o Q) ha hb I
    ⟨L, G, n, fun v L1 G1 H1 s1 o1 r1 => ⟨L1, G1, n.step s1 o1, fun u L2 G2 H2 s2 o2 r2 => ⟨L2, G2, o2, r1.step s2, r2, c.step (s1.trans s2)⟩⟩⟩
    fun v u s2 x y H2 I2 rx ry ⟨L2, G2, o2, r1, r2, c2⟩ => ho pins s2 σ H2 x y v u Q L2 G2 I2 rx ry o2 r1 r2 c2
theorem ev_op {op : Operator} (ha : PE X a (tV X.K ρ μ da μ1)) (hb : PE X b (tV X.K ρ μ1 db μ2)) (ho : OpO X W (binaryOp op) da db μ2 o) : PE X (.BinOp a op b pos) (tO W X.K ρ μ o) :=
  ⟨fun pins s σ H Q I h => wpAny_BinOp (binO ha hb I ho h)⟩
theorem ev_cmp {op : CmpOp} (ha : PE X a (tV X.K ρ μ da μ1)) (hb : PE X b (tV X.K ρ μ1 db μ2)) (ho : OpO X W (compareOp op) da db μ2 o) (hm : behindInMarks op b = false := by first | exact nomark _ | rfl) : PE X (.Compare a [op] [b] pos) (tO W X.K ρ μ o) :=
  ⟨fun pins s σ H Q I h => wpAny_Compare1 (binO ha hb I ho h) hm⟩
theorem ev_un {op : UnaryOp} (ha : PE X a (tV X.K ρ μ da μ1)) (ho : UnO X W (unaryOp op) da μ1 o) : PE X (.UnaryOp op a pos) (tO W X.K ρ μ o) :=
  ⟨fun pins s σ H Q I ⟨L, G, n, c⟩ => PyProof.Rows.UnaryOp_ (thn (ha.run pins s σ H (fun x H1 => ∃ L1 G1, Ok X.K L1 G1 H1 μ1 ∧ Rep X.K L1 G1 da x ∧ CO W X.K L1 G1 H1 σ o Q) I ⟨L, G, n, fun v L1 G1 H1 s1 o1 r1 => ⟨L1, G1, o1, r1, c.step s1⟩⟩) fun v s1 ⟨x, H1, I1, r1, L1, G1, o1, rr, c1⟩ =>
    ho pins s1 σ H1 x v Q L1 G1 I1 r1 o1 rr c1)⟩
end
/-- the first part raises -/
theorem ev_op1 {op : Operator} {C : Addr} {ns : List Str} {dx : List D} (ha : PE X a (tO W X.K ρ μ (.exc C ns dx μ1))) : PE X (.BinOp a op b pos) (tO W X.K ρ μ (.exc C ns dx μ1)) :=
  pe_of (pe_op (r := fun _ _ _ _ => False) (fun _ _ _ _ _ _ _ _ _ _ _ _ z => z.elim) ha (tb := fun _ _ _ => False) ⟨fun _ _ _ _ _ _ z => z.elim⟩) fun σ H Q ⟨L, G, n, c⟩ => ⟨L, G, n, c⟩
theorem ev_op2 {op : Operator} {C : Addr} {ns : List Str} {dx : List D} (ha : PE X a (tV X.K ρ μ da μ1)) (hb : PE X b (tO W X.K ρ μ1 (.exc C ns dx μ2))) : PE X (.BinOp a op b pos) (tO W X.K ρ μ (.exc C ns dx μ2)) :=
  pe_of (pe_op (r := fun _ _ _ _ => False) (fun _ _ _ _ _ _ _ _ _ _ _ _ z => z.elim) ha hb) fun σ H Q ⟨L, G, n, c⟩ => ⟨L, G, n, fun v L1 G1 H1 s1 o1 r1 => ⟨L1, G1, n.step s1 o1, ComesX.step (E := fun c d H' => W c d σ H') c s1⟩⟩
theorem ev_cmp1 {op : CmpOp} {C : Addr} {ns : List Str} {dx : List D} (ha : PE X a (tO W X.K ρ μ (.exc C ns dx μ1))) (hm : behindInMarks op b = false := by first | exact nomark _ | rfl) : PE X (.Compare a [op] [b] pos) (tO W X.K ρ μ (.exc C ns dx μ1)) :=
  pe_of (pe_cmpR (r := fun _ _ _ _ => False) (fun _ _ _ _ _ _ _ _ _ _ _ _ z => z.elim) ha (tb := fun _ _ _ => False) ⟨fun _ _ _ _ _ _ z => z.elim⟩ hm) fun σ H Q ⟨L, G, n, c⟩ => ⟨L, G, n, c⟩

/-! #### tests -/
theorem pe_nev : PE X e (fun _ _ _ => False) := ⟨fun _ _ _ _ _ _ z => z.elim⟩
theorem pt_nev : PT X e (fun _ _ _ => False) := ⟨fun _ _ _ _ _ _ z => z.elim⟩
theorem pw_nev : PW X e (fun _ _ _ => False) := ⟨fun _ _ _ _ _ _ _ z => z.elim⟩
/-- a test that raises -/
def tOT (W : WX) (K : PySem.W.Frag) (ρ : Env') (μ : List M) (C : Addr) (ns : List Str) (dx : List D) (μ' : List M) : TT := fun σ H _ => ∃ L G, Now K L G H μ ρ σ ∧ ComesX K L G H C ns dx μ' fun c d H' => W c d σ H'
section
variable {k k' : Bool}
/-- a test by its value -/
theorem et_val (h : PE X e (tV X.K ρ μ (.bl k) μ1)) (he : ∀ whole, isTrue e X.env whole = (do let v ← whole; standAt e.pos; holding [v] (truthy v)) := by intro _; rfl) : PT X e (tVT X.K ρ μ k μ1) :=
  pt_of (pt_val h he) fun σ H Q ⟨L, G, n, c⟩ => ⟨L, G, n, fun v L1 G1 H1 s1 o1 r1 => ⟨k, rep_bl.mp r1, c L1 G1 H1 s1 o1⟩⟩
theorem et_valX {C : Addr} {ns : List Str} {dx : List D} (h : PE X e (tO W X.K ρ μ (.exc C ns dx μ1))) (he : ∀ whole, isTrue e X.env whole = (do let v ← whole; standAt e.pos; holding [v] (truthy v)) := by intro _; rfl) : PT X e (tOT W X.K ρ μ C ns dx μ1) :=
  pt_of (pt_val h he) fun σ H Q ⟨L, G, n, c⟩ => ⟨L, G, n, c⟩
theorem et_cmp {op : CmpOp} (ha : PE X a (tV X.K ρ μ da μ1)) (hb : PE X b (tV X.K ρ μ1 db μ2)) (ho : OpO X (fun _ _ _ _ => False) (compareOp op) da db μ2 (.ret (.bl k) μ3)) (hm : behindInMarks op b = false := by first | exact nomark _ | rfl) : PT X (.Compare a [op] [b] pos) (tVT X.K ρ μ k μ3) := by
  refine ⟨fun pins s σ H Q I h => ?_⟩
  obtain ⟨L, G, n, c⟩ := h
  refine wpAny_isTrue_Compare1 (thn (binO (Q := fun z H' => z = .bl k ∧ Q k H') ha hb I ho ⟨L, G, n, fun v L' G' H' s' o' r' => ⟨rep_bl.mp r', c L' G' H' s' o'⟩⟩) fun v s1 h1 => thn h1 fun u s2 h2 => thn h2 fun z s3 ⟨y, H3, I3, r3, e3, q3⟩ => ?_) hm
  subst e3
  cases r3
  exact wpAny_truthy_bool ⟨H3, I3, q3⟩
theorem et_cmpX {op : CmpOp} {C : Addr} {ns : List Str} {dx : List D} (ha : PE X a (tO W X.K ρ μ (.exc C ns dx μ1))) (hm : behindInMarks op b = false := by first | exact nomark _ | rfl) : PT X (.Compare a [op] [b] pos) (tOT W X.K ρ μ C ns dx μ1) :=
  pt_of (pt_cmpR (r := fun _ _ _ _ => False) (fun _ _ _ _ _ _ _ _ _ _ _ _ z => z.elim) ha (tb := fun _ _ _ => False) pe_nev hm) fun σ H Q ⟨L, G, n, c⟩ => ⟨L, G, n, c⟩
theorem et_not (h : PT X a (tVT X.K ρ μ k μ1)) : PT X (.UnaryOp .Not a pos) (tVT X.K ρ μ (!k) μ1) :=
  pt_of (pt_not h) fun σ H Q ⟨L, G, n, c⟩ => ⟨L, G, n, fun L1 G1 H1 s1 o1 => c L1 G1 H1 s1 o1⟩
/-- a test under another name of its answer -/
theorem et_eq (h : PT X a (tVT X.K ρ μ k μ1)) (e : k = k') : PT X a (tVT X.K ρ μ k' μ1) := e ▸ h
variable {rest : List Expr}
theorem ew_and1 (h : PT X a (tVT X.K ρ μ k μ1)) : PW X (.BoolOp .And [a] pos) (tVT X.K ρ μ k μ1) := pw_and1 h
theorem ew_or1 (h : PT X a (tVT X.K ρ μ k μ1)) : PW X (.BoolOp .Or [a] pos) (tVT X.K ρ μ k μ1) := pw_or1 h
theorem ew_andT (h : PT X a (tVT X.K ρ μ true μ1)) (hr : PW X (.BoolOp .And (b :: rest) pos) (tVT X.K ρ μ1 k μ2)) : PW X (.BoolOp .And (a :: b :: rest) pos) (tVT X.K ρ μ k μ2) :=
  pw_of (pw_and h hr) fun σ H Q ⟨L, G, n, c⟩ => ⟨L, G, n, fun L1 G1 H1 s1 o1 => iteT ⟨L1, G1, n.step s1 o1, c.step s1⟩⟩
theorem ew_andF (h : PT X a (tVT X.K ρ μ false μ1)) : PW X (.BoolOp .And (a :: b :: rest) pos) (tVT X.K ρ μ false μ1) :=
  pw_of (pw_and h pw_nev) fun σ H Q ⟨L, G, n, c⟩ => ⟨L, G, n, fun L1 G1 H1 s1 o1 => iteF (c L1 G1 H1 s1 o1)⟩
theorem ew_orF (h : PT X a (tVT X.K ρ μ false μ1)) (hr : PW X (.BoolOp .Or (b :: rest) pos) (tVT X.K ρ μ1 k μ2)) : PW X (.BoolOp .Or (a :: b :: rest) pos) (tVT X.K ρ μ k μ2) :=
  pw_of (pw_or h hr) fun σ H Q ⟨L, G, n, c⟩ => ⟨L, G, n, fun L1 G1 H1 s1 o1 => iteF ⟨L1, G1, n.step s1 o1, c.step s1⟩⟩
theorem ew_orT (h : PT X a (tVT X.K ρ μ true μ1)) : PW X (.BoolOp .Or (a :: b :: rest) pos) (tVT X.K ρ μ true μ1) :=
  pw_of (pw_or h pw_nev) fun σ H Q ⟨L, G, n, c⟩ => ⟨L, G, n, fun L1 G1 H1 s1 o1 => iteT (c L1 G1 H1 s1 o1)⟩
/-- both ways at once, where no part writes to the store -/
theorem ew_and (h : PT X a (tVT X.K ρ μ k μ)) (hr : k = true → PW X (.BoolOp .And (b :: rest) pos) (tVT X.K ρ μ k' μ)) : PW X (.BoolOp .And (a :: b :: rest) pos) (tVT X.K ρ μ (k && k') μ) := by
  cases k with
  | true => exact ew_andT h (hr rfl)
  | false => exact ew_andF h
theorem ew_or (h : PT X a (tVT X.K ρ μ k μ)) (hr : k = false → PW X (.BoolOp .Or (b :: rest) pos) (tVT X.K ρ μ k' μ)) : PW X (.BoolOp .Or (a :: b :: rest) pos) (tVT X.K ρ μ (k || k') μ) := by
  cases k with
  | true => exact ew_orT h
  | false => exact ew_orF h (hr rfl)
/-- and, or as values (True, False) -/
theorem ev_one {op} {o : FO} (h : PE X a (tO W X.K ρ μ o)) : PE X (.BoolOp op [a] pos) (tO W X.K ρ μ o) := pe_one h
theorem ev_andT {o : FO} (h : PE X a (tV X.K ρ μ (.bl true) μ1)) (hr : PE X (.BoolOp .And (b :: rest) pos) (tO W X.K ρ μ1 o)) : PE X (.BoolOp .And (a :: b :: rest) pos) (tO W X.K ρ μ o) :=
  pe_of (pe_and h hr) fun σ H Q ⟨L, G, n, c⟩ => ⟨L, G, n, fun v L1 G1 H1 s1 o1 r1 => ⟨true, rep_bl.mp r1, iteT ⟨L1, G1, n.step s1 o1, CO.step c s1⟩⟩⟩
theorem ev_andF (h : PE X a (tV X.K ρ μ (.bl false) μ1)) : PE X (.BoolOp .And (a :: b :: rest) pos) (tV X.K ρ μ (.bl false) μ1) :=
  pe_of (pe_and h pe_nev) fun σ H Q ⟨L, G, n, c⟩ => ⟨L, G, n, fun v L1 G1 H1 s1 o1 r1 => ⟨false, rep_bl.mp r1, iteF (c _ L1 G1 H1 s1 o1 (rep_bl.mpr rfl))⟩⟩
theorem ev_orF {o : FO} (h : PE X a (tV X.K ρ μ (.bl false) μ1)) (hr : PE X (.BoolOp .Or (b :: rest) pos) (tO W X.K ρ μ1 o)) : PE X (.BoolOp .Or (a :: b :: rest) pos) (tO W X.K ρ μ o) :=
  pe_of (pe_or h hr) fun σ H Q ⟨L, G, n, c⟩ => ⟨L, G, n, fun v L1 G1 H1 s1 o1 r1 => ⟨false, rep_bl.mp r1, iteF ⟨L1, G1, n.step s1 o1, CO.step c s1⟩⟩⟩
theorem ev_orT (h : PE X a (tV X.K ρ μ (.bl true) μ1)) : PE X (.BoolOp .Or (a :: b :: rest) pos) (tV X.K ρ μ (.bl true) μ1) :=
  pe_of (pe_or h pe_nev) fun σ H Q ⟨L, G, n, c⟩ => ⟨L, G, n, fun v L1 G1 H1 s1 o1 r1 => ⟨true, rep_bl.mp r1, iteT (c _ L1 G1 H1 s1 o1 (rep_bl.mpr rfl))⟩⟩
theorem ev_and (h : PE X a (tV X.K ρ μ (.bl k) μ)) (hr : k = true → PE X (.BoolOp .And (b :: rest) pos) (tV X.K ρ μ (.bl k') μ)) : PE X (.BoolOp .And (a :: b :: rest) pos) (tV X.K ρ μ (.bl (k && k')) μ) := by
  cases k with
  | true => exact ev_andT (W := fun _ _ _ _ => False) (o := .ret _ _) h (hr rfl)
  | false => exact ev_andF h
theorem ev_or (h : PE X a (tV X.K ρ μ (.bl k) μ)) (hr : k = false → PE X (.BoolOp .Or (b :: rest) pos) (tV X.K ρ μ (.bl k') μ)) : PE X (.BoolOp .Or (a :: b :: rest) pos) (tV X.K ρ μ (.bl (k || k')) μ) := by
  cases k with
  | true => exact ev_orT h
  | false => exact ev_orF (W := fun _ _ _ _ => False) (o := .ret _ _) h (hr rfl)
theorem ev_not (h : PE X a (tV X.K ρ μ (.bl k) μ1)) : PE X (.UnaryOp .Not a pos) (tV X.K ρ μ (.bl (!k)) μ1) :=
  pe_of (pe_not h) fun σ H Q ⟨L, G, n, c⟩ => ⟨L, G, n, fun v L1 G1 H1 s1 o1 r1 => ⟨k, rep_bl.mp r1, c _ L1 G1 H1 s1 o1 (rep_bl.mpr rfl)⟩⟩
theorem ev_eq {o o' : FO} (h : PE X a (tO W X.K ρ μ o)) (e : o = o') : PE X a (tO W X.K ρ μ o') := e ▸ h
/-- a if t else b -/
theorem ev_if {o : FO} (h : PT X c (tVT X.K ρ μ k μ1)) (h1 : k = true → PE X a (tO W X.K ρ μ1 o)) (h2 : k = false → PE X b (tO W X.K ρ μ1 o)) : PE X (.IfExp c a b pos) (tO W X.K ρ μ o) := by
  cases k with
  | true => exact pe_of (pe_ifExp h (h1 rfl) pe_nev) fun σ H Q ⟨L, G, n, c⟩ => ⟨L, G, n, fun L1 G1 H1 s1 o1 => iteT ⟨L1, G1, n.step s1 o1, CO.step c s1⟩⟩
  | false => exact pe_of (pe_ifExp h pe_nev (h2 rfl)) fun σ H Q ⟨L, G, n, c⟩ => ⟨L, G, n, fun L1 G1 H1 s1 o1 => iteF ⟨L1, G1, n.step s1 o1, CO.step c s1⟩⟩
theorem ev_ifX {C : Addr} {ns : List Str} {dx : List D} (h : PT X c (tOT W X.K ρ μ C ns dx μ1)) : PE X (.IfExp c a b pos) (tO W X.K ρ μ (.exc C ns dx μ1)) :=
  pe_of (pe_ifExp h pe_nev pe_nev) fun σ H Q ⟨L, G, n, c⟩ => ⟨L, G, n, c⟩
/-- a op b op' c -/
theorem ev_chain {op op' : CmpOp} (h1 : PE X a (tV X.K ρ μ da μ)) (h2 : PE X b (tV X.K ρ μ db μ)) (ho : OpO X (fun _ _ _ _ => False) (compareOp op) da db μ (.ret (.bl k) μ)) (h3 : PE X c (tV X.K ρ μ dc μ)) (ho' : OpO X (fun _ _ _ _ => False) (compareOp op') db dc μ (.ret (.bl k') μ))
    (hm : lastMarks [op, op'] [b, c] = false := by with_unfolding_all rfl) : PE X (.Compare a [op, op'] [b, c] pos) (tV X.K ρ μ (.bl (k && k')) μ) := by
  have q1 : OpR X (compareOp op) (fun x y H Q => ∃ L G, Ok X.K L G H μ ∧ Rep X.K L G da x ∧ Rep X.K L G db y ∧ Comes X.K L G H (.bl k) μ Q) := fun pins s σ H x y v u Q I rx ry ⟨L, G, o, r1, r2, c⟩ => ho pins s σ H x y v u Q L G I rx ry o r1 r2 c
  have q2 : OpR X (compareOp op') (fun x y H Q => ∃ L G, Ok X.K L G H μ ∧ Rep X.K L G db x ∧ Rep X.K L G dc y ∧ Comes X.K L G H (.bl k') μ Q) := fun pins s σ H x y v u Q I rx ry ⟨L, G, o, r1, r2, c⟩ => ho' pins s σ H x y v u Q L G I rx ry o r1 r2 c
  refine pe_of (pe_chain q1 q2 h1 h2 h3 hm) fun σ H Q ⟨L, G, n, c⟩ => ?_
  refine ⟨L, G, n, fun v L1 G1 H1 s1 o1 r1 => ⟨L1, G1, n.step s1 o1, fun u L2 G2 H2 s2 o2 r2 => ⟨L2, G2, o2, r1.step s2, r2, fun z L3 G3 H3 s3 o3 r3 => ⟨k, rep_bl.mp r3, ?_⟩⟩⟩⟩
  have s13 := (s1.trans s2).trans s3
  cases k with
  | true => exact iteT ⟨L3, G3, n.step s13 o3, fun w L4 G4 H4 s4 o4 r4 => ⟨L4, G4, o4, (r2.step s3).step s4, r4, Comes.step c (s13.trans s4)⟩⟩
  | false => exact iteF (c _ L3 G3 H3 s13 o3 (rep_bl.mpr rfl))
theorem et_chain {op op' : CmpOp} (h1 : PE X a (tV X.K ρ μ da μ)) (h2 : PE X b (tV X.K ρ μ db μ)) (ho : OpO X (fun _ _ _ _ => False) (compareOp op) da db μ (.ret (.bl k) μ)) (h3 : PE X c (tV X.K ρ μ dc μ)) (ho' : OpO X (fun _ _ _ _ => False) (compareOp op') db dc μ (.ret (.bl k') μ))
    (hm : lastMarks [op, op'] [b, c] = false := by with_unfolding_all rfl) : PT X (.Compare a [op, op'] [b, c] pos) (tVT X.K ρ μ (k && k') μ) := by
  have q1 : OpR X (compareOp op) (fun x y H Q => ∃ L G, Ok X.K L G H μ ∧ Rep X.K L G da x ∧ Rep X.K L G db y ∧ Comes X.K L G H (.bl k) μ Q) := fun pins s σ H x y v u Q I rx ry ⟨L, G, o, r1, r2, c⟩ => ho pins s σ H x y v u Q L G I rx ry o r1 r2 c
  have q2 : OpR X (compareOp op') (fun x y H Q => ∃ L G, Ok X.K L G H μ ∧ Rep X.K L G db x ∧ Rep X.K L G dc y ∧ Comes X.K L G H (.bl k') μ Q) := fun pins s σ H x y v u Q I rx ry ⟨L, G, o, r1, r2, c⟩ => ho' pins s σ H x y v u Q L G I rx ry o r1 r2 c
  refine pt_of (pt_chain q1 q2 h1 h2 h3 hm) fun σ H Q ⟨L, G, n, c⟩ => ?_
  refine ⟨L, G, n, fun v L1 G1 H1 s1 o1 r1 => ⟨L1, G1, n.step s1 o1, fun u L2 G2 H2 s2 o2 r2 => ⟨L2, G2, o2, r1.step s2, r2, fun z L3 G3 H3 s3 o3 r3 => ⟨k, rep_bl.mp r3, ?_⟩⟩⟩⟩
  have s13 := (s1.trans s2).trans s3
  cases k with
  | true => exact iteT ⟨L3, G3, n.step s13 o3, fun w L4 G4 H4 s4 o4 r4 => ⟨L4, G4, o4, (r2.step s3).step s4, r4, fun z' L5 G5 H5 s5 o5 r5 => ⟨k', rep_bl.mp r5, c L5 G5 H5 ((s13.trans s4).trans s5) o5⟩⟩⟩
  | false => exact iteF ⟨false, rfl, c L3 G3 H3 s13 o3⟩
end
end
end PM
set_option Elab.async false
set_option linter.all false
set_option maxRecDepth 100000
namespace PM
open PySem L2

/-! ### any reading will do -/
def aT (X : Cx) (e : Expr) : TT := fun σ H Q => ∃ t, PT X e t ∧ t σ H Q
def aSs (X : Cx) (b : List Stmt) : TS := fun D σ H => ∃ t, PSs X b t ∧ t D σ H
def aG (X : Cx) (e : Expr) : TG := fun v σ H Q => ∃ t, PG X e t ∧ t v σ H Q
theorem aT_ok {X : Cx} {e : Expr} : PT X e (aT X e) := ⟨fun pins s σ H Q I ⟨t, p, q⟩ => p.run pins s σ H Q I q⟩
theorem aSs_ok {X : Cx} {b : List Stmt} : PSs X b (aSs X b) := ⟨fun pins s σ H D I ⟨t, p, q⟩ => p.run pins s σ H D I q⟩
theorem aG_ok {X : Cx} {e : Expr} : PG X e (aG X e) := ⟨fun pins s σ H v u Q I r ⟨t, p, q⟩ => p.run pins s σ H v u Q I r q⟩

/-! ### forgetting -/
def Sub : Env' → Env' → Prop
  | [], [] => True
  | none :: r, _ :: s => Sub r s
  | some d :: r, o :: s => o = some d ∧ Sub r s
  | _, _ => False
theorem Sub.refl : ∀ ρ : Env', Sub ρ ρ
  | [] => trivial
  | none :: r => Sub.refl r
  | some d :: r => ⟨rfl, Sub.refl r⟩
theorem Sub.len : ∀ {ρ ρ' : Env'}, Sub ρ ρ' → ρ.length = ρ'.length
  | [], [], _ => rfl
  | none :: r, _ :: s, h => by simp [Sub.len (ρ := r) (ρ' := s) h]
  | some d :: r, o :: s, h => by simp [Sub.len (ρ := r) (ρ' := s) h.2]
  | [], _ :: _, h => h.elim
  | none :: _, [], h => h.elim
  | some _ :: _, [], h => h.elim
theorem Sub.at_ : ∀ {ρ ρ' : Env'}, Sub ρ ρ' → ∀ (i : Nat) d, ρ[i]? = some (some d) → ρ'[i]? = some (some d)
  | [], [], _, i, d, e => by simp at e
  | none :: r, _ :: s, h, 0, d, e => by simp at e
  | none :: r, _ :: s, h, i + 1, d, e => by simpa using Sub.at_ (ρ := r) (ρ' := s) h i d (by simpa using e)
  | some c :: r, o :: s, h, 0, d, e => by
    simp only [List.getElem?_cons_zero, Option.some.injEq] at e
    subst e
    simp [h.1]
  | some c :: r, o :: s, h, i + 1, d, e => by simpa using Sub.at_ (ρ := r) (ρ' := s) h.2 i d (by simpa using e)
  | [], _ :: _, h, _, _, _ => h.elim
  | none :: _, [], h, _, _, _ => h.elim
  | some _ :: _, [], h, _, _, _ => h.elim
theorem Now.forget {K : PySem.W.Frag} {L : List Addr} {G H : Hp} {μ : List M} {ρ ρ' : Env'} {σ : St} (n : Now K L G H μ ρ σ) (s : Sub ρ' ρ) : Now K L G H μ ρ' σ := ⟨n.ok, n.env.forget s.len s.at_⟩

/-! ### what a body needs of its place -/
structure Gd (X : Cx) (W : WX) (k : Nat) : Prop where
  calm : X.calm = true
  nd : X.N.Nodup
  tk : Takes X W
  po : PassesOwn (model X.prog X.w) X.A X.env X.xe
  hr : Room k X.A
  gr : X.A.guards = some []

/-! ### targets -/
def gD (K : PySem.W.Frag) (μ : List M) (d : D) (ρ ρ' : Env') : TG := fun v σ H Q => ∃ L G, Now K L G H μ ρ σ ∧ Rep K L G d v ∧ Ends' K L G H ρ' μ Q
def gDs (K : PySem.W.Frag) (μ : List M) (ds : List D) (ρ ρ' : Env') : TGs := fun vs σ H Q => ∃ L G, Now K L G H μ ρ σ ∧ Reps K L G ds vs ∧ Ends' K L G H ρ' μ Q
inductive EvWh (X : Cx) (W : WX) (c : Expr) (body : List Stmt) : Nat → Env' → List M → Out → Prop
  | stop {ρ : Env'} {ρ' : Env'} {μ : List M} {μ1 : List M} : PT X c (tVT X.K ρ μ false μ1) → Sub ρ' ρ → EvWh X W c body 0 ρ μ (.next ρ' μ1)
  | next {n : Nat} {ρ : Env'} {μ : List M} {μ1 : List M} {ρ2 : Env'} {μ2 : List M} {q : Out} : PT X c (tVT X.K ρ μ true μ1) → PSs X body (tS W X.K ρ μ1 (.next ρ2 μ2)) → EvWh X W c body n ρ2 μ2 q → EvWh X W c body (n + 1) ρ μ q
  | cont {n : Nat} {ρ : Env'} {μ : List M} {μ1 : List M} {ρ2 : Env'} {μ2 : List M} {q : Out} : PT X c (tVT X.K ρ μ true μ1) → PSs X body (tS W X.K ρ μ1 (.cont ρ2 μ2)) → EvWh X W c body n ρ2 μ2 q → EvWh X W c body (n + 1) ρ μ q
  | brk {ρ : Env'} {μ : List M} {μ1 : List M} {ρ2 : Env'} {μ2 : List M} : PT X c (tVT X.K ρ μ true μ1) → PSs X body (tS W X.K ρ μ1 (.brk ρ2 μ2)) → EvWh X W c body 0 ρ μ (.next ρ2 μ2)
  | ret {ρ : Env'} {μ : List M} {μ1 : List M} {d : D} {μ2 : List M} : PT X c (tVT X.K ρ μ true μ1) → PSs X body (tS W X.K ρ μ1 (.ret d μ2)) → EvWh X W c body 0 ρ μ (.ret d μ2)
  | exc {ρ : Env'} {μ : List M} {μ1 : List M} {C : Addr} {ns : List Str} {ds : List D} {ρ2 : Env'} {μ2 : List M} : PT X c (tVT X.K ρ μ true μ1) → PSs X body (tS W X.K ρ μ1 (.exc C ns ds ρ2 μ2)) → EvWh X W c body 0 ρ μ (.exc C ns ds ρ2 μ2)
inductive EvFor (X : Cx) (W : WX) (tg : Expr) (body : List Stmt) : List D → Env' → List M → Out → Prop
  | nil {ρ : Env'} {ρ' : Env'} {μ : List M} : Sub ρ' ρ → EvFor X W tg body [] ρ μ (.next ρ' μ)
  | next {d : D} {ds : List D} {ρ : Env'} {ρ1 : Env'} {μ : List M} {ρ2 : Env'} {μ2 : List M} {q : Out} : PG X tg (gD X.K μ d ρ ρ1) → PSs X body (tS W X.K ρ1 μ (.next ρ2 μ2)) → EvFor X W tg body ds ρ2 μ2 q → EvFor X W tg body (d :: ds) ρ μ q
  | cont {d : D} {ds : List D} {ρ : Env'} {ρ1 : Env'} {μ : List M} {ρ2 : Env'} {μ2 : List M} {q : Out} : PG X tg (gD X.K μ d ρ ρ1) → PSs X body (tS W X.K ρ1 μ (.cont ρ2 μ2)) → EvFor X W tg body ds ρ2 μ2 q → EvFor X W tg body (d :: ds) ρ μ q
  | brk {d : D} {ds : List D} {ρ : Env'} {ρ1 : Env'} {μ : List M} {ρ2 : Env'} {μ2 : List M} : PG X tg (gD X.K μ d ρ ρ1) → PSs X body (tS W X.K ρ1 μ (.brk ρ2 μ2)) → EvFor X W tg body (d :: ds) ρ μ (.next ρ2 μ2)
  | ret {d : D} {ds : List D} {ρ : Env'} {ρ1 : Env'} {μ : List M} {e : D} {μ2 : List M} : PG X tg (gD X.K μ d ρ ρ1) → PSs X body (tS W X.K ρ1 μ (.ret e μ2)) → EvFor X W tg body (d :: ds) ρ μ (.ret e μ2)
  | exc {d : D} {ds : List D} {ρ : Env'} {ρ1 : Env'} {μ : List M} {C : Addr} {ns : List Str} {es : List D} {ρ2 : Env'} {μ2 : List M} : PG X tg (gD X.K μ d ρ ρ1) → PSs X body (tS W X.K ρ1 μ (.exc C ns es ρ2 μ2)) → EvFor X W tg body (d :: ds) ρ μ (.exc C ns es ρ2 μ2)
section
variable {X : Cx} {W : WX} {k : Nat} {pos : Pos} {e : Expr} {es : List Expr} {ρ ρ1 ρ2 : Env'} {μ μ1 μ2 : List M} {d : D} {ds : List D} {x : Str} {o : FO}
theorem pg_of {t t' : TG} (h : PG X e t) (w : ∀ v σ H Q, t' v σ H Q → t v σ H Q) : PG X e t' := ⟨fun pins s σ H v u Q I r q => h.run pins s σ H v u Q I r (w _ _ _ _ q)⟩
theorem pgs_of {t t' : TGs} (h : PGs X es t) (w : ∀ v σ H Q, t' v σ H Q → t v σ H Q) : PGs X es t' := ⟨fun pins s σ H v u Q I r q => h.run pins s σ H v u Q I r (w _ _ _ _ q)⟩
theorem eg_name (i : Nat) (nd : X.N.Nodup) (hi : X.N[i]? = some x := by rfl) (hx : Loc X.env.scope x := by first | exact Or.inl rfl | exact Or.inr rfl) (hf : X.fn x = true ∨ X.env.scope.names.lookup x = some .local := by first | exact .inl rfl | exact .inr rfl | assumption) :
    PG X (.Name x pos) (gD X.K μ d ρ (ρ.set i (some d))) :=
  pg_of (pg_name nd hi hx hf) fun v σ H Q ⟨L, G, n, r, c⟩ => c _ L G H (.refl _ _ _) ⟨n.ok, n.env.set r i⟩
theorem egs_nil : PGs X [] (gDs X.K μ [] ρ ρ) := pgs_of pgs_nil fun v σ H Q ⟨L, G, n, r, c⟩ => ⟨r.inv_nil, c _ L G H (.refl _ _ _) n⟩
theorem egs_cons (h1 : PG X e (gD X.K μ d ρ ρ1)) (h2 : PGs X es (gDs X.K μ ds ρ1 ρ2)) (hs : (assignEach (e :: es) X.env).map (·.2) = assign e X.env :: (assignEach es X.env).map (·.2) := by rfl) : PGs X (e :: es) (gDs X.K μ (d :: ds) ρ ρ2) :=
  pgs_of (pgs_cons h1 h2 hs) fun vs σ H Q ⟨L, G, n, r, c⟩ => by
    obtain ⟨v, q, e, r1, r2⟩ := r.inv_cons
    exact ⟨v, q, e, L, G, n, r1, fun σ' L' G' H' s' n' => ⟨L', G', n', r2.step s', c.step s'⟩⟩
theorem eg_tup {kk : Nat} (hc : X.calm = true) (h : PGs X es (gDs X.K μ ds ρ ρ1)) (hn : (assignEach es X.env).length = ds.length := by rfl) (hst : (assignEach es X.env).findIdx? (·.1) = none := by rfl) : PG X (.Tuple es kk pos) (gD X.K μ (.tup ds) ρ ρ1) :=
  pg_of (pg_tup hc h hn hst) fun v σ H Q ⟨L, G, n, r, c⟩ => by
    obtain ⟨a, vs, e, q, r⟩ := rep_tup.mp r
    exact ⟨a, vs, e, Same.sqT n.ok.sub q, r.length, L, G, n, r, c⟩

/-! ### statements -/
def FO.drop (ρ : Env') : FO → Out
  | .ret _ μ => .next ρ μ
  | .exc C ns ds μ => .exc C ns ds ρ μ
def FO.set (ρ : Env') (i : Nat) : FO → Out
  | .ret d μ => .next (ρ.set i (some d)) μ
  | .exc C ns ds μ => .exc C ns ds ρ μ
def FO.out (ρ : Env') : FO → Out
  | .ret d μ => .ret d μ
  | .exc C ns ds μ => .exc C ns ds ρ μ
theorem post_exc {L : List Addr} {G H : Hp} {σ : St} {D : Ends} {C : Addr} {ns : List Str} (n : Now X.K L G H μ ρ σ) (c : Post W X.K L G H D (.exc C ns ds ρ μ1)) : ComesX X.K L G H C ns ds μ1 fun c d H' => W c d σ H' :=
  fun dx L' G' H' s o x => c σ dx L' G' H' s (n.step s o) x
theorem es_expr (h : PE X e (tO W X.K ρ μ o)) (hs : swapsWith e none pos.line X.env = pure false := by rfl) : PS X (.Expr e pos) (tS W X.K ρ μ (o.drop ρ)) :=
  ps_of (ps_expr h hs) fun D σ H ⟨L, G, n, c⟩ => ⟨L, G, n, by
    cases o with
    | ret d μ' => exact fun v L' G' H' s' o' _ => c σ L' G' H' s' (n.step s' o')
    | exc C ns ds μ' => exact post_exc n c⟩
theorem es_set (i : Nat) (nd : X.N.Nodup) (h : PE X e (tO W X.K ρ μ o)) {pos' : Pos} (hi : X.N[i]? = some x := by rfl) (hx : Loc X.env.scope x := by first | exact Or.inl rfl | exact Or.inr rfl) (hs : swapsWith e (some (.Name x pos')) pos.line X.env = pure false := by rfl)
    (hf : X.fn x = true ∨ X.env.scope.names.lookup x = some .local := by first | exact .inl rfl | exact .inr rfl | assumption) : PS X (.Assign [.Name x pos'] e pos) (tS W X.K ρ μ (o.set ρ i)) :=
  ps_of (ps_set nd hi hx h hs hf) fun D σ H ⟨L, G, n, c⟩ => ⟨L, G, n, by
    cases o with
    | ret d μ' => exact fun v L' G' H' s' o' r' => c _ L' G' H' s' ⟨o', (n.env.step s').set r' i⟩
    | exc C ns ds μ' => exact post_exc n c⟩
/-- target = value -/
theorem es_asg {tg : Expr} (h : PE X e (tV X.K ρ μ d μ1)) (hg : PG X tg (gD X.K μ1 d ρ ρ1)) (hs : swapsWithSole [tg] e pos.line X.env = pure false := by rfl) (hw : swappedStores [tg] e X.env = pure none := by rfl)
    (h1 : (assignEach [tg] X.env).map (·.2) = [assign tg X.env] := by rfl) : PS X (.Assign [tg] e pos) (tS W X.K ρ μ (.next ρ1 μ1)) :=
  ps_of (ps_asg h hg hs hw h1) fun D σ H ⟨L, G, n, c⟩ => ⟨L, G, n, fun v L' G' H' s' o' r' => ⟨L', G', n.step s' o', r', Ends'.step c s'⟩⟩
theorem es_asgX {tg : Expr} {C : Addr} {ns : List Str} (h : PE X e (tO W X.K ρ μ (.exc C ns ds μ1))) (hg : PG X tg (fun _ _ _ _ => False) := by exact ⟨fun _ _ _ _ _ _ _ _ _ z => z.elim⟩) (hs : swapsWithSole [tg] e pos.line X.env = pure false := by rfl) (hw : swappedStores [tg] e X.env = pure none := by rfl)
    (h1 : (assignEach [tg] X.env).map (·.2) = [assign tg X.env] := by rfl) : PS X (.Assign [tg] e pos) (tS W X.K ρ μ (.exc C ns ds ρ μ1)) :=
  ps_of (ps_asg h hg hs hw h1) fun D σ H ⟨L, G, n, c⟩ => ⟨L, G, n, post_exc n c⟩
/-- a, b = x, y -/
theorem es_par (i j : Nat) {y : Str} {a b : Expr} {px py pt : Pos} {kt k2 pt2} {da db : D} (g : Gd X W k) (ha : PA X [a, b] (tVA X.K ρ μ [da, db] μ1)) (hi : X.N[i]? = some x := by rfl) (hj : X.N[j]? = some y := by rfl) (hij : i ≠ j := by decide)
    (hx : X.env.scope.names.lookup x = some .local := by rfl) (hy : X.env.scope.names.lookup y = some .local := by rfl)
    (hw : swappedStores [.Tuple [.Name x px, .Name y py] kt pt] (.Tuple [a, b] k2 pt2) X.env = pure (some [x, y]) := by rfl)
    (hs : swapsWithSole [.Tuple [.Name x px, .Name y py] kt pt] (.Tuple [a, b] k2 pt2) pos.line X.env = pure false := by rfl) :
    PS X (.Assign [.Tuple [.Name x px, .Name y py] kt pt] (.Tuple [a, b] k2 pt2) pos) (tS W X.K ρ μ (.next ((ρ.set i (some da)).set j (some db)) μ1)) :=
  ps_of (ps_par g.calm g.nd hi hj hij hx hy ha hw hs) fun D σ H ⟨L, G, n, c⟩ => ⟨L, G, n, fun vs L' G' H' s' o' r' => by
    obtain ⟨v, r, e, r1, r2⟩ := r'.inv_cons
    obtain ⟨w, r, e', r3, r4⟩ := r2.inv_cons
    have e'' := r4.inv_nil
    subst e e' e''
    exact ⟨v, w, rfl, c _ L' G' H' s' ⟨o', ((n.env.step s').set r1 i).set r3 j⟩⟩⟩
theorem es_ret (h : PE X e (tO W X.K ρ μ o)) : PS X (.Return (some e) pos) (tS W X.K ρ μ (o.out ρ)) :=
  ps_of (ps_ret h) fun D σ H ⟨L, G, n, c⟩ => ⟨L, G, n, by
    cases o with
    | ret d μ' => exact c
    | exc C ns ds μ' => exact post_exc n c⟩
theorem es_retN : PS X (.Return none pos) (tS W X.K ρ μ (.ret .non μ)) := ps_of ps_retN fun D σ H ⟨L, G, n, c⟩ => c _ L G H (.refl _ _ _) n.ok (rep_non.mpr rfl)
theorem es_pass : PS X (.Pass pos) (tS W X.K ρ μ (.next ρ μ)) := ps_of ps_pass fun D σ H ⟨L, G, n, c⟩ => c _ L G H (.refl _ _ _) n
theorem es_break : PS X (.Break pos) (tS W X.K ρ μ (.brk ρ μ)) := ps_of ps_break fun D σ H ⟨L, G, n, c⟩ => c _ L G H (.refl _ _ _) n
theorem es_continue : PS X (.Continue pos) (tS W X.K ρ μ (.cont ρ μ)) := ps_of ps_continue fun D σ H ⟨L, G, n, c⟩ => c _ L G H (.refl _ _ _) n
variable {st : Stmt} {rest A B : List Stmt} {q : Out} {c : Expr} {b : Bool}
theorem es_if (h : PT X c (tVT X.K ρ μ b μ1)) (h1 : b = true → PSs X A (tS W X.K ρ μ1 q)) (h2 : b = false → PSs X B (tS W X.K ρ μ1 q)) : PS X (.If c A B pos) (tS W X.K ρ μ q) := by
  cases b with
  | true => exact ps_of (ps_if h (h1 rfl) pss_never) fun D σ H ⟨L, G, n, c⟩ => ⟨L, G, n, fun L1 G1 H1 s1 o1 => iteT ⟨L1, G1, n.step s1 o1, Post.step c s1⟩⟩
  | false => exact ps_of (ps_if h pss_never (h2 rfl)) fun D σ H ⟨L, G, n, c⟩ => ⟨L, G, n, fun L1 G1 H1 s1 o1 => iteF ⟨L1, G1, n.step s1 o1, Post.step c s1⟩⟩
theorem es_ifX {C : Addr} {ns : List Str} (h : PT X c (tOT W X.K ρ μ C ns ds μ1)) : PS X (.If c A B pos) (tS W X.K ρ μ (.exc C ns ds ρ μ1)) :=
  ps_of (ps_if h pss_never pss_never) fun D σ H ⟨L, G, n, c⟩ => ⟨L, G, n, post_exc n c⟩
theorem ess_nil : PSs X [] (tS W X.K ρ μ (.next ρ μ)) := pss_of pss_nil fun D σ H ⟨L, G, n, c⟩ => c _ L G H (.refl _ _ _) n
theorem ess_one (h : PS X st (tS W X.K ρ μ q)) : PSs X [st] (tS W X.K ρ μ q) := pss_one h
theorem ess_cons (h1 : PS X st (tS W X.K ρ μ (.next ρ1 μ1))) (h2 : PSs X rest (tS W X.K ρ1 μ1 q)) : PSs X (st :: rest) (tS W X.K ρ μ q) :=
  pss_of (pss_cons h1 h2) fun D σ H ⟨L, G, n, c⟩ => ⟨L, G, n, fun σ' L' G' H' s' n' => ⟨L', G', n', Post.step c s'⟩⟩
/-- a statement that does not go on -/
def Out.stops : Out → Prop
  | .next _ _ => False
  | _ => True
theorem ess_stop (h1 : PS X st (tS W X.K ρ μ q)) (hq : q.stops) : PSs X (st :: rest) (tS W X.K ρ μ q) :=
  pss_of (pss_cons h1 pss_never) fun D σ H ⟨L, G, n, c⟩ => ⟨L, G, n, by
    cases q with
    | next ρ μ => exact hq.elim
    | ret d μ => exact c
    | brk ρ μ => exact c
    | cont ρ μ => exact c
    | exc C ns ds ρ μ => exact c⟩
theorem es_eq {q' : Out} (h : PS X st (tS W X.K ρ μ q)) (e : q = q') : PS X st (tS W X.K ρ μ q') := e ▸ h
theorem ess_eq {q' : Out} (h : PSs X A (tS W X.K ρ μ q)) (e : q = q') : PSs X A (tS W X.K ρ μ q') := e ▸ h
theorem es_forget (h : PS X st (tS W X.K ρ μ (.next ρ1 μ1))) (s : Sub ρ2 ρ1) : PS X st (tS W X.K ρ μ (.next ρ2 μ1)) := ps_of h fun D σ H ⟨L, G, n, c⟩ => ⟨L, G, n, fun σ' L' G' H' s' n' => c σ' L' G' H' s' (n'.forget s)⟩
theorem ess_forget (h : PSs X A (tS W X.K ρ μ (.next ρ1 μ1))) (s : Sub ρ2 ρ1) : PSs X A (tS W X.K ρ μ (.next ρ2 μ1)) := pss_of h fun D σ H ⟨L, G, n, c⟩ => ⟨L, G, n, fun σ' L' G' H' s' n' => c σ' L' G' H' s' (n'.forget s)⟩
theorem ess_weak (h : PSs X A (tS W X.K ρ1 μ q)) (s : Sub ρ1 ρ) : PSs X A (tS W X.K ρ μ q) := pss_of h fun D σ H ⟨L, G, n, c⟩ => ⟨L, G, n.forget s, c⟩

/-! ### while -/
theorem es_while {body : List Stmt} {n : Nat} (g : Gd X W k) (h : EvWh X W c body n ρ μ q) : PS X (.While c body [] pos) (tS W X.K ρ μ q) := by
  refine ps_of (ps_while g.po aT_ok aSs_ok) fun D σ H ⟨L, G, nw, cc⟩ => ?_
  refine ⟨fun m σ' H' => ∃ ρ' μ' L' G', EvWh X W c body m ρ' μ' q ∧ Now X.K L' G' H' μ' ρ' σ' ∧ Post W X.K L' G' H' D q, ⟨n, ρ, μ, L, G, h, nw, cc⟩, ?_⟩
  rintro m σ1 H1 ⟨ρ1, μ1, L1, G1, h1, n1, c1⟩
  cases h1 with
  | stop ht hsub => exact ⟨_, ht, L1, G1, n1, fun L2 G2 H2 s2 o2 => iteF (c1 _ L2 G2 H2 s2 ((n1.step s2 o2).forget hsub))⟩
  | next ht hb hn =>
    rename_i m μ1' ρ2 μ2
    refine ⟨_, ht, L1, G1, n1, fun L2 G2 H2 s2 o2 => iteT ⟨fun σ3 H3 => ∃ L3 G3, Now X.K L3 G3 H3 μ2 ρ2 σ3 ∧ Post W X.K L3 G3 H3 D q, fun σ3 H3 ⟨L3, G3, n3, c3⟩ => ⟨m, Nat.lt_succ_self m, ρ2, μ2, L3, G3, hn, n3, c3⟩, _, hb, L2, G2, n1.step s2 o2, ?_⟩⟩
    exact fun σ3 L3 G3 H3 s3 n3 => ⟨L3, G3, n3, Post.step c1 (s2.trans s3)⟩
  | cont ht hb hn =>
    rename_i m μ1' ρ2 μ2
    refine ⟨_, ht, L1, G1, n1, fun L2 G2 H2 s2 o2 => iteT ⟨fun σ3 H3 => ∃ L3 G3, Now X.K L3 G3 H3 μ2 ρ2 σ3 ∧ Post W X.K L3 G3 H3 D q, fun σ3 H3 ⟨L3, G3, n3, c3⟩ => ⟨m, Nat.lt_succ_self m, ρ2, μ2, L3, G3, hn, n3, c3⟩, _, hb, L2, G2, n1.step s2 o2, ?_⟩⟩
    exact fun σ3 L3 G3 H3 s3 n3 => ⟨L3, G3, n3, Post.step c1 (s2.trans s3)⟩
  | brk ht hb => exact ⟨_, ht, L1, G1, n1, fun L2 G2 H2 s2 o2 => iteT ⟨fun _ _ => False, fun _ _ z => z.elim, _, hb, L2, G2, n1.step s2 o2, Ends'.step c1 s2⟩⟩
  | ret ht hb => exact ⟨_, ht, L1, G1, n1, fun L2 G2 H2 s2 o2 => iteT ⟨fun _ _ => False, fun _ _ z => z.elim, _, hb, L2, G2, n1.step s2 o2, Comes.step c1 s2⟩⟩
  | exc ht hb => exact ⟨_, ht, L1, G1, n1, fun L2 G2 H2 s2 o2 => iteT ⟨fun _ _ => False, fun _ _ z => z.elim, _, hb, L2, G2, n1.step s2 o2, Post.step c1 s2⟩⟩

/-! ### for -/
/-- an iterator that gives ds, one after another -/
structure JOk (K : PySem.W.Frag) (J : It) (L : List Addr) (G : Hp) (ds : List D) : Prop where
  go : ∀ L2 G2 H2 μ2 (i : Nat) d, Pre L L2 → Same G G2 → Ok K L2 G2 H2 μ2 → ds[i]? = some d → J.go i H2 ∧ ∀ x H3, J.yld i H2 x H3 → ∃ G3, Step L2 G2 H2 L2 G3 H3 ∧ Ok K L2 G3 H3 μ2 ∧ Rep K L2 G3 d x
  stop : ∀ L2 G2 H2 μ2, Pre L L2 → Same G G2 → Ok K L2 G2 H2 μ2 → J.stop ds.length H2
def iD (K : PySem.W.Frag) (ρ : Env') (μ : List M) (ds : List D) (μ' : List M) : TI := fun σ H R => ∃ L G, Now K L G H μ ρ σ ∧ ∀ J L' G' H', Step L G H L' G' H' → Ok K L' G' H' μ' → JOk K J L' G' ds → R J H'
theorem pi_of {tg : Expr} {t t' : TI} (h : PI X tg e t) (w : ∀ σ H R, t' σ H R → t σ H R) : PI X tg e t' := ⟨fun pins s σ H R I q => h.run pins s σ H R I (w _ _ _ q)⟩
theorem drop_cons {α : Type} {l : List α} {i : Nat} {x : α} {r : List α} (h : l.drop i = x :: r) : l[i]? = some x ∧ l.drop (i + 1) = r := by
  have hi : i < l.length := by
    by_cases z : i < l.length
    · exact z
    · rw [List.drop_eq_nil_of_le (by omega)] at h
      cases h
  rw [List.drop_eq_getElem_cons hi] at h
  injection h with h1 h2
  exact ⟨by rw [List.getElem?_eq_getElem hi, h1], h2⟩
theorem es_for {tg : Expr} {body : List Stmt} (g : Gd X W k) (hi : PI X tg e (iD X.K ρ μ ds μ1)) (h : EvFor X W tg body ds ρ μ1 q) (hs : ∀ x, foldedSetIterable e X.env x = pure x := by intro _; rfl) : PS X (.For tg e body [] pos) (tS W X.K ρ μ q) := by
  refine ps_of (ps_for g.po g.calm hi aG_ok aSs_ok hs) fun D σ H ⟨L, G, nw, cc⟩ => ⟨L, G, nw, fun J L1 G1 H1 s1 o1 j => ?_⟩
  refine ⟨fun i m σ' H' => m = ds.length - i ∧ i ≤ ds.length ∧ ∃ ρ' μ' L' G', EvFor X W tg body (ds.drop i) ρ' μ' q ∧ Pre L1 L' ∧ Same G1 G' ∧ Now X.K L' G' H' μ' ρ' σ' ∧ Post W X.K L' G' H' D q, ⟨ds.length, by simp, Nat.zero_le _, ρ, μ1, L1, G1, h, .refl _, .refl _, nw.step s1 o1, Post.step cc s1⟩, ?_⟩
  rintro i m σ2 H2 ⟨rfl, hil, ρ2, μ2, L2, G2, h2, p2, g2, n2, c2⟩
  generalize hd : ds.drop i = rest at h2
  cases h2 with
  | nil hsub =>
    have : i = ds.length := by
      have := congrArg List.length hd
      simp at this
      omega
    subst this
    exact .inl ⟨j.stop L2 G2 H2 μ2 p2 g2 n2.ok, c2 _ L2 G2 H2 (.refl _ _ _) (n2.forget hsub)⟩
  | next hg hb hn =>
    rename_i d ds' ρ3 ρ4 μ4
    obtain ⟨e1, e2⟩ := drop_cons hd
    obtain ⟨go, yl⟩ := j.go L2 G2 H2 μ2 i d p2 g2 n2.ok e1
    have il : i < ds.length := (List.getElem?_eq_some_iff.mp e1).1
    refine .inr ⟨go, fun σ' H' => ∃ L' G', Pre L1 L' ∧ Same G1 G' ∧ Now X.K L' G' H' μ4 ρ4 σ' ∧ Post W X.K L' G' H' D q, fun σ' H' ⟨L', G', p', g', n', c'⟩ => ⟨ds.length - (i + 1), by omega, rfl, il, ρ4, μ4, L', G', by rw [e2]; exact hn, p', g', n', c'⟩, fun x H3 y => ?_⟩
    obtain ⟨G3, s3, o3, r3⟩ := yl x H3 y
    refine ⟨_, hg, L2, G3, n2.step s3 o3, r3, fun σ4 L4 G4 H4 s4 n4 => ⟨_, hb, L4, G4, n4, ?_⟩⟩
    exact fun σ5 L5 G5 H5 s5 n5 => ⟨L5, G5, (p2.trans s4.pre).trans s5.pre, ((g2.trans s3.gs).trans s4.gs).trans s5.gs, n5, Post.step c2 ((s3.trans s4).trans s5)⟩
  | cont hg hb hn =>
    rename_i d ds' ρ3 ρ4 μ4
    obtain ⟨e1, e2⟩ := drop_cons hd
    obtain ⟨go, yl⟩ := j.go L2 G2 H2 μ2 i d p2 g2 n2.ok e1
    have il : i < ds.length := (List.getElem?_eq_some_iff.mp e1).1
    refine .inr ⟨go, fun σ' H' => ∃ L' G', Pre L1 L' ∧ Same G1 G' ∧ Now X.K L' G' H' μ4 ρ4 σ' ∧ Post W X.K L' G' H' D q, fun σ' H' ⟨L', G', p', g', n', c'⟩ => ⟨ds.length - (i + 1), by omega, rfl, il, ρ4, μ4, L', G', by rw [e2]; exact hn, p', g', n', c'⟩, fun x H3 y => ?_⟩
    obtain ⟨G3, s3, o3, r3⟩ := yl x H3 y
    refine ⟨_, hg, L2, G3, n2.step s3 o3, r3, fun σ4 L4 G4 H4 s4 n4 => ⟨_, hb, L4, G4, n4, ?_⟩⟩
    exact fun σ5 L5 G5 H5 s5 n5 => ⟨L5, G5, (p2.trans s4.pre).trans s5.pre, ((g2.trans s3.gs).trans s4.gs).trans s5.gs, n5, Post.step c2 ((s3.trans s4).trans s5)⟩
  | brk hg hb =>
    obtain ⟨e1, e2⟩ := drop_cons hd
    obtain ⟨go, yl⟩ := j.go L2 G2 H2 μ2 i _ p2 g2 n2.ok e1
    refine .inr ⟨go, fun _ _ => False, fun _ _ z => z.elim, fun x H3 y => ?_⟩
    obtain ⟨G3, s3, o3, r3⟩ := yl x H3 y
    exact ⟨_, hg, L2, G3, n2.step s3 o3, r3, fun σ4 L4 G4 H4 s4 n4 => ⟨_, hb, L4, G4, n4, Ends'.step c2 (s3.trans s4)⟩⟩
  | ret hg hb =>
    obtain ⟨e1, e2⟩ := drop_cons hd
    obtain ⟨go, yl⟩ := j.go L2 G2 H2 μ2 i _ p2 g2 n2.ok e1
    refine .inr ⟨go, fun _ _ => False, fun _ _ z => z.elim, fun x H3 y => ?_⟩
    obtain ⟨G3, s3, o3, r3⟩ := yl x H3 y
    exact ⟨_, hg, L2, G3, n2.step s3 o3, r3, fun σ4 L4 G4 H4 s4 n4 => ⟨_, hb, L4, G4, n4, Comes.step c2 (s3.trans s4)⟩⟩
  | exc hg hb =>
    obtain ⟨e1, e2⟩ := drop_cons hd
    obtain ⟨go, yl⟩ := j.go L2 G2 H2 μ2 i _ p2 g2 n2.ok e1
    refine .inr ⟨go, fun _ _ => False, fun _ _ z => z.elim, fun x H3 y => ?_⟩
    obtain ⟨G3, s3, o3, r3⟩ := yl x H3 y
    exact ⟨_, hg, L2, G3, n2.step s3 o3, r3, fun σ4 L4 G4 H4 s4 n4 => ⟨_, hb, L4, G4, n4, Post.step c2 (s3.trans s4)⟩⟩
end
end PM
set_option Elab.async false
set_option linter.all false
set_option maxRecDepth 100000
namespace PM
open PySem L2

/-! ### locs that are there -/
section
variable {K : PySem.W.Frag} {L : List Addr} {G H : Hp}
mutual
theorem Rep.lo : ∀ {d : D} {v : V}, Rep K L G d v → D.lo L.length d = true
  | .non, _, _ => by simp only [D.lo]
  | .bl _, _, _ => by simp only [D.lo]
  | .int _, _, _ => by simp only [D.lo]
  | .str _, _, _ => by simp only [D.lo]
  | .ref _, _, _ => by simp only [D.lo]
  | .ty _, _, _ => by simp only [D.lo]
  | .loc m, _, h => by
    simp only [Rep] at h
    obtain ⟨a, e, _⟩ := h
    simp only [D.lo, decide_eq_true_eq]
    exact (List.getElem?_eq_some_iff.mp e).1
  | .tup ds, _, h => by
    simp only [Rep] at h
    obtain ⟨a, vs, e, q, r⟩ := h
    simp only [D.lo]
    exact Reps.los r
  | .lst ds, _, h => by
    simp only [Rep] at h
    obtain ⟨a, vs, e, q, r⟩ := h
    simp only [D.lo]
    exact Reps.los r
  | .scr ds, _, h => by
    simp only [Rep] at h
    obtain ⟨a, vs, e, q, r⟩ := h
    simp only [D.lo]
    exact Reps.los r
  | .exn a dd ns ds, _, h => by
    simp only [Rep] at h
    obtain ⟨vs, e, q, z, r⟩ := h
    simp only [D.lo]
    exact Reps.los r
  | .obj C ns ds, _, h => by
    simp only [Rep] at h
    obtain ⟨a, dx, vs, e, q, z, r⟩ := h
    simp only [D.lo]
    exact Reps.los r
theorem Reps.los : ∀ {ds : List D} {vs : List V}, Reps K L G ds vs → D.los L.length ds = true
  | [], _, _ => by simp only [D.los]
  | d :: ds, _, h => by
    simp only [Reps] at h
    obtain ⟨v, r, e, h1, h2⟩ := h
    simp only [D.los, Bool.and_eq_true]
    exact ⟨Rep.lo h1, Reps.los h2⟩
end
theorem MAt.lo {a : Addr} {m : M} (h : MAt K L G H a m) : m.lo L.length = true := by
  cases m with
  | lst ds => obtain ⟨vs, e, r⟩ := h; exact r.los
  | ins C ns ds => obtain ⟨dx, vs, e, z, r⟩ := h; exact r.los
  | gone => rfl
  | box => rfl
theorem Ok.lo {μ : List M} (h : Ok K L G H μ) {i : Nat} {m : M} (e : μ[i]? = some m) : m.lo μ.length = true := by
  have hi : i < L.length := by rw [h.len]; exact (List.getElem?_eq_some_iff.mp e).1
  have := (h.at_ i L[i] m (List.getElem?_eq_getElem hi) e).lo
  rw [h.len] at this
  exact this
end
/-- what the store holds behind a call has no places that the call has made -/
def Lows (μ μ2 : List M) : Prop := μ2.length = μ.length ∧ ∀ (i : Nat) m, μ2[i]? = some m → μ[i]? = some m ∨ m.lo μ.length = true
theorem Lows.refl (μ : List M) : Lows μ μ := ⟨rfl, fun _ _ e => .inl e⟩
theorem Lows.set (μ : List M) (i : Nat) {m : M} (h : m.lo μ.length = true) : Lows μ (μ.set i m) := ⟨by simp, fun j x e => by
  by_cases hj : i = j
  · subst hj
    by_cases hi : i < μ.length
    · rw [List.getElem?_set_self hi] at e
      cases e
      exact .inr h
    · rw [List.getElem?_eq_none (by simpa using hi)] at e
      cases e
  · rw [List.getElem?_set_ne hj] at e
    exact .inl e⟩
theorem Lows.all {K : PySem.W.Frag} {L : List Addr} {G H : Hp} {μ μ2 : List M} (l : Lows μ μ2) (o : Ok K L G H μ) : μ2.all (M.lo μ2.length) = true := by
  rw [List.all_eq_true]
  intro m hm
  obtain ⟨i, hi⟩ := List.mem_iff_getElem?.mp hm
  rw [l.1]
  rcases l.2 i m hi with e | e
  · exact o.lo e
  · exact e

/-! ### a def's promise -/
abbrev Rl := List D → List M → FO → Prop
def Got (K : PySem.W.Frag) (L : List Addr) (G H : Hp) (Q : VK) (E : XK) : FO → Prop
  | .ret d μ' => Comes K L G H d μ' Q
  | .exc C ns ds' μ' => ComesX K L G H C ns ds' μ' E
def spR (K : PySem.W.Frag) (R : Rl) : Sp := fun vs H Q E => ∃ L G ds μ o, Ok K L G H μ ∧ Reps K L G ds vs ∧ R ds μ o ∧ Got K L G H Q E o
/-- how a body's end is the def's end (μ: the store at the entry) -/
inductive Leads (μ : List M) : FO → Out → Prop
  | ret0 {d : D} {μ2 : List M} : Leads μ (.ret d μ2) (.ret d μ2)
  | next0 {ρ : Env'} {μ2 : List M} : Leads μ (.ret .non μ2) (.next ρ μ2)
  | exc0 {C : Addr} {ns : List Str} {ds : List D} {ρ : Env'} {μ2 : List M} : Leads μ (.exc C ns ds μ2) (.exc C ns ds ρ μ2)
  | ret {d : D} {μ2 ν : List M} : Lows μ μ2 → D.lo μ.length d = true → Leads μ (.ret d μ2) (.ret d (μ2 ++ ν))
  | next {ρ : Env'} {μ2 ν : List M} : Lows μ μ2 → Leads μ (.ret .non μ2) (.next ρ (μ2 ++ ν))
  | exc {C : Addr} {ns : List Str} {ds : List D} {ρ : Env'} {μ2 ν : List M} : Lows μ μ2 → D.los μ.length ds = true → Leads μ (.exc C ns ds μ2) (.exc C ns ds ρ (μ2 ++ ν))
  /-- a list of its own is handed back: nobody else has it -/
  | retL {ds : List D} {μ2 ν : List M} {n : Nat} : Lows μ μ2 → D.los μ.length ds = true → μ.length ≤ n → (μ2 ++ ν)[n]? = some (.lst ds) → Leads μ (.ret (.lst ds) μ2) (.ret (.loc n) (μ2 ++ ν))
def startD (N : List Str) (ds : List D) : Env' := ds.map some ++ List.replicate (N.length - ds.length) none
theorem start_rep {K : PySem.W.Frag} {L : List Addr} {G : Hp} {N : List Str} {ds : List D} {vs : List V} (r : Reps K L G ds vs) : RepS K L G (startD N ds) (start N vs) := by
  have hl := r.length
  refine ⟨by simp [startD, L2.start, hl], fun i d e => ?_⟩
  unfold startD at e
  unfold L2.start
  by_cases hi : i < ds.length
  · rw [List.getElem?_append_left (by simpa using hi)] at e
    rw [List.getElem?_append_left (by simpa [hl] using hi)]
    rw [List.getElem?_map] at e ⊢
    cases q : ds[i]? with
    | none => rw [q] at e; cases e
    | some x =>
      rw [q] at e
      simp only [Option.map_some, Option.some.injEq] at e
      subst e
      obtain ⟨v, h1, h2⟩ := r.get q
      exact ⟨v, by rw [h1]; rfl, h2⟩
  · rw [List.getElem?_append_right (by simpa using hi)] at e
    rw [List.getElem?_replicate] at e
    split at e <;> cases e
section
variable {P : Program} {w : World} {K : PySem.W.Frag} {mg : Str → Option Value} {base : Heap}
theorem xd_cut {L L' : List Addr} {G H : Hp} {dx : Option Addr} {ns : List Str} {ds : List D} {n : Nat} (x : XdAt K L G H dx ns ds) (h : D.los n ds = true) : XdAt K (L.take n) G H dx ns ds := by
  refine ⟨x.1, ?_⟩
  rcases x.2 with z | ⟨a, vs, e1, e2, r⟩
  · exact .inl z
  · exact .inr ⟨a, vs, e1, e2, r.cut h⟩
/-- the end of a body as its caller sees it -/
theorem leads_post {L : List Addr} {G H : Hp} {μ : List M} {o : FO} {q : Out} {Q : VK} {E : XK} (h : Leads μ o q) (ok : Ok K L G H μ)
    (c : Got K L G H Q E o) : Post (fun c d _ H => E c d H) K L G H { nx := fun _ H' => Q .non H', rt := Q } q := by
  have cut : ∀ {μ2 : List M}, Lows μ μ2 → ∀ {L' : List Addr} {G' H' : Hp} {ν : List M}, Step L G H L' G' H' → Ok K L' G' H' (μ2 ++ ν) → Step L G H (L'.take μ2.length) G' H' ∧ Ok K (L'.take μ2.length) G' H' μ2 := by
    intro μ2 l L' G' H' ν s o
    exact ⟨s.cut (by rw [ok.len, l.1]; exact Nat.le_refl _), o.cut (l.all ok)⟩
  cases h with
  | ret0 => exact c
  | next0 => exact fun σ' L' G' H' s n => c _ L' G' H' s n.ok (rep_non.mpr rfl)
  | exc0 => exact fun σ' dx L' G' H' s n x => c dx L' G' H' s n.ok x
  | ret l hd =>
    intro v L' G' H' s o' r
    obtain ⟨s', o''⟩ := cut l s o'
    exact c v _ G' H' s' o'' (r.cut (by rw [l.1]; exact hd))
  | next l =>
    intro σ' L' G' H' s n
    obtain ⟨s', o''⟩ := cut l s n.ok
    exact c _ _ G' H' s' o'' (rep_non.mpr rfl)
  | exc l hd =>
    intro σ' dx L' G' H' s n x
    obtain ⟨s', o''⟩ := cut l s n.ok
    exact c dx _ G' H' s' o'' (xd_cut (L' := L') x (by rw [l.1]; exact hd))
  | retL l hd hn he =>
    rename_i ds μ2 ν n
    intro v L' G' H' s o' r
    obtain ⟨s', o''⟩ := cut l s o'
    obtain ⟨a, ea, ev⟩ := rep_loc.mp r
    obtain ⟨vs, eh, rv⟩ := o'.at_ n a _ ea he
    have hna : a ∉ L'.take μ2.length := fun z => by
      obtain ⟨j, hj, ej⟩ := List.getElem_of_mem z
      rw [List.length_take] at hj
      rw [List.getElem_take] at ej
      obtain ⟨h1, h2⟩ := List.getElem?_eq_some_iff.mp ea
      have := (List.getElem_inj o'.nd).mp (ej.trans h2.symm)
      rw [l.1] at hj
      omega
    obtain ⟨o3, sg⟩ := o''.tell (p := a) (o := .lst vs) eh hna
    have h0 : H a = none := by
      rcases s.fr a (List.mem_of_getElem? ea) with z | z
      · obtain ⟨j, hj, ej⟩ := List.getElem_of_mem z
        have e1 := s.pre j a (by rw [List.getElem?_eq_getElem hj, ej])
        obtain ⟨h1, h2⟩ := List.getElem?_eq_some_iff.mp ea
        obtain ⟨h3, h4⟩ := List.getElem?_eq_some_iff.mp e1
        have := (List.getElem_inj o'.nd).mp (h4.trans h2.symm)
        rw [ok.len] at hj
        omega
      · exact z
    refine c v _ _ H' (s'.tell h0 sg) o3 (rep_lst.mpr ⟨a, vs, ev, upd_same, ?_⟩)
    exact ((rv.cut (n := μ2.length) (by rw [l.1]; exact hd)).mono (.refl _) sg)
/-- a def keeps its promise, where no text of a container is being made -/
structure FnG (P : Program) (w : World) (K : PySem.W.Frag) (mg : Str → Option Value) (base : Heap) (k : Nat) (f : Addr) (fd : FuncData) (ps : List Str) (sp : Sp) : Prop where
  len : ∀ vs H Q E, sp vs H Q E → vs.length = ps.length
  run : ∀ (A : Around) (outer : List Env) (s : Shared) (H : Hp) (args : Args) (us : List Value) (vs : List V) (Q : VK) (E : XK), Room k A → A.guards = some [] → Env0 P w K mg base A outer s H → BindsTo s fd args (ps.zip us) → Vals vs us → sp vs H Q E →
    codeAny (model P w) A (.call (.ref f) args) (CR (L2.CX P w) outer P w H s Q E) s
/-- a def of the text as it stands behind the top; dvs: its defaults -/
abbrev FunS (K : PySem.W.Frag) (x qual : Str) (st : Stmt) (dvs : List V) (f : Addr) (fd : FuncData) : Prop := FunD K x qual (defArgs st) (defBody st) (defScope st) dvs [] f fd
/-- THE RULE for a def -/
theorem fnR {x qual : Str} {st : Stmt} {dvs : List V} {f : Addr} {fd : FuncData} {N ps : List Str} {k : Nat} {R : Rl} (F : FunS K x qual st dvs f fd) (S : FnScope N ps (defScope st)) (len : ∀ ds μ o, R ds μ o → ds.length = ps.length)
    (body : ∀ (cdv : Value) (A : Around) (outer : List Env) (s : Shared) (H : Hp) (E : XK), Gd (cxOf (L2.CX P w) P w K mg base N qual (defScope st) f cdv A outer s H E) (fun c d _ H => E c d H) k →
      ∀ ds μ o, R ds μ o → ∃ q, Leads μ o q ∧ PSs (cxOf (L2.CX P w) P w K mg base N qual (defScope st) f cdv A outer s H E) (defBody st) (tS (fun c d _ H => E c d H) K (startD N ds) μ q)) :
    FnG P w K mg base (k + 1) f fd ps (spR K R) := by
  have ln : ∀ vs H Q E, spR K R vs H Q E → vs.length = ps.length := fun vs H Q E ⟨L, G, ds, μ, o, _, r, hR, _⟩ => r.length.trans (len ds μ o hR)
  refine ⟨ln, fun A outer s H args us vs Q E room gr en bnd rel hsp => ?_⟩
  obtain ⟨oc, od, dV, kV, doc, pm, an, cdv, ct, osl, rfl, look, hcode, _, _⟩ := F.ex
  have kept : ∀ b o, base.get? b = some o → s.heap.get? b = some o := fun b o e => (en.bs b o e).1
  have kin : K.In s.heap := en.mod.kin.keeps kept
  have kinds : ∀ y ∈ ps.zip us, (defScope st).names.lookup y.1 = some .local ∨ ((defScope st).names.lookup y.1 = some .cell ∧ ((cellsFrom (s.heap.objs.size + 1) (defScope st).names []).lookup y.1).isSome = true) := by
    rintro ⟨n, v⟩ hy
    exact (S.par n (List.of_mem_zip hy).1).imp (fun q => q) fun q => ⟨q, PySem.W.cellsFrom_some _ _ _ (.inl q)⟩
  refine codeAny_call_function room.depth (kin _ _ look) rfl S.co S.gen rfl (PySem.W.codeRec_of kin hcode) (bnd _ _ _ _ (wpAny_newFunctionEnv_cells S.kind kinds fun env he s1 ent => ?_))
  subst he
  refine ⟨(en.mod.nolimit.keeps kept).keeps ent.toInCall.keep, codeAny_func ?_⟩
  have hlen := ln _ _ _ _ hsp
  obtain ⟨L, G, ds, μ, o, ok, rr, hR, c⟩ := hsp
  obtain ⟨q, hlq, ht⟩ := body cdv A outer s H E ⟨rfl, S.nd, takes_of rfl rfl rfl rfl, passes_of rfl, room.deeper _, gr⟩ ds μ o hR
  have inv : Inv (cxOf (L2.CX P w) P w K mg base N qual (defScope st) f cdv A outer s H E) [] (L2.start N vs) H s1 := inv_start S room.hd en hlen rel ent
  refine wpAny_mono (ht.run [] s1 (L2.start N vs) H { nx := fun _ H' => Q .non H', rt := Q } inv ⟨L, G, ⟨ok, start_rep rr⟩, leads_post hlq ok c⟩) (fun fl s' hs => ?_) fun e s' hs => hs
  match fl, hs with
  | .ret u, ⟨v, σ', H', J, rv, q⟩ => exact ⟨v, H', J.os, J.bare, J.base, J.hok, rv, q⟩
  | .next, ⟨σ', H', J, q⟩ => exact ⟨.non, H', J.os, J.bare, J.base, J.hok, rfl, q⟩
  | .brk, ⟨_, _, _, q⟩ => exact q.elim
  | .cont, ⟨_, _, _, q⟩ => exact q.elim
theorem FunD.plain {x qual : Str} {st : Stmt} {f : Addr} {fd : FuncData} (F : FunS K x qual st [] f fd) : Fun K x qual st f fd := by
  obtain ⟨oc, od, dV, kV, doc, pm, an, cdv, ct, osl, e, look, hcode, hD, _⟩ := F.ex
  rcases hD with ⟨_, rfl⟩ | ⟨z, _⟩
  · exact ⟨⟨oc, od, kV, doc, pm, an, cdv, ct, osl, e, look, hcode⟩, F.kp⟩
  · exact (z rfl).elim
theorem funS_mk {x qual : Str} {st : Stmt} {f : Addr} {oc : Value} {od an : Option Addr} {osl : Array (Option Value)} {kV doc pm cdv ct : Value} (l : K.lookup f = some ⟨oc, od, .func (PySem.W.fnOf x qual (defArgs st) (defBody st) (defScope st) .none kV doc pm an cdv ct), osl⟩)
    (c : PySem.W.codeIn K cdv qual = true) (k : PySem.W.keepIn K (.ref f) = true) : FunS K x qual st [] f (PySem.W.fnOf x qual (defArgs st) (defBody st) (defScope st) .none kV doc pm an cdv ct) :=
  ⟨⟨oc, od, .none, kV, doc, pm, an, cdv, ct, osl, rfl, l, c, .inl ⟨rfl, rfl⟩, .inl rfl⟩, k⟩
end

/-! ### calls -/
/-- a def that may be called -/
structure Cal (P : Program) (w : World) (K : PySem.W.Frag) (mg : Str → Option Value) (base : Heap) (k : Nat) (ps : List Str) (R : Rl) (f : Addr) (fd : FuncData) : Prop where
  ok : FnG P w K mg base k f fd ps (spR K R)
  bd : Binds K fd ps []
section
variable {X : Cx} {W : WX} {k j : Nat} {ps : List Str} {R : Rl} {f C : Addr} {fd : FuncData} {ds : List D} {μ μ1 μ2 : List M} {o : FO} {e : Expr} {es : List Expr} {x m : Str} {p pos apos : Pos} {ρ : Env'} {d : D}
theorem CO.sp {σ : St} {H : Hp} {Q : VK} {L : List Addr} {G : Hp} {vs : List V} (hR : R ds μ o) (ok : Ok X.K L G H μ) (r : Reps X.K L G ds vs) (c : CO W X.K L G H σ o Q) : spR X.K R vs H Q (WE W σ) :=
  ⟨L, G, ds, μ, o, ok, r, hR, by
    cases o with
    | ret d μ' => exact c
    | exc C ns ds' μ' => exact c⟩
theorem run_fnG {pins : List (Addr × Obj)} {σ : St} {H : Hp} {s : Shared} {Q : VK} {us us' : List Value} {kw : List (Str × Value)} {vs : List V} {sp : Sp} {E : XK} (F : FnG X.prog X.w X.K X.mg X.base j f fd ps sp) (hr : Room j X.A) (gr : X.A.guards = some []) (hb : BindsTo s fd ⟨us', kw⟩ (ps.zip us)) (hx : PassesAt (L2.CX X.prog X.w) X σ E)
    (I : Inv X pins σ H s) (r : Vals vs us) (h : sp vs H Q E) : wpAny (model X.prog X.w) X.A (call (.ref f) us' kw) (EP X pins σ Q) X.xe s := by
  refine wpAny_call (codeAny_mono (F.run X.A X.stack s H ⟨us', kw⟩ us vs Q E hr gr I.env0 hb r h) fun r s' hq => ?_)
  cases r with
  | error e => exact hx pins H s e s' I hq
  | ok fl =>
    cases fl with
    | ret u => exact I.after hq
    | next => exact False.elim hq
    | brk => exact False.elim hq
    | cont => exact False.elim hq
/-- by values -/
theorem Cal.run (c : Cal X.prog X.w X.K X.mg X.base j ps R f fd) (g : Gd X W k) (hj : j ≤ k) (hR : R ds μ o) : CallO X W (fun us => call (.ref f) us) ds μ o :=
  fun pins s σ H xs us Q L G I rx ok r co => by
    have hsp := CO.sp hR ok r co
    have hl : us.length = ps.length := by rw [← rx.length]; exact c.ok.len _ _ _ _ hsp
    have b := c.bd s us I.kIn (by rw [List.append_nil]; exact hl)
    rw [List.append_nil] at b
    exact run_fnG (E := WE W σ) c.ok (g.hr.mono hj) g.gr b (passAt g.tk σ) I rx hsp
theorem argsO {f : List Value → Sem Value} (ha : PA X es (tVA X.K ρ μ ds μ1)) (hf : CallO X W f ds μ1 o) {pins : List (Addr × Obj)} {s : Shared} {σ : St} {H : Hp} {Q : VK} (I : Inv X pins σ H s) (h : tO W X.K ρ μ o σ H Q) (pos : Pos) :
    wpAny (model X.prog X.w) X.A (spliced (backTo pos (starEach es X.env))) (fun us s1 => X.K.In s1.heap ∧ wpAny (model X.prog X.w) X.A (f us) (EP X pins σ Q) X.xe s1) X.xe s := by
  obtain ⟨L, G, n, c⟩ := h
  refine thn (ha.run pos pins s σ H (fun vs H1 => ∃ L1 G1, Ok X.K L1 G1 H1 μ1 ∧ Reps X.K L1 G1 ds vs ∧ CO W X.K L1 G1 H1 σ o Q) I ⟨L, G, n, fun vs L1 G1 H1 s1 o1 r1 => ⟨L1, G1, o1, r1, CO.step c s1⟩⟩) fun us s1 ⟨vs, H1, I1, r1, L1, G1, o1, rr, c1⟩ => ⟨I1.kIn, ?_⟩
  exact hf pins s1 σ H1 vs us Q L1 G1 I1 r1 o1 rr c1
/-- f(e, ..) -/
theorem ev_call (g : Gd X W k) (c : Cal X.prog X.w X.K X.mg X.base j ps R f fd) (hm : X.mg x = some (.ref f)) (hk : PySem.W.keepIn X.K (.ref f) = true) (ha : PA X (e :: es) (tVA X.K ρ μ ds μ1)) (hR : R ds μ1 o) (hj : j ≤ k := by decide) (hg : Gl X x := by rfl)
    (hdb : (x == ("__debug__" : Str)) = false := by decide) (he : starEach (e :: es) X.env = (false, eval e X.env) :: starEach es X.env := by rfl) (hpl : (backTo pos (starEach es X.env)).any (·.1) = false := by rfl) :
    PE X (.Call (.Name x p) (e :: es) [] pos) (tO W X.K ρ μ o) :=
  ⟨fun pins s σ H Q I h => wpAny_Call_Name_kw (ld_glob I hg hm (PySem.W.callWith_K (h₀ := X.base) I.ok.mod.kin hk (argsO ha (c.run g hj hR) I h pos) he hpl) hdb)⟩
theorem ev_call0 (g : Gd X W k) (c : Cal X.prog X.w X.K X.mg X.base j ps R f fd) (hm : X.mg x = some (.ref f)) (hk : PySem.W.keepIn X.K (.ref f) = true) (hR : R [] μ o) (hj : j ≤ k := by decide) (hg : Gl X x := by rfl)
    (hdb : (x == ("__debug__" : Str)) = false := by decide) : PE X (.Call (.Name x p) [] [] pos) (tO W X.K ρ μ o) :=
  ⟨fun pins s σ H Q I ⟨L, G, n, co⟩ => wpAny_Call_Name_kw (ld_glob I hg hm (PySem.W.callWith_K0 I.kIn hk (c.run g hj hR pins s σ H [] [] Q L G I .nil n.ok Reps.nil co)) hdb)⟩

/-! #### objects -/
/-- a field of an immutable object -/
def fldOf (ns : List Str) (ds : List D) (f : Str) : Option D := (ns.zip ds).lookup f
theorem fld_rep {K : PySem.W.Frag} {L : List Addr} {G : Hp} {f : Str} : ∀ {ns : List Str} {ds : List D} {vs : List V} {d : D}, Reps K L G ds vs → fldOf ns ds f = some d → ∃ v, (ns.zip vs).lookup f = some v ∧ Rep K L G d v
  | [], ds, vs, d, r, h => by simp [fldOf] at h
  | n :: ns, [], vs, d, r, h => by simp [fldOf] at h
  | n :: ns, c :: ds, vs, d, r, h => by
    obtain ⟨v, q, rfl, r1, r2⟩ := r.inv_cons
    unfold fldOf at h
    rw [List.zip_cons_cons] at h ⊢
    simp only [List.lookup] at h ⊢
    cases hf : f == n with
    | true =>
      simp only [hf, Option.some.injEq] at h ⊢
      subst h
      exact ⟨v, rfl, r1⟩
    | false =>
      simp only [hf] at h ⊢
      exact fld_rep r2 h
/-- o.f, o an immutable object -/
theorem ev_fld {ns : List Str} {fs : List D} (ho : PE X e (tV X.K ρ μ (.obj C ns fs) μ1)) (c : Cls X.K C) (n : NoAttr X.K C m) (h : fldOf ns fs m = some d) (hb : attributeBase e m X.env (eval e X.env) = eval e X.env := by rfl) : PE X (.Attribute e m pos) (tV X.K ρ μ d μ1) :=
  pe_of (pe_fld ho hb) fun σ H Q ⟨L, G, nw, co⟩ => ⟨L, G, nw, fun v L1 G1 H1 s1 o1 r1 => by
    obtain ⟨a, dx, vs, ev, eg, _, rr⟩ := rep_obj.mp r1
    obtain ⟨u, l, ru⟩ := fld_rep rr h
    exact ⟨a, C, dx, _, u, ev, o1.sub _ _ eg, c, n, l, co u L1 G1 H1 s1 o1 ru⟩⟩
/-- o.f, o a thing of the store -/
theorem ev_fldL {ns : List Str} {fs : List D} {i : Nat} (ho : PE X e (tV X.K ρ μ (.loc i) μ1)) (hi : μ1[i]? = some (.ins C ns fs)) (c : Cls X.K C) (n : NoAttr X.K C m) (h : fldOf ns fs m = some d) (hb : attributeBase e m X.env (eval e X.env) = eval e X.env := by rfl) : PE X (.Attribute e m pos) (tV X.K ρ μ d μ1) :=
  pe_of (pe_fld ho hb) fun σ H Q ⟨L, G, nw, co⟩ => ⟨L, G, nw, fun v L1 G1 H1 s1 o1 r1 => by
    obtain ⟨a, ea, ev⟩ := rep_loc.mp r1
    obtain ⟨dx, vs, eh, _, rr⟩ := o1.at_ i a _ ea hi
    obtain ⟨u, l, ru⟩ := fld_rep rr h
    exact ⟨a, C, dx, _, u, ev, eh, c, n, l, co u L1 G1 H1 s1 o1 ru⟩⟩
theorem zip_lookup_none {α β : Type} {f : Str} : ∀ {ns : List Str} {vs : List α} {ds : List β}, vs.length = ds.length → (ns.zip ds).lookup f = none → (ns.zip vs).lookup f = none
  | [], _, _, _, _ => rfl
  | n :: ns, [], _, _, _ => rfl
  | n :: ns, v :: vs, [], h, _ => by simp at h
  | n :: ns, v :: vs, d :: ds, h, e => by
    rw [List.zip_cons_cons] at e ⊢
    simp only [List.lookup] at e ⊢
    cases hf : f == n with
    | true => simp [hf] at e
    | false =>
      simp only [hf] at e ⊢
      exact zip_lookup_none (by simpa using h) e
/-- what is asked of the receiver of a method -/
inductive Recv (C : Addr) (m : Str) (μ : List M) : D → Prop
  | obj {ns : List Str} {fs : List D} : fldOf ns fs m = none → Recv C m μ (.obj C ns fs)
  | loc {ns : List Str} {fs : List D} {i : Nat} : μ[i]? = some (.ins C ns fs) → fldOf ns fs m = none → Recv C m μ (.loc i)
theorem Recv.at_ {L : List Addr} {G H : Hp} {v : V} (r : Recv C m μ d) (ok : Ok X.K L G H μ) (rd : Rep X.K L G d v) : ∃ a dx fs, v = .ref a ∧ H a = some (.ins C dx fs) ∧ fs.lookup m = none := by
  cases r with
  | obj h =>
    obtain ⟨a, dx, vs, ev, eg, _, rr⟩ := rep_obj.mp rd
    exact ⟨a, dx, _, ev, ok.sub _ _ eg, zip_lookup_none rr.length h⟩
  | loc hi h =>
    obtain ⟨a, ea, ev⟩ := rep_loc.mp rd
    obtain ⟨dx, vs, eh, _, rr⟩ := ok.at_ _ a _ ea hi
    exact ⟨a, dx, _, ev, eh, zip_lookup_none rr.length h⟩
/-- o.m(e, ..) -/
theorem ev_meth {ob : Expr} {pl : Sem Bool} (g : Gd X W k) (ho : PE X ob (tV X.K ρ μ d μ1)) (cl : Cls X.K C) (hm : Meth X.K C m f) (c : Cal X.prog X.w X.K X.mg X.base j ps R f fd) (ha : PA X (e :: es) (tVA X.K ρ μ1 ds μ2)) (hr : Recv C m μ1 d) (hR : R (d :: ds) μ2 o)
    (hj : j ≤ k := by decide) (hst : starEach (e :: es) X.env = (false, eval e X.env) :: starEach es X.env := by rfl) (hpl : (backTo pos (starEach es X.env)).any (·.1) = false := by rfl)
    (ht : eval (.Call (.Attribute ob m apos) (e :: es) [] pos) X.env = (do
      let ov ← eval ob X.env
      standAt apos.atName
      let (f, first) ← holding [ov] (getMethod ov m pl)
      callWith pos f first (backTo pos (starEach (e :: es) X.env)) (backToKw pos (keywordEach [] X.env))) := by rfl) :
    PE X (.Call (.Attribute ob m apos) (e :: es) [] pos) (tO W X.K ρ μ o) := by
  refine ⟨fun pins s σ H Q I ⟨L, G, n, co⟩ => ?_⟩
  refine PySem.W.methodCall_KW (pl := pl) (thn (ho.run pins s σ H (fun x H1 => ∃ L1 G1, Step L G H L1 G1 H1 ∧ Ok X.K L1 G1 H1 μ1 ∧ Rep X.K L1 G1 d x) I ⟨L, G, n, fun v L1 G1 H1 s1 o1 r1 => ⟨L1, G1, s1, o1, r1⟩⟩) fun u s1 ⟨x, H1, I1, rx, L1, G1, s1, o1, r1⟩ => ?_) ht
  obtain ⟨a, dx, fs, ex, ea, l⟩ := hr.at_ o1 r1
  subst ex
  obtain rfl : u = Value.ref a := rx
  refine getmeth_ok I1 ea cl hm l ?_
  refine PySem.W.callWith_K (first := [.ref a]) (h₀ := X.base) I.ok.mod.kin hm.kp (thn (ha.run pos pins _ σ H1 (fun vs H2 => ∃ L2 G2, Ok X.K L2 G2 H2 μ2 ∧ Reps X.K L2 G2 (d :: ds) (.ref a :: vs) ∧ CO W X.K L2 G2 H2 σ o Q) I1 ⟨L1, G1, n.step s1 o1, fun vs L2 G2 H2 s2 o2 r2 => ⟨L2, G2, o2, Reps.cons (r1.step s2) r2, CO.step co (s1.trans s2)⟩⟩) fun us s2 ⟨vs, H2, I2, r, L2, G2, o2, rr, c2⟩ => ⟨I2.kIn, ?_⟩) hst hpl
  exact c.run g hj hR pins s2 σ H2 (.ref a :: vs) (.ref a :: us) Q L2 G2 I2 (.cons rfl r) o2 rr c2
theorem ev_meth0 {ob : Expr} {pl : Sem Bool} (g : Gd X W k) (ho : PE X ob (tV X.K ρ μ d μ1)) (cl : Cls X.K C) (hm : Meth X.K C m f) (c : Cal X.prog X.w X.K X.mg X.base j ps R f fd) (hr : Recv C m μ1 d) (hR : R [d] μ1 o) (hj : j ≤ k := by decide)
    (ht : eval (.Call (.Attribute ob m apos) [] [] pos) X.env = (do
      let ov ← eval ob X.env
      standAt apos.atName
      let (f, first) ← holding [ov] (getMethod ov m pl)
      callWith pos f first (backTo pos (starEach [] X.env)) (backToKw pos (keywordEach [] X.env))) := by rfl) :
    PE X (.Call (.Attribute ob m apos) [] [] pos) (tO W X.K ρ μ o) := by
  refine ⟨fun pins s σ H Q I ⟨L, G, n, co⟩ => ?_⟩
  refine PySem.W.methodCall_KW (pl := pl) (thn (ho.run pins s σ H (fun x H1 => ∃ L1 G1, Step L G H L1 G1 H1 ∧ Ok X.K L1 G1 H1 μ1 ∧ Rep X.K L1 G1 d x) I ⟨L, G, n, fun v L1 G1 H1 s1 o1 r1 => ⟨L1, G1, s1, o1, r1⟩⟩) fun u s1 ⟨x, H1, I1, rx, L1, G1, s1, o1, r1⟩ => ?_) ht
  obtain ⟨a, dx, fs, ex, ea, l⟩ := hr.at_ o1 r1
  subst ex
  obtain rfl : u = Value.ref a := rx
  refine getmeth_ok I1 ea cl hm l ?_
  exact PySem.W.callWith_K0 (first := [.ref a]) I1.kIn hm.kp (c.run g hj hR pins _ σ H1 [.ref a] [.ref a] Q L1 G1 I1 (.cons rfl .nil) o1 (Reps.cons r1 Reps.nil) (CO.step co s1))
end
end PM
set_option Elab.async false
set_option linter.all false
set_option maxRecDepth 100000
namespace PM
open PySem L2

/-! ### making an object -/
section
variable {X : Cx} {W : WX} {k j : Nat} {ps : List Str} {R : Rl} {f C : Addr} {fd : FuncData} {ds : List D} {μ μ1 μ2 : List M} {o : FO} {e : Expr} {es : List Expr} {x m : Str} {p pos apos : Pos} {ρ : Env'} {d : D}
/-- C(..) by what __init__ does: the new thing is the last of the store -/
inductive MakeR (R : Rl) (C : Addr) (ds : List D) (μ : List M) : FO → Prop
  | obj {ns : List Str} {fs : List D} {μ2 : List M} : R (.loc μ.length :: ds) (μ ++ [.ins C [] []]) (.ret .non (μ2 ++ [.ins C ns fs])) → Lows μ μ2 → ns.length = fs.length → D.los μ.length fs = true → MakeR R C ds μ (.ret (.obj C ns fs) μ2)
  | loc {ns : List Str} {fs : List D} {μ2 : List M} : R (.loc μ.length :: ds) (μ ++ [.ins C [] []]) (.ret .non (μ2 ++ [.ins C ns fs])) → μ2.length = μ.length → MakeR R C ds μ (.ret (.loc μ.length) (μ2 ++ [.ins C ns fs]))
  | exc {C' : Addr} {ns : List Str} {fs : List D} {μ2 : List M} {m : M} : R (.loc μ.length :: ds) (μ ++ [.ins C [] []]) (.exc C' ns fs (μ2 ++ [m])) → Lows μ μ2 → D.los μ.length fs = true → MakeR R C ds μ (.exc C' ns fs μ2)
theorem run_makeS {sp : Sp} {dvs : List V} {dvl : List Value} {E : XK} {pins : List (Addr × Obj)} {σ : St} {H : Hp} {s : Shared} {Q : VK} {us : List Value} {vs : List V} (Mk : Mk X.K C f) (F : FnG X.prog X.w X.K X.mg X.base k f fd ps sp) (hr : Room (k + 1) X.A) (gr : X.A.guards = some []) (hb : Binds X.K fd ps dvl) (hd : Vals dvs dvl)
    (hx : PassesAt (L2.CX X.prog X.w) X σ E) (I : Inv X pins σ H s) (r : Vals vs us)
    (h : ∀ x dx, H x = none → H dx = none → dx ≠ x → sp (.ref x :: (vs ++ dvs)) (upd (upd H dx (.own x)) x (.ins C dx [])) (fun v H2 => v = .non ∧ Q (.ref x) H2) E) :
    wpAny (model X.prog X.w) X.A (call (.ref C) us) (EP X pins σ Q) X.xe s := by
  have hq := h (s.heap.objs.size + 1) s.heap.objs.size (I.hok.fresh (Nat.le_succ _)) (I.hok.fresh (Nat.le_refl _)) (Nat.ne_of_lt (Nat.lt_succ_self _))
  have I2 := Inv.made (C := C) I
  have r2 : Vals (V.ref (s.heap.objs.size + 1) :: (vs ++ dvs)) (Value.ref (s.heap.objs.size + 1) :: (us ++ dvl)) := .cons rfl (r.append hd)
  have hl : (Value.ref (s.heap.objs.size + 1) :: us ++ dvl).length = ps.length := by
    have e := r2.length
    rw [F.len _ _ _ _ hq] at e
    exact e.symm
  refine wpAny_call (make_map (f := f) I.kIn Mk.makes Mk.init (beq_iff_eq.mp Mk.fn) (codeAny_mono (F.run _ X.stack _ _ ⟨Value.ref (s.heap.objs.size + 1) :: us, []⟩ (Value.ref (s.heap.objs.size + 1) :: (us ++ dvl)) _ _ E (hr.make C us []) (by first | exact gr | (simpa [Around.under, Code.guards, Code.isGuard, pushGuards, guardIds] using gr))
    (I2.env0.make C us []) (hb _ (Value.ref (s.heap.objs.size + 1) :: us) I2.kIn hl) r2 hq) fun r s' hq' => ?_))
  cases r with
  | error e => exact hx pins _ _ e s' I2 hq'
  | ok fl =>
    cases fl with
    | ret u =>
      obtain ⟨v, H', I3, rv, ev, q3⟩ := I2.after hq'
      subst ev
      exact ⟨rv, ⟨V.ref (s.heap.objs.size + 1), H', I3, rfl, q3⟩⟩
    | next => exact False.elim hq'
    | brk => exact False.elim hq'
    | cont => exact False.elim hq'
/-- the new instance in the store -/
theorem Ok.made {K : PySem.W.Frag} {L : List Addr} {G H : Hp} {a dx : Addr} (ok : Ok K L G H μ) (h1 : H a = none) (h2 : H dx = none) (ne : dx ≠ a) :
    Ok K (L ++ [a]) G (upd (upd H dx (.own a)) a (.ins C dx [])) (μ ++ [.ins C [] []]) ∧ Step L G H (L ++ [a]) G (upd (upd H dx (.own a)) a (.ins C dx [])) := by
  obtain ⟨o1, s1⟩ := ok.newH (o := .own a) h2
  have h1' : upd H dx (.own a) a = none := by rw [upd_ne (Ne.symm ne)]; exact h1
  obtain ⟨o2, s2⟩ := o1.alloc (o := .ins C dx []) (m := .ins C [] []) h1' ⟨dx, [], upd_same, rfl, Reps.nil⟩
  exact ⟨o2, s1.trans s2⟩
theorem last_get {α : Type} (l : List α) (x : α) : (l ++ [x])[l.length]? = some x := by simp
theorem makeO {dvs : List V} {dvl : List Value} {dds : List D} (Mk : Mk X.K C f) (F : FnG X.prog X.w X.K X.mg X.base j f fd ps (spR X.K R)) (hb : Binds X.K fd ps dvl) (hd : Vals dvs dvl) (hdd : ∀ L G, Reps X.K L G dds dvs) (g : Gd X W k) (hj : j + 1 ≤ k) (hR : MakeR R C (ds ++ dds) μ o) :
    CallO X W (fun us => call (.ref C) us) ds μ o := by
  intro pins s σ H xs us Q L G I rx ok r co
  refine run_makeS (E := WE W σ) Mk F (g.hr.mono hj) g.gr hb hd (passAt g.tk σ) I rx fun a dx h1 h2 ne => ?_
  obtain ⟨o2, s2⟩ := ok.made (C := C) h1 h2 ne
  have la : (L ++ [a])[μ.length]? = some a := by rw [← ok.len]; exact last_get L a
  have rr : Reps X.K (L ++ [a]) G (.loc μ.length :: (ds ++ dds)) (.ref a :: (xs ++ dvs)) := Reps.cons (rep_loc.mpr ⟨a, la, rfl⟩) ((r.step s2).append (hdd _ _))
  cases hR with
  | obj h l hl hfs =>
    rename_i ns fs μ2
    refine ⟨_, _, _, _, _, o2, rr, h, fun v L3 G3 H3 s3 o3 r3 => ⟨rep_non.mp r3, ?_⟩⟩
    have s13 := s2.trans s3
    have hlen : μ2.length = μ.length := l.1
    have la3 : L3[μ2.length]? = some a := by rw [hlen]; exact s3.pre _ _ la
    obtain ⟨dx', vs', eh, _, rv⟩ := o3.at_ μ2.length a _ la3 (last_get μ2 _)
    have o4 : Ok X.K (L3.take μ2.length) G3 H3 μ2 := o3.cut (l.all ok)
    have s4 : Step L G H (L3.take μ2.length) G3 H3 := s13.cut (by rw [ok.len, hlen]; exact Nat.le_refl _)
    have hna : a ∉ L3.take μ2.length := fun z => by
      obtain ⟨i, hi, ei⟩ := List.getElem_of_mem z
      rw [List.length_take] at hi
      rw [List.getElem_take] at ei
      obtain ⟨g1, g2⟩ := List.getElem?_eq_some_iff.mp la3
      have := (List.getElem_inj o3.nd).mp (ei.trans g2.symm)
      omega
    obtain ⟨o5, sg⟩ := o4.tell (p := a) (o := .ins C dx' (ns.zip vs')) eh hna
    exact co _ _ _ H3 (s4.tell h1 sg) o5 (rep_obj.mpr ⟨a, dx', vs', rfl, upd_same, hl, (rv.cut (n := μ2.length) (by rw [hlen]; exact hfs)).mono (.refl _) sg⟩)
  | loc h hl =>
    refine ⟨_, _, _, _, _, o2, rr, h, fun v L3 G3 H3 s3 o3 r3 => ⟨rep_non.mp r3, ?_⟩⟩
    exact co _ L3 G3 H3 (s2.trans s3) o3 (rep_loc.mpr ⟨a, s3.pre _ _ la, rfl⟩)
  | exc h l hfs =>
    rename_i C' ns fs μ2 m
    refine ⟨_, _, _, _, _, o2, rr, h, fun dx' L3 G3 H3 s3 o3 x3 => ?_⟩
    have hlen : μ2.length = μ.length := l.1
    exact co dx' _ G3 H3 ((s2.trans s3).cut (n := μ2.length) (by rw [ok.len, hlen]; exact Nat.le_refl _)) (o3.cut (l.all ok)) (xd_cut (L' := L3) x3 (by rw [hlen]; exact hfs))
/-- a class that may be made -/
structure Mak (P : Program) (w : World) (K : PySem.W.Frag) (mg : Str → Option Value) (base : Heap) (k : Nat) (ps : List Str) (R : Rl) (C f : Addr) (fd : FuncData) : Prop where
  mak : Mk K C f
  ok : FnG P w K mg base k f fd ps (spR K R)
/-- C(e, ..), every parameter given -/
theorem ev_make (g : Gd X W k) (c : Mak X.prog X.w X.K X.mg X.base j ps R C f fd) (hb : Binds X.K fd ps []) (hm : X.mg x = some (.ref C)) (ha : PA X (e :: es) (tVA X.K ρ μ ds μ1)) (hR : MakeR R C ds μ1 o) (hj : j + 1 ≤ k := by decide) (hg : Gl X x := by rfl)
    (hdb : (x == ("__debug__" : Str)) = false := by decide) (he : starEach (e :: es) X.env = (false, eval e X.env) :: starEach es X.env := by rfl) (hpl : (backTo pos (starEach es X.env)).any (·.1) = false := by rfl) :
    PE X (.Call (.Name x p) (e :: es) [] pos) (tO W X.K ρ μ o) :=
  ⟨fun pins s σ H Q I h => wpAny_Call_Name_kw (ld_glob I hg hm (PySem.W.callWith_K (h₀ := X.base) I.ok.mod.kin c.mak.kp (argsO ha (makeO (dvs := []) (dds := []) c.mak c.ok hb .nil (fun _ _ => Reps.nil) g hj (by rw [List.append_nil]; exact hR)) I h pos) he hpl) hdb)⟩
/-- C(e, ..), defaults filled up -/
theorem ev_makeD {dvs : List V} {dvl : List Value} {dds : List D} (g : Gd X W k) (c : Mak X.prog X.w X.K X.mg X.base j ps R C f fd) (hb : Binds X.K fd ps dvl) (hd : Vals dvs dvl) (hdd : ∀ L G, Reps X.K L G dds dvs) (hm : X.mg x = some (.ref C)) (ha : PA X (e :: es) (tVA X.K ρ μ ds μ1)) (hR : MakeR R C (ds ++ dds) μ1 o) (hj : j + 1 ≤ k := by decide) (hg : Gl X x := by rfl)
    (hdb : (x == ("__debug__" : Str)) = false := by decide) (he : starEach (e :: es) X.env = (false, eval e X.env) :: starEach es X.env := by rfl) (hpl : (backTo pos (starEach es X.env)).any (·.1) = false := by rfl) :
    PE X (.Call (.Name x p) (e :: es) [] pos) (tO W X.K ρ μ o) :=
  ⟨fun pins s σ H Q I h => wpAny_Call_Name_kw (ld_glob I hg hm (PySem.W.callWith_K (h₀ := X.base) I.ok.mod.kin c.mak.kp (argsO ha (makeO c.mak c.ok hb hd hdd g hj hR) I h pos) he hpl) hdb)⟩
theorem ev_makeD0 {dvs : List V} {dvl : List Value} {dds : List D} (g : Gd X W k) (c : Mak X.prog X.w X.K X.mg X.base j ps R C f fd) (hb : Binds X.K fd ps dvl) (hd : Vals dvs dvl) (hdd : ∀ L G, Reps X.K L G dds dvs) (hm : X.mg x = some (.ref C)) (hR : MakeR R C dds μ o) (hj : j + 1 ≤ k := by decide) (hg : Gl X x := by rfl)
    (hdb : (x == ("__debug__" : Str)) = false := by decide) : PE X (.Call (.Name x p) [] [] pos) (tO W X.K ρ μ o) :=
  ⟨fun pins s σ H Q I ⟨L, G, n, co⟩ => wpAny_Call_Name_kw (ld_glob I hg hm (PySem.W.callWith_K0 I.kIn c.mak.kp (makeO (ds := []) c.mak c.ok hb hd hdd g hj hR pins s σ H [] [] Q L G I .nil n.ok Reps.nil co)) hdb)⟩
/-- a local name holds the class: cls(e, ..) -/
theorem ev_makeL (i : Nat) (g : Gd X W k) (c : Mak X.prog X.w X.K X.mg X.base j ps R C f fd) (hb : Binds X.K fd ps []) (hi : ρ[i]? = some (some (.ref C))) (ha : PA X (e :: es) (tVA X.K ρ μ ds μ1)) (hR : MakeR R C ds μ1 o) (hj : j + 1 ≤ k := by decide)
    (hN : X.N[i]? = some x := by rfl) (hv : Vis X.env.scope x := by first | exact Or.inl rfl | exact Or.inr (Or.inl rfl) | exact Or.inr (Or.inr rfl)) (h1 : (x == ("__debug__" : Str)) = false := by decide) (h2 : (x == ("__classdict__" : Str)) = false := by decide)
    (he : starEach (e :: es) X.env = (false, eval e X.env) :: starEach es X.env := by rfl) (hpl : (backTo pos (starEach es X.env)).any (·.1) = false := by rfl) :
    PE X (.Call (.Name x p) (e :: es) [] pos) (tO W X.K ρ μ o) := by
  refine ⟨fun pins s σ H Q I h => ?_⟩
  obtain ⟨L, G, n, co⟩ := id h
  obtain ⟨v, ev, rv⟩ := n.env.at_ i _ hi
  refine wpAny_Call_Name_kw (thn ((pe_var (pos := p) hN hv h1 h2).run pins s σ H (fun v H1 => v = .ref C ∧ H1 = H) I ⟨v, ev, rep_ref.mp rv, rfl⟩) fun u s1 ⟨v', H1, I1, r1, q1⟩ => ?_)
  obtain ⟨rfl, rfl⟩ := q1
  cases r1
  exact PySem.W.callWith_K (h₀ := X.base) I.ok.mod.kin c.mak.kp (argsO ha (makeO (dvs := []) (dds := []) c.mak c.ok hb .nil (fun _ _ => Reps.nil) g hj (by rw [List.append_nil]; exact hR)) I1 h pos) he hpl
end

/-! ### fields stored -/
section
variable {X : Cx} {W : WX} {k : Nat} {e oe : Expr} {pos pos' : Pos} {ρ : Env'} {μ μ1 μ2 : List M} {d : D} {i : Nat} {C : Addr} {ns : List Str} {fs : List D} {f : Str}
/-- a field put among the others -/
def putN (f : Str) : List Str → List Str
  | [] => [f]
  | g :: r => if g = f then g :: r else g :: putN f r
def putD (f : Str) (d : D) : List Str → List D → List D
  | [], _ => [d]
  | _ :: _, [] => []
  | g :: r, x :: xs => if g = f then d :: xs else x :: putD f d r xs
theorem put_rep {K : PySem.W.Frag} {L : List Addr} {G : Hp} {v : V} (rv : Rep K L G d v) : ∀ {ns : List Str} {fs : List D} {vs : List V}, ns.length = fs.length → Reps K L G fs vs → ∃ vs', putF f v (ns.zip vs) = (putN f ns).zip vs' ∧ (putN f ns).length = (putD f d ns fs).length ∧ Reps K L G (putD f d ns fs) vs'
  | [], [], vs, _, r => ⟨[v], by simp [putF, putN], rfl, Reps.cons rv Reps.nil⟩
  | [], _ :: _, _, h, _ => by simp at h
  | _ :: _, [], _, h, _ => by simp at h
  | g :: ns, x :: fs, vs, h, r => by
    obtain ⟨u, q, rfl, r1, r2⟩ := r.inv_cons
    by_cases hg : g = f
    · refine ⟨v :: q, ?_, ?_, ?_⟩
      · simp [putF, putN, hg]
      · simp only [putN, putD, hg, if_true, List.length_cons]
        simpa using h
      · simp only [putD, hg, if_true]
        exact Reps.cons rv r2
    · obtain ⟨vs', e1, e2, e3⟩ := put_rep rv (by simpa using h) r2
      refine ⟨u :: vs', ?_, ?_, ?_⟩
      · simp [putF, putN, hg, e1]
      · simp only [putN, putD, hg, if_false, List.length_cons, e2]
      · simp only [putD, hg, if_false]
        exact Reps.cons r1 e3
/-- o.f = e, o a thing of the store -/
theorem es_fld (he : PE X e (tV X.K ρ μ d μ1)) (ho : PE X oe (tV X.K ρ μ1 (.loc i) μ2)) (hi : μ2[i]? = some (.ins C ns fs)) (c : Cls X.K C) (n : NoAttr X.K C f) (hl : ns.length < 1000 := by decide) (hs : swapsWith e (some (.Attribute oe f pos')) pos.line X.env = pure false := by rfl) :
    PS X (.Assign [.Attribute oe f pos'] e pos) (tS W X.K ρ μ (.next ρ (μ2.set i (.ins C (putN f ns) (putD f d ns fs))))) :=
  ps_of (ps_fld ho he hs) fun D σ H ⟨L, G, nw, co⟩ => ⟨L, G, nw, fun v L1 G1 H1 s1 o1 r1 => ⟨L1, G1, nw.step s1 o1, fun u L2 G2 H2 s2 o2 r2 => by
    obtain ⟨a, ea, ev⟩ := rep_loc.mp r2
    obtain ⟨dx, vs, eh, hl2, rr⟩ := o2.at_ i a _ ea hi
    obtain ⟨vs', e1, e2, e3⟩ := put_rep (r1.step s2) hl2 rr
    refine ⟨a, C, dx, _, ev, eh, c, n, ?_, ?_⟩
    · rw [List.length_zip]
      omega
    · obtain ⟨o3, s3⟩ := o2.write (o := .ins C dx (putF f v (ns.zip vs))) (m := .ins C (putN f ns) (putD f d ns fs)) ea ⟨dx, vs', by rw [upd_same, e1], e2, e3⟩
      exact co σ L2 G2 _ ((s1.trans s2).trans s3) ⟨o3, ((nw.env.step s1).step s2).step s3⟩⟩⟩
end
end PM
set_option Elab.async false
set_option linter.all false
set_option maxRecDepth 100000
namespace PM
open PySem L2
abbrev W0 : WX := fun _ _ _ _ => False

/-! ### ints -/
section
variable {X : Cx} {W : WX} {μ : List M} {i j : Int} {x y : Str} {a b : Bool}
theorem oo_int {f : Value → Value → Sem Value} {g : Int → Int → Int} (h : OpR X f (rI0 fun i j => .int (g i j))) : OpO X W f (.int i) (.int j) μ (.ret (.int (g i j)) μ) :=
  opO_of h fun σ x y H Q L G o r1 r2 c => ⟨i, j, rep_int.mp r1, rep_int.mp r2, CO.now (W := W) (σ := σ) c o (rep_int.mpr rfl)⟩
theorem oo_intC {f : Value → Value → Sem Value} {C : Int → Int → Prop} {g : Int → Int → Int} (h : OpR X f (rI C fun i j => .int (g i j))) (hc : C i j) : OpO X W f (.int i) (.int j) μ (.ret (.int (g i j)) μ) :=
  opO_of h fun σ x y H Q L G o r1 r2 c => ⟨i, j, rep_int.mp r1, rep_int.mp r2, hc, CO.now (W := W) (σ := σ) c o (rep_int.mpr rfl)⟩
theorem oo_intB {f : Value → Value → Sem Value} {g : Int → Int → Bool} (h : OpR X f (rI0 fun i j => .bl (g i j))) : OpO X W f (.int i) (.int j) μ (.ret (.bl (g i j)) μ) :=
  opO_of h fun σ x y H Q L G o r1 r2 c => ⟨i, j, rep_int.mp r1, rep_int.mp r2, CO.now (W := W) (σ := σ) c o (rep_bl.mpr rfl)⟩
theorem oo_add : OpO X W (binaryOp .Add) (.int i) (.int j) μ (.ret (.int (i + j)) μ) := oo_int op_add
theorem oo_sub : OpO X W (binaryOp .Sub) (.int i) (.int j) μ (.ret (.int (i - j)) μ) := oo_int op_sub
theorem oo_mul (h : CMulW i j) : OpO X W (binaryOp .Mult) (.int i) (.int j) μ (.ret (.int (i * j)) μ) := oo_intC op_mulW h
theorem oo_mulS (h : CMul i j) : OpO X W (binaryOp .Mult) (.int i) (.int j) μ (.ret (.int (i * j)) μ) := oo_intC op_mul h
theorem oo_fdiv (h : CDivW i j) : OpO X W (binaryOp .FloorDiv) (.int i) (.int j) μ (.ret (.int (i / j)) μ) := oo_intC op_fdivW h
theorem oo_fdivS (h : CDiv i j) : OpO X W (binaryOp .FloorDiv) (.int i) (.int j) μ (.ret (.int (i / j)) μ) := oo_intC op_fdiv h
theorem oo_mod (h : 0 < j) : OpO X W (binaryOp .Mod) (.int i) (.int j) μ (.ret (.int (i % j)) μ) := oo_intC op_mod h
theorem oo_pow (h : CPow i j) : OpO X W (binaryOp .Pow) (.int i) (.int j) μ (.ret (.int (i ^ j.toNat)) μ) := oo_intC op_pow h
theorem oc_lt : OpO X W (compareOp .Lt) (.int i) (.int j) μ (.ret (.bl (decide (i < j))) μ) := oo_intB op_lt
theorem oc_le : OpO X W (compareOp .LtE) (.int i) (.int j) μ (.ret (.bl (decide (i ≤ j))) μ) := oo_intB op_le
theorem oc_gt : OpO X W (compareOp .Gt) (.int i) (.int j) μ (.ret (.bl (decide (j < i))) μ) := oo_intB op_gt
theorem oc_ge : OpO X W (compareOp .GtE) (.int i) (.int j) μ (.ret (.bl (decide (j ≤ i))) μ) := oo_intB op_ge
theorem ou_neg : UnO X W (unaryOp .USub) (.int i) μ (.ret (.int (-i)) μ) := unO_of un_neg fun σ x H Q L G o r c => ⟨i, rep_int.mp r, CO.now (W := W) (σ := σ) c o (rep_int.mpr rfl)⟩
/-- == of scalars: as the layer's rule has it -/
def Sc : D → Option V
  | .non => some .non
  | .bl b => some (.bl b)
  | .int i => some (.int i)
  | .str x => some (.str x)
  | _ => none
theorem Sc.rep {K L G} {d : D} {v u : V} (h : Sc d = some v) (r : Rep K L G d u) : u = v := by
  cases d <;> simp only [Sc, Option.some.injEq] at h <;> first | cases h | skip
  · exact rep_non.mp r
  · exact (rep_bl.mp r)
  · exact (rep_int.mp r)
  · exact (rep_str.mp r)
theorem oc_eqS {da db : D} {v u : V} (h1 : Sc da = some v) (h2 : Sc db = some u) (hs : scal v u = true := by rfl) : OpO X W (compareOp .Eq) da db μ (.ret (.bl (decide (v = u))) μ) :=
  opO_of op_eq fun σ x y H Q L G o r1 r2 c => by
    obtain rfl := Sc.rep h1 r1
    obtain rfl := Sc.rep h2 r2
    exact ⟨hs, CO.now (W := W) (σ := σ) c o (rep_bl.mpr rfl)⟩
theorem oc_neS {da db : D} {v u : V} (h1 : Sc da = some v) (h2 : Sc db = some u) (hs : scal v u = true := by rfl) : OpO X W (compareOp .NotEq) da db μ (.ret (.bl (!decide (v = u))) μ) :=
  opO_of op_ne fun σ x y H Q L G o r1 r2 c => by
    obtain rfl := Sc.rep h1 r1
    obtain rfl := Sc.rep h2 r2
    exact ⟨hs, CO.now (W := W) (σ := σ) c o (rep_bl.mpr rfl)⟩
theorem dec_int_eq (i j : Int) : decide (V.int i = V.int j) = decide (i = j) := by
  by_cases h : i = j
  · subst h; simp
  · rw [decide_eq_false h, decide_eq_false (fun z => h (by cases z; rfl))]
theorem dec_str_eq (i j : Str) : decide (V.str i = V.str j) = decide (i = j) := by
  by_cases h : i = j
  · subst h; simp
  · rw [decide_eq_false h, decide_eq_false (fun z => h (by cases z; rfl))]
theorem dec_bl_eq (i j : Bool) : decide (V.bl i = V.bl j) = decide (i = j) := by
  by_cases h : i = j
  · subst h; simp
  · rw [decide_eq_false h, decide_eq_false (fun z => h (by cases z; rfl))]
theorem oc_eq : OpO X W (compareOp .Eq) (.int i) (.int j) μ (.ret (.bl (decide (i = j))) μ) := by
  rw [← dec_int_eq]
  exact oc_eqS rfl rfl
theorem oc_ne : OpO X W (compareOp .NotEq) (.int i) (.int j) μ (.ret (.bl (!decide (i = j))) μ) := by
  rw [← dec_int_eq]
  exact oc_neS rfl rfl
theorem oc_eqT : OpO X W (compareOp .Eq) (.str x) (.str y) μ (.ret (.bl (decide (x = y))) μ) := by
  rw [← dec_str_eq]
  exact oc_eqS rfl rfl
theorem oc_neT : OpO X W (compareOp .NotEq) (.str x) (.str y) μ (.ret (.bl (!decide (x = y))) μ) := by
  rw [← dec_str_eq]
  exact oc_neS rfl rfl
theorem oc_eqB : OpO X W (compareOp .Eq) (.bl a) (.bl b) μ (.ret (.bl (decide (a = b))) μ) := by
  rw [← dec_bl_eq]
  exact oc_eqS rfl rfl
theorem oc_neB : OpO X W (compareOp .NotEq) (.bl a) (.bl b) μ (.ret (.bl (!decide (a = b))) μ) := by
  rw [← dec_bl_eq]
  exact oc_neS rfl rfl
/-- is None -/
def D.isN : D → Bool
  | .non => true
  | _ => false
theorem Rep.isN {K L G} {d : D} {v : V} (r : Rep K L G d v) : decide (v = .non) = d.isN := by
  cases d with
  | non => rw [rep_non.mp r]; rfl
  | bl b => rw [rep_bl.mp r]; rfl
  | int b => rw [rep_int.mp r]; rfl
  | str b => rw [rep_str.mp r]; rfl
  | ref b => rw [rep_ref.mp r]; rfl
  | ty b => rw [rep_ty.mp r]; rfl
  | loc n => obtain ⟨a, _, e⟩ := rep_loc.mp r; rw [e]; rfl
  | tup n => obtain ⟨a, _, e, _⟩ := rep_tup.mp r; rw [e]; rfl
  | lst n => obtain ⟨a, _, e, _⟩ := rep_lst.mp r; rw [e]; rfl
  | scr n => obtain ⟨a, _, e, _⟩ := rep_scr.mp r; rw [e]; rfl
  | obj C n f => obtain ⟨a, _, _, e, _⟩ := rep_obj.mp r; rw [e]; rfl
  | exn a dd n f => obtain ⟨_, e, _⟩ := rep_exn.mp r; rw [e]; rfl
theorem oc_is {d : D} : OpO X W (compareOp .Is) d .non μ (.ret (.bl d.isN) μ) :=
  opO_of op_isN fun σ x y H Q L G o r1 r2 c => ⟨rep_non.mp r2, by rw [r1.isN]; exact CO.now (W := W) (σ := σ) c o (rep_bl.mpr rfl)⟩
theorem oc_isNot {d : D} : OpO X W (compareOp .IsNot) d .non μ (.ret (.bl (!d.isN)) μ) :=
  opO_of op_notN fun σ x y H Q L G o r1 r2 c => ⟨rep_non.mp r2, by rw [r1.isN]; exact CO.now (W := W) (σ := σ) c o (rep_bl.mpr rfl)⟩
theorem oo_cat (h : x.length + y.length ≤ sizeLine) : OpO X W (binaryOp .Add) (.str x) (.str y) μ (.ret (.str (x ++ y)) μ) :=
  opO_of op_add_str fun σ u v H Q L G o r1 r2 c => ⟨x, y, rep_str.mp r1, rep_str.mp r2, h, CO.now (W := W) (σ := σ) c o (rep_str.mpr rfl)⟩
end

/-! ### calls of built-ins by name -/
section
variable {X : Cx} {W : WX} {μ μ1 : List M} {ρ : Env'} {ds : List D} {o : FO} {e : Expr} {es : List Expr} {x : Str} {p pos : Pos} {id T : String} {i j : Int}
theorem ev_blt (ha : PA X (e :: es) (tVA X.K ρ μ ds μ1)) (hf : CallO X W (fun us => call (.builtin id) us) ds μ1 o) (hm : X.mg x = none) (hv : bootBuiltins x = some (.builtin id)) (hg : Gl X x := by rfl) (hn : x ≠ "__name__" := by decide) (hdb : (x == ("__debug__" : Str)) = false := by decide)
    (he : starEach (e :: es) X.env = (false, eval e X.env) :: starEach es X.env := by rfl) (hpl : (backTo pos (starEach es X.env)).any (·.1) = false := by rfl) : PE X (.Call (.Name x p) (e :: es) [] pos) (tO W X.K ρ μ o) :=
  ⟨fun pins s σ H Q I h => wpAny_Call_Name_kw (ld_blt I hg hm hv (PyProof.Rows.callWith_builtin1 (thn (argsO ha hf I h pos) fun us s1 h1 => h1.2) he hpl) hn hdb)⟩
theorem ev_bcl (ha : PA X (e :: es) (tVA X.K ρ μ ds μ1)) (hf : CallO X W (fun us => call (.type T) us) ds μ1 o) (hm : X.mg x = none) (hv : bootBuiltins x = some (.type T)) (hg : Gl X x := by rfl) (hn : x ≠ "__name__" := by decide) (hdb : (x == ("__debug__" : Str)) = false := by decide)
    (he : starEach (e :: es) X.env = (false, eval e X.env) :: starEach es X.env := by rfl) (hpl : (backTo pos (starEach es X.env)).any (·.1) = false := by rfl) : PE X (.Call (.Name x p) (e :: es) [] pos) (tO W X.K ρ μ o) :=
  ⟨fun pins s σ H Q I h => wpAny_Call_Name_kw (ld_blt I hg hm hv (PyProof.Rows.callWith_type1 (thn (argsO ha hf I h pos) fun us s1 h1 => h1.2) he hpl) hn hdb)⟩
theorem Reps.one {K L G} {d : D} {vs : List V} (r : Reps K L G [d] vs) : ∃ v, vs = [v] ∧ Rep K L G d v := by
  obtain ⟨v, q, rfl, r1, r2⟩ := r.inv_cons
  rw [r2.inv_nil]
  exact ⟨v, rfl, r1⟩
theorem Reps.two {K L G} {d c : D} {vs : List V} (r : Reps K L G [d, c] vs) : ∃ v u, vs = [v, u] ∧ Rep K L G d v ∧ Rep K L G c u := by
  obtain ⟨v, q, rfl, r1, r2⟩ := r.inv_cons
  obtain ⟨u, rfl, r3⟩ := r2.one
  exact ⟨v, u, rfl, r1, r3⟩
theorem cb_abs : CallO X W (fun us => call (.builtin "abs") us) [.int i] μ (.ret (.int (if i < 0 then -i else i)) μ) :=
  callO_of call_abs fun σ xs H Q L G o r c => by
    obtain ⟨v, rfl, r1⟩ := r.one
    exact ⟨i, by rw [rep_int.mp r1], CO.now (W := W) (σ := σ) c o (rep_int.mpr rfl)⟩
theorem cb_max (hc : X.calm = true) : CallO X W (fun us => call (.builtin "max") us) [.int i, .int j] μ (.ret (.int (if j > i then j else i)) μ) :=
  callO_of (call_max2 hc) fun σ xs H Q L G o r c => by
    obtain ⟨v, u, rfl, r1, r2⟩ := r.two
    exact ⟨i, j, by rw [rep_int.mp r1, rep_int.mp r2], CO.now (W := W) (σ := σ) c o (rep_int.mpr rfl)⟩
theorem cb_min (hc : X.calm = true) : CallO X W (fun us => call (.builtin "min") us) [.int i, .int j] μ (.ret (.int (if j < i then j else i)) μ) :=
  callO_of (call_min2 hc) fun σ xs H Q L G o r c => by
    obtain ⟨v, u, rfl, r1, r2⟩ := r.two
    exact ⟨i, j, by rw [rep_int.mp r1, rep_int.mp r2], CO.now (W := W) (σ := σ) c o (rep_int.mpr rfl)⟩
theorem ct_intB {b : Bool} : CallO X W (fun us => call (.type "int") us) [.bl b] μ (.ret (.int (if b then 1 else 0)) μ) :=
  callO_of call_int1 fun σ xs H Q L G o r c => by
    obtain ⟨v, rfl, r1⟩ := r.one
    exact .inr ⟨b, by rw [rep_bl.mp r1], CO.now (W := W) (σ := σ) c o (rep_int.mpr rfl)⟩
theorem ct_boolB {b : Bool} : CallO X W (fun us => call (.type "bool") us) [.bl b] μ (.ret (.bl b) μ) :=
  callO_of call_bool1 fun σ xs H Q L G o r c => by
    obtain ⟨v, rfl, r1⟩ := r.one
    exact .inr ⟨b, by rw [rep_bl.mp r1], CO.now (W := W) (σ := σ) c o (rep_bl.mpr rfl)⟩
theorem ct_strI (h : i.natAbs.log2 < 1920) : CallO X W (fun us => call (.type "str") us) [.int i] μ (.ret (.str (toString i)) μ) :=
  callO_of call_str_int fun σ xs H Q L G o r c => by
    obtain ⟨v, rfl, r1⟩ := r.one
    exact ⟨i, by rw [rep_int.mp r1], h, CO.now (W := W) (σ := σ) c o (rep_str.mpr rfl)⟩
theorem cb_len {ds : List D} (d : D) (h : d = .tup ds ∨ d = .lst ds ∨ d = .scr ds) : CallO X W (fun us => call (.builtin "len") us) [d] μ (.ret (.int ds.length) μ) :=
  callO_of call_len_seq fun σ xs H Q L G o r c => by
    obtain ⟨v, rfl, r1⟩ := r.one
    rcases h with rfl | rfl | rfl
    · obtain ⟨a, vs, e, q, rr⟩ := rep_tup.mp r1
      exact ⟨a, vs, by rw [e], .inr (Same.sqT o.sub q), by rw [rr.length]; exact CO.now (W := W) (σ := σ) c o (rep_int.mpr rfl)⟩
    · obtain ⟨a, vs, e, q, rr⟩ := rep_lst.mp r1
      exact ⟨a, vs, by rw [e], .inl (SqL.of (o.sub _ _ q)), by rw [rr.length]; exact CO.now (W := W) (σ := σ) c o (rep_int.mpr rfl)⟩
    · obtain ⟨a, vs, e, q, rr⟩ := rep_scr.mp r1
      exact ⟨a, vs, by rw [e], .inl (Same.sqL o.sub q), by rw [rr.length]; exact CO.now (W := W) (σ := σ) c o (rep_int.mpr rfl)⟩
theorem cb_lenL {ds : List D} {n : Nat} (h : μ[n]? = some (.lst ds)) : CallO X W (fun us => call (.builtin "len") us) [.loc n] μ (.ret (.int ds.length) μ) :=
  callO_of call_len_seq fun σ xs H Q L G o r c => by
    obtain ⟨v, rfl, r1⟩ := r.one
    obtain ⟨a, ea, e⟩ := rep_loc.mp r1
    obtain ⟨vs, eh, rr⟩ := o.at_ n a _ ea h
    exact ⟨a, vs, by rw [e], .inl (SqL.of eh), by rw [rr.length]; exact CO.now (W := W) (σ := σ) c o (rep_int.mpr rfl)⟩
theorem cb_lenS {y : Str} (h : y.length ≤ sizeLine) : CallO X W (fun us => call (.builtin "len") us) [.str y] μ (.ret (.int y.length) μ) :=
  callO_of call_len fun σ xs H Q L G o r c => by
    obtain ⟨v, rfl, r1⟩ := r.one
    exact ⟨.str y, y.length, by rw [rep_str.mp r1], ⟨h, rfl⟩, CO.now (W := W) (σ := σ) c o (rep_int.mpr rfl)⟩
/-- tuple(list), tuple(tuple) -/
theorem ct_tup {ds : List D} : CallO X W (fun us => call (.type "tuple") us) [.lst ds] μ (.ret (.tup ds) μ) :=
  callO_of call_tuple_of fun σ xs H Q L G o r c => by
    obtain ⟨v, rfl, r1⟩ := r.one
    obtain ⟨a, vs, e, q, rr⟩ := rep_lst.mp r1
    refine ⟨a, vs, by rw [e], .inl ⟨SqL.of (o.sub _ _ q), fun l hl => ?_⟩⟩
    obtain ⟨o', s'⟩ := o.new (o := .tup vs) hl
    exact c _ L _ _ s' o' (rep_tup.mpr ⟨l, vs, rfl, SqT.of upd_same, rr.step s'⟩)
theorem ct_tupL {ds : List D} {n : Nat} (h : μ[n]? = some (.lst ds)) : CallO X W (fun us => call (.type "tuple") us) [.loc n] μ (.ret (.tup ds) μ) :=
  callO_of call_tuple_of fun σ xs H Q L G o r c => by
    obtain ⟨v, rfl, r1⟩ := r.one
    obtain ⟨a, ea, e⟩ := rep_loc.mp r1
    obtain ⟨vs, eh, rr⟩ := o.at_ n a _ ea h
    refine ⟨a, vs, by rw [e], .inl ⟨SqL.of eh, fun l hl => ?_⟩⟩
    obtain ⟨o', s'⟩ := o.new (o := .tup vs) hl
    exact c _ L _ _ s' o' (rep_tup.mpr ⟨l, vs, rfl, SqT.of upd_same, rr.step s'⟩)
theorem ct_tupT {ds : List D} : CallO X W (fun us => call (.type "tuple") us) [.tup ds] μ (.ret (.tup ds) μ) :=
  callO_of call_tuple_of fun σ xs H Q L G o r c => by
    obtain ⟨v, rfl, r1⟩ := r.one
    obtain ⟨a, vs, e, q, rr⟩ := rep_tup.mp r1
    exact ⟨a, vs, by rw [e], .inr ⟨Same.sqT o.sub q, CO.now (W := W) (σ := σ) c o (by rw [← e]; exact r1)⟩⟩
/-- any, all of a list of bools -/
theorem bls_rep {K L G} : ∀ {bs : List Bool} {vs : List V}, Reps K L G (bs.map D.bl) vs → vs = bs.map V.bl
  | [], vs, r => r.inv_nil
  | b :: bs, vs, r => by
    obtain ⟨v, q, rfl, r1, r2⟩ := r.inv_cons
    rw [rep_bl.mp r1, bls_rep r2]
    rfl
theorem ints_rep {K L G} : ∀ {bs : List Int} {vs : List V}, Reps K L G (bs.map D.int) vs → vs = bs.map V.int
  | [], vs, r => r.inv_nil
  | b :: bs, vs, r => by
    obtain ⟨v, q, rfl, r1, r2⟩ := r.inv_cons
    rw [rep_int.mp r1, ints_rep r2]
    rfl
theorem ints_reps {K L G} : ∀ (bs : List Int), Reps K L G (bs.map D.int) (bs.map V.int)
  | [] => Reps.nil
  | b :: bs => Reps.cons (rep_int.mpr rfl) (ints_reps bs)
theorem cb_any (hc : X.calm = true) {bs : List Bool} : CallO X W (fun us => call (.builtin "any") us) [.lst (bs.map D.bl)] μ (.ret (.bl (bs.any _root_.id)) μ) :=
  callO_of (cr_any hc) fun σ xs H Q L G o r c => by
    obtain ⟨v, rfl, r1⟩ := r.one
    obtain ⟨a, vs, e, q, rr⟩ := rep_lst.mp r1
    rw [bls_rep rr] at q
    exact ⟨a, bs, by rw [e], SqL.of (o.sub _ _ q), CO.now (W := W) (σ := σ) c o (rep_bl.mpr rfl)⟩
theorem cb_all (hc : X.calm = true) {bs : List Bool} : CallO X W (fun us => call (.builtin "all") us) [.lst (bs.map D.bl)] μ (.ret (.bl (bs.all _root_.id)) μ) :=
  callO_of (cr_all hc) fun σ xs H Q L G o r c => by
    obtain ⟨v, rfl, r1⟩ := r.one
    obtain ⟨a, vs, e, q, rr⟩ := rep_lst.mp r1
    rw [bls_rep rr] at q
    exact ⟨a, bs, by rw [e], SqL.of (o.sub _ _ q), CO.now (W := W) (σ := σ) c o (rep_bl.mpr rfl)⟩
end

/-! ### displays, items -/
section
variable {X : Cx} {W : WX} {μ μ1 μ2 : List M} {ρ : Env'} {ds : List D} {d : D} {o : FO} {a b e : Expr} {es : List Expr} {pos : Pos} {i : Int}
theorem ev_tup {k : Nat} (h : PA X es (tVA X.K ρ μ ds μ1)) (hl : ds.length ≤ sizeLine := by first | decide | (simp only [List.length_cons, List.length_nil]; decide)) : PE X (.Tuple es k pos) (tV X.K ρ μ (.tup ds) μ1) :=
  pe_of (pe_tup h) fun σ H Q ⟨L, G, n, c⟩ => ⟨L, G, n, fun vs L1 G1 H1 s1 o1 r1 => ⟨by rw [r1.length]; exact hl, fun p hp => by
    obtain ⟨o', s'⟩ := o1.new (o := .tup vs) hp
    exact c _ L1 _ _ (s1.trans s') o' (rep_tup.mpr ⟨p, vs, rfl, SqT.of upd_same, r1.step s'⟩)⟩⟩
/-- a list that nobody will change -/
theorem ev_lst (h : PA X es (tVA X.K ρ μ ds μ1)) (hl : ds.length ≤ sizeLine := by first | decide | (simp only [List.length_cons, List.length_nil]; decide)) : PE X (.List es pos) (tV X.K ρ μ (.lst ds) μ1) :=
  pe_of (pe_lst h) fun σ H Q ⟨L, G, n, c⟩ => ⟨L, G, n, fun vs L1 G1 H1 s1 o1 r1 => ⟨by rw [r1.length]; exact hl, fun p hp => by
    obtain ⟨o', s'⟩ := o1.new (o := .lst vs) hp
    exact c _ L1 _ _ (s1.trans s') o' (rep_lst.mpr ⟨p, vs, rfl, upd_same, r1.step s'⟩)⟩⟩
/-- a list of the store -/
theorem ev_lstL (h : PA X es (tVA X.K ρ μ ds μ1)) (hl : ds.length ≤ sizeLine := by first | decide | (simp only [List.length_cons, List.length_nil]; decide)) : PE X (.List es pos) (tV X.K ρ μ (.loc μ1.length) (μ1 ++ [.lst ds])) :=
  pe_of (pe_lst h) fun σ H Q ⟨L, G, n, c⟩ => ⟨L, G, n, fun vs L1 G1 H1 s1 o1 r1 => ⟨by rw [r1.length]; exact hl, fun p hp => by
    obtain ⟨o', s'⟩ := o1.alloc (o := .lst vs) (m := .lst ds) hp ⟨vs, upd_same, r1.mono .app (.refl _)⟩
    exact c _ _ _ _ (s1.trans s') o' (rep_loc.mpr ⟨p, by rw [← o1.len]; exact last_get L1 p, rfl⟩)⟩⟩
/-- x[i] by values -/
theorem atI_rep {K L G} {ds : List D} {vs : List V} (r : Reps K L G ds vs) (h : atI ds i = some d) : ∃ v, atI vs i = some v ∧ Rep K L G d v := by
  unfold atI at h ⊢
  rw [r.length]
  cases e : ixN ds.length i with
  | none => rw [e] at h; cases h
  | some j =>
    rw [e] at h
    simp only [Option.bind_some] at h ⊢
    exact r.get h
/-- what can be indexed -/
def Ixd (μ : List M) (d : D) (ds : List D) : Prop := d = .tup ds ∨ d = .lst ds ∨ d = .scr ds ∨ ∃ n, d = .loc n ∧ μ[n]? = some (.lst ds)
theorem ev_ix {dq : D} (h1 : PE X a (tV X.K ρ μ dq μ1)) (h2 : PE X b (tV X.K ρ μ1 (.int i) μ2)) (hd : Ixd μ2 dq ds) (h : atI ds i = some d) (hs : PlainIx b := by exact fun _ _ => rfl) : PE X (.Subscript a b pos) (tV X.K ρ μ d μ2) := by
  refine pe_of (pe_ix (IxR.or ix_list ix_tup) h1 h2 hs) fun σ H Q ⟨L, G, n, c⟩ => ⟨L, G, n, fun v L1 G1 H1 s1 o1 r1 => ⟨L1, G1, n.step s1 o1, fun u L2 G2 H2 s2 o2 r2 => ?_⟩⟩
  have r1' := r1.step s2
  rcases hd with rfl | rfl | rfl | ⟨k, rfl, hk⟩
  · obtain ⟨p, vs, e, q, rr⟩ := rep_tup.mp r1'
    obtain ⟨z, ez, rz⟩ := atI_rep rr h
    exact .inr ⟨p, vs, i, z, e, rep_int.mp r2, Same.sqT o2.sub q, ez, c z L2 G2 H2 (s1.trans s2) o2 rz⟩
  · obtain ⟨p, vs, e, q, rr⟩ := rep_lst.mp r1'
    obtain ⟨z, ez, rz⟩ := atI_rep rr h
    exact .inl ⟨p, vs, i, z, e, rep_int.mp r2, SqL.of (o2.sub _ _ q), ez, c z L2 G2 H2 (s1.trans s2) o2 rz⟩
  · obtain ⟨p, vs, e, q, rr⟩ := rep_scr.mp r1'
    obtain ⟨z, ez, rz⟩ := atI_rep rr h
    exact .inl ⟨p, vs, i, z, e, rep_int.mp r2, Same.sqL o2.sub q, ez, c z L2 G2 H2 (s1.trans s2) o2 rz⟩
  · obtain ⟨p, ea, e⟩ := rep_loc.mp r1'
    obtain ⟨vs, eh, rr⟩ := o2.at_ k p _ ea hk
    obtain ⟨z, ez, rz⟩ := atI_rep rr h
    exact .inl ⟨p, vs, i, z, e, rep_int.mp r2, SqL.of eh, ez, c z L2 G2 H2 (s1.trans s2) o2 rz⟩
/-- x[i] = e, x a list of the store -/
theorem es_ix {n : Nat} {k : Nat} {μ3 : List M} (he : PE X e (tV X.K ρ μ d μ1)) (h1 : PE X a (tV X.K ρ μ1 (.loc n) μ2)) (h2 : PE X b (tV X.K ρ μ2 (.int i) μ3)) (hn : μ3[n]? = some (.lst ds)) (hk : ixN ds.length i = some k)
    {pos' : Pos} (hs : swapsWithSole [.Subscript a b pos'] e pos.line X.env = pure false := by rfl) (hw : swappedStores [.Subscript a b pos'] e X.env = pure none := by rfl)
    (h3 : (assignEach [.Subscript a b pos'] X.env).map (·.2) = [assign (.Subscript a b pos') X.env] := by rfl)
    (hp : ∀ v, assign (.Subscript a b pos') X.env v = (do
      let ov ← holding [v] (eval a X.env)
      let iv ← holding [v, ov] (eval b X.env)
      standAt pos'
      holding [v, ov, iv] (setItem ov iv v)
      release [v, ov, iv] []) := by intro _; rfl) :
    PS X (.Assign [.Subscript a b pos'] e pos) (tS W X.K ρ μ (.next ρ (μ3.set n (.lst (ds.set k d))))) := by
  refine ps_of (ps_asg he (pg_sub h1 h2 set_list hp) hs hw h3) fun D σ H ⟨L, G, nw, c⟩ => ⟨L, G, nw, fun v L1 G1 H1 s1 o1 r1 => ⟨L1, G1, nw.step s1 o1, fun u L2 G2 H2 s2 o2 r2 => ⟨L2, G2, (nw.step s1 o1).step s2 o2, fun w L3 G3 H3 s3 o3 r3 => ?_⟩⟩⟩
  obtain ⟨p, ea, e⟩ := rep_loc.mp (r2.step s3)
  obtain ⟨vs, eh, rr⟩ := o3.at_ n p _ ea hn
  refine ⟨p, vs, i, k, e, rep_int.mp r3, eh, by rw [rr.length]; exact hk, ?_⟩
  obtain ⟨o4, s4⟩ := o3.write (o := .lst (vs.set k v)) (m := .lst (ds.set k d)) ea ⟨_, upd_same, rr.set ((r1.step s2).step s3) k⟩
  exact c σ L3 G3 _ (((s1.trans s2).trans s3).trans s4) ⟨o4, (((nw.env.step s1).step s2).step s3).step s4⟩
/-- xs.append(e), xs a list of the store -/
theorem ev_append {n : Nat} {apos : Pos} (h1 : PE X a (tV X.K ρ μ (.loc n) μ1)) (h2 : PE X e (tV X.K ρ μ1 d μ2)) (hn1 : ∃ ds', μ1[n]? = some (.lst ds')) (hn : μ2[n]? = some (.lst ds)) (hl : ds.length < sizeLine)
    (hbase : attributeBase a "append" X.env (eval a X.env) = eval a X.env := by rfl)
    (hfew : ((backTo pos (starEach [e] X.env)).all (fun x => !x.1) && (backToKw pos (keywordEach [] X.env)).all (fun x => x.1.isSome) && decide ([e].length + ([] : List Keyword).length + (if ([] : List Keyword).isEmpty then 0 else 1) < 30)) = true := by rfl)
    (hline : (apos.endLine == pos.line) = true := by rfl) (hs : starEach [e] X.env = (false, eval e X.env) :: starEach [] X.env := by rfl) :
    PE X (.Call (.Attribute a "append" apos) [e] [] pos) (tV X.K ρ μ .non (μ2.set n (.lst (ds ++ [d])))) := by
  refine pe_of (pe_bm PySem.F.plainAttrs_list PySem.F.slot_list_append PySem.F.type_list_append mt_append h1 (pa_cons h2 pa_nil hs) hbase hfew hline hs) fun σ H Q ⟨L, G, nw, c⟩ => ⟨L, G, nw, fun v L1 G1 H1 s1 o1 r1 => ?_⟩
  obtain ⟨p, ea, e⟩ := rep_loc.mp r1
  obtain ⟨ds', hn1⟩ := hn1
  obtain ⟨vs1, eh1, _⟩ := o1.at_ n p _ ea hn1
  refine ⟨by rw [e]; exact .inl ⟨rfl, _, SqL.of eh1⟩, L1, G1, nw.step s1 o1, fun w L2 G2 H2 s2 o2 r2 => ?_⟩
  have ea2 := s2.pre _ _ ea
  obtain ⟨vs, eh, rr⟩ := o2.at_ n p _ ea2 hn
  refine ⟨p, vs, w, e, rfl, eh, by rw [rr.length]; exact hl, ?_⟩
  obtain ⟨o3, s3⟩ := o2.write (o := .lst (vs ++ [w])) (m := .lst (ds ++ [d])) ea2 ⟨_, upd_same, rr.append (Reps.cons r2 Reps.nil)⟩
  exact c _ L2 G2 _ ((s1.trans s2).trans s3) o3 (rep_non.mpr rfl)
end

/-! ### walks -/
section
variable {X : Cx} {W : WX} {μ μ1 μ2 : List M} {ρ : Env'} {ds : List D} {d : D} {e tg : Expr} {pos p : Pos} {i j : Int}
theorem jok_tup {K : PySem.W.Frag} {L : List Addr} {G : Hp} {a : Addr} {vs : List V} (q : SqT K G a vs) (r : Reps K L G ds vs) : JOk K (Itt K a) L G ds where
  go := fun L2 G2 H2 μ2 i d pr sg o e => by
    have q2 : SqT K H2 a vs := Same.sqT (sg.trans o.sub) q
    obtain ⟨v, ev, rv⟩ := r.get e
    exact ⟨⟨vs, v, q2, ev⟩, fun x H3 ⟨e3, y⟩ => by
      subst e3
      have := y vs q2
      rw [ev] at this
      cases this
      exact ⟨G2, .refl _ _ _, o, rv.mono pr sg⟩⟩
  stop := fun L2 G2 H2 μ2 pr sg o => ⟨vs, Same.sqT (sg.trans o.sub) q, by rw [r.length]; exact Nat.le_refl _⟩
theorem jok_lst {K : PySem.W.Frag} {L : List Addr} {G : Hp} {a : Addr} {vs : List V} (q : SqL K G a vs) (r : Reps K L G ds vs) : JOk K (Itl K a) L G ds where
  go := fun L2 G2 H2 μ2 i d pr sg o e => by
    have q2 : SqL K H2 a vs := Same.sqL (sg.trans o.sub) q
    obtain ⟨v, ev, rv⟩ := r.get e
    exact ⟨⟨vs, v, q2, ev⟩, fun x H3 ⟨e3, y⟩ => by
      subst e3
      have := y vs q2
      rw [ev] at this
      cases this
      exact ⟨G2, .refl _ _ _, o, rv.mono pr sg⟩⟩
  stop := fun L2 G2 H2 μ2 pr sg o => ⟨vs, Same.sqL (sg.trans o.sub) q, by rw [r.length]; exact Nat.le_refl _⟩
theorem ei_tup (h : PE X e (tV X.K ρ μ (.tup ds) μ1)) : PI X tg e (iD X.K ρ μ ds μ1) :=
  pi_of (pi_tup h) fun σ H R ⟨L, G, n, c⟩ => ⟨L, G, n, fun v L1 G1 H1 s1 o1 r1 => by
    obtain ⟨a, vs, ev, q, rr⟩ := rep_tup.mp r1
    exact ⟨a, ev, ⟨vs, Same.sqT o1.sub q⟩, c _ L1 G1 H1 s1 o1 (jok_tup q rr)⟩⟩
theorem ei_lst (h : PE X e (tV X.K ρ μ (.lst ds) μ1)) : PI X tg e (iD X.K ρ μ ds μ1) :=
  pi_of (pi_list h) fun σ H R ⟨L, G, n, c⟩ => ⟨L, G, n, fun v L1 G1 H1 s1 o1 r1 => by
    obtain ⟨a, vs, ev, q, rr⟩ := rep_lst.mp r1
    exact ⟨a, ev, ⟨vs, SqL.of (o1.sub _ _ q)⟩, c _ L1 G1 H1 s1 o1 (jok_lst (SqL.of q) rr)⟩⟩
theorem ei_scr (h : PE X e (tV X.K ρ μ (.scr ds) μ1)) : PI X tg e (iD X.K ρ μ ds μ1) :=
  pi_of (pi_list h) fun σ H R ⟨L, G, n, c⟩ => ⟨L, G, n, fun v L1 G1 H1 s1 o1 r1 => by
    obtain ⟨a, vs, ev, q, rr⟩ := rep_scr.mp r1
    exact ⟨a, ev, ⟨vs, Same.sqL o1.sub q⟩, c _ L1 G1 H1 s1 o1 (jok_lst q rr)⟩⟩
def rangeD (lo : Int) (n : Nat) : List D := (List.range n).map fun (k : Nat) => D.int (lo + (k : Int))
theorem jok_rng {K : PySem.W.Frag} {L : List Addr} {G : Hp} {lo : Int} {n : Nat} : JOk K (Itr lo n) L G (rangeD lo n) where
  go := fun L2 G2 H2 μ2 i d pr sg o e => by
    have hi : i < n := by
      have := (List.getElem?_eq_some_iff.mp e).1
      simpa [rangeD] using this
    have ed : d = D.int (lo + (i : Int)) := by
      unfold rangeD at e
      rw [List.getElem?_map, List.getElem?_range hi] at e
      simpa using e.symm
    exact ⟨hi, fun x H3 ⟨e3, y⟩ => by
      subst e3 y ed
      exact ⟨G2, .refl _ _ _, o, rep_int.mpr rfl⟩⟩
  stop := fun L2 G2 H2 μ2 pr sg o => by
    show n ≤ (rangeD lo n).length
    simp [rangeD]
theorem ei_range1 (h : PE X e (tV X.K ρ μ (.int j) μ1)) (hm : X.mg "range" = none) (h1 : -(2 ^ 62) ≤ j) (h2 : j < 2 ^ 62) (hg : Gl X "range" := by rfl) (hs : starEach [e] X.env = [(false, eval e X.env)] := by rfl) : PI X tg (.Call (.Name "range" p) [e] [] pos) (iD X.K ρ μ (rangeD 0 j.toNat) μ1) :=
  pi_of (pi_range1 hg hm (ev_cons h ev_nil hs) hs) fun σ H R ⟨L, G, n, c⟩ => ⟨L, G, n, fun vs L1 G1 H1 s1 o1 r1 => by
    obtain ⟨v, rfl, rv⟩ := r1.one
    exact ⟨j, by rw [rep_int.mp rv], h1, h2, c _ L1 G1 H1 s1 o1 jok_rng⟩⟩
theorem ei_range2 {e2 : Expr} (h : PE X e (tV X.K ρ μ (.int i) μ1)) (h' : PE X e2 (tV X.K ρ μ1 (.int j) μ2)) (hm : X.mg "range" = none) (hb : -(2 ^ 62) ≤ i ∧ i < 2 ^ 62 ∧ -(2 ^ 62) ≤ j ∧ j < 2 ^ 62) (hg : Gl X "range" := by rfl)
    (hs : starEach [e, e2] X.env = [(false, eval e X.env), (false, eval e2 X.env)] := by rfl) (hs2 : starEach [e2] X.env = [(false, eval e2 X.env)] := by rfl) : PI X tg (.Call (.Name "range" p) [e, e2] [] pos) (iD X.K ρ μ (rangeD i (j - i).toNat) μ2) :=
  pi_of (pi_range2 hg hm (ev_cons h (ev_cons h' ev_nil hs2) (by rw [hs, hs2])) hs hs2) fun σ H R ⟨L, G, n, c⟩ => ⟨L, G, n, fun vs L1 G1 H1 s1 o1 r1 => by
    obtain ⟨v, u, rfl, rv, ru⟩ := r1.two
    exact ⟨i, j, by rw [rep_int.mp rv, rep_int.mp ru], hb, c _ L1 G1 H1 s1 o1 jok_rng⟩⟩
end
end PM
set_option Elab.async false
set_option linter.all false
set_option maxRecDepth 100000
set_option maxHeartbeats 2000000
namespace PM
open PySem L2

/-! ### errors of the program's own: their __init__ -/
/-- what is asked of the class above, whose __init__ is called by name -/
structure UpC (K : PySem.W.Frag) (B : Addr) (id : String) : Prop where
  rd : PySem.W.readsIn K B (.type "type") = true
  ga : PySem.W.specialIn K (.ref B) "__getattribute__" = some (some (.builtin "type.__getattribute__"))
  fi : PySem.W.findCls K (.ref B) (.type "type") "__init__" = some (.val (.builtin id))
section
variable {X : Cx} {o e : Expr} {es : List Expr} {to te : TE} {ta : TA} {x : Str} {p p' p1 p2 pos : Pos} {B : Addr}
theorem pe_upinit {pl : Sem Bool} (hg : Gl X x) (hm : X.mg x = some (.ref B)) (u : UpC X.K B "ValueError.__init__") (ha : PA X (e :: es) ta) (hd : (x == ("__debug__" : Str)) = false := by decide)
    (hc : eval (.Call (.Attribute (.Name x p1) "__init__" p2) (e :: es) [] pos) X.env = (do
      let ov ← eval (.Name x p1) X.env
      standAt p2.atName
      let (f, first) ← holding [ov] (getMethod ov "__init__" pl)
      callWith pos f first (backTo pos (starEach (e :: es) X.env)) (backToKw pos (keywordEach [] X.env))) := by rfl)
    (he : starEach (e :: es) X.env = (false, eval e X.env) :: starEach es X.env := by rfl) (hpl : (backTo pos (starEach es X.env)).any (·.1) = false := by rfl) :
    PE X (.Call (.Attribute (.Name x p1) "__init__" p2) (e :: es) [] pos) (tVeI X.K ta) := by
  refine ⟨fun pins s σ H Q I h => ?_⟩
  refine PySem.W.methodCall_KW (ld_glob I hg hm ?_ hd) hc
  refine PySem.W.method_cls I.kIn u.ga (PySem.W.cls_value I.kIn u.rd u.fi rfl ?_)
  show wpAny _ _ (callWith pos (Value.builtin "ValueError.__init__") [] (backTo pos (starEach (e :: es) X.env)) []) _ _ _
  refine PyProof.Rows.callWith_method1 (thn (ha.run pos pins _ σ H _ (I.tok _) h) fun us s1 ⟨vs, H1, I1, r1, a, C, ws, ev, hl, T, ea, q⟩ => ?_) he hpl
  subst ev
  cases r1 with
  | @cons _ u0 _ ur ra rw' =>
    obtain rfl : u0 = Value.ref a := ra
    have hlen : ur.length ≤ sizeLine := by
      rw [← Paired.length rw', sizeLine_eq]
      omega
    exact oinit_ok T I1 ea hlen fun s' J => ⟨.non, H1, J, rfl, q⟩
end
/-- the promise of an __init__ that keeps its arguments in fields of those names: none, one, two -/
def spI1 (C : Addr) (f : Str) : Sp := fun vs H Q _ => ∃ (a : Addr) (v : V), vs = [.ref a, v] ∧ H a = some (exo a C none) ∧ ∀ dx, H dx = none → dx ≠ a → Q .non (upd (upd H dx (exd dx [(f, v)])) a (exo a C (some dx)))
def spI2 (C : Addr) (f g : Str) : Sp := fun vs H Q _ => ∃ (a : Addr) (v u : V), vs = [.ref a, v, u] ∧ H a = some (exo a C none) ∧ ∀ dx, H dx = none → dx ≠ a → Q .non (upd (upd (upd H dx (exd dx [(f, v)])) a (exo a C (some dx))) dx (exd dx [(g, u), (f, v)]))
section
variable {P : Program} {w : World} {K : PySem.W.Frag} {mg : Str → Option Value} {base : Heap}
/-- class E(B): def __init__(self, f): B.__init__(self); self.f = f; hb: pss_cons (ps_expr (pe_upinit rfl hm u (pa_cons (pv 0) pa_nil))) (pss_one (ps_ost (pv 0) (pv 1))) -/
theorem fn_I1 {xq qual : Str} {st : Stmt} {fI C : Addr} {fd : FuncData} {f : Str} (F : Fun K xq qual st fI fd) (S : FnScope ["self", f] ["self", f] (defScope st)) (T : OexC K C) (hno : PySem.W.findIn K (.ref C) f = some none)
    (hb : ∀ cdv A outer s H E, PSs (cxOf CX0 P w K mg base ["self", f] qual (defScope st) fI cdv A outer s H E).nox (defBody st) (tSeq (tDrop (tVeI K (tCons (tVar 0) tNil))) (tOst K f (tVar 0) (tVar 1)))) : FnOk P w K mg base CX0 1 fI fd ["self", f] (spI1 C f) := by
  refine F.ok S (fun vs H Q E h => ?_) (fun cdv A outer s H vs Q E hr h => ⟨_, hb cdv A outer s H E, ?_⟩)
  · obtain ⟨a, v, rfl, _⟩ := h
    rfl
  · obtain ⟨a, v, rfl, ha, k⟩ := h
    exact ⟨_, rfl, a, C, [], rfl, Nat.zero_le _, T, ha, _, rfl, _, rfl, a, C, rfl, T, hno, .inl ⟨ha, fun dx h1 h2 => k dx h1 h2⟩⟩
theorem fn_I2 {xq qual : Str} {st : Stmt} {fI C : Addr} {fd : FuncData} {f g : Str} (F : Fun K xq qual st fI fd) (S : FnScope ["self", f, g] ["self", f, g] (defScope st)) (T : OexC K C) (hno : PySem.W.findIn K (.ref C) f = some none) (hno2 : PySem.W.findIn K (.ref C) g = some none)
    (hb : ∀ cdv A outer s H E, PSs (cxOf CX0 P w K mg base ["self", f, g] qual (defScope st) fI cdv A outer s H E).nox (defBody st) (tSeq (tDrop (tVeI K (tCons (tVar 0) tNil))) (tSeq (tOst K f (tVar 0) (tVar 1)) (tOst K g (tVar 0) (tVar 2))))) : FnOk P w K mg base CX0 1 fI fd ["self", f, g] (spI2 C f g) := by
  refine F.ok S (fun vs H Q E h => ?_) (fun cdv A outer s H vs Q E hr h => ⟨_, hb cdv A outer s H E, ?_⟩)
  · obtain ⟨a, v, u, rfl, _⟩ := h
    rfl
  · obtain ⟨a, v, u', rfl, ha, k⟩ := h
    refine ⟨_, rfl, a, C, [], rfl, Nat.zero_le _, T, ha, _, rfl, _, rfl, a, C, rfl, T, hno, .inl ⟨ha, fun dx h1 h2 => ?_⟩⟩
    exact ⟨_, rfl, _, rfl, a, C, rfl, T, hno2, .inr ⟨dx, _, upd_same, by rw [upd_ne h2, upd_same], by show 1 ≤ 900; decide, k dx h1 h2⟩⟩
end
/-- an error class as its makers need it -/
structure ErrC (P : Program) (w : World) (K : PySem.W.Frag) (mg : Str → Option Value) (base : Heap) (C : Addr) (ns : List Str) : Prop where
  oex : OexC K C
  one : ∃ fI fd ps sp, PySem.W.findIn K (.ref C) "__init__" = some (some (.ref fI)) ∧ PySem.W.typeIn K (.ref fI) = some (.type "function") ∧ FnOk P w K mg base CX0 1 fI fd ps sp ∧ Binds K fd ps [] ∧
    ((∃ f, ns = [f] ∧ sp = spI1 C f) ∨ ∃ f g, ns = [f, g] ∧ f ≠ g ∧ sp = spI2 C f g)
section
variable {X : Cx} {W : WX} {k : Nat} {C : Addr} {ns : List Str} {ds : List D} {μ μ1 : List M} {ρ : Env'} {e : Expr} {es : List Expr} {x : Str} {p pos pos2 : Pos}
theorem xd_swap {f g : Str} {v u : V} (h : f ≠ g) : ∀ y : Str, List.lookup y [(g, u), (f, v)] = List.lookup y [(f, v), (g, u)] := fun y => by
  simp only [List.lookup]
  by_cases e1 : y = f
  · subst e1
    have : (y == g) = false := by simpa using h
    simp [this]
  · by_cases e2 : y = g
    · subst e2
      have : (y == f) = false := by simpa using e1
      simp [this]
    · have h1 : (y == f) = false := by simpa using e1
      have h2 : (y == g) = false := by simpa using e2
      simp [h1, h2]
/-- an exception's dict told another way -/
theorem xd_same {pins : List (Addr × Obj)} {σ : St} {H : Hp} {s : Shared} {d : Addr} {fs fs' : List (Str × V)} (I : Inv X pins σ H s) (e : H d = some (.xd fs)) (h : ∀ y, fs.lookup y = fs'.lookup y) : Inv X pins σ (upd H d (.xd fs')) s := by
  have eq : ∀ b o, upd H d (.xd fs') b = some o → (b = d ∧ o = .xd fs') ∨ (b ≠ d ∧ H b = some o) := fun b o q => by
    by_cases hb : b = d
    · subst hb
      rw [upd_same] at q
      exact .inl ⟨rfl, (Option.some.inj q).symm⟩
    · rw [upd_ne hb] at q
      exact .inr ⟨hb, q⟩
  have nd : ∀ {b : Addr} {o : HO}, H b = some o → o ≠ .xd fs → b ≠ d := fun {b o} q n z => by
    rw [z, e] at q
    exact n (Option.some.inj q).symm
  refine I.un (h' := s.heap) (t' := s.toks) ⟨fun b o q n _ _ => q, fun b o q n _ _ => ⟨o.slots, q⟩, fun b o q n _ => ?_, fun b o q _ => ⟨o, q⟩, fun b xs q => ?_, fun b o u q => ?_, fun b ps q => ⟨#[], ?_⟩⟩ fun b o q => ?_
  · rw [upd_ne (fun z => by rw [z, e] at n; cases n)]
    exact n
  · rw [upd_ne (nd q (by intro z; cases z))]
    exact q
  · rw [upd_ne (nd q (by intro z; cases z))]
    exact q
  · rw [upd_ne (nd q (by intro z; cases z)), q]
    simp
  · rcases eq b o q with ⟨rfl, rfl⟩ | ⟨hb, q⟩
    · obtain ⟨mA, hn, r⟩ := (show ObjOk X.prog X.w H s.heap b (.xd fs) from I.hok b _ e)
      exact ⟨mA, hn, fun y => by rw [← h y]; exact r y⟩
    · exact (I.hok b o q).stay (fun _ _ _ z => z) (fun c z => by rw [upd_ne (nd z (by intro y; cases y))]; exact z) fun c xs z => by rw [upd_ne (nd z (by intro y; cases y))]; exact z
/-- raise C(e, ..) -/
theorem es_raise (g : Gd X W k) (c : ErrC X.prog X.w X.K X.mg X.base C ns) (hm : X.mg x = some (.ref C)) (ha : PA X (e :: es) (tVA X.K ρ μ ds μ1)) (hn : ns.length = ds.length) (hk : 2 ≤ k := by decide) (hg : Gl X x := by rfl) (hdb : (x == ("__debug__" : Str)) = false := by decide)
    (he : starEach (e :: es) X.env = (false, eval e X.env) :: starEach es X.env := by rfl) (hpl : (backTo pos (starEach es X.env)).any (·.1) = false := by rfl) :
    PS X (.Raise (some (.Call (.Name x p) (e :: es) [] pos)) none pos2) (tS W X.K ρ μ (.exc C ns ds ρ μ1)) := by
  obtain ⟨fI, fd, ps, sp, hi, ht, F, bd, h⟩ := c.one
  have mk : PMk X (.Call (.Name x p) (e :: es) [] pos) (fun σ H Q => tMkO C sp [] (tVA X.K ρ μ ds μ1) σ H Q) := pmk_oex c.oex hi ht F (g.hr.mono hk) bd .nil pass0 hg hm ha hdb he hpl
  rcases h with ⟨f, rfl, rfl⟩ | ⟨f, f2, rfl, hne, rfl⟩
  · refine ps_of (ps_raise g.calm g.tk mk) fun D σ H ⟨L, G, n, co⟩ => ⟨L, G, n, fun vs L1 G1 H1 s1 o1 r1 => ?_⟩
    match ds, hn with
    | [d], _ =>
      obtain ⟨v, rfl, rv⟩ := r1.one
      refine ⟨by show 1 ≤ 1000; decide, fun a hna => ⟨a, v, rfl, upd_same, fun dx hdx hne => ⟨rfl, dx, [(f, v)], upd_same, by rw [upd_ne hne, upd_same], ?_, ?_⟩⟩⟩
      · rw [upd_ne hne] at hdx
        exact hdx
      · have hdx' : H1 dx = none := by rw [upd_ne hne] at hdx; exact hdx
        have eH : upd (del (upd (upd (upd H1 a (exo a C none)) dx (exd dx [(f, v)])) a (exo a C (some dx))) a) dx (.xd [(f, v)]) = upd H1 dx (.xd [(f, v)]) := by
          funext b
          by_cases hb : b = dx
          · rw [hb, upd_same, upd_same]
          · rw [upd_ne hb, upd_ne hb]
            by_cases hba : b = a
            · rw [hba, del_same, hna]
            · rw [del_ne hba, upd_ne hba, upd_ne hb, upd_ne hba]
        rw [eH]
        obtain ⟨o2, s2⟩ := o1.new (o := .xd [(f, v)]) hdx'
        exact co σ (some dx) L1 _ _ (s1.trans s2) ⟨o2, (n.env.step s1).step s2⟩ ⟨rfl, .inr ⟨dx, [v], rfl, upd_same, Reps.cons (rv.step s2) Reps.nil⟩⟩
  · refine ps_of (ps_raise g.calm g.tk (t := fun σ H Q => tVA X.K ρ μ ds μ1 σ H fun vs H1 => ∃ v u, vs = [v, u] ∧ ∀ dx, H1 dx = none → Q (.ref C) (some dx) (upd H1 dx (.xd [(f, v), (f2, u)]))) ?_) fun D σ H ⟨L, G, n, co⟩ => ⟨L, G, n, fun vs L1 G1 H1 s1 o1 r1 => ?_⟩
    · intro pins s σ H Q I h
      refine thn (mk pins s σ H (fun c d H' => c = .ref C ∧ ∃ dx v u H1, d = some dx ∧ H1 dx = none ∧ H' = upd H1 dx (.xd [(f2, u), (f, v)]) ∧ Q (.ref C) (some dx) (upd H1 dx (.xd [(f, v), (f2, u)]))) I ?_) fun u s' hu => ?_
      · obtain ⟨L, G, n, co⟩ := h
        refine ⟨L, G, n, fun vs L1 G1 H1 s1 o1 r1 => ?_⟩
        obtain ⟨v, u, rfl, q⟩ := co vs L1 G1 H1 s1 o1 r1
        refine ⟨by show 2 ≤ 1000; decide, fun a hna => ⟨a, v, u, rfl, upd_same, fun dx hdx hne => ⟨rfl, dx, [(f2, u), (f, v)], ?_, upd_same, ?_, rfl, dx, v, u, H1, rfl, ?_, ?_, ?_⟩⟩⟩
        · rw [upd_ne (Ne.symm hne), upd_same]
        · rw [upd_ne hne] at hdx; exact hdx
        · rw [upd_ne hne] at hdx; exact hdx
        · funext b
          by_cases hb : b = dx
          · rw [hb, upd_same, upd_same]
          · rw [upd_ne hb, upd_ne hb]
            by_cases hba : b = a
            · rw [hba, del_same, hna]
            · rw [del_ne hba, upd_ne hb, upd_ne hba, upd_ne hb, upd_ne hba]
        · exact q dx (by rw [upd_ne hne] at hdx; exact hdx)
      · obtain ⟨a, oe, fv, sI, H', cls, d, e1, J, k1, k2, k3, k4, k5, k6, k7, k8, k9, k10, rfl, dx, v, u', H1, rfl, hd1, rfl, q⟩ := hu
        refine ⟨a, oe, fv, sI, _, .ref C, some dx, e1, (xd_same J upd_same (xd_swap (Ne.symm (Ne.symm hne)))), k1, k2, k3, k4, k5, k6, ?_, k8, k9, k10, ?_⟩
        · rw [upd_upd]
          by_cases ha : a = dx
          · subst ha
            rw [upd_same] at k7
            cases k7
          · rw [upd_ne ha] at k7 ⊢
            exact k7
        · rw [upd_upd]
          exact q
    · match ds, hn with
      | [d1, d2], _ =>
        obtain ⟨v, u, rfl, rv, ru⟩ := r1.two
        refine ⟨v, u, rfl, fun dx hdx => ?_⟩
        obtain ⟨o2, s2⟩ := o1.new (o := .xd [(f, v), (f2, u)]) hdx
        exact co σ (some dx) L1 _ _ (s1.trans s2) ⟨o2, (n.env.step s1).step s2⟩ ⟨rfl, .inr ⟨dx, [v, u], rfl, upd_same, Reps.cons (rv.step s2) (Reps.cons (ru.step s2) Reps.nil)⟩⟩
end

/-! ### try -/
section
variable {X : Cx} {W : WX} {k i : Nat} {C C' : Addr} {ns : List Str} {ds : List D} {μ μ1 μ2 : List M} {ρ ρ1 ρ2 : Env'} {x n : Str} {np pos pos' : Pos} {body suite : List Stmt} {b₀ : Stmt} {q : Out}
theorem never_suite {a : Addr} {oe : Obj} {pn : List (Addr × Obj)} : PSs (X.suite a ((a, oe) :: pn)) (b₀ :: suite) tNever := pss_never
/-- the body does not raise -/
theorem es_tryOk (g : Gd X W k) (hb : ∀ (W' : WX) (pn : List (Addr × Obj)) (xe : Value → Shared → Prop), Gd (X.tr pn xe) W' k → PSs (X.tr pn xe) body (tS W' X.K ρ μ q)) (hq : ∀ C ns ds ρ μ, q ≠ .exc C ns ds ρ μ)
    (hs : X.stack = X.env :: X.outer := by rfl) (hf : X.env.frame = some X.env.locals := by rfl) (hi : X.N[i]? = some n := by rfl) (hln : X.env.kindOf n = some .local := by rfl) (hc : Names X x (.ref C) := by exact ⟨rfl, by decide, .inl (by assumption)⟩) :
    PS X (.Try body [.ExceptHandler (some (.Name x np)) (some n) (b₀ :: suite) pos'] [] [] pos) (tS W X.K ρ μ q) :=
  ps_of (ps_try_as (i := i) (tb := fun W' => tS W' X.K ρ μ q) (ts := fun _ _ _ => tNever) (Wout := W) hs hf g.nd hi hln hc g.tk (fun W' pn xe tk po => hb W' pn xe ⟨g.calm, g.nd, tk, po, g.hr, g.gr⟩) (fun _ _ _ _ _ _ _ => pss_never)) fun D σ H ⟨L, G, nw, co⟩ => ⟨L, G, nw, by
    cases q with
    | next ρ μ => exact co
    | ret d μ => exact co
    | brk ρ μ => exact co
    | cont ρ μ => exact co
    | exc C ns ds ρ μ => exact (hq _ _ _ _ _ rfl).elim⟩
/-- what follows a suite: the name is gone -/
def Out.gone (i : Nat) : Out → Out
  | .next ρ μ => .next (ρ.set i none) μ
  | .brk ρ μ => .brk (ρ.set i none) μ
  | .cont ρ μ => .cont (ρ.set i none) μ
  | q => q
theorem RepS.unset {K : PySem.W.Frag} {L : List Addr} {G : Hp} {ρ : Env'} {σ : St} (h : RepS K L G ρ σ) (i : Nat) : RepS K L G (ρ.set i none) (σ.set i none) := by
  refine ⟨by simpa using h.len, fun j e hj => ?_⟩
  by_cases hi : i = j
  · subst hi
    by_cases hl : i < ρ.length
    · rw [List.getElem?_set_self hl] at hj
      cases hj
    · rw [List.getElem?_eq_none (by simpa using hl)] at hj
      cases hj
  · rw [List.getElem?_set_ne hi] at hj ⊢
    exact h.at_ j e hj
/-- the body raises, the error is caught -/
theorem es_tryX (g : Gd X W k) (hb : ∀ (W' : WX) (pn : List (Addr × Obj)) (xe : Value → Shared → Prop), Gd (X.tr pn xe) W' k → PSs (X.tr pn xe) body (tS W' X.K ρ μ (.exc C' ns ds ρ1 μ1))) (hex : PySem.W.exmOne X.K (.ref C') (.ref C) = some true) (hns : ns ≠ [])
    (hsu : ∀ (a dd : Addr) (oe : Obj) (pn : List (Addr × Obj)), Zc (.ref C') (some dd) oe → (∃ vs, oe.data = .fields vs) → PSs (X.suite a ((a, oe) :: pn)) (b₀ :: suite) (tS W0 X.K (ρ1.set i (some (.exn a dd ns ds))) μ1 q)) (hq : ∀ C ns ds ρ μ, q ≠ .exc C ns ds ρ μ)
    (hc : Names X x (.ref C)) (hs : X.stack = X.env :: X.outer := by rfl) (hf : X.env.frame = some X.env.locals := by rfl) (hi : X.N[i]? = some n := by rfl) (hln : X.env.kindOf n = some .local := by rfl) :
    PS X (.Try body [.ExceptHandler (some (.Name x np)) (some n) (b₀ :: suite) pos'] [] [] pos) (tS W X.K ρ μ (q.gone i)) := by
  refine ps_of (ps_try_as (i := i) (tb := fun W' => tS W' X.K ρ μ (.exc C' ns ds ρ1 μ1)) (ts := fun a cls d => fun D σ H => ∃ dd, cls = .ref C' ∧ d = some dd ∧ tS W0 X.K (ρ1.set i (some (.exn a dd ns ds))) μ1 q D σ H) (Wout := W) hs hf g.nd hi hln hc g.tk
    (fun W' pn xe tk po => hb W' pn xe ⟨g.calm, g.nd, tk, po, g.hr, g.gr⟩) (fun a oe cls d pn hz hv => ⟨fun pins s σ H D I ⟨dd, e1, e2, t⟩ => ?_⟩)) fun D σ H ⟨L, G, nw, co⟩ => ⟨L, G, nw, fun σ' dx L' G' H' s' n' x' => ?_⟩
  · subst e1 e2
    exact (hsu a dd oe pn hz hv).run pins s σ H D I t
  · rcases x'.2 with z | ⟨dd, vs, rfl, eg, rv⟩
    · exact (hns z).elim
    · refine ⟨true, hex, fun _ a hna => ⟨dd, rfl, rfl, L', G', ⟨n'.ok, n'.env.set (rep_exn.mpr ⟨vs, rfl, eg, x'.1, rv⟩) i⟩, ?_⟩, fun z => Bool.noConfusion z⟩
      cases q with
      | next ρ μ => exact fun σ2 L2 G2 H2 s2 n2 => co _ L2 G2 H2 (s'.trans s2) ⟨n2.ok, n2.env.unset i⟩
      | brk ρ μ => exact fun σ2 L2 G2 H2 s2 n2 => co _ L2 G2 H2 (s'.trans s2) ⟨n2.ok, n2.env.unset i⟩
      | cont ρ μ => exact fun σ2 L2 G2 H2 s2 n2 => co _ L2 G2 H2 (s'.trans s2) ⟨n2.ok, n2.env.unset i⟩
      | ret d μ => exact Comes.step co s'
      | exc C ns ds ρ μ => exact (hq _ _ _ _ _ rfl).elim
/-- e.f of the caught error -/
theorem ev_xf {a dd : Addr} {oe : Obj} {pn : List (Addr × Obj)} {e : Expr} {f : Str} {d : D} (T : XfC X.K C) (hno : PySem.W.findIn X.K (.ref C) f = some none) (hz : Zc (.ref C) (some dd) oe) (hv : ∃ vs, oe.data = .fields vs)
    (he : PE (X.suite a ((a, oe) :: pn)) e (tV X.K ρ μ (.exn a dd ns ds) μ1)) (h : fldOf ns ds f = some d) (hb : attributeBase e f X.env (eval e X.env) = eval e X.env := by rfl) :
    PE (X.suite a ((a, oe) :: pn)) (.Attribute e f pos) (tV X.K ρ μ d μ1) :=
  pe_of (pe_xf T hno hz hv he hb) fun σ H Q ⟨L, G, nw, co⟩ => ⟨L, G, nw, fun v L1 G1 H1 s1 o1 r1 => by
    obtain ⟨vs, ev, eg, _, rr⟩ := rep_exn.mp r1
    obtain ⟨u, l, ru⟩ := fld_rep rr h
    exact ⟨ev, rfl, dd, _, u, rfl, o1.sub _ _ eg, l, co u L1 G1 H1 s1 o1 ru⟩⟩
end
end PM
set_option Elab.async false
set_option linter.all false
set_option maxRecDepth 100000
set_option maxHeartbeats 2000000
namespace PM
open PySem L2

/-! ### an own class -/
structure OwnC (K : PySem.W.Frag) (C : Addr) : Prop where
  cl : Cls K C
  ca : PySem.W.findIn K (.ref C) "__class__" = some (some (.builtin "object.__class__"))
  cg : PySem.W.specialIn K (.builtin "object.__class__") "__get__" = some (some (.builtin "getset_descriptor.__get__"))
  ct : PySem.W.takesIn K (.builtin "object.__class__") = some true
  mro : (PySem.W.clsIn K C).map (·.mro) = some [.ref C, .type "object"]
  ty : PySem.W.typeIn K (.ref C) = some (.type "type")
section
variable {K : PySem.W.Frag} {C : Addr}
theorem OwnC.cd (c : OwnC K C) : ∃ cd, PySem.W.clsIn K C = some cd ∧ cd.mro = [.ref C, .type "object"] := by
  have h := c.mro
  cases e : PySem.W.clsIn K C with
  | none => rw [e] at h; cases h
  | some cd =>
    rw [e] at h
    exact ⟨cd, rfl, Option.some.inj h⟩
theorem OwnC.mroIn (c : OwnC K C) (b : Value) : PySem.W.mroIn K C b = some ([Value.ref C, .type "object"].contains b) := by
  obtain ⟨cd, e, m⟩ := c.cd
  unfold PySem.W.mroIn
  rw [e, Option.bind_some, m]
  rfl
theorem OwnC.self (c : OwnC K C) : PySem.W.selfFirst K C = true := by
  obtain ⟨cd, e, m⟩ := c.cd
  unfold PySem.W.selfFirst
  rw [e, Option.any_some, m]
  simp
theorem OwnC.isCls (c : OwnC K C) : PySem.W.isClsIn K C = true := by
  obtain ⟨cd, e, m⟩ := c.cd
  unfold PySem.W.isClsIn
  rw [e]
  rfl
/-- a value's type -/
inductive TyD (K : PySem.W.Frag) : D → Value → Prop
  | non : TyD K .non (.type "NoneType")
  | bl {b : Bool} : TyD K (.bl b) (.type "bool")
  | int {i : Int} : TyD K (.int i) (.type "int")
  | str {x : Str} : TyD K (.str x) (.type "str")
  | tup {ds : List D} : TyD K (.tup ds) (.type "tuple")
  | lst {ds : List D} : TyD K (.lst ds) (.type "list")
  | obj {C : Addr} {ns : List Str} {ds : List D} : OwnC K C → TyD K (.obj C ns ds) (.ref C)
theorem TyD.x {L : List Addr} {G H : Hp} {μ : List M} {d : D} {t : Value} {v : V} (ok : Ok K L G H μ) (y : TyD K d t) (r : Rep K L G d v) : TyX K H v t := by
  cases y with
  | non => rw [rep_non.mp r]; exact .base .non
  | bl => rw [rep_bl.mp r]; exact .base (.bl _)
  | int => rw [rep_int.mp r]; exact .base (.int _)
  | str => rw [rep_str.mp r]; exact .base (.str _)
  | tup =>
    obtain ⟨a, vs, rfl, q, _⟩ := rep_tup.mp r
    rcases Same.sqT ok.sub q with (h | ⟨o, h⟩) | ⟨o, its, n, h, hc, _⟩
    · exact .base (.tup h)
    · exact .fTuple h
    · exact .kTuple h hc
  | lst =>
    obtain ⟨a, vs, rfl, q, _⟩ := rep_lst.mp r
    exact .base (.lst (ok.sub _ _ q))
  | obj c =>
    obtain ⟨a, dx, vs, rfl, q, _⟩ := rep_obj.mp r
    exact .base (.ins (ok.sub _ _ q) c.cl c.ca c.cg c.ct (by rw [c.mroIn]; simp))
/-- isinstance by types -/
theorem kit_own_self : PySem.W.kitOne K (.ref C) (.ref C) = some true := by
  unfold PySem.W.kitOne
  rw [if_pos (by simp)]
theorem kit_own_ty (c : OwnC K C) {T : String} (hm : PySem.W.kitMeta T = true) (hT : T ≠ "object") : PySem.W.kitOne K (.ref C) (.type T) = some false := by
  have e : ([Value.ref C, .type "object"].contains (.type T)) = false := by
    simp only [List.contains_cons, List.contains_nil, Bool.or_false, Bool.or_eq_false_iff, beq_eq_false_iff_ne]
    exact ⟨(by intro z; cases z), (by intro z; cases z; exact hT rfl)⟩
  unfold PySem.W.kitOne
  rw [if_neg (by simp)]
  show (if PySem.W.kitMeta T = true then PySem.W.subIn K (.ref C) (.type T) else none) = some false
  rw [if_pos hm]
  show PySem.W.mroIn K C (.type T) = some false
  rw [c.mroIn, e]
theorem kit_ty_own (c : OwnC K C) {T : String} {l : List Value} (hl : PySem.fastBuiltinMro T = some l) (hn : l.all (fun v => match v with | .type _ => true | _ => false) = true) : PySem.W.kitOne K (.type T) (.ref C) = some false := by
  have e : l.contains (.ref C) = false := by
    rw [List.contains_eq_any_beq, List.any_eq_false]
    intro v hv
    have := List.all_eq_true.mp hn v hv
    cases v <;> simp at this ⊢
  unfold PySem.W.kitOne
  rw [if_neg (by simp)]
  show (if ((PySem.W.clsIn K C).isSome && PySem.W.typeIn K (.ref C) == some (.type "type")) = true then PySem.W.subIn K (.type T) (.ref C) else none) = some false
  have hc : (PySem.W.clsIn K C).isSome = true := c.isCls
  rw [hc, c.ty, if_pos (by simp)]
  show (PySem.fastBuiltinMro T).map (·.contains (.ref C)) = some false
  rw [hl, Option.map_some, e]
/-- two own classes -/
theorem kit_own_own {C' : Addr} (c : OwnC K C) (c' : OwnC K C') (h : C ≠ C') : PySem.W.kitOne K (.ref C) (.ref C') = some false := by
  have e : ([Value.ref C, .type "object"].contains (.ref C')) = false := by
    simp only [List.contains_cons, List.contains_nil, Bool.or_false, Bool.or_eq_false_iff, beq_eq_false_iff_ne]
    exact ⟨(by intro z; cases z; exact h rfl), (by intro z; cases z)⟩
  unfold PySem.W.kitOne
  rw [if_neg (by simp [h])]
  show (if ((PySem.W.clsIn K C').isSome && PySem.W.typeIn K (.ref C') == some (.type "type")) = true then PySem.W.subIn K (.ref C) (.ref C') else none) = some false
  have hc : (PySem.W.clsIn K C').isSome = true := c'.isCls
  rw [hc, c'.ty, if_pos (by simp)]
  show PySem.W.mroIn K C (.ref C') = some false
  rw [c.mroIn, e]
end
/-- the class that is asked for -/
inductive ClD : D → Value → Prop
  | ty (n : String) : ClD (.ty n) (.type n)
  | own (C : Addr) : ClD (.ref C) (.ref C)
section
variable {X : Cx} {W : WX} {μ μ1 μ2 : List M} {ρ : Env'} {d c : D} {b : Bool} {t u : Value}
theorem cb_isi (y : TyD X.K d t) (k : ClD c u) (h : PySem.W.kitOne X.K t u = some b) : CallO X W (fun us => call (.builtin "isinstance") us) [d, c] μ (.ret (.bl b) μ) :=
  callO_of call_isi fun σ xs H Q L G o r co => by
    obtain ⟨v, w, rfl, r1, r2⟩ := r.two
    cases k with
    | ty n => exact ⟨v, .ty n, t, _, b, by rw [rep_ty.mp r2], .ty n, y.x o r1, h, CO.now (W := W) (σ := σ) co o (rep_bl.mpr rfl)⟩
    | own C => exact ⟨v, .ref C, t, _, b, by rw [rep_ref.mp r2], .own C, y.x o r1, h, CO.now (W := W) (σ := σ) co o (rep_bl.mpr rfl)⟩
end
theorem mro_int : PySem.fastBuiltinMro "int" = some [.type "int", .type "object"] := by decide +kernel
theorem mro_str : PySem.fastBuiltinMro "str" = some [.type "str", .type "object"] := by decide +kernel
theorem mro_bool : PySem.fastBuiltinMro "bool" = some [.type "bool", .type "int", .type "object"] := by decide +kernel
theorem mro_non : PySem.fastBuiltinMro "NoneType" = some [.type "NoneType", .type "object"] := by decide +kernel
theorem mro_tup : PySem.fastBuiltinMro "tuple" = some [.type "tuple", .type "object"] := by decide +kernel
theorem mro_lst : PySem.fastBuiltinMro "list" = some [.type "list", .type "object"] := by decide +kernel

/-! ### own operators -/
section
variable {X : Cx} {W : WX} {k j : Nat} {ps : List Str} {R : Rl} {f C : Addr} {fd : FuncData} {μ : List M} {o : FO} {da db : D} {ns : List Str} {fs : List D}
theorem back {pins : List (Addr × Obj)} {σ : St} {Q : VK} {u : Value} {s' : Shared} (h : EP X pins σ Q u s') : PySem.W.CmpBack (EP X pins σ Q) u s' := by
  obtain ⟨v, H', I, r, q⟩ := id h
  cases v with
  | non => cases r; exact h
  | bl b => cases r; exact h
  | int i => obtain ⟨t, rfl⟩ := r; exact h
  | str i => obtain ⟨t, rfl⟩ := r; exact h
  | byt i => obtain ⟨t, rfl⟩ := r; exact h
  | flt i => obtain ⟨t, rfl⟩ := r; exact h
  | ref a => cases r; exact h
  | ty n => cases r; exact h
/-- an instance as the library sees it -/
theorem inst_at {pins : List (Addr × Obj)} {σ : St} {H : Hp} {s : Shared} {a dx : Addr} {gs : List (Str × V)} (I : Inv X pins σ H s) (e : H a = some (.ins C dx gs)) : ∃ ox od, PySem.W.InstAt s.heap a ox C (some od) := by
  obtain ⟨mA, O, _⟩ := ins_get I.hok e
  obtain ⟨od, J, _⟩ := O.look
  exact ⟨_, od, J⟩
/-- the right side's type, as the library looks it up -/
theorem looks_ty {pins : List (Addr × Obj)} {σ : St} {H : Hp} {s : Shared} {L : List Addr} {G : Hp} {v : V} {u t : Value} (I : Inv X pins σ H s) (ok : Ok X.K L G H μ) (y : TyD X.K db t) (r : Rep X.K L G db v) (ru : RelV v u) :
    PySem.W.Looks (model X.prog X.w) s.heap (typeOf u) t := by
  cases y with
  | non => rw [rep_non.mp r] at ru; cases ru; exact .of_pure rfl
  | bl => rw [rep_bl.mp r] at ru; cases ru; exact .of_pure rfl
  | int => rw [rep_int.mp r] at ru; obtain ⟨t, rfl⟩ := ru; exact .of_pure rfl
  | str => rw [rep_str.mp r] at ru; obtain ⟨t, rfl⟩ := ru; exact .of_pure rfl
  | tup =>
    obtain ⟨a, vs, rfl, q, _⟩ := rep_tup.mp r
    cases ru
    obtain ⟨its, _, ⟨o, ho, hc, _⟩, _⟩ := I.tuple (Same.sqT ok.sub q)
    intro A Q E s' k' q'
    exact wpAny_typeOf_ref (k' _ _ ho) (by rw [hc]; exact q')
  | lst =>
    obtain ⟨a, vs, rfl, q, _⟩ := rep_lst.mp r
    cases ru
    obtain ⟨its, _, ⟨o, n, ho, hc, _⟩, _⟩ := I.list (SqL.of (ok.sub _ _ q))
    intro A Q E s' k' q'
    exact wpAny_typeOf_ref (k' _ _ ho) (by rw [hc]; exact q')
  | obj c =>
    obtain ⟨a, dx, vs, rfl, q, _⟩ := rep_obj.mp r
    cases ru
    obtain ⟨ox, od, J⟩ := inst_at I (ok.sub _ _ q)
    exact J.type
/-- a op b, both of the class -/
theorem oo_own {op : Operator} {ns' : List Str} {fs' : List D} (g : Gd X W k) (oc : OwnC X.K C) (hs : PySem.W.findIn X.K (.ref C) (PySem.dunder op.info.2) = some (some (.ref f))) (hf : PySem.W.isFn X.K (.ref f) = true) (c : Cal X.prog X.w X.K X.mg X.base j ps R f fd)
    (hR : R [.obj C ns fs, .obj C ns' fs'] μ o) (hj : j ≤ k := by decide) : OpO X W (binaryOp op) (.obj C ns fs) (.obj C ns' fs') μ o := by
  intro pins s σ H x y v u Q L G I rx ry ok r1 r2 co
  obtain ⟨m, fr⟩ := I.fr
  have ty := looks_ty I ok (.obj oc) r2 ry
  obtain ⟨a, dx, vs, rfl, q, _⟩ := rep_obj.mp r1
  cases rx
  obtain ⟨ox, od, J⟩ := inst_at I (ok.sub _ _ q)
  exact PySem.W.binop_K fr I.mod.kin J ty oc.self hs hf (wpAny_mono (c.run g hj hR pins s σ H [.ref a, y] [.ref a, u] Q L G I (.cons rfl (.cons ry .nil)) ok (Reps.cons r1 (Reps.cons r2 Reps.nil)) co) (fun _ _ z => back z) fun _ _ z => z)
/-- a op n, a of the class, n an int -/
theorem oo_ownI {op : Operator} {i : Int} {rc fo ro : Option Value} (g : Gd X W k) (oc : OwnC X.K C) (hs : PySem.W.findIn X.K (.ref C) (PySem.dunder op.info.2) = some (some (.ref f))) (hf : PySem.W.isFn X.K (.ref f) = true) (hr : PySem.W.findIn X.K (.ref C) (dunderR op.info.2) = some rc) (hp : rc = none ∨ ∃ g : Addr, rc = some (.ref g))
    (h1 : PySem.W.findIn X.K (.type "int") (PySem.dunder op.info.2) = some fo) (h2 : PySem.W.findIn X.K (.type "int") (dunderR op.info.2) = some ro) (c : Cal X.prog X.w X.K X.mg X.base j ps R f fd)
    (hR : R [.obj C ns fs, .int i] μ o) (hj : j ≤ k := by decide) : OpO X W (binaryOp op) (.obj C ns fs) (.int i) μ o := by
  intro pins s σ H x y v u Q L G I rx ry ok r1 r2 co
  obtain ⟨m, fr⟩ := I.fr
  obtain ⟨a, dx, vs, rfl, q, _⟩ := rep_obj.mp r1
  cases rx
  obtain ⟨ox, od, J⟩ := inst_at I (ok.sub _ _ q)
  have ey := rep_int.mp r2
  subst ey
  have ry' := ry
  obtain ⟨t, rfl⟩ := ry'
  exact PySem.W.ksp_binT fr I.mod.kin J rfl oc.self hs hf hr hp h1 h2 (by show (PySem.fastBuiltinMro "int").map (·.contains (.ref C)) = some false; rw [mro_int]; rfl) (wpAny_mono (c.run g hj hR pins s σ H [.ref a, .int i] [.ref a, .int i t] Q L G I (.cons rfl (.cons ⟨t, rfl⟩ .nil)) ok (Reps.cons r1 (Reps.cons r2 Reps.nil)) co) (fun _ _ z => back z) fun _ _ z => z)
/-- -a -/
theorem ou_own (g : Gd X W k) (hs : PySem.W.findIn X.K (.ref C) "__neg__" = some (some (.ref f))) (hf : PySem.W.isFn X.K (.ref f) = true) (c : Cal X.prog X.w X.K X.mg X.base j ps R f fd) (hR : R [.obj C ns fs] μ o) (hj : j ≤ k := by decide) : UnO X W (unaryOp .USub) (.obj C ns fs) μ o := by
  intro pins s σ H x v Q L G I rx ok r1 co
  obtain ⟨m, fr⟩ := I.fr
  obtain ⟨a, dx, vs, rfl, q, _⟩ := rep_obj.mp r1
  cases rx
  obtain ⟨ox, od, J⟩ := inst_at I (ok.sub _ _ q)
  exact PySem.W.ksp_neg fr I.mod.kin J hs hf (c.run g hj hR pins s σ H [.ref a] [.ref a] Q L G I (.cons rfl .nil) ok (Reps.cons r1 Reps.nil) co)
/-- comparisons, a of the class, b of it or of a built-in kind -/
theorem rich_own {op : CmpOp} {t : Value} (g : Gd X W k) (hs : PySem.W.findIn X.K (.ref C) (cmpInfo op).2.1 = some (some (.ref f))) (hf : PySem.W.isFn X.K (.ref f) = true) (y : TyD X.K db t) (hn : PySem.W.notFirst X.K C t = true) (c : Cal X.prog X.w X.K X.mg X.base j ps R f fd)
    (hR : R [.obj C ns fs, db] μ o) (hj : j ≤ k := by decide) : OpO X W (richCompare op) (.obj C ns fs) db μ o := by
  intro pins s σ H x yy v u Q L G I rx ry ok r1 r2 co
  obtain ⟨m, fr⟩ := I.fr
  have ty := looks_ty I ok y r2 ry
  obtain ⟨a, dx, vs, rfl, q, _⟩ := rep_obj.mp r1
  cases rx
  obtain ⟨ox, od, J⟩ := inst_at I (ok.sub _ _ q)
  exact PySem.W.cmp_K (by have := g.hr.un; omega) fr I.mod.kin J ty hn hs hf (wpAny_mono (c.run g hj hR pins s σ H [.ref a, yy] [.ref a, u] Q L G I (.cons rfl (.cons ry .nil)) ok (Reps.cons r1 (Reps.cons r2 Reps.nil)) co) (fun _ _ z => back z) fun _ _ z => z)
theorem notFirst_own {K : PySem.W.Frag} : PySem.W.notFirst K C (.ref C) = true := by unfold PySem.W.notFirst; simp
theorem notFirst_ty {K : PySem.W.Frag} {T : String} {l : List Value} (hl : PySem.fastBuiltinMro T = some l) (hn : l.all (fun v => match v with | .type _ => true | _ => false) = true) : PySem.W.notFirst K C (.type T) = true := by
  have e : l.contains (.ref C) = false := by
    rw [List.contains_eq_any_beq, List.any_eq_false]
    intro v hv
    have := List.all_eq_true.mp hn v hv
    cases v <;> simp at this ⊢
  unfold PySem.W.notFirst
  rw [Bool.or_eq_true_iff]
  refine .inr ?_
  show ((PySem.fastBuiltinMro T).map (·.contains (.ref C)) == some false) = true
  rw [hl, Option.map_some, e]
  rfl
end

/-! ### properties -/
section
variable {X : Cx} {W : WX} {k j : Nat} {ps : List Str} {R : Rl} {f C p g : Addr} {fd : FuncData} {μ μ1 μ2 : List M} {ρ : Env'} {d d' : D} {e : Expr} {m : Str} {pos : Pos} {ds : List D} {o : FO} {es : List Expr} {apos : Pos}
theorem getpropG {pins : List (Addr × Obj)} {σ : St} {H : Hp} {s : Shared} {Q : VK} {b : Bool} {E' : Value → Shared → Prop} {a dx : Addr} {fs : List (Str × V)} {sp : Sp} (I : Inv X pins σ H s) (ea : H a = some (.ins C dx fs)) (c : Cls X.K C) (hp : PropOf X.K C m p g)
    (F : FnG X.prog X.w X.K X.mg X.base j g fd ps sp) (hr : Room (j + 1) X.A) (gr : X.A.guards = some []) (hb : Binds X.K fd ps []) (h : sp [.ref a] H Q (fun _ _ _ => False)) :
    wpAny (model X.prog X.w) X.A (getAttr (.ref a) m b) (EP X pins σ Q) E' s := by
  obtain ⟨mA, O, _, _, _, _⟩ := ins_get I.hok ea
  obtain ⟨od, J, _⟩ := O.look
  obtain ⟨rest, hrec⟩ := hp.rec_
  have I1 := I.tok (s.toks + 1)
  have hl : ([Value.ref a] ++ ([] : List Value)).length = ps.length := by
    rw [← F.len _ _ _ _ h]
    rfl
  have hc : (PySem.W.clsIn X.K C).isSome = true := by
    obtain ⟨cd, hc, _⟩ := PySem.W.any_some c.hd
    rw [hc]
    rfl
  refine PySem.W.get_bind I.kIn J (PySem.W.plainGet_of (c.get m)).1 (PySem.W.findObj_data hc hp.at_ hp.get hp.tak) (PySem.W.plainGet_of (c.get m)).2 (wpAny_call (PySem.W.prop_get (s := { s with toks := s.toks + 1 }) I.kIn hrec ?_))
  refine codeAny_mono (F.run X.A.in1 X.stack { s with toks := s.toks + 1 } H ⟨[.ref a], []⟩ [.ref a] [.ref a] Q (fun _ _ _ => False) hr.in1 gr I1.env0.in1 (hb _ [.ref a] I1.kIn hl) (.cons rfl .nil) h) fun r s' hq => ?_
  cases r with
  | error er =>
    obtain ⟨_, _, _, _, _, _, _, _, _, _, _, _, z⟩ := hq
    exact z.elim
  | ok fl =>
    cases fl with
    | ret u =>
      obtain ⟨v, H', I3, rv, q3⟩ := I1.after hq
      show wpAny _ _ (handedOut u) _ _ _
      rw [PySem.W.handedOut_of (handed_of rv)]
      exact wpAny_pure ⟨v, H', I3, rv, q3⟩
    | next => exact False.elim hq
    | brk => exact False.elim hq
    | cont => exact False.elim hq
/-- o.m, a property; it raises nothing -/
theorem ev_prop (gd : Gd X W k) (ho : PE X e (tV X.K ρ μ d μ1)) (cl : Cls X.K C) (hp : PropOf X.K C m p g) (c : Cal X.prog X.w X.K X.mg X.base j ps R g fd) (hr : Recv C m μ1 d) (hR : R [d] μ1 (.ret d' μ2)) (hj : j + 1 ≤ k := by decide)
    (hb : attributeBase e m X.env (eval e X.env) = eval e X.env := by rfl) : PE X (.Attribute e m pos) (tV X.K ρ μ d' μ2) := by
  refine ⟨fun pins s σ H Q I ⟨L, G, n, co⟩ => ?_⟩
  refine attr_of hb (thn (ho.run pins s σ H (fun x H1 => ∃ L1 G1, Step L G H L1 G1 H1 ∧ Ok X.K L1 G1 H1 μ1 ∧ Rep X.K L1 G1 d x) I ⟨L, G, n, fun v L1 G1 H1 s1 o1 r1 => ⟨L1, G1, s1, o1, r1⟩⟩) fun u s1 ⟨x, H1, I1, rx, L1, G1, s1, o1, r1⟩ => ?_)
  obtain ⟨a, dx, fs, ex, ea, l⟩ := hr.at_ o1 r1
  subst ex
  obtain rfl : u = Value.ref a := rx
  exact getpropG I1 ea cl hp c.ok (gd.hr.mono hj) gd.gr c.bd ⟨L1, G1, [d], μ1, .ret d' μ2, o1, Reps.cons r1 Reps.nil, hR, Comes.step co s1⟩

/-! ### class methods -/
theorem ev_cmeth {oe : Expr} {mc : Value} {pl : Sem Bool} (gd : Gd X W k) (ho : PE X oe (tV X.K ρ μ (.ref C) μ1)) (r : ClX.CRead X.K C mc) (cm : ClX.CMet X.K C mc m p g) (c : Cal X.prog X.w X.K X.mg X.base j ps R g fd) (ha : PA X (e :: es) (tVA X.K ρ μ1 ds μ2)) (hR : R (.ref C :: ds) μ2 o) (hj : j ≤ k := by decide)
    (hst : starEach (e :: es) X.env = (false, eval e X.env) :: starEach es X.env := by rfl) (hpl : (backTo pos (starEach es X.env)).any (·.1) = false := by rfl)
    (ht : eval (.Call (.Attribute oe m apos) (e :: es) [] pos) X.env = (do
      let ov ← eval oe X.env
      standAt apos.atName
      let (f, first) ← holding [ov] (getMethod ov m pl)
      callWith pos f first (backTo pos (starEach (e :: es) X.env)) (backToKw pos (keywordEach [] X.env))) := by rfl) :
    PE X (.Call (.Attribute oe m apos) (e :: es) [] pos) (tO W X.K ρ μ o) := by
  refine ⟨fun pins s σ H Q I ⟨L, G, n, co⟩ => ?_⟩
  refine PySem.W.methodCall_KW (pl := pl) (thn (ho.run pins s σ H (fun x H1 => ∃ L1 G1, Step L G H L1 G1 H1 ∧ Ok X.K L1 G1 H1 μ1 ∧ Rep X.K L1 G1 (.ref C) x) I ⟨L, G, n, fun v L1 G1 H1 s1 o1 r1 => ⟨L1, G1, s1, o1, r1⟩⟩) fun u s1 ⟨x, H1, I1, rx, L1, G1, st1, o1, r1⟩ => ?_) ht
  have ex := rep_ref.mp r1
  subst ex
  obtain rfl : u = Value.ref C := rx
  refine ClX.getmethcm_ok I1 r cm fun s2 I2 => ?_
  refine ClX.callwith_cm I2 (ClX.base_none I1 (Nat.le_refl _)) cm.fi (thn (ha.run pos _ s2 σ H1 (fun vs H2 => ∃ L2 G2, Ok X.K L2 G2 H2 μ2 ∧ Reps X.K L2 G2 (.ref C :: ds) (.ref C :: vs) ∧ CO W X.K L2 G2 H2 σ o Q) I2 ⟨L1, G1, n.step st1 o1, fun vs L2 G2 H2 s2 o2 r2 => ⟨L2, G2, o2, Reps.cons (r1.step s2) r2, CO.step co (st1.trans s2)⟩⟩) fun us s3 ⟨vs, H2, I3, rv, L2, G2, o2, rr, c2⟩ => ⟨⟨ClX.pin_at I3, I3.kIn⟩, ?_⟩) hst hpl
  have z : wpAny (model X.prog X.w) X.A (call (.ref s1.heap.objs.size) us) (EP X ((s1.heap.objs.size, PySem.W.methodObj (.ref g) (.ref C)) :: pins) σ Q) X.xe s3 := by
    refine wpAny_call (PySem.W.method_call (ClX.pin_at I3) ?_)
    have hsp := CO.sp hR o2 rr c2
    have hl : (Value.ref C :: us).length = ps.length := by
      rw [← c.ok.len _ _ _ _ hsp]
      simp [rv.length]
    have bb := c.bd s3 (Value.ref C :: us) I3.kIn (by rw [List.append_nil]; exact hl)
    rw [List.append_nil] at bb
    refine codeAny_mono (c.ok.run X.A X.stack s3 H2 ⟨Value.ref C :: us, []⟩ (Value.ref C :: us) (.ref C :: vs) Q (WE W σ) (gd.hr.mono hj) gd.gr I3.env0 bb (.cons rfl rv) hsp) fun r s' hq => ?_
    cases r with
    | error e => exact passAt gd.tk σ _ H2 s3 e s' I3 hq
    | ok fl =>
      cases fl with
      | ret u => exact I3.after hq
      | next => exact False.elim hq
      | brk => exact False.elim hq
      | cont => exact False.elim hq
  exact thn z fun _ _ y => ClX.unpinE y
end
end PM
set_option Elab.async false
set_option linter.all false
set_option maxRecDepth 100000
set_option maxHeartbeats 2000000
namespace PM
open PySem L2

/-! ### comprehensions -/
def gW (K : PySem.W.Frag) (vs : List Nat) (μ : List M) (d : D) (ρ ρ' : Env') : TG := fun v σ H Q => ∃ L G, Now K L G H μ ρ σ ∧ Rep K L G d v ∧ ∀ σ' L' G' H', Step L G H L' G' H' → Now K L' G' H' μ ρ' σ' → wipe σ' vs = wipe σ vs → Q σ' H'
def gWs (K : PySem.W.Frag) (vs : List Nat) (μ : List M) (ds : List D) (ρ ρ' : Env') : TGs := fun us σ H Q => ∃ L G, Now K L G H μ ρ σ ∧ Reps K L G ds us ∧ ∀ σ' L' G' H', Step L G H L' G' H' → Now K L' G' H' μ ρ' σ' → wipe σ' vs = wipe σ vs → Q σ' H'
theorem wipe_get (σ : St) : ∀ (vs : List Nat) (j : Nat), j ∈ vs → j < σ.length → (wipe σ vs)[j]? = some none
  | [], _, h, _ => by simp at h
  | v :: vs, j, h, hl => by
    unfold wipe
    by_cases e : v = j
    · subst e
      rw [List.getElem?_set_self (by rw [wipe_length]; exact hl)]
    · rw [List.getElem?_set_ne e]
      exact wipe_get σ vs j (by
        rcases List.mem_cons.mp h with z | z
        · exact (e z.symm).elim
        · exact z) hl
theorem wipe_other (σ : St) : ∀ (vs : List Nat) (j : Nat), j ∉ vs → (wipe σ vs)[j]? = σ[j]?
  | [], _, _ => rfl
  | v :: vs, j, h => by
    unfold wipe
    rw [List.getElem?_set_ne (fun e => h (by rw [e]; exact List.mem_cons_self ..))]
    exact wipe_other σ vs j fun z => h (List.mem_cons_of_mem _ z)
theorem wipe_set {σ : St} {vs : List Nat} {i : Nat} {x : Option V} (h : i ∈ vs) : wipe (σ.set i x) vs = wipe σ vs := by
  apply List.ext_getElem?
  intro j
  by_cases hj : j ∈ vs
  · by_cases hl : j < σ.length
    · rw [wipe_get _ vs j hj (by simpa using hl), wipe_get _ vs j hj hl]
    · rw [List.getElem?_eq_none (by rw [wipe_length]; simpa using hl), List.getElem?_eq_none (by rw [wipe_length]; omega)]
  · rw [wipe_other _ vs j hj, wipe_other _ vs j hj, List.getElem?_set_ne (fun e => hj (by rw [← e]; exact h))]
theorem wipe_idem (σ : St) (vs : List Nat) : wipe (wipe σ vs) vs = wipe σ vs := by
  apply List.ext_getElem?
  intro j
  by_cases hj : j ∈ vs
  · by_cases hl : j < σ.length
    · rw [wipe_get _ vs j hj (by rw [wipe_length]; exact hl), wipe_get _ vs j hj hl]
    · rw [List.getElem?_eq_none (by rw [wipe_length, wipe_length]; omega), List.getElem?_eq_none (by rw [wipe_length]; omega)]
  · rw [wipe_other _ vs j hj]
/-- the block's own names forgotten -/
def wipeD (ρ : Env') : List Nat → Env'
  | [] => ρ
  | v :: vs => (wipeD ρ vs).set v none
theorem RepS.wipe {K : PySem.W.Frag} {L : List Addr} {G : Hp} {ρ : Env'} {σ : St} (h : RepS K L G ρ σ) : ∀ vs, RepS K L G (wipeD ρ vs) (L2.wipe σ vs)
  | [] => h
  | v :: vs => by
    unfold wipeD L2.wipe
    exact (RepS.wipe h vs).unset v
section
variable {X : Cx} {e : Expr} {es : List Expr} {pos : Pos} {ρ ρ1 ρ2 : Env'} {μ : List M} {d : D} {ds : List D} {x : Str} {vs : List Nat}
theorem ew_name (i : Nat) (nd : X.N.Nodup) (hv : i ∈ vs := by decide) (hi : X.N[i]? = some x := by rfl) (hx : Loc X.env.scope x := by first | exact Or.inl rfl | exact Or.inr rfl) (hf : X.fn x = true ∨ X.env.scope.names.lookup x = some .local := by first | exact .inl rfl | exact .inr rfl | assumption) :
    PG X (.Name x pos) (gW X.K vs μ d ρ (ρ.set i (some d))) :=
  pg_of (pg_name nd hi hx hf) fun v σ H Q ⟨L, G, n, r, c⟩ => c _ L G H (.refl _ _ _) ⟨n.ok, n.env.set r i⟩ (wipe_set hv)
theorem ews_nil : PGs X [] (gWs X.K vs μ [] ρ ρ) := pgs_of pgs_nil fun v σ H Q ⟨L, G, n, r, c⟩ => ⟨r.inv_nil, c _ L G H (.refl _ _ _) n rfl⟩
theorem ews_cons (h1 : PG X e (gW X.K vs μ d ρ ρ1)) (h2 : PGs X es (gWs X.K vs μ ds ρ1 ρ2)) (hs : (assignEach (e :: es) X.env).map (·.2) = assign e X.env :: (assignEach es X.env).map (·.2) := by rfl) : PGs X (e :: es) (gWs X.K vs μ (d :: ds) ρ ρ2) :=
  pgs_of (pgs_cons h1 h2 hs) fun us σ H Q ⟨L, G, n, r, c⟩ => by
    obtain ⟨v, q, e, r1, r2⟩ := r.inv_cons
    exact ⟨v, q, e, L, G, n, r1, fun σ' L' G' H' s' n' w' => ⟨L', G', n', r2.step s', fun σ2 L2 G2 H2 s2 n2 w2 => c σ2 L2 G2 H2 (s'.trans s2) n2 (w2.trans w')⟩⟩
theorem ew_tup {kk : Nat} (hc : X.calm = true) (h : PGs X es (gWs X.K vs μ ds ρ ρ1)) (hn : (assignEach es X.env).length = ds.length := by rfl) (hst : (assignEach es X.env).findIdx? (·.1) = none := by rfl) : PG X (.Tuple es kk pos) (gW X.K vs μ (.tup ds) ρ ρ1) :=
  pg_of (pg_tup hc h hn hst) fun v σ H Q ⟨L, G, n, r, c⟩ => by
    obtain ⟨a, us, e, q, r⟩ := rep_tup.mp r
    exact ⟨a, us, e, Same.sqT n.ok.sub q, r.length, L, G, n, r, c⟩
end
/-- the block's place -/
abbrev BlkAll (X : Cx) (scope : Scope) (P : Cx → Prop) : Prop := ∀ (s : Shared) (H : Hp) (C : Addr) (cl : List (Str × Addr)) (fp : List Addr), P (X.blk s H scope (compEnvC scope cl C X.env) fp)
theorem Gd.blk {X : Cx} {W : WX} {k : Nat} (g : Gd X W k) {s : Shared} {H : Hp} {scope : Scope} {env : Env} {fp : List Addr} : Gd (X.blk s H scope env fp) W0 k := ⟨g.calm, g.nd, takes0, PassesOwn.never, g.hr, g.gr⟩
/-- what a comprehension makes of ds; vs: the slots of its own names -/
inductive EvC (X : Cx) (scope : Scope) (vs : List Nat) (tg elt : Expr) (ifs : List Expr) (ρ : Env') : List D → List M → List D → List M → Prop
  | nil {μ : List M} : EvC X scope vs tg elt ifs ρ [] μ [] μ
  | keep {d y : D} {ds ys : List D} {ρ1 : Env'} {μ μ1 μ2 μ3 : List M} : BlkAll X scope (fun Y => PG Y tg (gW X.K vs μ d (wipeD ρ vs) ρ1)) → BlkAll X scope (fun Y => PTs Y ifs (tVT X.K ρ1 μ true μ1)) → BlkAll X scope (fun Y => PE Y elt (tV X.K ρ1 μ1 y μ2)) →
      EvC X scope vs tg elt ifs ρ ds μ2 ys μ3 → EvC X scope vs tg elt ifs ρ (d :: ds) μ (y :: ys) μ3
  | skip {d : D} {ds ys : List D} {ρ1 : Env'} {μ μ1 μ3 : List M} : BlkAll X scope (fun Y => PG Y tg (gW X.K vs μ d (wipeD ρ vs) ρ1)) → BlkAll X scope (fun Y => PTs Y ifs (tVT X.K ρ1 μ false μ1)) →
      EvC X scope vs tg elt ifs ρ ds μ1 ys μ3 → EvC X scope vs tg elt ifs ρ (d :: ds) μ ys μ3
theorem EvC.len {X : Cx} {scope : Scope} {vs : List Nat} {tg elt : Expr} {ifs : List Expr} {ρ : Env'} {ds ys : List D} {μ μ' : List M} (h : EvC X scope vs tg elt ifs ρ ds μ ys μ') : ys.length ≤ ds.length := by
  induction h with
  | nil => exact Nat.le_refl _
  | keep _ _ _ _ ih => simpa using ih
  | skip _ _ _ ih => exact Nat.le_succ_of_le ih
theorem ets_nil {X : Cx} {ρ : Env'} {μ : List M} : PTs X [] (tVT X.K ρ μ true μ) := ⟨fun pins s σ H Q I ⟨L, G, n, c⟩ => pts_nil.run pins s σ H Q I (c L G H (.refl _ _ _) n.ok)⟩
theorem ets_one {X : Cx} {ρ : Env'} {μ μ1 : List M} {c : Expr} {b : Bool} (h : PT X c (tVT X.K ρ μ b μ1)) : PTs X [c] (tVT X.K ρ μ b μ1) := pts_one h
section
variable {X : Cx} {W : WX} {k : Nat} {elt tg iter : Expr} {ifs : List Expr} {scope : Scope} {own : List (Str × Nat)} {pos : Pos} {ρ : Env'} {μ μ1 μ2 : List M} {ds ys : List D}
def aPTs (X : Cx) (ifs : List Expr) : TT := fun σ H Q => ∃ t, PTs X ifs t ∧ t σ H Q
/-- a reading that holds in every block -/
def bG (X : Cx) (scope : Scope) (e : Expr) : TG := fun v σ H Q => ∃ t, BlkAll X scope (fun Y => PG Y e t) ∧ t v σ H Q
def bT (X : Cx) (scope : Scope) (ifs : List Expr) : TT := fun σ H Q => ∃ t, BlkAll X scope (fun Y => PTs Y ifs t) ∧ t σ H Q
def bE (X : Cx) (scope : Scope) (e : Expr) : TE := fun σ H Q => ∃ t, BlkAll X scope (fun Y => PE Y e t) ∧ t σ H Q
theorem lc_read (h : EvC X scope (own.map (·.2)) tg elt ifs ρ ds μ1 ys μ2) (hl : ds.length ≤ sizeLine) {σ : St} {H : Hp} {Q : VK} (hv : tV X.K ρ μ (.lst ys) μ2 σ H Q) : tLc (iD X.K ρ μ ds μ1) (bG X scope tg) (bT X scope ifs) (bE X scope elt) (own.map (·.2)) σ H Q := by
  obtain ⟨L, G, nw, co⟩ := hv
  refine ⟨L, G, nw, fun J L1 G1 H1 s1 o1 j D hD => ?_⟩
  have oD := (o1.newH (o := .lst []) hD).1
  refine ⟨fun i m H' => m = ds.length - i ∧ i ≤ ds.length ∧ ∃ done rest us μ' L' G', ys = done ++ rest ∧ EvC X scope (own.map (·.2)) tg elt ifs ρ (ds.drop i) μ' rest μ2 ∧ H' D = some (.lst us) ∧ Reps X.K L' G' done us ∧ Ok X.K L' G' H' μ' ∧ Step L1 G1 H1 L' G' H' ∧ G' D = none ∧ D ∉ L' ∧ done.length ≤ i,
    ⟨ds.length, by simp, Nat.zero_le _, [], ys, [], μ1, L1, G1, rfl, h, upd_same, Reps.nil, oD, (Step.refl L1 G1 H1).poke hD, Same.free o1.sub hD, fun z => mem_ne o1.liv hD D z rfl, Nat.zero_le _⟩, ?_⟩
  rintro i m H2 ⟨rfl, hil, done, rest, us, μ', L2, G2, ey, h2, eD, rd, o2, s2, gD2, nD2, hdi⟩
  have nw2 : ∀ {Lx Gx Hx μx}, Step L2 G2 H2 Lx Gx Hx → Ok X.K Lx Gx Hx μx → Now X.K Lx Gx Hx μx (wipeD ρ (own.map (·.2))) (wipe σ (own.map (·.2))) := fun sx ox => ⟨ox, (nw.env.wipe _).mono ((s1.trans s2).trans sx).pre ((s1.trans s2).trans sx).gs⟩
  have keepD : ∀ {Lx Gx Hx}, Step L2 G2 H2 Lx Gx Hx → Hx D = some (.lst us) ∧ Gx D = none ∧ D ∉ Lx := fun {Lx Gx Hx} sx => by
    refine ⟨sx.hs D _ eD nD2, ?_, fun z => ?_⟩
    · cases e : Gx D with
      | none => rfl
      | some o =>
        rcases sx.gf D o e with q | q
        · rw [gD2] at q; cases q
        · rw [eD] at q; cases q
    · rcases sx.fr D z with q | q
      · exact nD2 q
      · rw [eD] at q; cases q
  generalize hd : ds.drop i = dr at h2
  cases h2 with
  | nil =>
    have ei : i = ds.length := by
      have := congrArg List.length hd
      simp at this
      omega
    subst ei
    refine .inl ⟨j.stop L2 G2 H2 _ s2.pre s2.gs o2, ?_⟩
    obtain ⟨o3, sg⟩ := o2.tell (p := D) (o := .lst us) eD nD2
    rw [List.append_nil] at ey
    subst ey
    exact co _ L2 _ H2 (s1.trans (s2.tell hD sg)) o3 (rep_lst.mpr ⟨D, us, rfl, upd_same, rd.mono (.refl _) sg⟩)
  | keep hg ht he hn =>
    rename_i d y ds' ys' ρ1 μa μb
    obtain ⟨e1, e2⟩ := drop_cons hd
    obtain ⟨go, yl⟩ := j.go L2 G2 H2 μ' i d s2.pre s2.gs o2 e1
    have il : i < ds.length := (List.getElem?_eq_some_iff.mp e1).1
    refine .inr ⟨go, fun H' => ∃ us' L' G', H' D = some (.lst us') ∧ Reps X.K L' G' (done ++ [y]) us' ∧ Ok X.K L' G' H' μb ∧ Step L1 G1 H1 L' G' H' ∧ G' D = none ∧ D ∉ L', fun H' ⟨us', L', G', q1, q2, q3, q4, q5, q6⟩ => ⟨ds.length - (i + 1), by omega, rfl, il, done ++ [y], ys', us', μb, L', G', by rw [ey]; simp, by rw [e2]; exact hn, q1, q2, q3, q4, q5, q6, by simp; omega⟩, fun x H3 yy => ?_⟩
    obtain ⟨G3, s3, o3, r3⟩ := yl x H3 yy
    refine ⟨_, hg, L2, G3, nw2 s3 o3, r3, fun σ4 L4 G4 H4 s4 n4 w4 => ⟨by rw [w4, wipe_idem], _, ht, L4, G4, n4, fun L5 G5 H5 s5 o5 => iteT ⟨_, he, L5, G5, n4.step s5 o5, fun v L6 G6 H6 s6 o6 r6 => ?_⟩⟩⟩
    have s36 := ((s3.trans s4).trans s5).trans s6
    obtain ⟨k1, k2, k3⟩ := keepD s36
    refine ⟨us, k1, ?_, us ++ [v], L6, G6, upd_same, (rd.step s36).append (Reps.cons r6 Reps.nil), o6.poke k3 k2, (s2.trans s36).poke hD, k2, k3⟩
    rw [rd.length]
    omega
  | skip hg ht hn =>
    rename_i d ds' ρ1 μa
    obtain ⟨e1, e2⟩ := drop_cons hd
    obtain ⟨go, yl⟩ := j.go L2 G2 H2 μ' i d s2.pre s2.gs o2 e1
    have il : i < ds.length := (List.getElem?_eq_some_iff.mp e1).1
    refine .inr ⟨go, fun H' => ∃ us' L' G', H' D = some (.lst us') ∧ Reps X.K L' G' done us' ∧ Ok X.K L' G' H' μa ∧ Step L1 G1 H1 L' G' H' ∧ G' D = none ∧ D ∉ L', fun H' ⟨us', L', G', q1, q2, q3, q4, q5, q6⟩ => ⟨ds.length - (i + 1), by omega, rfl, il, done, rest, us', μa, L', G', ey, by rw [e2]; exact hn, q1, q2, q3, q4, q5, q6, by omega⟩, fun x H3 yy => ?_⟩
    obtain ⟨G3, s3, o3, r3⟩ := yl x H3 yy
    refine ⟨_, hg, L2, G3, nw2 s3 o3, r3, fun σ4 L4 G4 H4 s4 n4 w4 => ⟨by rw [w4, wipe_idem], _, ht, L4, G4, n4, fun L5 G5 H5 s5 o5 => iteF ?_⟩⟩
    have s35 := (s3.trans s4).trans s5
    obtain ⟨k1, k2, k3⟩ := keepD s35
    exact ⟨us, L5, G5, k1, rd.step s35, o5, s2.trans s35, k2, k3⟩
theorem ev_lc (g : Gd X W k) (ok : BlkOk X.N X.env.scope scope own) (hi : PI X tg iter (iD X.K ρ μ ds μ1)) (h : EvC X scope (own.map (·.2)) tg elt ifs ρ ds μ1 ys μ2) (hl : ds.length ≤ sizeLine) (hs : ∀ x, foldedSetIterable iter X.env x = pure x := by intro _; rfl) :
    PE X (.ListComp elt [⟨tg, iter, ifs, 0⟩] scope pos) (tV X.K ρ μ (.lst ys) μ2) :=
  pe_of (pe_lc (g := bG X scope tg) (tt := bT X scope ifs) (te := bE X scope elt) g.calm g.nd hi ok (fun s H C cl fp => ⟨fun pins s' σ H' v u Q I r ⟨t, p, q⟩ => (p s H C cl fp).run pins s' σ H' v u Q I r q⟩)
    (fun s H C cl fp => ⟨fun pins s' σ H' Q I ⟨t, p, q⟩ => (p s H C cl fp).run pins s' σ H' Q I q⟩) (fun s H C cl fp => ⟨fun pins s' σ H' Q I ⟨t, p, q⟩ => (p s H C cl fp).run pins s' σ H' Q I q⟩) hs) fun σ H Q hv => lc_read h hl hv
/-- y = [..] -/
theorem es_setLc (i : Nat) {y : Str} {py spos : Pos} (g : Gd X W k) (ok : BlkOk X.N X.env.scope scope own) (hi : PI X tg iter (iD X.K ρ μ ds μ1)) (h : EvC X scope (own.map (·.2)) tg elt ifs ρ ds μ1 ys μ2) (hl : ds.length ≤ sizeLine)
    (hsw : swapsWith (.ListComp elt [⟨tg, iter, ifs, 0⟩] scope pos) (some (.Name y py)) spos.line X.env = pure true := by exact sw_true rfl rfl rfl (by decide +kernel)) (hy : X.N[i]? = some y := by rfl) (hyl : X.env.scope.names.lookup y = some .local := by rfl) (hs : ∀ x, foldedSetIterable iter X.env x = pure x := by intro _; rfl) :
    PS X (.Assign [.Name y py] (.ListComp elt [⟨tg, iter, ifs, 0⟩] scope pos) spos) (tS W X.K ρ μ (.next (ρ.set i (some (.lst ys))) μ2)) :=
  ps_of (ps_setLc (g := bG X scope tg) (tt := bT X scope ifs) (te := bE X scope elt) g.calm g.nd hy hyl hsw hi ok (fun s H C cl fp => ⟨fun pins s' σ H' v u Q I r ⟨t, p, q⟩ => (p s H C cl fp).run pins s' σ H' v u Q I r q⟩)
    (fun s H C cl fp => ⟨fun pins s' σ H' Q I ⟨t, p, q⟩ => (p s H C cl fp).run pins s' σ H' Q I q⟩) (fun s H C cl fp => ⟨fun pins s' σ H' Q I ⟨t, p, q⟩ => (p s H C cl fp).run pins s' σ H' Q I q⟩) hs) fun D σ H ⟨L, G, n, c⟩ =>
    lc_read h hl ⟨L, G, n, fun v L' G' H' s' o' r' => c _ L' G' H' s' ⟨o', (n.env.step s').set r' i⟩⟩
end
end PM
set_option Elab.async false
set_option linter.all false
set_option maxRecDepth 100000
set_option maxHeartbeats 2000000
namespace PM
open PySem L2

/-! ### plain data -/
mutual
def D.py : D → Option PyData
  | .non => some .none
  | .bl b => some (.bool b)
  | .int i => some (.int i)
  | .str x => some (.str x)
  | .tup ds => (D.pys ds).map .tuple
  | .lst ds => (D.pys ds).map .list
  | .scr ds => (D.pys ds).map .list
  | .ref _ => none
  | .ty _ => none
  | .loc _ => none
  | .exn _ _ _ _ => none
  | .obj _ _ _ => none
def D.pys : List D → Option (List PyData)
  | [] => some []
  | d :: ds => (D.py d).bind fun p => (D.pys ds).map fun ps => p :: ps
end
section
variable {K : PySem.W.Frag} {L : List Addr} {G H : Hp}
mutual
theorem Rep.dp (hs : Same G H) : ∀ {d : D} {v : V} {p : PyData}, Rep K L G d v → D.py d = some p → Dp K H v p
  | .non, v, p, r, h => by rw [rep_non.mp r]; simp only [D.py, Option.some.injEq] at h; subst h; exact .non
  | .bl b, v, p, r, h => by rw [rep_bl.mp r]; simp only [D.py, Option.some.injEq] at h; subst h; exact .bl b
  | .int b, v, p, r, h => by rw [rep_int.mp r]; simp only [D.py, Option.some.injEq] at h; subst h; exact .int b
  | .str b, v, p, r, h => by rw [rep_str.mp r]; simp only [D.py, Option.some.injEq] at h; subst h; exact .str b
  | .tup ds, v, p, r, h => by
    simp only [D.py, Option.map_eq_some_iff] at h
    obtain ⟨ps, h1, rfl⟩ := h
    obtain ⟨a, vs, rfl, q, rr⟩ := rep_tup.mp r
    exact .tup (Same.sqT hs q) (Reps.dp hs rr h1)
  | .lst ds, v, p, r, h => by
    simp only [D.py, Option.map_eq_some_iff] at h
    obtain ⟨ps, h1, rfl⟩ := h
    obtain ⟨a, vs, rfl, q, rr⟩ := rep_lst.mp r
    exact .lst (SqL.of (hs _ _ q)) (Reps.dp hs rr h1)
  | .scr ds, v, p, r, h => by
    simp only [D.py, Option.map_eq_some_iff] at h
    obtain ⟨ps, h1, rfl⟩ := h
    obtain ⟨a, vs, rfl, q, rr⟩ := rep_scr.mp r
    exact .lst (Same.sqL hs q) (Reps.dp hs rr h1)
  | .ref _, _, _, _, h => by simp only [D.py] at h; cases h
  | .ty _, _, _, _, h => by simp only [D.py] at h; cases h
  | .loc _, _, _, _, h => by simp only [D.py] at h; cases h
  | .exn _ _ _ _, _, _, _, h => by simp only [D.py] at h; cases h
  | .obj _ _ _, _, _, _, h => by simp only [D.py] at h; cases h
theorem Reps.dp (hs : Same G H) : ∀ {ds : List D} {vs : List V} {ps : List PyData}, Reps K L G ds vs → D.pys ds = some ps → DpAll K H vs ps
  | [], vs, ps, r, h => by
    rw [r.inv_nil]
    simp only [D.pys, Option.some.injEq] at h
    subst h
    exact .nil
  | d :: ds, vs, ps, r, h => by
    obtain ⟨v, q, rfl, r1, r2⟩ := r.inv_cons
    simp only [D.pys, Option.bind_eq_some_iff, Option.map_eq_some_iff] at h
    obtain ⟨p, h1, ps', h2, rfl⟩ := h
    exact .cons (Rep.dp hs r1 h1) (Reps.dp hs r2 h2)
end
end
section
variable {X : Cx} {W : WX} {k : Nat} {μ : List M} {da db : D} {p q : PyData}
theorem oc_eqD (g : Gd X W k) (h1 : D.py da = some p) (h2 : D.py db = some q) (s1 : SeqAt.shaped p = true) (s2 : SeqAt.shaped q = true) : OpO X W (compareOp .Eq) da db μ (.ret (.bl (PyData.eqv p q)) μ) :=
  opO_of (op_eqD (by have := g.hr.un; omega)) fun σ x y H Q L G o r1 r2 c => ⟨p, q, r1.dp o.sub h1, r2.dp o.sub h2, s1, s2, CO.now (W := W) (σ := σ) c o (rep_bl.mpr rfl)⟩
theorem oc_neD (g : Gd X W k) (h1 : D.py da = some p) (h2 : D.py db = some q) (s1 : SeqAt.shaped p = true) (s2 : SeqAt.shaped q = true) : OpO X W (compareOp .NotEq) da db μ (.ret (.bl (!PyData.eqv p q)) μ) :=
  opO_of (op_neD (by have := g.hr.un; omega)) fun σ x y H Q L G o r1 r2 c => ⟨p, q, r1.dp o.sub h1, r2.dp o.sub h2, s1, s2, CO.now (W := W) (σ := σ) c o (rep_bl.mpr rfl)⟩
theorem py_nodict : ∀ {d : D} {p : PyData}, D.py d = some p → p.hasDict = false := by
  have both : ∀ n : Nat, (∀ (d : D) (p : PyData), sizeOf d < n → D.py d = some p → p.hasDict = false) ∧ (∀ (ds : List D) (ps : List PyData), sizeOf ds < n → D.pys ds = some ps → PyData.hasDictAll ps = false) := by
    intro n
    induction n with
    | zero => exact ⟨fun _ _ h => absurd h (Nat.not_lt_zero _), fun _ _ h => absurd h (Nat.not_lt_zero _)⟩
    | succ n ih =>
      refine ⟨fun d p hn h => ?_, fun ds ps hn h => ?_⟩
      · cases d with
        | non => simp only [D.py, Option.some.injEq] at h; subst h; simp only [PyData.hasDict]
        | bl b => simp only [D.py, Option.some.injEq] at h; subst h; simp only [PyData.hasDict]
        | int b => simp only [D.py, Option.some.injEq] at h; subst h; simp only [PyData.hasDict]
        | str b => simp only [D.py, Option.some.injEq] at h; subst h; simp only [PyData.hasDict]
        | tup ds =>
          simp only [D.py, Option.map_eq_some_iff] at h
          obtain ⟨ps, h1, rfl⟩ := h
          simp only [PyData.hasDict]
          exact ih.2 ds ps (by simp at hn; omega) h1
        | lst ds =>
          simp only [D.py, Option.map_eq_some_iff] at h
          obtain ⟨ps, h1, rfl⟩ := h
          simp only [PyData.hasDict]
          exact ih.2 ds ps (by simp at hn; omega) h1
        | scr ds =>
          simp only [D.py, Option.map_eq_some_iff] at h
          obtain ⟨ps, h1, rfl⟩ := h
          simp only [PyData.hasDict]
          exact ih.2 ds ps (by simp at hn; omega) h1
        | ref _ => simp only [D.py] at h; cases h
        | ty _ => simp only [D.py] at h; cases h
        | loc _ => simp only [D.py] at h; cases h
        | exn _ _ _ _ => simp only [D.py] at h; cases h
        | obj _ _ _ => simp only [D.py] at h; cases h
      · cases ds with
        | nil => simp only [D.pys, Option.some.injEq] at h; subst h; simp only [PyData.hasDictAll]
        | cons d ds =>
          simp only [D.pys, Option.bind_eq_some_iff, Option.map_eq_some_iff] at h
          obtain ⟨p, h1, ps', h2, rfl⟩ := h
          simp only [PyData.hasDictAll, Bool.or_eq_false_iff]
          exact ⟨ih.1 d p (by simp at hn; omega) h1, ih.2 ds ps' (by simp at hn; omega) h2⟩
  intro d p h
  exact (both (sizeOf d + 1)).1 d p (Nat.lt_succ_self _) h
/-- repr(x) of plain data -/
theorem cb_repr (g : Gd X W k) (h : D.py da = some p) (hs : p.showable = true) (hz : p.shown.length ≤ sizeLine) (hd : p.depth ≤ 100) : CallO X W (fun us => call (.builtin "repr") us) [da] μ (.ret (.str p.shown) μ) := by
  intro pins s σ H xs us Q L G I rx ok r co
  obtain ⟨v, rfl, rv⟩ := r.one
  obtain ⟨u, rfl, ru⟩ := rx.one
  have dp := rv.dp ok.sub h
  obtain ⟨as, rd⟩ := Dp.reads I p v u dp ru
  have fin : ∀ (h' : Heap) (t : Tok) (tk : Nat), (∀ b o, s.heap.get? b = some o → h'.get? b = some o) → EP X pins σ Q (.str p.shown t) { s with heap := h', toks := tk } := fun h' t tk kk => ⟨.str p.shown, H, I.kept (t' := tk) kk, ⟨t, rfl⟩, CO.now (W := W) (σ := σ) co ok (rep_str.mpr rfl)⟩
  have un := g.hr.un
  cases rd with
  | none => exact PySem.P.repr_of_none (by have := fin s.heap s.toks (s.toks + 1) (fun _ _ e => e); simpa only [PyData.shown] using this)
  | bool b => exact PySem.P.repr_of_bool (by have := fin s.heap s.toks (s.toks + 1) (fun _ _ e => e); simpa only [PyData.shown] using this)
  | int i t => exact PySem.P.repr_of_int (by simpa [PyData.showable] using hs) (by have := fin s.heap s.toks (s.toks + 1) (fun _ _ e => e); simpa only [PyData.shown] using this)
  | str x t => exact PySem.P.repr_of_str (by have := fin s.heap s.toks (s.toks + 1) (fun _ _ e => e); simpa only [PyData.shown] using this) (by simpa only [PyData.shown] using hz)
  | list h1 h2 h3 h4 => exact repr_of_reads' (.list h1 h2 h3 h4) hs (PyData.noDict_hsm (py_nodict h)) g.gr (by omega) (fun _ _ e => e) (fun h' u tk hk => fin h' u tk hk) hz
  | tuple h1 h2 h3 h4 => exact repr_of_reads' (.tuple h1 h2 h3 h4) hs (PyData.noDict_hsm (py_nodict h)) g.gr (by omega) (fun _ _ e => e) (fun h' u tk hk => fin h' u tk hk) hz
  | dict h1 h2 h3 h4 h5 => exact absurd (py_nodict h) (by simp [PyData.hasDict])
end

/-! ### texts -/
section
variable {X : Cx} {W : WX} {k : Nat} {ρ : Env'} {μ μ1 μ2 : List M} {e : Expr} {es : List Expr} {pos : Pos} {x y : Str} {i : Int}
theorem ev_fmtS (h : PE X e (tV X.K ρ μ (.str x) μ1)) (hz : x.length ≤ sizeLine) : PE X (.FormattedValue e (-1) none pos) (tV X.K ρ μ (.str x) μ1) :=
  pe_of (pe_fmt h) fun σ H Q ⟨L, G, n, c⟩ => ⟨L, G, n, fun v L1 G1 H1 s1 o1 r1 => .inl ⟨x, rep_str.mp r1, hz, c _ L1 G1 H1 s1 o1 (rep_str.mpr rfl)⟩⟩
theorem ev_fmtI (h : PE X e (tV X.K ρ μ (.int i) μ1)) (hz : i.natAbs.log2 < 1920) : PE X (.FormattedValue e (-1) none pos) (tV X.K ρ μ (.str (toString i)) μ1) :=
  pe_of (pe_fmt h) fun σ H Q ⟨L, G, n, c⟩ => ⟨L, G, n, fun v L1 G1 H1 s1 o1 r1 => .inr ⟨i, rep_int.mp r1, hz, c _ L1 G1 H1 s1 o1 (rep_str.mpr rfl)⟩⟩
/-- the parts of an f-string -/
inductive EvJ (X : Cx) (ρ : Env') : List Expr → Str → List M → Str → List M → Prop
  | nil {acc : Str} {μ : List M} : EvJ X ρ [] acc μ acc μ
  | cons {e : Expr} {es : List Expr} {acc x out : Str} {μ μ1 μ2 : List M} : PE X e (tV X.K ρ μ (.str x) μ1) → (acc ++ x).length ≤ sizeLine → EvJ X ρ es (acc ++ x) μ1 out μ2 → EvJ X ρ (e :: es) acc μ out μ2
theorem evj_read {es : List Expr} {acc out : Str} (h : EvJ X ρ es acc μ out μ2) : ∃ ts, PJ X es ts ∧ ∀ σ H (Q : Str → Hp → Prop), (∃ L G, Now X.K L G H μ ρ σ ∧ ∀ L' G' H', Step L G H L' G' H' → Ok X.K L' G' H' μ2 → Q out H') → tJs ts acc σ H Q := by
  induction h with
  | nil => exact ⟨[], .nil, fun σ H Q ⟨L, G, n, c⟩ => c L G H (.refl _ _ _) n.ok⟩
  | cons h1 hz h2 ih =>
    obtain ⟨ts, pj, rd⟩ := ih
    refine ⟨_, .cons h1 pj, fun σ H Q ⟨L, G, n, c⟩ => ⟨L, G, n, fun v L1 G1 H1 s1 o1 r1 => ⟨_, rep_str.mp r1, hz, rd σ H1 Q ⟨L1, G1, n.step s1 o1, fun L' G' H' s' o' => c L' G' H' (s1.trans s') o'⟩⟩⟩⟩
theorem ev_joined {v1 v2 : Expr} {rest : List Expr} {out : Str} (h : EvJ X ρ (v1 :: v2 :: rest) Str.empty μ out μ1) : PE X (.JoinedStr (v1 :: v2 :: rest) pos) (tV X.K ρ μ (.str out) μ1) := by
  obtain ⟨ts, pj, rd⟩ := evj_read h
  exact pe_of (pe_joined pj) fun σ H Q ⟨L, G, n, c⟩ => rd σ H _ ⟨L, G, n, fun L' G' H' s' o' => c _ L' G' H' s' o' (rep_str.mpr rfl)⟩
end
end PM
set_option Elab.async false
set_option linter.all false
set_option maxRecDepth 100000
set_option maxHeartbeats 2000000
namespace PM
open PySem L2

/-! ### the law's own call -/
/-- the law: the script in, True out -/
def RLaw (good : List Int → Prop) : Rl := fun ds μ o => ∃ ns : List Int, good ns ∧ μ = [] ∧ ds = [.scr (ns.map D.int)] ∧ o = .ret (.bl true) []
section
variable {P : Program} {w : World} {K : PySem.W.Frag} {mg mb : Str → Option Value} {k : Nat} {fa a : Addr} {fd : FuncData} {x : Str} {s1 : Shared} {vs : List Value} {ns : List Int} {good : List Int → Prop}
/-- one heap that tells of the script at most -/
theorem law_one (kin : K.In s1.heap) (gl : s1.heap.Ns mainGlobals mg) (bl : s1.heap.Ns builtinsNs mb) (bb : ∀ x : Str, x ≠ "__name__" → mb x = bootBuiltins x) (lim : s1.heap.NoLimit) (gens : s1.gens = #[])
    (scr : s1.heap.get? a = some { cls := .type "list", data := .seq vs.toArray }) (room : Room k callerA) (F : ∀ base : Heap, K.In base → base.Ns mainGlobals mg → FnG P w K mg base k fa fd [x] (spR K (RLaw good)))
    (bnd : ∀ (s : Shared) (u : Value), BindsTo s fd ⟨[u], []⟩ [(x, u)]) (hgood : good ns) (H : Hp) (only : Only H) (sq : SqL K H a (ns.map V.int)) (hok : HOk P w H s1.heap) (hA : ∀ b, H b ≠ none → b = a) (hK : H a ≠ none → K.lookup a = none) :
    codeAny (model P w) callerA (.call (.ref fa) ⟨[.ref a], []⟩) (fun r s' => r = .ok (.ret (.bool true)) ∧ OldK s1.heap s'.heap ∧ s'.os = s1.os ∧ PyProof.Rows.AllBare s'.gens) s1 := by
  have hidden : ∀ {b : Addr} {o : Obj}, s1.heap.get? b = some o → H b = none → (hidT s1.heap H).get? b = some o := fun e n => hidT_get e n
  have isA : ∀ {b : Addr} {u : HO}, H b = some u → b = a := fun {b u} q => hA b fun z => by rw [z] at q; cases q
  have dictFree : ∀ {b : Addr} {o : Obj} {es : Array DictEntry} {ep : Nat}, s1.heap.get? b = some o → o.data = .dict es ep → H b = none := by
    intro b o es ep e d
    cases q : H b with
    | none => rfl
    | some u =>
      obtain rfl := isA q
      rw [scr] at e
      cases e
      cases (show Data.seq vs.toArray _ = Data.dict es ep from d)
  have names : ∀ {b : Addr} {m : Str → Option Value}, s1.heap.Ns b m → (hidT s1.heap H).Ns b m := fun {b m} ⟨o, es, ep, e, d, r⟩ => ⟨o, es, ep, hidden e (dictFree e d), d, r⟩
  have kin0 : K.In (hidT s1.heap H) := by
    intro b o e
    refine hidden (kin b o e) ?_
    cases q : H b with
    | none => rfl
    | some u =>
      obtain rfl := isA q
      rw [hK (by rw [q]; intro z; cases z)] at e
      cases e
  obtain ⟨mc, lim1, lim2⟩ := lim
  have en : Env0 P w K mg (hidT s1.heap H) callerA [] s1 H := ⟨rfl, ⟨kin0, names gl, ⟨mb, names bl, bb⟩, ⟨mc, names lim1, lim2⟩⟩, fun b o e => of_hidT e, Nat.le_of_eq (hidT_size _ _), trivial, fun b hb => absurd (show b ∈ ([] : List Addr) from hb) (by simp), hok, .of_eq gens⟩
  have said : spR K (RLaw good) [.ref a] H (fun v _ => v = .bl true) (fun _ _ _ => False) := by
    refine ⟨[], H, [.scr (ns.map D.int)], [], .ret (.bl true) [], ⟨fun _ _ e => e, rfl, List.nodup_nil, fun b hb => absurd hb (by simp), fun b hb => absurd hb (by simp), fun n b m e => by simp at e⟩, Reps.cons (rep_scr.mpr ⟨a, _, rfl, sq, ints_reps ns⟩) Reps.nil, ⟨ns, hgood, rfl, rfl, rfl⟩, fun v L' G' H' _ _ r => rep_bl.mp r⟩
  refine codeAny_mono ((F _ kin0 (names gl)).run callerA [] s1 H ⟨[.ref a], []⟩ [.ref a] [.ref a] _ _ room rfl en (bnd s1 (.ref a)) (.cons rfl .nil) said) fun r s' h => ?_
  match r, h with
  | .error e, ⟨_, _, _, _, _, _, _, _, _, _, _, _, z⟩ => exact z.elim
  | .ok .next, h => exact False.elim h
  | .ok .brk, h => exact False.elim h
  | .ok .cont, h => exact False.elim h
  | .ok (.ret u), ⟨v, H', os, bare, un, hok', ru, q⟩ =>
    have ev : v = .bl true := q
    subst ev
    obtain rfl : u = Value.bool true := ru
    refine ⟨rfl, OldK.of_keep fun b o e => ?_, os, bare⟩
    cases q : H b with
    | none => exact un.keep b o e q (by intro z; exact absurd (show b ∈ ([] : List Addr) from z) (by simp)) (by simp)
    | some u =>
      rcases only b with z | ⟨ob, xs, z⟩
      · rw [q] at z; cases z
      · have before := (hok b _ z).1
        have behind := (hok' b _ (un.frzs b ob _ z)).1
        rw [e] at before
        cases before
        exact behind
theorem law_callG (kin : K.In s1.heap) (gl : s1.heap.Ns mainGlobals mg) (bl : s1.heap.Ns builtinsNs mb) (bb : ∀ x : Str, x ≠ "__name__" → mb x = bootBuiltins x) (lim : s1.heap.NoLimit) (gens : s1.gens = #[])
    (scr : s1.heap.get? a = some { cls := .type "list", data := .seq vs.toArray }) (isI : PyProof.Rows.IntsAre vs ns) (hl : ns.length ≤ sizeLine) (room : Room k callerA) (F : ∀ base : Heap, K.In base → base.Ns mainGlobals mg → FnG P w K mg base k fa fd [x] (spR K (RLaw good)))
    (bnd : ∀ (s : Shared) (u : Value), BindsTo s fd ⟨[u], []⟩ [(x, u)]) (hgood : good ns) :
    codeAny (model P w) callerA (.call (.ref fa) ⟨[.ref a], []⟩) (fun r s' => r = .ok (.ret (.bool true)) ∧ OldK s1.heap s'.heap ∧ s'.os = s1.os ∧ PyProof.Rows.AllBare s'.gens) s1 := by
  have rel := vals_ints isI
  cases hk : K.lookup a with
  | some o =>
    have e := kin a o hk
    rw [scr] at e
    cases e
    exact law_one kin gl bl bb lim gens scr room F bnd hgood (fun _ => none) (fun _ => .inl rfl) (.inr ⟨_, vs.toArray, _, hk, rfl, rfl, rfl, by rw [List.size_toArray, isI.length]; exact hl, by simpa using rel⟩)
      (fun b u z => nomatch z) (fun b z => absurd rfl z) (fun z => absurd rfl z)
  | none =>
    refine law_one kin gl bl bb lim gens scr room F bnd hgood (upd (fun _ => none) a (.frz { cls := .type "list", data := .seq vs.toArray } (.lst (ns.map V.int)))) (fun b => ?_) (.inl (.inr ⟨_, upd_same⟩)) (fun b u z => ?_) (fun b z => ?_) (fun _ => hk)
    · by_cases hb : b = a
      · rw [hb, upd_same]
        exact .inr ⟨_, _, rfl⟩
      · exact .inl (upd_ne hb)
    · by_cases hb : b = a
      · subst hb
        rw [upd_same] at z
        cases z
        exact ⟨scr, by rw [List.length_map]; exact hl, vs, _, rel, scr⟩
      · rw [upd_ne hb] at z
        cases z
    · by_cases hb : b = a
      · exact hb
      · exact absurd (upd_ne hb) z
end
/-- what is known of a script -/
structure Scr (ns : List Int) : Prop where
  len : ns.length ≤ 63
  bits : ∀ z ∈ ns, Builtin.Int.intBits z ≤ 1048576
theorem walkG {l : PySem.W.OpenLaw} {k : Nat} {q : Program} {loose : List Str} {XP : (Str → Option Value) → Heap → Prop} {YP : World → Heap → Prop} {d : DefRec} {K : Params → PySem.W.Frag} {x : Str}
    (hn : l.most = some 63) (hdf : d.params.defaults = []) (room : Room k callerA) (hY : ∀ (w : World) (h : Heap), YP w h → (K w.params).In h)
    (F : ∀ (w : World) (mg : Str → Option Value) (fa : Addr) (h : Heap), (K w.params).In h → h.Ns mainGlobals mg → mg d.name = some (.ref fa) →
      ∃ fd : FuncData, (∀ (s : Shared) (u : Value), BindsTo s fd ⟨[u], []⟩ [(x, u)]) ∧ ∀ base : Heap, (K w.params).In base → base.Ns mainGlobals mg → FnG l.prog w (K w.params) mg base k fa fd [x] (spR (K w.params) (RLaw Scr))) :
    PySem.W.WalkO q loose XP YP l.row.toRowW d [] (fun f vs => PySem.call f vs) := by
  refine Att.attach_callB hn hdf fun w s0 s1 mg mb fa o pm cd doc a vs ns G Y ho hd hcd hmg hobj hints hlen hbits hg => ?_
  have kin := hY w _ Y
  obtain ⟨fd, hb, hF⟩ := F w mg fa _ kin G.T.g hmg
  exact law_callG kin G.T.g G.T.b G.T.builtins G.T.nolimit hg hobj hints (Nat.le_trans hlen (by decide)) room hF hb ⟨hlen, hbits⟩
end PM
set_option Elab.async false
set_option linter.all false
set_option maxRecDepth 100000
namespace PM
open PySem L2
section
variable {X : Cx} {W : WX} {k : Nat} {e : Expr} {A B body : List Stmt} {pos : Pos} {ρ : Env'} {μ μ1 : List M} {q : Out} {b : Bool} {tg : Expr} {ds : List D}
/-- a while whose state is told by one value -/
theorem es_whileM {S : Type} (ρ : S → Env') (μ : S → List M) (m : S → Nat) (c : S → Bool) (nx fin : S → S) (g : Gd X W k) (s : S)
    (hc : ∀ s, PT X e (tVT X.K (ρ s) (μ s) (c s) (μ s))) (hb : ∀ s, c s = true → PSs X body (tS W X.K (ρ s) (μ s) (.next (ρ (nx s)) (μ (nx s)))))
    (hm : ∀ s, c s = true → m (nx s) < m s) (hf : ∀ s, c s = false → fin s = s) (hf' : ∀ s, c s = true → fin (nx s) = fin s) :
    PS X (.While e body [] pos) (tS W X.K (ρ s) (μ s) (.next (ρ (fin s)) (μ (fin s)))) := by
  have go : ∀ n s, m s = n → ∃ j, EvWh X W e body j (ρ s) (μ s) (.next (ρ (fin s)) (μ (fin s))) := by
    intro n
    induction n using Nat.strongRecOn with
    | _ n ih =>
      intro s hs
      cases h : c s with
      | false => exact ⟨0, by rw [hf s h]; exact .stop (h ▸ hc s) (Sub.refl _)⟩
      | true =>
        obtain ⟨j, h2⟩ := ih (m (nx s)) (by rw [← hs]; exact hm s h) (nx s) rfl
        rw [hf' s h] at h2
        exact ⟨j + 1, .next (h ▸ hc s) (hb s h) h2⟩
  obtain ⟨j, h⟩ := go _ s rfl
  exact es_while g h
/-- a for whose state is told by one value -/
theorem es_forM {S : Type} (ρ : S → Env') (μ : S → List M) (f : S → D → S) (Iv : S → Prop) (g : Gd X W k) (s : S) {μ0 : List M} (hi : PI X tg e (iD X.K (ρ s) μ0 ds (μ s))) (h0 : Iv s)
    (hb : ∀ s d, d ∈ ds → Iv s → Iv (f s d) ∧ ∃ ρ1, PG X tg (gD X.K (μ s) d (ρ s) ρ1) ∧ PSs X body (tS W X.K ρ1 (μ s) (.next (ρ (f s d)) (μ (f s d)))))
    (hs : ∀ x, foldedSetIterable e X.env x = pure x := by intro _; rfl) :
    PS X (.For tg e body [] pos) (tS W X.K (ρ s) μ0 (.next (ρ (ds.foldl f s)) (μ (ds.foldl f s)))) := by
  refine es_for g hi ?_ hs
  have go : ∀ (es : List D) (s : S), (∀ d ∈ es, d ∈ ds) → Iv s → EvFor X W tg body es (ρ s) (μ s) (.next (ρ (es.foldl f s)) (μ (es.foldl f s))) := by
    intro es
    induction es with
    | nil => intro s _ _; exact .nil (Sub.refl _)
    | cons d es ih =>
      intro s hd hv
      obtain ⟨h1, ρ1, h2, h3⟩ := hb s d (hd d (List.mem_cons_self ..)) hv
      exact .next h2 h3 (ih (f s d) (fun x hx => hd x (List.mem_cons_of_mem _ hx)) h1)
  exact go ds s (fun _ h => h) h0
theorem es_ifT (h : PT X e (tVT X.K ρ μ b μ1)) (hb : b = true) (h1 : PSs X A (tS W X.K ρ μ1 q)) : PS X (.If e A B pos) (tS W X.K ρ μ q) := es_if h (fun _ => h1) fun z => by rw [hb] at z; cases z
theorem es_ifF (h : PT X e (tVT X.K ρ μ b μ1)) (hb : b = false) (h1 : PSs X B (tS W X.K ρ μ1 q)) : PS X (.If e A B pos) (tS W X.K ρ μ q) := es_if h (fun z => by rw [hb] at z; cases z) fun _ => h1
end
end PM
set_option Elab.async false
set_option linter.all false
set_option maxRecDepth 100000
namespace PM
open PySem L2 PyProof.Rows
section
variable {K : PySem.W.Frag} {C B : Addr}
/-- an error of the class C is what «except B» names -/
theorem exm_of (h1 : PySem.W.subIn K (.ref B) (.type "BaseException") = some true) (h2 : PySem.W.isClsIn K B = true) (h3 : PySem.W.typeIn K (.ref B) = some (.type "type")) {b : Bool} (h4 : PySem.W.subIn K (.ref C) (.ref B) = some b) :
    PySem.W.exmOne K (.ref C) (.ref B) = some b := by
  have h2' : (PySem.W.clsIn K B).isSome = true := h2
  unfold PySem.W.exmOne PySem.W.kitCls
  simp only [h1, h2', h3, h4, beq_self_eq_true, Bool.and_self, if_true]
theorem mro_of {o : Value} {d : Option Addr} {cd : ClassData} {sl : Array (Option Value)} {l : List Value} (h : K.lookup C = some ⟨o, d, .cls cd, sl⟩) (e : cd.mro = l) : (PySem.W.clsIn K C).map (·.mro) = some l := by
  unfold PySem.W.clsIn
  rw [h, ← e]
  rfl
end
/-! ### a op= b on an own class: as a op b -/
section
variable {prog : Program} {w : World} {M : Model} {A : Around} {E : Value → Shared → Prop} {s : Shared} {K : PySem.W.Frag} {x C L f : Addr} {h₀ : Heap} {m : Str → Option Value} {ox : Obj} {od : Option Obj} {nm T : String}
open PySem.W in
theorem noInplace {h : Heap} {add : Bool} {cd : ClassData} (X : K.In h) (hc : clsIn K C = some cd) (hm : cd.mro = [.ref C, .type "object"]) (h1 : findIn K (.ref C) (dunderI nm) = some none) (h2 : findIn K (.type "object") (dunderI nm) = some none) :
    Looks M h (fillsInplaceSlot (.ref C) nm add) false := by
  intro A Q E s k q
  have Y := X.keeps k
  have Z := ((looks_clsIn (M := M) X hc).andThen (f := fun cd => pure cd.mro) .now).keeps k
  obtain ⟨hh, g, d, tt, os⟩ := s
  have z1 : Looks M hh (typeLookup (.ref C) (dunderI nm)) none := looks_findIn Y h1
  have z2 : Looks M hh (typeLookup (.type "object") (dunderI nm)) none := looks_findIn Y h2
  unfold fillsInplaceSlot
  refine wpAny_bind (Z.at ?_)
  rw [hm, List.anyM_cons]
  refine wpAny_bind ?_
  repeat lk
  exact q
open PySem.W in
theorem bin1_own {b : Value} {Q : Value → Shared → Prop} (Y : K.In s.heap) (I : InstAt s.heap x ox C od) (hb : Looks (model prog w) s.heap (typeOf b) (.ref C)) {cd : ClassData} (hc : clsIn K C = some cd) (hm : cd.mro = [.ref C, .type "object"])
    (hs : findIn K (.ref C) (PySem.dunder nm) = some (some (.ref f))) (hf : isFn K (.ref f) = true)
    (h : wpAny (model prog w) A (call (.ref f) [.ref x, b]) (PySem.W.CmpBack Q) E s) : wpAny (model prog w) A (binaryOp1 nm (.ref x) b) (fun r s' => ∃ v, r = some v ∧ Q v s') E s := by
  have one := ksp_try Y I hs hf h
  obtain ⟨hh, g, d, tt, os⟩ := s
  have z1 : Looks (model prog w) hh (typeOf (.ref x)) (.ref C) := I.type
  have z2 : Looks (model prog w) hh (typeOf b) (.ref C) := hb
  have z4 : Looks (model prog w) hh (fillsNumberSlot (.ref C) nm) true := fills_K Y hc hm hs
  unfold binaryOp1
  refine wpAny_bind (z1.at (wpAny_bind (z2.at (wpAny_bind (z4.at ?_)))))
  simp only [beq_self_eq_true, if_true]
  ksp_lk
  refine wpAny_mono one (fun r s' hr' => ?_) fun _ _ e => e
  obtain ⟨v, rfl, hq⟩ := hr'
  ksp_lk
  exact ⟨v, rfl, hq⟩
open PySem.W in
theorem bin1_ownT {b : Value} {fo ro rc : Option Value} {Q : Value → Shared → Prop} (Y : K.In s.heap) (I : InstAt s.heap x ox C od) (hb : typeOf b = pure (.type T)) {cd : ClassData} (hc : clsIn K C = some cd) (hm : cd.mro = [.ref C, .type "object"])
    (hs : findIn K (.ref C) (PySem.dunder nm) = some (some (.ref f))) (hf : isFn K (.ref f) = true) (hr : findIn K (.ref C) (dunderR nm) = some rc) (hp : rc = none ∨ ∃ g : Addr, rc = some (.ref g))
    (h1 : findIn K (.type T) (PySem.dunder nm) = some fo) (h2 : findIn K (.type T) (dunderR nm) = some ro) (hsub : subIn K (.type T) (.ref C) = some false)
    (h : wpAny (model prog w) A (call (.ref f) [.ref x, b]) (PySem.W.CmpBack Q) E s) : wpAny (model prog w) A (binaryOp1 nm (.ref x) b) (fun r s' => ∃ v, r = some v ∧ Q v s') E s := by
  have one := ksp_try Y I hs hf h
  obtain ⟨hh, g, d, tt, os⟩ := s
  have z1 : Looks (model prog w) hh (typeOf (.ref x)) (.ref C) := I.type
  have z2 : Looks (model prog w) hh (typeOf b) (.type T) := Looks.of_pure hb
  have z4 : Looks (model prog w) hh (fillsNumberSlot (.ref C) nm) true := fills_K Y hc hm hs
  have z5 := ksp_fillsT (M := model prog w) Y h1 h2
  have z6 : Looks (model prog w) hh (isSubtype (.type T) (.ref C)) false := looks_subIn Y hsub
  have z7 := ksp_inPy (M := model prog w) Y hs hr hp
  have z8 : Looks (model prog w) hh (numberSlotInPython (.type T) nm) false := Looks.of_pure rfl
  have z9 := looks_findIn (M := model prog w) Y h2
  generalize ((fo.isSome && !isSeqSlot fo) || (ro.isSome && !isSeqSlot ro)) = right at z5
  have ne : (Value.ref C == Value.type T) = false := Bool.eq_false_iff.mpr fun q => by cases beq_iff_eq.mp q
  unfold binaryOp1
  refine wpAny_bind (z1.at (wpAny_bind (z2.at (wpAny_bind (z4.at ?_)))))
  simp only [ne, Bool.false_eq_true, if_false]
  cases right with
  | false =>
    ksp_lk
    refine wpAny_mono one (fun r s' hr' => ?_) fun _ _ e => e
    obtain ⟨v, rfl, hq⟩ := hr'
    ksp_lk
    exact ⟨v, rfl, hq⟩
  | true =>
    ksp_lk
    refine wpAny_mono one (fun r s' hr' => ?_) fun _ _ e => e
    obtain ⟨v, rfl, hq⟩ := hr'
    ksp_lk
    exact ⟨v, rfl, hq⟩
open PySem.W in
theorem inpl_of {op : Operator} {b : Value} {Q : Value → Shared → Prop} (Y : K.In s.heap) (I : InstAt s.heap x ox C od) {cd : ClassData} (hc : clsIn K C = some cd) (hm : cd.mro = [.ref C, .type "object"])
    (h1 : findIn K (.ref C) (dunderI op.info.2) = some none) (h2 : findIn K (.type "object") (dunderI op.info.2) = some none)
    (h : wpAny (model prog w) A (binaryOp1 op.info.2 (.ref x) b) (fun r s' => ∃ v, r = some v ∧ Q v s') E s) : wpAny (model prog w) A (inplaceOp op (.ref x) b) Q E s := by
  obtain ⟨hh, g, d, tt, os⟩ := s
  have z1 : Looks (model prog w) hh (typeOf (.ref x)) (.ref C) := I.type
  have z3 : Looks (model prog w) hh (fillsInplaceSlot (.ref C) op.info.2 (op == .Add)) false := noInplace Y hc hm h1 h2
  unfold inplaceOp
  refine wpAny_holding (wpAny_bind (z1.at (wpAny_bind (z3.at ?_))))
  simp only [Bool.false_eq_true, if_false]
  refine wpAny_bind (wpAny_mono h (fun r s' hr' => ?_) fun _ _ e => e)
  obtain ⟨v, rfl, hq⟩ := hr'
  exact wpAny_pure hq
end
end PM
set_option Elab.async false
set_option linter.all false
set_option maxRecDepth 100000
namespace PM
open PySem L2
/-! ### a op= b -/
section
variable {X : Cx} {W : WX} {k j : Nat} {ps : List Str} {R : Rl} {f C : Addr} {fd : FuncData} {μ μ1 μ2 : List M} {o : FO} {da db d : D} {ns ns' : List Str} {fs fs' : List D} {op : Operator} {ρ : Env'} {e : Expr} {pos : Pos} {x : Str}
theorem oi_own (g : Gd X W k) (oc : OwnC X.K C) (hm : Meth X.K C (PySem.dunder op.info.2) f) (h1 : PySem.W.findIn X.K (.ref C) (dunderI op.info.2) = some none) (h2 : PySem.W.findIn X.K (.type "object") (dunderI op.info.2) = some none) (c : Cal X.prog X.w X.K X.mg X.base j ps R f fd)
    (hR : R [.obj C ns fs, .obj C ns' fs'] μ o) (hj : j ≤ k := by decide) : OpO X W (inplaceOp op) (.obj C ns fs) (.obj C ns' fs') μ o := by
  intro pins s σ H x y v u Q L G I rx ry ok r1 r2 co
  have ty := looks_ty I ok (.obj oc) r2 ry
  obtain ⟨a, dx, vs, rfl, q, _⟩ := rep_obj.mp r1
  cases rx
  obtain ⟨ox, od, J⟩ := inst_at I (ok.sub _ _ q)
  obtain ⟨cd, hcd, hmr⟩ := oc.cd
  exact inpl_of I.kIn J hcd hmr h1 h2 (bin1_own I.kIn J ty hcd hmr hm.at_ hm.fn (wpAny_mono (c.run g hj hR pins s σ H [.ref a, y] [.ref a, u] Q L G I (.cons rfl (.cons ry .nil)) ok (Reps.cons r1 (Reps.cons r2 Reps.nil)) co) (fun _ _ z => back z) fun _ _ z => z))
theorem oi_ownI {i : Int} {rc fo ro : Option Value} (g : Gd X W k) (oc : OwnC X.K C) (hm : Meth X.K C (PySem.dunder op.info.2) f) (h1 : PySem.W.findIn X.K (.ref C) (dunderI op.info.2) = some none) (h2 : PySem.W.findIn X.K (.type "object") (dunderI op.info.2) = some none)
    (hr : PySem.W.findIn X.K (.ref C) (dunderR op.info.2) = some rc) (hp : rc = none ∨ ∃ g : Addr, rc = some (.ref g)) (h3 : PySem.W.findIn X.K (.type "int") (PySem.dunder op.info.2) = some fo) (h4 : PySem.W.findIn X.K (.type "int") (dunderR op.info.2) = some ro)
    (c : Cal X.prog X.w X.K X.mg X.base j ps R f fd) (hR : R [.obj C ns fs, .int i] μ o) (hj : j ≤ k := by decide) : OpO X W (inplaceOp op) (.obj C ns fs) (.int i) μ o := by
  intro pins s σ H x y v u Q L G I rx ry ok r1 r2 co
  obtain ⟨a, dx, vs, rfl, q, _⟩ := rep_obj.mp r1
  cases rx
  obtain ⟨ox, od, J⟩ := inst_at I (ok.sub _ _ q)
  obtain ⟨cd, hcd, hmr⟩ := oc.cd
  have ey := rep_int.mp r2
  subst ey
  have ry' := ry
  obtain ⟨t, rfl⟩ := ry'
  exact inpl_of I.kIn J hcd hmr h1 h2 (bin1_ownT I.kIn J rfl hcd hmr hm.at_ hm.fn hr hp h3 h4 (by show (PySem.fastBuiltinMro "int").map (·.contains (.ref C)) = some false; rw [mro_int]; rfl) (wpAny_mono (c.run g hj hR pins s σ H [.ref a, .int i] [.ref a, .int i t] Q L G I (.cons rfl (.cons ⟨t, rfl⟩ .nil)) ok (Reps.cons r1 (Reps.cons r2 Reps.nil)) co) (fun _ _ z => back z) fun _ _ z => z))
/-- name op= e -/
theorem es_aug (i : Nat) (nd : X.N.Nodup) (hd : ρ[i]? = some (some da)) (he : PE X e (tV X.K ρ μ db μ1)) (ho : OpO X W0 (inplaceOp op) da db μ1 (.ret d μ2)) {pos' : Pos} (hi : X.N[i]? = some x := by rfl) (hx : Loc X.env.scope x := by first | exact Or.inl rfl | exact Or.inr rfl)
    (hf : X.fn x = true ∨ X.env.scope.names.lookup x = some .local := by first | exact .inl rfl | exact .inr rfl | assumption) : PS X (.AugAssign (.Name x pos') op e pos) (tS W X.K ρ μ (.next (ρ.set i (some d)) μ2)) := by
  have hip : PIp X op (fun x y H Q => ∃ L G, Ok X.K L G H μ1 ∧ Rep X.K L G da x ∧ Rep X.K L G db y ∧ Comes X.K L G H d μ2 Q) :=
    fun pins s σ H x y v u Q I rx ry ⟨L, G, ok, r1, r2, c⟩ => ho pins s σ H x y v u Q L G I rx ry ok r1 r2 c
  refine ps_of (ps_aug nd hi hx he hip hf) fun D σ H ⟨L, G, n, c⟩ => ?_
  obtain ⟨v, e1, r⟩ := n.env.at_ i da hd
  exact ⟨v, e1, L, G, n, fun y L1 G1 H1 s1 o1 r1 => ⟨L1, G1, o1, r.step s1, r1, fun z L2 G2 H2 s2 o2 r2 => c _ L2 G2 H2 (s1.trans s2) ⟨o2, (n.env.step (s1.trans s2)).set r2 i⟩⟩⟩
end
/-! ### calls by names -/
/-- how values are put in the parameters' order: positional ones, then those of the keywords -/
def pick {α : Type} (p : List Nat) (l : List α) : List α := p.filterMap (l[·]?)
structure KwB (K : PySem.W.Frag) (fd : FuncData) (ps : List Str) (n : Nat) (ks : List Str) (p : List Nat) : Prop where
  to : ∀ (s : Shared) (us ws : List Value), K.In s.heap → us.length = n → ws.length = ks.length → BindsTo s fd ⟨us, ks.zip ws⟩ (ps.zip (pick p (us ++ ws)))
  le : ∀ i ∈ p, i < n + ks.length
theorem pick_len {α : Type} {p : List Nat} {l : List α} (h : ∀ i ∈ p, i < l.length) : (pick p l).length = p.length := by
  induction p with
  | nil => rfl
  | cons a p ih =>
    have := h a (List.mem_cons_self ..)
    unfold pick at ih ⊢
    rw [List.filterMap_cons, List.getElem?_eq_getElem this]
    simp only [List.length_cons, ih fun i hi => h i (List.mem_cons_of_mem _ hi)]
theorem pick_vals {p : List Nat} {vs : List V} {us : List Value} (r : Vals vs us) : Vals (pick p vs) (pick p us) := by
  induction p with
  | nil => exact .nil
  | cons a p ih =>
    unfold pick at ih ⊢
    rw [List.filterMap_cons, List.filterMap_cons]
    by_cases h : a < vs.length
    · obtain ⟨u, e1, e2⟩ := r.get (List.getElem?_eq_getElem h)
      rw [List.getElem?_eq_getElem h, e1]
      exact .cons e2 ih
    · rw [List.getElem?_eq_none (by omega), List.getElem?_eq_none (by rw [← r.length]; omega)]
      exact ih
theorem pick_reps {K : PySem.W.Frag} {L : List Addr} {G : Hp} {p : List Nat} {ds : List D} {vs : List V} (r : Reps K L G ds vs) : Reps K L G (pick p ds) (pick p vs) := by
  induction p with
  | nil => exact Reps.nil
  | cons a p ih =>
    unfold pick at ih ⊢
    rw [List.filterMap_cons, List.filterMap_cons]
    by_cases h : a < ds.length
    · obtain ⟨v, e1, e2⟩ := r.get (List.getElem?_eq_getElem h)
      rw [List.getElem?_eq_getElem h, e1]
      exact Reps.cons e2 ih
    · rw [List.getElem?_eq_none (by omega), List.getElem?_eq_none (by rw [r.length]; omega)]
      exact ih
section
variable {X : Cx} {W : WX} {k j n : Nat} {ps ks : List Str} {p : List Nat} {R : Rl} {f C : Addr} {fd : FuncData} {ds es' : List D} {μ μ1 μ2 : List M} {o : FO} {e : Expr} {es : List Expr} {x m : Str} {pp pos apos kpos : Pos} {ρ : Env'} {d : D} {kws : List Keyword} {nm : Option Str}
theorem pk_of {t t' : TA} (h : PK X kws t) (w : ∀ σ H Q, t' σ H Q → t σ H Q) : PK X kws t' := ⟨fun pos pins s σ H Q I q => h.run pos pins s σ H Q I (w _ _ _ q)⟩
theorem ek_nil : PK X [] (tVA X.K ρ μ [] μ) := pk_of pk_nil fun σ H Q ⟨L, G, n, c⟩ => c [] L G H (.refl _ _ _) n.ok Reps.nil
theorem ek_cons (h1 : PE X e (tV X.K ρ μ d μ1)) (h2 : PK X kws (tVA X.K ρ μ1 ds μ2)) : PK X (⟨nm, e, kpos⟩ :: kws) (tVA X.K ρ μ (d :: ds) μ2) :=
  pk_of (pk_cons h1 h2) fun σ H Q ⟨L, G, n, c⟩ => ⟨L, G, n, fun v L1 G1 H1 s1 o1 r1 => ⟨L1, G1, n.step s1 o1, fun vs L2 G2 H2 s2 o2 r2 => c (v :: vs) L2 G2 H2 (s1.trans s2) o2 (Reps.cons (r1.step s2) r2)⟩⟩
/-- a call with positional values (at us) and keywords' values (at ws) -/
theorem runK (F : FnG X.prog X.w X.K X.mg X.base j f fd ps (spR X.K R)) (g : Gd X W k) (hj : j ≤ k) (hb : KwB X.K fd ps n ks p) (hR : R (pick p (ds ++ es')) μ o)
    {pins : List (Addr × Obj)} {s : Shared} {σ : St} {H : Hp} {vs zs : List V} {us ws : List Value} {Q : VK} {L : List Addr} {G : Hp} (I : Inv X pins σ H s) (r1 : Vals vs us) (r2 : Vals zs ws) (ok : Ok X.K L G H μ) (q1 : Reps X.K L G ds vs) (q2 : Reps X.K L G es' zs)
    (l1 : ds.length = n) (l2 : es'.length = ks.length) (co : CO W X.K L G H σ o Q) : wpAny (model X.prog X.w) X.A (call (.ref f) us (ks.zip ws)) (EP X pins σ Q) X.xe s := by
  have hsp : spR X.K R (pick p (vs ++ zs)) H Q (WE W σ) := CO.sp hR ok (pick_reps (q1.append q2)) co
  exact run_fnG (E := WE W σ) F (g.hr.mono hj) g.gr (hb.to s us ws I.kIn (by rw [← r1.length, q1.length, l1]) (by rw [← r2.length, q2.length, l2])) (passAt g.tk σ) I (pick_vals (r1.append r2)) hsp
/-- o.m(k = v, ..) -/
theorem ev_methK {ob : Expr} {pl : Sem Bool} (g : Gd X W k) (ho : PE X ob (tV X.K ρ μ d μ1)) (cl : Cls X.K C) (hm : Meth X.K C m f) (F : FnG X.prog X.w X.K X.mg X.base j f fd ps (spR X.K R)) (hb : KwB X.K fd ps 1 ks p) (hk : PK X kws (tVA X.K ρ μ1 ds μ2)) (hr : Recv C m μ1 d) (hR : R (pick p (d :: ds)) μ2 o) (hl : ds.length = ks.length := by rfl) (hj : j ≤ k := by decide)
    (hall : (backToKw pos (keywordEach kws X.env)).all (·.1.isSome) = true := by rfl) (hks : (backToKw pos (keywordEach kws X.env)).filterMap (·.1) = ks := by rfl)
    (hpl : ((backTo pos (starEach [] X.env)).any (·.1) || (backToKw pos (keywordEach kws X.env)).any (·.1.isNone)) = false := by rfl)
    (ht : eval (.Call (.Attribute ob m apos) [] kws pos) X.env = (do
      let ov ← eval ob X.env
      standAt apos.atName
      let (f, first) ← holding [ov] (getMethod ov m pl)
      callWith pos f first (backTo pos (starEach [] X.env)) (backToKw pos (keywordEach kws X.env))) := by rfl) :
    PE X (.Call (.Attribute ob m apos) [] kws pos) (tO W X.K ρ μ o) := by
  refine ⟨fun pins s σ H Q I ⟨L, G, n, co⟩ => ?_⟩
  refine PySem.W.methodCall_KW (pl := pl) (thn (ho.run pins s σ H (fun x H1 => ∃ L1 G1, Step L G H L1 G1 H1 ∧ Ok X.K L1 G1 H1 μ1 ∧ Rep X.K L1 G1 d x) I ⟨L, G, n, fun v L1 G1 H1 s1 o1 r1 => ⟨L1, G1, s1, o1, r1⟩⟩) fun u s1 ⟨x, H1, I1, rx, L1, G1, s1, o1, r1⟩ => ?_) ht
  obtain ⟨a, dx, fs, ex, ea, l⟩ := hr.at_ o1 r1
  subst ex
  obtain rfl : u = Value.ref a := rx
  refine getmeth_ok I1 ea cl hm l ?_
  refine PySem.W.callWith_KW0 (first := [.ref a]) (h₀ := X.base) I1.ok.mod.kin hm.kp hall ?_ hpl
  refine thn (hk.run pos pins _ σ H1 (fun vs H2 => ∃ L2 G2, Step L1 G1 H1 L2 G2 H2 ∧ Ok X.K L2 G2 H2 μ2 ∧ Reps X.K L2 G2 ds vs) I1 ⟨L1, G1, n.step s1 o1, fun vs L2 G2 H2 s2 o2 r2 => ⟨L2, G2, s2, o2, r2⟩⟩) fun ws s2 ⟨zs, H2, I2, rz, L2, G2, st2, o2, r2⟩ => ⟨I2.kIn, ?_⟩
  rw [hks]
  exact runK (ds := [d]) (vs := [.ref a]) F g hj hb hR I2 (.cons rfl .nil) rz o2 (Reps.cons (r1.step st2) Reps.nil) r2 rfl hl (CO.step co (s1.trans st2))
end
end PM
set_option Elab.async false
set_option linter.all false
set_option maxRecDepth 100000
namespace PM
open PySem L2
theorem Gd.w0 {X : Cx} {W : WX} {k : Nat} (g : Gd X W k) : Gd X W0 k := ⟨g.calm, g.nd, g.tk.imp fun _ _ _ _ z => False.elim z, g.po, g.hr, g.gr⟩
/-! ### the rules where a value comes -/
section
variable {X : Cx} {W : WX} {k j i : Nat} {ps : List Str} {R : Rl} {f C : Addr} {fd : FuncData} {ds : List D} {μ μ1 μ2 μ3 : List M} {e a b c : Expr} {es : List Expr} {x m : Str} {p pos apos : Pos} {ρ : Env'} {d d' da db : D} {id T : String} {t : Bool}
theorem es_retV (h : PE X e (tV X.K ρ μ d μ1)) : PS X (.Return (some e) pos) (tS W X.K ρ μ (.ret d μ1)) := es_ret (o := .ret d μ1) h
theorem es_exprV (h : PE X e (tV X.K ρ μ d μ1)) (hs : swapsWith e none pos.line X.env = pure false := by rfl) : PS X (.Expr e pos) (tS W X.K ρ μ (.next ρ μ1)) := es_expr (o := .ret d μ1) h hs
theorem es_setV (i : Nat) (nd : X.N.Nodup) (h : PE X e (tV X.K ρ μ d μ1)) {pos' : Pos} (hi : X.N[i]? = some x := by rfl) (hx : Loc X.env.scope x := by first | exact Or.inl rfl | exact Or.inr rfl) (hs : swapsWith e (some (.Name x pos')) pos.line X.env = pure false := by rfl)
    (hf : X.fn x = true ∨ X.env.scope.names.lookup x = some .local := by first | exact .inl rfl | exact .inr rfl | assumption) : PS X (.Assign [.Name x pos'] e pos) (tS W X.K ρ μ (.next (ρ.set i (some d)) μ1)) := es_set i nd (o := .ret d μ1) h hi hx hs hf
theorem ev_opV {op : Operator} (ha : PE X a (tV X.K ρ μ da μ1)) (hb : PE X b (tV X.K ρ μ1 db μ2)) (ho : OpO X W (binaryOp op) da db μ2 (.ret d μ3)) : PE X (.BinOp a op b pos) (tV X.K ρ μ d μ3) := ev_op ha hb ho
theorem ev_opI {op : Operator} (ha : PE X a (tV X.K ρ μ da μ1)) (hb : PE X b (tV X.K ρ μ1 db μ2)) (ho : OpO X W0 (binaryOp op) da db μ2 (.ret d μ3)) : PE X (.BinOp a op b pos) (tV X.K ρ μ d μ3) := ev_op (o := .ret d μ3) ha hb ho
theorem ev_cmpV {op : CmpOp} (ha : PE X a (tV X.K ρ μ da μ1)) (hb : PE X b (tV X.K ρ μ1 db μ2)) (ho : OpO X W0 (compareOp op) da db μ2 (.ret d μ3)) (hm : behindInMarks op b = false := by first | exact nomark _ | rfl) : PE X (.Compare a [op] [b] pos) (tV X.K ρ μ d μ3) := ev_cmp (o := .ret d μ3) ha hb ho hm
theorem ev_unV {op : UnaryOp} (ha : PE X a (tV X.K ρ μ da μ1)) (ho : UnO X W (unaryOp op) da μ1 (.ret d μ2)) : PE X (.UnaryOp op a pos) (tV X.K ρ μ d μ2) := ev_un ha ho
theorem ev_unI {op : UnaryOp} (ha : PE X a (tV X.K ρ μ da μ1)) (ho : UnO X W0 (unaryOp op) da μ1 (.ret d μ2)) : PE X (.UnaryOp op a pos) (tV X.K ρ μ d μ2) := ev_un (o := .ret d μ2) ha ho
theorem ev_bltV (ha : PA X (e :: es) (tVA X.K ρ μ ds μ1)) (hf : CallO X W0 (fun us => call (.builtin id) us) ds μ1 (.ret d μ2)) (hm : X.mg x = none) (hv : bootBuiltins x = some (.builtin id)) (hg : Gl X x := by rfl) (hn : x ≠ "__name__" := by decide) (hdb : (x == ("__debug__" : Str)) = false := by decide) (he : starEach (e :: es) X.env = (false, eval e X.env) :: starEach es X.env := by rfl) (hpl : (backTo pos (starEach es X.env)).any (·.1) = false := by rfl) :
    PE X (.Call (.Name x p) (e :: es) [] pos) (tV X.K ρ μ d μ2) := ev_blt (o := .ret d μ2) ha hf hm hv hg hn hdb he hpl
theorem ev_bclV (ha : PA X (e :: es) (tVA X.K ρ μ ds μ1)) (hf : CallO X W0 (fun us => call (.type T) us) ds μ1 (.ret d μ2)) (hm : X.mg x = none) (hv : bootBuiltins x = some (.type T)) (hg : Gl X x := by rfl) (hn : x ≠ "__name__" := by decide) (hdb : (x == ("__debug__" : Str)) = false := by decide) (he : starEach (e :: es) X.env = (false, eval e X.env) :: starEach es X.env := by rfl) (hpl : (backTo pos (starEach es X.env)).any (·.1) = false := by rfl) :
    PE X (.Call (.Name x p) (e :: es) [] pos) (tV X.K ρ μ d μ2) := ev_bcl (o := .ret d μ2) ha hf hm hv hg hn hdb he hpl
theorem ev_callV (g : Gd X W k) (c : Cal X.prog X.w X.K X.mg X.base j ps R f fd) (hm : X.mg x = some (.ref f)) (hk : PySem.W.keepIn X.K (.ref f) = true) (ha : PA X (e :: es) (tVA X.K ρ μ ds μ1)) (hR : R ds μ1 (.ret d μ2)) (hj : j ≤ k := by decide) (hg : Gl X x := by rfl) (hdb : (x == ("__debug__" : Str)) = false := by decide) (he : starEach (e :: es) X.env = (false, eval e X.env) :: starEach es X.env := by rfl) (hpl : (backTo pos (starEach es X.env)).any (·.1) = false := by rfl) :
    PE X (.Call (.Name x p) (e :: es) [] pos) (tV X.K ρ μ d μ2) := ev_call (o := .ret d μ2) g c hm hk ha hR hj hg hdb he hpl
theorem ev_oneV {op} (h : PE X a (tV X.K ρ μ d μ1)) : PE X (.BoolOp op [a] pos) (tV X.K ρ μ d μ1) := ev_one (W := W0) (o := .ret d μ1) h
theorem ev_ifV (h : PT X c (tVT X.K ρ μ t μ1)) (h1 : t = true → PE X a (tV X.K ρ μ1 d μ2)) (h2 : t = false → PE X b (tV X.K ρ μ1 d μ2)) : PE X (.IfExp c a b pos) (tV X.K ρ μ d μ2) := ev_if (W := W0) (o := .ret d μ2) h h1 h2
/-- what is read of a value that does not come -/
theorem ev_attrX {C' : Addr} {ns : List Str} {dx : List D} (ho : PE X e (tO W X.K ρ μ (.exc C' ns dx μ1))) (hb : attributeBase e m X.env (eval e X.env) = eval e X.env := by rfl) : PE X (.Attribute e m pos) (tO W X.K ρ μ (.exc C' ns dx μ1)) :=
  pe_of (pe_fld ho hb) fun σ H Q ⟨L, G, n, c⟩ => ⟨L, G, n, c⟩
theorem ev_eqV (h : PE X a (tV X.K ρ μ d μ1)) (e : d = d') : PE X a (tV X.K ρ μ d' μ1) := e ▸ h
/-- a, b, c = x, y, z -/
theorem es_par3 (i j l : Nat) {y z : Str} {px py pz pt : Pos} {kt k2 pt2} {dc : D} (g : Gd X W k) (ha : PA X [a, b, c] (tVA X.K ρ μ [da, db, dc] μ1)) (hi : X.N[i]? = some x := by rfl) (hj : X.N[j]? = some y := by rfl) (hl : X.N[l]? = some z := by rfl) (h12 : i ≠ j ∧ i ≠ l ∧ j ≠ l := by decide)
    (hx : X.env.scope.names.lookup x = some .local ∧ X.env.scope.names.lookup y = some .local ∧ X.env.scope.names.lookup z = some .local := by exact ⟨rfl, rfl, rfl⟩)
    (hw : swappedStores [.Tuple [.Name x px, .Name y py, .Name z pz] kt pt] (.Tuple [a, b, c] k2 pt2) X.env = pure (some [x, y, z]) := by rfl) (hs : swapsWithSole [.Tuple [.Name x px, .Name y py, .Name z pz] kt pt] (.Tuple [a, b, c] k2 pt2) pos.line X.env = pure false := by rfl) :
    PS X (.Assign [.Tuple [.Name x px, .Name y py, .Name z pz] kt pt] (.Tuple [a, b, c] k2 pt2) pos) (tS W X.K ρ μ (.next (((ρ.set i (some da)).set j (some db)).set l (some dc)) μ1)) :=
  ps_of (ps_par3 g.calm g.nd hi hj hl h12.1 h12.2.1 h12.2.2 hx.1 hx.2.1 hx.2.2 ha hw hs) fun D σ H ⟨L, G, n, co⟩ => ⟨L, G, n, fun vs L' G' H' s' o' r' => by
    obtain ⟨v, r, e, r1, r2⟩ := r'.inv_cons
    obtain ⟨w, r, e', r3, r4⟩ := r2.inv_cons
    obtain ⟨u, r, e2, r5, r6⟩ := r4.inv_cons
    have e3 := r6.inv_nil
    subst e e' e2 e3
    exact ⟨v, w, u, rfl, co _ L' G' H' s' ⟨o', (((n.env.step s').set r1 i).set r3 j).set r5 l⟩⟩⟩
end
end PM
set_option Elab.async false
set_option linter.all false
set_option maxRecDepth 100000
namespace PM
open PySem L2
/-! ### statements whose end is known by a property alone -/
section
variable {X : Cx} {W : WX} {k : Nat} {e tg : Expr} {body rest ss A B : List Stmt} {st : Stmt} {pos : Pos} {ds : List D} {ρ ρ0 ρ1 : Env'} {μ μ0 μ1 : List M} {q : Out} {L : Out → Prop} {b : Bool}
def Evs (X : Cx) (W : WX) (ss : List Stmt) (ρ : Env') (μ : List M) (L : Out → Prop) : Prop := ∃ q, L q ∧ PSs X ss (tS W X.K ρ μ q)
theorem evs_of (h : PSs X ss (tS W X.K ρ μ q)) (l : L q) : Evs X W ss ρ μ L := ⟨q, l, h⟩
theorem evs_nil (l : L (.next ρ μ)) : Evs X W [] ρ μ L := ⟨_, l, ess_nil⟩
theorem evs_cons (h : PS X st (tS W X.K ρ μ (.next ρ1 μ1))) (r : Evs X W rest ρ1 μ1 L) : Evs X W (st :: rest) ρ μ L := by
  obtain ⟨q, l, r⟩ := r
  exact ⟨q, l, ess_cons h r⟩
theorem evs_one (h : PS X st (tS W X.K ρ μ q)) (l : L q) : Evs X W [st] ρ μ L := ⟨q, l, ess_one h⟩
theorem evs_stop (h : PS X st (tS W X.K ρ μ q)) (l : L q) (hq : q.stops) : Evs X W (st :: rest) ρ μ L := ⟨q, l, ess_stop h hq⟩
theorem evs_weak (r : Evs X W ss ρ1 μ L) (s : Sub ρ1 ρ) : Evs X W ss ρ μ L := by
  obtain ⟨q, l, r⟩ := r
  exact ⟨q, l, ess_weak r s⟩
theorem evs_imp {L' : Out → Prop} (r : Evs X W ss ρ μ L') (h : ∀ q, L' q → L q) : Evs X W ss ρ μ L := by
  obtain ⟨q, l, r⟩ := r
  exact ⟨q, h q l, r⟩
/-- the end of a loop's body: the names as at its begin, something known of the store -/
def Nx (ρ0 : Env') (Iv : List M → Prop) : Out → Prop := fun q => ∃ ρ2 μ2, (q = .next ρ2 μ2 ∨ q = .cont ρ2 μ2) ∧ Iv μ2 ∧ Sub ρ0 ρ2
theorem nx_next {Iv : List M → Prop} {ρ2 : Env'} {μ2 : List M} (h : Iv μ2) (s : Sub ρ0 ρ2) : Nx ρ0 Iv (.next ρ2 μ2) := ⟨ρ2, μ2, .inl rfl, h, s⟩
/-- a for; the invariant knows what is still to come -/
theorem evs_forI (Iv : List D → List M → Prop) (g : Gd X W k) (hi : PI X tg e (iD X.K ρ0 μ0 ds μ1)) (h0 : Iv ds μ1)
    (hb : ∀ d r, (∃ l, ds = l ++ d :: r) → ∀ μ, Iv (d :: r) μ → ∃ ρ1, PG X tg (gD X.K μ d ρ0 ρ1) ∧ Evs X W body ρ1 μ (Nx ρ0 (Iv r)))
    (hr : ∀ μ2, Iv [] μ2 → Evs X W rest ρ0 μ2 L) (hs : ∀ x, foldedSetIterable e X.env x = pure x := by intro _; rfl) : Evs X W (.For tg e body [] pos :: rest) ρ0 μ0 L := by
  have go : ∀ (es : List D) (μ : List M), (∃ l, ds = l ++ es) → Iv es μ → ∃ μ2, Iv [] μ2 ∧ EvFor X W tg body es ρ0 μ (.next ρ0 μ2) := by
    intro es
    induction es with
    | nil => intro μ _ hv; exact ⟨μ, hv, .nil (Sub.refl _)⟩
    | cons d es ih =>
      intro μ hd hv
      obtain ⟨ρ1, h1, q, ⟨ρ2, μ2, hq, hv2, h3⟩, h2⟩ := hb d es hd μ hv
      obtain ⟨l, hl⟩ := hd
      obtain ⟨μ3, hv3, h4⟩ := ih μ2 ⟨l ++ [d], by rw [hl]; simp⟩ hv2
      rcases hq with rfl | rfl
      · exact ⟨μ3, hv3, .next h1 (ess_forget h2 h3) h4⟩
      · exact ⟨μ3, hv3, .cont h1 (pss_of h2 fun D σ H ⟨L, G, n, c⟩ => ⟨L, G, n, fun σ' L' G' H' s' n' => c σ' L' G' H' s' (n'.forget h3)⟩) h4⟩
  obtain ⟨μ2, hv, h⟩ := go ds μ1 ⟨[], rfl⟩ h0
  exact evs_cons (es_for g hi h hs) (hr μ2 hv)
theorem evs_forE (Iv : List M → Prop) (g : Gd X W k) (hi : PI X tg e (iD X.K ρ0 μ0 ds μ1)) (h0 : Iv μ1) (hb : ∀ d ∈ ds, ∀ μ, Iv μ → ∃ ρ1, PG X tg (gD X.K μ d ρ0 ρ1) ∧ Evs X W body ρ1 μ (Nx ρ0 Iv))
    (hr : ∀ μ2, Iv μ2 → Evs X W rest ρ0 μ2 L) (hs : ∀ x, foldedSetIterable e X.env x = pure x := by intro _; rfl) : Evs X W (.For tg e body [] pos :: rest) ρ0 μ0 L :=
  evs_forI (fun _ => Iv) g hi h0 (fun d r ⟨l, hl⟩ μ hv => hb d (by rw [hl]; simp) μ hv) hr hs
end
end PM
set_option Elab.async false
set_option linter.all false
set_option maxRecDepth 100000
namespace PM
open PySem L2 PyProof.Rows
/-! ### an int, or another plain thing, ahead of an own instance -/
section
variable {i : Int} {t : Tok} {x C dx : Addr}
/-- what a builtin answers that does not know the other side -/
abbrev Declines (x C dx : Addr) : PySem.Spec := fun _ R s => s.heap.get? x = some (PySem.W.instObj C dx) ∧ R (.ok (.ret .notImplemented)) s
theorem dec_add : Meets (Builtin.«int.__add__» ⟨[.int i t, .ref x], []⟩) (Declines x C dx) :=
  .of_wp fun prog w A R s h => by obtain ⟨hp, g, d, tk, os⟩ := s; obtain ⟨hl, h⟩ := h; wp_walk using wpAny_loadPart' hl; exact ⟨_, rfl, h⟩
theorem dec_sub : Meets (Builtin.«int.__sub__» ⟨[.int i t, .ref x], []⟩) (Declines x C dx) :=
  .of_wp fun prog w A R s h => by obtain ⟨hp, g, d, tk, os⟩ := s; obtain ⟨hl, h⟩ := h; wp_walk using wpAny_loadPart' hl; exact ⟨_, rfl, h⟩
theorem dec_mul : Meets (Builtin.«int.__mul__» ⟨[.int i t, .ref x], []⟩) (Declines x C dx) :=
  .of_wp fun prog w A R s h => by obtain ⟨hp, g, d, tk, os⟩ := s; obtain ⟨hl, h⟩ := h; wp_walk using wpAny_loadPart' hl; exact ⟨_, rfl, h⟩
theorem dec_lt : Meets (Builtin.«int.__lt__» ⟨[.int i t, .ref x], []⟩) (Declines x C dx) :=
  .of_wp fun prog w A R s h => by obtain ⟨hp, g, d, tk, os⟩ := s; obtain ⟨hl, h⟩ := h; wp_walk using wpAny_loadPart' hl; exact ⟨_, rfl, h⟩
theorem dec_le : Meets (Builtin.«int.__le__» ⟨[.int i t, .ref x], []⟩) (Declines x C dx) :=
  .of_wp fun prog w A R s h => by obtain ⟨hp, g, d, tk, os⟩ := s; obtain ⟨hl, h⟩ := h; wp_walk using wpAny_loadPart' hl; exact ⟨_, rfl, h⟩
theorem dec_gt : Meets (Builtin.«int.__gt__» ⟨[.int i t, .ref x], []⟩) (Declines x C dx) :=
  .of_wp fun prog w A R s h => by obtain ⟨hp, g, d, tk, os⟩ := s; obtain ⟨hl, h⟩ := h; wp_walk using wpAny_loadPart' hl; exact ⟨_, rfl, h⟩
theorem dec_ge : Meets (Builtin.«int.__ge__» ⟨[.int i t, .ref x], []⟩) (Declines x C dx) :=
  .of_wp fun prog w A R s h => by obtain ⟨hp, g, d, tk, os⟩ := s; obtain ⟨hl, h⟩ := h; wp_walk using wpAny_loadPart' hl; exact ⟨_, rfl, h⟩
theorem dec_eq : Meets (Builtin.«int.__eq__» ⟨[.int i t, .ref x], []⟩) (Declines x C dx) :=
  .of_wp fun prog w A R s h => by obtain ⟨hp, g, d, tk, os⟩ := s; obtain ⟨hl, h⟩ := h; wp_walk using wpAny_loadPart' hl; exact ⟨_, rfl, h⟩
theorem dec_ne : Meets (Builtin.«int.__ne__» ⟨[.int i t, .ref x], []⟩) (Declines x C dx) :=
  .of_wp fun prog w A R s h => by obtain ⟨hp, g, d, tk, os⟩ := s; obtain ⟨hl, h⟩ := h; wp_walk using wpAny_loadPart' hl; exact ⟨_, rfl, h⟩
theorem dec_eqB {b : Bool} : Meets (Builtin.«int.__eq__» ⟨[.bool b, .ref x], []⟩) (Declines x C dx) :=
  .of_wp fun prog w A R s h => by obtain ⟨hp, g, d, tk, os⟩ := s; obtain ⟨hl, h⟩ := h; wp_walk using wpAny_loadPart' hl; exact ⟨_, rfl, h⟩
theorem dec_eqS {y : Str} : Meets (Builtin.«str.__eq__» ⟨[.str y t, .ref x], []⟩) (Declines x C dx) :=
  .of_wp fun prog w A R s h => by obtain ⟨hp, g, d, tk, os⟩ := s; obtain ⟨hl, h⟩ := h; wp_walk using wpAny_loadPart' hl; exact ⟨_, rfl, h⟩
theorem dec_eqN : Meets (Builtin.«NoneType.__eq__» ⟨[.none, .ref x], []⟩) (Declines x C dx) :=
  .of_wp fun prog w A R s h => by obtain ⟨hp, g, d, tk, os⟩ := s; obtain ⟨hl, h⟩ := h; wp_walk using wpAny_loadPart' hl; exact ⟨_, rfl, h⟩
theorem dec_neB {b : Bool} : Meets (Builtin.«int.__ne__» ⟨[.bool b, .ref x], []⟩) (Declines x C dx) :=
  .of_wp fun prog w A R s h => by obtain ⟨hp, g, d, tk, os⟩ := s; obtain ⟨hl, h⟩ := h; wp_walk using wpAny_loadPart' hl; exact ⟨_, rfl, h⟩
theorem dec_neS {y : Str} : Meets (Builtin.«str.__ne__» ⟨[.str y t, .ref x], []⟩) (Declines x C dx) :=
  .of_wp fun prog w A R s h => by obtain ⟨hp, g, d, tk, os⟩ := s; obtain ⟨hl, h⟩ := h; wp_walk using wpAny_loadPart' hl; exact ⟨_, rfl, h⟩
theorem dec_neN : Meets (Builtin.«NoneType.__ne__» ⟨[.none, .ref x], []⟩) (Declines x C dx) :=
  .of_wp fun prog w A R s h => by obtain ⟨hp, g, d, tk, os⟩ := s; obtain ⟨hl, h⟩ := h; wp_walk using wpAny_loadPart' hl; exact ⟨_, rfl, h⟩
end
section
variable {prog : Program} {w : World} {A : Around} {E : Value → Shared → Prop} {s : Shared} {K : PySem.W.Frag} {x C dx f : Addr} {od : Option Obj} {T id : String} {B : Builtin} {a : Value}
open PySem.W in
theorem refl_cmp {op : CmpOp} {Q : Value → Shared → Prop} (hu : A.units < cLine) (Y : K.In s.heap) (I : InstAt s.heap x (instObj C dx) C od) (ha : s.TypeIs a T) (h1 : oneThing? op a (.ref x) = none) (hsub : subIn K (.ref C) (.type T) = some false)
    (slot : Slot T (cmpInfo op).2.1 id) (entry : entryFor table id = some B) (args : argsOk id ⟨[a, .ref x], []⟩) (dec : Meets (B ⟨[a, .ref x], []⟩) (Declines x C dx)) (hs : findIn K (.ref C) (cmpInfo op).2.2 = some (some (.ref f))) (hf : isFn K (.ref f) = true)
    (h : wpAny (model prog w) A (call (.ref f) [.ref x, a]) (PySem.W.CmpBack Q) E s) : wpAny (model prog w) A (richCompare op a (.ref x)) Q E s := by
  have one : wpAny (model prog w) A (tryCompare (.ref x) (cmpInfo op).2.2 a) (fun r s' => ∃ v, r = some v ∧ Q v s') E s := by
    unfold tryCompare
    refine wpAny_bind (ifBound_K Y I hs hf (wpAny_mono h (fun v s' hv => ?_) fun _ _ e => e))
    cases v <;> first | exact hv.elim | exact wpAny_pure ⟨_, rfl, hv⟩
  unfold richCompare
  simp only [h1]
  refine wpAny_holding (wpAny_bind (wpAny_cRoomFor hu ?_))
  refine wpAny_bind (wpAny_typeOf ha (wpAny_bind (I.type.here ?_)))
  have ne : (Value.type T != Value.ref C) = true := rfl
  simp only [ne, if_true]
  refine wpAny_bind ((looks_subIn Y hsub).here ?_)
  simp only [Bool.false_eq_true, if_false]
  refine wpAny_bind (wpAny_tryCompare_declines ha slot (call_meets slot ha entry args dec ⟨I.at_, rfl, ?_⟩))
  simp only [Bool.not_false, if_true]
  refine wpAny_bind (wpAny_mono one (fun r s' z => ?_) fun _ _ e => e)
  obtain ⟨v, rfl, hq⟩ := z
  exact wpAny_pure hq
open PySem.W in
theorem refl_bin {op : Operator} {fl : Addr} {cd : ClassData} {rest : List Value} {Q : Value → Shared → Prop} (Y : K.In s.heap) (I : InstAt s.heap x (instObj C dx) C od) (ha : s.TypeIs a T) (hc : clsIn K C = some cd) (hm : cd.mro = .ref C :: rest) (hfT : fillsNumberSlot (.type T) op.info.2 = pure true) (hsub : subIn K (.ref C) (.type T) = some false)
    (slot : Slot T (PySem.dunder op.info.2) id) (entry : entryFor table id = some B) (args : argsOk id ⟨[a, .ref x], []⟩) (dec : Meets (B ⟨[a, .ref x], []⟩) (Declines x C dx)) (hl : findIn K (.ref C) (PySem.dunder op.info.2) = some (some (.ref fl))) (hs : findIn K (.ref C) (dunderR op.info.2) = some (some (.ref f))) (hf : isFn K (.ref f) = true)
    (h : wpAny (model prog w) A (call (.ref f) [.ref x, a]) (PySem.W.CmpBack Q) E s) : wpAny (model prog w) A (binaryOp op a (.ref x)) Q E s := by
  rcases hi : op.info with ⟨sym, nm⟩
  rw [hi] at hfT slot hl hs
  simp only [binaryOp, hi]
  refine wpAny_holding (wpAny_bind ?_)
  simp only [binaryOp1]
  refine wpAny_bind (wpAny_typeOf ha (wpAny_bind (I.type.here (wpAny_bind (wpAny_of_eq hfT ?_)))))
  have ne : (Value.type T == Value.ref C) = false := rfl
  simp only [ne, Bool.false_eq_true, if_false]
  refine wpAny_bind ((fills_K Y hc hm hl).here ?_)
  simp only [Bool.and_self, if_true]
  refine wpAny_bind ((looks_subIn Y hsub).here ?_)
  have hpy : numberSlotInPython (.type T) nm = pure false := rfl
  simp only [Bool.false_eq_true, if_false, pure_bind, Bool.not_false, Bool.and_self, if_true, hpy]
  refine wpAny_bind (m := tryMethod a _ (.ref x)) (wpAny_tryMethod_declines ha slot (call_meets slot ha entry args dec ⟨I.at_, rfl, ?_⟩))
  refine wpAny_bind (m := tryMethod (.ref x) _ a) (wpAny_mono (ksp_try Y I hs hf h) (fun r s' z => ?_) fun _ _ e => e)
  obtain ⟨v, rfl, hq⟩ := z
  exact wpAny_bind (wpAny_rule (wpAny_pure (wpAny_pure hq)))
end
/-! ### by data -/
section
variable {X : Cx} {W : WX} {k j : Nat} {ps : List Str} {R : Rl} {f C : Addr} {fd : FuncData} {μ : List M} {o : FO} {da : D} {ns : List Str} {fs : List D} {i : Int}
theorem inst_at2 {pins : List (Addr × Obj)} {σ : L2.St} {H : Hp} {s : Shared} {a dx : Addr} {gs : List (Str × V)} (I : Inv X pins σ H s) (e : H a = some (.ins C dx gs)) : ∃ dx od, PySem.W.InstAt s.heap a (PySem.W.instObj C dx) C (some od) := by
  obtain ⟨mA, O, _⟩ := ins_get I.hok e
  obtain ⟨od, J, _⟩ := O.look
  exact ⟨_, od, J⟩
theorem sub_own (oc : OwnC X.K C) {T : String} (hT : T ≠ "object") : PySem.W.subIn X.K (.ref C) (.type T) = some false := by
  show PySem.W.mroIn X.K C (.type T) = _
  rw [oc.mroIn]
  simp [hT]
/-- n op a, n an int -/
theorem oo_intOwn {op : Operator} {id : String} {B : Builtin} {fl : Addr} (g : Gd X W k) (oc : OwnC X.K C) (hfT : fillsNumberSlot (.type "int") op.info.2 = pure true) (slot : Slot "int" (PySem.dunder op.info.2) id) (entry : entryFor table id = some B) (args : ∀ a b, argsOk id ⟨[a, b], []⟩)
    (dec : ∀ (t : Tok) (x dx : Addr), Meets (B ⟨[.int i t, .ref x], []⟩) (Declines x C dx)) (hl : PySem.W.findIn X.K (.ref C) (PySem.dunder op.info.2) = some (some (.ref fl))) (hs : PySem.W.findIn X.K (.ref C) (dunderR op.info.2) = some (some (.ref f))) (hf : PySem.W.isFn X.K (.ref f) = true)
    (c : Cal X.prog X.w X.K X.mg X.base j ps R f fd) (hR : R [.obj C ns fs, .int i] μ o) (hj : j ≤ k := by decide) : OpO X W (binaryOp op) (.int i) (.obj C ns fs) μ o := by
  intro pins s σ H x y v u Q L G I rx ry ok r1 r2 co
  obtain ⟨a, dx, vs, rfl, q, _⟩ := rep_obj.mp r2
  cases ry
  obtain ⟨dx, od, J⟩ := inst_at2 I (ok.sub _ _ q)
  have ey := rep_int.mp r1
  subst ey
  have rx' := rx
  obtain ⟨t, rfl⟩ := rx'
  obtain ⟨cd, hcd, hmr⟩ := oc.cd
  exact refl_bin I.kIn J (typeIs_int s i t) hcd hmr hfT (sub_own oc (by decide)) slot entry (args _ _) (dec t a dx) hl hs hf (wpAny_mono (c.run g hj hR pins s σ H [.ref a, .int i] [.ref a, .int i t] Q L G I (.cons rfl (.cons ⟨t, rfl⟩ .nil)) ok (Reps.cons r2 (Reps.cons r1 Reps.nil)) co) (fun _ _ z => back z) fun _ _ z => z)
/-- n cmp a, n an int -/
theorem oc_intOwn {op : CmpOp} {id : String} {B : Builtin} (g : Gd X W k) (oc : OwnC X.K C) (h1 : ∀ (t : Tok) (x : Addr), oneThing? op (.int i t) (.ref x) = none) (slot : Slot "int" (cmpInfo op).2.1 id) (entry : entryFor table id = some B) (args : ∀ a b, argsOk id ⟨[a, b], []⟩)
    (dec : ∀ (t : Tok) (x dx : Addr), Meets (B ⟨[.int i t, .ref x], []⟩) (Declines x C dx)) (hs : PySem.W.findIn X.K (.ref C) (cmpInfo op).2.2 = some (some (.ref f))) (hf : PySem.W.isFn X.K (.ref f) = true)
    (c : Cal X.prog X.w X.K X.mg X.base j ps R f fd) (hR : R [.obj C ns fs, .int i] μ o) (hj : j ≤ k := by decide) : OpO X W (richCompare op) (.int i) (.obj C ns fs) μ o := by
  intro pins s σ H x y v u Q L G I rx ry ok r1 r2 co
  obtain ⟨a, dx, vs, rfl, q, _⟩ := rep_obj.mp r2
  cases ry
  obtain ⟨dx, od, J⟩ := inst_at2 I (ok.sub _ _ q)
  have ey := rep_int.mp r1
  subst ey
  have rx' := rx
  obtain ⟨t, rfl⟩ := rx'
  exact refl_cmp (by have := g.hr.un; omega) I.kIn J (typeIs_int s i t) (h1 t a) (sub_own oc (by decide)) slot entry (args _ _) (dec t a dx) hs hf (wpAny_mono (c.run g hj hR pins s σ H [.ref a, .int i] [.ref a, .int i t] Q L G I (.cons rfl (.cons ⟨t, rfl⟩ .nil)) ok (Reps.cons r2 (Reps.cons r1 Reps.nil)) co) (fun _ _ z => back z) fun _ _ z => z)
end
end PM
set_option Elab.async false
set_option linter.all false
set_option maxRecDepth 100000
namespace PM
open PySem L2
/-! ### builtins that ask an own method -/
section
variable {X : Cx} {W : WX} {k j : Nat} {ps : List Str} {R : Rl} {f C : Addr} {fd : FuncData} {μ μ2 : List M} {d : D} {ds : List D} {ns : List Str} {fs : List D} {y : Str} {b : Bool}
/-- a call from within a builtin; the value is known to be what d tells -/
theorem Cal.runV {B : Around} {pins : List (Addr × Obj)} {s : Shared} {σ : St} {H : Hp} {xs : List V} {us : List Value} {Q : VK} {L : List Addr} {G : Hp} {E' : Value → Shared → Prop} (c : Cal X.prog X.w X.K X.mg X.base j ps R f fd) (hr : Room j B) (gr : B.guards = some []) (e0 : Env0 X.prog X.w X.K X.mg X.base B X.stack s H)
    (hR : R ds μ (.ret d μ2)) (I : Inv X pins σ H s) (rx : Vals xs us) (ok : Ok X.K L G H μ) (r : Reps X.K L G ds xs) (co : Comes X.K L G H d μ2 Q) : wpAny (model X.prog X.w) B (call (.ref f) us) (EP X pins σ fun v H' => (∃ L' G', Rep X.K L' G' d v) ∧ Q v H') E' s := by
  have hsp : spR X.K R xs H (fun v H' => (∃ L' G', Rep X.K L' G' d v) ∧ Q v H') (fun _ _ _ => False) := ⟨L, G, ds, μ, .ret d μ2, ok, r, hR, fun v L' G' H' s' o' r' => ⟨⟨L', G', r'⟩, co v L' G' H' s' o' r'⟩⟩
  have hl : us.length = ps.length := by rw [← rx.length]; exact c.ok.len _ _ _ _ hsp
  have bd := c.bd s us I.kIn (by rw [List.append_nil]; exact hl)
  rw [List.append_nil] at bd
  refine wpAny_call (codeAny_mono (c.ok.run B X.stack s H ⟨us, []⟩ us xs _ (fun _ _ _ => False) hr gr e0 bd rx hsp) fun r s' hq => ?_)
  cases r with
  | error er =>
    obtain ⟨_, _, _, _, _, _, _, _, _, _, _, _, z⟩ := hq
    exact z.elim
  | ok fl =>
    cases fl with
    | ret u => exact I.after hq
    | next => exact False.elim hq
    | brk => exact False.elim hq
    | cont => exact False.elim hq
/-- abs(a) -/
theorem cb_absOwn (g : Gd X W k) (hm : Meth X.K C "__abs__" f) (c : Cal X.prog X.w X.K X.mg X.base j ps R f fd) (hR : R [.obj C ns fs] μ (.ret d μ2)) (hj : j + 1 ≤ k := by decide) : CallO X W (fun us => call (.builtin "abs") us) [.obj C ns fs] μ (.ret d μ2) := by
  intro pins s σ H xs us Q L G I rx ok r co
  obtain ⟨v, rfl, r1⟩ := r.one
  obtain ⟨u, rfl, ru⟩ := rx.one
  obtain ⟨a, dx, vs, rfl, q, _⟩ := rep_obj.mp r1
  cases ru
  obtain ⟨ox, od, J⟩ := inst_at I (ok.sub _ _ q)
  have hr := g.hr.mono hj
  refine Calls.call_function_entry PyProof.Rows.kind_abs PyProof.Rows.plain_abs PyProof.Rows.entry_abs (PyProof.Rows.args_abs _) ?_
  unfold Builtin.«abs»
  refine wpAny_bind (m := oneArg "abs" _) (wpAny_pure ?_)
  refine wpAny_bind (m := callSpecial? (.ref a) (Str.ofString "__abs__")) (PySem.W.special_fn I.kIn J hm.at_ (beq_iff_eq.mp hm.fn) (wpAny_mono (c.runV hr.in1 g.gr I.env0.in1 hR I (xs := [.ref a]) (.cons rfl .nil) ok (Reps.cons r1 Reps.nil) co) (fun r s' hr => ?_) fun _ _ y => y))
  obtain ⟨v, H', I', rv, _, q'⟩ := hr
  exact wpAny_pure ⟨_, rfl, v, H', I', rv, q'⟩
/-- repr(a) -/
theorem cb_reprOwn (g : Gd X W k) (hm : Meth X.K C "__repr__" f) (c : Cal X.prog X.w X.K X.mg X.base j ps R f fd) (hR : R [.obj C ns fs] μ (.ret (.str y) μ2)) (hj : j + 1 ≤ k := by decide) : CallO X W (fun us => call (.builtin "repr") us) [.obj C ns fs] μ (.ret (.str y) μ2) := by
  intro pins s σ H xs us Q L G I rx ok r co
  obtain ⟨v, rfl, r1⟩ := r.one
  obtain ⟨u, rfl, ru⟩ := rx.one
  obtain ⟨a, dx, vs, rfl, q, _⟩ := rep_obj.mp r1
  cases ru
  obtain ⟨ox, od, J⟩ := inst_at I (ok.sub _ _ q)
  have hr := g.hr.mono hj
  obtain ⟨m, fr⟩ := I.fr
  refine PySem.W.repr_K (by have := hr.in1.un; omega) fr I.mod.kin J hm.at_ hm.fn (wpAny_mono (c.runV hr.in1 g.gr I.env0.in1 hR I (xs := [.ref a]) (.cons rfl .nil) ok (Reps.cons r1 Reps.nil) co) (fun r s' hr => ?_) fun _ _ y => y)
  obtain ⟨v, H', I', rv, ⟨_, _, z⟩, q'⟩ := hr
  rw [rep_str.mp z] at rv
  obtain ⟨t, rfl⟩ := rv
  exact ⟨.str y, H', I', ⟨t, rfl⟩, by rwa [rep_str.mp z] at q'⟩
/-- str(a) -/
theorem ct_strOwn (g : Gd X W k) (hm : Meth X.K C "__str__" f) (c : Cal X.prog X.w X.K X.mg X.base j ps R f fd) (hR : R [.obj C ns fs] μ (.ret (.str y) μ2)) (hj : j + 2 ≤ k := by decide) : CallO X W (fun us => call (.type "str") us) [.obj C ns fs] μ (.ret (.str y) μ2) := by
  intro pins s σ H xs us Q L G I rx ok r co
  obtain ⟨v, rfl, r1⟩ := r.one
  obtain ⟨u, rfl, ru⟩ := rx.one
  obtain ⟨a, dx, vs, rfl, q, _⟩ := rep_obj.mp r1
  cases ru
  obtain ⟨ox, od, J⟩ := inst_at I (ok.sub _ _ q)
  have hr := g.hr.mono hj
  refine PySem.W.kso_call (by have := hr.in1.in1.un; omega) I.kIn J hm.at_ hm.fn (wpAny_mono (c.runV hr.in1.in1 g.gr I.env0.in1.in1 hR I (xs := [.ref a]) (.cons rfl .nil) ok (Reps.cons r1 Reps.nil) co) (fun r s' hr => ?_) fun _ _ y => y)
  obtain ⟨v, H', I', rv, ⟨_, _, z⟩, q'⟩ := hr
  rw [rep_str.mp z] at rv
  obtain ⟨t, rfl⟩ := rv
  exact ⟨.str y, H', I', ⟨t, rfl⟩, by rwa [rep_str.mp z] at q'⟩
end
end PM
set_option Elab.async false
set_option linter.all false
set_option maxRecDepth 100000
namespace PM
open PySem L2
section
variable {prog : Program} {w : World} {A : Around} {E : Value → Shared → Prop} {s : Shared} {K : PySem.W.Frag} {x C dx f : Addr} {od : Option Obj} {T id : String} {a : Value}
open PySem.W in
theorem refl_cmpIn {op : CmpOp} {Q : Value → Shared → Prop} (hu : A.units < cLine) (Y : K.In s.heap) (I : InstAt s.heap x (instObj C dx) C od) (ha : s.TypeIs a T) (h1 : oneThing? op a (.ref x) = none) (hsub : subIn K (.ref C) (.type T) = some false)
    (slot : Slot T (cmpInfo op).2.1 id) (dec : wpAny (model prog w) A (call (.builtin id) [a, .ref x]) (fun v s' => v = .notImplemented ∧ s' = s) E s) (hs : findIn K (.ref C) (cmpInfo op).2.2 = some (some (.ref f))) (hf : isFn K (.ref f) = true)
    (h : wpAny (model prog w) A (call (.ref f) [.ref x, a]) (PySem.W.CmpBack Q) E s) : wpAny (model prog w) A (richCompare op a (.ref x)) Q E s := by
  have one : wpAny (model prog w) A (tryCompare (.ref x) (cmpInfo op).2.2 a) (fun r s' => ∃ v, r = some v ∧ Q v s') E s := by
    unfold tryCompare
    refine wpAny_bind (ifBound_K Y I hs hf (wpAny_mono h (fun v s' hv => ?_) fun _ _ e => e))
    cases v <;> first | exact hv.elim | exact wpAny_pure ⟨_, rfl, hv⟩
  unfold richCompare
  simp only [h1]
  refine wpAny_holding (wpAny_bind (wpAny_cRoomFor hu ?_))
  refine wpAny_bind (wpAny_typeOf ha (wpAny_bind (I.type.here ?_)))
  have ne : (Value.type T != Value.ref C) = true := rfl
  simp only [ne, if_true]
  refine wpAny_bind ((looks_subIn Y hsub).here ?_)
  simp only [Bool.false_eq_true, if_false]
  refine wpAny_bind (wpAny_tryCompare_declines ha slot (wpAny_mono dec (fun v s' hv => ⟨hv.1, ?_⟩) fun _ _ e => e))
  obtain ⟨_, rfl⟩ := hv
  simp only [Bool.not_false, if_true]
  refine wpAny_bind (wpAny_mono one (fun r s' z => ?_) fun _ _ e => e)
  obtain ⟨v, rfl, hq⟩ := z
  exact wpAny_pure hq
end
section
variable {X : Cx} {W : WX} {k j : Nat} {ps : List Str} {R : Rl} {f C : Addr} {fd : FuncData} {μ : List M} {o : FO} {da : D} {ns : List Str} {fs ds es : List D} {y : Str} {b : Bool}
theorem oo_catL (h : ds.length + es.length ≤ sizeLine) : OpO X W (binaryOp .Add) (.lst ds) (.lst es) μ (.ret (.lst (ds ++ es)) μ) :=
  opO_of op_cat fun σ u v H Q L G o r1 r2 c => by
    obtain ⟨a, vs, rfl, q1, s1⟩ := rep_lst.mp r1
    obtain ⟨a', vs', rfl, q2, s2⟩ := rep_lst.mp r2
    refine ⟨a, a', vs, vs', rfl, rfl, o.sub _ _ q1, o.sub _ _ q2, by rw [s1.length, s2.length]; exact h, fun p hp => ?_⟩
    refine CO.fresh (W := W) (σ := σ) c o hp (rep_lst.mpr ⟨p, vs ++ vs', rfl, upd_same, ?_⟩)
    have e := (o.new (p := p) (o := .lst (vs ++ vs')) hp).2.gs
    exact (s1.mono (Pre.refl _) e).append (s2.mono (Pre.refl _) e)
open PySem.W in
theorem dec_eqT {K : Frag} {prog : Program} {w : World} {l x dx : Addr} {items : Array Value} {od : Option Obj} : MeetsIn prog w (Builtin.«tuple.__eq__» ⟨[.ref l, .ref x], []⟩) (fun A R s => PyProof.Rows.IsTup s.heap l items ∧ InstAt s.heap x (instObj C dx) C od ∧ K.In s.heap ∧ subIn K (.ref C) (.type "tuple") = some false ∧ R (.ok (.ret .notImplemented)) s) := by
  intro A R s ⟨⟨ot, n, hl, hcl, hda⟩, I, Y, hs, h⟩
  unfold Builtin.«tuple.__eq__»
  refine wpAny_bind (m := slotArgs "__eq__" 1 _) (wpAny_pure ?_)
  refine wpAny_bind (m := isInstance (.ref x) (.type "tuple")) ?_
  unfold isInstance
  refine wpAny_bind (I.type.here ((looks_subIn Y hs).here ?_))
  simp only [Bool.not_false, if_true]
  refine wpAny_bind (m := ret .notImplemented) (wpAny_pure ?_)
  exact wpAny_pure h
/-- a plain thing == a -/
theorem oc_plainOwn (g : Gd X W k) (oc : OwnC X.K C) (hd : da = .non ∨ (∃ b, da = .bl b) ∨ ∃ y, da = .str y) (hs : PySem.W.findIn X.K (.ref C) "__eq__" = some (some (.ref f))) (hf : PySem.W.isFn X.K (.ref f) = true)
    (c : Cal X.prog X.w X.K X.mg X.base j ps R f fd) (hR : R [.obj C ns fs, da] μ o) (hj : j ≤ k := by decide) : OpO X W (richCompare .Eq) da (.obj C ns fs) μ o := by
  intro pins s σ H x y v u Q L G I rx ry ok r1 r2 co
  obtain ⟨a, dx, vs, rfl, q, _⟩ := rep_obj.mp r2
  cases ry
  obtain ⟨dx, od, J⟩ := inst_at2 I (ok.sub _ _ q)
  have hu : X.A.units < cLine := by have := g.hr.un; omega
  have go := wpAny_mono (c.run g hj hR pins s σ H [.ref a, x] [.ref a, v] Q L G I (.cons rfl (.cons rx .nil)) ok (Reps.cons r2 (Reps.cons r1 Reps.nil)) co) (fun _ _ z => back z) fun _ _ z => z
  rcases hd with rfl | ⟨b, rfl⟩ | ⟨z, rfl⟩
  · have e := rep_non.mp r1
    subst e
    cases rx
    exact refl_cmp hu I.kIn J (typeIs_none s) rfl (sub_own oc (by decide)) PySem.F.slot_NoneType_eq PySem.F.entry_NoneType_eq (PySem.F.args_NoneType_eq_2 _ _) dec_eqN hs hf go
  · have e := rep_bl.mp r1
    subst e
    cases rx
    exact refl_cmp hu I.kIn J (typeIs_bool s b) rfl (sub_own oc (by decide)) PySem.F.slot_bool_eq PySem.F.entry_int_eq (PySem.F.args_int_eq_2 _ _) dec_eqB hs hf go
  · have e := rep_str.mp r1
    subst e
    obtain ⟨t, rfl⟩ := rx
    exact refl_cmp hu I.kIn J (typeIs_str s z t) rfl (sub_own oc (by decide)) PySem.F.slot_str_eq PySem.F.entry_str_eq (PySem.F.args_str_eq_2 _ _) dec_eqS hs hf go
/-- a tuple == a -/
theorem oc_tupOwn (g : Gd X W k) (oc : OwnC X.K C) (hs : PySem.W.findIn X.K (.ref C) "__eq__" = some (some (.ref f))) (hf : PySem.W.isFn X.K (.ref f) = true)
    (c : Cal X.prog X.w X.K X.mg X.base j ps R f fd) (hR : R [.obj C ns fs, .tup ds] μ o) (hj : j ≤ k := by decide) : OpO X W (richCompare .Eq) (.tup ds) (.obj C ns fs) μ o := by
  intro pins s σ H x y v u Q L G I rx ry ok r1 r2 co
  obtain ⟨a, dx, vs, rfl, q, _⟩ := rep_obj.mp r2
  cases ry
  obtain ⟨dx, od, J⟩ := inst_at2 I (ok.sub _ _ q)
  have hu : X.A.units < cLine := by have := g.hr.un; omega
  have go := wpAny_mono (c.run g hj hR pins s σ H [.ref a, x] [.ref a, v] Q L G I (.cons rfl (.cons rx .nil)) ok (Reps.cons r2 (Reps.cons r1 Reps.nil)) co) (fun _ _ z => back z) fun _ _ z => z
  obtain ⟨t, us, rfl, sq, _⟩ := rep_tup.mp r1
  cases rx
  obtain ⟨its, _, it, _⟩ := I.tuple (Same.sqT ok.sub sq)
  have ty : s.TypeIs (.ref t) "tuple" := by
    obtain ⟨ot, h1, h2, _⟩ := it
    exact ⟨ot, h1, h2⟩
  refine refl_cmpIn hu I.kIn J ty rfl (sub_own oc (by decide)) PySem.F.slot_tuple_eq (call_meetsIn PySem.F.slot_tuple_eq ty PySem.F.entry_tuple_eq (PySem.F.args_tuple_eq_2 _ _) dec_eqT ⟨it, J, I.kIn, sub_own oc (by decide), rfl, rfl⟩) hs hf go
end
end PM
set_option Elab.async false
set_option linter.all false
set_option maxRecDepth 100000
namespace PM
open PySem L2
section
variable {X : Cx} {W : WX} {k : Nat} {e tg : Expr} {body rest : List Stmt} {pos : Pos} {ds : List D} {ρ : Env'} {μ0 μ1 : List M} {L : Out → Prop}
/-- the end of a loop's body: something known of names and store -/
def NxS (Iv : Env' → List M → Prop) : Out → Prop := fun q => ∃ ρ2 ρ3 μ2, (q = .next ρ2 μ2 ∨ q = .cont ρ2 μ2) ∧ Sub ρ3 ρ2 ∧ Iv ρ3 μ2
theorem nxs_next {Iv : Env' → List M → Prop} {ρ2 ρ3 : Env'} {μ2 : List M} (s : Sub ρ3 ρ2) (h : Iv ρ3 μ2) : NxS Iv (.next ρ2 μ2) := ⟨ρ2, ρ3, μ2, .inl rfl, s, h⟩
/-- a for whose names change -/
theorem evs_forS (Iv : List D → Env' → List M → Prop) (g : Gd X W k) (hi : PI X tg e (iD X.K ρ μ0 ds μ1)) (h0 : Iv ds ρ μ1)
    (hb : ∀ d r, (∃ l, ds = l ++ d :: r) → ∀ ρ μ, Iv (d :: r) ρ μ → ∃ ρ1, PG X tg (gD X.K μ d ρ ρ1) ∧ Evs X W body ρ1 μ (NxS (Iv r)))
    (hr : ∀ ρ2 μ2, Iv [] ρ2 μ2 → Evs X W rest ρ2 μ2 L) (hs : ∀ x, foldedSetIterable e X.env x = pure x := by intro _; rfl) : Evs X W (.For tg e body [] pos :: rest) ρ μ0 L := by
  have go : ∀ (es : List D) (ρ : Env') (μ : List M), (∃ l, ds = l ++ es) → Iv es ρ μ → ∃ ρ2 μ2, Iv [] ρ2 μ2 ∧ EvFor X W tg body es ρ μ (.next ρ2 μ2) := by
    intro es
    induction es with
    | nil => intro ρ μ _ hv; exact ⟨ρ, μ, hv, .nil (Sub.refl _)⟩
    | cons d es ih =>
      intro ρ μ hd hv
      obtain ⟨ρ1, h1, q, ⟨ρ2, ρ3, μ2, hq, h3, hv2⟩, h2⟩ := hb d es hd ρ μ hv
      obtain ⟨l, hl⟩ := hd
      obtain ⟨ρ4, μ3, hv3, h4⟩ := ih ρ3 μ2 ⟨l ++ [d], by rw [hl]; simp⟩ hv2
      rcases hq with rfl | rfl
      · exact ⟨ρ4, μ3, hv3, .next h1 (ess_forget h2 h3) h4⟩
      · exact ⟨ρ4, μ3, hv3, .cont h1 (pss_of h2 fun D σ H ⟨L, G, n, c⟩ => ⟨L, G, n, fun σ' L' G' H' s' n' => c σ' L' G' H' s' (n'.forget h3)⟩) h4⟩
  obtain ⟨ρ2, μ2, hv, h⟩ := go ds ρ μ1 ⟨[], rfl⟩ h0
  exact evs_cons (es_for g hi h hs) (hr ρ2 μ2 hv)
end
end PM
set_option Elab.async false
set_option linter.all false
set_option maxRecDepth 100000
namespace PM
open PySem L2 PyProof.Rows
section
variable {prog : Program} {w : World} {A : Around} {E : Value → Shared → Prop} {s : Shared} {K : PySem.W.Frag} {x C f : Addr} {ox : Obj} {od : Option Obj}
open PySem.W in
theorem bool_own {Q : Value → Shared → Prop} {h₀ : Heap} {L : Addr} {m : Str → Option Value} (FF : Fr h₀ L s.heap m) (X₀ : K.In h₀) (I : InstAt s.heap x ox C od) (hs : findIn K (.ref C) "__bool__" = some (some (.ref f))) (hf : isFn K (.ref f) = true)
    (h : wpAny (model prog w) A.in1.in1 (call (.ref f) [.ref x]) (PySem.W.BoolBack fun b s' => Q (.bool b) s') E s) : wpAny (model prog w) A (call (.type "bool") [.ref x]) Q E s := by
  refine callType_codes (T := "bool") (Bi := Builtin.«object.__init__») (Q₁ := fun r s₁ => ∃ b, r = .bool b ∧ Q r s₁) PySem.F.called_bool (PySem.F.typeCall_bool_1 _) PySem.F.entry_object_init ?_ ?_
  · refine codeAny_of_tree ?_
    show wpAny _ A.in1.in1 (do checkBuiltinCall "bool.__new__" ⟨[.type "bool", .ref x], []⟩; again (.builtin "bool.__new__" ⟨[.type "bool", .ref x], []⟩)) _ _ s
    refine wpAny_bind (wpAny_of_eq (PySem.F.newCall_bool_1 _) (wpAny_pure ⟨plainId_quiet (by decide +kernel) _, codeAny_builtin PySem.F.entry_bool_new ?_⟩))
    rw [Around.under_plainId (by decide +kernel) _]
    unfold Builtin.«bool.__new__»
    have f1 := F.conv_sub_bool
    have go := truthy_K (M := model prog w) (A := A.in1.in1) (E := E) FF X₀ I hs hf h
    repeat (any_goals (first | (with_reducible refine wpAny_mono go (fun b s' hq => wpAny_pure ⟨b, rfl, hq⟩) (fun _ _ e => e)) | wp_step))
    all_goals first | exact f1 | skip
  · rintro obj s₁ ⟨b, rfl, hq⟩
    exact ⟨PySem.typeIs_bool _ _, PySem.F.args_object_init_2 _ _, object_init_meets PySem.F.called_bool.init.lookup PySem.F.called_bool.made (by decide) prog w A.in1 _ s₁ ⟨PySem.typeIs_bool _ _, rfl, hq⟩⟩
end
section
variable {X : Cx} {W : WX} {k j : Nat} {ps : List Str} {R : Rl} {f C : Addr} {fd : FuncData} {μ μ1 μ2 : List M} {o : FO} {ns : List Str} {fs ds : List D} {x y : Str} {b : Bool} {i : Int} {a c : Expr} {rest : List Expr} {pos : Pos} {ρ : Env'}
/-- text * 0, text * 1 -/
theorem oo_mulT (h : i = 0 ∨ i = 1) : OpO X W (binaryOp .Mult) (.str x) (.int i) μ (.ret (.str (if i = 1 then x else Str.empty)) μ) := by
  intro pins s σ H xx yy v u Q L G I rx ry ok r1 r2 co
  rw [rep_str.mp r1] at rx
  rw [rep_int.mp r2] at ry
  obtain ⟨t, rfl⟩ := rx
  obtain ⟨t', rfl⟩ := ry
  refine SB.mul (x := x) (n := i) ?_ fun t' kk => ⟨.str (if i = 1 then x else Str.empty), H, I.tok kk, ⟨t', ?_⟩, CO.now (W := W) (σ := σ) co ok (rep_str.mpr rfl)⟩
  · rcases h with rfl | rfl
    · exact ⟨by decide, fun z => absurd (by decide) z, fun z => absurd (by decide) z⟩
    · exact ⟨by decide, fun _ z => by simp at z, fun _ z => by simp at z⟩
  · rcases h with rfl | rfl
    · rfl
    · rfl
/-- n or .. -/
theorem ev_orI0 {d : D} (h : PE X a (tV X.K ρ μ (.int 0) μ1)) (hr : PE X (.BoolOp .Or (c :: rest) pos) (tV X.K ρ μ1 d μ2)) : PE X (.BoolOp .Or (a :: c :: rest) pos) (tV X.K ρ μ d μ2) :=
  pe_of (pe_orT h hr) fun σ H Q ⟨L, G, n, co⟩ => ⟨L, G, n, fun v L1 G1 H1 s1 o1 r1 => ⟨false, by rw [rep_int.mp r1]; rfl, by
    rw [if_neg (by decide)]
    exact ⟨L1, G1, n.step s1 o1, Comes.step co s1⟩⟩⟩
theorem ev_orI1 (hi : i ≠ 0) (h : PE X a (tV X.K ρ μ (.int i) μ1)) : PE X (.BoolOp .Or (a :: c :: rest) pos) (tV X.K ρ μ (.int i) μ1) :=
  pe_of (pe_orT h pe_nev) fun σ H Q ⟨L, G, n, co⟩ => ⟨L, G, n, fun v L1 G1 H1 s1 o1 r1 => ⟨true, by rw [rep_int.mp r1]; simp [TruV, hi], by
    rw [if_pos rfl]
    exact co v L1 G1 H1 s1 o1 r1⟩⟩
/-- bool(a) -/
theorem ct_boolOwn (g : Gd X W k) (hm : Meth X.K C "__bool__" f) (cl : Cal X.prog X.w X.K X.mg X.base j ps R f fd) (hR : R [.obj C ns fs] μ (.ret (.bl b) μ2)) (hj : j + 2 ≤ k := by decide) : CallO X W (fun us => call (.type "bool") us) [.obj C ns fs] μ (.ret (.bl b) μ2) := by
  intro pins s σ H xs us Q L G I rx ok r co
  obtain ⟨v, rfl, r1⟩ := r.one
  obtain ⟨u, rfl, ru⟩ := rx.one
  obtain ⟨a, dx, vs, rfl, q, _⟩ := rep_obj.mp r1
  cases ru
  obtain ⟨ox, od, J⟩ := inst_at I (ok.sub _ _ q)
  have hr := g.hr.mono hj
  obtain ⟨m, fr⟩ := I.fr
  refine bool_own fr I.mod.kin J hm.at_ hm.fn (wpAny_mono (cl.runV hr.in1.in1 g.gr I.env0.in1.in1 hR I (xs := [.ref a]) (.cons rfl .nil) ok (Reps.cons r1 Reps.nil) co) (fun r s' hr => ?_) fun _ _ y => y)
  obtain ⟨v, H', I', rv, ⟨_, _, z⟩, q'⟩ := hr
  rw [rep_bl.mp z] at rv q'
  cases rv
  exact ⟨.bl b, H', I', rfl, q'⟩
end
end PM
set_option Elab.async false
set_option linter.all false
set_option maxRecDepth 100000
namespace PM
open PySem L2
section
variable {X : Cx} {W : WX} {k j n : Nat} {ps ks : List Str} {p : List Nat} {R : Rl} {f C : Addr} {fd : FuncData} {ds es' : List D} {μ μ1 μ2 : List M} {o : FO} {x m : Str} {pp pos apos kpos : Pos} {ρ : Env'} {d : D} {kws : List Keyword}
/-- what __init__ is asked for -/
theorem make_sp {L : List Addr} {G H : Hp} {xs : List V} {σ : St} {Q : VK} (hR : MakeR R C ds μ o) (ok : Ok X.K L G H μ) (r : Reps X.K L G ds xs) (co : CO W X.K L G H σ o Q) (a dx : Addr) (h1 : H a = none) (h2 : H dx = none) (ne : dx ≠ a) :
    spR X.K R (.ref a :: xs) (upd (upd H dx (.own a)) a (.ins C dx [])) (fun v H2 => v = .non ∧ Q (.ref a) H2) (WE W σ) := by
  obtain ⟨o2, s2⟩ := ok.made (C := C) h1 h2 ne
  have la : (L ++ [a])[μ.length]? = some a := by rw [← ok.len]; exact last_get L a
  have rr : Reps X.K (L ++ [a]) G (.loc μ.length :: ds) (.ref a :: xs) := Reps.cons (rep_loc.mpr ⟨a, la, rfl⟩) (r.step s2)
  cases hR with
  | obj h l hl hfs =>
    rename_i ns fs μ2
    refine ⟨_, _, _, _, _, o2, rr, h, fun v L3 G3 H3 s3 o3 r3 => ⟨rep_non.mp r3, ?_⟩⟩
    have s13 := s2.trans s3
    have hlen : μ2.length = μ.length := l.1
    have la3 : L3[μ2.length]? = some a := by rw [hlen]; exact s3.pre _ _ la
    obtain ⟨dx', vs', eh, _, rv⟩ := o3.at_ μ2.length a _ la3 (last_get μ2 _)
    have o4 : Ok X.K (L3.take μ2.length) G3 H3 μ2 := o3.cut (l.all ok)
    have s4 : Step L G H (L3.take μ2.length) G3 H3 := s13.cut (by rw [ok.len, hlen]; exact Nat.le_refl _)
    have hna : a ∉ L3.take μ2.length := fun z => by
      obtain ⟨i, hi, ei⟩ := List.getElem_of_mem z
      rw [List.length_take] at hi
      rw [List.getElem_take] at ei
      obtain ⟨g1, g2⟩ := List.getElem?_eq_some_iff.mp la3
      have := (List.getElem_inj o3.nd).mp (ei.trans g2.symm)
      omega
    obtain ⟨o5, sg⟩ := o4.tell (p := a) (o := .ins C dx' (ns.zip vs')) eh hna
    exact co _ _ _ H3 (s4.tell h1 sg) o5 (rep_obj.mpr ⟨a, dx', vs', rfl, upd_same, hl, (rv.cut (n := μ2.length) (by rw [hlen]; exact hfs)).mono (.refl _) sg⟩)
  | loc h hl =>
    refine ⟨_, _, _, _, _, o2, rr, h, fun v L3 G3 H3 s3 o3 r3 => ⟨rep_non.mp r3, ?_⟩⟩
    exact co _ L3 G3 H3 (s2.trans s3) o3 (rep_loc.mpr ⟨a, s3.pre _ _ la, rfl⟩)
  | exc h l hfs =>
    rename_i C' ns fs μ2 m
    refine ⟨_, _, _, _, _, o2, rr, h, fun dx' L3 G3 H3 s3 o3 x3 => ?_⟩
    have hlen : μ2.length = μ.length := l.1
    exact co dx' _ G3 H3 ((s2.trans s3).cut (n := μ2.length) (by rw [ok.len, hlen]; exact Nat.le_refl _)) (o3.cut (l.all ok)) (xd_cut (L' := L3) x3 (by rw [hlen]; exact hfs))
/-- C(k = v, ..), by values; q puts the keywords' values in the order of the parameters -/
theorem run_makeKG {pins : List (Addr × Obj)} {σ : St} {H : Hp} {s : Shared} {Q : VK} {ws : List Value} {zs : List V} {q : List Nat} {L : List Addr} {G : Hp} (Mk : Mk X.K C f) (F : FnG X.prog X.w X.K X.mg X.base j f fd ps (spR X.K R)) (g : Gd X W k) (hj : j + 1 ≤ k) (hb : KwB X.K fd ps 1 ks (0 :: q.map (· + 1)))
    (I : Inv X pins σ H s) (rz : Vals zs ws) (ok : Ok X.K L G H μ) (r : Reps X.K L G ds zs) (l2 : ds.length = ks.length) (hR : MakeR R C (pick q ds) μ o) (co : CO W X.K L G H σ o Q) :
    wpAny (model X.prog X.w) X.A (call (.ref C) [] (ks.zip ws)) (EP X pins σ Q) X.xe s := by
  have hq := make_sp hR ok (pick_reps r) co (s.heap.objs.size + 1) s.heap.objs.size (I.hok.fresh (Nat.le_succ _)) (I.hok.fresh (Nat.le_refl _)) (Nat.ne_of_lt (Nat.lt_succ_self _))
  have I2 := Inv.made (C := C) I
  have hr := g.hr.mono hj
  have pk : ∀ {α : Type} (x : α) (l : List α), pick (0 :: q.map (· + 1)) ([x] ++ l) = x :: pick q l := fun x l => by
    unfold pick
    rw [List.filterMap_cons, List.filterMap_map]
    rfl
  have bd := hb.to { s with heap := _ } [Value.ref (s.heap.objs.size + 1)] ws I2.kIn rfl (by rw [← rz.length, r.length, l2])
  rw [pk] at bd
  have r2 : Vals (V.ref (s.heap.objs.size + 1) :: pick q zs) (Value.ref (s.heap.objs.size + 1) :: pick q ws) := .cons rfl (pick_vals rz)
  refine wpAny_call (make_map (f := f) I.kIn Mk.makes Mk.init (beq_iff_eq.mp Mk.fn) (codeAny_mono (F.run _ X.stack _ _ ⟨[Value.ref (s.heap.objs.size + 1)], ks.zip ws⟩ (Value.ref (s.heap.objs.size + 1) :: pick q ws) _ _ (WE W σ) (hr.make C [] (ks.zip ws)) (by first | exact g.gr | (simpa [Around.under, Code.guards, Code.isGuard, pushGuards, guardIds] using g.gr))
    (I2.env0.make C [] (ks.zip ws)) bd r2 hq) fun r s' hq' => ?_))
  cases r with
  | error e => exact passAt g.tk σ pins _ _ e s' I2 hq'
  | ok fl =>
    cases fl with
    | ret u =>
      obtain ⟨v, H', I3, rv, ev, q3⟩ := I2.after hq'
      subst ev
      exact ⟨rv, ⟨V.ref (s.heap.objs.size + 1), H', I3, rfl, q3⟩⟩
    | next => exact False.elim hq'
    | brk => exact False.elim hq'
    | cont => exact False.elim hq'
/-- C(k = v, ..) -/
theorem ev_makeK0 {q : List Nat} (g : Gd X W k) (c : Mak X.prog X.w X.K X.mg X.base j ps R C f fd) (hb : KwB X.K fd ps 1 ks (0 :: q.map (· + 1))) (hm : X.mg x = some (.ref C)) (hk : PK X kws (tVA X.K ρ μ ds μ1)) (hR : MakeR R C (pick q ds) μ1 o) (hl : ds.length = ks.length := by rfl) (hj : j + 1 ≤ k := by decide) (hg : Gl X x := by rfl)
    (hall : (backToKw pos (keywordEach kws X.env)).all (·.1.isSome) = true := by rfl) (hks : (backToKw pos (keywordEach kws X.env)).filterMap (·.1) = ks := by rfl) (hdb : (x == ("__debug__" : Str)) = false := by decide)
    (hpl : ((backTo pos (starEach [] X.env)).any (·.1) || (backToKw pos (keywordEach kws X.env)).any (·.1.isNone)) = false := by rfl) :
    PE X (.Call (.Name x pp) [] kws pos) (tO W X.K ρ μ o) := by
  refine ⟨fun pins s σ H Q I ⟨L, G, nw, co⟩ => ?_⟩
  refine wpAny_Call_Name_kw (ld_glob I hg hm ?_ hdb)
  refine PySem.W.callWith_KW0 (h₀ := X.base) I.ok.mod.kin c.mak.kp hall ?_ hpl
  refine thn (hk.run pos pins s σ H (fun vs H2 => ∃ L2 G2, Step L G H L2 G2 H2 ∧ Ok X.K L2 G2 H2 μ1 ∧ Reps X.K L2 G2 ds vs) I ⟨L, G, nw, fun vs L2 G2 H2 s2 o2 r2 => ⟨L2, G2, s2, o2, r2⟩⟩) fun ws s2 ⟨zs, H2, I2, rz, L2, G2, st2, o2, r2⟩ => ⟨I2.kIn, ?_⟩
  rw [hks]
  exact run_makeKG c.mak c.ok g hj hb I2 rz o2 r2 hl hR (CO.step co st2)
end
end PM
set_option linter.all false
namespace PM
/-! ### plain numbers -/
/-- a number of few bits -/
def Fit (n : Nat) (q : Rat) : Prop := q.num.natAbs < 2 ^ n ∧ q.den < 2 ^ n
theorem Fit.mono {n m : Nat} {q : Rat} (h : Fit n q) (l : n ≤ m) : Fit m q := ⟨Nat.lt_of_lt_of_le h.1 (Nat.pow_le_pow_right (by decide) l), Nat.lt_of_lt_of_le h.2 (Nat.pow_le_pow_right (by decide) l)⟩
theorem divInt_bounds (t b : Int) (hb : b ≠ 0) : (Rat.divInt t b).num.natAbs ≤ t.natAbs ∧ (Rat.divInt t b).den ≤ b.natAbs := by
  constructor
  · rw [Rat.num_divInt]
    refine Nat.le_trans (Int.natAbs_ediv_le_natAbs _ _) ?_
    rw [Int.natAbs_mul]
    have : b.sign.natAbs = 1 := Int.natAbs_sign_of_ne_zero hb
    rw [this, Nat.one_mul]; exact Nat.le_refl _
  · rw [Rat.den_divInt, if_neg hb]
    exact Nat.div_le_self _ _
theorem fit_divInt {n : Nat} {t b : Int} (h1 : t.natAbs < 2 ^ n) (h2 : b.natAbs < 2 ^ n) (hb : b ≠ 0) : Fit n (Rat.divInt t b) :=
  ⟨Nat.lt_of_le_of_lt (divInt_bounds t b hb).1 h1, Nat.lt_of_le_of_lt (divInt_bounds t b hb).2 h2⟩
theorem mul_lt_pow {a b n m : Nat} (h1 : a < 2 ^ n) (h2 : b < 2 ^ m) : a * b < 2 ^ (n + m) := by
  rw [Nat.pow_add]
  exact Nat.mul_lt_mul'' h1 h2
theorem den_pos' (q : Rat) : 0 < (q.den : Int) := Int.natCast_pos.mpr q.den_pos
theorem rat_eq (q : Rat) : q = Rat.divInt q.num q.den := (Rat.num_divInt_den q).symm
theorem add_rt (a b : Rat) : a + b = Rat.divInt (a.num * b.den + b.num * a.den) (a.den * b.den) := by
  rw [Rat.add_def', ← Rat.divInt_ofNat]; simp
theorem mul_rt (a b : Rat) : a * b = Rat.divInt (a.num * b.num) (a.den * b.den) := by
  rw [Rat.mul_def', ← Rat.divInt_ofNat]; simp
theorem div_rt (a b : Rat) : a / b = Rat.divInt (a.num * b.den) (a.den * b.num) := by
  rw [Rat.div_def, Rat.inv_def]
  conv => lhs; lhs; rw [rat_eq a]
  rw [Rat.divInt_mul_divInt]
theorem neg_rt (a : Rat) : -a = Rat.divInt (-a.num) a.den := by
  conv => lhs; rw [rat_eq a]
  rw [Rat.neg_divInt]
/-- what Ratio makes of a top and a bottom -/
theorem divInt_num {t b : Int} (hb : 0 < b) : (Rat.divInt t b).num = t / (Nat.gcd t.natAbs b.natAbs : Nat) := by
  rw [Rat.num_divInt, Int.sign_eq_one_of_pos hb, Int.one_mul, Int.gcd_comm]; rfl
theorem divInt_den {t b : Int} (hb : 0 < b) : ((Rat.divInt t b).den : Int) = b / (Nat.gcd t.natAbs b.natAbs : Nat) := by
  rw [Rat.den_divInt, if_neg (by omega), Int.gcd_comm]
  have : b = (b.natAbs : Int) := by omega
  conv => rhs; lhs; rw [this]
  rfl
theorem log2_lt {a n : Nat} (h : a < 2 ^ n) (hn : 0 < n) : a.log2 < n := by
  by_cases z : a = 0
  · subst z; simpa using hn
  · exact (Nat.log2_lt z).mpr h
end PM
set_option Elab.async false
set_option linter.all false
set_option maxRecDepth 100000
/-! Weakest preconditions over the abstract machine: what may come is told by continuations. -/
namespace PM
open PySem L2
abbrev KV := D → List M → Prop
abbrev KX := Addr → List Str → List D → List M → Prop
abbrev KT := Bool → List M → Prop
abbrev KA := List D → List M → Prop
abbrev KN := Env' → List M → Prop
/-- exceptions that are taken -/
def AccX (W : WX) (K : PySem.W.Frag) (L : List Addr) (G H : Hp) (σ : St) (Z : KX) : Prop := ∀ C ns ds μ', Z C ns ds μ' → ComesX K L G H C ns ds μ' fun c d H' => W c d σ H'
def AccV (K : PySem.W.Frag) (L : List Addr) (G H : Hp) (Q : KV) (R : VK) : Prop := ∀ d μ', Q d μ' → Comes K L G H d μ' R
section
variable {W : WX} {K : PySem.W.Frag} {L L1 : List Addr} {G H G1 H1 : Hp} {σ : St} {Z Z' : KX} {Q Q' : KV} {R : VK}
theorem AccX.step (a : AccX W K L G H σ Z) (s : Step L G H L1 G1 H1) : AccX W K L1 G1 H1 σ Z := fun C ns ds μ' z => ComesX.step (E := fun c d H' => W c d σ H') (a C ns ds μ' z) s
theorem AccV.step (a : AccV K L G H Q R) (s : Step L G H L1 G1 H1) : AccV K L1 G1 H1 Q R := fun d μ' q => Comes.step (a d μ' q) s
theorem AccX.mono (a : AccX W K L G H σ Z') (h : ∀ C ns ds μ, Z C ns ds μ → Z' C ns ds μ) : AccX W K L G H σ Z := fun C ns ds μ' z => a C ns ds μ' (h _ _ _ _ z)
theorem AccV.mono (a : AccV K L G H Q' R) (h : ∀ d μ, Q d μ → Q' d μ) : AccV K L G H Q R := fun d μ' z => a d μ' (h _ _ z)
end
/-- an expression comes to a value of Q or to an exception of Z -/
structure wE (X : Cx) (W : WX) (ρ : Env') (μ : List M) (e : Expr) (Q : KV) (Z : KX) : Prop where
  run : PE X e (fun σ H R => ∃ L G, Now X.K L G H μ ρ σ ∧ AccV X.K L G H Q R ∧ AccX W X.K L G H σ Z)
structure wC (X : Cx) (W : WX) (ρ : Env') (μ : List M) (e : Expr) (Q : KT) (Z : KX) : Prop where
  run : PT X e (fun σ H R => ∃ L G, Now X.K L G H μ ρ σ ∧ (∀ b μ', Q b μ' → ComesT X.K L G H b μ' R) ∧ AccX W X.K L G H σ Z)
structure wCw (X : Cx) (W : WX) (ρ : Env') (μ : List M) (e : Expr) (Q : KT) (Z : KX) : Prop where
  run : PW X e (fun σ H R => ∃ L G, Now X.K L G H μ ρ σ ∧ (∀ b μ', Q b μ' → ComesT X.K L G H b μ' R) ∧ AccX W X.K L G H σ Z)
structure wA (X : Cx) (W : WX) (ρ : Env') (μ : List M) (es : List Expr) (Q : KA) (Z : KX) : Prop where
  run : PA X es (fun σ H R => ∃ L G, Now X.K L G H μ ρ σ ∧ (∀ ds μ', Q ds μ' → ComesA X.K L G H ds μ' R) ∧ AccX W X.K L G H σ Z)
/-- an operation on two data -/
structure wB (X : Cx) (W : WX) (f : Value → Value → Sem Value) (da db : D) (μ : List M) (Q : KV) (Z : KX) : Prop where
  run : ∀ (pins : List (Addr × Obj)) (s : Shared) (σ : St) (H : Hp) (x y : V) (v u : Value) (R : VK) (L : List Addr) (G : Hp), Inv X pins σ H s → RelV x v → RelV y u → Ok X.K L G H μ → Rep X.K L G da x → Rep X.K L G db y → AccV X.K L G H Q R → AccX W X.K L G H σ Z →
    wpAny (model X.prog X.w) X.A (f v u) (EP X pins σ R) X.xe s
structure wU (X : Cx) (W : WX) (f : Value → Sem Value) (da : D) (μ : List M) (Q : KV) (Z : KX) : Prop where
  run : ∀ (pins : List (Addr × Obj)) (s : Shared) (σ : St) (H : Hp) (x : V) (v : Value) (R : VK) (L : List Addr) (G : Hp), Inv X pins σ H s → RelV x v → Ok X.K L G H μ → Rep X.K L G da x → AccV X.K L G H Q R → AccX W X.K L G H σ Z →
    wpAny (model X.prog X.w) X.A (f v) (EP X pins σ R) X.xe s
structure wF (X : Cx) (W : WX) (f : List Value → Sem Value) (ds : List D) (μ : List M) (Q : KV) (Z : KX) : Prop where
  run : ∀ (pins : List (Addr × Obj)) (s : Shared) (σ : St) (H : Hp) (xs : List V) (us : List Value) (R : VK) (L : List Addr) (G : Hp), Inv X pins σ H s → Vals xs us → Ok X.K L G H μ → Reps X.K L G ds xs → AccV X.K L G H Q R → AccX W X.K L G H σ Z →
    wpAny (model X.prog X.w) X.A (f us) (EP X pins σ R) X.xe s
/-- one outcome among those that may come -/
def FO.In (Q : KV) (Z : KX) : FO → Prop
  | .ret d μ => Q d μ
  | .exc C ns ds μ => Z C ns ds μ
section
variable {X : Cx} {W : WX} {ρ : Env'} {μ μ1 μ2 : List M} {e a b c : Expr} {es : List Expr} {Q Q' : KV} {Z Z' : KX} {o : FO} {d da db : D} {ds : List D} {pos : Pos} {pins : List (Addr × Obj)} {s : Shared} {σ : St} {H : Hp} {L : List Addr} {G : Hp}
theorem CO.of {R : VK} (v : AccV X.K L G H Q R) (x : AccX W X.K L G H σ Z) (h : o.In Q Z) : CO W X.K L G H σ o R := by
  cases o with
  | ret d μ => exact v d μ h
  | exc C ns ds μ => exact x C ns ds μ h
theorem wE.of (h : PE X e (tO W X.K ρ μ o)) (ho : o.In Q Z) : wE X W ρ μ e Q Z := ⟨pe_of h fun σ H R ⟨L, G, n, v, x⟩ => ⟨L, G, n, CO.of v x ho⟩⟩
theorem wE.ofV (h : PE X e (tV X.K ρ μ d μ1)) (ho : Q d μ1) : wE X W ρ μ e Q Z := ⟨pe_of h fun σ H R ⟨L, G, n, v, x⟩ => ⟨L, G, n, v _ _ ho⟩⟩
theorem wE.mono (h : wE X W ρ μ e Q Z) (hq : ∀ d μ, Q d μ → Q' d μ) (hz : ∀ C ns ds μ, Z C ns ds μ → Z' C ns ds μ) : wE X W ρ μ e Q' Z' := ⟨pe_of h.run fun σ H R ⟨L, G, n, v, x⟩ => ⟨L, G, n, v.mono hq, x.mono hz⟩⟩
theorem wE.imp (h : wE X W ρ μ e Q Z) (hq : ∀ d μ, Q d μ → Q' d μ) : wE X W ρ μ e Q' Z := h.mono hq fun _ _ _ _ z => z
theorem wC.imp {Q Q' : KT} (h : wC X W ρ μ e Q Z) (hq : ∀ d μ, Q d μ → Q' d μ) : wC X W ρ μ e Q' Z := ⟨pt_of h.run fun σ H R ⟨L, G, n, v, x⟩ => ⟨L, G, n, fun b μ' q => v b μ' (hq _ _ q), x⟩⟩
theorem wB.of {f : Value → Value → Sem Value} (h : OpO X W f da db μ o) (ho : o.In Q Z) : wB X W f da db μ Q Z := ⟨fun pins s σ H x y v u R L G I rx ry ok r1 r2 av ax => h pins s σ H x y v u R L G I rx ry ok r1 r2 (CO.of av ax ho)⟩
theorem wB.ofV {f : Value → Value → Sem Value} (h : OpO X W0 f da db μ (.ret d μ1)) (ho : Q d μ1) : wB X W f da db μ Q Z := ⟨fun pins s σ H x y v u R L G I rx ry ok r1 r2 av ax => h pins s σ H x y v u R L G I rx ry ok r1 r2 (av _ _ ho)⟩
theorem wU.of {f : Value → Sem Value} (h : UnO X W f da μ o) (ho : o.In Q Z) : wU X W f da μ Q Z := ⟨fun pins s σ H x v R L G I rx ok r1 av ax => h pins s σ H x v R L G I rx ok r1 (CO.of av ax ho)⟩
theorem wU.ofV {f : Value → Sem Value} (h : UnO X W0 f da μ (.ret d μ1)) (ho : Q d μ1) : wU X W f da μ Q Z := ⟨fun pins s σ H x v R L G I rx ok r1 av ax => h pins s σ H x v R L G I rx ok r1 (av _ _ ho)⟩
theorem wF.of {f : List Value → Sem Value} (h : CallO X W f ds μ o) (ho : o.In Q Z) : wF X W f ds μ Q Z := ⟨fun pins s σ H x v R L G I rx ok r1 av ax => h pins s σ H x v R L G I rx ok r1 (CO.of av ax ho)⟩
theorem wF.ofV {f : List Value → Sem Value} (h : CallO X W0 f ds μ (.ret d μ1)) (ho : Q d μ1) : wF X W f ds μ Q Z := ⟨fun pins s σ H x v R L G I rx ok r1 av ax => h pins s σ H x v R L G I rx ok r1 (av _ _ ho)⟩
theorem wB.imp {f : Value → Value → Sem Value} (h : wB X W f da db μ Q Z) (hq : ∀ d μ, Q d μ → Q' d μ) : wB X W f da db μ Q' Z := ⟨fun pins s σ H x y v u R L G I rx ry ok r1 r2 av ax => h.run pins s σ H x y v u R L G I rx ry ok r1 r2 (av.mono hq) ax⟩
theorem wF.imp {f : List Value → Sem Value} (h : wF X W f ds μ Q Z) (hq : ∀ d μ, Q d μ → Q' d μ) : wF X W f ds μ Q' Z := ⟨fun pins s σ H x v R L G I rx ok r1 av ax => h.run pins s σ H x v R L G I rx ok r1 (av.mono hq) ax⟩
/-- running -/
theorem wE.go (h : wE X W ρ μ e Q Z) (I : Inv X pins σ H s) (n : Now X.K L G H μ ρ σ) (z : AccX W X.K L G H σ Z) :
    wpAny (model X.prog X.w) X.A (eval e X.env) (fun u s1 => ∃ v d μ1 L1 G1 H1, Inv X pins σ H1 s1 ∧ RelV v u ∧ Q d μ1 ∧ Step L G H L1 G1 H1 ∧ Ok X.K L1 G1 H1 μ1 ∧ Rep X.K L1 G1 d v) X.xe s :=
  thn (h.run.run pins s σ H (fun v H1 => ∃ d μ1 L1 G1, Q d μ1 ∧ Step L G H L1 G1 H1 ∧ Ok X.K L1 G1 H1 μ1 ∧ Rep X.K L1 G1 d v) I ⟨L, G, n, fun d μ' q v L' G' H' s' o' r' => ⟨d, μ', L', G', q, s', o', r'⟩, z⟩)
    fun u s1 ⟨v, H1, I1, r1, d, μ1, L1, G1, q, st, o, r⟩ => ⟨v, d, μ1, L1, G1, H1, I1, r1, q, st, o, r⟩
theorem wC.go {Q : KT} (h : wC X W ρ μ e Q Z) (I : Inv X pins σ H s) (n : Now X.K L G H μ ρ σ) (z : AccX W X.K L G H σ Z) :
    wpAny (model X.prog X.w) X.A (isTrue e X.env (eval e X.env)) (fun b s1 => ∃ μ1 L1 G1 H1, Inv X pins σ H1 s1 ∧ Q b μ1 ∧ Step L G H L1 G1 H1 ∧ Ok X.K L1 G1 H1 μ1) X.xe s :=
  thn (h.run.run pins s σ H (fun b H1 => ∃ μ1 L1 G1, Q b μ1 ∧ Step L G H L1 G1 H1 ∧ Ok X.K L1 G1 H1 μ1) I ⟨L, G, n, fun b μ' q L' G' H' s' o' => ⟨μ', L', G', q, s', o'⟩, z⟩)
    fun b s1 ⟨H1, I1, μ1, L1, G1, q, st, o⟩ => ⟨μ1, L1, G1, H1, I1, q, st, o⟩
theorem wA.go {Q : KA} (h : wA X W ρ μ es Q Z) (I : Inv X pins σ H s) (n : Now X.K L G H μ ρ σ) (z : AccX W X.K L G H σ Z) (pos : Pos) :
    wpAny (model X.prog X.w) X.A (spliced (backTo pos (starEach es X.env))) (fun us s1 => ∃ vs ds μ1 L1 G1 H1, Inv X pins σ H1 s1 ∧ Vals vs us ∧ Q ds μ1 ∧ Step L G H L1 G1 H1 ∧ Ok X.K L1 G1 H1 μ1 ∧ Reps X.K L1 G1 ds vs) X.xe s :=
  thn (h.run.run pos pins s σ H (fun vs H1 => ∃ ds μ1 L1 G1, Q ds μ1 ∧ Step L G H L1 G1 H1 ∧ Ok X.K L1 G1 H1 μ1 ∧ Reps X.K L1 G1 ds vs) I ⟨L, G, n, fun ds μ' q vs L' G' H' s' o' r' => ⟨ds, μ', L', G', q, s', o', r'⟩, z⟩)
    fun us s1 ⟨vs, H1, I1, r1, ds, μ1, L1, G1, q, st, o, r⟩ => ⟨vs, ds, μ1, L1, G1, H1, I1, r1, q, st, o, r⟩
theorem wE.by (h : ∀ (pins : List (Addr × Obj)) (s : Shared) (σ : St) (H : Hp) (R : VK) (L : List Addr) (G : Hp), Inv X pins σ H s → Now X.K L G H μ ρ σ → AccV X.K L G H Q R → AccX W X.K L G H σ Z → wpAny (model X.prog X.w) X.A (eval e X.env) (EP X pins σ R) X.xe s) : wE X W ρ μ e Q Z :=
  ⟨⟨fun pins s σ H R I ⟨L, G, n, v, x⟩ => h pins s σ H R L G I n v x⟩⟩
/-- the store may be told with less -/
def Le (μ μ' : List M) : Prop := ∀ K L G H, Ok K L G H μ → Ok K L G H μ'
theorem Le.refl (μ : List M) : Le μ μ := fun _ _ _ _ h => h
theorem wE.le (h : wE X W ρ μ e (fun d μ1 => ∃ μ2, Le μ1 μ2 ∧ Q d μ2) Z) : wE X W ρ μ e Q Z :=
  ⟨pe_of h.run fun σ H R ⟨L, G, n, v, x⟩ => ⟨L, G, n, fun d μ1 ⟨μ2, l, q⟩ u L' G' H' s' o' r' => v d μ2 q u L' G' H' s' (l _ _ _ _ o') r', x⟩⟩

/-! #### any reading will do -/
def aE (X : Cx) (e : Expr) : TE := fun σ H Q => ∃ t, PE X e t ∧ t σ H Q
theorem aE_ok : PE X e (aE X e) := ⟨fun pins s σ H Q I ⟨t, p, q⟩ => p.run pins s σ H Q I q⟩
def aW (X : Cx) (e : Expr) : TT := fun σ H Q => ∃ t, PW X e t ∧ t σ H Q
theorem aW_ok : PW X e (aW X e) := ⟨fun wh pins s σ H Q I ⟨t, p, q⟩ => p.run wh pins s σ H Q I q⟩
def aA (X : Cx) (es : List Expr) : TA := fun σ H Q => ∃ t, PA X es t ∧ t σ H Q
theorem aA_ok : PA X es (aA X es) := ⟨fun pos pins s σ H Q I ⟨t, p, q⟩ => p.run pos pins s σ H Q I q⟩

/-! #### expressions -/
theorem wE_int {i j} (h : Q (.int i) μ) : wE X W ρ μ (.Constant (.int i) j pos) Q Z := .ofV ev_int h
theorem wE_bl {i j} (h : Q (.bl i) μ) : wE X W ρ μ (.Constant (.bool i) j pos) Q Z := .ofV ev_bl h
theorem wE_non {j} (h : Q .non μ) : wE X W ρ μ (.Constant .none j pos) Q Z := .ofV ev_non h
theorem wE_str {i j} (h : Q (.str i) μ) : wE X W ρ μ (.Constant (.str i) j pos) Q Z := .ofV ev_str h
theorem wE_bin {op : Operator} (h : wE X W ρ μ a (fun da μ1 => wE X W ρ μ1 b (fun db μ2 => wB X W (binaryOp op) da db μ2 Q Z) Z) Z) : wE X W ρ μ (.BinOp a op b pos) Q Z :=
  .by fun pins s σ H R L G I n v x => wpAny_BinOp (thn (h.go I n x) fun u s1 ⟨y, da, μ1, L1, G1, H1, I1, ry, hb, st1, o1, r1⟩ => thn (hb.go I1 (n.step st1 o1) (x.step st1)) fun u2 s2 ⟨y2, db, μ2, L2, G2, H2, I2, ry2, ho, st2, o2, r2⟩ =>
    ho.run pins s2 σ H2 y y2 u u2 R L2 G2 I2 ry ry2 o2 (r1.step st2) r2 (v.step (st1.trans st2)) (x.step (st1.trans st2)))
theorem wE_cmp {op : CmpOp} (h : wE X W ρ μ a (fun da μ1 => wE X W ρ μ1 b (fun db μ2 => wB X W (compareOp op) da db μ2 Q Z) Z) Z) (hm : behindInMarks op b = false := by first | exact nomark _ | rfl) : wE X W ρ μ (.Compare a [op] [b] pos) Q Z :=
  .by fun pins s σ H R L G I n v x => wpAny_Compare1 (thn (h.go I n x) fun u s1 ⟨y, da, μ1, L1, G1, H1, I1, ry, hb, st1, o1, r1⟩ => thn (hb.go I1 (n.step st1 o1) (x.step st1)) fun u2 s2 ⟨y2, db, μ2, L2, G2, H2, I2, ry2, ho, st2, o2, r2⟩ =>
    ho.run pins s2 σ H2 y y2 u u2 R L2 G2 I2 ry ry2 o2 (r1.step st2) r2 (v.step (st1.trans st2)) (x.step (st1.trans st2))) hm
theorem wE_un {op : UnaryOp} (h : wE X W ρ μ a (fun da μ1 => wU X W (unaryOp op) da μ1 Q Z) Z) : wE X W ρ μ (.UnaryOp op a pos) Q Z :=
  .by fun pins s σ H R L G I n v x => PyProof.Rows.UnaryOp_ (thn (h.go I n x) fun u s1 ⟨y, da, μ1, L1, G1, H1, I1, ry, ho, st1, o1, r1⟩ => ho.run pins s1 σ H1 y u R L1 G1 I1 ry o1 r1 (v.step st1) (x.step st1))
/-- not, of a test -/
theorem wE_not (h : wE X W ρ μ a (fun da μ1 => ∃ k, da = .bl k ∧ Q (.bl (!k)) μ1) Z) : wE X W ρ μ (.UnaryOp .Not a pos) Q Z :=
  ⟨pe_of (pe_not h.run) fun σ H R ⟨L, G, n, v, x⟩ => ⟨L, G, n, fun d μ1 ⟨k, e, q⟩ u L1 G1 H1 s1 o1 r1 => by
    subst e
    exact ⟨k, rep_bl.mp r1, v _ _ q _ L1 G1 H1 s1 o1 (rep_bl.mpr rfl)⟩, x⟩⟩
theorem wE_one {op} (h : wE X W ρ μ a Q Z) : wE X W ρ μ (.BoolOp op [a] pos) Q Z := ⟨pe_one h.run⟩
variable {rest : List Expr}
theorem wE_and (h : wE X W ρ μ a (fun da μ1 => ∃ k, da = .bl k ∧ if k = true then wE X W ρ μ1 (.BoolOp .And (b :: rest) pos) Q Z else Q (.bl false) μ1) Z) : wE X W ρ μ (.BoolOp .And (a :: b :: rest) pos) Q Z :=
  ⟨pe_of (pe_and h.run aE_ok) fun σ H R ⟨L, G, n, v, x⟩ => ⟨L, G, n, fun d μ1 ⟨k, e, q⟩ u L1 G1 H1 s1 o1 r1 => by
    subst e
    refine ⟨k, rep_bl.mp r1, ?_⟩
    cases k with
    | true => rw [if_pos rfl] at q ⊢; exact ⟨_, q.run, L1, G1, n.step s1 o1, v.step s1, x.step s1⟩
    | false => rw [if_neg (by decide)] at q ⊢; exact v _ _ q _ L1 G1 H1 s1 o1 (rep_bl.mpr rfl), x⟩⟩
theorem wE_or (h : wE X W ρ μ a (fun da μ1 => ∃ k, da = .bl k ∧ if k = true then Q (.bl true) μ1 else wE X W ρ μ1 (.BoolOp .Or (b :: rest) pos) Q Z) Z) : wE X W ρ μ (.BoolOp .Or (a :: b :: rest) pos) Q Z :=
  ⟨pe_of (pe_or h.run aE_ok) fun σ H R ⟨L, G, n, v, x⟩ => ⟨L, G, n, fun d μ1 ⟨k, e, q⟩ u L1 G1 H1 s1 o1 r1 => by
    subst e
    refine ⟨k, rep_bl.mp r1, ?_⟩
    cases k with
    | true => rw [if_pos rfl] at q ⊢; exact v _ _ q _ L1 G1 H1 s1 o1 (rep_bl.mpr rfl)
    | false => rw [if_neg (by decide)] at q ⊢; exact ⟨_, q.run, L1, G1, n.step s1 o1, v.step s1, x.step s1⟩, x⟩⟩
theorem wE_if (h : wC X W ρ μ c (fun k μ1 => if k = true then wE X W ρ μ1 a Q Z else wE X W ρ μ1 b Q Z) Z) : wE X W ρ μ (.IfExp c a b pos) Q Z :=
  ⟨pe_of (pe_ifExp h.run aE_ok aE_ok) fun σ H R ⟨L, G, n, v, x⟩ => ⟨L, G, n, fun k μ1 q L1 G1 H1 s1 o1 => by
    cases k with
    | true => exact iteT ⟨_, (show wE X W ρ μ1 a Q Z from q).run, L1, G1, n.step s1 o1, v.step s1, x.step s1⟩
    | false => exact iteF ⟨_, (show wE X W ρ μ1 b Q Z from q).run, L1, G1, n.step s1 o1, v.step s1, x.step s1⟩, x⟩⟩

/-! #### tests -/
variable {QT : KT}
theorem wC_val (h : wE X W ρ μ e (fun d μ1 => ∃ k, d = .bl k ∧ QT k μ1) Z) (he : ∀ whole, isTrue e X.env whole = (do let v ← whole; standAt e.pos; holding [v] (truthy v)) := by intro _; rfl) : wC X W ρ μ e QT Z :=
  ⟨pt_of (pt_val h.run he) fun σ H R ⟨L, G, n, v, x⟩ => ⟨L, G, n, fun d μ1 ⟨k, e, q⟩ u L1 G1 H1 s1 o1 r1 => by
    subst e
    exact ⟨k, rep_bl.mp r1, v k μ1 q L1 G1 H1 s1 o1⟩, x⟩⟩
theorem wC_cmp {op : CmpOp} (h : wE X W ρ μ a (fun da μ1 => wE X W ρ μ1 b (fun db μ2 => wB X W (compareOp op) da db μ2 (fun d μ3 => ∃ k, d = .bl k ∧ QT k μ3) Z) Z) Z) (hm : behindInMarks op b = false := by first | exact nomark _ | rfl) : wC X W ρ μ (.Compare a [op] [b] pos) QT Z := by
  refine ⟨⟨fun pins s σ H R I ⟨L, G, n, v, x⟩ => ?_⟩⟩
  refine wpAny_isTrue_Compare1 (thn (h.go I n x) fun u s1 ⟨y, da, μ1, L1, G1, H1, I1, ry, hb, st1, o1, r1⟩ => thn (hb.go I1 (n.step st1 o1) (x.step st1)) fun u2 s2 ⟨y2, db, μ2, L2, G2, H2, I2, ry2, ho, st2, o2, r2⟩ =>
    thn (ho.run pins s2 σ H2 y y2 u u2 (fun z H' => ∃ k, z = .bl k ∧ R k H') L2 G2 I2 ry ry2 o2 (r1.step st2) r2 (fun d μ3 ⟨k, e, q⟩ w L3 G3 H3 st3 o3 r3 => by
      subst e
      exact ⟨k, rep_bl.mp r3, v k μ3 q L3 G3 H3 ((st1.trans st2).trans st3) o3⟩) (x.step (st1.trans st2))) fun z s3 ⟨y, H3, I3, r3, k, e3, q3⟩ => ?_) hm
  subst e3
  cases r3
  exact wpAny_truthy_bool ⟨H3, I3, q3⟩
theorem wC_not (h : wC X W ρ μ a (fun k μ1 => QT (!k) μ1) Z) : wC X W ρ μ (.UnaryOp .Not a pos) QT Z :=
  ⟨pt_of (pt_not h.run) fun σ H R ⟨L, G, n, v, x⟩ => ⟨L, G, n, fun k μ1 q L1 G1 H1 s1 o1 => v _ _ q L1 G1 H1 s1 o1, x⟩⟩
theorem wC_bool {op} (h : wCw X W ρ μ (.BoolOp op es pos) QT Z) : wC X W ρ μ (.BoolOp op es pos) QT Z := ⟨h.run.pt⟩
theorem wCw_and1 (h : wC X W ρ μ a QT Z) : wCw X W ρ μ (.BoolOp .And [a] pos) QT Z := ⟨pw_and1 h.run⟩
theorem wCw_or1 (h : wC X W ρ μ a QT Z) : wCw X W ρ μ (.BoolOp .Or [a] pos) QT Z := ⟨pw_or1 h.run⟩
theorem wCw_and (h : wC X W ρ μ a (fun k μ1 => if k = true then wCw X W ρ μ1 (.BoolOp .And (b :: rest) pos) QT Z else QT false μ1) Z) : wCw X W ρ μ (.BoolOp .And (a :: b :: rest) pos) QT Z :=
  ⟨pw_of (pw_and h.run aW_ok) fun σ H R ⟨L, G, n, v, x⟩ => ⟨L, G, n, fun k μ1 q L1 G1 H1 s1 o1 => by
    cases k with
    | true => exact iteT ⟨_, (show wCw X W ρ μ1 _ QT Z from q).run, L1, G1, n.step s1 o1, (fun b μ' q => (v b μ' q).step s1), x.step s1⟩
    | false => exact iteF (v false μ1 q L1 G1 H1 s1 o1), x⟩⟩
theorem wCw_or (h : wC X W ρ μ a (fun k μ1 => if k = true then QT true μ1 else wCw X W ρ μ1 (.BoolOp .Or (b :: rest) pos) QT Z) Z) : wCw X W ρ μ (.BoolOp .Or (a :: b :: rest) pos) QT Z :=
  ⟨pw_of (pw_or h.run aW_ok) fun σ H R ⟨L, G, n, v, x⟩ => ⟨L, G, n, fun k μ1 q L1 G1 H1 s1 o1 => by
    cases k with
    | true => exact iteT (v true μ1 q L1 G1 H1 s1 o1)
    | false => exact iteF ⟨_, (show wCw X W ρ μ1 _ QT Z from q).run, L1, G1, n.step s1 o1, (fun b μ' q => (v b μ' q).step s1), x.step s1⟩, x⟩⟩

/-! #### arguments -/
variable {QA : KA}
theorem wA_nil (h : QA [] μ) : wA X W ρ μ [] QA Z := ⟨pa_of pa_nil fun σ H R ⟨L, G, n, v, x⟩ => v [] μ h [] L G H (.refl _ _ _) n.ok Reps.nil⟩
theorem wA_cons (h : wE X W ρ μ e (fun d μ1 => wA X W ρ μ1 es (fun ds μ2 => QA (d :: ds) μ2) Z) Z) (hs : starEach (e :: es) X.env = (false, eval e X.env) :: starEach es X.env := by rfl) : wA X W ρ μ (e :: es) QA Z :=
  ⟨pa_of (pa_cons h.run aA_ok hs) fun σ H R ⟨L, G, n, v, x⟩ => ⟨L, G, n, fun d μ1 q u L1 G1 H1 s1 o1 r1 => ⟨_, q.run, L1, G1, n.step s1 o1, fun ds μ2 q2 us L2 G2 H2 s2 o2 r2 => v _ _ q2 _ L2 G2 H2 (s1.trans s2) o2 (Reps.cons (r1.step s2) r2), x.step s1⟩, x⟩⟩
theorem wE_tup {k : Nat} (h : wA X W ρ μ es (fun ds μ1 => ds.length ≤ sizeLine ∧ Q (.tup ds) μ1) Z) : wE X W ρ μ (.Tuple es k pos) Q Z :=
  ⟨pe_of (pe_tup h.run) fun σ H R ⟨L, G, n, v, x⟩ => ⟨L, G, n, fun ds μ1 ⟨hl, q⟩ vs L1 G1 H1 s1 o1 r1 => ⟨by rw [r1.length]; exact hl, fun p hp => by
    obtain ⟨o', s'⟩ := o1.new (o := .tup vs) hp
    exact v _ _ q _ L1 _ _ (s1.trans s') o' (rep_tup.mpr ⟨p, vs, rfl, .inl (.inl upd_same), r1.step s'⟩)⟩, x⟩⟩
end
end PM
set_option Elab.async false
set_option linter.all false
set_option maxRecDepth 100000
namespace PM
open PySem L2
/-! ### statements -/
structure Ks where
  rt : KV
  bk : KN := fun _ _ => False
  ct : KN := fun _ _ => False
  xc : Addr → List Str → List D → Env' → List M → Prop := fun _ _ _ _ _ => False
abbrev Ks.z (κ : Ks) (ρ : Env') : KX := fun C ns ds μ => κ.xc C ns ds ρ μ
structure AccS (W : WX) (K : PySem.W.Frag) (L : List Addr) (G H : Hp) (D : Ends) (nx : KN) (κ : Ks) : Prop where
  nx : ∀ ρ μ, nx ρ μ → Ends' K L G H ρ μ D.nx
  bk : ∀ ρ μ, κ.bk ρ μ → Ends' K L G H ρ μ D.bk
  ct : ∀ ρ μ, κ.ct ρ μ → Ends' K L G H ρ μ D.ct
  rt : AccV K L G H κ.rt D.rt
  xc : ∀ C ns ds ρ μ, κ.xc C ns ds ρ μ → ∀ σ' dx L' G' H', Step L G H L' G' H' → Now K L' G' H' μ ρ σ' → XdAt K L' G' H' dx ns ds → W (.ref C) dx σ' H'
structure wS (X : Cx) (W : WX) (ρ : Env') (μ : List M) (st : Stmt) (nx : KN) (κ : Ks) : Prop where
  run : PS X st (fun D σ H => ∃ L G, Now X.K L G H μ ρ σ ∧ AccS W X.K L G H D nx κ)
structure wSs (X : Cx) (W : WX) (ρ : Env') (μ : List M) (st : List Stmt) (nx : KN) (κ : Ks) : Prop where
  run : PSs X st (fun D σ H => ∃ L G, Now X.K L G H μ ρ σ ∧ AccS W X.K L G H D nx κ)
structure wG (X : Cx) (W : WX) (ρ : Env') (μ : List M) (tg : Expr) (d : D) (nx : KN) : Prop where
  run : PG X tg (fun v σ H R => ∃ L G, Now X.K L G H μ ρ σ ∧ Rep X.K L G d v ∧ ∀ ρ' μ', nx ρ' μ' → Ends' X.K L G H ρ' μ' R)
section
variable {W : WX} {K : PySem.W.Frag} {L L1 : List Addr} {G H G1 H1 : Hp} {D : Ends} {nx nx' : KN} {κ : Ks} {ρ : Env'} {μ : List M} {σ : St}
theorem AccS.step (a : AccS W K L G H D nx κ) (s : Step L G H L1 G1 H1) : AccS W K L1 G1 H1 D nx κ :=
  ⟨fun ρ μ h => (a.nx ρ μ h).step s, fun ρ μ h => (a.bk ρ μ h).step s, fun ρ μ h => (a.ct ρ μ h).step s, a.rt.step s, fun C ns ds ρ μ h σ' dx L' G' H' s' => a.xc C ns ds ρ μ h σ' dx L' G' H' (s.trans s')⟩
theorem AccS.x (a : AccS W K L G H D nx κ) (n : Now K L G H μ ρ σ) : AccX W K L G H σ (κ.z ρ) := fun C ns ds μ' z dx L' G' H' s o x => a.xc C ns ds ρ μ' z σ dx L' G' H' s (n.step s o) x
end
section
variable {X : Cx} {W : WX} {ρ ρ1 : Env'} {μ μ1 μ2 : List M} {e a b c tg : Expr} {es : List Expr} {Q Q' : KV} {Z : KX} {d da db : D} {ds : List D} {pos : Pos} {nx nx' : KN} {κ : Ks} {st : Stmt} {rest A B : List Stmt} {x : Str} {N : List Str}
theorem wSs.of {q : Out} (h : PSs X rest (tS W X.K ρ μ q)) (hq : match q with | .next ρ μ => nx ρ μ | .brk ρ μ => κ.bk ρ μ | .cont ρ μ => κ.ct ρ μ | .ret d μ => κ.rt d μ | .exc C ns ds ρ μ => κ.xc C ns ds ρ μ) : wSs X W ρ μ rest nx κ :=
  ⟨pss_of h fun D σ H ⟨L, G, n, a⟩ => ⟨L, G, n, by
    cases q with
    | next ρ μ => exact a.nx ρ μ hq
    | brk ρ μ => exact a.bk ρ μ hq
    | cont ρ μ => exact a.ct ρ μ hq
    | ret d μ => exact a.rt d μ hq
    | exc C ns ds ρ μ => exact a.xc C ns ds ρ μ hq⟩⟩
theorem wS.of {q : Out} (h : PS X st (tS W X.K ρ μ q)) (hq : match q with | .next ρ μ => nx ρ μ | .brk ρ μ => κ.bk ρ μ | .cont ρ μ => κ.ct ρ μ | .ret d μ => κ.rt d μ | .exc C ns ds ρ μ => κ.xc C ns ds ρ μ) : wS X W ρ μ st nx κ :=
  ⟨ps_of h fun D σ H ⟨L, G, n, a⟩ => ⟨L, G, n, by
    cases q with
    | next ρ μ => exact a.nx ρ μ hq
    | brk ρ μ => exact a.bk ρ μ hq
    | cont ρ μ => exact a.ct ρ μ hq
    | ret d μ => exact a.rt d μ hq
    | exc C ns ds ρ μ => exact a.xc C ns ds ρ μ hq⟩⟩
theorem wSs_nil (h : nx ρ μ) : wSs X W ρ μ [] nx κ := ⟨pss_of pss_nil fun D σ H ⟨L, G, n, a⟩ => a.nx ρ μ h σ L G H (.refl _ _ _) n⟩
theorem wSs_cons (h : wS X W ρ μ st (fun ρ1 μ1 => wSs X W ρ1 μ1 rest nx κ) κ) : wSs X W ρ μ (st :: rest) nx κ :=
  ⟨pss_of (pss_cons h.run aSs_ok) fun D σ H ⟨L, G, n, a⟩ => ⟨L, G, n, fun ρ1 μ1 h1 σ1 L1 G1 H1 s1 n1 => ⟨_, h1.run, L1, G1, n1, a.step s1⟩, a.bk, a.ct, a.rt, a.xc⟩⟩
theorem wSs.imp (h : wSs X W ρ μ rest nx κ) (hn : ∀ ρ μ, nx ρ μ → nx' ρ μ) : wSs X W ρ μ rest nx' κ := ⟨pss_of h.run fun D σ H ⟨L, G, n, a⟩ => ⟨L, G, n, fun ρ μ q => a.nx ρ μ (hn ρ μ q), a.bk, a.ct, a.rt, a.xc⟩⟩
theorem wS.imp (h : wS X W ρ μ st nx κ) (hn : ∀ ρ μ, nx ρ μ → nx' ρ μ) : wS X W ρ μ st nx' κ := ⟨ps_of h.run fun D σ H ⟨L, G, n, a⟩ => ⟨L, G, n, fun ρ μ q => a.nx ρ μ (hn ρ μ q), a.bk, a.ct, a.rt, a.xc⟩⟩
/-- slots are forgotten -/
theorem wSs.weak (h : wSs X W ρ1 μ rest nx κ) (s : Sub ρ1 ρ) : wSs X W ρ μ rest nx κ := ⟨pss_of h.run fun D σ H ⟨L, G, n, a⟩ => ⟨L, G, n.forget s, a⟩⟩
/-- the store is told with less -/
theorem wSs.le (h : wSs X W ρ μ1 rest nx κ) (l : Le μ μ1) : wSs X W ρ μ rest nx κ := ⟨pss_of h.run fun D σ H ⟨L, G, n, a⟩ => ⟨L, G, ⟨l _ _ _ _ n.ok, n.env⟩, a⟩⟩
/-- the store may be told with more: some of these -/
theorem wSs.some {S : List M → Prop} (h : ∀ μ1, S μ1 → wSs X W ρ μ1 rest nx κ) (l : ∀ K L G H, Ok K L G H μ → ∃ μ1, S μ1 ∧ Ok K L G H μ1) : wSs X W ρ μ rest nx κ :=
  ⟨⟨fun pins s σ H D I ⟨L, G, n, a⟩ => by
    obtain ⟨μ1, s1, o1⟩ := l _ _ _ _ n.ok
    exact (h μ1 s1).run.run pins s σ H D I ⟨L, G, ⟨o1, n.env⟩, a⟩⟩⟩
/-- targets one by one -/
structure wGs (X : Cx) (W : WX) (ρ : Env') (μ : List M) (ts : List Expr) (ds : List D) (nx : KN) : Prop where
  run : PGs X ts (fun vs σ H R => ∃ L G, Now X.K L G H μ ρ σ ∧ Reps X.K L G ds vs ∧ ∀ ρ' μ', nx ρ' μ' → Ends' X.K L G H ρ' μ' R)
def aGs (X : Cx) (e : List Expr) : TGs := fun v σ H Q => ∃ t, PGs X e t ∧ t v σ H Q
theorem aGs_ok : PGs X es (aGs X es) := ⟨fun pins s σ H v u Q I r ⟨t, p, q⟩ => p.run pins s σ H v u Q I r q⟩
theorem wGs_nil (h : nx ρ μ) : wGs X W ρ μ [] [] nx := ⟨pgs_of pgs_nil fun v σ H R ⟨L, G, n, r, a⟩ => ⟨r.inv_nil, a _ _ h _ L G H (.refl _ _ _) n⟩⟩
theorem wGs_cons (h : wG X W ρ μ e d (fun ρ1 μ1 => wGs X W ρ1 μ1 es ds nx)) (hs : (assignEach (e :: es) X.env).map (·.2) = assign e X.env :: (assignEach es X.env).map (·.2) := by rfl) : wGs X W ρ μ (e :: es) (d :: ds) nx :=
  ⟨pgs_of (pgs_cons h.run aGs_ok hs) fun vs σ H R ⟨L, G, n, r, a⟩ => by
    obtain ⟨v, q, e, r1, r2⟩ := r.inv_cons
    exact ⟨v, q, e, L, G, n, r1, fun ρ1 μ1 q1 σ1 L1 G1 H1 s1 n1 => ⟨_, q1.run, L1, G1, n1, r2.step s1, fun ρ' μ' q' => (a ρ' μ' q').step s1⟩⟩⟩
theorem wG_tup {kk : Nat} (hc : X.calm = true) (h : wGs X W ρ μ es ds nx) (hn : (assignEach es X.env).length = ds.length := by rfl) (hst : (assignEach es X.env).findIdx? (·.1) = none := by rfl) : wG X W ρ μ (.Tuple es kk pos) (.tup ds) nx :=
  ⟨pg_of (pg_tup hc h.run hn hst) fun v σ H R ⟨L, G, n, r, a⟩ => by
    obtain ⟨a', vs, e, q, r⟩ := rep_tup.mp r
    exact ⟨a', vs, e, Same.sqT n.ok.sub q, r.length, L, G, n, r, a⟩⟩

theorem wS_expr (h : wE X W ρ μ e (fun _ μ1 => nx ρ μ1) (κ.z ρ)) (hs : swapsWith e none pos.line X.env = pure false := by rfl) : wS X W ρ μ (.Expr e pos) nx κ :=
  ⟨ps_of (ps_expr h.run hs) fun D σ H ⟨L, G, n, a⟩ => ⟨L, G, n, fun d μ1 q v L1 G1 H1 s1 o1 _ => a.nx _ _ q σ L1 G1 H1 s1 (n.step s1 o1), a.x n⟩⟩
theorem wS_asg (h : wE X W ρ μ e (fun d μ1 => wG X W ρ μ1 tg d nx) (κ.z ρ)) (hs : swapsWithSole [tg] e pos.line X.env = pure false := by rfl) (hw : swappedStores [tg] e X.env = pure none := by rfl)
    (h1 : (assignEach [tg] X.env).map (·.2) = [assign tg X.env] := by rfl) : wS X W ρ μ (.Assign [tg] e pos) nx κ :=
  ⟨ps_of (ps_asg h.run aG_ok hs hw h1) fun D σ H ⟨L, G, n, a⟩ => ⟨L, G, n, fun d μ1 q v L1 G1 H1 s1 o1 r1 => ⟨_, q.run, L1, G1, n.step s1 o1, r1, fun ρ' μ' q' => (a.nx ρ' μ' q').step s1⟩, a.x n⟩⟩
theorem wS_ret (h : wE X W ρ μ e κ.rt (κ.z ρ)) : wS X W ρ μ (.Return (some e) pos) nx κ := ⟨ps_of (ps_ret h.run) fun D σ H ⟨L, G, n, a⟩ => ⟨L, G, n, a.rt, a.x n⟩⟩
theorem wS_retN (h : κ.rt .non μ) : wS X W ρ μ (.Return none pos) nx κ := ⟨ps_of ps_retN fun D σ H ⟨L, G, n, a⟩ => a.rt _ _ h _ L G H (.refl _ _ _) n.ok (rep_non.mpr rfl)⟩
theorem wS_pass (h : nx ρ μ) : wS X W ρ μ (.Pass pos) nx κ := .of es_pass h
theorem wS_break (h : κ.bk ρ μ) : wS X W ρ μ (.Break pos) nx κ := .of es_break h
theorem wS_continue (h : κ.ct ρ μ) : wS X W ρ μ (.Continue pos) nx κ := .of es_continue h
theorem wS_if (h : wC X W ρ μ c (fun k μ1 => if k = true then wSs X W ρ μ1 A nx κ else wSs X W ρ μ1 B nx κ) (κ.z ρ)) : wS X W ρ μ (.If c A B pos) nx κ :=
  ⟨ps_of (ps_if h.run aSs_ok aSs_ok) fun D σ H ⟨L, G, n, a⟩ => ⟨L, G, n, fun k μ1 q L1 G1 H1 s1 o1 => by
    cases k with
    | true => exact iteT ⟨_, (show wSs X W ρ μ1 A nx κ from q).run, L1, G1, n.step s1 o1, a.step s1⟩
    | false => exact iteF ⟨_, (show wSs X W ρ μ1 B nx κ from q).run, L1, G1, n.step s1 o1, a.step s1⟩, a.x n⟩⟩
/-- behind a statement all ways meet in nx' -/
theorem wSs_cut (nx' : KN) (h : wS X W ρ μ st nx' κ) (h2 : ∀ ρ1 μ1, nx' ρ1 μ1 → wSs X W ρ1 μ1 rest nx κ) : wSs X W ρ μ (st :: rest) nx κ := wSs_cons (h.imp h2)

/-! ### while -/
theorem wS_while {body : List Stmt} (Iv : Nat → KN) {m : Nat} (po : PassesOwn (model X.prog X.w) X.A X.env X.xe) (h0 : Iv m ρ μ)
    (h : ∀ m ρ μ, Iv m ρ μ → wC X W ρ μ c (fun k μ1 => if k = true then wSs X W ρ μ1 body (fun ρ2 μ2 => ∃ m', m' < m ∧ Iv m' ρ2 μ2) { κ with bk := nx, ct := fun ρ2 μ2 => ∃ m', m' < m ∧ Iv m' ρ2 μ2 } else nx ρ μ1) (κ.z ρ)) :
    wS X W ρ μ (.While c body [] pos) nx κ := by
  refine ⟨ps_of (ps_while po aT_ok aSs_ok) fun D σ H ⟨L, G, nw, a⟩ => ?_⟩
  refine ⟨fun m σ' H' => ∃ ρ' μ' L' G', Iv m ρ' μ' ∧ Now X.K L' G' H' μ' ρ' σ' ∧ AccS W X.K L' G' H' D nx κ, ⟨m, ρ, μ, L, G, h0, nw, a⟩, ?_⟩
  rintro m σ1 H1 ⟨ρ1, μ1, L1, G1, h1, n1, a1⟩
  refine ⟨_, (h m ρ1 μ1 h1).run, L1, G1, n1, fun k μ2 q L2 G2 H2 s2 o2 => ?_, a1.x n1⟩
  cases k with
  | true =>
    refine iteT ⟨fun σ3 H3 => ∃ L3 G3 ρ3 μ3 m', m' < m ∧ Iv m' ρ3 μ3 ∧ Now X.K L3 G3 H3 μ3 ρ3 σ3 ∧ AccS W X.K L3 G3 H3 D nx κ, fun σ3 H3 ⟨L3, G3, ρ3, μ3, m', hm, i3, n3, a3⟩ => ⟨m', hm, ρ3, μ3, L3, G3, i3, n3, a3⟩, _, (show wSs X W ρ1 μ2 body _ _ from q).run, L2, G2, n1.step s2 o2, ?_⟩
    have a2 := a1.step s2
    exact ⟨fun ρ3 μ3 ⟨m', hm, i3⟩ σ3 L3 G3 H3 s3 n3 => ⟨L3, G3, ρ3, μ3, m', hm, i3, n3, a2.step s3⟩, a2.nx, fun ρ3 μ3 ⟨m', hm, i3⟩ σ3 L3 G3 H3 s3 n3 => ⟨L3, G3, ρ3, μ3, m', hm, i3, n3, a2.step s3⟩, a2.rt, a2.xc⟩
  | false => exact iteF (a1.nx _ _ (show nx ρ1 μ2 from q) _ L2 G2 H2 s2 (n1.step s2 o2))

/-! ### for -/
/-- what is walked -/
structure wI (X : Cx) (W : WX) (ρ : Env') (μ : List M) (tg e : Expr) (Q : KA) (Z : KX) : Prop where
  run : PI X tg e (fun σ H R => ∃ L G, Now X.K L G H μ ρ σ ∧ (∀ ds μ', Q ds μ' → ∀ J L' G' H', Step L G H L' G' H' → Ok X.K L' G' H' μ' → JOk X.K J L' G' ds → R J H') ∧ AccX W X.K L G H σ Z)
/-- the rest of a loop -/
def wForD (X : Cx) (W : WX) (tg : Expr) (body : List Stmt) (nx : KN) (κ : Ks) : List D → KN
  | [], ρ, μ => nx ρ μ
  | d :: ds, ρ, μ => wG X W ρ μ tg d fun ρ1 μ1 => wSs X W ρ1 μ1 body (wForD X W tg body nx κ ds) { κ with bk := nx, ct := wForD X W tg body nx κ ds }
structure wFor (X : Cx) (W : WX) (tg : Expr) (body : List Stmt) (nx : KN) (κ : Ks) (ds : List D) (ρ : Env') (μ : List M) : Prop where
  run : wForD X W tg body nx κ ds ρ μ
theorem wS_for {body : List Stmt} (po : PassesOwn (model X.prog X.w) X.A X.env X.xe) (hc : X.calm = true) (h : wI X W ρ μ tg e (fun ds μ1 => wFor X W tg body nx κ ds ρ μ1) (κ.z ρ)) (hs : ∀ x, foldedSetIterable e X.env x = pure x := by intro _; rfl) : wS X W ρ μ (.For tg e body [] pos) nx κ := by
  refine ⟨ps_of (ps_for po hc h.run aG_ok aSs_ok hs) fun D σ H ⟨L, G, nw, a⟩ => ⟨L, G, nw, fun ds μ1 hf J L1 G1 H1 s1 o1 j => ?_, a.x nw⟩⟩
  refine ⟨fun i m σ' H' => m = ds.length - i ∧ i ≤ ds.length ∧ ∃ ρ' μ' L' G', wForD X W tg body nx κ (ds.drop i) ρ' μ' ∧ Pre L1 L' ∧ Same G1 G' ∧ Now X.K L' G' H' μ' ρ' σ' ∧ AccS W X.K L' G' H' D nx κ, ⟨ds.length, by simp, Nat.zero_le _, ρ, μ1, L1, G1, hf.run, .refl _, .refl _, nw.step s1 o1, a.step s1⟩, ?_⟩
  rintro i m σ2 H2 ⟨rfl, hil, ρ2, μ2, L2, G2, h2, p2, g2, n2, a2⟩
  generalize hd : ds.drop i = rest at h2
  cases rest with
  | nil =>
    have : i = ds.length := by
      have := congrArg List.length hd
      simp at this
      omega
    subst this
    exact .inl ⟨j.stop L2 G2 H2 μ2 p2 g2 n2.ok, a2.nx _ _ h2 _ L2 G2 H2 (.refl _ _ _) n2⟩
  | cons d ds' =>
    obtain ⟨e1, e2⟩ := drop_cons hd
    obtain ⟨go, yl⟩ := j.go L2 G2 H2 μ2 i d p2 g2 n2.ok e1
    have il : i < ds.length := (List.getElem?_eq_some_iff.mp e1).1
    refine .inr ⟨go, fun σ' H' => ∃ ρ' μ' L' G', wForD X W tg body nx κ ds' ρ' μ' ∧ Pre L1 L' ∧ Same G1 G' ∧ Now X.K L' G' H' μ' ρ' σ' ∧ AccS W X.K L' G' H' D nx κ, fun σ' H' ⟨ρ', μ', L', G', w', p', g', n', a'⟩ => ⟨ds.length - (i + 1), by omega, rfl, il, ρ', μ', L', G', by rw [e2]; exact w', p', g', n', a'⟩, fun x H3 y => ?_⟩
    obtain ⟨G3, s3, o3, r3⟩ := yl x H3 y
    refine ⟨_, (show wG X W ρ2 μ2 tg d _ from h2).run, L2, G3, n2.step s3 o3, r3, fun ρ4 μ4 h4 σ4 L4 G4 H4 s4 n4 => ⟨_, h4.run, L4, G4, n4, ?_⟩⟩
    have a4 := a2.step (s3.trans s4)
    have fin : ∀ ρ5 μ5, wForD X W tg body nx κ ds' ρ5 μ5 → Ends' X.K L4 G4 H4 ρ5 μ5 fun σ' H' => ∃ ρ' μ' L' G', wForD X W tg body nx κ ds' ρ' μ' ∧ Pre L1 L' ∧ Same G1 G' ∧ Now X.K L' G' H' μ' ρ' σ' ∧ AccS W X.K L' G' H' D nx κ :=
      fun ρ5 μ5 w5 σ5 L5 G5 H5 s5 n5 => ⟨ρ5, μ5, L5, G5, w5, (p2.trans s4.pre).trans s5.pre, ((g2.trans s3.gs).trans s4.gs).trans s5.gs, n5, a4.step s5⟩
    exact ⟨fin, a4.nx, fin, a4.rt, a4.xc⟩
/-- a loop by an invariant -/
theorem wFor_inv {body : List Stmt} (Iv : List D → KN) (hb : ∀ d ds ρ μ, Iv (d :: ds) ρ μ → wG X W ρ μ tg d fun ρ1 μ1 => wSs X W ρ1 μ1 body (Iv ds) { κ with bk := nx, ct := Iv ds }) (hn : ∀ ρ μ, Iv [] ρ μ → nx ρ μ) : ∀ ds ρ μ, Iv ds ρ μ → wFor X W tg body nx κ ds ρ μ := by
  suffices ∀ ds ρ μ, Iv ds ρ μ → wForD X W tg body nx κ ds ρ μ from fun ds ρ μ h => ⟨this ds ρ μ h⟩
  intro ds
  induction ds with
  | nil => intro ρ μ h; exact hn ρ μ h
  | cons d ds ih =>
    intro ρ μ h
    refine ⟨pg_of (hb d ds ρ μ h).run fun v σ H R ⟨L, G, n, r, a⟩ => ⟨L, G, n, r, fun ρ1 μ1 h1 => a ρ1 μ1 ?_⟩⟩
    refine ⟨pss_of h1.run fun D σ H ⟨L, G, n, a⟩ => ⟨L, G, n, fun ρ μ q => a.nx ρ μ (ih ρ μ q), a.bk, fun ρ μ q => a.ct ρ μ (ih ρ μ q), a.rt, a.xc⟩⟩
theorem wFor_nil {body : List Stmt} (h : nx ρ μ) : wFor X W tg body nx κ [] ρ μ := ⟨h⟩
theorem wFor_cons {body : List Stmt} (h : wG X W ρ μ tg d fun ρ1 μ1 => wSs X W ρ1 μ1 body (wFor X W tg body nx κ ds) { κ with bk := nx, ct := wFor X W tg body nx κ ds }) : wFor X W tg body nx κ (d :: ds) ρ μ :=
  ⟨⟨pg_of h.run fun v σ H R ⟨L, G, n, r, a⟩ => ⟨L, G, n, r, fun ρ1 μ1 h1 => a ρ1 μ1 ⟨pss_of h1.run fun D σ H ⟨L, G, n, a⟩ => ⟨L, G, n, fun ρ μ q => a.nx ρ μ q.run, a.bk, fun ρ μ q => a.ct ρ μ q.run, a.rt, a.xc⟩⟩⟩⟩⟩
end
end PM
set_option Elab.async false
set_option linter.all false
set_option maxRecDepth 100000
namespace PM
open PySem L2
/-! ### defs -/
/-- what a def is asked for: any of these ends will do -/
def spH (K : PySem.W.Frag) (ds : List D) (μ : List M) (Q : KV) (Z : KX) : Sp := fun vs H R E => ∃ L G, Ok K L G H μ ∧ Reps K L G ds vs ∧ AccV K L G H Q R ∧ ∀ C ns ds' μ', Z C ns ds' μ' → ComesX K L G H C ns ds' μ' E
/-- a def: its place, its parameters, its level -/
structure Fnx where
  a : Addr
  fd : FuncData
  ps : List Str
  lv : Nat
def SpF (P : Program) (w : World) (K : PySem.W.Frag) (mg : Str → Option Value) (base : Heap) (f : Fnx) (ds : List D) (μ : List M) (Q : KV) (Z : KX) : Prop := FnG P w K mg base f.lv f.a f.fd f.ps (spH K ds μ Q Z)
abbrev SpX (X : Cx) (f : Fnx) (ds : List D) (μ : List M) (Q : KV) (Z : KX) : Prop := SpF X.prog X.w X.K X.mg X.base f ds μ Q Z
section
variable {P : Program} {w : World} {K : PySem.W.Frag} {mg : Str → Option Value} {base : Heap} {f : Fnx} {ds : List D} {μ : List M} {Q Q' : KV} {Z Z' : KX}
theorem SpF.mono (h : SpF P w K mg base f ds μ Q Z) (hq : ∀ d μ, Q d μ → Q' d μ) (hz : ∀ C ns ds μ, Z C ns ds μ → Z' C ns ds μ) : SpF P w K mg base f ds μ Q' Z' :=
  ⟨fun vs H R E ⟨L, G, ok, r, v, x⟩ => h.len vs H R E ⟨L, G, ok, r, v.mono hq, fun C ns ds' μ' z => x C ns ds' μ' (hz _ _ _ _ z)⟩,
   fun A outer s H args us vs R E room gr en bd rel ⟨L, G, ok, r, v, x⟩ => h.run A outer s H args us vs R E room gr en bd rel ⟨L, G, ok, r, v.mono hq, fun C ns ds' μ' z => x C ns ds' μ' (hz _ _ _ _ z)⟩⟩
theorem SpF.imp (h : SpF P w K mg base f ds μ Q Z) (hq : ∀ d μ, Q d μ → Q' d μ) : SpF P w K mg base f ds μ Q' Z := h.mono hq fun _ _ _ _ z => z
/-- a def whose ends are told one by one -/
theorem SpF.rel {R : Rl} (h : ∀ ds μ o, R ds μ o → SpF P w K mg base f ds μ (fun d μ' => o = .ret d μ') (fun C ns ds' μ' => o = .exc C ns ds' μ')) : FnG P w K mg base f.lv f.a f.fd f.ps (spR K R) := by
  have key : ∀ vs H Q E, spR K R vs H Q E → ∃ ds μ o, R ds μ o ∧ spH K ds μ (fun d μ' => o = .ret d μ') (fun C ns ds' μ' => o = .exc C ns ds' μ') vs H Q E := by
    rintro vs H Q E ⟨L, G, ds, μ, o, ok, r, hR, c⟩
    refine ⟨ds, μ, o, hR, L, G, ok, r, ?_, ?_⟩
    · rintro d μ' rfl
      exact c
    · rintro C ns ds' μ' rfl
      exact c
  refine ⟨fun vs H Q E q => ?_, fun A outer s H args us vs Q E room gr en bd rel q => ?_⟩
  · obtain ⟨ds, μ, o, hR, z⟩ := key vs H Q E q
    exact (h ds μ o hR).len _ _ _ _ z
  · obtain ⟨ds, μ, o, hR, z⟩ := key vs H Q E q
    exact (h ds μ o hR).run A outer s H args us vs Q E room gr en bd rel z
/-- the other way -/
theorem SpF.ofR {R : Rl} {o : FO} (h : FnG P w K mg base f.lv f.a f.fd f.ps (spR K R)) (hR : R ds μ o) (ho : o.In Q Z) : SpF P w K mg base f ds μ Q Z := by
  have key : ∀ vs H R' E, spH K ds μ Q Z vs H R' E → spR K R vs H R' E := by
    rintro vs H R' E ⟨L, G, ok, r, v, x⟩
    refine ⟨L, G, ds, μ, o, ok, r, hR, ?_⟩
    cases o with
    | ret d μ' => exact v d μ' ho
    | exc C ns ds' μ' => exact x C ns ds' μ' ho
  exact ⟨fun vs H R' E q => h.len _ _ _ _ (key _ _ _ _ q), fun A outer s H args us vs R' E room gr en bd rel q => h.run A outer s H args us vs R' E room gr en bd rel (key _ _ _ _ q)⟩
end
/-! ### what leaves a def -/
/-- things that the def has made are told as they stand at its end -/
inductive Frz (μ : List M) (b : Nat) : List D → List D → Prop
  | nil : Frz μ b [] []
  | lo {d : D} {ds es : List D} : D.lo b d = true → Frz μ b ds es → Frz μ b (d :: ds) (d :: es)
  | tup {xs ys ds es : List D} : Frz μ b xs ys → Frz μ b ds es → Frz μ b (.tup xs :: ds) (.tup ys :: es)
  | lst {xs ys ds es : List D} : Frz μ b xs ys → Frz μ b ds es → Frz μ b (.lst xs :: ds) (.lst ys :: es)
  | obj {C : Addr} {ns : List Str} {xs ys ds es : List D} : Frz μ b xs ys → Frz μ b ds es → Frz μ b (.obj C ns xs :: ds) (.obj C ns ys :: es)
  | locL {n : Nat} {xs ys ds es : List D} : b ≤ n → μ[n]? = some (.lst xs) → Frz μ b xs ys → Frz μ b ds es → Frz μ b (.loc n :: ds) (.lst ys :: es)
  | locI {n : Nat} {C : Addr} {ns : List Str} {xs ys ds es : List D} : b ≤ n → μ[n]? = some (.ins C ns xs) → Frz μ b xs ys → Frz μ b ds es → Frz μ b (.loc n :: ds) (.obj C ns ys :: es)
theorem Frz.len {μ : List M} {b : Nat} {ds es : List D} (h : Frz μ b ds es) : es.length = ds.length := by
  induction h with
  | nil => rfl
  | _ => simp [*]
theorem Frz.los {μ : List M} {b : Nat} : ∀ {ds : List D}, D.los b ds = true → Frz μ b ds ds
  | [], _ => .nil
  | d :: ds, h => by
    simp only [D.los, Bool.and_eq_true] at h
    exact .lo h.1 (Frz.los h.2)
section
variable {K : PySem.W.Frag} {L : List Addr} {G H : Hp} {μ μ2 ν : List M}
/-- the last things of the store are told, and left behind -/
theorem Ok.freeze (o : Ok K L G H (μ2 ++ ν)) (lo : μ2.all (M.lo μ2.length) = true) {L0 : List Addr} {G0 H0 : Hp} (s : Step L0 G0 H0 L G H) (hl : L0.length = μ2.length) :
    ∃ G', Step L0 G0 H0 (L.take μ2.length) G' H ∧ Same G G' ∧ Ok K (L.take μ2.length) G' H μ2 ∧ ∀ ds es vs, Frz (μ2 ++ ν) μ2.length ds es → Reps K L G ds vs → Reps K (L.take μ2.length) G' es vs := by
  classical
  have hll : L.length = μ2.length + ν.length := by rw [o.len, List.length_append]
  refine ⟨fun a => if a ∈ L.drop μ2.length then H a else G a, ?_⟩
  have sep : ∀ a, a ∈ L.take μ2.length → a ∉ L.drop μ2.length := fun a h1 h2 => by
    have := List.nodup_append.mp ((List.take_append_drop μ2.length L).symm ▸ o.nd)
    exact this.2.2 a h1 a h2 rfl
  have sg : Same G (fun a => if a ∈ L.drop μ2.length then H a else G a) := fun a u e => by
    have : a ∉ L.drop μ2.length := fun z => by
      rw [o.off a (List.mem_of_mem_drop z)] at e
      cases e
    simp only [this, if_false]
    exact e
  have c := o.cut lo
  have st := s.cut (n := μ2.length) (by omega)
  refine ⟨⟨st.pre, st.gs.trans sg, st.hs, st.fr, st.nn, fun a u e => ?_⟩, sg, ⟨fun a u e => ?_, c.len, c.nd, fun a ha => ?_, c.liv, fun n a m e1 e2 => (c.at_ n a m e1 e2).mono (.refl _) sg⟩, ?_⟩
  · by_cases z : a ∈ L.drop μ2.length
    · rcases s.fr a (List.mem_of_mem_drop z) with q | q
      · exfalso
        obtain ⟨j, hj, ej⟩ := List.getElem_of_mem q
        have e1 := s.pre j a (by rw [List.getElem?_eq_getElem hj, ej])
        refine sep a ?_ z
        rw [List.mem_iff_getElem?]
        exact ⟨j, by rw [List.getElem?_take_of_lt (by omega)]; exact e1⟩
      · exact .inr q
    · simp only [z, if_false] at e
      exact st.gf a u e
  · by_cases z : a ∈ L.drop μ2.length
    · simp only [z, if_true] at e
      exact e
    · simp only [z, if_false] at e
      exact c.sub a u e
  · simp only [sep a ha, if_false]
    exact c.off a ha
  · intro ds es vs h
    induction h generalizing vs with
    | nil => intro r; exact r.inv_nil ▸ Reps.nil
    | lo hd _ ih =>
      intro r
      obtain ⟨v, q, rfl, r1, r2⟩ := r.inv_cons
      exact Reps.cons ((r1.cut hd).mono (.refl _) sg) (ih q r2)
    | tup _ _ ih1 ih2 =>
      intro r
      obtain ⟨v, q, rfl, r1, r2⟩ := r.inv_cons
      obtain ⟨a, us, e, hq, r1⟩ := rep_tup.mp r1
      exact Reps.cons (rep_tup.mpr ⟨a, us, e, Same.sqT sg hq, ih1 us r1⟩) (ih2 q r2)
    | lst _ _ ih1 ih2 =>
      intro r
      obtain ⟨v, q, rfl, r1, r2⟩ := r.inv_cons
      obtain ⟨a, us, e, hq, r1⟩ := rep_lst.mp r1
      exact Reps.cons (rep_lst.mpr ⟨a, us, e, sg _ _ hq, ih1 us r1⟩) (ih2 q r2)
    | obj h1 _ ih1 ih2 =>
      intro r
      obtain ⟨v, q, rfl, r1, r2⟩ := r.inv_cons
      obtain ⟨a, dx, us, e, hq, z, r1⟩ := rep_obj.mp r1
      exact Reps.cons (rep_obj.mpr ⟨a, dx, us, e, sg _ _ hq, by rw [h1.len]; exact z, ih1 us r1⟩) (ih2 q r2)
    | locL hn hm _ _ ih1 ih2 =>
      intro r
      obtain ⟨v, q, rfl, r1, r2⟩ := r.inv_cons
      obtain ⟨a, ea, e⟩ := rep_loc.mp r1
      obtain ⟨us, eh, r1⟩ := o.at_ _ a _ ea hm
      have hd : a ∈ L.drop μ2.length := by
        rw [List.mem_iff_getElem?]
        exact ⟨_ - μ2.length, by rw [List.getElem?_drop, Nat.add_sub_cancel' hn]; exact ea⟩
      exact Reps.cons (rep_lst.mpr ⟨a, us, e, by simp only [hd, if_true]; exact eh, ih1 us r1⟩) (ih2 q r2)
    | locI hn hm h1 _ ih1 ih2 =>
      intro r
      obtain ⟨v, q, rfl, r1, r2⟩ := r.inv_cons
      obtain ⟨a, ea, e⟩ := rep_loc.mp r1
      obtain ⟨dx, us, eh, z, r1⟩ := o.at_ _ a _ ea hm
      have hd : a ∈ L.drop μ2.length := by
        rw [List.mem_iff_getElem?]
        exact ⟨_ - μ2.length, by rw [List.getElem?_drop, Nat.add_sub_cancel' hn]; exact ea⟩
      exact Reps.cons (rep_obj.mpr ⟨a, dx, us, e, by simp only [hd, if_true]; exact eh, by rw [h1.len]; exact z, ih1 us r1⟩) (ih2 q r2)
end
/-- what is handed back at a def's end, as the caller sees it (μ: the store at the entry) -/
inductive RetOk (μ : List M) (Q : KV) : D → List M → Prop
  | same {d : D} {μ1 : List M} : Q d μ1 → RetOk μ Q d μ1
  | cut {d d' : D} {μ2 ν : List M} : Lows μ μ2 → Frz (μ2 ++ ν) μ.length [d] [d'] → Q d' μ2 → RetOk μ Q d (μ2 ++ ν)
  | le {d : D} {μ1 μ2 : List M} : Le μ1 μ2 → RetOk μ Q d μ2 → RetOk μ Q d μ1
inductive ExcOk (μ : List M) (Z : KX) (C : Addr) (ns : List Str) : List D → List M → Prop
  | same {ds : List D} {μ1 : List M} : Z C ns ds μ1 → ExcOk μ Z C ns ds μ1
  | cut {ds ds' : List D} {μ2 ν : List M} : Lows μ μ2 → Frz (μ2 ++ ν) μ.length ds ds' → Z C ns ds' μ2 → ExcOk μ Z C ns ds (μ2 ++ ν)
  | le {ds : List D} {μ1 μ2 : List M} : Le μ1 μ2 → ExcOk μ Z C ns ds μ2 → ExcOk μ Z C ns ds μ1
theorem RetOk.new {μ ν : List M} {Q : KV} {d d' : D} (h : Frz (μ ++ ν) μ.length [d] [d']) (q : Q d' μ) : RetOk μ Q d (μ ++ ν) := .cut (.refl _) h q
theorem RetOk.low {μ ν : List M} {Q : KV} {d : D} (h : D.lo μ.length d = true) (q : Q d μ) : RetOk μ Q d (μ ++ ν) := .cut (.refl _) (.lo h .nil) q
theorem ExcOk.low {μ ν : List M} {Z : KX} {C : Addr} {ns : List Str} {ds : List D} (h : D.los μ.length ds = true) (q : Z C ns ds μ) : ExcOk μ Z C ns ds (μ ++ ν) := .cut (.refl _) (Frz.los h) q
section
variable {K : PySem.W.Frag} {L L1 : List Addr} {G H G1 H1 : Hp} {μ μ1 : List M} {Q : KV} {Z : KX} {d : D} {C : Addr} {ns : List Str} {ds : List D} {v : V} {R : VK} {E : XK}
theorem RetOk.go (h : RetOk μ Q d μ1) (ok : Ok K L G H μ) (a : AccV K L G H Q R) (s : Step L G H L1 G1 H1) (o : Ok K L1 G1 H1 μ1) (r : Rep K L1 G1 d v) : R v H1 := by
  induction h with
  | same q => exact a _ _ q v L1 G1 H1 s o r
  | cut l f q =>
    rename_i d' μ2 ν
    obtain ⟨G', s', _, o', rr⟩ := o.freeze (l.all ok) s (by rw [ok.len, l.1])
    obtain ⟨w, e, r'⟩ := (rr [d] [d'] [v] (by rw [l.1]; exact f) (Reps.cons r Reps.nil)).one
    cases e
    exact a _ _ q v _ _ H1 s' o' r'
  | le l _ ih => exact ih (l _ _ _ _ o)
theorem ExcOk.go {dx : Option Addr} (h : ExcOk μ Z C ns ds μ1) (ok : Ok K L G H μ) (a : ∀ C ns ds' μ', Z C ns ds' μ' → ComesX K L G H C ns ds' μ' E) (s : Step L G H L1 G1 H1) (o : Ok K L1 G1 H1 μ1) (x : XdAt K L1 G1 H1 dx ns ds) : E (.ref C) dx H1 := by
  induction h with
  | same q => exact a _ _ _ _ q dx L1 G1 H1 s o x
  | cut l f q =>
    obtain ⟨G', s', sg, o', rr⟩ := o.freeze (l.all ok) s (by rw [ok.len, l.1])
    refine a _ _ _ _ q dx _ _ H1 s' o' ⟨by rw [f.len]; exact x.1, ?_⟩
    rcases x.2 with z | ⟨b, vs, e1, e2, r⟩
    · exact .inl z
    · exact .inr ⟨b, vs, e1, sg _ _ e2, rr _ _ _ (by rw [l.1]; exact f) r⟩
  | le l _ ih => exact ih (l _ _ _ _ o)
end
end PM
set_option Elab.async false
set_option linter.all false
set_option maxRecDepth 100000
namespace PM
open PySem PySem.Spec L2 PyProof.Rows
section
variable {P : Program} {w : World} {K : PySem.W.Frag} {mg : Str → Option Value} {base : Heap}
/-- THE RULE for a def -/
theorem spF_of {x qual : Str} {st : Stmt} {dvs : List V} {f : Addr} {fd : FuncData} {N ps : List Str} {k : Nat} {ds : List D} {μ : List M} {Q : KV} {Z : KX} (F : FunS K x qual st dvs f fd) (S : FnScope N ps (defScope st)) (hl : ds.length = ps.length)
    (body : ∀ (cdv : Value) (A : Around) (outer : List Env) (s : Shared) (H : Hp) (E : XK), Gd (cxOf (L2.CX P w) P w K mg base N qual (defScope st) f cdv A outer s H E) (fun c d _ H => E c d H) k →
      wSs (cxOf (L2.CX P w) P w K mg base N qual (defScope st) f cdv A outer s H E) (fun c d _ H => E c d H) (startD N ds) μ (defBody st) (fun _ μ1 => RetOk μ Q .non μ1) { rt := RetOk μ Q, xc := fun C ns ds' _ μ1 => ExcOk μ Z C ns ds' μ1 }) :
    SpF P w K mg base ⟨f, fd, ps, k + 1⟩ ds μ Q Z := by
  have ln : ∀ vs H R E, spH K ds μ Q Z vs H R E → vs.length = ps.length := fun vs H R E ⟨L, G, _, r, _⟩ => r.length.trans hl
  refine ⟨ln, fun A outer s H args us vs R E room gr en bnd rel hsp => ?_⟩
  obtain ⟨oc, od, dV, kV, doc, pm, an, cdv, ct, osl, rfl, look, hcode, _, _⟩ := F.ex
  have kept : ∀ b o, base.get? b = some o → s.heap.get? b = some o := fun b o e => (en.bs b o e).1
  have kin : K.In s.heap := en.mod.kin.keeps kept
  have kinds : ∀ y ∈ ps.zip us, (defScope st).names.lookup y.1 = some .local ∨ ((defScope st).names.lookup y.1 = some .cell ∧ ((cellsFrom (s.heap.objs.size + 1) (defScope st).names []).lookup y.1).isSome = true) := by
    rintro ⟨n, v⟩ hy
    exact (S.par n (List.of_mem_zip hy).1).imp (fun q => q) fun q => ⟨q, PySem.W.cellsFrom_some _ _ _ (.inl q)⟩
  refine codeAny_call_function room.depth (kin _ _ look) rfl S.co S.gen rfl (PySem.W.codeRec_of kin hcode) (bnd _ _ _ _ (wpAny_newFunctionEnv_cells S.kind kinds fun env he s1 ent => ?_))
  subst he
  refine ⟨(en.mod.nolimit.keeps kept).keeps ent.toInCall.keep, codeAny_func ?_⟩
  have hlen := ln _ _ _ _ hsp
  obtain ⟨L, G, ok, rr, av, ax⟩ := hsp
  have ht := body cdv A outer s H E ⟨rfl, S.nd, takes_of rfl rfl rfl rfl, passes_of rfl, room.deeper _, gr⟩
  have inv : Inv (cxOf (L2.CX P w) P w K mg base N qual (defScope st) f cdv A outer s H E) [] (L2.start N vs) H s1 := inv_start S room.hd en hlen rel ent
  refine wpAny_mono (ht.run.run [] s1 (L2.start N vs) H { nx := fun _ H' => R .non H', rt := R } inv ⟨L, G, ⟨ok, start_rep rr⟩, ?_⟩) (fun fl s' hs => ?_) fun e s' hs => hs
  · exact ⟨fun ρ1 μ1 q σ' L' G' H' s' n' => q.go ok av s' n'.ok (rep_non.mpr rfl), fun _ _ z => z.elim, fun _ _ z => z.elim, fun d μ1 q v L' G' H' s' o' r' => q.go ok av s' o' r', fun C ns ds' ρ1 μ1 q σ' dx L' G' H' s' n' x' => q.go ok ax s' n'.ok x'⟩
  match fl, hs with
  | .ret u, ⟨v, σ', H', J, rv, q⟩ => exact ⟨v, H', J.os, J.bare, J.base, J.hok, rv, q⟩
  | .next, ⟨σ', H', J, q⟩ => exact ⟨.non, H', J.os, J.bare, J.base, J.hok, rfl, q⟩
  | .brk, ⟨_, _, _, q⟩ => exact q.elim
  | .cont, ⟨_, _, _, q⟩ => exact q.elim
end
section
variable {X : Cx} {W : WX} {k : Nat} {ρ : Env'} {μ μ1 μ2 : List M} {e a b ob : Expr} {es : List Expr} {Q Q' : KV} {Z : KX} {d da db : D} {ds ds' : List D} {p pos apos : Pos} {x m : Str} {f : Fnx} {C : Addr} {pl : Sem Bool} {i : Int}
/-- a def's call, by values -/
theorem SpF.call (h : SpX X f ds μ Q Z) (bd : Binds X.K f.fd f.ps []) (g : Gd X W k) (hj : f.lv ≤ k) : wF X W (fun us => call (.ref f.a) us) ds μ Q Z := by
  refine ⟨fun pins s σ H xs us R L G I rx ok r av ax => ?_⟩
  ·
    have hsp : spH X.K ds μ Q Z xs H R (WE W σ) := ⟨L, G, ok, r, av, ax⟩
    have hl : us.length = f.ps.length := by rw [← rx.length]; exact h.len _ _ _ _ hsp
    have b := bd s us I.kIn (by rw [List.append_nil]; exact hl)
    rw [List.append_nil] at b
    exact run_fnG (E := WE W σ) h (g.hr.mono hj) g.gr b (passAt g.tk σ) I rx hsp
/-- arguments, then a call -/
theorem wA.call {fn : List Value → Sem Value} (h : wA X W ρ μ es (fun ds μ1 => wF X W fn ds μ1 Q Z) Z) {pins : List (Addr × Obj)} {s : Shared} {σ : L2.St} {H : Hp} {L : List Addr} {G : Hp} {R : VK} (I : Inv X pins σ H s) (n : Now X.K L G H μ ρ σ) (v : AccV X.K L G H Q R) (z : AccX W X.K L G H σ Z) (pos : Pos) :
    wpAny (model X.prog X.w) X.A (spliced (backTo pos (starEach es X.env))) (fun us s1 => X.K.In s1.heap ∧ wpAny (model X.prog X.w) X.A (fn us) (EP X pins σ R) X.xe s1) X.xe s :=
  thn (h.go I n z pos) fun us s1 ⟨vs, ds, μ1, L1, G1, H1, I1, rv, q, st, o, r⟩ => ⟨I1.kIn, q.run pins s1 σ H1 vs us R L1 G1 I1 rv o r (v.step st) (z.step st)⟩
theorem wE_call (f : Fnx) (g : Gd X W k) (hm : X.mg x = some (.ref f.a)) (hk : PySem.W.keepIn X.K (.ref f.a) = true) (bd : Binds X.K f.fd f.ps []) (h : wA X W ρ μ (e :: es) (fun ds μ1 => SpX X f ds μ1 Q Z) Z) (hj : f.lv ≤ k := by exact Nat.le_of_ble_eq_true rfl) (hg : Gl X x := by rfl)
    (hdb : (x == ("__debug__" : Str)) = false := by decide) (he : starEach (e :: es) X.env = (false, eval e X.env) :: starEach es X.env := by rfl) (hpl : (backTo pos (starEach es X.env)).any (·.1) = false := by rfl) :
    wE X W ρ μ (.Call (.Name x p) (e :: es) [] pos) Q Z :=
  .by fun pins s σ H R L G I n v z => wpAny_Call_Name_kw (ld_glob I hg hm (PySem.W.callWith_K (h₀ := X.base) I.ok.mod.kin hk (wA.call (fn := fun us => call (.ref f.a) us) ⟨pa_of h.run fun σ H R ⟨L, G, n, v, x⟩ => ⟨L, G, n, fun ds μ' q => v ds μ' (q.call bd g hj), x⟩⟩ I n v z pos) he hpl) hdb)
theorem wE_call0 (f : Fnx) (g : Gd X W k) (hm : X.mg x = some (.ref f.a)) (hk : PySem.W.keepIn X.K (.ref f.a) = true) (bd : Binds X.K f.fd f.ps []) (h : SpX X f [] μ Q Z) (hj : f.lv ≤ k := by exact Nat.le_of_ble_eq_true rfl) (hg : Gl X x := by rfl)
    (hdb : (x == ("__debug__" : Str)) = false := by decide) : wE X W ρ μ (.Call (.Name x p) [] [] pos) Q Z :=
  .by fun pins s σ H R L G I n v z => wpAny_Call_Name_kw (ld_glob I hg hm (PySem.W.callWith_K0 I.kIn hk ((h.call bd g hj).run pins s σ H [] [] R L G I .nil n.ok Reps.nil v z)) hdb)
/-- o.m(e, ..) -/
theorem wE_meth (f : Fnx) (g : Gd X W k) (cl : Cls X.K C) (hm : Meth X.K C m f.a) (bd : Binds X.K f.fd f.ps []) (h : wE X W ρ μ ob (fun d μ1 => Recv C m μ1 d ∧ wA X W ρ μ1 (e :: es) (fun ds μ2 => SpX X f (d :: ds) μ2 Q Z) Z) Z) (hj : f.lv ≤ k := by exact Nat.le_of_ble_eq_true rfl)
    (hst : starEach (e :: es) X.env = (false, eval e X.env) :: starEach es X.env := by rfl) (hpl : (backTo pos (starEach es X.env)).any (·.1) = false := by rfl)
    (ht : eval (.Call (.Attribute ob m apos) (e :: es) [] pos) X.env = (do
      let ov ← eval ob X.env
      standAt apos.atName
      let (f, first) ← holding [ov] (getMethod ov m pl)
      callWith pos f first (backTo pos (starEach (e :: es) X.env)) (backToKw pos (keywordEach [] X.env))) := by rfl) :
    wE X W ρ μ (.Call (.Attribute ob m apos) (e :: es) [] pos) Q Z := by
  refine .by fun pins s σ H R L G I n v z => ?_
  refine PySem.W.methodCall_KW (pl := pl) (thn (h.go I n z) fun u s1 ⟨y, d, μ1, L1, G1, H1, I1, ry, ⟨hr, ha⟩, st1, o1, r1⟩ => ?_) ht
  obtain ⟨a, dx, fs, ex, ea, l⟩ := hr.at_ o1 r1
  subst ex
  obtain rfl : u = Value.ref a := ry
  refine getmeth_ok I1 ea cl hm l ?_
  refine PySem.W.callWith_K (first := [.ref a]) (h₀ := X.base) I.ok.mod.kin hm.kp (thn (ha.go I1 (n.step st1 o1) (z.step st1) pos) fun us s2 ⟨vs, ds, μ2, L2, G2, H2, I2, rv, q, st2, o2, r2⟩ => ⟨I2.kIn, ?_⟩) hst hpl
  exact (q.call bd g hj).run pins s2 σ H2 (.ref a :: vs) (.ref a :: us) R L2 G2 I2 (.cons rfl rv) o2 (Reps.cons (r1.step st2) r2) (v.step (st1.trans st2)) (z.step (st1.trans st2))
theorem wE_meth0 (f : Fnx) (g : Gd X W k) (cl : Cls X.K C) (hm : Meth X.K C m f.a) (bd : Binds X.K f.fd f.ps []) (h : wE X W ρ μ ob (fun d μ1 => Recv C m μ1 d ∧ SpX X f [d] μ1 Q Z) Z) (hj : f.lv ≤ k := by exact Nat.le_of_ble_eq_true rfl)
    (ht : eval (.Call (.Attribute ob m apos) [] [] pos) X.env = (do
      let ov ← eval ob X.env
      standAt apos.atName
      let (f, first) ← holding [ov] (getMethod ov m pl)
      callWith pos f first (backTo pos (starEach [] X.env)) (backToKw pos (keywordEach [] X.env))) := by rfl) :
    wE X W ρ μ (.Call (.Attribute ob m apos) [] [] pos) Q Z := by
  refine .by fun pins s σ H R L G I n v z => ?_
  refine PySem.W.methodCall_KW (pl := pl) (thn (h.go I n z) fun u s1 ⟨y, d, μ1, L1, G1, H1, I1, ry, ⟨hr, ha⟩, st1, o1, r1⟩ => ?_) ht
  obtain ⟨a, dx, fs, ex, ea, l⟩ := hr.at_ o1 r1
  subst ex
  obtain rfl : u = Value.ref a := ry
  refine getmeth_ok I1 ea cl hm l ?_
  exact PySem.W.callWith_K0 (first := [.ref a]) I1.kIn hm.kp ((ha.call bd g hj).run pins _ σ H1 [.ref a] [.ref a] R L1 G1 I1 (.cons rfl .nil) o1 (Reps.cons r1 Reps.nil) (v.step st1) (z.step st1))
/-- o.f, a field -/
theorem wE_fld (h : wE X W ρ μ ob (fun d μ1 => ∃ ns fs, (d = .obj C ns fs ∨ ∃ i : Nat, d = .loc i ∧ μ1[i]? = some (.ins C ns fs)) ∧ ∃ d', fldOf ns fs m = some d' ∧ Q d' μ1) Z) (c : Cls X.K C) (na : NoAttr X.K C m) (hb : attributeBase ob m X.env (eval ob X.env) = eval ob X.env := by rfl) : wE X W ρ μ (.Attribute ob m pos) Q Z :=
  ⟨pe_of (pe_fld h.run hb) fun σ H R ⟨L, G, nw, av, ax⟩ => ⟨L, G, nw, fun d μ1 ⟨ns, fs, hd, d', hf, q⟩ v L1 G1 H1 s1 o1 r1 => by
    rcases hd with rfl | ⟨i, rfl, hi⟩
    · obtain ⟨a, dx, vs, ev, eg, _, rr⟩ := rep_obj.mp r1
      obtain ⟨u, l, ru⟩ := fld_rep rr hf
      exact ⟨a, C, dx, _, u, ev, o1.sub _ _ eg, c, na, l, av _ _ q u L1 G1 H1 s1 o1 ru⟩
    · obtain ⟨a, ea, ev⟩ := rep_loc.mp r1
      obtain ⟨dx, vs, eh, _, rr⟩ := o1.at_ i a _ ea hi
      obtain ⟨u, l, ru⟩ := fld_rep rr hf
      exact ⟨a, C, dx, _, u, ev, eh, c, na, l, av _ _ q u L1 G1 H1 s1 o1 ru⟩, ax⟩⟩
/-- a module's name: a constant, a class -/
theorem wE_glob {u : Value} {v : V} (hm : X.mg x = some u) (r : RelV v u) (rd : ∀ L G, Rep X.K L G d v) (h : Q d μ) (hg : Gl X x := by rfl) (hd : (x == ("__debug__" : Str)) = false := by decide) : wE X W ρ μ (.Name x pos) Q Z := .ofV (ev_glob hg hm r rd hd) h
theorem wE_bty {T : String} (hm : X.mg x = none) (hv : bootBuiltins x = some (.type T)) (h : Q (.ty T) μ) (hg : Gl X x := by rfl) (hn : x ≠ "__name__" := by decide) (hd : (x == ("__debug__" : Str)) = false := by decide) : wE X W ρ μ (.Name x pos) Q Z := .ofV (ev_bty hg hm hv hn hd) h
/-- built-ins -/
theorem wE_blt {id : String} (hm : X.mg x = none) (hv : bootBuiltins x = some (.builtin id)) (h : wA X W ρ μ (e :: es) (fun ds μ1 => wF X W (fun us => call (.builtin id) us) ds μ1 Q Z) Z) (hg : Gl X x := by rfl) (hn : x ≠ "__name__" := by decide) (hdb : (x == ("__debug__" : Str)) = false := by decide)
    (he : starEach (e :: es) X.env = (false, eval e X.env) :: starEach es X.env := by rfl) (hpl : (backTo pos (starEach es X.env)).any (·.1) = false := by rfl) : wE X W ρ μ (.Call (.Name x p) (e :: es) [] pos) Q Z := by
  refine .by fun pins s σ H R L G I n v z => ?_
  refine PyProof.Rows.Call_ (ld_blt I hg hm hv ?_ hn hdb)
  refine PyProof.Rows.callWith_builtin1 (thn (h.go I n z pos) fun us s1 ⟨vs, ds, μ1, L1, G1, H1, I1, rv, q, st, o, r⟩ => ?_) he hpl
  exact q.run pins s1 σ H1 vs us R L1 G1 I1 rv o r (v.step st) (z.step st)
theorem wE_bcl {T : String} (hm : X.mg x = none) (hv : bootBuiltins x = some (.type T)) (h : wA X W ρ μ (e :: es) (fun ds μ1 => wF X W (fun us => call (.type T) us) ds μ1 Q Z) Z) (hg : Gl X x := by rfl) (hn : x ≠ "__name__" := by decide) (hdb : (x == ("__debug__" : Str)) = false := by decide)
    (he : starEach (e :: es) X.env = (false, eval e X.env) :: starEach es X.env := by rfl) (hpl : (backTo pos (starEach es X.env)).any (·.1) = false := by rfl) : wE X W ρ μ (.Call (.Name x p) (e :: es) [] pos) Q Z := by
  refine .by fun pins s σ H R L G I n v z => ?_
  refine PyProof.Rows.Call_ (ld_blt I hg hm hv ?_ hn hdb)
  refine PyProof.Rows.callWith_type1 (thn (h.go I n z pos) fun us s1 ⟨vs, ds, μ1, L1, G1, H1, I1, rv, q, st, o, r⟩ => ?_) he hpl
  exact q.run pins s1 σ H1 vs us R L1 G1 I1 rv o r (v.step st) (z.step st)
/-- a list that nobody will change -/
theorem wE_lst (h : wA X W ρ μ es (fun ds μ1 => ds.length ≤ sizeLine ∧ Q (.lst ds) μ1) Z) : wE X W ρ μ (.List es pos) Q Z :=
  ⟨pe_of (pe_lst h.run) fun σ H R ⟨L, G, n, v, x⟩ => ⟨L, G, n, fun ds μ1 ⟨hl, q⟩ vs L1 G1 H1 s1 o1 r1 => ⟨by rw [r1.length]; exact hl, fun p hp => by
    obtain ⟨o', s'⟩ := o1.new (o := .lst vs) hp
    exact v _ _ q _ L1 _ _ (s1.trans s') o' (rep_lst.mpr ⟨p, vs, rfl, upd_same, r1.step s'⟩)⟩, x⟩⟩
/-- a list of the store -/
theorem wE_lstL (h : wA X W ρ μ es (fun ds μ1 => ds.length ≤ sizeLine ∧ Q (.loc μ1.length) (μ1 ++ [.lst ds])) Z) : wE X W ρ μ (.List es pos) Q Z :=
  ⟨pe_of (pe_lst h.run) fun σ H R ⟨L, G, n, v, x⟩ => ⟨L, G, n, fun ds μ1 ⟨hl, q⟩ vs L1 G1 H1 s1 o1 r1 => ⟨by rw [r1.length]; exact hl, fun p hp => by
    obtain ⟨o', s'⟩ := o1.alloc (o := .lst vs) (m := .lst ds) hp ⟨vs, upd_same, r1.mono .app (.refl _)⟩
    exact v _ _ q _ _ _ _ (s1.trans s') o' (rep_loc.mpr ⟨p, by rw [← o1.len]; exact last_get L1 p, rfl⟩)⟩, x⟩⟩

/-! ### subscripts -/
structure wX (X : Cx) (W : WX) (da db : D) (μ : List M) (Q : KV) (Z : KX) : Prop where
  run : ∀ (value slice : Expr) (pins : List (Addr × Obj)) (s : Shared) (σ : L2.St) (H : Hp) (x y : V) (v u : Value) (R : VK) (L : List Addr) (G : Hp), Inv X pins σ H s → RelV x v → RelV y u → Ok X.K L G H μ → Rep X.K L G da x → Rep X.K L G db y → AccV X.K L G H Q R → AccX W X.K L G H σ Z →
    subscripted slice false v u = operate [v, u] (getItem v u) → wpAny (model X.prog X.w) X.A (subscriptTail value slice v u) (EP X pins σ R) X.xe s
theorem wE_sub (h : wE X W ρ μ a (fun da μ1 => wE X W ρ μ1 b (fun db μ2 => wX X W da db μ2 Q Z) Z) Z) (hs : PlainIx b := by exact fun _ _ => rfl) : wE X W ρ μ (.Subscript a b pos) Q Z :=
  .by fun pins s σ H R L G I n v z => PyProof.Rows.Subscript_ (thn (h.go I n z) fun u s1 ⟨y, da, μ1, L1, G1, H1, I1, ry, hb, st1, o1, r1⟩ => thn (hb.go I1 (n.step st1 o1) (z.step st1)) fun u2 s2 ⟨y2, db, μ2, L2, G2, H2, I2, ry2, ho, st2, o2, r2⟩ =>
    ho.run a b pins s2 σ H2 y y2 u u2 R L2 G2 I2 ry ry2 o2 (r1.step st2) r2 (v.step (st1.trans st2)) (z.step (st1.trans st2)) (hs _ _))
theorem wX_at (hd : Ixd μ da ds) (h : atI ds i = some d) (q : Q d μ) : wX X W da (.int i) μ Q Z := by
  refine ⟨fun value slice pins s σ H x y v u R L G I rx ry ok r1 r2 av ax hs => ?_⟩
  have e2 := rep_int.mp r2
  rcases hd with rfl | rfl | rfl | ⟨k, rfl, hk⟩
  · obtain ⟨p, vs, e, hq, rr⟩ := rep_tup.mp r1
    obtain ⟨z, ez, rz⟩ := atI_rep rr h
    exact ix_tup value slice pins s σ H x y v u R I rx ry ⟨p, vs, i, z, e, e2, Same.sqT ok.sub hq, ez, av _ _ q z L G H (.refl _ _ _) ok rz⟩ hs
  · obtain ⟨p, vs, e, hq, rr⟩ := rep_lst.mp r1
    obtain ⟨z, ez, rz⟩ := atI_rep rr h
    exact ix_list value slice pins s σ H x y v u R I rx ry ⟨p, vs, i, z, e, e2, SqL.of (ok.sub _ _ hq), ez, av _ _ q z L G H (.refl _ _ _) ok rz⟩ hs
  · obtain ⟨p, vs, e, hq, rr⟩ := rep_scr.mp r1
    obtain ⟨z, ez, rz⟩ := atI_rep rr h
    exact ix_list value slice pins s σ H x y v u R I rx ry ⟨p, vs, i, z, e, e2, Same.sqL ok.sub hq, ez, av _ _ q z L G H (.refl _ _ _) ok rz⟩ hs
  · obtain ⟨p, ea, e⟩ := rep_loc.mp r1
    obtain ⟨vs, eh, rr⟩ := ok.at_ k p _ ea hk
    obtain ⟨z, ez, rz⟩ := atI_rep rr h
    exact ix_list value slice pins s σ H x y v u R I rx ry ⟨p, vs, i, z, e, e2, SqL.of eh, ez, av _ _ q z L G H (.refl _ _ _) ok rz⟩ hs
theorem atI_ofNat {α : Type} {l : List α} {n : Nat} {y : α} (h : l[n]? = some y) : atI l (n : Int) = some y := by
  unfold atI ixN
  have := (List.getElem?_eq_some_iff.mp h).1
  rw [if_pos (by omega), if_pos (by omega)]
  simpa using h
/-- some place of a sequence -/
theorem wX_some (hd : Ixd μ da ds) (h0 : 0 ≤ i) (h1 : i < ds.length) (q : ∀ (n : Nat) d, ds[n]? = some d → i = n → Q d μ) : wX X W da (.int i) μ Q Z := by
  have hn : i.toNat < ds.length := by omega
  have e : i = (i.toNat : Int) := by omega
  rw [e]
  exact wX_at hd (atI_ofNat (List.getElem?_eq_getElem hn)) (q _ _ (List.getElem?_eq_getElem hn) e)
inductive Ints : List D → List Int → Prop
  | nil : Ints [] []
  | cons {i : Int} {ds : List D} {is : List Int} : Ints ds is → Ints (.int i :: ds) (i :: is)
theorem Ints.get {ds : List D} {is : List Int} (h : Ints ds is) : ∀ (n : Nat) d, ds[n]? = some d → ∃ i, d = .int i ∧ is[n]? = some i := by
  induction h with
  | nil => intro n d e; simp at e
  | cons h ih =>
    intro n d e
    cases n with
    | zero => simp only [List.getElem?_cons_zero, Option.some.injEq] at e; exact ⟨_, e.symm, rfl⟩
    | succ n => simp only [List.getElem?_cons_succ] at e ⊢; exact ih n d e
theorem Ints.len {ds : List D} {is : List Int} (h : Ints ds is) : ds.length = is.length := by
  induction h with
  | nil => rfl
  | cons _ ih => simp [ih]
/-- one of some ints -/
theorem wX_ints {is : List Int} (hd : Ixd μ da ds) (hi : Ints ds is) (h0 : 0 ≤ i) (h1 : i < is.length) (q : ∀ v, v ∈ is → Q (.int v) μ) : wX X W da (.int i) μ Q Z :=
  wX_some hd h0 (by rw [hi.len]; exact h1) fun n d e _ => by
    obtain ⟨v, rfl, e2⟩ := hi.get n d e
    exact q v (List.mem_of_getElem? e2)
end
end PM
set_option Elab.async false
set_option linter.all false
set_option maxRecDepth 100000
namespace PM
open PySem L2
section
variable {X : Cx} {W : WX} {k : Nat} {ρ : Env'} {μ μ1 ν : List M} {Q : KV} {Z : KX} {QT : KT} {i j : Int} {x y : Str} {a b : Bool} {d : D} {ds : List D} {n : Nat}
/-! leaves: ints -/
theorem wB_add (h : Q (.int (i + j)) μ) : wB X W (binaryOp .Add) (.int i) (.int j) μ Q Z := .ofV oo_add h
theorem wB_sub (h : Q (.int (i - j)) μ) : wB X W (binaryOp .Sub) (.int i) (.int j) μ Q Z := .ofV oo_sub h
theorem wB_mul (c : CMulW i j) (h : Q (.int (i * j)) μ) : wB X W (binaryOp .Mult) (.int i) (.int j) μ Q Z := .ofV (oo_mul c) h
theorem wB_mulR (c : -(2 ^ 64) < j ∧ j < 2 ^ 64) (h : Q (.int (i * j)) μ) : wB X W (binaryOp .Mult) (.int i) (.int j) μ Q Z := .ofV (oo_mulS (.inr c)) h
theorem wB_mulL (c : -(2 ^ 64) < i ∧ i < 2 ^ 64) (h : Q (.int (i * j)) μ) : wB X W (binaryOp .Mult) (.int i) (.int j) μ Q Z := .ofV (oo_mulS (.inl c)) h
theorem wB_fdiv (c : CDivW i j) (h : Q (.int (i / j)) μ) : wB X W (binaryOp .FloorDiv) (.int i) (.int j) μ Q Z := .ofV (oo_fdiv c) h
theorem wB_fdivS (c : 0 < j ∧ j < 1073741824) (h : Q (.int (i / j)) μ) : wB X W (binaryOp .FloorDiv) (.int i) (.int j) μ Q Z := .ofV (oo_fdivS c) h
theorem wB_mod (c : 0 < j) (h : Q (.int (i % j)) μ) : wB X W (binaryOp .Mod) (.int i) (.int j) μ Q Z := .ofV (oo_mod c) h
theorem wB_pow (c : CPow i j) (h : Q (.int (i ^ j.toNat)) μ) : wB X W (binaryOp .Pow) (.int i) (.int j) μ Q Z := .ofV (oo_pow c) h
theorem wB_pow5 (h : Q (.int 100000) μ) : wB X W (binaryOp .Pow) (.int 10) (.int 5) μ Q Z := wB_pow ⟨by decide, by decide, by decide⟩ h
theorem wB_pow6 (h : Q (.int 1000000) μ) : wB X W (binaryOp .Pow) (.int 10) (.int 6) μ Q Z := wB_pow ⟨by decide, by decide, by decide⟩ h
theorem wB_pow7 (h : Q (.int 10000000) μ) : wB X W (binaryOp .Pow) (.int 10) (.int 7) μ Q Z := wB_pow ⟨by decide, by decide, by decide⟩ h
theorem wB_pow8 (h : Q (.int 100000000) μ) : wB X W (binaryOp .Pow) (.int 10) (.int 8) μ Q Z := wB_pow ⟨by decide, by decide, by decide⟩ h
theorem wB_pow9 (h : Q (.int 1000000000) μ) : wB X W (binaryOp .Pow) (.int 10) (.int 9) μ Q Z := wB_pow ⟨by decide, by decide, by decide⟩ h
theorem wB_pow18 (h : Q (.int 1000000000000000000) μ) : wB X W (binaryOp .Pow) (.int 10) (.int 18) μ Q Z := wB_pow ⟨by decide, by decide, by decide⟩ h
theorem wB_lt (h : Q (.bl (decide (i < j))) μ) : wB X W (compareOp .Lt) (.int i) (.int j) μ Q Z := .ofV oc_lt h
theorem wB_le (h : Q (.bl (decide (i ≤ j))) μ) : wB X W (compareOp .LtE) (.int i) (.int j) μ Q Z := .ofV oc_le h
theorem wB_gt (h : Q (.bl (decide (j < i))) μ) : wB X W (compareOp .Gt) (.int i) (.int j) μ Q Z := .ofV oc_gt h
theorem wB_ge (h : Q (.bl (decide (j ≤ i))) μ) : wB X W (compareOp .GtE) (.int i) (.int j) μ Q Z := .ofV oc_ge h
theorem wB_eq (h : Q (.bl (decide (i = j))) μ) : wB X W (compareOp .Eq) (.int i) (.int j) μ Q Z := .ofV oc_eq h
theorem wB_ne (h : Q (.bl (!decide (i = j))) μ) : wB X W (compareOp .NotEq) (.int i) (.int j) μ Q Z := .ofV oc_ne h
theorem wB_eqT (h : Q (.bl (decide (x = y))) μ) : wB X W (compareOp .Eq) (.str x) (.str y) μ Q Z := .ofV oc_eqT h
theorem wB_neT (h : Q (.bl (!decide (x = y))) μ) : wB X W (compareOp .NotEq) (.str x) (.str y) μ Q Z := .ofV oc_neT h
theorem wB_eqB (h : Q (.bl (decide (a = b))) μ) : wB X W (compareOp .Eq) (.bl a) (.bl b) μ Q Z := .ofV oc_eqB h
theorem wB_neB (h : Q (.bl (!decide (a = b))) μ) : wB X W (compareOp .NotEq) (.bl a) (.bl b) μ Q Z := .ofV oc_neB h
theorem wB_is (h : Q (.bl d.isN) μ) : wB X W (compareOp .Is) d .non μ Q Z := .ofV oc_is h
theorem wB_isNot (h : Q (.bl (!d.isN)) μ) : wB X W (compareOp .IsNot) d .non μ Q Z := .ofV oc_isNot h
theorem wB_cat (c : x.length + y.length ≤ sizeLine) (h : Q (.str (x ++ y)) μ) : wB X W (binaryOp .Add) (.str x) (.str y) μ Q Z := .ofV (oo_cat c) h
theorem wB_catL {es : List D} (c : ds.length + es.length ≤ sizeLine) (h : Q (.lst (ds ++ es)) μ) : wB X W (binaryOp .Add) (.lst ds) (.lst es) μ Q Z := .ofV (oo_catL c) h
theorem wU_neg (h : Q (.int (-i)) μ) : wU X W (unaryOp .USub) (.int i) μ Q Z := .ofV ou_neg h
/-! leaves: built-ins -/
theorem wF_abs (h : Q (.int (i.natAbs : Nat)) μ) : wF X W (fun us => call (.builtin "abs") us) [.int i] μ Q Z := .ofV cb_abs (by
  rw [show (if i < 0 then -i else i) = ((i.natAbs : Nat) : Int) by split <;> omega]; exact h)
theorem wF_max (g : Gd X W k) (h : Q (.int (max i j)) μ) : wF X W (fun us => call (.builtin "max") us) [.int i, .int j] μ Q Z := .ofV (cb_max g.calm) (by
  rw [show (if j > i then j else i) = max i j by split <;> omega]; exact h)
theorem wF_min (g : Gd X W k) (h : Q (.int (min i j)) μ) : wF X W (fun us => call (.builtin "min") us) [.int i, .int j] μ Q Z := .ofV (cb_min g.calm) (by
  rw [show (if j < i then j else i) = min i j by split <;> omega]; exact h)
theorem wF_intB (h : Q (.int (if b = true then 1 else 0)) μ) : wF X W (fun us => call (.type "int") us) [.bl b] μ Q Z := .ofV ct_intB h
theorem wF_boolB (h : Q (.bl b) μ) : wF X W (fun us => call (.type "bool") us) [.bl b] μ Q Z := .ofV ct_boolB h
theorem wF_strI (c : i.natAbs.log2 < 1920) (h : Q (.str (toString i)) μ) : wF X W (fun us => call (.type "str") us) [.int i] μ Q Z := .ofV (ct_strI c) h
theorem wF_len (c : Ixd μ d ds) (h : Q (.int ds.length) μ) : wF X W (fun us => call (.builtin "len") us) [d] μ Q Z := by
  rcases c with rfl | rfl | rfl | ⟨n, rfl, e⟩
  · exact .ofV (cb_len _ (.inl rfl)) h
  · exact .ofV (cb_len _ (.inr (.inl rfl))) h
  · exact .ofV (cb_len _ (.inr (.inr rfl))) h
  · exact .ofV (cb_lenL e) h
theorem wF_lenS (c : y.length ≤ sizeLine) (h : Q (.int y.length) μ) : wF X W (fun us => call (.builtin "len") us) [.str y] μ Q Z := .ofV (cb_lenS c) h
theorem wF_tup (c : d = .lst ds ∨ d = .tup ds ∨ ∃ n : Nat, d = .loc n ∧ μ[n]? = some (.lst ds)) (h : Q (.tup ds) μ) : wF X W (fun us => call (.type "tuple") us) [d] μ Q Z := by
  rcases c with rfl | rfl | ⟨n, rfl, e⟩
  · exact .ofV ct_tup h
  · exact .ofV ct_tupT h
  · exact .ofV (ct_tupL e) h
theorem wF_all {bs : List Bool} (g : Gd X W k) (h : Q (.bl (bs.all id)) μ) : wF X W (fun us => call (.builtin "all") us) [.lst (bs.map D.bl)] μ Q Z := .ofV (cb_all g.calm) h
theorem wF_any {bs : List Bool} (g : Gd X W k) (h : Q (.bl (bs.any id)) μ) : wF X W (fun us => call (.builtin "any") us) [.lst (bs.map D.bl)] μ Q Z := .ofV (cb_any g.calm) h
theorem wF_isi {c : D} {t u : Value} (y : TyD X.K d t) (kk : ClD c u) (hk : PySem.W.kitOne X.K t u = some b) (h : Q (.bl b) μ) : wF X W (fun us => call (.builtin "isinstance") us) [d, c] μ Q Z := .ofV (cb_isi y kk hk) h
/-! branches -/
theorem br_dec {p : Prop} [Decidable p] {A B : Prop} (h1 : p → A) (h2 : ¬p → B) : if decide p = true then A else B := by
  by_cases h : p
  · rw [if_pos (decide_eq_true h)]; exact h1 h
  · rw [if_neg (by simpa using h)]; exact h2 h
theorem br_ndec {p : Prop} [Decidable p] {A B : Prop} (h1 : ¬p → A) (h2 : p → B) : if (!decide p) = true then A else B := by
  by_cases h : p
  · rw [if_neg (by simpa using h)]; exact h2 h
  · rw [if_pos (by simpa using h)]; exact h1 h
theorem br_T {k : Bool} {A B : Prop} (hk : k = true) (h : A) : if k = true then A else B := by rw [if_pos hk]; exact h
theorem br_F {k : Bool} {A B : Prop} (hk : k = false) (h : B) : if k = true then A else B := by rw [if_neg (by simp [hk])]; exact h
theorem br_bool {k : Bool} {A B : Prop} (h1 : k = true → A) (h2 : k = false → B) : if k = true then A else B := by
  cases k with
  | true => exact h1 rfl
  | false => exact h2 rfl
/-! the store -/
theorem at_left {m : M} (h : μ[n]? = some m) : (μ ++ ν)[n]? = some m := by
  rw [List.getElem?_append_left (List.getElem?_eq_some_iff.mp h).1]; exact h
theorem at_new {m : M} {q : Nat} (h : ν[q]? = some m) : (μ ++ ν)[μ.length + q]? = some m := by
  rw [List.getElem?_append_right (by omega), Nat.add_sub_cancel_left]; exact h
theorem at_last {m : M} : (μ ++ [m])[μ.length]? = some m := by simp
theorem set_new {m : M} {q : Nat} : (μ ++ ν).set (μ.length + q) m = μ ++ ν.set q m := by
  rw [List.set_append_right _ _ (by omega), Nat.add_sub_cancel_left]
theorem set_last {m m' : M} : (μ ++ [m]).set μ.length m' = μ ++ [m'] := by
  rw [List.set_append_right _ _ (Nat.le_refl _), Nat.sub_self]; rfl
/-! lists of the store -/
variable {e o : Expr} {es : List Expr} {p pos apos : Pos}
theorem wE_append (h : wE X W ρ μ o (fun d0 μ1 => ∃ n : Nat, d0 = .loc n ∧ (∃ ds', μ1[n]? = some (.lst ds')) ∧ wE X W ρ μ1 e (fun d μ2 => ∃ ds, μ2[n]? = some (.lst ds) ∧ ds.length < sizeLine ∧ Q .non (μ2.set n (.lst (ds ++ [d])))) Z) Z)
    (hbase : attributeBase o "append" X.env (eval o X.env) = eval o X.env := by rfl)
    (hfew : ((backTo pos (starEach [e] X.env)).all (fun x => !x.1) && (backToKw pos (keywordEach [] X.env)).all (fun x => x.1.isSome) && decide ([e].length + ([] : List Keyword).length + (if ([] : List Keyword).isEmpty then 0 else 1) < 30)) = true := by rfl)
    (hline : (apos.endLine == pos.line) = true := by rfl) (hs : starEach [e] X.env = (false, eval e X.env) :: starEach [] X.env := by rfl) :
    wE X W ρ μ (.Call (.Attribute o "append" apos) [e] [] pos) Q Z := by
  refine ⟨pe_of (pe_bm PySem.F.plainAttrs_list PySem.F.slot_list_append PySem.F.type_list_append mt_append h.run (pa_cons aE_ok pa_nil hs) hbase hfew hline hs) fun σ H R ⟨L, G, nw, v, x⟩ => ⟨L, G, nw, fun d0 μ1 ⟨n, ed, ⟨ds', hn1⟩, h2⟩ u L1 G1 H1 s1 o1 r1 => ?_, x⟩⟩
  subst ed
  obtain ⟨p, ea, eu⟩ := rep_loc.mp r1
  obtain ⟨vs1, eh1, _⟩ := o1.at_ n p _ ea hn1
  refine ⟨by rw [eu]; exact .inl ⟨rfl, _, SqL.of eh1⟩, _, h2.run, L1, G1, nw.step s1 o1, fun d μ2 ⟨ds, hn, hl, q⟩ w L2 G2 H2 s2 o2 r2 => ?_, x.step s1⟩
  have ea2 := s2.pre _ _ ea
  obtain ⟨vs, eh, rr⟩ := o2.at_ n p _ ea2 hn
  refine ⟨p, vs, w, eu, rfl, eh, by rw [rr.length]; exact hl, ?_⟩
  obtain ⟨o3, s3⟩ := o2.write (o := .lst (vs ++ [w])) (m := .lst (ds ++ [d])) ea2 ⟨_, upd_same, rr.append (Reps.cons r2 Reps.nil)⟩
  exact v _ _ q _ L2 G2 _ ((s1.trans s2).trans s3) o3 (rep_non.mpr rfl)
/-- x[i] = e, x a list of the store -/
theorem wS_ix {nx : KN} {κ : Ks} {ia : Expr} {pos' : Pos} (h : wE X W ρ μ e (fun d μ1 => wE X W ρ μ1 o (fun d0 μ2 => wE X W ρ μ2 ia (fun di μ3 => ∃ (n : Nat) (i : Int) (ds : List D) (k : Nat), d0 = .loc n ∧ di = .int i ∧ μ3[n]? = some (.lst ds) ∧ ixN ds.length i = some k ∧ nx ρ (μ3.set n (.lst (ds.set k d)))) (κ.z ρ)) (κ.z ρ)) (κ.z ρ))
    (hs : swapsWithSole [.Subscript o ia pos'] e pos.line X.env = pure false := by rfl) (hw : swappedStores [.Subscript o ia pos'] e X.env = pure none := by rfl)
    (h3 : (assignEach [.Subscript o ia pos'] X.env).map (·.2) = [assign (.Subscript o ia pos') X.env] := by rfl)
    (hp : ∀ v, assign (.Subscript o ia pos') X.env v = (do
      let ov ← holding [v] (eval o X.env)
      let iv ← holding [v, ov] (eval ia X.env)
      standAt pos'
      holding [v, ov, iv] (setItem ov iv v)
      release [v, ov, iv] []) := by intro _; rfl) : wS X W ρ μ (.Assign [.Subscript o ia pos'] e pos) nx κ := by
  refine ⟨ps_of (ps_asg h.run (pg_sub aE_ok aE_ok set_list hp) hs hw h3) fun D σ H ⟨L, G, nw, a⟩ => ⟨L, G, nw, fun d μ1 h2 v L1 G1 H1 s1 o1 r1 => ⟨_, h2.run, L1, G1, nw.step s1 o1, fun d0 μ2 h3 u L2 G2 H2 s2 o2 r2 => ⟨_, h3.run, L2, G2, (nw.step s1 o1).step s2 o2, fun di μ3 h4 w L3 G3 H3 s3 o3 r3 => ?_, ((a.x nw).step s1).step s2⟩, (a.x nw).step s1⟩, a.x nw⟩⟩
  obtain ⟨n, i, ds, k, e1, e2, hn, hk, q⟩ := h4
  subst e1 e2
  obtain ⟨p, ea, ew⟩ := rep_loc.mp (r2.step s3)
  obtain ⟨vs, eh, rr⟩ := o3.at_ n p _ ea hn
  refine ⟨p, vs, i, k, ew, rep_int.mp r3, eh, by rw [rr.length]; exact hk, ?_⟩
  obtain ⟨o4, s4⟩ := o3.write (o := .lst (vs.set k v)) (m := .lst (ds.set k d)) ea ⟨_, upd_same, rr.set ((r1.step s2).step s3) k⟩
  exact a.nx _ _ q σ L3 G3 _ (((s1.trans s2).trans s3).trans s4) ⟨o4, (((nw.env.step s1).step s2).step s3).step s4⟩
/-! what is walked -/
variable {tg : Expr} {QA : KA}
theorem wI_lst (h : wE X W ρ μ e (fun d μ1 => ∃ ds, d = .lst ds ∧ QA ds μ1) Z) : wI X W ρ μ tg e QA Z :=
  ⟨pi_of (pi_list h.run) fun σ H R ⟨L, G, n, v, x⟩ => ⟨L, G, n, fun d μ1 ⟨ds, ed, q⟩ u L1 G1 H1 s1 o1 r1 => by
    subst ed
    obtain ⟨a, vs, ev, hq, rr⟩ := rep_lst.mp r1
    exact ⟨a, ev, ⟨vs, SqL.of (o1.sub _ _ hq)⟩, v ds μ1 q _ L1 G1 H1 s1 o1 (jok_lst (SqL.of hq) rr)⟩, x⟩⟩
theorem wI_scr (h : wE X W ρ μ e (fun d μ1 => ∃ ds, d = .scr ds ∧ QA ds μ1) Z) : wI X W ρ μ tg e QA Z :=
  ⟨pi_of (pi_list h.run) fun σ H R ⟨L, G, n, v, x⟩ => ⟨L, G, n, fun d μ1 ⟨ds, ed, q⟩ u L1 G1 H1 s1 o1 r1 => by
    subst ed
    obtain ⟨a, vs, ev, hq, rr⟩ := rep_scr.mp r1
    exact ⟨a, ev, ⟨vs, Same.sqL o1.sub hq⟩, v ds μ1 q _ L1 G1 H1 s1 o1 (jok_lst hq rr)⟩, x⟩⟩
theorem wI_tup (h : wE X W ρ μ e (fun d μ1 => ∃ ds, d = .tup ds ∧ QA ds μ1) Z) : wI X W ρ μ tg e QA Z :=
  ⟨pi_of (pi_tup h.run) fun σ H R ⟨L, G, n, v, x⟩ => ⟨L, G, n, fun d μ1 ⟨ds, ed, q⟩ u L1 G1 H1 s1 o1 r1 => by
    subst ed
    obtain ⟨a, vs, ev, hq, rr⟩ := rep_tup.mp r1
    exact ⟨a, ev, ⟨vs, Same.sqT o1.sub hq⟩, v ds μ1 q _ L1 G1 H1 s1 o1 (jok_tup hq rr)⟩, x⟩⟩
theorem wI_range1 (hm : X.mg "range" = none) (h : wE X W ρ μ e (fun d μ1 => ∃ j : Int, d = .int j ∧ (-(2 ^ 62) ≤ j ∧ j < 2 ^ 62) ∧ QA (rangeD 0 j.toNat) μ1) Z) (hg : Gl X "range" := by rfl) (hs : starEach [e] X.env = [(false, eval e X.env)] := by rfl) : wI X W ρ μ tg (.Call (.Name "range" p) [e] [] pos) QA Z :=
  ⟨pi_of (pi_range1 hg hm (pa_cons h.run pa_nil hs) hs) fun σ H R ⟨L, G, n, v, x⟩ => ⟨L, G, n, fun d μ1 ⟨j, ed, ⟨h1, h2⟩, q⟩ u L1 G1 H1 s1 o1 r1 => by
    subst ed
    exact ⟨j, by rw [rep_int.mp r1], h1, h2, v _ μ1 q _ L1 G1 H1 s1 o1 jok_rng⟩, x⟩⟩
theorem wI_range2 {e2 : Expr} (hm : X.mg "range" = none) (h : wE X W ρ μ e (fun d μ1 => wE X W ρ μ1 e2 (fun d2 μ2 => ∃ i j : Int, d = .int i ∧ d2 = .int j ∧ (-(2 ^ 62) ≤ i ∧ i < 2 ^ 62 ∧ -(2 ^ 62) ≤ j ∧ j < 2 ^ 62) ∧ QA (rangeD i (j - i).toNat) μ2) Z) Z) (hg : Gl X "range" := by rfl)
    (hs : starEach [e, e2] X.env = [(false, eval e X.env), (false, eval e2 X.env)] := by rfl) (hs2 : starEach [e2] X.env = [(false, eval e2 X.env)] := by rfl) : wI X W ρ μ tg (.Call (.Name "range" p) [e, e2] [] pos) QA Z :=
  ⟨pi_of (pi_range2 hg hm (pa_cons h.run (pa_cons aE_ok pa_nil hs2) (by rw [hs, hs2])) hs hs2) fun σ H R ⟨L, G, n, v, x⟩ => ⟨L, G, n, fun d μ1 h2 u L1 G1 H1 s1 o1 r1 => ⟨_, h2.run, L1, G1, n.step s1 o1, fun d2 μ2 ⟨i, j, e1, e2, hb, q⟩ u2 L2 G2 H2 s2 o2 r2 => by
    subst e1 e2
    exact ⟨i, j, by rw [rep_int.mp r1, rep_int.mp r2], hb, v _ μ2 q _ L2 G2 H2 (s1.trans s2) o2 jok_rng⟩, x.step s1⟩, x⟩⟩
end
section
variable {X : Cx} {W : WX} {μ : List M} {Q : KV} {Z : KX} {da x y : D} {b : Bool} {i j : Int}
/-- [x, y][int(b)] -/
theorem wX_if2 (hd : Ixd μ da [x, y]) (h : if b = true then Q y μ else Q x μ) : wX X W da (.int (if b = true then 1 else 0)) μ Q Z := by
  cases b with
  | true => exact wX_at hd rfl h
  | false => exact wX_at hd rfl h
theorem wX_if2I (hd : Ixd μ da [.int i, .int j]) (h : Q (.int (if b = true then j else i)) μ) : wX X W da (.int (if b = true then 1 else 0)) μ Q Z := by
  cases b with
  | true => exact wX_at hd rfl h
  | false => exact wX_at hd rfl h
end
/-! boxes -/
abbrev bxI (i j k : Int) : M := .lst [.int i, .int j, .int k]
theorem Ok.unbox {K : PySem.W.Frag} {L : List Addr} {G H : Hp} {μ : List M} {n : Nat} (o : Ok K L G H μ) (h : μ[n]? = some .box) : ∃ i j k, Ok K L G H (μ.set n (bxI i j k)) := by
  have hn : n < L.length := by rw [o.len]; exact (List.getElem?_eq_some_iff.mp h).1
  obtain ⟨i, j, k, e⟩ := o.at_ n L[n] _ (List.getElem?_eq_getElem hn) h
  refine ⟨i, j, k, o.sub, by simpa using o.len, o.nd, o.off, o.liv, fun q a m e1 e2 => ?_⟩
  by_cases hq : n = q
  · subst hq
    rw [List.getElem?_set_self (by rw [← o.len]; exact hn)] at e2
    rw [List.getElem?_eq_getElem hn] at e1
    cases e1
    cases e2
    exact ⟨_, e, Reps.cons (rep_int.mpr rfl) (Reps.cons (rep_int.mpr rfl) (Reps.cons (rep_int.mpr rfl) Reps.nil))⟩
  · rw [List.getElem?_set_ne hq] at e2
    exact o.at_ q a m e1 e2
theorem le_box {μ : List M} {n : Nat} {i j k : Int} (h : μ[n]? = some .box) : Le (μ.set n (bxI i j k)) μ := fun K L G H o => by
  have hn : n < μ.length := (List.getElem?_eq_some_iff.mp h).1
  have hl : n < L.length := by have := o.len; simp at this; omega
  refine ⟨o.sub, by simpa using o.len, o.nd, o.off, o.liv, fun q a m e1 e2 => ?_⟩
  by_cases hq : n = q
  · subst hq
    rw [h] at e2
    cases e2
    obtain ⟨vs, eh, r⟩ := o.at_ n a _ e1 (List.getElem?_set_self hn)
    obtain ⟨v1, r1, rfl, q1, t1⟩ := r.inv_cons
    obtain ⟨v2, v3, rfl, q2, q3⟩ := t1.two
    exact ⟨i, j, k, by rw [eh, rep_int.mp q1, rep_int.mp q2, rep_int.mp q3]⟩
  · exact o.at_ q a m e1 (by rw [List.getElem?_set_ne hq]; exact e2)
theorem le_newbox {μ : List M} {i j k : Int} : Le (μ ++ [bxI i j k]) (μ ++ [.box]) := fun K L G H o => by
  have := le_box (μ := μ ++ [.box]) (n := μ.length) (i := i) (j := j) (k := k) at_last
  rw [set_last] at this
  exact this K L G H o
end PM
set_option Elab.async false
set_option linter.all false
set_option maxRecDepth 100000
namespace PM
open PySem L2
/-! ### names: what a def's scope says is looked up once -/
inductive Kd where
  | no | loc | cell | free
def visB (sc : Scope) (x : Str) : Kd → Bool
  | .no => true
  | .loc => (sc.names.lookup x == some .local) && !(x == ("__debug__" : Str)) && !(x == ("__classdict__" : Str))
  | .cell => (sc.names.lookup x == some .cell) && !(x == ("__debug__" : Str)) && !(x == ("__classdict__" : Str))
  | .free => (sc.names.lookup x == some .free) && !(x == ("__debug__" : Str)) && !(x == ("__classdict__" : Str))
def nmB (sc : Scope) : List Str → List Kd → Bool
  | x :: N, v :: V => visB sc x v && nmB sc N V
  | _, _ => true
def ckB (N : List Str) (V : List Kd) (Gs : List Str) (sc : Scope) : Bool :=
  nmB sc N V && Gs.all fun x => (sc.names.lookup x == some .globalImplicit) && !(x == ("__debug__" : Str)) && !(x == ("__name__" : Str))
structure Nx' (X : Cx) (N : List Str) (V : List Kd) (Gs : List Str) : Prop where
  N_ : X.N = N
  ndN : N.Nodup
  ck : ckB N V Gs X.env.scope = true
structure Fx (X : Cx) (W : WX) (k : Nat) (N : List Str) (V : List Kd) (Gs : List Str) : Prop extends Gd X W k, Nx' X N V Gs
/-- the value of a name -/
inductive Gt : List Str → List Kd → Str → Env' → D → Prop
  | z {x : Str} {N : List Str} {V : List Kd} {d : D} {ρ : Env'} : Gt (x :: N) (.loc :: V) x (some d :: ρ) d
  | c {x : Str} {N : List Str} {V : List Kd} {d : D} {ρ : Env'} : Gt (x :: N) (.cell :: V) x (some d :: ρ) d
  | f {x : Str} {N : List Str} {V : List Kd} {d : D} {ρ : Env'} : Gt (x :: N) (.free :: V) x (some d :: ρ) d
  | s {x y : Str} {N : List Str} {v : Kd} {V : List Kd} {o : Option D} {ρ : Env'} {d : D} : Gt N V x ρ d → Gt (y :: N) (v :: V) x (o :: ρ) d
/-- a name's value is stored -/
inductive Pt : List Str → List Kd → Str → D → Env' → Env' → Nat → Prop
  | z {x : Str} {N : List Str} {V : List Kd} {d : D} {o : Option D} {ρ : Env'} : Pt (x :: N) (.loc :: V) x d (o :: ρ) (some d :: ρ) 0
  | c {x : Str} {N : List Str} {V : List Kd} {d : D} {o : Option D} {ρ : Env'} : Pt (x :: N) (.cell :: V) x d (o :: ρ) (some d :: ρ) 0
  | s {x y : Str} {N : List Str} {v : Kd} {V : List Kd} {d : D} {o : Option D} {ρ ρ' : Env'} {i : Nat} : Pt N V x d ρ ρ' i → Pt (y :: N) (v :: V) x d (o :: ρ) (o :: ρ') (i + 1)
/-- a name among others -/
inductive In : Str → List Str → Prop
  | z {x : Str} {Gs : List Str} : In x (x :: Gs)
  | s {x y : Str} {Gs : List Str} : In x Gs → In x (y :: Gs)
theorem In.mem {x : Str} {Gs : List Str} (h : In x Gs) : x ∈ Gs := by
  induction h with
  | z => exact List.mem_cons_self
  | s _ ih => exact List.mem_cons_of_mem _ ih
theorem Gt.ex {sc : Scope} {N : List Str} {V : List Kd} {x : Str} {ρ : Env'} {d : D} (h : Gt N V x ρ d) (nm : nmB sc N V = true) : ∃ i : Nat, N[i]? = some x ∧ ρ[i]? = some (some d) ∧ Vis sc x ∧ (x == ("__debug__" : Str)) = false ∧ (x == ("__classdict__" : Str)) = false := by
  induction h with
  | z =>
    simp only [nmB, visB, Bool.and_eq_true, Bool.not_eq_true', beq_iff_eq] at nm
    exact ⟨0, rfl, rfl, .inl nm.1.1.1, by simpa using nm.1.1.2, by simpa using nm.1.2⟩
  | c =>
    simp only [nmB, visB, Bool.and_eq_true, Bool.not_eq_true', beq_iff_eq] at nm
    exact ⟨0, rfl, rfl, .inr (.inl nm.1.1.1), by simpa using nm.1.1.2, by simpa using nm.1.2⟩
  | f =>
    simp only [nmB, visB, Bool.and_eq_true, Bool.not_eq_true', beq_iff_eq] at nm
    exact ⟨0, rfl, rfl, .inr (.inr nm.1.1.1), by simpa using nm.1.1.2, by simpa using nm.1.2⟩
  | s _ ih =>
    simp only [nmB, Bool.and_eq_true] at nm
    obtain ⟨i, h1, h2, h3⟩ := ih nm.2
    exact ⟨i + 1, by simpa using h1, by simpa using h2, h3⟩
theorem Pt.ex {sc : Scope} {N : List Str} {V : List Kd} {x : Str} {ρ ρ' : Env'} {d : D} {i : Nat} (h : Pt N V x d ρ ρ' i) (nm : nmB sc N V = true) : N[i]? = some x ∧ ρ' = ρ.set i (some d) ∧ Loc sc x := by
  induction h with
  | z =>
    simp only [nmB, visB, Bool.and_eq_true, Bool.not_eq_true', beq_iff_eq] at nm
    exact ⟨rfl, rfl, .inl nm.1.1.1⟩
  | c =>
    simp only [nmB, visB, Bool.and_eq_true, Bool.not_eq_true', beq_iff_eq] at nm
    exact ⟨rfl, rfl, .inr nm.1.1.1⟩
  | s _ ih =>
    simp only [nmB, Bool.and_eq_true] at nm
    obtain ⟨h1, h2, h3⟩ := ih nm.2
    exact ⟨by simpa using h1, by simp [h2], h3⟩
section
variable {X : Cx} {W : WX} {k : Nat} {N : List Str} {V : List Kd} {Gs : List Str} {ρ ρ' : Env'} {μ μ1 μ2 : List M} {e a b c ob : Expr} {es : List Expr} {Q Q' : KV} {Z : KX} {d da db : D} {ds ds' : List D} {p pos apos : Pos} {x y z m : Str} {nx : KN} {κ : Ks} {i j l : Nat}
theorem Nx'.nm (g : Nx' X N V Gs) : nmB X.env.scope N V = true := by
  have := g.ck
  simp only [ckB, Bool.and_eq_true] at this
  exact this.1
theorem Nx'.gl (g : Nx' X N V Gs) (h : In x Gs) : Gl X x ∧ (x == ("__debug__" : Str)) = false ∧ x ≠ ("__name__" : Str) := by
  have := g.ck
  simp only [ckB, Bool.and_eq_true, List.all_eq_true] at this
  have q := this.2 x h.mem
  simp only [Bool.not_eq_true', beq_iff_eq] at q
  exact ⟨q.1.1, by simpa using q.1.2, fun z => by rw [z] at q; simp at q⟩
/-- the value of a name, by what is wanted of it -/
structure wGt (N : List Str) (V : List Kd) (x : Str) (ρ : Env') (K : D → Prop) : Prop where
  ex : ∃ d, Gt N V x ρ d ∧ K d
theorem wGt_z {K : D → Prop} (h : K d) : wGt (x :: N) (.loc :: V) x (some d :: ρ) K := ⟨⟨d, .z, h⟩⟩
theorem wGt_c {K : D → Prop} (h : K d) : wGt (x :: N) (.cell :: V) x (some d :: ρ) K := ⟨⟨d, .c, h⟩⟩
theorem wGt_f {K : D → Prop} (h : K d) : wGt (x :: N) (.free :: V) x (some d :: ρ) K := ⟨⟨d, .f, h⟩⟩
theorem wGt_s {v : Kd} {o : Option D} {K : D → Prop} (h : wGt N V x ρ K) : wGt (y :: N) (v :: V) x (o :: ρ) K := let ⟨⟨d, h1, h2⟩⟩ := h; ⟨⟨d, .s h1, h2⟩⟩
theorem wGt_chk {K : D → Prop} (h : wGt N V x ρ K) : wGt N V x ρ K := h
structure wPt (N : List Str) (V : List Kd) (x : Str) (d : D) (ρ : Env') (K : Env' → Prop) : Prop where
  ex : ∃ ρ' i, Pt N V x d ρ ρ' i ∧ K ρ'
theorem wPt_z {o : Option D} {K : Env' → Prop} (h : K (some d :: ρ)) : wPt (x :: N) (.loc :: V) x d (o :: ρ) K := ⟨⟨_, 0, .z, h⟩⟩
theorem wPt_c {o : Option D} {K : Env' → Prop} (h : K (some d :: ρ)) : wPt (x :: N) (.cell :: V) x d (o :: ρ) K := ⟨⟨_, 0, .c, h⟩⟩
theorem wPt_s {v : Kd} {o : Option D} {K : Env' → Prop} (h : wPt N V x d ρ (fun ρ' => K (o :: ρ'))) : wPt (y :: N) (v :: V) x d (o :: ρ) K := let ⟨⟨ρ', i, h1, h2⟩⟩ := h; ⟨⟨_, i + 1, .s h1, h2⟩⟩
/-- the place of a name that is stored -/
inductive Ix : List Str → List Kd → Str → Nat → Prop
  | z {x : Str} {N : List Str} {V : List Kd} : Ix (x :: N) (.loc :: V) x 0
  | c {x : Str} {N : List Str} {V : List Kd} : Ix (x :: N) (.cell :: V) x 0
  | s {x y : Str} {N : List Str} {v : Kd} {V : List Kd} {i : Nat} : Ix N V x i → Ix (y :: N) (v :: V) x (i + 1)
inductive Il : List Str → List Kd → Str → Nat → Prop
  | z {x : Str} {N : List Str} {V : List Kd} : Il (x :: N) (.loc :: V) x 0
  | s {x y : Str} {N : List Str} {v : Kd} {V : List Kd} {i : Nat} : Il N V x i → Il (y :: N) (v :: V) x (i + 1)
theorem Ix.ex {sc : Scope} (h : Ix N V x i) (nm : nmB sc N V = true) : N[i]? = some x ∧ Loc sc x := by
  induction h with
  | z =>
    simp only [nmB, visB, Bool.and_eq_true, Bool.not_eq_true', beq_iff_eq] at nm
    exact ⟨rfl, .inl nm.1.1.1⟩
  | c =>
    simp only [nmB, visB, Bool.and_eq_true, Bool.not_eq_true', beq_iff_eq] at nm
    exact ⟨rfl, .inr nm.1.1.1⟩
  | s _ ih =>
    simp only [nmB, Bool.and_eq_true] at nm
    obtain ⟨h1, h3⟩ := ih nm.2
    exact ⟨by simpa using h1, h3⟩
theorem Il.ex {sc : Scope} (h : Il N V x i) (nm : nmB sc N V = true) : N[i]? = some x ∧ sc.names.lookup x = some .local := by
  induction h with
  | z =>
    simp only [nmB, visB, Bool.and_eq_true, Bool.not_eq_true', beq_iff_eq] at nm
    exact ⟨rfl, nm.1.1.1⟩
  | s _ ih =>
    simp only [nmB, Bool.and_eq_true] at nm
    obtain ⟨h1, h3⟩ := ih nm.2
    exact ⟨by simpa using h1, h3⟩
theorem wPt.set {sc : Scope} {K : Env' → Prop} (h : wPt N V x d ρ K) (nm : nmB sc N V = true) (nd : N.Nodup) (e : N[i]? = some x) : K (ρ.set i (some d)) := by
  obtain ⟨ρ', j, p, q⟩ := h.ex
  obtain ⟨e1, rfl, _⟩ := p.ex nm
  rwa [(List.getElem?_inj (List.getElem?_eq_some_iff.mp e).1 nd).mp (e.trans e1.symm)]
theorem wE_name (g : Nx' X N V Gs) (h : wGt N V x ρ (fun d => Q d μ)) : wE X W ρ μ (.Name x pos) Q Z := by
  obtain ⟨d, hd, h⟩ := h.ex
  obtain ⟨i, e1, e2, e3, e4, e5⟩ := hd.ex g.nm
  exact .ofV (ev_var i e2 (by rw [g.N_]; exact e1) e3 e4 e5) h
theorem wG_name (g : Nx' X N V Gs) (h : wPt N V x d ρ (fun ρ' => nx ρ' μ)) (hf : ∀ x, X.fn x = true := by intro _; rfl) : wG X W ρ μ (.Name x pos) d nx := by
  obtain ⟨ρ', i, hp, h⟩ := h.ex
  obtain ⟨e1, rfl, e3⟩ := hp.ex g.nm
  exact ⟨pg_of (eg_name (ρ := ρ) (μ := μ) (d := d) i (by rw [g.N_]; exact g.ndN) (by rw [g.N_]; exact e1) e3 (.inl (hf x))) fun v σ H R ⟨L, G, n, r, a⟩ => ⟨L, G, n, r, a _ _ h⟩⟩
theorem wS_set {pos' : Pos} (g : Nx' X N V Gs) (hi : ∃ i, Ix N V x i) (h : wE X W ρ μ e (fun d μ1 => wPt N V x d ρ (fun ρ' => nx ρ' μ1)) (κ.z ρ)) (hs : swapsWith e (some (.Name x pos')) pos.line X.env = pure false := by rfl) (hf : ∀ x, X.fn x = true := by intro _; rfl) : wS X W ρ μ (.Assign [.Name x pos'] e pos) nx κ := by
  obtain ⟨i, hi⟩ := hi
  obtain ⟨e1, e3⟩ := hi.ex g.nm
  have nd := g.ndN
  exact ⟨ps_of (ps_set (by rw [g.N_]; exact g.ndN) (by rw [g.N_]; exact e1) e3 h.run hs (.inl (hf x))) fun D σ H ⟨L, G, n, a⟩ => ⟨L, G, n, fun d μ1 q v L1 G1 H1 s1 o1 r1 => a.nx _ _ (q.set g.nm nd e1) _ L1 G1 H1 s1 ⟨o1, (n.env.step s1).set r1 i⟩, a.x n⟩⟩
/-- the stores of a, b = x, y -/
theorem swapped2 {env : Env} {px py pt pt2 : Pos} {kt k2 : Nat} (hk : env.blockKind = .function) (hx : env.scope.names.lookup x = some .local) (hy : env.scope.names.lookup y = some .local) (hxy : x ≠ y) (hl : (py.line == px.line) = true)
    (h1 : ([a, b].any fun | .Starred .. => true | _ => false) = false) (h2 : [a, b].all (foldedForSure 8) = false) (h3 : [a, b].all (constantsAlone 8) = false) : swappedStores [.Tuple [.Name x px, .Name y py] kt pt] (.Tuple [a, b] k2 pt2) env = pure (some [x, y]) := by
  unfold swappedStores
  have k1 : (env.kindOf x == some .local) = true := by unfold Env.kindOf; rw [hx]; rfl
  have k2 : (env.kindOf y == some .local) = true := by unfold Env.kindOf; rw [hy]; rfl
  have ed : [x, y].eraseDups.length = 2 := by
    have : (y == x) = false := by simpa using fun z => hxy z.symm
    simp [List.eraseDups_cons, this]
  have hb : (env.blockKind != ScopeKind.function) = false := by rw [hk]; rfl
  simp only [List.length_cons, List.length_nil, hb, h1, List.head?_cons, Option.map_some, Option.getD_some, List.filterMap_cons, List.filterMap_nil, Expr.pos, k1, k2, hl, Bool.true_and, beq_self_eq_true, if_true, ed, h2, h3]
  rw [if_neg (by decide), if_neg (fun h => Bool.noConfusion (h.symm.trans h1))]
  rfl
theorem wS_par {px py pt : Pos} {kt k2 pt2} (g : Fx X W k N V Gs) (hp : ∃ i j, Il N V x i ∧ Il N V y j ∧ i ≠ j) (ha : wA X W ρ μ [a, b] (fun ds μ1 => ∃ da db, ds = [da, db] ∧ wPt N V x da ρ (fun ρ1 => wPt N V y db ρ1 (fun ρ2 => nx ρ2 μ1))) (κ.z ρ)) 
    (hk : X.env.blockKind = .function := by rfl) (hl : (py.line == px.line) = true := by rfl) (h1 : ([a, b].any fun | .Starred .. => true | _ => false) = false := by rfl) (h2 : [a, b].all (foldedForSure 8) = false := by rfl) (h3 : [a, b].all (constantsAlone 8) = false := by rfl) :
    wS X W ρ μ (.Assign [.Tuple [.Name x px, .Name y py] kt pt] (.Tuple [a, b] k2 pt2) pos) nx κ := by
  obtain ⟨i, j, p1, p2, hij⟩ := hp
  obtain ⟨e1, l1⟩ := p1.ex g.nm
  obtain ⟨e2, l2⟩ := p2.ex g.nm
  have nd := g.nd
  rw [g.N_] at nd
  have hxy : x ≠ y := fun t => hij ((List.getElem?_inj (List.getElem?_eq_some_iff.mp e1).1 nd).mp (e1.trans (by rw [t]; exact e2.symm)))
  exact ⟨ps_of (ps_par g.calm g.nd (by rw [g.N_]; exact e1) (by rw [g.N_]; exact e2) hij l1 l2 ha.run (swapped2 hk l1 l2 hxy hl h1 h2 h3) rfl) fun D σ H ⟨L, G, n, ac⟩ => ⟨L, G, n, fun ds μ1 ⟨da, db, e0, q⟩ vs L1 G1 H1 s1 o1 r1 => by
    subst e0
    obtain ⟨v, w, e, q1, q2⟩ := r1.two
    subst e
    exact ⟨v, w, rfl, ac.nx _ _ ((q.set g.nm nd e1).set g.nm nd e2) _ L1 G1 H1 s1 ⟨o1, ((n.env.step s1).set q1 i).set q2 j⟩⟩, ac.x n⟩⟩
theorem swapped3 {env : Env} {px py pz pt pt2 : Pos} {kt k2 : Nat} (hk : env.blockKind = .function) (hx : env.scope.names.lookup x = some .local) (hy : env.scope.names.lookup y = some .local) (hz : env.scope.names.lookup z = some .local) (hxy : x ≠ y) (hxz : x ≠ z) (hyz : y ≠ z) (hl : (py.line == px.line) = true) (hl2 : (pz.line == px.line) = true)
    (h1 : ([a, b, c].any fun | .Starred .. => true | _ => false) = false) (h2 : [a, b, c].all (foldedForSure 8) = false) (h3 : [a, b, c].all (constantsAlone 8) = false) : swappedStores [.Tuple [.Name x px, .Name y py, .Name z pz] kt pt] (.Tuple [a, b, c] k2 pt2) env = pure (some [x, y, z]) := by
  unfold swappedStores
  have k1 : (env.kindOf x == some .local) = true := by unfold Env.kindOf; rw [hx]; rfl
  have k2 : (env.kindOf y == some .local) = true := by unfold Env.kindOf; rw [hy]; rfl
  have k3 : (env.kindOf z == some .local) = true := by unfold Env.kindOf; rw [hz]; rfl
  have ed : [x, y, z].eraseDups.length = 3 := by
    have e1 : (y == x) = false := by simpa using fun z => hxy z.symm
    have e2 : (z == x) = false := by simpa using fun t => hxz t.symm
    have e3 : (z == y) = false := by simpa using fun t => hyz t.symm
    simp [List.eraseDups_cons, e1, e2, e3]
  have hb : (env.blockKind != ScopeKind.function) = false := by rw [hk]; rfl
  simp only [List.length_cons, List.length_nil, hb, h1, List.head?_cons, Option.map_some, Option.getD_some, List.filterMap_cons, List.filterMap_nil, Expr.pos, k1, k2, k3, hl, hl2, Bool.true_and, beq_self_eq_true, if_true, ed, h2, h3]
  rw [if_neg (by decide), if_neg (fun h => Bool.noConfusion (h.symm.trans h1))]
  rfl
theorem wS_par3 {px py pz pt : Pos} {kt k2 pt2} (g : Fx X W k N V Gs) (hp : ∃ i j l, Il N V x i ∧ Il N V y j ∧ Il N V z l ∧ i ≠ j ∧ i ≠ l ∧ j ≠ l) (ha : wA X W ρ μ [a, b, c] (fun ds μ1 => ∃ da db dc, ds = [da, db, dc] ∧ wPt N V x da ρ (fun ρ1 => wPt N V y db ρ1 (fun ρ2 => wPt N V z dc ρ2 (fun ρ3 => nx ρ3 μ1)))) (κ.z ρ))
    (hk : X.env.blockKind = .function := by rfl) (hl : (py.line == px.line) = true := by rfl) (hl2 : (pz.line == px.line) = true := by rfl) (h1 : ([a, b, c].any fun | .Starred .. => true | _ => false) = false := by rfl) (h2 : [a, b, c].all (foldedForSure 8) = false := by rfl) (h3 : [a, b, c].all (constantsAlone 8) = false := by rfl) :
    wS X W ρ μ (.Assign [.Tuple [.Name x px, .Name y py, .Name z pz] kt pt] (.Tuple [a, b, c] k2 pt2) pos) nx κ := by
  obtain ⟨i, j, l, p1, p2, p3, hij, hil, hjl⟩ := hp
  obtain ⟨e1, l1⟩ := p1.ex g.nm
  obtain ⟨e2, l2⟩ := p2.ex g.nm
  obtain ⟨e3, l3⟩ := p3.ex g.nm
  have nd := g.nd
  rw [g.N_] at nd
  have ne : ∀ {s t : Str} {i j : Nat}, N[i]? = some s → N[j]? = some t → i ≠ j → s ≠ t := fun e1 e2 hij t => hij ((List.getElem?_inj (List.getElem?_eq_some_iff.mp e1).1 nd).mp (e1.trans (by rw [t]; exact e2.symm)))
  exact ⟨ps_of (ps_par3 g.calm g.nd (by rw [g.N_]; exact e1) (by rw [g.N_]; exact e2) (by rw [g.N_]; exact e3) hij hil hjl l1 l2 l3 ha.run (swapped3 hk l1 l2 l3 (ne e1 e2 hij) (ne e1 e3 hil) (ne e2 e3 hjl) hl hl2 h1 h2 h3) rfl) fun D σ H ⟨L, G, n, ac⟩ => ⟨L, G, n, fun ds μ1 ⟨da, db, dc, e0, q⟩ vs L1 G1 H1 s1 o1 r1 => by
    subst e0
    obtain ⟨v, r, rfl, q1, r1⟩ := r1.inv_cons
    obtain ⟨u, w, e, q2, q3⟩ := r1.two
    subst e
    exact ⟨v, u, w, rfl, ac.nx _ _ (((q.set g.nm nd e1).set g.nm nd e2).set g.nm nd e3) _ L1 G1 H1 s1 ⟨o1, (((n.env.step s1).set q1 i).set q2 j).set q3 l⟩⟩, ac.x n⟩⟩
/-! is it this name? -/
theorem chkC (x : Str) {kws : List Keyword} (h : wE X W ρ μ (.Call (.Name x p) es kws pos) Q Z) : wE X W ρ μ (.Call (.Name x p) es kws pos) Q Z := h
theorem chkN (x : Str) (h : wE X W ρ μ (.Name x pos) Q Z) : wE X W ρ μ (.Name x pos) Q Z := h
theorem chkA (m : Str) (h : wE X W ρ μ (.Attribute e m pos) Q Z) : wE X W ρ μ (.Attribute e m pos) Q Z := h
theorem chkM (m : Str) {kws : List Keyword} (h : wE X W ρ μ (.Call (.Attribute e m apos) es kws pos) Q Z) : wE X W ρ μ (.Call (.Attribute e m apos) es kws pos) Q Z := h
theorem chkB (id : String) (h : wF X W (fun us => call (.builtin id) us) ds μ Q Z) : wF X W (fun us => call (.builtin id) us) ds μ Q Z := h
theorem chkT (T : String) (h : wF X W (fun us => call (.type T) us) ds μ Q Z) : wF X W (fun us => call (.type T) us) ds μ Q Z := h
/-! calls by names of the module -/
theorem xE_call (f : Fnx) (g : Fx X W k N V Gs) (hi : In x Gs) (hm : X.mg x = some (.ref f.a)) (hk : PySem.W.keepIn X.K (.ref f.a) = true) (bd : Binds X.K f.fd f.ps []) (h : wA X W ρ μ (e :: es) (fun ds μ1 => SpX X f ds μ1 Q Z) Z) (hj : f.lv ≤ k := by exact Nat.le_of_ble_eq_true rfl)
    (he : starEach (e :: es) X.env = (false, eval e X.env) :: starEach es X.env := by rfl) (hpl : (backTo pos (starEach es X.env)).any (·.1) = false := by rfl) : wE X W ρ μ (.Call (.Name x p) (e :: es) [] pos) Q Z := wE_call f g.toGd hm hk bd h hj (g.gl hi).1 (g.gl hi).2.1 he hpl
theorem xE_call0 (f : Fnx) (g : Fx X W k N V Gs) (hi : In x Gs) (hm : X.mg x = some (.ref f.a)) (hk : PySem.W.keepIn X.K (.ref f.a) = true) (bd : Binds X.K f.fd f.ps []) (h : SpX X f [] μ Q Z) (hj : f.lv ≤ k := by exact Nat.le_of_ble_eq_true rfl) : wE X W ρ μ (.Call (.Name x p) [] [] pos) Q Z := wE_call0 f g.toGd hm hk bd h hj (g.gl hi).1 (g.gl hi).2.1
theorem xE_glob {u : Value} {v : L2.V} (g : Nx' X N V Gs) (hi : In x Gs) (hm : X.mg x = some u) (r : RelV v u) (rd : ∀ L G, Rep X.K L G d v) (h : Q d μ) : wE X W ρ μ (.Name x pos) Q Z := wE_glob hm r rd h (g.gl hi).1 (g.gl hi).2.1
theorem xE_cls {C : Addr} (g : Nx' X N V Gs) (hi : In x Gs) (hm : X.mg x = some (.ref C)) (h : Q (.ref C) μ) : wE X W ρ μ (.Name x pos) Q Z := wE_glob (v := .ref C) hm rfl (fun _ _ => rep_ref.mpr rfl) h (g.gl hi).1 (g.gl hi).2.1
theorem xE_bty {T : String} (g : Nx' X N V Gs) (hi : In x Gs) (hm : X.mg x = none) (hv : bootBuiltins x = some (.type T)) (h : Q (.ty T) μ) : wE X W ρ μ (.Name x pos) Q Z := wE_bty hm hv h (g.gl hi).1 (g.gl hi).2.2 (g.gl hi).2.1
theorem xE_blt {id : String} (g : Nx' X N V Gs) (hi : In x Gs) (hm : X.mg x = none) (hv : bootBuiltins x = some (.builtin id)) (h : wA X W ρ μ (e :: es) (fun ds μ1 => wF X W (fun us => call (.builtin id) us) ds μ1 Q Z) Z)
    (he : starEach (e :: es) X.env = (false, eval e X.env) :: starEach es X.env := by rfl) (hpl : (backTo pos (starEach es X.env)).any (·.1) = false := by rfl) : wE X W ρ μ (.Call (.Name x p) (e :: es) [] pos) Q Z := wE_blt hm hv h (g.gl hi).1 (g.gl hi).2.2 (g.gl hi).2.1 he hpl
theorem xE_bcl {T : String} (g : Nx' X N V Gs) (hi : In x Gs) (hm : X.mg x = none) (hv : bootBuiltins x = some (.type T)) (h : wA X W ρ μ (e :: es) (fun ds μ1 => wF X W (fun us => call (.type T) us) ds μ1 Q Z) Z)
    (he : starEach (e :: es) X.env = (false, eval e X.env) :: starEach es X.env := by rfl) (hpl : (backTo pos (starEach es X.env)).any (·.1) = false := by rfl) : wE X W ρ μ (.Call (.Name x p) (e :: es) [] pos) Q Z := wE_bcl hm hv h (g.gl hi).1 (g.gl hi).2.2 (g.gl hi).2.1 he hpl
end
section
variable {P : Program} {w : World} {K : PySem.W.Frag} {mg : Str → Option Value} {base : Heap}
/-- THE RULE for a def, its names looked up -/
theorem spX_of {x qual : Str} {st : Stmt} {dvs : List L2.V} {f : Addr} {fd : FuncData} {N ps : List Str} {V : List Kd} {Gs : List Str} {k : Nat} {ds : List D} {μ : List M} {Q : KV} {Z : KX} (F : FunS K x qual st dvs f fd) (S : FnScope N ps (defScope st)) (ck : ckB N V Gs (defScope st) = true) (hl : ds.length = ps.length)
    (body : ∀ ρ, ρ = startD N ds → ∀ (cdv : Value) (A : Around) (outer : List Env) (s : Shared) (H : Hp) (E : XK), Fx (cxOf (L2.CX P w) P w K mg base N qual (defScope st) f cdv A outer s H E) (fun c d _ H => E c d H) k N V Gs →
      wSs (cxOf (L2.CX P w) P w K mg base N qual (defScope st) f cdv A outer s H E) (fun c d _ H => E c d H) ρ (μ ++ []) (defBody st) (fun _ μ1 => RetOk μ Q .non μ1) { rt := RetOk μ Q, xc := fun C ns ds' _ μ1 => ExcOk μ Z C ns ds' μ1 }) :
    SpF P w K mg base ⟨f, fd, ps, k + 1⟩ ds μ Q Z :=
  spF_of F S hl fun cdv A outer s H E g => by
    have := body _ rfl cdv A outer s H E ⟨g, ⟨rfl, S.nd, ck⟩⟩
    rwa [List.append_nil] at this
end
end PM
set_option Elab.async false
set_option linter.all false
set_option maxRecDepth 100000
namespace PM
open PySem L2
section
variable {X : Cx} {W : WX} {k j : Nat} {N : List Str} {V : List Kd} {Gs : List Str} {ρ ρ' : Env'} {μ μ1 μ2 : List M} {e a b c ob : Expr} {es : List Expr} {Q Q' : KV} {Z : KX} {d da db : D} {ds ds' : List D} {p pos apos pos2 np pos' : Pos} {x y m n : Str} {nx : KN} {κ : Ks} {f : Fnx} {C C' pr : Addr} {pl : Sem Bool} {ns : List Str}
/-! ### classes -/
/-- what __init__ leads to, as the caller sees it -/
inductive MadeOk (μ : List M) (C : Addr) (Q : KV) : D → List M → Prop
  | obj {ns : List Str} {fs : List D} {μ2 : List M} : Lows μ μ2 → ns.length = fs.length → D.los μ.length fs = true → Q (.obj C ns fs) μ2 → MadeOk μ C Q .non (μ2 ++ [.ins C ns fs])
  | loc {ns : List Str} {fs : List D} {μ2 : List M} : μ2.length = μ.length → Q (.loc μ.length) (μ2 ++ [.ins C ns fs]) → MadeOk μ C Q .non (μ2 ++ [.ins C ns fs])
inductive MadeX (μ : List M) (Z : KX) (C : Addr) (ns : List Str) : List D → List M → Prop
  | mk {ds : List D} {μ2 : List M} {m : M} : Lows μ μ2 → D.los μ.length ds = true → Z C ns ds μ2 → MadeX μ Z C ns ds (μ2 ++ [m])
theorem wF_make {dvs : List L2.V} {dvl : List Value} {dds : List D} (Mk : Mk X.K C f.a) (hb : Binds X.K f.fd f.ps dvl) (hd : Vals dvs dvl) (hdd : ∀ L G, Reps X.K L G dds dvs) (g : Gd X W k) (hj : f.lv + 1 ≤ k)
    (h : SpX X f (.loc μ.length :: (ds ++ dds)) (μ ++ [.ins C [] []]) (MadeOk μ C Q) (fun C' ns ds' μ' => MadeX μ Z C' ns ds' μ')) : wF X W (fun us => call (.ref C) us) ds μ Q Z := by
  refine ⟨fun pins s σ H xs us R L G I rx ok r av ax => ?_⟩
  refine run_makeS (E := WE W σ) Mk h (g.hr.mono hj) g.gr hb hd (passAt g.tk σ) I rx fun a dx h1 h2 ne => ?_
  obtain ⟨o2, s2⟩ := ok.made (C := C) h1 h2 ne
  have la : (L ++ [a])[μ.length]? = some a := by rw [← ok.len]; exact last_get L a
  have rr : Reps X.K (L ++ [a]) G (.loc μ.length :: (ds ++ dds)) (.ref a :: (xs ++ dvs)) := Reps.cons (rep_loc.mpr ⟨a, la, rfl⟩) ((r.step s2).append (hdd _ _))
  refine ⟨_, _, o2, rr, fun d μ' q v L3 G3 H3 s3 o3 r3 => ?_, fun C' ns' ds' μ' q dx' L3 G3 H3 s3 o3 x3 => ?_⟩
  · cases q with
    | obj l hl hfs q =>
      rename_i ns fs μ2
      refine ⟨rep_non.mp r3, ?_⟩
      have s13 := s2.trans s3
      have hlen : μ2.length = μ.length := l.1
      have la3 : L3[μ2.length]? = some a := by rw [hlen]; exact s3.pre _ _ la
      obtain ⟨dx', vs', eh, _, rv⟩ := o3.at_ μ2.length a _ la3 (last_get μ2 _)
      have o4 : Ok X.K (L3.take μ2.length) G3 H3 μ2 := o3.cut (l.all ok)
      have s4 : Step L G H (L3.take μ2.length) G3 H3 := s13.cut (by rw [ok.len, hlen]; exact Nat.le_refl _)
      have hna : a ∉ L3.take μ2.length := fun z => by
        obtain ⟨i, hi, ei⟩ := List.getElem_of_mem z
        rw [List.length_take] at hi
        rw [List.getElem_take] at ei
        obtain ⟨g1, g2⟩ := List.getElem?_eq_some_iff.mp la3
        have := (List.getElem_inj o3.nd).mp (ei.trans g2.symm)
        omega
      obtain ⟨o5, sg⟩ := o4.tell (p := a) (o := .ins C dx' (ns.zip vs')) eh hna
      exact av _ _ q _ _ _ H3 (s4.tell h1 sg) o5 (rep_obj.mpr ⟨a, dx', vs', rfl, upd_same, hl, (rv.cut (n := μ2.length) (by rw [hlen]; exact hfs)).mono (.refl _) sg⟩)
    | loc hl q => exact ⟨rep_non.mp r3, av _ _ q _ L3 G3 H3 (s2.trans s3) o3 (rep_loc.mpr ⟨a, s3.pre _ _ la, rfl⟩)⟩
  · cases q with
    | mk l hfs q =>
      rename_i μ2 m
      have hlen : μ2.length = μ.length := l.1
      exact ax _ _ _ _ q dx' _ G3 H3 ((s2.trans s3).cut (n := μ2.length) (by rw [ok.len, hlen]; exact Nat.le_refl _)) (o3.cut (l.all ok)) (xd_cut (L' := L3) x3 (by rw [hlen]; exact hfs))
/-- C(e, ..) by the class's name -/
theorem xE_make (g : Nx' X N V Gs) (hi : In x Gs) (hm : X.mg x = some (.ref C)) (hk : PySem.W.keepIn X.K (.ref C) = true) (h : wA X W ρ μ (e :: es) (fun ds μ1 => wF X W (fun us => call (.ref C) us) ds μ1 Q Z) Z)
    (he : starEach (e :: es) X.env = (false, eval e X.env) :: starEach es X.env := by rfl) (hpl : (backTo pos (starEach es X.env)).any (·.1) = false := by rfl) : wE X W ρ μ (.Call (.Name x p) (e :: es) [] pos) Q Z :=
  .by fun pins s σ H R L G I n v z => wpAny_Call_Name_kw (ld_glob I (g.gl hi).1 hm (PySem.W.callWith_K (h₀ := X.base) I.ok.mod.kin hk (h.call I n v z pos) he hpl) (g.gl hi).2.1)
theorem xE_make0 (g : Nx' X N V Gs) (hi : In x Gs) (hm : X.mg x = some (.ref C)) (hk : PySem.W.keepIn X.K (.ref C) = true) (h : wF X W (fun us => call (.ref C) us) [] μ Q Z) : wE X W ρ μ (.Call (.Name x p) [] [] pos) Q Z :=
  .by fun pins s σ H R L G I n v z => wpAny_Call_Name_kw (ld_glob I (g.gl hi).1 hm (PySem.W.callWith_K0 I.kIn hk (h.run pins s σ H [] [] R L G I .nil n.ok Reps.nil v z)) (g.gl hi).2.1)
/-- cls(e, ..): the class in a local name -/
theorem wE_makeL (g : Nx' X N V Gs) (hk : PySem.W.keepIn X.K (.ref C) = true) (hd : Gt N V x ρ (.ref C)) (h : wA X W ρ μ (e :: es) (fun ds μ1 => wF X W (fun us => call (.ref C) us) ds μ1 Q Z) Z)
    (he : starEach (e :: es) X.env = (false, eval e X.env) :: starEach es X.env := by rfl) (hpl : (backTo pos (starEach es X.env)).any (·.1) = false := by rfl) : wE X W ρ μ (.Call (.Name x p) (e :: es) [] pos) Q Z := by
  obtain ⟨i, e1, e2, e3, e4, e5⟩ := hd.ex g.nm
  refine .by fun pins s σ H R L G I n v z => ?_
  obtain ⟨w, ew, rw'⟩ := n.env.at_ i _ e2
  refine wpAny_Call_Name_kw (thn ((pe_var (pos := p) (by rw [g.N_]; exact e1) e3 e4 e5).run pins s σ H (fun v H1 => v = .ref C ∧ H1 = H) I ⟨w, ew, rep_ref.mp rw', rfl⟩) fun u s1 ⟨v', H1, I1, r1, q1⟩ => ?_)
  obtain ⟨rfl, rfl⟩ := q1
  cases r1
  exact PySem.W.callWith_K (h₀ := X.base) I.ok.mod.kin hk (h.call I1 n v z pos) he hpl
/-- o.m, a property; it raises nothing -/
theorem wE_prop (f : Fnx) (gd : Gd X W k) (cl : Cls X.K C) (hp : PropOf X.K C m pr f.a) (bd : Binds X.K f.fd f.ps []) (h : wE X W ρ μ ob (fun d μ1 => Recv C m μ1 d ∧ SpX X f [d] μ1 Q (fun _ _ _ _ => False)) Z) (hj : f.lv + 1 ≤ k := by exact Nat.le_of_ble_eq_true rfl)
    (hb : attributeBase ob m X.env (eval ob X.env) = eval ob X.env := by rfl) : wE X W ρ μ (.Attribute ob m pos) Q Z := by
  refine .by fun pins s σ H R L G I n v z => ?_
  refine attr_of hb (thn (h.go I n z) fun u s1 ⟨y, d, μ1, L1, G1, H1, I1, ry, ⟨hr, sp⟩, st1, o1, r1⟩ => ?_)
  obtain ⟨a, dx, fs, ex, ea, l⟩ := hr.at_ o1 r1
  subst ex
  obtain rfl : u = Value.ref a := ry
  exact getpropG I1 ea cl hp sp (gd.hr.mono hj) gd.gr bd ⟨L1, G1, o1, Reps.cons r1 Reps.nil, v.step st1, fun _ _ _ _ q => q.elim⟩
/-- C.m(e, ..), a class method -/
theorem wE_cmeth {mc : Value} (f : Fnx) (gd : Gd X W k) (r : ClX.CRead X.K C mc) (cm : ClX.CMet X.K C mc m pr f.a) (bd : Binds X.K f.fd f.ps []) (h : wE X W ρ μ ob (fun d μ1 => d = .ref C ∧ wA X W ρ μ1 (e :: es) (fun ds μ2 => SpX X f (.ref C :: ds) μ2 Q Z) Z) Z) (hj : f.lv ≤ k := by exact Nat.le_of_ble_eq_true rfl)
    (hst : starEach (e :: es) X.env = (false, eval e X.env) :: starEach es X.env := by rfl) (hpl : (backTo pos (starEach es X.env)).any (·.1) = false := by rfl)
    (ht : eval (.Call (.Attribute ob m apos) (e :: es) [] pos) X.env = (do
      let ov ← eval ob X.env
      standAt apos.atName
      let (f, first) ← holding [ov] (getMethod ov m pl)
      callWith pos f first (backTo pos (starEach (e :: es) X.env)) (backToKw pos (keywordEach [] X.env))) := by rfl) :
    wE X W ρ μ (.Call (.Attribute ob m apos) (e :: es) [] pos) Q Z := by
  refine .by fun pins s σ H R L G I n v z => ?_
  refine PySem.W.methodCall_KW (pl := pl) (thn (h.go I n z) fun u s1 ⟨y, d, μ1, L1, G1, H1, I1, ry, ⟨ed, ha⟩, st1, o1, r1⟩ => ?_) ht
  subst ed
  have ex := rep_ref.mp r1
  subst ex
  obtain rfl : u = Value.ref C := ry
  refine ClX.getmethcm_ok I1 r cm fun s2 I2 => ?_
  refine ClX.callwith_cm I2 (ClX.base_none I1 (Nat.le_refl _)) cm.fi (thn (ha.go I2 (n.step st1 o1) (z.step st1) pos) fun us s3 ⟨vs, ds, μ2, L2, G2, H2, I3, rv, q, st2, o2, r2⟩ => ⟨⟨ClX.pin_at I3, I3.kIn⟩, ?_⟩) hst hpl
  have zz : wpAny (model X.prog X.w) X.A (call (.ref s1.heap.objs.size) us) (EP X ((s1.heap.objs.size, PySem.W.methodObj (.ref f.a) (.ref C)) :: pins) σ R) X.xe s3 := by
    refine wpAny_call (PySem.W.method_call (ClX.pin_at I3) ?_)
    have hsp : spH X.K (.ref C :: ds) μ2 Q Z (.ref C :: vs) H2 R (WE W σ) := ⟨L2, G2, o2, Reps.cons (r1.step st2) r2, v.step (st1.trans st2), z.step (st1.trans st2)⟩
    have hl : (Value.ref C :: us).length = f.ps.length := by
      rw [← q.len _ _ _ _ hsp]
      simp [rv.length]
    have bb := bd s3 (Value.ref C :: us) I3.kIn (by rw [List.append_nil]; exact hl)
    rw [List.append_nil] at bb
    refine codeAny_mono (q.run X.A X.stack s3 H2 ⟨Value.ref C :: us, []⟩ (Value.ref C :: us) (.ref C :: vs) R (WE W σ) (gd.hr.mono hj) gd.gr I3.env0 bb (.cons rfl rv) hsp) fun r s' hq => ?_
    cases r with
    | error e => exact passAt gd.tk σ _ H2 s3 e s' I3 hq
    | ok fl =>
      cases fl with
      | ret u => exact I3.after hq
      | next => exact False.elim hq
      | brk => exact False.elim hq
      | cont => exact False.elim hq
  exact thn zz fun _ _ y => ClX.unpinE y
/-! ### errors -/
theorem wS_raise (g : Fx X W k N V Gs) (hi : In x Gs) (c : ErrC X.prog X.w X.K X.mg X.base C ns) (hm : X.mg x = some (.ref C)) (h : wA X W ρ μ (e :: es) (fun ds μ1 => ns.length = ds.length ∧ κ.xc C ns ds ρ μ1) (κ.z ρ)) (hk : 2 ≤ k := by decide)
    (he : starEach (e :: es) X.env = (false, eval e X.env) :: starEach es X.env := by rfl) (hpl : (backTo pos (starEach es X.env)).any (·.1) = false := by rfl) : wS X W ρ μ (.Raise (some (.Call (.Name x p) (e :: es) [] pos)) none pos2) nx κ := by
  obtain ⟨hg, hdb, _⟩ := g.gl hi
  refine ⟨⟨fun pins s σ H D I ⟨L, G, nw, ac⟩ => ?_⟩⟩
  -- the arguments come to one list; then the error is raised
  refine (PS.run (t := fun D σ H => ∃ L G, Now X.K L G H μ ρ σ ∧ AccS W X.K L G H D nx κ) ?_ pins s σ H D I ⟨L, G, nw, ac⟩)
  obtain ⟨fI, fd, ps, sp, hi, ht, F, bd, hc⟩ := c.one
  have mk : PMk X (.Call (.Name x p) (e :: es) [] pos) (fun σ H Q => tMkO C sp [] (fun σ H R => ∃ L G, Now X.K L G H μ ρ σ ∧ (∀ ds μ', (ns.length = ds.length ∧ κ.xc C ns ds ρ μ') → ComesA X.K L G H ds μ' R) ∧ AccX W X.K L G H σ (κ.z ρ)) σ H Q) := pmk_oex c.oex hi ht F (g.hr.mono hk) bd .nil pass0 hg hm h.run hdb he hpl
  rcases hc with ⟨f, rfl, rfl⟩ | ⟨f, f2, rfl, hne, rfl⟩
  · refine ps_of (ps_raise g.calm g.tk mk) fun D σ H ⟨L, G, n, ac⟩ => ⟨L, G, n, fun ds μ1 ⟨hn, q⟩ vs L1 G1 H1 s1 o1 r1 => ?_, ac.x n⟩
    match ds, hn with
    | [d], _ =>
      obtain ⟨v, rfl, rv⟩ := r1.one
      refine ⟨by show 1 ≤ 1000; decide, fun a hna => ⟨a, v, rfl, upd_same, fun dx hdx hne => ⟨rfl, dx, [(f, v)], upd_same, by rw [upd_ne hne, upd_same], ?_, ?_⟩⟩⟩
      · rw [upd_ne hne] at hdx
        exact hdx
      · have hdx' : H1 dx = none := by rw [upd_ne hne] at hdx; exact hdx
        have eH : upd (del (upd (upd (upd H1 a (exo a C none)) dx (exd dx [(f, v)])) a (exo a C (some dx))) a) dx (.xd [(f, v)]) = upd H1 dx (.xd [(f, v)]) := by
          funext b
          by_cases hb : b = dx
          · rw [hb, upd_same, upd_same]
          · rw [upd_ne hb, upd_ne hb]
            by_cases hba : b = a
            · rw [hba, del_same, hna]
            · rw [del_ne hba, upd_ne hba, upd_ne hb, upd_ne hba]
        rw [eH]
        obtain ⟨o2, s2⟩ := o1.new (o := .xd [(f, v)]) hdx'
        exact ac.xc _ _ _ _ _ q σ (some dx) L1 _ _ (s1.trans s2) ⟨o2, (n.env.step s1).step s2⟩ ⟨rfl, .inr ⟨dx, [v], rfl, upd_same, Reps.cons (rv.step s2) Reps.nil⟩⟩
  · refine ps_of (ps_raise g.calm g.tk (t := fun σ H Q => ∃ L G, Now X.K L G H μ ρ σ ∧ (∀ ds μ', ([f, f2].length = ds.length ∧ κ.xc C [f, f2] ds ρ μ') → ComesA X.K L G H ds μ' fun vs H1 => ∃ v u, vs = [v, u] ∧ ∀ dx, H1 dx = none → Q (.ref C) (some dx) (upd H1 dx (.xd [(f, v), (f2, u)]))) ∧ AccX W X.K L G H σ (κ.z ρ)) ?_) fun D σ H ⟨L, G, n, ac⟩ => ⟨L, G, n, fun ds μ1 ⟨hn, q⟩ vs L1 G1 H1 s1 o1 r1 => ?_, ac.x n⟩
    · intro pins s σ H Q I h
      refine thn (mk pins s σ H (fun c d H' => c = .ref C ∧ ∃ dx v u H1, d = some dx ∧ H1 dx = none ∧ H' = upd H1 dx (.xd [(f2, u), (f, v)]) ∧ Q (.ref C) (some dx) (upd H1 dx (.xd [(f, v), (f2, u)]))) I ?_) fun u s' hu => ?_
      · obtain ⟨L, G, n, co, cx⟩ := h
        refine ⟨L, G, n, fun ds μ' q0 vs L1 G1 H1 s1 o1 r1 => ?_, cx⟩
        obtain ⟨v, u, rfl, q⟩ := co ds μ' q0 vs L1 G1 H1 s1 o1 r1
        refine ⟨by show 2 ≤ 1000; decide, fun a hna => ⟨a, v, u, rfl, upd_same, fun dx hdx hne => ⟨rfl, dx, [(f2, u), (f, v)], ?_, upd_same, ?_, rfl, dx, v, u, H1, rfl, ?_, ?_, ?_⟩⟩⟩
        · rw [upd_ne (Ne.symm hne), upd_same]
        · rw [upd_ne hne] at hdx; exact hdx
        · rw [upd_ne hne] at hdx; exact hdx
        · funext b
          by_cases hb : b = dx
          · rw [hb, upd_same, upd_same]
          · rw [upd_ne hb, upd_ne hb]
            by_cases hba : b = a
            · rw [hba, del_same, hna]
            · rw [del_ne hba, upd_ne hb, upd_ne hba, upd_ne hb, upd_ne hba]
        · exact q dx (by rw [upd_ne hne] at hdx; exact hdx)
      · obtain ⟨a, oe, fv, sI, H', cls, d, e1, J, k1, k2, k3, k4, k5, k6, k7, k8, k9, k10, rfl, dx, v, u', H1, rfl, hd1, rfl, q⟩ := hu
        refine ⟨a, oe, fv, sI, _, .ref C, some dx, e1, (xd_same J upd_same (xd_swap (Ne.symm (Ne.symm hne)))), k1, k2, k3, k4, k5, k6, ?_, k8, k9, k10, ?_⟩
        · rw [upd_upd]
          by_cases ha : a = dx
          · subst ha
            rw [upd_same] at k7
            cases k7
          · rw [upd_ne ha] at k7 ⊢
            exact k7
        · rw [upd_upd]
          exact q
    · match ds, hn with
      | [d1, d2], _ =>
        obtain ⟨v, u, rfl, rv, ru⟩ := r1.two
        refine ⟨v, u, rfl, fun dx hdx => ?_⟩
        obtain ⟨o2, s2⟩ := o1.new (o := .xd [(f, v), (f2, u)]) hdx
        exact ac.xc _ _ _ _ _ q σ (some dx) L1 _ _ (s1.trans s2) ⟨o2, (n.env.step s1).step s2⟩ ⟨rfl, .inr ⟨dx, [v, u], rfl, upd_same, Reps.cons (rv.step s2) (Reps.cons (ru.step s2) Reps.nil)⟩⟩
/-! ### try -/
variable {body suite : List Stmt} {b₀ : Stmt} {i : Nat}
theorem Fx.tr {pn : List (Addr × Obj)} {xe : Value → Shared → Prop} {W' : WX} (g : Fx X W k N V Gs) (tk : Takes (X.tr pn xe) W') (po : PassesOwn (model X.prog X.w) X.A X.env xe) : Fx (X.tr pn xe) W' k N V Gs := ⟨⟨g.calm, g.nd, tk, po, g.hr, g.gr⟩, ⟨g.N_, g.ndN, g.ck⟩⟩
theorem wS_try (g : Fx X W k N V Gs) (hi : Il N V n i) (hcn : Names X x (.ref C))
    (hb : ∀ (W' : WX) (pn : List (Addr × Obj)) (xe : Value → Shared → Prop), Fx (X.tr pn xe) W' k N V Gs → wSs (X.tr pn xe) W' ρ μ body nx { κ with xc := fun C' ns ds ρ1 μ1 =>
      (PySem.W.exmOne X.K (.ref C') (.ref C) = some false ∧ κ.xc C' ns ds ρ1 μ1) ∨
      (PySem.W.exmOne X.K (.ref C') (.ref C) = some true ∧ ns ≠ [] ∧ ∀ (a dd : Addr) (oe : Obj) (pn : List (Addr × Obj)), Zc (.ref C') (some dd) oe → (∃ vs, oe.data = .fields vs) → Nx' (X.suite a ((a, oe) :: pn)) N V Gs → ∀ ρs, ρs = ρ1.set i (some (.exn a dd ns ds)) →
        wSs (X.suite a ((a, oe) :: pn)) W0 ρs μ1 (b₀ :: suite) (fun ρ2 μ2 => ∀ ρs, ρs = ρ2.set i none → nx ρs μ2) { rt := κ.rt, bk := fun ρ2 μ2 => κ.bk (ρ2.set i none) μ2, ct := fun ρ2 μ2 => κ.ct (ρ2.set i none) μ2 }) })
    (hs : X.stack = X.env :: X.outer := by rfl) (hf : X.env.frame = some X.env.locals := by rfl) : wS X W ρ μ (.Try body [.ExceptHandler (some (.Name x np)) (some n) (b₀ :: suite) pos'] [] [] pos) nx κ := by
  obtain ⟨e1, l1⟩ := hi.ex g.nm
  refine ⟨ps_of (ps_try_as (i := i) (tb := fun W' => fun D σ H => ∃ L G, Now X.K L G H μ ρ σ ∧ AccS W' X.K L G H D nx { κ with xc := fun C' ns ds ρ1 μ1 => _ }) (ts := fun a cls d => fun D σ H => ∀ oe pn, Zc cls d oe → (∃ vs, oe.data = .fields vs) → aSs (X.suite a ((a, oe) :: pn)) (b₀ :: suite) D σ H) (Wout := W) hs hf g.nd (by rw [g.N_]; exact e1) l1 hcn g.tk
    (fun W' pn xe tk po => (hb W' pn xe (g.tr tk po)).run) (fun a oe cls d pn hz hv => ⟨fun pins s σ H D I t => ?_⟩)) fun D σ H ⟨L, G, nw, ac⟩ => ⟨L, G, nw, ac.nx, ac.bk, ac.ct, ac.rt, fun C' ns ds ρ1 μ1 q σ' dx L' G' H' s' n' x' => ?_⟩⟩
  · exact aSs_ok.run pins s σ H D I (t oe pn hz hv)
  · rcases q with ⟨hno, q⟩ | ⟨hyes, hns, q⟩
    · exact ⟨false, hno, fun z => Bool.noConfusion z, fun _ => ac.xc _ _ _ _ _ q σ' dx L' G' H' s' n' x'⟩
    · rcases x'.2 with z | ⟨dd, vs, rfl, eg, rv⟩
      · exact (hns z).elim
      · refine ⟨true, hyes, fun _ a hna oe pn hz hv => ?_, fun z => Bool.noConfusion z⟩
        refine ⟨_, (q a dd oe pn hz hv ⟨g.N_, g.ndN, g.ck⟩ _ rfl).run, L', G', ⟨n'.ok, n'.env.set (rep_exn.mpr ⟨vs, rfl, eg, x'.1, rv⟩) i⟩, ?_⟩
        have a2 := ac.step s'
        exact ⟨fun ρ2 μ2 h2 σ2 L2 G2 H2 s2 n2 => a2.nx _ _ (h2 _ rfl) _ L2 G2 H2 s2 ⟨n2.ok, n2.env.unset i⟩, fun ρ2 μ2 h2 σ2 L2 G2 H2 s2 n2 => a2.bk _ _ h2 _ L2 G2 H2 s2 ⟨n2.ok, n2.env.unset i⟩, fun ρ2 μ2 h2 σ2 L2 G2 H2 s2 n2 => a2.ct _ _ h2 _ L2 G2 H2 s2 ⟨n2.ok, n2.env.unset i⟩, a2.rt, fun _ _ _ _ _ z => z.elim⟩
/-- e.f of the caught error -/
theorem wE_xf {a dd : Addr} {oe : Obj} {pn : List (Addr × Obj)} {f : Str} (T : XfC X.K C) (hno : PySem.W.findIn X.K (.ref C) f = some none) (hz : Zc (.ref C) (some dd) oe) (hv : ∃ vs, oe.data = .fields vs)
    (h : wE (X.suite a ((a, oe) :: pn)) W ρ μ e (fun d μ1 => ∃ ns ds d', d = .exn a dd ns ds ∧ fldOf ns ds f = some d' ∧ Q d' μ1) Z) (hb : attributeBase e f X.env (eval e X.env) = eval e X.env := by rfl) : wE (X.suite a ((a, oe) :: pn)) W ρ μ (.Attribute e f pos) Q Z :=
  ⟨pe_of (pe_xf T hno hz hv h.run hb) fun σ H R ⟨L, G, nw, av, ax⟩ => ⟨L, G, nw, fun d μ1 ⟨ns, ds, d', ed, hf, q⟩ v L1 G1 H1 s1 o1 r1 => by
    subst ed
    obtain ⟨vs, ev, eg, _, rr⟩ := rep_exn.mp r1
    obtain ⟨u, l, ru⟩ := fld_rep rr hf
    exact ⟨ev, rfl, dd, _, u, rfl, o1.sub _ _ eg, l, av _ _ q u L1 G1 H1 s1 o1 ru⟩, ax⟩⟩
end
end PM
set_option Elab.async false
set_option linter.all false
set_option maxRecDepth 100000
namespace PM
open PySem L2
/-! ### comprehensions -/
abbrev Z0 : KX := fun _ _ _ _ => False
/-- a target in a block: only own slots change -/
structure wGw (X : Cx) (vs : List Nat) (ρ : Env') (μ : List M) (tg : Expr) (d : D) (nx : Env' → Prop) : Prop where
  run : PG X tg (fun v σ H R => ∃ L G, Now X.K L G H μ ρ σ ∧ Rep X.K L G d v ∧ ∀ ρ', nx ρ' → ∀ σ' L' G' H', Step L G H L' G' H' → Now X.K L' G' H' μ ρ' σ' → wipe σ' vs = wipe σ vs → R σ' H')
structure wGws (X : Cx) (vs : List Nat) (ρ : Env') (μ : List M) (ts : List Expr) (ds : List D) (nx : Env' → Prop) : Prop where
  run : PGs X ts (fun us σ H R => ∃ L G, Now X.K L G H μ ρ σ ∧ Reps X.K L G ds us ∧ ∀ ρ', nx ρ' → ∀ σ' L' G' H', Step L G H L' G' H' → Now X.K L' G' H' μ ρ' σ' → wipe σ' vs = wipe σ vs → R σ' H')
structure wTs (X : Cx) (ρ : Env') (μ : List M) (ifs : List Expr) (Q : KT) : Prop where
  run : PTs X ifs (fun σ H R => ∃ L G, Now X.K L G H μ ρ σ ∧ ∀ b μ', Q b μ' → ComesT X.K L G H b μ' R)
/-- a block's context -/
abbrev InBlk (X : Cx) (k : Nat) (N : List Str) (V : List Kd) (Gs : List Str) (scope : Scope) (P : Cx → Prop) : Prop := ∀ (s : Shared) (H : Hp) (C : Addr) (cl : List (Str × Addr)) (fp : List Addr), Fx (X.blk s H scope (compEnvC scope cl C X.env) fp) W0 k N V Gs → P (X.blk s H scope (compEnvC scope cl C X.env) fp)
section
variable {X : Cx} {W : WX} {k : Nat} {N : List Str} {V V' : List Kd} {Gs Gs' : List Str} {ρ ρ' : Env'} {μ μ1 μ2 : List M} {e elt tg iter c : Expr} {es ifs : List Expr} {Q : KV} {Z : KX} {d : D} {ds : List D} {pos : Pos} {x : Str} {scope : Scope} {own : List (Str × Nat)} {vs : List Nat} {nx : Env' → Prop}
/-- a block's scope within a def's -/
def relabS (sc scope : Scope) : Scope := { scope with names := scope.names.map fun (n, k) => if (k == NameKind.free && sc.kind == .function && sc.names.lookup n == some .cell) then (n, NameKind.cell) else (n, k) }
theorem Fx.blk {s : Shared} {H : Hp} {C : Addr} {cl : List (Str × Addr)} {fp : List Addr} (g : Fx X W k N V Gs) (ck : ckB N V' Gs' (relabS X.env.scope scope) = true) : Fx (X.blk s H scope (compEnvC scope cl C X.env) fp) W0 k N V' Gs' := ⟨g.toGd.blk, ⟨g.N_, g.ndN, ck⟩⟩
theorem wGw_name {i : Nat} (g : Nx' X N V Gs) (hi : Il N V x i) (hv : i ∈ vs) (h : wPt N V x d ρ nx) : wGw X vs ρ μ (.Name x pos) d nx := by
  obtain ⟨e1, l1⟩ := hi.ex g.nm
  have hs := h.set g.nm g.ndN e1
  exact ⟨pg_of (ew_name (ρ := ρ) (μ := μ) (d := d) (vs := vs) i (by rw [g.N_]; exact g.ndN) hv (by rw [g.N_]; exact e1) (.inl l1) (.inr l1)) fun v σ H R ⟨L, G, n, r, a⟩ => ⟨L, G, n, r, a _ hs⟩⟩
theorem wGws_nil (h : nx ρ) : wGws X vs ρ μ [] [] nx := ⟨pgs_of pgs_nil fun v σ H R ⟨L, G, n, r, a⟩ => ⟨r.inv_nil, a _ h _ L G H (.refl _ _ _) n rfl⟩⟩
theorem wGws_cons (h : wGw X vs ρ μ e d (fun ρ1 => wGws X vs ρ1 μ es ds nx)) (hs : (assignEach (e :: es) X.env).map (·.2) = assign e X.env :: (assignEach es X.env).map (·.2) := by rfl) : wGws X vs ρ μ (e :: es) (d :: ds) nx :=
  ⟨pgs_of (pgs_cons h.run aGs_ok hs) fun us σ H R ⟨L, G, n, r, a⟩ => by
    obtain ⟨v, q, e, r1, r2⟩ := r.inv_cons
    exact ⟨v, q, e, L, G, n, r1, fun ρ1 q1 σ1 L1 G1 H1 s1 n1 w1 => ⟨_, q1.run, L1, G1, n1, r2.step s1, fun ρ' q' σ' L' G' H' s' n' w' => a ρ' q' σ' L' G' H' (s1.trans s') n' (w'.trans w1)⟩⟩⟩
theorem wGw_tup {kk : Nat} (hc : X.calm = true) (h : wGws X vs ρ μ es ds nx) (hn : (assignEach es X.env).length = ds.length := by rfl) (hst : (assignEach es X.env).findIdx? (·.1) = none := by rfl) : wGw X vs ρ μ (.Tuple es kk pos) (.tup ds) nx :=
  ⟨pg_of (pg_tup hc h.run hn hst) fun v σ H R ⟨L, G, n, r, a⟩ => by
    obtain ⟨a', us, e, q, r⟩ := rep_tup.mp r
    exact ⟨a', us, e, Same.sqT n.ok.sub q, r.length, L, G, n, r, a⟩⟩
theorem wTs_nil {Q : KT} (h : Q true μ) : wTs X ρ μ [] Q := ⟨⟨fun pins s σ H R I ⟨L, G, n, a⟩ => pts_nil.run pins s σ H R I (a _ _ h L G H (.refl _ _ _) n.ok)⟩⟩
theorem wTs_one {Q : KT} (h : wC X W0 ρ μ c Q Z0) : wTs X ρ μ [c] Q := ⟨⟨fun pins s σ H R I ⟨L, G, n, a⟩ => (pts_one h.run).run pins s σ H R I ⟨L, G, n, a, fun _ _ _ _ z => z.elim⟩⟩⟩
/-- one turn -/
def wTurn (X : Cx) (k : Nat) (N : List Str) (V : List Kd) (Gs : List Str) (scope : Scope) (vs : List Nat) (tg elt : Expr) (ifs : List Expr) (ρ : Env') (d : D) (μ : List M) (keep : D → List M → Prop) (skip : List M → Prop) : Prop :=
  InBlk X k N V Gs scope fun Y => wGw Y vs (wipeD ρ vs) μ tg d fun ρ1 => InBlk X k N V Gs scope fun Y => wTs Y ρ1 μ ifs fun b μ1 => if b = true then InBlk X k N V Gs scope fun Y => wE Y W0 ρ1 μ1 elt keep Z0 else skip μ1
/-- [elt for tg in iter if ..] by an invariant of what is left, what is done, the store -/
theorem wE_lc (V' : List Kd) (Gs' : List Str) (own : List (Str × Nat)) (Iv : List D → List D → List M → Prop) (g : Fx X W k N V Gs) {sc : Scope} (hsc : X.env.scope = sc) (ck : ckB N V' Gs' (relabS sc scope) = true) (ok : BlkOk X.N X.env.scope scope own)
    (hi : wI X W ρ μ tg iter (fun ds μ1 => ds.length ≤ sizeLine ∧ Iv ds [] μ1) Z)
    (ht : ∀ d ds done μ, Iv (d :: ds) done μ → wTurn X k N V' Gs' scope (own.map (·.2)) tg elt ifs ρ d μ (fun y μ1 => Iv ds (done ++ [y]) μ1) (fun μ1 => Iv ds done μ1))
    (hn : ∀ done μ, Iv [] done μ → Q (.lst done) μ) (hs : ∀ x, foldedSetIterable iter X.env x = pure x := by intro _; rfl) : wE X W ρ μ (.ListComp elt [⟨tg, iter, ifs, 0⟩] scope pos) Q Z := by
  have gb : ∀ (s : Shared) (H : Hp) (C : Addr) (cl : List (Str × Addr)) (fp : List Addr), Fx (X.blk s H scope (compEnvC scope cl C X.env) fp) W0 k N V' Gs' := fun s H C cl fp => g.blk (by rw [hsc]; exact ck)
  refine ⟨pe_of (pe_lc (g := bG X scope tg) (tt := bT X scope ifs) (te := bE X scope elt) g.calm g.nd hi.run ok (fun s H C cl fp => ⟨fun pins s' σ H' v u Q I r ⟨t, p, q⟩ => (p s H C cl fp).run pins s' σ H' v u Q I r q⟩)
    (fun s H C cl fp => ⟨fun pins s' σ H' Q I ⟨t, p, q⟩ => (p s H C cl fp).run pins s' σ H' Q I q⟩) (fun s H C cl fp => ⟨fun pins s' σ H' Q I ⟨t, p, q⟩ => (p s H C cl fp).run pins s' σ H' Q I q⟩) hs) fun σ H R ⟨L, G, nw, av, ax⟩ => ⟨L, G, nw, fun ds μ1 ⟨hl, i0⟩ J L1 G1 H1 s1 o1 j D hD => ?_, ax⟩⟩
  have oD := (o1.newH (o := .lst []) hD).1
  refine ⟨fun i m H' => m = ds.length - i ∧ i ≤ ds.length ∧ ∃ done us μ' L' G', Iv (ds.drop i) done μ' ∧ H' D = some (.lst us) ∧ Reps X.K L' G' done us ∧ Ok X.K L' G' H' μ' ∧ Step L1 G1 H1 L' G' H' ∧ G' D = none ∧ D ∉ L' ∧ done.length ≤ i,
    ⟨ds.length, by simp, Nat.zero_le _, [], [], μ1, L1, G1, i0, upd_same, Reps.nil, oD, (Step.refl L1 G1 H1).poke hD, Same.free o1.sub hD, fun z => mem_ne o1.liv hD D z rfl, Nat.zero_le _⟩, ?_⟩
  rintro i m H2 ⟨rfl, hil, done, us, μ', L2, G2, h2, eD, rd, o2, s2, gD2, nD2, hdi⟩
  have nw2 : ∀ {Lx Gx Hx μx}, Step L2 G2 H2 Lx Gx Hx → Ok X.K Lx Gx Hx μx → Now X.K Lx Gx Hx μx (wipeD ρ (own.map (·.2))) (wipe σ (own.map (·.2))) := fun sx ox => ⟨ox, (nw.env.wipe _).mono ((s1.trans s2).trans sx).pre ((s1.trans s2).trans sx).gs⟩
  have keepD : ∀ {Lx Gx Hx}, Step L2 G2 H2 Lx Gx Hx → Hx D = some (.lst us) ∧ Gx D = none ∧ D ∉ Lx := fun {Lx Gx Hx} sx => by
    refine ⟨sx.hs D _ eD nD2, ?_, fun z => ?_⟩
    · cases e : Gx D with
      | none => rfl
      | some o =>
        rcases sx.gf D o e with q | q
        · rw [gD2] at q; cases q
        · rw [eD] at q; cases q
    · rcases sx.fr D z with q | q
      · exact nD2 q
      · rw [eD] at q; cases q
  generalize hd : ds.drop i = dr at h2
  cases dr with
  | nil =>
    have ei : i = ds.length := by
      have := congrArg List.length hd
      simp at this
      omega
    subst ei
    refine .inl ⟨j.stop L2 G2 H2 _ s2.pre s2.gs o2, ?_⟩
    obtain ⟨o3, sg⟩ := o2.tell (p := D) (o := .lst us) eD nD2
    exact av _ _ (hn _ _ h2) _ L2 _ H2 (s1.trans (s2.tell hD sg)) o3 (rep_lst.mpr ⟨D, us, rfl, upd_same, rd.mono (.refl _) sg⟩)
  | cons d ds' =>
    obtain ⟨e1, e2⟩ := drop_cons hd
    obtain ⟨go, yl⟩ := j.go L2 G2 H2 μ' i d s2.pre s2.gs o2 e1
    have il : i < ds.length := (List.getElem?_eq_some_iff.mp e1).1
    refine .inr ⟨go, fun H' => ∃ done' us' μb L' G', Iv ds' done' μb ∧ H' D = some (.lst us') ∧ Reps X.K L' G' done' us' ∧ Ok X.K L' G' H' μb ∧ Step L1 G1 H1 L' G' H' ∧ G' D = none ∧ D ∉ L' ∧ done'.length ≤ i + 1, fun H' ⟨done', us', μb, L', G', q0, q1, q2, q3, q4, q5, q6, q7⟩ => ⟨ds.length - (i + 1), by omega, rfl, il, done', us', μb, L', G', by rw [e2]; exact q0, q1, q2, q3, q4, q5, q6, q7⟩, fun x H3 yy => ?_⟩
    obtain ⟨G3, s3, o3, r3⟩ := yl x H3 yy
    refine ⟨fun v σ H R => ∃ L G, Now X.K L G H μ' (wipeD ρ (own.map (·.2))) σ ∧ Rep X.K L G d v ∧ ∀ ρ', _ → ∀ σ' L' G' H', Step L G H L' G' H' → Now X.K L' G' H' μ' ρ' σ' → wipe σ' (own.map (·.2)) = wipe σ (own.map (·.2)) → R σ' H', fun s H C cl fp => ((ht d ds' done μ' h2) s H C cl fp (gb s H C cl fp)).run, L2, G3, nw2 s3 o3, r3, fun ρ1 h1 σ4 L4 G4 H4 s4 n4 w4 => ⟨by rw [w4, wipe_idem], fun σ H R => ∃ L G, Now X.K L G H μ' ρ1 σ ∧ ∀ b μ5, _ → ComesT X.K L G H b μ5 R, fun s H C cl fp => (h1 s H C cl fp (gb s H C cl fp)).run, L4, G4, n4, fun b μ5 h5 L5 G5 H5 s5 o5 => ?_⟩⟩
    cases b with
    | true =>
      refine iteT ⟨fun σ H R => ∃ L G, Now X.K L G H μ5 ρ1 σ ∧ AccV X.K L G H _ R ∧ AccX W0 X.K L G H σ Z0, fun s H C cl fp => ((show InBlk X k N V' Gs' scope fun Y => wE Y W0 ρ1 μ5 elt _ Z0 from h5) s H C cl fp (gb s H C cl fp)).run, L5, G5, n4.step s5 o5, fun y μ6 h6 v L6 G6 H6 s6 o6 r6 => ?_, fun _ _ _ _ z => z.elim⟩
      have s36 := ((s3.trans s4).trans s5).trans s6
      obtain ⟨k1, k2, k3⟩ := keepD s36
      refine ⟨us, k1, ?_, done ++ [y], us ++ [v], μ6, L6, G6, h6, upd_same, (rd.step s36).append (Reps.cons r6 Reps.nil), o6.poke k3 k2, (s2.trans s36).poke hD, k2, k3, by simp; omega⟩
      rw [rd.length]
      omega
    | false =>
      have s35 := (s3.trans s4).trans s5
      obtain ⟨k1, k2, k3⟩ := keepD s35
      exact iteF ⟨done, us, μ5, L5, G5, h5, k1, rd.step s35, o5, s2.trans s35, k2, k3, by omega⟩
/-- y = [..]: the name's own slot is written in one go -/
theorem wS_setLc (V' : List Kd) (Gs' : List Str) (own : List (Str × Nat)) (Iv : List D → List D → List M → Prop) {nx : KN} {κ : Ks} {y : Str} {i : Nat} {py spos : Pos} (g : Fx X W k N V Gs) (hy : Il N V y i) {sc : Scope} (hsc : X.env.scope = sc) (ck : ckB N V' Gs' (relabS sc scope) = true) (ok : BlkOk X.N X.env.scope scope own)
    (hi : wI X W ρ μ tg iter (fun ds μ1 => ds.length ≤ sizeLine ∧ Iv ds [] μ1) (κ.z ρ))
    (ht : ∀ d ds done μ, Iv (d :: ds) done μ → wTurn X k N V' Gs' scope (own.map (·.2)) tg elt ifs ρ d μ (fun y μ1 => Iv ds (done ++ [y]) μ1) (fun μ1 => Iv ds done μ1))
    (hn : ∀ done μ, Iv [] done μ → wPt N V y (.lst done) ρ (fun ρ' => nx ρ' μ))
    (hkd : X.env.scope.kind = .function := by rfl) (hl : (py.line == pos.line) = true := by rfl) (hnm : (scope.names.any fun (n, k) => n == y && (k == .local || k == .cell)) = false := by decide +kernel)
    (hs : ∀ x, foldedSetIterable iter X.env x = pure x := by intro _; rfl) : wS X W ρ μ (.Assign [.Name y py] (.ListComp elt [⟨tg, iter, ifs, 0⟩] scope pos) spos) nx κ := by
  obtain ⟨e1, l1⟩ := hy.ex g.nm
  have gb : ∀ (s : Shared) (H : Hp) (C : Addr) (cl : List (Str × Addr)) (fp : List Addr), Fx (X.blk s H scope (compEnvC scope cl C X.env) fp) W0 k N V' Gs' := fun s H C cl fp => g.blk (by rw [hsc]; exact ck)
  refine ⟨ps_of (ps_setLc (g := bG X scope tg) (tt := bT X scope ifs) (te := bE X scope elt) g.calm g.nd (by rw [g.N_]; exact e1) l1 (sw_true hkd l1 hl hnm) hi.run ok (fun s H C cl fp => ⟨fun pins s' σ H' v u Q I r ⟨t, p, q⟩ => (p s H C cl fp).run pins s' σ H' v u Q I r q⟩)
    (fun s H C cl fp => ⟨fun pins s' σ H' Q I ⟨t, p, q⟩ => (p s H C cl fp).run pins s' σ H' Q I q⟩) (fun s H C cl fp => ⟨fun pins s' σ H' Q I ⟨t, p, q⟩ => (p s H C cl fp).run pins s' σ H' Q I q⟩) hs) fun DD σ H ⟨L, G, nw, ac⟩ => ⟨L, G, nw, fun ds μ1 ⟨hl, i0⟩ J L1 G1 H1 s1 o1 j D hD => ?_, ac.x nw⟩⟩
  have oD := (o1.newH (o := .lst []) hD).1
  refine ⟨fun i m H' => m = ds.length - i ∧ i ≤ ds.length ∧ ∃ done us μ' L' G', Iv (ds.drop i) done μ' ∧ H' D = some (.lst us) ∧ Reps X.K L' G' done us ∧ Ok X.K L' G' H' μ' ∧ Step L1 G1 H1 L' G' H' ∧ G' D = none ∧ D ∉ L' ∧ done.length ≤ i,
    ⟨ds.length, by simp, Nat.zero_le _, [], [], μ1, L1, G1, i0, upd_same, Reps.nil, oD, (Step.refl L1 G1 H1).poke hD, Same.free o1.sub hD, fun z => mem_ne o1.liv hD D z rfl, Nat.zero_le _⟩, ?_⟩
  rintro i m H2 ⟨rfl, hil, done, us, μ', L2, G2, h2, eD, rd, o2, s2, gD2, nD2, hdi⟩
  have nw2 : ∀ {Lx Gx Hx μx}, Step L2 G2 H2 Lx Gx Hx → Ok X.K Lx Gx Hx μx → Now X.K Lx Gx Hx μx (wipeD ρ (own.map (·.2))) (wipe σ (own.map (·.2))) := fun sx ox => ⟨ox, (nw.env.wipe _).mono ((s1.trans s2).trans sx).pre ((s1.trans s2).trans sx).gs⟩
  have keepD : ∀ {Lx Gx Hx}, Step L2 G2 H2 Lx Gx Hx → Hx D = some (.lst us) ∧ Gx D = none ∧ D ∉ Lx := fun {Lx Gx Hx} sx => by
    refine ⟨sx.hs D _ eD nD2, ?_, fun z => ?_⟩
    · cases e : Gx D with
      | none => rfl
      | some o =>
        rcases sx.gf D o e with q | q
        · rw [gD2] at q; cases q
        · rw [eD] at q; cases q
    · rcases sx.fr D z with q | q
      · exact nD2 q
      · rw [eD] at q; cases q
  generalize hd : ds.drop i = dr at h2
  cases dr with
  | nil =>
    have ei : i = ds.length := by
      have := congrArg List.length hd
      simp at this
      omega
    subst ei
    refine .inl ⟨j.stop L2 G2 H2 _ s2.pre s2.gs o2, ?_⟩
    obtain ⟨o3, sg⟩ := o2.tell (p := D) (o := .lst us) eD nD2
    have s4 := s1.trans (s2.tell hD sg)
    exact ac.nx _ _ ((hn _ _ h2).set g.nm g.ndN e1) _ L2 _ H2 s4 ⟨o3, (nw.env.step s4).set (rep_lst.mpr ⟨D, us, rfl, upd_same, rd.mono (.refl _) sg⟩) _⟩
  | cons d ds' =>
    obtain ⟨e1, e2⟩ := drop_cons hd
    obtain ⟨go, yl⟩ := j.go L2 G2 H2 μ' i d s2.pre s2.gs o2 e1
    have il : i < ds.length := (List.getElem?_eq_some_iff.mp e1).1
    refine .inr ⟨go, fun H' => ∃ done' us' μb L' G', Iv ds' done' μb ∧ H' D = some (.lst us') ∧ Reps X.K L' G' done' us' ∧ Ok X.K L' G' H' μb ∧ Step L1 G1 H1 L' G' H' ∧ G' D = none ∧ D ∉ L' ∧ done'.length ≤ i + 1, fun H' ⟨done', us', μb, L', G', q0, q1, q2, q3, q4, q5, q6, q7⟩ => ⟨ds.length - (i + 1), by omega, rfl, il, done', us', μb, L', G', by rw [e2]; exact q0, q1, q2, q3, q4, q5, q6, q7⟩, fun x H3 yy => ?_⟩
    obtain ⟨G3, s3, o3, r3⟩ := yl x H3 yy
    refine ⟨fun v σ H R => ∃ L G, Now X.K L G H μ' (wipeD ρ (own.map (·.2))) σ ∧ Rep X.K L G d v ∧ ∀ ρ', _ → ∀ σ' L' G' H', Step L G H L' G' H' → Now X.K L' G' H' μ' ρ' σ' → wipe σ' (own.map (·.2)) = wipe σ (own.map (·.2)) → R σ' H', fun s H C cl fp => ((ht d ds' done μ' h2) s H C cl fp (gb s H C cl fp)).run, L2, G3, nw2 s3 o3, r3, fun ρ1 h1 σ4 L4 G4 H4 s4 n4 w4 => ⟨by rw [w4, wipe_idem], fun σ H R => ∃ L G, Now X.K L G H μ' ρ1 σ ∧ ∀ b μ5, _ → ComesT X.K L G H b μ5 R, fun s H C cl fp => (h1 s H C cl fp (gb s H C cl fp)).run, L4, G4, n4, fun b μ5 h5 L5 G5 H5 s5 o5 => ?_⟩⟩
    cases b with
    | true =>
      refine iteT ⟨fun σ H R => ∃ L G, Now X.K L G H μ5 ρ1 σ ∧ AccV X.K L G H _ R ∧ AccX W0 X.K L G H σ Z0, fun s H C cl fp => ((show InBlk X k N V' Gs' scope fun Y => wE Y W0 ρ1 μ5 elt _ Z0 from h5) s H C cl fp (gb s H C cl fp)).run, L5, G5, n4.step s5 o5, fun y μ6 h6 v L6 G6 H6 s6 o6 r6 => ?_, fun _ _ _ _ z => z.elim⟩
      have s36 := ((s3.trans s4).trans s5).trans s6
      obtain ⟨k1, k2, k3⟩ := keepD s36
      refine ⟨us, k1, ?_, done ++ [y], us ++ [v], μ6, L6, G6, h6, upd_same, (rd.step s36).append (Reps.cons r6 Reps.nil), o6.poke k3 k2, (s2.trans s36).poke hD, k2, k3, by simp; omega⟩
      rw [rd.length]
      omega
    | false =>
      have s35 := (s3.trans s4).trans s5
      obtain ⟨k1, k2, k3⟩ := keepD s35
      exact iteF ⟨done, us, μ5, L5, G5, h5, k1, rd.step s35, o5, s2.trans s35, k2, k3, by omega⟩
end
end PM
set_option Elab.async false
set_option linter.all false
set_option maxRecDepth 100000
namespace PM
open PySem L2
/-! ### calls by keywords -/
structure wK (X : Cx) (W : WX) (ρ : Env') (μ : List M) (kws : List Keyword) (Q : KA) (Z : KX) : Prop where
  run : PK X kws (fun σ H R => ∃ L G, Now X.K L G H μ ρ σ ∧ (∀ ds μ', Q ds μ' → ComesA X.K L G H ds μ' R) ∧ AccX W X.K L G H σ Z)
def aK (X : Cx) (kws : List Keyword) : TA := fun σ H Q => ∃ t, PK X kws t ∧ t σ H Q
section
variable {X : Cx} {W : WX} {k n : Nat} {N : List Str} {V : List Kd} {Gs ks : List Str} {p : List Nat} {ρ : Env'} {μ μ1 : List M} {e ob : Expr} {es : List Expr} {Q : KV} {Z : KX} {QA : KA} {d : D} {ds es' : List D} {pp pos apos kpos : Pos} {x m : Str} {f : Fnx} {C pr : Addr} {pl : Sem Bool} {kws : List Keyword} {nm : Option Str}
theorem aK_ok : PK X kws (aK X kws) := ⟨fun pos pins s σ H Q I ⟨t, p, q⟩ => p.run pos pins s σ H Q I q⟩
theorem wK_nil (h : QA [] μ) : wK X W ρ μ [] QA Z := ⟨pk_of pk_nil fun σ H R ⟨L, G, n, v, x⟩ => v [] μ h [] L G H (.refl _ _ _) n.ok Reps.nil⟩
theorem wK_cons (h : wE X W ρ μ e (fun d μ1 => wK X W ρ μ1 kws (fun ds μ2 => QA (d :: ds) μ2) Z) Z) : wK X W ρ μ (⟨nm, e, kpos⟩ :: kws) QA Z :=
  ⟨pk_of (pk_cons h.run aK_ok) fun σ H R ⟨L, G, n, v, x⟩ => ⟨L, G, n, fun d μ1 q u L1 G1 H1 s1 o1 r1 => ⟨_, q.run, L1, G1, n.step s1 o1, fun ds μ2 q2 us L2 G2 H2 s2 o2 r2 => v _ _ q2 _ L2 G2 H2 (s1.trans s2) o2 (Reps.cons (r1.step s2) r2), x.step s1⟩, x⟩⟩
theorem wK.go {pins : List (Addr × Obj)} {s : Shared} {σ : L2.St} {H : Hp} {L : List Addr} {G : Hp} (h : wK X W ρ μ kws QA Z) (I : Inv X pins σ H s) (n : Now X.K L G H μ ρ σ) (z : AccX W X.K L G H σ Z) (pos : Pos) :
    wpAny (model X.prog X.w) X.A (evalAll ((backToKw pos (keywordEach kws X.env)).map (·.2))) (fun us s1 => ∃ vs ds μ1 L1 G1 H1, Inv X pins σ H1 s1 ∧ Vals vs us ∧ QA ds μ1 ∧ Step L G H L1 G1 H1 ∧ Ok X.K L1 G1 H1 μ1 ∧ Reps X.K L1 G1 ds vs) X.xe s :=
  thn (h.run.run pos pins s σ H (fun vs H1 => ∃ ds μ1 L1 G1, QA ds μ1 ∧ Step L G H L1 G1 H1 ∧ Ok X.K L1 G1 H1 μ1 ∧ Reps X.K L1 G1 ds vs) I ⟨L, G, n, fun ds μ' q vs L' G' H' s' o' r' => ⟨ds, μ', L', G', q, s', o', r'⟩, z⟩)
    fun us s1 ⟨vs, H1, I1, r1, ds, μ1, L1, G1, q, st, o, r⟩ => ⟨vs, ds, μ1, L1, G1, H1, I1, r1, q, st, o, r⟩
/-- f(k = v, ..) -/
theorem xE_callK (f : Fnx) (g : Fx X W k N V Gs) (hi : In x Gs) (hm : X.mg x = some (.ref f.a)) (hk : PySem.W.keepIn X.K (.ref f.a) = true) (hb : KwB X.K f.fd f.ps 0 ks p) (h : wK X W ρ μ kws (fun ds μ1 => ds.length = ks.length ∧ SpX X f (pick p ds) μ1 Q Z) Z) (hj : f.lv ≤ k := by exact Nat.le_of_ble_eq_true rfl)
    (hall : (backToKw pos (keywordEach kws X.env)).all (·.1.isSome) = true := by rfl) (hks : (backToKw pos (keywordEach kws X.env)).filterMap (·.1) = ks := by rfl)
    (hpl : ((backTo pos (starEach [] X.env)).any (·.1) || (backToKw pos (keywordEach kws X.env)).any (·.1.isNone)) = false := by rfl) : wE X W ρ μ (.Call (.Name x pp) [] kws pos) Q Z := by
  refine .by fun pins s σ H R L G I n v z => ?_
  refine wpAny_Call_Name_kw (ld_glob I (g.gl hi).1 hm ?_ (g.gl hi).2.1)
  refine PySem.W.callWith_KW0 (h₀ := X.base) I.ok.mod.kin hk hall ?_ hpl
  refine thn (h.go I n z pos) fun ws s2 ⟨zs, ds, μ1, L2, G2, H2, I2, rz, ⟨hl, sp⟩, st2, o2, r2⟩ => ⟨I2.kIn, ?_⟩
  rw [hks]
  have hsp : spH X.K (pick p ds) μ1 Q Z (pick p zs) H2 R (WE W σ) := ⟨L2, G2, o2, pick_reps r2, v.step st2, z.step st2⟩
  have bd := hb.to s2 [] ws I2.kIn rfl (by rw [← rz.length, r2.length, hl])
  exact run_fnG (E := WE W σ) sp (g.hr.mono hj) g.gr bd (passAt g.tk σ) I2 (pick_vals rz) hsp
/-- o.m(k = v, ..) -/
theorem wE_methK (f : Fnx) (g : Gd X W k) (cl : Cls X.K C) (hm : Meth X.K C m f.a) (hb : KwB X.K f.fd f.ps 1 ks p) (h : wE X W ρ μ ob (fun d μ1 => Recv C m μ1 d ∧ wK X W ρ μ1 kws (fun ds μ2 => ds.length = ks.length ∧ SpX X f (pick p (d :: ds)) μ2 Q Z) Z) Z) (hj : f.lv ≤ k := by exact Nat.le_of_ble_eq_true rfl)
    (hall : (backToKw pos (keywordEach kws X.env)).all (·.1.isSome) = true := by rfl) (hks : (backToKw pos (keywordEach kws X.env)).filterMap (·.1) = ks := by rfl)
    (hpl : ((backTo pos (starEach [] X.env)).any (·.1) || (backToKw pos (keywordEach kws X.env)).any (·.1.isNone)) = false := by rfl)
    (ht : eval (.Call (.Attribute ob m apos) [] kws pos) X.env = (do
      let ov ← eval ob X.env
      standAt apos.atName
      let (f, first) ← holding [ov] (getMethod ov m pl)
      callWith pos f first (backTo pos (starEach [] X.env)) (backToKw pos (keywordEach kws X.env))) := by rfl) : wE X W ρ μ (.Call (.Attribute ob m apos) [] kws pos) Q Z := by
  refine .by fun pins s σ H R L G I n v z => ?_
  refine PySem.W.methodCall_KW (pl := pl) (thn (h.go I n z) fun u s1 ⟨y, d, μ1, L1, G1, H1, I1, ry, ⟨hr, ha⟩, st1, o1, r1⟩ => ?_) ht
  obtain ⟨a, dx, fs, ex, ea, l⟩ := hr.at_ o1 r1
  subst ex
  obtain rfl : u = Value.ref a := ry
  refine getmeth_ok I1 ea cl hm l ?_
  refine PySem.W.callWith_KW0 (first := [.ref a]) (h₀ := X.base) I1.ok.mod.kin hm.kp hall ?_ hpl
  refine thn (ha.go I1 (n.step st1 o1) (z.step st1) pos) fun ws s2 ⟨zs, ds, μ2, L2, G2, H2, I2, rz, ⟨hl, sp⟩, st2, o2, r2⟩ => ⟨I2.kIn, ?_⟩
  rw [hks]
  have hsp : spH X.K (pick p (d :: ds)) μ2 Q Z (pick p (.ref a :: zs)) H2 R (WE W σ) := ⟨L2, G2, o2, pick_reps (Reps.cons (r1.step st2) r2), v.step (st1.trans st2), z.step (st1.trans st2)⟩
  have bd := hb.to s2 [.ref a] ws I2.kIn rfl (by rw [← rz.length, r2.length, hl])
  exact run_fnG (E := WE W σ) sp (g.hr.mono hj) g.gr bd (passAt g.tk σ) I2 (pick_vals (vs := .ref a :: zs) (.cons rfl rz)) hsp
/-- C.m(k = v, ..), a class method -/
theorem wE_cmethK {mc : Value} (f : Fnx) (gd : Gd X W k) (r : ClX.CRead X.K C mc) (cm : ClX.CMet X.K C mc m pr f.a) (hb : KwB X.K f.fd f.ps 1 ks p) (h : wE X W ρ μ ob (fun d μ1 => d = .ref C ∧ wK X W ρ μ1 kws (fun ds μ2 => ds.length = ks.length ∧ SpX X f (pick p (.ref C :: ds)) μ2 Q Z) Z) Z) (hj : f.lv ≤ k := by exact Nat.le_of_ble_eq_true rfl)
    (hall : (backToKw pos (keywordEach kws X.env)).all (·.1.isSome) = true := by rfl) (hks : (backToKw pos (keywordEach kws X.env)).filterMap (·.1) = ks := by rfl)
    (hpl : ((backTo pos (starEach [] X.env)).any (·.1) || (backToKw pos (keywordEach kws X.env)).any (·.1.isNone)) = false := by rfl)
    (ht : eval (.Call (.Attribute ob m apos) [] kws pos) X.env = (do
      let ov ← eval ob X.env
      standAt apos.atName
      let (f, first) ← holding [ov] (getMethod ov m pl)
      callWith pos f first (backTo pos (starEach [] X.env)) (backToKw pos (keywordEach kws X.env))) := by rfl) : wE X W ρ μ (.Call (.Attribute ob m apos) [] kws pos) Q Z := by
  refine .by fun pins s σ H R L G I n v z => ?_
  refine PySem.W.methodCall_KW (pl := pl) (thn (h.go I n z) fun u s1 ⟨y, d, μ1, L1, G1, H1, I1, ry, ⟨ed, ha⟩, st1, o1, r1⟩ => ?_) ht
  subst ed
  have ex := rep_ref.mp r1
  subst ex
  obtain rfl : u = Value.ref C := ry
  refine ClX.getmethcm_ok I1 r cm fun s2 I2 => ?_
  refine PySem.W.callWith_of hpl (PySem.W.keeps_M cm.fi) (PyProof.Rows.evalArgs_kw2_nil hall (thn (ha.go I2 (n.step st1 o1) (z.step st1) pos) fun ws s3 ⟨zs, ds, μ2, L2, G2, H2, I3, rz, ⟨hl, sp⟩, st2, o2, r2⟩ => ⟨⟨ClX.pin_at I3, I3.kIn⟩, ?_⟩))
  rw [hks]
  have zz : wpAny (model X.prog X.w) X.A (call (.ref s1.heap.objs.size) [] (ks.zip ws)) (EP X ((s1.heap.objs.size, PySem.W.methodObj (.ref f.a) (.ref C)) :: pins) σ R) X.xe s3 := by
    refine wpAny_call (PySem.W.method_call (ClX.pin_at I3) ?_)
    have hsp : spH X.K (pick p (.ref C :: ds)) μ2 Q Z (pick p (.ref C :: zs)) H2 R (WE W σ) := ⟨L2, G2, o2, pick_reps (Reps.cons (r1.step st2) r2), v.step (st1.trans st2), z.step (st1.trans st2)⟩
    have bd := hb.to s3 [.ref C] ws I3.kIn rfl (by rw [← rz.length, r2.length, hl])
    refine codeAny_mono (sp.run X.A X.stack s3 H2 ⟨[Value.ref C], ks.zip ws⟩ (pick p (Value.ref C :: ws)) (pick p (.ref C :: zs)) R (WE W σ) (gd.hr.mono hj) gd.gr I3.env0 bd (pick_vals (.cons rfl rz)) hsp) fun r s' hq => ?_
    cases r with
    | error e => exact passAt gd.tk σ _ H2 s3 e s' I3 hq
    | ok fl =>
      cases fl with
      | ret u => exact I3.after hq
      | next => exact False.elim hq
      | brk => exact False.elim hq
      | cont => exact False.elim hq
  exact thn zz fun _ _ y => ClX.unpinE y
/-- C(k = v, ..) -/
theorem xE_makeK {q : List Nat} (g : Fx X W k N V Gs) (hi : In x Gs) (hm : X.mg x = some (.ref C)) (Mk : Mk X.K C f.a) (hb : KwB X.K f.fd f.ps 1 ks (0 :: q.map (· + 1))) {Rl' : Rl} (F : FnG X.prog X.w X.K X.mg X.base f.lv f.a f.fd f.ps (spR X.K Rl')) (h : wK X W ρ μ kws (fun ds μ1 => ds.length = ks.length ∧ ∃ o, MakeR Rl' C (pick q ds) μ1 o ∧ o.In Q Z) Z) (hj : f.lv + 1 ≤ k := by exact Nat.le_of_ble_eq_true rfl)
    (hall : (backToKw pos (keywordEach kws X.env)).all (·.1.isSome) = true := by rfl) (hks : (backToKw pos (keywordEach kws X.env)).filterMap (·.1) = ks := by rfl)
    (hpl : ((backTo pos (starEach [] X.env)).any (·.1) || (backToKw pos (keywordEach kws X.env)).any (·.1.isNone)) = false := by rfl) : wE X W ρ μ (.Call (.Name x pp) [] kws pos) Q Z := by
  refine .by fun pins s σ H R L G I n v z => ?_
  refine wpAny_Call_Name_kw (ld_glob I (g.gl hi).1 hm ?_ (g.gl hi).2.1)
  refine PySem.W.callWith_KW0 (h₀ := X.base) I.ok.mod.kin Mk.kp hall ?_ hpl
  refine thn (h.go I n z pos) fun ws s2 ⟨zs, ds, μ1, L2, G2, H2, I2, rz, ⟨hl, o, hR, ho⟩, st2, o2, r2⟩ => ⟨I2.kIn, ?_⟩
  rw [hks]
  exact run_makeKG Mk F g.toGd hj hb I2 rz o2 r2 hl hR (CO.of (v.step st2) (z.step st2) ho)
end
end PM
set_option Elab.async false
set_option linter.all false
set_option maxRecDepth 100000
set_option maxHeartbeats 4000000
namespace PM
open PySem L2
/-! ### the text by places -/
def top (i : Nat) : Stmt := PySem.Challenge.pw_poolsmeet_k02_ratios_made.main.body.getD i (.Pass ⟨0, 0, 0, 0⟩)
abbrev s_InvalidNumber_init : Stmt := inClass (top 2) 0
abbrev s_is_integer : Stmt := top 6
abbrev s_is_number : Stmt := top 7
abbrev s_as_ratio : Stmt := top 8
abbrev s_common_divisor : Stmt := top 9
abbrev s_digits_value : Stmt := top 10
abbrev s_Ratio_init : Stmt := inClass (top 11) 0
abbrev s_Ratio_of : Stmt := inClass (top 11) 1
abbrev s_Ratio_read : Stmt := inClass (top 11) 2
abbrev s_Ratio_is_whole : Stmt := inClass (top 11) 3
abbrev s_Ratio_floor : Stmt := inClass (top 11) 4
abbrev s_Ratio_over : Stmt := inClass (top 11) 5
abbrev s_Ratio_repr : Stmt := inClass (top 11) 6
abbrev s_Ratio_str : Stmt := inClass (top 11) 7
abbrev s_Ratio_bool : Stmt := inClass (top 11) 8
abbrev s_Ratio_neg : Stmt := inClass (top 11) 9
abbrev s_Ratio_abs : Stmt := inClass (top 11) 10
abbrev s_Ratio_add : Stmt := inClass (top 11) 11
abbrev s_Ratio_radd : Stmt := inClass (top 11) 12
abbrev s_Ratio_sub : Stmt := inClass (top 11) 13
abbrev s_Ratio_rsub : Stmt := inClass (top 11) 14
abbrev s_Ratio_mul : Stmt := inClass (top 11) 15
abbrev s_Ratio_rmul : Stmt := inClass (top 11) 16
abbrev s_Ratio_floordiv : Stmt := inClass (top 11) 17
abbrev s_Ratio_mod : Stmt := inClass (top 11) 18
abbrev s_Ratio_eq : Stmt := inClass (top 11) 19
abbrev s_Ratio_ne : Stmt := inClass (top 11) 20
abbrev s_Ratio_lt : Stmt := inClass (top 11) 21
abbrev s_Ratio_le : Stmt := inClass (top 11) 22
abbrev s_Ratio_gt : Stmt := inClass (top 11) 23
abbrev s_Ratio_ge : Stmt := inClass (top 11) 24
abbrev s_w_box : Stmt := top 13
abbrev s_w_take : Stmt := top 14
abbrev s_w_lowest : Stmt := top 15
abbrev s_w_integer : Stmt := top 16
abbrev s_w_is : Stmt := top 17
abbrev s_w_text : Stmt := top 18
abbrev s_w_told_right : Stmt := top 19
abbrev s_w_refused : Stmt := top 20
abbrev s_law : Stmt := top 21
/-- slots: 0 self, 1 value -/
abbrev n_InvalidNumber_init : List Str := ["self", "value"]
abbrev v_InvalidNumber_init : List Kd := [.loc, .loc]
abbrev g_InvalidNumber_init : List Str := ["PoolError"]
theorem ck_InvalidNumber_init : ckB n_InvalidNumber_init v_InvalidNumber_init g_InvalidNumber_init (defScope s_InvalidNumber_init) = true := by decide +kernel
theorem sc_InvalidNumber_init : FnScope n_InvalidNumber_init ["self", "value"] (defScope s_InvalidNumber_init) := ⟨rfl, rfl, rfl, by decide +kernel, rfl, by decide +kernel, by decide +kernel⟩
/-- slots: 0 value -/
abbrev n_is_integer : List Str := ["value"]
abbrev v_is_integer : List Kd := [.loc]
abbrev g_is_integer : List Str := ["isinstance", "int", "bool"]
theorem ck_is_integer : ckB n_is_integer v_is_integer g_is_integer (defScope s_is_integer) = true := by decide +kernel
theorem sc_is_integer : FnScope n_is_integer ["value"] (defScope s_is_integer) := ⟨rfl, rfl, rfl, by decide +kernel, rfl, by decide +kernel, by decide +kernel⟩
/-- slots: 0 value -/
abbrev n_is_number : List Str := ["value"]
abbrev v_is_number : List Kd := [.loc]
abbrev g_is_number : List Str := ["isinstance", "Ratio", "is_integer"]
theorem ck_is_number : ckB n_is_number v_is_number g_is_number (defScope s_is_number) = true := by decide +kernel
theorem sc_is_number : FnScope n_is_number ["value"] (defScope s_is_number) := ⟨rfl, rfl, rfl, by decide +kernel, rfl, by decide +kernel, by decide +kernel⟩
/-- slots: 0 value -/
abbrev n_as_ratio : List Str := ["value"]
abbrev v_as_ratio : List Kd := [.loc]
abbrev g_as_ratio : List Str := ["isinstance", "Ratio", "is_integer", "InvalidNumber"]
theorem ck_as_ratio : ckB n_as_ratio v_as_ratio g_as_ratio (defScope s_as_ratio) = true := by decide +kernel
theorem sc_as_ratio : FnScope n_as_ratio ["value"] (defScope s_as_ratio) := ⟨rfl, rfl, rfl, by decide +kernel, rfl, by decide +kernel, by decide +kernel⟩
/-- slots: 0 one, 1 other -/
abbrev n_common_divisor : List Str := ["one", "other"]
abbrev v_common_divisor : List Kd := [.loc, .loc]
abbrev g_common_divisor : List Str := []
theorem ck_common_divisor : ckB n_common_divisor v_common_divisor g_common_divisor (defScope s_common_divisor) = true := by decide +kernel
theorem sc_common_divisor : FnScope n_common_divisor ["one", "other"] (defScope s_common_divisor) := ⟨rfl, rfl, rfl, by decide +kernel, rfl, by decide +kernel, by decide +kernel⟩
/-- slots: 0 word, 1 sign -/
abbrev n_digits_value : List Str := ["word", "sign"]
abbrev v_digits_value : List Kd := [.loc, .no]
abbrev g_digits_value : List Str := ["len", "MOST_DIGITS", "all", "int"]
theorem ck_digits_value : ckB n_digits_value v_digits_value g_digits_value (defScope s_digits_value) = true := by decide +kernel
abbrev v_digits_value_c0 : List Kd := [.no, .loc]
abbrev o_digits_value_c0 : List (Str × Nat) := [("sign", 1)]
abbrev g_digits_value_c0 : List Str := ["DIGITS"]
theorem sc_digits_value : FnScope n_digits_value ["word"] (defScope s_digits_value) := ⟨rfl, rfl, rfl, by decide +kernel, rfl, by decide +kernel, by decide +kernel⟩
/-- slots: 0 self, 1 top, 2 bottom, 3 divisor -/
abbrev n_Ratio_init : List Str := ["self", "top", "bottom", "divisor"]
abbrev v_Ratio_init : List Kd := [.loc, .loc, .loc, .loc]
abbrev g_Ratio_init : List Str := ["InvalidNumber", "common_divisor", "abs"]
theorem ck_Ratio_init : ckB n_Ratio_init v_Ratio_init g_Ratio_init (defScope s_Ratio_init) = true := by decide +kernel
theorem sc_Ratio_init : FnScope n_Ratio_init ["self", "top", "bottom"] (defScope s_Ratio_init) := ⟨rfl, rfl, rfl, by decide +kernel, rfl, by decide +kernel, by decide +kernel⟩
/-- slots: 0 cls, 1 value -/
abbrev n_Ratio_of : List Str := ["cls", "value"]
abbrev v_Ratio_of : List Kd := [.loc, .loc]
abbrev g_Ratio_of : List Str := ["as_ratio"]
theorem ck_Ratio_of : ckB n_Ratio_of v_Ratio_of g_Ratio_of (defScope s_Ratio_of) = true := by decide +kernel
theorem sc_Ratio_of : FnScope n_Ratio_of ["cls", "value"] (defScope s_Ratio_of) := ⟨rfl, rfl, rfl, by decide +kernel, rfl, by decide +kernel, by decide +kernel⟩
/-- slots: 0 cls, 1 text, 2 sign, 3 digits, 4 first, 5 slash, 6 second, 7 top, 8 bottom -/
abbrev n_Ratio_read : List Str := ["cls", "text", "sign", "digits", "first", "slash", "second", "top", "bottom"]
abbrev v_Ratio_read : List Kd := [.loc, .loc, .loc, .loc, .loc, .loc, .loc, .loc, .loc]
abbrev g_Ratio_read : List Str := ["digits_value", "InvalidNumber", "common_divisor"]
theorem ck_Ratio_read : ckB n_Ratio_read v_Ratio_read g_Ratio_read (defScope s_Ratio_read) = true := by decide +kernel
theorem sc_Ratio_read : FnScope n_Ratio_read ["cls", "text"] (defScope s_Ratio_read) := ⟨rfl, rfl, rfl, by decide +kernel, rfl, by decide +kernel, by decide +kernel⟩
/-- slots: 0 self -/
abbrev n_Ratio_is_whole : List Str := ["self"]
abbrev v_Ratio_is_whole : List Kd := [.loc]
abbrev g_Ratio_is_whole : List Str := []
theorem ck_Ratio_is_whole : ckB n_Ratio_is_whole v_Ratio_is_whole g_Ratio_is_whole (defScope s_Ratio_is_whole) = true := by decide +kernel
theorem sc_Ratio_is_whole : FnScope n_Ratio_is_whole ["self"] (defScope s_Ratio_is_whole) := ⟨rfl, rfl, rfl, by decide +kernel, rfl, by decide +kernel, by decide +kernel⟩
/-- slots: 0 self -/
abbrev n_Ratio_floor : List Str := ["self"]
abbrev v_Ratio_floor : List Kd := [.loc]
abbrev g_Ratio_floor : List Str := []
theorem ck_Ratio_floor : ckB n_Ratio_floor v_Ratio_floor g_Ratio_floor (defScope s_Ratio_floor) = true := by decide +kernel
theorem sc_Ratio_floor : FnScope n_Ratio_floor ["self"] (defScope s_Ratio_floor) := ⟨rfl, rfl, rfl, by decide +kernel, rfl, by decide +kernel, by decide +kernel⟩
/-- slots: 0 self, 1 other, 2 divisor -/
abbrev n_Ratio_over : List Str := ["self", "other", "divisor"]
abbrev v_Ratio_over : List Kd := [.loc, .loc, .loc]
abbrev g_Ratio_over : List Str := ["as_ratio", "InvalidNumber", "Ratio"]
theorem ck_Ratio_over : ckB n_Ratio_over v_Ratio_over g_Ratio_over (defScope s_Ratio_over) = true := by decide +kernel
theorem sc_Ratio_over : FnScope n_Ratio_over ["self", "other"] (defScope s_Ratio_over) := ⟨rfl, rfl, rfl, by decide +kernel, rfl, by decide +kernel, by decide +kernel⟩
/-- slots: 0 self -/
abbrev n_Ratio_repr : List Str := ["self"]
abbrev v_Ratio_repr : List Kd := [.loc]
abbrev g_Ratio_repr : List Str := []
theorem ck_Ratio_repr : ckB n_Ratio_repr v_Ratio_repr g_Ratio_repr (defScope s_Ratio_repr) = true := by decide +kernel
theorem sc_Ratio_repr : FnScope n_Ratio_repr ["self"] (defScope s_Ratio_repr) := ⟨rfl, rfl, rfl, by decide +kernel, rfl, by decide +kernel, by decide +kernel⟩
/-- slots: 0 self -/
abbrev n_Ratio_str : List Str := ["self"]
abbrev v_Ratio_str : List Kd := [.loc]
abbrev g_Ratio_str : List Str := ["str"]
theorem ck_Ratio_str : ckB n_Ratio_str v_Ratio_str g_Ratio_str (defScope s_Ratio_str) = true := by decide +kernel
theorem sc_Ratio_str : FnScope n_Ratio_str ["self"] (defScope s_Ratio_str) := ⟨rfl, rfl, rfl, by decide +kernel, rfl, by decide +kernel, by decide +kernel⟩
/-- slots: 0 self -/
abbrev n_Ratio_bool : List Str := ["self"]
abbrev v_Ratio_bool : List Kd := [.loc]
abbrev g_Ratio_bool : List Str := ["bool"]
theorem ck_Ratio_bool : ckB n_Ratio_bool v_Ratio_bool g_Ratio_bool (defScope s_Ratio_bool) = true := by decide +kernel
theorem sc_Ratio_bool : FnScope n_Ratio_bool ["self"] (defScope s_Ratio_bool) := ⟨rfl, rfl, rfl, by decide +kernel, rfl, by decide +kernel, by decide +kernel⟩
/-- slots: 0 self -/
abbrev n_Ratio_neg : List Str := ["self"]
abbrev v_Ratio_neg : List Kd := [.loc]
abbrev g_Ratio_neg : List Str := ["Ratio"]
theorem ck_Ratio_neg : ckB n_Ratio_neg v_Ratio_neg g_Ratio_neg (defScope s_Ratio_neg) = true := by decide +kernel
theorem sc_Ratio_neg : FnScope n_Ratio_neg ["self"] (defScope s_Ratio_neg) := ⟨rfl, rfl, rfl, by decide +kernel, rfl, by decide +kernel, by decide +kernel⟩
/-- slots: 0 self -/
abbrev n_Ratio_abs : List Str := ["self"]
abbrev v_Ratio_abs : List Kd := [.loc]
abbrev g_Ratio_abs : List Str := ["Ratio", "abs"]
theorem ck_Ratio_abs : ckB n_Ratio_abs v_Ratio_abs g_Ratio_abs (defScope s_Ratio_abs) = true := by decide +kernel
theorem sc_Ratio_abs : FnScope n_Ratio_abs ["self"] (defScope s_Ratio_abs) := ⟨rfl, rfl, rfl, by decide +kernel, rfl, by decide +kernel, by decide +kernel⟩
/-- slots: 0 self, 1 other, 2 more -/
abbrev n_Ratio_add : List Str := ["self", "other", "more"]
abbrev v_Ratio_add : List Kd := [.loc, .loc, .loc]
abbrev g_Ratio_add : List Str := ["is_number", "NotImplemented", "as_ratio", "Ratio"]
theorem ck_Ratio_add : ckB n_Ratio_add v_Ratio_add g_Ratio_add (defScope s_Ratio_add) = true := by decide +kernel
theorem sc_Ratio_add : FnScope n_Ratio_add ["self", "other"] (defScope s_Ratio_add) := ⟨rfl, rfl, rfl, by decide +kernel, rfl, by decide +kernel, by decide +kernel⟩
/-- slots: 0 self, 1 other -/
abbrev n_Ratio_radd : List Str := ["self", "other"]
abbrev v_Ratio_radd : List Kd := [.loc, .loc]
abbrev g_Ratio_radd : List Str := ["is_number", "NotImplemented"]
theorem ck_Ratio_radd : ckB n_Ratio_radd v_Ratio_radd g_Ratio_radd (defScope s_Ratio_radd) = true := by decide +kernel
theorem sc_Ratio_radd : FnScope n_Ratio_radd ["self", "other"] (defScope s_Ratio_radd) := ⟨rfl, rfl, rfl, by decide +kernel, rfl, by decide +kernel, by decide +kernel⟩
/-- slots: 0 self, 1 other -/
abbrev n_Ratio_sub : List Str := ["self", "other"]
abbrev v_Ratio_sub : List Kd := [.loc, .loc]
abbrev g_Ratio_sub : List Str := ["is_number", "NotImplemented", "as_ratio"]
theorem ck_Ratio_sub : ckB n_Ratio_sub v_Ratio_sub g_Ratio_sub (defScope s_Ratio_sub) = true := by decide +kernel
theorem sc_Ratio_sub : FnScope n_Ratio_sub ["self", "other"] (defScope s_Ratio_sub) := ⟨rfl, rfl, rfl, by decide +kernel, rfl, by decide +kernel, by decide +kernel⟩
/-- slots: 0 self, 1 other -/
abbrev n_Ratio_rsub : List Str := ["self", "other"]
abbrev v_Ratio_rsub : List Kd := [.loc, .loc]
abbrev g_Ratio_rsub : List Str := ["is_number", "NotImplemented"]
theorem ck_Ratio_rsub : ckB n_Ratio_rsub v_Ratio_rsub g_Ratio_rsub (defScope s_Ratio_rsub) = true := by decide +kernel
theorem sc_Ratio_rsub : FnScope n_Ratio_rsub ["self", "other"] (defScope s_Ratio_rsub) := ⟨rfl, rfl, rfl, by decide +kernel, rfl, by decide +kernel, by decide +kernel⟩
/-- slots: 0 self, 1 other, 2 factor -/
abbrev n_Ratio_mul : List Str := ["self", "other", "factor"]
abbrev v_Ratio_mul : List Kd := [.loc, .loc, .loc]
abbrev g_Ratio_mul : List Str := ["is_number", "NotImplemented", "as_ratio", "Ratio"]
theorem ck_Ratio_mul : ckB n_Ratio_mul v_Ratio_mul g_Ratio_mul (defScope s_Ratio_mul) = true := by decide +kernel
theorem sc_Ratio_mul : FnScope n_Ratio_mul ["self", "other"] (defScope s_Ratio_mul) := ⟨rfl, rfl, rfl, by decide +kernel, rfl, by decide +kernel, by decide +kernel⟩
/-- slots: 0 self, 1 other -/
abbrev n_Ratio_rmul : List Str := ["self", "other"]
abbrev v_Ratio_rmul : List Kd := [.loc, .loc]
abbrev g_Ratio_rmul : List Str := ["is_number", "NotImplemented"]
theorem ck_Ratio_rmul : ckB n_Ratio_rmul v_Ratio_rmul g_Ratio_rmul (defScope s_Ratio_rmul) = true := by decide +kernel
theorem sc_Ratio_rmul : FnScope n_Ratio_rmul ["self", "other"] (defScope s_Ratio_rmul) := ⟨rfl, rfl, rfl, by decide +kernel, rfl, by decide +kernel, by decide +kernel⟩
/-- slots: 0 self, 1 other -/
abbrev n_Ratio_floordiv : List Str := ["self", "other"]
abbrev v_Ratio_floordiv : List Kd := [.loc, .loc]
abbrev g_Ratio_floordiv : List Str := ["is_number", "NotImplemented"]
theorem ck_Ratio_floordiv : ckB n_Ratio_floordiv v_Ratio_floordiv g_Ratio_floordiv (defScope s_Ratio_floordiv) = true := by decide +kernel
theorem sc_Ratio_floordiv : FnScope n_Ratio_floordiv ["self", "other"] (defScope s_Ratio_floordiv) := ⟨rfl, rfl, rfl, by decide +kernel, rfl, by decide +kernel, by decide +kernel⟩
/-- slots: 0 self, 1 other -/
abbrev n_Ratio_mod : List Str := ["self", "other"]
abbrev v_Ratio_mod : List Kd := [.loc, .loc]
abbrev g_Ratio_mod : List Str := ["is_number", "NotImplemented", "as_ratio"]
theorem ck_Ratio_mod : ckB n_Ratio_mod v_Ratio_mod g_Ratio_mod (defScope s_Ratio_mod) = true := by decide +kernel
theorem sc_Ratio_mod : FnScope n_Ratio_mod ["self", "other"] (defScope s_Ratio_mod) := ⟨rfl, rfl, rfl, by decide +kernel, rfl, by decide +kernel, by decide +kernel⟩
/-- slots: 0 self, 1 other, 2 value -/
abbrev n_Ratio_eq : List Str := ["self", "other", "value"]
abbrev v_Ratio_eq : List Kd := [.loc, .loc, .loc]
abbrev g_Ratio_eq : List Str := ["is_number", "as_ratio"]
theorem ck_Ratio_eq : ckB n_Ratio_eq v_Ratio_eq g_Ratio_eq (defScope s_Ratio_eq) = true := by decide +kernel
theorem sc_Ratio_eq : FnScope n_Ratio_eq ["self", "other"] (defScope s_Ratio_eq) := ⟨rfl, rfl, rfl, by decide +kernel, rfl, by decide +kernel, by decide +kernel⟩
/-- slots: 0 self, 1 other -/
abbrev n_Ratio_ne : List Str := ["self", "other"]
abbrev v_Ratio_ne : List Kd := [.loc, .loc]
abbrev g_Ratio_ne : List Str := []
theorem ck_Ratio_ne : ckB n_Ratio_ne v_Ratio_ne g_Ratio_ne (defScope s_Ratio_ne) = true := by decide +kernel
theorem sc_Ratio_ne : FnScope n_Ratio_ne ["self", "other"] (defScope s_Ratio_ne) := ⟨rfl, rfl, rfl, by decide +kernel, rfl, by decide +kernel, by decide +kernel⟩
/-- slots: 0 self, 1 other, 2 value -/
abbrev n_Ratio_lt : List Str := ["self", "other", "value"]
abbrev v_Ratio_lt : List Kd := [.loc, .loc, .loc]
abbrev g_Ratio_lt : List Str := ["is_number", "NotImplemented", "as_ratio"]
theorem ck_Ratio_lt : ckB n_Ratio_lt v_Ratio_lt g_Ratio_lt (defScope s_Ratio_lt) = true := by decide +kernel
theorem sc_Ratio_lt : FnScope n_Ratio_lt ["self", "other"] (defScope s_Ratio_lt) := ⟨rfl, rfl, rfl, by decide +kernel, rfl, by decide +kernel, by decide +kernel⟩
/-- slots: 0 self, 1 other, 2 value -/
abbrev n_Ratio_le : List Str := ["self", "other", "value"]
abbrev v_Ratio_le : List Kd := [.loc, .loc, .loc]
abbrev g_Ratio_le : List Str := ["is_number", "NotImplemented", "as_ratio"]
theorem ck_Ratio_le : ckB n_Ratio_le v_Ratio_le g_Ratio_le (defScope s_Ratio_le) = true := by decide +kernel
theorem sc_Ratio_le : FnScope n_Ratio_le ["self", "other"] (defScope s_Ratio_le) := ⟨rfl, rfl, rfl, by decide +kernel, rfl, by decide +kernel, by decide +kernel⟩
/-- slots: 0 self, 1 other, 2 value -/
abbrev n_Ratio_gt : List Str := ["self", "other", "value"]
abbrev v_Ratio_gt : List Kd := [.loc, .loc, .loc]
abbrev g_Ratio_gt : List Str := ["is_number", "NotImplemented", "as_ratio"]
theorem ck_Ratio_gt : ckB n_Ratio_gt v_Ratio_gt g_Ratio_gt (defScope s_Ratio_gt) = true := by decide +kernel
theorem sc_Ratio_gt : FnScope n_Ratio_gt ["self", "other"] (defScope s_Ratio_gt) := ⟨rfl, rfl, rfl, by decide +kernel, rfl, by decide +kernel, by decide +kernel⟩
/-- slots: 0 self, 1 other, 2 value -/
abbrev n_Ratio_ge : List Str := ["self", "other", "value"]
abbrev v_Ratio_ge : List Kd := [.loc, .loc, .loc]
abbrev g_Ratio_ge : List Str := ["is_number", "NotImplemented", "as_ratio"]
theorem ck_Ratio_ge : ckB n_Ratio_ge v_Ratio_ge g_Ratio_ge (defScope s_Ratio_ge) = true := by decide +kernel
theorem sc_Ratio_ge : FnScope n_Ratio_ge ["self", "other"] (defScope s_Ratio_ge) := ⟨rfl, rfl, rfl, by decide +kernel, rfl, by decide +kernel, by decide +kernel⟩
/-- slots: 0 w_script, 1 w_k, 2 w_cell, 3 w_seed -/
abbrev n_w_box : List Str := ["_law_script", "_law_k", "_law_cell", "_law_seed"]
abbrev v_w_box : List Kd := [.loc, .loc, .loc, .loc]
abbrev g_w_box : List Str := ["len", "int"]
theorem ck_w_box : ckB n_w_box v_w_box g_w_box (defScope s_w_box) = true := by decide +kernel
theorem sc_w_box : FnScope n_w_box ["_law_script", "_law_k"] (defScope s_w_box) := ⟨rfl, rfl, rfl, by decide +kernel, rfl, by decide +kernel, by decide +kernel⟩
/-- slots: 0 w_box_here, 1 w_many, 2 w_digit, 3 w_first, 4 w_mixed -/
abbrev n_w_take : List Str := ["_law_box_here", "_law_many", "_law_digit", "_law_first", "_law_mixed"]
abbrev v_w_take : List Kd := [.loc, .loc, .loc, .loc, .loc]
abbrev g_w_take : List Str := []
theorem ck_w_take : ckB n_w_take v_w_take g_w_take (defScope s_w_take) = true := by decide +kernel
theorem sc_w_take : FnScope n_w_take ["_law_box_here", "_law_many"] (defScope s_w_take) := ⟨rfl, rfl, rfl, by decide +kernel, rfl, by decide +kernel, by decide +kernel⟩
/-- slots: 0 w_upper, 1 w_lower, 2 w_one, 3 w_other, 4 w_sign -/
abbrev n_w_lowest : List Str := ["_law_upper", "_law_lower", "_law_one", "_law_other", "_law_sign"]
abbrev v_w_lowest : List Kd := [.loc, .loc, .loc, .loc, .loc]
abbrev g_w_lowest : List Str := ["abs", "int"]
theorem ck_w_lowest : ckB n_w_lowest v_w_lowest g_w_lowest (defScope s_w_lowest) = true := by decide +kernel
theorem sc_w_lowest : FnScope n_w_lowest ["_law_upper", "_law_lower"] (defScope s_w_lowest) := ⟨rfl, rfl, rfl, by decide +kernel, rfl, by decide +kernel, by decide +kernel⟩
/-- slots: 0 w_box_here, 1 w_size -/
abbrev n_w_integer : List Str := ["_law_box_here", "_law_size"]
abbrev v_w_integer : List Kd := [.loc, .loc]
abbrev g_w_integer : List Str := ["_law_take"]
theorem ck_w_integer : ckB n_w_integer v_w_integer g_w_integer (defScope s_w_integer) = true := by decide +kernel
theorem sc_w_integer : FnScope n_w_integer ["_law_box_here"] (defScope s_w_integer) := ⟨rfl, rfl, rfl, by decide +kernel, rfl, by decide +kernel, by decide +kernel⟩
/-- slots: 0 w_found, 1 w_due -/
abbrev n_w_is : List Str := ["_law_found", "_law_due"]
abbrev v_w_is : List Kd := [.loc, .loc]
abbrev g_w_is : List Str := ["isinstance", "Ratio", "bool", "int"]
theorem ck_w_is : ckB n_w_is v_w_is g_w_is (defScope s_w_is) = true := by decide +kernel
theorem sc_w_is : FnScope n_w_is ["_law_found", "_law_due"] (defScope s_w_is) := ⟨rfl, rfl, rfl, by decide +kernel, rfl, by decide +kernel, by decide +kernel⟩
/-- slots: 0 w_due -/
abbrev n_w_text : List Str := ["_law_due"]
abbrev v_w_text : List Kd := [.loc]
abbrev g_w_text : List Str := ["str", "int"]
theorem ck_w_text : ckB n_w_text v_w_text g_w_text (defScope s_w_text) = true := by decide +kernel
theorem sc_w_text : FnScope n_w_text ["_law_due"] (defScope s_w_text) := ⟨rfl, rfl, rfl, by decide +kernel, rfl, by decide +kernel, by decide +kernel⟩
/-- slots: 0 w_ratio, 1 w_due -/
abbrev n_w_told_right : List Str := ["_law_ratio", "_law_due"]
abbrev v_w_told_right : List Kd := [.loc, .loc]
abbrev g_w_told_right : List Str := ["str", "_law_text", "repr", "bool", "isinstance"]
theorem ck_w_told_right : ckB n_w_told_right v_w_told_right g_w_told_right (defScope s_w_told_right) = true := by decide +kernel
theorem sc_w_told_right : FnScope n_w_told_right ["_law_ratio", "_law_due"] (defScope s_w_told_right) := ⟨rfl, rfl, rfl, by decide +kernel, rfl, by decide +kernel, by decide +kernel⟩
/-- slots: 0 w_thing, 1 w_way, 2 w_found, 3 e -/
abbrev n_w_refused : List Str := ["_law_thing", "_law_way", "_law_found", "e"]
abbrev v_w_refused : List Kd := [.loc, .loc, .loc, .loc]
abbrev g_w_refused : List Str := ["Ratio", "InvalidNumber"]
theorem ck_w_refused : ckB n_w_refused v_w_refused g_w_refused (defScope s_w_refused) = true := by decide +kernel
theorem sc_w_refused : FnScope n_w_refused ["_law_thing", "_law_way"] (defScope s_w_refused) := ⟨rfl, rfl, rfl, by decide +kernel, rfl, by decide +kernel, by decide +kernel⟩
/-- slots: 0 w_script, 1 w_k, 2 w_box_here, 3 w_upper, 4 w_lower, 5 w_due, 6 w_many, 7 w_ratio, 8 w_thing -/
abbrev n_law : List Str := ["_law_script", "_law_k", "_law_box_here", "_law_upper", "_law_lower", "_law_due", "_law_many", "_law_ratio", "_law_thing"]
abbrev v_law : List Kd := [.loc, .loc, .loc, .loc, .loc, .loc, .loc, .loc, .loc]
abbrev g_law : List Str := ["range", "max", "min", "len", "_law_box", "_law_integer", "_law_lowest", "Ratio", "_law_is", "_law_told_right", "_law_refused", "repr"]
theorem ck_law : ckB n_law v_law g_law (defScope s_law) = true := by decide +kernel
theorem sc_law : FnScope n_law ["_law_script"] (defScope s_law) := ⟨rfl, rfl, rfl, by decide +kernel, rfl, by decide +kernel, by decide +kernel⟩
/-! ### what the top has left -/
structure Tx (K : PySem.W.Frag) (mg : Str → Option Value) where
  C_PoolError : Addr
  g_PoolError : mg "PoolError" = some (.ref C_PoolError)
  up_PoolError : UpC K C_PoolError "ValueError.__init__"
  oex_PoolError : OexC K C_PoolError
  C_InvalidNumber : Addr
  g_InvalidNumber : mg "InvalidNumber" = some (.ref C_InvalidNumber)
  oex_InvalidNumber : OexC K C_InvalidNumber
  xf_InvalidNumber : XfC K C_InvalidNumber
  xm_InvalidNumber : PySem.W.exmOne K (.ref C_InvalidNumber) (.ref C_InvalidNumber) = some true
  na_InvalidNumber_value : NoAttr K C_InvalidNumber "value"
  C_Ratio : Addr
  g_Ratio : mg "Ratio" = some (.ref C_Ratio)
  own_Ratio : OwnC K C_Ratio
  cr_Ratio : ClX.CRead K C_Ratio (.type "type")
  na_Ratio_top : NoAttr K C_Ratio "top"
  na_Ratio_bottom : NoAttr K C_Ratio "bottom"
  a_InvalidNumber_init : Addr
  fd_InvalidNumber_init : FuncData
  F_InvalidNumber_init : FunS K "__init__" "InvalidNumber.__init__" s_InvalidNumber_init [] a_InvalidNumber_init fd_InvalidNumber_init
  i_InvalidNumber : PySem.W.findIn K (.ref C_InvalidNumber) "__init__" = some (some (.ref a_InvalidNumber_init))
  t_InvalidNumber : PySem.W.typeIn K (.ref a_InvalidNumber_init) = some (.type "function")
  a_is_integer : Addr
  fd_is_integer : FuncData
  F_is_integer : FunS K "is_integer" "is_integer" s_is_integer [] a_is_integer fd_is_integer
  g_is_integer : mg "is_integer" = some (.ref a_is_integer)
  a_is_number : Addr
  fd_is_number : FuncData
  F_is_number : FunS K "is_number" "is_number" s_is_number [] a_is_number fd_is_number
  g_is_number : mg "is_number" = some (.ref a_is_number)
  a_as_ratio : Addr
  fd_as_ratio : FuncData
  F_as_ratio : FunS K "as_ratio" "as_ratio" s_as_ratio [] a_as_ratio fd_as_ratio
  g_as_ratio : mg "as_ratio" = some (.ref a_as_ratio)
  a_common_divisor : Addr
  fd_common_divisor : FuncData
  F_common_divisor : FunS K "common_divisor" "common_divisor" s_common_divisor [] a_common_divisor fd_common_divisor
  g_common_divisor : mg "common_divisor" = some (.ref a_common_divisor)
  a_digits_value : Addr
  fd_digits_value : FuncData
  F_digits_value : FunS K "digits_value" "digits_value" s_digits_value [] a_digits_value fd_digits_value
  g_digits_value : mg "digits_value" = some (.ref a_digits_value)
  a_Ratio_init : Addr
  fd_Ratio_init : FuncData
  F_Ratio_init : FunS K "__init__" "Ratio.__init__" s_Ratio_init [.int 1] a_Ratio_init fd_Ratio_init
  m_Ratio_init : Meth K C_Ratio "__init__" a_Ratio_init
  mk_Ratio : Mk K C_Ratio a_Ratio_init
  a_Ratio_of : Addr
  fd_Ratio_of : FuncData
  F_Ratio_of : FunS K "of" "Ratio.of" s_Ratio_of [] a_Ratio_of fd_Ratio_of
  p_Ratio_of : Addr
  cm_Ratio_of : ClX.CMet K C_Ratio (.type "type") "of" p_Ratio_of a_Ratio_of
  a_Ratio_read : Addr
  fd_Ratio_read : FuncData
  F_Ratio_read : FunS K "read" "Ratio.read" s_Ratio_read [] a_Ratio_read fd_Ratio_read
  p_Ratio_read : Addr
  cm_Ratio_read : ClX.CMet K C_Ratio (.type "type") "read" p_Ratio_read a_Ratio_read
  a_Ratio_is_whole : Addr
  fd_Ratio_is_whole : FuncData
  F_Ratio_is_whole : FunS K "is_whole" "Ratio.is_whole" s_Ratio_is_whole [] a_Ratio_is_whole fd_Ratio_is_whole
  p_Ratio_is_whole : Addr
  P_Ratio_is_whole : PropOf K C_Ratio "is_whole" p_Ratio_is_whole a_Ratio_is_whole
  a_Ratio_floor : Addr
  fd_Ratio_floor : FuncData
  F_Ratio_floor : FunS K "floor" "Ratio.floor" s_Ratio_floor [] a_Ratio_floor fd_Ratio_floor
  p_Ratio_floor : Addr
  P_Ratio_floor : PropOf K C_Ratio "floor" p_Ratio_floor a_Ratio_floor
  a_Ratio_over : Addr
  fd_Ratio_over : FuncData
  F_Ratio_over : FunS K "over" "Ratio.over" s_Ratio_over [] a_Ratio_over fd_Ratio_over
  m_Ratio_over : Meth K C_Ratio "over" a_Ratio_over
  a_Ratio_repr : Addr
  fd_Ratio_repr : FuncData
  F_Ratio_repr : FunS K "__repr__" "Ratio.__repr__" s_Ratio_repr [] a_Ratio_repr fd_Ratio_repr
  m_Ratio_repr : Meth K C_Ratio "__repr__" a_Ratio_repr
  a_Ratio_str : Addr
  fd_Ratio_str : FuncData
  F_Ratio_str : FunS K "__str__" "Ratio.__str__" s_Ratio_str [] a_Ratio_str fd_Ratio_str
  m_Ratio_str : Meth K C_Ratio "__str__" a_Ratio_str
  a_Ratio_bool : Addr
  fd_Ratio_bool : FuncData
  F_Ratio_bool : FunS K "__bool__" "Ratio.__bool__" s_Ratio_bool [] a_Ratio_bool fd_Ratio_bool
  m_Ratio_bool : Meth K C_Ratio "__bool__" a_Ratio_bool
  a_Ratio_neg : Addr
  fd_Ratio_neg : FuncData
  F_Ratio_neg : FunS K "__neg__" "Ratio.__neg__" s_Ratio_neg [] a_Ratio_neg fd_Ratio_neg
  m_Ratio_neg : Meth K C_Ratio "__neg__" a_Ratio_neg
  a_Ratio_abs : Addr
  fd_Ratio_abs : FuncData
  F_Ratio_abs : FunS K "__abs__" "Ratio.__abs__" s_Ratio_abs [] a_Ratio_abs fd_Ratio_abs
  m_Ratio_abs : Meth K C_Ratio "__abs__" a_Ratio_abs
  a_Ratio_add : Addr
  fd_Ratio_add : FuncData
  F_Ratio_add : FunS K "__add__" "Ratio.__add__" s_Ratio_add [] a_Ratio_add fd_Ratio_add
  m_Ratio_add : Meth K C_Ratio "__add__" a_Ratio_add
  a_Ratio_radd : Addr
  fd_Ratio_radd : FuncData
  F_Ratio_radd : FunS K "__radd__" "Ratio.__radd__" s_Ratio_radd [] a_Ratio_radd fd_Ratio_radd
  m_Ratio_radd : Meth K C_Ratio "__radd__" a_Ratio_radd
  a_Ratio_sub : Addr
  fd_Ratio_sub : FuncData
  F_Ratio_sub : FunS K "__sub__" "Ratio.__sub__" s_Ratio_sub [] a_Ratio_sub fd_Ratio_sub
  m_Ratio_sub : Meth K C_Ratio "__sub__" a_Ratio_sub
  a_Ratio_rsub : Addr
  fd_Ratio_rsub : FuncData
  F_Ratio_rsub : FunS K "__rsub__" "Ratio.__rsub__" s_Ratio_rsub [] a_Ratio_rsub fd_Ratio_rsub
  m_Ratio_rsub : Meth K C_Ratio "__rsub__" a_Ratio_rsub
  a_Ratio_mul : Addr
  fd_Ratio_mul : FuncData
  F_Ratio_mul : FunS K "__mul__" "Ratio.__mul__" s_Ratio_mul [] a_Ratio_mul fd_Ratio_mul
  m_Ratio_mul : Meth K C_Ratio "__mul__" a_Ratio_mul
  a_Ratio_rmul : Addr
  fd_Ratio_rmul : FuncData
  F_Ratio_rmul : FunS K "__rmul__" "Ratio.__rmul__" s_Ratio_rmul [] a_Ratio_rmul fd_Ratio_rmul
  m_Ratio_rmul : Meth K C_Ratio "__rmul__" a_Ratio_rmul
  a_Ratio_floordiv : Addr
  fd_Ratio_floordiv : FuncData
  F_Ratio_floordiv : FunS K "__floordiv__" "Ratio.__floordiv__" s_Ratio_floordiv [] a_Ratio_floordiv fd_Ratio_floordiv
  m_Ratio_floordiv : Meth K C_Ratio "__floordiv__" a_Ratio_floordiv
  a_Ratio_mod : Addr
  fd_Ratio_mod : FuncData
  F_Ratio_mod : FunS K "__mod__" "Ratio.__mod__" s_Ratio_mod [] a_Ratio_mod fd_Ratio_mod
  m_Ratio_mod : Meth K C_Ratio "__mod__" a_Ratio_mod
  a_Ratio_eq : Addr
  fd_Ratio_eq : FuncData
  F_Ratio_eq : FunS K "__eq__" "Ratio.__eq__" s_Ratio_eq [] a_Ratio_eq fd_Ratio_eq
  m_Ratio_eq : Meth K C_Ratio "__eq__" a_Ratio_eq
  a_Ratio_ne : Addr
  fd_Ratio_ne : FuncData
  F_Ratio_ne : FunS K "__ne__" "Ratio.__ne__" s_Ratio_ne [] a_Ratio_ne fd_Ratio_ne
  m_Ratio_ne : Meth K C_Ratio "__ne__" a_Ratio_ne
  a_Ratio_lt : Addr
  fd_Ratio_lt : FuncData
  F_Ratio_lt : FunS K "__lt__" "Ratio.__lt__" s_Ratio_lt [] a_Ratio_lt fd_Ratio_lt
  m_Ratio_lt : Meth K C_Ratio "__lt__" a_Ratio_lt
  a_Ratio_le : Addr
  fd_Ratio_le : FuncData
  F_Ratio_le : FunS K "__le__" "Ratio.__le__" s_Ratio_le [] a_Ratio_le fd_Ratio_le
  m_Ratio_le : Meth K C_Ratio "__le__" a_Ratio_le
  a_Ratio_gt : Addr
  fd_Ratio_gt : FuncData
  F_Ratio_gt : FunS K "__gt__" "Ratio.__gt__" s_Ratio_gt [] a_Ratio_gt fd_Ratio_gt
  m_Ratio_gt : Meth K C_Ratio "__gt__" a_Ratio_gt
  a_Ratio_ge : Addr
  fd_Ratio_ge : FuncData
  F_Ratio_ge : FunS K "__ge__" "Ratio.__ge__" s_Ratio_ge [] a_Ratio_ge fd_Ratio_ge
  m_Ratio_ge : Meth K C_Ratio "__ge__" a_Ratio_ge
  a_w_box : Addr
  fd_w_box : FuncData
  F_w_box : FunS K "_law_box" "_law_box" s_w_box [] a_w_box fd_w_box
  g_w_box : mg "_law_box" = some (.ref a_w_box)
  a_w_take : Addr
  fd_w_take : FuncData
  F_w_take : FunS K "_law_take" "_law_take" s_w_take [] a_w_take fd_w_take
  g_w_take : mg "_law_take" = some (.ref a_w_take)
  a_w_lowest : Addr
  fd_w_lowest : FuncData
  F_w_lowest : FunS K "_law_lowest" "_law_lowest" s_w_lowest [] a_w_lowest fd_w_lowest
  g_w_lowest : mg "_law_lowest" = some (.ref a_w_lowest)
  a_w_integer : Addr
  fd_w_integer : FuncData
  F_w_integer : FunS K "_law_integer" "_law_integer" s_w_integer [] a_w_integer fd_w_integer
  g_w_integer : mg "_law_integer" = some (.ref a_w_integer)
  a_w_is : Addr
  fd_w_is : FuncData
  F_w_is : FunS K "_law_is" "_law_is" s_w_is [] a_w_is fd_w_is
  g_w_is : mg "_law_is" = some (.ref a_w_is)
  a_w_text : Addr
  fd_w_text : FuncData
  F_w_text : FunS K "_law_text" "_law_text" s_w_text [] a_w_text fd_w_text
  g_w_text : mg "_law_text" = some (.ref a_w_text)
  a_w_told_right : Addr
  fd_w_told_right : FuncData
  F_w_told_right : FunS K "_law_told_right" "_law_told_right" s_w_told_right [] a_w_told_right fd_w_told_right
  g_w_told_right : mg "_law_told_right" = some (.ref a_w_told_right)
  a_w_refused : Addr
  fd_w_refused : FuncData
  F_w_refused : FunS K "_law_refused" "_law_refused" s_w_refused [] a_w_refused fd_w_refused
  g_w_refused : mg "_law_refused" = some (.ref a_w_refused)
  a_law : Addr
  fd_law : FuncData
  F_law : FunS K "law" "law" s_law [] a_law fd_law
  g_law : mg "law" = some (.ref a_law)
  io_add : ∃ fo, PySem.W.findIn K (.type "int") "__add__" = some fo
  ior_add : ∃ fo, PySem.W.findIn K (.type "int") "__radd__" = some fo
  nio_add : PySem.W.findIn K (.type "object") "__iadd__" = some none
  io_floordiv : ∃ fo, PySem.W.findIn K (.type "int") "__floordiv__" = some fo
  ior_floordiv : ∃ fo, PySem.W.findIn K (.type "int") "__rfloordiv__" = some fo
  nio_floordiv : PySem.W.findIn K (.type "object") "__ifloordiv__" = some none
  io_mod : ∃ fo, PySem.W.findIn K (.type "int") "__mod__" = some fo
  ior_mod : ∃ fo, PySem.W.findIn K (.type "int") "__rmod__" = some fo
  nio_mod : PySem.W.findIn K (.type "object") "__imod__" = some none
  io_mul : ∃ fo, PySem.W.findIn K (.type "int") "__mul__" = some fo
  ior_mul : ∃ fo, PySem.W.findIn K (.type "int") "__rmul__" = some fo
  nio_mul : PySem.W.findIn K (.type "object") "__imul__" = some none
  io_sub : ∃ fo, PySem.W.findIn K (.type "int") "__sub__" = some fo
  ior_sub : ∃ fo, PySem.W.findIn K (.type "int") "__rsub__" = some fo
  nio_sub : PySem.W.findIn K (.type "object") "__isub__" = some none
  nii_Ratio_add : PySem.W.findIn K (.ref C_Ratio) "__iadd__" = some none
  nii_Ratio_sub : PySem.W.findIn K (.ref C_Ratio) "__isub__" = some none
  nii_Ratio_mul : PySem.W.findIn K (.ref C_Ratio) "__imul__" = some none
  nii_Ratio_floordiv : PySem.W.findIn K (.ref C_Ratio) "__ifloordiv__" = some none
  nr_Ratio_floordiv : PySem.W.findIn K (.ref C_Ratio) "__rfloordiv__" = some none
  nii_Ratio_mod : PySem.W.findIn K (.ref C_Ratio) "__imod__" = some none
  nr_Ratio_mod : PySem.W.findIn K (.ref C_Ratio) "__rmod__" = some none
  n_NotImplemented : mg "NotImplemented" = none
  n_abs : mg "abs" = none
  n_all : mg "all" = none
  n_bool : mg "bool" = none
  n_classmethod : mg "classmethod" = none
  n_int : mg "int" = none
  n_isinstance : mg "isinstance" = none
  n_len : mg "len" = none
  n_max : mg "max" = none
  n_min : mg "min" = none
  n_property : mg "property" = none
  n_range : mg "range" = none
  n_repr : mg "repr" = none
  n_str : mg "str" = none
  c_DIGITS : ∃ t, mg "DIGITS" = some (.str "0123456789" t)
  c_MOST_DIGITS : ∃ t, mg "MOST_DIGITS" = some (.int 1000 t)
section
variable {K : PySem.W.Frag} {mg : Str → Option Value} (T : Tx K mg)
theorem Tx.b_InvalidNumber_init : Binds K T.fd_InvalidNumber_init ["self", "value"] [] := (FunD.plain T.F_InvalidNumber_init).binds fun _ _ _ _ _ _ us hl => match us, hl with | [_, _], _ => rfl
theorem Tx.b_is_integer : Binds K T.fd_is_integer ["value"] [] := (FunD.plain T.F_is_integer).binds fun _ _ _ _ _ _ us hl => match us, hl with | [_], _ => rfl
theorem Tx.b_is_number : Binds K T.fd_is_number ["value"] [] := (FunD.plain T.F_is_number).binds fun _ _ _ _ _ _ us hl => match us, hl with | [_], _ => rfl
theorem Tx.b_as_ratio : Binds K T.fd_as_ratio ["value"] [] := (FunD.plain T.F_as_ratio).binds fun _ _ _ _ _ _ us hl => match us, hl with | [_], _ => rfl
theorem Tx.b_common_divisor : Binds K T.fd_common_divisor ["one", "other"] [] := (FunD.plain T.F_common_divisor).binds fun _ _ _ _ _ _ us hl => match us, hl with | [_, _], _ => rfl
theorem Tx.b_digits_value : Binds K T.fd_digits_value ["word"] [] := (FunD.plain T.F_digits_value).binds fun _ _ _ _ _ _ us hl => match us, hl with | [_], _ => rfl
theorem Tx.b_Ratio_init_2 : ∃ ds, Vals (([.int 1] : List V).drop 0) ds ∧ Binds K T.fd_Ratio_init ["self", "top", "bottom"] ds := T.F_Ratio_init.binds1 2 0 (by intro z; cases z) rfl fun _ _ _ _ _ _ _ us its h1 h2 => match us, its, h1, h2 with | [_, _], [_], _, _ => ⟨_, rfl, rfl⟩
theorem Tx.b_Ratio_init : ∃ ds, Vals (([.int 1] : List V).drop 1) ds ∧ Binds K T.fd_Ratio_init ["self", "top", "bottom"] ds := T.F_Ratio_init.binds1 3 1 (by intro z; cases z) rfl fun _ _ _ _ _ _ _ us its h1 h2 => match us, its, h1, h2 with | [_, _, _], [_], _, _ => ⟨_, rfl, rfl⟩
theorem Tx.b_Ratio_of : Binds K T.fd_Ratio_of ["cls", "value"] [] := (FunD.plain T.F_Ratio_of).binds fun _ _ _ _ _ _ us hl => match us, hl with | [_, _], _ => rfl
theorem Tx.b_Ratio_read : Binds K T.fd_Ratio_read ["cls", "text"] [] := (FunD.plain T.F_Ratio_read).binds fun _ _ _ _ _ _ us hl => match us, hl with | [_, _], _ => rfl
theorem Tx.b_Ratio_is_whole : Binds K T.fd_Ratio_is_whole ["self"] [] := (FunD.plain T.F_Ratio_is_whole).binds fun _ _ _ _ _ _ us hl => match us, hl with | [_], _ => rfl
theorem Tx.b_Ratio_floor : Binds K T.fd_Ratio_floor ["self"] [] := (FunD.plain T.F_Ratio_floor).binds fun _ _ _ _ _ _ us hl => match us, hl with | [_], _ => rfl
theorem Tx.b_Ratio_over : Binds K T.fd_Ratio_over ["self", "other"] [] := (FunD.plain T.F_Ratio_over).binds fun _ _ _ _ _ _ us hl => match us, hl with | [_, _], _ => rfl
theorem Tx.b_Ratio_repr : Binds K T.fd_Ratio_repr ["self"] [] := (FunD.plain T.F_Ratio_repr).binds fun _ _ _ _ _ _ us hl => match us, hl with | [_], _ => rfl
theorem Tx.b_Ratio_str : Binds K T.fd_Ratio_str ["self"] [] := (FunD.plain T.F_Ratio_str).binds fun _ _ _ _ _ _ us hl => match us, hl with | [_], _ => rfl
theorem Tx.b_Ratio_bool : Binds K T.fd_Ratio_bool ["self"] [] := (FunD.plain T.F_Ratio_bool).binds fun _ _ _ _ _ _ us hl => match us, hl with | [_], _ => rfl
theorem Tx.b_Ratio_neg : Binds K T.fd_Ratio_neg ["self"] [] := (FunD.plain T.F_Ratio_neg).binds fun _ _ _ _ _ _ us hl => match us, hl with | [_], _ => rfl
theorem Tx.b_Ratio_abs : Binds K T.fd_Ratio_abs ["self"] [] := (FunD.plain T.F_Ratio_abs).binds fun _ _ _ _ _ _ us hl => match us, hl with | [_], _ => rfl
theorem Tx.b_Ratio_add : Binds K T.fd_Ratio_add ["self", "other"] [] := (FunD.plain T.F_Ratio_add).binds fun _ _ _ _ _ _ us hl => match us, hl with | [_, _], _ => rfl
theorem Tx.b_Ratio_radd : Binds K T.fd_Ratio_radd ["self", "other"] [] := (FunD.plain T.F_Ratio_radd).binds fun _ _ _ _ _ _ us hl => match us, hl with | [_, _], _ => rfl
theorem Tx.b_Ratio_sub : Binds K T.fd_Ratio_sub ["self", "other"] [] := (FunD.plain T.F_Ratio_sub).binds fun _ _ _ _ _ _ us hl => match us, hl with | [_, _], _ => rfl
theorem Tx.b_Ratio_rsub : Binds K T.fd_Ratio_rsub ["self", "other"] [] := (FunD.plain T.F_Ratio_rsub).binds fun _ _ _ _ _ _ us hl => match us, hl with | [_, _], _ => rfl
theorem Tx.b_Ratio_mul : Binds K T.fd_Ratio_mul ["self", "other"] [] := (FunD.plain T.F_Ratio_mul).binds fun _ _ _ _ _ _ us hl => match us, hl with | [_, _], _ => rfl
theorem Tx.b_Ratio_rmul : Binds K T.fd_Ratio_rmul ["self", "other"] [] := (FunD.plain T.F_Ratio_rmul).binds fun _ _ _ _ _ _ us hl => match us, hl with | [_, _], _ => rfl
theorem Tx.b_Ratio_floordiv : Binds K T.fd_Ratio_floordiv ["self", "other"] [] := (FunD.plain T.F_Ratio_floordiv).binds fun _ _ _ _ _ _ us hl => match us, hl with | [_, _], _ => rfl
theorem Tx.b_Ratio_mod : Binds K T.fd_Ratio_mod ["self", "other"] [] := (FunD.plain T.F_Ratio_mod).binds fun _ _ _ _ _ _ us hl => match us, hl with | [_, _], _ => rfl
theorem Tx.b_Ratio_eq : Binds K T.fd_Ratio_eq ["self", "other"] [] := (FunD.plain T.F_Ratio_eq).binds fun _ _ _ _ _ _ us hl => match us, hl with | [_, _], _ => rfl
theorem Tx.b_Ratio_ne : Binds K T.fd_Ratio_ne ["self", "other"] [] := (FunD.plain T.F_Ratio_ne).binds fun _ _ _ _ _ _ us hl => match us, hl with | [_, _], _ => rfl
theorem Tx.b_Ratio_lt : Binds K T.fd_Ratio_lt ["self", "other"] [] := (FunD.plain T.F_Ratio_lt).binds fun _ _ _ _ _ _ us hl => match us, hl with | [_, _], _ => rfl
theorem Tx.b_Ratio_le : Binds K T.fd_Ratio_le ["self", "other"] [] := (FunD.plain T.F_Ratio_le).binds fun _ _ _ _ _ _ us hl => match us, hl with | [_, _], _ => rfl
theorem Tx.b_Ratio_gt : Binds K T.fd_Ratio_gt ["self", "other"] [] := (FunD.plain T.F_Ratio_gt).binds fun _ _ _ _ _ _ us hl => match us, hl with | [_, _], _ => rfl
theorem Tx.b_Ratio_ge : Binds K T.fd_Ratio_ge ["self", "other"] [] := (FunD.plain T.F_Ratio_ge).binds fun _ _ _ _ _ _ us hl => match us, hl with | [_, _], _ => rfl
theorem Tx.b_w_box : Binds K T.fd_w_box ["_law_script", "_law_k"] [] := (FunD.plain T.F_w_box).binds fun _ _ _ _ _ _ us hl => match us, hl with | [_, _], _ => rfl
theorem Tx.b_w_take : Binds K T.fd_w_take ["_law_box_here", "_law_many"] [] := (FunD.plain T.F_w_take).binds fun _ _ _ _ _ _ us hl => match us, hl with | [_, _], _ => rfl
theorem Tx.b_w_lowest : Binds K T.fd_w_lowest ["_law_upper", "_law_lower"] [] := (FunD.plain T.F_w_lowest).binds fun _ _ _ _ _ _ us hl => match us, hl with | [_, _], _ => rfl
theorem Tx.b_w_integer : Binds K T.fd_w_integer ["_law_box_here"] [] := (FunD.plain T.F_w_integer).binds fun _ _ _ _ _ _ us hl => match us, hl with | [_], _ => rfl
theorem Tx.b_w_is : Binds K T.fd_w_is ["_law_found", "_law_due"] [] := (FunD.plain T.F_w_is).binds fun _ _ _ _ _ _ us hl => match us, hl with | [_, _], _ => rfl
theorem Tx.b_w_text : Binds K T.fd_w_text ["_law_due"] [] := (FunD.plain T.F_w_text).binds fun _ _ _ _ _ _ us hl => match us, hl with | [_], _ => rfl
theorem Tx.b_w_told_right : Binds K T.fd_w_told_right ["_law_ratio", "_law_due"] [] := (FunD.plain T.F_w_told_right).binds fun _ _ _ _ _ _ us hl => match us, hl with | [_, _], _ => rfl
theorem Tx.b_w_refused : Binds K T.fd_w_refused ["_law_thing", "_law_way"] [] := (FunD.plain T.F_w_refused).binds fun _ _ _ _ _ _ us hl => match us, hl with | [_, _], _ => rfl
theorem Tx.b_law : Binds K T.fd_law ["_law_script"] [] := (FunD.plain T.F_law).binds fun _ _ _ _ _ _ us hl => match us, hl with | [_], _ => rfl
abbrev Tx.f_InvalidNumber_init : Fnx := ⟨T.a_InvalidNumber_init, T.fd_InvalidNumber_init, ["self", "value"], 40⟩
abbrev Tx.f_is_integer : Fnx := ⟨T.a_is_integer, T.fd_is_integer, ["value"], 1⟩
abbrev Tx.f_is_number : Fnx := ⟨T.a_is_number, T.fd_is_number, ["value"], 2⟩
abbrev Tx.f_as_ratio : Fnx := ⟨T.a_as_ratio, T.fd_as_ratio, ["value"], 5⟩
abbrev Tx.f_common_divisor : Fnx := ⟨T.a_common_divisor, T.fd_common_divisor, ["one", "other"], 1⟩
abbrev Tx.f_digits_value : Fnx := ⟨T.a_digits_value, T.fd_digits_value, ["word"], 1⟩
abbrev Tx.f_Ratio_init : Fnx := ⟨T.a_Ratio_init, T.fd_Ratio_init, ["self", "top", "bottom"], 3⟩
abbrev Tx.f_Ratio_of : Fnx := ⟨T.a_Ratio_of, T.fd_Ratio_of, ["cls", "value"], 6⟩
abbrev Tx.f_Ratio_read : Fnx := ⟨T.a_Ratio_read, T.fd_Ratio_read, ["cls", "text"], 40⟩
abbrev Tx.f_Ratio_is_whole : Fnx := ⟨T.a_Ratio_is_whole, T.fd_Ratio_is_whole, ["self"], 1⟩
abbrev Tx.f_Ratio_floor : Fnx := ⟨T.a_Ratio_floor, T.fd_Ratio_floor, ["self"], 1⟩
abbrev Tx.f_Ratio_over : Fnx := ⟨T.a_Ratio_over, T.fd_Ratio_over, ["self", "other"], 6⟩
abbrev Tx.f_Ratio_repr : Fnx := ⟨T.a_Ratio_repr, T.fd_Ratio_repr, ["self"], 1⟩
abbrev Tx.f_Ratio_str : Fnx := ⟨T.a_Ratio_str, T.fd_Ratio_str, ["self"], 1⟩
abbrev Tx.f_Ratio_bool : Fnx := ⟨T.a_Ratio_bool, T.fd_Ratio_bool, ["self"], 1⟩
abbrev Tx.f_Ratio_neg : Fnx := ⟨T.a_Ratio_neg, T.fd_Ratio_neg, ["self"], 5⟩
abbrev Tx.f_Ratio_abs : Fnx := ⟨T.a_Ratio_abs, T.fd_Ratio_abs, ["self"], 5⟩
abbrev Tx.f_Ratio_add : Fnx := ⟨T.a_Ratio_add, T.fd_Ratio_add, ["self", "other"], 6⟩
abbrev Tx.f_Ratio_radd : Fnx := ⟨T.a_Ratio_radd, T.fd_Ratio_radd, ["self", "other"], 7⟩
abbrev Tx.f_Ratio_sub : Fnx := ⟨T.a_Ratio_sub, T.fd_Ratio_sub, ["self", "other"], 7⟩
abbrev Tx.f_Ratio_rsub : Fnx := ⟨T.a_Ratio_rsub, T.fd_Ratio_rsub, ["self", "other"], 7⟩
abbrev Tx.f_Ratio_mul : Fnx := ⟨T.a_Ratio_mul, T.fd_Ratio_mul, ["self", "other"], 6⟩
abbrev Tx.f_Ratio_rmul : Fnx := ⟨T.a_Ratio_rmul, T.fd_Ratio_rmul, ["self", "other"], 7⟩
abbrev Tx.f_Ratio_floordiv : Fnx := ⟨T.a_Ratio_floordiv, T.fd_Ratio_floordiv, ["self", "other"], 7⟩
abbrev Tx.f_Ratio_mod : Fnx := ⟨T.a_Ratio_mod, T.fd_Ratio_mod, ["self", "other"], 8⟩
abbrev Tx.f_Ratio_eq : Fnx := ⟨T.a_Ratio_eq, T.fd_Ratio_eq, ["self", "other"], 6⟩
abbrev Tx.f_Ratio_ne : Fnx := ⟨T.a_Ratio_ne, T.fd_Ratio_ne, ["self", "other"], 7⟩
abbrev Tx.f_Ratio_lt : Fnx := ⟨T.a_Ratio_lt, T.fd_Ratio_lt, ["self", "other"], 6⟩
abbrev Tx.f_Ratio_le : Fnx := ⟨T.a_Ratio_le, T.fd_Ratio_le, ["self", "other"], 6⟩
abbrev Tx.f_Ratio_gt : Fnx := ⟨T.a_Ratio_gt, T.fd_Ratio_gt, ["self", "other"], 6⟩
abbrev Tx.f_Ratio_ge : Fnx := ⟨T.a_Ratio_ge, T.fd_Ratio_ge, ["self", "other"], 6⟩
abbrev Tx.f_w_box : Fnx := ⟨T.a_w_box, T.fd_w_box, ["_law_script", "_law_k"], 41⟩
abbrev Tx.f_w_take : Fnx := ⟨T.a_w_take, T.fd_w_take, ["_law_box_here", "_law_many"], 41⟩
abbrev Tx.f_w_lowest : Fnx := ⟨T.a_w_lowest, T.fd_w_lowest, ["_law_upper", "_law_lower"], 41⟩
abbrev Tx.f_w_integer : Fnx := ⟨T.a_w_integer, T.fd_w_integer, ["_law_box_here"], 42⟩
abbrev Tx.f_w_is : Fnx := ⟨T.a_w_is, T.fd_w_is, ["_law_found", "_law_due"], 41⟩
abbrev Tx.f_w_text : Fnx := ⟨T.a_w_text, T.fd_w_text, ["_law_due"], 41⟩
abbrev Tx.f_w_told_right : Fnx := ⟨T.a_w_told_right, T.fd_w_told_right, ["_law_ratio", "_law_due"], 42⟩
abbrev Tx.f_w_refused : Fnx := ⟨T.a_w_refused, T.fd_w_refused, ["_law_thing", "_law_way"], 41⟩
abbrev Tx.f_law : Fnx := ⟨T.a_law, T.fd_law, ["_law_script"], 43⟩
end
end PM
set_option Elab.async false
set_option linter.all false
set_option maxRecDepth 100000
set_option maxHeartbeats 4000000
namespace PM
open PySem L2 PyProof.Rows
set_option hygiene false
local macro_rules | `(tactic| walk_at "in") => `(tactic| (repeat (first | with_reducible exact In.z | with_reducible apply In.s)))
local macro_rules | `(tactic| walk_at "at") => `(tactic| (first | assumption | with_reducible exact at_last | with_reducible exact at_new rfl | with_reducible exact at_left (by assumption) | with_reducible exact List.getElem?_set_self (by assumption) | with_reducible exact at_left (at_left (by assumption))))
local macro_rules | `(tactic| walk_at "ixd") => `(tactic| (first | exact .inl rfl | exact .inr (.inl rfl) | exact .inr (.inr (.inl rfl)) | exact .inr (.inr (.inr ⟨_, rfl, by (first | assumption | with_reducible exact at_last | with_reducible exact at_new rfl | with_reducible exact at_left (by assumption) | with_reducible exact List.getElem?_set_self (by assumption) | with_reducible exact at_left (at_left (by assumption)))⟩))))
local macro_rules | `(tactic| walk_at "ints") => `(tactic| (repeat (first | exact Ints.nil | apply Ints.cons)))
local macro_rules | `(tactic| walk_at "num") => `(tactic| (first | assumption | omega))
local macro_rules | `(tactic| walk_at "ix") => `(tactic| (repeat (first | with_reducible exact Ix.z | with_reducible exact Ix.c | with_reducible apply Ix.s)))
local macro_rules | `(tactic| walk_at "il") => `(tactic| (repeat (first | with_reducible exact Il.z | with_reducible apply Il.s)))
local macro_rules | `(tactic| walk_at "one") => `(tactic| first | (refine wE_name gn ?_; (repeat (first | with_reducible refine wGt_z ?_ | with_reducible refine wGt_c ?_ | with_reducible refine wGt_s ?_ | with_reducible refine wGt_f ?_)); fail_if_success refine wGt_chk ?_) | refine wE_int ?_ | refine wE_bin ?_ | refine wE_sub ?_ | refine wE_cmp ?_ | refine wE_tup ?_ | refine wE_lst ?_ | refine wE_str ?_ | refine wE_bl ?_ | refine wE_non ?_ | refine wE_not ?_ | refine wE_and ?_ | refine wE_or ?_ | refine wE_one ?_ | refine wE_un ?_ | refine wE_if ?_ | with_reducible refine wB_add ?_ | with_reducible refine wB_sub ?_ | ((with_reducible refine wB_mulR ?qc ?_); (case qc => exact ⟨by (first | assumption | omega), by (first | assumption | omega)⟩)) | ((with_reducible refine wB_mulL ?qc ?_); (case qc => exact ⟨by (first | assumption | omega), by (first | assumption | omega)⟩)) | ((with_reducible refine wB_mod ?qc ?_); (case qc => (first | assumption | omega))) | ((with_reducible refine wB_fdivS ?qc ?_); (case qc => exact ⟨by (first | assumption | omega), by (first | assumption | omega)⟩)) | with_reducible refine wB_lt ?_ | with_reducible refine wB_le ?_ | with_reducible refine wB_gt ?_ | with_reducible refine wB_ge ?_ | with_reducible refine wB_eq ?_ | with_reducible refine wB_ne ?_ | with_reducible refine wB_eqT ?_ | with_reducible refine wB_neT ?_ | with_reducible refine wB_eqB ?_ | with_reducible refine wB_neB ?_ | with_reducible refine wB_is ?_ | with_reducible refine wB_isNot ?_ | with_reducible refine wU_neg ?_ | with_reducible refine wB_pow5 ?_ | with_reducible refine wB_pow6 ?_ | with_reducible refine wB_pow7 ?_ | with_reducible refine wB_pow8 ?_ | with_reducible refine wB_pow9 ?_ | with_reducible refine wB_pow18 ?_ | refine wA_cons ?_ | refine wA_nil ?_ | refine wG_tup g.calm ?_ | refine wGs_cons ?_ | refine wGs_nil ?_ | refine wG_name gn ?_ | with_reducible refine wPt_z ?_ | with_reducible refine wPt_c ?_ | with_reducible refine wPt_s ?_ | refine Exists.intro _ (And.intro rfl ?_) | refine And.intro (by (simp only [List.length_cons, List.length_nil]; decide)) ?_ | refine Exists.intro _ (Exists.intro _ (And.intro rfl ?_)) | refine Exists.intro _ (Exists.intro _ (Exists.intro _ (And.intro rfl ?_))) | refine Exists.intro _ (Exists.intro _ (Exists.intro _ (Exists.intro _ (And.intro rfl (And.intro rfl (And.intro (by (first | assumption | with_reducible exact at_last | with_reducible exact at_new rfl | with_reducible exact at_left (by assumption) | with_reducible exact List.getElem?_set_self (by assumption) | with_reducible exact at_left (at_left (by assumption)))) (And.intro rfl ?_))))))) | refine wC_cmp ?_ | refine wC_not ?_ | refine wC_bool ?_ | refine wCw_and ?_ | refine wCw_or ?_ | refine wCw_and1 ?_ | refine wCw_or1 ?_ | refine wC_val ?_ | refine wSs_cons ?_ | refine wSs_nil ?_ | (refine wS_set gn ?qa ?_; (case qa => exact ⟨_, by (repeat (first | with_reducible exact Ix.z | with_reducible exact Ix.c | with_reducible apply Ix.s))⟩)) | (refine wS_par g ?qa ?_; (case qa => exact ⟨_, _, by (repeat (first | with_reducible exact Il.z | with_reducible apply Il.s)), by (repeat (first | with_reducible exact Il.z | with_reducible apply Il.s)), by decide⟩)) | (refine wS_par3 g ?qa ?_; (case qa => exact ⟨_, _, _, by (repeat (first | with_reducible exact Il.z | with_reducible apply Il.s)), by (repeat (first | with_reducible exact Il.z | with_reducible apply Il.s)), by (repeat (first | with_reducible exact Il.z | with_reducible apply Il.s)), by decide, by decide, by decide⟩)) | refine wS_ret ?_ | refine wS_if ?_ | refine wS_expr ?_ | refine wS_ix ?_ | refine wS_asg ?_ | refine wS_pass ?_ | ((with_reducible refine chkC "len" ?_); refine xE_blt gn ?qa T.n_len boot_len ?_; (case qa => (repeat (first | with_reducible exact In.z | with_reducible apply In.s)))) | ((with_reducible refine chkC "int" ?_); refine xE_bcl gn ?qa T.n_int boot_int ?_; (case qa => (repeat (first | with_reducible exact In.z | with_reducible apply In.s)))) | ((with_reducible refine chkC "abs" ?_); refine xE_blt gn ?qa T.n_abs boot_abs ?_; (case qa => (repeat (first | with_reducible exact In.z | with_reducible apply In.s)))) | ((with_reducible refine chkC "max" ?_); refine xE_blt gn ?qa T.n_max boot_max ?_; (case qa => (repeat (first | with_reducible exact In.z | with_reducible apply In.s)))) | ((with_reducible refine chkC "min" ?_); refine xE_blt gn ?qa T.n_min boot_min ?_; (case qa => (repeat (first | with_reducible exact In.z | with_reducible apply In.s)))) | ((with_reducible refine chkC "str" ?_); refine xE_bcl gn ?qa T.n_str boot_str ?_; (case qa => (repeat (first | with_reducible exact In.z | with_reducible apply In.s)))) | ((with_reducible refine chkC "repr" ?_); refine xE_blt gn ?qa T.n_repr boot_repr ?_; (case qa => (repeat (first | with_reducible exact In.z | with_reducible apply In.s)))) | ((with_reducible refine chkC "isinstance" ?_); refine xE_blt gn ?qa T.n_isinstance boot_isinstance ?_; (case qa => (repeat (first | with_reducible exact In.z | with_reducible apply In.s)))) | ((with_reducible refine chkC "bool" ?_); refine xE_bcl gn ?qa T.n_bool boot_bool ?_; (case qa => (repeat (first | with_reducible exact In.z | with_reducible apply In.s)))) | ((with_reducible refine chkC "all" ?_); refine xE_blt gn ?qa T.n_all boot_all ?_; (case qa => (repeat (first | with_reducible exact In.z | with_reducible apply In.s)))) | ((with_reducible refine chkB "len" ?_); refine wF_len (by (first | exact .inl rfl | exact .inr (.inl rfl) | exact .inr (.inr (.inl rfl)) | exact .inr (.inr (.inr ⟨_, rfl, by (first | assumption | with_reducible exact at_last | with_reducible exact at_new rfl | with_reducible exact at_left (by assumption) | with_reducible exact List.getElem?_set_self (by assumption) | with_reducible exact at_left (at_left (by assumption)))⟩)))) ?_) | with_reducible refine wF_intB ?_ | with_reducible refine wF_boolB ?_ | with_reducible refine wF_abs ?_ | with_reducible refine wF_max g.toGd ?_ | with_reducible refine wF_min g.toGd ?_ | refine wX_if2I (by (first | exact .inl rfl | exact .inr (.inl rfl) | exact .inr (.inr (.inl rfl)) | exact .inr (.inr (.inr ⟨_, rfl, by (first | assumption | with_reducible exact at_last | with_reducible exact at_new rfl | with_reducible exact at_left (by assumption) | with_reducible exact List.getElem?_set_self (by assumption) | with_reducible exact at_left (at_left (by assumption)))⟩)))) ?_ | refine wX_if2 (by (first | exact .inl rfl | exact .inr (.inl rfl) | exact .inr (.inr (.inl rfl)) | exact .inr (.inr (.inr ⟨_, rfl, by (first | assumption | with_reducible exact at_last | with_reducible exact at_new rfl | with_reducible exact at_left (by assumption) | with_reducible exact List.getElem?_set_self (by assumption) | with_reducible exact at_left (at_left (by assumption)))⟩)))) ?_ | refine wX_at (by (first | exact .inl rfl | exact .inr (.inl rfl) | exact .inr (.inr (.inl rfl)) | exact .inr (.inr (.inr ⟨_, rfl, by (first | assumption | with_reducible exact at_last | with_reducible exact at_new rfl | with_reducible exact at_left (by assumption) | with_reducible exact List.getElem?_set_self (by assumption) | with_reducible exact at_left (at_left (by assumption)))⟩)))) rfl ?_ | (refine wX_ints (by (first | exact .inl rfl | exact .inr (.inl rfl) | exact .inr (.inr (.inl rfl)) | exact .inr (.inr (.inr ⟨_, rfl, by (first | assumption | with_reducible exact at_last | with_reducible exact at_new rfl | with_reducible exact at_left (by assumption) | with_reducible exact List.getElem?_set_self (by assumption) | with_reducible exact at_left (at_left (by assumption)))⟩)))) (by (repeat (first | exact Ints.nil | apply Ints.cons))) (by (first | assumption | omega)) (by (simp only [List.length_cons, List.length_nil]; omega)) ?_; intro v hv; simp only [List.mem_cons, List.not_mem_nil, or_false] at hv) | ((with_reducible refine chkN "int" ?_); refine xE_bty gn ?qa T.n_int boot_int ?_; (case qa => (repeat (first | with_reducible exact In.z | with_reducible apply In.s)))) | ((with_reducible refine chkN "bool" ?_); refine xE_bty gn ?qa T.n_bool boot_bool ?_; (case qa => (repeat (first | with_reducible exact In.z | with_reducible apply In.s)))) | ((with_reducible refine chkN "str" ?_); refine xE_bty gn ?qa T.n_str boot_str ?_; (case qa => (repeat (first | with_reducible exact In.z | with_reducible apply In.s)))) | ((with_reducible refine chkN "PoolError" ?_); refine xE_cls gn ?qa T.g_PoolError ?_; (case qa => (repeat (first | with_reducible exact In.z | with_reducible apply In.s)))) | ((with_reducible refine chkN "InvalidNumber" ?_); refine xE_cls gn ?qa T.g_InvalidNumber ?_; (case qa => (repeat (first | with_reducible exact In.z | with_reducible apply In.s)))) | ((with_reducible refine chkN "Ratio" ?_); refine xE_cls gn ?qa T.g_Ratio ?_; (case qa => (repeat (first | with_reducible exact In.z | with_reducible apply In.s)))))
local macro_rules | `(tactic| walk_at "wp") => `(tactic| repeat (first | (refine wE_name gn ?_; (repeat (first | with_reducible refine wGt_z ?_ | with_reducible refine wGt_c ?_ | with_reducible refine wGt_s ?_ | with_reducible refine wGt_f ?_)); fail_if_success refine wGt_chk ?_) | refine wE_int ?_ | refine wE_bin ?_ | refine wE_sub ?_ | refine wE_cmp ?_ | refine wE_tup ?_ | refine wE_lst ?_ | refine wE_str ?_ | refine wE_bl ?_ | refine wE_non ?_ | refine wE_not ?_ | refine wE_and ?_ | refine wE_or ?_ | refine wE_one ?_ | refine wE_un ?_ | refine wE_if ?_ | with_reducible refine wB_add ?_ | with_reducible refine wB_sub ?_ | ((with_reducible refine wB_mulR ?qc ?_); (case qc => exact ⟨by (first | assumption | omega), by (first | assumption | omega)⟩)) | ((with_reducible refine wB_mulL ?qc ?_); (case qc => exact ⟨by (first | assumption | omega), by (first | assumption | omega)⟩)) | ((with_reducible refine wB_mod ?qc ?_); (case qc => (first | assumption | omega))) | ((with_reducible refine wB_fdivS ?qc ?_); (case qc => exact ⟨by (first | assumption | omega), by (first | assumption | omega)⟩)) | with_reducible refine wB_lt ?_ | with_reducible refine wB_le ?_ | with_reducible refine wB_gt ?_ | with_reducible refine wB_ge ?_ | with_reducible refine wB_eq ?_ | with_reducible refine wB_ne ?_ | with_reducible refine wB_eqT ?_ | with_reducible refine wB_neT ?_ | with_reducible refine wB_eqB ?_ | with_reducible refine wB_neB ?_ | with_reducible refine wB_is ?_ | with_reducible refine wB_isNot ?_ | with_reducible refine wU_neg ?_ | with_reducible refine wB_pow5 ?_ | with_reducible refine wB_pow6 ?_ | with_reducible refine wB_pow7 ?_ | with_reducible refine wB_pow8 ?_ | with_reducible refine wB_pow9 ?_ | with_reducible refine wB_pow18 ?_ | refine wA_cons ?_ | refine wA_nil ?_ | refine wG_tup g.calm ?_ | refine wGs_cons ?_ | refine wGs_nil ?_ | refine wG_name gn ?_ | with_reducible refine wPt_z ?_ | with_reducible refine wPt_c ?_ | with_reducible refine wPt_s ?_ | refine Exists.intro _ (And.intro rfl ?_) | refine And.intro (by (simp only [List.length_cons, List.length_nil]; decide)) ?_ | refine Exists.intro _ (Exists.intro _ (And.intro rfl ?_)) | refine Exists.intro _ (Exists.intro _ (Exists.intro _ (And.intro rfl ?_))) | refine Exists.intro _ (Exists.intro _ (Exists.intro _ (Exists.intro _ (And.intro rfl (And.intro rfl (And.intro (by (first | assumption | with_reducible exact at_last | with_reducible exact at_new rfl | with_reducible exact at_left (by assumption) | with_reducible exact List.getElem?_set_self (by assumption) | with_reducible exact at_left (at_left (by assumption)))) (And.intro rfl ?_))))))) | refine wC_cmp ?_ | refine wC_not ?_ | refine wC_bool ?_ | refine wCw_and ?_ | refine wCw_or ?_ | refine wCw_and1 ?_ | refine wCw_or1 ?_ | refine wC_val ?_ | refine wSs_cons ?_ | refine wSs_nil ?_ | (refine wS_set gn ?qa ?_; (case qa => exact ⟨_, by (repeat (first | with_reducible exact Ix.z | with_reducible exact Ix.c | with_reducible apply Ix.s))⟩)) | (refine wS_par g ?qa ?_; (case qa => exact ⟨_, _, by (repeat (first | with_reducible exact Il.z | with_reducible apply Il.s)), by (repeat (first | with_reducible exact Il.z | with_reducible apply Il.s)), by decide⟩)) | (refine wS_par3 g ?qa ?_; (case qa => exact ⟨_, _, _, by (repeat (first | with_reducible exact Il.z | with_reducible apply Il.s)), by (repeat (first | with_reducible exact Il.z | with_reducible apply Il.s)), by (repeat (first | with_reducible exact Il.z | with_reducible apply Il.s)), by decide, by decide, by decide⟩)) | refine wS_ret ?_ | refine wS_if ?_ | refine wS_expr ?_ | refine wS_ix ?_ | refine wS_asg ?_ | refine wS_pass ?_ | ((with_reducible refine chkC "len" ?_); refine xE_blt gn ?qa T.n_len boot_len ?_; (case qa => (repeat (first | with_reducible exact In.z | with_reducible apply In.s)))) | ((with_reducible refine chkC "int" ?_); refine xE_bcl gn ?qa T.n_int boot_int ?_; (case qa => (repeat (first | with_reducible exact In.z | with_reducible apply In.s)))) | ((with_reducible refine chkC "abs" ?_); refine xE_blt gn ?qa T.n_abs boot_abs ?_; (case qa => (repeat (first | with_reducible exact In.z | with_reducible apply In.s)))) | ((with_reducible refine chkC "max" ?_); refine xE_blt gn ?qa T.n_max boot_max ?_; (case qa => (repeat (first | with_reducible exact In.z | with_reducible apply In.s)))) | ((with_reducible refine chkC "min" ?_); refine xE_blt gn ?qa T.n_min boot_min ?_; (case qa => (repeat (first | with_reducible exact In.z | with_reducible apply In.s)))) | ((with_reducible refine chkC "str" ?_); refine xE_bcl gn ?qa T.n_str boot_str ?_; (case qa => (repeat (first | with_reducible exact In.z | with_reducible apply In.s)))) | ((with_reducible refine chkC "repr" ?_); refine xE_blt gn ?qa T.n_repr boot_repr ?_; (case qa => (repeat (first | with_reducible exact In.z | with_reducible apply In.s)))) | ((with_reducible refine chkC "isinstance" ?_); refine xE_blt gn ?qa T.n_isinstance boot_isinstance ?_; (case qa => (repeat (first | with_reducible exact In.z | with_reducible apply In.s)))) | ((with_reducible refine chkC "bool" ?_); refine xE_bcl gn ?qa T.n_bool boot_bool ?_; (case qa => (repeat (first | with_reducible exact In.z | with_reducible apply In.s)))) | ((with_reducible refine chkC "all" ?_); refine xE_blt gn ?qa T.n_all boot_all ?_; (case qa => (repeat (first | with_reducible exact In.z | with_reducible apply In.s)))) | ((with_reducible refine chkB "len" ?_); refine wF_len (by (first | exact .inl rfl | exact .inr (.inl rfl) | exact .inr (.inr (.inl rfl)) | exact .inr (.inr (.inr ⟨_, rfl, by (first | assumption | with_reducible exact at_last | with_reducible exact at_new rfl | with_reducible exact at_left (by assumption) | with_reducible exact List.getElem?_set_self (by assumption) | with_reducible exact at_left (at_left (by assumption)))⟩)))) ?_) | with_reducible refine wF_intB ?_ | with_reducible refine wF_boolB ?_ | with_reducible refine wF_abs ?_ | with_reducible refine wF_max g.toGd ?_ | with_reducible refine wF_min g.toGd ?_ | refine wX_if2I (by (first | exact .inl rfl | exact .inr (.inl rfl) | exact .inr (.inr (.inl rfl)) | exact .inr (.inr (.inr ⟨_, rfl, by (first | assumption | with_reducible exact at_last | with_reducible exact at_new rfl | with_reducible exact at_left (by assumption) | with_reducible exact List.getElem?_set_self (by assumption) | with_reducible exact at_left (at_left (by assumption)))⟩)))) ?_ | refine wX_if2 (by (first | exact .inl rfl | exact .inr (.inl rfl) | exact .inr (.inr (.inl rfl)) | exact .inr (.inr (.inr ⟨_, rfl, by (first | assumption | with_reducible exact at_last | with_reducible exact at_new rfl | with_reducible exact at_left (by assumption) | with_reducible exact List.getElem?_set_self (by assumption) | with_reducible exact at_left (at_left (by assumption)))⟩)))) ?_ | refine wX_at (by (first | exact .inl rfl | exact .inr (.inl rfl) | exact .inr (.inr (.inl rfl)) | exact .inr (.inr (.inr ⟨_, rfl, by (first | assumption | with_reducible exact at_last | with_reducible exact at_new rfl | with_reducible exact at_left (by assumption) | with_reducible exact List.getElem?_set_self (by assumption) | with_reducible exact at_left (at_left (by assumption)))⟩)))) rfl ?_ | (refine wX_ints (by (first | exact .inl rfl | exact .inr (.inl rfl) | exact .inr (.inr (.inl rfl)) | exact .inr (.inr (.inr ⟨_, rfl, by (first | assumption | with_reducible exact at_last | with_reducible exact at_new rfl | with_reducible exact at_left (by assumption) | with_reducible exact List.getElem?_set_self (by assumption) | with_reducible exact at_left (at_left (by assumption)))⟩)))) (by (repeat (first | exact Ints.nil | apply Ints.cons))) (by (first | assumption | omega)) (by (simp only [List.length_cons, List.length_nil]; omega)) ?_; intro v hv; simp only [List.mem_cons, List.not_mem_nil, or_false] at hv) | ((with_reducible refine chkN "int" ?_); refine xE_bty gn ?qa T.n_int boot_int ?_; (case qa => (repeat (first | with_reducible exact In.z | with_reducible apply In.s)))) | ((with_reducible refine chkN "bool" ?_); refine xE_bty gn ?qa T.n_bool boot_bool ?_; (case qa => (repeat (first | with_reducible exact In.z | with_reducible apply In.s)))) | ((with_reducible refine chkN "str" ?_); refine xE_bty gn ?qa T.n_str boot_str ?_; (case qa => (repeat (first | with_reducible exact In.z | with_reducible apply In.s)))) | ((with_reducible refine chkN "PoolError" ?_); refine xE_cls gn ?qa T.g_PoolError ?_; (case qa => (repeat (first | with_reducible exact In.z | with_reducible apply In.s)))) | ((with_reducible refine chkN "InvalidNumber" ?_); refine xE_cls gn ?qa T.g_InvalidNumber ?_; (case qa => (repeat (first | with_reducible exact In.z | with_reducible apply In.s)))) | ((with_reducible refine chkN "Ratio" ?_); refine xE_cls gn ?qa T.g_Ratio ?_; (case qa => (repeat (first | with_reducible exact In.z | with_reducible apply In.s))))))
local macro_rules | `(tactic| walk_at "s1") => `(tactic| (refine wSs_cons ?_; repeat (first | (refine wE_name gn ?_; (repeat (first | with_reducible refine wGt_z ?_ | with_reducible refine wGt_c ?_ | with_reducible refine wGt_s ?_ | with_reducible refine wGt_f ?_)); fail_if_success refine wGt_chk ?_) | refine wE_int ?_ | refine wE_bin ?_ | refine wE_sub ?_ | refine wE_cmp ?_ | refine wE_tup ?_ | refine wE_lst ?_ | refine wE_str ?_ | refine wE_bl ?_ | refine wE_non ?_ | refine wE_not ?_ | refine wE_and ?_ | refine wE_or ?_ | refine wE_one ?_ | refine wE_un ?_ | refine wE_if ?_ | with_reducible refine wB_add ?_ | with_reducible refine wB_sub ?_ | ((with_reducible refine wB_mulR ?qc ?_); (case qc => exact ⟨by (first | assumption | omega), by (first | assumption | omega)⟩)) | ((with_reducible refine wB_mulL ?qc ?_); (case qc => exact ⟨by (first | assumption | omega), by (first | assumption | omega)⟩)) | ((with_reducible refine wB_mod ?qc ?_); (case qc => (first | assumption | omega))) | ((with_reducible refine wB_fdivS ?qc ?_); (case qc => exact ⟨by (first | assumption | omega), by (first | assumption | omega)⟩)) | with_reducible refine wB_lt ?_ | with_reducible refine wB_le ?_ | with_reducible refine wB_gt ?_ | with_reducible refine wB_ge ?_ | with_reducible refine wB_eq ?_ | with_reducible refine wB_ne ?_ | with_reducible refine wB_eqT ?_ | with_reducible refine wB_neT ?_ | with_reducible refine wB_eqB ?_ | with_reducible refine wB_neB ?_ | with_reducible refine wB_is ?_ | with_reducible refine wB_isNot ?_ | with_reducible refine wU_neg ?_ | with_reducible refine wB_pow5 ?_ | with_reducible refine wB_pow6 ?_ | with_reducible refine wB_pow7 ?_ | with_reducible refine wB_pow8 ?_ | with_reducible refine wB_pow9 ?_ | with_reducible refine wB_pow18 ?_ | refine wA_cons ?_ | refine wA_nil ?_ | refine wG_tup g.calm ?_ | refine wGs_cons ?_ | refine wGs_nil ?_ | refine wG_name gn ?_ | with_reducible refine wPt_z ?_ | with_reducible refine wPt_c ?_ | with_reducible refine wPt_s ?_ | refine Exists.intro _ (And.intro rfl ?_) | refine And.intro (by (simp only [List.length_cons, List.length_nil]; decide)) ?_ | refine Exists.intro _ (Exists.intro _ (And.intro rfl ?_)) | refine Exists.intro _ (Exists.intro _ (Exists.intro _ (And.intro rfl ?_))) | refine Exists.intro _ (Exists.intro _ (Exists.intro _ (Exists.intro _ (And.intro rfl (And.intro rfl (And.intro (by (first | assumption | with_reducible exact at_last | with_reducible exact at_new rfl | with_reducible exact at_left (by assumption) | with_reducible exact List.getElem?_set_self (by assumption) | with_reducible exact at_left (at_left (by assumption)))) (And.intro rfl ?_))))))) | refine wC_cmp ?_ | refine wC_not ?_ | refine wC_bool ?_ | refine wCw_and ?_ | refine wCw_or ?_ | refine wCw_and1 ?_ | refine wCw_or1 ?_ | refine wC_val ?_ | refine wSs_nil ?_ | (refine wS_set gn ?qa ?_; (case qa => exact ⟨_, by (repeat (first | with_reducible exact Ix.z | with_reducible exact Ix.c | with_reducible apply Ix.s))⟩)) | (refine wS_par g ?qa ?_; (case qa => exact ⟨_, _, by (repeat (first | with_reducible exact Il.z | with_reducible apply Il.s)), by (repeat (first | with_reducible exact Il.z | with_reducible apply Il.s)), by decide⟩)) | (refine wS_par3 g ?qa ?_; (case qa => exact ⟨_, _, _, by (repeat (first | with_reducible exact Il.z | with_reducible apply Il.s)), by (repeat (first | with_reducible exact Il.z | with_reducible apply Il.s)), by (repeat (first | with_reducible exact Il.z | with_reducible apply Il.s)), by decide, by decide, by decide⟩)) | refine wS_ret ?_ | refine wS_if ?_ | refine wS_expr ?_ | refine wS_ix ?_ | refine wS_asg ?_ | refine wS_pass ?_ | ((with_reducible refine chkC "len" ?_); refine xE_blt gn ?qa T.n_len boot_len ?_; (case qa => (repeat (first | with_reducible exact In.z | with_reducible apply In.s)))) | ((with_reducible refine chkC "int" ?_); refine xE_bcl gn ?qa T.n_int boot_int ?_; (case qa => (repeat (first | with_reducible exact In.z | with_reducible apply In.s)))) | ((with_reducible refine chkC "abs" ?_); refine xE_blt gn ?qa T.n_abs boot_abs ?_; (case qa => (repeat (first | with_reducible exact In.z | with_reducible apply In.s)))) | ((with_reducible refine chkC "max" ?_); refine xE_blt gn ?qa T.n_max boot_max ?_; (case qa => (repeat (first | with_reducible exact In.z | with_reducible apply In.s)))) | ((with_reducible refine chkC "min" ?_); refine xE_blt gn ?qa T.n_min boot_min ?_; (case qa => (repeat (first | with_reducible exact In.z | with_reducible apply In.s)))) | ((with_reducible refine chkC "str" ?_); refine xE_bcl gn ?qa T.n_str boot_str ?_; (case qa => (repeat (first | with_reducible exact In.z | with_reducible apply In.s)))) | ((with_reducible refine chkC "repr" ?_); refine xE_blt gn ?qa T.n_repr boot_repr ?_; (case qa => (repeat (first | with_reducible exact In.z | with_reducible apply In.s)))) | ((with_reducible refine chkC "isinstance" ?_); refine xE_blt gn ?qa T.n_isinstance boot_isinstance ?_; (case qa => (repeat (first | with_reducible exact In.z | with_reducible apply In.s)))) | ((with_reducible refine chkC "bool" ?_); refine xE_bcl gn ?qa T.n_bool boot_bool ?_; (case qa => (repeat (first | with_reducible exact In.z | with_reducible apply In.s)))) | ((with_reducible refine chkC "all" ?_); refine xE_blt gn ?qa T.n_all boot_all ?_; (case qa => (repeat (first | with_reducible exact In.z | with_reducible apply In.s)))) | ((with_reducible refine chkB "len" ?_); refine wF_len (by (first | exact .inl rfl | exact .inr (.inl rfl) | exact .inr (.inr (.inl rfl)) | exact .inr (.inr (.inr ⟨_, rfl, by (first | assumption | with_reducible exact at_last | with_reducible exact at_new rfl | with_reducible exact at_left (by assumption) | with_reducible exact List.getElem?_set_self (by assumption) | with_reducible exact at_left (at_left (by assumption)))⟩)))) ?_) | with_reducible refine wF_intB ?_ | with_reducible refine wF_boolB ?_ | with_reducible refine wF_abs ?_ | with_reducible refine wF_max g.toGd ?_ | with_reducible refine wF_min g.toGd ?_ | refine wX_if2I (by (first | exact .inl rfl | exact .inr (.inl rfl) | exact .inr (.inr (.inl rfl)) | exact .inr (.inr (.inr ⟨_, rfl, by (first | assumption | with_reducible exact at_last | with_reducible exact at_new rfl | with_reducible exact at_left (by assumption) | with_reducible exact List.getElem?_set_self (by assumption) | with_reducible exact at_left (at_left (by assumption)))⟩)))) ?_ | refine wX_if2 (by (first | exact .inl rfl | exact .inr (.inl rfl) | exact .inr (.inr (.inl rfl)) | exact .inr (.inr (.inr ⟨_, rfl, by (first | assumption | with_reducible exact at_last | with_reducible exact at_new rfl | with_reducible exact at_left (by assumption) | with_reducible exact List.getElem?_set_self (by assumption) | with_reducible exact at_left (at_left (by assumption)))⟩)))) ?_ | refine wX_at (by (first | exact .inl rfl | exact .inr (.inl rfl) | exact .inr (.inr (.inl rfl)) | exact .inr (.inr (.inr ⟨_, rfl, by (first | assumption | with_reducible exact at_last | with_reducible exact at_new rfl | with_reducible exact at_left (by assumption) | with_reducible exact List.getElem?_set_self (by assumption) | with_reducible exact at_left (at_left (by assumption)))⟩)))) rfl ?_ | (refine wX_ints (by (first | exact .inl rfl | exact .inr (.inl rfl) | exact .inr (.inr (.inl rfl)) | exact .inr (.inr (.inr ⟨_, rfl, by (first | assumption | with_reducible exact at_last | with_reducible exact at_new rfl | with_reducible exact at_left (by assumption) | with_reducible exact List.getElem?_set_self (by assumption) | with_reducible exact at_left (at_left (by assumption)))⟩)))) (by (repeat (first | exact Ints.nil | apply Ints.cons))) (by (first | assumption | omega)) (by (simp only [List.length_cons, List.length_nil]; omega)) ?_; intro v hv; simp only [List.mem_cons, List.not_mem_nil, or_false] at hv) | ((with_reducible refine chkN "int" ?_); refine xE_bty gn ?qa T.n_int boot_int ?_; (case qa => (repeat (first | with_reducible exact In.z | with_reducible apply In.s)))) | ((with_reducible refine chkN "bool" ?_); refine xE_bty gn ?qa T.n_bool boot_bool ?_; (case qa => (repeat (first | with_reducible exact In.z | with_reducible apply In.s)))) | ((with_reducible refine chkN "str" ?_); refine xE_bty gn ?qa T.n_str boot_str ?_; (case qa => (repeat (first | with_reducible exact In.z | with_reducible apply In.s)))) | ((with_reducible refine chkN "PoolError" ?_); refine xE_cls gn ?qa T.g_PoolError ?_; (case qa => (repeat (first | with_reducible exact In.z | with_reducible apply In.s)))) | ((with_reducible refine chkN "InvalidNumber" ?_); refine xE_cls gn ?qa T.g_InvalidNumber ?_; (case qa => (repeat (first | with_reducible exact In.z | with_reducible apply In.s)))) | ((with_reducible refine chkN "Ratio" ?_); refine xE_cls gn ?qa T.g_Ratio ?_; (case qa => (repeat (first | with_reducible exact In.z | with_reducible apply In.s)))))))
local macro_rules | `(tactic| walk_at "e") => `(tactic| repeat (first | (refine wE_name gn ?_; (repeat (first | with_reducible refine wGt_z ?_ | with_reducible refine wGt_c ?_ | with_reducible refine wGt_s ?_ | with_reducible refine wGt_f ?_)); fail_if_success refine wGt_chk ?_) | refine wE_int ?_ | refine wE_bin ?_ | refine wE_sub ?_ | refine wE_cmp ?_ | refine wE_tup ?_ | refine wE_lst ?_ | refine wE_str ?_ | refine wE_bl ?_ | refine wE_non ?_ | refine wE_not ?_ | refine wE_and ?_ | refine wE_or ?_ | refine wE_one ?_ | refine wE_un ?_ | refine wE_if ?_ | with_reducible refine wB_add ?_ | with_reducible refine wB_sub ?_ | ((with_reducible refine wB_mulR ?qc ?_); (case qc => exact ⟨by (first | assumption | omega), by (first | assumption | omega)⟩)) | ((with_reducible refine wB_mulL ?qc ?_); (case qc => exact ⟨by (first | assumption | omega), by (first | assumption | omega)⟩)) | ((with_reducible refine wB_mod ?qc ?_); (case qc => (first | assumption | omega))) | ((with_reducible refine wB_fdivS ?qc ?_); (case qc => exact ⟨by (first | assumption | omega), by (first | assumption | omega)⟩)) | with_reducible refine wB_lt ?_ | with_reducible refine wB_le ?_ | with_reducible refine wB_gt ?_ | with_reducible refine wB_ge ?_ | with_reducible refine wB_eq ?_ | with_reducible refine wB_ne ?_ | with_reducible refine wB_eqT ?_ | with_reducible refine wB_neT ?_ | with_reducible refine wB_eqB ?_ | with_reducible refine wB_neB ?_ | with_reducible refine wB_is ?_ | with_reducible refine wB_isNot ?_ | with_reducible refine wU_neg ?_ | with_reducible refine wB_pow5 ?_ | with_reducible refine wB_pow6 ?_ | with_reducible refine wB_pow7 ?_ | with_reducible refine wB_pow8 ?_ | with_reducible refine wB_pow9 ?_ | with_reducible refine wB_pow18 ?_ | refine wA_cons ?_ | refine wA_nil ?_ | refine wG_tup g.calm ?_ | refine wGs_cons ?_ | refine wGs_nil ?_ | refine wG_name gn ?_ | with_reducible refine wPt_z ?_ | with_reducible refine wPt_c ?_ | with_reducible refine wPt_s ?_ | refine Exists.intro _ (And.intro rfl ?_) | refine And.intro (by (simp only [List.length_cons, List.length_nil]; decide)) ?_ | refine Exists.intro _ (Exists.intro _ (And.intro rfl ?_)) | refine Exists.intro _ (Exists.intro _ (Exists.intro _ (And.intro rfl ?_))) | refine Exists.intro _ (Exists.intro _ (Exists.intro _ (Exists.intro _ (And.intro rfl (And.intro rfl (And.intro (by (first | assumption | with_reducible exact at_last | with_reducible exact at_new rfl | with_reducible exact at_left (by assumption) | with_reducible exact List.getElem?_set_self (by assumption) | with_reducible exact at_left (at_left (by assumption)))) (And.intro rfl ?_))))))) | refine wC_cmp ?_ | refine wC_not ?_ | refine wC_bool ?_ | refine wCw_and ?_ | refine wCw_or ?_ | refine wCw_and1 ?_ | refine wCw_or1 ?_ | refine wC_val ?_ | ((with_reducible refine chkC "len" ?_); refine xE_blt gn ?qa T.n_len boot_len ?_; (case qa => (repeat (first | with_reducible exact In.z | with_reducible apply In.s)))) | ((with_reducible refine chkC "int" ?_); refine xE_bcl gn ?qa T.n_int boot_int ?_; (case qa => (repeat (first | with_reducible exact In.z | with_reducible apply In.s)))) | ((with_reducible refine chkC "abs" ?_); refine xE_blt gn ?qa T.n_abs boot_abs ?_; (case qa => (repeat (first | with_reducible exact In.z | with_reducible apply In.s)))) | ((with_reducible refine chkC "max" ?_); refine xE_blt gn ?qa T.n_max boot_max ?_; (case qa => (repeat (first | with_reducible exact In.z | with_reducible apply In.s)))) | ((with_reducible refine chkC "min" ?_); refine xE_blt gn ?qa T.n_min boot_min ?_; (case qa => (repeat (first | with_reducible exact In.z | with_reducible apply In.s)))) | ((with_reducible refine chkC "str" ?_); refine xE_bcl gn ?qa T.n_str boot_str ?_; (case qa => (repeat (first | with_reducible exact In.z | with_reducible apply In.s)))) | ((with_reducible refine chkC "repr" ?_); refine xE_blt gn ?qa T.n_repr boot_repr ?_; (case qa => (repeat (first | with_reducible exact In.z | with_reducible apply In.s)))) | ((with_reducible refine chkC "isinstance" ?_); refine xE_blt gn ?qa T.n_isinstance boot_isinstance ?_; (case qa => (repeat (first | with_reducible exact In.z | with_reducible apply In.s)))) | ((with_reducible refine chkC "bool" ?_); refine xE_bcl gn ?qa T.n_bool boot_bool ?_; (case qa => (repeat (first | with_reducible exact In.z | with_reducible apply In.s)))) | ((with_reducible refine chkC "all" ?_); refine xE_blt gn ?qa T.n_all boot_all ?_; (case qa => (repeat (first | with_reducible exact In.z | with_reducible apply In.s)))) | ((with_reducible refine chkB "len" ?_); refine wF_len (by (first | exact .inl rfl | exact .inr (.inl rfl) | exact .inr (.inr (.inl rfl)) | exact .inr (.inr (.inr ⟨_, rfl, by (first | assumption | with_reducible exact at_last | with_reducible exact at_new rfl | with_reducible exact at_left (by assumption) | with_reducible exact List.getElem?_set_self (by assumption) | with_reducible exact at_left (at_left (by assumption)))⟩)))) ?_) | with_reducible refine wF_intB ?_ | with_reducible refine wF_boolB ?_ | with_reducible refine wF_abs ?_ | with_reducible refine wF_max g.toGd ?_ | with_reducible refine wF_min g.toGd ?_ | refine wX_if2I (by (first | exact .inl rfl | exact .inr (.inl rfl) | exact .inr (.inr (.inl rfl)) | exact .inr (.inr (.inr ⟨_, rfl, by (first | assumption | with_reducible exact at_last | with_reducible exact at_new rfl | with_reducible exact at_left (by assumption) | with_reducible exact List.getElem?_set_self (by assumption) | with_reducible exact at_left (at_left (by assumption)))⟩)))) ?_ | refine wX_if2 (by (first | exact .inl rfl | exact .inr (.inl rfl) | exact .inr (.inr (.inl rfl)) | exact .inr (.inr (.inr ⟨_, rfl, by (first | assumption | with_reducible exact at_last | with_reducible exact at_new rfl | with_reducible exact at_left (by assumption) | with_reducible exact List.getElem?_set_self (by assumption) | with_reducible exact at_left (at_left (by assumption)))⟩)))) ?_ | refine wX_at (by (first | exact .inl rfl | exact .inr (.inl rfl) | exact .inr (.inr (.inl rfl)) | exact .inr (.inr (.inr ⟨_, rfl, by (first | assumption | with_reducible exact at_last | with_reducible exact at_new rfl | with_reducible exact at_left (by assumption) | with_reducible exact List.getElem?_set_self (by assumption) | with_reducible exact at_left (at_left (by assumption)))⟩)))) rfl ?_ | (refine wX_ints (by (first | exact .inl rfl | exact .inr (.inl rfl) | exact .inr (.inr (.inl rfl)) | exact .inr (.inr (.inr ⟨_, rfl, by (first | assumption | with_reducible exact at_last | with_reducible exact at_new rfl | with_reducible exact at_left (by assumption) | with_reducible exact List.getElem?_set_self (by assumption) | with_reducible exact at_left (at_left (by assumption)))⟩)))) (by (repeat (first | exact Ints.nil | apply Ints.cons))) (by (first | assumption | omega)) (by (simp only [List.length_cons, List.length_nil]; omega)) ?_; intro v hv; simp only [List.mem_cons, List.not_mem_nil, or_false] at hv) | ((with_reducible refine chkN "int" ?_); refine xE_bty gn ?qa T.n_int boot_int ?_; (case qa => (repeat (first | with_reducible exact In.z | with_reducible apply In.s)))) | ((with_reducible refine chkN "bool" ?_); refine xE_bty gn ?qa T.n_bool boot_bool ?_; (case qa => (repeat (first | with_reducible exact In.z | with_reducible apply In.s)))) | ((with_reducible refine chkN "str" ?_); refine xE_bty gn ?qa T.n_str boot_str ?_; (case qa => (repeat (first | with_reducible exact In.z | with_reducible apply In.s)))) | ((with_reducible refine chkN "PoolError" ?_); refine xE_cls gn ?qa T.g_PoolError ?_; (case qa => (repeat (first | with_reducible exact In.z | with_reducible apply In.s)))) | ((with_reducible refine chkN "InvalidNumber" ?_); refine xE_cls gn ?qa T.g_InvalidNumber ?_; (case qa => (repeat (first | with_reducible exact In.z | with_reducible apply In.s)))) | ((with_reducible refine chkN "Ratio" ?_); refine xE_cls gn ?qa T.g_Ratio ?_; (case qa => (repeat (first | with_reducible exact In.z | with_reducible apply In.s))))))
local macro_rules | `(tactic| walk_at "start") => `(tactic| (intro ρ hρ cdv A outer s H E g; simp only [startD, List.map_cons, List.map_nil, List.length_cons, List.length_nil, List.replicate_succ, List.replicate_zero, List.cons_append, List.nil_append, Nat.reduceAdd, Nat.reduceSub] at hρ; subst hρ; have gn := g.toNx'))
local macro_rules | `(tactic| walk_at "suite") => `(tactic| (intro a dd oe pn hz hv gn ρs hρ; simp only [List.set_cons_succ, List.set_cons_zero] at hρ; subst hρ))
local macro_rules | `(tactic| walk_at "after") => `(tactic| (intro ρs hρ; simp only [List.set_cons_succ, List.set_cons_zero] at hρ; subst hρ))
local macro_rules | `(tactic| walk_at "blk") => `(tactic| (intro s H C cl fp g; have gn := g.toNx'))
section
variable {P : Program} {w : World} {K : PySem.W.Frag} {mg : Str → Option Value} {base : Heap} (T : Tx K mg)
/-- a draw: any number below m -/
theorem sp_take {μ : List M} {n : Nat} {m : Int} {Q : KV} {Z : KX} (hb : μ[n]? = some .box) (h0 : 0 < m) (h1 : m < 2 ^ 64) (h : ∀ d, 0 ≤ d → d < m → Q (.int d) μ) : SpF P w K mg base T.f_w_take [.loc n, .int m] μ Q Z := by
  refine spX_of T.F_w_take sc_w_take ck_w_take rfl ?_
  walk_at "start"
  refine wSs.some (S := fun μ1 => ∃ i j k, μ1 = μ.set n (bxI i j k)) ?_ fun K L G H o => let ⟨i, j, k, o'⟩ := (List.append_nil μ ▸ o).unbox hb; ⟨_, ⟨i, j, k, rfl⟩, o'⟩
  rintro _ ⟨i, j, k, rfl⟩
  have hn : n < μ.length := (List.getElem?_eq_some_iff.mp hb).1
  have fin : ∀ d i j k, 0 ≤ d → d < m → RetOk μ Q (.int d) (μ.set n (bxI i j k)) := fun d i j k q1 q2 => .le (le_box hb) (.same (h d q1 q2))
  walk_at "wp"
  refine br_dec (fun hi => ?_) (fun hi => ?_)
  · walk_at "wp"
    refine wB_fdiv ⟨h0, Nat.lt_trans (log2_lt (show m.natAbs < 2 ^ 64 by omega) (by decide)) (by decide)⟩ ?_
    walk_at "wp"
    rw [List.set_set]
    exact fin _ _ _ _ (Int.emod_nonneg _ (by omega)) (Int.emod_lt_of_pos _ h0)
  · walk_at "wp"
    rw [List.set_set]
    walk_at "wp"
    rw [List.set_set]
    walk_at "wp"
    refine br_dec (fun hm => ?_) (fun hm => ?_)
    · walk_at "wp"
      exact fin _ _ _ _ (Int.emod_nonneg _ (by omega)) (Int.emod_lt_of_pos _ h0)
    · walk_at "wp"
      exact fin _ _ _ _ (Int.emod_nonneg _ (by omega)) (Int.emod_lt_of_pos _ h0)
/-- a new box -/
theorem sp_box {μ : List M} {ns : List Int} {k : Int} {Q : KV} {Z : KX} (h0 : 0 ≤ k) (h1 : k < 1000) (h : Q (.loc μ.length) (μ ++ [.box])) : SpF P w K mg base T.f_w_box [.scr (ns.map D.int), .int k] μ Q Z := by
  refine spX_of T.F_w_box sc_w_box ck_w_box rfl ?_
  walk_at "start"
  have fin : ∀ d i j k, d = .loc (μ ++ ([] : List M)).length → RetOk μ Q d ((μ ++ []) ++ [bxI i j k]) := fun d i j k e => by
    subst e
    rw [List.append_nil]
    exact .le le_newbox (.same h)
  have rest : ∀ c : Int, ∀ {κ : Ks} {nx : KN}, κ.rt = RetOk μ Q → wSs (cxOf (L2.CX P w) P w K mg base n_w_box "_law_box" (defScope s_w_box) T.a_w_box cdv A outer s H E) (fun c d _ H => E c d H) [some (.scr (ns.map D.int)), some (.int k), some (.int c), none] (μ ++ []) ((defBody s_w_box).drop 2) nx κ := by
    intro c κ nx hκ
    walk_at "s1"
    refine wSs_cons (wS_ret ?_)
    rw [hκ]
    refine wE_lstL ?_
    walk_at "e"
    exact fin _ _ _ _ rfl
  walk_at "s1"
  walk_at "s1"
  have ln : (ns.map D.int).length = ns.length := by simp
  rw [ln]
  refine br_dec (fun hk => ?_) (fun hk => ?_)
  · walk_at "s1"
    refine wX_some (by walk_at "ixd") h0 (by rw [ln]; exact hk) fun n d e _ => ?_
    rw [List.getElem?_map] at e
    obtain ⟨i, _, rfl⟩ := Option.map_eq_some_iff.mp e
    walk_at "e"
    refine wSs_nil ?_
    exact rest i (by rfl)
  · walk_at "s1"
    rw [ln]
    refine br_dec (fun hl => ?_) (fun hl => ?_)
    · walk_at "s1"
      rw [ln]
      walk_at "e"
      refine wX_some (by walk_at "ixd") (Int.emod_nonneg _ (by omega)) (by rw [ln]; exact Int.emod_lt_of_pos _ hl) fun n d e _ => ?_
      rw [List.getElem?_map] at e
      obtain ⟨i, _, rfl⟩ := Option.map_eq_some_iff.mp e
      walk_at "e"
      refine wSs_nil (wSs_nil ?_)
      exact rest _ (by rfl)
    · refine wSs_nil (wSs_nil ?_)
      exact rest _ (by rfl)
end
end PM
set_option Elab.async false
set_option linter.all false
set_option maxRecDepth 100000
set_option maxHeartbeats 4000000
namespace PM
open PySem L2 PyProof.Rows
/-- a ratio -/
def rt (C : Addr) (q : Rat) : D := .obj C ["top", "bottom"] [.int q.num, .int q.den]
/-- values that are known: whether they are numbers -/
inductive Kn (K : PySem.W.Frag) (C : Addr) : D → Bool → Prop
  | int (i : Int) : Kn K C (.int i) true
  | rt (q : Rat) : Kn K C (rt C q) true
  | non : Kn K C .non false
  | bl (b : Bool) : Kn K C (.bl b) false
  | str (x : Str) : Kn K C (.str x) false
  | tup (ds : List D) : Kn K C (.tup ds) false
  | lst (ds : List D) : Kn K C (.lst ds) false
  | obj {C' : Addr} (ns : List Str) (ds : List D) : OwnC K C' → C' ≠ C → Kn K C (.obj C' ns ds) false
/-- numbers -/
inductive Num (C : Addr) : D → Rat → Prop
  | int (i : Int) : Num C (.int i) (i : Rat)
  | rt (q : Rat) : Num C (rt C q) q
theorem Num.kn {K : PySem.W.Frag} {C : Addr} {d : D} {q : Rat} : Num C d q → Kn K C d true
  | .int i => .int i
  | .rt q => .rt q
def isRt (C : Addr) : D → Bool
  | .obj C' _ _ => decide (C' = C)
  | _ => false
def isI : D → Bool
  | .int _ => true
  | _ => false
def isB : D → Bool
  | .bl _ => true
  | _ => false
theorem Kn.ty {K : PySem.W.Frag} {C : Addr} {d : D} {b : Bool} (c : OwnC K C) (h : Kn K C d b) : ∃ t, TyD K d t ∧ PySem.W.kitOne K t (.ref C) = some (isRt C d) ∧ PySem.W.kitOne K t (.type "int") = some (isI d || isB d) ∧ PySem.W.kitOne K t (.type "bool") = some (isB d) := by
  cases h with
  | int i => exact ⟨_, .int, kit_ty_own c mro_int rfl, rfl, rfl⟩
  | rt q => exact ⟨_, .obj c, by simp only [PM.rt, isRt, decide_true]; exact kit_own_self, kit_own_ty c (by decide) (by decide), kit_own_ty c (by decide) (by decide)⟩
  | non => exact ⟨_, .non, kit_ty_own c mro_non rfl, rfl, rfl⟩
  | bl b => exact ⟨_, .bl, kit_ty_own c mro_bool rfl, rfl, rfl⟩
  | str x => exact ⟨_, .str, kit_ty_own c mro_str rfl, rfl, rfl⟩
  | tup ds => exact ⟨_, .tup, kit_ty_own c mro_tup rfl, rfl, rfl⟩
  | lst ds => exact ⟨_, .lst, kit_ty_own c mro_lst rfl, rfl, rfl⟩
  | obj ns ds c' ne => exact ⟨_, .obj c', by simp only [isRt, ne, decide_false]; exact kit_own_own c' c ne, kit_own_ty c' (by decide) (by decide), kit_own_ty c' (by decide) (by decide)⟩
theorem Kn.num {K : PySem.W.Frag} {C : Addr} {d : D} {b : Bool} (h : Kn K C d b) : b = (isRt C d || isI d) := by
  cases h with
  | rt q => simp [PM.rt, isRt]
  | obj ns ds c' ne => simp [isRt, isI, ne]
  | _ => rfl
theorem Kn.nb {K : PySem.W.Frag} {C : Addr} {d : D} {b : Bool} (h : Kn K C d b) : ((isI d || isB d) && !isB d) = isI d := by
  cases h <;> rfl
section
variable {P : Program} {w : World} {K : PySem.W.Frag} {mg : Str → Option Value} {base : Heap} (T : Tx K mg)
def R_is_integer (T : Tx K mg) : Rl := fun ds μ o => ∃ d b, ds = [d] ∧ Kn K T.C_Ratio d b ∧ o = .ret (.bl (isI d)) μ
theorem ok_is_integer : FnG P w K mg base 1 T.a_is_integer T.fd_is_integer ["value"] (spR K (R_is_integer T)) := by
  refine fnR T.F_is_integer sc_is_integer (fun ds μ o ⟨d, b, e, _⟩ => by rw [e]; rfl) fun cdv A outer s H E g ds μ o h => ?_
  obtain ⟨d, b, rfl, kn, rfl⟩ := h
  obtain ⟨t, ty, h0, h1, h2⟩ := kn.ty T.own_Ratio
  rw [← kn.nb]
  refine ⟨_, .ret0, ess_one (es_retV (ev_and (k := isI d || isB d) (k' := !isB d) (ev_bltV (ev_cons (ev_var 0 rfl) (ev_cons (ev_bty (T := "int") rfl T.n_int boot_int) ev_nil)) (cb_isi ty (.ty "int") h1) T.n_isinstance boot_isinstance) fun _ => ?_))⟩
  exact ev_oneV (ev_not (ev_bltV (ev_cons (ev_var 0 rfl) (ev_cons (ev_bty (T := "bool") rfl T.n_bool boot_bool) ev_nil)) (cb_isi ty (.ty "bool") h2) T.n_isinstance boot_isinstance))
def R_is_number (T : Tx K mg) : Rl := fun ds μ o => ∃ d b, ds = [d] ∧ Kn K T.C_Ratio d b ∧ o = .ret (.bl b) μ
theorem ok_is_number : FnG P w K mg base 2 T.a_is_number T.fd_is_number ["value"] (spR K (R_is_number T)) := by
  refine fnR T.F_is_number sc_is_number (fun ds μ o ⟨d, b, e, _⟩ => by rw [e]; rfl) fun cdv A outer s H E g ds μ o h => ?_
  obtain ⟨d, b, rfl, kn, rfl⟩ := h
  obtain ⟨t, ty, h0, h1, h2⟩ := kn.ty T.own_Ratio
  rw [kn.num]
  refine ⟨_, .ret0, ess_one (es_retV (ev_or (k := isRt T.C_Ratio d) (k' := isI d) (ev_bltV (ev_cons (ev_var 0 rfl) (ev_cons (ev_glob (v := .ref T.C_Ratio) (d := .ref T.C_Ratio) rfl T.g_Ratio rfl fun _ _ => rep_ref.mpr rfl) ev_nil)) (cb_isi ty (.own _) h0) T.n_isinstance boot_isinstance) fun _ => ?_))⟩
  exact ev_oneV (ev_callV g ⟨ok_is_integer T, T.b_is_integer⟩ T.g_is_integer T.F_is_integer.kp (ev_cons (ev_var 0 rfl) ev_nil) ⟨d, b, rfl, kn, rfl⟩)
end
end PM
set_option Elab.async false
set_option linter.all false
set_option maxRecDepth 100000
set_option maxHeartbeats 4000000
namespace PM
open PySem L2 PyProof.Rows
section
variable {P : Program} {w : World} {K : PySem.W.Frag} {mg : Str → Option Value} {base : Heap} (T : Tx K mg)
def R_gcd : Rl := fun ds μ o => ∃ a b : Nat, ds = [.int a, .int b] ∧ o = .ret (.int (Nat.gcd a b : Nat)) μ
theorem ok_common_divisor : FnG P w K mg base 1 T.a_common_divisor T.fd_common_divisor ["one", "other"] (spR K R_gcd) := by
  refine fnR T.F_common_divisor sc_common_divisor (fun ds μ o ⟨d, b, e, _⟩ => by rw [e]; rfl) fun cdv A outer s H E g ds μ o h => ?_
  obtain ⟨a, b, rfl, rfl⟩ := h
  refine ⟨_, .ret0, ess_cons (es_whileM (S := Nat × Nat) (fun s => [some (.int s.1), some (.int s.2)]) (fun _ => μ) (fun s => s.2) (fun s => decide (0 < (s.2 : Int))) (fun s => (s.2, s.1 % s.2)) (fun s => (Nat.gcd s.1 s.2, 0)) g (a, b)
    (fun s => et_cmp (ev_var 1 rfl) ev_int oc_gt) (fun s hs => ?_) (fun s hs => ?_) (fun s hs => ?_) (fun s hs => ?_)) (ess_one (es_retV (ev_var 0 rfl)))⟩
  · refine ess_one ?_
    rw [Int.natCast_emod]
    exact es_par 0 1 g (ev_cons (ev_var 1 rfl) (ev_cons (ev_opI (ev_var 0 rfl) (ev_var 1 rfl) (oo_mod (of_decide_eq_true hs))) ev_nil))
  · have := of_decide_eq_true hs
    exact Nat.mod_lt _ (by omega)
  · have h0 := of_decide_eq_false hs
    have : s.2 = 0 := by omega
    obtain ⟨x, y⟩ := s
    simp only at this
    subst this
    simp
  · obtain ⟨x, y⟩ := s
    simp only [Prod.mk.injEq, and_true]
    rw [Nat.gcd_comm x y, Nat.gcd_rec y x, Nat.gcd_comm]
theorem err_InvalidNumber : ErrC P w K mg base T.C_InvalidNumber ["value"] :=
  ⟨T.oex_InvalidNumber, _, _, _, _, T.i_InvalidNumber, T.t_InvalidNumber, fn_I1 (f := "value") (FunD.plain T.F_InvalidNumber_init) sc_InvalidNumber_init T.oex_InvalidNumber T.na_InvalidNumber_value (fun cdv A outer s H E => pss_cons (ps_expr (pe_upinit rfl T.g_PoolError T.up_PoolError (pa_cons (pv 0) pa_nil))) (pss_one (ps_ost (pv 0) (pv 1)))), T.b_InvalidNumber_init, .inl ⟨_, rfl, rfl⟩⟩
/-- Ratio.__init__ -/
def R_init (T : Tx K mg) : Rl := fun ds μ o => ∃ n t b, ds = [.loc n, .int t, .int b] ∧ μ[n]? = some (.ins T.C_Ratio [] []) ∧
  ((b = 0 ∧ o = .exc T.C_InvalidNumber ["value"] [.int 0] μ) ∨ (b ≠ 0 ∧ b.natAbs < 2 ^ 9000 ∧ o = .ret .non (μ.set n (.ins T.C_Ratio ["top", "bottom"] [.int (Rat.divInt t b).num, .int (Rat.divInt t b).den]))))
theorem gcd_fits {t b : Int} (hb : 0 < b) (h : b.natAbs < 2 ^ 9000) : CDivW t (Nat.gcd t.natAbs b.natAbs : Nat) := by
  have h0 : 0 < Nat.gcd t.natAbs b.natAbs := Nat.gcd_pos_of_pos_right _ (by omega)
  refine ⟨by omega, ?_⟩
  exact log2_lt (Nat.lt_of_le_of_lt (Nat.gcd_le_right _ (by omega)) h) (by decide)
theorem ok_Ratio_init : FnG P w K mg base 3 T.a_Ratio_init T.fd_Ratio_init ["self", "top", "bottom"] (spR K (R_init T)) := by
  refine fnR T.F_Ratio_init sc_Ratio_init (fun ds μ o ⟨n, t, b, e, _⟩ => by rw [e]; rfl) fun cdv A outer s H E g ds μ o h => ?_
  obtain ⟨n, t, b, rfl, hn, h⟩ := h
  rcases h with ⟨hb, rfl⟩ | ⟨hb, hz, rfl⟩
  · exact ⟨_, .exc0, ess_stop (es_ifT (et_cmp (ev_var 2 rfl) ev_int oc_eq) (decide_eq_true hb) (ess_one (es_raise g (err_InvalidNumber T) T.g_InvalidNumber (ev_cons ev_int ev_nil) rfl))) trivial⟩
  · have rest : ∀ t' b' : Int, 0 < b' → b'.natAbs < 2 ^ 9000 → Rat.divInt t' b' = Rat.divInt t b → PSs (cxOf (L2.CX P w) P w K mg base n_Ratio_init "Ratio.__init__" (defScope s_Ratio_init) T.a_Ratio_init cdv A outer s H E) ((defBody s_Ratio_init).drop 2)
        (tS (fun c d _ H => E c d H) K [some (.loc n), some (.int t'), some (.int b'), none] μ (.next [some (.loc n), some (.int t'), some (.int b'), some (.int (Nat.gcd t'.natAbs b'.natAbs : Nat))] (μ.set n (.ins T.C_Ratio ["top", "bottom"] [.int (Rat.divInt t b).num, .int (Rat.divInt t b).den])))) := by
      intro t' b' h0 hz' he
      have e2 : (b' : Int) = (b'.natAbs : Int) := by omega
      refine ess_cons (es_setV 3 g.nd (ev_callV g ⟨ok_common_divisor T, T.b_common_divisor⟩ T.g_common_divisor T.F_common_divisor.kp (ev_cons (ev_bltV (ev_cons (ev_var 1 rfl) ev_nil) cb_abs T.n_abs boot_abs) (ev_cons (ev_var 2 rfl) ev_nil)) ⟨t'.natAbs, b'.natAbs, by rw [← e2, show (if t' < 0 then -t' else t') = (t'.natAbs : Int) by split <;> omega], rfl⟩)) ?_
      refine ess_cons (es_fld (i := n) (ev_opI (ev_var 1 rfl) (ev_var 3 rfl) (oo_fdiv (gcd_fits h0 hz'))) (ev_var 0 rfl) hn T.own_Ratio.cl T.na_Ratio_top) ?_
      refine ess_one (es_eq (es_fld (i := n) (ev_opI (ev_var 2 rfl) (ev_var 3 rfl) (oo_fdiv (gcd_fits h0 hz'))) (ev_var 0 rfl) (by rw [List.getElem?_set_self (List.getElem?_eq_some_iff.mp hn).1]) T.own_Ratio.cl T.na_Ratio_bottom) ?_)
      rw [← he, divInt_num h0, divInt_den h0, List.set_set]
      rfl
    refine ⟨.next [some (.loc n), some (.int (if b < 0 then -t else t)), some (.int (if b < 0 then -b else b)), some (.int (Nat.gcd (if b < 0 then -t else t).natAbs (if b < 0 then -b else b).natAbs : Nat))] _, .next0, ess_cons (es_ifF (et_cmp (ev_var 2 rfl) ev_int oc_eq) (decide_eq_false hb) ess_nil) ?_⟩
    by_cases hn0 : b < 0
    · simp only [hn0, if_true]
      refine ess_cons (es_ifT (et_cmp (ev_var 2 rfl) ev_int oc_lt) (decide_eq_true hn0) (ess_one (es_par 1 2 g (ev_cons (ev_unI (ev_var 1 rfl) ou_neg) (ev_cons (ev_unI (ev_var 2 rfl) ou_neg) ev_nil))))) ?_
      exact rest (-t) (-b) (by omega) (by omega) (Rat.neg_divInt_neg t b)
    · simp only [hn0, if_false]
      exact ess_cons (es_ifF (et_cmp (ev_var 2 rfl) ev_int oc_lt) (decide_eq_false hn0) ess_nil) (rest t b (by omega) hz rfl)
end
end PM
set_option Elab.async false
set_option linter.all false
set_option maxRecDepth 100000
set_option maxHeartbeats 4000000
set_option exponentiation.threshold 20000
namespace PM
open PySem L2 PyProof.Rows
theorem lt_pow_mono {a n m : Nat} (h : a < 2 ^ n) (l : n ≤ m) : a < 2 ^ m := Nat.lt_of_lt_of_le h (Nat.pow_le_pow_right (by decide) l)
theorem cmul {i j : Int} (h1 : i.natAbs < 2 ^ 4000) (h2 : j.natAbs < 2 ^ 4000) : CMulW i j := by
  have a := log2_lt h1 (by decide)
  have b := log2_lt h2 (by decide)
  unfold CMulW
  omega
theorem Fit.n {n : Nat} {q : Rat} (h : Fit n q) : q.num.natAbs < 2 ^ n := h.1
theorem Fit.d {n : Nat} {q : Rat} (h : Fit n q) : (q.den : Int).natAbs < 2 ^ n := h.2
theorem dm_fits {q r : Rat} (h1 : Fit 4000 q) (h2 : Fit 4000 r) : ((q.den : Int) * r.den).natAbs < 2 ^ 9000 := by
  rw [Int.natAbs_mul]
  exact lt_pow_mono (mul_lt_pow h1.d h2.d) (by decide)
theorem dm_ne (q r : Rat) : (q.den : Int) * r.den ≠ 0 := Int.mul_ne_zero (by have := q.den_pos; omega) (by have := r.den_pos; omega)
theorem fit_int {n : Nat} {i : Int} (h : i.natAbs < 2 ^ n) (hn : 0 < n) : Fit n (i : Rat) := ⟨h, by
  show 1 < 2 ^ n
  exact Nat.one_lt_two_pow (by omega)⟩
theorem fit_neg {n : Nat} {q : Rat} (h : Fit n q) : Fit n (-q) := ⟨by rw [Rat.neg_num, Int.natAbs_neg]; exact h.1, h.2⟩
theorem fit_mul {n m : Nat} {q r : Rat} (h1 : Fit n q) (h2 : Fit m r) : Fit (n + m) (q * r) := by
  rw [mul_rt]
  refine fit_divInt ?_ ?_ (dm_ne q r)
  · rw [Int.natAbs_mul]; exact mul_lt_pow h1.n h2.n
  · rw [Int.natAbs_mul]; exact mul_lt_pow h1.d h2.d
theorem fit_div {n m : Nat} {q r : Rat} (h1 : Fit n q) (h2 : Fit m r) (hr : r ≠ 0) : Fit (n + m) (q / r) := by
  rw [div_rt]
  have : r.num ≠ 0 := fun e => hr (Rat.num_eq_zero.mp e)
  refine fit_divInt ?_ ?_ (Int.mul_ne_zero (by have := q.den_pos; omega) this)
  · rw [Int.natAbs_mul]; exact mul_lt_pow h1.n h2.d
  · rw [Int.natAbs_mul]; exact mul_lt_pow h1.d h2.n
section
variable {K : PySem.W.Frag} {mg : Str → Option Value} (T : Tx K mg)
theorem mkR {t b : Int} {μ : List M} (hb : b ≠ 0) (hz : b.natAbs < 2 ^ 9000) : MakeR (R_init T) T.C_Ratio [.int t, .int b] μ (.ret (rt T.C_Ratio (Rat.divInt t b)) μ) := by
  refine .obj (ns := ["top", "bottom"]) (fs := [.int (Rat.divInt t b).num, .int (Rat.divInt t b).den]) ⟨μ.length, t, b, rfl, by simp, .inr ⟨hb, hz, ?_⟩⟩ (.refl _) rfl rfl
  rw [List.set_append_right _ _ (Nat.le_refl _)]
  simp
theorem mkR0 {t : Int} {μ : List M} : MakeR (R_init T) T.C_Ratio [.int t, .int 0] μ (.exc T.C_InvalidNumber ["value"] [.int 0] μ) :=
  .exc (m := .ins T.C_Ratio [] []) ⟨μ.length, t, 0, rfl, by simp, .inl ⟨rfl, rfl⟩⟩ (.refl _) rfl
theorem Tx.bR3 : Binds K T.fd_Ratio_init ["self", "top", "bottom"] [] := by
  obtain ⟨ds, h1, h2⟩ := T.b_Ratio_init
  cases h1
  exact h2
end
section
variable {X : Cx} {W : WX} {k : Nat} {T : Tx X.K X.mg} {ρ : Env'} {μ μ1 μ2 : List M} {a b e : Expr} {p pos : Pos} {d : D} {q r : Rat} {t u : Int}
/-- Ratio(t, u) -/
theorem ev_R2 (g : Gd X W k) (h1 : PE X a (tV X.K ρ μ (.int t) μ1)) (h2 : PE X b (tV X.K ρ μ1 (.int u) μ2)) (hb : u ≠ 0) (hz : u.natAbs < 2 ^ 9000) (hk : 4 ≤ k := by decide) (hg : Gl X "Ratio" := by rfl)
    (he : starEach [a, b] X.env = (false, eval a X.env) :: starEach [b] X.env := by rfl) (he2 : starEach [b] X.env = (false, eval b X.env) :: starEach [] X.env := by rfl) (hpl : (backTo pos (starEach [b] X.env)).any (·.1) = false := by rfl) :
    PE X (.Call (.Name "Ratio" p) [a, b] [] pos) (tV X.K ρ μ (rt T.C_Ratio (Rat.divInt t u)) μ2) :=
  ev_make (W := W) (o := .ret _ _) g ⟨T.mk_Ratio, ok_Ratio_init T⟩ T.bR3 T.g_Ratio (ev_cons h1 (ev_cons h2 ev_nil he2) he) (mkR T hb hz) hk hg (by decide) he hpl
/-- Ratio(t) -/
theorem ev_R1 (g : Gd X W k) (h1 : PE X a (tV X.K ρ μ (.int t) μ1)) (hk : 4 ≤ k := by decide) (hg : Gl X "Ratio" := by rfl)
    (he : starEach [a] X.env = (false, eval a X.env) :: starEach [] X.env := by rfl) :
    PE X (.Call (.Name "Ratio" p) [a] [] pos) (tV X.K ρ μ (rt T.C_Ratio (t : Rat)) μ1) := by
  obtain ⟨ds, q1, q2⟩ := T.b_Ratio_init_2
  have e : (t : Rat) = Rat.divInt t 1 := by rw [Rat.divInt_eq_div, Rat.intCast_one]; grind
  rw [e]
  exact ev_makeD (W := W) (o := .ret _ _) (dds := [.int 1]) g ⟨T.mk_Ratio, ok_Ratio_init T⟩ q2 q1 (fun _ _ => Reps.cons (rep_int.mpr rfl) Reps.nil) T.g_Ratio (ev_cons h1 ev_nil he) (mkR T (by decide) (by decide)) hk hg (by decide) he rfl
theorem ev_top (h : PE X e (tV X.K ρ μ (rt T.C_Ratio q) μ1)) (hb : attributeBase e "top" X.env (eval e X.env) = eval e X.env := by rfl) : PE X (.Attribute e "top" pos) (tV X.K ρ μ (.int q.num) μ1) := ev_fld h T.own_Ratio.cl T.na_Ratio_top rfl hb
theorem ev_bot (h : PE X e (tV X.K ρ μ (rt T.C_Ratio q) μ1)) (hb : attributeBase e "bottom" X.env (eval e X.env) = eval e X.env := by rfl) : PE X (.Attribute e "bottom" pos) (tV X.K ρ μ (.int q.den) μ1) := ev_fld h T.own_Ratio.cl T.na_Ratio_bottom rfl hb
/-- isinstance(e, Ratio) -/
theorem ev_isiR {n : Bool} {p2 : Pos} (h : PE X e (tV X.K ρ μ d μ1)) (kn : Kn X.K T.C_Ratio d n) (h1 : Gl X "isinstance" := by rfl) (h2 : Gl X "Ratio" := by rfl) (he : starEach [e, .Name "Ratio" p2] X.env = (false, eval e X.env) :: starEach [.Name "Ratio" p2] X.env := by rfl) :
    PE X (.Call (.Name "isinstance" p) [e, .Name "Ratio" p2] [] pos) (tV X.K ρ μ (.bl (isRt T.C_Ratio d)) μ1) := by
  obtain ⟨t, ty, h0, _, _⟩ := kn.ty T.own_Ratio
  exact ev_bltV (ev_cons h (ev_cons (ev_glob (v := .ref T.C_Ratio) (d := .ref T.C_Ratio) h2 T.g_Ratio rfl fun _ _ => rep_ref.mpr rfl) ev_nil) he) (cb_isi ty (.own _) h0) T.n_isinstance boot_isinstance h1 (by decide) (by decide) he rfl
theorem ev_isint {n : Bool} (g : Gd X W k) (h : PE X e (tV X.K ρ μ d μ1)) (kn : Kn X.K T.C_Ratio d n) (hk : 1 ≤ k := by decide) (hg : Gl X "is_integer" := by rfl) (he : starEach [e] X.env = (false, eval e X.env) :: starEach [] X.env := by rfl) :
    PE X (.Call (.Name "is_integer" p) [e] [] pos) (tV X.K ρ μ (.bl (isI d)) μ1) :=
  ev_callV g ⟨ok_is_integer T, T.b_is_integer⟩ T.g_is_integer T.F_is_integer.kp (ev_cons h ev_nil he) ⟨d, n, rfl, kn, rfl⟩ hk hg (by decide) he rfl
theorem ev_isnum {n : Bool} (g : Gd X W k) (h : PE X e (tV X.K ρ μ d μ1)) (kn : Kn X.K T.C_Ratio d n) (hk : 2 ≤ k := by decide) (hg : Gl X "is_number" := by rfl) (he : starEach [e] X.env = (false, eval e X.env) :: starEach [] X.env := by rfl) :
    PE X (.Call (.Name "is_number" p) [e] [] pos) (tV X.K ρ μ (.bl n) μ1) :=
  ev_callV g ⟨ok_is_number T, T.b_is_number⟩ T.g_is_number T.F_is_number.kp (ev_cons h ev_nil he) ⟨d, n, rfl, kn, rfl⟩ hk hg (by decide) he rfl
end
section
variable {P : Program} {w : World} {K : PySem.W.Frag} {mg : Str → Option Value} {base : Heap} (T : Tx K mg)
def R_as_ratio (T : Tx K mg) : Rl := fun ds μ o => ∃ d, ds = [d] ∧ ((∃ q, Num T.C_Ratio d q ∧ o = .ret (rt T.C_Ratio q) μ) ∨ (Kn K T.C_Ratio d false ∧ o = .exc T.C_InvalidNumber ["value"] [d] μ))
theorem ok_as_ratio : FnG P w K mg base 5 T.a_as_ratio T.fd_as_ratio ["value"] (spR K (R_as_ratio T)) := by
  refine fnR T.F_as_ratio sc_as_ratio (fun ds μ o ⟨d, e, _⟩ => by rw [e]; rfl) fun cdv A outer s H E g ds μ o h => ?_
  obtain ⟨d, rfl, h⟩ := h
  rcases h with ⟨q, hq, rfl⟩ | ⟨kn, rfl⟩
  · cases hq with
    | rt q => exact ⟨_, .ret0, ess_stop (es_ifT (et_val (ev_isiR (T := T) (ev_var 0 rfl) (.rt q))) (by simp [rt, isRt]) (ess_one (es_retV (ev_var 0 rfl)))) trivial⟩
    | int i =>
      exact ⟨_, .ret0, ess_cons (es_ifF (et_val (ev_isiR (T := T) (ev_var 0 rfl) (.int i))) rfl ess_nil)
        (ess_cons (es_ifF (et_not (et_val (ev_isint (T := T) g (ev_var 0 rfl) (.int i)))) rfl ess_nil) (ess_one (es_retV (ev_R1 (T := T) g (ev_var 0 rfl)))))⟩
  · obtain ⟨h1, h2⟩ := Bool.or_eq_false_iff.mp kn.num.symm
    exact ⟨_, .exc0, ess_cons (es_ifF (et_val (ev_isiR (ev_var 0 rfl) (by exact kn))) h1 ess_nil)
      (ess_stop (es_ifT (et_not (et_val (ev_isint g (ev_var 0 rfl) (by exact kn)))) (by rw [h2]; rfl) (ess_one (es_raise g (err_InvalidNumber T) T.g_InvalidNumber (ev_cons (ev_var 0 rfl) ev_nil) rfl))) trivial)⟩
end
end PM
set_option Elab.async false
set_option linter.all false
set_option maxRecDepth 100000
set_option maxHeartbeats 4000000
set_option exponentiation.threshold 20000
namespace PM
open PySem L2 PyProof.Rows
section
variable {X : Cx} {W : WX} {k : Nat} {T : Tx X.K X.mg} {ρ : Env'} {μ μ1 μ2 : List M} {a b e : Expr} {p pos : Pos} {d : D} {q r : Rat} {t u : Int}
theorem ev_as (g : Gd X W k) (h : PE X e (tV X.K ρ μ d μ1)) (hn : Num T.C_Ratio d q) (hk : 5 ≤ k := by decide) (hg : Gl X "as_ratio" := by rfl) (he : starEach [e] X.env = (false, eval e X.env) :: starEach [] X.env := by rfl) :
    PE X (.Call (.Name "as_ratio" p) [e] [] pos) (tV X.K ρ μ (rt T.C_Ratio q) μ1) :=
  ev_callV g ⟨ok_as_ratio T, T.b_as_ratio⟩ T.g_as_ratio T.F_as_ratio.kp (ev_cons h ev_nil he) ⟨d, rfl, .inl ⟨q, hn, rfl⟩⟩ hk hg (by decide) he rfl
end
section
variable {P : Program} {w : World} {K : PySem.W.Frag} {mg : Str → Option Value} {base : Heap} (T : Tx K mg)
/-- a method of a ratio alone -/
def R1 (T : Tx K mg) (f : Rat → D) : Rl := fun ds μ o => ∃ q, ds = [rt T.C_Ratio q] ∧ Fit 4000 q ∧ o = .ret (f q) μ
/-- a method of a ratio and a number -/
def R2 (T : Tx K mg) (f : Rat → Rat → D) : Rl := fun ds μ o => ∃ q d r, ds = [rt T.C_Ratio q, d] ∧ Num T.C_Ratio d r ∧ Fit 4000 q ∧ Fit 4000 r ∧ o = .ret (f q r) μ
/-- a division -/
def RD (T : Tx K mg) (n : Nat) (f : Rat → Rat → D) : Rl := fun ds μ o => ∃ q d r, ds = [rt T.C_Ratio q, d] ∧ Num T.C_Ratio d r ∧ Fit n q ∧ Fit n r ∧ ((r = 0 ∧ o = .exc T.C_InvalidNumber ["value"] [.int 0] μ) ∨ (r ≠ 0 ∧ o = .ret (f q r) μ))
theorem ok_is_whole : FnG P w K mg base 1 T.a_Ratio_is_whole T.fd_Ratio_is_whole ["self"] (spR K (R1 T fun q => .bl (decide (q.den = 1)))) := by
  refine fnR T.F_Ratio_is_whole sc_Ratio_is_whole (fun ds μ o ⟨q, e, _⟩ => by rw [e]; rfl) fun cdv A outer s H E g ds μ o h => ?_
  obtain ⟨q, rfl, hq, rfl⟩ := h
  dsimp only
  refine ⟨_, .ret0, ess_one (es_retV (ev_eqV (ev_cmpV (ev_bot (ev_var 0 rfl)) ev_int oc_eq) ?_))⟩
  rw [show decide ((q.den : Int) = 1) = decide (q.den = 1) from decide_eq_decide.mpr (by omega)]
theorem ok_floor : FnG P w K mg base 1 T.a_Ratio_floor T.fd_Ratio_floor ["self"] (spR K (R1 T fun q => .int q.floor)) := by
  refine fnR T.F_Ratio_floor sc_Ratio_floor (fun ds μ o ⟨q, e, _⟩ => by rw [e]; rfl) fun cdv A outer s H E g ds μ o h => ?_
  obtain ⟨q, rfl, hq, rfl⟩ := h
  dsimp only
  rw [Rat.floor_def]
  exact ⟨_, .ret0, ess_one (es_retV (ev_opI (ev_top (ev_var 0 rfl)) (ev_bot (ev_var 0 rfl)) (oo_fdiv ⟨den_pos' q, log2_lt (lt_pow_mono hq.d (by decide)) (by decide)⟩)))⟩
theorem ok_neg : FnG P w K mg base 5 T.a_Ratio_neg T.fd_Ratio_neg ["self"] (spR K (R1 T fun q => rt T.C_Ratio (-q))) := by
  refine fnR T.F_Ratio_neg sc_Ratio_neg (fun ds μ o ⟨q, e, _⟩ => by rw [e]; rfl) fun cdv A outer s H E g ds μ o h => ?_
  obtain ⟨q, rfl, hq, rfl⟩ := h
  dsimp only
  refine ⟨_, .ret0, ess_one (es_retV ?_)⟩
  rw [neg_rt]
  exact ev_R2 g (ev_unI (ev_top (ev_var 0 rfl)) ou_neg) (ev_bot (ev_var 0 rfl)) (by have := q.den_pos; omega) (lt_pow_mono hq.d (by decide))
theorem ok_over : FnG P w K mg base 6 T.a_Ratio_over T.fd_Ratio_over ["self", "other"] (spR K (RD T 4000 fun q r => rt T.C_Ratio (q / r))) := by
  refine fnR T.F_Ratio_over sc_Ratio_over (fun ds μ o ⟨q, d, r, e, _⟩ => by rw [e]; rfl) fun cdv A outer s H E g ds μ o h => ?_
  obtain ⟨q, d, r, rfl, hd, hq, hr, h⟩ := h
  rcases h with ⟨z, rfl⟩ | ⟨z, rfl⟩
  · exact ⟨_, .exc0, ess_cons (es_setV 2 g.nd (ev_as g (ev_var 1 rfl) (by exact hd))) (ess_stop (es_ifT (et_cmp (ev_top (ev_var 2 rfl)) ev_int oc_eq) (decide_eq_true (Rat.num_eq_zero.mpr z)) (ess_one (es_raise g (err_InvalidNumber T) T.g_InvalidNumber (ev_cons ev_int ev_nil) rfl))) trivial)⟩
  · have z' : r.num ≠ 0 := fun e => z (Rat.num_eq_zero.mp e)
    dsimp only
    refine ⟨_, .ret0, ess_cons (es_setV 2 g.nd (ev_as g (ev_var 1 rfl) (by exact hd))) (ess_cons (es_ifF (et_cmp (ev_top (ev_var 2 rfl)) ev_int oc_eq) (decide_eq_false z') ess_nil) (ess_one (es_retV ?_)))⟩
    rw [div_rt]
    refine ev_R2 g (ev_opI (ev_top (ev_var 0 rfl)) (ev_bot (ev_var 2 rfl)) (oo_mul (cmul hq.n hr.d))) (ev_opI (ev_bot (ev_var 0 rfl)) (ev_top (ev_var 2 rfl)) (oo_mul (cmul hq.d hr.n))) (Int.mul_ne_zero (by have := q.den_pos; omega) z') ?_
    rw [Int.natAbs_mul]
    exact lt_pow_mono (mul_lt_pow hq.d hr.n) (by decide)
theorem ok_add : FnG P w K mg base 6 T.a_Ratio_add T.fd_Ratio_add ["self", "other"] (spR K (R2 T fun q r => rt T.C_Ratio (q + r))) := by
  refine fnR T.F_Ratio_add sc_Ratio_add (fun ds μ o ⟨q, d, r, e, _⟩ => by rw [e]; rfl) fun cdv A outer s H E g ds μ o h => ?_
  obtain ⟨q, d, r, rfl, hd, hq, hr, rfl⟩ := h
  dsimp only
  refine ⟨_, .ret0, ess_cons (es_ifF (et_not (et_val (ev_isnum g (ev_var 1 rfl) (by exact hd.kn)))) rfl ess_nil) (ess_cons (es_setV 2 g.nd (ev_as g (ev_var 1 rfl) (by exact hd))) (ess_one (es_retV ?_)))⟩
  rw [add_rt]
  exact ev_R2 g (ev_opI (ev_opI (ev_top (ev_var 0 rfl)) (ev_bot (ev_var 2 rfl)) (oo_mul (cmul hq.n hr.d))) (ev_opI (ev_top (ev_var 2 rfl)) (ev_bot (ev_var 0 rfl)) (oo_mul (cmul hr.n hq.d))) oo_add)
    (ev_opI (ev_bot (ev_var 0 rfl)) (ev_bot (ev_var 2 rfl)) (oo_mul (cmul hq.d hr.d))) (dm_ne q r) (dm_fits hq hr)
theorem ok_mul : FnG P w K mg base 6 T.a_Ratio_mul T.fd_Ratio_mul ["self", "other"] (spR K (R2 T fun q r => rt T.C_Ratio (q * r))) := by
  refine fnR T.F_Ratio_mul sc_Ratio_mul (fun ds μ o ⟨q, d, r, e, _⟩ => by rw [e]; rfl) fun cdv A outer s H E g ds μ o h => ?_
  obtain ⟨q, d, r, rfl, hd, hq, hr, rfl⟩ := h
  dsimp only
  refine ⟨_, .ret0, ess_cons (es_ifF (et_not (et_val (ev_isnum g (ev_var 1 rfl) (by exact hd.kn)))) rfl ess_nil) (ess_cons (es_setV 2 g.nd (ev_as g (ev_var 1 rfl) (by exact hd))) (ess_one (es_retV ?_)))⟩
  rw [mul_rt]
  exact ev_R2 g (ev_opI (ev_top (ev_var 0 rfl)) (ev_top (ev_var 2 rfl)) (oo_mul (cmul hq.n hr.n))) (ev_opI (ev_bot (ev_var 0 rfl)) (ev_bot (ev_var 2 rfl)) (oo_mul (cmul hq.d hr.d))) (dm_ne q r) (dm_fits hq hr)
end
end PM
set_option Elab.async false
set_option linter.all false
set_option maxRecDepth 100000
set_option maxHeartbeats 4000000
set_option exponentiation.threshold 20000
namespace PM
open PySem L2 PyProof.Rows
section
variable {X : Cx} {W : WX} {k : Nat} {T : Tx X.K X.mg} {ρ : Env'} {μ : List M} {e : Expr} {pos : Pos} {d : D} {q r : Rat} {t u : Int} {Q : KV} {Z : KX}
/-- Ratio(t, u), Ratio(t) -/
theorem wF_R2 (T : Tx X.K X.mg) (g : Gd X W k) (hb : u ≠ 0) (hz : u.natAbs < 2 ^ 9000) (h : Q (rt T.C_Ratio (Rat.divInt t u)) μ) (hk : 4 ≤ k := by decide) : wF X W (fun us => call (.ref T.C_Ratio) us) [.int t, .int u] μ Q Z :=
  .of (o := .ret _ _) (makeO (dvs := []) (dds := []) T.mk_Ratio (ok_Ratio_init T) T.bR3 .nil (fun _ _ => Reps.nil) g hk (by exact mkR T hb hz)) h
theorem wF_R20 (T : Tx X.K X.mg) (g : Gd X W k) (h : Z T.C_InvalidNumber ["value"] [.int 0] μ) (hk : 4 ≤ k := by decide) : wF X W (fun us => call (.ref T.C_Ratio) us) [.int t, .int 0] μ Q Z :=
  .of (o := .exc _ _ _ _) (makeO (dvs := []) (dds := []) T.mk_Ratio (ok_Ratio_init T) T.bR3 .nil (fun _ _ => Reps.nil) g hk (by exact mkR0 T)) h
theorem int_divInt (t : Int) : (t : Rat) = Rat.divInt t 1 := by rw [Rat.divInt_eq_div, Rat.intCast_one]; grind
theorem wF_R1 (T : Tx X.K X.mg) (g : Gd X W k) (h : Q (rt T.C_Ratio (t : Rat)) μ) (hk : 4 ≤ k := by decide) : wF X W (fun us => call (.ref T.C_Ratio) us) [.int t] μ Q Z := by
  obtain ⟨ds, q1, q2⟩ := T.b_Ratio_init_2
  rw [int_divInt] at h
  exact .of (o := .ret _ _) (makeO (dds := [.int 1]) T.mk_Ratio (ok_Ratio_init T) q2 q1 (fun _ _ => Reps.cons (rep_int.mpr rfl) Reps.nil) g hk (by exact mkR T (by decide) (by decide))) h
/-- q.top, q.bottom -/
theorem wE_top (T : Tx X.K X.mg) (h : wE X W ρ μ e (fun d μ1 => ∃ q, d = rt T.C_Ratio q ∧ Q (.int q.num) μ1) Z) (hb : attributeBase e "top" X.env (eval e X.env) = eval e X.env := by rfl) : wE X W ρ μ (.Attribute e "top" pos) Q Z :=
  wE_fld (h.imp fun d μ1 ⟨q, ed, hq⟩ => ⟨_, _, .inl ed, _, rfl, hq⟩) T.own_Ratio.cl T.na_Ratio_top hb
theorem wE_bot (T : Tx X.K X.mg) (h : wE X W ρ μ e (fun d μ1 => ∃ q, d = rt T.C_Ratio q ∧ Q (.int q.den) μ1) Z) (hb : attributeBase e "bottom" X.env (eval e X.env) = eval e X.env := by rfl) : wE X W ρ μ (.Attribute e "bottom" pos) Q Z :=
  wE_fld (h.imp fun d μ1 ⟨q, ed, hq⟩ => ⟨_, _, .inl ed, _, rfl, hq⟩) T.own_Ratio.cl T.na_Ratio_bottom hb
/-- isinstance(d, Ratio) -/
theorem wF_isR {n : Bool} (kn : Kn X.K T.C_Ratio d n) (h : Q (.bl (isRt T.C_Ratio d)) μ) : wF X W (fun us => call (.builtin "isinstance") us) [d, .ref T.C_Ratio] μ Q Z := by
  obtain ⟨t, ty, h0, _, _⟩ := kn.ty T.own_Ratio
  exact wF_isi ty (.own _) h0 h
theorem wF_isRt {C : Addr} (c : OwnC X.K C) (h : Q (.bl true) μ) : wF X W (fun us => call (.builtin "isinstance") us) [rt C q, .ref C] μ Q Z := by
  obtain ⟨t, ty, h0, _, _⟩ := (Kn.rt (K := X.K) (C := C) q).ty c
  refine wF_isi ty (.own _) h0 ?_
  simp only [rt, isRt, decide_true]
  exact h
/-- isinstance of plain values and built-in classes -/
theorem wF_isII (h : Q (.bl true) μ) : wF X W (fun us => call (.builtin "isinstance") us) [.int t, .ty "int"] μ Q Z := wF_isi .int (.ty "int") rfl h
theorem wF_isIB (h : Q (.bl false) μ) : wF X W (fun us => call (.builtin "isinstance") us) [.int t, .ty "bool"] μ Q Z := wF_isi .int (.ty "bool") rfl h
theorem wF_isBB {b : Bool} (h : Q (.bl true) μ) : wF X W (fun us => call (.builtin "isinstance") us) [.bl b, .ty "bool"] μ Q Z := wF_isi .bl (.ty "bool") rfl h
end
end PM
set_option Elab.async false
set_option linter.all false
set_option maxRecDepth 100000
set_option maxHeartbeats 4000000
set_option exponentiation.threshold 20000
namespace PM
open PySem L2 PyProof.Rows
set_option hygiene false
local macro_rules | `(tactic| walk_at "in") => `(tactic| (repeat (first | with_reducible exact In.z | with_reducible apply In.s)))
local macro_rules | `(tactic| walk_at "at") => `(tactic| (first | assumption | with_reducible exact at_last | with_reducible exact at_new rfl | with_reducible exact at_left (by assumption) | with_reducible exact List.getElem?_set_self (by assumption) | with_reducible exact at_left (at_left (by assumption))))
local macro_rules | `(tactic| walk_at "ixd") => `(tactic| (first | exact .inl rfl | exact .inr (.inl rfl) | exact .inr (.inr (.inl rfl)) | exact .inr (.inr (.inr ⟨_, rfl, by (first | assumption | with_reducible exact at_last | with_reducible exact at_new rfl | with_reducible exact at_left (by assumption) | with_reducible exact List.getElem?_set_self (by assumption) | with_reducible exact at_left (at_left (by assumption)))⟩))))
local macro_rules | `(tactic| walk_at "ints") => `(tactic| (repeat (first | exact Ints.nil | apply Ints.cons)))
local macro_rules | `(tactic| walk_at "num") => `(tactic| (first | assumption | omega))
local macro_rules | `(tactic| walk_at "ix") => `(tactic| (repeat (first | with_reducible exact Ix.z | with_reducible exact Ix.c | with_reducible apply Ix.s)))
local macro_rules | `(tactic| walk_at "il") => `(tactic| (repeat (first | with_reducible exact Il.z | with_reducible apply Il.s)))
local macro_rules | `(tactic| walk_at "one") => `(tactic| first | (refine wE_name gn ?_; (repeat (first | with_reducible refine wGt_z ?_ | with_reducible refine wGt_c ?_ | with_reducible refine wGt_s ?_ | with_reducible refine wGt_f ?_)); fail_if_success refine wGt_chk ?_) | refine wE_int ?_ | refine wE_bin ?_ | refine wE_sub ?_ | refine wE_cmp ?_ | refine wE_tup ?_ | refine wE_lst ?_ | refine wE_str ?_ | refine wE_bl ?_ | refine wE_non ?_ | refine wE_not ?_ | refine wE_and ?_ | refine wE_or ?_ | refine wE_one ?_ | refine wE_un ?_ | refine wE_if ?_ | with_reducible refine wB_add ?_ | with_reducible refine wB_sub ?_ | ((with_reducible refine wB_mulR ?qc ?_); (case qc => exact ⟨by (first | assumption | omega), by (first | assumption | omega)⟩)) | ((with_reducible refine wB_mulL ?qc ?_); (case qc => exact ⟨by (first | assumption | omega), by (first | assumption | omega)⟩)) | ((with_reducible refine wB_mod ?qc ?_); (case qc => (first | assumption | omega))) | ((with_reducible refine wB_fdivS ?qc ?_); (case qc => exact ⟨by (first | assumption | omega), by (first | assumption | omega)⟩)) | with_reducible refine wB_lt ?_ | with_reducible refine wB_le ?_ | with_reducible refine wB_gt ?_ | with_reducible refine wB_ge ?_ | with_reducible refine wB_eq ?_ | with_reducible refine wB_ne ?_ | with_reducible refine wB_eqT ?_ | with_reducible refine wB_neT ?_ | with_reducible refine wB_eqB ?_ | with_reducible refine wB_neB ?_ | with_reducible refine wB_is ?_ | with_reducible refine wB_isNot ?_ | with_reducible refine wU_neg ?_ | with_reducible refine wB_pow5 ?_ | with_reducible refine wB_pow6 ?_ | with_reducible refine wB_pow7 ?_ | with_reducible refine wB_pow8 ?_ | with_reducible refine wB_pow9 ?_ | with_reducible refine wB_pow18 ?_ | refine wA_cons ?_ | refine wA_nil ?_ | refine wG_tup g.calm ?_ | refine wGs_cons ?_ | refine wGs_nil ?_ | refine wG_name gn ?_ | with_reducible refine wPt_z ?_ | with_reducible refine wPt_c ?_ | with_reducible refine wPt_s ?_ | refine Exists.intro _ (And.intro rfl ?_) | refine And.intro (by (simp only [List.length_cons, List.length_nil]; decide)) ?_ | refine Exists.intro _ (Exists.intro _ (And.intro rfl ?_)) | refine Exists.intro _ (Exists.intro _ (Exists.intro _ (And.intro rfl ?_))) | refine Exists.intro _ (Exists.intro _ (Exists.intro _ (Exists.intro _ (And.intro rfl (And.intro rfl (And.intro (by (first | assumption | with_reducible exact at_last | with_reducible exact at_new rfl | with_reducible exact at_left (by assumption) | with_reducible exact List.getElem?_set_self (by assumption) | with_reducible exact at_left (at_left (by assumption)))) (And.intro rfl ?_))))))) | refine wC_cmp ?_ | refine wC_not ?_ | refine wC_bool ?_ | refine wCw_and ?_ | refine wCw_or ?_ | refine wCw_and1 ?_ | refine wCw_or1 ?_ | refine wC_val ?_ | refine wSs_cons ?_ | refine wSs_nil ?_ | (refine wS_set gn ?qa ?_; (case qa => exact ⟨_, by (repeat (first | with_reducible exact Ix.z | with_reducible exact Ix.c | with_reducible apply Ix.s))⟩)) | (refine wS_par g ?qa ?_; (case qa => exact ⟨_, _, by (repeat (first | with_reducible exact Il.z | with_reducible apply Il.s)), by (repeat (first | with_reducible exact Il.z | with_reducible apply Il.s)), by decide⟩)) | (refine wS_par3 g ?qa ?_; (case qa => exact ⟨_, _, _, by (repeat (first | with_reducible exact Il.z | with_reducible apply Il.s)), by (repeat (first | with_reducible exact Il.z | with_reducible apply Il.s)), by (repeat (first | with_reducible exact Il.z | with_reducible apply Il.s)), by decide, by decide, by decide⟩)) | refine wS_ret ?_ | refine wS_if ?_ | refine wS_expr ?_ | refine wS_ix ?_ | refine wS_asg ?_ | refine wS_pass ?_ | ((with_reducible refine chkC "len" ?_); refine xE_blt gn ?qa T.n_len boot_len ?_; (case qa => (repeat (first | with_reducible exact In.z | with_reducible apply In.s)))) | ((with_reducible refine chkC "int" ?_); refine xE_bcl gn ?qa T.n_int boot_int ?_; (case qa => (repeat (first | with_reducible exact In.z | with_reducible apply In.s)))) | ((with_reducible refine chkC "abs" ?_); refine xE_blt gn ?qa T.n_abs boot_abs ?_; (case qa => (repeat (first | with_reducible exact In.z | with_reducible apply In.s)))) | ((with_reducible refine chkC "max" ?_); refine xE_blt gn ?qa T.n_max boot_max ?_; (case qa => (repeat (first | with_reducible exact In.z | with_reducible apply In.s)))) | ((with_reducible refine chkC "min" ?_); refine xE_blt gn ?qa T.n_min boot_min ?_; (case qa => (repeat (first | with_reducible exact In.z | with_reducible apply In.s)))) | ((with_reducible refine chkC "str" ?_); refine xE_bcl gn ?qa T.n_str boot_str ?_; (case qa => (repeat (first | with_reducible exact In.z | with_reducible apply In.s)))) | ((with_reducible refine chkC "repr" ?_); refine xE_blt gn ?qa T.n_repr boot_repr ?_; (case qa => (repeat (first | with_reducible exact In.z | with_reducible apply In.s)))) | ((with_reducible refine chkC "isinstance" ?_); refine xE_blt gn ?qa T.n_isinstance boot_isinstance ?_; (case qa => (repeat (first | with_reducible exact In.z | with_reducible apply In.s)))) | ((with_reducible refine chkC "bool" ?_); refine xE_bcl gn ?qa T.n_bool boot_bool ?_; (case qa => (repeat (first | with_reducible exact In.z | with_reducible apply In.s)))) | ((with_reducible refine chkC "all" ?_); refine xE_blt gn ?qa T.n_all boot_all ?_; (case qa => (repeat (first | with_reducible exact In.z | with_reducible apply In.s)))) | ((with_reducible refine chkB "len" ?_); refine wF_len (by (first | exact .inl rfl | exact .inr (.inl rfl) | exact .inr (.inr (.inl rfl)) | exact .inr (.inr (.inr ⟨_, rfl, by (first | assumption | with_reducible exact at_last | with_reducible exact at_new rfl | with_reducible exact at_left (by assumption) | with_reducible exact List.getElem?_set_self (by assumption) | with_reducible exact at_left (at_left (by assumption)))⟩)))) ?_) | with_reducible refine wF_intB ?_ | with_reducible refine wF_boolB ?_ | with_reducible refine wF_abs ?_ | with_reducible refine wF_max g.toGd ?_ | with_reducible refine wF_min g.toGd ?_ | refine wX_if2I (by (first | exact .inl rfl | exact .inr (.inl rfl) | exact .inr (.inr (.inl rfl)) | exact .inr (.inr (.inr ⟨_, rfl, by (first | assumption | with_reducible exact at_last | with_reducible exact at_new rfl | with_reducible exact at_left (by assumption) | with_reducible exact List.getElem?_set_self (by assumption) | with_reducible exact at_left (at_left (by assumption)))⟩)))) ?_ | refine wX_if2 (by (first | exact .inl rfl | exact .inr (.inl rfl) | exact .inr (.inr (.inl rfl)) | exact .inr (.inr (.inr ⟨_, rfl, by (first | assumption | with_reducible exact at_last | with_reducible exact at_new rfl | with_reducible exact at_left (by assumption) | with_reducible exact List.getElem?_set_self (by assumption) | with_reducible exact at_left (at_left (by assumption)))⟩)))) ?_ | refine wX_at (by (first | exact .inl rfl | exact .inr (.inl rfl) | exact .inr (.inr (.inl rfl)) | exact .inr (.inr (.inr ⟨_, rfl, by (first | assumption | with_reducible exact at_last | with_reducible exact at_new rfl | with_reducible exact at_left (by assumption) | with_reducible exact List.getElem?_set_self (by assumption) | with_reducible exact at_left (at_left (by assumption)))⟩)))) rfl ?_ | (refine wX_ints (by (first | exact .inl rfl | exact .inr (.inl rfl) | exact .inr (.inr (.inl rfl)) | exact .inr (.inr (.inr ⟨_, rfl, by (first | assumption | with_reducible exact at_last | with_reducible exact at_new rfl | with_reducible exact at_left (by assumption) | with_reducible exact List.getElem?_set_self (by assumption) | with_reducible exact at_left (at_left (by assumption)))⟩)))) (by (repeat (first | exact Ints.nil | apply Ints.cons))) (by (first | assumption | omega)) (by (simp only [List.length_cons, List.length_nil]; omega)) ?_; intro v hv; simp only [List.mem_cons, List.not_mem_nil, or_false] at hv) | ((with_reducible refine chkN "int" ?_); refine xE_bty gn ?qa T.n_int boot_int ?_; (case qa => (repeat (first | with_reducible exact In.z | with_reducible apply In.s)))) | ((with_reducible refine chkN "bool" ?_); refine xE_bty gn ?qa T.n_bool boot_bool ?_; (case qa => (repeat (first | with_reducible exact In.z | with_reducible apply In.s)))) | ((with_reducible refine chkN "str" ?_); refine xE_bty gn ?qa T.n_str boot_str ?_; (case qa => (repeat (first | with_reducible exact In.z | with_reducible apply In.s)))) | ((with_reducible refine chkN "PoolError" ?_); refine xE_cls gn ?qa T.g_PoolError ?_; (case qa => (repeat (first | with_reducible exact In.z | with_reducible apply In.s)))) | ((with_reducible refine chkN "InvalidNumber" ?_); refine xE_cls gn ?qa T.g_InvalidNumber ?_; (case qa => (repeat (first | with_reducible exact In.z | with_reducible apply In.s)))) | ((with_reducible refine chkN "Ratio" ?_); refine xE_cls gn ?qa T.g_Ratio ?_; (case qa => (repeat (first | with_reducible exact In.z | with_reducible apply In.s)))))
local macro_rules | `(tactic| walk_at "wp") => `(tactic| repeat (first | (refine wE_name gn ?_; (repeat (first | with_reducible refine wGt_z ?_ | with_reducible refine wGt_c ?_ | with_reducible refine wGt_s ?_ | with_reducible refine wGt_f ?_)); fail_if_success refine wGt_chk ?_) | refine wE_int ?_ | refine wE_bin ?_ | refine wE_sub ?_ | refine wE_cmp ?_ | refine wE_tup ?_ | refine wE_lst ?_ | refine wE_str ?_ | refine wE_bl ?_ | refine wE_non ?_ | refine wE_not ?_ | refine wE_and ?_ | refine wE_or ?_ | refine wE_one ?_ | refine wE_un ?_ | refine wE_if ?_ | with_reducible refine wB_add ?_ | with_reducible refine wB_sub ?_ | ((with_reducible refine wB_mulR ?qc ?_); (case qc => exact ⟨by (first | assumption | omega), by (first | assumption | omega)⟩)) | ((with_reducible refine wB_mulL ?qc ?_); (case qc => exact ⟨by (first | assumption | omega), by (first | assumption | omega)⟩)) | ((with_reducible refine wB_mod ?qc ?_); (case qc => (first | assumption | omega))) | ((with_reducible refine wB_fdivS ?qc ?_); (case qc => exact ⟨by (first | assumption | omega), by (first | assumption | omega)⟩)) | with_reducible refine wB_lt ?_ | with_reducible refine wB_le ?_ | with_reducible refine wB_gt ?_ | with_reducible refine wB_ge ?_ | with_reducible refine wB_eq ?_ | with_reducible refine wB_ne ?_ | with_reducible refine wB_eqT ?_ | with_reducible refine wB_neT ?_ | with_reducible refine wB_eqB ?_ | with_reducible refine wB_neB ?_ | with_reducible refine wB_is ?_ | with_reducible refine wB_isNot ?_ | with_reducible refine wU_neg ?_ | with_reducible refine wB_pow5 ?_ | with_reducible refine wB_pow6 ?_ | with_reducible refine wB_pow7 ?_ | with_reducible refine wB_pow8 ?_ | with_reducible refine wB_pow9 ?_ | with_reducible refine wB_pow18 ?_ | refine wA_cons ?_ | refine wA_nil ?_ | refine wG_tup g.calm ?_ | refine wGs_cons ?_ | refine wGs_nil ?_ | refine wG_name gn ?_ | with_reducible refine wPt_z ?_ | with_reducible refine wPt_c ?_ | with_reducible refine wPt_s ?_ | refine Exists.intro _ (And.intro rfl ?_) | refine And.intro (by (simp only [List.length_cons, List.length_nil]; decide)) ?_ | refine Exists.intro _ (Exists.intro _ (And.intro rfl ?_)) | refine Exists.intro _ (Exists.intro _ (Exists.intro _ (And.intro rfl ?_))) | refine Exists.intro _ (Exists.intro _ (Exists.intro _ (Exists.intro _ (And.intro rfl (And.intro rfl (And.intro (by (first | assumption | with_reducible exact at_last | with_reducible exact at_new rfl | with_reducible exact at_left (by assumption) | with_reducible exact List.getElem?_set_self (by assumption) | with_reducible exact at_left (at_left (by assumption)))) (And.intro rfl ?_))))))) | refine wC_cmp ?_ | refine wC_not ?_ | refine wC_bool ?_ | refine wCw_and ?_ | refine wCw_or ?_ | refine wCw_and1 ?_ | refine wCw_or1 ?_ | refine wC_val ?_ | refine wSs_cons ?_ | refine wSs_nil ?_ | (refine wS_set gn ?qa ?_; (case qa => exact ⟨_, by (repeat (first | with_reducible exact Ix.z | with_reducible exact Ix.c | with_reducible apply Ix.s))⟩)) | (refine wS_par g ?qa ?_; (case qa => exact ⟨_, _, by (repeat (first | with_reducible exact Il.z | with_reducible apply Il.s)), by (repeat (first | with_reducible exact Il.z | with_reducible apply Il.s)), by decide⟩)) | (refine wS_par3 g ?qa ?_; (case qa => exact ⟨_, _, _, by (repeat (first | with_reducible exact Il.z | with_reducible apply Il.s)), by (repeat (first | with_reducible exact Il.z | with_reducible apply Il.s)), by (repeat (first | with_reducible exact Il.z | with_reducible apply Il.s)), by decide, by decide, by decide⟩)) | refine wS_ret ?_ | refine wS_if ?_ | refine wS_expr ?_ | refine wS_ix ?_ | refine wS_asg ?_ | refine wS_pass ?_ | ((with_reducible refine chkC "len" ?_); refine xE_blt gn ?qa T.n_len boot_len ?_; (case qa => (repeat (first | with_reducible exact In.z | with_reducible apply In.s)))) | ((with_reducible refine chkC "int" ?_); refine xE_bcl gn ?qa T.n_int boot_int ?_; (case qa => (repeat (first | with_reducible exact In.z | with_reducible apply In.s)))) | ((with_reducible refine chkC "abs" ?_); refine xE_blt gn ?qa T.n_abs boot_abs ?_; (case qa => (repeat (first | with_reducible exact In.z | with_reducible apply In.s)))) | ((with_reducible refine chkC "max" ?_); refine xE_blt gn ?qa T.n_max boot_max ?_; (case qa => (repeat (first | with_reducible exact In.z | with_reducible apply In.s)))) | ((with_reducible refine chkC "min" ?_); refine xE_blt gn ?qa T.n_min boot_min ?_; (case qa => (repeat (first | with_reducible exact In.z | with_reducible apply In.s)))) | ((with_reducible refine chkC "str" ?_); refine xE_bcl gn ?qa T.n_str boot_str ?_; (case qa => (repeat (first | with_reducible exact In.z | with_reducible apply In.s)))) | ((with_reducible refine chkC "repr" ?_); refine xE_blt gn ?qa T.n_repr boot_repr ?_; (case qa => (repeat (first | with_reducible exact In.z | with_reducible apply In.s)))) | ((with_reducible refine chkC "isinstance" ?_); refine xE_blt gn ?qa T.n_isinstance boot_isinstance ?_; (case qa => (repeat (first | with_reducible exact In.z | with_reducible apply In.s)))) | ((with_reducible refine chkC "bool" ?_); refine xE_bcl gn ?qa T.n_bool boot_bool ?_; (case qa => (repeat (first | with_reducible exact In.z | with_reducible apply In.s)))) | ((with_reducible refine chkC "all" ?_); refine xE_blt gn ?qa T.n_all boot_all ?_; (case qa => (repeat (first | with_reducible exact In.z | with_reducible apply In.s)))) | ((with_reducible refine chkB "len" ?_); refine wF_len (by (first | exact .inl rfl | exact .inr (.inl rfl) | exact .inr (.inr (.inl rfl)) | exact .inr (.inr (.inr ⟨_, rfl, by (first | assumption | with_reducible exact at_last | with_reducible exact at_new rfl | with_reducible exact at_left (by assumption) | with_reducible exact List.getElem?_set_self (by assumption) | with_reducible exact at_left (at_left (by assumption)))⟩)))) ?_) | with_reducible refine wF_intB ?_ | with_reducible refine wF_boolB ?_ | with_reducible refine wF_abs ?_ | with_reducible refine wF_max g.toGd ?_ | with_reducible refine wF_min g.toGd ?_ | refine wX_if2I (by (first | exact .inl rfl | exact .inr (.inl rfl) | exact .inr (.inr (.inl rfl)) | exact .inr (.inr (.inr ⟨_, rfl, by (first | assumption | with_reducible exact at_last | with_reducible exact at_new rfl | with_reducible exact at_left (by assumption) | with_reducible exact List.getElem?_set_self (by assumption) | with_reducible exact at_left (at_left (by assumption)))⟩)))) ?_ | refine wX_if2 (by (first | exact .inl rfl | exact .inr (.inl rfl) | exact .inr (.inr (.inl rfl)) | exact .inr (.inr (.inr ⟨_, rfl, by (first | assumption | with_reducible exact at_last | with_reducible exact at_new rfl | with_reducible exact at_left (by assumption) | with_reducible exact List.getElem?_set_self (by assumption) | with_reducible exact at_left (at_left (by assumption)))⟩)))) ?_ | refine wX_at (by (first | exact .inl rfl | exact .inr (.inl rfl) | exact .inr (.inr (.inl rfl)) | exact .inr (.inr (.inr ⟨_, rfl, by (first | assumption | with_reducible exact at_last | with_reducible exact at_new rfl | with_reducible exact at_left (by assumption) | with_reducible exact List.getElem?_set_self (by assumption) | with_reducible exact at_left (at_left (by assumption)))⟩)))) rfl ?_ | (refine wX_ints (by (first | exact .inl rfl | exact .inr (.inl rfl) | exact .inr (.inr (.inl rfl)) | exact .inr (.inr (.inr ⟨_, rfl, by (first | assumption | with_reducible exact at_last | with_reducible exact at_new rfl | with_reducible exact at_left (by assumption) | with_reducible exact List.getElem?_set_self (by assumption) | with_reducible exact at_left (at_left (by assumption)))⟩)))) (by (repeat (first | exact Ints.nil | apply Ints.cons))) (by (first | assumption | omega)) (by (simp only [List.length_cons, List.length_nil]; omega)) ?_; intro v hv; simp only [List.mem_cons, List.not_mem_nil, or_false] at hv) | ((with_reducible refine chkN "int" ?_); refine xE_bty gn ?qa T.n_int boot_int ?_; (case qa => (repeat (first | with_reducible exact In.z | with_reducible apply In.s)))) | ((with_reducible refine chkN "bool" ?_); refine xE_bty gn ?qa T.n_bool boot_bool ?_; (case qa => (repeat (first | with_reducible exact In.z | with_reducible apply In.s)))) | ((with_reducible refine chkN "str" ?_); refine xE_bty gn ?qa T.n_str boot_str ?_; (case qa => (repeat (first | with_reducible exact In.z | with_reducible apply In.s)))) | ((with_reducible refine chkN "PoolError" ?_); refine xE_cls gn ?qa T.g_PoolError ?_; (case qa => (repeat (first | with_reducible exact In.z | with_reducible apply In.s)))) | ((with_reducible refine chkN "InvalidNumber" ?_); refine xE_cls gn ?qa T.g_InvalidNumber ?_; (case qa => (repeat (first | with_reducible exact In.z | with_reducible apply In.s)))) | ((with_reducible refine chkN "Ratio" ?_); refine xE_cls gn ?qa T.g_Ratio ?_; (case qa => (repeat (first | with_reducible exact In.z | with_reducible apply In.s))))))
local macro_rules | `(tactic| walk_at "s1") => `(tactic| (refine wSs_cons ?_; repeat (first | (refine wE_name gn ?_; (repeat (first | with_reducible refine wGt_z ?_ | with_reducible refine wGt_c ?_ | with_reducible refine wGt_s ?_ | with_reducible refine wGt_f ?_)); fail_if_success refine wGt_chk ?_) | refine wE_int ?_ | refine wE_bin ?_ | refine wE_sub ?_ | refine wE_cmp ?_ | refine wE_tup ?_ | refine wE_lst ?_ | refine wE_str ?_ | refine wE_bl ?_ | refine wE_non ?_ | refine wE_not ?_ | refine wE_and ?_ | refine wE_or ?_ | refine wE_one ?_ | refine wE_un ?_ | refine wE_if ?_ | with_reducible refine wB_add ?_ | with_reducible refine wB_sub ?_ | ((with_reducible refine wB_mulR ?qc ?_); (case qc => exact ⟨by (first | assumption | omega), by (first | assumption | omega)⟩)) | ((with_reducible refine wB_mulL ?qc ?_); (case qc => exact ⟨by (first | assumption | omega), by (first | assumption | omega)⟩)) | ((with_reducible refine wB_mod ?qc ?_); (case qc => (first | assumption | omega))) | ((with_reducible refine wB_fdivS ?qc ?_); (case qc => exact ⟨by (first | assumption | omega), by (first | assumption | omega)⟩)) | with_reducible refine wB_lt ?_ | with_reducible refine wB_le ?_ | with_reducible refine wB_gt ?_ | with_reducible refine wB_ge ?_ | with_reducible refine wB_eq ?_ | with_reducible refine wB_ne ?_ | with_reducible refine wB_eqT ?_ | with_reducible refine wB_neT ?_ | with_reducible refine wB_eqB ?_ | with_reducible refine wB_neB ?_ | with_reducible refine wB_is ?_ | with_reducible refine wB_isNot ?_ | with_reducible refine wU_neg ?_ | with_reducible refine wB_pow5 ?_ | with_reducible refine wB_pow6 ?_ | with_reducible refine wB_pow7 ?_ | with_reducible refine wB_pow8 ?_ | with_reducible refine wB_pow9 ?_ | with_reducible refine wB_pow18 ?_ | refine wA_cons ?_ | refine wA_nil ?_ | refine wG_tup g.calm ?_ | refine wGs_cons ?_ | refine wGs_nil ?_ | refine wG_name gn ?_ | with_reducible refine wPt_z ?_ | with_reducible refine wPt_c ?_ | with_reducible refine wPt_s ?_ | refine Exists.intro _ (And.intro rfl ?_) | refine And.intro (by (simp only [List.length_cons, List.length_nil]; decide)) ?_ | refine Exists.intro _ (Exists.intro _ (And.intro rfl ?_)) | refine Exists.intro _ (Exists.intro _ (Exists.intro _ (And.intro rfl ?_))) | refine Exists.intro _ (Exists.intro _ (Exists.intro _ (Exists.intro _ (And.intro rfl (And.intro rfl (And.intro (by (first | assumption | with_reducible exact at_last | with_reducible exact at_new rfl | with_reducible exact at_left (by assumption) | with_reducible exact List.getElem?_set_self (by assumption) | with_reducible exact at_left (at_left (by assumption)))) (And.intro rfl ?_))))))) | refine wC_cmp ?_ | refine wC_not ?_ | refine wC_bool ?_ | refine wCw_and ?_ | refine wCw_or ?_ | refine wCw_and1 ?_ | refine wCw_or1 ?_ | refine wC_val ?_ | refine wSs_nil ?_ | (refine wS_set gn ?qa ?_; (case qa => exact ⟨_, by (repeat (first | with_reducible exact Ix.z | with_reducible exact Ix.c | with_reducible apply Ix.s))⟩)) | (refine wS_par g ?qa ?_; (case qa => exact ⟨_, _, by (repeat (first | with_reducible exact Il.z | with_reducible apply Il.s)), by (repeat (first | with_reducible exact Il.z | with_reducible apply Il.s)), by decide⟩)) | (refine wS_par3 g ?qa ?_; (case qa => exact ⟨_, _, _, by (repeat (first | with_reducible exact Il.z | with_reducible apply Il.s)), by (repeat (first | with_reducible exact Il.z | with_reducible apply Il.s)), by (repeat (first | with_reducible exact Il.z | with_reducible apply Il.s)), by decide, by decide, by decide⟩)) | refine wS_ret ?_ | refine wS_if ?_ | refine wS_expr ?_ | refine wS_ix ?_ | refine wS_asg ?_ | refine wS_pass ?_ | ((with_reducible refine chkC "len" ?_); refine xE_blt gn ?qa T.n_len boot_len ?_; (case qa => (repeat (first | with_reducible exact In.z | with_reducible apply In.s)))) | ((with_reducible refine chkC "int" ?_); refine xE_bcl gn ?qa T.n_int boot_int ?_; (case qa => (repeat (first | with_reducible exact In.z | with_reducible apply In.s)))) | ((with_reducible refine chkC "abs" ?_); refine xE_blt gn ?qa T.n_abs boot_abs ?_; (case qa => (repeat (first | with_reducible exact In.z | with_reducible apply In.s)))) | ((with_reducible refine chkC "max" ?_); refine xE_blt gn ?qa T.n_max boot_max ?_; (case qa => (repeat (first | with_reducible exact In.z | with_reducible apply In.s)))) | ((with_reducible refine chkC "min" ?_); refine xE_blt gn ?qa T.n_min boot_min ?_; (case qa => (repeat (first | with_reducible exact In.z | with_reducible apply In.s)))) | ((with_reducible refine chkC "str" ?_); refine xE_bcl gn ?qa T.n_str boot_str ?_; (case qa => (repeat (first | with_reducible exact In.z | with_reducible apply In.s)))) | ((with_reducible refine chkC "repr" ?_); refine xE_blt gn ?qa T.n_repr boot_repr ?_; (case qa => (repeat (first | with_reducible exact In.z | with_reducible apply In.s)))) | ((with_reducible refine chkC "isinstance" ?_); refine xE_blt gn ?qa T.n_isinstance boot_isinstance ?_; (case qa => (repeat (first | with_reducible exact In.z | with_reducible apply In.s)))) | ((with_reducible refine chkC "bool" ?_); refine xE_bcl gn ?qa T.n_bool boot_bool ?_; (case qa => (repeat (first | with_reducible exact In.z | with_reducible apply In.s)))) | ((with_reducible refine chkC "all" ?_); refine xE_blt gn ?qa T.n_all boot_all ?_; (case qa => (repeat (first | with_reducible exact In.z | with_reducible apply In.s)))) | ((with_reducible refine chkB "len" ?_); refine wF_len (by (first | exact .inl rfl | exact .inr (.inl rfl) | exact .inr (.inr (.inl rfl)) | exact .inr (.inr (.inr ⟨_, rfl, by (first | assumption | with_reducible exact at_last | with_reducible exact at_new rfl | with_reducible exact at_left (by assumption) | with_reducible exact List.getElem?_set_self (by assumption) | with_reducible exact at_left (at_left (by assumption)))⟩)))) ?_) | with_reducible refine wF_intB ?_ | with_reducible refine wF_boolB ?_ | with_reducible refine wF_abs ?_ | with_reducible refine wF_max g.toGd ?_ | with_reducible refine wF_min g.toGd ?_ | refine wX_if2I (by (first | exact .inl rfl | exact .inr (.inl rfl) | exact .inr (.inr (.inl rfl)) | exact .inr (.inr (.inr ⟨_, rfl, by (first | assumption | with_reducible exact at_last | with_reducible exact at_new rfl | with_reducible exact at_left (by assumption) | with_reducible exact List.getElem?_set_self (by assumption) | with_reducible exact at_left (at_left (by assumption)))⟩)))) ?_ | refine wX_if2 (by (first | exact .inl rfl | exact .inr (.inl rfl) | exact .inr (.inr (.inl rfl)) | exact .inr (.inr (.inr ⟨_, rfl, by (first | assumption | with_reducible exact at_last | with_reducible exact at_new rfl | with_reducible exact at_left (by assumption) | with_reducible exact List.getElem?_set_self (by assumption) | with_reducible exact at_left (at_left (by assumption)))⟩)))) ?_ | refine wX_at (by (first | exact .inl rfl | exact .inr (.inl rfl) | exact .inr (.inr (.inl rfl)) | exact .inr (.inr (.inr ⟨_, rfl, by (first | assumption | with_reducible exact at_last | with_reducible exact at_new rfl | with_reducible exact at_left (by assumption) | with_reducible exact List.getElem?_set_self (by assumption) | with_reducible exact at_left (at_left (by assumption)))⟩)))) rfl ?_ | (refine wX_ints (by (first | exact .inl rfl | exact .inr (.inl rfl) | exact .inr (.inr (.inl rfl)) | exact .inr (.inr (.inr ⟨_, rfl, by (first | assumption | with_reducible exact at_last | with_reducible exact at_new rfl | with_reducible exact at_left (by assumption) | with_reducible exact List.getElem?_set_self (by assumption) | with_reducible exact at_left (at_left (by assumption)))⟩)))) (by (repeat (first | exact Ints.nil | apply Ints.cons))) (by (first | assumption | omega)) (by (simp only [List.length_cons, List.length_nil]; omega)) ?_; intro v hv; simp only [List.mem_cons, List.not_mem_nil, or_false] at hv) | ((with_reducible refine chkN "int" ?_); refine xE_bty gn ?qa T.n_int boot_int ?_; (case qa => (repeat (first | with_reducible exact In.z | with_reducible apply In.s)))) | ((with_reducible refine chkN "bool" ?_); refine xE_bty gn ?qa T.n_bool boot_bool ?_; (case qa => (repeat (first | with_reducible exact In.z | with_reducible apply In.s)))) | ((with_reducible refine chkN "str" ?_); refine xE_bty gn ?qa T.n_str boot_str ?_; (case qa => (repeat (first | with_reducible exact In.z | with_reducible apply In.s)))) | ((with_reducible refine chkN "PoolError" ?_); refine xE_cls gn ?qa T.g_PoolError ?_; (case qa => (repeat (first | with_reducible exact In.z | with_reducible apply In.s)))) | ((with_reducible refine chkN "InvalidNumber" ?_); refine xE_cls gn ?qa T.g_InvalidNumber ?_; (case qa => (repeat (first | with_reducible exact In.z | with_reducible apply In.s)))) | ((with_reducible refine chkN "Ratio" ?_); refine xE_cls gn ?qa T.g_Ratio ?_; (case qa => (repeat (first | with_reducible exact In.z | with_reducible apply In.s)))))))
local macro_rules | `(tactic| walk_at "e") => `(tactic| repeat (first | (refine wE_name gn ?_; (repeat (first | with_reducible refine wGt_z ?_ | with_reducible refine wGt_c ?_ | with_reducible refine wGt_s ?_ | with_reducible refine wGt_f ?_)); fail_if_success refine wGt_chk ?_) | refine wE_int ?_ | refine wE_bin ?_ | refine wE_sub ?_ | refine wE_cmp ?_ | refine wE_tup ?_ | refine wE_lst ?_ | refine wE_str ?_ | refine wE_bl ?_ | refine wE_non ?_ | refine wE_not ?_ | refine wE_and ?_ | refine wE_or ?_ | refine wE_one ?_ | refine wE_un ?_ | refine wE_if ?_ | with_reducible refine wB_add ?_ | with_reducible refine wB_sub ?_ | ((with_reducible refine wB_mulR ?qc ?_); (case qc => exact ⟨by (first | assumption | omega), by (first | assumption | omega)⟩)) | ((with_reducible refine wB_mulL ?qc ?_); (case qc => exact ⟨by (first | assumption | omega), by (first | assumption | omega)⟩)) | ((with_reducible refine wB_mod ?qc ?_); (case qc => (first | assumption | omega))) | ((with_reducible refine wB_fdivS ?qc ?_); (case qc => exact ⟨by (first | assumption | omega), by (first | assumption | omega)⟩)) | with_reducible refine wB_lt ?_ | with_reducible refine wB_le ?_ | with_reducible refine wB_gt ?_ | with_reducible refine wB_ge ?_ | with_reducible refine wB_eq ?_ | with_reducible refine wB_ne ?_ | with_reducible refine wB_eqT ?_ | with_reducible refine wB_neT ?_ | with_reducible refine wB_eqB ?_ | with_reducible refine wB_neB ?_ | with_reducible refine wB_is ?_ | with_reducible refine wB_isNot ?_ | with_reducible refine wU_neg ?_ | with_reducible refine wB_pow5 ?_ | with_reducible refine wB_pow6 ?_ | with_reducible refine wB_pow7 ?_ | with_reducible refine wB_pow8 ?_ | with_reducible refine wB_pow9 ?_ | with_reducible refine wB_pow18 ?_ | refine wA_cons ?_ | refine wA_nil ?_ | refine wG_tup g.calm ?_ | refine wGs_cons ?_ | refine wGs_nil ?_ | refine wG_name gn ?_ | with_reducible refine wPt_z ?_ | with_reducible refine wPt_c ?_ | with_reducible refine wPt_s ?_ | refine Exists.intro _ (And.intro rfl ?_) | refine And.intro (by (simp only [List.length_cons, List.length_nil]; decide)) ?_ | refine Exists.intro _ (Exists.intro _ (And.intro rfl ?_)) | refine Exists.intro _ (Exists.intro _ (Exists.intro _ (And.intro rfl ?_))) | refine Exists.intro _ (Exists.intro _ (Exists.intro _ (Exists.intro _ (And.intro rfl (And.intro rfl (And.intro (by (first | assumption | with_reducible exact at_last | with_reducible exact at_new rfl | with_reducible exact at_left (by assumption) | with_reducible exact List.getElem?_set_self (by assumption) | with_reducible exact at_left (at_left (by assumption)))) (And.intro rfl ?_))))))) | refine wC_cmp ?_ | refine wC_not ?_ | refine wC_bool ?_ | refine wCw_and ?_ | refine wCw_or ?_ | refine wCw_and1 ?_ | refine wCw_or1 ?_ | refine wC_val ?_ | ((with_reducible refine chkC "len" ?_); refine xE_blt gn ?qa T.n_len boot_len ?_; (case qa => (repeat (first | with_reducible exact In.z | with_reducible apply In.s)))) | ((with_reducible refine chkC "int" ?_); refine xE_bcl gn ?qa T.n_int boot_int ?_; (case qa => (repeat (first | with_reducible exact In.z | with_reducible apply In.s)))) | ((with_reducible refine chkC "abs" ?_); refine xE_blt gn ?qa T.n_abs boot_abs ?_; (case qa => (repeat (first | with_reducible exact In.z | with_reducible apply In.s)))) | ((with_reducible refine chkC "max" ?_); refine xE_blt gn ?qa T.n_max boot_max ?_; (case qa => (repeat (first | with_reducible exact In.z | with_reducible apply In.s)))) | ((with_reducible refine chkC "min" ?_); refine xE_blt gn ?qa T.n_min boot_min ?_; (case qa => (repeat (first | with_reducible exact In.z | with_reducible apply In.s)))) | ((with_reducible refine chkC "str" ?_); refine xE_bcl gn ?qa T.n_str boot_str ?_; (case qa => (repeat (first | with_reducible exact In.z | with_reducible apply In.s)))) | ((with_reducible refine chkC "repr" ?_); refine xE_blt gn ?qa T.n_repr boot_repr ?_; (case qa => (repeat (first | with_reducible exact In.z | with_reducible apply In.s)))) | ((with_reducible refine chkC "isinstance" ?_); refine xE_blt gn ?qa T.n_isinstance boot_isinstance ?_; (case qa => (repeat (first | with_reducible exact In.z | with_reducible apply In.s)))) | ((with_reducible refine chkC "bool" ?_); refine xE_bcl gn ?qa T.n_bool boot_bool ?_; (case qa => (repeat (first | with_reducible exact In.z | with_reducible apply In.s)))) | ((with_reducible refine chkC "all" ?_); refine xE_blt gn ?qa T.n_all boot_all ?_; (case qa => (repeat (first | with_reducible exact In.z | with_reducible apply In.s)))) | ((with_reducible refine chkB "len" ?_); refine wF_len (by (first | exact .inl rfl | exact .inr (.inl rfl) | exact .inr (.inr (.inl rfl)) | exact .inr (.inr (.inr ⟨_, rfl, by (first | assumption | with_reducible exact at_last | with_reducible exact at_new rfl | with_reducible exact at_left (by assumption) | with_reducible exact List.getElem?_set_self (by assumption) | with_reducible exact at_left (at_left (by assumption)))⟩)))) ?_) | with_reducible refine wF_intB ?_ | with_reducible refine wF_boolB ?_ | with_reducible refine wF_abs ?_ | with_reducible refine wF_max g.toGd ?_ | with_reducible refine wF_min g.toGd ?_ | refine wX_if2I (by (first | exact .inl rfl | exact .inr (.inl rfl) | exact .inr (.inr (.inl rfl)) | exact .inr (.inr (.inr ⟨_, rfl, by (first | assumption | with_reducible exact at_last | with_reducible exact at_new rfl | with_reducible exact at_left (by assumption) | with_reducible exact List.getElem?_set_self (by assumption) | with_reducible exact at_left (at_left (by assumption)))⟩)))) ?_ | refine wX_if2 (by (first | exact .inl rfl | exact .inr (.inl rfl) | exact .inr (.inr (.inl rfl)) | exact .inr (.inr (.inr ⟨_, rfl, by (first | assumption | with_reducible exact at_last | with_reducible exact at_new rfl | with_reducible exact at_left (by assumption) | with_reducible exact List.getElem?_set_self (by assumption) | with_reducible exact at_left (at_left (by assumption)))⟩)))) ?_ | refine wX_at (by (first | exact .inl rfl | exact .inr (.inl rfl) | exact .inr (.inr (.inl rfl)) | exact .inr (.inr (.inr ⟨_, rfl, by (first | assumption | with_reducible exact at_last | with_reducible exact at_new rfl | with_reducible exact at_left (by assumption) | with_reducible exact List.getElem?_set_self (by assumption) | with_reducible exact at_left (at_left (by assumption)))⟩)))) rfl ?_ | (refine wX_ints (by (first | exact .inl rfl | exact .inr (.inl rfl) | exact .inr (.inr (.inl rfl)) | exact .inr (.inr (.inr ⟨_, rfl, by (first | assumption | with_reducible exact at_last | with_reducible exact at_new rfl | with_reducible exact at_left (by assumption) | with_reducible exact List.getElem?_set_self (by assumption) | with_reducible exact at_left (at_left (by assumption)))⟩)))) (by (repeat (first | exact Ints.nil | apply Ints.cons))) (by (first | assumption | omega)) (by (simp only [List.length_cons, List.length_nil]; omega)) ?_; intro v hv; simp only [List.mem_cons, List.not_mem_nil, or_false] at hv) | ((with_reducible refine chkN "int" ?_); refine xE_bty gn ?qa T.n_int boot_int ?_; (case qa => (repeat (first | with_reducible exact In.z | with_reducible apply In.s)))) | ((with_reducible refine chkN "bool" ?_); refine xE_bty gn ?qa T.n_bool boot_bool ?_; (case qa => (repeat (first | with_reducible exact In.z | with_reducible apply In.s)))) | ((with_reducible refine chkN "str" ?_); refine xE_bty gn ?qa T.n_str boot_str ?_; (case qa => (repeat (first | with_reducible exact In.z | with_reducible apply In.s)))) | ((with_reducible refine chkN "PoolError" ?_); refine xE_cls gn ?qa T.g_PoolError ?_; (case qa => (repeat (first | with_reducible exact In.z | with_reducible apply In.s)))) | ((with_reducible refine chkN "InvalidNumber" ?_); refine xE_cls gn ?qa T.g_InvalidNumber ?_; (case qa => (repeat (first | with_reducible exact In.z | with_reducible apply In.s)))) | ((with_reducible refine chkN "Ratio" ?_); refine xE_cls gn ?qa T.g_Ratio ?_; (case qa => (repeat (first | with_reducible exact In.z | with_reducible apply In.s))))))
local macro_rules | `(tactic| walk_at "start") => `(tactic| (intro ρ hρ cdv A outer s H E g; simp only [startD, List.map_cons, List.map_nil, List.length_cons, List.length_nil, List.replicate_succ, List.replicate_zero, List.cons_append, List.nil_append, Nat.reduceAdd, Nat.reduceSub] at hρ; subst hρ; have gn := g.toNx'))
local macro_rules | `(tactic| walk_at "suite") => `(tactic| (intro a dd oe pn hz hv gn ρs hρ; simp only [List.set_cons_succ, List.set_cons_zero] at hρ; subst hρ))
local macro_rules | `(tactic| walk_at "after") => `(tactic| (intro ρs hρ; simp only [List.set_cons_succ, List.set_cons_zero] at hρ; subst hρ))
local macro_rules | `(tactic| walk_at "blk") => `(tactic| (intro s H C cl fp g; have gn := g.toNx'))
def tx (i : Int) : Str := toString i
/-- the text of a ratio -/
def txR (q : Rat) : Str := if q.den = 1 then tx q.num else tx q.num ++ Str.ofString "/" ++ tx q.den
def txP (q : Rat) : Str := Str.ofString "Ratio(" ++ tx q.num ++ Str.ofString ", " ++ tx q.den ++ Str.ofString ")"
theorem log_fit {i : Int} (h : i.natAbs < 2 ^ 1000) : i.natAbs.log2 < 1920 := Nat.lt_trans (log2_lt h (by decide)) (by decide)
theorem int_len {i : Int} (h : i.natAbs < 2 ^ 1000) : (tx i).length ≤ 2000 := by
  have := int_text_length_le (a := i) (k := 1920) (by decide) (log_fit h)
  clear h
  unfold tx
  rw [PySem.ofString_length]
  omega
theorem sl_big : 1000000 ≤ sizeLine := by rw [sizeLine_eq]; decide
theorem txR_len {q : Rat} (h : Fit 1000 q) : (txR q).length ≤ 4001 := by
  have e1 := int_len h.n
  have e2 := int_len h.d
  have c1 : (Str.ofString "/").length = 1 := rfl
  unfold txR
  split
  · omega
  · rw [Str.length_append, Str.length_append, c1]
    omega
section
variable {P : Program} {w : World} {K : PySem.W.Frag} {mg : Str → Option Value} {base : Heap} (T : Tx K mg)
def R1s (T : Tx K mg) (f : Rat → D) : Rl := fun ds μ o => ∃ q, ds = [rt T.C_Ratio q] ∧ Fit 1000 q ∧ o = .ret (f q) μ
theorem ok_str : FnG P w K mg base 1 T.a_Ratio_str T.fd_Ratio_str ["self"] (spR K (R1s T fun q => .str (txR q))) := by
  refine SpF.rel (f := T.f_Ratio_str) ?_
  rintro ds μ o ⟨q, rfl, hq, rfl⟩
  refine spX_of T.F_Ratio_str sc_Ratio_str ck_Ratio_str rfl ?_
  walk_at "start"
  have sl := sl_big
  have l1 := int_len hq.n
  have l2 := int_len hq.d
  walk_at "s1"
  refine wE_bot (T := T) ?_
  walk_at "e"
  have fin : ∀ x, x = txR q → RetOk μ (fun d μ' => FO.ret (.str (txR q)) μ = .ret d μ') (.str x) (μ ++ []) := fun x e => by rw [List.append_nil, e]; exact .same rfl
  refine br_dec (fun h1 => ?_) (fun h1 => ?_)
  · walk_at "s1"
    refine wE_top (T := T) ?_
    walk_at "e"
    refine wF_strI (log_fit hq.n) ?_
    exact fin _ (by unfold txR; rw [if_pos (by omega)]; rfl)
  · refine wSs_nil ?_
    refine wSs_cons (wS_ret (.ofV (ev_joined (.cons (ev_fmtI (ev_top (T := T) (q := q) (ev_var 0 rfl)) (log_fit hq.n)) ?_ (.cons ev_str ?_ (.cons (ev_fmtI (ev_bot (T := T) (q := q) (ev_var 0 rfl)) (log_fit hq.d)) ?_ .nil)))) ?_))
    · show (Str.empty ++ tx q.num).length ≤ _
      rw [Str.length_append]
      show 0 + _ ≤ _
      omega
    · show (Str.empty ++ tx q.num ++ Str.ofString "/").length ≤ _
      rw [Str.length_append, Str.length_append]
      show 0 + _ + 1 ≤ _
      omega
    · show (Str.empty ++ tx q.num ++ Str.ofString "/" ++ tx q.den).length ≤ _
      rw [Str.length_append, Str.length_append, Str.length_append]
      show 0 + _ + 1 + _ ≤ _
      omega
    · refine fin _ ?_
      unfold txR
      rw [if_neg (by omega)]
      rw [Str.empty_append]
      rfl
theorem ok_repr : FnG P w K mg base 1 T.a_Ratio_repr T.fd_Ratio_repr ["self"] (spR K (R1s T fun q => .str (txP q))) := by
  refine SpF.rel (f := T.f_Ratio_repr) ?_
  rintro ds μ o ⟨q, rfl, hq, rfl⟩
  refine spX_of T.F_Ratio_repr sc_Ratio_repr ck_Ratio_repr rfl ?_
  walk_at "start"
  have sl := sl_big
  have l1 := int_len hq.n
  have l2 := int_len hq.d
  have fin : ∀ x, x = txP q → RetOk μ (fun d μ' => FO.ret (.str (txP q)) μ = .ret d μ') (.str x) (μ ++ []) := fun x e => by rw [List.append_nil, e]; exact .same rfl
  refine wSs_cons (wS_ret (.ofV (ev_joined (.cons ev_str ?_ (.cons (ev_fmtI (ev_top (T := T) (q := q) (ev_var 0 rfl)) (log_fit hq.n)) ?_ (.cons ev_str ?_ (.cons (ev_fmtI (ev_bot (T := T) (q := q) (ev_var 0 rfl)) (log_fit hq.d)) ?_ (.cons ev_str ?_ .nil)))))) ?_))
  · show (Str.empty ++ Str.ofString "Ratio(").length ≤ _
    rw [Str.length_append]
    show 0 + 6 ≤ _
    omega
  · show (Str.empty ++ Str.ofString "Ratio(" ++ tx q.num).length ≤ _
    rw [Str.length_append, Str.length_append]
    show 0 + 6 + _ ≤ _
    omega
  · show (Str.empty ++ Str.ofString "Ratio(" ++ tx q.num ++ Str.ofString ", ").length ≤ _
    rw [Str.length_append, Str.length_append, Str.length_append]
    show 0 + 6 + _ + 2 ≤ _
    omega
  · show (Str.empty ++ Str.ofString "Ratio(" ++ tx q.num ++ Str.ofString ", " ++ tx q.den).length ≤ _
    rw [Str.length_append, Str.length_append, Str.length_append, Str.length_append]
    show 0 + 6 + _ + 2 + _ ≤ _
    omega
  · show (Str.empty ++ Str.ofString "Ratio(" ++ tx q.num ++ Str.ofString ", " ++ tx q.den ++ Str.ofString ")").length ≤ _
    rw [Str.length_append, Str.length_append, Str.length_append, Str.length_append, Str.length_append]
    show 0 + 6 + _ + 2 + _ + 1 ≤ _
    omega
  · refine fin _ ?_
    unfold txP
    rw [Str.empty_append]
    rfl
theorem ok_bool : FnG P w K mg base 1 T.a_Ratio_bool T.fd_Ratio_bool ["self"] (spR K (R1s T fun q => .bl (!decide (q.num = 0)))) := by
  refine SpF.rel (f := T.f_Ratio_bool) ?_
  rintro ds μ o ⟨q, rfl, hq, rfl⟩
  refine spX_of T.F_Ratio_bool sc_Ratio_bool ck_Ratio_bool rfl ?_
  walk_at "start"
  walk_at "s1"
  refine wE_top (T := T) ?_
  walk_at "e"
  rw [List.append_nil]
  exact .same rfl
end
end PM
set_option Elab.async false
set_option linter.all false
set_option maxRecDepth 100000
set_option maxHeartbeats 4000000
set_option exponentiation.threshold 20000
namespace PM
open PySem L2 PyProof.Rows
set_option hygiene false
local macro_rules | `(tactic| walk_at "in") => `(tactic| (repeat (first | with_reducible exact In.z | with_reducible apply In.s)))
local macro_rules | `(tactic| walk_at "at") => `(tactic| (first | assumption | with_reducible exact at_last | with_reducible exact at_new rfl | with_reducible exact at_left (by assumption) | with_reducible exact List.getElem?_set_self (by assumption) | with_reducible exact at_left (at_left (by assumption))))
local macro_rules | `(tactic| walk_at "ixd") => `(tactic| (first | exact .inl rfl | exact .inr (.inl rfl) | exact .inr (.inr (.inl rfl)) | exact .inr (.inr (.inr ⟨_, rfl, by (first | assumption | with_reducible exact at_last | with_reducible exact at_new rfl | with_reducible exact at_left (by assumption) | with_reducible exact List.getElem?_set_self (by assumption) | with_reducible exact at_left (at_left (by assumption)))⟩))))
local macro_rules | `(tactic| walk_at "ints") => `(tactic| (repeat (first | exact Ints.nil | apply Ints.cons)))
local macro_rules | `(tactic| walk_at "num") => `(tactic| (first | assumption | omega))
local macro_rules | `(tactic| walk_at "ix") => `(tactic| (repeat (first | with_reducible exact Ix.z | with_reducible exact Ix.c | with_reducible apply Ix.s)))
local macro_rules | `(tactic| walk_at "il") => `(tactic| (repeat (first | with_reducible exact Il.z | with_reducible apply Il.s)))
local macro_rules | `(tactic| walk_at "one") => `(tactic| first | (refine wE_name gn ?_; (repeat (first | with_reducible refine wGt_z ?_ | with_reducible refine wGt_c ?_ | with_reducible refine wGt_s ?_ | with_reducible refine wGt_f ?_)); fail_if_success refine wGt_chk ?_) | refine wE_int ?_ | refine wE_bin ?_ | refine wE_sub ?_ | refine wE_cmp ?_ | refine wE_tup ?_ | refine wE_lst ?_ | refine wE_str ?_ | refine wE_bl ?_ | refine wE_non ?_ | refine wE_not ?_ | refine wE_and ?_ | refine wE_or ?_ | refine wE_one ?_ | refine wE_un ?_ | refine wE_if ?_ | with_reducible refine wB_add ?_ | with_reducible refine wB_sub ?_ | ((with_reducible refine wB_mulR ?qc ?_); (case qc => exact ⟨by (first | assumption | omega), by (first | assumption | omega)⟩)) | ((with_reducible refine wB_mulL ?qc ?_); (case qc => exact ⟨by (first | assumption | omega), by (first | assumption | omega)⟩)) | ((with_reducible refine wB_mod ?qc ?_); (case qc => (first | assumption | omega))) | ((with_reducible refine wB_fdivS ?qc ?_); (case qc => exact ⟨by (first | assumption | omega), by (first | assumption | omega)⟩)) | with_reducible refine wB_lt ?_ | with_reducible refine wB_le ?_ | with_reducible refine wB_gt ?_ | with_reducible refine wB_ge ?_ | with_reducible refine wB_eq ?_ | with_reducible refine wB_ne ?_ | with_reducible refine wB_eqT ?_ | with_reducible refine wB_neT ?_ | with_reducible refine wB_eqB ?_ | with_reducible refine wB_neB ?_ | with_reducible refine wB_is ?_ | with_reducible refine wB_isNot ?_ | with_reducible refine wU_neg ?_ | with_reducible refine wB_pow5 ?_ | with_reducible refine wB_pow6 ?_ | with_reducible refine wB_pow7 ?_ | with_reducible refine wB_pow8 ?_ | with_reducible refine wB_pow9 ?_ | with_reducible refine wB_pow18 ?_ | refine wA_cons ?_ | refine wA_nil ?_ | refine wG_tup g.calm ?_ | refine wGs_cons ?_ | refine wGs_nil ?_ | refine wG_name gn ?_ | with_reducible refine wPt_z ?_ | with_reducible refine wPt_c ?_ | with_reducible refine wPt_s ?_ | refine Exists.intro _ (And.intro rfl ?_) | refine And.intro (by (simp only [List.length_cons, List.length_nil]; decide)) ?_ | refine Exists.intro _ (Exists.intro _ (And.intro rfl ?_)) | refine Exists.intro _ (Exists.intro _ (Exists.intro _ (And.intro rfl ?_))) | refine Exists.intro _ (Exists.intro _ (Exists.intro _ (Exists.intro _ (And.intro rfl (And.intro rfl (And.intro (by (first | assumption | with_reducible exact at_last | with_reducible exact at_new rfl | with_reducible exact at_left (by assumption) | with_reducible exact List.getElem?_set_self (by assumption) | with_reducible exact at_left (at_left (by assumption)))) (And.intro rfl ?_))))))) | refine wC_cmp ?_ | refine wC_not ?_ | refine wC_bool ?_ | refine wCw_and ?_ | refine wCw_or ?_ | refine wCw_and1 ?_ | refine wCw_or1 ?_ | refine wC_val ?_ | refine wSs_cons ?_ | refine wSs_nil ?_ | (refine wS_set gn ?qa ?_; (case qa => exact ⟨_, by (repeat (first | with_reducible exact Ix.z | with_reducible exact Ix.c | with_reducible apply Ix.s))⟩)) | (refine wS_par g ?qa ?_; (case qa => exact ⟨_, _, by (repeat (first | with_reducible exact Il.z | with_reducible apply Il.s)), by (repeat (first | with_reducible exact Il.z | with_reducible apply Il.s)), by decide⟩)) | (refine wS_par3 g ?qa ?_; (case qa => exact ⟨_, _, _, by (repeat (first | with_reducible exact Il.z | with_reducible apply Il.s)), by (repeat (first | with_reducible exact Il.z | with_reducible apply Il.s)), by (repeat (first | with_reducible exact Il.z | with_reducible apply Il.s)), by decide, by decide, by decide⟩)) | refine wS_ret ?_ | refine wS_if ?_ | refine wS_expr ?_ | refine wS_ix ?_ | refine wS_asg ?_ | refine wS_pass ?_ | ((with_reducible refine chkC "len" ?_); refine xE_blt gn ?qa T.n_len boot_len ?_; (case qa => (repeat (first | with_reducible exact In.z | with_reducible apply In.s)))) | ((with_reducible refine chkC "int" ?_); refine xE_bcl gn ?qa T.n_int boot_int ?_; (case qa => (repeat (first | with_reducible exact In.z | with_reducible apply In.s)))) | ((with_reducible refine chkC "abs" ?_); refine xE_blt gn ?qa T.n_abs boot_abs ?_; (case qa => (repeat (first | with_reducible exact In.z | with_reducible apply In.s)))) | ((with_reducible refine chkC "max" ?_); refine xE_blt gn ?qa T.n_max boot_max ?_; (case qa => (repeat (first | with_reducible exact In.z | with_reducible apply In.s)))) | ((with_reducible refine chkC "min" ?_); refine xE_blt gn ?qa T.n_min boot_min ?_; (case qa => (repeat (first | with_reducible exact In.z | with_reducible apply In.s)))) | ((with_reducible refine chkC "str" ?_); refine xE_bcl gn ?qa T.n_str boot_str ?_; (case qa => (repeat (first | with_reducible exact In.z | with_reducible apply In.s)))) | ((with_reducible refine chkC "repr" ?_); refine xE_blt gn ?qa T.n_repr boot_repr ?_; (case qa => (repeat (first | with_reducible exact In.z | with_reducible apply In.s)))) | ((with_reducible refine chkC "isinstance" ?_); refine xE_blt gn ?qa T.n_isinstance boot_isinstance ?_; (case qa => (repeat (first | with_reducible exact In.z | with_reducible apply In.s)))) | ((with_reducible refine chkC "bool" ?_); refine xE_bcl gn ?qa T.n_bool boot_bool ?_; (case qa => (repeat (first | with_reducible exact In.z | with_reducible apply In.s)))) | ((with_reducible refine chkC "all" ?_); refine xE_blt gn ?qa T.n_all boot_all ?_; (case qa => (repeat (first | with_reducible exact In.z | with_reducible apply In.s)))) | ((with_reducible refine chkC "_law_box" ?_); refine xE_call T.f_w_box g ?qa T.g_w_box T.F_w_box.kp T.b_w_box ?_; (case qa => (repeat (first | with_reducible exact In.z | with_reducible apply In.s)))) | ((with_reducible refine chkC "_law_take" ?_); refine xE_call T.f_w_take g ?qa T.g_w_take T.F_w_take.kp T.b_w_take ?_; (case qa => (repeat (first | with_reducible exact In.z | with_reducible apply In.s)))) | ((with_reducible refine chkC "_law_lowest" ?_); refine xE_call T.f_w_lowest g ?qa T.g_w_lowest T.F_w_lowest.kp T.b_w_lowest ?_; (case qa => (repeat (first | with_reducible exact In.z | with_reducible apply In.s)))) | ((with_reducible refine chkC "_law_integer" ?_); refine xE_call T.f_w_integer g ?qa T.g_w_integer T.F_w_integer.kp T.b_w_integer ?_; (case qa => (repeat (first | with_reducible exact In.z | with_reducible apply In.s)))) | ((with_reducible refine chkC "_law_is" ?_); refine xE_call T.f_w_is g ?qa T.g_w_is T.F_w_is.kp T.b_w_is ?_; (case qa => (repeat (first | with_reducible exact In.z | with_reducible apply In.s)))) | ((with_reducible refine chkC "_law_text" ?_); refine xE_call T.f_w_text g ?qa T.g_w_text T.F_w_text.kp T.b_w_text ?_; (case qa => (repeat (first | with_reducible exact In.z | with_reducible apply In.s)))) | ((with_reducible refine chkC "_law_told_right" ?_); refine xE_call T.f_w_told_right g ?qa T.g_w_told_right T.F_w_told_right.kp T.b_w_told_right ?_; (case qa => (repeat (first | with_reducible exact In.z | with_reducible apply In.s)))) | ((with_reducible refine chkC "_law_refused" ?_); refine xE_call T.f_w_refused g ?qa T.g_w_refused T.F_w_refused.kp T.b_w_refused ?_; (case qa => (repeat (first | with_reducible exact In.z | with_reducible apply In.s)))) | (refine sp_take T (by (first | assumption | with_reducible exact at_last | with_reducible exact at_new rfl | with_reducible exact at_left (by assumption) | with_reducible exact List.getElem?_set_self (by assumption) | with_reducible exact at_left (at_left (by assumption)))) (by (first | assumption | omega)) (by (first | assumption | omega)) ?_; intro d h0 h1) | ((with_reducible refine chkB "len" ?_); refine wF_len (by (first | exact .inl rfl | exact .inr (.inl rfl) | exact .inr (.inr (.inl rfl)) | exact .inr (.inr (.inr ⟨_, rfl, by (first | assumption | with_reducible exact at_last | with_reducible exact at_new rfl | with_reducible exact at_left (by assumption) | with_reducible exact List.getElem?_set_self (by assumption) | with_reducible exact at_left (at_left (by assumption)))⟩)))) ?_) | with_reducible refine wF_intB ?_ | with_reducible refine wF_boolB ?_ | with_reducible refine wF_abs ?_ | with_reducible refine wF_max g.toGd ?_ | with_reducible refine wF_min g.toGd ?_ | refine wX_if2I (by (first | exact .inl rfl | exact .inr (.inl rfl) | exact .inr (.inr (.inl rfl)) | exact .inr (.inr (.inr ⟨_, rfl, by (first | assumption | with_reducible exact at_last | with_reducible exact at_new rfl | with_reducible exact at_left (by assumption) | with_reducible exact List.getElem?_set_self (by assumption) | with_reducible exact at_left (at_left (by assumption)))⟩)))) ?_ | refine wX_if2 (by (first | exact .inl rfl | exact .inr (.inl rfl) | exact .inr (.inr (.inl rfl)) | exact .inr (.inr (.inr ⟨_, rfl, by (first | assumption | with_reducible exact at_last | with_reducible exact at_new rfl | with_reducible exact at_left (by assumption) | with_reducible exact List.getElem?_set_self (by assumption) | with_reducible exact at_left (at_left (by assumption)))⟩)))) ?_ | refine wX_at (by (first | exact .inl rfl | exact .inr (.inl rfl) | exact .inr (.inr (.inl rfl)) | exact .inr (.inr (.inr ⟨_, rfl, by (first | assumption | with_reducible exact at_last | with_reducible exact at_new rfl | with_reducible exact at_left (by assumption) | with_reducible exact List.getElem?_set_self (by assumption) | with_reducible exact at_left (at_left (by assumption)))⟩)))) rfl ?_ | (refine wX_ints (by (first | exact .inl rfl | exact .inr (.inl rfl) | exact .inr (.inr (.inl rfl)) | exact .inr (.inr (.inr ⟨_, rfl, by (first | assumption | with_reducible exact at_last | with_reducible exact at_new rfl | with_reducible exact at_left (by assumption) | with_reducible exact List.getElem?_set_self (by assumption) | with_reducible exact at_left (at_left (by assumption)))⟩)))) (by (repeat (first | exact Ints.nil | apply Ints.cons))) (by (first | assumption | omega)) (by (simp only [List.length_cons, List.length_nil]; omega)) ?_; intro v hv; simp only [List.mem_cons, List.not_mem_nil, or_false] at hv) | ((with_reducible refine chkN "int" ?_); refine xE_bty gn ?qa T.n_int boot_int ?_; (case qa => (repeat (first | with_reducible exact In.z | with_reducible apply In.s)))) | ((with_reducible refine chkN "bool" ?_); refine xE_bty gn ?qa T.n_bool boot_bool ?_; (case qa => (repeat (first | with_reducible exact In.z | with_reducible apply In.s)))) | ((with_reducible refine chkN "str" ?_); refine xE_bty gn ?qa T.n_str boot_str ?_; (case qa => (repeat (first | with_reducible exact In.z | with_reducible apply In.s)))) | ((with_reducible refine chkN "PoolError" ?_); refine xE_cls gn ?qa T.g_PoolError ?_; (case qa => (repeat (first | with_reducible exact In.z | with_reducible apply In.s)))) | ((with_reducible refine chkN "InvalidNumber" ?_); refine xE_cls gn ?qa T.g_InvalidNumber ?_; (case qa => (repeat (first | with_reducible exact In.z | with_reducible apply In.s)))) | ((with_reducible refine chkN "Ratio" ?_); refine xE_cls gn ?qa T.g_Ratio ?_; (case qa => (repeat (first | with_reducible exact In.z | with_reducible apply In.s)))) | ((with_reducible refine chkC "Ratio" ?_); refine xE_make gn ?qa T.g_Ratio T.mk_Ratio.kp ?_; (case qa => (repeat (first | with_reducible exact In.z | with_reducible apply In.s)))) | ((with_reducible refine chkA "top" ?_); refine wE_top T ?_) | ((with_reducible refine chkA "bottom" ?_); refine wE_bot T ?_) | ((with_reducible refine wF_isRt ?qc ?_); (case qc => exact T.own_Ratio)) | with_reducible refine wF_isII ?_ | with_reducible refine wF_isIB ?_ | with_reducible refine wF_isBB ?_ | ((with_reducible refine wF_R2 T g.toGd ?qc1 ?qc2 ?_); (case qc1 => (first | assumption | omega)); (case qc2 => exact lt_pow_mono (n := 64) (by (first | assumption | omega)) (by decide))) | with_reducible refine wF_R1 T g.toGd ?_)
local macro_rules | `(tactic| walk_at "wp") => `(tactic| repeat (first | (refine wE_name gn ?_; (repeat (first | with_reducible refine wGt_z ?_ | with_reducible refine wGt_c ?_ | with_reducible refine wGt_s ?_ | with_reducible refine wGt_f ?_)); fail_if_success refine wGt_chk ?_) | refine wE_int ?_ | refine wE_bin ?_ | refine wE_sub ?_ | refine wE_cmp ?_ | refine wE_tup ?_ | refine wE_lst ?_ | refine wE_str ?_ | refine wE_bl ?_ | refine wE_non ?_ | refine wE_not ?_ | refine wE_and ?_ | refine wE_or ?_ | refine wE_one ?_ | refine wE_un ?_ | refine wE_if ?_ | with_reducible refine wB_add ?_ | with_reducible refine wB_sub ?_ | ((with_reducible refine wB_mulR ?qc ?_); (case qc => exact ⟨by (first | assumption | omega), by (first | assumption | omega)⟩)) | ((with_reducible refine wB_mulL ?qc ?_); (case qc => exact ⟨by (first | assumption | omega), by (first | assumption | omega)⟩)) | ((with_reducible refine wB_mod ?qc ?_); (case qc => (first | assumption | omega))) | ((with_reducible refine wB_fdivS ?qc ?_); (case qc => exact ⟨by (first | assumption | omega), by (first | assumption | omega)⟩)) | with_reducible refine wB_lt ?_ | with_reducible refine wB_le ?_ | with_reducible refine wB_gt ?_ | with_reducible refine wB_ge ?_ | with_reducible refine wB_eq ?_ | with_reducible refine wB_ne ?_ | with_reducible refine wB_eqT ?_ | with_reducible refine wB_neT ?_ | with_reducible refine wB_eqB ?_ | with_reducible refine wB_neB ?_ | with_reducible refine wB_is ?_ | with_reducible refine wB_isNot ?_ | with_reducible refine wU_neg ?_ | with_reducible refine wB_pow5 ?_ | with_reducible refine wB_pow6 ?_ | with_reducible refine wB_pow7 ?_ | with_reducible refine wB_pow8 ?_ | with_reducible refine wB_pow9 ?_ | with_reducible refine wB_pow18 ?_ | refine wA_cons ?_ | refine wA_nil ?_ | refine wG_tup g.calm ?_ | refine wGs_cons ?_ | refine wGs_nil ?_ | refine wG_name gn ?_ | with_reducible refine wPt_z ?_ | with_reducible refine wPt_c ?_ | with_reducible refine wPt_s ?_ | refine Exists.intro _ (And.intro rfl ?_) | refine And.intro (by (simp only [List.length_cons, List.length_nil]; decide)) ?_ | refine Exists.intro _ (Exists.intro _ (And.intro rfl ?_)) | refine Exists.intro _ (Exists.intro _ (Exists.intro _ (And.intro rfl ?_))) | refine Exists.intro _ (Exists.intro _ (Exists.intro _ (Exists.intro _ (And.intro rfl (And.intro rfl (And.intro (by (first | assumption | with_reducible exact at_last | with_reducible exact at_new rfl | with_reducible exact at_left (by assumption) | with_reducible exact List.getElem?_set_self (by assumption) | with_reducible exact at_left (at_left (by assumption)))) (And.intro rfl ?_))))))) | refine wC_cmp ?_ | refine wC_not ?_ | refine wC_bool ?_ | refine wCw_and ?_ | refine wCw_or ?_ | refine wCw_and1 ?_ | refine wCw_or1 ?_ | refine wC_val ?_ | refine wSs_cons ?_ | refine wSs_nil ?_ | (refine wS_set gn ?qa ?_; (case qa => exact ⟨_, by (repeat (first | with_reducible exact Ix.z | with_reducible exact Ix.c | with_reducible apply Ix.s))⟩)) | (refine wS_par g ?qa ?_; (case qa => exact ⟨_, _, by (repeat (first | with_reducible exact Il.z | with_reducible apply Il.s)), by (repeat (first | with_reducible exact Il.z | with_reducible apply Il.s)), by decide⟩)) | (refine wS_par3 g ?qa ?_; (case qa => exact ⟨_, _, _, by (repeat (first | with_reducible exact Il.z | with_reducible apply Il.s)), by (repeat (first | with_reducible exact Il.z | with_reducible apply Il.s)), by (repeat (first | with_reducible exact Il.z | with_reducible apply Il.s)), by decide, by decide, by decide⟩)) | refine wS_ret ?_ | refine wS_if ?_ | refine wS_expr ?_ | refine wS_ix ?_ | refine wS_asg ?_ | refine wS_pass ?_ | ((with_reducible refine chkC "len" ?_); refine xE_blt gn ?qa T.n_len boot_len ?_; (case qa => (repeat (first | with_reducible exact In.z | with_reducible apply In.s)))) | ((with_reducible refine chkC "int" ?_); refine xE_bcl gn ?qa T.n_int boot_int ?_; (case qa => (repeat (first | with_reducible exact In.z | with_reducible apply In.s)))) | ((with_reducible refine chkC "abs" ?_); refine xE_blt gn ?qa T.n_abs boot_abs ?_; (case qa => (repeat (first | with_reducible exact In.z | with_reducible apply In.s)))) | ((with_reducible refine chkC "max" ?_); refine xE_blt gn ?qa T.n_max boot_max ?_; (case qa => (repeat (first | with_reducible exact In.z | with_reducible apply In.s)))) | ((with_reducible refine chkC "min" ?_); refine xE_blt gn ?qa T.n_min boot_min ?_; (case qa => (repeat (first | with_reducible exact In.z | with_reducible apply In.s)))) | ((with_reducible refine chkC "str" ?_); refine xE_bcl gn ?qa T.n_str boot_str ?_; (case qa => (repeat (first | with_reducible exact In.z | with_reducible apply In.s)))) | ((with_reducible refine chkC "repr" ?_); refine xE_blt gn ?qa T.n_repr boot_repr ?_; (case qa => (repeat (first | with_reducible exact In.z | with_reducible apply In.s)))) | ((with_reducible refine chkC "isinstance" ?_); refine xE_blt gn ?qa T.n_isinstance boot_isinstance ?_; (case qa => (repeat (first | with_reducible exact In.z | with_reducible apply In.s)))) | ((with_reducible refine chkC "bool" ?_); refine xE_bcl gn ?qa T.n_bool boot_bool ?_; (case qa => (repeat (first | with_reducible exact In.z | with_reducible apply In.s)))) | ((with_reducible refine chkC "all" ?_); refine xE_blt gn ?qa T.n_all boot_all ?_; (case qa => (repeat (first | with_reducible exact In.z | with_reducible apply In.s)))) | ((with_reducible refine chkC "_law_box" ?_); refine xE_call T.f_w_box g ?qa T.g_w_box T.F_w_box.kp T.b_w_box ?_; (case qa => (repeat (first | with_reducible exact In.z | with_reducible apply In.s)))) | ((with_reducible refine chkC "_law_take" ?_); refine xE_call T.f_w_take g ?qa T.g_w_take T.F_w_take.kp T.b_w_take ?_; (case qa => (repeat (first | with_reducible exact In.z | with_reducible apply In.s)))) | ((with_reducible refine chkC "_law_lowest" ?_); refine xE_call T.f_w_lowest g ?qa T.g_w_lowest T.F_w_lowest.kp T.b_w_lowest ?_; (case qa => (repeat (first | with_reducible exact In.z | with_reducible apply In.s)))) | ((with_reducible refine chkC "_law_integer" ?_); refine xE_call T.f_w_integer g ?qa T.g_w_integer T.F_w_integer.kp T.b_w_integer ?_; (case qa => (repeat (first | with_reducible exact In.z | with_reducible apply In.s)))) | ((with_reducible refine chkC "_law_is" ?_); refine xE_call T.f_w_is g ?qa T.g_w_is T.F_w_is.kp T.b_w_is ?_; (case qa => (repeat (first | with_reducible exact In.z | with_reducible apply In.s)))) | ((with_reducible refine chkC "_law_text" ?_); refine xE_call T.f_w_text g ?qa T.g_w_text T.F_w_text.kp T.b_w_text ?_; (case qa => (repeat (first | with_reducible exact In.z | with_reducible apply In.s)))) | ((with_reducible refine chkC "_law_told_right" ?_); refine xE_call T.f_w_told_right g ?qa T.g_w_told_right T.F_w_told_right.kp T.b_w_told_right ?_; (case qa => (repeat (first | with_reducible exact In.z | with_reducible apply In.s)))) | ((with_reducible refine chkC "_law_refused" ?_); refine xE_call T.f_w_refused g ?qa T.g_w_refused T.F_w_refused.kp T.b_w_refused ?_; (case qa => (repeat (first | with_reducible exact In.z | with_reducible apply In.s)))) | (refine sp_take T (by (first | assumption | with_reducible exact at_last | with_reducible exact at_new rfl | with_reducible exact at_left (by assumption) | with_reducible exact List.getElem?_set_self (by assumption) | with_reducible exact at_left (at_left (by assumption)))) (by (first | assumption | omega)) (by (first | assumption | omega)) ?_; intro d h0 h1) | ((with_reducible refine chkB "len" ?_); refine wF_len (by (first | exact .inl rfl | exact .inr (.inl rfl) | exact .inr (.inr (.inl rfl)) | exact .inr (.inr (.inr ⟨_, rfl, by (first | assumption | with_reducible exact at_last | with_reducible exact at_new rfl | with_reducible exact at_left (by assumption) | with_reducible exact List.getElem?_set_self (by assumption) | with_reducible exact at_left (at_left (by assumption)))⟩)))) ?_) | with_reducible refine wF_intB ?_ | with_reducible refine wF_boolB ?_ | with_reducible refine wF_abs ?_ | with_reducible refine wF_max g.toGd ?_ | with_reducible refine wF_min g.toGd ?_ | refine wX_if2I (by (first | exact .inl rfl | exact .inr (.inl rfl) | exact .inr (.inr (.inl rfl)) | exact .inr (.inr (.inr ⟨_, rfl, by (first | assumption | with_reducible exact at_last | with_reducible exact at_new rfl | with_reducible exact at_left (by assumption) | with_reducible exact List.getElem?_set_self (by assumption) | with_reducible exact at_left (at_left (by assumption)))⟩)))) ?_ | refine wX_if2 (by (first | exact .inl rfl | exact .inr (.inl rfl) | exact .inr (.inr (.inl rfl)) | exact .inr (.inr (.inr ⟨_, rfl, by (first | assumption | with_reducible exact at_last | with_reducible exact at_new rfl | with_reducible exact at_left (by assumption) | with_reducible exact List.getElem?_set_self (by assumption) | with_reducible exact at_left (at_left (by assumption)))⟩)))) ?_ | refine wX_at (by (first | exact .inl rfl | exact .inr (.inl rfl) | exact .inr (.inr (.inl rfl)) | exact .inr (.inr (.inr ⟨_, rfl, by (first | assumption | with_reducible exact at_last | with_reducible exact at_new rfl | with_reducible exact at_left (by assumption) | with_reducible exact List.getElem?_set_self (by assumption) | with_reducible exact at_left (at_left (by assumption)))⟩)))) rfl ?_ | (refine wX_ints (by (first | exact .inl rfl | exact .inr (.inl rfl) | exact .inr (.inr (.inl rfl)) | exact .inr (.inr (.inr ⟨_, rfl, by (first | assumption | with_reducible exact at_last | with_reducible exact at_new rfl | with_reducible exact at_left (by assumption) | with_reducible exact List.getElem?_set_self (by assumption) | with_reducible exact at_left (at_left (by assumption)))⟩)))) (by (repeat (first | exact Ints.nil | apply Ints.cons))) (by (first | assumption | omega)) (by (simp only [List.length_cons, List.length_nil]; omega)) ?_; intro v hv; simp only [List.mem_cons, List.not_mem_nil, or_false] at hv) | ((with_reducible refine chkN "int" ?_); refine xE_bty gn ?qa T.n_int boot_int ?_; (case qa => (repeat (first | with_reducible exact In.z | with_reducible apply In.s)))) | ((with_reducible refine chkN "bool" ?_); refine xE_bty gn ?qa T.n_bool boot_bool ?_; (case qa => (repeat (first | with_reducible exact In.z | with_reducible apply In.s)))) | ((with_reducible refine chkN "str" ?_); refine xE_bty gn ?qa T.n_str boot_str ?_; (case qa => (repeat (first | with_reducible exact In.z | with_reducible apply In.s)))) | ((with_reducible refine chkN "PoolError" ?_); refine xE_cls gn ?qa T.g_PoolError ?_; (case qa => (repeat (first | with_reducible exact In.z | with_reducible apply In.s)))) | ((with_reducible refine chkN "InvalidNumber" ?_); refine xE_cls gn ?qa T.g_InvalidNumber ?_; (case qa => (repeat (first | with_reducible exact In.z | with_reducible apply In.s)))) | ((with_reducible refine chkN "Ratio" ?_); refine xE_cls gn ?qa T.g_Ratio ?_; (case qa => (repeat (first | with_reducible exact In.z | with_reducible apply In.s)))) | ((with_reducible refine chkC "Ratio" ?_); refine xE_make gn ?qa T.g_Ratio T.mk_Ratio.kp ?_; (case qa => (repeat (first | with_reducible exact In.z | with_reducible apply In.s)))) | ((with_reducible refine chkA "top" ?_); refine wE_top T ?_) | ((with_reducible refine chkA "bottom" ?_); refine wE_bot T ?_) | ((with_reducible refine wF_isRt ?qc ?_); (case qc => exact T.own_Ratio)) | with_reducible refine wF_isII ?_ | with_reducible refine wF_isIB ?_ | with_reducible refine wF_isBB ?_ | ((with_reducible refine wF_R2 T g.toGd ?qc1 ?qc2 ?_); (case qc1 => (first | assumption | omega)); (case qc2 => exact lt_pow_mono (n := 64) (by (first | assumption | omega)) (by decide))) | with_reducible refine wF_R1 T g.toGd ?_))
local macro_rules | `(tactic| walk_at "s1") => `(tactic| (refine wSs_cons ?_; repeat (first | (refine wE_name gn ?_; (repeat (first | with_reducible refine wGt_z ?_ | with_reducible refine wGt_c ?_ | with_reducible refine wGt_s ?_ | with_reducible refine wGt_f ?_)); fail_if_success refine wGt_chk ?_) | refine wE_int ?_ | refine wE_bin ?_ | refine wE_sub ?_ | refine wE_cmp ?_ | refine wE_tup ?_ | refine wE_lst ?_ | refine wE_str ?_ | refine wE_bl ?_ | refine wE_non ?_ | refine wE_not ?_ | refine wE_and ?_ | refine wE_or ?_ | refine wE_one ?_ | refine wE_un ?_ | refine wE_if ?_ | with_reducible refine wB_add ?_ | with_reducible refine wB_sub ?_ | ((with_reducible refine wB_mulR ?qc ?_); (case qc => exact ⟨by (first | assumption | omega), by (first | assumption | omega)⟩)) | ((with_reducible refine wB_mulL ?qc ?_); (case qc => exact ⟨by (first | assumption | omega), by (first | assumption | omega)⟩)) | ((with_reducible refine wB_mod ?qc ?_); (case qc => (first | assumption | omega))) | ((with_reducible refine wB_fdivS ?qc ?_); (case qc => exact ⟨by (first | assumption | omega), by (first | assumption | omega)⟩)) | with_reducible refine wB_lt ?_ | with_reducible refine wB_le ?_ | with_reducible refine wB_gt ?_ | with_reducible refine wB_ge ?_ | with_reducible refine wB_eq ?_ | with_reducible refine wB_ne ?_ | with_reducible refine wB_eqT ?_ | with_reducible refine wB_neT ?_ | with_reducible refine wB_eqB ?_ | with_reducible refine wB_neB ?_ | with_reducible refine wB_is ?_ | with_reducible refine wB_isNot ?_ | with_reducible refine wU_neg ?_ | with_reducible refine wB_pow5 ?_ | with_reducible refine wB_pow6 ?_ | with_reducible refine wB_pow7 ?_ | with_reducible refine wB_pow8 ?_ | with_reducible refine wB_pow9 ?_ | with_reducible refine wB_pow18 ?_ | refine wA_cons ?_ | refine wA_nil ?_ | refine wG_tup g.calm ?_ | refine wGs_cons ?_ | refine wGs_nil ?_ | refine wG_name gn ?_ | with_reducible refine wPt_z ?_ | with_reducible refine wPt_c ?_ | with_reducible refine wPt_s ?_ | refine Exists.intro _ (And.intro rfl ?_) | refine And.intro (by (simp only [List.length_cons, List.length_nil]; decide)) ?_ | refine Exists.intro _ (Exists.intro _ (And.intro rfl ?_)) | refine Exists.intro _ (Exists.intro _ (Exists.intro _ (And.intro rfl ?_))) | refine Exists.intro _ (Exists.intro _ (Exists.intro _ (Exists.intro _ (And.intro rfl (And.intro rfl (And.intro (by (first | assumption | with_reducible exact at_last | with_reducible exact at_new rfl | with_reducible exact at_left (by assumption) | with_reducible exact List.getElem?_set_self (by assumption) | with_reducible exact at_left (at_left (by assumption)))) (And.intro rfl ?_))))))) | refine wC_cmp ?_ | refine wC_not ?_ | refine wC_bool ?_ | refine wCw_and ?_ | refine wCw_or ?_ | refine wCw_and1 ?_ | refine wCw_or1 ?_ | refine wC_val ?_ | refine wSs_nil ?_ | (refine wS_set gn ?qa ?_; (case qa => exact ⟨_, by (repeat (first | with_reducible exact Ix.z | with_reducible exact Ix.c | with_reducible apply Ix.s))⟩)) | (refine wS_par g ?qa ?_; (case qa => exact ⟨_, _, by (repeat (first | with_reducible exact Il.z | with_reducible apply Il.s)), by (repeat (first | with_reducible exact Il.z | with_reducible apply Il.s)), by decide⟩)) | (refine wS_par3 g ?qa ?_; (case qa => exact ⟨_, _, _, by (repeat (first | with_reducible exact Il.z | with_reducible apply Il.s)), by (repeat (first | with_reducible exact Il.z | with_reducible apply Il.s)), by (repeat (first | with_reducible exact Il.z | with_reducible apply Il.s)), by decide, by decide, by decide⟩)) | refine wS_ret ?_ | refine wS_if ?_ | refine wS_expr ?_ | refine wS_ix ?_ | refine wS_asg ?_ | refine wS_pass ?_ | ((with_reducible refine chkC "len" ?_); refine xE_blt gn ?qa T.n_len boot_len ?_; (case qa => (repeat (first | with_reducible exact In.z | with_reducible apply In.s)))) | ((with_reducible refine chkC "int" ?_); refine xE_bcl gn ?qa T.n_int boot_int ?_; (case qa => (repeat (first | with_reducible exact In.z | with_reducible apply In.s)))) | ((with_reducible refine chkC "abs" ?_); refine xE_blt gn ?qa T.n_abs boot_abs ?_; (case qa => (repeat (first | with_reducible exact In.z | with_reducible apply In.s)))) | ((with_reducible refine chkC "max" ?_); refine xE_blt gn ?qa T.n_max boot_max ?_; (case qa => (repeat (first | with_reducible exact In.z | with_reducible apply In.s)))) | ((with_reducible refine chkC "min" ?_); refine xE_blt gn ?qa T.n_min boot_min ?_; (case qa => (repeat (first | with_reducible exact In.z | with_reducible apply In.s)))) | ((with_reducible refine chkC "str" ?_); refine xE_bcl gn ?qa T.n_str boot_str ?_; (case qa => (repeat (first | with_reducible exact In.z | with_reducible apply In.s)))) | ((with_reducible refine chkC "repr" ?_); refine xE_blt gn ?qa T.n_repr boot_repr ?_; (case qa => (repeat (first | with_reducible exact In.z | with_reducible apply In.s)))) | ((with_reducible refine chkC "isinstance" ?_); refine xE_blt gn ?qa T.n_isinstance boot_isinstance ?_; (case qa => (repeat (first | with_reducible exact In.z | with_reducible apply In.s)))) | ((with_reducible refine chkC "bool" ?_); refine xE_bcl gn ?qa T.n_bool boot_bool ?_; (case qa => (repeat (first | with_reducible exact In.z | with_reducible apply In.s)))) | ((with_reducible refine chkC "all" ?_); refine xE_blt gn ?qa T.n_all boot_all ?_; (case qa => (repeat (first | with_reducible exact In.z | with_reducible apply In.s)))) | ((with_reducible refine chkC "_law_box" ?_); refine xE_call T.f_w_box g ?qa T.g_w_box T.F_w_box.kp T.b_w_box ?_; (case qa => (repeat (first | with_reducible exact In.z | with_reducible apply In.s)))) | ((with_reducible refine chkC "_law_take" ?_); refine xE_call T.f_w_take g ?qa T.g_w_take T.F_w_take.kp T.b_w_take ?_; (case qa => (repeat (first | with_reducible exact In.z | with_reducible apply In.s)))) | ((with_reducible refine chkC "_law_lowest" ?_); refine xE_call T.f_w_lowest g ?qa T.g_w_lowest T.F_w_lowest.kp T.b_w_lowest ?_; (case qa => (repeat (first | with_reducible exact In.z | with_reducible apply In.s)))) | ((with_reducible refine chkC "_law_integer" ?_); refine xE_call T.f_w_integer g ?qa T.g_w_integer T.F_w_integer.kp T.b_w_integer ?_; (case qa => (repeat (first | with_reducible exact In.z | with_reducible apply In.s)))) | ((with_reducible refine chkC "_law_is" ?_); refine xE_call T.f_w_is g ?qa T.g_w_is T.F_w_is.kp T.b_w_is ?_; (case qa => (repeat (first | with_reducible exact In.z | with_reducible apply In.s)))) | ((with_reducible refine chkC "_law_text" ?_); refine xE_call T.f_w_text g ?qa T.g_w_text T.F_w_text.kp T.b_w_text ?_; (case qa => (repeat (first | with_reducible exact In.z | with_reducible apply In.s)))) | ((with_reducible refine chkC "_law_told_right" ?_); refine xE_call T.f_w_told_right g ?qa T.g_w_told_right T.F_w_told_right.kp T.b_w_told_right ?_; (case qa => (repeat (first | with_reducible exact In.z | with_reducible apply In.s)))) | ((with_reducible refine chkC "_law_refused" ?_); refine xE_call T.f_w_refused g ?qa T.g_w_refused T.F_w_refused.kp T.b_w_refused ?_; (case qa => (repeat (first | with_reducible exact In.z | with_reducible apply In.s)))) | (refine sp_take T (by (first | assumption | with_reducible exact at_last | with_reducible exact at_new rfl | with_reducible exact at_left (by assumption) | with_reducible exact List.getElem?_set_self (by assumption) | with_reducible exact at_left (at_left (by assumption)))) (by (first | assumption | omega)) (by (first | assumption | omega)) ?_; intro d h0 h1) | ((with_reducible refine chkB "len" ?_); refine wF_len (by (first | exact .inl rfl | exact .inr (.inl rfl) | exact .inr (.inr (.inl rfl)) | exact .inr (.inr (.inr ⟨_, rfl, by (first | assumption | with_reducible exact at_last | with_reducible exact at_new rfl | with_reducible exact at_left (by assumption) | with_reducible exact List.getElem?_set_self (by assumption) | with_reducible exact at_left (at_left (by assumption)))⟩)))) ?_) | with_reducible refine wF_intB ?_ | with_reducible refine wF_boolB ?_ | with_reducible refine wF_abs ?_ | with_reducible refine wF_max g.toGd ?_ | with_reducible refine wF_min g.toGd ?_ | refine wX_if2I (by (first | exact .inl rfl | exact .inr (.inl rfl) | exact .inr (.inr (.inl rfl)) | exact .inr (.inr (.inr ⟨_, rfl, by (first | assumption | with_reducible exact at_last | with_reducible exact at_new rfl | with_reducible exact at_left (by assumption) | with_reducible exact List.getElem?_set_self (by assumption) | with_reducible exact at_left (at_left (by assumption)))⟩)))) ?_ | refine wX_if2 (by (first | exact .inl rfl | exact .inr (.inl rfl) | exact .inr (.inr (.inl rfl)) | exact .inr (.inr (.inr ⟨_, rfl, by (first | assumption | with_reducible exact at_last | with_reducible exact at_new rfl | with_reducible exact at_left (by assumption) | with_reducible exact List.getElem?_set_self (by assumption) | with_reducible exact at_left (at_left (by assumption)))⟩)))) ?_ | refine wX_at (by (first | exact .inl rfl | exact .inr (.inl rfl) | exact .inr (.inr (.inl rfl)) | exact .inr (.inr (.inr ⟨_, rfl, by (first | assumption | with_reducible exact at_last | with_reducible exact at_new rfl | with_reducible exact at_left (by assumption) | with_reducible exact List.getElem?_set_self (by assumption) | with_reducible exact at_left (at_left (by assumption)))⟩)))) rfl ?_ | (refine wX_ints (by (first | exact .inl rfl | exact .inr (.inl rfl) | exact .inr (.inr (.inl rfl)) | exact .inr (.inr (.inr ⟨_, rfl, by (first | assumption | with_reducible exact at_last | with_reducible exact at_new rfl | with_reducible exact at_left (by assumption) | with_reducible exact List.getElem?_set_self (by assumption) | with_reducible exact at_left (at_left (by assumption)))⟩)))) (by (repeat (first | exact Ints.nil | apply Ints.cons))) (by (first | assumption | omega)) (by (simp only [List.length_cons, List.length_nil]; omega)) ?_; intro v hv; simp only [List.mem_cons, List.not_mem_nil, or_false] at hv) | ((with_reducible refine chkN "int" ?_); refine xE_bty gn ?qa T.n_int boot_int ?_; (case qa => (repeat (first | with_reducible exact In.z | with_reducible apply In.s)))) | ((with_reducible refine chkN "bool" ?_); refine xE_bty gn ?qa T.n_bool boot_bool ?_; (case qa => (repeat (first | with_reducible exact In.z | with_reducible apply In.s)))) | ((with_reducible refine chkN "str" ?_); refine xE_bty gn ?qa T.n_str boot_str ?_; (case qa => (repeat (first | with_reducible exact In.z | with_reducible apply In.s)))) | ((with_reducible refine chkN "PoolError" ?_); refine xE_cls gn ?qa T.g_PoolError ?_; (case qa => (repeat (first | with_reducible exact In.z | with_reducible apply In.s)))) | ((with_reducible refine chkN "InvalidNumber" ?_); refine xE_cls gn ?qa T.g_InvalidNumber ?_; (case qa => (repeat (first | with_reducible exact In.z | with_reducible apply In.s)))) | ((with_reducible refine chkN "Ratio" ?_); refine xE_cls gn ?qa T.g_Ratio ?_; (case qa => (repeat (first | with_reducible exact In.z | with_reducible apply In.s)))) | ((with_reducible refine chkC "Ratio" ?_); refine xE_make gn ?qa T.g_Ratio T.mk_Ratio.kp ?_; (case qa => (repeat (first | with_reducible exact In.z | with_reducible apply In.s)))) | ((with_reducible refine chkA "top" ?_); refine wE_top T ?_) | ((with_reducible refine chkA "bottom" ?_); refine wE_bot T ?_) | ((with_reducible refine wF_isRt ?qc ?_); (case qc => exact T.own_Ratio)) | with_reducible refine wF_isII ?_ | with_reducible refine wF_isIB ?_ | with_reducible refine wF_isBB ?_ | ((with_reducible refine wF_R2 T g.toGd ?qc1 ?qc2 ?_); (case qc1 => (first | assumption | omega)); (case qc2 => exact lt_pow_mono (n := 64) (by (first | assumption | omega)) (by decide))) | with_reducible refine wF_R1 T g.toGd ?_)))
local macro_rules | `(tactic| walk_at "e") => `(tactic| repeat (first | (refine wE_name gn ?_; (repeat (first | with_reducible refine wGt_z ?_ | with_reducible refine wGt_c ?_ | with_reducible refine wGt_s ?_ | with_reducible refine wGt_f ?_)); fail_if_success refine wGt_chk ?_) | refine wE_int ?_ | refine wE_bin ?_ | refine wE_sub ?_ | refine wE_cmp ?_ | refine wE_tup ?_ | refine wE_lst ?_ | refine wE_str ?_ | refine wE_bl ?_ | refine wE_non ?_ | refine wE_not ?_ | refine wE_and ?_ | refine wE_or ?_ | refine wE_one ?_ | refine wE_un ?_ | refine wE_if ?_ | with_reducible refine wB_add ?_ | with_reducible refine wB_sub ?_ | ((with_reducible refine wB_mulR ?qc ?_); (case qc => exact ⟨by (first | assumption | omega), by (first | assumption | omega)⟩)) | ((with_reducible refine wB_mulL ?qc ?_); (case qc => exact ⟨by (first | assumption | omega), by (first | assumption | omega)⟩)) | ((with_reducible refine wB_mod ?qc ?_); (case qc => (first | assumption | omega))) | ((with_reducible refine wB_fdivS ?qc ?_); (case qc => exact ⟨by (first | assumption | omega), by (first | assumption | omega)⟩)) | with_reducible refine wB_lt ?_ | with_reducible refine wB_le ?_ | with_reducible refine wB_gt ?_ | with_reducible refine wB_ge ?_ | with_reducible refine wB_eq ?_ | with_reducible refine wB_ne ?_ | with_reducible refine wB_eqT ?_ | with_reducible refine wB_neT ?_ | with_reducible refine wB_eqB ?_ | with_reducible refine wB_neB ?_ | with_reducible refine wB_is ?_ | with_reducible refine wB_isNot ?_ | with_reducible refine wU_neg ?_ | with_reducible refine wB_pow5 ?_ | with_reducible refine wB_pow6 ?_ | with_reducible refine wB_pow7 ?_ | with_reducible refine wB_pow8 ?_ | with_reducible refine wB_pow9 ?_ | with_reducible refine wB_pow18 ?_ | refine wA_cons ?_ | refine wA_nil ?_ | refine wG_tup g.calm ?_ | refine wGs_cons ?_ | refine wGs_nil ?_ | refine wG_name gn ?_ | with_reducible refine wPt_z ?_ | with_reducible refine wPt_c ?_ | with_reducible refine wPt_s ?_ | refine Exists.intro _ (And.intro rfl ?_) | refine And.intro (by (simp only [List.length_cons, List.length_nil]; decide)) ?_ | refine Exists.intro _ (Exists.intro _ (And.intro rfl ?_)) | refine Exists.intro _ (Exists.intro _ (Exists.intro _ (And.intro rfl ?_))) | refine Exists.intro _ (Exists.intro _ (Exists.intro _ (Exists.intro _ (And.intro rfl (And.intro rfl (And.intro (by (first | assumption | with_reducible exact at_last | with_reducible exact at_new rfl | with_reducible exact at_left (by assumption) | with_reducible exact List.getElem?_set_self (by assumption) | with_reducible exact at_left (at_left (by assumption)))) (And.intro rfl ?_))))))) | refine wC_cmp ?_ | refine wC_not ?_ | refine wC_bool ?_ | refine wCw_and ?_ | refine wCw_or ?_ | refine wCw_and1 ?_ | refine wCw_or1 ?_ | refine wC_val ?_ | ((with_reducible refine chkC "len" ?_); refine xE_blt gn ?qa T.n_len boot_len ?_; (case qa => (repeat (first | with_reducible exact In.z | with_reducible apply In.s)))) | ((with_reducible refine chkC "int" ?_); refine xE_bcl gn ?qa T.n_int boot_int ?_; (case qa => (repeat (first | with_reducible exact In.z | with_reducible apply In.s)))) | ((with_reducible refine chkC "abs" ?_); refine xE_blt gn ?qa T.n_abs boot_abs ?_; (case qa => (repeat (first | with_reducible exact In.z | with_reducible apply In.s)))) | ((with_reducible refine chkC "max" ?_); refine xE_blt gn ?qa T.n_max boot_max ?_; (case qa => (repeat (first | with_reducible exact In.z | with_reducible apply In.s)))) | ((with_reducible refine chkC "min" ?_); refine xE_blt gn ?qa T.n_min boot_min ?_; (case qa => (repeat (first | with_reducible exact In.z | with_reducible apply In.s)))) | ((with_reducible refine chkC "str" ?_); refine xE_bcl gn ?qa T.n_str boot_str ?_; (case qa => (repeat (first | with_reducible exact In.z | with_reducible apply In.s)))) | ((with_reducible refine chkC "repr" ?_); refine xE_blt gn ?qa T.n_repr boot_repr ?_; (case qa => (repeat (first | with_reducible exact In.z | with_reducible apply In.s)))) | ((with_reducible refine chkC "isinstance" ?_); refine xE_blt gn ?qa T.n_isinstance boot_isinstance ?_; (case qa => (repeat (first | with_reducible exact In.z | with_reducible apply In.s)))) | ((with_reducible refine chkC "bool" ?_); refine xE_bcl gn ?qa T.n_bool boot_bool ?_; (case qa => (repeat (first | with_reducible exact In.z | with_reducible apply In.s)))) | ((with_reducible refine chkC "all" ?_); refine xE_blt gn ?qa T.n_all boot_all ?_; (case qa => (repeat (first | with_reducible exact In.z | with_reducible apply In.s)))) | ((with_reducible refine chkC "_law_box" ?_); refine xE_call T.f_w_box g ?qa T.g_w_box T.F_w_box.kp T.b_w_box ?_; (case qa => (repeat (first | with_reducible exact In.z | with_reducible apply In.s)))) | ((with_reducible refine chkC "_law_take" ?_); refine xE_call T.f_w_take g ?qa T.g_w_take T.F_w_take.kp T.b_w_take ?_; (case qa => (repeat (first | with_reducible exact In.z | with_reducible apply In.s)))) | ((with_reducible refine chkC "_law_lowest" ?_); refine xE_call T.f_w_lowest g ?qa T.g_w_lowest T.F_w_lowest.kp T.b_w_lowest ?_; (case qa => (repeat (first | with_reducible exact In.z | with_reducible apply In.s)))) | ((with_reducible refine chkC "_law_integer" ?_); refine xE_call T.f_w_integer g ?qa T.g_w_integer T.F_w_integer.kp T.b_w_integer ?_; (case qa => (repeat (first | with_reducible exact In.z | with_reducible apply In.s)))) | ((with_reducible refine chkC "_law_is" ?_); refine xE_call T.f_w_is g ?qa T.g_w_is T.F_w_is.kp T.b_w_is ?_; (case qa => (repeat (first | with_reducible exact In.z | with_reducible apply In.s)))) | ((with_reducible refine chkC "_law_text" ?_); refine xE_call T.f_w_text g ?qa T.g_w_text T.F_w_text.kp T.b_w_text ?_; (case qa => (repeat (first | with_reducible exact In.z | with_reducible apply In.s)))) | ((with_reducible refine chkC "_law_told_right" ?_); refine xE_call T.f_w_told_right g ?qa T.g_w_told_right T.F_w_told_right.kp T.b_w_told_right ?_; (case qa => (repeat (first | with_reducible exact In.z | with_reducible apply In.s)))) | ((with_reducible refine chkC "_law_refused" ?_); refine xE_call T.f_w_refused g ?qa T.g_w_refused T.F_w_refused.kp T.b_w_refused ?_; (case qa => (repeat (first | with_reducible exact In.z | with_reducible apply In.s)))) | (refine sp_take T (by (first | assumption | with_reducible exact at_last | with_reducible exact at_new rfl | with_reducible exact at_left (by assumption) | with_reducible exact List.getElem?_set_self (by assumption) | with_reducible exact at_left (at_left (by assumption)))) (by (first | assumption | omega)) (by (first | assumption | omega)) ?_; intro d h0 h1) | ((with_reducible refine chkB "len" ?_); refine wF_len (by (first | exact .inl rfl | exact .inr (.inl rfl) | exact .inr (.inr (.inl rfl)) | exact .inr (.inr (.inr ⟨_, rfl, by (first | assumption | with_reducible exact at_last | with_reducible exact at_new rfl | with_reducible exact at_left (by assumption) | with_reducible exact List.getElem?_set_self (by assumption) | with_reducible exact at_left (at_left (by assumption)))⟩)))) ?_) | with_reducible refine wF_intB ?_ | with_reducible refine wF_boolB ?_ | with_reducible refine wF_abs ?_ | with_reducible refine wF_max g.toGd ?_ | with_reducible refine wF_min g.toGd ?_ | refine wX_if2I (by (first | exact .inl rfl | exact .inr (.inl rfl) | exact .inr (.inr (.inl rfl)) | exact .inr (.inr (.inr ⟨_, rfl, by (first | assumption | with_reducible exact at_last | with_reducible exact at_new rfl | with_reducible exact at_left (by assumption) | with_reducible exact List.getElem?_set_self (by assumption) | with_reducible exact at_left (at_left (by assumption)))⟩)))) ?_ | refine wX_if2 (by (first | exact .inl rfl | exact .inr (.inl rfl) | exact .inr (.inr (.inl rfl)) | exact .inr (.inr (.inr ⟨_, rfl, by (first | assumption | with_reducible exact at_last | with_reducible exact at_new rfl | with_reducible exact at_left (by assumption) | with_reducible exact List.getElem?_set_self (by assumption) | with_reducible exact at_left (at_left (by assumption)))⟩)))) ?_ | refine wX_at (by (first | exact .inl rfl | exact .inr (.inl rfl) | exact .inr (.inr (.inl rfl)) | exact .inr (.inr (.inr ⟨_, rfl, by (first | assumption | with_reducible exact at_last | with_reducible exact at_new rfl | with_reducible exact at_left (by assumption) | with_reducible exact List.getElem?_set_self (by assumption) | with_reducible exact at_left (at_left (by assumption)))⟩)))) rfl ?_ | (refine wX_ints (by (first | exact .inl rfl | exact .inr (.inl rfl) | exact .inr (.inr (.inl rfl)) | exact .inr (.inr (.inr ⟨_, rfl, by (first | assumption | with_reducible exact at_last | with_reducible exact at_new rfl | with_reducible exact at_left (by assumption) | with_reducible exact List.getElem?_set_self (by assumption) | with_reducible exact at_left (at_left (by assumption)))⟩)))) (by (repeat (first | exact Ints.nil | apply Ints.cons))) (by (first | assumption | omega)) (by (simp only [List.length_cons, List.length_nil]; omega)) ?_; intro v hv; simp only [List.mem_cons, List.not_mem_nil, or_false] at hv) | ((with_reducible refine chkN "int" ?_); refine xE_bty gn ?qa T.n_int boot_int ?_; (case qa => (repeat (first | with_reducible exact In.z | with_reducible apply In.s)))) | ((with_reducible refine chkN "bool" ?_); refine xE_bty gn ?qa T.n_bool boot_bool ?_; (case qa => (repeat (first | with_reducible exact In.z | with_reducible apply In.s)))) | ((with_reducible refine chkN "str" ?_); refine xE_bty gn ?qa T.n_str boot_str ?_; (case qa => (repeat (first | with_reducible exact In.z | with_reducible apply In.s)))) | ((with_reducible refine chkN "PoolError" ?_); refine xE_cls gn ?qa T.g_PoolError ?_; (case qa => (repeat (first | with_reducible exact In.z | with_reducible apply In.s)))) | ((with_reducible refine chkN "InvalidNumber" ?_); refine xE_cls gn ?qa T.g_InvalidNumber ?_; (case qa => (repeat (first | with_reducible exact In.z | with_reducible apply In.s)))) | ((with_reducible refine chkN "Ratio" ?_); refine xE_cls gn ?qa T.g_Ratio ?_; (case qa => (repeat (first | with_reducible exact In.z | with_reducible apply In.s)))) | ((with_reducible refine chkC "Ratio" ?_); refine xE_make gn ?qa T.g_Ratio T.mk_Ratio.kp ?_; (case qa => (repeat (first | with_reducible exact In.z | with_reducible apply In.s)))) | ((with_reducible refine chkA "top" ?_); refine wE_top T ?_) | ((with_reducible refine chkA "bottom" ?_); refine wE_bot T ?_) | ((with_reducible refine wF_isRt ?qc ?_); (case qc => exact T.own_Ratio)) | with_reducible refine wF_isII ?_ | with_reducible refine wF_isIB ?_ | with_reducible refine wF_isBB ?_ | ((with_reducible refine wF_R2 T g.toGd ?qc1 ?qc2 ?_); (case qc1 => (first | assumption | omega)); (case qc2 => exact lt_pow_mono (n := 64) (by (first | assumption | omega)) (by decide))) | with_reducible refine wF_R1 T g.toGd ?_))
local macro_rules | `(tactic| walk_at "start") => `(tactic| (intro ρ hρ cdv A outer s H E g; simp only [startD, List.map_cons, List.map_nil, List.length_cons, List.length_nil, List.replicate_succ, List.replicate_zero, List.cons_append, List.nil_append, Nat.reduceAdd, Nat.reduceSub] at hρ; subst hρ; have gn := g.toNx'))
local macro_rules | `(tactic| walk_at "suite") => `(tactic| (intro a dd oe pn hz hv gn ρs hρ; simp only [List.set_cons_succ, List.set_cons_zero] at hρ; subst hρ))
local macro_rules | `(tactic| walk_at "after") => `(tactic| (intro ρs hρ; simp only [List.set_cons_succ, List.set_cons_zero] at hρ; subst hρ))
local macro_rules | `(tactic| walk_at "blk") => `(tactic| (intro s H C cl fp g; have gn := g.toNx'))
theorem low_num {t b : Int} (hb : b ≠ 0) : (if b < 0 then -1 else 1) * t / (Nat.gcd t.natAbs b.natAbs : Nat) = (Rat.divInt t b).num ∧ (if b < 0 then -1 else 1) * b / (Nat.gcd t.natAbs b.natAbs : Nat) = ((Rat.divInt t b).den : Int) := by
  by_cases h : b < 0
  · rw [if_pos h, ← Rat.neg_divInt_neg, divInt_num (by omega), divInt_den (by omega), Int.natAbs_neg, Int.natAbs_neg]
    exact ⟨by rw [Int.neg_mul, Int.one_mul], by rw [Int.neg_mul, Int.one_mul]⟩
  · rw [if_neg h, divInt_num (by omega), divInt_den (by omega)]
    exact ⟨by rw [Int.one_mul], by rw [Int.one_mul]⟩
section
variable {P : Program} {w : World} {K : PySem.W.Frag} {mg : Str → Option Value} {base : Heap} (T : Tx K mg)
def pr (q : Rat) : D := .tup [.int q.num, .int q.den]
theorem sp_lowest {μ : List M} {t b : Int} {Q : KV} {Z : KX} (hb : b ≠ 0) (hz : b.natAbs < 2 ^ 9000) (h : Q (pr (Rat.divInt t b)) μ) : SpF P w K mg base T.f_w_lowest [.int t, .int b] μ Q Z := by
  refine spX_of T.F_w_lowest sc_w_lowest ck_w_lowest rfl ?_
  walk_at "start"
  have hg0 : 0 < Nat.gcd t.natAbs b.natAbs := Nat.gcd_pos_of_pos_right _ (by omega)
  have hd : ∀ i : Int, CDivW i (Nat.gcd t.natAbs b.natAbs : Nat) := fun i => ⟨by omega, log2_lt (Nat.lt_of_le_of_lt (Nat.gcd_le_right _ (by omega)) hz) (by decide)⟩
  walk_at "s1"
  refine wSs_cons (wS_while (fun m ρ μ' => ∃ x y : Nat, m = y ∧ μ' = μ ++ [] ∧ Nat.gcd x y = Nat.gcd t.natAbs b.natAbs ∧ ρ = [some (.int t), some (.int b), some (.int x), some (.int y), none]) g.po ⟨_, _, rfl, rfl, rfl, rfl⟩ ?_)
  rintro m ρ μ' ⟨x, y, rfl, rfl, e, rfl⟩
  walk_at "e"
  refine br_dec (fun h1 => ?_) (fun h1 => ?_)
  · walk_at "s1"
    refine ⟨x % m, Nat.mod_lt _ (by omega), m, x % m, rfl, rfl, ?_, by rw [Int.natCast_emod]⟩
    rw [Nat.gcd_comm, ← Nat.gcd_rec, Nat.gcd_comm]
    exact e
  · have : m = 0 := by omega
    subst this
    rw [Nat.gcd_zero_right] at e
    subst e
    obtain ⟨e1, e2⟩ := low_num (t := t) hb
    walk_at "s1"
    walk_at "wp"
    refine wB_fdiv (hd _) ?_
    walk_at "e"
    refine wB_fdiv (hd _) ?_
    walk_at "e"
    simp only [decide_eq_true_eq, Int.zero_sub, Int.reduceNeg]
    rw [e1, e2, List.append_nil]
    exact .same h
theorem sp_integer {μ : List M} {n : Nat} {Q : KV} {Z : KX} (hb : μ[n]? = some .box) (h : ∀ i : Int, i.natAbs ≤ 1000000000 → Q (.int i) μ) : SpF P w K mg base T.f_w_integer [.loc n] μ Q Z := by
  refine spX_of T.F_w_integer sc_w_integer ck_w_integer rfl ?_
  walk_at "start"
  walk_at "wp"
  rename_i v1 hv1 d1 _ _ _ _ _
  rw [List.append_nil]
  refine .same (h _ ?_)
  rcases hv with rfl | rfl <;> omega
theorem wB_eqP {X : Cx} {W : WX} {k : Nat} {μ : List M} {Q : KV} {Z : KX} {a b c d : Int} (g : Gd X W k) (h : Q (.bl (decide (a = c ∧ b = d))) μ) : wB X W (compareOp .Eq) (.tup [.int a, .int b]) (.tup [.int c, .int d]) μ Q Z :=
  .of (o := .ret _ _) (oc_eqD g (p := .tuple [.int a, .int b]) (q := .tuple [.int c, .int d]) rfl rfl rfl rfl) (by
    have : PyData.eqv (.tuple [.int a, .int b]) (.tuple [.int c, .int d]) = decide (a = c ∧ b = d) := by simp only [PyData.eqv, PyData.eqvAll, Bool.and_true, Bool.decide_and]; rfl
    show Q (.bl _) μ
    rw [this]
    exact h)
theorem sp_is {μ : List M} {q : Rat} {Q : KV} {Z : KX} (h : Q (.bl true) μ) : SpF P w K mg base T.f_w_is [rt T.C_Ratio q, pr q] μ Q Z := by
  refine spX_of T.F_w_is sc_w_is ck_w_is rfl ?_
  walk_at "start"
  walk_at "wp"
  refine wB_eqP g.toGd ?_
  rw [List.append_nil]
  simp only [and_self, decide_true]
  exact .same h
/-- the law's text of a ratio -/
theorem sp_text {μ : List M} {q : Rat} {Q : KV} {Z : KX} (hq : Fit 1000 q) (h : Q (.str (txR q)) μ) : SpF P w K mg base T.f_w_text [pr q] μ Q Z := by
  refine spX_of T.F_w_text sc_w_text ck_w_text rfl ?_
  walk_at "start"
  have l1 := int_len hq.n
  have l2 := int_len hq.d
  have sl := sl_big
  walk_at "s1"
  refine wF_strI (log_fit hq.n) ?_
  walk_at "e"
  refine wF_strI (log_fit hq.d) ?_
  refine wB_cat (by rw [show (Str.ofString "/").length = 1 from rfl]; exact (show 1 + (tx q.den).length ≤ _ by omega)) ?_
  walk_at "e"
  refine .ofV (oo_mulT (by split <;> omega)) ?_
  refine wB_cat ?_ ?_
  · show (tx q.num).length + _ ≤ _
    split
    · rw [if_pos rfl, Str.length_append, show (Str.ofString "/").length = 1 from rfl]
      exact (show (tx q.num).length + (1 + (tx q.den).length) ≤ _ by omega)
    · rw [if_neg (by decide)]
      exact (show (tx q.num).length + 0 ≤ _ by omega)
  · rw [List.append_nil]
    refine .same ?_
    have dp := q.den_pos
    have : toString q.num ++ (if (if decide (1 < (q.den : Int)) = true then (1 : Int) else 0) = 1 then Str.ofString "/" ++ (toString (q.den : Int) : Str) else Str.empty) = txR q := by
      unfold txR
      by_cases h1 : q.den = 1
      · rw [if_pos h1, if_neg (by rw [h1]; decide)]
        exact Str.append_empty _
      · rw [if_neg h1, if_pos (by rw [if_pos (decide_eq_true (by omega))])]
        rw [Str.append_assoc]
        rfl
    rw [this]
    exact h
theorem sp_told {μ : List M} {q : Rat} {Q : KV} {Z : KX} (hq : Fit 1000 q) (h : Q (.bl true) μ) : SpF P w K mg base T.f_w_told_right [rt T.C_Ratio q, pr q] μ Q Z := by
  refine spX_of T.F_w_told_right sc_w_told_right ck_w_told_right rfl ?_
  walk_at "start"
  have l1 := int_len hq.n
  have l2 := int_len hq.d
  have sl := sl_big
  walk_at "s1"
  refine .ofV (ct_strOwn g.toGd.w0 T.m_Ratio_str ⟨ok_str T, T.b_Ratio_str⟩ ⟨q, rfl, hq, rfl⟩) ?_
  walk_at "e"
  refine sp_text T hq ?_
  walk_at "e"
  simp only [decide_true, Bool.not_true, Bool.false_eq_true, if_false]
  walk_at "e"
  refine .ofV (cb_reprOwn g.toGd.w0 T.m_Ratio_repr ⟨ok_repr T, T.b_Ratio_repr⟩ ⟨q, rfl, hq, rfl⟩) ?_
  walk_at "e"
  refine wF_strI (log_fit hq.n) ?_
  refine wB_cat (show 6 + (tx q.num).length ≤ _ by omega) ?_
  walk_at "e"
  have c6 : (Str.ofString "Ratio(" ++ tx q.num).length = 6 + (tx q.num).length := by rw [Str.length_append]; rfl
  refine wB_cat (show (Str.ofString "Ratio(" ++ tx q.num).length + 2 ≤ _ by omega) ?_
  walk_at "e"
  refine wF_strI (log_fit hq.d) ?_
  have c8 : (Str.ofString "Ratio(" ++ tx q.num ++ Str.ofString ", ").length = 8 + (tx q.num).length := by rw [Str.length_append, c6]; show _ + 2 = _; omega
  refine wB_cat (show (Str.ofString "Ratio(" ++ tx q.num ++ Str.ofString ", ").length + (tx q.den).length ≤ _ by omega) ?_
  walk_at "e"
  have c9 : (Str.ofString "Ratio(" ++ tx q.num ++ Str.ofString ", " ++ tx q.den).length = 8 + (tx q.num).length + (tx q.den).length := by rw [Str.length_append, c8]
  refine wB_cat (show (Str.ofString "Ratio(" ++ tx q.num ++ Str.ofString ", " ++ tx q.den).length + 1 ≤ _ by omega) ?_
  walk_at "e"
  refine br_F (by rw [show (txP q = Str.ofString "Ratio(" ++ (toString q.num : Str) ++ Str.ofString ", " ++ (toString (q.den : Int) : Str) ++ Str.ofString ")") from rfl]; simp) (wSs_nil ?_)
  walk_at "s1"
  refine .ofV (ct_boolOwn g.toGd.w0 T.m_Ratio_bool ⟨ok_bool T, T.b_Ratio_bool⟩ ⟨q, rfl, hq, rfl⟩) ?_
  walk_at "e"
  refine br_F (by simp) ?_
  walk_at "e"
  refine wE_prop T.f_Ratio_is_whole g.toGd T.own_Ratio.cl T.P_Ratio_is_whole T.b_Ratio_is_whole ?_
  walk_at "e"
  refine ⟨.obj rfl, SpF.ofR (ok_is_whole T) ⟨q, rfl, hq.mono (by decide), rfl⟩ ?_⟩
  show wA _ _ _ _ _ _ _
  walk_at "e"
  refine wE_prop T.f_Ratio_is_whole g.toGd T.own_Ratio.cl T.P_Ratio_is_whole T.b_Ratio_is_whole ?_
  walk_at "e"
  refine ⟨.obj rfl, SpF.ofR (ok_is_whole T) ⟨q, rfl, hq.mono (by decide), rfl⟩ ?_⟩
  show wE _ _ _ _ _ _ _
  walk_at "e"
  refine br_F (by rw [show decide ((q.den : Int) = 1) = decide (q.den = 1) from decide_eq_decide.mpr (by omega)]; simp) (wSs_nil ?_)
  walk_at "s1"
  refine wE_prop T.f_Ratio_floor g.toGd T.own_Ratio.cl T.P_Ratio_floor T.b_Ratio_floor ?_
  walk_at "e"
  refine ⟨.obj rfl, SpF.ofR (ok_floor T) ⟨q, rfl, hq.mono (by decide), rfl⟩ ?_⟩
  show wA _ _ _ _ _ _ _
  walk_at "e"
  have ff : Fit 1000 q := hq
  have lf : (q.floor).natAbs.log2 < 1920 := by
    have : (q.floor).natAbs ≤ q.num.natAbs := by
      rw [Rat.floor_def]
      exact Int.natAbs_ediv_le_natAbs _ _
    exact log_fit (Nat.lt_of_le_of_lt this hq.n)
  refine .ofV (cb_repr g.toGd.w0 (p := .int q.floor) rfl (decide_eq_true lf) (int_text_fits lf) (Nat.zero_le _)) ?_
  walk_at "e"
  refine wB_fdiv ⟨den_pos' q, log2_lt (lt_pow_mono hq.d (by decide)) (by decide)⟩ ?_
  walk_at "e"
  rw [← Rat.floor_def]
  refine .ofV (cb_repr g.toGd.w0 (p := .int q.floor) rfl (decide_eq_true lf) (int_text_fits lf) (Nat.zero_le _)) ?_
  walk_at "e"
  rw [List.append_nil]
  simp only [decide_true]
  exact .same h
end
end PM
set_option Elab.async false
set_option linter.all false
set_option maxRecDepth 100000
set_option maxHeartbeats 4000000
set_option exponentiation.threshold 20000
namespace PM
open PySem L2 PyProof.Rows
set_option hygiene false
local macro_rules | `(tactic| walk_at "in") => `(tactic| (repeat (first | with_reducible exact In.z | with_reducible apply In.s)))
local macro_rules | `(tactic| walk_at "at") => `(tactic| (first | assumption | with_reducible exact at_last | with_reducible exact at_new rfl | with_reducible exact at_left (by assumption) | with_reducible exact List.getElem?_set_self (by assumption) | with_reducible exact at_left (at_left (by assumption))))
local macro_rules | `(tactic| walk_at "ixd") => `(tactic| (first | exact .inl rfl | exact .inr (.inl rfl) | exact .inr (.inr (.inl rfl)) | exact .inr (.inr (.inr ⟨_, rfl, by (first | assumption | with_reducible exact at_last | with_reducible exact at_new rfl | with_reducible exact at_left (by assumption) | with_reducible exact List.getElem?_set_self (by assumption) | with_reducible exact at_left (at_left (by assumption)))⟩))))
local macro_rules | `(tactic| walk_at "ints") => `(tactic| (repeat (first | exact Ints.nil | apply Ints.cons)))
local macro_rules | `(tactic| walk_at "num") => `(tactic| (first | assumption | omega))
local macro_rules | `(tactic| walk_at "ix") => `(tactic| (repeat (first | with_reducible exact Ix.z | with_reducible exact Ix.c | with_reducible apply Ix.s)))
local macro_rules | `(tactic| walk_at "il") => `(tactic| (repeat (first | with_reducible exact Il.z | with_reducible apply Il.s)))
local macro_rules | `(tactic| walk_at "one") => `(tactic| first | (refine wE_name gn ?_; (repeat (first | with_reducible refine wGt_z ?_ | with_reducible refine wGt_c ?_ | with_reducible refine wGt_s ?_ | with_reducible refine wGt_f ?_)); fail_if_success refine wGt_chk ?_) | refine wE_int ?_ | refine wE_bin ?_ | refine wE_sub ?_ | refine wE_cmp ?_ | refine wE_tup ?_ | refine wE_lst ?_ | refine wE_str ?_ | refine wE_bl ?_ | refine wE_non ?_ | refine wE_not ?_ | refine wE_and ?_ | refine wE_or ?_ | refine wE_one ?_ | refine wE_un ?_ | refine wE_if ?_ | with_reducible refine wB_add ?_ | with_reducible refine wB_sub ?_ | ((with_reducible refine wB_mulR ?qc ?_); (case qc => exact ⟨by (first | assumption | omega), by (first | assumption | omega)⟩)) | ((with_reducible refine wB_mulL ?qc ?_); (case qc => exact ⟨by (first | assumption | omega), by (first | assumption | omega)⟩)) | ((with_reducible refine wB_mod ?qc ?_); (case qc => (first | assumption | omega))) | ((with_reducible refine wB_fdivS ?qc ?_); (case qc => exact ⟨by (first | assumption | omega), by (first | assumption | omega)⟩)) | with_reducible refine wB_lt ?_ | with_reducible refine wB_le ?_ | with_reducible refine wB_gt ?_ | with_reducible refine wB_ge ?_ | with_reducible refine wB_eq ?_ | with_reducible refine wB_ne ?_ | with_reducible refine wB_eqT ?_ | with_reducible refine wB_neT ?_ | with_reducible refine wB_eqB ?_ | with_reducible refine wB_neB ?_ | with_reducible refine wB_is ?_ | with_reducible refine wB_isNot ?_ | with_reducible refine wU_neg ?_ | with_reducible refine wB_pow5 ?_ | with_reducible refine wB_pow6 ?_ | with_reducible refine wB_pow7 ?_ | with_reducible refine wB_pow8 ?_ | with_reducible refine wB_pow9 ?_ | with_reducible refine wB_pow18 ?_ | refine wA_cons ?_ | refine wA_nil ?_ | refine wG_tup g.calm ?_ | refine wGs_cons ?_ | refine wGs_nil ?_ | refine wG_name gn ?_ | with_reducible refine wPt_z ?_ | with_reducible refine wPt_c ?_ | with_reducible refine wPt_s ?_ | refine Exists.intro _ (And.intro rfl ?_) | refine And.intro (by (simp only [List.length_cons, List.length_nil]; decide)) ?_ | refine Exists.intro _ (Exists.intro _ (And.intro rfl ?_)) | refine Exists.intro _ (Exists.intro _ (Exists.intro _ (And.intro rfl ?_))) | refine Exists.intro _ (Exists.intro _ (Exists.intro _ (Exists.intro _ (And.intro rfl (And.intro rfl (And.intro (by (first | assumption | with_reducible exact at_last | with_reducible exact at_new rfl | with_reducible exact at_left (by assumption) | with_reducible exact List.getElem?_set_self (by assumption) | with_reducible exact at_left (at_left (by assumption)))) (And.intro rfl ?_))))))) | refine wC_cmp ?_ | refine wC_not ?_ | refine wC_bool ?_ | refine wCw_and ?_ | refine wCw_or ?_ | refine wCw_and1 ?_ | refine wCw_or1 ?_ | refine wC_val ?_ | refine wSs_cons ?_ | refine wSs_nil ?_ | (refine wS_set gn ?qa ?_; (case qa => exact ⟨_, by (repeat (first | with_reducible exact Ix.z | with_reducible exact Ix.c | with_reducible apply Ix.s))⟩)) | (refine wS_par g ?qa ?_; (case qa => exact ⟨_, _, by (repeat (first | with_reducible exact Il.z | with_reducible apply Il.s)), by (repeat (first | with_reducible exact Il.z | with_reducible apply Il.s)), by decide⟩)) | (refine wS_par3 g ?qa ?_; (case qa => exact ⟨_, _, _, by (repeat (first | with_reducible exact Il.z | with_reducible apply Il.s)), by (repeat (first | with_reducible exact Il.z | with_reducible apply Il.s)), by (repeat (first | with_reducible exact Il.z | with_reducible apply Il.s)), by decide, by decide, by decide⟩)) | refine wS_ret ?_ | refine wS_if ?_ | refine wS_expr ?_ | refine wS_ix ?_ | refine wS_asg ?_ | refine wS_pass ?_ | ((with_reducible refine chkC "len" ?_); refine xE_blt gn ?qa T.n_len boot_len ?_; (case qa => (repeat (first | with_reducible exact In.z | with_reducible apply In.s)))) | ((with_reducible refine chkC "int" ?_); refine xE_bcl gn ?qa T.n_int boot_int ?_; (case qa => (repeat (first | with_reducible exact In.z | with_reducible apply In.s)))) | ((with_reducible refine chkC "abs" ?_); refine xE_blt gn ?qa T.n_abs boot_abs ?_; (case qa => (repeat (first | with_reducible exact In.z | with_reducible apply In.s)))) | ((with_reducible refine chkC "max" ?_); refine xE_blt gn ?qa T.n_max boot_max ?_; (case qa => (repeat (first | with_reducible exact In.z | with_reducible apply In.s)))) | ((with_reducible refine chkC "min" ?_); refine xE_blt gn ?qa T.n_min boot_min ?_; (case qa => (repeat (first | with_reducible exact In.z | with_reducible apply In.s)))) | ((with_reducible refine chkC "str" ?_); refine xE_bcl gn ?qa T.n_str boot_str ?_; (case qa => (repeat (first | with_reducible exact In.z | with_reducible apply In.s)))) | ((with_reducible refine chkC "repr" ?_); refine xE_blt gn ?qa T.n_repr boot_repr ?_; (case qa => (repeat (first | with_reducible exact In.z | with_reducible apply In.s)))) | ((with_reducible refine chkC "isinstance" ?_); refine xE_blt gn ?qa T.n_isinstance boot_isinstance ?_; (case qa => (repeat (first | with_reducible exact In.z | with_reducible apply In.s)))) | ((with_reducible refine chkC "bool" ?_); refine xE_bcl gn ?qa T.n_bool boot_bool ?_; (case qa => (repeat (first | with_reducible exact In.z | with_reducible apply In.s)))) | ((with_reducible refine chkC "all" ?_); refine xE_blt gn ?qa T.n_all boot_all ?_; (case qa => (repeat (first | with_reducible exact In.z | with_reducible apply In.s)))) | ((with_reducible refine chkC "_law_box" ?_); refine xE_call T.f_w_box g ?qa T.g_w_box T.F_w_box.kp T.b_w_box ?_; (case qa => (repeat (first | with_reducible exact In.z | with_reducible apply In.s)))) | ((with_reducible refine chkC "_law_take" ?_); refine xE_call T.f_w_take g ?qa T.g_w_take T.F_w_take.kp T.b_w_take ?_; (case qa => (repeat (first | with_reducible exact In.z | with_reducible apply In.s)))) | ((with_reducible refine chkC "_law_lowest" ?_); refine xE_call T.f_w_lowest g ?qa T.g_w_lowest T.F_w_lowest.kp T.b_w_lowest ?_; (case qa => (repeat (first | with_reducible exact In.z | with_reducible apply In.s)))) | ((with_reducible refine chkC "_law_integer" ?_); refine xE_call T.f_w_integer g ?qa T.g_w_integer T.F_w_integer.kp T.b_w_integer ?_; (case qa => (repeat (first | with_reducible exact In.z | with_reducible apply In.s)))) | ((with_reducible refine chkC "_law_is" ?_); refine xE_call T.f_w_is g ?qa T.g_w_is T.F_w_is.kp T.b_w_is ?_; (case qa => (repeat (first | with_reducible exact In.z | with_reducible apply In.s)))) | ((with_reducible refine chkC "_law_text" ?_); refine xE_call T.f_w_text g ?qa T.g_w_text T.F_w_text.kp T.b_w_text ?_; (case qa => (repeat (first | with_reducible exact In.z | with_reducible apply In.s)))) | ((with_reducible refine chkC "_law_told_right" ?_); refine xE_call T.f_w_told_right g ?qa T.g_w_told_right T.F_w_told_right.kp T.b_w_told_right ?_; (case qa => (repeat (first | with_reducible exact In.z | with_reducible apply In.s)))) | ((with_reducible refine chkC "_law_refused" ?_); refine xE_call T.f_w_refused g ?qa T.g_w_refused T.F_w_refused.kp T.b_w_refused ?_; (case qa => (repeat (first | with_reducible exact In.z | with_reducible apply In.s)))) | (refine sp_take T (by (first | assumption | with_reducible exact at_last | with_reducible exact at_new rfl | with_reducible exact at_left (by assumption) | with_reducible exact List.getElem?_set_self (by assumption) | with_reducible exact at_left (at_left (by assumption)))) (by (first | assumption | omega)) (by (first | assumption | omega)) ?_; intro d h0 h1) | ((with_reducible refine chkB "len" ?_); refine wF_len (by (first | exact .inl rfl | exact .inr (.inl rfl) | exact .inr (.inr (.inl rfl)) | exact .inr (.inr (.inr ⟨_, rfl, by (first | assumption | with_reducible exact at_last | with_reducible exact at_new rfl | with_reducible exact at_left (by assumption) | with_reducible exact List.getElem?_set_self (by assumption) | with_reducible exact at_left (at_left (by assumption)))⟩)))) ?_) | with_reducible refine wF_intB ?_ | with_reducible refine wF_boolB ?_ | with_reducible refine wF_abs ?_ | with_reducible refine wF_max g.toGd ?_ | with_reducible refine wF_min g.toGd ?_ | refine wX_if2I (by (first | exact .inl rfl | exact .inr (.inl rfl) | exact .inr (.inr (.inl rfl)) | exact .inr (.inr (.inr ⟨_, rfl, by (first | assumption | with_reducible exact at_last | with_reducible exact at_new rfl | with_reducible exact at_left (by assumption) | with_reducible exact List.getElem?_set_self (by assumption) | with_reducible exact at_left (at_left (by assumption)))⟩)))) ?_ | refine wX_if2 (by (first | exact .inl rfl | exact .inr (.inl rfl) | exact .inr (.inr (.inl rfl)) | exact .inr (.inr (.inr ⟨_, rfl, by (first | assumption | with_reducible exact at_last | with_reducible exact at_new rfl | with_reducible exact at_left (by assumption) | with_reducible exact List.getElem?_set_self (by assumption) | with_reducible exact at_left (at_left (by assumption)))⟩)))) ?_ | refine wX_at (by (first | exact .inl rfl | exact .inr (.inl rfl) | exact .inr (.inr (.inl rfl)) | exact .inr (.inr (.inr ⟨_, rfl, by (first | assumption | with_reducible exact at_last | with_reducible exact at_new rfl | with_reducible exact at_left (by assumption) | with_reducible exact List.getElem?_set_self (by assumption) | with_reducible exact at_left (at_left (by assumption)))⟩)))) rfl ?_ | (refine wX_ints (by (first | exact .inl rfl | exact .inr (.inl rfl) | exact .inr (.inr (.inl rfl)) | exact .inr (.inr (.inr ⟨_, rfl, by (first | assumption | with_reducible exact at_last | with_reducible exact at_new rfl | with_reducible exact at_left (by assumption) | with_reducible exact List.getElem?_set_self (by assumption) | with_reducible exact at_left (at_left (by assumption)))⟩)))) (by (repeat (first | exact Ints.nil | apply Ints.cons))) (by (first | assumption | omega)) (by (simp only [List.length_cons, List.length_nil]; omega)) ?_; intro v hv; simp only [List.mem_cons, List.not_mem_nil, or_false] at hv) | ((with_reducible refine chkN "int" ?_); refine xE_bty gn ?qa T.n_int boot_int ?_; (case qa => (repeat (first | with_reducible exact In.z | with_reducible apply In.s)))) | ((with_reducible refine chkN "bool" ?_); refine xE_bty gn ?qa T.n_bool boot_bool ?_; (case qa => (repeat (first | with_reducible exact In.z | with_reducible apply In.s)))) | ((with_reducible refine chkN "str" ?_); refine xE_bty gn ?qa T.n_str boot_str ?_; (case qa => (repeat (first | with_reducible exact In.z | with_reducible apply In.s)))) | ((with_reducible refine chkN "PoolError" ?_); refine xE_cls gn ?qa T.g_PoolError ?_; (case qa => (repeat (first | with_reducible exact In.z | with_reducible apply In.s)))) | ((with_reducible refine chkN "InvalidNumber" ?_); refine xE_cls gn ?qa T.g_InvalidNumber ?_; (case qa => (repeat (first | with_reducible exact In.z | with_reducible apply In.s)))) | ((with_reducible refine chkN "Ratio" ?_); refine xE_cls gn ?qa T.g_Ratio ?_; (case qa => (repeat (first | with_reducible exact In.z | with_reducible apply In.s)))) | ((with_reducible refine chkC "Ratio" ?_); refine xE_make gn ?qa T.g_Ratio T.mk_Ratio.kp ?_; (case qa => (repeat (first | with_reducible exact In.z | with_reducible apply In.s)))) | ((with_reducible refine chkA "top" ?_); refine wE_top T ?_) | ((with_reducible refine chkA "bottom" ?_); refine wE_bot T ?_) | ((with_reducible refine wF_isRt ?qc ?_); (case qc => exact T.own_Ratio)) | with_reducible refine wF_isII ?_ | with_reducible refine wF_isIB ?_ | with_reducible refine wF_isBB ?_ | ((with_reducible refine wF_R2 T g.toGd ?qc1 ?qc2 ?_); (case qc1 => (first | assumption | omega)); (case qc2 => exact lt_pow_mono (n := 64) (by (first | assumption | omega)) (by decide))) | with_reducible refine wF_R1 T g.toGd ?_)
local macro_rules | `(tactic| walk_at "wp") => `(tactic| repeat (first | (refine wE_name gn ?_; (repeat (first | with_reducible refine wGt_z ?_ | with_reducible refine wGt_c ?_ | with_reducible refine wGt_s ?_ | with_reducible refine wGt_f ?_)); fail_if_success refine wGt_chk ?_) | refine wE_int ?_ | refine wE_bin ?_ | refine wE_sub ?_ | refine wE_cmp ?_ | refine wE_tup ?_ | refine wE_lst ?_ | refine wE_str ?_ | refine wE_bl ?_ | refine wE_non ?_ | refine wE_not ?_ | refine wE_and ?_ | refine wE_or ?_ | refine wE_one ?_ | refine wE_un ?_ | refine wE_if ?_ | with_reducible refine wB_add ?_ | with_reducible refine wB_sub ?_ | ((with_reducible refine wB_mulR ?qc ?_); (case qc => exact ⟨by (first | assumption | omega), by (first | assumption | omega)⟩)) | ((with_reducible refine wB_mulL ?qc ?_); (case qc => exact ⟨by (first | assumption | omega), by (first | assumption | omega)⟩)) | ((with_reducible refine wB_mod ?qc ?_); (case qc => (first | assumption | omega))) | ((with_reducible refine wB_fdivS ?qc ?_); (case qc => exact ⟨by (first | assumption | omega), by (first | assumption | omega)⟩)) | with_reducible refine wB_lt ?_ | with_reducible refine wB_le ?_ | with_reducible refine wB_gt ?_ | with_reducible refine wB_ge ?_ | with_reducible refine wB_eq ?_ | with_reducible refine wB_ne ?_ | with_reducible refine wB_eqT ?_ | with_reducible refine wB_neT ?_ | with_reducible refine wB_eqB ?_ | with_reducible refine wB_neB ?_ | with_reducible refine wB_is ?_ | with_reducible refine wB_isNot ?_ | with_reducible refine wU_neg ?_ | with_reducible refine wB_pow5 ?_ | with_reducible refine wB_pow6 ?_ | with_reducible refine wB_pow7 ?_ | with_reducible refine wB_pow8 ?_ | with_reducible refine wB_pow9 ?_ | with_reducible refine wB_pow18 ?_ | refine wA_cons ?_ | refine wA_nil ?_ | refine wG_tup g.calm ?_ | refine wGs_cons ?_ | refine wGs_nil ?_ | refine wG_name gn ?_ | with_reducible refine wPt_z ?_ | with_reducible refine wPt_c ?_ | with_reducible refine wPt_s ?_ | refine Exists.intro _ (And.intro rfl ?_) | refine And.intro (by (simp only [List.length_cons, List.length_nil]; decide)) ?_ | refine Exists.intro _ (Exists.intro _ (And.intro rfl ?_)) | refine Exists.intro _ (Exists.intro _ (Exists.intro _ (And.intro rfl ?_))) | refine Exists.intro _ (Exists.intro _ (Exists.intro _ (Exists.intro _ (And.intro rfl (And.intro rfl (And.intro (by (first | assumption | with_reducible exact at_last | with_reducible exact at_new rfl | with_reducible exact at_left (by assumption) | with_reducible exact List.getElem?_set_self (by assumption) | with_reducible exact at_left (at_left (by assumption)))) (And.intro rfl ?_))))))) | refine wC_cmp ?_ | refine wC_not ?_ | refine wC_bool ?_ | refine wCw_and ?_ | refine wCw_or ?_ | refine wCw_and1 ?_ | refine wCw_or1 ?_ | refine wC_val ?_ | refine wSs_cons ?_ | refine wSs_nil ?_ | (refine wS_set gn ?qa ?_; (case qa => exact ⟨_, by (repeat (first | with_reducible exact Ix.z | with_reducible exact Ix.c | with_reducible apply Ix.s))⟩)) | (refine wS_par g ?qa ?_; (case qa => exact ⟨_, _, by (repeat (first | with_reducible exact Il.z | with_reducible apply Il.s)), by (repeat (first | with_reducible exact Il.z | with_reducible apply Il.s)), by decide⟩)) | (refine wS_par3 g ?qa ?_; (case qa => exact ⟨_, _, _, by (repeat (first | with_reducible exact Il.z | with_reducible apply Il.s)), by (repeat (first | with_reducible exact Il.z | with_reducible apply Il.s)), by (repeat (first | with_reducible exact Il.z | with_reducible apply Il.s)), by decide, by decide, by decide⟩)) | refine wS_ret ?_ | refine wS_if ?_ | refine wS_expr ?_ | refine wS_ix ?_ | refine wS_asg ?_ | refine wS_pass ?_ | ((with_reducible refine chkC "len" ?_); refine xE_blt gn ?qa T.n_len boot_len ?_; (case qa => (repeat (first | with_reducible exact In.z | with_reducible apply In.s)))) | ((with_reducible refine chkC "int" ?_); refine xE_bcl gn ?qa T.n_int boot_int ?_; (case qa => (repeat (first | with_reducible exact In.z | with_reducible apply In.s)))) | ((with_reducible refine chkC "abs" ?_); refine xE_blt gn ?qa T.n_abs boot_abs ?_; (case qa => (repeat (first | with_reducible exact In.z | with_reducible apply In.s)))) | ((with_reducible refine chkC "max" ?_); refine xE_blt gn ?qa T.n_max boot_max ?_; (case qa => (repeat (first | with_reducible exact In.z | with_reducible apply In.s)))) | ((with_reducible refine chkC "min" ?_); refine xE_blt gn ?qa T.n_min boot_min ?_; (case qa => (repeat (first | with_reducible exact In.z | with_reducible apply In.s)))) | ((with_reducible refine chkC "str" ?_); refine xE_bcl gn ?qa T.n_str boot_str ?_; (case qa => (repeat (first | with_reducible exact In.z | with_reducible apply In.s)))) | ((with_reducible refine chkC "repr" ?_); refine xE_blt gn ?qa T.n_repr boot_repr ?_; (case qa => (repeat (first | with_reducible exact In.z | with_reducible apply In.s)))) | ((with_reducible refine chkC "isinstance" ?_); refine xE_blt gn ?qa T.n_isinstance boot_isinstance ?_; (case qa => (repeat (first | with_reducible exact In.z | with_reducible apply In.s)))) | ((with_reducible refine chkC "bool" ?_); refine xE_bcl gn ?qa T.n_bool boot_bool ?_; (case qa => (repeat (first | with_reducible exact In.z | with_reducible apply In.s)))) | ((with_reducible refine chkC "all" ?_); refine xE_blt gn ?qa T.n_all boot_all ?_; (case qa => (repeat (first | with_reducible exact In.z | with_reducible apply In.s)))) | ((with_reducible refine chkC "_law_box" ?_); refine xE_call T.f_w_box g ?qa T.g_w_box T.F_w_box.kp T.b_w_box ?_; (case qa => (repeat (first | with_reducible exact In.z | with_reducible apply In.s)))) | ((with_reducible refine chkC "_law_take" ?_); refine xE_call T.f_w_take g ?qa T.g_w_take T.F_w_take.kp T.b_w_take ?_; (case qa => (repeat (first | with_reducible exact In.z | with_reducible apply In.s)))) | ((with_reducible refine chkC "_law_lowest" ?_); refine xE_call T.f_w_lowest g ?qa T.g_w_lowest T.F_w_lowest.kp T.b_w_lowest ?_; (case qa => (repeat (first | with_reducible exact In.z | with_reducible apply In.s)))) | ((with_reducible refine chkC "_law_integer" ?_); refine xE_call T.f_w_integer g ?qa T.g_w_integer T.F_w_integer.kp T.b_w_integer ?_; (case qa => (repeat (first | with_reducible exact In.z | with_reducible apply In.s)))) | ((with_reducible refine chkC "_law_is" ?_); refine xE_call T.f_w_is g ?qa T.g_w_is T.F_w_is.kp T.b_w_is ?_; (case qa => (repeat (first | with_reducible exact In.z | with_reducible apply In.s)))) | ((with_reducible refine chkC "_law_text" ?_); refine xE_call T.f_w_text g ?qa T.g_w_text T.F_w_text.kp T.b_w_text ?_; (case qa => (repeat (first | with_reducible exact In.z | with_reducible apply In.s)))) | ((with_reducible refine chkC "_law_told_right" ?_); refine xE_call T.f_w_told_right g ?qa T.g_w_told_right T.F_w_told_right.kp T.b_w_told_right ?_; (case qa => (repeat (first | with_reducible exact In.z | with_reducible apply In.s)))) | ((with_reducible refine chkC "_law_refused" ?_); refine xE_call T.f_w_refused g ?qa T.g_w_refused T.F_w_refused.kp T.b_w_refused ?_; (case qa => (repeat (first | with_reducible exact In.z | with_reducible apply In.s)))) | (refine sp_take T (by (first | assumption | with_reducible exact at_last | with_reducible exact at_new rfl | with_reducible exact at_left (by assumption) | with_reducible exact List.getElem?_set_self (by assumption) | with_reducible exact at_left (at_left (by assumption)))) (by (first | assumption | omega)) (by (first | assumption | omega)) ?_; intro d h0 h1) | ((with_reducible refine chkB "len" ?_); refine wF_len (by (first | exact .inl rfl | exact .inr (.inl rfl) | exact .inr (.inr (.inl rfl)) | exact .inr (.inr (.inr ⟨_, rfl, by (first | assumption | with_reducible exact at_last | with_reducible exact at_new rfl | with_reducible exact at_left (by assumption) | with_reducible exact List.getElem?_set_self (by assumption) | with_reducible exact at_left (at_left (by assumption)))⟩)))) ?_) | with_reducible refine wF_intB ?_ | with_reducible refine wF_boolB ?_ | with_reducible refine wF_abs ?_ | with_reducible refine wF_max g.toGd ?_ | with_reducible refine wF_min g.toGd ?_ | refine wX_if2I (by (first | exact .inl rfl | exact .inr (.inl rfl) | exact .inr (.inr (.inl rfl)) | exact .inr (.inr (.inr ⟨_, rfl, by (first | assumption | with_reducible exact at_last | with_reducible exact at_new rfl | with_reducible exact at_left (by assumption) | with_reducible exact List.getElem?_set_self (by assumption) | with_reducible exact at_left (at_left (by assumption)))⟩)))) ?_ | refine wX_if2 (by (first | exact .inl rfl | exact .inr (.inl rfl) | exact .inr (.inr (.inl rfl)) | exact .inr (.inr (.inr ⟨_, rfl, by (first | assumption | with_reducible exact at_last | with_reducible exact at_new rfl | with_reducible exact at_left (by assumption) | with_reducible exact List.getElem?_set_self (by assumption) | with_reducible exact at_left (at_left (by assumption)))⟩)))) ?_ | refine wX_at (by (first | exact .inl rfl | exact .inr (.inl rfl) | exact .inr (.inr (.inl rfl)) | exact .inr (.inr (.inr ⟨_, rfl, by (first | assumption | with_reducible exact at_last | with_reducible exact at_new rfl | with_reducible exact at_left (by assumption) | with_reducible exact List.getElem?_set_self (by assumption) | with_reducible exact at_left (at_left (by assumption)))⟩)))) rfl ?_ | (refine wX_ints (by (first | exact .inl rfl | exact .inr (.inl rfl) | exact .inr (.inr (.inl rfl)) | exact .inr (.inr (.inr ⟨_, rfl, by (first | assumption | with_reducible exact at_last | with_reducible exact at_new rfl | with_reducible exact at_left (by assumption) | with_reducible exact List.getElem?_set_self (by assumption) | with_reducible exact at_left (at_left (by assumption)))⟩)))) (by (repeat (first | exact Ints.nil | apply Ints.cons))) (by (first | assumption | omega)) (by (simp only [List.length_cons, List.length_nil]; omega)) ?_; intro v hv; simp only [List.mem_cons, List.not_mem_nil, or_false] at hv) | ((with_reducible refine chkN "int" ?_); refine xE_bty gn ?qa T.n_int boot_int ?_; (case qa => (repeat (first | with_reducible exact In.z | with_reducible apply In.s)))) | ((with_reducible refine chkN "bool" ?_); refine xE_bty gn ?qa T.n_bool boot_bool ?_; (case qa => (repeat (first | with_reducible exact In.z | with_reducible apply In.s)))) | ((with_reducible refine chkN "str" ?_); refine xE_bty gn ?qa T.n_str boot_str ?_; (case qa => (repeat (first | with_reducible exact In.z | with_reducible apply In.s)))) | ((with_reducible refine chkN "PoolError" ?_); refine xE_cls gn ?qa T.g_PoolError ?_; (case qa => (repeat (first | with_reducible exact In.z | with_reducible apply In.s)))) | ((with_reducible refine chkN "InvalidNumber" ?_); refine xE_cls gn ?qa T.g_InvalidNumber ?_; (case qa => (repeat (first | with_reducible exact In.z | with_reducible apply In.s)))) | ((with_reducible refine chkN "Ratio" ?_); refine xE_cls gn ?qa T.g_Ratio ?_; (case qa => (repeat (first | with_reducible exact In.z | with_reducible apply In.s)))) | ((with_reducible refine chkC "Ratio" ?_); refine xE_make gn ?qa T.g_Ratio T.mk_Ratio.kp ?_; (case qa => (repeat (first | with_reducible exact In.z | with_reducible apply In.s)))) | ((with_reducible refine chkA "top" ?_); refine wE_top T ?_) | ((with_reducible refine chkA "bottom" ?_); refine wE_bot T ?_) | ((with_reducible refine wF_isRt ?qc ?_); (case qc => exact T.own_Ratio)) | with_reducible refine wF_isII ?_ | with_reducible refine wF_isIB ?_ | with_reducible refine wF_isBB ?_ | ((with_reducible refine wF_R2 T g.toGd ?qc1 ?qc2 ?_); (case qc1 => (first | assumption | omega)); (case qc2 => exact lt_pow_mono (n := 64) (by (first | assumption | omega)) (by decide))) | with_reducible refine wF_R1 T g.toGd ?_))
local macro_rules | `(tactic| walk_at "s1") => `(tactic| (refine wSs_cons ?_; repeat (first | (refine wE_name gn ?_; (repeat (first | with_reducible refine wGt_z ?_ | with_reducible refine wGt_c ?_ | with_reducible refine wGt_s ?_ | with_reducible refine wGt_f ?_)); fail_if_success refine wGt_chk ?_) | refine wE_int ?_ | refine wE_bin ?_ | refine wE_sub ?_ | refine wE_cmp ?_ | refine wE_tup ?_ | refine wE_lst ?_ | refine wE_str ?_ | refine wE_bl ?_ | refine wE_non ?_ | refine wE_not ?_ | refine wE_and ?_ | refine wE_or ?_ | refine wE_one ?_ | refine wE_un ?_ | refine wE_if ?_ | with_reducible refine wB_add ?_ | with_reducible refine wB_sub ?_ | ((with_reducible refine wB_mulR ?qc ?_); (case qc => exact ⟨by (first | assumption | omega), by (first | assumption | omega)⟩)) | ((with_reducible refine wB_mulL ?qc ?_); (case qc => exact ⟨by (first | assumption | omega), by (first | assumption | omega)⟩)) | ((with_reducible refine wB_mod ?qc ?_); (case qc => (first | assumption | omega))) | ((with_reducible refine wB_fdivS ?qc ?_); (case qc => exact ⟨by (first | assumption | omega), by (first | assumption | omega)⟩)) | with_reducible refine wB_lt ?_ | with_reducible refine wB_le ?_ | with_reducible refine wB_gt ?_ | with_reducible refine wB_ge ?_ | with_reducible refine wB_eq ?_ | with_reducible refine wB_ne ?_ | with_reducible refine wB_eqT ?_ | with_reducible refine wB_neT ?_ | with_reducible refine wB_eqB ?_ | with_reducible refine wB_neB ?_ | with_reducible refine wB_is ?_ | with_reducible refine wB_isNot ?_ | with_reducible refine wU_neg ?_ | with_reducible refine wB_pow5 ?_ | with_reducible refine wB_pow6 ?_ | with_reducible refine wB_pow7 ?_ | with_reducible refine wB_pow8 ?_ | with_reducible refine wB_pow9 ?_ | with_reducible refine wB_pow18 ?_ | refine wA_cons ?_ | refine wA_nil ?_ | refine wG_tup g.calm ?_ | refine wGs_cons ?_ | refine wGs_nil ?_ | refine wG_name gn ?_ | with_reducible refine wPt_z ?_ | with_reducible refine wPt_c ?_ | with_reducible refine wPt_s ?_ | refine Exists.intro _ (And.intro rfl ?_) | refine And.intro (by (simp only [List.length_cons, List.length_nil]; decide)) ?_ | refine Exists.intro _ (Exists.intro _ (And.intro rfl ?_)) | refine Exists.intro _ (Exists.intro _ (Exists.intro _ (And.intro rfl ?_))) | refine Exists.intro _ (Exists.intro _ (Exists.intro _ (Exists.intro _ (And.intro rfl (And.intro rfl (And.intro (by (first | assumption | with_reducible exact at_last | with_reducible exact at_new rfl | with_reducible exact at_left (by assumption) | with_reducible exact List.getElem?_set_self (by assumption) | with_reducible exact at_left (at_left (by assumption)))) (And.intro rfl ?_))))))) | refine wC_cmp ?_ | refine wC_not ?_ | refine wC_bool ?_ | refine wCw_and ?_ | refine wCw_or ?_ | refine wCw_and1 ?_ | refine wCw_or1 ?_ | refine wC_val ?_ | refine wSs_nil ?_ | (refine wS_set gn ?qa ?_; (case qa => exact ⟨_, by (repeat (first | with_reducible exact Ix.z | with_reducible exact Ix.c | with_reducible apply Ix.s))⟩)) | (refine wS_par g ?qa ?_; (case qa => exact ⟨_, _, by (repeat (first | with_reducible exact Il.z | with_reducible apply Il.s)), by (repeat (first | with_reducible exact Il.z | with_reducible apply Il.s)), by decide⟩)) | (refine wS_par3 g ?qa ?_; (case qa => exact ⟨_, _, _, by (repeat (first | with_reducible exact Il.z | with_reducible apply Il.s)), by (repeat (first | with_reducible exact Il.z | with_reducible apply Il.s)), by (repeat (first | with_reducible exact Il.z | with_reducible apply Il.s)), by decide, by decide, by decide⟩)) | refine wS_ret ?_ | refine wS_if ?_ | refine wS_expr ?_ | refine wS_ix ?_ | refine wS_asg ?_ | refine wS_pass ?_ | ((with_reducible refine chkC "len" ?_); refine xE_blt gn ?qa T.n_len boot_len ?_; (case qa => (repeat (first | with_reducible exact In.z | with_reducible apply In.s)))) | ((with_reducible refine chkC "int" ?_); refine xE_bcl gn ?qa T.n_int boot_int ?_; (case qa => (repeat (first | with_reducible exact In.z | with_reducible apply In.s)))) | ((with_reducible refine chkC "abs" ?_); refine xE_blt gn ?qa T.n_abs boot_abs ?_; (case qa => (repeat (first | with_reducible exact In.z | with_reducible apply In.s)))) | ((with_reducible refine chkC "max" ?_); refine xE_blt gn ?qa T.n_max boot_max ?_; (case qa => (repeat (first | with_reducible exact In.z | with_reducible apply In.s)))) | ((with_reducible refine chkC "min" ?_); refine xE_blt gn ?qa T.n_min boot_min ?_; (case qa => (repeat (first | with_reducible exact In.z | with_reducible apply In.s)))) | ((with_reducible refine chkC "str" ?_); refine xE_bcl gn ?qa T.n_str boot_str ?_; (case qa => (repeat (first | with_reducible exact In.z | with_reducible apply In.s)))) | ((with_reducible refine chkC "repr" ?_); refine xE_blt gn ?qa T.n_repr boot_repr ?_; (case qa => (repeat (first | with_reducible exact In.z | with_reducible apply In.s)))) | ((with_reducible refine chkC "isinstance" ?_); refine xE_blt gn ?qa T.n_isinstance boot_isinstance ?_; (case qa => (repeat (first | with_reducible exact In.z | with_reducible apply In.s)))) | ((with_reducible refine chkC "bool" ?_); refine xE_bcl gn ?qa T.n_bool boot_bool ?_; (case qa => (repeat (first | with_reducible exact In.z | with_reducible apply In.s)))) | ((with_reducible refine chkC "all" ?_); refine xE_blt gn ?qa T.n_all boot_all ?_; (case qa => (repeat (first | with_reducible exact In.z | with_reducible apply In.s)))) | ((with_reducible refine chkC "_law_box" ?_); refine xE_call T.f_w_box g ?qa T.g_w_box T.F_w_box.kp T.b_w_box ?_; (case qa => (repeat (first | with_reducible exact In.z | with_reducible apply In.s)))) | ((with_reducible refine chkC "_law_take" ?_); refine xE_call T.f_w_take g ?qa T.g_w_take T.F_w_take.kp T.b_w_take ?_; (case qa => (repeat (first | with_reducible exact In.z | with_reducible apply In.s)))) | ((with_reducible refine chkC "_law_lowest" ?_); refine xE_call T.f_w_lowest g ?qa T.g_w_lowest T.F_w_lowest.kp T.b_w_lowest ?_; (case qa => (repeat (first | with_reducible exact In.z | with_reducible apply In.s)))) | ((with_reducible refine chkC "_law_integer" ?_); refine xE_call T.f_w_integer g ?qa T.g_w_integer T.F_w_integer.kp T.b_w_integer ?_; (case qa => (repeat (first | with_reducible exact In.z | with_reducible apply In.s)))) | ((with_reducible refine chkC "_law_is" ?_); refine xE_call T.f_w_is g ?qa T.g_w_is T.F_w_is.kp T.b_w_is ?_; (case qa => (repeat (first | with_reducible exact In.z | with_reducible apply In.s)))) | ((with_reducible refine chkC "_law_text" ?_); refine xE_call T.f_w_text g ?qa T.g_w_text T.F_w_text.kp T.b_w_text ?_; (case qa => (repeat (first | with_reducible exact In.z | with_reducible apply In.s)))) | ((with_reducible refine chkC "_law_told_right" ?_); refine xE_call T.f_w_told_right g ?qa T.g_w_told_right T.F_w_told_right.kp T.b_w_told_right ?_; (case qa => (repeat (first | with_reducible exact In.z | with_reducible apply In.s)))) | ((with_reducible refine chkC "_law_refused" ?_); refine xE_call T.f_w_refused g ?qa T.g_w_refused T.F_w_refused.kp T.b_w_refused ?_; (case qa => (repeat (first | with_reducible exact In.z | with_reducible apply In.s)))) | (refine sp_take T (by (first | assumption | with_reducible exact at_last | with_reducible exact at_new rfl | with_reducible exact at_left (by assumption) | with_reducible exact List.getElem?_set_self (by assumption) | with_reducible exact at_left (at_left (by assumption)))) (by (first | assumption | omega)) (by (first | assumption | omega)) ?_; intro d h0 h1) | ((with_reducible refine chkB "len" ?_); refine wF_len (by (first | exact .inl rfl | exact .inr (.inl rfl) | exact .inr (.inr (.inl rfl)) | exact .inr (.inr (.inr ⟨_, rfl, by (first | assumption | with_reducible exact at_last | with_reducible exact at_new rfl | with_reducible exact at_left (by assumption) | with_reducible exact List.getElem?_set_self (by assumption) | with_reducible exact at_left (at_left (by assumption)))⟩)))) ?_) | with_reducible refine wF_intB ?_ | with_reducible refine wF_boolB ?_ | with_reducible refine wF_abs ?_ | with_reducible refine wF_max g.toGd ?_ | with_reducible refine wF_min g.toGd ?_ | refine wX_if2I (by (first | exact .inl rfl | exact .inr (.inl rfl) | exact .inr (.inr (.inl rfl)) | exact .inr (.inr (.inr ⟨_, rfl, by (first | assumption | with_reducible exact at_last | with_reducible exact at_new rfl | with_reducible exact at_left (by assumption) | with_reducible exact List.getElem?_set_self (by assumption) | with_reducible exact at_left (at_left (by assumption)))⟩)))) ?_ | refine wX_if2 (by (first | exact .inl rfl | exact .inr (.inl rfl) | exact .inr (.inr (.inl rfl)) | exact .inr (.inr (.inr ⟨_, rfl, by (first | assumption | with_reducible exact at_last | with_reducible exact at_new rfl | with_reducible exact at_left (by assumption) | with_reducible exact List.getElem?_set_self (by assumption) | with_reducible exact at_left (at_left (by assumption)))⟩)))) ?_ | refine wX_at (by (first | exact .inl rfl | exact .inr (.inl rfl) | exact .inr (.inr (.inl rfl)) | exact .inr (.inr (.inr ⟨_, rfl, by (first | assumption | with_reducible exact at_last | with_reducible exact at_new rfl | with_reducible exact at_left (by assumption) | with_reducible exact List.getElem?_set_self (by assumption) | with_reducible exact at_left (at_left (by assumption)))⟩)))) rfl ?_ | (refine wX_ints (by (first | exact .inl rfl | exact .inr (.inl rfl) | exact .inr (.inr (.inl rfl)) | exact .inr (.inr (.inr ⟨_, rfl, by (first | assumption | with_reducible exact at_last | with_reducible exact at_new rfl | with_reducible exact at_left (by assumption) | with_reducible exact List.getElem?_set_self (by assumption) | with_reducible exact at_left (at_left (by assumption)))⟩)))) (by (repeat (first | exact Ints.nil | apply Ints.cons))) (by (first | assumption | omega)) (by (simp only [List.length_cons, List.length_nil]; omega)) ?_; intro v hv; simp only [List.mem_cons, List.not_mem_nil, or_false] at hv) | ((with_reducible refine chkN "int" ?_); refine xE_bty gn ?qa T.n_int boot_int ?_; (case qa => (repeat (first | with_reducible exact In.z | with_reducible apply In.s)))) | ((with_reducible refine chkN "bool" ?_); refine xE_bty gn ?qa T.n_bool boot_bool ?_; (case qa => (repeat (first | with_reducible exact In.z | with_reducible apply In.s)))) | ((with_reducible refine chkN "str" ?_); refine xE_bty gn ?qa T.n_str boot_str ?_; (case qa => (repeat (first | with_reducible exact In.z | with_reducible apply In.s)))) | ((with_reducible refine chkN "PoolError" ?_); refine xE_cls gn ?qa T.g_PoolError ?_; (case qa => (repeat (first | with_reducible exact In.z | with_reducible apply In.s)))) | ((with_reducible refine chkN "InvalidNumber" ?_); refine xE_cls gn ?qa T.g_InvalidNumber ?_; (case qa => (repeat (first | with_reducible exact In.z | with_reducible apply In.s)))) | ((with_reducible refine chkN "Ratio" ?_); refine xE_cls gn ?qa T.g_Ratio ?_; (case qa => (repeat (first | with_reducible exact In.z | with_reducible apply In.s)))) | ((with_reducible refine chkC "Ratio" ?_); refine xE_make gn ?qa T.g_Ratio T.mk_Ratio.kp ?_; (case qa => (repeat (first | with_reducible exact In.z | with_reducible apply In.s)))) | ((with_reducible refine chkA "top" ?_); refine wE_top T ?_) | ((with_reducible refine chkA "bottom" ?_); refine wE_bot T ?_) | ((with_reducible refine wF_isRt ?qc ?_); (case qc => exact T.own_Ratio)) | with_reducible refine wF_isII ?_ | with_reducible refine wF_isIB ?_ | with_reducible refine wF_isBB ?_ | ((with_reducible refine wF_R2 T g.toGd ?qc1 ?qc2 ?_); (case qc1 => (first | assumption | omega)); (case qc2 => exact lt_pow_mono (n := 64) (by (first | assumption | omega)) (by decide))) | with_reducible refine wF_R1 T g.toGd ?_)))
local macro_rules | `(tactic| walk_at "e") => `(tactic| repeat (first | (refine wE_name gn ?_; (repeat (first | with_reducible refine wGt_z ?_ | with_reducible refine wGt_c ?_ | with_reducible refine wGt_s ?_ | with_reducible refine wGt_f ?_)); fail_if_success refine wGt_chk ?_) | refine wE_int ?_ | refine wE_bin ?_ | refine wE_sub ?_ | refine wE_cmp ?_ | refine wE_tup ?_ | refine wE_lst ?_ | refine wE_str ?_ | refine wE_bl ?_ | refine wE_non ?_ | refine wE_not ?_ | refine wE_and ?_ | refine wE_or ?_ | refine wE_one ?_ | refine wE_un ?_ | refine wE_if ?_ | with_reducible refine wB_add ?_ | with_reducible refine wB_sub ?_ | ((with_reducible refine wB_mulR ?qc ?_); (case qc => exact ⟨by (first | assumption | omega), by (first | assumption | omega)⟩)) | ((with_reducible refine wB_mulL ?qc ?_); (case qc => exact ⟨by (first | assumption | omega), by (first | assumption | omega)⟩)) | ((with_reducible refine wB_mod ?qc ?_); (case qc => (first | assumption | omega))) | ((with_reducible refine wB_fdivS ?qc ?_); (case qc => exact ⟨by (first | assumption | omega), by (first | assumption | omega)⟩)) | with_reducible refine wB_lt ?_ | with_reducible refine wB_le ?_ | with_reducible refine wB_gt ?_ | with_reducible refine wB_ge ?_ | with_reducible refine wB_eq ?_ | with_reducible refine wB_ne ?_ | with_reducible refine wB_eqT ?_ | with_reducible refine wB_neT ?_ | with_reducible refine wB_eqB ?_ | with_reducible refine wB_neB ?_ | with_reducible refine wB_is ?_ | with_reducible refine wB_isNot ?_ | with_reducible refine wU_neg ?_ | with_reducible refine wB_pow5 ?_ | with_reducible refine wB_pow6 ?_ | with_reducible refine wB_pow7 ?_ | with_reducible refine wB_pow8 ?_ | with_reducible refine wB_pow9 ?_ | with_reducible refine wB_pow18 ?_ | refine wA_cons ?_ | refine wA_nil ?_ | refine wG_tup g.calm ?_ | refine wGs_cons ?_ | refine wGs_nil ?_ | refine wG_name gn ?_ | with_reducible refine wPt_z ?_ | with_reducible refine wPt_c ?_ | with_reducible refine wPt_s ?_ | refine Exists.intro _ (And.intro rfl ?_) | refine And.intro (by (simp only [List.length_cons, List.length_nil]; decide)) ?_ | refine Exists.intro _ (Exists.intro _ (And.intro rfl ?_)) | refine Exists.intro _ (Exists.intro _ (Exists.intro _ (And.intro rfl ?_))) | refine Exists.intro _ (Exists.intro _ (Exists.intro _ (Exists.intro _ (And.intro rfl (And.intro rfl (And.intro (by (first | assumption | with_reducible exact at_last | with_reducible exact at_new rfl | with_reducible exact at_left (by assumption) | with_reducible exact List.getElem?_set_self (by assumption) | with_reducible exact at_left (at_left (by assumption)))) (And.intro rfl ?_))))))) | refine wC_cmp ?_ | refine wC_not ?_ | refine wC_bool ?_ | refine wCw_and ?_ | refine wCw_or ?_ | refine wCw_and1 ?_ | refine wCw_or1 ?_ | refine wC_val ?_ | ((with_reducible refine chkC "len" ?_); refine xE_blt gn ?qa T.n_len boot_len ?_; (case qa => (repeat (first | with_reducible exact In.z | with_reducible apply In.s)))) | ((with_reducible refine chkC "int" ?_); refine xE_bcl gn ?qa T.n_int boot_int ?_; (case qa => (repeat (first | with_reducible exact In.z | with_reducible apply In.s)))) | ((with_reducible refine chkC "abs" ?_); refine xE_blt gn ?qa T.n_abs boot_abs ?_; (case qa => (repeat (first | with_reducible exact In.z | with_reducible apply In.s)))) | ((with_reducible refine chkC "max" ?_); refine xE_blt gn ?qa T.n_max boot_max ?_; (case qa => (repeat (first | with_reducible exact In.z | with_reducible apply In.s)))) | ((with_reducible refine chkC "min" ?_); refine xE_blt gn ?qa T.n_min boot_min ?_; (case qa => (repeat (first | with_reducible exact In.z | with_reducible apply In.s)))) | ((with_reducible refine chkC "str" ?_); refine xE_bcl gn ?qa T.n_str boot_str ?_; (case qa => (repeat (first | with_reducible exact In.z | with_reducible apply In.s)))) | ((with_reducible refine chkC "repr" ?_); refine xE_blt gn ?qa T.n_repr boot_repr ?_; (case qa => (repeat (first | with_reducible exact In.z | with_reducible apply In.s)))) | ((with_reducible refine chkC "isinstance" ?_); refine xE_blt gn ?qa T.n_isinstance boot_isinstance ?_; (case qa => (repeat (first | with_reducible exact In.z | with_reducible apply In.s)))) | ((with_reducible refine chkC "bool" ?_); refine xE_bcl gn ?qa T.n_bool boot_bool ?_; (case qa => (repeat (first | with_reducible exact In.z | with_reducible apply In.s)))) | ((with_reducible refine chkC "all" ?_); refine xE_blt gn ?qa T.n_all boot_all ?_; (case qa => (repeat (first | with_reducible exact In.z | with_reducible apply In.s)))) | ((with_reducible refine chkC "_law_box" ?_); refine xE_call T.f_w_box g ?qa T.g_w_box T.F_w_box.kp T.b_w_box ?_; (case qa => (repeat (first | with_reducible exact In.z | with_reducible apply In.s)))) | ((with_reducible refine chkC "_law_take" ?_); refine xE_call T.f_w_take g ?qa T.g_w_take T.F_w_take.kp T.b_w_take ?_; (case qa => (repeat (first | with_reducible exact In.z | with_reducible apply In.s)))) | ((with_reducible refine chkC "_law_lowest" ?_); refine xE_call T.f_w_lowest g ?qa T.g_w_lowest T.F_w_lowest.kp T.b_w_lowest ?_; (case qa => (repeat (first | with_reducible exact In.z | with_reducible apply In.s)))) | ((with_reducible refine chkC "_law_integer" ?_); refine xE_call T.f_w_integer g ?qa T.g_w_integer T.F_w_integer.kp T.b_w_integer ?_; (case qa => (repeat (first | with_reducible exact In.z | with_reducible apply In.s)))) | ((with_reducible refine chkC "_law_is" ?_); refine xE_call T.f_w_is g ?qa T.g_w_is T.F_w_is.kp T.b_w_is ?_; (case qa => (repeat (first | with_reducible exact In.z | with_reducible apply In.s)))) | ((with_reducible refine chkC "_law_text" ?_); refine xE_call T.f_w_text g ?qa T.g_w_text T.F_w_text.kp T.b_w_text ?_; (case qa => (repeat (first | with_reducible exact In.z | with_reducible apply In.s)))) | ((with_reducible refine chkC "_law_told_right" ?_); refine xE_call T.f_w_told_right g ?qa T.g_w_told_right T.F_w_told_right.kp T.b_w_told_right ?_; (case qa => (repeat (first | with_reducible exact In.z | with_reducible apply In.s)))) | ((with_reducible refine chkC "_law_refused" ?_); refine xE_call T.f_w_refused g ?qa T.g_w_refused T.F_w_refused.kp T.b_w_refused ?_; (case qa => (repeat (first | with_reducible exact In.z | with_reducible apply In.s)))) | (refine sp_take T (by (first | assumption | with_reducible exact at_last | with_reducible exact at_new rfl | with_reducible exact at_left (by assumption) | with_reducible exact List.getElem?_set_self (by assumption) | with_reducible exact at_left (at_left (by assumption)))) (by (first | assumption | omega)) (by (first | assumption | omega)) ?_; intro d h0 h1) | ((with_reducible refine chkB "len" ?_); refine wF_len (by (first | exact .inl rfl | exact .inr (.inl rfl) | exact .inr (.inr (.inl rfl)) | exact .inr (.inr (.inr ⟨_, rfl, by (first | assumption | with_reducible exact at_last | with_reducible exact at_new rfl | with_reducible exact at_left (by assumption) | with_reducible exact List.getElem?_set_self (by assumption) | with_reducible exact at_left (at_left (by assumption)))⟩)))) ?_) | with_reducible refine wF_intB ?_ | with_reducible refine wF_boolB ?_ | with_reducible refine wF_abs ?_ | with_reducible refine wF_max g.toGd ?_ | with_reducible refine wF_min g.toGd ?_ | refine wX_if2I (by (first | exact .inl rfl | exact .inr (.inl rfl) | exact .inr (.inr (.inl rfl)) | exact .inr (.inr (.inr ⟨_, rfl, by (first | assumption | with_reducible exact at_last | with_reducible exact at_new rfl | with_reducible exact at_left (by assumption) | with_reducible exact List.getElem?_set_self (by assumption) | with_reducible exact at_left (at_left (by assumption)))⟩)))) ?_ | refine wX_if2 (by (first | exact .inl rfl | exact .inr (.inl rfl) | exact .inr (.inr (.inl rfl)) | exact .inr (.inr (.inr ⟨_, rfl, by (first | assumption | with_reducible exact at_last | with_reducible exact at_new rfl | with_reducible exact at_left (by assumption) | with_reducible exact List.getElem?_set_self (by assumption) | with_reducible exact at_left (at_left (by assumption)))⟩)))) ?_ | refine wX_at (by (first | exact .inl rfl | exact .inr (.inl rfl) | exact .inr (.inr (.inl rfl)) | exact .inr (.inr (.inr ⟨_, rfl, by (first | assumption | with_reducible exact at_last | with_reducible exact at_new rfl | with_reducible exact at_left (by assumption) | with_reducible exact List.getElem?_set_self (by assumption) | with_reducible exact at_left (at_left (by assumption)))⟩)))) rfl ?_ | (refine wX_ints (by (first | exact .inl rfl | exact .inr (.inl rfl) | exact .inr (.inr (.inl rfl)) | exact .inr (.inr (.inr ⟨_, rfl, by (first | assumption | with_reducible exact at_last | with_reducible exact at_new rfl | with_reducible exact at_left (by assumption) | with_reducible exact List.getElem?_set_self (by assumption) | with_reducible exact at_left (at_left (by assumption)))⟩)))) (by (repeat (first | exact Ints.nil | apply Ints.cons))) (by (first | assumption | omega)) (by (simp only [List.length_cons, List.length_nil]; omega)) ?_; intro v hv; simp only [List.mem_cons, List.not_mem_nil, or_false] at hv) | ((with_reducible refine chkN "int" ?_); refine xE_bty gn ?qa T.n_int boot_int ?_; (case qa => (repeat (first | with_reducible exact In.z | with_reducible apply In.s)))) | ((with_reducible refine chkN "bool" ?_); refine xE_bty gn ?qa T.n_bool boot_bool ?_; (case qa => (repeat (first | with_reducible exact In.z | with_reducible apply In.s)))) | ((with_reducible refine chkN "str" ?_); refine xE_bty gn ?qa T.n_str boot_str ?_; (case qa => (repeat (first | with_reducible exact In.z | with_reducible apply In.s)))) | ((with_reducible refine chkN "PoolError" ?_); refine xE_cls gn ?qa T.g_PoolError ?_; (case qa => (repeat (first | with_reducible exact In.z | with_reducible apply In.s)))) | ((with_reducible refine chkN "InvalidNumber" ?_); refine xE_cls gn ?qa T.g_InvalidNumber ?_; (case qa => (repeat (first | with_reducible exact In.z | with_reducible apply In.s)))) | ((with_reducible refine chkN "Ratio" ?_); refine xE_cls gn ?qa T.g_Ratio ?_; (case qa => (repeat (first | with_reducible exact In.z | with_reducible apply In.s)))) | ((with_reducible refine chkC "Ratio" ?_); refine xE_make gn ?qa T.g_Ratio T.mk_Ratio.kp ?_; (case qa => (repeat (first | with_reducible exact In.z | with_reducible apply In.s)))) | ((with_reducible refine chkA "top" ?_); refine wE_top T ?_) | ((with_reducible refine chkA "bottom" ?_); refine wE_bot T ?_) | ((with_reducible refine wF_isRt ?qc ?_); (case qc => exact T.own_Ratio)) | with_reducible refine wF_isII ?_ | with_reducible refine wF_isIB ?_ | with_reducible refine wF_isBB ?_ | ((with_reducible refine wF_R2 T g.toGd ?qc1 ?qc2 ?_); (case qc1 => (first | assumption | omega)); (case qc2 => exact lt_pow_mono (n := 64) (by (first | assumption | omega)) (by decide))) | with_reducible refine wF_R1 T g.toGd ?_))
local macro_rules | `(tactic| walk_at "start") => `(tactic| (intro ρ hρ cdv A outer s H E g; simp only [startD, List.map_cons, List.map_nil, List.length_cons, List.length_nil, List.replicate_succ, List.replicate_zero, List.cons_append, List.nil_append, Nat.reduceAdd, Nat.reduceSub] at hρ; subst hρ; have gn := g.toNx'))
local macro_rules | `(tactic| walk_at "suite") => `(tactic| (intro a dd oe pn hz hv gn ρs hρ; simp only [List.set_cons_succ, List.set_cons_zero] at hρ; subst hρ))
local macro_rules | `(tactic| walk_at "after") => `(tactic| (intro ρs hρ; simp only [List.set_cons_succ, List.set_cons_zero] at hρ; subst hρ))
local macro_rules | `(tactic| walk_at "blk") => `(tactic| (intro s H C cl fp g; have gn := g.toNx'))
section
variable {P : Program} {w : World} {K : PySem.W.Frag} {mg : Str → Option Value} {base : Heap} (T : Tx K mg)
theorem kb_init : KwB K T.fd_Ratio_init ["self", "top", "bottom"] 1 ["bottom", "top"] (0 :: [1, 0].map (· + 1)) where
  to := by
    obtain ⟨oc, od, dV, kV, doc, pm, an, cdv, ct, osl, e, look, hcode, hD, _⟩ := T.F_Ratio_init.ex
    rcases hD with ⟨e0, _⟩ | ⟨_, TT, o, its, m, rfl, lT, oT, rT⟩
    · cases e0
    · intro s us ws X h1 h2
      obtain ⟨u, rfl, _⟩ := rT.one
      rw [e]
      match us, ws, h1, h2 with
      | [_], [_, _], _, _ => exact BindsTo.of_looks fun M => looks_items (M := M) X lT oT (.of_pure rfl)
  le := by decide
theorem kb_of : KwB K T.fd_Ratio_of ["cls", "value"] 1 ["value"] [0, 1] where
  to := by
    obtain ⟨oc, od, dV, kV, doc, pm, an, cdv, ct, osl, e, look, hcode, hD, _⟩ := T.F_Ratio_of.ex
    rcases hD with ⟨_, rfl⟩ | ⟨z, _⟩
    · intro s us ws _ h1 h2
      rw [e]
      match us, ws, h1, h2 with
      | [_], [_], _, _ => exact .of_eq rfl
    · exact (z rfl).elim
  le := by decide
theorem sp_as {μ : List M} {d : D} {q : Rat} {Q : KV} {Z : KX} (hd : Num T.C_Ratio d q) (h : Q (rt T.C_Ratio q) μ) : SpF P w K mg base T.f_as_ratio [d] μ Q Z := SpF.ofR (ok_as_ratio T) ⟨d, rfl, .inl ⟨q, hd, rfl⟩⟩ h
theorem sp_asX {μ : List M} {d : D} {Q : KV} {Z : KX} (hd : Kn K T.C_Ratio d false) (h : Z T.C_InvalidNumber ["value"] [d] μ) : SpF P w K mg base T.f_as_ratio [d] μ Q Z := SpF.ofR (ok_as_ratio T) ⟨d, rfl, .inr ⟨hd, rfl⟩⟩ h
/-- Ratio.of -/
theorem sp_of {μ : List M} {d c : D} {q : Rat} {Q : KV} {Z : KX} (hd : Num T.C_Ratio d q) (h : Q (rt T.C_Ratio q) μ) : SpF P w K mg base T.f_Ratio_of [c, d] μ Q Z := by
  refine spX_of T.F_Ratio_of sc_Ratio_of ck_Ratio_of rfl ?_
  walk_at "start"
  refine wSs_cons (wS_ret (xE_call T.f_as_ratio g (by walk_at "in") T.g_as_ratio T.F_as_ratio.kp T.b_as_ratio ?_))
  walk_at "e"
  refine sp_as T hd ?_
  rw [List.append_nil]
  exact .same h
theorem sp_ofX {μ : List M} {d c : D} {Q : KV} {Z : KX} (hd : Kn K T.C_Ratio d false) (h : Z T.C_InvalidNumber ["value"] [d] μ) : SpF P w K mg base T.f_Ratio_of [c, d] μ Q Z := by
  refine spX_of T.F_Ratio_of sc_Ratio_of ck_Ratio_of rfl ?_
  walk_at "start"
  refine wSs_cons (wS_ret (xE_call T.f_as_ratio g (by walk_at "in") T.g_as_ratio T.F_as_ratio.kp T.b_as_ratio ?_))
  walk_at "e"
  refine sp_asX T hd ?_
  show ExcOk _ _ _ _ _ _
  rw [List.append_nil]
  exact .same h
theorem sp_refused {μ : List M} {d : D} {i : Int} {y : D} {Q : KV} {Z : KX} (hd : (i = 0 ∧ (∃ t, d = .int t) ∧ y = .int 0) ∨ (i = 1 ∧ (∃ t, d = .int t) ∧ y = .int 0) ∨ (i = 2 ∧ Kn K T.C_Ratio d false ∧ y = d)) (h : Q (.tup [y]) μ) : SpF P w K mg base T.f_w_refused [d, .int i] μ Q Z := by
  refine spX_of T.F_w_refused sc_w_refused ck_w_refused rfl ?_
  walk_at "start"
  walk_at "s1"
  have gn0 := gn
  have g0 := g
  refine wSs_cons (wS_try (C := T.C_InvalidNumber) (i := 3) g (by walk_at "il") ⟨rfl, by decide, .inl T.g_InvalidNumber⟩ ?_)
  intro W' pn xe g
  have gn := g.toNx'
  have yes : PySem.W.exmOne K (.ref T.C_InvalidNumber) (.ref T.C_InvalidNumber) = some true := T.xm_InvalidNumber
  rcases hd with ⟨rfl, ⟨t, rfl⟩, rfl⟩ | ⟨rfl, ⟨t, rfl⟩, rfl⟩ | ⟨rfl, kn, rfl⟩
  · walk_at "s1"
    refine br_T rfl ?_
    walk_at "s1"
    refine wF_R20 T g.toGd ?_
    refine Or.inr ⟨yes, by decide, ?_⟩
    walk_at "suite"
    walk_at "s1"
    refine wE_xf T.xf_InvalidNumber T.na_InvalidNumber_value hz hv ?_
    walk_at "e"
    refine ⟨_, _, _, rfl, rfl, ?_⟩
    walk_at "e"
    refine wSs_nil ?_
    walk_at "after"
    have gn := gn0
    walk_at "wp"
    rw [List.append_nil]
    exact .same h
  · walk_at "s1"
    refine br_F rfl ?_
    walk_at "s1"
    refine br_T rfl ?_
    refine wSs_cons (wS_expr (xE_makeK (f := T.f_Ratio_init) (q := [1, 0]) g (by walk_at "in") T.g_Ratio T.mk_Ratio (kb_init T) (ok_Ratio_init T) ?_))
    refine wK_cons ?_
    walk_at "e"
    refine wK_cons ?_
    walk_at "e"
    refine wK_nil ⟨rfl, _, mkR0 T, ?_⟩
    show _ ∨ _
    refine Or.inr ⟨yes, by decide, ?_⟩
    walk_at "suite"
    walk_at "s1"
    refine wE_xf T.xf_InvalidNumber T.na_InvalidNumber_value hz hv ?_
    walk_at "e"
    refine ⟨_, _, _, rfl, rfl, ?_⟩
    walk_at "e"
    refine wSs_nil ?_
    walk_at "after"
    have gn := gn0
    walk_at "wp"
    rw [List.append_nil]
    exact .same h
  · walk_at "s1"
    refine br_F rfl ?_
    walk_at "s1"
    refine br_F rfl ?_
    refine wSs_cons (wS_expr (wE_cmeth T.f_Ratio_of g.toGd T.cr_Ratio T.cm_Ratio_of T.b_Ratio_of ?_))
    walk_at "e"
    refine ⟨rfl, ?_⟩
    walk_at "e"
    refine sp_ofX T kn ?_
    refine Or.inr ⟨yes, by decide, ?_⟩
    walk_at "suite"
    walk_at "s1"
    refine wE_xf T.xf_InvalidNumber T.na_InvalidNumber_value hz hv ?_
    walk_at "e"
    refine ⟨_, _, _, rfl, rfl, ?_⟩
    walk_at "e"
    refine wSs_nil ?_
    walk_at "after"
    have gn := gn0
    walk_at "wp"
    rw [List.append_nil]
    exact .same h
end
end PM
set_option Elab.async false
set_option linter.all false
set_option maxRecDepth 100000
set_option maxHeartbeats 4000000
set_option exponentiation.threshold 20000
namespace PM
open PySem L2 PyProof.Rows
set_option hygiene false
local macro_rules | `(tactic| walk_at "in") => `(tactic| (repeat (first | with_reducible exact In.z | with_reducible apply In.s)))
local macro_rules | `(tactic| walk_at "at") => `(tactic| (first | assumption | with_reducible exact at_last | with_reducible exact at_new rfl | with_reducible exact at_left (by assumption) | with_reducible exact List.getElem?_set_self (by assumption) | with_reducible exact at_left (at_left (by assumption))))
local macro_rules | `(tactic| walk_at "ixd") => `(tactic| (first | exact .inl rfl | exact .inr (.inl rfl) | exact .inr (.inr (.inl rfl)) | exact .inr (.inr (.inr ⟨_, rfl, by (first | assumption | with_reducible exact at_last | with_reducible exact at_new rfl | with_reducible exact at_left (by assumption) | with_reducible exact List.getElem?_set_self (by assumption) | with_reducible exact at_left (at_left (by assumption)))⟩))))
local macro_rules | `(tactic| walk_at "ints") => `(tactic| (repeat (first | exact Ints.nil | apply Ints.cons)))
local macro_rules | `(tactic| walk_at "num") => `(tactic| (first | assumption | omega))
local macro_rules | `(tactic| walk_at "ix") => `(tactic| (repeat (first | with_reducible exact Ix.z | with_reducible exact Ix.c | with_reducible apply Ix.s)))
local macro_rules | `(tactic| walk_at "il") => `(tactic| (repeat (first | with_reducible exact Il.z | with_reducible apply Il.s)))
local macro_rules | `(tactic| walk_at "one") => `(tactic| first | (refine wE_name gn ?_; (repeat (first | with_reducible refine wGt_z ?_ | with_reducible refine wGt_c ?_ | with_reducible refine wGt_s ?_ | with_reducible refine wGt_f ?_)); fail_if_success refine wGt_chk ?_) | refine wE_int ?_ | refine wE_bin ?_ | refine wE_sub ?_ | refine wE_cmp ?_ | refine wE_tup ?_ | refine wE_lst ?_ | refine wE_str ?_ | refine wE_bl ?_ | refine wE_non ?_ | refine wE_not ?_ | refine wE_and ?_ | refine wE_or ?_ | refine wE_one ?_ | refine wE_un ?_ | refine wE_if ?_ | with_reducible refine wB_add ?_ | with_reducible refine wB_sub ?_ | ((with_reducible refine wB_mulR ?qc ?_); (case qc => exact ⟨by (first | assumption | omega), by (first | assumption | omega)⟩)) | ((with_reducible refine wB_mulL ?qc ?_); (case qc => exact ⟨by (first | assumption | omega), by (first | assumption | omega)⟩)) | ((with_reducible refine wB_mod ?qc ?_); (case qc => (first | assumption | omega))) | ((with_reducible refine wB_fdivS ?qc ?_); (case qc => exact ⟨by (first | assumption | omega), by (first | assumption | omega)⟩)) | with_reducible refine wB_lt ?_ | with_reducible refine wB_le ?_ | with_reducible refine wB_gt ?_ | with_reducible refine wB_ge ?_ | with_reducible refine wB_eq ?_ | with_reducible refine wB_ne ?_ | with_reducible refine wB_eqT ?_ | with_reducible refine wB_neT ?_ | with_reducible refine wB_eqB ?_ | with_reducible refine wB_neB ?_ | with_reducible refine wB_is ?_ | with_reducible refine wB_isNot ?_ | with_reducible refine wU_neg ?_ | with_reducible refine wB_pow5 ?_ | with_reducible refine wB_pow6 ?_ | with_reducible refine wB_pow7 ?_ | with_reducible refine wB_pow8 ?_ | with_reducible refine wB_pow9 ?_ | with_reducible refine wB_pow18 ?_ | refine wA_cons ?_ | refine wA_nil ?_ | refine wG_tup g.calm ?_ | refine wGs_cons ?_ | refine wGs_nil ?_ | refine wG_name gn ?_ | with_reducible refine wPt_z ?_ | with_reducible refine wPt_c ?_ | with_reducible refine wPt_s ?_ | refine Exists.intro _ (And.intro rfl ?_) | refine And.intro (by (simp only [List.length_cons, List.length_nil]; decide)) ?_ | refine Exists.intro _ (Exists.intro _ (And.intro rfl ?_)) | refine Exists.intro _ (Exists.intro _ (Exists.intro _ (And.intro rfl ?_))) | refine Exists.intro _ (Exists.intro _ (Exists.intro _ (Exists.intro _ (And.intro rfl (And.intro rfl (And.intro (by (first | assumption | with_reducible exact at_last | with_reducible exact at_new rfl | with_reducible exact at_left (by assumption) | with_reducible exact List.getElem?_set_self (by assumption) | with_reducible exact at_left (at_left (by assumption)))) (And.intro rfl ?_))))))) | refine wC_cmp ?_ | refine wC_not ?_ | refine wC_bool ?_ | refine wCw_and ?_ | refine wCw_or ?_ | refine wCw_and1 ?_ | refine wCw_or1 ?_ | refine wC_val ?_ | refine wSs_cons ?_ | refine wSs_nil ?_ | (refine wS_set gn ?qa ?_; (case qa => exact ⟨_, by (repeat (first | with_reducible exact Ix.z | with_reducible exact Ix.c | with_reducible apply Ix.s))⟩)) | (refine wS_par g ?qa ?_; (case qa => exact ⟨_, _, by (repeat (first | with_reducible exact Il.z | with_reducible apply Il.s)), by (repeat (first | with_reducible exact Il.z | with_reducible apply Il.s)), by decide⟩)) | (refine wS_par3 g ?qa ?_; (case qa => exact ⟨_, _, _, by (repeat (first | with_reducible exact Il.z | with_reducible apply Il.s)), by (repeat (first | with_reducible exact Il.z | with_reducible apply Il.s)), by (repeat (first | with_reducible exact Il.z | with_reducible apply Il.s)), by decide, by decide, by decide⟩)) | refine wS_ret ?_ | refine wS_if ?_ | refine wS_expr ?_ | refine wS_ix ?_ | refine wS_asg ?_ | refine wS_pass ?_ | ((with_reducible refine chkC "len" ?_); refine xE_blt gn ?qa T.n_len boot_len ?_; (case qa => (repeat (first | with_reducible exact In.z | with_reducible apply In.s)))) | ((with_reducible refine chkC "int" ?_); refine xE_bcl gn ?qa T.n_int boot_int ?_; (case qa => (repeat (first | with_reducible exact In.z | with_reducible apply In.s)))) | ((with_reducible refine chkC "abs" ?_); refine xE_blt gn ?qa T.n_abs boot_abs ?_; (case qa => (repeat (first | with_reducible exact In.z | with_reducible apply In.s)))) | ((with_reducible refine chkC "max" ?_); refine xE_blt gn ?qa T.n_max boot_max ?_; (case qa => (repeat (first | with_reducible exact In.z | with_reducible apply In.s)))) | ((with_reducible refine chkC "min" ?_); refine xE_blt gn ?qa T.n_min boot_min ?_; (case qa => (repeat (first | with_reducible exact In.z | with_reducible apply In.s)))) | ((with_reducible refine chkC "str" ?_); refine xE_bcl gn ?qa T.n_str boot_str ?_; (case qa => (repeat (first | with_reducible exact In.z | with_reducible apply In.s)))) | ((with_reducible refine chkC "repr" ?_); refine xE_blt gn ?qa T.n_repr boot_repr ?_; (case qa => (repeat (first | with_reducible exact In.z | with_reducible apply In.s)))) | ((with_reducible refine chkC "isinstance" ?_); refine xE_blt gn ?qa T.n_isinstance boot_isinstance ?_; (case qa => (repeat (first | with_reducible exact In.z | with_reducible apply In.s)))) | ((with_reducible refine chkC "bool" ?_); refine xE_bcl gn ?qa T.n_bool boot_bool ?_; (case qa => (repeat (first | with_reducible exact In.z | with_reducible apply In.s)))) | ((with_reducible refine chkC "all" ?_); refine xE_blt gn ?qa T.n_all boot_all ?_; (case qa => (repeat (first | with_reducible exact In.z | with_reducible apply In.s)))) | ((with_reducible refine chkC "_law_box" ?_); refine xE_call T.f_w_box g ?qa T.g_w_box T.F_w_box.kp T.b_w_box ?_; (case qa => (repeat (first | with_reducible exact In.z | with_reducible apply In.s)))) | ((with_reducible refine chkC "_law_take" ?_); refine xE_call T.f_w_take g ?qa T.g_w_take T.F_w_take.kp T.b_w_take ?_; (case qa => (repeat (first | with_reducible exact In.z | with_reducible apply In.s)))) | ((with_reducible refine chkC "_law_lowest" ?_); refine xE_call T.f_w_lowest g ?qa T.g_w_lowest T.F_w_lowest.kp T.b_w_lowest ?_; (case qa => (repeat (first | with_reducible exact In.z | with_reducible apply In.s)))) | ((with_reducible refine chkC "_law_integer" ?_); refine xE_call T.f_w_integer g ?qa T.g_w_integer T.F_w_integer.kp T.b_w_integer ?_; (case qa => (repeat (first | with_reducible exact In.z | with_reducible apply In.s)))) | ((with_reducible refine chkC "_law_is" ?_); refine xE_call T.f_w_is g ?qa T.g_w_is T.F_w_is.kp T.b_w_is ?_; (case qa => (repeat (first | with_reducible exact In.z | with_reducible apply In.s)))) | ((with_reducible refine chkC "_law_text" ?_); refine xE_call T.f_w_text g ?qa T.g_w_text T.F_w_text.kp T.b_w_text ?_; (case qa => (repeat (first | with_reducible exact In.z | with_reducible apply In.s)))) | ((with_reducible refine chkC "_law_told_right" ?_); refine xE_call T.f_w_told_right g ?qa T.g_w_told_right T.F_w_told_right.kp T.b_w_told_right ?_; (case qa => (repeat (first | with_reducible exact In.z | with_reducible apply In.s)))) | ((with_reducible refine chkC "_law_refused" ?_); refine xE_call T.f_w_refused g ?qa T.g_w_refused T.F_w_refused.kp T.b_w_refused ?_; (case qa => (repeat (first | with_reducible exact In.z | with_reducible apply In.s)))) | (refine sp_take T (by (first | assumption | with_reducible exact at_last | with_reducible exact at_new rfl | with_reducible exact at_left (by assumption) | with_reducible exact List.getElem?_set_self (by assumption) | with_reducible exact at_left (at_left (by assumption)))) (by (first | assumption | omega)) (by (first | assumption | omega)) ?_; intro d h0 h1) | ((with_reducible refine chkB "len" ?_); refine wF_len (by (first | exact .inl rfl | exact .inr (.inl rfl) | exact .inr (.inr (.inl rfl)) | exact .inr (.inr (.inr ⟨_, rfl, by (first | assumption | with_reducible exact at_last | with_reducible exact at_new rfl | with_reducible exact at_left (by assumption) | with_reducible exact List.getElem?_set_self (by assumption) | with_reducible exact at_left (at_left (by assumption)))⟩)))) ?_) | with_reducible refine wF_intB ?_ | with_reducible refine wF_boolB ?_ | with_reducible refine wF_abs ?_ | with_reducible refine wF_max g.toGd ?_ | with_reducible refine wF_min g.toGd ?_ | refine wX_if2I (by (first | exact .inl rfl | exact .inr (.inl rfl) | exact .inr (.inr (.inl rfl)) | exact .inr (.inr (.inr ⟨_, rfl, by (first | assumption | with_reducible exact at_last | with_reducible exact at_new rfl | with_reducible exact at_left (by assumption) | with_reducible exact List.getElem?_set_self (by assumption) | with_reducible exact at_left (at_left (by assumption)))⟩)))) ?_ | refine wX_if2 (by (first | exact .inl rfl | exact .inr (.inl rfl) | exact .inr (.inr (.inl rfl)) | exact .inr (.inr (.inr ⟨_, rfl, by (first | assumption | with_reducible exact at_last | with_reducible exact at_new rfl | with_reducible exact at_left (by assumption) | with_reducible exact List.getElem?_set_self (by assumption) | with_reducible exact at_left (at_left (by assumption)))⟩)))) ?_ | refine wX_at (by (first | exact .inl rfl | exact .inr (.inl rfl) | exact .inr (.inr (.inl rfl)) | exact .inr (.inr (.inr ⟨_, rfl, by (first | assumption | with_reducible exact at_last | with_reducible exact at_new rfl | with_reducible exact at_left (by assumption) | with_reducible exact List.getElem?_set_self (by assumption) | with_reducible exact at_left (at_left (by assumption)))⟩)))) rfl ?_ | (refine wX_ints (by (first | exact .inl rfl | exact .inr (.inl rfl) | exact .inr (.inr (.inl rfl)) | exact .inr (.inr (.inr ⟨_, rfl, by (first | assumption | with_reducible exact at_last | with_reducible exact at_new rfl | with_reducible exact at_left (by assumption) | with_reducible exact List.getElem?_set_self (by assumption) | with_reducible exact at_left (at_left (by assumption)))⟩)))) (by (repeat (first | exact Ints.nil | apply Ints.cons))) (by (first | assumption | omega)) (by (simp only [List.length_cons, List.length_nil]; omega)) ?_; intro v hv; simp only [List.mem_cons, List.not_mem_nil, or_false] at hv) | ((with_reducible refine chkN "int" ?_); refine xE_bty gn ?qa T.n_int boot_int ?_; (case qa => (repeat (first | with_reducible exact In.z | with_reducible apply In.s)))) | ((with_reducible refine chkN "bool" ?_); refine xE_bty gn ?qa T.n_bool boot_bool ?_; (case qa => (repeat (first | with_reducible exact In.z | with_reducible apply In.s)))) | ((with_reducible refine chkN "str" ?_); refine xE_bty gn ?qa T.n_str boot_str ?_; (case qa => (repeat (first | with_reducible exact In.z | with_reducible apply In.s)))) | ((with_reducible refine chkN "PoolError" ?_); refine xE_cls gn ?qa T.g_PoolError ?_; (case qa => (repeat (first | with_reducible exact In.z | with_reducible apply In.s)))) | ((with_reducible refine chkN "InvalidNumber" ?_); refine xE_cls gn ?qa T.g_InvalidNumber ?_; (case qa => (repeat (first | with_reducible exact In.z | with_reducible apply In.s)))) | ((with_reducible refine chkN "Ratio" ?_); refine xE_cls gn ?qa T.g_Ratio ?_; (case qa => (repeat (first | with_reducible exact In.z | with_reducible apply In.s)))) | ((with_reducible refine chkC "Ratio" ?_); refine xE_make gn ?qa T.g_Ratio T.mk_Ratio.kp ?_; (case qa => (repeat (first | with_reducible exact In.z | with_reducible apply In.s)))) | ((with_reducible refine chkA "top" ?_); refine wE_top T ?_) | ((with_reducible refine chkA "bottom" ?_); refine wE_bot T ?_) | ((with_reducible refine wF_isRt ?qc ?_); (case qc => exact T.own_Ratio)) | with_reducible refine wF_isII ?_ | with_reducible refine wF_isIB ?_ | with_reducible refine wF_isBB ?_ | ((with_reducible refine wF_R2 T g.toGd ?qc1 ?qc2 ?_); (case qc1 => (first | assumption | omega)); (case qc2 => exact lt_pow_mono (n := 64) (by (first | assumption | omega)) (by decide))) | with_reducible refine wF_R1 T g.toGd ?_)
local macro_rules | `(tactic| walk_at "wp") => `(tactic| repeat (first | (refine wE_name gn ?_; (repeat (first | with_reducible refine wGt_z ?_ | with_reducible refine wGt_c ?_ | with_reducible refine wGt_s ?_ | with_reducible refine wGt_f ?_)); fail_if_success refine wGt_chk ?_) | refine wE_int ?_ | refine wE_bin ?_ | refine wE_sub ?_ | refine wE_cmp ?_ | refine wE_tup ?_ | refine wE_lst ?_ | refine wE_str ?_ | refine wE_bl ?_ | refine wE_non ?_ | refine wE_not ?_ | refine wE_and ?_ | refine wE_or ?_ | refine wE_one ?_ | refine wE_un ?_ | refine wE_if ?_ | with_reducible refine wB_add ?_ | with_reducible refine wB_sub ?_ | ((with_reducible refine wB_mulR ?qc ?_); (case qc => exact ⟨by (first | assumption | omega), by (first | assumption | omega)⟩)) | ((with_reducible refine wB_mulL ?qc ?_); (case qc => exact ⟨by (first | assumption | omega), by (first | assumption | omega)⟩)) | ((with_reducible refine wB_mod ?qc ?_); (case qc => (first | assumption | omega))) | ((with_reducible refine wB_fdivS ?qc ?_); (case qc => exact ⟨by (first | assumption | omega), by (first | assumption | omega)⟩)) | with_reducible refine wB_lt ?_ | with_reducible refine wB_le ?_ | with_reducible refine wB_gt ?_ | with_reducible refine wB_ge ?_ | with_reducible refine wB_eq ?_ | with_reducible refine wB_ne ?_ | with_reducible refine wB_eqT ?_ | with_reducible refine wB_neT ?_ | with_reducible refine wB_eqB ?_ | with_reducible refine wB_neB ?_ | with_reducible refine wB_is ?_ | with_reducible refine wB_isNot ?_ | with_reducible refine wU_neg ?_ | with_reducible refine wB_pow5 ?_ | with_reducible refine wB_pow6 ?_ | with_reducible refine wB_pow7 ?_ | with_reducible refine wB_pow8 ?_ | with_reducible refine wB_pow9 ?_ | with_reducible refine wB_pow18 ?_ | refine wA_cons ?_ | refine wA_nil ?_ | refine wG_tup g.calm ?_ | refine wGs_cons ?_ | refine wGs_nil ?_ | refine wG_name gn ?_ | with_reducible refine wPt_z ?_ | with_reducible refine wPt_c ?_ | with_reducible refine wPt_s ?_ | refine Exists.intro _ (And.intro rfl ?_) | refine And.intro (by (simp only [List.length_cons, List.length_nil]; decide)) ?_ | refine Exists.intro _ (Exists.intro _ (And.intro rfl ?_)) | refine Exists.intro _ (Exists.intro _ (Exists.intro _ (And.intro rfl ?_))) | refine Exists.intro _ (Exists.intro _ (Exists.intro _ (Exists.intro _ (And.intro rfl (And.intro rfl (And.intro (by (first | assumption | with_reducible exact at_last | with_reducible exact at_new rfl | with_reducible exact at_left (by assumption) | with_reducible exact List.getElem?_set_self (by assumption) | with_reducible exact at_left (at_left (by assumption)))) (And.intro rfl ?_))))))) | refine wC_cmp ?_ | refine wC_not ?_ | refine wC_bool ?_ | refine wCw_and ?_ | refine wCw_or ?_ | refine wCw_and1 ?_ | refine wCw_or1 ?_ | refine wC_val ?_ | refine wSs_cons ?_ | refine wSs_nil ?_ | (refine wS_set gn ?qa ?_; (case qa => exact ⟨_, by (repeat (first | with_reducible exact Ix.z | with_reducible exact Ix.c | with_reducible apply Ix.s))⟩)) | (refine wS_par g ?qa ?_; (case qa => exact ⟨_, _, by (repeat (first | with_reducible exact Il.z | with_reducible apply Il.s)), by (repeat (first | with_reducible exact Il.z | with_reducible apply Il.s)), by decide⟩)) | (refine wS_par3 g ?qa ?_; (case qa => exact ⟨_, _, _, by (repeat (first | with_reducible exact Il.z | with_reducible apply Il.s)), by (repeat (first | with_reducible exact Il.z | with_reducible apply Il.s)), by (repeat (first | with_reducible exact Il.z | with_reducible apply Il.s)), by decide, by decide, by decide⟩)) | refine wS_ret ?_ | refine wS_if ?_ | refine wS_expr ?_ | refine wS_ix ?_ | refine wS_asg ?_ | refine wS_pass ?_ | ((with_reducible refine chkC "len" ?_); refine xE_blt gn ?qa T.n_len boot_len ?_; (case qa => (repeat (first | with_reducible exact In.z | with_reducible apply In.s)))) | ((with_reducible refine chkC "int" ?_); refine xE_bcl gn ?qa T.n_int boot_int ?_; (case qa => (repeat (first | with_reducible exact In.z | with_reducible apply In.s)))) | ((with_reducible refine chkC "abs" ?_); refine xE_blt gn ?qa T.n_abs boot_abs ?_; (case qa => (repeat (first | with_reducible exact In.z | with_reducible apply In.s)))) | ((with_reducible refine chkC "max" ?_); refine xE_blt gn ?qa T.n_max boot_max ?_; (case qa => (repeat (first | with_reducible exact In.z | with_reducible apply In.s)))) | ((with_reducible refine chkC "min" ?_); refine xE_blt gn ?qa T.n_min boot_min ?_; (case qa => (repeat (first | with_reducible exact In.z | with_reducible apply In.s)))) | ((with_reducible refine chkC "str" ?_); refine xE_bcl gn ?qa T.n_str boot_str ?_; (case qa => (repeat (first | with_reducible exact In.z | with_reducible apply In.s)))) | ((with_reducible refine chkC "repr" ?_); refine xE_blt gn ?qa T.n_repr boot_repr ?_; (case qa => (repeat (first | with_reducible exact In.z | with_reducible apply In.s)))) | ((with_reducible refine chkC "isinstance" ?_); refine xE_blt gn ?qa T.n_isinstance boot_isinstance ?_; (case qa => (repeat (first | with_reducible exact In.z | with_reducible apply In.s)))) | ((with_reducible refine chkC "bool" ?_); refine xE_bcl gn ?qa T.n_bool boot_bool ?_; (case qa => (repeat (first | with_reducible exact In.z | with_reducible apply In.s)))) | ((with_reducible refine chkC "all" ?_); refine xE_blt gn ?qa T.n_all boot_all ?_; (case qa => (repeat (first | with_reducible exact In.z | with_reducible apply In.s)))) | ((with_reducible refine chkC "_law_box" ?_); refine xE_call T.f_w_box g ?qa T.g_w_box T.F_w_box.kp T.b_w_box ?_; (case qa => (repeat (first | with_reducible exact In.z | with_reducible apply In.s)))) | ((with_reducible refine chkC "_law_take" ?_); refine xE_call T.f_w_take g ?qa T.g_w_take T.F_w_take.kp T.b_w_take ?_; (case qa => (repeat (first | with_reducible exact In.z | with_reducible apply In.s)))) | ((with_reducible refine chkC "_law_lowest" ?_); refine xE_call T.f_w_lowest g ?qa T.g_w_lowest T.F_w_lowest.kp T.b_w_lowest ?_; (case qa => (repeat (first | with_reducible exact In.z | with_reducible apply In.s)))) | ((with_reducible refine chkC "_law_integer" ?_); refine xE_call T.f_w_integer g ?qa T.g_w_integer T.F_w_integer.kp T.b_w_integer ?_; (case qa => (repeat (first | with_reducible exact In.z | with_reducible apply In.s)))) | ((with_reducible refine chkC "_law_is" ?_); refine xE_call T.f_w_is g ?qa T.g_w_is T.F_w_is.kp T.b_w_is ?_; (case qa => (repeat (first | with_reducible exact In.z | with_reducible apply In.s)))) | ((with_reducible refine chkC "_law_text" ?_); refine xE_call T.f_w_text g ?qa T.g_w_text T.F_w_text.kp T.b_w_text ?_; (case qa => (repeat (first | with_reducible exact In.z | with_reducible apply In.s)))) | ((with_reducible refine chkC "_law_told_right" ?_); refine xE_call T.f_w_told_right g ?qa T.g_w_told_right T.F_w_told_right.kp T.b_w_told_right ?_; (case qa => (repeat (first | with_reducible exact In.z | with_reducible apply In.s)))) | ((with_reducible refine chkC "_law_refused" ?_); refine xE_call T.f_w_refused g ?qa T.g_w_refused T.F_w_refused.kp T.b_w_refused ?_; (case qa => (repeat (first | with_reducible exact In.z | with_reducible apply In.s)))) | (refine sp_take T (by (first | assumption | with_reducible exact at_last | with_reducible exact at_new rfl | with_reducible exact at_left (by assumption) | with_reducible exact List.getElem?_set_self (by assumption) | with_reducible exact at_left (at_left (by assumption)))) (by (first | assumption | omega)) (by (first | assumption | omega)) ?_; intro d h0 h1) | ((with_reducible refine chkB "len" ?_); refine wF_len (by (first | exact .inl rfl | exact .inr (.inl rfl) | exact .inr (.inr (.inl rfl)) | exact .inr (.inr (.inr ⟨_, rfl, by (first | assumption | with_reducible exact at_last | with_reducible exact at_new rfl | with_reducible exact at_left (by assumption) | with_reducible exact List.getElem?_set_self (by assumption) | with_reducible exact at_left (at_left (by assumption)))⟩)))) ?_) | with_reducible refine wF_intB ?_ | with_reducible refine wF_boolB ?_ | with_reducible refine wF_abs ?_ | with_reducible refine wF_max g.toGd ?_ | with_reducible refine wF_min g.toGd ?_ | refine wX_if2I (by (first | exact .inl rfl | exact .inr (.inl rfl) | exact .inr (.inr (.inl rfl)) | exact .inr (.inr (.inr ⟨_, rfl, by (first | assumption | with_reducible exact at_last | with_reducible exact at_new rfl | with_reducible exact at_left (by assumption) | with_reducible exact List.getElem?_set_self (by assumption) | with_reducible exact at_left (at_left (by assumption)))⟩)))) ?_ | refine wX_if2 (by (first | exact .inl rfl | exact .inr (.inl rfl) | exact .inr (.inr (.inl rfl)) | exact .inr (.inr (.inr ⟨_, rfl, by (first | assumption | with_reducible exact at_last | with_reducible exact at_new rfl | with_reducible exact at_left (by assumption) | with_reducible exact List.getElem?_set_self (by assumption) | with_reducible exact at_left (at_left (by assumption)))⟩)))) ?_ | refine wX_at (by (first | exact .inl rfl | exact .inr (.inl rfl) | exact .inr (.inr (.inl rfl)) | exact .inr (.inr (.inr ⟨_, rfl, by (first | assumption | with_reducible exact at_last | with_reducible exact at_new rfl | with_reducible exact at_left (by assumption) | with_reducible exact List.getElem?_set_self (by assumption) | with_reducible exact at_left (at_left (by assumption)))⟩)))) rfl ?_ | (refine wX_ints (by (first | exact .inl rfl | exact .inr (.inl rfl) | exact .inr (.inr (.inl rfl)) | exact .inr (.inr (.inr ⟨_, rfl, by (first | assumption | with_reducible exact at_last | with_reducible exact at_new rfl | with_reducible exact at_left (by assumption) | with_reducible exact List.getElem?_set_self (by assumption) | with_reducible exact at_left (at_left (by assumption)))⟩)))) (by (repeat (first | exact Ints.nil | apply Ints.cons))) (by (first | assumption | omega)) (by (simp only [List.length_cons, List.length_nil]; omega)) ?_; intro v hv; simp only [List.mem_cons, List.not_mem_nil, or_false] at hv) | ((with_reducible refine chkN "int" ?_); refine xE_bty gn ?qa T.n_int boot_int ?_; (case qa => (repeat (first | with_reducible exact In.z | with_reducible apply In.s)))) | ((with_reducible refine chkN "bool" ?_); refine xE_bty gn ?qa T.n_bool boot_bool ?_; (case qa => (repeat (first | with_reducible exact In.z | with_reducible apply In.s)))) | ((with_reducible refine chkN "str" ?_); refine xE_bty gn ?qa T.n_str boot_str ?_; (case qa => (repeat (first | with_reducible exact In.z | with_reducible apply In.s)))) | ((with_reducible refine chkN "PoolError" ?_); refine xE_cls gn ?qa T.g_PoolError ?_; (case qa => (repeat (first | with_reducible exact In.z | with_reducible apply In.s)))) | ((with_reducible refine chkN "InvalidNumber" ?_); refine xE_cls gn ?qa T.g_InvalidNumber ?_; (case qa => (repeat (first | with_reducible exact In.z | with_reducible apply In.s)))) | ((with_reducible refine chkN "Ratio" ?_); refine xE_cls gn ?qa T.g_Ratio ?_; (case qa => (repeat (first | with_reducible exact In.z | with_reducible apply In.s)))) | ((with_reducible refine chkC "Ratio" ?_); refine xE_make gn ?qa T.g_Ratio T.mk_Ratio.kp ?_; (case qa => (repeat (first | with_reducible exact In.z | with_reducible apply In.s)))) | ((with_reducible refine chkA "top" ?_); refine wE_top T ?_) | ((with_reducible refine chkA "bottom" ?_); refine wE_bot T ?_) | ((with_reducible refine wF_isRt ?qc ?_); (case qc => exact T.own_Ratio)) | with_reducible refine wF_isII ?_ | with_reducible refine wF_isIB ?_ | with_reducible refine wF_isBB ?_ | ((with_reducible refine wF_R2 T g.toGd ?qc1 ?qc2 ?_); (case qc1 => (first | assumption | omega)); (case qc2 => exact lt_pow_mono (n := 64) (by (first | assumption | omega)) (by decide))) | with_reducible refine wF_R1 T g.toGd ?_))
local macro_rules | `(tactic| walk_at "s1") => `(tactic| (refine wSs_cons ?_; repeat (first | (refine wE_name gn ?_; (repeat (first | with_reducible refine wGt_z ?_ | with_reducible refine wGt_c ?_ | with_reducible refine wGt_s ?_ | with_reducible refine wGt_f ?_)); fail_if_success refine wGt_chk ?_) | refine wE_int ?_ | refine wE_bin ?_ | refine wE_sub ?_ | refine wE_cmp ?_ | refine wE_tup ?_ | refine wE_lst ?_ | refine wE_str ?_ | refine wE_bl ?_ | refine wE_non ?_ | refine wE_not ?_ | refine wE_and ?_ | refine wE_or ?_ | refine wE_one ?_ | refine wE_un ?_ | refine wE_if ?_ | with_reducible refine wB_add ?_ | with_reducible refine wB_sub ?_ | ((with_reducible refine wB_mulR ?qc ?_); (case qc => exact ⟨by (first | assumption | omega), by (first | assumption | omega)⟩)) | ((with_reducible refine wB_mulL ?qc ?_); (case qc => exact ⟨by (first | assumption | omega), by (first | assumption | omega)⟩)) | ((with_reducible refine wB_mod ?qc ?_); (case qc => (first | assumption | omega))) | ((with_reducible refine wB_fdivS ?qc ?_); (case qc => exact ⟨by (first | assumption | omega), by (first | assumption | omega)⟩)) | with_reducible refine wB_lt ?_ | with_reducible refine wB_le ?_ | with_reducible refine wB_gt ?_ | with_reducible refine wB_ge ?_ | with_reducible refine wB_eq ?_ | with_reducible refine wB_ne ?_ | with_reducible refine wB_eqT ?_ | with_reducible refine wB_neT ?_ | with_reducible refine wB_eqB ?_ | with_reducible refine wB_neB ?_ | with_reducible refine wB_is ?_ | with_reducible refine wB_isNot ?_ | with_reducible refine wU_neg ?_ | with_reducible refine wB_pow5 ?_ | with_reducible refine wB_pow6 ?_ | with_reducible refine wB_pow7 ?_ | with_reducible refine wB_pow8 ?_ | with_reducible refine wB_pow9 ?_ | with_reducible refine wB_pow18 ?_ | refine wA_cons ?_ | refine wA_nil ?_ | refine wG_tup g.calm ?_ | refine wGs_cons ?_ | refine wGs_nil ?_ | refine wG_name gn ?_ | with_reducible refine wPt_z ?_ | with_reducible refine wPt_c ?_ | with_reducible refine wPt_s ?_ | refine Exists.intro _ (And.intro rfl ?_) | refine And.intro (by (simp only [List.length_cons, List.length_nil]; decide)) ?_ | refine Exists.intro _ (Exists.intro _ (And.intro rfl ?_)) | refine Exists.intro _ (Exists.intro _ (Exists.intro _ (And.intro rfl ?_))) | refine Exists.intro _ (Exists.intro _ (Exists.intro _ (Exists.intro _ (And.intro rfl (And.intro rfl (And.intro (by (first | assumption | with_reducible exact at_last | with_reducible exact at_new rfl | with_reducible exact at_left (by assumption) | with_reducible exact List.getElem?_set_self (by assumption) | with_reducible exact at_left (at_left (by assumption)))) (And.intro rfl ?_))))))) | refine wC_cmp ?_ | refine wC_not ?_ | refine wC_bool ?_ | refine wCw_and ?_ | refine wCw_or ?_ | refine wCw_and1 ?_ | refine wCw_or1 ?_ | refine wC_val ?_ | refine wSs_nil ?_ | (refine wS_set gn ?qa ?_; (case qa => exact ⟨_, by (repeat (first | with_reducible exact Ix.z | with_reducible exact Ix.c | with_reducible apply Ix.s))⟩)) | (refine wS_par g ?qa ?_; (case qa => exact ⟨_, _, by (repeat (first | with_reducible exact Il.z | with_reducible apply Il.s)), by (repeat (first | with_reducible exact Il.z | with_reducible apply Il.s)), by decide⟩)) | (refine wS_par3 g ?qa ?_; (case qa => exact ⟨_, _, _, by (repeat (first | with_reducible exact Il.z | with_reducible apply Il.s)), by (repeat (first | with_reducible exact Il.z | with_reducible apply Il.s)), by (repeat (first | with_reducible exact Il.z | with_reducible apply Il.s)), by decide, by decide, by decide⟩)) | refine wS_ret ?_ | refine wS_if ?_ | refine wS_expr ?_ | refine wS_ix ?_ | refine wS_asg ?_ | refine wS_pass ?_ | ((with_reducible refine chkC "len" ?_); refine xE_blt gn ?qa T.n_len boot_len ?_; (case qa => (repeat (first | with_reducible exact In.z | with_reducible apply In.s)))) | ((with_reducible refine chkC "int" ?_); refine xE_bcl gn ?qa T.n_int boot_int ?_; (case qa => (repeat (first | with_reducible exact In.z | with_reducible apply In.s)))) | ((with_reducible refine chkC "abs" ?_); refine xE_blt gn ?qa T.n_abs boot_abs ?_; (case qa => (repeat (first | with_reducible exact In.z | with_reducible apply In.s)))) | ((with_reducible refine chkC "max" ?_); refine xE_blt gn ?qa T.n_max boot_max ?_; (case qa => (repeat (first | with_reducible exact In.z | with_reducible apply In.s)))) | ((with_reducible refine chkC "min" ?_); refine xE_blt gn ?qa T.n_min boot_min ?_; (case qa => (repeat (first | with_reducible exact In.z | with_reducible apply In.s)))) | ((with_reducible refine chkC "str" ?_); refine xE_bcl gn ?qa T.n_str boot_str ?_; (case qa => (repeat (first | with_reducible exact In.z | with_reducible apply In.s)))) | ((with_reducible refine chkC "repr" ?_); refine xE_blt gn ?qa T.n_repr boot_repr ?_; (case qa => (repeat (first | with_reducible exact In.z | with_reducible apply In.s)))) | ((with_reducible refine chkC "isinstance" ?_); refine xE_blt gn ?qa T.n_isinstance boot_isinstance ?_; (case qa => (repeat (first | with_reducible exact In.z | with_reducible apply In.s)))) | ((with_reducible refine chkC "bool" ?_); refine xE_bcl gn ?qa T.n_bool boot_bool ?_; (case qa => (repeat (first | with_reducible exact In.z | with_reducible apply In.s)))) | ((with_reducible refine chkC "all" ?_); refine xE_blt gn ?qa T.n_all boot_all ?_; (case qa => (repeat (first | with_reducible exact In.z | with_reducible apply In.s)))) | ((with_reducible refine chkC "_law_box" ?_); refine xE_call T.f_w_box g ?qa T.g_w_box T.F_w_box.kp T.b_w_box ?_; (case qa => (repeat (first | with_reducible exact In.z | with_reducible apply In.s)))) | ((with_reducible refine chkC "_law_take" ?_); refine xE_call T.f_w_take g ?qa T.g_w_take T.F_w_take.kp T.b_w_take ?_; (case qa => (repeat (first | with_reducible exact In.z | with_reducible apply In.s)))) | ((with_reducible refine chkC "_law_lowest" ?_); refine xE_call T.f_w_lowest g ?qa T.g_w_lowest T.F_w_lowest.kp T.b_w_lowest ?_; (case qa => (repeat (first | with_reducible exact In.z | with_reducible apply In.s)))) | ((with_reducible refine chkC "_law_integer" ?_); refine xE_call T.f_w_integer g ?qa T.g_w_integer T.F_w_integer.kp T.b_w_integer ?_; (case qa => (repeat (first | with_reducible exact In.z | with_reducible apply In.s)))) | ((with_reducible refine chkC "_law_is" ?_); refine xE_call T.f_w_is g ?qa T.g_w_is T.F_w_is.kp T.b_w_is ?_; (case qa => (repeat (first | with_reducible exact In.z | with_reducible apply In.s)))) | ((with_reducible refine chkC "_law_text" ?_); refine xE_call T.f_w_text g ?qa T.g_w_text T.F_w_text.kp T.b_w_text ?_; (case qa => (repeat (first | with_reducible exact In.z | with_reducible apply In.s)))) | ((with_reducible refine chkC "_law_told_right" ?_); refine xE_call T.f_w_told_right g ?qa T.g_w_told_right T.F_w_told_right.kp T.b_w_told_right ?_; (case qa => (repeat (first | with_reducible exact In.z | with_reducible apply In.s)))) | ((with_reducible refine chkC "_law_refused" ?_); refine xE_call T.f_w_refused g ?qa T.g_w_refused T.F_w_refused.kp T.b_w_refused ?_; (case qa => (repeat (first | with_reducible exact In.z | with_reducible apply In.s)))) | (refine sp_take T (by (first | assumption | with_reducible exact at_last | with_reducible exact at_new rfl | with_reducible exact at_left (by assumption) | with_reducible exact List.getElem?_set_self (by assumption) | with_reducible exact at_left (at_left (by assumption)))) (by (first | assumption | omega)) (by (first | assumption | omega)) ?_; intro d h0 h1) | ((with_reducible refine chkB "len" ?_); refine wF_len (by (first | exact .inl rfl | exact .inr (.inl rfl) | exact .inr (.inr (.inl rfl)) | exact .inr (.inr (.inr ⟨_, rfl, by (first | assumption | with_reducible exact at_last | with_reducible exact at_new rfl | with_reducible exact at_left (by assumption) | with_reducible exact List.getElem?_set_self (by assumption) | with_reducible exact at_left (at_left (by assumption)))⟩)))) ?_) | with_reducible refine wF_intB ?_ | with_reducible refine wF_boolB ?_ | with_reducible refine wF_abs ?_ | with_reducible refine wF_max g.toGd ?_ | with_reducible refine wF_min g.toGd ?_ | refine wX_if2I (by (first | exact .inl rfl | exact .inr (.inl rfl) | exact .inr (.inr (.inl rfl)) | exact .inr (.inr (.inr ⟨_, rfl, by (first | assumption | with_reducible exact at_last | with_reducible exact at_new rfl | with_reducible exact at_left (by assumption) | with_reducible exact List.getElem?_set_self (by assumption) | with_reducible exact at_left (at_left (by assumption)))⟩)))) ?_ | refine wX_if2 (by (first | exact .inl rfl | exact .inr (.inl rfl) | exact .inr (.inr (.inl rfl)) | exact .inr (.inr (.inr ⟨_, rfl, by (first | assumption | with_reducible exact at_last | with_reducible exact at_new rfl | with_reducible exact at_left (by assumption) | with_reducible exact List.getElem?_set_self (by assumption) | with_reducible exact at_left (at_left (by assumption)))⟩)))) ?_ | refine wX_at (by (first | exact .inl rfl | exact .inr (.inl rfl) | exact .inr (.inr (.inl rfl)) | exact .inr (.inr (.inr ⟨_, rfl, by (first | assumption | with_reducible exact at_last | with_reducible exact at_new rfl | with_reducible exact at_left (by assumption) | with_reducible exact List.getElem?_set_self (by assumption) | with_reducible exact at_left (at_left (by assumption)))⟩)))) rfl ?_ | (refine wX_ints (by (first | exact .inl rfl | exact .inr (.inl rfl) | exact .inr (.inr (.inl rfl)) | exact .inr (.inr (.inr ⟨_, rfl, by (first | assumption | with_reducible exact at_last | with_reducible exact at_new rfl | with_reducible exact at_left (by assumption) | with_reducible exact List.getElem?_set_self (by assumption) | with_reducible exact at_left (at_left (by assumption)))⟩)))) (by (repeat (first | exact Ints.nil | apply Ints.cons))) (by (first | assumption | omega)) (by (simp only [List.length_cons, List.length_nil]; omega)) ?_; intro v hv; simp only [List.mem_cons, List.not_mem_nil, or_false] at hv) | ((with_reducible refine chkN "int" ?_); refine xE_bty gn ?qa T.n_int boot_int ?_; (case qa => (repeat (first | with_reducible exact In.z | with_reducible apply In.s)))) | ((with_reducible refine chkN "bool" ?_); refine xE_bty gn ?qa T.n_bool boot_bool ?_; (case qa => (repeat (first | with_reducible exact In.z | with_reducible apply In.s)))) | ((with_reducible refine chkN "str" ?_); refine xE_bty gn ?qa T.n_str boot_str ?_; (case qa => (repeat (first | with_reducible exact In.z | with_reducible apply In.s)))) | ((with_reducible refine chkN "PoolError" ?_); refine xE_cls gn ?qa T.g_PoolError ?_; (case qa => (repeat (first | with_reducible exact In.z | with_reducible apply In.s)))) | ((with_reducible refine chkN "InvalidNumber" ?_); refine xE_cls gn ?qa T.g_InvalidNumber ?_; (case qa => (repeat (first | with_reducible exact In.z | with_reducible apply In.s)))) | ((with_reducible refine chkN "Ratio" ?_); refine xE_cls gn ?qa T.g_Ratio ?_; (case qa => (repeat (first | with_reducible exact In.z | with_reducible apply In.s)))) | ((with_reducible refine chkC "Ratio" ?_); refine xE_make gn ?qa T.g_Ratio T.mk_Ratio.kp ?_; (case qa => (repeat (first | with_reducible exact In.z | with_reducible apply In.s)))) | ((with_reducible refine chkA "top" ?_); refine wE_top T ?_) | ((with_reducible refine chkA "bottom" ?_); refine wE_bot T ?_) | ((with_reducible refine wF_isRt ?qc ?_); (case qc => exact T.own_Ratio)) | with_reducible refine wF_isII ?_ | with_reducible refine wF_isIB ?_ | with_reducible refine wF_isBB ?_ | ((with_reducible refine wF_R2 T g.toGd ?qc1 ?qc2 ?_); (case qc1 => (first | assumption | omega)); (case qc2 => exact lt_pow_mono (n := 64) (by (first | assumption | omega)) (by decide))) | with_reducible refine wF_R1 T g.toGd ?_)))
local macro_rules | `(tactic| walk_at "e") => `(tactic| repeat (first | (refine wE_name gn ?_; (repeat (first | with_reducible refine wGt_z ?_ | with_reducible refine wGt_c ?_ | with_reducible refine wGt_s ?_ | with_reducible refine wGt_f ?_)); fail_if_success refine wGt_chk ?_) | refine wE_int ?_ | refine wE_bin ?_ | refine wE_sub ?_ | refine wE_cmp ?_ | refine wE_tup ?_ | refine wE_lst ?_ | refine wE_str ?_ | refine wE_bl ?_ | refine wE_non ?_ | refine wE_not ?_ | refine wE_and ?_ | refine wE_or ?_ | refine wE_one ?_ | refine wE_un ?_ | refine wE_if ?_ | with_reducible refine wB_add ?_ | with_reducible refine wB_sub ?_ | ((with_reducible refine wB_mulR ?qc ?_); (case qc => exact ⟨by (first | assumption | omega), by (first | assumption | omega)⟩)) | ((with_reducible refine wB_mulL ?qc ?_); (case qc => exact ⟨by (first | assumption | omega), by (first | assumption | omega)⟩)) | ((with_reducible refine wB_mod ?qc ?_); (case qc => (first | assumption | omega))) | ((with_reducible refine wB_fdivS ?qc ?_); (case qc => exact ⟨by (first | assumption | omega), by (first | assumption | omega)⟩)) | with_reducible refine wB_lt ?_ | with_reducible refine wB_le ?_ | with_reducible refine wB_gt ?_ | with_reducible refine wB_ge ?_ | with_reducible refine wB_eq ?_ | with_reducible refine wB_ne ?_ | with_reducible refine wB_eqT ?_ | with_reducible refine wB_neT ?_ | with_reducible refine wB_eqB ?_ | with_reducible refine wB_neB ?_ | with_reducible refine wB_is ?_ | with_reducible refine wB_isNot ?_ | with_reducible refine wU_neg ?_ | with_reducible refine wB_pow5 ?_ | with_reducible refine wB_pow6 ?_ | with_reducible refine wB_pow7 ?_ | with_reducible refine wB_pow8 ?_ | with_reducible refine wB_pow9 ?_ | with_reducible refine wB_pow18 ?_ | refine wA_cons ?_ | refine wA_nil ?_ | refine wG_tup g.calm ?_ | refine wGs_cons ?_ | refine wGs_nil ?_ | refine wG_name gn ?_ | with_reducible refine wPt_z ?_ | with_reducible refine wPt_c ?_ | with_reducible refine wPt_s ?_ | refine Exists.intro _ (And.intro rfl ?_) | refine And.intro (by (simp only [List.length_cons, List.length_nil]; decide)) ?_ | refine Exists.intro _ (Exists.intro _ (And.intro rfl ?_)) | refine Exists.intro _ (Exists.intro _ (Exists.intro _ (And.intro rfl ?_))) | refine Exists.intro _ (Exists.intro _ (Exists.intro _ (Exists.intro _ (And.intro rfl (And.intro rfl (And.intro (by (first | assumption | with_reducible exact at_last | with_reducible exact at_new rfl | with_reducible exact at_left (by assumption) | with_reducible exact List.getElem?_set_self (by assumption) | with_reducible exact at_left (at_left (by assumption)))) (And.intro rfl ?_))))))) | refine wC_cmp ?_ | refine wC_not ?_ | refine wC_bool ?_ | refine wCw_and ?_ | refine wCw_or ?_ | refine wCw_and1 ?_ | refine wCw_or1 ?_ | refine wC_val ?_ | ((with_reducible refine chkC "len" ?_); refine xE_blt gn ?qa T.n_len boot_len ?_; (case qa => (repeat (first | with_reducible exact In.z | with_reducible apply In.s)))) | ((with_reducible refine chkC "int" ?_); refine xE_bcl gn ?qa T.n_int boot_int ?_; (case qa => (repeat (first | with_reducible exact In.z | with_reducible apply In.s)))) | ((with_reducible refine chkC "abs" ?_); refine xE_blt gn ?qa T.n_abs boot_abs ?_; (case qa => (repeat (first | with_reducible exact In.z | with_reducible apply In.s)))) | ((with_reducible refine chkC "max" ?_); refine xE_blt gn ?qa T.n_max boot_max ?_; (case qa => (repeat (first | with_reducible exact In.z | with_reducible apply In.s)))) | ((with_reducible refine chkC "min" ?_); refine xE_blt gn ?qa T.n_min boot_min ?_; (case qa => (repeat (first | with_reducible exact In.z | with_reducible apply In.s)))) | ((with_reducible refine chkC "str" ?_); refine xE_bcl gn ?qa T.n_str boot_str ?_; (case qa => (repeat (first | with_reducible exact In.z | with_reducible apply In.s)))) | ((with_reducible refine chkC "repr" ?_); refine xE_blt gn ?qa T.n_repr boot_repr ?_; (case qa => (repeat (first | with_reducible exact In.z | with_reducible apply In.s)))) | ((with_reducible refine chkC "isinstance" ?_); refine xE_blt gn ?qa T.n_isinstance boot_isinstance ?_; (case qa => (repeat (first | with_reducible exact In.z | with_reducible apply In.s)))) | ((with_reducible refine chkC "bool" ?_); refine xE_bcl gn ?qa T.n_bool boot_bool ?_; (case qa => (repeat (first | with_reducible exact In.z | with_reducible apply In.s)))) | ((with_reducible refine chkC "all" ?_); refine xE_blt gn ?qa T.n_all boot_all ?_; (case qa => (repeat (first | with_reducible exact In.z | with_reducible apply In.s)))) | ((with_reducible refine chkC "_law_box" ?_); refine xE_call T.f_w_box g ?qa T.g_w_box T.F_w_box.kp T.b_w_box ?_; (case qa => (repeat (first | with_reducible exact In.z | with_reducible apply In.s)))) | ((with_reducible refine chkC "_law_take" ?_); refine xE_call T.f_w_take g ?qa T.g_w_take T.F_w_take.kp T.b_w_take ?_; (case qa => (repeat (first | with_reducible exact In.z | with_reducible apply In.s)))) | ((with_reducible refine chkC "_law_lowest" ?_); refine xE_call T.f_w_lowest g ?qa T.g_w_lowest T.F_w_lowest.kp T.b_w_lowest ?_; (case qa => (repeat (first | with_reducible exact In.z | with_reducible apply In.s)))) | ((with_reducible refine chkC "_law_integer" ?_); refine xE_call T.f_w_integer g ?qa T.g_w_integer T.F_w_integer.kp T.b_w_integer ?_; (case qa => (repeat (first | with_reducible exact In.z | with_reducible apply In.s)))) | ((with_reducible refine chkC "_law_is" ?_); refine xE_call T.f_w_is g ?qa T.g_w_is T.F_w_is.kp T.b_w_is ?_; (case qa => (repeat (first | with_reducible exact In.z | with_reducible apply In.s)))) | ((with_reducible refine chkC "_law_text" ?_); refine xE_call T.f_w_text g ?qa T.g_w_text T.F_w_text.kp T.b_w_text ?_; (case qa => (repeat (first | with_reducible exact In.z | with_reducible apply In.s)))) | ((with_reducible refine chkC "_law_told_right" ?_); refine xE_call T.f_w_told_right g ?qa T.g_w_told_right T.F_w_told_right.kp T.b_w_told_right ?_; (case qa => (repeat (first | with_reducible exact In.z | with_reducible apply In.s)))) | ((with_reducible refine chkC "_law_refused" ?_); refine xE_call T.f_w_refused g ?qa T.g_w_refused T.F_w_refused.kp T.b_w_refused ?_; (case qa => (repeat (first | with_reducible exact In.z | with_reducible apply In.s)))) | (refine sp_take T (by (first | assumption | with_reducible exact at_last | with_reducible exact at_new rfl | with_reducible exact at_left (by assumption) | with_reducible exact List.getElem?_set_self (by assumption) | with_reducible exact at_left (at_left (by assumption)))) (by (first | assumption | omega)) (by (first | assumption | omega)) ?_; intro d h0 h1) | ((with_reducible refine chkB "len" ?_); refine wF_len (by (first | exact .inl rfl | exact .inr (.inl rfl) | exact .inr (.inr (.inl rfl)) | exact .inr (.inr (.inr ⟨_, rfl, by (first | assumption | with_reducible exact at_last | with_reducible exact at_new rfl | with_reducible exact at_left (by assumption) | with_reducible exact List.getElem?_set_self (by assumption) | with_reducible exact at_left (at_left (by assumption)))⟩)))) ?_) | with_reducible refine wF_intB ?_ | with_reducible refine wF_boolB ?_ | with_reducible refine wF_abs ?_ | with_reducible refine wF_max g.toGd ?_ | with_reducible refine wF_min g.toGd ?_ | refine wX_if2I (by (first | exact .inl rfl | exact .inr (.inl rfl) | exact .inr (.inr (.inl rfl)) | exact .inr (.inr (.inr ⟨_, rfl, by (first | assumption | with_reducible exact at_last | with_reducible exact at_new rfl | with_reducible exact at_left (by assumption) | with_reducible exact List.getElem?_set_self (by assumption) | with_reducible exact at_left (at_left (by assumption)))⟩)))) ?_ | refine wX_if2 (by (first | exact .inl rfl | exact .inr (.inl rfl) | exact .inr (.inr (.inl rfl)) | exact .inr (.inr (.inr ⟨_, rfl, by (first | assumption | with_reducible exact at_last | with_reducible exact at_new rfl | with_reducible exact at_left (by assumption) | with_reducible exact List.getElem?_set_self (by assumption) | with_reducible exact at_left (at_left (by assumption)))⟩)))) ?_ | refine wX_at (by (first | exact .inl rfl | exact .inr (.inl rfl) | exact .inr (.inr (.inl rfl)) | exact .inr (.inr (.inr ⟨_, rfl, by (first | assumption | with_reducible exact at_last | with_reducible exact at_new rfl | with_reducible exact at_left (by assumption) | with_reducible exact List.getElem?_set_self (by assumption) | with_reducible exact at_left (at_left (by assumption)))⟩)))) rfl ?_ | (refine wX_ints (by (first | exact .inl rfl | exact .inr (.inl rfl) | exact .inr (.inr (.inl rfl)) | exact .inr (.inr (.inr ⟨_, rfl, by (first | assumption | with_reducible exact at_last | with_reducible exact at_new rfl | with_reducible exact at_left (by assumption) | with_reducible exact List.getElem?_set_self (by assumption) | with_reducible exact at_left (at_left (by assumption)))⟩)))) (by (repeat (first | exact Ints.nil | apply Ints.cons))) (by (first | assumption | omega)) (by (simp only [List.length_cons, List.length_nil]; omega)) ?_; intro v hv; simp only [List.mem_cons, List.not_mem_nil, or_false] at hv) | ((with_reducible refine chkN "int" ?_); refine xE_bty gn ?qa T.n_int boot_int ?_; (case qa => (repeat (first | with_reducible exact In.z | with_reducible apply In.s)))) | ((with_reducible refine chkN "bool" ?_); refine xE_bty gn ?qa T.n_bool boot_bool ?_; (case qa => (repeat (first | with_reducible exact In.z | with_reducible apply In.s)))) | ((with_reducible refine chkN "str" ?_); refine xE_bty gn ?qa T.n_str boot_str ?_; (case qa => (repeat (first | with_reducible exact In.z | with_reducible apply In.s)))) | ((with_reducible refine chkN "PoolError" ?_); refine xE_cls gn ?qa T.g_PoolError ?_; (case qa => (repeat (first | with_reducible exact In.z | with_reducible apply In.s)))) | ((with_reducible refine chkN "InvalidNumber" ?_); refine xE_cls gn ?qa T.g_InvalidNumber ?_; (case qa => (repeat (first | with_reducible exact In.z | with_reducible apply In.s)))) | ((with_reducible refine chkN "Ratio" ?_); refine xE_cls gn ?qa T.g_Ratio ?_; (case qa => (repeat (first | with_reducible exact In.z | with_reducible apply In.s)))) | ((with_reducible refine chkC "Ratio" ?_); refine xE_make gn ?qa T.g_Ratio T.mk_Ratio.kp ?_; (case qa => (repeat (first | with_reducible exact In.z | with_reducible apply In.s)))) | ((with_reducible refine chkA "top" ?_); refine wE_top T ?_) | ((with_reducible refine chkA "bottom" ?_); refine wE_bot T ?_) | ((with_reducible refine wF_isRt ?qc ?_); (case qc => exact T.own_Ratio)) | with_reducible refine wF_isII ?_ | with_reducible refine wF_isIB ?_ | with_reducible refine wF_isBB ?_ | ((with_reducible refine wF_R2 T g.toGd ?qc1 ?qc2 ?_); (case qc1 => (first | assumption | omega)); (case qc2 => exact lt_pow_mono (n := 64) (by (first | assumption | omega)) (by decide))) | with_reducible refine wF_R1 T g.toGd ?_))
local macro_rules | `(tactic| walk_at "start") => `(tactic| (intro ρ hρ cdv A outer s H E g; simp only [startD, List.map_cons, List.map_nil, List.length_cons, List.length_nil, List.replicate_succ, List.replicate_zero, List.cons_append, List.nil_append, Nat.reduceAdd, Nat.reduceSub] at hρ; subst hρ; have gn := g.toNx'))
local macro_rules | `(tactic| walk_at "suite") => `(tactic| (intro a dd oe pn hz hv gn ρs hρ; simp only [List.set_cons_succ, List.set_cons_zero] at hρ; subst hρ))
local macro_rules | `(tactic| walk_at "after") => `(tactic| (intro ρs hρ; simp only [List.set_cons_succ, List.set_cons_zero] at hρ; subst hρ))
local macro_rules | `(tactic| walk_at "blk") => `(tactic| (intro s H C cl fp g; have gn := g.toNx'))
section
variable {X : Cx} {W : WX} {ρ : Env'} {μ : List M} {a b : Expr} {rest : List Expr} {pos : Pos} {Q : KV} {Z : KX}
theorem wE_orI (h : wE X W ρ μ a (fun d μ1 => ∃ i : Int, d = .int i ∧ if i = 0 then wE X W ρ μ1 (.BoolOp .Or (b :: rest) pos) Q Z else Q (.int i) μ1) Z) : wE X W ρ μ (.BoolOp .Or (a :: b :: rest) pos) Q Z :=
  ⟨pe_of (pe_orT h.run aE_ok) fun σ H R ⟨L, G, n, v, x⟩ => ⟨L, G, n, fun d μ1 ⟨i, e, q⟩ u L1 G1 H1 s1 o1 r1 => by
    subst e
    refine ⟨i != 0, by rw [rep_int.mp r1]; rfl, ?_⟩
    by_cases hi : i = 0
    · subst hi
      rw [if_pos rfl] at q
      exact iteF ⟨_, q.run, L1, G1, n.step s1 o1, v.step s1, x.step s1⟩
    · rw [if_neg hi] at q
      rw [if_pos (by simpa using hi)]
      exact v _ _ q _ L1 G1 H1 s1 o1 r1, x⟩⟩
/-- a or c, c a written int -/
theorem wE_orC {c : Int} {j : Nat} {cpos : Pos} (h : wE X W ρ μ a (fun d μ1 => ∃ i : Int, d = .int i ∧ Q (.int (if i = 0 then c else i)) μ1) Z) : wE X W ρ μ (.BoolOp .Or [a, .Constant (.int c) j cpos] pos) Q Z :=
  wE_orI (h.imp fun d μ1 ⟨i, e, q⟩ => ⟨i, e, by
    by_cases hi : i = 0
    · rw [if_pos hi] at q ⊢
      exact wE_one (wE_int q)
    · rw [if_neg hi] at q ⊢
      exact q⟩)
end
section
variable {P : Program} {w : World} {K : PySem.W.Frag} {mg : Str → Option Value} {base : Heap} (T : Tx K mg)
abbrev lvl_law : Nat := 43
theorem binds_law (T : Tx K mg) (s : Shared) (u : Value) : BindsTo s T.fd_law ⟨[u], []⟩ [("_law_script", u)] := by
  obtain ⟨oc, od, dV, kV, doc, pm, an, cdv, ct, osl, e, look, hcode, hD, _⟩ := T.F_law.ex
  rcases hD with ⟨_, rfl⟩ | ⟨z, _⟩
  · rw [e]
    exact .of_eq rfl
  · exact (z rfl).elim
theorem mem_range {d : D} {n : Nat} (h : d ∈ rangeD 0 n) : ∃ i : Nat, i < n ∧ d = .int (i : Int) := by
  obtain ⟨i, hi, rfl⟩ := List.mem_map.mp h
  exact ⟨i, List.mem_range.mp hi, by simp⟩
/-- what the law asks of one ratio -/
theorem asked {q : Rat} {μ : List M} {ρ : Env'} (hq : Fit 1000 q) : True := trivial
theorem ok_law : FnG P w K mg base lvl_law T.a_law T.fd_law ["_law_script"] (spR K (RLaw Scr)) := by
  refine SpF.rel (f := T.f_law) ?_
  rintro ds μ o ⟨ns, hs, rfl, rfl, rfl⟩
  refine spX_of T.F_law sc_law ck_law rfl ?_
  walk_at "start"
  refine wSs_cons (wS_for g.po g.calm (wI_range1 T.n_range ?_))
  walk_at "e"
  refine ⟨⟨by omega, by omega⟩, ?_⟩
  refine wFor_inv (fun ds ρ μ => (∀ d ∈ ds, ∃ i : Nat, i < 7 ∧ d = .int i) ∧ ∃ o1 o2 o3 o4 o5 o6 o7 o8, ρ = [some (.scr (ns.map D.int)), o1, o2, o3, o4, o5, o6, o7, o8]) ?_ ?_ _ _ _ ⟨fun d hd => ?_, _, _, _, _, _, _, _, _, rfl⟩
  rotate_left
  · rintro ρ μ ⟨_, o1, o2, o3, o4, o5, o6, o7, o8, rfl⟩
    walk_at "wp"
    exact RetOk.low (μ := []) rfl rfl
  · obtain ⟨i, hi, rfl⟩ := mem_range hd
    exact ⟨i, by omega, rfl⟩
  rintro d ds ρ μ ⟨hds, o1, o2, o3, o4, o5, o6, o7, o8, rfl⟩
  obtain ⟨i, hi, rfl⟩ := hds d (by simp)
  have hrest : ∀ d ∈ ds, ∃ i : Nat, i < 7 ∧ d = .int i := fun d hd => hds d (by simp [hd])
  walk_at "e"
  walk_at "s1"
  refine sp_box T (by omega) (by omega) ?_
  walk_at "e"
  walk_at "s1"
  refine sp_integer T at_last fun up hup => ?_
  refine wA_cons (wE_orC ?_)
  walk_at "e"
  refine sp_integer T at_last fun lo0 hlo0 => ⟨lo0, rfl, ?_⟩
  obtain ⟨lo, hlo⟩ : ∃ lo, (if lo0 = 0 then 1 else lo0) = lo := ⟨_, rfl⟩
  rw [hlo]
  have hl0 : lo ≠ 0 := by rw [← hlo]; split <;> omega
  have hl1 : lo.natAbs ≤ 1000000000 := by rw [← hlo]; split <;> omega
  clear hlo hlo0 lo0
  have hz : lo.natAbs < 2 ^ 9000 := lt_pow_mono (n := 64) (by omega) (by decide)
  have hf : Fit 1000 (Rat.divInt up lo) := (fit_divInt (n := 64) (by omega) (by omega) hl0).mono (by decide)
  have hu : Fit 1000 (up : Rat) := (fit_int (n := 64) (by omega) (by decide)).mono (by decide)
  walk_at "e"
  walk_at "s1"
  refine sp_lowest T hl0 hz ?_
  walk_at "e"
  generalize hq : Rat.divInt up lo = q at *
  refine wSs_cons (wS_for g.po g.calm (wI_tup ?_))
  walk_at "e"
  refine xE_makeK (f := T.f_Ratio_init) (q := [1, 0]) g (by walk_at "in") T.g_Ratio T.mk_Ratio (kb_init T) (ok_Ratio_init T) ?_
  refine wK_cons ?_
  walk_at "e"
  refine wK_cons ?_
  walk_at "e"
  refine wK_nil ⟨rfl, _, mkR T hl0 hz, ?_⟩
  show wA _ _ _ _ _ _ _
  rw [hq]
  refine wA_cons (wE_cmeth T.f_Ratio_of g.toGd T.cr_Ratio T.cm_Ratio_of T.b_Ratio_of ?_)
  walk_at "e"
  refine ⟨rfl, ?_⟩
  walk_at "e"
  refine sp_of T (.rt q) ?_
  walk_at "e"
  rw [hq]
  have hμ : (μ ++ [M.box])[μ.length]? = some .box := at_last
  generalize hm : μ ++ [M.box] = μ1 at *
  refine wFor_inv (fun ds ρ μ' => (∀ d ∈ ds, d = rt T.C_Ratio q) ∧ μ1 = μ' ∧ ∃ o7, ρ = [some (.scr (ns.map D.int)), some (.int i), some (.loc μ.length), some (.int up), some (.int lo), some (pr q), some (rt T.C_Ratio q), o7, o8]) ?_ ?_ _ _ _ ⟨fun d hd => ?_, rfl, _, rfl⟩
  rotate_right
  · simpa using hd
  · rintro d ds ρ μ' ⟨hd, rfl, o7, rfl⟩
    obtain rfl := hd d (by simp)
    have hds : ∀ d ∈ ds, d = rt T.C_Ratio q := fun d h => hd d (by simp [h])
    walk_at "e"
    walk_at "s1"
    refine sp_is T ?_
    walk_at "e"
    refine sp_told T hf ?_
    walk_at "e"
    refine wSs_nil (wSs_nil ⟨hds, rfl, _, rfl⟩)
  rintro ρ μ' ⟨_, rfl, o7, rfl⟩
  refine wSs_cons (wS_for g.po g.calm (wI_tup ?_))
  walk_at "e"
  refine wE_cmeth T.f_Ratio_of g.toGd T.cr_Ratio T.cm_Ratio_of T.b_Ratio_of ?_
  walk_at "e"
  refine ⟨rfl, ?_⟩
  walk_at "e"
  refine sp_of T (.int up) ?_
  walk_at "e"
  refine wE_cmethK T.f_Ratio_of g.toGd T.cr_Ratio T.cm_Ratio_of (kb_of T) ?_
  walk_at "e"
  refine ⟨rfl, ?_⟩
  refine wK_cons ?_
  walk_at "e"
  refine wK_nil ⟨rfl, ?_⟩
  refine sp_of T (.int up) ?_
  walk_at "e"
  refine wFor_inv (fun ds ρ μ' => (∀ d ∈ ds, d = rt T.C_Ratio (up : Rat)) ∧ μ1 = μ' ∧ ∃ o7, ρ = [some (.scr (ns.map D.int)), some (.int i), some (.loc μ.length), some (.int up), some (.int lo), some (pr q), some (rt T.C_Ratio q), o7, o8]) ?_ ?_ _ _ _ ⟨fun d hd => ?_, rfl, _, rfl⟩
  rotate_right
  · simpa using hd
  · rintro d ds ρ μ' ⟨hd, rfl, o7, rfl⟩
    obtain rfl := hd d (by simp)
    have hds : ∀ d ∈ ds, d = rt T.C_Ratio (up : Rat) := fun d h => hd d (by simp [h])
    walk_at "e"
    walk_at "s1"
    refine sp_is T (q := (up : Rat)) ?_
    walk_at "e"
    refine sp_told T (q := (up : Rat)) hu ?_
    walk_at "e"
    refine wSs_nil (wSs_nil ⟨hds, rfl, _, rfl⟩)
  rintro ρ μ' ⟨_, rfl, o7, rfl⟩
  walk_at "s1"
  refine sp_refused T (.inl ⟨rfl, ⟨_, rfl⟩, rfl⟩) ?_
  walk_at "e"
  refine .of (o := .ret _ _) (oc_neD g.toGd (p := .tuple [.int 0]) (q := .tuple [.int 0]) rfl rfl rfl rfl) ⟨_, rfl, ?_⟩
  refine br_F rfl ?_
  walk_at "e"
  refine sp_refused T (.inr (.inl ⟨rfl, ⟨_, rfl⟩, rfl⟩)) ?_
  walk_at "e"
  refine .of (o := .ret _ _) (oc_neD g.toGd (p := .tuple [.int 0]) (q := .tuple [.int 0]) rfl rfl rfl rfl) ⟨_, rfl, ?_⟩
  refine br_F rfl (wSs_nil ?_)
  refine wSs_cons (wS_for g.po g.calm (wI_tup ?_))
  walk_at "e"
  let things : List PyData := [.str "", .str "3", .str "1/2", .str "-3/4", .none, .bool true, .bool false, .tuple [], .tuple [.int 1, .int 2], .tuple [.tuple [.int 1], .str "a"]]
  refine wFor_inv (fun ds ρ μ' => (∀ d ∈ ds, Kn K T.C_Ratio d false ∧ ∃ p : PyData, p ∈ things ∧ D.py d = some p) ∧ μ1 = μ' ∧ ∃ o7 o8, ρ = [some (.scr (ns.map D.int)), some (.int i), some (.loc μ.length), some (.int up), some (.int lo), some (pr q), some (rt T.C_Ratio q), o7, o8]) ?_ ?_ _ _ _ ⟨fun d hd => ?_, rfl, _, _, rfl⟩
  rotate_right
  · simp only [List.mem_cons, List.not_mem_nil, or_false] at hd
    rcases hd with rfl | rfl | rfl | rfl | rfl | rfl | rfl | rfl | rfl | rfl
    · exact ⟨.str _, .str "", by simp [things], rfl⟩
    · exact ⟨.str _, .str "3", by simp [things], rfl⟩
    · exact ⟨.str _, .str "1/2", by simp [things], rfl⟩
    · exact ⟨.str _, .str "-3/4", by simp [things], rfl⟩
    · exact ⟨.non, .none, by simp [things], rfl⟩
    · exact ⟨.bl _, .bool true, by simp [things], rfl⟩
    · exact ⟨.bl _, .bool false, by simp [things], rfl⟩
    · exact ⟨.tup _, .tuple [], by simp [things], rfl⟩
    · exact ⟨.tup _, .tuple [.int 1, .int 2], by simp [things], rfl⟩
    · exact ⟨.tup _, .tuple [.tuple [.int 1], .str "a"], by simp [things], rfl⟩
  · rintro d ds ρ μ' ⟨hd, rfl, o7, o8, rfl⟩
    obtain ⟨kn, p, hp, ep⟩ := hd d (by simp)
    have hds : ∀ d ∈ ds, Kn K T.C_Ratio d false ∧ ∃ p : PyData, p ∈ things ∧ D.py d = some p := fun d h => hd d (by simp [h])
    have fits : (PyData.tuple [p]).showable = true ∧ (PyData.tuple [p]).shown.length ≤ sizeLine ∧ (PyData.tuple [p]).depth ≤ 100 := by
      simp only [things, List.mem_cons, List.not_mem_nil, or_false] at hp
      rcases hp with rfl | rfl | rfl | rfl | rfl | rfl | rfl | rfl | rfl | rfl <;> exact ⟨by decide +kernel, by decide +kernel, by decide +kernel⟩
    have ep1 : D.py (.tup [d]) = some (.tuple [p]) := by simp only [D.py, D.pys, ep, Option.bind_some, Option.map_some]
    walk_at "e"
    walk_at "s1"
    refine sp_refused T (.inr (.inr ⟨rfl, kn, rfl⟩)) ?_
    walk_at "e"
    refine .of (o := .ret _ _) (cb_repr g.toGd ep1 fits.1 fits.2.1 fits.2.2) ?_
    show wE _ _ _ _ _ _ _
    walk_at "e"
    refine .of (o := .ret _ _) (cb_repr g.toGd ep1 fits.1 fits.2.1 fits.2.2) ?_
    show wB _ _ _ _ _ _ _ _
    walk_at "e"
    refine br_F (by simp) (wSs_nil (wSs_nil ⟨hds, rfl, _, _, rfl⟩))
  rintro ρ μ' ⟨_, rfl, o7, o8, rfl⟩
  refine wSs_nil ⟨hrest, _, _, _, _, _, _, _, _, rfl⟩
end
end PM
set_option Elab.async false
set_option linter.all false
set_option maxRecDepth 100000
set_option maxHeartbeats 4000000
namespace PM
open PySem L2
theorem tx_mk {K : PySem.W.Frag} {h : Heap} {mg : Str → Option Value} {fa : Addr} (X : K.In h) (G : h.Ns mainGlobals mg) (hfa : mg "law" = some (.ref fa))
    {C_PoolError : Addr}
    {nm_PoolError q_PoolError : Str} {N_PoolError : Addr} {bs_PoolError : List Value} {sn_PoolError : List Str} {sub_PoolError : List Value} {ab_PoolError : Bool} {col_PoolError : Option Bool} {dd_PoolError : Option Addr} {m0_PoolError m1_PoolError m2_PoolError m3_PoolError m5_PoolError : Option Value}
    {C_InvalidNumber : Addr}
    {nm_InvalidNumber q_InvalidNumber : Str} {N_InvalidNumber : Addr} {bs_InvalidNumber : List Value} {sn_InvalidNumber : List Str} {sub_InvalidNumber : List Value} {ab_InvalidNumber : Bool} {col_InvalidNumber : Option Bool} {dd_InvalidNumber : Option Addr} {m0_InvalidNumber m1_InvalidNumber m2_InvalidNumber m3_InvalidNumber m5_InvalidNumber : Option Value}
    {C_Ratio : Addr}
    {lo_Ratio : Value} {ld_Ratio : Option Addr} {lc_Ratio : ClassData} {ls_Ratio : Array (Option Value)}
    {a_InvalidNumber_init : Addr} {oc_InvalidNumber_init kV_InvalidNumber_init dc_InvalidNumber_init pm_InvalidNumber_init cd_InvalidNumber_init ct_InvalidNumber_init : Value} {od_InvalidNumber_init an_InvalidNumber_init : Option Addr} {sl_InvalidNumber_init : Array (Option Value)}
    {a_is_integer : Addr} {oc_is_integer kV_is_integer dc_is_integer pm_is_integer cd_is_integer ct_is_integer : Value} {od_is_integer an_is_integer : Option Addr} {sl_is_integer : Array (Option Value)}
    {a_is_number : Addr} {oc_is_number kV_is_number dc_is_number pm_is_number cd_is_number ct_is_number : Value} {od_is_number an_is_number : Option Addr} {sl_is_number : Array (Option Value)}
    {a_as_ratio : Addr} {oc_as_ratio kV_as_ratio dc_as_ratio pm_as_ratio cd_as_ratio ct_as_ratio : Value} {od_as_ratio an_as_ratio : Option Addr} {sl_as_ratio : Array (Option Value)}
    {a_common_divisor : Addr} {oc_common_divisor kV_common_divisor dc_common_divisor pm_common_divisor cd_common_divisor ct_common_divisor : Value} {od_common_divisor an_common_divisor : Option Addr} {sl_common_divisor : Array (Option Value)}
    {a_digits_value : Addr} {oc_digits_value kV_digits_value dc_digits_value pm_digits_value cd_digits_value ct_digits_value : Value} {od_digits_value an_digits_value : Option Addr} {sl_digits_value : Array (Option Value)}
    {a_Ratio_init : Addr} {oc_Ratio_init kV_Ratio_init dc_Ratio_init pm_Ratio_init cd_Ratio_init ct_Ratio_init : Value} {od_Ratio_init an_Ratio_init : Option Addr} {sl_Ratio_init : Array (Option Value)}
    {T_Ratio_init : Addr} {nn_Ratio_init : Nat}
    {dk_Ratio_init : Tok} {cl_Ratio_init : Value} {sd_Ratio_init : Option Addr} {ss_Ratio_init : Array (Option Value)}
    {a_Ratio_of : Addr} {oc_Ratio_of kV_Ratio_of dc_Ratio_of pm_Ratio_of cd_Ratio_of ct_Ratio_of : Value} {od_Ratio_of an_Ratio_of : Option Addr} {sl_Ratio_of : Array (Option Value)}
    {p_Ratio_of : Addr} {r_Ratio_of : List Value}
    {a_Ratio_read : Addr} {oc_Ratio_read kV_Ratio_read dc_Ratio_read pm_Ratio_read cd_Ratio_read ct_Ratio_read : Value} {od_Ratio_read an_Ratio_read : Option Addr} {sl_Ratio_read : Array (Option Value)}
    {p_Ratio_read : Addr} {r_Ratio_read : List Value}
    {a_Ratio_is_whole : Addr} {oc_Ratio_is_whole kV_Ratio_is_whole dc_Ratio_is_whole pm_Ratio_is_whole cd_Ratio_is_whole ct_Ratio_is_whole : Value} {od_Ratio_is_whole an_Ratio_is_whole : Option Addr} {sl_Ratio_is_whole : Array (Option Value)}
    {p_Ratio_is_whole : Addr} {r_Ratio_is_whole : List Value}
    {a_Ratio_floor : Addr} {oc_Ratio_floor kV_Ratio_floor dc_Ratio_floor pm_Ratio_floor cd_Ratio_floor ct_Ratio_floor : Value} {od_Ratio_floor an_Ratio_floor : Option Addr} {sl_Ratio_floor : Array (Option Value)}
    {p_Ratio_floor : Addr} {r_Ratio_floor : List Value}
    {a_Ratio_over : Addr} {oc_Ratio_over kV_Ratio_over dc_Ratio_over pm_Ratio_over cd_Ratio_over ct_Ratio_over : Value} {od_Ratio_over an_Ratio_over : Option Addr} {sl_Ratio_over : Array (Option Value)}
    {a_Ratio_repr : Addr} {oc_Ratio_repr kV_Ratio_repr dc_Ratio_repr pm_Ratio_repr cd_Ratio_repr ct_Ratio_repr : Value} {od_Ratio_repr an_Ratio_repr : Option Addr} {sl_Ratio_repr : Array (Option Value)}
    {a_Ratio_str : Addr} {oc_Ratio_str kV_Ratio_str dc_Ratio_str pm_Ratio_str cd_Ratio_str ct_Ratio_str : Value} {od_Ratio_str an_Ratio_str : Option Addr} {sl_Ratio_str : Array (Option Value)}
    {a_Ratio_bool : Addr} {oc_Ratio_bool kV_Ratio_bool dc_Ratio_bool pm_Ratio_bool cd_Ratio_bool ct_Ratio_bool : Value} {od_Ratio_bool an_Ratio_bool : Option Addr} {sl_Ratio_bool : Array (Option Value)}
    {a_Ratio_neg : Addr} {oc_Ratio_neg kV_Ratio_neg dc_Ratio_neg pm_Ratio_neg cd_Ratio_neg ct_Ratio_neg : Value} {od_Ratio_neg an_Ratio_neg : Option Addr} {sl_Ratio_neg : Array (Option Value)}
    {a_Ratio_abs : Addr} {oc_Ratio_abs kV_Ratio_abs dc_Ratio_abs pm_Ratio_abs cd_Ratio_abs ct_Ratio_abs : Value} {od_Ratio_abs an_Ratio_abs : Option Addr} {sl_Ratio_abs : Array (Option Value)}
    {a_Ratio_add : Addr} {oc_Ratio_add kV_Ratio_add dc_Ratio_add pm_Ratio_add cd_Ratio_add ct_Ratio_add : Value} {od_Ratio_add an_Ratio_add : Option Addr} {sl_Ratio_add : Array (Option Value)}
    {a_Ratio_radd : Addr} {oc_Ratio_radd kV_Ratio_radd dc_Ratio_radd pm_Ratio_radd cd_Ratio_radd ct_Ratio_radd : Value} {od_Ratio_radd an_Ratio_radd : Option Addr} {sl_Ratio_radd : Array (Option Value)}
    {a_Ratio_sub : Addr} {oc_Ratio_sub kV_Ratio_sub dc_Ratio_sub pm_Ratio_sub cd_Ratio_sub ct_Ratio_sub : Value} {od_Ratio_sub an_Ratio_sub : Option Addr} {sl_Ratio_sub : Array (Option Value)}
    {a_Ratio_rsub : Addr} {oc_Ratio_rsub kV_Ratio_rsub dc_Ratio_rsub pm_Ratio_rsub cd_Ratio_rsub ct_Ratio_rsub : Value} {od_Ratio_rsub an_Ratio_rsub : Option Addr} {sl_Ratio_rsub : Array (Option Value)}
    {a_Ratio_mul : Addr} {oc_Ratio_mul kV_Ratio_mul dc_Ratio_mul pm_Ratio_mul cd_Ratio_mul ct_Ratio_mul : Value} {od_Ratio_mul an_Ratio_mul : Option Addr} {sl_Ratio_mul : Array (Option Value)}
    {a_Ratio_rmul : Addr} {oc_Ratio_rmul kV_Ratio_rmul dc_Ratio_rmul pm_Ratio_rmul cd_Ratio_rmul ct_Ratio_rmul : Value} {od_Ratio_rmul an_Ratio_rmul : Option Addr} {sl_Ratio_rmul : Array (Option Value)}
    {a_Ratio_floordiv : Addr} {oc_Ratio_floordiv kV_Ratio_floordiv dc_Ratio_floordiv pm_Ratio_floordiv cd_Ratio_floordiv ct_Ratio_floordiv : Value} {od_Ratio_floordiv an_Ratio_floordiv : Option Addr} {sl_Ratio_floordiv : Array (Option Value)}
    {a_Ratio_mod : Addr} {oc_Ratio_mod kV_Ratio_mod dc_Ratio_mod pm_Ratio_mod cd_Ratio_mod ct_Ratio_mod : Value} {od_Ratio_mod an_Ratio_mod : Option Addr} {sl_Ratio_mod : Array (Option Value)}
    {a_Ratio_eq : Addr} {oc_Ratio_eq kV_Ratio_eq dc_Ratio_eq pm_Ratio_eq cd_Ratio_eq ct_Ratio_eq : Value} {od_Ratio_eq an_Ratio_eq : Option Addr} {sl_Ratio_eq : Array (Option Value)}
    {a_Ratio_ne : Addr} {oc_Ratio_ne kV_Ratio_ne dc_Ratio_ne pm_Ratio_ne cd_Ratio_ne ct_Ratio_ne : Value} {od_Ratio_ne an_Ratio_ne : Option Addr} {sl_Ratio_ne : Array (Option Value)}
    {a_Ratio_lt : Addr} {oc_Ratio_lt kV_Ratio_lt dc_Ratio_lt pm_Ratio_lt cd_Ratio_lt ct_Ratio_lt : Value} {od_Ratio_lt an_Ratio_lt : Option Addr} {sl_Ratio_lt : Array (Option Value)}
    {a_Ratio_le : Addr} {oc_Ratio_le kV_Ratio_le dc_Ratio_le pm_Ratio_le cd_Ratio_le ct_Ratio_le : Value} {od_Ratio_le an_Ratio_le : Option Addr} {sl_Ratio_le : Array (Option Value)}
    {a_Ratio_gt : Addr} {oc_Ratio_gt kV_Ratio_gt dc_Ratio_gt pm_Ratio_gt cd_Ratio_gt ct_Ratio_gt : Value} {od_Ratio_gt an_Ratio_gt : Option Addr} {sl_Ratio_gt : Array (Option Value)}
    {a_Ratio_ge : Addr} {oc_Ratio_ge kV_Ratio_ge dc_Ratio_ge pm_Ratio_ge cd_Ratio_ge ct_Ratio_ge : Value} {od_Ratio_ge an_Ratio_ge : Option Addr} {sl_Ratio_ge : Array (Option Value)}
    {a_w_box : Addr} {oc_w_box kV_w_box dc_w_box pm_w_box cd_w_box ct_w_box : Value} {od_w_box an_w_box : Option Addr} {sl_w_box : Array (Option Value)}
    {a_w_take : Addr} {oc_w_take kV_w_take dc_w_take pm_w_take cd_w_take ct_w_take : Value} {od_w_take an_w_take : Option Addr} {sl_w_take : Array (Option Value)}
    {a_w_lowest : Addr} {oc_w_lowest kV_w_lowest dc_w_lowest pm_w_lowest cd_w_lowest ct_w_lowest : Value} {od_w_lowest an_w_lowest : Option Addr} {sl_w_lowest : Array (Option Value)}
    {a_w_integer : Addr} {oc_w_integer kV_w_integer dc_w_integer pm_w_integer cd_w_integer ct_w_integer : Value} {od_w_integer an_w_integer : Option Addr} {sl_w_integer : Array (Option Value)}
    {a_w_is : Addr} {oc_w_is kV_w_is dc_w_is pm_w_is cd_w_is ct_w_is : Value} {od_w_is an_w_is : Option Addr} {sl_w_is : Array (Option Value)}
    {a_w_text : Addr} {oc_w_text kV_w_text dc_w_text pm_w_text cd_w_text ct_w_text : Value} {od_w_text an_w_text : Option Addr} {sl_w_text : Array (Option Value)}
    {a_w_told_right : Addr} {oc_w_told_right kV_w_told_right dc_w_told_right pm_w_told_right cd_w_told_right ct_w_told_right : Value} {od_w_told_right an_w_told_right : Option Addr} {sl_w_told_right : Array (Option Value)}
    {a_w_refused : Addr} {oc_w_refused kV_w_refused dc_w_refused pm_w_refused cd_w_refused ct_w_refused : Value} {od_w_refused an_w_refused : Option Addr} {sl_w_refused : Array (Option Value)}
    {a_law : Addr} {oc_law kV_law dc_law pm_law cd_law ct_law : Value} {od_law an_law : Option Addr} {sl_law : Array (Option Value)}
    {fo_add ro_add : Option Value}
    {fo_floordiv ro_floordiv : Option Value}
    {fo_mod ro_mod : Option Value}
    {fo_mul ro_mul : Option Value}
    {fo_sub ro_sub : Option Value}
    {tk_DIGITS : Tok}
    {tk_MOST_DIGITS : Tok}
    (g_PoolError : PySem.W.nsIn K mainGlobals "PoolError" = some (some (.ref C_PoolError)))
    (x_PoolError : K.lookup C_PoolError = some (excClassObj nm_PoolError q_PoolError C_PoolError N_PoolError bs_PoolError [.type "ValueError", .type "Exception", .type "BaseException", .type "object"] true sn_PoolError sub_PoolError ab_PoolError col_PoolError dd_PoolError m0_PoolError m1_PoolError m2_PoolError m3_PoolError m5_PoolError "ValueError.__new__"))
    (sa_PoolError : PySem.W.findIn K (.ref C_PoolError) "__setattr__" = some (some (.builtin "object.__setattr__")))
    (ex_PoolError : PySem.W.subIn K (.ref C_PoolError) (.type "BaseException") = some true)
    (ty_PoolError : PySem.W.typeIn K (.ref C_PoolError) = some (.type "type"))
    (kp_PoolError : PySem.W.keepIn K (.ref C_PoolError) = true)
    (ur_PoolError : PySem.W.readsIn K C_PoolError (.type "type") = true)
    (ug_PoolError : PySem.W.specialIn K (.ref C_PoolError) "__getattribute__" = some (some (.builtin "type.__getattribute__")))
    (uf_PoolError : PySem.W.findCls K (.ref C_PoolError) (.type "type") "__init__" = some (.val (.builtin "ValueError.__init__")))
    (g_InvalidNumber : PySem.W.nsIn K mainGlobals "InvalidNumber" = some (some (.ref C_InvalidNumber)))
    (x_InvalidNumber : K.lookup C_InvalidNumber = some (excClassObj nm_InvalidNumber q_InvalidNumber C_InvalidNumber N_InvalidNumber bs_InvalidNumber [.ref C_PoolError, .type "ValueError", .type "Exception", .type "BaseException", .type "object"] true sn_InvalidNumber sub_InvalidNumber ab_InvalidNumber col_InvalidNumber dd_InvalidNumber m0_InvalidNumber m1_InvalidNumber m2_InvalidNumber m3_InvalidNumber m5_InvalidNumber "ValueError.__new__"))
    (sa_InvalidNumber : PySem.W.findIn K (.ref C_InvalidNumber) "__setattr__" = some (some (.builtin "object.__setattr__")))
    (ex_InvalidNumber : PySem.W.subIn K (.ref C_InvalidNumber) (.type "BaseException") = some true)
    (ty_InvalidNumber : PySem.W.typeIn K (.ref C_InvalidNumber) = some (.type "type"))
    (kp_InvalidNumber : PySem.W.keepIn K (.ref C_InvalidNumber) = true)
    (xg_InvalidNumber : PySem.W.findIn K (.ref C_InvalidNumber) "__getattribute__" = some (some (.builtin "BaseException.__getattribute__")))
    (xn_InvalidNumber : PySem.W.findIn K (.ref C_InvalidNumber) "__getattr__" = some none)
    (xh_InvalidNumber : PySem.W.hasDictIn K C_InvalidNumber = true)
    (xi_InvalidNumber : PySem.W.isClsIn K C_InvalidNumber = true)
    (xs_InvalidNumber : PySem.W.subIn K (.ref C_InvalidNumber) (.ref C_InvalidNumber) = some true)
    (na_InvalidNumber_value : PySem.W.findIn K (.ref C_InvalidNumber) "value" = some none)
    (g_Ratio : PySem.W.nsIn K mainGlobals "Ratio" = some (some (.ref C_Ratio)))
    (pg_Ratio : PySem.W.plainGet K C_Ratio Str.empty = true)
    (hd_Ratio : PySem.W.hasDictIn K C_Ratio = true)
    (po_Ratio : PySem.W.plainOver K C_Ratio = true)
    (sa_Ratio : PySem.W.findIn K (.ref C_Ratio) "__setattr__" = some (some (.builtin "object.__setattr__")))
    (ca_Ratio : PySem.W.findIn K (.ref C_Ratio) "__class__" = some (some (.builtin "object.__class__")))
    (cg_Ratio : PySem.W.specialIn K (.builtin "object.__class__") "__get__" = some (some (.builtin "getset_descriptor.__get__")))
    (ct_Ratio : PySem.W.takesIn K (.builtin "object.__class__") = some true)
    (lk_Ratio : K.lookup C_Ratio = some ⟨lo_Ratio, ld_Ratio, .cls lc_Ratio, ls_Ratio⟩)
    (mr_Ratio : lc_Ratio.mro = [.ref C_Ratio, .type "object"])
    (ty_Ratio : PySem.W.typeIn K (.ref C_Ratio) = some (.type "type"))
    (rd_Ratio : PySem.W.readsIn K C_Ratio (.type "type") = true)
    (gg_Ratio : PySem.W.specialIn K (.ref C_Ratio) "__getattribute__" = some (some (.builtin "type.__getattribute__")))
    (na_Ratio_top : PySem.W.findIn K (.ref C_Ratio) "top" = some none)
    (na_Ratio_bottom : PySem.W.findIn K (.ref C_Ratio) "bottom" = some none)
    (mi_Ratio : PySem.W.makesIn K C_Ratio = true)
    (kc_Ratio : PySem.W.keepIn K (.ref C_Ratio) = true)
    (i_InvalidNumber_init : PySem.W.findIn K (.ref C_InvalidNumber) "__init__" = some (some (.ref a_InvalidNumber_init)))
    (t_InvalidNumber_init : PySem.W.typeIn K (.ref a_InvalidNumber_init) = some (.type "function"))
    (l_InvalidNumber_init : K.lookup a_InvalidNumber_init = some ⟨oc_InvalidNumber_init, od_InvalidNumber_init, .func (PySem.W.fnOf "__init__" "InvalidNumber.__init__" (defArgs s_InvalidNumber_init) (defBody s_InvalidNumber_init) (defScope s_InvalidNumber_init) (.none) kV_InvalidNumber_init dc_InvalidNumber_init pm_InvalidNumber_init an_InvalidNumber_init cd_InvalidNumber_init ct_InvalidNumber_init), sl_InvalidNumber_init⟩)
    (c_InvalidNumber_init : PySem.W.codeIn K cd_InvalidNumber_init "InvalidNumber.__init__" = true)
    (k_InvalidNumber_init : PySem.W.keepIn K (.ref a_InvalidNumber_init) = true)
    (g_is_integer : PySem.W.nsIn K mainGlobals "is_integer" = some (some (.ref a_is_integer)))
    (l_is_integer : K.lookup a_is_integer = some ⟨oc_is_integer, od_is_integer, .func (PySem.W.fnOf "is_integer" "is_integer" (defArgs s_is_integer) (defBody s_is_integer) (defScope s_is_integer) (.none) kV_is_integer dc_is_integer pm_is_integer an_is_integer cd_is_integer ct_is_integer), sl_is_integer⟩)
    (c_is_integer : PySem.W.codeIn K cd_is_integer "is_integer" = true)
    (k_is_integer : PySem.W.keepIn K (.ref a_is_integer) = true)
    (g_is_number : PySem.W.nsIn K mainGlobals "is_number" = some (some (.ref a_is_number)))
    (l_is_number : K.lookup a_is_number = some ⟨oc_is_number, od_is_number, .func (PySem.W.fnOf "is_number" "is_number" (defArgs s_is_number) (defBody s_is_number) (defScope s_is_number) (.none) kV_is_number dc_is_number pm_is_number an_is_number cd_is_number ct_is_number), sl_is_number⟩)
    (c_is_number : PySem.W.codeIn K cd_is_number "is_number" = true)
    (k_is_number : PySem.W.keepIn K (.ref a_is_number) = true)
    (g_as_ratio : PySem.W.nsIn K mainGlobals "as_ratio" = some (some (.ref a_as_ratio)))
    (l_as_ratio : K.lookup a_as_ratio = some ⟨oc_as_ratio, od_as_ratio, .func (PySem.W.fnOf "as_ratio" "as_ratio" (defArgs s_as_ratio) (defBody s_as_ratio) (defScope s_as_ratio) (.none) kV_as_ratio dc_as_ratio pm_as_ratio an_as_ratio cd_as_ratio ct_as_ratio), sl_as_ratio⟩)
    (c_as_ratio : PySem.W.codeIn K cd_as_ratio "as_ratio" = true)
    (k_as_ratio : PySem.W.keepIn K (.ref a_as_ratio) = true)
    (g_common_divisor : PySem.W.nsIn K mainGlobals "common_divisor" = some (some (.ref a_common_divisor)))
    (l_common_divisor : K.lookup a_common_divisor = some ⟨oc_common_divisor, od_common_divisor, .func (PySem.W.fnOf "common_divisor" "common_divisor" (defArgs s_common_divisor) (defBody s_common_divisor) (defScope s_common_divisor) (.none) kV_common_divisor dc_common_divisor pm_common_divisor an_common_divisor cd_common_divisor ct_common_divisor), sl_common_divisor⟩)
    (c_common_divisor : PySem.W.codeIn K cd_common_divisor "common_divisor" = true)
    (k_common_divisor : PySem.W.keepIn K (.ref a_common_divisor) = true)
    (g_digits_value : PySem.W.nsIn K mainGlobals "digits_value" = some (some (.ref a_digits_value)))
    (l_digits_value : K.lookup a_digits_value = some ⟨oc_digits_value, od_digits_value, .func (PySem.W.fnOf "digits_value" "digits_value" (defArgs s_digits_value) (defBody s_digits_value) (defScope s_digits_value) (.none) kV_digits_value dc_digits_value pm_digits_value an_digits_value cd_digits_value ct_digits_value), sl_digits_value⟩)
    (c_digits_value : PySem.W.codeIn K cd_digits_value "digits_value" = true)
    (k_digits_value : PySem.W.keepIn K (.ref a_digits_value) = true)
    (f_Ratio_init : PySem.W.findIn K (.ref C_Ratio) "__init__" = some (some (.ref a_Ratio_init)))
    (t_Ratio_init : PySem.W.isFn K (.ref a_Ratio_init) = true)
    (l_Ratio_init : K.lookup a_Ratio_init = some ⟨oc_Ratio_init, od_Ratio_init, .func (PySem.W.fnOf "__init__" "Ratio.__init__" (defArgs s_Ratio_init) (defBody s_Ratio_init) (defScope s_Ratio_init) (.ref T_Ratio_init) kV_Ratio_init dc_Ratio_init pm_Ratio_init an_Ratio_init cd_Ratio_init ct_Ratio_init), sl_Ratio_init⟩)
    (c_Ratio_init : PySem.W.codeIn K cd_Ratio_init "Ratio.__init__" = true)
    (k_Ratio_init : PySem.W.keepIn K (.ref a_Ratio_init) = true)
    (dt_Ratio_init : K.lookup T_Ratio_init = some ⟨cl_Ratio_init, sd_Ratio_init, .seq #[.int 1 dk_Ratio_init] nn_Ratio_init, ss_Ratio_init⟩)
    (f_Ratio_of : PySem.W.findCls K (.ref C_Ratio) (.type "type") "of" = some (.get (.builtin "classmethod.__get__") (.ref p_Ratio_of) .none (.ref C_Ratio)))
    (pr_Ratio_of : PySem.W.recIn K p_Ratio_of "classmethod" = some (.ref a_Ratio_of :: r_Ratio_of))
    (pf_Ratio_of : PySem.W.fnIn K a_Ratio_of = true)
    (l_Ratio_of : K.lookup a_Ratio_of = some ⟨oc_Ratio_of, od_Ratio_of, .func (PySem.W.fnOf "of" "Ratio.of" (defArgs s_Ratio_of) (defBody s_Ratio_of) (defScope s_Ratio_of) (.none) kV_Ratio_of dc_Ratio_of pm_Ratio_of an_Ratio_of cd_Ratio_of ct_Ratio_of), sl_Ratio_of⟩)
    (c_Ratio_of : PySem.W.codeIn K cd_Ratio_of "Ratio.of" = true)
    (k_Ratio_of : PySem.W.keepIn K (.ref a_Ratio_of) = true)
    (f_Ratio_read : PySem.W.findCls K (.ref C_Ratio) (.type "type") "read" = some (.get (.builtin "classmethod.__get__") (.ref p_Ratio_read) .none (.ref C_Ratio)))
    (pr_Ratio_read : PySem.W.recIn K p_Ratio_read "classmethod" = some (.ref a_Ratio_read :: r_Ratio_read))
    (pf_Ratio_read : PySem.W.fnIn K a_Ratio_read = true)
    (l_Ratio_read : K.lookup a_Ratio_read = some ⟨oc_Ratio_read, od_Ratio_read, .func (PySem.W.fnOf "read" "Ratio.read" (defArgs s_Ratio_read) (defBody s_Ratio_read) (defScope s_Ratio_read) (.none) kV_Ratio_read dc_Ratio_read pm_Ratio_read an_Ratio_read cd_Ratio_read ct_Ratio_read), sl_Ratio_read⟩)
    (c_Ratio_read : PySem.W.codeIn K cd_Ratio_read "Ratio.read" = true)
    (k_Ratio_read : PySem.W.keepIn K (.ref a_Ratio_read) = true)
    (f_Ratio_is_whole : PySem.W.findIn K (.ref C_Ratio) "is_whole" = some (some (.ref p_Ratio_is_whole)))
    (pg_Ratio_is_whole : PySem.W.specialIn K (.ref p_Ratio_is_whole) "__get__" = some (some (.builtin "property.__get__")))
    (pt_Ratio_is_whole : PySem.W.takesIn K (.ref p_Ratio_is_whole) = some true)
    (pr_Ratio_is_whole : PySem.W.recIn K p_Ratio_is_whole "property" = some (.ref a_Ratio_is_whole :: r_Ratio_is_whole))
    (l_Ratio_is_whole : K.lookup a_Ratio_is_whole = some ⟨oc_Ratio_is_whole, od_Ratio_is_whole, .func (PySem.W.fnOf "is_whole" "Ratio.is_whole" (defArgs s_Ratio_is_whole) (defBody s_Ratio_is_whole) (defScope s_Ratio_is_whole) (.none) kV_Ratio_is_whole dc_Ratio_is_whole pm_Ratio_is_whole an_Ratio_is_whole cd_Ratio_is_whole ct_Ratio_is_whole), sl_Ratio_is_whole⟩)
    (c_Ratio_is_whole : PySem.W.codeIn K cd_Ratio_is_whole "Ratio.is_whole" = true)
    (k_Ratio_is_whole : PySem.W.keepIn K (.ref a_Ratio_is_whole) = true)
    (f_Ratio_floor : PySem.W.findIn K (.ref C_Ratio) "floor" = some (some (.ref p_Ratio_floor)))
    (pg_Ratio_floor : PySem.W.specialIn K (.ref p_Ratio_floor) "__get__" = some (some (.builtin "property.__get__")))
    (pt_Ratio_floor : PySem.W.takesIn K (.ref p_Ratio_floor) = some true)
    (pr_Ratio_floor : PySem.W.recIn K p_Ratio_floor "property" = some (.ref a_Ratio_floor :: r_Ratio_floor))
    (l_Ratio_floor : K.lookup a_Ratio_floor = some ⟨oc_Ratio_floor, od_Ratio_floor, .func (PySem.W.fnOf "floor" "Ratio.floor" (defArgs s_Ratio_floor) (defBody s_Ratio_floor) (defScope s_Ratio_floor) (.none) kV_Ratio_floor dc_Ratio_floor pm_Ratio_floor an_Ratio_floor cd_Ratio_floor ct_Ratio_floor), sl_Ratio_floor⟩)
    (c_Ratio_floor : PySem.W.codeIn K cd_Ratio_floor "Ratio.floor" = true)
    (k_Ratio_floor : PySem.W.keepIn K (.ref a_Ratio_floor) = true)
    (f_Ratio_over : PySem.W.findIn K (.ref C_Ratio) "over" = some (some (.ref a_Ratio_over)))
    (t_Ratio_over : PySem.W.isFn K (.ref a_Ratio_over) = true)
    (l_Ratio_over : K.lookup a_Ratio_over = some ⟨oc_Ratio_over, od_Ratio_over, .func (PySem.W.fnOf "over" "Ratio.over" (defArgs s_Ratio_over) (defBody s_Ratio_over) (defScope s_Ratio_over) (.none) kV_Ratio_over dc_Ratio_over pm_Ratio_over an_Ratio_over cd_Ratio_over ct_Ratio_over), sl_Ratio_over⟩)
    (c_Ratio_over : PySem.W.codeIn K cd_Ratio_over "Ratio.over" = true)
    (k_Ratio_over : PySem.W.keepIn K (.ref a_Ratio_over) = true)
    (f_Ratio_repr : PySem.W.findIn K (.ref C_Ratio) "__repr__" = some (some (.ref a_Ratio_repr)))
    (t_Ratio_repr : PySem.W.isFn K (.ref a_Ratio_repr) = true)
    (l_Ratio_repr : K.lookup a_Ratio_repr = some ⟨oc_Ratio_repr, od_Ratio_repr, .func (PySem.W.fnOf "__repr__" "Ratio.__repr__" (defArgs s_Ratio_repr) (defBody s_Ratio_repr) (defScope s_Ratio_repr) (.none) kV_Ratio_repr dc_Ratio_repr pm_Ratio_repr an_Ratio_repr cd_Ratio_repr ct_Ratio_repr), sl_Ratio_repr⟩)
    (c_Ratio_repr : PySem.W.codeIn K cd_Ratio_repr "Ratio.__repr__" = true)
    (k_Ratio_repr : PySem.W.keepIn K (.ref a_Ratio_repr) = true)
    (f_Ratio_str : PySem.W.findIn K (.ref C_Ratio) "__str__" = some (some (.ref a_Ratio_str)))
    (t_Ratio_str : PySem.W.isFn K (.ref a_Ratio_str) = true)
    (l_Ratio_str : K.lookup a_Ratio_str = some ⟨oc_Ratio_str, od_Ratio_str, .func (PySem.W.fnOf "__str__" "Ratio.__str__" (defArgs s_Ratio_str) (defBody s_Ratio_str) (defScope s_Ratio_str) (.none) kV_Ratio_str dc_Ratio_str pm_Ratio_str an_Ratio_str cd_Ratio_str ct_Ratio_str), sl_Ratio_str⟩)
    (c_Ratio_str : PySem.W.codeIn K cd_Ratio_str "Ratio.__str__" = true)
    (k_Ratio_str : PySem.W.keepIn K (.ref a_Ratio_str) = true)
    (f_Ratio_bool : PySem.W.findIn K (.ref C_Ratio) "__bool__" = some (some (.ref a_Ratio_bool)))
    (t_Ratio_bool : PySem.W.isFn K (.ref a_Ratio_bool) = true)
    (l_Ratio_bool : K.lookup a_Ratio_bool = some ⟨oc_Ratio_bool, od_Ratio_bool, .func (PySem.W.fnOf "__bool__" "Ratio.__bool__" (defArgs s_Ratio_bool) (defBody s_Ratio_bool) (defScope s_Ratio_bool) (.none) kV_Ratio_bool dc_Ratio_bool pm_Ratio_bool an_Ratio_bool cd_Ratio_bool ct_Ratio_bool), sl_Ratio_bool⟩)
    (c_Ratio_bool : PySem.W.codeIn K cd_Ratio_bool "Ratio.__bool__" = true)
    (k_Ratio_bool : PySem.W.keepIn K (.ref a_Ratio_bool) = true)
    (f_Ratio_neg : PySem.W.findIn K (.ref C_Ratio) "__neg__" = some (some (.ref a_Ratio_neg)))
    (t_Ratio_neg : PySem.W.isFn K (.ref a_Ratio_neg) = true)
    (l_Ratio_neg : K.lookup a_Ratio_neg = some ⟨oc_Ratio_neg, od_Ratio_neg, .func (PySem.W.fnOf "__neg__" "Ratio.__neg__" (defArgs s_Ratio_neg) (defBody s_Ratio_neg) (defScope s_Ratio_neg) (.none) kV_Ratio_neg dc_Ratio_neg pm_Ratio_neg an_Ratio_neg cd_Ratio_neg ct_Ratio_neg), sl_Ratio_neg⟩)
    (c_Ratio_neg : PySem.W.codeIn K cd_Ratio_neg "Ratio.__neg__" = true)
    (k_Ratio_neg : PySem.W.keepIn K (.ref a_Ratio_neg) = true)
    (f_Ratio_abs : PySem.W.findIn K (.ref C_Ratio) "__abs__" = some (some (.ref a_Ratio_abs)))
    (t_Ratio_abs : PySem.W.isFn K (.ref a_Ratio_abs) = true)
    (l_Ratio_abs : K.lookup a_Ratio_abs = some ⟨oc_Ratio_abs, od_Ratio_abs, .func (PySem.W.fnOf "__abs__" "Ratio.__abs__" (defArgs s_Ratio_abs) (defBody s_Ratio_abs) (defScope s_Ratio_abs) (.none) kV_Ratio_abs dc_Ratio_abs pm_Ratio_abs an_Ratio_abs cd_Ratio_abs ct_Ratio_abs), sl_Ratio_abs⟩)
    (c_Ratio_abs : PySem.W.codeIn K cd_Ratio_abs "Ratio.__abs__" = true)
    (k_Ratio_abs : PySem.W.keepIn K (.ref a_Ratio_abs) = true)
    (f_Ratio_add : PySem.W.findIn K (.ref C_Ratio) "__add__" = some (some (.ref a_Ratio_add)))
    (t_Ratio_add : PySem.W.isFn K (.ref a_Ratio_add) = true)
    (l_Ratio_add : K.lookup a_Ratio_add = some ⟨oc_Ratio_add, od_Ratio_add, .func (PySem.W.fnOf "__add__" "Ratio.__add__" (defArgs s_Ratio_add) (defBody s_Ratio_add) (defScope s_Ratio_add) (.none) kV_Ratio_add dc_Ratio_add pm_Ratio_add an_Ratio_add cd_Ratio_add ct_Ratio_add), sl_Ratio_add⟩)
    (c_Ratio_add : PySem.W.codeIn K cd_Ratio_add "Ratio.__add__" = true)
    (k_Ratio_add : PySem.W.keepIn K (.ref a_Ratio_add) = true)
    (f_Ratio_radd : PySem.W.findIn K (.ref C_Ratio) "__radd__" = some (some (.ref a_Ratio_radd)))
    (t_Ratio_radd : PySem.W.isFn K (.ref a_Ratio_radd) = true)
    (l_Ratio_radd : K.lookup a_Ratio_radd = some ⟨oc_Ratio_radd, od_Ratio_radd, .func (PySem.W.fnOf "__radd__" "Ratio.__radd__" (defArgs s_Ratio_radd) (defBody s_Ratio_radd) (defScope s_Ratio_radd) (.none) kV_Ratio_radd dc_Ratio_radd pm_Ratio_radd an_Ratio_radd cd_Ratio_radd ct_Ratio_radd), sl_Ratio_radd⟩)
    (c_Ratio_radd : PySem.W.codeIn K cd_Ratio_radd "Ratio.__radd__" = true)
    (k_Ratio_radd : PySem.W.keepIn K (.ref a_Ratio_radd) = true)
    (f_Ratio_sub : PySem.W.findIn K (.ref C_Ratio) "__sub__" = some (some (.ref a_Ratio_sub)))
    (t_Ratio_sub : PySem.W.isFn K (.ref a_Ratio_sub) = true)
    (l_Ratio_sub : K.lookup a_Ratio_sub = some ⟨oc_Ratio_sub, od_Ratio_sub, .func (PySem.W.fnOf "__sub__" "Ratio.__sub__" (defArgs s_Ratio_sub) (defBody s_Ratio_sub) (defScope s_Ratio_sub) (.none) kV_Ratio_sub dc_Ratio_sub pm_Ratio_sub an_Ratio_sub cd_Ratio_sub ct_Ratio_sub), sl_Ratio_sub⟩)
    (c_Ratio_sub : PySem.W.codeIn K cd_Ratio_sub "Ratio.__sub__" = true)
    (k_Ratio_sub : PySem.W.keepIn K (.ref a_Ratio_sub) = true)
    (f_Ratio_rsub : PySem.W.findIn K (.ref C_Ratio) "__rsub__" = some (some (.ref a_Ratio_rsub)))
    (t_Ratio_rsub : PySem.W.isFn K (.ref a_Ratio_rsub) = true)
    (l_Ratio_rsub : K.lookup a_Ratio_rsub = some ⟨oc_Ratio_rsub, od_Ratio_rsub, .func (PySem.W.fnOf "__rsub__" "Ratio.__rsub__" (defArgs s_Ratio_rsub) (defBody s_Ratio_rsub) (defScope s_Ratio_rsub) (.none) kV_Ratio_rsub dc_Ratio_rsub pm_Ratio_rsub an_Ratio_rsub cd_Ratio_rsub ct_Ratio_rsub), sl_Ratio_rsub⟩)
    (c_Ratio_rsub : PySem.W.codeIn K cd_Ratio_rsub "Ratio.__rsub__" = true)
    (k_Ratio_rsub : PySem.W.keepIn K (.ref a_Ratio_rsub) = true)
    (f_Ratio_mul : PySem.W.findIn K (.ref C_Ratio) "__mul__" = some (some (.ref a_Ratio_mul)))
    (t_Ratio_mul : PySem.W.isFn K (.ref a_Ratio_mul) = true)
    (l_Ratio_mul : K.lookup a_Ratio_mul = some ⟨oc_Ratio_mul, od_Ratio_mul, .func (PySem.W.fnOf "__mul__" "Ratio.__mul__" (defArgs s_Ratio_mul) (defBody s_Ratio_mul) (defScope s_Ratio_mul) (.none) kV_Ratio_mul dc_Ratio_mul pm_Ratio_mul an_Ratio_mul cd_Ratio_mul ct_Ratio_mul), sl_Ratio_mul⟩)
    (c_Ratio_mul : PySem.W.codeIn K cd_Ratio_mul "Ratio.__mul__" = true)
    (k_Ratio_mul : PySem.W.keepIn K (.ref a_Ratio_mul) = true)
    (f_Ratio_rmul : PySem.W.findIn K (.ref C_Ratio) "__rmul__" = some (some (.ref a_Ratio_rmul)))
    (t_Ratio_rmul : PySem.W.isFn K (.ref a_Ratio_rmul) = true)
    (l_Ratio_rmul : K.lookup a_Ratio_rmul = some ⟨oc_Ratio_rmul, od_Ratio_rmul, .func (PySem.W.fnOf "__rmul__" "Ratio.__rmul__" (defArgs s_Ratio_rmul) (defBody s_Ratio_rmul) (defScope s_Ratio_rmul) (.none) kV_Ratio_rmul dc_Ratio_rmul pm_Ratio_rmul an_Ratio_rmul cd_Ratio_rmul ct_Ratio_rmul), sl_Ratio_rmul⟩)
    (c_Ratio_rmul : PySem.W.codeIn K cd_Ratio_rmul "Ratio.__rmul__" = true)
    (k_Ratio_rmul : PySem.W.keepIn K (.ref a_Ratio_rmul) = true)
    (f_Ratio_floordiv : PySem.W.findIn K (.ref C_Ratio) "__floordiv__" = some (some (.ref a_Ratio_floordiv)))
    (t_Ratio_floordiv : PySem.W.isFn K (.ref a_Ratio_floordiv) = true)
    (l_Ratio_floordiv : K.lookup a_Ratio_floordiv = some ⟨oc_Ratio_floordiv, od_Ratio_floordiv, .func (PySem.W.fnOf "__floordiv__" "Ratio.__floordiv__" (defArgs s_Ratio_floordiv) (defBody s_Ratio_floordiv) (defScope s_Ratio_floordiv) (.none) kV_Ratio_floordiv dc_Ratio_floordiv pm_Ratio_floordiv an_Ratio_floordiv cd_Ratio_floordiv ct_Ratio_floordiv), sl_Ratio_floordiv⟩)
    (c_Ratio_floordiv : PySem.W.codeIn K cd_Ratio_floordiv "Ratio.__floordiv__" = true)
    (k_Ratio_floordiv : PySem.W.keepIn K (.ref a_Ratio_floordiv) = true)
    (f_Ratio_mod : PySem.W.findIn K (.ref C_Ratio) "__mod__" = some (some (.ref a_Ratio_mod)))
    (t_Ratio_mod : PySem.W.isFn K (.ref a_Ratio_mod) = true)
    (l_Ratio_mod : K.lookup a_Ratio_mod = some ⟨oc_Ratio_mod, od_Ratio_mod, .func (PySem.W.fnOf "__mod__" "Ratio.__mod__" (defArgs s_Ratio_mod) (defBody s_Ratio_mod) (defScope s_Ratio_mod) (.none) kV_Ratio_mod dc_Ratio_mod pm_Ratio_mod an_Ratio_mod cd_Ratio_mod ct_Ratio_mod), sl_Ratio_mod⟩)
    (c_Ratio_mod : PySem.W.codeIn K cd_Ratio_mod "Ratio.__mod__" = true)
    (k_Ratio_mod : PySem.W.keepIn K (.ref a_Ratio_mod) = true)
    (f_Ratio_eq : PySem.W.findIn K (.ref C_Ratio) "__eq__" = some (some (.ref a_Ratio_eq)))
    (t_Ratio_eq : PySem.W.isFn K (.ref a_Ratio_eq) = true)
    (l_Ratio_eq : K.lookup a_Ratio_eq = some ⟨oc_Ratio_eq, od_Ratio_eq, .func (PySem.W.fnOf "__eq__" "Ratio.__eq__" (defArgs s_Ratio_eq) (defBody s_Ratio_eq) (defScope s_Ratio_eq) (.none) kV_Ratio_eq dc_Ratio_eq pm_Ratio_eq an_Ratio_eq cd_Ratio_eq ct_Ratio_eq), sl_Ratio_eq⟩)
    (c_Ratio_eq : PySem.W.codeIn K cd_Ratio_eq "Ratio.__eq__" = true)
    (k_Ratio_eq : PySem.W.keepIn K (.ref a_Ratio_eq) = true)
    (f_Ratio_ne : PySem.W.findIn K (.ref C_Ratio) "__ne__" = some (some (.ref a_Ratio_ne)))
    (t_Ratio_ne : PySem.W.isFn K (.ref a_Ratio_ne) = true)
    (l_Ratio_ne : K.lookup a_Ratio_ne = some ⟨oc_Ratio_ne, od_Ratio_ne, .func (PySem.W.fnOf "__ne__" "Ratio.__ne__" (defArgs s_Ratio_ne) (defBody s_Ratio_ne) (defScope s_Ratio_ne) (.none) kV_Ratio_ne dc_Ratio_ne pm_Ratio_ne an_Ratio_ne cd_Ratio_ne ct_Ratio_ne), sl_Ratio_ne⟩)
    (c_Ratio_ne : PySem.W.codeIn K cd_Ratio_ne "Ratio.__ne__" = true)
    (k_Ratio_ne : PySem.W.keepIn K (.ref a_Ratio_ne) = true)
    (f_Ratio_lt : PySem.W.findIn K (.ref C_Ratio) "__lt__" = some (some (.ref a_Ratio_lt)))
    (t_Ratio_lt : PySem.W.isFn K (.ref a_Ratio_lt) = true)
    (l_Ratio_lt : K.lookup a_Ratio_lt = some ⟨oc_Ratio_lt, od_Ratio_lt, .func (PySem.W.fnOf "__lt__" "Ratio.__lt__" (defArgs s_Ratio_lt) (defBody s_Ratio_lt) (defScope s_Ratio_lt) (.none) kV_Ratio_lt dc_Ratio_lt pm_Ratio_lt an_Ratio_lt cd_Ratio_lt ct_Ratio_lt), sl_Ratio_lt⟩)
    (c_Ratio_lt : PySem.W.codeIn K cd_Ratio_lt "Ratio.__lt__" = true)
    (k_Ratio_lt : PySem.W.keepIn K (.ref a_Ratio_lt) = true)
    (f_Ratio_le : PySem.W.findIn K (.ref C_Ratio) "__le__" = some (some (.ref a_Ratio_le)))
    (t_Ratio_le : PySem.W.isFn K (.ref a_Ratio_le) = true)
    (l_Ratio_le : K.lookup a_Ratio_le = some ⟨oc_Ratio_le, od_Ratio_le, .func (PySem.W.fnOf "__le__" "Ratio.__le__" (defArgs s_Ratio_le) (defBody s_Ratio_le) (defScope s_Ratio_le) (.none) kV_Ratio_le dc_Ratio_le pm_Ratio_le an_Ratio_le cd_Ratio_le ct_Ratio_le), sl_Ratio_le⟩)
    (c_Ratio_le : PySem.W.codeIn K cd_Ratio_le "Ratio.__le__" = true)
    (k_Ratio_le : PySem.W.keepIn K (.ref a_Ratio_le) = true)
    (f_Ratio_gt : PySem.W.findIn K (.ref C_Ratio) "__gt__" = some (some (.ref a_Ratio_gt)))
    (t_Ratio_gt : PySem.W.isFn K (.ref a_Ratio_gt) = true)
    (l_Ratio_gt : K.lookup a_Ratio_gt = some ⟨oc_Ratio_gt, od_Ratio_gt, .func (PySem.W.fnOf "__gt__" "Ratio.__gt__" (defArgs s_Ratio_gt) (defBody s_Ratio_gt) (defScope s_Ratio_gt) (.none) kV_Ratio_gt dc_Ratio_gt pm_Ratio_gt an_Ratio_gt cd_Ratio_gt ct_Ratio_gt), sl_Ratio_gt⟩)
    (c_Ratio_gt : PySem.W.codeIn K cd_Ratio_gt "Ratio.__gt__" = true)
    (k_Ratio_gt : PySem.W.keepIn K (.ref a_Ratio_gt) = true)
    (f_Ratio_ge : PySem.W.findIn K (.ref C_Ratio) "__ge__" = some (some (.ref a_Ratio_ge)))
    (t_Ratio_ge : PySem.W.isFn K (.ref a_Ratio_ge) = true)
    (l_Ratio_ge : K.lookup a_Ratio_ge = some ⟨oc_Ratio_ge, od_Ratio_ge, .func (PySem.W.fnOf "__ge__" "Ratio.__ge__" (defArgs s_Ratio_ge) (defBody s_Ratio_ge) (defScope s_Ratio_ge) (.none) kV_Ratio_ge dc_Ratio_ge pm_Ratio_ge an_Ratio_ge cd_Ratio_ge ct_Ratio_ge), sl_Ratio_ge⟩)
    (c_Ratio_ge : PySem.W.codeIn K cd_Ratio_ge "Ratio.__ge__" = true)
    (k_Ratio_ge : PySem.W.keepIn K (.ref a_Ratio_ge) = true)
    (g_w_box : PySem.W.nsIn K mainGlobals "_law_box" = some (some (.ref a_w_box)))
    (l_w_box : K.lookup a_w_box = some ⟨oc_w_box, od_w_box, .func (PySem.W.fnOf "_law_box" "_law_box" (defArgs s_w_box) (defBody s_w_box) (defScope s_w_box) (.none) kV_w_box dc_w_box pm_w_box an_w_box cd_w_box ct_w_box), sl_w_box⟩)
    (c_w_box : PySem.W.codeIn K cd_w_box "_law_box" = true)
    (k_w_box : PySem.W.keepIn K (.ref a_w_box) = true)
    (g_w_take : PySem.W.nsIn K mainGlobals "_law_take" = some (some (.ref a_w_take)))
    (l_w_take : K.lookup a_w_take = some ⟨oc_w_take, od_w_take, .func (PySem.W.fnOf "_law_take" "_law_take" (defArgs s_w_take) (defBody s_w_take) (defScope s_w_take) (.none) kV_w_take dc_w_take pm_w_take an_w_take cd_w_take ct_w_take), sl_w_take⟩)
    (c_w_take : PySem.W.codeIn K cd_w_take "_law_take" = true)
    (k_w_take : PySem.W.keepIn K (.ref a_w_take) = true)
    (g_w_lowest : PySem.W.nsIn K mainGlobals "_law_lowest" = some (some (.ref a_w_lowest)))
    (l_w_lowest : K.lookup a_w_lowest = some ⟨oc_w_lowest, od_w_lowest, .func (PySem.W.fnOf "_law_lowest" "_law_lowest" (defArgs s_w_lowest) (defBody s_w_lowest) (defScope s_w_lowest) (.none) kV_w_lowest dc_w_lowest pm_w_lowest an_w_lowest cd_w_lowest ct_w_lowest), sl_w_lowest⟩)
    (c_w_lowest : PySem.W.codeIn K cd_w_lowest "_law_lowest" = true)
    (k_w_lowest : PySem.W.keepIn K (.ref a_w_lowest) = true)
    (g_w_integer : PySem.W.nsIn K mainGlobals "_law_integer" = some (some (.ref a_w_integer)))
    (l_w_integer : K.lookup a_w_integer = some ⟨oc_w_integer, od_w_integer, .func (PySem.W.fnOf "_law_integer" "_law_integer" (defArgs s_w_integer) (defBody s_w_integer) (defScope s_w_integer) (.none) kV_w_integer dc_w_integer pm_w_integer an_w_integer cd_w_integer ct_w_integer), sl_w_integer⟩)
    (c_w_integer : PySem.W.codeIn K cd_w_integer "_law_integer" = true)
    (k_w_integer : PySem.W.keepIn K (.ref a_w_integer) = true)
    (g_w_is : PySem.W.nsIn K mainGlobals "_law_is" = some (some (.ref a_w_is)))
    (l_w_is : K.lookup a_w_is = some ⟨oc_w_is, od_w_is, .func (PySem.W.fnOf "_law_is" "_law_is" (defArgs s_w_is) (defBody s_w_is) (defScope s_w_is) (.none) kV_w_is dc_w_is pm_w_is an_w_is cd_w_is ct_w_is), sl_w_is⟩)
    (c_w_is : PySem.W.codeIn K cd_w_is "_law_is" = true)
    (k_w_is : PySem.W.keepIn K (.ref a_w_is) = true)
    (g_w_text : PySem.W.nsIn K mainGlobals "_law_text" = some (some (.ref a_w_text)))
    (l_w_text : K.lookup a_w_text = some ⟨oc_w_text, od_w_text, .func (PySem.W.fnOf "_law_text" "_law_text" (defArgs s_w_text) (defBody s_w_text) (defScope s_w_text) (.none) kV_w_text dc_w_text pm_w_text an_w_text cd_w_text ct_w_text), sl_w_text⟩)
    (c_w_text : PySem.W.codeIn K cd_w_text "_law_text" = true)
    (k_w_text : PySem.W.keepIn K (.ref a_w_text) = true)
    (g_w_told_right : PySem.W.nsIn K mainGlobals "_law_told_right" = some (some (.ref a_w_told_right)))
    (l_w_told_right : K.lookup a_w_told_right = some ⟨oc_w_told_right, od_w_told_right, .func (PySem.W.fnOf "_law_told_right" "_law_told_right" (defArgs s_w_told_right) (defBody s_w_told_right) (defScope s_w_told_right) (.none) kV_w_told_right dc_w_told_right pm_w_told_right an_w_told_right cd_w_told_right ct_w_told_right), sl_w_told_right⟩)
    (c_w_told_right : PySem.W.codeIn K cd_w_told_right "_law_told_right" = true)
    (k_w_told_right : PySem.W.keepIn K (.ref a_w_told_right) = true)
    (g_w_refused : PySem.W.nsIn K mainGlobals "_law_refused" = some (some (.ref a_w_refused)))
    (l_w_refused : K.lookup a_w_refused = some ⟨oc_w_refused, od_w_refused, .func (PySem.W.fnOf "_law_refused" "_law_refused" (defArgs s_w_refused) (defBody s_w_refused) (defScope s_w_refused) (.none) kV_w_refused dc_w_refused pm_w_refused an_w_refused cd_w_refused ct_w_refused), sl_w_refused⟩)
    (c_w_refused : PySem.W.codeIn K cd_w_refused "_law_refused" = true)
    (k_w_refused : PySem.W.keepIn K (.ref a_w_refused) = true)
    (g_law : PySem.W.nsIn K mainGlobals "law" = some (some (.ref a_law)))
    (l_law : K.lookup a_law = some ⟨oc_law, od_law, .func (PySem.W.fnOf "law" "law" (defArgs s_law) (defBody s_law) (defScope s_law) (.none) kV_law dc_law pm_law an_law cd_law ct_law), sl_law⟩)
    (c_law : PySem.W.codeIn K cd_law "law" = true)
    (k_law : PySem.W.keepIn K (.ref a_law) = true)
    (io_add : PySem.W.findIn K (.type "int") "__add__" = some fo_add)
    (ior_add : PySem.W.findIn K (.type "int") "__radd__" = some ro_add)
    (nio_add : PySem.W.findIn K (.type "object") "__iadd__" = some none)
    (io_floordiv : PySem.W.findIn K (.type "int") "__floordiv__" = some fo_floordiv)
    (ior_floordiv : PySem.W.findIn K (.type "int") "__rfloordiv__" = some ro_floordiv)
    (nio_floordiv : PySem.W.findIn K (.type "object") "__ifloordiv__" = some none)
    (io_mod : PySem.W.findIn K (.type "int") "__mod__" = some fo_mod)
    (ior_mod : PySem.W.findIn K (.type "int") "__rmod__" = some ro_mod)
    (nio_mod : PySem.W.findIn K (.type "object") "__imod__" = some none)
    (io_mul : PySem.W.findIn K (.type "int") "__mul__" = some fo_mul)
    (ior_mul : PySem.W.findIn K (.type "int") "__rmul__" = some ro_mul)
    (nio_mul : PySem.W.findIn K (.type "object") "__imul__" = some none)
    (io_sub : PySem.W.findIn K (.type "int") "__sub__" = some fo_sub)
    (ior_sub : PySem.W.findIn K (.type "int") "__rsub__" = some ro_sub)
    (nio_sub : PySem.W.findIn K (.type "object") "__isub__" = some none)
    (nii_Ratio_add : PySem.W.findIn K (.ref C_Ratio) "__iadd__" = some none)
    (nii_Ratio_sub : PySem.W.findIn K (.ref C_Ratio) "__isub__" = some none)
    (nii_Ratio_mul : PySem.W.findIn K (.ref C_Ratio) "__imul__" = some none)
    (nii_Ratio_floordiv : PySem.W.findIn K (.ref C_Ratio) "__ifloordiv__" = some none)
    (nr_Ratio_floordiv : PySem.W.findIn K (.ref C_Ratio) "__rfloordiv__" = some none)
    (nii_Ratio_mod : PySem.W.findIn K (.ref C_Ratio) "__imod__" = some none)
    (nr_Ratio_mod : PySem.W.findIn K (.ref C_Ratio) "__rmod__" = some none)
    (n_NotImplemented : PySem.W.nsIn K mainGlobals "NotImplemented" = some none)
    (n_abs : PySem.W.nsIn K mainGlobals "abs" = some none)
    (n_all : PySem.W.nsIn K mainGlobals "all" = some none)
    (n_bool : PySem.W.nsIn K mainGlobals "bool" = some none)
    (n_classmethod : PySem.W.nsIn K mainGlobals "classmethod" = some none)
    (n_int : PySem.W.nsIn K mainGlobals "int" = some none)
    (n_isinstance : PySem.W.nsIn K mainGlobals "isinstance" = some none)
    (n_len : PySem.W.nsIn K mainGlobals "len" = some none)
    (n_max : PySem.W.nsIn K mainGlobals "max" = some none)
    (n_min : PySem.W.nsIn K mainGlobals "min" = some none)
    (n_property : PySem.W.nsIn K mainGlobals "property" = some none)
    (n_range : PySem.W.nsIn K mainGlobals "range" = some none)
    (n_repr : PySem.W.nsIn K mainGlobals "repr" = some none)
    (n_str : PySem.W.nsIn K mainGlobals "str" = some none)
    (c_DIGITS : PySem.W.nsIn K mainGlobals "DIGITS" = some (some (.str "0123456789" tk_DIGITS)))
    (c_MOST_DIGITS : PySem.W.nsIn K mainGlobals "MOST_DIGITS" = some (some (.int 1000 tk_MOST_DIGITS))) : ∃ T : Tx K mg, T.a_law = fa := by
  have e : Value.ref fa = Value.ref a_law := Option.some.inj (hfa.symm.trans (PySem.W.mg_of X G g_law))
  exact ⟨{
    C_PoolError := C_PoolError,
    g_PoolError := PySem.W.mg_of X G g_PoolError,
    oex_PoolError := ⟨⟨_, _, _, _, _, _, _, _, _, _, _, _, _, _, _, x_PoolError, rfl⟩, sa_PoolError, ex_PoolError, ty_PoolError, kp_PoolError⟩,
    up_PoolError := ⟨ur_PoolError, ug_PoolError, uf_PoolError⟩,
    C_InvalidNumber := C_InvalidNumber,
    g_InvalidNumber := PySem.W.mg_of X G g_InvalidNumber,
    oex_InvalidNumber := ⟨⟨_, _, _, _, _, _, _, _, _, _, _, _, _, _, _, x_InvalidNumber, rfl⟩, sa_InvalidNumber, ex_InvalidNumber, ty_InvalidNumber, kp_InvalidNumber⟩,
    xf_InvalidNumber := ⟨xg_InvalidNumber, xn_InvalidNumber, ex_InvalidNumber, xh_InvalidNumber⟩,
    xm_InvalidNumber := exm_of ex_InvalidNumber xi_InvalidNumber ty_InvalidNumber xs_InvalidNumber,
    na_InvalidNumber_value := na_InvalidNumber_value,
    C_Ratio := C_Ratio,
    g_Ratio := PySem.W.mg_of X G g_Ratio,
    own_Ratio := ⟨⟨pg_Ratio, hd_Ratio, po_Ratio, sa_Ratio⟩, ca_Ratio, cg_Ratio, ct_Ratio, mro_of lk_Ratio mr_Ratio, ty_Ratio⟩,
    cr_Ratio := ⟨rd_Ratio, gg_Ratio⟩,
    na_Ratio_top := na_Ratio_top,
    na_Ratio_bottom := na_Ratio_bottom,
    i_InvalidNumber := i_InvalidNumber_init,
    t_InvalidNumber := t_InvalidNumber_init,
    a_InvalidNumber_init := a_InvalidNumber_init,
    fd_InvalidNumber_init := _,
    F_InvalidNumber_init := funS_mk l_InvalidNumber_init c_InvalidNumber_init k_InvalidNumber_init,
    g_is_integer := PySem.W.mg_of X G g_is_integer,
    a_is_integer := a_is_integer,
    fd_is_integer := _,
    F_is_integer := funS_mk l_is_integer c_is_integer k_is_integer,
    g_is_number := PySem.W.mg_of X G g_is_number,
    a_is_number := a_is_number,
    fd_is_number := _,
    F_is_number := funS_mk l_is_number c_is_number k_is_number,
    g_as_ratio := PySem.W.mg_of X G g_as_ratio,
    a_as_ratio := a_as_ratio,
    fd_as_ratio := _,
    F_as_ratio := funS_mk l_as_ratio c_as_ratio k_as_ratio,
    g_common_divisor := PySem.W.mg_of X G g_common_divisor,
    a_common_divisor := a_common_divisor,
    fd_common_divisor := _,
    F_common_divisor := funS_mk l_common_divisor c_common_divisor k_common_divisor,
    g_digits_value := PySem.W.mg_of X G g_digits_value,
    a_digits_value := a_digits_value,
    fd_digits_value := _,
    F_digits_value := funS_mk l_digits_value c_digits_value k_digits_value,
    m_Ratio_init := ⟨f_Ratio_init, t_Ratio_init, k_Ratio_init⟩,
    mk_Ratio := ⟨mi_Ratio, f_Ratio_init, t_Ratio_init, kc_Ratio⟩,
    a_Ratio_init := a_Ratio_init,
    fd_Ratio_init := _,
    F_Ratio_init := ⟨⟨_, _, _, _, _, _, _, _, _, _, rfl, l_Ratio_init, c_Ratio_init, .inr ⟨(by intro z; cases z), _, _, [.int 1 dk_Ratio_init], _, rfl, dt_Ratio_init, rfl, .cons ⟨_, rfl⟩ (.nil)⟩, .inl rfl⟩, k_Ratio_init⟩,
    p_Ratio_of := p_Ratio_of,
    cm_Ratio_of := ⟨f_Ratio_of, ⟨_, pr_Ratio_of⟩, pf_Ratio_of⟩,
    a_Ratio_of := a_Ratio_of,
    fd_Ratio_of := _,
    F_Ratio_of := funS_mk l_Ratio_of c_Ratio_of k_Ratio_of,
    p_Ratio_read := p_Ratio_read,
    cm_Ratio_read := ⟨f_Ratio_read, ⟨_, pr_Ratio_read⟩, pf_Ratio_read⟩,
    a_Ratio_read := a_Ratio_read,
    fd_Ratio_read := _,
    F_Ratio_read := funS_mk l_Ratio_read c_Ratio_read k_Ratio_read,
    p_Ratio_is_whole := p_Ratio_is_whole,
    P_Ratio_is_whole := ⟨f_Ratio_is_whole, pg_Ratio_is_whole, pt_Ratio_is_whole, _, pr_Ratio_is_whole⟩,
    a_Ratio_is_whole := a_Ratio_is_whole,
    fd_Ratio_is_whole := _,
    F_Ratio_is_whole := funS_mk l_Ratio_is_whole c_Ratio_is_whole k_Ratio_is_whole,
    p_Ratio_floor := p_Ratio_floor,
    P_Ratio_floor := ⟨f_Ratio_floor, pg_Ratio_floor, pt_Ratio_floor, _, pr_Ratio_floor⟩,
    a_Ratio_floor := a_Ratio_floor,
    fd_Ratio_floor := _,
    F_Ratio_floor := funS_mk l_Ratio_floor c_Ratio_floor k_Ratio_floor,
    m_Ratio_over := ⟨f_Ratio_over, t_Ratio_over, k_Ratio_over⟩,
    a_Ratio_over := a_Ratio_over,
    fd_Ratio_over := _,
    F_Ratio_over := funS_mk l_Ratio_over c_Ratio_over k_Ratio_over,
    m_Ratio_repr := ⟨f_Ratio_repr, t_Ratio_repr, k_Ratio_repr⟩,
    a_Ratio_repr := a_Ratio_repr,
    fd_Ratio_repr := _,
    F_Ratio_repr := funS_mk l_Ratio_repr c_Ratio_repr k_Ratio_repr,
    m_Ratio_str := ⟨f_Ratio_str, t_Ratio_str, k_Ratio_str⟩,
    a_Ratio_str := a_Ratio_str,
    fd_Ratio_str := _,
    F_Ratio_str := funS_mk l_Ratio_str c_Ratio_str k_Ratio_str,
    m_Ratio_bool := ⟨f_Ratio_bool, t_Ratio_bool, k_Ratio_bool⟩,
    a_Ratio_bool := a_Ratio_bool,
    fd_Ratio_bool := _,
    F_Ratio_bool := funS_mk l_Ratio_bool c_Ratio_bool k_Ratio_bool,
    m_Ratio_neg := ⟨f_Ratio_neg, t_Ratio_neg, k_Ratio_neg⟩,
    a_Ratio_neg := a_Ratio_neg,
    fd_Ratio_neg := _,
    F_Ratio_neg := funS_mk l_Ratio_neg c_Ratio_neg k_Ratio_neg,
    m_Ratio_abs := ⟨f_Ratio_abs, t_Ratio_abs, k_Ratio_abs⟩,
    a_Ratio_abs := a_Ratio_abs,
    fd_Ratio_abs := _,
    F_Ratio_abs := funS_mk l_Ratio_abs c_Ratio_abs k_Ratio_abs,
    m_Ratio_add := ⟨f_Ratio_add, t_Ratio_add, k_Ratio_add⟩,
    a_Ratio_add := a_Ratio_add,
    fd_Ratio_add := _,
    F_Ratio_add := funS_mk l_Ratio_add c_Ratio_add k_Ratio_add,
    m_Ratio_radd := ⟨f_Ratio_radd, t_Ratio_radd, k_Ratio_radd⟩,
    a_Ratio_radd := a_Ratio_radd,
    fd_Ratio_radd := _,
    F_Ratio_radd := funS_mk l_Ratio_radd c_Ratio_radd k_Ratio_radd,
    m_Ratio_sub := ⟨f_Ratio_sub, t_Ratio_sub, k_Ratio_sub⟩,
    a_Ratio_sub := a_Ratio_sub,
    fd_Ratio_sub := _,
    F_Ratio_sub := funS_mk l_Ratio_sub c_Ratio_sub k_Ratio_sub,
    m_Ratio_rsub := ⟨f_Ratio_rsub, t_Ratio_rsub, k_Ratio_rsub⟩,
    a_Ratio_rsub := a_Ratio_rsub,
    fd_Ratio_rsub := _,
    F_Ratio_rsub := funS_mk l_Ratio_rsub c_Ratio_rsub k_Ratio_rsub,
    m_Ratio_mul := ⟨f_Ratio_mul, t_Ratio_mul, k_Ratio_mul⟩,
    a_Ratio_mul := a_Ratio_mul,
    fd_Ratio_mul := _,
    F_Ratio_mul := funS_mk l_Ratio_mul c_Ratio_mul k_Ratio_mul,
    m_Ratio_rmul := ⟨f_Ratio_rmul, t_Ratio_rmul, k_Ratio_rmul⟩,
    a_Ratio_rmul := a_Ratio_rmul,
    fd_Ratio_rmul := _,
    F_Ratio_rmul := funS_mk l_Ratio_rmul c_Ratio_rmul k_Ratio_rmul,
    m_Ratio_floordiv := ⟨f_Ratio_floordiv, t_Ratio_floordiv, k_Ratio_floordiv⟩,
    a_Ratio_floordiv := a_Ratio_floordiv,
    fd_Ratio_floordiv := _,
    F_Ratio_floordiv := funS_mk l_Ratio_floordiv c_Ratio_floordiv k_Ratio_floordiv,
    m_Ratio_mod := ⟨f_Ratio_mod, t_Ratio_mod, k_Ratio_mod⟩,
    a_Ratio_mod := a_Ratio_mod,
    fd_Ratio_mod := _,
    F_Ratio_mod := funS_mk l_Ratio_mod c_Ratio_mod k_Ratio_mod,
    m_Ratio_eq := ⟨f_Ratio_eq, t_Ratio_eq, k_Ratio_eq⟩,
    a_Ratio_eq := a_Ratio_eq,
    fd_Ratio_eq := _,
    F_Ratio_eq := funS_mk l_Ratio_eq c_Ratio_eq k_Ratio_eq,
    m_Ratio_ne := ⟨f_Ratio_ne, t_Ratio_ne, k_Ratio_ne⟩,
    a_Ratio_ne := a_Ratio_ne,
    fd_Ratio_ne := _,
    F_Ratio_ne := funS_mk l_Ratio_ne c_Ratio_ne k_Ratio_ne,
    m_Ratio_lt := ⟨f_Ratio_lt, t_Ratio_lt, k_Ratio_lt⟩,
    a_Ratio_lt := a_Ratio_lt,
    fd_Ratio_lt := _,
    F_Ratio_lt := funS_mk l_Ratio_lt c_Ratio_lt k_Ratio_lt,
    m_Ratio_le := ⟨f_Ratio_le, t_Ratio_le, k_Ratio_le⟩,
    a_Ratio_le := a_Ratio_le,
    fd_Ratio_le := _,
    F_Ratio_le := funS_mk l_Ratio_le c_Ratio_le k_Ratio_le,
    m_Ratio_gt := ⟨f_Ratio_gt, t_Ratio_gt, k_Ratio_gt⟩,
    a_Ratio_gt := a_Ratio_gt,
    fd_Ratio_gt := _,
    F_Ratio_gt := funS_mk l_Ratio_gt c_Ratio_gt k_Ratio_gt,
    m_Ratio_ge := ⟨f_Ratio_ge, t_Ratio_ge, k_Ratio_ge⟩,
    a_Ratio_ge := a_Ratio_ge,
    fd_Ratio_ge := _,
    F_Ratio_ge := funS_mk l_Ratio_ge c_Ratio_ge k_Ratio_ge,
    g_w_box := PySem.W.mg_of X G g_w_box,
    a_w_box := a_w_box,
    fd_w_box := _,
    F_w_box := funS_mk l_w_box c_w_box k_w_box,
    g_w_take := PySem.W.mg_of X G g_w_take,
    a_w_take := a_w_take,
    fd_w_take := _,
    F_w_take := funS_mk l_w_take c_w_take k_w_take,
    g_w_lowest := PySem.W.mg_of X G g_w_lowest,
    a_w_lowest := a_w_lowest,
    fd_w_lowest := _,
    F_w_lowest := funS_mk l_w_lowest c_w_lowest k_w_lowest,
    g_w_integer := PySem.W.mg_of X G g_w_integer,
    a_w_integer := a_w_integer,
    fd_w_integer := _,
    F_w_integer := funS_mk l_w_integer c_w_integer k_w_integer,
    g_w_is := PySem.W.mg_of X G g_w_is,
    a_w_is := a_w_is,
    fd_w_is := _,
    F_w_is := funS_mk l_w_is c_w_is k_w_is,
    g_w_text := PySem.W.mg_of X G g_w_text,
    a_w_text := a_w_text,
    fd_w_text := _,
    F_w_text := funS_mk l_w_text c_w_text k_w_text,
    g_w_told_right := PySem.W.mg_of X G g_w_told_right,
    a_w_told_right := a_w_told_right,
    fd_w_told_right := _,
    F_w_told_right := funS_mk l_w_told_right c_w_told_right k_w_told_right,
    g_w_refused := PySem.W.mg_of X G g_w_refused,
    a_w_refused := a_w_refused,
    fd_w_refused := _,
    F_w_refused := funS_mk l_w_refused c_w_refused k_w_refused,
    g_law := PySem.W.mg_of X G g_law,
    a_law := a_law,
    fd_law := _,
    F_law := funS_mk l_law c_law k_law,
    io_add := ⟨_, io_add⟩,
    ior_add := ⟨_, ior_add⟩,
    nio_add := nio_add,
    io_floordiv := ⟨_, io_floordiv⟩,
    ior_floordiv := ⟨_, ior_floordiv⟩,
    nio_floordiv := nio_floordiv,
    io_mod := ⟨_, io_mod⟩,
    ior_mod := ⟨_, ior_mod⟩,
    nio_mod := nio_mod,
    io_mul := ⟨_, io_mul⟩,
    ior_mul := ⟨_, ior_mul⟩,
    nio_mul := nio_mul,
    io_sub := ⟨_, io_sub⟩,
    ior_sub := ⟨_, ior_sub⟩,
    nio_sub := nio_sub,
    nii_Ratio_add := nii_Ratio_add,
    nii_Ratio_sub := nii_Ratio_sub,
    nii_Ratio_mul := nii_Ratio_mul,
    nii_Ratio_floordiv := nii_Ratio_floordiv,
    nr_Ratio_floordiv := nr_Ratio_floordiv,
    nii_Ratio_mod := nii_Ratio_mod,
    nr_Ratio_mod := nr_Ratio_mod,
    n_NotImplemented := PySem.W.mg_none_of X G n_NotImplemented,
    n_abs := PySem.W.mg_none_of X G n_abs,
    n_all := PySem.W.mg_none_of X G n_all,
    n_bool := PySem.W.mg_none_of X G n_bool,
    n_classmethod := PySem.W.mg_none_of X G n_classmethod,
    n_int := PySem.W.mg_none_of X G n_int,
    n_isinstance := PySem.W.mg_none_of X G n_isinstance,
    n_len := PySem.W.mg_none_of X G n_len,
    n_max := PySem.W.mg_none_of X G n_max,
    n_min := PySem.W.mg_none_of X G n_min,
    n_property := PySem.W.mg_none_of X G n_property,
    n_range := PySem.W.mg_none_of X G n_range,
    n_repr := PySem.W.mg_none_of X G n_repr,
    n_str := PySem.W.mg_none_of X G n_str,
    c_DIGITS := ⟨_, PySem.W.mg_of X G c_DIGITS⟩,
    c_MOST_DIGITS := ⟨_, PySem.W.mg_of X G c_MOST_DIGITS⟩ }, (Value.ref.inj e).symm⟩
theorem fin_law {P : Program} {w : World} {K : PySem.W.Frag} {mg : Str → Option Value} {fa : Addr} (t : ∃ T : Tx K mg, T.a_law = fa) : ∃ fd : FuncData, (∀ (s : Shared) (u : Value), BindsTo s fd ⟨[u], []⟩ [("_law_script", u)]) ∧ ∀ base : Heap, K.In base → base.Ns mainGlobals mg → FnG P w K mg base lvl_law fa fd ["_law_script"] (spR K (RLaw Scr)) := by
  obtain ⟨T, rfl⟩ := t
  exact ⟨T.fd_law, binds_law T, fun base _ _ => ok_law T⟩
end PM
open PySem PySem.W PyProof.Rows
set_option maxRecDepth 100000 in
set_option maxHeartbeats 0 in
theorem PySem.Challenge.cw_poolsmeet_k02_ratios_made_holds : PySem.Challenge.rw_poolsmeet_k02_ratios_made.Holds := by
  w_on; o_law; k_head; (case hw => w_witness2)
  k_fill
  refine PM.walkG (l := PySem.Challenge.rw_poolsmeet_k02_ratios_made) (k := PM.lvl_law) (x := "_law_script") rfl rfl ⟨rfl, by decide, by decide⟩ (fun w h Y => PySem.W.kIn_of Y) ?F
  case F =>
    intro w mg fa h KX G hmg
    refine' PM.fin_law (PM.tx_mk KX G hmg ?g_PoolError ?x_PoolError ?sa_PoolError ?ex_PoolError ?ty_PoolError ?kp_PoolError ?ur_PoolError ?ug_PoolError ?uf_PoolError ?g_InvalidNumber ?x_InvalidNumber ?sa_InvalidNumber ?ex_InvalidNumber ?ty_InvalidNumber ?kp_InvalidNumber ?xg_InvalidNumber ?xn_InvalidNumber ?xh_InvalidNumber ?xi_InvalidNumber ?xs_InvalidNumber ?na_InvalidNumber_value ?g_Ratio ?pg_Ratio ?hd_Ratio ?po_Ratio ?sa_Ratio ?ca_Ratio ?cg_Ratio ?ct_Ratio ?lk_Ratio ?mr_Ratio ?ty_Ratio ?rd_Ratio ?gg_Ratio ?na_Ratio_top ?na_Ratio_bottom ?mi_Ratio ?kc_Ratio ?i_InvalidNumber_init ?t_InvalidNumber_init ?l_InvalidNumber_init ?c_InvalidNumber_init ?k_InvalidNumber_init ?g_is_integer ?l_is_integer ?c_is_integer ?k_is_integer ?g_is_number ?l_is_number ?c_is_number ?k_is_number ?g_as_ratio ?l_as_ratio ?c_as_ratio ?k_as_ratio ?g_common_divisor ?l_common_divisor ?c_common_divisor ?k_common_divisor ?g_digits_value ?l_digits_value ?c_digits_value ?k_digits_value ?f_Ratio_init ?t_Ratio_init ?l_Ratio_init ?c_Ratio_init ?k_Ratio_init ?dt_Ratio_init ?f_Ratio_of ?pr_Ratio_of ?pf_Ratio_of ?l_Ratio_of ?c_Ratio_of ?k_Ratio_of ?f_Ratio_read ?pr_Ratio_read ?pf_Ratio_read ?l_Ratio_read ?c_Ratio_read ?k_Ratio_read ?f_Ratio_is_whole ?pg_Ratio_is_whole ?pt_Ratio_is_whole ?pr_Ratio_is_whole ?l_Ratio_is_whole ?c_Ratio_is_whole ?k_Ratio_is_whole ?f_Ratio_floor ?pg_Ratio_floor ?pt_Ratio_floor ?pr_Ratio_floor ?l_Ratio_floor ?c_Ratio_floor ?k_Ratio_floor ?f_Ratio_over ?t_Ratio_over ?l_Ratio_over ?c_Ratio_over ?k_Ratio_over ?f_Ratio_repr ?t_Ratio_repr ?l_Ratio_repr ?c_Ratio_repr ?k_Ratio_repr ?f_Ratio_str ?t_Ratio_str ?l_Ratio_str ?c_Ratio_str ?k_Ratio_str ?f_Ratio_bool ?t_Ratio_bool ?l_Ratio_bool ?c_Ratio_bool ?k_Ratio_bool ?f_Ratio_neg ?t_Ratio_neg ?l_Ratio_neg ?c_Ratio_neg ?k_Ratio_neg ?f_Ratio_abs ?t_Ratio_abs ?l_Ratio_abs ?c_Ratio_abs ?k_Ratio_abs ?f_Ratio_add ?t_Ratio_add ?l_Ratio_add ?c_Ratio_add ?k_Ratio_add ?f_Ratio_radd ?t_Ratio_radd ?l_Ratio_radd ?c_Ratio_radd ?k_Ratio_radd ?f_Ratio_sub ?t_Ratio_sub ?l_Ratio_sub ?c_Ratio_sub ?k_Ratio_sub ?f_Ratio_rsub ?t_Ratio_rsub ?l_Ratio_rsub ?c_Ratio_rsub ?k_Ratio_rsub ?f_Ratio_mul ?t_Ratio_mul ?l_Ratio_mul ?c_Ratio_mul ?k_Ratio_mul ?f_Ratio_rmul ?t_Ratio_rmul ?l_Ratio_rmul ?c_Ratio_rmul ?k_Ratio_rmul ?f_Ratio_floordiv ?t_Ratio_floordiv ?l_Ratio_floordiv ?c_Ratio_floordiv ?k_Ratio_floordiv ?f_Ratio_mod ?t_Ratio_mod ?l_Ratio_mod ?c_Ratio_mod ?k_Ratio_mod ?f_Ratio_eq ?t_Ratio_eq ?l_Ratio_eq ?c_Ratio_eq ?k_Ratio_eq ?f_Ratio_ne ?t_Ratio_ne ?l_Ratio_ne ?c_Ratio_ne ?k_Ratio_ne ?f_Ratio_lt ?t_Ratio_lt ?l_Ratio_lt ?c_Ratio_lt ?k_Ratio_lt ?f_Ratio_le ?t_Ratio_le ?l_Ratio_le ?c_Ratio_le ?k_Ratio_le ?f_Ratio_gt ?t_Ratio_gt ?l_Ratio_gt ?c_Ratio_gt ?k_Ratio_gt ?f_Ratio_ge ?t_Ratio_ge ?l_Ratio_ge ?c_Ratio_ge ?k_Ratio_ge ?g_w_box ?l_w_box ?c_w_box ?k_w_box ?g_w_take ?l_w_take ?c_w_take ?k_w_take ?g_w_lowest ?l_w_lowest ?c_w_lowest ?k_w_lowest ?g_w_integer ?l_w_integer ?c_w_integer ?k_w_integer ?g_w_is ?l_w_is ?c_w_is ?k_w_is ?g_w_text ?l_w_text ?c_w_text ?k_w_text ?g_w_told_right ?l_w_told_right ?c_w_told_right ?k_w_told_right ?g_w_refused ?l_w_refused ?c_w_refused ?k_w_refused ?g_law ?l_law ?c_law ?k_law ?io_add ?ior_add ?nio_add ?io_floordiv ?ior_floordiv ?nio_floordiv ?io_mod ?ior_mod ?nio_mod ?io_mul ?ior_mul ?nio_mul ?io_sub ?ior_sub ?nio_sub ?nii_Ratio_add ?nii_Ratio_sub ?nii_Ratio_mul ?nii_Ratio_floordiv ?nr_Ratio_floordiv ?nii_Ratio_mod ?nr_Ratio_mod ?n_NotImplemented ?n_abs ?n_all ?n_bool ?n_classmethod ?n_int ?n_isinstance ?n_len ?n_max ?n_min ?n_property ?n_range ?n_repr ?n_str ?c_DIGITS ?c_MOST_DIGITS)
    (case g_PoolError => first | k_is | (show some _ = some _; k_is))
    (case x_PoolError => first | k_is | (show some _ = some _; k_is))
    (case sa_PoolError => first | k_is | (show some _ = some _; k_is))
    (case ex_PoolError => first | k_is | (show some _ = some _; k_is))
    (case ty_PoolError => first | k_is | (show some _ = some _; k_is))
    (case kp_PoolError => first | k_is | (show some _ = some _; k_is))
    (case ur_PoolError => first | k_is | (show some _ = some _; k_is))
    (case ug_PoolError => first | k_is | (show some _ = some _; k_is))
    (case uf_PoolError => first | k_is | (show some _ = some _; k_is))
    (case g_InvalidNumber => first | k_is | (show some _ = some _; k_is))
    (case x_InvalidNumber => first | k_is | (show some _ = some _; k_is))
    (case sa_InvalidNumber => first | k_is | (show some _ = some _; k_is))
    (case ex_InvalidNumber => first | k_is | (show some _ = some _; k_is))
    (case ty_InvalidNumber => first | k_is | (show some _ = some _; k_is))
    (case kp_InvalidNumber => first | k_is | (show some _ = some _; k_is))
    (case xg_InvalidNumber => first | k_is | (show some _ = some _; k_is))
    (case xn_InvalidNumber => first | k_is | (show some _ = some _; k_is))
    (case xh_InvalidNumber => first | k_is | (show some _ = some _; k_is))
    (case xi_InvalidNumber => first | k_is | (show some _ = some _; k_is))
    (case xs_InvalidNumber => first | k_is | (show some _ = some _; k_is))
    (case na_InvalidNumber_value => first | k_is | (show some _ = some _; k_is))
    (case g_Ratio => first | k_is | (show some _ = some _; k_is))
    (case pg_Ratio => first | k_is | (show some _ = some _; k_is))
    (case hd_Ratio => first | k_is | (show some _ = some _; k_is))
    (case po_Ratio => first | k_is | (show some _ = some _; k_is))
    (case sa_Ratio => first | k_is | (show some _ = some _; k_is))
    (case ca_Ratio => first | k_is | (show some _ = some _; k_is))
    (case cg_Ratio => first | k_is | (show some _ = some _; k_is))
    (case ct_Ratio => first | k_is | (show some _ = some _; k_is))
    (case lk_Ratio => first | k_is | (show some _ = some _; k_is))
    (case mr_Ratio => rfl)
    (case ty_Ratio => first | k_is | (show some _ = some _; k_is))
    (case rd_Ratio => first | k_is | (show some _ = some _; k_is))
    (case gg_Ratio => first | k_is | (show some _ = some _; k_is))
    (case na_Ratio_top => first | k_is | (show some _ = some _; k_is))
    (case na_Ratio_bottom => first | k_is | (show some _ = some _; k_is))
    (case mi_Ratio => first | k_is | (show some _ = some _; k_is))
    (case kc_Ratio => first | k_is | (show some _ = some _; k_is))
    (case i_InvalidNumber_init => first | k_is | (show some _ = some _; k_is))
    (case t_InvalidNumber_init => first | k_is | (show some _ = some _; k_is))
    (case l_InvalidNumber_init => first | k_is | (show some _ = some _; k_is))
    (case c_InvalidNumber_init => first | k_is | (show some _ = some _; k_is))
    (case k_InvalidNumber_init => first | k_is | (show some _ = some _; k_is))
    (case g_is_integer => first | k_is | (show some _ = some _; k_is))
    (case l_is_integer => first | k_is | (show some _ = some _; k_is))
    (case c_is_integer => first | k_is | (show some _ = some _; k_is))
    (case k_is_integer => first | k_is | (show some _ = some _; k_is))
    (case g_is_number => first | k_is | (show some _ = some _; k_is))
    (case l_is_number => first | k_is | (show some _ = some _; k_is))
    (case c_is_number => first | k_is | (show some _ = some _; k_is))
    (case k_is_number => first | k_is | (show some _ = some _; k_is))
    (case g_as_ratio => first | k_is | (show some _ = some _; k_is))
    (case l_as_ratio => first | k_is | (show some _ = some _; k_is))
    (case c_as_ratio => first | k_is | (show some _ = some _; k_is))
    (case k_as_ratio => first | k_is | (show some _ = some _; k_is))
    (case g_common_divisor => first | k_is | (show some _ = some _; k_is))
    (case l_common_divisor => first | k_is | (show some _ = some _; k_is))
    (case c_common_divisor => first | k_is | (show some _ = some _; k_is))
    (case k_common_divisor => first | k_is | (show some _ = some _; k_is))
    (case g_digits_value => first | k_is | (show some _ = some _; k_is))
    (case l_digits_value => first | k_is | (show some _ = some _; k_is))
    (case c_digits_value => first | k_is | (show some _ = some _; k_is))
    (case k_digits_value => first | k_is | (show some _ = some _; k_is))
    (case f_Ratio_init => first | k_is | (show some _ = some _; k_is))
    (case t_Ratio_init => first | k_is | (show some _ = some _; k_is))
    (case l_Ratio_init => first | k_is | (show some _ = some _; k_is))
    (case c_Ratio_init => first | k_is | (show some _ = some _; k_is))
    (case k_Ratio_init => first | k_is | (show some _ = some _; k_is))
    (case dt_Ratio_init => first | k_is | (show some _ = some _; k_is))
    (case f_Ratio_of => first | k_is | (show some _ = some _; k_is))
    (case pr_Ratio_of => first | k_is | (show some _ = some _; k_is))
    (case pf_Ratio_of => first | k_is | (show some _ = some _; k_is))
    (case l_Ratio_of => first | k_is | (show some _ = some _; k_is))
    (case c_Ratio_of => first | k_is | (show some _ = some _; k_is))
    (case k_Ratio_of => first | k_is | (show some _ = some _; k_is))
    (case f_Ratio_read => first | k_is | (show some _ = some _; k_is))
    (case pr_Ratio_read => first | k_is | (show some _ = some _; k_is))
    (case pf_Ratio_read => first | k_is | (show some _ = some _; k_is))
    (case l_Ratio_read => first | k_is | (show some _ = some _; k_is))
    (case c_Ratio_read => first | k_is | (show some _ = some _; k_is))
    (case k_Ratio_read => first | k_is | (show some _ = some _; k_is))
    (case f_Ratio_is_whole => first | k_is | (show some _ = some _; k_is))
    (case pg_Ratio_is_whole => first | k_is | (show some _ = some _; k_is))
    (case pt_Ratio_is_whole => first | k_is | (show some _ = some _; k_is))
    (case pr_Ratio_is_whole => first | k_is | (show some _ = some _; k_is))
    (case l_Ratio_is_whole => first | k_is | (show some _ = some _; k_is))
    (case c_Ratio_is_whole => first | k_is | (show some _ = some _; k_is))
    (case k_Ratio_is_whole => first | k_is | (show some _ = some _; k_is))
    (case f_Ratio_floor => first | k_is | (show some _ = some _; k_is))
    (case pg_Ratio_floor => first | k_is | (show some _ = some _; k_is))
    (case pt_Ratio_floor => first | k_is | (show some _ = some _; k_is))
    (case pr_Ratio_floor => first | k_is | (show some _ = some _; k_is))
    (case l_Ratio_floor => first | k_is | (show some _ = some _; k_is))
    (case c_Ratio_floor => first | k_is | (show some _ = some _; k_is))
    (case k_Ratio_floor => first | k_is | (show some _ = some _; k_is))
    (case f_Ratio_over => first | k_is | (show some _ = some _; k_is))
    (case t_Ratio_over => first | k_is | (show some _ = some _; k_is))
    (case l_Ratio_over => first | k_is | (show some _ = some _; k_is))
    (case c_Ratio_over => first | k_is | (show some _ = some _; k_is))
    (case k_Ratio_over => first | k_is | (show some _ = some _; k_is))
    (case f_Ratio_repr => first | k_is | (show some _ = some _; k_is))
    (case t_Ratio_repr => first | k_is | (show some _ = some _; k_is))
    (case l_Ratio_repr => first | k_is | (show some _ = some _; k_is))
    (case c_Ratio_repr => first | k_is | (show some _ = some _; k_is))
    (case k_Ratio_repr => first | k_is | (show some _ = some _; k_is))
    (case f_Ratio_str => first | k_is | (show some _ = some _; k_is))
    (case t_Ratio_str => first | k_is | (show some _ = some _; k_is))
    (case l_Ratio_str => first | k_is | (show some _ = some _; k_is))
    (case c_Ratio_str => first | k_is | (show some _ = some _; k_is))
    (case k_Ratio_str => first | k_is | (show some _ = some _; k_is))
    (case f_Ratio_bool => first | k_is | (show some _ = some _; k_is))
    (case t_Ratio_bool => first | k_is | (show some _ = some _; k_is))
    (case l_Ratio_bool => first | k_is | (show some _ = some _; k_is))
    (case c_Ratio_bool => first | k_is | (show some _ = some _; k_is))
    (case k_Ratio_bool => first | k_is | (show some _ = some _; k_is))
    (case f_Ratio_neg => first | k_is | (show some _ = some _; k_is))
    (case t_Ratio_neg => first | k_is | (show some _ = some _; k_is))
    (case l_Ratio_neg => first | k_is | (show some _ = some _; k_is))
    (case c_Ratio_neg => first | k_is | (show some _ = some _; k_is))
    (case k_Ratio_neg => first | k_is | (show some _ = some _; k_is))
    (case f_Ratio_abs => first | k_is | (show some _ = some _; k_is))
    (case t_Ratio_abs => first | k_is | (show some _ = some _; k_is))
    (case l_Ratio_abs => first | k_is | (show some _ = some _; k_is))
    (case c_Ratio_abs => first | k_is | (show some _ = some _; k_is))
    (case k_Ratio_abs => first | k_is | (show some _ = some _; k_is))
    (case f_Ratio_add => first | k_is | (show some _ = some _; k_is))
    (case t_Ratio_add => first | k_is | (show some _ = some _; k_is))
    (case l_Ratio_add => first | k_is | (show some _ = some _; k_is))
    (case c_Ratio_add => first | k_is | (show some _ = some _; k_is))
    (case k_Ratio_add => first | k_is | (show some _ = some _; k_is))
    (case f_Ratio_radd => first | k_is | (show some _ = some _; k_is))
    (case t_Ratio_radd => first | k_is | (show some _ = some _; k_is))
    (case l_Ratio_radd => first | k_is | (show some _ = some _; k_is))
    (case c_Ratio_radd => first | k_is | (show some _ = some _; k_is))
    (case k_Ratio_radd => first | k_is | (show some _ = some _; k_is))
    (case f_Ratio_sub => first | k_is | (show some _ = some _; k_is))
    (case t_Ratio_sub => first | k_is | (show some _ = some _; k_is))
    (case l_Ratio_sub => first | k_is | (show some _ = some _; k_is))
    (case c_Ratio_sub => first | k_is | (show some _ = some _; k_is))
    (case k_Ratio_sub => first | k_is | (show some _ = some _; k_is))
    (case f_Ratio_rsub => first | k_is | (show some _ = some _; k_is))
    (case t_Ratio_rsub => first | k_is | (show some _ = some _; k_is))
    (case l_Ratio_rsub => first | k_is | (show some _ = some _; k_is))
    (case c_Ratio_rsub => first | k_is | (show some _ = some _; k_is))
    (case k_Ratio_rsub => first | k_is | (show some _ = some _; k_is))
    (case f_Ratio_mul => first | k_is | (show some _ = some _; k_is))
    (case t_Ratio_mul => first | k_is | (show some _ = some _; k_is))
    (case l_Ratio_mul => first | k_is | (show some _ = some _; k_is))
    (case c_Ratio_mul => first | k_is | (show some _ = some _; k_is))
    (case k_Ratio_mul => first | k_is | (show some _ = some _; k_is))
    (case f_Ratio_rmul => first | k_is | (show some _ = some _; k_is))
    (case t_Ratio_rmul => first | k_is | (show some _ = some _; k_is))
    (case l_Ratio_rmul => first | k_is | (show some _ = some _; k_is))
    (case c_Ratio_rmul => first | k_is | (show some _ = some _; k_is))
    (case k_Ratio_rmul => first | k_is | (show some _ = some _; k_is))
    (case f_Ratio_floordiv => first | k_is | (show some _ = some _; k_is))
    (case t_Ratio_floordiv => first | k_is | (show some _ = some _; k_is))
    (case l_Ratio_floordiv => first | k_is | (show some _ = some _; k_is))
    (case c_Ratio_floordiv => first | k_is | (show some _ = some _; k_is))
    (case k_Ratio_floordiv => first | k_is | (show some _ = some _; k_is))
    (case f_Ratio_mod => first | k_is | (show some _ = some _; k_is))
    (case t_Ratio_mod => first | k_is | (show some _ = some _; k_is))
    (case l_Ratio_mod => first | k_is | (show some _ = some _; k_is))
    (case c_Ratio_mod => first | k_is | (show some _ = some _; k_is))
    (case k_Ratio_mod => first | k_is | (show some _ = some _; k_is))
    (case f_Ratio_eq => first | k_is | (show some _ = some _; k_is))
    (case t_Ratio_eq => first | k_is | (show some _ = some _; k_is))
    (case l_Ratio_eq => first | k_is | (show some _ = some _; k_is))
    (case c_Ratio_eq => first | k_is | (show some _ = some _; k_is))
    (case k_Ratio_eq => first | k_is | (show some _ = some _; k_is))
    (case f_Ratio_ne => first | k_is | (show some _ = some _; k_is))
    (case t_Ratio_ne => first | k_is | (show some _ = some _; k_is))
    (case l_Ratio_ne => first | k_is | (show some _ = some _; k_is))
    (case c_Ratio_ne => first | k_is | (show some _ = some _; k_is))
    (case k_Ratio_ne => first | k_is | (show some _ = some _; k_is))
    (case f_Ratio_lt => first | k_is | (show some _ = some _; k_is))
    (case t_Ratio_lt => first | k_is | (show some _ = some _; k_is))
    (case l_Ratio_lt => first | k_is | (show some _ = some _; k_is))
    (case c_Ratio_lt => first | k_is | (show some _ = some _; k_is))
    (case k_Ratio_lt => first | k_is | (show some _ = some _; k_is))
    (case f_Ratio_le => first | k_is | (show some _ = some _; k_is))
    (case t_Ratio_le => first | k_is | (show some _ = some _; k_is))
    (case l_Ratio_le => first | k_is | (show some _ = some _; k_is))
    (case c_Ratio_le => first | k_is | (show some _ = some _; k_is))
    (case k_Ratio_le => first | k_is | (show some _ = some _; k_is))
    (case f_Ratio_gt => first | k_is | (show some _ = some _; k_is))
    (case t_Ratio_gt => first | k_is | (show some _ = some _; k_is))
    (case l_Ratio_gt => first | k_is | (show some _ = some _; k_is))
    (case c_Ratio_gt => first | k_is | (show some _ = some _; k_is))
    (case k_Ratio_gt => first | k_is | (show some _ = some _; k_is))
    (case f_Ratio_ge => first | k_is | (show some _ = some _; k_is))
    (case t_Ratio_ge => first | k_is | (show some _ = some _; k_is))
    (case l_Ratio_ge => first | k_is | (show some _ = some _; k_is))
    (case c_Ratio_ge => first | k_is | (show some _ = some _; k_is))
    (case k_Ratio_ge => first | k_is | (show some _ = some _; k_is))
    (case g_w_box => first | k_is | (show some _ = some _; k_is))
    (case l_w_box => first | k_is | (show some _ = some _; k_is))
    (case c_w_box => first | k_is | (show some _ = some _; k_is))
    (case k_w_box => first | k_is | (show some _ = some _; k_is))
    (case g_w_take => first | k_is | (show some _ = some _; k_is))
    (case l_w_take => first | k_is | (show some _ = some _; k_is))
    (case c_w_take => first | k_is | (show some _ = some _; k_is))
    (case k_w_take => first | k_is | (show some _ = some _; k_is))
    (case g_w_lowest => first | k_is | (show some _ = some _; k_is))
    (case l_w_lowest => first | k_is | (show some _ = some _; k_is))
    (case c_w_lowest => first | k_is | (show some _ = some _; k_is))
    (case k_w_lowest => first | k_is | (show some _ = some _; k_is))
    (case g_w_integer => first | k_is | (show some _ = some _; k_is))
    (case l_w_integer => first | k_is | (show some _ = some _; k_is))
    (case c_w_integer => first | k_is | (show some _ = some _; k_is))
    (case k_w_integer => first | k_is | (show some _ = some _; k_is))
    (case g_w_is => first | k_is | (show some _ = some _; k_is))
    (case l_w_is => first | k_is | (show some _ = some _; k_is))
    (case c_w_is => first | k_is | (show some _ = some _; k_is))
    (case k_w_is => first | k_is | (show some _ = some _; k_is))
    (case g_w_text => first | k_is | (show some _ = some _; k_is))
    (case l_w_text => first | k_is | (show some _ = some _; k_is))
    (case c_w_text => first | k_is | (show some _ = some _; k_is))
    (case k_w_text => first | k_is | (show some _ = some _; k_is))
    (case g_w_told_right => first | k_is | (show some _ = some _; k_is))
    (case l_w_told_right => first | k_is | (show some _ = some _; k_is))
    (case c_w_told_right => first | k_is | (show some _ = some _; k_is))
    (case k_w_told_right => first | k_is | (show some _ = some _; k_is))
    (case g_w_refused => first | k_is | (show some _ = some _; k_is))
    (case l_w_refused => first | k_is | (show some _ = some _; k_is))
    (case c_w_refused => first | k_is | (show some _ = some _; k_is))
    (case k_w_refused => first | k_is | (show some _ = some _; k_is))
    (case g_law => first | k_is | (show some _ = some _; k_is))
    (case l_law => first | k_is | (show some _ = some _; k_is))
    (case c_law => first | k_is | (show some _ = some _; k_is))
    (case k_law => first | k_is | (show some _ = some _; k_is))
    (case io_add => first | k_is | (show some _ = some _; k_is))
    (case ior_add => first | k_is | (show some _ = some _; k_is))
    (case nio_add => first | k_is | (show some _ = some _; k_is))
    (case io_floordiv => first | k_is | (show some _ = some _; k_is))
    (case ior_floordiv => first | k_is | (show some _ = some _; k_is))
    (case nio_floordiv => first | k_is | (show some _ = some _; k_is))
    (case io_mod => first | k_is | (show some _ = some _; k_is))
    (case ior_mod => first | k_is | (show some _ = some _; k_is))
    (case nio_mod => first | k_is | (show some _ = some _; k_is))
    (case io_mul => first | k_is | (show some _ = some _; k_is))
    (case ior_mul => first | k_is | (show some _ = some _; k_is))
    (case nio_mul => first | k_is | (show some _ = some _; k_is))
    (case io_sub => first | k_is | (show some _ = some _; k_is))
    (case ior_sub => first | k_is | (show some _ = some _; k_is))
    (case nio_sub => first | k_is | (show some _ = some _; k_is))
    (case nii_Ratio_add => first | k_is | (show some _ = some _; k_is))
    (case nii_Ratio_sub => first | k_is | (show some _ = some _; k_is))
    (case nii_Ratio_mul => first | k_is | (show some _ = some _; k_is))
    (case nii_Ratio_floordiv => first | k_is | (show some _ = some _; k_is))
    (case nr_Ratio_floordiv => first | k_is | (show some _ = some _; k_is))
    (case nii_Ratio_mod => first | k_is | (show some _ = some _; k_is))
    (case nr_Ratio_mod => first | k_is | (show some _ = some _; k_is))
    (case n_NotImplemented => first | k_is | (show some _ = some _; k_is))
    (case n_abs => first | k_is | (show some _ = some _; k_is))
    (case n_all => first | k_is | (show some _ = some _; k_is))
    (case n_bool => first | k_is | (show some _ = some _; k_is))
    (case n_classmethod => first | k_is | (show some _ = some _; k_is))
    (case n_int => first | k_is | (show some _ = some _; k_is))
    (case n_isinstance => first | k_is | (show some _ = some _; k_is))
    (case n_len => first | k_is | (show some _ = some _; k_is))
    (case n_max => first | k_is | (show some _ = some _; k_is))
    (case n_min => first | k_is | (show some _ = some _; k_is))
    (case n_property => first | k_is | (show some _ = some _; k_is))
    (case n_range => first | k_is | (show some _ = some _; k_is))
    (case n_repr => first | k_is | (show some _ = some _; k_is))
    (case n_str => first | k_is | (show some _ = some _; k_is))
    (case c_DIGITS => first | k_is | (show some _ = some _; k_is))
    (case c_MOST_DIGITS => first | k_is | (show some _ = some _; k_is))
#print axioms PySem.Challenge.cw_poolsmeet_k02_ratios_made_holds
