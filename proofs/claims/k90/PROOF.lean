import PyProof.Rows.All
import Wide.All
import OpenK.AllK
import Wide.FinOn
import HandS.ForMost
import HandS.Deep
import HandS.Zip
import HandS.TupAny
import HandS.TupMul
import HandS.IsInst
import KE.GoesMore
import HandS.More
import HandS.SetFor
import HandS.SortOrd
import HandS.ExcValue
import KE.LtData
import KE.DataCmp
import PyProof.TupleOfSeq
import HandS.Style
import HandS.Conv
import HandS.Ends
import HandS.Words
import HandS.Dict
import PySem.Challenge.RW_chesthours_k90_forfeits_to_scale
set_option Elab.async false
set_option linter.all false
set_option maxRecDepth 100000
set_option maxHeartbeats 4000000
namespace DL
open PySem PySem.Spec L2

/-- data: tuples and lists that nobody changes any more by value, what may be changed by its place in a store -/
inductive D where
  | non | bl (b : Bool) | int (i : Int) | str (s : Str) | ty (t : String)
  | tup (ds : List D) | lst (ds : List D) | dic (t : Bool) (ks vs : List D)
  | scr (ns : List Int) | ref (n : Nat)

inductive Cell where
  | lst (ds : List D) | dic (t : Bool) (ks vs : List D) | ins (c : Nat) (fs : List Str) (vs : List D)

abbrev Rho := List (Option D)
abbrev Sto := List Cell
abbrev E := Rho → Sto → Option D
abbrev EL := Rho → Sto → Option (List D)
abbrev EB := Rho → Sto → Option Bool

def keyD : Key → D
  | .inl i => .int i
  | .inr s => .str s
def dicKs (kvs : List (Key × V)) : List D := kvs.map fun p => keyD p.1
def dicKsT (kvs : List (List Key × V)) : List D := kvs.map fun p => .tup (p.1.map keyD)

mutual
def RV (K : PySem.W.Frag) (av : Addr → Prop) (μ : List Addr) (H : Hp) : D → V → Prop
  | .non, v => v = .non
  | .bl b, v => v = .bl b
  | .int i, v => v = .int i
  | .str s, v => v = .str s
  | .ty t, v => v = .ty t
  | .tup ds, v => ∃ a xs, v = .ref a ∧ H a = some (.tup xs) ∧ RVL K av μ H ds xs
  | .lst ds, v => ∃ a xs, v = .ref a ∧ H a = some (.lst xs) ∧ ¬ av a ∧ RVL K av μ H ds xs
  | .dic t ks vs, v => ∃ a, v = .ref a ∧ ¬ av a ∧ (
      (t = false ∧ ∃ kvs, H a = some (.dK kvs) ∧ ks = dicKs kvs ∧ RVL K av μ H vs (kvs.map (·.2))) ∨
      (t = true ∧ ∃ kvs, H a = some (.dT kvs) ∧ ks = dicKsT kvs ∧ RVL K av μ H vs (kvs.map (·.2))))
  | .scr ns, v => ∃ a, v = .ref a ∧ ((∃ o, H a = some (.frz o (.lst (ns.map V.int)))) ∨ ∀ H' : Hp, SqL K H' a (ns.map V.int))
  | .ref n, v => ∃ a, v = .ref a ∧ μ[n]? = some a
def RVL (K : PySem.W.Frag) (av : Addr → Prop) (μ : List Addr) (H : Hp) : List D → List V → Prop
  | [], xs => xs = []
  | d :: ds, xs => ∃ y ys, xs = y :: ys ∧ RV K av μ H d y ∧ RVL K av μ H ds ys
end

/-- what may be changed -/
def isMut : HO → Bool
  | .tup _ => false
  | .frz _ _ => false
  | _ => true

section
variable {K : PySem.W.Frag} {av av' : Addr → Prop} {μ μ' : List Addr} {H H' : Hp}
mutual
theorem RV.tr (hp : ∀ a o, H a = some o → (isMut o = true → ¬ av a) → H' a = some o ∧ (isMut o = true → ¬ av' a)) (hm : ∀ (n : Nat) a, μ[n]? = some a → μ'[n]? = some a) :
    ∀ (d : D) (v : V), RV K av μ H d v → RV K av' μ' H' d v
  | .non, _, h => by unfold RV at h ⊢; exact h
  | .bl _, _, h => by unfold RV at h ⊢; exact h
  | .int _, _, h => by unfold RV at h ⊢; exact h
  | .str _, _, h => by unfold RV at h ⊢; exact h
  | .ty _, _, h => by unfold RV at h ⊢; exact h
  | .tup ds, v, h => by
    unfold RV at h ⊢
    obtain ⟨a, xs, e, hs, hr⟩ := h
    exact ⟨a, xs, e, (hp a _ hs (fun z => by cases z)).1, RVL.tr hp hm ds xs hr⟩
  | .lst ds, v, h => by
    unfold RV at h ⊢
    obtain ⟨a, xs, e, hs, hn, hr⟩ := h
    obtain ⟨h1, h2⟩ := hp a _ hs (fun _ => hn)
    exact ⟨a, xs, e, h1, h2 rfl, RVL.tr hp hm ds xs hr⟩
  | .dic t ks vs, v, h => by
    unfold RV at h ⊢
    obtain ⟨a, e, hn, h⟩ := h
    rcases h with ⟨ht, kvs, hs, hk, hr⟩ | ⟨ht, kvs, hs, hk, hr⟩
    · obtain ⟨h1, h2⟩ := hp a _ hs (fun _ => hn)
      exact ⟨a, e, h2 rfl, .inl ⟨ht, kvs, h1, hk, RVL.tr hp hm vs _ hr⟩⟩
    · obtain ⟨h1, h2⟩ := hp a _ hs (fun _ => hn)
      exact ⟨a, e, h2 rfl, .inr ⟨ht, kvs, h1, hk, RVL.tr hp hm vs _ hr⟩⟩
  | .scr ns, v, h => by
    unfold RV at h ⊢
    obtain ⟨a, e, hs⟩ := h
    rcases hs with ⟨o, hs⟩ | hs
    · exact ⟨a, e, .inl ⟨o, (hp a _ hs (fun z => by cases z)).1⟩⟩
    · exact ⟨a, e, .inr hs⟩
  | .ref n, v, h => by
    unfold RV at h ⊢
    obtain ⟨a, e, hn⟩ := h
    exact ⟨a, e, hm n a hn⟩
theorem RVL.tr (hp : ∀ a o, H a = some o → (isMut o = true → ¬ av a) → H' a = some o ∧ (isMut o = true → ¬ av' a)) (hm : ∀ (n : Nat) a, μ[n]? = some a → μ'[n]? = some a) :
    ∀ (ds : List D) (xs : List V), RVL K av μ H ds xs → RVL K av' μ' H' ds xs
  | [], xs, h => by unfold RVL at h ⊢; exact h
  | d :: ds, xs, h => by
    unfold RVL at h ⊢
    obtain ⟨y, ys, e, h1, h2⟩ := h
    exact ⟨y, ys, e, RV.tr hp hm d y h1, RVL.tr hp hm ds ys h2⟩
end
end

/-! ### the world at a point of a def's body -/
/-- what stands around: Hb what stood at the entry and stays, A what values may not lean on, μ0 the cells that were there, cl the classes -/
structure Fr where
  Hb : Hp
  A : Addr → Prop
  μ0 : List Addr
  cl : Nat → Addr

def avd (Z : Fr) (μ : List Addr) : Addr → Prop := fun a => Z.A a ∨ a ∈ μ
abbrev RVz (K : PySem.W.Frag) (Z : Fr) (μ : List Addr) (H : Hp) : D → V → Prop := RV K (avd Z μ) μ H
abbrev RVLz (K : PySem.W.Frag) (Z : Fr) (μ : List Addr) (H : Hp) : List D → List V → Prop := RVL K (avd Z μ) μ H

def RC (K : PySem.W.Frag) (Z : Fr) (μ : List Addr) (H : Hp) (a : Addr) : Cell → Prop
  | .lst ds => ∃ xs, H a = some (.lst xs) ∧ RVLz K Z μ H ds xs
  | .dic t ks vs =>
      (t = false ∧ ∃ kvs, H a = some (.dK kvs) ∧ ks = dicKs kvs ∧ RVLz K Z μ H vs (kvs.map (·.2))) ∨
      (t = true ∧ ∃ kvs, H a = some (.dT kvs) ∧ ks = dicKsT kvs ∧ RVLz K Z μ H vs (kvs.map (·.2)))
  | .ins c fs vs => ∃ dx fvs, H a = some (.ins (Z.cl c) dx fvs) ∧ fvs.map (·.1) = fs ∧ RVLz K Z μ H vs (fvs.map (·.2))

structure Wd (K : PySem.W.Frag) (Z : Fr) (μ : List Addr) (H : Hp) (S : Sto) : Prop where
  len : S.length = μ.length
  nd : μ.Nodup
  cell : ∀ (n : Nat) c a, S[n]? = some c → μ[n]? = some a → RC K Z μ H a c
  base : ∀ a o, Z.Hb a = some o → H a = some o
  dis : ∀ a ∈ μ, Z.Hb a = none
  av : ∀ a, Z.A a → H a ≠ none
  disA : ∀ a ∈ μ, ¬ Z.A a
  root : Z.μ0 <+: μ

structure Rel (K : PySem.W.Frag) (Z : Fr) (μ : List Addr) (σ : St) (H : Hp) (ρ : Rho) (S : Sto) : Prop where
  wd : Wd K Z μ H S
  len : ρ.length ≤ σ.length
  env : ∀ (i : Nat) d, ρ[i]? = some (some d) → ∃ v, σ[i]? = some (some v) ∧ RVz K Z μ H d v

theorem RC.mut {K : PySem.W.Frag} {Z : Fr} {μ : List Addr} {H : Hp} {a : Addr} {c : Cell} (h : RC K Z μ H a c) : ∃ o, H a = some o ∧ isMut o = true := by
  cases c with
  | lst ds => obtain ⟨xs, h, _⟩ := h; exact ⟨_, h, rfl⟩
  | dic t ks vs =>
    rcases h with ⟨_, kvs, h, _⟩ | ⟨_, kvs, h, _⟩
    · exact ⟨_, h, rfl⟩
    · exact ⟨_, h, rfl⟩
  | ins c fs vs => obtain ⟨dx, fvs, h, _⟩ := h; exact ⟨_, h, rfl⟩

section
variable {K : PySem.W.Frag} {Z : Fr} {μ μ' : List Addr} {H H' : Hp} {S S' : Sto} {σ σ' : St} {ρ ρ' : Rho}

theorem Wd.mem (W : Wd K Z μ H S) {a : Addr} (h : a ∈ μ) : ∃ o, H a = some o ∧ isMut o = true := by
  obtain ⟨n, hn⟩ := List.mem_iff_getElem?.mp h
  obtain ⟨hl, _⟩ := List.getElem?_eq_some_iff.mp hn
  have hl' : n < S.length := by rw [W.len]; exact hl
  exact (W.cell n _ a (List.getElem?_eq_getElem hl') hn).mut
theorem Wd.fresh (W : Wd K Z μ H S) {a : Addr} (h : H a = none) : ¬ avd Z μ a := fun q => by
  rcases q with q | q
  · exact W.av a q h
  · obtain ⟨o, e, _⟩ := W.mem q
    rw [h] at e; cases e
theorem Wd.newB (W : Wd K Z μ H S) {a : Addr} (h : H a = none) : Z.Hb a = none := by
  cases q : Z.Hb a with
  | none => rfl
  | some o => rw [W.base a o q] at h; cases h

theorem RV.mono {d : D} {v : V} (s : Same H H') (h : RVz K Z μ H d v) : RVz K Z μ H' d v := RV.tr (fun a o e hn => ⟨s a o e, hn⟩) (fun _ _ e => e) d v h
theorem RVL.mono {ds : List D} {xs : List V} (s : Same H H') (h : RVLz K Z μ H ds xs) : RVLz K Z μ H' ds xs := RVL.tr (fun a o e hn => ⟨s a o e, hn⟩) (fun _ _ e => e) ds xs h
theorem RC.mono {a : Addr} {c : Cell} (s : Same H H') (h : RC K Z μ H a c) : RC K Z μ H' a c := by
  cases c with
  | lst ds => obtain ⟨xs, h, r⟩ := h; exact ⟨xs, s _ _ h, RVL.mono s r⟩
  | dic t ks vs =>
    rcases h with ⟨t, kvs, h, e, r⟩ | ⟨t, kvs, h, e, r⟩
    · exact .inl ⟨t, kvs, s _ _ h, e, RVL.mono s r⟩
    · exact .inr ⟨t, kvs, s _ _ h, e, RVL.mono s r⟩
  | ins c fs vs => obtain ⟨dx, fvs, h, e, r⟩ := h; exact ⟨dx, fvs, s _ _ h, e, RVL.mono s r⟩
theorem Wd.mono (s : Same H H') (W : Wd K Z μ H S) : Wd K Z μ H' S :=
  ⟨W.len, W.nd, fun n c a h1 h2 => (W.cell n c a h1 h2).mono s, fun a o e => s _ _ (W.base a o e), W.dis, fun a h q => W.av a h (s.free q), W.disA, W.root⟩
theorem Rel.mono (s : Same H H') (R : Rel K Z μ σ H ρ S) : Rel K Z μ σ H' ρ S :=
  ⟨R.wd.mono s, R.len, fun i d e => let ⟨v, h1, h2⟩ := R.env i d e; ⟨v, h1, RV.mono s h2⟩⟩
theorem Rel.with (R : Rel K Z μ σ H ρ S) (W : Wd K Z μ' H' S') (tr : ∀ d v, RVz K Z μ H d v → RVz K Z μ' H' d v) : Rel K Z μ' σ H' ρ S' :=
  ⟨W, R.len, fun i d e => let ⟨v, h1, h2⟩ := R.env i d e; ⟨v, h1, tr d v h2⟩⟩

theorem RVL.length : ∀ {ds : List D} {xs : List V} {av : Addr → Prop}, RVL K av μ H ds xs → xs.length = ds.length
  | [], xs, _, h => by unfold RVL at h; subst h; rfl
  | d :: ds, xs, _, h => by
    unfold RVL at h
    obtain ⟨y, ys, rfl, _, h2⟩ := h
    simp only [List.length_cons, RVL.length h2]
theorem RVL.get : ∀ {ds : List D} {xs : List V} {av : Addr → Prop} {i : Nat} {d : D}, RVL K av μ H ds xs → ds[i]? = some d → ∃ v, xs[i]? = some v ∧ RV K av μ H d v
  | [], _, _, _, _, _, e => by simp at e
  | d :: ds, xs, _, 0, d', h, e => by
    unfold RVL at h
    obtain ⟨y, ys, rfl, h1, h2⟩ := h
    simp at e; subst e
    exact ⟨y, rfl, h1⟩
  | d :: ds, xs, _, i + 1, d', h, e => by
    unfold RVL at h
    obtain ⟨y, ys, rfl, h1, h2⟩ := h
    obtain ⟨v, q1, q2⟩ := RVL.get (i := i) h2 (by simpa using e)
    exact ⟨v, by simpa using q1, q2⟩
theorem RVL.getV {av : Addr → Prop} {ds : List D} {xs : List V} {i : Nat} {v : V} (h : RVL K av μ H ds xs) (e : xs[i]? = some v) : ∃ d, ds[i]? = some d ∧ RV K av μ H d v := by
  obtain ⟨hi, _⟩ := List.getElem?_eq_some_iff.mp e
  rw [RVL.length h] at hi
  have q := List.getElem?_eq_getElem hi
  obtain ⟨v', q1, q2⟩ := RVL.get h q
  rw [e] at q1; cases q1
  exact ⟨_, q, q2⟩
theorem RVL.app : ∀ {ds es : List D} {xs ys : List V} {av : Addr → Prop}, RVL K av μ H ds xs → RVL K av μ H es ys → RVL K av μ H (ds ++ es) (xs ++ ys)
  | [], es, xs, ys, _, h1, h2 => by unfold RVL at h1; subst h1; exact h2
  | d :: ds, es, xs, ys, _, h1, h2 => by
    unfold RVL at h1
    obtain ⟨y, zs, rfl, a, b⟩ := h1
    show RVL K _ μ H (d :: (ds ++ es)) _
    unfold RVL
    exact ⟨y, zs ++ ys, rfl, a, RVL.app b h2⟩
theorem RVL.one {av : Addr → Prop} {d : D} {v : V} (h : RV K av μ H d v) : RVL K av μ H [d] [v] := by
  unfold RVL
  exact ⟨v, [], rfl, h, by unfold RVL; rfl⟩
theorem RVL.nil' {av : Addr → Prop} : RVL K av μ H [] [] := by unfold RVL; rfl
theorem RVL.cons' {av : Addr → Prop} {d : D} {v : V} {ds : List D} {xs : List V} (h : RV K av μ H d v) (t : RVL K av μ H ds xs) : RVL K av μ H (d :: ds) (v :: xs) := by
  unfold RVL
  exact ⟨v, xs, rfl, h, t⟩
theorem RVL.set {av : Addr → Prop} {d : D} {v : V} (h : RV K av μ H d v) : ∀ {ds : List D} {xs : List V} (i : Nat), RVL K av μ H ds xs → RVL K av μ H (ds.set i d) (xs.set i v)
  | [], xs, _, t => by unfold RVL at t; subst t; exact RVL.nil'
  | e :: ds, xs, 0, t => by
    unfold RVL at t
    obtain ⟨y, ys, rfl, a, b⟩ := t
    exact RVL.cons' h b
  | e :: ds, xs, i + 1, t => by
    unfold RVL at t
    obtain ⟨y, ys, rfl, a, b⟩ := t
    exact RVL.cons' a (RVL.set h i b)
theorem RVL.take {av : Addr → Prop} : ∀ {ds : List D} {xs : List V} (n : Nat), RVL K av μ H ds xs → RVL K av μ H (ds.take n) (xs.take n)
  | _, _, 0, _ => by rw [List.take_zero, List.take_zero]; exact RVL.nil'
  | [], xs, n + 1, t => by unfold RVL at t; subst t; exact RVL.nil'
  | d :: ds, xs, n + 1, t => by
    unfold RVL at t
    obtain ⟨y, ys, rfl, a, b⟩ := t
    exact RVL.cons' a (RVL.take n b)
theorem RVL.drop {av : Addr → Prop} : ∀ {ds : List D} {xs : List V} (n : Nat), RVL K av μ H ds xs → RVL K av μ H (ds.drop n) (xs.drop n)
  | _, _, 0, t => t
  | [], xs, n + 1, t => by unfold RVL at t; subst t; exact RVL.nil'
  | d :: ds, xs, n + 1, t => by
    unfold RVL at t
    obtain ⟨y, ys, rfl, a, b⟩ := t
    exact RVL.drop n b
theorem RVL.rev {av : Addr → Prop} : ∀ {ds : List D} {xs : List V}, RVL K av μ H ds xs → RVL K av μ H ds.reverse xs.reverse
  | [], xs, t => by unfold RVL at t; subst t; exact RVL.nil'
  | d :: ds, xs, t => by
    unfold RVL at t
    obtain ⟨y, ys, rfl, a, b⟩ := t
    rw [List.reverse_cons, List.reverse_cons]
    exact RVL.app (RVL.rev b) (RVL.one a)

/-- a cell is written: all values stand as they stood -/
theorem RV.wr {a : Addr} {o : HO} (W : Wd K Z μ H S) (h : a ∈ μ) {d : D} {v : V} (r : RVz K Z μ H d v) : RVz K Z μ (upd H a o) d v :=
  RV.tr (fun b u e hn => by
    have ne : b ≠ a := by
      rintro rfl
      obtain ⟨u', e', m⟩ := W.mem h
      rw [e] at e'; cases e'
      exact hn m (.inr h)
    exact ⟨by rw [upd_ne ne]; exact e, hn⟩) (fun _ _ e => e) d v r
theorem RVL.wr {a : Addr} {o : HO} (W : Wd K Z μ H S) (h : a ∈ μ) {ds : List D} {xs : List V} (r : RVLz K Z μ H ds xs) : RVLz K Z μ (upd H a o) ds xs :=
  RVL.tr (fun b u e hn => by
    have ne : b ≠ a := by
      rintro rfl
      obtain ⟨u', e', m⟩ := W.mem h
      rw [e] at e'; cases e'
      exact hn m (.inr h)
    exact ⟨by rw [upd_ne ne]; exact e, hn⟩) (fun _ _ e => e) ds xs r
theorem RC.wr {a b : Addr} {o : HO} {c : Cell} (W : Wd K Z μ H S) (h : a ∈ μ) (ne : b ≠ a) (r : RC K Z μ H b c) : RC K Z μ (upd H a o) b c := by
  cases c with
  | lst ds => obtain ⟨xs, q, r⟩ := r; exact ⟨xs, by rw [upd_ne ne]; exact q, RVL.wr W h r⟩
  | dic t ks vs =>
    rcases r with ⟨t, kvs, q, e, r⟩ | ⟨t, kvs, q, e, r⟩
    · exact .inl ⟨t, kvs, by rw [upd_ne ne]; exact q, e, RVL.wr W h r⟩
    · exact .inr ⟨t, kvs, by rw [upd_ne ne]; exact q, e, RVL.wr W h r⟩
  | ins c fs vs => obtain ⟨dx, fvs, q, e, r⟩ := r; exact ⟨dx, fvs, by rw [upd_ne ne]; exact q, e, RVL.wr W h r⟩
theorem Wd.wr {n : Nat} {a : Addr} {o : HO} {c : Cell} (W : Wd K Z μ H S) (h : μ[n]? = some a) (r : RC K Z μ (upd H a o) a c) : Wd K Z μ (upd H a o) (S.set n c) := by
  have hm : a ∈ μ := List.mem_of_getElem? h
  refine ⟨by rw [List.length_set]; exact W.len, W.nd, fun m c' b h1 h2 => ?_, fun b u e => ?_, W.dis, fun b q z => ?_, W.disA, W.root⟩
  · by_cases e : m = n
    · subst e
      rw [h] at h2; cases h2
      obtain ⟨hl, _⟩ := List.getElem?_eq_some_iff.mp h
      rw [List.getElem?_set_self (by rw [W.len]; exact hl)] at h1
      cases h1
      exact r
    · rw [List.getElem?_set_ne (Ne.symm e)] at h1
      have ne : b ≠ a := by
        rintro rfl
        obtain ⟨l1, e1⟩ := List.getElem?_eq_some_iff.mp h
        obtain ⟨l2, e2⟩ := List.getElem?_eq_some_iff.mp h2
        exact e ((List.getElem_inj W.nd).mp (e2.trans e1.symm))
      exact RC.wr W hm ne (W.cell m c' b h1 h2)
  · have ne : b ≠ a := by
      rintro rfl
      rw [W.dis b hm] at e; cases e
    rw [upd_ne ne]
    exact W.base b u e
  · by_cases e : b = a
    · subst e; rw [upd_same] at z; cases z
    · rw [upd_ne e] at z; exact W.av b q z
/-- a new cell at a -/
theorem RV.alloc {a : Addr} (s : Same H H') (n : H a = none) {d : D} {v : V} (r : RVz K Z μ H d v) : RVz K Z (μ ++ [a]) H' d v := by
  refine RV.tr (fun b u e hn => ⟨s _ _ e, fun m q => ?_⟩) (fun n b e => ?_) d v r
  · rcases q with q | q
    · exact hn m (.inl q)
    · rcases List.mem_append.mp q with q | q
      · exact hn m (.inr q)
      · have : b = a := by simpa using q
        subst this
        rw [n] at e; cases e
  · rw [List.getElem?_append_left (List.getElem?_eq_some_iff.mp e).1]
    exact e
theorem RVL.alloc {a : Addr} (s : Same H H') (n : H a = none) {ds : List D} {xs : List V} (r : RVLz K Z μ H ds xs) : RVLz K Z (μ ++ [a]) H' ds xs := by
  refine RVL.tr (fun b u e hn => ⟨s _ _ e, fun m q => ?_⟩) (fun n b e => ?_) ds xs r
  · rcases q with q | q
    · exact hn m (.inl q)
    · rcases List.mem_append.mp q with q | q
      · exact hn m (.inr q)
      · have : b = a := by simpa using q
        subst this
        rw [n] at e; cases e
  · rw [List.getElem?_append_left (List.getElem?_eq_some_iff.mp e).1]
    exact e
theorem RC.alloc {a b : Addr} {c : Cell} (s : Same H H') (n : H a = none) (r : RC K Z μ H b c) : RC K Z (μ ++ [a]) H' b c := by
  cases c with
  | lst ds => obtain ⟨xs, q, r⟩ := r; exact ⟨xs, s _ _ q, RVL.alloc s n r⟩
  | dic t ks vs =>
    rcases r with ⟨t, kvs, q, e, r⟩ | ⟨t, kvs, q, e, r⟩
    · exact .inl ⟨t, kvs, s _ _ q, e, RVL.alloc s n r⟩
    · exact .inr ⟨t, kvs, s _ _ q, e, RVL.alloc s n r⟩
  | ins c fs vs => obtain ⟨dx, fvs, q, e, r⟩ := r; exact ⟨dx, fvs, s _ _ q, e, RVL.alloc s n r⟩
theorem Wd.alloc {a : Addr} {c : Cell} (W : Wd K Z μ H S) (s : Same H H') (n : H a = none) (r : RC K Z (μ ++ [a]) H' a c) : Wd K Z (μ ++ [a]) H' (S ++ [c]) := by
  refine ⟨by simp [W.len], ?_, fun m c' b h1 h2 => ?_, fun b o e => s _ _ (W.base b o e), fun b hb => ?_, fun b h q => W.av b h (s.free q), fun b hb => ?_, W.root.trans (List.prefix_append _ _)⟩
  · refine List.nodup_append.mpr ⟨W.nd, by simp, fun x hx y hy => ?_⟩
    have : y = a := by simpa using hy
    subst this
    rintro rfl
    exact W.fresh n (.inr hx)
  · by_cases hm : m < μ.length
    · rw [List.getElem?_append_left (by rw [W.len]; exact hm)] at h1
      rw [List.getElem?_append_left hm] at h2
      exact (W.cell m c' b h1 h2).alloc s n
    · rw [List.getElem?_append_right (by rw [W.len]; omega)] at h1
      rw [List.getElem?_append_right (by omega)] at h2
      rw [W.len] at h1
      cases q : m - μ.length with
      | zero =>
        rw [q] at h1 h2
        simp at h1 h2
        subst h1; subst h2
        exact r
      | succ k => rw [q] at h2; simp at h2
  · rcases List.mem_append.mp hb with hb | hb
    · exact W.dis b hb
    · have : b = a := by simpa using hb
      subst this
      exact W.newB n
  · rcases List.mem_append.mp hb with hb | hb
    · exact W.disA b hb
    · have : b = a := by simpa using hb
      subst this
      exact fun z => W.fresh n (.inl z)
theorem Rel.alloc {a : Addr} {c : Cell} (R : Rel K Z μ σ H ρ S) (s : Same H H') (n : H a = none) (r : RC K Z (μ ++ [a]) H' a c) : Rel K Z (μ ++ [a]) σ H' ρ (S ++ [c]) :=
  R.with (R.wd.alloc s n r) fun _ _ q => RV.alloc s n q
theorem Rel.wr {n : Nat} {a : Addr} {o : HO} {c : Cell} (R : Rel K Z μ σ H ρ S) (h : μ[n]? = some a) (r : RC K Z μ (upd H a o) a c) : Rel K Z μ σ (upd H a o) ρ (S.set n c) :=
  R.with (R.wd.wr h r) fun _ _ q => RV.wr R.wd (List.mem_of_getElem? h) q
theorem Rel.set {i : Nat} {d : D} {v : V} (R : Rel K Z μ σ H ρ S) (r : RVz K Z μ H d v) : Rel K Z μ (σ.set i (some v)) H (ρ.set i (some d)) S := by
  refine ⟨R.wd, by rw [List.length_set, List.length_set]; exact R.len, fun j e h => ?_⟩
  by_cases hj : i = j
  · subst hj
    by_cases hl : i < ρ.length
    · rw [List.getElem?_set_self hl] at h
      cases h
      exact ⟨v, List.getElem?_set_self (Nat.lt_of_lt_of_le hl R.len), r⟩
    · rw [List.getElem?_eq_none (by simpa using hl)] at h; cases h
  · rw [List.getElem?_set_ne hj] at h ⊢
    exact R.env j e h

/-! ### readings -/
abbrev avO (Z : Fr) (μ : List Addr) (a : Addr) : Addr → Prop := fun b => avd Z μ b ∨ b = a
def tD (K : PySem.W.Frag) (f : E) : TE := fun σ H Q => ∃ Z μ ρ S, Rel K Z μ σ H ρ S ∧ ∃ d, f ρ S = some d ∧ ∀ v H', Same H H' → RVz K Z μ H' d v → Q v H'
/-- a list that is new: nobody else has it -/
def tF (K : PySem.W.Frag) (f : EL) : TE := fun σ H Q => ∃ Z μ ρ S, Rel K Z μ σ H ρ S ∧ ∃ ds, f ρ S = some ds ∧
  ∀ a xs H', H a = none → Same H H' → H' a = some (.lst xs) → RVL K (avO Z μ a) μ H' ds xs → Q (.ref a) H'
def tT (K : PySem.W.Frag) (f : EB) : TT := fun σ H Q => ∃ Z μ ρ S, Rel K Z μ σ H ρ S ∧ ∃ b, f ρ S = some b ∧ ∀ H', Same H H' → Q b H'
def tA (K : PySem.W.Frag) (f : EL) : TA := fun σ H Q => ∃ Z μ ρ S, Rel K Z μ σ H ρ S ∧ ∃ ds, f ρ S = some ds ∧ ∀ vs H', Same H H' → RVLz K Z μ H' ds vs → Q vs H'

theorem RVL.weakO {a : Addr} {ds : List D} {xs : List V} (h : RVL K (avO Z μ a) μ H ds xs) : RVLz K Z μ H ds xs :=
  RVL.tr (fun b u e hn => ⟨e, fun m q => hn m (.inl q)⟩) (fun _ _ e => e) ds xs h
theorem RVL.newO {a : Addr} {ds : List D} {xs : List V} (s : Same H H') (n : H a = none) (h : RVLz K Z μ H ds xs) : RVL K (avO Z μ a) μ H' ds xs :=
  RVL.tr (fun b u e hn => ⟨s _ _ e, fun m q => by
    rcases q with q | q
    · exact hn m q
    · subst q; rw [n] at e; cases e⟩) (fun _ _ e => e) ds xs h
theorem RV.lst_of {a : Addr} {xs : List V} {ds : List D} (W : Wd K Z μ H S) (n : H a = none) (h1 : H' a = some (.lst xs)) (h : RVL K (avO Z μ a) μ H' ds xs) : RVz K Z μ H' (.lst ds) (.ref a) := by
  unfold RVz RV
  exact ⟨a, xs, rfl, h1, W.fresh n, h.weakO⟩

end
section
variable {X : Cx} {e : Expr} {st : Stmt}
theorem pe_imp {t t' : TE} (h : PE X e t) (i : ∀ σ H Q, t' σ H Q → t σ H Q) : PE X e t' := ⟨fun pins s σ H Q I q => h.run pins s σ H Q I (i σ H Q q)⟩
theorem pt_imp {t t' : TT} (h : PT X e t) (i : ∀ σ H Q, t' σ H Q → t σ H Q) : PT X e t' := ⟨fun pins s σ H Q I q => h.run pins s σ H Q I (i σ H Q q)⟩
theorem pw_imp {t t' : TT} (h : PW X e t) (i : ∀ σ H Q, t' σ H Q → t σ H Q) : PW X e t' := ⟨fun wh pins s σ H Q I q => h.run wh pins s σ H Q I (i σ H Q q)⟩
theorem pa_imp {es : List Expr} {t t' : TA} (h : PA X es t) (i : ∀ σ H Q, t' σ H Q → t σ H Q) : PA X es t' := ⟨fun p pins s σ H Q I q => h.run p pins s σ H Q I (i σ H Q q)⟩
theorem ps_imp {t t' : TS} (h : PS X st t) (i : ∀ D σ H, t' D σ H → t D σ H) : PS X st t' := ⟨fun pins s σ H D I q => h.run pins s σ H D I (i D σ H q)⟩
theorem pss_imp {sts : List Stmt} {t t' : TS} (h : PSs X sts t) (i : ∀ D σ H, t' D σ H → t D σ H) : PSs X sts t' := ⟨fun pins s σ H D I q => h.run pins s σ H D I (i D σ H q)⟩
theorem pg_imp {t t' : TG} (h : PG X e t) (i : ∀ v σ H Q, t' v σ H Q → t v σ H Q) : PG X e t' := ⟨fun pins s σ H v u Q I r q => h.run pins s σ H v u Q I r (i v σ H Q q)⟩
theorem pi_imp {tg : Expr} {t t' : TI} (h : PI X tg e t) (i : ∀ σ H R, t' σ H R → t σ H R) : PI X tg e t' := ⟨fun pins s σ H R I q => h.run pins s σ H R I (i σ H R q)⟩
/-- a new list is a list -/
theorem d_ofF {f : EL} (h : PE X e (tF X.K f)) : PE X e (tD X.K fun ρ S => (f ρ S).map .lst) := pe_imp h fun σ H Q ⟨Z, μ, ρ, S, R, d, e, q⟩ => by
  cases z : f ρ S with
  | none => simp only [z, Option.map_none] at e; cases e
  | some ds =>
    simp only [z, Option.map_some, Option.some.injEq] at e
    subst e
    exact ⟨Z, μ, ρ, S, R, ds, z, fun a xs H' n s h1 h2 => q _ _ s (RV.lst_of R.wd n h1 h2)⟩
end
end DL

set_option maxHeartbeats 4000000
namespace DL
open PySem PySem.Spec L2

/-! ### equality of data -/
mutual
def toP : D → PyData
  | .bl b => .bool b
  | .int i => .int i
  | .str s => .str s
  | .tup ds => .tuple (toPs ds)
  | .lst ds => .list (toPs ds)
  | .non => .none
  | _ => .dict []
def toPs : List D → List PyData
  | [] => []
  | d :: ds => toP d :: toPs ds
end
mutual
def okD : Nat → D → Bool
  | _, .non => true
  | _, .bl _ => true
  | _, .int _ => true
  | _, .str s => PyData.strOk s
  | n + 1, .tup ds => okDs n ds
  | n + 1, .lst ds => okDs n ds
  | _, _ => false
def okDs : Nat → List D → Bool
  | _, [] => true
  | n, d :: ds => okD n d && okDs n ds
end
mutual
def eqD : D → D → Bool
  | .non, .non => true
  | .bl a, .bl b => a == b
  | .bl a, .int j => (if a then 1 else 0) == j
  | .int i, .bl b => i == (if b then 1 else 0)
  | .int i, .int j => i == j
  | .str x, .str y => x == y
  | .lst xs, .lst ys => eqDs xs ys
  | .tup xs, .tup ys => eqDs xs ys
  | _, _ => false
def eqDs : List D → List D → Bool
  | [], [] => true
  | x :: xs, y :: ys => eqD x y && eqDs xs ys
  | _, _ => false
end
mutual
theorem okD_lay : ∀ (n : Nat) (d : D), okD n d = true → (toP d).canLay0 = true ∧ (toP d).depth ≤ n
  | _, .non, _ => by simp [toP, PyData.canLay0, PyData.depth]
  | _, .bl _, _ => by simp [toP, PyData.canLay0, PyData.depth]
  | _, .int _, _ => by simp [toP, PyData.canLay0, PyData.depth]
  | _, .str s, h => by
    simp [okD] at h
    simp [toP, PyData.canLay0, PyData.depth, h]
  | n + 1, .tup ds, h => by
    simp only [okD] at h
    have q := okDs_lay n ds h
    simp only [toP, PyData.canLay0, PyData.depth]
    exact ⟨q.1, by omega⟩
  | n + 1, .lst ds, h => by
    simp only [okD] at h
    have q := okDs_lay n ds h
    simp only [toP, PyData.canLay0, PyData.depth]
    exact ⟨q.1, by omega⟩
  | 0, .tup ds, h => by simp [okD] at h
  | 0, .lst ds, h => by simp [okD] at h
  | _, .dic _ _ _, h => by simp [okD] at h
  | _, .scr _, h => by simp [okD] at h
  | _, .ref _, h => by simp [okD] at h
  | _, .ty _, h => by simp [okD] at h
theorem okDs_lay : ∀ (n : Nat) (ds : List D), okDs n ds = true → PyData.canLayAll0 (toPs ds) = true ∧ PyData.depthAll (toPs ds) ≤ n
  | _, [], _ => by simp [toPs, PyData.canLayAll0, PyData.depthAll]
  | n, d :: ds, h => by
    simp only [okDs, Bool.and_eq_true] at h
    have q1 := okD_lay n d h.1
    have q2 := okDs_lay n ds h.2
    simp only [toPs, PyData.canLayAll0, PyData.depthAll, Bool.and_eq_true]
    exact ⟨⟨q1.1, q2.1⟩, by omega⟩
end
theorem okD_shaped {n : Nat} {d : D} (h : okD n d = true) (hn : n ≤ 64) : SeqAt.shaped (toP d) = true := by
  obtain ⟨h1, h2⟩ := okD_lay n d h
  show ((toP d).canLay0 && decide ((toP d).depth ≤ 64)) = true
  rw [Bool.and_eq_true]
  exact ⟨h1, decide_eq_true (by omega)⟩
mutual
theorem eqv_eqD : ∀ (n m : Nat) (x y : D), okD n x = true → okD m y = true → PyData.eqv (toP x) (toP y) = eqD x y
  | n, m, .non, y, _, hy => by cases y <;> first | (simp [okD] at hy; done) | (simp only [toP, PyData.eqv, eqD]; done)
  | n, m, .bl _, y, _, hy => by cases y <;> first | (simp [okD] at hy; done) | (simp only [toP, PyData.eqv, eqD]; done)
  | n, m, .int _, y, _, hy => by cases y <;> first | (simp [okD] at hy; done) | (simp only [toP, PyData.eqv, eqD]; done)
  | n, m, .str _, y, _, hy => by cases y <;> first | (simp [okD] at hy; done) | (simp only [toP, PyData.eqv, eqD]; done)
  | n + 1, m, .tup xs, y, hx, hy => by
    cases y with
    | tup ys =>
      cases m with
      | zero => simp [okD] at hy
      | succ m =>
        simp only [okD] at hx hy
        simp only [toP, PyData.eqv, eqD]
        exact eqv_eqDs n m xs ys hx hy
    | _ => first | (simp [okD] at hy; done) | (simp only [toP, PyData.eqv, eqD]; done)
  | n + 1, m, .lst xs, y, hx, hy => by
    cases y with
    | lst ys =>
      cases m with
      | zero => simp [okD] at hy
      | succ m =>
        simp only [okD] at hx hy
        simp only [toP, PyData.eqv, eqD]
        exact eqv_eqDs n m xs ys hx hy
    | _ => first | (simp [okD] at hy; done) | (simp only [toP, PyData.eqv, eqD]; done)
  | 0, _, .tup ds, _, h, _ => by simp [okD] at h
  | 0, _, .lst ds, _, h, _ => by simp [okD] at h
  | _, _, .dic _ _ _, _, h, _ => by simp [okD] at h
  | _, _, .scr _, _, h, _ => by simp [okD] at h
  | _, _, .ref _, _, h, _ => by simp [okD] at h
  | _, _, .ty _, _, h, _ => by simp [okD] at h
theorem eqv_eqDs : ∀ (n m : Nat) (xs ys : List D), okDs n xs = true → okDs m ys = true → PyData.eqvAll (toPs xs) (toPs ys) = eqDs xs ys
  | _, _, [], [], _, _ => by simp only [toPs, PyData.eqvAll, eqDs]
  | _, _, [], _ :: _, _, _ => by simp only [toPs, PyData.eqvAll, eqDs]
  | _, _, _ :: _, [], _, _ => by simp only [toPs, PyData.eqvAll, eqDs]
  | n, m, x :: xs, y :: ys, hx, hy => by
    simp only [okDs, Bool.and_eq_true] at hx hy
    simp only [toPs, PyData.eqvAll, eqDs, eqv_eqD n m x y hx.1 hy.1, eqv_eqDs n m xs ys hx.2 hy.2]
end
section
variable {K : PySem.W.Frag} {av : Addr → Prop} {μ : List Addr} {H : Hp}
mutual
theorem dp_of : ∀ (n : Nat) (d : D) (v : V), okD n d = true → RV K av μ H d v → Dp K H v (toP d)
  | _, .non, v, _, h => by unfold RV at h; subst h; exact .non
  | _, .bl _, v, _, h => by unfold RV at h; subst h; exact .bl _
  | _, .int _, v, _, h => by unfold RV at h; subst h; exact .int _
  | _, .str _, v, _, h => by unfold RV at h; subst h; exact .str _
  | n + 1, .tup ds, v, o, h => by
    simp only [okD] at o
    unfold RV at h
    obtain ⟨a, xs, rfl, hs, hr⟩ := h
    simp only [toP]
    exact .tup (SqT.of hs) (dps_of n ds xs o hr)
  | n + 1, .lst ds, v, o, h => by
    simp only [okD] at o
    unfold RV at h
    obtain ⟨a, xs, rfl, hs, _, hr⟩ := h
    simp only [toP]
    exact .lst (SqL.of hs) (dps_of n ds xs o hr)
  | 0, .tup ds, _, h, _ => by simp [okD] at h
  | 0, .lst ds, _, h, _ => by simp [okD] at h
  | _, .dic _ _ _, _, h, _ => by simp [okD] at h
  | _, .scr _, _, h, _ => by simp [okD] at h
  | _, .ref _, _, h, _ => by simp [okD] at h
  | _, .ty _, _, h, _ => by simp [okD] at h
theorem dps_of : ∀ (n : Nat) (ds : List D) (vs : List V), okDs n ds = true → RVL K av μ H ds vs → DpAll K H vs (toPs ds)
  | _, [], vs, _, h => by unfold RVL at h; subst h; exact .nil
  | n, d :: ds, vs, o, h => by
    simp only [okDs, Bool.and_eq_true] at o
    unfold RVL at h
    obtain ⟨y, ys, rfl, h1, h2⟩ := h
    simp only [toPs]
    exact .cons (dp_of n d y o.1 h1) (dps_of n ds ys o.2 h2)
end
end

/-! ### what is in the store, read as data -/
mutual
/-- no place of the store in it -/
def nr : D → Bool
  | .tup ds => nrs ds
  | .lst ds => nrs ds
  | .dic _ _ vs => nrs vs
  | .ref _ => false
  | _ => true
def nrs : List D → Bool
  | [] => true
  | d :: ds => nr d && nrs ds
end
mutual
/-- neither places nor lists nor dicts in it -/
def imm : D → Bool
  | .tup ds => imms ds
  | .lst _ => false
  | .dic _ _ _ => false
  | .ref _ => false
  | _ => true
def imms : List D → Bool
  | [] => true
  | d :: ds => imm d && imms ds
end
mutual
def frzS (φ : Nat → Option D) : D → Option D
  | .tup ds => (frzSs φ ds).map .tup
  | .lst ds => (frzSs φ ds).map .lst
  | .dic t ks vs => (frzSs φ vs).map (.dic t ks)
  | .ref n => φ n
  | d => some d
def frzSs (φ : Nat → Option D) : List D → Option (List D)
  | [] => some []
  | d :: ds => (frzS φ d).bind fun e => (frzSs φ ds).map (e :: ·)
end
def frz : Nat → Sto → D → Option D
  | 0, _, d => frzS (fun _ => none) d
  | k + 1, S, d => frzS (fun n => (S[n]?).bind fun c => match c with
      | .lst ds => (ds.mapM (frz k S)).map .lst
      | .dic t ks vs => (vs.mapM (frz k S)).map (.dic t ks)
      | .ins _ _ _ => none) d
def fz (S : Sto) (d : D) : Option D := if nr d then some d else frz 3 S d
def fzs (S : Sto) : List D → Option (List D)
  | [] => some []
  | d :: ds => (fz S d).bind fun e => (fzs S ds).map (e :: ·)

section
variable {K : PySem.W.Frag} {av av' : Addr → Prop} {μ μ' : List Addr} {H : Hp}
mutual
theorem RV.nr : ∀ (d : D) (v : V), DL.nr d = true → RV K av μ H d v → RV K av μ' H d v
  | .non, _, _, h => by unfold RV at h ⊢; exact h
  | .bl _, _, _, h => by unfold RV at h ⊢; exact h
  | .int _, _, _, h => by unfold RV at h ⊢; exact h
  | .str _, _, _, h => by unfold RV at h ⊢; exact h
  | .ty _, _, _, h => by unfold RV at h ⊢; exact h
  | .scr _, _, _, h => by unfold RV at h ⊢; exact h
  | .ref _, _, o, _ => by simp [DL.nr] at o
  | .tup ds, v, o, h => by
    simp only [DL.nr] at o
    unfold RV at h ⊢
    obtain ⟨a, xs, e, hs, hr⟩ := h
    exact ⟨a, xs, e, hs, RVL.nr ds xs o hr⟩
  | .lst ds, v, o, h => by
    simp only [DL.nr] at o
    unfold RV at h ⊢
    obtain ⟨a, xs, e, hs, hn, hr⟩ := h
    exact ⟨a, xs, e, hs, hn, RVL.nr ds xs o hr⟩
  | .dic t ks vs, v, o, h => by
    simp only [DL.nr] at o
    unfold RV at h ⊢
    obtain ⟨a, e, hn, h⟩ := h
    rcases h with ⟨ht, kvs, hs, hk, hr⟩ | ⟨ht, kvs, hs, hk, hr⟩
    · exact ⟨a, e, hn, .inl ⟨ht, kvs, hs, hk, RVL.nr vs _ o hr⟩⟩
    · exact ⟨a, e, hn, .inr ⟨ht, kvs, hs, hk, RVL.nr vs _ o hr⟩⟩
theorem RVL.nr : ∀ (ds : List D) (vs : List V), DL.nrs ds = true → RVL K av μ H ds vs → RVL K av μ' H ds vs
  | [], _, _, h => by unfold RVL at h ⊢; exact h
  | d :: ds, _, o, h => by
    simp only [DL.nrs, Bool.and_eq_true] at o
    unfold RVL at h ⊢
    obtain ⟨y, ys, e, h1, h2⟩ := h
    exact ⟨y, ys, e, RV.nr d y o.1 h1, RVL.nr ds ys o.2 h2⟩
end
mutual
theorem RV.imm : ∀ (d : D) (v : V), DL.imm d = true → RV K av μ H d v → RV K av' μ' H d v
  | .non, _, _, h => by unfold RV at h ⊢; exact h
  | .bl _, _, _, h => by unfold RV at h ⊢; exact h
  | .int _, _, _, h => by unfold RV at h ⊢; exact h
  | .str _, _, _, h => by unfold RV at h ⊢; exact h
  | .ty _, _, _, h => by unfold RV at h ⊢; exact h
  | .scr _, _, _, h => by unfold RV at h ⊢; exact h
  | .ref _, _, o, _ => by simp [DL.imm] at o
  | .tup ds, v, o, h => by
    simp only [DL.imm] at o
    unfold RV at h ⊢
    obtain ⟨a, xs, e, hs, hr⟩ := h
    exact ⟨a, xs, e, hs, RVL.imm ds xs o hr⟩
  | .lst ds, v, o, h => by simp [DL.imm] at o
  | .dic t ks vs, v, o, h => by simp [DL.imm] at o
theorem RVL.imm : ∀ (ds : List D) (vs : List V), DL.imms ds = true → RVL K av μ H ds vs → RVL K av' μ' H ds vs
  | [], _, _, h => by unfold RVL at h ⊢; exact h
  | d :: ds, _, o, h => by
    simp only [DL.imms, Bool.and_eq_true] at o
    unfold RVL at h ⊢
    obtain ⟨y, ys, e, h1, h2⟩ := h
    exact ⟨y, ys, e, RV.imm d y o.1 h1, RVL.imm ds ys o.2 h2⟩
end
mutual
theorem RV.frzS {φ : Nat → Option D} (hav : ∀ a, av' a → av a) (hφ : ∀ n d', φ n = some d' → ∀ a, μ[n]? = some a → RV K av' [] H d' (.ref a)) :
    ∀ (d : D) (v : V) (d' : D), DL.frzS φ d = some d' → RV K av μ H d v → RV K av' [] H d' v
  | .non, _, _, e, h => by simp only [DL.frzS, Option.some.injEq] at e; subst e; unfold RV at h ⊢; exact h
  | .bl _, _, _, e, h => by simp only [DL.frzS, Option.some.injEq] at e; subst e; unfold RV at h ⊢; exact h
  | .int _, _, _, e, h => by simp only [DL.frzS, Option.some.injEq] at e; subst e; unfold RV at h ⊢; exact h
  | .str _, _, _, e, h => by simp only [DL.frzS, Option.some.injEq] at e; subst e; unfold RV at h ⊢; exact h
  | .ty _, _, _, e, h => by simp only [DL.frzS, Option.some.injEq] at e; subst e; unfold RV at h ⊢; exact h
  | .scr _, _, _, e, h => by simp only [DL.frzS, Option.some.injEq] at e; subst e; unfold RV at h ⊢; exact h
  | .ref n, v, d', e, h => by
    simp only [DL.frzS] at e
    unfold RV at h
    obtain ⟨a, rfl, hn⟩ := h
    exact hφ n d' e a hn
  | .tup ds, v, d', e, h => by
    simp only [DL.frzS, Option.map_eq_some_iff] at e
    obtain ⟨es, e, rfl⟩ := e
    unfold RV at h ⊢
    obtain ⟨a, xs, e1, hs, hr⟩ := h
    exact ⟨a, xs, e1, hs, RVL.frzS hav hφ ds xs es e hr⟩
  | .lst ds, v, d', e, h => by
    simp only [DL.frzS, Option.map_eq_some_iff] at e
    obtain ⟨es, e, rfl⟩ := e
    unfold RV at h ⊢
    obtain ⟨a, xs, e1, hs, hn, hr⟩ := h
    exact ⟨a, xs, e1, hs, fun z => hn (hav a z), RVL.frzS hav hφ ds xs es e hr⟩
  | .dic t ks vs, v, d', e, h => by
    simp only [DL.frzS, Option.map_eq_some_iff] at e
    obtain ⟨es, e, rfl⟩ := e
    unfold RV at h ⊢
    obtain ⟨a, e1, hn, h⟩ := h
    rcases h with ⟨ht, kvs, hs, hk, hr⟩ | ⟨ht, kvs, hs, hk, hr⟩
    · exact ⟨a, e1, fun z => hn (hav a z), .inl ⟨ht, kvs, hs, hk, RVL.frzS hav hφ vs _ es e hr⟩⟩
    · exact ⟨a, e1, fun z => hn (hav a z), .inr ⟨ht, kvs, hs, hk, RVL.frzS hav hφ vs _ es e hr⟩⟩
theorem RVL.frzS {φ : Nat → Option D} (hav : ∀ a, av' a → av a) (hφ : ∀ n d', φ n = some d' → ∀ a, μ[n]? = some a → RV K av' [] H d' (.ref a)) :
    ∀ (ds : List D) (vs : List V) (es : List D), DL.frzSs φ ds = some es → RVL K av μ H ds vs → RVL K av' [] H es vs
  | [], vs, es, e, h => by simp only [DL.frzSs, Option.some.injEq] at e; subst e; unfold RVL at h ⊢; exact h
  | d :: ds, vs, es, e, h => by
    simp only [DL.frzSs, Option.bind_eq_some_iff, Option.map_eq_some_iff] at e
    obtain ⟨d', e1, es', e2, rfl⟩ := e
    unfold RVL at h ⊢
    obtain ⟨y, ys, e3, h1, h2⟩ := h
    exact ⟨y, ys, e3, RV.frzS hav hφ d y d' e1 h1, RVL.frzS hav hφ ds ys es' e2 h2⟩
end
theorem RVL.mapM {g : D → Option D} (h : ∀ d v d', g d = some d' → RV K av μ H d v → RV K av' μ' H d' v) : ∀ {ds es : List D} {vs : List V}, ds.mapM g = some es → RVL K av μ H ds vs → RVL K av' μ' H es vs
  | [], es, vs, e, r => by
    simp at e; subst e
    unfold RVL at r ⊢; exact r
  | d :: ds, es, vs, e, r => by
    rw [List.mapM_cons] at e
    simp only [Option.bind_eq_bind, Option.bind_eq_some_iff, Option.pure_def, Option.some.injEq] at e
    obtain ⟨d', e1, es', e2, rfl⟩ := e
    unfold RVL at r ⊢
    obtain ⟨y, ys, e3, h1, h2⟩ := r
    exact ⟨y, ys, e3, h d y d' e1 h1, RVL.mapM h e2 h2⟩
end
section
variable {K : PySem.W.Frag} {Z : Fr} {μ : List Addr} {H : Hp} {S : Sto}
theorem RV.frz (W : Wd K Z μ H S) : ∀ (k : Nat) (d : D) (v : V) (d' : D), DL.frz k S d = some d' → RVz K Z μ H d v → RV K Z.A [] H d' v
  | 0, d, v, d', e, h => by
    unfold DL.frz at e
    exact RV.frzS (fun a z => .inl z) (fun n d' q => by cases q) d v d' e h
  | k + 1, d, v, d', e, h => by
    unfold DL.frz at e
    refine RV.frzS (fun a z => .inl z) (fun n d2 q a ha => ?_) d v d' e h
    rw [Option.bind_eq_some_iff] at q
    obtain ⟨c, hc, q⟩ := q
    have r := W.cell n c a hc ha
    have nA : ¬ Z.A a := W.disA a (List.mem_of_getElem? ha)
    cases c with
    | lst ds =>
      obtain ⟨xs, hx, r⟩ := r
      simp only [Option.map_eq_some_iff] at q
      obtain ⟨es, q, rfl⟩ := q
      unfold RV
      exact ⟨a, xs, rfl, hx, nA, RVL.mapM (fun d v d' e h => RV.frz W k d v d' e h) q r⟩
    | dic t ks vs =>
      simp only [Option.map_eq_some_iff] at q
      obtain ⟨es, q, rfl⟩ := q
      unfold RV
      rcases r with ⟨ht, kvs, hs, hk, hr⟩ | ⟨ht, kvs, hs, hk, hr⟩
      · exact ⟨a, rfl, nA, .inl ⟨ht, kvs, hs, hk, RVL.mapM (fun d v d' e h => RV.frz W k d v d' e h) q hr⟩⟩
      · exact ⟨a, rfl, nA, .inr ⟨ht, kvs, hs, hk, RVL.mapM (fun d v d' e h => RV.frz W k d v d' e h) q hr⟩⟩
    | ins c fs vs => simp at q
theorem RV.lessA {d : D} {v : V} (h : RVz K Z μ H d v) : RV K Z.A μ H d v := RV.tr (fun a o e hn => ⟨e, fun m z => hn m (.inl z)⟩) (fun _ _ e => e) d v h
theorem RV.fz (W : Wd K Z μ H S) {d : D} {v : V} {d' : D} (e : DL.fz S d = some d') (h : RVz K Z μ H d v) : RV K Z.A [] H d' v := by
  unfold DL.fz at e
  split at e
  · rename_i o
    cases e
    exact RV.nr d v o (RV.lessA h)
  · exact RV.frz W _ _ _ _ e h
theorem RVL.fzs (W : Wd K Z μ H S) : ∀ {ds : List D} {vs : List V} {es : List D}, DL.fzs S ds = some es → RVLz K Z μ H ds vs → RVL K Z.A [] H es vs
  | [], vs, es, e, h => by simp only [DL.fzs, Option.some.injEq] at e; subst e; unfold RVLz RVL at h; unfold RVL; exact h
  | d :: ds, vs, es, e, h => by
    simp only [DL.fzs, Option.bind_eq_some_iff, Option.map_eq_some_iff] at e
    obtain ⟨d', e1, es', e2, rfl⟩ := e
    unfold RVLz RVL at h
    unfold RVL
    obtain ⟨y, ys, e3, h1, h2⟩ := h
    exact ⟨y, ys, e3, RV.fz W e1 h1, RVL.fzs W e2 h2⟩
theorem fzs_nrs : ∀ {ds : List D}, nrs ds = true → fzs S ds = some ds
  | [], _ => rfl
  | d :: ds, h => by
    simp only [nrs, Bool.and_eq_true] at h
    simp [fzs, fz, h.1, fzs_nrs h.2]
end
end DL

set_option maxHeartbeats 4000000
namespace DL
open PySem PySem.Spec L2

/-! ### names, constants -/
def eV (i : Nat) : E := fun ρ _ => (ρ[i]?).bind id
def eC (d : D) : E := fun _ _ => some d
def e1 (g : Sto → D → Option D) (a : E) : E := fun ρ S => (a ρ S).bind fun x => g S x
def e2 (g : Sto → D → D → Option D) (a b : E) : E := fun ρ S => (a ρ S).bind fun x => (b ρ S).bind fun y => g S x y
def isC : D → Bool
  | .non => true | .bl _ => true | .int _ => true | .str _ => true | .ty _ => true
  | _ => false
def cV : D → V
  | .bl b => .bl b | .int i => .int i | .str s => .str s | .ty t => .ty t
  | _ => .non
theorem isC_rv {K : PySem.W.Frag} {av : Addr → Prop} {μ : List Addr} {H : Hp} {d : D} (h : isC d = true) : RV K av μ H d (cV d) := by
  cases d <;> first | (unfold RV; rfl) | (simp [isC] at h)

section
variable {X : Cx} {a b c e : Expr} {pos : Pos}
theorem d_var {i : Nat} {x : Str} (hN : X.N[i]? = some x := by rfl) (hv : Vis X.env.scope x := by first | exact Or.inl rfl | exact Or.inr (Or.inl rfl) | exact Or.inr (Or.inr rfl)) (hd : (x == ("__debug__" : Str)) = false := by decide)
    (hcd : (x == ("__classdict__" : Str)) = false := by decide) : PE X (.Name x pos) (tD X.K (eV i)) :=
  pe_imp (pe_var (i := i) hN hv hd hcd) fun σ H Q ⟨Z, μ, ρ, S, R, d, e, q⟩ => by
    unfold eV at e
    rw [Option.bind_eq_some_iff] at e
    obtain ⟨o, e1, e2⟩ := e
    have e2' : o = some d := e2
    subst e2'
    obtain ⟨v, h1, h2⟩ := R.env i d e1
    exact ⟨v, h1, q v H (Same.refl H) h2⟩
theorem d_const {d : D} (h : PE X e (tC (cV d))) (hd : isC d = true := by rfl) : PE X e (tD X.K (eC d)) :=
  pe_imp h fun σ H Q ⟨Z, μ, ρ, S, R, d', e, q⟩ => by
    have e' : d = d' := by simpa [eC] using e
    subst e'
    exact q _ H (Same.refl H) (isC_rv hd)
theorem d_int {i : Int} {j pos} : PE X (.Constant (.int i) j pos) (tD X.K (eC (.int i))) := d_const (d := .int i) pe_int
theorem d_bl {b : Bool} {j pos} : PE X (.Constant (.bool b) j pos) (tD X.K (eC (.bl b))) := d_const (d := .bl b) pe_bl
theorem d_non {j pos} : PE X (.Constant .none j pos) (tD X.K (eC .non)) := d_const (d := .non) pe_non
theorem d_str {x : Str} {j pos} : PE X (.Constant (.str x) j pos) (tD X.K (eC (.str x))) := d_const (d := .str x) pe_str
/-- a constant of the module -/
theorem d_glob {x : Str} {d : D} {u : Value} (hg : Gl X x) (hm : X.mg x = some u) (r : RelV (cV d) u) (hd : isC d = true := by rfl) (hdb : (x == ("__debug__" : Str)) = false := by decide) : PE X (.Name x pos) (tD X.K (eC d)) :=
  d_const (d := d) (pe_glob hg hm r hdb) hd
/-- a built-in class as a value -/
theorem d_ty {x : Str} {t : String} (hg : Gl X x) (hm : X.mg x = none) (hv : bootBuiltins x = some (.type t)) (hn : x ≠ "__name__" := by decide) (hdb : (x == ("__debug__" : Str)) = false := by decide) : PE X (.Name x pos) (tD X.K (eC (.ty t))) :=
  d_const (d := .ty t) (pe_bltn hg hm hv rfl hn hdb)

/-! ### operators -/
def OpD (K : PySem.W.Frag) (r : R2) (g : Sto → D → D → Option D) : Prop :=
  ∀ (Z : Fr) (μ : List Addr) (H : Hp) (S : Sto) (x y d : D) (v u : V) (Q : VK), Wd K Z μ H S → RVz K Z μ H x v → RVz K Z μ H y u → g S x y = some d →
    (∀ w H', Same H H' → RVz K Z μ H' d w → Q w H') → r v u H Q
def OpF (K : PySem.W.Frag) (r : R2) (g : Sto → D → D → Option (List D)) : Prop :=
  ∀ (Z : Fr) (μ : List Addr) (H : Hp) (S : Sto) (x y : D) (ds : List D) (v u : V) (Q : VK), Wd K Z μ H S → RVz K Z μ H x v → RVz K Z μ H y u → g S x y = some ds →
    (∀ a xs H', H a = none → Same H H' → H' a = some (.lst xs) → RVL K (avO Z μ a) μ H' ds xs → Q (.ref a) H') → r v u H Q
def UnD (K : PySem.W.Frag) (r : V → Hp → VK → Prop) (g : Sto → D → Option D) : Prop :=
  ∀ (Z : Fr) (μ : List Addr) (H : Hp) (S : Sto) (x d : D) (v : V) (Q : VK), Wd K Z μ H S → RVz K Z μ H x v → g S x = some d →
    (∀ w H', Same H H' → RVz K Z μ H' d w → Q w H') → r v H Q
theorem tOp_of {K : PySem.W.Frag} {r : R2} {g : Sto → D → D → Option D} {fa fb : E} (hd : OpD K r g) {σ : L2.St} {H : Hp} {Q : VK} (h : tD K (e2 g fa fb) σ H Q) : tOp r (tD K fa) (tD K fb) σ H Q := by
  obtain ⟨Z, μ, ρ, S, R, d, e, q⟩ := h
  simp only [e2, Option.bind_eq_some_iff] at e
  obtain ⟨x, ex, y, ey, eg⟩ := e
  refine ⟨Z, μ, ρ, S, R, x, ex, fun v H1 s1 r1 => ⟨Z, μ, ρ, S, R.mono s1, y, ey, fun u H2 s2 r2 => ?_⟩⟩
  exact hd Z μ H2 S x y d v u Q ((R.wd.mono s1).mono s2) (RV.mono s2 r1) r2 eg fun w H' s3 r3 => q w H' (s1.trans (s2.trans s3)) r3
theorem d_op {op : Operator} {r : R2} {g : Sto → D → D → Option D} {fa fb : E} (ho : OpR X (binaryOp op) r) (hd : OpD X.K r g) (ha : PE X a (tD X.K fa)) (hb : PE X b (tD X.K fb)) : PE X (.BinOp a op b pos) (tD X.K (e2 g fa fb)) :=
  pe_imp (pe_op ho ha hb) fun _ _ _ h => tOp_of hd h
def f2 (g : Sto → D → D → Option (List D)) (a b : E) : EL := fun ρ S => (a ρ S).bind fun x => (b ρ S).bind fun y => g S x y
theorem d_opF {op : Operator} {r : R2} {g : Sto → D → D → Option (List D)} {fa fb : E} (ho : OpR X (binaryOp op) r) (hd : OpF X.K r g) (ha : PE X a (tD X.K fa)) (hb : PE X b (tD X.K fb)) : PE X (.BinOp a op b pos) (tF X.K (f2 g fa fb)) :=
  pe_imp (pe_op ho ha hb) fun σ H Q h => by
    obtain ⟨Z, μ, ρ, S, R, ds, e, q⟩ := h
    simp only [f2, Option.bind_eq_some_iff] at e
    obtain ⟨x, ex, y, ey, eg⟩ := e
    refine ⟨Z, μ, ρ, S, R, x, ex, fun v H1 s1 r1 => ⟨Z, μ, ρ, S, R.mono s1, y, ey, fun u H2 s2 r2 => ?_⟩⟩
    exact hd Z μ H2 S x y ds v u Q ((R.wd.mono s1).mono s2) (RV.mono s2 r1) r2 eg fun p xs H' n s3 h1 h2 => q p xs H' ((s1.trans s2).free n) (s1.trans (s2.trans s3)) h1 h2
theorem d_cmp {op : CmpOp} {r : R2} {g : Sto → D → D → Option D} {fa fb : E} (ho : OpR X (compareOp op) r) (hd : OpD X.K r g) (ha : PE X a (tD X.K fa)) (hb : PE X b (tD X.K fb)) (hm : behindInMarks op b = false) : PE X (.Compare a [op] [b] pos) (tD X.K (e2 g fa fb)) :=
  pe_imp (pe_cmpR ho ha hb hm) fun _ _ _ h => tOp_of hd h
/-- a value that has to be a flag -/
def eB (f : E) : EB := fun ρ S => (f ρ S).bind fun d => match d with | .bl b => some b | _ => none
theorem dt_cmp {op : CmpOp} {r : R2} {g : Sto → D → D → Option D} {fa fb : E} (ho : OpR X (compareOp op) r) (hd : OpD X.K r g) (ha : PE X a (tD X.K fa)) (hb : PE X b (tD X.K fb)) (hm : behindInMarks op b = false) : PT X (.Compare a [op] [b] pos) (tT X.K (eB (e2 g fa fb))) :=
  pt_imp (pt_cmpR ho ha hb hm) fun σ H Q h => by
    obtain ⟨Z, μ, ρ, S, R, k, e, q⟩ := h
    simp only [eB, Option.bind_eq_some_iff] at e
    obtain ⟨d, e1, e2⟩ := e
    refine tOp_of hd ⟨Z, μ, ρ, S, R, d, e1, fun v H' s r => ?_⟩
    cases d <;> simp at e2
    subst e2
    unfold RVz RV at r
    exact ⟨_, r, q H' s⟩
theorem d_un {op : UnaryOp} {r : V → Hp → VK → Prop} {g : Sto → D → Option D} {fa : E} (ho : UnR X (unaryOp op) r) (hd : UnD X.K r g) (ha : PE X a (tD X.K fa)) : PE X (.UnaryOp op a pos) (tD X.K (e1 g fa)) :=
  pe_imp (pe_un ho ha) fun σ H Q h => by
    obtain ⟨Z, μ, ρ, S, R, d, e, q⟩ := h
    simp only [e1, Option.bind_eq_some_iff] at e
    obtain ⟨x, ex, eg⟩ := e
    exact ⟨Z, μ, ρ, S, R, x, ex, fun v H1 s1 r1 => hd Z μ H1 S x d v Q (R.wd.mono s1) r1 eg fun w H' s2 r2 => q w H' (s1.trans s2) r2⟩

theorem rv_int {K : PySem.W.Frag} {av : Addr → Prop} {μ : List Addr} {H : Hp} {i : Int} {v : V} : RV K av μ H (.int i) v ↔ v = .int i := by unfold RV; exact Iff.rfl
theorem rv_bl {K : PySem.W.Frag} {av : Addr → Prop} {μ : List Addr} {H : Hp} {i : Bool} {v : V} : RV K av μ H (.bl i) v ↔ v = .bl i := by unfold RV; exact Iff.rfl
theorem rv_non {K : PySem.W.Frag} {av : Addr → Prop} {μ : List Addr} {H : Hp} {v : V} : RV K av μ H .non v ↔ v = .non := by unfold RV; exact Iff.rfl
theorem rv_str {K : PySem.W.Frag} {av : Addr → Prop} {μ : List Addr} {H : Hp} {s : Str} {v : V} : RV K av μ H (.str s) v ↔ v = .str s := by unfold RV; exact Iff.rfl
theorem rv_ty {K : PySem.W.Frag} {av : Addr → Prop} {μ : List Addr} {H : Hp} {s : String} {v : V} : RV K av μ H (.ty s) v ↔ v = .ty s := by unfold RV; exact Iff.rfl
theorem rv_tup {K : PySem.W.Frag} {av : Addr → Prop} {μ : List Addr} {H : Hp} {ds : List D} {v : V} : RV K av μ H (.tup ds) v ↔ ∃ a xs, v = .ref a ∧ H a = some (.tup xs) ∧ RVL K av μ H ds xs := by
  constructor <;> intro h
  · unfold RV at h; exact h
  · unfold RV; exact h
theorem rv_lst {K : PySem.W.Frag} {av : Addr → Prop} {μ : List Addr} {H : Hp} {ds : List D} {v : V} : RV K av μ H (.lst ds) v ↔ ∃ a xs, v = .ref a ∧ H a = some (.lst xs) ∧ ¬ av a ∧ RVL K av μ H ds xs := by
  constructor <;> intro h
  · unfold RV at h; exact h
  · unfold RV; exact h
theorem rv_scr {K : PySem.W.Frag} {av : Addr → Prop} {μ : List Addr} {H : Hp} {ns : List Int} {v : V} : RV K av μ H (.scr ns) v ↔ ∃ a, v = .ref a ∧ ((∃ o, H a = some (.frz o (.lst (ns.map V.int)))) ∨ ∀ H' : Hp, SqL K H' a (ns.map V.int)) := by
  constructor <;> intro h
  · unfold RV at h; exact h
  · unfold RV; exact h
theorem rv_ref {K : PySem.W.Frag} {av : Addr → Prop} {μ : List Addr} {H : Hp} {n : Nat} {v : V} : RV K av μ H (.ref n) v ↔ ∃ a, v = .ref a ∧ μ[n]? = some a := by
  constructor <;> intro h
  · unfold RV at h; exact h
  · unfold RV; exact h
theorem rv_dic {K : PySem.W.Frag} {av : Addr → Prop} {μ : List Addr} {H : Hp} {t : Bool} {ks vs : List D} {v : V} : RV K av μ H (.dic t ks vs) v ↔ ∃ a, v = .ref a ∧ ¬ av a ∧ (
      (t = false ∧ ∃ kvs, H a = some (.dK kvs) ∧ ks = dicKs kvs ∧ RVL K av μ H vs (kvs.map (·.2))) ∨
      (t = true ∧ ∃ kvs, H a = some (.dT kvs) ∧ ks = dicKsT kvs ∧ RVL K av μ H vs (kvs.map (·.2)))) := by
  constructor <;> intro h
  · unfold RV at h; exact h
  · unfold RV; exact h
theorem rvl_nil {K : PySem.W.Frag} {av : Addr → Prop} {μ : List Addr} {H : Hp} {vs : List V} : RVL K av μ H [] vs ↔ vs = [] := by
  unfold RVL; exact Iff.rfl
theorem rvl_cons {K : PySem.W.Frag} {av : Addr → Prop} {μ : List Addr} {H : Hp} {d : D} {ds : List D} {vs : List V} : RVL K av μ H (d :: ds) vs ↔ ∃ y ys, vs = y :: ys ∧ RV K av μ H d y ∧ RVL K av μ H ds ys := by
  constructor <;> intro h
  · unfold RVL at h; exact h
  · unfold RVL; exact h

/-- a sequence that is read -/
def seqD (S : Sto) : D → Option (List D)
  | .tup ds => some ds
  | .lst ds => some ds
  | .scr ns => some (ns.map .int)
  | .ref n => match S[n]? with
    | some (.lst ds) => some ds
    | _ => none
  | _ => none
theorem rvl_ints {K : PySem.W.Frag} {av : Addr → Prop} {μ : List Addr} {H : Hp} : ∀ (ns : List Int), RVL K av μ H (ns.map .int) (ns.map V.int)
  | [] => RVL.nil'
  | n :: ns => RVL.cons' (rv_int.mpr rfl) (rvl_ints ns)
theorem rvl_ints' {K : PySem.W.Frag} {av : Addr → Prop} {μ : List Addr} {H : Hp} : ∀ {ns : List Int} {xs : List V}, RVL K av μ H (ns.map .int) xs → xs = ns.map V.int
  | [], xs, h => by simpa [rvl_nil] using h
  | n :: ns, xs, h => by
    simp only [List.map_cons, rvl_cons] at h
    obtain ⟨y, ys, rfl, h1, h2⟩ := h
    rw [rv_int] at h1
    subst h1
    rw [rvl_ints' h2]; rfl
theorem seq_of {K : PySem.W.Frag} {Z : Fr} {μ : List Addr} {H : Hp} {S : Sto} {d : D} {ds : List D} {v : V} (W : Wd K Z μ H S) (r : RVz K Z μ H d v) (h : seqD S d = some ds) :
    ∃ a xs, v = .ref a ∧ (SqL K H a xs ∨ SqT K H a xs) ∧ RVLz K Z μ H ds xs := by
  cases d with
  | tup es =>
    simp only [seqD, Option.some.injEq] at h; subst h
    obtain ⟨a, xs, e, h1, h2⟩ := rv_tup.mp r
    exact ⟨a, xs, e, .inr (SqT.of h1), h2⟩
  | lst es =>
    simp only [seqD, Option.some.injEq] at h; subst h
    obtain ⟨a, xs, e, h1, _, h2⟩ := rv_lst.mp r
    exact ⟨a, xs, e, .inl (SqL.of h1), h2⟩
  | scr ns =>
    simp only [seqD, Option.some.injEq] at h; subst h
    obtain ⟨a, e, h1⟩ := rv_scr.mp r
    refine ⟨a, _, e, .inl ?_, rvl_ints ns⟩
    rcases h1 with ⟨o, h1⟩ | h1
    · exact .inl (.inr ⟨o, h1⟩)
    · exact h1 H
  | ref n =>
    simp only [seqD] at h
    split at h
    · rename_i es hc
      cases h
      obtain ⟨a, e, hn⟩ := rv_ref.mp r
      obtain ⟨xs, h1, h2⟩ := W.cell n _ a hc hn
      exact ⟨a, xs, e, .inl (SqL.of h1), h2⟩
    · cases h
  | _ => simp [seqD] at h
theorem seq_ofH {K : PySem.W.Frag} {Z : Fr} {μ : List Addr} {H : Hp} {S : Sto} {d : D} {ds : List D} {v : V} (W : Wd K Z μ H S) (r : RVz K Z μ H d v) (h : seqD S d = some ds) :
    ∃ a xs, v = .ref a ∧ (SqL K H a xs ∨ H a = some (.tup xs)) ∧ RVLz K Z μ H ds xs := by
  cases d with
  | tup es =>
    simp only [seqD, Option.some.injEq] at h; subst h
    obtain ⟨a, xs, e, h1, h2⟩ := rv_tup.mp r
    exact ⟨a, xs, e, .inr h1, h2⟩
  | lst es =>
    simp only [seqD, Option.some.injEq] at h; subst h
    obtain ⟨a, xs, e, h1, _, h2⟩ := rv_lst.mp r
    exact ⟨a, xs, e, .inl (SqL.of h1), h2⟩
  | scr ns =>
    simp only [seqD, Option.some.injEq] at h; subst h
    obtain ⟨a, e, h1⟩ := rv_scr.mp r
    refine ⟨a, _, e, .inl ?_, rvl_ints ns⟩
    rcases h1 with ⟨o, h1⟩ | h1
    · exact .inl (.inr ⟨o, h1⟩)
    · exact h1 H
  | ref n =>
    simp only [seqD] at h
    split at h
    · rename_i es hc
      cases h
      obtain ⟨a, e, hn⟩ := rv_ref.mp r
      obtain ⟨xs, h1, h2⟩ := W.cell n _ a hc hn
      exact ⟨a, xs, e, .inl (SqL.of h1), h2⟩
    · cases h
  | _ => simp [seqD] at h
/-- a list that is read -/
def lstD (S : Sto) : D → Option (List D)
  | .lst ds => some ds
  | .ref n => match S[n]? with
    | some (.lst ds) => some ds
    | _ => none
  | _ => none
theorem lst_of {K : PySem.W.Frag} {Z : Fr} {μ : List Addr} {H : Hp} {S : Sto} {d : D} {ds : List D} {v : V} (W : Wd K Z μ H S) (r : RVz K Z μ H d v) (h : lstD S d = some ds) :
    ∃ a xs, v = .ref a ∧ H a = some (.lst xs) ∧ RVLz K Z μ H ds xs := by
  cases d with
  | lst es =>
    simp only [lstD, Option.some.injEq] at h; subst h
    obtain ⟨a, xs, e, h1, _, h2⟩ := rv_lst.mp r
    exact ⟨a, xs, e, h1, h2⟩
  | ref n =>
    simp only [lstD] at h
    split at h
    · rename_i es hc
      cases h
      obtain ⟨a, e, hn⟩ := rv_ref.mp r
      obtain ⟨xs, h1, h2⟩ := W.cell n _ a hc hn
      exact ⟨a, xs, e, h1, h2⟩
    · cases h
  | _ => simp [lstD] at h

/-! ### the operators' tables -/
def small (n : Nat) : Bool := decide (n ≤ 1000000)
theorem small_le {n : Nat} (h : small n = true) : n ≤ sizeLine := Nat.le_trans (of_decide_eq_true h) (by decide)
def gAdd : Sto → D → D → Option D := fun _ x y => match x, y with
  | .int i, .int j => some (.int (i + j))
  | .tup a, .tup b => if small (a.length + b.length) then some (.tup (a ++ b)) else none
  | _, _ => none
theorem op_addD : OpR X (binaryOp .Add) (fun x y H Q => (rI0 fun i j => .int (i + j)) x y H Q ∨ rCatA X.K x y H Q) := op_add.or op_catA
theorem od_add {K : PySem.W.Frag} : OpD K (fun x y H Q => (rI0 fun i j => .int (i + j)) x y H Q ∨ rCatA K x y H Q) gAdd := by
  intro Z μ H S x y d v u Q W rx ry e q
  unfold gAdd at e
  split at e
  · rename_i i j
    cases e
    exact .inl ⟨i, j, rv_int.mp rx, rv_int.mp ry, q _ H (Same.refl H) (rv_int.mpr rfl)⟩
  · rename_i as bs
    split at e
    · rename_i hs
      cases e
      obtain ⟨a, xs, rfl, h1, h2⟩ := rv_tup.mp rx
      obtain ⟨b, ys, rfl, h3, h4⟩ := rv_tup.mp ry
      refine .inr ⟨a, b, xs, ys, rfl, rfl, SqT.of h1, SqT.of h3, ?_, ?_, ?_, ?_⟩
      · rw [RVL.length h2, RVL.length h4]; exact small_le hs
      · intro z; subst z
        have : as = [] := by
          have := RVL.length h2
          exact List.eq_nil_of_length_eq_zero this.symm
        subst this
        exact q _ H (Same.refl H) (rv_tup.mpr ⟨b, ys, rfl, h3, h4⟩)
      · intro _ z; subst z
        have : bs = [] := List.eq_nil_of_length_eq_zero (RVL.length h4).symm
        subst this
        exact q _ H (Same.refl H) (rv_tup.mpr ⟨a, xs, rfl, h1, by simpa using h2⟩)
      · intro _ _ p hp
        have s : Same H (upd H p (.tup (xs ++ ys))) := fun c o z => by rw [upd_ne (ne_of_none z hp)]; exact z
        exact q _ _ s (rv_tup.mpr ⟨p, _, rfl, upd_same, RVL.mono s (RVL.app h2 h4)⟩)
    · cases e
  · cases e
/-- list + list: a new one -/
def gCatF : Sto → D → D → Option (List D) := fun S x y => (lstD S x).bind fun a => (lstD S y).bind fun b => if small (a.length + b.length) then some (a ++ b) else none
theorem od_catF {K : PySem.W.Frag} : OpF K rCat gCatF := by
  intro Z μ H S x y ds v u Q W rx ry e q
  simp only [gCatF, Option.bind_eq_some_iff] at e
  obtain ⟨as, e1, bs, e2, e⟩ := e
  split at e
  · rename_i hs
    cases e
    obtain ⟨a, xs, rfl, h1, h2⟩ := lst_of W rx e1
    obtain ⟨b, ys, rfl, h3, h4⟩ := lst_of W ry e2
    refine ⟨a, b, xs, ys, rfl, rfl, h1, h3, ?_, fun p hp => ?_⟩
    · rw [RVL.length h2, RVL.length h4]; exact small_le hs
    · have s : Same H (upd H p (.lst (xs ++ ys))) := fun c o z => by rw [upd_ne (ne_of_none z hp)]; exact z
      exact q p _ _ hp s upd_same (RVL.newO s hp (RVL.app h2 h4))
  · cases e
def gI (C : Int → Int → Bool) (f : Int → Int → Int) : Sto → D → D → Option D := fun _ x y => match x, y with
  | .int i, .int j => if C i j then some (.int (f i j)) else none
  | _, _ => none
theorem od_I {K : PySem.W.Frag} {C : Int → Int → Prop} {c : Int → Int → Bool} {f : Int → Int → Int} (h : ∀ i j, c i j = true → C i j) : OpD K (rI C fun i j => .int (f i j)) (gI c f) := by
  intro Z μ H S x y d v u Q W rx ry e q
  unfold gI at e
  split at e
  · rename_i i j
    split at e
    · rename_i hc
      cases e
      exact ⟨i, j, rv_int.mp rx, rv_int.mp ry, h i j hc, q _ H (Same.refl H) (rv_int.mpr rfl)⟩
    · cases e
  · cases e
def gSub : Sto → D → D → Option D := fun _ x y => match x, y with
  | .int i, .int j => some (.int (i - j))
  | _, _ => none
theorem od_sub {K : PySem.W.Frag} : OpD K (rI0 fun i j => .int (i - j)) gSub := by
  intro Z μ H S x y d v u Q W rx ry e q
  unfold gSub at e
  split at e
  · rename_i i j
    cases e
    exact ⟨i, j, rv_int.mp rx, rv_int.mp ry, q _ H (Same.refl H) (rv_int.mpr rfl)⟩
  · cases e
def cMul (i j : Int) : Bool := Nat.blt i.natAbs 18446744073709551616 || Nat.blt j.natAbs 18446744073709551616
theorem cMul_ok {i j : Int} (h : cMul i j = true) : CMul i j := by
  unfold cMul at h
  rw [Bool.or_eq_true] at h
  rcases h with h | h
  · have h' : i.natAbs < 18446744073709551616 := Nat.le_of_ble_eq_true h
    exact .inl (by omega)
  · have h' : j.natAbs < 18446744073709551616 := Nat.le_of_ble_eq_true h
    exact .inr (by omega)
abbrev gMul := gI cMul fun i j => i * j
theorem od_mul {K : PySem.W.Frag} : OpD K (rI CMul fun i j => .int (i * j)) gMul := od_I fun _ _ h => cMul_ok h
abbrev gMod := gI (fun _ j => decide (0 < j)) fun i j => i % j
theorem od_mod {K : PySem.W.Frag} : OpD K (rI (fun _ j => 0 < j) fun i j => .int (i % j)) gMod := od_I fun _ _ h => of_decide_eq_true h
abbrev gDiv := gI (fun _ j => decide (0 < j) && decide (j < 1073741824)) fun i j => i / j
theorem od_div {K : PySem.W.Frag} : OpD K (rI CDiv fun i j => .int (i / j)) gDiv := od_I fun _ _ h => by
  simp only [Bool.and_eq_true, decide_eq_true_eq] at h
  exact h
def gCmp (p : Int → Int → Bool) : Sto → D → D → Option D := fun _ x y => match x, y with
  | .int i, .int j => some (.bl (p i j))
  | _, _ => none
theorem od_cmp {K : PySem.W.Frag} {p : Int → Int → Bool} : OpD K (rI0 fun i j => .bl (p i j)) (gCmp p) := by
  intro Z μ H S x y d v u Q W rx ry e q
  unfold gCmp at e
  split at e
  · rename_i i j
    cases e
    exact ⟨i, j, rv_int.mp rx, rv_int.mp ry, q _ H (Same.refl H) (rv_bl.mpr rfl)⟩
  · cases e
abbrev gLt := gCmp fun i j => decide (i < j)
abbrev gLe := gCmp fun i j => decide (i ≤ j)
abbrev gGt := gCmp fun i j => decide (j < i)
abbrev gGe := gCmp fun i j => decide (j ≤ i)
/-- == of data -/
def fo (S : Sto) (d : D) : Option D := if okD 60 d then some d else (fz S d).bind fun d' => if okD 60 d' then some d' else none
theorem fo_of {K : PySem.W.Frag} {Z : Fr} {μ : List Addr} {H : Hp} {S : Sto} {d d' : D} {v : V} (W : Wd K Z μ H S) (r : RVz K Z μ H d v) (h : fo S d = some d') : okD 60 d' = true ∧ Dp K H v (toP d') := by
  unfold fo at h
  split at h
  · rename_i o
    cases h
    exact ⟨o, dp_of _ _ _ o r⟩
  · rw [Option.bind_eq_some_iff] at h
    obtain ⟨e, e1, h⟩ := h
    split at h
    · rename_i o
      cases h
      exact ⟨o, dp_of _ _ _ o (RV.fz W e1 r)⟩
    · cases h
def gEq : Sto → D → D → Option D := fun S x y => (fo S x).bind fun x' => (fo S y).bind fun y' => some (.bl (eqD x' y'))
def gNe : Sto → D → D → Option D := fun S x y => (fo S x).bind fun x' => (fo S y).bind fun y' => some (.bl (!eqD x' y'))
theorem od_eq {K : PySem.W.Frag} : OpD K (rEqD K) gEq := by
  intro Z μ H S x y d v u Q W rx ry e q
  simp only [gEq, Option.bind_eq_some_iff, Option.some.injEq] at e
  obtain ⟨x', e1, y', e2, rfl⟩ := e
  obtain ⟨o1, d1⟩ := fo_of W rx e1
  obtain ⟨o2, d2⟩ := fo_of W ry e2
  refine ⟨_, _, d1, d2, okD_shaped o1 (by decide), okD_shaped o2 (by decide), ?_⟩
  rw [eqv_eqD _ _ _ _ o1 o2]
  exact q _ H (Same.refl H) (rv_bl.mpr rfl)
theorem od_ne {K : PySem.W.Frag} : OpD K (rNeD K) gNe := by
  intro Z μ H S x y d v u Q W rx ry e q
  simp only [gNe, Option.bind_eq_some_iff, Option.some.injEq] at e
  obtain ⟨x', e1, y', e2, rfl⟩ := e
  obtain ⟨o1, d1⟩ := fo_of W rx e1
  obtain ⟨o2, d2⟩ := fo_of W ry e2
  refine ⟨_, _, d1, d2, okD_shaped o1 (by decide), okD_shaped o2 (by decide), ?_⟩
  rw [eqv_eqD _ _ _ _ o1 o2]
  exact q _ H (Same.refl H) (rv_bl.mpr rfl)
/-- x in xs: a list, a tuple -/
def rInQ (K : PySem.W.Frag) (neg : Bool) : R2 := fun x y H Q => ∃ d ds, Dp K H x d ∧ (Dp K H y (.list ds) ∨ Dp K H y (.tuple ds)) ∧ SeqAt.shaped d = true ∧ SeqAt.shaped (.list ds) = true ∧ Q (.bl (if neg then !(ds.any fun z => PyData.eqv z d) else ds.any fun z => PyData.eqv z d)) H
theorem op_inQ (hu : X.A.units + 65 < cLine) : OpR X (compareOp .In) (rInQ X.K false) := by
  intro pins s σ H x y v u Q I rx ry h
  obtain ⟨d, ds, hd, he, sd, se, q⟩ := h
  obtain ⟨as, r1⟩ := Dp.reads I d x v hd rx
  have hl : PyData.canLayAll0 ds = true := SeqAt.canLay_of_shaped se
  rcases he with he | he
  · obtain ⟨bs, r2⟩ := Dp.reads I (.list ds) y u he ry
    exact SeqAt.in_list_reads r2 r1 hl (SeqAt.canLay_of_shaped sd) (PyProof.Rows.room_in_shaped sd hu) ⟨.bl _, H, I, rfl, q⟩
  · obtain ⟨bs, r2⟩ := Dp.reads I (.tuple ds) y u he ry
    exact SeqAt.in_tuple_reads r2 r1 hl (SeqAt.canLay_of_shaped sd) (PyProof.Rows.room_in_shaped sd hu) ⟨.bl _, H, I, rfl, q⟩
theorem op_ninQ (hu : X.A.units + 65 < cLine) : OpR X (compareOp .NotIn) (rInQ X.K true) := by
  intro pins s σ H x y v u Q I rx ry h
  obtain ⟨d, ds, hd, he, sd, se, q⟩ := h
  obtain ⟨as, r1⟩ := Dp.reads I d x v hd rx
  have hl : PyData.canLayAll0 ds = true := SeqAt.canLay_of_shaped se
  rcases he with he | he
  · obtain ⟨bs, r2⟩ := Dp.reads I (.list ds) y u he ry
    exact SeqAt.notIn_list_reads r2 r1 hl (SeqAt.canLay_of_shaped sd) (PyProof.Rows.room_in_shaped sd hu) ⟨.bl _, H, I, rfl, q⟩
  · obtain ⟨bs, r2⟩ := Dp.reads I (.tuple ds) y u he ry
    exact SeqAt.notIn_tuple_reads r2 r1 hl (SeqAt.canLay_of_shaped sd) (PyProof.Rows.room_in_shaped sd hu) ⟨.bl _, H, I, rfl, q⟩
def inD (x : D) (ys : List D) : Bool := ys.any fun y => eqD y x
def gInS (neg : Bool) : Sto → D → D → Option D := fun S x y => (fo S x).bind fun x' => (fo S y).bind fun y' => match y' with
  | .lst ds => some (.bl (if neg then !inD x' ds else inD x' ds))
  | .tup ds => some (.bl (if neg then !inD x' ds else inD x' ds))
  | _ => none
theorem any_eqv {n m : Nat} {x : D} (hx : okD m x = true) : ∀ {ds : List D}, okDs n ds = true → ((toPs ds).any fun z => PyData.eqv z (toP x)) = inD x ds
  | [], _ => by simp [toPs, inD]
  | d :: ds, h => by
    simp only [okDs, Bool.and_eq_true] at h
    simp only [toPs, List.any_cons, inD, eqv_eqD n m d x h.1 hx]
    have q := any_eqv hx h.2
    unfold inD at q
    rw [q]
theorem od_in {K : PySem.W.Frag} {neg : Bool} : OpD K (rInQ K neg) (gInS neg) := by
  intro Z μ H S x y d v u Q W rx ry e q
  simp only [gInS, Option.bind_eq_some_iff] at e
  obtain ⟨x', e1, y', e2, e⟩ := e
  obtain ⟨o1, d1⟩ := fo_of W rx e1
  obtain ⟨o2, d2⟩ := fo_of W ry e2
  cases y' with
  | lst ds =>
    simp only [Option.some.injEq] at e
    subst e
    simp only [toP] at d2
    have o3 : okDs 59 ds = true := by simpa only [okD] using o2
    refine ⟨_, _, d1, .inl d2, okD_shaped o1 (by decide), by simpa only [toP] using okD_shaped o2 (by decide), ?_⟩
    rw [any_eqv o1 o3]
    exact q _ H (Same.refl H) (rv_bl.mpr rfl)
  | tup ds =>
    simp only [Option.some.injEq] at e
    subst e
    simp only [toP] at d2
    have o3 : okDs 59 ds = true := by simpa only [okD] using o2
    refine ⟨_, _, d1, .inr d2, okD_shaped o1 (by decide), ?_, ?_⟩
    · have := okD_shaped (n := 60) (d := .lst ds) (by simpa only [okD] using o3) (by decide)
      simpa only [toP] using this
    · rw [any_eqv o1 o3]
      exact q _ H (Same.refl H) (rv_bl.mpr rfl)
  | _ => simp at e
def gIsN (neg : Bool) : Sto → D → D → Option D := fun _ x y => match y with
  | .non => some (.bl (match x with | .non => !neg | _ => neg))
  | _ => none
theorem rv_isnon {K : PySem.W.Frag} {av : Addr → Prop} {μ : List Addr} {H : Hp} {x : D} {v : V} (r : RV K av μ H x v) : decide (v = .non) = (match x with | .non => true | _ => false) := by
  cases x with
  | non => rw [rv_non] at r; subst r; rfl
  | bl _ => rw [rv_bl] at r; subst r; rfl
  | int _ => rw [rv_int] at r; subst r; rfl
  | str _ => rw [rv_str] at r; subst r; rfl
  | ty _ => rw [rv_ty] at r; subst r; rfl
  | tup _ => obtain ⟨a, xs, rfl, _⟩ := rv_tup.mp r; rfl
  | lst _ => obtain ⟨a, xs, rfl, _⟩ := rv_lst.mp r; rfl
  | dic _ _ _ => obtain ⟨a, rfl, _⟩ := rv_dic.mp r; rfl
  | scr _ => obtain ⟨a, rfl, _⟩ := rv_scr.mp r; rfl
  | ref _ => obtain ⟨a, rfl, _⟩ := rv_ref.mp r; rfl
theorem od_isN {K : PySem.W.Frag} : OpD K (fun x y H Q => y = .non ∧ Q (.bl (decide (x = .non))) H) (gIsN false) := by
  intro Z μ H S x y d v u Q W rx ry e q
  unfold gIsN at e
  split at e
  · cases e
    refine ⟨rv_non.mp ry, ?_⟩
    rw [rv_isnon rx]
    refine q _ H (Same.refl H) ?_
    cases x <;> exact rv_bl.mpr rfl
  · cases e
theorem od_notN {K : PySem.W.Frag} : OpD K (fun x y H Q => y = .non ∧ Q (.bl (!decide (x = .non))) H) (gIsN true) := by
  intro Z μ H S x y d v u Q W rx ry e q
  unfold gIsN at e
  split at e
  · cases e
    refine ⟨rv_non.mp ry, ?_⟩
    rw [rv_isnon rx]
    refine q _ H (Same.refl H) ?_
    cases x <;> exact rv_bl.mpr rfl
  · cases e
def gNeg : Sto → D → Option D := fun _ x => match x with | .int i => some (.int (-i)) | _ => none
theorem ud_neg {K : PySem.W.Frag} : UnD K (rU fun i => .int (-i)) gNeg := by
  intro Z μ H S x d v Q W rx e q
  unfold gNeg at e
  split at e
  · rename_i i
    cases e
    exact ⟨i, rv_int.mp rx, q _ H (Same.refl H) (rv_int.mpr rfl)⟩
  · cases e
end
end DL

set_option maxHeartbeats 4000000
namespace DL
open PySem PySem.Spec L2

section
variable {X : Cx} {a b c e : Expr} {es rest : List Expr} {pos : Pos} {fa fb fc : E}

/-! ### a < b < c -/
def e3c (g g' : Sto → D → D → Option D) (a b c : E) : E := fun ρ S => (a ρ S).bind fun x => (b ρ S).bind fun y => (g S x y).bind fun z => match z with
  | .bl true => (c ρ S).bind fun w => g' S y w
  | .bl false => some (.bl false)
  | _ => none
theorem tChain_of {K : PySem.W.Frag} {r r' : R2} {g g' : Sto → D → D → Option D} (hd : OpD K r g) (hd' : OpD K r' g') {σ : L2.St} {H : Hp} {Q : VK} (h : tD K (e3c g g' fa fb fc) σ H Q) : tChain r r' (tD K fa) (tD K fb) (tD K fc) σ H Q := by
  obtain ⟨Z, μ, ρ, S, R, d, e, q⟩ := h
  simp only [e3c, Option.bind_eq_some_iff] at e
  obtain ⟨x, ex, y, ey, z, ez, e⟩ := e
  refine ⟨Z, μ, ρ, S, R, x, ex, fun v H1 s1 r1 => ⟨Z, μ, ρ, S, R.mono s1, y, ey, fun u H2 s2 r2 => ?_⟩⟩
  have W2 := (R.wd.mono s1).mono s2
  refine hd Z μ H2 S x y z v u _ W2 (RV.mono s2 r1) r2 ez fun w H3 s3 r3 => ?_
  cases z with
  | bl k =>
    refine ⟨k, rv_bl.mp r3, ?_⟩
    cases k with
    | true =>
      simp only [Option.bind_eq_some_iff] at e
      obtain ⟨t, et, e⟩ := e
      rw [if_pos rfl]
      refine ⟨Z, μ, ρ, S, ((R.mono s1).mono s2).mono s3, t, et, fun w' H4 s4 r4 => ?_⟩
      exact hd' Z μ H4 S y t d u w' Q ((W2.mono s3).mono s4) (RV.mono s4 (RV.mono s3 r2)) r4 e fun w2 H5 s5 r5 => q w2 H5 (s1.trans (s2.trans (s3.trans (s4.trans s5)))) r5
    | false =>
      simp only [Option.some.injEq] at e
      subst e
      rw [if_neg Bool.false_ne_true]
      exact q _ H3 (s1.trans (s2.trans s3)) (rv_bl.mpr rfl)
  | _ => simp at e
theorem d_chain {op op' : CmpOp} {r r' : R2} {g g' : Sto → D → D → Option D} (ho : OpR X (compareOp op) r) (ho' : OpR X (compareOp op') r') (hd : OpD X.K r g) (hd' : OpD X.K r' g') (ha : PE X a (tD X.K fa)) (hb : PE X b (tD X.K fb)) (hc : PE X c (tD X.K fc))
    (hm : lastMarks [op, op'] [b, c] = false := by with_unfolding_all rfl) : PE X (.Compare a [op, op'] [b, c] pos) (tD X.K (e3c g g' fa fb fc)) :=
  pe_imp (pe_chain ho ho' ha hb hc hm) fun _ _ _ h => tChain_of hd hd' h
theorem tB_of {K : PySem.W.Frag} {f : E} {t : TE} (i : ∀ σ H Q, tD K f σ H Q → t σ H Q) {σ : L2.St} {H : Hp} {Q : Bool → Hp → Prop} (h : tT K (eB f) σ H Q) : tTest t σ H Q := by
  obtain ⟨Z, μ, ρ, S, R, k, e, q⟩ := h
  simp only [eB, Option.bind_eq_some_iff] at e
  obtain ⟨d, e1, e2⟩ := e
  refine i _ _ _ ⟨Z, μ, ρ, S, R, d, e1, fun v H' s r => ?_⟩
  cases d <;> simp at e2
  subst e2
  exact ⟨_, rv_bl.mp r, q H' s⟩
theorem dt_chain {op op' : CmpOp} {r r' : R2} {g g' : Sto → D → D → Option D} (ho : OpR X (compareOp op) r) (ho' : OpR X (compareOp op') r') (hd : OpD X.K r g) (hd' : OpD X.K r' g') (ha : PE X a (tD X.K fa)) (hb : PE X b (tD X.K fb)) (hc : PE X c (tD X.K fc))
    (hm : lastMarks [op, op'] [b, c] = false := by with_unfolding_all rfl) : PT X (.Compare a [op, op'] [b, c] pos) (tT X.K (eB (e3c g g' fa fb fc))) :=
  pt_imp (pt_chain ho ho' ha hb hc hm) fun _ _ _ h => tB_of (fun _ _ _ h => tChain_of hd hd' h) h

/-! ### truth -/
def truD (S : Sto) : D → Option Bool
  | .non => some false
  | .bl b => some b
  | .int i => some (i != 0)
  | .str s => if s.length ≤ sizeLine then some ((s.length : Int) != 0) else none
  | .dic false ks _ => some (!ks.isEmpty)
  | d => (seqD S d).map fun ds => !ds.isEmpty
def eTru (f : E) : EB := fun ρ S => (f ρ S).bind fun d => truD S d
theorem rvl_empty {K : PySem.W.Frag} {av : Addr → Prop} {μ : List Addr} {H : Hp} {ds : List D} {xs : List V} (h : RVL K av μ H ds xs) : xs.isEmpty = ds.isEmpty := by
  cases ds with
  | nil => rw [rvl_nil.mp h]; rfl
  | cons d ds => obtain ⟨y, ys, rfl, _⟩ := rvl_cons.mp h; rfl
theorem tru_of {K : PySem.W.Frag} {Z : Fr} {μ : List Addr} {H : Hp} {S : Sto} {d : D} {v : V} {k : Bool} (W : Wd K Z μ H S) (r : RVz K Z μ H d v) (h : truD S d = some k) : TruV K v H k := by
  have sq : ∀ {ds : List D}, seqD S d = some ds → k = !ds.isEmpty → TruV K v H k := by
    intro ds h1 h2
    obtain ⟨a, xs, rfl, hs, hr⟩ := seq_of W r h1
    rcases hs with hs | hs
    · exact .inl ⟨xs, hs, by rw [rvl_empty hr]; exact h2⟩
    · exact .inr (.inl ⟨xs, hs, by rw [rvl_empty hr]; exact h2⟩)
  cases d with
  | non => rw [rv_non.mp r]; simp only [truD, Option.some.injEq] at h; exact h.symm
  | bl _ => rw [rv_bl.mp r]; simp only [truD, Option.some.injEq] at h; exact h.symm
  | int _ => rw [rv_int.mp r]; simp only [truD, Option.some.injEq] at h; exact h.symm
  | str s =>
    rw [rv_str.mp r]
    simp only [truD] at h
    split at h
    · rename_i hs
      simp only [Option.some.injEq] at h
      exact ⟨hs, h.symm⟩
    · cases h
  | ty _ => simp [truD, seqD] at h
  | tup ds => simp only [truD, seqD, Option.map_some, Option.some.injEq] at h; exact sq rfl h.symm
  | lst ds => simp only [truD, seqD, Option.map_some, Option.some.injEq] at h; exact sq rfl h.symm
  | scr ns => simp only [truD, seqD, Option.map_some, Option.some.injEq] at h; exact sq rfl h.symm
  | ref n =>
    simp only [truD, Option.map_eq_some_iff] at h
    obtain ⟨ds, h1, h2⟩ := h
    exact sq h1 h2.symm
  | dic t ks vs =>
    cases t with
    | true => simp [truD, seqD] at h
    | false =>
      simp only [truD, Option.some.injEq] at h
      obtain ⟨a, rfl, _, hh⟩ := rv_dic.mp r
      rcases hh with ⟨_, kvs, h1, h2, _⟩ | ⟨z, _⟩
      · refine .inr (.inr ⟨kvs, h1, ?_⟩)
        rw [← h, h2]
        cases kvs <;> rfl
      · cases z
theorem dt_truth (ha : PE X a (tD X.K fa)) (he : ∀ whole, isTrue a X.env whole = (do let v ← whole; standAt a.pos; holding [v] (truthy v)) := by intro _; rfl) : PT X a (tT X.K (eTru fa)) :=
  pt_imp (pt_truth ha he) fun σ H Q ⟨Z, μ, ρ, S, R, k, e, q⟩ => by
    simp only [eTru, Option.bind_eq_some_iff] at e
    obtain ⟨d, e1, e2⟩ := e
    exact ⟨Z, μ, ρ, S, R, d, e1, fun v H' s r => ⟨k, tru_of (R.wd.mono s) r e2, q H' s⟩⟩
def bAnd (t u : EB) : EB := fun ρ S => (t ρ S).bind fun c => if c then u ρ S else some false
def bOr (t u : EB) : EB := fun ρ S => (t ρ S).bind fun c => if c then some true else u ρ S
def bNot (t : EB) : EB := fun ρ S => (t ρ S).map fun c => !c
variable {ta tb : EB}
theorem dw_one {op : BoolOp} (h : PT X a (tT X.K ta)) : PW X (.BoolOp op [a] pos) (tT X.K ta) := by
  cases op
  · exact pw_and1 h
  · exact pw_or1 h
theorem dw_and (ha : PT X a (tT X.K ta)) (hb : PW X (.BoolOp .And (b :: rest) pos) (tT X.K tb)) : PW X (.BoolOp .And (a :: b :: rest) pos) (tT X.K (bAnd ta tb)) :=
  pw_imp (pw_and ha hb) fun σ H Q ⟨Z, μ, ρ, S, R, k, e, q⟩ => by
    simp only [bAnd, Option.bind_eq_some_iff] at e
    obtain ⟨c, e1, e2⟩ := e
    refine ⟨Z, μ, ρ, S, R, c, e1, fun H' s => ?_⟩
    cases c with
    | true =>
      rw [if_pos rfl] at e2 ⊢
      exact ⟨Z, μ, ρ, S, R.mono s, k, e2, fun H2 s2 => q H2 (s.trans s2)⟩
    | false =>
      rw [if_neg Bool.false_ne_true] at e2 ⊢
      cases e2
      exact q H' s
theorem dw_or (ha : PT X a (tT X.K ta)) (hb : PW X (.BoolOp .Or (b :: rest) pos) (tT X.K tb)) : PW X (.BoolOp .Or (a :: b :: rest) pos) (tT X.K (bOr ta tb)) :=
  pw_imp (pw_or ha hb) fun σ H Q ⟨Z, μ, ρ, S, R, k, e, q⟩ => by
    simp only [bOr, Option.bind_eq_some_iff] at e
    obtain ⟨c, e1, e2⟩ := e
    refine ⟨Z, μ, ρ, S, R, c, e1, fun H' s => ?_⟩
    cases c with
    | true =>
      rw [if_pos rfl] at e2 ⊢
      cases e2
      exact q H' s
    | false =>
      rw [if_neg Bool.false_ne_true] at e2 ⊢
      exact ⟨Z, μ, ρ, S, R.mono s, k, e2, fun H2 s2 => q H2 (s.trans s2)⟩
theorem dt_bool (h : PW X a (tT X.K ta)) : PT X a (tT X.K ta) := h.pt
theorem dt_not (ha : PT X a (tT X.K ta)) : PT X (.UnaryOp .Not a pos) (tT X.K (bNot ta)) :=
  pt_imp (pt_not ha) fun σ H Q ⟨Z, μ, ρ, S, R, k, e, q⟩ => by
    simp only [bNot, Option.map_eq_some_iff] at e
    obtain ⟨c, e1, rfl⟩ := e
    exact ⟨Z, μ, ρ, S, R, c, e1, fun H' s => q H' s⟩
/-- and, or, not as values: all but the last flags -/
def eAnd (f g : E) : E := fun ρ S => (f ρ S).bind fun d => match d with | .bl true => g ρ S | .bl false => some (.bl false) | _ => none
def eOr (f g : E) : E := fun ρ S => (f ρ S).bind fun d => match d with | .bl true => some (.bl true) | .bl false => g ρ S | _ => none
def eNot (f : E) : E := fun ρ S => (f ρ S).bind fun d => match d with | .bl b => some (.bl (!b)) | _ => none
theorem d_one {op : BoolOp} (h : PE X a (tD X.K fa)) : PE X (.BoolOp op [a] pos) (tD X.K fa) := pe_one h
theorem d_and (ha : PE X a (tD X.K fa)) (hb : PE X (.BoolOp .And (b :: rest) pos) (tD X.K fb)) : PE X (.BoolOp .And (a :: b :: rest) pos) (tD X.K (eAnd fa fb)) :=
  pe_imp (pe_and ha hb) fun σ H Q ⟨Z, μ, ρ, S, R, d, e, q⟩ => by
    simp only [eAnd, Option.bind_eq_some_iff] at e
    obtain ⟨c, e1, e2⟩ := e
    refine ⟨Z, μ, ρ, S, R, c, e1, fun v H' s r => ?_⟩
    cases c with
    | bl k =>
      refine ⟨k, rv_bl.mp r, ?_⟩
      cases k with
      | true => rw [if_pos rfl]; exact ⟨Z, μ, ρ, S, R.mono s, d, e2, fun w H2 s2 r2 => q w H2 (s.trans s2) r2⟩
      | false =>
        rw [if_neg Bool.false_ne_true]
        simp only [Option.some.injEq] at e2
        subst e2
        exact q _ H' s (rv_bl.mpr rfl)
    | _ => simp at e2
theorem d_or (ha : PE X a (tD X.K fa)) (hb : PE X (.BoolOp .Or (b :: rest) pos) (tD X.K fb)) : PE X (.BoolOp .Or (a :: b :: rest) pos) (tD X.K (eOr fa fb)) :=
  pe_imp (pe_or ha hb) fun σ H Q ⟨Z, μ, ρ, S, R, d, e, q⟩ => by
    simp only [eOr, Option.bind_eq_some_iff] at e
    obtain ⟨c, e1, e2⟩ := e
    refine ⟨Z, μ, ρ, S, R, c, e1, fun v H' s r => ?_⟩
    cases c with
    | bl k =>
      refine ⟨k, rv_bl.mp r, ?_⟩
      cases k with
      | true =>
        rw [if_pos rfl]
        simp only [Option.some.injEq] at e2
        subst e2
        exact q _ H' s (rv_bl.mpr rfl)
      | false => rw [if_neg Bool.false_ne_true]; exact ⟨Z, μ, ρ, S, R.mono s, d, e2, fun w H2 s2 r2 => q w H2 (s.trans s2) r2⟩
    | _ => simp at e2
theorem d_not (ha : PE X a (tD X.K fa)) : PE X (.UnaryOp .Not a pos) (tD X.K (eNot fa)) :=
  pe_imp (pe_not ha) fun σ H Q ⟨Z, μ, ρ, S, R, d, e, q⟩ => by
    simp only [eNot, Option.bind_eq_some_iff] at e
    obtain ⟨c, e1, e2⟩ := e
    refine ⟨Z, μ, ρ, S, R, c, e1, fun v H' s r => ?_⟩
    cases c with
    | bl k =>
      simp only [Option.some.injEq] at e2
      subst e2
      exact ⟨k, rv_bl.mp r, q _ H' s (rv_bl.mpr rfl)⟩
    | _ => simp at e2
def eIf (t : EB) (f g : E) : E := fun ρ S => (t ρ S).bind fun c => if c then f ρ S else g ρ S
def fIf (t : EB) (f g : EL) : EL := fun ρ S => (t ρ S).bind fun c => if c then f ρ S else g ρ S
theorem d_if {t : EB} (hc : PT X c (tT X.K t)) (ha : PE X a (tD X.K fa)) (hb : PE X b (tD X.K fb)) : PE X (.IfExp c a b pos) (tD X.K (eIf t fa fb)) :=
  pe_imp (pe_ifExp hc ha hb) fun σ H Q ⟨Z, μ, ρ, S, R, d, e, q⟩ => by
    simp only [eIf, Option.bind_eq_some_iff] at e
    obtain ⟨k, e1, e2⟩ := e
    refine ⟨Z, μ, ρ, S, R, k, e1, fun H' s => ?_⟩
    cases k with
    | true => rw [if_pos rfl] at e2 ⊢; exact ⟨Z, μ, ρ, S, R.mono s, d, e2, fun w H2 s2 r2 => q w H2 (s.trans s2) r2⟩
    | false => rw [if_neg Bool.false_ne_true] at e2 ⊢; exact ⟨Z, μ, ρ, S, R.mono s, d, e2, fun w H2 s2 r2 => q w H2 (s.trans s2) r2⟩
theorem tF_step {K : PySem.W.Frag} {f : EL} {Z : Fr} {μ : List Addr} {ρ : Rho} {S : Sto} {σ : L2.St} {H H1 : Hp} {Q : VK} {ds : List D} (R : Rel K Z μ σ H ρ S) (s : Same H H1) (e : f ρ S = some ds)
    (q : ∀ a xs H', H a = none → Same H H' → H' a = some (.lst xs) → RVL K (avO Z μ a) μ H' ds xs → Q (.ref a) H') : tF K f σ H1 Q :=
  ⟨Z, μ, ρ, S, R.mono s, ds, e, fun a xs H' n s2 h1 h2 => q a xs H' (s.free n) (s.trans s2) h1 h2⟩
theorem d_ifF {t : EB} {fa fb : EL} (hc : PT X c (tT X.K t)) (ha : PE X a (tF X.K fa)) (hb : PE X b (tF X.K fb)) : PE X (.IfExp c a b pos) (tF X.K (fIf t fa fb)) :=
  pe_imp (pe_ifExp hc ha hb) fun σ H Q ⟨Z, μ, ρ, S, R, d, e, q⟩ => by
    simp only [fIf, Option.bind_eq_some_iff] at e
    obtain ⟨k, e1, e2⟩ := e
    refine ⟨Z, μ, ρ, S, R, k, e1, fun H' s => ?_⟩
    cases k with
    | true => rw [if_pos rfl] at e2 ⊢; exact tF_step R s e2 q
    | false => rw [if_neg Bool.false_ne_true] at e2 ⊢; exact tF_step R s e2 q

/-! ### rows of expressions, displays -/
def aNil : EL := fun _ _ => some []
def aCons (f : E) (fs : EL) : EL := fun ρ S => (f ρ S).bind fun d => (fs ρ S).map fun ds => d :: ds
theorem da_nil : PA X [] (tA X.K aNil) := pa_imp pa_nil fun σ H Q ⟨Z, μ, ρ, S, R, ds, e, q⟩ => by
  simp only [aNil, Option.some.injEq] at e
  subst e
  exact q [] H (Same.refl H) RVL.nil'
theorem da_cons {fs : EL} (ha : PE X a (tD X.K fa)) (hr : PA X es (tA X.K fs)) (hs : starEach (a :: es) X.env = (false, eval a X.env) :: starEach es X.env := by rfl) : PA X (a :: es) (tA X.K (aCons fa fs)) :=
  pa_imp (pa_cons ha hr hs) fun σ H Q ⟨Z, μ, ρ, S, R, ds, e, q⟩ => by
    simp only [aCons, Option.bind_eq_some_iff, Option.map_eq_some_iff] at e
    obtain ⟨d, e1, ds', e2, rfl⟩ := e
    refine ⟨Z, μ, ρ, S, R, d, e1, fun v H1 s1 r1 => ⟨Z, μ, ρ, S, R.mono s1, ds', e2, fun vs H2 s2 r2 => ?_⟩⟩
    exact q _ H2 (s1.trans s2) (RVL.cons' (RV.mono s2 r1) r2)
def eTup (fs : EL) : E := fun ρ S => (fs ρ S).bind fun ds => if small ds.length then some (.tup ds) else none
def fLst (fs : EL) : EL := fun ρ S => (fs ρ S).bind fun ds => if small ds.length then some ds else none
theorem d_tup {fs : EL} {k : Nat} (h : PA X es (tA X.K fs)) : PE X (.Tuple es k pos) (tD X.K (eTup fs)) :=
  pe_imp (pe_tup h) fun σ H Q ⟨Z, μ, ρ, S, R, d, e, q⟩ => by
    simp only [eTup, Option.bind_eq_some_iff] at e
    obtain ⟨ds, e1, e2⟩ := e
    split at e2
    · rename_i hs
      cases e2
      refine ⟨Z, μ, ρ, S, R, ds, e1, fun vs H1 s1 r1 => ⟨by rw [RVL.length r1]; exact small_le hs, fun p hp => ?_⟩⟩
      have s : Same H1 (upd H1 p (.tup vs)) := fun c o z => by rw [upd_ne (ne_of_none z hp)]; exact z
      exact q _ _ (s1.trans s) (rv_tup.mpr ⟨p, vs, rfl, upd_same, RVL.mono s r1⟩)
    · cases e2
theorem d_lst {fs : EL} (h : PA X es (tA X.K fs)) : PE X (.List es pos) (tF X.K (fLst fs)) :=
  pe_imp (pe_lst h) fun σ H Q ⟨Z, μ, ρ, S, R, d, e, q⟩ => by
    simp only [fLst, Option.bind_eq_some_iff] at e
    obtain ⟨ds, e1, e2⟩ := e
    split at e2
    · rename_i hs
      simp only [Option.some.injEq] at e2
      subst e2
      refine ⟨Z, μ, ρ, S, R, ds, e1, fun vs H1 s1 r1 => ⟨by rw [RVL.length r1]; exact small_le hs, fun p hp => ?_⟩⟩
      have s : Same H1 (upd H1 p (.lst vs)) := fun c o z => by rw [upd_ne (ne_of_none z hp)]; exact z
      exact q p _ _ (s1.free hp) (s1.trans s) upd_same (RVL.newO s hp r1)
    · cases e2

/-! ### places, slices -/
def ixD (ds : List D) (i : Int) : Option D := atI ds i
def gIx : Sto → D → D → Option D := fun S x y => (seqD S x).bind fun ds => match y with
  | .int i => ixD ds i
  | _ => none
theorem rvl_at {K : PySem.W.Frag} {av : Addr → Prop} {μ : List Addr} {H : Hp} {ds : List D} {xs : List V} {i : Int} {d : D} (h : RVL K av μ H ds xs) (e : atI ds i = some d) : ∃ v, atI xs i = some v ∧ RV K av μ H d v := by
  unfold atI at e ⊢
  rw [RVL.length h]
  rw [Option.bind_eq_some_iff] at e
  obtain ⟨j, e1, e2⟩ := e
  obtain ⟨v, h1, h2⟩ := RVL.get h e2
  exact ⟨v, by rw [e1]; exact h1, h2⟩
theorem od_ix {K : PySem.W.Frag} : OpD K (rIx K) gIx := by
  intro Z μ H S x y d v u Q W rx ry e q
  simp only [gIx, Option.bind_eq_some_iff] at e
  obtain ⟨ds, e1, e2⟩ := e
  obtain ⟨a, xs, rfl, hs, hr⟩ := seq_of W rx e1
  cases y with
  | int i =>
    obtain ⟨w, h1, h2⟩ := rvl_at hr e2
    rw [rv_int.mp ry]
    rcases hs with hs | hs
    · exact .inl ⟨a, xs, i, w, rfl, rfl, hs, h1, q w H (Same.refl H) h2⟩
    · exact .inr (.inl ⟨a, xs, i, w, rfl, rfl, hs, h1, q w H (Same.refl H) h2⟩)
  | _ => simp at e2
theorem d_ix (ha : PE X a (tD X.K fa)) (hb : PE X b (tD X.K fb)) (hs : PlainIx b := by intro _ _; rfl) : PE X (.Subscript a b pos) (tD X.K (e2 gIx fa fb)) :=
  pe_imp (pe_ix ix_seq ha hb hs) fun _ _ _ h => tOp_of od_ix h
abbrev EO := Rho → Sto → Option (Option Int)
def tP (K : PySem.W.Frag) (f : EO) : TO := fun σ H Q => ∃ Z μ ρ S, Rel K Z μ σ H ρ S ∧ ∃ o, f ρ S = some o ∧ ∀ H', Same H H' → Q o H'
def oNone : EO := fun _ _ => some none
def oSome (f : E) : EO := fun ρ S => (f ρ S).bind fun d => match d with | .int i => some (some i) | _ => none
theorem PO.imp {e : Option Expr} {t t' : TO} (h : PO X e t) (i : ∀ σ H Q, t' σ H Q → t σ H Q) : PO X e t' := ⟨fun pins s σ H Q I q => h.run pins s σ H Q I (i σ H Q q)⟩
theorem do_none : PO X none (tP X.K oNone) := PO.imp po_none fun σ H Q ⟨Z, μ, ρ, S, R, o, e, q⟩ => by
  simp only [oNone, Option.some.injEq] at e
  subst e
  exact q H (Same.refl H)
theorem do_some (h : PE X a (tD X.K fa)) : PO X (some a) (tP X.K (oSome fa)) := PO.imp (po_some h) fun σ H Q ⟨Z, μ, ρ, S, R, o, e, q⟩ => by
  simp only [oSome, Option.bind_eq_some_iff] at e
  obtain ⟨d, e1, e2⟩ := e
  refine ⟨Z, μ, ρ, S, R, d, e1, fun v H' s r => ?_⟩
  cases d with
  | int i =>
    simp only [Option.some.injEq] at e2
    subst e2
    exact ⟨i, rv_int.mp r, q H' s⟩
  | _ => simp at e2
def cutD (ds : List D) (lo hi : Option Int) : List D := (ds.drop (HT.sIx ds.length 0 lo)).take (HT.sIx ds.length ds.length hi - HT.sIx ds.length 0 lo)
theorem rvl_cut {K : PySem.W.Frag} {av : Addr → Prop} {μ : List Addr} {H : Hp} {ds : List D} {xs : List V} (lo hi : Option Int) (h : RVL K av μ H ds xs) : RVL K av μ H (cutD ds lo hi) (cutV xs lo hi) := by
  unfold cutD cutV
  rw [RVL.length h]
  exact RVL.take _ (RVL.drop _ h)
def eCut (f : E) (lo hi : EO) : E := fun ρ S => (f ρ S).bind fun d => (lo ρ S).bind fun l => (hi ρ S).bind fun h => match d with
  | .tup ds => some (.tup (cutD ds l h))
  | _ => none
def fCut (f : E) (lo hi : EO) : EL := fun ρ S => (f ρ S).bind fun d => (lo ρ S).bind fun l => (hi ρ S).bind fun h => (lstD S d).map fun ds => cutD ds l h
theorem d_cut {lo hi : Option Expr} {fl fh : EO} {p2 : Pos} (ha : PE X a (tD X.K fa)) (hl : PO X lo (tP X.K fl)) (hh : PO X hi (tP X.K fh)) : PE X (.Subscript a (.Slice lo hi none p2) pos) (tD X.K (eCut fa fl fh)) :=
  pe_imp (pe_slice sl_tupA ha hl hh) fun σ H Q ⟨Z, μ, ρ, S, R, d, e, q⟩ => by
    simp only [eCut, Option.bind_eq_some_iff] at e
    obtain ⟨x, e1, l, e2, h, e3, e4⟩ := e
    refine ⟨Z, μ, ρ, S, R, x, e1, fun v H1 s1 r1 => ⟨Z, μ, ρ, S, R.mono s1, l, e2, fun H2 s2 => ⟨Z, μ, ρ, S, (R.mono s1).mono s2, h, e3, fun H3 s3 => ?_⟩⟩⟩
    cases x with
    | tup ds =>
      simp only [Option.some.injEq] at e4
      subst e4
      obtain ⟨p, xs, rfl, hs, hr⟩ := rv_tup.mp (RV.mono (s2.trans s3) r1)
      refine ⟨p, xs, rfl, SqT.of hs, fun hw => ?_, fun hw t ht => ?_⟩
      · refine q _ H3 (s1.trans (s2.trans s3)) (rv_tup.mpr ⟨p, xs, rfl, hs, ?_⟩)
        have hc : cutD ds l h = ds := by
          unfold cutD
          rw [← RVL.length hr, hw.1, hw.2]
          simp [RVL.length hr]
        rw [hc]; exact hr
      · have s : Same H3 (upd H3 t (.tup (cutV xs l h))) := fun c o z => by rw [upd_ne (ne_of_none z ht)]; exact z
        exact q _ _ ((s1.trans (s2.trans s3)).trans s) (rv_tup.mpr ⟨t, _, rfl, upd_same, RVL.mono s (rvl_cut l h hr)⟩)
    | _ => simp at e4
theorem d_cutF {lo hi : Option Expr} {fl fh : EO} {p2 : Pos} (ha : PE X a (tD X.K fa)) (hl : PO X lo (tP X.K fl)) (hh : PO X hi (tP X.K fh)) : PE X (.Subscript a (.Slice lo hi none p2) pos) (tF X.K (fCut fa fl fh)) :=
  pe_imp (pe_slice sl_list ha hl hh) fun σ H Q ⟨Z, μ, ρ, S, R, ds, e, q⟩ => by
    simp only [fCut, Option.bind_eq_some_iff, Option.map_eq_some_iff] at e
    obtain ⟨x, e1, l, e2, h, e3, es, e4, e5⟩ := e
    subst e5
    refine ⟨Z, μ, ρ, S, R, x, e1, fun v H1 s1 r1 => ⟨Z, μ, ρ, S, R.mono s1, l, e2, fun H2 s2 => ⟨Z, μ, ρ, S, (R.mono s1).mono s2, h, e3, fun H3 s3 => ?_⟩⟩⟩
    obtain ⟨p, xs, rfl, hs, hr⟩ := lst_of (((R.wd.mono s1).mono s2).mono s3) (RV.mono (s2.trans s3) r1) e4
    refine ⟨p, xs, rfl, SqL.of hs, fun t ht => ?_⟩
    have s : Same H3 (upd H3 t (.lst (cutV xs l h))) := fun c o z => by rw [upd_ne (ne_of_none z ht)]; exact z
    exact q t _ _ ((s1.trans (s2.trans s3)).free ht) ((s1.trans (s2.trans s3)).trans s) upd_same (RVL.newO s ht (rvl_cut l h hr))

/-! ### calls of what is built in -/
def CallD (K : PySem.W.Frag) (r : List V → Hp → VK → Prop) (g : Sto → List D → Option D) : Prop :=
  ∀ (Z : Fr) (μ : List Addr) (H : Hp) (S : Sto) (ds : List D) (d : D) (vs : List V) (Q : VK), Wd K Z μ H S → RVLz K Z μ H ds vs → g S ds = some d →
    (∀ w H', Same H H' → RVz K Z μ H' d w → Q w H') → r vs H Q
def CallF (K : PySem.W.Frag) (r : List V → Hp → VK → Prop) (g : Sto → List D → Option (List D)) : Prop :=
  ∀ (Z : Fr) (μ : List Addr) (H : Hp) (S : Sto) (ds es : List D) (vs : List V) (Q : VK), Wd K Z μ H S → RVLz K Z μ H ds vs → g S ds = some es →
    (∀ a xs H', H a = none → Same H H' → H' a = some (.lst xs) → RVL K (avO Z μ a) μ H' es xs → Q (.ref a) H') → r vs H Q
def eCall (g : Sto → List D → Option D) (fs : EL) : E := fun ρ S => (fs ρ S).bind fun ds => g S ds
def fCall (g : Sto → List D → Option (List D)) (fs : EL) : EL := fun ρ S => (fs ρ S).bind fun ds => g S ds
theorem tCB_of {K : PySem.W.Frag} {r : List V → Hp → VK → Prop} {g : Sto → List D → Option D} {fs : EL} (hd : CallD K r g) {σ : L2.St} {H : Hp} {Q : VK} (h : tD K (eCall g fs) σ H Q) : tCB r (tA K fs) σ H Q := by
  obtain ⟨Z, μ, ρ, S, R, d, e, q⟩ := h
  simp only [eCall, Option.bind_eq_some_iff] at e
  obtain ⟨ds, e1, e2⟩ := e
  exact ⟨Z, μ, ρ, S, R, ds, e1, fun vs H1 s1 r1 => hd Z μ H1 S ds d vs Q (R.wd.mono s1) r1 e2 fun w H' s2 r2 => q w H' (s1.trans s2) r2⟩
theorem tCB_ofF {K : PySem.W.Frag} {r : List V → Hp → VK → Prop} {g : Sto → List D → Option (List D)} {fs : EL} (hd : CallF K r g) {σ : L2.St} {H : Hp} {Q : VK} (h : tF K (fCall g fs) σ H Q) : tCB r (tA K fs) σ H Q := by
  obtain ⟨Z, μ, ρ, S, R, d, e, q⟩ := h
  simp only [fCall, Option.bind_eq_some_iff] at e
  obtain ⟨ds, e1, e2⟩ := e
  exact ⟨Z, μ, ρ, S, R, ds, e1, fun vs H1 s1 r1 => hd Z μ H1 S ds d vs Q (R.wd.mono s1) r1 e2 fun a xs H' n s2 h1 h2 => q a xs H' (s1.free n) (s1.trans s2) h1 h2⟩
theorem d_callB {id : String} {x : Str} {p : Pos} {r : List V → Hp → VK → Prop} {g : Sto → List D → Option D} {fs : EL} (hc : CallR X (.builtin id) r) (hd : CallD X.K r g) (hg : Gl X x) (hm : X.mg x = none) (hv : bootBuiltins x = some (.builtin id)) (ha : PA X (e :: es) (tA X.K fs)) (hn : x ≠ "__name__" := by decide) (hdb : (x == ("__debug__" : Str)) = false := by decide)
    (he : starEach (e :: es) X.env = (false, eval e X.env) :: starEach es X.env := by rfl) (hpl : (backTo pos (starEach es X.env)).any (·.1) = false := by rfl) : PE X (.Call (.Name x p) (e :: es) [] pos) (tD X.K (eCall g fs)) :=
  pe_imp (pe_callB hc hg hm hv ha hn hdb he hpl) fun _ _ _ h => tCB_of hd h
theorem d_callBF {id : String} {x : Str} {p : Pos} {r : List V → Hp → VK → Prop} {g : Sto → List D → Option (List D)} {fs : EL} (hc : CallR X (.builtin id) r) (hd : CallF X.K r g) (hg : Gl X x) (hm : X.mg x = none) (hv : bootBuiltins x = some (.builtin id)) (ha : PA X (e :: es) (tA X.K fs)) (hn : x ≠ "__name__" := by decide) (hdb : (x == ("__debug__" : Str)) = false := by decide)
    (he : starEach (e :: es) X.env = (false, eval e X.env) :: starEach es X.env := by rfl) (hpl : (backTo pos (starEach es X.env)).any (·.1) = false := by rfl) : PE X (.Call (.Name x p) (e :: es) [] pos) (tF X.K (fCall g fs)) :=
  pe_imp (pe_callB hc hg hm hv ha hn hdb he hpl) fun _ _ _ h => tCB_ofF hd h
theorem d_callT {T : String} {x : Str} {p : Pos} {r : List V → Hp → VK → Prop} {g : Sto → List D → Option D} {fs : EL} (hc : CallR X (.type T) r) (hd : CallD X.K r g) (hg : Gl X x) (hm : X.mg x = none) (hv : bootBuiltins x = some (.type T)) (ha : PA X (e :: es) (tA X.K fs)) (hn : x ≠ "__name__" := by decide) (hdb : (x == ("__debug__" : Str)) = false := by decide)
    (he : starEach (e :: es) X.env = (false, eval e X.env) :: starEach es X.env := by rfl) (hpl : (backTo pos (starEach es X.env)).any (·.1) = false := by rfl) : PE X (.Call (.Name x p) (e :: es) [] pos) (tD X.K (eCall g fs)) :=
  pe_imp (pe_callTy hc hg hm hv ha hn hdb he hpl) fun _ _ _ h => tCB_of hd h
theorem d_callTF {T : String} {x : Str} {p : Pos} {r : List V → Hp → VK → Prop} {g : Sto → List D → Option (List D)} {fs : EL} (hc : CallR X (.type T) r) (hd : CallF X.K r g) (hg : Gl X x) (hm : X.mg x = none) (hv : bootBuiltins x = some (.type T)) (ha : PA X (e :: es) (tA X.K fs)) (hn : x ≠ "__name__" := by decide) (hdb : (x == ("__debug__" : Str)) = false := by decide)
    (he : starEach (e :: es) X.env = (false, eval e X.env) :: starEach es X.env := by rfl) (hpl : (backTo pos (starEach es X.env)).any (·.1) = false := by rfl) : PE X (.Call (.Name x p) (e :: es) [] pos) (tF X.K (fCall g fs)) :=
  pe_imp (pe_callTy hc hg hm hv ha hn hdb he hpl) fun _ _ _ h => tCB_ofF hd h

theorem rvl1 {K : PySem.W.Frag} {av : Addr → Prop} {μ : List Addr} {H : Hp} {d : D} {vs : List V} (h : RVL K av μ H [d] vs) : ∃ v, vs = [v] ∧ RV K av μ H d v := by
  obtain ⟨y, ys, rfl, h1, h2⟩ := rvl_cons.mp h
  rw [rvl_nil] at h2; subst h2
  exact ⟨y, rfl, h1⟩
theorem rvl2 {K : PySem.W.Frag} {av : Addr → Prop} {μ : List Addr} {H : Hp} {d e : D} {vs : List V} (h : RVL K av μ H [d, e] vs) : ∃ v u, vs = [v, u] ∧ RV K av μ H d v ∧ RV K av μ H e u := by
  obtain ⟨y, ys, rfl, h1, h2⟩ := rvl_cons.mp h
  obtain ⟨u, rfl, h3⟩ := rvl1 h2
  exact ⟨y, u, rfl, h1, h3⟩
def cLen : Sto → List D → Option D := fun S ds => match ds with
  | [x] => (seqD S x).map fun xs => .int xs.length
  | _ => none
theorem cd_len {K : PySem.W.Frag} : CallD K (fun xs H Q => ∃ p ys, xs = [.ref p] ∧ (SqL K H p ys ∨ SqT K H p ys) ∧ Q (.int ys.length) H) cLen := by
  intro Z μ H S ds d vs Q W r e q
  unfold cLen at e
  split at e
  · rename_i x
    rw [Option.map_eq_some_iff] at e
    obtain ⟨xs, e1, rfl⟩ := e
    obtain ⟨v, rfl, rx⟩ := rvl1 r
    obtain ⟨a, ys, rfl, hs, hr⟩ := seq_of W rx e1
    refine ⟨a, ys, rfl, hs, ?_⟩
    rw [RVL.length hr]
    exact q _ H (Same.refl H) (rv_int.mpr rfl)
  · cases e
def cInt : Sto → List D → Option D := fun S ds => match ds with
  | [.int i] => some (.int i)
  | [.bl b] => some (.int (if b then 1 else 0))
  | _ => none
theorem cd_int {K : PySem.W.Frag} : CallD K (fun xs H Q => (∃ i, xs = [.int i] ∧ Q (.int i) H) ∨ ∃ k, xs = [.bl k] ∧ Q (.int (if k then 1 else 0)) H) cInt := by
  intro Z μ H S ds d vs Q W r e q
  unfold cInt at e
  split at e
  · cases e
    obtain ⟨v, rfl, rx⟩ := rvl1 r
    rw [rv_int.mp rx]
    exact .inl ⟨_, rfl, q _ H (Same.refl H) (rv_int.mpr rfl)⟩
  · cases e
    obtain ⟨v, rfl, rx⟩ := rvl1 r
    rw [rv_bl.mp rx]
    exact .inr ⟨_, rfl, q _ H (Same.refl H) (rv_int.mpr rfl)⟩
  · cases e
def cAbs : Sto → List D → Option D := fun S ds => match ds with
  | [.int i] => some (.int (if i < 0 then -i else i))
  | _ => none
theorem cd_abs {K : PySem.W.Frag} : CallD K (fun xs H Q => ∃ i, xs = [.int i] ∧ Q (.int (if i < 0 then -i else i)) H) cAbs := by
  intro Z μ H S ds d vs Q W r e q
  unfold cAbs at e
  split at e
  · cases e
    obtain ⟨v, rfl, rx⟩ := rvl1 r
    rw [rv_int.mp rx]
    exact ⟨_, rfl, q _ H (Same.refl H) (rv_int.mpr rfl)⟩
  · cases e
def cMax2 : Sto → List D → Option D := fun S ds => match ds with
  | [.int i, .int j] => some (.int (if j > i then j else i))
  | _ => none
theorem cd_max2 {K : PySem.W.Frag} : CallD K (fun xs H Q => ∃ i j, xs = [.int i, .int j] ∧ Q (.int (if j > i then j else i)) H) cMax2 := by
  intro Z μ H S ds d vs Q W r e q
  unfold cMax2 at e
  split at e
  · cases e
    obtain ⟨v, u, rfl, rx, ry⟩ := rvl2 r
    rw [rv_int.mp rx, rv_int.mp ry]
    exact ⟨_, _, rfl, q _ H (Same.refl H) (rv_int.mpr rfl)⟩
  · cases e
/-- the ints of a row -/
def intsD : List D → Option (List Int)
  | [] => some []
  | .int i :: ds => (intsD ds).map (i :: ·)
  | _ :: _ => none
theorem ints_eq : ∀ {ds : List D} {ns : List Int}, intsD ds = some ns → ds = ns.map .int
  | [], ns, h => by simp [intsD] at h; subst h; rfl
  | .int i :: ds, ns, h => by
    simp only [intsD, Option.map_eq_some_iff] at h
    obtain ⟨ms, h1, rfl⟩ := h
    rw [ints_eq h1]; rfl
  | .non :: _, _, h => by simp [intsD] at h
  | .bl _ :: _, _, h => by simp [intsD] at h
  | .str _ :: _, _, h => by simp [intsD] at h
  | .ty _ :: _, _, h => by simp [intsD] at h
  | .tup _ :: _, _, h => by simp [intsD] at h
  | .lst _ :: _, _, h => by simp [intsD] at h
  | .dic _ _ _ :: _, _, h => by simp [intsD] at h
  | .scr _ :: _, _, h => by simp [intsD] at h
  | .ref _ :: _, _, h => by simp [intsD] at h
theorem intsD_map (ns : List Int) : intsD (ns.map .int) = some ns := by
  induction ns with
  | nil => rfl
  | cons n ns ih => simp [intsD, ih]
def boolsD : List D → Option (List Bool)
  | [] => some []
  | .bl i :: ds => (boolsD ds).map (i :: ·)
  | _ :: _ => none
theorem bools_eq : ∀ {ds : List D} {ns : List Bool}, boolsD ds = some ns → ds = ns.map .bl
  | [], ns, h => by simp [boolsD] at h; subst h; rfl
  | .bl i :: ds, ns, h => by
    simp only [boolsD, Option.map_eq_some_iff] at h
    obtain ⟨ms, h1, rfl⟩ := h
    rw [bools_eq h1]; rfl
  | .non :: _, _, h => by simp [boolsD] at h
  | .int _ :: _, _, h => by simp [boolsD] at h
  | .str _ :: _, _, h => by simp [boolsD] at h
  | .ty _ :: _, _, h => by simp [boolsD] at h
  | .tup _ :: _, _, h => by simp [boolsD] at h
  | .lst _ :: _, _, h => by simp [boolsD] at h
  | .dic _ _ _ :: _, _, h => by simp [boolsD] at h
  | .scr _ :: _, _, h => by simp [boolsD] at h
  | .ref _ :: _, _, h => by simp [boolsD] at h
theorem boolsD_map (ns : List Bool) : boolsD (ns.map .bl) = some ns := by
  induction ns with
  | nil => rfl
  | cons n ns ih => simp [boolsD, ih]
theorem rvl_bools' {K : PySem.W.Frag} {av : Addr → Prop} {μ : List Addr} {H : Hp} : ∀ {ns : List Bool} {xs : List V}, RVL K av μ H (ns.map .bl) xs → xs = ns.map V.bl
  | [], xs, h => by simpa [rvl_nil] using h
  | n :: ns, xs, h => by
    simp only [List.map_cons, rvl_cons] at h
    obtain ⟨y, ys, rfl, h1, h2⟩ := h
    rw [rv_bl] at h1
    subst h1
    rw [rvl_bools' h2]; rfl
def cSum : Sto → List D → Option D := fun S ds => match ds with
  | [x] => (lstD S x).bind fun xs => (intsD xs).map fun ns => .int ns.sum
  | _ => none
theorem cd_sum {K : PySem.W.Frag} : CallD K (rSum K) cSum := by
  intro Z μ H S ds d vs Q W r e q
  unfold cSum at e
  split at e
  · simp only [Option.bind_eq_some_iff, Option.map_eq_some_iff] at e
    obtain ⟨xs, e1, ns, e2, rfl⟩ := e
    obtain ⟨v, rfl, rx⟩ := rvl1 r
    obtain ⟨a, ys, rfl, hs, hr⟩ := lst_of W rx e1
    rw [ints_eq e2] at hr
    rw [rvl_ints' hr] at hs
    exact ⟨a, ns, rfl, SqL.of hs, q _ H (Same.refl H) (rv_int.mpr rfl)⟩
  · cases e
def maxI : List Int → Option Int
  | [] => none
  | i :: is => some (is.foldl (fun a b => if b > a then b else a) i)
theorem foldl_max (is : List Int) : ∀ (i m : Int), (m = i ∨ m ∈ is) → i ≤ m → (∀ y ∈ is, y ≤ m) → is.foldl (fun a b => if b > a then b else a) i = m := by
  induction is with
  | nil => intro i m h1 h2 h3; simp at h1; simp [h1]
  | cons j is ih =>
    intro i m h1 h2 h3
    simp only [List.foldl_cons]
    have hj := h3 j List.mem_cons_self
    refine ih _ m ?_ ?_ fun y hy => h3 y (List.mem_cons_of_mem _ hy)
    · rcases h1 with h1 | h1
      · subst h1
        by_cases hc : j > m
        · omega
        · left; simp [hc]
      · rcases List.mem_cons.mp h1 with h1 | h1
        · subst h1
          left
          by_cases hc : m > i
          · simp [hc]
          · simp [hc]; omega
        · exact .inr h1
    · split <;> assumption
theorem maxI_of {ns : List Int} {m k : Int} (h : maxI ns = some k) (hm : m ∈ ns) (hy : ∀ y ∈ ns, y ≤ m) : m = k := by
  cases ns with
  | nil => simp at hm
  | cons i is =>
    simp only [maxI, Option.some.injEq] at h
    rw [← h]
    refine (foldl_max is i m ?_ (hy i List.mem_cons_self) fun y h => hy y (List.mem_cons_of_mem _ h)).symm
    exact List.mem_cons.mp hm
def minI (ns : List Int) : Option Int := (maxI (ns.map fun i => -i)).map fun i => -i
theorem minI_of {ns : List Int} {m k : Int} (h : minI ns = some k) (hm : m ∈ ns) (hy : ∀ y ∈ ns, m ≤ y) : m = k := by
  unfold minI at h
  rw [Option.map_eq_some_iff] at h
  obtain ⟨j, h1, rfl⟩ := h
  have := maxI_of (m := -m) h1 (List.mem_map.mpr ⟨m, hm, rfl⟩) fun y hy' => by
    obtain ⟨z, hz, rfl⟩ := List.mem_map.mp hy'
    have := hy z hz
    omega
  omega
def cMax : Sto → List D → Option D := fun S ds => match ds with
  | [x] => (lstD S x).bind fun xs => (intsD xs).bind fun ns => (maxI ns).map .int
  | _ => none
theorem cd_max {K : PySem.W.Frag} : CallD K (rMax K) cMax := by
  intro Z μ H S ds d vs Q W r e q
  unfold cMax at e
  split at e
  · simp only [Option.bind_eq_some_iff, Option.map_eq_some_iff] at e
    obtain ⟨xs, e1, ns, e2, k, e3, rfl⟩ := e
    obtain ⟨v, rfl, rx⟩ := rvl1 r
    obtain ⟨a, ys, rfl, hs, hr⟩ := lst_of W rx e1
    rw [ints_eq e2] at hr
    rw [rvl_ints' hr] at hs
    refine ⟨a, ns, rfl, SqL.of hs, ?_, fun m hm hy => ?_⟩
    · cases ns with
      | nil => simp [maxI] at e3
      | cons _ _ => simp
    · rw [maxI_of e3 hm hy]
      exact q _ H (Same.refl H) (rv_int.mpr rfl)
  · cases e
def cMin : Sto → List D → Option D := fun S ds => match ds with
  | [x] => (lstD S x).bind fun xs => (intsD xs).bind fun ns => (minI ns).map .int
  | _ => none
theorem cd_min {K : PySem.W.Frag} : CallD K (rMin K) cMin := by
  intro Z μ H S ds d vs Q W r e q
  unfold cMin at e
  split at e
  · simp only [Option.bind_eq_some_iff, Option.map_eq_some_iff] at e
    obtain ⟨xs, e1, ns, e2, k, e3, rfl⟩ := e
    obtain ⟨v, rfl, rx⟩ := rvl1 r
    obtain ⟨a, ys, rfl, hs, hr⟩ := lst_of W rx e1
    rw [ints_eq e2] at hr
    rw [rvl_ints' hr] at hs
    refine ⟨a, ns, rfl, SqL.of hs, ?_, fun m hm hy => ?_⟩
    · cases ns with
      | nil => simp [minI, maxI] at e3
      | cons _ _ => simp
    · rw [minI_of e3 hm hy]
      exact q _ H (Same.refl H) (rv_int.mpr rfl)
  · cases e
def cAny : Sto → List D → Option D := fun S ds => match ds with
  | [x] => (lstD S x).bind fun xs => (boolsD xs).map fun bs => .bl (bs.any id)
  | _ => none
def cAll : Sto → List D → Option D := fun S ds => match ds with
  | [x] => (lstD S x).bind fun xs => (boolsD xs).map fun bs => .bl (bs.all id)
  | _ => none
theorem cd_any {K : PySem.W.Frag} : CallD K (rAny K) cAny := by
  intro Z μ H S ds d vs Q W r e q
  unfold cAny at e
  split at e
  · simp only [Option.bind_eq_some_iff, Option.map_eq_some_iff] at e
    obtain ⟨xs, e1, ns, e2, rfl⟩ := e
    obtain ⟨v, rfl, rx⟩ := rvl1 r
    obtain ⟨a, ys, rfl, hs, hr⟩ := lst_of W rx e1
    rw [bools_eq e2] at hr
    rw [rvl_bools' hr] at hs
    exact ⟨a, ns, rfl, SqL.of hs, q _ H (Same.refl H) (rv_bl.mpr rfl)⟩
  · cases e
theorem cd_all {K : PySem.W.Frag} : CallD K (rAll K) cAll := by
  intro Z μ H S ds d vs Q W r e q
  unfold cAll at e
  split at e
  · simp only [Option.bind_eq_some_iff, Option.map_eq_some_iff] at e
    obtain ⟨xs, e1, ns, e2, rfl⟩ := e
    obtain ⟨v, rfl, rx⟩ := rvl1 r
    obtain ⟨a, ys, rfl, hs, hr⟩ := lst_of W rx e1
    rw [bools_eq e2] at hr
    rw [rvl_bools' hr] at hs
    exact ⟨a, ns, rfl, SqL.of hs, q _ H (Same.refl H) (rv_bl.mpr rfl)⟩
  · cases e
/-- list(xs): new -/
def cList : Sto → List D → Option (List D) := fun S ds => match ds with
  | [x] => seqD S x
  | _ => none
theorem cf_list {K : PySem.W.Frag} : CallF K (fun xs H Q => ∃ p ys, xs = [.ref p] ∧ (SqL K H p ys ∨ SqT K H p ys) ∧ ∀ l, H l = none → Q (.ref l) (upd H l (.lst ys))) cList := by
  intro Z μ H S ds es vs Q W r e q
  unfold cList at e
  split at e
  · obtain ⟨v, rfl, rx⟩ := rvl1 r
    obtain ⟨a, ys, rfl, hs, hr⟩ := seq_of W rx e
    refine ⟨a, ys, rfl, hs, fun l hl => ?_⟩
    have s : Same H (upd H l (.lst ys)) := fun c o z => by rw [upd_ne (ne_of_none z hl)]; exact z
    exact q l _ _ hl s upd_same (RVL.newO s hl hr)
  · cases e
/-- tuple(xs) -/
def cTuple : Sto → List D → Option D := fun S ds => match ds with
  | [x] => (seqD S x).map .tup
  | _ => none
theorem cd_tuple {K : PySem.W.Frag} : CallD K (fun xs H Q => ∃ p ys, xs = [.ref p] ∧ ((SqL K H p ys ∧ ∀ l, H l = none → Q (.ref l) (upd H l (.tup ys))) ∨ (SqT K H p ys ∧ Q (.ref p) H))) cTuple := by
  intro Z μ H S ds d vs Q W r e q
  unfold cTuple at e
  split at e
  · rw [Option.map_eq_some_iff] at e
    obtain ⟨xs, e1, rfl⟩ := e
    obtain ⟨v, rfl, rx⟩ := rvl1 r
    obtain ⟨a, ys, rfl, hs, hr⟩ := seq_ofH W rx e1
    refine ⟨a, ys, rfl, ?_⟩
    rcases hs with hs | hs
    · refine .inl ⟨hs, fun l hl => ?_⟩
      have s : Same H (upd H l (.tup ys)) := fun c o z => by rw [upd_ne (ne_of_none z hl)]; exact z
      exact q _ _ s (rv_tup.mpr ⟨l, ys, rfl, upd_same, RVL.mono s hr⟩)
    · exact .inr ⟨SqT.of hs, q _ H (Same.refl H) (rv_tup.mpr ⟨a, ys, rfl, hs, hr⟩)⟩
  · cases e
/-- isinstance(x, T), T a built-in class -/
def tyD : D → Option String
  | .non => some "NoneType"
  | .bl _ => some "bool"
  | .int _ => some "int"
  | .str _ => some "str"
  | .tup _ => some "tuple"
  | .lst _ => some "list"
  | .dic false _ _ => some "dict"
  | _ => none
def cIsi : Sto → List D → Option D := fun _ ds => match ds with
  | [x, .ty t] => (tyD x).bind fun s => (kitB s t).map .bl
  | _ => none
theorem cd_isi {K : PySem.W.Frag} : CallD K (rIsi K) cIsi := by
  intro Z μ H S ds d vs Q W r e q
  unfold cIsi at e
  split at e
  · rename_i x t
    simp only [Option.bind_eq_some_iff, Option.map_eq_some_iff] at e
    obtain ⟨s, e1, b, e2, rfl⟩ := e
    obtain ⟨v, u, rfl, rx, ry⟩ := rvl2 r
    rw [rv_ty.mp ry]
    have ty : TyX K H v (.type s) := by
      cases x with
      | non => rw [rv_non.mp rx]; simp only [tyD, Option.some.injEq] at e1; subst e1; exact .base .non
      | bl _ => rw [rv_bl.mp rx]; simp only [tyD, Option.some.injEq] at e1; subst e1; exact .base (.bl _)
      | int _ => rw [rv_int.mp rx]; simp only [tyD, Option.some.injEq] at e1; subst e1; exact .base (.int _)
      | str _ => rw [rv_str.mp rx]; simp only [tyD, Option.some.injEq] at e1; subst e1; exact .base (.str _)
      | tup ds =>
        simp only [tyD, Option.some.injEq] at e1; subst e1
        obtain ⟨a, xs, rfl, hs, _⟩ := rv_tup.mp rx
        exact .base (.tup hs)
      | lst ds =>
        simp only [tyD, Option.some.injEq] at e1; subst e1
        obtain ⟨a, xs, rfl, hs, _⟩ := rv_lst.mp rx
        exact .base (.lst hs)
      | dic t ks vs =>
        cases t with
        | true => simp [tyD] at e1
        | false =>
          simp only [tyD, Option.some.injEq] at e1; subst e1
          obtain ⟨a, rfl, _, hh⟩ := rv_dic.mp rx
          rcases hh with ⟨_, kvs, h1, _⟩ | ⟨z, _⟩
          · exact .base (.dK h1)
          · cases z
      | _ => simp [tyD] at e1
    exact ⟨v, .ty t, _, _, b, rfl, .ty t, ty, kit_ty e2, q _ H (Same.refl H) (rv_bl.mpr rfl)⟩
  · cases e
end
end DL

set_option maxHeartbeats 4000000
/-! enumerate over a tuple -/
namespace DL
open PySem PySem.Spec
section
theorem meets_enumerate_newT (l : Addr) (items : Array Value) :
    Meets (Builtin.«enumerate.__new__» ⟨[.type "enumerate", .ref l], []⟩) (fun _ R s => s.heap.IsTuple l items ∧
      R (.ok (.ret (.ref (s.heap.push { cls := .type "tuple_iterator", data := .fields #[.ref l, .int 0 0] }).objs.size)))
        { s with heap := (s.heap.push { cls := .type "tuple_iterator", data := .fields #[.ref l, .int 0 0] }).push { cls := .type "enumerate", data := .fields #[.none, .bool false, .ref s.heap.objs.size, rawInt 0, .none, .none] } }) :=
  .of_wp fun prog w A R s h => by
    obtain ⟨hp, g, d, tk, os⟩ := s; obtain ⟨hL, h⟩ := h
    have hsub := sub_enumerate
    wp_walk
    refine wpAny_stack_any fun st => wpAny_pure ?_
    split
    · rename_i c _ _ _ _ _
      cases (c == Value.type "enumerate")
      · wp_walk using wpAny_pyIter_tuple hL
        exact ⟨_, rfl, h⟩
      · wp_walk using wpAny_pyIter_tuple hL
        exact ⟨_, rfl, h⟩
    · wp_walk using wpAny_pyIter_tuple hL
      exact ⟨_, rfl, h⟩
variable {prog : Program} {w : World} {A : Around} {E : Value → Shared → Prop} {s : Shared}
theorem call_enumerate_tup {l : Addr} {items : Array Value} {Q : Value → Shared → Prop} (hL : s.heap.IsTuple l items)
    (h : ∀ h', IsEnum h' (s.heap.objs.size + 1) s.heap.objs.size 0 .none → h'.IsTupleIter s.heap.objs.size l 0 → h'.objs.size = s.heap.objs.size + 2 →
      (∀ b o, s.heap.get? b = some o → h'.get? b = some o) → Q (.ref (s.heap.objs.size + 1)) { s with heap := h' }) :
    wpAny (model prog w) A (call (.type "enumerate") [.ref l]) Q E s := by
  refine callType_new F.called_enumerate (by decide) (F.typeCall_enumerate_1 _) (F.newCall_enumerate_1 _) (fun obj => F.args_object_init_2 obj _) F.entry_enumerate_new
    (meets_enumerate_newT l items) ⟨hL, ?_⟩
  have hz : (s.heap.push { cls := .type "tuple_iterator", data := .fields #[.ref l, .int 0 0] }).objs.size = s.heap.objs.size + 1 := Heap.size_push ..
  show _ ∧ _
  rw [hz]
  have he : IsEnum ((s.heap.push { cls := .type "tuple_iterator", data := .fields #[.ref l, .int 0 0] }).push
      { cls := .type "enumerate", data := .fields #[.none, .bool false, .ref s.heap.objs.size, rawInt 0, .none, .none] }) (s.heap.objs.size + 1) s.heap.objs.size 0 .none := by
    have := Heap.get?_push_size (s.heap.push { cls := .type "tuple_iterator", data := .fields #[.ref l, .int 0 0] })
      (o := { cls := .type "enumerate", data := .fields #[.none, .bool false, .ref s.heap.objs.size, rawInt 0, .none, .none] }) rfl
    rw [hz] at this; exact this
  refine ⟨⟨_, he, rfl⟩, h _ he ⟨_, Heap.get?_push_of_some _ (Heap.get?_push_size _ rfl), rfl, rfl⟩ (by rw [Heap.size_push, hz]) fun b o x => Heap.get?_push_of_some _ (Heap.get?_push_of_some _ x)⟩
end
end DL
namespace DL
open PySem PySem.Spec PyProof.Rows L2
def IteT (K : PySem.W.Frag) (a : Addr) : It :=
  ⟨fun i H => ∃ (xs : List V) (x : V), SqT K H a xs ∧ xs[i]? = some x, fun i H v H' => ∃ T x, v = .ref T ∧ H T = none ∧ H' = upd H T (.tup [.int (i : Nat), x]) ∧ ∀ xs, SqT K H a xs → xs[i]? = some x, fun i H => ∃ xs : List V, SqT K H a xs ∧ xs.length ≤ i⟩
theorem turn_enumT {P : Program} {w : World} {K : PySem.W.Frag} {elts : List Expr} {kk : Nat} {tpos : Pos} (a e it : Addr) :
    Turn P w K (.Tuple elts kk tpos) (IteT K a) [e, it] e (fun i h => (∃ old, IsEnum h e it ((i : Nat) : Int) old) ∧ h.IsTupleIter it a i ∧ e ≠ it) where
  mem := by simp
  obj := fun i h st b hb => by
    obtain ⟨⟨old, he⟩, ⟨o, ho, hc, hd⟩, _⟩ := st
    have e' : b = e ∨ b = it := by simpa using hb
    rcases e' with z | z
    · rw [z]; exact ⟨_, he, fun v q => nomatch q⟩
    · rw [z]; exact ⟨o, ho, fun v q => by rw [hd] at q; cases q⟩
  keep := fun i h h' st k => let ⟨⟨old, he⟩, hi, hne⟩ := st; ⟨⟨old, k e (by simp) _ he⟩, hi.at fun o q => k it (by simp) o q, hne⟩
  item := by
    intro X hP hw hK hc i pins s σ H E I hf st hg
    subst hP hw hK
    obtain ⟨⟨old, he⟩, hit, hne⟩ := st
    obtain ⟨xs, x, hq, hx⟩ := hg
    obtain ⟨its, rv, p, hz⟩ := I.tuple hq
    obtain ⟨u, hu, ru⟩ := rv.get hx
    have hel : e < s.heap.objs.size := Heap.lt_size he
    have hil : it < s.heap.objs.size := by obtain ⟨_, q, _⟩ := hit; exact Heap.lt_size q
    have hai : a ≠ it := by
      rintro rfl
      obtain ⟨o1, h1, c1, _⟩ := hit
      obtain ⟨o2, h2, c2, _⟩ := p
      rw [h1] at h2; cases h2
      rw [c1] at c2
      exact absurd (Value.type.inj c2) (by decide)
    have hea : e ≠ a := by
      rintro rfl
      obtain ⟨o2, h2, c2, _⟩ := p
      rw [he] at h2; cases h2
      exact absurd (Value.type.inj c2) (by decide)
    have hil' : i < its.toArray.size := by
      have := (List.getElem?_eq_some_iff.mp hu).1
      simpa using this
    refine wpAny_pyNext_enum_itemD (Draws.tuple (prog := X.prog) (w := X.w) (A := X.A.in1) (I.ok.hd hc) it a hai its.toArray) he ⟨hit, (show s.heap.IsTuple a its.toArray from p)⟩ hil' hne (by simp [hne, hea]) fun y h' tk hP ho hit' hT hsz hk => ?_
    have hy : y = u := by
      have : its.toArray[i]? = some u := by simpa using hu
      rw [this] at hP
      exact (Option.some.inj hP).symm
    subst hy
    refine ⟨_, rfl, wpAny_letOwnedTupleGo_enum (s := { s with heap := h', toks := tk + 1 }) ho fun h'' he' sb => ?_⟩
    have hT2 : h''.get? s.heap.objs.size = some { cls := .type "tuple", data := .seq #[.int i tk, y] } := (sb.2 _ (Nat.ne_of_gt hel)).trans hT
    have new : ObjOk X.prog X.w (upd H s.heap.objs.size (.tup [.int (i : Nat), x])) h'' s.heap.objs.size (.tup [.int (i : Nat), x]) :=
      ⟨by show 2 ≤ sizeLine; decide, [.int i tk, y], .cons ⟨_, rfl⟩ (.cons ru .nil), ⟨_, hT2, rfl, _, rfl⟩⟩
    have I1 : Inv X pins σ (upd H s.heap.objs.size (.tup [.int (i : Nat), x])) { s with heap := h'', toks := tk + 1 } :=
      I.turnedNew (ch := [e, it]) (fun b ob hb q => (sb.2 b (fun z => hb (by simp [z]))).trans (hk b ob (fun z => hb (by simp [z])) (fun z => hb (by simp [z])) q)) hf (Nat.le_refl _) new
    refine ⟨.ref s.heap.objs.size, _, I1, rfl, ⟨_, x, rfl, I.hok.fresh (Nat.le_refl _), rfl, fun ys hy => by rw [I.tuple_inj hy hq]; exact hx⟩, ⟨⟨y, ?_⟩, hit'.1.at fun o q => (sb.2 it (Ne.symm hne)).trans q, hne⟩, fun b hb => ?_⟩
    · have e1 : ((i + 1 : Nat) : Int) = (i : Int) + 1 := by omega
      rw [e1]; exact he'
    · have hb' : b < s.heap.objs.size := by
        have e' : b = e ∨ b = it := by simpa using hb
        rcases e' with z | z
        · rw [z]; exact hel
        · rw [z]; exact hil
      rw [upd_ne (Nat.ne_of_lt hb')]
      exact (hf b hb).1
  done := by
    intro X hP hw hK hc i pins s σ H E I hf st hg
    subst hP hw hK
    obtain ⟨⟨old, he⟩, hit, hne⟩ := st
    obtain ⟨xs, hq, hx⟩ := hg
    obtain ⟨its, rv, p, hz⟩ := I.tuple hq
    obtain ⟨f0, f1, f2, f3, f4, f5⟩ := hf it (by simp)
    have hl := rv.length
    have hT : s.TypeIs (.ref e) "enumerate" := ⟨_, he, rfl⟩
    unfold pyNext
    refine wpAny_bind (wpAny_attempt (wpAny_callSpecial?_slot (name := Str.ofString "__next__") hT F.slot_enumerate_next
      (wpAny_call_entry F.slot_enumerate_next hT F.entry_enumerate_next ?_ (F.args_enumerate_next_1 _))))
    show wpAny _ _ (field (.ref e) 2 >>= _) _ _ _
    refine wpAny_bind (wpAny_field he rfl (x := .ref it) rfl ?_)
    refine wpAny_bind (wpAny_nextOf_tuple_end (I.ok.hd hc) hit (show s.heap.IsTuple a its.toArray from p) (by simp; omega) fun h' x he' hx' => ?_)
    obtain ⟨o, ho, hc⟩ := hx'
    refine wpAny_bind (wpAny_isInstance (T := "StopIteration") (b := true) ⟨o, ho, hc⟩ isSubtype_stop ?_)
    exact wpAny_pure ⟨rfl, I.turned (t' := s.toks) (fun b o hb q => he' b o hb q) f0 f1 f3 f4 f5⟩
  self := fun A i s Q E st h => let ⟨⟨_, he⟩, _⟩ := st; wpAny_pyIter_enum he h
def iEnumA (K : PySem.W.Frag) (ta : TA) : TI := fun σ H R => ta σ H fun vs H1 => ∃ a xs, vs = [.ref a] ∧ ((SqL K H1 a xs ∧ R (Ite K a) H1) ∨ (SqT K H1 a xs ∧ R (IteT K a) H1))
theorem pi_enumA {X : Cx} {e : Expr} {ta : TA} {p pos tpos : Pos} {elts : List Expr} {kk : Nat} (hg : Gl X "enumerate") (hm : X.mg "enumerate" = none) (ha : PA X [e] ta) (hs : starEach [e] X.env = [(false, eval e X.env)] := by rfl) :
    PI X (.Tuple elts kk tpos) (.Call (.Name "enumerate" p) [e] [] pos) (iEnumA X.K ta) := by
  refine ⟨fun pins s σ H R I h => ?_⟩
  refine Call_ (ld_blt I hg hm boot_enumerate (PyProof.Rows.callWith_type1 (thn (ha.run pos pins s σ H _ I h) fun us s1 ⟨vs, H1, I1, r1, q1⟩ => ?_) hs rfl))
  obtain ⟨a, xs, ex, q1⟩ := q1
  subst ex
  cases r1 with
  | cons r rr =>
    cases rr
    cases r
    have fresh : ∀ b ∈ [s1.heap.objs.size + 1, s1.heap.objs.size], FpOk X pins H1 b := fun b hb => by
      have e' : b = s1.heap.objs.size + 1 ∨ b = s1.heap.objs.size := by simpa using hb
      have hle : s1.heap.objs.size ≤ b := by
        rcases e' with z | z
        · rw [z]; exact Nat.le_add_right _ _
        · rw [z]; exact Nat.le_refl _
      exact I1.fpOk hle (I1.hok.fresh hle)
    rcases q1 with ⟨hq, q⟩ | ⟨hq, q⟩
    · obtain ⟨its, rv, p', hz⟩ := I1.list hq
      refine call_enumerate_list p'.isList fun h' he hit hsz hk => wpAny_pyIter_enum he ?_
      have I2 : Inv X pins σ H1 { s1 with heap := h' } := I1.kept (t' := s1.toks) hk
      exact ⟨s1.heap.objs.size + 1, [s1.heap.objs.size + 1, s1.heap.objs.size], _, _, H1, rfl, I2, turn_enum a (s1.heap.objs.size + 1) s1.heap.objs.size, ⟨⟨.none, he⟩, hit, Nat.succ_ne_self _⟩, fresh, q⟩
    · obtain ⟨its, rv, p', hz⟩ := I1.tuple hq
      refine call_enumerate_tup (show s1.heap.IsTuple a its.toArray from p') fun h' he hit hsz hk => wpAny_pyIter_enum he ?_
      have I2 : Inv X pins σ H1 { s1 with heap := h' } := I1.kept (t' := s1.toks) hk
      exact ⟨s1.heap.objs.size + 1, [s1.heap.objs.size + 1, s1.heap.objs.size], _, _, H1, rfl, I2, turn_enumT a (s1.heap.objs.size + 1) s1.heap.objs.size, ⟨⟨.none, he⟩, hit, Nat.succ_ne_self _⟩, fresh, q⟩
/-- a list or a tuple walked -/
def iSeq (K : PySem.W.Frag) (tl : TE) : TI := fun σ H R => tl σ H fun x H1 => ∃ a xs, x = .ref a ∧ ((SqL K H1 a xs ∧ R (Itl K a) H1) ∨ (SqT K H1 a xs ∧ R (Itt K a) H1))
theorem pi_seq {X : Cx} {tg l : Expr} {tl : TE} (hl : PE X l tl) : PI X tg l (iSeq X.K tl) := by
  refine ⟨fun pins s σ H R I h => ?_⟩
  refine thn (hl.run pins s σ H _ I h) fun v s1 ⟨x, H1, I1, r1, q1⟩ => ?_
  obtain ⟨a, xs, e, q⟩ := q1
  subst e
  cases r1
  have fresh : ∀ b ∈ [s1.heap.objs.size], FpOk X pins H1 b := fun b hb => by
    have e : b = s1.heap.objs.size := by simpa using hb
    subst e
    exact I1.fpOk (Nat.le_refl _) (I1.hok.fresh (Nat.le_refl _))
  rcases q with ⟨hq, q⟩ | ⟨hq, q⟩
  · obtain ⟨its, rv, p, hz⟩ := I1.list hq
    refine wpAny_pyIter_list p.isList ?_
    exact ⟨s1.heap.objs.size, [s1.heap.objs.size], _, _, H1, rfl, I1.kept (t' := s1.toks) fun b o e => Heap.get?_push_of_some _ e, turn_list a _, ⟨_, Heap.get?_push_size _ rfl, rfl, rfl⟩, fresh, q⟩
  · obtain ⟨its, rv, p, hz⟩ := I1.tuple hq
    refine wpAny_pyIter_tuple (show s1.heap.IsTuple a its.toArray from p) ?_
    exact ⟨s1.heap.objs.size, [s1.heap.objs.size], _, _, H1, rfl, I1.kept (t' := s1.toks) fun b o e => Heap.get?_push_of_some _ e, turn_tuple a _, ⟨_, Heap.get?_push_size _ rfl, rfl, rfl⟩, fresh, q⟩
end DL

namespace DL
open PySem PySem.Spec L2
/-! ### what a loop walks, as data -/
/-- J yields ds, from H1 on, whatever becomes of what P says -/
def ItD (K : PySem.W.Frag) (Z : Fr) (μ : List Addr) (P : Addr → Prop) (J : It) (H1 : Hp) (ds : List D) : Prop :=
  ∀ i H', (∀ a o, H1 a = some o → ¬ P a → H' a = some o) →
    (∀ d, ds[i]? = some d → J.go i H' ∧ ∀ x H'', J.yld i H' x H'' → Same H' H'' ∧ RV K (fun a => avd Z μ a ∨ H1 a = none) μ H'' d x) ∧ (ds.length ≤ i → J.stop i H')
/-- for a loop: what the loop changes are cells; for a comprehension: nothing changes -/
def tI (K : PySem.W.Frag) (f : EL) : TI := fun σ H R => ∃ Z μ ρ S, Rel K Z μ σ H ρ S ∧ ∃ ds, f ρ S = some ds ∧ ∀ J H1, Same H H1 → ItD K Z μ (fun a => a ∈ μ) J H1 ds → R J H1
def tJ (K : PySem.W.Frag) (f : EL) : TI := fun σ H R => ∃ Z μ ρ S, Rel K Z μ σ H ρ S ∧ ∃ ds, f ρ S = some ds ∧ ∀ J H1, Same H H1 → ItD K Z μ (fun _ => False) J H1 ds → R J H1
section
variable {X : Cx} {e : Expr} {tg : Expr} {fa : E}
theorem dj_of {f : EL} (h : PI X tg e (tI X.K f)) : PI X tg e (tJ X.K f) := pi_imp h fun σ H R ⟨Z, μ, ρ, S, Rl, ds, ef, q⟩ =>
  ⟨Z, μ, ρ, S, Rl, ds, ef, fun J H1 s it => q J H1 s fun i H' k => it i H' fun a o h1 _ => k a o h1 fun z => z⟩
section
variable {K : PySem.W.Frag} {Z : Fr} {μ : List Addr} {H1 H' : Hp} {S : Sto} {P : Addr → Prop}
/-- items that stand at H1 are old -/
theorem RVL.old {ds : List D} {xs : List V} (h : RVLz K Z μ H1 ds xs) : RVL K (fun a => avd Z μ a ∨ H1 a = none) μ H1 ds xs :=
  RVL.tr (fun a o e hn => ⟨e, fun m q => by
    rcases q with q | q
    · exact hn m q
    · rw [q] at e; cases e⟩) (fun _ _ e => e) ds xs h
theorem RV.keepP (W : Wd K Z μ H1 S) (hP : ∀ a, P a → a ∈ μ) (k : ∀ a o, H1 a = some o → ¬ P a → H' a = some o) {d : D} {v : V}
    (h : RV K (fun a => avd Z μ a ∨ H1 a = none) μ H1 d v) : RV K (fun a => avd Z μ a ∨ H1 a = none) μ H' d v :=
  RV.tr (fun a o e hn => ⟨k a o e fun p => by
    obtain ⟨u, e', m⟩ := W.mem (hP a p)
    rw [e] at e'; cases e'
    exact hn m (.inl (.inr (hP a p))), hn⟩) (fun _ _ e => e) d v h
theorem notP_tup (W : Wd K Z μ H1 S) (hP : ∀ a, P a → a ∈ μ) {a : Addr} {o : HO} (h : H1 a = some o) (m : isMut o = false) : ¬ P a := fun p => by
  obtain ⟨u, e', m'⟩ := W.mem (hP a p)
  rw [h] at e'; cases e'
  rw [m] at m'; cases m'
theorem sqT_keep (W : Wd K Z μ H1 S) (hP : ∀ a, P a → a ∈ μ) (k : ∀ a o, H1 a = some o → ¬ P a → H' a = some o) {a : Addr} {xs : List V} (h : SqT K H1 a xs) : SqT K H' a xs := by
  rcases h with (h | ⟨o, h⟩) | h
  · exact .inl (.inl (k a _ h (notP_tup W hP h rfl)))
  · exact .inl (.inr ⟨o, k a _ h (notP_tup W hP h rfl)⟩)
  · exact .inr h
theorem itD_list {a : Addr} {xs : List V} {ds : List D} (W : Wd K Z μ H1 S) (hP : ∀ a, P a → a ∈ μ) (hs : ∀ H', (∀ a o, H1 a = some o → ¬ P a → H' a = some o) → SqL K H' a xs) (hr : RVLz K Z μ H1 ds xs) : ItD K Z μ P (Itl K a) H1 ds := by
  intro i H' k
  have q := hs H' k
  refine ⟨fun d hd => ?_, fun hl => ⟨xs, q, by rw [RVL.length hr]; exact hl⟩⟩
  obtain ⟨v, hv, rv⟩ := RVL.get hr.old hd
  exact ⟨⟨xs, v, q, hv⟩, fun x H'' ⟨e, y⟩ => by
    subst e
    have := y xs q
    rw [hv] at this; cases this
    exact ⟨Same.refl _, RV.keepP W hP k rv⟩⟩
theorem itD_tup {a : Addr} {xs : List V} {ds : List D} (W : Wd K Z μ H1 S) (hP : ∀ a, P a → a ∈ μ) (hs : SqT K H1 a xs) (hr : RVLz K Z μ H1 ds xs) : ItD K Z μ P (Itt K a) H1 ds := by
  intro i H' k
  have q := sqT_keep W hP k hs
  refine ⟨fun d hd => ?_, fun hl => ⟨xs, q, by rw [RVL.length hr]; exact hl⟩⟩
  obtain ⟨v, hv, rv⟩ := RVL.get hr.old hd
  exact ⟨⟨xs, v, q, hv⟩, fun x H'' ⟨e, y⟩ => by
    subst e
    have := y xs q
    rw [hv] at this; cases this
    exact ⟨Same.refl _, RV.keepP W hP k rv⟩⟩
def enumD (ds : List D) : List D := ds.mapIdx fun i d => .tup [.int (i : Nat), d]
theorem enumD_get {ds : List D} {i : Nat} {e : D} (h : (enumD ds)[i]? = some e) : ∃ d, ds[i]? = some d ∧ e = .tup [.int (i : Nat), d] := by
  unfold enumD at h
  rw [List.getElem?_mapIdx] at h
  rw [Option.map_eq_some_iff] at h
  obtain ⟨d, h1, h2⟩ := h
  exact ⟨d, h1, h2.symm⟩
theorem new_pair {T : Addr} {x y : V} {d e : D} {H : Hp} {av : Addr → Prop} (n : H T = none) (h1 : RV K av μ H d x) (h2 : RV K av μ H e y) : Same H (upd H T (.tup [x, y])) ∧ RV K av μ (upd H T (.tup [x, y])) (.tup [d, e]) (.ref T) := by
  have s : Same H (upd H T (.tup [x, y])) := fun c o z => by rw [upd_ne (ne_of_none z n)]; exact z
  have tr : ∀ {d v}, RV K av μ H d v → RV K av μ (upd H T (.tup [x, y])) d v := fun {d v} r => RV.tr (fun a o e hn => ⟨s a o e, hn⟩) (fun _ _ e => e) d v r
  exact ⟨s, rv_tup.mpr ⟨T, _, rfl, upd_same, RVL.cons' (tr h1) (RVL.one (tr h2))⟩⟩
theorem itD_enumL {a : Addr} {xs : List V} {ds : List D} (W : Wd K Z μ H1 S) (hP : ∀ a, P a → a ∈ μ) (hs : ∀ H', (∀ a o, H1 a = some o → ¬ P a → H' a = some o) → SqL K H' a xs) (hr : RVLz K Z μ H1 ds xs) : ItD K Z μ P (Ite K a) H1 (enumD ds) := by
  intro i H' k
  have q := hs H' k
  refine ⟨fun e he => ?_, fun hl => ⟨xs, q, by rw [RVL.length hr]; simpa [enumD] using hl⟩⟩
  obtain ⟨d, hd, rfl⟩ := enumD_get he
  obtain ⟨v, hv, rv⟩ := RVL.get hr.old hd
  exact ⟨⟨xs, v, q, hv⟩, fun x H'' ⟨T, y, e1, n, e2, hy⟩ => by
    subst e1 e2
    have := hy xs q
    rw [hv] at this; cases this
    exact new_pair n (rv_int.mpr rfl) (RV.keepP W hP k rv)⟩
theorem itD_enumT {a : Addr} {xs : List V} {ds : List D} (W : Wd K Z μ H1 S) (hP : ∀ a, P a → a ∈ μ) (hs : SqT K H1 a xs) (hr : RVLz K Z μ H1 ds xs) : ItD K Z μ P (IteT K a) H1 (enumD ds) := by
  intro i H' k
  have q := sqT_keep W hP k hs
  refine ⟨fun e he => ?_, fun hl => ⟨xs, q, by rw [RVL.length hr]; simpa [enumD] using hl⟩⟩
  obtain ⟨d, hd, rfl⟩ := enumD_get he
  obtain ⟨v, hv, rv⟩ := RVL.get hr.old hd
  exact ⟨⟨xs, v, q, hv⟩, fun x H'' ⟨T, y, e1, n, e2, hy⟩ => by
    subst e1 e2
    have := hy xs q
    rw [hv] at this; cases this
    exact new_pair n (rv_int.mpr rfl) (RV.keepP W hP k rv)⟩
def zipD (ds es : List D) : List D := List.zipWith (fun d e => .tup [d, e]) ds es
theorem zipD_get : ∀ {ds es : List D} {i : Nat} {z : D}, (zipD ds es)[i]? = some z → ∃ d e, ds[i]? = some d ∧ es[i]? = some e ∧ z = .tup [d, e]
  | [], _, _, _, h => by simp [zipD] at h
  | _ :: _, [], _, _, h => by simp [zipD] at h
  | d :: ds, e :: es, 0, z, h => by
    simp [zipD] at h
    exact ⟨d, e, rfl, rfl, h.symm⟩
  | d :: ds, e :: es, i + 1, z, h => by
    have h' : (zipD ds es)[i]? = some z := by simpa [zipD] using h
    obtain ⟨d', e', h1, h2, h3⟩ := zipD_get h'
    exact ⟨d', e', by simpa using h1, by simpa using h2, h3⟩
theorem zipD_len {ds es : List D} : (zipD ds es).length = min ds.length es.length := by simp [zipD]
theorem itD_zipL {a b : Addr} {xs ys : List V} {ds es : List D} (W : Wd K Z μ H1 S) (hP : ∀ a, P a → a ∈ μ) (hs : ∀ H', (∀ a o, H1 a = some o → ¬ P a → H' a = some o) → SqL K H' a xs) (hs2 : ∀ H', (∀ a o, H1 a = some o → ¬ P a → H' a = some o) → SqL K H' b ys)
    (hr : RVLz K Z μ H1 ds xs) (hr2 : RVLz K Z μ H1 es ys) : ItD K Z μ P (Itz K a b) H1 (zipD ds es) := by
  intro i H' k
  have q := hs H' k
  have q2 := hs2 H' k
  refine ⟨fun z hz => ?_, fun hl => ⟨xs, ys, q, q2, ?_⟩⟩
  · obtain ⟨d, e, hd, he, rfl⟩ := zipD_get hz
    obtain ⟨v, hv, rv⟩ := RVL.get hr.old hd
    obtain ⟨u, hu, ru⟩ := RVL.get hr2.old he
    exact ⟨⟨xs, ys, v, u, q, q2, hv, hu⟩, fun x H'' ⟨T, y1, y2, e1, n, e2, h1, h2⟩ => by
      subst e1 e2
      have t1 := h1 xs q
      rw [hv] at t1; cases t1
      have t2 := h2 ys q2
      rw [hu] at t2; cases t2
      exact new_pair n (RV.keepP W hP k rv) (RV.keepP W hP k ru)⟩
  · rw [RVL.length hr, RVL.length hr2]
    rw [zipD_len] at hl
    omega
theorem itD_zipT {a b : Addr} {xs ys : List V} {ds es : List D} (W : Wd K Z μ H1 S) (hP : ∀ a, P a → a ∈ μ) (hs : SqT K H1 a xs) (hs2 : SqT K H1 b ys)
    (hr : RVLz K Z μ H1 ds xs) (hr2 : RVLz K Z μ H1 es ys) : ItD K Z μ P (RZ.ItzT K a b) H1 (zipD ds es) := by
  intro i H' k
  have q := sqT_keep W hP k hs
  have q2 := sqT_keep W hP k hs2
  refine ⟨fun z hz => ?_, fun hl => ⟨xs, ys, q, q2, ?_⟩⟩
  · obtain ⟨d, e, hd, he, rfl⟩ := zipD_get hz
    obtain ⟨v, hv, rv⟩ := RVL.get hr.old hd
    obtain ⟨u, hu, ru⟩ := RVL.get hr2.old he
    exact ⟨⟨xs, ys, v, u, q, q2, hv, hu⟩, fun x H'' ⟨T, y1, y2, e1, n, e2, h1, h2⟩ => by
      subst e1 e2
      have t1 := h1 xs q
      rw [hv] at t1; cases t1
      have t2 := h2 ys q2
      rw [hu] at t2; cases t2
      exact new_pair n (RV.keepP W hP k rv) (RV.keepP W hP k ru)⟩
  · rw [RVL.length hr, RVL.length hr2]
    rw [zipD_len] at hl
    omega
/-- lo, lo + c, .. -/
def rngD (lo c : Int) (n : Nat) : List D := (List.range n).map fun (k : Nat) => .int (lo + (k : Int) * c)
theorem rngD_get {lo c : Int} {n i : Nat} {d : D} (h : (rngD lo c n)[i]? = some d) : i < n ∧ d = .int (lo + (i : Int) * c) := by
  unfold rngD at h
  rw [List.getElem?_map, Option.map_eq_some_iff] at h
  obtain ⟨k, h1, h2⟩ := h
  obtain ⟨h3, h4⟩ := List.getElem?_eq_some_iff.mp h1
  rw [List.getElem_range] at h4
  subst h4
  exact ⟨by simpa using h3, h2.symm⟩
theorem itD_rng {lo : Int} {n : Nat} : ItD K Z μ P (Itr lo n) H1 (rngD lo 1 n) := by
  intro i H' k
  refine ⟨fun d hd => ?_, fun hl => by
    have q : n ≤ i := by simpa [rngD] using hl
    exact q⟩
  obtain ⟨hi, rfl⟩ := rngD_get hd
  exact ⟨hi, fun x H'' ⟨e, y⟩ => by
    subst e y
    exact ⟨Same.refl _, rv_int.mpr (by rw [Int.mul_one])⟩⟩
theorem itD_rngC {lo c : Int} {n : Nat} : ItD K Z μ P (Itc lo c n) H1 (rngD lo c n) := by
  intro i H' k
  refine ⟨fun d hd => ?_, fun hl => by
    have q : n ≤ i := by simpa [rngD] using hl
    exact q⟩
  obtain ⟨hi, rfl⟩ := rngD_get hd
  exact ⟨hi, fun x H'' ⟨e, y⟩ => by
    subst e y
    exact ⟨Same.refl _, rv_int.mpr rfl⟩⟩
end

/-- a sequence that stays as it is -/
def seqV : D → Option (List D)
  | .tup ds => some ds
  | .lst ds => some ds
  | .scr ns => some (ns.map .int)
  | _ => none
theorem seqV_D {S : Sto} {d : D} {ds : List D} (h : seqV d = some ds) : seqD S d = some ds := by
  cases d <;> simp [seqV] at h <;> simp [seqD, h]
section
variable {K : PySem.W.Frag} {Z : Fr} {μ : List Addr} {H1 H' : Hp} {S : Sto}
theorem seqV_of {d : D} {ds : List D} {v : V} (W : Wd K Z μ H1 S) (r : RVz K Z μ H1 d v) (h : seqV d = some ds) :
    ∃ a xs, v = .ref a ∧ ((∀ H', (∀ a o, H1 a = some o → ¬ a ∈ μ → H' a = some o) → SqL K H' a xs) ∨ SqT K H1 a xs) ∧ RVLz K Z μ H1 ds xs := by
  cases d with
  | tup es =>
    simp only [seqV, Option.some.injEq] at h; subst h
    obtain ⟨a, xs, e, h1, h2⟩ := rv_tup.mp r
    exact ⟨a, xs, e, .inr (SqT.of h1), h2⟩
  | lst es =>
    simp only [seqV, Option.some.injEq] at h; subst h
    obtain ⟨a, xs, e, h1, n, h2⟩ := rv_lst.mp r
    exact ⟨a, xs, e, .inl fun H' k => SqL.of (k a _ h1 fun m => n (.inr m)), h2⟩
  | scr ns =>
    simp only [seqV, Option.some.injEq] at h; subst h
    obtain ⟨a, e, h1⟩ := rv_scr.mp r
    refine ⟨a, _, e, .inl fun H' k => ?_, rvl_ints ns⟩
    rcases h1 with ⟨o, h1⟩ | h1
    · exact .inl (.inr ⟨o, k a _ h1 fun m => by
        obtain ⟨u, e', m'⟩ := W.mem m
        rw [h1] at e'; cases e'; cases m'⟩)
    · exact h1 H'
  | _ => simp [seqV] at h
end
def iSeqD (f : E) : EL := fun ρ S => (f ρ S).bind seqV
def jSeqD (f : E) : EL := fun ρ S => (f ρ S).bind (seqD S)
theorem di_seq (h : PE X e (tD X.K fa)) : PI X tg e (tI X.K (iSeqD fa)) := pi_imp (pi_seq h) fun σ H R ⟨Z, μ, ρ, S, Rl, ds, ef, q⟩ => by
  simp only [iSeqD, Option.bind_eq_some_iff] at ef
  obtain ⟨d, e1, e2⟩ := ef
  refine ⟨Z, μ, ρ, S, Rl, d, e1, fun v H1 s1 r1 => ?_⟩
  obtain ⟨a, xs, rfl, hs, hr⟩ := seqV_of (Rl.wd.mono s1) r1 e2
  refine ⟨a, xs, rfl, ?_⟩
  rcases hs with hs | hs
  · exact .inl ⟨hs H1 fun _ _ h _ => h, q _ H1 s1 (itD_list (Rl.wd.mono s1) (fun _ z => z) hs hr)⟩
  · exact .inr ⟨hs, q _ H1 s1 (itD_tup (Rl.wd.mono s1) (fun _ z => z) hs hr)⟩
theorem dj_seq (h : PE X e (tD X.K fa)) : PI X tg e (tJ X.K (jSeqD fa)) := pi_imp (pi_seq h) fun σ H R ⟨Z, μ, ρ, S, Rl, ds, ef, q⟩ => by
  simp only [jSeqD, Option.bind_eq_some_iff] at ef
  obtain ⟨d, e1, e2⟩ := ef
  refine ⟨Z, μ, ρ, S, Rl, d, e1, fun v H1 s1 r1 => ?_⟩
  obtain ⟨a, xs, rfl, hs, hr⟩ := seq_of (Rl.wd.mono s1) r1 e2
  refine ⟨a, xs, rfl, ?_⟩
  rcases hs with hs | hs
  · exact .inl ⟨hs, q _ H1 s1 (itD_list (Rl.wd.mono s1) (fun _ z => z.elim) (fun H' k => by
      rcases hs with (hs | ⟨o, hs⟩) | hs
      · exact .inl (.inl (k _ _ hs fun z => z))
      · exact .inl (.inr ⟨o, k _ _ hs fun z => z⟩)
      · exact .inr hs) hr)⟩
  · exact .inr ⟨hs, q _ H1 s1 (itD_tup (Rl.wd.mono s1) (fun _ z => z.elim) hs hr)⟩
def lim62 (i : Int) : Bool := Nat.blt i.natAbs 4611686018427387904
theorem lim62_of {i : Int} (h : lim62 i = true) : -(2 ^ 62) ≤ i ∧ i < 2 ^ 62 := by
  have h' : i.natAbs < 4611686018427387904 := by
    have := h
    unfold lim62 at this
    exact Nat.le_of_ble_eq_true this
  omega
def rng1 : List D → Option (List D)
  | [.int j] => if lim62 j then some (rngD 0 1 j.toNat) else none
  | _ => none
def rng2 : List D → Option (List D)
  | [.int i, .int j] => if lim62 i && lim62 j then some (rngD i 1 (j - i).toNat) else none
  | _ => none
def rng3 : List D → Option (List D)
  | [.int i, .int j, .int c] => if lim62 i && lim62 j && decide (c = -1) then some (rngD i (-1) (i - j).toNat) else none
  | _ => none
def iRng (g : List D → Option (List D)) (fs : EL) : EL := fun ρ S => (fs ρ S).bind g
theorem di_rng1 {a : Expr} {fs : EL} {p pos : Pos} (hg : Gl X "range") (hm : X.mg "range" = none) (ha : PA X [a] (tA X.K fs)) (hs : starEach [a] X.env = [(false, eval a X.env)] := by rfl) : PI X tg (.Call (.Name "range" p) [a] [] pos) (tI X.K (iRng rng1 fs)) :=
  pi_imp (pi_range1 hg hm ha hs) fun σ H R ⟨Z, μ, ρ, S, Rl, ds, ef, q⟩ => by
    simp only [iRng, Option.bind_eq_some_iff] at ef
    obtain ⟨es, e1, e2⟩ := ef
    refine ⟨Z, μ, ρ, S, Rl, es, e1, fun vs H1 s1 r1 => ?_⟩
    unfold rng1 at e2
    split at e2
    · split at e2
      · rename_i hl
        cases e2
        obtain ⟨v, rfl, rv⟩ := rvl1 r1
        rw [rv_int.mp rv]
        exact ⟨_, rfl, (lim62_of hl).1, (lim62_of hl).2, q _ H1 s1 itD_rng⟩
      · cases e2
    · cases e2
theorem di_rng2 {a b : Expr} {fs : EL} {p pos : Pos} (hg : Gl X "range") (hm : X.mg "range" = none) (ha : PA X [a, b] (tA X.K fs)) (hs : starEach [a, b] X.env = [(false, eval a X.env), (false, eval b X.env)] := by rfl) (hs2 : starEach [b] X.env = [(false, eval b X.env)] := by rfl) : PI X tg (.Call (.Name "range" p) [a, b] [] pos) (tI X.K (iRng rng2 fs)) :=
  pi_imp (pi_range2 hg hm ha hs hs2) fun σ H R ⟨Z, μ, ρ, S, Rl, ds, ef, q⟩ => by
    simp only [iRng, Option.bind_eq_some_iff] at ef
    obtain ⟨es, e1, e2⟩ := ef
    refine ⟨Z, μ, ρ, S, Rl, es, e1, fun vs H1 s1 r1 => ?_⟩
    unfold rng2 at e2
    split at e2
    · split at e2
      · rename_i hl
        cases e2
        rw [Bool.and_eq_true] at hl
        obtain ⟨v, u, rfl, rv, ru⟩ := rvl2 r1
        rw [rv_int.mp rv, rv_int.mp ru]
        have h1 := lim62_of hl.1
        have h2 := lim62_of hl.2
        exact ⟨_, _, rfl, ⟨h1.1, h1.2, h2.1, h2.2⟩, q _ H1 s1 itD_rng⟩
      · cases e2
    · cases e2
theorem di_rng3 {a b c : Expr} {fs : EL} {p pos : Pos} (hg : Gl X "range") (hm : X.mg "range" = none) (ha : PA X [a, b, c] (tA X.K fs))
    (hs : starEach [a, b, c] X.env = (false, eval a X.env) :: starEach [b, c] X.env := by rfl) (hpl : (backTo pos (starEach [b, c] X.env)).any (·.1) = false := by rfl) : PI X tg (.Call (.Name "range" p) [a, b, c] [] pos) (tI X.K (iRng rng3 fs)) :=
  pi_imp (pi_range3 hg hm ha hs hpl) fun σ H R ⟨Z, μ, ρ, S, Rl, ds, ef, q⟩ => by
    simp only [iRng, Option.bind_eq_some_iff] at ef
    obtain ⟨es, e1, e2⟩ := ef
    refine ⟨Z, μ, ρ, S, Rl, es, e1, fun vs H1 s1 r1 => ?_⟩
    unfold rng3 at e2
    split at e2
    · split at e2
      · rename_i hl
        cases e2
        simp only [Bool.and_eq_true, decide_eq_true_eq] at hl
        obtain ⟨⟨l1, l2⟩, rfl⟩ := hl
        obtain ⟨v, vs, rfl, rv, r2⟩ := rvl_cons.mp r1
        obtain ⟨u, w, rfl, ru, rw'⟩ := rvl2 r2
        rw [rv_int.mp rv, rv_int.mp ru, rv_int.mp rw']
        have h1 := lim62_of l1
        have h2 := lim62_of l2
        exact ⟨_, _, _, _, rfl, RgC.neg h1.1 h1.2 h2.1 h2.2, q _ H1 s1 itD_rngC⟩
      · cases e2
    · cases e2
def iEnumD (fs : EL) : EL := fun ρ S => (fs ρ S).bind fun ds => match ds with
  | [x] => (seqV x).map enumD
  | _ => none
theorem di_enum {e : Expr} {fs : EL} {p pos tpos : Pos} {elts : List Expr} {kk : Nat} (hg : Gl X "enumerate") (hm : X.mg "enumerate" = none) (ha : PA X [e] (tA X.K fs)) (hs : starEach [e] X.env = [(false, eval e X.env)] := by rfl) :
    PI X (.Tuple elts kk tpos) (.Call (.Name "enumerate" p) [e] [] pos) (tI X.K (iEnumD fs)) :=
  pi_imp (pi_enumA hg hm ha hs) fun σ H R ⟨Z, μ, ρ, S, Rl, ds, ef, q⟩ => by
    simp only [iEnumD, Option.bind_eq_some_iff] at ef
    obtain ⟨es, e1, e2⟩ := ef
    refine ⟨Z, μ, ρ, S, Rl, es, e1, fun vs H1 s1 r1 => ?_⟩
    split at e2
    · rw [Option.map_eq_some_iff] at e2
      obtain ⟨xs, e2, rfl⟩ := e2
      obtain ⟨v, rfl, rv⟩ := rvl1 r1
      obtain ⟨a, ys, rfl, hs, hr⟩ := seqV_of (Rl.wd.mono s1) rv e2
      refine ⟨a, ys, rfl, ?_⟩
      rcases hs with hs | hs
      · exact .inl ⟨hs H1 fun _ _ h _ => h, q _ H1 s1 (itD_enumL (Rl.wd.mono s1) (fun _ z => z) hs hr)⟩
      · exact .inr ⟨hs, q _ H1 s1 (itD_enumT (Rl.wd.mono s1) (fun _ z => z) hs hr)⟩
    · cases e2
def isTup : D → Bool
  | .tup _ => true
  | _ => false
def iZipD (fs : EL) : EL := fun ρ S => (fs ρ S).bind fun ds => match ds with
  | [x, y] => if isTup x == isTup y then (seqV x).bind fun a => (seqV y).map fun b => zipD a b else none
  | _ => none
theorem di_zip {e e2 : Expr} {fs : EL} {p pos tpos : Pos} {elts : List Expr} {kk : Nat} (hg : Gl X "zip") (hm : X.mg "zip" = none) (ha : PA X [e, e2] (tA X.K fs))
    (hs : starEach [e, e2] X.env = (false, eval e X.env) :: starEach [e2] X.env := by rfl) (hpl : (backTo pos (starEach [e2] X.env)).any (·.1) = false := by rfl) :
    PI X (.Tuple elts kk tpos) (.Call (.Name "zip" p) [e, e2] [] pos) (tI X.K (iZipD fs)) :=
  pi_imp (RZ.pi_zipA hg hm ha hs hpl) fun σ H R ⟨Z, μ, ρ, S, Rl, ds, ef, q⟩ => by
    simp only [iZipD, Option.bind_eq_some_iff] at ef
    obtain ⟨es, e1, e2⟩ := ef
    refine ⟨Z, μ, ρ, S, Rl, es, e1, fun vs H1 s1 r1 => ?_⟩
    split at e2
    · rename_i x y
      split at e2
      · rename_i ht
        simp only [Option.bind_eq_some_iff, Option.map_eq_some_iff] at e2
        obtain ⟨as, ea, bs, eb, rfl⟩ := e2
        obtain ⟨v, u, rfl, rv, ru⟩ := rvl2 r1
        have W := Rl.wd.mono s1
        have lt : ∀ {d : D} {ds : List D} {v : V}, RVz X.K Z μ H1 d v → seqV d = some ds → isTup d = true → ∃ a xs, v = .ref a ∧ SqT X.K H1 a xs ∧ RVLz X.K Z μ H1 ds xs := by
          intro d ds v r h1 h2
          cases d <;> simp [isTup] at h2
          simp only [seqV, Option.some.injEq] at h1; subst h1
          obtain ⟨a, xs, e, h3, h4⟩ := rv_tup.mp r
          exact ⟨a, xs, e, SqT.of h3, h4⟩
        have ll : ∀ {d : D} {ds : List D} {v : V}, RVz X.K Z μ H1 d v → seqV d = some ds → isTup d = false → ∃ a xs, v = .ref a ∧ (∀ H', (∀ a o, H1 a = some o → ¬ a ∈ μ → H' a = some o) → SqL X.K H' a xs) ∧ RVLz X.K Z μ H1 ds xs := by
          intro d ds v r h1 h2
          obtain ⟨a, xs, e, hs, hr⟩ := seqV_of W r h1
          rcases hs with hs | hs
          · exact ⟨a, xs, e, hs, hr⟩
          · cases d with
            | tup _ => simp [isTup] at h2
            | lst es =>
              simp only [seqV, Option.some.injEq] at h1; subst h1
              obtain ⟨a, xs, e, h1, n, h2⟩ := rv_lst.mp r
              exact ⟨a, xs, e, fun H' k => SqL.of (k a _ h1 fun m => n (.inr m)), h2⟩
            | scr ns =>
              simp only [seqV, Option.some.injEq] at h1; subst h1
              obtain ⟨a, e, h1⟩ := rv_scr.mp r
              refine ⟨a, _, e, fun H' k => ?_, rvl_ints ns⟩
              rcases h1 with ⟨o, h1⟩ | h1
              · exact .inl (.inr ⟨o, k a _ h1 fun m => by
                  obtain ⟨u, e', m'⟩ := W.mem m
                  rw [h1] at e'; cases e'; cases m'⟩)
              · exact h1 H'
            | _ => simp [seqV] at h1
        cases tx : isTup x with
        | true =>
          rw [tx] at ht
          have ty : isTup y = true := by simpa using ht
          obtain ⟨a, xs, rfl, h1, h2⟩ := lt rv ea tx
          obtain ⟨b, ys, rfl, h3, h4⟩ := lt ru eb ty
          exact ⟨a, b, xs, ys, rfl, .inr ⟨h1, h3, q _ H1 s1 (itD_zipT W (fun _ z => z) h1 h3 h2 h4)⟩⟩
        | false =>
          rw [tx] at ht
          have ty : isTup y = false := by
            cases h : isTup y
            · rfl
            · rw [h] at ht; exact absurd ht (by decide)
          obtain ⟨a, xs, rfl, h1, h2⟩ := ll rv ea tx
          obtain ⟨b, ys, rfl, h3, h4⟩ := ll ru eb ty
          exact ⟨a, b, xs, ys, rfl, .inl ⟨h1 H1 fun _ _ h _ => h, h3 H1 fun _ _ h _ => h, q _ H1 s1 (itD_zipL W (fun _ z => z) h1 h3 h2 h4)⟩⟩
      · cases e2
    · cases e2
end
end DL

set_option maxHeartbeats 4000000
namespace DL
open PySem PySem.Spec L2

/-! ### targets -/
abbrev G := D → Rho → Option Rho
abbrev Gs := List D → Rho → Option Rho
def tG (K : PySem.W.Frag) (vs : List Nat) (g : G) : TG := fun v σ H Q => ∃ Z μ ρ S d, Rel K Z μ σ H ρ S ∧ RVz K Z μ H d v ∧ ∃ ρ', g d ρ = some ρ' ∧
  ∀ σ', Rel K Z μ σ' H ρ' S → (∀ j, j ∉ vs → σ'[j]? = σ[j]?) → σ'.length = σ.length → Q σ' H
def tGs (K : PySem.W.Frag) (vs : List Nat) (g : Gs) : TGs := fun xs σ H Q => ∃ Z μ ρ S ds, Rel K Z μ σ H ρ S ∧ RVLz K Z μ H ds xs ∧ ∃ ρ', g ds ρ = some ρ' ∧
  ∀ σ', Rel K Z μ σ' H ρ' S → (∀ j, j ∉ vs → σ'[j]? = σ[j]?) → σ'.length = σ.length → Q σ' H
def gN (i : Nat) : G := fun d ρ => some (ρ.set i (some d))
def gT (n : Nat) (gs : Gs) : G := fun d ρ => match d with
  | .tup ds => if ds.length = n then gs ds ρ else none
  | _ => none
def gNil : Gs := fun ds ρ => match ds with
  | [] => some ρ
  | _ => none
def gCons (g : G) (gs : Gs) : Gs := fun ds ρ => match ds with
  | d :: ds => (g d ρ).bind fun ρ' => gs ds ρ'
  | [] => none
section
variable {X : Cx} {e : Expr} {es : List Expr} {pos : Pos}
theorem pgs_imp {t t' : TGs} (h : PGs X es t) (i : ∀ v σ H Q, t' v σ H Q → t v σ H Q) : PGs X es t' := ⟨fun pins s σ H v u Q I r q => h.run pins s σ H v u Q I r (i v σ H Q q)⟩
theorem dg_name {i : Nat} {x : Str} (hN : X.N.Nodup) (hi : X.N[i]? = some x) (hx : Loc X.env.scope x) (hf : X.fn x = true ∨ X.env.scope.names.lookup x = some .local := by first | exact .inl rfl | exact .inr rfl | assumption) : PG X (.Name x pos) (tG X.K [i] (gN i)) :=
  pg_imp (pg_name hN hi hx hf) fun v σ H Q ⟨Z, μ, ρ, S, d, R, r, ρ', e, q⟩ => by
    simp only [gN, Option.some.injEq] at e
    subst e
    exact q _ (R.set r) (fun j hj => by rw [List.getElem?_set_ne (by simpa using fun h => hj (by simp [h]))]) (List.length_set ..)
theorem dgs_nil : PGs X [] (tGs X.K [] gNil) := pgs_imp pgs_nil fun v σ H Q ⟨Z, μ, ρ, S, ds, R, r, ρ', e, q⟩ => by
  unfold gNil at e
  split at e
  · cases e
    exact ⟨rvl_nil.mp r, q σ R (fun _ _ => rfl) rfl⟩
  · cases e
theorem dgs_cons {v1 v2 : List Nat} {g : G} {gs : Gs} (h1 : PG X e (tG X.K v1 g)) (h2 : PGs X es (tGs X.K v2 gs)) (hs : (assignEach (e :: es) X.env).map (·.2) = assign e X.env :: (assignEach es X.env).map (·.2) := by rfl) : PGs X (e :: es) (tGs X.K (v1 ++ v2) (gCons g gs)) :=
  pgs_imp (pgs_cons h1 h2 hs) fun v σ H Q ⟨Z, μ, ρ, S, ds, R, r, ρ', e, q⟩ => by
    unfold gCons at e
    split at e
    · rename_i d ds
      rw [Option.bind_eq_some_iff] at e
      obtain ⟨ρ1, e1, e2⟩ := e
      obtain ⟨y, ys, rfl, ry, rys⟩ := rvl_cons.mp r
      refine ⟨y, ys, rfl, Z, μ, ρ, S, d, R, ry, ρ1, e1, fun σ1 R1 k1 l1 => ?_⟩
      refine ⟨Z, μ, ρ1, S, ds, R1, rys, ρ', e2, fun σ2 R2 k2 l2 => q σ2 R2 (fun j hj => ?_) (l2.trans l1)⟩
      rw [k2 j fun h => hj (List.mem_append_right _ h), k1 j fun h => hj (List.mem_append_left _ h)]
    · cases e
theorem dg_tup {vs : List Nat} {gs : Gs} {k n : Nat} (hc : X.calm = true) (h : PGs X es (tGs X.K vs gs)) (hn : (assignEach es X.env).length = n := by rfl) (hst : (assignEach es X.env).findIdx? (·.1) = none := by rfl) : PG X (.Tuple es k pos) (tG X.K vs (gT n gs)) :=
  pg_imp (pg_tup hc h hn hst) fun v σ H Q ⟨Z, μ, ρ, S, d, R, r, ρ', e, q⟩ => by
    unfold gT at e
    split at e
    · split at e
      · rename_i ds hl
        obtain ⟨a, xs, rfl, hs, hr⟩ := rv_tup.mp r
        exact ⟨a, xs, rfl, SqT.of hs, by rw [RVL.length hr]; exact hl, Z, μ, ρ, S, ds, R, hr, ρ', e, q⟩
      · cases e
    · cases e
end

/-! ### comprehensions -/
def wipeR (ρ : Rho) : List Nat → Rho
  | [] => ρ
  | v :: vs => (wipeR ρ vs).set v none
theorem wipeR_len (ρ : Rho) : ∀ vs, (wipeR ρ vs).length = ρ.length
  | [] => rfl
  | v :: vs => by unfold wipeR; rw [List.length_set, wipeR_len ρ vs]
theorem wipeR_some {ρ : Rho} {i : Nat} {x : D} : ∀ {vs : List Nat}, (wipeR ρ vs)[i]? = some (some x) → ρ[i]? = some (some x) ∧ i ∉ vs
  | [], h => ⟨h, by simp⟩
  | v :: vs, h => by
    unfold wipeR at h
    by_cases hi : v = i
    · subst hi
      by_cases hv : v < (wipeR ρ vs).length
      · rw [List.getElem?_set_self hv] at h; cases h
      · rw [List.getElem?_eq_none (by simpa using hv)] at h; cases h
    · rw [List.getElem?_set_ne hi] at h
      obtain ⟨h1, h2⟩ := wipeR_some h
      exact ⟨h1, by simp only [List.mem_cons, not_or]; exact ⟨fun e => hi e.symm, h2⟩⟩
theorem wipe_in {σ : L2.St} {i : Nat} : ∀ {vs : List Nat}, i ∈ vs → i < σ.length → (wipe σ vs)[i]? = some none
  | [], h, _ => by cases h
  | v :: vs, h, hl => by
    unfold wipe
    by_cases hi : v = i
    · subst hi
      rw [List.getElem?_set_self (by rw [wipe_length]; exact hl)]
    · rw [List.getElem?_set_ne hi]
      exact wipe_in ((List.mem_cons.mp h).resolve_left fun e => hi e.symm) hl
theorem wipe_eq {σ σ' : L2.St} {vs : List Nat} (hl : σ'.length = σ.length) (h : ∀ j, j ∉ vs → σ'[j]? = σ[j]?) : wipe σ' vs = wipe σ vs := by
  apply List.ext_getElem?
  intro i
  by_cases hi : i ∈ vs
  · by_cases hl' : i < σ.length
    · rw [wipe_in hi hl', wipe_in hi (by rw [hl]; exact hl')]
    · rw [List.getElem?_eq_none (by rw [wipe_length]; omega), List.getElem?_eq_none (by rw [wipe_length]; omega)]
  · rw [wipe_out hi, wipe_out hi, h i hi]
theorem wipe_wipe {σ : L2.St} {vs : List Nat} : wipe (wipe σ vs) vs = wipe σ vs := wipe_eq (wipe_length σ vs) fun j hj => wipe_out hj
section
variable {K : PySem.W.Frag} {Z : Fr} {μ : List Addr} {H H' : Hp} {S : Sto} {σ : L2.St} {ρ : Rho}
theorem Rel.wipe (R : Rel K Z μ σ H ρ S) (vs : List Nat) : Rel K Z μ (L2.wipe σ vs) H (wipeR ρ vs) S :=
  ⟨R.wd, by rw [wipeR_len, wipe_length]; exact R.len, fun i d h => by
    obtain ⟨h1, h2⟩ := wipeR_some h
    rw [wipe_out h2]
    exact R.env i d h1⟩
/-- one place more that values may not lean on -/
def Fr.plus (Z : Fr) (b : Addr) : Fr := { Z with A := fun a => Z.A a ∨ a = b }
theorem RV.plus {b : Addr} (s : Same H H') (n : H b = none) {d : D} {v : V} (h : RVz K Z μ H d v) : RVz K (Z.plus b) μ H' d v :=
  RV.tr (fun a o e hn => ⟨s a o e, fun m q => by
    rcases q with (q | q) | q
    · exact hn m (.inl q)
    · subst q; rw [n] at e; cases e
    · exact hn m (.inr q)⟩) (fun _ _ e => e) d v h
theorem RVL.plus {b : Addr} (s : Same H H') (n : H b = none) {d : List D} {v : List V} (h : RVLz K Z μ H d v) : RVLz K (Z.plus b) μ H' d v :=
  RVL.tr (fun a o e hn => ⟨s a o e, fun m q => by
    rcases q with (q | q) | q
    · exact hn m (.inl q)
    · subst q; rw [n] at e; cases e
    · exact hn m (.inr q)⟩) (fun _ _ e => e) d v h
theorem RC.plus {a b : Addr} {c : Cell} (s : Same H H') (n : H b = none) (h : RC K Z μ H a c) : RC K (Z.plus b) μ H' a c := by
  cases c with
  | lst ds => obtain ⟨xs, q, r⟩ := h; exact ⟨xs, s _ _ q, RVL.plus s n r⟩
  | dic t ks vs =>
    rcases h with ⟨t, kvs, q, e, r⟩ | ⟨t, kvs, q, e, r⟩
    · exact .inl ⟨t, kvs, s _ _ q, e, RVL.plus s n r⟩
    · exact .inr ⟨t, kvs, s _ _ q, e, RVL.plus s n r⟩
  | ins c fs vs => obtain ⟨dx, fvs, q, e, r⟩ := h; exact ⟨dx, fvs, s _ _ q, e, RVL.plus s n r⟩
theorem Rel.plus {b : Addr} (R : Rel K Z μ σ H ρ S) (s : Same H H') (n : H b = none) (t : H' b ≠ none) : Rel K (Z.plus b) μ σ H' ρ S := by
  refine ⟨⟨R.wd.len, R.wd.nd, fun i c a h1 h2 => (R.wd.cell i c a h1 h2).plus s n, fun a o e => s _ _ (R.wd.base a o e), R.wd.dis, fun a h => ?_, fun a h q => ?_, R.wd.root⟩, R.len, fun i d h => ?_⟩
  · rcases h with h | h
    · exact (R.wd.mono s).av a h
    · subst h; exact t
  · rcases q with q | q
    · exact R.wd.disA a h q
    · subst q
      obtain ⟨o, e, _⟩ := R.wd.mem h
      rw [n] at e; cases e
  · obtain ⟨v, h1, h2⟩ := R.env i d h
    exact ⟨v, h1, RV.plus s n h2⟩
end
def bYes : EB := fun _ _ => some true
def compL (g : G) (t : EB) (e : E) (ρ : Rho) (S : Sto) : List D → Option (List D)
  | [] => some []
  | d :: ds => (g d ρ).bind fun ρ1 => (t ρ1 S).bind fun b => if b then (e ρ1 S).bind fun y => (compL g t e ρ S ds).map fun ys => y :: ys else compL g t e ρ S ds
def fComp (f : EL) (vs : List Nat) (g : G) (t : EB) (e : E) : EL := fun ρ S => (f ρ S).bind fun ds => (compL g t e (wipeR ρ vs) S ds).bind fun ys => if small ys.length then some ys else none
theorem tLc_of {K : PySem.W.Frag} {f : EL} {vs vt : List Nat} {g : G} {t : EB} {e : E} (hv : ∀ i ∈ vt, i ∈ vs) {σ : L2.St} {H : Hp} {Q : VK} (h : tF K (fComp f vs g t e) σ H Q) :
    tLc (tJ K f) (tG K vt g) (tT K t) (tD K e) vs σ H Q := by
  obtain ⟨Z, μ, ρ, S, R, res, ef, q⟩ := h
  simp only [fComp, Option.bind_eq_some_iff] at ef
  obtain ⟨ds, e1, ys, e2, e3⟩ := ef
  split at e3
  case isFalse => cases e3
  rename_i hsm
  simp only [Option.some.injEq] at e3
  subst e3
  refine ⟨Z, μ, ρ, S, R, ds, e1, fun J H1 s1 it D nD => ?_⟩
  have R1 := (R.mono s1).wipe vs
  refine ⟨fun i m H => m = ds.length - i ∧ i ≤ ds.length ∧ Same H1 H ∧ ∃ acc dacc rest, H D = some (.lst acc) ∧ RVLz K (Z.plus D) μ H dacc acc ∧ compL g t e (wipeR ρ vs) S (ds.drop i) = some rest ∧ ys = dacc ++ rest,
    ⟨ds.length, by simp, Nat.zero_le _, fun c o z => by rw [upd_ne (ne_of_none z nD)]; exact z, [], [], ys, upd_same, RVL.nil', by simpa using e2, by simp⟩, ?_⟩
  rintro i m H' ⟨rfl, hi, s2, acc, dacc, rest, hD, hacc, ec, ey⟩
  obtain ⟨it1, it2⟩ := it i H' fun a o ha _ => s2 a o ha
  by_cases hlt : i < ds.length
  · obtain ⟨hgo, hyld⟩ := it1 ds[i] (List.getElem?_eq_getElem hlt)
    rw [List.drop_eq_getElem_cons hlt] at ec
    refine .inr ⟨hgo, _, fun H2 h2 => ⟨ds.length - (i + 1), by omega, rfl, hlt, h2⟩, fun x H2 hy => ?_⟩
    obtain ⟨s3, rx⟩ := hyld x H2 hy
    simp only [compL, Option.bind_eq_some_iff] at ec
    obtain ⟨ρ1, eg, b, et, ec⟩ := ec
    have R2 : Rel K (Z.plus D) μ (L2.wipe σ vs) H2 (wipeR ρ vs) S := R1.plus (s2.trans s3) nD (by rw [s3 _ _ hD]; exact fun z => by cases z)
    have rx' : RVz K (Z.plus D) μ H2 ds[i] x := RV.tr (fun a o e hn => ⟨e, fun m q => by
      rcases q with (q | q) | q
      · exact hn m (.inl (.inl q))
      · subst q; exact hn m (.inr nD)
      · exact hn m (.inl (.inr q))⟩) (fun _ _ e => e) _ _ rx
    refine ⟨Z.plus D, μ, wipeR ρ vs, S, ds[i], R2, rx', ρ1, eg, fun σ2 R3 k2 l2 => ⟨?_, ?_⟩⟩
    · exact (wipe_eq l2 fun j hj => k2 j fun h => hj (hv j h)).trans wipe_wipe
    · refine ⟨Z.plus D, μ, ρ1, S, R3, b, et, fun H3 s4 => ?_⟩
      have hD3 : H3 D = some (.lst acc) := s4 _ _ (s3 _ _ hD)
      cases b with
      | false =>
        rw [if_neg Bool.false_ne_true] at ec
        refine iteF ?_
        exact ⟨(s2.trans s3).trans s4, acc, dacc, rest, hD3, RVL.mono (s3.trans s4) hacc, ec, ey⟩
      | true =>
        rw [if_pos rfl] at ec
        refine iteT ?_
        simp only [Option.bind_eq_some_iff, Option.map_eq_some_iff] at ec
        obtain ⟨y, ee, rest', ec, rfl⟩ := ec
        refine ⟨Z.plus D, μ, ρ1, S, R3.mono s4, y, ee, fun v H4 s5 rv => ?_⟩
        have hD4 : H4 D = some (.lst acc) := s5 _ _ hD3
        have hacc4 : RVLz K (Z.plus D) μ H4 dacc acc := RVL.mono ((s3.trans s4).trans s5) hacc
        refine ⟨acc, hD4, ?_, ?_, acc ++ [v], dacc ++ [y], rest', upd_same, ?_, ec, by rw [ey]; simp⟩
        · have h1 := RVL.length hacc4
          have h2 : small ys.length = true := hsm
          have h3 : ys.length ≤ 1000000 := of_decide_eq_true h2
          have h4 : dacc.length < ys.length := by rw [ey]; simp
          have h5 : (1000000 : Nat) < sizeLine := by decide
          omega
        · intro c o z
          have z4 := s5 _ _ (s4 _ _ (s3 _ _ (s2 _ _ z)))
          rw [upd_ne (ne_of_none z nD)]
          exact z4
        · have r4 : RVLz K (Z.plus D) μ H4 (dacc ++ [y]) (acc ++ [v]) := RVL.app hacc4 (RVL.one rv)
          refine RVL.tr (fun a o e hn => ?_) (fun _ _ e => e) _ _ r4
          have ne : a ≠ D := by
            rintro rfl
            rw [hD4] at e; cases e
            exact hn rfl (.inl (.inr rfl))
          exact ⟨by rw [upd_ne ne]; exact e, hn⟩
  · have hi' : i = ds.length := by omega
    subst hi'
    simp only [List.drop_length, compL, Option.some.injEq] at ec
    subst ec
    rw [List.append_nil] at ey
    subst ey
    refine .inl ⟨it2 (Nat.le_refl _), q D acc H' (s1.free nD) (s1.trans s2) hD ?_⟩
    exact RVL.tr (fun a o e hn => ⟨e, fun m q => by
      rcases q with (q | q) | q
      · exact hn m (.inl (.inl q))
      · exact hn m (.inr q)
      · exact hn m (.inl (.inr q))⟩) (fun _ _ e => e) _ _ hacc
section
variable {X : Cx} {elt tg iter : Expr} {ifs : List Expr} {scope : Scope} {own : List (Str × Nat)} {pos : Pos}
theorem dts_nil : PTs X [] (tT X.K bYes) := ⟨fun pins s σ H Q I ⟨Z, μ, ρ, S, R, b, e, q⟩ => pts_nil.run pins s σ H Q I (by
  simp only [bYes, Option.some.injEq] at e
  subst e
  exact q H (Same.refl H))⟩
theorem dts_one {c : Expr} {t : EB} (h : PT X c (tT X.K t)) : PTs X [c] (tT X.K t) := pts_one h
theorem d_comp {f : EL} {vt : List Nat} {g : G} {t : EB} {e : E} (hc : X.calm = true) (hN : X.N.Nodup) (hi : PI X tg iter (tJ X.K f)) (ok : BlkOk X.N X.env.scope scope own)
    (hg : ∀ (s : Shared) (H : Hp) (C : Addr) (cl : List (Str × Addr)) (fp : List Addr), PG (X.blk s H scope (compEnvC scope cl C X.env) fp) tg (tG X.K vt g)) (ht : ∀ (s : Shared) (H : Hp) (C : Addr) (cl : List (Str × Addr)) (fp : List Addr), PTs (X.blk s H scope (compEnvC scope cl C X.env) fp) ifs (tT X.K t))
    (he : ∀ (s : Shared) (H : Hp) (C : Addr) (cl : List (Str × Addr)) (fp : List Addr), PE (X.blk s H scope (compEnvC scope cl C X.env) fp) elt (tD X.K e)) (hv : ∀ i ∈ vt, i ∈ own.map (·.2) := by decide) (hs : ∀ x, foldedSetIterable iter X.env x = pure x := by intro _; rfl) :
    PE X (.ListComp elt [⟨tg, iter, ifs, 0⟩] scope pos) (tF X.K (fComp f (own.map (·.2)) g t e)) :=
  pe_imp (pe_lc hc hN hi ok hg ht he hs) fun _ _ _ h => tLc_of hv h
end
end DL

set_option maxHeartbeats 4000000
namespace DL
open PySem PySem.Spec L2

/-! ### statements -/
inductive Fl where
  | nx | bk | ct | rt (d : D) | rf (ds : List D)
abbrev T := Rho → Sto → Option (Fl × Rho × Sto)
def cont (K : PySem.W.Frag) (Z : Fr) (De : Ends) (ρ : Rho) (S : Sto) : Fl → Prop
  | .nx => ∀ σ H μ, Rel K Z μ σ H ρ S → De.nx σ H
  | .bk => ∀ σ H μ, Rel K Z μ σ H ρ S → De.bk σ H
  | .ct => ∀ σ H μ, Rel K Z μ σ H ρ S → De.ct σ H
  | .rt d => ∀ v σ H μ, Rel K Z μ σ H ρ S → RVz K Z μ H d v → De.rt v H
  | .rf ds => ∀ a xs σ H μ, Rel K Z μ σ H ρ S → Z.Hb a = none → ¬ avd Z μ a → H a = some (.lst xs) → RVL K (avO Z μ a) μ H ds xs → De.rt (.ref a) H
def tS (K : PySem.W.Frag) (f : T) : TS := fun De σ H => ∃ Z μ ρ S, Rel K Z μ σ H ρ S ∧ ∃ fl ρ' S', f ρ S = some (fl, ρ', S') ∧ cont K Z De ρ' S' fl
def sSkip : T := fun ρ S => some (.nx, ρ, S)
def sBrk : T := fun ρ S => some (.bk, ρ, S)
def sCnt : T := fun ρ S => some (.ct, ρ, S)
def sSeq (f g : T) : T := fun ρ S => (f ρ S).bind fun r => match r with
  | (.nx, ρ', S') => g ρ' S'
  | r => some r
def sSet (i : Nat) (f : E) : T := fun ρ S => (f ρ S).map fun d => (.nx, ρ.set i (some d), S)
/-- a new list that the def will change -/
def sNew (i : Nat) (f : EL) : T := fun ρ S => (f ρ S).map fun ds => (.nx, ρ.set i (some (.ref S.length)), S ++ [.lst ds])
def sDrop (f : E) : T := fun ρ S => (f ρ S).map fun _ => (.nx, ρ, S)
def sRet (f : E) : T := fun ρ S => (f ρ S).map fun d => (.rt d, ρ, S)
def sRetF (f : EL) : T := fun ρ S => (f ρ S).map fun d => (.rf d, ρ, S)
def sIf (t : EB) (f g : T) : T := fun ρ S => (t ρ S).bind fun b => if b then f ρ S else g ρ S
def loopL (g : G) (body : T) : List D → T
  | [], ρ, S => some (.nx, ρ, S)
  | d :: ds, ρ, S => (g d ρ).bind fun ρ1 => (body ρ1 S).bind fun r => match r with
    | (.nx, ρ', S') => loopL g body ds ρ' S'
    | (.ct, ρ', S') => loopL g body ds ρ' S'
    | (.bk, ρ', S') => some (.nx, ρ', S')
    | r => some r
def sFor (f : EL) (g : G) (body : T) : T := fun ρ S => (f ρ S).bind fun ds => loopL g body ds ρ S
def whileN (t : EB) (body : T) : Nat → T
  | 0, _, _ => none
  | n + 1, ρ, S => (t ρ S).bind fun b => if b then (body ρ S).bind fun r => match r with
      | (.nx, ρ', S') => whileN t body n ρ' S'
      | (.ct, ρ', S') => whileN t body n ρ' S'
      | (.bk, ρ', S') => some (.nx, ρ', S')
      | r => some r
    else some (.nx, ρ, S)
open Classical in
noncomputable def sWhile (t : EB) (body : T) : T := fun ρ S => if h : ∃ n r, whileN t body n ρ S = some r then some h.choose_spec.choose else none
theorem whileN_mono {t : EB} {body : T} : ∀ {n m : Nat} {ρ : Rho} {S : Sto} {r : Fl × Rho × Sto}, n ≤ m → whileN t body n ρ S = some r → whileN t body m ρ S = some r
  | 0, _, _, _, _, _, h => by simp [whileN] at h
  | n + 1, 0, _, _, _, hm, _ => by omega
  | n + 1, m + 1, ρ, S, r, hm, h => by
    simp only [whileN, Option.bind_eq_some_iff] at h ⊢
    obtain ⟨b, e1, h⟩ := h
    refine ⟨b, e1, ?_⟩
    cases b with
    | false => exact h
    | true =>
      rw [if_pos rfl] at h ⊢
      rw [Option.bind_eq_some_iff] at h ⊢
      obtain ⟨⟨fl, ρ', S'⟩, e2, h⟩ := h
      refine ⟨_, e2, ?_⟩
      cases fl with
      | nx => exact whileN_mono (by omega) h
      | ct => exact whileN_mono (by omega) h
      | _ => exact h
theorem sWhile_of {t : EB} {body : T} {n : Nat} {ρ : Rho} {S : Sto} {r : Fl × Rho × Sto} (h : whileN t body n ρ S = some r) : sWhile t body ρ S = some r := by
  have hx : ∃ n r, whileN t body n ρ S = some r := ⟨n, r, h⟩
  unfold sWhile
  rw [dif_pos hx]
  have h2 := hx.choose_spec.choose_spec
  have a := whileN_mono (Nat.le_max_left n hx.choose) h
  have b := whileN_mono (Nat.le_max_right n hx.choose) h2
  rw [a] at b
  exact b.symm
theorem of_sWhile {t : EB} {body : T} {ρ : Rho} {S : Sto} {r : Fl × Rho × Sto} (h : sWhile t body ρ S = some r) : ∃ n, whileN t body n ρ S = some r := by
  unfold sWhile at h
  split at h
  · rename_i hx
    simp only [Option.some.injEq] at h
    rw [← h]
    exact ⟨_, hx.choose_spec.choose_spec⟩
  · cases h

section
variable {K : PySem.W.Frag} {Z : Fr} {μ μ' : List Addr} {H H1 H' : Hp} {S S' : Sto} {σ σ' : L2.St} {ρ ρ' : Rho}
/-- the frame of a loop: what stood at its start, but the cells -/
def Fr.rb (Z : Fr) (μ : List Addr) (H : Hp) : Fr := { Z with Hb := fun a => if a ∈ μ then none else H a, μ0 := μ }
theorem RC.fr {Z' : Fr} (hA : Z'.A = Z.A) (hc : Z'.cl = Z.cl) {a : Addr} {c : Cell} (h : RC K Z μ H a c) : RC K Z' μ H a c := by
  have e : avd Z' μ = avd Z μ := by unfold avd; rw [hA]
  cases c with
  | lst ds => obtain ⟨xs, q, r⟩ := h; exact ⟨xs, q, by unfold RVLz; rw [e]; exact r⟩
  | dic t ks vs =>
    rcases h with ⟨t, kvs, q, k, r⟩ | ⟨t, kvs, q, k, r⟩
    · exact .inl ⟨t, kvs, q, k, by unfold RVLz; rw [e]; exact r⟩
    · exact .inr ⟨t, kvs, q, k, by unfold RVLz; rw [e]; exact r⟩
  | ins c fs vs => obtain ⟨dx, fvs, q, k, r⟩ := h; exact ⟨dx, fvs, by rw [hc]; exact q, k, by unfold RVLz; rw [e]; exact r⟩
theorem Rel.rb (R : Rel K Z μ σ H ρ S) : Rel K (Z.rb μ H) μ σ H ρ S := by
  refine ⟨⟨R.wd.len, R.wd.nd, fun n c a h1 h2 => RC.fr rfl rfl (R.wd.cell n c a h1 h2), fun a o e => ?_, fun a h => ?_, R.wd.av, R.wd.disA, List.prefix_refl μ⟩, R.len, R.env⟩
  · have e' : (if a ∈ μ then none else H a) = some o := e
    split at e'
    · cases e'
    · exact e'
  · show (if a ∈ μ then none else H a) = none
    rw [if_pos h]
theorem rb_none (W : Wd K Z μ H S) {a : Addr} (h : (Z.rb μ H).Hb a = none) : Z.Hb a = none := by
  cases q : Z.Hb a with
  | none => rfl
  | some o =>
    have h' : (if a ∈ μ then none else H a) = none := h
    have nm : ¬ a ∈ μ := fun m => by rw [W.dis a m] at q; cases q
    rw [if_neg nm, W.base a o q] at h'
    cases h'
theorem Rel.ub (W : Wd K Z μ H S) (R : Rel K (Z.rb μ H) μ' σ' H' ρ' S') : Rel K Z μ' σ' H' ρ' S' := by
  refine ⟨⟨R.wd.len, R.wd.nd, fun n c a h1 h2 => RC.fr (Z := Z.rb μ H) rfl rfl (R.wd.cell n c a h1 h2), fun a o e => ?_, fun a h => rb_none W (R.wd.dis a h), R.wd.av, R.wd.disA, W.root.trans R.wd.root⟩, R.len, R.env⟩
  refine R.wd.base a o ?_
  show (if a ∈ μ then none else H a) = some o
  have nm : ¬ a ∈ μ := fun m => by rw [W.dis a m] at e; cases e
  rw [if_neg nm]
  exact W.base a o e
/-- between the start of a loop and now all stands but the cells -/
theorem Rel.kept (W : Wd K Z μ H S) (R : Rel K (Z.rb μ H) μ' σ' H' ρ' S') : ∀ a o, H a = some o → ¬ a ∈ μ → H' a = some o := fun a o e nm => R.wd.base a o (by
  show (if a ∈ μ then none else H a) = some o
  rw [if_neg nm]; exact e)
theorem RV.later (W : Wd K Z μ H S) (R : Rel K (Z.rb μ H) μ' σ' H' ρ' S') {H2 : Hp} (s : Same H' H2) {d : D} {v : V} (h : RV K (fun a => avd Z μ a ∨ H a = none) μ H2 d v) : RVz K (Z.rb μ H) μ' H2 d v := by
  refine RV.tr (fun a o e hn => ⟨e, fun m q => ?_⟩) (fun n a e => ?_) d v h
  · rcases q with q | q
    · exact hn m (.inl (.inl q))
    · by_cases hm : a ∈ μ
      · exact hn m (.inl (.inr hm))
      · refine hn m (.inr ?_)
        have z := R.wd.dis a q
        have z' : (if a ∈ μ then none else H a) = none := z
        rw [if_neg hm] at z'
        exact z'
  · obtain ⟨t, ht⟩ := R.wd.root
    have ht' : μ ++ t = μ' := ht
    rw [← ht', List.getElem?_append_left (List.getElem?_eq_some_iff.mp e).1]
    exact e
theorem cont_ub (W : Wd K Z μ H S) {De : Ends} {fl : Fl} (h : cont K Z De ρ' S' fl) : cont K (Z.rb μ H) De ρ' S' fl := by
  cases fl with
  | nx => exact fun σ H' μ' R => h σ H' μ' (R.ub W)
  | bk => exact fun σ H' μ' R => h σ H' μ' (R.ub W)
  | ct => exact fun σ H' μ' R => h σ H' μ' (R.ub W)
  | rt d => exact fun v σ H' μ' R r => h v σ H' μ' (R.ub W) r
  | rf ds => exact fun a xs σ H' μ' R n na h1 r => h a xs σ H' μ' (R.ub W) (rb_none W n) na h1 r
/-- the body's ends within a loop -/
theorem cont_loop {De : Ends} {N : L2.St → Hp → Prop} {fl : Fl} (h : ∀ r, (match fl with | .nx => none | .ct => none | .bk => some Fl.nx | f => some f) = some r → cont K Z De ρ' S' r)
    (hN : (fl = .nx ∨ fl = .ct) → ∀ σ H μ, Rel K Z μ σ H ρ' S' → N σ H) : cont K Z { De with nx := N, ct := N, bk := De.nx } ρ' S' fl := by
  cases fl with
  | nx => exact fun σ H μ R => hN (.inl rfl) σ H μ R
  | ct => exact fun σ H μ R => hN (.inr rfl) σ H μ R
  | bk => exact h .nx rfl
  | rt d => exact h (.rt d) rfl
  | rf d => exact h (.rf d) rfl
end

section
variable {X : Cx} {st : Stmt} {rest body ss : List Stmt} {e c : Expr} {pos : Pos} {f g : T} {fa : E} {fl : EL} {t : EB}
theorem dss_nil : PSs X [] (tS X.K sSkip) := pss_imp pss_nil fun De σ H ⟨Z, μ, ρ, S, R, fl, ρ', S', e, q⟩ => by
  simp only [sSkip, Option.some.injEq, Prod.mk.injEq] at e
  obtain ⟨rfl, rfl, rfl⟩ := e
  exact q σ H μ R
theorem dss_one (h : PS X st (tS X.K f)) : PSs X [st] (tS X.K f) := pss_one h
theorem dss_cons (h1 : PS X st (tS X.K f)) (h2 : PSs X rest (tS X.K g)) : PSs X (st :: rest) (tS X.K (sSeq f g)) :=
  pss_imp (pss_cons h1 h2) fun De σ H ⟨Z, μ, ρ, S, R, fl, ρ', S', e, q⟩ => by
    simp only [sSeq, Option.bind_eq_some_iff] at e
    obtain ⟨⟨fl1, ρ1, S1⟩, e1, e2⟩ := e
    refine ⟨Z, μ, ρ, S, R, fl1, ρ1, S1, e1, ?_⟩
    cases fl1 with
    | nx => exact fun σ1 H1 μ1 R1 => ⟨Z, μ1, ρ1, S1, R1, fl, ρ', S', e2, q⟩
    | bk => simp only [Option.some.injEq, Prod.mk.injEq] at e2; obtain ⟨rfl, rfl, rfl⟩ := e2; exact q
    | ct => simp only [Option.some.injEq, Prod.mk.injEq] at e2; obtain ⟨rfl, rfl, rfl⟩ := e2; exact q
    | rt d => simp only [Option.some.injEq, Prod.mk.injEq] at e2; obtain ⟨rfl, rfl, rfl⟩ := e2; exact q
    | rf d => simp only [Option.some.injEq, Prod.mk.injEq] at e2; obtain ⟨rfl, rfl, rfl⟩ := e2; exact q
theorem ds_pass : PS X (.Pass pos) (tS X.K sSkip) := ps_imp ps_pass fun De σ H ⟨Z, μ, ρ, S, R, fl, ρ', S', e, q⟩ => by
  simp only [sSkip, Option.some.injEq, Prod.mk.injEq] at e
  obtain ⟨rfl, rfl, rfl⟩ := e
  exact q σ H μ R
theorem ds_break : PS X (.Break pos) (tS X.K sBrk) := ps_imp ps_break fun De σ H ⟨Z, μ, ρ, S, R, fl, ρ', S', e, q⟩ => by
  simp only [sBrk, Option.some.injEq, Prod.mk.injEq] at e
  obtain ⟨rfl, rfl, rfl⟩ := e
  exact q σ H μ R
theorem ds_continue : PS X (.Continue pos) (tS X.K sCnt) := ps_imp ps_continue fun De σ H ⟨Z, μ, ρ, S, R, fl, ρ', S', e, q⟩ => by
  simp only [sCnt, Option.some.injEq, Prod.mk.injEq] at e
  obtain ⟨rfl, rfl, rfl⟩ := e
  exact q σ H μ R
/-- a statement that never comes to be done -/
def sNever : T := fun _ _ => none
theorem ds_never : PS X st (tS X.K sNever) := ps_imp ps_never fun De σ H ⟨Z, μ, ρ, S, R, fl, ρ', S', e, q⟩ => by
  simp [sNever] at e
/-- x = e, by any rule of it -/
theorem ds_setA {te : TE} {i : Nat} (h : PS X st (tAsg te (L2.gName i))) (hi : ∀ σ H Q, tD X.K fa σ H Q → te σ H Q) : PS X st (tS X.K (sSet i fa)) :=
  ps_imp h fun De σ H ⟨Z, μ, ρ, S, R, fl, ρ', S', e, q⟩ => by
    simp only [sSet, Option.map_eq_some_iff, Prod.mk.injEq] at e
    obtain ⟨d, e1, rfl, rfl, rfl⟩ := e
    exact hi _ _ _ ⟨Z, μ, ρ, S, R, d, e1, fun v H' s r => q _ H' μ ((R.mono s).set r)⟩
theorem ds_newA {te : TE} {i : Nat} (h : PS X st (tAsg te (L2.gName i))) (hi : ∀ σ H Q, tF X.K fl σ H Q → te σ H Q) : PS X st (tS X.K (sNew i fl)) :=
  ps_imp h fun De σ H ⟨Z, μ, ρ, S, R, fl', ρ', S', e, q⟩ => by
    simp only [sNew, Option.map_eq_some_iff, Prod.mk.injEq] at e
    obtain ⟨ds, e1, rfl, rfl, rfl⟩ := e
    refine hi _ _ _ ⟨Z, μ, ρ, S, R, ds, e1, fun a xs H' n s h1 r => q _ H' (μ ++ [a]) ?_⟩
    have r1 : RC X.K Z (μ ++ [a]) H' a (.lst ds) := ⟨xs, h1, RVL.tr (fun b o e hn => ⟨e, fun m z => by
      rcases z with z | z
      · exact hn m (.inl (.inl z))
      · rcases List.mem_append.mp z with z | z
        · exact hn m (.inl (.inr z))
        · exact hn m (.inr (by simpa using z))⟩) (fun k b e => by rw [List.getElem?_append_left (List.getElem?_eq_some_iff.mp e).1]; exact e) _ _ r⟩
    refine (R.alloc s n r1).set (rv_ref.mpr ⟨a, rfl, ?_⟩)
    rw [R.wd.len, List.getElem?_append_right (Nat.le_refl _)]
    simp
theorem tF_tD {K : PySem.W.Frag} {te : TE} (hi : ∀ σ H Q, tF K fl σ H Q → te σ H Q) : ∀ σ H Q, tD K (fun ρ S => (fl ρ S).map .lst) σ H Q → te σ H Q := fun σ H Q ⟨Z, μ, ρ, S, R, d, e, q⟩ => by
  rw [Option.map_eq_some_iff] at e
  obtain ⟨ds, e1, rfl⟩ := e
  exact hi _ _ _ ⟨Z, μ, ρ, S, R, ds, e1, fun a xs H' n s h1 h2 => q _ _ s (RV.lst_of R.wd n h1 h2)⟩
def eF (f : EL) : E := fun ρ S => (f ρ S).map .lst
theorem d_F (h : PE X e (tF X.K fl)) : PE X e (tD X.K (eF fl)) := d_ofF h
section
variable {i : Nat} {x : Str} {pos' : Pos}
theorem ds_set (hN : X.N.Nodup) (hi : X.N[i]? = some x) (hx : Loc X.env.scope x) (he : PE X e (tD X.K fa)) (hs : swapsWith e (some (.Name x pos')) pos.line X.env = pure false := by rfl) (hf : X.fn x = true ∨ X.env.scope.names.lookup x = some .local := by first | exact .inl rfl | exact .inr rfl | assumption) :
    PS X (.Assign [.Name x pos'] e pos) (tS X.K (sSet i fa)) := ds_setA (ps_set hN hi hx he hs hf) fun _ _ _ h => h
theorem ds_new (hN : X.N.Nodup) (hi : X.N[i]? = some x) (hx : Loc X.env.scope x) (he : PE X e (tF X.K fl)) (hs : swapsWith e (some (.Name x pos')) pos.line X.env = pure false := by rfl) (hf : X.fn x = true ∨ X.env.scope.names.lookup x = some .local := by first | exact .inl rfl | exact .inr rfl | assumption) :
    PS X (.Assign [.Name x pos'] e pos) (tS X.K (sNew i fl)) := ds_newA (ps_set hN hi hx he hs hf) fun _ _ _ h => h
end
section
variable {i : Nat} {y : Str} {py : Pos} {elt tg iter : Expr} {ifs : List Expr} {scope : Scope} {own : List (Str × Nat)} {spos : Pos} {vt : List Nat} {g : G} {e : E}
/-- x = [..]: the model's own statement -/
theorem ds_setLc (hc : X.calm = true) (hN : X.N.Nodup) (hy : X.N[i]? = some y) (hyl : X.env.scope.names.lookup y = some .local)
    (hsw : swapsWith (.ListComp elt [⟨tg, iter, ifs, 0⟩] scope pos) (some (.Name y py)) spos.line X.env = pure true) (hi : PI X tg iter (tJ X.K fl)) (ok : BlkOk X.N X.env.scope scope own)
    (hg : ∀ (s : Shared) (H : Hp) (C : Addr) (cl : List (Str × Addr)) (fp : List Addr), PG (X.blk s H scope (compEnvC scope cl C X.env) fp) tg (tG X.K vt g)) (ht : ∀ (s : Shared) (H : Hp) (C : Addr) (cl : List (Str × Addr)) (fp : List Addr), PTs (X.blk s H scope (compEnvC scope cl C X.env) fp) ifs (tT X.K t))
    (he : ∀ (s : Shared) (H : Hp) (C : Addr) (cl : List (Str × Addr)) (fp : List Addr), PE (X.blk s H scope (compEnvC scope cl C X.env) fp) elt (tD X.K e)) (hv : ∀ i ∈ vt, i ∈ own.map (·.2) := by decide) (hs : ∀ x, foldedSetIterable iter X.env x = pure x := by intro _; rfl) :
    PS X (.Assign [.Name y py] (.ListComp elt [⟨tg, iter, ifs, 0⟩] scope pos) spos) (tS X.K (sSet i (eF (fComp fl (own.map (·.2)) g t e)))) :=
  ds_setA (ps_setLc hc hN hy hyl hsw hi ok hg ht he hs) (tF_tD fun _ _ _ h => tLc_of hv h)
theorem ds_newLc (hc : X.calm = true) (hN : X.N.Nodup) (hy : X.N[i]? = some y) (hyl : X.env.scope.names.lookup y = some .local)
    (hsw : swapsWith (.ListComp elt [⟨tg, iter, ifs, 0⟩] scope pos) (some (.Name y py)) spos.line X.env = pure true) (hi : PI X tg iter (tJ X.K fl)) (ok : BlkOk X.N X.env.scope scope own)
    (hg : ∀ (s : Shared) (H : Hp) (C : Addr) (cl : List (Str × Addr)) (fp : List Addr), PG (X.blk s H scope (compEnvC scope cl C X.env) fp) tg (tG X.K vt g)) (ht : ∀ (s : Shared) (H : Hp) (C : Addr) (cl : List (Str × Addr)) (fp : List Addr), PTs (X.blk s H scope (compEnvC scope cl C X.env) fp) ifs (tT X.K t))
    (he : ∀ (s : Shared) (H : Hp) (C : Addr) (cl : List (Str × Addr)) (fp : List Addr), PE (X.blk s H scope (compEnvC scope cl C X.env) fp) elt (tD X.K e)) (hv : ∀ i ∈ vt, i ∈ own.map (·.2) := by decide) (hs : ∀ x, foldedSetIterable iter X.env x = pure x := by intro _; rfl) :
    PS X (.Assign [.Name y py] (.ListComp elt [⟨tg, iter, ifs, 0⟩] scope pos) spos) (tS X.K (sNew i (fComp fl (own.map (·.2)) g t e))) :=
  ds_newA (ps_setLc hc hN hy hyl hsw hi ok hg ht he hs) fun _ _ _ h => tLc_of hv h
end
/-- targets of any kind -/
def sAsg (f : E) (g : G) : T := fun ρ S => (f ρ S).bind fun d => (g d ρ).map fun ρ' => (.nx, ρ', S)
theorem ds_asg {tg : Expr} {g : G} {vs : List Nat} (he : PE X e (tD X.K fa)) (hg : PG X tg (tG X.K vs g)) (hs : swapsWithSole [tg] e pos.line X.env = pure false := by rfl) (hw : swappedStores [tg] e X.env = pure none := by rfl)
    (h1 : (assignEach [tg] X.env).map (·.2) = [assign tg X.env] := by rfl) : PS X (.Assign [tg] e pos) (tS X.K (sAsg fa g)) :=
  ps_imp (ps_asg he hg hs hw h1) fun De σ H ⟨Z, μ, ρ, S, R, fl, ρ', S', e, q⟩ => by
    simp only [sAsg, Option.bind_eq_some_iff, Option.map_eq_some_iff, Prod.mk.injEq] at e
    obtain ⟨d, e1, ρ1, e2, rfl, rfl, rfl⟩ := e
    exact ⟨Z, μ, ρ, S, R, d, e1, fun v H' s r => ⟨Z, μ, ρ, S, d, R.mono s, r, ρ1, e2, fun σ1 R1 _ _ => q σ1 H' μ R1⟩⟩
/-- a, b = x, y -/
def sPar (i j : Nat) (fs : EL) : T := fun ρ S => (fs ρ S).bind fun ds => match ds with
  | [d, e] => some (.nx, (ρ.set i (some d)).set j (some e), S)
  | _ => none
theorem ds_par {i j : Nat} {x y : Str} {a b : Expr} {fs : EL} {px py pt : Pos} {kt k2 pt2} (hc : X.calm = true) (hN : X.N.Nodup) (hi : X.N[i]? = some x) (hj : X.N[j]? = some y) (hij : i ≠ j)
    (hx : X.env.scope.names.lookup x = some .local) (hy : X.env.scope.names.lookup y = some .local) (ha : PA X [a, b] (tA X.K fs))
    (hw : swappedStores [.Tuple [.Name x px, .Name y py] kt pt] (.Tuple [a, b] k2 pt2) X.env = pure (some [x, y]))
    (hs : swapsWithSole [.Tuple [.Name x px, .Name y py] kt pt] (.Tuple [a, b] k2 pt2) pos.line X.env = pure false := by rfl) :
    PS X (.Assign [.Tuple [.Name x px, .Name y py] kt pt] (.Tuple [a, b] k2 pt2) pos) (tS X.K (sPar i j fs)) :=
  ps_imp (ps_par hc hN hi hj hij hx hy ha hw hs) fun De σ H ⟨Z, μ, ρ, S, R, fl, ρ', S', e, q⟩ => by
    simp only [sPar, Option.bind_eq_some_iff] at e
    obtain ⟨ds, e1, e2⟩ := e
    refine ⟨Z, μ, ρ, S, R, ds, e1, fun vs H1 s1 r1 => ?_⟩
    split at e2
    · simp only [Option.some.injEq, Prod.mk.injEq] at e2
      obtain ⟨rfl, rfl, rfl⟩ := e2
      obtain ⟨v, u, rfl, rv, ru⟩ := rvl2 r1
      exact ⟨v, u, rfl, q _ H1 μ (((R.mono s1).set rv).set ru)⟩
    · cases e2
/-- n += e of ints -/
def sAugI (i : Nat) (f : E) : T := fun ρ S => (f ρ S).bind fun d => match ρ[i]?, d with
  | some (some (.int a)), .int b => some (.nx, ρ.set i (some (.int (a + b))), S)
  | _, _ => none
theorem ds_aug {i : Nat} {x : Str} {pos' : Pos} (hN : X.N.Nodup) (hi : X.N[i]? = some x) (hx : Loc X.env.scope x) (he : PE X e (tD X.K fa)) (hf : X.fn x = true ∨ X.env.scope.names.lookup x = some .local := by first | exact .inl rfl | exact .inr rfl | assumption) :
    PS X (.AugAssign (.Name x pos') .Add e pos) (tS X.K (sAugI i fa)) :=
  ps_imp (ps_aug hN hi hx he ip_add hf) fun De σ H ⟨Z, μ, ρ, S, R, fl, ρ', S', e, q⟩ => by
    simp only [sAugI, Option.bind_eq_some_iff] at e
    obtain ⟨d, e1, e2⟩ := e
    split at e2
    · rename_i a b ha
      simp only [Option.some.injEq, Prod.mk.injEq] at e2
      obtain ⟨rfl, rfl, rfl⟩ := e2
      obtain ⟨v, h1, h2⟩ := R.env i _ ha
      rw [rv_int.mp h2] at h1
      refine ⟨_, h1, Z, μ, ρ, S, R, _, e1, fun u H1 s1 r1 => ?_⟩
      rw [rv_int.mp r1]
      exact ⟨_, _, rfl, rfl, q _ H1 μ ((R.mono s1).set (rv_int.mpr rfl))⟩
    · cases e2
theorem ds_expr (he : PE X e (tD X.K fa)) (hs : swapsWith e none pos.line X.env = pure false := by rfl) : PS X (.Expr e pos) (tS X.K (sDrop fa)) :=
  ps_imp (ps_expr he hs) fun De σ H ⟨Z, μ, ρ, S, R, fl, ρ', S', e, q⟩ => by
    simp only [sDrop, Option.map_eq_some_iff, Prod.mk.injEq] at e
    obtain ⟨d, e1, rfl, rfl, rfl⟩ := e
    exact ⟨Z, μ, ρ, S, R, d, e1, fun v H' s r => q σ H' μ (R.mono s)⟩
theorem ds_ret (he : PE X e (tD X.K fa)) : PS X (.Return (some e) pos) (tS X.K (sRet fa)) :=
  ps_imp (ps_ret he) fun De σ H ⟨Z, μ, ρ, S, R, fl, ρ', S', e, q⟩ => by
    simp only [sRet, Option.map_eq_some_iff, Prod.mk.injEq] at e
    obtain ⟨d, e1, rfl, rfl, rfl⟩ := e
    exact ⟨Z, μ, ρ, S, R, d, e1, fun v H' s r => q v σ H' μ (R.mono s) r⟩
theorem ds_retF (he : PE X e (tF X.K fl)) : PS X (.Return (some e) pos) (tS X.K (sRetF fl)) :=
  ps_imp (ps_ret he) fun De σ H ⟨Z, μ, ρ, S, R, fl', ρ', S', e, q⟩ => by
    simp only [sRetF, Option.map_eq_some_iff, Prod.mk.injEq] at e
    obtain ⟨d, e1, rfl, rfl, rfl⟩ := e
    exact ⟨Z, μ, ρ, S, R, d, e1, fun a xs H' n s h1 r => q a xs σ H' μ (R.mono s) (R.wd.newB n) (R.wd.fresh n) h1 r⟩
theorem ds_retN : PS X (.Return none pos) (tS X.K (sRet (eC .non))) :=
  ps_imp ps_retN fun De σ H ⟨Z, μ, ρ, S, R, fl, ρ', S', e, q⟩ => by
    simp only [sRet, eC, Option.map_some, Option.some.injEq, Prod.mk.injEq] at e
    obtain ⟨rfl, rfl, rfl⟩ := e
    exact q .non σ H μ R (rv_non.mpr rfl)
theorem ds_if {a b : List Stmt} (hc : PT X c (tT X.K t)) (ha : PSs X a (tS X.K f)) (hb : PSs X b (tS X.K g)) : PS X (.If c a b pos) (tS X.K (sIf t f g)) :=
  ps_imp (ps_if hc ha hb) fun De σ H ⟨Z, μ, ρ, S, R, fl, ρ', S', e, q⟩ => by
    simp only [sIf, Option.bind_eq_some_iff] at e
    obtain ⟨k, e1, e2⟩ := e
    refine ⟨Z, μ, ρ, S, R, k, e1, fun H' s => ?_⟩
    cases k with
    | true => rw [if_pos rfl] at e2; exact iteT ⟨Z, μ, ρ, S, R.mono s, fl, ρ', S', e2, q⟩
    | false => rw [if_neg Bool.false_ne_true] at e2; exact iteF ⟨Z, μ, ρ, S, R.mono s, fl, ρ', S', e2, q⟩
theorem ds_for {iter tg : Expr} {vt : List Nat} {g : G} (hp : PassesOwn (model X.prog X.w) X.A X.env X.xe) (hc : X.calm = true) (hi : PI X tg iter (tI X.K fl)) (hg : PG X tg (tG X.K vt g)) (hb : PSs X body (tS X.K f))
    (hs : ∀ x, foldedSetIterable iter X.env x = pure x := by intro _; rfl) : PS X (.For tg iter body [] pos) (tS X.K (sFor fl g f)) :=
  ps_imp (ps_for hp hc hi hg hb hs) fun De σ H ⟨Z, μ, ρ, S, R, fl', ρ', S', e, q⟩ => by
    simp only [sFor, Option.bind_eq_some_iff] at e
    obtain ⟨ds, e1, e2⟩ := e
    refine ⟨Z, μ, ρ, S, R, ds, e1, fun J H1 s1 it => ?_⟩
    have R1 := R.mono s1
    have W1 := R1.wd
    refine ⟨fun i m σ' H' => m = ds.length - i ∧ i ≤ ds.length ∧ ∃ μ2 ρ2 S2, Rel X.K (Z.rb μ H1) μ2 σ' H' ρ2 S2 ∧ loopL g f (ds.drop i) ρ2 S2 = some (fl', ρ', S'), ⟨ds.length, by simp, Nat.zero_le _, μ, ρ, S, R1.rb, by simpa using e2⟩, ?_⟩
    rintro i m σ2 H2 ⟨rfl, hi', μ2, ρ2, S2, R2, el⟩
    obtain ⟨it1, it2⟩ := it i H2 (fun a o h nm => R2.kept W1 a o h nm)
    by_cases hlt : i < ds.length
    · obtain ⟨hgo, hyld⟩ := it1 ds[i] (List.getElem?_eq_getElem hlt)
      rw [List.drop_eq_getElem_cons hlt] at el
      simp only [loopL, Option.bind_eq_some_iff] at el
      obtain ⟨ρ3, eg, ⟨fl3, ρ4, S4⟩, eb, el⟩ := el
      refine .inr ⟨hgo, _, fun σ' H' h => ⟨ds.length - (i + 1), by omega, rfl, hlt, h⟩, fun x H3 hy => ?_⟩
      obtain ⟨s3, rx⟩ := hyld x H3 hy
      refine ⟨Z.rb μ H1, μ2, ρ2, S2, ds[i], R2.mono s3, RV.later W1 R2 s3 rx, ρ3, eg, fun σ3 R3 _ _ => ?_⟩
      refine ⟨Z.rb μ H1, μ2, ρ3, S2, R3, fl3, ρ4, S4, eb, ?_⟩
      refine cont_loop (fun r hr => ?_) (fun hf σ4 H4 μ4 R4 => ?_)
      · refine cont_ub W1 ?_
        cases fl3 with
        | nx => cases hr
        | ct => cases hr
        | bk =>
          simp only [Option.some.injEq, Prod.mk.injEq] at el hr
          obtain ⟨rfl, rfl, rfl⟩ := el
          subst hr; exact q
        | rt d =>
          simp only [Option.some.injEq, Prod.mk.injEq] at el hr
          obtain ⟨rfl, rfl, rfl⟩ := el
          subst hr; exact q
        | rf d =>
          simp only [Option.some.injEq, Prod.mk.injEq] at el hr
          obtain ⟨rfl, rfl, rfl⟩ := el
          subst hr; exact q
      · rcases hf with rfl | rfl
        · exact ⟨μ4, ρ4, S4, R4, el⟩
        · exact ⟨μ4, ρ4, S4, R4, el⟩
    · have hi2 : i = ds.length := by omega
      subst hi2
      simp only [List.drop_length, loopL, Option.some.injEq, Prod.mk.injEq] at el
      obtain ⟨rfl, rfl, rfl⟩ := el
      exact .inl ⟨it2 (Nat.le_refl _), q σ2 H2 μ2 (R2.ub W1)⟩
theorem ds_while (hp : PassesOwn (model X.prog X.w) X.A X.env X.xe) (hc : PT X c (tT X.K t)) (hb : PSs X body (tS X.K f)) : PS X (.While c body [] pos) (tS X.K (sWhile t f)) :=
  ps_imp (ps_while hp hc hb) fun De σ H ⟨Z, μ, ρ, S, R, fl', ρ', S', e, q⟩ => by
    obtain ⟨n, e⟩ := of_sWhile e
    refine ⟨fun m σ' H' => ∃ μ2 ρ2 S2, Rel X.K Z μ2 σ' H' ρ2 S2 ∧ whileN t f m ρ2 S2 = some (fl', ρ', S'), ⟨n, μ, ρ, S, R, e⟩, ?_⟩
    rintro m σ2 H2 ⟨μ2, ρ2, S2, R2, el⟩
    cases m with
    | zero => simp [whileN] at el
    | succ m =>
      simp only [whileN, Option.bind_eq_some_iff] at el
      obtain ⟨b, et, el⟩ := el
      refine ⟨Z, μ2, ρ2, S2, R2, b, et, fun H3 s3 => ?_⟩
      cases b with
      | false =>
        rw [if_neg Bool.false_ne_true] at el
        simp only [Option.some.injEq, Prod.mk.injEq] at el
        obtain ⟨rfl, rfl, rfl⟩ := el
        exact iteF (q σ2 H3 μ2 (R2.mono s3))
      | true =>
        rw [if_pos rfl] at el
        rw [Option.bind_eq_some_iff] at el
        obtain ⟨⟨fl3, ρ4, S4⟩, eb, el⟩ := el
        refine iteT ⟨_, fun σ' H' h => ⟨m, Nat.lt_succ_self m, h⟩, Z, μ2, ρ2, S2, R2.mono s3, fl3, ρ4, S4, eb, ?_⟩
        refine cont_loop (fun r hr => ?_) (fun hf σ4 H4 μ4 R4 => ?_)
        · cases fl3 with
          | nx => cases hr
          | ct => cases hr
          | bk =>
            simp only [Option.some.injEq, Prod.mk.injEq] at el hr
            obtain ⟨rfl, rfl, rfl⟩ := el
            subst hr; exact q
          | rt d =>
            simp only [Option.some.injEq, Prod.mk.injEq] at el hr
            obtain ⟨rfl, rfl, rfl⟩ := el
            subst hr; exact q
          | rf d =>
            simp only [Option.some.injEq, Prod.mk.injEq] at el hr
            obtain ⟨rfl, rfl, rfl⟩ := el
            subst hr; exact q
        · rcases hf with rfl | rfl
          · exact ⟨μ4, ρ4, S4, R4, el⟩
          · exact ⟨μ4, ρ4, S4, R4, el⟩
end

/-! ### lists that are changed -/
/-- the cell that an expression tells -/
def cellD (S : Sto) : D → Option (Nat × List D)
  | .ref n => match S[n]? with
    | some (.lst ds) => some (n, ds)
    | _ => none
  | _ => none
theorem cell_of {K : PySem.W.Frag} {Z : Fr} {μ : List Addr} {H : Hp} {S : Sto} {d : D} {n : Nat} {ds : List D} {v : V} (W : Wd K Z μ H S) (r : RVz K Z μ H d v) (h : cellD S d = some (n, ds)) :
    ∃ a xs, v = .ref a ∧ μ[n]? = some a ∧ H a = some (.lst xs) ∧ RVLz K Z μ H ds xs ∧ S[n]? = some (.lst ds) := by
  cases d with
  | ref m =>
    simp only [cellD] at h
    split at h
    · rename_i es hc
      simp only [Option.some.injEq, Prod.mk.injEq] at h
      obtain ⟨rfl, rfl⟩ := h
      obtain ⟨a, e, hn⟩ := rv_ref.mp r
      obtain ⟨xs, h1, h2⟩ := W.cell m _ a hc hn
      exact ⟨a, xs, e, hn, h1, h2, hc⟩
    · cases h
  | _ => simp [cellD] at h
theorem tyV_lst {K : PySem.W.Frag} {H : Hp} {a : Addr} {xs : List V} (h : H a = some (.lst xs)) : tyV K "list" (.ref a) H := .inl ⟨rfl, _, SqL.of h⟩
theorem Rel.wrL {K : PySem.W.Frag} {Z : Fr} {μ : List Addr} {H : Hp} {S : Sto} {σ : L2.St} {ρ : Rho} {n : Nat} {a : Addr} {ys : List V} {es : List D} (R : Rel K Z μ σ H ρ S) (hn : μ[n]? = some a) (r : RVLz K Z μ H es ys) : Rel K Z μ σ (upd H a (.lst ys)) ρ (S.set n (.lst es)) :=
  R.wr hn ⟨ys, upd_same, RVL.wr R.wd (List.mem_of_getElem? hn) r⟩
section
variable {X : Cx} {o e e2 : Expr} {pos cpos apos : Pos} {fo fa fb : E}
def sApp (fo f : E) : T := fun ρ S => (fo ρ S).bind fun o => (f ρ S).bind fun d => (cellD S o).bind fun c => if small c.2.length then some (.nx, ρ, S.set c.1 (.lst (c.2 ++ [d]))) else none
theorem small_lt {n : Nat} (h : small n = true) : n < sizeLine := Nat.lt_of_le_of_lt (of_decide_eq_true h) (by decide)
theorem ds_append (ho : PE X o (tD X.K fo)) (he : PE X e (tD X.K fa)) (hbase : attributeBase o "append" X.env (eval o X.env) = eval o X.env := by rfl)
    (hfew : ((backTo cpos (starEach [e] X.env)).all (fun x => !x.1) && (backToKw cpos (keywordEach [] X.env)).all (fun x => x.1.isSome)
      && decide ([e].length + ([] : List Keyword).length + (if ([] : List Keyword).isEmpty then 0 else 1) < 30)) = true := by rfl)
    (hline : (apos.endLine == cpos.line) = true := by rfl) (hs : starEach [e] X.env = (false, eval e X.env) :: starEach [] X.env := by rfl) (hplain : (backTo cpos (starEach [] X.env)).any (·.1) = false := by rfl) (hsw : swapsWith (.Call (.Attribute o "append" apos) [e] [] cpos) none pos.line X.env = pure false := by rfl) :
    PS X (.Expr (.Call (.Attribute o "append" apos) [e] [] cpos) pos) (tS X.K (sApp fo fa)) :=
  ps_imp (ps_expr (pe_bm PySem.F.plainAttrs_list PySem.F.slot_list_append PySem.F.type_list_append mt_append ho (pa_cons he pa_nil hs) hbase hfew hline hs hplain) hsw) fun De σ H ⟨Z, μ, ρ, S, R, fl, ρ', S', e, q⟩ => by
    simp only [sApp, Option.bind_eq_some_iff] at e
    obtain ⟨od, e1, d, e2, ⟨n, ds⟩, e3, e4⟩ := e
    split at e4
    case isFalse => cases e4
    rename_i hsm
    simp only [Option.some.injEq, Prod.mk.injEq] at e4
    obtain ⟨rfl, rfl, rfl⟩ := e4
    refine ⟨Z, μ, ρ, S, R, od, e1, fun v H1 s1 r1 => ?_⟩
    obtain ⟨a, xs, rfl, hn, h1, hr, _⟩ := cell_of (R.wd.mono s1) r1 e3
    refine ⟨tyV_lst h1, Z, μ, ρ, S, R.mono s1, d, e2, fun u H2 s2 r2 => ?_⟩
    have hr2 : RVLz X.K Z μ H2 ds xs := RVL.mono s2 hr
    refine ⟨a, xs, u, rfl, rfl, s2 _ _ h1, by rw [RVL.length hr2]; exact small_lt hsm, ?_⟩
    exact q _ _ μ (((R.mono s1).mono s2).wrL hn (RVL.app hr2 (RVL.one r2)))
def sExt (fo f : E) : T := fun ρ S => (fo ρ S).bind fun o => (f ρ S).bind fun d => (lstD S d).bind fun es => (cellD S o).bind fun c => if small (c.2.length + es.length) then some (.nx, ρ, S.set c.1 (.lst (c.2 ++ es))) else none
theorem ds_extend (ho : PE X o (tD X.K fo)) (he : PE X e (tD X.K fa)) (hbase : attributeBase o "extend" X.env (eval o X.env) = eval o X.env := by rfl)
    (hfew : ((backTo cpos (starEach [e] X.env)).all (fun x => !x.1) && (backToKw cpos (keywordEach [] X.env)).all (fun x => x.1.isSome)
      && decide ([e].length + ([] : List Keyword).length + (if ([] : List Keyword).isEmpty then 0 else 1) < 30)) = true := by rfl)
    (hline : (apos.endLine == cpos.line) = true := by rfl) (hs : starEach [e] X.env = (false, eval e X.env) :: starEach [] X.env := by rfl) (hplain : (backTo cpos (starEach [] X.env)).any (·.1) = false := by rfl) (hsw : swapsWith (.Call (.Attribute o "extend" apos) [e] [] cpos) none pos.line X.env = pure false := by rfl) :
    PS X (.Expr (.Call (.Attribute o "extend" apos) [e] [] cpos) pos) (tS X.K (sExt fo fa)) :=
  ps_imp (ps_expr (pe_bm PySem.F.plainAttrs_list PySem.F.slot_list_extend PySem.F.type_list_extend mt_extend ho (pa_cons he pa_nil hs) hbase hfew hline hs hplain) hsw) fun De σ H ⟨Z, μ, ρ, S, R, fl, ρ', S', e, q⟩ => by
    simp only [sExt, Option.bind_eq_some_iff] at e
    obtain ⟨od, e1, d, e2, es, e5, ⟨n, ds⟩, e3, e4⟩ := e
    split at e4
    case isFalse => cases e4
    rename_i hsm
    simp only [Option.some.injEq, Prod.mk.injEq] at e4
    obtain ⟨rfl, rfl, rfl⟩ := e4
    refine ⟨Z, μ, ρ, S, R, od, e1, fun v H1 s1 r1 => ?_⟩
    obtain ⟨a, xs, rfl, hn, h1, hr, _⟩ := cell_of (R.wd.mono s1) r1 e3
    refine ⟨tyV_lst h1, Z, μ, ρ, S, R.mono s1, d, e2, fun u H2 s2 r2 => ?_⟩
    have hr2 : RVLz X.K Z μ H2 ds xs := RVL.mono s2 hr
    obtain ⟨b, zs, rfl, h3, h4⟩ := lst_of ((R.wd.mono s1).mono s2) r2 e5
    refine ⟨a, b, xs, zs, rfl, rfl, s2 _ _ h1, h3, by rw [RVL.length hr2, RVL.length h4]; exact small_le hsm, ?_⟩
    exact q _ _ μ (((R.mono s1).mono s2).wrL hn (RVL.app hr2 h4))
def sIns (fo f g : E) : T := fun ρ S => (fo ρ S).bind fun o => (f ρ S).bind fun i => (g ρ S).bind fun d => (cellD S o).bind fun c => match i with
  | .int i => if small c.2.length && decide (0 ≤ i) && decide (i < 2 ^ 62) then some (.nx, ρ, S.set c.1 (.lst (c.2.take i.toNat ++ [d] ++ c.2.drop i.toNat))) else none
  | _ => none
theorem ds_insert (ho : PE X o (tD X.K fo)) (he : PE X e (tD X.K fa)) (he2 : PE X e2 (tD X.K fb)) (hbase : attributeBase o "insert" X.env (eval o X.env) = eval o X.env := by rfl)
    (hfew : ((backTo cpos (starEach [e, e2] X.env)).all (fun x => !x.1) && (backToKw cpos (keywordEach [] X.env)).all (fun x => x.1.isSome)
      && decide ([e, e2].length + ([] : List Keyword).length + (if ([] : List Keyword).isEmpty then 0 else 1) < 30)) = true := by rfl)
    (hline : (apos.endLine == cpos.line) = true := by rfl) (hs : starEach [e, e2] X.env = (false, eval e X.env) :: starEach [e2] X.env := by rfl) (hs2 : starEach [e2] X.env = (false, eval e2 X.env) :: starEach [] X.env := by rfl) (hplain : (backTo cpos (starEach [e2] X.env)).any (·.1) = false := by rfl) (hsw : swapsWith (.Call (.Attribute o "insert" apos) [e, e2] [] cpos) none pos.line X.env = pure false := by rfl) :
    PS X (.Expr (.Call (.Attribute o "insert" apos) [e, e2] [] cpos) pos) (tS X.K (sIns fo fa fb)) :=
  ps_imp (ps_expr (pe_bm PySem.F.plainAttrs_list PySem.F.slot_list_insert PySem.F.type_list_insert mt_insert ho (pa_cons he (pa_cons he2 pa_nil hs2) hs) hbase hfew hline hs hplain) hsw) fun De σ H ⟨Z, μ, ρ, S, R, fl, ρ', S', e, q⟩ => by
    simp only [sIns, Option.bind_eq_some_iff] at e
    obtain ⟨od, e1, i, e2, d, e5, ⟨n, ds⟩, e3, e4⟩ := e
    split at e4
    case h_2 => cases e4
    rename_i i
    split at e4
    case isFalse => cases e4
    rename_i hsm
    simp only [Bool.and_eq_true, decide_eq_true_eq] at hsm
    obtain ⟨⟨hsm, hi0⟩, hi1⟩ := hsm
    simp only [Option.some.injEq, Prod.mk.injEq] at e4
    obtain ⟨rfl, rfl, rfl⟩ := e4
    refine ⟨Z, μ, ρ, S, R, od, e1, fun v H1 s1 r1 => ?_⟩
    obtain ⟨a, xs, rfl, hn, h1, hr, _⟩ := cell_of (R.wd.mono s1) r1 e3
    refine ⟨tyV_lst h1, Z, μ, ρ, S, R.mono s1, _, e2, fun u H2 s2 r2 => ?_⟩
    refine ⟨Z, μ, ρ, S, (R.mono s1).mono s2, d, e5, fun w H3 s3 r3 => ?_⟩
    have hr2 : RVLz X.K Z μ H3 ds xs := RVL.mono (s2.trans s3) hr
    rw [rv_int.mp r2]
    refine ⟨a, xs, i, w, rfl, rfl, s3 _ _ (s2 _ _ h1), by rw [RVL.length hr2]; exact small_lt hsm, hi0, by omega, ?_⟩
    exact q _ _ μ ((((R.mono s1).mono s2).mono s3).wrL hn (RVL.app (RVL.app (RVL.take _ hr2) (RVL.one r3)) (RVL.drop _ hr2)))
/-- x = xs.pop() -/
def sPop (i : Nat) (fo : E) : T := fun ρ S => (fo ρ S).bind fun o => (cellD S o).bind fun c => (c.2[c.2.length - 1]?).map fun d => (.nx, ρ.set i (some d), S.set c.1 (.lst c.2.dropLast))
theorem RVL.dropLast' {K : PySem.W.Frag} {av : Addr → Prop} {μ : List Addr} {H : Hp} {ds : List D} {xs : List V} (h : RVL K av μ H ds xs) : RVL K av μ H ds.dropLast xs.dropLast := by
  rw [List.dropLast_eq_take, List.dropLast_eq_take, RVL.length h]
  exact RVL.take _ h
theorem ds_pop {i : Nat} {x : Str} {pos' : Pos} (hN : X.N.Nodup) (hi : X.N[i]? = some x) (hx : Loc X.env.scope x) (ho : PE X o (tD X.K fo)) (hbase : attributeBase o "pop" X.env (eval o X.env) = eval o X.env := by rfl)
    (hline : (apos.endLine == cpos.line) = true := by rfl)
    (hs : swapsWith (.Call (.Attribute o "pop" apos) [] [] cpos) (some (.Name x pos')) pos.line X.env = pure false := by rfl) (hf : X.fn x = true ∨ X.env.scope.names.lookup x = some .local := by first | exact .inl rfl | exact .inr rfl | assumption) :
    PS X (.Assign [.Name x pos'] (.Call (.Attribute o "pop" apos) [] [] cpos) pos) (tS X.K (sPop i fo)) :=
  ps_imp (ps_set hN hi hx (pe_bm0 PySem.F.plainAttrs_list PySem.F.slot_list_pop PySem.F.type_list_pop mt_pop ho hbase hline) hs hf) fun De σ H ⟨Z, μ, ρ, S, R, fl, ρ', S', e, q⟩ => by
    simp only [sPop, Option.bind_eq_some_iff, Option.map_eq_some_iff, Prod.mk.injEq] at e
    obtain ⟨od, e1, ⟨n, ds⟩, e3, d, e4, rfl, rfl, rfl⟩ := e
    refine ⟨Z, μ, ρ, S, R, od, e1, fun v H1 s1 r1 => ?_⟩
    obtain ⟨a, xs, rfl, hn, h1, hr, _⟩ := cell_of (R.wd.mono s1) r1 e3
    obtain ⟨y, hy, ry⟩ := RVL.get hr e4
    refine ⟨tyV_lst h1, a, xs, y, rfl, rfl, h1, by rw [RVL.length hr]; exact hy, ?_⟩
    exact q _ _ μ (((R.mono s1).wrL hn (RVL.dropLast' hr)).set (RV.wr (R.wd.mono s1) (List.mem_of_getElem? hn) ry))
/-- xs[k] = e -/
def sPut (f fo fi : E) : T := fun ρ S => (f ρ S).bind fun d => (fo ρ S).bind fun o => (fi ρ S).bind fun i => (cellD S o).bind fun c => match i with
  | .int k => (ixN c.2.length k).map fun j => (.nx, ρ, S.set c.1 (.lst (c.2.set j d)))
  | _ => none
theorem ds_put {i : Expr} {fi : E} {spos : Pos} (he : PE X e (tD X.K fa)) (ho : PE X o (tD X.K fo)) (hi : PE X i (tD X.K fi))
    (ha : ∀ v, assign (.Subscript o i spos) X.env v = (do
      let ov ← holding [v] (eval o X.env)
      let iv ← holding [v, ov] (eval i X.env)
      standAt spos
      holding [v, ov, iv] (setItem ov iv v)
      release [v, ov, iv] []) := by intro _; rfl)
    (hs : swapsWithSole [.Subscript o i spos] e pos.line X.env = pure false := by rfl) (hw : swappedStores [.Subscript o i spos] e X.env = pure none := by rfl)
    (h1 : (assignEach [.Subscript o i spos] X.env).map (·.2) = [assign (.Subscript o i spos) X.env] := by rfl) : PS X (.Assign [.Subscript o i spos] e pos) (tS X.K (sPut fa fo fi)) :=
  ps_imp (ps_asg he (pg_sub ho hi set_list ha) hs hw h1) fun De σ H ⟨Z, μ, ρ, S, R, fl, ρ', S', e, q⟩ => by
    simp only [sPut, Option.bind_eq_some_iff] at e
    obtain ⟨d, e0, od, e1, iD, e2, ⟨n, ds⟩, e3, e4⟩ := e
    split at e4
    case h_2 => cases e4
    rename_i k
    simp only [Option.map_eq_some_iff, Prod.mk.injEq] at e4
    obtain ⟨j, e5, rfl, rfl, rfl⟩ := e4
    refine ⟨Z, μ, ρ, S, R, d, e0, fun v H1 s1 r1 => ⟨Z, μ, ρ, S, R.mono s1, od, e1, fun u H2 s2 r2 => ⟨Z, μ, ρ, S, (R.mono s1).mono s2, _, e2, fun w H3 s3 r3 => ?_⟩⟩⟩
    obtain ⟨a, xs, rfl, hn, h1, hr, _⟩ := cell_of (((R.wd.mono s1).mono s2).mono s3) (RV.mono s3 r2) e3
    rw [rv_int.mp r3]
    refine ⟨a, xs, k, j, rfl, rfl, h1, by rw [RVL.length hr]; exact e5, ?_⟩
    exact q _ _ μ ((((R.mono s1).mono s2).mono s3).wrL hn (RVL.set (RV.mono (s2.trans s3) r1) j hr))
end
end DL

set_option maxHeartbeats 4000000
namespace DL
open PySem PySem.Spec L2

/-! ### what a def promises, as data -/
def spD (K : PySem.W.Frag) (n : Nat) (g : List D → Option D) : Sp := fun vs H Q _ => ∃ (A : Addr → Prop) (ds : List D), ds.length = n ∧ (∀ a, A a → H a ≠ none) ∧ RVL K A [] H ds vs ∧ ∃ r, g ds = some r ∧
  ∀ v H', Same H H' → RV K A [] H' r v → Q v H'
def spF (K : PySem.W.Frag) (n : Nat) (g : List D → Option (List D)) : Sp := fun vs H Q _ => ∃ (A : Addr → Prop) (ds : List D), ds.length = n ∧ (∀ a, A a → H a ≠ none) ∧ RVL K A [] H ds vs ∧ ∃ r, g ds = some r ∧
  ∀ a xs H', H a = none → Same H H' → H' a = some (.lst xs) → RVL K (fun b => A b ∨ b = a) [] H' r xs → Q (.ref a) H'
def startR (n : Nat) (ds : List D) : Rho := ds.map some ++ List.replicate (n - ds.length) none
def runD (body : T) (n : Nat) (ds : List D) : Option D := (body (startR n ds) []).bind fun r => match r with
  | (.rt d, _, S) => fz S d
  | (.rf es, _, S) => (fzs S es).map .lst
  | (.nx, _, _) => some .non
  | _ => none
def runF (body : T) (n : Nat) (ds : List D) : Option (List D) := (body (startR n ds) []).bind fun r => match r with
  | (.rf es, _, _) => if nrs es then some es else none
  | (.rt (.ref m), _, S) => match S[m]? with
    | some (.lst es) => if nrs es then some es else none
    | _ => none
  | _ => none
/-- the def stands in the module under its name -/
def Tx (K : PySem.W.Frag) (mg : Str → Option Value) (x : Str) (st : Stmt) (ps : List Str) : Prop := ∃ f fd, mg x = some (.ref f) ∧ Fun K x x st f fd ∧ Binds K fd ps []
def At (P : Program) (w : World) (K : PySem.W.Frag) (mg : Str → Option Value) (base : Heap) (x : Str) (k n : Nat) (g : List D → Option D) : Prop :=
  ∃ f fd ps, mg x = some (.ref f) ∧ PySem.W.keepIn K (.ref f) = true ∧ Binds K fd ps [] ∧ FnOk P w K mg base CX0 k f fd ps (spD K n g)
def AtF (P : Program) (w : World) (K : PySem.W.Frag) (mg : Str → Option Value) (base : Heap) (x : Str) (k n : Nat) (g : List D → Option (List D)) : Prop :=
  ∃ f fd ps, mg x = some (.ref f) ∧ PySem.W.keepIn K (.ref f) = true ∧ Binds K fd ps [] ∧ FnOk P w K mg base CX0 k f fd ps (spF K n g)

theorem startR_get {n : Nat} {ds : List D} {i : Nat} {d : D} (h : (startR n ds)[i]? = some (some d)) : ds[i]? = some d := by
  unfold startR at h
  by_cases hi : i < ds.length
  · rw [List.getElem?_append_left (by simpa using hi), List.getElem?_map] at h
    rw [Option.map_eq_some_iff] at h
    obtain ⟨e, h1, h2⟩ := h
    cases h2
    exact h1
  · rw [List.getElem?_append_right (by simpa using hi), List.getElem?_replicate] at h
    split at h <;> cases h
theorem rel_start {K : PySem.W.Frag} {H : Hp} {A : Addr → Prop} {ds : List D} {vs : List V} {N : List Str} {cl : Nat → Addr} (hA : ∀ a, A a → H a ≠ none) (hl : ds.length ≤ N.length) (r : RVL K A [] H ds vs) :
    Rel K ⟨H, A, [], cl⟩ [] (L2.start N vs) H (startR N.length ds) [] := by
  have hv := RVL.length r
  refine ⟨⟨rfl, List.nodup_nil, fun n c a h _ => by simp at h, fun a o e => e, fun a h => by simp at h, hA, fun a h => by simp at h, List.prefix_refl _⟩, ?_, fun i d h => ?_⟩
  · unfold L2.start startR
    simp only [List.length_append, List.length_map, List.length_replicate]
    omega
  · obtain ⟨v, h1, h2⟩ := RVL.get r (startR_get h)
    refine ⟨v, ?_, RV.tr (fun a o e hn => ⟨e, fun m q => by
      rcases q with q | q
      · exact hn m q
      · simp at q⟩) (fun _ _ e => e) d v h2⟩
    unfold L2.start
    have hi := (List.getElem?_eq_some_iff.mp h1).1
    rw [List.getElem?_append_left (by simpa using hi), List.getElem?_map, h1]
    rfl
section
variable {P : Program} {w : World} {K : PySem.W.Frag} {mg : Str → Option Value} {base : Heap} {x : Str} {st : Stmt} {N ps : List Str} {k : Nat} {body : T}
theorem fnO {f : Addr} {fd : FuncData} (F : Fun K x x st f fd) (S : FnScope N ps (defScope st))
    (hb : ∀ (f : Addr) (cdv : Value) (A : Around) (outer : List Env) (s : Shared) (H : Hp) (E : XK), Room k (A.deeper (PyProof.Rows.envOfC x (defScope st) s.heap.objs.size f cdv)) → PSs (cxOf CX0 P w K mg base N x (defScope st) f cdv A outer s H E).nox (defBody st) (tS K body)) :
    FnOk P w K mg base CX0 (k + 1) f fd ps (spD K ps.length (runD body N.length)) := by
  have hlN : ps.length ≤ N.length := by
    have := congrArg List.length S.pre
    rw [List.length_take] at this
    omega
  refine F.ok S (fun vs H Q E h => ?_) fun cdv A outer s H vs Q E hr h => ?_
  · obtain ⟨A, ds, hl, _, r, _⟩ := h
    rw [RVL.length r, hl]
  · obtain ⟨Av, ds, hl, hA, r, d, hg, q⟩ := h
    refine ⟨_, hb f cdv A outer s H E hr, ?_⟩
    simp only [runD, Option.bind_eq_some_iff] at hg
    obtain ⟨⟨fl, ρ', S'⟩, e1, e2⟩ := hg
    refine ⟨⟨H, Av, [], fun _ => 0⟩, [], _, [], rel_start hA (by omega) r, fl, ρ', S', e1, ?_⟩
    cases fl with
    | nx =>
      simp only [Option.some.injEq] at e2
      subst e2
      exact fun σ H' μ R => q .non H' (fun a o e => R.wd.base a o e) (rv_non.mpr rfl)
    | bk => simp at e2
    | ct => simp at e2
    | rt e => exact fun v σ H' μ R rv => q v H' (fun a o e => R.wd.base a o e) (RV.fz R.wd e2 rv)
    | rf es =>
      simp only [Option.map_eq_some_iff] at e2
      obtain ⟨es', e3, rfl⟩ := e2
      exact fun a xs σ H' μ R n na h1 rv => q _ H' (fun a o e => R.wd.base a o e) (rv_lst.mpr ⟨a, xs, rfl, h1, fun z => na (.inl z), RVL.fzs R.wd e3 rv.weakO⟩)
theorem fnD (h : Tx K mg x st ps) (S : FnScope N ps (defScope st))
    (hb : ∀ (f : Addr) (cdv : Value) (A : Around) (outer : List Env) (s : Shared) (H : Hp) (E : XK), Room k (A.deeper (PyProof.Rows.envOfC x (defScope st) s.heap.objs.size f cdv)) → PSs (cxOf CX0 P w K mg base N x (defScope st) f cdv A outer s H E).nox (defBody st) (tS K body)) :
    At P w K mg base x (k + 1) ps.length (runD body N.length) := by
  obtain ⟨f, fd, hm, F, hbi⟩ := h
  exact ⟨f, fd, ps, hm, F.kp, hbi, fnO F S hb⟩
theorem fnF (h : Tx K mg x st ps) (S : FnScope N ps (defScope st))
    (hb : ∀ (f : Addr) (cdv : Value) (A : Around) (outer : List Env) (s : Shared) (H : Hp) (E : XK), Room k (A.deeper (PyProof.Rows.envOfC x (defScope st) s.heap.objs.size f cdv)) → PSs (cxOf CX0 P w K mg base N x (defScope st) f cdv A outer s H E).nox (defBody st) (tS K body)) :
    AtF P w K mg base x (k + 1) ps.length (runF body N.length) := by
  obtain ⟨f, fd, hm, F, hbi⟩ := h
  have hlN : ps.length ≤ N.length := by
    have := congrArg List.length S.pre
    rw [List.length_take] at this
    omega
  refine ⟨f, fd, ps, hm, F.kp, hbi, F.ok S (fun vs H Q E h => ?_) fun cdv A outer s H vs Q E hr h => ?_⟩
  · obtain ⟨A, ds, hl, _, r, _⟩ := h
    rw [RVL.length r, hl]
  · obtain ⟨Av, ds, hl, hA, r, d, hg, q⟩ := h
    refine ⟨_, hb f cdv A outer s H E hr, ?_⟩
    simp only [runF, Option.bind_eq_some_iff] at hg
    obtain ⟨⟨fl, ρ', S'⟩, e1, e2⟩ := hg
    refine ⟨⟨H, Av, [], fun _ => 0⟩, [], _, [], rel_start hA (by omega) r, fl, ρ', S', e1, ?_⟩
    cases fl with
    | nx => simp at e2
    | bk => simp at e2
    | ct => simp at e2
    | rt e =>
      cases e with
      | ref m =>
        simp only at e2
        split at e2
        · rename_i es hc
          split at e2
          · rename_i hnr
            simp only [Option.some.injEq] at e2
            subst e2
            intro v σ H' μ R rv
            obtain ⟨a, rfl, hna⟩ := rv_ref.mp rv
            obtain ⟨xs, h1, h2⟩ := R.wd.cell m _ a hc hna
            have hm : a ∈ μ := List.mem_of_getElem? hna
            refine q a xs H' (R.wd.dis a hm) (fun a o e => R.wd.base a o e) h1 (RVL.nr (μ := μ) _ _ hnr (RVL.tr (av := avd _ μ) (μ := μ) (fun b o e hn => ⟨e, fun m z => ?_⟩) (fun _ _ e => e) _ _ h2))
            rcases z with z | z
            · exact hn m (.inl z)
            · subst z; exact hn m (.inr hm)
          · cases e2
        · cases e2
      | _ => simp at e2
    | rf es =>
      simp only at e2
      split at e2
      · rename_i hnr
        simp only [Option.some.injEq] at e2
        subst e2
        intro a xs σ H' μ R n na h1 rv
        refine q a xs H' n (fun a o e => R.wd.base a o e) h1 (RVL.nr (μ := μ) _ _ hnr (RVL.tr (av := avO _ μ a) (μ := μ) (fun b o e hn => ⟨e, fun m z => ?_⟩) (fun _ _ e => e) _ _ rv))
        rcases z with z | z
        · exact hn m (.inl (.inl z))
        · exact hn m (.inr z)
      · cases e2
end

/-! ### calls of the program's own defs -/
def eFn (g : List D → Option D) (fs : EL) : E := fun ρ S => (fs ρ S).bind fun ds => if nrs ds then g ds else (fzs S ds).bind fun es => (g es).bind fun r => if imm r then some r else none
def fFn (g : List D → Option (List D)) (fs : EL) : EL := fun ρ S => (fs ρ S).bind fun ds => if nrs ds then g ds else (fzs S ds).bind fun es => (g es).bind fun r => if imms r then some r else none
section
variable {K : PySem.W.Frag} {Z : Fr} {μ : List Addr} {H : Hp} {S : Sto}
theorem RV.toMu {d : D} {v : V} {av : Addr → Prop} (h : RV K av [] H d v) : RV K av μ H d v := RV.tr (fun a o e hn => ⟨e, hn⟩) (fun n a e => by simp at e) d v h
theorem RVL.toMu {d : List D} {v : List V} {av : Addr → Prop} (h : RVL K av [] H d v) : RVL K av μ H d v := RVL.tr (fun a o e hn => ⟨e, hn⟩) (fun n a e => by simp at e) d v h
theorem Wd.avd (W : Wd K Z μ H S) : ∀ a, DL.avd Z μ a → H a ≠ none := fun a h q => W.fresh q h
theorem fzs_len : ∀ {ds es : List D}, fzs S ds = some es → es.length = ds.length
  | [], es, h => by simp only [fzs, Option.some.injEq] at h; subst h; rfl
  | d :: ds, es, h => by
    simp only [fzs, Option.bind_eq_some_iff, Option.map_eq_some_iff] at h
    obtain ⟨e, _, es', h2, rfl⟩ := h
    simp [fzs_len h2]
/-- the callee's answer, from what the caller has -/
theorem sp_of {n : Nat} {g : List D → Option D} {ds : List D} {d : D} {vs : List V} {Q : VK} {E : XK} (W : Wd K Z μ H S) (hl : ds.length = n) (r : RVLz K Z μ H ds vs)
    (e : (if nrs ds then g ds else (fzs S ds).bind fun es => (g es).bind fun r => if imm r then some r else none) = some d) (q : ∀ w H', Same H H' → RVz K Z μ H' d w → Q w H') : spD K n g vs H Q E := by
  by_cases hn : nrs ds = true
  · rw [if_pos hn] at e
    exact ⟨avd Z μ, ds, hl, W.avd, RVL.nr _ _ hn r, d, e, fun v H' s rv => q v H' s (RV.toMu rv)⟩
  · rw [if_neg hn] at e
    simp only [Option.bind_eq_some_iff] at e
    obtain ⟨es, e1, r', e2, e3⟩ := e
    split at e3
    · rename_i hi
      cases e3
      exact ⟨Z.A, es, (fzs_len e1).trans hl, W.av, RVL.fzs W e1 r, d, e2, fun v H' s rv => q v H' s (RV.imm _ _ hi rv)⟩
    · cases e3
theorem spF_of {n : Nat} {g : List D → Option (List D)} {ds es : List D} {vs : List V} {Q : VK} {E : XK} (W : Wd K Z μ H S) (hl : ds.length = n) (r : RVLz K Z μ H ds vs)
    (e : (if nrs ds then g ds else (fzs S ds).bind fun es => (g es).bind fun r => if imms r then some r else none) = some es) (q : ∀ a xs H', H a = none → Same H H' → H' a = some (.lst xs) → RVL K (avO Z μ a) μ H' es xs → Q (.ref a) H') : spF K n g vs H Q E := by
  by_cases hn : nrs ds = true
  · rw [if_pos hn] at e
    exact ⟨avd Z μ, ds, hl, W.avd, RVL.nr _ _ hn r, es, e, fun a xs H' n s h1 rv => q a xs H' n s h1 (RVL.toMu rv)⟩
  · rw [if_neg hn] at e
    simp only [Option.bind_eq_some_iff] at e
    obtain ⟨es', e1, r', e2, e3⟩ := e
    split at e3
    · rename_i hi
      simp only [Option.some.injEq] at e3
      subst e3
      exact ⟨Z.A, es', (fzs_len e1).trans hl, W.av, RVL.fzs W e1 r, _, e2, fun a xs H' n s h1 rv => q a xs H' n s h1 (RVL.imm _ _ hi rv)⟩
    · cases e3
end
section
variable {X : Cx} {e : Expr} {es : List Expr} {x : Str} {p pos : Pos} {k j n : Nat} {fs : EL}
theorem d_call {g : List D → Option D} (h : At X.prog X.w X.K X.mg X.base x k n g) (hr : Room j X.A) (hk : k ≤ j) (hg : Gl X x) (ha : PA X (e :: es) (tA X.K fs)) (hl : ∀ {ρ : Rho} {S : Sto} {ds : List D}, fs ρ S = some ds → ds.length = n)
    (hdb : (x == ("__debug__" : Str)) = false := by decide) (he : starEach (e :: es) X.env = (false, eval e X.env) :: starEach es X.env := by rfl) (hpl : (backTo pos (starEach es X.env)).any (·.1) = false := by rfl) :
    PE X (.Call (.Name x p) (e :: es) [] pos) (tD X.K (eFn g fs)) := by
  obtain ⟨f, fd, ps, hm, hkp, hb, F⟩ := h
  refine pe_imp (pe_call F (hr.mono hk) hg hm hkp hb .nil pass0 ha hdb he hpl) fun σ H Q ⟨Z, μ, ρ, S, R, d, ef, q⟩ => ?_
  simp only [eFn, Option.bind_eq_some_iff] at ef
  obtain ⟨ds, e1, e2⟩ := ef
  refine ⟨Z, μ, ρ, S, R, ds, e1, fun vs H1 s1 r1 => ?_⟩
  show spD _ _ _ (vs ++ []) _ _ _
  rw [List.append_nil]
  exact sp_of (R.wd.mono s1) (hl e1) r1 e2 fun w H' s2 r2 => q w H' (s1.trans s2) r2
theorem d_callF {g : List D → Option (List D)} (h : AtF X.prog X.w X.K X.mg X.base x k n g) (hr : Room j X.A) (hk : k ≤ j) (hg : Gl X x) (ha : PA X (e :: es) (tA X.K fs)) (hl : ∀ {ρ : Rho} {S : Sto} {ds : List D}, fs ρ S = some ds → ds.length = n)
    (hdb : (x == ("__debug__" : Str)) = false := by decide) (he : starEach (e :: es) X.env = (false, eval e X.env) :: starEach es X.env := by rfl) (hpl : (backTo pos (starEach es X.env)).any (·.1) = false := by rfl) :
    PE X (.Call (.Name x p) (e :: es) [] pos) (tF X.K (fFn g fs)) := by
  obtain ⟨f, fd, ps, hm, hkp, hb, F⟩ := h
  refine pe_imp (pe_call F (hr.mono hk) hg hm hkp hb .nil pass0 ha hdb he hpl) fun σ H Q ⟨Z, μ, ρ, S, R, d, ef, q⟩ => ?_
  simp only [fFn, Option.bind_eq_some_iff] at ef
  obtain ⟨ds, e1, e2⟩ := ef
  refine ⟨Z, μ, ρ, S, R, ds, e1, fun vs H1 s1 r1 => ?_⟩
  show spF _ _ _ (vs ++ []) _ _ _
  rw [List.append_nil]
  exact spF_of (R.wd.mono s1) (hl e1) r1 e2 fun a xs H' n s2 h1 r2 => q a xs H' (s1.free n) (s1.trans s2) h1 r2
end
/-- how many: by the row's own make -/
theorem len_nil {ρ : Rho} {S : Sto} {ds : List D} (h : aNil ρ S = some ds) : ds.length = 0 := by
  simp only [aNil, Option.some.injEq] at h; subst h; rfl
theorem len_cons {f : E} {fs : EL} {n : Nat} (ih : ∀ {ρ : Rho} {S : Sto} {ds : List D}, fs ρ S = some ds → ds.length = n) {ρ : Rho} {S : Sto} {ds : List D} (h : aCons f fs ρ S = some ds) : ds.length = n + 1 := by
  simp only [aCons, Option.bind_eq_some_iff, Option.map_eq_some_iff] at h
  obtain ⟨d, _, es, h2, rfl⟩ := h
  simp [ih h2]
end DL

set_option maxHeartbeats 4000000
namespace DL
open PySem PySem.Spec L2

/-! ### the order of data -/
section order
open PySem.W PyProof.Rows
theorem swo_data : SrtO.Swo dataLt := by
  refine ⟨fun x y h => ?_, fun x y z h1 h2 => ?_⟩
  · cases e : dataLt y x with
    | false => rfl
    | true =>
      have q := lex_trans (O := itemOrd) _ _ _ h e
      rw [lex_irrefl] at q
      cases q
  · cases e : dataLt z x with
    | false => rfl
    | true =>
      rcases lex_negTrans (O := itemOrd) _ (keyToks y) _ e with q | q
      · exact absurd (q.symm.trans h2) (by decide)
      · exact absurd (q.symm.trans h1) (by decide)
end order
section reading
open PySem.W PyProof.Rows SeqAt
variable {h : Heap} {xs : List PyData}
def AlkAll (xs : List PyData) : Prop := ∀ x ∈ xs, ∀ y ∈ xs, alike x y = true
open Classical in
noncomputable def rdV (h : Heap) (xs : List PyData) (v : Value) : PyData := if q : ∃ d, d ∈ xs ∧ ∃ as, Reads h v d as then q.choose else .none
theorem rdV_of (hal : AlkAll xs) {d : PyData} {v : Value} {as : List Addr} (hd : d ∈ xs) (r : Reads h v d as) : rdV h xs v = d := by
  have q : ∃ d, d ∈ xs ∧ ∃ as, Reads h v d as := ⟨d, hd, as, r⟩
  unfold rdV
  rw [dif_pos q]
  obtain ⟨h1, bs, h2⟩ := q.choose_spec
  exact alike_unique _ _ _ _ _ (hal _ h1 _ hd) h2 r
end reading

section kinds
open PySem.W PyProof.Rows SeqAt
variable {prog : Program} {w : World} {A : Around} {E : Value → Shared → Prop} {s : Shared}
theorem call_tuple_lt' {Q : Value → Shared → Prop} {l b : Addr} {its jts : Array Value} {e r : Nat → Bool} (x : s.heap.IsTuple l its) (y : s.heap.IsTuple b jts)
    (he : ∀ j (h1 : j < its.size) (h2 : j < jts.size), EqAt A.in1 s its[j] jts[j] (e j))
    (hr : ∀ j (h1 : j < its.size) (h2 : j < jts.size), e j = false → RcLt A.in1 s its[j] jts[j] (r j))
    (q : Q (.bool (firstLt e r (decide (its.size < jts.size)) (List.range (min its.size jts.size)))) s) :
    wpAny (model prog w) A (call (.builtin "tuple.__lt__") [.ref l, .ref b]) Q E s := by
  obtain ⟨o1, g1, c1, n1, d1⟩ := id x
  obtain ⟨o2, g2, c2, n2, d2⟩ := id y
  obtain ⟨k1, dd1, da1, sl1⟩ := o1
  obtain ⟨k2, dd2, da2, sl2⟩ := o2
  have c1' : k1 = .type "tuple" := c1
  have c2' : k2 = .type "tuple" := c2
  have d1' : da1 = .seq its n1 := d1
  have d2' : da2 = .seq jts n2 := d2
  subst c1' c2' d1' d2'
  have M := tuple_ltAt l b its jts n1 n2 dd1 dd2 sl1 sl2 e r
  exact call_meets F.slot_tuple_lt ⟨_, g1, rfl⟩ F.entry_tuple_lt (F.args_tuple_lt_2 _ _) M ⟨g1, g2, he, hr, q⟩
/-- one key against another, any alike data -/
theorem oneLt_any {f : Bool} {da db : PyData} {a b : Value} {as bs : List Addr} {Q : Bool → Shared → Prop} (ra : Reads s.heap a da as) (rb : Reads s.heap b db bs) (h : alike da db = true) (hn : da ≠ .none)
    (hu : A.units + min da.depth db.depth < cLine) (q : Q (dataLt da db) s) : wpAny (model prog w) A (oneLt' f a b) Q E s := by
  by_cases hf : f = true ∧ ∃ xs, da = .tuple xs
  · obtain ⟨rfl, xs, rfl⟩ := hf
    cases db with
    | tuple ys =>
      have al : alikeAll xs ys = true := by simpa [alike] using h
      cases ra with
      | @tuple l o vs n _ _ g1 c1 d1 r1 =>
        cases rb with
        | @tuple l' o' vs' n' _ _ g2 c2 d2 r2 =>
          have n1 : vs.size = xs.length := by simpa using ReadsAll.length _ _ _ r1
          have n2 : vs'.size = ys.length := by simpa using ReadsAll.length _ _ _ r2
          rw [dataLt_tuple, ← firstLt_toks xs ys al, ← n1, ← n2] at q
          rw [oneLt'_eq]
          simp only [if_true]
          refine wpAny_bind (wpAny_cRoomFor (room_here hu) (wpAny_bind ?_))
          have hE : ∀ j (h1 : j < vs.size) (h2 : j < vs'.size), EqAt A.in1 s vs[j] vs'[j] (pairEq xs ys j) := fun j j1 j2 => by
            have z := eqAt_alikeAll xs ys A.in1 s vs.toList vs'.toList _ _ r1 r2 al (room_in hu) j (by simpa using j1) (by simpa using j2)
            simpa using z
          have hL : ∀ j (h1 : j < vs.size) (h2 : j < vs'.size), pairEq xs ys j = false → RcLt A.in1 s vs[j] vs'[j] (dataLt (xs.getD j .none) (ys.getD j .none)) := fun j j1 j2 hj => by
            have z := rcLt_alikeAll xs ys A.in1 s vs.toList vs'.toList _ _ r1 r2 al (room_in hu) j (by simpa using j1) (by simpa using j2) hj
            simpa using z
          exact wpAny_callSpecialIfBound?_slot (T := "tuple") ⟨_, g1, c1⟩ F.slot_tuple_lt (call_tuple_lt' ⟨_, g1, c1, _, d1⟩ ⟨_, g2, c2, _, d2⟩ hE hL (wpAny_truthy_bool q))
    | _ => exact absurd h (by simp [alike])
  · exact oneLt_alike (fun e xs q => hf ⟨e, xs, q⟩) ra rb h hn hu q

def tyP : PyData → Value
  | .none => .type "NoneType"
  | .bool _ => .type "bool"
  | .int _ => .type "int"
  | .str _ => .type "str"
  | .list _ => .type "list"
  | .tuple _ => .type "tuple"
  | .dict _ => .type "dict"
theorem tyP_looks {M : Model} {h : Heap} {v : Value} {d : PyData} {as : List Addr} (r : Reads h v d as) : Looks M h (typeOf v) (tyP d) := by
  cases r with
  | none => exact .now
  | bool => exact .now
  | int => exact .now
  | str => exact .now
  | list g c d r => exact (show tyP (.list _) = _ from c.symm) ▸ (Looks.ld g).andThen .now
  | tuple g c d r => exact (show tyP (.tuple _) = _ from c.symm) ▸ (Looks.ld g).andThen .now
  | dict g c d r1 r2 => exact (show tyP (.dict _) = _ from c.symm) ▸ (Looks.ld g).andThen .now
theorem alike_ty {x y : PyData} (h : alike x y = true) : tyP x = tyP y := by
  cases x <;> cases y <;> first | rfl | (exact absurd h (by simp [alike]))
def isNe : PyData → Bool
  | .tuple (_ :: _) => true
  | _ => false
theorem types_of {M : Model} : ∀ {vs : List Value} {xs : List PyData} {as : List Addr}, ReadsAll s.heap vs xs as → ∃ ts : List Value, ∀ (Q : List Value → Shared → Prop) (E : Value → Shared → Prop), Q ts s → wpAny M A (vs.mapM typeOf) Q E s
  | _, _, _, .nil => ⟨[], fun Q E q => by rw [List.mapM_nil]; exact wpAny_pure q⟩
  | _, _, _, .cons (d := d) r rs => by
    obtain ⟨ts, ih⟩ := types_of (M := M) rs
    refine ⟨tyP d :: ts, fun Q E q => ?_⟩
    rw [List.mapM_cons]
    exact wpAny_bind ((tyP_looks r).here (wpAny_bind (ih (fun bs s' => wpAny M A (pure (_ :: bs)) Q E s') E (wpAny_pure q))))
theorem firstsD {M : Model} : ∀ {vs : List Value} {xs : List PyData} {as : List Addr}, ReadsAll s.heap vs xs as → ∃ os : List (Option Value), os.all (·.isSome) = xs.all isNe ∧ ∀ (Q : List (Option Value) → Shared → Prop) (E : Value → Shared → Prop), Q os s → wpAny M A (vs.mapM firstOfTuple') Q E s
  | _, _, _, .nil => ⟨[], rfl, fun Q E q => by rw [List.mapM_nil]; exact wpAny_pure q⟩
  | _, _, _, .cons (v := v) (d := d) r rs => by
    obtain ⟨os, e, ih⟩ := firstsD (M := M) rs
    have one : ∃ o : Option Value, o.isSome = isNe d ∧ ∀ (Q : Option Value → Shared → Prop) (E : Value → Shared → Prop), Q o s → wpAny M A (firstOfTuple' v) Q E s := by
      by_cases ht : tyP d = .type "tuple"
      · cases r with
        | @tuple l o us n zs _ g c dd r =>
          refine ⟨us[0]?, ?_, fun Q E q => ?_⟩
          · have hl : us.size = zs.length := by simpa using ReadsAll.length _ _ _ r
            cases zs with
            | nil =>
              rw [List.length_nil] at hl
              have : us[0]? = none := by simp [hl]
              rw [this]; rfl
            | cons z zs =>
              rw [List.length_cons] at hl
              have : us[0]? = some us[0] := by simp
              rw [this]; rfl
          · rw [kas_first_eq]
            refine wpAny_bind ((tyP_looks (.tuple g c dd r)).here ?_)
            rw [if_neg (by first | decide | simp [tyP])]
            exact wpAny_bind (listItems_at g dd (wpAny_pure q))
        | none => exact absurd ht (by simp [tyP])
        | bool => exact absurd ht (by simp [tyP])
        | int => exact absurd ht (by simp [tyP])
        | str => exact absurd ht (by simp [tyP])
        | list => exact absurd ht (by simp [tyP])
        | dict => exact absurd ht (by simp [tyP])
      · refine ⟨none, ?_, fun Q E q => ?_⟩
        · cases d <;> first | rfl | exact absurd rfl ht
        · rw [kas_first_eq]
          refine wpAny_bind ((tyP_looks r).here ?_)
          have hb : (tyP d != Value.type "tuple") = true := by
            cases d <;> first | (exact absurd rfl ht) | rfl | decide
          rw [if_pos hb]
          exact wpAny_pure q
    obtain ⟨o, eo, ho⟩ := one
    refine ⟨o :: os, by simp [eo, e], fun Q E q => ?_⟩
    rw [List.mapM_cons]
    exact wpAny_bind (ho _ _ (wpAny_bind (ih (fun bs s' => wpAny M A (pure (_ :: bs)) Q E s') E (wpAny_pure q))))

def GoodK (κ : SortKind) (xs : List PyData) : Prop := κ = oneType' ∨ κ = general' ∨ ∃ b, κ = tuples' b ∧ (∀ x ∈ xs, ∃ y ys, x = .tuple (y :: ys)) ∧ (b = true → ∀ x ∈ xs, ∀ y ys, x = .tuple (y :: ys) → ∀ t, y ≠ .tuple t)
theorem tups_of {h : Heap} : ∀ {vs : List Value} {xs : List PyData} {as : List Addr}, ReadsAll h vs xs as → xs.all isNe = true →
    ∃ fs : List Value, KatTups h vs fs ∧ ∀ f ∈ fs, ∃ y ys bs, .tuple (y :: ys) ∈ xs ∧ Reads h f y bs
  | _, _, _, .nil, _ => ⟨[], KatTups.nil, fun f hf => absurd hf (by simp)⟩
  | _, _, _, .cons (v := v) (d := d) r rs, e => by
    simp only [List.all_cons, Bool.and_eq_true] at e
    obtain ⟨fs, k, hf⟩ := tups_of rs e.2
    cases r with
    | @tuple l o us n zs _ g c dd r =>
      cases zs with
      | nil => exact absurd e.1 (by simp [isNe])
      | cons z zs =>
        have e0 : us = ⟨us.toList⟩ := rfl
        generalize hus : us.toList = ul at r e0
        subst e0
        cases r with
        | @cons f ul' _ _ b1 _ r1 r2 =>
          refine ⟨f :: fs, KatTups.cons g c dd (by simp) k, fun f' hf' => ?_⟩
          rcases List.mem_cons.mp hf' with rfl | hf'
          · exact ⟨z, zs, _, List.mem_cons_self, r1⟩
          · obtain ⟨y, ys, bs, m, r⟩ := hf f' hf'
            exact ⟨y, ys, bs, List.mem_cons_of_mem _ m, r⟩
    | none => exact absurd e.1 (by simp [isNe])
    | bool => exact absurd e.1 (by simp [isNe])
    | int => exact absurd e.1 (by simp [isNe])
    | str => exact absurd e.1 (by simp [isNe])
    | list => exact absurd e.1 (by simp [isNe])
    | dict => exact absurd e.1 (by simp [isNe])
theorem kind_data {M : Model} {vs : List Value} {xs : List PyData} {as : List Addr} (r : ReadsAll s.heap vs xs as) (hal : AlkAll xs) (h2 : 2 ≤ vs.length) :
    ∃ κ, GoodK κ xs ∧ ∀ (Q : SortKind → Shared → Prop) (E : Value → Shared → Prop), Q κ s → wpAny M A (keyKind' vs.toArray) Q E s := by
  by_cases hn : xs.all isNe = true
  · obtain ⟨fs, k, hf⟩ := tups_of r hn
    have hl : vs.length = xs.length := ReadsAll.length _ _ _ r
    match xs, hl, hal, hn, hf with
    | [], hl, _, _, _ => exact absurd h2 (by rw [hl]; decide)
    | x :: xs', hl, hal, hn, hf =>
      have hx : isNe x = true := by
        simp only [List.all_cons, Bool.and_eq_true] at hn
        exact hn.1
      obtain ⟨y, ys, rfl⟩ : ∃ y ys, x = .tuple (y :: ys) := by
        match x, hx with
        | .tuple (y :: ys), _ => exact ⟨y, ys, rfl⟩
      have hfl : 0 < fs.length := by
        match vs, fs, k, h2 with
        | _ :: _, _ :: _, _, _ => simp
        | _ :: _, [], k, _ => exact absurd k (by simp [KatTups])
        | [], _, _, h2 => exact absurd h2 (by simp)
      have hal0 : ∀ z zs, PyData.tuple (z :: zs) ∈ PyData.tuple (y :: ys) :: xs' → tyP z = tyP y := fun z zs m => by
        have q := hal _ m _ List.mem_cons_self
        have q' : alikeAll (z :: zs) (y :: ys) = true := by simpa [alike] using q
        exact alike_ty (alike_all_cons q').1
      refine ⟨tuples' (tyP y != Value.type "tuple"), .inr (.inr ⟨_, rfl, fun z m => ?_, fun hb z m u us e t q => ?_⟩), fun Q E q => ?_⟩
      · have hz : isNe z = true := List.all_eq_true.mp hn z m
        match z, hz with
        | .tuple (y :: ys), _ => exact ⟨y, ys, rfl⟩
      · subst e q
        have e2 := hal0 _ _ m
        rw [← e2] at hb
        exact absurd hb (by simp [tyP])
      · refine kat_kind (T := tyP y) k hfl (fun f m => ?_) (by cases y <;> rfl) q
        obtain ⟨z, zs, bs, m', r'⟩ := hf f m
        rw [← hal0 _ _ m']
        exact tyP_looks r'
  · obtain ⟨os, eo, ho⟩ := firstsD (A := A) (M := M) r
    obtain ⟨ts, ht⟩ := types_of (A := A) (M := M) r
    have en : (os.toArray.all fun x => x.isSome) = false := by
      rw [List.all_toArray, eo]
      exact Bool.eq_false_iff.mpr hn
    by_cases h0 : ((os.toArray[0]?).bind id).isSome = true
    · refine ⟨general', .inr (.inl rfl), fun Q E q => ?_⟩
      rw [kat_kind_eq, List.mapM_toArray, map_eq_pure_bind]
      refine wpAny_bind (wpAny_bind (ho _ _ (wpAny_pure ?_)))
      rw [if_neg (by rw [en]; decide), if_pos h0]
      exact wpAny_pure q
    · have rest : ∀ κ, κ = (if (match ts.toArray[0]? with | some t => if ts.toArray.all (· == t) then some t else none | none => none : Option Value).isSome then oneType' else general') →
          ∀ (Q : SortKind → Shared → Prop) (E : Value → Shared → Prop), Q κ s → wpAny M A (keyKind' vs.toArray) Q E s := fun κ hκ Q E q => by
        rw [kat_kind_eq, List.mapM_toArray, map_eq_pure_bind]
        refine wpAny_bind (wpAny_bind (ho _ _ (wpAny_pure ?_)))
        rw [if_neg (by rw [en]; decide), if_neg h0]
        rw [oneTypeOnly'_eq, List.mapM_toArray, map_eq_pure_bind]
        refine wpAny_bind (wpAny_bind (wpAny_bind (ht _ _ (wpAny_pure ?_))))
        rw [hκ] at q
        generalize ts.toArray[0]? = t0 at q ⊢
        cases t0 with
        | none => exact wpAny_pure (wpAny_pure q)
        | some t => exact wpAny_pure (wpAny_pure q)
      have gk : ∀ b : Bool, GoodK (if b then oneType' else general') xs := fun b => by
        cases b
        · exact .inr (.inl rfl)
        · exact .inl rfl
      exact ⟨_, gk _, rest _ rfl⟩
end kinds
end DL

set_option maxHeartbeats 4000000
namespace DL
open PySem PySem.Spec L2

section sorts
open PySem.W PyProof.Rows SeqAt
variable {prog : Program} {w : World} {A : Around} {E : Value → Shared → Prop} {s : Shared}
theorem readsAll_mem {h : Heap} : ∀ {vs : List Value} {xs : List PyData} {as : List Addr}, ReadsAll h vs xs as → ∀ v ∈ vs, ∃ d as, d ∈ xs ∧ Reads h v d as
  | _, _, _, .nil, _, m => absurd m (by simp)
  | _, _, _, .cons r rs, v, m => by
    rcases List.mem_cons.mp m with rfl | m
    · exact ⟨_, _, List.mem_cons_self, r⟩
    · obtain ⟨d, as, h1, h2⟩ := readsAll_mem rs v m
      exact ⟨d, as, List.mem_cons_of_mem _ h1, h2⟩
theorem readsAll_keep {h h' : Heap} (k : ∀ b o, h.get? b = some o → h'.get? b = some o) : ∀ {vs : List Value} {xs : List PyData} {as : List Addr}, ReadsAll h vs xs as → ReadsAll h' vs xs as
  | _, _, _, .nil => .nil
  | _, _, _, .cons r rs => .cons (Reads.keeps k r) (readsAll_keep k rs)
theorem depth_le {x : PyData} : ∀ {xs : List PyData}, x ∈ xs → x.depth ≤ PyData.depthAll xs
  | [], m => absurd m (by simp)
  | y :: ys, m => by
    rw [PyData.depthAll]
    rcases List.mem_cons.mp m with rfl | m
    · exact Nat.le_max_left _ _
    · exact Nat.le_trans (depth_le m) (Nat.le_max_right _ _)
theorem cmp_data {vs : List Value} {xs : List PyData} {as : List Addr} {κ : SortKind} (r : ReadsAll s.heap vs xs as) (hal : AlkAll xs) (hn : ∀ x ∈ xs, x ≠ .none) (hu : A.units + PyData.depthAll xs < cLine) (g : GoodK κ xs) :
    SrtO.Cmp prog w A s κ (fun p => p.1 ∈ vs) (SrtO.lt2 fun v u => dataLt (rdV s.heap xs v) (rdV s.heap xs u)) := by
  intro p q hp hq
  obtain ⟨da, a1, m1, r1⟩ := readsAll_mem r _ hp
  obtain ⟨db, a2, m2, r2⟩ := readsAll_mem r _ hq
  have e1 := rdV_of hal m1 r1
  have e2 := rdV_of hal m2 r2
  show wpAny (model prog w) A (keyLt' κ p.1 q.1) (fun r s' => s' = s ∧ r = dataLt (rdV s.heap xs p.1) (rdV s.heap xs q.1)) (fun _ _ => False) s
  rw [e1, e2]
  have hd := depth_le m1
  have hu' : A.units + min da.depth db.depth < cLine := Nat.lt_of_le_of_lt (Nat.add_le_add_left (Nat.le_trans (Nat.min_le_left _ _) hd) _) hu
  rcases g with rfl | rfl | ⟨b, rfl, t1, t2⟩
  · exact oneLt_any (f := true) r1 r2 (hal _ m1 _ m2) (hn _ m1) hu' ⟨rfl, rfl⟩
  · exact oneLt_any (f := false) r1 r2 (hal _ m1 _ m2) (hn _ m1) hu' ⟨rfl, rfl⟩
  · obtain ⟨y, ys, rfl⟩ := t1 _ m1
    obtain ⟨z, zs, rfl⟩ := t1 _ m2
    generalize p.1 = pv at r1 ⊢
    generalize q.1 = qv at r2 ⊢
    have al : alikeAll (y :: ys) (z :: zs) = true := by simpa [alike] using hal _ m1 _ m2
    rw [dataLt_tuple]
    cases r1 with
    | @tuple l o vs n _ _ g1 c1 d1 r1 =>
      cases r2 with
      | @tuple l' o' vs' n' _ _ g2 c2 d2 r2 =>
        have n1 : vs.size = (y :: ys).length := by simpa using ReadsAll.length _ _ _ r1
        have n2 : vs'.size = (z :: zs).length := by simpa using ReadsAll.length _ _ _ r2
        refine kat_lt g1 d1 g2 d2 (katLex_alike _ _ _ _ _ _ _ r1 r2 al ?_ (fun hb _ x r t e => ?_) (by rw [n1, n2]) ⟨rfl, rfl⟩)
        · simp only [PyData.depth] at hu'
          omega
        · cases e
          exact t2 hb _ m1 _ _ rfl t
theorem data_sortable {a : Addr} {vs : List Value} {xs : List PyData} {as : List Addr} {h0 : Heap} (r : ReadsAll h0 vs xs as) (hk : ∀ b o, h0.get? b = some o → b ≠ a ∧ s.heap.get? b = some o) (hal : AlkAll xs) (hn : ∀ x ∈ xs, x ≠ .none) (hu : A.units + PyData.depthAll xs < cLine) (h2 : 2 ≤ vs.length) :
    SrtO.SortableO prog w A s a vs fun v u => dataLt (rdV h0 xs v) (rdV h0 xs u) := by
  intro h' keep
  have r' : ReadsAll h' vs xs as := readsAll_keep (fun b o e => keep b o (hk b o e).1 (hk b o e).2) r
  obtain ⟨κ, g, hκ⟩ := kind_data (A := A) (M := model prog w) (s := { s with heap := h' }) r' hal h2
  refine ⟨κ, fun Q E q => hκ Q E q, ?_⟩
  have c := cmp_data (prog := prog) (w := w) (s := { s with heap := h' }) r' hal hn hu g
  intro p q hp hq
  have z := c p q hp hq
  obtain ⟨da, a1, m1, r1⟩ := readsAll_mem r _ hp
  obtain ⟨db, a2, m2, r2⟩ := readsAll_mem r _ hq
  obtain ⟨da', a1', m1', r1'⟩ := readsAll_mem r' _ hp
  have e1 : rdV h' xs p.1 = rdV h0 xs p.1 := by
    rw [rdV_of hal m1 r1, rdV_of hal m1 (Reads.keeps (fun b o e => keep b o (hk b o e).1 (hk b o e).2) r1)]
  have e2 : rdV h' xs q.1 = rdV h0 xs q.1 := by
    rw [rdV_of hal m2 r2, rdV_of hal m2 (Reads.keeps (fun b o e => keep b o (hk b o e).1 (hk b o e).2) r2)]
  have z' : wpAny (model prog w) A (keyLt' κ p.1 q.1) (fun r s' => s' = { s with heap := h' } ∧ r = dataLt (rdV h' xs p.1) (rdV h' xs q.1)) (fun _ _ => False) { s with heap := h' } := z
  rw [e1, e2] at z'
  exact z'
/-- sorted(x), x a list or a tuple -/
theorem sorted_seq {l : Addr} {T : String} {o : Obj} {vs : List Value} {n : Nat} {ltv : Value → Value → Bool} {Q : Value → Shared → Prop} (O : SrtO.Swo ltv) (hT : T = "list" ∨ T = "tuple") (ho : s.heap.get? l = some o) (hc : o.cls = .type T) (hd : o.data = .seq vs.toArray n) (hz : vs.length ≤ sizeLine)
    (hS : 2 ≤ vs.length → ∀ (h₁ : Heap) (a : Addr), (∀ b o, s.heap.get? b = some o → b ≠ a ∧ h₁.get? b = some o) → SrtO.SortableO prog w A.in1.in1 { s with heap := h₁ } a vs ltv)
    (h : ∀ (out : List Value), SrtO.Srtd ltv out → SrtO.Stb ltv out vs → ∀ (h' : Heap) (p : Addr), (∀ b o, s.heap.get? b = some o → h'.get? b = some o) → s.heap.get? p = none → (∃ ep, h'.get? p = some (seqObj "list" out.toArray ep)) → Q (.ref p) { s with heap := h' }) :
    wpAny (model prog w) A (call (.builtin "sorted") [.ref l]) Q E s := by
  refine Calls.call_function_entry kind_sorted plain_sorted entry_sorted (args_sorted1 _) (?_ : wpAny _ _ (Builtin.«sorted» _) _ _ _)
  unfold Builtin.«sorted»
  refine wpAny_bind (m := checkCount "sorted" 1 1 _) (wpAny_pure (wpAny_bind ?_))
  refine wpAny_collect_seq l hT ho hc hd (fun h1 k1 => ?_) (by rw [List.size_toArray]; exact hz)
  show wpAny _ _ (newList vs >>= _) _ _ _
  refine wpAny_bind (wpAny_newList ?_ hz)
  show wpAny _ _ _ _ _ { s with heap := h1.push (seqObj "list" vs.toArray 0) }
  have hp : (h1.push (seqObj "list" vs.toArray 0)).get? h1.objs.size = some (seqObj "list" vs.toArray 0) := Heap.get?_push_size _ rfl
  have hn : ∀ b u, h1.get? b = some u → b ≠ h1.objs.size := fun b u e => Nat.ne_of_lt (Heap.lt_size e)
  have kk : ∀ b o, s.heap.get? b = some o → b ≠ h1.objs.size ∧ (h1.push (seqObj "list" vs.toArray 0)).get? b = some o := fun b o e => ⟨hn b o (k1 b o e), Heap.get?_push_of_some _ (k1 b o e)⟩
  have hf : s.heap.get? h1.objs.size = none := by
    cases e : s.heap.get? h1.objs.size with
    | none => rfl
    | some u => exact absurd rfl (hn _ _ (k1 _ _ e))
  refine wpAny_bind (wpAny_holding (wpAny_call_entry slot_list_sort ⟨_, hp, rfl⟩ entry_list_sort (SrtO.list_sort_ord O hp hz (fun h2 => hS h2 _ _ kk) fun out hs hb => ⟨_, rfl, wpAny_pure ⟨_, rfl, ?_⟩⟩) (args_list_sort _)))
  exact h out hs hb _ _ (fun b o e => sortedHeap_old (kk b o e).1 (Heap.lt_size (kk b o e).2) ▸ (kk b o e).2) hf (sortedHeap_at hp)
end sorts

/-! ### permutations -/
theorem perm_map_inv {α β : Type} (f : α → β) {l k : List β} (p : l.Perm k) : ∀ m : List α, k = m.map f → ∃ m' : List α, m'.Perm m ∧ l = m'.map f := by
  induction p with
  | nil => intro m e; exact ⟨m, List.Perm.refl _, e⟩
  | cons x _ ih =>
    intro m e
    cases m with
    | nil => cases e
    | cons y ys =>
      simp only [List.map_cons, List.cons.injEq] at e
      obtain ⟨rfl, e⟩ := e
      obtain ⟨m', p', rfl⟩ := ih ys e
      exact ⟨y :: m', p'.cons y, rfl⟩
  | swap x y l =>
    intro m e
    match m, e with
    | a :: b :: r, e =>
      simp only [List.map_cons, List.cons.injEq] at e
      obtain ⟨rfl, rfl, rfl⟩ := e
      exact ⟨b :: a :: r, List.Perm.swap _ _ _, rfl⟩
  | trans _ _ ih1 ih2 =>
    intro m e
    obtain ⟨m1, p1, e1⟩ := ih2 m e
    obtain ⟨m2, p2, e2⟩ := ih1 m1 e1
    exact ⟨m2, p2.trans p1, e2⟩

/-! ### sorted, as data -/
def ltD (x y : D) : Bool := PySem.W.dataLt (toP x) (toP y)
def isNon : D → Bool
  | .non => true
  | _ => false
def alkD (x y : D) : Bool := PySem.W.alike (toP x) (toP y)
def gdS (xs : List D) : Bool := okDs 60 xs && xs.all (fun x => !isNon x) && xs.all fun x => xs.all fun y => alkD x y
def sortD (xs : List D) : List D := xs.mergeSort fun x y => !ltD y x
theorem toPs_map : ∀ xs : List D, toPs xs = xs.map toP
  | [] => rfl
  | x :: xs => by rw [toPs, toPs_map xs]; rfl
def rSortD (K : PySem.W.Frag) : List V → Hp → VK → Prop := fun vs H Q => ∃ (a : Addr) (l : List (V × D)), vs = [.ref a] ∧ (SqL K H a (l.map (·.1)) ∨ SqT K H a (l.map (·.1))) ∧ DpAll K H (l.map (·.1)) (toPs (l.map (·.2))) ∧ gdS (l.map (·.2)) = true ∧
  ∀ (l' : List (V × D)) q, l'.Perm l → (l'.Pairwise fun x y => ltD y.2 x.2 = false) → H q = none → Q (.ref q) (upd H q (.lst (l'.map (·.1))))

theorem alk_eq : ∀ (x y : D), alkD x y = true → (∃ n, okD n x = true) → (∃ m, okD m y = true) → eqD x y = true → x = y := by
  have main : ∀ (n : Nat) (x y : D) (m : Nat), okD n x = true → okD m y = true → alkD x y = true → eqD x y = true → x = y := by
    intro n
    induction n with
    | zero =>
      intro x y m h1 h2 h3 h4
      cases x <;> simp [okD] at h1 <;> cases y <;> simp_all [okD, alkD, toP, PySem.W.alike, eqD]
    | succ n ih =>
      have lst : ∀ (xs ys : List D) (m : Nat), okDs n xs = true → okDs m ys = true → PySem.W.alikeAll (toPs xs) (toPs ys) = true → eqDs xs ys = true → xs = ys := by
        intro xs
        induction xs with
        | nil =>
          intro ys m _ _ _ h4
          cases ys with
          | nil => rfl
          | cons y ys => simp [eqDs] at h4
        | cons x xs ihx =>
          intro ys m h1 h2 h3 h4
          cases ys with
          | nil => simp [eqDs] at h4
          | cons y ys =>
            simp only [okDs, Bool.and_eq_true] at h1 h2
            simp only [eqDs, Bool.and_eq_true] at h4
            simp only [toPs] at h3
            have h5 := PySem.W.alike_all_cons h3
            rw [ih x y m h1.1 h2.1 h5.1 h4.1, ihx ys m h1.2 h2.2 h5.2 h4.2]
      intro x y m h1 h2 h3 h4
      cases x with
      | tup xs =>
        cases y with
        | tup ys =>
          cases m with
          | zero => simp [okD] at h2
          | succ m =>
            simp only [okD] at h1 h2
            simp only [eqD] at h4
            simp only [alkD, toP, PySem.W.alike] at h3
            rw [lst xs ys m h1 h2 h3 h4]
        | _ => simp [eqD] at h4
      | lst xs =>
        cases y with
        | lst ys =>
          cases m with
          | zero => simp [okD] at h2
          | succ m =>
            simp only [okD] at h1 h2
            simp only [eqD] at h4
            simp only [alkD, toP, PySem.W.alike] at h3
            rw [lst xs ys m h1 h2 h3 h4]
        | _ => simp [eqD] at h4
      | _ => simp [okD] at h1 <;> cases y <;> simp_all [okD, alkD, toP, PySem.W.alike, eqD]
  intro x y h3 ⟨n, h1⟩ ⟨m, h2⟩ h4
  exact main n x y m h1 h2 h3 h4
theorem toks_inj {x y : PyData} (h : PySem.W.alike x y = true) (e : PySem.W.keyToks x = PySem.W.keyToks y) : PyData.eqv x y = true := by
  cases q : PyData.eqv x y with
  | true => rfl
  | false =>
    have z := (PySem.W.toks_eqv x y h).2 q [] [.inl 0]
    rw [e, PySem.W.lex_pre, PyProof.Rows.lex_irrefl] at z
    simp [PyProof.Rows.lexLt] at z
theorem ltD_anti {x y : D} {n m : Nat} (h : alkD x y = true) (h1 : okD n x = true) (h2 : okD m y = true) (a : ltD y x = false) (b : ltD x y = false) : x = y := by
  have e := PyProof.Rows.lex_total (O := PyProof.Rows.itemOrd) _ _ b a
  have q := toks_inj h e
  rw [eqv_eqD n m x y h1 h2] at q
  exact alk_eq x y h ⟨n, h1⟩ ⟨m, h2⟩ q
theorem okDs_mem {n : Nat} {x : D} : ∀ {xs : List D}, okDs n xs = true → x ∈ xs → okD n x = true
  | [], _, m => absurd m (by simp)
  | y :: ys, h, m => by
    simp only [okDs, Bool.and_eq_true] at h
    rcases List.mem_cons.mp m with rfl | m
    · exact h.1
    · exact okDs_mem h.2 m
theorem gdS_alk {xs : List D} (h : gdS xs = true) : ∀ x ∈ xs, ∀ y ∈ xs, alkD x y = true := fun x hx y hy => by
  simp only [gdS, Bool.and_eq_true] at h
  exact List.all_eq_true.mp (List.all_eq_true.mp h.2 x hx) y hy
theorem sortD_perm (xs : List D) : (sortD xs).Perm xs := List.mergeSort_perm _ _
theorem sortD_pw (xs : List D) : (sortD xs).Pairwise fun x y => ltD y x = false := by
  have q := List.pairwise_mergeSort (le := fun x y => !ltD y x) (fun a b c h1 h2 => by
    have h1' : ltD b a = false := by simpa using h1
    have h2' : ltD c b = false := by simpa using h2
    have := swo_data.tr _ _ _ h1' h2'
    simpa [ltD] using this) (fun a b => by
    cases e : ltD b a with
    | false => simp
    | true =>
      have := swo_data.asym _ _ e
      simp [ltD] at this ⊢
      simp [this]) xs
  exact q.imp fun h => by simpa using h
theorem sortD_uniq {xs l : List D} (h : gdS xs = true) (p : l.Perm xs) (s : l.Pairwise fun x y => ltD y x = false) : l = sortD xs := by
  refine List.Perm.eq_of_pairwise (le := fun x y => ltD y x = false) (fun a b ha hb h1 h2 => ?_) s (sortD_pw xs) (p.trans (sortD_perm xs).symm)
  have ha' := p.mem_iff.mp ha
  have hb' := (sortD_perm xs).mem_iff.mp hb
  have ok : okDs 60 xs = true := by
    simp only [gdS, Bool.and_eq_true] at h
    exact h.1.1
  exact ltD_anti (gdS_alk h _ ha' _ hb') (okDs_mem ok ha') (okDs_mem ok hb') h1 h2

section
open PyProof.Rows
theorem objOk_there {P : Program} {w : World} {H : Hp} {h : Heap} {a : Addr} {o : HO} (x : ObjOk P w H h a o) : ∃ u, h.get? a = some u := by
  cases o with
  | lst xs => obtain ⟨_, _, _, _, e⟩ := x; exact ⟨_, e⟩
  | tup xs => obtain ⟨_, _, _, _, e, _⟩ := x; exact ⟨_, e⟩
  | dK kvs => obtain ⟨_, _, _, _, o, _, _, e, _⟩ := x; exact ⟨_, e⟩
  | dT kvs => obtain ⟨_, _, _, _, o, _, _, e, _⟩ := x; exact ⟨_, e⟩
  | set S n => obtain ⟨o, _, _, _, e, _⟩ := x; exact ⟨_, e⟩
  | ins C dx fs => obtain ⟨_, _, _, e, _⟩ := x; exact ⟨_, e⟩
  | own y => obtain ⟨_, e⟩ := x; exact ⟨_, e⟩
  | xd fs => obtain ⟨_, ⟨_, _, _, e, _⟩, _⟩ := x; exact ⟨_, e⟩
  | rng lo hi => obtain ⟨_, _, _, e⟩ := x; exact ⟨_, e⟩
  | frz ob u => obtain ⟨e, _⟩ := x; exact ⟨_, e⟩
  | tbl ps => exact ⟨_, x⟩
  | met f y => exact ⟨_, x⟩
  | ext φ => obtain ⟨_, e, _⟩ := x; exact e
theorem hok_none {P : Program} {w : World} {H : Hp} {h : Heap} {a : Addr} (x : HOk P w H h) (e : h.get? a = none) : H a = none := by
  cases q : H a with
  | none => rfl
  | some o =>
    obtain ⟨u, z⟩ := objOk_there (x a o q)
    rw [e] at z
    cases z
theorem zipR {h : Heap} : ∀ {l : List (V × D)} {its : List Value} {as : List Addr}, Vals (l.map (·.1)) its → ReadsAll h its (toPs (l.map (·.2))) as → (its.zip l).map (·.1) = its ∧ (its.zip l).map (·.2) = l ∧ ∀ p ∈ its.zip l, RelV p.2.1 p.1 ∧ ∃ bs, Reads h p.1 (toP p.2.2) bs
  | [], its, as, hv, hr => by
    cases hv
    exact ⟨rfl, rfl, fun p m => absurd m (by simp)⟩
  | x :: l, its, as, hv, hr => by
    cases hv with
    | cons h1 h2 =>
      simp only [List.map_cons, toPs] at hr
      cases hr with
      | cons r1 r2 =>
        obtain ⟨e1, e2, ih⟩ := zipR h2 r2
        refine ⟨by simp only [List.zip_cons_cons, List.map_cons, e1], by simp only [List.zip_cons_cons, List.map_cons, e2], fun p m => ?_⟩
        rw [List.zip_cons_cons] at m
        rcases List.mem_cons.mp m with rfl | m
        · exact ⟨h1, _, r1⟩
        · exact ih p m
theorem valsR : ∀ {m : List (Value × (V × D))}, (∀ p ∈ m, RelV p.2.1 p.1) → Vals ((m.map (·.2)).map (·.1)) (m.map (·.1))
  | [], _ => .nil
  | x :: m, h => .cons (h x List.mem_cons_self) (valsR fun p q => h p (List.mem_cons_of_mem _ q))
theorem pwR {h : Heap} {xs : List PyData} {m : List (Value × (V × D))} (hal : AlkAll xs) (hm : ∀ p ∈ m, (toP p.2.2 ∈ xs) ∧ ∃ bs, Reads h p.1 (toP p.2.2) bs)
    (hs : SrtO.Srtd (fun v u => PySem.W.dataLt (rdV h xs v) (rdV h xs u)) (m.map (·.1))) : (m.map (·.2)).Pairwise fun x y => ltD y.2 x.2 = false := by
  rw [List.pairwise_map]
  have hs' := List.pairwise_map.mp hs
  refine hs'.imp_of_mem fun {a b} ha hb q => ?_
  obtain ⟨m1, b1, r1⟩ := hm a ha
  obtain ⟨m2, b2, r2⟩ := hm b hb
  have q' : PySem.W.dataLt (rdV h xs b.1) (rdV h xs a.1) = false := q
  rw [rdV_of hal m1 r1, rdV_of hal m2 r2] at q'
  exact q'
variable {X : Cx}
theorem cr_sortD (hu : X.A.units + 64 < cLine) : CallR X (.builtin "sorted") (rSortD X.K) := by
  intro pins s σ H vs us Q I r h
  obtain ⟨a, l, rfl, hs, hd, hg, q⟩ := h
  rw [Vals.ref1 r]
  have get : ∃ (its : List Value) (T : String) (o : Obj) (n : Nat), Vals (l.map (·.1)) its ∧ (T = "list" ∨ T = "tuple") ∧ s.heap.get? a = some o ∧ o.cls = .type T ∧ o.data = .seq its.toArray n ∧ (l.map (·.1)).length ≤ sizeLine := by
    rcases hs with hs | hs
    · obtain ⟨its, rv, pl, hz⟩ := I.list hs
      obtain ⟨o, e, c, n, d⟩ := pl.isList
      exact ⟨its, "list", o, n, rv, .inl rfl, e, c, d, hz⟩
    · obtain ⟨its, rv, pl, hz⟩ := I.tuple hs
      obtain ⟨o, e, c, n, d⟩ := pl
      exact ⟨its, "tuple", o, n, rv, .inr rfl, e, c, d, hz⟩
  obtain ⟨its, T, o, n, rv, hT, ho, hc, hdat, hz⟩ := get
  obtain ⟨as, ra⟩ := Dp.readsAll I _ _ _ hd rv
  obtain ⟨z1, z2, z3⟩ := zipR rv ra
  have ok : okDs 60 (l.map (·.2)) = true := by
    simp only [gdS, Bool.and_eq_true] at hg
    exact hg.1.1
  have hal : AlkAll (toPs (l.map (·.2))) := by
    rw [toPs_map]
    intro x hx y hy
    obtain ⟨x', hx', rfl⟩ := List.mem_map.mp hx
    obtain ⟨y', hy', rfl⟩ := List.mem_map.mp hy
    exact gdS_alk hg _ hx' _ hy'
  have hnn : ∀ x ∈ toPs (l.map (·.2)), x ≠ .none := by
    rw [toPs_map]
    intro x hx
    obtain ⟨x', hx', rfl⟩ := List.mem_map.mp hx
    simp only [gdS, Bool.and_eq_true] at hg
    have := List.all_eq_true.mp hg.1.2 x' hx'
    have k := okDs_mem ok hx'
    cases x' <;> simp [isNon] at this <;> simp [toP]
  have hdep := (okDs_lay 60 _ ok).2
  have huu : X.A.in1.in1.units + PyData.depthAll (toPs (l.map (·.2))) < cLine := by
    show X.A.units + 1 + 1 + _ < _
    omega
  have hlen : l.length = its.length := by
    have := rv.length
    simpa using this
  refine sorted_seq (n := n) (T := T) (o := o) (vs := its) (ltv := fun v u => PySem.W.dataLt (rdV s.heap (toPs (l.map (·.2))) v) (rdV s.heap (toPs (l.map (·.2))) u)) ⟨fun x y => swo_data.asym _ _, fun x y z => swo_data.tr _ _ _⟩ hT ho hc hdat (by rw [← rv.length]; exact hz) (fun h2 h₁ a' kk => data_sortable ra kk hal hnn huu h2) fun out hs hb h' p keep hf he => ?_
  obtain ⟨m', pm, eo⟩ := perm_map_inv (fun p : Value × (V × D) => p.1) hb.perm (its.zip l) z1.symm
  have hm : ∀ p ∈ m', RelV p.2.1 p.1 ∧ ∃ bs, Reads s.heap p.1 (toP p.2.2) bs := fun p hp => z3 p (pm.mem_iff.mp hp)
  have pl : (m'.map (·.2)).Perm l := by
    have := pm.map (·.2)
    rwa [z2] at this
  have hn := hok_none I.hok hf
  subst eo
  have hv' := valsR fun p hp => (hm p hp).1
  obtain ⟨ep, he⟩ := he
  have hz' : ((m'.map (·.2)).map (·.1)).length ≤ sizeLine := by
    rw [List.length_map, pl.length_eq]
    rwa [List.length_map] at hz
  refine ⟨.ref p, upd H p (.lst ((m'.map (·.2)).map (·.1))), I.laidN (t' := s.toks) keep hf hn ⟨hz', _, ep, hv', he⟩, rfl, q _ p pl (pwR hal (fun x hx => ⟨?_, (hm x hx).2⟩) hs) hn⟩
  rw [toPs_map]
  exact List.mem_map_of_mem (f := toP) (List.mem_map_of_mem (f := fun p : V × D => p.2) (pl.mem_iff.mp (List.mem_map_of_mem (f := fun p : Value × (V × D) => p.2) hx)))
end

def cSorted : Sto → List D → Option (List D) := fun S ds => match ds with
  | [x] => (seqD S x).bind fun xs => if gdS xs then some (sortD xs) else none
  | _ => none
theorem rvl_zip {K : PySem.W.Frag} {av : Addr → Prop} {μ : List Addr} {H : Hp} : ∀ {ds : List D} {ys : List V}, RVL K av μ H ds ys → (ys.zip ds).map (·.1) = ys ∧ (ys.zip ds).map (·.2) = ds ∧ ∀ p ∈ ys.zip ds, RV K av μ H p.2 p.1
  | [], ys, h => by
    unfold RVL at h
    subst h
    exact ⟨rfl, rfl, fun p m => absurd m (by simp)⟩
  | d :: ds, ys, h => by
    unfold RVL at h
    obtain ⟨y, ys, rfl, h1, h2⟩ := h
    obtain ⟨e1, e2, ih⟩ := rvl_zip h2
    refine ⟨by simp only [List.zip_cons_cons, List.map_cons, e1], by simp only [List.zip_cons_cons, List.map_cons, e2], fun p m => ?_⟩
    rw [List.zip_cons_cons] at m
    rcases List.mem_cons.mp m with rfl | m
    · exact h1
    · exact ih p m
theorem rvl_unzip {K : PySem.W.Frag} {av : Addr → Prop} {μ : List Addr} {H : Hp} : ∀ {l : List (V × D)}, (∀ p ∈ l, RV K av μ H p.2 p.1) → RVL K av μ H (l.map (·.2)) (l.map (·.1))
  | [], _ => RVL.nil'
  | x :: l, h => RVL.cons' (h x List.mem_cons_self) (rvl_unzip fun p m => h p (List.mem_cons_of_mem _ m))
theorem cf_sorted {K : PySem.W.Frag} : CallF K (rSortD K) cSorted := by
  intro Z μ H S ds es vs Q W r e q
  unfold cSorted at e
  split at e
  · rw [Option.bind_eq_some_iff] at e
    obtain ⟨xs, e1, e2⟩ := e
    split at e2
    · rename_i hg
      cases e2
      obtain ⟨v, rfl, rx⟩ := rvl1 r
      obtain ⟨a, ys, rfl, hs, hr⟩ := seq_of W rx e1
      obtain ⟨z1, z2, z3⟩ := rvl_zip hr
      have ok : okDs 60 xs = true := by
        have hg' := hg
        simp only [gdS, Bool.and_eq_true] at hg'
        exact hg'.1.1
      refine ⟨a, ys.zip xs, rfl, by rw [z1]; exact hs, by rw [z1, z2]; exact dps_of _ _ _ ok hr, by rw [z2]; exact hg, fun l' p pl pw hn => ?_⟩
      have es : l'.map (·.2) = sortD xs := sortD_uniq hg (by have := pl.map (·.2); rwa [z2] at this) (List.pairwise_map.mpr pw)
      have rl : RVLz K Z μ H (sortD xs) (l'.map (·.1)) := by
        rw [← es]
        exact rvl_unzip fun p m => z3 p (pl.mem_iff.mp m)
      have s : Same H (upd H p (.lst (l'.map (·.1)))) := fun c o z => by rw [upd_ne (ne_of_none z hn)]; exact z
      exact q p _ _ hn s upd_same (RVL.newO s hn rl)
    · cases e2
  · cases e
end DL

set_option maxHeartbeats 4000000
namespace DL
open PySem PySem.Spec L2

/-! ### tuple * int, 0 and 1 -/
section
theorem tupMul1 (l : Addr) (items : Array Value) (n : Nat) (dd : Option Addr) (sl : Array (Option Value)) (u : Tok) :
    Meets (Builtin.«tuple.__mul__» ⟨[.ref l, .int 1 u], []⟩) (fun _ R s => s.heap.get? l = some { cls := .type "tuple", dict := dd, data := .seq items n, slots := sl } ∧ R (.ok (.ret (Value.ref l))) s) :=
  .of_wp fun prog w A R s h => by
    obtain ⟨hp, g, d, tk, os⟩ := s
    obtain ⟨hl, h⟩ := h
    have f1 := AutoSeq1.idx_int
    have c1 : (items.isEmpty || ((1 : Int) == 1)) = true := by simp
    have hT : Shared.TypeIs ⟨hp, g, d, tk, os⟩ (.ref l) "tuple" := ⟨_, hl, rfl⟩
    wp_walk using wpAny_loadPart' hl, wpAny_typeOf hT
    repeat (first
      | (refine wpAny_ite_false (decide_eq_false (by decide)) ?_; wp_walk using wpAny_loadPart' hl, wpAny_typeOf hT)
      | (refine wpAny_ite_true (decide_eq_true (by rw [c1])) ?_; wp_walk using wpAny_loadPart' hl, wpAny_typeOf hT))
    exact ⟨_, rfl, h⟩
theorem tupMul0 (l : Addr) (items : Array Value) (n : Nat) (dd : Option Addr) (sl : Array (Option Value)) (u : Tok) (c1 : items.isEmpty = false) :
    Meets (Builtin.«tuple.__mul__» ⟨[.ref l, .int 0 u], []⟩) (fun _ R s => s.heap.get? l = some { cls := .type "tuple", dict := dd, data := .seq items n, slots := sl } ∧
      R (.ok (.ret (Value.ref s.heap.objs.size))) { s with heap := s.heap.push { cls := Value.type "tuple", data := Data.seq #[] }, toks := s.toks }) :=
  .of_wp fun prog w A R s h => by
    obtain ⟨hp, g, d, tk, os⟩ := s
    obtain ⟨hl, h⟩ := h
    have f1 := AutoSeq1.idx_int
    have c2 : (items.isEmpty || ((0 : Int) == 1)) = false := by rw [c1]; rfl
    have c3 : (decide ((0 : Int) ≤ 0) || items.isEmpty) = true := by rfl
    have hT : Shared.TypeIs ⟨hp, g, d, tk, os⟩ (.ref l) "tuple" := ⟨_, hl, rfl⟩
    wp_walk using wpAny_loadPart' hl, wpAny_typeOf hT
    repeat (first
      | (refine wpAny_ite_false (decide_eq_false (by decide)) ?_; wp_walk using wpAny_loadPart' hl, wpAny_typeOf hT)
      | (refine wpAny_ite_false (decide_eq_false (by rw [c2]; exact Bool.false_ne_true)) ?_; wp_walk using wpAny_loadPart' hl, wpAny_typeOf hT)
      | (refine wpAny_ite_true (decide_eq_true (by rw [c3])) ?_; wp_walk using wpAny_loadPart' hl, wpAny_typeOf hT))
    exact ⟨_, rfl, h⟩
variable {X : Cx}
/-- xs * 1 is xs; xs * 0 is new, of nothing -/
def rRep01 (K : PySem.W.Frag) : R2 := fun x y H Q => ∃ l k xs, x = .ref l ∧ y = .int k ∧ SqT K H l xs ∧ ((k = 1 ∧ Q (.ref l) H) ∨ (k = 0 ∧ xs ≠ [] ∧ ∀ p, H p = none → Q (.ref p) (upd H p (.tup []))))
theorem op_rep01 : OpR X (binaryOp .Mult) (rRep01 X.K) := by
  intro pins s σ H x y v u Q I rx ry h
  obtain ⟨l, k, xs, rfl, rfl, hT, q⟩ := h
  cases rx
  obtain ⟨t, rfl⟩ := ry
  obtain ⟨its, r, ⟨⟨cls, dd, data, sl⟩, ho, hc, n, hd⟩, hs⟩ := I.tuple hT
  have hc' : cls = .type "tuple" := hc
  have hd' : data = .seq its.toArray n := hd
  subst hc' hd'
  have road : ∀ (QQ : Value → Shared → Prop) (E : Value → Shared → Prop), wpAny (model X.prog X.w) X.A (call (.builtin "tuple.__mul__") [.ref l, .int k t]) QQ E s → wpAny (model X.prog X.w) X.A (binaryOp .Mult (.ref l) (.int k t)) QQ E s := fun QQ E z =>
    wpAny_binaryOp_repeat_ref (T := "tuple") (U := "int") (by decide) ⟨_, ho, rfl⟩ (fun s' => typeIs_int s' k t) noFill_tuple_mul F.fills_int_mul F.slot_int_rmul repeat_tuple F.slot_int_index.lookup
      (call_meets F.slot_int_rmul (typeIs_int s k t) F.entry_int_rmul (F.args_int_rmul_2 _ _) (int_rmul_tuple k t l its.toArray n dd sl) ⟨ho, rfl, ⟨_, ho, rfl⟩, z⟩)
  refine road _ _ ?_
  rcases q with ⟨rfl, q⟩ | ⟨rfl, hne, q⟩
  · exact call_meets F.slot_tuple_mul ⟨_, ho, rfl⟩ F.entry_tuple_mul (F.args_tuple_mul_2 _ _) (tupMul1 l its.toArray n dd sl t) ⟨ho, .ref l, H, I, rfl, q⟩
  · have hi : its.toArray.isEmpty = false := by
      cases its with
      | nil =>
        have := r.length
        exact absurd (List.eq_nil_of_length_eq_zero this) hne
      | cons a b => rfl
    refine call_meets F.slot_tuple_mul ⟨_, ho, rfl⟩ F.entry_tuple_mul (F.args_tuple_mul_2 _ _) (tupMul0 l its.toArray n dd sl t hi) ⟨ho, ?_⟩
    refine ⟨.ref s.heap.objs.size, _, I.laid (t' := s.toks) (o := .tup []) (fun b ob q => Heap.get?_push_of_some _ q) (Nat.le_refl _) ?_, rfl, q _ (I.hok.fresh (Nat.le_refl _))⟩
    exact ⟨Nat.zero_le _, [], .nil, PyProof.Rows.IsTup.new _ _⟩
end
/-- xs * k, k 0 or 1 -/
def gRep01 : Sto → D → D → Option D := fun _ x y => match x, y with
  | .tup ds, .int k => if k = 1 then some (.tup ds) else if k = 0 && !ds.isEmpty then some (.tup []) else none
  | _, _ => none
theorem od_rep01 {K : PySem.W.Frag} : OpD K (rRep01 K) gRep01 := by
  intro Z μ H S x y d v u Q W rx ry e q
  unfold gRep01 at e
  split at e
  · rename_i ds k
    obtain ⟨a, xs, rfl, hs, hr⟩ := rv_tup.mp rx
    have hy := rv_int.mp ry
    subst hy
    refine ⟨a, k, xs, rfl, rfl, SqT.of hs, ?_⟩
    split at e
    · rename_i hk
      cases e
      exact .inl ⟨hk, q _ H (Same.refl H) (rv_tup.mpr ⟨a, xs, rfl, hs, hr⟩)⟩
    · split at e
      · rename_i hk
        cases e
        simp only [Bool.and_eq_true, decide_eq_true_eq, Bool.not_eq_true'] at hk
        refine .inr ⟨hk.1, fun z => ?_, fun p hp => ?_⟩
        · subst z
          have := hr.length
          rw [List.length_nil] at this
          have := List.eq_nil_of_length_eq_zero this.symm
          rw [this] at hk
          exact absurd hk.2 (by decide)
        · have s : Same H (upd H p (.tup [])) := fun c o z => by rw [upd_ne (ne_of_none z hp)]; exact z
          exact q _ _ s (rv_tup.mpr ⟨p, [], rfl, upd_same, RVL.nil'⟩)
      · cases e
  · cases e
/-! ### is True, is not True -/
def gIsB (neg : Bool) : Sto → D → D → Option D := fun _ x y => match x, y with
  | .bl a, .bl b => some (.bl (if a == b then !neg else neg))
  | _, _ => none
theorem od_isB {K : PySem.W.Frag} : OpD K rIsB (gIsB false) := by
  intro Z μ H S x y d v u Q W rx ry e q
  unfold gIsB at e
  split at e
  · cases e
    have hx := rv_bl.mp rx
    have hy := rv_bl.mp ry
    subst hx hy
    refine ⟨_, _, rfl, rfl, q _ H (Same.refl H) ?_⟩
    rename_i a b
    cases a <;> cases b <;> exact rv_bl.mpr rfl
  · cases e
theorem od_notB {K : PySem.W.Frag} : OpD K rNotB (gIsB true) := by
  intro Z μ H S x y d v u Q W rx ry e q
  unfold gIsB at e
  split at e
  · cases e
    have hx := rv_bl.mp rx
    have hy := rv_bl.mp ry
    subst hx hy
    refine ⟨_, _, rfl, rfl, q _ H (Same.refl H) ?_⟩
    rename_i a b
    cases a <;> cases b <;> exact rv_bl.mpr rfl
  · cases e
end DL

set_option maxHeartbeats 4000000
namespace DL
open PySem PySem.Spec L2

/-! ### list + list, slices of lists as values -/
theorem OpD.or {K : PySem.W.Frag} {r r' : R2} {g g' : Sto → D → D → Option D} (h : OpD K r g) (h' : OpD K r' g') : OpD K (fun x y H Q => r x y H Q ∨ r' x y H Q) (fun S x y => (g S x y).or (g' S x y)) := by
  intro Z μ H S x y d v u Q W rx ry e q
  have e' : (g S x y).or (g' S x y) = some d := e
  cases h1 : g S x y with
  | some d1 =>
    rw [h1] at e'
    have : d1 = d := by simpa using e'
    subst this
    exact .inl (h Z μ H S x y d1 v u Q W rx ry h1 q)
  | none =>
    rw [h1] at e'
    exact .inr (h' Z μ H S x y d v u Q W rx ry (by simpa using e') q)
theorem OpF.val {K : PySem.W.Frag} {r : R2} {g : Sto → D → D → Option (List D)} (h : OpF K r g) : OpD K r (fun S x y => (g S x y).map .lst) := by
  intro Z μ H S x y d v u Q W rx ry e q
  rw [Option.map_eq_some_iff] at e
  obtain ⟨ds, e1, rfl⟩ := e
  exact h Z μ H S x y ds v u Q W rx ry e1 fun a xs H' n s h1 h2 => q _ H' s (RV.lst_of W n h1 h2)
def gAddA : Sto → D → D → Option D := fun S x y => match x with
  | .int i => match y with | .int j => some (.int (i + j)) | _ => none
  | .tup a => match y with | .tup b => if small (a.length + b.length) then some (.tup (a ++ b)) else none | _ => none
  | _ => (gCatF S x y).map .lst
theorem gAddA_eq (S : Sto) (x y : D) : gAddA S x y = (gAdd S x y).or ((gCatF S x y).map .lst) := by
  cases x <;> cases y <;> simp [gAddA, gAdd, gCatF, lstD]
abbrev rAddA (K : PySem.W.Frag) : R2 := fun x y H Q => ((rI0 fun i j => .int (i + j)) x y H Q ∨ rCatA K x y H Q) ∨ rCat x y H Q
theorem op_addA {X : Cx} : OpR X (binaryOp .Add) (rAddA X.K) := op_addD.or op_cat
theorem od_addA {K : PySem.W.Frag} : OpD K (rAddA K) gAddA := by
  have h := OpD.or (od_add (K := K)) (OpF.val od_catF)
  have e : gAddA = fun S x y => (gAdd S x y).or ((gCatF S x y).map .lst) := by
    funext S x y
    exact gAddA_eq S x y
  rw [e]
  exact h
section
variable {X : Cx} {a : Expr} {pos : Pos} {fa : E}
def eCutA (f : E) (lo hi : EO) : E := fun ρ S => (f ρ S).bind fun d => (lo ρ S).bind fun l => (hi ρ S).bind fun h => match d with
  | .tup ds => some (.tup (cutD ds l h))
  | d => (lstD S d).map fun ds => .lst (cutD ds l h)
theorem d_cutA {lo hi : Option Expr} {fl fh : EO} {p2 : Pos} (ha : PE X a (tD X.K fa)) (hl : PO X lo (tP X.K fl)) (hh : PO X hi (tP X.K fh)) : PE X (.Subscript a (.Slice lo hi none p2) pos) (tD X.K (eCutA fa fl fh)) :=
  pe_imp (pe_slice (SlR.or sl_tupA sl_list) ha hl hh) fun σ H Q ⟨Z, μ, ρ, S, R, d, e, q⟩ => by
    simp only [eCutA, Option.bind_eq_some_iff] at e
    obtain ⟨x, e1, l, e2, h, e3, e4⟩ := e
    refine ⟨Z, μ, ρ, S, R, x, e1, fun v H1 s1 r1 => ⟨Z, μ, ρ, S, R.mono s1, l, e2, fun H2 s2 => ⟨Z, μ, ρ, S, (R.mono s1).mono s2, h, e3, fun H3 s3 => ?_⟩⟩⟩
    have W3 := ((R.wd.mono s1).mono s2).mono s3
    split at e4
    · rename_i ds
      simp only [Option.some.injEq] at e4
      subst e4
      obtain ⟨p, xs, rfl, hs, hr⟩ := rv_tup.mp (RV.mono (s2.trans s3) r1)
      refine .inl ⟨p, xs, rfl, SqT.of hs, fun hw => ?_, fun hw t ht => ?_⟩
      · refine q _ H3 (s1.trans (s2.trans s3)) (rv_tup.mpr ⟨p, xs, rfl, hs, ?_⟩)
        have hc : cutD ds l h = ds := by
          unfold cutD
          rw [← RVL.length hr, hw.1, hw.2]
          simp [RVL.length hr]
        rw [hc]; exact hr
      · have s : Same H3 (upd H3 t (.tup (cutV xs l h))) := fun c o z => by rw [upd_ne (ne_of_none z ht)]; exact z
        exact q _ _ ((s1.trans (s2.trans s3)).trans s) (rv_tup.mpr ⟨t, _, rfl, upd_same, RVL.mono s (rvl_cut l h hr)⟩)
    · rw [Option.map_eq_some_iff] at e4
      obtain ⟨es, e4, rfl⟩ := e4
      obtain ⟨p, xs, rfl, hs, hr⟩ := lst_of W3 (RV.mono (s2.trans s3) r1) e4
      refine .inr ⟨p, xs, rfl, SqL.of hs, fun t ht => ?_⟩
      have s : Same H3 (upd H3 t (.lst (cutV xs l h))) := fun c o z => by rw [upd_ne (ne_of_none z ht)]; exact z
      exact q _ _ ((s1.trans (s2.trans s3)).trans s) (RV.lst_of W3 ht upd_same (RVL.newO s ht (rvl_cut l h hr)))
end
/-- int * int, tuple * 0 or 1 -/
def gMulA : Sto → D → D → Option D := fun S x y => match x with
  | .tup _ => gRep01 S x y
  | _ => gMul S x y
abbrev rMulA (K : PySem.W.Frag) : R2 := fun x y H Q => (rI CMul fun i j => .int (i * j)) x y H Q ∨ rRep01 K x y H Q
theorem op_mulA {X : Cx} : OpR X (binaryOp .Mult) (rMulA X.K) := op_mul.or op_rep01
theorem od_mulA {K : PySem.W.Frag} : OpD K (rMulA K) gMulA := by
  have h := OpD.or (od_mul (K := K)) (od_rep01 (K := K))
  have e : gMulA = fun S x y => (gMul S x y).or (gRep01 S x y) := by
    funext S x y
    cases x <;> cases y <;> simp [gMulA, gI, gRep01]
  rw [e]
  exact h

/-! ### room -/
theorem hu64 {k : Nat} {A : Around} (h : Room k A) : A.units + 64 < cLine := by have := h.un; omega
theorem hu65 {k : Nat} {A : Around} (h : Room k A) : A.units + 65 < cLine := by have := h.un; omega
section
variable {X : Cx} {pos : Pos}
theorem d_globI {x : Str} {i : Int} (hg : Gl X x) (hm : ∃ t, X.mg x = some (.int i t)) (hdb : (x == ("__debug__" : Str)) = false := by decide) : PE X (.Name x pos) (tD X.K (eC (.int i))) := by
  obtain ⟨t, hm⟩ := hm
  exact d_glob (d := .int i) hg hm ⟨t, rfl⟩ rfl hdb
end
end DL

set_option maxHeartbeats 4000000
namespace DL
open PySem PySem.Spec L2

/-! ### tuple(range(..)), list(range(..)) -/
def rg1 (f : E) : EL := fun ρ S => (f ρ S).bind fun d => match d with
  | .int n => if lim62 n && small n.toNat then some (rngD 0 1 n.toNat) else none
  | _ => none
def rg2 (f g : E) : EL := fun ρ S => (f ρ S).bind fun d => (g ρ S).bind fun e => match d, e with
  | .int i, .int j => if lim62 i && lim62 j && small (j - i).toNat then some (rngD i 1 (j - i).toNat) else none
  | _, _ => none
def eTupL (f : EL) : E := fun ρ S => (f ρ S).map .tup
theorem rvl_rg {K : PySem.W.Frag} {av : Addr → Prop} {μ : List Addr} {H : Hp} (a b : Int) : RVL K av μ H (rngD a 1 (b - a).toNat) (rgV a b) := by
  unfold rngD rgV
  generalize List.range (b - a).toNat = l
  induction l with
  | nil => exact RVL.nil'
  | cons k l ih => exact RVL.cons' (rv_int.mpr (by rw [Int.mul_one])) ih
theorem rgOk_of {i j : Int} (h1 : lim62 i = true) (h2 : lim62 j = true) (h3 : small (j - i).toNat = true) : RgOk i j := by
  have a := lim62_of h1
  have b := lim62_of h2
  have c : (j - i).toNat ≤ 1000000 := of_decide_eq_true h3
  exact ⟨a.1, a.2, b.1, b.2, by omega⟩
section
variable {X : Cx} {a b : Expr} {p p2 q pos : Pos} {fa fb : E}
theorem rg1_of {K : PySem.W.Frag} {σ : L2.St} {H : Hp} {R : Int → Int → Hp → Prop} {Z : Fr} {μ : List Addr} {ρ : Rho} {S : Sto} {ds : List D} (Rl : Rel K Z μ σ H ρ S) (e : rg1 fa ρ S = some ds)
    (h : ∀ i j H', Same H H' → RgOk i j → ds = rngD i 1 (j - i).toNat → R i j H') : tRg1 (tD K fa) σ H R := by
  simp only [rg1, Option.bind_eq_some_iff] at e
  obtain ⟨d, e1, e2⟩ := e
  refine ⟨Z, μ, ρ, S, Rl, d, e1, fun v H1 s1 r1 => ?_⟩
  split at e2
  · rename_i n
    split at e2
    · rename_i hl
      rw [Bool.and_eq_true] at hl
      cases e2
      refine ⟨n, rv_int.mp r1, h 0 n H1 s1 (rgOk_of (by decide) hl.1 (by rw [Int.sub_zero]; exact hl.2)) (by rw [Int.sub_zero])⟩
    · cases e2
  · cases e2
theorem rg2_of {K : PySem.W.Frag} {σ : L2.St} {H : Hp} {R : Int → Int → Hp → Prop} {Z : Fr} {μ : List Addr} {ρ : Rho} {S : Sto} {ds : List D} (Rl : Rel K Z μ σ H ρ S) (e : rg2 fa fb ρ S = some ds)
    (h : ∀ i j H', Same H H' → RgOk i j → ds = rngD i 1 (j - i).toNat → R i j H') : tRg2 (tD K fa) (tD K fb) σ H R := by
  simp only [rg2, Option.bind_eq_some_iff] at e
  obtain ⟨d, e1, d2, e3, e2⟩ := e
  refine ⟨Z, μ, ρ, S, Rl, d, e1, fun v H1 s1 r1 => ⟨Z, μ, ρ, S, Rl.mono s1, d2, e3, fun u H2 s2 r2 => ?_⟩⟩
  split at e2
  · rename_i n m
    split at e2
    · rename_i hl
      simp only [Bool.and_eq_true] at hl
      cases e2
      exact ⟨n, m, rv_int.mp r1, rv_int.mp r2, h n m H2 (s1.trans s2) (rgOk_of hl.1.1 hl.1.2 hl.2) rfl⟩
    · cases e2
  · cases e2
theorem d_tupRg1 (hc : X.calm = true) (hg : Gl X "tuple") (hm : X.mg "tuple" = none) (hg2 : Gl X "range") (hm2 : X.mg "range" = none) (ha : PE X a (tD X.K fa)) (na : starEach [a] X.env = (false, eval a X.env) :: starEach [] X.env := by rfl)
    (n2 : starEach [.Call (.Name "range" p2) [a] [] p] X.env = (false, eval (.Call (.Name "range" p2) [a] [] p) X.env) :: starEach [] X.env := by rfl) : PE X (.Call (.Name "tuple" q) [.Call (.Name "range" p2) [a] [] p] [] pos) (tD X.K (eTupL (rg1 fa))) :=
  pe_imp (pe_tupRg hc hg hm (prg_1 hg2 hm2 ha na) n2) fun σ H Q ⟨Z, μ, ρ, S, R, d, e, q⟩ => by
    simp only [eTupL, Option.map_eq_some_iff] at e
    obtain ⟨ds, e1, rfl⟩ := e
    refine rg1_of R e1 fun i j H' s ok ed => ⟨ok, fun t ht => ?_⟩
    subst ed
    have s2 : Same H' (upd H' t (.tup (rgV i j))) := fun c o z => by rw [upd_ne (ne_of_none z ht)]; exact z
    exact q _ _ (s.trans s2) (rv_tup.mpr ⟨t, _, rfl, upd_same, rvl_rg i j⟩)
theorem d_tupRg2 (hc : X.calm = true) (hg : Gl X "tuple") (hm : X.mg "tuple" = none) (hg2 : Gl X "range") (hm2 : X.mg "range" = none) (ha : PE X a (tD X.K fa)) (hb : PE X b (tD X.K fb)) (na : starEach [a, b] X.env = (false, eval a X.env) :: starEach [b] X.env := by rfl) (nb : starEach [b] X.env = (false, eval b X.env) :: starEach [] X.env := by rfl)
    (hp : (backTo p (starEach [b] X.env)).any (·.1) = false := by rfl)
    (n2 : starEach [.Call (.Name "range" p2) [a, b] [] p] X.env = (false, eval (.Call (.Name "range" p2) [a, b] [] p) X.env) :: starEach [] X.env := by rfl) : PE X (.Call (.Name "tuple" q) [.Call (.Name "range" p2) [a, b] [] p] [] pos) (tD X.K (eTupL (rg2 fa fb))) :=
  pe_imp (pe_tupRg hc hg hm (prg_2 hg2 hm2 ha hb na nb hp) n2) fun σ H Q ⟨Z, μ, ρ, S, R, d, e, q⟩ => by
    simp only [eTupL, Option.map_eq_some_iff] at e
    obtain ⟨ds, e1, rfl⟩ := e
    refine rg2_of R e1 fun i j H' s ok ed => ⟨ok, fun t ht => ?_⟩
    subst ed
    have s2 : Same H' (upd H' t (.tup (rgV i j))) := fun c o z => by rw [upd_ne (ne_of_none z ht)]; exact z
    exact q _ _ (s.trans s2) (rv_tup.mpr ⟨t, _, rfl, upd_same, rvl_rg i j⟩)
theorem d_lstRg1 (hc : X.calm = true) (hg : Gl X "list") (hm : X.mg "list" = none) (hg2 : Gl X "range") (hm2 : X.mg "range" = none) (ha : PE X a (tD X.K fa)) (na : starEach [a] X.env = (false, eval a X.env) :: starEach [] X.env := by rfl)
    (n2 : starEach [.Call (.Name "range" p2) [a] [] p] X.env = (false, eval (.Call (.Name "range" p2) [a] [] p) X.env) :: starEach [] X.env := by rfl) : PE X (.Call (.Name "list" q) [.Call (.Name "range" p2) [a] [] p] [] pos) (tF X.K (rg1 fa)) :=
  pe_imp (pe_listRg hc hg hm (prg_1 hg2 hm2 ha na) n2) fun σ H Q ⟨Z, μ, ρ, S, R, ds, e1, q⟩ => by
    refine rg1_of R e1 fun i j H' s ok ed => ⟨ok, fun t ht => ?_⟩
    subst ed
    have s2 : Same H' (upd H' t (.lst (rgV i j))) := fun c o z => by rw [upd_ne (ne_of_none z ht)]; exact z
    exact q t _ _ (s.free ht) (s.trans s2) upd_same (rvl_rg i j)
theorem d_lstRg2 (hc : X.calm = true) (hg : Gl X "list") (hm : X.mg "list" = none) (hg2 : Gl X "range") (hm2 : X.mg "range" = none) (ha : PE X a (tD X.K fa)) (hb : PE X b (tD X.K fb)) (na : starEach [a, b] X.env = (false, eval a X.env) :: starEach [b] X.env := by rfl) (nb : starEach [b] X.env = (false, eval b X.env) :: starEach [] X.env := by rfl)
    (hp : (backTo p (starEach [b] X.env)).any (·.1) = false := by rfl)
    (n2 : starEach [.Call (.Name "range" p2) [a, b] [] p] X.env = (false, eval (.Call (.Name "range" p2) [a, b] [] p) X.env) :: starEach [] X.env := by rfl) : PE X (.Call (.Name "list" q) [.Call (.Name "range" p2) [a, b] [] p] [] pos) (tF X.K (rg2 fa fb)) :=
  pe_imp (pe_listRg hc hg hm (prg_2 hg2 hm2 ha hb na nb hp) n2) fun σ H Q ⟨Z, μ, ρ, S, R, ds, e1, q⟩ => by
    refine rg2_of R e1 fun i j H' s ok ed => ⟨ok, fun t ht => ?_⟩
    subst ed
    have s2 : Same H' (upd H' t (.lst (rgV i j))) := fun c o z => by rw [upd_ne (ne_of_none z ht)]; exact z
    exact q t _ _ (s.free ht) (s.trans s2) upd_same (rvl_rg i j)
end

/-! ### what is built in -/
theorem bt_int : bootBuiltins "int" = some (.type "int") := by decide +kernel
theorem bt_bool : bootBuiltins "bool" = some (.type "bool") := by decide +kernel
theorem bt_str : bootBuiltins "str" = some (.type "str") := by decide +kernel
theorem bt_list : bootBuiltins "list" = some (.type "list") := by decide +kernel
theorem bt_tuple : bootBuiltins "tuple" = some (.type "tuple") := by decide +kernel
theorem bt_dict : bootBuiltins "dict" = some (.type "dict") := by decide +kernel
theorem bt_set : bootBuiltins "set" = some (.type "set") := by decide +kernel
theorem bt_len : bootBuiltins "len" = some (.builtin "len") := by decide +kernel
theorem bt_abs : bootBuiltins "abs" = some (.builtin "abs") := by decide +kernel
theorem bt_sum : bootBuiltins "sum" = some (.builtin "sum") := by decide +kernel
theorem bt_any : bootBuiltins "any" = some (.builtin "any") := by decide +kernel
theorem bt_all : bootBuiltins "all" = some (.builtin "all") := by decide +kernel
theorem bt_max : bootBuiltins "max" = some (.builtin "max") := by decide +kernel
theorem bt_min : bootBuiltins "min" = some (.builtin "min") := by decide +kernel
theorem bt_sorted : bootBuiltins "sorted" = some (.builtin "sorted") := by decide +kernel
theorem bt_isinstance : bootBuiltins "isinstance" = some (.builtin "isinstance") := by decide +kernel

section
variable {P : Program} {w : World} {K : PySem.W.Frag} {mg : Str → Option Value} {base : Heap} {x : Str} {st : Stmt} {N ps : List Str} {k : Nat} {body : T}
theorem fnDn {n m j : Nat} (h : Tx K mg x st ps) (S : FnScope N ps (defScope st)) (hn : N.length = n) (hm : ps.length = m) (hj : k + 1 = j)
    (hb : ∀ (f : Addr) (cdv : Value) (A : Around) (outer : List Env) (s : Shared) (H : Hp) (E : XK), Room k (A.deeper (PyProof.Rows.envOfC x (defScope st) s.heap.objs.size f cdv)) → PSs (cxOf CX0 P w K mg base N x (defScope st) f cdv A outer s H E).nox (defBody st) (tS K body)) :
    At P w K mg base x j m (runD body n) := by
  subst hn hm hj
  exact fnD h S hb
theorem fnFn {n m j : Nat} (h : Tx K mg x st ps) (S : FnScope N ps (defScope st)) (hn : N.length = n) (hm : ps.length = m) (hj : k + 1 = j)
    (hb : ∀ (f : Addr) (cdv : Value) (A : Around) (outer : List Env) (s : Shared) (H : Hp) (E : XK), Room k (A.deeper (PyProof.Rows.envOfC x (defScope st) s.heap.objs.size f cdv)) → PSs (cxOf CX0 P w K mg base N x (defScope st) f cdv A outer s H E).nox (defBody st) (tS K body)) :
    AtF P w K mg base x j m (runF body n) := by
  subst hn hm hj
  exact fnF h S hb
theorem fnOn {f : Addr} {fd : FuncData} {n m j : Nat} (F : Fun K x x st f fd) (S : FnScope N ps (defScope st)) (hn : N.length = n) (hm : ps.length = m) (hj : k + 1 = j)
    (hb : ∀ (f : Addr) (cdv : Value) (A : Around) (outer : List Env) (s : Shared) (H : Hp) (E : XK), Room k (A.deeper (PyProof.Rows.envOfC x (defScope st) s.heap.objs.size f cdv)) → PSs (cxOf CX0 P w K mg base N x (defScope st) f cdv A outer s H E).nox (defBody st) (tS K body)) :
    FnOk P w K mg base CX0 j f fd ps (spD K m (runD body n)) := by
  subst hn hm hj
  exact fnO F S hb
end
end DL

set_option maxHeartbeats 4000000
namespace DL
open PySem PySem.Spec L2

/-! ### the ends: what the top has written, the law -/
theorem tx_mk {K : PySem.W.Frag} {h : Heap} {mg : Str → Option Value} (X : K.In h) (G : h.Ns mainGlobals mg) {x : Str} {st : Stmt} {ps : List Str} {f : Addr} {od an : Option Addr} {sl : Array (Option Value)} {oc kV dc pm cd ct : Value}
    (hb : ∀ (kV doc pm : Value) (an : Option Addr) (cdv ct : Value) (us : List Value), us.length = ps.length → bindArgs (PySem.W.fnOf x x (defArgs st) (defBody st) (defScope st) .none kV doc pm an cdv ct) ⟨us, []⟩ = pure (ps.zip us))
    (a : PySem.W.nsIn K mainGlobals x = some (some (.ref f))) (l : K.lookup f = some ⟨oc, od, .func (PySem.W.fnOf x x (defArgs st) (defBody st) (defScope st) .none kV dc pm an cd ct), sl⟩)
    (c : PySem.W.codeIn K cd x = true) (k : PySem.W.keepIn K (.ref f) = true) : Tx K mg x st ps :=
  ⟨f, _, PySem.W.mg_of X G a, fun_mk (st := st) l c k, (fun_mk (st := st) l c k).binds hb⟩
theorem scr_of {K : PySem.W.Frag} {H : Hp} {a : Addr} {ns : List Int} (hO : Only H) (hS : SqL K H a (ns.map V.int)) : RVL K (fun _ => False) [] H [.scr ns] [.ref a] := by
  refine RVL.one (rv_scr.mpr ⟨a, rfl, ?_⟩)
  rcases hS with (h | ⟨o, h⟩) | h
  · rcases hO a with z | ⟨o, xs, z⟩
    · rw [z] at h; cases h
    · rw [z] at h; cases h
  · exact .inl ⟨o, h⟩
  · exact .inr fun H' => .inr h
/-- the law's promise, from the plain law -/
theorem sp_law {K : PySem.W.Frag} {g : List D → Option D} {n : Nat} (pl : ∀ ns : List Int, ns.length ≤ n → g [.scr ns] = some (.bl true)) (H : Hp) (a : Addr) (ns : List Int) (hl : ns.length ≤ n) (hO : Only H) (hS : SqL K H a (ns.map V.int)) :
    spD K 1 g [.ref a] H (fun v _ => v = .bl true) fun _ _ _ => False :=
  ⟨fun _ => False, [.scr ns], rfl, fun _ z => z.elim, scr_of hO hS, .bl true, pl ns hl, fun v H' _ r => rv_bl.mp r⟩
theorem law_walk {l : PySem.W.OpenLaw} {n k : Nat} {q : Program} {loose : List Str} {XP : (Str → Option Value) → Heap → Prop} {YP : World → Heap → Prop} {d : DefRec} {K : Params → PySem.W.Frag} {g : List D → Option D} {x : Str}
    (hn : l.most = some n) (hn2 : n ≤ sizeLine) (hdf : d.params.defaults = []) (hr : Room k callerA) (hY : ∀ (w : World) (h : Heap), YP w h → (K w.params).In h) (pl : ∀ ns : List Int, ns.length ≤ n → g [.scr ns] = some (.bl true))
    (F : ∀ (w : World) (mg : Str → Option Value) (fa : Addr) (h : Heap), (K w.params).In h → h.Ns mainGlobals mg → mg d.name = some (.ref fa) →
      ∃ fd : FuncData, (∀ (s : Shared) (u : Value), BindsTo s fd ⟨[u], []⟩ [(x, u)]) ∧
        ∀ base : Heap, (K w.params).In base → base.Ns mainGlobals mg → FnOk l.prog w (K w.params) mg base CX0 k fa fd [x] (spD (K w.params) 1 g)) :
    PySem.W.WalkO q loose XP YP l.row.toRowW d [] (fun f vs => PySem.call f vs) :=
  L2.walk_of (n := n) (k := k) (x := x) (CX := fun _ => CX0) (sp := fun w => spD (K w.params) 1 g) hn hn2 hdf hr hY F (fun _ H a ns hl hO hS => sp_law pl H a ns hl hO hS) fun _ _ _ _ _ z => z
end DL

set_option maxHeartbeats 4000000
namespace DL
open PySem PySem.Spec L2

/-! ### dicts: keys are ints and texts (false), or tuples of these (true) -/
def keyOf : D → Option Key
  | .int i => some (.inl i)
  | .str s => some (.inr s)
  | _ => none
def keysOf : List D → Option (List Key)
  | [] => some []
  | d :: ds => (keyOf d).bind fun k => (keysOf ds).map fun ks => k :: ks
def keyT (t : Bool) (d : D) : Bool := match t, d with
  | false, d => (keyOf d).isSome
  | true, .tup ds => (keysOf ds).isSome
  | _, _ => false
/-- what stands at a key -/
def lookD : List D → List D → D → Option D
  | k :: ks, v :: vs, x => if eqD k x then some v else lookD ks vs x
  | _, _, _ => none
def hasD (ks : List D) (x : D) : Bool := ks.any fun k => eqD k x
def putV : List D → List D → D → D → List D
  | k :: ks, w :: vs, x, v => (if eqD k x then v else w) :: putV ks vs x v
  | _, _, _, _ => []
/-- the dict that an expression tells -/
def dicD (S : Sto) : D → Option (Bool × List D × List D)
  | .dic t ks vs => some (t, ks, vs)
  | .ref n => match S[n]? with
    | some (.dic t ks vs) => some (t, ks, vs)
    | _ => none
  | _ => none
theorem keyD_inj {a b : Key} : eqD (keyD a) (keyD b) = decide (a = b) := by
  cases a with
  | inl i =>
    cases b with
    | inl j =>
      simp only [keyD, eqD, Sum.inl.injEq]
      by_cases h : i = j <;> simp [h]
    | inr y => simp [keyD, eqD]
  | inr x =>
    cases b with
    | inl j => simp [keyD, eqD]
    | inr y =>
      simp only [keyD, eqD, Sum.inr.injEq]
      by_cases h : x = y <;> simp [h]
theorem keyDs_inj : ∀ {a b : List Key}, eqDs (a.map keyD) (b.map keyD) = decide (a = b)
  | [], [] => rfl
  | [], _ :: _ => by simp [eqDs]
  | _ :: _, [] => by simp [eqDs]
  | x :: a, y :: b => by
    simp only [List.map_cons, eqDs, keyD_inj, keyDs_inj, List.cons.injEq]
    by_cases h1 : x = y <;> by_cases h2 : a = b <;> simp [h1, h2]
theorem keyOf_some {d : D} {k : Key} (h : keyOf d = some k) : d = keyD k := by
  cases d <;> simp [keyOf] at h <;> subst h <;> rfl
theorem keysOf_some : ∀ {ds : List D} {ks : List Key}, keysOf ds = some ks → ds = ks.map keyD
  | [], ks, h => by simp [keysOf] at h; subst h; rfl
  | d :: ds, ks, h => by
    simp only [keysOf, Option.bind_eq_some_iff, Option.map_eq_some_iff] at h
    obtain ⟨k, h1, ks', h2, rfl⟩ := h
    rw [keyOf_some h1, keysOf_some h2]; rfl
section
variable {K : PySem.W.Frag} {av : Addr → Prop} {μ : List Addr} {H : Hp}
theorem rv_key {k : Key} {v : V} (h : RV K av μ H (keyD k) v) : v = kV k := by
  cases k with
  | inl i => exact rv_int.mp h
  | inr s => exact rv_str.mp h
theorem rvl_keys : ∀ {ks : List Key} {vs : List V}, RVL K av μ H (ks.map keyD) vs → vs = ks.map kV
  | [], vs, h => by simpa [rvl_nil] using h
  | k :: ks, vs, h => by
    simp only [List.map_cons, rvl_cons] at h
    obtain ⟨y, ys, rfl, h1, h2⟩ := h
    rw [rv_key h1, rvl_keys h2]; rfl
theorem look_k {κ : Type} [DecidableEq κ] (f : κ → D) (hf : ∀ a b, eqD (f a) (f b) = decide (a = b)) (k : κ) : ∀ {kvs : List (κ × V)} {vs : List D}, RVL K av μ H vs (kvs.map (·.2)) →
    match lookD (kvs.map fun p => f p.1) vs (f k) with
    | some d => ∃ v, valV kvs k = some v ∧ RV K av μ H d v
    | none => valV kvs k = none
  | [], vs, h => by
    have : lookD [] vs (f k) = none := by cases vs <;> rfl
    simp only [List.map_nil, this]
    rfl
  | p :: kvs, vs, h => by
    cases vs with
    | nil => rw [rvl_nil] at h; cases h
    | cons d vs =>
      rw [List.map_cons, rvl_cons] at h
      obtain ⟨y, ys, e, h1, h2⟩ := h
      cases e
      simp only [List.map_cons, lookD, hf]
      by_cases e : p.1 = k
      · rw [decide_eq_true e, if_pos rfl]
        exact ⟨_, valV_pos e, h1⟩
      · rw [decide_eq_false e, if_neg (by decide), valV_neg e]
        exact look_k f hf k h2
theorem has_k {κ : Type} [DecidableEq κ] (f : κ → D) (hf : ∀ a b, eqD (f a) (f b) = decide (a = b)) (k : κ) (kvs : List (κ × V)) : hasD (kvs.map fun p => f p.1) (f k) = (valV kvs k).isSome := by
  rw [← valV_any]
  unfold hasD
  rw [List.any_map]
  congr 1
  funext p
  exact hf p.1 k
theorem put_k {κ : Type} [DecidableEq κ] (f : κ → D) (hf : ∀ a b, eqD (f a) (f b) = decide (a = b)) (k : κ) {d : D} {v : V} (r : RV K av μ H d v) : ∀ {kvs : List (κ × V)} {vs : List D}, RVL K av μ H vs (kvs.map (·.2)) →
    RVL K av μ H (putV (kvs.map fun p => f p.1) vs (f k) d) ((kvs.map fun kv => if kv.1 = k then (kv.1, v) else kv).map (·.2)) ∧ (kvs.map fun kv => if kv.1 = k then (kv.1, v) else kv).map (fun p => f p.1) = kvs.map fun p => f p.1
  | [], vs, h => by
    have : putV [] vs (f k) d = [] := by cases vs <;> rfl
    simp only [List.map_nil, this]
    exact ⟨RVL.nil', trivial⟩
  | p :: kvs, vs, h => by
    cases vs with
    | nil => rw [rvl_nil] at h; cases h
    | cons w vs =>
      rw [List.map_cons, rvl_cons] at h
      obtain ⟨y, ys, e, h1, h2⟩ := h
      cases e
      obtain ⟨i1, i2⟩ := put_k f hf k r h2
      simp only [List.map_cons, putV, hf]
      by_cases e : p.1 = k
      · rw [decide_eq_true e, if_pos rfl, if_pos e]
        exact ⟨RVL.cons' r i1, by rw [i2]⟩
      · rw [decide_eq_false e, if_neg (by decide), if_neg e]
        exact ⟨RVL.cons' h1 i1, by rw [i2]⟩
end
theorem tupD_inj {a b : List Key} : eqD (.tup (a.map keyD)) (.tup (b.map keyD)) = decide (a = b) := by
  show eqDs _ _ = _
  exact keyDs_inj
/-- the object behind -/
theorem dic_of {K : PySem.W.Frag} {Z : Fr} {μ : List Addr} {H : Hp} {S : Sto} {d : D} {t : Bool} {ks vs : List D} {v : V} (W : Wd K Z μ H S) (r : RVz K Z μ H d v) (h : dicD S d = some (t, ks, vs)) :
    ∃ a, v = .ref a ∧ ((t = false ∧ ∃ kvs, H a = some (.dK kvs) ∧ ks = dicKs kvs ∧ RVLz K Z μ H vs (kvs.map (·.2))) ∨ (t = true ∧ ∃ kvs, H a = some (.dT kvs) ∧ ks = dicKsT kvs ∧ RVLz K Z μ H vs (kvs.map (·.2)))) := by
  cases d with
  | dic t' ks' vs' =>
    simp only [dicD, Option.some.injEq, Prod.mk.injEq] at h
    obtain ⟨rfl, rfl, rfl⟩ := h
    obtain ⟨a, e, _, h⟩ := rv_dic.mp r
    exact ⟨a, e, h⟩
  | ref n =>
    simp only [dicD] at h
    split at h
    · rename_i t' ks' vs' hc
      simp only [Option.some.injEq, Prod.mk.injEq] at h
      obtain ⟨rfl, rfl, rfl⟩ := h
      obtain ⟨a, e, hn⟩ := rv_ref.mp r
      exact ⟨a, e, W.cell n _ a hc hn⟩
    · cases h
  | _ => simp [dicD] at h
/-- what the dict holds at the key -/
theorem dget_of {K : PySem.W.Frag} {Z : Fr} {μ : List Addr} {H : Hp} {S : Sto} {d x : D} {t : Bool} {ks vs : List D} {v u : V} (W : Wd K Z μ H S) (r : RVz K Z μ H d v) (rx : RVz K Z μ H x u) (h : dicD S d = some (t, ks, vs)) (hk : keyT t x = true) :
    ∃ a o, v = .ref a ∧ DGet H a u o ∧ o.isSome = hasD ks x ∧ ∀ y, lookD ks vs x = some y → ∃ w, o = some w ∧ RVz K Z μ H y w := by
  obtain ⟨a, e, h⟩ := dic_of W r h
  rcases h with ⟨rfl, kvs, h1, rfl, h2⟩ | ⟨rfl, kvs, h1, rfl, h2⟩
  · have hk' : (keyOf x).isSome = true := hk
    obtain ⟨k, ek⟩ := Option.isSome_iff_exists.mp hk'
    have ex := keyOf_some ek
    subst ex
    rw [rv_key rx]
    refine ⟨a, _, e, DGet.k h1, (has_k keyD (fun _ _ => keyD_inj) k kvs).symm, fun y hy => ?_⟩
    have q := look_k (K := K) (av := avd Z μ) (μ := μ) (H := H) keyD (fun _ _ => keyD_inj) k h2
    have hy' : lookD (kvs.map fun p => keyD p.1) vs (keyD k) = some y := hy
    rw [hy'] at q
    exact q
  · cases x with
    | tup ds =>
      have hk' : (keysOf ds).isSome = true := hk
      obtain ⟨k, ek⟩ := Option.isSome_iff_exists.mp hk'
      have ex := keysOf_some ek
      subst ex
      obtain ⟨b, xs, rfl, hb, hr⟩ := rv_tup.mp rx
      rw [rvl_keys hr] at hb
      refine ⟨a, _, e, DGet.t h1 hb, (has_k (fun k : List Key => D.tup (k.map keyD)) (fun _ _ => tupD_inj) k kvs).symm, fun y hy => ?_⟩
      have q := look_k (K := K) (av := avd Z μ) (μ := μ) (H := H) (fun k : List Key => D.tup (k.map keyD)) (fun _ _ => tupD_inj) k h2
      have hy' : lookD (kvs.map fun p => D.tup (p.1.map keyD)) vs (.tup (k.map keyD)) = some y := hy
      rw [hy'] at q
      exact q
    | _ => simp [keyT] at hk
end DL

set_option maxHeartbeats 4000000
namespace DL
open PySem PySem.Spec L2

/-! ### dicts: words of the text -/
def gDGet : Sto → D → D → Option D := fun S d x => (dicD S d).bind fun p => if keyT p.1 x then lookD p.2.1 p.2.2 x else none
def gDIn (neg : Bool) : Sto → D → D → Option D := fun S x d => (dicD S d).bind fun p => if keyT p.1 x then some (.bl (if neg then !hasD p.2.1 x else hasD p.2.1 x)) else none
section
variable {X : Cx} {o i e : Expr} {pos pos' : Pos} {fo fi fa : E}
theorem d_dget (hu : X.A.units + 1 < cLine) (ho : PE X o (tD X.K fo)) (hi : PE X i (tD X.K fi)) (hs : NoSl i := by intro _ _; rfl) : PE X (.Subscript o i pos) (tD X.K (e2 gDGet fo fi)) :=
  pe_imp (pe_dget hu ho hi hs) fun σ H Q ⟨Z, μ, ρ, S, R, d, e, q⟩ => by
    simp only [e2, gDGet, Option.bind_eq_some_iff] at e
    obtain ⟨x, ex, y, ey, ⟨t, ks, vs⟩, ed, e⟩ := e
    split at e
    case isFalse => cases e
    rename_i hk
    refine ⟨Z, μ, ρ, S, R, x, ex, fun v H1 s1 r1 => ⟨Z, μ, ρ, S, R.mono s1, y, ey, fun u H2 s2 r2 => ?_⟩⟩
    obtain ⟨a, ov, rfl, g, _, h⟩ := dget_of ((R.wd.mono s1).mono s2) (RV.mono s2 r1) r2 ed hk
    obtain ⟨w, rfl, rw'⟩ := h d e
    exact ⟨a, w, rfl, g, q w H2 (s1.trans s2) rw'⟩
theorem tDIn_of {K : PySem.W.Frag} {σ : L2.St} {H : Hp} {Q : VK} (h : tD K (e2 (gDIn false) fi fo) σ H Q) : tDIn (tD K fi) (tD K fo) σ H Q := by
  obtain ⟨Z, μ, ρ, S, R, d, e, q⟩ := h
  simp only [e2, gDIn, Option.bind_eq_some_iff] at e
  obtain ⟨x, ex, y, ey, ⟨t, ks, vs⟩, ed, e⟩ := e
  split at e
  case isFalse => cases e
  rename_i hk
  cases e
  refine ⟨Z, μ, ρ, S, R, x, ex, fun v H1 s1 r1 => ⟨Z, μ, ρ, S, R.mono s1, y, ey, fun u H2 s2 r2 => ?_⟩⟩
  obtain ⟨a, ov, rfl, g, hs, _⟩ := dget_of ((R.wd.mono s1).mono s2) r2 (RV.mono s2 r1) ed hk
  exact ⟨a, ov, rfl, g, q _ H2 (s1.trans s2) (rv_bl.mpr (by rw [hs]; rfl))⟩
theorem tDNotIn_of {K : PySem.W.Frag} {σ : L2.St} {H : Hp} {Q : VK} (h : tD K (e2 (gDIn true) fi fo) σ H Q) : tDNotIn (tD K fi) (tD K fo) σ H Q := by
  obtain ⟨Z, μ, ρ, S, R, d, e, q⟩ := h
  simp only [e2, gDIn, Option.bind_eq_some_iff] at e
  obtain ⟨x, ex, y, ey, ⟨t, ks, vs⟩, ed, e⟩ := e
  split at e
  case isFalse => cases e
  rename_i hk
  cases e
  refine ⟨Z, μ, ρ, S, R, x, ex, fun v H1 s1 r1 => ⟨Z, μ, ρ, S, R.mono s1, y, ey, fun u H2 s2 r2 => ?_⟩⟩
  obtain ⟨a, ov, rfl, g, hs, _⟩ := dget_of ((R.wd.mono s1).mono s2) r2 (RV.mono s2 r1) ed hk
  exact ⟨a, ov, rfl, g, q _ H2 (s1.trans s2) (rv_bl.mpr (by rw [hs]; rfl))⟩
theorem d_din (hu : X.A.units + 1 < cLine) (hi : PE X i (tD X.K fi)) (ho : PE X o (tD X.K fo)) (hm : behindInMarks .In o = false := by rfl) : PE X (.Compare i [.In] [o] pos) (tD X.K (e2 (gDIn false) fi fo)) :=
  pe_imp (pe_cmp (pc_din hu hi ho) hm) fun _ _ _ h => tDIn_of h
theorem d_dnotin (hu : X.A.units + 1 < cLine) (hi : PE X i (tD X.K fi)) (ho : PE X o (tD X.K fo)) (hm : behindInMarks .NotIn o = false := by rfl) : PE X (.Compare i [.NotIn] [o] pos) (tD X.K (e2 (gDIn true) fi fo)) :=
  pe_imp (pe_cmp (pc_dnotin hu hi ho) hm) fun _ _ _ h => tDNotIn_of h
theorem tBB_of {K : PySem.W.Frag} {f : E} {t : TE} (i : ∀ σ H Q, tD K f σ H Q → t σ H Q) {σ : L2.St} {H : Hp} {Q : Bool → Hp → Prop} (h : tT K (eB f) σ H Q) : tB t σ H Q := by
  obtain ⟨Z, μ, ρ, S, R, k, e, q⟩ := h
  simp only [eB, Option.bind_eq_some_iff] at e
  obtain ⟨d, e1, e2⟩ := e
  refine i _ _ _ ⟨Z, μ, ρ, S, R, d, e1, fun v H' s r => ?_⟩
  cases d <;> simp at e2
  subst e2
  exact ⟨_, rv_bl.mp r, q H' s⟩
theorem dt_din (hu : X.A.units + 1 < cLine) (hi : PE X i (tD X.K fi)) (ho : PE X o (tD X.K fo)) (hm : behindInMarks .In o = false := by rfl) : PT X (.Compare i [.In] [o] pos) (tT X.K (eB (e2 (gDIn false) fi fo))) :=
  pt_imp (pt_cmp (pc_din hu hi ho) hm) fun _ _ _ h => tBB_of (fun _ _ _ h => tDIn_of h) h
theorem dt_dnotin (hu : X.A.units + 1 < cLine) (hi : PE X i (tD X.K fi)) (ho : PE X o (tD X.K fo)) (hm : behindInMarks .NotIn o = false := by rfl) : PT X (.Compare i [.NotIn] [o] pos) (tT X.K (eB (e2 (gDIn true) fi fo))) :=
  pt_imp (pt_cmp (pc_dnotin hu hi ho) hm) fun _ _ _ h => tBB_of (fun _ _ _ h => tDNotIn_of h) h
/-- the cell of a dict -/
def dcell (S : Sto) : D → Option (Nat × Bool × List D × List D)
  | .ref n => match S[n]? with
    | some (.dic t ks vs) => some (n, t, ks, vs)
    | _ => none
  | _ => none
/-- d[x] = v -/
def sDPutD (f fo fi : E) : T := fun ρ S => (f ρ S).bind fun v => (fo ρ S).bind fun o => (fi ρ S).bind fun x => (dcell S o).bind fun c =>
  if keyT c.2.1 x && small c.2.2.1.length then some (.nx, ρ, S.set c.1 (if hasD c.2.2.1 x then .dic c.2.1 c.2.2.1 (putV c.2.2.1 c.2.2.2 x v) else .dic c.2.1 (c.2.2.1 ++ [x]) (c.2.2.2 ++ [v]))) else none
theorem ds_dput (hu : X.A.units + 1 < cLine) (hv : PE X e (tD X.K fa)) (ho : PE X o (tD X.K fo)) (hi : PE X i (tD X.K fi)) (hs : swapsWith e (some (.Subscript o i pos')) pos.line X.env = pure false := by rfl) : PS X (.Assign [.Subscript o i pos'] e pos) (tS X.K (sDPutD fa fo fi)) :=
  ps_imp (ps_dput hu ho hi hv hs) fun De σ H ⟨Z, μ, ρ, S, R, fl, ρ', S', e, q⟩ => by
    simp only [sDPutD, Option.bind_eq_some_iff] at e
    obtain ⟨d, e0, od, e1, x, e2, ⟨n, t, ks, vs⟩, e3, e4⟩ := e
    split at e4
    case isFalse => cases e4
    rename_i hk
    simp only [Bool.and_eq_true] at hk
    obtain ⟨hk, hsm⟩ := hk
    simp only [Option.some.injEq, Prod.mk.injEq] at e4
    obtain ⟨rfl, rfl, rfl⟩ := e4
    refine ⟨Z, μ, ρ, S, R, d, e0, fun v H1 s1 r1 => ⟨Z, μ, ρ, S, R.mono s1, od, e1, fun u H2 s2 r2 => ⟨Z, μ, ρ, S, (R.mono s1).mono s2, x, e2, fun w H3 s3 r3 => ?_⟩⟩⟩
    have R3 := ((R.mono s1).mono s2).mono s3
    have rd : RVz X.K Z μ H3 d v := RV.mono (s2.trans s3) r1
    have ro : RVz X.K Z μ H3 od u := RV.mono s3 r2
    cases od with
    | ref m =>
      simp only [dcell] at e3
      split at e3
      case h_2 => cases e3
      rename_i t' ks' vs' hc
      simp only [Option.some.injEq, Prod.mk.injEq] at e3
      obtain ⟨rfl, rfl, rfl, rfl⟩ := e3
      obtain ⟨a, rfl, hn⟩ := rv_ref.mp ro
      have hm : a ∈ μ := List.mem_of_getElem? hn
      have small_of : ∀ {κ : Type} {kvs : List (κ × V)} {f : κ → D}, small (kvs.map fun p => f p.1).length = true → kvs.length < sizeLine := fun {κ kvs f} h => by
        rw [List.length_map] at h
        exact small_lt h
      rcases R3.wd.cell m _ a hc hn with ⟨rfl, kvs, h1, rfl, h2⟩ | ⟨rfl, kvs, h1, rfl, h2⟩
      · have hk' : (keyOf x).isSome = true := hk
        obtain ⟨k, ek⟩ := Option.isSome_iff_exists.mp hk'
        have ex := keyOf_some ek
        subst ex
        rw [rv_key r3]
        refine ⟨a, _, rfl, DPut.k h1 (small_of (f := keyD) hsm), q _ _ μ ?_⟩
        have hh : hasD (dicKs kvs) (keyD k) = (kvs.any fun kv => decide (kv.1 = k)) := by
          rw [valV_any]
          exact has_k keyD (fun _ _ => keyD_inj) k kvs
        refine R3.wr hn (c := _) ?_
        rw [hh]
        by_cases ha : (kvs.any fun kv => decide (kv.1 = k)) = true
        · obtain ⟨p1, p2⟩ := put_k keyD (fun _ _ => keyD_inj) k rd h2
          have ep : putK kvs k v = kvs.map (fun kv => if kv.1 = k then (kv.1, v) else kv) := if_pos ha
          rw [if_pos ha, ep]
          exact .inl ⟨rfl, _, upd_same, by unfold dicKs; rw [p2], RVL.wr R3.wd hm p1⟩
        · have ep : putK kvs k v = kvs ++ [(k, v)] := if_neg ha
          rw [if_neg ha, ep]
          refine .inl ⟨rfl, _, upd_same, by simp [dicKs], RVL.wr R3.wd hm ?_⟩
          rw [List.map_append]
          exact RVL.app h2 (RVL.one rd)
      · cases x with
        | tup ds =>
          have hk' : (keysOf ds).isSome = true := hk
          obtain ⟨k, ek⟩ := Option.isSome_iff_exists.mp hk'
          have ex := keysOf_some ek
          subst ex
          obtain ⟨b, xs, rfl, hb, hr⟩ := rv_tup.mp r3
          rw [rvl_keys hr] at hb
          refine ⟨a, _, rfl, DPut.t h1 hb (small_of (f := fun k : List Key => D.tup (k.map keyD)) hsm), q _ _ μ ?_⟩
          have hh : hasD (dicKsT kvs) (.tup (k.map keyD)) = (kvs.any fun kv => decide (kv.1 = k)) := by
            rw [valV_any]
            exact has_k (fun k : List Key => D.tup (k.map keyD)) (fun _ _ => tupD_inj) k kvs
          refine R3.wr hn (c := _) ?_
          rw [hh]
          by_cases ha : (kvs.any fun kv => decide (kv.1 = k)) = true
          · obtain ⟨p1, p2⟩ := put_k (fun k : List Key => D.tup (k.map keyD)) (fun _ _ => tupD_inj) k rd h2
            have ep : putK kvs k v = kvs.map (fun kv => if kv.1 = k then (kv.1, v) else kv) := if_pos ha
            rw [if_pos ha, ep]
            exact .inr ⟨rfl, _, upd_same, by unfold dicKsT; rw [p2], RVL.wr R3.wd hm p1⟩
          · have ep : putK kvs k v = kvs ++ [(k, v)] := if_neg ha
            rw [if_neg ha, ep]
            refine .inr ⟨rfl, _, upd_same, by simp [dicKsT], RVL.wr R3.wd hm ?_⟩
            rw [List.map_append]
            exact RVL.app h2 (RVL.one rd)
        | _ => simp [keyT] at hk
    | _ => simp [dcell] at e3
end
end DL
namespace DL
open PySem PySem.Spec L2
/-! ### new dicts -/
def sNewD (t : Bool) (i : Nat) : T := fun ρ S => some (.nx, ρ.set i (some (.ref S.length)), S ++ [.dic t [] []])
/-- x = {k: v} -/
def sNewD1 (i : Nat) (fk fv : E) : T := fun ρ S => (fk ρ S).bind fun k => (fv ρ S).bind fun v => if keyT false k then some (.nx, ρ.set i (some (.ref S.length)), S ++ [.dic false [k] [v]]) else none
section
variable {X : Cx} {e k w : Expr} {pos pos' dpos : Pos} {fk fv : E} {i : Nat} {x : Str}
theorem Rel.newC {K : PySem.W.Frag} {Z : Fr} {μ : List Addr} {H H' : Hp} {S : Sto} {σ : L2.St} {ρ : Rho} {a : Addr} {c : Cell} {i : Nat} (R : Rel K Z μ σ H ρ S) (s : Same H H') (n : H a = none) (r : RC K Z (μ ++ [a]) H' a c) :
    Rel K Z (μ ++ [a]) (σ.set i (some (.ref a))) H' (ρ.set i (some (.ref S.length))) (S ++ [c]) := by
  refine (R.alloc s n r).set (rv_ref.mpr ⟨a, rfl, ?_⟩)
  rw [R.wd.len, List.getElem?_append_right (Nat.le_refl _)]
  simp
theorem ds_newD {t : Bool} (hN : X.N.Nodup) (hi : X.N[i]? = some x) (hx : Loc X.env.scope x) (hs : swapsWith (.Dict [] [] dpos) (some (.Name x pos')) pos.line X.env = pure false := by rfl) (hf : X.fn x = true ∨ X.env.scope.names.lookup x = some .local := by first | exact .inl rfl | exact .inr rfl | assumption) :
    PS X (.Assign [.Name x pos'] (.Dict [] [] dpos) pos) (tS X.K (sNewD t i)) := by
  cases t with
  | false =>
    refine ps_imp (ps_set hN hi hx pe_dnewK hs hf) fun De σ H ⟨Z, μ, ρ, S, R, fl, ρ', S', e, q⟩ => ?_
    simp only [sNewD, Option.some.injEq, Prod.mk.injEq] at e
    obtain ⟨rfl, rfl, rfl⟩ := e
    intro p hp
    have s : Same H (upd H p (.dK [])) := fun c o z => by rw [upd_ne (ne_of_none z hp)]; exact z
    exact q _ _ (μ ++ [p]) (R.newC s hp (.inl ⟨rfl, [], upd_same, rfl, RVL.nil'⟩))
  | true =>
    refine ps_imp (ps_set hN hi hx pe_dnewT hs hf) fun De σ H ⟨Z, μ, ρ, S, R, fl, ρ', S', e, q⟩ => ?_
    simp only [sNewD, Option.some.injEq, Prod.mk.injEq] at e
    obtain ⟨rfl, rfl, rfl⟩ := e
    intro p hp
    have s : Same H (upd H p (.dT [])) := fun c o z => by rw [upd_ne (ne_of_none z hp)]; exact z
    exact q _ _ (μ ++ [p]) (R.newC s hp (.inr ⟨rfl, [], upd_same, rfl, RVL.nil'⟩))
theorem ds_newD1 (hN : X.N.Nodup) (hi : X.N[i]? = some x) (hx : Loc X.env.scope x) (hk : PE X k (tD X.K fk)) (hw : PE X w (tD X.K fv)) (hs : swapsWith (.Dict [some k] [w] dpos) (some (.Name x pos')) pos.line X.env = pure false := by rfl)
    (hf : X.fn x = true ∨ X.env.scope.names.lookup x = some .local := by first | exact .inl rfl | exact .inr rfl | assumption) :
    PS X (.Assign [.Name x pos'] (.Dict [some k] [w] dpos) pos) (tS X.K (sNewD1 i fk fv)) := by
  refine ps_imp (ps_set hN hi hx (pe_disp (pps_cons hk hw pps_nil) rfl rfl (by simp) (by simp)) hs hf) fun De σ H ⟨Z, μ, ρ, S, R, fl, ρ', S', e, q⟩ => ?_
  simp only [sNewD1, Option.bind_eq_some_iff] at e
  obtain ⟨dk, e1, dv, e2, e3⟩ := e
  split at e3
  case isFalse => cases e3
  rename_i hkk
  simp only [Option.some.injEq, Prod.mk.injEq] at e3
  obtain ⟨rfl, rfl, rfl⟩ := e3
  intro p hp
  have s : Same H (upd H p (.dK [])) := fun c o z => by rw [upd_ne (ne_of_none z hp)]; exact z
  have R1 := R.plus s hp (by rw [upd_same]; exact fun z => by cases z)
  refine ⟨Z.plus p, μ, ρ, S, R1, dk, e1, fun u H1 s1 r1 => ⟨Z.plus p, μ, ρ, S, R1.mono s1, dv, e2, fun v H2 s2 r2 => ?_⟩⟩
  have hp2 : H2 p = some (.dK []) := s2 _ _ (s1 _ _ upd_same)
  have hk' : (keyOf dk).isSome = true := hkk
  obtain ⟨key, ek⟩ := Option.isSome_iff_exists.mp hk'
  have ex := keyOf_some ek
  subst ex
  refine ⟨hp2, [(key, v)], by rw [rv_key r1]; rfl, by simp, ?_⟩
  have em : mergeK [] [(key, v)] = [(key, v)] := rfl
  rw [em]
  have s3 : Same H (upd H2 p (.dK [(key, v)])) := fun c o z => by
    rw [upd_ne (ne_of_none z hp)]
    exact s2 _ _ (s1 _ _ (s _ _ z))
  refine q _ _ (μ ++ [p]) (R.newC s3 hp (.inl ⟨rfl, [(key, v)], upd_same, rfl, RVL.one ?_⟩))
  refine RV.tr (av := avd (Z.plus p) μ) (μ := μ) (H := H2) (fun a o e hn => ?_) (fun n a e => by rw [List.getElem?_append_left (List.getElem?_eq_some_iff.mp e).1]; exact e) _ _ r2
  have ne : a ≠ p := by
    rintro rfl
    rw [hp2] at e
    cases e
    exact hn rfl (.inl (.inr rfl))
  refine ⟨by rw [upd_ne ne]; exact e, fun m z => hn m ?_⟩
  rcases z with z | z
  · exact .inl (.inl z)
  · rcases List.mem_append.mp z with z | z
    · exact .inr z
    · exact absurd (List.mem_singleton.mp z) ne
end
end DL
namespace DL
open PySem PySem.Spec L2
/-! ### len of a dict -/
theorem call_lenK {X : Cx} : CallR X (.builtin "len") (fun xs H Q => ∃ a kvs, xs = [.ref a] ∧ H a = some (.dK kvs) ∧ Q (.int (kvs.length : Nat)) H) := by
  intro pins s σ H xs us Q I r h
  obtain ⟨a, kvs, rfl, e, q⟩ := h
  rw [Vals.ref1 r]
  exact d_len I (.inl e) fun t s' I' => ⟨.int _, H, I', ⟨_, rfl⟩, q⟩
def cLenK : Sto → List D → Option D := fun S ds => match ds with
  | [x] => (dicD S x).bind fun p => if p.1 then none else some (.int p.2.1.length)
  | _ => none
theorem cd_lenK {K : PySem.W.Frag} : CallD K (fun xs H Q => ∃ a kvs, xs = [.ref a] ∧ H a = some (.dK kvs) ∧ Q (.int (kvs.length : Nat)) H) cLenK := by
  intro Z μ H S ds d vs Q W r e q
  unfold cLenK at e
  split at e
  · simp only [Option.bind_eq_some_iff] at e
    obtain ⟨⟨t, ks, ws⟩, e1, e2⟩ := e
    split at e2
    case isTrue => cases e2
    rename_i ht
    cases e2
    obtain ⟨v, rfl, rx⟩ := rvl1 r
    obtain ⟨a, rfl, h⟩ := dic_of W rx e1
    rcases h with ⟨rfl, kvs, h1, rfl, h2⟩ | ⟨rfl, _⟩
    · refine ⟨a, kvs, rfl, h1, ?_⟩
      have : (dicKs kvs).length = kvs.length := by simp [dicKs]
      have q' := q (.int ((dicKs kvs).length : Nat)) H (Same.refl H) (rv_int.mpr rfl)
      rwa [this] at q'
    · exact absurd rfl ht
  · cases e
end DL
namespace DL
open PySem PySem.Spec L2
theorem hu1 {k : Nat} {A : Around} (h : Room k A) : A.units + 1 < cLine := by have := h.un; omega
end DL

set_option maxHeartbeats 4000000
namespace DL
open PySem PySem.Spec L2

/-! ### plain: the mirrors' own steps -/
section
variable {ρ : Rho} {S : Sto}
@[simp] theorem x_eV (i : Nat) : eV i ρ S = (ρ[i]?).bind id := (rfl)
@[simp] theorem x_eC (d : D) : eC d ρ S = some d := (rfl)
@[simp] theorem x_e1 (g : Sto → D → Option D) (a : E) : e1 g a ρ S = (a ρ S).bind fun x => g S x := (rfl)
@[simp] theorem x_e2 (g : Sto → D → D → Option D) (a b : E) : e2 g a b ρ S = (a ρ S).bind fun x => (b ρ S).bind fun y => g S x y := (rfl)
@[simp] theorem x_f2 (g : Sto → D → D → Option (List D)) (a b : E) : f2 g a b ρ S = (a ρ S).bind fun x => (b ρ S).bind fun y => g S x y := (rfl)
def asB : D → Option Bool
  | .bl b => some b
  | _ => none
@[simp] theorem asB_bl (b : Bool) : asB (.bl b) = some b := (rfl)
@[simp] theorem x_eB (f : E) : eB f ρ S = (f ρ S).bind asB := (rfl)
def and2 (z : D) (k : Option D) : Option D := match z with
  | .bl true => k
  | .bl false => some (.bl false)
  | _ => none
theorem and2_bl (b : Bool) (k : Option D) : and2 (.bl b) k = if b then k else some (.bl false) := by cases b <;> rfl
@[simp] theorem and2_bb (b c : Bool) : and2 (.bl b) (some (.bl c)) = some (.bl (b && c)) := by cases b <;> rfl
@[simp] theorem and2_t (k : Option D) : and2 (.bl true) k = k := (rfl)
@[simp] theorem and2_f (k : Option D) : and2 (.bl false) k = some (.bl false) := (rfl)
def or2 (z : D) (k : Option D) : Option D := match z with
  | .bl true => some (.bl true)
  | .bl false => k
  | _ => none
theorem or2_bl (b : Bool) (k : Option D) : or2 (.bl b) k = if b then some (.bl true) else k := by cases b <;> rfl
@[simp] theorem or2_bb (b c : Bool) : or2 (.bl b) (some (.bl c)) = some (.bl (b || c)) := by cases b <;> rfl
@[simp] theorem or2_t (k : Option D) : or2 (.bl true) k = some (.bl true) := (rfl)
@[simp] theorem or2_f (k : Option D) : or2 (.bl false) k = k := (rfl)
@[simp] theorem x_e3c (g g' : Sto → D → D → Option D) (a b c : E) : e3c g g' a b c ρ S = (a ρ S).bind fun x => (b ρ S).bind fun y => (g S x y).bind fun z => and2 z ((c ρ S).bind fun w => g' S y w) := by
  unfold e3c and2
  rfl
@[simp] theorem x_eTru (f : E) : eTru f ρ S = (f ρ S).bind fun d => truD S d := (rfl)
def andB (c : Bool) (k : Option Bool) : Option Bool := if c then k else some false
def orB (c : Bool) (k : Option Bool) : Option Bool := if c then some true else k
@[simp] theorem andB_bb (b c : Bool) : andB b (some c) = some (b && c) := by cases b <;> rfl
@[simp] theorem andB_t (k : Option Bool) : andB true k = k := (rfl)
@[simp] theorem andB_f (k : Option Bool) : andB false k = some false := (rfl)
@[simp] theorem orB_bb (b c : Bool) : orB b (some c) = some (b || c) := by cases b <;> rfl
@[simp] theorem orB_t (k : Option Bool) : orB true k = some true := (rfl)
@[simp] theorem orB_f (k : Option Bool) : orB false k = k := (rfl)
@[simp] theorem x_bAnd (t u : EB) : bAnd t u ρ S = (t ρ S).bind fun c => andB c (u ρ S) := (rfl)
@[simp] theorem x_bOr (t u : EB) : bOr t u ρ S = (t ρ S).bind fun c => orB c (u ρ S) := (rfl)
@[simp] theorem x_bNot (t : EB) : bNot t ρ S = (t ρ S).map fun c => !c := (rfl)
@[simp] theorem x_eAnd (f g : E) : eAnd f g ρ S = (f ρ S).bind fun d => and2 d (g ρ S) := (rfl)
@[simp] theorem x_eOr (f g : E) : eOr f g ρ S = (f ρ S).bind fun d => or2 d (g ρ S) := (rfl)
@[simp] theorem x_eNot (f : E) : eNot f ρ S = (f ρ S).bind fun d => (asB d).map fun b => .bl (!b) := by
  unfold eNot asB
  congr 1
  funext d
  cases d <;> rfl
@[simp] theorem x_eIf (t : EB) (f g : E) : eIf t f g ρ S = (t ρ S).bind fun c => if c then f ρ S else g ρ S := (rfl)
@[simp] theorem x_fIf (t : EB) (f g : EL) : fIf t f g ρ S = (t ρ S).bind fun c => if c then f ρ S else g ρ S := (rfl)
@[simp] theorem x_aNil : aNil ρ S = some [] := (rfl)
@[simp] theorem x_aCons (f : E) (fs : EL) : aCons f fs ρ S = (f ρ S).bind fun d => (fs ρ S).map fun ds => d :: ds := (rfl)
def mkT (ds : List D) : Option D := if small ds.length then some (.tup ds) else none
def mkL (ds : List D) : Option (List D) := if small ds.length then some ds else none
@[simp] theorem x_eTup (fs : EL) : eTup fs ρ S = (fs ρ S).bind mkT := (rfl)
@[simp] theorem x_fLst (fs : EL) : fLst fs ρ S = (fs ρ S).bind mkL := (rfl)
theorem mkT_ok {ds : List D} (h : ds.length ≤ 1000000) : mkT ds = some (.tup ds) := if_pos (decide_eq_true h)
theorem mkL_ok {ds : List D} (h : ds.length ≤ 1000000) : mkL ds = some ds := if_pos (decide_eq_true h)
@[simp] theorem mkT_0 : mkT [] = some (.tup []) := (rfl)
@[simp] theorem mkT_1 (a : D) : mkT [a] = some (.tup [a]) := mkT_ok (by simp)
@[simp] theorem mkT_2 (a b : D) : mkT [a, b] = some (.tup [a, b]) := mkT_ok (by simp)
@[simp] theorem mkT_3 (a b c : D) : mkT [a, b, c] = some (.tup [a, b, c]) := mkT_ok (by simp)
@[simp] theorem mkT_4 (a b c d : D) : mkT [a, b, c, d] = some (.tup [a, b, c, d]) := mkT_ok (by simp)
@[simp] theorem mkL_0 : mkL [] = some [] := (rfl)
@[simp] theorem mkL_1 (a : D) : mkL [a] = some [a] := mkL_ok (by simp)
@[simp] theorem mkL_2 (a b : D) : mkL [a, b] = some [a, b] := mkL_ok (by simp)
@[simp] theorem mkL_3 (a b c : D) : mkL [a, b, c] = some [a, b, c] := mkL_ok (by simp)
@[simp] theorem x_eF (f : EL) : eF f ρ S = (f ρ S).map .lst := (rfl)
@[simp] theorem x_eCall (g : Sto → List D → Option D) (fs : EL) : eCall g fs ρ S = (fs ρ S).bind fun ds => g S ds := (rfl)
@[simp] theorem x_fCall (g : Sto → List D → Option (List D)) (fs : EL) : fCall g fs ρ S = (fs ρ S).bind fun ds => g S ds := (rfl)
def runA (S : Sto) (g : List D → Option D) (ds : List D) : Option D := if nrs ds then g ds else (fzs S ds).bind fun es => (g es).bind fun r => if imm r then some r else none
def runAF (S : Sto) (g : List D → Option (List D)) (ds : List D) : Option (List D) := if nrs ds then g ds else (fzs S ds).bind fun es => (g es).bind fun r => if imms r then some r else none
@[simp] theorem x_eFn (g : List D → Option D) (fs : EL) : eFn g fs ρ S = (fs ρ S).bind (runA S g) := (rfl)
@[simp] theorem x_fFn (g : List D → Option (List D)) (fs : EL) : fFn g fs ρ S = (fs ρ S).bind (runAF S g) := (rfl)
@[simp] theorem runA_nr {g : List D → Option D} {ds : List D} (h : nrs ds = true) : runA S g ds = g ds := if_pos h
@[simp] theorem runAF_nr {g : List D → Option (List D)} {ds : List D} (h : nrs ds = true) : runAF S g ds = g ds := if_pos h
@[simp] theorem x_oNone : oNone ρ S = some none := (rfl)
def asI : D → Option (Option Int)
  | .int i => some (some i)
  | _ => none
@[simp] theorem asI_int (i : Int) : asI (.int i) = some (some i) := (rfl)
@[simp] theorem x_oSome (f : E) : oSome f ρ S = (f ρ S).bind asI := (rfl)
def cut3 (S : Sto) (d : D) (l h : Option Int) : Option D := match d with
  | .tup ds => some (.tup (cutD ds l h))
  | d => (lstD S d).map fun ds => .lst (cutD ds l h)
@[simp] theorem cut3_tup (ds : List D) (l h : Option Int) : cut3 S (.tup ds) l h = some (.tup (cutD ds l h)) := (rfl)
@[simp] theorem cut3_lst (ds : List D) (l h : Option Int) : cut3 S (.lst ds) l h = some (.lst (cutD ds l h)) := (rfl)
@[simp] theorem x_eCutA (f : E) (lo hi : EO) : eCutA f lo hi ρ S = (f ρ S).bind fun d => (lo ρ S).bind fun l => (hi ρ S).bind fun h => cut3 S d l h := (rfl)
@[simp] theorem x_fCut (f : E) (lo hi : EO) : fCut f lo hi ρ S = (f ρ S).bind fun d => (lo ρ S).bind fun l => (hi ρ S).bind fun h => (lstD S d).map fun ds => cutD ds l h := (rfl)
@[simp] theorem x_iSeqD (f : E) : iSeqD f ρ S = (f ρ S).bind seqV := (rfl)
@[simp] theorem x_jSeqD (f : E) : jSeqD f ρ S = (f ρ S).bind (seqD S) := (rfl)
@[simp] theorem x_iRng (g : List D → Option (List D)) (fs : EL) : iRng g fs ρ S = (fs ρ S).bind g := (rfl)
def enum1 : List D → Option (List D)
  | [x] => (seqV x).map enumD
  | _ => none
@[simp] theorem enum1_one (x : D) : enum1 [x] = (seqV x).map enumD := (rfl)
@[simp] theorem x_iEnumD (fs : EL) : iEnumD fs ρ S = (fs ρ S).bind enum1 := (rfl)
def zip1 : List D → Option (List D)
  | [x, y] => if isTup x == isTup y then (seqV x).bind fun a => (seqV y).map fun b => zipD a b else none
  | _ => none
@[simp] theorem zip1_tt (x y : List D) : zip1 [.tup x, .tup y] = some (zipD x y) := (rfl)
@[simp] theorem zip1_ll (x y : List D) : zip1 [.lst x, .lst y] = some (zipD x y) := (rfl)
@[simp] theorem x_iZipD (fs : EL) : iZipD fs ρ S = (fs ρ S).bind zip1 := (rfl)
@[simp] theorem x_fComp (f : EL) (vs : List Nat) (g : G) (t : EB) (e : E) : fComp f vs g t e ρ S = (f ρ S).bind fun ds => (compL g t e (wipeR ρ vs) S ds).bind mkL := (rfl)
@[simp] theorem x_bYes : bYes ρ S = some true := (rfl)
@[simp] theorem x_wipe0 : wipeR ρ [] = ρ := (rfl)
@[simp] theorem x_wipe1 (v : Nat) (vs : List Nat) : wipeR ρ (v :: vs) = (wipeR ρ vs).set v none := (rfl)
@[simp] theorem x_gN (i : Nat) (d : D) : gN i d ρ = some (ρ.set i (some d)) := (rfl)
@[simp] theorem x_gT (n : Nat) (gs : Gs) (ds : List D) : gT n gs (.tup ds) ρ = if ds.length = n then gs ds ρ else none := (rfl)
@[simp] theorem x_gNil : gNil [] ρ = some ρ := (rfl)
@[simp] theorem x_gCons (g : G) (gs : Gs) (d : D) (ds : List D) : gCons g gs (d :: ds) ρ = (g d ρ).bind fun ρ' => gs ds ρ' := (rfl)
-- statements
@[simp] theorem x_sSkip : sSkip ρ S = some (.nx, ρ, S) := (rfl)
@[simp] theorem x_sBrk : sBrk ρ S = some (.bk, ρ, S) := (rfl)
@[simp] theorem x_sCnt : sCnt ρ S = some (.ct, ρ, S) := (rfl)
@[simp] theorem x_sNever : sNever ρ S = none := (rfl)
def nxt (g : T) (r : Fl × Rho × Sto) : Option (Fl × Rho × Sto) := match r with
  | (.nx, ρ', S') => g ρ' S'
  | r => some r
@[simp] theorem nxt_nx (g : T) : nxt g (.nx, ρ, S) = g ρ S := (rfl)
@[simp] theorem nxt_bk (g : T) : nxt g (.bk, ρ, S) = some (.bk, ρ, S) := (rfl)
@[simp] theorem nxt_ct (g : T) : nxt g (.ct, ρ, S) = some (.ct, ρ, S) := (rfl)
@[simp] theorem nxt_rt (g : T) (d : D) : nxt g (.rt d, ρ, S) = some (.rt d, ρ, S) := (rfl)
@[simp] theorem nxt_rf (g : T) (d : List D) : nxt g (.rf d, ρ, S) = some (.rf d, ρ, S) := (rfl)
@[simp] theorem x_sSeq (f g : T) : sSeq f g ρ S = (f ρ S).bind (nxt g) := (rfl)
@[simp] theorem x_sSet (i : Nat) (f : E) : sSet i f ρ S = (f ρ S).map fun d => (.nx, ρ.set i (some d), S) := (rfl)
@[simp] theorem x_sNew (i : Nat) (f : EL) : sNew i f ρ S = (f ρ S).map fun ds => (.nx, ρ.set i (some (.ref S.length)), S ++ [.lst ds]) := (rfl)
@[simp] theorem x_sDrop (f : E) : sDrop f ρ S = (f ρ S).map fun _ => (.nx, ρ, S) := (rfl)
@[simp] theorem x_sRet (f : E) : sRet f ρ S = (f ρ S).map fun d => (.rt d, ρ, S) := (rfl)
@[simp] theorem x_sRetF (f : EL) : sRetF f ρ S = (f ρ S).map fun d => (.rf d, ρ, S) := (rfl)
@[simp] theorem x_sIf (t : EB) (f g : T) : sIf t f g ρ S = (t ρ S).bind fun b => if b then f ρ S else g ρ S := (rfl)
@[simp] theorem x_sFor (f : EL) (g : G) (body : T) : sFor f g body ρ S = (f ρ S).bind fun ds => loopL g body ds ρ S := (rfl)
@[simp] theorem x_sAsg (f : E) (g : G) : sAsg f g ρ S = (f ρ S).bind fun d => (g d ρ).map fun ρ' => (.nx, ρ', S) := (rfl)
def par2 (i j : Nat) (ρ : Rho) (S : Sto) : List D → Option (Fl × Rho × Sto)
  | [d, e] => some (.nx, (ρ.set i (some d)).set j (some e), S)
  | _ => none
@[simp] theorem par2_2 (i j : Nat) (d e : D) : par2 i j ρ S [d, e] = some (.nx, (ρ.set i (some d)).set j (some e), S) := (rfl)
@[simp] theorem x_sPar (i j : Nat) (fs : EL) : sPar i j fs ρ S = (fs ρ S).bind (par2 i j ρ S) := by
  unfold sPar par2
  rfl
def aug2 (o : Option (Option D)) (d : D) : Option D := match o, d with
  | some (some (.int a)), .int b => some (.int (a + b))
  | _, _ => none
@[simp] theorem aug2_int (a b : Int) : aug2 (some (some (.int a))) (.int b) = some (.int (a + b)) := (rfl)
@[simp] theorem x_sAugI (i : Nat) (f : E) : sAugI i f ρ S = (f ρ S).bind fun d => (aug2 ρ[i]? d).map fun c => (.nx, ρ.set i (some c), S) := by
  unfold sAugI
  congr 1
  funext d
  generalize ρ[i]? = o
  cases o with
  | none => rfl
  | some o =>
    cases o with
    | none => rfl
    | some e => cases e <;> cases d <;> rfl
@[simp] theorem x_sApp (fo f : E) : sApp fo f ρ S = (fo ρ S).bind fun o => (f ρ S).bind fun d => (cellD S o).bind fun c => if small c.2.length then some (.nx, ρ, S.set c.1 (.lst (c.2 ++ [d]))) else none := (rfl)
@[simp] theorem x_sExt (fo f : E) : sExt fo f ρ S = (fo ρ S).bind fun o => (f ρ S).bind fun d => (lstD S d).bind fun es => (cellD S o).bind fun c => if small (c.2.length + es.length) then some (.nx, ρ, S.set c.1 (.lst (c.2 ++ es))) else none := (rfl)
end
end DL

set_option maxHeartbeats 4000000
namespace DL
open PySem PySem.Spec L2

/-! ### plain: operators at data -/
section
variable {ρ : Rho} {S : Sto}
@[simp] theorem small_eq (n : Nat) : small n = decide (n ≤ 1000000) := (rfl)
@[simp] theorem y_addI (i j : Int) : gAddA S (.int i) (.int j) = some (.int (i + j)) := (rfl)
theorem y_addT {a b : List D} (h : a.length + b.length ≤ 1000000) : gAddA S (.tup a) (.tup b) = some (.tup (a ++ b)) := if_pos (decide_eq_true h)
theorem y_addL {a b : List D} (h : a.length + b.length ≤ 1000000) : gAddA S (.lst a) (.lst b) = some (.lst (a ++ b)) := by
  simp [gAddA, gCatF, lstD, h]
@[simp] theorem y_sub (i j : Int) : gSub S (.int i) (.int j) = some (.int (i - j)) := (rfl)
theorem y_mul {i j : Int} (h : cMul i j = true) : gMulA S (.int i) (.int j) = some (.int (i * j)) := if_pos h
@[simp] theorem y_mulG (i j : Int) : gMulA S (.int i) (.int j) = if cMul i j then some (.int (i * j)) else none := (rfl)
@[simp] theorem cMul_r {i j : Int} (h : j.natAbs < 18446744073709551616) : cMul i j = true := by
  unfold cMul
  rw [Bool.or_eq_true]
  exact .inr (Nat.ble_eq_true_of_le h)
@[simp] theorem cMul_l {i j : Int} (h : i.natAbs < 18446744073709551616) : cMul i j = true := by
  unfold cMul
  rw [Bool.or_eq_true]
  exact .inl (Nat.ble_eq_true_of_le h)
@[simp] theorem y_mod (i j : Int) : gI (fun _ j => decide (0 < j)) (fun i j => i % j) S (.int i) (.int j) = if 0 < j then some (.int (i % j)) else none := by
  simp [gI]
@[simp] theorem y_div (i j : Int) : gI (fun _ j => decide (0 < j) && decide (j < 1073741824)) (fun i j => i / j) S (.int i) (.int j) = if 0 < j ∧ j < 1073741824 then some (.int (i / j)) else none := by
  simp [gI]
@[simp] theorem y_cmp (p : Int → Int → Bool) (i j : Int) : gCmp p S (.int i) (.int j) = some (.bl (p i j)) := (rfl)
@[simp] theorem y_neg (i : Int) : gNeg S (.int i) = some (.int (-i)) := (rfl)
theorem fo_ok {d : D} (h : okD 60 d = true) : fo S d = some d := if_pos h
theorem y_eq {x y : D} (h1 : okD 60 x = true) (h2 : okD 60 y = true) : gEq S x y = some (.bl (eqD x y)) := by
  simp [gEq, fo_ok h1, fo_ok h2]
theorem y_ne {x y : D} (h1 : okD 60 x = true) (h2 : okD 60 y = true) : gNe S x y = some (.bl (!eqD x y)) := by
  simp [gNe, fo_ok h1, fo_ok h2]
@[simp] theorem ok_int (n : Nat) (i : Int) : okD n (.int i) = true := by cases n <;> rfl
@[simp] theorem ok_bl (n : Nat) (i : Bool) : okD n (.bl i) = true := by cases n <;> rfl
@[simp] theorem ok_non (n : Nat) : okD n .non = true := by cases n <;> rfl
@[simp] theorem ok_tup (n : Nat) (ds : List D) : okD (n + 1) (.tup ds) = okDs n ds := (rfl)
@[simp] theorem ok_lst (n : Nat) (ds : List D) : okD (n + 1) (.lst ds) = okDs n ds := (rfl)
@[simp] theorem oks_nil (n : Nat) : okDs n [] = true := by cases n <;> rfl
@[simp] theorem oks_cons (n : Nat) (d : D) (ds : List D) : okDs n (d :: ds) = (okD n d && okDs n ds) := by cases n <;> rfl
@[simp] theorem oks_app (n : Nat) (a b : List D) : okDs n (a ++ b) = (okDs n a && okDs n b) := by
  induction a with
  | nil => simp
  | cons x a ih => simp [ih, Bool.and_assoc]
theorem oks_all {n : Nat} {ds : List D} : okDs n ds = true ↔ ∀ d ∈ ds, okD n d = true := by
  induction ds with
  | nil => simp
  | cons x a ih => simp [ih]
@[simp] theorem y_eqI (i j : Int) : gEq S (.int i) (.int j) = some (.bl (decide (i = j))) := by
  rw [y_eq (by simp) (by simp)]
  simp only [eqD]
  congr 2
@[simp] theorem y_neI (i j : Int) : gNe S (.int i) (.int j) = some (.bl (!decide (i = j))) := by
  rw [y_ne (by simp) (by simp)]
  simp only [eqD]
  congr 2
@[simp] theorem y_eqB (i j : Bool) : gEq S (.bl i) (.bl j) = some (.bl (i == j)) := by
  rw [y_eq (by simp) (by simp)]
  rfl
@[simp] theorem y_isN (neg : Bool) : gIsN neg S .non .non = some (.bl (!neg)) := (rfl)
@[simp] theorem y_isN_int (neg : Bool) (i : Int) : gIsN neg S (.int i) .non = some (.bl neg) := (rfl)
@[simp] theorem y_isN_bl (neg : Bool) (i : Bool) : gIsN neg S (.bl i) .non = some (.bl neg) := (rfl)
@[simp] theorem y_isN_tup (neg : Bool) (i : List D) : gIsN neg S (.tup i) .non = some (.bl neg) := (rfl)
@[simp] theorem y_isN_lst (neg : Bool) (i : List D) : gIsN neg S (.lst i) .non = some (.bl neg) := (rfl)
@[simp] theorem y_isN_str (neg : Bool) (i : Str) : gIsN neg S (.str i) .non = some (.bl neg) := (rfl)
@[simp] theorem y_isB (neg : Bool) (a b : Bool) : gIsB neg S (.bl a) (.bl b) = some (.bl (if a == b then !neg else neg)) := (rfl)
-- sequences
@[simp] theorem q_tup (ds : List D) : seqD S (.tup ds) = some ds := (rfl)
@[simp] theorem q_lst (ds : List D) : seqD S (.lst ds) = some ds := (rfl)
@[simp] theorem q_scr (ds : List Int) : seqD S (.scr ds) = some (ds.map .int) := (rfl)
theorem q_ref {n : Nat} {ds : List D} (h : S[n]? = some (.lst ds)) : seqD S (.ref n) = some ds := by simp only [seqD, h]
@[simp] theorem qv_tup (ds : List D) : seqV (.tup ds) = some ds := (rfl)
@[simp] theorem qv_lst (ds : List D) : seqV (.lst ds) = some ds := (rfl)
@[simp] theorem ql_lst (ds : List D) : lstD S (.lst ds) = some ds := (rfl)
theorem ql_ref {n : Nat} {ds : List D} (h : S[n]? = some (.lst ds)) : lstD S (.ref n) = some ds := by simp only [lstD, h]
theorem qc_ref {n : Nat} {ds : List D} (h : S[n]? = some (.lst ds)) : cellD S (.ref n) = some (n, ds) := by simp only [cellD, h]
@[simp] theorem q_ref0 (ds : List D) (T : Sto) : seqD (.lst ds :: T) (.ref 0) = some ds := (rfl)
@[simp] theorem ql_ref0 (ds : List D) (T : Sto) : lstD (.lst ds :: T) (.ref 0) = some ds := (rfl)
@[simp] theorem qc_ref0 (ds : List D) (T : Sto) : cellD (.lst ds :: T) (.ref 0) = some (0, ds) := (rfl)
@[simp] theorem q_ref1 (c : Cell) (ds : List D) (T : Sto) : seqD (c :: .lst ds :: T) (.ref 1) = some ds := (rfl)
@[simp] theorem ql_ref1 (c : Cell) (ds : List D) (T : Sto) : lstD (c :: .lst ds :: T) (.ref 1) = some ds := (rfl)
@[simp] theorem qc_ref1 (c : Cell) (ds : List D) (T : Sto) : cellD (c :: .lst ds :: T) (.ref 1) = some (1, ds) := (rfl)
@[simp] theorem q_ref2 (c c2 : Cell) (ds : List D) (T : Sto) : seqD (c :: c2 :: .lst ds :: T) (.ref 2) = some ds := (rfl)
@[simp] theorem ql_ref2 (c c2 : Cell) (ds : List D) (T : Sto) : lstD (c :: c2 :: .lst ds :: T) (.ref 2) = some ds := (rfl)
@[simp] theorem qc_ref2 (c c2 : Cell) (ds : List D) (T : Sto) : cellD (c :: c2 :: .lst ds :: T) (.ref 2) = some (2, ds) := (rfl)
-- truth
@[simp] theorem t_non : truD S .non = some false := (rfl)
@[simp] theorem t_bl (b : Bool) : truD S (.bl b) = some b := (rfl)
@[simp] theorem t_int (i : Int) : truD S (.int i) = some (i != 0) := (rfl)
@[simp] theorem t_tup (ds : List D) : truD S (.tup ds) = some (!ds.isEmpty) := (rfl)
@[simp] theorem t_lst (ds : List D) : truD S (.lst ds) = some (!ds.isEmpty) := (rfl)
theorem t_ref {n : Nat} {ds : List D} (h : S[n]? = some (.lst ds)) : truD S (.ref n) = some (!ds.isEmpty) := by simp [truD, seqD, h]
-- places
@[simp] theorem y_ix (x : D) (i : Int) : gIx S x (.int i) = (seqD S x).bind fun ds => atI ds i := (rfl)
theorem atI_nat {α : Type} (ds : List α) (k : Nat) : atI ds (k : Int) = ds[k]? := by
  unfold atI ixN
  rw [if_pos (by omega)]
  by_cases h : k < ds.length
  · rw [if_pos (by omega)]
    simp
  · rw [if_neg (by omega)]
    simp [List.getElem?_eq_none (by omega : ds.length ≤ k)]
@[simp] theorem atI_0 {α : Type} (a : α) (l : List α) : atI (a :: l) 0 = some a := atI_nat (a :: l) 0
@[simp] theorem atI_1 {α : Type} (a b : α) (l : List α) : atI (a :: b :: l) 1 = some b := atI_nat (a :: b :: l) 1
@[simp] theorem atI_2 {α : Type} (a b c : α) (l : List α) : atI (a :: b :: c :: l) 2 = some c := atI_nat (a :: b :: c :: l) 2
@[simp] theorem atI_3 {α : Type} (a b c d : α) (l : List α) : atI (a :: b :: c :: d :: l) 3 = some d := atI_nat (a :: b :: c :: d :: l) 3
@[simp] theorem atI_4 {α : Type} (a b c d e : α) (l : List α) : atI (a :: b :: c :: d :: e :: l) 4 = some e := atI_nat (a :: b :: c :: d :: e :: l) 4
theorem atI_neg1 {α : Type} (ds : List α) : atI ds (-1) = ds.getLast? := by
  unfold atI ixN
  rw [if_neg (by decide)]
  cases ds with
  | nil => rfl
  | cons a l =>
    rw [if_pos (by simp; omega)]
    rw [List.getLast?_eq_getElem?]
    have e : (-1 + (((a :: l).length : Nat) : Int)).toNat = (a :: l).length - 1 := by simp only [List.length_cons]; omega
    rw [e]
    rfl
-- built in
@[simp] theorem k_len (x : D) : cLen S [x] = (seqD S x).map fun xs => .int xs.length := (rfl)
@[simp] theorem k_int (i : Int) : cInt S [.int i] = some (.int i) := (rfl)
@[simp] theorem k_intB (i : Bool) : cInt S [.bl i] = some (.int (if i then 1 else 0)) := (rfl)
@[simp] theorem k_abs (i : Int) : cAbs S [.int i] = some (.int (if i < 0 then -i else i)) := (rfl)
@[simp] theorem k_max2 (i j : Int) : cMax2 S [.int i, .int j] = some (.int (if j > i then j else i)) := (rfl)
@[simp] theorem k_tuple (x : D) : cTuple S [x] = (seqD S x).map .tup := (rfl)
@[simp] theorem k_list (x : D) : cList S [x] = seqD S x := (rfl)
theorem k_any {x : D} {bs : List Bool} (h : lstD S x = some (bs.map .bl)) : cAny S [x] = some (.bl (bs.any id)) := by
  simp [cAny, h, boolsD_map]
theorem k_all {x : D} {bs : List Bool} (h : lstD S x = some (bs.map .bl)) : cAll S [x] = some (.bl (bs.all id)) := by
  simp [cAll, h, boolsD_map]
@[simp] theorem k_anyM {α : Type} (f : α → Bool) (l : List α) : cAny S [.lst (l.map fun a => .bl (f a))] = some (.bl (l.any f)) := by
  have e : (l.map fun a => D.bl (f a)) = (l.map f).map .bl := by simp
  rw [e, k_any (bs := l.map f) rfl]
  simp [List.any_map]
@[simp] theorem k_allM {α : Type} (f : α → Bool) (l : List α) : cAll S [.lst (l.map fun a => .bl (f a))] = some (.bl (l.all f)) := by
  have e : (l.map fun a => D.bl (f a)) = (l.map f).map .bl := by simp
  rw [e, k_all (bs := l.map f) rfl]
  simp [List.all_map]
-- what a def is run with
def fin1 (r : Fl × Rho × Sto) : Option D := match r with
  | (.rt d, _, S) => fz S d
  | (.rf es, _, S) => (fzs S es).map .lst
  | (.nx, _, _) => some .non
  | _ => none
@[simp] theorem fin1_nx : fin1 (.nx, ρ, S) = some .non := (rfl)
@[simp] theorem fin1_rt (d : D) : fin1 (.rt d, ρ, S) = fz S d := (rfl)
theorem run_eq (b : T) (n : Nat) (ds : List D) : runD b n ds = (b (startR n ds) []).bind fin1 := by
  unfold runD
  rfl
@[simp] theorem fz_int (i : Int) : fz S (.int i) = some (.int i) := (rfl)
@[simp] theorem fz_bl (i : Bool) : fz S (.bl i) = some (.bl i) := (rfl)
@[simp] theorem fz_non : fz S .non = some .non := (rfl)
@[simp] theorem fz_str (i : Str) : fz S (.str i) = some (.str i) := (rfl)
@[simp] theorem fz_nr {d : D} (h : nr d = true) : fz S d = some d := if_pos h
@[simp] theorem nr_int (i : Int) : nr (.int i) = true := (rfl)
@[simp] theorem nr_bl (i : Bool) : nr (.bl i) = true := (rfl)
@[simp] theorem nr_non : nr .non = true := (rfl)
@[simp] theorem nr_str (i : Str) : nr (.str i) = true := (rfl)
@[simp] theorem nr_ty (i : String) : nr (.ty i) = true := (rfl)
@[simp] theorem nr_scr (i : List Int) : nr (.scr i) = true := (rfl)
@[simp] theorem nr_ref (i : Nat) : nr (.ref i) = false := (rfl)
@[simp] theorem nr_tup (ds : List D) : nr (.tup ds) = nrs ds := (rfl)
@[simp] theorem nr_lst (ds : List D) : nr (.lst ds) = nrs ds := (rfl)
@[simp] theorem nrs_nil : nrs [] = true := (rfl)
@[simp] theorem nrs_cons (d : D) (ds : List D) : nrs (d :: ds) = (nr d && nrs ds) := (rfl)
@[simp] theorem nrs_app (a b : List D) : nrs (a ++ b) = (nrs a && nrs b) := by
  induction a with
  | nil => simp
  | cons x a ih => simp [ih, Bool.and_assoc]
theorem nrs_all {ds : List D} : nrs ds = true ↔ ∀ d ∈ ds, nr d = true := by
  induction ds with
  | nil => simp
  | cons x a ih => simp [ih]
end

/-! ### rows of whole numbers -/
def nD (k : Nat) : D := .int (k : Int)
@[simp] theorem nD_eq (k : Nat) : nD k = .int (k : Int) := (rfl)
@[simp] theorem map_nD (l : List Nat) : (l.map fun x : Nat => D.int (x : Int)) = l.map nD := (rfl)
@[simp] theorem nrs_nD (l : List Nat) : nrs (l.map nD) = true := nrs_all.mpr (by simp)
@[simp] theorem oks_nD (n : Nat) (l : List Nat) : okDs n (l.map nD) = true := oks_all.mpr (by simp)
theorem inD_nD (k : Nat) (l : List Nat) : inD (.int k) (l.map nD) = decide (k ∈ l) := by
  induction l with
  | nil => rfl
  | cons x l ih =>
    unfold inD at ih ⊢
    simp only [List.map_cons, List.any_cons, ih, nD, eqD, List.mem_cons]
    by_cases h : k = x
    · subst h; simp
    · have h' : ¬ ((x : Int) = (k : Int)) := by omega
      simp [h, h']
@[simp] theorem y_inT (neg : Bool) (S : Sto) (k : Nat) (l : List Nat) : gInS neg S (.int k) (.tup (l.map nD)) = some (.bl (if neg then !decide (k ∈ l) else decide (k ∈ l))) := by
  unfold gInS
  rw [fo_ok (by simp), fo_ok (by rw [ok_tup]; simp)]
  simp only [Option.bind_some, inD_nD]
@[simp] theorem y_inL (neg : Bool) (S : Sto) (k : Nat) (l : List Nat) : gInS neg S (.int k) (.lst (l.map nD)) = some (.bl (if neg then !decide (k ∈ l) else decide (k ∈ l))) := by
  unfold gInS
  rw [fo_ok (by simp), fo_ok (by rw [ok_lst]; simp)]
  simp only [Option.bind_some, inD_nD]
theorem eqDs_nD : ∀ (a b : List Nat), eqDs (a.map nD) (b.map nD) = decide (a = b)
  | [], [] => rfl
  | [], _ :: _ => by simp [eqDs]
  | _ :: _, [] => by simp [eqDs]
  | x :: a, y :: b => by
    simp only [List.map_cons, eqDs, eqDs_nD a b, nD, eqD, List.cons.injEq]
    by_cases h : x = y
    · subst h; simp
    · have h' : ¬ ((x : Int) = (y : Int)) := by omega
      simp [h, h']
theorem rngD0 (n : Nat) : rngD 0 1 n = (List.range n).map nD := by
  unfold rngD
  refine List.map_congr_left fun k _ => ?_
  simp
theorem lim62_nat {n : Nat} (h : n ≤ 1000000) : lim62 (n : Int) = true := by
  unfold lim62
  refine Nat.ble_eq_true_of_le ?_
  rw [Int.natAbs_natCast]
  omega
theorem rng1_nat {n : Nat} (h : n ≤ 1000000) : rng1 [.int (n : Int)] = some ((List.range n).map nD) := by
  simp [rng1, lim62_nat h, rngD0]

/-! ### comprehensions, loops -/
theorem compL_map {α : Type} {g : G} {t : EB} {e : E} {ρ : Rho} {S : Sto} (emb : α → D) (p : α → Bool) (f : α → D) : ∀ (xs : List α), (∀ x ∈ xs, ∃ ρ1, g (emb x) ρ = some ρ1 ∧ t ρ1 S = some (p x) ∧ (p x = true → e ρ1 S = some (f x))) →
    compL g t e ρ S (xs.map emb) = some ((xs.filter p).map f)
  | [], _ => rfl
  | x :: xs, h => by
    obtain ⟨ρ1, h1, h2, h3⟩ := h x List.mem_cons_self
    have ih := compL_map emb p f xs fun y m => h y (List.mem_cons_of_mem _ m)
    simp only [List.map_cons, compL, h1, h2, Option.bind_some, ih]
    cases hp : p x with
    | true =>
      rw [if_pos rfl, h3 hp]
      simp [List.filter_cons, hp]
    | false => simp [List.filter_cons, hp]
theorem compL_all {α : Type} {g : G} {e : E} {ρ : Rho} {S : Sto} (emb : α → D) (f : α → D) (xs : List α) (h : ∀ x ∈ xs, ∃ ρ1, g (emb x) ρ = some ρ1 ∧ e ρ1 S = some (f x)) :
    compL g bYes e ρ S (xs.map emb) = some (xs.map f) := by
  have := compL_map (g := g) (t := bYes) (e := e) (ρ := ρ) (S := S) emb (fun _ => true) f xs fun x m => by
    obtain ⟨ρ1, h1, h2⟩ := h x m
    exact ⟨ρ1, h1, rfl, fun _ => h2⟩
  rw [this, List.filter_eq_self.mpr fun _ _ => rfl]
/-- a loop that goes to its end -/
theorem loop_inv {g : G} {body : T} {ds : List D} {ρ : Rho} {S : Sto} (P : Nat → Rho → Sto → Prop) (h0 : P 0 ρ S)
    (step : ∀ i d ρ S, ds[i]? = some d → P i ρ S → ∃ ρ1 ρ2 S2 fl, g d ρ = some ρ1 ∧ body ρ1 S = some (fl, ρ2, S2) ∧ (fl = .nx ∨ fl = .ct) ∧ P (i + 1) ρ2 S2) :
    ∃ ρ' S', loopL g body ds ρ S = some (.nx, ρ', S') ∧ P ds.length ρ' S' := by
  induction ds generalizing ρ S P with
  | nil => exact ⟨ρ, S, rfl, h0⟩
  | cons d ds ih =>
    obtain ⟨ρ1, ρ2, S2, fl, h1, h2, h3, h4⟩ := step 0 d ρ S rfl h0
    obtain ⟨ρ', S', h5, h6⟩ := ih (fun i => P (i + 1)) h4 fun i d ρ S e p => step (i + 1) d ρ S (by simpa using e) p
    refine ⟨ρ', S', ?_, h6⟩
    simp only [loopL, h1, h2, Option.bind_some]
    rcases h3 with rfl | rfl
    · exact h5
    · exact h5
/-- a loop that may return -/
theorem loop_ret {g : G} {body : T} {ds : List D} {ρ : Rho} {S : Sto} (P : Nat → Rho → Sto → Prop) (Q : Nat → Fl → Rho → Sto → Prop) (h0 : P 0 ρ S)
    (step : ∀ i d ρ S, ds[i]? = some d → P i ρ S → ∃ ρ1 ρ2 S2 fl, g d ρ = some ρ1 ∧ body ρ1 S = some (fl, ρ2, S2) ∧ (((fl = .nx ∨ fl = .ct) ∧ P (i + 1) ρ2 S2) ∨ ((∃ r, fl = .rt r) ∧ Q i fl ρ2 S2) ∨ (fl = .bk ∧ Q i .nx ρ2 S2))) :
    (∃ ρ' S', loopL g body ds ρ S = some (.nx, ρ', S') ∧ P ds.length ρ' S') ∨ ∃ i fl ρ' S', i < ds.length ∧ loopL g body ds ρ S = some (fl, ρ', S') ∧ Q i fl ρ' S' := by
  induction ds generalizing ρ S P Q with
  | nil => exact .inl ⟨ρ, S, rfl, h0⟩
  | cons d ds ih =>
    obtain ⟨ρ1, ρ2, S2, fl, h1, h2, h3⟩ := step 0 d ρ S rfl h0
    rcases h3 with ⟨h3, h4⟩ | ⟨⟨r, rfl⟩, h4⟩ | ⟨rfl, h4⟩
    · rcases ih (fun i => P (i + 1)) (fun i => Q (i + 1)) h4 (fun i d ρ S e p => step (i + 1) d ρ S (by simpa using e) p) with ⟨ρ', S', h5, h6⟩ | ⟨i, fl', ρ', S', hi, h5, h6⟩
      · refine .inl ⟨ρ', S', ?_, h6⟩
        simp only [loopL, h1, h2, Option.bind_some]
        rcases h3 with rfl | rfl
        · exact h5
        · exact h5
      · refine .inr ⟨i + 1, fl', ρ', S', by simpa using hi, ?_, h6⟩
        simp only [loopL, h1, h2, Option.bind_some]
        rcases h3 with rfl | rfl
        · exact h5
        · exact h5
    · refine .inr ⟨0, .rt r, ρ2, S2, by simp, ?_, h4⟩
      simp only [loopL, h1, h2, Option.bind_some]
    · refine .inr ⟨0, .nx, ρ2, S2, by simp, ?_, h4⟩
      simp only [loopL, h1, h2, Option.bind_some]

/-! comprehensions over what is embedded -/
def cmpM {α : Type} (F : α → Option D) : List α → Option (List D)
  | [] => some []
  | x :: xs => (F x).bind fun y => (cmpM F xs).map fun ys => y :: ys
def cmpF {α : Type} (F : α → Option (Option D)) : List α → Option (List D)
  | [] => some []
  | x :: xs => (F x).bind fun y => (cmpF F xs).map fun ys => match y with
    | some y => y :: ys
    | none => ys
theorem cmpM_congr {α : Type} {xs ys : List α} {F F' : α → Option D} (h : xs = ys) (h2 : ∀ x, x ∈ ys → F x = F' x) : cmpM F xs = cmpM F' ys := by
  subst h
  induction xs with
  | nil => rfl
  | cons x xs ih => simp only [cmpM, h2 x List.mem_cons_self, ih fun y m => h2 y (List.mem_cons_of_mem _ m)]
theorem cmpF_congr {α : Type} {xs ys : List α} {F F' : α → Option (Option D)} (h : xs = ys) (h2 : ∀ x, x ∈ ys → F x = F' x) : cmpF F xs = cmpF F' ys := by
  subst h
  induction xs with
  | nil => rfl
  | cons x xs ih => simp only [cmpF, h2 x List.mem_cons_self, ih fun y m => h2 y (List.mem_cons_of_mem _ m)]
@[simp] theorem cmpM_some {α : Type} (f : α → D) (xs : List α) : cmpM (fun x => some (f x)) xs = some (xs.map f) := by
  induction xs with
  | nil => rfl
  | cons x xs ih => simp [cmpM, ih]
@[simp] theorem cmpF_some {α : Type} (f : α → D) (xs : List α) : cmpF (fun x => some (some (f x))) xs = some (xs.map f) := by
  induction xs with
  | nil => rfl
  | cons x xs ih => simp [cmpF, ih]
@[simp] theorem cmpF_ite {α : Type} (p : α → Prop) [DecidablePred p] (f : α → D) (xs : List α) : cmpF (fun x => if p x then some (some (f x)) else some none) xs = some ((xs.filter fun x => decide (p x)).map f) := by
  induction xs with
  | nil => rfl
  | cons x xs ih =>
    by_cases h : p x
    · simp [cmpF, ih, h]
    · simp [cmpF, ih, h]
@[simp] theorem cmpF_ite' {α : Type} (p : α → Prop) [DecidablePred p] (f : α → D) (xs : List α) : cmpF (fun x => if p x then some none else some (some (f x))) xs = some ((xs.filter fun x => !decide (p x)).map f) := by
  induction xs with
  | nil => rfl
  | cons x xs ih =>
    by_cases h : p x
    · simp [cmpF, ih, h]
    · simp [cmpF, ih, h]
theorem compL_gen {α : Type} (g : G) (t : EB) (e : E) (ρ : Rho) (S : Sto) (emb : α → D) (xs : List α) : compL g t e ρ S (xs.map emb) = cmpF (fun x => (g (emb x) ρ).bind fun ρ1 => (t ρ1 S).bind fun b => if b then (e ρ1 S).map some else some none) xs := by
  induction xs with
  | nil => rfl
  | cons x xs ih =>
    simp only [List.map_cons, compL, cmpF, ih]
    cases g (emb x) ρ with
    | none => rfl
    | some ρ1 =>
      simp only [Option.bind_some]
      cases t ρ1 S with
      | none => rfl
      | some b =>
        simp only [Option.bind_some]
        cases b with
        | true =>
          rw [if_pos rfl, if_pos rfl]
          cases e ρ1 S with
          | none => rfl
          | some y =>
            simp only [Option.bind_some, Option.map_some]
        | false =>
          rw [if_neg (by decide), if_neg (by decide)]
          simp only [Option.bind_some]
          cases cmpF (fun x => (g (emb x) ρ).bind fun ρ1 => (t ρ1 S).bind fun b => if b = true then (e ρ1 S).map some else some none) xs <;> rfl
@[simp] theorem compL_yes {α : Type} (g : G) (e : E) (ρ : Rho) (S : Sto) (emb : α → D) (xs : List α) : compL g bYes e ρ S (xs.map emb) = cmpM (fun x => (g (emb x) ρ).bind fun ρ1 => e ρ1 S) xs := by
  induction xs with
  | nil => rfl
  | cons x xs ih =>
    simp only [List.map_cons, compL, cmpM, ih]
    cases g (emb x) ρ with
    | none => rfl
    | some ρ1 => simp [bYes]
@[simp] theorem mkL_map {α : Type} {f : α → D} {xs : List α} (h : xs.length ≤ 1000000) : mkL (xs.map f) = some (xs.map f) := mkL_ok (by simpa using h)
@[simp] theorem mkL_flt {α : Type} {f : α → D} {p : α → Bool} {xs : List α} (h : xs.length ≤ 1000000) : mkL ((xs.filter p).map f) = some ((xs.filter p).map f) :=
  mkL_ok (by rw [List.length_map]; exact Nat.le_trans (List.length_filter_le _ _) h)
theorem enumD_map {α : Type} (emb : α → D) (xs : List α) : enumD (xs.map emb) = xs.zipIdx.map fun p => .tup [nD p.2, emb p.1] := by
  unfold enumD
  rw [List.mapIdx_eq_zipIdx_map, List.zipIdx_map, List.map_map]
  rfl

@[simp] theorem all_tt {α : Type} (xs : List α) : (xs.all fun _ => true) = true := by simp
@[simp] theorem nrs_map {α : Type} (f : α → D) (xs : List α) : nrs (xs.map f) = xs.all fun x => nr (f x) := by
  induction xs with
  | nil => rfl
  | cons x xs ih => simp [ih]
@[simp] theorem oks_map {α : Type} (n : Nat) (f : α → D) (xs : List α) : okDs n (xs.map f) = xs.all fun x => okD n (f x) := by
  induction xs with
  | nil => simp
  | cons x xs ih => simp [ih]
@[simp] theorem y_inLm {α : Type} (neg : Bool) (S : Sto) (k : Nat) (f : α → Nat) (l : List α) : gInS neg S (.int k) (.lst (l.map fun x => .int (f x : Nat))) = some (.bl (if neg then !decide (k ∈ l.map f) else decide (k ∈ l.map f))) := by
  have e : (l.map fun x => D.int (f x : Nat)) = (l.map f).map nD := by simp
  rw [e, y_inL]
@[simp] theorem y_inTm {α : Type} (neg : Bool) (S : Sto) (k : Nat) (f : α → Nat) (l : List α) : gInS neg S (.int k) (.tup (l.map fun x => .int (f x : Nat))) = some (.bl (if neg then !decide (k ∈ l.map f) else decide (k ∈ l.map f))) := by
  have e : (l.map fun x => D.int (f x : Nat)) = (l.map f).map nD := by simp
  rw [e, y_inT]
end DL

set_option maxHeartbeats 4000000
namespace DL
open PySem PySem.Spec L2

/-! ### plain: cells read as values -/
mutual
theorem frzS_nr (φ : Nat → Option D) : ∀ d : D, nr d = true → frzS φ d = some d
  | .non, _ => rfl
  | .bl _, _ => rfl
  | .int _, _ => rfl
  | .str _, _ => rfl
  | .ty _, _ => rfl
  | .scr _, _ => rfl
  | .ref _, h => by simp at h
  | .tup ds, h => by
    rw [nr_tup] at h
    simp [frzS, frzSs_nr φ ds h]
  | .lst ds, h => by
    rw [nr_lst] at h
    simp [frzS, frzSs_nr φ ds h]
  | .dic t ks vs, h => by
    have h' : nrs vs = true := h
    simp [frzS, frzSs_nr φ vs h']
theorem frzSs_nr (φ : Nat → Option D) : ∀ ds : List D, nrs ds = true → frzSs φ ds = some ds
  | [], _ => rfl
  | d :: ds, h => by
    rw [nrs_cons, Bool.and_eq_true] at h
    simp [frzSs, frzS_nr φ d h.1, frzSs_nr φ ds h.2]
end
theorem frz_nr (k : Nat) (S : Sto) {d : D} (h : nr d = true) : frz k S d = some d := by
  cases k <;> exact frzS_nr _ d h
theorem mapM_id {g : D → Option D} : ∀ {ds : List D}, (∀ d ∈ ds, g d = some d) → ds.mapM g = some ds
  | [], _ => rfl
  | d :: ds, h => by
    rw [List.mapM_cons, h d List.mem_cons_self, mapM_id fun x m => h x (List.mem_cons_of_mem _ m)]
    rfl
theorem fz_ref {S : Sto} {n : Nat} {ds : List D} (h : S[n]? = some (.lst ds)) (hn : nrs ds = true) : fz S (.ref n) = some (.lst ds) := by
  have e : fz S (.ref n) = frz 3 S (.ref n) := if_neg (by simp)
  rw [e]
  show frzS _ (.ref n) = _
  simp only [frzS, h, Option.bind_some]
  rw [mapM_id fun d m => frz_nr 2 S (nrs_all.mp hn d m)]
  rfl
theorem fo_ref {S : Sto} {n : Nat} {ds : List D} (h : S[n]? = some (.lst ds)) (hn : nrs ds = true) (ho : okDs 59 ds = true) : fo S (.ref n) = some (.lst ds) := by
  have e : fo S (.ref n) = (fz S (.ref n)).bind fun d' => if okD 60 d' then some d' else none := if_neg (by simp [okD])
  rw [e, fz_ref h hn]
  simp [ho]
@[simp] theorem fz_ref0 (l : List Nat) (T : Sto) : fz (.lst (l.map nD) :: T) (.ref 0) = some (.lst (l.map nD)) := fz_ref rfl (by simp)
theorem y_inR {S : Sto} {n : Nat} {l : List Nat} (h : S[n]? = some (.lst (l.map nD))) (neg : Bool) (k : Nat) : gInS neg S (.int k) (.ref n) = some (.bl (if neg then !decide (k ∈ l) else decide (k ∈ l))) := by
  unfold gInS
  rw [fo_ok (by simp), fo_ref h (by simp) (by simp)]
  simp only [Option.bind_some, inD_nD]
@[simp] theorem y_inR0 (l : List Nat) (T : Sto) (neg : Bool) (k : Nat) : gInS neg (.lst (l.map nD) :: T) (.int k) (.ref 0) = some (.bl (if neg then !decide (k ∈ l) else decide (k ∈ l))) := y_inR rfl neg k
@[simp] theorem y_inR1 (c : Cell) (l : List Nat) (T : Sto) (neg : Bool) (k : Nat) : gInS neg (c :: .lst (l.map nD) :: T) (.int k) (.ref 1) = some (.bl (if neg then !decide (k ∈ l) else decide (k ∈ l))) := y_inR rfl neg k
theorem map_nD_app (l : List Nat) (k : Nat) : l.map nD ++ [.int (k : Int)] = (l ++ [k]).map nD := by simp
/-! ### places of rows of numbers -/
theorem atI_map {α : Type} (f : α → D) (l : List α) (k : Nat) : atI (l.map f) (k : Int) = (l[k]?).map f := by
  rw [atI_nat, List.getElem?_map]
theorem atI_nD {l : List Nat} {k : Nat} (h : k < l.length) : atI (l.map nD) (k : Int) = some (.int (l[k] : Nat)) := by
  rw [atI_map, List.getElem?_eq_getElem h]
  rfl
theorem rngD1 (n : Nat) : rngD 1 1 n = (List.range n).map fun k => .int ((k + 1 : Nat) : Int) := by
  unfold rngD
  refine List.map_congr_left fun k _ => ?_
  congr 1
  omega
theorem rng2_1 {n : Nat} (h : n ≤ 1000000) : rng2 [.int 1, .int (n : Int)] = some ((List.range (n - 1)).map fun k => .int ((k + 1 : Nat) : Int)) := by
  have e : ((n : Int) - 1).toNat = n - 1 := by omega
  have e1 : lim62 1 = true := by decide
  simp only [rng2, lim62_nat h, e1, e, rngD1]
  rfl
/-! ### lots -/
def lotD (l : List Nat) : D := .tup (l.map nD)
@[simp] theorem nr_lotD (l : List Nat) : nr (lotD l) = true := by simp [lotD]
@[simp] theorem q_lotD (S : Sto) (l : List Nat) : seqD S (lotD l) = some (l.map nD) := (rfl)
@[simp] theorem qv_lotD (l : List Nat) : seqV (lotD l) = some (l.map nD) := (rfl)
@[simp] theorem ok_lotD (n : Nat) (l : List Nat) : okD (n + 1) (lotD l) = true := by simp [lotD]
@[simp] theorem y_inLot (neg : Bool) (S : Sto) (k : Nat) (l : List Nat) : gInS neg S (.int k) (lotD l) = some (.bl (if neg then !decide (k ∈ l) else decide (k ∈ l))) := y_inT neg S k l
@[simp] theorem nrs_lots {ls : List (List Nat)} : nrs (ls.map lotD) = true := by simp
theorem eqD_lot (a b : List Nat) : eqD (lotD a) (lotD b) = decide (a = b) := by
  show eqDs _ _ = _
  exact eqDs_nD a b
theorem y_eqLot (S : Sto) (a b : List Nat) : gEq S (lotD a) (lotD b) = some (.bl (decide (a = b))) := by
  rw [y_eq (by simp) (by simp), eqD_lot]
theorem inD_lots (k : List Nat) (ls : List (List Nat)) : inD (lotD k) (ls.map lotD) = decide (k ∈ ls) := by
  induction ls with
  | nil => rfl
  | cons x l ih =>
    unfold inD at ih ⊢
    simp only [List.map_cons, List.any_cons, ih, eqD_lot, List.mem_cons]
    by_cases h : k = x
    · subst h; simp
    · have h' : ¬ (x = k) := fun e => h e.symm
      simp [h, h']
@[simp] theorem y_inLots (neg : Bool) (S : Sto) (k : List Nat) (ls : List (List Nat)) : gInS neg S (lotD k) (.tup (ls.map lotD)) = some (.bl (if neg then !decide (k ∈ ls) else decide (k ∈ ls))) := by
  unfold gInS
  rw [fo_ok (by simp), fo_ok (by rw [ok_tup]; simp)]
  simp only [Option.bind_some, inD_lots]
@[simp] theorem y_inLotsL (neg : Bool) (S : Sto) (k : List Nat) (ls : List (List Nat)) : gInS neg S (lotD k) (.lst (ls.map lotD)) = some (.bl (if neg then !decide (k ∈ ls) else decide (k ∈ ls))) := by
  unfold gInS
  rw [fo_ok (by simp), fo_ok (by rw [ok_lst]; simp)]
  simp only [Option.bind_some, inD_lots]
def LotOk (m : Nat) (l : List Nat) : Prop := l.Pairwise (· < ·) ∧ ∀ x ∈ l, x < m
theorem LotOk.len {m : Nat} {l : List Nat} (h : LotOk m l) : l.length ≤ m := by
  have nd : l.Nodup := h.1.imp fun {a b} z => Nat.ne_of_lt z
  have := List.Nodup.length_le_of_subset (l₂ := List.range m) nd fun x hx => List.mem_range.mpr (h.2 x hx)
  simpa using this
theorem LotOk.nil (m : Nat) : LotOk m [] := ⟨List.Pairwise.nil, fun _ h => by simp at h⟩
theorem LotOk.mono {m k : Nat} {l : List Nat} (h : LotOk m l) (hk : m ≤ k) : LotOk k l := ⟨h.1, fun x hx => Nat.lt_of_lt_of_le (h.2 x hx) hk⟩
theorem pw_le_ext {l k : List Nat} (h1 : l.Pairwise (· < ·)) (h2 : k.Pairwise (· < ·)) (h : ∀ x, x ∈ l ↔ x ∈ k) : l = k := by
  have nd1 : l.Nodup := h1.imp fun {a b} z => Nat.ne_of_lt z
  have nd2 : k.Nodup := h2.imp fun {a b} z => Nat.ne_of_lt z
  refine List.Perm.eq_of_pairwise (le := fun a b => a < b) (fun a b _ _ x y => absurd x (by omega)) h1 h2 ?_
  exact (List.perm_ext_iff_of_nodup nd1 nd2).mpr h
def ins2 (ρ : Rho) (S : Sto) (c : Nat × List D) (d : D) : D → Option (Fl × Rho × Sto)
  | .int i => if small c.2.length && decide (0 ≤ i) && decide (i < 2 ^ 62) then some (.nx, ρ, S.set c.1 (.lst (c.2.take i.toNat ++ [d] ++ c.2.drop i.toNat))) else none
  | _ => none
@[simp] theorem x_sIns (fo f g : E) (ρ : Rho) (S : Sto) : sIns fo f g ρ S = (fo ρ S).bind fun o => (f ρ S).bind fun i => (g ρ S).bind fun d => (cellD S o).bind fun c => ins2 ρ S c d i := by
  unfold sIns ins2
  rfl
theorem ins2_nat (ρ : Rho) (S : Sto) (n : Nat) (ds : List D) (d : D) {k : Nat} (h : ds.length ≤ 1000000) (hk : k ≤ 1000000) : ins2 ρ S (n, ds) d (.int (k : Int)) = some (.nx, ρ, S.set n (.lst (ds.take k ++ [d] ++ ds.drop k))) := by
  have h2 : ((k : Nat) : Int) < 4611686018427387904 := by omega
  simp [ins2, h, h2]
theorem perm_sorted {α : Type} (emb : α → D) (l : List α) : ∃ m : List α, m.Perm l ∧ sortD (l.map emb) = m.map emb :=
  perm_map_inv emb (sortD_perm (l.map emb)) l rfl
theorem k_sorted {S : Sto} {x : D} {xs : List D} (h : seqD S x = some xs) (g : gdS xs = true) : cSorted S [x] = some (sortD xs) := by
  simp [cSorted, h, g]
def pairD (p : Nat × Nat) : D := .tup [nD p.1, nD p.2]
@[simp] theorem q_pairD (S : Sto) (p : Nat × Nat) : seqD S (pairD p) = some [.int p.1, .int p.2] := (rfl)
@[simp] theorem nr_pairD (p : Nat × Nat) : nr (pairD p) = true := (rfl)
theorem gdS_map {α : Type} (emb : α → D) (l : List α) (h1 : ∀ a, okD 60 (emb a) = true) (h2 : ∀ a, isNon (emb a) = false) (h3 : ∀ a b, alkD (emb a) (emb b) = true) : gdS (l.map emb) = true := by
  simp [gdS, h1, h2, h3]
theorem gdS_pairs (l : List (Nat × Nat)) : gdS (l.map pairD) = true :=
  gdS_map _ _ (fun a => by simp [pairD]) (fun a => rfl) (fun a b => by simp [alkD, pairD, toP, toPs, PySem.W.alike, PySem.W.alikeAll])
theorem gdS_nats (l : List Nat) : gdS (l.map nD) = true :=
  gdS_map _ _ (fun a => by simp) (fun a => rfl) (fun a b => by simp [alkD, toP, PySem.W.alike])
theorem alkAll_nats : ∀ a b : List Nat, PySem.W.alikeAll (toPs (a.map nD)) (toPs (b.map nD)) = true
  | [], _ => by simp [toPs, PySem.W.alikeAll]
  | _ :: _, [] => by simp [toPs, PySem.W.alikeAll]
  | x :: a, y :: b => by
    have ih := alkAll_nats a b
    simp only [List.map_cons, toPs, PySem.W.alikeAll, ih, Bool.and_true]
    simp [toP, PySem.W.alike]
theorem gdS_lots (l : List (List Nat)) : gdS (l.map lotD) = true :=
  gdS_map _ _ (fun a => by simp) (fun a => rfl) (fun a b => by
    show PySem.W.alike (.tuple (toPs (a.map nD))) (.tuple (toPs (b.map nD))) = true
    simp only [PySem.W.alike]
    exact alkAll_nats a b)
theorem map_idx {α : Type} (l : List α) (f : Nat → D) (g : α → Nat → D) (h : ∀ k (hk : k < l.length), f k = g l[k] k) : (List.range l.length).map f = l.zipIdx.map fun p => g p.1 p.2 := by
  apply List.ext_getElem
  · simp
  · intro k h1 h2
    simp at h1
    simp [h k h1]
theorem cut_take (ds : List D) (k : Nat) : cutD ds none (some (k : Int)) = ds.take k := by
  unfold cutD
  rw [HT.sIx_none, HT.sIx_nat, List.drop_zero, Nat.sub_zero]
  exact (List.take_eq_take_min ..).symm
theorem cut_drop (ds : List D) (k : Nat) : cutD ds (some (k : Int)) none = ds.drop k := by
  unfold cutD
  rw [HT.sIx_none, HT.sIx_nat]
  by_cases h : k ≤ ds.length
  · rw [Nat.min_eq_left h, List.take_of_length_le (by simp)]
  · rw [Nat.min_eq_right (by omega), List.drop_length, List.drop_eq_nil_of_le (by omega)]
    simp
theorem ltD_int (a b : Int) : ltD (.int a) (.int b) = decide (a < b) := by
  unfold ltD toP
  exact PySem.W.dataLt_int ..
theorem sort_nats {F : List Nat} (nd : F.Nodup) : ∃ G : List Nat, sortD (F.map nD) = G.map nD ∧ G.Perm F ∧ G.Pairwise (· < ·) := by
  obtain ⟨G, p, e⟩ := perm_sorted nD F
  refine ⟨G, e, p, ?_⟩
  have pw := sortD_pw (F.map nD)
  rw [e, List.pairwise_map] at pw
  have nd' : G.Nodup := p.nodup_iff.mpr nd
  refine (pw.and nd').imp fun {a b} h => ?_
  have h1 : ltD (.int (b : Int)) (.int (a : Int)) = false := h.1
  rw [ltD_int] at h1
  have h2 := of_decide_eq_false h1
  have h3 := h.2
  omega
/-- while -/
theorem while_inv {t : EB} {body : T} (P : Nat → Rho → Sto → Prop) (Q : Rho → Sto → Prop)
    (step : ∀ n ρ S, P n ρ S → (t ρ S = some false ∧ Q ρ S) ∨ (t ρ S = some true ∧ ∃ fl ρ' S' n', body ρ S = some (fl, ρ', S') ∧ (fl = .nx ∨ fl = .ct) ∧ n' < n ∧ P n' ρ' S')) :
    ∀ {n : Nat} {ρ : Rho} {S : Sto}, P n ρ S → ∃ ρ' S', sWhile t body ρ S = some (.nx, ρ', S') ∧ Q ρ' S' := by
  have main : ∀ (n : Nat) (ρ : Rho) (S : Sto), P n ρ S → ∃ k ρ' S', whileN t body k ρ S = some (.nx, ρ', S') ∧ Q ρ' S' := by
    intro n
    induction n using Nat.strongRecOn with
    | ind n ih =>
      intro ρ S h
      rcases step n ρ S h with ⟨h1, h2⟩ | ⟨h1, fl, ρ1, S1, n1, h2, h3, h4, h5⟩
      · exact ⟨1, ρ, S, by simp [whileN, h1], h2⟩
      · obtain ⟨k, ρ', S', h6, h7⟩ := ih n1 h4 ρ1 S1 h5
        refine ⟨k + 1, ρ', S', ?_, h7⟩
        simp only [whileN, h1, Option.bind_some, if_true, h2]
        rcases h3 with rfl | rfl
        · exact h6
        · exact h6
  intro n ρ S h
  obtain ⟨k, ρ', S', h1, h2⟩ := main n ρ S h
  exact ⟨ρ', S', sWhile_of h1, h2⟩
def rgA : D → Option (List D)
  | .int n => if lim62 n && small n.toNat then some (rngD 0 1 n.toNat) else none
  | _ => none
@[simp] theorem x_rg1 (f : E) (ρ : Rho) (S : Sto) : rg1 f ρ S = (f ρ S).bind rgA := (rfl)
@[simp] theorem x_eTupL (f : EL) (ρ : Rho) (S : Sto) : eTupL f ρ S = (f ρ S).map .tup := (rfl)
theorem rgA_nat {n : Nat} (h : n ≤ 1000000) : rgA (.int (n : Int)) = some ((List.range n).map nD) := by
  have e : ((n : Int)).toNat = n := by omega
  simp only [rgA, lim62_nat h, e, rngD0, small_eq, h, decide_true, Bool.and_self, if_true]
@[simp] theorem y_rep1 (S : Sto) (ds : List D) : gMulA S (.tup ds) (.int 1) = some (.tup ds) := (rfl)
theorem y_rep0 (S : Sto) (d : D) (ds : List D) : gMulA S (.tup (d :: ds)) (.int 0) = some (.tup []) := (rfl)
theorem y_neP (S : Sto) (a b c d : List Nat) : gNe S (.tup [lotD a, lotD b]) (.tup [lotD c, lotD d]) = some (.bl (!(decide (a = c) && decide (b = d)))) := by
  rw [y_ne (by simp) (by simp)]
  simp [eqD, eqDs, eqD_lot]
/-! ### a body step by step -/
def Ret (b : T) (ρ : Rho) (S : Sto) (d : D) : Prop := (b ρ S).bind fin1 = some d
section
variable {f : E} {fl : EL} {g a b : T} {t : EB} {ρ : Rho} {S : Sto} {d x : D} {i : Nat}
theorem ret_set (h : f ρ S = some x) (k : Ret g (ρ.set i (some x)) S d) : Ret (sSeq (sSet i f) g) ρ S d := by
  unfold Ret at k ⊢
  rw [x_sSeq, x_sSet, h]
  exact k
theorem ret_drop (h : f ρ S = some x) (k : Ret g ρ S d) : Ret (sSeq (sDrop f) g) ρ S d := by
  unfold Ret at k ⊢
  rw [x_sSeq, x_sDrop, h]
  exact k
theorem ret_if0 (h : t ρ S = some false) (k : Ret g ρ S d) : Ret (sSeq (sIf t a sSkip) g) ρ S d := by
  unfold Ret at k ⊢
  rw [x_sSeq, x_sIf, h]
  exact k
theorem ret_ret (h : f ρ S = some x) (k : fz S x = some d) : Ret (sRet f) ρ S d := by
  unfold Ret
  rw [x_sRet, h]
  exact k
theorem ret_run {n : Nat} {ds : List D} (k : Ret b (startR n ds) [] d) : runD b n ds = some d := by
  rw [run_eq]
  exact k
end
end DL

set_option maxHeartbeats 4000000
namespace DL
open PySem PySem.Spec L2
/-! ### plain: dicts with keys that are whole numbers -/
def dkD (kv : List (Nat × D)) : List D := kv.map fun p => .int (p.1 : Int)
def dvD (kv : List (Nat × D)) : List D := kv.map (·.2)
theorem eqD_nat (a b : Nat) : eqD (.int (a : Int)) (.int (b : Int)) = decide (a = b) := by
  have := keyD_inj (a := .inl (a : Int)) (b := .inl (b : Int))
  have e : eqD (.int (a : Int)) (.int (b : Int)) = decide ((Sum.inl (a : Int) : Key) = Sum.inl (b : Int)) := this
  rw [e]
  by_cases h : a = b
  · simp [h]
  · have : ¬ ((a : Int) = (b : Int)) := by omega
    simp [h, this]
theorem lookD_nat (k : Nat) : ∀ kv : List (Nat × D), lookD (dkD kv) (dvD kv) (.int k) = kv.lookup k
  | [] => rfl
  | p :: kv => by
    have ih := lookD_nat k kv
    have st : lookD (dkD (p :: kv)) (dvD (p :: kv)) (.int (k : Int)) = if eqD (.int (p.1 : Int)) (.int (k : Int)) then some p.2 else lookD (dkD kv) (dvD kv) (.int (k : Int)) := rfl
    rw [st, ih, eqD_nat]
    obtain ⟨a, b⟩ := p
    by_cases h : a = k
    · subst h; simp [List.lookup_cons]
    · have h2 : (k == a) = false := by simp; omega
      rw [decide_eq_false h, if_neg (by decide), List.lookup_cons, h2]
theorem hasD_nat (k : Nat) (kv : List (Nat × D)) : hasD (dkD kv) (.int k) = decide (k ∈ kv.map (·.1)) := by
  induction kv with
  | nil => rfl
  | cons p kv ih =>
    unfold hasD dkD at ih ⊢
    simp only [List.map_cons, List.any_cons, ih, eqD_nat, List.mem_cons]
    by_cases h : k = p.1
    · subst h; simp
    · have h' : ¬ (p.1 = k) := fun e => h e.symm
      simp [h, h']
@[simp] theorem keyT_nat (k : Int) : keyT false (.int k) = true := (rfl)
def natDic (kv : List (Nat × D)) : Cell := .dic false (dkD kv) (dvD kv)
def natDicD (kv : List (Nat × D)) : D := .dic false (dkD kv) (dvD kv)
theorem z_get {S : Sto} {d : D} {kv : List (Nat × D)} (h : dicD S d = some (false, dkD kv, dvD kv)) (k : Nat) : gDGet S d (.int k) = kv.lookup k := by
  simp only [gDGet, h, Option.bind_some, keyT_nat, if_true]
  exact lookD_nat k kv
theorem z_in {S : Sto} {d : D} {kv : List (Nat × D)} (h : dicD S d = some (false, dkD kv, dvD kv)) (neg : Bool) (k : Nat) : gDIn neg S (.int k) d = some (.bl (if neg then !decide (k ∈ kv.map (·.1)) else decide (k ∈ kv.map (·.1)))) := by
  simp only [gDIn, h, Option.bind_some, keyT_nat, if_true]
  rw [hasD_nat]
@[simp] theorem dic_ref0 (kv : List (Nat × D)) (T : Sto) : dicD (natDic kv :: T) (.ref 0) = some (false, dkD kv, dvD kv) := (rfl)
@[simp] theorem dic_val (S : Sto) (kv : List (Nat × D)) : dicD S (natDicD kv) = some (false, dkD kv, dvD kv) := (rfl)
@[simp] theorem z_get0 (kv : List (Nat × D)) (T : Sto) (k : Nat) : gDGet (natDic kv :: T) (.ref 0) (.int k) = kv.lookup k := z_get rfl k
@[simp] theorem z_getV (S : Sto) (kv : List (Nat × D)) (k : Nat) : gDGet S (natDicD kv) (.int k) = kv.lookup k := z_get rfl k
@[simp] theorem z_in0 (neg : Bool) (kv : List (Nat × D)) (T : Sto) (k : Nat) : gDIn neg (natDic kv :: T) (.int k) (.ref 0) = some (.bl (if neg then !decide (k ∈ kv.map (·.1)) else decide (k ∈ kv.map (·.1)))) := z_in rfl neg k
@[simp] theorem z_inV (neg : Bool) (S : Sto) (kv : List (Nat × D)) (k : Nat) : gDIn neg S (.int k) (natDicD kv) = some (.bl (if neg then !decide (k ∈ kv.map (·.1)) else decide (k ∈ kv.map (·.1)))) := z_in rfl neg k
@[simp] theorem z_lenV (S : Sto) (kv : List (Nat × D)) : cLenK S [natDicD kv] = some (.int (kv.length : Nat)) := by
  simp [cLenK, dkD]
theorem x_sNewD1 (i : Nat) (fk fv : E) (ρ : Rho) (S : Sto) : sNewD1 i fk fv ρ S = (fk ρ S).bind fun k => (fv ρ S).bind fun v => if keyT false k then some (.nx, ρ.set i (some (.ref S.length)), S ++ [.dic false [k] [v]]) else none := (rfl)
/-- d[k] = v, k new -/
theorem z_put {f fo fi : E} {ρ : Rho} {S : Sto} {n : Nat} {kv : List (Nat × D)} {k : Nat} {v : D} (h1 : f ρ S = some v) (h2 : fo ρ S = some (.ref n)) (h3 : fi ρ S = some (.int (k : Nat))) (h4 : S[n]? = some (natDic kv)) (h5 : k ∉ kv.map (·.1)) (h6 : kv.length ≤ 1000000) :
    sDPutD f fo fi ρ S = some (.nx, ρ, S.set n (natDic (kv ++ [(k, v)]))) := by
  have hd : dcell S (.ref n) = some (n, false, dkD kv, dvD kv) := by
    simp only [dcell, h4]
    rfl
  have hl : (dkD kv).length = kv.length := by simp [dkD]
  have hh : hasD (dkD kv) (.int (k : Nat)) = false := by rw [hasD_nat]; exact decide_eq_false h5
  unfold sDPutD
  simp only [h1, h2, h3, hd, Option.bind_some, keyT_nat, hl, small_eq, decide_eq_true h6, Bool.and_self, if_true, hh]
  simp [natDic, dkD, dvD]
end DL

set_option maxHeartbeats 4000000
namespace DL
open PySem PySem.Spec L2
noncomputable section
def b_law_mixed : T := sSeq (sSet 2 (e2 gAddA (e2 gAddA (e2 gMulA (eCall cInt (aCons (eV 0) (aNil))) (eC (.int 48271))) (e2 gMulA (eV 1) (eC (.int 69621)))) (eC (.int 11)))) (sRet (e2 gMod (eCall cInt (aCons (e2 gAddA (e2 gMulA (eV 2) (eC (.int 16807))) (e2 gDiv (eV 2) (eC (.int 8191)))) (aNil))) (eC (.int 2147483647))))
def f_law_mixed : List D → Option D := runD b_law_mixed 3
def l1_law_row : T := sIf (eTru (eV 5)) (sSeq (sApp (eV 3) (e2 gMod (eCall cInt (aCons (eV 4) (aNil))) (eV 2))) (sSet 4 (e2 gDiv (eV 4) (eV 2)))) (sApp (eV 3) (e2 gMod (e2 gDiv (eFn f_law_mixed (aCons (eV 0) (aCons (eV 6) (aNil)))) (eC (.int 7))) (eV 2)))
def b_law_row : T := sSeq (sNew 3 (fLst (aNil))) (sSeq (sSet 4 (eCall cInt (aCons (eV 0) (aNil)))) (sSeq (sSet 5 (e2 gGe (eV 4) (eC (.int 1000000000000000000)))) (sSeq (sFor (iRng rng1 (aCons (eV 1) (aNil))) (gN 6) l1_law_row) (sRet (eV 3)))))
def f_law_row : List D → Option D := runD b_law_row 7
def l2_law_web : T := sSeq (sApp (eV 7) (eTup (aCons (e2 gIx (eV 9) (e2 gSub (eV 10) (eC (.int 1)))) (aCons (e2 gIx (eV 9) (eV 10)) (aCons (e2 gAddA (eC (.int 1)) (e2 gMod (e2 gIx (eV 5) (eV 8)) (eC (.int 3)))) (aNil)))))) (sSet 8 (e2 gAddA (eV 8) (eC (.int 1))))
def l1_law_web : T := sFor (iRng rng1 (aCons (eCall cLen (aCons (eV 9) (aNil))) (aNil))) (gN 10) l2_law_web
def l3_law_web : T := sSeq (sSet 11 (e2 gMod (e2 gIx (eV 5) (e2 gAddA (eC (.int 11)) (e2 gMulA (eC (.int 3)) (eV 10)))) (eV 2))) (sSeq (sSet 12 (e2 gMod (eCall cInt (aCons (e2 gAddA (e2 gAddA (eV 11) (eC (.int 1))) (e2 gMod (e2 gIx (eV 5) (e2 gAddA (eC (.int 12)) (e2 gMulA (eC (.int 3)) (eV 10)))) (e2 gSub (eV 2) (eC (.int 1))))) (aNil))) (eV 2))) (sSeq (sSet 13 (e2 gMod (e2 gIx (eV 5) (e2 gAddA (eC (.int 13)) (e2 gMulA (eC (.int 3)) (eV 10)))) (e2 gAddA (eCall cLen (aCons (eV 7) (aNil))) (eC (.int 1))))) (sIns (eV 7) (eV 13) (eTup (aCons (eV 11) (aCons (eV 12) (aCons (e2 gAddA (eC (.int 1)) (e2 gMod (e2 gIx (eV 5) (e2 gAddA (eC (.int 24)) (eV 10))) (eC (.int 3)))) (aNil))))))))
def b_law_web : T := sSeq (sSet 2 (e2 gAddA (eC (.int 2)) (e2 gIx (eFn f_law_row (aCons (eV 0) (aCons (eC (.int 1)) (aCons (eC (.int 4)) (aNil))))) (eC (.int 0))))) (sSeq (sSet 3 (eFn f_law_row (aCons (e2 gAddA (e2 gDiv (eCall cInt (aCons (eV 0) (aNil))) (eC (.int 5))) (eC (.int 3))) (aCons (eV 2) (aCons (eC (.int 1000)) (aNil)))))) (sSeq (sSet 4 (eF (fComp (jSeqD (eF (fCall cSorted (aCons (eF (fComp (iRng rng1 (aCons (eV 2) (aNil))) [10] (gN 10) (bYes) (eTup (aCons (e2 gIx (eV 3) (eV 10)) (aCons (eV 10) (aNil)))))) (aNil))))) [14] (gN 14) (bYes) (e2 gIx (eV 14) (eC (.int 1)))))) (sSeq (sSet 5 (eFn f_law_row (aCons (eV 1) (aCons (eC (.int 40)) (aCons (eC (.int 30)) (aNil)))))) (sSeq (sSet 6 (eF (fLst (aCons (eV 4) (aNil))))) (sSeq (sIf (bAnd (eB (e2 gGt (eV 2) (eC (.int 3)))) (eB (e2 gLt (e2 gIx (eV 5) (eC (.int 0))) (eC (.int 12))))) (sSet 6 (eF (fLst (aCons (eCutA (eV 4) (oNone) (oSome (eC (.int 2)))) (aCons (eCutA (eV 4) (oSome (eC (.int 2))) (oNone)) (aNil)))))) (sSkip)) (sSeq (sNew 7 (fLst (aNil))) (sSeq (sSet 8 (eC (.int 1))) (sSeq (sFor (iSeqD (eV 6)) (gN 9) l1_law_web) (sSeq (sFor (iRng rng1 (aCons (e2 gMod (e2 gIx (eV 5) (eC (.int 10))) (eC (.int 4))) (aNil))) (gN 10) l3_law_web) (sRet (eTup (aCons (eV 2) (aCons (eCall cTuple (aCons (eV 7) (aNil))) (aNil))))))))))))))
def f_law_web : List D → Option D := runD b_law_web 15
def b_is_tuple_of : T := sRet (eAnd (eCall cIsi (aCons (eV 0) (aCons (eC (.ty "tuple")) (aNil)))) (e2 gEq (eCall cLen (aCons (eV 0) (aNil))) (eV 1)))
def f_is_tuple_of : List D → Option D := runD b_is_tuple_of 2
def b_is_integer : T := sRet (eAnd (eCall cIsi (aCons (eV 0) (aCons (eC (.ty "int")) (aNil)))) (eNot (eCall cIsi (aCons (eV 0) (aCons (eC (.ty "bool")) (aNil))))))
def f_is_integer : List D → Option D := runD b_is_integer 1
def b_is_between : T := sRet (eAnd (eFn f_is_integer (aCons (eV 0) (aNil))) (e3c gLe gLe (eV 1) (eV 0) (eV 2)))
def f_is_between : List D → Option D := runD b_is_between 3
def b_is_under : T := sRet (eAnd (eFn f_is_integer (aCons (eV 0) (aNil))) (e3c gLe gLt (eC (.int 0)) (eV 0) (eV 1)))
def f_is_under : List D → Option D := runD b_is_under 2
def b_is_row : T := sSeq (sIf (bOr (bNot (eTru (eFn f_is_tuple_of (aCons (eV 1) (aCons (eC (.int 3)) (aNil)))))) (bOr (bNot (eTru (eFn f_is_under (aCons (e2 gIx (eV 1) (eC (.int 0))) (aCons (eV 0) (aNil)))))) (bNot (eTru (eFn f_is_under (aCons (e2 gIx (eV 1) (eC (.int 1))) (aCons (eV 0) (aNil)))))))) (sRet (eC (.bl false))) (sSkip)) (sRet (eAnd (e2 gNe (e2 gIx (eV 1) (eC (.int 0))) (e2 gIx (eV 1) (eC (.int 1)))) (eFn f_is_between (aCons (e2 gIx (eV 1) (eC (.int 2))) (aCons (eC (.int 1)) (aCons (eC (.int 9)) (aNil)))))))
def f_is_row : List D → Option D := runD b_is_row 2
def b_is_web : T := sSeq (sIf (bOr (bNot (eTru (eFn f_is_tuple_of (aCons (eV 0) (aCons (eC (.int 2)) (aNil)))))) (bNot (eTru (eFn f_is_between (aCons (e2 gIx (eV 0) (eC (.int 0))) (aCons (eC (.int 2)) (aCons (eC (.int 6)) (aNil)))))))) (sRet (eC (.bl false))) (sSkip)) (sSeq (sAsg (eV 0) (gT 2 (gCons (gN 1) (gCons (gN 2) (gNil))))) (sSeq (sIf (bOr (bNot (eTru (eCall cIsi (aCons (eV 2) (aCons (eC (.ty "tuple")) (aNil)))))) (bNot (eB (e3c gLe gLe (eC (.int 1)) (eCall cLen (aCons (eV 2) (aNil))) (eC (.int 10)))))) (sRet (eC (.bl false))) (sSkip)) (sSeq (sIf (bNot (eTru (eCall cAll (aCons (eF (fComp (jSeqD (eV 2)) [5] (gN 5) (bYes) (eFn f_is_row (aCons (eV 1) (aCons (eV 5) (aNil)))))) (aNil))))) (sRet (eC (.bl false))) (sSkip)) (sSeq (sAsg (eTup (aCons (eF (fComp (jSeqD (eV 2)) [5] (gN 5) (bYes) (e2 gIx (eV 5) (eC (.int 0))))) (aCons (eF (fComp (jSeqD (eV 2)) [5] (gN 5) (bYes) (e2 gIx (eV 5) (eC (.int 1))))) (aNil)))) (gT 2 (gCons (gN 3) (gCons (gN 4) (gNil))))) (sRet (eCall cAll (aCons (eF (fComp (iRng rng1 (aCons (eV 1) (aNil))) [6] (gN 6) (bYes) (eAnd (e2 (gInS false) (eV 6) (eV 3)) (e2 (gInS false) (eV 6) (eV 4))))) (aNil))))))))
def f_is_web : List D → Option D := runD b_is_web 7
def b_need_web : T := sIf (bNot (eTru (eFn f_is_web (aCons (eV 0) (aNil))))) (sNever) (sSkip)
def f_need_web : List D → Option D := runD b_need_web 1
def b_need_person : T := sIf (bNot (eTru (eFn f_is_under (aCons (eV 1) (aCons (e2 gIx (eV 0) (eC (.int 0))) (aNil)))))) (sNever) (sSkip)
def f_need_person : List D → Option D := runD b_need_person 2
def b_need_base : T := sIf (bNot (eTru (eFn f_is_between (aCons (eV 0) (aCons (eC (.int 1)) (aCons (eC (.int 1000)) (aNil))))))) (sNever) (sSkip)
def f_need_base : List D → Option D := runD b_need_base 1
def b_need_case : T := sSeq (sDrop (eFn f_need_web (aCons (eV 0) (aNil)))) (sSeq (sDrop (eFn f_need_person (aCons (eV 0) (aCons (eV 1) (aNil))))) (sDrop (eFn f_need_base (aCons (eV 2) (aNil)))))
def f_need_case : List D → Option D := runD b_need_case 3
def b_got_by : T := sRet (eF (fComp (iEnumD (aCons (e2 gIx (eV 0) (eC (.int 1))) (aNil))) [2, 3] (gT 2 (gCons (gN 2) (gCons (gN 3) (gNil)))) (eB (e2 gEq (e2 gIx (eV 3) (eC (.int 1))) (eV 1))) (eV 2)))
def f_got_by : List D → Option D := runD b_got_by 4
def l2_steps_to : T := sSeq (sSet 7 (e2 gIx (e2 gIx (e2 gIx (eV 0) (eC (.int 1))) (eV 6)) (eC (.int 0)))) (sIf (eB (e2 (gDIn true) (eV 7) (eV 2))) (sSeq (sDPutD (eV 6) (eV 2) (eV 7)) (sApp (eV 3) (eV 7))) (sSkip))
def l1_steps_to : T := sSeq (sSet 5 (e2 gIx (eV 3) (eV 4))) (sSeq (sAugI 4 (eC (.int 1))) (sFor (iSeqD (eFn f_got_by (aCons (eV 0) (aCons (eV 5) (aNil))))) (gN 6) l2_steps_to))
def l1_steps_to_t : EB := eB (e2 gLt (eV 4) (eCall cLen (aCons (eV 3) (aNil))))
def b_steps_to : T := sSeq (sNewD1 2 (eV 1) (eC .non)) (sSeq (sNew 3 (fLst (aCons (eV 1) (aNil)))) (sSeq (sSet 4 (eC (.int 0))) (sSeq (sWhile l1_steps_to_t l1_steps_to) (sRet (eV 2)))))
def f_steps_to : List D → Option D := runD b_steps_to 8
def b_shut_in : T := sRet (eCall cTuple (aCons (eF (fComp (iRng rng1 (aCons (e2 gIx (eV 0) (eC (.int 0))) (aNil))) [2] (gN 2) (eB (e2 (gDIn true) (eV 2) (eV 1))) (eV 2))) (aNil)))
def f_shut_in : List D → Option D := runD b_shut_in 3
def b_amounts_by : T := sRet (eCall cTuple (aCons (eF (fComp (iRng rng1 (aCons (eCall cLen (aCons (e2 gIx (eV 0) (eC (.int 1))) (aNil))) (aNil))) [3] (gN 3) (bYes) (e2 gMulA (eV 1) (eCall cLen (aCons (eF (fComp (jSeqD (eV 2)) [4] (gN 4) (eB (e2 (gInS false) (eV 3) (eV 4))) (eV 4))) (aNil)))))) (aNil)))
def f_amounts_by : List D → Option D := runD b_amounts_by 5
def l1_way_on : T := sSeq (sApp (eV 3) (e2 gDGet (eV 1) (eV 4))) (sSet 4 (e2 gIx (e2 gIx (e2 gIx (eV 0) (eC (.int 1))) (e2 gDGet (eV 1) (eV 4))) (eC (.int 1))))
def l1_way_on_t : EB := eB (e2 (gIsN true) (e2 gDGet (eV 1) (eV 4)) (eC .non))
def b_way_on : T := sSeq (sNew 3 (fLst (aCons (eV 2) (aNil)))) (sSeq (sSet 4 (e2 gIx (e2 gIx (e2 gIx (eV 0) (eC (.int 1))) (eV 2)) (eC (.int 1)))) (sSeq (sWhile l1_way_on_t l1_way_on) (sRet (eCall cTuple (aCons (eV 3) (aNil))))))
def f_way_on : List D → Option D := runD b_way_on 5
def b_forfeits : T := sSeq (sDrop (eFn f_need_case (aCons (eV 0) (aCons (eV 1) (aCons (eV 2) (aNil)))))) (sSeq (sSet 3 (eFn f_steps_to (aCons (eV 0) (aCons (eV 1) (aNil))))) (sSeq (sIf (eTru (eFn f_shut_in (aCons (eV 0) (aCons (eV 3) (aNil))))) (sRet (eTup (aCons (eC (.str "lot")) (aCons (eFn f_shut_in (aCons (eV 0) (aCons (eV 3) (aNil)))) (aNil))))) (sSkip)) (sSeq (sSet 4 (eCall cTuple (aCons (eF (fComp (iRng rng1 (aCons (eCall cLen (aCons (e2 gIx (eV 0) (eC (.int 1))) (aNil))) (aNil))) [5] (gN 5) (bYes) (eFn f_way_on (aCons (eV 0) (aCons (eV 3) (aCons (eV 5) (aNil))))))) (aNil)))) (sRet (eTup (aCons (eC (.str "ways")) (aCons (eV 4) (aCons (eFn f_amounts_by (aCons (eV 0) (aCons (eV 2) (aCons (eV 4) (aNil))))) (aNil)))))))))
def f_forfeits : List D → Option D := runD b_forfeits 6
def b_law_gets : T := sRet (eF (fComp (iRng rng1 (aCons (eCall cLen (aCons (e2 gIx (eV 0) (eC (.int 1))) (aNil))) (aNil))) [2] (gN 2) (eB (e2 gEq (e2 gIx (e2 gIx (e2 gIx (eV 0) (eC (.int 1))) (eV 2)) (eC (.int 1))) (eV 1))) (eV 2)))
def f_law_gets : List D → Option D := runD b_law_gets 3
def l2_law_steps : T := sIf (eB (e2 (gDIn true) (e2 gIx (e2 gIx (e2 gIx (eV 0) (eC (.int 1))) (eV 5)) (eC (.int 0))) (eV 2))) (sSeq (sDPutD (eV 5) (eV 2) (e2 gIx (e2 gIx (e2 gIx (eV 0) (eC (.int 1))) (eV 5)) (eC (.int 0)))) (sApp (eV 3) (e2 gIx (e2 gIx (e2 gIx (eV 0) (eC (.int 1))) (eV 5)) (eC (.int 0))))) (sSkip)
def l1_law_steps : T := sSeq (sFor (iSeqD (eFn f_law_gets (aCons (eV 0) (aCons (e2 gIx (eV 3) (eV 4)) (aNil))))) (gN 5) l2_law_steps) (sSet 4 (e2 gAddA (eV 4) (eC (.int 1))))
def l1_law_steps_t : EB := eB (e2 gLt (eV 4) (eCall cLen (aCons (eV 3) (aNil))))
def b_law_steps : T := sSeq (sNewD1 2 (eV 1) (eC .non)) (sSeq (sNew 3 (fLst (aCons (eV 1) (aNil)))) (sSeq (sSet 4 (eC (.int 0))) (sSeq (sWhile l1_law_steps_t l1_law_steps) (sRet (eV 2)))))
def f_law_steps : List D → Option D := runD b_law_steps 6
def l2_law_amounts : T := sSeq (sPut (e2 gAddA (e2 gIx (eV 7) (e2 gDGet (eV 6) (eV 9))) (eV 4)) (eV 7) (e2 gDGet (eV 6) (eV 9))) (sSet 9 (e2 gIx (e2 gIx (e2 gIx (eV 2) (eC (.int 1))) (e2 gDGet (eV 6) (eV 9))) (eC (.int 1))))
def l2_law_amounts_t : EB := eB (e2 (gIsN true) (e2 gDGet (eV 6) (eV 9)) (eC .non))
def l1_law_amounts : T := sSeq (sSet 9 (e2 gIx (e2 gIx (e2 gIx (eV 2) (eC (.int 1))) (eV 8)) (eC (.int 1)))) (sWhile l2_law_amounts_t l2_law_amounts)
def b_law_amounts : T := sSeq (sSet 5 (eFn f_law_row (aCons (eV 0) (aCons (eC (.int 20)) (aCons (eC (.int 60)) (aNil)))))) (sSeq (sSet 6 (eFn f_law_steps (aCons (eV 2) (aCons (eV 3) (aNil))))) (sSeq (sNew 7 (fComp (iRng rng1 (aCons (eCall cLen (aCons (e2 gIx (eV 2) (eC (.int 1))) (aNil))) (aNil))) [8] (gN 8) (bYes) (e2 gIx (eV 5) (eV 8)))) (sSeq (sIf (bAnd (eB (e2 gLt (e2 gIx (eV 5) (eC (.int 12))) (eC (.int 40)))) (eB (e2 gEq (eCall cLenK (aCons (eV 6) (aNil))) (e2 gIx (eV 2) (eC (.int 0)))))) (sSeq (sNew 7 (fComp (jSeqD (eV 7)) [8] (gN 8) (bYes) (eV 4))) (sSeq (sFor (iRng rng1 (aCons (eCall cLen (aCons (e2 gIx (eV 2) (eC (.int 1))) (aNil))) (aNil))) (gN 8) l1_law_amounts) (sSeq (sNew 7 (fComp (iRng rng1 (aCons (eCall cLen (aCons (eV 7) (aNil))) (aNil))) [8] (gN 8) (bYes) (e2 gAddA (e2 gIx (eV 7) (eV 8)) (e2 gMulA (e2 gDiv (e2 gIx (eV 5) (eV 8)) (eC (.int 20))) (eCall cInt (aCons (e2 gLt (e2 gIx (eV 5) (eC (.int 13))) (eC (.int 20))) (aNil))))))) (sIf (eB (e2 gLt (e2 gIx (eV 5) (eC (.int 14))) (eC (.int 20)))) (sPut (eCall cMax2 (aCons (eC (.int 0)) (aCons (e2 gSub (e2 gIx (eV 7) (e2 gMod (e2 gIx (eV 5) (eC (.int 15))) (eCall cLen (aCons (eV 7) (aNil))))) (eC (.int 1))) (aNil)))) (eV 7) (e2 gMod (e2 gIx (eV 5) (eC (.int 15))) (eCall cLen (aCons (eV 7) (aNil))))) (sSkip))))) (sSkip)) (sRet (eCall cTuple (aCons (eV 7) (aNil)))))))
def f_law_amounts : List D → Option D := runD b_law_amounts 10
def b_law_lot : T := sSeq (sSet 2 (eFn f_law_row (aCons (eV 0) (aCons (eV 1) (aCons (eC (.int 2)) (aNil)))))) (sRet (eCall cTuple (aCons (eF (fComp (iRng rng1 (aCons (eV 1) (aNil))) [3] (gN 3) (eB (e2 gEq (e2 gIx (eV 2) (eV 3)) (eC (.int 1)))) (eV 3))) (aNil))))
def f_law_lot : List D → Option D := runD b_law_lot 4
def b_law_at : T := sSeq (sIf (eB (e2 gLt (eV 1) (eCall cLen (aCons (eV 0) (aNil))))) (sRet (eCall cInt (aCons (e2 gIx (eV 0) (eV 1)) (aNil)))) (sSkip)) (sRet (e2 gAddA (eC (.int 5)) (e2 gMulA (eC (.int 3)) (eV 1))))
def f_law_at : List D → Option D := runD b_law_at 2
def b_are_amounts : T := sSeq (sIf (bNot (eTru (eFn f_is_tuple_of (aCons (eV 1) (aCons (eCall cLen (aCons (e2 gIx (eV 0) (eC (.int 1))) (aNil))) (aNil)))))) (sRet (eC (.bl false))) (sSkip)) (sRet (eCall cAll (aCons (eF (fComp (jSeqD (eV 1)) [2] (gN 2) (bYes) (eFn f_is_between (aCons (eV 2) (aCons (eC (.int 0)) (aCons (eC (.int 1000000)) (aNil))))))) (aNil))))
def f_are_amounts : List D → Option D := runD b_are_amounts 3
def b_given_by : T := sRet (eF (fComp (iEnumD (aCons (e2 gIx (eV 0) (eC (.int 1))) (aNil))) [2, 3] (gT 2 (gCons (gN 2) (gCons (gN 3) (gNil)))) (eB (e2 gEq (e2 gIx (eV 3) (eC (.int 0))) (eV 1))) (eV 2)))
def f_given_by : List D → Option D := runD b_given_by 4
def b_net_of : T := sSeq (sSet 4 (eCall cSum (aCons (eF (fComp (jSeqD (eFn f_given_by (aCons (eV 0) (aCons (eV 2) (aNil))))) [5] (gN 5) (eB (e2 (gInS true) (eV 5) (eV 3))) (e2 gIx (eV 1) (eV 5)))) (aNil)))) (sRet (e2 gSub (eV 4) (eCall cSum (aCons (eF (fComp (jSeqD (eFn f_got_by (aCons (eV 0) (aCons (eV 2) (aNil))))) [5] (gN 5) (eB (e2 (gInS true) (eV 5) (eV 3))) (e2 gIx (eV 1) (eV 5)))) (aNil)))))
def f_net_of : List D → Option D := runD b_net_of 6
def b_due_of : T := sRet (e2 gMulA (eV 1) (eCall cLen (aCons (eF (fComp (jSeqD (eFn f_given_by (aCons (eV 0) (aCons (eV 2) (aNil))))) [4] (gN 4) (eB (e2 (gInS true) (eV 4) (eV 3))) (eV 4))) (aNil))))
def f_due_of : List D → Option D := runD b_due_of 5
def l2_short_at : T := sIf (eB (e2 gLt (e2 gIx (eV 3) (eV 7)) (eV 2))) (sRet (eTup (aCons (eV 5) (aCons (eCall cTuple (aCons (eF (fComp (jSeqD (eV 4)) [9] (gN 9) (eB (e2 gNe (eV 9) (eV 7))) (eV 9))) (aNil))) (aNil))))) (sSkip)
def l1_short_at : T := sSeq (sSet 6 (eFn f_given_by (aCons (eV 0) (aCons (eV 5) (aNil))))) (sSeq (sFor (iSeqD (eV 6)) (gN 7) l2_short_at) (sIf (eB (e2 gNe (eV 5) (eV 1))) (sSeq (sSet 8 (eTup (aNil))) (sIf (eB (e2 gLt (eFn f_net_of (aCons (eV 0) (aCons (eV 3) (aCons (eV 5) (aCons (eV 8) (aNil)))))) (eFn f_due_of (aCons (eV 0) (aCons (eV 2) (aCons (eV 5) (aCons (eV 8) (aNil)))))))) (sRet (eTup (aCons (eV 5) (aCons (eV 8) (aNil))))) (sSkip))) (sSkip)))
def b_short_at : T := sSeq (sSet 4 (eF (rg1 (eCall cLen (aCons (e2 gIx (eV 0) (eC (.int 1))) (aNil)))))) (sSeq (sFor (iRng rng1 (aCons (e2 gIx (eV 0) (eC (.int 0))) (aNil))) (gN 5) l1_short_at) (sRet (eC .non)))
def f_short_at : List D → Option D := runD b_short_at 10
def b_is_forfeits : T := sSeq (sDrop (eFn f_need_case (aCons (eV 0) (aCons (eV 1) (aCons (eV 2) (aNil)))))) (sRet (eAnd (eFn f_are_amounts (aCons (eV 0) (aCons (eV 3) (aNil)))) (e2 (gIsN false) (eFn f_short_at (aCons (eV 0) (aCons (eV 1) (aCons (eV 2) (aCons (eV 3) (aNil)))))) (eC .non))))
def f_is_forfeits : List D → Option D := runD b_is_forfeits 4
def b_need_amounts : T := sIf (bNot (eTru (eFn f_are_amounts (aCons (eV 0) (aCons (eV 1) (aNil)))))) (sNever) (sSkip)
def f_need_amounts : List D → Option D := runD b_need_amounts 2
def b_are_under : T := sRet (eAnd (eCall cIsi (aCons (eV 0) (aCons (eC (.ty "tuple")) (aNil)))) (eCall cAll (aCons (eF (fComp (jSeqD (eV 0)) [2] (gN 2) (bYes) (eFn f_is_under (aCons (eV 2) (aCons (eV 1) (aNil)))))) (aNil))))
def f_are_under : List D → Option D := runD b_are_under 3
def b_is_lot : T := sRet (eAnd (eFn f_are_under (aCons (eV 0) (aCons (eV 1) (aNil)))) (eCall cAll (aCons (eF (fComp (iRng rng2 (aCons (eC (.int 1)) (aCons (eCall cLen (aCons (eV 0) (aNil))) (aNil)))) [2] (gN 2) (bYes) (e2 gLt (e2 gIx (eV 0) (e2 gSub (eV 2) (eC (.int 1)))) (e2 gIx (eV 0) (eV 2))))) (aNil))))
def f_is_lot : List D → Option D := runD b_is_lot 3
def b_forfeit_net : T := sSeq (sDrop (eFn f_need_web (aCons (eV 0) (aNil)))) (sSeq (sDrop (eFn f_need_amounts (aCons (eV 0) (aCons (eV 1) (aNil))))) (sSeq (sDrop (eFn f_need_person (aCons (eV 0) (aCons (eV 2) (aNil))))) (sSeq (sIf (bNot (eTru (eFn f_is_lot (aCons (eV 3) (aCons (eCall cLen (aCons (e2 gIx (eV 0) (eC (.int 1))) (aNil))) (aNil)))))) (sNever) (sSkip)) (sRet (eFn f_net_of (aCons (eV 0) (aCons (eV 1) (aCons (eV 2) (aCons (eV 3) (aNil))))))))))
def f_forfeit_net : List D → Option D := runD b_forfeit_net 4
def b_forfeit_short : T := sSeq (sDrop (eFn f_need_case (aCons (eV 0) (aCons (eV 1) (aCons (eV 2) (aNil)))))) (sSeq (sDrop (eFn f_need_amounts (aCons (eV 0) (aCons (eV 3) (aNil))))) (sRet (eFn f_short_at (aCons (eV 0) (aCons (eV 1) (aCons (eV 2) (aCons (eV 3) (aNil))))))))
def f_forfeit_short : List D → Option D := runD b_forfeit_short 4
def l1_law : T := sSeq (sSet 12 (eFn f_forfeit_net (aCons (eV 1) (aCons (eV 8) (aCons (eV 11) (aCons (eV 9) (aNil))))))) (sSeq (sSet 13 (eCall cTuple (aCons (eF (fComp (jSeqD (eV 8)) [16] (gN 16) (bYes) (e2 gMulA (eV 5) (eV 16)))) (aNil)))) (sSeq (sIf (eB (e2 gNe (eFn f_forfeit_net (aCons (eV 1) (aCons (eV 13) (aCons (eV 11) (aCons (eV 9) (aNil)))))) (e2 gMulA (eV 5) (eV 12)))) (sRet (eC (.bl false))) (sSkip)) (sSet 10 (e2 gAddA (eV 10) (eV 12)))))
def b_law : T := sSeq (sSet 1 (eFn f_law_web (aCons (eFn f_law_at (aCons (eV 0) (aCons (eC (.int 0)) (aNil)))) (aCons (eFn f_law_at (aCons (eV 0) (aCons (eC (.int 1)) (aNil)))) (aNil))))) (sSeq (sSet 2 (eCall cLen (aCons (e2 gIx (eV 1) (eC (.int 1))) (aNil)))) (sSeq (sSet 3 (e2 gIx (eFn f_law_row (aCons (eFn f_law_at (aCons (eV 0) (aCons (eC (.int 2)) (aNil)))) (aCons (eC (.int 1)) (aCons (e2 gIx (eV 1) (eC (.int 0))) (aNil))))) (eC (.int 0)))) (sSeq (sSet 4 (e2 gAddA (eC (.int 1)) (e2 gIx (eFn f_law_row (aCons (eFn f_law_at (aCons (eV 0) (aCons (eC (.int 2)) (aNil)))) (aCons (eC (.int 2)) (aCons (eC (.int 9)) (aNil))))) (eC (.int 1))))) (sSeq (sSet 5 (e2 gAddA (eC (.int 2)) (e2 gIx (eFn f_law_row (aCons (eFn f_law_at (aCons (eV 0) (aCons (eC (.int 3)) (aNil)))) (aCons (eC (.int 1)) (aCons (eC (.int 5)) (aNil))))) (eC (.int 0))))) (sSeq (sSet 6 (eFn f_forfeits (aCons (eV 1) (aCons (eV 3) (aCons (eV 4) (aNil)))))) (sSeq (sSet 7 (eFn f_forfeits (aCons (eV 1) (aCons (eV 3) (aCons (e2 gMulA (eV 4) (eV 5)) (aNil)))))) (sSeq (sIf (eB (e2 gNe (eCutA (eV 6) (oNone) (oSome (eC (.int 2)))) (eCutA (eV 7) (oNone) (oSome (eC (.int 2)))))) (sRet (eC (.bl false))) (sSkip)) (sSeq (sSet 8 (eFn f_law_amounts (aCons (eFn f_law_at (aCons (eV 0) (aCons (eC (.int 4)) (aNil)))) (aCons (eFn f_law_at (aCons (eV 0) (aCons (eC (.int 5)) (aNil)))) (aCons (eV 1) (aCons (eV 3) (aCons (eV 4) (aNil)))))))) (sSeq (sIf (bAnd (eTru (eFn f_is_forfeits (aCons (eV 1) (aCons (eV 3) (aCons (eV 4) (aCons (eV 8) (aNil))))))) (eB (e2 gGt (eV 4) (eC (.int 1))))) (sSeq (sIf (eB (e2 (gIsB true) (eFn f_is_forfeits (aCons (eV 1) (aCons (eV 3) (aCons (e2 gSub (eV 4) (eC (.int 1))) (aCons (eV 8) (aNil)))))) (eC (.bl true)))) (sRet (eC (.bl false))) (sSkip)) (sIf (eB (e2 (gIsN true) (eFn f_forfeit_short (aCons (eV 1) (aCons (eV 3) (aCons (e2 gSub (eV 4) (eC (.int 1))) (aCons (eV 8) (aNil)))))) (eC .non))) (sRet (eC (.bl false))) (sSkip))) (sSkip)) (sSeq (sSet 9 (eFn f_law_lot (aCons (eFn f_law_at (aCons (eV 0) (aCons (eC (.int 6)) (aNil)))) (aCons (eV 2) (aNil))))) (sSeq (sSet 10 (eC (.int 0))) (sSeq (sFor (iRng rng1 (aCons (e2 gIx (eV 1) (eC (.int 0))) (aNil))) (gN 11) l1_law) (sSeq (sIf (eB (e2 gNe (eV 10) (eC (.int 0)))) (sRet (eC (.bl false))) (sSkip)) (sSeq (sIf (eB (e2 gEq (e2 gIx (eV 6) (eC (.int 0))) (eC (.str "lot")))) (sRet (e2 (gIsN true) (eFn f_forfeit_short (aCons (eV 1) (aCons (eV 3) (aCons (eV 4) (aCons (eV 8) (aNil)))))) (eC .non))) (sSkip)) (sSeq (sIf (eB (e2 gNe (e2 gIx (eV 7) (eC (.int 2))) (eCall cTuple (aCons (eF (fComp (jSeqD (e2 gIx (eV 6) (eC (.int 2)))) [16] (gN 16) (bYes) (e2 gMulA (eV 5) (eV 16)))) (aNil))))) (sRet (eC (.bl false))) (sSkip)) (sSeq (sSet 14 (eCall cTuple (aCons (eF (fComp (iRng rng1 (aCons (eV 2) (aNil))) [15] (gN 15) (bYes) (e2 gAddA (e2 gIx (e2 gIx (eV 6) (eC (.int 2))) (eV 15)) (e2 gIx (e2 gIx (eV 7) (eC (.int 2))) (eV 15))))) (aNil)))) (sSeq (sIf (eB (e2 (gIsB true) (eFn f_is_forfeits (aCons (eV 1) (aCons (eV 3) (aCons (e2 gMulA (eV 4) (e2 gAddA (eV 5) (eC (.int 1)))) (aCons (eV 14) (aNil)))))) (eC (.bl true)))) (sRet (eC (.bl false))) (sSkip)) (sRet (e2 (gIsB false) (eFn f_is_forfeits (aCons (eV 1) (aCons (eV 3) (aCons (e2 gAddA (e2 gMulA (eV 4) (e2 gAddA (eV 5) (eC (.int 1)))) (eC (.int 1))) (aCons (eV 14) (aNil)))))) (eC (.bl false)))))))))))))))))))))
def f_law : List D → Option D := runD b_law 17
end
end DL

set_option maxHeartbeats 4000000
namespace DL
open PySem PySem.Spec L2
def top (i : Nat) : Stmt := PySem.Challenge.pw_chesthours_k90_forfeits_to_scale.main.body.getD i (.Pass ⟨0, 0, 0, 0⟩)
abbrev s_law_mixed : Stmt := top 46
abbrev N_law_mixed : List Str := ["cell", "k", "first"]
theorem c_law_mixed : FnScope N_law_mixed ["cell", "k"] (defScope s_law_mixed) := ⟨rfl, rfl, rfl, by decide +kernel, rfl, by decide +kernel, by decide +kernel⟩
abbrev s_law_row : Stmt := top 47
abbrev N_law_row : List Str := ["cell", "many", "top", "found", "left", "great", "k"]
theorem c_law_row : FnScope N_law_row ["cell", "many", "top"] (defScope s_law_row) := ⟨rfl, rfl, rfl, by decide +kernel, rfl, by decide +kernel, by decide +kernel⟩
abbrev s_law_web : Stmt := top 44
abbrev N_law_web : List Str := ["cell", "more", "many", "marks", "order", "digits", "groups", "rows", "at", "group", "k", "giver", "taker", "place", "pair"]
theorem c_law_web : FnScope N_law_web ["cell", "more"] (defScope s_law_web) := ⟨rfl, rfl, rfl, by decide +kernel, rfl, by decide +kernel, by decide +kernel⟩
abbrev s_is_tuple_of : Stmt := top 11
abbrev N_is_tuple_of : List Str := ["thing", "many"]
theorem c_is_tuple_of : FnScope N_is_tuple_of ["thing", "many"] (defScope s_is_tuple_of) := ⟨rfl, rfl, rfl, by decide +kernel, rfl, by decide +kernel, by decide +kernel⟩
abbrev s_is_integer : Stmt := top 8
abbrev N_is_integer : List Str := ["thing"]
theorem c_is_integer : FnScope N_is_integer ["thing"] (defScope s_is_integer) := ⟨rfl, rfl, rfl, by decide +kernel, rfl, by decide +kernel, by decide +kernel⟩
abbrev s_is_between : Stmt := top 9
abbrev N_is_between : List Str := ["thing", "least", "most"]
theorem c_is_between : FnScope N_is_between ["thing", "least", "most"] (defScope s_is_between) := ⟨rfl, rfl, rfl, by decide +kernel, rfl, by decide +kernel, by decide +kernel⟩
abbrev s_is_under : Stmt := top 10
abbrev N_is_under : List Str := ["thing", "many"]
theorem c_is_under : FnScope N_is_under ["thing", "many"] (defScope s_is_under) := ⟨rfl, rfl, rfl, by decide +kernel, rfl, by decide +kernel, by decide +kernel⟩
abbrev s_is_row : Stmt := top 19
abbrev N_is_row : List Str := ["many", "thing"]
theorem c_is_row : FnScope N_is_row ["many", "thing"] (defScope s_is_row) := ⟨rfl, rfl, rfl, by decide +kernel, rfl, by decide +kernel, by decide +kernel⟩
abbrev s_is_web : Stmt := top 20
abbrev N_is_web : List Str := ["thing", "many", "rows", "givers", "takers", "row", "person"]
theorem c_is_web : FnScope N_is_web ["thing"] (defScope s_is_web) := ⟨rfl, rfl, rfl, by decide +kernel, rfl, by decide +kernel, by decide +kernel⟩
abbrev s_need_web : Stmt := top 21
abbrev N_need_web : List Str := ["thing"]
theorem c_need_web : FnScope N_need_web ["thing"] (defScope s_need_web) := ⟨rfl, rfl, rfl, by decide +kernel, rfl, by decide +kernel, by decide +kernel⟩
abbrev s_need_person : Stmt := top 22
abbrev N_need_person : List Str := ["web", "thing"]
theorem c_need_person : FnScope N_need_person ["web", "thing"] (defScope s_need_person) := ⟨rfl, rfl, rfl, by decide +kernel, rfl, by decide +kernel, by decide +kernel⟩
abbrev s_need_base : Stmt := top 28
abbrev N_need_base : List Str := ["base"]
theorem c_need_base : FnScope N_need_base ["base"] (defScope s_need_base) := ⟨rfl, rfl, rfl, by decide +kernel, rfl, by decide +kernel, by decide +kernel⟩
abbrev s_need_case : Stmt := top 31
abbrev N_need_case : List Str := ["web", "leader", "base"]
theorem c_need_case : FnScope N_need_case ["web", "leader", "base"] (defScope s_need_case) := ⟨rfl, rfl, rfl, by decide +kernel, rfl, by decide +kernel, by decide +kernel⟩
abbrev s_got_by : Stmt := top 24
abbrev N_got_by : List Str := ["web", "person", "number", "row"]
theorem c_got_by : FnScope N_got_by ["web", "person"] (defScope s_got_by) := ⟨rfl, rfl, rfl, by decide +kernel, rfl, by decide +kernel, by decide +kernel⟩
abbrev s_steps_to : Stmt := top 38
abbrev N_steps_to : List Str := ["web", "leader", "first", "order", "at", "here", "number", "giver"]
theorem c_steps_to : FnScope N_steps_to ["web", "leader"] (defScope s_steps_to) := ⟨rfl, rfl, rfl, by decide +kernel, rfl, by decide +kernel, by decide +kernel⟩
abbrev s_shut_in : Stmt := top 40
abbrev N_shut_in : List Str := ["web", "first", "person"]
theorem c_shut_in : FnScope N_shut_in ["web", "first"] (defScope s_shut_in) := ⟨rfl, rfl, rfl, by decide +kernel, rfl, by decide +kernel, by decide +kernel⟩
abbrev s_amounts_by : Stmt := top 42
abbrev N_amounts_by : List Str := ["web", "base", "ways", "number", "way"]
theorem c_amounts_by : FnScope N_amounts_by ["web", "base", "ways"] (defScope s_amounts_by) := ⟨rfl, rfl, rfl, by decide +kernel, rfl, by decide +kernel, by decide +kernel⟩
abbrev s_way_on : Stmt := top 39
abbrev N_way_on : List Str := ["web", "first", "number", "found", "here"]
theorem c_way_on : FnScope N_way_on ["web", "first", "number"] (defScope s_way_on) := ⟨rfl, rfl, rfl, by decide +kernel, rfl, by decide +kernel, by decide +kernel⟩
abbrev s_forfeits : Stmt := top 41
abbrev N_forfeits : List Str := ["web", "leader", "base", "first", "ways", "number"]
theorem c_forfeits : FnScope N_forfeits ["web", "leader", "base"] (defScope s_forfeits) := ⟨rfl, rfl, rfl, by decide +kernel, rfl, by decide +kernel, by decide +kernel⟩
abbrev s_law_gets : Stmt := top 50
abbrev N_law_gets : List Str := ["web", "person", "k"]
theorem c_law_gets : FnScope N_law_gets ["web", "person"] (defScope s_law_gets) := ⟨rfl, rfl, rfl, by decide +kernel, rfl, by decide +kernel, by decide +kernel⟩
abbrev s_law_steps : Stmt := top 48
abbrev N_law_steps : List Str := ["web", "leader", "first", "order", "at", "k"]
theorem c_law_steps : FnScope N_law_steps ["web", "leader"] (defScope s_law_steps) := ⟨rfl, rfl, rfl, by decide +kernel, rfl, by decide +kernel, by decide +kernel⟩
abbrev s_law_amounts : Stmt := top 49
abbrev N_law_amounts : List Str := ["cell", "more", "web", "leader", "base", "digits", "first", "amounts", "k", "here"]
theorem c_law_amounts : FnScope N_law_amounts ["cell", "more", "web", "leader", "base"] (defScope s_law_amounts) := ⟨rfl, rfl, rfl, by decide +kernel, rfl, by decide +kernel, by decide +kernel⟩
abbrev s_law_lot : Stmt := top 51
abbrev N_law_lot : List Str := ["cell", "many", "marks", "k"]
theorem c_law_lot : FnScope N_law_lot ["cell", "many"] (defScope s_law_lot) := ⟨rfl, rfl, rfl, by decide +kernel, rfl, by decide +kernel, by decide +kernel⟩
abbrev s_law_at : Stmt := top 45
abbrev N_law_at : List Str := ["script", "k"]
theorem c_law_at : FnScope N_law_at ["script", "k"] (defScope s_law_at) := ⟨rfl, rfl, rfl, by decide +kernel, rfl, by decide +kernel, by decide +kernel⟩
abbrev s_are_amounts : Stmt := top 29
abbrev N_are_amounts : List Str := ["web", "thing", "one"]
theorem c_are_amounts : FnScope N_are_amounts ["web", "thing"] (defScope s_are_amounts) := ⟨rfl, rfl, rfl, by decide +kernel, rfl, by decide +kernel, by decide +kernel⟩
abbrev s_given_by : Stmt := top 23
abbrev N_given_by : List Str := ["web", "person", "number", "row"]
theorem c_given_by : FnScope N_given_by ["web", "person"] (defScope s_given_by) := ⟨rfl, rfl, rfl, by decide +kernel, rfl, by decide +kernel, by decide +kernel⟩
abbrev s_net_of : Stmt := top 32
abbrev N_net_of : List Str := ["web", "amounts", "person", "lot", "paid", "number"]
theorem c_net_of : FnScope N_net_of ["web", "amounts", "person", "lot"] (defScope s_net_of) := ⟨rfl, rfl, rfl, by decide +kernel, rfl, by decide +kernel, by decide +kernel⟩
abbrev s_due_of : Stmt := top 34
abbrev N_due_of : List Str := ["web", "base", "person", "lot", "number"]
theorem c_due_of : FnScope N_due_of ["web", "base", "person", "lot"] (defScope s_due_of) := ⟨rfl, rfl, rfl, by decide +kernel, rfl, by decide +kernel, by decide +kernel⟩
abbrev s_short_at : Stmt := top 35
abbrev N_short_at : List Str := ["web", "leader", "base", "amounts", "every", "person", "gives", "number", "lot", "one"]
theorem c_short_at : FnScope N_short_at ["web", "leader", "base", "amounts"] (defScope s_short_at) := ⟨rfl, rfl, rfl, by decide +kernel, rfl, by decide +kernel, by decide +kernel⟩
abbrev s_is_forfeits : Stmt := top 37
abbrev N_is_forfeits : List Str := ["web", "leader", "base", "thing"]
theorem c_is_forfeits : FnScope N_is_forfeits ["web", "leader", "base", "thing"] (defScope s_is_forfeits) := ⟨rfl, rfl, rfl, by decide +kernel, rfl, by decide +kernel, by decide +kernel⟩
abbrev s_need_amounts : Stmt := top 30
abbrev N_need_amounts : List Str := ["web", "thing"]
theorem c_need_amounts : FnScope N_need_amounts ["web", "thing"] (defScope s_need_amounts) := ⟨rfl, rfl, rfl, by decide +kernel, rfl, by decide +kernel, by decide +kernel⟩
abbrev s_are_under : Stmt := top 12
abbrev N_are_under : List Str := ["thing", "many", "one"]
theorem c_are_under : FnScope N_are_under ["thing", "many"] (defScope s_are_under) := ⟨rfl, rfl, rfl, by decide +kernel, rfl, by decide +kernel, by decide +kernel⟩
abbrev s_is_lot : Stmt := top 13
abbrev N_is_lot : List Str := ["thing", "many", "at"]
theorem c_is_lot : FnScope N_is_lot ["thing", "many"] (defScope s_is_lot) := ⟨rfl, rfl, rfl, by decide +kernel, rfl, by decide +kernel, by decide +kernel⟩
abbrev s_forfeit_net : Stmt := top 33
abbrev N_forfeit_net : List Str := ["web", "amounts", "person", "lot"]
theorem c_forfeit_net : FnScope N_forfeit_net ["web", "amounts", "person", "lot"] (defScope s_forfeit_net) := ⟨rfl, rfl, rfl, by decide +kernel, rfl, by decide +kernel, by decide +kernel⟩
abbrev s_forfeit_short : Stmt := top 36
abbrev N_forfeit_short : List Str := ["web", "leader", "base", "amounts"]
theorem c_forfeit_short : FnScope N_forfeit_short ["web", "leader", "base", "amounts"] (defScope s_forfeit_short) := ⟨rfl, rfl, rfl, by decide +kernel, rfl, by decide +kernel, by decide +kernel⟩
abbrev s_law : Stmt := top 52
abbrev N_law : List Str := ["script", "web", "many", "leader", "base", "times", "one", "other", "amounts", "lot", "total", "person", "net", "more", "both", "k", "amount"]
theorem c_law : FnScope N_law ["script"] (defScope s_law) := ⟨rfl, rfl, rfl, by decide +kernel, rfl, by decide +kernel, by decide +kernel⟩
theorem bd_law_mixed : ∀ (kV doc pm : Value) (an : Option Addr) (cdv ct : Value) (us : List Value), us.length = (["cell", "k"] : List Str).length → bindArgs (PySem.W.fnOf "_law_mixed" "_law_mixed" (defArgs s_law_mixed) (defBody s_law_mixed) (defScope s_law_mixed) .none kV doc pm an cdv ct) ⟨us, []⟩ = pure ((["cell", "k"] : List Str).zip us) := fun _ _ _ _ _ _ us hl => match us, hl with | [_, _], _ => rfl
theorem bd_law_row : ∀ (kV doc pm : Value) (an : Option Addr) (cdv ct : Value) (us : List Value), us.length = (["cell", "many", "top"] : List Str).length → bindArgs (PySem.W.fnOf "_law_row" "_law_row" (defArgs s_law_row) (defBody s_law_row) (defScope s_law_row) .none kV doc pm an cdv ct) ⟨us, []⟩ = pure ((["cell", "many", "top"] : List Str).zip us) := fun _ _ _ _ _ _ us hl => match us, hl with | [_, _, _], _ => rfl
theorem bd_law_web : ∀ (kV doc pm : Value) (an : Option Addr) (cdv ct : Value) (us : List Value), us.length = (["cell", "more"] : List Str).length → bindArgs (PySem.W.fnOf "_law_web" "_law_web" (defArgs s_law_web) (defBody s_law_web) (defScope s_law_web) .none kV doc pm an cdv ct) ⟨us, []⟩ = pure ((["cell", "more"] : List Str).zip us) := fun _ _ _ _ _ _ us hl => match us, hl with | [_, _], _ => rfl
theorem bd_is_tuple_of : ∀ (kV doc pm : Value) (an : Option Addr) (cdv ct : Value) (us : List Value), us.length = (["thing", "many"] : List Str).length → bindArgs (PySem.W.fnOf "is_tuple_of" "is_tuple_of" (defArgs s_is_tuple_of) (defBody s_is_tuple_of) (defScope s_is_tuple_of) .none kV doc pm an cdv ct) ⟨us, []⟩ = pure ((["thing", "many"] : List Str).zip us) := fun _ _ _ _ _ _ us hl => match us, hl with | [_, _], _ => rfl
theorem bd_is_integer : ∀ (kV doc pm : Value) (an : Option Addr) (cdv ct : Value) (us : List Value), us.length = (["thing"] : List Str).length → bindArgs (PySem.W.fnOf "is_integer" "is_integer" (defArgs s_is_integer) (defBody s_is_integer) (defScope s_is_integer) .none kV doc pm an cdv ct) ⟨us, []⟩ = pure ((["thing"] : List Str).zip us) := fun _ _ _ _ _ _ us hl => match us, hl with | [_], _ => rfl
theorem bd_is_between : ∀ (kV doc pm : Value) (an : Option Addr) (cdv ct : Value) (us : List Value), us.length = (["thing", "least", "most"] : List Str).length → bindArgs (PySem.W.fnOf "is_between" "is_between" (defArgs s_is_between) (defBody s_is_between) (defScope s_is_between) .none kV doc pm an cdv ct) ⟨us, []⟩ = pure ((["thing", "least", "most"] : List Str).zip us) := fun _ _ _ _ _ _ us hl => match us, hl with | [_, _, _], _ => rfl
theorem bd_is_under : ∀ (kV doc pm : Value) (an : Option Addr) (cdv ct : Value) (us : List Value), us.length = (["thing", "many"] : List Str).length → bindArgs (PySem.W.fnOf "is_under" "is_under" (defArgs s_is_under) (defBody s_is_under) (defScope s_is_under) .none kV doc pm an cdv ct) ⟨us, []⟩ = pure ((["thing", "many"] : List Str).zip us) := fun _ _ _ _ _ _ us hl => match us, hl with | [_, _], _ => rfl
theorem bd_is_row : ∀ (kV doc pm : Value) (an : Option Addr) (cdv ct : Value) (us : List Value), us.length = (["many", "thing"] : List Str).length → bindArgs (PySem.W.fnOf "is_row" "is_row" (defArgs s_is_row) (defBody s_is_row) (defScope s_is_row) .none kV doc pm an cdv ct) ⟨us, []⟩ = pure ((["many", "thing"] : List Str).zip us) := fun _ _ _ _ _ _ us hl => match us, hl with | [_, _], _ => rfl
theorem bd_is_web : ∀ (kV doc pm : Value) (an : Option Addr) (cdv ct : Value) (us : List Value), us.length = (["thing"] : List Str).length → bindArgs (PySem.W.fnOf "is_web" "is_web" (defArgs s_is_web) (defBody s_is_web) (defScope s_is_web) .none kV doc pm an cdv ct) ⟨us, []⟩ = pure ((["thing"] : List Str).zip us) := fun _ _ _ _ _ _ us hl => match us, hl with | [_], _ => rfl
theorem bd_need_web : ∀ (kV doc pm : Value) (an : Option Addr) (cdv ct : Value) (us : List Value), us.length = (["thing"] : List Str).length → bindArgs (PySem.W.fnOf "need_web" "need_web" (defArgs s_need_web) (defBody s_need_web) (defScope s_need_web) .none kV doc pm an cdv ct) ⟨us, []⟩ = pure ((["thing"] : List Str).zip us) := fun _ _ _ _ _ _ us hl => match us, hl with | [_], _ => rfl
theorem bd_need_person : ∀ (kV doc pm : Value) (an : Option Addr) (cdv ct : Value) (us : List Value), us.length = (["web", "thing"] : List Str).length → bindArgs (PySem.W.fnOf "need_person" "need_person" (defArgs s_need_person) (defBody s_need_person) (defScope s_need_person) .none kV doc pm an cdv ct) ⟨us, []⟩ = pure ((["web", "thing"] : List Str).zip us) := fun _ _ _ _ _ _ us hl => match us, hl with | [_, _], _ => rfl
theorem bd_need_base : ∀ (kV doc pm : Value) (an : Option Addr) (cdv ct : Value) (us : List Value), us.length = (["base"] : List Str).length → bindArgs (PySem.W.fnOf "need_base" "need_base" (defArgs s_need_base) (defBody s_need_base) (defScope s_need_base) .none kV doc pm an cdv ct) ⟨us, []⟩ = pure ((["base"] : List Str).zip us) := fun _ _ _ _ _ _ us hl => match us, hl with | [_], _ => rfl
theorem bd_need_case : ∀ (kV doc pm : Value) (an : Option Addr) (cdv ct : Value) (us : List Value), us.length = (["web", "leader", "base"] : List Str).length → bindArgs (PySem.W.fnOf "need_case" "need_case" (defArgs s_need_case) (defBody s_need_case) (defScope s_need_case) .none kV doc pm an cdv ct) ⟨us, []⟩ = pure ((["web", "leader", "base"] : List Str).zip us) := fun _ _ _ _ _ _ us hl => match us, hl with | [_, _, _], _ => rfl
theorem bd_got_by : ∀ (kV doc pm : Value) (an : Option Addr) (cdv ct : Value) (us : List Value), us.length = (["web", "person"] : List Str).length → bindArgs (PySem.W.fnOf "got_by" "got_by" (defArgs s_got_by) (defBody s_got_by) (defScope s_got_by) .none kV doc pm an cdv ct) ⟨us, []⟩ = pure ((["web", "person"] : List Str).zip us) := fun _ _ _ _ _ _ us hl => match us, hl with | [_, _], _ => rfl
theorem bd_steps_to : ∀ (kV doc pm : Value) (an : Option Addr) (cdv ct : Value) (us : List Value), us.length = (["web", "leader"] : List Str).length → bindArgs (PySem.W.fnOf "steps_to" "steps_to" (defArgs s_steps_to) (defBody s_steps_to) (defScope s_steps_to) .none kV doc pm an cdv ct) ⟨us, []⟩ = pure ((["web", "leader"] : List Str).zip us) := fun _ _ _ _ _ _ us hl => match us, hl with | [_, _], _ => rfl
theorem bd_shut_in : ∀ (kV doc pm : Value) (an : Option Addr) (cdv ct : Value) (us : List Value), us.length = (["web", "first"] : List Str).length → bindArgs (PySem.W.fnOf "shut_in" "shut_in" (defArgs s_shut_in) (defBody s_shut_in) (defScope s_shut_in) .none kV doc pm an cdv ct) ⟨us, []⟩ = pure ((["web", "first"] : List Str).zip us) := fun _ _ _ _ _ _ us hl => match us, hl with | [_, _], _ => rfl
theorem bd_amounts_by : ∀ (kV doc pm : Value) (an : Option Addr) (cdv ct : Value) (us : List Value), us.length = (["web", "base", "ways"] : List Str).length → bindArgs (PySem.W.fnOf "amounts_by" "amounts_by" (defArgs s_amounts_by) (defBody s_amounts_by) (defScope s_amounts_by) .none kV doc pm an cdv ct) ⟨us, []⟩ = pure ((["web", "base", "ways"] : List Str).zip us) := fun _ _ _ _ _ _ us hl => match us, hl with | [_, _, _], _ => rfl
theorem bd_way_on : ∀ (kV doc pm : Value) (an : Option Addr) (cdv ct : Value) (us : List Value), us.length = (["web", "first", "number"] : List Str).length → bindArgs (PySem.W.fnOf "way_on" "way_on" (defArgs s_way_on) (defBody s_way_on) (defScope s_way_on) .none kV doc pm an cdv ct) ⟨us, []⟩ = pure ((["web", "first", "number"] : List Str).zip us) := fun _ _ _ _ _ _ us hl => match us, hl with | [_, _, _], _ => rfl
theorem bd_forfeits : ∀ (kV doc pm : Value) (an : Option Addr) (cdv ct : Value) (us : List Value), us.length = (["web", "leader", "base"] : List Str).length → bindArgs (PySem.W.fnOf "forfeits" "forfeits" (defArgs s_forfeits) (defBody s_forfeits) (defScope s_forfeits) .none kV doc pm an cdv ct) ⟨us, []⟩ = pure ((["web", "leader", "base"] : List Str).zip us) := fun _ _ _ _ _ _ us hl => match us, hl with | [_, _, _], _ => rfl
theorem bd_law_gets : ∀ (kV doc pm : Value) (an : Option Addr) (cdv ct : Value) (us : List Value), us.length = (["web", "person"] : List Str).length → bindArgs (PySem.W.fnOf "_law_gets" "_law_gets" (defArgs s_law_gets) (defBody s_law_gets) (defScope s_law_gets) .none kV doc pm an cdv ct) ⟨us, []⟩ = pure ((["web", "person"] : List Str).zip us) := fun _ _ _ _ _ _ us hl => match us, hl with | [_, _], _ => rfl
theorem bd_law_steps : ∀ (kV doc pm : Value) (an : Option Addr) (cdv ct : Value) (us : List Value), us.length = (["web", "leader"] : List Str).length → bindArgs (PySem.W.fnOf "_law_steps" "_law_steps" (defArgs s_law_steps) (defBody s_law_steps) (defScope s_law_steps) .none kV doc pm an cdv ct) ⟨us, []⟩ = pure ((["web", "leader"] : List Str).zip us) := fun _ _ _ _ _ _ us hl => match us, hl with | [_, _], _ => rfl
theorem bd_law_amounts : ∀ (kV doc pm : Value) (an : Option Addr) (cdv ct : Value) (us : List Value), us.length = (["cell", "more", "web", "leader", "base"] : List Str).length → bindArgs (PySem.W.fnOf "_law_amounts" "_law_amounts" (defArgs s_law_amounts) (defBody s_law_amounts) (defScope s_law_amounts) .none kV doc pm an cdv ct) ⟨us, []⟩ = pure ((["cell", "more", "web", "leader", "base"] : List Str).zip us) := fun _ _ _ _ _ _ us hl => match us, hl with | [_, _, _, _, _], _ => rfl
theorem bd_law_lot : ∀ (kV doc pm : Value) (an : Option Addr) (cdv ct : Value) (us : List Value), us.length = (["cell", "many"] : List Str).length → bindArgs (PySem.W.fnOf "_law_lot" "_law_lot" (defArgs s_law_lot) (defBody s_law_lot) (defScope s_law_lot) .none kV doc pm an cdv ct) ⟨us, []⟩ = pure ((["cell", "many"] : List Str).zip us) := fun _ _ _ _ _ _ us hl => match us, hl with | [_, _], _ => rfl
theorem bd_law_at : ∀ (kV doc pm : Value) (an : Option Addr) (cdv ct : Value) (us : List Value), us.length = (["script", "k"] : List Str).length → bindArgs (PySem.W.fnOf "_law_at" "_law_at" (defArgs s_law_at) (defBody s_law_at) (defScope s_law_at) .none kV doc pm an cdv ct) ⟨us, []⟩ = pure ((["script", "k"] : List Str).zip us) := fun _ _ _ _ _ _ us hl => match us, hl with | [_, _], _ => rfl
theorem bd_are_amounts : ∀ (kV doc pm : Value) (an : Option Addr) (cdv ct : Value) (us : List Value), us.length = (["web", "thing"] : List Str).length → bindArgs (PySem.W.fnOf "are_amounts" "are_amounts" (defArgs s_are_amounts) (defBody s_are_amounts) (defScope s_are_amounts) .none kV doc pm an cdv ct) ⟨us, []⟩ = pure ((["web", "thing"] : List Str).zip us) := fun _ _ _ _ _ _ us hl => match us, hl with | [_, _], _ => rfl
theorem bd_given_by : ∀ (kV doc pm : Value) (an : Option Addr) (cdv ct : Value) (us : List Value), us.length = (["web", "person"] : List Str).length → bindArgs (PySem.W.fnOf "given_by" "given_by" (defArgs s_given_by) (defBody s_given_by) (defScope s_given_by) .none kV doc pm an cdv ct) ⟨us, []⟩ = pure ((["web", "person"] : List Str).zip us) := fun _ _ _ _ _ _ us hl => match us, hl with | [_, _], _ => rfl
theorem bd_net_of : ∀ (kV doc pm : Value) (an : Option Addr) (cdv ct : Value) (us : List Value), us.length = (["web", "amounts", "person", "lot"] : List Str).length → bindArgs (PySem.W.fnOf "net_of" "net_of" (defArgs s_net_of) (defBody s_net_of) (defScope s_net_of) .none kV doc pm an cdv ct) ⟨us, []⟩ = pure ((["web", "amounts", "person", "lot"] : List Str).zip us) := fun _ _ _ _ _ _ us hl => match us, hl with | [_, _, _, _], _ => rfl
theorem bd_due_of : ∀ (kV doc pm : Value) (an : Option Addr) (cdv ct : Value) (us : List Value), us.length = (["web", "base", "person", "lot"] : List Str).length → bindArgs (PySem.W.fnOf "due_of" "due_of" (defArgs s_due_of) (defBody s_due_of) (defScope s_due_of) .none kV doc pm an cdv ct) ⟨us, []⟩ = pure ((["web", "base", "person", "lot"] : List Str).zip us) := fun _ _ _ _ _ _ us hl => match us, hl with | [_, _, _, _], _ => rfl
theorem bd_short_at : ∀ (kV doc pm : Value) (an : Option Addr) (cdv ct : Value) (us : List Value), us.length = (["web", "leader", "base", "amounts"] : List Str).length → bindArgs (PySem.W.fnOf "short_at" "short_at" (defArgs s_short_at) (defBody s_short_at) (defScope s_short_at) .none kV doc pm an cdv ct) ⟨us, []⟩ = pure ((["web", "leader", "base", "amounts"] : List Str).zip us) := fun _ _ _ _ _ _ us hl => match us, hl with | [_, _, _, _], _ => rfl
theorem bd_is_forfeits : ∀ (kV doc pm : Value) (an : Option Addr) (cdv ct : Value) (us : List Value), us.length = (["web", "leader", "base", "thing"] : List Str).length → bindArgs (PySem.W.fnOf "is_forfeits" "is_forfeits" (defArgs s_is_forfeits) (defBody s_is_forfeits) (defScope s_is_forfeits) .none kV doc pm an cdv ct) ⟨us, []⟩ = pure ((["web", "leader", "base", "thing"] : List Str).zip us) := fun _ _ _ _ _ _ us hl => match us, hl with | [_, _, _, _], _ => rfl
theorem bd_need_amounts : ∀ (kV doc pm : Value) (an : Option Addr) (cdv ct : Value) (us : List Value), us.length = (["web", "thing"] : List Str).length → bindArgs (PySem.W.fnOf "need_amounts" "need_amounts" (defArgs s_need_amounts) (defBody s_need_amounts) (defScope s_need_amounts) .none kV doc pm an cdv ct) ⟨us, []⟩ = pure ((["web", "thing"] : List Str).zip us) := fun _ _ _ _ _ _ us hl => match us, hl with | [_, _], _ => rfl
theorem bd_are_under : ∀ (kV doc pm : Value) (an : Option Addr) (cdv ct : Value) (us : List Value), us.length = (["thing", "many"] : List Str).length → bindArgs (PySem.W.fnOf "are_under" "are_under" (defArgs s_are_under) (defBody s_are_under) (defScope s_are_under) .none kV doc pm an cdv ct) ⟨us, []⟩ = pure ((["thing", "many"] : List Str).zip us) := fun _ _ _ _ _ _ us hl => match us, hl with | [_, _], _ => rfl
theorem bd_is_lot : ∀ (kV doc pm : Value) (an : Option Addr) (cdv ct : Value) (us : List Value), us.length = (["thing", "many"] : List Str).length → bindArgs (PySem.W.fnOf "is_lot" "is_lot" (defArgs s_is_lot) (defBody s_is_lot) (defScope s_is_lot) .none kV doc pm an cdv ct) ⟨us, []⟩ = pure ((["thing", "many"] : List Str).zip us) := fun _ _ _ _ _ _ us hl => match us, hl with | [_, _], _ => rfl
theorem bd_forfeit_net : ∀ (kV doc pm : Value) (an : Option Addr) (cdv ct : Value) (us : List Value), us.length = (["web", "amounts", "person", "lot"] : List Str).length → bindArgs (PySem.W.fnOf "forfeit_net" "forfeit_net" (defArgs s_forfeit_net) (defBody s_forfeit_net) (defScope s_forfeit_net) .none kV doc pm an cdv ct) ⟨us, []⟩ = pure ((["web", "amounts", "person", "lot"] : List Str).zip us) := fun _ _ _ _ _ _ us hl => match us, hl with | [_, _, _, _], _ => rfl
theorem bd_forfeit_short : ∀ (kV doc pm : Value) (an : Option Addr) (cdv ct : Value) (us : List Value), us.length = (["web", "leader", "base", "amounts"] : List Str).length → bindArgs (PySem.W.fnOf "forfeit_short" "forfeit_short" (defArgs s_forfeit_short) (defBody s_forfeit_short) (defScope s_forfeit_short) .none kV doc pm an cdv ct) ⟨us, []⟩ = pure ((["web", "leader", "base", "amounts"] : List Str).zip us) := fun _ _ _ _ _ _ us hl => match us, hl with | [_, _, _, _], _ => rfl
theorem bd_law : ∀ (kV doc pm : Value) (an : Option Addr) (cdv ct : Value) (us : List Value), us.length = (["script"] : List Str).length → bindArgs (PySem.W.fnOf "law" "law" (defArgs s_law) (defBody s_law) (defScope s_law) .none kV doc pm an cdv ct) ⟨us, []⟩ = pure ((["script"] : List Str).zip us) := fun _ _ _ _ _ _ us hl => match us, hl with | [_], _ => rfl
structure Fx (K : PySem.W.Frag) (mg : Str → Option Value) : Prop where
  t_law_mixed : Tx K mg "_law_mixed" s_law_mixed ["cell", "k"]
  t_law_row : Tx K mg "_law_row" s_law_row ["cell", "many", "top"]
  t_law_web : Tx K mg "_law_web" s_law_web ["cell", "more"]
  t_is_tuple_of : Tx K mg "is_tuple_of" s_is_tuple_of ["thing", "many"]
  t_is_integer : Tx K mg "is_integer" s_is_integer ["thing"]
  t_is_between : Tx K mg "is_between" s_is_between ["thing", "least", "most"]
  t_is_under : Tx K mg "is_under" s_is_under ["thing", "many"]
  t_is_row : Tx K mg "is_row" s_is_row ["many", "thing"]
  t_is_web : Tx K mg "is_web" s_is_web ["thing"]
  t_need_web : Tx K mg "need_web" s_need_web ["thing"]
  t_need_person : Tx K mg "need_person" s_need_person ["web", "thing"]
  t_need_base : Tx K mg "need_base" s_need_base ["base"]
  t_need_case : Tx K mg "need_case" s_need_case ["web", "leader", "base"]
  t_got_by : Tx K mg "got_by" s_got_by ["web", "person"]
  t_steps_to : Tx K mg "steps_to" s_steps_to ["web", "leader"]
  t_shut_in : Tx K mg "shut_in" s_shut_in ["web", "first"]
  t_amounts_by : Tx K mg "amounts_by" s_amounts_by ["web", "base", "ways"]
  t_way_on : Tx K mg "way_on" s_way_on ["web", "first", "number"]
  t_forfeits : Tx K mg "forfeits" s_forfeits ["web", "leader", "base"]
  t_law_gets : Tx K mg "_law_gets" s_law_gets ["web", "person"]
  t_law_steps : Tx K mg "_law_steps" s_law_steps ["web", "leader"]
  t_law_amounts : Tx K mg "_law_amounts" s_law_amounts ["cell", "more", "web", "leader", "base"]
  t_law_lot : Tx K mg "_law_lot" s_law_lot ["cell", "many"]
  t_law_at : Tx K mg "_law_at" s_law_at ["script", "k"]
  t_are_amounts : Tx K mg "are_amounts" s_are_amounts ["web", "thing"]
  t_given_by : Tx K mg "given_by" s_given_by ["web", "person"]
  t_net_of : Tx K mg "net_of" s_net_of ["web", "amounts", "person", "lot"]
  t_due_of : Tx K mg "due_of" s_due_of ["web", "base", "person", "lot"]
  t_short_at : Tx K mg "short_at" s_short_at ["web", "leader", "base", "amounts"]
  t_is_forfeits : Tx K mg "is_forfeits" s_is_forfeits ["web", "leader", "base", "thing"]
  t_need_amounts : Tx K mg "need_amounts" s_need_amounts ["web", "thing"]
  t_are_under : Tx K mg "are_under" s_are_under ["thing", "many"]
  t_is_lot : Tx K mg "is_lot" s_is_lot ["thing", "many"]
  t_forfeit_net : Tx K mg "forfeit_net" s_forfeit_net ["web", "amounts", "person", "lot"]
  t_forfeit_short : Tx K mg "forfeit_short" s_forfeit_short ["web", "leader", "base", "amounts"]
  b_all : mg "all" = none
  b_bool : mg "bool" = none
  b_enumerate : mg "enumerate" = none
  b_int : mg "int" = none
  b_isinstance : mg "isinstance" = none
  b_len : mg "len" = none
  b_list : mg "list" = none
  b_max : mg "max" = none
  b_range : mg "range" = none
  b_sorted : mg "sorted" = none
  b_sum : mg "sum" = none
  b_tuple : mg "tuple" = none
  c_FEWEST_PERSONS : ∃ t, mg "FEWEST_PERSONS" = some (.int 2 t)
  c_MOST_BASE : ∃ t, mg "MOST_BASE" = some (.int 1000 t)
  c_MOST_DELAY : ∃ t, mg "MOST_DELAY" = some (.int 9 t)
  c_MOST_FORFEIT : ∃ t, mg "MOST_FORFEIT" = some (.int 1000000 t)
  c_MOST_PERSONS : ∃ t, mg "MOST_PERSONS" = some (.int 6 t)
  c_MOST_TRANSFERS : ∃ t, mg "MOST_TRANSFERS" = some (.int 10 t)
section
variable {P : Program} {w : World} {K : PySem.W.Frag} {mg : Str → Option Value} {base : Heap}
theorem a_law_mixed (F : Fx K mg) : At P w K mg base "_law_mixed" 1 2 f_law_mixed := by
  have nd := (c_law_mixed).nd
  show At P w K mg base _ _ _ (runD b_law_mixed 3)
  refine fnDn (k := 0) F.t_law_mixed c_law_mixed rfl rfl rfl fun f cdv A outer s H E hr => ?_
  have h : PSs (cxOf CX0 P w K mg base N_law_mixed "_law_mixed" (defScope s_law_mixed) f cdv A outer s H E).nox (defBody s_law_mixed) (tS K _) :=
    dss_cons (ds_set (i := 2) nd rfl (Or.inl rfl) (d_op op_addA od_addA (d_op op_addA od_addA (d_op op_mulA od_mulA (d_callT call_int1 cd_int rfl F.b_int bt_int (da_cons (d_var (i := 0)) (da_nil))) (d_int)) (d_op op_mulA od_mulA (d_var (i := 1)) (d_int))) (d_int))) (dss_one (ds_ret (d_op op_mod od_mod (d_callT call_int1 cd_int rfl F.b_int bt_int (da_cons (d_op op_addA od_addA (d_op op_mulA od_mulA (d_var (i := 2)) (d_int)) (d_op op_fdiv od_div (d_var (i := 2)) (d_int))) (da_nil))) (d_int))))
  exact h
theorem a_law_row (F : Fx K mg) : At P w K mg base "_law_row" 2 3 f_law_row := by
  have nd := (c_law_row).nd
  show At P w K mg base _ _ _ (runD b_law_row 7)
  refine fnDn (k := 1) F.t_law_row c_law_row rfl rfl rfl fun f cdv A outer s H E hr => ?_
  have h : PSs (cxOf CX0 P w K mg base N_law_row "_law_row" (defScope s_law_row) f cdv A outer s H E).nox (defBody s_law_row) (tS K _) :=
    dss_cons (ds_new (i := 3) nd rfl (Or.inl rfl) (d_lst (da_nil))) (dss_cons (ds_set (i := 4) nd rfl (Or.inl rfl) (d_callT call_int1 cd_int rfl F.b_int bt_int (da_cons (d_var (i := 0)) (da_nil)))) (dss_cons (ds_set (i := 5) nd rfl (Or.inl rfl) (d_cmp op_ge od_cmp (d_var (i := 4)) (d_int) (nomark _))) (dss_cons (ds_for PassesOwn.never rfl (di_rng1 rfl F.b_range (da_cons (d_var (i := 1)) (da_nil))) (dg_name (i := 6) nd rfl (Or.inl rfl)) (dss_one (ds_if (dt_truth (d_var (i := 5))) (dss_cons (ds_append (d_var (i := 3)) (d_op op_mod od_mod (d_callT call_int1 cd_int rfl F.b_int bt_int (da_cons (d_var (i := 4)) (da_nil))) (d_var (i := 2)))) (dss_one (ds_set (i := 4) nd rfl (Or.inl rfl) (d_op op_fdiv od_div (d_var (i := 4)) (d_var (i := 2)))))) (dss_one (ds_append (d_var (i := 3)) (d_op op_mod od_mod (d_op op_fdiv od_div (d_call (a_law_mixed F) hr (by decide) rfl (da_cons (d_var (i := 0)) (da_cons (d_var (i := 6)) (da_nil))) (len_cons (len_cons (len_nil)))) (d_int)) (d_var (i := 2)))))))) (dss_one (ds_ret (d_var (i := 3)))))))
  exact h
theorem a_law_web (F : Fx K mg) : At P w K mg base "_law_web" 3 2 f_law_web := by
  have nd := (c_law_web).nd
  show At P w K mg base _ _ _ (runD b_law_web 15)
  refine fnDn (k := 2) F.t_law_web c_law_web rfl rfl rfl fun f cdv A outer s H E hr => ?_
  have h : PSs (cxOf CX0 P w K mg base N_law_web "_law_web" (defScope s_law_web) f cdv A outer s H E).nox (defBody s_law_web) (tS K _) :=
    dss_cons (ds_set (i := 2) nd rfl (Or.inl rfl) (d_op op_addA od_addA (d_int) (d_ix (d_call (a_law_row F) hr (by decide) rfl (da_cons (d_var (i := 0)) (da_cons (d_int) (da_cons (d_int) (da_nil)))) (len_cons (len_cons (len_cons (len_nil))))) (d_int)))) (dss_cons (ds_set (i := 3) nd rfl (Or.inr rfl) (d_call (a_law_row F) hr (by decide) rfl (da_cons (d_op op_addA od_addA (d_op op_fdiv od_div (d_callT call_int1 cd_int rfl F.b_int bt_int (da_cons (d_var (i := 0)) (da_nil))) (d_int)) (d_int)) (da_cons (d_var (i := 2)) (da_cons (d_int) (da_nil)))) (len_cons (len_cons (len_cons (len_nil)))))) (dss_cons (ds_setLc (own := [("pair", 14)]) (i := 4) rfl nd rfl rfl (sw_true rfl rfl rfl (by decide +kernel)) (dj_seq (d_F (d_callBF (cr_sortD (hu64 hr)) cf_sorted rfl F.b_sorted bt_sorted (da_cons (d_F (d_comp (own := [("k", 10)]) rfl nd (dj_of (di_rng1 rfl F.b_range (da_cons (d_var (i := 2)) (da_nil)))) (blkOk_by (by kernel_rfl)) (fun _ _ _ _ _ => dg_name (i := 10) nd rfl (Or.inl rfl)) (fun _ _ _ _ _ => dts_nil) (fun _ _ _ _ _ => d_tup (da_cons (d_ix (d_var (i := 3)) (d_var (i := 10))) (da_cons (d_var (i := 10)) (da_nil)))))) (da_nil))))) (blkOk_by (by kernel_rfl)) (fun _ _ _ _ _ => dg_name (i := 14) nd rfl (Or.inl rfl)) (fun _ _ _ _ _ => dts_nil) (fun _ _ _ _ _ => d_ix (d_var (i := 14)) (d_int))) (dss_cons (ds_set (i := 5) nd rfl (Or.inl rfl) (d_call (a_law_row F) hr (by decide) rfl (da_cons (d_var (i := 1)) (da_cons (d_int) (da_cons (d_int) (da_nil)))) (len_cons (len_cons (len_cons (len_nil)))))) (dss_cons (ds_set (i := 6) nd rfl (Or.inl rfl) (d_F (d_lst (da_cons (d_var (i := 4)) (da_nil))))) (dss_cons (ds_if (dt_bool (dw_and (dt_cmp op_gt od_cmp (d_var (i := 2)) (d_int) (nomark _)) (dw_one (dt_cmp op_lt od_cmp (d_ix (d_var (i := 5)) (d_int)) (d_int) (nomark _))))) (dss_one (ds_set (i := 6) nd rfl (Or.inl rfl) (d_F (d_lst (da_cons (d_cutA (d_var (i := 4)) (do_none) (do_some (d_int))) (da_cons (d_cutA (d_var (i := 4)) (do_some (d_int)) (do_none)) (da_nil))))))) (dss_nil)) (dss_cons (ds_new (i := 7) nd rfl (Or.inl rfl) (d_lst (da_nil))) (dss_cons (ds_set (i := 8) nd rfl (Or.inl rfl) (d_int)) (dss_cons (ds_for PassesOwn.never rfl (di_seq (d_var (i := 6))) (dg_name (i := 9) nd rfl (Or.inl rfl)) (dss_one (ds_for PassesOwn.never rfl (di_rng1 rfl F.b_range (da_cons (d_callB call_len_seq cd_len rfl F.b_len bt_len (da_cons (d_var (i := 9)) (da_nil))) (da_nil))) (dg_name (i := 10) nd rfl (Or.inl rfl)) (dss_cons (ds_append (d_var (i := 7)) (d_tup (da_cons (d_ix (d_var (i := 9)) (d_op op_sub od_sub (d_var (i := 10)) (d_int))) (da_cons (d_ix (d_var (i := 9)) (d_var (i := 10))) (da_cons (d_op op_addA od_addA (d_int) (d_op op_mod od_mod (d_ix (d_var (i := 5)) (d_var (i := 8))) (d_int))) (da_nil)))))) (dss_one (ds_set (i := 8) nd rfl (Or.inl rfl) (d_op op_addA od_addA (d_var (i := 8)) (d_int)))))))) (dss_cons (ds_for PassesOwn.never rfl (di_rng1 rfl F.b_range (da_cons (d_op op_mod od_mod (d_ix (d_var (i := 5)) (d_int)) (d_int)) (da_nil))) (dg_name (i := 10) nd rfl (Or.inl rfl)) (dss_cons (ds_set (i := 11) nd rfl (Or.inl rfl) (d_op op_mod od_mod (d_ix (d_var (i := 5)) (d_op op_addA od_addA (d_int) (d_op op_mulA od_mulA (d_int) (d_var (i := 10))))) (d_var (i := 2)))) (dss_cons (ds_set (i := 12) nd rfl (Or.inl rfl) (d_op op_mod od_mod (d_callT call_int1 cd_int rfl F.b_int bt_int (da_cons (d_op op_addA od_addA (d_op op_addA od_addA (d_var (i := 11)) (d_int)) (d_op op_mod od_mod (d_ix (d_var (i := 5)) (d_op op_addA od_addA (d_int) (d_op op_mulA od_mulA (d_int) (d_var (i := 10))))) (d_op op_sub od_sub (d_var (i := 2)) (d_int)))) (da_nil))) (d_var (i := 2)))) (dss_cons (ds_set (i := 13) nd rfl (Or.inl rfl) (d_op op_mod od_mod (d_ix (d_var (i := 5)) (d_op op_addA od_addA (d_int) (d_op op_mulA od_mulA (d_int) (d_var (i := 10))))) (d_op op_addA od_addA (d_callB call_len_seq cd_len rfl F.b_len bt_len (da_cons (d_var (i := 7)) (da_nil))) (d_int)))) (dss_one (ds_insert (d_var (i := 7)) (d_var (i := 13)) (d_tup (da_cons (d_var (i := 11)) (da_cons (d_var (i := 12)) (da_cons (d_op op_addA od_addA (d_int) (d_op op_mod od_mod (d_ix (d_var (i := 5)) (d_op op_addA od_addA (d_int) (d_var (i := 10)))) (d_int))) (da_nil))))))))))) (dss_one (ds_ret (d_tup (da_cons (d_var (i := 2)) (da_cons (d_callT call_tuple_of cd_tuple rfl F.b_tuple bt_tuple (da_cons (d_var (i := 7)) (da_nil))) (da_nil)))))))))))))))
  exact h
theorem a_is_tuple_of (F : Fx K mg) : At P w K mg base "is_tuple_of" 1 2 f_is_tuple_of := by
  have nd := (c_is_tuple_of).nd
  show At P w K mg base _ _ _ (runD b_is_tuple_of 2)
  refine fnDn (k := 0) F.t_is_tuple_of c_is_tuple_of rfl rfl rfl fun f cdv A outer s H E hr => ?_
  have h : PSs (cxOf CX0 P w K mg base N_is_tuple_of "is_tuple_of" (defScope s_is_tuple_of) f cdv A outer s H E).nox (defBody s_is_tuple_of) (tS K _) :=
    dss_one (ds_ret (d_and (d_callB call_isi cd_isi rfl F.b_isinstance bt_isinstance (da_cons (d_var (i := 0)) (da_cons (d_ty rfl F.b_tuple bt_tuple) (da_nil)))) (d_one (d_cmp (op_eqD (hu64 hr)) od_eq (d_callB call_len_seq cd_len rfl F.b_len bt_len (da_cons (d_var (i := 0)) (da_nil))) (d_var (i := 1)) (nomark _)))))
  exact h
theorem a_is_integer (F : Fx K mg) : At P w K mg base "is_integer" 1 1 f_is_integer := by
  have nd := (c_is_integer).nd
  show At P w K mg base _ _ _ (runD b_is_integer 1)
  refine fnDn (k := 0) F.t_is_integer c_is_integer rfl rfl rfl fun f cdv A outer s H E hr => ?_
  have h : PSs (cxOf CX0 P w K mg base N_is_integer "is_integer" (defScope s_is_integer) f cdv A outer s H E).nox (defBody s_is_integer) (tS K _) :=
    dss_one (ds_ret (d_and (d_callB call_isi cd_isi rfl F.b_isinstance bt_isinstance (da_cons (d_var (i := 0)) (da_cons (d_ty rfl F.b_int bt_int) (da_nil)))) (d_one (d_not (d_callB call_isi cd_isi rfl F.b_isinstance bt_isinstance (da_cons (d_var (i := 0)) (da_cons (d_ty rfl F.b_bool bt_bool) (da_nil))))))))
  exact h
theorem a_is_between (F : Fx K mg) : At P w K mg base "is_between" 2 3 f_is_between := by
  have nd := (c_is_between).nd
  show At P w K mg base _ _ _ (runD b_is_between 3)
  refine fnDn (k := 1) F.t_is_between c_is_between rfl rfl rfl fun f cdv A outer s H E hr => ?_
  have h : PSs (cxOf CX0 P w K mg base N_is_between "is_between" (defScope s_is_between) f cdv A outer s H E).nox (defBody s_is_between) (tS K _) :=
    dss_one (ds_ret (d_and (d_call (a_is_integer F) hr (by decide) rfl (da_cons (d_var (i := 0)) (da_nil)) (len_cons (len_nil))) (d_one (d_chain op_le op_le od_cmp od_cmp (d_var (i := 1)) (d_var (i := 0)) (d_var (i := 2))))))
  exact h
theorem a_is_under (F : Fx K mg) : At P w K mg base "is_under" 2 2 f_is_under := by
  have nd := (c_is_under).nd
  show At P w K mg base _ _ _ (runD b_is_under 2)
  refine fnDn (k := 1) F.t_is_under c_is_under rfl rfl rfl fun f cdv A outer s H E hr => ?_
  have h : PSs (cxOf CX0 P w K mg base N_is_under "is_under" (defScope s_is_under) f cdv A outer s H E).nox (defBody s_is_under) (tS K _) :=
    dss_one (ds_ret (d_and (d_call (a_is_integer F) hr (by decide) rfl (da_cons (d_var (i := 0)) (da_nil)) (len_cons (len_nil))) (d_one (d_chain op_le op_lt od_cmp od_cmp (d_int) (d_var (i := 0)) (d_var (i := 1))))))
  exact h
theorem a_is_row (F : Fx K mg) : At P w K mg base "is_row" 3 2 f_is_row := by
  have nd := (c_is_row).nd
  show At P w K mg base _ _ _ (runD b_is_row 2)
  refine fnDn (k := 2) F.t_is_row c_is_row rfl rfl rfl fun f cdv A outer s H E hr => ?_
  have h : PSs (cxOf CX0 P w K mg base N_is_row "is_row" (defScope s_is_row) f cdv A outer s H E).nox (defBody s_is_row) (tS K _) :=
    dss_cons (ds_if (dt_bool (dw_or (dt_not (dt_truth (d_call (a_is_tuple_of F) hr (by decide) rfl (da_cons (d_var (i := 1)) (da_cons (d_int) (da_nil))) (len_cons (len_cons (len_nil)))))) (dw_or (dt_not (dt_truth (d_call (a_is_under F) hr (by decide) rfl (da_cons (d_ix (d_var (i := 1)) (d_int)) (da_cons (d_var (i := 0)) (da_nil))) (len_cons (len_cons (len_nil)))))) (dw_one (dt_not (dt_truth (d_call (a_is_under F) hr (by decide) rfl (da_cons (d_ix (d_var (i := 1)) (d_int)) (da_cons (d_var (i := 0)) (da_nil))) (len_cons (len_cons (len_nil)))))))))) (dss_one (ds_ret (d_bl))) (dss_nil)) (dss_one (ds_ret (d_and (d_cmp (op_neD (hu64 hr)) od_ne (d_ix (d_var (i := 1)) (d_int)) (d_ix (d_var (i := 1)) (d_int)) (nomark _)) (d_one (d_call (a_is_between F) hr (by decide) rfl (da_cons (d_ix (d_var (i := 1)) (d_int)) (da_cons (d_int) (da_cons (d_globI rfl F.c_MOST_DELAY) (da_nil)))) (len_cons (len_cons (len_cons (len_nil)))))))))
  exact h
theorem a_is_web (F : Fx K mg) : At P w K mg base "is_web" 4 1 f_is_web := by
  have nd := (c_is_web).nd
  show At P w K mg base _ _ _ (runD b_is_web 7)
  refine fnDn (k := 3) F.t_is_web c_is_web rfl rfl rfl fun f cdv A outer s H E hr => ?_
  have h : PSs (cxOf CX0 P w K mg base N_is_web "is_web" (defScope s_is_web) f cdv A outer s H E).nox (defBody s_is_web) (tS K _) :=
    dss_cons (ds_if (dt_bool (dw_or (dt_not (dt_truth (d_call (a_is_tuple_of F) hr (by decide) rfl (da_cons (d_var (i := 0)) (da_cons (d_int) (da_nil))) (len_cons (len_cons (len_nil)))))) (dw_one (dt_not (dt_truth (d_call (a_is_between F) hr (by decide) rfl (da_cons (d_ix (d_var (i := 0)) (d_int)) (da_cons (d_globI rfl F.c_FEWEST_PERSONS) (da_cons (d_globI rfl F.c_MOST_PERSONS) (da_nil)))) (len_cons (len_cons (len_cons (len_nil)))))))))) (dss_one (ds_ret (d_bl))) (dss_nil)) (dss_cons (ds_asg (d_var (i := 0)) (dg_tup (n := 2) rfl (dgs_cons (dg_name (i := 1) nd rfl (Or.inr rfl)) (dgs_cons (dg_name (i := 2) nd rfl (Or.inl rfl)) (dgs_nil))))) (dss_cons (ds_if (dt_bool (dw_or (dt_not (dt_truth (d_callB call_isi cd_isi rfl F.b_isinstance bt_isinstance (da_cons (d_var (i := 2)) (da_cons (d_ty rfl F.b_tuple bt_tuple) (da_nil)))))) (dw_one (dt_not (dt_chain op_le op_le od_cmp od_cmp (d_int) (d_callB call_len_seq cd_len rfl F.b_len bt_len (da_cons (d_var (i := 2)) (da_nil))) (d_globI rfl F.c_MOST_TRANSFERS)))))) (dss_one (ds_ret (d_bl))) (dss_nil)) (dss_cons (ds_if (dt_not (dt_truth (d_callB (cr_all rfl) cd_all rfl F.b_all bt_all (da_cons (d_F (d_comp (own := [("row", 5)]) rfl nd (dj_seq (d_var (i := 2))) (blkOk_by (by kernel_rfl)) (fun _ _ _ _ _ => dg_name (i := 5) nd rfl (Or.inl rfl)) (fun _ _ _ _ _ => dts_nil) (fun _ _ _ _ _ => d_call (a_is_row F) hr (by decide) rfl (da_cons (d_var (i := 1)) (da_cons (d_var (i := 5)) (da_nil))) (len_cons (len_cons (len_nil)))))) (da_nil))))) (dss_one (ds_ret (d_bl))) (dss_nil)) (dss_cons (ds_asg (d_tup (da_cons (d_F (d_comp (own := [("row", 5)]) rfl nd (dj_seq (d_var (i := 2))) (blkOk_by (by kernel_rfl)) (fun _ _ _ _ _ => dg_name (i := 5) nd rfl (Or.inl rfl)) (fun _ _ _ _ _ => dts_nil) (fun _ _ _ _ _ => d_ix (d_var (i := 5)) (d_int)))) (da_cons (d_F (d_comp (own := [("row", 5)]) rfl nd (dj_seq (d_var (i := 2))) (blkOk_by (by kernel_rfl)) (fun _ _ _ _ _ => dg_name (i := 5) nd rfl (Or.inl rfl)) (fun _ _ _ _ _ => dts_nil) (fun _ _ _ _ _ => d_ix (d_var (i := 5)) (d_int)))) (da_nil)))) (dg_tup (n := 2) rfl (dgs_cons (dg_name (i := 3) nd rfl (Or.inr rfl)) (dgs_cons (dg_name (i := 4) nd rfl (Or.inr rfl)) (dgs_nil))))) (dss_one (ds_ret (d_callB (cr_all rfl) cd_all rfl F.b_all bt_all (da_cons (d_F (d_comp (own := [("person", 6)]) rfl nd (dj_of (di_rng1 rfl F.b_range (da_cons (d_var (i := 1)) (da_nil)))) (blkOk_by (by kernel_rfl)) (fun _ _ _ _ _ => dg_name (i := 6) nd rfl (Or.inl rfl)) (fun _ _ _ _ _ => dts_nil) (fun _ _ _ _ _ => d_and (d_cmp (op_inQ (hu65 hr)) od_in (d_var (i := 6)) (d_var (i := 3)) rfl) (d_one (d_cmp (op_inQ (hu65 hr)) od_in (d_var (i := 6)) (d_var (i := 4)) rfl))))) (da_nil)))))))))
  exact h
theorem a_need_web (F : Fx K mg) : At P w K mg base "need_web" 5 1 f_need_web := by
  have nd := (c_need_web).nd
  show At P w K mg base _ _ _ (runD b_need_web 1)
  refine fnDn (k := 4) F.t_need_web c_need_web rfl rfl rfl fun f cdv A outer s H E hr => ?_
  have h : PSs (cxOf CX0 P w K mg base N_need_web "need_web" (defScope s_need_web) f cdv A outer s H E).nox (defBody s_need_web) (tS K _) :=
    dss_one (ds_if (dt_not (dt_truth (d_call (a_is_web F) hr (by decide) rfl (da_cons (d_var (i := 0)) (da_nil)) (len_cons (len_nil))))) (dss_one (ds_never)) (dss_nil))
  exact h
theorem a_need_person (F : Fx K mg) : At P w K mg base "need_person" 3 2 f_need_person := by
  have nd := (c_need_person).nd
  show At P w K mg base _ _ _ (runD b_need_person 2)
  refine fnDn (k := 2) F.t_need_person c_need_person rfl rfl rfl fun f cdv A outer s H E hr => ?_
  have h : PSs (cxOf CX0 P w K mg base N_need_person "need_person" (defScope s_need_person) f cdv A outer s H E).nox (defBody s_need_person) (tS K _) :=
    dss_one (ds_if (dt_not (dt_truth (d_call (a_is_under F) hr (by decide) rfl (da_cons (d_var (i := 1)) (da_cons (d_ix (d_var (i := 0)) (d_int)) (da_nil))) (len_cons (len_cons (len_nil)))))) (dss_one (ds_never)) (dss_nil))
  exact h
theorem a_need_base (F : Fx K mg) : At P w K mg base "need_base" 3 1 f_need_base := by
  have nd := (c_need_base).nd
  show At P w K mg base _ _ _ (runD b_need_base 1)
  refine fnDn (k := 2) F.t_need_base c_need_base rfl rfl rfl fun f cdv A outer s H E hr => ?_
  have h : PSs (cxOf CX0 P w K mg base N_need_base "need_base" (defScope s_need_base) f cdv A outer s H E).nox (defBody s_need_base) (tS K _) :=
    dss_one (ds_if (dt_not (dt_truth (d_call (a_is_between F) hr (by decide) rfl (da_cons (d_var (i := 0)) (da_cons (d_int) (da_cons (d_globI rfl F.c_MOST_BASE) (da_nil)))) (len_cons (len_cons (len_cons (len_nil))))))) (dss_one (ds_never)) (dss_nil))
  exact h
theorem a_need_case (F : Fx K mg) : At P w K mg base "need_case" 6 3 f_need_case := by
  have nd := (c_need_case).nd
  show At P w K mg base _ _ _ (runD b_need_case 3)
  refine fnDn (k := 5) F.t_need_case c_need_case rfl rfl rfl fun f cdv A outer s H E hr => ?_
  have h : PSs (cxOf CX0 P w K mg base N_need_case "need_case" (defScope s_need_case) f cdv A outer s H E).nox (defBody s_need_case) (tS K _) :=
    dss_cons (ds_expr (d_call (a_need_web F) hr (by decide) rfl (da_cons (d_var (i := 0)) (da_nil)) (len_cons (len_nil)))) (dss_cons (ds_expr (d_call (a_need_person F) hr (by decide) rfl (da_cons (d_var (i := 0)) (da_cons (d_var (i := 1)) (da_nil))) (len_cons (len_cons (len_nil))))) (dss_one (ds_expr (d_call (a_need_base F) hr (by decide) rfl (da_cons (d_var (i := 2)) (da_nil)) (len_cons (len_nil))))))
  exact h
theorem a_got_by (F : Fx K mg) : At P w K mg base "got_by" 1 2 f_got_by := by
  have nd := (c_got_by).nd
  show At P w K mg base _ _ _ (runD b_got_by 4)
  refine fnDn (k := 0) F.t_got_by c_got_by rfl rfl rfl fun f cdv A outer s H E hr => ?_
  have h : PSs (cxOf CX0 P w K mg base N_got_by "got_by" (defScope s_got_by) f cdv A outer s H E).nox (defBody s_got_by) (tS K _) :=
    dss_one (ds_ret (d_F (d_comp (own := [("number", 2), ("row", 3)]) rfl nd (dj_of (di_enum rfl F.b_enumerate (da_cons (d_ix (d_var (i := 0)) (d_int)) (da_nil)))) (blkOk_by (by kernel_rfl)) (fun _ _ _ _ _ => dg_tup (n := 2) rfl (dgs_cons (dg_name (i := 2) nd rfl (Or.inl rfl)) (dgs_cons (dg_name (i := 3) nd rfl (Or.inl rfl)) (dgs_nil)))) (fun _ _ _ _ _ => dts_one (dt_cmp (op_eqD (hu64 hr)) od_eq (d_ix (d_var (i := 3)) (d_int)) (d_var (i := 1)) (nomark _))) (fun _ _ _ _ _ => d_var (i := 2)))))
  exact h
theorem a_steps_to (F : Fx K mg) : At P w K mg base "steps_to" 2 2 f_steps_to := by
  have nd := (c_steps_to).nd
  show At P w K mg base _ _ _ (runD b_steps_to 8)
  refine fnDn (k := 1) F.t_steps_to c_steps_to rfl rfl rfl fun f cdv A outer s H E hr => ?_
  have h : PSs (cxOf CX0 P w K mg base N_steps_to "steps_to" (defScope s_steps_to) f cdv A outer s H E).nox (defBody s_steps_to) (tS K _) :=
    dss_cons (ds_newD1 (i := 2) nd rfl (Or.inl rfl) (d_var (i := 1)) (d_non)) (dss_cons (ds_new (i := 3) nd rfl (Or.inl rfl) (d_lst (da_cons (d_var (i := 1)) (da_nil)))) (dss_cons (ds_set (i := 4) nd rfl (Or.inl rfl) (d_int)) (dss_cons (ds_while PassesOwn.never (dt_cmp op_lt od_cmp (d_var (i := 4)) (d_callB call_len_seq cd_len rfl F.b_len bt_len (da_cons (d_var (i := 3)) (da_nil))) (nomark _)) (dss_cons (ds_set (i := 5) nd rfl (Or.inl rfl) (d_ix (d_var (i := 3)) (d_var (i := 4)))) (dss_cons (ds_aug (i := 4) nd rfl (Or.inl rfl) (d_int)) (dss_one (ds_for PassesOwn.never rfl (di_seq (d_call (a_got_by F) hr (by decide) rfl (da_cons (d_var (i := 0)) (da_cons (d_var (i := 5)) (da_nil))) (len_cons (len_cons (len_nil))))) (dg_name (i := 6) nd rfl (Or.inl rfl)) (dss_cons (ds_set (i := 7) nd rfl (Or.inl rfl) (d_ix (d_ix (d_ix (d_var (i := 0)) (d_int)) (d_var (i := 6))) (d_int))) (dss_one (ds_if (dt_dnotin (hu1 hr) (d_var (i := 7)) (d_var (i := 2))) (dss_cons (ds_dput (hu1 hr) (d_var (i := 6)) (d_var (i := 2)) (d_var (i := 7))) (dss_one (ds_append (d_var (i := 3)) (d_var (i := 7))))) (dss_nil))))))))) (dss_one (ds_ret (d_var (i := 2)))))))
  exact h
theorem a_shut_in (F : Fx K mg) : At P w K mg base "shut_in" 1 2 f_shut_in := by
  have nd := (c_shut_in).nd
  show At P w K mg base _ _ _ (runD b_shut_in 3)
  refine fnDn (k := 0) F.t_shut_in c_shut_in rfl rfl rfl fun f cdv A outer s H E hr => ?_
  have h : PSs (cxOf CX0 P w K mg base N_shut_in "shut_in" (defScope s_shut_in) f cdv A outer s H E).nox (defBody s_shut_in) (tS K _) :=
    dss_one (ds_ret (d_callT call_tuple_of cd_tuple rfl F.b_tuple bt_tuple (da_cons (d_F (d_comp (own := [("person", 2)]) rfl nd (dj_of (di_rng1 rfl F.b_range (da_cons (d_ix (d_var (i := 0)) (d_int)) (da_nil)))) (blkOk_by (by kernel_rfl)) (fun _ _ _ _ _ => dg_name (i := 2) nd rfl (Or.inl rfl)) (fun _ _ _ _ _ => dts_one (dt_dnotin (hu1 hr) (d_var (i := 2)) (d_var (i := 1)))) (fun _ _ _ _ _ => d_var (i := 2)))) (da_nil))))
  exact h
theorem a_amounts_by (F : Fx K mg) : At P w K mg base "amounts_by" 1 3 f_amounts_by := by
  have nd := (c_amounts_by).nd
  show At P w K mg base _ _ _ (runD b_amounts_by 5)
  refine fnDn (k := 0) F.t_amounts_by c_amounts_by rfl rfl rfl fun f cdv A outer s H E hr => ?_
  have h : PSs (cxOf CX0 P w K mg base N_amounts_by "amounts_by" (defScope s_amounts_by) f cdv A outer s H E).nox (defBody s_amounts_by) (tS K _) :=
    dss_one (ds_ret (d_callT call_tuple_of cd_tuple rfl F.b_tuple bt_tuple (da_cons (d_F (d_comp (own := [("number", 3)]) rfl nd (dj_of (di_rng1 rfl F.b_range (da_cons (d_callB call_len_seq cd_len rfl F.b_len bt_len (da_cons (d_ix (d_var (i := 0)) (d_int)) (da_nil))) (da_nil)))) (blkOk_by (by kernel_rfl)) (fun _ _ _ _ _ => dg_name (i := 3) nd rfl (Or.inr rfl)) (fun _ _ _ _ _ => dts_nil) (fun _ _ _ _ _ => d_op op_mulA od_mulA (d_var (i := 1)) (d_callB call_len_seq cd_len rfl F.b_len bt_len (da_cons (d_F (d_comp (own := [("way", 4)]) rfl nd (dj_seq (d_var (i := 2))) (blkOk_by (by kernel_rfl)) (fun _ _ _ _ _ => dg_name (i := 4) nd rfl (Or.inl rfl)) (fun _ _ _ _ _ => dts_one (dt_cmp (op_inQ (hu65 hr)) od_in (d_var (i := 3)) (d_var (i := 4)) rfl)) (fun _ _ _ _ _ => d_var (i := 4)))) (da_nil)))))) (da_nil))))
  exact h
theorem a_way_on (F : Fx K mg) : At P w K mg base "way_on" 1 3 f_way_on := by
  have nd := (c_way_on).nd
  show At P w K mg base _ _ _ (runD b_way_on 5)
  refine fnDn (k := 0) F.t_way_on c_way_on rfl rfl rfl fun f cdv A outer s H E hr => ?_
  have h : PSs (cxOf CX0 P w K mg base N_way_on "way_on" (defScope s_way_on) f cdv A outer s H E).nox (defBody s_way_on) (tS K _) :=
    dss_cons (ds_new (i := 3) nd rfl (Or.inl rfl) (d_lst (da_cons (d_var (i := 2)) (da_nil)))) (dss_cons (ds_set (i := 4) nd rfl (Or.inl rfl) (d_ix (d_ix (d_ix (d_var (i := 0)) (d_int)) (d_var (i := 2))) (d_int))) (dss_cons (ds_while PassesOwn.never (dt_cmp op_notN od_notN (d_dget (hu1 hr) (d_var (i := 1)) (d_var (i := 4))) (d_non) (nomark _)) (dss_cons (ds_append (d_var (i := 3)) (d_dget (hu1 hr) (d_var (i := 1)) (d_var (i := 4)))) (dss_one (ds_set (i := 4) nd rfl (Or.inl rfl) (d_ix (d_ix (d_ix (d_var (i := 0)) (d_int)) (d_dget (hu1 hr) (d_var (i := 1)) (d_var (i := 4)))) (d_int)))))) (dss_one (ds_ret (d_callT call_tuple_of cd_tuple rfl F.b_tuple bt_tuple (da_cons (d_var (i := 3)) (da_nil)))))))
  exact h
theorem a_forfeits (F : Fx K mg) : At P w K mg base "forfeits" 7 3 f_forfeits := by
  have nd := (c_forfeits).nd
  show At P w K mg base _ _ _ (runD b_forfeits 6)
  refine fnDn (k := 6) F.t_forfeits c_forfeits rfl rfl rfl fun f cdv A outer s H E hr => ?_
  have h : PSs (cxOf CX0 P w K mg base N_forfeits "forfeits" (defScope s_forfeits) f cdv A outer s H E).nox (defBody s_forfeits) (tS K _) :=
    dss_cons (ds_expr (d_call (a_need_case F) hr (by decide) rfl (da_cons (d_var (i := 0)) (da_cons (d_var (i := 1)) (da_cons (d_var (i := 2)) (da_nil)))) (len_cons (len_cons (len_cons (len_nil)))))) (dss_cons (ds_set (i := 3) nd rfl (Or.inr rfl) (d_call (a_steps_to F) hr (by decide) rfl (da_cons (d_var (i := 0)) (da_cons (d_var (i := 1)) (da_nil))) (len_cons (len_cons (len_nil))))) (dss_cons (ds_if (dt_truth (d_call (a_shut_in F) hr (by decide) rfl (da_cons (d_var (i := 0)) (da_cons (d_var (i := 3)) (da_nil))) (len_cons (len_cons (len_nil))))) (dss_one (ds_ret (d_tup (da_cons (d_str) (da_cons (d_call (a_shut_in F) hr (by decide) rfl (da_cons (d_var (i := 0)) (da_cons (d_var (i := 3)) (da_nil))) (len_cons (len_cons (len_nil)))) (da_nil)))))) (dss_nil)) (dss_cons (ds_set (i := 4) nd rfl (Or.inl rfl) (d_callT call_tuple_of cd_tuple rfl F.b_tuple bt_tuple (da_cons (d_F (d_comp (own := [("number", 5)]) rfl nd (dj_of (di_rng1 rfl F.b_range (da_cons (d_callB call_len_seq cd_len rfl F.b_len bt_len (da_cons (d_ix (d_var (i := 0)) (d_int)) (da_nil))) (da_nil)))) (blkOk_by (by kernel_rfl)) (fun _ _ _ _ _ => dg_name (i := 5) nd rfl (Or.inl rfl)) (fun _ _ _ _ _ => dts_nil) (fun _ _ _ _ _ => d_call (a_way_on F) hr (by decide) rfl (da_cons (d_var (i := 0)) (da_cons (d_var (i := 3)) (da_cons (d_var (i := 5)) (da_nil)))) (len_cons (len_cons (len_cons (len_nil))))))) (da_nil)))) (dss_one (ds_ret (d_tup (da_cons (d_str) (da_cons (d_var (i := 4)) (da_cons (d_call (a_amounts_by F) hr (by decide) rfl (da_cons (d_var (i := 0)) (da_cons (d_var (i := 2)) (da_cons (d_var (i := 4)) (da_nil)))) (len_cons (len_cons (len_cons (len_nil))))) (da_nil))))))))))
  exact h
theorem a_law_gets (F : Fx K mg) : At P w K mg base "_law_gets" 1 2 f_law_gets := by
  have nd := (c_law_gets).nd
  show At P w K mg base _ _ _ (runD b_law_gets 3)
  refine fnDn (k := 0) F.t_law_gets c_law_gets rfl rfl rfl fun f cdv A outer s H E hr => ?_
  have h : PSs (cxOf CX0 P w K mg base N_law_gets "_law_gets" (defScope s_law_gets) f cdv A outer s H E).nox (defBody s_law_gets) (tS K _) :=
    dss_one (ds_ret (d_F (d_comp (own := [("k", 2)]) rfl nd (dj_of (di_rng1 rfl F.b_range (da_cons (d_callB call_len_seq cd_len rfl F.b_len bt_len (da_cons (d_ix (d_var (i := 0)) (d_int)) (da_nil))) (da_nil)))) (blkOk_by (by kernel_rfl)) (fun _ _ _ _ _ => dg_name (i := 2) nd rfl (Or.inl rfl)) (fun _ _ _ _ _ => dts_one (dt_cmp (op_eqD (hu64 hr)) od_eq (d_ix (d_ix (d_ix (d_var (i := 0)) (d_int)) (d_var (i := 2))) (d_int)) (d_var (i := 1)) (nomark _))) (fun _ _ _ _ _ => d_var (i := 2)))))
  exact h
theorem a_law_steps (F : Fx K mg) : At P w K mg base "_law_steps" 2 2 f_law_steps := by
  have nd := (c_law_steps).nd
  show At P w K mg base _ _ _ (runD b_law_steps 6)
  refine fnDn (k := 1) F.t_law_steps c_law_steps rfl rfl rfl fun f cdv A outer s H E hr => ?_
  have h : PSs (cxOf CX0 P w K mg base N_law_steps "_law_steps" (defScope s_law_steps) f cdv A outer s H E).nox (defBody s_law_steps) (tS K _) :=
    dss_cons (ds_newD1 (i := 2) nd rfl (Or.inl rfl) (d_var (i := 1)) (d_non)) (dss_cons (ds_new (i := 3) nd rfl (Or.inl rfl) (d_lst (da_cons (d_var (i := 1)) (da_nil)))) (dss_cons (ds_set (i := 4) nd rfl (Or.inl rfl) (d_int)) (dss_cons (ds_while PassesOwn.never (dt_cmp op_lt od_cmp (d_var (i := 4)) (d_callB call_len_seq cd_len rfl F.b_len bt_len (da_cons (d_var (i := 3)) (da_nil))) (nomark _)) (dss_cons (ds_for PassesOwn.never rfl (di_seq (d_call (a_law_gets F) hr (by decide) rfl (da_cons (d_var (i := 0)) (da_cons (d_ix (d_var (i := 3)) (d_var (i := 4))) (da_nil))) (len_cons (len_cons (len_nil))))) (dg_name (i := 5) nd rfl (Or.inl rfl)) (dss_one (ds_if (dt_dnotin (hu1 hr) (d_ix (d_ix (d_ix (d_var (i := 0)) (d_int)) (d_var (i := 5))) (d_int)) (d_var (i := 2))) (dss_cons (ds_dput (hu1 hr) (d_var (i := 5)) (d_var (i := 2)) (d_ix (d_ix (d_ix (d_var (i := 0)) (d_int)) (d_var (i := 5))) (d_int))) (dss_one (ds_append (d_var (i := 3)) (d_ix (d_ix (d_ix (d_var (i := 0)) (d_int)) (d_var (i := 5))) (d_int))))) (dss_nil)))) (dss_one (ds_set (i := 4) nd rfl (Or.inl rfl) (d_op op_addA od_addA (d_var (i := 4)) (d_int)))))) (dss_one (ds_ret (d_var (i := 2)))))))
  exact h
theorem a_law_amounts (F : Fx K mg) : At P w K mg base "_law_amounts" 3 5 f_law_amounts := by
  have nd := (c_law_amounts).nd
  show At P w K mg base _ _ _ (runD b_law_amounts 10)
  refine fnDn (k := 2) F.t_law_amounts c_law_amounts rfl rfl rfl fun f cdv A outer s H E hr => ?_
  have h : PSs (cxOf CX0 P w K mg base N_law_amounts "_law_amounts" (defScope s_law_amounts) f cdv A outer s H E).nox (defBody s_law_amounts) (tS K _) :=
    dss_cons (ds_set (i := 5) nd rfl (Or.inr rfl) (d_call (a_law_row F) hr (by decide) rfl (da_cons (d_var (i := 0)) (da_cons (d_int) (da_cons (d_int) (da_nil)))) (len_cons (len_cons (len_cons (len_nil)))))) (dss_cons (ds_set (i := 6) nd rfl (Or.inl rfl) (d_call (a_law_steps F) hr (by decide) rfl (da_cons (d_var (i := 2)) (da_cons (d_var (i := 3)) (da_nil))) (len_cons (len_cons (len_nil))))) (dss_cons (ds_new (i := 7) nd rfl (Or.inr rfl) (d_comp (own := [("k", 8)]) rfl nd (dj_of (di_rng1 rfl F.b_range (da_cons (d_callB call_len_seq cd_len rfl F.b_len bt_len (da_cons (d_ix (d_var (i := 2)) (d_int)) (da_nil))) (da_nil)))) (blkOk_by (by kernel_rfl)) (fun _ _ _ _ _ => dg_name (i := 8) nd rfl (Or.inl rfl)) (fun _ _ _ _ _ => dts_nil) (fun _ _ _ _ _ => d_ix (d_var (i := 5)) (d_var (i := 8))))) (dss_cons (ds_if (dt_bool (dw_and (dt_cmp op_lt od_cmp (d_ix (d_var (i := 5)) (d_int)) (d_int) (nomark _)) (dw_one (dt_cmp (op_eqD (hu64 hr)) od_eq (d_callB call_lenK cd_lenK rfl F.b_len bt_len (da_cons (d_var (i := 6)) (da_nil))) (d_ix (d_var (i := 2)) (d_int)) (nomark _))))) (dss_cons (ds_new (i := 7) nd rfl (Or.inr rfl) (d_comp (own := [("k", 8)]) rfl nd (dj_seq (d_var (i := 7))) (blkOk_by (by kernel_rfl)) (fun _ _ _ _ _ => dg_name (i := 8) nd rfl (Or.inl rfl)) (fun _ _ _ _ _ => dts_nil) (fun _ _ _ _ _ => d_var (i := 4)))) (dss_cons (ds_for PassesOwn.never rfl (di_rng1 rfl F.b_range (da_cons (d_callB call_len_seq cd_len rfl F.b_len bt_len (da_cons (d_ix (d_var (i := 2)) (d_int)) (da_nil))) (da_nil))) (dg_name (i := 8) nd rfl (Or.inl rfl)) (dss_cons (ds_set (i := 9) nd rfl (Or.inl rfl) (d_ix (d_ix (d_ix (d_var (i := 2)) (d_int)) (d_var (i := 8))) (d_int))) (dss_one (ds_while PassesOwn.never (dt_cmp op_notN od_notN (d_dget (hu1 hr) (d_var (i := 6)) (d_var (i := 9))) (d_non) (nomark _)) (dss_cons (ds_put (d_op op_addA od_addA (d_ix (d_var (i := 7)) (d_dget (hu1 hr) (d_var (i := 6)) (d_var (i := 9)))) (d_var (i := 4))) (d_var (i := 7)) (d_dget (hu1 hr) (d_var (i := 6)) (d_var (i := 9)))) (dss_one (ds_set (i := 9) nd rfl (Or.inl rfl) (d_ix (d_ix (d_ix (d_var (i := 2)) (d_int)) (d_dget (hu1 hr) (d_var (i := 6)) (d_var (i := 9)))) (d_int))))))))) (dss_cons (ds_new (i := 7) nd rfl (Or.inr rfl) (d_comp (own := [("k", 8)]) rfl nd (dj_of (di_rng1 rfl F.b_range (da_cons (d_callB call_len_seq cd_len rfl F.b_len bt_len (da_cons (d_var (i := 7)) (da_nil))) (da_nil)))) (blkOk_by (by kernel_rfl)) (fun _ _ _ _ _ => dg_name (i := 8) nd rfl (Or.inl rfl)) (fun _ _ _ _ _ => dts_nil) (fun _ _ _ _ _ => d_op op_addA od_addA (d_ix (d_var (i := 7)) (d_var (i := 8))) (d_op op_mulA od_mulA (d_op op_fdiv od_div (d_ix (d_var (i := 5)) (d_var (i := 8))) (d_int)) (d_callT call_int1 cd_int rfl F.b_int bt_int (da_cons (d_cmp op_lt od_cmp (d_ix (d_var (i := 5)) (d_int)) (d_int) (nomark _)) (da_nil))))))) (dss_one (ds_if (dt_cmp op_lt od_cmp (d_ix (d_var (i := 5)) (d_int)) (d_int) (nomark _)) (dss_one (ds_put (d_callB (call_max2 rfl) cd_max2 rfl F.b_max bt_max (da_cons (d_int) (da_cons (d_op op_sub od_sub (d_ix (d_var (i := 7)) (d_op op_mod od_mod (d_ix (d_var (i := 5)) (d_int)) (d_callB call_len_seq cd_len rfl F.b_len bt_len (da_cons (d_var (i := 7)) (da_nil))))) (d_int)) (da_nil)))) (d_var (i := 7)) (d_op op_mod od_mod (d_ix (d_var (i := 5)) (d_int)) (d_callB call_len_seq cd_len rfl F.b_len bt_len (da_cons (d_var (i := 7)) (da_nil)))))) (dss_nil)))))) (dss_nil)) (dss_one (ds_ret (d_callT call_tuple_of cd_tuple rfl F.b_tuple bt_tuple (da_cons (d_var (i := 7)) (da_nil))))))))
  exact h
theorem a_law_lot (F : Fx K mg) : At P w K mg base "_law_lot" 3 2 f_law_lot := by
  have nd := (c_law_lot).nd
  show At P w K mg base _ _ _ (runD b_law_lot 4)
  refine fnDn (k := 2) F.t_law_lot c_law_lot rfl rfl rfl fun f cdv A outer s H E hr => ?_
  have h : PSs (cxOf CX0 P w K mg base N_law_lot "_law_lot" (defScope s_law_lot) f cdv A outer s H E).nox (defBody s_law_lot) (tS K _) :=
    dss_cons (ds_set (i := 2) nd rfl (Or.inr rfl) (d_call (a_law_row F) hr (by decide) rfl (da_cons (d_var (i := 0)) (da_cons (d_var (i := 1)) (da_cons (d_int) (da_nil)))) (len_cons (len_cons (len_cons (len_nil)))))) (dss_one (ds_ret (d_callT call_tuple_of cd_tuple rfl F.b_tuple bt_tuple (da_cons (d_F (d_comp (own := [("k", 3)]) rfl nd (dj_of (di_rng1 rfl F.b_range (da_cons (d_var (i := 1)) (da_nil)))) (blkOk_by (by kernel_rfl)) (fun _ _ _ _ _ => dg_name (i := 3) nd rfl (Or.inl rfl)) (fun _ _ _ _ _ => dts_one (dt_cmp (op_eqD (hu64 hr)) od_eq (d_ix (d_var (i := 2)) (d_var (i := 3))) (d_int) (nomark _))) (fun _ _ _ _ _ => d_var (i := 3)))) (da_nil)))))
  exact h
theorem a_law_at (F : Fx K mg) : At P w K mg base "_law_at" 1 2 f_law_at := by
  have nd := (c_law_at).nd
  show At P w K mg base _ _ _ (runD b_law_at 2)
  refine fnDn (k := 0) F.t_law_at c_law_at rfl rfl rfl fun f cdv A outer s H E hr => ?_
  have h : PSs (cxOf CX0 P w K mg base N_law_at "_law_at" (defScope s_law_at) f cdv A outer s H E).nox (defBody s_law_at) (tS K _) :=
    dss_cons (ds_if (dt_cmp op_lt od_cmp (d_var (i := 1)) (d_callB call_len_seq cd_len rfl F.b_len bt_len (da_cons (d_var (i := 0)) (da_nil))) (nomark _)) (dss_one (ds_ret (d_callT call_int1 cd_int rfl F.b_int bt_int (da_cons (d_ix (d_var (i := 0)) (d_var (i := 1))) (da_nil))))) (dss_nil)) (dss_one (ds_ret (d_op op_addA od_addA (d_int) (d_op op_mulA od_mulA (d_int) (d_var (i := 1))))))
  exact h
theorem a_are_amounts (F : Fx K mg) : At P w K mg base "are_amounts" 3 2 f_are_amounts := by
  have nd := (c_are_amounts).nd
  show At P w K mg base _ _ _ (runD b_are_amounts 3)
  refine fnDn (k := 2) F.t_are_amounts c_are_amounts rfl rfl rfl fun f cdv A outer s H E hr => ?_
  have h : PSs (cxOf CX0 P w K mg base N_are_amounts "are_amounts" (defScope s_are_amounts) f cdv A outer s H E).nox (defBody s_are_amounts) (tS K _) :=
    dss_cons (ds_if (dt_not (dt_truth (d_call (a_is_tuple_of F) hr (by decide) rfl (da_cons (d_var (i := 1)) (da_cons (d_callB call_len_seq cd_len rfl F.b_len bt_len (da_cons (d_ix (d_var (i := 0)) (d_int)) (da_nil))) (da_nil))) (len_cons (len_cons (len_nil)))))) (dss_one (ds_ret (d_bl))) (dss_nil)) (dss_one (ds_ret (d_callB (cr_all rfl) cd_all rfl F.b_all bt_all (da_cons (d_F (d_comp (own := [("one", 2)]) rfl nd (dj_seq (d_var (i := 1))) (blkOk_by (by kernel_rfl)) (fun _ _ _ _ _ => dg_name (i := 2) nd rfl (Or.inl rfl)) (fun _ _ _ _ _ => dts_nil) (fun _ _ _ _ _ => d_call (a_is_between F) hr (by decide) rfl (da_cons (d_var (i := 2)) (da_cons (d_int) (da_cons (d_globI rfl F.c_MOST_FORFEIT) (da_nil)))) (len_cons (len_cons (len_cons (len_nil))))))) (da_nil)))))
  exact h
theorem a_given_by (F : Fx K mg) : At P w K mg base "given_by" 1 2 f_given_by := by
  have nd := (c_given_by).nd
  show At P w K mg base _ _ _ (runD b_given_by 4)
  refine fnDn (k := 0) F.t_given_by c_given_by rfl rfl rfl fun f cdv A outer s H E hr => ?_
  have h : PSs (cxOf CX0 P w K mg base N_given_by "given_by" (defScope s_given_by) f cdv A outer s H E).nox (defBody s_given_by) (tS K _) :=
    dss_one (ds_ret (d_F (d_comp (own := [("number", 2), ("row", 3)]) rfl nd (dj_of (di_enum rfl F.b_enumerate (da_cons (d_ix (d_var (i := 0)) (d_int)) (da_nil)))) (blkOk_by (by kernel_rfl)) (fun _ _ _ _ _ => dg_tup (n := 2) rfl (dgs_cons (dg_name (i := 2) nd rfl (Or.inl rfl)) (dgs_cons (dg_name (i := 3) nd rfl (Or.inl rfl)) (dgs_nil)))) (fun _ _ _ _ _ => dts_one (dt_cmp (op_eqD (hu64 hr)) od_eq (d_ix (d_var (i := 3)) (d_int)) (d_var (i := 1)) (nomark _))) (fun _ _ _ _ _ => d_var (i := 2)))))
  exact h
theorem a_net_of (F : Fx K mg) : At P w K mg base "net_of" 2 4 f_net_of := by
  have nd := (c_net_of).nd
  show At P w K mg base _ _ _ (runD b_net_of 6)
  refine fnDn (k := 1) F.t_net_of c_net_of rfl rfl rfl fun f cdv A outer s H E hr => ?_
  have h : PSs (cxOf CX0 P w K mg base N_net_of "net_of" (defScope s_net_of) f cdv A outer s H E).nox (defBody s_net_of) (tS K _) :=
    dss_cons (ds_set (i := 4) nd rfl (Or.inl rfl) (d_callB (cr_sum rfl) cd_sum rfl F.b_sum bt_sum (da_cons (d_F (d_comp (own := [("number", 5)]) rfl nd (dj_seq (d_call (a_given_by F) hr (by decide) rfl (da_cons (d_var (i := 0)) (da_cons (d_var (i := 2)) (da_nil))) (len_cons (len_cons (len_nil))))) (blkOk_by (by kernel_rfl)) (fun _ _ _ _ _ => dg_name (i := 5) nd rfl (Or.inl rfl)) (fun _ _ _ _ _ => dts_one (dt_cmp (op_ninQ (hu65 hr)) od_in (d_var (i := 5)) (d_var (i := 3)) rfl)) (fun _ _ _ _ _ => d_ix (d_var (i := 1)) (d_var (i := 5))))) (da_nil)))) (dss_one (ds_ret (d_op op_sub od_sub (d_var (i := 4)) (d_callB (cr_sum rfl) cd_sum rfl F.b_sum bt_sum (da_cons (d_F (d_comp (own := [("number", 5)]) rfl nd (dj_seq (d_call (a_got_by F) hr (by decide) rfl (da_cons (d_var (i := 0)) (da_cons (d_var (i := 2)) (da_nil))) (len_cons (len_cons (len_nil))))) (blkOk_by (by kernel_rfl)) (fun _ _ _ _ _ => dg_name (i := 5) nd rfl (Or.inl rfl)) (fun _ _ _ _ _ => dts_one (dt_cmp (op_ninQ (hu65 hr)) od_in (d_var (i := 5)) (d_var (i := 3)) rfl)) (fun _ _ _ _ _ => d_ix (d_var (i := 1)) (d_var (i := 5))))) (da_nil))))))
  exact h
theorem a_due_of (F : Fx K mg) : At P w K mg base "due_of" 2 4 f_due_of := by
  have nd := (c_due_of).nd
  show At P w K mg base _ _ _ (runD b_due_of 5)
  refine fnDn (k := 1) F.t_due_of c_due_of rfl rfl rfl fun f cdv A outer s H E hr => ?_
  have h : PSs (cxOf CX0 P w K mg base N_due_of "due_of" (defScope s_due_of) f cdv A outer s H E).nox (defBody s_due_of) (tS K _) :=
    dss_one (ds_ret (d_op op_mulA od_mulA (d_var (i := 1)) (d_callB call_len_seq cd_len rfl F.b_len bt_len (da_cons (d_F (d_comp (own := [("number", 4)]) rfl nd (dj_seq (d_call (a_given_by F) hr (by decide) rfl (da_cons (d_var (i := 0)) (da_cons (d_var (i := 2)) (da_nil))) (len_cons (len_cons (len_nil))))) (blkOk_by (by kernel_rfl)) (fun _ _ _ _ _ => dg_name (i := 4) nd rfl (Or.inl rfl)) (fun _ _ _ _ _ => dts_one (dt_cmp (op_ninQ (hu65 hr)) od_in (d_var (i := 4)) (d_var (i := 3)) rfl)) (fun _ _ _ _ _ => d_var (i := 4)))) (da_nil)))))
  exact h
theorem a_short_at (F : Fx K mg) : At P w K mg base "short_at" 3 4 f_short_at := by
  have nd := (c_short_at).nd
  show At P w K mg base _ _ _ (runD b_short_at 10)
  refine fnDn (k := 2) F.t_short_at c_short_at rfl rfl rfl fun f cdv A outer s H E hr => ?_
  have h : PSs (cxOf CX0 P w K mg base N_short_at "short_at" (defScope s_short_at) f cdv A outer s H E).nox (defBody s_short_at) (tS K _) :=
    dss_cons (ds_set (i := 4) nd rfl (Or.inl rfl) (d_F (d_lstRg1 rfl rfl F.b_list rfl F.b_range (d_callB call_len_seq cd_len rfl F.b_len bt_len (da_cons (d_ix (d_var (i := 0)) (d_int)) (da_nil)))))) (dss_cons (ds_for PassesOwn.never rfl (di_rng1 rfl F.b_range (da_cons (d_ix (d_var (i := 0)) (d_int)) (da_nil))) (dg_name (i := 5) nd rfl (Or.inl rfl)) (dss_cons (ds_set (i := 6) nd rfl (Or.inl rfl) (d_call (a_given_by F) hr (by decide) rfl (da_cons (d_var (i := 0)) (da_cons (d_var (i := 5)) (da_nil))) (len_cons (len_cons (len_nil))))) (dss_cons (ds_for PassesOwn.never rfl (di_seq (d_var (i := 6))) (dg_name (i := 7) nd rfl (Or.inr rfl)) (dss_one (ds_if (dt_cmp op_lt od_cmp (d_ix (d_var (i := 3)) (d_var (i := 7))) (d_var (i := 2)) (nomark _)) (dss_one (ds_ret (d_tup (da_cons (d_var (i := 5)) (da_cons (d_callT call_tuple_of cd_tuple rfl F.b_tuple bt_tuple (da_cons (d_F (d_comp (own := [("one", 9)]) rfl nd (dj_seq (d_var (i := 4))) (blkOk_by (by kernel_rfl)) (fun _ _ _ _ _ => dg_name (i := 9) nd rfl (Or.inl rfl)) (fun _ _ _ _ _ => dts_one (dt_cmp (op_neD (hu64 hr)) od_ne (d_var (i := 9)) (d_var (i := 7)) (nomark _))) (fun _ _ _ _ _ => d_var (i := 9)))) (da_nil))) (da_nil)))))) (dss_nil)))) (dss_one (ds_if (dt_cmp (op_neD (hu64 hr)) od_ne (d_var (i := 5)) (d_var (i := 1)) (nomark _)) (dss_cons (ds_set (i := 8) nd rfl (Or.inl rfl) (d_tup (da_nil))) (dss_one (ds_if (dt_cmp op_lt od_cmp (d_call (a_net_of F) hr (by decide) rfl (da_cons (d_var (i := 0)) (da_cons (d_var (i := 3)) (da_cons (d_var (i := 5)) (da_cons (d_var (i := 8)) (da_nil))))) (len_cons (len_cons (len_cons (len_cons (len_nil)))))) (d_call (a_due_of F) hr (by decide) rfl (da_cons (d_var (i := 0)) (da_cons (d_var (i := 2)) (da_cons (d_var (i := 5)) (da_cons (d_var (i := 8)) (da_nil))))) (len_cons (len_cons (len_cons (len_cons (len_nil)))))) (nomark _)) (dss_one (ds_ret (d_tup (da_cons (d_var (i := 5)) (da_cons (d_var (i := 8)) (da_nil)))))) (dss_nil)))) (dss_nil)))))) (dss_one (ds_ret (d_non))))
  exact h
theorem a_is_forfeits (F : Fx K mg) : At P w K mg base "is_forfeits" 7 4 f_is_forfeits := by
  have nd := (c_is_forfeits).nd
  show At P w K mg base _ _ _ (runD b_is_forfeits 4)
  refine fnDn (k := 6) F.t_is_forfeits c_is_forfeits rfl rfl rfl fun f cdv A outer s H E hr => ?_
  have h : PSs (cxOf CX0 P w K mg base N_is_forfeits "is_forfeits" (defScope s_is_forfeits) f cdv A outer s H E).nox (defBody s_is_forfeits) (tS K _) :=
    dss_cons (ds_expr (d_call (a_need_case F) hr (by decide) rfl (da_cons (d_var (i := 0)) (da_cons (d_var (i := 1)) (da_cons (d_var (i := 2)) (da_nil)))) (len_cons (len_cons (len_cons (len_nil)))))) (dss_one (ds_ret (d_and (d_call (a_are_amounts F) hr (by decide) rfl (da_cons (d_var (i := 0)) (da_cons (d_var (i := 3)) (da_nil))) (len_cons (len_cons (len_nil)))) (d_one (d_cmp op_isN od_isN (d_call (a_short_at F) hr (by decide) rfl (da_cons (d_var (i := 0)) (da_cons (d_var (i := 1)) (da_cons (d_var (i := 2)) (da_cons (d_var (i := 3)) (da_nil))))) (len_cons (len_cons (len_cons (len_cons (len_nil)))))) (d_non) (nomark _))))))
  exact h
theorem a_need_amounts (F : Fx K mg) : At P w K mg base "need_amounts" 4 2 f_need_amounts := by
  have nd := (c_need_amounts).nd
  show At P w K mg base _ _ _ (runD b_need_amounts 2)
  refine fnDn (k := 3) F.t_need_amounts c_need_amounts rfl rfl rfl fun f cdv A outer s H E hr => ?_
  have h : PSs (cxOf CX0 P w K mg base N_need_amounts "need_amounts" (defScope s_need_amounts) f cdv A outer s H E).nox (defBody s_need_amounts) (tS K _) :=
    dss_one (ds_if (dt_not (dt_truth (d_call (a_are_amounts F) hr (by decide) rfl (da_cons (d_var (i := 0)) (da_cons (d_var (i := 1)) (da_nil))) (len_cons (len_cons (len_nil)))))) (dss_one (ds_never)) (dss_nil))
  exact h
theorem a_are_under (F : Fx K mg) : At P w K mg base "are_under" 3 2 f_are_under := by
  have nd := (c_are_under).nd
  show At P w K mg base _ _ _ (runD b_are_under 3)
  refine fnDn (k := 2) F.t_are_under c_are_under rfl rfl rfl fun f cdv A outer s H E hr => ?_
  have h : PSs (cxOf CX0 P w K mg base N_are_under "are_under" (defScope s_are_under) f cdv A outer s H E).nox (defBody s_are_under) (tS K _) :=
    dss_one (ds_ret (d_and (d_callB call_isi cd_isi rfl F.b_isinstance bt_isinstance (da_cons (d_var (i := 0)) (da_cons (d_ty rfl F.b_tuple bt_tuple) (da_nil)))) (d_one (d_callB (cr_all rfl) cd_all rfl F.b_all bt_all (da_cons (d_F (d_comp (own := [("one", 2)]) rfl nd (dj_seq (d_var (i := 0))) (blkOk_by (by kernel_rfl)) (fun _ _ _ _ _ => dg_name (i := 2) nd rfl (Or.inl rfl)) (fun _ _ _ _ _ => dts_nil) (fun _ _ _ _ _ => d_call (a_is_under F) hr (by decide) rfl (da_cons (d_var (i := 2)) (da_cons (d_var (i := 1)) (da_nil))) (len_cons (len_cons (len_nil)))))) (da_nil))))))
  exact h
theorem a_is_lot (F : Fx K mg) : At P w K mg base "is_lot" 4 2 f_is_lot := by
  have nd := (c_is_lot).nd
  show At P w K mg base _ _ _ (runD b_is_lot 3)
  refine fnDn (k := 3) F.t_is_lot c_is_lot rfl rfl rfl fun f cdv A outer s H E hr => ?_
  have h : PSs (cxOf CX0 P w K mg base N_is_lot "is_lot" (defScope s_is_lot) f cdv A outer s H E).nox (defBody s_is_lot) (tS K _) :=
    dss_one (ds_ret (d_and (d_call (a_are_under F) hr (by decide) rfl (da_cons (d_var (i := 0)) (da_cons (d_var (i := 1)) (da_nil))) (len_cons (len_cons (len_nil)))) (d_one (d_callB (cr_all rfl) cd_all rfl F.b_all bt_all (da_cons (d_F (d_comp (own := [("at", 2)]) rfl nd (dj_of (di_rng2 rfl F.b_range (da_cons (d_int) (da_cons (d_callB call_len_seq cd_len rfl F.b_len bt_len (da_cons (d_var (i := 0)) (da_nil))) (da_nil))))) (blkOk_by (by kernel_rfl)) (fun _ _ _ _ _ => dg_name (i := 2) nd rfl (Or.inl rfl)) (fun _ _ _ _ _ => dts_nil) (fun _ _ _ _ _ => d_cmp op_lt od_cmp (d_ix (d_var (i := 0)) (d_op op_sub od_sub (d_var (i := 2)) (d_int))) (d_ix (d_var (i := 0)) (d_var (i := 2))) (nomark _)))) (da_nil))))))
  exact h
theorem a_forfeit_net (F : Fx K mg) : At P w K mg base "forfeit_net" 6 4 f_forfeit_net := by
  have nd := (c_forfeit_net).nd
  show At P w K mg base _ _ _ (runD b_forfeit_net 4)
  refine fnDn (k := 5) F.t_forfeit_net c_forfeit_net rfl rfl rfl fun f cdv A outer s H E hr => ?_
  have h : PSs (cxOf CX0 P w K mg base N_forfeit_net "forfeit_net" (defScope s_forfeit_net) f cdv A outer s H E).nox (defBody s_forfeit_net) (tS K _) :=
    dss_cons (ds_expr (d_call (a_need_web F) hr (by decide) rfl (da_cons (d_var (i := 0)) (da_nil)) (len_cons (len_nil)))) (dss_cons (ds_expr (d_call (a_need_amounts F) hr (by decide) rfl (da_cons (d_var (i := 0)) (da_cons (d_var (i := 1)) (da_nil))) (len_cons (len_cons (len_nil))))) (dss_cons (ds_expr (d_call (a_need_person F) hr (by decide) rfl (da_cons (d_var (i := 0)) (da_cons (d_var (i := 2)) (da_nil))) (len_cons (len_cons (len_nil))))) (dss_cons (ds_if (dt_not (dt_truth (d_call (a_is_lot F) hr (by decide) rfl (da_cons (d_var (i := 3)) (da_cons (d_callB call_len_seq cd_len rfl F.b_len bt_len (da_cons (d_ix (d_var (i := 0)) (d_int)) (da_nil))) (da_nil))) (len_cons (len_cons (len_nil)))))) (dss_one (ds_never)) (dss_nil)) (dss_one (ds_ret (d_call (a_net_of F) hr (by decide) rfl (da_cons (d_var (i := 0)) (da_cons (d_var (i := 1)) (da_cons (d_var (i := 2)) (da_cons (d_var (i := 3)) (da_nil))))) (len_cons (len_cons (len_cons (len_cons (len_nil)))))))))))
  exact h
theorem a_forfeit_short (F : Fx K mg) : At P w K mg base "forfeit_short" 7 4 f_forfeit_short := by
  have nd := (c_forfeit_short).nd
  show At P w K mg base _ _ _ (runD b_forfeit_short 4)
  refine fnDn (k := 6) F.t_forfeit_short c_forfeit_short rfl rfl rfl fun f cdv A outer s H E hr => ?_
  have h : PSs (cxOf CX0 P w K mg base N_forfeit_short "forfeit_short" (defScope s_forfeit_short) f cdv A outer s H E).nox (defBody s_forfeit_short) (tS K _) :=
    dss_cons (ds_expr (d_call (a_need_case F) hr (by decide) rfl (da_cons (d_var (i := 0)) (da_cons (d_var (i := 1)) (da_cons (d_var (i := 2)) (da_nil)))) (len_cons (len_cons (len_cons (len_nil)))))) (dss_cons (ds_expr (d_call (a_need_amounts F) hr (by decide) rfl (da_cons (d_var (i := 0)) (da_cons (d_var (i := 3)) (da_nil))) (len_cons (len_cons (len_nil))))) (dss_one (ds_ret (d_call (a_short_at F) hr (by decide) rfl (da_cons (d_var (i := 0)) (da_cons (d_var (i := 1)) (da_cons (d_var (i := 2)) (da_cons (d_var (i := 3)) (da_nil))))) (len_cons (len_cons (len_cons (len_cons (len_nil)))))))))
  exact h
theorem ok_law (F : Fx K mg) {f : Addr} {fd : FuncData} (Fl : Fun K "law" "law" s_law f fd) : FnOk P w K mg base CX0 8 f fd ["script"] (spD K 1 f_law) := by
  have nd := (c_law).nd
  show FnOk P w K mg base CX0 _ f fd _ (spD K _ (runD b_law 17))
  refine fnOn (k := 7) Fl c_law rfl rfl rfl fun f cdv A outer s H E hr => ?_
  have h : PSs (cxOf CX0 P w K mg base N_law "law" (defScope s_law) f cdv A outer s H E).nox (defBody s_law) (tS K _) :=
    dss_cons (ds_set (i := 1) nd rfl (Or.inl rfl) (d_call (a_law_web F) hr (by decide) rfl (da_cons (d_call (a_law_at F) hr (by decide) rfl (da_cons (d_var (i := 0)) (da_cons (d_int) (da_nil))) (len_cons (len_cons (len_nil)))) (da_cons (d_call (a_law_at F) hr (by decide) rfl (da_cons (d_var (i := 0)) (da_cons (d_int) (da_nil))) (len_cons (len_cons (len_nil)))) (da_nil))) (len_cons (len_cons (len_nil))))) (dss_cons (ds_set (i := 2) nd rfl (Or.inl rfl) (d_callB call_len_seq cd_len rfl F.b_len bt_len (da_cons (d_ix (d_var (i := 1)) (d_int)) (da_nil)))) (dss_cons (ds_set (i := 3) nd rfl (Or.inl rfl) (d_ix (d_call (a_law_row F) hr (by decide) rfl (da_cons (d_call (a_law_at F) hr (by decide) rfl (da_cons (d_var (i := 0)) (da_cons (d_int) (da_nil))) (len_cons (len_cons (len_nil)))) (da_cons (d_int) (da_cons (d_ix (d_var (i := 1)) (d_int)) (da_nil)))) (len_cons (len_cons (len_cons (len_nil))))) (d_int))) (dss_cons (ds_set (i := 4) nd rfl (Or.inl rfl) (d_op op_addA od_addA (d_int) (d_ix (d_call (a_law_row F) hr (by decide) rfl (da_cons (d_call (a_law_at F) hr (by decide) rfl (da_cons (d_var (i := 0)) (da_cons (d_int) (da_nil))) (len_cons (len_cons (len_nil)))) (da_cons (d_int) (da_cons (d_int) (da_nil)))) (len_cons (len_cons (len_cons (len_nil))))) (d_int)))) (dss_cons (ds_set (i := 5) nd rfl (Or.inr rfl) (d_op op_addA od_addA (d_int) (d_ix (d_call (a_law_row F) hr (by decide) rfl (da_cons (d_call (a_law_at F) hr (by decide) rfl (da_cons (d_var (i := 0)) (da_cons (d_int) (da_nil))) (len_cons (len_cons (len_nil)))) (da_cons (d_int) (da_cons (d_int) (da_nil)))) (len_cons (len_cons (len_cons (len_nil))))) (d_int)))) (dss_cons (ds_set (i := 6) nd rfl (Or.inr rfl) (d_call (a_forfeits F) hr (by decide) rfl (da_cons (d_var (i := 1)) (da_cons (d_var (i := 3)) (da_cons (d_var (i := 4)) (da_nil)))) (len_cons (len_cons (len_cons (len_nil)))))) (dss_cons (ds_set (i := 7) nd rfl (Or.inr rfl) (d_call (a_forfeits F) hr (by decide) rfl (da_cons (d_var (i := 1)) (da_cons (d_var (i := 3)) (da_cons (d_op op_mulA od_mulA (d_var (i := 4)) (d_var (i := 5))) (da_nil)))) (len_cons (len_cons (len_cons (len_nil)))))) (dss_cons (ds_if (dt_cmp (op_neD (hu64 hr)) od_ne (d_cutA (d_var (i := 6)) (do_none) (do_some (d_int))) (d_cutA (d_var (i := 7)) (do_none) (do_some (d_int))) (nomark _)) (dss_one (ds_ret (d_bl))) (dss_nil)) (dss_cons (ds_set (i := 8) nd rfl (Or.inl rfl) (d_call (a_law_amounts F) hr (by decide) rfl (da_cons (d_call (a_law_at F) hr (by decide) rfl (da_cons (d_var (i := 0)) (da_cons (d_int) (da_nil))) (len_cons (len_cons (len_nil)))) (da_cons (d_call (a_law_at F) hr (by decide) rfl (da_cons (d_var (i := 0)) (da_cons (d_int) (da_nil))) (len_cons (len_cons (len_nil)))) (da_cons (d_var (i := 1)) (da_cons (d_var (i := 3)) (da_cons (d_var (i := 4)) (da_nil)))))) (len_cons (len_cons (len_cons (len_cons (len_cons (len_nil)))))))) (dss_cons (ds_if (dt_bool (dw_and (dt_truth (d_call (a_is_forfeits F) hr (by decide) rfl (da_cons (d_var (i := 1)) (da_cons (d_var (i := 3)) (da_cons (d_var (i := 4)) (da_cons (d_var (i := 8)) (da_nil))))) (len_cons (len_cons (len_cons (len_cons (len_nil))))))) (dw_one (dt_cmp op_gt od_cmp (d_var (i := 4)) (d_int) (nomark _))))) (dss_cons (ds_if (dt_cmp op_notBl od_notB (d_call (a_is_forfeits F) hr (by decide) rfl (da_cons (d_var (i := 1)) (da_cons (d_var (i := 3)) (da_cons (d_op op_sub od_sub (d_var (i := 4)) (d_int)) (da_cons (d_var (i := 8)) (da_nil))))) (len_cons (len_cons (len_cons (len_cons (len_nil)))))) (d_bl) (nomark _)) (dss_one (ds_ret (d_bl))) (dss_nil)) (dss_one (ds_if (dt_cmp op_notN od_notN (d_call (a_forfeit_short F) hr (by decide) rfl (da_cons (d_var (i := 1)) (da_cons (d_var (i := 3)) (da_cons (d_op op_sub od_sub (d_var (i := 4)) (d_int)) (da_cons (d_var (i := 8)) (da_nil))))) (len_cons (len_cons (len_cons (len_cons (len_nil)))))) (d_non) (nomark _)) (dss_one (ds_ret (d_bl))) (dss_nil)))) (dss_nil)) (dss_cons (ds_set (i := 9) nd rfl (Or.inl rfl) (d_call (a_law_lot F) hr (by decide) rfl (da_cons (d_call (a_law_at F) hr (by decide) rfl (da_cons (d_var (i := 0)) (da_cons (d_int) (da_nil))) (len_cons (len_cons (len_nil)))) (da_cons (d_var (i := 2)) (da_nil))) (len_cons (len_cons (len_nil))))) (dss_cons (ds_set (i := 10) nd rfl (Or.inl rfl) (d_int)) (dss_cons (ds_for PassesOwn.never rfl (di_rng1 rfl F.b_range (da_cons (d_ix (d_var (i := 1)) (d_int)) (da_nil))) (dg_name (i := 11) nd rfl (Or.inl rfl)) (dss_cons (ds_set (i := 12) nd rfl (Or.inl rfl) (d_call (a_forfeit_net F) hr (by decide) rfl (da_cons (d_var (i := 1)) (da_cons (d_var (i := 8)) (da_cons (d_var (i := 11)) (da_cons (d_var (i := 9)) (da_nil))))) (len_cons (len_cons (len_cons (len_cons (len_nil))))))) (dss_cons (ds_set (i := 13) nd rfl (Or.inl rfl) (d_callT call_tuple_of cd_tuple rfl F.b_tuple bt_tuple (da_cons (d_F (d_comp (own := [("amount", 16)]) rfl nd (dj_seq (d_var (i := 8))) (blkOk_by (by kernel_rfl)) (fun _ _ _ _ _ => dg_name (i := 16) nd rfl (Or.inl rfl)) (fun _ _ _ _ _ => dts_nil) (fun _ _ _ _ _ => d_op op_mulA od_mulA (d_var (i := 5)) (d_var (i := 16))))) (da_nil)))) (dss_cons (ds_if (dt_cmp (op_neD (hu64 hr)) od_ne (d_call (a_forfeit_net F) hr (by decide) rfl (da_cons (d_var (i := 1)) (da_cons (d_var (i := 13)) (da_cons (d_var (i := 11)) (da_cons (d_var (i := 9)) (da_nil))))) (len_cons (len_cons (len_cons (len_cons (len_nil)))))) (d_op op_mulA od_mulA (d_var (i := 5)) (d_var (i := 12))) (nomark _)) (dss_one (ds_ret (d_bl))) (dss_nil)) (dss_one (ds_set (i := 10) nd rfl (Or.inl rfl) (d_op op_addA od_addA (d_var (i := 10)) (d_var (i := 12))))))))) (dss_cons (ds_if (dt_cmp (op_neD (hu64 hr)) od_ne (d_var (i := 10)) (d_int) (nomark _)) (dss_one (ds_ret (d_bl))) (dss_nil)) (dss_cons (ds_if (dt_cmp (op_eqD (hu64 hr)) od_eq (d_ix (d_var (i := 6)) (d_int)) (d_str) (nomark _)) (dss_one (ds_ret (d_cmp op_notN od_notN (d_call (a_forfeit_short F) hr (by decide) rfl (da_cons (d_var (i := 1)) (da_cons (d_var (i := 3)) (da_cons (d_var (i := 4)) (da_cons (d_var (i := 8)) (da_nil))))) (len_cons (len_cons (len_cons (len_cons (len_nil)))))) (d_non) (nomark _)))) (dss_nil)) (dss_cons (ds_if (dt_cmp (op_neD (hu64 hr)) od_ne (d_ix (d_var (i := 7)) (d_int)) (d_callT call_tuple_of cd_tuple rfl F.b_tuple bt_tuple (da_cons (d_F (d_comp (own := [("amount", 16)]) rfl nd (dj_seq (d_ix (d_var (i := 6)) (d_int))) (blkOk_by (by kernel_rfl)) (fun _ _ _ _ _ => dg_name (i := 16) nd rfl (Or.inl rfl)) (fun _ _ _ _ _ => dts_nil) (fun _ _ _ _ _ => d_op op_mulA od_mulA (d_var (i := 5)) (d_var (i := 16))))) (da_nil))) (nomark _)) (dss_one (ds_ret (d_bl))) (dss_nil)) (dss_cons (ds_set (i := 14) nd rfl (Or.inl rfl) (d_callT call_tuple_of cd_tuple rfl F.b_tuple bt_tuple (da_cons (d_F (d_comp (own := [("k", 15)]) rfl nd (dj_of (di_rng1 rfl F.b_range (da_cons (d_var (i := 2)) (da_nil)))) (blkOk_by (by kernel_rfl)) (fun _ _ _ _ _ => dg_name (i := 15) nd rfl (Or.inl rfl)) (fun _ _ _ _ _ => dts_nil) (fun _ _ _ _ _ => d_op op_addA od_addA (d_ix (d_ix (d_var (i := 6)) (d_int)) (d_var (i := 15))) (d_ix (d_ix (d_var (i := 7)) (d_int)) (d_var (i := 15)))))) (da_nil)))) (dss_cons (ds_if (dt_cmp op_notBl od_notB (d_call (a_is_forfeits F) hr (by decide) rfl (da_cons (d_var (i := 1)) (da_cons (d_var (i := 3)) (da_cons (d_op op_mulA od_mulA (d_var (i := 4)) (d_op op_addA od_addA (d_var (i := 5)) (d_int))) (da_cons (d_var (i := 14)) (da_nil))))) (len_cons (len_cons (len_cons (len_cons (len_nil)))))) (d_bl) (nomark _)) (dss_one (ds_ret (d_bl))) (dss_nil)) (dss_one (ds_ret (d_cmp op_isBl od_isB (d_call (a_is_forfeits F) hr (by decide) rfl (da_cons (d_var (i := 1)) (da_cons (d_var (i := 3)) (da_cons (d_op op_addA od_addA (d_op op_mulA od_mulA (d_var (i := 4)) (d_op op_addA od_addA (d_var (i := 5)) (d_int))) (d_int)) (da_cons (d_var (i := 14)) (da_nil))))) (len_cons (len_cons (len_cons (len_cons (len_nil)))))) (d_bl) (nomark _)))))))))))))))))))))
  exact h
end
end DL

set_option maxHeartbeats 400000
namespace DL
open PySem PySem.Spec L2
/-! ### webs -/
@[simp] theorem isi_int_int (S : Sto) (i : Int) : cIsi S [.int i, .ty "int"] = some (.bl true) := (rfl)
@[simp] theorem isi_int_bool (S : Sto) (i : Int) : cIsi S [.int i, .ty "bool"] = some (.bl false) := (rfl)
@[simp] theorem isi_tup_tup (S : Sto) (i : List D) : cIsi S [.tup i, .ty "tuple"] = some (.bl true) := (rfl)
theorem is_integer_i (i : Int) : f_is_integer [.int i] = some (.bl true) := by
  simp [f_is_integer, b_is_integer, run_eq, startR]
theorem is_between_i (i l m : Int) : f_is_between [.int i, .int l, .int m] = some (.bl (decide (l ≤ i) && decide (i ≤ m))) := by
  simp [f_is_between, b_is_between, run_eq, startR, runA_nr, is_integer_i]
theorem is_under_i (i : Int) (m : Int) : f_is_under [.int i, .int m] = some (.bl (decide (0 ≤ i) && decide (i < m))) := by
  simp [f_is_under, b_is_under, run_eq, startR, runA_nr, is_integer_i]
theorem is_tuple_of_t (ds : List D) (m : Int) : f_is_tuple_of [.tup ds, .int m] = some (.bl (decide ((ds.length : Int) = m))) := by
  simp [f_is_tuple_of, b_is_tuple_of, run_eq, startR]
abbrev Row := Nat × Nat × Nat
def rowD (r : Row) : D := .tup [nD r.1, nD r.2.1, nD r.2.2]
def webD (n : Nat) (rows : List Row) : D := .tup [nD n, .tup (rows.map rowD)]
def rowOk (n : Nat) (r : Row) : Bool := decide (r.1 < n) && decide (r.2.1 < n) && decide (r.1 ≠ r.2.1) && decide (1 ≤ r.2.2) && decide (r.2.2 ≤ 9)
structure WebOk (n : Nat) (rows : List Row) : Prop where
  n2 : 2 ≤ n
  n6 : n ≤ 6
  r1 : 1 ≤ rows.length
  r10 : rows.length ≤ 10
  ok : ∀ r ∈ rows, rowOk n r = true
  giv : ∀ p < n, p ∈ rows.map (·.1)
  tak : ∀ p < n, p ∈ rows.map (·.2.1)
@[simp] theorem nr_rowD (r : Row) : nr (rowD r) = true := by simp [rowD]
@[simp] theorem q_rowD (S : Sto) (r : Row) : seqD S (rowD r) = some [.int r.1, .int r.2.1, .int r.2.2] := (rfl)
@[simp] theorem q_webD (S : Sto) (n : Nat) (l : List Row) : seqD S (webD n l) = some [.int n, .tup (l.map rowD)] := (rfl)
@[simp] theorem nrs_rowD (l : List Row) : nrs (l.map rowD) = true := nrs_all.mpr (by
  intro d h
  obtain ⟨r, _, rfl⟩ := List.mem_map.mp h
  exact nr_rowD r)
@[simp] theorem nr_webD (n : Nat) (l : List Row) : nr (webD n l) = true := by simp [webD]
theorem is_row_ok (n : Nat) (r : Row) : f_is_row [.int n, rowD r] = some (.bl (rowOk n r)) := by
  by_cases h1 : r.1 < n
  · by_cases h2 : r.2.1 < n
    · have h1' : ¬ n ≤ r.1 := by omega
      have h2' : ¬ n ≤ r.2.1 := by omega
      simp [f_is_row, b_is_row, run_eq, startR, runA_nr, rowD, is_tuple_of_t, is_under_i, is_between_i, rowOk, h1, h2, h1', h2']
      by_cases e : r.1 = r.2.1
      · simp [e]
      · by_cases e1 : 1 ≤ r.2.2 <;> by_cases e2 : r.2.2 ≤ 9 <;> simp [e, e1, e2] <;> omega
    · have h1' : ¬ n ≤ r.1 := by omega
      have h2' : n ≤ r.2.1 := by omega
      simp [f_is_row, b_is_row, run_eq, startR, runA_nr, rowD, is_tuple_of_t, is_under_i, is_between_i, rowOk, h1, h2, h1', h2']
  · have h1' : n ≤ r.1 := by omega
    simp [f_is_row, b_is_row, run_eq, startR, runA_nr, rowD, is_tuple_of_t, is_under_i, is_between_i, rowOk, h1, h1']
theorem is_web_ok {n : Nat} {rows : List Row} (h : WebOk n rows) : f_is_web [webD n rows] = some (.bl true) := by
  have a1 : ¬ ((n : Int) < 2) := by have := h.n2; omega
  have a2 : ¬ (6 < (n : Int)) := by have := h.n6; omega
  have a3 : rows.length ≤ 1000000 := Nat.le_trans h.r10 (by decide)
  have a4 : ¬ (rows = []) := fun e => by have := h.r1; rw [e] at this; simp at this
  have a5 : ¬ (10 < (rows.length : Int)) := by have := h.r10; omega
  have a6 : ¬ (rows.length = 0) := by have := h.r1; omega
  have a7 : ¬ ((rows.length : Int) < 1) := by have := h.r1; omega
  have a8 : n ≤ 1000000 := Nat.le_trans h.n6 (by decide)
  have b1 : rows.all (rowOk n) = true := List.all_eq_true.mpr h.ok
  simp [f_is_web, b_is_web, run_eq, startR, runA_nr, webD, is_tuple_of_t, is_between_i, a1, a2, a3, a4, a5, a6, a7, b1, is_row_ok, rng1_nat a8, a8]
  intro p hp
  have g := h.giv p hp
  have t := h.tak p hp
  simp only [List.mem_map, Prod.exists] at g t
  obtain ⟨a1, b1, c1, m1, rfl⟩ := g
  obtain ⟨a2, b2, c2, m2, e⟩ := t
  have e' : b2 = a1 := e
  subst e'
  exact ⟨⟨_, _, m1⟩, ⟨_, _, m2⟩⟩
theorem need_web_ok {n : Nat} {rows : List Row} (h : WebOk n rows) : f_need_web [webD n rows] = some .non := by
  simp [f_need_web, b_need_web, run_eq, startR, runA_nr, is_web_ok h]
theorem are_under_l (l : List Nat) (m : Nat) (h : ∀ x ∈ l, x < m) (hl : l.length ≤ 1000000) : f_are_under [lotD l, .int m] = some (.bl true) := by
  have e : l.all (fun x => decide (x < m)) = true := by simpa using h
  simp [f_are_under, b_are_under, run_eq, startR, runA_nr, lotD, is_under_i, hl]
  exact h
theorem is_lot_ok {l : List Nat} {m : Nat} (h : LotOk m l) (hm : m ≤ 1000) : f_is_lot [lotD l, .int m] = some (.bl true) := by
  have hl : l.length ≤ 1000000 := Nat.le_trans h.len (by omega)
  have hl' : l.length - 1 ≤ 1000000 := by omega
  have e := are_under_l l m h.2 hl
  have c : cmpM (fun k : Nat => ((atI (l.map nD) (k : Int)).bind fun x => (atI (l.map nD) ((k : Int) + 1)).bind fun y => gLt [] x y)) (List.range (l.length - 1)) = cmpM (fun _ => some (.bl true)) (List.range (l.length - 1)) := by
    refine cmpM_congr rfl fun k hk => ?_
    have h1 : k + 1 < l.length := by have := List.mem_range.mp hk; omega
    have h2 : atI (l.map nD) ((k : Int) + 1) = some (.int (l[k + 1] : Nat)) := by
      have := atI_nD h1
      simpa using this
    rw [atI_nD (by omega : k < l.length), h2]
    have := List.pairwise_iff_getElem.mp h.1 k (k + 1) (by omega) h1 (by omega)
    simp
    omega
  have c2 : (List.range (l.length - 1)).length ≤ 1000000 := by simpa using hl'
  simp [f_is_lot, b_is_lot, run_eq, startR, runA_nr, e, rng2_1 hl, c, hl']
/-! ### the law's numbers -/
theorem law_mixed_i (c k : Int) : ∃ z : Int, f_law_mixed [.int c, .int k] = some (.int z) := by
  simp [f_law_mixed, b_law_mixed, run_eq, startR]
theorem md_nat (z : Int) {top : Nat} (h0 : 0 < top) : ∃ k : Nat, z % (top : Int) = (k : Int) ∧ k < top := by
  have a := Int.emod_nonneg z (by omega : (top : Int) ≠ 0)
  have b := Int.emod_lt_of_pos z (by omega : (0 : Int) < top)
  exact ⟨(z % (top : Int)).toNat, by omega, by omega⟩
theorem law_row_i (c : Int) (many top : Nat) (hm : many ≤ 1000000) (h0 : 0 < top) (h1 : top < 1073741824) : ∃ l : List Nat, f_law_row [.int c, .int many, .int top] = some (.lst (l.map nD)) ∧ l.length = many ∧ ∀ x ∈ l, x < top := by
  have t0 : (0 : Int) < top := by omega
  have t1 : (top : Int) < 1073741824 := by omega
  obtain ⟨ρ', S', e, l, left, x, rfl, rfl, hl, hx⟩ := loop_inv (g := gN 6) (body := l1_law_row)
    (ds := (List.range many).map nD) (ρ := [some (.int c), some (.int many), some (.int top), some (.ref 0), some (.int c), some (.bl (decide (1000000000000000000 ≤ c))), none]) (S := [.lst []])
    (fun i ρ S => ∃ (l : List Nat) (left : Int) (x : Option D), ρ = [some (.int c), some (.int many), some (.int top), some (.ref 0), some (.int left), some (.bl (decide (1000000000000000000 ≤ c))), x] ∧ S = [.lst (l.map nD)] ∧ l.length = i ∧ ∀ x ∈ l, x < top) ⟨[], c, none, rfl, rfl, rfl, by simp⟩ (by
      rintro i d ρ S hi ⟨l, left, x, rfl, rfl, hl, hx⟩
      have hi' : i < many := by
        have := (List.getElem?_eq_some_iff.mp hi).1
        simpa using this
      have hd : d = .int (i : Nat) := by
        rw [List.getElem?_map, List.getElem?_range hi'] at hi
        simpa using hi.symm
      subst hd
      have hs : l.length ≤ 1000000 := by omega
      by_cases hg : 1000000000000000000 ≤ c
      · obtain ⟨k, e1, e2⟩ := md_nat left h0
        refine ⟨_, [some (.int c), some (.int many), some (.int top), some (.ref 0), some (.int (left / top)), some (.bl (decide (1000000000000000000 ≤ c))), some (.int (i : Nat))], [.lst ((l ++ [k]).map nD)], .nx, rfl, by simp [l1_law_row, hg, t0, t1, h0, h1, hs, e1], .inl rfl, l ++ [k], left / (top : Int), some (.int (i : Nat)), rfl, rfl, ?_, ?_⟩
        · simp [hl]
        · intro y hy
          rcases List.mem_append.mp hy with hy | hy
          · exact hx y hy
          · rw [List.mem_singleton.mp hy]; exact e2
      · obtain ⟨z, ez⟩ := law_mixed_i c i
        obtain ⟨k, e1, e2⟩ := md_nat (z / 7) h0
        refine ⟨_, [some (.int c), some (.int many), some (.int top), some (.ref 0), some (.int left), some (.bl (decide (1000000000000000000 ≤ c))), some (.int (i : Nat))], [.lst ((l ++ [k]).map nD)], .nx, rfl, by simp [l1_law_row, hg, t0, t1, h0, h1, hs, runA_nr, ez, e1], .inl rfl, l ++ [k], left, some (.int (i : Nat)), rfl, rfl, ?_, ?_⟩
        · simp [hl]
        · intro y hy
          rcases List.mem_append.mp hy with hy | hy
          · exact hx y hy
          · rw [List.mem_singleton.mp hy]; exact e2)
  refine ⟨l, ?_, by simpa using hl, hx⟩
  simp [f_law_row, b_law_row, run_eq, startR, rng1_nat hm, e]
end DL

set_option maxHeartbeats 1000000
namespace DL
open PySem PySem.Spec L2
/-! ### the law's webs -/
theorem law_at_i (ns : List Int) (k : Nat) : ∃ z : Int, f_law_at [.scr ns, .int k] = some (.int z) := by
  by_cases h : k < ns.length
  · have h' : (k : Int) < ns.length := by omega
    have e : atI (ns.map D.int) (k : Int) = some (.int ns[k]) := by rw [atI_map, List.getElem?_eq_getElem h]; rfl
    exact ⟨ns[k], by simp [f_law_at, b_law_at, run_eq, startR, h, h', e]⟩
  · have h' : ¬ ((k : Int) < ns.length) := by omega
    exact ⟨_, by simp [f_law_at, b_law_at, run_eq, startR, h, h']; exact rfl⟩
def glD (g : List Nat) : D := .lst (g.map nD)
def prv (g : List Nat) (i : Nat) : Nat := if i = 0 then g.getD (g.length - 1) 0 else g.getD (i - 1) 0
theorem prv_at {g : List Nat} {i : Nat} (h : i < g.length) : atI (g.map nD) ((i : Int) - 1) = some (.int (prv g i : Nat)) := by
  unfold prv
  by_cases h0 : i = 0
  · subst h0
    have e : ((0 : Nat) : Int) - 1 = -1 := by omega
    rw [e, atI_neg1, if_pos rfl]
    rw [List.getLast?_eq_getElem?, List.length_map, List.getElem?_map, List.getD_eq_getElem?_getD, List.getElem?_eq_getElem (by omega)]
    rfl
  · have e : (i : Int) - 1 = ((i - 1 : Nat) : Int) := by omega
    rw [e, atI_nD (by omega : i - 1 < g.length), if_neg h0, List.getD_eq_getElem?_getD, List.getElem?_eq_getElem (by omega)]
    rfl
theorem prv_mem {g : List Nat} {i : Nat} (h : i < g.length) : prv g i ∈ g := by
  unfold prv
  split
  · rw [List.getD_eq_getElem?_getD, List.getElem?_eq_getElem (by omega)]
    exact List.getElem_mem _
  · rw [List.getD_eq_getElem?_getD, List.getElem?_eq_getElem (by omega)]
    exact List.getElem_mem _
theorem prv_ne {g : List Nat} {i : Nat} (nd : g.Nodup) (h2 : 2 ≤ g.length) (h : i < g.length) : prv g i ≠ g[i] := by
  unfold prv
  split
  · rw [List.getD_eq_getElem?_getD, List.getElem?_eq_getElem (by omega)]
    intro e
    have := (List.getElem_inj nd).mp (show g[g.length - 1] = g[i] from e)
    omega
  · rw [List.getD_eq_getElem?_getD, List.getElem?_eq_getElem (by omega)]
    intro e
    have := (List.getElem_inj nd).mp (show g[i - 1] = g[i] from e)
    omega
theorem prv_cov {g : List Nat} (x : Nat) (h : x ∈ g) : ∃ i, i < g.length ∧ prv g i = x := by
  obtain ⟨j, hj, rfl⟩ := List.getElem_of_mem h
  by_cases hl : j = g.length - 1
  · refine ⟨0, by omega, ?_⟩
    unfold prv
    rw [if_pos rfl, List.getD_eq_getElem?_getD, List.getElem?_eq_getElem (by omega)]
    simp [hl]
  · refine ⟨j + 1, by omega, ?_⟩
    unfold prv
    rw [if_neg (by omega), List.getD_eq_getElem?_getD, List.getElem?_eq_getElem (by omega)]
    simp
theorem nth_range {n i : Nat} {d : D} (h : ((List.range n).map nD)[i]? = some d) : i < n ∧ d = .int (i : Nat) := by
  have h1 : i < n := by
    have := (List.getElem?_eq_some_iff.mp h).1
    simpa using this
  rw [List.getElem?_map, List.getElem?_range h1] at h
  exact ⟨h1, by simpa using h.symm⟩
section
variable (c m : D) (n : Nat) (mk od gr : Option D) (dg : List Nat)
def wEnv (a : Nat) (x9 x10 x11 x12 x13 x14 : Option D) : Rho := [some c, some m, some (.int (n : Nat)), mk, od, some (.lst (dg.map nD)), gr, some (.ref 0), some (.int (a : Nat)), x9, x10, x11, x12, x13, x14]
def rowsOk (R : List Row) : Prop := ∀ r ∈ R, rowOk n r = true
theorem web_inner (hd : dg.length = 40) (g : List Nat) (nd : g.Nodup) (h2 : 2 ≤ g.length) (hg : ∀ x ∈ g, x < n) (R : List Row) (hR : R.length + g.length ≤ 39) (x10 x11 x12 x13 x14 : Option D) :
    ∃ R2 y10, loopL (gN 10) l2_law_web ((List.range g.length).map nD) (wEnv c m n mk od gr dg (1 + R.length) (some (glD g)) x10 x11 x12 x13 x14) [.lst (R.map rowD)] =
      some (.nx, wEnv c m n mk od gr dg (1 + R.length + g.length) (some (glD g)) y10 x11 x12 x13 x14, [.lst ((R ++ R2).map rowD)]) ∧ R2.length = g.length ∧ rowsOk n R2 ∧ ∀ p ∈ g, p ∈ R2.map (·.1) ∧ p ∈ R2.map (·.2.1) := by
  obtain ⟨ρ', S', e, R2, y10, rfl, rfl, hl, ok, h1, h3⟩ := loop_inv (g := gN 10) (body := l2_law_web) (ds := (List.range g.length).map nD) (ρ := wEnv c m n mk od gr dg (1 + R.length) (some (glD g)) x10 x11 x12 x13 x14) (S := [.lst (R.map rowD)])
    (fun i ρ S => ∃ R2 y10, ρ = wEnv c m n mk od gr dg (1 + R.length + i) (some (glD g)) y10 x11 x12 x13 x14 ∧ S = [.lst ((R ++ R2).map rowD)] ∧ R2.length = i ∧ rowsOk n R2 ∧ (∀ j < i, prv g j ∈ R2.map (·.1)) ∧ ∀ j < i, g.getD j 0 ∈ R2.map (·.2.1))
    ⟨[], x10, rfl, by simp, rfl, fun r h => by simp at h, fun j h => by omega, fun j h => by omega⟩ (by
      rintro i d ρ S hi ⟨R2, y10, rfl, rfl, hl, ok, h1, h3⟩
      obtain ⟨hlt, rfl⟩ := nth_range hi
      have ha : 1 + R.length + i < dg.length := by omega
      have q : atI (dg.map nD) (1 + (R.length : Int) + (i : Int)) = some (.int (dg[1 + R.length + i] : Nat)) := by
        have := atI_nD ha
        simpa using this
      have q2 := atI_nD hlt
      have q1 := prv_at hlt
      have hs : R.length + R2.length ≤ 1000000 := by omega
      have gD : g.getD i 0 = g[i] := by rw [List.getD_eq_getElem?_getD, List.getElem?_eq_getElem hlt]; rfl
      have nw : rowOk n (prv g i, g[i], 1 + dg[1 + R.length + i] % 3) = true := by
        have a1 := hg _ (prv_mem hlt)
        have a2 := hg _ (List.getElem_mem hlt)
        have a3 := prv_ne nd h2 hlt
        have a4 : dg[1 + R.length + i] % 3 < 3 := Nat.mod_lt _ (by decide)
        simp only [rowOk, Bool.and_eq_true, decide_eq_true_eq]
        exact ⟨⟨⟨⟨a1, a2⟩, a3⟩, by omega⟩, by omega⟩
      refine ⟨wEnv c m n mk od gr dg (1 + R.length + i) (some (glD g)) (some (.int (i : Nat))) x11 x12 x13 x14, wEnv c m n mk od gr dg (1 + R.length + (i + 1)) (some (glD g)) (some (.int (i : Nat))) x11 x12 x13 x14, [.lst ((R ++ (R2 ++ [(prv g i, g[i], 1 + dg[1 + R.length + i] % 3)])).map rowD)], .nx, rfl, ?_, .inl rfl, R2 ++ [(prv g i, g[i], 1 + dg[1 + R.length + i] % 3)], _, rfl, rfl, by simp [hl], ?_, ?_, ?_⟩
      · simp [l2_law_web, wEnv, glD, q1, q2, q, hs, rowD]
        omega
      · intro r hr
        rcases List.mem_append.mp hr with hr | hr
        · exact ok r hr
        · rw [List.mem_singleton.mp hr]; exact nw
      · intro j hj
        rw [List.map_append]
        by_cases e : j = i
        · subst e; exact List.mem_append_right _ (by simp)
        · exact List.mem_append_left _ (h1 j (by omega))
      · intro j hj
        rw [List.map_append]
        by_cases e : j = i
        · subst e; rw [gD]; exact List.mem_append_right _ (by simp)
        · exact List.mem_append_left _ (h3 j (by omega)))
  refine ⟨R2, y10, ?_, by simpa using hl, ok, fun p hp => ?_⟩
  · simpa using e
  · obtain ⟨i, hi, rfl⟩ := prv_cov p hp
    obtain ⟨j, hj, ej⟩ := List.getElem_of_mem hp
    refine ⟨h1 i (by simpa using hi), ?_⟩
    have := h3 j (by simpa using hj)
    rw [List.getD_eq_getElem?_getD, List.getElem?_eq_getElem hj] at this
    simpa [ej] using this
def Cov (R : List Row) (l : List Nat) : Prop := ∀ p ∈ l, p ∈ R.map (·.1) ∧ p ∈ R.map (·.2.1)
theorem web_groups (hd : dg.length = 40) (gs : List (List Nat)) (hg : ∀ g ∈ gs, g.Nodup ∧ 2 ≤ g.length ∧ ∀ x ∈ g, x < n) (hn : gs.flatten.length ≤ 39) (x9 x10 x11 x12 x13 x14 : Option D) :
    ∃ R y9 y10 a, loopL (gN 9) l1_law_web (gs.map glD) (wEnv c m n mk od gr dg 1 x9 x10 x11 x12 x13 x14) [.lst []] =
      some (.nx, wEnv c m n mk od gr dg a y9 y10 x11 x12 x13 x14, [.lst (R.map rowD)]) ∧ R.length = gs.flatten.length ∧ rowsOk n R ∧ Cov R gs.flatten := by
  obtain ⟨ρ', S', e, R, y9, y10, a, rfl, rfl, hl, ok, h1, ha⟩ := loop_inv (g := gN 9) (body := l1_law_web) (ds := gs.map glD) (ρ := wEnv c m n mk od gr dg 1 x9 x10 x11 x12 x13 x14) (S := [.lst []])
    (fun i ρ S => ∃ R y9 y10 a, ρ = wEnv c m n mk od gr dg a y9 y10 x11 x12 x13 x14 ∧ S = [.lst (R.map rowD)] ∧ R.length = (gs.take i).flatten.length ∧ rowsOk n R ∧ Cov R (gs.take i).flatten ∧ a = 1 + R.length)
    ⟨[], x9, x10, 1, rfl, rfl, rfl, fun r h => by simp at h, fun p h => by simp at h, rfl⟩ (by
      rintro i d ρ S hi ⟨R, y9, y10, a, rfl, rfl, hl, ok, h1, ha⟩
      have hlt : i < gs.length := by
        have := (List.getElem?_eq_some_iff.mp hi).1
        simpa using this
      have hdd : d = glD gs[i] := by
        rw [List.getElem?_map, List.getElem?_eq_getElem hlt] at hi
        simpa using hi.symm
      subst hdd
      obtain ⟨g1, g2, g3⟩ := hg _ (List.getElem_mem hlt)
      have tk : (gs.take (i + 1)).flatten = (gs.take i).flatten ++ gs[i] := by
        rw [List.take_succ_eq_append_getElem hlt, List.flatten_append, List.flatten_cons, List.flatten_nil, List.append_nil]
      have le : (gs.take (i + 1)).flatten.length ≤ gs.flatten.length := by
        conv => rhs; rw [← List.take_append_drop (i + 1) gs, List.flatten_append, List.length_append]
        omega
      rw [tk, List.length_append] at le
      have hs : gs[i].length ≤ 1000000 := by omega
      obtain ⟨R2, z10, e, l2, ok2, cov⟩ := web_inner c m n mk od gr dg hd gs[i] g1 g2 g3 R (by omega) y10 x11 x12 x13 x14
      refine ⟨wEnv c m n mk od gr dg a (some (glD gs[i])) y10 x11 x12 x13 x14, _, _, .nx, rfl, ?_, .inl rfl, R ++ R2, some (glD gs[i]), z10, 1 + R.length + gs[i].length, rfl, rfl, ?_, ?_, ?_, ?_⟩
      · subst ha
        unfold l1_law_web
        rw [x_sFor]
        have it : iRng rng1 (aCons (eCall cLen (aCons (eV 9) (aNil))) (aNil)) (wEnv c m n mk od gr dg (1 + R.length) (some (glD gs[i])) y10 x11 x12 x13 x14) [.lst (R.map rowD)] = some ((List.range gs[i].length).map nD) := by
          simp [wEnv, glD, rng1_nat hs]
        rw [it]
        exact e
      · rw [tk, List.length_append, List.length_append, hl, l2]
      · intro r hr
        rcases List.mem_append.mp hr with hr | hr
        · exact ok r hr
        · exact ok2 r hr
      · intro p hp
        rw [tk] at hp
        rw [List.map_append, List.map_append]
        rcases List.mem_append.mp hp with hp | hp
        · exact ⟨List.mem_append_left _ (h1 p hp).1, List.mem_append_left _ (h1 p hp).2⟩
        · exact ⟨List.mem_append_right _ (cov p hp).1, List.mem_append_right _ (cov p hp).2⟩
      · rw [List.length_append, l2]; omega)
  refine ⟨R, y9, y10, a, e, ?_, ok, ?_⟩
  · simpa using hl
  · simpa using h1
theorem web_more (hd : dg.length = 40) (hn : 2 ≤ n) (hn6 : n ≤ 6) (R : List Row) (hR : R.length ≤ 6) (ok : rowsOk n R) (k : Nat) (hk : k ≤ 3) (a : Nat) (x9 x10 x11 x12 x13 x14 : Option D) :
    ∃ R' y10 y11 y12 y13, loopL (gN 10) l3_law_web ((List.range k).map nD) (wEnv c m n mk od gr dg a x9 x10 x11 x12 x13 x14) [.lst (R.map rowD)] =
      some (.nx, wEnv c m n mk od gr dg a x9 y10 y11 y12 y13 x14, [.lst (R'.map rowD)]) ∧ R'.length = R.length + k ∧ rowsOk n R' ∧ ∀ r ∈ R, r ∈ R' := by
  obtain ⟨ρ', S', e, R', y10, y11, y12, y13, rfl, rfl, hl, ok', h1⟩ := loop_inv (g := gN 10) (body := l3_law_web) (ds := (List.range k).map nD) (ρ := wEnv c m n mk od gr dg a x9 x10 x11 x12 x13 x14) (S := [.lst (R.map rowD)])
    (fun i ρ S => ∃ R' y10 y11 y12 y13, ρ = wEnv c m n mk od gr dg a x9 y10 y11 y12 y13 x14 ∧ S = [.lst (R'.map rowD)] ∧ R'.length = R.length + i ∧ rowsOk n R' ∧ ∀ r ∈ R, r ∈ R')
    ⟨R, x10, x11, x12, x13, rfl, rfl, rfl, ok, fun _ h => h⟩ (by
      rintro i d ρ S hi ⟨R', y10, y11, y12, y13, rfl, rfl, hl, ok', h1⟩
      obtain ⟨hlt, rfl⟩ := nth_range hi
      have q (j : Nat) (hj : j < 40) : atI (dg.map nD) (j : Int) = some (.int (dg[j]'(by omega) : Nat)) := atI_nD (by omega)
      have q1 : atI (dg.map nD) (11 + 3 * (i : Int)) = some (.int (dg[11 + 3 * i]'(by omega) : Nat)) := by
        have := q (11 + 3 * i) (by omega)
        simpa using this
      have q2 : atI (dg.map nD) (12 + 3 * (i : Int)) = some (.int (dg[12 + 3 * i]'(by omega) : Nat)) := by
        have := q (12 + 3 * i) (by omega)
        simpa using this
      have q3 : atI (dg.map nD) (13 + 3 * (i : Int)) = some (.int (dg[13 + 3 * i]'(by omega) : Nat)) := by
        have := q (13 + 3 * i) (by omega)
        simpa using this
      have q4 : atI (dg.map nD) (24 + (i : Int)) = some (.int (dg[24 + i]'(by omega) : Nat)) := by
        have := q (24 + i) (by omega)
        simpa using this
      generalize dg[11 + 3 * i]'(by omega) = d1 at q1
      generalize dg[12 + 3 * i]'(by omega) = d2 at q2
      generalize dg[13 + 3 * i]'(by omega) = d3 at q3
      generalize dg[24 + i]'(by omega) = d4 at q4
      have n0 : (0 : Int) < n := by omega
      have n1 : (0 : Int) < (n : Int) - 1 := by omega
      have n1' : (1 : Int) < n := by omega
      have l0 : (0 : Int) < (R'.length : Int) + 1 := by omega
      have ei1 : ((d1 : Int) % (n : Int)) = ((d1 % n : Nat) : Int) := by simp
      have ei2 : (((d1 % n : Nat) : Int) + 1 + (d2 : Int) % ((n : Int) - 1)) % (n : Int) = (((d1 % n + 1 + d2 % (n - 1)) % n : Nat) : Int) := by
        have : ((n : Int) - 1) = ((n - 1 : Nat) : Int) := by omega
        rw [this]
        simp
      have ei3 : ((d3 : Int) % ((R'.length : Int) + 1)) = ((d3 % (R'.length + 1) : Nat) : Int) := by simp
      have ei4 : (1 : Int) + (d4 : Int) % 3 = ((1 + d4 % 3 : Nat) : Int) := by simp
      have pl : d3 % (R'.length + 1) ≤ 1000000 := by
        have := Nat.mod_lt d3 (by omega : 0 < R'.length + 1)
        omega
      have hs : (R'.map rowD).length ≤ 1000000 := by simp; omega
      have nw : rowOk n (d1 % n, (d1 % n + 1 + d2 % (n - 1)) % n, 1 + d4 % 3) = true := by
        have a1 := Nat.mod_lt d1 (by omega : 0 < n)
        have a2 := Nat.mod_lt (d1 % n + 1 + d2 % (n - 1)) (by omega : 0 < n)
        have a4 : d4 % 3 < 3 := Nat.mod_lt _ (by decide)
        have a5 := Nat.mod_lt d2 (by omega : 0 < n - 1)
        have a3 : d1 % n ≠ (d1 % n + 1 + d2 % (n - 1)) % n := by
          intro e
          generalize d1 % n = u at *
          generalize d2 % (n - 1) = v at *
          by_cases h : u + 1 + v < n
          · rw [Nat.mod_eq_of_lt h] at e; omega
          · rw [Nat.mod_eq_sub_mod (by omega), Nat.mod_eq_of_lt (by omega)] at e; omega
        simp only [rowOk, Bool.and_eq_true, decide_eq_true_eq]
        exact ⟨⟨⟨⟨a1, a2⟩, a3⟩, by omega⟩, by omega⟩
      refine ⟨wEnv c m n mk od gr dg a x9 (some (.int (i : Nat))) y11 y12 y13 x14, wEnv c m n mk od gr dg a x9 (some (.int (i : Nat))) (some (.int (d1 % n : Nat))) (some (.int ((d1 % n + 1 + d2 % (n - 1)) % n : Nat))) (some (.int (d3 % (R'.length + 1) : Nat))) x14,
        [.lst ((R'.take (d3 % (R'.length + 1)) ++ [(d1 % n, (d1 % n + 1 + d2 % (n - 1)) % n, 1 + d4 % 3)] ++ R'.drop (d3 % (R'.length + 1))).map rowD)], .nx, rfl, ?_, .inl rfl, _, _, _, _, _, rfl, rfl, ?_, ?_, ?_⟩
      · have st : ins2 (wEnv c m n mk od gr dg a x9 (some (.int (i : Nat))) (some (.int (d1 % n : Nat))) (some (.int ((d1 % n + 1 + d2 % (n - 1)) % n : Nat))) (some (.int (d3 % (R'.length + 1) : Nat))) x14) [.lst (R'.map rowD)] (0, R'.map rowD) (rowD (d1 % n, (d1 % n + 1 + d2 % (n - 1)) % n, 1 + d4 % 3)) (.int (d3 % (R'.length + 1) : Nat)) = _ :=
          ins2_nat _ _ _ _ _ hs pl
        have z0 : 0 < n := by omega
        have z1 : 1 < n := by omega
        have z2 : (0 : Int) < (R'.length : Int) + 1 := by omega
        simp only [wEnv] at st ⊢
        have hcast : ((n - 1 : Nat) : Int) = (n : Int) - 1 := by omega
        simp [l3_law_web, q1, q2, q3, q4, z0, z1, z2, n1', n0, l0, hcast, rowD]
        simpa [hcast, rowD] using st
      · simp [List.length_take, hl]
        have := Nat.mod_lt d3 (by omega : 0 < R'.length + 1)
        omega
      · intro r hr
        simp only [List.append_assoc, List.mem_append, List.mem_singleton] at hr
        rcases hr with hr | hr | hr
        · exact ok' r (List.mem_of_mem_take hr)
        · rw [hr]; exact nw
        · exact ok' r (List.mem_of_mem_drop hr)
      · intro r hr
        have := h1 r hr
        rw [← List.take_append_drop (d3 % (R'.length + 1)) R'] at this
        simp only [List.append_assoc, List.mem_append, List.mem_singleton] at this ⊢
        rcases this with h | h
        · exact .inl h
        · exact .inr (.inr h))
  exact ⟨R', y10, y11, y12, y13, e, by simpa using hl, ok', h1⟩
end
end DL

set_option maxHeartbeats 1000000
namespace DL
open PySem PySem.Spec L2
theorem range_of_map {α : Type} (f : Nat → Option α) : True := trivial
theorem law_web_ok (c m : Int) : ∃ n rows, f_law_web [.int c, .int m] = some (webD n rows) ∧ WebOk n rows ∧ n ≤ 5 ∧ rows.length ≤ 8 ∧ n ≤ rows.length := by
  obtain ⟨l0, q0, h0l, h0⟩ := law_row_i c 1 4 (by decide) (by decide) (by decide)
  obtain ⟨d0, rfl⟩ : ∃ d0, l0 = [d0] := by
    match l0, h0l with
    | [d], _ => exact ⟨d, rfl⟩
  have hd0 := h0 d0 (by simp)
  obtain ⟨n, hn⟩ : ∃ n, n = 2 + d0 := ⟨_, rfl⟩
  have n2 : 2 ≤ n := by omega
  have n5 : n ≤ 5 := by omega
  obtain ⟨mk, r1, hm, _⟩ := law_row_i (c / 5 + 3) n 1000 (by omega) (by decide) (by decide)
  obtain ⟨dg, r2, hd, _⟩ := law_row_i m 40 30 (by decide) (by decide) (by decide)
  obtain ⟨P, hP⟩ : ∃ P, P = (List.range n).map fun k => (mk.getD k 0, k) := ⟨_, rfl⟩
  obtain ⟨m', pm, es⟩ := perm_sorted pairD P
  have po : (m'.map (·.2)).Perm (List.range n) := by
    have := pm.map (·.2)
    rw [hP, List.map_map] at this
    have e : (List.map ((fun x => x.2) ∘ fun k => (mk.getD k 0, k)) (List.range n)) = List.range n := by
      conv => rhs; rw [← List.map_id (List.range n)]
      rfl
    rwa [e] at this
  obtain ⟨od, hod⟩ : ∃ od, od = m'.map (·.2) := ⟨_, rfl⟩
  rw [← hod] at po
  have odn : od.Nodup := po.nodup_iff.mpr List.nodup_range
  have odl : od.length = n := by rw [po.length_eq]; simp
  have odm : ∀ x, x ∈ od ↔ x < n := fun x => by rw [po.mem_iff]; simp
  have c1 : cmpM (fun x : Nat => ((atI (mk.map nD) (x : Int)).bind fun d => some [d, D.int (x : Int)]).bind mkT) (List.range n) = some (P.map pairD) := by
    rw [hP, List.map_map]
    refine (cmpM_congr rfl fun k hk => ?_).trans (cmpM_some _ _)
    have hk' : k < mk.length := by rw [hm]; exact List.mem_range.mp hk
    rw [atI_nD hk']
    simp [pairD, List.getElem?_eq_getElem hk']
  have h10 : 10 < dg.length := by omega
  have fin : ∀ gs : List (List Nat), (∀ g ∈ gs, g.Nodup ∧ 2 ≤ g.length ∧ ∀ x ∈ g, x < n) → gs.flatten.Perm od →
      ∀ (mkd odd grd : Option D), ∃ (R : List Row) (a : Nat) (y9 y10 : Option D) (rows : List Row) (x10 x11 x12 x13 : Option D), loopL (gN 9) l1_law_web (gs.map glD) (wEnv (.int c) (.int m) n mkd odd grd dg 1 none none none none none none) [.lst []] = some (.nx, wEnv (.int c) (.int m) n mkd odd grd dg a y9 y10 none none none none, [.lst (R.map rowD)]) ∧
        loopL (gN 10) l3_law_web ((List.range (dg[10] % 4)).map nD) (wEnv (.int c) (.int m) n mkd odd grd dg a y9 y10 none none none none) [.lst (R.map rowD)] = some (.nx, wEnv (.int c) (.int m) n mkd odd grd dg a y9 x10 x11 x12 x13 none, [.lst (rows.map rowD)]) ∧ WebOk n rows ∧ rows.length ≤ 8 ∧ n ≤ rows.length := by
    intro gs hg pg mkd odd grd
    have fl : gs.flatten.length = n := by rw [pg.length_eq, odl]
    obtain ⟨R, y9, y10, a, ew, hl, ok, cov⟩ := web_groups (.int c) (.int m) n mkd odd grd dg hd gs hg (by omega) none none none none none none
    obtain ⟨R', z10, z11, z12, z13, ew2, hl2, ok2, sub⟩ := web_more (.int c) (.int m) n mkd odd grd dg hd n2 (by omega) R (by omega) ok (dg[10] % 4) (by have := Nat.mod_lt dg[10] (by decide : 0 < 4); omega) a y9 y10 none none none none
    refine ⟨R, a, y9, y10, R', z10, z11, z12, z13, ew, ew2, ?_, ?_, ?_⟩
    · have inR : ∀ p < n, p ∈ gs.flatten := fun p hp => pg.mem_iff.mpr ((odm p).mpr hp)
      refine ⟨n2, by omega, by omega, ?_, ok2, fun p hp => ?_, fun p hp => ?_⟩
      · have := Nat.mod_lt dg[10] (by decide : 0 < 4)
        omega
      · obtain ⟨r, hr, e⟩ := List.mem_map.mp (cov p (inR p hp)).1
        exact List.mem_map.mpr ⟨r, sub r hr, e⟩
      · obtain ⟨r, hr, e⟩ := List.mem_map.mp (cov p (inR p hp)).2
        exact List.mem_map.mpr ⟨r, sub r hr, e⟩
    · have := Nat.mod_lt dg[10] (by decide : 0 < 4)
      omega
    · omega
  have q0' : f_law_row [.int c, .int 1, .int 4] = some (.lst [.int d0]) := by simpa using q0
  have r1' : f_law_row [.int (c / 5 + 3), .int (n : Int), .int 1000] = some (.lst (mk.map nD)) := by simpa using r1
  have r2' : f_law_row [.int m, .int 40, .int 30] = some (.lst (dg.map nD)) := by simpa using r2
  have nI : (2 + (d0 : Int)) = (n : Int) := by omega
  have nb : n ≤ 1000000 := by omega
  have ss := k_sorted (S := []) (x := .lst (P.map pairD)) rfl (gdS_pairs _)
  rw [es] at ss
  have h0' : 0 < dg.length := by omega
  have q00 : atI (dg.map nD) (0 : Int) = some (.int (dg[0] : Nat)) := by
    have := atI_nD h0'
    simpa using this
  have ml : m'.length ≤ 1000000 := by
    have := pm.length_eq
    rw [hP] at this
    simp at this
    omega
  have pl : P.length ≤ 1000000 := by rw [hP]; simp; omega
  have q10 : atI (dg.map nD) (10 : Int) = some (.int (dg[10] : Nat)) := by
    have := atI_nD h10
    simpa using this
  have hb : dg[10] % 4 ≤ 1000000 := by have := Nat.mod_lt dg[10] (by decide : 0 < 4); omega
  have it : rng1 [.int ((dg[10] : Int) % 4)] = some ((List.range (dg[10] % 4)).map nD) := by
    have := rng1_nat hb
    simpa using this
  have mo : (m'.map fun x => D.int (x.2 : Nat)) = od.map nD := by rw [hod]; simp
  have ol : od.length ≤ 1000000 := by omega
  by_cases hc : 3 < n ∧ dg[0] < 12
  · obtain ⟨R, a, y9, y10, rows, x10, x11, x12, x13, w1, w2, ok, h8, hn8⟩ := fin [od.take 2, od.drop 2] (by
      intro g hg
      rcases List.mem_cons.mp hg with rfl | hg
      · exact ⟨odn.sublist (List.take_sublist _ _), by rw [List.length_take]; omega, fun x hx => (odm x).mp (List.mem_of_mem_take hx)⟩
      · rw [List.mem_singleton.mp hg]
        exact ⟨odn.sublist (List.drop_sublist _ _), by rw [List.length_drop]; omega, fun x hx => (odm x).mp (List.mem_of_mem_drop hx)⟩) (by simp) (some (.lst (mk.map nD))) (some (.lst (od.map nD))) (some (.lst [glD (od.take 2), glD (od.drop 2)]))
    refine ⟨n, rows, ?_, ok, n5, h8, hn8⟩
    have hr : rows.length ≤ 1000000 := by omega
    simp [wEnv, glD] at w1 w2
    have ct := cut_take (od.map nD) 2
    have cd := cut_drop (od.map nD) 2
    simp at ct cd
    have i3 : (3 : Int) < n := by omega
    have i12 : (dg[0] : Int) < 12 := by omega
    simp [f_law_web, b_law_web, run_eq, startR, runA_nr, q0', r1', r2', nI, rng1_nat nb, c1, ss, nb, ml, pl, mo, q00, q10, hc.1, hc.2, i3, i12, ct, cd, ol, r2', w1, w2, it, hr, webD]
  · obtain ⟨R, a, y9, y10, rows, x10, x11, x12, x13, w1, w2, ok, h8, hn8⟩ := fin [od] (by
      intro g hg
      rw [List.mem_singleton.mp hg]
      exact ⟨odn, by omega, fun x hx => (odm x).mp hx⟩) (by simp) (some (.lst (mk.map nD))) (some (.lst (od.map nD))) (some (.lst [glD od]))
    refine ⟨n, rows, ?_, ok, n5, h8, hn8⟩
    have hr : rows.length ≤ 1000000 := by omega
    simp [wEnv, glD] at w1 w2
    by_cases h3 : 3 < n
    · have h12 : ¬ dg[0] < 12 := fun z => hc ⟨h3, z⟩
      have i3 : (3 : Int) < n := by omega
      have i12 : ¬ ((dg[0] : Int) < 12) := by omega
      simp [f_law_web, b_law_web, run_eq, startR, runA_nr, q0', r1', r2', nI, rng1_nat nb, c1, ss, nb, ml, pl, mo, q00, q10, h3, h12, i3, i12, ol, r2', w1, w2, it, hr, webD]
    · have i3 : ¬ ((3 : Int) < n) := by omega
      simp [f_law_web, b_law_web, run_eq, startR, runA_nr, q0', r1', r2', nI, rng1_nat nb, c1, ss, nb, ml, pl, mo, q00, q10, h3, i3, ol, r2', w1, w2, it, hr, webD]
end DL

set_option maxHeartbeats 1000000
namespace DL
open PySem PySem.Spec L2
/-! ### lots of transfers -/
def numsBy (f : Row → Bool) (rows : List Row) : List Nat := (rows.zipIdx.filter fun x => f x.1).map (·.2)
theorem mem_numsBy {f : Row → Bool} {rows : List Row} {k : Nat} : k ∈ numsBy f rows ↔ ∃ r, rows[k]? = some r ∧ f r = true := by
  unfold numsBy
  simp only [List.mem_map, List.mem_filter]
  constructor
  · rintro ⟨⟨r, j⟩, ⟨h, hf⟩, rfl⟩
    rw [List.mem_zipIdx_iff_getElem?] at h
    exact ⟨r, h, hf⟩
  · rintro ⟨r, h, hf⟩
    exact ⟨(r, k), ⟨by rw [List.mem_zipIdx_iff_getElem?]; exact h, hf⟩, rfl⟩
theorem numsBy_len (f : Row → Bool) (rows : List Row) : (numsBy f rows).length ≤ rows.length := by
  unfold numsBy
  rw [List.length_map]
  refine Nat.le_trans (List.length_filter_le _ _) ?_
  simp
theorem numsBy_pw (f : Row → Bool) (rows : List Row) : (numsBy f rows).Pairwise (· < ·) := by
  unfold numsBy
  rw [List.pairwise_map]
  refine List.Pairwise.filter _ ?_
  rw [List.pairwise_iff_getElem]
  intro i j hi hj hij
  simpa using hij
theorem numsBy_ok (f : Row → Bool) (rows : List Row) : LotOk rows.length (numsBy f rows) := ⟨numsBy_pw f rows, fun x hx => by
  obtain ⟨r, h, _⟩ := mem_numsBy.mp hx
  exact (List.getElem?_eq_some_iff.mp h).1⟩
def gby (rows : List Row) (p : Nat) : List Nat := numsBy (fun r => decide (r.1 = p)) rows
def tby (rows : List Row) (p : Nat) : List Nat := numsBy (fun r => decide (r.2.1 = p)) rows
theorem given_by_w (n : Nat) (rows : List Row) (p : Nat) (h : rows.length ≤ 1000000) : f_given_by [webD n rows, .int p] = some (.lst ((gby rows p).map nD)) := by
  simp [f_given_by, b_given_by, run_eq, startR, webD, enumD_map, compL_gen, gby, numsBy, h]
  simp [Function.comp_def, Int.ofNat_inj]
theorem got_by_w (n : Nat) (rows : List Row) (p : Nat) (h : rows.length ≤ 1000000) : f_got_by [webD n rows, .int p] = some (.lst ((tby rows p).map nD)) := by
  simp [f_got_by, b_got_by, run_eq, startR, webD, enumD_map, compL_gen, tby, numsBy, h]
  simp [Function.comp_def, Int.ofNat_inj]
def harmed (rows : List Row) (lot : List Nat) (p : Nat) : Bool := (gby rows p).any (fun k => decide (k ∈ lot)) && !(tby rows p).all fun k => decide (k ∈ lot)
/-- a lot that harms nobody but the league's -/
def Clo (n : Nat) (rows : List Row) (lg lot : List Nat) : Prop := ∀ p < n, p ∉ lg → harmed rows lot p = false
/-! all lots -/
def allLots : Nat → List (List Nat)
  | 0 => [[]]
  | k + 1 => allLots k ++ (allLots k).map fun l => l ++ [k]
theorem allLots_len (k : Nat) : (allLots k).length = 2 ^ k := by
  induction k with
  | zero => rfl
  | succ k ih => simp [allLots, ih, Nat.pow_succ]; omega
theorem mem_allLots {m : Nat} {l : List Nat} : l ∈ allLots m ↔ LotOk m l := by
  induction m generalizing l with
  | zero =>
    simp only [allLots, List.mem_singleton]
    constructor
    · rintro rfl; exact LotOk.nil 0
    · rintro ⟨_, h⟩
      cases l with
      | nil => rfl
      | cons x l => exact absurd (h x (by simp)) (by omega)
  | succ m ih =>
    simp only [allLots, List.mem_append, List.mem_map]
    constructor
    · rintro (h | ⟨k, h, rfl⟩)
      · exact (ih.mp h).mono (by omega)
      · obtain ⟨h1, h2⟩ := ih.mp h
        refine ⟨List.pairwise_append.mpr ⟨h1, List.pairwise_singleton _ _, fun a ha b hb => ?_⟩, fun x hx => ?_⟩
        · rw [List.mem_singleton.mp hb]; exact h2 a ha
        · rcases List.mem_append.mp hx with hx | hx
          · have := h2 x hx; omega
          · rw [List.mem_singleton.mp hx]; omega
    · rintro ⟨h1, h2⟩
      by_cases hm : m ∈ l
      · right
        have hne : l ≠ [] := fun e => by rw [e] at hm; simp at hm
        have ed := (List.dropLast_concat_getLast hne).symm
        have hl : l.getLast hne = m := by
          have a := h2 _ (List.getLast_mem hne)
          rw [ed] at hm
          rcases List.mem_append.mp hm with hm | hm
          · rw [ed] at h1
            have := (List.pairwise_append.mp h1).2.2 m hm _ (List.mem_singleton.mpr rfl)
            omega
          · exact (List.mem_singleton.mp hm).symm
        refine ⟨l.dropLast, ih.mpr ⟨?_, fun x hx => ?_⟩, by rw [← hl]; exact ed.symm⟩
        · exact h1.sublist (List.dropLast_sublist _)
        · rw [ed] at h1
          have := (List.pairwise_append.mp h1).2.2 x hx _ (List.mem_singleton.mpr rfl)
          omega
      · left
        refine ih.mpr ⟨h1, fun x hx => ?_⟩
        have := h2 x hx
        by_cases e : x = m
        · subst e; exact absurd hx hm
        · omega
end DL

set_option maxHeartbeats 1000000
namespace DL
open PySem PySem.Spec L2
/-! ### forfeits -/
theorem need_base_ok {b : Nat} (h1 : 1 ≤ b) (h2 : b ≤ 1000) : f_need_base [.int b] = some .non := by
  have a1 : (1 : Int) ≤ b := by omega
  have a2 : (b : Int) ≤ 1000 := by omega
  simp [f_need_base, b_need_base, run_eq, startR, is_between_i, a1, a2]
theorem need_person_ok {n : Nat} {rows : List Row} {p : Nat} (h : p < n) : f_need_person [webD n rows, .int p] = some .non := by
  have a2 : (p : Int) < n := by omega
  simp [f_need_person, b_need_person, run_eq, startR, is_under_i, a2, h]
theorem need_case_ok {n : Nat} {rows : List Row} (W : WebOk n rows) {p b : Nat} (h : p < n) (h1 : 1 ≤ b) (h2 : b ≤ 1000) : f_need_case [webD n rows, .int p, .int b] = some .non := by
  simp [f_need_case, b_need_case, run_eq, startR, need_web_ok W, need_person_ok h, need_base_ok h1 h2]
theorem are_amounts_ok {n : Nat} {rows : List Row} {am : List Nat} (hl : am.length = rows.length) (ha : ∀ a ∈ am, a ≤ 1000000) (hr : rows.length ≤ 1000) : f_are_amounts [webD n rows, lotD am] = some (.bl true) := by
  have lb : am.length ≤ 1000000 := by omega
  have e : f_is_tuple_of [lotD am, .int (rows.length : Nat)] = some (.bl true) := by
    have := is_tuple_of_t (am.map nD) (rows.length : Int)
    rw [show lotD am = .tup (am.map nD) from rfl, this]
    simp [hl]
  simp [f_are_amounts, b_are_amounts, run_eq, startR, e, is_between_i, lb]
  intro x hx
  have := ha x hx
  omega
end DL

set_option maxHeartbeats 1000000
namespace DL
open PySem PySem.Spec L2
theorem k_sum {α : Type} (S : Sto) (f : α → Int) (xs : List α) : cSum S [.lst (xs.map fun a => .int (f a))] = some (.int ((xs.map f).sum)) := by
  have e : (xs.map fun a => D.int (f a)) = (xs.map f).map .int := by simp
  rw [e]
  show ((intsD ((xs.map f).map .int)).map fun ns => D.int ns.sum) = _
  rw [intsD_map]
  rfl
def amt (am : List Nat) (k : Nat) : Nat := am.getD k 0
def sumOut (am : List Nat) (lot ks : List Nat) : Int := ((ks.filter fun k => !decide (k ∈ lot)).map fun k => ((amt am k : Nat) : Int)).sum
def netOf (rows : List Row) (am : List Nat) (p : Nat) (lot : List Nat) : Int := sumOut am lot (gby rows p) - sumOut am lot (tby rows p)
theorem net_of_w (n : Nat) (rows : List Row) (am : List Nat) (p : Nat) (lot : List Nat) (hl : am.length = rows.length) (hr : rows.length ≤ 1000) : f_net_of [webD n rows, lotD am, .int p, lotD lot] = some (.int (netOf rows am p lot)) := by
  have hr' : rows.length ≤ 1000000 := by omega
  have c : ∀ (ρ : Rho) (S : Sto) (ks : List Nat), (∀ k ∈ ks, k < rows.length) → cmpF (fun x : Nat => if x ∈ lot then some none else Option.map some (atI (am.map nD) (x : Int))) ks = some ((ks.filter fun k => !decide (k ∈ lot)).map fun k => .int ((amt am k : Nat) : Int)) := by
    intro ρ S ks hk
    refine (cmpF_congr rfl fun x hx => ?_).trans (cmpF_ite' (fun x => x ∈ lot) (fun k => .int ((amt am k : Nat) : Int)) _)
    have hx' : x < am.length := by rw [hl]; exact hk x hx
    have g : amt am x = am[x] := by unfold amt; rw [List.getD_eq_getElem?_getD, List.getElem?_eq_getElem hx']; rfl
    rw [atI_nD hx', g]
    rfl
  have c1 := c [] [] (gby rows p) (numsBy_ok _ rows).2
  have c2 := c [] [] (tby rows p) (numsBy_ok _ rows).2
  have l1 : (gby rows p).length ≤ 1000000 := Nat.le_trans (numsBy_len _ _) hr'
  have l2 : (tby rows p).length ≤ 1000000 := Nat.le_trans (numsBy_len _ _) hr'
  simp [f_net_of, b_net_of, run_eq, startR, given_by_w, got_by_w, hr', compL_gen, c1, c2, l1, l2, k_sum]
  rfl
theorem forfeit_net_w {n : Nat} {rows : List Row} (W : WebOk n rows) {am : List Nat} (hl : am.length = rows.length) (ha : ∀ a ∈ am, a ≤ 1000000) {p : Nat} (hp : p < n) {lot : List Nat} (ho : LotOk rows.length lot) :
    f_forfeit_net [webD n rows, lotD am, .int p, lotD lot] = some (.int (netOf rows am p lot)) := by
  have h2 : rows.length ≤ 1000 := Nat.le_trans W.r10 (by decide)
  have e1 : f_need_amounts [webD n rows, lotD am] = some .non := by
    simp [f_need_amounts, b_need_amounts, run_eq, startR, are_amounts_ok hl ha h2]
  simp [f_forfeit_net, b_forfeit_net, run_eq, startR, need_web_ok W, e1, need_person_ok hp, is_lot_ok ho h2, net_of_w n rows am p lot hl h2]
end DL

set_option maxHeartbeats 1000000
namespace DL
open PySem PySem.Spec L2
theorem due_of_w (n : Nat) (rows : List Row) (b p : Nat) (lot : List Nat) (hb : b ≤ 1000) (hr : rows.length ≤ 1000) :
    f_due_of [webD n rows, .int b, .int p, lotD lot] = some (.int ((b * ((gby rows p).filter fun k => !decide (k ∈ lot)).length : Nat))) := by
  have hr' : rows.length ≤ 1000000 := by omega
  have l1 : (gby rows p).length ≤ 1000000 := Nat.le_trans (numsBy_len _ _) hr'
  have cm : ∀ j : Int, cMul (b : Int) j = true := fun j => cMul_l (by rw [Int.natAbs_natCast]; omega)
  simp [f_due_of, b_due_of, run_eq, startR, given_by_w, hr', compL_gen, l1, cm]
end DL

set_option maxHeartbeats 1000000
namespace DL
open PySem PySem.Spec L2
def NoShort (n : Nat) (rows : List Row) (leader b : Nat) (am : List Nat) : Prop := ∀ p < n, (∀ k ∈ gby rows p, b ≤ amt am k) ∧ (p ≠ leader → ((b * (gby rows p).length : Nat) : Int) ≤ netOf rows am p [])
theorem short_at_w {n : Nat} {rows : List Row} (hn : n ≤ 1000) (hr : rows.length ≤ 1000) (leader b : Nat) (hb : b ≤ 1000) {am : List Nat} (hl : am.length = rows.length) :
    ∃ d, f_short_at [webD n rows, .int leader, .int b, lotD am] = some d ∧ nr d = true ∧ (d = .non ∨ ∃ l, d = .tup l) ∧ (d = .non ↔ NoShort n rows leader b am) := by
  have hr' : rows.length ≤ 1000000 := by omega
  have hn' : n ≤ 1000000 := by omega
  have inner : ∀ (p : Nat) (y6 y7 y8 y9 : Option D), (∃ z7, loopL (gN 7) l2_short_at ((gby rows p).map nD) [some (webD n rows), some (.int leader), some (.int b), some (lotD am), some (.lst ((List.range rows.length).map nD)), some (.int (p : Nat)), y6, y7, y8, y9] [] = some (.nx, [some (webD n rows), some (.int leader), some (.int b), some (lotD am), some (.lst ((List.range rows.length).map nD)), some (.int (p : Nat)), y6, z7, y8, y9], []) ∧ ∀ k ∈ gby rows p, b ≤ amt am k) ∨
      ∃ l ρ', loopL (gN 7) l2_short_at ((gby rows p).map nD) [some (webD n rows), some (.int leader), some (.int b), some (lotD am), some (.lst ((List.range rows.length).map nD)), some (.int (p : Nat)), y6, y7, y8, y9] [] = some (.rt (.tup l), ρ', []) ∧ nrs l = true ∧ ¬ ∀ k ∈ gby rows p, b ≤ amt am k := by
    intro p y6 y7 y8 y9
    rcases loop_ret (g := gN 7) (body := l2_short_at) (ds := (gby rows p).map nD) (ρ := [some (webD n rows), some (.int leader), some (.int b), some (lotD am), some (.lst ((List.range rows.length).map nD)), some (.int (p : Nat)), y6, y7, y8, y9]) (S := [])
      (fun i ρ S => ∃ z7, ρ = [some (webD n rows), some (.int leader), some (.int b), some (lotD am), some (.lst ((List.range rows.length).map nD)), some (.int (p : Nat)), y6, z7, y8, y9] ∧ S = [] ∧ ∀ j (hj : j < (gby rows p).length), j < i → b ≤ amt am (gby rows p)[j])
      (fun i fl ρ S => S = [] ∧ (∃ l, fl = .rt (.tup l) ∧ nrs l = true) ∧ ∃ h : i < (gby rows p).length, ¬ b ≤ amt am (gby rows p)[i]) ⟨y7, rfl, rfl, fun j _ h => by omega⟩ (by
        rintro i d ρ S hi ⟨z7, rfl, rfl, inv⟩
        have hlt : i < (gby rows p).length := by
          have := (List.getElem?_eq_some_iff.mp hi).1
          simpa using this
        have hd : d = .int ((gby rows p)[i] : Nat) := by
          rw [List.getElem?_map, List.getElem?_eq_getElem hlt] at hi
          simpa using hi.symm
        subst hd
        generalize hk : (gby rows p)[i] = k
        have hkl : k < am.length := by
          rw [hl, ← hk]
          exact (numsBy_ok _ rows).2 _ (List.getElem_mem hlt)
        have ga : amt am k = am[k] := by unfold amt; rw [List.getD_eq_getElem?_getD, List.getElem?_eq_getElem hkl]; rfl
        have q := atI_nD hkl
        by_cases hc : am[k] < b
        · have hcI : (am[k] : Int) < b := by omega
          refine ⟨_, [some (webD n rows), some (.int leader), some (.int b), some (lotD am), some (.lst ((List.range rows.length).map nD)), some (.int (p : Nat)), y6, some (.int (k : Nat)), y8, y9], [], .rt (.tup [.int (p : Nat), lotD ((List.range rows.length).filter fun x => !decide (x = k))]), rfl, ?_, .inr (.inl ⟨⟨_, rfl⟩, rfl, ⟨_, rfl, by simp⟩, hlt, by rw [hk, ga]; omega⟩)⟩
          simp [l2_short_at, q, hcI, hc, compL_gen, hr']
          simp [lotD, Int.ofNat_inj]
        · have hcI : ¬ ((am[k] : Int) < b) := by omega
          refine ⟨_, [some (webD n rows), some (.int leader), some (.int b), some (lotD am), some (.lst ((List.range rows.length).map nD)), some (.int (p : Nat)), y6, some (.int (k : Nat)), y8, y9], [], .nx, rfl, by simp [l2_short_at, q, hcI, hc], .inl ⟨.inl rfl, _, rfl, rfl, fun j hj hji => ?_⟩⟩
          by_cases e : j = i
          · subst e; rw [hk, ga]; omega
          · exact inv j hj (by omega)) with ⟨ρ', S', e, z7, rfl, rfl, inv⟩ | ⟨i, fl, ρ', S', hi, e, rfl, ⟨l, rfl, hnr⟩, h1, h2⟩
    · refine .inl ⟨z7, e, fun k hk => ?_⟩
      obtain ⟨j, hj, rfl⟩ := List.getElem_of_mem hk
      exact inv j hj (by simpa using hj)
    · exact .inr ⟨l, ρ', e, hnr, fun c => h2 (c _ (List.getElem_mem h1))⟩
  have step : ∀ (i p : Nat) (y5 y6 y7 y8 y9 : Option D), p < n → (∃ z6 z7 z8 z9, l1_short_at [some (webD n rows), some (.int leader), some (.int b), some (lotD am), some (.lst ((List.range rows.length).map nD)), some (.int (p : Nat)), y6, y7, y8, y9] [] = some (.nx, [some (webD n rows), some (.int leader), some (.int b), some (lotD am), some (.lst ((List.range rows.length).map nD)), some (.int (p : Nat)), z6, z7, z8, z9], []) ∧ ((∀ k ∈ gby rows p, b ≤ amt am k) ∧ (p ≠ leader → ((b * (gby rows p).length : Nat) : Int) ≤ netOf rows am p []))) ∨
      ∃ l ρ', l1_short_at [some (webD n rows), some (.int leader), some (.int b), some (lotD am), some (.lst ((List.range rows.length).map nD)), some (.int (p : Nat)), y6, y7, y8, y9] [] = some (.rt (.tup l), ρ', []) ∧ nrs l = true ∧ ¬ ((∀ k ∈ gby rows p, b ≤ amt am k) ∧ (p ≠ leader → ((b * (gby rows p).length : Nat) : Int) ≤ netOf rows am p [])) := by
    intro i p y5 y6 y7 y8 y9 hp
    have l1 : (gby rows p).length ≤ 1000000 := Nat.le_trans (numsBy_len _ _) hr'
    rcases inner p (some (.lst ((gby rows p).map nD))) y7 y8 y9 with ⟨z7, e, h⟩ | ⟨l, ρ', e, hnr, h⟩
    · by_cases hpl : p = leader
      · subst hpl
        refine .inl ⟨some (.lst ((gby rows p).map nD)), z7, y8, y9, ?_, h, fun c => absurd rfl c⟩
        simp [l1_short_at, given_by_w, hr', e]
      · have hI : ¬ ((p : Int) = leader) := by omega
        have nt := net_of_w n rows am p [] hl hr
        have du := due_of_w n rows b p [] hb hr
        have ft : (gby rows p).filter (fun k => !decide (k ∈ ([] : List Nat))) = gby rows p := List.filter_eq_self.mpr fun a _ => by simp
        rw [ft] at du
        have nt' : f_net_of [webD n rows, lotD am, .int p, .tup []] = some (.int (netOf rows am p [])) := nt
        have du' : f_due_of [webD n rows, .int b, .int p, .tup []] = some (.int ((b * (gby rows p).length : Nat) : Int)) := du
        rw [Int.natCast_mul] at du'
        by_cases hlt : netOf rows am p [] < ((b * (gby rows p).length : Nat) : Int)
        · refine .inr ⟨[.int (p : Nat), .tup []], [some (webD n rows), some (.int leader), some (.int b), some (lotD am), some (.lst ((List.range rows.length).map nD)), some (.int (p : Nat)), some (.lst ((gby rows p).map nD)), z7, some (.tup []), y9], ?_, by simp, fun c => absurd (c.2 hpl) (by omega)⟩
          simp [l1_short_at, given_by_w, hr', e, hI, nt', du']
          rw [Int.natCast_mul] at hlt
          simp [hlt]
        · refine .inl ⟨some (.lst ((gby rows p).map nD)), z7, some (.tup []), y9, ?_, h, fun c => Int.not_lt.mp hlt⟩
          simp [l1_short_at, given_by_w, hr', e, hI, nt', du']
          rw [Int.natCast_mul] at hlt
          omega
    · refine .inr ⟨l, ρ', ?_, hnr, fun c => h c.1⟩
      simp [l1_short_at, given_by_w, hr', e]
  have outer := loop_ret (g := gN 5) (body := l1_short_at) (ds := (List.range n).map nD) (ρ := [some (webD n rows), some (.int leader), some (.int b), some (lotD am), some (.lst ((List.range rows.length).map nD)), none, none, none, none, none]) (S := [])
      (fun i ρ S => ∃ z5 z6 z7 z8 z9, ρ = [some (webD n rows), some (.int leader), some (.int b), some (lotD am), some (.lst ((List.range rows.length).map nD)), z5, z6, z7, z8, z9] ∧ S = [] ∧ ∀ p < i, (∀ k ∈ gby rows p, b ≤ amt am k) ∧ (p ≠ leader → ((b * (gby rows p).length : Nat) : Int) ≤ netOf rows am p []))
      (fun i fl ρ S => S = [] ∧ (∃ l, fl = .rt (.tup l) ∧ nrs l = true) ∧ i < n ∧ ¬ ((∀ k ∈ gby rows i, b ≤ amt am k) ∧ (i ≠ leader → ((b * (gby rows i).length : Nat) : Int) ≤ netOf rows am i []))) ⟨_, _, _, _, _, rfl, rfl, fun j h => by omega⟩ (by
        rintro i d ρ S hi ⟨z5, z6, z7, z8, z9, rfl, rfl, inv⟩
        obtain ⟨hlt, rfl⟩ := nth_range hi
        rcases step i i z5 z6 z7 z8 z9 hlt with ⟨w6, w7, w8, w9, e, h⟩ | ⟨l, ρ', e, hnr, h⟩
        · refine ⟨_, _, [], .nx, rfl, e, .inl ⟨.inl rfl, _, _, _, _, _, rfl, rfl, fun p hp => ?_⟩⟩
          by_cases he : p = i
          · subst he; exact h
          · exact inv p (by omega)
        · exact ⟨_, ρ', [], .rt (.tup l), rfl, e, .inr (.inl ⟨⟨_, rfl⟩, rfl, ⟨_, rfl, hnr⟩, hlt, h⟩)⟩)
  rcases outer with ⟨ρ', S', e, z5, z6, z7, z8, z9, rfl, rfl, inv⟩ | ⟨i, fl, ρ', S', hi, e, rfl, ⟨l, rfl, hnr⟩, h1, h2⟩
  · refine ⟨.non, ?_, rfl, .inl rfl, ⟨fun _ => ?_, fun _ => rfl⟩⟩
    · simp [f_short_at, b_short_at, run_eq, startR, rgA_nat, rng1_nat, hr', hn', e]
    · simpa [NoShort] using inv
  · refine ⟨.tup l, ?_, hnr, .inr ⟨l, rfl⟩, ⟨fun c => by simp at c, fun c => absurd (c i h1) h2⟩⟩
    simp [f_short_at, b_short_at, run_eq, startR, rgA_nat, rng1_nat, hr', hn', e]
    simp [hnr]
end DL

set_option maxHeartbeats 1000000
namespace DL
open PySem PySem.Spec L2
theorem rowOk_lt {n : Nat} {r : Row} (h : rowOk n r = true) : r.1 < n ∧ r.2.1 < n := by
  simp only [rowOk, Bool.and_eq_true, decide_eq_true_eq] at h
  exact ⟨h.1.1.1.1, h.1.1.1.2⟩
theorem law_lot_w (c : Int) (m : Nat) (hm : m ≤ 1000000) : ∃ l : List Nat, f_law_lot [.int c, .int m] = some (lotD l) ∧ LotOk m l := by
  obtain ⟨mk, e, hl, _⟩ := law_row_i c m 2 hm (by decide) (by decide)
  have e' : f_law_row [.int c, .int m, .int 2] = some (.lst (mk.map nD)) := by simpa using e
  refine ⟨(List.range m).filter fun k => decide (mk.getD k 0 = 1), ?_, List.Pairwise.filter _ List.pairwise_lt_range, fun x hx => List.mem_range.mp (List.mem_filter.mp hx).1⟩
  have c : cmpF (fun x : Nat => (((atI (mk.map nD) (x : Int)).bind fun y => gEq [] y (.int 1)).bind asB).bind fun b => if b = true then some (some (D.int (x : Nat))) else some none) (List.range m) = some (((List.range m).filter fun k => decide (mk.getD k 0 = 1)).map fun x => D.int (x : Nat)) := by
    refine (cmpF_congr rfl fun x hx => ?_).trans (cmpF_ite (fun x => mk.getD x 0 = 1) (fun x => D.int (x : Nat)) _)
    have hx' : x < mk.length := by rw [hl]; exact List.mem_range.mp hx
    have g : mk.getD x 0 = mk[x] := by rw [List.getD_eq_getElem?_getD, List.getElem?_eq_getElem hx']; rfl
    rw [atI_nD hx', g]
    by_cases h : mk[x] = 1
    · simp [h]
    · have h' : ¬ ((mk[x] : Int) = 1) := by omega
      simp [h, h']
  simp [f_law_lot, b_law_lot, run_eq, startR, e', rng1_nat hm, compL_gen, c, hm]
  simp [lotD]
end DL

set_option maxHeartbeats 1000000
namespace DL
open PySem PySem.Spec L2
/-! ### first steps to the leader: a tree -/
def onD : Option Nat → D
  | none => .non
  | some k => .int (k : Nat)
@[simp] theorem onD_none : onD none = .non := (rfl)
@[simp] theorem onD_some (k : Nat) : onD (some k) = .int (k : Nat) := (rfl)
@[simp] theorem nr_onD (o : Option Nat) : nr (onD o) = true := by cases o <;> rfl
abbrev Fs := List (Nat × Option Nat)
def kvF (fs : Fs) : List (Nat × D) := fs.map fun p => (p.1, onD p.2)
def keysF (fs : Fs) : List Nat := fs.map (·.1)
@[simp] theorem kvF_keys (fs : Fs) : (kvF fs).map (·.1) = keysF fs := by simp [kvF, keysF]
@[simp] theorem kvF_len (fs : Fs) : (kvF fs).length = fs.length := by simp [kvF]
theorem kvF_look (fs : Fs) (k : Nat) : (kvF fs).lookup k = (fs.lookup k).map onD := by
  induction fs with
  | nil => rfl
  | cons p fs ih =>
    unfold kvF at ih ⊢
    rw [List.map_cons, List.lookup_cons, List.lookup_cons, ih]
    cases h : k == p.1 <;> simp
structure TreeP (n : Nat) (rows : List Row) (leader : Nat) (fs : Fs) : Prop where
  hd : fs[0]? = some (leader, none)
  nd : (keysF fs).Nodup
  lt : ∀ p ∈ keysF fs, p < n
  st : ∀ i p o, fs[i]? = some (p, o) → 0 < i → ∃ k r j q, o = some k ∧ rows[k]? = some r ∧ r.1 = p ∧ j < i ∧ fs[j]? = some (r.2.1, q)
section
variable {n : Nat} {rows : List Row} {leader : Nat} {fs : Fs}
theorem TreeP.len (T : TreeP n rows leader fs) : fs.length ≤ n := by
  have := List.Nodup.length_le_of_subset (l₂ := List.range n) T.nd fun x hx => List.mem_range.mpr (T.lt x hx)
  simpa [keysF] using this
theorem TreeP.one (h : leader < n) : TreeP n rows leader [(leader, none)] :=
  ⟨rfl, by simp [keysF], by simpa [keysF] using h, fun i p o e hi => by
    cases i with
    | zero => omega
    | succ i => simp at e⟩
theorem TreeP.add (T : TreeP n rows leader fs) {k j : Nat} {r : Row} {q : Option Nat} (hr : rows[k]? = some r) (hj : fs[j]? = some (r.2.1, q)) (hn : r.1 < n) (hk : r.1 ∉ keysF fs) : TreeP n rows leader (fs ++ [(r.1, some k)]) := by
  have hjl : j < fs.length := (List.getElem?_eq_some_iff.mp hj).1
  refine ⟨?_, ?_, ?_, ?_⟩
  · rw [List.getElem?_append_left (by omega)]; exact T.hd
  · have e : keysF (fs ++ [(r.1, some k)]) = keysF fs ++ [r.1] := by simp [keysF]
    rw [e]
    exact List.nodup_append.mpr ⟨T.nd, by simp, fun a ha b hb => by
      rw [List.mem_singleton.mp hb]
      rintro rfl
      exact hk ha⟩
  · have e : keysF (fs ++ [(r.1, some k)]) = keysF fs ++ [r.1] := by simp [keysF]
    rw [e]
    intro p hp
    rcases List.mem_append.mp hp with hp | hp
    · exact T.lt p hp
    · rw [List.mem_singleton.mp hp]; exact hn
  · intro i p o e hi
    by_cases hl : i < fs.length
    · rw [List.getElem?_append_left hl] at e
      obtain ⟨k', r', j', q', h1, h2, h3, h4, h5⟩ := T.st i p o e hi
      exact ⟨k', r', j', q', h1, h2, h3, h4, by rw [List.getElem?_append_left (by omega)]; exact h5⟩
    · rw [List.getElem?_append_right (by omega)] at e
      cases z : i - fs.length with
      | zero =>
        rw [z] at e
        simp at e
        obtain ⟨rfl, rfl⟩ := e
        exact ⟨k, r, j, q, rfl, hr, rfl, by omega, by rw [List.getElem?_append_left hjl]; exact hj⟩
      | succ m => rw [z] at e; simp at e
/-- the givers to what stands below a place are there -/
def ClosedTo (rows : List Row) (fs : Fs) (at' : Nat) : Prop := ∀ i p o, fs[i]? = some (p, o) → i < at' → ∀ (k : Nat) (r : Row), rows[k]? = some r → r.2.1 = p → r.1 ∈ keysF fs
structure Tree (n : Nat) (rows : List Row) (leader : Nat) (fs : Fs) : Prop extends TreeP n rows leader fs where
  cl : ∀ (k : Nat) (r : Row), rows[k]? = some r → r.2.1 ∈ keysF fs → r.1 ∈ keysF fs
theorem Tree.of (T : TreeP n rows leader fs) (h : ClosedTo rows fs fs.length) : Tree n rows leader fs := ⟨T, fun k r hr hm => by
  unfold keysF at hm
  obtain ⟨⟨p, o⟩, hp, e⟩ := List.mem_map.mp hm
  obtain ⟨i, hi⟩ := List.mem_iff_getElem?.mp hp
  exact h i p o hi (List.getElem?_eq_some_iff.mp hi).1 k r hr e.symm⟩
theorem mem_keysF {i p : Nat} {o : Option Nat} (h : fs[i]? = some (p, o)) : p ∈ keysF fs := List.mem_map.mpr ⟨(p, o), List.mem_of_getElem? h, rfl⟩
theorem look_of (nd : (keysF fs).Nodup) {i p : Nat} {o : Option Nat} (h : fs[i]? = some (p, o)) : fs.lookup p = some o := by
  induction fs generalizing i with
  | nil => simp at h
  | cons a fs ih =>
    have e : keysF (a :: fs) = a.1 :: keysF fs := rfl
    rw [e, List.nodup_cons] at nd
    cases i with
    | zero =>
      simp at h
      subst h
      simp [List.lookup_cons]
    | succ i =>
      have h' : fs[i]? = some (p, o) := by simpa using h
      have ne : (p == a.1) = false := by
        have := mem_keysF h'
        refine Bool.eq_false_iff.mpr fun z => ?_
        have z' : p = a.1 := by simpa using z
        rw [← z'] at nd
        exact nd.1 this
      rw [List.lookup_cons, ne]
      exact ih nd.2 h'
theorem tree_get (k : Nat) (r : Row) (hr : rows[k]? = some r) : atI (rows.map rowD) (k : Int) = some (rowD r) := by
  rw [atI_map, hr]; rfl
theorem tby_mem {p k : Nat} : k ∈ tby rows p ↔ ∃ r, rows[k]? = some r ∧ r.2.1 = p := by
  unfold tby; rw [mem_numsBy]; simp
theorem gby_mem {p k : Nat} : k ∈ gby rows p ↔ ∃ r, rows[k]? = some r ∧ r.1 = p := by
  unfold gby; rw [mem_numsBy]; simp
end
/-! the program's search -/
def stE (n : Nat) (rows : List Row) (leader a : Nat) (y5 y6 y7 : Option D) : Rho := [some (webD n rows), some (.int (leader : Nat)), some (.ref 0), some (.ref 1), some (.int (a : Nat)), y5, y6, y7]
def stS (fs : Fs) : Sto := [natDic (kvF fs), .lst ((keysF fs).map nD)]
theorem steps_inner {n : Nat} {rows : List Row} {leader : Nat} (hn : n ≤ 1000) (ok : ∀ r ∈ rows, rowOk n r = true) {fs : Fs} (T : TreeP n rows leader fs) {a p : Nat} {o : Option Nat} (ha : fs[a]? = some (p, o)) (c : Nat) (y5 y6 y7 : Option D) :
    ∃ fs2 z6 z7, loopL (gN 6) l2_steps_to ((tby rows p).map nD) (stE n rows leader c y5 y6 y7) (stS fs) = some (.nx, stE n rows leader c y5 z6 z7, stS fs2) ∧ TreeP n rows leader fs2 ∧ fs <+: fs2 ∧ ∀ (k : Nat) (r : Row), rows[k]? = some r → r.2.1 = p → r.1 ∈ keysF fs2 := by
  obtain ⟨ρ', S', e, fs2, z6, z7, rfl, rfl, T2, pf, cov⟩ := loop_inv (g := gN 6) (body := l2_steps_to) (ds := (tby rows p).map nD) (ρ := stE n rows leader c y5 y6 y7) (S := stS fs)
    (fun i ρ S => ∃ fs2 z6 z7, ρ = stE n rows leader c y5 z6 z7 ∧ S = stS fs2 ∧ TreeP n rows leader fs2 ∧ fs <+: fs2 ∧ ∀ j k r, j < i → (tby rows p)[j]? = some k → rows[k]? = some r → r.1 ∈ keysF fs2)
    ⟨fs, y6, y7, rfl, rfl, T, List.prefix_rfl, fun j k r h => by omega⟩ (by
      rintro i d ρ S hi ⟨fs2, z6, z7, rfl, rfl, T2, pf, cov⟩
      obtain ⟨k, hk, hd⟩ : ∃ k, (tby rows p)[i]? = some k ∧ d = nD k := by
        rw [List.getElem?_map] at hi
        cases z : (tby rows p)[i]? with
        | none => rw [z] at hi; simp at hi
        | some k => rw [z] at hi; exact ⟨k, rfl, by simpa using hi.symm⟩
      subst hd
      obtain ⟨r, hr, hrp⟩ := tby_mem.mp (List.mem_of_getElem? hk)
      have q := tree_get k r hr
      have hl : fs2.length ≤ 1000000 := by have := T2.len; omega
      have hb : (keysF fs2).length ≤ 1000000 := by simp [keysF]; omega
      by_cases hg : r.1 ∈ keysF fs2
      · refine ⟨_, stE n rows leader c y5 (some (.int (k : Nat))) (some (.int (r.1 : Nat))), stS fs2, .nx, rfl, by simp [l2_steps_to, stE, stS, q, hg], .inl rfl, fs2, _, _, rfl, rfl, T2, pf, fun j k' r' hj hk' hr' => ?_⟩
        by_cases e : j = i
        · subst e
          rw [hk] at hk'; cases hk'
          rw [hr] at hr'; cases hr'
          exact hg
        · exact cov j k' r' (by omega) hk' hr'
      · have ha2 : fs2[a]? = some (r.2.1, o) := by
          obtain ⟨t, rfl⟩ := pf
          rw [hrp, List.getElem?_append_left (List.getElem?_eq_some_iff.mp ha).1]; exact ha
        have rn := rowOk_lt (ok r (List.mem_of_getElem? hr))
        have T3 := T2.add hr ha2 rn.1 hg
        have hp := z_put (f := eV 6) (fo := eV 2) (fi := eV 7) (ρ := stE n rows leader c y5 (some (.int (k : Nat))) (some (.int (r.1 : Nat)))) (S := stS fs2) (n := 0) (kv := kvF fs2) (k := r.1) (v := .int (k : Nat)) rfl rfl rfl rfl (by rw [kvF_keys]; exact hg) (by rw [kvF_len]; exact hl)
        have e1 : kvF fs2 ++ [(r.1, .int (k : Nat))] = kvF (fs2 ++ [(r.1, some k)]) := by simp [kvF]
        have e2 : (keysF fs2).map nD ++ [.int (r.1 : Nat)] = (keysF (fs2 ++ [(r.1, some k)])).map nD := by simp [keysF]
        rw [e1] at hp
        refine ⟨_, stE n rows leader c y5 (some (.int (k : Nat))) (some (.int (r.1 : Nat))), stS (fs2 ++ [(r.1, some k)]), .nx, rfl, ?_, .inl rfl, _, _, _, rfl, rfl, T3, pf.trans ⟨[(r.1, some k)], rfl⟩, fun j k' r' hj hk' hr' => ?_⟩
        · generalize fs2 ++ [(r.1, some k)] = fs3 at hp e1 e2
          simp only [stE, stS] at hp
          simp [l2_steps_to, stE, stS, q, hg, hp, hb, e2]
        · by_cases e : j = i
          · subst e
            rw [hk] at hk'; cases hk'
            rw [hr] at hr'; cases hr'
            simp [keysF]
          · have := cov j k' r' (by omega) hk' hr'
            simp only [keysF, List.map_append, List.mem_append] at this ⊢
            exact .inl this)
  refine ⟨fs2, z6, z7, e, T2, pf, fun k r hr hp => ?_⟩
  obtain ⟨j, hj⟩ := List.mem_iff_getElem?.mp (tby_mem.mpr ⟨r, hr, hp⟩)
  exact cov j k r (by simpa using (List.getElem?_eq_some_iff.mp hj).1) hj hr
end DL

set_option maxHeartbeats 1000000
namespace DL
open PySem PySem.Spec L2
/-! ### ways to the leader, counted -/
def IsPath (rows : List Row) (fs : Fs) : List Nat → Nat → Prop
  | [], h => fs.lookup h = some none
  | k :: ps, h => fs.lookup h = some (some k) ∧ ∃ r, rows[k]? = some r ∧ IsPath rows fs ps r.2.1
section
variable {n : Nat} {rows : List Row} {leader : Nat} {fs : Fs}
theorem tree_path (T : TreeP n rows leader fs) : ∀ (i : Nat) (p : Nat) (o : Option Nat), fs[i]? = some (p, o) →
    ∃ ps, IsPath rows fs ps p ∧ ps.length ≤ i ∧ ps.Nodup ∧ ∀ k ∈ ps, ∃ r j, rows[k]? = some r ∧ 0 < j ∧ j ≤ i ∧ fs[j]? = some (r.1, some k) := by
  intro i
  induction i using Nat.strongRecOn with
  | ind i ih =>
    intro p o e
    by_cases h0 : i = 0
    · subst h0
      rw [T.hd] at e
      cases e
      exact ⟨[], look_of T.nd T.hd, by simp, List.nodup_nil, fun k hk => by simp at hk⟩
    · obtain ⟨k, r, j, q, rfl, hr, rfl, hj, hq⟩ := T.st i p o e (by omega)
      obtain ⟨ps, h1, h2, h3, h4⟩ := ih j hj _ _ hq
      refine ⟨k :: ps, ⟨look_of T.nd e, r, hr, h1⟩, by simp; omega, List.nodup_cons.mpr ⟨fun hk => ?_, h3⟩, fun k' hk' => ?_⟩
      · obtain ⟨r', j', e1, e2, e3, e4⟩ := h4 k hk
        rw [hr] at e1; cases e1
        have a1 := List.getElem?_eq_some_iff.mp e
        have a2 := List.getElem?_eq_some_iff.mp e4
        obtain ⟨l1, m1⟩ := a1
        obtain ⟨l2, m2⟩ := a2
        have nd := T.nd
        have k1 : (keysF fs)[i]'(by simp [keysF]; exact l1) = r.1 := by simp [keysF, m1]
        have k2 : (keysF fs)[j']'(by simp [keysF]; exact l2) = r.1 := by simp [keysF, m2]
        have := (List.getElem_inj nd).mp (k1.trans k2.symm)
        omega
      · rcases List.mem_cons.mp hk' with rfl | hk'
        · exact ⟨r, i, hr, by omega, Nat.le_refl i, e⟩
        · obtain ⟨r', j', e1, e2, e3, e4⟩ := h4 k' hk'
          exact ⟨r', j', e1, e2, by omega, e4⟩
/-- the way from a transfer on -/
structure IsWay (rows : List Row) (fs : Fs) (j : Nat) (w : List Nat) : Prop where
  ex : ∃ r ps, rows[j]? = some r ∧ w = j :: ps ∧ IsPath rows fs ps r.2.1
  nd : w.Nodup
  lt : ∀ k ∈ w, k < rows.length
theorem way_ex (T : TreeP n rows leader fs) (all : ∀ p < n, p ∈ keysF fs) {j : Nat} {r : Row} (hr : rows[j]? = some r) (ht : r.2.1 < n) : ∃ ps, IsPath rows fs ps r.2.1 ∧ ps.length ≤ n ∧ IsWay rows fs j (j :: ps) := by
  obtain ⟨⟨p, o⟩, hp, e⟩ := List.mem_map.mp (all _ ht)
  obtain ⟨i, hi⟩ := List.mem_iff_getElem?.mp hp
  have e' : p = r.2.1 := e
  subst e'
  obtain ⟨ps, h1, h2, h3, h4⟩ := tree_path T i _ o hi
  have hil := (List.getElem?_eq_some_iff.mp hi).1
  have hl : fs.length ≤ n := by
    have := List.Nodup.length_le_of_subset (l₂ := List.range n) T.nd fun x hx => List.mem_range.mpr (T.lt x hx)
    simpa [keysF] using this
  refine ⟨ps, h1, by omega, ⟨r, ps, hr, rfl, h1⟩, List.nodup_cons.mpr ⟨fun hj => ?_, h3⟩, fun k hk => ?_⟩
  · obtain ⟨r', j', e1, e2, e3, e4⟩ := h4 j hj
    rw [hr] at e1; cases e1
    obtain ⟨k', r2, j2, q, z1, z2, z3, z4, z5⟩ := T.st j' _ _ e4 e2
    cases z1
    rw [hr] at z2; cases z2
    have l1 := (List.getElem?_eq_some_iff.mp hi)
    have l2 := (List.getElem?_eq_some_iff.mp z5)
    obtain ⟨l1, m1⟩ := l1
    obtain ⟨l2, m2⟩ := l2
    have k1 : (keysF fs)[i]'(by simp [keysF]; exact l1) = r.2.1 := by simp [keysF, m1]
    have k2 : (keysF fs)[j2]'(by simp [keysF]; exact l2) = r.2.1 := by simp [keysF, m2]
    have := (List.getElem_inj T.nd).mp (k1.trans k2.symm)
    omega
  · rcases List.mem_cons.mp hk with rfl | hk
    · exact (List.getElem?_eq_some_iff.mp hr).1
    · obtain ⟨r', j', e1, _⟩ := h4 k hk
      exact (List.getElem?_eq_some_iff.mp e1).1
def inC (l w : List Nat) : Nat := w.countP fun k => decide (k ∈ l)
theorem inC_cons (l : List Nat) (k : Nat) (w : List Nat) : inC l (k :: w) = inC l w + if k ∈ l then 1 else 0 := by
  unfold inC
  rw [List.countP_cons]
  by_cases h : k ∈ l <;> simp [h]
theorem gby_at {k p : Nat} {r : Row} (hr : rows[k]? = some r) : k ∈ gby rows p ↔ r.1 = p := by
  rw [gby_mem]
  exact ⟨fun ⟨r', e, h⟩ => by rw [hr] at e; cases e; exact h, fun h => ⟨r, hr, h⟩⟩
theorem tby_at {k p : Nat} {r : Row} (hr : rows[k]? = some r) : k ∈ tby rows p ↔ r.2.1 = p := by
  rw [tby_mem]
  exact ⟨fun ⟨r', e, h⟩ => by rw [hr] at e; cases e; exact h, fun h => ⟨r, hr, h⟩⟩
theorem path_count (T : TreeP n rows leader fs) {q : Nat} (hq : q ≠ leader) : ∀ (ps : List Nat) (p : Nat), IsPath rows fs ps p → inC (gby rows q) ps = inC (tby rows q) ps + if p = q then 1 else 0
  | [], p, h => by
    have hp : p = leader := by
      have h' : fs.lookup p = some none := h
      have : ∃ i : Nat, fs[i]? = some (p, none) := by
        clear T
        induction fs with
        | nil => simp at h'
        | cons a fs ih =>
          rw [List.lookup_cons] at h'
          cases z : p == a.1 with
          | true =>
            rw [z] at h'
            have z' : p = a.1 := by simpa using z
            have h2 : a.2 = none := by simpa using h'
            exact ⟨0, by simp [Prod.ext_iff, z', h2]⟩
          | false =>
            rw [z] at h'
            obtain ⟨i, e⟩ := ih h' h'
            exact ⟨i + 1, by simpa using e⟩
      obtain ⟨i, e⟩ := this
      by_cases h0 : i = 0
      · subst h0
        rw [T.hd] at e
        cases e; rfl
      · obtain ⟨k, r, j, q, z, _⟩ := T.st i p none e (by omega)
        cases z
    have : ¬ p = q := fun z => hq (z ▸ hp)
    simp [inC, this]
  | k :: ps, p, ⟨h1, r, h2, h3⟩ => by
    have ih := path_count T hq ps _ h3
    have hp : r.1 = p := by
      have : ∃ i : Nat, fs[i]? = some (p, some k) := by
        clear ih T h3
        induction fs with
        | nil => simp at h1
        | cons a fs ih =>
          rw [List.lookup_cons] at h1
          cases z : p == a.1 with
          | true =>
            rw [z] at h1
            have z' : p = a.1 := by simpa using z
            have h2 : a.2 = some k := by simpa using h1
            exact ⟨0, by simp [Prod.ext_iff, z', h2]⟩
          | false =>
            rw [z] at h1
            obtain ⟨i, e⟩ := ih h1
            exact ⟨i + 1, by simpa using e⟩
      obtain ⟨i, e⟩ := this
      by_cases h0 : i = 0
      · subst h0
        rw [T.hd] at e
        cases e
      · obtain ⟨k', r', j, q, z1, z2, z3, _⟩ := T.st i p (some k) e (by omega)
        cases z1
        rw [h2] at z2; cases z2
        exact z3
    rw [inC_cons, inC_cons, ih]
    have a1 := gby_at (p := q) h2
    have a2 := tby_at (p := q) h2
    subst hp
    by_cases c1 : r.1 = q <;> by_cases c2 : r.2.1 = q <;> simp [a1, a2, c1, c2]
theorem way_count (T : TreeP n rows leader fs) {q : Nat} (hq : q ≠ leader) {j : Nat} {w : List Nat} (W : IsWay rows fs j w) : inC (gby rows q) w = inC (tby rows q) w + if j ∈ gby rows q then 1 else 0 := by
  obtain ⟨r, ps, hr, rfl, hp⟩ := W.ex
  have := path_count T hq ps _ hp
  rw [inC_cons, inC_cons, this]
  have a2 := tby_at (p := q) hr
  by_cases c2 : r.2.1 = q <;> simp [a2, c2]
def cntW (ways : List (List Nat)) (k : Nat) : Nat := (ways.filter fun w => decide (k ∈ w)).length
theorem sum_swap (ways : List (List Nat)) : ∀ K : List Nat, (K.map (cntW ways)).sum = (ways.map fun w => K.countP fun k => decide (k ∈ w)).sum
  | [] => by
    induction ways with
    | nil => rfl
    | cons w ways ih => simpa using ih
  | k :: K => by
    rw [List.map_cons, List.sum_cons, sum_swap ways K]
    have e : ∀ ways : List (List Nat), cntW ways k + (ways.map fun w => K.countP fun k => decide (k ∈ w)).sum = (ways.map fun w => (k :: K).countP fun k => decide (k ∈ w)).sum := by
      intro ways
      induction ways with
      | nil => rfl
      | cons w ways ih =>
        simp only [List.map_cons, List.sum_cons]
        rw [← ih, List.countP_cons]
        unfold cntW
        rw [List.filter_cons]
        by_cases c : k ∈ w <;> simp [c] <;> omega
    exact e ways
theorem count_flip {K w : List Nat} (h1 : K.Nodup) (h2 : w.Nodup) : (K.countP fun k => decide (k ∈ w)) = inC K w := by
  unfold inC
  rw [List.countP_eq_length_filter, List.countP_eq_length_filter]
  refine List.Perm.length_eq ((List.perm_ext_iff_of_nodup (h1.filter _) (h2.filter _)).mpr fun a => ?_)
  simp [List.mem_filter, and_comm]
theorem sum_cnt {K : List Nat} (h1 : K.Nodup) {ways : List (List Nat)} (h2 : ∀ w ∈ ways, w.Nodup) : (K.map (cntW ways)).sum = (ways.map (inC K)).sum := by
  rw [sum_swap]
  refine congrArg List.sum (List.map_congr_left fun w hw => ?_)
  exact count_flip h1 (h2 w hw)
theorem nodup_gby (p : Nat) : (gby rows p).Nodup := (numsBy_pw _ rows).imp fun {a b} z => Nat.ne_of_lt z
theorem nodup_tby (p : Nat) : (tby rows p).Nodup := (numsBy_pw _ rows).imp fun {a b} z => Nat.ne_of_lt z
theorem sum_ind {K : List Nat} (hK : K.Nodup) (m : Nat) (h : ∀ k ∈ K, k < m) : ((List.range m).map fun j => if j ∈ K then 1 else 0).sum = K.length := by
  have e : ∀ l : List Nat, (l.map fun j => if j ∈ K then 1 else 0).sum = (l.filter fun j => decide (j ∈ K)).length := by
    intro l
    induction l with
    | nil => rfl
    | cons a l ih =>
      rw [List.map_cons, List.sum_cons, ih, List.filter_cons]
      by_cases c : a ∈ K <;> simp [c] <;> omega
  rw [e]
  refine List.Perm.length_eq ((List.perm_ext_iff_of_nodup (List.nodup_range.filter _) hK).mpr fun a => ?_)
  simp only [List.mem_filter, List.mem_range, decide_eq_true_eq]
  exact ⟨fun z => z.2, fun z => ⟨h a z, z⟩⟩
theorem ways_bal (T : TreeP n rows leader fs) {q : Nat} (hq : q ≠ leader) {wy : Nat → List Nat} (hw : ∀ j < rows.length, IsWay rows fs j (wy j)) :
    ((gby rows q).map (cntW ((List.range rows.length).map wy))).sum = ((tby rows q).map (cntW ((List.range rows.length).map wy))).sum + (gby rows q).length := by
  have nd : ∀ w ∈ (List.range rows.length).map wy, w.Nodup := fun w h => by
    obtain ⟨j, hj, rfl⟩ := List.mem_map.mp h
    exact (hw j (List.mem_range.mp hj)).nd
  rw [sum_cnt (nodup_gby q) nd, sum_cnt (nodup_tby q) nd, List.map_map, List.map_map]
  rw [← sum_ind (nodup_gby (rows := rows) q) rows.length fun k hk => by
    obtain ⟨r, h, _⟩ := gby_mem.mp hk
    exact (List.getElem?_eq_some_iff.mp h).1]
  have e : ∀ l : List Nat, (∀ j ∈ l, j < rows.length) → (l.map (inC (gby rows q) ∘ wy)).sum = (l.map (inC (tby rows q) ∘ wy)).sum + (l.map fun j => if j ∈ gby rows q then 1 else 0).sum := by
    intro l hl
    induction l with
    | nil => rfl
    | cons a l ih =>
      have := way_count T hq (hw a (hl a (by simp)))
      have ih' := ih fun j hj => hl j (by simp [hj])
      simp only [List.map_cons, List.sum_cons, ih', Function.comp] at this ⊢
      omega
  exact e _ fun j hj => List.mem_range.mp hj
theorem cnt_self {wy : Nat → List Nat} (hw : ∀ j < rows.length, IsWay rows fs j (wy j)) {k : Nat} (hk : k < rows.length) : 1 ≤ cntW ((List.range rows.length).map wy) k := by
  unfold cntW
  refine List.length_pos_iff.mpr fun e => ?_
  have : wy k ∈ ((List.range rows.length).map wy).filter fun w => decide (k ∈ w) := by
    refine List.mem_filter.mpr ⟨List.mem_map.mpr ⟨k, List.mem_range.mpr hk, rfl⟩, ?_⟩
    obtain ⟨r, ps, _, e, _⟩ := (hw k hk).ex
    rw [e]; simp
  rw [e] at this
  simp at this
end
/-! ### sums of what is paid -/
def gvr (rows : List Row) (k : Nat) : Nat := (rows.getD k (0, 0, 0)).1
def tkr (rows : List Row) (k : Nat) : Nat := (rows.getD k (0, 0, 0)).2.1
theorem getD_of {rows : List Row} {k : Nat} {r : Row} (h : rows[k]? = some r) : rows.getD k (0, 0, 0) = r := by
  rw [List.getD_eq_getElem?_getD, h]; rfl
theorem gby_eq (rows : List Row) (p : Nat) : gby rows p = (List.range rows.length).filter fun k => decide (gvr rows k = p) := by
  refine pw_le_ext (numsBy_pw _ _) (List.Pairwise.filter _ List.pairwise_lt_range) fun k => ?_
  rw [gby_mem, List.mem_filter, List.mem_range, decide_eq_true_eq]
  constructor
  · rintro ⟨r, h, e⟩
    refine ⟨(List.getElem?_eq_some_iff.mp h).1, ?_⟩
    unfold gvr; rw [getD_of h]; exact e
  · rintro ⟨h, e⟩
    have h' := List.getElem?_eq_getElem h
    refine ⟨_, h', ?_⟩
    unfold gvr at e; rw [getD_of h'] at e; exact e
theorem tby_eq (rows : List Row) (p : Nat) : tby rows p = (List.range rows.length).filter fun k => decide (tkr rows k = p) := by
  refine pw_le_ext (numsBy_pw _ _) (List.Pairwise.filter _ List.pairwise_lt_range) fun k => ?_
  rw [tby_mem, List.mem_filter, List.mem_range, decide_eq_true_eq]
  constructor
  · rintro ⟨r, h, e⟩
    refine ⟨(List.getElem?_eq_some_iff.mp h).1, ?_⟩
    unfold tkr; rw [getD_of h]; exact e
  · rintro ⟨h, e⟩
    have h' := List.getElem?_eq_getElem h
    refine ⟨_, h', ?_⟩
    unfold tkr at e; rw [getD_of h'] at e; exact e
theorem sum_pick (n c : Nat) (u : Nat → Int) (x : Int) (h : c < n) : ((List.range n).map fun p => u p * (if c = p then x else 0)).sum = u c * x := by
  induction n with
  | zero => omega
  | succ n ih =>
    rw [List.range_succ, List.map_append, List.sum_append_int]
    by_cases e : c = n
    · subst e
      have z : ∀ l : List Nat, (∀ p ∈ l, p ≠ c) → (l.map fun p => u p * (if c = p then x else 0)).sum = 0 := by
        intro l hl
        induction l with
        | nil => rfl
        | cons a l ih =>
          have : ¬ c = a := fun z => hl a (by simp) z.symm
          rw [List.map_cons, List.sum_cons, ih fun p hp => hl p (by simp [hp]), if_neg this]
          simp
      rw [z _ fun p hp => by have := List.mem_range.mp hp; omega]
      simp
    · rw [ih (by omega)]
      simp [e]
theorem sum_addI {α : Type} (l : List α) (f g : α → Int) : (l.map fun a => f a + g a).sum = (l.map f).sum + (l.map g).sum := by
  induction l with
  | nil => rfl
  | cons a l ih => simp only [List.map_cons, List.sum_cons, ih]; omega
theorem sum_class (n : Nat) (c : Nat → Nat) (f u : Nat → Int) : ∀ l : List Nat, (∀ k ∈ l, c k < n) → ((List.range n).map fun p => u p * ((l.filter fun k => decide (c k = p)).map f).sum).sum = (l.map fun k => u (c k) * f k).sum
  | [], _ => by
    have : ∀ l : List Nat, (l.map fun p => u p * ((([] : List Nat).filter fun k => decide (c k = p)).map f).sum).sum = 0 := by
      intro l
      induction l with
      | nil => rfl
      | cons a l ih => rw [List.map_cons, List.sum_cons, ih]; simp
    exact this _
  | k :: l, h => by
    have ih := sum_class n c f u l fun k' hk' => h k' (by simp [hk'])
    rw [List.map_cons, List.sum_cons, ← ih, ← sum_pick n (c k) u (f k) (h k (by simp)), ← sum_addI]
    refine congrArg List.sum (List.map_congr_left fun p _ => ?_)
    rw [List.filter_cons]
    by_cases e : c k = p
    · simp [e, Int.mul_add]
    · simp [e]
def offer (am lot : List Nat) (k : Nat) : Int := if k ∈ lot then 0 else (amt am k : Nat)
theorem sumOut_eq (am lot ks : List Nat) : sumOut am lot ks = (ks.map (offer am lot)).sum := by
  unfold sumOut
  induction ks with
  | nil => rfl
  | cons k ks ih =>
    rw [List.filter_cons, List.map_cons, List.sum_cons, ← ih]
    by_cases e : k ∈ lot <;> simp [e, offer]
section
variable {n : Nat} {rows : List Row} {leader : Nat} {fs : Fs}
theorem gvr_lt (ok : ∀ r ∈ rows, r.1 < n ∧ r.2.1 < n) {k : Nat} (hk : k < rows.length) : gvr rows k < n ∧ tkr rows k < n := by
  have h' := List.getElem?_eq_getElem hk
  unfold gvr tkr
  rw [getD_of h']
  exact ok _ (List.getElem_mem hk)
theorem net_class (ok : ∀ r ∈ rows, r.1 < n ∧ r.2.1 < n) (am lot : List Nat) (u : Nat → Int) :
    ((List.range n).map fun p => u p * netOf rows am p lot).sum = ((List.range rows.length).map fun k => u (gvr rows k) * offer am lot k).sum - ((List.range rows.length).map fun k => u (tkr rows k) * offer am lot k).sum := by
  rw [← sum_class n (gvr rows) (offer am lot) u _ fun k hk => (gvr_lt ok (List.mem_range.mp hk)).1, ← sum_class n (tkr rows) (offer am lot) u _ fun k hk => (gvr_lt ok (List.mem_range.mp hk)).2]
  have : ∀ l : List Nat, (l.map fun p => u p * netOf rows am p lot).sum = (l.map fun p => u p * ((List.filter (fun k => decide (gvr rows k = p)) (List.range rows.length)).map (offer am lot)).sum).sum - (l.map fun p => u p * ((List.filter (fun k => decide (tkr rows k = p)) (List.range rows.length)).map (offer am lot)).sum).sum := by
    intro l
    induction l with
    | nil => rfl
    | cons a l ih =>
      rw [List.map_cons, List.map_cons, List.map_cons, List.sum_cons, List.sum_cons, List.sum_cons, ih]
      unfold netOf
      rw [sumOut_eq, sumOut_eq, gby_eq, tby_eq, Int.mul_sub]
      omega
  exact this _
theorem net_zero (ok : ∀ r ∈ rows, r.1 < n ∧ r.2.1 < n) (am lot : List Nat) : ((List.range n).map fun p => netOf rows am p lot).sum = 0 := by
  have := net_class ok am lot fun _ => 1
  simp only [Int.one_mul] at this
  rw [this]
  omega
theorem net_scale (am lot : List Nat) (t p : Nat) : netOf rows (am.map fun a => t * a) p lot = t * netOf rows am p lot := by
  have e : ∀ ks : List Nat, (ks.map (offer (am.map fun a => t * a) lot)).sum = (t : Int) * (ks.map (offer am lot)).sum := by
    intro ks
    induction ks with
    | nil => simp
    | cons k ks ih =>
      rw [List.map_cons, List.map_cons, List.sum_cons, List.sum_cons, ih, Int.mul_add]
      congr 1
      unfold offer amt
      by_cases c : k ∈ lot
      · simp [c]
      · rw [if_neg c, if_neg c]
        simp only [List.getD_eq_getElem?_getD, List.getElem?_map]
        cases am[k]? <;> simp
  unfold netOf
  rw [sumOut_eq, sumOut_eq, sumOut_eq, sumOut_eq, e, e, Int.mul_sub]
theorem NoShort.less {b c : Nat} {am : List Nat} (h : NoShort n rows leader b am) (hc : c ≤ b) : NoShort n rows leader c am := fun p hp => by
  obtain ⟨h1, h2⟩ := h p hp
  refine ⟨fun k hk => Nat.le_trans hc (h1 k hk), fun e => ?_⟩
  have := h2 e
  have := Nat.mul_le_mul_right (gby rows p).length hc
  omega
theorem sum_leI {l : List Nat} {f g : Nat → Int} (h : ∀ k ∈ l, f k ≤ g k) : (l.map f).sum ≤ (l.map g).sum := by
  induction l with
  | nil => simp
  | cons a l ih =>
    have := ih fun k hk => h k (by simp [hk])
    have := h a (by simp)
    simp only [List.map_cons, List.sum_cons]
    omega
theorem shut_short (ok : ∀ r ∈ rows, r.1 < n ∧ r.2.1 < n) (giv : ∀ p < n, p ∈ rows.map (·.1)) (T : Tree n rows leader fs) {p0 : Nat} (hp : p0 < n) (hn : p0 ∉ keysF fs) {b : Nat} (hb : 1 ≤ b) (am : List Nat) : ¬ NoShort n rows leader b am := by
  intro h
  have hl : leader ∈ keysF fs := mem_keysF T.hd
  have key : ∀ p < n, p ∉ keysF fs → 1 ≤ netOf rows am p [] := by
    intro p hp hpn
    have := (h p hp).2 fun z => hpn (z ▸ hl)
    obtain ⟨r, hr, e⟩ := List.mem_map.mp (giv p hp)
    obtain ⟨k, hk⟩ := List.mem_iff_getElem?.mp hr
    have : 0 < (gby rows p).length := List.length_pos_of_mem (gby_mem.mpr ⟨r, hk, e⟩)
    have : 1 * 1 ≤ b * (gby rows p).length := Nat.mul_le_mul hb this
    omega
  have c := net_class ok am [] fun p => if p ∈ keysF fs then 0 else 1
  have le1 : ((List.range n).map fun p => if p = p0 then (1 : Int) else 0).sum ≤ ((List.range n).map fun p => (if p ∈ keysF fs then (0 : Int) else 1) * netOf rows am p []).sum := by
    refine sum_leI fun p hp => ?_
    have hp' := List.mem_range.mp hp
    by_cases e : p = p0
    · subst e
      simp [hn]
      exact key p hp' hn
    · rw [if_neg e]
      by_cases m : p ∈ keysF fs
      · simp [m]
      · have := key p hp' m
        simp [m]
        omega
  have e1 : ((List.range n).map fun p => if p = p0 then (1 : Int) else 0).sum = 1 := by
    have := sum_pick n p0 (fun _ => 1) 1 hp
    simp only [Int.one_mul] at this
    refine Eq.trans (congrArg List.sum (List.map_congr_left fun p _ => ?_)) this
    by_cases e : p = p0
    · rw [if_pos e, if_pos e.symm]
    · rw [if_neg e, if_neg fun z => e z.symm]
  have le2 : ((List.range rows.length).map fun k => (if gvr rows k ∈ keysF fs then (0 : Int) else 1) * offer am [] k).sum ≤ ((List.range rows.length).map fun k => (if tkr rows k ∈ keysF fs then (0 : Int) else 1) * offer am [] k).sum := by
    refine sum_leI fun k hk => ?_
    have hk' := List.mem_range.mp hk
    have h' := List.getElem?_eq_getElem hk'
    have cl := T.cl k _ h'
    have o : 0 ≤ offer am [] k := by simp [offer]
    unfold gvr tkr
    rw [getD_of h']
    by_cases m : rows[k].2.1 ∈ keysF fs
    · simp [m, cl m]
    · by_cases m2 : rows[k].1 ∈ keysF fs
      · simp [m, m2]; exact o
      · simp [m, m2]
  omega
theorem ways_amt {wy : Nat → List Nat} {B k : Nat} (hk : k < rows.length) : amt ((List.range rows.length).map fun k => B * cntW ((List.range rows.length).map wy) k) k = B * cntW ((List.range rows.length).map wy) k := by
  unfold amt
  rw [List.getD_eq_getElem?_getD, List.getElem?_map, List.getElem?_range hk]
  rfl
theorem ways_net (T : TreeP n rows leader fs) {q : Nat} (hq : q ≠ leader) {wy : Nat → List Nat} (hw : ∀ j < rows.length, IsWay rows fs j (wy j)) (B : Nat) :
    netOf rows ((List.range rows.length).map fun k => B * cntW ((List.range rows.length).map wy) k) q [] = ((B * (gby rows q).length : Nat) : Int) := by
  have e : ∀ ks : List Nat, (∀ k ∈ ks, k < rows.length) → (ks.map (offer ((List.range rows.length).map fun k => B * cntW ((List.range rows.length).map wy) k) [])).sum = ((B * (ks.map (cntW ((List.range rows.length).map wy))).sum : Nat) : Int) := by
    intro ks hk
    induction ks with
    | nil => simp
    | cons k ks ih =>
      rw [List.map_cons, List.map_cons, List.sum_cons, List.sum_cons, ih fun k hk' => hk k (by simp [hk'])]
      have : offer ((List.range rows.length).map fun k => B * cntW ((List.range rows.length).map wy) k) [] k = ((B * cntW ((List.range rows.length).map wy) k : Nat) : Int) := by
        unfold offer
        rw [if_neg (by simp), ways_amt (hk k (by simp))]
      rw [this, Nat.mul_add, Int.natCast_add]
  unfold netOf
  rw [sumOut_eq, sumOut_eq, e (gby rows q) (numsBy_ok _ rows).2, e (tby rows q) (numsBy_ok _ rows).2, ways_bal T hq hw, Nat.mul_add, Int.natCast_add]
  omega
theorem ways_keep (T : TreeP n rows leader fs) {wy : Nat → List Nat} (hw : ∀ j < rows.length, IsWay rows fs j (wy j)) (B : Nat) : NoShort n rows leader B ((List.range rows.length).map fun k => B * cntW ((List.range rows.length).map wy) k) := fun p hp => by
  refine ⟨fun k hk => ?_, fun e => by rw [ways_net T e hw]; exact Int.le_refl _⟩
  have hk' := (numsBy_ok _ rows).2 k hk
  rw [ways_amt hk']
  have := cnt_self hw hk'
  have := Nat.mul_le_mul_left B this
  omega
theorem ways_tight (T : TreeP n rows leader fs) (h2 : 2 ≤ n) (giv : ∀ p < n, p ∈ rows.map (·.1)) {wy : Nat → List Nat} (hw : ∀ j < rows.length, IsWay rows fs j (wy j)) (B : Nat) : ¬ NoShort n rows leader (B + 1) ((List.range rows.length).map fun k => B * cntW ((List.range rows.length).map wy) k) := fun h => by
  obtain ⟨q, hq, hne⟩ : ∃ q, q < n ∧ q ≠ leader := by
    by_cases e : leader = 0
    · exact ⟨1, by omega, by omega⟩
    · exact ⟨0, by omega, by omega⟩
  have := (h q hq).2 hne
  rw [ways_net T hne hw] at this
  obtain ⟨r, hr, e⟩ := List.mem_map.mp (giv q hq)
  obtain ⟨k, hk⟩ := List.mem_iff_getElem?.mp hr
  have : 0 < (gby rows q).length := List.length_pos_of_mem (gby_mem.mpr ⟨r, hk, e⟩)
  rw [Nat.add_mul] at *
  omega
end
end DL

set_option maxHeartbeats 1000000
namespace DL
open PySem PySem.Spec L2
@[simp] theorem nr_kvF (fs : Fs) : nr (natDicD (kvF fs)) = true := by
  show nrs (dvD (kvF fs)) = true
  have e : dvD (kvF fs) = fs.map fun p => onD p.2 := by simp [dvD, kvF]
  rw [e]
  simp
theorem fz_dic0 (fs : Fs) (T : Sto) : fz (natDic (kvF fs) :: T) (.ref 0) = some (natDicD (kvF fs)) := by
  have e : fz (natDic (kvF fs) :: T) (.ref 0) = frz 3 (natDic (kvF fs) :: T) (.ref 0) := if_neg (by simp)
  rw [e]
  show frzS _ (.ref 0) = _
  have hn : nrs (dvD (kvF fs)) = true := nr_kvF fs
  have m := mapM_id (g := frz 2 (natDic (kvF fs) :: T)) (ds := dvD (kvF fs)) fun d m => frz_nr 2 _ (nrs_all.mp hn d m)
  simp only [frzS, List.getElem?_cons_zero, Option.bind_some, natDic] at m ⊢
  rw [m]
  rfl
theorem closedTo_more {rows : List Row} {fs fs2 : Fs} {a : Nat} (h : ClosedTo rows fs a) (pf : fs <+: fs2) (ha : a < fs.length) {p : Nat} {o : Option Nat} (hp : fs[a]? = some (p, o)) (cov : ∀ (k : Nat) (r : Row), rows[k]? = some r → r.2.1 = p → r.1 ∈ keysF fs2) : ClosedTo rows fs2 (a + 1) := by
  obtain ⟨t, rfl⟩ := pf
  intro i q o' e hi k r hr hq
  rw [List.getElem?_append_left (by omega)] at e
  by_cases hia : i = a
  · subst hia
    rw [hp] at e; cases e
    exact cov k r hr hq
  · have := h i q o' e (by omega) k r hr hq
    simp only [keysF, List.map_append, List.mem_append] at this ⊢
    exact .inl this
theorem steps_to_w {n : Nat} {rows : List Row} {leader : Nat} (hn : n ≤ 1000) (hr : rows.length ≤ 1000000) (ok : ∀ r ∈ rows, rowOk n r = true) (hl : leader < n) :
    ∃ fs, f_steps_to [webD n rows, .int leader] = some (natDicD (kvF fs)) ∧ Tree n rows leader fs := by
  obtain ⟨ρ', S', e, fs, a, y5, y6, y7, rfl, rfl, T, cl, ha⟩ := while_inv (t := l1_steps_to_t) (body := l1_steps_to)
    (fun m ρ S => ∃ fs a y5 y6 y7, ρ = stE n rows leader a y5 y6 y7 ∧ S = stS fs ∧ TreeP n rows leader fs ∧ ClosedTo rows fs a ∧ a ≤ fs.length ∧ m = n - a)
    (fun ρ S => ∃ fs a y5 y6 y7, ρ = stE n rows leader a y5 y6 y7 ∧ S = stS fs ∧ TreeP n rows leader fs ∧ ClosedTo rows fs a ∧ a = fs.length) (by
      rintro m ρ S ⟨fs, a, y5, y6, y7, rfl, rfl, T, cl, ha, rfl⟩
      have len := T.len
      by_cases h : a < fs.length
      · right
        have hI : (a : Int) < fs.length := by omega
        refine ⟨by simp [l1_steps_to_t, stE, stS, seqD, keysF, h], ?_⟩
        obtain ⟨p, o⟩ : Nat × Option Nat := fs[a]
        have hpa := List.getElem?_eq_getElem h
        obtain ⟨⟨p, o⟩, hp⟩ : ∃ q, fs[a]? = some q := ⟨_, hpa⟩
        obtain ⟨fs2, z6, z7, e, T2, pf, cov⟩ := steps_inner hn ok T hp (a + 1) (some (.int (p : Nat))) y6 y7
        refine ⟨.nx, stE n rows leader (a + 1) (some (.int (p : Nat))) z6 z7, stS fs2, n - (a + 1), ?_, .inl rfl, by omega, fs2, a + 1, _, _, _, rfl, rfl, T2, closedTo_more cl pf h hp cov, ?_, rfl⟩
        · have kq : atI ((keysF fs).map nD) (a : Int) = some (.int (p : Nat)) := by
            rw [atI_map]
            simp [keysF, hp]
          simp only [stE, stS] at e
          simp [l1_steps_to, stE, stS, seqD, kq, got_by_w n rows p hr]
          simpa using e
        · obtain ⟨t, rfl⟩ := pf
          simp; omega
      · left
        have hI : ¬ ((a : Int) < fs.length) := by omega
        exact ⟨by simp [l1_steps_to_t, stE, stS, seqD, keysF]; omega, fs, a, y5, y6, y7, rfl, rfl, T, cl, by omega⟩)
    (n := n - 0) (ρ := stE n rows leader 0 none none none) (S := stS [(leader, none)]) ⟨[(leader, none)], 0, none, none, none, rfl, rfl, TreeP.one hl, fun i p o _ h => by omega, by simp, rfl⟩
  subst ha
  refine ⟨fs, ?_, Tree.of T cl⟩
  simp only [stE, stS] at e
  have e' : sWhile l1_steps_to_t l1_steps_to [some (webD n rows), some (.int (leader : Nat)), some (.ref 0), some (.ref 1), some (.int 0), none, none, none] [.dic false [.int (leader : Nat)] [.non], .lst [.int (leader : Nat)]] = _ := e
  simp [f_steps_to, b_steps_to, run_eq, startR, x_sNewD1]
  rw [e']
  simp [fz_dic0]
/-! the way on -/
def wyE (n : Nat) (rows : List Row) (fs : Fs) (j p : Nat) : Rho := [some (webD n rows), some (natDicD (kvF fs)), some (.int (j : Nat)), some (.ref 0), some (.int (p : Nat))]
theorem way_loop {n : Nat} {rows : List Row} {fs : Fs} (j : Nat) : ∀ (ps : List Nat) (p : Nat) (found : List Nat), IsPath rows fs ps p → found.length + ps.length ≤ 1000000 →
    ∃ p', whileN l1_way_on_t l1_way_on (ps.length + 1) (wyE n rows fs j p) [.lst (found.map nD)] = some (.nx, wyE n rows fs j p', [.lst ((found ++ ps).map nD)])
  | [], p, found, h, _ => ⟨p, by
    have h' : fs.lookup p = some none := h
    simp [whileN, l1_way_on_t, wyE, kvF_look, h']⟩
  | k :: ps, p, found, ⟨h1, r, h2, h3⟩, hl => by
    have hs : found.length ≤ 1000000 := by simp at hl; omega
    obtain ⟨p', ih⟩ := way_loop (n := n) (rows := rows) (fs := fs) j ps r.2.1 (found ++ [k]) h3 (by simp at hl ⊢; omega)
    refine ⟨p', ?_⟩
    have q := tree_get k r h2
    simp only [List.length_cons]
    rw [whileN]
    simp [l1_way_on_t, l1_way_on, wyE, kvF_look, h1, hs, q] at ih ⊢
    exact ih
theorem way_on_w {n : Nat} {rows : List Row} {fs : Fs} {j : Nat} {r : Row} {ps : List Nat} (hr : rows[j]? = some r) (h : IsPath rows fs ps r.2.1) (hl : ps.length ≤ 1000) : f_way_on [webD n rows, natDicD (kvF fs), .int j] = some (lotD (j :: ps)) := by
  obtain ⟨p', e⟩ := way_loop (n := n) j ps r.2.1 [j] h (by simp; omega)
  have e' := sWhile_of e
  have q := tree_get j r hr
  simp [wyE] at e'
  simp [f_way_on, b_way_on, run_eq, startR, q, e']
  simp [lotD]
theorem shut_in_w {n : Nat} {rows : List Row} (hn : n ≤ 1000) (fs : Fs) : f_shut_in [webD n rows, natDicD (kvF fs)] = some (lotD ((List.range n).filter fun p => !decide (p ∈ keysF fs))) := by
  have hn' : n ≤ 1000000 := by omega
  simp [f_shut_in, b_shut_in, run_eq, startR, rng1_nat hn', compL_gen, hn']
  simp [lotD]
theorem amounts_by_w {n : Nat} {rows : List Row} (hr : rows.length ≤ 1000) {b : Nat} (hb : b ≤ 1000) {ways : List (List Nat)} (hw : ways.length ≤ 1000) : f_amounts_by [webD n rows, .int b, .tup (ways.map lotD)] = some (lotD ((List.range rows.length).map fun k => b * cntW ways k)) := by
  have hr' : rows.length ≤ 1000000 := by omega
  have hw' : ways.length ≤ 1000000 := by omega
  have cm : ∀ j : Int, cMul (b : Int) j = true := fun j => cMul_l (by rw [Int.natAbs_natCast]; omega)
  simp [f_amounts_by, b_amounts_by, run_eq, startR, rng1_nat hr', compL_gen, hr', hw', cm]
  simp [lotD, cntW]
theorem forfeits_w {n : Nat} {rows : List Row} (W : WebOk n rows) {leader : Nat} (hl : leader < n) : ∃ fs, Tree n rows leader fs ∧
    ((∃ p0 < n, p0 ∉ keysF fs ∧ ∃ shut : List Nat, ∀ b : Nat, 1 ≤ b → b ≤ 1000 → f_forfeits [webD n rows, .int leader, .int b] = some (.tup [.str "lot", lotD shut])) ∨
    (∃ wy : Nat → List Nat, (∀ j < rows.length, IsWay rows fs j (wy j)) ∧ ∀ b : Nat, 1 ≤ b → b ≤ 1000 → f_forfeits [webD n rows, .int leader, .int b] = some (.tup [.str "ways", .tup (((List.range rows.length).map wy).map lotD), lotD ((List.range rows.length).map fun k => b * cntW ((List.range rows.length).map wy) k)]))) := by
  have h6 := W.n6
  have h10 := W.r10
  have hr' : rows.length ≤ 1000000 := by omega
  obtain ⟨fs, e, T⟩ := steps_to_w (by omega : n ≤ 1000) (by omega) W.ok hl
  refine ⟨fs, T, ?_⟩
  have sh := shut_in_w (rows := rows) (by omega : n ≤ 1000) fs
  by_cases h : ∀ p < n, p ∈ keysF fs
  · right
    have em : ((List.range n).filter fun p => !decide (p ∈ keysF fs)) = [] := List.filter_eq_nil_iff.mpr fun p hp => by simp [h p (List.mem_range.mp hp)]
    rw [em] at sh
    have ok : ∀ r ∈ rows, r.1 < n ∧ r.2.1 < n := fun r hr => rowOk_lt (W.ok r hr)
    have ex : ∀ j, ∃ w, j < rows.length → IsWay rows fs j w ∧ f_way_on [webD n rows, natDicD (kvF fs), .int j] = some (lotD w) := fun j => by
      by_cases hj : j < rows.length
      · have hr := List.getElem?_eq_getElem hj
        obtain ⟨ps, h1, h2, h3⟩ := way_ex T.toTreeP h hr (ok _ (List.getElem_mem hj)).2
        exact ⟨j :: ps, fun _ => ⟨h3, way_on_w hr h1 (by omega)⟩⟩
      · exact ⟨[], fun z => absurd z hj⟩
    obtain ⟨wy, hw⟩ := Classical.axiomOfChoice ex
    refine ⟨wy, fun j hj => (hw j hj).1, fun b h1 h2 => ?_⟩
    have c : cmpM (fun k : Nat => f_way_on [webD n rows, natDicD (kvF fs), .int k]) (List.range rows.length) = some (((List.range rows.length).map wy).map lotD) := by
      rw [List.map_map]
      exact (cmpM_congr rfl fun k hk => (hw k (List.mem_range.mp hk)).2).trans (cmpM_some _ _)
    have am := amounts_by_w (n := n) (rows := rows) (by omega) h2 (ways := (List.range rows.length).map wy) (by simp; omega)
    simp only [List.map_map] at c am ⊢
    have sh' : f_shut_in [webD n rows, natDicD (kvF fs)] = some (.tup []) := sh
    simp [f_forfeits, b_forfeits, run_eq, startR, need_case_ok W hl h1 h2, e, sh', rng1_nat hr', c, hr', am]
  · left
    obtain ⟨p0, hp0⟩ := Classical.not_forall.mp h
    obtain ⟨h0, h1⟩ := Classical.not_imp.mp hp0
    refine ⟨p0, h0, h1, (List.range n).filter fun p => !decide (p ∈ keysF fs), fun b b1 b2 => ?_⟩
    have ne : ((List.range n).filter fun p => !decide (p ∈ keysF fs)) ≠ [] := fun z => by
      have : p0 ∈ ((List.range n).filter fun p => !decide (p ∈ keysF fs)) := List.mem_filter.mpr ⟨List.mem_range.mpr h0, by simpa using h1⟩
      rw [z] at this; simp at this
    have tr : truD [] (lotD ((List.range n).filter fun p => !decide (p ∈ keysF fs))) = some true := by
      show truD [] (.tup _) = _
      rw [t_tup]
      cases z : ((List.range n).filter fun p => !decide (p ∈ keysF fs)) with
      | nil => exact absurd z ne
      | cons a l => rfl
    simp [f_forfeits, b_forfeits, run_eq, startR, need_case_ok W hl b1 b2, e, sh, tr]
end DL

set_option maxHeartbeats 1000000
namespace DL
open PySem PySem.Spec L2
theorem law_gets_w (n : Nat) (rows : List Row) (p : Nat) (h : rows.length ≤ 1000000) : f_law_gets [webD n rows, .int p] = some (.lst ((tby rows p).map nD)) := by
  have c : cmpF (fun x : Nat => ((((atI (rows.map rowD) (x : Int)).bind fun y => (seqD [] y).bind fun l => atI l 1).bind fun z => gEq [] z (.int (p : Nat))).bind asB).bind fun b => if b = true then some (some (D.int (x : Nat))) else some none) (List.range rows.length) = some ((tby rows p).map nD) := by
    rw [tby_eq]
    refine (cmpF_congr rfl fun x hx => ?_).trans (cmpF_ite (fun x => tkr rows x = p) (fun x => nD x) _)
    obtain ⟨r, hr⟩ : ∃ r, rows[x]? = some r := ⟨_, List.getElem?_eq_getElem (List.mem_range.mp hx)⟩
    have e : tkr rows x = r.2.1 := by unfold tkr; rw [getD_of hr]
    rw [tree_get x _ hr, e]
    by_cases h : r.2.1 = p
    · simp [h]
    · have h' : ¬ ((r.2.1 : Int) = p) := by omega
      simp [h, h']
  have lt : (tby rows p).length ≤ 1000000 := Nat.le_trans (numsBy_len _ _) h
  simp [f_law_gets, b_law_gets, run_eq, startR, rng1_nat h, compL_gen, c, lt]
def lsE (n : Nat) (rows : List Row) (leader a : Nat) (y5 : Option D) : Rho := [some (webD n rows), some (.int (leader : Nat)), some (.ref 0), some (.ref 1), some (.int (a : Nat)), y5]
theorem lsteps_inner {n : Nat} {rows : List Row} {leader : Nat} (hn : n ≤ 1000) (ok : ∀ r ∈ rows, rowOk n r = true) {fs : Fs} (T : TreeP n rows leader fs) {a p : Nat} {o : Option Nat} (ha : fs[a]? = some (p, o)) (c : Nat) (y5 : Option D) :
    ∃ fs2 z5, loopL (gN 5) l2_law_steps ((tby rows p).map nD) (lsE n rows leader c y5) (stS fs) = some (.nx, lsE n rows leader c z5, stS fs2) ∧ TreeP n rows leader fs2 ∧ fs <+: fs2 ∧ ∀ (k : Nat) (r : Row), rows[k]? = some r → r.2.1 = p → r.1 ∈ keysF fs2 := by
  obtain ⟨ρ', S', e, fs2, z6, rfl, rfl, T2, pf, cov⟩ := loop_inv (g := gN 5) (body := l2_law_steps) (ds := (tby rows p).map nD) (ρ := lsE n rows leader c y5) (S := stS fs)
    (fun i ρ S => ∃ fs2 z6, ρ = lsE n rows leader c z6 ∧ S = stS fs2 ∧ TreeP n rows leader fs2 ∧ fs <+: fs2 ∧ ∀ j k r, j < i → (tby rows p)[j]? = some k → rows[k]? = some r → r.1 ∈ keysF fs2)
    ⟨fs, y5, rfl, rfl, T, List.prefix_rfl, fun j k r h => by omega⟩ (by
      rintro i d ρ S hi ⟨fs2, z6, rfl, rfl, T2, pf, cov⟩
      obtain ⟨k, hk, hd⟩ : ∃ k, (tby rows p)[i]? = some k ∧ d = nD k := by
        rw [List.getElem?_map] at hi
        cases z : (tby rows p)[i]? with
        | none => rw [z] at hi; simp at hi
        | some k => rw [z] at hi; exact ⟨k, rfl, by simpa using hi.symm⟩
      subst hd
      obtain ⟨r, hr, hrp⟩ := tby_mem.mp (List.mem_of_getElem? hk)
      have q := tree_get k r hr
      have hl : fs2.length ≤ 1000000 := by have := T2.len; omega
      have hb : (keysF fs2).length ≤ 1000000 := by simp [keysF]; omega
      by_cases hg : r.1 ∈ keysF fs2
      · refine ⟨_, lsE n rows leader c (some (.int (k : Nat))), stS fs2, .nx, rfl, by simp [l2_law_steps, lsE, stS, q, hg], .inl rfl, fs2, _, rfl, rfl, T2, pf, fun j k' r' hj hk' hr' => ?_⟩
        by_cases e : j = i
        · subst e
          rw [hk] at hk'; cases hk'
          rw [hr] at hr'; cases hr'
          exact hg
        · exact cov j k' r' (by omega) hk' hr'
      · have ha2 : fs2[a]? = some (r.2.1, o) := by
          obtain ⟨t, rfl⟩ := pf
          rw [hrp, List.getElem?_append_left (List.getElem?_eq_some_iff.mp ha).1]; exact ha
        have rn := rowOk_lt (ok r (List.mem_of_getElem? hr))
        have T3 := T2.add hr ha2 rn.1 hg
        have hp := z_put (f := eV 5) (fo := eV 2) (fi := e2 gIx (e2 gIx (e2 gIx (eV 0) (eC (.int 1))) (eV 5)) (eC (.int 0))) (ρ := lsE n rows leader c (some (.int (k : Nat)))) (S := stS fs2) (n := 0) (kv := kvF fs2) (k := r.1) (v := .int (k : Nat)) rfl rfl (by simp [lsE, q]) rfl (by rw [kvF_keys]; exact hg) (by rw [kvF_len]; exact hl)
        have e1 : kvF fs2 ++ [(r.1, .int (k : Nat))] = kvF (fs2 ++ [(r.1, some k)]) := by simp [kvF]
        have e2 : (keysF fs2).map nD ++ [.int (r.1 : Nat)] = (keysF (fs2 ++ [(r.1, some k)])).map nD := by simp [keysF]
        rw [e1] at hp
        refine ⟨_, lsE n rows leader c (some (.int (k : Nat))), stS (fs2 ++ [(r.1, some k)]), .nx, rfl, ?_, .inl rfl, _, _, rfl, rfl, T3, pf.trans ⟨[(r.1, some k)], rfl⟩, fun j k' r' hj hk' hr' => ?_⟩
        · generalize fs2 ++ [(r.1, some k)] = fs3 at hp e1 e2
          simp only [lsE, stS] at hp
          simp [l2_law_steps, lsE, stS, q, hg, hp, hb, e2]
        · by_cases e : j = i
          · subst e
            rw [hk] at hk'; cases hk'
            rw [hr] at hr'; cases hr'
            simp [keysF]
          · have := cov j k' r' (by omega) hk' hr'
            simp only [keysF, List.map_append, List.mem_append] at this ⊢
            exact .inl this)
  refine ⟨fs2, z6, e, T2, pf, fun k r hr hp => ?_⟩
  obtain ⟨j, hj⟩ := List.mem_iff_getElem?.mp (tby_mem.mpr ⟨r, hr, hp⟩)
  exact cov j k r (by simpa using (List.getElem?_eq_some_iff.mp hj).1) hj hr
theorem law_steps_w {n : Nat} {rows : List Row} {leader : Nat} (hn : n ≤ 1000) (hr : rows.length ≤ 1000000) (ok : ∀ r ∈ rows, rowOk n r = true) (hl : leader < n) :
    ∃ fs, f_law_steps [webD n rows, .int leader] = some (natDicD (kvF fs)) ∧ Tree n rows leader fs := by
  obtain ⟨ρ', S', e, fs, a, y5, rfl, rfl, T, cl, ha⟩ := while_inv (t := l1_law_steps_t) (body := l1_law_steps)
    (fun m ρ S => ∃ fs a y5, ρ = lsE n rows leader a y5 ∧ S = stS fs ∧ TreeP n rows leader fs ∧ ClosedTo rows fs a ∧ a ≤ fs.length ∧ m = n - a)
    (fun ρ S => ∃ fs a y5, ρ = lsE n rows leader a y5 ∧ S = stS fs ∧ TreeP n rows leader fs ∧ ClosedTo rows fs a ∧ a = fs.length) (by
      rintro m ρ S ⟨fs, a, y5, rfl, rfl, T, cl, ha, rfl⟩
      have len := T.len
      by_cases h : a < fs.length
      · right
        refine ⟨by simp [l1_law_steps_t, lsE, stS, seqD, keysF, h], ?_⟩
        have hpa := List.getElem?_eq_getElem h
        obtain ⟨⟨p, o⟩, hp⟩ : ∃ q, fs[a]? = some q := ⟨_, hpa⟩
        obtain ⟨fs2, z5, e, T2, pf, cov⟩ := lsteps_inner hn ok T hp a y5
        refine ⟨.nx, lsE n rows leader (a + 1) z5, stS fs2, n - (a + 1), ?_, .inl rfl, by omega, fs2, a + 1, _, rfl, rfl, T2, closedTo_more cl pf h hp cov, ?_, rfl⟩
        · have kq : atI ((keysF fs).map nD) (a : Int) = some (.int (p : Nat)) := by
            rw [atI_map]
            simp [keysF, hp]
          simp only [lsE, stS] at e
          simp [l1_law_steps, lsE, stS, seqD, kq, law_gets_w n rows p hr, e]
        · obtain ⟨t, rfl⟩ := pf
          simp; omega
      · left
        exact ⟨by simp [l1_law_steps_t, lsE, stS, seqD, keysF]; omega, fs, a, y5, rfl, rfl, T, cl, by omega⟩)
    (n := n - 0) (ρ := lsE n rows leader 0 none) (S := stS [(leader, none)]) ⟨[(leader, none)], 0, none, rfl, rfl, TreeP.one hl, fun i p o _ h => by omega, by simp, rfl⟩
  subst ha
  refine ⟨fs, ?_, Tree.of T cl⟩
  simp only [lsE, stS] at e
  have e' : sWhile l1_law_steps_t l1_law_steps [some (webD n rows), some (.int (leader : Nat)), some (.ref 0), some (.ref 1), some (.int 0), none] [.dic false [.int (leader : Nat)] [.non], .lst [.int (leader : Nat)]] = _ := e
  simp [f_law_steps, b_law_steps, run_eq, startR, x_sNewD1]
  rw [e']
  simp [fz_dic0]
end DL

set_option maxHeartbeats 1000000
namespace DL
open PySem PySem.Spec L2
theorem ixN_nat {n k : Nat} (h : k < n) : ixN n (k : Int) = some k := by
  unfold ixN
  rw [if_pos (by omega), if_pos (by omega)]
  simp
def putN (ρ : Rho) (S : Sto) (d : D) (c : Nat × List D) : D → Option (Fl × Rho × Sto)
  | .int k => (ixN c.2.length k).map fun j => (.nx, ρ, S.set c.1 (.lst (c.2.set j d)))
  | _ => none
@[simp] theorem x_sPut (f fo fi : E) (ρ : Rho) (S : Sto) : sPut f fo fi ρ S = (f ρ S).bind fun d => (fo ρ S).bind fun o => (fi ρ S).bind fun i => (cellD S o).bind fun c => putN ρ S d c i := by
  unfold sPut putN
  rfl
theorem putN_nat (ρ : Rho) (S : Sto) (n : Nat) (l : List Nat) {k : Nat} (v : Nat) (h : k < l.length) : putN ρ S (.int (v : Nat)) (n, l.map nD) (.int (k : Int)) = some (.nx, ρ, S.set n (.lst ((l.set k v).map nD))) := by
  have e : ixN (l.map nD).length (k : Int) = some k := ixN_nat (by simpa using h)
  simp only [putN, e, Option.map_some]
  rw [List.map_set]
  rfl
theorem amt_of {am : List Nat} {k : Nat} (h : k < am.length) : atI (am.map nD) (k : Int) = some (.int (amt am k : Nat)) := by
  have e : amt am k = am[k] := by unfold amt; rw [List.getD_eq_getElem?_getD, List.getElem?_eq_getElem h]; rfl
  rw [atI_nD h, e]
theorem amt_set {am : List Nat} {k v j : Nat} (h : k < am.length) : amt (am.set k v) j = if j = k then v else amt am j := by
  unfold amt
  rw [List.getD_eq_getElem?_getD, List.getD_eq_getElem?_getD, List.getElem?_set]
  by_cases e : k = j
  · subst e; simp [h]
  · rw [if_neg e, if_neg fun z => e z.symm]
theorem whileN_step {t : EB} {body : T} {k : Nat} {ρ ρ1 : Rho} {S S1 : Sto} {r : Option (Fl × Rho × Sto)} (h1 : t ρ S = some true) (h2 : body ρ S = some (.nx, ρ1, S1)) (h3 : whileN t body k ρ1 S1 = r) : whileN t body (k + 1) ρ S = r := by
  simp only [whileN, h1, h2, Option.bind_some, if_true]
  exact h3
theorem ret_seq {f g : T} {ρ ρ1 : Rho} {S S1 : Sto} {d : D} (h : f ρ S = some (.nx, ρ1, S1)) (k : Ret g ρ1 S1 d) : Ret (sSeq f g) ρ S d := by
  unfold Ret at k ⊢
  rw [x_sSeq, h]
  exact k
theorem seq_nx {f g : T} {ρ ρ1 : Rho} {S S1 : Sto} {r : Option (Fl × Rho × Sto)} (h : f ρ S = some (.nx, ρ1, S1)) (k : g ρ1 S1 = r) : sSeq f g ρ S = r := by
  rw [x_sSeq, h]
  exact k
theorem if_t {t : EB} {f g : T} {ρ : Rho} {S : Sto} {r : Option (Fl × Rho × Sto)} (h : t ρ S = some true) (k : f ρ S = r) : sIf t f g ρ S = r := by
  rw [x_sIf, h]
  exact k
theorem if_f {t : EB} {f g : T} {ρ : Rho} {S : Sto} {r : Option (Fl × Rho × Sto)} (h : t ρ S = some false) (k : g ρ S = r) : sIf t f g ρ S = r := by
  rw [x_sIf, h]
  exact k
section
variable (c m : D) (n : Nat) (rows : List Row) (leader base : Nat) (dg : List Nat) (fs : Fs)
def laE (a7 y8 y9 : Option D) : Rho := [some c, some m, some (webD n rows), some (.int (leader : Nat)), some (.int (base : Nat)), some (.lst (dg.map nD)), some (natDicD (kvF fs)), a7, y8, y9]
theorem la_inner (c0 : Cell) (y8 : Option D) : ∀ (ps : List Nat) (p : Nat) (am : List Nat), IsPath rows fs ps p → am.length = rows.length →
    ∃ p' am2, whileN l2_law_amounts_t l2_law_amounts (ps.length + 1) (laE c m n rows leader base dg fs (some (.ref 1)) y8 (some (.int (p : Nat)))) [c0, .lst (am.map nD)] = some (.nx, laE c m n rows leader base dg fs (some (.ref 1)) y8 (some (.int (p' : Nat))), [c0, .lst (am2.map nD)]) ∧ am2.length = am.length ∧ ∀ j, amt am2 j ≤ amt am j + ps.length * base
  | [], p, am, h, _ => ⟨p, am, by
    have h' : fs.lookup p = some none := h
    simp [whileN, l2_law_amounts_t, laE, kvF_look, h'], rfl, fun j => by simp⟩
  | k :: ps, p, am, ⟨h1, r, h2, h3⟩, hl => by
    have hk : k < am.length := by rw [hl]; exact (List.getElem?_eq_some_iff.mp h2).1
    obtain ⟨p', am2, e, l2, b2⟩ := la_inner c0 y8 ps r.2.1 (am.set k (amt am k + base)) h3 (by simpa using hl)
    refine ⟨p', am2, ?_, by simpa using l2, fun j => ?_⟩
    · have q := tree_get k r h2
      have q2 := amt_of hk
      have q3 := fun ρ S => putN_nat ρ S 1 am (amt am k + base) hk
      have lk : (kvF fs).lookup p = some (.int (k : Nat)) := by rw [kvF_look, h1]; rfl
      refine whileN_step (ρ1 := laE c m n rows leader base dg fs (some (.ref 1)) y8 (some (.int (r.2.1 : Nat)))) (S1 := [c0, .lst ((am.set k (amt am k + base)).map nD)]) ?_ ?_ e
      · simp [l2_law_amounts_t, laE, lk]
      · simp [-List.map_set] at q3
        simp [l2_law_amounts, laE, lk, q, q2, q3, -List.map_set]
    · have := b2 j
      rw [amt_set hk] at this
      rw [List.length_cons, Nat.add_mul]
      split at this
      · next z => subst z; omega
      · omega
end
theorem la_outer (c m : D) {n : Nat} {rows : List Row} {leader : Nat} (base : Nat) (dg : List Nat) {fs : Fs} (T : Tree n rows leader fs) (hn : n ≤ 5) (all : ∀ p < n, p ∈ keysF fs) (ok : ∀ r ∈ rows, r.1 < n ∧ r.2.1 < n) (c0 : Cell) {am : List Nat} (hl : am.length = rows.length) (y8 y9 : Option D) :
    ∃ z8 z9 am2, loopL (gN 8) l1_law_amounts ((List.range rows.length).map nD) (laE c m n rows leader base dg fs (some (.ref 1)) y8 y9) [c0, .lst (am.map nD)] = some (.nx, laE c m n rows leader base dg fs (some (.ref 1)) z8 z9, [c0, .lst (am2.map nD)]) ∧ am2.length = am.length ∧ ∀ j, amt am2 j ≤ amt am j + rows.length * (5 * base) := by
  obtain ⟨ρ', S', e, z8, z9, am2, rfl, rfl, l2, b2⟩ := loop_inv (g := gN 8) (body := l1_law_amounts) (ds := (List.range rows.length).map nD) (ρ := laE c m n rows leader base dg fs (some (.ref 1)) y8 y9) (S := [c0, .lst (am.map nD)])
    (fun i ρ S => ∃ z8 z9 am2, ρ = laE c m n rows leader base dg fs (some (.ref 1)) z8 z9 ∧ S = [c0, .lst (am2.map nD)] ∧ am2.length = am.length ∧ ∀ j, amt am2 j ≤ amt am j + i * (5 * base))
    ⟨y8, y9, am, rfl, rfl, rfl, fun j => by simp⟩ (by
      rintro i d ρ S hi ⟨z8, z9, am2, rfl, rfl, l2, b2⟩
      obtain ⟨hlt, rfl⟩ := nth_range hi
      obtain ⟨r, hr⟩ : ∃ r, rows[i]? = some r := ⟨_, List.getElem?_eq_getElem hlt⟩
      have q := tree_get i r hr
      obtain ⟨ps, h1, h2, _⟩ := way_ex T.toTreeP all hr (ok _ (List.mem_of_getElem? hr)).2
      obtain ⟨p', am3, e, l3, b3⟩ := la_inner c m n rows leader base dg fs c0 (some (.int (i : Nat))) ps r.2.1 am2 h1 (by omega)
      have e' := sWhile_of e
      refine ⟨laE c m n rows leader base dg fs (some (.ref 1)) (some (.int (i : Nat))) z9, laE c m n rows leader base dg fs (some (.ref 1)) (some (.int (i : Nat))) (some (.int (p' : Nat))), [c0, .lst (am3.map nD)], .nx, rfl, ?_, .inl rfl, _, _, am3, rfl, rfl, by omega, fun j => ?_⟩
      · simp only [laE] at e'
        simp [l1_law_amounts, laE, q, e']
      · have a1 := b2 j
        have a2 := b3 j
        have a3 : ps.length * base ≤ 5 * base := Nat.mul_le_mul_right base (by omega)
        rw [Nat.add_mul, Nat.one_mul]
        omega)
  exact ⟨z8, z9, am2, e, l2, fun j => by simpa using b2 j⟩
theorem law_amounts_w {c m : Int} {n : Nat} {rows : List Row} (W : WebOk n rows) (h8 : rows.length ≤ 8) (hn : n ≤ 5) {leader base : Nat} (hl : leader < n) (hb : base ≤ 9) :
    ∃ am : List Nat, f_law_amounts [.int c, .int m, webD n rows, .int leader, .int base] = some (lotD am) ∧ am.length = rows.length ∧ ∀ j, amt am j ≤ 1000 := by
  have hr' : rows.length ≤ 1000000 := by omega
  have ok : ∀ r ∈ rows, r.1 < n ∧ r.2.1 < n := fun r hr => rowOk_lt (W.ok r hr)
  obtain ⟨dg, ed, hd, hx⟩ := law_row_i c 20 60 (by decide) (by decide) (by decide)
  obtain ⟨fs, es, T⟩ := law_steps_w (by omega) hr' W.ok hl
  have len := T.len
  have ed' : f_law_row [.int c, .int 20, .int 60] = some (.lst (dg.map nD)) := by simpa using ed
  have q (j : Nat) (hj : j < 20) : atI (dg.map nD) (j : Int) = some (.int (amt dg j : Nat)) := amt_of (by omega)
  have qx (j : Nat) (hj : j < 20) : amt dg j < 60 := by
    have e : amt dg j = dg[j] := by unfold amt; rw [List.getD_eq_getElem?_getD, List.getElem?_eq_getElem (by omega)]; rfl
    rw [e]; exact hx _ (List.getElem_mem _)
  have q12 : atI (dg.map nD) (12 : Int) = some (.int (amt dg 12 : Nat)) := q 12 (by decide)
  have q13 : atI (dg.map nD) (13 : Int) = some (.int (amt dg 13 : Nat)) := q 13 (by decide)
  have q14 : atI (dg.map nD) (14 : Int) = some (.int (amt dg 14 : Nat)) := q 14 (by decide)
  have q15 : atI (dg.map nD) (15 : Int) = some (.int (amt dg 15 : Nat)) := q 15 (by decide)
  have rg := rng1_nat hr'
  have c1 : cmpM (fun x : Nat => atI (dg.map nD) (x : Int)) (List.range rows.length) = some (((List.range rows.length).map (amt dg)).map nD) := by
    rw [List.map_map]
    refine (cmpM_congr rfl fun k hk => ?_).trans (cmpM_some _ _)
    exact q k (by have := List.mem_range.mp hk; omega)
  have rowEq : ∀ g : Nat → Nat, ∀ j, amt ((List.range rows.length).map g) j = if j < rows.length then g j else 0 := fun g j => by
    unfold amt
    rw [List.getD_eq_getElem?_getD, List.getElem?_map]
    by_cases h : j < rows.length
    · rw [List.getElem?_range h, if_pos h]; rfl
    · rw [List.getElem?_eq_none (by simpa using h), if_neg h]; rfl
  have rgE : (D.lst (((List.range rows.length).map (amt dg)).map nD)) = D.lst ((List.range rows.length).map fun x => .int (amt dg x : Nat)) := by simp
  by_cases hc : amt dg 12 < 40 ∧ fs.length = n
  · have all : ∀ p < n, p ∈ keysF fs := fun p hp => by
      refine Classical.byContradiction fun z => ?_
      have := List.Nodup.length_le_of_subset (l₁ := p :: keysF fs) (l₂ := List.range n) (List.nodup_cons.mpr ⟨z, T.nd⟩) fun x hx => by
        rcases List.mem_cons.mp hx with rfl | hx
        · exact List.mem_range.mpr hp
        · exact List.mem_range.mpr (T.lt x hx)
      simp [keysF] at this
      omega
    obtain ⟨hc1, hc2⟩ := hc
    have hc1' : (amt dg 12 : Int) < 40 := by omega
    have hc2' : (fs.length : Int) = n := by omega
    have c2 : cmpM (fun x : Nat => some (D.int (base : Nat))) (List.range rows.length) = some (((List.range rows.length).map fun _ => base).map nD) := by
      rw [List.map_map]
      exact cmpM_some _ _
    obtain ⟨z8, z9, am2, e3, l3, b3⟩ := la_outer (.int c) (.int m) base dg T hn all ok (.lst (((List.range rows.length).map (amt dg)).map nD)) (am := (List.range rows.length).map fun _ => base) (by simp) none none
    have len2 : am2.length = rows.length := by simpa using l3
    obtain ⟨b, hb1, hb2⟩ : ∃ b : Nat, b ≤ 1 ∧ cInt [] [.bl (decide ((amt dg 13 : Int) < 20))] = some (.int (b : Nat)) := by
      by_cases h : (amt dg 13 : Int) < 20
      · exact ⟨1, by omega, by rw [decide_eq_true h]; rfl⟩
      · exact ⟨0, by omega, by rw [decide_eq_false h]; rfl⟩
    obtain ⟨A, hA⟩ : ∃ A : List D, A = ((List.range rows.length).map (amt dg)).map nD := ⟨_, rfl⟩
    rw [← hA] at e3
    have l2' : am2.length ≤ 1000000 := by omega
    have c3 : ∀ S : Sto, S = [.lst A, .lst (am2.map nD)] → compL (gN 8) bYes (e2 gAddA (e2 gIx (eV 7) (eV 8)) (e2 gMulA (e2 gDiv (e2 gIx (eV 5) (eV 8)) (eC (.int 20))) (eCall cInt (aCons (e2 gLt (e2 gIx (eV 5) (eC (.int 13))) (eC (.int 20))) aNil)))) (laE (.int c) (.int m) n rows leader base dg fs (some (.ref 1)) none z9) S ((List.range rows.length).map nD) = some (((List.range rows.length).map fun k => amt am2 k + amt dg k / 20 * b).map nD) := by
      rintro S rfl
      rw [compL_yes, List.map_map]
      refine (cmpM_congr rfl fun k hk => ?_).trans (cmpM_some _ _)
      have hk' := List.mem_range.mp hk
      have k1 := q k (by omega)
      have k2 := amt_of (am := am2) (k := k) (by omega)
      have hb3 : ∀ S, cInt S [.bl (decide ((amt dg 13 : Int) < 20))] = some (.int (b : Nat)) := fun _ => hb2
      have cm : ∀ j : Int, cMul j (b : Int) = true := fun j => cMul_r (by rw [Int.natAbs_natCast]; omega)
      simp [laE, k1, k2, q13, hb3, cm]
    obtain ⟨am3, h3⟩ : ∃ am3, am3 = (List.range rows.length).map fun k => amt am2 k + amt dg k / 20 * b := ⟨_, rfl⟩
    rw [← h3] at c3
    have l3 : am3.length = rows.length := by rw [h3]; simp
    have l3' : am3.length ≤ 1000000 := by omega
    have b3' : ∀ j, amt am3 j ≤ 999 := fun j => by
      rw [h3, rowEq]
      split
      · have a1 := b3 j
        rw [rowEq] at a1
        have a2 := qx j (by omega)
        have a3 : amt dg j / 20 * b ≤ amt dg j / 20 * 1 := Nat.mul_le_mul_left _ hb1
        have a4 : rows.length * (5 * base) ≤ 8 * (5 * 9) := Nat.mul_le_mul h8 (by omega)
        split at a1 <;> omega
      · omega
    have fin : ∃ am4, sIf (eB (e2 gLt (e2 gIx (eV 5) (eC (D.int 14))) (eC (D.int 20)))) (sPut (eCall cMax2 (aCons (eC (D.int 0)) (aCons (e2 gSub (e2 gIx (eV 7) (e2 gMod (e2 gIx (eV 5) (eC (D.int 15))) (eCall cLen (aCons (eV 7) aNil)))) (eC (D.int 1))) aNil))) (eV 7) (e2 gMod (e2 gIx (eV 5) (eC (D.int 15))) (eCall cLen (aCons (eV 7) aNil)))) sSkip (laE (.int c) (.int m) n rows leader base dg fs (some (.ref 2)) z8 z9) [.lst A, .lst (am2.map nD), .lst (am3.map nD)] = some (.nx, laE (.int c) (.int m) n rows leader base dg fs (some (.ref 2)) z8 z9, [.lst A, .lst (am2.map nD), .lst (am4.map nD)]) ∧ am4.length = rows.length ∧ ∀ j, amt am4 j ≤ 1000 := by
      by_cases h14 : (amt dg 14 : Int) < 20
      · have lp : 0 < am3.length := by have := W.r1; omega
        obtain ⟨k, k1, k2⟩ := md_nat (amt dg 15) lp
        have k3 := amt_of k2
        have lpI : (0 : Int) < am3.length := by omega
        have mx : cMax2 [.lst A, .lst (am2.map nD), .lst (am3.map nD)] [.int 0, .int ((amt am3 k : Int) - 1)] = some (.int ((amt am3 k - 1 : Nat) : Int)) := by
          rw [k_max2]
          by_cases z : (amt am3 k : Int) - 1 > 0
          · rw [if_pos z]; congr 2; omega
          · rw [if_neg z]; congr 2; omega
        refine ⟨am3.set k (amt am3 k - 1), if_t (by simp [laE, q14, h14]) ?_, by simpa using l3, fun j => ?_⟩
        · have pn := putN_nat (laE (.int c) (.int m) n rows leader base dg fs (some (.ref 2)) z8 z9) [.lst A, .lst (am2.map nD), .lst (am3.map nD)] 2 am3 (amt am3 k - 1) k2
          simp only [laE] at pn
          simp [laE, q15, lp, k1, k3, mx, pn, -List.map_set]
        · rw [amt_set k2]
          have := b3' j
          have := b3' k
          split <;> omega
      · exact ⟨am3, if_f (by simp [laE, q14, h14]) rfl, l3, fun j => by have := b3' j; omega⟩
    obtain ⟨am4, e4, l4, b4⟩ := fin
    refine ⟨am4, ret_run ?_, l4, b4⟩
    refine ret_set (x := .lst (dg.map nD)) (by simp [startR, ed']) (ret_set (x := natDicD (kvF fs)) (by simp [startR, es]) (ret_seq (ρ1 := laE (.int c) (.int m) n rows leader base dg fs (some (.ref 0)) none none) (S1 := [.lst A]) ?_ (ret_seq (ρ1 := laE (.int c) (.int m) n rows leader base dg fs (some (.ref 2)) z8 z9) (S1 := [.lst A, .lst (am2.map nD), .lst (am4.map nD)]) (if_t ?_ (seq_nx (ρ1 := laE (.int c) (.int m) n rows leader base dg fs (some (.ref 1)) none none) (S1 := [.lst A, .lst (((List.range rows.length).map fun _ => base).map nD)]) ?_ (seq_nx (ρ1 := laE (.int c) (.int m) n rows leader base dg fs (some (.ref 1)) z8 z9) (S1 := [.lst A, .lst (am2.map nD)]) ?_ (seq_nx (ρ1 := laE (.int c) (.int m) n rows leader base dg fs (some (.ref 2)) z8 z9) (S1 := [.lst A, .lst (am2.map nD), .lst (am3.map nD)]) ?_ e4)))) ?_)))
    · simp [startR, rg, c1, hr', laE, hA]
    · simp [laE, q12, hc1', hc2']
    · simp [laE, hA, hr']
    · have := rng1_nat hr'
      simp [laE] at e3
      simp [laE, rg, e3]
    · have := rng1_nat hr'
      have c3' := c3 _ rfl
      simp only [laE] at c3'
      simp [laE, this, len2, c3', l3', l3, hr', -compL_yes]
    · exact ret_ret (x := lotD am4) (by simp [laE, lotD]) (by simp)
  · refine ⟨(List.range rows.length).map (amt dg), ret_run ?_, by simp, fun j => ?_⟩
    · refine ret_set (x := .lst (dg.map nD)) (by simp [startR, ed']) (ret_set (x := natDicD (kvF fs)) (by simp [startR, es]) (ret_seq (ρ1 := laE (.int c) (.int m) n rows leader base dg fs (some (.ref 0)) none none) (S1 := [.lst (((List.range rows.length).map (amt dg)).map nD)]) ?_ (ret_seq (ρ1 := laE (.int c) (.int m) n rows leader base dg fs (some (.ref 0)) none none) (S1 := [.lst (((List.range rows.length).map (amt dg)).map nD)]) ?_ ?_)))
      · simp [startR, rg, c1, hr', laE]
      · by_cases h1 : amt dg 12 < 40
        · have h2 : ¬ fs.length = n := fun z => hc ⟨h1, z⟩
          have h1' : (amt dg 12 : Int) < 40 := by omega
          have h2' : ¬ ((fs.length : Int) = n) := by omega
          simp [laE, q12, h1', h2']
        · have h1' : ¬ ((amt dg 12 : Int) < 40) := by omega
          simp [laE, q12, h1']
      · exact ret_ret (x := lotD ((List.range rows.length).map (amt dg))) (by simp [laE, lotD]) (by simp)
    · rw [rowEq]
      split
      · have := qx j (by omega); omega
      · omega
end DL

set_option maxHeartbeats 1000000
namespace DL
open PySem PySem.Spec L2
mutual
theorem eqD_self : ∀ (n : Nat) (d : D), okD n d = true → eqD d d = true
  | _, .non, _ => rfl
  | _, .bl b, _ => by simp [eqD]
  | _, .int i, _ => by simp [eqD]
  | _, .str s, _ => by simp [eqD]
  | 0, .tup ds, h => by simp [okD] at h
  | n + 1, .tup ds, h => by
    rw [ok_tup] at h
    simp [eqD, eqDs_self n ds h]
  | 0, .lst ds, h => by simp [okD] at h
  | n + 1, .lst ds, h => by
    rw [ok_lst] at h
    simp [eqD, eqDs_self n ds h]
  | n, .ty _, h => by cases n <;> simp [okD] at h
  | n, .dic _ _ _, h => by cases n <;> simp [okD] at h
  | n, .scr _, h => by cases n <;> simp [okD] at h
  | n, .ref _, h => by cases n <;> simp [okD] at h
theorem eqDs_self : ∀ (n : Nat) (ds : List D), okDs n ds = true → eqDs ds ds = true
  | _, [], _ => rfl
  | n, d :: ds, h => by
    rw [oks_cons, Bool.and_eq_true] at h
    simp [eqDs, eqD_self n d h.1, eqDs_self n ds h.2]
end
theorem y_neSelf {S : Sto} {d : D} (h : okD 60 d = true) : gNe S d d = some (.bl false) := by
  rw [y_ne h h, eqD_self 60 d h]; rfl
theorem y_eqSelf {S : Sto} {d : D} (h : okD 60 d = true) : gEq S d d = some (.bl true) := by
  rw [y_eq h h, eqD_self 60 d h]
theorem amt_le {am : List Nat} {m : Nat} (h : ∀ j, amt am j ≤ m) : ∀ a ∈ am, a ≤ m := fun a ha => by
  obtain ⟨j, hj, rfl⟩ := List.getElem_of_mem ha
  have := h j
  unfold amt at this
  rw [List.getD_eq_getElem?_getD, List.getElem?_eq_getElem hj] at this
  exact this
open Classical in
theorem is_forfeits_w {n : Nat} {rows : List Row} (W : WebOk n rows) {leader b : Nat} (hl : leader < n) (h1 : 1 ≤ b) (h2 : b ≤ 1000) {am : List Nat} (ha : am.length = rows.length) (hb : ∀ a ∈ am, a ≤ 1000000) :
    f_is_forfeits [webD n rows, .int leader, .int b, lotD am] = some (.bl (decide (NoShort n rows leader b am))) := by
  have h6 := W.n6
  have h10 := W.r10
  obtain ⟨d, e, hn, hd, hc⟩ := short_at_w (by omega : n ≤ 1000) (by omega : rows.length ≤ 1000) leader b h2 ha
  have aa := are_amounts_ok (n := n) ha hb (by omega)
  by_cases c : NoShort n rows leader b am
  · have := hc.mpr c
    subst this
    simp [f_is_forfeits, b_is_forfeits, run_eq, startR, need_case_ok W hl h1 h2, aa, e, c]
  · rcases hd with rfl | ⟨l, rfl⟩
    · exact absurd (hc.mp rfl) c
    · simp [f_is_forfeits, b_is_forfeits, run_eq, startR, need_case_ok W hl h1 h2, aa, e, c]
theorem forfeit_short_w {n : Nat} {rows : List Row} (W : WebOk n rows) {leader b : Nat} (hl : leader < n) (h1 : 1 ≤ b) (h2 : b ≤ 1000) {am : List Nat} (ha : am.length = rows.length) (hb : ∀ a ∈ am, a ≤ 1000000) :
    ∃ d, f_forfeit_short [webD n rows, .int leader, .int b, lotD am] = some d ∧ (d = .non ∨ ∃ l, d = .tup l) ∧ (d = .non ↔ NoShort n rows leader b am) := by
  have h6 := W.n6
  have h10 := W.r10
  obtain ⟨d, e, hn, hd, hc⟩ := short_at_w (by omega : n ≤ 1000) (by omega : rows.length ≤ 1000) leader b h2 ha
  have aa := are_amounts_ok (n := n) ha hb (by omega)
  have e1 : f_need_amounts [webD n rows, lotD am] = some .non := by
    simp [f_need_amounts, b_need_amounts, run_eq, startR, aa]
  refine ⟨d, ?_, hd, hc⟩
  simp [f_forfeit_short, b_forfeit_short, run_eq, startR, need_case_ok W hl h1 h2, e1, e, hn]
end DL

set_option maxHeartbeats 1000000
namespace DL
open PySem PySem.Spec L2
theorem str_ok_lot : PyData.strOk "lot" = true := by decide +kernel
theorem str_ok_ways : PyData.strOk "ways" = true := by decide +kernel
theorem row_one (c : Int) {top : Nat} (h0 : 0 < top) (h1 : top < 1073741824) : ∃ k : Nat, f_law_row [.int c, .int 1, .int top] = some (.lst [.int k]) ∧ k < top := by
  obtain ⟨l, e, hl, hx⟩ := law_row_i c 1 top (by decide) h0 h1
  match l, hl with
  | [k], _ => exact ⟨k, by simpa using e, hx k (by simp)⟩
theorem row_two (c : Int) {top : Nat} (h0 : 0 < top) (h1 : top < 1073741824) : ∃ j k : Nat, f_law_row [.int c, .int 2, .int top] = some (.lst [.int j, .int k]) ∧ k < top := by
  obtain ⟨l, e, hl, hx⟩ := law_row_i c 2 top (by decide) h0 h1
  match l, hl with
  | [j, k], _ => exact ⟨j, k, by simpa using e, hx k (by simp)⟩
def tail_law : T := sSeq (sIf (eB (e2 gEq (e2 gIx (eV 6) (eC (.int 0))) (eC (.str "lot")))) (sRet (e2 (gIsN true) (eFn f_forfeit_short (aCons (eV 1) (aCons (eV 3) (aCons (eV 4) (aCons (eV 8) (aNil)))))) (eC .non))) (sSkip)) (sSeq (sIf (eB (e2 gNe (e2 gIx (eV 7) (eC (.int 2))) (eCall cTuple (aCons (eF (fComp (jSeqD (e2 gIx (eV 6) (eC (.int 2)))) [16] (gN 16) (bYes) (e2 gMulA (eV 5) (eV 16)))) (aNil))))) (sRet (eC (.bl false))) (sSkip)) (sSeq (sSet 14 (eCall cTuple (aCons (eF (fComp (iRng rng1 (aCons (eV 2) (aNil))) [15] (gN 15) (bYes) (e2 gAddA (e2 gIx (e2 gIx (eV 6) (eC (.int 2))) (eV 15)) (e2 gIx (e2 gIx (eV 7) (eC (.int 2))) (eV 15))))) (aNil)))) (sSeq (sIf (eB (e2 (gIsB true) (eFn f_is_forfeits (aCons (eV 1) (aCons (eV 3) (aCons (e2 gMulA (eV 4) (e2 gAddA (eV 5) (eC (.int 1)))) (aCons (eV 14) (aNil)))))) (eC (.bl true)))) (sRet (eC (.bl false))) (sSkip)) (sRet (e2 (gIsB false) (eFn f_is_forfeits (aCons (eV 1) (aCons (eV 3) (aCons (e2 gAddA (e2 gMulA (eV 4) (e2 gAddA (eV 5) (eC (.int 1)))) (eC (.int 1))) (aCons (eV 14) (aNil)))))) (eC (.bl false)))))))
def lE (ns : List Int) (n : Nat) (rows : List Row) (leader b t : Nat) (one other : D) (am lot : List Nat) (total : Int) (y11 y12 y13 : Option D) : Rho :=
  [some (.scr ns), some (webD n rows), some (.int (rows.length : Nat)), some (.int (leader : Nat)), some (.int (b : Nat)), some (.int (t : Nat)), some one, some other, some (lotD am), some (lotD lot), some (.int total), y11, y12, y13, none, none, none]
theorem total_loop (ns : List Int) {n : Nat} {rows : List Row} (W : WebOk n rows) (leader b t : Nat) (ht : t ≤ 6) (one other : D) {am lot : List Nat} (hal : am.length = rows.length) (ham : ∀ j, amt am j ≤ 1000) (hlot : LotOk rows.length lot) :
    ∃ y11 y12 y13, loopL (gN 11) l1_law ((List.range n).map nD) (lE ns n rows leader b t one other am lot 0 none none none) [] = some (.nx, lE ns n rows leader b t one other am lot 0 y11 y12 y13, []) := by
  have ok : ∀ r ∈ rows, r.1 < n ∧ r.2.1 < n := fun r hr => rowOk_lt (W.ok r hr)
  have amL : ∀ a ∈ am, a ≤ 1000000 := fun a ha => Nat.le_trans (amt_le ham a ha) (by decide)
  have amL2 : ∀ a ∈ am.map (fun a => t * a), a ≤ 1000000 := fun a ha => by
    obtain ⟨a', ha', rfl⟩ := List.mem_map.mp ha
    exact Nat.le_trans (Nat.mul_le_mul ht (amt_le ham a' ha')) (by decide)
  have amll : am.length ≤ 1000000 := by have := W.r10; omega
  have cm : ∀ j : Int, cMul (t : Int) j = true := fun j => cMul_l (by rw [Int.natAbs_natCast]; omega)
  obtain ⟨ρ', S', e, y11, y12, y13, rfl, rfl⟩ := loop_inv (g := gN 11) (body := l1_law) (ds := (List.range n).map nD) (ρ := lE ns n rows leader b t one other am lot 0 none none none) (S := [])
    (fun i ρ S => ∃ y11 y12 y13, ρ = lE ns n rows leader b t one other am lot (((List.range i).map fun p => netOf rows am p lot).sum) y11 y12 y13 ∧ S = []) ⟨none, none, none, rfl, rfl⟩ (by
      rintro i d ρ S hi ⟨y11, y12, y13, rfl, rfl⟩
      obtain ⟨hlt, rfl⟩ := nth_range hi
      have f1 := forfeit_net_w W hal amL hlt hlot
      have f2 := forfeit_net_w W (am := am.map fun a => t * a) (by simpa using hal) amL2 hlt hlot
      rw [net_scale] at f2
      have lm : (D.tup (am.map fun a : Nat => D.int ((t : Int) * (a : Int)))) = lotD (am.map fun a => t * a) := by simp [lotD]
      have c : cmpM (fun a : Nat => (some (D.int ((t : Int) * (a : Int))) : Option D)) am = some (am.map fun a => .int ((t : Int) * (a : Int))) := cmpM_some _ _
      refine ⟨_, lE ns n rows leader b t one other am lot (((List.range (i + 1)).map fun p => netOf rows am p lot).sum) (some (.int (i : Nat))) (some (.int (netOf rows am i lot))) (some (lotD (am.map fun a => t * a))), [], .nx, rfl, ?_, .inl rfl, _, _, _, rfl, rfl⟩
      have sm : ((List.range (i + 1)).map fun p => netOf rows am p lot).sum = ((List.range i).map fun p => netOf rows am p lot).sum + netOf rows am i lot := by
        rw [List.range_succ, List.map_append, List.sum_append_int]
        simp
      rw [sm]
      simp [l1_law, lE, f1, f2, lm, cm, amll])
  have z := net_zero ok am lot
  simp only [List.length_map, List.length_range, z] at e
  exact ⟨y11, y12, y13, e⟩
theorem ret_if0' {t : EB} {a g : T} {ρ : Rho} {S : Sto} {d : D} (h : sIf t a sSkip ρ S = some (.nx, ρ, S)) (k : Ret g ρ S d) : Ret (sSeq (sIf t a sSkip) g) ρ S d := ret_seq h k
theorem plain (ns : List Int) (_ : ns.length ≤ 63) : f_law [.scr ns] = some (.bl true) := by
  classical
  obtain ⟨z0, a0⟩ := law_at_i ns 0
  obtain ⟨z1, a1⟩ := law_at_i ns 1
  obtain ⟨z2, a2⟩ := law_at_i ns 2
  obtain ⟨z3, a3⟩ := law_at_i ns 3
  obtain ⟨z4, a4⟩ := law_at_i ns 4
  obtain ⟨z5, a5⟩ := law_at_i ns 5
  obtain ⟨z6, a6⟩ := law_at_i ns 6
  simp at a0 a1 a2 a3 a4 a5 a6
  obtain ⟨n, rows, ew, W, n5, r8, _⟩ := law_web_ok z0 z1
  have n2 := W.n2
  have r1 := W.r1
  have ok : ∀ r ∈ rows, r.1 < n ∧ r.2.1 < n := fun r hr => rowOk_lt (W.ok r hr)
  obtain ⟨leader, el, hl⟩ := row_one z2 (by omega : 0 < n) (by omega)
  obtain ⟨_, b0, eb, hb0⟩ := row_two z2 (by decide : 0 < 9) (by decide)
  obtain ⟨t0, et, ht0⟩ := row_one z3 (by decide : 0 < 5) (by decide)
  obtain ⟨b, hb⟩ : ∃ b, b = 1 + b0 := ⟨_, rfl⟩
  obtain ⟨t, ht⟩ : ∃ t, t = 2 + t0 := ⟨_, rfl⟩
  have bI : (1 + (b0 : Int)) = (b : Int) := by omega
  have tI : (2 + (t0 : Int)) = (t : Int) := by omega
  simp at eb et
  obtain ⟨am, ea, hal, ham⟩ := law_amounts_w (c := z4) (m := z5) W r8 n5 hl (by omega : b ≤ 9)
  obtain ⟨lot, eo, hlot⟩ := law_lot_w z6 rows.length (by omega)
  obtain ⟨fs, T, hf⟩ := forfeits_w W hl
  have btI : (b : Int) * (t : Int) = ((b * t : Nat) : Int) := by simp
  have btL : b * t ≤ 9 * 6 := Nat.mul_le_mul (by omega) (by omega)
  have bt1 : 1 * 1 ≤ b * t := Nat.mul_le_mul (by omega) (by omega)
  have amL : ∀ a ∈ am, a ≤ 1000000 := fun a ha => Nat.le_trans (amt_le ham a ha) (by decide)
  have bb1 : 1 ≤ b := by omega
  have bb2 : b ≤ 1000 := by omega
  have mid : ∀ one other : D, f_forfeits [webD n rows, .int leader, .int b] = some one → f_forfeits [webD n rows, .int leader, .int ((b * t : Nat) : Int)] = some other → nr one = true → nr other = true →
      (eB (e2 gNe (eCutA (eV 6) oNone (oSome (eC (.int 2)))) (eCutA (eV 7) oNone (oSome (eC (.int 2)))))) [some (.scr ns), some (webD n rows), some (.int (rows.length : Nat)), some (.int (leader : Nat)), some (.int (b : Nat)), some (.int (t : Nat)), some one, some other, none, none, none, none, none, none, none, none, none] [] = some false →
      (∀ y11 y12 y13, Ret tail_law (lE ns n rows leader b t one other am lot 0 y11 y12 y13) [] (.bl true)) → f_law [.scr ns] = some (.bl true) := by
    intro one other e1 e2 n1 n2' hc k
    obtain ⟨y11, y12, y13, e3⟩ := total_loop ns W leader b t (by omega) one other hal ham hlot
    refine ret_run (ret_set (x := webD n rows) (by simp [startR, a0, a1, ew]) (ret_set (x := .int (rows.length : Nat)) (by simp [startR]) (ret_set (x := .int (leader : Nat)) (by simp [startR, a2, el]) (ret_set (x := .int (b : Nat)) (by simp [startR, a2, eb, bI]) (ret_set (x := .int (t : Nat)) (by simp [startR, a3, et, tI]) (ret_set (x := one) (by simp [startR, e1]) (ret_set (x := other) ?_ (ret_if0 hc (ret_set (x := lotD am) (by simp [startR, a4, a5, ea]) (ret_if0' ?_ (ret_set (x := lotD lot) (by simp [startR, a6, eo]) (ret_set (x := .int 0) (by simp [startR]) (ret_seq (ρ1 := lE ns n rows leader b t one other am lot 0 y11 y12 y13) (S1 := []) ?_ (ret_if0 (by simp [lE]) (k y11 y12 y13)))))))))))))))
    · have cm : ∀ j : Int, cMul (b : Int) j = true := fun j => cMul_l (by rw [Int.natAbs_natCast]; omega)
      simp at e2
      simp [startR, cm, e2]
    · have fw := is_forfeits_w W hl bb1 bb2 hal amL
      by_cases c : NoShort n rows leader b am
      · by_cases b1 : 1 < b
        · have c' := c.less (by omega : b - 1 ≤ b)
          have fw2 := is_forfeits_w W hl (by omega : 1 ≤ b - 1) (by omega) hal amL
          obtain ⟨d, ed, _, hd⟩ := forfeit_short_w W hl (by omega : 1 ≤ b - 1) (by omega) hal amL
          have := hd.mpr c'
          subst this
          have sI : (b : Int) - 1 = ((b - 1 : Nat) : Int) := by omega
          have b1I : (1 : Int) < b := by omega
          refine if_t ?_ ?_
          · simp [startR, fw, c, b1I]
          · simp [startR, fw2, c', ed, sI]
        · have b1I : ¬ ((1 : Int) < b) := by omega
          exact if_f (by simp [startR, fw, c, b1I]) rfl
      · exact if_f (by simp [startR, fw, c]) rfl
    · simp only [lE] at e3
      have := rng1_nat (by omega : n ≤ 1000000)
      simp [startR, this, lE, e3]
  rcases hf with ⟨p0, hp0, hn0, shut, hs⟩ | ⟨wy, hw, hs⟩
  · have ns0 := shut_short ok W.giv T hp0 hn0 bb1 am
    refine mid _ _ (hs b bb1 bb2) (hs (b * t) (by omega) (by omega)) (by simp) (by simp) ?_ fun y11 y12 y13 => ?_
    · have := y_neSelf (S := []) (d := .tup [.str "lot", lotD shut]) (by simp; exact str_ok_lot)
      have ct := cut_take [.str "lot", lotD shut] 2
      simp at ct
      simp [ct, this]
    · have : gEq [] (.str "lot") (.str "lot") = some (.bl true) := y_eqSelf str_ok_lot
      obtain ⟨d, ed, hd0, hd⟩ := forfeit_short_w W hl bb1 bb2 hal amL
      have dn : d ≠ .non := fun z => ns0 (hd.mp z)
      obtain ⟨l, rfl⟩ := hd0.resolve_left dn
      unfold Ret tail_law
      simp [lE, this, ed]
  · refine mid _ _ (hs b bb1 bb2) (hs (b * t) (by omega) (by omega)) (by simp) (by simp) ?_ fun y11 y12 y13 => ?_
    · have := y_neSelf (S := []) (d := .tup [.str "ways", .tup (((List.range rows.length).map wy).map lotD)]) (by simp; exact str_ok_ways)
      have ct := cut_take [.str "ways", .tup (((List.range rows.length).map wy).map lotD), lotD ((List.range rows.length).map fun k => b * cntW ((List.range rows.length).map wy) k)] 2
      have ct2 := cut_take [.str "ways", .tup (((List.range rows.length).map wy).map lotD), lotD ((List.range rows.length).map fun k => b * t * cntW ((List.range rows.length).map wy) k)] 2
      simp only [List.map_map] at ct ct2 this
      simp at ct ct2
      simp [ct, ct2, this]
    · have ne : gEq [] (.str "ways") (.str "lot") = some (.bl false) := by
        rw [y_eq (x := .str "ways") (y := .str "lot") str_ok_ways str_ok_lot]
        have : eqD (.str "ways") (.str "lot") = false := by decide +kernel
        rw [this]
      obtain ⟨cw, hcw⟩ : ∃ cw : Nat → Nat, cw = cntW ((List.range rows.length).map wy) := ⟨_, rfl⟩
      have rl : rows.length ≤ 1000000 := by omega
      have keep := ways_keep T.toTreeP hw (b * (t + 1))
      have tight := ways_tight T.toTreeP n2 W.giv hw (b * (t + 1))
      have Bl : b * (t + 1) ≤ 9 * 7 := Nat.mul_le_mul (by omega) (by omega)
      have B1 : 1 * 1 ≤ b * (t + 1) := Nat.mul_le_mul (by omega) (by omega)
      have cl : ∀ k, cntW ((List.range rows.length).map wy) k ≤ 8 := fun k => by
        unfold cntW
        refine Nat.le_trans (List.length_filter_le _ _) ?_
        simpa using r8
      have bl : ((List.range rows.length).map fun k => b * (t + 1) * cntW ((List.range rows.length).map wy) k).length = rows.length := by simp
      have ba : ∀ a ∈ ((List.range rows.length).map fun k => b * (t + 1) * cntW ((List.range rows.length).map wy) k), a ≤ 1000000 := fun a ha => by
        obtain ⟨k, _, rfl⟩ := List.mem_map.mp ha
        exact Nat.le_trans (Nat.mul_le_mul Bl (cl k)) (by decide)
      have g1 := is_forfeits_w W hl (by omega : 1 ≤ b * (t + 1)) (by omega) bl ba
      have g2 := is_forfeits_w W hl (by omega : 1 ≤ b * (t + 1) + 1) (by omega) bl ba
      rw [decide_eq_true keep] at g1
      rw [decide_eq_false tight] at g2
      rw [← hcw] at g1 g2 ⊢
      have cmb : ∀ j : Int, cMul (b : Int) j = true := fun j => cMul_l (by rw [Int.natAbs_natCast]; omega)
      have cmt : ∀ j : Int, cMul (t : Int) j = true := fun j => cMul_l (by rw [Int.natAbs_natCast]; omega)
      have BI : (b : Int) * ((t : Int) + 1) = ((b * (t + 1) : Nat) : Int) := by simp
      have BI2 : ((b * (t + 1) : Nat) : Int) + 1 = ((b * (t + 1) + 1 : Nat) : Int) := by simp
      refine ret_if0 (by simp [lE, ne]) (ret_if0 ?_ (ret_set (x := lotD ((List.range rows.length).map fun k => b * (t + 1) * cw k)) ?_ (ret_if0 ?_ (ret_ret (x := .bl true) ?_ rfl))))
      · have e1 : (D.tup ((List.range rows.length).map fun k : Nat => D.int ((t : Int) * ((b : Int) * (cw k : Int))))) = lotD ((List.range rows.length).map fun k => b * t * cw k) := by
          unfold lotD
          rw [List.map_map]
          congr 1
          refine List.map_congr_left fun k _ => ?_
          simp only [Function.comp, nD_eq]
          congr 1
          simp only [Int.natCast_mul]
          rw [Int.mul_comm (b : Int) t, Int.mul_assoc]
        have e2 := y_neSelf (S := []) (d := lotD ((List.range rows.length).map fun k => b * t * cw k)) (by simp)
        simp [lE, cmt, rl, e1, e2]
      · have at1 : ∀ (f : Nat → Nat) (k : Nat), k < rows.length → atI (((List.range rows.length).map f).map nD) (k : Int) = some (.int (f k : Nat)) := fun f k hk => by
          rw [atI_map, List.getElem?_map, List.getElem?_range hk]; rfl
        have c : cmpM (fun k : Nat => (atI (((List.range rows.length).map fun k => b * cw k).map nD) (k : Int)).bind fun x => (atI (((List.range rows.length).map fun k => b * t * cw k).map nD) (k : Int)).bind fun y => gAddA [] x y) (List.range rows.length) = some (((List.range rows.length).map fun k => b * (t + 1) * cw k).map nD) := by
          refine Eq.trans ((cmpM_congr rfl fun k hk => ?_).trans (cmpM_some (nD ∘ fun k => b * (t + 1) * cw k) _)) (by rw [List.map_map])
          have hk' := List.mem_range.mp hk
          rw [at1 _ k hk', at1 _ k hk']
          simp only [Option.bind_some, y_addI, Function.comp, nD_eq]
          congr 2
          rw [Nat.mul_add, Nat.mul_one, Nat.add_mul, Int.natCast_add, Int.add_comm]
        have rg := rng1_nat rl
        simp only [List.map_map] at c
        simp [lE, rg, c, rl]
        simp [lotD]
      · have g1' : f_is_forfeits [webD n rows, .int (leader : Nat), .int ((b : Int) * ((t : Int) + 1)), lotD ((List.range rows.length).map fun k => b * (t + 1) * cw k)] = some (.bl true) := by rw [BI]; exact g1
        simp [lE, cmb, g1']
      · have g2' : f_is_forfeits [webD n rows, .int (leader : Nat), .int ((b : Int) * ((t : Int) + 1) + 1), lotD ((List.range rows.length).map fun k => b * (t + 1) * cw k)] = some (.bl false) := by rw [BI, BI2]; exact g2
        simp [lE, cmb, g2']
end DL

set_option maxHeartbeats 4000000
namespace DL
open PySem PySem.Spec L2
theorem all_mk {l : PySem.W.OpenLaw} {w : World} {K : PySem.W.Frag} {h : Heap} {mg : Str → Option Value} {fa fl : Addr} (X : K.In h) (G : h.Ns mainGlobals mg) (hfa : mg "law" = some (.ref fa))
    {f0 f1 f2 f3 f4 f5 f6 f7 f8 f9 f10 f11 f12 f13 f14 f15 f16 f17 f18 f19 f20 f21 f22 f23 f24 f25 f26 f27 f28 f29 f30 f31 f32 f33 f34 : Addr}
    {od0 an0 od1 an1 od2 an2 od3 an3 od4 an4 od5 an5 od6 an6 od7 an7 od8 an8 od9 an9 od10 an10 od11 an11 od12 an12 od13 an13 od14 an14 od15 an15 od16 an16 od17 an17 od18 an18 od19 an19 od20 an20 od21 an21 od22 an22 od23 an23 od24 an24 od25 an25 od26 an26 od27 an27 od28 an28 od29 an29 od30 an30 od31 an31 od32 an32 od33 an33 od34 an34 : Option Addr} {sl0 sl1 sl2 sl3 sl4 sl5 sl6 sl7 sl8 sl9 sl10 sl11 sl12 sl13 sl14 sl15 sl16 sl17 sl18 sl19 sl20 sl21 sl22 sl23 sl24 sl25 sl26 sl27 sl28 sl29 sl30 sl31 sl32 sl33 sl34 : Array (Option Value)} {oc0 kV0 dc0 pm0 cd0 ct0 oc1 kV1 dc1 pm1 cd1 ct1 oc2 kV2 dc2 pm2 cd2 ct2 oc3 kV3 dc3 pm3 cd3 ct3 oc4 kV4 dc4 pm4 cd4 ct4 oc5 kV5 dc5 pm5 cd5 ct5 oc6 kV6 dc6 pm6 cd6 ct6 oc7 kV7 dc7 pm7 cd7 ct7 oc8 kV8 dc8 pm8 cd8 ct8 oc9 kV9 dc9 pm9 cd9 ct9 oc10 kV10 dc10 pm10 cd10 ct10 oc11 kV11 dc11 pm11 cd11 ct11 oc12 kV12 dc12 pm12 cd12 ct12 oc13 kV13 dc13 pm13 cd13 ct13 oc14 kV14 dc14 pm14 cd14 ct14 oc15 kV15 dc15 pm15 cd15 ct15 oc16 kV16 dc16 pm16 cd16 ct16 oc17 kV17 dc17 pm17 cd17 ct17 oc18 kV18 dc18 pm18 cd18 ct18 oc19 kV19 dc19 pm19 cd19 ct19 oc20 kV20 dc20 pm20 cd20 ct20 oc21 kV21 dc21 pm21 cd21 ct21 oc22 kV22 dc22 pm22 cd22 ct22 oc23 kV23 dc23 pm23 cd23 ct23 oc24 kV24 dc24 pm24 cd24 ct24 oc25 kV25 dc25 pm25 cd25 ct25 oc26 kV26 dc26 pm26 cd26 ct26 oc27 kV27 dc27 pm27 cd27 ct27 oc28 kV28 dc28 pm28 cd28 ct28 oc29 kV29 dc29 pm29 cd29 ct29 oc30 kV30 dc30 pm30 cd30 ct30 oc31 kV31 dc31 pm31 cd31 ct31 oc32 kV32 dc32 pm32 cd32 ct32 oc33 kV33 dc33 pm33 cd33 ct33 oc34 kV34 dc34 pm34 cd34 ct34 : Value} {odl anl : Option Addr} {sll : Array (Option Value)} {ocl kVl dcl pml cdl ctl : Value}
    {t_FEWEST_PERSONS t_MOST_BASE t_MOST_DELAY t_MOST_FORFEIT t_MOST_PERSONS t_MOST_TRANSFERS : Tok}
    (a0 : PySem.W.nsIn K mainGlobals "_law_mixed" = some (some (.ref f0))) (l0 : K.lookup f0 = some ⟨oc0, od0, .func (PySem.W.fnOf "_law_mixed" "_law_mixed" (defArgs s_law_mixed) (defBody s_law_mixed) (defScope s_law_mixed) .none kV0 dc0 pm0 an0 cd0 ct0), sl0⟩) (c0 : PySem.W.codeIn K cd0 "_law_mixed" = true) (k0 : PySem.W.keepIn K (.ref f0) = true)
    (a1 : PySem.W.nsIn K mainGlobals "_law_row" = some (some (.ref f1))) (l1 : K.lookup f1 = some ⟨oc1, od1, .func (PySem.W.fnOf "_law_row" "_law_row" (defArgs s_law_row) (defBody s_law_row) (defScope s_law_row) .none kV1 dc1 pm1 an1 cd1 ct1), sl1⟩) (c1 : PySem.W.codeIn K cd1 "_law_row" = true) (k1 : PySem.W.keepIn K (.ref f1) = true)
    (a2 : PySem.W.nsIn K mainGlobals "_law_web" = some (some (.ref f2))) (l2 : K.lookup f2 = some ⟨oc2, od2, .func (PySem.W.fnOf "_law_web" "_law_web" (defArgs s_law_web) (defBody s_law_web) (defScope s_law_web) .none kV2 dc2 pm2 an2 cd2 ct2), sl2⟩) (c2 : PySem.W.codeIn K cd2 "_law_web" = true) (k2 : PySem.W.keepIn K (.ref f2) = true)
    (a3 : PySem.W.nsIn K mainGlobals "is_tuple_of" = some (some (.ref f3))) (l3 : K.lookup f3 = some ⟨oc3, od3, .func (PySem.W.fnOf "is_tuple_of" "is_tuple_of" (defArgs s_is_tuple_of) (defBody s_is_tuple_of) (defScope s_is_tuple_of) .none kV3 dc3 pm3 an3 cd3 ct3), sl3⟩) (c3 : PySem.W.codeIn K cd3 "is_tuple_of" = true) (k3 : PySem.W.keepIn K (.ref f3) = true)
    (a4 : PySem.W.nsIn K mainGlobals "is_integer" = some (some (.ref f4))) (l4 : K.lookup f4 = some ⟨oc4, od4, .func (PySem.W.fnOf "is_integer" "is_integer" (defArgs s_is_integer) (defBody s_is_integer) (defScope s_is_integer) .none kV4 dc4 pm4 an4 cd4 ct4), sl4⟩) (c4 : PySem.W.codeIn K cd4 "is_integer" = true) (k4 : PySem.W.keepIn K (.ref f4) = true)
    (a5 : PySem.W.nsIn K mainGlobals "is_between" = some (some (.ref f5))) (l5 : K.lookup f5 = some ⟨oc5, od5, .func (PySem.W.fnOf "is_between" "is_between" (defArgs s_is_between) (defBody s_is_between) (defScope s_is_between) .none kV5 dc5 pm5 an5 cd5 ct5), sl5⟩) (c5 : PySem.W.codeIn K cd5 "is_between" = true) (k5 : PySem.W.keepIn K (.ref f5) = true)
    (a6 : PySem.W.nsIn K mainGlobals "is_under" = some (some (.ref f6))) (l6 : K.lookup f6 = some ⟨oc6, od6, .func (PySem.W.fnOf "is_under" "is_under" (defArgs s_is_under) (defBody s_is_under) (defScope s_is_under) .none kV6 dc6 pm6 an6 cd6 ct6), sl6⟩) (c6 : PySem.W.codeIn K cd6 "is_under" = true) (k6 : PySem.W.keepIn K (.ref f6) = true)
    (a7 : PySem.W.nsIn K mainGlobals "is_row" = some (some (.ref f7))) (l7 : K.lookup f7 = some ⟨oc7, od7, .func (PySem.W.fnOf "is_row" "is_row" (defArgs s_is_row) (defBody s_is_row) (defScope s_is_row) .none kV7 dc7 pm7 an7 cd7 ct7), sl7⟩) (c7 : PySem.W.codeIn K cd7 "is_row" = true) (k7 : PySem.W.keepIn K (.ref f7) = true)
    (a8 : PySem.W.nsIn K mainGlobals "is_web" = some (some (.ref f8))) (l8 : K.lookup f8 = some ⟨oc8, od8, .func (PySem.W.fnOf "is_web" "is_web" (defArgs s_is_web) (defBody s_is_web) (defScope s_is_web) .none kV8 dc8 pm8 an8 cd8 ct8), sl8⟩) (c8 : PySem.W.codeIn K cd8 "is_web" = true) (k8 : PySem.W.keepIn K (.ref f8) = true)
    (a9 : PySem.W.nsIn K mainGlobals "need_web" = some (some (.ref f9))) (l9 : K.lookup f9 = some ⟨oc9, od9, .func (PySem.W.fnOf "need_web" "need_web" (defArgs s_need_web) (defBody s_need_web) (defScope s_need_web) .none kV9 dc9 pm9 an9 cd9 ct9), sl9⟩) (c9 : PySem.W.codeIn K cd9 "need_web" = true) (k9 : PySem.W.keepIn K (.ref f9) = true)
    (a10 : PySem.W.nsIn K mainGlobals "need_person" = some (some (.ref f10))) (l10 : K.lookup f10 = some ⟨oc10, od10, .func (PySem.W.fnOf "need_person" "need_person" (defArgs s_need_person) (defBody s_need_person) (defScope s_need_person) .none kV10 dc10 pm10 an10 cd10 ct10), sl10⟩) (c10 : PySem.W.codeIn K cd10 "need_person" = true) (k10 : PySem.W.keepIn K (.ref f10) = true)
    (a11 : PySem.W.nsIn K mainGlobals "need_base" = some (some (.ref f11))) (l11 : K.lookup f11 = some ⟨oc11, od11, .func (PySem.W.fnOf "need_base" "need_base" (defArgs s_need_base) (defBody s_need_base) (defScope s_need_base) .none kV11 dc11 pm11 an11 cd11 ct11), sl11⟩) (c11 : PySem.W.codeIn K cd11 "need_base" = true) (k11 : PySem.W.keepIn K (.ref f11) = true)
    (a12 : PySem.W.nsIn K mainGlobals "need_case" = some (some (.ref f12))) (l12 : K.lookup f12 = some ⟨oc12, od12, .func (PySem.W.fnOf "need_case" "need_case" (defArgs s_need_case) (defBody s_need_case) (defScope s_need_case) .none kV12 dc12 pm12 an12 cd12 ct12), sl12⟩) (c12 : PySem.W.codeIn K cd12 "need_case" = true) (k12 : PySem.W.keepIn K (.ref f12) = true)
    (a13 : PySem.W.nsIn K mainGlobals "got_by" = some (some (.ref f13))) (l13 : K.lookup f13 = some ⟨oc13, od13, .func (PySem.W.fnOf "got_by" "got_by" (defArgs s_got_by) (defBody s_got_by) (defScope s_got_by) .none kV13 dc13 pm13 an13 cd13 ct13), sl13⟩) (c13 : PySem.W.codeIn K cd13 "got_by" = true) (k13 : PySem.W.keepIn K (.ref f13) = true)
    (a14 : PySem.W.nsIn K mainGlobals "steps_to" = some (some (.ref f14))) (l14 : K.lookup f14 = some ⟨oc14, od14, .func (PySem.W.fnOf "steps_to" "steps_to" (defArgs s_steps_to) (defBody s_steps_to) (defScope s_steps_to) .none kV14 dc14 pm14 an14 cd14 ct14), sl14⟩) (c14 : PySem.W.codeIn K cd14 "steps_to" = true) (k14 : PySem.W.keepIn K (.ref f14) = true)
    (a15 : PySem.W.nsIn K mainGlobals "shut_in" = some (some (.ref f15))) (l15 : K.lookup f15 = some ⟨oc15, od15, .func (PySem.W.fnOf "shut_in" "shut_in" (defArgs s_shut_in) (defBody s_shut_in) (defScope s_shut_in) .none kV15 dc15 pm15 an15 cd15 ct15), sl15⟩) (c15 : PySem.W.codeIn K cd15 "shut_in" = true) (k15 : PySem.W.keepIn K (.ref f15) = true)
    (a16 : PySem.W.nsIn K mainGlobals "amounts_by" = some (some (.ref f16))) (l16 : K.lookup f16 = some ⟨oc16, od16, .func (PySem.W.fnOf "amounts_by" "amounts_by" (defArgs s_amounts_by) (defBody s_amounts_by) (defScope s_amounts_by) .none kV16 dc16 pm16 an16 cd16 ct16), sl16⟩) (c16 : PySem.W.codeIn K cd16 "amounts_by" = true) (k16 : PySem.W.keepIn K (.ref f16) = true)
    (a17 : PySem.W.nsIn K mainGlobals "way_on" = some (some (.ref f17))) (l17 : K.lookup f17 = some ⟨oc17, od17, .func (PySem.W.fnOf "way_on" "way_on" (defArgs s_way_on) (defBody s_way_on) (defScope s_way_on) .none kV17 dc17 pm17 an17 cd17 ct17), sl17⟩) (c17 : PySem.W.codeIn K cd17 "way_on" = true) (k17 : PySem.W.keepIn K (.ref f17) = true)
    (a18 : PySem.W.nsIn K mainGlobals "forfeits" = some (some (.ref f18))) (l18 : K.lookup f18 = some ⟨oc18, od18, .func (PySem.W.fnOf "forfeits" "forfeits" (defArgs s_forfeits) (defBody s_forfeits) (defScope s_forfeits) .none kV18 dc18 pm18 an18 cd18 ct18), sl18⟩) (c18 : PySem.W.codeIn K cd18 "forfeits" = true) (k18 : PySem.W.keepIn K (.ref f18) = true)
    (a19 : PySem.W.nsIn K mainGlobals "_law_gets" = some (some (.ref f19))) (l19 : K.lookup f19 = some ⟨oc19, od19, .func (PySem.W.fnOf "_law_gets" "_law_gets" (defArgs s_law_gets) (defBody s_law_gets) (defScope s_law_gets) .none kV19 dc19 pm19 an19 cd19 ct19), sl19⟩) (c19 : PySem.W.codeIn K cd19 "_law_gets" = true) (k19 : PySem.W.keepIn K (.ref f19) = true)
    (a20 : PySem.W.nsIn K mainGlobals "_law_steps" = some (some (.ref f20))) (l20 : K.lookup f20 = some ⟨oc20, od20, .func (PySem.W.fnOf "_law_steps" "_law_steps" (defArgs s_law_steps) (defBody s_law_steps) (defScope s_law_steps) .none kV20 dc20 pm20 an20 cd20 ct20), sl20⟩) (c20 : PySem.W.codeIn K cd20 "_law_steps" = true) (k20 : PySem.W.keepIn K (.ref f20) = true)
    (a21 : PySem.W.nsIn K mainGlobals "_law_amounts" = some (some (.ref f21))) (l21 : K.lookup f21 = some ⟨oc21, od21, .func (PySem.W.fnOf "_law_amounts" "_law_amounts" (defArgs s_law_amounts) (defBody s_law_amounts) (defScope s_law_amounts) .none kV21 dc21 pm21 an21 cd21 ct21), sl21⟩) (c21 : PySem.W.codeIn K cd21 "_law_amounts" = true) (k21 : PySem.W.keepIn K (.ref f21) = true)
    (a22 : PySem.W.nsIn K mainGlobals "_law_lot" = some (some (.ref f22))) (l22 : K.lookup f22 = some ⟨oc22, od22, .func (PySem.W.fnOf "_law_lot" "_law_lot" (defArgs s_law_lot) (defBody s_law_lot) (defScope s_law_lot) .none kV22 dc22 pm22 an22 cd22 ct22), sl22⟩) (c22 : PySem.W.codeIn K cd22 "_law_lot" = true) (k22 : PySem.W.keepIn K (.ref f22) = true)
    (a23 : PySem.W.nsIn K mainGlobals "_law_at" = some (some (.ref f23))) (l23 : K.lookup f23 = some ⟨oc23, od23, .func (PySem.W.fnOf "_law_at" "_law_at" (defArgs s_law_at) (defBody s_law_at) (defScope s_law_at) .none kV23 dc23 pm23 an23 cd23 ct23), sl23⟩) (c23 : PySem.W.codeIn K cd23 "_law_at" = true) (k23 : PySem.W.keepIn K (.ref f23) = true)
    (a24 : PySem.W.nsIn K mainGlobals "are_amounts" = some (some (.ref f24))) (l24 : K.lookup f24 = some ⟨oc24, od24, .func (PySem.W.fnOf "are_amounts" "are_amounts" (defArgs s_are_amounts) (defBody s_are_amounts) (defScope s_are_amounts) .none kV24 dc24 pm24 an24 cd24 ct24), sl24⟩) (c24 : PySem.W.codeIn K cd24 "are_amounts" = true) (k24 : PySem.W.keepIn K (.ref f24) = true)
    (a25 : PySem.W.nsIn K mainGlobals "given_by" = some (some (.ref f25))) (l25 : K.lookup f25 = some ⟨oc25, od25, .func (PySem.W.fnOf "given_by" "given_by" (defArgs s_given_by) (defBody s_given_by) (defScope s_given_by) .none kV25 dc25 pm25 an25 cd25 ct25), sl25⟩) (c25 : PySem.W.codeIn K cd25 "given_by" = true) (k25 : PySem.W.keepIn K (.ref f25) = true)
    (a26 : PySem.W.nsIn K mainGlobals "net_of" = some (some (.ref f26))) (l26 : K.lookup f26 = some ⟨oc26, od26, .func (PySem.W.fnOf "net_of" "net_of" (defArgs s_net_of) (defBody s_net_of) (defScope s_net_of) .none kV26 dc26 pm26 an26 cd26 ct26), sl26⟩) (c26 : PySem.W.codeIn K cd26 "net_of" = true) (k26 : PySem.W.keepIn K (.ref f26) = true)
    (a27 : PySem.W.nsIn K mainGlobals "due_of" = some (some (.ref f27))) (l27 : K.lookup f27 = some ⟨oc27, od27, .func (PySem.W.fnOf "due_of" "due_of" (defArgs s_due_of) (defBody s_due_of) (defScope s_due_of) .none kV27 dc27 pm27 an27 cd27 ct27), sl27⟩) (c27 : PySem.W.codeIn K cd27 "due_of" = true) (k27 : PySem.W.keepIn K (.ref f27) = true)
    (a28 : PySem.W.nsIn K mainGlobals "short_at" = some (some (.ref f28))) (l28 : K.lookup f28 = some ⟨oc28, od28, .func (PySem.W.fnOf "short_at" "short_at" (defArgs s_short_at) (defBody s_short_at) (defScope s_short_at) .none kV28 dc28 pm28 an28 cd28 ct28), sl28⟩) (c28 : PySem.W.codeIn K cd28 "short_at" = true) (k28 : PySem.W.keepIn K (.ref f28) = true)
    (a29 : PySem.W.nsIn K mainGlobals "is_forfeits" = some (some (.ref f29))) (l29 : K.lookup f29 = some ⟨oc29, od29, .func (PySem.W.fnOf "is_forfeits" "is_forfeits" (defArgs s_is_forfeits) (defBody s_is_forfeits) (defScope s_is_forfeits) .none kV29 dc29 pm29 an29 cd29 ct29), sl29⟩) (c29 : PySem.W.codeIn K cd29 "is_forfeits" = true) (k29 : PySem.W.keepIn K (.ref f29) = true)
    (a30 : PySem.W.nsIn K mainGlobals "need_amounts" = some (some (.ref f30))) (l30 : K.lookup f30 = some ⟨oc30, od30, .func (PySem.W.fnOf "need_amounts" "need_amounts" (defArgs s_need_amounts) (defBody s_need_amounts) (defScope s_need_amounts) .none kV30 dc30 pm30 an30 cd30 ct30), sl30⟩) (c30 : PySem.W.codeIn K cd30 "need_amounts" = true) (k30 : PySem.W.keepIn K (.ref f30) = true)
    (a31 : PySem.W.nsIn K mainGlobals "are_under" = some (some (.ref f31))) (l31 : K.lookup f31 = some ⟨oc31, od31, .func (PySem.W.fnOf "are_under" "are_under" (defArgs s_are_under) (defBody s_are_under) (defScope s_are_under) .none kV31 dc31 pm31 an31 cd31 ct31), sl31⟩) (c31 : PySem.W.codeIn K cd31 "are_under" = true) (k31 : PySem.W.keepIn K (.ref f31) = true)
    (a32 : PySem.W.nsIn K mainGlobals "is_lot" = some (some (.ref f32))) (l32 : K.lookup f32 = some ⟨oc32, od32, .func (PySem.W.fnOf "is_lot" "is_lot" (defArgs s_is_lot) (defBody s_is_lot) (defScope s_is_lot) .none kV32 dc32 pm32 an32 cd32 ct32), sl32⟩) (c32 : PySem.W.codeIn K cd32 "is_lot" = true) (k32 : PySem.W.keepIn K (.ref f32) = true)
    (a33 : PySem.W.nsIn K mainGlobals "forfeit_net" = some (some (.ref f33))) (l33 : K.lookup f33 = some ⟨oc33, od33, .func (PySem.W.fnOf "forfeit_net" "forfeit_net" (defArgs s_forfeit_net) (defBody s_forfeit_net) (defScope s_forfeit_net) .none kV33 dc33 pm33 an33 cd33 ct33), sl33⟩) (c33 : PySem.W.codeIn K cd33 "forfeit_net" = true) (k33 : PySem.W.keepIn K (.ref f33) = true)
    (a34 : PySem.W.nsIn K mainGlobals "forfeit_short" = some (some (.ref f34))) (l34 : K.lookup f34 = some ⟨oc34, od34, .func (PySem.W.fnOf "forfeit_short" "forfeit_short" (defArgs s_forfeit_short) (defBody s_forfeit_short) (defScope s_forfeit_short) .none kV34 dc34 pm34 an34 cd34 ct34), sl34⟩) (c34 : PySem.W.codeIn K cd34 "forfeit_short" = true) (k34 : PySem.W.keepIn K (.ref f34) = true)
    (al : PySem.W.nsIn K mainGlobals "law" = some (some (.ref fl))) (ll : K.lookup fl = some ⟨ocl, odl, .func (PySem.W.fnOf "law" "law" (defArgs s_law) (defBody s_law) (defScope s_law) .none kVl dcl pml anl cdl ctl), sll⟩) (cl : PySem.W.codeIn K cdl "law" = true) (kl : PySem.W.keepIn K (.ref fl) = true)
    (z_all : PySem.W.nsIn K mainGlobals "all" = some none)
    (z_bool : PySem.W.nsIn K mainGlobals "bool" = some none)
    (z_enumerate : PySem.W.nsIn K mainGlobals "enumerate" = some none)
    (z_int : PySem.W.nsIn K mainGlobals "int" = some none)
    (z_isinstance : PySem.W.nsIn K mainGlobals "isinstance" = some none)
    (z_len : PySem.W.nsIn K mainGlobals "len" = some none)
    (z_list : PySem.W.nsIn K mainGlobals "list" = some none)
    (z_max : PySem.W.nsIn K mainGlobals "max" = some none)
    (z_range : PySem.W.nsIn K mainGlobals "range" = some none)
    (z_sorted : PySem.W.nsIn K mainGlobals "sorted" = some none)
    (z_sum : PySem.W.nsIn K mainGlobals "sum" = some none)
    (z_tuple : PySem.W.nsIn K mainGlobals "tuple" = some none)
    (y_FEWEST_PERSONS : PySem.W.nsIn K mainGlobals "FEWEST_PERSONS" = some (some (.int 2 t_FEWEST_PERSONS)))
    (y_MOST_BASE : PySem.W.nsIn K mainGlobals "MOST_BASE" = some (some (.int 1000 t_MOST_BASE)))
    (y_MOST_DELAY : PySem.W.nsIn K mainGlobals "MOST_DELAY" = some (some (.int 9 t_MOST_DELAY)))
    (y_MOST_FORFEIT : PySem.W.nsIn K mainGlobals "MOST_FORFEIT" = some (some (.int 1000000 t_MOST_FORFEIT)))
    (y_MOST_PERSONS : PySem.W.nsIn K mainGlobals "MOST_PERSONS" = some (some (.int 6 t_MOST_PERSONS)))
    (y_MOST_TRANSFERS : PySem.W.nsIn K mainGlobals "MOST_TRANSFERS" = some (some (.int 10 t_MOST_TRANSFERS)))
    : ∃ fd : FuncData, (∀ (s : Shared) (v : Value), BindsTo s fd ⟨[v], []⟩ [("script", v)]) ∧ ∀ base : Heap, K.In base → base.Ns mainGlobals mg → FnOk l.prog w K mg base CX0 8 fa fd ["script"] (spD K 1 f_law) := by
  have e := hfa.symm.trans (PySem.W.mg_of X G al)
  cases e
  have F : Fx K mg := ⟨tx_mk X G bd_law_mixed a0 l0 c0 k0, tx_mk X G bd_law_row a1 l1 c1 k1, tx_mk X G bd_law_web a2 l2 c2 k2, tx_mk X G bd_is_tuple_of a3 l3 c3 k3, tx_mk X G bd_is_integer a4 l4 c4 k4, tx_mk X G bd_is_between a5 l5 c5 k5, tx_mk X G bd_is_under a6 l6 c6 k6, tx_mk X G bd_is_row a7 l7 c7 k7, tx_mk X G bd_is_web a8 l8 c8 k8, tx_mk X G bd_need_web a9 l9 c9 k9, tx_mk X G bd_need_person a10 l10 c10 k10, tx_mk X G bd_need_base a11 l11 c11 k11, tx_mk X G bd_need_case a12 l12 c12 k12, tx_mk X G bd_got_by a13 l13 c13 k13, tx_mk X G bd_steps_to a14 l14 c14 k14, tx_mk X G bd_shut_in a15 l15 c15 k15, tx_mk X G bd_amounts_by a16 l16 c16 k16, tx_mk X G bd_way_on a17 l17 c17 k17, tx_mk X G bd_forfeits a18 l18 c18 k18, tx_mk X G bd_law_gets a19 l19 c19 k19, tx_mk X G bd_law_steps a20 l20 c20 k20, tx_mk X G bd_law_amounts a21 l21 c21 k21, tx_mk X G bd_law_lot a22 l22 c22 k22, tx_mk X G bd_law_at a23 l23 c23 k23, tx_mk X G bd_are_amounts a24 l24 c24 k24, tx_mk X G bd_given_by a25 l25 c25 k25, tx_mk X G bd_net_of a26 l26 c26 k26, tx_mk X G bd_due_of a27 l27 c27 k27, tx_mk X G bd_short_at a28 l28 c28 k28, tx_mk X G bd_is_forfeits a29 l29 c29 k29, tx_mk X G bd_need_amounts a30 l30 c30 k30, tx_mk X G bd_are_under a31 l31 c31 k31, tx_mk X G bd_is_lot a32 l32 c32 k32, tx_mk X G bd_forfeit_net a33 l33 c33 k33, tx_mk X G bd_forfeit_short a34 l34 c34 k34, PySem.W.mg_none_of X G z_all, PySem.W.mg_none_of X G z_bool, PySem.W.mg_none_of X G z_enumerate, PySem.W.mg_none_of X G z_int, PySem.W.mg_none_of X G z_isinstance, PySem.W.mg_none_of X G z_len, PySem.W.mg_none_of X G z_list, PySem.W.mg_none_of X G z_max, PySem.W.mg_none_of X G z_range, PySem.W.mg_none_of X G z_sorted, PySem.W.mg_none_of X G z_sum, PySem.W.mg_none_of X G z_tuple, ⟨_, PySem.W.mg_of X G y_FEWEST_PERSONS⟩, ⟨_, PySem.W.mg_of X G y_MOST_BASE⟩, ⟨_, PySem.W.mg_of X G y_MOST_DELAY⟩, ⟨_, PySem.W.mg_of X G y_MOST_FORFEIT⟩, ⟨_, PySem.W.mg_of X G y_MOST_PERSONS⟩, ⟨_, PySem.W.mg_of X G y_MOST_TRANSFERS⟩⟩
  exact ⟨PySem.W.fnOf "law" "law" (defArgs s_law) (defBody s_law) (defScope s_law) .none kVl dcl pml anl cdl ctl, fun s v => .of_eq rfl, fun base _ _ => ok_law F (fun_mk (st := s_law) ll cl kl)⟩
end DL

open PySem PySem.W PyProof.Rows in
set_option maxRecDepth 100000 in
set_option pp.maxSteps 300 in
set_option maxHeartbeats 0 in
theorem PySem.Challenge.cw_chesthours_k90_forfeits_to_scale_holds : PySem.Challenge.rw_chesthours_k90_forfeits_to_scale.Holds := by
  w_on; o_law; k_head; (case hw => w_witness2)
  k_fill
  refine DL.law_walk (l := PySem.Challenge.rw_chesthours_k90_forfeits_to_scale) (n := 63) (k := 8) (x := "script") (g := DL.f_law) rfl (by decide) rfl ⟨rfl, by decide, by decide⟩ (fun w h Y => PySem.W.kIn_of Y) DL.plain ?F
  case F =>
    intro w mg fa h KX G hmg
    refine' DL.all_mk KX G hmg ?a0 ?l0 ?c0 ?k0 ?a1 ?l1 ?c1 ?k1 ?a2 ?l2 ?c2 ?k2 ?a3 ?l3 ?c3 ?k3 ?a4 ?l4 ?c4 ?k4 ?a5 ?l5 ?c5 ?k5 ?a6 ?l6 ?c6 ?k6 ?a7 ?l7 ?c7 ?k7 ?a8 ?l8 ?c8 ?k8 ?a9 ?l9 ?c9 ?k9 ?a10 ?l10 ?c10 ?k10 ?a11 ?l11 ?c11 ?k11 ?a12 ?l12 ?c12 ?k12 ?a13 ?l13 ?c13 ?k13 ?a14 ?l14 ?c14 ?k14 ?a15 ?l15 ?c15 ?k15 ?a16 ?l16 ?c16 ?k16 ?a17 ?l17 ?c17 ?k17 ?a18 ?l18 ?c18 ?k18 ?a19 ?l19 ?c19 ?k19 ?a20 ?l20 ?c20 ?k20 ?a21 ?l21 ?c21 ?k21 ?a22 ?l22 ?c22 ?k22 ?a23 ?l23 ?c23 ?k23 ?a24 ?l24 ?c24 ?k24 ?a25 ?l25 ?c25 ?k25 ?a26 ?l26 ?c26 ?k26 ?a27 ?l27 ?c27 ?k27 ?a28 ?l28 ?c28 ?k28 ?a29 ?l29 ?c29 ?k29 ?a30 ?l30 ?c30 ?k30 ?a31 ?l31 ?c31 ?k31 ?a32 ?l32 ?c32 ?k32 ?a33 ?l33 ?c33 ?k33 ?a34 ?l34 ?c34 ?k34 ?al ?ll ?cl ?kl ?z_all ?z_bool ?z_enumerate ?z_int ?z_isinstance ?z_len ?z_list ?z_max ?z_range ?z_sorted ?z_sum ?z_tuple ?y_FEWEST_PERSONS ?y_MOST_BASE ?y_MOST_DELAY ?y_MOST_FORFEIT ?y_MOST_PERSONS ?y_MOST_TRANSFERS
    (case a0 => k_is)
    (case l0 => k_is)
    (case c0 => k_is)
    (case k0 => k_is)
    (case a1 => k_is)
    (case l1 => k_is)
    (case c1 => k_is)
    (case k1 => k_is)
    (case a2 => k_is)
    (case l2 => k_is)
    (case c2 => k_is)
    (case k2 => k_is)
    (case a3 => k_is)
    (case l3 => k_is)
    (case c3 => k_is)
    (case k3 => k_is)
    (case a4 => k_is)
    (case l4 => k_is)
    (case c4 => k_is)
    (case k4 => k_is)
    (case a5 => k_is)
    (case l5 => k_is)
    (case c5 => k_is)
    (case k5 => k_is)
    (case a6 => k_is)
    (case l6 => k_is)
    (case c6 => k_is)
    (case k6 => k_is)
    (case a7 => k_is)
    (case l7 => k_is)
    (case c7 => k_is)
    (case k7 => k_is)
    (case a8 => k_is)
    (case l8 => k_is)
    (case c8 => k_is)
    (case k8 => k_is)
    (case a9 => k_is)
    (case l9 => k_is)
    (case c9 => k_is)
    (case k9 => k_is)
    (case a10 => k_is)
    (case l10 => k_is)
    (case c10 => k_is)
    (case k10 => k_is)
    (case a11 => k_is)
    (case l11 => k_is)
    (case c11 => k_is)
    (case k11 => k_is)
    (case a12 => k_is)
    (case l12 => k_is)
    (case c12 => k_is)
    (case k12 => k_is)
    (case a13 => k_is)
    (case l13 => k_is)
    (case c13 => k_is)
    (case k13 => k_is)
    (case a14 => k_is)
    (case l14 => k_is)
    (case c14 => k_is)
    (case k14 => k_is)
    (case a15 => k_is)
    (case l15 => k_is)
    (case c15 => k_is)
    (case k15 => k_is)
    (case a16 => k_is)
    (case l16 => k_is)
    (case c16 => k_is)
    (case k16 => k_is)
    (case a17 => k_is)
    (case l17 => k_is)
    (case c17 => k_is)
    (case k17 => k_is)
    (case a18 => k_is)
    (case l18 => k_is)
    (case c18 => k_is)
    (case k18 => k_is)
    (case a19 => k_is)
    (case l19 => k_is)
    (case c19 => k_is)
    (case k19 => k_is)
    (case a20 => k_is)
    (case l20 => k_is)
    (case c20 => k_is)
    (case k20 => k_is)
    (case a21 => k_is)
    (case l21 => k_is)
    (case c21 => k_is)
    (case k21 => k_is)
    (case a22 => k_is)
    (case l22 => k_is)
    (case c22 => k_is)
    (case k22 => k_is)
    (case a23 => k_is)
    (case l23 => k_is)
    (case c23 => k_is)
    (case k23 => k_is)
    (case a24 => k_is)
    (case l24 => k_is)
    (case c24 => k_is)
    (case k24 => k_is)
    (case a25 => k_is)
    (case l25 => k_is)
    (case c25 => k_is)
    (case k25 => k_is)
    (case a26 => k_is)
    (case l26 => k_is)
    (case c26 => k_is)
    (case k26 => k_is)
    (case a27 => k_is)
    (case l27 => k_is)
    (case c27 => k_is)
    (case k27 => k_is)
    (case a28 => k_is)
    (case l28 => k_is)
    (case c28 => k_is)
    (case k28 => k_is)
    (case a29 => k_is)
    (case l29 => k_is)
    (case c29 => k_is)
    (case k29 => k_is)
    (case a30 => k_is)
    (case l30 => k_is)
    (case c30 => k_is)
    (case k30 => k_is)
    (case a31 => k_is)
    (case l31 => k_is)
    (case c31 => k_is)
    (case k31 => k_is)
    (case a32 => k_is)
    (case l32 => k_is)
    (case c32 => k_is)
    (case k32 => k_is)
    (case a33 => k_is)
    (case l33 => k_is)
    (case c33 => k_is)
    (case k33 => k_is)
    (case a34 => k_is)
    (case l34 => k_is)
    (case c34 => k_is)
    (case k34 => k_is)
    (case al => k_is)
    (case ll => k_is)
    (case cl => k_is)
    (case kl => k_is)
    (case z_all => k_is)
    (case z_bool => k_is)
    (case z_enumerate => k_is)
    (case z_int => k_is)
    (case z_isinstance => k_is)
    (case z_len => k_is)
    (case z_list => k_is)
    (case z_max => k_is)
    (case z_range => k_is)
    (case z_sorted => k_is)
    (case z_sum => k_is)
    (case z_tuple => k_is)
    (case y_FEWEST_PERSONS => k_is)
    (case y_MOST_BASE => k_is)
    (case y_MOST_DELAY => k_is)
    (case y_MOST_FORFEIT => k_is)
    (case y_MOST_PERSONS => k_is)
    (case y_MOST_TRANSFERS => k_is)
#print axioms PySem.Challenge.cw_chesthours_k90_forfeits_to_scale_holds
