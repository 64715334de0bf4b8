import PyProof.Rows.All
import Wide.All
import OpenK.AllK
import Wide.FinOn
import HandS.ForMost
import HandS.Deep
import HandS.Zip
import HandS.TupAny
import HandS.TupMul
import HandS.IsInst
import KE.GoesMore
import HandS.More
import HandS.SetFor
import HandS.SortOrd
import HandS.ExcValue
import KE.LtData
import KE.DataCmp
import PyProof.TupleOfSeq
import HandS.Style
import HandS.Conv
import HandS.Ends
import HandS.Words
import HandS.Dict
import HandS.SortKw
import PySem.Challenge.RW_chesthours_k76_agents_without_rounds
set_option Elab.async false
set_option linter.all false
set_option maxRecDepth 100000
set_option maxHeartbeats 4000000
namespace DL
open PySem PySem.Spec L2

/-- data: tuples and lists that nobody changes any more by value, what may be changed by its place in a store -/
inductive D where
  | non | bl (b : Bool) | int (i : Int) | str (s : Str) | ty (t : String)
  | tup (ds : List D) | lst (ds : List D) | dic (t : Bool) (ks vs : List D) | ins (c : Str) (fs : List Str) (vs : List D)
  | scr (ns : List Int) | ref (n : Nat)

inductive Cell where
  | lst (ds : List D) | dic (t : Bool) (ks vs : List D) | ins (c : Str) (fs : List Str) (vs : List D)

abbrev Rho := List (Option D)
abbrev Sto := List Cell
abbrev E := Rho → Sto → Option D
abbrev EL := Rho → Sto → Option (List D)
abbrev EB := Rho → Sto → Option Bool

def keyD : Key → D
  | .inl i => .int i
  | .inr s => .str s
def dicKs (kvs : List (Key × V)) : List D := kvs.map fun p => keyD p.1
def dicKsT (kvs : List (List Key × V)) : List D := kvs.map fun p => .tup (p.1.map keyD)

/-- the class of a name -/
def ClsAt (K : PySem.W.Frag) (c : Str) (C : Addr) : Prop := PySem.W.nsIn K PySem.mainGlobals c = some (some (.ref C))
mutual
def RV (K : PySem.W.Frag) (av : Addr → Prop) (μ : List Addr) (H : Hp) : D → V → Prop
  | .non, v => v = .non
  | .bl b, v => v = .bl b
  | .int i, v => v = .int i
  | .str s, v => v = .str s
  | .ty t, v => v = .ty t
  | .tup ds, v => ∃ a xs, v = .ref a ∧ H a = some (.tup xs) ∧ RVL K av μ H ds xs
  | .lst ds, v => ∃ a xs, v = .ref a ∧ H a = some (.lst xs) ∧ ¬ av a ∧ RVL K av μ H ds xs
  | .dic t ks vs, v => ∃ a, v = .ref a ∧ ¬ av a ∧ (
      (t = false ∧ ∃ kvs, H a = some (.dK kvs) ∧ ks = dicKs kvs ∧ RVL K av μ H vs (kvs.map (·.2))) ∨
      (t = true ∧ ∃ kvs, H a = some (.dT kvs) ∧ ks = dicKsT kvs ∧ RVL K av μ H vs (kvs.map (·.2))))
  | .ins c fs vs, v => ∃ a C dx fvs, v = .ref a ∧ ¬ av a ∧ H a = some (.ins C dx fvs) ∧ ClsAt K c C ∧ fvs.map (·.1) = fs ∧ RVL K av μ H vs (fvs.map (·.2))
  | .scr ns, v => ∃ a, v = .ref a ∧ ((∃ o, H a = some (.frz o (.lst (ns.map V.int)))) ∨ ∀ H' : Hp, SqL K H' a (ns.map V.int))
  | .ref n, v => ∃ a, v = .ref a ∧ μ[n]? = some a
def RVL (K : PySem.W.Frag) (av : Addr → Prop) (μ : List Addr) (H : Hp) : List D → List V → Prop
  | [], xs => xs = []
  | d :: ds, xs => ∃ y ys, xs = y :: ys ∧ RV K av μ H d y ∧ RVL K av μ H ds ys
end

/-- what may be changed -/
def isMut : HO → Bool
  | .tup _ => false
  | .frz _ _ => false
  | _ => true

section
variable {K : PySem.W.Frag} {av av' : Addr → Prop} {μ μ' : List Addr} {H H' : Hp}
mutual
theorem RV.tr (hp : ∀ a o, H a = some o → (isMut o = true → ¬ av a) → H' a = some o ∧ (isMut o = true → ¬ av' a)) (hm : ∀ (n : Nat) a, μ[n]? = some a → μ'[n]? = some a) :
    ∀ (d : D) (v : V), RV K av μ H d v → RV K av' μ' H' d v
  | .non, _, h => by unfold RV at h ⊢; exact h
  | .bl _, _, h => by unfold RV at h ⊢; exact h
  | .int _, _, h => by unfold RV at h ⊢; exact h
  | .str _, _, h => by unfold RV at h ⊢; exact h
  | .ty _, _, h => by unfold RV at h ⊢; exact h
  | .tup ds, v, h => by
    unfold RV at h ⊢
    obtain ⟨a, xs, e, hs, hr⟩ := h
    exact ⟨a, xs, e, (hp a _ hs (fun z => by cases z)).1, RVL.tr hp hm ds xs hr⟩
  | .lst ds, v, h => by
    unfold RV at h ⊢
    obtain ⟨a, xs, e, hs, hn, hr⟩ := h
    obtain ⟨h1, h2⟩ := hp a _ hs (fun _ => hn)
    exact ⟨a, xs, e, h1, h2 rfl, RVL.tr hp hm ds xs hr⟩
  | .dic t ks vs, v, h => by
    unfold RV at h ⊢
    obtain ⟨a, e, hn, h⟩ := h
    rcases h with ⟨ht, kvs, hs, hk, hr⟩ | ⟨ht, kvs, hs, hk, hr⟩
    · obtain ⟨h1, h2⟩ := hp a _ hs (fun _ => hn)
      exact ⟨a, e, h2 rfl, .inl ⟨ht, kvs, h1, hk, RVL.tr hp hm vs _ hr⟩⟩
    · obtain ⟨h1, h2⟩ := hp a _ hs (fun _ => hn)
      exact ⟨a, e, h2 rfl, .inr ⟨ht, kvs, h1, hk, RVL.tr hp hm vs _ hr⟩⟩
  | .ins c fs vs, v, h => by
    unfold RV at h ⊢
    obtain ⟨a, C, dx, fvs, e, hn, hs, k, hf, hr⟩ := h
    obtain ⟨h1, h2⟩ := hp a _ hs (fun _ => hn)
    exact ⟨a, C, dx, fvs, e, h2 rfl, h1, k, hf, RVL.tr hp hm vs _ hr⟩
  | .scr ns, v, h => by
    unfold RV at h ⊢
    obtain ⟨a, e, hs⟩ := h
    rcases hs with ⟨o, hs⟩ | hs
    · exact ⟨a, e, .inl ⟨o, (hp a _ hs (fun z => by cases z)).1⟩⟩
    · exact ⟨a, e, .inr hs⟩
  | .ref n, v, h => by
    unfold RV at h ⊢
    obtain ⟨a, e, hn⟩ := h
    exact ⟨a, e, hm n a hn⟩
theorem RVL.tr (hp : ∀ a o, H a = some o → (isMut o = true → ¬ av a) → H' a = some o ∧ (isMut o = true → ¬ av' a)) (hm : ∀ (n : Nat) a, μ[n]? = some a → μ'[n]? = some a) :
    ∀ (ds : List D) (xs : List V), RVL K av μ H ds xs → RVL K av' μ' H' ds xs
  | [], xs, h => by unfold RVL at h ⊢; exact h
  | d :: ds, xs, h => by
    unfold RVL at h ⊢
    obtain ⟨y, ys, e, h1, h2⟩ := h
    exact ⟨y, ys, e, RV.tr hp hm d y h1, RVL.tr hp hm ds ys h2⟩
end
end

/-! ### the world at a point of a def's body -/
/-- what stands around: Hb what stood at the entry and stays, A what values may not lean on, μ0 the cells that were there, cl the classes -/
structure Fr where
  Hb : Hp
  A : Addr → Prop
  μ0 : List Addr
  cl : Nat → Addr

def avd (Z : Fr) (μ : List Addr) : Addr → Prop := fun a => Z.A a ∨ a ∈ μ
abbrev RVz (K : PySem.W.Frag) (Z : Fr) (μ : List Addr) (H : Hp) : D → V → Prop := RV K (avd Z μ) μ H
abbrev RVLz (K : PySem.W.Frag) (Z : Fr) (μ : List Addr) (H : Hp) : List D → List V → Prop := RVL K (avd Z μ) μ H

def RC (K : PySem.W.Frag) (Z : Fr) (μ : List Addr) (H : Hp) (a : Addr) : Cell → Prop
  | .lst ds => ∃ xs, H a = some (.lst xs) ∧ RVLz K Z μ H ds xs
  | .dic t ks vs =>
      (t = false ∧ ∃ kvs, H a = some (.dK kvs) ∧ ks = dicKs kvs ∧ RVLz K Z μ H vs (kvs.map (·.2))) ∨
      (t = true ∧ ∃ kvs, H a = some (.dT kvs) ∧ ks = dicKsT kvs ∧ RVLz K Z μ H vs (kvs.map (·.2)))
  | .ins c fs vs => ∃ C dx fvs, H a = some (.ins C dx fvs) ∧ ClsAt K c C ∧ fvs.map (·.1) = fs ∧ RVLz K Z μ H vs (fvs.map (·.2))

structure Wd (K : PySem.W.Frag) (Z : Fr) (μ : List Addr) (H : Hp) (S : Sto) : Prop where
  len : S.length = μ.length
  nd : μ.Nodup
  cell : ∀ (n : Nat) c a, S[n]? = some c → μ[n]? = some a → RC K Z μ H a c
  base : ∀ a o, Z.Hb a = some o → H a = some o
  dis : ∀ a ∈ μ, Z.Hb a = none
  av : ∀ a, Z.A a → H a ≠ none
  disA : ∀ a ∈ μ, ¬ Z.A a
  root : Z.μ0 <+: μ

structure Rel (K : PySem.W.Frag) (Z : Fr) (μ : List Addr) (σ : St) (H : Hp) (ρ : Rho) (S : Sto) : Prop where
  wd : Wd K Z μ H S
  len : ρ.length ≤ σ.length
  env : ∀ (i : Nat) d, ρ[i]? = some (some d) → ∃ v, σ[i]? = some (some v) ∧ RVz K Z μ H d v

theorem RC.mut {K : PySem.W.Frag} {Z : Fr} {μ : List Addr} {H : Hp} {a : Addr} {c : Cell} (h : RC K Z μ H a c) : ∃ o, H a = some o ∧ isMut o = true := by
  cases c with
  | lst ds => obtain ⟨xs, h, _⟩ := h; exact ⟨_, h, rfl⟩
  | dic t ks vs =>
    rcases h with ⟨_, kvs, h, _⟩ | ⟨_, kvs, h, _⟩
    · exact ⟨_, h, rfl⟩
    · exact ⟨_, h, rfl⟩
  | ins c fs vs => obtain ⟨C, dx, fvs, h, _⟩ := h; exact ⟨_, h, rfl⟩

section
variable {K : PySem.W.Frag} {Z : Fr} {μ μ' : List Addr} {H H' : Hp} {S S' : Sto} {σ σ' : St} {ρ ρ' : Rho}

theorem Wd.mem (W : Wd K Z μ H S) {a : Addr} (h : a ∈ μ) : ∃ o, H a = some o ∧ isMut o = true := by
  obtain ⟨n, hn⟩ := List.mem_iff_getElem?.mp h
  obtain ⟨hl, _⟩ := List.getElem?_eq_some_iff.mp hn
  have hl' : n < S.length := by rw [W.len]; exact hl
  exact (W.cell n _ a (List.getElem?_eq_getElem hl') hn).mut
theorem Wd.fresh (W : Wd K Z μ H S) {a : Addr} (h : H a = none) : ¬ avd Z μ a := fun q => by
  rcases q with q | q
  · exact W.av a q h
  · obtain ⟨o, e, _⟩ := W.mem q
    rw [h] at e; cases e
theorem Wd.newB (W : Wd K Z μ H S) {a : Addr} (h : H a = none) : Z.Hb a = none := by
  cases q : Z.Hb a with
  | none => rfl
  | some o => rw [W.base a o q] at h; cases h

theorem RV.mono {d : D} {v : V} (s : Same H H') (h : RVz K Z μ H d v) : RVz K Z μ H' d v := RV.tr (fun a o e hn => ⟨s a o e, hn⟩) (fun _ _ e => e) d v h
theorem RVL.mono {ds : List D} {xs : List V} (s : Same H H') (h : RVLz K Z μ H ds xs) : RVLz K Z μ H' ds xs := RVL.tr (fun a o e hn => ⟨s a o e, hn⟩) (fun _ _ e => e) ds xs h
theorem RC.mono {a : Addr} {c : Cell} (s : Same H H') (h : RC K Z μ H a c) : RC K Z μ H' a c := by
  cases c with
  | lst ds => obtain ⟨xs, h, r⟩ := h; exact ⟨xs, s _ _ h, RVL.mono s r⟩
  | dic t ks vs =>
    rcases h with ⟨t, kvs, h, e, r⟩ | ⟨t, kvs, h, e, r⟩
    · exact .inl ⟨t, kvs, s _ _ h, e, RVL.mono s r⟩
    · exact .inr ⟨t, kvs, s _ _ h, e, RVL.mono s r⟩
  | ins c fs vs => obtain ⟨C, dx, fvs, h, k, e, r⟩ := h; exact ⟨C, dx, fvs, s _ _ h, k, e, RVL.mono s r⟩
theorem Wd.mono (s : Same H H') (W : Wd K Z μ H S) : Wd K Z μ H' S :=
  ⟨W.len, W.nd, fun n c a h1 h2 => (W.cell n c a h1 h2).mono s, fun a o e => s _ _ (W.base a o e), W.dis, fun a h q => W.av a h (s.free q), W.disA, W.root⟩
theorem Rel.mono (s : Same H H') (R : Rel K Z μ σ H ρ S) : Rel K Z μ σ H' ρ S :=
  ⟨R.wd.mono s, R.len, fun i d e => let ⟨v, h1, h2⟩ := R.env i d e; ⟨v, h1, RV.mono s h2⟩⟩
theorem Rel.with (R : Rel K Z μ σ H ρ S) (W : Wd K Z μ' H' S') (tr : ∀ d v, RVz K Z μ H d v → RVz K Z μ' H' d v) : Rel K Z μ' σ H' ρ S' :=
  ⟨W, R.len, fun i d e => let ⟨v, h1, h2⟩ := R.env i d e; ⟨v, h1, tr d v h2⟩⟩

theorem RVL.length : ∀ {ds : List D} {xs : List V} {av : Addr → Prop}, RVL K av μ H ds xs → xs.length = ds.length
  | [], xs, _, h => by unfold RVL at h; subst h; rfl
  | d :: ds, xs, _, h => by
    unfold RVL at h
    obtain ⟨y, ys, rfl, _, h2⟩ := h
    simp only [List.length_cons, RVL.length h2]
theorem RVL.get : ∀ {ds : List D} {xs : List V} {av : Addr → Prop} {i : Nat} {d : D}, RVL K av μ H ds xs → ds[i]? = some d → ∃ v, xs[i]? = some v ∧ RV K av μ H d v
  | [], _, _, _, _, _, e => by simp at e
  | d :: ds, xs, _, 0, d', h, e => by
    unfold RVL at h
    obtain ⟨y, ys, rfl, h1, h2⟩ := h
    simp at e; subst e
    exact ⟨y, rfl, h1⟩
  | d :: ds, xs, _, i + 1, d', h, e => by
    unfold RVL at h
    obtain ⟨y, ys, rfl, h1, h2⟩ := h
    obtain ⟨v, q1, q2⟩ := RVL.get (i := i) h2 (by simpa using e)
    exact ⟨v, by simpa using q1, q2⟩
theorem RVL.getV {av : Addr → Prop} {ds : List D} {xs : List V} {i : Nat} {v : V} (h : RVL K av μ H ds xs) (e : xs[i]? = some v) : ∃ d, ds[i]? = some d ∧ RV K av μ H d v := by
  obtain ⟨hi, _⟩ := List.getElem?_eq_some_iff.mp e
  rw [RVL.length h] at hi
  have q := List.getElem?_eq_getElem hi
  obtain ⟨v', q1, q2⟩ := RVL.get h q
  rw [e] at q1; cases q1
  exact ⟨_, q, q2⟩
theorem RVL.app : ∀ {ds es : List D} {xs ys : List V} {av : Addr → Prop}, RVL K av μ H ds xs → RVL K av μ H es ys → RVL K av μ H (ds ++ es) (xs ++ ys)
  | [], es, xs, ys, _, h1, h2 => by unfold RVL at h1; subst h1; exact h2
  | d :: ds, es, xs, ys, _, h1, h2 => by
    unfold RVL at h1
    obtain ⟨y, zs, rfl, a, b⟩ := h1
    show RVL K _ μ H (d :: (ds ++ es)) _
    unfold RVL
    exact ⟨y, zs ++ ys, rfl, a, RVL.app b h2⟩
theorem RVL.one {av : Addr → Prop} {d : D} {v : V} (h : RV K av μ H d v) : RVL K av μ H [d] [v] := by
  unfold RVL
  exact ⟨v, [], rfl, h, by unfold RVL; rfl⟩
theorem RVL.nil' {av : Addr → Prop} : RVL K av μ H [] [] := by unfold RVL; rfl
theorem RVL.cons' {av : Addr → Prop} {d : D} {v : V} {ds : List D} {xs : List V} (h : RV K av μ H d v) (t : RVL K av μ H ds xs) : RVL K av μ H (d :: ds) (v :: xs) := by
  unfold RVL
  exact ⟨v, xs, rfl, h, t⟩
theorem RVL.set {av : Addr → Prop} {d : D} {v : V} (h : RV K av μ H d v) : ∀ {ds : List D} {xs : List V} (i : Nat), RVL K av μ H ds xs → RVL K av μ H (ds.set i d) (xs.set i v)
  | [], xs, _, t => by unfold RVL at t; subst t; exact RVL.nil'
  | e :: ds, xs, 0, t => by
    unfold RVL at t
    obtain ⟨y, ys, rfl, a, b⟩ := t
    exact RVL.cons' h b
  | e :: ds, xs, i + 1, t => by
    unfold RVL at t
    obtain ⟨y, ys, rfl, a, b⟩ := t
    exact RVL.cons' a (RVL.set h i b)
theorem RVL.take {av : Addr → Prop} : ∀ {ds : List D} {xs : List V} (n : Nat), RVL K av μ H ds xs → RVL K av μ H (ds.take n) (xs.take n)
  | _, _, 0, _ => by rw [List.take_zero, List.take_zero]; exact RVL.nil'
  | [], xs, n + 1, t => by unfold RVL at t; subst t; exact RVL.nil'
  | d :: ds, xs, n + 1, t => by
    unfold RVL at t
    obtain ⟨y, ys, rfl, a, b⟩ := t
    exact RVL.cons' a (RVL.take n b)
theorem RVL.drop {av : Addr → Prop} : ∀ {ds : List D} {xs : List V} (n : Nat), RVL K av μ H ds xs → RVL K av μ H (ds.drop n) (xs.drop n)
  | _, _, 0, t => t
  | [], xs, n + 1, t => by unfold RVL at t; subst t; exact RVL.nil'
  | d :: ds, xs, n + 1, t => by
    unfold RVL at t
    obtain ⟨y, ys, rfl, a, b⟩ := t
    exact RVL.drop n b
theorem RVL.rev {av : Addr → Prop} : ∀ {ds : List D} {xs : List V}, RVL K av μ H ds xs → RVL K av μ H ds.reverse xs.reverse
  | [], xs, t => by unfold RVL at t; subst t; exact RVL.nil'
  | d :: ds, xs, t => by
    unfold RVL at t
    obtain ⟨y, ys, rfl, a, b⟩ := t
    rw [List.reverse_cons, List.reverse_cons]
    exact RVL.app (RVL.rev b) (RVL.one a)

/-- a cell is written: all values stand as they stood -/
theorem RV.wr {a : Addr} {o : HO} (W : Wd K Z μ H S) (h : a ∈ μ) {d : D} {v : V} (r : RVz K Z μ H d v) : RVz K Z μ (upd H a o) d v :=
  RV.tr (fun b u e hn => by
    have ne : b ≠ a := by
      rintro rfl
      obtain ⟨u', e', m⟩ := W.mem h
      rw [e] at e'; cases e'
      exact hn m (.inr h)
    exact ⟨by rw [upd_ne ne]; exact e, hn⟩) (fun _ _ e => e) d v r
theorem RVL.wr {a : Addr} {o : HO} (W : Wd K Z μ H S) (h : a ∈ μ) {ds : List D} {xs : List V} (r : RVLz K Z μ H ds xs) : RVLz K Z μ (upd H a o) ds xs :=
  RVL.tr (fun b u e hn => by
    have ne : b ≠ a := by
      rintro rfl
      obtain ⟨u', e', m⟩ := W.mem h
      rw [e] at e'; cases e'
      exact hn m (.inr h)
    exact ⟨by rw [upd_ne ne]; exact e, hn⟩) (fun _ _ e => e) ds xs r
theorem RC.wr {a b : Addr} {o : HO} {c : Cell} (W : Wd K Z μ H S) (h : a ∈ μ) (ne : b ≠ a) (r : RC K Z μ H b c) : RC K Z μ (upd H a o) b c := by
  cases c with
  | lst ds => obtain ⟨xs, q, r⟩ := r; exact ⟨xs, by rw [upd_ne ne]; exact q, RVL.wr W h r⟩
  | dic t ks vs =>
    rcases r with ⟨t, kvs, q, e, r⟩ | ⟨t, kvs, q, e, r⟩
    · exact .inl ⟨t, kvs, by rw [upd_ne ne]; exact q, e, RVL.wr W h r⟩
    · exact .inr ⟨t, kvs, by rw [upd_ne ne]; exact q, e, RVL.wr W h r⟩
  | ins c fs vs => obtain ⟨C, dx, fvs, q, k, e, r⟩ := r; exact ⟨C, dx, fvs, by rw [upd_ne ne]; exact q, k, e, RVL.wr W h r⟩
theorem Wd.wr {n : Nat} {a : Addr} {o : HO} {c : Cell} (W : Wd K Z μ H S) (h : μ[n]? = some a) (r : RC K Z μ (upd H a o) a c) : Wd K Z μ (upd H a o) (S.set n c) := by
  have hm : a ∈ μ := List.mem_of_getElem? h
  refine ⟨by rw [List.length_set]; exact W.len, W.nd, fun m c' b h1 h2 => ?_, fun b u e => ?_, W.dis, fun b q z => ?_, W.disA, W.root⟩
  · by_cases e : m = n
    · subst e
      rw [h] at h2; cases h2
      obtain ⟨hl, _⟩ := List.getElem?_eq_some_iff.mp h
      rw [List.getElem?_set_self (by rw [W.len]; exact hl)] at h1
      cases h1
      exact r
    · rw [List.getElem?_set_ne (Ne.symm e)] at h1
      have ne : b ≠ a := by
        rintro rfl
        obtain ⟨l1, e1⟩ := List.getElem?_eq_some_iff.mp h
        obtain ⟨l2, e2⟩ := List.getElem?_eq_some_iff.mp h2
        exact e ((List.getElem_inj W.nd).mp (e2.trans e1.symm))
      exact RC.wr W hm ne (W.cell m c' b h1 h2)
  · have ne : b ≠ a := by
      rintro rfl
      rw [W.dis b hm] at e; cases e
    rw [upd_ne ne]
    exact W.base b u e
  · by_cases e : b = a
    · subst e; rw [upd_same] at z; cases z
    · rw [upd_ne e] at z; exact W.av b q z
/-- a new cell at a -/
theorem RV.alloc {a : Addr} (s : Same H H') (n : H a = none) {d : D} {v : V} (r : RVz K Z μ H d v) : RVz K Z (μ ++ [a]) H' d v := by
  refine RV.tr (fun b u e hn => ⟨s _ _ e, fun m q => ?_⟩) (fun n b e => ?_) d v r
  · rcases q with q | q
    · exact hn m (.inl q)
    · rcases List.mem_append.mp q with q | q
      · exact hn m (.inr q)
      · have : b = a := by simpa using q
        subst this
        rw [n] at e; cases e
  · rw [List.getElem?_append_left (List.getElem?_eq_some_iff.mp e).1]
    exact e
theorem RVL.alloc {a : Addr} (s : Same H H') (n : H a = none) {ds : List D} {xs : List V} (r : RVLz K Z μ H ds xs) : RVLz K Z (μ ++ [a]) H' ds xs := by
  refine RVL.tr (fun b u e hn => ⟨s _ _ e, fun m q => ?_⟩) (fun n b e => ?_) ds xs r
  · rcases q with q | q
    · exact hn m (.inl q)
    · rcases List.mem_append.mp q with q | q
      · exact hn m (.inr q)
      · have : b = a := by simpa using q
        subst this
        rw [n] at e; cases e
  · rw [List.getElem?_append_left (List.getElem?_eq_some_iff.mp e).1]
    exact e
theorem RC.alloc {a b : Addr} {c : Cell} (s : Same H H') (n : H a = none) (r : RC K Z μ H b c) : RC K Z (μ ++ [a]) H' b c := by
  cases c with
  | lst ds => obtain ⟨xs, q, r⟩ := r; exact ⟨xs, s _ _ q, RVL.alloc s n r⟩
  | dic t ks vs =>
    rcases r with ⟨t, kvs, q, e, r⟩ | ⟨t, kvs, q, e, r⟩
    · exact .inl ⟨t, kvs, s _ _ q, e, RVL.alloc s n r⟩
    · exact .inr ⟨t, kvs, s _ _ q, e, RVL.alloc s n r⟩
  | ins c fs vs => obtain ⟨C, dx, fvs, q, k, e, r⟩ := r; exact ⟨C, dx, fvs, s _ _ q, k, e, RVL.alloc s n r⟩
theorem Wd.alloc {a : Addr} {c : Cell} (W : Wd K Z μ H S) (s : Same H H') (n : H a = none) (r : RC K Z (μ ++ [a]) H' a c) : Wd K Z (μ ++ [a]) H' (S ++ [c]) := by
  refine ⟨by simp [W.len], ?_, fun m c' b h1 h2 => ?_, fun b o e => s _ _ (W.base b o e), fun b hb => ?_, fun b h q => W.av b h (s.free q), fun b hb => ?_, W.root.trans (List.prefix_append _ _)⟩
  · refine List.nodup_append.mpr ⟨W.nd, by simp, fun x hx y hy => ?_⟩
    have : y = a := by simpa using hy
    subst this
    rintro rfl
    exact W.fresh n (.inr hx)
  · by_cases hm : m < μ.length
    · rw [List.getElem?_append_left (by rw [W.len]; exact hm)] at h1
      rw [List.getElem?_append_left hm] at h2
      exact (W.cell m c' b h1 h2).alloc s n
    · rw [List.getElem?_append_right (by rw [W.len]; omega)] at h1
      rw [List.getElem?_append_right (by omega)] at h2
      rw [W.len] at h1
      cases q : m - μ.length with
      | zero =>
        rw [q] at h1 h2
        simp at h1 h2
        subst h1; subst h2
        exact r
      | succ k => rw [q] at h2; simp at h2
  · rcases List.mem_append.mp hb with hb | hb
    · exact W.dis b hb
    · have : b = a := by simpa using hb
      subst this
      exact W.newB n
  · rcases List.mem_append.mp hb with hb | hb
    · exact W.disA b hb
    · have : b = a := by simpa using hb
      subst this
      exact fun z => W.fresh n (.inl z)
theorem Rel.alloc {a : Addr} {c : Cell} (R : Rel K Z μ σ H ρ S) (s : Same H H') (n : H a = none) (r : RC K Z (μ ++ [a]) H' a c) : Rel K Z (μ ++ [a]) σ H' ρ (S ++ [c]) :=
  R.with (R.wd.alloc s n r) fun _ _ q => RV.alloc s n q
theorem Rel.wr {n : Nat} {a : Addr} {o : HO} {c : Cell} (R : Rel K Z μ σ H ρ S) (h : μ[n]? = some a) (r : RC K Z μ (upd H a o) a c) : Rel K Z μ σ (upd H a o) ρ (S.set n c) :=
  R.with (R.wd.wr h r) fun _ _ q => RV.wr R.wd (List.mem_of_getElem? h) q
theorem Rel.set {i : Nat} {d : D} {v : V} (R : Rel K Z μ σ H ρ S) (r : RVz K Z μ H d v) : Rel K Z μ (σ.set i (some v)) H (ρ.set i (some d)) S := by
  refine ⟨R.wd, by rw [List.length_set, List.length_set]; exact R.len, fun j e h => ?_⟩
  by_cases hj : i = j
  · subst hj
    by_cases hl : i < ρ.length
    · rw [List.getElem?_set_self hl] at h
      cases h
      exact ⟨v, List.getElem?_set_self (Nat.lt_of_lt_of_le hl R.len), r⟩
    · rw [List.getElem?_eq_none (by simpa using hl)] at h; cases h
  · rw [List.getElem?_set_ne hj] at h ⊢
    exact R.env j e h

/-! ### readings -/
abbrev avO (Z : Fr) (μ : List Addr) (a : Addr) : Addr → Prop := fun b => avd Z μ b ∨ b = a
def tD (K : PySem.W.Frag) (f : E) : TE := fun σ H Q => ∃ Z μ ρ S, Rel K Z μ σ H ρ S ∧ ∃ d, f ρ S = some d ∧ ∀ v H', Same H H' → RVz K Z μ H' d v → Q v H'
/-- a list that is new: nobody else has it -/
def tF (K : PySem.W.Frag) (f : EL) : TE := fun σ H Q => ∃ Z μ ρ S, Rel K Z μ σ H ρ S ∧ ∃ ds, f ρ S = some ds ∧
  ∀ a xs H', H a = none → Same H H' → H' a = some (.lst xs) → RVL K (avO Z μ a) μ H' ds xs → Q (.ref a) H'
def tT (K : PySem.W.Frag) (f : EB) : TT := fun σ H Q => ∃ Z μ ρ S, Rel K Z μ σ H ρ S ∧ ∃ b, f ρ S = some b ∧ ∀ H', Same H H' → Q b H'
def tA (K : PySem.W.Frag) (f : EL) : TA := fun σ H Q => ∃ Z μ ρ S, Rel K Z μ σ H ρ S ∧ ∃ ds, f ρ S = some ds ∧ ∀ vs H', Same H H' → RVLz K Z μ H' ds vs → Q vs H'

theorem RVL.weakO {a : Addr} {ds : List D} {xs : List V} (h : RVL K (avO Z μ a) μ H ds xs) : RVLz K Z μ H ds xs :=
  RVL.tr (fun b u e hn => ⟨e, fun m q => hn m (.inl q)⟩) (fun _ _ e => e) ds xs h
theorem RVL.newO {a : Addr} {ds : List D} {xs : List V} (s : Same H H') (n : H a = none) (h : RVLz K Z μ H ds xs) : RVL K (avO Z μ a) μ H' ds xs :=
  RVL.tr (fun b u e hn => ⟨s _ _ e, fun m q => by
    rcases q with q | q
    · exact hn m q
    · subst q; rw [n] at e; cases e⟩) (fun _ _ e => e) ds xs h
theorem RV.lst_of {a : Addr} {xs : List V} {ds : List D} (W : Wd K Z μ H S) (n : H a = none) (h1 : H' a = some (.lst xs)) (h : RVL K (avO Z μ a) μ H' ds xs) : RVz K Z μ H' (.lst ds) (.ref a) := by
  unfold RVz RV
  exact ⟨a, xs, rfl, h1, W.fresh n, h.weakO⟩

end
section
variable {X : Cx} {e : Expr} {st : Stmt}
theorem pe_imp {t t' : TE} (h : PE X e t) (i : ∀ σ H Q, t' σ H Q → t σ H Q) : PE X e t' := ⟨fun pins s σ H Q I q => h.run pins s σ H Q I (i σ H Q q)⟩
theorem pt_imp {t t' : TT} (h : PT X e t) (i : ∀ σ H Q, t' σ H Q → t σ H Q) : PT X e t' := ⟨fun pins s σ H Q I q => h.run pins s σ H Q I (i σ H Q q)⟩
theorem pw_imp {t t' : TT} (h : PW X e t) (i : ∀ σ H Q, t' σ H Q → t σ H Q) : PW X e t' := ⟨fun wh pins s σ H Q I q => h.run wh pins s σ H Q I (i σ H Q q)⟩
theorem pa_imp {es : List Expr} {t t' : TA} (h : PA X es t) (i : ∀ σ H Q, t' σ H Q → t σ H Q) : PA X es t' := ⟨fun p pins s σ H Q I q => h.run p pins s σ H Q I (i σ H Q q)⟩
theorem ps_imp {t t' : TS} (h : PS X st t) (i : ∀ D σ H, t' D σ H → t D σ H) : PS X st t' := ⟨fun pins s σ H D I q => h.run pins s σ H D I (i D σ H q)⟩
theorem pss_imp {sts : List Stmt} {t t' : TS} (h : PSs X sts t) (i : ∀ D σ H, t' D σ H → t D σ H) : PSs X sts t' := ⟨fun pins s σ H D I q => h.run pins s σ H D I (i D σ H q)⟩
theorem pg_imp {t t' : TG} (h : PG X e t) (i : ∀ v σ H Q, t' v σ H Q → t v σ H Q) : PG X e t' := ⟨fun pins s σ H v u Q I r q => h.run pins s σ H v u Q I r (i v σ H Q q)⟩
theorem pi_imp {tg : Expr} {t t' : TI} (h : PI X tg e t) (i : ∀ σ H R, t' σ H R → t σ H R) : PI X tg e t' := ⟨fun pins s σ H R I q => h.run pins s σ H R I (i σ H R q)⟩
/-- a new list is a list -/
theorem d_ofF {f : EL} (h : PE X e (tF X.K f)) : PE X e (tD X.K fun ρ S => (f ρ S).map .lst) := pe_imp h fun σ H Q ⟨Z, μ, ρ, S, R, d, e, q⟩ => by
  cases z : f ρ S with
  | none => simp only [z, Option.map_none] at e; cases e
  | some ds =>
    simp only [z, Option.map_some, Option.some.injEq] at e
    subst e
    exact ⟨Z, μ, ρ, S, R, ds, z, fun a xs H' n s h1 h2 => q _ _ s (RV.lst_of R.wd n h1 h2)⟩
end
end DL

set_option maxHeartbeats 4000000
namespace DL
open PySem PySem.Spec L2

/-! ### equality of data -/
mutual
def toP : D → PyData
  | .bl b => .bool b
  | .int i => .int i
  | .str s => .str s
  | .tup ds => .tuple (toPs ds)
  | .lst ds => .list (toPs ds)
  | .non => .none
  | _ => .dict []
def toPs : List D → List PyData
  | [] => []
  | d :: ds => toP d :: toPs ds
end
mutual
def okD : Nat → D → Bool
  | _, .non => true
  | _, .bl _ => true
  | _, .int _ => true
  | _, .str s => PyData.strOk s
  | n + 1, .tup ds => okDs n ds
  | n + 1, .lst ds => okDs n ds
  | _, _ => false
def okDs : Nat → List D → Bool
  | _, [] => true
  | n, d :: ds => okD n d && okDs n ds
end
mutual
def eqD : D → D → Bool
  | .non, .non => true
  | .bl a, .bl b => a == b
  | .bl a, .int j => (if a then 1 else 0) == j
  | .int i, .bl b => i == (if b then 1 else 0)
  | .int i, .int j => i == j
  | .str x, .str y => x == y
  | .lst xs, .lst ys => eqDs xs ys
  | .tup xs, .tup ys => eqDs xs ys
  | _, _ => false
def eqDs : List D → List D → Bool
  | [], [] => true
  | x :: xs, y :: ys => eqD x y && eqDs xs ys
  | _, _ => false
end
mutual
theorem okD_lay : ∀ (n : Nat) (d : D), okD n d = true → (toP d).canLay0 = true ∧ (toP d).depth ≤ n
  | _, .non, _ => by simp [toP, PyData.canLay0, PyData.depth]
  | _, .bl _, _ => by simp [toP, PyData.canLay0, PyData.depth]
  | _, .int _, _ => by simp [toP, PyData.canLay0, PyData.depth]
  | _, .str s, h => by
    simp [okD] at h
    simp [toP, PyData.canLay0, PyData.depth, h]
  | n + 1, .tup ds, h => by
    simp only [okD] at h
    have q := okDs_lay n ds h
    simp only [toP, PyData.canLay0, PyData.depth]
    exact ⟨q.1, by omega⟩
  | n + 1, .lst ds, h => by
    simp only [okD] at h
    have q := okDs_lay n ds h
    simp only [toP, PyData.canLay0, PyData.depth]
    exact ⟨q.1, by omega⟩
  | 0, .tup ds, h => by simp [okD] at h
  | 0, .lst ds, h => by simp [okD] at h
  | _, .dic _ _ _, h => by simp [okD] at h
  | _, .ins _ _ _, h => by simp [okD] at h
  | _, .scr _, h => by simp [okD] at h
  | _, .ref _, h => by simp [okD] at h
  | _, .ty _, h => by simp [okD] at h
theorem okDs_lay : ∀ (n : Nat) (ds : List D), okDs n ds = true → PyData.canLayAll0 (toPs ds) = true ∧ PyData.depthAll (toPs ds) ≤ n
  | _, [], _ => by simp [toPs, PyData.canLayAll0, PyData.depthAll]
  | n, d :: ds, h => by
    simp only [okDs, Bool.and_eq_true] at h
    have q1 := okD_lay n d h.1
    have q2 := okDs_lay n ds h.2
    simp only [toPs, PyData.canLayAll0, PyData.depthAll, Bool.and_eq_true]
    exact ⟨⟨q1.1, q2.1⟩, by omega⟩
end
theorem okD_shaped {n : Nat} {d : D} (h : okD n d = true) (hn : n ≤ 64) : SeqAt.shaped (toP d) = true := by
  obtain ⟨h1, h2⟩ := okD_lay n d h
  show ((toP d).canLay0 && decide ((toP d).depth ≤ 64)) = true
  rw [Bool.and_eq_true]
  exact ⟨h1, decide_eq_true (by omega)⟩
mutual
theorem eqv_eqD : ∀ (n m : Nat) (x y : D), okD n x = true → okD m y = true → PyData.eqv (toP x) (toP y) = eqD x y
  | n, m, .non, y, _, hy => by cases y <;> first | (simp [okD] at hy; done) | (simp only [toP, PyData.eqv, eqD]; done)
  | n, m, .bl _, y, _, hy => by cases y <;> first | (simp [okD] at hy; done) | (simp only [toP, PyData.eqv, eqD]; done)
  | n, m, .int _, y, _, hy => by cases y <;> first | (simp [okD] at hy; done) | (simp only [toP, PyData.eqv, eqD]; done)
  | n, m, .str _, y, _, hy => by cases y <;> first | (simp [okD] at hy; done) | (simp only [toP, PyData.eqv, eqD]; done)
  | n + 1, m, .tup xs, y, hx, hy => by
    cases y with
    | tup ys =>
      cases m with
      | zero => simp [okD] at hy
      | succ m =>
        simp only [okD] at hx hy
        simp only [toP, PyData.eqv, eqD]
        exact eqv_eqDs n m xs ys hx hy
    | _ => first | (simp [okD] at hy; done) | (simp only [toP, PyData.eqv, eqD]; done)
  | n + 1, m, .lst xs, y, hx, hy => by
    cases y with
    | lst ys =>
      cases m with
      | zero => simp [okD] at hy
      | succ m =>
        simp only [okD] at hx hy
        simp only [toP, PyData.eqv, eqD]
        exact eqv_eqDs n m xs ys hx hy
    | _ => first | (simp [okD] at hy; done) | (simp only [toP, PyData.eqv, eqD]; done)
  | 0, _, .tup ds, _, h, _ => by simp [okD] at h
  | 0, _, .lst ds, _, h, _ => by simp [okD] at h
  | _, _, .dic _ _ _, _, h, _ => by simp [okD] at h
  | _, _, .ins _ _ _, _, h, _ => by simp [okD] at h
  | _, _, .scr _, _, h, _ => by simp [okD] at h
  | _, _, .ref _, _, h, _ => by simp [okD] at h
  | _, _, .ty _, _, h, _ => by simp [okD] at h
theorem eqv_eqDs : ∀ (n m : Nat) (xs ys : List D), okDs n xs = true → okDs m ys = true → PyData.eqvAll (toPs xs) (toPs ys) = eqDs xs ys
  | _, _, [], [], _, _ => by simp only [toPs, PyData.eqvAll, eqDs]
  | _, _, [], _ :: _, _, _ => by simp only [toPs, PyData.eqvAll, eqDs]
  | _, _, _ :: _, [], _, _ => by simp only [toPs, PyData.eqvAll, eqDs]
  | n, m, x :: xs, y :: ys, hx, hy => by
    simp only [okDs, Bool.and_eq_true] at hx hy
    simp only [toPs, PyData.eqvAll, eqDs, eqv_eqD n m x y hx.1 hy.1, eqv_eqDs n m xs ys hx.2 hy.2]
end
section
variable {K : PySem.W.Frag} {av : Addr → Prop} {μ : List Addr} {H : Hp}
mutual
theorem dp_of : ∀ (n : Nat) (d : D) (v : V), okD n d = true → RV K av μ H d v → Dp K H v (toP d)
  | _, .non, v, _, h => by unfold RV at h; subst h; exact .non
  | _, .bl _, v, _, h => by unfold RV at h; subst h; exact .bl _
  | _, .int _, v, _, h => by unfold RV at h; subst h; exact .int _
  | _, .str _, v, _, h => by unfold RV at h; subst h; exact .str _
  | n + 1, .tup ds, v, o, h => by
    simp only [okD] at o
    unfold RV at h
    obtain ⟨a, xs, rfl, hs, hr⟩ := h
    simp only [toP]
    exact .tup (SqT.of hs) (dps_of n ds xs o hr)
  | n + 1, .lst ds, v, o, h => by
    simp only [okD] at o
    unfold RV at h
    obtain ⟨a, xs, rfl, hs, _, hr⟩ := h
    simp only [toP]
    exact .lst (SqL.of hs) (dps_of n ds xs o hr)
  | 0, .tup ds, _, h, _ => by simp [okD] at h
  | 0, .lst ds, _, h, _ => by simp [okD] at h
  | _, .dic _ _ _, _, h, _ => by simp [okD] at h
  | _, .ins _ _ _, _, h, _ => by simp [okD] at h
  | _, .scr _, _, h, _ => by simp [okD] at h
  | _, .ref _, _, h, _ => by simp [okD] at h
  | _, .ty _, _, h, _ => by simp [okD] at h
theorem dps_of : ∀ (n : Nat) (ds : List D) (vs : List V), okDs n ds = true → RVL K av μ H ds vs → DpAll K H vs (toPs ds)
  | _, [], vs, _, h => by unfold RVL at h; subst h; exact .nil
  | n, d :: ds, vs, o, h => by
    simp only [okDs, Bool.and_eq_true] at o
    unfold RVL at h
    obtain ⟨y, ys, rfl, h1, h2⟩ := h
    simp only [toPs]
    exact .cons (dp_of n d y o.1 h1) (dps_of n ds ys o.2 h2)
end
end

/-! ### what is in the store, read as data -/
mutual
/-- no place of the store in it -/
def nr : D → Bool
  | .tup ds => nrs ds
  | .lst ds => nrs ds
  | .dic _ _ vs => nrs vs
  | .ins _ _ vs => nrs vs
  | .ref _ => false
  | _ => true
def nrs : List D → Bool
  | [] => true
  | d :: ds => nr d && nrs ds
end
mutual
/-- neither places nor lists nor dicts in it -/
def imm : D → Bool
  | .tup ds => imms ds
  | .lst _ => false
  | .dic _ _ _ => false
  | .ins _ _ _ => false
  | .ref _ => false
  | _ => true
def imms : List D → Bool
  | [] => true
  | d :: ds => imm d && imms ds
end
mutual
def frzS (φ : Nat → Option D) : D → Option D
  | .tup ds => (frzSs φ ds).map .tup
  | .lst ds => (frzSs φ ds).map .lst
  | .dic t ks vs => (frzSs φ vs).map (.dic t ks)
  | .ins c fs vs => (frzSs φ vs).map (.ins c fs)
  | .ref n => φ n
  | d => some d
def frzSs (φ : Nat → Option D) : List D → Option (List D)
  | [] => some []
  | d :: ds => (frzS φ d).bind fun e => (frzSs φ ds).map (e :: ·)
end
def frz : Nat → Sto → D → Option D
  | 0, _, d => frzS (fun _ => none) d
  | k + 1, S, d => frzS (fun n => (S[n]?).bind fun c => match c with
      | .lst ds => (ds.mapM (frz k S)).map .lst
      | .dic t ks vs => (vs.mapM (frz k S)).map (.dic t ks)
      | .ins c fs vs => (vs.mapM (frz k S)).map (.ins c fs)) d
def fz (S : Sto) (d : D) : Option D := if nr d then some d else frz 6 S d
def fzs (S : Sto) : List D → Option (List D)
  | [] => some []
  | d :: ds => (fz S d).bind fun e => (fzs S ds).map (e :: ·)

section
variable {K : PySem.W.Frag} {av av' : Addr → Prop} {μ μ' : List Addr} {H : Hp}
mutual
theorem RV.nr : ∀ (d : D) (v : V), DL.nr d = true → RV K av μ H d v → RV K av μ' H d v
  | .non, _, _, h => by unfold RV at h ⊢; exact h
  | .bl _, _, _, h => by unfold RV at h ⊢; exact h
  | .int _, _, _, h => by unfold RV at h ⊢; exact h
  | .str _, _, _, h => by unfold RV at h ⊢; exact h
  | .ty _, _, _, h => by unfold RV at h ⊢; exact h
  | .scr _, _, _, h => by unfold RV at h ⊢; exact h
  | .ref _, _, o, _ => by simp [DL.nr] at o
  | .tup ds, v, o, h => by
    simp only [DL.nr] at o
    unfold RV at h ⊢
    obtain ⟨a, xs, e, hs, hr⟩ := h
    exact ⟨a, xs, e, hs, RVL.nr ds xs o hr⟩
  | .lst ds, v, o, h => by
    simp only [DL.nr] at o
    unfold RV at h ⊢
    obtain ⟨a, xs, e, hs, hn, hr⟩ := h
    exact ⟨a, xs, e, hs, hn, RVL.nr ds xs o hr⟩
  | .dic t ks vs, v, o, h => by
    simp only [DL.nr] at o
    unfold RV at h ⊢
    obtain ⟨a, e, hn, h⟩ := h
    rcases h with ⟨ht, kvs, hs, hk, hr⟩ | ⟨ht, kvs, hs, hk, hr⟩
    · exact ⟨a, e, hn, .inl ⟨ht, kvs, hs, hk, RVL.nr vs _ o hr⟩⟩
    · exact ⟨a, e, hn, .inr ⟨ht, kvs, hs, hk, RVL.nr vs _ o hr⟩⟩
  | .ins c fs vs, v, o, h => by
    simp only [DL.nr] at o
    unfold RV at h ⊢
    obtain ⟨a, C, dx, fvs, e, hn, hs, k, hf, hr⟩ := h
    exact ⟨a, C, dx, fvs, e, hn, hs, k, hf, RVL.nr vs _ o hr⟩
theorem RVL.nr : ∀ (ds : List D) (vs : List V), DL.nrs ds = true → RVL K av μ H ds vs → RVL K av μ' H ds vs
  | [], _, _, h => by unfold RVL at h ⊢; exact h
  | d :: ds, _, o, h => by
    simp only [DL.nrs, Bool.and_eq_true] at o
    unfold RVL at h ⊢
    obtain ⟨y, ys, e, h1, h2⟩ := h
    exact ⟨y, ys, e, RV.nr d y o.1 h1, RVL.nr ds ys o.2 h2⟩
end
mutual
theorem RV.imm : ∀ (d : D) (v : V), DL.imm d = true → RV K av μ H d v → RV K av' μ' H d v
  | .non, _, _, h => by unfold RV at h ⊢; exact h
  | .bl _, _, _, h => by unfold RV at h ⊢; exact h
  | .int _, _, _, h => by unfold RV at h ⊢; exact h
  | .str _, _, _, h => by unfold RV at h ⊢; exact h
  | .ty _, _, _, h => by unfold RV at h ⊢; exact h
  | .scr _, _, _, h => by unfold RV at h ⊢; exact h
  | .ref _, _, o, _ => by simp [DL.imm] at o
  | .tup ds, v, o, h => by
    simp only [DL.imm] at o
    unfold RV at h ⊢
    obtain ⟨a, xs, e, hs, hr⟩ := h
    exact ⟨a, xs, e, hs, RVL.imm ds xs o hr⟩
  | .lst ds, v, o, h => by simp [DL.imm] at o
  | .dic t ks vs, v, o, h => by simp [DL.imm] at o
  | .ins c fs vs, v, o, h => by simp [DL.imm] at o
theorem RVL.imm : ∀ (ds : List D) (vs : List V), DL.imms ds = true → RVL K av μ H ds vs → RVL K av' μ' H ds vs
  | [], _, _, h => by unfold RVL at h ⊢; exact h
  | d :: ds, _, o, h => by
    simp only [DL.imms, Bool.and_eq_true] at o
    unfold RVL at h ⊢
    obtain ⟨y, ys, e, h1, h2⟩ := h
    exact ⟨y, ys, e, RV.imm d y o.1 h1, RVL.imm ds ys o.2 h2⟩
end
mutual
theorem RV.frzS {φ : Nat → Option D} (hav : ∀ a, av' a → av a) (hφ : ∀ n d', φ n = some d' → ∀ a, μ[n]? = some a → RV K av' [] H d' (.ref a)) :
    ∀ (d : D) (v : V) (d' : D), DL.frzS φ d = some d' → RV K av μ H d v → RV K av' [] H d' v
  | .non, _, _, e, h => by simp only [DL.frzS, Option.some.injEq] at e; subst e; unfold RV at h ⊢; exact h
  | .bl _, _, _, e, h => by simp only [DL.frzS, Option.some.injEq] at e; subst e; unfold RV at h ⊢; exact h
  | .int _, _, _, e, h => by simp only [DL.frzS, Option.some.injEq] at e; subst e; unfold RV at h ⊢; exact h
  | .str _, _, _, e, h => by simp only [DL.frzS, Option.some.injEq] at e; subst e; unfold RV at h ⊢; exact h
  | .ty _, _, _, e, h => by simp only [DL.frzS, Option.some.injEq] at e; subst e; unfold RV at h ⊢; exact h
  | .scr _, _, _, e, h => by simp only [DL.frzS, Option.some.injEq] at e; subst e; unfold RV at h ⊢; exact h
  | .ref n, v, d', e, h => by
    simp only [DL.frzS] at e
    unfold RV at h
    obtain ⟨a, rfl, hn⟩ := h
    exact hφ n d' e a hn
  | .tup ds, v, d', e, h => by
    simp only [DL.frzS, Option.map_eq_some_iff] at e
    obtain ⟨es, e, rfl⟩ := e
    unfold RV at h ⊢
    obtain ⟨a, xs, e1, hs, hr⟩ := h
    exact ⟨a, xs, e1, hs, RVL.frzS hav hφ ds xs es e hr⟩
  | .lst ds, v, d', e, h => by
    simp only [DL.frzS, Option.map_eq_some_iff] at e
    obtain ⟨es, e, rfl⟩ := e
    unfold RV at h ⊢
    obtain ⟨a, xs, e1, hs, hn, hr⟩ := h
    exact ⟨a, xs, e1, hs, fun z => hn (hav a z), RVL.frzS hav hφ ds xs es e hr⟩
  | .dic t ks vs, v, d', e, h => by
    simp only [DL.frzS, Option.map_eq_some_iff] at e
    obtain ⟨es, e, rfl⟩ := e
    unfold RV at h ⊢
    obtain ⟨a, e1, hn, h⟩ := h
    rcases h with ⟨ht, kvs, hs, hk, hr⟩ | ⟨ht, kvs, hs, hk, hr⟩
    · exact ⟨a, e1, fun z => hn (hav a z), .inl ⟨ht, kvs, hs, hk, RVL.frzS hav hφ vs _ es e hr⟩⟩
    · exact ⟨a, e1, fun z => hn (hav a z), .inr ⟨ht, kvs, hs, hk, RVL.frzS hav hφ vs _ es e hr⟩⟩
  | .ins c fs vs, v, d', e, h => by
    simp only [DL.frzS, Option.map_eq_some_iff] at e
    obtain ⟨es, e, rfl⟩ := e
    unfold RV at h ⊢
    obtain ⟨a, C, dx, fvs, e1, hn, hs, k, hf, hr⟩ := h
    exact ⟨a, C, dx, fvs, e1, fun z => hn (hav a z), hs, k, hf, RVL.frzS hav hφ vs _ es e hr⟩
theorem RVL.frzS {φ : Nat → Option D} (hav : ∀ a, av' a → av a) (hφ : ∀ n d', φ n = some d' → ∀ a, μ[n]? = some a → RV K av' [] H d' (.ref a)) :
    ∀ (ds : List D) (vs : List V) (es : List D), DL.frzSs φ ds = some es → RVL K av μ H ds vs → RVL K av' [] H es vs
  | [], vs, es, e, h => by simp only [DL.frzSs, Option.some.injEq] at e; subst e; unfold RVL at h ⊢; exact h
  | d :: ds, vs, es, e, h => by
    simp only [DL.frzSs, Option.bind_eq_some_iff, Option.map_eq_some_iff] at e
    obtain ⟨d', e1, es', e2, rfl⟩ := e
    unfold RVL at h ⊢
    obtain ⟨y, ys, e3, h1, h2⟩ := h
    exact ⟨y, ys, e3, RV.frzS hav hφ d y d' e1 h1, RVL.frzS hav hφ ds ys es' e2 h2⟩
end
theorem RVL.mapM {g : D → Option D} (h : ∀ d v d', g d = some d' → RV K av μ H d v → RV K av' μ' H d' v) : ∀ {ds es : List D} {vs : List V}, ds.mapM g = some es → RVL K av μ H ds vs → RVL K av' μ' H es vs
  | [], es, vs, e, r => by
    simp at e; subst e
    unfold RVL at r ⊢; exact r
  | d :: ds, es, vs, e, r => by
    rw [List.mapM_cons] at e
    simp only [Option.bind_eq_bind, Option.bind_eq_some_iff, Option.pure_def, Option.some.injEq] at e
    obtain ⟨d', e1, es', e2, rfl⟩ := e
    unfold RVL at r ⊢
    obtain ⟨y, ys, e3, h1, h2⟩ := r
    exact ⟨y, ys, e3, h d y d' e1 h1, RVL.mapM h e2 h2⟩
end
section
variable {K : PySem.W.Frag} {Z : Fr} {μ : List Addr} {H : Hp} {S : Sto}
theorem RV.frz (W : Wd K Z μ H S) : ∀ (k : Nat) (d : D) (v : V) (d' : D), DL.frz k S d = some d' → RVz K Z μ H d v → RV K Z.A [] H d' v
  | 0, d, v, d', e, h => by
    unfold DL.frz at e
    exact RV.frzS (fun a z => .inl z) (fun n d' q => by cases q) d v d' e h
  | k + 1, d, v, d', e, h => by
    unfold DL.frz at e
    refine RV.frzS (fun a z => .inl z) (fun n d2 q a ha => ?_) d v d' e h
    rw [Option.bind_eq_some_iff] at q
    obtain ⟨c, hc, q⟩ := q
    have r := W.cell n c a hc ha
    have nA : ¬ Z.A a := W.disA a (List.mem_of_getElem? ha)
    cases c with
    | lst ds =>
      obtain ⟨xs, hx, r⟩ := r
      simp only [Option.map_eq_some_iff] at q
      obtain ⟨es, q, rfl⟩ := q
      unfold RV
      exact ⟨a, xs, rfl, hx, nA, RVL.mapM (fun d v d' e h => RV.frz W k d v d' e h) q r⟩
    | dic t ks vs =>
      simp only [Option.map_eq_some_iff] at q
      obtain ⟨es, q, rfl⟩ := q
      unfold RV
      rcases r with ⟨ht, kvs, hs, hk, hr⟩ | ⟨ht, kvs, hs, hk, hr⟩
      · exact ⟨a, rfl, nA, .inl ⟨ht, kvs, hs, hk, RVL.mapM (fun d v d' e h => RV.frz W k d v d' e h) q hr⟩⟩
      · exact ⟨a, rfl, nA, .inr ⟨ht, kvs, hs, hk, RVL.mapM (fun d v d' e h => RV.frz W k d v d' e h) q hr⟩⟩
    | ins c fs vs =>
      simp only [Option.map_eq_some_iff] at q
      obtain ⟨es, q, rfl⟩ := q
      unfold RV
      obtain ⟨C, dx, fvs, hx, kc, hf, r⟩ := r
      exact ⟨a, C, dx, fvs, rfl, nA, hx, kc, hf, RVL.mapM (fun d v d' e h => RV.frz W k d v d' e h) q r⟩
theorem RV.lessA {d : D} {v : V} (h : RVz K Z μ H d v) : RV K Z.A μ H d v := RV.tr (fun a o e hn => ⟨e, fun m z => hn m (.inl z)⟩) (fun _ _ e => e) d v h
theorem RV.fz (W : Wd K Z μ H S) {d : D} {v : V} {d' : D} (e : DL.fz S d = some d') (h : RVz K Z μ H d v) : RV K Z.A [] H d' v := by
  unfold DL.fz at e
  split at e
  · rename_i o
    cases e
    exact RV.nr d v o (RV.lessA h)
  · exact RV.frz W _ _ _ _ e h
theorem RVL.fzs (W : Wd K Z μ H S) : ∀ {ds : List D} {vs : List V} {es : List D}, DL.fzs S ds = some es → RVLz K Z μ H ds vs → RVL K Z.A [] H es vs
  | [], vs, es, e, h => by simp only [DL.fzs, Option.some.injEq] at e; subst e; unfold RVLz RVL at h; unfold RVL; exact h
  | d :: ds, vs, es, e, h => by
    simp only [DL.fzs, Option.bind_eq_some_iff, Option.map_eq_some_iff] at e
    obtain ⟨d', e1, es', e2, rfl⟩ := e
    unfold RVLz RVL at h
    unfold RVL
    obtain ⟨y, ys, e3, h1, h2⟩ := h
    exact ⟨y, ys, e3, RV.fz W e1 h1, RVL.fzs W e2 h2⟩
theorem fzs_nrs : ∀ {ds : List D}, nrs ds = true → fzs S ds = some ds
  | [], _ => rfl
  | d :: ds, h => by
    simp only [nrs, Bool.and_eq_true] at h
    simp [fzs, fz, h.1, fzs_nrs h.2]
end
end DL

set_option maxHeartbeats 4000000
namespace DL
open PySem PySem.Spec L2

/-! ### names, constants -/
def eV (i : Nat) : E := fun ρ _ => (ρ[i]?).bind id
def eC (d : D) : E := fun _ _ => some d
def e1 (g : Sto → D → Option D) (a : E) : E := fun ρ S => (a ρ S).bind fun x => g S x
def e2 (g : Sto → D → D → Option D) (a b : E) : E := fun ρ S => (a ρ S).bind fun x => (b ρ S).bind fun y => g S x y
def isC : D → Bool
  | .non => true | .bl _ => true | .int _ => true | .str _ => true | .ty _ => true
  | _ => false
def cV : D → V
  | .bl b => .bl b | .int i => .int i | .str s => .str s | .ty t => .ty t
  | _ => .non
theorem isC_rv {K : PySem.W.Frag} {av : Addr → Prop} {μ : List Addr} {H : Hp} {d : D} (h : isC d = true) : RV K av μ H d (cV d) := by
  cases d <;> first | (unfold RV; rfl) | (simp [isC] at h)

section
variable {X : Cx} {a b c e : Expr} {pos : Pos}
theorem d_var {i : Nat} {x : Str} (hN : X.N[i]? = some x := by rfl) (hv : Vis X.env.scope x := by first | exact Or.inl rfl | exact Or.inr (Or.inl rfl) | exact Or.inr (Or.inr rfl)) (hd : (x == ("__debug__" : Str)) = false := by decide)
    (hcd : (x == ("__classdict__" : Str)) = false := by decide) : PE X (.Name x pos) (tD X.K (eV i)) :=
  pe_imp (pe_var (i := i) hN hv hd hcd) fun σ H Q ⟨Z, μ, ρ, S, R, d, e, q⟩ => by
    unfold eV at e
    rw [Option.bind_eq_some_iff] at e
    obtain ⟨o, e1, e2⟩ := e
    have e2' : o = some d := e2
    subst e2'
    obtain ⟨v, h1, h2⟩ := R.env i d e1
    exact ⟨v, h1, q v H (Same.refl H) h2⟩
theorem d_const {d : D} (h : PE X e (tC (cV d))) (hd : isC d = true := by rfl) : PE X e (tD X.K (eC d)) :=
  pe_imp h fun σ H Q ⟨Z, μ, ρ, S, R, d', e, q⟩ => by
    have e' : d = d' := by simpa [eC] using e
    subst e'
    exact q _ H (Same.refl H) (isC_rv hd)
theorem d_int {i : Int} {j pos} : PE X (.Constant (.int i) j pos) (tD X.K (eC (.int i))) := d_const (d := .int i) pe_int
theorem d_bl {b : Bool} {j pos} : PE X (.Constant (.bool b) j pos) (tD X.K (eC (.bl b))) := d_const (d := .bl b) pe_bl
theorem d_non {j pos} : PE X (.Constant .none j pos) (tD X.K (eC .non)) := d_const (d := .non) pe_non
theorem d_str {x : Str} {j pos} : PE X (.Constant (.str x) j pos) (tD X.K (eC (.str x))) := d_const (d := .str x) pe_str
/-- a constant of the module -/
theorem d_glob {x : Str} {d : D} {u : Value} (hg : Gl X x) (hm : X.mg x = some u) (r : RelV (cV d) u) (hd : isC d = true := by rfl) (hdb : (x == ("__debug__" : Str)) = false := by decide) : PE X (.Name x pos) (tD X.K (eC d)) :=
  d_const (d := d) (pe_glob hg hm r hdb) hd
/-- a built-in class as a value -/
theorem d_ty {x : Str} {t : String} (hg : Gl X x) (hm : X.mg x = none) (hv : bootBuiltins x = some (.type t)) (hn : x ≠ "__name__" := by decide) (hdb : (x == ("__debug__" : Str)) = false := by decide) : PE X (.Name x pos) (tD X.K (eC (.ty t))) :=
  d_const (d := .ty t) (pe_bltn hg hm hv rfl hn hdb)

/-! ### operators -/
def OpD (K : PySem.W.Frag) (r : R2) (g : Sto → D → D → Option D) : Prop :=
  ∀ (Z : Fr) (μ : List Addr) (H : Hp) (S : Sto) (x y d : D) (v u : V) (Q : VK), Wd K Z μ H S → RVz K Z μ H x v → RVz K Z μ H y u → g S x y = some d →
    (∀ w H', Same H H' → RVz K Z μ H' d w → Q w H') → r v u H Q
def OpF (K : PySem.W.Frag) (r : R2) (g : Sto → D → D → Option (List D)) : Prop :=
  ∀ (Z : Fr) (μ : List Addr) (H : Hp) (S : Sto) (x y : D) (ds : List D) (v u : V) (Q : VK), Wd K Z μ H S → RVz K Z μ H x v → RVz K Z μ H y u → g S x y = some ds →
    (∀ a xs H', H a = none → Same H H' → H' a = some (.lst xs) → RVL K (avO Z μ a) μ H' ds xs → Q (.ref a) H') → r v u H Q
def UnD (K : PySem.W.Frag) (r : V → Hp → VK → Prop) (g : Sto → D → Option D) : Prop :=
  ∀ (Z : Fr) (μ : List Addr) (H : Hp) (S : Sto) (x d : D) (v : V) (Q : VK), Wd K Z μ H S → RVz K Z μ H x v → g S x = some d →
    (∀ w H', Same H H' → RVz K Z μ H' d w → Q w H') → r v H Q
theorem tOp_of {K : PySem.W.Frag} {r : R2} {g : Sto → D → D → Option D} {fa fb : E} (hd : OpD K r g) {σ : L2.St} {H : Hp} {Q : VK} (h : tD K (e2 g fa fb) σ H Q) : tOp r (tD K fa) (tD K fb) σ H Q := by
  obtain ⟨Z, μ, ρ, S, R, d, e, q⟩ := h
  simp only [e2, Option.bind_eq_some_iff] at e
  obtain ⟨x, ex, y, ey, eg⟩ := e
  refine ⟨Z, μ, ρ, S, R, x, ex, fun v H1 s1 r1 => ⟨Z, μ, ρ, S, R.mono s1, y, ey, fun u H2 s2 r2 => ?_⟩⟩
  exact hd Z μ H2 S x y d v u Q ((R.wd.mono s1).mono s2) (RV.mono s2 r1) r2 eg fun w H' s3 r3 => q w H' (s1.trans (s2.trans s3)) r3
theorem d_op {op : Operator} {r : R2} {g : Sto → D → D → Option D} {fa fb : E} (ho : OpR X (binaryOp op) r) (hd : OpD X.K r g) (ha : PE X a (tD X.K fa)) (hb : PE X b (tD X.K fb)) : PE X (.BinOp a op b pos) (tD X.K (e2 g fa fb)) :=
  pe_imp (pe_op ho ha hb) fun _ _ _ h => tOp_of hd h
def f2 (g : Sto → D → D → Option (List D)) (a b : E) : EL := fun ρ S => (a ρ S).bind fun x => (b ρ S).bind fun y => g S x y
theorem d_opF {op : Operator} {r : R2} {g : Sto → D → D → Option (List D)} {fa fb : E} (ho : OpR X (binaryOp op) r) (hd : OpF X.K r g) (ha : PE X a (tD X.K fa)) (hb : PE X b (tD X.K fb)) : PE X (.BinOp a op b pos) (tF X.K (f2 g fa fb)) :=
  pe_imp (pe_op ho ha hb) fun σ H Q h => by
    obtain ⟨Z, μ, ρ, S, R, ds, e, q⟩ := h
    simp only [f2, Option.bind_eq_some_iff] at e
    obtain ⟨x, ex, y, ey, eg⟩ := e
    refine ⟨Z, μ, ρ, S, R, x, ex, fun v H1 s1 r1 => ⟨Z, μ, ρ, S, R.mono s1, y, ey, fun u H2 s2 r2 => ?_⟩⟩
    exact hd Z μ H2 S x y ds v u Q ((R.wd.mono s1).mono s2) (RV.mono s2 r1) r2 eg fun p xs H' n s3 h1 h2 => q p xs H' ((s1.trans s2).free n) (s1.trans (s2.trans s3)) h1 h2
theorem d_cmp {op : CmpOp} {r : R2} {g : Sto → D → D → Option D} {fa fb : E} (ho : OpR X (compareOp op) r) (hd : OpD X.K r g) (ha : PE X a (tD X.K fa)) (hb : PE X b (tD X.K fb)) (hm : behindInMarks op b = false) : PE X (.Compare a [op] [b] pos) (tD X.K (e2 g fa fb)) :=
  pe_imp (pe_cmpR ho ha hb hm) fun _ _ _ h => tOp_of hd h
/-- a value that has to be a flag -/
def eB (f : E) : EB := fun ρ S => (f ρ S).bind fun d => match d with | .bl b => some b | _ => none
theorem dt_cmp {op : CmpOp} {r : R2} {g : Sto → D → D → Option D} {fa fb : E} (ho : OpR X (compareOp op) r) (hd : OpD X.K r g) (ha : PE X a (tD X.K fa)) (hb : PE X b (tD X.K fb)) (hm : behindInMarks op b = false) : PT X (.Compare a [op] [b] pos) (tT X.K (eB (e2 g fa fb))) :=
  pt_imp (pt_cmpR ho ha hb hm) fun σ H Q h => by
    obtain ⟨Z, μ, ρ, S, R, k, e, q⟩ := h
    simp only [eB, Option.bind_eq_some_iff] at e
    obtain ⟨d, e1, e2⟩ := e
    refine tOp_of hd ⟨Z, μ, ρ, S, R, d, e1, fun v H' s r => ?_⟩
    cases d <;> simp at e2
    subst e2
    unfold RVz RV at r
    exact ⟨_, r, q H' s⟩
theorem d_un {op : UnaryOp} {r : V → Hp → VK → Prop} {g : Sto → D → Option D} {fa : E} (ho : UnR X (unaryOp op) r) (hd : UnD X.K r g) (ha : PE X a (tD X.K fa)) : PE X (.UnaryOp op a pos) (tD X.K (e1 g fa)) :=
  pe_imp (pe_un ho ha) fun σ H Q h => by
    obtain ⟨Z, μ, ρ, S, R, d, e, q⟩ := h
    simp only [e1, Option.bind_eq_some_iff] at e
    obtain ⟨x, ex, eg⟩ := e
    exact ⟨Z, μ, ρ, S, R, x, ex, fun v H1 s1 r1 => hd Z μ H1 S x d v Q (R.wd.mono s1) r1 eg fun w H' s2 r2 => q w H' (s1.trans s2) r2⟩

theorem rv_int {K : PySem.W.Frag} {av : Addr → Prop} {μ : List Addr} {H : Hp} {i : Int} {v : V} : RV K av μ H (.int i) v ↔ v = .int i := by unfold RV; exact Iff.rfl
theorem rv_bl {K : PySem.W.Frag} {av : Addr → Prop} {μ : List Addr} {H : Hp} {i : Bool} {v : V} : RV K av μ H (.bl i) v ↔ v = .bl i := by unfold RV; exact Iff.rfl
theorem rv_non {K : PySem.W.Frag} {av : Addr → Prop} {μ : List Addr} {H : Hp} {v : V} : RV K av μ H .non v ↔ v = .non := by unfold RV; exact Iff.rfl
theorem rv_str {K : PySem.W.Frag} {av : Addr → Prop} {μ : List Addr} {H : Hp} {s : Str} {v : V} : RV K av μ H (.str s) v ↔ v = .str s := by unfold RV; exact Iff.rfl
theorem rv_ty {K : PySem.W.Frag} {av : Addr → Prop} {μ : List Addr} {H : Hp} {s : String} {v : V} : RV K av μ H (.ty s) v ↔ v = .ty s := by unfold RV; exact Iff.rfl
theorem rv_tup {K : PySem.W.Frag} {av : Addr → Prop} {μ : List Addr} {H : Hp} {ds : List D} {v : V} : RV K av μ H (.tup ds) v ↔ ∃ a xs, v = .ref a ∧ H a = some (.tup xs) ∧ RVL K av μ H ds xs := by
  constructor <;> intro h
  · unfold RV at h; exact h
  · unfold RV; exact h
theorem rv_lst {K : PySem.W.Frag} {av : Addr → Prop} {μ : List Addr} {H : Hp} {ds : List D} {v : V} : RV K av μ H (.lst ds) v ↔ ∃ a xs, v = .ref a ∧ H a = some (.lst xs) ∧ ¬ av a ∧ RVL K av μ H ds xs := by
  constructor <;> intro h
  · unfold RV at h; exact h
  · unfold RV; exact h
theorem rv_scr {K : PySem.W.Frag} {av : Addr → Prop} {μ : List Addr} {H : Hp} {ns : List Int} {v : V} : RV K av μ H (.scr ns) v ↔ ∃ a, v = .ref a ∧ ((∃ o, H a = some (.frz o (.lst (ns.map V.int)))) ∨ ∀ H' : Hp, SqL K H' a (ns.map V.int)) := by
  constructor <;> intro h
  · unfold RV at h; exact h
  · unfold RV; exact h
theorem rv_ref {K : PySem.W.Frag} {av : Addr → Prop} {μ : List Addr} {H : Hp} {n : Nat} {v : V} : RV K av μ H (.ref n) v ↔ ∃ a, v = .ref a ∧ μ[n]? = some a := by
  constructor <;> intro h
  · unfold RV at h; exact h
  · unfold RV; exact h
theorem rv_dic {K : PySem.W.Frag} {av : Addr → Prop} {μ : List Addr} {H : Hp} {t : Bool} {ks vs : List D} {v : V} : RV K av μ H (.dic t ks vs) v ↔ ∃ a, v = .ref a ∧ ¬ av a ∧ (
      (t = false ∧ ∃ kvs, H a = some (.dK kvs) ∧ ks = dicKs kvs ∧ RVL K av μ H vs (kvs.map (·.2))) ∨
      (t = true ∧ ∃ kvs, H a = some (.dT kvs) ∧ ks = dicKsT kvs ∧ RVL K av μ H vs (kvs.map (·.2)))) := by
  constructor <;> intro h
  · unfold RV at h; exact h
  · unfold RV; exact h
theorem rv_ins {K : PySem.W.Frag} {av : Addr → Prop} {μ : List Addr} {H : Hp} {c : Str} {fs : List Str} {vs : List D} {v : V} : RV K av μ H (.ins c fs vs) v ↔ ∃ a C dx fvs, v = .ref a ∧ ¬ av a ∧ H a = some (.ins C dx fvs) ∧ ClsAt K c C ∧ fvs.map (·.1) = fs ∧ RVL K av μ H vs (fvs.map (·.2)) := by
  constructor <;> intro h
  · unfold RV at h; exact h
  · unfold RV; exact h
theorem rvl_nil {K : PySem.W.Frag} {av : Addr → Prop} {μ : List Addr} {H : Hp} {vs : List V} : RVL K av μ H [] vs ↔ vs = [] := by
  unfold RVL; exact Iff.rfl
theorem rvl_cons {K : PySem.W.Frag} {av : Addr → Prop} {μ : List Addr} {H : Hp} {d : D} {ds : List D} {vs : List V} : RVL K av μ H (d :: ds) vs ↔ ∃ y ys, vs = y :: ys ∧ RV K av μ H d y ∧ RVL K av μ H ds ys := by
  constructor <;> intro h
  · unfold RVL at h; exact h
  · unfold RVL; exact h

/-- a sequence that is read -/
def seqD (S : Sto) : D → Option (List D)
  | .tup ds => some ds
  | .lst ds => some ds
  | .scr ns => some (ns.map .int)
  | .ref n => match S[n]? with
    | some (.lst ds) => some ds
    | _ => none
  | _ => none
theorem rvl_ints {K : PySem.W.Frag} {av : Addr → Prop} {μ : List Addr} {H : Hp} : ∀ (ns : List Int), RVL K av μ H (ns.map .int) (ns.map V.int)
  | [] => RVL.nil'
  | n :: ns => RVL.cons' (rv_int.mpr rfl) (rvl_ints ns)
theorem rvl_ints' {K : PySem.W.Frag} {av : Addr → Prop} {μ : List Addr} {H : Hp} : ∀ {ns : List Int} {xs : List V}, RVL K av μ H (ns.map .int) xs → xs = ns.map V.int
  | [], xs, h => by simpa [rvl_nil] using h
  | n :: ns, xs, h => by
    simp only [List.map_cons, rvl_cons] at h
    obtain ⟨y, ys, rfl, h1, h2⟩ := h
    rw [rv_int] at h1
    subst h1
    rw [rvl_ints' h2]; rfl
theorem seq_of {K : PySem.W.Frag} {Z : Fr} {μ : List Addr} {H : Hp} {S : Sto} {d : D} {ds : List D} {v : V} (W : Wd K Z μ H S) (r : RVz K Z μ H d v) (h : seqD S d = some ds) :
    ∃ a xs, v = .ref a ∧ (SqL K H a xs ∨ SqT K H a xs) ∧ RVLz K Z μ H ds xs := by
  cases d with
  | tup es =>
    simp only [seqD, Option.some.injEq] at h; subst h
    obtain ⟨a, xs, e, h1, h2⟩ := rv_tup.mp r
    exact ⟨a, xs, e, .inr (SqT.of h1), h2⟩
  | lst es =>
    simp only [seqD, Option.some.injEq] at h; subst h
    obtain ⟨a, xs, e, h1, _, h2⟩ := rv_lst.mp r
    exact ⟨a, xs, e, .inl (SqL.of h1), h2⟩
  | scr ns =>
    simp only [seqD, Option.some.injEq] at h; subst h
    obtain ⟨a, e, h1⟩ := rv_scr.mp r
    refine ⟨a, _, e, .inl ?_, rvl_ints ns⟩
    rcases h1 with ⟨o, h1⟩ | h1
    · exact .inl (.inr ⟨o, h1⟩)
    · exact h1 H
  | ref n =>
    simp only [seqD] at h
    split at h
    · rename_i es hc
      cases h
      obtain ⟨a, e, hn⟩ := rv_ref.mp r
      obtain ⟨xs, h1, h2⟩ := W.cell n _ a hc hn
      exact ⟨a, xs, e, .inl (SqL.of h1), h2⟩
    · cases h
  | _ => simp [seqD] at h
theorem seq_ofH {K : PySem.W.Frag} {Z : Fr} {μ : List Addr} {H : Hp} {S : Sto} {d : D} {ds : List D} {v : V} (W : Wd K Z μ H S) (r : RVz K Z μ H d v) (h : seqD S d = some ds) :
    ∃ a xs, v = .ref a ∧ (SqL K H a xs ∨ H a = some (.tup xs)) ∧ RVLz K Z μ H ds xs := by
  cases d with
  | tup es =>
    simp only [seqD, Option.some.injEq] at h; subst h
    obtain ⟨a, xs, e, h1, h2⟩ := rv_tup.mp r
    exact ⟨a, xs, e, .inr h1, h2⟩
  | lst es =>
    simp only [seqD, Option.some.injEq] at h; subst h
    obtain ⟨a, xs, e, h1, _, h2⟩ := rv_lst.mp r
    exact ⟨a, xs, e, .inl (SqL.of h1), h2⟩
  | scr ns =>
    simp only [seqD, Option.some.injEq] at h; subst h
    obtain ⟨a, e, h1⟩ := rv_scr.mp r
    refine ⟨a, _, e, .inl ?_, rvl_ints ns⟩
    rcases h1 with ⟨o, h1⟩ | h1
    · exact .inl (.inr ⟨o, h1⟩)
    · exact h1 H
  | ref n =>
    simp only [seqD] at h
    split at h
    · rename_i es hc
      cases h
      obtain ⟨a, e, hn⟩ := rv_ref.mp r
      obtain ⟨xs, h1, h2⟩ := W.cell n _ a hc hn
      exact ⟨a, xs, e, .inl (SqL.of h1), h2⟩
    · cases h
  | _ => simp [seqD] at h
/-- a list that is read -/
def lstD (S : Sto) : D → Option (List D)
  | .lst ds => some ds
  | .ref n => match S[n]? with
    | some (.lst ds) => some ds
    | _ => none
  | _ => none
theorem lst_of {K : PySem.W.Frag} {Z : Fr} {μ : List Addr} {H : Hp} {S : Sto} {d : D} {ds : List D} {v : V} (W : Wd K Z μ H S) (r : RVz K Z μ H d v) (h : lstD S d = some ds) :
    ∃ a xs, v = .ref a ∧ H a = some (.lst xs) ∧ RVLz K Z μ H ds xs := by
  cases d with
  | lst es =>
    simp only [lstD, Option.some.injEq] at h; subst h
    obtain ⟨a, xs, e, h1, _, h2⟩ := rv_lst.mp r
    exact ⟨a, xs, e, h1, h2⟩
  | ref n =>
    simp only [lstD] at h
    split at h
    · rename_i es hc
      cases h
      obtain ⟨a, e, hn⟩ := rv_ref.mp r
      obtain ⟨xs, h1, h2⟩ := W.cell n _ a hc hn
      exact ⟨a, xs, e, h1, h2⟩
    · cases h
  | _ => simp [lstD] at h

/-! ### the operators' tables -/
def small (n : Nat) : Bool := decide (n ≤ 1000000)
theorem small_le {n : Nat} (h : small n = true) : n ≤ sizeLine := Nat.le_trans (of_decide_eq_true h) (by decide)
def gAdd : Sto → D → D → Option D := fun _ x y => match x, y with
  | .int i, .int j => some (.int (i + j))
  | .tup a, .tup b => if small (a.length + b.length) then some (.tup (a ++ b)) else none
  | _, _ => none
theorem op_addD : OpR X (binaryOp .Add) (fun x y H Q => (rI0 fun i j => .int (i + j)) x y H Q ∨ rCatA X.K x y H Q) := op_add.or op_catA
theorem od_add {K : PySem.W.Frag} : OpD K (fun x y H Q => (rI0 fun i j => .int (i + j)) x y H Q ∨ rCatA K x y H Q) gAdd := by
  intro Z μ H S x y d v u Q W rx ry e q
  unfold gAdd at e
  split at e
  · rename_i i j
    cases e
    exact .inl ⟨i, j, rv_int.mp rx, rv_int.mp ry, q _ H (Same.refl H) (rv_int.mpr rfl)⟩
  · rename_i as bs
    split at e
    · rename_i hs
      cases e
      obtain ⟨a, xs, rfl, h1, h2⟩ := rv_tup.mp rx
      obtain ⟨b, ys, rfl, h3, h4⟩ := rv_tup.mp ry
      refine .inr ⟨a, b, xs, ys, rfl, rfl, SqT.of h1, SqT.of h3, ?_, ?_, ?_, ?_⟩
      · rw [RVL.length h2, RVL.length h4]; exact small_le hs
      · intro z; subst z
        have : as = [] := by
          have := RVL.length h2
          exact List.eq_nil_of_length_eq_zero this.symm
        subst this
        exact q _ H (Same.refl H) (rv_tup.mpr ⟨b, ys, rfl, h3, h4⟩)
      · intro _ z; subst z
        have : bs = [] := List.eq_nil_of_length_eq_zero (RVL.length h4).symm
        subst this
        exact q _ H (Same.refl H) (rv_tup.mpr ⟨a, xs, rfl, h1, by simpa using h2⟩)
      · intro _ _ p hp
        have s : Same H (upd H p (.tup (xs ++ ys))) := fun c o z => by rw [upd_ne (ne_of_none z hp)]; exact z
        exact q _ _ s (rv_tup.mpr ⟨p, _, rfl, upd_same, RVL.mono s (RVL.app h2 h4)⟩)
    · cases e
  · cases e
/-- list + list: a new one -/
def gCatF : Sto → D → D → Option (List D) := fun S x y => (lstD S x).bind fun a => (lstD S y).bind fun b => if small (a.length + b.length) then some (a ++ b) else none
theorem od_catF {K : PySem.W.Frag} : OpF K rCat gCatF := by
  intro Z μ H S x y ds v u Q W rx ry e q
  simp only [gCatF, Option.bind_eq_some_iff] at e
  obtain ⟨as, e1, bs, e2, e⟩ := e
  split at e
  · rename_i hs
    cases e
    obtain ⟨a, xs, rfl, h1, h2⟩ := lst_of W rx e1
    obtain ⟨b, ys, rfl, h3, h4⟩ := lst_of W ry e2
    refine ⟨a, b, xs, ys, rfl, rfl, h1, h3, ?_, fun p hp => ?_⟩
    · rw [RVL.length h2, RVL.length h4]; exact small_le hs
    · have s : Same H (upd H p (.lst (xs ++ ys))) := fun c o z => by rw [upd_ne (ne_of_none z hp)]; exact z
      exact q p _ _ hp s upd_same (RVL.newO s hp (RVL.app h2 h4))
  · cases e
def gI (C : Int → Int → Bool) (f : Int → Int → Int) : Sto → D → D → Option D := fun _ x y => match x, y with
  | .int i, .int j => if C i j then some (.int (f i j)) else none
  | _, _ => none
theorem od_I {K : PySem.W.Frag} {C : Int → Int → Prop} {c : Int → Int → Bool} {f : Int → Int → Int} (h : ∀ i j, c i j = true → C i j) : OpD K (rI C fun i j => .int (f i j)) (gI c f) := by
  intro Z μ H S x y d v u Q W rx ry e q
  unfold gI at e
  split at e
  · rename_i i j
    split at e
    · rename_i hc
      cases e
      exact ⟨i, j, rv_int.mp rx, rv_int.mp ry, h i j hc, q _ H (Same.refl H) (rv_int.mpr rfl)⟩
    · cases e
  · cases e
def gSub : Sto → D → D → Option D := fun _ x y => match x, y with
  | .int i, .int j => some (.int (i - j))
  | _, _ => none
theorem od_sub {K : PySem.W.Frag} : OpD K (rI0 fun i j => .int (i - j)) gSub := by
  intro Z μ H S x y d v u Q W rx ry e q
  unfold gSub at e
  split at e
  · rename_i i j
    cases e
    exact ⟨i, j, rv_int.mp rx, rv_int.mp ry, q _ H (Same.refl H) (rv_int.mpr rfl)⟩
  · cases e
def cMul (i j : Int) : Bool := Nat.blt i.natAbs 18446744073709551616 || Nat.blt j.natAbs 18446744073709551616
theorem cMul_ok {i j : Int} (h : cMul i j = true) : CMul i j := by
  unfold cMul at h
  rw [Bool.or_eq_true] at h
  rcases h with h | h
  · have h' : i.natAbs < 18446744073709551616 := Nat.le_of_ble_eq_true h
    exact .inl (by omega)
  · have h' : j.natAbs < 18446744073709551616 := Nat.le_of_ble_eq_true h
    exact .inr (by omega)
abbrev gMul := gI cMul fun i j => i * j
theorem od_mul {K : PySem.W.Frag} : OpD K (rI CMul fun i j => .int (i * j)) gMul := od_I fun _ _ h => cMul_ok h
abbrev gMod := gI (fun _ j => decide (0 < j)) fun i j => i % j
theorem od_mod {K : PySem.W.Frag} : OpD K (rI (fun _ j => 0 < j) fun i j => .int (i % j)) gMod := od_I fun _ _ h => of_decide_eq_true h
abbrev gDiv := gI (fun _ j => decide (0 < j) && decide (j < 1073741824)) fun i j => i / j
theorem od_div {K : PySem.W.Frag} : OpD K (rI CDiv fun i j => .int (i / j)) gDiv := od_I fun _ _ h => by
  simp only [Bool.and_eq_true, decide_eq_true_eq] at h
  exact h
def gCmp (p : Int → Int → Bool) : Sto → D → D → Option D := fun _ x y => match x, y with
  | .int i, .int j => some (.bl (p i j))
  | _, _ => none
theorem od_cmp {K : PySem.W.Frag} {p : Int → Int → Bool} : OpD K (rI0 fun i j => .bl (p i j)) (gCmp p) := by
  intro Z μ H S x y d v u Q W rx ry e q
  unfold gCmp at e
  split at e
  · rename_i i j
    cases e
    exact ⟨i, j, rv_int.mp rx, rv_int.mp ry, q _ H (Same.refl H) (rv_bl.mpr rfl)⟩
  · cases e
abbrev gLt := gCmp fun i j => decide (i < j)
abbrev gLe := gCmp fun i j => decide (i ≤ j)
abbrev gGt := gCmp fun i j => decide (j < i)
abbrev gGe := gCmp fun i j => decide (j ≤ i)
/-- == of data -/
def fo (S : Sto) (d : D) : Option D := if okD 60 d then some d else (fz S d).bind fun d' => if okD 60 d' then some d' else none
theorem fo_of {K : PySem.W.Frag} {Z : Fr} {μ : List Addr} {H : Hp} {S : Sto} {d d' : D} {v : V} (W : Wd K Z μ H S) (r : RVz K Z μ H d v) (h : fo S d = some d') : okD 60 d' = true ∧ Dp K H v (toP d') := by
  unfold fo at h
  split at h
  · rename_i o
    cases h
    exact ⟨o, dp_of _ _ _ o r⟩
  · rw [Option.bind_eq_some_iff] at h
    obtain ⟨e, e1, h⟩ := h
    split at h
    · rename_i o
      cases h
      exact ⟨o, dp_of _ _ _ o (RV.fz W e1 r)⟩
    · cases h
def gEq : Sto → D → D → Option D := fun S x y => (fo S x).bind fun x' => (fo S y).bind fun y' => some (.bl (eqD x' y'))
def gNe : Sto → D → D → Option D := fun S x y => (fo S x).bind fun x' => (fo S y).bind fun y' => some (.bl (!eqD x' y'))
theorem od_eq {K : PySem.W.Frag} : OpD K (rEqD K) gEq := by
  intro Z μ H S x y d v u Q W rx ry e q
  simp only [gEq, Option.bind_eq_some_iff, Option.some.injEq] at e
  obtain ⟨x', e1, y', e2, rfl⟩ := e
  obtain ⟨o1, d1⟩ := fo_of W rx e1
  obtain ⟨o2, d2⟩ := fo_of W ry e2
  refine ⟨_, _, d1, d2, okD_shaped o1 (by decide), okD_shaped o2 (by decide), ?_⟩
  rw [eqv_eqD _ _ _ _ o1 o2]
  exact q _ H (Same.refl H) (rv_bl.mpr rfl)
theorem od_ne {K : PySem.W.Frag} : OpD K (rNeD K) gNe := by
  intro Z μ H S x y d v u Q W rx ry e q
  simp only [gNe, Option.bind_eq_some_iff, Option.some.injEq] at e
  obtain ⟨x', e1, y', e2, rfl⟩ := e
  obtain ⟨o1, d1⟩ := fo_of W rx e1
  obtain ⟨o2, d2⟩ := fo_of W ry e2
  refine ⟨_, _, d1, d2, okD_shaped o1 (by decide), okD_shaped o2 (by decide), ?_⟩
  rw [eqv_eqD _ _ _ _ o1 o2]
  exact q _ H (Same.refl H) (rv_bl.mpr rfl)
/-- x in xs: a list, a tuple -/
def rInQ (K : PySem.W.Frag) (neg : Bool) : R2 := fun x y H Q => ∃ d ds, Dp K H x d ∧ (Dp K H y (.list ds) ∨ Dp K H y (.tuple ds)) ∧ SeqAt.shaped d = true ∧ SeqAt.shaped (.list ds) = true ∧ Q (.bl (if neg then !(ds.any fun z => PyData.eqv z d) else ds.any fun z => PyData.eqv z d)) H
theorem op_inQ (hu : X.A.units + 65 < cLine) : OpR X (compareOp .In) (rInQ X.K false) := by
  intro pins s σ H x y v u Q I rx ry h
  obtain ⟨d, ds, hd, he, sd, se, q⟩ := h
  obtain ⟨as, r1⟩ := Dp.reads I d x v hd rx
  have hl : PyData.canLayAll0 ds = true := SeqAt.canLay_of_shaped se
  rcases he with he | he
  · obtain ⟨bs, r2⟩ := Dp.reads I (.list ds) y u he ry
    exact SeqAt.in_list_reads r2 r1 hl (SeqAt.canLay_of_shaped sd) (PyProof.Rows.room_in_shaped sd hu) ⟨.bl _, H, I, rfl, q⟩
  · obtain ⟨bs, r2⟩ := Dp.reads I (.tuple ds) y u he ry
    exact SeqAt.in_tuple_reads r2 r1 hl (SeqAt.canLay_of_shaped sd) (PyProof.Rows.room_in_shaped sd hu) ⟨.bl _, H, I, rfl, q⟩
theorem op_ninQ (hu : X.A.units + 65 < cLine) : OpR X (compareOp .NotIn) (rInQ X.K true) := by
  intro pins s σ H x y v u Q I rx ry h
  obtain ⟨d, ds, hd, he, sd, se, q⟩ := h
  obtain ⟨as, r1⟩ := Dp.reads I d x v hd rx
  have hl : PyData.canLayAll0 ds = true := SeqAt.canLay_of_shaped se
  rcases he with he | he
  · obtain ⟨bs, r2⟩ := Dp.reads I (.list ds) y u he ry
    exact SeqAt.notIn_list_reads r2 r1 hl (SeqAt.canLay_of_shaped sd) (PyProof.Rows.room_in_shaped sd hu) ⟨.bl _, H, I, rfl, q⟩
  · obtain ⟨bs, r2⟩ := Dp.reads I (.tuple ds) y u he ry
    exact SeqAt.notIn_tuple_reads r2 r1 hl (SeqAt.canLay_of_shaped sd) (PyProof.Rows.room_in_shaped sd hu) ⟨.bl _, H, I, rfl, q⟩
def inD (x : D) (ys : List D) : Bool := ys.any fun y => eqD y x
def gInS (neg : Bool) : Sto → D → D → Option D := fun S x y => (fo S x).bind fun x' => (fo S y).bind fun y' => match y' with
  | .lst ds => some (.bl (if neg then !inD x' ds else inD x' ds))
  | .tup ds => some (.bl (if neg then !inD x' ds else inD x' ds))
  | _ => none
theorem any_eqv {n m : Nat} {x : D} (hx : okD m x = true) : ∀ {ds : List D}, okDs n ds = true → ((toPs ds).any fun z => PyData.eqv z (toP x)) = inD x ds
  | [], _ => by simp [toPs, inD]
  | d :: ds, h => by
    simp only [okDs, Bool.and_eq_true] at h
    simp only [toPs, List.any_cons, inD, eqv_eqD n m d x h.1 hx]
    have q := any_eqv hx h.2
    unfold inD at q
    rw [q]
theorem od_in {K : PySem.W.Frag} {neg : Bool} : OpD K (rInQ K neg) (gInS neg) := by
  intro Z μ H S x y d v u Q W rx ry e q
  simp only [gInS, Option.bind_eq_some_iff] at e
  obtain ⟨x', e1, y', e2, e⟩ := e
  obtain ⟨o1, d1⟩ := fo_of W rx e1
  obtain ⟨o2, d2⟩ := fo_of W ry e2
  cases y' with
  | lst ds =>
    simp only [Option.some.injEq] at e
    subst e
    simp only [toP] at d2
    have o3 : okDs 59 ds = true := by simpa only [okD] using o2
    refine ⟨_, _, d1, .inl d2, okD_shaped o1 (by decide), by simpa only [toP] using okD_shaped o2 (by decide), ?_⟩
    rw [any_eqv o1 o3]
    exact q _ H (Same.refl H) (rv_bl.mpr rfl)
  | tup ds =>
    simp only [Option.some.injEq] at e
    subst e
    simp only [toP] at d2
    have o3 : okDs 59 ds = true := by simpa only [okD] using o2
    refine ⟨_, _, d1, .inr d2, okD_shaped o1 (by decide), ?_, ?_⟩
    · have := okD_shaped (n := 60) (d := .lst ds) (by simpa only [okD] using o3) (by decide)
      simpa only [toP] using this
    · rw [any_eqv o1 o3]
      exact q _ H (Same.refl H) (rv_bl.mpr rfl)
  | _ => simp at e
def gIsN (neg : Bool) : Sto → D → D → Option D := fun _ x y => match y with
  | .non => some (.bl (match x with | .non => !neg | _ => neg))
  | _ => none
theorem rv_isnon {K : PySem.W.Frag} {av : Addr → Prop} {μ : List Addr} {H : Hp} {x : D} {v : V} (r : RV K av μ H x v) : decide (v = .non) = (match x with | .non => true | _ => false) := by
  cases x with
  | non => rw [rv_non] at r; subst r; rfl
  | bl _ => rw [rv_bl] at r; subst r; rfl
  | int _ => rw [rv_int] at r; subst r; rfl
  | str _ => rw [rv_str] at r; subst r; rfl
  | ty _ => rw [rv_ty] at r; subst r; rfl
  | tup _ => obtain ⟨a, xs, rfl, _⟩ := rv_tup.mp r; rfl
  | lst _ => obtain ⟨a, xs, rfl, _⟩ := rv_lst.mp r; rfl
  | dic _ _ _ => obtain ⟨a, rfl, _⟩ := rv_dic.mp r; rfl
  | ins _ _ _ => obtain ⟨a, C, dx, fvs, rfl, _⟩ := rv_ins.mp r; rfl
  | scr _ => obtain ⟨a, rfl, _⟩ := rv_scr.mp r; rfl
  | ref _ => obtain ⟨a, rfl, _⟩ := rv_ref.mp r; rfl
theorem od_isN {K : PySem.W.Frag} : OpD K (fun x y H Q => y = .non ∧ Q (.bl (decide (x = .non))) H) (gIsN false) := by
  intro Z μ H S x y d v u Q W rx ry e q
  unfold gIsN at e
  split at e
  · cases e
    refine ⟨rv_non.mp ry, ?_⟩
    rw [rv_isnon rx]
    refine q _ H (Same.refl H) ?_
    cases x <;> exact rv_bl.mpr rfl
  · cases e
theorem od_notN {K : PySem.W.Frag} : OpD K (fun x y H Q => y = .non ∧ Q (.bl (!decide (x = .non))) H) (gIsN true) := by
  intro Z μ H S x y d v u Q W rx ry e q
  unfold gIsN at e
  split at e
  · cases e
    refine ⟨rv_non.mp ry, ?_⟩
    rw [rv_isnon rx]
    refine q _ H (Same.refl H) ?_
    cases x <;> exact rv_bl.mpr rfl
  · cases e
def gNeg : Sto → D → Option D := fun _ x => match x with | .int i => some (.int (-i)) | _ => none
theorem ud_neg {K : PySem.W.Frag} : UnD K (rU fun i => .int (-i)) gNeg := by
  intro Z μ H S x d v Q W rx e q
  unfold gNeg at e
  split at e
  · rename_i i
    cases e
    exact ⟨i, rv_int.mp rx, q _ H (Same.refl H) (rv_int.mpr rfl)⟩
  · cases e
end
end DL

set_option maxHeartbeats 4000000
namespace DL
open PySem PySem.Spec L2

section
variable {X : Cx} {a b c e : Expr} {es rest : List Expr} {pos : Pos} {fa fb fc : E}

/-! ### a < b < c -/
def e3c (g g' : Sto → D → D → Option D) (a b c : E) : E := fun ρ S => (a ρ S).bind fun x => (b ρ S).bind fun y => (g S x y).bind fun z => match z with
  | .bl true => (c ρ S).bind fun w => g' S y w
  | .bl false => some (.bl false)
  | _ => none
theorem tChain_of {K : PySem.W.Frag} {r r' : R2} {g g' : Sto → D → D → Option D} (hd : OpD K r g) (hd' : OpD K r' g') {σ : L2.St} {H : Hp} {Q : VK} (h : tD K (e3c g g' fa fb fc) σ H Q) : tChain r r' (tD K fa) (tD K fb) (tD K fc) σ H Q := by
  obtain ⟨Z, μ, ρ, S, R, d, e, q⟩ := h
  simp only [e3c, Option.bind_eq_some_iff] at e
  obtain ⟨x, ex, y, ey, z, ez, e⟩ := e
  refine ⟨Z, μ, ρ, S, R, x, ex, fun v H1 s1 r1 => ⟨Z, μ, ρ, S, R.mono s1, y, ey, fun u H2 s2 r2 => ?_⟩⟩
  have W2 := (R.wd.mono s1).mono s2
  refine hd Z μ H2 S x y z v u _ W2 (RV.mono s2 r1) r2 ez fun w H3 s3 r3 => ?_
  cases z with
  | bl k =>
    refine ⟨k, rv_bl.mp r3, ?_⟩
    cases k with
    | true =>
      simp only [Option.bind_eq_some_iff] at e
      obtain ⟨t, et, e⟩ := e
      rw [if_pos rfl]
      refine ⟨Z, μ, ρ, S, ((R.mono s1).mono s2).mono s3, t, et, fun w' H4 s4 r4 => ?_⟩
      exact hd' Z μ H4 S y t d u w' Q ((W2.mono s3).mono s4) (RV.mono s4 (RV.mono s3 r2)) r4 e fun w2 H5 s5 r5 => q w2 H5 (s1.trans (s2.trans (s3.trans (s4.trans s5)))) r5
    | false =>
      simp only [Option.some.injEq] at e
      subst e
      rw [if_neg Bool.false_ne_true]
      exact q _ H3 (s1.trans (s2.trans s3)) (rv_bl.mpr rfl)
  | _ => simp at e
theorem d_chain {op op' : CmpOp} {r r' : R2} {g g' : Sto → D → D → Option D} (ho : OpR X (compareOp op) r) (ho' : OpR X (compareOp op') r') (hd : OpD X.K r g) (hd' : OpD X.K r' g') (ha : PE X a (tD X.K fa)) (hb : PE X b (tD X.K fb)) (hc : PE X c (tD X.K fc))
    (hm : lastMarks [op, op'] [b, c] = false := by with_unfolding_all rfl) : PE X (.Compare a [op, op'] [b, c] pos) (tD X.K (e3c g g' fa fb fc)) :=
  pe_imp (pe_chain ho ho' ha hb hc hm) fun _ _ _ h => tChain_of hd hd' h
theorem tB_of {K : PySem.W.Frag} {f : E} {t : TE} (i : ∀ σ H Q, tD K f σ H Q → t σ H Q) {σ : L2.St} {H : Hp} {Q : Bool → Hp → Prop} (h : tT K (eB f) σ H Q) : tTest t σ H Q := by
  obtain ⟨Z, μ, ρ, S, R, k, e, q⟩ := h
  simp only [eB, Option.bind_eq_some_iff] at e
  obtain ⟨d, e1, e2⟩ := e
  refine i _ _ _ ⟨Z, μ, ρ, S, R, d, e1, fun v H' s r => ?_⟩
  cases d <;> simp at e2
  subst e2
  exact ⟨_, rv_bl.mp r, q H' s⟩
theorem dt_chain {op op' : CmpOp} {r r' : R2} {g g' : Sto → D → D → Option D} (ho : OpR X (compareOp op) r) (ho' : OpR X (compareOp op') r') (hd : OpD X.K r g) (hd' : OpD X.K r' g') (ha : PE X a (tD X.K fa)) (hb : PE X b (tD X.K fb)) (hc : PE X c (tD X.K fc))
    (hm : lastMarks [op, op'] [b, c] = false := by with_unfolding_all rfl) : PT X (.Compare a [op, op'] [b, c] pos) (tT X.K (eB (e3c g g' fa fb fc))) :=
  pt_imp (pt_chain ho ho' ha hb hc hm) fun _ _ _ h => tB_of (fun _ _ _ h => tChain_of hd hd' h) h

/-! ### truth -/
def truD (S : Sto) : D → Option Bool
  | .non => some false
  | .bl b => some b
  | .int i => some (i != 0)
  | .str s => if s.length ≤ sizeLine then some ((s.length : Int) != 0) else none
  | .dic false ks _ => some (!ks.isEmpty)
  | d => (seqD S d).map fun ds => !ds.isEmpty
def eTru (f : E) : EB := fun ρ S => (f ρ S).bind fun d => truD S d
theorem rvl_empty {K : PySem.W.Frag} {av : Addr → Prop} {μ : List Addr} {H : Hp} {ds : List D} {xs : List V} (h : RVL K av μ H ds xs) : xs.isEmpty = ds.isEmpty := by
  cases ds with
  | nil => rw [rvl_nil.mp h]; rfl
  | cons d ds => obtain ⟨y, ys, rfl, _⟩ := rvl_cons.mp h; rfl
theorem tru_of {K : PySem.W.Frag} {Z : Fr} {μ : List Addr} {H : Hp} {S : Sto} {d : D} {v : V} {k : Bool} (W : Wd K Z μ H S) (r : RVz K Z μ H d v) (h : truD S d = some k) : TruV K v H k := by
  have sq : ∀ {ds : List D}, seqD S d = some ds → k = !ds.isEmpty → TruV K v H k := by
    intro ds h1 h2
    obtain ⟨a, xs, rfl, hs, hr⟩ := seq_of W r h1
    rcases hs with hs | hs
    · exact .inl ⟨xs, hs, by rw [rvl_empty hr]; exact h2⟩
    · exact .inr (.inl ⟨xs, hs, by rw [rvl_empty hr]; exact h2⟩)
  cases d with
  | non => rw [rv_non.mp r]; simp only [truD, Option.some.injEq] at h; exact h.symm
  | bl _ => rw [rv_bl.mp r]; simp only [truD, Option.some.injEq] at h; exact h.symm
  | int _ => rw [rv_int.mp r]; simp only [truD, Option.some.injEq] at h; exact h.symm
  | str s =>
    rw [rv_str.mp r]
    simp only [truD] at h
    split at h
    · rename_i hs
      simp only [Option.some.injEq] at h
      exact ⟨hs, h.symm⟩
    · cases h
  | ty _ => simp [truD, seqD] at h
  | ins _ _ _ => simp [truD, seqD] at h
  | tup ds => simp only [truD, seqD, Option.map_some, Option.some.injEq] at h; exact sq rfl h.symm
  | lst ds => simp only [truD, seqD, Option.map_some, Option.some.injEq] at h; exact sq rfl h.symm
  | scr ns => simp only [truD, seqD, Option.map_some, Option.some.injEq] at h; exact sq rfl h.symm
  | ref n =>
    simp only [truD, Option.map_eq_some_iff] at h
    obtain ⟨ds, h1, h2⟩ := h
    exact sq h1 h2.symm
  | dic t ks vs =>
    cases t with
    | true => simp [truD, seqD] at h
    | false =>
      simp only [truD, Option.some.injEq] at h
      obtain ⟨a, rfl, _, hh⟩ := rv_dic.mp r
      rcases hh with ⟨_, kvs, h1, h2, _⟩ | ⟨z, _⟩
      · refine .inr (.inr ⟨kvs, h1, ?_⟩)
        rw [← h, h2]
        cases kvs <;> rfl
      · cases z
theorem dt_truth (ha : PE X a (tD X.K fa)) (he : ∀ whole, isTrue a X.env whole = (do let v ← whole; standAt a.pos; holding [v] (truthy v)) := by intro _; rfl) : PT X a (tT X.K (eTru fa)) :=
  pt_imp (pt_truth ha he) fun σ H Q ⟨Z, μ, ρ, S, R, k, e, q⟩ => by
    simp only [eTru, Option.bind_eq_some_iff] at e
    obtain ⟨d, e1, e2⟩ := e
    exact ⟨Z, μ, ρ, S, R, d, e1, fun v H' s r => ⟨k, tru_of (R.wd.mono s) r e2, q H' s⟩⟩
def bAnd (t u : EB) : EB := fun ρ S => (t ρ S).bind fun c => if c then u ρ S else some false
def bOr (t u : EB) : EB := fun ρ S => (t ρ S).bind fun c => if c then some true else u ρ S
def bNot (t : EB) : EB := fun ρ S => (t ρ S).map fun c => !c
variable {ta tb : EB}
theorem dw_one {op : BoolOp} (h : PT X a (tT X.K ta)) : PW X (.BoolOp op [a] pos) (tT X.K ta) := by
  cases op
  · exact pw_and1 h
  · exact pw_or1 h
theorem dw_and (ha : PT X a (tT X.K ta)) (hb : PW X (.BoolOp .And (b :: rest) pos) (tT X.K tb)) : PW X (.BoolOp .And (a :: b :: rest) pos) (tT X.K (bAnd ta tb)) :=
  pw_imp (pw_and ha hb) fun σ H Q ⟨Z, μ, ρ, S, R, k, e, q⟩ => by
    simp only [bAnd, Option.bind_eq_some_iff] at e
    obtain ⟨c, e1, e2⟩ := e
    refine ⟨Z, μ, ρ, S, R, c, e1, fun H' s => ?_⟩
    cases c with
    | true =>
      rw [if_pos rfl] at e2 ⊢
      exact ⟨Z, μ, ρ, S, R.mono s, k, e2, fun H2 s2 => q H2 (s.trans s2)⟩
    | false =>
      rw [if_neg Bool.false_ne_true] at e2 ⊢
      cases e2
      exact q H' s
theorem dw_or (ha : PT X a (tT X.K ta)) (hb : PW X (.BoolOp .Or (b :: rest) pos) (tT X.K tb)) : PW X (.BoolOp .Or (a :: b :: rest) pos) (tT X.K (bOr ta tb)) :=
  pw_imp (pw_or ha hb) fun σ H Q ⟨Z, μ, ρ, S, R, k, e, q⟩ => by
    simp only [bOr, Option.bind_eq_some_iff] at e
    obtain ⟨c, e1, e2⟩ := e
    refine ⟨Z, μ, ρ, S, R, c, e1, fun H' s => ?_⟩
    cases c with
    | true =>
      rw [if_pos rfl] at e2 ⊢
      cases e2
      exact q H' s
    | false =>
      rw [if_neg Bool.false_ne_true] at e2 ⊢
      exact ⟨Z, μ, ρ, S, R.mono s, k, e2, fun H2 s2 => q H2 (s.trans s2)⟩
theorem dt_bool (h : PW X a (tT X.K ta)) : PT X a (tT X.K ta) := h.pt
theorem dt_not (ha : PT X a (tT X.K ta)) : PT X (.UnaryOp .Not a pos) (tT X.K (bNot ta)) :=
  pt_imp (pt_not ha) fun σ H Q ⟨Z, μ, ρ, S, R, k, e, q⟩ => by
    simp only [bNot, Option.map_eq_some_iff] at e
    obtain ⟨c, e1, rfl⟩ := e
    exact ⟨Z, μ, ρ, S, R, c, e1, fun H' s => q H' s⟩
/-- and, or, not as values: all but the last flags -/
def eAnd (f g : E) : E := fun ρ S => (f ρ S).bind fun d => match d with | .bl true => g ρ S | .bl false => some (.bl false) | _ => none
def eOr (f g : E) : E := fun ρ S => (f ρ S).bind fun d => match d with | .bl true => some (.bl true) | .bl false => g ρ S | _ => none
def eNot (f : E) : E := fun ρ S => (f ρ S).bind fun d => match d with | .bl b => some (.bl (!b)) | _ => none
theorem d_one {op : BoolOp} (h : PE X a (tD X.K fa)) : PE X (.BoolOp op [a] pos) (tD X.K fa) := pe_one h
theorem d_and (ha : PE X a (tD X.K fa)) (hb : PE X (.BoolOp .And (b :: rest) pos) (tD X.K fb)) : PE X (.BoolOp .And (a :: b :: rest) pos) (tD X.K (eAnd fa fb)) :=
  pe_imp (pe_and ha hb) fun σ H Q ⟨Z, μ, ρ, S, R, d, e, q⟩ => by
    simp only [eAnd, Option.bind_eq_some_iff] at e
    obtain ⟨c, e1, e2⟩ := e
    refine ⟨Z, μ, ρ, S, R, c, e1, fun v H' s r => ?_⟩
    cases c with
    | bl k =>
      refine ⟨k, rv_bl.mp r, ?_⟩
      cases k with
      | true => rw [if_pos rfl]; exact ⟨Z, μ, ρ, S, R.mono s, d, e2, fun w H2 s2 r2 => q w H2 (s.trans s2) r2⟩
      | false =>
        rw [if_neg Bool.false_ne_true]
        simp only [Option.some.injEq] at e2
        subst e2
        exact q _ H' s (rv_bl.mpr rfl)
    | _ => simp at e2
theorem d_or (ha : PE X a (tD X.K fa)) (hb : PE X (.BoolOp .Or (b :: rest) pos) (tD X.K fb)) : PE X (.BoolOp .Or (a :: b :: rest) pos) (tD X.K (eOr fa fb)) :=
  pe_imp (pe_or ha hb) fun σ H Q ⟨Z, μ, ρ, S, R, d, e, q⟩ => by
    simp only [eOr, Option.bind_eq_some_iff] at e
    obtain ⟨c, e1, e2⟩ := e
    refine ⟨Z, μ, ρ, S, R, c, e1, fun v H' s r => ?_⟩
    cases c with
    | bl k =>
      refine ⟨k, rv_bl.mp r, ?_⟩
      cases k with
      | true =>
        rw [if_pos rfl]
        simp only [Option.some.injEq] at e2
        subst e2
        exact q _ H' s (rv_bl.mpr rfl)
      | false => rw [if_neg Bool.false_ne_true]; exact ⟨Z, μ, ρ, S, R.mono s, d, e2, fun w H2 s2 r2 => q w H2 (s.trans s2) r2⟩
    | _ => simp at e2
theorem d_not (ha : PE X a (tD X.K fa)) : PE X (.UnaryOp .Not a pos) (tD X.K (eNot fa)) :=
  pe_imp (pe_not ha) fun σ H Q ⟨Z, μ, ρ, S, R, d, e, q⟩ => by
    simp only [eNot, Option.bind_eq_some_iff] at e
    obtain ⟨c, e1, e2⟩ := e
    refine ⟨Z, μ, ρ, S, R, c, e1, fun v H' s r => ?_⟩
    cases c with
    | bl k =>
      simp only [Option.some.injEq] at e2
      subst e2
      exact ⟨k, rv_bl.mp r, q _ H' s (rv_bl.mpr rfl)⟩
    | _ => simp at e2
def eIf (t : EB) (f g : E) : E := fun ρ S => (t ρ S).bind fun c => if c then f ρ S else g ρ S
def fIf (t : EB) (f g : EL) : EL := fun ρ S => (t ρ S).bind fun c => if c then f ρ S else g ρ S
theorem d_if {t : EB} (hc : PT X c (tT X.K t)) (ha : PE X a (tD X.K fa)) (hb : PE X b (tD X.K fb)) : PE X (.IfExp c a b pos) (tD X.K (eIf t fa fb)) :=
  pe_imp (pe_ifExp hc ha hb) fun σ H Q ⟨Z, μ, ρ, S, R, d, e, q⟩ => by
    simp only [eIf, Option.bind_eq_some_iff] at e
    obtain ⟨k, e1, e2⟩ := e
    refine ⟨Z, μ, ρ, S, R, k, e1, fun H' s => ?_⟩
    cases k with
    | true => rw [if_pos rfl] at e2 ⊢; exact ⟨Z, μ, ρ, S, R.mono s, d, e2, fun w H2 s2 r2 => q w H2 (s.trans s2) r2⟩
    | false => rw [if_neg Bool.false_ne_true] at e2 ⊢; exact ⟨Z, μ, ρ, S, R.mono s, d, e2, fun w H2 s2 r2 => q w H2 (s.trans s2) r2⟩
theorem tF_step {K : PySem.W.Frag} {f : EL} {Z : Fr} {μ : List Addr} {ρ : Rho} {S : Sto} {σ : L2.St} {H H1 : Hp} {Q : VK} {ds : List D} (R : Rel K Z μ σ H ρ S) (s : Same H H1) (e : f ρ S = some ds)
    (q : ∀ a xs H', H a = none → Same H H' → H' a = some (.lst xs) → RVL K (avO Z μ a) μ H' ds xs → Q (.ref a) H') : tF K f σ H1 Q :=
  ⟨Z, μ, ρ, S, R.mono s, ds, e, fun a xs H' n s2 h1 h2 => q a xs H' (s.free n) (s.trans s2) h1 h2⟩
theorem d_ifF {t : EB} {fa fb : EL} (hc : PT X c (tT X.K t)) (ha : PE X a (tF X.K fa)) (hb : PE X b (tF X.K fb)) : PE X (.IfExp c a b pos) (tF X.K (fIf t fa fb)) :=
  pe_imp (pe_ifExp hc ha hb) fun σ H Q ⟨Z, μ, ρ, S, R, d, e, q⟩ => by
    simp only [fIf, Option.bind_eq_some_iff] at e
    obtain ⟨k, e1, e2⟩ := e
    refine ⟨Z, μ, ρ, S, R, k, e1, fun H' s => ?_⟩
    cases k with
    | true => rw [if_pos rfl] at e2 ⊢; exact tF_step R s e2 q
    | false => rw [if_neg Bool.false_ne_true] at e2 ⊢; exact tF_step R s e2 q

/-! ### rows of expressions, displays -/
def aNil : EL := fun _ _ => some []
def aCons (f : E) (fs : EL) : EL := fun ρ S => (f ρ S).bind fun d => (fs ρ S).map fun ds => d :: ds
theorem da_nil : PA X [] (tA X.K aNil) := pa_imp pa_nil fun σ H Q ⟨Z, μ, ρ, S, R, ds, e, q⟩ => by
  simp only [aNil, Option.some.injEq] at e
  subst e
  exact q [] H (Same.refl H) RVL.nil'
theorem da_cons {fs : EL} (ha : PE X a (tD X.K fa)) (hr : PA X es (tA X.K fs)) (hs : starEach (a :: es) X.env = (false, eval a X.env) :: starEach es X.env := by rfl) : PA X (a :: es) (tA X.K (aCons fa fs)) :=
  pa_imp (pa_cons ha hr hs) fun σ H Q ⟨Z, μ, ρ, S, R, ds, e, q⟩ => by
    simp only [aCons, Option.bind_eq_some_iff, Option.map_eq_some_iff] at e
    obtain ⟨d, e1, ds', e2, rfl⟩ := e
    refine ⟨Z, μ, ρ, S, R, d, e1, fun v H1 s1 r1 => ⟨Z, μ, ρ, S, R.mono s1, ds', e2, fun vs H2 s2 r2 => ?_⟩⟩
    exact q _ H2 (s1.trans s2) (RVL.cons' (RV.mono s2 r1) r2)
def eTup (fs : EL) : E := fun ρ S => (fs ρ S).bind fun ds => if small ds.length then some (.tup ds) else none
def fLst (fs : EL) : EL := fun ρ S => (fs ρ S).bind fun ds => if small ds.length then some ds else none
theorem d_tup {fs : EL} {k : Nat} (h : PA X es (tA X.K fs)) : PE X (.Tuple es k pos) (tD X.K (eTup fs)) :=
  pe_imp (pe_tup h) fun σ H Q ⟨Z, μ, ρ, S, R, d, e, q⟩ => by
    simp only [eTup, Option.bind_eq_some_iff] at e
    obtain ⟨ds, e1, e2⟩ := e
    split at e2
    · rename_i hs
      cases e2
      refine ⟨Z, μ, ρ, S, R, ds, e1, fun vs H1 s1 r1 => ⟨by rw [RVL.length r1]; exact small_le hs, fun p hp => ?_⟩⟩
      have s : Same H1 (upd H1 p (.tup vs)) := fun c o z => by rw [upd_ne (ne_of_none z hp)]; exact z
      exact q _ _ (s1.trans s) (rv_tup.mpr ⟨p, vs, rfl, upd_same, RVL.mono s r1⟩)
    · cases e2
theorem d_lst {fs : EL} (h : PA X es (tA X.K fs)) : PE X (.List es pos) (tF X.K (fLst fs)) :=
  pe_imp (pe_lst h) fun σ H Q ⟨Z, μ, ρ, S, R, d, e, q⟩ => by
    simp only [fLst, Option.bind_eq_some_iff] at e
    obtain ⟨ds, e1, e2⟩ := e
    split at e2
    · rename_i hs
      simp only [Option.some.injEq] at e2
      subst e2
      refine ⟨Z, μ, ρ, S, R, ds, e1, fun vs H1 s1 r1 => ⟨by rw [RVL.length r1]; exact small_le hs, fun p hp => ?_⟩⟩
      have s : Same H1 (upd H1 p (.lst vs)) := fun c o z => by rw [upd_ne (ne_of_none z hp)]; exact z
      exact q p _ _ (s1.free hp) (s1.trans s) upd_same (RVL.newO s hp r1)
    · cases e2

/-! ### places, slices -/
def ixD (ds : List D) (i : Int) : Option D := atI ds i
def gIx : Sto → D → D → Option D := fun S x y => (seqD S x).bind fun ds => match y with
  | .int i => ixD ds i
  | _ => none
theorem rvl_at {K : PySem.W.Frag} {av : Addr → Prop} {μ : List Addr} {H : Hp} {ds : List D} {xs : List V} {i : Int} {d : D} (h : RVL K av μ H ds xs) (e : atI ds i = some d) : ∃ v, atI xs i = some v ∧ RV K av μ H d v := by
  unfold atI at e ⊢
  rw [RVL.length h]
  rw [Option.bind_eq_some_iff] at e
  obtain ⟨j, e1, e2⟩ := e
  obtain ⟨v, h1, h2⟩ := RVL.get h e2
  exact ⟨v, by rw [e1]; exact h1, h2⟩
theorem od_ix {K : PySem.W.Frag} : OpD K (rIx K) gIx := by
  intro Z μ H S x y d v u Q W rx ry e q
  simp only [gIx, Option.bind_eq_some_iff] at e
  obtain ⟨ds, e1, e2⟩ := e
  obtain ⟨a, xs, rfl, hs, hr⟩ := seq_of W rx e1
  cases y with
  | int i =>
    obtain ⟨w, h1, h2⟩ := rvl_at hr e2
    rw [rv_int.mp ry]
    rcases hs with hs | hs
    · exact .inl ⟨a, xs, i, w, rfl, rfl, hs, h1, q w H (Same.refl H) h2⟩
    · exact .inr (.inl ⟨a, xs, i, w, rfl, rfl, hs, h1, q w H (Same.refl H) h2⟩)
  | _ => simp at e2
theorem d_ix (ha : PE X a (tD X.K fa)) (hb : PE X b (tD X.K fb)) (hs : PlainIx b := by intro _ _; rfl) : PE X (.Subscript a b pos) (tD X.K (e2 gIx fa fb)) :=
  pe_imp (pe_ix ix_seq ha hb hs) fun _ _ _ h => tOp_of od_ix h
abbrev EO := Rho → Sto → Option (Option Int)
def tP (K : PySem.W.Frag) (f : EO) : TO := fun σ H Q => ∃ Z μ ρ S, Rel K Z μ σ H ρ S ∧ ∃ o, f ρ S = some o ∧ ∀ H', Same H H' → Q o H'
def oNone : EO := fun _ _ => some none
def oSome (f : E) : EO := fun ρ S => (f ρ S).bind fun d => match d with | .int i => some (some i) | _ => none
theorem PO.imp {e : Option Expr} {t t' : TO} (h : PO X e t) (i : ∀ σ H Q, t' σ H Q → t σ H Q) : PO X e t' := ⟨fun pins s σ H Q I q => h.run pins s σ H Q I (i σ H Q q)⟩
theorem do_none : PO X none (tP X.K oNone) := PO.imp po_none fun σ H Q ⟨Z, μ, ρ, S, R, o, e, q⟩ => by
  simp only [oNone, Option.some.injEq] at e
  subst e
  exact q H (Same.refl H)
theorem do_some (h : PE X a (tD X.K fa)) : PO X (some a) (tP X.K (oSome fa)) := PO.imp (po_some h) fun σ H Q ⟨Z, μ, ρ, S, R, o, e, q⟩ => by
  simp only [oSome, Option.bind_eq_some_iff] at e
  obtain ⟨d, e1, e2⟩ := e
  refine ⟨Z, μ, ρ, S, R, d, e1, fun v H' s r => ?_⟩
  cases d with
  | int i =>
    simp only [Option.some.injEq] at e2
    subst e2
    exact ⟨i, rv_int.mp r, q H' s⟩
  | _ => simp at e2
def cutD (ds : List D) (lo hi : Option Int) : List D := (ds.drop (HT.sIx ds.length 0 lo)).take (HT.sIx ds.length ds.length hi - HT.sIx ds.length 0 lo)
theorem rvl_cut {K : PySem.W.Frag} {av : Addr → Prop} {μ : List Addr} {H : Hp} {ds : List D} {xs : List V} (lo hi : Option Int) (h : RVL K av μ H ds xs) : RVL K av μ H (cutD ds lo hi) (cutV xs lo hi) := by
  unfold cutD cutV
  rw [RVL.length h]
  exact RVL.take _ (RVL.drop _ h)
def eCut (f : E) (lo hi : EO) : E := fun ρ S => (f ρ S).bind fun d => (lo ρ S).bind fun l => (hi ρ S).bind fun h => match d with
  | .tup ds => some (.tup (cutD ds l h))
  | _ => none
def fCut (f : E) (lo hi : EO) : EL := fun ρ S => (f ρ S).bind fun d => (lo ρ S).bind fun l => (hi ρ S).bind fun h => (lstD S d).map fun ds => cutD ds l h
theorem d_cut {lo hi : Option Expr} {fl fh : EO} {p2 : Pos} (ha : PE X a (tD X.K fa)) (hl : PO X lo (tP X.K fl)) (hh : PO X hi (tP X.K fh)) : PE X (.Subscript a (.Slice lo hi none p2) pos) (tD X.K (eCut fa fl fh)) :=
  pe_imp (pe_slice sl_tupA ha hl hh) fun σ H Q ⟨Z, μ, ρ, S, R, d, e, q⟩ => by
    simp only [eCut, Option.bind_eq_some_iff] at e
    obtain ⟨x, e1, l, e2, h, e3, e4⟩ := e
    refine ⟨Z, μ, ρ, S, R, x, e1, fun v H1 s1 r1 => ⟨Z, μ, ρ, S, R.mono s1, l, e2, fun H2 s2 => ⟨Z, μ, ρ, S, (R.mono s1).mono s2, h, e3, fun H3 s3 => ?_⟩⟩⟩
    cases x with
    | tup ds =>
      simp only [Option.some.injEq] at e4
      subst e4
      obtain ⟨p, xs, rfl, hs, hr⟩ := rv_tup.mp (RV.mono (s2.trans s3) r1)
      refine ⟨p, xs, rfl, SqT.of hs, fun hw => ?_, fun hw t ht => ?_⟩
      · refine q _ H3 (s1.trans (s2.trans s3)) (rv_tup.mpr ⟨p, xs, rfl, hs, ?_⟩)
        have hc : cutD ds l h = ds := by
          unfold cutD
          rw [← RVL.length hr, hw.1, hw.2]
          simp [RVL.length hr]
        rw [hc]; exact hr
      · have s : Same H3 (upd H3 t (.tup (cutV xs l h))) := fun c o z => by rw [upd_ne (ne_of_none z ht)]; exact z
        exact q _ _ ((s1.trans (s2.trans s3)).trans s) (rv_tup.mpr ⟨t, _, rfl, upd_same, RVL.mono s (rvl_cut l h hr)⟩)
    | _ => simp at e4
theorem d_cutF {lo hi : Option Expr} {fl fh : EO} {p2 : Pos} (ha : PE X a (tD X.K fa)) (hl : PO X lo (tP X.K fl)) (hh : PO X hi (tP X.K fh)) : PE X (.Subscript a (.Slice lo hi none p2) pos) (tF X.K (fCut fa fl fh)) :=
  pe_imp (pe_slice sl_list ha hl hh) fun σ H Q ⟨Z, μ, ρ, S, R, ds, e, q⟩ => by
    simp only [fCut, Option.bind_eq_some_iff, Option.map_eq_some_iff] at e
    obtain ⟨x, e1, l, e2, h, e3, es, e4, e5⟩ := e
    subst e5
    refine ⟨Z, μ, ρ, S, R, x, e1, fun v H1 s1 r1 => ⟨Z, μ, ρ, S, R.mono s1, l, e2, fun H2 s2 => ⟨Z, μ, ρ, S, (R.mono s1).mono s2, h, e3, fun H3 s3 => ?_⟩⟩⟩
    obtain ⟨p, xs, rfl, hs, hr⟩ := lst_of (((R.wd.mono s1).mono s2).mono s3) (RV.mono (s2.trans s3) r1) e4
    refine ⟨p, xs, rfl, SqL.of hs, fun t ht => ?_⟩
    have s : Same H3 (upd H3 t (.lst (cutV xs l h))) := fun c o z => by rw [upd_ne (ne_of_none z ht)]; exact z
    exact q t _ _ ((s1.trans (s2.trans s3)).free ht) ((s1.trans (s2.trans s3)).trans s) upd_same (RVL.newO s ht (rvl_cut l h hr))

/-! ### calls of what is built in -/
def CallD (K : PySem.W.Frag) (r : List V → Hp → VK → Prop) (g : Sto → List D → Option D) : Prop :=
  ∀ (Z : Fr) (μ : List Addr) (H : Hp) (S : Sto) (ds : List D) (d : D) (vs : List V) (Q : VK), Wd K Z μ H S → RVLz K Z μ H ds vs → g S ds = some d →
    (∀ w H', Same H H' → RVz K Z μ H' d w → Q w H') → r vs H Q
def CallF (K : PySem.W.Frag) (r : List V → Hp → VK → Prop) (g : Sto → List D → Option (List D)) : Prop :=
  ∀ (Z : Fr) (μ : List Addr) (H : Hp) (S : Sto) (ds es : List D) (vs : List V) (Q : VK), Wd K Z μ H S → RVLz K Z μ H ds vs → g S ds = some es →
    (∀ a xs H', H a = none → Same H H' → H' a = some (.lst xs) → RVL K (avO Z μ a) μ H' es xs → Q (.ref a) H') → r vs H Q
def eCall (g : Sto → List D → Option D) (fs : EL) : E := fun ρ S => (fs ρ S).bind fun ds => g S ds
def fCall (g : Sto → List D → Option (List D)) (fs : EL) : EL := fun ρ S => (fs ρ S).bind fun ds => g S ds
theorem tCB_of {K : PySem.W.Frag} {r : List V → Hp → VK → Prop} {g : Sto → List D → Option D} {fs : EL} (hd : CallD K r g) {σ : L2.St} {H : Hp} {Q : VK} (h : tD K (eCall g fs) σ H Q) : tCB r (tA K fs) σ H Q := by
  obtain ⟨Z, μ, ρ, S, R, d, e, q⟩ := h
  simp only [eCall, Option.bind_eq_some_iff] at e
  obtain ⟨ds, e1, e2⟩ := e
  exact ⟨Z, μ, ρ, S, R, ds, e1, fun vs H1 s1 r1 => hd Z μ H1 S ds d vs Q (R.wd.mono s1) r1 e2 fun w H' s2 r2 => q w H' (s1.trans s2) r2⟩
theorem tCB_ofF {K : PySem.W.Frag} {r : List V → Hp → VK → Prop} {g : Sto → List D → Option (List D)} {fs : EL} (hd : CallF K r g) {σ : L2.St} {H : Hp} {Q : VK} (h : tF K (fCall g fs) σ H Q) : tCB r (tA K fs) σ H Q := by
  obtain ⟨Z, μ, ρ, S, R, d, e, q⟩ := h
  simp only [fCall, Option.bind_eq_some_iff] at e
  obtain ⟨ds, e1, e2⟩ := e
  exact ⟨Z, μ, ρ, S, R, ds, e1, fun vs H1 s1 r1 => hd Z μ H1 S ds d vs Q (R.wd.mono s1) r1 e2 fun a xs H' n s2 h1 h2 => q a xs H' (s1.free n) (s1.trans s2) h1 h2⟩
theorem d_callB {id : String} {x : Str} {p : Pos} {r : List V → Hp → VK → Prop} {g : Sto → List D → Option D} {fs : EL} (hc : CallR X (.builtin id) r) (hd : CallD X.K r g) (hg : Gl X x) (hm : X.mg x = none) (hv : bootBuiltins x = some (.builtin id)) (ha : PA X (e :: es) (tA X.K fs)) (hn : x ≠ "__name__" := by decide) (hdb : (x == ("__debug__" : Str)) = false := by decide)
    (he : starEach (e :: es) X.env = (false, eval e X.env) :: starEach es X.env := by rfl) (hpl : (backTo pos (starEach es X.env)).any (·.1) = false := by rfl) : PE X (.Call (.Name x p) (e :: es) [] pos) (tD X.K (eCall g fs)) :=
  pe_imp (pe_callB hc hg hm hv ha hn hdb he hpl) fun _ _ _ h => tCB_of hd h
theorem d_callBF {id : String} {x : Str} {p : Pos} {r : List V → Hp → VK → Prop} {g : Sto → List D → Option (List D)} {fs : EL} (hc : CallR X (.builtin id) r) (hd : CallF X.K r g) (hg : Gl X x) (hm : X.mg x = none) (hv : bootBuiltins x = some (.builtin id)) (ha : PA X (e :: es) (tA X.K fs)) (hn : x ≠ "__name__" := by decide) (hdb : (x == ("__debug__" : Str)) = false := by decide)
    (he : starEach (e :: es) X.env = (false, eval e X.env) :: starEach es X.env := by rfl) (hpl : (backTo pos (starEach es X.env)).any (·.1) = false := by rfl) : PE X (.Call (.Name x p) (e :: es) [] pos) (tF X.K (fCall g fs)) :=
  pe_imp (pe_callB hc hg hm hv ha hn hdb he hpl) fun _ _ _ h => tCB_ofF hd h
theorem d_callT {T : String} {x : Str} {p : Pos} {r : List V → Hp → VK → Prop} {g : Sto → List D → Option D} {fs : EL} (hc : CallR X (.type T) r) (hd : CallD X.K r g) (hg : Gl X x) (hm : X.mg x = none) (hv : bootBuiltins x = some (.type T)) (ha : PA X (e :: es) (tA X.K fs)) (hn : x ≠ "__name__" := by decide) (hdb : (x == ("__debug__" : Str)) = false := by decide)
    (he : starEach (e :: es) X.env = (false, eval e X.env) :: starEach es X.env := by rfl) (hpl : (backTo pos (starEach es X.env)).any (·.1) = false := by rfl) : PE X (.Call (.Name x p) (e :: es) [] pos) (tD X.K (eCall g fs)) :=
  pe_imp (pe_callTy hc hg hm hv ha hn hdb he hpl) fun _ _ _ h => tCB_of hd h
theorem d_callTF {T : String} {x : Str} {p : Pos} {r : List V → Hp → VK → Prop} {g : Sto → List D → Option (List D)} {fs : EL} (hc : CallR X (.type T) r) (hd : CallF X.K r g) (hg : Gl X x) (hm : X.mg x = none) (hv : bootBuiltins x = some (.type T)) (ha : PA X (e :: es) (tA X.K fs)) (hn : x ≠ "__name__" := by decide) (hdb : (x == ("__debug__" : Str)) = false := by decide)
    (he : starEach (e :: es) X.env = (false, eval e X.env) :: starEach es X.env := by rfl) (hpl : (backTo pos (starEach es X.env)).any (·.1) = false := by rfl) : PE X (.Call (.Name x p) (e :: es) [] pos) (tF X.K (fCall g fs)) :=
  pe_imp (pe_callTy hc hg hm hv ha hn hdb he hpl) fun _ _ _ h => tCB_ofF hd h

theorem rvl1 {K : PySem.W.Frag} {av : Addr → Prop} {μ : List Addr} {H : Hp} {d : D} {vs : List V} (h : RVL K av μ H [d] vs) : ∃ v, vs = [v] ∧ RV K av μ H d v := by
  obtain ⟨y, ys, rfl, h1, h2⟩ := rvl_cons.mp h
  rw [rvl_nil] at h2; subst h2
  exact ⟨y, rfl, h1⟩
theorem rvl2 {K : PySem.W.Frag} {av : Addr → Prop} {μ : List Addr} {H : Hp} {d e : D} {vs : List V} (h : RVL K av μ H [d, e] vs) : ∃ v u, vs = [v, u] ∧ RV K av μ H d v ∧ RV K av μ H e u := by
  obtain ⟨y, ys, rfl, h1, h2⟩ := rvl_cons.mp h
  obtain ⟨u, rfl, h3⟩ := rvl1 h2
  exact ⟨y, u, rfl, h1, h3⟩
def cLen : Sto → List D → Option D := fun S ds => match ds with
  | [x] => (seqD S x).map fun xs => .int xs.length
  | _ => none
theorem cd_len {K : PySem.W.Frag} : CallD K (fun xs H Q => ∃ p ys, xs = [.ref p] ∧ (SqL K H p ys ∨ SqT K H p ys) ∧ Q (.int ys.length) H) cLen := by
  intro Z μ H S ds d vs Q W r e q
  unfold cLen at e
  split at e
  · rename_i x
    rw [Option.map_eq_some_iff] at e
    obtain ⟨xs, e1, rfl⟩ := e
    obtain ⟨v, rfl, rx⟩ := rvl1 r
    obtain ⟨a, ys, rfl, hs, hr⟩ := seq_of W rx e1
    refine ⟨a, ys, rfl, hs, ?_⟩
    rw [RVL.length hr]
    exact q _ H (Same.refl H) (rv_int.mpr rfl)
  · cases e
def cInt : Sto → List D → Option D := fun S ds => match ds with
  | [.int i] => some (.int i)
  | [.bl b] => some (.int (if b then 1 else 0))
  | _ => none
theorem cd_int {K : PySem.W.Frag} : CallD K (fun xs H Q => (∃ i, xs = [.int i] ∧ Q (.int i) H) ∨ ∃ k, xs = [.bl k] ∧ Q (.int (if k then 1 else 0)) H) cInt := by
  intro Z μ H S ds d vs Q W r e q
  unfold cInt at e
  split at e
  · cases e
    obtain ⟨v, rfl, rx⟩ := rvl1 r
    rw [rv_int.mp rx]
    exact .inl ⟨_, rfl, q _ H (Same.refl H) (rv_int.mpr rfl)⟩
  · cases e
    obtain ⟨v, rfl, rx⟩ := rvl1 r
    rw [rv_bl.mp rx]
    exact .inr ⟨_, rfl, q _ H (Same.refl H) (rv_int.mpr rfl)⟩
  · cases e
def cAbs : Sto → List D → Option D := fun S ds => match ds with
  | [.int i] => some (.int (if i < 0 then -i else i))
  | _ => none
theorem cd_abs {K : PySem.W.Frag} : CallD K (fun xs H Q => ∃ i, xs = [.int i] ∧ Q (.int (if i < 0 then -i else i)) H) cAbs := by
  intro Z μ H S ds d vs Q W r e q
  unfold cAbs at e
  split at e
  · cases e
    obtain ⟨v, rfl, rx⟩ := rvl1 r
    rw [rv_int.mp rx]
    exact ⟨_, rfl, q _ H (Same.refl H) (rv_int.mpr rfl)⟩
  · cases e
def cMax2 : Sto → List D → Option D := fun S ds => match ds with
  | [.int i, .int j] => some (.int (if j > i then j else i))
  | _ => none
theorem cd_max2 {K : PySem.W.Frag} : CallD K (fun xs H Q => ∃ i j, xs = [.int i, .int j] ∧ Q (.int (if j > i then j else i)) H) cMax2 := by
  intro Z μ H S ds d vs Q W r e q
  unfold cMax2 at e
  split at e
  · cases e
    obtain ⟨v, u, rfl, rx, ry⟩ := rvl2 r
    rw [rv_int.mp rx, rv_int.mp ry]
    exact ⟨_, _, rfl, q _ H (Same.refl H) (rv_int.mpr rfl)⟩
  · cases e
/-- the ints of a row -/
def intsD : List D → Option (List Int)
  | [] => some []
  | .int i :: ds => (intsD ds).map (i :: ·)
  | _ :: _ => none
theorem ints_eq : ∀ {ds : List D} {ns : List Int}, intsD ds = some ns → ds = ns.map .int
  | [], ns, h => by simp [intsD] at h; subst h; rfl
  | .int i :: ds, ns, h => by
    simp only [intsD, Option.map_eq_some_iff] at h
    obtain ⟨ms, h1, rfl⟩ := h
    rw [ints_eq h1]; rfl
  | .non :: _, _, h => by simp [intsD] at h
  | .bl _ :: _, _, h => by simp [intsD] at h
  | .str _ :: _, _, h => by simp [intsD] at h
  | .ty _ :: _, _, h => by simp [intsD] at h
  | .tup _ :: _, _, h => by simp [intsD] at h
  | .lst _ :: _, _, h => by simp [intsD] at h
  | .dic _ _ _ :: _, _, h => by simp [intsD] at h
  | .ins _ _ _ :: _, _, h => by simp [intsD] at h
  | .scr _ :: _, _, h => by simp [intsD] at h
  | .ref _ :: _, _, h => by simp [intsD] at h
theorem intsD_map (ns : List Int) : intsD (ns.map .int) = some ns := by
  induction ns with
  | nil => rfl
  | cons n ns ih => simp [intsD, ih]
def boolsD : List D → Option (List Bool)
  | [] => some []
  | .bl i :: ds => (boolsD ds).map (i :: ·)
  | _ :: _ => none
theorem bools_eq : ∀ {ds : List D} {ns : List Bool}, boolsD ds = some ns → ds = ns.map .bl
  | [], ns, h => by simp [boolsD] at h; subst h; rfl
  | .bl i :: ds, ns, h => by
    simp only [boolsD, Option.map_eq_some_iff] at h
    obtain ⟨ms, h1, rfl⟩ := h
    rw [bools_eq h1]; rfl
  | .non :: _, _, h => by simp [boolsD] at h
  | .int _ :: _, _, h => by simp [boolsD] at h
  | .str _ :: _, _, h => by simp [boolsD] at h
  | .ty _ :: _, _, h => by simp [boolsD] at h
  | .tup _ :: _, _, h => by simp [boolsD] at h
  | .lst _ :: _, _, h => by simp [boolsD] at h
  | .dic _ _ _ :: _, _, h => by simp [boolsD] at h
  | .ins _ _ _ :: _, _, h => by simp [boolsD] at h
  | .scr _ :: _, _, h => by simp [boolsD] at h
  | .ref _ :: _, _, h => by simp [boolsD] at h
theorem boolsD_map (ns : List Bool) : boolsD (ns.map .bl) = some ns := by
  induction ns with
  | nil => rfl
  | cons n ns ih => simp [boolsD, ih]
theorem rvl_bools' {K : PySem.W.Frag} {av : Addr → Prop} {μ : List Addr} {H : Hp} : ∀ {ns : List Bool} {xs : List V}, RVL K av μ H (ns.map .bl) xs → xs = ns.map V.bl
  | [], xs, h => by simpa [rvl_nil] using h
  | n :: ns, xs, h => by
    simp only [List.map_cons, rvl_cons] at h
    obtain ⟨y, ys, rfl, h1, h2⟩ := h
    rw [rv_bl] at h1
    subst h1
    rw [rvl_bools' h2]; rfl
def cSum : Sto → List D → Option D := fun S ds => match ds with
  | [x] => (lstD S x).bind fun xs => (intsD xs).map fun ns => .int ns.sum
  | _ => none
theorem cd_sum {K : PySem.W.Frag} : CallD K (rSum K) cSum := by
  intro Z μ H S ds d vs Q W r e q
  unfold cSum at e
  split at e
  · simp only [Option.bind_eq_some_iff, Option.map_eq_some_iff] at e
    obtain ⟨xs, e1, ns, e2, rfl⟩ := e
    obtain ⟨v, rfl, rx⟩ := rvl1 r
    obtain ⟨a, ys, rfl, hs, hr⟩ := lst_of W rx e1
    rw [ints_eq e2] at hr
    rw [rvl_ints' hr] at hs
    exact ⟨a, ns, rfl, SqL.of hs, q _ H (Same.refl H) (rv_int.mpr rfl)⟩
  · cases e
def maxI : List Int → Option Int
  | [] => none
  | i :: is => some (is.foldl (fun a b => if b > a then b else a) i)
theorem foldl_max (is : List Int) : ∀ (i m : Int), (m = i ∨ m ∈ is) → i ≤ m → (∀ y ∈ is, y ≤ m) → is.foldl (fun a b => if b > a then b else a) i = m := by
  induction is with
  | nil => intro i m h1 h2 h3; simp at h1; simp [h1]
  | cons j is ih =>
    intro i m h1 h2 h3
    simp only [List.foldl_cons]
    have hj := h3 j List.mem_cons_self
    refine ih _ m ?_ ?_ fun y hy => h3 y (List.mem_cons_of_mem _ hy)
    · rcases h1 with h1 | h1
      · subst h1
        by_cases hc : j > m
        · omega
        · left; simp [hc]
      · rcases List.mem_cons.mp h1 with h1 | h1
        · subst h1
          left
          by_cases hc : m > i
          · simp [hc]
          · simp [hc]; omega
        · exact .inr h1
    · split <;> assumption
theorem maxI_of {ns : List Int} {m k : Int} (h : maxI ns = some k) (hm : m ∈ ns) (hy : ∀ y ∈ ns, y ≤ m) : m = k := by
  cases ns with
  | nil => simp at hm
  | cons i is =>
    simp only [maxI, Option.some.injEq] at h
    rw [← h]
    refine (foldl_max is i m ?_ (hy i List.mem_cons_self) fun y h => hy y (List.mem_cons_of_mem _ h)).symm
    exact List.mem_cons.mp hm
def minI (ns : List Int) : Option Int := (maxI (ns.map fun i => -i)).map fun i => -i
theorem minI_of {ns : List Int} {m k : Int} (h : minI ns = some k) (hm : m ∈ ns) (hy : ∀ y ∈ ns, m ≤ y) : m = k := by
  unfold minI at h
  rw [Option.map_eq_some_iff] at h
  obtain ⟨j, h1, rfl⟩ := h
  have := maxI_of (m := -m) h1 (List.mem_map.mpr ⟨m, hm, rfl⟩) fun y hy' => by
    obtain ⟨z, hz, rfl⟩ := List.mem_map.mp hy'
    have := hy z hz
    omega
  omega
def cMax : Sto → List D → Option D := fun S ds => match ds with
  | [x] => (lstD S x).bind fun xs => (intsD xs).bind fun ns => (maxI ns).map .int
  | _ => none
theorem cd_max {K : PySem.W.Frag} : CallD K (rMax K) cMax := by
  intro Z μ H S ds d vs Q W r e q
  unfold cMax at e
  split at e
  · simp only [Option.bind_eq_some_iff, Option.map_eq_some_iff] at e
    obtain ⟨xs, e1, ns, e2, k, e3, rfl⟩ := e
    obtain ⟨v, rfl, rx⟩ := rvl1 r
    obtain ⟨a, ys, rfl, hs, hr⟩ := lst_of W rx e1
    rw [ints_eq e2] at hr
    rw [rvl_ints' hr] at hs
    refine ⟨a, ns, rfl, SqL.of hs, ?_, fun m hm hy => ?_⟩
    · cases ns with
      | nil => simp [maxI] at e3
      | cons _ _ => simp
    · rw [maxI_of e3 hm hy]
      exact q _ H (Same.refl H) (rv_int.mpr rfl)
  · cases e
def cMin : Sto → List D → Option D := fun S ds => match ds with
  | [x] => (lstD S x).bind fun xs => (intsD xs).bind fun ns => (minI ns).map .int
  | _ => none
theorem cd_min {K : PySem.W.Frag} : CallD K (rMin K) cMin := by
  intro Z μ H S ds d vs Q W r e q
  unfold cMin at e
  split at e
  · simp only [Option.bind_eq_some_iff, Option.map_eq_some_iff] at e
    obtain ⟨xs, e1, ns, e2, k, e3, rfl⟩ := e
    obtain ⟨v, rfl, rx⟩ := rvl1 r
    obtain ⟨a, ys, rfl, hs, hr⟩ := lst_of W rx e1
    rw [ints_eq e2] at hr
    rw [rvl_ints' hr] at hs
    refine ⟨a, ns, rfl, SqL.of hs, ?_, fun m hm hy => ?_⟩
    · cases ns with
      | nil => simp [minI, maxI] at e3
      | cons _ _ => simp
    · rw [minI_of e3 hm hy]
      exact q _ H (Same.refl H) (rv_int.mpr rfl)
  · cases e
def cAny : Sto → List D → Option D := fun S ds => match ds with
  | [x] => (lstD S x).bind fun xs => (boolsD xs).map fun bs => .bl (bs.any id)
  | _ => none
def cAll : Sto → List D → Option D := fun S ds => match ds with
  | [x] => (lstD S x).bind fun xs => (boolsD xs).map fun bs => .bl (bs.all id)
  | _ => none
theorem cd_any {K : PySem.W.Frag} : CallD K (rAny K) cAny := by
  intro Z μ H S ds d vs Q W r e q
  unfold cAny at e
  split at e
  · simp only [Option.bind_eq_some_iff, Option.map_eq_some_iff] at e
    obtain ⟨xs, e1, ns, e2, rfl⟩ := e
    obtain ⟨v, rfl, rx⟩ := rvl1 r
    obtain ⟨a, ys, rfl, hs, hr⟩ := lst_of W rx e1
    rw [bools_eq e2] at hr
    rw [rvl_bools' hr] at hs
    exact ⟨a, ns, rfl, SqL.of hs, q _ H (Same.refl H) (rv_bl.mpr rfl)⟩
  · cases e
theorem cd_all {K : PySem.W.Frag} : CallD K (rAll K) cAll := by
  intro Z μ H S ds d vs Q W r e q
  unfold cAll at e
  split at e
  · simp only [Option.bind_eq_some_iff, Option.map_eq_some_iff] at e
    obtain ⟨xs, e1, ns, e2, rfl⟩ := e
    obtain ⟨v, rfl, rx⟩ := rvl1 r
    obtain ⟨a, ys, rfl, hs, hr⟩ := lst_of W rx e1
    rw [bools_eq e2] at hr
    rw [rvl_bools' hr] at hs
    exact ⟨a, ns, rfl, SqL.of hs, q _ H (Same.refl H) (rv_bl.mpr rfl)⟩
  · cases e
/-- list(xs): new -/
def cList : Sto → List D → Option (List D) := fun S ds => match ds with
  | [x] => seqD S x
  | _ => none
theorem cf_list {K : PySem.W.Frag} : CallF K (fun xs H Q => ∃ p ys, xs = [.ref p] ∧ (SqL K H p ys ∨ SqT K H p ys) ∧ ∀ l, H l = none → Q (.ref l) (upd H l (.lst ys))) cList := by
  intro Z μ H S ds es vs Q W r e q
  unfold cList at e
  split at e
  · obtain ⟨v, rfl, rx⟩ := rvl1 r
    obtain ⟨a, ys, rfl, hs, hr⟩ := seq_of W rx e
    refine ⟨a, ys, rfl, hs, fun l hl => ?_⟩
    have s : Same H (upd H l (.lst ys)) := fun c o z => by rw [upd_ne (ne_of_none z hl)]; exact z
    exact q l _ _ hl s upd_same (RVL.newO s hl hr)
  · cases e
/-- tuple(xs) -/
def cTuple : Sto → List D → Option D := fun S ds => match ds with
  | [x] => (seqD S x).map .tup
  | _ => none
theorem cd_tuple {K : PySem.W.Frag} : CallD K (fun xs H Q => ∃ p ys, xs = [.ref p] ∧ ((SqL K H p ys ∧ ∀ l, H l = none → Q (.ref l) (upd H l (.tup ys))) ∨ (SqT K H p ys ∧ Q (.ref p) H))) cTuple := by
  intro Z μ H S ds d vs Q W r e q
  unfold cTuple at e
  split at e
  · rw [Option.map_eq_some_iff] at e
    obtain ⟨xs, e1, rfl⟩ := e
    obtain ⟨v, rfl, rx⟩ := rvl1 r
    obtain ⟨a, ys, rfl, hs, hr⟩ := seq_ofH W rx e1
    refine ⟨a, ys, rfl, ?_⟩
    rcases hs with hs | hs
    · refine .inl ⟨hs, fun l hl => ?_⟩
      have s : Same H (upd H l (.tup ys)) := fun c o z => by rw [upd_ne (ne_of_none z hl)]; exact z
      exact q _ _ s (rv_tup.mpr ⟨l, ys, rfl, upd_same, RVL.mono s hr⟩)
    · exact .inr ⟨SqT.of hs, q _ H (Same.refl H) (rv_tup.mpr ⟨a, ys, rfl, hs, hr⟩)⟩
  · cases e
/-- isinstance(x, T), T a built-in class -/
def tyD : D → Option String
  | .non => some "NoneType"
  | .bl _ => some "bool"
  | .int _ => some "int"
  | .str _ => some "str"
  | .tup _ => some "tuple"
  | .lst _ => some "list"
  | .dic false _ _ => some "dict"
  | _ => none
def cIsi : Sto → List D → Option D := fun _ ds => match ds with
  | [x, .ty t] => (tyD x).bind fun s => (kitB s t).map .bl
  | _ => none
theorem cd_isi {K : PySem.W.Frag} : CallD K (rIsi K) cIsi := by
  intro Z μ H S ds d vs Q W r e q
  unfold cIsi at e
  split at e
  · rename_i x t
    simp only [Option.bind_eq_some_iff, Option.map_eq_some_iff] at e
    obtain ⟨s, e1, b, e2, rfl⟩ := e
    obtain ⟨v, u, rfl, rx, ry⟩ := rvl2 r
    rw [rv_ty.mp ry]
    have ty : TyX K H v (.type s) := by
      cases x with
      | non => rw [rv_non.mp rx]; simp only [tyD, Option.some.injEq] at e1; subst e1; exact .base .non
      | bl _ => rw [rv_bl.mp rx]; simp only [tyD, Option.some.injEq] at e1; subst e1; exact .base (.bl _)
      | int _ => rw [rv_int.mp rx]; simp only [tyD, Option.some.injEq] at e1; subst e1; exact .base (.int _)
      | str _ => rw [rv_str.mp rx]; simp only [tyD, Option.some.injEq] at e1; subst e1; exact .base (.str _)
      | tup ds =>
        simp only [tyD, Option.some.injEq] at e1; subst e1
        obtain ⟨a, xs, rfl, hs, _⟩ := rv_tup.mp rx
        exact .base (.tup hs)
      | lst ds =>
        simp only [tyD, Option.some.injEq] at e1; subst e1
        obtain ⟨a, xs, rfl, hs, _⟩ := rv_lst.mp rx
        exact .base (.lst hs)
      | dic t ks vs =>
        cases t with
        | true => simp [tyD] at e1
        | false =>
          simp only [tyD, Option.some.injEq] at e1; subst e1
          obtain ⟨a, rfl, _, hh⟩ := rv_dic.mp rx
          rcases hh with ⟨_, kvs, h1, _⟩ | ⟨z, _⟩
          · exact .base (.dK h1)
          · cases z
      | _ => simp [tyD] at e1
    exact ⟨v, .ty t, _, _, b, rfl, .ty t, ty, kit_ty e2, q _ H (Same.refl H) (rv_bl.mpr rfl)⟩
  · cases e
end
end DL

set_option maxHeartbeats 4000000
/-! enumerate over a tuple -/
namespace DL
open PySem PySem.Spec
section
theorem meets_enumerate_newT (l : Addr) (items : Array Value) :
    Meets (Builtin.«enumerate.__new__» ⟨[.type "enumerate", .ref l], []⟩) (fun _ R s => s.heap.IsTuple l items ∧
      R (.ok (.ret (.ref (s.heap.push { cls := .type "tuple_iterator", data := .fields #[.ref l, .int 0 0] }).objs.size)))
        { s with heap := (s.heap.push { cls := .type "tuple_iterator", data := .fields #[.ref l, .int 0 0] }).push { cls := .type "enumerate", data := .fields #[.none, .bool false, .ref s.heap.objs.size, rawInt 0, .none, .none] } }) :=
  .of_wp fun prog w A R s h => by
    obtain ⟨hp, g, d, tk, os⟩ := s; obtain ⟨hL, h⟩ := h
    have hsub := sub_enumerate
    wp_walk
    refine wpAny_stack_any fun st => wpAny_pure ?_
    split
    · rename_i c _ _ _ _ _
      cases (c == Value.type "enumerate")
      · wp_walk using wpAny_pyIter_tuple hL
        exact ⟨_, rfl, h⟩
      · wp_walk using wpAny_pyIter_tuple hL
        exact ⟨_, rfl, h⟩
    · wp_walk using wpAny_pyIter_tuple hL
      exact ⟨_, rfl, h⟩
variable {prog : Program} {w : World} {A : Around} {E : Value → Shared → Prop} {s : Shared}
theorem call_enumerate_tup {l : Addr} {items : Array Value} {Q : Value → Shared → Prop} (hL : s.heap.IsTuple l items)
    (h : ∀ h', IsEnum h' (s.heap.objs.size + 1) s.heap.objs.size 0 .none → h'.IsTupleIter s.heap.objs.size l 0 → h'.objs.size = s.heap.objs.size + 2 →
      (∀ b o, s.heap.get? b = some o → h'.get? b = some o) → Q (.ref (s.heap.objs.size + 1)) { s with heap := h' }) :
    wpAny (model prog w) A (call (.type "enumerate") [.ref l]) Q E s := by
  refine callType_new F.called_enumerate (by decide) (F.typeCall_enumerate_1 _) (F.newCall_enumerate_1 _) (fun obj => F.args_object_init_2 obj _) F.entry_enumerate_new
    (meets_enumerate_newT l items) ⟨hL, ?_⟩
  have hz : (s.heap.push { cls := .type "tuple_iterator", data := .fields #[.ref l, .int 0 0] }).objs.size = s.heap.objs.size + 1 := Heap.size_push ..
  show _ ∧ _
  rw [hz]
  have he : IsEnum ((s.heap.push { cls := .type "tuple_iterator", data := .fields #[.ref l, .int 0 0] }).push
      { cls := .type "enumerate", data := .fields #[.none, .bool false, .ref s.heap.objs.size, rawInt 0, .none, .none] }) (s.heap.objs.size + 1) s.heap.objs.size 0 .none := by
    have := Heap.get?_push_size (s.heap.push { cls := .type "tuple_iterator", data := .fields #[.ref l, .int 0 0] })
      (o := { cls := .type "enumerate", data := .fields #[.none, .bool false, .ref s.heap.objs.size, rawInt 0, .none, .none] }) rfl
    rw [hz] at this; exact this
  refine ⟨⟨_, he, rfl⟩, h _ he ⟨_, Heap.get?_push_of_some _ (Heap.get?_push_size _ rfl), rfl, rfl⟩ (by rw [Heap.size_push, hz]) fun b o x => Heap.get?_push_of_some _ (Heap.get?_push_of_some _ x)⟩
end
end DL
namespace DL
open PySem PySem.Spec PyProof.Rows L2
def IteT (K : PySem.W.Frag) (a : Addr) : It :=
  ⟨fun i H => ∃ (xs : List V) (x : V), SqT K H a xs ∧ xs[i]? = some x, fun i H v H' => ∃ T x, v = .ref T ∧ H T = none ∧ H' = upd H T (.tup [.int (i : Nat), x]) ∧ ∀ xs, SqT K H a xs → xs[i]? = some x, fun i H => ∃ xs : List V, SqT K H a xs ∧ xs.length ≤ i⟩
theorem turn_enumT {P : Program} {w : World} {K : PySem.W.Frag} {elts : List Expr} {kk : Nat} {tpos : Pos} (a e it : Addr) :
    Turn P w K (.Tuple elts kk tpos) (IteT K a) [e, it] e (fun i h => (∃ old, IsEnum h e it ((i : Nat) : Int) old) ∧ h.IsTupleIter it a i ∧ e ≠ it) where
  mem := by simp
  obj := fun i h st b hb => by
    obtain ⟨⟨old, he⟩, ⟨o, ho, hc, hd⟩, _⟩ := st
    have e' : b = e ∨ b = it := by simpa using hb
    rcases e' with z | z
    · rw [z]; exact ⟨_, he, fun v q => nomatch q⟩
    · rw [z]; exact ⟨o, ho, fun v q => by rw [hd] at q; cases q⟩
  keep := fun i h h' st k => let ⟨⟨old, he⟩, hi, hne⟩ := st; ⟨⟨old, k e (by simp) _ he⟩, hi.at fun o q => k it (by simp) o q, hne⟩
  item := by
    intro X hP hw hK hc i pins s σ H E I hf st hg
    subst hP hw hK
    obtain ⟨⟨old, he⟩, hit, hne⟩ := st
    obtain ⟨xs, x, hq, hx⟩ := hg
    obtain ⟨its, rv, p, hz⟩ := I.tuple hq
    obtain ⟨u, hu, ru⟩ := rv.get hx
    have hel : e < s.heap.objs.size := Heap.lt_size he
    have hil : it < s.heap.objs.size := by obtain ⟨_, q, _⟩ := hit; exact Heap.lt_size q
    have hai : a ≠ it := by
      rintro rfl
      obtain ⟨o1, h1, c1, _⟩ := hit
      obtain ⟨o2, h2, c2, _⟩ := p
      rw [h1] at h2; cases h2
      rw [c1] at c2
      exact absurd (Value.type.inj c2) (by decide)
    have hea : e ≠ a := by
      rintro rfl
      obtain ⟨o2, h2, c2, _⟩ := p
      rw [he] at h2; cases h2
      exact absurd (Value.type.inj c2) (by decide)
    have hil' : i < its.toArray.size := by
      have := (List.getElem?_eq_some_iff.mp hu).1
      simpa using this
    refine wpAny_pyNext_enum_itemD (Draws.tuple (prog := X.prog) (w := X.w) (A := X.A.in1) (I.ok.hd hc) it a hai its.toArray) he ⟨hit, (show s.heap.IsTuple a its.toArray from p)⟩ hil' hne (by simp [hne, hea]) fun y h' tk hP ho hit' hT hsz hk => ?_
    have hy : y = u := by
      have : its.toArray[i]? = some u := by simpa using hu
      rw [this] at hP
      exact (Option.some.inj hP).symm
    subst hy
    refine ⟨_, rfl, wpAny_letOwnedTupleGo_enum (s := { s with heap := h', toks := tk + 1 }) ho fun h'' he' sb => ?_⟩
    have hT2 : h''.get? s.heap.objs.size = some { cls := .type "tuple", data := .seq #[.int i tk, y] } := (sb.2 _ (Nat.ne_of_gt hel)).trans hT
    have new : ObjOk X.prog X.w (upd H s.heap.objs.size (.tup [.int (i : Nat), x])) h'' s.heap.objs.size (.tup [.int (i : Nat), x]) :=
      ⟨by show 2 ≤ sizeLine; decide, [.int i tk, y], .cons ⟨_, rfl⟩ (.cons ru .nil), ⟨_, hT2, rfl, _, rfl⟩⟩
    have I1 : Inv X pins σ (upd H s.heap.objs.size (.tup [.int (i : Nat), x])) { s with heap := h'', toks := tk + 1 } :=
      I.turnedNew (ch := [e, it]) (fun b ob hb q => (sb.2 b (fun z => hb (by simp [z]))).trans (hk b ob (fun z => hb (by simp [z])) (fun z => hb (by simp [z])) q)) hf (Nat.le_refl _) new
    refine ⟨.ref s.heap.objs.size, _, I1, rfl, ⟨_, x, rfl, I.hok.fresh (Nat.le_refl _), rfl, fun ys hy => by rw [I.tuple_inj hy hq]; exact hx⟩, ⟨⟨y, ?_⟩, hit'.1.at fun o q => (sb.2 it (Ne.symm hne)).trans q, hne⟩, fun b hb => ?_⟩
    · have e1 : ((i + 1 : Nat) : Int) = (i : Int) + 1 := by omega
      rw [e1]; exact he'
    · have hb' : b < s.heap.objs.size := by
        have e' : b = e ∨ b = it := by simpa using hb
        rcases e' with z | z
        · rw [z]; exact hel
        · rw [z]; exact hil
      rw [upd_ne (Nat.ne_of_lt hb')]
      exact (hf b hb).1
  done := by
    intro X hP hw hK hc i pins s σ H E I hf st hg
    subst hP hw hK
    obtain ⟨⟨old, he⟩, hit, hne⟩ := st
    obtain ⟨xs, hq, hx⟩ := hg
    obtain ⟨its, rv, p, hz⟩ := I.tuple hq
    obtain ⟨f0, f1, f2, f3, f4, f5⟩ := hf it (by simp)
    have hl := rv.length
    have hT : s.TypeIs (.ref e) "enumerate" := ⟨_, he, rfl⟩
    unfold pyNext
    refine wpAny_bind (wpAny_attempt (wpAny_callSpecial?_slot (name := Str.ofString "__next__") hT F.slot_enumerate_next
      (wpAny_call_entry F.slot_enumerate_next hT F.entry_enumerate_next ?_ (F.args_enumerate_next_1 _))))
    show wpAny _ _ (field (.ref e) 2 >>= _) _ _ _
    refine wpAny_bind (wpAny_field he rfl (x := .ref it) rfl ?_)
    refine wpAny_bind (wpAny_nextOf_tuple_end (I.ok.hd hc) hit (show s.heap.IsTuple a its.toArray from p) (by simp; omega) fun h' x he' hx' => ?_)
    obtain ⟨o, ho, hc⟩ := hx'
    refine wpAny_bind (wpAny_isInstance (T := "StopIteration") (b := true) ⟨o, ho, hc⟩ isSubtype_stop ?_)
    exact wpAny_pure ⟨rfl, I.turned (t' := s.toks) (fun b o hb q => he' b o hb q) f0 f1 f3 f4 f5⟩
  self := fun A i s Q E st h => let ⟨⟨_, he⟩, _⟩ := st; wpAny_pyIter_enum he h
def iEnumA (K : PySem.W.Frag) (ta : TA) : TI := fun σ H R => ta σ H fun vs H1 => ∃ a xs, vs = [.ref a] ∧ ((SqL K H1 a xs ∧ R (Ite K a) H1) ∨ (SqT K H1 a xs ∧ R (IteT K a) H1))
theorem pi_enumA {X : Cx} {e : Expr} {ta : TA} {p pos tpos : Pos} {elts : List Expr} {kk : Nat} (hg : Gl X "enumerate") (hm : X.mg "enumerate" = none) (ha : PA X [e] ta) (hs : starEach [e] X.env = [(false, eval e X.env)] := by rfl) :
    PI X (.Tuple elts kk tpos) (.Call (.Name "enumerate" p) [e] [] pos) (iEnumA X.K ta) := by
  refine ⟨fun pins s σ H R I h => ?_⟩
  refine Call_ (ld_blt I hg hm boot_enumerate (PyProof.Rows.callWith_type1 (thn (ha.run pos pins s σ H _ I h) fun us s1 ⟨vs, H1, I1, r1, q1⟩ => ?_) hs rfl))
  obtain ⟨a, xs, ex, q1⟩ := q1
  subst ex
  cases r1 with
  | cons r rr =>
    cases rr
    cases r
    have fresh : ∀ b ∈ [s1.heap.objs.size + 1, s1.heap.objs.size], FpOk X pins H1 b := fun b hb => by
      have e' : b = s1.heap.objs.size + 1 ∨ b = s1.heap.objs.size := by simpa using hb
      have hle : s1.heap.objs.size ≤ b := by
        rcases e' with z | z
        · rw [z]; exact Nat.le_add_right _ _
        · rw [z]; exact Nat.le_refl _
      exact I1.fpOk hle (I1.hok.fresh hle)
    rcases q1 with ⟨hq, q⟩ | ⟨hq, q⟩
    · obtain ⟨its, rv, p', hz⟩ := I1.list hq
      refine call_enumerate_list p'.isList fun h' he hit hsz hk => wpAny_pyIter_enum he ?_
      have I2 : Inv X pins σ H1 { s1 with heap := h' } := I1.kept (t' := s1.toks) hk
      exact ⟨s1.heap.objs.size + 1, [s1.heap.objs.size + 1, s1.heap.objs.size], _, _, H1, rfl, I2, turn_enum a (s1.heap.objs.size + 1) s1.heap.objs.size, ⟨⟨.none, he⟩, hit, Nat.succ_ne_self _⟩, fresh, q⟩
    · obtain ⟨its, rv, p', hz⟩ := I1.tuple hq
      refine call_enumerate_tup (show s1.heap.IsTuple a its.toArray from p') fun h' he hit hsz hk => wpAny_pyIter_enum he ?_
      have I2 : Inv X pins σ H1 { s1 with heap := h' } := I1.kept (t' := s1.toks) hk
      exact ⟨s1.heap.objs.size + 1, [s1.heap.objs.size + 1, s1.heap.objs.size], _, _, H1, rfl, I2, turn_enumT a (s1.heap.objs.size + 1) s1.heap.objs.size, ⟨⟨.none, he⟩, hit, Nat.succ_ne_self _⟩, fresh, q⟩
/-- a list or a tuple walked -/
def iSeq (K : PySem.W.Frag) (tl : TE) : TI := fun σ H R => tl σ H fun x H1 => ∃ a xs, x = .ref a ∧ ((SqL K H1 a xs ∧ R (Itl K a) H1) ∨ (SqT K H1 a xs ∧ R (Itt K a) H1))
theorem pi_seq {X : Cx} {tg l : Expr} {tl : TE} (hl : PE X l tl) : PI X tg l (iSeq X.K tl) := by
  refine ⟨fun pins s σ H R I h => ?_⟩
  refine thn (hl.run pins s σ H _ I h) fun v s1 ⟨x, H1, I1, r1, q1⟩ => ?_
  obtain ⟨a, xs, e, q⟩ := q1
  subst e
  cases r1
  have fresh : ∀ b ∈ [s1.heap.objs.size], FpOk X pins H1 b := fun b hb => by
    have e : b = s1.heap.objs.size := by simpa using hb
    subst e
    exact I1.fpOk (Nat.le_refl _) (I1.hok.fresh (Nat.le_refl _))
  rcases q with ⟨hq, q⟩ | ⟨hq, q⟩
  · obtain ⟨its, rv, p, hz⟩ := I1.list hq
    refine wpAny_pyIter_list p.isList ?_
    exact ⟨s1.heap.objs.size, [s1.heap.objs.size], _, _, H1, rfl, I1.kept (t' := s1.toks) fun b o e => Heap.get?_push_of_some _ e, turn_list a _, ⟨_, Heap.get?_push_size _ rfl, rfl, rfl⟩, fresh, q⟩
  · obtain ⟨its, rv, p, hz⟩ := I1.tuple hq
    refine wpAny_pyIter_tuple (show s1.heap.IsTuple a its.toArray from p) ?_
    exact ⟨s1.heap.objs.size, [s1.heap.objs.size], _, _, H1, rfl, I1.kept (t' := s1.toks) fun b o e => Heap.get?_push_of_some _ e, turn_tuple a _, ⟨_, Heap.get?_push_size _ rfl, rfl, rfl⟩, fresh, q⟩
end DL

namespace DL
open PySem PySem.Spec L2
/-! ### what a loop walks, as data -/
/-- J yields ds, from H1 on, whatever becomes of what P says -/
def ItD (K : PySem.W.Frag) (Z : Fr) (μ : List Addr) (P : Addr → Prop) (J : It) (H1 : Hp) (ds : List D) : Prop :=
  ∀ i H', (∀ a o, H1 a = some o → ¬ P a → H' a = some o) →
    (∀ d, ds[i]? = some d → J.go i H' ∧ ∀ x H'', J.yld i H' x H'' → Same H' H'' ∧ RV K (fun a => avd Z μ a ∨ H1 a = none) μ H'' d x) ∧ (ds.length ≤ i → J.stop i H')
/-- for a loop: what the loop changes are cells; for a comprehension: nothing changes -/
def tI (K : PySem.W.Frag) (f : EL) : TI := fun σ H R => ∃ Z μ ρ S, Rel K Z μ σ H ρ S ∧ ∃ ds, f ρ S = some ds ∧ ∀ J H1, Same H H1 → ItD K Z μ (fun a => a ∈ μ) J H1 ds → R J H1
def tJ (K : PySem.W.Frag) (f : EL) : TI := fun σ H R => ∃ Z μ ρ S, Rel K Z μ σ H ρ S ∧ ∃ ds, f ρ S = some ds ∧ ∀ J H1, Same H H1 → ItD K Z μ (fun _ => False) J H1 ds → R J H1
section
variable {X : Cx} {e : Expr} {tg : Expr} {fa : E}
theorem dj_of {f : EL} (h : PI X tg e (tI X.K f)) : PI X tg e (tJ X.K f) := pi_imp h fun σ H R ⟨Z, μ, ρ, S, Rl, ds, ef, q⟩ =>
  ⟨Z, μ, ρ, S, Rl, ds, ef, fun J H1 s it => q J H1 s fun i H' k => it i H' fun a o h1 _ => k a o h1 fun z => z⟩
section
variable {K : PySem.W.Frag} {Z : Fr} {μ : List Addr} {H1 H' : Hp} {S : Sto} {P : Addr → Prop}
/-- items that stand at H1 are old -/
theorem RVL.old {ds : List D} {xs : List V} (h : RVLz K Z μ H1 ds xs) : RVL K (fun a => avd Z μ a ∨ H1 a = none) μ H1 ds xs :=
  RVL.tr (fun a o e hn => ⟨e, fun m q => by
    rcases q with q | q
    · exact hn m q
    · rw [q] at e; cases e⟩) (fun _ _ e => e) ds xs h
theorem RV.keepP (W : Wd K Z μ H1 S) (hP : ∀ a, P a → a ∈ μ) (k : ∀ a o, H1 a = some o → ¬ P a → H' a = some o) {d : D} {v : V}
    (h : RV K (fun a => avd Z μ a ∨ H1 a = none) μ H1 d v) : RV K (fun a => avd Z μ a ∨ H1 a = none) μ H' d v :=
  RV.tr (fun a o e hn => ⟨k a o e fun p => by
    obtain ⟨u, e', m⟩ := W.mem (hP a p)
    rw [e] at e'; cases e'
    exact hn m (.inl (.inr (hP a p))), hn⟩) (fun _ _ e => e) d v h
theorem notP_tup (W : Wd K Z μ H1 S) (hP : ∀ a, P a → a ∈ μ) {a : Addr} {o : HO} (h : H1 a = some o) (m : isMut o = false) : ¬ P a := fun p => by
  obtain ⟨u, e', m'⟩ := W.mem (hP a p)
  rw [h] at e'; cases e'
  rw [m] at m'; cases m'
theorem sqT_keep (W : Wd K Z μ H1 S) (hP : ∀ a, P a → a ∈ μ) (k : ∀ a o, H1 a = some o → ¬ P a → H' a = some o) {a : Addr} {xs : List V} (h : SqT K H1 a xs) : SqT K H' a xs := by
  rcases h with (h | ⟨o, h⟩) | h
  · exact .inl (.inl (k a _ h (notP_tup W hP h rfl)))
  · exact .inl (.inr ⟨o, k a _ h (notP_tup W hP h rfl)⟩)
  · exact .inr h
theorem itD_list {a : Addr} {xs : List V} {ds : List D} (W : Wd K Z μ H1 S) (hP : ∀ a, P a → a ∈ μ) (hs : ∀ H', (∀ a o, H1 a = some o → ¬ P a → H' a = some o) → SqL K H' a xs) (hr : RVLz K Z μ H1 ds xs) : ItD K Z μ P (Itl K a) H1 ds := by
  intro i H' k
  have q := hs H' k
  refine ⟨fun d hd => ?_, fun hl => ⟨xs, q, by rw [RVL.length hr]; exact hl⟩⟩
  obtain ⟨v, hv, rv⟩ := RVL.get hr.old hd
  exact ⟨⟨xs, v, q, hv⟩, fun x H'' ⟨e, y⟩ => by
    subst e
    have := y xs q
    rw [hv] at this; cases this
    exact ⟨Same.refl _, RV.keepP W hP k rv⟩⟩
theorem itD_tup {a : Addr} {xs : List V} {ds : List D} (W : Wd K Z μ H1 S) (hP : ∀ a, P a → a ∈ μ) (hs : SqT K H1 a xs) (hr : RVLz K Z μ H1 ds xs) : ItD K Z μ P (Itt K a) H1 ds := by
  intro i H' k
  have q := sqT_keep W hP k hs
  refine ⟨fun d hd => ?_, fun hl => ⟨xs, q, by rw [RVL.length hr]; exact hl⟩⟩
  obtain ⟨v, hv, rv⟩ := RVL.get hr.old hd
  exact ⟨⟨xs, v, q, hv⟩, fun x H'' ⟨e, y⟩ => by
    subst e
    have := y xs q
    rw [hv] at this; cases this
    exact ⟨Same.refl _, RV.keepP W hP k rv⟩⟩
def enumD (ds : List D) : List D := ds.mapIdx fun i d => .tup [.int (i : Nat), d]
theorem enumD_get {ds : List D} {i : Nat} {e : D} (h : (enumD ds)[i]? = some e) : ∃ d, ds[i]? = some d ∧ e = .tup [.int (i : Nat), d] := by
  unfold enumD at h
  rw [List.getElem?_mapIdx] at h
  rw [Option.map_eq_some_iff] at h
  obtain ⟨d, h1, h2⟩ := h
  exact ⟨d, h1, h2.symm⟩
theorem new_pair {T : Addr} {x y : V} {d e : D} {H : Hp} {av : Addr → Prop} (n : H T = none) (h1 : RV K av μ H d x) (h2 : RV K av μ H e y) : Same H (upd H T (.tup [x, y])) ∧ RV K av μ (upd H T (.tup [x, y])) (.tup [d, e]) (.ref T) := by
  have s : Same H (upd H T (.tup [x, y])) := fun c o z => by rw [upd_ne (ne_of_none z n)]; exact z
  have tr : ∀ {d v}, RV K av μ H d v → RV K av μ (upd H T (.tup [x, y])) d v := fun {d v} r => RV.tr (fun a o e hn => ⟨s a o e, hn⟩) (fun _ _ e => e) d v r
  exact ⟨s, rv_tup.mpr ⟨T, _, rfl, upd_same, RVL.cons' (tr h1) (RVL.one (tr h2))⟩⟩
theorem itD_enumL {a : Addr} {xs : List V} {ds : List D} (W : Wd K Z μ H1 S) (hP : ∀ a, P a → a ∈ μ) (hs : ∀ H', (∀ a o, H1 a = some o → ¬ P a → H' a = some o) → SqL K H' a xs) (hr : RVLz K Z μ H1 ds xs) : ItD K Z μ P (Ite K a) H1 (enumD ds) := by
  intro i H' k
  have q := hs H' k
  refine ⟨fun e he => ?_, fun hl => ⟨xs, q, by rw [RVL.length hr]; simpa [enumD] using hl⟩⟩
  obtain ⟨d, hd, rfl⟩ := enumD_get he
  obtain ⟨v, hv, rv⟩ := RVL.get hr.old hd
  exact ⟨⟨xs, v, q, hv⟩, fun x H'' ⟨T, y, e1, n, e2, hy⟩ => by
    subst e1 e2
    have := hy xs q
    rw [hv] at this; cases this
    exact new_pair n (rv_int.mpr rfl) (RV.keepP W hP k rv)⟩
theorem itD_enumT {a : Addr} {xs : List V} {ds : List D} (W : Wd K Z μ H1 S) (hP : ∀ a, P a → a ∈ μ) (hs : SqT K H1 a xs) (hr : RVLz K Z μ H1 ds xs) : ItD K Z μ P (IteT K a) H1 (enumD ds) := by
  intro i H' k
  have q := sqT_keep W hP k hs
  refine ⟨fun e he => ?_, fun hl => ⟨xs, q, by rw [RVL.length hr]; simpa [enumD] using hl⟩⟩
  obtain ⟨d, hd, rfl⟩ := enumD_get he
  obtain ⟨v, hv, rv⟩ := RVL.get hr.old hd
  exact ⟨⟨xs, v, q, hv⟩, fun x H'' ⟨T, y, e1, n, e2, hy⟩ => by
    subst e1 e2
    have := hy xs q
    rw [hv] at this; cases this
    exact new_pair n (rv_int.mpr rfl) (RV.keepP W hP k rv)⟩
def zipD (ds es : List D) : List D := List.zipWith (fun d e => .tup [d, e]) ds es
theorem zipD_get : ∀ {ds es : List D} {i : Nat} {z : D}, (zipD ds es)[i]? = some z → ∃ d e, ds[i]? = some d ∧ es[i]? = some e ∧ z = .tup [d, e]
  | [], _, _, _, h => by simp [zipD] at h
  | _ :: _, [], _, _, h => by simp [zipD] at h
  | d :: ds, e :: es, 0, z, h => by
    simp [zipD] at h
    exact ⟨d, e, rfl, rfl, h.symm⟩
  | d :: ds, e :: es, i + 1, z, h => by
    have h' : (zipD ds es)[i]? = some z := by simpa [zipD] using h
    obtain ⟨d', e', h1, h2, h3⟩ := zipD_get h'
    exact ⟨d', e', by simpa using h1, by simpa using h2, h3⟩
theorem zipD_len {ds es : List D} : (zipD ds es).length = min ds.length es.length := by simp [zipD]
theorem itD_zipL {a b : Addr} {xs ys : List V} {ds es : List D} (W : Wd K Z μ H1 S) (hP : ∀ a, P a → a ∈ μ) (hs : ∀ H', (∀ a o, H1 a = some o → ¬ P a → H' a = some o) → SqL K H' a xs) (hs2 : ∀ H', (∀ a o, H1 a = some o → ¬ P a → H' a = some o) → SqL K H' b ys)
    (hr : RVLz K Z μ H1 ds xs) (hr2 : RVLz K Z μ H1 es ys) : ItD K Z μ P (Itz K a b) H1 (zipD ds es) := by
  intro i H' k
  have q := hs H' k
  have q2 := hs2 H' k
  refine ⟨fun z hz => ?_, fun hl => ⟨xs, ys, q, q2, ?_⟩⟩
  · obtain ⟨d, e, hd, he, rfl⟩ := zipD_get hz
    obtain ⟨v, hv, rv⟩ := RVL.get hr.old hd
    obtain ⟨u, hu, ru⟩ := RVL.get hr2.old he
    exact ⟨⟨xs, ys, v, u, q, q2, hv, hu⟩, fun x H'' ⟨T, y1, y2, e1, n, e2, h1, h2⟩ => by
      subst e1 e2
      have t1 := h1 xs q
      rw [hv] at t1; cases t1
      have t2 := h2 ys q2
      rw [hu] at t2; cases t2
      exact new_pair n (RV.keepP W hP k rv) (RV.keepP W hP k ru)⟩
  · rw [RVL.length hr, RVL.length hr2]
    rw [zipD_len] at hl
    omega
theorem itD_zipT {a b : Addr} {xs ys : List V} {ds es : List D} (W : Wd K Z μ H1 S) (hP : ∀ a, P a → a ∈ μ) (hs : SqT K H1 a xs) (hs2 : SqT K H1 b ys)
    (hr : RVLz K Z μ H1 ds xs) (hr2 : RVLz K Z μ H1 es ys) : ItD K Z μ P (RZ.ItzT K a b) H1 (zipD ds es) := by
  intro i H' k
  have q := sqT_keep W hP k hs
  have q2 := sqT_keep W hP k hs2
  refine ⟨fun z hz => ?_, fun hl => ⟨xs, ys, q, q2, ?_⟩⟩
  · obtain ⟨d, e, hd, he, rfl⟩ := zipD_get hz
    obtain ⟨v, hv, rv⟩ := RVL.get hr.old hd
    obtain ⟨u, hu, ru⟩ := RVL.get hr2.old he
    exact ⟨⟨xs, ys, v, u, q, q2, hv, hu⟩, fun x H'' ⟨T, y1, y2, e1, n, e2, h1, h2⟩ => by
      subst e1 e2
      have t1 := h1 xs q
      rw [hv] at t1; cases t1
      have t2 := h2 ys q2
      rw [hu] at t2; cases t2
      exact new_pair n (RV.keepP W hP k rv) (RV.keepP W hP k ru)⟩
  · rw [RVL.length hr, RVL.length hr2]
    rw [zipD_len] at hl
    omega
/-- lo, lo + c, .. -/
def rngD (lo c : Int) (n : Nat) : List D := (List.range n).map fun (k : Nat) => .int (lo + (k : Int) * c)
theorem rngD_get {lo c : Int} {n i : Nat} {d : D} (h : (rngD lo c n)[i]? = some d) : i < n ∧ d = .int (lo + (i : Int) * c) := by
  unfold rngD at h
  rw [List.getElem?_map, Option.map_eq_some_iff] at h
  obtain ⟨k, h1, h2⟩ := h
  obtain ⟨h3, h4⟩ := List.getElem?_eq_some_iff.mp h1
  rw [List.getElem_range] at h4
  subst h4
  exact ⟨by simpa using h3, h2.symm⟩
theorem itD_rng {lo : Int} {n : Nat} : ItD K Z μ P (Itr lo n) H1 (rngD lo 1 n) := by
  intro i H' k
  refine ⟨fun d hd => ?_, fun hl => by
    have q : n ≤ i := by simpa [rngD] using hl
    exact q⟩
  obtain ⟨hi, rfl⟩ := rngD_get hd
  exact ⟨hi, fun x H'' ⟨e, y⟩ => by
    subst e y
    exact ⟨Same.refl _, rv_int.mpr (by rw [Int.mul_one])⟩⟩
theorem itD_rngC {lo c : Int} {n : Nat} : ItD K Z μ P (Itc lo c n) H1 (rngD lo c n) := by
  intro i H' k
  refine ⟨fun d hd => ?_, fun hl => by
    have q : n ≤ i := by simpa [rngD] using hl
    exact q⟩
  obtain ⟨hi, rfl⟩ := rngD_get hd
  exact ⟨hi, fun x H'' ⟨e, y⟩ => by
    subst e y
    exact ⟨Same.refl _, rv_int.mpr rfl⟩⟩
end

/-- a sequence that stays as it is -/
def seqV : D → Option (List D)
  | .tup ds => some ds
  | .lst ds => some ds
  | .scr ns => some (ns.map .int)
  | _ => none
theorem seqV_D {S : Sto} {d : D} {ds : List D} (h : seqV d = some ds) : seqD S d = some ds := by
  cases d <;> simp [seqV] at h <;> simp [seqD, h]
section
variable {K : PySem.W.Frag} {Z : Fr} {μ : List Addr} {H1 H' : Hp} {S : Sto}
theorem seqV_of {d : D} {ds : List D} {v : V} (W : Wd K Z μ H1 S) (r : RVz K Z μ H1 d v) (h : seqV d = some ds) :
    ∃ a xs, v = .ref a ∧ ((∀ H', (∀ a o, H1 a = some o → ¬ a ∈ μ → H' a = some o) → SqL K H' a xs) ∨ SqT K H1 a xs) ∧ RVLz K Z μ H1 ds xs := by
  cases d with
  | tup es =>
    simp only [seqV, Option.some.injEq] at h; subst h
    obtain ⟨a, xs, e, h1, h2⟩ := rv_tup.mp r
    exact ⟨a, xs, e, .inr (SqT.of h1), h2⟩
  | lst es =>
    simp only [seqV, Option.some.injEq] at h; subst h
    obtain ⟨a, xs, e, h1, n, h2⟩ := rv_lst.mp r
    exact ⟨a, xs, e, .inl fun H' k => SqL.of (k a _ h1 fun m => n (.inr m)), h2⟩
  | scr ns =>
    simp only [seqV, Option.some.injEq] at h; subst h
    obtain ⟨a, e, h1⟩ := rv_scr.mp r
    refine ⟨a, _, e, .inl fun H' k => ?_, rvl_ints ns⟩
    rcases h1 with ⟨o, h1⟩ | h1
    · exact .inl (.inr ⟨o, k a _ h1 fun m => by
        obtain ⟨u, e', m'⟩ := W.mem m
        rw [h1] at e'; cases e'; cases m'⟩)
    · exact h1 H'
  | _ => simp [seqV] at h
end
def iSeqD (f : E) : EL := fun ρ S => (f ρ S).bind seqV
def jSeqD (f : E) : EL := fun ρ S => (f ρ S).bind (seqD S)
theorem di_seq (h : PE X e (tD X.K fa)) : PI X tg e (tI X.K (iSeqD fa)) := pi_imp (pi_seq h) fun σ H R ⟨Z, μ, ρ, S, Rl, ds, ef, q⟩ => by
  simp only [iSeqD, Option.bind_eq_some_iff] at ef
  obtain ⟨d, e1, e2⟩ := ef
  refine ⟨Z, μ, ρ, S, Rl, d, e1, fun v H1 s1 r1 => ?_⟩
  obtain ⟨a, xs, rfl, hs, hr⟩ := seqV_of (Rl.wd.mono s1) r1 e2
  refine ⟨a, xs, rfl, ?_⟩
  rcases hs with hs | hs
  · exact .inl ⟨hs H1 fun _ _ h _ => h, q _ H1 s1 (itD_list (Rl.wd.mono s1) (fun _ z => z) hs hr)⟩
  · exact .inr ⟨hs, q _ H1 s1 (itD_tup (Rl.wd.mono s1) (fun _ z => z) hs hr)⟩
theorem dj_seq (h : PE X e (tD X.K fa)) : PI X tg e (tJ X.K (jSeqD fa)) := pi_imp (pi_seq h) fun σ H R ⟨Z, μ, ρ, S, Rl, ds, ef, q⟩ => by
  simp only [jSeqD, Option.bind_eq_some_iff] at ef
  obtain ⟨d, e1, e2⟩ := ef
  refine ⟨Z, μ, ρ, S, Rl, d, e1, fun v H1 s1 r1 => ?_⟩
  obtain ⟨a, xs, rfl, hs, hr⟩ := seq_of (Rl.wd.mono s1) r1 e2
  refine ⟨a, xs, rfl, ?_⟩
  rcases hs with hs | hs
  · exact .inl ⟨hs, q _ H1 s1 (itD_list (Rl.wd.mono s1) (fun _ z => z.elim) (fun H' k => by
      rcases hs with (hs | ⟨o, hs⟩) | hs
      · exact .inl (.inl (k _ _ hs fun z => z))
      · exact .inl (.inr ⟨o, k _ _ hs fun z => z⟩)
      · exact .inr hs) hr)⟩
  · exact .inr ⟨hs, q _ H1 s1 (itD_tup (Rl.wd.mono s1) (fun _ z => z.elim) hs hr)⟩
def lim62 (i : Int) : Bool := Nat.blt i.natAbs 4611686018427387904
theorem lim62_of {i : Int} (h : lim62 i = true) : -(2 ^ 62) ≤ i ∧ i < 2 ^ 62 := by
  have h' : i.natAbs < 4611686018427387904 := by
    have := h
    unfold lim62 at this
    exact Nat.le_of_ble_eq_true this
  omega
def rng1 : List D → Option (List D)
  | [.int j] => if lim62 j then some (rngD 0 1 j.toNat) else none
  | _ => none
def rng2 : List D → Option (List D)
  | [.int i, .int j] => if lim62 i && lim62 j then some (rngD i 1 (j - i).toNat) else none
  | _ => none
def rng3 : List D → Option (List D)
  | [.int i, .int j, .int c] => if lim62 i && lim62 j && decide (c = -1) then some (rngD i (-1) (i - j).toNat) else none
  | _ => none
def iRng (g : List D → Option (List D)) (fs : EL) : EL := fun ρ S => (fs ρ S).bind g
theorem di_rng1 {a : Expr} {fs : EL} {p pos : Pos} (hg : Gl X "range") (hm : X.mg "range" = none) (ha : PA X [a] (tA X.K fs)) (hs : starEach [a] X.env = [(false, eval a X.env)] := by rfl) : PI X tg (.Call (.Name "range" p) [a] [] pos) (tI X.K (iRng rng1 fs)) :=
  pi_imp (pi_range1 hg hm ha hs) fun σ H R ⟨Z, μ, ρ, S, Rl, ds, ef, q⟩ => by
    simp only [iRng, Option.bind_eq_some_iff] at ef
    obtain ⟨es, e1, e2⟩ := ef
    refine ⟨Z, μ, ρ, S, Rl, es, e1, fun vs H1 s1 r1 => ?_⟩
    unfold rng1 at e2
    split at e2
    · split at e2
      · rename_i hl
        cases e2
        obtain ⟨v, rfl, rv⟩ := rvl1 r1
        rw [rv_int.mp rv]
        exact ⟨_, rfl, (lim62_of hl).1, (lim62_of hl).2, q _ H1 s1 itD_rng⟩
      · cases e2
    · cases e2
theorem di_rng2 {a b : Expr} {fs : EL} {p pos : Pos} (hg : Gl X "range") (hm : X.mg "range" = none) (ha : PA X [a, b] (tA X.K fs)) (hs : starEach [a, b] X.env = [(false, eval a X.env), (false, eval b X.env)] := by rfl) (hs2 : starEach [b] X.env = [(false, eval b X.env)] := by rfl) : PI X tg (.Call (.Name "range" p) [a, b] [] pos) (tI X.K (iRng rng2 fs)) :=
  pi_imp (pi_range2 hg hm ha hs hs2) fun σ H R ⟨Z, μ, ρ, S, Rl, ds, ef, q⟩ => by
    simp only [iRng, Option.bind_eq_some_iff] at ef
    obtain ⟨es, e1, e2⟩ := ef
    refine ⟨Z, μ, ρ, S, Rl, es, e1, fun vs H1 s1 r1 => ?_⟩
    unfold rng2 at e2
    split at e2
    · split at e2
      · rename_i hl
        cases e2
        rw [Bool.and_eq_true] at hl
        obtain ⟨v, u, rfl, rv, ru⟩ := rvl2 r1
        rw [rv_int.mp rv, rv_int.mp ru]
        have h1 := lim62_of hl.1
        have h2 := lim62_of hl.2
        exact ⟨_, _, rfl, ⟨h1.1, h1.2, h2.1, h2.2⟩, q _ H1 s1 itD_rng⟩
      · cases e2
    · cases e2
theorem di_rng3 {a b c : Expr} {fs : EL} {p pos : Pos} (hg : Gl X "range") (hm : X.mg "range" = none) (ha : PA X [a, b, c] (tA X.K fs))
    (hs : starEach [a, b, c] X.env = (false, eval a X.env) :: starEach [b, c] X.env := by rfl) (hpl : (backTo pos (starEach [b, c] X.env)).any (·.1) = false := by rfl) : PI X tg (.Call (.Name "range" p) [a, b, c] [] pos) (tI X.K (iRng rng3 fs)) :=
  pi_imp (pi_range3 hg hm ha hs hpl) fun σ H R ⟨Z, μ, ρ, S, Rl, ds, ef, q⟩ => by
    simp only [iRng, Option.bind_eq_some_iff] at ef
    obtain ⟨es, e1, e2⟩ := ef
    refine ⟨Z, μ, ρ, S, Rl, es, e1, fun vs H1 s1 r1 => ?_⟩
    unfold rng3 at e2
    split at e2
    · split at e2
      · rename_i hl
        cases e2
        simp only [Bool.and_eq_true, decide_eq_true_eq] at hl
        obtain ⟨⟨l1, l2⟩, rfl⟩ := hl
        obtain ⟨v, vs, rfl, rv, r2⟩ := rvl_cons.mp r1
        obtain ⟨u, w, rfl, ru, rw'⟩ := rvl2 r2
        rw [rv_int.mp rv, rv_int.mp ru, rv_int.mp rw']
        have h1 := lim62_of l1
        have h2 := lim62_of l2
        exact ⟨_, _, _, _, rfl, RgC.neg h1.1 h1.2 h2.1 h2.2, q _ H1 s1 itD_rngC⟩
      · cases e2
    · cases e2
def iEnumD (fs : EL) : EL := fun ρ S => (fs ρ S).bind fun ds => match ds with
  | [x] => (seqV x).map enumD
  | _ => none
theorem di_enum {e : Expr} {fs : EL} {p pos tpos : Pos} {elts : List Expr} {kk : Nat} (hg : Gl X "enumerate") (hm : X.mg "enumerate" = none) (ha : PA X [e] (tA X.K fs)) (hs : starEach [e] X.env = [(false, eval e X.env)] := by rfl) :
    PI X (.Tuple elts kk tpos) (.Call (.Name "enumerate" p) [e] [] pos) (tI X.K (iEnumD fs)) :=
  pi_imp (pi_enumA hg hm ha hs) fun σ H R ⟨Z, μ, ρ, S, Rl, ds, ef, q⟩ => by
    simp only [iEnumD, Option.bind_eq_some_iff] at ef
    obtain ⟨es, e1, e2⟩ := ef
    refine ⟨Z, μ, ρ, S, Rl, es, e1, fun vs H1 s1 r1 => ?_⟩
    split at e2
    · rw [Option.map_eq_some_iff] at e2
      obtain ⟨xs, e2, rfl⟩ := e2
      obtain ⟨v, rfl, rv⟩ := rvl1 r1
      obtain ⟨a, ys, rfl, hs, hr⟩ := seqV_of (Rl.wd.mono s1) rv e2
      refine ⟨a, ys, rfl, ?_⟩
      rcases hs with hs | hs
      · exact .inl ⟨hs H1 fun _ _ h _ => h, q _ H1 s1 (itD_enumL (Rl.wd.mono s1) (fun _ z => z) hs hr)⟩
      · exact .inr ⟨hs, q _ H1 s1 (itD_enumT (Rl.wd.mono s1) (fun _ z => z) hs hr)⟩
    · cases e2
def isTup : D → Bool
  | .tup _ => true
  | _ => false
def iZipD (fs : EL) : EL := fun ρ S => (fs ρ S).bind fun ds => match ds with
  | [x, y] => if isTup x == isTup y then (seqV x).bind fun a => (seqV y).map fun b => zipD a b else none
  | _ => none
theorem di_zip {e e2 : Expr} {fs : EL} {p pos tpos : Pos} {elts : List Expr} {kk : Nat} (hg : Gl X "zip") (hm : X.mg "zip" = none) (ha : PA X [e, e2] (tA X.K fs))
    (hs : starEach [e, e2] X.env = (false, eval e X.env) :: starEach [e2] X.env := by rfl) (hpl : (backTo pos (starEach [e2] X.env)).any (·.1) = false := by rfl) :
    PI X (.Tuple elts kk tpos) (.Call (.Name "zip" p) [e, e2] [] pos) (tI X.K (iZipD fs)) :=
  pi_imp (RZ.pi_zipA hg hm ha hs hpl) fun σ H R ⟨Z, μ, ρ, S, Rl, ds, ef, q⟩ => by
    simp only [iZipD, Option.bind_eq_some_iff] at ef
    obtain ⟨es, e1, e2⟩ := ef
    refine ⟨Z, μ, ρ, S, Rl, es, e1, fun vs H1 s1 r1 => ?_⟩
    split at e2
    · rename_i x y
      split at e2
      · rename_i ht
        simp only [Option.bind_eq_some_iff, Option.map_eq_some_iff] at e2
        obtain ⟨as, ea, bs, eb, rfl⟩ := e2
        obtain ⟨v, u, rfl, rv, ru⟩ := rvl2 r1
        have W := Rl.wd.mono s1
        have lt : ∀ {d : D} {ds : List D} {v : V}, RVz X.K Z μ H1 d v → seqV d = some ds → isTup d = true → ∃ a xs, v = .ref a ∧ SqT X.K H1 a xs ∧ RVLz X.K Z μ H1 ds xs := by
          intro d ds v r h1 h2
          cases d <;> simp [isTup] at h2
          simp only [seqV, Option.some.injEq] at h1; subst h1
          obtain ⟨a, xs, e, h3, h4⟩ := rv_tup.mp r
          exact ⟨a, xs, e, SqT.of h3, h4⟩
        have ll : ∀ {d : D} {ds : List D} {v : V}, RVz X.K Z μ H1 d v → seqV d = some ds → isTup d = false → ∃ a xs, v = .ref a ∧ (∀ H', (∀ a o, H1 a = some o → ¬ a ∈ μ → H' a = some o) → SqL X.K H' a xs) ∧ RVLz X.K Z μ H1 ds xs := by
          intro d ds v r h1 h2
          obtain ⟨a, xs, e, hs, hr⟩ := seqV_of W r h1
          rcases hs with hs | hs
          · exact ⟨a, xs, e, hs, hr⟩
          · cases d with
            | tup _ => simp [isTup] at h2
            | lst es =>
              simp only [seqV, Option.some.injEq] at h1; subst h1
              obtain ⟨a, xs, e, h1, n, h2⟩ := rv_lst.mp r
              exact ⟨a, xs, e, fun H' k => SqL.of (k a _ h1 fun m => n (.inr m)), h2⟩
            | scr ns =>
              simp only [seqV, Option.some.injEq] at h1; subst h1
              obtain ⟨a, e, h1⟩ := rv_scr.mp r
              refine ⟨a, _, e, fun H' k => ?_, rvl_ints ns⟩
              rcases h1 with ⟨o, h1⟩ | h1
              · exact .inl (.inr ⟨o, k a _ h1 fun m => by
                  obtain ⟨u, e', m'⟩ := W.mem m
                  rw [h1] at e'; cases e'; cases m'⟩)
              · exact h1 H'
            | _ => simp [seqV] at h1
        cases tx : isTup x with
        | true =>
          rw [tx] at ht
          have ty : isTup y = true := by simpa using ht
          obtain ⟨a, xs, rfl, h1, h2⟩ := lt rv ea tx
          obtain ⟨b, ys, rfl, h3, h4⟩ := lt ru eb ty
          exact ⟨a, b, xs, ys, rfl, .inr ⟨h1, h3, q _ H1 s1 (itD_zipT W (fun _ z => z) h1 h3 h2 h4)⟩⟩
        | false =>
          rw [tx] at ht
          have ty : isTup y = false := by
            cases h : isTup y
            · rfl
            · rw [h] at ht; exact absurd ht (by decide)
          obtain ⟨a, xs, rfl, h1, h2⟩ := ll rv ea tx
          obtain ⟨b, ys, rfl, h3, h4⟩ := ll ru eb ty
          exact ⟨a, b, xs, ys, rfl, .inl ⟨h1 H1 fun _ _ h _ => h, h3 H1 fun _ _ h _ => h, q _ H1 s1 (itD_zipL W (fun _ z => z) h1 h3 h2 h4)⟩⟩
      · cases e2
    · cases e2
end
end DL

set_option maxHeartbeats 4000000
namespace DL
open PySem PySem.Spec L2

/-! ### targets -/
abbrev G := D → Rho → Option Rho
abbrev Gs := List D → Rho → Option Rho
def tG (K : PySem.W.Frag) (vs : List Nat) (g : G) : TG := fun v σ H Q => ∃ Z μ ρ S d, Rel K Z μ σ H ρ S ∧ RVz K Z μ H d v ∧ ∃ ρ', g d ρ = some ρ' ∧
  ∀ σ', Rel K Z μ σ' H ρ' S → (∀ j, j ∉ vs → σ'[j]? = σ[j]?) → σ'.length = σ.length → Q σ' H
def tGs (K : PySem.W.Frag) (vs : List Nat) (g : Gs) : TGs := fun xs σ H Q => ∃ Z μ ρ S ds, Rel K Z μ σ H ρ S ∧ RVLz K Z μ H ds xs ∧ ∃ ρ', g ds ρ = some ρ' ∧
  ∀ σ', Rel K Z μ σ' H ρ' S → (∀ j, j ∉ vs → σ'[j]? = σ[j]?) → σ'.length = σ.length → Q σ' H
def gN (i : Nat) : G := fun d ρ => some (ρ.set i (some d))
def gT (n : Nat) (gs : Gs) : G := fun d ρ => match d with
  | .tup ds => if ds.length = n then gs ds ρ else none
  | _ => none
def gNil : Gs := fun ds ρ => match ds with
  | [] => some ρ
  | _ => none
def gCons (g : G) (gs : Gs) : Gs := fun ds ρ => match ds with
  | d :: ds => (g d ρ).bind fun ρ' => gs ds ρ'
  | [] => none
section
variable {X : Cx} {e : Expr} {es : List Expr} {pos : Pos}
theorem pgs_imp {t t' : TGs} (h : PGs X es t) (i : ∀ v σ H Q, t' v σ H Q → t v σ H Q) : PGs X es t' := ⟨fun pins s σ H v u Q I r q => h.run pins s σ H v u Q I r (i v σ H Q q)⟩
theorem dg_name {i : Nat} {x : Str} (hN : X.N.Nodup) (hi : X.N[i]? = some x) (hx : Loc X.env.scope x) (hf : X.fn x = true ∨ X.env.scope.names.lookup x = some .local := by first | exact .inl rfl | exact .inr rfl | assumption) : PG X (.Name x pos) (tG X.K [i] (gN i)) :=
  pg_imp (pg_name hN hi hx hf) fun v σ H Q ⟨Z, μ, ρ, S, d, R, r, ρ', e, q⟩ => by
    simp only [gN, Option.some.injEq] at e
    subst e
    exact q _ (R.set r) (fun j hj => by rw [List.getElem?_set_ne (by simpa using fun h => hj (by simp [h]))]) (List.length_set ..)
theorem dgs_nil : PGs X [] (tGs X.K [] gNil) := pgs_imp pgs_nil fun v σ H Q ⟨Z, μ, ρ, S, ds, R, r, ρ', e, q⟩ => by
  unfold gNil at e
  split at e
  · cases e
    exact ⟨rvl_nil.mp r, q σ R (fun _ _ => rfl) rfl⟩
  · cases e
theorem dgs_cons {v1 v2 : List Nat} {g : G} {gs : Gs} (h1 : PG X e (tG X.K v1 g)) (h2 : PGs X es (tGs X.K v2 gs)) (hs : (assignEach (e :: es) X.env).map (·.2) = assign e X.env :: (assignEach es X.env).map (·.2) := by rfl) : PGs X (e :: es) (tGs X.K (v1 ++ v2) (gCons g gs)) :=
  pgs_imp (pgs_cons h1 h2 hs) fun v σ H Q ⟨Z, μ, ρ, S, ds, R, r, ρ', e, q⟩ => by
    unfold gCons at e
    split at e
    · rename_i d ds
      rw [Option.bind_eq_some_iff] at e
      obtain ⟨ρ1, e1, e2⟩ := e
      obtain ⟨y, ys, rfl, ry, rys⟩ := rvl_cons.mp r
      refine ⟨y, ys, rfl, Z, μ, ρ, S, d, R, ry, ρ1, e1, fun σ1 R1 k1 l1 => ?_⟩
      refine ⟨Z, μ, ρ1, S, ds, R1, rys, ρ', e2, fun σ2 R2 k2 l2 => q σ2 R2 (fun j hj => ?_) (l2.trans l1)⟩
      rw [k2 j fun h => hj (List.mem_append_right _ h), k1 j fun h => hj (List.mem_append_left _ h)]
    · cases e
theorem dg_tup {vs : List Nat} {gs : Gs} {k n : Nat} (hc : X.calm = true) (h : PGs X es (tGs X.K vs gs)) (hn : (assignEach es X.env).length = n := by rfl) (hst : (assignEach es X.env).findIdx? (·.1) = none := by rfl) : PG X (.Tuple es k pos) (tG X.K vs (gT n gs)) :=
  pg_imp (pg_tup hc h hn hst) fun v σ H Q ⟨Z, μ, ρ, S, d, R, r, ρ', e, q⟩ => by
    unfold gT at e
    split at e
    · split at e
      · rename_i ds hl
        obtain ⟨a, xs, rfl, hs, hr⟩ := rv_tup.mp r
        exact ⟨a, xs, rfl, SqT.of hs, by rw [RVL.length hr]; exact hl, Z, μ, ρ, S, ds, R, hr, ρ', e, q⟩
      · cases e
    · cases e
end

/-! ### comprehensions -/
def wipeR (ρ : Rho) : List Nat → Rho
  | [] => ρ
  | v :: vs => (wipeR ρ vs).set v none
theorem wipeR_len (ρ : Rho) : ∀ vs, (wipeR ρ vs).length = ρ.length
  | [] => rfl
  | v :: vs => by unfold wipeR; rw [List.length_set, wipeR_len ρ vs]
theorem wipeR_some {ρ : Rho} {i : Nat} {x : D} : ∀ {vs : List Nat}, (wipeR ρ vs)[i]? = some (some x) → ρ[i]? = some (some x) ∧ i ∉ vs
  | [], h => ⟨h, by simp⟩
  | v :: vs, h => by
    unfold wipeR at h
    by_cases hi : v = i
    · subst hi
      by_cases hv : v < (wipeR ρ vs).length
      · rw [List.getElem?_set_self hv] at h; cases h
      · rw [List.getElem?_eq_none (by simpa using hv)] at h; cases h
    · rw [List.getElem?_set_ne hi] at h
      obtain ⟨h1, h2⟩ := wipeR_some h
      exact ⟨h1, by simp only [List.mem_cons, not_or]; exact ⟨fun e => hi e.symm, h2⟩⟩
theorem wipe_in {σ : L2.St} {i : Nat} : ∀ {vs : List Nat}, i ∈ vs → i < σ.length → (wipe σ vs)[i]? = some none
  | [], h, _ => by cases h
  | v :: vs, h, hl => by
    unfold wipe
    by_cases hi : v = i
    · subst hi
      rw [List.getElem?_set_self (by rw [wipe_length]; exact hl)]
    · rw [List.getElem?_set_ne hi]
      exact wipe_in ((List.mem_cons.mp h).resolve_left fun e => hi e.symm) hl
theorem wipe_eq {σ σ' : L2.St} {vs : List Nat} (hl : σ'.length = σ.length) (h : ∀ j, j ∉ vs → σ'[j]? = σ[j]?) : wipe σ' vs = wipe σ vs := by
  apply List.ext_getElem?
  intro i
  by_cases hi : i ∈ vs
  · by_cases hl' : i < σ.length
    · rw [wipe_in hi hl', wipe_in hi (by rw [hl]; exact hl')]
    · rw [List.getElem?_eq_none (by rw [wipe_length]; omega), List.getElem?_eq_none (by rw [wipe_length]; omega)]
  · rw [wipe_out hi, wipe_out hi, h i hi]
theorem wipe_wipe {σ : L2.St} {vs : List Nat} : wipe (wipe σ vs) vs = wipe σ vs := wipe_eq (wipe_length σ vs) fun j hj => wipe_out hj
section
variable {K : PySem.W.Frag} {Z : Fr} {μ : List Addr} {H H' : Hp} {S : Sto} {σ : L2.St} {ρ : Rho}
theorem Rel.wipe (R : Rel K Z μ σ H ρ S) (vs : List Nat) : Rel K Z μ (L2.wipe σ vs) H (wipeR ρ vs) S :=
  ⟨R.wd, by rw [wipeR_len, wipe_length]; exact R.len, fun i d h => by
    obtain ⟨h1, h2⟩ := wipeR_some h
    rw [wipe_out h2]
    exact R.env i d h1⟩
/-- one place more that values may not lean on -/
def Fr.plus (Z : Fr) (b : Addr) : Fr := { Z with A := fun a => Z.A a ∨ a = b }
theorem RV.plus {b : Addr} (s : Same H H') (n : H b = none) {d : D} {v : V} (h : RVz K Z μ H d v) : RVz K (Z.plus b) μ H' d v :=
  RV.tr (fun a o e hn => ⟨s a o e, fun m q => by
    rcases q with (q | q) | q
    · exact hn m (.inl q)
    · subst q; rw [n] at e; cases e
    · exact hn m (.inr q)⟩) (fun _ _ e => e) d v h
theorem RVL.plus {b : Addr} (s : Same H H') (n : H b = none) {d : List D} {v : List V} (h : RVLz K Z μ H d v) : RVLz K (Z.plus b) μ H' d v :=
  RVL.tr (fun a o e hn => ⟨s a o e, fun m q => by
    rcases q with (q | q) | q
    · exact hn m (.inl q)
    · subst q; rw [n] at e; cases e
    · exact hn m (.inr q)⟩) (fun _ _ e => e) d v h
theorem RC.plus {a b : Addr} {c : Cell} (s : Same H H') (n : H b = none) (h : RC K Z μ H a c) : RC K (Z.plus b) μ H' a c := by
  cases c with
  | lst ds => obtain ⟨xs, q, r⟩ := h; exact ⟨xs, s _ _ q, RVL.plus s n r⟩
  | dic t ks vs =>
    rcases h with ⟨t, kvs, q, e, r⟩ | ⟨t, kvs, q, e, r⟩
    · exact .inl ⟨t, kvs, s _ _ q, e, RVL.plus s n r⟩
    · exact .inr ⟨t, kvs, s _ _ q, e, RVL.plus s n r⟩
  | ins c fs vs => obtain ⟨C, dx, fvs, q, k, e, r⟩ := h; exact ⟨C, dx, fvs, s _ _ q, k, e, RVL.plus s n r⟩
theorem Rel.plus {b : Addr} (R : Rel K Z μ σ H ρ S) (s : Same H H') (n : H b = none) (t : H' b ≠ none) : Rel K (Z.plus b) μ σ H' ρ S := by
  refine ⟨⟨R.wd.len, R.wd.nd, fun i c a h1 h2 => (R.wd.cell i c a h1 h2).plus s n, fun a o e => s _ _ (R.wd.base a o e), R.wd.dis, fun a h => ?_, fun a h q => ?_, R.wd.root⟩, R.len, fun i d h => ?_⟩
  · rcases h with h | h
    · exact (R.wd.mono s).av a h
    · subst h; exact t
  · rcases q with q | q
    · exact R.wd.disA a h q
    · subst q
      obtain ⟨o, e, _⟩ := R.wd.mem h
      rw [n] at e; cases e
  · obtain ⟨v, h1, h2⟩ := R.env i d h
    exact ⟨v, h1, RV.plus s n h2⟩
end
def bYes : EB := fun _ _ => some true
def compL (g : G) (t : EB) (e : E) (ρ : Rho) (S : Sto) : List D → Option (List D)
  | [] => some []
  | d :: ds => (g d ρ).bind fun ρ1 => (t ρ1 S).bind fun b => if b then (e ρ1 S).bind fun y => (compL g t e ρ S ds).map fun ys => y :: ys else compL g t e ρ S ds
def fComp (f : EL) (vs : List Nat) (g : G) (t : EB) (e : E) : EL := fun ρ S => (f ρ S).bind fun ds => (compL g t e (wipeR ρ vs) S ds).bind fun ys => if small ys.length then some ys else none
theorem tLc_of {K : PySem.W.Frag} {f : EL} {vs vt : List Nat} {g : G} {t : EB} {e : E} (hv : ∀ i ∈ vt, i ∈ vs) {σ : L2.St} {H : Hp} {Q : VK} (h : tF K (fComp f vs g t e) σ H Q) :
    tLc (tJ K f) (tG K vt g) (tT K t) (tD K e) vs σ H Q := by
  obtain ⟨Z, μ, ρ, S, R, res, ef, q⟩ := h
  simp only [fComp, Option.bind_eq_some_iff] at ef
  obtain ⟨ds, e1, ys, e2, e3⟩ := ef
  split at e3
  case isFalse => cases e3
  rename_i hsm
  simp only [Option.some.injEq] at e3
  subst e3
  refine ⟨Z, μ, ρ, S, R, ds, e1, fun J H1 s1 it D nD => ?_⟩
  have R1 := (R.mono s1).wipe vs
  refine ⟨fun i m H => m = ds.length - i ∧ i ≤ ds.length ∧ Same H1 H ∧ ∃ acc dacc rest, H D = some (.lst acc) ∧ RVLz K (Z.plus D) μ H dacc acc ∧ compL g t e (wipeR ρ vs) S (ds.drop i) = some rest ∧ ys = dacc ++ rest,
    ⟨ds.length, by simp, Nat.zero_le _, fun c o z => by rw [upd_ne (ne_of_none z nD)]; exact z, [], [], ys, upd_same, RVL.nil', by simpa using e2, by simp⟩, ?_⟩
  rintro i m H' ⟨rfl, hi, s2, acc, dacc, rest, hD, hacc, ec, ey⟩
  obtain ⟨it1, it2⟩ := it i H' fun a o ha _ => s2 a o ha
  by_cases hlt : i < ds.length
  · obtain ⟨hgo, hyld⟩ := it1 ds[i] (List.getElem?_eq_getElem hlt)
    rw [List.drop_eq_getElem_cons hlt] at ec
    refine .inr ⟨hgo, _, fun H2 h2 => ⟨ds.length - (i + 1), by omega, rfl, hlt, h2⟩, fun x H2 hy => ?_⟩
    obtain ⟨s3, rx⟩ := hyld x H2 hy
    simp only [compL, Option.bind_eq_some_iff] at ec
    obtain ⟨ρ1, eg, b, et, ec⟩ := ec
    have R2 : Rel K (Z.plus D) μ (L2.wipe σ vs) H2 (wipeR ρ vs) S := R1.plus (s2.trans s3) nD (by rw [s3 _ _ hD]; exact fun z => by cases z)
    have rx' : RVz K (Z.plus D) μ H2 ds[i] x := RV.tr (fun a o e hn => ⟨e, fun m q => by
      rcases q with (q | q) | q
      · exact hn m (.inl (.inl q))
      · subst q; exact hn m (.inr nD)
      · exact hn m (.inl (.inr q))⟩) (fun _ _ e => e) _ _ rx
    refine ⟨Z.plus D, μ, wipeR ρ vs, S, ds[i], R2, rx', ρ1, eg, fun σ2 R3 k2 l2 => ⟨?_, ?_⟩⟩
    · exact (wipe_eq l2 fun j hj => k2 j fun h => hj (hv j h)).trans wipe_wipe
    · refine ⟨Z.plus D, μ, ρ1, S, R3, b, et, fun H3 s4 => ?_⟩
      have hD3 : H3 D = some (.lst acc) := s4 _ _ (s3 _ _ hD)
      cases b with
      | false =>
        rw [if_neg Bool.false_ne_true] at ec
        refine iteF ?_
        exact ⟨(s2.trans s3).trans s4, acc, dacc, rest, hD3, RVL.mono (s3.trans s4) hacc, ec, ey⟩
      | true =>
        rw [if_pos rfl] at ec
        refine iteT ?_
        simp only [Option.bind_eq_some_iff, Option.map_eq_some_iff] at ec
        obtain ⟨y, ee, rest', ec, rfl⟩ := ec
        refine ⟨Z.plus D, μ, ρ1, S, R3.mono s4, y, ee, fun v H4 s5 rv => ?_⟩
        have hD4 : H4 D = some (.lst acc) := s5 _ _ hD3
        have hacc4 : RVLz K (Z.plus D) μ H4 dacc acc := RVL.mono ((s3.trans s4).trans s5) hacc
        refine ⟨acc, hD4, ?_, ?_, acc ++ [v], dacc ++ [y], rest', upd_same, ?_, ec, by rw [ey]; simp⟩
        · have h1 := RVL.length hacc4
          have h2 : small ys.length = true := hsm
          have h3 : ys.length ≤ 1000000 := of_decide_eq_true h2
          have h4 : dacc.length < ys.length := by rw [ey]; simp
          have h5 : (1000000 : Nat) < sizeLine := by decide
          omega
        · intro c o z
          have z4 := s5 _ _ (s4 _ _ (s3 _ _ (s2 _ _ z)))
          rw [upd_ne (ne_of_none z nD)]
          exact z4
        · have r4 : RVLz K (Z.plus D) μ H4 (dacc ++ [y]) (acc ++ [v]) := RVL.app hacc4 (RVL.one rv)
          refine RVL.tr (fun a o e hn => ?_) (fun _ _ e => e) _ _ r4
          have ne : a ≠ D := by
            rintro rfl
            rw [hD4] at e; cases e
            exact hn rfl (.inl (.inr rfl))
          exact ⟨by rw [upd_ne ne]; exact e, hn⟩
  · have hi' : i = ds.length := by omega
    subst hi'
    simp only [List.drop_length, compL, Option.some.injEq] at ec
    subst ec
    rw [List.append_nil] at ey
    subst ey
    refine .inl ⟨it2 (Nat.le_refl _), q D acc H' (s1.free nD) (s1.trans s2) hD ?_⟩
    exact RVL.tr (fun a o e hn => ⟨e, fun m q => by
      rcases q with (q | q) | q
      · exact hn m (.inl (.inl q))
      · exact hn m (.inr q)
      · exact hn m (.inl (.inr q))⟩) (fun _ _ e => e) _ _ hacc
section
variable {X : Cx} {elt tg iter : Expr} {ifs : List Expr} {scope : Scope} {own : List (Str × Nat)} {pos : Pos}
theorem dts_nil : PTs X [] (tT X.K bYes) := ⟨fun pins s σ H Q I ⟨Z, μ, ρ, S, R, b, e, q⟩ => pts_nil.run pins s σ H Q I (by
  simp only [bYes, Option.some.injEq] at e
  subst e
  exact q H (Same.refl H))⟩
theorem dts_one {c : Expr} {t : EB} (h : PT X c (tT X.K t)) : PTs X [c] (tT X.K t) := pts_one h
theorem d_comp {f : EL} {vt : List Nat} {g : G} {t : EB} {e : E} (hc : X.calm = true) (hN : X.N.Nodup) (hi : PI X tg iter (tJ X.K f)) (ok : BlkOk X.N X.env.scope scope own)
    (hg : ∀ (s : Shared) (H : Hp) (C : Addr) (cl : List (Str × Addr)) (fp : List Addr), PG (X.blk s H scope (compEnvC scope cl C X.env) fp) tg (tG X.K vt g)) (ht : ∀ (s : Shared) (H : Hp) (C : Addr) (cl : List (Str × Addr)) (fp : List Addr), PTs (X.blk s H scope (compEnvC scope cl C X.env) fp) ifs (tT X.K t))
    (he : ∀ (s : Shared) (H : Hp) (C : Addr) (cl : List (Str × Addr)) (fp : List Addr), PE (X.blk s H scope (compEnvC scope cl C X.env) fp) elt (tD X.K e)) (hv : ∀ i ∈ vt, i ∈ own.map (·.2) := by decide) (hs : ∀ x, foldedSetIterable iter X.env x = pure x := by intro _; rfl) :
    PE X (.ListComp elt [⟨tg, iter, ifs, 0⟩] scope pos) (tF X.K (fComp f (own.map (·.2)) g t e)) :=
  pe_imp (pe_lc hc hN hi ok hg ht he hs) fun _ _ _ h => tLc_of hv h
end
end DL

set_option maxHeartbeats 4000000
namespace DL
open PySem PySem.Spec L2

/-! ### statements -/
inductive Fl where
  | nx | bk | ct | rt (d : D) | rf (ds : List D)
abbrev T := Rho → Sto → Option (Fl × Rho × Sto)
def cont (K : PySem.W.Frag) (Z : Fr) (De : Ends) (ρ : Rho) (S : Sto) : Fl → Prop
  | .nx => ∀ σ H μ, Rel K Z μ σ H ρ S → De.nx σ H
  | .bk => ∀ σ H μ, Rel K Z μ σ H ρ S → De.bk σ H
  | .ct => ∀ σ H μ, Rel K Z μ σ H ρ S → De.ct σ H
  | .rt d => ∀ v σ H μ, Rel K Z μ σ H ρ S → RVz K Z μ H d v → De.rt v H
  | .rf ds => ∀ a xs σ H μ, Rel K Z μ σ H ρ S → Z.Hb a = none → ¬ avd Z μ a → H a = some (.lst xs) → RVL K (avO Z μ a) μ H ds xs → De.rt (.ref a) H
def tS (K : PySem.W.Frag) (f : T) : TS := fun De σ H => ∃ Z μ ρ S, Rel K Z μ σ H ρ S ∧ ∃ fl ρ' S', f ρ S = some (fl, ρ', S') ∧ cont K Z De ρ' S' fl
def sSkip : T := fun ρ S => some (.nx, ρ, S)
def sBrk : T := fun ρ S => some (.bk, ρ, S)
def sCnt : T := fun ρ S => some (.ct, ρ, S)
def sSeq (f g : T) : T := fun ρ S => (f ρ S).bind fun r => match r with
  | (.nx, ρ', S') => g ρ' S'
  | r => some r
def sSet (i : Nat) (f : E) : T := fun ρ S => (f ρ S).map fun d => (.nx, ρ.set i (some d), S)
/-- a new list that the def will change -/
def sNew (i : Nat) (f : EL) : T := fun ρ S => (f ρ S).map fun ds => (.nx, ρ.set i (some (.ref S.length)), S ++ [.lst ds])
def sDrop (f : E) : T := fun ρ S => (f ρ S).map fun _ => (.nx, ρ, S)
def sRet (f : E) : T := fun ρ S => (f ρ S).map fun d => (.rt d, ρ, S)
def sRetF (f : EL) : T := fun ρ S => (f ρ S).map fun d => (.rf d, ρ, S)
def sIf (t : EB) (f g : T) : T := fun ρ S => (t ρ S).bind fun b => if b then f ρ S else g ρ S
def loopL (g : G) (body : T) : List D → T
  | [], ρ, S => some (.nx, ρ, S)
  | d :: ds, ρ, S => (g d ρ).bind fun ρ1 => (body ρ1 S).bind fun r => match r with
    | (.nx, ρ', S') => loopL g body ds ρ' S'
    | (.ct, ρ', S') => loopL g body ds ρ' S'
    | (.bk, ρ', S') => some (.nx, ρ', S')
    | r => some r
def sFor (f : EL) (g : G) (body : T) : T := fun ρ S => (f ρ S).bind fun ds => loopL g body ds ρ S
def whileN (t : EB) (body : T) : Nat → T
  | 0, _, _ => none
  | n + 1, ρ, S => (t ρ S).bind fun b => if b then (body ρ S).bind fun r => match r with
      | (.nx, ρ', S') => whileN t body n ρ' S'
      | (.ct, ρ', S') => whileN t body n ρ' S'
      | (.bk, ρ', S') => some (.nx, ρ', S')
      | r => some r
    else some (.nx, ρ, S)
open Classical in
noncomputable def sWhile (t : EB) (body : T) : T := fun ρ S => if h : ∃ n r, whileN t body n ρ S = some r then some h.choose_spec.choose else none
theorem whileN_mono {t : EB} {body : T} : ∀ {n m : Nat} {ρ : Rho} {S : Sto} {r : Fl × Rho × Sto}, n ≤ m → whileN t body n ρ S = some r → whileN t body m ρ S = some r
  | 0, _, _, _, _, _, h => by simp [whileN] at h
  | n + 1, 0, _, _, _, hm, _ => by omega
  | n + 1, m + 1, ρ, S, r, hm, h => by
    simp only [whileN, Option.bind_eq_some_iff] at h ⊢
    obtain ⟨b, e1, h⟩ := h
    refine ⟨b, e1, ?_⟩
    cases b with
    | false => exact h
    | true =>
      rw [if_pos rfl] at h ⊢
      rw [Option.bind_eq_some_iff] at h ⊢
      obtain ⟨⟨fl, ρ', S'⟩, e2, h⟩ := h
      refine ⟨_, e2, ?_⟩
      cases fl with
      | nx => exact whileN_mono (by omega) h
      | ct => exact whileN_mono (by omega) h
      | _ => exact h
theorem sWhile_of {t : EB} {body : T} {n : Nat} {ρ : Rho} {S : Sto} {r : Fl × Rho × Sto} (h : whileN t body n ρ S = some r) : sWhile t body ρ S = some r := by
  have hx : ∃ n r, whileN t body n ρ S = some r := ⟨n, r, h⟩
  unfold sWhile
  rw [dif_pos hx]
  have h2 := hx.choose_spec.choose_spec
  have a := whileN_mono (Nat.le_max_left n hx.choose) h
  have b := whileN_mono (Nat.le_max_right n hx.choose) h2
  rw [a] at b
  exact b.symm
theorem of_sWhile {t : EB} {body : T} {ρ : Rho} {S : Sto} {r : Fl × Rho × Sto} (h : sWhile t body ρ S = some r) : ∃ n, whileN t body n ρ S = some r := by
  unfold sWhile at h
  split at h
  · rename_i hx
    simp only [Option.some.injEq] at h
    rw [← h]
    exact ⟨_, hx.choose_spec.choose_spec⟩
  · cases h

section
variable {K : PySem.W.Frag} {Z : Fr} {μ μ' : List Addr} {H H1 H' : Hp} {S S' : Sto} {σ σ' : L2.St} {ρ ρ' : Rho}
/-- the frame of a loop: what stood at its start, but the cells -/
def Fr.rb (Z : Fr) (μ : List Addr) (H : Hp) : Fr := { Z with Hb := fun a => if a ∈ μ then none else H a, μ0 := μ }
theorem RC.fr {Z' : Fr} (hA : Z'.A = Z.A) {a : Addr} {c : Cell} (h : RC K Z μ H a c) : RC K Z' μ H a c := by
  have e : avd Z' μ = avd Z μ := by unfold avd; rw [hA]
  cases c with
  | lst ds => obtain ⟨xs, q, r⟩ := h; exact ⟨xs, q, by unfold RVLz; rw [e]; exact r⟩
  | dic t ks vs =>
    rcases h with ⟨t, kvs, q, k, r⟩ | ⟨t, kvs, q, k, r⟩
    · exact .inl ⟨t, kvs, q, k, by unfold RVLz; rw [e]; exact r⟩
    · exact .inr ⟨t, kvs, q, k, by unfold RVLz; rw [e]; exact r⟩
  | ins c fs vs => obtain ⟨C, dx, fvs, q, k, f, r⟩ := h; exact ⟨C, dx, fvs, q, k, f, by unfold RVLz; rw [e]; exact r⟩
theorem Rel.rb (R : Rel K Z μ σ H ρ S) : Rel K (Z.rb μ H) μ σ H ρ S := by
  refine ⟨⟨R.wd.len, R.wd.nd, fun n c a h1 h2 => RC.fr rfl (R.wd.cell n c a h1 h2), fun a o e => ?_, fun a h => ?_, R.wd.av, R.wd.disA, List.prefix_refl μ⟩, R.len, R.env⟩
  · have e' : (if a ∈ μ then none else H a) = some o := e
    split at e'
    · cases e'
    · exact e'
  · show (if a ∈ μ then none else H a) = none
    rw [if_pos h]
theorem rb_none (W : Wd K Z μ H S) {a : Addr} (h : (Z.rb μ H).Hb a = none) : Z.Hb a = none := by
  cases q : Z.Hb a with
  | none => rfl
  | some o =>
    have h' : (if a ∈ μ then none else H a) = none := h
    have nm : ¬ a ∈ μ := fun m => by rw [W.dis a m] at q; cases q
    rw [if_neg nm, W.base a o q] at h'
    cases h'
theorem Rel.ub (W : Wd K Z μ H S) (R : Rel K (Z.rb μ H) μ' σ' H' ρ' S') : Rel K Z μ' σ' H' ρ' S' := by
  refine ⟨⟨R.wd.len, R.wd.nd, fun n c a h1 h2 => RC.fr (Z := Z.rb μ H) rfl (R.wd.cell n c a h1 h2), fun a o e => ?_, fun a h => rb_none W (R.wd.dis a h), R.wd.av, R.wd.disA, W.root.trans R.wd.root⟩, R.len, R.env⟩
  refine R.wd.base a o ?_
  show (if a ∈ μ then none else H a) = some o
  have nm : ¬ a ∈ μ := fun m => by rw [W.dis a m] at e; cases e
  rw [if_neg nm]
  exact W.base a o e
/-- between the start of a loop and now all stands but the cells -/
theorem Rel.kept (W : Wd K Z μ H S) (R : Rel K (Z.rb μ H) μ' σ' H' ρ' S') : ∀ a o, H a = some o → ¬ a ∈ μ → H' a = some o := fun a o e nm => R.wd.base a o (by
  show (if a ∈ μ then none else H a) = some o
  rw [if_neg nm]; exact e)
theorem RV.later (W : Wd K Z μ H S) (R : Rel K (Z.rb μ H) μ' σ' H' ρ' S') {H2 : Hp} (s : Same H' H2) {d : D} {v : V} (h : RV K (fun a => avd Z μ a ∨ H a = none) μ H2 d v) : RVz K (Z.rb μ H) μ' H2 d v := by
  refine RV.tr (fun a o e hn => ⟨e, fun m q => ?_⟩) (fun n a e => ?_) d v h
  · rcases q with q | q
    · exact hn m (.inl (.inl q))
    · by_cases hm : a ∈ μ
      · exact hn m (.inl (.inr hm))
      · refine hn m (.inr ?_)
        have z := R.wd.dis a q
        have z' : (if a ∈ μ then none else H a) = none := z
        rw [if_neg hm] at z'
        exact z'
  · obtain ⟨t, ht⟩ := R.wd.root
    have ht' : μ ++ t = μ' := ht
    rw [← ht', List.getElem?_append_left (List.getElem?_eq_some_iff.mp e).1]
    exact e
theorem cont_ub (W : Wd K Z μ H S) {De : Ends} {fl : Fl} (h : cont K Z De ρ' S' fl) : cont K (Z.rb μ H) De ρ' S' fl := by
  cases fl with
  | nx => exact fun σ H' μ' R => h σ H' μ' (R.ub W)
  | bk => exact fun σ H' μ' R => h σ H' μ' (R.ub W)
  | ct => exact fun σ H' μ' R => h σ H' μ' (R.ub W)
  | rt d => exact fun v σ H' μ' R r => h v σ H' μ' (R.ub W) r
  | rf ds => exact fun a xs σ H' μ' R n na h1 r => h a xs σ H' μ' (R.ub W) (rb_none W n) na h1 r
/-- the body's ends within a loop -/
theorem cont_loop {De : Ends} {N : L2.St → Hp → Prop} {fl : Fl} (h : ∀ r, (match fl with | .nx => none | .ct => none | .bk => some Fl.nx | f => some f) = some r → cont K Z De ρ' S' r)
    (hN : (fl = .nx ∨ fl = .ct) → ∀ σ H μ, Rel K Z μ σ H ρ' S' → N σ H) : cont K Z { De with nx := N, ct := N, bk := De.nx } ρ' S' fl := by
  cases fl with
  | nx => exact fun σ H μ R => hN (.inl rfl) σ H μ R
  | ct => exact fun σ H μ R => hN (.inr rfl) σ H μ R
  | bk => exact h .nx rfl
  | rt d => exact h (.rt d) rfl
  | rf d => exact h (.rf d) rfl
end

section
variable {X : Cx} {st : Stmt} {rest body ss : List Stmt} {e c : Expr} {pos : Pos} {f g : T} {fa : E} {fl : EL} {t : EB}
theorem dss_nil : PSs X [] (tS X.K sSkip) := pss_imp pss_nil fun De σ H ⟨Z, μ, ρ, S, R, fl, ρ', S', e, q⟩ => by
  simp only [sSkip, Option.some.injEq, Prod.mk.injEq] at e
  obtain ⟨rfl, rfl, rfl⟩ := e
  exact q σ H μ R
theorem dss_one (h : PS X st (tS X.K f)) : PSs X [st] (tS X.K f) := pss_one h
theorem dss_cons (h1 : PS X st (tS X.K f)) (h2 : PSs X rest (tS X.K g)) : PSs X (st :: rest) (tS X.K (sSeq f g)) :=
  pss_imp (pss_cons h1 h2) fun De σ H ⟨Z, μ, ρ, S, R, fl, ρ', S', e, q⟩ => by
    simp only [sSeq, Option.bind_eq_some_iff] at e
    obtain ⟨⟨fl1, ρ1, S1⟩, e1, e2⟩ := e
    refine ⟨Z, μ, ρ, S, R, fl1, ρ1, S1, e1, ?_⟩
    cases fl1 with
    | nx => exact fun σ1 H1 μ1 R1 => ⟨Z, μ1, ρ1, S1, R1, fl, ρ', S', e2, q⟩
    | bk => simp only [Option.some.injEq, Prod.mk.injEq] at e2; obtain ⟨rfl, rfl, rfl⟩ := e2; exact q
    | ct => simp only [Option.some.injEq, Prod.mk.injEq] at e2; obtain ⟨rfl, rfl, rfl⟩ := e2; exact q
    | rt d => simp only [Option.some.injEq, Prod.mk.injEq] at e2; obtain ⟨rfl, rfl, rfl⟩ := e2; exact q
    | rf d => simp only [Option.some.injEq, Prod.mk.injEq] at e2; obtain ⟨rfl, rfl, rfl⟩ := e2; exact q
theorem ds_pass : PS X (.Pass pos) (tS X.K sSkip) := ps_imp ps_pass fun De σ H ⟨Z, μ, ρ, S, R, fl, ρ', S', e, q⟩ => by
  simp only [sSkip, Option.some.injEq, Prod.mk.injEq] at e
  obtain ⟨rfl, rfl, rfl⟩ := e
  exact q σ H μ R
theorem ds_break : PS X (.Break pos) (tS X.K sBrk) := ps_imp ps_break fun De σ H ⟨Z, μ, ρ, S, R, fl, ρ', S', e, q⟩ => by
  simp only [sBrk, Option.some.injEq, Prod.mk.injEq] at e
  obtain ⟨rfl, rfl, rfl⟩ := e
  exact q σ H μ R
theorem ds_continue : PS X (.Continue pos) (tS X.K sCnt) := ps_imp ps_continue fun De σ H ⟨Z, μ, ρ, S, R, fl, ρ', S', e, q⟩ => by
  simp only [sCnt, Option.some.injEq, Prod.mk.injEq] at e
  obtain ⟨rfl, rfl, rfl⟩ := e
  exact q σ H μ R
/-- a statement that never comes to be done -/
def sNever : T := fun _ _ => none
theorem ds_never : PS X st (tS X.K sNever) := ps_imp ps_never fun De σ H ⟨Z, μ, ρ, S, R, fl, ρ', S', e, q⟩ => by
  simp [sNever] at e
/-- x = e, by any rule of it -/
theorem ds_setA {te : TE} {i : Nat} (h : PS X st (tAsg te (L2.gName i))) (hi : ∀ σ H Q, tD X.K fa σ H Q → te σ H Q) : PS X st (tS X.K (sSet i fa)) :=
  ps_imp h fun De σ H ⟨Z, μ, ρ, S, R, fl, ρ', S', e, q⟩ => by
    simp only [sSet, Option.map_eq_some_iff, Prod.mk.injEq] at e
    obtain ⟨d, e1, rfl, rfl, rfl⟩ := e
    exact hi _ _ _ ⟨Z, μ, ρ, S, R, d, e1, fun v H' s r => q _ H' μ ((R.mono s).set r)⟩
theorem ds_newA {te : TE} {i : Nat} (h : PS X st (tAsg te (L2.gName i))) (hi : ∀ σ H Q, tF X.K fl σ H Q → te σ H Q) : PS X st (tS X.K (sNew i fl)) :=
  ps_imp h fun De σ H ⟨Z, μ, ρ, S, R, fl', ρ', S', e, q⟩ => by
    simp only [sNew, Option.map_eq_some_iff, Prod.mk.injEq] at e
    obtain ⟨ds, e1, rfl, rfl, rfl⟩ := e
    refine hi _ _ _ ⟨Z, μ, ρ, S, R, ds, e1, fun a xs H' n s h1 r => q _ H' (μ ++ [a]) ?_⟩
    have r1 : RC X.K Z (μ ++ [a]) H' a (.lst ds) := ⟨xs, h1, RVL.tr (fun b o e hn => ⟨e, fun m z => by
      rcases z with z | z
      · exact hn m (.inl (.inl z))
      · rcases List.mem_append.mp z with z | z
        · exact hn m (.inl (.inr z))
        · exact hn m (.inr (by simpa using z))⟩) (fun k b e => by rw [List.getElem?_append_left (List.getElem?_eq_some_iff.mp e).1]; exact e) _ _ r⟩
    refine (R.alloc s n r1).set (rv_ref.mpr ⟨a, rfl, ?_⟩)
    rw [R.wd.len, List.getElem?_append_right (Nat.le_refl _)]
    simp
theorem tF_tD {K : PySem.W.Frag} {te : TE} (hi : ∀ σ H Q, tF K fl σ H Q → te σ H Q) : ∀ σ H Q, tD K (fun ρ S => (fl ρ S).map .lst) σ H Q → te σ H Q := fun σ H Q ⟨Z, μ, ρ, S, R, d, e, q⟩ => by
  rw [Option.map_eq_some_iff] at e
  obtain ⟨ds, e1, rfl⟩ := e
  exact hi _ _ _ ⟨Z, μ, ρ, S, R, ds, e1, fun a xs H' n s h1 h2 => q _ _ s (RV.lst_of R.wd n h1 h2)⟩
def eF (f : EL) : E := fun ρ S => (f ρ S).map .lst
theorem d_F (h : PE X e (tF X.K fl)) : PE X e (tD X.K (eF fl)) := d_ofF h
section
variable {i : Nat} {x : Str} {pos' : Pos}
theorem ds_set (hN : X.N.Nodup) (hi : X.N[i]? = some x) (hx : Loc X.env.scope x) (he : PE X e (tD X.K fa)) (hs : swapsWith e (some (.Name x pos')) pos.line X.env = pure false := by rfl) (hf : X.fn x = true ∨ X.env.scope.names.lookup x = some .local := by first | exact .inl rfl | exact .inr rfl | assumption) :
    PS X (.Assign [.Name x pos'] e pos) (tS X.K (sSet i fa)) := ds_setA (ps_set hN hi hx he hs hf) fun _ _ _ h => h
theorem ds_new (hN : X.N.Nodup) (hi : X.N[i]? = some x) (hx : Loc X.env.scope x) (he : PE X e (tF X.K fl)) (hs : swapsWith e (some (.Name x pos')) pos.line X.env = pure false := by rfl) (hf : X.fn x = true ∨ X.env.scope.names.lookup x = some .local := by first | exact .inl rfl | exact .inr rfl | assumption) :
    PS X (.Assign [.Name x pos'] e pos) (tS X.K (sNew i fl)) := ds_newA (ps_set hN hi hx he hs hf) fun _ _ _ h => h
end
section
variable {i : Nat} {y : Str} {py : Pos} {elt tg iter : Expr} {ifs : List Expr} {scope : Scope} {own : List (Str × Nat)} {spos : Pos} {vt : List Nat} {g : G} {e : E}
/-- x = [..]: the model's own statement -/
theorem ds_setLc (hc : X.calm = true) (hN : X.N.Nodup) (hy : X.N[i]? = some y) (hyl : X.env.scope.names.lookup y = some .local)
    (hsw : swapsWith (.ListComp elt [⟨tg, iter, ifs, 0⟩] scope pos) (some (.Name y py)) spos.line X.env = pure true) (hi : PI X tg iter (tJ X.K fl)) (ok : BlkOk X.N X.env.scope scope own)
    (hg : ∀ (s : Shared) (H : Hp) (C : Addr) (cl : List (Str × Addr)) (fp : List Addr), PG (X.blk s H scope (compEnvC scope cl C X.env) fp) tg (tG X.K vt g)) (ht : ∀ (s : Shared) (H : Hp) (C : Addr) (cl : List (Str × Addr)) (fp : List Addr), PTs (X.blk s H scope (compEnvC scope cl C X.env) fp) ifs (tT X.K t))
    (he : ∀ (s : Shared) (H : Hp) (C : Addr) (cl : List (Str × Addr)) (fp : List Addr), PE (X.blk s H scope (compEnvC scope cl C X.env) fp) elt (tD X.K e)) (hv : ∀ i ∈ vt, i ∈ own.map (·.2) := by decide) (hs : ∀ x, foldedSetIterable iter X.env x = pure x := by intro _; rfl) :
    PS X (.Assign [.Name y py] (.ListComp elt [⟨tg, iter, ifs, 0⟩] scope pos) spos) (tS X.K (sSet i (eF (fComp fl (own.map (·.2)) g t e)))) :=
  ds_setA (ps_setLc hc hN hy hyl hsw hi ok hg ht he hs) (tF_tD fun _ _ _ h => tLc_of hv h)
theorem ds_newLc (hc : X.calm = true) (hN : X.N.Nodup) (hy : X.N[i]? = some y) (hyl : X.env.scope.names.lookup y = some .local)
    (hsw : swapsWith (.ListComp elt [⟨tg, iter, ifs, 0⟩] scope pos) (some (.Name y py)) spos.line X.env = pure true) (hi : PI X tg iter (tJ X.K fl)) (ok : BlkOk X.N X.env.scope scope own)
    (hg : ∀ (s : Shared) (H : Hp) (C : Addr) (cl : List (Str × Addr)) (fp : List Addr), PG (X.blk s H scope (compEnvC scope cl C X.env) fp) tg (tG X.K vt g)) (ht : ∀ (s : Shared) (H : Hp) (C : Addr) (cl : List (Str × Addr)) (fp : List Addr), PTs (X.blk s H scope (compEnvC scope cl C X.env) fp) ifs (tT X.K t))
    (he : ∀ (s : Shared) (H : Hp) (C : Addr) (cl : List (Str × Addr)) (fp : List Addr), PE (X.blk s H scope (compEnvC scope cl C X.env) fp) elt (tD X.K e)) (hv : ∀ i ∈ vt, i ∈ own.map (·.2) := by decide) (hs : ∀ x, foldedSetIterable iter X.env x = pure x := by intro _; rfl) :
    PS X (.Assign [.Name y py] (.ListComp elt [⟨tg, iter, ifs, 0⟩] scope pos) spos) (tS X.K (sNew i (fComp fl (own.map (·.2)) g t e))) :=
  ds_newA (ps_setLc hc hN hy hyl hsw hi ok hg ht he hs) fun _ _ _ h => tLc_of hv h
end
/-- targets of any kind -/
def sAsg (f : E) (g : G) : T := fun ρ S => (f ρ S).bind fun d => (g d ρ).map fun ρ' => (.nx, ρ', S)
theorem ds_asg {tg : Expr} {g : G} {vs : List Nat} (he : PE X e (tD X.K fa)) (hg : PG X tg (tG X.K vs g)) (hs : swapsWithSole [tg] e pos.line X.env = pure false := by rfl) (hw : swappedStores [tg] e X.env = pure none := by rfl)
    (h1 : (assignEach [tg] X.env).map (·.2) = [assign tg X.env] := by rfl) : PS X (.Assign [tg] e pos) (tS X.K (sAsg fa g)) :=
  ps_imp (ps_asg he hg hs hw h1) fun De σ H ⟨Z, μ, ρ, S, R, fl, ρ', S', e, q⟩ => by
    simp only [sAsg, Option.bind_eq_some_iff, Option.map_eq_some_iff, Prod.mk.injEq] at e
    obtain ⟨d, e1, ρ1, e2, rfl, rfl, rfl⟩ := e
    exact ⟨Z, μ, ρ, S, R, d, e1, fun v H' s r => ⟨Z, μ, ρ, S, d, R.mono s, r, ρ1, e2, fun σ1 R1 _ _ => q σ1 H' μ R1⟩⟩
/-- a, b = x, y -/
def sPar (i j : Nat) (fs : EL) : T := fun ρ S => (fs ρ S).bind fun ds => match ds with
  | [d, e] => some (.nx, (ρ.set i (some d)).set j (some e), S)
  | _ => none
theorem ds_par {i j : Nat} {x y : Str} {a b : Expr} {fs : EL} {px py pt : Pos} {kt k2 pt2} (hc : X.calm = true) (hN : X.N.Nodup) (hi : X.N[i]? = some x) (hj : X.N[j]? = some y) (hij : i ≠ j)
    (hx : X.env.scope.names.lookup x = some .local) (hy : X.env.scope.names.lookup y = some .local) (ha : PA X [a, b] (tA X.K fs))
    (hw : swappedStores [.Tuple [.Name x px, .Name y py] kt pt] (.Tuple [a, b] k2 pt2) X.env = pure (some [x, y]))
    (hs : swapsWithSole [.Tuple [.Name x px, .Name y py] kt pt] (.Tuple [a, b] k2 pt2) pos.line X.env = pure false := by rfl) :
    PS X (.Assign [.Tuple [.Name x px, .Name y py] kt pt] (.Tuple [a, b] k2 pt2) pos) (tS X.K (sPar i j fs)) :=
  ps_imp (ps_par hc hN hi hj hij hx hy ha hw hs) fun De σ H ⟨Z, μ, ρ, S, R, fl, ρ', S', e, q⟩ => by
    simp only [sPar, Option.bind_eq_some_iff] at e
    obtain ⟨ds, e1, e2⟩ := e
    refine ⟨Z, μ, ρ, S, R, ds, e1, fun vs H1 s1 r1 => ?_⟩
    split at e2
    · simp only [Option.some.injEq, Prod.mk.injEq] at e2
      obtain ⟨rfl, rfl, rfl⟩ := e2
      obtain ⟨v, u, rfl, rv, ru⟩ := rvl2 r1
      exact ⟨v, u, rfl, q _ H1 μ (((R.mono s1).set rv).set ru)⟩
    · cases e2
/-- n += e of ints -/
def sAugI (i : Nat) (f : E) : T := fun ρ S => (f ρ S).bind fun d => match ρ[i]?, d with
  | some (some (.int a)), .int b => some (.nx, ρ.set i (some (.int (a + b))), S)
  | _, _ => none
theorem ds_aug {i : Nat} {x : Str} {pos' : Pos} (hN : X.N.Nodup) (hi : X.N[i]? = some x) (hx : Loc X.env.scope x) (he : PE X e (tD X.K fa)) (hf : X.fn x = true ∨ X.env.scope.names.lookup x = some .local := by first | exact .inl rfl | exact .inr rfl | assumption) :
    PS X (.AugAssign (.Name x pos') .Add e pos) (tS X.K (sAugI i fa)) :=
  ps_imp (ps_aug hN hi hx he ip_add hf) fun De σ H ⟨Z, μ, ρ, S, R, fl, ρ', S', e, q⟩ => by
    simp only [sAugI, Option.bind_eq_some_iff] at e
    obtain ⟨d, e1, e2⟩ := e
    split at e2
    · rename_i a b ha
      simp only [Option.some.injEq, Prod.mk.injEq] at e2
      obtain ⟨rfl, rfl, rfl⟩ := e2
      obtain ⟨v, h1, h2⟩ := R.env i _ ha
      rw [rv_int.mp h2] at h1
      refine ⟨_, h1, Z, μ, ρ, S, R, _, e1, fun u H1 s1 r1 => ?_⟩
      rw [rv_int.mp r1]
      exact ⟨_, _, rfl, rfl, q _ H1 μ ((R.mono s1).set (rv_int.mpr rfl))⟩
    · cases e2
theorem ds_expr (he : PE X e (tD X.K fa)) (hs : swapsWith e none pos.line X.env = pure false := by rfl) : PS X (.Expr e pos) (tS X.K (sDrop fa)) :=
  ps_imp (ps_expr he hs) fun De σ H ⟨Z, μ, ρ, S, R, fl, ρ', S', e, q⟩ => by
    simp only [sDrop, Option.map_eq_some_iff, Prod.mk.injEq] at e
    obtain ⟨d, e1, rfl, rfl, rfl⟩ := e
    exact ⟨Z, μ, ρ, S, R, d, e1, fun v H' s r => q σ H' μ (R.mono s)⟩
theorem ds_ret (he : PE X e (tD X.K fa)) : PS X (.Return (some e) pos) (tS X.K (sRet fa)) :=
  ps_imp (ps_ret he) fun De σ H ⟨Z, μ, ρ, S, R, fl, ρ', S', e, q⟩ => by
    simp only [sRet, Option.map_eq_some_iff, Prod.mk.injEq] at e
    obtain ⟨d, e1, rfl, rfl, rfl⟩ := e
    exact ⟨Z, μ, ρ, S, R, d, e1, fun v H' s r => q v σ H' μ (R.mono s) r⟩
theorem ds_retF (he : PE X e (tF X.K fl)) : PS X (.Return (some e) pos) (tS X.K (sRetF fl)) :=
  ps_imp (ps_ret he) fun De σ H ⟨Z, μ, ρ, S, R, fl', ρ', S', e, q⟩ => by
    simp only [sRetF, Option.map_eq_some_iff, Prod.mk.injEq] at e
    obtain ⟨d, e1, rfl, rfl, rfl⟩ := e
    exact ⟨Z, μ, ρ, S, R, d, e1, fun a xs H' n s h1 r => q a xs σ H' μ (R.mono s) (R.wd.newB n) (R.wd.fresh n) h1 r⟩
theorem ds_retN : PS X (.Return none pos) (tS X.K (sRet (eC .non))) :=
  ps_imp ps_retN fun De σ H ⟨Z, μ, ρ, S, R, fl, ρ', S', e, q⟩ => by
    simp only [sRet, eC, Option.map_some, Option.some.injEq, Prod.mk.injEq] at e
    obtain ⟨rfl, rfl, rfl⟩ := e
    exact q .non σ H μ R (rv_non.mpr rfl)
theorem ds_if {a b : List Stmt} (hc : PT X c (tT X.K t)) (ha : PSs X a (tS X.K f)) (hb : PSs X b (tS X.K g)) : PS X (.If c a b pos) (tS X.K (sIf t f g)) :=
  ps_imp (ps_if hc ha hb) fun De σ H ⟨Z, μ, ρ, S, R, fl, ρ', S', e, q⟩ => by
    simp only [sIf, Option.bind_eq_some_iff] at e
    obtain ⟨k, e1, e2⟩ := e
    refine ⟨Z, μ, ρ, S, R, k, e1, fun H' s => ?_⟩
    cases k with
    | true => rw [if_pos rfl] at e2; exact iteT ⟨Z, μ, ρ, S, R.mono s, fl, ρ', S', e2, q⟩
    | false => rw [if_neg Bool.false_ne_true] at e2; exact iteF ⟨Z, μ, ρ, S, R.mono s, fl, ρ', S', e2, q⟩
theorem ds_for {iter tg : Expr} {vt : List Nat} {g : G} (hp : PassesOwn (model X.prog X.w) X.A X.env X.xe) (hc : X.calm = true) (hi : PI X tg iter (tI X.K fl)) (hg : PG X tg (tG X.K vt g)) (hb : PSs X body (tS X.K f))
    (hs : ∀ x, foldedSetIterable iter X.env x = pure x := by intro _; rfl) : PS X (.For tg iter body [] pos) (tS X.K (sFor fl g f)) :=
  ps_imp (ps_for hp hc hi hg hb hs) fun De σ H ⟨Z, μ, ρ, S, R, fl', ρ', S', e, q⟩ => by
    simp only [sFor, Option.bind_eq_some_iff] at e
    obtain ⟨ds, e1, e2⟩ := e
    refine ⟨Z, μ, ρ, S, R, ds, e1, fun J H1 s1 it => ?_⟩
    have R1 := R.mono s1
    have W1 := R1.wd
    refine ⟨fun i m σ' H' => m = ds.length - i ∧ i ≤ ds.length ∧ ∃ μ2 ρ2 S2, Rel X.K (Z.rb μ H1) μ2 σ' H' ρ2 S2 ∧ loopL g f (ds.drop i) ρ2 S2 = some (fl', ρ', S'), ⟨ds.length, by simp, Nat.zero_le _, μ, ρ, S, R1.rb, by simpa using e2⟩, ?_⟩
    rintro i m σ2 H2 ⟨rfl, hi', μ2, ρ2, S2, R2, el⟩
    obtain ⟨it1, it2⟩ := it i H2 (fun a o h nm => R2.kept W1 a o h nm)
    by_cases hlt : i < ds.length
    · obtain ⟨hgo, hyld⟩ := it1 ds[i] (List.getElem?_eq_getElem hlt)
      rw [List.drop_eq_getElem_cons hlt] at el
      simp only [loopL, Option.bind_eq_some_iff] at el
      obtain ⟨ρ3, eg, ⟨fl3, ρ4, S4⟩, eb, el⟩ := el
      refine .inr ⟨hgo, _, fun σ' H' h => ⟨ds.length - (i + 1), by omega, rfl, hlt, h⟩, fun x H3 hy => ?_⟩
      obtain ⟨s3, rx⟩ := hyld x H3 hy
      refine ⟨Z.rb μ H1, μ2, ρ2, S2, ds[i], R2.mono s3, RV.later W1 R2 s3 rx, ρ3, eg, fun σ3 R3 _ _ => ?_⟩
      refine ⟨Z.rb μ H1, μ2, ρ3, S2, R3, fl3, ρ4, S4, eb, ?_⟩
      refine cont_loop (fun r hr => ?_) (fun hf σ4 H4 μ4 R4 => ?_)
      · refine cont_ub W1 ?_
        cases fl3 with
        | nx => cases hr
        | ct => cases hr
        | bk =>
          simp only [Option.some.injEq, Prod.mk.injEq] at el hr
          obtain ⟨rfl, rfl, rfl⟩ := el
          subst hr; exact q
        | rt d =>
          simp only [Option.some.injEq, Prod.mk.injEq] at el hr
          obtain ⟨rfl, rfl, rfl⟩ := el
          subst hr; exact q
        | rf d =>
          simp only [Option.some.injEq, Prod.mk.injEq] at el hr
          obtain ⟨rfl, rfl, rfl⟩ := el
          subst hr; exact q
      · rcases hf with rfl | rfl
        · exact ⟨μ4, ρ4, S4, R4, el⟩
        · exact ⟨μ4, ρ4, S4, R4, el⟩
    · have hi2 : i = ds.length := by omega
      subst hi2
      simp only [List.drop_length, loopL, Option.some.injEq, Prod.mk.injEq] at el
      obtain ⟨rfl, rfl, rfl⟩ := el
      exact .inl ⟨it2 (Nat.le_refl _), q σ2 H2 μ2 (R2.ub W1)⟩
theorem ds_while (hp : PassesOwn (model X.prog X.w) X.A X.env X.xe) (hc : PT X c (tT X.K t)) (hb : PSs X body (tS X.K f)) : PS X (.While c body [] pos) (tS X.K (sWhile t f)) :=
  ps_imp (ps_while hp hc hb) fun De σ H ⟨Z, μ, ρ, S, R, fl', ρ', S', e, q⟩ => by
    obtain ⟨n, e⟩ := of_sWhile e
    refine ⟨fun m σ' H' => ∃ μ2 ρ2 S2, Rel X.K Z μ2 σ' H' ρ2 S2 ∧ whileN t f m ρ2 S2 = some (fl', ρ', S'), ⟨n, μ, ρ, S, R, e⟩, ?_⟩
    rintro m σ2 H2 ⟨μ2, ρ2, S2, R2, el⟩
    cases m with
    | zero => simp [whileN] at el
    | succ m =>
      simp only [whileN, Option.bind_eq_some_iff] at el
      obtain ⟨b, et, el⟩ := el
      refine ⟨Z, μ2, ρ2, S2, R2, b, et, fun H3 s3 => ?_⟩
      cases b with
      | false =>
        rw [if_neg Bool.false_ne_true] at el
        simp only [Option.some.injEq, Prod.mk.injEq] at el
        obtain ⟨rfl, rfl, rfl⟩ := el
        exact iteF (q σ2 H3 μ2 (R2.mono s3))
      | true =>
        rw [if_pos rfl] at el
        rw [Option.bind_eq_some_iff] at el
        obtain ⟨⟨fl3, ρ4, S4⟩, eb, el⟩ := el
        refine iteT ⟨_, fun σ' H' h => ⟨m, Nat.lt_succ_self m, h⟩, Z, μ2, ρ2, S2, R2.mono s3, fl3, ρ4, S4, eb, ?_⟩
        refine cont_loop (fun r hr => ?_) (fun hf σ4 H4 μ4 R4 => ?_)
        · cases fl3 with
          | nx => cases hr
          | ct => cases hr
          | bk =>
            simp only [Option.some.injEq, Prod.mk.injEq] at el hr
            obtain ⟨rfl, rfl, rfl⟩ := el
            subst hr; exact q
          | rt d =>
            simp only [Option.some.injEq, Prod.mk.injEq] at el hr
            obtain ⟨rfl, rfl, rfl⟩ := el
            subst hr; exact q
          | rf d =>
            simp only [Option.some.injEq, Prod.mk.injEq] at el hr
            obtain ⟨rfl, rfl, rfl⟩ := el
            subst hr; exact q
        · rcases hf with rfl | rfl
          · exact ⟨μ4, ρ4, S4, R4, el⟩
          · exact ⟨μ4, ρ4, S4, R4, el⟩
end

/-! ### lists that are changed -/
/-- the cell that an expression tells -/
def cellD (S : Sto) : D → Option (Nat × List D)
  | .ref n => match S[n]? with
    | some (.lst ds) => some (n, ds)
    | _ => none
  | _ => none
theorem cell_of {K : PySem.W.Frag} {Z : Fr} {μ : List Addr} {H : Hp} {S : Sto} {d : D} {n : Nat} {ds : List D} {v : V} (W : Wd K Z μ H S) (r : RVz K Z μ H d v) (h : cellD S d = some (n, ds)) :
    ∃ a xs, v = .ref a ∧ μ[n]? = some a ∧ H a = some (.lst xs) ∧ RVLz K Z μ H ds xs ∧ S[n]? = some (.lst ds) := by
  cases d with
  | ref m =>
    simp only [cellD] at h
    split at h
    · rename_i es hc
      simp only [Option.some.injEq, Prod.mk.injEq] at h
      obtain ⟨rfl, rfl⟩ := h
      obtain ⟨a, e, hn⟩ := rv_ref.mp r
      obtain ⟨xs, h1, h2⟩ := W.cell m _ a hc hn
      exact ⟨a, xs, e, hn, h1, h2, hc⟩
    · cases h
  | _ => simp [cellD] at h
theorem tyV_lst {K : PySem.W.Frag} {H : Hp} {a : Addr} {xs : List V} (h : H a = some (.lst xs)) : tyV K "list" (.ref a) H := .inl ⟨rfl, _, SqL.of h⟩
theorem Rel.wrL {K : PySem.W.Frag} {Z : Fr} {μ : List Addr} {H : Hp} {S : Sto} {σ : L2.St} {ρ : Rho} {n : Nat} {a : Addr} {ys : List V} {es : List D} (R : Rel K Z μ σ H ρ S) (hn : μ[n]? = some a) (r : RVLz K Z μ H es ys) : Rel K Z μ σ (upd H a (.lst ys)) ρ (S.set n (.lst es)) :=
  R.wr hn ⟨ys, upd_same, RVL.wr R.wd (List.mem_of_getElem? hn) r⟩
section
variable {X : Cx} {o e e2 : Expr} {pos cpos apos : Pos} {fo fa fb : E}
def sApp (fo f : E) : T := fun ρ S => (fo ρ S).bind fun o => (f ρ S).bind fun d => (cellD S o).bind fun c => if small c.2.length then some (.nx, ρ, S.set c.1 (.lst (c.2 ++ [d]))) else none
theorem small_lt {n : Nat} (h : small n = true) : n < sizeLine := Nat.lt_of_le_of_lt (of_decide_eq_true h) (by decide)
theorem ds_append (ho : PE X o (tD X.K fo)) (he : PE X e (tD X.K fa)) (hbase : attributeBase o "append" X.env (eval o X.env) = eval o X.env := by rfl)
    (hfew : ((backTo cpos (starEach [e] X.env)).all (fun x => !x.1) && (backToKw cpos (keywordEach [] X.env)).all (fun x => x.1.isSome)
      && decide ([e].length + ([] : List Keyword).length + (if ([] : List Keyword).isEmpty then 0 else 1) < 30)) = true := by rfl)
    (hline : (apos.endLine == cpos.line) = true := by rfl) (hs : starEach [e] X.env = (false, eval e X.env) :: starEach [] X.env := by rfl) (hplain : (backTo cpos (starEach [] X.env)).any (·.1) = false := by rfl) (hsw : swapsWith (.Call (.Attribute o "append" apos) [e] [] cpos) none pos.line X.env = pure false := by rfl) :
    PS X (.Expr (.Call (.Attribute o "append" apos) [e] [] cpos) pos) (tS X.K (sApp fo fa)) :=
  ps_imp (ps_expr (pe_bm PySem.F.plainAttrs_list PySem.F.slot_list_append PySem.F.type_list_append mt_append ho (pa_cons he pa_nil hs) hbase hfew hline hs hplain) hsw) fun De σ H ⟨Z, μ, ρ, S, R, fl, ρ', S', e, q⟩ => by
    simp only [sApp, Option.bind_eq_some_iff] at e
    obtain ⟨od, e1, d, e2, ⟨n, ds⟩, e3, e4⟩ := e
    split at e4
    case isFalse => cases e4
    rename_i hsm
    simp only [Option.some.injEq, Prod.mk.injEq] at e4
    obtain ⟨rfl, rfl, rfl⟩ := e4
    refine ⟨Z, μ, ρ, S, R, od, e1, fun v H1 s1 r1 => ?_⟩
    obtain ⟨a, xs, rfl, hn, h1, hr, _⟩ := cell_of (R.wd.mono s1) r1 e3
    refine ⟨tyV_lst h1, Z, μ, ρ, S, R.mono s1, d, e2, fun u H2 s2 r2 => ?_⟩
    have hr2 : RVLz X.K Z μ H2 ds xs := RVL.mono s2 hr
    refine ⟨a, xs, u, rfl, rfl, s2 _ _ h1, by rw [RVL.length hr2]; exact small_lt hsm, ?_⟩
    exact q _ _ μ (((R.mono s1).mono s2).wrL hn (RVL.app hr2 (RVL.one r2)))
def sExt (fo f : E) : T := fun ρ S => (fo ρ S).bind fun o => (f ρ S).bind fun d => (lstD S d).bind fun es => (cellD S o).bind fun c => if small (c.2.length + es.length) then some (.nx, ρ, S.set c.1 (.lst (c.2 ++ es))) else none
theorem ds_extend (ho : PE X o (tD X.K fo)) (he : PE X e (tD X.K fa)) (hbase : attributeBase o "extend" X.env (eval o X.env) = eval o X.env := by rfl)
    (hfew : ((backTo cpos (starEach [e] X.env)).all (fun x => !x.1) && (backToKw cpos (keywordEach [] X.env)).all (fun x => x.1.isSome)
      && decide ([e].length + ([] : List Keyword).length + (if ([] : List Keyword).isEmpty then 0 else 1) < 30)) = true := by rfl)
    (hline : (apos.endLine == cpos.line) = true := by rfl) (hs : starEach [e] X.env = (false, eval e X.env) :: starEach [] X.env := by rfl) (hplain : (backTo cpos (starEach [] X.env)).any (·.1) = false := by rfl) (hsw : swapsWith (.Call (.Attribute o "extend" apos) [e] [] cpos) none pos.line X.env = pure false := by rfl) :
    PS X (.Expr (.Call (.Attribute o "extend" apos) [e] [] cpos) pos) (tS X.K (sExt fo fa)) :=
  ps_imp (ps_expr (pe_bm PySem.F.plainAttrs_list PySem.F.slot_list_extend PySem.F.type_list_extend mt_extend ho (pa_cons he pa_nil hs) hbase hfew hline hs hplain) hsw) fun De σ H ⟨Z, μ, ρ, S, R, fl, ρ', S', e, q⟩ => by
    simp only [sExt, Option.bind_eq_some_iff] at e
    obtain ⟨od, e1, d, e2, es, e5, ⟨n, ds⟩, e3, e4⟩ := e
    split at e4
    case isFalse => cases e4
    rename_i hsm
    simp only [Option.some.injEq, Prod.mk.injEq] at e4
    obtain ⟨rfl, rfl, rfl⟩ := e4
    refine ⟨Z, μ, ρ, S, R, od, e1, fun v H1 s1 r1 => ?_⟩
    obtain ⟨a, xs, rfl, hn, h1, hr, _⟩ := cell_of (R.wd.mono s1) r1 e3
    refine ⟨tyV_lst h1, Z, μ, ρ, S, R.mono s1, d, e2, fun u H2 s2 r2 => ?_⟩
    have hr2 : RVLz X.K Z μ H2 ds xs := RVL.mono s2 hr
    obtain ⟨b, zs, rfl, h3, h4⟩ := lst_of ((R.wd.mono s1).mono s2) r2 e5
    refine ⟨a, b, xs, zs, rfl, rfl, s2 _ _ h1, h3, by rw [RVL.length hr2, RVL.length h4]; exact small_le hsm, ?_⟩
    exact q _ _ μ (((R.mono s1).mono s2).wrL hn (RVL.app hr2 h4))
def sIns (fo f g : E) : T := fun ρ S => (fo ρ S).bind fun o => (f ρ S).bind fun i => (g ρ S).bind fun d => (cellD S o).bind fun c => match i with
  | .int i => if small c.2.length && decide (0 ≤ i) && decide (i < 2 ^ 62) then some (.nx, ρ, S.set c.1 (.lst (c.2.take i.toNat ++ [d] ++ c.2.drop i.toNat))) else none
  | _ => none
theorem ds_insert (ho : PE X o (tD X.K fo)) (he : PE X e (tD X.K fa)) (he2 : PE X e2 (tD X.K fb)) (hbase : attributeBase o "insert" X.env (eval o X.env) = eval o X.env := by rfl)
    (hfew : ((backTo cpos (starEach [e, e2] X.env)).all (fun x => !x.1) && (backToKw cpos (keywordEach [] X.env)).all (fun x => x.1.isSome)
      && decide ([e, e2].length + ([] : List Keyword).length + (if ([] : List Keyword).isEmpty then 0 else 1) < 30)) = true := by rfl)
    (hline : (apos.endLine == cpos.line) = true := by rfl) (hs : starEach [e, e2] X.env = (false, eval e X.env) :: starEach [e2] X.env := by rfl) (hs2 : starEach [e2] X.env = (false, eval e2 X.env) :: starEach [] X.env := by rfl) (hplain : (backTo cpos (starEach [e2] X.env)).any (·.1) = false := by rfl) (hsw : swapsWith (.Call (.Attribute o "insert" apos) [e, e2] [] cpos) none pos.line X.env = pure false := by rfl) :
    PS X (.Expr (.Call (.Attribute o "insert" apos) [e, e2] [] cpos) pos) (tS X.K (sIns fo fa fb)) :=
  ps_imp (ps_expr (pe_bm PySem.F.plainAttrs_list PySem.F.slot_list_insert PySem.F.type_list_insert mt_insert ho (pa_cons he (pa_cons he2 pa_nil hs2) hs) hbase hfew hline hs hplain) hsw) fun De σ H ⟨Z, μ, ρ, S, R, fl, ρ', S', e, q⟩ => by
    simp only [sIns, Option.bind_eq_some_iff] at e
    obtain ⟨od, e1, i, e2, d, e5, ⟨n, ds⟩, e3, e4⟩ := e
    split at e4
    case h_2 => cases e4
    rename_i i
    split at e4
    case isFalse => cases e4
    rename_i hsm
    simp only [Bool.and_eq_true, decide_eq_true_eq] at hsm
    obtain ⟨⟨hsm, hi0⟩, hi1⟩ := hsm
    simp only [Option.some.injEq, Prod.mk.injEq] at e4
    obtain ⟨rfl, rfl, rfl⟩ := e4
    refine ⟨Z, μ, ρ, S, R, od, e1, fun v H1 s1 r1 => ?_⟩
    obtain ⟨a, xs, rfl, hn, h1, hr, _⟩ := cell_of (R.wd.mono s1) r1 e3
    refine ⟨tyV_lst h1, Z, μ, ρ, S, R.mono s1, _, e2, fun u H2 s2 r2 => ?_⟩
    refine ⟨Z, μ, ρ, S, (R.mono s1).mono s2, d, e5, fun w H3 s3 r3 => ?_⟩
    have hr2 : RVLz X.K Z μ H3 ds xs := RVL.mono (s2.trans s3) hr
    rw [rv_int.mp r2]
    refine ⟨a, xs, i, w, rfl, rfl, s3 _ _ (s2 _ _ h1), by rw [RVL.length hr2]; exact small_lt hsm, hi0, by omega, ?_⟩
    exact q _ _ μ ((((R.mono s1).mono s2).mono s3).wrL hn (RVL.app (RVL.app (RVL.take _ hr2) (RVL.one r3)) (RVL.drop _ hr2)))
/-- x = xs.pop() -/
def sPop (i : Nat) (fo : E) : T := fun ρ S => (fo ρ S).bind fun o => (cellD S o).bind fun c => (c.2[c.2.length - 1]?).map fun d => (.nx, ρ.set i (some d), S.set c.1 (.lst c.2.dropLast))
theorem RVL.dropLast' {K : PySem.W.Frag} {av : Addr → Prop} {μ : List Addr} {H : Hp} {ds : List D} {xs : List V} (h : RVL K av μ H ds xs) : RVL K av μ H ds.dropLast xs.dropLast := by
  rw [List.dropLast_eq_take, List.dropLast_eq_take, RVL.length h]
  exact RVL.take _ h
theorem ds_pop {i : Nat} {x : Str} {pos' : Pos} (hN : X.N.Nodup) (hi : X.N[i]? = some x) (hx : Loc X.env.scope x) (ho : PE X o (tD X.K fo)) (hbase : attributeBase o "pop" X.env (eval o X.env) = eval o X.env := by rfl)
    (hline : (apos.endLine == cpos.line) = true := by rfl)
    (hs : swapsWith (.Call (.Attribute o "pop" apos) [] [] cpos) (some (.Name x pos')) pos.line X.env = pure false := by rfl) (hf : X.fn x = true ∨ X.env.scope.names.lookup x = some .local := by first | exact .inl rfl | exact .inr rfl | assumption) :
    PS X (.Assign [.Name x pos'] (.Call (.Attribute o "pop" apos) [] [] cpos) pos) (tS X.K (sPop i fo)) :=
  ps_imp (ps_set hN hi hx (pe_bm0 PySem.F.plainAttrs_list PySem.F.slot_list_pop PySem.F.type_list_pop mt_pop ho hbase hline) hs hf) fun De σ H ⟨Z, μ, ρ, S, R, fl, ρ', S', e, q⟩ => by
    simp only [sPop, Option.bind_eq_some_iff, Option.map_eq_some_iff, Prod.mk.injEq] at e
    obtain ⟨od, e1, ⟨n, ds⟩, e3, d, e4, rfl, rfl, rfl⟩ := e
    refine ⟨Z, μ, ρ, S, R, od, e1, fun v H1 s1 r1 => ?_⟩
    obtain ⟨a, xs, rfl, hn, h1, hr, _⟩ := cell_of (R.wd.mono s1) r1 e3
    obtain ⟨y, hy, ry⟩ := RVL.get hr e4
    refine ⟨tyV_lst h1, a, xs, y, rfl, rfl, h1, by rw [RVL.length hr]; exact hy, ?_⟩
    exact q _ _ μ (((R.mono s1).wrL hn (RVL.dropLast' hr)).set (RV.wr (R.wd.mono s1) (List.mem_of_getElem? hn) ry))
/-- xs[k] = e -/
def sPut (f fo fi : E) : T := fun ρ S => (f ρ S).bind fun d => (fo ρ S).bind fun o => (fi ρ S).bind fun i => (cellD S o).bind fun c => match i with
  | .int k => (ixN c.2.length k).map fun j => (.nx, ρ, S.set c.1 (.lst (c.2.set j d)))
  | _ => none
theorem ds_put {i : Expr} {fi : E} {spos : Pos} (he : PE X e (tD X.K fa)) (ho : PE X o (tD X.K fo)) (hi : PE X i (tD X.K fi))
    (ha : ∀ v, assign (.Subscript o i spos) X.env v = (do
      let ov ← holding [v] (eval o X.env)
      let iv ← holding [v, ov] (eval i X.env)
      standAt spos
      holding [v, ov, iv] (setItem ov iv v)
      release [v, ov, iv] []) := by intro _; rfl)
    (hs : swapsWithSole [.Subscript o i spos] e pos.line X.env = pure false := by rfl) (hw : swappedStores [.Subscript o i spos] e X.env = pure none := by rfl)
    (h1 : (assignEach [.Subscript o i spos] X.env).map (·.2) = [assign (.Subscript o i spos) X.env] := by rfl) : PS X (.Assign [.Subscript o i spos] e pos) (tS X.K (sPut fa fo fi)) :=
  ps_imp (ps_asg he (pg_sub ho hi set_list ha) hs hw h1) fun De σ H ⟨Z, μ, ρ, S, R, fl, ρ', S', e, q⟩ => by
    simp only [sPut, Option.bind_eq_some_iff] at e
    obtain ⟨d, e0, od, e1, iD, e2, ⟨n, ds⟩, e3, e4⟩ := e
    split at e4
    case h_2 => cases e4
    rename_i k
    simp only [Option.map_eq_some_iff, Prod.mk.injEq] at e4
    obtain ⟨j, e5, rfl, rfl, rfl⟩ := e4
    refine ⟨Z, μ, ρ, S, R, d, e0, fun v H1 s1 r1 => ⟨Z, μ, ρ, S, R.mono s1, od, e1, fun u H2 s2 r2 => ⟨Z, μ, ρ, S, (R.mono s1).mono s2, _, e2, fun w H3 s3 r3 => ?_⟩⟩⟩
    obtain ⟨a, xs, rfl, hn, h1, hr, _⟩ := cell_of (((R.wd.mono s1).mono s2).mono s3) (RV.mono s3 r2) e3
    rw [rv_int.mp r3]
    refine ⟨a, xs, k, j, rfl, rfl, h1, by rw [RVL.length hr]; exact e5, ?_⟩
    exact q _ _ μ ((((R.mono s1).mono s2).mono s3).wrL hn (RVL.set (RV.mono (s2.trans s3) r1) j hr))
end
end DL

set_option maxHeartbeats 4000000
namespace DL
open PySem PySem.Spec L2

/-! ### what a def promises, as data -/
def spD (K : PySem.W.Frag) (n : Nat) (g : List D → Option D) : Sp := fun vs H Q _ => ∃ (A : Addr → Prop) (ds : List D), ds.length = n ∧ (∀ a, A a → H a ≠ none) ∧ RVL K A [] H ds vs ∧ ∃ r, g ds = some r ∧
  ∀ v H', Same H H' → RV K A [] H' r v → Q v H'
def spF (K : PySem.W.Frag) (n : Nat) (g : List D → Option (List D)) : Sp := fun vs H Q _ => ∃ (A : Addr → Prop) (ds : List D), ds.length = n ∧ (∀ a, A a → H a ≠ none) ∧ RVL K A [] H ds vs ∧ ∃ r, g ds = some r ∧
  ∀ a xs H', H a = none → Same H H' → H' a = some (.lst xs) → RVL K (fun b => A b ∨ b = a) [] H' r xs → Q (.ref a) H'
def startR (n : Nat) (ds : List D) : Rho := ds.map some ++ List.replicate (n - ds.length) none
def runD (body : T) (n : Nat) (ds : List D) : Option D := (body (startR n ds) []).bind fun r => match r with
  | (.rt d, _, S) => fz S d
  | (.rf es, _, S) => (fzs S es).map .lst
  | (.nx, _, _) => some .non
  | _ => none
def runF (body : T) (n : Nat) (ds : List D) : Option (List D) := (body (startR n ds) []).bind fun r => match r with
  | (.rf es, _, _) => if nrs es then some es else none
  | (.rt (.ref m), _, S) => match S[m]? with
    | some (.lst es) => if nrs es then some es else none
    | _ => none
  | _ => none
/-- the def stands in the module under its name -/
def Tx (K : PySem.W.Frag) (mg : Str → Option Value) (x : Str) (st : Stmt) (ps : List Str) : Prop := ∃ f fd, mg x = some (.ref f) ∧ Fun K x x st f fd ∧ Binds K fd ps []
def At (P : Program) (w : World) (K : PySem.W.Frag) (mg : Str → Option Value) (base : Heap) (x : Str) (k n : Nat) (g : List D → Option D) : Prop :=
  ∃ f fd ps, mg x = some (.ref f) ∧ PySem.W.keepIn K (.ref f) = true ∧ Binds K fd ps [] ∧ FnOk P w K mg base CX0 k f fd ps (spD K n g)
def AtF (P : Program) (w : World) (K : PySem.W.Frag) (mg : Str → Option Value) (base : Heap) (x : Str) (k n : Nat) (g : List D → Option (List D)) : Prop :=
  ∃ f fd ps, mg x = some (.ref f) ∧ PySem.W.keepIn K (.ref f) = true ∧ Binds K fd ps [] ∧ FnOk P w K mg base CX0 k f fd ps (spF K n g)

theorem startR_get {n : Nat} {ds : List D} {i : Nat} {d : D} (h : (startR n ds)[i]? = some (some d)) : ds[i]? = some d := by
  unfold startR at h
  by_cases hi : i < ds.length
  · rw [List.getElem?_append_left (by simpa using hi), List.getElem?_map] at h
    rw [Option.map_eq_some_iff] at h
    obtain ⟨e, h1, h2⟩ := h
    cases h2
    exact h1
  · rw [List.getElem?_append_right (by simpa using hi), List.getElem?_replicate] at h
    split at h <;> cases h
theorem rel_start {K : PySem.W.Frag} {H : Hp} {A : Addr → Prop} {ds : List D} {vs : List V} {N : List Str} {cl : Nat → Addr} (hA : ∀ a, A a → H a ≠ none) (hl : ds.length ≤ N.length) (r : RVL K A [] H ds vs) :
    Rel K ⟨H, A, [], cl⟩ [] (L2.start N vs) H (startR N.length ds) [] := by
  have hv := RVL.length r
  refine ⟨⟨rfl, List.nodup_nil, fun n c a h _ => by simp at h, fun a o e => e, fun a h => by simp at h, hA, fun a h => by simp at h, List.prefix_refl _⟩, ?_, fun i d h => ?_⟩
  · unfold L2.start startR
    simp only [List.length_append, List.length_map, List.length_replicate]
    omega
  · obtain ⟨v, h1, h2⟩ := RVL.get r (startR_get h)
    refine ⟨v, ?_, RV.tr (fun a o e hn => ⟨e, fun m q => by
      rcases q with q | q
      · exact hn m q
      · simp at q⟩) (fun _ _ e => e) d v h2⟩
    unfold L2.start
    have hi := (List.getElem?_eq_some_iff.mp h1).1
    rw [List.getElem?_append_left (by simpa using hi), List.getElem?_map, h1]
    rfl
section
variable {P : Program} {w : World} {K : PySem.W.Frag} {mg : Str → Option Value} {base : Heap} {x : Str} {st : Stmt} {N ps : List Str} {k : Nat} {body : T}
theorem fnO {f : Addr} {fd : FuncData} (F : Fun K x x st f fd) (S : FnScope N ps (defScope st))
    (hb : ∀ (f : Addr) (cdv : Value) (A : Around) (outer : List Env) (s : Shared) (H : Hp) (E : XK), Room k (A.deeper (PyProof.Rows.envOfC x (defScope st) s.heap.objs.size f cdv)) → PSs (cxOf CX0 P w K mg base N x (defScope st) f cdv A outer s H E).nox (defBody st) (tS K body)) :
    FnOk P w K mg base CX0 (k + 1) f fd ps (spD K ps.length (runD body N.length)) := by
  have hlN : ps.length ≤ N.length := by
    have := congrArg List.length S.pre
    rw [List.length_take] at this
    omega
  refine F.ok S (fun vs H Q E h => ?_) fun cdv A outer s H vs Q E hr h => ?_
  · obtain ⟨A, ds, hl, _, r, _⟩ := h
    rw [RVL.length r, hl]
  · obtain ⟨Av, ds, hl, hA, r, d, hg, q⟩ := h
    refine ⟨_, hb f cdv A outer s H E hr, ?_⟩
    simp only [runD, Option.bind_eq_some_iff] at hg
    obtain ⟨⟨fl, ρ', S'⟩, e1, e2⟩ := hg
    refine ⟨⟨H, Av, [], fun _ => 0⟩, [], _, [], rel_start hA (by omega) r, fl, ρ', S', e1, ?_⟩
    cases fl with
    | nx =>
      simp only [Option.some.injEq] at e2
      subst e2
      exact fun σ H' μ R => q .non H' (fun a o e => R.wd.base a o e) (rv_non.mpr rfl)
    | bk => simp at e2
    | ct => simp at e2
    | rt e => exact fun v σ H' μ R rv => q v H' (fun a o e => R.wd.base a o e) (RV.fz R.wd e2 rv)
    | rf es =>
      simp only [Option.map_eq_some_iff] at e2
      obtain ⟨es', e3, rfl⟩ := e2
      exact fun a xs σ H' μ R n na h1 rv => q _ H' (fun a o e => R.wd.base a o e) (rv_lst.mpr ⟨a, xs, rfl, h1, fun z => na (.inl z), RVL.fzs R.wd e3 rv.weakO⟩)
theorem fnD (h : Tx K mg x st ps) (S : FnScope N ps (defScope st))
    (hb : ∀ (f : Addr) (cdv : Value) (A : Around) (outer : List Env) (s : Shared) (H : Hp) (E : XK), Room k (A.deeper (PyProof.Rows.envOfC x (defScope st) s.heap.objs.size f cdv)) → PSs (cxOf CX0 P w K mg base N x (defScope st) f cdv A outer s H E).nox (defBody st) (tS K body)) :
    At P w K mg base x (k + 1) ps.length (runD body N.length) := by
  obtain ⟨f, fd, hm, F, hbi⟩ := h
  exact ⟨f, fd, ps, hm, F.kp, hbi, fnO F S hb⟩
theorem fnF (h : Tx K mg x st ps) (S : FnScope N ps (defScope st))
    (hb : ∀ (f : Addr) (cdv : Value) (A : Around) (outer : List Env) (s : Shared) (H : Hp) (E : XK), Room k (A.deeper (PyProof.Rows.envOfC x (defScope st) s.heap.objs.size f cdv)) → PSs (cxOf CX0 P w K mg base N x (defScope st) f cdv A outer s H E).nox (defBody st) (tS K body)) :
    AtF P w K mg base x (k + 1) ps.length (runF body N.length) := by
  obtain ⟨f, fd, hm, F, hbi⟩ := h
  have hlN : ps.length ≤ N.length := by
    have := congrArg List.length S.pre
    rw [List.length_take] at this
    omega
  refine ⟨f, fd, ps, hm, F.kp, hbi, F.ok S (fun vs H Q E h => ?_) fun cdv A outer s H vs Q E hr h => ?_⟩
  · obtain ⟨A, ds, hl, _, r, _⟩ := h
    rw [RVL.length r, hl]
  · obtain ⟨Av, ds, hl, hA, r, d, hg, q⟩ := h
    refine ⟨_, hb f cdv A outer s H E hr, ?_⟩
    simp only [runF, Option.bind_eq_some_iff] at hg
    obtain ⟨⟨fl, ρ', S'⟩, e1, e2⟩ := hg
    refine ⟨⟨H, Av, [], fun _ => 0⟩, [], _, [], rel_start hA (by omega) r, fl, ρ', S', e1, ?_⟩
    cases fl with
    | nx => simp at e2
    | bk => simp at e2
    | ct => simp at e2
    | rt e =>
      cases e with
      | ref m =>
        simp only at e2
        split at e2
        · rename_i es hc
          split at e2
          · rename_i hnr
            simp only [Option.some.injEq] at e2
            subst e2
            intro v σ H' μ R rv
            obtain ⟨a, rfl, hna⟩ := rv_ref.mp rv
            obtain ⟨xs, h1, h2⟩ := R.wd.cell m _ a hc hna
            have hm : a ∈ μ := List.mem_of_getElem? hna
            refine q a xs H' (R.wd.dis a hm) (fun a o e => R.wd.base a o e) h1 (RVL.nr (μ := μ) _ _ hnr (RVL.tr (av := avd _ μ) (μ := μ) (fun b o e hn => ⟨e, fun m z => ?_⟩) (fun _ _ e => e) _ _ h2))
            rcases z with z | z
            · exact hn m (.inl z)
            · subst z; exact hn m (.inr hm)
          · cases e2
        · cases e2
      | _ => simp at e2
    | rf es =>
      simp only at e2
      split at e2
      · rename_i hnr
        simp only [Option.some.injEq] at e2
        subst e2
        intro a xs σ H' μ R n na h1 rv
        refine q a xs H' n (fun a o e => R.wd.base a o e) h1 (RVL.nr (μ := μ) _ _ hnr (RVL.tr (av := avO _ μ a) (μ := μ) (fun b o e hn => ⟨e, fun m z => ?_⟩) (fun _ _ e => e) _ _ rv))
        rcases z with z | z
        · exact hn m (.inl (.inl z))
        · exact hn m (.inr z)
      · cases e2
end

/-! ### calls of the program's own defs -/
def eFn (g : List D → Option D) (fs : EL) : E := fun ρ S => (fs ρ S).bind fun ds => if nrs ds then g ds else (fzs S ds).bind fun es => (g es).bind fun r => if imm r then some r else none
def fFn (g : List D → Option (List D)) (fs : EL) : EL := fun ρ S => (fs ρ S).bind fun ds => if nrs ds then g ds else (fzs S ds).bind fun es => (g es).bind fun r => if imms r then some r else none
section
variable {K : PySem.W.Frag} {Z : Fr} {μ : List Addr} {H : Hp} {S : Sto}
theorem RV.toMu {d : D} {v : V} {av : Addr → Prop} (h : RV K av [] H d v) : RV K av μ H d v := RV.tr (fun a o e hn => ⟨e, hn⟩) (fun n a e => by simp at e) d v h
theorem RVL.toMu {d : List D} {v : List V} {av : Addr → Prop} (h : RVL K av [] H d v) : RVL K av μ H d v := RVL.tr (fun a o e hn => ⟨e, hn⟩) (fun n a e => by simp at e) d v h
theorem Wd.avd (W : Wd K Z μ H S) : ∀ a, DL.avd Z μ a → H a ≠ none := fun a h q => W.fresh q h
theorem fzs_len : ∀ {ds es : List D}, fzs S ds = some es → es.length = ds.length
  | [], es, h => by simp only [fzs, Option.some.injEq] at h; subst h; rfl
  | d :: ds, es, h => by
    simp only [fzs, Option.bind_eq_some_iff, Option.map_eq_some_iff] at h
    obtain ⟨e, _, es', h2, rfl⟩ := h
    simp [fzs_len h2]
/-- the callee's answer, from what the caller has -/
theorem sp_of {n : Nat} {g : List D → Option D} {ds : List D} {d : D} {vs : List V} {Q : VK} {E : XK} (W : Wd K Z μ H S) (hl : ds.length = n) (r : RVLz K Z μ H ds vs)
    (e : (if nrs ds then g ds else (fzs S ds).bind fun es => (g es).bind fun r => if imm r then some r else none) = some d) (q : ∀ w H', Same H H' → RVz K Z μ H' d w → Q w H') : spD K n g vs H Q E := by
  by_cases hn : nrs ds = true
  · rw [if_pos hn] at e
    exact ⟨avd Z μ, ds, hl, W.avd, RVL.nr _ _ hn r, d, e, fun v H' s rv => q v H' s (RV.toMu rv)⟩
  · rw [if_neg hn] at e
    simp only [Option.bind_eq_some_iff] at e
    obtain ⟨es, e1, r', e2, e3⟩ := e
    split at e3
    · rename_i hi
      cases e3
      exact ⟨Z.A, es, (fzs_len e1).trans hl, W.av, RVL.fzs W e1 r, d, e2, fun v H' s rv => q v H' s (RV.imm _ _ hi rv)⟩
    · cases e3
theorem spF_of {n : Nat} {g : List D → Option (List D)} {ds es : List D} {vs : List V} {Q : VK} {E : XK} (W : Wd K Z μ H S) (hl : ds.length = n) (r : RVLz K Z μ H ds vs)
    (e : (if nrs ds then g ds else (fzs S ds).bind fun es => (g es).bind fun r => if imms r then some r else none) = some es) (q : ∀ a xs H', H a = none → Same H H' → H' a = some (.lst xs) → RVL K (avO Z μ a) μ H' es xs → Q (.ref a) H') : spF K n g vs H Q E := by
  by_cases hn : nrs ds = true
  · rw [if_pos hn] at e
    exact ⟨avd Z μ, ds, hl, W.avd, RVL.nr _ _ hn r, es, e, fun a xs H' n s h1 rv => q a xs H' n s h1 (RVL.toMu rv)⟩
  · rw [if_neg hn] at e
    simp only [Option.bind_eq_some_iff] at e
    obtain ⟨es', e1, r', e2, e3⟩ := e
    split at e3
    · rename_i hi
      simp only [Option.some.injEq] at e3
      subst e3
      exact ⟨Z.A, es', (fzs_len e1).trans hl, W.av, RVL.fzs W e1 r, _, e2, fun a xs H' n s h1 rv => q a xs H' n s h1 (RVL.imm _ _ hi rv)⟩
    · cases e3
end
section
variable {X : Cx} {e : Expr} {es : List Expr} {x : Str} {p pos : Pos} {k j n : Nat} {fs : EL}
theorem d_call {g : List D → Option D} (h : At X.prog X.w X.K X.mg X.base x k n g) (hr : Room j X.A) (hk : k ≤ j) (hg : Gl X x) (ha : PA X (e :: es) (tA X.K fs)) (hl : ∀ {ρ : Rho} {S : Sto} {ds : List D}, fs ρ S = some ds → ds.length = n)
    (hdb : (x == ("__debug__" : Str)) = false := by decide) (he : starEach (e :: es) X.env = (false, eval e X.env) :: starEach es X.env := by rfl) (hpl : (backTo pos (starEach es X.env)).any (·.1) = false := by rfl) :
    PE X (.Call (.Name x p) (e :: es) [] pos) (tD X.K (eFn g fs)) := by
  obtain ⟨f, fd, ps, hm, hkp, hb, F⟩ := h
  refine pe_imp (pe_call F (hr.mono hk) hg hm hkp hb .nil pass0 ha hdb he hpl) fun σ H Q ⟨Z, μ, ρ, S, R, d, ef, q⟩ => ?_
  simp only [eFn, Option.bind_eq_some_iff] at ef
  obtain ⟨ds, e1, e2⟩ := ef
  refine ⟨Z, μ, ρ, S, R, ds, e1, fun vs H1 s1 r1 => ?_⟩
  show spD _ _ _ (vs ++ []) _ _ _
  rw [List.append_nil]
  exact sp_of (R.wd.mono s1) (hl e1) r1 e2 fun w H' s2 r2 => q w H' (s1.trans s2) r2
theorem d_callF {g : List D → Option (List D)} (h : AtF X.prog X.w X.K X.mg X.base x k n g) (hr : Room j X.A) (hk : k ≤ j) (hg : Gl X x) (ha : PA X (e :: es) (tA X.K fs)) (hl : ∀ {ρ : Rho} {S : Sto} {ds : List D}, fs ρ S = some ds → ds.length = n)
    (hdb : (x == ("__debug__" : Str)) = false := by decide) (he : starEach (e :: es) X.env = (false, eval e X.env) :: starEach es X.env := by rfl) (hpl : (backTo pos (starEach es X.env)).any (·.1) = false := by rfl) :
    PE X (.Call (.Name x p) (e :: es) [] pos) (tF X.K (fFn g fs)) := by
  obtain ⟨f, fd, ps, hm, hkp, hb, F⟩ := h
  refine pe_imp (pe_call F (hr.mono hk) hg hm hkp hb .nil pass0 ha hdb he hpl) fun σ H Q ⟨Z, μ, ρ, S, R, d, ef, q⟩ => ?_
  simp only [fFn, Option.bind_eq_some_iff] at ef
  obtain ⟨ds, e1, e2⟩ := ef
  refine ⟨Z, μ, ρ, S, R, ds, e1, fun vs H1 s1 r1 => ?_⟩
  show spF _ _ _ (vs ++ []) _ _ _
  rw [List.append_nil]
  exact spF_of (R.wd.mono s1) (hl e1) r1 e2 fun a xs H' n s2 h1 r2 => q a xs H' (s1.free n) (s1.trans s2) h1 r2
end
/-- how many: by the row's own make -/
theorem len_nil {ρ : Rho} {S : Sto} {ds : List D} (h : aNil ρ S = some ds) : ds.length = 0 := by
  simp only [aNil, Option.some.injEq] at h; subst h; rfl
theorem len_cons {f : E} {fs : EL} {n : Nat} (ih : ∀ {ρ : Rho} {S : Sto} {ds : List D}, fs ρ S = some ds → ds.length = n) {ρ : Rho} {S : Sto} {ds : List D} (h : aCons f fs ρ S = some ds) : ds.length = n + 1 := by
  simp only [aCons, Option.bind_eq_some_iff, Option.map_eq_some_iff] at h
  obtain ⟨d, _, es, h2, rfl⟩ := h
  simp [ih h2]
end DL

set_option maxHeartbeats 4000000
namespace DL
open PySem PySem.Spec L2

/-! ### the order of data -/
section order
open PySem.W PyProof.Rows
theorem swo_data : SrtO.Swo dataLt := by
  refine ⟨fun x y h => ?_, fun x y z h1 h2 => ?_⟩
  · cases e : dataLt y x with
    | false => rfl
    | true =>
      have q := lex_trans (O := itemOrd) _ _ _ h e
      rw [lex_irrefl] at q
      cases q
  · cases e : dataLt z x with
    | false => rfl
    | true =>
      rcases lex_negTrans (O := itemOrd) _ (keyToks y) _ e with q | q
      · exact absurd (q.symm.trans h2) (by decide)
      · exact absurd (q.symm.trans h1) (by decide)
end order
section reading
open PySem.W PyProof.Rows SeqAt
variable {h : Heap} {xs : List PyData}
def AlkAll (xs : List PyData) : Prop := ∀ x ∈ xs, ∀ y ∈ xs, alike x y = true
open Classical in
noncomputable def rdV (h : Heap) (xs : List PyData) (v : Value) : PyData := if q : ∃ d, d ∈ xs ∧ ∃ as, Reads h v d as then q.choose else .none
theorem rdV_of (hal : AlkAll xs) {d : PyData} {v : Value} {as : List Addr} (hd : d ∈ xs) (r : Reads h v d as) : rdV h xs v = d := by
  have q : ∃ d, d ∈ xs ∧ ∃ as, Reads h v d as := ⟨d, hd, as, r⟩
  unfold rdV
  rw [dif_pos q]
  obtain ⟨h1, bs, h2⟩ := q.choose_spec
  exact alike_unique _ _ _ _ _ (hal _ h1 _ hd) h2 r
end reading

section kinds
open PySem.W PyProof.Rows SeqAt
variable {prog : Program} {w : World} {A : Around} {E : Value → Shared → Prop} {s : Shared}
theorem call_tuple_lt' {Q : Value → Shared → Prop} {l b : Addr} {its jts : Array Value} {e r : Nat → Bool} (x : s.heap.IsTuple l its) (y : s.heap.IsTuple b jts)
    (he : ∀ j (h1 : j < its.size) (h2 : j < jts.size), EqAt A.in1 s its[j] jts[j] (e j))
    (hr : ∀ j (h1 : j < its.size) (h2 : j < jts.size), e j = false → RcLt A.in1 s its[j] jts[j] (r j))
    (q : Q (.bool (firstLt e r (decide (its.size < jts.size)) (List.range (min its.size jts.size)))) s) :
    wpAny (model prog w) A (call (.builtin "tuple.__lt__") [.ref l, .ref b]) Q E s := by
  obtain ⟨o1, g1, c1, n1, d1⟩ := id x
  obtain ⟨o2, g2, c2, n2, d2⟩ := id y
  obtain ⟨k1, dd1, da1, sl1⟩ := o1
  obtain ⟨k2, dd2, da2, sl2⟩ := o2
  have c1' : k1 = .type "tuple" := c1
  have c2' : k2 = .type "tuple" := c2
  have d1' : da1 = .seq its n1 := d1
  have d2' : da2 = .seq jts n2 := d2
  subst c1' c2' d1' d2'
  have M := tuple_ltAt l b its jts n1 n2 dd1 dd2 sl1 sl2 e r
  exact call_meets F.slot_tuple_lt ⟨_, g1, rfl⟩ F.entry_tuple_lt (F.args_tuple_lt_2 _ _) M ⟨g1, g2, he, hr, q⟩
/-- one key against another, any alike data -/
theorem oneLt_any {f : Bool} {da db : PyData} {a b : Value} {as bs : List Addr} {Q : Bool → Shared → Prop} (ra : Reads s.heap a da as) (rb : Reads s.heap b db bs) (h : alike da db = true) (hn : da ≠ .none)
    (hu : A.units + min da.depth db.depth < cLine) (q : Q (dataLt da db) s) : wpAny (model prog w) A (oneLt' f a b) Q E s := by
  by_cases hf : f = true ∧ ∃ xs, da = .tuple xs
  · obtain ⟨rfl, xs, rfl⟩ := hf
    cases db with
    | tuple ys =>
      have al : alikeAll xs ys = true := by simpa [alike] using h
      cases ra with
      | @tuple l o vs n _ _ g1 c1 d1 r1 =>
        cases rb with
        | @tuple l' o' vs' n' _ _ g2 c2 d2 r2 =>
          have n1 : vs.size = xs.length := by simpa using ReadsAll.length _ _ _ r1
          have n2 : vs'.size = ys.length := by simpa using ReadsAll.length _ _ _ r2
          rw [dataLt_tuple, ← firstLt_toks xs ys al, ← n1, ← n2] at q
          rw [oneLt'_eq]
          simp only [if_true]
          refine wpAny_bind (wpAny_cRoomFor (room_here hu) (wpAny_bind ?_))
          have hE : ∀ j (h1 : j < vs.size) (h2 : j < vs'.size), EqAt A.in1 s vs[j] vs'[j] (pairEq xs ys j) := fun j j1 j2 => by
            have z := eqAt_alikeAll xs ys A.in1 s vs.toList vs'.toList _ _ r1 r2 al (room_in hu) j (by simpa using j1) (by simpa using j2)
            simpa using z
          have hL : ∀ j (h1 : j < vs.size) (h2 : j < vs'.size), pairEq xs ys j = false → RcLt A.in1 s vs[j] vs'[j] (dataLt (xs.getD j .none) (ys.getD j .none)) := fun j j1 j2 hj => by
            have z := rcLt_alikeAll xs ys A.in1 s vs.toList vs'.toList _ _ r1 r2 al (room_in hu) j (by simpa using j1) (by simpa using j2) hj
            simpa using z
          exact wpAny_callSpecialIfBound?_slot (T := "tuple") ⟨_, g1, c1⟩ F.slot_tuple_lt (call_tuple_lt' ⟨_, g1, c1, _, d1⟩ ⟨_, g2, c2, _, d2⟩ hE hL (wpAny_truthy_bool q))
    | _ => exact absurd h (by simp [alike])
  · exact oneLt_alike (fun e xs q => hf ⟨e, xs, q⟩) ra rb h hn hu q

def tyP : PyData → Value
  | .none => .type "NoneType"
  | .bool _ => .type "bool"
  | .int _ => .type "int"
  | .str _ => .type "str"
  | .list _ => .type "list"
  | .tuple _ => .type "tuple"
  | .dict _ => .type "dict"
theorem tyP_looks {M : Model} {h : Heap} {v : Value} {d : PyData} {as : List Addr} (r : Reads h v d as) : Looks M h (typeOf v) (tyP d) := by
  cases r with
  | none => exact .now
  | bool => exact .now
  | int => exact .now
  | str => exact .now
  | list g c d r => exact (show tyP (.list _) = _ from c.symm) ▸ (Looks.ld g).andThen .now
  | tuple g c d r => exact (show tyP (.tuple _) = _ from c.symm) ▸ (Looks.ld g).andThen .now
  | dict g c d r1 r2 => exact (show tyP (.dict _) = _ from c.symm) ▸ (Looks.ld g).andThen .now
theorem alike_ty {x y : PyData} (h : alike x y = true) : tyP x = tyP y := by
  cases x <;> cases y <;> first | rfl | (exact absurd h (by simp [alike]))
def isNe : PyData → Bool
  | .tuple (_ :: _) => true
  | _ => false
theorem types_of {M : Model} : ∀ {vs : List Value} {xs : List PyData} {as : List Addr}, ReadsAll s.heap vs xs as → ∃ ts : List Value, ∀ (Q : List Value → Shared → Prop) (E : Value → Shared → Prop), Q ts s → wpAny M A (vs.mapM typeOf) Q E s
  | _, _, _, .nil => ⟨[], fun Q E q => by rw [List.mapM_nil]; exact wpAny_pure q⟩
  | _, _, _, .cons (d := d) r rs => by
    obtain ⟨ts, ih⟩ := types_of (M := M) rs
    refine ⟨tyP d :: ts, fun Q E q => ?_⟩
    rw [List.mapM_cons]
    exact wpAny_bind ((tyP_looks r).here (wpAny_bind (ih (fun bs s' => wpAny M A (pure (_ :: bs)) Q E s') E (wpAny_pure q))))
theorem firstsD {M : Model} : ∀ {vs : List Value} {xs : List PyData} {as : List Addr}, ReadsAll s.heap vs xs as → ∃ os : List (Option Value), os.all (·.isSome) = xs.all isNe ∧ ∀ (Q : List (Option Value) → Shared → Prop) (E : Value → Shared → Prop), Q os s → wpAny M A (vs.mapM firstOfTuple') Q E s
  | _, _, _, .nil => ⟨[], rfl, fun Q E q => by rw [List.mapM_nil]; exact wpAny_pure q⟩
  | _, _, _, .cons (v := v) (d := d) r rs => by
    obtain ⟨os, e, ih⟩ := firstsD (M := M) rs
    have one : ∃ o : Option Value, o.isSome = isNe d ∧ ∀ (Q : Option Value → Shared → Prop) (E : Value → Shared → Prop), Q o s → wpAny M A (firstOfTuple' v) Q E s := by
      by_cases ht : tyP d = .type "tuple"
      · cases r with
        | @tuple l o us n zs _ g c dd r =>
          refine ⟨us[0]?, ?_, fun Q E q => ?_⟩
          · have hl : us.size = zs.length := by simpa using ReadsAll.length _ _ _ r
            cases zs with
            | nil =>
              rw [List.length_nil] at hl
              have : us[0]? = none := by simp [hl]
              rw [this]; rfl
            | cons z zs =>
              rw [List.length_cons] at hl
              have : us[0]? = some us[0] := by simp
              rw [this]; rfl
          · rw [kas_first_eq]
            refine wpAny_bind ((tyP_looks (.tuple g c dd r)).here ?_)
            rw [if_neg (by first | decide | simp [tyP])]
            exact wpAny_bind (listItems_at g dd (wpAny_pure q))
        | none => exact absurd ht (by simp [tyP])
        | bool => exact absurd ht (by simp [tyP])
        | int => exact absurd ht (by simp [tyP])
        | str => exact absurd ht (by simp [tyP])
        | list => exact absurd ht (by simp [tyP])
        | dict => exact absurd ht (by simp [tyP])
      · refine ⟨none, ?_, fun Q E q => ?_⟩
        · cases d <;> first | rfl | exact absurd rfl ht
        · rw [kas_first_eq]
          refine wpAny_bind ((tyP_looks r).here ?_)
          have hb : (tyP d != Value.type "tuple") = true := by
            cases d <;> first | (exact absurd rfl ht) | rfl | decide
          rw [if_pos hb]
          exact wpAny_pure q
    obtain ⟨o, eo, ho⟩ := one
    refine ⟨o :: os, by simp [eo, e], fun Q E q => ?_⟩
    rw [List.mapM_cons]
    exact wpAny_bind (ho _ _ (wpAny_bind (ih (fun bs s' => wpAny M A (pure (_ :: bs)) Q E s') E (wpAny_pure q))))

def GoodK (κ : SortKind) (xs : List PyData) : Prop := κ = oneType' ∨ κ = general' ∨ ∃ b, κ = tuples' b ∧ (∀ x ∈ xs, ∃ y ys, x = .tuple (y :: ys)) ∧ (b = true → ∀ x ∈ xs, ∀ y ys, x = .tuple (y :: ys) → ∀ t, y ≠ .tuple t)
theorem tups_of {h : Heap} : ∀ {vs : List Value} {xs : List PyData} {as : List Addr}, ReadsAll h vs xs as → xs.all isNe = true →
    ∃ fs : List Value, KatTups h vs fs ∧ ∀ f ∈ fs, ∃ y ys bs, .tuple (y :: ys) ∈ xs ∧ Reads h f y bs
  | _, _, _, .nil, _ => ⟨[], KatTups.nil, fun f hf => absurd hf (by simp)⟩
  | _, _, _, .cons (v := v) (d := d) r rs, e => by
    simp only [List.all_cons, Bool.and_eq_true] at e
    obtain ⟨fs, k, hf⟩ := tups_of rs e.2
    cases r with
    | @tuple l o us n zs _ g c dd r =>
      cases zs with
      | nil => exact absurd e.1 (by simp [isNe])
      | cons z zs =>
        have e0 : us = ⟨us.toList⟩ := rfl
        generalize hus : us.toList = ul at r e0
        subst e0
        cases r with
        | @cons f ul' _ _ b1 _ r1 r2 =>
          refine ⟨f :: fs, KatTups.cons g c dd (by simp) k, fun f' hf' => ?_⟩
          rcases List.mem_cons.mp hf' with rfl | hf'
          · exact ⟨z, zs, _, List.mem_cons_self, r1⟩
          · obtain ⟨y, ys, bs, m, r⟩ := hf f' hf'
            exact ⟨y, ys, bs, List.mem_cons_of_mem _ m, r⟩
    | none => exact absurd e.1 (by simp [isNe])
    | bool => exact absurd e.1 (by simp [isNe])
    | int => exact absurd e.1 (by simp [isNe])
    | str => exact absurd e.1 (by simp [isNe])
    | list => exact absurd e.1 (by simp [isNe])
    | dict => exact absurd e.1 (by simp [isNe])
theorem kind_data {M : Model} {vs : List Value} {xs : List PyData} {as : List Addr} (r : ReadsAll s.heap vs xs as) (hal : AlkAll xs) (h2 : 2 ≤ vs.length) :
    ∃ κ, GoodK κ xs ∧ ∀ (Q : SortKind → Shared → Prop) (E : Value → Shared → Prop), Q κ s → wpAny M A (keyKind' vs.toArray) Q E s := by
  by_cases hn : xs.all isNe = true
  · obtain ⟨fs, k, hf⟩ := tups_of r hn
    have hl : vs.length = xs.length := ReadsAll.length _ _ _ r
    match xs, hl, hal, hn, hf with
    | [], hl, _, _, _ => exact absurd h2 (by rw [hl]; decide)
    | x :: xs', hl, hal, hn, hf =>
      have hx : isNe x = true := by
        simp only [List.all_cons, Bool.and_eq_true] at hn
        exact hn.1
      obtain ⟨y, ys, rfl⟩ : ∃ y ys, x = .tuple (y :: ys) := by
        match x, hx with
        | .tuple (y :: ys), _ => exact ⟨y, ys, rfl⟩
      have hfl : 0 < fs.length := by
        match vs, fs, k, h2 with
        | _ :: _, _ :: _, _, _ => simp
        | _ :: _, [], k, _ => exact absurd k (by simp [KatTups])
        | [], _, _, h2 => exact absurd h2 (by simp)
      have hal0 : ∀ z zs, PyData.tuple (z :: zs) ∈ PyData.tuple (y :: ys) :: xs' → tyP z = tyP y := fun z zs m => by
        have q := hal _ m _ List.mem_cons_self
        have q' : alikeAll (z :: zs) (y :: ys) = true := by simpa [alike] using q
        exact alike_ty (alike_all_cons q').1
      refine ⟨tuples' (tyP y != Value.type "tuple"), .inr (.inr ⟨_, rfl, fun z m => ?_, fun hb z m u us e t q => ?_⟩), fun Q E q => ?_⟩
      · have hz : isNe z = true := List.all_eq_true.mp hn z m
        match z, hz with
        | .tuple (y :: ys), _ => exact ⟨y, ys, rfl⟩
      · subst e q
        have e2 := hal0 _ _ m
        rw [← e2] at hb
        exact absurd hb (by simp [tyP])
      · refine kat_kind (T := tyP y) k hfl (fun f m => ?_) (by cases y <;> rfl) q
        obtain ⟨z, zs, bs, m', r'⟩ := hf f m
        rw [← hal0 _ _ m']
        exact tyP_looks r'
  · obtain ⟨os, eo, ho⟩ := firstsD (A := A) (M := M) r
    obtain ⟨ts, ht⟩ := types_of (A := A) (M := M) r
    have en : (os.toArray.all fun x => x.isSome) = false := by
      rw [List.all_toArray, eo]
      exact Bool.eq_false_iff.mpr hn
    by_cases h0 : ((os.toArray[0]?).bind id).isSome = true
    · refine ⟨general', .inr (.inl rfl), fun Q E q => ?_⟩
      rw [kat_kind_eq, List.mapM_toArray, map_eq_pure_bind]
      refine wpAny_bind (wpAny_bind (ho _ _ (wpAny_pure ?_)))
      rw [if_neg (by rw [en]; decide), if_pos h0]
      exact wpAny_pure q
    · have rest : ∀ κ, κ = (if (match ts.toArray[0]? with | some t => if ts.toArray.all (· == t) then some t else none | none => none : Option Value).isSome then oneType' else general') →
          ∀ (Q : SortKind → Shared → Prop) (E : Value → Shared → Prop), Q κ s → wpAny M A (keyKind' vs.toArray) Q E s := fun κ hκ Q E q => by
        rw [kat_kind_eq, List.mapM_toArray, map_eq_pure_bind]
        refine wpAny_bind (wpAny_bind (ho _ _ (wpAny_pure ?_)))
        rw [if_neg (by rw [en]; decide), if_neg h0]
        rw [oneTypeOnly'_eq, List.mapM_toArray, map_eq_pure_bind]
        refine wpAny_bind (wpAny_bind (wpAny_bind (ht _ _ (wpAny_pure ?_))))
        rw [hκ] at q
        generalize ts.toArray[0]? = t0 at q ⊢
        cases t0 with
        | none => exact wpAny_pure (wpAny_pure q)
        | some t => exact wpAny_pure (wpAny_pure q)
      have gk : ∀ b : Bool, GoodK (if b then oneType' else general') xs := fun b => by
        cases b
        · exact .inr (.inl rfl)
        · exact .inl rfl
      exact ⟨_, gk _, rest _ rfl⟩
end kinds
end DL

set_option maxHeartbeats 4000000
namespace DL
open PySem PySem.Spec L2

section sorts
open PySem.W PyProof.Rows SeqAt
variable {prog : Program} {w : World} {A : Around} {E : Value → Shared → Prop} {s : Shared}
theorem readsAll_mem {h : Heap} : ∀ {vs : List Value} {xs : List PyData} {as : List Addr}, ReadsAll h vs xs as → ∀ v ∈ vs, ∃ d as, d ∈ xs ∧ Reads h v d as
  | _, _, _, .nil, _, m => absurd m (by simp)
  | _, _, _, .cons r rs, v, m => by
    rcases List.mem_cons.mp m with rfl | m
    · exact ⟨_, _, List.mem_cons_self, r⟩
    · obtain ⟨d, as, h1, h2⟩ := readsAll_mem rs v m
      exact ⟨d, as, List.mem_cons_of_mem _ h1, h2⟩
theorem readsAll_keep {h h' : Heap} (k : ∀ b o, h.get? b = some o → h'.get? b = some o) : ∀ {vs : List Value} {xs : List PyData} {as : List Addr}, ReadsAll h vs xs as → ReadsAll h' vs xs as
  | _, _, _, .nil => .nil
  | _, _, _, .cons r rs => .cons (Reads.keeps k r) (readsAll_keep k rs)
theorem depth_le {x : PyData} : ∀ {xs : List PyData}, x ∈ xs → x.depth ≤ PyData.depthAll xs
  | [], m => absurd m (by simp)
  | y :: ys, m => by
    rw [PyData.depthAll]
    rcases List.mem_cons.mp m with rfl | m
    · exact Nat.le_max_left _ _
    · exact Nat.le_trans (depth_le m) (Nat.le_max_right _ _)
theorem cmp_data {vs : List Value} {xs : List PyData} {as : List Addr} {κ : SortKind} (r : ReadsAll s.heap vs xs as) (hal : AlkAll xs) (hn : ∀ x ∈ xs, x ≠ .none) (hu : A.units + PyData.depthAll xs < cLine) (g : GoodK κ xs) :
    SrtO.Cmp prog w A s κ (fun p => p.1 ∈ vs) (SrtO.lt2 fun v u => dataLt (rdV s.heap xs v) (rdV s.heap xs u)) := by
  intro p q hp hq
  obtain ⟨da, a1, m1, r1⟩ := readsAll_mem r _ hp
  obtain ⟨db, a2, m2, r2⟩ := readsAll_mem r _ hq
  have e1 := rdV_of hal m1 r1
  have e2 := rdV_of hal m2 r2
  show wpAny (model prog w) A (keyLt' κ p.1 q.1) (fun r s' => s' = s ∧ r = dataLt (rdV s.heap xs p.1) (rdV s.heap xs q.1)) (fun _ _ => False) s
  rw [e1, e2]
  have hd := depth_le m1
  have hu' : A.units + min da.depth db.depth < cLine := Nat.lt_of_le_of_lt (Nat.add_le_add_left (Nat.le_trans (Nat.min_le_left _ _) hd) _) hu
  rcases g with rfl | rfl | ⟨b, rfl, t1, t2⟩
  · exact oneLt_any (f := true) r1 r2 (hal _ m1 _ m2) (hn _ m1) hu' ⟨rfl, rfl⟩
  · exact oneLt_any (f := false) r1 r2 (hal _ m1 _ m2) (hn _ m1) hu' ⟨rfl, rfl⟩
  · obtain ⟨y, ys, rfl⟩ := t1 _ m1
    obtain ⟨z, zs, rfl⟩ := t1 _ m2
    generalize p.1 = pv at r1 ⊢
    generalize q.1 = qv at r2 ⊢
    have al : alikeAll (y :: ys) (z :: zs) = true := by simpa [alike] using hal _ m1 _ m2
    rw [dataLt_tuple]
    cases r1 with
    | @tuple l o vs n _ _ g1 c1 d1 r1 =>
      cases r2 with
      | @tuple l' o' vs' n' _ _ g2 c2 d2 r2 =>
        have n1 : vs.size = (y :: ys).length := by simpa using ReadsAll.length _ _ _ r1
        have n2 : vs'.size = (z :: zs).length := by simpa using ReadsAll.length _ _ _ r2
        refine kat_lt g1 d1 g2 d2 (katLex_alike _ _ _ _ _ _ _ r1 r2 al ?_ (fun hb _ x r t e => ?_) (by rw [n1, n2]) ⟨rfl, rfl⟩)
        · simp only [PyData.depth] at hu'
          omega
        · cases e
          exact t2 hb _ m1 _ _ rfl t
theorem data_sortable {a : Addr} {vs : List Value} {xs : List PyData} {as : List Addr} {h0 : Heap} (r : ReadsAll h0 vs xs as) (hk : ∀ b o, h0.get? b = some o → b ≠ a ∧ s.heap.get? b = some o) (hal : AlkAll xs) (hn : ∀ x ∈ xs, x ≠ .none) (hu : A.units + PyData.depthAll xs < cLine) (h2 : 2 ≤ vs.length) :
    SrtO.SortableO prog w A s a vs fun v u => dataLt (rdV h0 xs v) (rdV h0 xs u) := by
  intro h' keep
  have r' : ReadsAll h' vs xs as := readsAll_keep (fun b o e => keep b o (hk b o e).1 (hk b o e).2) r
  obtain ⟨κ, g, hκ⟩ := kind_data (A := A) (M := model prog w) (s := { s with heap := h' }) r' hal h2
  refine ⟨κ, fun Q E q => hκ Q E q, ?_⟩
  have c := cmp_data (prog := prog) (w := w) (s := { s with heap := h' }) r' hal hn hu g
  intro p q hp hq
  have z := c p q hp hq
  obtain ⟨da, a1, m1, r1⟩ := readsAll_mem r _ hp
  obtain ⟨db, a2, m2, r2⟩ := readsAll_mem r _ hq
  obtain ⟨da', a1', m1', r1'⟩ := readsAll_mem r' _ hp
  have e1 : rdV h' xs p.1 = rdV h0 xs p.1 := by
    rw [rdV_of hal m1 r1, rdV_of hal m1 (Reads.keeps (fun b o e => keep b o (hk b o e).1 (hk b o e).2) r1)]
  have e2 : rdV h' xs q.1 = rdV h0 xs q.1 := by
    rw [rdV_of hal m2 r2, rdV_of hal m2 (Reads.keeps (fun b o e => keep b o (hk b o e).1 (hk b o e).2) r2)]
  have z' : wpAny (model prog w) A (keyLt' κ p.1 q.1) (fun r s' => s' = { s with heap := h' } ∧ r = dataLt (rdV h' xs p.1) (rdV h' xs q.1)) (fun _ _ => False) { s with heap := h' } := z
  rw [e1, e2] at z'
  exact z'
/-- sorted(x), x a list or a tuple -/
theorem sorted_seq {l : Addr} {T : String} {o : Obj} {vs : List Value} {n : Nat} {ltv : Value → Value → Bool} {Q : Value → Shared → Prop} (O : SrtO.Swo ltv) (hT : T = "list" ∨ T = "tuple") (ho : s.heap.get? l = some o) (hc : o.cls = .type T) (hd : o.data = .seq vs.toArray n) (hz : vs.length ≤ sizeLine)
    (hS : 2 ≤ vs.length → ∀ (h₁ : Heap) (a : Addr), (∀ b o, s.heap.get? b = some o → b ≠ a ∧ h₁.get? b = some o) → SrtO.SortableO prog w A.in1.in1 { s with heap := h₁ } a vs ltv)
    (h : ∀ (out : List Value), SrtO.Srtd ltv out → SrtO.Stb ltv out vs → ∀ (h' : Heap) (p : Addr), (∀ b o, s.heap.get? b = some o → h'.get? b = some o) → s.heap.get? p = none → (∃ ep, h'.get? p = some (seqObj "list" out.toArray ep)) → Q (.ref p) { s with heap := h' }) :
    wpAny (model prog w) A (call (.builtin "sorted") [.ref l]) Q E s := by
  refine Calls.call_function_entry kind_sorted plain_sorted entry_sorted (args_sorted1 _) (?_ : wpAny _ _ (Builtin.«sorted» _) _ _ _)
  unfold Builtin.«sorted»
  refine wpAny_bind (m := checkCount "sorted" 1 1 _) (wpAny_pure (wpAny_bind ?_))
  refine wpAny_collect_seq l hT ho hc hd (fun h1 k1 => ?_) (by rw [List.size_toArray]; exact hz)
  show wpAny _ _ (newList vs >>= _) _ _ _
  refine wpAny_bind (wpAny_newList ?_ hz)
  show wpAny _ _ _ _ _ { s with heap := h1.push (seqObj "list" vs.toArray 0) }
  have hp : (h1.push (seqObj "list" vs.toArray 0)).get? h1.objs.size = some (seqObj "list" vs.toArray 0) := Heap.get?_push_size _ rfl
  have hn : ∀ b u, h1.get? b = some u → b ≠ h1.objs.size := fun b u e => Nat.ne_of_lt (Heap.lt_size e)
  have kk : ∀ b o, s.heap.get? b = some o → b ≠ h1.objs.size ∧ (h1.push (seqObj "list" vs.toArray 0)).get? b = some o := fun b o e => ⟨hn b o (k1 b o e), Heap.get?_push_of_some _ (k1 b o e)⟩
  have hf : s.heap.get? h1.objs.size = none := by
    cases e : s.heap.get? h1.objs.size with
    | none => rfl
    | some u => exact absurd rfl (hn _ _ (k1 _ _ e))
  refine wpAny_bind (wpAny_holding (wpAny_call_entry slot_list_sort ⟨_, hp, rfl⟩ entry_list_sort (SrtO.list_sort_ord O hp hz (fun h2 => hS h2 _ _ kk) fun out hs hb => ⟨_, rfl, wpAny_pure ⟨_, rfl, ?_⟩⟩) (args_list_sort _)))
  exact h out hs hb _ _ (fun b o e => sortedHeap_old (kk b o e).1 (Heap.lt_size (kk b o e).2) ▸ (kk b o e).2) hf (sortedHeap_at hp)
end sorts

/-! ### permutations -/
theorem perm_map_inv {α β : Type} (f : α → β) {l k : List β} (p : l.Perm k) : ∀ m : List α, k = m.map f → ∃ m' : List α, m'.Perm m ∧ l = m'.map f := by
  induction p with
  | nil => intro m e; exact ⟨m, List.Perm.refl _, e⟩
  | cons x _ ih =>
    intro m e
    cases m with
    | nil => cases e
    | cons y ys =>
      simp only [List.map_cons, List.cons.injEq] at e
      obtain ⟨rfl, e⟩ := e
      obtain ⟨m', p', rfl⟩ := ih ys e
      exact ⟨y :: m', p'.cons y, rfl⟩
  | swap x y l =>
    intro m e
    match m, e with
    | a :: b :: r, e =>
      simp only [List.map_cons, List.cons.injEq] at e
      obtain ⟨rfl, rfl, rfl⟩ := e
      exact ⟨b :: a :: r, List.Perm.swap _ _ _, rfl⟩
  | trans _ _ ih1 ih2 =>
    intro m e
    obtain ⟨m1, p1, e1⟩ := ih2 m e
    obtain ⟨m2, p2, e2⟩ := ih1 m1 e1
    exact ⟨m2, p2.trans p1, e2⟩

/-! ### sorted, as data -/
def ltD (x y : D) : Bool := PySem.W.dataLt (toP x) (toP y)
def isNon : D → Bool
  | .non => true
  | _ => false
def alkD (x y : D) : Bool := PySem.W.alike (toP x) (toP y)
def gdS (xs : List D) : Bool := okDs 60 xs && xs.all (fun x => !isNon x) && xs.all fun x => xs.all fun y => alkD x y
def sortD (xs : List D) : List D := xs.mergeSort fun x y => !ltD y x
theorem toPs_map : ∀ xs : List D, toPs xs = xs.map toP
  | [] => rfl
  | x :: xs => by rw [toPs, toPs_map xs]; rfl
def rSortD (K : PySem.W.Frag) : List V → Hp → VK → Prop := fun vs H Q => ∃ (a : Addr) (l : List (V × D)), vs = [.ref a] ∧ (SqL K H a (l.map (·.1)) ∨ SqT K H a (l.map (·.1))) ∧ DpAll K H (l.map (·.1)) (toPs (l.map (·.2))) ∧ gdS (l.map (·.2)) = true ∧
  ∀ (l' : List (V × D)) q, l'.Perm l → (l'.Pairwise fun x y => ltD y.2 x.2 = false) → H q = none → Q (.ref q) (upd H q (.lst (l'.map (·.1))))

theorem alk_eq : ∀ (x y : D), alkD x y = true → (∃ n, okD n x = true) → (∃ m, okD m y = true) → eqD x y = true → x = y := by
  have main : ∀ (n : Nat) (x y : D) (m : Nat), okD n x = true → okD m y = true → alkD x y = true → eqD x y = true → x = y := by
    intro n
    induction n with
    | zero =>
      intro x y m h1 h2 h3 h4
      cases x <;> simp [okD] at h1 <;> cases y <;> simp_all [okD, alkD, toP, PySem.W.alike, eqD]
    | succ n ih =>
      have lst : ∀ (xs ys : List D) (m : Nat), okDs n xs = true → okDs m ys = true → PySem.W.alikeAll (toPs xs) (toPs ys) = true → eqDs xs ys = true → xs = ys := by
        intro xs
        induction xs with
        | nil =>
          intro ys m _ _ _ h4
          cases ys with
          | nil => rfl
          | cons y ys => simp [eqDs] at h4
        | cons x xs ihx =>
          intro ys m h1 h2 h3 h4
          cases ys with
          | nil => simp [eqDs] at h4
          | cons y ys =>
            simp only [okDs, Bool.and_eq_true] at h1 h2
            simp only [eqDs, Bool.and_eq_true] at h4
            simp only [toPs] at h3
            have h5 := PySem.W.alike_all_cons h3
            rw [ih x y m h1.1 h2.1 h5.1 h4.1, ihx ys m h1.2 h2.2 h5.2 h4.2]
      intro x y m h1 h2 h3 h4
      cases x with
      | tup xs =>
        cases y with
        | tup ys =>
          cases m with
          | zero => simp [okD] at h2
          | succ m =>
            simp only [okD] at h1 h2
            simp only [eqD] at h4
            simp only [alkD, toP, PySem.W.alike] at h3
            rw [lst xs ys m h1 h2 h3 h4]
        | _ => simp [eqD] at h4
      | lst xs =>
        cases y with
        | lst ys =>
          cases m with
          | zero => simp [okD] at h2
          | succ m =>
            simp only [okD] at h1 h2
            simp only [eqD] at h4
            simp only [alkD, toP, PySem.W.alike] at h3
            rw [lst xs ys m h1 h2 h3 h4]
        | _ => simp [eqD] at h4
      | _ => simp [okD] at h1 <;> cases y <;> simp_all [okD, alkD, toP, PySem.W.alike, eqD]
  intro x y h3 ⟨n, h1⟩ ⟨m, h2⟩ h4
  exact main n x y m h1 h2 h3 h4
theorem toks_inj {x y : PyData} (h : PySem.W.alike x y = true) (e : PySem.W.keyToks x = PySem.W.keyToks y) : PyData.eqv x y = true := by
  cases q : PyData.eqv x y with
  | true => rfl
  | false =>
    have z := (PySem.W.toks_eqv x y h).2 q [] [.inl 0]
    rw [e, PySem.W.lex_pre, PyProof.Rows.lex_irrefl] at z
    simp [PyProof.Rows.lexLt] at z
theorem ltD_anti {x y : D} {n m : Nat} (h : alkD x y = true) (h1 : okD n x = true) (h2 : okD m y = true) (a : ltD y x = false) (b : ltD x y = false) : x = y := by
  have e := PyProof.Rows.lex_total (O := PyProof.Rows.itemOrd) _ _ b a
  have q := toks_inj h e
  rw [eqv_eqD n m x y h1 h2] at q
  exact alk_eq x y h ⟨n, h1⟩ ⟨m, h2⟩ q
theorem okDs_mem {n : Nat} {x : D} : ∀ {xs : List D}, okDs n xs = true → x ∈ xs → okD n x = true
  | [], _, m => absurd m (by simp)
  | y :: ys, h, m => by
    simp only [okDs, Bool.and_eq_true] at h
    rcases List.mem_cons.mp m with rfl | m
    · exact h.1
    · exact okDs_mem h.2 m
theorem gdS_alk {xs : List D} (h : gdS xs = true) : ∀ x ∈ xs, ∀ y ∈ xs, alkD x y = true := fun x hx y hy => by
  simp only [gdS, Bool.and_eq_true] at h
  exact List.all_eq_true.mp (List.all_eq_true.mp h.2 x hx) y hy
theorem sortD_perm (xs : List D) : (sortD xs).Perm xs := List.mergeSort_perm _ _
theorem sortD_pw (xs : List D) : (sortD xs).Pairwise fun x y => ltD y x = false := by
  have q := List.pairwise_mergeSort (le := fun x y => !ltD y x) (fun a b c h1 h2 => by
    have h1' : ltD b a = false := by simpa using h1
    have h2' : ltD c b = false := by simpa using h2
    have := swo_data.tr _ _ _ h1' h2'
    simpa [ltD] using this) (fun a b => by
    cases e : ltD b a with
    | false => simp
    | true =>
      have := swo_data.asym _ _ e
      simp [ltD] at this ⊢
      simp [this]) xs
  exact q.imp fun h => by simpa using h
theorem sortD_uniq {xs l : List D} (h : gdS xs = true) (p : l.Perm xs) (s : l.Pairwise fun x y => ltD y x = false) : l = sortD xs := by
  refine List.Perm.eq_of_pairwise (le := fun x y => ltD y x = false) (fun a b ha hb h1 h2 => ?_) s (sortD_pw xs) (p.trans (sortD_perm xs).symm)
  have ha' := p.mem_iff.mp ha
  have hb' := (sortD_perm xs).mem_iff.mp hb
  have ok : okDs 60 xs = true := by
    simp only [gdS, Bool.and_eq_true] at h
    exact h.1.1
  exact ltD_anti (gdS_alk h _ ha' _ hb') (okDs_mem ok ha') (okDs_mem ok hb') h1 h2

section
open PyProof.Rows
theorem objOk_there {P : Program} {w : World} {H : Hp} {h : Heap} {a : Addr} {o : HO} (x : ObjOk P w H h a o) : ∃ u, h.get? a = some u := by
  cases o with
  | lst xs => obtain ⟨_, _, _, _, e⟩ := x; exact ⟨_, e⟩
  | tup xs => obtain ⟨_, _, _, _, e, _⟩ := x; exact ⟨_, e⟩
  | dK kvs => obtain ⟨_, _, _, _, o, _, _, e, _⟩ := x; exact ⟨_, e⟩
  | dT kvs => obtain ⟨_, _, _, _, o, _, _, e, _⟩ := x; exact ⟨_, e⟩
  | set S n => obtain ⟨o, _, _, _, e, _⟩ := x; exact ⟨_, e⟩
  | ins C dx fs => obtain ⟨_, _, _, e, _⟩ := x; exact ⟨_, e⟩
  | own y => obtain ⟨_, e⟩ := x; exact ⟨_, e⟩
  | xd fs => obtain ⟨_, ⟨_, _, _, e, _⟩, _⟩ := x; exact ⟨_, e⟩
  | rng lo hi => obtain ⟨_, _, _, e⟩ := x; exact ⟨_, e⟩
  | frz ob u => obtain ⟨e, _⟩ := x; exact ⟨_, e⟩
  | tbl ps => exact ⟨_, x⟩
  | met f y => exact ⟨_, x⟩
  | ext φ => obtain ⟨_, e, _⟩ := x; exact e
theorem hok_none {P : Program} {w : World} {H : Hp} {h : Heap} {a : Addr} (x : HOk P w H h) (e : h.get? a = none) : H a = none := by
  cases q : H a with
  | none => rfl
  | some o =>
    obtain ⟨u, z⟩ := objOk_there (x a o q)
    rw [e] at z
    cases z
theorem zipR {h : Heap} : ∀ {l : List (V × D)} {its : List Value} {as : List Addr}, Vals (l.map (·.1)) its → ReadsAll h its (toPs (l.map (·.2))) as → (its.zip l).map (·.1) = its ∧ (its.zip l).map (·.2) = l ∧ ∀ p ∈ its.zip l, RelV p.2.1 p.1 ∧ ∃ bs, Reads h p.1 (toP p.2.2) bs
  | [], its, as, hv, hr => by
    cases hv
    exact ⟨rfl, rfl, fun p m => absurd m (by simp)⟩
  | x :: l, its, as, hv, hr => by
    cases hv with
    | cons h1 h2 =>
      simp only [List.map_cons, toPs] at hr
      cases hr with
      | cons r1 r2 =>
        obtain ⟨e1, e2, ih⟩ := zipR h2 r2
        refine ⟨by simp only [List.zip_cons_cons, List.map_cons, e1], by simp only [List.zip_cons_cons, List.map_cons, e2], fun p m => ?_⟩
        rw [List.zip_cons_cons] at m
        rcases List.mem_cons.mp m with rfl | m
        · exact ⟨h1, _, r1⟩
        · exact ih p m
theorem valsR : ∀ {m : List (Value × (V × D))}, (∀ p ∈ m, RelV p.2.1 p.1) → Vals ((m.map (·.2)).map (·.1)) (m.map (·.1))
  | [], _ => .nil
  | x :: m, h => .cons (h x List.mem_cons_self) (valsR fun p q => h p (List.mem_cons_of_mem _ q))
theorem pwR {h : Heap} {xs : List PyData} {m : List (Value × (V × D))} (hal : AlkAll xs) (hm : ∀ p ∈ m, (toP p.2.2 ∈ xs) ∧ ∃ bs, Reads h p.1 (toP p.2.2) bs)
    (hs : SrtO.Srtd (fun v u => PySem.W.dataLt (rdV h xs v) (rdV h xs u)) (m.map (·.1))) : (m.map (·.2)).Pairwise fun x y => ltD y.2 x.2 = false := by
  rw [List.pairwise_map]
  have hs' := List.pairwise_map.mp hs
  refine hs'.imp_of_mem fun {a b} ha hb q => ?_
  obtain ⟨m1, b1, r1⟩ := hm a ha
  obtain ⟨m2, b2, r2⟩ := hm b hb
  have q' : PySem.W.dataLt (rdV h xs b.1) (rdV h xs a.1) = false := q
  rw [rdV_of hal m1 r1, rdV_of hal m2 r2] at q'
  exact q'
variable {X : Cx}
theorem cr_sortD (hu : X.A.units + 64 < cLine) : CallR X (.builtin "sorted") (rSortD X.K) := by
  intro pins s σ H vs us Q I r h
  obtain ⟨a, l, rfl, hs, hd, hg, q⟩ := h
  rw [Vals.ref1 r]
  have get : ∃ (its : List Value) (T : String) (o : Obj) (n : Nat), Vals (l.map (·.1)) its ∧ (T = "list" ∨ T = "tuple") ∧ s.heap.get? a = some o ∧ o.cls = .type T ∧ o.data = .seq its.toArray n ∧ (l.map (·.1)).length ≤ sizeLine := by
    rcases hs with hs | hs
    · obtain ⟨its, rv, pl, hz⟩ := I.list hs
      obtain ⟨o, e, c, n, d⟩ := pl.isList
      exact ⟨its, "list", o, n, rv, .inl rfl, e, c, d, hz⟩
    · obtain ⟨its, rv, pl, hz⟩ := I.tuple hs
      obtain ⟨o, e, c, n, d⟩ := pl
      exact ⟨its, "tuple", o, n, rv, .inr rfl, e, c, d, hz⟩
  obtain ⟨its, T, o, n, rv, hT, ho, hc, hdat, hz⟩ := get
  obtain ⟨as, ra⟩ := Dp.readsAll I _ _ _ hd rv
  obtain ⟨z1, z2, z3⟩ := zipR rv ra
  have ok : okDs 60 (l.map (·.2)) = true := by
    simp only [gdS, Bool.and_eq_true] at hg
    exact hg.1.1
  have hal : AlkAll (toPs (l.map (·.2))) := by
    rw [toPs_map]
    intro x hx y hy
    obtain ⟨x', hx', rfl⟩ := List.mem_map.mp hx
    obtain ⟨y', hy', rfl⟩ := List.mem_map.mp hy
    exact gdS_alk hg _ hx' _ hy'
  have hnn : ∀ x ∈ toPs (l.map (·.2)), x ≠ .none := by
    rw [toPs_map]
    intro x hx
    obtain ⟨x', hx', rfl⟩ := List.mem_map.mp hx
    simp only [gdS, Bool.and_eq_true] at hg
    have := List.all_eq_true.mp hg.1.2 x' hx'
    have k := okDs_mem ok hx'
    cases x' <;> simp [isNon] at this <;> simp [toP]
  have hdep := (okDs_lay 60 _ ok).2
  have huu : X.A.in1.in1.units + PyData.depthAll (toPs (l.map (·.2))) < cLine := by
    show X.A.units + 1 + 1 + _ < _
    omega
  have hlen : l.length = its.length := by
    have := rv.length
    simpa using this
  refine sorted_seq (n := n) (T := T) (o := o) (vs := its) (ltv := fun v u => PySem.W.dataLt (rdV s.heap (toPs (l.map (·.2))) v) (rdV s.heap (toPs (l.map (·.2))) u)) ⟨fun x y => swo_data.asym _ _, fun x y z => swo_data.tr _ _ _⟩ hT ho hc hdat (by rw [← rv.length]; exact hz) (fun h2 h₁ a' kk => data_sortable ra kk hal hnn huu h2) fun out hs hb h' p keep hf he => ?_
  obtain ⟨m', pm, eo⟩ := perm_map_inv (fun p : Value × (V × D) => p.1) hb.perm (its.zip l) z1.symm
  have hm : ∀ p ∈ m', RelV p.2.1 p.1 ∧ ∃ bs, Reads s.heap p.1 (toP p.2.2) bs := fun p hp => z3 p (pm.mem_iff.mp hp)
  have pl : (m'.map (·.2)).Perm l := by
    have := pm.map (·.2)
    rwa [z2] at this
  have hn := hok_none I.hok hf
  subst eo
  have hv' := valsR fun p hp => (hm p hp).1
  obtain ⟨ep, he⟩ := he
  have hz' : ((m'.map (·.2)).map (·.1)).length ≤ sizeLine := by
    rw [List.length_map, pl.length_eq]
    rwa [List.length_map] at hz
  refine ⟨.ref p, upd H p (.lst ((m'.map (·.2)).map (·.1))), I.laidN (t' := s.toks) keep hf hn ⟨hz', _, ep, hv', he⟩, rfl, q _ p pl (pwR hal (fun x hx => ⟨?_, (hm x hx).2⟩) hs) hn⟩
  rw [toPs_map]
  exact List.mem_map_of_mem (f := toP) (List.mem_map_of_mem (f := fun p : V × D => p.2) (pl.mem_iff.mp (List.mem_map_of_mem (f := fun p : Value × (V × D) => p.2) hx)))
end

def cSorted : Sto → List D → Option (List D) := fun S ds => match ds with
  | [x] => (seqD S x).bind fun xs => if gdS xs then some (sortD xs) else none
  | _ => none
theorem rvl_zip {K : PySem.W.Frag} {av : Addr → Prop} {μ : List Addr} {H : Hp} : ∀ {ds : List D} {ys : List V}, RVL K av μ H ds ys → (ys.zip ds).map (·.1) = ys ∧ (ys.zip ds).map (·.2) = ds ∧ ∀ p ∈ ys.zip ds, RV K av μ H p.2 p.1
  | [], ys, h => by
    unfold RVL at h
    subst h
    exact ⟨rfl, rfl, fun p m => absurd m (by simp)⟩
  | d :: ds, ys, h => by
    unfold RVL at h
    obtain ⟨y, ys, rfl, h1, h2⟩ := h
    obtain ⟨e1, e2, ih⟩ := rvl_zip h2
    refine ⟨by simp only [List.zip_cons_cons, List.map_cons, e1], by simp only [List.zip_cons_cons, List.map_cons, e2], fun p m => ?_⟩
    rw [List.zip_cons_cons] at m
    rcases List.mem_cons.mp m with rfl | m
    · exact h1
    · exact ih p m
theorem rvl_unzip {K : PySem.W.Frag} {av : Addr → Prop} {μ : List Addr} {H : Hp} : ∀ {l : List (V × D)}, (∀ p ∈ l, RV K av μ H p.2 p.1) → RVL K av μ H (l.map (·.2)) (l.map (·.1))
  | [], _ => RVL.nil'
  | x :: l, h => RVL.cons' (h x List.mem_cons_self) (rvl_unzip fun p m => h p (List.mem_cons_of_mem _ m))
theorem cf_sorted {K : PySem.W.Frag} : CallF K (rSortD K) cSorted := by
  intro Z μ H S ds es vs Q W r e q
  unfold cSorted at e
  split at e
  · rw [Option.bind_eq_some_iff] at e
    obtain ⟨xs, e1, e2⟩ := e
    split at e2
    · rename_i hg
      cases e2
      obtain ⟨v, rfl, rx⟩ := rvl1 r
      obtain ⟨a, ys, rfl, hs, hr⟩ := seq_of W rx e1
      obtain ⟨z1, z2, z3⟩ := rvl_zip hr
      have ok : okDs 60 xs = true := by
        have hg' := hg
        simp only [gdS, Bool.and_eq_true] at hg'
        exact hg'.1.1
      refine ⟨a, ys.zip xs, rfl, by rw [z1]; exact hs, by rw [z1, z2]; exact dps_of _ _ _ ok hr, by rw [z2]; exact hg, fun l' p pl pw hn => ?_⟩
      have es : l'.map (·.2) = sortD xs := sortD_uniq hg (by have := pl.map (·.2); rwa [z2] at this) (List.pairwise_map.mpr pw)
      have rl : RVLz K Z μ H (sortD xs) (l'.map (·.1)) := by
        rw [← es]
        exact rvl_unzip fun p m => z3 p (pl.mem_iff.mp m)
      have s : Same H (upd H p (.lst (l'.map (·.1)))) := fun c o z => by rw [upd_ne (ne_of_none z hn)]; exact z
      exact q p _ _ hn s upd_same (RVL.newO s hn rl)
    · cases e2
  · cases e
end DL

set_option maxHeartbeats 4000000
namespace DL
open PySem PySem.Spec L2

/-! ### tuple * int, 0 and 1 -/
section
theorem tupMul1 (l : Addr) (items : Array Value) (n : Nat) (dd : Option Addr) (sl : Array (Option Value)) (u : Tok) :
    Meets (Builtin.«tuple.__mul__» ⟨[.ref l, .int 1 u], []⟩) (fun _ R s => s.heap.get? l = some { cls := .type "tuple", dict := dd, data := .seq items n, slots := sl } ∧ R (.ok (.ret (Value.ref l))) s) :=
  .of_wp fun prog w A R s h => by
    obtain ⟨hp, g, d, tk, os⟩ := s
    obtain ⟨hl, h⟩ := h
    have f1 := AutoSeq1.idx_int
    have c1 : (items.isEmpty || ((1 : Int) == 1)) = true := by simp
    have hT : Shared.TypeIs ⟨hp, g, d, tk, os⟩ (.ref l) "tuple" := ⟨_, hl, rfl⟩
    wp_walk using wpAny_loadPart' hl, wpAny_typeOf hT
    repeat (first
      | (refine wpAny_ite_false (decide_eq_false (by decide)) ?_; wp_walk using wpAny_loadPart' hl, wpAny_typeOf hT)
      | (refine wpAny_ite_true (decide_eq_true (by rw [c1])) ?_; wp_walk using wpAny_loadPart' hl, wpAny_typeOf hT))
    exact ⟨_, rfl, h⟩
theorem tupMul0 (l : Addr) (items : Array Value) (n : Nat) (dd : Option Addr) (sl : Array (Option Value)) (u : Tok) (c1 : items.isEmpty = false) :
    Meets (Builtin.«tuple.__mul__» ⟨[.ref l, .int 0 u], []⟩) (fun _ R s => s.heap.get? l = some { cls := .type "tuple", dict := dd, data := .seq items n, slots := sl } ∧
      R (.ok (.ret (Value.ref s.heap.objs.size))) { s with heap := s.heap.push { cls := Value.type "tuple", data := Data.seq #[] }, toks := s.toks }) :=
  .of_wp fun prog w A R s h => by
    obtain ⟨hp, g, d, tk, os⟩ := s
    obtain ⟨hl, h⟩ := h
    have f1 := AutoSeq1.idx_int
    have c2 : (items.isEmpty || ((0 : Int) == 1)) = false := by rw [c1]; rfl
    have c3 : (decide ((0 : Int) ≤ 0) || items.isEmpty) = true := by rfl
    have hT : Shared.TypeIs ⟨hp, g, d, tk, os⟩ (.ref l) "tuple" := ⟨_, hl, rfl⟩
    wp_walk using wpAny_loadPart' hl, wpAny_typeOf hT
    repeat (first
      | (refine wpAny_ite_false (decide_eq_false (by decide)) ?_; wp_walk using wpAny_loadPart' hl, wpAny_typeOf hT)
      | (refine wpAny_ite_false (decide_eq_false (by rw [c2]; exact Bool.false_ne_true)) ?_; wp_walk using wpAny_loadPart' hl, wpAny_typeOf hT)
      | (refine wpAny_ite_true (decide_eq_true (by rw [c3])) ?_; wp_walk using wpAny_loadPart' hl, wpAny_typeOf hT))
    exact ⟨_, rfl, h⟩
variable {X : Cx}
/-- xs * 1 is xs; xs * 0 is new, of nothing -/
def rRep01 (K : PySem.W.Frag) : R2 := fun x y H Q => ∃ l k xs, x = .ref l ∧ y = .int k ∧ SqT K H l xs ∧ ((k = 1 ∧ Q (.ref l) H) ∨ (k = 0 ∧ xs ≠ [] ∧ ∀ p, H p = none → Q (.ref p) (upd H p (.tup []))))
theorem op_rep01 : OpR X (binaryOp .Mult) (rRep01 X.K) := by
  intro pins s σ H x y v u Q I rx ry h
  obtain ⟨l, k, xs, rfl, rfl, hT, q⟩ := h
  cases rx
  obtain ⟨t, rfl⟩ := ry
  obtain ⟨its, r, ⟨⟨cls, dd, data, sl⟩, ho, hc, n, hd⟩, hs⟩ := I.tuple hT
  have hc' : cls = .type "tuple" := hc
  have hd' : data = .seq its.toArray n := hd
  subst hc' hd'
  have road : ∀ (QQ : Value → Shared → Prop) (E : Value → Shared → Prop), wpAny (model X.prog X.w) X.A (call (.builtin "tuple.__mul__") [.ref l, .int k t]) QQ E s → wpAny (model X.prog X.w) X.A (binaryOp .Mult (.ref l) (.int k t)) QQ E s := fun QQ E z =>
    wpAny_binaryOp_repeat_ref (T := "tuple") (U := "int") (by decide) ⟨_, ho, rfl⟩ (fun s' => typeIs_int s' k t) noFill_tuple_mul F.fills_int_mul F.slot_int_rmul repeat_tuple F.slot_int_index.lookup
      (call_meets F.slot_int_rmul (typeIs_int s k t) F.entry_int_rmul (F.args_int_rmul_2 _ _) (int_rmul_tuple k t l its.toArray n dd sl) ⟨ho, rfl, ⟨_, ho, rfl⟩, z⟩)
  refine road _ _ ?_
  rcases q with ⟨rfl, q⟩ | ⟨rfl, hne, q⟩
  · exact call_meets F.slot_tuple_mul ⟨_, ho, rfl⟩ F.entry_tuple_mul (F.args_tuple_mul_2 _ _) (tupMul1 l its.toArray n dd sl t) ⟨ho, .ref l, H, I, rfl, q⟩
  · have hi : its.toArray.isEmpty = false := by
      cases its with
      | nil =>
        have := r.length
        exact absurd (List.eq_nil_of_length_eq_zero this) hne
      | cons a b => rfl
    refine call_meets F.slot_tuple_mul ⟨_, ho, rfl⟩ F.entry_tuple_mul (F.args_tuple_mul_2 _ _) (tupMul0 l its.toArray n dd sl t hi) ⟨ho, ?_⟩
    refine ⟨.ref s.heap.objs.size, _, I.laid (t' := s.toks) (o := .tup []) (fun b ob q => Heap.get?_push_of_some _ q) (Nat.le_refl _) ?_, rfl, q _ (I.hok.fresh (Nat.le_refl _))⟩
    exact ⟨Nat.zero_le _, [], .nil, PyProof.Rows.IsTup.new _ _⟩
end
/-- xs * k, k 0 or 1 -/
def gRep01 : Sto → D → D → Option D := fun _ x y => match x, y with
  | .tup ds, .int k => if k = 1 then some (.tup ds) else if k = 0 && !ds.isEmpty then some (.tup []) else none
  | _, _ => none
theorem od_rep01 {K : PySem.W.Frag} : OpD K (rRep01 K) gRep01 := by
  intro Z μ H S x y d v u Q W rx ry e q
  unfold gRep01 at e
  split at e
  · rename_i ds k
    obtain ⟨a, xs, rfl, hs, hr⟩ := rv_tup.mp rx
    have hy := rv_int.mp ry
    subst hy
    refine ⟨a, k, xs, rfl, rfl, SqT.of hs, ?_⟩
    split at e
    · rename_i hk
      cases e
      exact .inl ⟨hk, q _ H (Same.refl H) (rv_tup.mpr ⟨a, xs, rfl, hs, hr⟩)⟩
    · split at e
      · rename_i hk
        cases e
        simp only [Bool.and_eq_true, decide_eq_true_eq, Bool.not_eq_true'] at hk
        refine .inr ⟨hk.1, fun z => ?_, fun p hp => ?_⟩
        · subst z
          have := hr.length
          rw [List.length_nil] at this
          have := List.eq_nil_of_length_eq_zero this.symm
          rw [this] at hk
          exact absurd hk.2 (by decide)
        · have s : Same H (upd H p (.tup [])) := fun c o z => by rw [upd_ne (ne_of_none z hp)]; exact z
          exact q _ _ s (rv_tup.mpr ⟨p, [], rfl, upd_same, RVL.nil'⟩)
      · cases e
  · cases e
/-! ### is True, is not True -/
def gIsB (neg : Bool) : Sto → D → D → Option D := fun _ x y => match x, y with
  | .bl a, .bl b => some (.bl (if a == b then !neg else neg))
  | _, _ => none
theorem od_isB {K : PySem.W.Frag} : OpD K rIsB (gIsB false) := by
  intro Z μ H S x y d v u Q W rx ry e q
  unfold gIsB at e
  split at e
  · cases e
    have hx := rv_bl.mp rx
    have hy := rv_bl.mp ry
    subst hx hy
    refine ⟨_, _, rfl, rfl, q _ H (Same.refl H) ?_⟩
    rename_i a b
    cases a <;> cases b <;> exact rv_bl.mpr rfl
  · cases e
theorem od_notB {K : PySem.W.Frag} : OpD K rNotB (gIsB true) := by
  intro Z μ H S x y d v u Q W rx ry e q
  unfold gIsB at e
  split at e
  · cases e
    have hx := rv_bl.mp rx
    have hy := rv_bl.mp ry
    subst hx hy
    refine ⟨_, _, rfl, rfl, q _ H (Same.refl H) ?_⟩
    rename_i a b
    cases a <;> cases b <;> exact rv_bl.mpr rfl
  · cases e
end DL

set_option maxHeartbeats 4000000
namespace DL
open PySem PySem.Spec L2

/-! ### list + list, slices of lists as values -/
theorem OpD.or {K : PySem.W.Frag} {r r' : R2} {g g' : Sto → D → D → Option D} (h : OpD K r g) (h' : OpD K r' g') : OpD K (fun x y H Q => r x y H Q ∨ r' x y H Q) (fun S x y => (g S x y).or (g' S x y)) := by
  intro Z μ H S x y d v u Q W rx ry e q
  have e' : (g S x y).or (g' S x y) = some d := e
  cases h1 : g S x y with
  | some d1 =>
    rw [h1] at e'
    have : d1 = d := by simpa using e'
    subst this
    exact .inl (h Z μ H S x y d1 v u Q W rx ry h1 q)
  | none =>
    rw [h1] at e'
    exact .inr (h' Z μ H S x y d v u Q W rx ry (by simpa using e') q)
theorem OpF.val {K : PySem.W.Frag} {r : R2} {g : Sto → D → D → Option (List D)} (h : OpF K r g) : OpD K r (fun S x y => (g S x y).map .lst) := by
  intro Z μ H S x y d v u Q W rx ry e q
  rw [Option.map_eq_some_iff] at e
  obtain ⟨ds, e1, rfl⟩ := e
  exact h Z μ H S x y ds v u Q W rx ry e1 fun a xs H' n s h1 h2 => q _ H' s (RV.lst_of W n h1 h2)
def gAddA : Sto → D → D → Option D := fun S x y => match x with
  | .int i => match y with | .int j => some (.int (i + j)) | _ => none
  | .tup a => match y with | .tup b => if small (a.length + b.length) then some (.tup (a ++ b)) else none | _ => none
  | _ => (gCatF S x y).map .lst
theorem gAddA_eq (S : Sto) (x y : D) : gAddA S x y = (gAdd S x y).or ((gCatF S x y).map .lst) := by
  cases x <;> cases y <;> simp [gAddA, gAdd, gCatF, lstD]
abbrev rAddA (K : PySem.W.Frag) : R2 := fun x y H Q => ((rI0 fun i j => .int (i + j)) x y H Q ∨ rCatA K x y H Q) ∨ rCat x y H Q
theorem op_addA {X : Cx} : OpR X (binaryOp .Add) (rAddA X.K) := op_addD.or op_cat
theorem od_addA {K : PySem.W.Frag} : OpD K (rAddA K) gAddA := by
  have h := OpD.or (od_add (K := K)) (OpF.val od_catF)
  have e : gAddA = fun S x y => (gAdd S x y).or ((gCatF S x y).map .lst) := by
    funext S x y
    exact gAddA_eq S x y
  rw [e]
  exact h
section
variable {X : Cx} {a : Expr} {pos : Pos} {fa : E}
def eCutA (f : E) (lo hi : EO) : E := fun ρ S => (f ρ S).bind fun d => (lo ρ S).bind fun l => (hi ρ S).bind fun h => match d with
  | .tup ds => some (.tup (cutD ds l h))
  | d => (lstD S d).map fun ds => .lst (cutD ds l h)
theorem d_cutA {lo hi : Option Expr} {fl fh : EO} {p2 : Pos} (ha : PE X a (tD X.K fa)) (hl : PO X lo (tP X.K fl)) (hh : PO X hi (tP X.K fh)) : PE X (.Subscript a (.Slice lo hi none p2) pos) (tD X.K (eCutA fa fl fh)) :=
  pe_imp (pe_slice (SlR.or sl_tupA sl_list) ha hl hh) fun σ H Q ⟨Z, μ, ρ, S, R, d, e, q⟩ => by
    simp only [eCutA, Option.bind_eq_some_iff] at e
    obtain ⟨x, e1, l, e2, h, e3, e4⟩ := e
    refine ⟨Z, μ, ρ, S, R, x, e1, fun v H1 s1 r1 => ⟨Z, μ, ρ, S, R.mono s1, l, e2, fun H2 s2 => ⟨Z, μ, ρ, S, (R.mono s1).mono s2, h, e3, fun H3 s3 => ?_⟩⟩⟩
    have W3 := ((R.wd.mono s1).mono s2).mono s3
    split at e4
    · rename_i ds
      simp only [Option.some.injEq] at e4
      subst e4
      obtain ⟨p, xs, rfl, hs, hr⟩ := rv_tup.mp (RV.mono (s2.trans s3) r1)
      refine .inl ⟨p, xs, rfl, SqT.of hs, fun hw => ?_, fun hw t ht => ?_⟩
      · refine q _ H3 (s1.trans (s2.trans s3)) (rv_tup.mpr ⟨p, xs, rfl, hs, ?_⟩)
        have hc : cutD ds l h = ds := by
          unfold cutD
          rw [← RVL.length hr, hw.1, hw.2]
          simp [RVL.length hr]
        rw [hc]; exact hr
      · have s : Same H3 (upd H3 t (.tup (cutV xs l h))) := fun c o z => by rw [upd_ne (ne_of_none z ht)]; exact z
        exact q _ _ ((s1.trans (s2.trans s3)).trans s) (rv_tup.mpr ⟨t, _, rfl, upd_same, RVL.mono s (rvl_cut l h hr)⟩)
    · rw [Option.map_eq_some_iff] at e4
      obtain ⟨es, e4, rfl⟩ := e4
      obtain ⟨p, xs, rfl, hs, hr⟩ := lst_of W3 (RV.mono (s2.trans s3) r1) e4
      refine .inr ⟨p, xs, rfl, SqL.of hs, fun t ht => ?_⟩
      have s : Same H3 (upd H3 t (.lst (cutV xs l h))) := fun c o z => by rw [upd_ne (ne_of_none z ht)]; exact z
      exact q _ _ ((s1.trans (s2.trans s3)).trans s) (RV.lst_of W3 ht upd_same (RVL.newO s ht (rvl_cut l h hr)))
end
/-- int * int, tuple * 0 or 1 -/
def gMulA : Sto → D → D → Option D := fun S x y => match x with
  | .tup _ => gRep01 S x y
  | _ => gMul S x y
abbrev rMulA (K : PySem.W.Frag) : R2 := fun x y H Q => (rI CMul fun i j => .int (i * j)) x y H Q ∨ rRep01 K x y H Q
theorem op_mulA {X : Cx} : OpR X (binaryOp .Mult) (rMulA X.K) := op_mul.or op_rep01
theorem od_mulA {K : PySem.W.Frag} : OpD K (rMulA K) gMulA := by
  have h := OpD.or (od_mul (K := K)) (od_rep01 (K := K))
  have e : gMulA = fun S x y => (gMul S x y).or (gRep01 S x y) := by
    funext S x y
    cases x <;> cases y <;> simp [gMulA, gI, gRep01]
  rw [e]
  exact h

/-! ### room -/
theorem hu64 {k : Nat} {A : Around} (h : Room k A) : A.units + 64 < cLine := by have := h.un; omega
theorem hu65 {k : Nat} {A : Around} (h : Room k A) : A.units + 65 < cLine := by have := h.un; omega
section
variable {X : Cx} {pos : Pos}
theorem d_globI {x : Str} {i : Int} (hg : Gl X x) (hm : ∃ t, X.mg x = some (.int i t)) (hdb : (x == ("__debug__" : Str)) = false := by decide) : PE X (.Name x pos) (tD X.K (eC (.int i))) := by
  obtain ⟨t, hm⟩ := hm
  exact d_glob (d := .int i) hg hm ⟨t, rfl⟩ rfl hdb
end
end DL

set_option maxHeartbeats 4000000
namespace DL
open PySem PySem.Spec L2

/-! ### tuple(range(..)), list(range(..)) -/
def rg1 (f : E) : EL := fun ρ S => (f ρ S).bind fun d => match d with
  | .int n => if lim62 n && small n.toNat then some (rngD 0 1 n.toNat) else none
  | _ => none
def rg2 (f g : E) : EL := fun ρ S => (f ρ S).bind fun d => (g ρ S).bind fun e => match d, e with
  | .int i, .int j => if lim62 i && lim62 j && small (j - i).toNat then some (rngD i 1 (j - i).toNat) else none
  | _, _ => none
def eTupL (f : EL) : E := fun ρ S => (f ρ S).map .tup
theorem rvl_rg {K : PySem.W.Frag} {av : Addr → Prop} {μ : List Addr} {H : Hp} (a b : Int) : RVL K av μ H (rngD a 1 (b - a).toNat) (rgV a b) := by
  unfold rngD rgV
  generalize List.range (b - a).toNat = l
  induction l with
  | nil => exact RVL.nil'
  | cons k l ih => exact RVL.cons' (rv_int.mpr (by rw [Int.mul_one])) ih
theorem rgOk_of {i j : Int} (h1 : lim62 i = true) (h2 : lim62 j = true) (h3 : small (j - i).toNat = true) : RgOk i j := by
  have a := lim62_of h1
  have b := lim62_of h2
  have c : (j - i).toNat ≤ 1000000 := of_decide_eq_true h3
  exact ⟨a.1, a.2, b.1, b.2, by omega⟩
section
variable {X : Cx} {a b : Expr} {p p2 q pos : Pos} {fa fb : E}
theorem rg1_of {K : PySem.W.Frag} {σ : L2.St} {H : Hp} {R : Int → Int → Hp → Prop} {Z : Fr} {μ : List Addr} {ρ : Rho} {S : Sto} {ds : List D} (Rl : Rel K Z μ σ H ρ S) (e : rg1 fa ρ S = some ds)
    (h : ∀ i j H', Same H H' → RgOk i j → ds = rngD i 1 (j - i).toNat → R i j H') : tRg1 (tD K fa) σ H R := by
  simp only [rg1, Option.bind_eq_some_iff] at e
  obtain ⟨d, e1, e2⟩ := e
  refine ⟨Z, μ, ρ, S, Rl, d, e1, fun v H1 s1 r1 => ?_⟩
  split at e2
  · rename_i n
    split at e2
    · rename_i hl
      rw [Bool.and_eq_true] at hl
      cases e2
      refine ⟨n, rv_int.mp r1, h 0 n H1 s1 (rgOk_of (by decide) hl.1 (by rw [Int.sub_zero]; exact hl.2)) (by rw [Int.sub_zero])⟩
    · cases e2
  · cases e2
theorem rg2_of {K : PySem.W.Frag} {σ : L2.St} {H : Hp} {R : Int → Int → Hp → Prop} {Z : Fr} {μ : List Addr} {ρ : Rho} {S : Sto} {ds : List D} (Rl : Rel K Z μ σ H ρ S) (e : rg2 fa fb ρ S = some ds)
    (h : ∀ i j H', Same H H' → RgOk i j → ds = rngD i 1 (j - i).toNat → R i j H') : tRg2 (tD K fa) (tD K fb) σ H R := by
  simp only [rg2, Option.bind_eq_some_iff] at e
  obtain ⟨d, e1, d2, e3, e2⟩ := e
  refine ⟨Z, μ, ρ, S, Rl, d, e1, fun v H1 s1 r1 => ⟨Z, μ, ρ, S, Rl.mono s1, d2, e3, fun u H2 s2 r2 => ?_⟩⟩
  split at e2
  · rename_i n m
    split at e2
    · rename_i hl
      simp only [Bool.and_eq_true] at hl
      cases e2
      exact ⟨n, m, rv_int.mp r1, rv_int.mp r2, h n m H2 (s1.trans s2) (rgOk_of hl.1.1 hl.1.2 hl.2) rfl⟩
    · cases e2
  · cases e2
theorem d_tupRg1 (hc : X.calm = true) (hg : Gl X "tuple") (hm : X.mg "tuple" = none) (hg2 : Gl X "range") (hm2 : X.mg "range" = none) (ha : PE X a (tD X.K fa)) (na : starEach [a] X.env = (false, eval a X.env) :: starEach [] X.env := by rfl)
    (n2 : starEach [.Call (.Name "range" p2) [a] [] p] X.env = (false, eval (.Call (.Name "range" p2) [a] [] p) X.env) :: starEach [] X.env := by rfl) : PE X (.Call (.Name "tuple" q) [.Call (.Name "range" p2) [a] [] p] [] pos) (tD X.K (eTupL (rg1 fa))) :=
  pe_imp (pe_tupRg hc hg hm (prg_1 hg2 hm2 ha na) n2) fun σ H Q ⟨Z, μ, ρ, S, R, d, e, q⟩ => by
    simp only [eTupL, Option.map_eq_some_iff] at e
    obtain ⟨ds, e1, rfl⟩ := e
    refine rg1_of R e1 fun i j H' s ok ed => ⟨ok, fun t ht => ?_⟩
    subst ed
    have s2 : Same H' (upd H' t (.tup (rgV i j))) := fun c o z => by rw [upd_ne (ne_of_none z ht)]; exact z
    exact q _ _ (s.trans s2) (rv_tup.mpr ⟨t, _, rfl, upd_same, rvl_rg i j⟩)
theorem d_tupRg2 (hc : X.calm = true) (hg : Gl X "tuple") (hm : X.mg "tuple" = none) (hg2 : Gl X "range") (hm2 : X.mg "range" = none) (ha : PE X a (tD X.K fa)) (hb : PE X b (tD X.K fb)) (na : starEach [a, b] X.env = (false, eval a X.env) :: starEach [b] X.env := by rfl) (nb : starEach [b] X.env = (false, eval b X.env) :: starEach [] X.env := by rfl)
    (hp : (backTo p (starEach [b] X.env)).any (·.1) = false := by rfl)
    (n2 : starEach [.Call (.Name "range" p2) [a, b] [] p] X.env = (false, eval (.Call (.Name "range" p2) [a, b] [] p) X.env) :: starEach [] X.env := by rfl) : PE X (.Call (.Name "tuple" q) [.Call (.Name "range" p2) [a, b] [] p] [] pos) (tD X.K (eTupL (rg2 fa fb))) :=
  pe_imp (pe_tupRg hc hg hm (prg_2 hg2 hm2 ha hb na nb hp) n2) fun σ H Q ⟨Z, μ, ρ, S, R, d, e, q⟩ => by
    simp only [eTupL, Option.map_eq_some_iff] at e
    obtain ⟨ds, e1, rfl⟩ := e
    refine rg2_of R e1 fun i j H' s ok ed => ⟨ok, fun t ht => ?_⟩
    subst ed
    have s2 : Same H' (upd H' t (.tup (rgV i j))) := fun c o z => by rw [upd_ne (ne_of_none z ht)]; exact z
    exact q _ _ (s.trans s2) (rv_tup.mpr ⟨t, _, rfl, upd_same, rvl_rg i j⟩)
theorem d_lstRg1 (hc : X.calm = true) (hg : Gl X "list") (hm : X.mg "list" = none) (hg2 : Gl X "range") (hm2 : X.mg "range" = none) (ha : PE X a (tD X.K fa)) (na : starEach [a] X.env = (false, eval a X.env) :: starEach [] X.env := by rfl)
    (n2 : starEach [.Call (.Name "range" p2) [a] [] p] X.env = (false, eval (.Call (.Name "range" p2) [a] [] p) X.env) :: starEach [] X.env := by rfl) : PE X (.Call (.Name "list" q) [.Call (.Name "range" p2) [a] [] p] [] pos) (tF X.K (rg1 fa)) :=
  pe_imp (pe_listRg hc hg hm (prg_1 hg2 hm2 ha na) n2) fun σ H Q ⟨Z, μ, ρ, S, R, ds, e1, q⟩ => by
    refine rg1_of R e1 fun i j H' s ok ed => ⟨ok, fun t ht => ?_⟩
    subst ed
    have s2 : Same H' (upd H' t (.lst (rgV i j))) := fun c o z => by rw [upd_ne (ne_of_none z ht)]; exact z
    exact q t _ _ (s.free ht) (s.trans s2) upd_same (rvl_rg i j)
theorem d_lstRg2 (hc : X.calm = true) (hg : Gl X "list") (hm : X.mg "list" = none) (hg2 : Gl X "range") (hm2 : X.mg "range" = none) (ha : PE X a (tD X.K fa)) (hb : PE X b (tD X.K fb)) (na : starEach [a, b] X.env = (false, eval a X.env) :: starEach [b] X.env := by rfl) (nb : starEach [b] X.env = (false, eval b X.env) :: starEach [] X.env := by rfl)
    (hp : (backTo p (starEach [b] X.env)).any (·.1) = false := by rfl)
    (n2 : starEach [.Call (.Name "range" p2) [a, b] [] p] X.env = (false, eval (.Call (.Name "range" p2) [a, b] [] p) X.env) :: starEach [] X.env := by rfl) : PE X (.Call (.Name "list" q) [.Call (.Name "range" p2) [a, b] [] p] [] pos) (tF X.K (rg2 fa fb)) :=
  pe_imp (pe_listRg hc hg hm (prg_2 hg2 hm2 ha hb na nb hp) n2) fun σ H Q ⟨Z, μ, ρ, S, R, ds, e1, q⟩ => by
    refine rg2_of R e1 fun i j H' s ok ed => ⟨ok, fun t ht => ?_⟩
    subst ed
    have s2 : Same H' (upd H' t (.lst (rgV i j))) := fun c o z => by rw [upd_ne (ne_of_none z ht)]; exact z
    exact q t _ _ (s.free ht) (s.trans s2) upd_same (rvl_rg i j)
end

/-! ### what is built in -/
theorem bt_int : bootBuiltins "int" = some (.type "int") := by decide +kernel
theorem bt_bool : bootBuiltins "bool" = some (.type "bool") := by decide +kernel
theorem bt_str : bootBuiltins "str" = some (.type "str") := by decide +kernel
theorem bt_list : bootBuiltins "list" = some (.type "list") := by decide +kernel
theorem bt_tuple : bootBuiltins "tuple" = some (.type "tuple") := by decide +kernel
theorem bt_dict : bootBuiltins "dict" = some (.type "dict") := by decide +kernel
theorem bt_set : bootBuiltins "set" = some (.type "set") := by decide +kernel
theorem bt_len : bootBuiltins "len" = some (.builtin "len") := by decide +kernel
theorem bt_abs : bootBuiltins "abs" = some (.builtin "abs") := by decide +kernel
theorem bt_sum : bootBuiltins "sum" = some (.builtin "sum") := by decide +kernel
theorem bt_any : bootBuiltins "any" = some (.builtin "any") := by decide +kernel
theorem bt_all : bootBuiltins "all" = some (.builtin "all") := by decide +kernel
theorem bt_max : bootBuiltins "max" = some (.builtin "max") := by decide +kernel
theorem bt_min : bootBuiltins "min" = some (.builtin "min") := by decide +kernel
theorem bt_sorted : bootBuiltins "sorted" = some (.builtin "sorted") := by decide +kernel
theorem bt_isinstance : bootBuiltins "isinstance" = some (.builtin "isinstance") := by decide +kernel

section
variable {P : Program} {w : World} {K : PySem.W.Frag} {mg : Str → Option Value} {base : Heap} {x : Str} {st : Stmt} {N ps : List Str} {k : Nat} {body : T}
theorem fnDn {n m j : Nat} (h : Tx K mg x st ps) (S : FnScope N ps (defScope st)) (hn : N.length = n) (hm : ps.length = m) (hj : k + 1 = j)
    (hb : ∀ (f : Addr) (cdv : Value) (A : Around) (outer : List Env) (s : Shared) (H : Hp) (E : XK), Room k (A.deeper (PyProof.Rows.envOfC x (defScope st) s.heap.objs.size f cdv)) → PSs (cxOf CX0 P w K mg base N x (defScope st) f cdv A outer s H E).nox (defBody st) (tS K body)) :
    At P w K mg base x j m (runD body n) := by
  subst hn hm hj
  exact fnD h S hb
theorem fnFn {n m j : Nat} (h : Tx K mg x st ps) (S : FnScope N ps (defScope st)) (hn : N.length = n) (hm : ps.length = m) (hj : k + 1 = j)
    (hb : ∀ (f : Addr) (cdv : Value) (A : Around) (outer : List Env) (s : Shared) (H : Hp) (E : XK), Room k (A.deeper (PyProof.Rows.envOfC x (defScope st) s.heap.objs.size f cdv)) → PSs (cxOf CX0 P w K mg base N x (defScope st) f cdv A outer s H E).nox (defBody st) (tS K body)) :
    AtF P w K mg base x j m (runF body n) := by
  subst hn hm hj
  exact fnF h S hb
theorem fnOn {f : Addr} {fd : FuncData} {n m j : Nat} (F : Fun K x x st f fd) (S : FnScope N ps (defScope st)) (hn : N.length = n) (hm : ps.length = m) (hj : k + 1 = j)
    (hb : ∀ (f : Addr) (cdv : Value) (A : Around) (outer : List Env) (s : Shared) (H : Hp) (E : XK), Room k (A.deeper (PyProof.Rows.envOfC x (defScope st) s.heap.objs.size f cdv)) → PSs (cxOf CX0 P w K mg base N x (defScope st) f cdv A outer s H E).nox (defBody st) (tS K body)) :
    FnOk P w K mg base CX0 j f fd ps (spD K m (runD body n)) := by
  subst hn hm hj
  exact fnO F S hb
end
end DL

set_option maxHeartbeats 4000000
namespace DL
open PySem PySem.Spec L2

/-! ### the ends: what the top has written, the law -/
theorem tx_mk {K : PySem.W.Frag} {h : Heap} {mg : Str → Option Value} (X : K.In h) (G : h.Ns mainGlobals mg) {x : Str} {st : Stmt} {ps : List Str} {f : Addr} {od an : Option Addr} {sl : Array (Option Value)} {oc kV dc pm cd ct : Value}
    (hb : ∀ (kV doc pm : Value) (an : Option Addr) (cdv ct : Value) (us : List Value), us.length = ps.length → bindArgs (PySem.W.fnOf x x (defArgs st) (defBody st) (defScope st) .none kV doc pm an cdv ct) ⟨us, []⟩ = pure (ps.zip us))
    (a : PySem.W.nsIn K mainGlobals x = some (some (.ref f))) (l : K.lookup f = some ⟨oc, od, .func (PySem.W.fnOf x x (defArgs st) (defBody st) (defScope st) .none kV dc pm an cd ct), sl⟩)
    (c : PySem.W.codeIn K cd x = true) (k : PySem.W.keepIn K (.ref f) = true) : Tx K mg x st ps :=
  ⟨f, _, PySem.W.mg_of X G a, fun_mk (st := st) l c k, (fun_mk (st := st) l c k).binds hb⟩
theorem scr_of {K : PySem.W.Frag} {H : Hp} {a : Addr} {ns : List Int} (hO : Only H) (hS : SqL K H a (ns.map V.int)) : RVL K (fun _ => False) [] H [.scr ns] [.ref a] := by
  refine RVL.one (rv_scr.mpr ⟨a, rfl, ?_⟩)
  rcases hS with (h | ⟨o, h⟩) | h
  · rcases hO a with z | ⟨o, xs, z⟩
    · rw [z] at h; cases h
    · rw [z] at h; cases h
  · exact .inl ⟨o, h⟩
  · exact .inr fun H' => .inr h
/-- the law's promise, from the plain law -/
theorem sp_law {K : PySem.W.Frag} {g : List D → Option D} {n : Nat} (pl : ∀ ns : List Int, ns.length ≤ n → g [.scr ns] = some (.bl true)) (H : Hp) (a : Addr) (ns : List Int) (hl : ns.length ≤ n) (hO : Only H) (hS : SqL K H a (ns.map V.int)) :
    spD K 1 g [.ref a] H (fun v _ => v = .bl true) fun _ _ _ => False :=
  ⟨fun _ => False, [.scr ns], rfl, fun _ z => z.elim, scr_of hO hS, .bl true, pl ns hl, fun v H' _ r => rv_bl.mp r⟩
theorem law_walk {l : PySem.W.OpenLaw} {n k : Nat} {q : Program} {loose : List Str} {XP : (Str → Option Value) → Heap → Prop} {YP : World → Heap → Prop} {d : DefRec} {K : Params → PySem.W.Frag} {g : List D → Option D} {x : Str}
    (hn : l.most = some n) (hn2 : n ≤ sizeLine) (hdf : d.params.defaults = []) (hr : Room k callerA) (hY : ∀ (w : World) (h : Heap), YP w h → (K w.params).In h) (pl : ∀ ns : List Int, ns.length ≤ n → g [.scr ns] = some (.bl true))
    (F : ∀ (w : World) (mg : Str → Option Value) (fa : Addr) (h : Heap), (K w.params).In h → h.Ns mainGlobals mg → mg d.name = some (.ref fa) →
      ∃ fd : FuncData, (∀ (s : Shared) (u : Value), BindsTo s fd ⟨[u], []⟩ [(x, u)]) ∧
        ∀ base : Heap, (K w.params).In base → base.Ns mainGlobals mg → FnOk l.prog w (K w.params) mg base CX0 k fa fd [x] (spD (K w.params) 1 g)) :
    PySem.W.WalkO q loose XP YP l.row.toRowW d [] (fun f vs => PySem.call f vs) :=
  L2.walk_of (n := n) (k := k) (x := x) (CX := fun _ => CX0) (sp := fun w => spD (K w.params) 1 g) hn hn2 hdf hr hY F (fun _ H a ns hl hO hS => sp_law pl H a ns hl hO hS) fun _ _ _ _ _ z => z
end DL

set_option maxHeartbeats 4000000
namespace DL
open PySem PySem.Spec L2

/-! ### dicts: keys are ints and texts (false), or tuples of these (true) -/
def keyOf : D → Option Key
  | .int i => some (.inl i)
  | .str s => some (.inr s)
  | _ => none
def keysOf : List D → Option (List Key)
  | [] => some []
  | d :: ds => (keyOf d).bind fun k => (keysOf ds).map fun ks => k :: ks
def keyT (t : Bool) (d : D) : Bool := match t, d with
  | false, d => (keyOf d).isSome
  | true, .tup ds => (keysOf ds).isSome
  | _, _ => false
/-- what stands at a key -/
def lookD : List D → List D → D → Option D
  | k :: ks, v :: vs, x => if eqD k x then some v else lookD ks vs x
  | _, _, _ => none
def hasD (ks : List D) (x : D) : Bool := ks.any fun k => eqD k x
def putV : List D → List D → D → D → List D
  | k :: ks, w :: vs, x, v => (if eqD k x then v else w) :: putV ks vs x v
  | _, _, _, _ => []
/-- the dict that an expression tells -/
def dicD (S : Sto) : D → Option (Bool × List D × List D)
  | .dic t ks vs => some (t, ks, vs)
  | .ref n => match S[n]? with
    | some (.dic t ks vs) => some (t, ks, vs)
    | _ => none
  | _ => none
theorem keyD_inj {a b : Key} : eqD (keyD a) (keyD b) = decide (a = b) := by
  cases a with
  | inl i =>
    cases b with
    | inl j =>
      simp only [keyD, eqD, Sum.inl.injEq]
      by_cases h : i = j <;> simp [h]
    | inr y => simp [keyD, eqD]
  | inr x =>
    cases b with
    | inl j => simp [keyD, eqD]
    | inr y =>
      simp only [keyD, eqD, Sum.inr.injEq]
      by_cases h : x = y <;> simp [h]
theorem keyDs_inj : ∀ {a b : List Key}, eqDs (a.map keyD) (b.map keyD) = decide (a = b)
  | [], [] => rfl
  | [], _ :: _ => by simp [eqDs]
  | _ :: _, [] => by simp [eqDs]
  | x :: a, y :: b => by
    simp only [List.map_cons, eqDs, keyD_inj, keyDs_inj, List.cons.injEq]
    by_cases h1 : x = y <;> by_cases h2 : a = b <;> simp [h1, h2]
theorem keyOf_some {d : D} {k : Key} (h : keyOf d = some k) : d = keyD k := by
  cases d <;> simp [keyOf] at h <;> subst h <;> rfl
theorem keysOf_some : ∀ {ds : List D} {ks : List Key}, keysOf ds = some ks → ds = ks.map keyD
  | [], ks, h => by simp [keysOf] at h; subst h; rfl
  | d :: ds, ks, h => by
    simp only [keysOf, Option.bind_eq_some_iff, Option.map_eq_some_iff] at h
    obtain ⟨k, h1, ks', h2, rfl⟩ := h
    rw [keyOf_some h1, keysOf_some h2]; rfl
section
variable {K : PySem.W.Frag} {av : Addr → Prop} {μ : List Addr} {H : Hp}
theorem rv_key {k : Key} {v : V} (h : RV K av μ H (keyD k) v) : v = kV k := by
  cases k with
  | inl i => exact rv_int.mp h
  | inr s => exact rv_str.mp h
theorem rvl_keys : ∀ {ks : List Key} {vs : List V}, RVL K av μ H (ks.map keyD) vs → vs = ks.map kV
  | [], vs, h => by simpa [rvl_nil] using h
  | k :: ks, vs, h => by
    simp only [List.map_cons, rvl_cons] at h
    obtain ⟨y, ys, rfl, h1, h2⟩ := h
    rw [rv_key h1, rvl_keys h2]; rfl
theorem look_k {κ : Type} [DecidableEq κ] (f : κ → D) (hf : ∀ a b, eqD (f a) (f b) = decide (a = b)) (k : κ) : ∀ {kvs : List (κ × V)} {vs : List D}, RVL K av μ H vs (kvs.map (·.2)) →
    match lookD (kvs.map fun p => f p.1) vs (f k) with
    | some d => ∃ v, valV kvs k = some v ∧ RV K av μ H d v
    | none => valV kvs k = none
  | [], vs, h => by
    have : lookD [] vs (f k) = none := by cases vs <;> rfl
    simp only [List.map_nil, this]
    rfl
  | p :: kvs, vs, h => by
    cases vs with
    | nil => rw [rvl_nil] at h; cases h
    | cons d vs =>
      rw [List.map_cons, rvl_cons] at h
      obtain ⟨y, ys, e, h1, h2⟩ := h
      cases e
      simp only [List.map_cons, lookD, hf]
      by_cases e : p.1 = k
      · rw [decide_eq_true e, if_pos rfl]
        exact ⟨_, valV_pos e, h1⟩
      · rw [decide_eq_false e, if_neg (by decide), valV_neg e]
        exact look_k f hf k h2
theorem has_k {κ : Type} [DecidableEq κ] (f : κ → D) (hf : ∀ a b, eqD (f a) (f b) = decide (a = b)) (k : κ) (kvs : List (κ × V)) : hasD (kvs.map fun p => f p.1) (f k) = (valV kvs k).isSome := by
  rw [← valV_any]
  unfold hasD
  rw [List.any_map]
  congr 1
  funext p
  exact hf p.1 k
theorem put_k {κ : Type} [DecidableEq κ] (f : κ → D) (hf : ∀ a b, eqD (f a) (f b) = decide (a = b)) (k : κ) {d : D} {v : V} (r : RV K av μ H d v) : ∀ {kvs : List (κ × V)} {vs : List D}, RVL K av μ H vs (kvs.map (·.2)) →
    RVL K av μ H (putV (kvs.map fun p => f p.1) vs (f k) d) ((kvs.map fun kv => if kv.1 = k then (kv.1, v) else kv).map (·.2)) ∧ (kvs.map fun kv => if kv.1 = k then (kv.1, v) else kv).map (fun p => f p.1) = kvs.map fun p => f p.1
  | [], vs, h => by
    have : putV [] vs (f k) d = [] := by cases vs <;> rfl
    simp only [List.map_nil, this]
    exact ⟨RVL.nil', trivial⟩
  | p :: kvs, vs, h => by
    cases vs with
    | nil => rw [rvl_nil] at h; cases h
    | cons w vs =>
      rw [List.map_cons, rvl_cons] at h
      obtain ⟨y, ys, e, h1, h2⟩ := h
      cases e
      obtain ⟨i1, i2⟩ := put_k f hf k r h2
      simp only [List.map_cons, putV, hf]
      by_cases e : p.1 = k
      · rw [decide_eq_true e, if_pos rfl, if_pos e]
        exact ⟨RVL.cons' r i1, by rw [i2]⟩
      · rw [decide_eq_false e, if_neg (by decide), if_neg e]
        exact ⟨RVL.cons' h1 i1, by rw [i2]⟩
end
theorem tupD_inj {a b : List Key} : eqD (.tup (a.map keyD)) (.tup (b.map keyD)) = decide (a = b) := by
  show eqDs _ _ = _
  exact keyDs_inj
/-- the object behind -/
theorem dic_of {K : PySem.W.Frag} {Z : Fr} {μ : List Addr} {H : Hp} {S : Sto} {d : D} {t : Bool} {ks vs : List D} {v : V} (W : Wd K Z μ H S) (r : RVz K Z μ H d v) (h : dicD S d = some (t, ks, vs)) :
    ∃ a, v = .ref a ∧ ((t = false ∧ ∃ kvs, H a = some (.dK kvs) ∧ ks = dicKs kvs ∧ RVLz K Z μ H vs (kvs.map (·.2))) ∨ (t = true ∧ ∃ kvs, H a = some (.dT kvs) ∧ ks = dicKsT kvs ∧ RVLz K Z μ H vs (kvs.map (·.2)))) := by
  cases d with
  | dic t' ks' vs' =>
    simp only [dicD, Option.some.injEq, Prod.mk.injEq] at h
    obtain ⟨rfl, rfl, rfl⟩ := h
    obtain ⟨a, e, _, h⟩ := rv_dic.mp r
    exact ⟨a, e, h⟩
  | ref n =>
    simp only [dicD] at h
    split at h
    · rename_i t' ks' vs' hc
      simp only [Option.some.injEq, Prod.mk.injEq] at h
      obtain ⟨rfl, rfl, rfl⟩ := h
      obtain ⟨a, e, hn⟩ := rv_ref.mp r
      exact ⟨a, e, W.cell n _ a hc hn⟩
    · cases h
  | _ => simp [dicD] at h
/-- what the dict holds at the key -/
theorem dget_of {K : PySem.W.Frag} {Z : Fr} {μ : List Addr} {H : Hp} {S : Sto} {d x : D} {t : Bool} {ks vs : List D} {v u : V} (W : Wd K Z μ H S) (r : RVz K Z μ H d v) (rx : RVz K Z μ H x u) (h : dicD S d = some (t, ks, vs)) (hk : keyT t x = true) :
    ∃ a o, v = .ref a ∧ DGet H a u o ∧ o.isSome = hasD ks x ∧ ∀ y, lookD ks vs x = some y → ∃ w, o = some w ∧ RVz K Z μ H y w := by
  obtain ⟨a, e, h⟩ := dic_of W r h
  rcases h with ⟨rfl, kvs, h1, rfl, h2⟩ | ⟨rfl, kvs, h1, rfl, h2⟩
  · have hk' : (keyOf x).isSome = true := hk
    obtain ⟨k, ek⟩ := Option.isSome_iff_exists.mp hk'
    have ex := keyOf_some ek
    subst ex
    rw [rv_key rx]
    refine ⟨a, _, e, DGet.k h1, (has_k keyD (fun _ _ => keyD_inj) k kvs).symm, fun y hy => ?_⟩
    have q := look_k (K := K) (av := avd Z μ) (μ := μ) (H := H) keyD (fun _ _ => keyD_inj) k h2
    have hy' : lookD (kvs.map fun p => keyD p.1) vs (keyD k) = some y := hy
    rw [hy'] at q
    exact q
  · cases x with
    | tup ds =>
      have hk' : (keysOf ds).isSome = true := hk
      obtain ⟨k, ek⟩ := Option.isSome_iff_exists.mp hk'
      have ex := keysOf_some ek
      subst ex
      obtain ⟨b, xs, rfl, hb, hr⟩ := rv_tup.mp rx
      rw [rvl_keys hr] at hb
      refine ⟨a, _, e, DGet.t h1 hb, (has_k (fun k : List Key => D.tup (k.map keyD)) (fun _ _ => tupD_inj) k kvs).symm, fun y hy => ?_⟩
      have q := look_k (K := K) (av := avd Z μ) (μ := μ) (H := H) (fun k : List Key => D.tup (k.map keyD)) (fun _ _ => tupD_inj) k h2
      have hy' : lookD (kvs.map fun p => D.tup (p.1.map keyD)) vs (.tup (k.map keyD)) = some y := hy
      rw [hy'] at q
      exact q
    | _ => simp [keyT] at hk
end DL

set_option maxHeartbeats 4000000
namespace DL
open PySem PySem.Spec L2

/-! ### dicts: words of the text -/
def gDGet : Sto → D → D → Option D := fun S d x => (dicD S d).bind fun p => if keyT p.1 x then lookD p.2.1 p.2.2 x else none
def gDIn (neg : Bool) : Sto → D → D → Option D := fun S x d => (dicD S d).bind fun p => if keyT p.1 x then some (.bl (if neg then !hasD p.2.1 x else hasD p.2.1 x)) else none
section
variable {X : Cx} {o i e : Expr} {pos pos' : Pos} {fo fi fa : E}
theorem d_dget (hu : X.A.units + 1 < cLine) (ho : PE X o (tD X.K fo)) (hi : PE X i (tD X.K fi)) (hs : NoSl i := by intro _ _; rfl) : PE X (.Subscript o i pos) (tD X.K (e2 gDGet fo fi)) :=
  pe_imp (pe_dget hu ho hi hs) fun σ H Q ⟨Z, μ, ρ, S, R, d, e, q⟩ => by
    simp only [e2, gDGet, Option.bind_eq_some_iff] at e
    obtain ⟨x, ex, y, ey, ⟨t, ks, vs⟩, ed, e⟩ := e
    split at e
    case isFalse => cases e
    rename_i hk
    refine ⟨Z, μ, ρ, S, R, x, ex, fun v H1 s1 r1 => ⟨Z, μ, ρ, S, R.mono s1, y, ey, fun u H2 s2 r2 => ?_⟩⟩
    obtain ⟨a, ov, rfl, g, _, h⟩ := dget_of ((R.wd.mono s1).mono s2) (RV.mono s2 r1) r2 ed hk
    obtain ⟨w, rfl, rw'⟩ := h d e
    exact ⟨a, w, rfl, g, q w H2 (s1.trans s2) rw'⟩
theorem tDIn_of {K : PySem.W.Frag} {σ : L2.St} {H : Hp} {Q : VK} (h : tD K (e2 (gDIn false) fi fo) σ H Q) : tDIn (tD K fi) (tD K fo) σ H Q := by
  obtain ⟨Z, μ, ρ, S, R, d, e, q⟩ := h
  simp only [e2, gDIn, Option.bind_eq_some_iff] at e
  obtain ⟨x, ex, y, ey, ⟨t, ks, vs⟩, ed, e⟩ := e
  split at e
  case isFalse => cases e
  rename_i hk
  cases e
  refine ⟨Z, μ, ρ, S, R, x, ex, fun v H1 s1 r1 => ⟨Z, μ, ρ, S, R.mono s1, y, ey, fun u H2 s2 r2 => ?_⟩⟩
  obtain ⟨a, ov, rfl, g, hs, _⟩ := dget_of ((R.wd.mono s1).mono s2) r2 (RV.mono s2 r1) ed hk
  exact ⟨a, ov, rfl, g, q _ H2 (s1.trans s2) (rv_bl.mpr (by rw [hs]; rfl))⟩
theorem tDNotIn_of {K : PySem.W.Frag} {σ : L2.St} {H : Hp} {Q : VK} (h : tD K (e2 (gDIn true) fi fo) σ H Q) : tDNotIn (tD K fi) (tD K fo) σ H Q := by
  obtain ⟨Z, μ, ρ, S, R, d, e, q⟩ := h
  simp only [e2, gDIn, Option.bind_eq_some_iff] at e
  obtain ⟨x, ex, y, ey, ⟨t, ks, vs⟩, ed, e⟩ := e
  split at e
  case isFalse => cases e
  rename_i hk
  cases e
  refine ⟨Z, μ, ρ, S, R, x, ex, fun v H1 s1 r1 => ⟨Z, μ, ρ, S, R.mono s1, y, ey, fun u H2 s2 r2 => ?_⟩⟩
  obtain ⟨a, ov, rfl, g, hs, _⟩ := dget_of ((R.wd.mono s1).mono s2) r2 (RV.mono s2 r1) ed hk
  exact ⟨a, ov, rfl, g, q _ H2 (s1.trans s2) (rv_bl.mpr (by rw [hs]; rfl))⟩
theorem d_din (hu : X.A.units + 1 < cLine) (hi : PE X i (tD X.K fi)) (ho : PE X o (tD X.K fo)) (hm : behindInMarks .In o = false := by rfl) : PE X (.Compare i [.In] [o] pos) (tD X.K (e2 (gDIn false) fi fo)) :=
  pe_imp (pe_cmp (pc_din hu hi ho) hm) fun _ _ _ h => tDIn_of h
theorem d_dnotin (hu : X.A.units + 1 < cLine) (hi : PE X i (tD X.K fi)) (ho : PE X o (tD X.K fo)) (hm : behindInMarks .NotIn o = false := by rfl) : PE X (.Compare i [.NotIn] [o] pos) (tD X.K (e2 (gDIn true) fi fo)) :=
  pe_imp (pe_cmp (pc_dnotin hu hi ho) hm) fun _ _ _ h => tDNotIn_of h
theorem tBB_of {K : PySem.W.Frag} {f : E} {t : TE} (i : ∀ σ H Q, tD K f σ H Q → t σ H Q) {σ : L2.St} {H : Hp} {Q : Bool → Hp → Prop} (h : tT K (eB f) σ H Q) : tB t σ H Q := by
  obtain ⟨Z, μ, ρ, S, R, k, e, q⟩ := h
  simp only [eB, Option.bind_eq_some_iff] at e
  obtain ⟨d, e1, e2⟩ := e
  refine i _ _ _ ⟨Z, μ, ρ, S, R, d, e1, fun v H' s r => ?_⟩
  cases d <;> simp at e2
  subst e2
  exact ⟨_, rv_bl.mp r, q H' s⟩
theorem dt_din (hu : X.A.units + 1 < cLine) (hi : PE X i (tD X.K fi)) (ho : PE X o (tD X.K fo)) (hm : behindInMarks .In o = false := by rfl) : PT X (.Compare i [.In] [o] pos) (tT X.K (eB (e2 (gDIn false) fi fo))) :=
  pt_imp (pt_cmp (pc_din hu hi ho) hm) fun _ _ _ h => tBB_of (fun _ _ _ h => tDIn_of h) h
theorem dt_dnotin (hu : X.A.units + 1 < cLine) (hi : PE X i (tD X.K fi)) (ho : PE X o (tD X.K fo)) (hm : behindInMarks .NotIn o = false := by rfl) : PT X (.Compare i [.NotIn] [o] pos) (tT X.K (eB (e2 (gDIn true) fi fo))) :=
  pt_imp (pt_cmp (pc_dnotin hu hi ho) hm) fun _ _ _ h => tBB_of (fun _ _ _ h => tDNotIn_of h) h
/-- the cell of a dict -/
def dcell (S : Sto) : D → Option (Nat × Bool × List D × List D)
  | .ref n => match S[n]? with
    | some (.dic t ks vs) => some (n, t, ks, vs)
    | _ => none
  | _ => none
/-- d[x] = v -/
def sDPutD (f fo fi : E) : T := fun ρ S => (f ρ S).bind fun v => (fo ρ S).bind fun o => (fi ρ S).bind fun x => (dcell S o).bind fun c =>
  if keyT c.2.1 x && small c.2.2.1.length then some (.nx, ρ, S.set c.1 (if hasD c.2.2.1 x then .dic c.2.1 c.2.2.1 (putV c.2.2.1 c.2.2.2 x v) else .dic c.2.1 (c.2.2.1 ++ [x]) (c.2.2.2 ++ [v]))) else none
theorem ds_dput (hu : X.A.units + 1 < cLine) (hv : PE X e (tD X.K fa)) (ho : PE X o (tD X.K fo)) (hi : PE X i (tD X.K fi)) (hs : swapsWith e (some (.Subscript o i pos')) pos.line X.env = pure false := by rfl) : PS X (.Assign [.Subscript o i pos'] e pos) (tS X.K (sDPutD fa fo fi)) :=
  ps_imp (ps_dput hu ho hi hv hs) fun De σ H ⟨Z, μ, ρ, S, R, fl, ρ', S', e, q⟩ => by
    simp only [sDPutD, Option.bind_eq_some_iff] at e
    obtain ⟨d, e0, od, e1, x, e2, ⟨n, t, ks, vs⟩, e3, e4⟩ := e
    split at e4
    case isFalse => cases e4
    rename_i hk
    simp only [Bool.and_eq_true] at hk
    obtain ⟨hk, hsm⟩ := hk
    simp only [Option.some.injEq, Prod.mk.injEq] at e4
    obtain ⟨rfl, rfl, rfl⟩ := e4
    refine ⟨Z, μ, ρ, S, R, d, e0, fun v H1 s1 r1 => ⟨Z, μ, ρ, S, R.mono s1, od, e1, fun u H2 s2 r2 => ⟨Z, μ, ρ, S, (R.mono s1).mono s2, x, e2, fun w H3 s3 r3 => ?_⟩⟩⟩
    have R3 := ((R.mono s1).mono s2).mono s3
    have rd : RVz X.K Z μ H3 d v := RV.mono (s2.trans s3) r1
    have ro : RVz X.K Z μ H3 od u := RV.mono s3 r2
    cases od with
    | ref m =>
      simp only [dcell] at e3
      split at e3
      case h_2 => cases e3
      rename_i t' ks' vs' hc
      simp only [Option.some.injEq, Prod.mk.injEq] at e3
      obtain ⟨rfl, rfl, rfl, rfl⟩ := e3
      obtain ⟨a, rfl, hn⟩ := rv_ref.mp ro
      have hm : a ∈ μ := List.mem_of_getElem? hn
      have small_of : ∀ {κ : Type} {kvs : List (κ × V)} {f : κ → D}, small (kvs.map fun p => f p.1).length = true → kvs.length < sizeLine := fun {κ kvs f} h => by
        rw [List.length_map] at h
        exact small_lt h
      rcases R3.wd.cell m _ a hc hn with ⟨rfl, kvs, h1, rfl, h2⟩ | ⟨rfl, kvs, h1, rfl, h2⟩
      · have hk' : (keyOf x).isSome = true := hk
        obtain ⟨k, ek⟩ := Option.isSome_iff_exists.mp hk'
        have ex := keyOf_some ek
        subst ex
        rw [rv_key r3]
        refine ⟨a, _, rfl, DPut.k h1 (small_of (f := keyD) hsm), q _ _ μ ?_⟩
        have hh : hasD (dicKs kvs) (keyD k) = (kvs.any fun kv => decide (kv.1 = k)) := by
          rw [valV_any]
          exact has_k keyD (fun _ _ => keyD_inj) k kvs
        refine R3.wr hn (c := _) ?_
        rw [hh]
        by_cases ha : (kvs.any fun kv => decide (kv.1 = k)) = true
        · obtain ⟨p1, p2⟩ := put_k keyD (fun _ _ => keyD_inj) k rd h2
          have ep : putK kvs k v = kvs.map (fun kv => if kv.1 = k then (kv.1, v) else kv) := if_pos ha
          rw [if_pos ha, ep]
          exact .inl ⟨rfl, _, upd_same, by unfold dicKs; rw [p2], RVL.wr R3.wd hm p1⟩
        · have ep : putK kvs k v = kvs ++ [(k, v)] := if_neg ha
          rw [if_neg ha, ep]
          refine .inl ⟨rfl, _, upd_same, by simp [dicKs], RVL.wr R3.wd hm ?_⟩
          rw [List.map_append]
          exact RVL.app h2 (RVL.one rd)
      · cases x with
        | tup ds =>
          have hk' : (keysOf ds).isSome = true := hk
          obtain ⟨k, ek⟩ := Option.isSome_iff_exists.mp hk'
          have ex := keysOf_some ek
          subst ex
          obtain ⟨b, xs, rfl, hb, hr⟩ := rv_tup.mp r3
          rw [rvl_keys hr] at hb
          refine ⟨a, _, rfl, DPut.t h1 hb (small_of (f := fun k : List Key => D.tup (k.map keyD)) hsm), q _ _ μ ?_⟩
          have hh : hasD (dicKsT kvs) (.tup (k.map keyD)) = (kvs.any fun kv => decide (kv.1 = k)) := by
            rw [valV_any]
            exact has_k (fun k : List Key => D.tup (k.map keyD)) (fun _ _ => tupD_inj) k kvs
          refine R3.wr hn (c := _) ?_
          rw [hh]
          by_cases ha : (kvs.any fun kv => decide (kv.1 = k)) = true
          · obtain ⟨p1, p2⟩ := put_k (fun k : List Key => D.tup (k.map keyD)) (fun _ _ => tupD_inj) k rd h2
            have ep : putK kvs k v = kvs.map (fun kv => if kv.1 = k then (kv.1, v) else kv) := if_pos ha
            rw [if_pos ha, ep]
            exact .inr ⟨rfl, _, upd_same, by unfold dicKsT; rw [p2], RVL.wr R3.wd hm p1⟩
          · have ep : putK kvs k v = kvs ++ [(k, v)] := if_neg ha
            rw [if_neg ha, ep]
            refine .inr ⟨rfl, _, upd_same, by simp [dicKsT], RVL.wr R3.wd hm ?_⟩
            rw [List.map_append]
            exact RVL.app h2 (RVL.one rd)
        | _ => simp [keyT] at hk
    | _ => simp [dcell] at e3
end
end DL
namespace DL
open PySem PySem.Spec L2
/-! ### new dicts -/
def sNewD (t : Bool) (i : Nat) : T := fun ρ S => some (.nx, ρ.set i (some (.ref S.length)), S ++ [.dic t [] []])
/-- x = {k: v} -/
def sNewD1 (i : Nat) (fk fv : E) : T := fun ρ S => (fk ρ S).bind fun k => (fv ρ S).bind fun v => if keyT false k then some (.nx, ρ.set i (some (.ref S.length)), S ++ [.dic false [k] [v]]) else none
section
variable {X : Cx} {e k w : Expr} {pos pos' dpos : Pos} {fk fv : E} {i : Nat} {x : Str}
theorem Rel.newC {K : PySem.W.Frag} {Z : Fr} {μ : List Addr} {H H' : Hp} {S : Sto} {σ : L2.St} {ρ : Rho} {a : Addr} {c : Cell} {i : Nat} (R : Rel K Z μ σ H ρ S) (s : Same H H') (n : H a = none) (r : RC K Z (μ ++ [a]) H' a c) :
    Rel K Z (μ ++ [a]) (σ.set i (some (.ref a))) H' (ρ.set i (some (.ref S.length))) (S ++ [c]) := by
  refine (R.alloc s n r).set (rv_ref.mpr ⟨a, rfl, ?_⟩)
  rw [R.wd.len, List.getElem?_append_right (Nat.le_refl _)]
  simp
theorem ds_newD {t : Bool} (hN : X.N.Nodup) (hi : X.N[i]? = some x) (hx : Loc X.env.scope x) (hs : swapsWith (.Dict [] [] dpos) (some (.Name x pos')) pos.line X.env = pure false := by rfl) (hf : X.fn x = true ∨ X.env.scope.names.lookup x = some .local := by first | exact .inl rfl | exact .inr rfl | assumption) :
    PS X (.Assign [.Name x pos'] (.Dict [] [] dpos) pos) (tS X.K (sNewD t i)) := by
  cases t with
  | false =>
    refine ps_imp (ps_set hN hi hx pe_dnewK hs hf) fun De σ H ⟨Z, μ, ρ, S, R, fl, ρ', S', e, q⟩ => ?_
    simp only [sNewD, Option.some.injEq, Prod.mk.injEq] at e
    obtain ⟨rfl, rfl, rfl⟩ := e
    intro p hp
    have s : Same H (upd H p (.dK [])) := fun c o z => by rw [upd_ne (ne_of_none z hp)]; exact z
    exact q _ _ (μ ++ [p]) (R.newC s hp (.inl ⟨rfl, [], upd_same, rfl, RVL.nil'⟩))
  | true =>
    refine ps_imp (ps_set hN hi hx pe_dnewT hs hf) fun De σ H ⟨Z, μ, ρ, S, R, fl, ρ', S', e, q⟩ => ?_
    simp only [sNewD, Option.some.injEq, Prod.mk.injEq] at e
    obtain ⟨rfl, rfl, rfl⟩ := e
    intro p hp
    have s : Same H (upd H p (.dT [])) := fun c o z => by rw [upd_ne (ne_of_none z hp)]; exact z
    exact q _ _ (μ ++ [p]) (R.newC s hp (.inr ⟨rfl, [], upd_same, rfl, RVL.nil'⟩))
theorem ds_newD1 (hN : X.N.Nodup) (hi : X.N[i]? = some x) (hx : Loc X.env.scope x) (hk : PE X k (tD X.K fk)) (hw : PE X w (tD X.K fv)) (hs : swapsWith (.Dict [some k] [w] dpos) (some (.Name x pos')) pos.line X.env = pure false := by rfl)
    (hf : X.fn x = true ∨ X.env.scope.names.lookup x = some .local := by first | exact .inl rfl | exact .inr rfl | assumption) :
    PS X (.Assign [.Name x pos'] (.Dict [some k] [w] dpos) pos) (tS X.K (sNewD1 i fk fv)) := by
  refine ps_imp (ps_set hN hi hx (pe_disp (pps_cons hk hw pps_nil) rfl rfl (by simp) (by simp)) hs hf) fun De σ H ⟨Z, μ, ρ, S, R, fl, ρ', S', e, q⟩ => ?_
  simp only [sNewD1, Option.bind_eq_some_iff] at e
  obtain ⟨dk, e1, dv, e2, e3⟩ := e
  split at e3
  case isFalse => cases e3
  rename_i hkk
  simp only [Option.some.injEq, Prod.mk.injEq] at e3
  obtain ⟨rfl, rfl, rfl⟩ := e3
  intro p hp
  have s : Same H (upd H p (.dK [])) := fun c o z => by rw [upd_ne (ne_of_none z hp)]; exact z
  have R1 := R.plus s hp (by rw [upd_same]; exact fun z => by cases z)
  refine ⟨Z.plus p, μ, ρ, S, R1, dk, e1, fun u H1 s1 r1 => ⟨Z.plus p, μ, ρ, S, R1.mono s1, dv, e2, fun v H2 s2 r2 => ?_⟩⟩
  have hp2 : H2 p = some (.dK []) := s2 _ _ (s1 _ _ upd_same)
  have hk' : (keyOf dk).isSome = true := hkk
  obtain ⟨key, ek⟩ := Option.isSome_iff_exists.mp hk'
  have ex := keyOf_some ek
  subst ex
  refine ⟨hp2, [(key, v)], by rw [rv_key r1]; rfl, by simp, ?_⟩
  have em : mergeK [] [(key, v)] = [(key, v)] := rfl
  rw [em]
  have s3 : Same H (upd H2 p (.dK [(key, v)])) := fun c o z => by
    rw [upd_ne (ne_of_none z hp)]
    exact s2 _ _ (s1 _ _ (s _ _ z))
  refine q _ _ (μ ++ [p]) (R.newC s3 hp (.inl ⟨rfl, [(key, v)], upd_same, rfl, RVL.one ?_⟩))
  refine RV.tr (av := avd (Z.plus p) μ) (μ := μ) (H := H2) (fun a o e hn => ?_) (fun n a e => by rw [List.getElem?_append_left (List.getElem?_eq_some_iff.mp e).1]; exact e) _ _ r2
  have ne : a ≠ p := by
    rintro rfl
    rw [hp2] at e
    cases e
    exact hn rfl (.inl (.inr rfl))
  refine ⟨by rw [upd_ne ne]; exact e, fun m z => hn m ?_⟩
  rcases z with z | z
  · exact .inl (.inl z)
  · rcases List.mem_append.mp z with z | z
    · exact .inr z
    · exact absurd (List.mem_singleton.mp z) ne
end
end DL
namespace DL
open PySem PySem.Spec L2
/-! ### len of a dict -/
theorem call_lenK {X : Cx} : CallR X (.builtin "len") (fun xs H Q => ∃ a kvs, xs = [.ref a] ∧ H a = some (.dK kvs) ∧ Q (.int (kvs.length : Nat)) H) := by
  intro pins s σ H xs us Q I r h
  obtain ⟨a, kvs, rfl, e, q⟩ := h
  rw [Vals.ref1 r]
  exact d_len I (.inl e) fun t s' I' => ⟨.int _, H, I', ⟨_, rfl⟩, q⟩
def cLenK : Sto → List D → Option D := fun S ds => match ds with
  | [x] => (dicD S x).bind fun p => if p.1 then none else some (.int p.2.1.length)
  | _ => none
theorem cd_lenK {K : PySem.W.Frag} : CallD K (fun xs H Q => ∃ a kvs, xs = [.ref a] ∧ H a = some (.dK kvs) ∧ Q (.int (kvs.length : Nat)) H) cLenK := by
  intro Z μ H S ds d vs Q W r e q
  unfold cLenK at e
  split at e
  · simp only [Option.bind_eq_some_iff] at e
    obtain ⟨⟨t, ks, ws⟩, e1, e2⟩ := e
    split at e2
    case isTrue => cases e2
    rename_i ht
    cases e2
    obtain ⟨v, rfl, rx⟩ := rvl1 r
    obtain ⟨a, rfl, h⟩ := dic_of W rx e1
    rcases h with ⟨rfl, kvs, h1, rfl, h2⟩ | ⟨rfl, _⟩
    · refine ⟨a, kvs, rfl, h1, ?_⟩
      have : (dicKs kvs).length = kvs.length := by simp [dicKs]
      have q' := q (.int ((dicKs kvs).length : Nat)) H (Same.refl H) (rv_int.mpr rfl)
      rwa [this] at q'
    · exact absurd rfl ht
  · cases e
end DL
namespace DL
open PySem PySem.Spec L2
theorem hu1 {k : Nat} {A : Around} (h : Room k A) : A.units + 1 < cLine := by have := h.un; omega
end DL

set_option maxHeartbeats 4000000
namespace DL
open PySem PySem.Spec L2

/-! ### objects: what a name of a class tells -/
def FldF (K : PySem.W.Frag) (c f : Str) : Prop := ∀ C, ClsAt K c C → Cls K C ∧ NoAttr K C f
/-- what stands at a name of a field -/
def lookF : List Str → List D → Str → Option D
  | g :: fs, d :: vs, f => if f = g then some d else lookF fs vs f
  | _, _, _ => none
def objD (S : Sto) : D → Option (Str × List Str × List D)
  | .ins c fs vs => some (c, fs, vs)
  | .ref n => match S[n]? with
    | some (.ins c fs vs) => some (c, fs, vs)
    | _ => none
  | _ => none
def gAttr (c f : Str) : Sto → D → Option D := fun S d => (objD S d).bind fun o => if o.1 = c then lookF o.2.1 o.2.2 f else none
section
variable {K : PySem.W.Frag} {Z : Fr} {μ : List Addr} {H : Hp} {S : Sto}
theorem obj_of {d : D} {v : V} {c : Str} {fs : List Str} {vs : List D} (W : Wd K Z μ H S) (r : RVz K Z μ H d v) (h : objD S d = some (c, fs, vs)) :
    ∃ a C dx fvs, v = .ref a ∧ H a = some (.ins C dx fvs) ∧ ClsAt K c C ∧ fvs.map (·.1) = fs ∧ RVLz K Z μ H vs (fvs.map (·.2)) := by
  cases d with
  | ins c' fs' vs' =>
    simp only [objD, Option.some.injEq, Prod.mk.injEq] at h
    obtain ⟨rfl, rfl, rfl⟩ := h
    obtain ⟨a, C, dx, fvs, e, _, h1, h2, h3, h4⟩ := rv_ins.mp r
    exact ⟨a, C, dx, fvs, e, h1, h2, h3, h4⟩
  | ref n =>
    simp only [objD] at h
    split at h
    · rename_i c' fs' vs' hc
      simp only [Option.some.injEq, Prod.mk.injEq] at h
      obtain ⟨rfl, rfl, rfl⟩ := h
      obtain ⟨a, e, hn⟩ := rv_ref.mp r
      obtain ⟨C, dx, fvs, h1, h2, h3, h4⟩ := W.cell n _ a hc hn
      exact ⟨a, C, dx, fvs, e, h1, h2, h3, h4⟩
    · cases h
  | _ => simp [objD] at h
theorem lookF_of {av : Addr → Prop} {f : Str} {d : D} : ∀ {fvs : List (Str × V)} {vs : List D}, RVL K av μ H vs (fvs.map (·.2)) → lookF (fvs.map (·.1)) vs f = some d → ∃ v, fvs.lookup f = some v ∧ RV K av μ H d v
  | [], vs, _, h => by cases vs <;> simp [lookF] at h
  | p :: fvs, vs, r, h => by
    cases vs with
    | nil => simp [lookF] at h
    | cons e vs =>
      rw [List.map_cons, rvl_cons] at r
      obtain ⟨y, ys, e1, h1, h2⟩ := r
      cases e1
      simp only [List.map_cons, lookF] at h
      rw [List.lookup_cons]
      by_cases q : f = p.1
      · rw [if_pos q] at h
        cases h
        have : (f == p.1) = true := by simpa using q
        rw [this]
        exact ⟨_, rfl, h1⟩
      · rw [if_neg q] at h
        have : (f == p.1) = false := by simpa using q
        rw [this]
        exact lookF_of h2 h
end
section
variable {X : Cx} {o e value : Expr} {c f : Str} {pos pos' : Pos} {fe fo fv : E}
theorem d_attr (hf : FldF X.K c f) (he : PE X e (tD X.K fe)) (hb : attributeBase e f X.env (eval e X.env) = eval e X.env := by rfl) : PE X (.Attribute e f pos) (tD X.K (e1 (gAttr c f) fe)) :=
  pe_imp (pe_fld he hb) fun σ H Q ⟨Z, μ, ρ, S, R, d, e, q⟩ => by
    simp only [e1, Option.bind_eq_some_iff] at e
    obtain ⟨x, e1, e2⟩ := e
    simp only [gAttr, Option.bind_eq_some_iff] at e2
    obtain ⟨⟨c', fs, vs⟩, e3, e4⟩ := e2
    split at e4
    · rename_i hc
      subst hc
      refine ⟨Z, μ, ρ, S, R, x, e1, fun v H' s r => ?_⟩
      obtain ⟨a, C, dx, fvs, e5, h1, h2, h3, h4⟩ := obj_of (R.wd.mono s) r e3
      obtain ⟨k1, k2⟩ := hf C h2
      subst h3
      obtain ⟨w, l1, l2⟩ := lookF_of h4 e4
      exact ⟨a, C, dx, fvs, w, e5, h1, k1, k2, l1, q _ _ s l2⟩
    · cases e4
end
/-! a field is written -/
def putFs : List Str → Str → List Str
  | [], f => [f]
  | g :: fs, f => if g = f then g :: fs else g :: putFs fs f
def putVs : List Str → List D → Str → D → List D
  | g :: fs, w :: vs, f, d => if g = f then d :: vs else w :: putVs fs vs f d
  | _, _, _, d => [d]
section
variable {K : PySem.W.Frag} {av : Addr → Prop} {μ : List Addr} {H : Hp}
theorem putF_of {f : Str} {d : D} {v : V} (rv : RV K av μ H d v) : ∀ {fvs : List (Str × V)} {vs : List D}, RVL K av μ H vs (fvs.map (·.2)) →
    (putF f v fvs).map (·.1) = putFs (fvs.map (·.1)) f ∧ RVL K av μ H (putVs (fvs.map (·.1)) vs f d) ((putF f v fvs).map (·.2))
  | [], vs, r => by
    have e : putVs (([] : List (Str × V)).map (·.1)) vs f d = [d] := by cases vs <;> rfl
    rw [e]
    exact ⟨rfl, RVL.one rv⟩
  | (g, x) :: fvs, vs, r => by
    cases vs with
    | nil => rw [rvl_nil] at r; cases r
    | cons w vs =>
      rw [List.map_cons, rvl_cons] at r
      obtain ⟨y, ys, e1, h1, h2⟩ := r
      cases e1
      obtain ⟨i1, i2⟩ := putF_of rv h2
      simp only [putF, List.map_cons, putFs, putVs]
      by_cases q : g = f
      · rw [if_pos q, if_pos q, if_pos q]
        exact ⟨rfl, RVL.cons' rv h2⟩
      · rw [if_neg q, if_neg q, if_neg q]
        exact ⟨by rw [List.map_cons, i1], RVL.cons' h1 i2⟩
end
def ocell (S : Sto) : D → Option (Nat × Str × List Str × List D)
  | .ref n => match S[n]? with
    | some (.ins c fs vs) => some (n, c, fs, vs)
    | _ => none
  | _ => none
theorem ocell_of {K : PySem.W.Frag} {Z : Fr} {μ : List Addr} {H : Hp} {S : Sto} {d : D} {n : Nat} {c : Str} {fs : List Str} {vs : List D} {v : V} (W : Wd K Z μ H S) (r : RVz K Z μ H d v) (h : ocell S d = some (n, c, fs, vs)) :
    ∃ a C dx fvs, v = .ref a ∧ μ[n]? = some a ∧ H a = some (.ins C dx fvs) ∧ ClsAt K c C ∧ fvs.map (·.1) = fs ∧ RVLz K Z μ H vs (fvs.map (·.2)) ∧ S[n]? = some (.ins c fs vs) := by
  cases d with
  | ref m =>
    simp only [ocell] at h
    split at h
    · rename_i c' fs' vs' hc
      simp only [Option.some.injEq, Prod.mk.injEq] at h
      obtain ⟨rfl, rfl, rfl, rfl⟩ := h
      obtain ⟨a, e, hn⟩ := rv_ref.mp r
      obtain ⟨C, dx, fvs, h1, h2, h3, h4⟩ := W.cell m _ a hc hn
      exact ⟨a, C, dx, fvs, e, hn, h1, h2, h3, h4, hc⟩
    · cases h
  | _ => simp [ocell] at h
def putO (c f : Str) (d : D) (p : Nat × Str × List Str × List D) : Option Cell := if p.2.1 = c ∧ p.2.2.1.length < 1000 then some (.ins p.2.1 (putFs p.2.2.1 f) (putVs p.2.2.1 p.2.2.2 f d)) else none
/-- o.f = e -/
def sAttr (c f : Str) (fv fo : E) : T := fun ρ S => (fv ρ S).bind fun d => (fo ρ S).bind fun o => (ocell S o).bind fun p => (putO c f d p).map fun w => (.nx, ρ, S.set p.1 w)
/-! new cells: the first one is what the expression tells -/
abbrev EC := Rho → Sto → Option (List Cell)
def tN (K : PySem.W.Frag) (f : EC) : TE := fun σ H Q => ∃ Z μ ρ S, Rel K Z μ σ H ρ S ∧ ∃ cs, f ρ S = some cs ∧
  ∀ a as H', (a :: as).length = cs.length → (a :: as).Nodup → (∀ b ∈ a :: as, H b = none) → Same H H' → (∀ (i : Nat) b c, (a :: as)[i]? = some b → cs[i]? = some c → RC K Z (μ ++ a :: as) H' b c) → Q (.ref a) H'
def cL (fl : EL) : EC := fun ρ S => (fl ρ S).map fun ds => [.lst ds]
def cD (t : Bool) : EC := fun _ _ => some [.dic t [] []]
/-- o.f = a thing that is a cell from then on -/
def sAttrN (c f : Str) (fc : EC) (fo : E) : T := fun ρ S => (fc ρ S).bind fun cs => (fo ρ (S ++ cs)).bind fun o => (ocell (S ++ cs) o).bind fun p => (putO c f (.ref S.length) p).map fun w => (.nx, ρ, (S ++ cs).set p.1 w)
/-- x = a thing that is a cell from then on -/
def sNewN (i : Nat) (fc : EC) : T := fun ρ S => (fc ρ S).map fun cs => (.nx, ρ.set i (some (.ref S.length)), S ++ cs)
section
variable {K : PySem.W.Frag} {Z : Fr} {μ μ' : List Addr} {H : Hp} {S : Sto} {σ : L2.St} {ρ : Rho}
theorem Rel.wrO {n : Nat} {a C dx : Addr} {c f : Str} {fvs : List (Str × V)} {vs : List D} {d : D} {v : V} (R : Rel K Z μ σ H ρ S) (hn : μ[n]? = some a) (hc : ClsAt K c C) (r : RVLz K Z μ H vs (fvs.map (·.2))) (rv : RVz K Z μ H d v) :
    Rel K Z μ σ (upd H a (.ins C dx (putF f v fvs))) ρ (S.set n (.ins c (putFs (fvs.map (·.1)) f) (putVs (fvs.map (·.1)) vs f d))) := by
  obtain ⟨i1, i2⟩ := putF_of (f := f) rv r
  exact R.wr hn ⟨C, dx, _, upd_same, hc, i1, RVL.wr R.wd (List.mem_of_getElem? hn) i2⟩
theorem Wd.allocs {as : List Addr} {cs : List Cell} {H' : Hp} (W : Wd K Z μ H S) (s : Same H H') (hl : as.length = cs.length) (nd : as.Nodup) (n : ∀ b ∈ as, H b = none) (r : ∀ (i : Nat) b c, as[i]? = some b → cs[i]? = some c → RC K Z (μ ++ as) H' b c) : Wd K Z (μ ++ as) H' (S ++ cs) := by
  have tr : ∀ d v, RVz K Z μ H d v → RVz K Z (μ ++ as) H' d v := fun d v h => RV.tr (fun b u e hn => ⟨s _ _ e, fun m q => by
    rcases q with q | q
    · exact hn m (.inl q)
    · rcases List.mem_append.mp q with q | q
      · exact hn m (.inr q)
      · rw [n b q] at e; cases e⟩) (fun m b e => by rw [List.getElem?_append_left (List.getElem?_eq_some_iff.mp e).1]; exact e) d v h
  have trl : ∀ d v, RVLz K Z μ H d v → RVLz K Z (μ ++ as) H' d v := fun d v h => RVL.tr (fun b u e hn => ⟨s _ _ e, fun m q => by
    rcases q with q | q
    · exact hn m (.inl q)
    · rcases List.mem_append.mp q with q | q
      · exact hn m (.inr q)
      · rw [n b q] at e; cases e⟩) (fun m b e => by rw [List.getElem?_append_left (List.getElem?_eq_some_iff.mp e).1]; exact e) d v h
  refine ⟨by simp [W.len, hl], ?_, fun m c' b h1 h2 => ?_, fun b o e => s _ _ (W.base b o e), fun b hb => ?_, fun b h q => W.av b h (s.free q), fun b hb => ?_, W.root.trans (List.prefix_append _ _)⟩
  · refine List.nodup_append.mpr ⟨W.nd, nd, fun x hx y hy => ?_⟩
    rintro rfl
    exact W.fresh (n x hy) (.inr hx)
  · by_cases hm : m < μ.length
    · rw [List.getElem?_append_left (by rw [W.len]; exact hm)] at h1
      rw [List.getElem?_append_left hm] at h2
      have q := W.cell m c' b h1 h2
      cases c' with
      | lst ds => obtain ⟨xs, q, r⟩ := q; exact ⟨xs, s _ _ q, trl _ _ r⟩
      | dic t ks vs =>
        rcases q with ⟨t, kvs, q, e, r⟩ | ⟨t, kvs, q, e, r⟩
        · exact .inl ⟨t, kvs, s _ _ q, e, trl _ _ r⟩
        · exact .inr ⟨t, kvs, s _ _ q, e, trl _ _ r⟩
      | ins c fs vs => obtain ⟨C, dx, fvs, q, k, e, r⟩ := q; exact ⟨C, dx, fvs, s _ _ q, k, e, trl _ _ r⟩
    · rw [List.getElem?_append_right (by rw [W.len]; omega)] at h1
      rw [List.getElem?_append_right (by omega)] at h2
      rw [W.len] at h1
      exact r _ b c' h2 h1
  · rcases List.mem_append.mp hb with hb | hb
    · exact W.dis b hb
    · exact W.newB (n b hb)
  · rcases List.mem_append.mp hb with hb | hb
    · exact W.disA b hb
    · exact fun z => W.fresh (n b hb) (.inl z)
theorem RV.allocs {as : List Addr} {H' : Hp} (s : Same H H') (n : ∀ b ∈ as, H b = none) {d : D} {v : V} (h : RVz K Z μ H d v) : RVz K Z (μ ++ as) H' d v := RV.tr (fun b u e hn => ⟨s _ _ e, fun m q => by
    rcases q with q | q
    · exact hn m (.inl q)
    · rcases List.mem_append.mp q with q | q
      · exact hn m (.inr q)
      · rw [n b q] at e; cases e⟩) (fun m b e => by rw [List.getElem?_append_left (List.getElem?_eq_some_iff.mp e).1]; exact e) d v h
theorem Rel.allocs {as : List Addr} {cs : List Cell} {H' : Hp} (R : Rel K Z μ σ H ρ S) (s : Same H H') (hl : as.length = cs.length) (nd : as.Nodup) (n : ∀ b ∈ as, H b = none) (r : ∀ (i : Nat) b c, as[i]? = some b → cs[i]? = some c → RC K Z (μ ++ as) H' b c) : Rel K Z (μ ++ as) σ H' ρ (S ++ cs) :=
  R.with (R.wd.allocs s hl nd n r) fun _ _ q => RV.allocs s n q
theorem rv_first {S : Sto} {a : Addr} {as : List Addr} (W : Wd K Z μ H S) {H' : Hp} : RVz K Z (μ ++ a :: as) H' (.ref S.length) (.ref a) := rv_ref.mpr ⟨a, rfl, by rw [W.len, List.getElem?_append_right (Nat.le_refl _)]; simp⟩
theorem tN_of {f : EL} {σ : L2.St} {H : Hp} {Q : VK} (h : tN K (cL f) σ H Q) : tF K f σ H Q := by
  obtain ⟨Z, μ, ρ, S, R, cs, e, q⟩ := h
  simp only [cL, Option.map_eq_some_iff] at e
  obtain ⟨ds, e1, rfl⟩ := e
  refine ⟨Z, μ, ρ, S, R, ds, e1, fun a xs H' n s h1 r => q a [] H' rfl (by simp) (by simpa using n) s fun i b c hb hc => ?_⟩
  cases i with
  | succ i => simp at hb
  | zero =>
    simp at hb hc
    subst hb; subst hc
    exact ⟨xs, h1, RVL.tr (fun b o e hn => ⟨e, fun m z => by
      rcases z with z | z
      · exact hn m (.inl (.inl z))
      · rcases List.mem_append.mp z with z | z
        · exact hn m (.inl (.inr z))
        · exact hn m (.inr (by simpa using z))⟩) (fun k b e => by rw [List.getElem?_append_left (List.getElem?_eq_some_iff.mp e).1]; exact e) _ _ r⟩
theorem tN_dK {σ : L2.St} {H : Hp} {Q : VK} (h : tN K (cD false) σ H Q) : tDNewK σ H Q := by
  obtain ⟨Z, μ, ρ, S, R, cs, e, q⟩ := h
  cases e
  intro p hp
  have s : Same H (upd H p (.dK [])) := fun c o z => by rw [upd_ne (ne_of_none z hp)]; exact z
  refine q p [] _ rfl (by simp) (by simpa using hp) s fun i b c hb hc => ?_
  cases i with
  | succ i => simp at hb
  | zero =>
    simp at hb hc
    subst hb; subst hc
    exact .inl ⟨rfl, [], upd_same, rfl, RVL.nil'⟩
theorem tN_dT {σ : L2.St} {H : Hp} {Q : VK} (h : tN K (cD true) σ H Q) : tDNewT σ H Q := by
  obtain ⟨Z, μ, ρ, S, R, cs, e, q⟩ := h
  cases e
  intro p hp
  have s : Same H (upd H p (.dT [])) := fun c o z => by rw [upd_ne (ne_of_none z hp)]; exact z
  refine q p [] _ rfl (by simp) (by simpa using hp) s fun i b c hb hc => ?_
  cases i with
  | succ i => simp at hb
  | zero =>
    simp at hb hc
    subst hb; subst hc
    exact .inr ⟨rfl, [], upd_same, rfl, RVL.nil'⟩
theorem set_app {S cs : Sto} {n : Nat} {w : Cell} (h : n < S.length) : S.set n w ++ cs = (S ++ cs).set n w := by
  rw [List.set_append_left _ _ h]
end
section
variable {X : Cx} {o e value : Expr} {c f : Str} {pos pos' : Pos} {fe fo fv : E} {fl : EL}
theorem ds_attr (hf : FldF X.K c f) (hv : PE X value (tD X.K fv)) (ho : PE X o (tD X.K fo)) (hs : swapsWith value (some (.Attribute o f pos')) pos.line X.env = pure false := by rfl) : PS X (.Assign [.Attribute o f pos'] value pos) (tS X.K (sAttr c f fv fo)) :=
  ps_imp (ps_fld ho hv hs) fun De σ H ⟨Z, μ, ρ, S, R, fl, ρ', S', e, q⟩ => by
    simp only [sAttr, Option.bind_eq_some_iff, Option.map_eq_some_iff, Prod.mk.injEq] at e
    obtain ⟨d, e1, od, e2, ⟨n, c', fs, vs⟩, e3, w, e4, rfl, rfl, rfl⟩ := e
    refine ⟨Z, μ, ρ, S, R, d, e1, fun v H1 s1 r1 => ⟨Z, μ, ρ, S, R.mono s1, od, e2, fun u H2 s2 r2 => ?_⟩⟩
    simp only [putO] at e4
    split at e4
    · rename_i hc
      obtain ⟨rfl, hl⟩ := hc
      cases e4
      obtain ⟨a, C, dx, fvs, rfl, hn, h1, h2, rfl, h4, _⟩ := ocell_of ((R.wd.mono s1).mono s2) r2 e3
      obtain ⟨k1, k2⟩ := hf C h2
      exact ⟨a, C, dx, fvs, rfl, h1, k1, k2, by simpa using hl, q _ _ μ (((R.mono s1).mono s2).wrO hn h2 h4 (RV.mono s2 r1))⟩
    · cases e4
theorem d_cL (h : PE X e (tF X.K fl)) : PE X e (tN X.K (cL fl)) := pe_imp h fun _ _ _ h => tN_of h
theorem d_cDK {dpos : Pos} : PE X (.Dict [] [] dpos) (tN X.K (cD false)) := pe_imp pe_dnewK fun _ _ _ h => tN_dK h
theorem d_cDT {dpos : Pos} : PE X (.Dict [] [] dpos) (tN X.K (cD true)) := pe_imp pe_dnewT fun _ _ _ h => tN_dT h
theorem ds_attrN {fc : EC} (hf : FldF X.K c f) (hv : PE X value (tN X.K fc)) (ho : PE X o (tD X.K fo)) (hs : swapsWith value (some (.Attribute o f pos')) pos.line X.env = pure false := by rfl) : PS X (.Assign [.Attribute o f pos'] value pos) (tS X.K (sAttrN c f fc fo)) :=
  ps_imp (ps_fld ho hv hs) fun De σ H ⟨Z, μ, ρ, S, R, fl', ρ', S', e, q⟩ => by
    simp only [sAttrN, Option.bind_eq_some_iff, Option.map_eq_some_iff, Prod.mk.injEq] at e
    obtain ⟨cs, e1, od, e2, ⟨n, c', fs, vs⟩, e3, w, e4, rfl, rfl, rfl⟩ := e
    refine ⟨Z, μ, ρ, S, R, cs, e1, fun a as H1 hl nd na s1 r1 => ?_⟩
    have R1 := R.allocs s1 hl nd na r1
    refine ⟨Z, μ ++ a :: as, ρ, S ++ cs, R1, od, e2, fun u H2 s2 r2 => ?_⟩
    simp only [putO] at e4
    split at e4
    · rename_i hc
      obtain ⟨rfl, hl⟩ := hc
      cases e4
      obtain ⟨b, C, dx, fvs, rfl, hn, g1, h2, rfl, h4, hS⟩ := ocell_of (R1.wd.mono s2) r2 e3
      obtain ⟨k1, k2⟩ := hf C h2
      exact ⟨b, C, dx, fvs, rfl, g1, k1, k2, by simpa using hl, q _ _ _ ((R1.mono s2).wrO hn h2 h4 (rv_first R.wd))⟩
    · cases e4
section
variable {i : Nat} {x : Str} {pos' : Pos} {fc : EC}
theorem ds_newN (hN : X.N.Nodup) (hi : X.N[i]? = some x) (hx : Loc X.env.scope x) (he : PE X e (tN X.K fc)) (hs : swapsWith e (some (.Name x pos')) pos.line X.env = pure false := by rfl) (hf : X.fn x = true ∨ X.env.scope.names.lookup x = some .local := by first | exact .inl rfl | exact .inr rfl | assumption) :
    PS X (.Assign [.Name x pos'] e pos) (tS X.K (sNewN i fc)) :=
  ps_imp (ps_set hN hi hx he hs hf) fun De σ H ⟨Z, μ, ρ, S, R, fl', ρ', S', e, q⟩ => by
    simp only [sNewN, Option.map_eq_some_iff, Prod.mk.injEq] at e
    obtain ⟨cs, e1, rfl, rfl, rfl⟩ := e
    exact ⟨Z, μ, ρ, S, R, cs, e1, fun a as H1 hl nd na s1 r1 => q _ H1 _ ((R.allocs s1 hl nd na r1).set (rv_first R.wd))⟩
end
end
end DL

set_option maxHeartbeats 4000000
namespace DL
open PySem PySem.Spec L2
/-! ### [[] for _ in xs]: a list of new cells -/
def cLL (f : EL) (c0 : Cell) : EC := fun ρ S => (f ρ S).bind fun ds => if small ds.length then some (.lst ((List.range ds.length).map fun k => .ref (S.length + 1 + k)) :: List.replicate ds.length c0) else none
theorem rvl_refs {K : PySem.W.Frag} {av : Addr → Prop} {H : Hp} : ∀ (acc : List Addr) (ν : List Addr) (b : Nat), (∀ k, k < acc.length → ν[b + k]? = acc[k]?) → RVL K av ν H ((List.range acc.length).map fun k => .ref (b + k)) (acc.map V.ref)
  | [], ν, b, _ => RVL.nil'
  | a :: acc, ν, b, h => by
    have h0 := h 0 (by simp)
    have e : ((List.range (a :: acc).length).map fun k => D.ref (b + k)) = .ref b :: (List.range acc.length).map fun k => D.ref (b + 1 + k) := by
      rw [List.length_cons, List.range_succ_eq_map, List.map_cons, List.map_map]
      congr 1
      refine List.map_congr_left fun k _ => ?_
      show D.ref (b + (k + 1)) = D.ref (b + 1 + k)
      congr 1; omega
    rw [e, List.map_cons]
    refine RVL.cons' (rv_ref.mpr ⟨a, rfl, by simpa using h0⟩) (rvl_refs acc ν (b + 1) fun k hk => ?_)
    have := h (k + 1) (by simp; omega)
    rw [show b + 1 + k = b + (k + 1) by omega, this]
    simp
theorem tLL_of {K : PySem.W.Frag} {f : EL} {vs vt : List Nat} {g : G} {te : TE} {o0 : HO} {c0 : Cell} (hc0 : ∀ (Z : Fr) (μ : List Addr) (H : Hp) (a : Addr), H a = some o0 → RC K Z μ H a c0)
    (he : ∀ σ H (Q : VK), (∀ p, H p = none → Q (.ref p) (upd H p o0)) → te σ H Q) (hv : ∀ i ∈ vt, i ∈ vs) (hg : ∀ d ρ, ∃ ρ', g d ρ = some ρ') {σ : L2.St} {H : Hp} {Q : VK} (h : tN K (cLL f c0) σ H Q) :
    tLc (tJ K f) (tG K vt g) (tT K bYes) te vs σ H Q := by
  obtain ⟨Z, μ, ρ, S, R, cs, ef, q⟩ := h
  simp only [cLL, Option.bind_eq_some_iff] at ef
  obtain ⟨ds, e1, e2⟩ := ef
  split at e2
  case isFalse => cases e2
  rename_i hsm
  simp only [Option.some.injEq] at e2
  subst e2
  refine ⟨Z, μ, ρ, S, R, ds, e1, fun J H1 s1 it D nD => ?_⟩
  have R1 := (R.mono s1).wipe vs
  refine ⟨fun i m H => m = ds.length - i ∧ i ≤ ds.length ∧ Same H1 H ∧ ∃ acc : List Addr, acc.length = i ∧ (D :: acc).Nodup ∧ (∀ b ∈ acc, H1 b = none ∧ H b = some o0) ∧ H D = some (.lst (acc.map V.ref)),
    ⟨ds.length, by simp, Nat.zero_le _, fun c o z => by rw [upd_ne (ne_of_none z nD)]; exact z, [], rfl, by simp, by simp, upd_same⟩, ?_⟩
  rintro i m H' ⟨rfl, hi, s2, acc, la, nd, hb, hD⟩
  obtain ⟨it1, it2⟩ := it i H' fun a o ha _ => s2 a o ha
  by_cases hlt : i < ds.length
  · obtain ⟨hgo, hyld⟩ := it1 ds[i] (List.getElem?_eq_getElem hlt)
    refine .inr ⟨hgo, _, fun H2 h2 => ⟨ds.length - (i + 1), by omega, rfl, hlt, h2⟩, fun x H2 hy => ?_⟩
    obtain ⟨s3, rx⟩ := hyld x H2 hy
    obtain ⟨ρ1, eg⟩ := hg ds[i] (wipeR ρ vs)
    have R2 : Rel K (Z.plus D) μ (L2.wipe σ vs) H2 (wipeR ρ vs) S := R1.plus (s2.trans s3) nD (by rw [s3 _ _ hD]; exact fun z => by cases z)
    have rx' : RVz K (Z.plus D) μ H2 ds[i] x := RV.tr (fun a o e hn => ⟨e, fun m q => by
      rcases q with (q | q) | q
      · exact hn m (.inl (.inl q))
      · subst q; exact hn m (.inr nD)
      · exact hn m (.inl (.inr q))⟩) (fun _ _ e => e) _ _ rx
    refine ⟨Z.plus D, μ, wipeR ρ vs, S, ds[i], R2, rx', ρ1, eg, fun σ2 R3 k2 l2 => ⟨?_, ?_⟩⟩
    · exact (wipe_eq l2 fun j hj => k2 j fun h => hj (hv j h)).trans wipe_wipe
    · refine ⟨Z.plus D, μ, ρ1, S, R3, true, rfl, fun H3 s4 => iteT ?_⟩
      refine he _ _ _ fun p np => ?_
      have hD3 : H3 D = some (.lst (acc.map V.ref)) := s4 _ _ (s3 _ _ hD)
      have pD : D ≠ p := ne_of_none hD3 np
      have hD4 : upd H3 p o0 D = some (.lst (acc.map V.ref)) := by rw [upd_ne pD]; exact hD3
      have pA : ∀ b ∈ acc, b ≠ p := fun b hb' => ne_of_none (s4 _ _ (s3 _ _ (hb b hb').2)) np
      have dA : ∀ b ∈ acc, b ≠ D := fun b hb' e => by
        rw [List.nodup_cons] at nd
        exact nd.1 (e ▸ hb')
      have s5 : Same H1 (upd (upd H3 p o0) D (.lst ((acc ++ [p]).map V.ref))) := fun c o z => by
        rw [upd_ne (ne_of_none z nD), upd_ne (ne_of_none (s4 _ _ (s3 _ _ (s2 _ _ z))) np)]
        exact s4 _ _ (s3 _ _ (s2 _ _ z))
      have e5 : acc.map V.ref ++ [V.ref p] = (acc ++ [p]).map V.ref := by simp
      refine ⟨acc.map V.ref, hD4, ?_, by rw [e5]; exact s5, acc ++ [p], by simp [la], ?_, ?_, by rw [upd_same, e5]⟩
      · have h3 : ds.length ≤ 1000000 := of_decide_eq_true hsm
        have h5 : (1000000 : Nat) < sizeLine := by decide
        rw [List.length_map]
        omega
      · rw [List.nodup_cons] at nd ⊢
        refine ⟨fun z => ?_, List.nodup_append.mpr ⟨nd.2, by simp, fun a ha b hb' => ?_⟩⟩
        · rcases List.mem_append.mp z with z | z
          · exact nd.1 z
          · exact pD (List.mem_singleton.mp z)
        · rw [List.mem_singleton.mp hb']; exact pA a ha
      · intro b hb'
        rw [e5]
        rcases List.mem_append.mp hb' with hb' | hb'
        · exact ⟨(hb b hb').1, by rw [upd_ne (dA b hb'), upd_ne (pA b hb')]; exact s4 _ _ (s3 _ _ (hb b hb').2)⟩
        · rw [List.mem_singleton.mp hb']
          refine ⟨(s2.trans (s3.trans s4)).free np, ?_⟩
          rw [upd_ne pD.symm, upd_same]
  · have hi' : i = ds.length := by omega
    subst hi'
    refine .inl ⟨it2 (Nat.le_refl _), q D acc H' (by simp [la]) nd (fun b hb' => ?_) (s1.trans s2) fun j b c hj hcj => ?_⟩
    · rcases List.mem_cons.mp hb' with rfl | hb'
      · exact s1.free nD
      · exact s1.free (hb b hb').1
    · cases j with
      | zero =>
        simp at hj hcj
        subst hj; subst hcj
        refine ⟨_, hD, ?_⟩
        rw [← la]
        refine rvl_refs acc _ _ fun k hk => ?_
        rw [List.getElem?_append_right (by rw [R.wd.len]; omega), R.wd.len, show μ.length + 1 + k - μ.length = k + 1 by omega]
        simp
      | succ j =>
        simp only [List.getElem?_cons_succ] at hj hcj
        rw [List.getElem?_replicate] at hcj
        split at hcj
        · cases hcj
          exact hc0 _ _ _ _ (hb b (List.mem_of_getElem? hj)).2
        · cases hcj
section
variable {X : Cx} {elt tg iter : Expr} {scope : Scope} {own : List (Str × Nat)} {pos : Pos}
theorem d_cLLl {f : EL} {vt : List Nat} {g : G} {ep : Pos} (hc : X.calm = true) (hN : X.N.Nodup) (hi : PI X tg iter (tJ X.K f)) (ok : BlkOk X.N X.env.scope scope own)
    (hg : ∀ (s : Shared) (H : Hp) (C : Addr) (cl : List (Str × Addr)) (fp : List Addr), PG (X.blk s H scope (compEnvC scope cl C X.env) fp) tg (tG X.K vt g)) (hgg : ∀ d ρ, ∃ ρ', g d ρ = some ρ') (hv : ∀ i ∈ vt, i ∈ own.map (·.2) := by decide) (hs : ∀ x, foldedSetIterable iter X.env x = pure x := by intro _; rfl) :
    PE X (.ListComp (.List [] ep) [⟨tg, iter, [], 0⟩] scope pos) (tN X.K (cLL f (.lst []))) :=
  pe_imp (pe_lc hc hN hi ok hg (fun _ _ _ _ _ => dts_nil) (fun _ _ _ _ _ => pe_lst pa_nil) hs) fun _ _ _ h => tLL_of (o0 := .lst []) (c0 := .lst []) (fun Z μ H a e => ⟨[], e, RVL.nil'⟩) (fun σ H Q k => ⟨by decide, k⟩) hv hgg h
theorem d_cLLd {f : EL} {vt : List Nat} {g : G} {ep : Pos} (hc : X.calm = true) (hN : X.N.Nodup) (hi : PI X tg iter (tJ X.K f)) (ok : BlkOk X.N X.env.scope scope own)
    (hg : ∀ (s : Shared) (H : Hp) (C : Addr) (cl : List (Str × Addr)) (fp : List Addr), PG (X.blk s H scope (compEnvC scope cl C X.env) fp) tg (tG X.K vt g)) (hgg : ∀ d ρ, ∃ ρ', g d ρ = some ρ') (hv : ∀ i ∈ vt, i ∈ own.map (·.2) := by decide) (hs : ∀ x, foldedSetIterable iter X.env x = pure x := by intro _; rfl) :
    PE X (.ListComp (.Dict [] [] ep) [⟨tg, iter, [], 0⟩] scope pos) (tN X.K (cLL f (.dic false [] []))) :=
  pe_imp (pe_lc hc hN hi ok hg (fun _ _ _ _ _ => dts_nil) (fun _ _ _ _ _ => pe_dnewK) hs) fun _ _ _ h => tLL_of (o0 := .dK []) (c0 := .dic false [] []) (fun Z μ H a e => .inl ⟨rfl, [], e, rfl, RVL.nil'⟩) (fun σ H Q k => k) hv hgg h
theorem gN_all (i : Nat) : ∀ d ρ, ∃ ρ', gN i d ρ = some ρ' := fun d ρ => ⟨_, rfl⟩
end
theorem ds_newNA {X : Cx} {st : Stmt} {fc : EC} {te : TE} {i : Nat} (h : PS X st (tAsg te (L2.gName i))) (hi : ∀ σ H Q, tN X.K fc σ H Q → te σ H Q) : PS X st (tS X.K (sNewN i fc)) :=
  ps_imp h fun De σ H ⟨Z, μ, ρ, S, R, fl', ρ', S', e, q⟩ => by
    simp only [sNewN, Option.map_eq_some_iff, Prod.mk.injEq] at e
    obtain ⟨cs, e1, rfl, rfl, rfl⟩ := e
    exact hi _ _ _ ⟨Z, μ, ρ, S, R, cs, e1, fun a as H1 hl nd na s1 r1 => q _ H1 _ ((R.allocs s1 hl nd na r1).set (rv_first R.wd))⟩
section
variable {X : Cx} {tg iter : Expr} {scope : Scope} {own : List (Str × Nat)} {pos spos py ep : Pos} {i : Nat} {y : Str} {fl : EL} {vt : List Nat} {g : G}
theorem ds_newLLl (hc : X.calm = true) (hN : X.N.Nodup) (hy : X.N[i]? = some y) (hyl : X.env.scope.names.lookup y = some .local)
    (hsw : swapsWith (.ListComp (.List [] ep) [⟨tg, iter, [], 0⟩] scope pos) (some (.Name y py)) spos.line X.env = pure true) (hi : PI X tg iter (tJ X.K fl)) (ok : BlkOk X.N X.env.scope scope own)
    (hg : ∀ (s : Shared) (H : Hp) (C : Addr) (cl : List (Str × Addr)) (fp : List Addr), PG (X.blk s H scope (compEnvC scope cl C X.env) fp) tg (tG X.K vt g)) (hgg : ∀ d ρ, ∃ ρ', g d ρ = some ρ') (hv : ∀ i ∈ vt, i ∈ own.map (·.2) := by decide) (hs : ∀ x, foldedSetIterable iter X.env x = pure x := by intro _; rfl) :
    PS X (.Assign [.Name y py] (.ListComp (.List [] ep) [⟨tg, iter, [], 0⟩] scope pos) spos) (tS X.K (sNewN i (cLL fl (.lst [])))) :=
  ds_newNA (ps_setLc hc hN hy hyl hsw hi ok hg (fun _ _ _ _ _ => dts_nil) (fun _ _ _ _ _ => pe_lst pa_nil) hs) fun _ _ _ h => tLL_of (o0 := .lst []) (c0 := .lst []) (fun Z μ H a e => ⟨[], e, RVL.nil'⟩) (fun σ H Q k => ⟨by decide, k⟩) hv hgg h
theorem ds_newLLd (hc : X.calm = true) (hN : X.N.Nodup) (hy : X.N[i]? = some y) (hyl : X.env.scope.names.lookup y = some .local)
    (hsw : swapsWith (.ListComp (.Dict [] [] ep) [⟨tg, iter, [], 0⟩] scope pos) (some (.Name y py)) spos.line X.env = pure true) (hi : PI X tg iter (tJ X.K fl)) (ok : BlkOk X.N X.env.scope scope own)
    (hg : ∀ (s : Shared) (H : Hp) (C : Addr) (cl : List (Str × Addr)) (fp : List Addr), PG (X.blk s H scope (compEnvC scope cl C X.env) fp) tg (tG X.K vt g)) (hgg : ∀ d ρ, ∃ ρ', g d ρ = some ρ') (hv : ∀ i ∈ vt, i ∈ own.map (·.2) := by decide) (hs : ∀ x, foldedSetIterable iter X.env x = pure x := by intro _; rfl) :
    PS X (.Assign [.Name y py] (.ListComp (.Dict [] [] ep) [⟨tg, iter, [], 0⟩] scope pos) spos) (tS X.K (sNewN i (cLL fl (.dic false [] [])))) :=
  ds_newNA (ps_setLc hc hN hy hyl hsw hi ok hg (fun _ _ _ _ _ => dts_nil) (fun _ _ _ _ _ => pe_dnewK) hs) fun _ _ _ h => tLL_of (o0 := .dK []) (c0 := .dic false [] []) (fun Z μ H a e => .inl ⟨rfl, [], e, rfl, RVL.nil'⟩) (fun σ H Q k => k) hv hgg h
end
end DL

set_option maxHeartbeats 4000000
namespace DL
open PySem PySem.Spec L2
/-! ### defs that change what they are handed: the store goes in and comes out -/
mutual
/-- all places below n -/
def rb (n : Nat) : D → Bool
  | .tup ds => rbs n ds
  | .lst ds => rbs n ds
  | .dic _ _ vs => rbs n vs
  | .ins _ _ vs => rbs n vs
  | .ref m => decide (m < n)
  | _ => true
def rbs (n : Nat) : List D → Bool
  | [] => true
  | d :: ds => rb n d && rbs n ds
end
def rbC (n : Nat) : Cell → Bool
  | .lst ds => rbs n ds
  | .dic _ _ vs => rbs n vs
  | .ins _ _ vs => rbs n vs
/-- places below n stay, the others are read -/
def frzB (n : Nat) : Nat → Sto → D → Option D
  | 0, _, d => frzS (fun m => if m < n then some (.ref m) else none) d
  | k + 1, S, d => frzS (fun m => if m < n then some (.ref m) else (S[m]?).bind fun c => match c with
      | .lst ds => (ds.mapM (frzB n k S)).map .lst
      | .dic t ks vs => (vs.mapM (frzB n k S)).map (.dic t ks)
      | .ins c fs vs => (vs.mapM (frzB n k S)).map (.ins c fs)) d
def finK (n : Nat) (d : D) (S : Sto) : Option D := if (S.take n).all (rbC n) then (if nr d then some d else frzB n 6 S d) else none
def finS (n : Nat) (d : D) (S : Sto) : D × Sto := if S.length ≤ n then (d, S) else match finK n d S with
  | some d' => (d', S.take n)
  | none => (d, S)
section
variable {K : PySem.W.Frag} {av av' : Addr → Prop} {μ μt : List Addr} {H : Hp}
mutual
theorem RV.cut {n : Nat} (hav : ∀ a, av' a → av a) (hm : ∀ m a, m < n → μ[m]? = some a → μt[m]? = some a) : ∀ (d : D) (v : V), rb n d = true → RV K av μ H d v → RV K av' μt H d v
  | .non, _, _, h => by unfold RV at h ⊢; exact h
  | .bl _, _, _, h => by unfold RV at h ⊢; exact h
  | .int _, _, _, h => by unfold RV at h ⊢; exact h
  | .str _, _, _, h => by unfold RV at h ⊢; exact h
  | .ty _, _, _, h => by unfold RV at h ⊢; exact h
  | .scr _, _, _, h => by unfold RV at h ⊢; exact h
  | .ref m, _, o, h => by
    simp only [rb, decide_eq_true_eq] at o
    unfold RV at h ⊢
    obtain ⟨a, e, h⟩ := h
    exact ⟨a, e, hm m a o h⟩
  | .tup ds, v, o, h => by
    simp only [rb] at o
    unfold RV at h ⊢
    obtain ⟨a, xs, e, hs, hr⟩ := h
    exact ⟨a, xs, e, hs, RVL.cut hav hm ds xs o hr⟩
  | .lst ds, v, o, h => by
    simp only [rb] at o
    unfold RV at h ⊢
    obtain ⟨a, xs, e, hs, hn, hr⟩ := h
    exact ⟨a, xs, e, hs, fun z => hn (hav a z), RVL.cut hav hm ds xs o hr⟩
  | .dic t ks vs, v, o, h => by
    simp only [rb] at o
    unfold RV at h ⊢
    obtain ⟨a, e, hn, h⟩ := h
    rcases h with ⟨ht, kvs, hs, hk, hr⟩ | ⟨ht, kvs, hs, hk, hr⟩
    · exact ⟨a, e, fun z => hn (hav a z), .inl ⟨ht, kvs, hs, hk, RVL.cut hav hm vs _ o hr⟩⟩
    · exact ⟨a, e, fun z => hn (hav a z), .inr ⟨ht, kvs, hs, hk, RVL.cut hav hm vs _ o hr⟩⟩
  | .ins c fs vs, v, o, h => by
    simp only [rb] at o
    unfold RV at h ⊢
    obtain ⟨a, C, dx, fvs, e, hn, hs, k, hf, hr⟩ := h
    exact ⟨a, C, dx, fvs, e, fun z => hn (hav a z), hs, k, hf, RVL.cut hav hm vs _ o hr⟩
theorem RVL.cut {n : Nat} (hav : ∀ a, av' a → av a) (hm : ∀ m a, m < n → μ[m]? = some a → μt[m]? = some a) : ∀ (ds : List D) (vs : List V), rbs n ds = true → RVL K av μ H ds vs → RVL K av' μt H ds vs
  | [], _, _, h => by unfold RVL at h ⊢; exact h
  | d :: ds, _, o, h => by
    simp only [rbs, Bool.and_eq_true] at o
    unfold RVL at h ⊢
    obtain ⟨y, ys, e, h1, h2⟩ := h
    exact ⟨y, ys, e, RV.cut hav hm d y o.1 h1, RVL.cut hav hm ds ys o.2 h2⟩
end
mutual
theorem RV.frzT {φ : Nat → Option D} (hav : ∀ a, av' a → av a) (hφ : ∀ n d', φ n = some d' → ∀ a, μ[n]? = some a → RV K av' μt H d' (.ref a)) :
    ∀ (d : D) (v : V) (d' : D), DL.frzS φ d = some d' → RV K av μ H d v → RV K av' μt H d' v
  | .non, _, _, e, h => by simp only [DL.frzS, Option.some.injEq] at e; subst e; unfold RV at h ⊢; exact h
  | .bl _, _, _, e, h => by simp only [DL.frzS, Option.some.injEq] at e; subst e; unfold RV at h ⊢; exact h
  | .int _, _, _, e, h => by simp only [DL.frzS, Option.some.injEq] at e; subst e; unfold RV at h ⊢; exact h
  | .str _, _, _, e, h => by simp only [DL.frzS, Option.some.injEq] at e; subst e; unfold RV at h ⊢; exact h
  | .ty _, _, _, e, h => by simp only [DL.frzS, Option.some.injEq] at e; subst e; unfold RV at h ⊢; exact h
  | .scr _, _, _, e, h => by simp only [DL.frzS, Option.some.injEq] at e; subst e; unfold RV at h ⊢; exact h
  | .ref n, v, d', e, h => by
    simp only [DL.frzS] at e
    unfold RV at h
    obtain ⟨a, rfl, hn⟩ := h
    exact hφ n d' e a hn
  | .tup ds, v, d', e, h => by
    simp only [DL.frzS, Option.map_eq_some_iff] at e
    obtain ⟨es, e, rfl⟩ := e
    unfold RV at h ⊢
    obtain ⟨a, xs, e1, hs, hr⟩ := h
    exact ⟨a, xs, e1, hs, RVL.frzT hav hφ ds xs es e hr⟩
  | .lst ds, v, d', e, h => by
    simp only [DL.frzS, Option.map_eq_some_iff] at e
    obtain ⟨es, e, rfl⟩ := e
    unfold RV at h ⊢
    obtain ⟨a, xs, e1, hs, hn, hr⟩ := h
    exact ⟨a, xs, e1, hs, fun z => hn (hav a z), RVL.frzT hav hφ ds xs es e hr⟩
  | .dic t ks vs, v, d', e, h => by
    simp only [DL.frzS, Option.map_eq_some_iff] at e
    obtain ⟨es, e, rfl⟩ := e
    unfold RV at h ⊢
    obtain ⟨a, e1, hn, h⟩ := h
    rcases h with ⟨ht, kvs, hs, hk, hr⟩ | ⟨ht, kvs, hs, hk, hr⟩
    · exact ⟨a, e1, fun z => hn (hav a z), .inl ⟨ht, kvs, hs, hk, RVL.frzT hav hφ vs _ es e hr⟩⟩
    · exact ⟨a, e1, fun z => hn (hav a z), .inr ⟨ht, kvs, hs, hk, RVL.frzT hav hφ vs _ es e hr⟩⟩
  | .ins c fs vs, v, d', e, h => by
    simp only [DL.frzS, Option.map_eq_some_iff] at e
    obtain ⟨es, e, rfl⟩ := e
    unfold RV at h ⊢
    obtain ⟨a, C, dx, fvs, e1, hn, hs, k, hf, hr⟩ := h
    exact ⟨a, C, dx, fvs, e1, fun z => hn (hav a z), hs, k, hf, RVL.frzT hav hφ vs _ es e hr⟩
theorem RVL.frzT {φ : Nat → Option D} (hav : ∀ a, av' a → av a) (hφ : ∀ n d', φ n = some d' → ∀ a, μ[n]? = some a → RV K av' μt H d' (.ref a)) :
    ∀ (ds : List D) (vs : List V) (es : List D), DL.frzSs φ ds = some es → RVL K av μ H ds vs → RVL K av' μt H es vs
  | [], vs, es, e, h => by simp only [DL.frzSs, Option.some.injEq] at e; subst e; unfold RVL at h ⊢; exact h
  | d :: ds, vs, es, e, h => by
    simp only [DL.frzSs, Option.bind_eq_some_iff, Option.map_eq_some_iff] at e
    obtain ⟨d', e1, es', e2, rfl⟩ := e
    unfold RVL at h ⊢
    obtain ⟨y, ys, e3, h1, h2⟩ := h
    exact ⟨y, ys, e3, RV.frzT hav hφ d y d' e1 h1, RVL.frzT hav hφ ds ys es' e2 h2⟩
end
end
section
variable {K : PySem.W.Frag} {Z : Fr} {μ μ' : List Addr} {H H' : Hp} {S S' : Sto}
theorem pre_lt {m : Nat} {a : Addr} (p : μ <+: μ') (hm : m < μ.length) (h : μ'[m]? = some a) : μ[m]? = some a := by
  obtain ⟨t, rfl⟩ := p
  rw [List.getElem?_append_left hm] at h
  exact h
theorem pre_ge {m : Nat} {a : Addr} (p : μ <+: μ') (nd : μ'.Nodup) (hm : ¬ m < μ.length) (h : μ'[m]? = some a) : ¬ a ∈ μ := by
  obtain ⟨t, rfl⟩ := p
  rw [List.getElem?_append_right (by omega)] at h
  intro z
  exact (List.nodup_append.mp nd).2.2 a z a (List.mem_of_getElem? h) rfl
theorem RV.frzB (W : Wd K Z μ' H S) (p : μ <+: μ') : ∀ (k : Nat) (d : D) (v : V) (d' : D), DL.frzB μ.length k S d = some d' → RVz K Z μ' H d v → RVz K Z μ H d' v
  | 0, d, v, d', e, h => by
    unfold DL.frzB at e
    refine RV.frzT (fun a z => z.elim .inl fun z => .inr (p.subset z)) (fun m d2 q a ha => ?_) d v d' e h
    split at q
    · rename_i hm
      cases q
      exact rv_ref.mpr ⟨a, rfl, pre_lt p hm ha⟩
    · cases q
  | k + 1, d, v, d', e, h => by
    unfold DL.frzB at e
    refine RV.frzT (fun a z => z.elim .inl fun z => .inr (p.subset z)) (fun m d2 q a ha => ?_) d v d' e h
    split at q
    · rename_i hm
      cases q
      exact rv_ref.mpr ⟨a, rfl, pre_lt p hm ha⟩
    · rename_i hm
      rw [Option.bind_eq_some_iff] at q
      obtain ⟨c, hc, q⟩ := q
      have r := W.cell m c a hc ha
      have nA : ¬ DL.avd Z μ a := fun z => z.elim (W.disA a (List.mem_of_getElem? ha)) (pre_ge p W.nd hm ha)
      cases c with
      | lst ds =>
        obtain ⟨xs, hx, r⟩ := r
        simp only [Option.map_eq_some_iff] at q
        obtain ⟨es, q, rfl⟩ := q
        exact rv_lst.mpr ⟨a, xs, rfl, hx, nA, RVL.mapM (fun d v d' e h => RV.frzB W p k d v d' e h) q r⟩
      | dic t ks vs =>
        simp only [Option.map_eq_some_iff] at q
        obtain ⟨es, q, rfl⟩ := q
        rcases r with ⟨ht, kvs, hs, hk, hr⟩ | ⟨ht, kvs, hs, hk, hr⟩
        · exact rv_dic.mpr ⟨a, rfl, nA, .inl ⟨ht, kvs, hs, hk, RVL.mapM (fun d v d' e h => RV.frzB W p k d v d' e h) q hr⟩⟩
        · exact rv_dic.mpr ⟨a, rfl, nA, .inr ⟨ht, kvs, hs, hk, RVL.mapM (fun d v d' e h => RV.frzB W p k d v d' e h) q hr⟩⟩
      | ins c fs vs =>
        simp only [Option.map_eq_some_iff] at q
        obtain ⟨es, q, rfl⟩ := q
        obtain ⟨C, dx, fvs, hx, kc, hf, r⟩ := r
        exact rv_ins.mpr ⟨a, C, dx, fvs, rfl, nA, hx, kc, hf, RVL.mapM (fun d v d' e h => RV.frzB W p k d v d' e h) q r⟩
theorem RC.cut {n : Nat} {a : Addr} {c : Cell} (hav : ∀ a, avd Z μ a → avd Z μ' a) (hm : ∀ m a, m < n → μ'[m]? = some a → μ[m]? = some a) (o : rbC n c = true) (h : RC K Z μ' H a c) : RC K Z μ H a c := by
  cases c with
  | lst ds => obtain ⟨xs, q, r⟩ := h; exact ⟨xs, q, RVL.cut hav hm _ _ o r⟩
  | dic t ks vs =>
    rcases h with ⟨t, kvs, q, k, r⟩ | ⟨t, kvs, q, k, r⟩
    · exact .inl ⟨t, kvs, q, k, RVL.cut hav hm _ _ o r⟩
    · exact .inr ⟨t, kvs, q, k, RVL.cut hav hm _ _ o r⟩
  | ins c fs vs => obtain ⟨C, dx, fvs, q, k, f, r⟩ := h; exact ⟨C, dx, fvs, q, k, f, RVL.cut hav hm _ _ o r⟩
theorem Wd.cut (W : Wd K Z μ' H S) (p : μ <+: μ') (hr : Z.μ0 <+: μ) (o : (S.take μ.length).all (rbC μ.length) = true) : Wd K Z μ H (S.take μ.length) := by
  have hl : μ.length ≤ S.length := by rw [W.len]; exact p.length_le
  refine ⟨by rw [List.length_take]; omega, W.nd.sublist p.sublist, fun m c a h1 h2 => ?_, W.base, fun a h => W.dis a (p.subset h), W.av, fun a h => W.disA a (p.subset h), hr⟩
  have hm : m < μ.length := (List.getElem?_eq_some_iff.mp h2).1
  have h1' : S[m]? = some c := by rw [List.getElem?_take, if_pos hm] at h1; exact h1
  have h2' : μ'[m]? = some a := by obtain ⟨t, rfl⟩ := p; rw [List.getElem?_append_left hm]; exact h2
  exact RC.cut (fun a z => z.elim .inl fun z => .inr (p.subset z)) (fun m a hm h => pre_lt p hm h) (List.all_eq_true.mp o c (List.mem_of_getElem? h1)) (W.cell m c a h1' h2')
/-- what stands when a def that changes things is done -/
structure Kept (μ : List Addr) (H : Hp) (μ' : List Addr) (H' : Hp) : Prop where
  pre : μ <+: μ'
  keep : ∀ a o, H a = some o → ¬ a ∈ μ → H' a = some o
  new : ∀ a ∈ μ', a ∈ μ ∨ H a = none
theorem Kept.rv (k : Kept μ H μ' H') (W : Wd K Z μ H S) {d : D} {v : V} (h : RVz K Z μ H d v) : RVz K Z μ' H' d v := by
  refine RV.tr (fun a o e hn => ?_) (fun n a e => ?_) d v h
  · have nm : ¬ a ∈ μ := fun z => by
      obtain ⟨o', e', m⟩ := W.mem z
      rw [e] at e'; cases e'
      exact hn m (.inr z)
    refine ⟨k.keep a o e nm, fun m q => ?_⟩
    rcases q with q | q
    · exact hn m (.inl q)
    · rcases k.new a q with z | z
      · exact nm z
      · rw [e] at z; cases z
  · obtain ⟨t, ht⟩ := k.pre
    rw [← ht, List.getElem?_append_left (List.getElem?_eq_some_iff.mp e).1]
    exact e
theorem Kept.rvl (k : Kept μ H μ' H') (W : Wd K Z μ H S) {d : List D} {v : List V} (h : RVLz K Z μ H d v) : RVLz K Z μ' H' d v := by
  refine RVL.tr (fun a o e hn => ?_) (fun n a e => ?_) d v h
  · have nm : ¬ a ∈ μ := fun z => by
      obtain ⟨o', e', m⟩ := W.mem z
      rw [e] at e'; cases e'
      exact hn m (.inr z)
    refine ⟨k.keep a o e nm, fun m q => ?_⟩
    rcases q with q | q
    · exact hn m (.inl q)
    · rcases k.new a q with z | z
      · exact nm z
      · rw [e] at z; cases z
  · obtain ⟨t, ht⟩ := k.pre
    rw [← ht, List.getElem?_append_left (List.getElem?_eq_some_iff.mp e).1]
    exact e
theorem Kept.cut (k : Kept μ H μ' H') : Kept μ H μ H' := ⟨List.prefix_refl _, k.keep, fun a h => .inl h⟩
theorem Rel.kept' {σ σ' : L2.St} {ρ ρ' : Rho} (W : Wd K Z μ H S) (R : Rel K (Z.rb μ H) μ' σ' H' ρ' S') : Kept μ H μ' H' := by
  refine ⟨R.wd.root, R.kept W, fun a h => ?_⟩
  by_cases hm : a ∈ μ
  · exact .inl hm
  · have z : (if a ∈ μ then none else H a) = none := R.wd.dis a h
    rw [if_neg hm] at z
    exact .inr z
/-- the end of a def -/
theorem fin_of {σ' : L2.St} {ρ' : Rho} {d : D} {v : V} (W : Wd K Z μ H S) (R : Rel K (Z.rb μ H) μ' σ' H' ρ' S') (h : RVz K Z μ' H' d v) :
    ∃ μ2, Kept μ H μ2 H' ∧ Wd K Z μ2 H' (finS μ.length d S').2 ∧ RVz K Z μ2 H' (finS μ.length d S').1 v := by
  have k := R.kept' (σ := σ') (ρ := ρ') W
  have W' := (R.ub W).wd
  unfold finS
  split
  · exact ⟨μ', k, W', h⟩
  · cases e : finK μ.length d S' with
    | none => exact ⟨μ', k, W', h⟩
    | some d' =>
      simp only [finK] at e
      split at e
      · rename_i ho
        refine ⟨μ, k.cut, W'.cut k.pre W.root ho, ?_⟩
        split at e
        · rename_i hn
          cases e
          exact RV.nr _ _ hn (RV.tr (fun a o e hn => ⟨e, fun m z => hn m (z.elim .inl fun z => .inr (k.pre.subset z))⟩) (fun _ _ e => e) _ _ h)
        · exact RV.frzB W' k.pre _ _ _ _ e h
      · cases e
end
end DL

set_option maxHeartbeats 4000000
namespace DL
open PySem PySem.Spec L2
abbrev SF := List D → Sto → Option (D × Sto)
def spS (K : PySem.W.Frag) (n : Nat) (g : SF) : Sp := fun vs H Q _ => ∃ (Z : Fr) (μ : List Addr) (S : Sto) (ds : List D), ds.length = n ∧ Wd K Z μ H S ∧ RVLz K Z μ H ds vs ∧ ∃ r S', g ds S = some (r, S') ∧
  ∀ v H' μ', Kept μ H μ' H' → Wd K Z μ' H' S' → RVz K Z μ' H' r v → Q v H'
def runS (body : T) (n : Nat) : SF := fun ds S => (body (startR n ds) S).bind fun r => match r with
  | (.rt d, _, S') => some (finS S.length d S')
  | (.rf es, _, S') => some (finS S.length (.lst es) S')
  | (.nx, _, S') => some (finS S.length .non S')
  | _ => none
theorem rel_startS {K : PySem.W.Frag} {Z : Fr} {μ : List Addr} {H : Hp} {S : Sto} {ds : List D} {vs : List V} {N : List Str} (W : Wd K Z μ H S) (hl : ds.length ≤ N.length) (r : RVLz K Z μ H ds vs) : Rel K Z μ (L2.start N vs) H (startR N.length ds) S := by
  have hv := RVL.length r
  refine ⟨W, ?_, fun i d h => ?_⟩
  · unfold L2.start startR
    simp only [List.length_append, List.length_map, List.length_replicate]
    omega
  · obtain ⟨v, h1, h2⟩ := RVL.get r (startR_get h)
    refine ⟨v, ?_, h2⟩
    unfold L2.start
    have hi := (List.getElem?_eq_some_iff.mp h1).1
    rw [List.getElem?_append_left (by simpa using hi), List.getElem?_map, h1]
    rfl
/-- a method of a class, that reads only; one that changes things -/
def AtM (P : Program) (w : World) (K : PySem.W.Frag) (mg : Str → Option Value) (base : Heap) (c m : Str) (k n : Nat) (g : List D → Option D) : Prop :=
  ∃ f fd ps, (∀ C, ClsAt K c C → Cls K C ∧ Meth K C m f) ∧ Binds K fd ps [] ∧ FnOk P w K mg base CX0 k f fd ps (spD K n g)
def AtS (P : Program) (w : World) (K : PySem.W.Frag) (mg : Str → Option Value) (base : Heap) (c m : Str) (k n : Nat) (g : SF) : Prop :=
  ∃ f fd ps, (∀ C, ClsAt K c C → Cls K C ∧ Meth K C m f) ∧ Binds K fd ps [] ∧ FnOk P w K mg base CX0 k f fd ps (spS K n g)
/-- a class that is made by its __init__ -/
def AtI (P : Program) (w : World) (K : PySem.W.Frag) (mg : Str → Option Value) (base : Heap) (c : Str) (k n : Nat) (g : SF) : Prop :=
  ∃ C f fd ps, ClsAt K c C ∧ mg c = some (.ref C) ∧ Mk K C f ∧ Binds K fd ps [] ∧ FnOk P w K mg base CX0 k f fd ps (spS K n g)
/-- the def stands in the class -/
def TxM (K : PySem.W.Frag) (c m q : Str) (st : Stmt) (ps : List Str) : Prop := ∃ f fd, (∀ C, ClsAt K c C → Cls K C ∧ Meth K C m f) ∧ Fun K m q st f fd ∧ Binds K fd ps []
def TxI (K : PySem.W.Frag) (mg : Str → Option Value) (c q : Str) (st : Stmt) (ps : List Str) : Prop := ∃ C f fd, ClsAt K c C ∧ mg c = some (.ref C) ∧ Mk K C f ∧ Fun K "__init__" q st f fd ∧ Binds K fd ps []
section
variable {P : Program} {w : World} {K : PySem.W.Frag} {mg : Str → Option Value} {base : Heap} {x q c m : Str} {st : Stmt} {N ps : List Str} {k : Nat} {body : T}
theorem fnOS {f : Addr} {fd : FuncData} (F : Fun K x q st f fd) (S : FnScope N ps (defScope st))
    (hb : ∀ (f : Addr) (cdv : Value) (A : Around) (outer : List Env) (s : Shared) (H : Hp) (E : XK), Room k (A.deeper (PyProof.Rows.envOfC q (defScope st) s.heap.objs.size f cdv)) → PSs (cxOf CX0 P w K mg base N q (defScope st) f cdv A outer s H E).nox (defBody st) (tS K body)) :
    FnOk P w K mg base CX0 (k + 1) f fd ps (spS K ps.length (runS body N.length)) := by
  have hlN : ps.length ≤ N.length := by
    have := congrArg List.length S.pre
    rw [List.length_take] at this
    omega
  refine F.ok S (fun vs H Q E h => ?_) fun cdv A outer s H vs Q E hr h => ?_
  · obtain ⟨Z, μ, S, ds, hl, W, r, _⟩ := h
    rw [RVL.length r, hl]
  · obtain ⟨Z, μ, S, ds, hl, W, r, d, S', hg, q⟩ := h
    refine ⟨_, hb f cdv A outer s H E hr, ?_⟩
    simp only [runS, Option.bind_eq_some_iff] at hg
    obtain ⟨⟨fl, ρ', S1⟩, e1, e2⟩ := hg
    have R0 := (rel_startS (N := N) W (by omega) r).rb
    have sl : S.length = μ.length := W.len
    refine ⟨Z.rb μ H, μ, _, S, R0, fl, ρ', S1, e1, ?_⟩
    cases fl with
    | nx =>
      simp only [Option.some.injEq] at e2
      intro σ H' μ' R
      obtain ⟨μ2, k2, w2, r2⟩ := fin_of W R (d := .non) (rv_non.mpr rfl)
      rw [sl] at e2
      rw [e2] at w2 r2
      exact q .non H' μ2 k2 w2 r2
    | bk => simp at e2
    | ct => simp at e2
    | rt e =>
      simp only [Option.some.injEq] at e2
      intro v σ H' μ' R rv
      obtain ⟨μ2, k2, w2, r2⟩ := fin_of W R (d := e) rv
      rw [sl] at e2
      rw [e2] at w2 r2
      exact q v H' μ2 k2 w2 r2
    | rf es =>
      simp only [Option.some.injEq] at e2
      intro a xs σ H' μ' R n na h1 rv
      have rv' : RVz K Z μ' H' (.lst es) (.ref a) := rv_lst.mpr ⟨a, xs, rfl, h1, na, rv.weakO⟩
      obtain ⟨μ2, k2, w2, r2⟩ := fin_of W R (d := .lst es) rv'
      rw [sl] at e2
      rw [e2] at w2 r2
      exact q (.ref a) H' μ2 k2 w2 r2
theorem fnM (h : TxM K c m q st ps) (S : FnScope N ps (defScope st))
    (hb : ∀ (f : Addr) (cdv : Value) (A : Around) (outer : List Env) (s : Shared) (H : Hp) (E : XK), Room k (A.deeper (PyProof.Rows.envOfC q (defScope st) s.heap.objs.size f cdv)) → PSs (cxOf CX0 P w K mg base N q (defScope st) f cdv A outer s H E).nox (defBody st) (tS K body)) :
    AtS P w K mg base c m (k + 1) ps.length (runS body N.length) := by
  obtain ⟨f, fd, hm, F, hbi⟩ := h
  exact ⟨f, fd, ps, hm, hbi, fnOS F S hb⟩
theorem fnI (h : TxI K mg c q st ps) (S : FnScope N ps (defScope st))
    (hb : ∀ (f : Addr) (cdv : Value) (A : Around) (outer : List Env) (s : Shared) (H : Hp) (E : XK), Room k (A.deeper (PyProof.Rows.envOfC q (defScope st) s.heap.objs.size f cdv)) → PSs (cxOf CX0 P w K mg base N q (defScope st) f cdv A outer s H E).nox (defBody st) (tS K body)) :
    AtI P w K mg base c (k + 1) ps.length (runS body N.length) := by
  obtain ⟨C, f, fd, hc, hm, M, F, hbi⟩ := h
  exact ⟨C, f, fd, ps, hc, hm, M, hbi, fnOS F S hb⟩
/-- fnO for any second name -/
theorem fnO2 {f : Addr} {fd : FuncData} (F : Fun K x q st f fd) (S : FnScope N ps (defScope st))
    (hb : ∀ (f : Addr) (cdv : Value) (A : Around) (outer : List Env) (s : Shared) (H : Hp) (E : XK), Room k (A.deeper (PyProof.Rows.envOfC q (defScope st) s.heap.objs.size f cdv)) → PSs (cxOf CX0 P w K mg base N q (defScope st) f cdv A outer s H E).nox (defBody st) (tS K body)) :
    FnOk P w K mg base CX0 (k + 1) f fd ps (spD K ps.length (runD body N.length)) := by
  have hlN : ps.length ≤ N.length := by
    have := congrArg List.length S.pre
    rw [List.length_take] at this
    omega
  refine F.ok S (fun vs H Q E h => ?_) fun cdv A outer s H vs Q E hr h => ?_
  · obtain ⟨A, ds, hl, _, r, _⟩ := h
    rw [RVL.length r, hl]
  · obtain ⟨Av, ds, hl, hA, r, d, hg, q⟩ := h
    refine ⟨_, hb f cdv A outer s H E hr, ?_⟩
    simp only [runD, Option.bind_eq_some_iff] at hg
    obtain ⟨⟨fl, ρ', S'⟩, e1, e2⟩ := hg
    refine ⟨⟨H, Av, [], fun _ => 0⟩, [], _, [], rel_start hA (by omega) r, fl, ρ', S', e1, ?_⟩
    cases fl with
    | nx =>
      simp only [Option.some.injEq] at e2
      subst e2
      exact fun σ H' μ R => q .non H' (fun a o e => R.wd.base a o e) (rv_non.mpr rfl)
    | bk => simp at e2
    | ct => simp at e2
    | rt e => exact fun v σ H' μ R rv => q v H' (fun a o e => R.wd.base a o e) (RV.fz R.wd e2 rv)
    | rf es =>
      simp only [Option.map_eq_some_iff] at e2
      obtain ⟨es', e3, rfl⟩ := e2
      exact fun a xs σ H' μ R n na h1 rv => q _ H' (fun a o e => R.wd.base a o e) (rv_lst.mpr ⟨a, xs, rfl, h1, fun z => na (.inl z), RVL.fzs R.wd e3 rv.weakO⟩)
theorem fnMP (h : TxM K c m q st ps) (S : FnScope N ps (defScope st))
    (hb : ∀ (f : Addr) (cdv : Value) (A : Around) (outer : List Env) (s : Shared) (H : Hp) (E : XK), Room k (A.deeper (PyProof.Rows.envOfC q (defScope st) s.heap.objs.size f cdv)) → PSs (cxOf CX0 P w K mg base N q (defScope st) f cdv A outer s H E).nox (defBody st) (tS K body)) :
    AtM P w K mg base c m (k + 1) ps.length (runD body N.length) := by
  obtain ⟨f, fd, hm, F, hbi⟩ := h
  exact ⟨f, fd, ps, hm, hbi, fnO2 F S hb⟩
end
/-! ### calls -/
abbrev ES := Rho → Sto → Option (D × Sto)
def tE (K : PySem.W.Frag) (f : ES) : TE := fun σ H Q => ∃ Z μ ρ S, Rel K Z μ σ H ρ S ∧ ∃ d S', f ρ S = some (d, S') ∧ ∀ v H' μ', Kept μ H μ' H' → Wd K Z μ' H' S' → RVz K Z μ' H' d v → Q v H'
section
variable {K : PySem.W.Frag} {Z : Fr} {μ μ' μ2 : List Addr} {H H' H2 : Hp} {S S' : Sto} {σ : L2.St} {ρ : Rho}
theorem Kept.same (s : Same H H') (k : Kept μ H' μ2 H2) : Kept μ H μ2 H2 := ⟨k.pre, fun a o e n => k.keep a o (s _ _ e) n, fun a h => (k.new a h).imp id fun z => s.free z⟩
theorem Kept.of (s : Same H H') : Kept μ H μ H' := ⟨List.prefix_refl _, fun a o e _ => s _ _ e, fun a h => .inl h⟩
theorem Kept.more (k : Kept μ H μ2 H') (s : Same H' H2) : Kept μ H μ2 H2 := ⟨k.pre, fun a o e n => s _ _ (k.keep a o e n), k.new⟩
theorem Kept.trans (k1 : Kept μ H μ' H') (k2 : Kept μ' H' μ2 H2) : Kept μ H μ2 H2 := by
  refine ⟨k1.pre.trans k2.pre, fun a o e n => k2.keep a o (k1.keep a o e n) fun z => ?_, fun a h => ?_⟩
  · rcases k1.new a z with z | z
    · exact n z
    · rw [e] at z; cases z
  · rcases k2.new a h with z | z
    · exact k1.new a z
    · by_cases hm : a ∈ μ
      · exact .inl hm
      · right
        cases q : H a with
        | none => rfl
        | some o => rw [k1.keep a o q hm] at z; cases z
theorem Rel.keptTo (R : Rel K Z μ σ H ρ S) (k : Kept μ H μ' H') (W : Wd K Z μ' H' S') : Rel K Z μ' σ H' ρ S' := R.with W fun _ _ h => k.rv R.wd h
end
/-- o.m(..), that changes things -/
def noF (fs : List Str) (m : Str) : Bool := fs.all fun g => !decide (g = m)
def mS (c m : Str) (g : SF) (fo : E) (fs : EL) : ES := fun ρ S => (fo ρ S).bind fun o => (objD S o).bind fun p => if p.1 = c ∧ noF p.2.1 m = true then (fs ρ S).bind fun ds => g (o :: ds) S else none
/-- o.m(..), that reads only -/
def mP (c m : Str) (g : List D → Option D) (fo : E) (fs : EL) : E := fun ρ S => (fo ρ S).bind fun o => (objD S o).bind fun p => if p.1 = c ∧ noF p.2.1 m = true then (fs ρ S).bind fun ds => if nrs (o :: ds) then g (o :: ds) else (fzs S (o :: ds)).bind fun es => (g es).bind fun r => if imm r then some r else none else none
/-- C(..) -/
def mk (c : Str) (g : SF) (fs : EL) : ES := fun ρ S => (fs ρ S).bind fun ds => (g (.ref S.length :: ds) (S ++ [.ins c [] []])).bind fun r => match r with
  | (.non, S') => some (.ref S.length, S')
  | _ => none
/-- C(..), of a thing that is never changed later -/
def mkV (c : Str) (g : SF) (fs : EL) : E := fun ρ S => (fs ρ S).bind fun ds => if nrs ds then (g (.ref 0 :: ds) [.ins c [] []]).bind fun r => match r with
  | (.non, S') => fz S' (.ref 0)
  | _ => none else none
theorem look_no {fvs : List (Str × V)} {m : Str} (h : noF (fvs.map (·.1)) m = true) : fvs.lookup m = none := by
  induction fvs with
  | nil => rfl
  | cons p fvs ih =>
    simp only [noF, List.map_cons, List.all_cons, Bool.and_eq_true, Bool.not_eq_true', decide_eq_false_iff_not] at h
    rw [List.lookup_cons]
    have : (m == p.1) = false := by
      have := h.1
      simp
      exact fun z => this z.symm
    rw [this]
    exact ih h.2
section
variable {X : Cx} {o e : Expr} {es : List Expr} {c m x : Str} {p pos apos : Pos} {k j n : Nat} {fo : E} {fs : EL}
theorem meth_S {g : SF} {C : Addr} {σ : L2.St} {H : Hp} {Q : VK} {E : XK} (hC : ∀ C', ClsAt X.K c C' → C' = C) (hl : ∀ {ρ : Rho} {S : Sto} {ds : List D}, fs ρ S = some ds → ds.length + 1 = n) (h : tE X.K (mS c m g fo fs) σ H Q) : tMeth C m (spS X.K n g) [] E (tD X.K fo) (tA X.K fs) σ H Q := by
  obtain ⟨Z, μ, ρ, S, R, d, S', e, q⟩ := h
  simp only [mS, Option.bind_eq_some_iff] at e
  obtain ⟨od, e1, ⟨c', fs', vs'⟩, e2, e3⟩ := e
  split at e3
  case isFalse => cases e3
  rename_i hc
  obtain ⟨rfl, hno⟩ := hc
  rw [Option.bind_eq_some_iff] at e3
  obtain ⟨ds, e4, e5⟩ := e3
  refine ⟨Z, μ, ρ, S, R, od, e1, fun v H1 s1 r1 => ?_⟩
  obtain ⟨a, C', dx, fvs, rfl, h1, h2, rfl, h4⟩ := obj_of (R.wd.mono s1) r1 e2
  cases hC C' h2
  refine ⟨a, dx, fvs, rfl, h1, look_no hno, Z, μ, ρ, S, R.mono s1, ds, e4, fun vs H2 s2 r2 => ?_⟩
  simp only [List.append_nil]
  exact ⟨Z, μ, S, od :: ds, by simpa using hl e4, (R.wd.mono s1).mono s2, RVL.cons' (RV.mono s2 r1) r2, d, S', e5, fun v H' μ' k w r => q v H' μ' (k.same (s1.trans s2)) w r⟩
theorem cls_one {K : PySem.W.Frag} {C C' : Addr} (h1 : ClsAt K c C) (h2 : ClsAt K c C') : C' = C := by
  unfold ClsAt at h1 h2
  rw [h1] at h2
  cases h2; rfl
theorem clsAt_dec {K : PySem.W.Frag} : (∃ C, ClsAt K c C) ∨ ∀ C, ¬ ClsAt K c C := by
  by_cases h : ∃ C, ClsAt K c C
  · exact .inl h
  · exact .inr fun C z => h ⟨C, z⟩
/-- the class's place -/
def ClsIs (K : PySem.W.Frag) (c : Str) : Prop := ∃ C, ClsAt K c C
theorem d_methS {pl : Sem Bool} {g : SF} (hi : ClsIs X.K c) (h : AtS X.prog X.w X.K X.mg X.base c m k n g) (hr : Room j X.A) (hk : k ≤ j) (ho : PE X o (tD X.K fo)) (ha : PA X (e :: es) (tA X.K fs)) (hl : ∀ {ρ : Rho} {S : Sto} {ds : List D}, fs ρ S = some ds → ds.length + 1 = n)
    (hst : starEach (e :: es) X.env = (false, eval e X.env) :: starEach es X.env := by rfl) (hpl : (backTo pos (starEach es X.env)).any (·.1) = false := by rfl)
    (ht : eval (.Call (.Attribute o m apos) (e :: es) [] pos) X.env = (do
      let ov ← eval o X.env
      standAt apos.atName
      let (f, first) ← holding [ov] (getMethod ov m pl)
      callWith pos f first (backTo pos (starEach (e :: es) X.env)) (backToKw pos (keywordEach [] X.env))) := by rfl) :
    PE X (.Call (.Attribute o m apos) (e :: es) [] pos) (tE X.K (mS c m g fo fs)) := by
  obtain ⟨C, hC⟩ := hi
  obtain ⟨f, fd, ps, hm, hb, F⟩ := h
  obtain ⟨hc, hme⟩ := hm C hC
  exact pe_imp (pe_meth ho hc hme F (hr.mono hk) hb .nil pass0 ha hst hpl ht) fun σ H Q h => meth_S (fun C' h' => cls_one hC h') hl h
theorem d_methS0 {pl : Sem Bool} {g : SF} (hi : ClsIs X.K c) (h : AtS X.prog X.w X.K X.mg X.base c m k 1 g) (hr : Room j X.A) (hk : k ≤ j) (ho : PE X o (tD X.K fo))
    (ht : eval (.Call (.Attribute o m apos) [] [] pos) X.env = (do
      let ov ← eval o X.env
      standAt apos.atName
      let (f, first) ← holding [ov] (getMethod ov m pl)
      callWith pos f first (backTo pos (starEach [] X.env)) (backToKw pos (keywordEach [] X.env))) := by rfl) :
    PE X (.Call (.Attribute o m apos) [] [] pos) (tE X.K (mS c m g fo aNil)) := by
  obtain ⟨C, hC⟩ := hi
  obtain ⟨f, fd, ps, hm, hb, F⟩ := h
  obtain ⟨hc, hme⟩ := hm C hC
  refine pe_imp (pe_meth0 ho hc hme F (hr.mono hk) hb .nil pass0 ht) fun σ H Q h => ?_
  have := meth_S (C := C) (E := fun _ _ _ => False) (fun C' h' => cls_one hC h') (fun {ρ S ds} (e : aNil ρ S = some ds) => by simp only [aNil, Option.some.injEq] at e; subst e; rfl) h
  obtain ⟨Z, μ, ρ, S, R, d, e, q⟩ := this
  refine ⟨Z, μ, ρ, S, R, d, e, fun v H' s r => ?_⟩
  obtain ⟨a, dx, fvs, h1, h2, h3, Z', μ', ρ', S', R', ds, e', q'⟩ := q v H' s r
  simp only [aNil, Option.some.injEq] at e'
  subst e'
  exact ⟨a, dx, fvs, h1, h2, h3, q' [] H' (Same.refl H') RVL.nil'⟩
theorem meth_P {g : List D → Option D} {C : Addr} {σ : L2.St} {H : Hp} {Q : VK} {E : XK} (hC : ∀ C', ClsAt X.K c C' → C' = C) (hl : ∀ {ρ : Rho} {S : Sto} {ds : List D}, fs ρ S = some ds → ds.length + 1 = n) (h : tD X.K (mP c m g fo fs) σ H Q) : tMeth C m (spD X.K n g) [] E (tD X.K fo) (tA X.K fs) σ H Q := by
  obtain ⟨Z, μ, ρ, S, R, d, e, q⟩ := h
  simp only [mP, Option.bind_eq_some_iff] at e
  obtain ⟨od, e1, ⟨c', fs', vs'⟩, e2, e3⟩ := e
  split at e3
  case isFalse => cases e3
  rename_i hc
  obtain ⟨rfl, hno⟩ := hc
  rw [Option.bind_eq_some_iff] at e3
  obtain ⟨ds, e4, e5⟩ := e3
  refine ⟨Z, μ, ρ, S, R, od, e1, fun v H1 s1 r1 => ?_⟩
  obtain ⟨a, C', dx, fvs, rfl, h1, h2, rfl, h4⟩ := obj_of (R.wd.mono s1) r1 e2
  cases hC C' h2
  refine ⟨a, dx, fvs, rfl, h1, look_no hno, Z, μ, ρ, S, R.mono s1, ds, e4, fun vs H2 s2 r2 => ?_⟩
  simp only [List.append_nil]
  exact sp_of ((R.wd.mono s1).mono s2) (by simpa using hl e4) (RVL.cons' (RV.mono s2 r1) r2) e5 fun w H' s3 r3 => q w H' ((s1.trans s2).trans s3) r3
theorem d_methP {pl : Sem Bool} {g : List D → Option D} (hi : ClsIs X.K c) (h : AtM X.prog X.w X.K X.mg X.base c m k n g) (hr : Room j X.A) (hk : k ≤ j) (ho : PE X o (tD X.K fo)) (ha : PA X (e :: es) (tA X.K fs)) (hl : ∀ {ρ : Rho} {S : Sto} {ds : List D}, fs ρ S = some ds → ds.length + 1 = n)
    (hst : starEach (e :: es) X.env = (false, eval e X.env) :: starEach es X.env := by rfl) (hpl : (backTo pos (starEach es X.env)).any (·.1) = false := by rfl)
    (ht : eval (.Call (.Attribute o m apos) (e :: es) [] pos) X.env = (do
      let ov ← eval o X.env
      standAt apos.atName
      let (f, first) ← holding [ov] (getMethod ov m pl)
      callWith pos f first (backTo pos (starEach (e :: es) X.env)) (backToKw pos (keywordEach [] X.env))) := by rfl) :
    PE X (.Call (.Attribute o m apos) (e :: es) [] pos) (tD X.K (mP c m g fo fs)) := by
  obtain ⟨C, hC⟩ := hi
  obtain ⟨f, fd, ps, hm, hb, F⟩ := h
  obtain ⟨hc, hme⟩ := hm C hC
  exact pe_imp (pe_meth ho hc hme F (hr.mono hk) hb .nil pass0 ha hst hpl ht) fun σ H Q h => meth_P (fun C' h' => cls_one hC h') hl h
theorem d_methP0 {pl : Sem Bool} {g : List D → Option D} (hi : ClsIs X.K c) (h : AtM X.prog X.w X.K X.mg X.base c m k 1 g) (hr : Room j X.A) (hk : k ≤ j) (ho : PE X o (tD X.K fo))
    (ht : eval (.Call (.Attribute o m apos) [] [] pos) X.env = (do
      let ov ← eval o X.env
      standAt apos.atName
      let (f, first) ← holding [ov] (getMethod ov m pl)
      callWith pos f first (backTo pos (starEach [] X.env)) (backToKw pos (keywordEach [] X.env))) := by rfl) :
    PE X (.Call (.Attribute o m apos) [] [] pos) (tD X.K (mP c m g fo aNil)) := by
  obtain ⟨C, hC⟩ := hi
  obtain ⟨f, fd, ps, hm, hb, F⟩ := h
  obtain ⟨hc, hme⟩ := hm C hC
  refine pe_imp (pe_meth0 ho hc hme F (hr.mono hk) hb .nil pass0 ht) fun σ H Q h => ?_
  have := meth_P (C := C) (E := fun _ _ _ => False) (fun C' h' => cls_one hC h') (fun {ρ S ds} (e : aNil ρ S = some ds) => by simp only [aNil, Option.some.injEq] at e; subst e; rfl) h
  obtain ⟨Z, μ, ρ, S, R, d, e, q⟩ := this
  refine ⟨Z, μ, ρ, S, R, d, e, fun v H' s r => ?_⟩
  obtain ⟨a, dx, fvs, h1, h2, h3, Z', μ', ρ', S', R', ds, e', q'⟩ := q v H' s r
  simp only [aNil, Option.some.injEq] at e'
  subst e'
  exact ⟨a, dx, fvs, h1, h2, h3, q' [] H' (Same.refl H') RVL.nil'⟩
/-! making -/
theorem d_mk {g : SF} (h : AtI X.prog X.w X.K X.mg X.base c k n g) (hr : Room j X.A) (hk : k + 1 ≤ j) (hg : Gl X c) (ha : PA X (e :: es) (tA X.K fs)) (hl : ∀ {ρ : Rho} {S : Sto} {ds : List D}, fs ρ S = some ds → ds.length + 1 = n)
    (hdb : (c == ("__debug__" : Str)) = false := by decide) (he : starEach (e :: es) X.env = (false, eval e X.env) :: starEach es X.env := by rfl) (hpl : (backTo pos (starEach es X.env)).any (·.1) = false := by rfl) :
    PE X (.Call (.Name c p) (e :: es) [] pos) (tE X.K (mk c g fs)) := by
  obtain ⟨C, f, fd, ps, hC, hm, M, hb, F⟩ := h
  refine pe_imp (pe_make M F (hr.mono hk) hg hm hb .nil pass0 ha hdb he hpl) fun σ H Q ⟨Z, μ, ρ, S, R, d, S', e, q⟩ => ?_
  simp only [mk, Option.bind_eq_some_iff] at e
  obtain ⟨ds, e1, ⟨r, S2⟩, e2, e3⟩ := e
  split at e3
  · rename_i S3 heq
    simp only [Prod.mk.injEq] at heq
    obtain ⟨rfl, rfl⟩ := heq
    simp only [Option.some.injEq, Prod.mk.injEq] at e3
    obtain ⟨rfl, rfl⟩ := e3
    refine ⟨Z, μ, ρ, S, R, ds, e1, fun vs H1 s1 r1 => fun x dx nx ndx nex => ?_⟩
    have s2 : Same H1 (upd (upd H1 dx (.own x)) x (.ins C dx [])) := fun b o z => by rw [upd_ne (ne_of_none z nx), upd_ne (ne_of_none z ndx)]; exact z
    have R2 := (R.mono s1).alloc (a := x) (c := .ins c [] []) s2 nx ⟨C, dx, [], upd_same, hC, rfl, RVL.nil'⟩
    simp only [List.append_nil]
    have rx : RVz X.K Z (μ ++ [x]) (upd (upd H1 dx (.own x)) x (.ins C dx [])) (.ref S.length) (.ref x) := rv_first R.wd
    refine ⟨Z, μ ++ [x], S ++ [.ins c [] []], .ref S.length :: ds, by simpa using hl e1, R2.wd, RVL.cons' rx (RVL.alloc s2 nx r1), .non, _, e2, fun v H' μ' k w r => ⟨rv_non.mp r, ?_⟩⟩
    have k' : Kept μ H μ' H' := by
      refine ⟨(List.prefix_append _ _).trans k.pre, fun a o e' n' => k.keep a o (s2 _ _ (s1 _ _ e')) fun z => ?_, fun a h' => ?_⟩
      · rcases List.mem_append.mp z with z | z
        · exact n' z
        · rw [List.mem_singleton.mp z] at e'
          rw [s1 _ _ e'] at nx; cases nx
      · rcases k.new a h' with z | z
        · rcases List.mem_append.mp z with z | z
          · exact .inl z
          · rw [List.mem_singleton.mp z]; exact .inr (s1.free nx)
        · exact .inr (s1.free (s2.free z))
    exact q _ H' μ' k' w (k.rv R2.wd rx)
  · cases e3
theorem d_mkV {g : SF} (h : AtI X.prog X.w X.K X.mg X.base c k n g) (hr : Room j X.A) (hk : k + 1 ≤ j) (hg : Gl X c) (ha : PA X (e :: es) (tA X.K fs)) (hl : ∀ {ρ : Rho} {S : Sto} {ds : List D}, fs ρ S = some ds → ds.length + 1 = n)
    (hdb : (c == ("__debug__" : Str)) = false := by decide) (he : starEach (e :: es) X.env = (false, eval e X.env) :: starEach es X.env := by rfl) (hpl : (backTo pos (starEach es X.env)).any (·.1) = false := by rfl) :
    PE X (.Call (.Name c p) (e :: es) [] pos) (tD X.K (mkV c g fs)) := by
  obtain ⟨C, f, fd, ps, hC, hm, M, hb, F⟩ := h
  refine pe_imp (pe_make M F (hr.mono hk) hg hm hb .nil pass0 ha hdb he hpl) fun σ H Q ⟨Z, μ, ρ, S, R, d, e, q⟩ => ?_
  simp only [mkV, Option.bind_eq_some_iff] at e
  obtain ⟨ds, e1, e⟩ := e
  split at e
  case isFalse => cases e
  rename_i hn
  rw [Option.bind_eq_some_iff] at e
  obtain ⟨⟨r, S2⟩, e2, e3⟩ := e
  split at e3
  · rename_i S3 heq
    simp only [Prod.mk.injEq] at heq
    obtain ⟨rfl, rfl⟩ := heq
    refine ⟨Z, μ, ρ, S, R, ds, e1, fun vs H1 s1 r1 => fun x dx nx ndx nex => ?_⟩
    have s2 : Same H1 (upd (upd H1 dx (.own x)) x (.ins C dx [])) := fun b o z => by rw [upd_ne (ne_of_none z nx), upd_ne (ne_of_none z ndx)]; exact z
    have W1 := R.wd.mono s1
    have hA : ∀ a, avd Z μ a → upd (upd H1 dx (.own x)) x (.ins C dx []) a ≠ none := fun a h z => W1.fresh (s2.free z) h
    have W2 : Wd X.K ⟨H1, avd Z μ, [], fun _ => 0⟩ [x] (upd (upd H1 dx (.own x)) x (.ins C dx [])) [.ins c [] []] := by
      refine ⟨rfl, by simp, fun n' c' a h1 h2 => ?_, fun a o e => s2 a o e, fun a h => ?_, hA, fun a h => ?_, List.nil_prefix⟩
      · cases n' with
        | zero =>
          simp at h1 h2
          subst h1; subst h2
          exact ⟨C, dx, [], upd_same, hC, rfl, RVL.nil'⟩
        | succ n' => simp at h1
      · rw [List.mem_singleton.mp h]; exact nx
      · rw [List.mem_singleton.mp h]; exact W1.fresh nx
    have tr : RVLz X.K ⟨H1, avd Z μ, [], fun _ => 0⟩ [x] (upd (upd H1 dx (.own x)) x (.ins C dx [])) ds vs := RVL.nr (μ := μ) _ _ hn (RVL.tr (fun a o e hn => ⟨s2 _ _ e, fun m z => by
      rcases z with z | z
      · exact hn m z
      · rw [List.mem_singleton.mp z] at e
        rw [nx] at e; cases e⟩) (fun _ _ e => e) _ _ r1)
    simp only [List.append_nil]
    refine ⟨_, [x], [.ins c [] []], .ref 0 :: ds, by simpa using hl e1, W2, RVL.cons' (rv_ref.mpr ⟨x, rfl, rfl⟩) tr, .non, _, e2, fun v H' μ' k w r => ⟨rv_non.mp r, ?_⟩⟩
    have s3 : Same H1 H' := fun a o e => k.keep a o (s2 _ _ e) fun z => by
      rw [List.mem_singleton.mp z] at e
      rw [nx] at e; cases e
    refine q _ H' (s1.trans s3) ?_
    have rx : RVz X.K ⟨H1, avd Z μ, [], fun _ => 0⟩ μ' H' (.ref 0) (.ref x) := k.rv W2 (rv_ref.mpr ⟨x, rfl, rfl⟩)
    exact RV.toMu (RV.fz w e3 rx)
  · cases e3
end
end DL

set_option maxHeartbeats 4000000
namespace DL
open PySem PySem.Spec L2
/-! ### statements whose expression changes things -/
def sSetS (i : Nat) (f : ES) : T := fun ρ S => (f ρ S).map fun r => (.nx, ρ.set i (some r.1), r.2)
def sDropS (f : ES) : T := fun ρ S => (f ρ S).map fun r => (.nx, ρ, r.2)
def sRetS (f : ES) : T := fun ρ S => (f ρ S).map fun r => (.rt r.1, ρ, r.2)
def esE (f : E) : ES := fun ρ S => (f ρ S).map fun d => (d, S)
def e2S (g : Sto → D → D → Option D) (a b : ES) : ES := fun ρ S => (a ρ S).bind fun x => (b ρ x.2).bind fun y => (g y.2 x.1 y.1).map fun d => (d, y.2)
abbrev EBS := Rho → Sto → Option (Bool × Sto)
def bS (f : ES) : EBS := fun ρ S => (f ρ S).bind fun r => match r.1 with
  | .bl b => some (b, r.2)
  | _ => none
def bNotS (f : EBS) : EBS := fun ρ S => (f ρ S).map fun r => (!r.1, r.2)
def tTE (K : PySem.W.Frag) (f : EBS) : TT := fun σ H Q => ∃ Z μ ρ S, Rel K Z μ σ H ρ S ∧ ∃ b S', f ρ S = some (b, S') ∧ ∀ H' μ', Kept μ H μ' H' → Wd K Z μ' H' S' → Q b H'
def sIfS (t : EBS) (f g : T) : T := fun ρ S => (t ρ S).bind fun r => if r.1 then f ρ r.2 else g ρ r.2
def whileNS (t : EBS) (body : T) : Nat → T
  | 0, _, _ => none
  | n + 1, ρ, S => (t ρ S).bind fun b => if b.1 then (body ρ b.2).bind fun r => match r with
      | (.nx, ρ', S') => whileNS t body n ρ' S'
      | (.ct, ρ', S') => whileNS t body n ρ' S'
      | (.bk, ρ', S') => some (.nx, ρ', S')
      | r => some r
    else some (.nx, ρ, b.2)
open Classical in
noncomputable def sWhileS (t : EBS) (body : T) : T := fun ρ S => if h : ∃ n r, whileNS t body n ρ S = some r then some h.choose_spec.choose else none
theorem whileNS_mono {t : EBS} {body : T} : ∀ {n m : Nat} {ρ : Rho} {S : Sto} {r : Fl × Rho × Sto}, n ≤ m → whileNS t body n ρ S = some r → whileNS t body m ρ S = some r
  | 0, _, _, _, _, _, h => by simp [whileNS] at h
  | n + 1, 0, _, _, _, hm, _ => by omega
  | n + 1, m + 1, ρ, S, r, hm, h => by
    simp only [whileNS, Option.bind_eq_some_iff] at h ⊢
    obtain ⟨b, e1, h⟩ := h
    refine ⟨b, e1, ?_⟩
    split at h
    · rename_i hb
      rw [if_pos hb]
      rw [Option.bind_eq_some_iff] at h ⊢
      obtain ⟨⟨fl, ρ', S'⟩, e2, h⟩ := h
      refine ⟨(fl, ρ', S'), e2, ?_⟩
      cases fl with
      | nx => exact whileNS_mono (by omega) h
      | ct => exact whileNS_mono (by omega) h
      | bk => exact h
      | rt d => exact h
      | rf d => exact h
    · rename_i hb
      rw [if_neg hb]
      exact h
theorem sWhileS_of {t : EBS} {body : T} {n : Nat} {ρ : Rho} {S : Sto} {r : Fl × Rho × Sto} (h : whileNS t body n ρ S = some r) : sWhileS t body ρ S = some r := by
  have hx : ∃ n r, whileNS t body n ρ S = some r := ⟨n, r, h⟩
  unfold sWhileS
  rw [dif_pos hx]
  have h2 := hx.choose_spec.choose_spec
  have a := whileNS_mono (Nat.le_max_left n hx.choose) h
  have b := whileNS_mono (Nat.le_max_right n hx.choose) h2
  rw [a] at b
  exact b.symm
theorem of_sWhileS {t : EBS} {body : T} {ρ : Rho} {S : Sto} {r : Fl × Rho × Sto} (h : sWhileS t body ρ S = some r) : ∃ n, whileNS t body n ρ S = some r := by
  unfold sWhileS at h
  split at h
  · rename_i hx
    simp only [Option.some.injEq] at h
    rw [← h]
    exact ⟨_, hx.choose_spec.choose_spec⟩
  · cases h
section
variable {X : Cx} {o e e' c : Expr} {pos : Pos} {f g : T} {fe : ES} {fa : E} {t : EBS} {body : List Stmt}
theorem d_esE (h : PE X e (tD X.K fa)) : PE X e (tE X.K (esE fa)) := pe_imp h fun σ H Q ⟨Z, μ, ρ, S, R, d, S', e, q⟩ => by
  simp only [esE, Option.map_eq_some_iff, Prod.mk.injEq] at e
  obtain ⟨d', e1, rfl, rfl⟩ := e
  exact ⟨Z, μ, ρ, S, R, d', e1, fun v H' s r => q v H' μ (Kept.of s) (R.wd.mono s) r⟩
theorem d_opS {r : R2} {g : Sto → D → D → Option D} {op : Operator} {a b : Expr} {fa fb : ES} (ho : OpR X (binaryOp op) r) (hd : OpD X.K r g) (ha : PE X a (tE X.K fa)) (hb : PE X b (tE X.K fb)) : PE X (.BinOp a op b pos) (tE X.K (e2S g fa fb)) := pe_imp (pe_op ho ha hb) fun σ H Q ⟨Z, μ, ρ, S, R, d, S', e, q⟩ => by
  simp only [e2S, Option.bind_eq_some_iff, Option.map_eq_some_iff, Prod.mk.injEq] at e
  obtain ⟨⟨x, S1⟩, e1, ⟨y, S2⟩, e2, d', e3, rfl, rfl⟩ := e
  refine ⟨Z, μ, ρ, S, R, x, S1, e1, fun v H1 μ1 k1 w1 r1 => ?_⟩
  have R1 := R.keptTo k1 w1
  refine ⟨Z, μ1, ρ, S1, R1, y, S2, e2, fun u H2 μ2 k2 w2 r2 => ?_⟩
  exact hd _ _ _ _ _ _ _ _ _ _ w2 (k2.rv w1 r1) r2 e3 fun w H3 s3 r3 => q w H3 μ2 ((k1.trans k2).more s3) (w2.mono s3) r3
section
variable {i : Nat} {x : Str} {pos' : Pos}
theorem ds_setS (hN : X.N.Nodup) (hi : X.N[i]? = some x) (hx : Loc X.env.scope x) (he : PE X e (tE X.K fe)) (hs : swapsWith e (some (.Name x pos')) pos.line X.env = pure false := by rfl) (hf : X.fn x = true ∨ X.env.scope.names.lookup x = some .local := by first | exact .inl rfl | exact .inr rfl | assumption) :
    PS X (.Assign [.Name x pos'] e pos) (tS X.K (sSetS i fe)) :=
  ps_imp (ps_set hN hi hx he hs hf) fun De σ H ⟨Z, μ, ρ, S, R, fl, ρ', S', e, q⟩ => by
    simp only [sSetS, Option.map_eq_some_iff, Prod.mk.injEq] at e
    obtain ⟨⟨d, S1⟩, e1, rfl, rfl, rfl⟩ := e
    exact ⟨Z, μ, ρ, S, R, d, S1, e1, fun v H' μ' k w r => q _ H' μ' ((R.keptTo k w).set r)⟩
end
theorem ds_exprS (he : PE X e (tE X.K fe)) (hs : swapsWith e none pos.line X.env = pure false := by rfl) : PS X (.Expr e pos) (tS X.K (sDropS fe)) :=
  ps_imp (ps_expr he hs) fun De σ H ⟨Z, μ, ρ, S, R, fl, ρ', S', e, q⟩ => by
    simp only [sDropS, Option.map_eq_some_iff, Prod.mk.injEq] at e
    obtain ⟨⟨d, S1⟩, e1, rfl, rfl, rfl⟩ := e
    exact ⟨Z, μ, ρ, S, R, d, S1, e1, fun v H' μ' k w r => q σ H' μ' (R.keptTo k w)⟩
theorem ds_retS (he : PE X e (tE X.K fe)) : PS X (.Return (some e) pos) (tS X.K (sRetS fe)) :=
  ps_imp (ps_ret he) fun De σ H ⟨Z, μ, ρ, S, R, fl, ρ', S', e, q⟩ => by
    simp only [sRetS, Option.map_eq_some_iff, Prod.mk.injEq] at e
    obtain ⟨⟨d, S1⟩, e1, rfl, rfl, rfl⟩ := e
    exact ⟨Z, μ, ρ, S, R, d, S1, e1, fun v H' μ' k w r => q v σ H' μ' (R.keptTo k w) r⟩
theorem dt_S (he : PE X e (tE X.K fe)) (hh : ∀ whole, isTrue e X.env whole = (do let v ← whole; standAt e.pos; holding [v] (truthy v)) := by intro _; rfl) : PT X e (tTE X.K (bS fe)) :=
  pt_imp (pt_val he hh) fun σ H Q ⟨Z, μ, ρ, S, R, b, S', e, q⟩ => by
    simp only [bS, Option.bind_eq_some_iff] at e
    obtain ⟨⟨d, S1⟩, e1, e2⟩ := e
    cases d with
    | bl b' =>
      simp only [Option.some.injEq, Prod.mk.injEq] at e2
      obtain ⟨rfl, rfl⟩ := e2
      exact ⟨Z, μ, ρ, S, R, _, S1, e1, fun v H' μ' k w r => ⟨b', rv_bl.mp r, q H' μ' k w⟩⟩
    | _ => simp at e2
theorem dt_notS (h : PT X e (tTE X.K t)) : PT X (.UnaryOp .Not e pos) (tTE X.K (bNotS t)) :=
  pt_imp (pt_not h) fun σ H Q ⟨Z, μ, ρ, S, R, b, S', e, q⟩ => by
    simp only [bNotS, Option.map_eq_some_iff, Prod.mk.injEq] at e
    obtain ⟨⟨d, S1⟩, e1, rfl, rfl⟩ := e
    exact ⟨Z, μ, ρ, S, R, d, S1, e1, q⟩
theorem ds_ifS {a b : List Stmt} (hc : PT X c (tTE X.K t)) (ha : PSs X a (tS X.K f)) (hb : PSs X b (tS X.K g)) : PS X (.If c a b pos) (tS X.K (sIfS t f g)) :=
  ps_imp (ps_if hc ha hb) fun De σ H ⟨Z, μ, ρ, S, R, fl, ρ', S', e, q⟩ => by
    simp only [sIfS, Option.bind_eq_some_iff] at e
    obtain ⟨⟨k, S1⟩, e1, e2⟩ := e
    refine ⟨Z, μ, ρ, S, R, k, S1, e1, fun H' μ' kp w => ?_⟩
    cases k with
    | true => rw [if_pos rfl] at e2; exact iteT ⟨Z, μ', ρ, S1, R.keptTo kp w, fl, ρ', S', e2, q⟩
    | false => rw [if_neg Bool.false_ne_true] at e2; exact iteF ⟨Z, μ', ρ, S1, R.keptTo kp w, fl, ρ', S', e2, q⟩
theorem ds_whileS (hp : PassesOwn (model X.prog X.w) X.A X.env X.xe) (hc : PT X c (tTE X.K t)) (hb : PSs X body (tS X.K f)) : PS X (.While c body [] pos) (tS X.K (sWhileS t f)) :=
  ps_imp (ps_while hp hc hb) fun De σ H ⟨Z, μ, ρ, S, R, fl', ρ', S', e, q⟩ => by
    obtain ⟨n, e⟩ := of_sWhileS e
    refine ⟨fun m σ' H' => ∃ μ2 ρ2 S2, Rel X.K Z μ2 σ' H' ρ2 S2 ∧ whileNS t f m ρ2 S2 = some (fl', ρ', S'), ⟨n, μ, ρ, S, R, e⟩, ?_⟩
    rintro m σ2 H2 ⟨μ2, ρ2, S2, R2, el⟩
    cases m with
    | zero => simp [whileNS] at el
    | succ m =>
      simp only [whileNS, Option.bind_eq_some_iff] at el
      obtain ⟨⟨b, S3⟩, et, el⟩ := el
      refine ⟨Z, μ2, ρ2, S2, R2, b, S3, et, fun H3 μ3 k3 w3 => ?_⟩
      have R3 := R2.keptTo k3 w3
      cases b with
      | false =>
        rw [if_neg Bool.false_ne_true] at el
        simp only [Option.some.injEq, Prod.mk.injEq] at el
        obtain ⟨rfl, rfl, rfl⟩ := el
        exact iteF (q σ2 H3 μ3 R3)
      | true =>
        rw [if_pos rfl] at el
        rw [Option.bind_eq_some_iff] at el
        obtain ⟨⟨fl3, ρ4, S4⟩, eb, el⟩ := el
        refine iteT ⟨_, fun σ' H' h => ⟨m, Nat.lt_succ_self m, h⟩, Z, μ3, ρ2, S3, R3, fl3, ρ4, S4, eb, ?_⟩
        refine cont_loop (fun r hr => ?_) (fun hf σ4 H4 μ4 R4 => ?_)
        · cases fl3 with
          | nx => cases hr
          | ct => cases hr
          | bk =>
            simp only [Option.some.injEq, Prod.mk.injEq] at el hr
            obtain ⟨rfl, rfl, rfl⟩ := el
            subst hr; exact q
          | rt d =>
            simp only [Option.some.injEq, Prod.mk.injEq] at el hr
            obtain ⟨rfl, rfl, rfl⟩ := el
            subst hr; exact q
          | rf d =>
            simp only [Option.some.injEq, Prod.mk.injEq] at el hr
            obtain ⟨rfl, rfl, rfl⟩ := el
            subst hr; exact q
        · rcases hf with rfl | rfl
          · exact ⟨μ4, ρ4, S4, R4, el⟩
          · exact ⟨μ4, ρ4, S4, R4, el⟩
end
/-! xs.extend(e) -/
def sExtS (fo : E) (f : ES) : T := fun ρ S => (fo ρ S).bind fun o => (f ρ S).bind fun d => (lstD d.2 d.1).bind fun es => (cellD d.2 o).bind fun c => if (cellD S o).isSome && small (c.2.length + es.length) then some (.nx, ρ, d.2.set c.1 (.lst (c.2 ++ es))) else none
section
variable {X : Cx} {o e : Expr} {pos cpos apos : Pos} {fo : E} {fa : ES}
theorem ds_extendS (ho : PE X o (tD X.K fo)) (he : PE X e (tE X.K fa)) (hbase : attributeBase o "extend" X.env (eval o X.env) = eval o X.env := by rfl)
    (hfew : ((backTo cpos (starEach [e] X.env)).all (fun x => !x.1) && (backToKw cpos (keywordEach [] X.env)).all (fun x => x.1.isSome)
      && decide ([e].length + ([] : List Keyword).length + (if ([] : List Keyword).isEmpty then 0 else 1) < 30)) = true := by rfl)
    (hline : (apos.endLine == cpos.line) = true := by rfl) (hs : starEach [e] X.env = (false, eval e X.env) :: starEach [] X.env := by rfl) (hplain : (backTo cpos (starEach [] X.env)).any (·.1) = false := by rfl) (hsw : swapsWith (.Call (.Attribute o "extend" apos) [e] [] cpos) none pos.line X.env = pure false := by rfl) :
    PS X (.Expr (.Call (.Attribute o "extend" apos) [e] [] cpos) pos) (tS X.K (sExtS fo fa)) :=
  ps_imp (ps_expr (pe_bm PySem.F.plainAttrs_list PySem.F.slot_list_extend PySem.F.type_list_extend mt_extend ho (pa_cons he pa_nil hs) hbase hfew hline hs hplain) hsw) fun De σ H ⟨Z, μ, ρ, S, R, fl, ρ', S', e, q⟩ => by
    simp only [sExtS, Option.bind_eq_some_iff] at e
    obtain ⟨od, e1, ⟨d, S2⟩, e2, es, e5, ⟨n, ds⟩, e3, e4⟩ := e
    split at e4
    case isFalse => cases e4
    rename_i hsm
    simp only [Option.some.injEq, Prod.mk.injEq] at e4
    obtain ⟨rfl, rfl, rfl⟩ := e4
    rw [Bool.and_eq_true] at hsm
    obtain ⟨hsome, hsm⟩ := hsm
    obtain ⟨⟨n0, ds0⟩, e0⟩ := Option.isSome_iff_exists.mp hsome
    refine ⟨Z, μ, ρ, S, R, od, e1, fun v H1 s1 r1 => ?_⟩
    obtain ⟨a, xs, rfl, hn, h1, hr, _⟩ := cell_of (R.wd.mono s1) r1 e0
    refine ⟨tyV_lst h1, Z, μ, ρ, S, R.mono s1, d, S2, e2, fun u H2 μ2 k2 w2 r2 => ?_⟩
    obtain ⟨b, xs', eb, hn', h1', hr', _⟩ := cell_of w2 (k2.rv (R.wd.mono s1) r1) e3
    cases eb
    obtain ⟨b, zs, rfl, h3, h4⟩ := lst_of w2 r2 e5
    refine ⟨a, b, xs', zs, rfl, rfl, h1', h3, by rw [RVL.length hr', RVL.length h4]; exact small_le hsm, ?_⟩
    exact q _ _ μ2 (((R.mono s1).keptTo k2 w2).wrL hn' (RVL.app hr' h4))
end
end DL

set_option maxHeartbeats 4000000
namespace DL
open PySem PySem.Spec L2
/-! ### methods that answer with a new list -/
def AtMF (P : Program) (w : World) (K : PySem.W.Frag) (mg : Str → Option Value) (base : Heap) (c m : Str) (k n : Nat) (g : List D → Option (List D)) : Prop :=
  ∃ f fd ps, (∀ C, ClsAt K c C → Cls K C ∧ Meth K C m f) ∧ Binds K fd ps [] ∧ FnOk P w K mg base CX0 k f fd ps (spF K n g)
section
variable {P : Program} {w : World} {K : PySem.W.Frag} {mg : Str → Option Value} {base : Heap} {x q c m : Str} {st : Stmt} {N ps : List Str} {k : Nat} {body : T}
theorem fnOF2 {f : Addr} {fd : FuncData} (F : Fun K x q st f fd) (S : FnScope N ps (defScope st))
    (hb : ∀ (f : Addr) (cdv : Value) (A : Around) (outer : List Env) (s : Shared) (H : Hp) (E : XK), Room k (A.deeper (PyProof.Rows.envOfC q (defScope st) s.heap.objs.size f cdv)) → PSs (cxOf CX0 P w K mg base N q (defScope st) f cdv A outer s H E).nox (defBody st) (tS K body)) :
    FnOk P w K mg base CX0 (k + 1) f fd ps (spF K ps.length (runF body N.length)) := by
  have hlN : ps.length ≤ N.length := by
    have := congrArg List.length S.pre
    rw [List.length_take] at this
    omega
  refine F.ok S (fun vs H Q E h => ?_) fun cdv A outer s H vs Q E hr h => ?_
  · obtain ⟨A, ds, hl, _, r, _⟩ := h
    rw [RVL.length r, hl]
  · obtain ⟨Av, ds, hl, hA, r, d, hg, q⟩ := h
    refine ⟨_, hb f cdv A outer s H E hr, ?_⟩
    simp only [runF, Option.bind_eq_some_iff] at hg
    obtain ⟨⟨fl, ρ', S'⟩, e1, e2⟩ := hg
    refine ⟨⟨H, Av, [], fun _ => 0⟩, [], _, [], rel_start hA (by omega) r, fl, ρ', S', e1, ?_⟩
    cases fl with
    | nx => simp at e2
    | bk => simp at e2
    | ct => simp at e2
    | rt e =>
      cases e with
      | ref m =>
        simp only at e2
        split at e2
        · rename_i es hc
          split at e2
          · rename_i hnr
            simp only [Option.some.injEq] at e2
            subst e2
            intro v σ H' μ R rv
            obtain ⟨a, rfl, hna⟩ := rv_ref.mp rv
            obtain ⟨xs, h1, h2⟩ := R.wd.cell m _ a hc hna
            have hm : a ∈ μ := List.mem_of_getElem? hna
            refine q a xs H' (R.wd.dis a hm) (fun a o e => R.wd.base a o e) h1 (RVL.nr (μ := μ) _ _ hnr (RVL.tr (av := avd _ μ) (μ := μ) (fun b o e hn => ⟨e, fun m z => ?_⟩) (fun _ _ e => e) _ _ h2))
            rcases z with z | z
            · exact hn m (.inl z)
            · subst z; exact hn m (.inr hm)
          · cases e2
        · cases e2
      | _ => simp at e2
    | rf es =>
      simp only at e2
      split at e2
      · rename_i hnr
        simp only [Option.some.injEq] at e2
        subst e2
        intro a xs σ H' μ R n na h1 rv
        refine q a xs H' n (fun a o e => R.wd.base a o e) h1 (RVL.nr (μ := μ) _ _ hnr (RVL.tr (av := avO _ μ a) (μ := μ) (fun b o e hn => ⟨e, fun m z => ?_⟩) (fun _ _ e => e) _ _ rv))
        rcases z with z | z
        · exact hn m (.inl (.inl z))
        · exact hn m (.inr z)
      · cases e2
theorem fnMF (h : TxM K c m q st ps) (S : FnScope N ps (defScope st))
    (hb : ∀ (f : Addr) (cdv : Value) (A : Around) (outer : List Env) (s : Shared) (H : Hp) (E : XK), Room k (A.deeper (PyProof.Rows.envOfC q (defScope st) s.heap.objs.size f cdv)) → PSs (cxOf CX0 P w K mg base N q (defScope st) f cdv A outer s H E).nox (defBody st) (tS K body)) :
    AtMF P w K mg base c m (k + 1) ps.length (runF body N.length) := by
  obtain ⟨f, fd, hm, F, hbi⟩ := h
  exact ⟨f, fd, ps, hm, hbi, fnOF2 F S hb⟩
end
def mF (c m : Str) (g : List D → Option (List D)) (fo : E) (fs : EL) : EL := fun ρ S => (fo ρ S).bind fun o => (objD S o).bind fun p => if p.1 = c ∧ noF p.2.1 m = true then (fs ρ S).bind fun ds => if nrs (o :: ds) then g (o :: ds) else (fzs S (o :: ds)).bind fun es => (g es).bind fun r => if imms r then some r else none else none
section
variable {X : Cx} {o e : Expr} {es : List Expr} {c m x : Str} {p pos apos : Pos} {k j n : Nat} {fo : E} {fs : EL}
theorem meth_F {g : List D → Option (List D)} {C : Addr} {σ : L2.St} {H : Hp} {Q : VK} {E : XK} (hC : ∀ C', ClsAt X.K c C' → C' = C) (hl : ∀ {ρ : Rho} {S : Sto} {ds : List D}, fs ρ S = some ds → ds.length + 1 = n) (h : tF X.K (mF c m g fo fs) σ H Q) : tMeth C m (spF X.K n g) [] E (tD X.K fo) (tA X.K fs) σ H Q := by
  obtain ⟨Z, μ, ρ, S, R, d, e, q⟩ := h
  simp only [mF, Option.bind_eq_some_iff] at e
  obtain ⟨od, e1, ⟨c', fs', vs'⟩, e2, e3⟩ := e
  split at e3
  case isFalse => cases e3
  rename_i hc
  obtain ⟨rfl, hno⟩ := hc
  rw [Option.bind_eq_some_iff] at e3
  obtain ⟨ds, e4, e5⟩ := e3
  refine ⟨Z, μ, ρ, S, R, od, e1, fun v H1 s1 r1 => ?_⟩
  obtain ⟨a, C', dx, fvs, rfl, h1, h2, rfl, h4⟩ := obj_of (R.wd.mono s1) r1 e2
  cases hC C' h2
  refine ⟨a, dx, fvs, rfl, h1, look_no hno, Z, μ, ρ, S, R.mono s1, ds, e4, fun vs H2 s2 r2 => ?_⟩
  simp only [List.append_nil]
  exact spF_of ((R.wd.mono s1).mono s2) (by simpa using hl e4) (RVL.cons' (RV.mono s2 r1) r2) e5 fun a xs H' n s3 h3 r3 => q a xs H' ((s1.trans s2).free n) ((s1.trans s2).trans s3) h3 r3
theorem d_methF {pl : Sem Bool} {g : List D → Option (List D)} (hi : ClsIs X.K c) (h : AtMF X.prog X.w X.K X.mg X.base c m k n g) (hr : Room j X.A) (hk : k ≤ j) (ho : PE X o (tD X.K fo)) (ha : PA X (e :: es) (tA X.K fs)) (hl : ∀ {ρ : Rho} {S : Sto} {ds : List D}, fs ρ S = some ds → ds.length + 1 = n)
    (hst : starEach (e :: es) X.env = (false, eval e X.env) :: starEach es X.env := by rfl) (hpl : (backTo pos (starEach es X.env)).any (·.1) = false := by rfl)
    (ht : eval (.Call (.Attribute o m apos) (e :: es) [] pos) X.env = (do
      let ov ← eval o X.env
      standAt apos.atName
      let (f, first) ← holding [ov] (getMethod ov m pl)
      callWith pos f first (backTo pos (starEach (e :: es) X.env)) (backToKw pos (keywordEach [] X.env))) := by rfl) :
    PE X (.Call (.Attribute o m apos) (e :: es) [] pos) (tF X.K (mF c m g fo fs)) := by
  obtain ⟨C, hC⟩ := hi
  obtain ⟨f, fd, ps, hm, hb, F⟩ := h
  obtain ⟨hc, hme⟩ := hm C hC
  exact pe_imp (pe_meth ho hc hme F (hr.mono hk) hb .nil pass0 ha hst hpl ht) fun σ H Q h => meth_F (fun C' h' => cls_one hC h') hl h
end
/-! ### an answer that is a new list, or a thing -/
abbrev ER := Rho → Sto → Option (D ⊕ List D)
def postR (K : PySem.W.Frag) (Z : Fr) (μ : List Addr) (H : Hp) (Q : VK) : D ⊕ List D → Prop
  | .inl d => ∀ v H', Same H H' → RVz K Z μ H' d v → Q v H'
  | .inr ds => ∀ a xs H', H a = none → Same H H' → H' a = some (.lst xs) → RVL K (avO Z μ a) μ H' ds xs → Q (.ref a) H'
def tR (K : PySem.W.Frag) (f : ER) : TE := fun σ H Q => ∃ Z μ ρ S, Rel K Z μ σ H ρ S ∧ ∃ r, f ρ S = some r ∧ postR K Z μ H Q r
def rE (f : E) : ER := fun ρ S => (f ρ S).map .inl
def rF (f : EL) : ER := fun ρ S => (f ρ S).map .inr
def rIf (t : EB) (a b : ER) : ER := fun ρ S => (t ρ S).bind fun k => if k then a ρ S else b ρ S
def sRetR (f : ER) : T := fun ρ S => (f ρ S).map fun r => match r with
  | .inl d => (.rt d, ρ, S)
  | .inr ds => (.rf ds, ρ, S)
section
variable {X : Cx} {e c a b o value : Expr} {pos pos' : Pos} {fa fo : E} {fl : EL} {ra rb' : ER} {t : EB} {cl f : Str}
theorem d_rE (h : PE X e (tD X.K fa)) : PE X e (tR X.K (rE fa)) := pe_imp h fun σ H Q ⟨Z, μ, ρ, S, R, r, e, q⟩ => by
  simp only [rE, Option.map_eq_some_iff] at e
  obtain ⟨d, e1, rfl⟩ := e
  exact ⟨Z, μ, ρ, S, R, d, e1, q⟩
theorem d_rF (h : PE X e (tF X.K fl)) : PE X e (tR X.K (rF fl)) := pe_imp h fun σ H Q ⟨Z, μ, ρ, S, R, r, e, q⟩ => by
  simp only [rF, Option.map_eq_some_iff] at e
  obtain ⟨d, e1, rfl⟩ := e
  exact ⟨Z, μ, ρ, S, R, d, e1, q⟩
theorem tR_step {K : PySem.W.Frag} {f : ER} {Z : Fr} {μ : List Addr} {ρ : Rho} {S : Sto} {σ : L2.St} {H H1 : Hp} {Q : VK} {r : D ⊕ List D} (R : Rel K Z μ σ H ρ S) (s : Same H H1) (e : f ρ S = some r)
    (q : postR K Z μ H Q r) : tR K f σ H1 Q := by
  refine ⟨Z, μ, ρ, S, R.mono s, r, e, ?_⟩
  cases r with
  | inl d => exact fun v H' s2 r2 => q v H' (s.trans s2) r2
  | inr ds => exact fun a xs H' n s2 h1 h2 => q a xs H' (s.free n) (s.trans s2) h1 h2
theorem d_rIf (hc : PT X c (tT X.K t)) (ha : PE X a (tR X.K ra)) (hb : PE X b (tR X.K rb')) : PE X (.IfExp c a b pos) (tR X.K (rIf t ra rb')) :=
  pe_imp (pe_ifExp hc ha hb) fun σ H Q ⟨Z, μ, ρ, S, R, d, e, q⟩ => by
    simp only [rIf, Option.bind_eq_some_iff] at e
    obtain ⟨k, e1, e2⟩ := e
    refine ⟨Z, μ, ρ, S, R, k, e1, fun H' s => ?_⟩
    cases k with
    | true => rw [if_pos rfl] at e2 ⊢; exact tR_step R s e2 q
    | false => rw [if_neg Bool.false_ne_true] at e2 ⊢; exact tR_step R s e2 q
theorem ds_retR (he : PE X e (tR X.K ra)) : PS X (.Return (some e) pos) (tS X.K (sRetR ra)) :=
  ps_imp (ps_ret he) fun De σ H ⟨Z, μ, ρ, S, R, fl', ρ', S', e, q⟩ => by
    simp only [sRetR, Option.map_eq_some_iff] at e
    obtain ⟨r, e1, e2⟩ := e
    refine ⟨Z, μ, ρ, S, R, r, e1, ?_⟩
    cases r with
    | inl d =>
      simp only [Prod.mk.injEq] at e2
      obtain ⟨rfl, rfl, rfl⟩ := e2
      exact fun v H' s r => q v σ H' μ (R.mono s) r
    | inr ds =>
      simp only [Prod.mk.injEq] at e2
      obtain ⟨rfl, rfl, rfl⟩ := e2
      exact fun a xs H' n s h1 r => q a xs σ H' μ (R.mono s) (R.wd.newB n) (R.wd.fresh n) h1 r
/-! o.f = a call that changes things -/
def sAttrS (c f : Str) (fv : ES) (fo : E) : T := fun ρ S => (fv ρ S).bind fun d => (fo ρ d.2).bind fun o => (ocell d.2 o).bind fun p => (putO c f d.1 p).map fun w => (.nx, ρ, d.2.set p.1 w)
theorem ds_attrS {fv : ES} (hf : FldF X.K cl f) (hv : PE X value (tE X.K fv)) (ho : PE X o (tD X.K fo)) (hs : swapsWith value (some (.Attribute o f pos')) pos.line X.env = pure false := by rfl) : PS X (.Assign [.Attribute o f pos'] value pos) (tS X.K (sAttrS cl f fv fo)) :=
  ps_imp (ps_fld ho hv hs) fun De σ H ⟨Z, μ, ρ, S, R, fl, ρ', S', e, q⟩ => by
    simp only [sAttrS, Option.bind_eq_some_iff, Option.map_eq_some_iff, Prod.mk.injEq] at e
    obtain ⟨⟨d, S1⟩, e1, od, e2, ⟨n, c', fs, vs⟩, e3, w, e4, rfl, rfl, rfl⟩ := e
    refine ⟨Z, μ, ρ, S, R, d, S1, e1, fun v H1 μ1 k1 w1 r1 => ?_⟩
    have R1 := R.keptTo k1 w1
    refine ⟨Z, μ1, ρ, S1, R1, od, e2, fun u H2 s2 r2 => ?_⟩
    simp only [putO] at e4
    split at e4
    · rename_i hc
      obtain ⟨rfl, hl⟩ := hc
      cases e4
      obtain ⟨a, C, dx, fvs, rfl, hn, h1, h2, rfl, h4, _⟩ := ocell_of (R1.wd.mono s2) r2 e3
      obtain ⟨k1, k2⟩ := hf C h2
      exact ⟨a, C, dx, fvs, rfl, h1, k1, k2, by simpa using hl, q _ _ μ1 ((R1.mono s2).wrO hn h2 h4 (RV.mono s2 r1))⟩
    · cases e4
end
/-! ### list.index, list.remove, len(set(..)) -/
def idxD (x : D) : List D → Nat → Option Nat
  | [], _ => none
  | d :: ds, i => if eqD d x then some i else idxD x ds (i + 1)
theorem idxD_some {x : D} : ∀ {ds : List D} {i j : Nat}, idxD x ds i = some j → ∃ k d, j = i + k ∧ ds[k]? = some d ∧ eqD d x = true ∧ ∀ m d', m < k → ds[m]? = some d' → eqD d' x = false
  | [], i, j, h => by simp [idxD] at h
  | d :: ds, i, j, h => by
    simp only [idxD] at h
    split at h
    · rename_i he
      cases h
      exact ⟨0, d, rfl, rfl, he, fun m d' hm _ => by omega⟩
    · rename_i he
      obtain ⟨k, d2, h1, h2, h3, h4⟩ := idxD_some h
      refine ⟨k + 1, d2, by omega, by simpa using h2, h3, fun m d' hm hd => ?_⟩
      cases m with
      | zero => simp at hd; subst hd; simpa using he
      | succ m => exact h4 m d' (by omega) (by simpa using hd)
def gIdx : Sto → D → D → Option D := fun S o x => (fo S x).bind fun x' => (lstD S o).bind fun ds => if okDs 59 ds && okD 59 x' then (idxD x' ds 0).map fun j => .int (j : Nat) else none
theorem toPs_get {ds : List D} {k : Nat} : (toPs ds)[k]? = (ds[k]?).map toP := by
  rw [toPs_map, List.getElem?_map]
section
variable {X : Cx} {o e : Expr} {pos cpos apos : Pos} {fo fa : E}
theorem d_index (hu : X.A.units + 65 < cLine) (ho : PE X o (tD X.K fo)) (he : PE X e (tD X.K fa)) (hbase : attributeBase o "index" X.env (eval o X.env) = eval o X.env := by rfl)
    (hfew : ((backTo cpos (starEach [e] X.env)).all (fun x => !x.1) && (backToKw cpos (keywordEach [] X.env)).all (fun x => x.1.isSome)
      && decide ([e].length + ([] : List Keyword).length + (if ([] : List Keyword).isEmpty then 0 else 1) < 30)) = true := by rfl)
    (hline : (apos.endLine == cpos.line) = true := by rfl) (hs : starEach [e] X.env = (false, eval e X.env) :: starEach [] X.env := by rfl) (hplain : (backTo cpos (starEach [] X.env)).any (·.1) = false := by rfl) :
    PE X (.Call (.Attribute o "index" apos) [e] [] cpos) (tD X.K (e2 gIdx fo fa)) :=
  pe_imp (pe_bm PySem.F.plainAttrs_list PySem.F.slot_list_index PySem.F.type_list_index (mt_indexD hu) ho (pa_cons he pa_nil hs) hbase hfew hline hs hplain) fun σ H Q ⟨Z, μ, ρ, S, R, d, e, q⟩ => by
    simp only [e2, Option.bind_eq_some_iff] at e
    obtain ⟨od, e1, x, e2, e3⟩ := e
    simp only [gIdx, Option.bind_eq_some_iff] at e3
    obtain ⟨x', e4, ds, e5, e6⟩ := e3
    split at e6
    case isFalse => cases e6
    rename_i hok
    rw [Bool.and_eq_true] at hok
    simp only [Option.map_eq_some_iff] at e6
    obtain ⟨j, e7, rfl⟩ := e6
    obtain ⟨k, d, rfl, hk, heq, hno⟩ := idxD_some e7
    refine ⟨Z, μ, ρ, S, R, od, e1, fun v H1 s1 r1 => ?_⟩
    obtain ⟨a, xs, rfl, h1, hr⟩ := lst_of (R.wd.mono s1) r1 e5
    refine ⟨tyV_lst h1, Z, μ, ρ, S, R.mono s1, x, e2, fun u H2 s2 r2 => ?_⟩
    have hr2 : RVLz X.K Z μ H2 ds xs := RVL.mono s2 hr
    obtain ⟨o1, d1⟩ := fo_of ((R.wd.mono s1).mono s2) r2 e4
    have dl : Dp X.K H2 (V.ref a) (.list (toPs ds)) := .lst (SqL.of (s2 _ _ h1)) (dps_of _ _ _ hok.1 hr2)
    refine ⟨a, u, toP x', toPs ds, k, toP d, rfl, rfl, dl, d1, ?_, okD_shaped o1 (by decide), by rw [toPs_get, hk]; rfl, ?_, fun m z hm hz => ?_, ?_⟩
    · have := okD_shaped (n := 60) (d := .lst ds) (by simpa only [okD] using hok.1) (by decide)
      simpa only [toP] using this
    · rw [eqv_eqD 59 60 d x' (okDs_mem hok.1 (List.mem_of_getElem? hk)) o1]
      exact heq
    · rw [toPs_get] at hz
      cases q' : ds[m]? with
      | none => rw [q'] at hz; cases hz
      | some d' =>
        rw [q'] at hz
        cases hz
        rw [eqv_eqD 59 60 d' x' (okDs_mem hok.1 (List.mem_of_getElem? q')) o1]
        exact hno m d' hm q'
    · have := q (.int (k : Nat)) H2 (s1.trans s2) (by rw [Nat.zero_add]; exact rv_int.mpr rfl)
      exact this
/-- xs.remove(n), ints -/
def idxI (k : Int) : List Int → Nat → Option Nat
  | [], _ => none
  | n :: ns, i => if n = k then some i else idxI k ns (i + 1)
theorem idxI_some {x : Int} : ∀ {ds : List Int} {i j : Nat}, idxI x ds i = some j → ∃ k, j = i + k ∧ ds[k]? = some x ∧ ∀ m, m < k → ds[m]? ≠ some x
  | [], i, j, h => by simp [idxI] at h
  | d :: ds, i, j, h => by
    simp only [idxI] at h
    split at h
    · rename_i he
      cases h
      subst he
      exact ⟨0, rfl, rfl, fun m hm => by omega⟩
    · rename_i he
      obtain ⟨k, h1, h2, h4⟩ := idxI_some h
      refine ⟨k + 1, by omega, by simpa using h2, fun m hm hd => ?_⟩
      cases m with
      | zero => simp at hd; exact he hd
      | succ m => exact h4 m (by omega) (by simpa using hd)
def rem2 (ρ : Rho) (S : Sto) (c : Nat × List D) : D → Option (Fl × Rho × Sto)
  | .int k => (intsD c.2).bind fun ns => (idxI k ns 0).map fun j => (.nx, ρ, S.set c.1 (.lst ((ns.eraseIdx j).map .int)))
  | _ => none
def sRem (fo f : E) : T := fun ρ S => (fo ρ S).bind fun o => (f ρ S).bind fun d => (cellD S o).bind fun c => rem2 ρ S c d
theorem rvl_intsB {K : PySem.W.Frag} {av : Addr → Prop} {μ : List Addr} {H : Hp} : ∀ {ns : List Int} {xs : List V}, xs = ns.map V.int → RVL K av μ H (ns.map .int) xs
  | [], xs, h => by subst h; exact RVL.nil'
  | n :: ns, xs, h => by
    subst h
    exact RVL.cons' (rv_int.mpr rfl) (rvl_intsB rfl)
theorem rvl_intsA {K : PySem.W.Frag} {av : Addr → Prop} {μ : List Addr} {H : Hp} : ∀ {ns : List Int} {xs : List V}, RVL K av μ H (ns.map .int) xs → xs = ns.map V.int
  | [], xs, h => by simpa [rvl_nil] using h
  | n :: ns, xs, h => by
    simp only [List.map_cons, rvl_cons] at h
    obtain ⟨y, ys, rfl, h1, h2⟩ := h
    rw [rv_int] at h1
    subst h1
    rw [rvl_intsA h2]; rfl
theorem ds_remove (ho : PE X o (tD X.K fo)) (he : PE X e (tD X.K fa)) (hbase : attributeBase o "remove" X.env (eval o X.env) = eval o X.env := by rfl)
    (hfew : ((backTo cpos (starEach [e] X.env)).all (fun x => !x.1) && (backToKw cpos (keywordEach [] X.env)).all (fun x => x.1.isSome)
      && decide ([e].length + ([] : List Keyword).length + (if ([] : List Keyword).isEmpty then 0 else 1) < 30)) = true := by rfl)
    (hline : (apos.endLine == cpos.line) = true := by rfl) (hs : starEach [e] X.env = (false, eval e X.env) :: starEach [] X.env := by rfl) (hplain : (backTo cpos (starEach [] X.env)).any (·.1) = false := by rfl) (hsw : swapsWith (.Call (.Attribute o "remove" apos) [e] [] cpos) none pos.line X.env = pure false := by rfl) :
    PS X (.Expr (.Call (.Attribute o "remove" apos) [e] [] cpos) pos) (tS X.K (sRem fo fa)) :=
  ps_imp (ps_expr (pe_bm PySem.F.plainAttrs_list PySem.F.slot_list_remove PySem.F.type_list_remove mt_remove ho (pa_cons he pa_nil hs) hbase hfew hline hs hplain) hsw) fun De σ H ⟨Z, μ, ρ, S, R, fl, ρ', S', e, q⟩ => by
    simp only [sRem, Option.bind_eq_some_iff] at e
    obtain ⟨od, e1, d, e2, ⟨n, ds⟩, e3, e4⟩ := e
    cases d with
    | int k =>
      simp only [rem2, Option.bind_eq_some_iff, Option.map_eq_some_iff, Prod.mk.injEq] at e4
      obtain ⟨ns, e5, j, e6, rfl, rfl, rfl⟩ := e4
      have ed := ints_eq e5
      have ed' : ds = ns.map .int := ed
      subst ed'
      obtain ⟨k', rfl, hk, hno⟩ := idxI_some e6
      refine ⟨Z, μ, ρ, S, R, od, e1, fun v H1 s1 r1 => ?_⟩
      obtain ⟨a, xs, rfl, hn, h1, hr, _⟩ := cell_of (R.wd.mono s1) r1 e3
      refine ⟨tyV_lst h1, Z, μ, ρ, S, R.mono s1, .int k, e2, fun u H2 s2 r2 => ?_⟩
      have hr2 : RVLz X.K Z μ H2 (ns.map .int) xs := RVL.mono s2 hr
      have ex := rvl_intsA hr2
      subst ex
      rw [rv_int.mp r2]
      refine ⟨a, ns, k, k', rfl, rfl, s2 _ _ h1, hk, hno, ?_⟩
      rw [Nat.zero_add] at q
      exact q _ _ μ (((R.mono s1).mono s2).wrL hn (rvl_intsB rfl))
    | _ => simp [rem2] at e4
/-- len(set(xs)), ints that are unlike -/
def nodupI : List Int → Bool
  | [] => true
  | n :: ns => !ns.contains n && nodupI ns
theorem nodupI_iff : ∀ {ns : List Int}, nodupI ns = true → ns.Nodup
  | [], _ => List.nodup_nil
  | n :: ns, h => by
    simp only [nodupI, Bool.and_eq_true, Bool.not_eq_true'] at h
    refine List.nodup_cons.mpr ⟨fun z => ?_, nodupI_iff h.2⟩
    have := List.contains_iff_mem.mpr z
    rw [h.1] at this; cases this
def cLenSet : Sto → D → Option D := fun S d => (lstD S d).bind fun ds => (intsD ds).bind fun ns => if nodupI ns && decide (ns.length ≤ 4000) then some (.int (ns.length : Nat)) else none
theorem d_lenSet {p p2 q' : Pos} (hg : Gl X "len") (hm : X.mg "len" = none) (hg2 : Gl X "set") (hm2 : X.mg "set" = none) (ha : PE X e (tD X.K fa)) (hc : X.calm = true := by rfl)
    (na : starEach [e] X.env = (false, eval e X.env) :: starEach [] X.env := by rfl) : PE X (.Call (.Name "len" p) [.Call (.Name "set" p2) [e] [] q'] [] pos) (tD X.K (e1 cLenSet fa)) :=
  pe_imp (RZ.pe_lenSetI hg hm hg2 hm2 ha hc na) fun σ H Q ⟨Z, μ, ρ, S, R, d, e, q⟩ => by
    simp only [e1, Option.bind_eq_some_iff] at e
    obtain ⟨x, e1, e2⟩ := e
    simp only [cLenSet, Option.bind_eq_some_iff] at e2
    obtain ⟨ds, e3, ns, e4, e5⟩ := e2
    split at e5
    case isFalse => cases e5
    rename_i hh
    rw [Bool.and_eq_true, decide_eq_true_eq] at hh
    cases e5
    refine ⟨Z, μ, ρ, S, R, x, e1, fun v H1 s1 r1 => ?_⟩
    obtain ⟨a, xs, rfl, h1, hr⟩ := lst_of (R.wd.mono s1) r1 e3
    have ed := ints_eq e4
    subst ed
    have ex := rvl_intsA hr
    subst ex
    exact ⟨a, ns, rfl, SqL.of h1, nodupI_iff hh.1, hh.2, q _ H1 s1 (rv_int.mpr rfl)⟩
end
end DL

set_option maxHeartbeats 4000000
namespace DL
open PySem PySem.Spec L2
/-! ### the ends of methods; what the top has written of a class -/
section
variable {P : Program} {w : World} {K : PySem.W.Frag} {mg : Str → Option Value} {base : Heap} {x q c m : Str} {st : Stmt} {N ps : List Str} {k : Nat} {body : T}
theorem fnMn {n m' j : Nat} (h : TxM K c m q st ps) (S : FnScope N ps (defScope st)) (hn : N.length = n) (hm : ps.length = m') (hj : k + 1 = j)
    (hb : ∀ (f : Addr) (cdv : Value) (A : Around) (outer : List Env) (s : Shared) (H : Hp) (E : XK), Room k (A.deeper (PyProof.Rows.envOfC q (defScope st) s.heap.objs.size f cdv)) → PSs (cxOf CX0 P w K mg base N q (defScope st) f cdv A outer s H E).nox (defBody st) (tS K body)) :
    AtS P w K mg base c m j m' (runS body n) := by
  subst hn hm hj
  exact fnM h S hb
theorem fnMPn {n m' j : Nat} (h : TxM K c m q st ps) (S : FnScope N ps (defScope st)) (hn : N.length = n) (hm : ps.length = m') (hj : k + 1 = j)
    (hb : ∀ (f : Addr) (cdv : Value) (A : Around) (outer : List Env) (s : Shared) (H : Hp) (E : XK), Room k (A.deeper (PyProof.Rows.envOfC q (defScope st) s.heap.objs.size f cdv)) → PSs (cxOf CX0 P w K mg base N q (defScope st) f cdv A outer s H E).nox (defBody st) (tS K body)) :
    AtM P w K mg base c m j m' (runD body n) := by
  subst hn hm hj
  exact fnMP h S hb
theorem fnMFn {n m' j : Nat} (h : TxM K c m q st ps) (S : FnScope N ps (defScope st)) (hn : N.length = n) (hm : ps.length = m') (hj : k + 1 = j)
    (hb : ∀ (f : Addr) (cdv : Value) (A : Around) (outer : List Env) (s : Shared) (H : Hp) (E : XK), Room k (A.deeper (PyProof.Rows.envOfC q (defScope st) s.heap.objs.size f cdv)) → PSs (cxOf CX0 P w K mg base N q (defScope st) f cdv A outer s H E).nox (defBody st) (tS K body)) :
    AtMF P w K mg base c m j m' (runF body n) := by
  subst hn hm hj
  exact fnMF h S hb
theorem fnIn {n m' j : Nat} (h : TxI K mg c q st ps) (S : FnScope N ps (defScope st)) (hn : N.length = n) (hm : ps.length = m') (hj : k + 1 = j)
    (hb : ∀ (f : Addr) (cdv : Value) (A : Around) (outer : List Env) (s : Shared) (H : Hp) (E : XK), Room k (A.deeper (PyProof.Rows.envOfC q (defScope st) s.heap.objs.size f cdv)) → PSs (cxOf CX0 P w K mg base N q (defScope st) f cdv A outer s H E).nox (defBody st) (tS K body)) :
    AtI P w K mg base c j m' (runS body n) := by
  subst hn hm hj
  exact fnI h S hb
end
section
variable {K : PySem.W.Frag} {h : Heap} {mg : Str → Option Value} {c m q f' : Str} {st : Stmt} {ps : List Str} {C f : Addr} {od an : Option Addr} {sl : Array (Option Value)} {oc kV dc pm cd ct : Value}
theorem fld_mk (a : PySem.W.nsIn K mainGlobals c = some (some (.ref C))) (cl : Cls K C) (n : PySem.W.findIn K (.ref C) f' = some none) : FldF K c f' := fun C' h' => by
  unfold ClsAt at h'
  rw [a] at h'
  cases h'
  exact ⟨cl, n⟩
theorem txM_mk (a : PySem.W.nsIn K mainGlobals c = some (some (.ref C))) (cl : Cls K C)
    (hb : ∀ (kV doc pm : Value) (an : Option Addr) (cdv ct : Value) (us : List Value), us.length = ps.length → bindArgs (PySem.W.fnOf m q (defArgs st) (defBody st) (defScope st) .none kV doc pm an cdv ct) ⟨us, []⟩ = pure (ps.zip us))
    (am : PySem.W.findIn K (.ref C) m = some (some (.ref f))) (i : PySem.W.isFn K (.ref f) = true) (l : K.lookup f = some ⟨oc, od, .func (PySem.W.fnOf m q (defArgs st) (defBody st) (defScope st) .none kV dc pm an cd ct), sl⟩)
    (cc : PySem.W.codeIn K cd q = true) (k : PySem.W.keepIn K (.ref f) = true) : TxM K c m q st ps :=
  ⟨f, _, fun C' h' => by
    unfold ClsAt at h'
    rw [a] at h'
    cases h'
    exact ⟨cl, am, i, k⟩, fun_mk (st := st) l cc k, (fun_mk (st := st) l cc k).binds hb⟩
theorem txI_mk (X : K.In h) (G : h.Ns mainGlobals mg) (a : PySem.W.nsIn K mainGlobals c = some (some (.ref C))) (mk : PySem.W.makesIn K C = true) (kc : PySem.W.keepIn K (.ref C) = true)
    (hb : ∀ (kV doc pm : Value) (an : Option Addr) (cdv ct : Value) (us : List Value), us.length = ps.length → bindArgs (PySem.W.fnOf "__init__" q (defArgs st) (defBody st) (defScope st) .none kV doc pm an cdv ct) ⟨us, []⟩ = pure (ps.zip us))
    (am : PySem.W.findIn K (.ref C) "__init__" = some (some (.ref f))) (i : PySem.W.isFn K (.ref f) = true) (l : K.lookup f = some ⟨oc, od, .func (PySem.W.fnOf "__init__" q (defArgs st) (defBody st) (defScope st) .none kV dc pm an cd ct), sl⟩)
    (cc : PySem.W.codeIn K cd q = true) (k : PySem.W.keepIn K (.ref f) = true) : TxI K mg c q st ps :=
  ⟨C, f, _, a, PySem.W.mg_of X G a, ⟨mk, am, i, kc⟩, fun_mk (st := st) l cc k, (fun_mk (st := st) l cc k).binds hb⟩
end
end DL

set_option maxHeartbeats 4000000
namespace DL
open PySem PySem.Spec L2
/-! ### for x in xs, xs a cell that no turn changes -/
open Classical in
noncomputable def loopC (n : Nat) (full : List D) (g : G) (body : T) : List D → T
  | [], ρ, S => if S[n]? = some (.lst full) then some (.nx, ρ, S) else none
  | d :: ds, ρ, S => if S[n]? = some (.lst full) then (g d ρ).bind fun ρ1 => (body ρ1 S).bind fun r => match r with
    | (.nx, ρ', S') => loopC n full g body ds ρ' S'
    | (.ct, ρ', S') => loopC n full g body ds ρ' S'
    | (.bk, ρ', S') => some (.nx, ρ', S')
    | r => some r
    else none
noncomputable def sForC (fo : E) (g : G) (body : T) : T := fun ρ S => (fo ρ S).bind fun o => (cellD S o).bind fun c => loopC c.1 c.2 g body c.2 ρ S
def tIC (K : PySem.W.Frag) (fo : E) : TI := fun σ H R => ∃ Z μ ρ S, Rel K Z μ σ H ρ S ∧ ∃ d n ds, fo ρ S = some d ∧ cellD S d = some (n, ds) ∧ ∀ J H1 a, Same H H1 → μ[n]? = some a →
  (∀ i H' xs, H' a = some (.lst xs) → (∀ x, xs[i]? = some x → J.go i H' ∧ ∀ y H'', J.yld i H' y H'' → Same H' H'' ∧ y = x) ∧ (xs.length ≤ i → J.stop i H')) → R J H1
section
variable {X : Cx} {iter tg : Expr} {body : List Stmt} {pos : Pos} {fo : E} {f : T} {g : G} {vt : List Nat}
theorem ds_forC (hp : PassesOwn (model X.prog X.w) X.A X.env X.xe) (hc : X.calm = true) (hi : PI X tg iter (tIC X.K fo)) (hg : PG X tg (tG X.K vt g)) (hb : PSs X body (tS X.K f))
    (hs : ∀ x, foldedSetIterable iter X.env x = pure x := by intro _; rfl) : PS X (.For tg iter body [] pos) (tS X.K (sForC fo g f)) :=
  ps_imp (ps_for hp hc hi hg hb hs) fun De σ H ⟨Z, μ, ρ, S, R, fl', ρ', S', e, q⟩ => by
    simp only [sForC, Option.bind_eq_some_iff] at e
    obtain ⟨d, e1, ⟨n, ds⟩, e3, e2⟩ := e
    refine ⟨Z, μ, ρ, S, R, d, n, ds, e1, e3, fun J H1 a s1 hna it => ?_⟩
    have R1 := R.mono s1
    have W1 := R1.wd
    refine ⟨fun i m σ' H' => m = ds.length - i ∧ i ≤ ds.length ∧ ∃ μ2 ρ2 S2, Rel X.K (Z.rb μ H1) μ2 σ' H' ρ2 S2 ∧ loopC n ds g f (ds.drop i) ρ2 S2 = some (fl', ρ', S'), ⟨ds.length, by simp, Nat.zero_le _, μ, ρ, S, R1.rb, by simpa using e2⟩, ?_⟩
    rintro i m σ2 H2 ⟨rfl, hi', μ2, ρ2, S2, R2, el⟩
    have hn2 : μ2[n]? = some a := by
      obtain ⟨t, ht⟩ := R2.wd.root
      have ht' : μ ++ t = μ2 := ht
      rw [← ht', List.getElem?_append_left (List.getElem?_eq_some_iff.mp hna).1]
      exact hna
    by_cases hlt : i < ds.length
    · rw [List.drop_eq_getElem_cons hlt] at el
      simp only [loopC] at el
      split at el
      case isFalse => cases el
      rename_i hS
      obtain ⟨xs, hx, hr⟩ := R2.wd.cell n _ a hS hn2
      obtain ⟨x, hxi, rx⟩ := RVL.get hr (List.getElem?_eq_getElem hlt)
      obtain ⟨it1, _⟩ := it i H2 xs hx
      obtain ⟨hgo, hyld⟩ := it1 x hxi
      simp only [Option.bind_eq_some_iff] at el
      obtain ⟨ρ3, eg, ⟨fl3, ρ4, S4⟩, eb, el⟩ := el
      refine .inr ⟨hgo, _, fun σ' H' h => ⟨ds.length - (i + 1), by omega, rfl, hlt, h⟩, fun y H3 hy => ?_⟩
      obtain ⟨s3, ey⟩ := hyld y H3 hy
      subst ey
      refine ⟨Z.rb μ H1, μ2, ρ2, S2, ds[i], R2.mono s3, RV.mono s3 rx, ρ3, eg, fun σ3 R3 _ _ => ?_⟩
      refine ⟨Z.rb μ H1, μ2, ρ3, S2, R3, fl3, ρ4, S4, eb, ?_⟩
      refine cont_loop (fun r hr => ?_) (fun hf σ4 H4 μ4 R4 => ?_)
      · refine cont_ub W1 ?_
        cases fl3 with
        | nx => cases hr
        | ct => cases hr
        | bk =>
          simp only [Option.some.injEq, Prod.mk.injEq] at el hr
          obtain ⟨rfl, rfl, rfl⟩ := el
          subst hr; exact q
        | rt d =>
          simp only [Option.some.injEq, Prod.mk.injEq] at el hr
          obtain ⟨rfl, rfl, rfl⟩ := el
          subst hr; exact q
        | rf d =>
          simp only [Option.some.injEq, Prod.mk.injEq] at el hr
          obtain ⟨rfl, rfl, rfl⟩ := el
          subst hr; exact q
      · rcases hf with rfl | rfl
        · exact ⟨μ4, ρ4, S4, R4, el⟩
        · exact ⟨μ4, ρ4, S4, R4, el⟩
    · have hi2 : i = ds.length := by omega
      subst hi2
      simp only [List.drop_length, loopC] at el
      split at el
      case isFalse => cases el
      rename_i hS
      obtain ⟨xs, hx, hr⟩ := R2.wd.cell n _ a hS hn2
      simp only [Option.some.injEq, Prod.mk.injEq] at el
      obtain ⟨rfl, rfl, rfl⟩ := el
      exact .inl ⟨(it ds.length H2 xs hx).2 (by rw [RVL.length hr]; exact Nat.le_refl _), q σ2 H2 μ2 (R2.ub W1)⟩
theorem dic_seq {e : Expr} (h : PE X e (tD X.K fo)) : PI X tg e (tIC X.K fo) := pi_imp (pi_list h) fun σ H R ⟨Z, μ, ρ, S, Rl, d, n, ds, e1, e2, q⟩ => by
  refine ⟨Z, μ, ρ, S, Rl, d, e1, fun v H1 s1 r1 => ?_⟩
  obtain ⟨a, xs, rfl, hn, h1, hr, _⟩ := cell_of (Rl.wd.mono s1) r1 e2
  refine ⟨a, rfl, ⟨_, SqL.of h1⟩, q _ H1 a s1 hn fun i H' xs' hx => ⟨fun x hxi => ⟨⟨xs', x, SqL.of hx, hxi⟩, fun y H'' hy => ?_⟩, fun hl => ⟨xs', SqL.of hx, hl⟩⟩⟩
  obtain ⟨rfl, h2⟩ := hy
  have := h2 xs' (SqL.of hx)
  rw [hxi] at this
  exact ⟨Same.refl _, (Option.some.inj this).symm⟩
end
/-! ### xs[::-1] -/
def fRev (f : E) : EL := fun ρ S => (f ρ S).bind fun d => (lstD S d).map List.reverse
section
variable {X : Cx} {e : Expr} {k : Nat} {p1 p2 p3 pos : Pos} {fa : E}
theorem d_revL (he : PE X e (tD X.K fa)) : PE X (.Subscript e (.Slice none none (some (.UnaryOp .USub (.Constant (.int 1) k p1) p2)) p3) pos) (tF X.K (fRev fa)) :=
  pe_imp (pe_revL he) fun σ H Q ⟨Z, μ, ρ, S, R, ds, e, q⟩ => by
    simp only [fRev, Option.bind_eq_some_iff, Option.map_eq_some_iff] at e
    obtain ⟨d, e1, es, e2, rfl⟩ := e
    refine ⟨Z, μ, ρ, S, R, d, e1, fun v H1 s1 r1 => ?_⟩
    obtain ⟨a, xs, rfl, h1, hr⟩ := lst_of (R.wd.mono s1) r1 e2
    refine ⟨a, xs, rfl, SqL.of h1, fun p np => ?_⟩
    have s2 : Same H1 (upd H1 p (.lst xs.reverse)) := fun c o z => by rw [upd_ne (ne_of_none z np)]; exact z
    exact q p _ _ (s1.free np) (s1.trans s2) upd_same (RVL.newO s2 np (RVL.rev hr))
end
section
open PyProof.Rows HT
variable {prog : Program} {w : World} {A : Around} {E : Value → Shared → Prop} {s : Shared}
theorem rev_pick (xs : List Value) : ((List.range xs.length).filterMap fun (k : Nat) => xs.toArray[(((xs.length : Int) - 1) + (k : Int) * (-1)).toNat]?).toArray = xs.reverse.toArray := by
  congr 1
  have h : ∀ k, k < xs.length → xs.toArray[(((xs.length : Int) - 1) + (k : Int) * (-1)).toNat]? = some (xs.reverse.getD k .none) := by
    intro k hk
    have e : (((xs.length : Int) - 1) + (k : Int) * (-1)).toNat = xs.length - 1 - k := by omega
    rw [e, List.getElem?_toArray, List.getD_eq_getElem?_getD, List.getElem?_reverse hk, List.getElem?_eq_getElem (by omega)]
    rfl
  have h2 : ((List.range xs.length).filterMap fun (k : Nat) => xs.toArray[(((xs.length : Int) - 1) + (k : Int) * (-1)).toNat]?) = (List.range xs.length).map fun k => xs.reverse.getD k .none := by
    have gen : ∀ l : List Nat, (∀ k ∈ l, k < xs.length) → (l.filterMap fun (k : Nat) => xs.toArray[(((xs.length : Int) - 1) + (k : Int) * (-1)).toNat]?) = l.map fun k => xs.reverse.getD k .none := by
      intro l hl
      induction l with
      | nil => rfl
      | cons a l ih =>
        rw [List.filterMap_cons, h a (hl a (by simp)), ih fun k hk => hl k (by simp [hk])]
        rfl
    exact gen _ fun k hk => List.mem_range.mp hk
  rw [h2]
  apply List.ext_getElem
  · simp
  · intro i h3 h4
    simp at h3
    simp [List.getElem?_eq_getElem, h3]
theorem sliceApplied_rev {sl : Addr} {t : Tok} {n : Nat} {Q : Int × Int × Nat → Shared → Prop} (hs : s.heap.IsSliceOf sl .none .none (.int (-1) t)) (h : Q ((n : Int) - 1, -1, n) s) :
    wpAny (model prog w) A (Builtin.Slice.sliceApplied (.ref sl) (pure (n : Int))) Q E s := by
  obtain ⟨os, hos, hcs, hds⟩ := id hs
  unfold Builtin.Slice.sliceApplied
  unfold Builtin.Slice.sliceFields
  refine wpAny_bind (wpAny_bind (wpAny_field hos hds (x := .none) rfl (wpAny_bind (wpAny_field hos hds (x := .none) rfl (wpAny_bind (wpAny_field hos hds (x := .int (-1) t) rfl (wpAny_pure ?_)))))))
  refine wpAny_bind (slicePart_int ?_)
  show wpAny _ _ (if ((-1 : Int) == 0) = true then _ else _) _ _ s
  rw [if_neg (by decide)]
  refine wpAny_bind (slicePart_none (wpAny_bind (slicePart_none (wpAny_bind (wpAny_pure ?_)))))
  have e1 : Builtin.Slice.sliceAdjust none none (-1) (n : Int) = ((n : Int) - 1, -1) := rfl
  have e2 : Builtin.Slice.slicePlaces ((n : Int) - 1) (-1) (-1) = n := by
    unfold Builtin.Slice.slicePlaces
    rw [if_neg (by decide)]
    by_cases h0 : (n : Int) - 1 > -1
    · rw [if_pos h0]
      have : ((n : Int) - 1 - -1 - 1) / (- -1) + 1 = n := by
        show ((n : Int) - 1 - -1 - 1) / 1 + 1 = n
        rw [Int.ediv_one]
        omega
      rw [this]; simp
    · rw [if_neg h0]
      have : n = 0 := by omega
      subst this; rfl
  show wpAny _ _ (match Builtin.Slice.sliceAdjust none none (-1) (n : Int) with | (lo, hi) => pure (lo, (-1 : Int), Builtin.Slice.slicePlaces lo hi (-1))) _ _ s
  rw [e1]
  show wpAny _ _ (pure ((n : Int) - 1, (-1 : Int), Builtin.Slice.slicePlaces ((n : Int) - 1) (-1) (-1))) _ _ s
  rw [e2]
  exact wpAny_pure h
theorem getItem_tuple_rev {t sl : Addr} {its : List Value} {tk : Tok} {Q : Value → Shared → Prop} (ht : IsTup s.heap t its.toArray) (hs : s.heap.IsSliceOf sl .none .none (.int (-1) tk))
    (h : Q (.ref s.heap.objs.size) { s with heap := s.heap.push { cls := .type "tuple", data := .seq its.reverse.toArray } }) (hsz : its.length ≤ sizeLine) : wpAny (model prog w) A (getItem (.ref t) (.ref sl)) Q E s := by
  have hok : sizeOk (.seq its.reverse.toArray) := by
    show its.reverse.toArray.size ≤ sizeLine
    rw [List.size_toArray, List.length_reverse]; exact hsz
  obtain ⟨os, hos, hcs, hds⟩ := id hs
  have hTs : s.TypeIs (.ref sl) "slice" := ⟨os, hos, hcs⟩
  unfold getItem
  try with_reducible refine wpAny_holding ?_
  first | refine wpAny_bind (wpAny_pure ?_) | skip
  refine wpAny_bind (wpAny_sequenceKey ht.typeIs (by decide) ?_)
  refine wpAny_bind (wpAny_callSpecial?_slot (name := Str.ofString "__getitem__") ht.typeIs PyProof.Rows.slot_tuple_getitem
    (wpAny_call_entry PyProof.Rows.slot_tuple_getitem ht.typeIs entry_tuple_getitem ?_ (args_tuple_getitem _ _)))
  show wpAny _ _ (Builtin.Tuple.tupleItemsOf (.ref t) >>= _) _ _ s
  refine wpAny_bind (tupleItemsOf_ ht ?_)
  refine wpAny_bind (wpAny_typeOf hTs ?_)
  rw [if_pos (by decide)]
  have hn : its.toArray.size = its.length := List.size_toArray ..
  rw [hn]
  refine wpAny_bind (sliceApplied_rev hs ?_)
  have hno : ¬ ((((its.length : Int) - 1) == 0 && (-1 : Int) == 1 && its.length == its.length) = true) := by
    intro q
    rw [Bool.and_eq_true, Bool.and_eq_true] at q
    have := eq_of_beq q.1.2
    omega
  show wpAny _ _ (if (((its.length : Int) - 1) == 0 && (-1 : Int) == 1 && its.length == its.length) = true then _ else _) _ _ s
  rw [if_neg hno, rev_pick]
  first
    | exact wpAny_bind (m := Builtin.Tuple.tupleExact _) (wpAny_newObj_type (wpAny_pure ⟨_, rfl, wpAny_pure h⟩) hok)
    | exact wpAny_bind (m := Builtin.Tuple.tupleExact _) (wpAny_newObj_type (wpAny_bind (wpAny_pure (wpAny_pure ⟨_, rfl, wpAny_pure h⟩))) hok)
    | exact wpAny_bind (wpAny_bind (m := Builtin.Tuple.tupleExact _) (wpAny_newObj_type (wpAny_pure (wpAny_pure ⟨_, rfl, wpAny_pure h⟩)) hok))
    | exact wpAny_bind (wpAny_bind (m := Builtin.Tuple.tupleExact _) (wpAny_newObj_type (wpAny_pure ⟨_, rfl, wpAny_pure h⟩) hok))
end
section
variable {X : Cx} {e : Expr} {k : Nat} {p1 p2 p3 pos : Pos}
def tRevT (K : PySem.W.Frag) (te : TE) : TE := fun σ H Q => te σ H fun x H1 => ∃ a xs, x = .ref a ∧ SqT K H1 a xs ∧ ∀ p, H1 p = none → Q (.ref p) (upd H1 p (.tup xs.reverse))
open PyProof.Rows in
theorem pe_revT {te : TE} (ce : PE X e te) : PE X (.Subscript e (.Slice none none (some (.UnaryOp .USub (.Constant (.int 1) k p1) p2)) p3) pos) (tRevT X.K te) := by
  constructor
  intro pins s σ H Q I hw
  refine Subscript_ (thn (ce.run pins s σ H _ I hw) fun v s1 ⟨x, Ha, Ia, ra, qa⟩ => ?_)
  obtain ⟨a, xs, rfl, hx, q⟩ := qa
  cases ra
  have part : PO X (some (.UnaryOp .USub (.Constant (.int 1) k p1) p2)) (tPart (tUn (rU fun i => .int (-i)) (tC (.int 1)))) := po_some (pe_un un_neg pe_int)
  refine wpAny_Slice (thn (po_none.run pins s1 σ Ha (fun o Hb => o = none ∧ Hb = Ha) Ia ⟨rfl, rfl⟩) fun vl s2 ⟨lo, Hb, Ib, pl, el, e2⟩ => ?_)
  subst el e2
  refine thn (po_none.run pins s2 σ Hb (fun o Hc => o = none ∧ Hc = Hb) Ib ⟨rfl, rfl⟩) fun vu s3 ⟨up, Hc, Ic, pu, eu, e3⟩ => ?_
  subst eu e3
  refine thn (part.run pins s3 σ Hc (fun o Hd => o = some (-1) ∧ Hd = Hc) Ic ⟨1, rfl, -1, rfl, rfl, rfl⟩) fun vs s4 ⟨o, Hd, Id, ps, eo, e4⟩ => ?_
  subst eo e4
  cases pl
  cases pu
  cases ps with
  | int _ tk =>
  have Ie : L2.Inv X pins σ Hd { s4 with heap := s4.heap.push { cls := .type "slice", data := .fields #[.none, .none, .int (-1) tk] } } := Id.kept (t' := s4.toks) fun b ob z => Heap.get?_push_of_some _ z
  obtain ⟨its, r, ht, hz⟩ := Ie.tuple hx
  have hl := r.length
  show wpAny (model X.prog X.w) X.A (subscriptTail e (.Slice none none (some (.UnaryOp .USub (.Constant (.int 1) k p1) p2)) p3) (.ref a) (.ref s4.heap.objs.size)) (EP X pins σ Q) X.xe _
  refine tail_any (ops := [.ref a, .ref s4.heap.objs.size]) ht.typeIs (PyProof.Rows.slot_tuple_getitem.lookup) ?_ (by with_unfolding_all rfl)
  refine getItem_tuple_rev ht (Heap.IsSliceOf.new _ .none .none (.int (-1) tk)) ?_ (by omega)
  refine ⟨.ref _, _, Ie.laid (t' := s4.toks) (o := .tup xs.reverse) (fun b ob z => Heap.get?_push_of_some _ z) (Nat.le_refl _) ?_, rfl, q _ (Ie.hok.fresh (Nat.le_refl _))⟩
  exact ⟨by rw [List.length_reverse]; exact hz, _, r.reverse, IsTup.new _ _⟩
def gRevT (S : Sto) (d : D) : Option D := match d with
  | .tup ds => some (.tup ds.reverse)
  | _ => none
theorem d_revT {fa : E} (he : PE X e (tD X.K fa)) : PE X (.Subscript e (.Slice none none (some (.UnaryOp .USub (.Constant (.int 1) k p1) p2)) p3) pos) (tD X.K (e1 gRevT fa)) :=
  pe_imp (pe_revT he) fun σ H Q ⟨Z, μ, ρ, S, R, d, e, q⟩ => by
    simp only [e1, Option.bind_eq_some_iff] at e
    obtain ⟨x, e1, e2⟩ := e
    unfold gRevT at e2
    split at e2
    · cases e2
      refine ⟨Z, μ, ρ, S, R, _, e1, fun v H1 s1 r1 => ?_⟩
      obtain ⟨a, xs, rfl, h1, hr⟩ := rv_tup.mp r1
      refine ⟨a, xs, rfl, SqT.of h1, fun p np => ?_⟩
      have s2 : Same H1 (upd H1 p (.tup xs.reverse)) := fun c o z => by rw [upd_ne (ne_of_none z np)]; exact z
      exact q _ _ (s1.trans s2) (rv_tup.mpr ⟨p, _, rfl, upd_same, RVL.mono s2 (RVL.rev hr)⟩)
    · cases e2
end
end DL

set_option maxHeartbeats 4000000
namespace DL
open PySem PySem.Spec L2
/-! ### max(xs, default=d), ints -/
section
open PyProof.Rows
variable {prog : Program} {w : World} {A : Around} {E : Value → Shared → Prop} {s : Shared}
theorem treeK {id : String} {b : Builtin} {us : List Value} {kw : List (Str × Value)} {Q : Value → Shared → Prop} (hk : builtinKind id = none) (hp : plainId id = true) (hb : entryFor table id = some b) (ha : argsOk id ⟨us, kw⟩)
    (hc : wpAny (model prog w) A.in1 (b ⟨us, kw⟩) (fun fin s' => match fin with
      | .done f => (match (Except.ok f : Result) with | .ok (.ret v) => Q v s' | .ok _ => False | .error e => E e s')
      | .again c' => c'.quiet = true ∧ codeAny (model prog w) A c' (fun r s' => match r with | .ok (.ret v) => Q v s' | .ok _ => False | .error e => E e s') s') E s) :
    wpAny (model prog w) A (call (.builtin id) us kw) Q E s := by
  refine wpAny_call (codeAny_call_builtin hp hb ?_)
  simp only [checkBuiltinCall, hk]
  cases hsig : Manifest.signature? id with
  | none => exact wpAny_pure hc
  | some sig =>
    simp only [argsOk, hsig] at ha
    have h2 : Bind.checkArgs id sig ⟨us, kw⟩ = pure () := ha
    show wpAny _ A.in1 (Bind.checkArgs id sig ⟨us, kw⟩) _ _ s
    rw [h2]
    exact wpAny_pure hc
theorem args_maxD (a d : Value) : argsOk "max" ⟨[a], [(Str.ofString "default", d)]⟩ := by unfold argsOk; kernel_rfl
variable {R : Result → Shared → Prop} {I : Addr} {fp wr : List Addr} {n : Nat} {P : Nat → Value → Prop} {St : Nat → Heap → Prop}
/-- the turns after the first one, whatever keywords there are -/
theorem max_turns (W : Walks prog w A.in1 I fp wr n P St) (kw : List (Str × Value)) (bt : Nat → Nat → Bool) (cmp : CmpOf prog w A.in1 .Gt P bt) (T : Addr) (nT : T ∉ fp) :
    ∀ (k j : Nat) (s : Shared) (vb : Value) (c : Nat), n - (j + 1) = k → j + 1 ≤ n → St (j + 1) s.heap → P (argBest bt j) vb → s.heap.get? T = some { cls := .type "list", dict := none, data := .seq #[vb, vb] c, slots := #[] } →
      (∀ v h' tk, P (argBest bt (n - 1)) v → (∀ b o, b ∉ wr → b ≠ T → s.heap.get? b = some o → h'.get? b = some o) → R (.ok (.ret v)) { s with heap := h', toks := tk }) →
      codeAny (model prog w) A (.builtin "max.loop" ⟨[.ref I, .none, .ref T], kw⟩) R s
  | 0, j, s, vb, c, hk, hj, st, pb, hT, hR => by
    have nW : T ∉ wr := fun z => nT (W.sub _ z)
    have jn : j + 1 = n := by omega
    refine codeAny_builtin F.entry_max_loop ?_
    rw [Around.under_plainId F.plain_max_loop _]
    show wpAny _ A.in1 (seqItems? (.ref T) >>= _) _ _ s
    refine wpAny_bind (wpAny_seqItems hT rfl ?_)
    show wpAny _ A.in1 (tryCatch (pyNext (.ref I)) _ >>= _) _ _ s
    refine wpAny_bind (wpAny_tryCatch (W.done s _ _ (jn ▸ st) fun h' tk kp => ?_))
    have hT' := kp T _ nW hT
    show wpAny _ A.in1 (updateSeq T (fun _ => #[]) >>= _) _ _ _
    refine wpAny_bind ?_
    refine wpAny_updateSeq hT' rfl (wpAny_bind (wpAny_letGo (wpAny_pure ?_)))
    exact hR vb _ tk (by rw [← jn]; exact pb) fun b o n1 n2 e => (Heap.get?_update_other _ _ (Ne.symm n2)).trans (kp b o n1 e)
  | k + 1, j, s, vb, c, hk, hj, st, pb, hT, hR => by
    have nW : T ∉ wr := fun z => nT (W.sub _ z)
    have nm : (toString "max" ++ toString ".loop" : String) = "max.loop" := by decide
    have lt : j + 1 < n := by omega
    refine codeAny_builtin F.entry_max_loop ?_
    rw [Around.under_plainId F.plain_max_loop _]
    show wpAny _ A.in1 (seqItems? (.ref T) >>= _) _ _ s
    refine wpAny_bind (wpAny_seqItems hT rfl ?_)
    show wpAny _ A.in1 (tryCatch (pyNext (.ref I)) _ >>= _) _ _ s
    refine wpAny_bind (wpAny_tryCatch (W.item (j + 1) s _ _ lt st fun v h' tk hP st' kp => ?_))
    have hT' := kp T _ nW hT
    show wpAny _ A.in1 (tryCatch (holding [v, v] (richCompare .Gt v vb >>= _)) _ >>= _) _ _ _
    refine wpAny_bind (wpAny_tryCatch (wpAny_holding (wpAny_bind (cmp (j + 1) (argBest bt j) v vb _ _ _ hP pb ?_))))
    refine wpAny_bind (wpAny_holding (wpAny_truthy_bool ?_))
    refine wpAny_bind (wpAny_letGo (wpAny_pure ?_))
    cases hb : bt (j + 1) (argBest bt j) with
    | true =>
      simp only [if_true]
      refine wpAny_bind ?_
      refine wpAny_updateSeq hT' rfl (wpAny_bind (wpAny_letGo ?_))
      rw [nm]
      refine wpAny_pure ⟨plainId_quiet F.plain_max_loop _, max_turns W kw bt cmp T nT k (j + 1) _ v _ (by omega) lt (W.frame _ _ _ st' fun b hbf o e => ?_) (by simp only [argBest, hb, if_true]; exact hP) (Heap.get?_update_self _ hT' rfl) fun v2 h2 t2 p2 k2 => ?_⟩
      · exact (Heap.get?_update_other _ _ (fun z : T = b => nT (by rw [z]; exact hbf))).trans e
      · exact hR v2 h2 t2 p2 fun b o n1 n2 e => k2 b o n1 n2 ((Heap.get?_update_other _ _ (Ne.symm n2)).trans (kp b o n1 e))
    | false =>
      simp only [Bool.false_eq_true, if_false]
      refine wpAny_bind (wpAny_letGo ?_)
      rw [nm]
      refine wpAny_pure ⟨plainId_quiet F.plain_max_loop _, max_turns W kw bt cmp T nT k (j + 1) _ vb c (by omega) lt st' (by simp only [argBest, hb, Bool.false_eq_true, if_false]; exact pb) hT' fun v2 h2 t2 p2 k2 => ?_⟩
      exact hR v2 h2 t2 p2 fun b o n1 n2 e => k2 b o n1 n2 (kp b o n1 e)
theorem max_first (W : Walks prog w A.in1 I fp wr n P St) (kw : List (Str × Value)) (bt : Nat → Nat → Bool) (cmp : CmpOf prog w A.in1 .Gt P bt) (T : Addr) (nT : T ∉ fp) (hn : 0 < n) {s : Shared} {c : Nat} (st : St 0 s.heap)
    (hT : s.heap.get? T = some { cls := .type "list", dict := none, data := .seq #[] c, slots := #[] })
    (hR : ∀ v h' tk, P (argBest bt (n - 1)) v → (∀ b o, b ∉ wr → b ≠ T → s.heap.get? b = some o → h'.get? b = some o) → R (.ok (.ret v)) { s with heap := h', toks := tk }) :
    codeAny (model prog w) A (.builtin "max.loop" ⟨[.ref I, .none, .ref T], kw⟩) R s := by
  have nW : T ∉ wr := fun z => nT (W.sub _ z)
  have nm : (toString "max" ++ toString ".loop" : String) = "max.loop" := by decide
  refine codeAny_builtin F.entry_max_loop ?_
  rw [Around.under_plainId F.plain_max_loop _]
  show wpAny _ A.in1 (seqItems? (.ref T) >>= _) _ _ s
  refine wpAny_bind (wpAny_seqItems hT rfl ?_)
  show wpAny _ A.in1 (tryCatch (pyNext (.ref I)) _ >>= _) _ _ s
  refine wpAny_bind (wpAny_tryCatch (W.item 0 s _ _ hn st fun v h' tk hP st' kp => ?_))
  have hT' := kp T _ nW hT
  show wpAny _ A.in1 (updateSeq T (fun _ => #[v, v]) >>= _) _ _ _
  refine wpAny_bind ?_
  refine wpAny_updateSeq hT' rfl ?_
  rw [nm]
  refine wpAny_pure ⟨plainId_quiet F.plain_max_loop _, max_turns W kw bt cmp T nT _ 0 _ v _ rfl hn (W.frame _ _ _ st' fun b hbf o e => ?_) hP (Heap.get?_update_self _ hT' rfl) fun v2 h2 t2 p2 k2 => ?_⟩
  · exact (Heap.get?_update_other _ _ (fun z : T = b => nT (by rw [z]; exact hbf))).trans e
  · exact hR v2 h2 t2 p2 fun b o n1 n2 e => k2 b o n1 n2 ((Heap.get?_update_other _ _ (Ne.symm n2)).trans (kp b o n1 e))
theorem max_none (W : Walks prog w A.in1 I fp wr 0 P St) (d : Value) (T : Addr) (nT : T ∉ fp) {s : Shared} {c : Nat} (st : St 0 s.heap) (hT : s.heap.get? T = some { cls := .type "list", dict := none, data := .seq #[] c, slots := #[] })
    (hR : ∀ h' tk, (∀ b o, b ∉ wr → b ≠ T → s.heap.get? b = some o → h'.get? b = some o) → R (.ok (.ret d)) { s with heap := h', toks := tk }) :
    codeAny (model prog w) A (.builtin "max.loop" ⟨[.ref I, .none, .ref T], [(Str.ofString "default", d)]⟩) R s := by
  refine codeAny_builtin F.entry_max_loop ?_
  rw [Around.under_plainId F.plain_max_loop _]
  show wpAny _ A.in1 (seqItems? (.ref T) >>= _) _ _ s
  refine wpAny_bind (wpAny_seqItems hT rfl ?_)
  show wpAny _ A.in1 (tryCatch (pyNext (.ref I)) _ >>= _) _ _ s
  refine wpAny_bind (wpAny_tryCatch (W.done s _ _ st fun h' tk kp => ?_))
  refine wpAny_bind (wpAny_rule (wpAny_pure ?_))
  exact hR h' tk fun b o n1 _ e => kp b o n1 e
theorem max_walkD {x d : Value} {Q : Value → Shared → Prop}
    (h : wpAny (model prog w) A.in1 (pyIter x) (fun it s₂ => ∃ I fp wr n P St bt, it = .ref I ∧ Walks prog w A.in1 I fp wr n P St ∧ St 0 s₂.heap ∧ (∀ b ∈ fp, b < s₂.heap.objs.size) ∧ CmpOf prog w A.in1 .Gt P bt ∧
      (0 < n → ∀ v h' tk, P (argBest bt (n - 1)) v → (∀ b o, b ∉ wr → s₂.heap.get? b = some o → h'.get? b = some o) → Q v { s₂ with heap := h', toks := tk }) ∧
      (n = 0 → ∀ h' tk, (∀ b o, b ∉ wr → s₂.heap.get? b = some o → h'.get? b = some o) → Q d { s₂ with heap := h', toks := tk })) E s) :
    wpAny (model prog w) A (call (.builtin "max") [x] [(Str.ofString "default", d)]) Q E s := by
  have nm : (toString "max" ++ toString ".loop" : String) = "max.loop" := by decide
  refine treeK F.kind_max F.plain_max F.entry_max (args_maxD _ _) ?_
  show wpAny _ A.in1 (Builtin.Builtins.bindParams "max" ["key", "default"] 0 ⟨[], [(Str.ofString "default", d)]⟩ >>= _) _ _ s
  refine wpAny_bind (wpAny_of_eq (show Builtin.Builtins.bindParams "max" ["key", "default"] 0 ⟨[], [(Str.ofString "default", d)]⟩ = pure [none, some d] from by with_unfolding_all rfl) ?_)
  refine wpAny_bind (wpAny_pure ?_)
  refine wpAny_bind (wpAny_mono h (fun it s₂ h₂ => ?_) fun _ _ e => e)
  obtain ⟨I, fp, wr, n, P, St, bt, rfl, W, st, hfp, cmp, q1, q2⟩ := h₂
  refine wpAny_bind (wpAny_newObj_type ?_)
  have nT : s₂.heap.objs.size ∉ fp := fun hm => Nat.lt_irrefl _ (hfp _ hm)
  have st' := W.frame _ _ _ st fun b _ o e => Heap.get?_push_of_some { cls := .type "list", data := .seq #[] } e
  rw [nm]
  refine wpAny_pure ⟨plainId_quiet F.plain_max_loop _, ?_⟩
  by_cases hn : 0 < n
  · refine max_first W _ bt cmp s₂.heap.objs.size nT hn st' (Heap.get?_push_size _ rfl) fun v h' tk hP hk => ?_
    exact q1 hn v h' tk hP fun b o hb e => hk b o hb (Nat.ne_of_lt (Heap.lt_size e)) (Heap.get?_push_of_some _ e)
  · have h0 : n = 0 := by omega
    subst h0
    refine max_none W d s₂.heap.objs.size nT st' (Heap.get?_push_size _ rfl) fun h' tk hk => ?_
    exact q2 rfl h' tk fun b o hb e => hk b o hb (Nat.ne_of_lt (Heap.lt_size e)) (Heap.get?_push_of_some _ e)
end
section
variable {X : Cx}
open PyProof.Rows
def maxDI (d : Int) : List Int → Int
  | [] => d
  | n :: ns => (maxI (n :: ns)).getD d
def rMaxD (K : PySem.W.Frag) : List V → List V → Hp → VK → Prop := fun vs zs H Q => ∃ (a : Addr) (ns : List Int) (d : Int), vs = [.ref a] ∧ zs = [.int d] ∧ SqL K H a (ns.map V.int) ∧
  (ns = [] → Q (.int d) H) ∧ (ns ≠ [] → ∀ m, m ∈ ns → (∀ k ∈ ns, k ≤ m) → Q (.int m) H)
theorem cr_maxD (hc : X.calm = true) : CallRK X (.builtin "max") [Str.ofString "default"] (rMaxD X.K) := by
  intro pins s σ H vs zs us ws Q I r rz h
  obtain ⟨a, ns, d, rfl, rfl, hs, q1, q2⟩ := h
  obtain rfl := Vals.ref1 r
  obtain ⟨w1, rfl, e1⟩ := vals1 rz
  obtain ⟨its, rv, hl, _⟩ := I.list hs
  obtain ⟨xs, e⟩ := rv.ints.allInts.items
  have hn : numsOf (intItems xs).toList = ns := by rw [← e]; exact rv.ints.numsOf
  rw [nums_intItems] at hn
  subst hn
  have hl' := hl.isList
  rw [e] at hl'
  show wpAny (model X.prog X.w) X.A (call (.builtin "max") [.ref a] [(Str.ofString "default", w1)]) (EP X pins σ Q) X.xe s
  refine max_walkD (iter_intList hl' fun s₂ es st hfp hlI => ?_)
  subst es
  refine ⟨_, _, _, _, _, _, _, rfl, Walks.list (A := X.A.in1) (I.ok.hd hc) _ a hlI (intItems xs), st, hfp, CmpOf.ints_gt (numAt xs) (fun _ _ => intItems_at), fun h0 v h' tk hP hk => ?_, fun h0 h' tk hk => ?_⟩
  · have hsz : 0 < xs.size := by simpa [intItems] using h0
    have hP' : (intItems xs)[argBest (fun i j => decide (numAt xs i > numAt xs j)) (xs.size - 1)]? = some v := by simpa [intItems] using hP
    obtain ⟨t, rfl⟩ := intItems_at hP'
    obtain ⟨h1, h2⟩ := argBest_gt (numAt xs) (xs.size - 1)
    refine ⟨.int _, H, I.kept (old_kept hk), ⟨_, rfl⟩, q2 (fun z => ?_) _ ?_ fun k hk' => ?_⟩
    · have h3 : xs.toList.length = 0 := by
        have := congrArg List.length z
        simpa only [List.length_map, List.length_nil] using this
      rw [Array.length_toList] at h3
      omega
    · rw [numAt_eq]; exact PySem.getD_mem (by rw [List.length_map, Array.length_toList]; omega)
    · obtain ⟨j, hj, rfl⟩ := mem_getD hk'
      rw [List.length_map, Array.length_toList] at hj
      rw [← numAt_eq]; exact h2 j (by omega)
  · have hsz : xs.size = 0 := by simpa [intItems] using h0
    refine ⟨.int d, H, I.kept (old_kept hk), e1, q1 ?_⟩
    apply List.eq_nil_of_length_eq_zero
    rw [List.length_map, Array.length_toList]
    exact hsz
end
def cMaxD : Sto → D → D → Option D := fun S x y => match y with
  | .int d => (lstD S x).bind fun xs => (intsD xs).map fun ns => .int (maxDI d ns)
  | _ => none
theorem maxI_some {ns : List Int} (h : ns ≠ []) : ∃ k, maxI ns = some k := by
  cases ns with
  | nil => exact absurd rfl h
  | cons a l => exact ⟨_, rfl⟩
section
variable {X : Cx} {e f : Expr} {p pos kp : Pos} {fa fb : E}
theorem d_maxD (hc : X.calm = true) (hg : Gl X "max") (hm : X.mg "max" = none) (ha : PE X e (tD X.K fa)) (hb : PE X f (tD X.K fb)) (hv : bootBuiltins "max" = some (.builtin "max") := by exact bt_max)
    (hst : starEach [e] X.env = (false, eval e X.env) :: starEach [] X.env := by rfl)
    (he : backTo pos (starEach [e] X.env) = (false, eval e X.env) :: backTo pos (starEach [] X.env) := by rfl) (hpl : (backTo pos (starEach [e] X.env)).any (·.1) = false := by rfl)
    (hall : (backToKw pos (keywordEach [⟨some "default", f, kp⟩] X.env)).all (·.1.isSome) = true := by rfl) (hnone : (backToKw pos (keywordEach [⟨some "default", f, kp⟩] X.env)).any (·.1.isNone) = false := by rfl) (hks : (backToKw pos (keywordEach [⟨some "default", f, kp⟩] X.env)).filterMap (·.1) = [Str.ofString "default"] := by rfl) :
    PE X (.Call (.Name "max" p) [e] [⟨some "default", f, kp⟩] pos) (tD X.K (e2 cMaxD fa fb)) :=
  pe_imp (pe_callBK (cr_maxD hc) hg hm hv (pa_cons ha pa_nil hst) (pk_cons hb pk_nil) (by decide) (by decide) he hpl hall hnone hks) fun σ H Q ⟨Z, μ, ρ, S, R, d, e, q⟩ => by
    simp only [e2, Option.bind_eq_some_iff] at e
    obtain ⟨x, e1, y, e2, e3⟩ := e
    cases y with
    | int k =>
      simp only [cMaxD, Option.bind_eq_some_iff, Option.map_eq_some_iff] at e3
      obtain ⟨ds, e4, ns, e5, rfl⟩ := e3
      have ed := ints_eq e5
      subst ed
      refine ⟨Z, μ, ρ, S, R, x, e1, fun v H1 s1 r1 => ⟨Z, μ, ρ, S, R.mono s1, _, e2, fun u H2 s2 r2 => ?_⟩⟩
      obtain ⟨a, xs, rfl, h1, hr⟩ := lst_of ((R.wd.mono s1).mono s2) (RV.mono s2 r1) e4
      have ex := rvl_intsA hr
      subst ex
      rw [rv_int.mp r2]
      refine ⟨a, ns, k, rfl, rfl, SqL.of h1, fun z => ?_, fun z m hm hk => ?_⟩
      · subst z
        exact q (.int k) H2 (s1.trans s2) (rv_int.mpr rfl)
      · obtain ⟨j, hj⟩ := maxI_some z
        have := maxI_of hj hm hk
        subst this
        refine q (.int m) H2 (s1.trans s2) (rv_int.mpr ?_)
        cases ns with
        | nil => exact absurd rfl z
        | cons a l => simp only [maxDI, hj, Option.getD_some]
    | _ => simp [cMaxD] at e3
end
end DL

set_option maxHeartbeats 4000000
namespace DL
open PySem PySem.Spec L2

/-! ### sorted(d), d a dict: its keys -/
section
open PySem.W PyProof.Rows SeqAt
variable {prog : Program} {w : World} {A : Around} {E : Value → Shared → Prop} {s : Shared}
/-- sorted of a thing of which we know what it tells, one behind another -/
theorem sorted_col {l : Addr} {Pv : List Value → Prop} {ltv : Value → Value → Bool} {Q : Value → Shared → Prop} (O : SrtO.Swo ltv)
    (hcol : ∀ (R : List Value → Shared → Prop), (∀ vs h' tk, (∀ b o, s.heap.get? b = some o → h'.get? b = some o) → Pv vs → R vs { s with heap := h', toks := tk }) → wpAny (model prog w) A.in1 (collect (.ref l)) R (fun e s' => E e s') s)
    (hz : ∀ vs, Pv vs → vs.length ≤ sizeLine)
    (hS : ∀ vs, Pv vs → 2 ≤ vs.length → ∀ (h₁ : Heap) (tk : Nat) (a : Addr), (∀ b o, s.heap.get? b = some o → b ≠ a ∧ h₁.get? b = some o) → SrtO.SortableO prog w A.in1.in1 { s with heap := h₁, toks := tk } a vs ltv)
    (h : ∀ vs, Pv vs → ∀ (out : List Value), SrtO.Srtd ltv out → SrtO.Stb ltv out vs → ∀ (h' : Heap) (tk : Nat) (p : Addr), (∀ b o, s.heap.get? b = some o → h'.get? b = some o) → s.heap.get? p = none → (∃ ep, h'.get? p = some (seqObj "list" out.toArray ep)) → Q (.ref p) { s with heap := h', toks := tk }) :
    wpAny (model prog w) A (call (.builtin "sorted") [.ref l]) Q E s := by
  refine Calls.call_function_entry kind_sorted plain_sorted entry_sorted (args_sorted1 _) (?_ : wpAny _ _ (Builtin.«sorted» _) _ _ _)
  unfold Builtin.«sorted»
  refine wpAny_bind (m := checkCount "sorted" 1 1 _) (wpAny_pure (wpAny_bind ?_))
  refine hcol _ fun vs h1 tk k1 pv => ?_
  show wpAny _ _ (newList vs >>= _) _ _ _
  refine wpAny_bind (wpAny_newList ?_ (hz vs pv))
  show wpAny _ _ _ _ _ { s with heap := h1.push (seqObj "list" vs.toArray 0), toks := tk }
  have hp : (h1.push (seqObj "list" vs.toArray 0)).get? h1.objs.size = some (seqObj "list" vs.toArray 0) := Heap.get?_push_size _ rfl
  have hn : ∀ b u, h1.get? b = some u → b ≠ h1.objs.size := fun b u e => Nat.ne_of_lt (Heap.lt_size e)
  have kk : ∀ b o, s.heap.get? b = some o → b ≠ h1.objs.size ∧ (h1.push (seqObj "list" vs.toArray 0)).get? b = some o := fun b o e => ⟨hn b o (k1 b o e), Heap.get?_push_of_some _ (k1 b o e)⟩
  have hf : s.heap.get? h1.objs.size = none := by
    cases e : s.heap.get? h1.objs.size with
    | none => rfl
    | some u => exact absurd rfl (hn _ _ (k1 _ _ e))
  refine wpAny_bind (wpAny_holding (wpAny_call_entry slot_list_sort ⟨_, hp, rfl⟩ entry_list_sort (SrtO.list_sort_ord O hp (hz vs pv) (fun h2 => hS vs pv h2 _ _ _ kk) fun out hs hb => ⟨_, rfl, wpAny_pure ⟨_, rfl, ?_⟩⟩) (args_list_sort _)))
  exact h vs pv out hs hb _ _ _ (fun b o e => sortedHeap_old (kk b o e).1 (Heap.lt_size (kk b o e).2) ▸ (kk b o e).2) hf (sortedHeap_at hp)
end
section
variable {K : PySem.W.Frag} {H : Hp}
theorem rv_keyD {av : Addr → Prop} {μ : List Addr} (k : Key) : RV K av μ H (keyD k) (kV k) := by
  cases k with
  | inl i => exact rv_int.mpr rfl
  | inr s => exact rv_str.mpr rfl
theorem rvl_keyDs {av : Addr → Prop} {μ : List Addr} : ∀ ks : List Key, RVL K av μ H (ks.map keyD) (ks.map kV)
  | [] => RVL.nil'
  | k :: ks => RVL.cons' (rv_keyD k) (rvl_keyDs ks)
theorem rvl_dK {av : Addr → Prop} {μ : List Addr} (kvs : List (Key × V)) : RVL K av μ H (dicKs kvs) (kvs.map fun kv => kV kv.1) := by
  have := rvl_keyDs (K := K) (H := H) (av := av) (μ := μ) (kvs.map (·.1))
  rw [List.map_map, List.map_map] at this
  exact this
theorem rvl_dT {av : Addr → Prop} {μ : List Addr} {kvs : List (List Key × V)} {bs : List Addr} (r : IsKeys H kvs bs) : RVL K av μ H (dicKsT kvs) (bs.map V.ref) := by
  unfold IsKeys at r
  induction r with
  | nil => exact RVL.nil'
  | cons h t ih => exact RVL.cons' (rv_tup.mpr ⟨_, _, rfl, h, rvl_keyDs _⟩) ih
end
section
open PyProof.Rows
variable {X : Cx}
/-- what the dict at a tells, one key behind another, when it is gone through -/
theorem keys_col {pins : List (Addr × Obj)} {σ : L2.St} {H : Hp} {s : Shared} {a : Addr} {ks : List D} (hc : X.calm = true) (I : Inv X pins σ H s)
    (hd : (∃ kvs, H a = some (.dK kvs) ∧ ks = dicKs kvs) ∨ ∃ kvs, H a = some (.dT kvs) ∧ ks = dicKsT kvs) :
    ∃ xs : List V, (∀ (av : Addr → Prop) (μ : List Addr), RVL X.K av μ H ks xs) ∧ xs.length ≤ sizeLine ∧
    ∀ (R : List Value → Shared → Prop) (E : Value → Shared → Prop), (∀ vs h' tk, (∀ b o, s.heap.get? b = some o → h'.get? b = some o) → Vals xs vs → R vs { s with heap := h', toks := tk }) → wpAny (model X.prog X.w) X.A.in1 (collect (.ref a)) R E s := by
  rcases hd with ⟨kvs, hk, rfl⟩ | ⟨kvs, hk, rfl⟩
  · obtain ⟨z, lo, vs, rk, hd⟩ := (show ObjOk X.prog X.w H s.heap a (.dK kvs) from I.hok a _ hk)
    obtain ⟨ep, hat⟩ := hd.dictAt
    have hl : kvs.length = vs.length := Paired.length rk
    refine ⟨kvs.map fun kv => kV kv.1, fun av μ => rvl_dK kvs, by rw [List.length_map]; exact z, fun R E h => ?_⟩
    refine PySem.W.kdu_collect (A := X.A.in1) (PySem.W.kdl_dict (knd := mixKind X.prog X.w) (kvs := vs) (ep := ep) lo) (I.ok.hd hc) hat (by rw [← hl]; exact z) fun h' tk acc hkeep hacc => ?_
    refine h _ _ _ hkeep ?_
    have el : acc.toList.length = acc.size := by simp
    refine vals_of_at (by rw [List.length_map, el, hacc.1, hl]) fun j x w h1 h2 => ?_
    obtain ⟨k, y, hky, hi⟩ := hacc.2 j w (by rw [← Array.getElem?_toList]; exact h2)
    have e1 : (kvs.map (·.1))[j]? = some k := by
      rw [KV.keys rk, List.getElem?_map, hky]; rfl
    have e2 : (kvs.map fun kv => kV kv.1)[j]? = some (kV k) := by
      have e3 : (kvs.map fun kv => kV kv.1) = (kvs.map (·.1)).map kV := by rw [List.map_map]; rfl
      rw [e3, List.getElem?_map, e1]; rfl
    rw [e2] at h1
    cases h1
    exact keyIs_rel hi
  · obtain ⟨z, hs, ks, pr, o, es, ep, ho, hx, hdt, he, hn⟩ := (show ObjOk X.prog X.w H s.heap a (.dT kvs) from I.hok a _ hk)
    have l1 : es.size = ks.length := size_of_entries he
    have l2 : kvs.length = ks.length := Paired.length pr
    refine ⟨(ks.map fun x => x.2.1).map V.ref, fun av μ => rvl_dT (isKeys_of pr), by rw [List.length_map, List.length_map]; omega, fun R E h => ?_⟩
    refine PySem.W.kdu_collect (A := X.A.in1) (kdl_raw hs hx hdt) (I.ok.hd hc) ho (by omega) fun h' tk acc kp it => ?_
    refine h _ _ _ kp ?_
    have ea : acc.toList = ks.map fun x => Value.ref x.2.1 := by
      have hl : acc.toList.length = ks.length := by rw [Array.length_toList, it.1]; exact l1
      apply List.ext_getElem?
      intro j
      rw [List.getElem?_map]
      cases hj : acc.toList[j]? with
      | none =>
        have h1 := List.getElem?_eq_none_iff.mp hj
        rw [List.getElem?_eq_none (by omega)]
        rfl
      | some v =>
        obtain ⟨en, hen, hv⟩ := it.2 j v (by rw [← Array.getElem?_toList]; exact hj)
        have qe := entry_at he j
        rw [hen] at qe
        cases hb : ks[j]? with
        | none =>
          rw [hb] at qe
          exact nomatch (show some en = none from qe)
        | some b =>
          rw [hb] at qe
          have e2 : en = entryOfKey (tupleKind (mixKind X.prog X.w)) b := Option.some.inj qe
          rw [hv, e2]
          rfl
    have eb : acc.toList = (ks.map fun x => x.2.1).map Value.ref := by rw [ea, List.map_map]; rfl
    rw [eb]
    exact vals_refs _
def rSortK (K : PySem.W.Frag) : List V → Hp → VK → Prop := fun vs H Q => ∃ (a : Addr) (ks : List D), vs = [.ref a] ∧ ((∃ kvs, H a = some (.dK kvs) ∧ ks = dicKs kvs) ∨ ∃ kvs, H a = some (.dT kvs) ∧ ks = dicKsT kvs) ∧ gdS ks = true ∧
  ∀ (l' : List (V × D)) q, l'.map (·.2) = sortD ks → (∀ (av : Addr → Prop) (μ : List Addr), RVL K av μ H (l'.map (·.2)) (l'.map (·.1))) → H q = none → Q (.ref q) (upd H q (.lst (l'.map (·.1))))
theorem cr_sortK (hc : X.calm = true) (hu : X.A.units + 64 < cLine) : CallR X (.builtin "sorted") (rSortK X.K) := by
  intro pins s σ H vs us Q I r h
  obtain ⟨a, ks, rfl, hs, hg, q⟩ := h
  rw [Vals.ref1 r]
  obtain ⟨xs, hr, hz0, col⟩ := keys_col hc I hs
  have hg' := hg
  simp only [gdS, Bool.and_eq_true] at hg'
  have ok : okDs 60 ks = true := hg'.1.1
  have rl := hr (fun _ => False) []
  obtain ⟨y1, y2, y3⟩ := rvl_zip rl
  have hal : AlkAll (toPs ks) := by
    rw [toPs_map]
    intro x hx y hy
    obtain ⟨x', hx', rfl⟩ := List.mem_map.mp hx
    obtain ⟨y', hy', rfl⟩ := List.mem_map.mp hy
    exact gdS_alk hg _ hx' _ hy'
  have hnn : ∀ x ∈ toPs ks, x ≠ .none := by
    rw [toPs_map]
    intro x hx
    obtain ⟨x', hx', rfl⟩ := List.mem_map.mp hx
    have := List.all_eq_true.mp hg'.1.2 x' hx'
    have k := okDs_mem ok hx'
    cases x' <;> simp [isNon] at this <;> simp [toP]
  have hdep := (okDs_lay 60 _ ok).2
  have huu : X.A.in1.in1.units + PyData.depthAll (toPs ks) < cLine := by
    show X.A.units + 1 + 1 + _ < _
    omega
  have hd : DpAll X.K H xs (toPs ks) := dps_of _ _ _ ok rl
  have reads : ∀ its, Vals xs its → ∃ as, ReadsAll s.heap its (toPs ks) as := fun its rv => Dp.readsAll I _ _ _ hd rv
  refine sorted_col (Pv := Vals xs) (ltv := fun v u => PySem.W.dataLt (rdV s.heap (toPs ks) v) (rdV s.heap (toPs ks) u)) ⟨fun x y => swo_data.asym _ _, fun x y z => swo_data.tr _ _ _⟩ (fun R h => col R _ h) (fun vs rv => by rw [← rv.length]; exact hz0) (fun vs rv h2 h₁ tk a' kk => ?_) fun its rv out hs hb h' tk p keep hf he => ?_
  · obtain ⟨as, ra⟩ := reads vs rv
    exact data_sortable (s := { s with heap := h₁, toks := tk }) ra kk hal hnn huu h2
  · obtain ⟨as, ra⟩ := reads its rv
    have rv' : Vals ((xs.zip ks).map (·.1)) its := by rw [y1]; exact rv
    have ra' : ReadsAll s.heap its (toPs ((xs.zip ks).map (·.2))) as := by rw [y2]; exact ra
    obtain ⟨z1, z2, z3⟩ := zipR rv' ra'
    obtain ⟨m', pm, eo⟩ := perm_map_inv (fun p : Value × (V × D) => p.1) hb.perm (its.zip (xs.zip ks)) z1.symm
    have hm : ∀ p ∈ m', RelV p.2.1 p.1 ∧ ∃ bs, Reads s.heap p.1 (toP p.2.2) bs := fun p hp => z3 p (pm.mem_iff.mp hp)
    have pl : (m'.map (·.2)).Perm (xs.zip ks) := by
      have := pm.map (·.2)
      rwa [z2] at this
    have hn := hok_none I.hok hf
    subst eo
    have hv' := valsR fun p hp => (hm p hp).1
    obtain ⟨ep, he⟩ := he
    have hz' : ((m'.map (·.2)).map (·.1)).length ≤ sizeLine := by
      rw [List.length_map, pl.length_eq]
      have : (xs.zip ks).length = xs.length := by
        have := congrArg List.length y1
        simpa using this
      rw [this]
      exact hz0
    have pw := pwR hal (fun x hx => ⟨by
      rw [toPs_map]
      have hx2 : x.2 ∈ xs.zip ks := pl.mem_iff.mp (List.mem_map_of_mem (f := fun p : Value × (V × D) => p.2) hx)
      have : x.2.2 ∈ ks := by
        rw [← y2]
        exact List.mem_map_of_mem (f := fun p : V × D => p.2) hx2
      exact List.mem_map_of_mem (f := toP) this, (hm x hx).2⟩) hs
    have es : (m'.map (·.2)).map (·.2) = sortD ks := sortD_uniq hg (by have := pl.map (·.2); rwa [y2] at this) (List.pairwise_map.mpr pw)
    refine ⟨.ref p, upd H p (.lst ((m'.map (·.2)).map (·.1))), I.laidN (t' := tk) keep hf hn ⟨hz', _, ep, hv', he⟩, rfl, q _ p es (fun av μ => ?_) hn⟩
    obtain ⟨_, _, w3⟩ := rvl_zip (hr av μ)
    exact rvl_unzip fun p m => w3 p (pl.mem_iff.mp m)
end
/-- the keys, sorted -/
def cSortedK : Sto → List D → Option (List D) := fun S ds => match ds with
  | [x] => (dicD S x).bind fun p => if gdS p.2.1 then some (sortD p.2.1) else none
  | _ => none
theorem cf_sortedK {K : PySem.W.Frag} : CallF K (rSortK K) cSortedK := by
  intro Z μ H S ds es vs Q W r e q
  unfold cSortedK at e
  split at e
  · rw [Option.bind_eq_some_iff] at e
    obtain ⟨⟨t, ks, ws⟩, e1, e2⟩ := e
    split at e2
    · rename_i hg
      cases e2
      obtain ⟨v, rfl, rx⟩ := rvl1 r
      obtain ⟨a, rfl, h⟩ := dic_of W rx e1
      refine ⟨a, ks, rfl, ?_, hg, fun l' p es rl hn => ?_⟩
      · rcases h with ⟨_, kvs, h1, h2, _⟩ | ⟨_, kvs, h1, h2, _⟩
        · exact .inl ⟨kvs, h1, h2⟩
        · exact .inr ⟨kvs, h1, h2⟩
      · have s : Same H (upd H p (.lst (l'.map (·.1)))) := fun c o z => by rw [upd_ne (ne_of_none z hn)]; exact z
        refine q p _ _ hn s upd_same (RVL.newO s hn ?_)
        show RVL K _ μ H (sortD ks) _
        rw [← es]
        exact rl _ _
    · cases e2
  · cases e
end DL

set_option maxHeartbeats 4000000
namespace DL
open PySem PySem.Spec L2

/-! ### plain: the mirrors' own steps -/
section
variable {ρ : Rho} {S : Sto}
@[simp] theorem x_eV (i : Nat) : eV i ρ S = (ρ[i]?).bind id := (rfl)
@[simp] theorem x_eC (d : D) : eC d ρ S = some d := (rfl)
@[simp] theorem x_e1 (g : Sto → D → Option D) (a : E) : e1 g a ρ S = (a ρ S).bind fun x => g S x := (rfl)
@[simp] theorem x_e2 (g : Sto → D → D → Option D) (a b : E) : e2 g a b ρ S = (a ρ S).bind fun x => (b ρ S).bind fun y => g S x y := (rfl)
@[simp] theorem x_f2 (g : Sto → D → D → Option (List D)) (a b : E) : f2 g a b ρ S = (a ρ S).bind fun x => (b ρ S).bind fun y => g S x y := (rfl)
def asB : D → Option Bool
  | .bl b => some b
  | _ => none
@[simp] theorem asB_bl (b : Bool) : asB (.bl b) = some b := (rfl)
@[simp] theorem x_eB (f : E) : eB f ρ S = (f ρ S).bind asB := (rfl)
def and2 (z : D) (k : Option D) : Option D := match z with
  | .bl true => k
  | .bl false => some (.bl false)
  | _ => none
theorem and2_bl (b : Bool) (k : Option D) : and2 (.bl b) k = if b then k else some (.bl false) := by cases b <;> rfl
@[simp] theorem and2_bb (b c : Bool) : and2 (.bl b) (some (.bl c)) = some (.bl (b && c)) := by cases b <;> rfl
@[simp] theorem and2_t (k : Option D) : and2 (.bl true) k = k := (rfl)
@[simp] theorem and2_f (k : Option D) : and2 (.bl false) k = some (.bl false) := (rfl)
def or2 (z : D) (k : Option D) : Option D := match z with
  | .bl true => some (.bl true)
  | .bl false => k
  | _ => none
theorem or2_bl (b : Bool) (k : Option D) : or2 (.bl b) k = if b then some (.bl true) else k := by cases b <;> rfl
@[simp] theorem or2_bb (b c : Bool) : or2 (.bl b) (some (.bl c)) = some (.bl (b || c)) := by cases b <;> rfl
@[simp] theorem or2_t (k : Option D) : or2 (.bl true) k = some (.bl true) := (rfl)
@[simp] theorem or2_f (k : Option D) : or2 (.bl false) k = k := (rfl)
@[simp] theorem x_e3c (g g' : Sto → D → D → Option D) (a b c : E) : e3c g g' a b c ρ S = (a ρ S).bind fun x => (b ρ S).bind fun y => (g S x y).bind fun z => and2 z ((c ρ S).bind fun w => g' S y w) := by
  unfold e3c and2
  rfl
@[simp] theorem x_eTru (f : E) : eTru f ρ S = (f ρ S).bind fun d => truD S d := (rfl)
def andB (c : Bool) (k : Option Bool) : Option Bool := if c then k else some false
def orB (c : Bool) (k : Option Bool) : Option Bool := if c then some true else k
@[simp] theorem andB_bb (b c : Bool) : andB b (some c) = some (b && c) := by cases b <;> rfl
@[simp] theorem andB_t (k : Option Bool) : andB true k = k := (rfl)
@[simp] theorem andB_f (k : Option Bool) : andB false k = some false := (rfl)
@[simp] theorem orB_bb (b c : Bool) : orB b (some c) = some (b || c) := by cases b <;> rfl
@[simp] theorem orB_t (k : Option Bool) : orB true k = some true := (rfl)
@[simp] theorem orB_f (k : Option Bool) : orB false k = k := (rfl)
@[simp] theorem x_bAnd (t u : EB) : bAnd t u ρ S = (t ρ S).bind fun c => andB c (u ρ S) := (rfl)
@[simp] theorem x_bOr (t u : EB) : bOr t u ρ S = (t ρ S).bind fun c => orB c (u ρ S) := (rfl)
@[simp] theorem x_bNot (t : EB) : bNot t ρ S = (t ρ S).map fun c => !c := (rfl)
@[simp] theorem x_eAnd (f g : E) : eAnd f g ρ S = (f ρ S).bind fun d => and2 d (g ρ S) := (rfl)
@[simp] theorem x_eOr (f g : E) : eOr f g ρ S = (f ρ S).bind fun d => or2 d (g ρ S) := (rfl)
@[simp] theorem x_eNot (f : E) : eNot f ρ S = (f ρ S).bind fun d => (asB d).map fun b => .bl (!b) := by
  unfold eNot asB
  congr 1
  funext d
  cases d <;> rfl
@[simp] theorem x_eIf (t : EB) (f g : E) : eIf t f g ρ S = (t ρ S).bind fun c => if c then f ρ S else g ρ S := (rfl)
@[simp] theorem x_fIf (t : EB) (f g : EL) : fIf t f g ρ S = (t ρ S).bind fun c => if c then f ρ S else g ρ S := (rfl)
@[simp] theorem x_aNil : aNil ρ S = some [] := (rfl)
@[simp] theorem x_aCons (f : E) (fs : EL) : aCons f fs ρ S = (f ρ S).bind fun d => (fs ρ S).map fun ds => d :: ds := (rfl)
def mkT (ds : List D) : Option D := if small ds.length then some (.tup ds) else none
def mkL (ds : List D) : Option (List D) := if small ds.length then some ds else none
@[simp] theorem x_eTup (fs : EL) : eTup fs ρ S = (fs ρ S).bind mkT := (rfl)
@[simp] theorem x_fLst (fs : EL) : fLst fs ρ S = (fs ρ S).bind mkL := (rfl)
theorem mkT_ok {ds : List D} (h : ds.length ≤ 1000000) : mkT ds = some (.tup ds) := if_pos (decide_eq_true h)
theorem mkL_ok {ds : List D} (h : ds.length ≤ 1000000) : mkL ds = some ds := if_pos (decide_eq_true h)
@[simp] theorem mkT_0 : mkT [] = some (.tup []) := (rfl)
@[simp] theorem mkT_1 (a : D) : mkT [a] = some (.tup [a]) := mkT_ok (by simp)
@[simp] theorem mkT_2 (a b : D) : mkT [a, b] = some (.tup [a, b]) := mkT_ok (by simp)
@[simp] theorem mkT_3 (a b c : D) : mkT [a, b, c] = some (.tup [a, b, c]) := mkT_ok (by simp)
@[simp] theorem mkT_4 (a b c d : D) : mkT [a, b, c, d] = some (.tup [a, b, c, d]) := mkT_ok (by simp)
@[simp] theorem mkL_0 : mkL [] = some [] := (rfl)
@[simp] theorem mkL_1 (a : D) : mkL [a] = some [a] := mkL_ok (by simp)
@[simp] theorem mkL_2 (a b : D) : mkL [a, b] = some [a, b] := mkL_ok (by simp)
@[simp] theorem mkL_3 (a b c : D) : mkL [a, b, c] = some [a, b, c] := mkL_ok (by simp)
@[simp] theorem x_eF (f : EL) : eF f ρ S = (f ρ S).map .lst := (rfl)
@[simp] theorem x_eCall (g : Sto → List D → Option D) (fs : EL) : eCall g fs ρ S = (fs ρ S).bind fun ds => g S ds := (rfl)
@[simp] theorem x_fCall (g : Sto → List D → Option (List D)) (fs : EL) : fCall g fs ρ S = (fs ρ S).bind fun ds => g S ds := (rfl)
def runA (S : Sto) (g : List D → Option D) (ds : List D) : Option D := if nrs ds then g ds else (fzs S ds).bind fun es => (g es).bind fun r => if imm r then some r else none
def runAF (S : Sto) (g : List D → Option (List D)) (ds : List D) : Option (List D) := if nrs ds then g ds else (fzs S ds).bind fun es => (g es).bind fun r => if imms r then some r else none
@[simp] theorem x_eFn (g : List D → Option D) (fs : EL) : eFn g fs ρ S = (fs ρ S).bind (runA S g) := (rfl)
@[simp] theorem x_fFn (g : List D → Option (List D)) (fs : EL) : fFn g fs ρ S = (fs ρ S).bind (runAF S g) := (rfl)
@[simp] theorem runA_nr {g : List D → Option D} {ds : List D} (h : nrs ds = true) : runA S g ds = g ds := if_pos h
@[simp] theorem runAF_nr {g : List D → Option (List D)} {ds : List D} (h : nrs ds = true) : runAF S g ds = g ds := if_pos h
@[simp] theorem x_oNone : oNone ρ S = some none := (rfl)
def asI : D → Option (Option Int)
  | .int i => some (some i)
  | _ => none
@[simp] theorem asI_int (i : Int) : asI (.int i) = some (some i) := (rfl)
@[simp] theorem x_oSome (f : E) : oSome f ρ S = (f ρ S).bind asI := (rfl)
def cut3 (S : Sto) (d : D) (l h : Option Int) : Option D := match d with
  | .tup ds => some (.tup (cutD ds l h))
  | d => (lstD S d).map fun ds => .lst (cutD ds l h)
@[simp] theorem cut3_tup (ds : List D) (l h : Option Int) : cut3 S (.tup ds) l h = some (.tup (cutD ds l h)) := (rfl)
@[simp] theorem cut3_lst (ds : List D) (l h : Option Int) : cut3 S (.lst ds) l h = some (.lst (cutD ds l h)) := (rfl)
@[simp] theorem x_eCutA (f : E) (lo hi : EO) : eCutA f lo hi ρ S = (f ρ S).bind fun d => (lo ρ S).bind fun l => (hi ρ S).bind fun h => cut3 S d l h := (rfl)
@[simp] theorem x_fCut (f : E) (lo hi : EO) : fCut f lo hi ρ S = (f ρ S).bind fun d => (lo ρ S).bind fun l => (hi ρ S).bind fun h => (lstD S d).map fun ds => cutD ds l h := (rfl)
@[simp] theorem x_iSeqD (f : E) : iSeqD f ρ S = (f ρ S).bind seqV := (rfl)
@[simp] theorem x_jSeqD (f : E) : jSeqD f ρ S = (f ρ S).bind (seqD S) := (rfl)
@[simp] theorem x_iRng (g : List D → Option (List D)) (fs : EL) : iRng g fs ρ S = (fs ρ S).bind g := (rfl)
def enum1 : List D → Option (List D)
  | [x] => (seqV x).map enumD
  | _ => none
@[simp] theorem enum1_one (x : D) : enum1 [x] = (seqV x).map enumD := (rfl)
@[simp] theorem x_iEnumD (fs : EL) : iEnumD fs ρ S = (fs ρ S).bind enum1 := (rfl)
def zip1 : List D → Option (List D)
  | [x, y] => if isTup x == isTup y then (seqV x).bind fun a => (seqV y).map fun b => zipD a b else none
  | _ => none
@[simp] theorem zip1_tt (x y : List D) : zip1 [.tup x, .tup y] = some (zipD x y) := (rfl)
@[simp] theorem zip1_ll (x y : List D) : zip1 [.lst x, .lst y] = some (zipD x y) := (rfl)
@[simp] theorem x_iZipD (fs : EL) : iZipD fs ρ S = (fs ρ S).bind zip1 := (rfl)
@[simp] theorem x_fComp (f : EL) (vs : List Nat) (g : G) (t : EB) (e : E) : fComp f vs g t e ρ S = (f ρ S).bind fun ds => (compL g t e (wipeR ρ vs) S ds).bind mkL := (rfl)
@[simp] theorem x_bYes : bYes ρ S = some true := (rfl)
@[simp] theorem x_wipe0 : wipeR ρ [] = ρ := (rfl)
@[simp] theorem x_wipe1 (v : Nat) (vs : List Nat) : wipeR ρ (v :: vs) = (wipeR ρ vs).set v none := (rfl)
@[simp] theorem x_gN (i : Nat) (d : D) : gN i d ρ = some (ρ.set i (some d)) := (rfl)
@[simp] theorem x_gT (n : Nat) (gs : Gs) (ds : List D) : gT n gs (.tup ds) ρ = if ds.length = n then gs ds ρ else none := (rfl)
@[simp] theorem x_gNil : gNil [] ρ = some ρ := (rfl)
@[simp] theorem x_gCons (g : G) (gs : Gs) (d : D) (ds : List D) : gCons g gs (d :: ds) ρ = (g d ρ).bind fun ρ' => gs ds ρ' := (rfl)
-- statements
@[simp] theorem x_sSkip : sSkip ρ S = some (.nx, ρ, S) := (rfl)
@[simp] theorem x_sBrk : sBrk ρ S = some (.bk, ρ, S) := (rfl)
@[simp] theorem x_sCnt : sCnt ρ S = some (.ct, ρ, S) := (rfl)
@[simp] theorem x_sNever : sNever ρ S = none := (rfl)
def nxt (g : T) (r : Fl × Rho × Sto) : Option (Fl × Rho × Sto) := match r with
  | (.nx, ρ', S') => g ρ' S'
  | r => some r
@[simp] theorem nxt_nx (g : T) : nxt g (.nx, ρ, S) = g ρ S := (rfl)
@[simp] theorem nxt_bk (g : T) : nxt g (.bk, ρ, S) = some (.bk, ρ, S) := (rfl)
@[simp] theorem nxt_ct (g : T) : nxt g (.ct, ρ, S) = some (.ct, ρ, S) := (rfl)
@[simp] theorem nxt_rt (g : T) (d : D) : nxt g (.rt d, ρ, S) = some (.rt d, ρ, S) := (rfl)
@[simp] theorem nxt_rf (g : T) (d : List D) : nxt g (.rf d, ρ, S) = some (.rf d, ρ, S) := (rfl)
@[simp] theorem x_sSeq (f g : T) : sSeq f g ρ S = (f ρ S).bind (nxt g) := (rfl)
@[simp] theorem x_sSet (i : Nat) (f : E) : sSet i f ρ S = (f ρ S).map fun d => (.nx, ρ.set i (some d), S) := (rfl)
@[simp] theorem x_sNew (i : Nat) (f : EL) : sNew i f ρ S = (f ρ S).map fun ds => (.nx, ρ.set i (some (.ref S.length)), S ++ [.lst ds]) := (rfl)
@[simp] theorem x_sDrop (f : E) : sDrop f ρ S = (f ρ S).map fun _ => (.nx, ρ, S) := (rfl)
@[simp] theorem x_sRet (f : E) : sRet f ρ S = (f ρ S).map fun d => (.rt d, ρ, S) := (rfl)
@[simp] theorem x_sRetF (f : EL) : sRetF f ρ S = (f ρ S).map fun d => (.rf d, ρ, S) := (rfl)
@[simp] theorem x_sIf (t : EB) (f g : T) : sIf t f g ρ S = (t ρ S).bind fun b => if b then f ρ S else g ρ S := (rfl)
@[simp] theorem x_sFor (f : EL) (g : G) (body : T) : sFor f g body ρ S = (f ρ S).bind fun ds => loopL g body ds ρ S := (rfl)
@[simp] theorem x_sAsg (f : E) (g : G) : sAsg f g ρ S = (f ρ S).bind fun d => (g d ρ).map fun ρ' => (.nx, ρ', S) := (rfl)
def par2 (i j : Nat) (ρ : Rho) (S : Sto) : List D → Option (Fl × Rho × Sto)
  | [d, e] => some (.nx, (ρ.set i (some d)).set j (some e), S)
  | _ => none
@[simp] theorem par2_2 (i j : Nat) (d e : D) : par2 i j ρ S [d, e] = some (.nx, (ρ.set i (some d)).set j (some e), S) := (rfl)
@[simp] theorem x_sPar (i j : Nat) (fs : EL) : sPar i j fs ρ S = (fs ρ S).bind (par2 i j ρ S) := by
  unfold sPar par2
  rfl
def aug2 (o : Option (Option D)) (d : D) : Option D := match o, d with
  | some (some (.int a)), .int b => some (.int (a + b))
  | _, _ => none
@[simp] theorem aug2_int (a b : Int) : aug2 (some (some (.int a))) (.int b) = some (.int (a + b)) := (rfl)
@[simp] theorem x_sAugI (i : Nat) (f : E) : sAugI i f ρ S = (f ρ S).bind fun d => (aug2 ρ[i]? d).map fun c => (.nx, ρ.set i (some c), S) := by
  unfold sAugI
  congr 1
  funext d
  generalize ρ[i]? = o
  cases o with
  | none => rfl
  | some o =>
    cases o with
    | none => rfl
    | some e => cases e <;> cases d <;> rfl
@[simp] theorem x_sApp (fo f : E) : sApp fo f ρ S = (fo ρ S).bind fun o => (f ρ S).bind fun d => (cellD S o).bind fun c => if small c.2.length then some (.nx, ρ, S.set c.1 (.lst (c.2 ++ [d]))) else none := (rfl)
@[simp] theorem x_sExt (fo f : E) : sExt fo f ρ S = (fo ρ S).bind fun o => (f ρ S).bind fun d => (lstD S d).bind fun es => (cellD S o).bind fun c => if small (c.2.length + es.length) then some (.nx, ρ, S.set c.1 (.lst (c.2 ++ es))) else none := (rfl)
end
end DL

set_option maxHeartbeats 4000000
namespace DL
open PySem PySem.Spec L2

/-! ### plain: operators at data -/
section
variable {ρ : Rho} {S : Sto}
@[simp] theorem small_eq (n : Nat) : small n = decide (n ≤ 1000000) := (rfl)
@[simp] theorem y_addI (i j : Int) : gAddA S (.int i) (.int j) = some (.int (i + j)) := (rfl)
theorem y_addT {a b : List D} (h : a.length + b.length ≤ 1000000) : gAddA S (.tup a) (.tup b) = some (.tup (a ++ b)) := if_pos (decide_eq_true h)
theorem y_addL {a b : List D} (h : a.length + b.length ≤ 1000000) : gAddA S (.lst a) (.lst b) = some (.lst (a ++ b)) := by
  simp [gAddA, gCatF, lstD, h]
@[simp] theorem y_sub (i j : Int) : gSub S (.int i) (.int j) = some (.int (i - j)) := (rfl)
theorem y_mul {i j : Int} (h : cMul i j = true) : gMulA S (.int i) (.int j) = some (.int (i * j)) := if_pos h
@[simp] theorem y_mulG (i j : Int) : gMulA S (.int i) (.int j) = if cMul i j then some (.int (i * j)) else none := (rfl)
@[simp] theorem cMul_r {i j : Int} (h : j.natAbs < 18446744073709551616) : cMul i j = true := by
  unfold cMul
  rw [Bool.or_eq_true]
  exact .inr (Nat.ble_eq_true_of_le h)
@[simp] theorem cMul_l {i j : Int} (h : i.natAbs < 18446744073709551616) : cMul i j = true := by
  unfold cMul
  rw [Bool.or_eq_true]
  exact .inl (Nat.ble_eq_true_of_le h)
@[simp] theorem y_mod (i j : Int) : gI (fun _ j => decide (0 < j)) (fun i j => i % j) S (.int i) (.int j) = if 0 < j then some (.int (i % j)) else none := by
  simp [gI]
@[simp] theorem y_div (i j : Int) : gI (fun _ j => decide (0 < j) && decide (j < 1073741824)) (fun i j => i / j) S (.int i) (.int j) = if 0 < j ∧ j < 1073741824 then some (.int (i / j)) else none := by
  simp [gI]
@[simp] theorem y_cmp (p : Int → Int → Bool) (i j : Int) : gCmp p S (.int i) (.int j) = some (.bl (p i j)) := (rfl)
@[simp] theorem y_neg (i : Int) : gNeg S (.int i) = some (.int (-i)) := (rfl)
theorem fo_ok {d : D} (h : okD 60 d = true) : fo S d = some d := if_pos h
theorem y_eq {x y : D} (h1 : okD 60 x = true) (h2 : okD 60 y = true) : gEq S x y = some (.bl (eqD x y)) := by
  simp [gEq, fo_ok h1, fo_ok h2]
theorem y_ne {x y : D} (h1 : okD 60 x = true) (h2 : okD 60 y = true) : gNe S x y = some (.bl (!eqD x y)) := by
  simp [gNe, fo_ok h1, fo_ok h2]
@[simp] theorem ok_int (n : Nat) (i : Int) : okD n (.int i) = true := by cases n <;> rfl
@[simp] theorem ok_bl (n : Nat) (i : Bool) : okD n (.bl i) = true := by cases n <;> rfl
@[simp] theorem ok_non (n : Nat) : okD n .non = true := by cases n <;> rfl
@[simp] theorem ok_tup (n : Nat) (ds : List D) : okD (n + 1) (.tup ds) = okDs n ds := (rfl)
@[simp] theorem ok_lst (n : Nat) (ds : List D) : okD (n + 1) (.lst ds) = okDs n ds := (rfl)
@[simp] theorem oks_nil (n : Nat) : okDs n [] = true := by cases n <;> rfl
@[simp] theorem oks_cons (n : Nat) (d : D) (ds : List D) : okDs n (d :: ds) = (okD n d && okDs n ds) := by cases n <;> rfl
@[simp] theorem oks_app (n : Nat) (a b : List D) : okDs n (a ++ b) = (okDs n a && okDs n b) := by
  induction a with
  | nil => simp
  | cons x a ih => simp [ih, Bool.and_assoc]
theorem oks_all {n : Nat} {ds : List D} : okDs n ds = true ↔ ∀ d ∈ ds, okD n d = true := by
  induction ds with
  | nil => simp
  | cons x a ih => simp [ih]
@[simp] theorem y_eqI (i j : Int) : gEq S (.int i) (.int j) = some (.bl (decide (i = j))) := by
  rw [y_eq (by simp) (by simp)]
  simp only [eqD]
  congr 2
@[simp] theorem y_neI (i j : Int) : gNe S (.int i) (.int j) = some (.bl (!decide (i = j))) := by
  rw [y_ne (by simp) (by simp)]
  simp only [eqD]
  congr 2
@[simp] theorem y_eqB (i j : Bool) : gEq S (.bl i) (.bl j) = some (.bl (i == j)) := by
  rw [y_eq (by simp) (by simp)]
  rfl
@[simp] theorem y_isN (neg : Bool) : gIsN neg S .non .non = some (.bl (!neg)) := (rfl)
@[simp] theorem y_isN_int (neg : Bool) (i : Int) : gIsN neg S (.int i) .non = some (.bl neg) := (rfl)
@[simp] theorem y_isN_bl (neg : Bool) (i : Bool) : gIsN neg S (.bl i) .non = some (.bl neg) := (rfl)
@[simp] theorem y_isN_tup (neg : Bool) (i : List D) : gIsN neg S (.tup i) .non = some (.bl neg) := (rfl)
@[simp] theorem y_isN_lst (neg : Bool) (i : List D) : gIsN neg S (.lst i) .non = some (.bl neg) := (rfl)
@[simp] theorem y_isN_str (neg : Bool) (i : Str) : gIsN neg S (.str i) .non = some (.bl neg) := (rfl)
@[simp] theorem y_isB (neg : Bool) (a b : Bool) : gIsB neg S (.bl a) (.bl b) = some (.bl (if a == b then !neg else neg)) := (rfl)
-- sequences
@[simp] theorem q_tup (ds : List D) : seqD S (.tup ds) = some ds := (rfl)
@[simp] theorem q_lst (ds : List D) : seqD S (.lst ds) = some ds := (rfl)
@[simp] theorem q_scr (ds : List Int) : seqD S (.scr ds) = some (ds.map .int) := (rfl)
theorem q_ref {n : Nat} {ds : List D} (h : S[n]? = some (.lst ds)) : seqD S (.ref n) = some ds := by simp only [seqD, h]
@[simp] theorem qv_tup (ds : List D) : seqV (.tup ds) = some ds := (rfl)
@[simp] theorem qv_lst (ds : List D) : seqV (.lst ds) = some ds := (rfl)
@[simp] theorem ql_lst (ds : List D) : lstD S (.lst ds) = some ds := (rfl)
theorem ql_ref {n : Nat} {ds : List D} (h : S[n]? = some (.lst ds)) : lstD S (.ref n) = some ds := by simp only [lstD, h]
theorem qc_ref {n : Nat} {ds : List D} (h : S[n]? = some (.lst ds)) : cellD S (.ref n) = some (n, ds) := by simp only [cellD, h]
@[simp] theorem q_ref0 (ds : List D) (T : Sto) : seqD (.lst ds :: T) (.ref 0) = some ds := (rfl)
@[simp] theorem ql_ref0 (ds : List D) (T : Sto) : lstD (.lst ds :: T) (.ref 0) = some ds := (rfl)
@[simp] theorem qc_ref0 (ds : List D) (T : Sto) : cellD (.lst ds :: T) (.ref 0) = some (0, ds) := (rfl)
@[simp] theorem q_ref1 (c : Cell) (ds : List D) (T : Sto) : seqD (c :: .lst ds :: T) (.ref 1) = some ds := (rfl)
@[simp] theorem ql_ref1 (c : Cell) (ds : List D) (T : Sto) : lstD (c :: .lst ds :: T) (.ref 1) = some ds := (rfl)
@[simp] theorem qc_ref1 (c : Cell) (ds : List D) (T : Sto) : cellD (c :: .lst ds :: T) (.ref 1) = some (1, ds) := (rfl)
@[simp] theorem q_ref2 (c c2 : Cell) (ds : List D) (T : Sto) : seqD (c :: c2 :: .lst ds :: T) (.ref 2) = some ds := (rfl)
@[simp] theorem ql_ref2 (c c2 : Cell) (ds : List D) (T : Sto) : lstD (c :: c2 :: .lst ds :: T) (.ref 2) = some ds := (rfl)
@[simp] theorem qc_ref2 (c c2 : Cell) (ds : List D) (T : Sto) : cellD (c :: c2 :: .lst ds :: T) (.ref 2) = some (2, ds) := (rfl)
-- truth
@[simp] theorem t_non : truD S .non = some false := (rfl)
@[simp] theorem t_bl (b : Bool) : truD S (.bl b) = some b := (rfl)
@[simp] theorem t_int (i : Int) : truD S (.int i) = some (i != 0) := (rfl)
@[simp] theorem t_tup (ds : List D) : truD S (.tup ds) = some (!ds.isEmpty) := (rfl)
@[simp] theorem t_lst (ds : List D) : truD S (.lst ds) = some (!ds.isEmpty) := (rfl)
theorem t_ref {n : Nat} {ds : List D} (h : S[n]? = some (.lst ds)) : truD S (.ref n) = some (!ds.isEmpty) := by simp [truD, seqD, h]
-- places
@[simp] theorem y_ix (x : D) (i : Int) : gIx S x (.int i) = (seqD S x).bind fun ds => atI ds i := (rfl)
theorem atI_nat {α : Type} (ds : List α) (k : Nat) : atI ds (k : Int) = ds[k]? := by
  unfold atI ixN
  rw [if_pos (by omega)]
  by_cases h : k < ds.length
  · rw [if_pos (by omega)]
    simp
  · rw [if_neg (by omega)]
    simp [List.getElem?_eq_none (by omega : ds.length ≤ k)]
@[simp] theorem atI_0 {α : Type} (a : α) (l : List α) : atI (a :: l) 0 = some a := atI_nat (a :: l) 0
@[simp] theorem atI_1 {α : Type} (a b : α) (l : List α) : atI (a :: b :: l) 1 = some b := atI_nat (a :: b :: l) 1
@[simp] theorem atI_2 {α : Type} (a b c : α) (l : List α) : atI (a :: b :: c :: l) 2 = some c := atI_nat (a :: b :: c :: l) 2
@[simp] theorem atI_3 {α : Type} (a b c d : α) (l : List α) : atI (a :: b :: c :: d :: l) 3 = some d := atI_nat (a :: b :: c :: d :: l) 3
@[simp] theorem atI_4 {α : Type} (a b c d e : α) (l : List α) : atI (a :: b :: c :: d :: e :: l) 4 = some e := atI_nat (a :: b :: c :: d :: e :: l) 4
theorem atI_neg1 {α : Type} (ds : List α) : atI ds (-1) = ds.getLast? := by
  unfold atI ixN
  rw [if_neg (by decide)]
  cases ds with
  | nil => rfl
  | cons a l =>
    rw [if_pos (by simp; omega)]
    rw [List.getLast?_eq_getElem?]
    have e : (-1 + (((a :: l).length : Nat) : Int)).toNat = (a :: l).length - 1 := by simp only [List.length_cons]; omega
    rw [e]
    rfl
-- built in
@[simp] theorem k_len (x : D) : cLen S [x] = (seqD S x).map fun xs => .int xs.length := (rfl)
@[simp] theorem k_int (i : Int) : cInt S [.int i] = some (.int i) := (rfl)
@[simp] theorem k_intB (i : Bool) : cInt S [.bl i] = some (.int (if i then 1 else 0)) := (rfl)
@[simp] theorem k_abs (i : Int) : cAbs S [.int i] = some (.int (if i < 0 then -i else i)) := (rfl)
@[simp] theorem k_max2 (i j : Int) : cMax2 S [.int i, .int j] = some (.int (if j > i then j else i)) := (rfl)
@[simp] theorem k_tuple (x : D) : cTuple S [x] = (seqD S x).map .tup := (rfl)
@[simp] theorem k_list (x : D) : cList S [x] = seqD S x := (rfl)
theorem k_any {x : D} {bs : List Bool} (h : lstD S x = some (bs.map .bl)) : cAny S [x] = some (.bl (bs.any id)) := by
  simp [cAny, h, boolsD_map]
theorem k_all {x : D} {bs : List Bool} (h : lstD S x = some (bs.map .bl)) : cAll S [x] = some (.bl (bs.all id)) := by
  simp [cAll, h, boolsD_map]
@[simp] theorem k_anyM {α : Type} (f : α → Bool) (l : List α) : cAny S [.lst (l.map fun a => .bl (f a))] = some (.bl (l.any f)) := by
  have e : (l.map fun a => D.bl (f a)) = (l.map f).map .bl := by simp
  rw [e, k_any (bs := l.map f) rfl]
  simp [List.any_map]
@[simp] theorem k_allM {α : Type} (f : α → Bool) (l : List α) : cAll S [.lst (l.map fun a => .bl (f a))] = some (.bl (l.all f)) := by
  have e : (l.map fun a => D.bl (f a)) = (l.map f).map .bl := by simp
  rw [e, k_all (bs := l.map f) rfl]
  simp [List.all_map]
-- what a def is run with
def fin1 (r : Fl × Rho × Sto) : Option D := match r with
  | (.rt d, _, S) => fz S d
  | (.rf es, _, S) => (fzs S es).map .lst
  | (.nx, _, _) => some .non
  | _ => none
@[simp] theorem fin1_nx : fin1 (.nx, ρ, S) = some .non := (rfl)
@[simp] theorem fin1_rt (d : D) : fin1 (.rt d, ρ, S) = fz S d := (rfl)
theorem run_eq (b : T) (n : Nat) (ds : List D) : runD b n ds = (b (startR n ds) []).bind fin1 := by
  unfold runD
  rfl
@[simp] theorem fz_int (i : Int) : fz S (.int i) = some (.int i) := (rfl)
@[simp] theorem fz_bl (i : Bool) : fz S (.bl i) = some (.bl i) := (rfl)
@[simp] theorem fz_non : fz S .non = some .non := (rfl)
@[simp] theorem fz_str (i : Str) : fz S (.str i) = some (.str i) := (rfl)
@[simp] theorem fz_nr {d : D} (h : nr d = true) : fz S d = some d := if_pos h
@[simp] theorem nr_int (i : Int) : nr (.int i) = true := (rfl)
@[simp] theorem nr_bl (i : Bool) : nr (.bl i) = true := (rfl)
@[simp] theorem nr_non : nr .non = true := (rfl)
@[simp] theorem nr_str (i : Str) : nr (.str i) = true := (rfl)
@[simp] theorem nr_ty (i : String) : nr (.ty i) = true := (rfl)
@[simp] theorem nr_scr (i : List Int) : nr (.scr i) = true := (rfl)
@[simp] theorem nr_ref (i : Nat) : nr (.ref i) = false := (rfl)
@[simp] theorem nr_tup (ds : List D) : nr (.tup ds) = nrs ds := (rfl)
@[simp] theorem nr_lst (ds : List D) : nr (.lst ds) = nrs ds := (rfl)
@[simp] theorem nrs_nil : nrs [] = true := (rfl)
@[simp] theorem nrs_cons (d : D) (ds : List D) : nrs (d :: ds) = (nr d && nrs ds) := (rfl)
@[simp] theorem nrs_app (a b : List D) : nrs (a ++ b) = (nrs a && nrs b) := by
  induction a with
  | nil => simp
  | cons x a ih => simp [ih, Bool.and_assoc]
theorem nrs_all {ds : List D} : nrs ds = true ↔ ∀ d ∈ ds, nr d = true := by
  induction ds with
  | nil => simp
  | cons x a ih => simp [ih]
end

/-! ### rows of whole numbers -/
def nD (k : Nat) : D := .int (k : Int)
@[simp] theorem nD_eq (k : Nat) : nD k = .int (k : Int) := (rfl)
@[simp] theorem map_nD (l : List Nat) : (l.map fun x : Nat => D.int (x : Int)) = l.map nD := (rfl)
@[simp] theorem nrs_nD (l : List Nat) : nrs (l.map nD) = true := nrs_all.mpr (by simp)
@[simp] theorem oks_nD (n : Nat) (l : List Nat) : okDs n (l.map nD) = true := oks_all.mpr (by simp)
theorem inD_nD (k : Nat) (l : List Nat) : inD (.int k) (l.map nD) = decide (k ∈ l) := by
  induction l with
  | nil => rfl
  | cons x l ih =>
    unfold inD at ih ⊢
    simp only [List.map_cons, List.any_cons, ih, nD, eqD, List.mem_cons]
    by_cases h : k = x
    · subst h; simp
    · have h' : ¬ ((x : Int) = (k : Int)) := by omega
      simp [h, h']
@[simp] theorem y_inT (neg : Bool) (S : Sto) (k : Nat) (l : List Nat) : gInS neg S (.int k) (.tup (l.map nD)) = some (.bl (if neg then !decide (k ∈ l) else decide (k ∈ l))) := by
  unfold gInS
  rw [fo_ok (by simp), fo_ok (by rw [ok_tup]; simp)]
  simp only [Option.bind_some, inD_nD]
@[simp] theorem y_inL (neg : Bool) (S : Sto) (k : Nat) (l : List Nat) : gInS neg S (.int k) (.lst (l.map nD)) = some (.bl (if neg then !decide (k ∈ l) else decide (k ∈ l))) := by
  unfold gInS
  rw [fo_ok (by simp), fo_ok (by rw [ok_lst]; simp)]
  simp only [Option.bind_some, inD_nD]
theorem eqDs_nD : ∀ (a b : List Nat), eqDs (a.map nD) (b.map nD) = decide (a = b)
  | [], [] => rfl
  | [], _ :: _ => by simp [eqDs]
  | _ :: _, [] => by simp [eqDs]
  | x :: a, y :: b => by
    simp only [List.map_cons, eqDs, eqDs_nD a b, nD, eqD, List.cons.injEq]
    by_cases h : x = y
    · subst h; simp
    · have h' : ¬ ((x : Int) = (y : Int)) := by omega
      simp [h, h']
theorem rngD0 (n : Nat) : rngD 0 1 n = (List.range n).map nD := by
  unfold rngD
  refine List.map_congr_left fun k _ => ?_
  simp
theorem lim62_nat {n : Nat} (h : n ≤ 1000000) : lim62 (n : Int) = true := by
  unfold lim62
  refine Nat.ble_eq_true_of_le ?_
  rw [Int.natAbs_natCast]
  omega
theorem rng1_nat {n : Nat} (h : n ≤ 1000000) : rng1 [.int (n : Int)] = some ((List.range n).map nD) := by
  simp [rng1, lim62_nat h, rngD0]

/-! ### comprehensions, loops -/
theorem compL_map {α : Type} {g : G} {t : EB} {e : E} {ρ : Rho} {S : Sto} (emb : α → D) (p : α → Bool) (f : α → D) : ∀ (xs : List α), (∀ x ∈ xs, ∃ ρ1, g (emb x) ρ = some ρ1 ∧ t ρ1 S = some (p x) ∧ (p x = true → e ρ1 S = some (f x))) →
    compL g t e ρ S (xs.map emb) = some ((xs.filter p).map f)
  | [], _ => rfl
  | x :: xs, h => by
    obtain ⟨ρ1, h1, h2, h3⟩ := h x List.mem_cons_self
    have ih := compL_map emb p f xs fun y m => h y (List.mem_cons_of_mem _ m)
    simp only [List.map_cons, compL, h1, h2, Option.bind_some, ih]
    cases hp : p x with
    | true =>
      rw [if_pos rfl, h3 hp]
      simp [List.filter_cons, hp]
    | false => simp [List.filter_cons, hp]
theorem compL_all {α : Type} {g : G} {e : E} {ρ : Rho} {S : Sto} (emb : α → D) (f : α → D) (xs : List α) (h : ∀ x ∈ xs, ∃ ρ1, g (emb x) ρ = some ρ1 ∧ e ρ1 S = some (f x)) :
    compL g bYes e ρ S (xs.map emb) = some (xs.map f) := by
  have := compL_map (g := g) (t := bYes) (e := e) (ρ := ρ) (S := S) emb (fun _ => true) f xs fun x m => by
    obtain ⟨ρ1, h1, h2⟩ := h x m
    exact ⟨ρ1, h1, rfl, fun _ => h2⟩
  rw [this, List.filter_eq_self.mpr fun _ _ => rfl]
/-- a loop that goes to its end -/
theorem loop_inv {g : G} {body : T} {ds : List D} {ρ : Rho} {S : Sto} (P : Nat → Rho → Sto → Prop) (h0 : P 0 ρ S)
    (step : ∀ i d ρ S, ds[i]? = some d → P i ρ S → ∃ ρ1 ρ2 S2 fl, g d ρ = some ρ1 ∧ body ρ1 S = some (fl, ρ2, S2) ∧ (fl = .nx ∨ fl = .ct) ∧ P (i + 1) ρ2 S2) :
    ∃ ρ' S', loopL g body ds ρ S = some (.nx, ρ', S') ∧ P ds.length ρ' S' := by
  induction ds generalizing ρ S P with
  | nil => exact ⟨ρ, S, rfl, h0⟩
  | cons d ds ih =>
    obtain ⟨ρ1, ρ2, S2, fl, h1, h2, h3, h4⟩ := step 0 d ρ S rfl h0
    obtain ⟨ρ', S', h5, h6⟩ := ih (fun i => P (i + 1)) h4 fun i d ρ S e p => step (i + 1) d ρ S (by simpa using e) p
    refine ⟨ρ', S', ?_, h6⟩
    simp only [loopL, h1, h2, Option.bind_some]
    rcases h3 with rfl | rfl
    · exact h5
    · exact h5
/-- a loop that may return -/
theorem loop_ret {g : G} {body : T} {ds : List D} {ρ : Rho} {S : Sto} (P : Nat → Rho → Sto → Prop) (Q : Nat → Fl → Rho → Sto → Prop) (h0 : P 0 ρ S)
    (step : ∀ i d ρ S, ds[i]? = some d → P i ρ S → ∃ ρ1 ρ2 S2 fl, g d ρ = some ρ1 ∧ body ρ1 S = some (fl, ρ2, S2) ∧ (((fl = .nx ∨ fl = .ct) ∧ P (i + 1) ρ2 S2) ∨ ((∃ r, fl = .rt r) ∧ Q i fl ρ2 S2) ∨ (fl = .bk ∧ Q i .nx ρ2 S2))) :
    (∃ ρ' S', loopL g body ds ρ S = some (.nx, ρ', S') ∧ P ds.length ρ' S') ∨ ∃ i fl ρ' S', i < ds.length ∧ loopL g body ds ρ S = some (fl, ρ', S') ∧ Q i fl ρ' S' := by
  induction ds generalizing ρ S P Q with
  | nil => exact .inl ⟨ρ, S, rfl, h0⟩
  | cons d ds ih =>
    obtain ⟨ρ1, ρ2, S2, fl, h1, h2, h3⟩ := step 0 d ρ S rfl h0
    rcases h3 with ⟨h3, h4⟩ | ⟨⟨r, rfl⟩, h4⟩ | ⟨rfl, h4⟩
    · rcases ih (fun i => P (i + 1)) (fun i => Q (i + 1)) h4 (fun i d ρ S e p => step (i + 1) d ρ S (by simpa using e) p) with ⟨ρ', S', h5, h6⟩ | ⟨i, fl', ρ', S', hi, h5, h6⟩
      · refine .inl ⟨ρ', S', ?_, h6⟩
        simp only [loopL, h1, h2, Option.bind_some]
        rcases h3 with rfl | rfl
        · exact h5
        · exact h5
      · refine .inr ⟨i + 1, fl', ρ', S', by simpa using hi, ?_, h6⟩
        simp only [loopL, h1, h2, Option.bind_some]
        rcases h3 with rfl | rfl
        · exact h5
        · exact h5
    · refine .inr ⟨0, .rt r, ρ2, S2, by simp, ?_, h4⟩
      simp only [loopL, h1, h2, Option.bind_some]
    · refine .inr ⟨0, .nx, ρ2, S2, by simp, ?_, h4⟩
      simp only [loopL, h1, h2, Option.bind_some]

/-! comprehensions over what is embedded -/
def cmpM {α : Type} (F : α → Option D) : List α → Option (List D)
  | [] => some []
  | x :: xs => (F x).bind fun y => (cmpM F xs).map fun ys => y :: ys
def cmpF {α : Type} (F : α → Option (Option D)) : List α → Option (List D)
  | [] => some []
  | x :: xs => (F x).bind fun y => (cmpF F xs).map fun ys => match y with
    | some y => y :: ys
    | none => ys
theorem cmpM_congr {α : Type} {xs ys : List α} {F F' : α → Option D} (h : xs = ys) (h2 : ∀ x, x ∈ ys → F x = F' x) : cmpM F xs = cmpM F' ys := by
  subst h
  induction xs with
  | nil => rfl
  | cons x xs ih => simp only [cmpM, h2 x List.mem_cons_self, ih fun y m => h2 y (List.mem_cons_of_mem _ m)]
theorem cmpF_congr {α : Type} {xs ys : List α} {F F' : α → Option (Option D)} (h : xs = ys) (h2 : ∀ x, x ∈ ys → F x = F' x) : cmpF F xs = cmpF F' ys := by
  subst h
  induction xs with
  | nil => rfl
  | cons x xs ih => simp only [cmpF, h2 x List.mem_cons_self, ih fun y m => h2 y (List.mem_cons_of_mem _ m)]
@[simp] theorem cmpM_some {α : Type} (f : α → D) (xs : List α) : cmpM (fun x => some (f x)) xs = some (xs.map f) := by
  induction xs with
  | nil => rfl
  | cons x xs ih => simp [cmpM, ih]
@[simp] theorem cmpF_some {α : Type} (f : α → D) (xs : List α) : cmpF (fun x => some (some (f x))) xs = some (xs.map f) := by
  induction xs with
  | nil => rfl
  | cons x xs ih => simp [cmpF, ih]
@[simp] theorem cmpF_ite {α : Type} (p : α → Prop) [DecidablePred p] (f : α → D) (xs : List α) : cmpF (fun x => if p x then some (some (f x)) else some none) xs = some ((xs.filter fun x => decide (p x)).map f) := by
  induction xs with
  | nil => rfl
  | cons x xs ih =>
    by_cases h : p x
    · simp [cmpF, ih, h]
    · simp [cmpF, ih, h]
@[simp] theorem cmpF_ite' {α : Type} (p : α → Prop) [DecidablePred p] (f : α → D) (xs : List α) : cmpF (fun x => if p x then some none else some (some (f x))) xs = some ((xs.filter fun x => !decide (p x)).map f) := by
  induction xs with
  | nil => rfl
  | cons x xs ih =>
    by_cases h : p x
    · simp [cmpF, ih, h]
    · simp [cmpF, ih, h]
theorem compL_gen {α : Type} (g : G) (t : EB) (e : E) (ρ : Rho) (S : Sto) (emb : α → D) (xs : List α) : compL g t e ρ S (xs.map emb) = cmpF (fun x => (g (emb x) ρ).bind fun ρ1 => (t ρ1 S).bind fun b => if b then (e ρ1 S).map some else some none) xs := by
  induction xs with
  | nil => rfl
  | cons x xs ih =>
    simp only [List.map_cons, compL, cmpF, ih]
    cases g (emb x) ρ with
    | none => rfl
    | some ρ1 =>
      simp only [Option.bind_some]
      cases t ρ1 S with
      | none => rfl
      | some b =>
        simp only [Option.bind_some]
        cases b with
        | true =>
          rw [if_pos rfl, if_pos rfl]
          cases e ρ1 S with
          | none => rfl
          | some y =>
            simp only [Option.bind_some, Option.map_some]
        | false =>
          rw [if_neg (by decide), if_neg (by decide)]
          simp only [Option.bind_some]
          cases cmpF (fun x => (g (emb x) ρ).bind fun ρ1 => (t ρ1 S).bind fun b => if b = true then (e ρ1 S).map some else some none) xs <;> rfl
@[simp] theorem compL_yes {α : Type} (g : G) (e : E) (ρ : Rho) (S : Sto) (emb : α → D) (xs : List α) : compL g bYes e ρ S (xs.map emb) = cmpM (fun x => (g (emb x) ρ).bind fun ρ1 => e ρ1 S) xs := by
  induction xs with
  | nil => rfl
  | cons x xs ih =>
    simp only [List.map_cons, compL, cmpM, ih]
    cases g (emb x) ρ with
    | none => rfl
    | some ρ1 => simp [bYes]
@[simp] theorem mkL_map {α : Type} {f : α → D} {xs : List α} (h : xs.length ≤ 1000000) : mkL (xs.map f) = some (xs.map f) := mkL_ok (by simpa using h)
@[simp] theorem mkL_flt {α : Type} {f : α → D} {p : α → Bool} {xs : List α} (h : xs.length ≤ 1000000) : mkL ((xs.filter p).map f) = some ((xs.filter p).map f) :=
  mkL_ok (by rw [List.length_map]; exact Nat.le_trans (List.length_filter_le _ _) h)
theorem enumD_map {α : Type} (emb : α → D) (xs : List α) : enumD (xs.map emb) = xs.zipIdx.map fun p => .tup [nD p.2, emb p.1] := by
  unfold enumD
  rw [List.mapIdx_eq_zipIdx_map, List.zipIdx_map, List.map_map]
  rfl

@[simp] theorem all_tt {α : Type} (xs : List α) : (xs.all fun _ => true) = true := by simp
@[simp] theorem nrs_map {α : Type} (f : α → D) (xs : List α) : nrs (xs.map f) = xs.all fun x => nr (f x) := by
  induction xs with
  | nil => rfl
  | cons x xs ih => simp [ih]
@[simp] theorem oks_map {α : Type} (n : Nat) (f : α → D) (xs : List α) : okDs n (xs.map f) = xs.all fun x => okD n (f x) := by
  induction xs with
  | nil => simp
  | cons x xs ih => simp [ih]
@[simp] theorem y_inLm {α : Type} (neg : Bool) (S : Sto) (k : Nat) (f : α → Nat) (l : List α) : gInS neg S (.int k) (.lst (l.map fun x => .int (f x : Nat))) = some (.bl (if neg then !decide (k ∈ l.map f) else decide (k ∈ l.map f))) := by
  have e : (l.map fun x => D.int (f x : Nat)) = (l.map f).map nD := by simp
  rw [e, y_inL]
@[simp] theorem y_inTm {α : Type} (neg : Bool) (S : Sto) (k : Nat) (f : α → Nat) (l : List α) : gInS neg S (.int k) (.tup (l.map fun x => .int (f x : Nat))) = some (.bl (if neg then !decide (k ∈ l.map f) else decide (k ∈ l.map f))) := by
  have e : (l.map fun x => D.int (f x : Nat)) = (l.map f).map nD := by simp
  rw [e, y_inT]
end DL

set_option maxHeartbeats 4000000
namespace DL
open PySem PySem.Spec L2

/-! ### plain: cells read as values -/
mutual
theorem frzS_nr (φ : Nat → Option D) : ∀ d : D, nr d = true → frzS φ d = some d
  | .non, _ => rfl
  | .bl _, _ => rfl
  | .int _, _ => rfl
  | .str _, _ => rfl
  | .ty _, _ => rfl
  | .scr _, _ => rfl
  | .ref _, h => by simp at h
  | .tup ds, h => by
    rw [nr_tup] at h
    simp [frzS, frzSs_nr φ ds h]
  | .lst ds, h => by
    rw [nr_lst] at h
    simp [frzS, frzSs_nr φ ds h]
  | .dic t ks vs, h => by
    have h' : nrs vs = true := h
    simp [frzS, frzSs_nr φ vs h']
  | .ins c fs vs, h => by
    have h' : nrs vs = true := h
    simp [frzS, frzSs_nr φ vs h']
theorem frzSs_nr (φ : Nat → Option D) : ∀ ds : List D, nrs ds = true → frzSs φ ds = some ds
  | [], _ => rfl
  | d :: ds, h => by
    rw [nrs_cons, Bool.and_eq_true] at h
    simp [frzSs, frzS_nr φ d h.1, frzSs_nr φ ds h.2]
end
theorem frz_nr (k : Nat) (S : Sto) {d : D} (h : nr d = true) : frz k S d = some d := by
  cases k <;> exact frzS_nr _ d h
theorem mapM_id {g : D → Option D} : ∀ {ds : List D}, (∀ d ∈ ds, g d = some d) → ds.mapM g = some ds
  | [], _ => rfl
  | d :: ds, h => by
    rw [List.mapM_cons, h d List.mem_cons_self, mapM_id fun x m => h x (List.mem_cons_of_mem _ m)]
    rfl
theorem fz_ref {S : Sto} {n : Nat} {ds : List D} (h : S[n]? = some (.lst ds)) (hn : nrs ds = true) : fz S (.ref n) = some (.lst ds) := by
  have e : fz S (.ref n) = frz 6 S (.ref n) := if_neg (by simp)
  rw [e]
  show frzS _ (.ref n) = _
  simp only [frzS, h, Option.bind_some]
  rw [mapM_id fun d m => frz_nr 5 S (nrs_all.mp hn d m)]
  rfl
theorem fo_ref {S : Sto} {n : Nat} {ds : List D} (h : S[n]? = some (.lst ds)) (hn : nrs ds = true) (ho : okDs 59 ds = true) : fo S (.ref n) = some (.lst ds) := by
  have e : fo S (.ref n) = (fz S (.ref n)).bind fun d' => if okD 60 d' then some d' else none := if_neg (by simp [okD])
  rw [e, fz_ref h hn]
  simp [ho]
@[simp] theorem fz_ref0 (l : List Nat) (T : Sto) : fz (.lst (l.map nD) :: T) (.ref 0) = some (.lst (l.map nD)) := fz_ref rfl (by simp)
theorem y_inR {S : Sto} {n : Nat} {l : List Nat} (h : S[n]? = some (.lst (l.map nD))) (neg : Bool) (k : Nat) : gInS neg S (.int k) (.ref n) = some (.bl (if neg then !decide (k ∈ l) else decide (k ∈ l))) := by
  unfold gInS
  rw [fo_ok (by simp), fo_ref h (by simp) (by simp)]
  simp only [Option.bind_some, inD_nD]
@[simp] theorem y_inR0 (l : List Nat) (T : Sto) (neg : Bool) (k : Nat) : gInS neg (.lst (l.map nD) :: T) (.int k) (.ref 0) = some (.bl (if neg then !decide (k ∈ l) else decide (k ∈ l))) := y_inR rfl neg k
@[simp] theorem y_inR1 (c : Cell) (l : List Nat) (T : Sto) (neg : Bool) (k : Nat) : gInS neg (c :: .lst (l.map nD) :: T) (.int k) (.ref 1) = some (.bl (if neg then !decide (k ∈ l) else decide (k ∈ l))) := y_inR rfl neg k
theorem map_nD_app (l : List Nat) (k : Nat) : l.map nD ++ [.int (k : Int)] = (l ++ [k]).map nD := by simp
/-! ### places of rows of numbers -/
theorem atI_map {α : Type} (f : α → D) (l : List α) (k : Nat) : atI (l.map f) (k : Int) = (l[k]?).map f := by
  rw [atI_nat, List.getElem?_map]
theorem atI_nD {l : List Nat} {k : Nat} (h : k < l.length) : atI (l.map nD) (k : Int) = some (.int (l[k] : Nat)) := by
  rw [atI_map, List.getElem?_eq_getElem h]
  rfl
theorem rngD1 (n : Nat) : rngD 1 1 n = (List.range n).map fun k => .int ((k + 1 : Nat) : Int) := by
  unfold rngD
  refine List.map_congr_left fun k _ => ?_
  congr 1
  omega
theorem rng2_1 {n : Nat} (h : n ≤ 1000000) : rng2 [.int 1, .int (n : Int)] = some ((List.range (n - 1)).map fun k => .int ((k + 1 : Nat) : Int)) := by
  have e : ((n : Int) - 1).toNat = n - 1 := by omega
  have e1 : lim62 1 = true := by decide
  simp only [rng2, lim62_nat h, e1, e, rngD1]
  rfl
/-! ### lots -/
def lotD (l : List Nat) : D := .tup (l.map nD)
@[simp] theorem nr_lotD (l : List Nat) : nr (lotD l) = true := by simp [lotD]
@[simp] theorem q_lotD (S : Sto) (l : List Nat) : seqD S (lotD l) = some (l.map nD) := (rfl)
@[simp] theorem qv_lotD (l : List Nat) : seqV (lotD l) = some (l.map nD) := (rfl)
@[simp] theorem ok_lotD (n : Nat) (l : List Nat) : okD (n + 1) (lotD l) = true := by simp [lotD]
@[simp] theorem y_inLot (neg : Bool) (S : Sto) (k : Nat) (l : List Nat) : gInS neg S (.int k) (lotD l) = some (.bl (if neg then !decide (k ∈ l) else decide (k ∈ l))) := y_inT neg S k l
@[simp] theorem nrs_lots {ls : List (List Nat)} : nrs (ls.map lotD) = true := by simp
theorem eqD_lot (a b : List Nat) : eqD (lotD a) (lotD b) = decide (a = b) := by
  show eqDs _ _ = _
  exact eqDs_nD a b
theorem y_eqLot (S : Sto) (a b : List Nat) : gEq S (lotD a) (lotD b) = some (.bl (decide (a = b))) := by
  rw [y_eq (by simp) (by simp), eqD_lot]
theorem inD_lots (k : List Nat) (ls : List (List Nat)) : inD (lotD k) (ls.map lotD) = decide (k ∈ ls) := by
  induction ls with
  | nil => rfl
  | cons x l ih =>
    unfold inD at ih ⊢
    simp only [List.map_cons, List.any_cons, ih, eqD_lot, List.mem_cons]
    by_cases h : k = x
    · subst h; simp
    · have h' : ¬ (x = k) := fun e => h e.symm
      simp [h, h']
@[simp] theorem y_inLots (neg : Bool) (S : Sto) (k : List Nat) (ls : List (List Nat)) : gInS neg S (lotD k) (.tup (ls.map lotD)) = some (.bl (if neg then !decide (k ∈ ls) else decide (k ∈ ls))) := by
  unfold gInS
  rw [fo_ok (by simp), fo_ok (by rw [ok_tup]; simp)]
  simp only [Option.bind_some, inD_lots]
@[simp] theorem y_inLotsL (neg : Bool) (S : Sto) (k : List Nat) (ls : List (List Nat)) : gInS neg S (lotD k) (.lst (ls.map lotD)) = some (.bl (if neg then !decide (k ∈ ls) else decide (k ∈ ls))) := by
  unfold gInS
  rw [fo_ok (by simp), fo_ok (by rw [ok_lst]; simp)]
  simp only [Option.bind_some, inD_lots]
def LotOk (m : Nat) (l : List Nat) : Prop := l.Pairwise (· < ·) ∧ ∀ x ∈ l, x < m
theorem LotOk.len {m : Nat} {l : List Nat} (h : LotOk m l) : l.length ≤ m := by
  have nd : l.Nodup := h.1.imp fun {a b} z => Nat.ne_of_lt z
  have := List.Nodup.length_le_of_subset (l₂ := List.range m) nd fun x hx => List.mem_range.mpr (h.2 x hx)
  simpa using this
theorem LotOk.nil (m : Nat) : LotOk m [] := ⟨List.Pairwise.nil, fun _ h => by simp at h⟩
theorem LotOk.mono {m k : Nat} {l : List Nat} (h : LotOk m l) (hk : m ≤ k) : LotOk k l := ⟨h.1, fun x hx => Nat.lt_of_lt_of_le (h.2 x hx) hk⟩
theorem pw_le_ext {l k : List Nat} (h1 : l.Pairwise (· < ·)) (h2 : k.Pairwise (· < ·)) (h : ∀ x, x ∈ l ↔ x ∈ k) : l = k := by
  have nd1 : l.Nodup := h1.imp fun {a b} z => Nat.ne_of_lt z
  have nd2 : k.Nodup := h2.imp fun {a b} z => Nat.ne_of_lt z
  refine List.Perm.eq_of_pairwise (le := fun a b => a < b) (fun a b _ _ x y => absurd x (by omega)) h1 h2 ?_
  exact (List.perm_ext_iff_of_nodup nd1 nd2).mpr h
def ins2 (ρ : Rho) (S : Sto) (c : Nat × List D) (d : D) : D → Option (Fl × Rho × Sto)
  | .int i => if small c.2.length && decide (0 ≤ i) && decide (i < 2 ^ 62) then some (.nx, ρ, S.set c.1 (.lst (c.2.take i.toNat ++ [d] ++ c.2.drop i.toNat))) else none
  | _ => none
@[simp] theorem x_sIns (fo f g : E) (ρ : Rho) (S : Sto) : sIns fo f g ρ S = (fo ρ S).bind fun o => (f ρ S).bind fun i => (g ρ S).bind fun d => (cellD S o).bind fun c => ins2 ρ S c d i := by
  unfold sIns ins2
  rfl
theorem ins2_nat (ρ : Rho) (S : Sto) (n : Nat) (ds : List D) (d : D) {k : Nat} (h : ds.length ≤ 1000000) (hk : k ≤ 1000000) : ins2 ρ S (n, ds) d (.int (k : Int)) = some (.nx, ρ, S.set n (.lst (ds.take k ++ [d] ++ ds.drop k))) := by
  have h2 : ((k : Nat) : Int) < 4611686018427387904 := by omega
  simp [ins2, h, h2]
theorem perm_sorted {α : Type} (emb : α → D) (l : List α) : ∃ m : List α, m.Perm l ∧ sortD (l.map emb) = m.map emb :=
  perm_map_inv emb (sortD_perm (l.map emb)) l rfl
theorem k_sorted {S : Sto} {x : D} {xs : List D} (h : seqD S x = some xs) (g : gdS xs = true) : cSorted S [x] = some (sortD xs) := by
  simp [cSorted, h, g]
def pairD (p : Nat × Nat) : D := .tup [nD p.1, nD p.2]
@[simp] theorem q_pairD (S : Sto) (p : Nat × Nat) : seqD S (pairD p) = some [.int p.1, .int p.2] := (rfl)
@[simp] theorem nr_pairD (p : Nat × Nat) : nr (pairD p) = true := (rfl)
theorem gdS_map {α : Type} (emb : α → D) (l : List α) (h1 : ∀ a, okD 60 (emb a) = true) (h2 : ∀ a, isNon (emb a) = false) (h3 : ∀ a b, alkD (emb a) (emb b) = true) : gdS (l.map emb) = true := by
  simp [gdS, h1, h2, h3]
theorem gdS_pairs (l : List (Nat × Nat)) : gdS (l.map pairD) = true :=
  gdS_map _ _ (fun a => by simp [pairD]) (fun a => rfl) (fun a b => by simp [alkD, pairD, toP, toPs, PySem.W.alike, PySem.W.alikeAll])
theorem gdS_nats (l : List Nat) : gdS (l.map nD) = true :=
  gdS_map _ _ (fun a => by simp) (fun a => rfl) (fun a b => by simp [alkD, toP, PySem.W.alike])
theorem alkAll_nats : ∀ a b : List Nat, PySem.W.alikeAll (toPs (a.map nD)) (toPs (b.map nD)) = true
  | [], _ => by simp [toPs, PySem.W.alikeAll]
  | _ :: _, [] => by simp [toPs, PySem.W.alikeAll]
  | x :: a, y :: b => by
    have ih := alkAll_nats a b
    simp only [List.map_cons, toPs, PySem.W.alikeAll, ih, Bool.and_true]
    simp [toP, PySem.W.alike]
theorem gdS_lots (l : List (List Nat)) : gdS (l.map lotD) = true :=
  gdS_map _ _ (fun a => by simp) (fun a => rfl) (fun a b => by
    show PySem.W.alike (.tuple (toPs (a.map nD))) (.tuple (toPs (b.map nD))) = true
    simp only [PySem.W.alike]
    exact alkAll_nats a b)
theorem map_idx {α : Type} (l : List α) (f : Nat → D) (g : α → Nat → D) (h : ∀ k (hk : k < l.length), f k = g l[k] k) : (List.range l.length).map f = l.zipIdx.map fun p => g p.1 p.2 := by
  apply List.ext_getElem
  · simp
  · intro k h1 h2
    simp at h1
    simp [h k h1]
theorem cut_take (ds : List D) (k : Nat) : cutD ds none (some (k : Int)) = ds.take k := by
  unfold cutD
  rw [HT.sIx_none, HT.sIx_nat, List.drop_zero, Nat.sub_zero]
  exact (List.take_eq_take_min ..).symm
theorem cut_drop (ds : List D) (k : Nat) : cutD ds (some (k : Int)) none = ds.drop k := by
  unfold cutD
  rw [HT.sIx_none, HT.sIx_nat]
  by_cases h : k ≤ ds.length
  · rw [Nat.min_eq_left h, List.take_of_length_le (by simp)]
  · rw [Nat.min_eq_right (by omega), List.drop_length, List.drop_eq_nil_of_le (by omega)]
    simp
theorem ltD_int (a b : Int) : ltD (.int a) (.int b) = decide (a < b) := by
  unfold ltD toP
  exact PySem.W.dataLt_int ..
theorem sort_nats {F : List Nat} (nd : F.Nodup) : ∃ G : List Nat, sortD (F.map nD) = G.map nD ∧ G.Perm F ∧ G.Pairwise (· < ·) := by
  obtain ⟨G, p, e⟩ := perm_sorted nD F
  refine ⟨G, e, p, ?_⟩
  have pw := sortD_pw (F.map nD)
  rw [e, List.pairwise_map] at pw
  have nd' : G.Nodup := p.nodup_iff.mpr nd
  refine (pw.and nd').imp fun {a b} h => ?_
  have h1 : ltD (.int (b : Int)) (.int (a : Int)) = false := h.1
  rw [ltD_int] at h1
  have h2 := of_decide_eq_false h1
  have h3 := h.2
  omega
/-- while -/
theorem while_inv {t : EB} {body : T} (P : Nat → Rho → Sto → Prop) (Q : Rho → Sto → Prop)
    (step : ∀ n ρ S, P n ρ S → (t ρ S = some false ∧ Q ρ S) ∨ (t ρ S = some true ∧ ∃ fl ρ' S' n', body ρ S = some (fl, ρ', S') ∧ (fl = .nx ∨ fl = .ct) ∧ n' < n ∧ P n' ρ' S')) :
    ∀ {n : Nat} {ρ : Rho} {S : Sto}, P n ρ S → ∃ ρ' S', sWhile t body ρ S = some (.nx, ρ', S') ∧ Q ρ' S' := by
  have main : ∀ (n : Nat) (ρ : Rho) (S : Sto), P n ρ S → ∃ k ρ' S', whileN t body k ρ S = some (.nx, ρ', S') ∧ Q ρ' S' := by
    intro n
    induction n using Nat.strongRecOn with
    | ind n ih =>
      intro ρ S h
      rcases step n ρ S h with ⟨h1, h2⟩ | ⟨h1, fl, ρ1, S1, n1, h2, h3, h4, h5⟩
      · exact ⟨1, ρ, S, by simp [whileN, h1], h2⟩
      · obtain ⟨k, ρ', S', h6, h7⟩ := ih n1 h4 ρ1 S1 h5
        refine ⟨k + 1, ρ', S', ?_, h7⟩
        simp only [whileN, h1, Option.bind_some, if_true, h2]
        rcases h3 with rfl | rfl
        · exact h6
        · exact h6
  intro n ρ S h
  obtain ⟨k, ρ', S', h1, h2⟩ := main n ρ S h
  exact ⟨ρ', S', sWhile_of h1, h2⟩
def rgA : D → Option (List D)
  | .int n => if lim62 n && small n.toNat then some (rngD 0 1 n.toNat) else none
  | _ => none
@[simp] theorem x_rg1 (f : E) (ρ : Rho) (S : Sto) : rg1 f ρ S = (f ρ S).bind rgA := (rfl)
@[simp] theorem x_eTupL (f : EL) (ρ : Rho) (S : Sto) : eTupL f ρ S = (f ρ S).map .tup := (rfl)
theorem rgA_nat {n : Nat} (h : n ≤ 1000000) : rgA (.int (n : Int)) = some ((List.range n).map nD) := by
  have e : ((n : Int)).toNat = n := by omega
  simp only [rgA, lim62_nat h, e, rngD0, small_eq, h, decide_true, Bool.and_self, if_true]
@[simp] theorem y_rep1 (S : Sto) (ds : List D) : gMulA S (.tup ds) (.int 1) = some (.tup ds) := (rfl)
theorem y_rep0 (S : Sto) (d : D) (ds : List D) : gMulA S (.tup (d :: ds)) (.int 0) = some (.tup []) := (rfl)
theorem y_neP (S : Sto) (a b c d : List Nat) : gNe S (.tup [lotD a, lotD b]) (.tup [lotD c, lotD d]) = some (.bl (!(decide (a = c) && decide (b = d)))) := by
  rw [y_ne (by simp) (by simp)]
  simp [eqD, eqDs, eqD_lot]
/-! ### a body step by step -/
def Ret (b : T) (ρ : Rho) (S : Sto) (d : D) : Prop := (b ρ S).bind fin1 = some d
section
variable {f : E} {fl : EL} {g a b : T} {t : EB} {ρ : Rho} {S : Sto} {d x : D} {i : Nat}
theorem ret_set (h : f ρ S = some x) (k : Ret g (ρ.set i (some x)) S d) : Ret (sSeq (sSet i f) g) ρ S d := by
  unfold Ret at k ⊢
  rw [x_sSeq, x_sSet, h]
  exact k
theorem ret_drop (h : f ρ S = some x) (k : Ret g ρ S d) : Ret (sSeq (sDrop f) g) ρ S d := by
  unfold Ret at k ⊢
  rw [x_sSeq, x_sDrop, h]
  exact k
theorem ret_if0 (h : t ρ S = some false) (k : Ret g ρ S d) : Ret (sSeq (sIf t a sSkip) g) ρ S d := by
  unfold Ret at k ⊢
  rw [x_sSeq, x_sIf, h]
  exact k
theorem ret_ret (h : f ρ S = some x) (k : fz S x = some d) : Ret (sRet f) ρ S d := by
  unfold Ret
  rw [x_sRet, h]
  exact k
theorem ret_run {n : Nat} {ds : List D} (k : Ret b (startR n ds) [] d) : runD b n ds = some d := by
  rw [run_eq]
  exact k
end
end DL

set_option maxHeartbeats 4000000
namespace DL
open PySem PySem.Spec L2
/-! ### plain: dicts with keys that are whole numbers -/
def dkD (kv : List (Nat × D)) : List D := kv.map fun p => .int (p.1 : Int)
def dvD (kv : List (Nat × D)) : List D := kv.map (·.2)
theorem eqD_nat (a b : Nat) : eqD (.int (a : Int)) (.int (b : Int)) = decide (a = b) := by
  have := keyD_inj (a := .inl (a : Int)) (b := .inl (b : Int))
  have e : eqD (.int (a : Int)) (.int (b : Int)) = decide ((Sum.inl (a : Int) : Key) = Sum.inl (b : Int)) := this
  rw [e]
  by_cases h : a = b
  · simp [h]
  · have : ¬ ((a : Int) = (b : Int)) := by omega
    simp [h, this]
theorem lookD_nat (k : Nat) : ∀ kv : List (Nat × D), lookD (dkD kv) (dvD kv) (.int k) = kv.lookup k
  | [] => rfl
  | p :: kv => by
    have ih := lookD_nat k kv
    have st : lookD (dkD (p :: kv)) (dvD (p :: kv)) (.int (k : Int)) = if eqD (.int (p.1 : Int)) (.int (k : Int)) then some p.2 else lookD (dkD kv) (dvD kv) (.int (k : Int)) := rfl
    rw [st, ih, eqD_nat]
    obtain ⟨a, b⟩ := p
    by_cases h : a = k
    · subst h; simp [List.lookup_cons]
    · have h2 : (k == a) = false := by simp; omega
      rw [decide_eq_false h, if_neg (by decide), List.lookup_cons, h2]
theorem hasD_nat (k : Nat) (kv : List (Nat × D)) : hasD (dkD kv) (.int k) = decide (k ∈ kv.map (·.1)) := by
  induction kv with
  | nil => rfl
  | cons p kv ih =>
    unfold hasD dkD at ih ⊢
    simp only [List.map_cons, List.any_cons, ih, eqD_nat, List.mem_cons]
    by_cases h : k = p.1
    · subst h; simp
    · have h' : ¬ (p.1 = k) := fun e => h e.symm
      simp [h, h']
@[simp] theorem keyT_nat (k : Int) : keyT false (.int k) = true := (rfl)
def natDic (kv : List (Nat × D)) : Cell := .dic false (dkD kv) (dvD kv)
def natDicD (kv : List (Nat × D)) : D := .dic false (dkD kv) (dvD kv)
theorem z_get {S : Sto} {d : D} {kv : List (Nat × D)} (h : dicD S d = some (false, dkD kv, dvD kv)) (k : Nat) : gDGet S d (.int k) = kv.lookup k := by
  simp only [gDGet, h, Option.bind_some, keyT_nat, if_true]
  exact lookD_nat k kv
theorem z_in {S : Sto} {d : D} {kv : List (Nat × D)} (h : dicD S d = some (false, dkD kv, dvD kv)) (neg : Bool) (k : Nat) : gDIn neg S (.int k) d = some (.bl (if neg then !decide (k ∈ kv.map (·.1)) else decide (k ∈ kv.map (·.1)))) := by
  simp only [gDIn, h, Option.bind_some, keyT_nat, if_true]
  rw [hasD_nat]
@[simp] theorem dic_ref0 (kv : List (Nat × D)) (T : Sto) : dicD (natDic kv :: T) (.ref 0) = some (false, dkD kv, dvD kv) := (rfl)
@[simp] theorem dic_val (S : Sto) (kv : List (Nat × D)) : dicD S (natDicD kv) = some (false, dkD kv, dvD kv) := (rfl)
@[simp] theorem z_get0 (kv : List (Nat × D)) (T : Sto) (k : Nat) : gDGet (natDic kv :: T) (.ref 0) (.int k) = kv.lookup k := z_get rfl k
@[simp] theorem z_getV (S : Sto) (kv : List (Nat × D)) (k : Nat) : gDGet S (natDicD kv) (.int k) = kv.lookup k := z_get rfl k
@[simp] theorem z_in0 (neg : Bool) (kv : List (Nat × D)) (T : Sto) (k : Nat) : gDIn neg (natDic kv :: T) (.int k) (.ref 0) = some (.bl (if neg then !decide (k ∈ kv.map (·.1)) else decide (k ∈ kv.map (·.1)))) := z_in rfl neg k
@[simp] theorem z_inV (neg : Bool) (S : Sto) (kv : List (Nat × D)) (k : Nat) : gDIn neg S (.int k) (natDicD kv) = some (.bl (if neg then !decide (k ∈ kv.map (·.1)) else decide (k ∈ kv.map (·.1)))) := z_in rfl neg k
@[simp] theorem z_lenV (S : Sto) (kv : List (Nat × D)) : cLenK S [natDicD kv] = some (.int (kv.length : Nat)) := by
  simp [cLenK, dkD]
theorem x_sNewD1 (i : Nat) (fk fv : E) (ρ : Rho) (S : Sto) : sNewD1 i fk fv ρ S = (fk ρ S).bind fun k => (fv ρ S).bind fun v => if keyT false k then some (.nx, ρ.set i (some (.ref S.length)), S ++ [.dic false [k] [v]]) else none := (rfl)
/-- d[k] = v, k new -/
theorem z_put {f fo fi : E} {ρ : Rho} {S : Sto} {n : Nat} {kv : List (Nat × D)} {k : Nat} {v : D} (h1 : f ρ S = some v) (h2 : fo ρ S = some (.ref n)) (h3 : fi ρ S = some (.int (k : Nat))) (h4 : S[n]? = some (natDic kv)) (h5 : k ∉ kv.map (·.1)) (h6 : kv.length ≤ 1000000) :
    sDPutD f fo fi ρ S = some (.nx, ρ, S.set n (natDic (kv ++ [(k, v)]))) := by
  have hd : dcell S (.ref n) = some (n, false, dkD kv, dvD kv) := by
    simp only [dcell, h4]
    rfl
  have hl : (dkD kv).length = kv.length := by simp [dkD]
  have hh : hasD (dkD kv) (.int (k : Nat)) = false := by rw [hasD_nat]; exact decide_eq_false h5
  unfold sDPutD
  simp only [h1, h2, h3, hd, Option.bind_some, keyT_nat, hl, small_eq, decide_eq_true h6, Bool.and_self, if_true, hh]
  simp [natDic, dkD, dvD]
end DL

set_option maxHeartbeats 4000000
namespace DL
open PySem PySem.Spec L2
/-! ### plain: objects, defs that change things, places of lists -/
section
variable {ρ : Rho} {S : Sto}
theorem ixN_nat {n k : Nat} (h : k < n) : ixN n (k : Int) = some k := by
  unfold ixN
  rw [if_pos (by omega), if_pos (by omega)]
  simp
def putN (ρ : Rho) (S : Sto) (d : D) (c : Nat × List D) : D → Option (Fl × Rho × Sto)
  | .int k => (ixN c.2.length k).map fun j => (.nx, ρ, S.set c.1 (.lst (c.2.set j d)))
  | _ => none
@[simp] theorem x_sPut (f fo fi : E) : sPut f fo fi ρ S = (f ρ S).bind fun d => (fo ρ S).bind fun o => (fi ρ S).bind fun i => (cellD S o).bind fun c => putN ρ S d c i := by
  unfold sPut putN
  rfl
theorem whileN_step {t : EB} {body : T} {k : Nat} {ρ ρ1 : Rho} {S S1 : Sto} {r : Option (Fl × Rho × Sto)} (h1 : t ρ S = some true) (h2 : body ρ S = some (.nx, ρ1, S1)) (h3 : whileN t body k ρ1 S1 = r) : whileN t body (k + 1) ρ S = r := by
  simp only [whileN, h1, h2, Option.bind_some, if_true]
  exact h3
theorem ret_seq {f g : T} {ρ ρ1 : Rho} {S S1 : Sto} {d : D} (h : f ρ S = some (.nx, ρ1, S1)) (k : Ret g ρ1 S1 d) : Ret (sSeq f g) ρ S d := by
  unfold Ret at k ⊢
  rw [x_sSeq, h]
  exact k
theorem seq_nx {f g : T} {ρ ρ1 : Rho} {S S1 : Sto} {r : Option (Fl × Rho × Sto)} (h : f ρ S = some (.nx, ρ1, S1)) (k : g ρ1 S1 = r) : sSeq f g ρ S = r := by
  rw [x_sSeq, h]
  exact k
theorem seq_rt {f g : T} {ρ ρ1 : Rho} {S S1 : Sto} {d : D} (h : f ρ S = some (.rt d, ρ1, S1)) : sSeq f g ρ S = some (.rt d, ρ1, S1) := by
  rw [x_sSeq, h]
  rfl
theorem if_t {t : EB} {f g : T} {ρ : Rho} {S : Sto} {r : Option (Fl × Rho × Sto)} (h : t ρ S = some true) (k : f ρ S = r) : sIf t f g ρ S = r := by
  rw [x_sIf, h]
  exact k
theorem if_f {t : EB} {f g : T} {ρ : Rho} {S : Sto} {r : Option (Fl × Rho × Sto)} (h : t ρ S = some false) (k : g ρ S = r) : sIf t f g ρ S = r := by
  rw [x_sIf, h]
  exact k
theorem ret_rt {f g : T} {ρ ρ1 : Rho} {S S1 : Sto} {d x : D} (h : f ρ S = some (.rt x, ρ1, S1)) (k : fz S1 x = some d) : Ret (sSeq f g) ρ S d := by
  unfold Ret
  rw [x_sSeq, h]
  exact k
theorem ret_ifT {t : EB} {a g : T} {d : D} (h : t ρ S = some true) (k : Ret a ρ S d) (hr : ∀ ρ1 S1, a ρ S ≠ some (.nx, ρ1, S1)) : Ret (sSeq (sIf t a sSkip) g) ρ S d := by
  unfold Ret at k ⊢
  rw [x_sSeq, x_sIf, h]
  simp only [Option.bind_some, if_true]
  cases e : a ρ S with
  | none => rw [e] at k; cases k
  | some r =>
    obtain ⟨fl, ρ1, S1⟩ := r
    rw [e] at k
    cases fl with
    | nx => exact absurd e (hr ρ1 S1)
    | bk => simpa using k
    | ct => simpa using k
    | rt d => simpa using k
    | rf d => simpa using k
@[simp] theorem x_sSetS (i : Nat) (f : ES) : sSetS i f ρ S = (f ρ S).map fun r => (.nx, ρ.set i (some r.1), r.2) := (rfl)
@[simp] theorem x_sDropS (f : ES) : sDropS f ρ S = (f ρ S).map fun r => (.nx, ρ, r.2) := (rfl)
@[simp] theorem x_sRetS (f : ES) : sRetS f ρ S = (f ρ S).map fun r => (.rt r.1, ρ, r.2) := (rfl)
@[simp] theorem x_esE (f : E) : esE f ρ S = (f ρ S).map fun d => (d, S) := (rfl)
@[simp] theorem x_e2S (g : Sto → D → D → Option D) (a b : ES) : e2S g a b ρ S = (a ρ S).bind fun x => (b ρ x.2).bind fun y => (g y.2 x.1 y.1).map fun d => (d, y.2) := (rfl)
@[simp] theorem x_sAttr (c f : Str) (fv fo : E) : sAttr c f fv fo ρ S = (fv ρ S).bind fun d => (fo ρ S).bind fun o => (ocell S o).bind fun p => (putO c f d p).map fun w => (.nx, ρ, S.set p.1 w) := (rfl)
@[simp] theorem x_sAttrS (c f : Str) (fv : ES) (fo : E) : sAttrS c f fv fo ρ S = (fv ρ S).bind fun d => (fo ρ d.2).bind fun o => (ocell d.2 o).bind fun p => (putO c f d.1 p).map fun w => (.nx, ρ, d.2.set p.1 w) := (rfl)
@[simp] theorem x_sAttrN (c f : Str) (fc : EC) (fo : E) : sAttrN c f fc fo ρ S = (fc ρ S).bind fun cs => (fo ρ (S ++ cs)).bind fun o => (ocell (S ++ cs) o).bind fun p => (putO c f (.ref S.length) p).map fun w => (.nx, ρ, (S ++ cs).set p.1 w) := (rfl)
@[simp] theorem x_sNewN (i : Nat) (fc : EC) : sNewN i fc ρ S = (fc ρ S).map fun cs => (.nx, ρ.set i (some (.ref S.length)), S ++ cs) := (rfl)
@[simp] theorem x_cL (fl : EL) : cL fl ρ S = (fl ρ S).map fun ds => [.lst ds] := (rfl)
@[simp] theorem x_cD (t : Bool) : cD t ρ S = some [.dic t [] []] := (rfl)
@[simp] theorem x_rE (f : E) : rE f ρ S = (f ρ S).map .inl := (rfl)
@[simp] theorem x_rF (f : EL) : rF f ρ S = (f ρ S).map .inr := (rfl)
@[simp] theorem x_rIf (t : EB) (a b : ER) : rIf t a b ρ S = (t ρ S).bind fun k => if k then a ρ S else b ρ S := (rfl)
@[simp] theorem x_fRev (f : E) : fRev f ρ S = (f ρ S).bind fun d => (lstD S d).map List.reverse := (rfl)
@[simp] theorem y_revT (ds : List D) : gRevT S (.tup ds) = some (.tup ds.reverse) := (rfl)
theorem cLL_eq {f : EL} {c0 : Cell} {ds : List D} (h : f ρ S = some ds) (hl : ds.length ≤ 1000000) : cLL f c0 ρ S = some (.lst ((List.range ds.length).map fun k => .ref (S.length + 1 + k)) :: List.replicate ds.length c0) := by
  unfold cLL
  rw [h]
  exact if_pos (decide_eq_true hl)
/-! calls -/
theorem mP_nr {c m : Str} {g : List D → Option D} {fo : E} {fs : EL} {o : D} {fs0 : List Str} {vs ds : List D} (h1 : fo ρ S = some o) (h2 : objD S o = some (c, fs0, vs)) (h3 : noF fs0 m = true) (h4 : fs ρ S = some ds) (h5 : nrs (o :: ds) = true) :
    mP c m g fo fs ρ S = g (o :: ds) := by
  unfold mP
  simp only [h1, h2, Option.bind_some, true_and, if_pos h3, h4, if_pos h5]
theorem mP_fz {c m : Str} {g : List D → Option D} {fo : E} {fs : EL} {o r : D} {fs0 : List Str} {vs ds es : List D} (h1 : fo ρ S = some o) (h2 : objD S o = some (c, fs0, vs)) (h3 : noF fs0 m = true) (h4 : fs ρ S = some ds) (h5 : nrs (o :: ds) = false) (h6 : fzs S (o :: ds) = some es)
    (h7 : g es = some r) (h8 : imm r = true) : mP c m g fo fs ρ S = some r := by
  unfold mP
  simp only [h1, h2, Option.bind_some, true_and, if_pos h3, h4]
  rw [if_neg (by rw [h5]; decide), h6]
  simp only [Option.bind_some, h7, if_pos h8]
theorem mF_nr {c m : Str} {g : List D → Option (List D)} {fo : E} {fs : EL} {o : D} {fs0 : List Str} {vs ds : List D} (h1 : fo ρ S = some o) (h2 : objD S o = some (c, fs0, vs)) (h3 : noF fs0 m = true) (h4 : fs ρ S = some ds) (h5 : nrs (o :: ds) = true) :
    mF c m g fo fs ρ S = g (o :: ds) := by
  unfold mF
  simp only [h1, h2, Option.bind_some, true_and, if_pos h3, h4, if_pos h5]
theorem mF_fz {c m : Str} {g : List D → Option (List D)} {fo : E} {fs : EL} {o : D} {r : List D} {fs0 : List Str} {vs ds es : List D} (h1 : fo ρ S = some o) (h2 : objD S o = some (c, fs0, vs)) (h3 : noF fs0 m = true) (h4 : fs ρ S = some ds) (h5 : nrs (o :: ds) = false) (h6 : fzs S (o :: ds) = some es)
    (h7 : g es = some r) (h8 : imms r = true) : mF c m g fo fs ρ S = some r := by
  unfold mF
  simp only [h1, h2, Option.bind_some, true_and, if_pos h3, h4]
  rw [if_neg (by rw [h5]; decide), h6]
  simp only [Option.bind_some, h7, if_pos h8]
theorem mS_eq {c m : Str} {g : SF} {fo : E} {fs : EL} {o : D} {fs0 : List Str} {vs ds : List D} (h1 : fo ρ S = some o) (h2 : objD S o = some (c, fs0, vs)) (h3 : noF fs0 m = true) (h4 : fs ρ S = some ds) : mS c m g fo fs ρ S = g (o :: ds) S := by
  unfold mS
  simp only [h1, h2, Option.bind_some, true_and, if_pos h3, h4]
theorem mk_eq {c : Str} {g : SF} {fs : EL} {ds : List D} {S' : Sto} (h1 : fs ρ S = some ds) (h2 : g (.ref S.length :: ds) (S ++ [.ins c [] []]) = some (.non, S')) : mk c g fs ρ S = some (.ref S.length, S') := by
  unfold mk
  simp only [h1, h2, Option.bind_some]
theorem mkV_eq {c : Str} {g : SF} {fs : EL} {ds : List D} {S' : Sto} {d : D} (h1 : fs ρ S = some ds) (h2 : nrs ds = true) (h3 : g (.ref 0 :: ds) [.ins c [] []] = some (.non, S')) (h4 : fz S' (.ref 0) = some d) : mkV c g fs ρ S = some d := by
  unfold mkV
  simp only [h1, h2, h3, h4, Option.bind_some, if_true]
/-- a def that changes things, that leaves as many cells as there were -/
theorem runS_nx {b : T} {n : Nat} {ds : List D} {S1 : Sto} {ρ1 : Rho} (h : b (startR n ds) S = some (.nx, ρ1, S1)) (hl : S1.length ≤ S.length) : runS b n ds S = some (.non, S1) := by
  unfold runS
  simp only [h, Option.bind_some, finS, if_pos hl]
theorem runS_rt {b : T} {n : Nat} {ds : List D} {S1 : Sto} {ρ1 : Rho} {d : D} (h : b (startR n ds) S = some (.rt d, ρ1, S1)) (hl : S1.length ≤ S.length) : runS b n ds S = some (d, S1) := by
  unfold runS
  simp only [h, Option.bind_some, finS, if_pos hl]
theorem runS_cut {b : T} {n : Nat} {ds : List D} {S1 : Sto} {ρ1 : Rho} {d : D} (h : b (startR n ds) S = some (.rt d, ρ1, S1)) (hl : S.length < S1.length) (hr : nr d = true) (hc : (S1.take S.length).all (rbC S.length) = true) : runS b n ds S = some (d, S1.take S.length) := by
  unfold runS
  have : ¬ S1.length ≤ S.length := by omega
  simp only [h, Option.bind_some, finS, if_neg this, finK, if_pos hc, if_pos hr]
theorem runF_rf {b : T} {n : Nat} {ds es : List D} {S1 : Sto} {ρ1 : Rho} (h : b (startR n ds) [] = some (.rf es, ρ1, S1)) (hn : nrs es = true) : runF b n ds = some es := by
  unfold runF
  simp only [h, Option.bind_some, if_pos hn]
theorem runF_rt {b : T} {n m : Nat} {ds es : List D} {S1 : Sto} {ρ1 : Rho} (h : b (startR n ds) [] = some (.rt (.ref m), ρ1, S1)) (hm : S1[m]? = some (.lst es)) (hn : nrs es = true) : runF b n ds = some es := by
  unfold runF
  simp only [h, Option.bind_some, hm, if_pos hn]
theorem fz_ins {S : Sto} {n : Nat} {c : Str} {fs : List Str} {vs es : List D} (h : S[n]? = some (.ins c fs vs)) (h2 : vs.mapM (frz 5 S) = some es) : fz S (.ref n) = some (.ins c fs es) := by
  have e : fz S (.ref n) = frz 6 S (.ref n) := if_neg (by simp)
  rw [e]
  show frzS _ (.ref n) = _
  simp only [frzS, h, Option.bind_some, h2, Option.map_some]
theorem frz_lst {S : Sto} {n k : Nat} {ds es : List D} (h : S[n]? = some (.lst ds)) (h2 : ds.mapM (frz k S) = some es) : frz (k + 1) S (.ref n) = some (.lst es) := by
  show frzS _ (.ref n) = _
  simp only [frzS, h, Option.bind_some, h2, Option.map_some]
theorem frz_dic {S : Sto} {n k : Nat} {t : Bool} {ks vs es : List D} (h : S[n]? = some (.dic t ks vs)) (h2 : vs.mapM (frz k S) = some es) : frz (k + 1) S (.ref n) = some (.dic t ks es) := by
  show frzS _ (.ref n) = _
  simp only [frzS, h, Option.bind_some, h2, Option.map_some]
theorem frz_ins {S : Sto} {n k : Nat} {c : Str} {fs : List Str} {vs es : List D} (h : S[n]? = some (.ins c fs vs)) (h2 : vs.mapM (frz k S) = some es) : frz (k + 1) S (.ref n) = some (.ins c fs es) := by
  show frzS _ (.ref n) = _
  simp only [frzS, h, Option.bind_some, h2, Option.map_some]
theorem frz_lst0 {S : Sto} {n k : Nat} {ds : List D} (h : S[n]? = some (.lst ds)) (h2 : nrs ds = true) : frz (k + 1) S (.ref n) = some (.lst ds) :=
  frz_lst h (mapM_id fun d m => frz_nr k S (nrs_all.mp h2 d m))
theorem frz_dic0 {S : Sto} {n k : Nat} {t : Bool} {ks vs : List D} (h : S[n]? = some (.dic t ks vs)) (h2 : nrs vs = true) : frz (k + 1) S (.ref n) = some (.dic t ks vs) :=
  frz_dic h (mapM_id fun d m => frz_nr k S (nrs_all.mp h2 d m))
theorem mapM_cons' {α β : Type} {g : α → Option β} {a : α} {l : List α} {b : β} {r : List β} (h1 : g a = some b) (h2 : l.mapM g = some r) : (a :: l).mapM g = some (b :: r) := by
  rw [List.mapM_cons, h1, h2]
  rfl
theorem mapM_map {α β γ : Type} {g : β → Option γ} {f : α → β} {h : α → γ} : ∀ {l : List α}, (∀ a ∈ l, g (f a) = some (h a)) → (l.map f).mapM g = some (l.map h)
  | [], _ => rfl
  | a :: l, H => mapM_cons' (H a List.mem_cons_self) (mapM_map fun x m => H x (List.mem_cons_of_mem _ m))
end
end DL

set_option maxHeartbeats 4000000
namespace DL
open PySem PySem.Spec L2
mutual
theorem eqD_self : ∀ (n : Nat) (d : D), okD n d = true → eqD d d = true
  | _, .non, _ => rfl
  | _, .bl b, _ => by simp [eqD]
  | _, .int i, _ => by simp [eqD]
  | _, .str s, _ => by simp [eqD]
  | 0, .tup ds, h => by simp [okD] at h
  | n + 1, .tup ds, h => by
    rw [ok_tup] at h
    simp [eqD, eqDs_self n ds h]
  | 0, .lst ds, h => by simp [okD] at h
  | n + 1, .lst ds, h => by
    rw [ok_lst] at h
    simp [eqD, eqDs_self n ds h]
  | n, .ty _, h => by cases n <;> simp [okD] at h
  | n, .dic _ _ _, h => by cases n <;> simp [okD] at h
  | n, .scr _, h => by cases n <;> simp [okD] at h
  | n, .ref _, h => by cases n <;> simp [okD] at h
theorem eqDs_self : ∀ (n : Nat) (ds : List D), okDs n ds = true → eqDs ds ds = true
  | _, [], _ => rfl
  | n, d :: ds, h => by
    rw [oks_cons, Bool.and_eq_true] at h
    simp [eqDs, eqD_self n d h.1, eqDs_self n ds h.2]
end
theorem y_neSelf {S : Sto} {d : D} (h : okD 60 d = true) : gNe S d d = some (.bl false) := by
  rw [y_ne h h, eqD_self 60 d h]; rfl
theorem y_eqSelf {S : Sto} {d : D} (h : okD 60 d = true) : gEq S d d = some (.bl true) := by
  rw [y_eq h h, eqD_self 60 d h]
/-! ### dicts whose keys are lots -/
def kKeys (K : List (List Nat)) : List D := K.map lotD
def kVals (K : List (List Nat)) : List D := K.map fun _ => D.bl true
theorem keysOf_nats : ∀ l : List Nat, keysOf (l.map nD) = some (l.map fun k : Nat => (.inl (k : Int) : Key))
  | [] => rfl
  | a :: l => by
    show ((keyOf (nD a)).bind fun k => (keysOf (l.map nD)).map fun ks => k :: ks) = _
    rw [keysOf_nats l]
    rfl
theorem keyT_lot (l : List Nat) : keyT true (lotD l) = true := by
  show (keysOf (l.map nD)).isSome = true
  rw [keysOf_nats]; rfl
theorem hasD_lots (K : List (List Nat)) (l : List Nat) : hasD (kKeys K) (lotD l) = decide (l ∈ K) := by
  induction K with
  | nil => rfl
  | cons x K ih =>
    unfold hasD kKeys at ih ⊢
    simp only [List.map_cons, List.any_cons, ih, eqD_lot, List.mem_cons]
    by_cases h : l = x
    · subst h; simp
    · have h' : ¬ (x = l) := fun e => h e.symm
      simp [h, h']
theorem putV_lots : ∀ (K : List (List Nat)) (l : List Nat), putV (kKeys K) (kVals K) (lotD l) (.bl true) = kVals K
  | [], l => rfl
  | x :: K, l => by
    have st : putV (kKeys (x :: K)) (kVals (x :: K)) (lotD l) (.bl true) = (if eqD (lotD x) (lotD l) then .bl true else .bl true) :: putV (kKeys K) (kVals K) (lotD l) (.bl true) := rfl
    rw [st, putV_lots K l]
    simp [kVals]
/-- d[lot] = True -/
theorem put_lot {f fo fi : E} {ρ : Rho} {S : Sto} {n : Nat} {K : List (List Nat)} {l : List Nat} (h1 : f ρ S = some (.bl true)) (h2 : fo ρ S = some (.ref n)) (h3 : fi ρ S = some (lotD l)) (h4 : S[n]? = some (.dic true (kKeys K) (kVals K))) (h6 : K.length ≤ 1000000) :
    sDPutD f fo fi ρ S = some (.nx, ρ, S.set n (if l ∈ K then .dic true (kKeys K) (kVals K) else .dic true (kKeys (K ++ [l])) (kVals (K ++ [l])))) := by
  have hd : dcell S (.ref n) = some (n, true, kKeys K, kVals K) := by
    simp only [dcell, h4]
  have hl : (kKeys K).length = K.length := by simp [kKeys]
  unfold sDPutD
  simp only [h1, h2, h3, hd, Option.bind_some, keyT_lot, hl, small_eq, decide_eq_true h6, Bool.and_self, if_true, hasD_lots, putV_lots]
  by_cases h : l ∈ K
  · simp [h]
  · simp [h, kKeys, kVals]
theorem k_sortedK {S : Sto} {x : D} {t : Bool} {ks vs : List D} (h : dicD S x = some (t, ks, vs)) (g : gdS ks = true) : cSortedK S [x] = some (sortD ks) := by
  simp [cSortedK, h, g]
theorem sort_lots_eq {J K : List (List Nat)} (p : J.Perm K) : sortD (J.map lotD) = sortD (K.map lotD) :=
  sortD_uniq (gdS_lots K) ((sortD_perm _).trans (p.map lotD)) (sortD_pw _)
/-! ### comprehensions, one by one -/
theorem fcomp_of {f : EL} {vs : List Nat} {g : G} {t : EB} {e : E} {ρ : Rho} {S : Sto} {α : Type} (emb : α → D) (xs : List α) (p : α → Bool) (h : α → D) (h1 : f ρ S = some (xs.map emb)) (hl : xs.length ≤ 1000000)
    (h2 : ∀ x ∈ xs, ∃ ρ1, g (emb x) (wipeR ρ vs) = some ρ1 ∧ t ρ1 S = some (p x) ∧ (p x = true → e ρ1 S = some (h x))) : fComp f vs g t e ρ S = some ((xs.filter p).map h) := by
  rw [x_fComp, h1, Option.bind_some, compL_map emb p h xs h2, Option.bind_some]
  exact mkL_flt hl
theorem fcomp_all {f : EL} {vs : List Nat} {g : G} {e : E} {ρ : Rho} {S : Sto} {α : Type} (emb : α → D) (xs : List α) (h : α → D) (h1 : f ρ S = some (xs.map emb)) (hl : xs.length ≤ 1000000)
    (h2 : ∀ x ∈ xs, ∃ ρ1, g (emb x) (wipeR ρ vs) = some ρ1 ∧ e ρ1 S = some (h x)) : fComp f vs g bYes e ρ S = some (xs.map h) := by
  rw [x_fComp, h1, Option.bind_some, compL_all emb h xs h2, Option.bind_some]
  exact mkL_map hl
end DL

set_option maxHeartbeats 4000000
namespace DL
open PySem PySem.Spec L2
noncomputable section
def b_law_mixed : T := sSeq (sSet 2 (e2 gAddA (e2 gAddA (e2 gMulA (eCall cInt (aCons (eV 0) (aNil))) (eC (.int 48271))) (e2 gMulA (eV 1) (eC (.int 69621)))) (eC (.int 11)))) (sRet (e2 gMod (eCall cInt (aCons (e2 gAddA (e2 gMulA (eV 2) (eC (.int 16807))) (e2 gDiv (eV 2) (eC (.int 8191)))) (aNil))) (eC (.int 2147483647))))
def f_law_mixed : List D → Option D := runD b_law_mixed 3
def l1_law_row : T := sIf (eTru (eV 5)) (sSeq (sApp (eV 3) (e2 gMod (eCall cInt (aCons (eV 4) (aNil))) (eV 2))) (sSet 4 (e2 gDiv (eV 4) (eV 2)))) (sApp (eV 3) (e2 gMod (e2 gDiv (eFn f_law_mixed (aCons (eV 0) (aCons (eV 6) (aNil)))) (eC (.int 7))) (eV 2)))
def b_law_row : T := sSeq (sNew 3 (fLst (aNil))) (sSeq (sSet 4 (eCall cInt (aCons (eV 0) (aNil)))) (sSeq (sSet 5 (e2 gGe (eV 4) (eC (.int 1000000000000000000)))) (sSeq (sFor (iRng rng1 (aCons (eV 1) (aNil))) (gN 6) l1_law_row) (sRet (eV 3)))))
def f_law_row : List D → Option D := runD b_law_row 7
def b_is_tuple_of : T := sRet (eAnd (eCall cIsi (aCons (eV 0) (aCons (eC (.ty "tuple")) (aNil)))) (e2 gEq (eCall cLen (aCons (eV 0) (aNil))) (eV 1)))
def f_is_tuple_of : List D → Option D := runD b_is_tuple_of 2
def b_is_integer : T := sRet (eAnd (eCall cIsi (aCons (eV 0) (aCons (eC (.ty "int")) (aNil)))) (eNot (eCall cIsi (aCons (eV 0) (aCons (eC (.ty "bool")) (aNil))))))
def f_is_integer : List D → Option D := runD b_is_integer 1
def b_is_between : T := sRet (eAnd (eFn f_is_integer (aCons (eV 0) (aNil))) (e3c gLe gLe (eV 1) (eV 0) (eV 2)))
def f_is_between : List D → Option D := runD b_is_between 3
def b_is_under : T := sRet (eAnd (eFn f_is_integer (aCons (eV 0) (aNil))) (e3c gLe gLt (eC (.int 0)) (eV 0) (eV 1)))
def f_is_under : List D → Option D := runD b_is_under 2
def b_are_deals : T := sSeq (sIf (bOr (bNot (eTru (eFn f_is_tuple_of (aCons (eV 0) (aCons (eC (.int 2)) (aNil)))))) (bNot (eTru (eFn f_is_between (aCons (e2 gIx (eV 0) (eC (.int 0))) (aCons (eC (.int 2)) (aCons (eC (.int 6)) (aNil)))))))) (sRet (eC (.bl false))) (sSkip)) (sSeq (sIf (bOr (bNot (eTru (eCall cIsi (aCons (e2 gIx (eV 0) (eC (.int 1))) (aCons (eC (.ty "tuple")) (aNil)))))) (bNot (eB (e3c gLe gLe (eC (.int 1)) (eCall cLen (aCons (e2 gIx (eV 0) (eC (.int 1))) (aNil))) (eC (.int 10)))))) (sRet (eC (.bl false))) (sSkip)) (sRet (eCall cAll (aCons (eF (fComp (jSeqD (e2 gIx (eV 0) (eC (.int 1)))) [1] (gN 1) (bYes) (eAnd (eFn f_is_tuple_of (aCons (eV 1) (aCons (eC (.int 2)) (aNil)))) (eAnd (eFn f_is_under (aCons (e2 gIx (eV 1) (eC (.int 0))) (aCons (e2 gIx (eV 0) (eC (.int 0))) (aNil)))) (eAnd (eFn f_is_under (aCons (e2 gIx (eV 1) (eC (.int 1))) (aCons (e2 gIx (eV 0) (eC (.int 0))) (aNil)))) (e2 gNe (e2 gIx (eV 1) (eC (.int 0))) (e2 gIx (eV 1) (eC (.int 1))))))))) (aNil)))))
def f_are_deals : List D → Option D := runD b_are_deals 2
def b_need_deals : T := sIf (bNot (eTru (eFn f_are_deals (aCons (eV 0) (aNil))))) (sNever) (sSkip)
def f_need_deals : List D → Option D := runD b_need_deals 1
def b_are_under : T := sRet (eAnd (eCall cIsi (aCons (eV 0) (aCons (eC (.ty "tuple")) (aNil)))) (eCall cAll (aCons (eF (fComp (jSeqD (eV 0)) [2] (gN 2) (bYes) (eFn f_is_under (aCons (eV 2) (aCons (eV 1) (aNil)))))) (aNil))))
def f_are_under : List D → Option D := runD b_are_under 3
def b_is_lot : T := sRet (eAnd (eFn f_are_under (aCons (eV 0) (aCons (eV 1) (aNil)))) (eCall cAll (aCons (eF (fComp (iRng rng2 (aCons (eC (.int 1)) (aCons (eCall cLen (aCons (eV 0) (aNil))) (aNil)))) [2] (gN 2) (bYes) (e2 gLt (e2 gIx (eV 0) (e2 gSub (eV 2) (eC (.int 1)))) (e2 gIx (eV 0) (eV 2))))) (aNil))))
def f_is_lot : List D → Option D := runD b_is_lot 3
def b_need_free : T := sIf (bNot (eTru (eFn f_is_lot (aCons (eV 1) (aCons (e2 gIx (eV 0) (eC (.int 0))) (aNil)))))) (sNever) (sSkip)
def f_need_free : List D → Option D := runD b_need_free 2
def b_deals_of : T := sRet (eF (fComp (iEnumD (aCons (e2 gIx (eV 0) (eC (.int 1))) (aNil))) [2, 3] (gT 2 (gCons (gN 2) (gCons (gN 3) (gNil)))) (eB (e2 (gInS false) (eV 1) (eV 3))) (eV 2)))
def f_deals_of : List D → Option D := runD b_deals_of 4
def b_Taking_left_of : T := sRetF (fComp (jSeqD (eFn f_deals_of (aCons (e1 (gAttr "Taking" "deals") (eV 0)) (aCons (eV 1) (aNil))))) [2] (gN 2) (eB (e2 (gDIn true) (eV 2) (e1 (gAttr "Taking" "firsts") (eV 0)))) (eV 2))
def f_Taking_left_of : List D → Option (List D) := runF b_Taking_left_of 3
def b_Taking_take : T := sSeq (sDPutD (eV 2) (e1 (gAttr "Taking" "firsts") (eV 0)) (eV 1)) (sApp (e1 (gAttr "Taking" "order") (eV 0)) (eTup (aCons (eV 2) (aCons (eV 1) (aNil)))))
def f_Taking_take : SF := runS b_Taking_take 3
def b_Taking_firsts_of : T := sRetF (fComp (jSeqD (eFn f_deals_of (aCons (e1 (gAttr "Taking" "deals") (eV 0)) (aCons (eV 1) (aNil))))) [2] (gN 2) (eB (e2 (gDIn false) (eV 2) (e1 (gAttr "Taking" "firsts") (eV 0)))) (e2 gDGet (e1 (gAttr "Taking" "firsts") (eV 0)) (eV 2)))
def f_Taking_firsts_of : List D → Option (List D) := runF b_Taking_firsts_of 3
def l1_Taking_take_next : T := sSeq (sSet 2 (eF (mF "Taking" "left_of" f_Taking_left_of (eV 0) (aCons (eV 1) (aNil))))) (sIf (bAnd (eB (e2 gEq (eCall cLen (aCons (eV 2) (aNil))) (eC (.int 1)))) (eB (e2 (gInS true) (eV 1) (eF (mF "Taking" "firsts_of" f_Taking_firsts_of (eV 0) (aCons (eV 1) (aNil))))))) (sSeq (sDropS (mS "Taking" "take" f_Taking_take (eV 0) (aCons (e2 gIx (eV 2) (eC (.int 0))) (aCons (eV 1) (aNil))))) (sRet (eC (.bl true)))) (sSkip))
def b_Taking_take_next : T := sSeq (sFor (iSeqD (e1 (gAttr "Taking" "bound") (eV 0))) (gN 1) l1_Taking_take_next) (sRet (eC (.bl false)))
def f_Taking_take_next : SF := runS b_Taking_take_next 3
def l1_Taking_init : T := sSeq (sSet 5 (eF (fComp (jSeqD (eF (fCall cSorted (aCons (eV 4) (aNil))))) [6] (gN 6) (eB (e2 (gInS false) (eV 6) (eV 2))) (eV 6)))) (sIf (eTru (eV 5)) (sDropS (mS "Taking" "take" f_Taking_take (eV 0) (aCons (eV 3) (aCons (e2 gIx (eV 5) (eC (.int 0))) (aNil))))) (sSkip))
def l2_Taking_init : T := sSkip
def l2_Taking_init_s : EBS := bS (mS "Taking" "take_next" f_Taking_take_next (eV 0) (aNil))
def b_Taking_init : T := sSeq (sAttr "Taking" "deals" (eV 1) (eV 0)) (sSeq (sAttrN "Taking" "firsts" (cD false) (eV 0)) (sSeq (sAttrN "Taking" "order" (cL (fLst (aNil))) (eV 0)) (sSeq (sFor (iEnumD (aCons (e2 gIx (eV 1) (eC (.int 1))) (aNil))) (gT 2 (gCons (gN 3) (gCons (gN 4) (gNil)))) l1_Taking_init) (sSeq (sAttr "Taking" "bound" (eF (fComp (iRng rng1 (aCons (e2 gIx (eV 1) (eC (.int 0))) (aNil))) [6] (gN 6) (eB (e2 (gInS true) (eV 6) (eV 2))) (eV 6))) (eV 0)) (sWhileS l2_Taking_init_s l2_Taking_init)))))
def f_Taking_init : SF := runS b_Taking_init 7
def b_other_of : T := sSeq (sAsg (e2 gIx (e2 gIx (eV 0) (eC (.int 1))) (eV 1)) (gT 2 (gCons (gN 3) (gCons (gN 4) (gNil))))) (sRet (eIf (eB (e2 gEq (eV 2) (eV 3))) (eV 4) (eV 3)))
def f_other_of : List D → Option D := runD b_other_of 5
def l1_Taking_bad_round : T := sSeq (sSet 4 (e2 gIx (eF (fComp (jSeqD (eF (mF "Taking" "left_of" f_Taking_left_of (eV 0) (aCons (eV 1) (aNil))))) [8] (gN 8) (eB (e2 gNe (eV 8) (eV 3))) (eV 8))) (eC (.int 0)))) (sSeq (sApp (eV 2) (eTup (aCons (eV 1) (aCons (eV 4) (aNil))))) (sSeq (sSet 3 (eV 4)) (sSet 1 (eFn f_other_of (aCons (e1 (gAttr "Taking" "deals") (eV 0)) (aCons (eV 4) (aCons (eV 1) (aNil))))))))
def l1_Taking_bad_round_t : EB := eB (e2 (gInS true) (eV 1) (eF (fComp (jSeqD (eV 2)) [6, 7] (gT 2 (gCons (gN 6) (gCons (gN 7) (gNil)))) (bYes) (eV 6))))
def b_Taking_bad_round : T := sSeq (sSet 1 (eCall cMin (aCons (eF (fComp (jSeqD (e1 (gAttr "Taking" "bound") (eV 0))) [6] (gN 6) (eTru (eF (mF "Taking" "left_of" f_Taking_left_of (eV 0) (aCons (eV 6) (aNil))))) (eV 6))) (aNil)))) (sSeq (sNew 2 (fLst (aNil))) (sSeq (sSet 3 (eC .non)) (sSeq (sWhile l1_Taking_bad_round_t l1_Taking_bad_round) (sSeq (sSet 5 (e2 gIdx (eF (fComp (jSeqD (eV 2)) [6, 7] (gT 2 (gCons (gN 6) (gCons (gN 7) (gNil)))) (bYes) (eV 6))) (eV 1))) (sRet (eCall cTuple (aCons (eCutA (eV 2) (oSome (eV 5)) (oNone)) (aNil))))))))
def f_Taking_bad_round : List D → Option D := runD b_Taking_bad_round 9
def b_agent_firsts : T := sSeq (sDrop (eFn f_need_deals (aCons (eV 0) (aNil)))) (sSeq (sDrop (eFn f_need_free (aCons (eV 0) (aCons (eV 1) (aNil))))) (sSeq (sSet 2 (mkV "Taking" f_Taking_init (aCons (eV 0) (aCons (eV 1) (aNil))))) (sSeq (sSet 3 (eCall cLen (aCons (e2 gIx (eV 0) (eC (.int 1))) (aNil)))) (sSeq (sIf (eB (e2 gEq (eCall cLenK (aCons (e1 (gAttr "Taking" "firsts") (eV 2)) (aNil))) (eV 3))) (sRet (eTup (aCons (eC (.str "firsts")) (aCons (eCall cTuple (aCons (eF (fComp (iRng rng1 (aCons (eV 3) (aNil))) [4] (gN 4) (bYes) (e2 gDGet (e1 (gAttr "Taking" "firsts") (eV 2)) (eV 4)))) (aNil))) (aCons (eCall cTuple (aCons (e1 (gAttr "Taking" "order") (eV 2)) (aNil))) (aNil)))))) (sSkip)) (sRet (eTup (aCons (eC (.str "round")) (aCons (mP "Taking" "bad_round" f_Taking_bad_round (eV 2) (aNil)) (aNil)))))))))
def f_agent_firsts : List D → Option D := runD b_agent_firsts 5
def b_are_firsts : T := sRet (eAnd (eFn f_is_tuple_of (aCons (eV 1) (aCons (eCall cLen (aCons (e2 gIx (eV 0) (eC (.int 1))) (aNil))) (aNil)))) (eCall cAll (aCons (eF (fComp (iZipD (aCons (eV 1) (aCons (e2 gIx (eV 0) (eC (.int 1))) (aNil)))) [2, 3] (gT 2 (gCons (gN 2) (gCons (gN 3) (gNil)))) (bYes) (eAnd (eFn f_is_under (aCons (eV 2) (aCons (e2 gIx (eV 0) (eC (.int 0))) (aNil)))) (e2 (gInS false) (eV 2) (eV 3))))) (aNil))))
def f_are_firsts : List D → Option D := runD b_are_firsts 4
def b_need_firsts : T := sIf (bNot (eTru (eFn f_are_firsts (aCons (eV 0) (aCons (eV 1) (aNil)))))) (sNever) (sSkip)
def f_need_firsts : List D → Option D := runD b_need_firsts 2
def l1_is_agent_conduct : T := sSeq (sIf (bOr (bNot (eTru (eFn f_is_between (aCons (e2 gIx (eV 3) (eC (.int 0))) (aCons (eC (.int 0)) (aCons (eC (.int 40)) (aNil))))))) (bOr (bNot (eTru (eFn f_is_under (aCons (e2 gIx (eV 3) (eC (.int 1))) (aCons (e2 gIx (eV 0) (eC (.int 0))) (aNil)))))) (eB (e2 (gInS true) (e2 gIx (eV 3) (eC (.int 1))) (eV 1))))) (sRet (eC (.bl false))) (sSkip)) (sIf (bOr (bNot (eTru (eFn f_is_under (aCons (e2 gIx (eV 3) (eC (.int 2))) (aCons (eCall cLen (aCons (e2 gIx (eV 0) (eC (.int 1))) (aNil))) (aNil)))))) (eB (e2 (gInS true) (e2 gIx (eV 3) (eC (.int 1))) (e2 gIx (e2 gIx (eV 0) (eC (.int 1))) (e2 gIx (eV 3) (eC (.int 2))))))) (sRet (eC (.bl false))) (sSkip))
def b_is_agent_conduct : T := sSeq (sIf (bOr (bNot (eTru (eCall cIsi (aCons (eV 2) (aCons (eC (.ty "tuple")) (aNil)))))) (bOr (eB (e2 gGt (eCall cLen (aCons (eV 2) (aNil))) (eC (.int 100)))) (bNot (eTru (eCall cAll (aCons (eF (fComp (jSeqD (eV 2)) [3] (gN 3) (bYes) (eFn f_is_tuple_of (aCons (eV 3) (aCons (eC (.int 3)) (aNil)))))) (aNil))))))) (sRet (eC (.bl false))) (sSkip)) (sSeq (sFor (iSeqD (eV 2)) (gN 3) l1_is_agent_conduct) (sRet (eCall cAll (aCons (eF (fComp (iRng rng2 (aCons (eC (.int 1)) (aCons (eCall cLen (aCons (eV 2) (aNil))) (aNil)))) [4] (gN 4) (bYes) (e2 gLe (e2 gIx (e2 gIx (eV 2) (e2 gSub (eV 4) (eC (.int 1)))) (eC (.int 0))) (e2 gIx (e2 gIx (eV 2) (eV 4)) (eC (.int 0)))))) (aNil)))))
def f_is_agent_conduct : List D → Option D := runD b_is_agent_conduct 5
def b_need_agents : T := sSeq (sDrop (eFn f_need_deals (aCons (eV 0) (aNil)))) (sSeq (sDrop (eFn f_need_free (aCons (eV 0) (aCons (eV 1) (aNil))))) (sSeq (sDrop (eFn f_need_firsts (aCons (eV 0) (aCons (eV 2) (aNil))))) (sSeq (sDrop (eFn f_need_free (aCons (eV 0) (aCons (eV 3) (aNil))))) (sIf (bNot (eTru (eFn f_is_agent_conduct (aCons (eV 0) (aCons (eV 3) (aCons (eV 4) (aNil))))))) (sNever) (sSkip)))))
def f_need_agents : List D → Option D := runD b_need_agents 5
def b_Agents_init : T := sSeq (sAttr "Agents" "deals" (eV 1) (eV 0)) (sSeq (sAttr "Agents" "content" (eV 2) (eV 0)) (sSeq (sAttr "Agents" "firsts" (eV 3) (eV 0)) (sSeq (sAttr "Agents" "league" (eV 4) (eV 0)) (sAttrN "Agents" "held" (cLL (jSeqD (e2 gIx (eV 1) (eC (.int 1)))) (.lst [])) (eV 0)))))
def f_Agents_init : SF := runS b_Agents_init 6
def b_Agents_is_covered : T := sRet (e2 (gInS false) (eFn f_other_of (aCons (e1 (gAttr "Agents" "deals") (eV 0)) (aCons (eV 2) (aCons (eV 1) (aNil))))) (e2 gIx (e1 (gAttr "Agents" "held") (eV 0)) (eV 2)))
def f_Agents_is_covered : List D → Option D := runD b_Agents_is_covered 3
def b_Agents_wishes : T := sSeq (sSet 2 (eFn f_deals_of (aCons (e1 (gAttr "Agents" "deals") (eV 0)) (aCons (eV 1) (aNil))))) (sSeq (sIf (eB (e2 (gInS false) (eV 1) (e1 (gAttr "Agents" "content") (eV 0)))) (sRetF (fComp (jSeqD (eV 2)) [5] (gN 5) (bOr (eB (e2 gEq (e2 gIx (e1 (gAttr "Agents" "firsts") (eV 0)) (eV 5)) (eV 1))) (eTru (mP "Agents" "is_covered" f_Agents_is_covered (eV 0) (aCons (eV 1) (aCons (eV 5) (aNil)))))) (eV 5))) (sSkip)) (sSeq (sNew 3 (fComp (jSeqD (eV 2)) [5] (gN 5) (eB (e2 gEq (e2 gIx (e1 (gAttr "Agents" "firsts") (eV 0)) (eV 5)) (eV 1))) (eV 5))) (sSeq (sSet 4 (eF (fComp (jSeqD (eV 2)) [5] (gN 5) (eB (e2 (gInS true) (eV 5) (eV 3))) (eV 5)))) (sSeq (sIf (bOr (eB (e2 gGt (eCall cLen (aCons (eV 3) (aNil))) (eC (.int 1)))) (bNot (eTru (eCall cAll (aCons (eF (fComp (jSeqD (eV 4)) [5] (gN 5) (bYes) (mP "Agents" "is_covered" f_Agents_is_covered (eV 0) (aCons (eV 1) (aCons (eV 5) (aNil)))))) (aNil)))))) (sRetF (fLst (aNil))) (sSkip)) (sRetR (rIf (eTru (eCall cAll (aCons (eF (fComp (jSeqD (eV 3)) [5] (gN 5) (bYes) (mP "Agents" "is_covered" f_Agents_is_covered (eV 0) (aCons (eV 1) (aCons (eV 5) (aNil)))))) (aNil)))) (rF (f2 gCatF (eV 3) (eV 4))) (rE (eV 3))))))))
def f_Agents_wishes : List D → Option (List D) := runF b_Agents_wishes 6
def l1_Agents_step : T := sIf (eB (e2 (gInS true) (eV 3) (e1 (gAttr "Agents" "league") (eV 0)))) (sExt (eV 2) (eF (fComp (jSeqD (eF (mF "Agents" "wishes" f_Agents_wishes (eV 0) (aCons (eV 3) (aNil))))) [5] (gN 5) (bYes) (eTup (aCons (eV 3) (aCons (eV 5) (aNil))))))) (sSkip)
def l2_Agents_step : T := sIf (eB (e2 (gInS true) (eV 3) (e2 gIx (e1 (gAttr "Agents" "held") (eV 0)) (eV 5)))) (sSeq (sApp (e2 gIx (e1 (gAttr "Agents" "held") (eV 0)) (eV 5)) (eV 3)) (sSet 4 (eC (.bl true)))) (sSkip)
def b_Agents_step : T := sSeq (sNew 2 (fCall cList (aCons (eV 1) (aNil)))) (sSeq (sFor (iRng rng1 (aCons (e2 gIx (e1 (gAttr "Agents" "deals") (eV 0)) (eC (.int 0))) (aNil))) (gN 3) l1_Agents_step) (sSeq (sSet 4 (eC (.bl false))) (sSeq (sForC (eV 2) (gT 2 (gCons (gN 3) (gCons (gN 5) (gNil)))) l2_Agents_step) (sRet (eV 4)))))
def f_Agents_step : SF := runS b_Agents_step 6
def l1_led_agents : T := sSeq (sSetS 8 (mS "Agents" "step" f_Agents_step (eV 5) (aCons (eF (fComp (jSeqD (eV 4)) [9] (gN 9) (eB (e2 gEq (e2 gIx (eV 9) (eC (.int 0))) (eV 7))) (eTup (aCons (e2 gIx (eV 9) (eC (.int 1))) (aCons (e2 gIx (eV 9) (eC (.int 2))) (aNil)))))) (aNil)))) (sAugI 7 (eC (.int 1)))
def l1_led_agents_t : EB := bOr (eTru (eV 8)) (eB (e2 gLe (eV 7) (eV 6)))
def b_led_agents : T := sSeq (sSetS 5 (mk "Agents" f_Agents_init (aCons (eV 0) (aCons (eV 1) (aCons (eV 2) (aCons (eV 3) (aNil))))))) (sSeq (sSet 6 (e2 cMaxD (eF (fComp (jSeqD (eV 4)) [9] (gN 9) (bYes) (e2 gIx (eV 9) (eC (.int 0))))) (eC (.int 0)))) (sSeq (sSet 7 (eC (.int 0))) (sSeq (sSet 8 (eC (.bl true))) (sSeq (sWhile l1_led_agents_t l1_led_agents) (sRet (eV 5))))))
def f_led_agents : List D → Option D := runD b_led_agents 10
def b_Agents_is_done : T := sRet (e2 gEq (eCall cLen (aCons (e2 gIx (e1 (gAttr "Agents" "held") (eV 0)) (eV 1)) (aNil))) (eC (.int 2)))
def f_Agents_is_done : List D → Option D := runD b_Agents_is_done 2
def b_agent_done : T := sSeq (sDrop (eFn f_need_agents (aCons (eV 0) (aCons (eV 1) (aCons (eV 2) (aCons (eV 3) (aCons (eV 4) (aNil)))))))) (sSeq (sSet 5 (eFn f_led_agents (aCons (eV 0) (aCons (eV 1) (aCons (eV 2) (aCons (eV 3) (aCons (eV 4) (aNil)))))))) (sRet (eCall cTuple (aCons (eF (fComp (iRng rng1 (aCons (eCall cLen (aCons (e2 gIx (eV 0) (eC (.int 1))) (aNil))) (aNil))) [6] (gN 6) (eTru (mP "Agents" "is_done" f_Agents_is_done (eV 5) (aCons (eV 6) (aNil)))) (eV 6))) (aNil)))))
def f_agent_done : List D → Option D := runD b_agent_done 7
def b_law_at : T := sSeq (sIf (eB (e2 gLt (eV 1) (eCall cLen (aCons (eV 0) (aNil))))) (sRet (eCall cInt (aCons (e2 gIx (eV 0) (eV 1)) (aNil)))) (sSkip)) (sRet (e2 gAddA (eC (.int 5)) (e2 gMulA (eC (.int 3)) (eV 1))))
def f_law_at : List D → Option D := runD b_law_at 2
def l1_is_order_of : T := sIf (eB (e2 (gInS true) (eV 6) (eV 1))) (sSeq (sSet 8 (eF (fComp (jSeqD (eFn f_deals_of (aCons (eV 0) (aCons (eV 6) (aNil))))) [10] (gN 10) (eB (e2 gNe (eV 10) (eV 7))) (eV 10)))) (sIf (bNot (eTru (eCall cAll (aCons (eF (fComp (jSeqD (eV 8)) [10] (gN 10) (bYes) (eAnd (e2 (gInS false) (eV 10) (eCutA (eV 4) (oNone) (oSome (eV 5)))) (e2 gNe (e2 gIx (eV 2) (eV 10)) (eV 6))))) (aNil))))) (sRet (eC (.bl false))) (sSkip))) (sSkip)
def b_is_order_of : T := sSeq (sIf (bOr (bNot (eTru (eFn f_is_tuple_of (aCons (eV 3) (aCons (eCall cLen (aCons (e2 gIx (eV 0) (eC (.int 1))) (aNil))) (aNil)))))) (bNot (eTru (eCall cAll (aCons (eF (fComp (jSeqD (eV 3)) [9] (gN 9) (bYes) (eFn f_is_tuple_of (aCons (eV 9) (aCons (eC (.int 2)) (aNil)))))) (aNil)))))) (sRet (eC (.bl false))) (sSkip)) (sSeq (sIf (bNot (eTru (eCall cAll (aCons (eF (fComp (jSeqD (eV 3)) [9] (gN 9) (bYes) (eAnd (eFn f_is_under (aCons (e2 gIx (eV 9) (eC (.int 1))) (aCons (eCall cLen (aCons (e2 gIx (eV 0) (eC (.int 1))) (aNil))) (aNil)))) (e2 gEq (e2 gIx (eV 9) (eC (.int 0))) (e2 gIx (eV 2) (e2 gIx (eV 9) (eC (.int 1)))))))) (aNil))))) (sRet (eC (.bl false))) (sSkip)) (sSeq (sSet 4 (eF (fComp (jSeqD (eV 3)) [9] (gN 9) (bYes) (e2 gIx (eV 9) (eC (.int 1)))))) (sSeq (sIf (eB (e2 gNe (eF (fCall cSorted (aCons (eV 4) (aNil)))) (eF (rg1 (eCall cLen (aCons (e2 gIx (eV 0) (eC (.int 1))) (aNil))))))) (sRet (eC (.bl false))) (sSkip)) (sSeq (sFor (iEnumD (aCons (eV 3) (aNil))) (gT 2 (gCons (gN 5) (gCons (gT 2 (gCons (gN 6) (gCons (gN 7) (gNil)))) (gNil)))) l1_is_order_of) (sRet (eC (.bl true)))))))
def f_is_order_of : List D → Option D := runD b_is_order_of 11
def b_is_round_of : T := sSeq (sIf (bOr (bNot (eTru (eCall cIsi (aCons (eV 2) (aCons (eC (.ty "tuple")) (aNil)))))) (bOr (eB (e2 gLt (eCall cLen (aCons (eV 2) (aNil))) (eC (.int 2)))) (bNot (eTru (eCall cAll (aCons (eF (fComp (jSeqD (eV 2)) [5] (gN 5) (bYes) (eFn f_is_tuple_of (aCons (eV 5) (aCons (eC (.int 2)) (aNil)))))) (aNil))))))) (sRet (eC (.bl false))) (sSkip)) (sSeq (sIf (bNot (eTru (eCall cAll (aCons (eF (fComp (jSeqD (eV 2)) [5] (gN 5) (bYes) (eAnd (eFn f_is_under (aCons (e2 gIx (eV 5) (eC (.int 0))) (aCons (e2 gIx (eV 0) (eC (.int 0))) (aNil)))) (eFn f_is_under (aCons (e2 gIx (eV 5) (eC (.int 1))) (aCons (eCall cLen (aCons (e2 gIx (eV 0) (eC (.int 1))) (aNil))) (aNil))))))) (aNil))))) (sRet (eC (.bl false))) (sSkip)) (sSeq (sAsg (eTup (aCons (eF (fComp (jSeqD (eV 2)) [5] (gN 5) (bYes) (e2 gIx (eV 5) (eC (.int 0))))) (aCons (eF (fComp (jSeqD (eV 2)) [5] (gN 5) (bYes) (e2 gIx (eV 5) (eC (.int 1))))) (aNil)))) (gT 2 (gCons (gN 3) (gCons (gN 4) (gNil))))) (sSeq (sIf (bOr (eB (e2 gNe (e1 cLenSet (eV 3)) (eCall cLen (aCons (eV 3) (aNil))))) (eB (e2 gNe (e1 cLenSet (eV 4)) (eCall cLen (aCons (eV 4) (aNil)))))) (sRet (eC (.bl false))) (sSkip)) (sSeq (sIf (eTru (eCall cAny (aCons (eF (fComp (jSeqD (eV 3)) [6] (gN 6) (bYes) (e2 (gInS false) (eV 6) (eV 1)))) (aNil)))) (sRet (eC (.bl false))) (sSkip)) (sRet (eCall cAll (aCons (eF (fComp (iRng rng1 (aCons (eCall cLen (aCons (eV 2) (aNil))) (aNil))) [7] (gN 7) (bYes) (e2 gEq (eF (fCall cSorted (aCons (e2 gIx (e2 gIx (eV 0) (eC (.int 1))) (e2 gIx (eV 4) (e2 gSub (eV 7) (eC (.int 1))))) (aNil)))) (eF (fCall cSorted (aCons (eF (fLst (aCons (e2 gIx (eV 3) (e2 gSub (eV 7) (eC (.int 1)))) (aCons (e2 gIx (eV 3) (eV 7)) (aNil))))) (aNil))))))) (aNil))))))))
def f_is_round_of : List D → Option D := runD b_is_round_of 8
def b_is_agent_paper : T := sSeq (sDrop (eFn f_need_deals (aCons (eV 0) (aNil)))) (sSeq (sDrop (eFn f_need_free (aCons (eV 0) (aCons (eV 1) (aNil))))) (sSeq (sIf (bOr (bNot (eTru (eCall cIsi (aCons (eV 2) (aCons (eC (.ty "tuple")) (aNil)))))) (bOr (eB (e2 gLt (eCall cLen (aCons (eV 2) (aNil))) (eC (.int 2)))) (bNot (eTru (eCall cIsi (aCons (e2 gIx (eV 2) (eC (.int 0))) (aCons (eC (.ty "str")) (aNil)))))))) (sRet (eC (.bl false))) (sSkip)) (sSeq (sIf (eB (e2 gEq (e2 gIx (eV 2) (eC (.int 0))) (eC (.str "round")))) (sRet (eAnd (e2 gEq (eCall cLen (aCons (eV 2) (aNil))) (eC (.int 2))) (eFn f_is_round_of (aCons (eV 0) (aCons (eV 1) (aCons (e2 gIx (eV 2) (eC (.int 1))) (aNil))))))) (sSkip)) (sSeq (sIf (bOr (eB (e2 gNe (e2 gIx (eV 2) (eC (.int 0))) (eC (.str "firsts")))) (bOr (eB (e2 gNe (eCall cLen (aCons (eV 2) (aNil))) (eC (.int 3)))) (bNot (eTru (eFn f_are_firsts (aCons (eV 0) (aCons (e2 gIx (eV 2) (eC (.int 1))) (aNil)))))))) (sRet (eC (.bl false))) (sSkip)) (sRet (eFn f_is_order_of (aCons (eV 0) (aCons (eV 1) (aCons (e2 gIx (eV 2) (eC (.int 1))) (aCons (e2 gIx (eV 2) (eC (.int 2))) (aNil)))))))))))
def f_is_agent_paper : List D → Option D := runD b_is_agent_paper 3
def l1_law_is_round : T := sSeq (sIf (eB (e2 (gInS false) (e2 gIx (eV 4) (eV 5)) (eCutA (eV 4) (oNone) (oSome (eV 5))))) (sRet (eC (.bl false))) (sSkip)) (sIf (eB (e2 gNe (eF (fCall cSorted (aCons (e2 gIx (e2 gIx (eV 0) (eC (.int 1))) (e2 gIx (eV 4) (e2 gSub (eV 5) (eC (.int 1))))) (aNil)))) (eF (fCall cSorted (aCons (eF (fLst (aCons (e2 gIx (eV 3) (e2 gSub (eV 5) (eC (.int 1)))) (aCons (e2 gIx (eV 3) (eV 5)) (aNil))))) (aNil)))))) (sRet (eC (.bl false))) (sSkip))
def b_law_is_round : T := sSeq (sIf (bOr (bNot (eTru (eCall cIsi (aCons (eV 2) (aCons (eC (.ty "tuple")) (aNil)))))) (eB (e2 gLt (eCall cLen (aCons (eV 2) (aNil))) (eC (.int 2))))) (sRet (eC (.bl false))) (sSkip)) (sSeq (sSet 3 (eF (fComp (jSeqD (eV 2)) [6] (gN 6) (bYes) (e2 gIx (eV 6) (eC (.int 0)))))) (sSeq (sSet 4 (eF (fComp (jSeqD (eV 2)) [6] (gN 6) (bYes) (e2 gIx (eV 6) (eC (.int 1)))))) (sSeq (sIf (bOr (eTru (eCall cAny (aCons (eF (fComp (iRng rng1 (aCons (eCall cLen (aCons (eV 3) (aNil))) (aNil))) [5] (gN 5) (bYes) (e2 (gInS false) (e2 gIx (eV 3) (eV 5)) (eCutA (eV 3) (oNone) (oSome (eV 5)))))) (aNil)))) (eTru (eCall cAny (aCons (eF (fComp (jSeqD (eV 3)) [7] (gN 7) (bYes) (e2 (gInS false) (eV 7) (eV 1)))) (aNil))))) (sRet (eC (.bl false))) (sSkip)) (sSeq (sFor (iRng rng1 (aCons (eCall cLen (aCons (eV 2) (aNil))) (aNil))) (gN 5) l1_law_is_round) (sRet (eC (.bl true)))))))
def f_law_is_round : List D → Option D := runD b_law_is_round 8
def b_law_mine : T := sRet (eF (fComp (iRng rng1 (aCons (eCall cLen (aCons (e2 gIx (eV 0) (eC (.int 1))) (aNil))) (aNil))) [2] (gN 2) (eB (e2 (gInS false) (eV 1) (e2 gIx (e2 gIx (eV 0) (eC (.int 1))) (eV 2)))) (eV 2)))
def f_law_mine : List D → Option D := runD b_law_mine 3
def l1_agent_torn : T := sSeq (sSet 5 (eF (fComp (jSeqD (eFn f_deals_of (aCons (eV 0) (aCons (eV 4) (aNil))))) [6] (gN 6) (bYes) (e2 (gInS false) (eV 6) (eV 2))))) (sIf (bAnd (eB (e2 (gInS true) (eV 4) (eV 1))) (bAnd (eTru (eCall cAny (aCons (eV 5) (aNil)))) (bNot (eTru (eCall cAll (aCons (eV 5) (aNil))))))) (sApp (eV 3) (eV 4)) (sSkip))
def b_agent_torn : T := sSeq (sDrop (eFn f_need_deals (aCons (eV 0) (aNil)))) (sSeq (sDrop (eFn f_need_free (aCons (eV 0) (aCons (eV 1) (aNil))))) (sSeq (sIf (bNot (eTru (eFn f_is_lot (aCons (eV 2) (aCons (eCall cLen (aCons (e2 gIx (eV 0) (eC (.int 1))) (aNil))) (aNil)))))) (sNever) (sSkip)) (sSeq (sNew 3 (fLst (aNil))) (sSeq (sFor (iRng rng1 (aCons (e2 gIx (eV 0) (eC (.int 0))) (aNil))) (gN 4) l1_agent_torn) (sRet (eCall cTuple (aCons (eV 3) (aNil))))))))
def f_agent_torn : List D → Option D := runD b_agent_torn 7
def b_law : T := sSeq (sSet 1 (e2 gAddA (eC (.int 2)) (e2 gIx (eFn f_law_row (aCons (eFn f_law_at (aCons (eV 0) (aCons (eC (.int 0)) (aNil)))) (aCons (eC (.int 1)) (aCons (eC (.int 5)) (aNil))))) (eC (.int 0))))) (sSeq (sSet 2 (eFn f_law_row (aCons (eFn f_law_at (aCons (eV 0) (aCons (eC (.int 1)) (aNil)))) (aCons (eC (.int 20)) (aCons (eC (.int 60)) (aNil)))))) (sSeq (sSet 3 (eF (fComp (iRng rng2 (aCons (eC (.int 1)) (aCons (eV 1) (aNil)))) [14] (gN 14) (bYes) (eTup (aCons (e2 gMod (e2 gIx (eV 2) (eV 14)) (eV 14)) (aCons (eV 14) (aNil))))))) (sSeq (sIf (eB (e2 gLt (e2 gIx (eV 2) (eC (.int 10))) (eC (.int 30)))) (sSet 3 (eF (fRev (eV 3)))) (sSkip)) (sSeq (sSet 4 (eTup (aCons (eV 1) (aCons (eCall cTuple (aCons (eV 3) (aNil))) (aNil))))) (sSeq (sSet 5 (eFn f_agent_firsts (aCons (eV 4) (aCons (eTup (aNil)) (aNil))))) (sSeq (sIf (bOr (eB (e2 gNe (e2 gIx (eV 5) (eC (.int 0))) (eC (.str "firsts")))) (eB (e2 (gIsB true) (eFn f_is_agent_paper (aCons (eV 4) (aCons (eTup (aNil)) (aCons (eV 5) (aNil))))) (eC (.bl true))))) (sRet (eC (.bl false))) (sSkip)) (sSeq (sIf (eB (e2 gNe (eFn f_agent_done (aCons (eV 4) (aCons (eTup (aNil)) (aCons (e2 gIx (eV 5) (eC (.int 1))) (aCons (eTup (aNil)) (aCons (eTup (aNil)) (aNil))))))) (eTupL (rg1 (e2 gSub (eV 1) (eC (.int 1))))))) (sRet (eC (.bl false))) (sSkip)) (sSeq (sSet 6 (e2 gMod (e2 gIx (eV 2) (eC (.int 11))) (eV 1))) (sSeq (sSet 7 (eFn f_agent_done (aCons (eV 4) (aCons (eTup (aNil)) (aCons (e2 gIx (eV 5) (eC (.int 1))) (aCons (eTup (aCons (eV 6) (aNil))) (aCons (eTup (aNil)) (aNil)))))))) (sSeq (sIf (eTru (eCall cAny (aCons (eF (fComp (jSeqD (eFn f_law_mine (aCons (eV 4) (aCons (eV 6) (aNil))))) [14] (gN 14) (bYes) (e2 (gInS false) (eV 14) (eV 7)))) (aNil)))) (sRet (eC (.bl false))) (sSkip)) (sSeq (sIf (eTru (eCall cAny (aCons (eF (fComp (jSeqD (eFn f_agent_torn (aCons (eV 4) (aCons (eTup (aNil)) (aCons (eV 7) (aNil)))))) [16] (gN 16) (bYes) (e2 gNe (eV 16) (eV 6)))) (aNil)))) (sRet (eC (.bl false))) (sSkip)) (sSeq (sSet 8 (e2 gMod (e2 gIx (eV 2) (eC (.int 12))) (eV 1))) (sSeq (sSet 9 (e2 gMod (eCall cInt (aCons (e2 gAddA (e2 gAddA (eV 8) (eC (.int 1))) (e2 gMod (e2 gIx (eV 2) (eC (.int 13))) (e2 gSub (eV 1) (eC (.int 1))))) (aNil))) (eV 1))) (sSeq (sSet 10 (eTup (aCons (eV 1) (aCons (e2 gAddA (eCall cTuple (aCons (eV 3) (aNil))) (eTup (aCons (eTup (aCons (eV 8) (aCons (eV 9) (aNil)))) (aNil)))) (aNil))))) (sSeq (sSet 11 (eFn f_agent_firsts (aCons (eV 10) (aCons (eTup (aNil)) (aNil))))) (sSeq (sIf (bOr (eB (e2 gNe (e2 gIx (eV 11) (eC (.int 0))) (eC (.str "round")))) (bOr (bNot (eTru (eFn f_law_is_round (aCons (eV 10) (aCons (eTup (aNil)) (aCons (e2 gIx (eV 11) (eC (.int 1))) (aNil))))))) (eB (e2 (gInS true) (e2 gSub (eV 1) (eC (.int 1))) (eF (fComp (jSeqD (e2 gIx (eV 11) (eC (.int 1)))) [15] (gN 15) (bYes) (e2 gIx (eV 15) (eC (.int 1))))))))) (sRet (eC (.bl false))) (sSkip)) (sSeq (sSet 12 (eF (fComp (jSeqD (e2 gIx (eV 11) (eC (.int 1)))) [15] (gN 15) (bYes) (e2 gIx (eV 15) (eC (.int 0)))))) (sSeq (sIf (bOr (eB (e2 (gInS true) (eV 8) (eV 12))) (eB (e2 (gInS true) (eV 9) (eV 12)))) (sRet (eC (.bl false))) (sSkip)) (sSeq (sSet 13 (eFn f_agent_firsts (aCons (eV 10) (aCons (eTup (aCons (e2 gIx (eV 12) (e2 gMod (e2 gIx (eV 2) (eC (.int 14))) (eCall cLen (aCons (eV 12) (aNil))))) (aNil))) (aNil))))) (sRet (eAnd (e2 gEq (e2 gIx (eV 13) (eC (.int 0))) (eC (.str "firsts"))) (e2 gEq (eFn f_agent_done (aCons (eV 10) (aCons (eTup (aCons (e2 gIx (eV 12) (e2 gMod (e2 gIx (eV 2) (eC (.int 14))) (eCall cLen (aCons (eV 12) (aNil))))) (aNil))) (aCons (e2 gIx (eV 13) (eC (.int 1))) (aCons (eTup (aNil)) (aCons (eTup (aNil)) (aNil))))))) (eTupL (rg1 (eV 1)))))))))))))))))))))))))
def f_law : List D → Option D := runD b_law 17
end
end DL

set_option maxHeartbeats 4000000
namespace DL
open PySem PySem.Spec L2
def top (i : Nat) : Stmt := PySem.Challenge.pw_chesthours_k76_agents_without_rounds.main.body.getD i (.Pass ⟨0, 0, 0, 0⟩)
abbrev s_law_mixed : Stmt := top 38
abbrev N_law_mixed : List Str := ["cell", "k", "first"]
theorem c_law_mixed : FnScope N_law_mixed ["cell", "k"] (defScope s_law_mixed) := ⟨rfl, rfl, rfl, by decide +kernel, rfl, by decide +kernel, by decide +kernel⟩
abbrev s_law_row : Stmt := top 39
abbrev N_law_row : List Str := ["cell", "many", "top", "found", "left", "great", "k"]
theorem c_law_row : FnScope N_law_row ["cell", "many", "top"] (defScope s_law_row) := ⟨rfl, rfl, rfl, by decide +kernel, rfl, by decide +kernel, by decide +kernel⟩
abbrev s_is_tuple_of : Stmt := top 10
abbrev N_is_tuple_of : List Str := ["thing", "many"]
theorem c_is_tuple_of : FnScope N_is_tuple_of ["thing", "many"] (defScope s_is_tuple_of) := ⟨rfl, rfl, rfl, by decide +kernel, rfl, by decide +kernel, by decide +kernel⟩
abbrev s_is_integer : Stmt := top 7
abbrev N_is_integer : List Str := ["thing"]
theorem c_is_integer : FnScope N_is_integer ["thing"] (defScope s_is_integer) := ⟨rfl, rfl, rfl, by decide +kernel, rfl, by decide +kernel, by decide +kernel⟩
abbrev s_is_between : Stmt := top 8
abbrev N_is_between : List Str := ["thing", "least", "most"]
theorem c_is_between : FnScope N_is_between ["thing", "least", "most"] (defScope s_is_between) := ⟨rfl, rfl, rfl, by decide +kernel, rfl, by decide +kernel, by decide +kernel⟩
abbrev s_is_under : Stmt := top 9
abbrev N_is_under : List Str := ["thing", "many"]
theorem c_is_under : FnScope N_is_under ["thing", "many"] (defScope s_is_under) := ⟨rfl, rfl, rfl, by decide +kernel, rfl, by decide +kernel, by decide +kernel⟩
abbrev s_are_deals : Stmt := top 19
abbrev N_are_deals : List Str := ["thing", "row"]
theorem c_are_deals : FnScope N_are_deals ["thing"] (defScope s_are_deals) := ⟨rfl, rfl, rfl, by decide +kernel, rfl, by decide +kernel, by decide +kernel⟩
abbrev s_need_deals : Stmt := top 20
abbrev N_need_deals : List Str := ["thing"]
theorem c_need_deals : FnScope N_need_deals ["thing"] (defScope s_need_deals) := ⟨rfl, rfl, rfl, by decide +kernel, rfl, by decide +kernel, by decide +kernel⟩
abbrev s_are_under : Stmt := top 11
abbrev N_are_under : List Str := ["thing", "many", "one"]
theorem c_are_under : FnScope N_are_under ["thing", "many"] (defScope s_are_under) := ⟨rfl, rfl, rfl, by decide +kernel, rfl, by decide +kernel, by decide +kernel⟩
abbrev s_is_lot : Stmt := top 12
abbrev N_is_lot : List Str := ["thing", "many", "at"]
theorem c_is_lot : FnScope N_is_lot ["thing", "many"] (defScope s_is_lot) := ⟨rfl, rfl, rfl, by decide +kernel, rfl, by decide +kernel, by decide +kernel⟩
abbrev s_need_free : Stmt := top 21
abbrev N_need_free : List Str := ["deals", "thing"]
theorem c_need_free : FnScope N_need_free ["deals", "thing"] (defScope s_need_free) := ⟨rfl, rfl, rfl, by decide +kernel, rfl, by decide +kernel, by decide +kernel⟩
abbrev s_deals_of : Stmt := top 22
abbrev N_deals_of : List Str := ["deals", "person", "number", "row"]
theorem c_deals_of : FnScope N_deals_of ["deals", "person"] (defScope s_deals_of) := ⟨rfl, rfl, rfl, by decide +kernel, rfl, by decide +kernel, by decide +kernel⟩
abbrev s_Taking_left_of : Stmt := inClass (top 26) 2
abbrev N_Taking_left_of : List Str := ["self", "person", "number"]
theorem c_Taking_left_of : FnScope N_Taking_left_of ["self", "person"] (defScope s_Taking_left_of) := ⟨rfl, rfl, rfl, by decide +kernel, rfl, by decide +kernel, by decide +kernel⟩
abbrev s_Taking_take : Stmt := inClass (top 26) 1
abbrev N_Taking_take : List Str := ["self", "number", "person"]
theorem c_Taking_take : FnScope N_Taking_take ["self", "number", "person"] (defScope s_Taking_take) := ⟨rfl, rfl, rfl, by decide +kernel, rfl, by decide +kernel, by decide +kernel⟩
abbrev s_Taking_firsts_of : Stmt := inClass (top 26) 4
abbrev N_Taking_firsts_of : List Str := ["self", "person", "number"]
theorem c_Taking_firsts_of : FnScope N_Taking_firsts_of ["self", "person"] (defScope s_Taking_firsts_of) := ⟨rfl, rfl, rfl, by decide +kernel, rfl, by decide +kernel, by decide +kernel⟩
abbrev s_Taking_take_next : Stmt := inClass (top 26) 3
abbrev N_Taking_take_next : List Str := ["self", "person", "left"]
theorem c_Taking_take_next : FnScope N_Taking_take_next ["self"] (defScope s_Taking_take_next) := ⟨rfl, rfl, rfl, by decide +kernel, rfl, by decide +kernel, by decide +kernel⟩
abbrev s_Taking_init : Stmt := inClass (top 26) 0
abbrev N_Taking_init : List Str := ["self", "deals", "free", "number", "row", "ready", "person"]
theorem c_Taking_init : FnScope N_Taking_init ["self", "deals", "free"] (defScope s_Taking_init) := ⟨rfl, rfl, rfl, by decide +kernel, rfl, by decide +kernel, by decide +kernel⟩
abbrev s_other_of : Stmt := top 23
abbrev N_other_of : List Str := ["deals", "number", "person", "one", "other"]
theorem c_other_of : FnScope N_other_of ["deals", "number", "person"] (defScope s_other_of) := ⟨rfl, rfl, rfl, by decide +kernel, rfl, by decide +kernel, by decide +kernel⟩
abbrev s_Taking_bad_round : Stmt := inClass (top 26) 5
abbrev N_Taking_bad_round : List Str := ["self", "here", "found", "came", "number", "begin", "person", "_", "one"]
theorem c_Taking_bad_round : FnScope N_Taking_bad_round ["self"] (defScope s_Taking_bad_round) := ⟨rfl, rfl, rfl, by decide +kernel, rfl, by decide +kernel, by decide +kernel⟩
abbrev s_agent_firsts : Stmt := top 27
abbrev N_agent_firsts : List Str := ["deals", "free", "taking", "many", "number"]
theorem c_agent_firsts : FnScope N_agent_firsts ["deals", "free"] (defScope s_agent_firsts) := ⟨rfl, rfl, rfl, by decide +kernel, rfl, by decide +kernel, by decide +kernel⟩
abbrev s_are_firsts : Stmt := top 24
abbrev N_are_firsts : List Str := ["deals", "thing", "one", "row"]
theorem c_are_firsts : FnScope N_are_firsts ["deals", "thing"] (defScope s_are_firsts) := ⟨rfl, rfl, rfl, by decide +kernel, rfl, by decide +kernel, by decide +kernel⟩
abbrev s_need_firsts : Stmt := top 25
abbrev N_need_firsts : List Str := ["deals", "thing"]
theorem c_need_firsts : FnScope N_need_firsts ["deals", "thing"] (defScope s_need_firsts) := ⟨rfl, rfl, rfl, by decide +kernel, rfl, by decide +kernel, by decide +kernel⟩
abbrev s_is_agent_conduct : Stmt := top 31
abbrev N_is_agent_conduct : List Str := ["deals", "league", "thing", "row", "at"]
theorem c_is_agent_conduct : FnScope N_is_agent_conduct ["deals", "league", "thing"] (defScope s_is_agent_conduct) := ⟨rfl, rfl, rfl, by decide +kernel, rfl, by decide +kernel, by decide +kernel⟩
abbrev s_need_agents : Stmt := top 34
abbrev N_need_agents : List Str := ["deals", "free", "firsts", "league", "conduct"]
theorem c_need_agents : FnScope N_need_agents ["deals", "free", "firsts", "league", "conduct"] (defScope s_need_agents) := ⟨rfl, rfl, rfl, by decide +kernel, rfl, by decide +kernel, by decide +kernel⟩
abbrev s_Agents_init : Stmt := inClass (top 32) 0
abbrev N_Agents_init : List Str := ["self", "deals", "free", "firsts", "league", "_"]
theorem c_Agents_init : FnScope N_Agents_init ["self", "deals", "free", "firsts", "league"] (defScope s_Agents_init) := ⟨rfl, rfl, rfl, by decide +kernel, rfl, by decide +kernel, by decide +kernel⟩
abbrev s_Agents_is_covered : Stmt := inClass (top 32) 1
abbrev N_Agents_is_covered : List Str := ["self", "person", "number"]
theorem c_Agents_is_covered : FnScope N_Agents_is_covered ["self", "person", "number"] (defScope s_Agents_is_covered) := ⟨rfl, rfl, rfl, by decide +kernel, rfl, by decide +kernel, by decide +kernel⟩
abbrev s_Agents_wishes : Stmt := inClass (top 32) 3
abbrev N_Agents_wishes : List Str := ["self", "person", "mine", "begun", "rest", "number"]
theorem c_Agents_wishes : FnScope N_Agents_wishes ["self", "person"] (defScope s_Agents_wishes) := ⟨rfl, rfl, rfl, by decide +kernel, rfl, by decide +kernel, by decide +kernel⟩
abbrev s_Agents_step : Stmt := inClass (top 32) 4
abbrev N_Agents_step : List Str := ["self", "told", "found", "person", "changed", "number"]
theorem c_Agents_step : FnScope N_Agents_step ["self", "told"] (defScope s_Agents_step) := ⟨rfl, rfl, rfl, by decide +kernel, rfl, by decide +kernel, by decide +kernel⟩
abbrev s_led_agents : Stmt := top 33
abbrev N_led_agents : List Str := ["deals", "free", "firsts", "league", "conduct", "agents", "last", "at", "going", "row"]
theorem c_led_agents : FnScope N_led_agents ["deals", "free", "firsts", "league", "conduct"] (defScope s_led_agents) := ⟨rfl, rfl, rfl, by decide +kernel, rfl, by decide +kernel, by decide +kernel⟩
abbrev s_Agents_is_done : Stmt := inClass (top 32) 2
abbrev N_Agents_is_done : List Str := ["self", "number"]
theorem c_Agents_is_done : FnScope N_Agents_is_done ["self", "number"] (defScope s_Agents_is_done) := ⟨rfl, rfl, rfl, by decide +kernel, rfl, by decide +kernel, by decide +kernel⟩
abbrev s_agent_done : Stmt := top 35
abbrev N_agent_done : List Str := ["deals", "free", "firsts", "league", "conduct", "agents", "number"]
theorem c_agent_done : FnScope N_agent_done ["deals", "free", "firsts", "league", "conduct"] (defScope s_agent_done) := ⟨rfl, rfl, rfl, by decide +kernel, rfl, by decide +kernel, by decide +kernel⟩
abbrev s_law_at : Stmt := top 40
abbrev N_law_at : List Str := ["script", "k"]
theorem c_law_at : FnScope N_law_at ["script", "k"] (defScope s_law_at) := ⟨rfl, rfl, rfl, by decide +kernel, rfl, by decide +kernel, by decide +kernel⟩
abbrev s_is_order_of : Stmt := top 29
abbrev N_is_order_of : List Str := ["deals", "free", "firsts", "thing", "numbers", "at", "person", "number", "rest", "pair", "one"]
theorem c_is_order_of : FnScope N_is_order_of ["deals", "free", "firsts", "thing"] (defScope s_is_order_of) := ⟨rfl, rfl, rfl, by decide +kernel, rfl, by decide +kernel, by decide +kernel⟩
abbrev s_is_round_of : Stmt := top 28
abbrev N_is_round_of : List Str := ["deals", "free", "thing", "persons", "numbers", "pair", "person", "at"]
theorem c_is_round_of : FnScope N_is_round_of ["deals", "free", "thing"] (defScope s_is_round_of) := ⟨rfl, rfl, rfl, by decide +kernel, rfl, by decide +kernel, by decide +kernel⟩
abbrev s_is_agent_paper : Stmt := top 30
abbrev N_is_agent_paper : List Str := ["deals", "free", "thing"]
theorem c_is_agent_paper : FnScope N_is_agent_paper ["deals", "free", "thing"] (defScope s_is_agent_paper) := ⟨rfl, rfl, rfl, by decide +kernel, rfl, by decide +kernel, by decide +kernel⟩
abbrev s_law_is_round : Stmt := top 42
abbrev N_law_is_round : List Str := ["deals", "free", "thing", "persons", "numbers", "k", "pair", "one"]
theorem c_law_is_round : FnScope N_law_is_round ["deals", "free", "thing"] (defScope s_law_is_round) := ⟨rfl, rfl, rfl, by decide +kernel, rfl, by decide +kernel, by decide +kernel⟩
abbrev s_law_mine : Stmt := top 41
abbrev N_law_mine : List Str := ["deals", "person", "k"]
theorem c_law_mine : FnScope N_law_mine ["deals", "person"] (defScope s_law_mine) := ⟨rfl, rfl, rfl, by decide +kernel, rfl, by decide +kernel, by decide +kernel⟩
abbrev s_agent_torn : Stmt := top 36
abbrev N_agent_torn : List Str := ["deals", "free", "lot", "found", "person", "mine", "number"]
theorem c_agent_torn : FnScope N_agent_torn ["deals", "free", "lot"] (defScope s_agent_torn) := ⟨rfl, rfl, rfl, by decide +kernel, rfl, by decide +kernel, by decide +kernel⟩
abbrev s_law : Stmt := top 43
abbrev N_law : List Str := ["script", "many", "digits", "rows", "deals", "told", "away", "done", "one", "other", "more", "bad", "on", "free", "k", "pair", "person"]
theorem c_law : FnScope N_law ["script"] (defScope s_law) := ⟨rfl, rfl, rfl, by decide +kernel, rfl, by decide +kernel, by decide +kernel⟩
theorem bd_law_mixed : ∀ (kV doc pm : Value) (an : Option Addr) (cdv ct : Value) (us : List Value), us.length = (["cell", "k"] : List Str).length → bindArgs (PySem.W.fnOf "_law_mixed" "_law_mixed" (defArgs s_law_mixed) (defBody s_law_mixed) (defScope s_law_mixed) .none kV doc pm an cdv ct) ⟨us, []⟩ = pure ((["cell", "k"] : List Str).zip us) := fun _ _ _ _ _ _ us hl => match us, hl with | [_, _], _ => rfl
theorem bd_law_row : ∀ (kV doc pm : Value) (an : Option Addr) (cdv ct : Value) (us : List Value), us.length = (["cell", "many", "top"] : List Str).length → bindArgs (PySem.W.fnOf "_law_row" "_law_row" (defArgs s_law_row) (defBody s_law_row) (defScope s_law_row) .none kV doc pm an cdv ct) ⟨us, []⟩ = pure ((["cell", "many", "top"] : List Str).zip us) := fun _ _ _ _ _ _ us hl => match us, hl with | [_, _, _], _ => rfl
theorem bd_is_tuple_of : ∀ (kV doc pm : Value) (an : Option Addr) (cdv ct : Value) (us : List Value), us.length = (["thing", "many"] : List Str).length → bindArgs (PySem.W.fnOf "is_tuple_of" "is_tuple_of" (defArgs s_is_tuple_of) (defBody s_is_tuple_of) (defScope s_is_tuple_of) .none kV doc pm an cdv ct) ⟨us, []⟩ = pure ((["thing", "many"] : List Str).zip us) := fun _ _ _ _ _ _ us hl => match us, hl with | [_, _], _ => rfl
theorem bd_is_integer : ∀ (kV doc pm : Value) (an : Option Addr) (cdv ct : Value) (us : List Value), us.length = (["thing"] : List Str).length → bindArgs (PySem.W.fnOf "is_integer" "is_integer" (defArgs s_is_integer) (defBody s_is_integer) (defScope s_is_integer) .none kV doc pm an cdv ct) ⟨us, []⟩ = pure ((["thing"] : List Str).zip us) := fun _ _ _ _ _ _ us hl => match us, hl with | [_], _ => rfl
theorem bd_is_between : ∀ (kV doc pm : Value) (an : Option Addr) (cdv ct : Value) (us : List Value), us.length = (["thing", "least", "most"] : List Str).length → bindArgs (PySem.W.fnOf "is_between" "is_between" (defArgs s_is_between) (defBody s_is_between) (defScope s_is_between) .none kV doc pm an cdv ct) ⟨us, []⟩ = pure ((["thing", "least", "most"] : List Str).zip us) := fun _ _ _ _ _ _ us hl => match us, hl with | [_, _, _], _ => rfl
theorem bd_is_under : ∀ (kV doc pm : Value) (an : Option Addr) (cdv ct : Value) (us : List Value), us.length = (["thing", "many"] : List Str).length → bindArgs (PySem.W.fnOf "is_under" "is_under" (defArgs s_is_under) (defBody s_is_under) (defScope s_is_under) .none kV doc pm an cdv ct) ⟨us, []⟩ = pure ((["thing", "many"] : List Str).zip us) := fun _ _ _ _ _ _ us hl => match us, hl with | [_, _], _ => rfl
theorem bd_are_deals : ∀ (kV doc pm : Value) (an : Option Addr) (cdv ct : Value) (us : List Value), us.length = (["thing"] : List Str).length → bindArgs (PySem.W.fnOf "are_deals" "are_deals" (defArgs s_are_deals) (defBody s_are_deals) (defScope s_are_deals) .none kV doc pm an cdv ct) ⟨us, []⟩ = pure ((["thing"] : List Str).zip us) := fun _ _ _ _ _ _ us hl => match us, hl with | [_], _ => rfl
theorem bd_need_deals : ∀ (kV doc pm : Value) (an : Option Addr) (cdv ct : Value) (us : List Value), us.length = (["thing"] : List Str).length → bindArgs (PySem.W.fnOf "need_deals" "need_deals" (defArgs s_need_deals) (defBody s_need_deals) (defScope s_need_deals) .none kV doc pm an cdv ct) ⟨us, []⟩ = pure ((["thing"] : List Str).zip us) := fun _ _ _ _ _ _ us hl => match us, hl with | [_], _ => rfl
theorem bd_are_under : ∀ (kV doc pm : Value) (an : Option Addr) (cdv ct : Value) (us : List Value), us.length = (["thing", "many"] : List Str).length → bindArgs (PySem.W.fnOf "are_under" "are_under" (defArgs s_are_under) (defBody s_are_under) (defScope s_are_under) .none kV doc pm an cdv ct) ⟨us, []⟩ = pure ((["thing", "many"] : List Str).zip us) := fun _ _ _ _ _ _ us hl => match us, hl with | [_, _], _ => rfl
theorem bd_is_lot : ∀ (kV doc pm : Value) (an : Option Addr) (cdv ct : Value) (us : List Value), us.length = (["thing", "many"] : List Str).length → bindArgs (PySem.W.fnOf "is_lot" "is_lot" (defArgs s_is_lot) (defBody s_is_lot) (defScope s_is_lot) .none kV doc pm an cdv ct) ⟨us, []⟩ = pure ((["thing", "many"] : List Str).zip us) := fun _ _ _ _ _ _ us hl => match us, hl with | [_, _], _ => rfl
theorem bd_need_free : ∀ (kV doc pm : Value) (an : Option Addr) (cdv ct : Value) (us : List Value), us.length = (["deals", "thing"] : List Str).length → bindArgs (PySem.W.fnOf "need_free" "need_free" (defArgs s_need_free) (defBody s_need_free) (defScope s_need_free) .none kV doc pm an cdv ct) ⟨us, []⟩ = pure ((["deals", "thing"] : List Str).zip us) := fun _ _ _ _ _ _ us hl => match us, hl with | [_, _], _ => rfl
theorem bd_deals_of : ∀ (kV doc pm : Value) (an : Option Addr) (cdv ct : Value) (us : List Value), us.length = (["deals", "person"] : List Str).length → bindArgs (PySem.W.fnOf "deals_of" "deals_of" (defArgs s_deals_of) (defBody s_deals_of) (defScope s_deals_of) .none kV doc pm an cdv ct) ⟨us, []⟩ = pure ((["deals", "person"] : List Str).zip us) := fun _ _ _ _ _ _ us hl => match us, hl with | [_, _], _ => rfl
theorem bd_Taking_left_of : ∀ (kV doc pm : Value) (an : Option Addr) (cdv ct : Value) (us : List Value), us.length = (["self", "person"] : List Str).length → bindArgs (PySem.W.fnOf "left_of" "Taking.left_of" (defArgs s_Taking_left_of) (defBody s_Taking_left_of) (defScope s_Taking_left_of) .none kV doc pm an cdv ct) ⟨us, []⟩ = pure ((["self", "person"] : List Str).zip us) := fun _ _ _ _ _ _ us hl => match us, hl with | [_, _], _ => rfl
theorem bd_Taking_take : ∀ (kV doc pm : Value) (an : Option Addr) (cdv ct : Value) (us : List Value), us.length = (["self", "number", "person"] : List Str).length → bindArgs (PySem.W.fnOf "take" "Taking.take" (defArgs s_Taking_take) (defBody s_Taking_take) (defScope s_Taking_take) .none kV doc pm an cdv ct) ⟨us, []⟩ = pure ((["self", "number", "person"] : List Str).zip us) := fun _ _ _ _ _ _ us hl => match us, hl with | [_, _, _], _ => rfl
theorem bd_Taking_firsts_of : ∀ (kV doc pm : Value) (an : Option Addr) (cdv ct : Value) (us : List Value), us.length = (["self", "person"] : List Str).length → bindArgs (PySem.W.fnOf "firsts_of" "Taking.firsts_of" (defArgs s_Taking_firsts_of) (defBody s_Taking_firsts_of) (defScope s_Taking_firsts_of) .none kV doc pm an cdv ct) ⟨us, []⟩ = pure ((["self", "person"] : List Str).zip us) := fun _ _ _ _ _ _ us hl => match us, hl with | [_, _], _ => rfl
theorem bd_Taking_take_next : ∀ (kV doc pm : Value) (an : Option Addr) (cdv ct : Value) (us : List Value), us.length = (["self"] : List Str).length → bindArgs (PySem.W.fnOf "take_next" "Taking.take_next" (defArgs s_Taking_take_next) (defBody s_Taking_take_next) (defScope s_Taking_take_next) .none kV doc pm an cdv ct) ⟨us, []⟩ = pure ((["self"] : List Str).zip us) := fun _ _ _ _ _ _ us hl => match us, hl with | [_], _ => rfl
theorem bd_Taking_init : ∀ (kV doc pm : Value) (an : Option Addr) (cdv ct : Value) (us : List Value), us.length = (["self", "deals", "free"] : List Str).length → bindArgs (PySem.W.fnOf "__init__" "Taking.__init__" (defArgs s_Taking_init) (defBody s_Taking_init) (defScope s_Taking_init) .none kV doc pm an cdv ct) ⟨us, []⟩ = pure ((["self", "deals", "free"] : List Str).zip us) := fun _ _ _ _ _ _ us hl => match us, hl with | [_, _, _], _ => rfl
theorem bd_other_of : ∀ (kV doc pm : Value) (an : Option Addr) (cdv ct : Value) (us : List Value), us.length = (["deals", "number", "person"] : List Str).length → bindArgs (PySem.W.fnOf "other_of" "other_of" (defArgs s_other_of) (defBody s_other_of) (defScope s_other_of) .none kV doc pm an cdv ct) ⟨us, []⟩ = pure ((["deals", "number", "person"] : List Str).zip us) := fun _ _ _ _ _ _ us hl => match us, hl with | [_, _, _], _ => rfl
theorem bd_Taking_bad_round : ∀ (kV doc pm : Value) (an : Option Addr) (cdv ct : Value) (us : List Value), us.length = (["self"] : List Str).length → bindArgs (PySem.W.fnOf "bad_round" "Taking.bad_round" (defArgs s_Taking_bad_round) (defBody s_Taking_bad_round) (defScope s_Taking_bad_round) .none kV doc pm an cdv ct) ⟨us, []⟩ = pure ((["self"] : List Str).zip us) := fun _ _ _ _ _ _ us hl => match us, hl with | [_], _ => rfl
theorem bd_agent_firsts : ∀ (kV doc pm : Value) (an : Option Addr) (cdv ct : Value) (us : List Value), us.length = (["deals", "free"] : List Str).length → bindArgs (PySem.W.fnOf "agent_firsts" "agent_firsts" (defArgs s_agent_firsts) (defBody s_agent_firsts) (defScope s_agent_firsts) .none kV doc pm an cdv ct) ⟨us, []⟩ = pure ((["deals", "free"] : List Str).zip us) := fun _ _ _ _ _ _ us hl => match us, hl with | [_, _], _ => rfl
theorem bd_are_firsts : ∀ (kV doc pm : Value) (an : Option Addr) (cdv ct : Value) (us : List Value), us.length = (["deals", "thing"] : List Str).length → bindArgs (PySem.W.fnOf "are_firsts" "are_firsts" (defArgs s_are_firsts) (defBody s_are_firsts) (defScope s_are_firsts) .none kV doc pm an cdv ct) ⟨us, []⟩ = pure ((["deals", "thing"] : List Str).zip us) := fun _ _ _ _ _ _ us hl => match us, hl with | [_, _], _ => rfl
theorem bd_need_firsts : ∀ (kV doc pm : Value) (an : Option Addr) (cdv ct : Value) (us : List Value), us.length = (["deals", "thing"] : List Str).length → bindArgs (PySem.W.fnOf "need_firsts" "need_firsts" (defArgs s_need_firsts) (defBody s_need_firsts) (defScope s_need_firsts) .none kV doc pm an cdv ct) ⟨us, []⟩ = pure ((["deals", "thing"] : List Str).zip us) := fun _ _ _ _ _ _ us hl => match us, hl with | [_, _], _ => rfl
theorem bd_is_agent_conduct : ∀ (kV doc pm : Value) (an : Option Addr) (cdv ct : Value) (us : List Value), us.length = (["deals", "league", "thing"] : List Str).length → bindArgs (PySem.W.fnOf "is_agent_conduct" "is_agent_conduct" (defArgs s_is_agent_conduct) (defBody s_is_agent_conduct) (defScope s_is_agent_conduct) .none kV doc pm an cdv ct) ⟨us, []⟩ = pure ((["deals", "league", "thing"] : List Str).zip us) := fun _ _ _ _ _ _ us hl => match us, hl with | [_, _, _], _ => rfl
theorem bd_need_agents : ∀ (kV doc pm : Value) (an : Option Addr) (cdv ct : Value) (us : List Value), us.length = (["deals", "free", "firsts", "league", "conduct"] : List Str).length → bindArgs (PySem.W.fnOf "need_agents" "need_agents" (defArgs s_need_agents) (defBody s_need_agents) (defScope s_need_agents) .none kV doc pm an cdv ct) ⟨us, []⟩ = pure ((["deals", "free", "firsts", "league", "conduct"] : List Str).zip us) := fun _ _ _ _ _ _ us hl => match us, hl with | [_, _, _, _, _], _ => rfl
theorem bd_Agents_init : ∀ (kV doc pm : Value) (an : Option Addr) (cdv ct : Value) (us : List Value), us.length = (["self", "deals", "free", "firsts", "league"] : List Str).length → bindArgs (PySem.W.fnOf "__init__" "Agents.__init__" (defArgs s_Agents_init) (defBody s_Agents_init) (defScope s_Agents_init) .none kV doc pm an cdv ct) ⟨us, []⟩ = pure ((["self", "deals", "free", "firsts", "league"] : List Str).zip us) := fun _ _ _ _ _ _ us hl => match us, hl with | [_, _, _, _, _], _ => rfl
theorem bd_Agents_is_covered : ∀ (kV doc pm : Value) (an : Option Addr) (cdv ct : Value) (us : List Value), us.length = (["self", "person", "number"] : List Str).length → bindArgs (PySem.W.fnOf "is_covered" "Agents.is_covered" (defArgs s_Agents_is_covered) (defBody s_Agents_is_covered) (defScope s_Agents_is_covered) .none kV doc pm an cdv ct) ⟨us, []⟩ = pure ((["self", "person", "number"] : List Str).zip us) := fun _ _ _ _ _ _ us hl => match us, hl with | [_, _, _], _ => rfl
theorem bd_Agents_wishes : ∀ (kV doc pm : Value) (an : Option Addr) (cdv ct : Value) (us : List Value), us.length = (["self", "person"] : List Str).length → bindArgs (PySem.W.fnOf "wishes" "Agents.wishes" (defArgs s_Agents_wishes) (defBody s_Agents_wishes) (defScope s_Agents_wishes) .none kV doc pm an cdv ct) ⟨us, []⟩ = pure ((["self", "person"] : List Str).zip us) := fun _ _ _ _ _ _ us hl => match us, hl with | [_, _], _ => rfl
theorem bd_Agents_step : ∀ (kV doc pm : Value) (an : Option Addr) (cdv ct : Value) (us : List Value), us.length = (["self", "told"] : List Str).length → bindArgs (PySem.W.fnOf "step" "Agents.step" (defArgs s_Agents_step) (defBody s_Agents_step) (defScope s_Agents_step) .none kV doc pm an cdv ct) ⟨us, []⟩ = pure ((["self", "told"] : List Str).zip us) := fun _ _ _ _ _ _ us hl => match us, hl with | [_, _], _ => rfl
theorem bd_led_agents : ∀ (kV doc pm : Value) (an : Option Addr) (cdv ct : Value) (us : List Value), us.length = (["deals", "free", "firsts", "league", "conduct"] : List Str).length → bindArgs (PySem.W.fnOf "led_agents" "led_agents" (defArgs s_led_agents) (defBody s_led_agents) (defScope s_led_agents) .none kV doc pm an cdv ct) ⟨us, []⟩ = pure ((["deals", "free", "firsts", "league", "conduct"] : List Str).zip us) := fun _ _ _ _ _ _ us hl => match us, hl with | [_, _, _, _, _], _ => rfl
theorem bd_Agents_is_done : ∀ (kV doc pm : Value) (an : Option Addr) (cdv ct : Value) (us : List Value), us.length = (["self", "number"] : List Str).length → bindArgs (PySem.W.fnOf "is_done" "Agents.is_done" (defArgs s_Agents_is_done) (defBody s_Agents_is_done) (defScope s_Agents_is_done) .none kV doc pm an cdv ct) ⟨us, []⟩ = pure ((["self", "number"] : List Str).zip us) := fun _ _ _ _ _ _ us hl => match us, hl with | [_, _], _ => rfl
theorem bd_agent_done : ∀ (kV doc pm : Value) (an : Option Addr) (cdv ct : Value) (us : List Value), us.length = (["deals", "free", "firsts", "league", "conduct"] : List Str).length → bindArgs (PySem.W.fnOf "agent_done" "agent_done" (defArgs s_agent_done) (defBody s_agent_done) (defScope s_agent_done) .none kV doc pm an cdv ct) ⟨us, []⟩ = pure ((["deals", "free", "firsts", "league", "conduct"] : List Str).zip us) := fun _ _ _ _ _ _ us hl => match us, hl with | [_, _, _, _, _], _ => rfl
theorem bd_law_at : ∀ (kV doc pm : Value) (an : Option Addr) (cdv ct : Value) (us : List Value), us.length = (["script", "k"] : List Str).length → bindArgs (PySem.W.fnOf "_law_at" "_law_at" (defArgs s_law_at) (defBody s_law_at) (defScope s_law_at) .none kV doc pm an cdv ct) ⟨us, []⟩ = pure ((["script", "k"] : List Str).zip us) := fun _ _ _ _ _ _ us hl => match us, hl with | [_, _], _ => rfl
theorem bd_is_order_of : ∀ (kV doc pm : Value) (an : Option Addr) (cdv ct : Value) (us : List Value), us.length = (["deals", "free", "firsts", "thing"] : List Str).length → bindArgs (PySem.W.fnOf "is_order_of" "is_order_of" (defArgs s_is_order_of) (defBody s_is_order_of) (defScope s_is_order_of) .none kV doc pm an cdv ct) ⟨us, []⟩ = pure ((["deals", "free", "firsts", "thing"] : List Str).zip us) := fun _ _ _ _ _ _ us hl => match us, hl with | [_, _, _, _], _ => rfl
theorem bd_is_round_of : ∀ (kV doc pm : Value) (an : Option Addr) (cdv ct : Value) (us : List Value), us.length = (["deals", "free", "thing"] : List Str).length → bindArgs (PySem.W.fnOf "is_round_of" "is_round_of" (defArgs s_is_round_of) (defBody s_is_round_of) (defScope s_is_round_of) .none kV doc pm an cdv ct) ⟨us, []⟩ = pure ((["deals", "free", "thing"] : List Str).zip us) := fun _ _ _ _ _ _ us hl => match us, hl with | [_, _, _], _ => rfl
theorem bd_is_agent_paper : ∀ (kV doc pm : Value) (an : Option Addr) (cdv ct : Value) (us : List Value), us.length = (["deals", "free", "thing"] : List Str).length → bindArgs (PySem.W.fnOf "is_agent_paper" "is_agent_paper" (defArgs s_is_agent_paper) (defBody s_is_agent_paper) (defScope s_is_agent_paper) .none kV doc pm an cdv ct) ⟨us, []⟩ = pure ((["deals", "free", "thing"] : List Str).zip us) := fun _ _ _ _ _ _ us hl => match us, hl with | [_, _, _], _ => rfl
theorem bd_law_is_round : ∀ (kV doc pm : Value) (an : Option Addr) (cdv ct : Value) (us : List Value), us.length = (["deals", "free", "thing"] : List Str).length → bindArgs (PySem.W.fnOf "_law_is_round" "_law_is_round" (defArgs s_law_is_round) (defBody s_law_is_round) (defScope s_law_is_round) .none kV doc pm an cdv ct) ⟨us, []⟩ = pure ((["deals", "free", "thing"] : List Str).zip us) := fun _ _ _ _ _ _ us hl => match us, hl with | [_, _, _], _ => rfl
theorem bd_law_mine : ∀ (kV doc pm : Value) (an : Option Addr) (cdv ct : Value) (us : List Value), us.length = (["deals", "person"] : List Str).length → bindArgs (PySem.W.fnOf "_law_mine" "_law_mine" (defArgs s_law_mine) (defBody s_law_mine) (defScope s_law_mine) .none kV doc pm an cdv ct) ⟨us, []⟩ = pure ((["deals", "person"] : List Str).zip us) := fun _ _ _ _ _ _ us hl => match us, hl with | [_, _], _ => rfl
theorem bd_agent_torn : ∀ (kV doc pm : Value) (an : Option Addr) (cdv ct : Value) (us : List Value), us.length = (["deals", "free", "lot"] : List Str).length → bindArgs (PySem.W.fnOf "agent_torn" "agent_torn" (defArgs s_agent_torn) (defBody s_agent_torn) (defScope s_agent_torn) .none kV doc pm an cdv ct) ⟨us, []⟩ = pure ((["deals", "free", "lot"] : List Str).zip us) := fun _ _ _ _ _ _ us hl => match us, hl with | [_, _, _], _ => rfl
theorem bd_law : ∀ (kV doc pm : Value) (an : Option Addr) (cdv ct : Value) (us : List Value), us.length = (["script"] : List Str).length → bindArgs (PySem.W.fnOf "law" "law" (defArgs s_law) (defBody s_law) (defScope s_law) .none kV doc pm an cdv ct) ⟨us, []⟩ = pure ((["script"] : List Str).zip us) := fun _ _ _ _ _ _ us hl => match us, hl with | [_], _ => rfl
structure Fx (K : PySem.W.Frag) (mg : Str → Option Value) : Prop where
  t_law_mixed : Tx K mg "_law_mixed" s_law_mixed ["cell", "k"]
  t_law_row : Tx K mg "_law_row" s_law_row ["cell", "many", "top"]
  t_is_tuple_of : Tx K mg "is_tuple_of" s_is_tuple_of ["thing", "many"]
  t_is_integer : Tx K mg "is_integer" s_is_integer ["thing"]
  t_is_between : Tx K mg "is_between" s_is_between ["thing", "least", "most"]
  t_is_under : Tx K mg "is_under" s_is_under ["thing", "many"]
  t_are_deals : Tx K mg "are_deals" s_are_deals ["thing"]
  t_need_deals : Tx K mg "need_deals" s_need_deals ["thing"]
  t_are_under : Tx K mg "are_under" s_are_under ["thing", "many"]
  t_is_lot : Tx K mg "is_lot" s_is_lot ["thing", "many"]
  t_need_free : Tx K mg "need_free" s_need_free ["deals", "thing"]
  t_deals_of : Tx K mg "deals_of" s_deals_of ["deals", "person"]
  t_Taking_left_of : TxM K "Taking" "left_of" "Taking.left_of" s_Taking_left_of ["self", "person"]
  t_Taking_take : TxM K "Taking" "take" "Taking.take" s_Taking_take ["self", "number", "person"]
  t_Taking_firsts_of : TxM K "Taking" "firsts_of" "Taking.firsts_of" s_Taking_firsts_of ["self", "person"]
  t_Taking_take_next : TxM K "Taking" "take_next" "Taking.take_next" s_Taking_take_next ["self"]
  t_Taking_init : TxI K mg "Taking" "Taking.__init__" s_Taking_init ["self", "deals", "free"]
  t_other_of : Tx K mg "other_of" s_other_of ["deals", "number", "person"]
  t_Taking_bad_round : TxM K "Taking" "bad_round" "Taking.bad_round" s_Taking_bad_round ["self"]
  t_agent_firsts : Tx K mg "agent_firsts" s_agent_firsts ["deals", "free"]
  t_are_firsts : Tx K mg "are_firsts" s_are_firsts ["deals", "thing"]
  t_need_firsts : Tx K mg "need_firsts" s_need_firsts ["deals", "thing"]
  t_is_agent_conduct : Tx K mg "is_agent_conduct" s_is_agent_conduct ["deals", "league", "thing"]
  t_need_agents : Tx K mg "need_agents" s_need_agents ["deals", "free", "firsts", "league", "conduct"]
  t_Agents_init : TxI K mg "Agents" "Agents.__init__" s_Agents_init ["self", "deals", "free", "firsts", "league"]
  t_Agents_is_covered : TxM K "Agents" "is_covered" "Agents.is_covered" s_Agents_is_covered ["self", "person", "number"]
  t_Agents_wishes : TxM K "Agents" "wishes" "Agents.wishes" s_Agents_wishes ["self", "person"]
  t_Agents_step : TxM K "Agents" "step" "Agents.step" s_Agents_step ["self", "told"]
  t_led_agents : Tx K mg "led_agents" s_led_agents ["deals", "free", "firsts", "league", "conduct"]
  t_Agents_is_done : TxM K "Agents" "is_done" "Agents.is_done" s_Agents_is_done ["self", "number"]
  t_agent_done : Tx K mg "agent_done" s_agent_done ["deals", "free", "firsts", "league", "conduct"]
  t_law_at : Tx K mg "_law_at" s_law_at ["script", "k"]
  t_is_order_of : Tx K mg "is_order_of" s_is_order_of ["deals", "free", "firsts", "thing"]
  t_is_round_of : Tx K mg "is_round_of" s_is_round_of ["deals", "free", "thing"]
  t_is_agent_paper : Tx K mg "is_agent_paper" s_is_agent_paper ["deals", "free", "thing"]
  t_law_is_round : Tx K mg "_law_is_round" s_law_is_round ["deals", "free", "thing"]
  t_law_mine : Tx K mg "_law_mine" s_law_mine ["deals", "person"]
  t_agent_torn : Tx K mg "agent_torn" s_agent_torn ["deals", "free", "lot"]
  o_Taking : ClsIs K "Taking"
  o_Agents : ClsIs K "Agents"
  f_Agents_content : FldF K "Agents" "content"
  f_Agents_deals : FldF K "Agents" "deals"
  f_Agents_firsts : FldF K "Agents" "firsts"
  f_Agents_held : FldF K "Agents" "held"
  f_Agents_league : FldF K "Agents" "league"
  f_Taking_bound : FldF K "Taking" "bound"
  f_Taking_deals : FldF K "Taking" "deals"
  f_Taking_firsts : FldF K "Taking" "firsts"
  f_Taking_order : FldF K "Taking" "order"
  b_all : mg "all" = none
  b_any : mg "any" = none
  b_bool : mg "bool" = none
  b_enumerate : mg "enumerate" = none
  b_int : mg "int" = none
  b_isinstance : mg "isinstance" = none
  b_len : mg "len" = none
  b_list : mg "list" = none
  b_max : mg "max" = none
  b_min : mg "min" = none
  b_range : mg "range" = none
  b_set : mg "set" = none
  b_sorted : mg "sorted" = none
  b_str : mg "str" = none
  b_tuple : mg "tuple" = none
  b_zip : mg "zip" = none
  c_FEWEST_PERSONS : ∃ t, mg "FEWEST_PERSONS" = some (.int 2 t)
  c_MOST_DEALS : ∃ t, mg "MOST_DEALS" = some (.int 10 t)
  c_MOST_PERSONS : ∃ t, mg "MOST_PERSONS" = some (.int 6 t)
  c_MOST_ROUND : ∃ t, mg "MOST_ROUND" = some (.int 40 t)
  c_MOST_ROWS : ∃ t, mg "MOST_ROWS" = some (.int 100 t)
section
variable {P : Program} {w : World} {K : PySem.W.Frag} {mg : Str → Option Value} {base : Heap}
theorem a_law_mixed (F : Fx K mg) : At P w K mg base "_law_mixed" 1 2 f_law_mixed := by
  have nd := (c_law_mixed).nd
  show At P w K mg base _ _ _ (runD b_law_mixed 3)
  refine fnDn (k := 0) F.t_law_mixed c_law_mixed rfl rfl rfl fun f cdv A outer s H E hr => ?_
  have h : PSs (cxOf CX0 P w K mg base N_law_mixed "_law_mixed" (defScope s_law_mixed) f cdv A outer s H E).nox (defBody s_law_mixed) (tS K _) :=
    dss_cons (ds_set (i := 2) nd rfl (Or.inl rfl) (d_op op_addA od_addA (d_op op_addA od_addA (d_op op_mulA od_mulA (d_callT call_int1 cd_int rfl F.b_int bt_int (da_cons (d_var (i := 0)) (da_nil))) (d_int)) (d_op op_mulA od_mulA (d_var (i := 1)) (d_int))) (d_int))) (dss_one (ds_ret (d_op op_mod od_mod (d_callT call_int1 cd_int rfl F.b_int bt_int (da_cons (d_op op_addA od_addA (d_op op_mulA od_mulA (d_var (i := 2)) (d_int)) (d_op op_fdiv od_div (d_var (i := 2)) (d_int))) (da_nil))) (d_int))))
  exact h
theorem a_law_row (F : Fx K mg) : At P w K mg base "_law_row" 2 3 f_law_row := by
  have nd := (c_law_row).nd
  show At P w K mg base _ _ _ (runD b_law_row 7)
  refine fnDn (k := 1) F.t_law_row c_law_row rfl rfl rfl fun f cdv A outer s H E hr => ?_
  have h : PSs (cxOf CX0 P w K mg base N_law_row "_law_row" (defScope s_law_row) f cdv A outer s H E).nox (defBody s_law_row) (tS K _) :=
    dss_cons (ds_new (i := 3) nd rfl (Or.inl rfl) (d_lst (da_nil))) (dss_cons (ds_set (i := 4) nd rfl (Or.inl rfl) (d_callT call_int1 cd_int rfl F.b_int bt_int (da_cons (d_var (i := 0)) (da_nil)))) (dss_cons (ds_set (i := 5) nd rfl (Or.inl rfl) (d_cmp op_ge od_cmp (d_var (i := 4)) (d_int) (nomark _))) (dss_cons (ds_for PassesOwn.never rfl (di_rng1 rfl F.b_range (da_cons (d_var (i := 1)) (da_nil))) (dg_name (i := 6) nd rfl (Or.inl rfl)) (dss_one (ds_if (dt_truth (d_var (i := 5))) (dss_cons (ds_append (d_var (i := 3)) (d_op op_mod od_mod (d_callT call_int1 cd_int rfl F.b_int bt_int (da_cons (d_var (i := 4)) (da_nil))) (d_var (i := 2)))) (dss_one (ds_set (i := 4) nd rfl (Or.inl rfl) (d_op op_fdiv od_div (d_var (i := 4)) (d_var (i := 2)))))) (dss_one (ds_append (d_var (i := 3)) (d_op op_mod od_mod (d_op op_fdiv od_div (d_call (a_law_mixed F) hr (by decide) rfl (da_cons (d_var (i := 0)) (da_cons (d_var (i := 6)) (da_nil))) (len_cons (len_cons (len_nil)))) (d_int)) (d_var (i := 2)))))))) (dss_one (ds_ret (d_var (i := 3)))))))
  exact h
theorem a_is_tuple_of (F : Fx K mg) : At P w K mg base "is_tuple_of" 1 2 f_is_tuple_of := by
  have nd := (c_is_tuple_of).nd
  show At P w K mg base _ _ _ (runD b_is_tuple_of 2)
  refine fnDn (k := 0) F.t_is_tuple_of c_is_tuple_of rfl rfl rfl fun f cdv A outer s H E hr => ?_
  have h : PSs (cxOf CX0 P w K mg base N_is_tuple_of "is_tuple_of" (defScope s_is_tuple_of) f cdv A outer s H E).nox (defBody s_is_tuple_of) (tS K _) :=
    dss_one (ds_ret (d_and (d_callB call_isi cd_isi rfl F.b_isinstance bt_isinstance (da_cons (d_var (i := 0)) (da_cons (d_ty rfl F.b_tuple bt_tuple) (da_nil)))) (d_one (d_cmp (op_eqD (hu64 hr)) od_eq (d_callB call_len_seq cd_len rfl F.b_len bt_len (da_cons (d_var (i := 0)) (da_nil))) (d_var (i := 1)) (nomark _)))))
  exact h
theorem a_is_integer (F : Fx K mg) : At P w K mg base "is_integer" 1 1 f_is_integer := by
  have nd := (c_is_integer).nd
  show At P w K mg base _ _ _ (runD b_is_integer 1)
  refine fnDn (k := 0) F.t_is_integer c_is_integer rfl rfl rfl fun f cdv A outer s H E hr => ?_
  have h : PSs (cxOf CX0 P w K mg base N_is_integer "is_integer" (defScope s_is_integer) f cdv A outer s H E).nox (defBody s_is_integer) (tS K _) :=
    dss_one (ds_ret (d_and (d_callB call_isi cd_isi rfl F.b_isinstance bt_isinstance (da_cons (d_var (i := 0)) (da_cons (d_ty rfl F.b_int bt_int) (da_nil)))) (d_one (d_not (d_callB call_isi cd_isi rfl F.b_isinstance bt_isinstance (da_cons (d_var (i := 0)) (da_cons (d_ty rfl F.b_bool bt_bool) (da_nil))))))))
  exact h
theorem a_is_between (F : Fx K mg) : At P w K mg base "is_between" 2 3 f_is_between := by
  have nd := (c_is_between).nd
  show At P w K mg base _ _ _ (runD b_is_between 3)
  refine fnDn (k := 1) F.t_is_between c_is_between rfl rfl rfl fun f cdv A outer s H E hr => ?_
  have h : PSs (cxOf CX0 P w K mg base N_is_between "is_between" (defScope s_is_between) f cdv A outer s H E).nox (defBody s_is_between) (tS K _) :=
    dss_one (ds_ret (d_and (d_call (a_is_integer F) hr (by decide) rfl (da_cons (d_var (i := 0)) (da_nil)) (len_cons (len_nil))) (d_one (d_chain op_le op_le od_cmp od_cmp (d_var (i := 1)) (d_var (i := 0)) (d_var (i := 2))))))
  exact h
theorem a_is_under (F : Fx K mg) : At P w K mg base "is_under" 2 2 f_is_under := by
  have nd := (c_is_under).nd
  show At P w K mg base _ _ _ (runD b_is_under 2)
  refine fnDn (k := 1) F.t_is_under c_is_under rfl rfl rfl fun f cdv A outer s H E hr => ?_
  have h : PSs (cxOf CX0 P w K mg base N_is_under "is_under" (defScope s_is_under) f cdv A outer s H E).nox (defBody s_is_under) (tS K _) :=
    dss_one (ds_ret (d_and (d_call (a_is_integer F) hr (by decide) rfl (da_cons (d_var (i := 0)) (da_nil)) (len_cons (len_nil))) (d_one (d_chain op_le op_lt od_cmp od_cmp (d_int) (d_var (i := 0)) (d_var (i := 1))))))
  exact h
theorem a_are_deals (F : Fx K mg) : At P w K mg base "are_deals" 3 1 f_are_deals := by
  have nd := (c_are_deals).nd
  show At P w K mg base _ _ _ (runD b_are_deals 2)
  refine fnDn (k := 2) F.t_are_deals c_are_deals rfl rfl rfl fun f cdv A outer s H E hr => ?_
  have h : PSs (cxOf CX0 P w K mg base N_are_deals "are_deals" (defScope s_are_deals) f cdv A outer s H E).nox (defBody s_are_deals) (tS K _) :=
    dss_cons (ds_if (dt_bool (dw_or (dt_not (dt_truth (d_call (a_is_tuple_of F) hr (by decide) rfl (da_cons (d_var (i := 0)) (da_cons (d_int) (da_nil))) (len_cons (len_cons (len_nil)))))) (dw_one (dt_not (dt_truth (d_call (a_is_between F) hr (by decide) rfl (da_cons (d_ix (d_var (i := 0)) (d_int)) (da_cons (d_globI rfl F.c_FEWEST_PERSONS) (da_cons (d_globI rfl F.c_MOST_PERSONS) (da_nil)))) (len_cons (len_cons (len_cons (len_nil)))))))))) (dss_one (ds_ret (d_bl))) (dss_nil)) (dss_cons (ds_if (dt_bool (dw_or (dt_not (dt_truth (d_callB call_isi cd_isi rfl F.b_isinstance bt_isinstance (da_cons (d_ix (d_var (i := 0)) (d_int)) (da_cons (d_ty rfl F.b_tuple bt_tuple) (da_nil)))))) (dw_one (dt_not (dt_chain op_le op_le od_cmp od_cmp (d_int) (d_callB call_len_seq cd_len rfl F.b_len bt_len (da_cons (d_ix (d_var (i := 0)) (d_int)) (da_nil))) (d_globI rfl F.c_MOST_DEALS)))))) (dss_one (ds_ret (d_bl))) (dss_nil)) (dss_one (ds_ret (d_callB (cr_all rfl) cd_all rfl F.b_all bt_all (da_cons (d_F (d_comp (own := [("row", 1)]) rfl nd (dj_seq (d_ix (d_var (i := 0)) (d_int))) (blkOk_by (by kernel_rfl)) (fun _ _ _ _ _ => dg_name (i := 1) nd rfl (Or.inl rfl)) (fun _ _ _ _ _ => dts_nil) (fun _ _ _ _ _ => d_and (d_call (a_is_tuple_of F) hr (by decide) rfl (da_cons (d_var (i := 1)) (da_cons (d_int) (da_nil))) (len_cons (len_cons (len_nil)))) (d_and (d_call (a_is_under F) hr (by decide) rfl (da_cons (d_ix (d_var (i := 1)) (d_int)) (da_cons (d_ix (d_var (i := 0)) (d_int)) (da_nil))) (len_cons (len_cons (len_nil)))) (d_and (d_call (a_is_under F) hr (by decide) rfl (da_cons (d_ix (d_var (i := 1)) (d_int)) (da_cons (d_ix (d_var (i := 0)) (d_int)) (da_nil))) (len_cons (len_cons (len_nil)))) (d_one (d_cmp (op_neD (hu64 hr)) od_ne (d_ix (d_var (i := 1)) (d_int)) (d_ix (d_var (i := 1)) (d_int)) (nomark _)))))))) (da_nil))))))
  exact h
theorem a_need_deals (F : Fx K mg) : At P w K mg base "need_deals" 4 1 f_need_deals := by
  have nd := (c_need_deals).nd
  show At P w K mg base _ _ _ (runD b_need_deals 1)
  refine fnDn (k := 3) F.t_need_deals c_need_deals rfl rfl rfl fun f cdv A outer s H E hr => ?_
  have h : PSs (cxOf CX0 P w K mg base N_need_deals "need_deals" (defScope s_need_deals) f cdv A outer s H E).nox (defBody s_need_deals) (tS K _) :=
    dss_one (ds_if (dt_not (dt_truth (d_call (a_are_deals F) hr (by decide) rfl (da_cons (d_var (i := 0)) (da_nil)) (len_cons (len_nil))))) (dss_one (ds_never)) (dss_nil))
  exact h
theorem a_are_under (F : Fx K mg) : At P w K mg base "are_under" 3 2 f_are_under := by
  have nd := (c_are_under).nd
  show At P w K mg base _ _ _ (runD b_are_under 3)
  refine fnDn (k := 2) F.t_are_under c_are_under rfl rfl rfl fun f cdv A outer s H E hr => ?_
  have h : PSs (cxOf CX0 P w K mg base N_are_under "are_under" (defScope s_are_under) f cdv A outer s H E).nox (defBody s_are_under) (tS K _) :=
    dss_one (ds_ret (d_and (d_callB call_isi cd_isi rfl F.b_isinstance bt_isinstance (da_cons (d_var (i := 0)) (da_cons (d_ty rfl F.b_tuple bt_tuple) (da_nil)))) (d_one (d_callB (cr_all rfl) cd_all rfl F.b_all bt_all (da_cons (d_F (d_comp (own := [("one", 2)]) rfl nd (dj_seq (d_var (i := 0))) (blkOk_by (by kernel_rfl)) (fun _ _ _ _ _ => dg_name (i := 2) nd rfl (Or.inl rfl)) (fun _ _ _ _ _ => dts_nil) (fun _ _ _ _ _ => d_call (a_is_under F) hr (by decide) rfl (da_cons (d_var (i := 2)) (da_cons (d_var (i := 1)) (da_nil))) (len_cons (len_cons (len_nil)))))) (da_nil))))))
  exact h
theorem a_is_lot (F : Fx K mg) : At P w K mg base "is_lot" 4 2 f_is_lot := by
  have nd := (c_is_lot).nd
  show At P w K mg base _ _ _ (runD b_is_lot 3)
  refine fnDn (k := 3) F.t_is_lot c_is_lot rfl rfl rfl fun f cdv A outer s H E hr => ?_
  have h : PSs (cxOf CX0 P w K mg base N_is_lot "is_lot" (defScope s_is_lot) f cdv A outer s H E).nox (defBody s_is_lot) (tS K _) :=
    dss_one (ds_ret (d_and (d_call (a_are_under F) hr (by decide) rfl (da_cons (d_var (i := 0)) (da_cons (d_var (i := 1)) (da_nil))) (len_cons (len_cons (len_nil)))) (d_one (d_callB (cr_all rfl) cd_all rfl F.b_all bt_all (da_cons (d_F (d_comp (own := [("at", 2)]) rfl nd (dj_of (di_rng2 rfl F.b_range (da_cons (d_int) (da_cons (d_callB call_len_seq cd_len rfl F.b_len bt_len (da_cons (d_var (i := 0)) (da_nil))) (da_nil))))) (blkOk_by (by kernel_rfl)) (fun _ _ _ _ _ => dg_name (i := 2) nd rfl (Or.inl rfl)) (fun _ _ _ _ _ => dts_nil) (fun _ _ _ _ _ => d_cmp op_lt od_cmp (d_ix (d_var (i := 0)) (d_op op_sub od_sub (d_var (i := 2)) (d_int))) (d_ix (d_var (i := 0)) (d_var (i := 2))) (nomark _)))) (da_nil))))))
  exact h
theorem a_need_free (F : Fx K mg) : At P w K mg base "need_free" 5 2 f_need_free := by
  have nd := (c_need_free).nd
  show At P w K mg base _ _ _ (runD b_need_free 2)
  refine fnDn (k := 4) F.t_need_free c_need_free rfl rfl rfl fun f cdv A outer s H E hr => ?_
  have h : PSs (cxOf CX0 P w K mg base N_need_free "need_free" (defScope s_need_free) f cdv A outer s H E).nox (defBody s_need_free) (tS K _) :=
    dss_one (ds_if (dt_not (dt_truth (d_call (a_is_lot F) hr (by decide) rfl (da_cons (d_var (i := 1)) (da_cons (d_ix (d_var (i := 0)) (d_int)) (da_nil))) (len_cons (len_cons (len_nil)))))) (dss_one (ds_never)) (dss_nil))
  exact h
theorem a_deals_of (F : Fx K mg) : At P w K mg base "deals_of" 1 2 f_deals_of := by
  have nd := (c_deals_of).nd
  show At P w K mg base _ _ _ (runD b_deals_of 4)
  refine fnDn (k := 0) F.t_deals_of c_deals_of rfl rfl rfl fun f cdv A outer s H E hr => ?_
  have h : PSs (cxOf CX0 P w K mg base N_deals_of "deals_of" (defScope s_deals_of) f cdv A outer s H E).nox (defBody s_deals_of) (tS K _) :=
    dss_one (ds_ret (d_F (d_comp (own := [("number", 2), ("row", 3)]) rfl nd (dj_of (di_enum rfl F.b_enumerate (da_cons (d_ix (d_var (i := 0)) (d_int)) (da_nil)))) (blkOk_by (by kernel_rfl)) (fun _ _ _ _ _ => dg_tup (n := 2) rfl (dgs_cons (dg_name (i := 2) nd rfl (Or.inl rfl)) (dgs_cons (dg_name (i := 3) nd rfl (Or.inl rfl)) (dgs_nil)))) (fun _ _ _ _ _ => dts_one (dt_cmp (op_inQ (hu65 hr)) od_in (d_var (i := 1)) (d_var (i := 3)) rfl)) (fun _ _ _ _ _ => d_var (i := 2)))))
  exact h
theorem a_Taking_left_of (F : Fx K mg) : AtMF P w K mg base "Taking" "left_of" 2 2 f_Taking_left_of := by
  have nd := (c_Taking_left_of).nd
  show AtMF P w K mg base _ _ _ _ (runF b_Taking_left_of 3)
  refine fnMFn (k := 1) F.t_Taking_left_of c_Taking_left_of rfl rfl rfl fun f cdv A outer s H E hr => ?_
  have h : PSs (cxOf CX0 P w K mg base N_Taking_left_of "Taking.left_of" (defScope s_Taking_left_of) f cdv A outer s H E).nox (defBody s_Taking_left_of) (tS K _) :=
    dss_one (ds_retF (d_comp (own := [("number", 2)]) rfl nd (dj_seq (d_call (a_deals_of F) hr (by decide) rfl (da_cons (d_attr F.f_Taking_deals (d_var (i := 0))) (da_cons (d_var (i := 1)) (da_nil))) (len_cons (len_cons (len_nil))))) (blkOk_by (by kernel_rfl)) (fun _ _ _ _ _ => dg_name (i := 2) nd rfl (Or.inl rfl)) (fun _ _ _ _ _ => dts_one (dt_dnotin (hu1 hr) (d_var (i := 2)) (d_attr F.f_Taking_firsts (d_var (i := 0))))) (fun _ _ _ _ _ => d_var (i := 2))))
  exact h
theorem a_Taking_take (F : Fx K mg) : AtS P w K mg base "Taking" "take" 1 3 f_Taking_take := by
  have nd := (c_Taking_take).nd
  show AtS P w K mg base _ _ _ _ (runS b_Taking_take 3)
  refine fnMn (k := 0) F.t_Taking_take c_Taking_take rfl rfl rfl fun f cdv A outer s H E hr => ?_
  have h : PSs (cxOf CX0 P w K mg base N_Taking_take "Taking.take" (defScope s_Taking_take) f cdv A outer s H E).nox (defBody s_Taking_take) (tS K _) :=
    dss_cons (ds_dput (hu1 hr) (d_var (i := 2)) (d_attr F.f_Taking_firsts (d_var (i := 0))) (d_var (i := 1))) (dss_one (ds_append (d_attr F.f_Taking_order (d_var (i := 0))) (d_tup (da_cons (d_var (i := 2)) (da_cons (d_var (i := 1)) (da_nil))))))
  exact h
theorem a_Taking_firsts_of (F : Fx K mg) : AtMF P w K mg base "Taking" "firsts_of" 2 2 f_Taking_firsts_of := by
  have nd := (c_Taking_firsts_of).nd
  show AtMF P w K mg base _ _ _ _ (runF b_Taking_firsts_of 3)
  refine fnMFn (k := 1) F.t_Taking_firsts_of c_Taking_firsts_of rfl rfl rfl fun f cdv A outer s H E hr => ?_
  have h : PSs (cxOf CX0 P w K mg base N_Taking_firsts_of "Taking.firsts_of" (defScope s_Taking_firsts_of) f cdv A outer s H E).nox (defBody s_Taking_firsts_of) (tS K _) :=
    dss_one (ds_retF (d_comp (own := [("number", 2)]) rfl nd (dj_seq (d_call (a_deals_of F) hr (by decide) rfl (da_cons (d_attr F.f_Taking_deals (d_var (i := 0))) (da_cons (d_var (i := 1)) (da_nil))) (len_cons (len_cons (len_nil))))) (blkOk_by (by kernel_rfl)) (fun _ _ _ _ _ => dg_name (i := 2) nd rfl (Or.inl rfl)) (fun _ _ _ _ _ => dts_one (dt_din (hu1 hr) (d_var (i := 2)) (d_attr F.f_Taking_firsts (d_var (i := 0))))) (fun _ _ _ _ _ => d_dget (hu1 hr) (d_attr F.f_Taking_firsts (d_var (i := 0))) (d_var (i := 2)))))
  exact h
theorem a_Taking_take_next (F : Fx K mg) : AtS P w K mg base "Taking" "take_next" 3 1 f_Taking_take_next := by
  have nd := (c_Taking_take_next).nd
  show AtS P w K mg base _ _ _ _ (runS b_Taking_take_next 3)
  refine fnMn (k := 2) F.t_Taking_take_next c_Taking_take_next rfl rfl rfl fun f cdv A outer s H E hr => ?_
  have h : PSs (cxOf CX0 P w K mg base N_Taking_take_next "Taking.take_next" (defScope s_Taking_take_next) f cdv A outer s H E).nox (defBody s_Taking_take_next) (tS K _) :=
    dss_cons (ds_for PassesOwn.never rfl (di_seq (d_attr F.f_Taking_bound (d_var (i := 0)))) (dg_name (i := 1) nd rfl (Or.inl rfl)) (dss_cons (ds_set (i := 2) nd rfl (Or.inl rfl) (d_F (d_methF F.o_Taking (a_Taking_left_of F) hr (by decide) (d_var (i := 0)) (da_cons (d_var (i := 1)) (da_nil)) (fun e => congrArg (· + 1) (len_cons (len_nil) e))))) (dss_one (ds_if (dt_bool (dw_and (dt_cmp (op_eqD (hu64 hr)) od_eq (d_callB call_len_seq cd_len rfl F.b_len bt_len (da_cons (d_var (i := 2)) (da_nil))) (d_int) (nomark _)) (dw_one (dt_cmp (op_ninQ (hu65 hr)) od_in (d_var (i := 1)) (d_F (d_methF F.o_Taking (a_Taking_firsts_of F) hr (by decide) (d_var (i := 0)) (da_cons (d_var (i := 1)) (da_nil)) (fun e => congrArg (· + 1) (len_cons (len_nil) e)))) rfl)))) (dss_cons (ds_exprS (d_methS F.o_Taking (a_Taking_take F) hr (by decide) (d_var (i := 0)) (da_cons (d_ix (d_var (i := 2)) (d_int)) (da_cons (d_var (i := 1)) (da_nil))) (fun e => congrArg (· + 1) (len_cons (len_cons (len_nil)) e)))) (dss_one (ds_ret (d_bl)))) (dss_nil))))) (dss_one (ds_ret (d_bl)))
  exact h
theorem a_Taking_init (F : Fx K mg) : AtI P w K mg base "Taking" 4 3 f_Taking_init := by
  have nd := (c_Taking_init).nd
  show AtI P w K mg base _ _ _ (runS b_Taking_init 7)
  refine fnIn (k := 3) F.t_Taking_init c_Taking_init rfl rfl rfl fun f cdv A outer s H E hr => ?_
  have h : PSs (cxOf CX0 P w K mg base N_Taking_init "Taking.__init__" (defScope s_Taking_init) f cdv A outer s H E).nox (defBody s_Taking_init) (tS K _) :=
    dss_cons (ds_attr F.f_Taking_deals (d_var (i := 1)) (d_var (i := 0))) (dss_cons (ds_attrN F.f_Taking_firsts (d_cDK) (d_var (i := 0))) (dss_cons (ds_attrN F.f_Taking_order (d_cL (d_lst (da_nil))) (d_var (i := 0))) (dss_cons (ds_for PassesOwn.never rfl (di_enum rfl F.b_enumerate (da_cons (d_ix (d_var (i := 1)) (d_int)) (da_nil))) (dg_tup (n := 2) rfl (dgs_cons (dg_name (i := 3) nd rfl (Or.inl rfl)) (dgs_cons (dg_name (i := 4) nd rfl (Or.inl rfl)) (dgs_nil)))) (dss_cons (ds_setLc (own := [("person", 6)]) (i := 5) rfl nd rfl rfl (sw_true rfl rfl rfl (by decide +kernel)) (dj_seq (d_F (d_callBF (cr_sortD (hu64 hr)) cf_sorted rfl F.b_sorted bt_sorted (da_cons (d_var (i := 4)) (da_nil))))) (blkOk_by (by kernel_rfl)) (fun _ _ _ _ _ => dg_name (i := 6) nd rfl (Or.inl rfl)) (fun _ _ _ _ _ => dts_one (dt_cmp (op_inQ (hu65 hr)) od_in (d_var (i := 6)) (d_var (i := 2)) rfl)) (fun _ _ _ _ _ => d_var (i := 6))) (dss_one (ds_if (dt_truth (d_var (i := 5))) (dss_one (ds_exprS (d_methS F.o_Taking (a_Taking_take F) hr (by decide) (d_var (i := 0)) (da_cons (d_var (i := 3)) (da_cons (d_ix (d_var (i := 5)) (d_int)) (da_nil))) (fun e => congrArg (· + 1) (len_cons (len_cons (len_nil)) e))))) (dss_nil))))) (dss_cons (ds_attr F.f_Taking_bound (d_F (d_comp (own := [("person", 6)]) rfl nd (dj_of (di_rng1 rfl F.b_range (da_cons (d_ix (d_var (i := 1)) (d_int)) (da_nil)))) (blkOk_by (by kernel_rfl)) (fun _ _ _ _ _ => dg_name (i := 6) nd rfl (Or.inl rfl)) (fun _ _ _ _ _ => dts_one (dt_cmp (op_ninQ (hu65 hr)) od_in (d_var (i := 6)) (d_var (i := 2)) rfl)) (fun _ _ _ _ _ => d_var (i := 6)))) (d_var (i := 0))) (dss_one (ds_whileS PassesOwn.never (dt_S (d_methS0 F.o_Taking (a_Taking_take_next F) hr (by decide) (d_var (i := 0)))) (dss_one (ds_pass))))))))
  exact h
theorem a_other_of (F : Fx K mg) : At P w K mg base "other_of" 1 3 f_other_of := by
  have nd := (c_other_of).nd
  show At P w K mg base _ _ _ (runD b_other_of 5)
  refine fnDn (k := 0) F.t_other_of c_other_of rfl rfl rfl fun f cdv A outer s H E hr => ?_
  have h : PSs (cxOf CX0 P w K mg base N_other_of "other_of" (defScope s_other_of) f cdv A outer s H E).nox (defBody s_other_of) (tS K _) :=
    dss_cons (ds_asg (d_ix (d_ix (d_var (i := 0)) (d_int)) (d_var (i := 1))) (dg_tup (n := 2) rfl (dgs_cons (dg_name (i := 3) nd rfl (Or.inl rfl)) (dgs_cons (dg_name (i := 4) nd rfl (Or.inl rfl)) (dgs_nil))))) (dss_one (ds_ret (d_if (dt_cmp (op_eqD (hu64 hr)) od_eq (d_var (i := 2)) (d_var (i := 3)) (nomark _)) (d_var (i := 4)) (d_var (i := 3)))))
  exact h
theorem a_Taking_bad_round (F : Fx K mg) : AtM P w K mg base "Taking" "bad_round" 3 1 f_Taking_bad_round := by
  have nd := (c_Taking_bad_round).nd
  show AtM P w K mg base _ _ _ _ (runD b_Taking_bad_round 9)
  refine fnMPn (k := 2) F.t_Taking_bad_round c_Taking_bad_round rfl rfl rfl fun f cdv A outer s H E hr => ?_
  have h : PSs (cxOf CX0 P w K mg base N_Taking_bad_round "Taking.bad_round" (defScope s_Taking_bad_round) f cdv A outer s H E).nox (defBody s_Taking_bad_round) (tS K _) :=
    dss_cons (ds_set (i := 1) nd rfl (Or.inl rfl) (d_callB (cr_min rfl) cd_min rfl F.b_min bt_min (da_cons (d_F (d_comp (own := [("person", 6)]) rfl nd (dj_seq (d_attr F.f_Taking_bound (d_var (i := 0)))) (blkOk_by (by kernel_rfl)) (fun _ _ _ _ _ => dg_name (i := 6) nd rfl (Or.inl rfl)) (fun _ _ _ _ _ => dts_one (dt_truth (d_F (d_methF F.o_Taking (a_Taking_left_of F) hr (by decide) (d_var (i := 0)) (da_cons (d_var (i := 6)) (da_nil)) (fun e => congrArg (· + 1) (len_cons (len_nil) e)))))) (fun _ _ _ _ _ => d_var (i := 6)))) (da_nil)))) (dss_cons (ds_new (i := 2) nd rfl (Or.inl rfl) (d_lst (da_nil))) (dss_cons (ds_set (i := 3) nd rfl (Or.inr rfl) (d_non)) (dss_cons (ds_while PassesOwn.never (dt_cmp (op_ninQ (hu65 hr)) od_in (d_var (i := 1)) (d_F (d_comp (own := [("person", 6), ("_", 7)]) rfl nd (dj_seq (d_var (i := 2))) (blkOk_by (by kernel_rfl)) (fun _ _ _ _ _ => dg_tup (n := 2) rfl (dgs_cons (dg_name (i := 6) nd rfl (Or.inl rfl)) (dgs_cons (dg_name (i := 7) nd rfl (Or.inl rfl)) (dgs_nil)))) (fun _ _ _ _ _ => dts_nil) (fun _ _ _ _ _ => d_var (i := 6)))) rfl) (dss_cons (ds_set (i := 4) nd rfl (Or.inl rfl) (d_ix (d_F (d_comp (own := [("one", 8)]) rfl nd (dj_seq (d_F (d_methF F.o_Taking (a_Taking_left_of F) hr (by decide) (d_var (i := 0)) (da_cons (d_var (i := 1)) (da_nil)) (fun e => congrArg (· + 1) (len_cons (len_nil) e))))) (blkOk_by (by kernel_rfl)) (fun _ _ _ _ _ => dg_name (i := 8) nd rfl (Or.inl rfl)) (fun _ _ _ _ _ => dts_one (dt_cmp (op_neD (hu64 hr)) od_ne (d_var (i := 8)) (d_var (i := 3)) (nomark _))) (fun _ _ _ _ _ => d_var (i := 8)))) (d_int))) (dss_cons (ds_append (d_var (i := 2)) (d_tup (da_cons (d_var (i := 1)) (da_cons (d_var (i := 4)) (da_nil))))) (dss_cons (ds_set (i := 3) nd rfl (Or.inr rfl) (d_var (i := 4))) (dss_one (ds_set (i := 1) nd rfl (Or.inl rfl) (d_call (a_other_of F) hr (by decide) rfl (da_cons (d_attr F.f_Taking_deals (d_var (i := 0))) (da_cons (d_var (i := 4)) (da_cons (d_var (i := 1)) (da_nil)))) (len_cons (len_cons (len_cons (len_nil))))))))))) (dss_cons (ds_set (i := 5) nd rfl (Or.inl rfl) (d_index (hu65 hr) (d_F (d_comp (own := [("person", 6), ("_", 7)]) rfl nd (dj_seq (d_var (i := 2))) (blkOk_by (by kernel_rfl)) (fun _ _ _ _ _ => dg_tup (n := 2) rfl (dgs_cons (dg_name (i := 6) nd rfl (Or.inl rfl)) (dgs_cons (dg_name (i := 7) nd rfl (Or.inl rfl)) (dgs_nil)))) (fun _ _ _ _ _ => dts_nil) (fun _ _ _ _ _ => d_var (i := 6)))) (d_var (i := 1)))) (dss_one (ds_ret (d_callT call_tuple_of cd_tuple rfl F.b_tuple bt_tuple (da_cons (d_cutA (d_var (i := 2)) (do_some (d_var (i := 5))) (do_none)) (da_nil)))))))))
  exact h
theorem a_agent_firsts (F : Fx K mg) : At P w K mg base "agent_firsts" 6 2 f_agent_firsts := by
  have nd := (c_agent_firsts).nd
  show At P w K mg base _ _ _ (runD b_agent_firsts 5)
  refine fnDn (k := 5) F.t_agent_firsts c_agent_firsts rfl rfl rfl fun f cdv A outer s H E hr => ?_
  have h : PSs (cxOf CX0 P w K mg base N_agent_firsts "agent_firsts" (defScope s_agent_firsts) f cdv A outer s H E).nox (defBody s_agent_firsts) (tS K _) :=
    dss_cons (ds_expr (d_call (a_need_deals F) hr (by decide) rfl (da_cons (d_var (i := 0)) (da_nil)) (len_cons (len_nil)))) (dss_cons (ds_expr (d_call (a_need_free F) hr (by decide) rfl (da_cons (d_var (i := 0)) (da_cons (d_var (i := 1)) (da_nil))) (len_cons (len_cons (len_nil))))) (dss_cons (ds_set (i := 2) nd rfl (Or.inr rfl) (d_mkV (a_Taking_init F) hr (by decide) rfl (da_cons (d_var (i := 0)) (da_cons (d_var (i := 1)) (da_nil))) (fun e => congrArg (· + 1) (len_cons (len_cons (len_nil)) e)))) (dss_cons (ds_set (i := 3) nd rfl (Or.inl rfl) (d_callB call_len_seq cd_len rfl F.b_len bt_len (da_cons (d_ix (d_var (i := 0)) (d_int)) (da_nil)))) (dss_cons (ds_if (dt_cmp (op_eqD (hu64 hr)) od_eq (d_callB call_lenK cd_lenK rfl F.b_len bt_len (da_cons (d_attr F.f_Taking_firsts (d_var (i := 2))) (da_nil))) (d_var (i := 3)) (nomark _)) (dss_one (ds_ret (d_tup (da_cons (d_str) (da_cons (d_callT call_tuple_of cd_tuple rfl F.b_tuple bt_tuple (da_cons (d_F (d_comp (own := [("number", 4)]) rfl nd (dj_of (di_rng1 rfl F.b_range (da_cons (d_var (i := 3)) (da_nil)))) (blkOk_by (by kernel_rfl)) (fun _ _ _ _ _ => dg_name (i := 4) nd rfl (Or.inl rfl)) (fun _ _ _ _ _ => dts_nil) (fun _ _ _ _ _ => d_dget (hu1 hr) (d_attr F.f_Taking_firsts (d_var (i := 2))) (d_var (i := 4))))) (da_nil))) (da_cons (d_callT call_tuple_of cd_tuple rfl F.b_tuple bt_tuple (da_cons (d_attr F.f_Taking_order (d_var (i := 2))) (da_nil))) (da_nil))))))) (dss_nil)) (dss_one (ds_ret (d_tup (da_cons (d_str) (da_cons (d_methP0 F.o_Taking (a_Taking_bad_round F) hr (by decide) (d_var (i := 2))) (da_nil))))))))))
  exact h
theorem a_are_firsts (F : Fx K mg) : At P w K mg base "are_firsts" 3 2 f_are_firsts := by
  have nd := (c_are_firsts).nd
  show At P w K mg base _ _ _ (runD b_are_firsts 4)
  refine fnDn (k := 2) F.t_are_firsts c_are_firsts rfl rfl rfl fun f cdv A outer s H E hr => ?_
  have h : PSs (cxOf CX0 P w K mg base N_are_firsts "are_firsts" (defScope s_are_firsts) f cdv A outer s H E).nox (defBody s_are_firsts) (tS K _) :=
    dss_one (ds_ret (d_and (d_call (a_is_tuple_of F) hr (by decide) rfl (da_cons (d_var (i := 1)) (da_cons (d_callB call_len_seq cd_len rfl F.b_len bt_len (da_cons (d_ix (d_var (i := 0)) (d_int)) (da_nil))) (da_nil))) (len_cons (len_cons (len_nil)))) (d_one (d_callB (cr_all rfl) cd_all rfl F.b_all bt_all (da_cons (d_F (d_comp (own := [("one", 2), ("row", 3)]) rfl nd (dj_of (di_zip rfl F.b_zip (da_cons (d_var (i := 1)) (da_cons (d_ix (d_var (i := 0)) (d_int)) (da_nil))))) (blkOk_by (by kernel_rfl)) (fun _ _ _ _ _ => dg_tup (n := 2) rfl (dgs_cons (dg_name (i := 2) nd rfl (Or.inl rfl)) (dgs_cons (dg_name (i := 3) nd rfl (Or.inl rfl)) (dgs_nil)))) (fun _ _ _ _ _ => dts_nil) (fun _ _ _ _ _ => d_and (d_call (a_is_under F) hr (by decide) rfl (da_cons (d_var (i := 2)) (da_cons (d_ix (d_var (i := 0)) (d_int)) (da_nil))) (len_cons (len_cons (len_nil)))) (d_one (d_cmp (op_inQ (hu65 hr)) od_in (d_var (i := 2)) (d_var (i := 3)) rfl))))) (da_nil))))))
  exact h
theorem a_need_firsts (F : Fx K mg) : At P w K mg base "need_firsts" 4 2 f_need_firsts := by
  have nd := (c_need_firsts).nd
  show At P w K mg base _ _ _ (runD b_need_firsts 2)
  refine fnDn (k := 3) F.t_need_firsts c_need_firsts rfl rfl rfl fun f cdv A outer s H E hr => ?_
  have h : PSs (cxOf CX0 P w K mg base N_need_firsts "need_firsts" (defScope s_need_firsts) f cdv A outer s H E).nox (defBody s_need_firsts) (tS K _) :=
    dss_one (ds_if (dt_not (dt_truth (d_call (a_are_firsts F) hr (by decide) rfl (da_cons (d_var (i := 0)) (da_cons (d_var (i := 1)) (da_nil))) (len_cons (len_cons (len_nil)))))) (dss_one (ds_never)) (dss_nil))
  exact h
theorem a_is_agent_conduct (F : Fx K mg) : At P w K mg base "is_agent_conduct" 3 3 f_is_agent_conduct := by
  have nd := (c_is_agent_conduct).nd
  show At P w K mg base _ _ _ (runD b_is_agent_conduct 5)
  refine fnDn (k := 2) F.t_is_agent_conduct c_is_agent_conduct rfl rfl rfl fun f cdv A outer s H E hr => ?_
  have h : PSs (cxOf CX0 P w K mg base N_is_agent_conduct "is_agent_conduct" (defScope s_is_agent_conduct) f cdv A outer s H E).nox (defBody s_is_agent_conduct) (tS K _) :=
    dss_cons (ds_if (dt_bool (dw_or (dt_not (dt_truth (d_callB call_isi cd_isi rfl F.b_isinstance bt_isinstance (da_cons (d_var (i := 2)) (da_cons (d_ty rfl F.b_tuple bt_tuple) (da_nil)))))) (dw_or (dt_cmp op_gt od_cmp (d_callB call_len_seq cd_len rfl F.b_len bt_len (da_cons (d_var (i := 2)) (da_nil))) (d_globI rfl F.c_MOST_ROWS) (nomark _)) (dw_one (dt_not (dt_truth (d_callB (cr_all rfl) cd_all rfl F.b_all bt_all (da_cons (d_F (d_comp (own := [("row", 3)]) rfl nd (dj_seq (d_var (i := 2))) (blkOk_by (by kernel_rfl)) (fun _ _ _ _ _ => dg_name (i := 3) nd rfl (Or.inl rfl)) (fun _ _ _ _ _ => dts_nil) (fun _ _ _ _ _ => d_call (a_is_tuple_of F) hr (by decide) rfl (da_cons (d_var (i := 3)) (da_cons (d_int) (da_nil))) (len_cons (len_cons (len_nil)))))) (da_nil))))))))) (dss_one (ds_ret (d_bl))) (dss_nil)) (dss_cons (ds_for PassesOwn.never rfl (di_seq (d_var (i := 2))) (dg_name (i := 3) nd rfl (Or.inl rfl)) (dss_cons (ds_if (dt_bool (dw_or (dt_not (dt_truth (d_call (a_is_between F) hr (by decide) rfl (da_cons (d_ix (d_var (i := 3)) (d_int)) (da_cons (d_int) (da_cons (d_globI rfl F.c_MOST_ROUND) (da_nil)))) (len_cons (len_cons (len_cons (len_nil))))))) (dw_or (dt_not (dt_truth (d_call (a_is_under F) hr (by decide) rfl (da_cons (d_ix (d_var (i := 3)) (d_int)) (da_cons (d_ix (d_var (i := 0)) (d_int)) (da_nil))) (len_cons (len_cons (len_nil)))))) (dw_one (dt_cmp (op_ninQ (hu65 hr)) od_in (d_ix (d_var (i := 3)) (d_int)) (d_var (i := 1)) rfl))))) (dss_one (ds_ret (d_bl))) (dss_nil)) (dss_one (ds_if (dt_bool (dw_or (dt_not (dt_truth (d_call (a_is_under F) hr (by decide) rfl (da_cons (d_ix (d_var (i := 3)) (d_int)) (da_cons (d_callB call_len_seq cd_len rfl F.b_len bt_len (da_cons (d_ix (d_var (i := 0)) (d_int)) (da_nil))) (da_nil))) (len_cons (len_cons (len_nil)))))) (dw_one (dt_cmp (op_ninQ (hu65 hr)) od_in (d_ix (d_var (i := 3)) (d_int)) (d_ix (d_ix (d_var (i := 0)) (d_int)) (d_ix (d_var (i := 3)) (d_int))) rfl)))) (dss_one (ds_ret (d_bl))) (dss_nil))))) (dss_one (ds_ret (d_callB (cr_all rfl) cd_all rfl F.b_all bt_all (da_cons (d_F (d_comp (own := [("at", 4)]) rfl nd (dj_of (di_rng2 rfl F.b_range (da_cons (d_int) (da_cons (d_callB call_len_seq cd_len rfl F.b_len bt_len (da_cons (d_var (i := 2)) (da_nil))) (da_nil))))) (blkOk_by (by kernel_rfl)) (fun _ _ _ _ _ => dg_name (i := 4) nd rfl (Or.inl rfl)) (fun _ _ _ _ _ => dts_nil) (fun _ _ _ _ _ => d_cmp op_le od_cmp (d_ix (d_ix (d_var (i := 2)) (d_op op_sub od_sub (d_var (i := 4)) (d_int))) (d_int)) (d_ix (d_ix (d_var (i := 2)) (d_var (i := 4))) (d_int)) (nomark _)))) (da_nil))))))
  exact h
theorem a_need_agents (F : Fx K mg) : At P w K mg base "need_agents" 6 5 f_need_agents := by
  have nd := (c_need_agents).nd
  show At P w K mg base _ _ _ (runD b_need_agents 5)
  refine fnDn (k := 5) F.t_need_agents c_need_agents rfl rfl rfl fun f cdv A outer s H E hr => ?_
  have h : PSs (cxOf CX0 P w K mg base N_need_agents "need_agents" (defScope s_need_agents) f cdv A outer s H E).nox (defBody s_need_agents) (tS K _) :=
    dss_cons (ds_expr (d_call (a_need_deals F) hr (by decide) rfl (da_cons (d_var (i := 0)) (da_nil)) (len_cons (len_nil)))) (dss_cons (ds_expr (d_call (a_need_free F) hr (by decide) rfl (da_cons (d_var (i := 0)) (da_cons (d_var (i := 1)) (da_nil))) (len_cons (len_cons (len_nil))))) (dss_cons (ds_expr (d_call (a_need_firsts F) hr (by decide) rfl (da_cons (d_var (i := 0)) (da_cons (d_var (i := 2)) (da_nil))) (len_cons (len_cons (len_nil))))) (dss_cons (ds_expr (d_call (a_need_free F) hr (by decide) rfl (da_cons (d_var (i := 0)) (da_cons (d_var (i := 3)) (da_nil))) (len_cons (len_cons (len_nil))))) (dss_one (ds_if (dt_not (dt_truth (d_call (a_is_agent_conduct F) hr (by decide) rfl (da_cons (d_var (i := 0)) (da_cons (d_var (i := 3)) (da_cons (d_var (i := 4)) (da_nil)))) (len_cons (len_cons (len_cons (len_nil))))))) (dss_one (ds_never)) (dss_nil))))))
  exact h
theorem a_Agents_init (F : Fx K mg) : AtI P w K mg base "Agents" 1 5 f_Agents_init := by
  have nd := (c_Agents_init).nd
  show AtI P w K mg base _ _ _ (runS b_Agents_init 6)
  refine fnIn (k := 0) F.t_Agents_init c_Agents_init rfl rfl rfl fun f cdv A outer s H E hr => ?_
  have h : PSs (cxOf CX0 P w K mg base N_Agents_init "Agents.__init__" (defScope s_Agents_init) f cdv A outer s H E).nox (defBody s_Agents_init) (tS K _) :=
    dss_cons (ds_attr F.f_Agents_deals (d_var (i := 1)) (d_var (i := 0))) (dss_cons (ds_attr F.f_Agents_content (d_var (i := 2)) (d_var (i := 0))) (dss_cons (ds_attr F.f_Agents_firsts (d_var (i := 3)) (d_var (i := 0))) (dss_cons (ds_attr F.f_Agents_league (d_var (i := 4)) (d_var (i := 0))) (dss_one (ds_attrN F.f_Agents_held (d_cLLl (own := [("_", 5)]) rfl nd (dj_seq (d_ix (d_var (i := 1)) (d_int))) (blkOk_by (by kernel_rfl)) (fun _ _ _ _ _ => dg_name (i := 5) nd rfl (Or.inl rfl)) (gN_all _)) (d_var (i := 0)))))))
  exact h
theorem a_Agents_is_covered (F : Fx K mg) : AtM P w K mg base "Agents" "is_covered" 2 3 f_Agents_is_covered := by
  have nd := (c_Agents_is_covered).nd
  show AtM P w K mg base _ _ _ _ (runD b_Agents_is_covered 3)
  refine fnMPn (k := 1) F.t_Agents_is_covered c_Agents_is_covered rfl rfl rfl fun f cdv A outer s H E hr => ?_
  have h : PSs (cxOf CX0 P w K mg base N_Agents_is_covered "Agents.is_covered" (defScope s_Agents_is_covered) f cdv A outer s H E).nox (defBody s_Agents_is_covered) (tS K _) :=
    dss_one (ds_ret (d_cmp (op_inQ (hu65 hr)) od_in (d_call (a_other_of F) hr (by decide) rfl (da_cons (d_attr F.f_Agents_deals (d_var (i := 0))) (da_cons (d_var (i := 2)) (da_cons (d_var (i := 1)) (da_nil)))) (len_cons (len_cons (len_cons (len_nil))))) (d_ix (d_attr F.f_Agents_held (d_var (i := 0))) (d_var (i := 2))) rfl))
  exact h
theorem a_Agents_wishes (F : Fx K mg) : AtMF P w K mg base "Agents" "wishes" 3 2 f_Agents_wishes := by
  have nd := (c_Agents_wishes).nd
  show AtMF P w K mg base _ _ _ _ (runF b_Agents_wishes 6)
  refine fnMFn (k := 2) F.t_Agents_wishes c_Agents_wishes rfl rfl rfl fun f cdv A outer s H E hr => ?_
  have h : PSs (cxOf CX0 P w K mg base N_Agents_wishes "Agents.wishes" (defScope s_Agents_wishes) f cdv A outer s H E).nox (defBody s_Agents_wishes) (tS K _) :=
    dss_cons (ds_set (i := 2) nd rfl (Or.inl rfl) (d_call (a_deals_of F) hr (by decide) rfl (da_cons (d_attr F.f_Agents_deals (d_var (i := 0))) (da_cons (d_var (i := 1)) (da_nil))) (len_cons (len_cons (len_nil))))) (dss_cons (ds_if (dt_cmp (op_inQ (hu65 hr)) od_in (d_var (i := 1)) (d_attr F.f_Agents_content (d_var (i := 0))) rfl) (dss_one (ds_retF (d_comp (own := [("number", 5)]) rfl nd (dj_seq (d_var (i := 2))) (blkOk_by (by kernel_rfl)) (fun _ _ _ _ _ => dg_name (i := 5) nd rfl (Or.inl rfl)) (fun _ _ _ _ _ => dts_one (dt_bool (dw_or (dt_cmp (op_eqD (hu64 hr)) od_eq (d_ix (d_attr F.f_Agents_firsts (d_var (i := 0))) (d_var (i := 5))) (d_var (i := 1)) (nomark _)) (dw_one (dt_truth (d_methP F.o_Agents (a_Agents_is_covered F) hr (by decide) (d_var (i := 0)) (da_cons (d_var (i := 1)) (da_cons (d_var (i := 5)) (da_nil))) (fun e => congrArg (· + 1) (len_cons (len_cons (len_nil)) e)))))))) (fun _ _ _ _ _ => d_var (i := 5))))) (dss_nil)) (dss_cons (ds_new (i := 3) nd rfl (Or.inr rfl) (d_comp (own := [("number", 5)]) rfl nd (dj_seq (d_var (i := 2))) (blkOk_by (by kernel_rfl)) (fun _ _ _ _ _ => dg_name (i := 5) nd rfl (Or.inl rfl)) (fun _ _ _ _ _ => dts_one (dt_cmp (op_eqD (hu64 hr)) od_eq (d_ix (d_attr F.f_Agents_firsts (d_var (i := 0))) (d_var (i := 5))) (d_var (i := 1)) (nomark _))) (fun _ _ _ _ _ => d_var (i := 5)))) (dss_cons (ds_setLc (own := [("number", 5)]) (i := 4) rfl nd rfl rfl (sw_true rfl rfl rfl (by decide +kernel)) (dj_seq (d_var (i := 2))) (blkOk_by (by kernel_rfl)) (fun _ _ _ _ _ => dg_name (i := 5) nd rfl (Or.inl rfl)) (fun _ _ _ _ _ => dts_one (dt_cmp (op_ninQ (hu65 hr)) od_in (d_var (i := 5)) (d_var (i := 3)) rfl)) (fun _ _ _ _ _ => d_var (i := 5))) (dss_cons (ds_if (dt_bool (dw_or (dt_cmp op_gt od_cmp (d_callB call_len_seq cd_len rfl F.b_len bt_len (da_cons (d_var (i := 3)) (da_nil))) (d_int) (nomark _)) (dw_one (dt_not (dt_truth (d_callB (cr_all rfl) cd_all rfl F.b_all bt_all (da_cons (d_F (d_comp (own := [("number", 5)]) rfl nd (dj_seq (d_var (i := 4))) (blkOk_by (by kernel_rfl)) (fun _ _ _ _ _ => dg_name (i := 5) nd rfl (Or.inl rfl)) (fun _ _ _ _ _ => dts_nil) (fun _ _ _ _ _ => d_methP F.o_Agents (a_Agents_is_covered F) hr (by decide) (d_var (i := 0)) (da_cons (d_var (i := 1)) (da_cons (d_var (i := 5)) (da_nil))) (fun e => congrArg (· + 1) (len_cons (len_cons (len_nil)) e))))) (da_nil)))))))) (dss_one (ds_retF (d_lst (da_nil)))) (dss_nil)) (dss_one (ds_retR (d_rIf (dt_truth (d_callB (cr_all rfl) cd_all rfl F.b_all bt_all (da_cons (d_F (d_comp (own := [("number", 5)]) rfl nd (dj_seq (d_var (i := 3))) (blkOk_by (by kernel_rfl)) (fun _ _ _ _ _ => dg_name (i := 5) nd rfl (Or.inl rfl)) (fun _ _ _ _ _ => dts_nil) (fun _ _ _ _ _ => d_methP F.o_Agents (a_Agents_is_covered F) hr (by decide) (d_var (i := 0)) (da_cons (d_var (i := 1)) (da_cons (d_var (i := 5)) (da_nil))) (fun e => congrArg (· + 1) (len_cons (len_cons (len_nil)) e))))) (da_nil)))) (d_rF (d_opF op_cat od_catF (d_var (i := 3)) (d_var (i := 4)))) (d_rE (d_var (i := 3))))))))))
  exact h
theorem a_Agents_step (F : Fx K mg) : AtS P w K mg base "Agents" "step" 4 2 f_Agents_step := by
  have nd := (c_Agents_step).nd
  show AtS P w K mg base _ _ _ _ (runS b_Agents_step 6)
  refine fnMn (k := 3) F.t_Agents_step c_Agents_step rfl rfl rfl fun f cdv A outer s H E hr => ?_
  have h : PSs (cxOf CX0 P w K mg base N_Agents_step "Agents.step" (defScope s_Agents_step) f cdv A outer s H E).nox (defBody s_Agents_step) (tS K _) :=
    dss_cons (ds_new (i := 2) nd rfl (Or.inl rfl) (d_callTF call_list_of cf_list rfl F.b_list bt_list (da_cons (d_var (i := 1)) (da_nil)))) (dss_cons (ds_for PassesOwn.never rfl (di_rng1 rfl F.b_range (da_cons (d_ix (d_attr F.f_Agents_deals (d_var (i := 0))) (d_int)) (da_nil))) (dg_name (i := 3) nd rfl (Or.inr rfl)) (dss_one (ds_if (dt_cmp (op_ninQ (hu65 hr)) od_in (d_var (i := 3)) (d_attr F.f_Agents_league (d_var (i := 0))) rfl) (dss_one (ds_extend (d_var (i := 2)) (d_F (d_comp (own := [("number", 5)]) rfl nd (dj_seq (d_F (d_methF F.o_Agents (a_Agents_wishes F) hr (by decide) (d_var (i := 0)) (da_cons (d_var (i := 3)) (da_nil)) (fun e => congrArg (· + 1) (len_cons (len_nil) e))))) (blkOk_by (by kernel_rfl)) (fun _ _ _ _ _ => dg_name (i := 5) nd rfl (Or.inl rfl)) (fun _ _ _ _ _ => dts_nil) (fun _ _ _ _ _ => d_tup (da_cons (d_var (i := 3)) (da_cons (d_var (i := 5)) (da_nil)))))))) (dss_nil)))) (dss_cons (ds_set (i := 4) nd rfl (Or.inl rfl) (d_bl)) (dss_cons (ds_forC PassesOwn.never rfl (dic_seq (d_var (i := 2))) (dg_tup (n := 2) rfl (dgs_cons (dg_name (i := 3) nd rfl (Or.inr rfl)) (dgs_cons (dg_name (i := 5) nd rfl (Or.inl rfl)) (dgs_nil)))) (dss_one (ds_if (dt_cmp (op_ninQ (hu65 hr)) od_in (d_var (i := 3)) (d_ix (d_attr F.f_Agents_held (d_var (i := 0))) (d_var (i := 5))) rfl) (dss_cons (ds_append (d_ix (d_attr F.f_Agents_held (d_var (i := 0))) (d_var (i := 5))) (d_var (i := 3))) (dss_one (ds_set (i := 4) nd rfl (Or.inl rfl) (d_bl)))) (dss_nil)))) (dss_one (ds_ret (d_var (i := 4)))))))
  exact h
theorem a_led_agents (F : Fx K mg) : At P w K mg base "led_agents" 5 5 f_led_agents := by
  have nd := (c_led_agents).nd
  show At P w K mg base _ _ _ (runD b_led_agents 10)
  refine fnDn (k := 4) F.t_led_agents c_led_agents rfl rfl rfl fun f cdv A outer s H E hr => ?_
  have h : PSs (cxOf CX0 P w K mg base N_led_agents "led_agents" (defScope s_led_agents) f cdv A outer s H E).nox (defBody s_led_agents) (tS K _) :=
    dss_cons (ds_setS (i := 5) nd rfl (Or.inl rfl) (d_mk (a_Agents_init F) hr (by decide) rfl (da_cons (d_var (i := 0)) (da_cons (d_var (i := 1)) (da_cons (d_var (i := 2)) (da_cons (d_var (i := 3)) (da_nil))))) (fun e => congrArg (· + 1) (len_cons (len_cons (len_cons (len_cons (len_nil)))) e)))) (dss_cons (ds_set (i := 6) nd rfl (Or.inl rfl) (d_maxD rfl rfl F.b_max (d_F (d_comp (own := [("row", 9)]) rfl nd (dj_seq (d_var (i := 4))) (blkOk_by (by kernel_rfl)) (fun _ _ _ _ _ => dg_name (i := 9) nd rfl (Or.inl rfl)) (fun _ _ _ _ _ => dts_nil) (fun _ _ _ _ _ => d_ix (d_var (i := 9)) (d_int)))) (d_int))) (dss_cons (ds_set (i := 7) nd rfl (Or.inr rfl) (d_int)) (dss_cons (ds_set (i := 8) nd rfl (Or.inl rfl) (d_bl)) (dss_cons (ds_while PassesOwn.never (dt_bool (dw_or (dt_truth (d_var (i := 8))) (dw_one (dt_cmp op_le od_cmp (d_var (i := 7)) (d_var (i := 6)) (nomark _))))) (dss_cons (ds_setS (i := 8) nd rfl (Or.inl rfl) (d_methS F.o_Agents (a_Agents_step F) hr (by decide) (d_var (i := 5)) (da_cons (d_F (d_comp (own := [("row", 9)]) rfl nd (dj_seq (d_var (i := 4))) (blkOk_by (by kernel_rfl)) (fun _ _ _ _ _ => dg_name (i := 9) nd rfl (Or.inl rfl)) (fun _ _ _ _ _ => dts_one (dt_cmp (op_eqD (hu64 hr)) od_eq (d_ix (d_var (i := 9)) (d_int)) (d_var (i := 7)) (nomark _))) (fun _ _ _ _ _ => d_tup (da_cons (d_ix (d_var (i := 9)) (d_int)) (da_cons (d_ix (d_var (i := 9)) (d_int)) (da_nil)))))) (da_nil)) (fun e => congrArg (· + 1) (len_cons (len_nil) e)))) (dss_one (ds_aug (i := 7) nd rfl (Or.inr rfl) (d_int))))) (dss_one (ds_ret (d_var (i := 5))))))))
  exact h
theorem a_Agents_is_done (F : Fx K mg) : AtM P w K mg base "Agents" "is_done" 1 2 f_Agents_is_done := by
  have nd := (c_Agents_is_done).nd
  show AtM P w K mg base _ _ _ _ (runD b_Agents_is_done 2)
  refine fnMPn (k := 0) F.t_Agents_is_done c_Agents_is_done rfl rfl rfl fun f cdv A outer s H E hr => ?_
  have h : PSs (cxOf CX0 P w K mg base N_Agents_is_done "Agents.is_done" (defScope s_Agents_is_done) f cdv A outer s H E).nox (defBody s_Agents_is_done) (tS K _) :=
    dss_one (ds_ret (d_cmp (op_eqD (hu64 hr)) od_eq (d_callB call_len_seq cd_len rfl F.b_len bt_len (da_cons (d_ix (d_attr F.f_Agents_held (d_var (i := 0))) (d_var (i := 1))) (da_nil))) (d_int) (nomark _)))
  exact h
theorem a_agent_done (F : Fx K mg) : At P w K mg base "agent_done" 7 5 f_agent_done := by
  have nd := (c_agent_done).nd
  show At P w K mg base _ _ _ (runD b_agent_done 7)
  refine fnDn (k := 6) F.t_agent_done c_agent_done rfl rfl rfl fun f cdv A outer s H E hr => ?_
  have h : PSs (cxOf CX0 P w K mg base N_agent_done "agent_done" (defScope s_agent_done) f cdv A outer s H E).nox (defBody s_agent_done) (tS K _) :=
    dss_cons (ds_expr (d_call (a_need_agents F) hr (by decide) rfl (da_cons (d_var (i := 0)) (da_cons (d_var (i := 1)) (da_cons (d_var (i := 2)) (da_cons (d_var (i := 3)) (da_cons (d_var (i := 4)) (da_nil)))))) (len_cons (len_cons (len_cons (len_cons (len_cons (len_nil)))))))) (dss_cons (ds_set (i := 5) nd rfl (Or.inr rfl) (d_call (a_led_agents F) hr (by decide) rfl (da_cons (d_var (i := 0)) (da_cons (d_var (i := 1)) (da_cons (d_var (i := 2)) (da_cons (d_var (i := 3)) (da_cons (d_var (i := 4)) (da_nil)))))) (len_cons (len_cons (len_cons (len_cons (len_cons (len_nil)))))))) (dss_one (ds_ret (d_callT call_tuple_of cd_tuple rfl F.b_tuple bt_tuple (da_cons (d_F (d_comp (own := [("number", 6)]) rfl nd (dj_of (di_rng1 rfl F.b_range (da_cons (d_callB call_len_seq cd_len rfl F.b_len bt_len (da_cons (d_ix (d_var (i := 0)) (d_int)) (da_nil))) (da_nil)))) (blkOk_by (by kernel_rfl)) (fun _ _ _ _ _ => dg_name (i := 6) nd rfl (Or.inl rfl)) (fun _ _ _ _ _ => dts_one (dt_truth (d_methP F.o_Agents (a_Agents_is_done F) hr (by decide) (d_var (i := 5)) (da_cons (d_var (i := 6)) (da_nil)) (fun e => congrArg (· + 1) (len_cons (len_nil) e))))) (fun _ _ _ _ _ => d_var (i := 6)))) (da_nil))))))
  exact h
theorem a_law_at (F : Fx K mg) : At P w K mg base "_law_at" 1 2 f_law_at := by
  have nd := (c_law_at).nd
  show At P w K mg base _ _ _ (runD b_law_at 2)
  refine fnDn (k := 0) F.t_law_at c_law_at rfl rfl rfl fun f cdv A outer s H E hr => ?_
  have h : PSs (cxOf CX0 P w K mg base N_law_at "_law_at" (defScope s_law_at) f cdv A outer s H E).nox (defBody s_law_at) (tS K _) :=
    dss_cons (ds_if (dt_cmp op_lt od_cmp (d_var (i := 1)) (d_callB call_len_seq cd_len rfl F.b_len bt_len (da_cons (d_var (i := 0)) (da_nil))) (nomark _)) (dss_one (ds_ret (d_callT call_int1 cd_int rfl F.b_int bt_int (da_cons (d_ix (d_var (i := 0)) (d_var (i := 1))) (da_nil))))) (dss_nil)) (dss_one (ds_ret (d_op op_addA od_addA (d_int) (d_op op_mulA od_mulA (d_int) (d_var (i := 1))))))
  exact h
theorem a_is_order_of (F : Fx K mg) : At P w K mg base "is_order_of" 3 4 f_is_order_of := by
  have nd := (c_is_order_of).nd
  show At P w K mg base _ _ _ (runD b_is_order_of 11)
  refine fnDn (k := 2) F.t_is_order_of c_is_order_of rfl rfl rfl fun f cdv A outer s H E hr => ?_
  have h : PSs (cxOf CX0 P w K mg base N_is_order_of "is_order_of" (defScope s_is_order_of) f cdv A outer s H E).nox (defBody s_is_order_of) (tS K _) :=
    dss_cons (ds_if (dt_bool (dw_or (dt_not (dt_truth (d_call (a_is_tuple_of F) hr (by decide) rfl (da_cons (d_var (i := 3)) (da_cons (d_callB call_len_seq cd_len rfl F.b_len bt_len (da_cons (d_ix (d_var (i := 0)) (d_int)) (da_nil))) (da_nil))) (len_cons (len_cons (len_nil)))))) (dw_one (dt_not (dt_truth (d_callB (cr_all rfl) cd_all rfl F.b_all bt_all (da_cons (d_F (d_comp (own := [("pair", 9)]) rfl nd (dj_seq (d_var (i := 3))) (blkOk_by (by kernel_rfl)) (fun _ _ _ _ _ => dg_name (i := 9) nd rfl (Or.inl rfl)) (fun _ _ _ _ _ => dts_nil) (fun _ _ _ _ _ => d_call (a_is_tuple_of F) hr (by decide) rfl (da_cons (d_var (i := 9)) (da_cons (d_int) (da_nil))) (len_cons (len_cons (len_nil)))))) (da_nil)))))))) (dss_one (ds_ret (d_bl))) (dss_nil)) (dss_cons (ds_if (dt_not (dt_truth (d_callB (cr_all rfl) cd_all rfl F.b_all bt_all (da_cons (d_F (d_comp (own := [("pair", 9)]) rfl nd (dj_seq (d_var (i := 3))) (blkOk_by (by kernel_rfl)) (fun _ _ _ _ _ => dg_name (i := 9) nd rfl (Or.inl rfl)) (fun _ _ _ _ _ => dts_nil) (fun _ _ _ _ _ => d_and (d_call (a_is_under F) hr (by decide) rfl (da_cons (d_ix (d_var (i := 9)) (d_int)) (da_cons (d_callB call_len_seq cd_len rfl F.b_len bt_len (da_cons (d_ix (d_var (i := 0)) (d_int)) (da_nil))) (da_nil))) (len_cons (len_cons (len_nil)))) (d_one (d_cmp (op_eqD (hu64 hr)) od_eq (d_ix (d_var (i := 9)) (d_int)) (d_ix (d_var (i := 2)) (d_ix (d_var (i := 9)) (d_int))) (nomark _)))))) (da_nil))))) (dss_one (ds_ret (d_bl))) (dss_nil)) (dss_cons (ds_set (i := 4) nd rfl (Or.inr rfl) (d_F (d_comp (own := [("pair", 9)]) rfl nd (dj_seq (d_var (i := 3))) (blkOk_by (by kernel_rfl)) (fun _ _ _ _ _ => dg_name (i := 9) nd rfl (Or.inl rfl)) (fun _ _ _ _ _ => dts_nil) (fun _ _ _ _ _ => d_ix (d_var (i := 9)) (d_int))))) (dss_cons (ds_if (dt_cmp (op_neD (hu64 hr)) od_ne (d_F (d_callBF (cr_sortD (hu64 hr)) cf_sorted rfl F.b_sorted bt_sorted (da_cons (d_var (i := 4)) (da_nil)))) (d_F (d_lstRg1 rfl rfl F.b_list rfl F.b_range (d_callB call_len_seq cd_len rfl F.b_len bt_len (da_cons (d_ix (d_var (i := 0)) (d_int)) (da_nil))))) (nomark _)) (dss_one (ds_ret (d_bl))) (dss_nil)) (dss_cons (ds_for PassesOwn.never rfl (di_enum rfl F.b_enumerate (da_cons (d_var (i := 3)) (da_nil))) (dg_tup (n := 2) rfl (dgs_cons (dg_name (i := 5) nd rfl (Or.inr rfl)) (dgs_cons (dg_tup (n := 2) rfl (dgs_cons (dg_name (i := 6) nd rfl (Or.inr rfl)) (dgs_cons (dg_name (i := 7) nd rfl (Or.inr rfl)) (dgs_nil)))) (dgs_nil)))) (dss_one (ds_if (dt_cmp (op_ninQ (hu65 hr)) od_in (d_var (i := 6)) (d_var (i := 1)) rfl) (dss_cons (ds_setLc (own := [("one", 10)]) (i := 8) rfl nd rfl rfl (sw_true rfl rfl rfl (by decide +kernel)) (dj_seq (d_call (a_deals_of F) hr (by decide) rfl (da_cons (d_var (i := 0)) (da_cons (d_var (i := 6)) (da_nil))) (len_cons (len_cons (len_nil))))) (blkOk_by (by kernel_rfl)) (fun _ _ _ _ _ => dg_name (i := 10) nd rfl (Or.inl rfl)) (fun _ _ _ _ _ => dts_one (dt_cmp (op_neD (hu64 hr)) od_ne (d_var (i := 10)) (d_var (i := 7)) (nomark _))) (fun _ _ _ _ _ => d_var (i := 10))) (dss_one (ds_if (dt_not (dt_truth (d_callB (cr_all rfl) cd_all rfl F.b_all bt_all (da_cons (d_F (d_comp (own := [("one", 10)]) rfl nd (dj_seq (d_var (i := 8))) (blkOk_by (by kernel_rfl)) (fun _ _ _ _ _ => dg_name (i := 10) nd rfl (Or.inl rfl)) (fun _ _ _ _ _ => dts_nil) (fun _ _ _ _ _ => d_and (d_cmp (op_inQ (hu65 hr)) od_in (d_var (i := 10)) (d_cutA (d_var (i := 4)) (do_none) (do_some (d_var (i := 5)))) rfl) (d_one (d_cmp (op_neD (hu64 hr)) od_ne (d_ix (d_var (i := 2)) (d_var (i := 10))) (d_var (i := 6)) (nomark _)))))) (da_nil))))) (dss_one (ds_ret (d_bl))) (dss_nil)))) (dss_nil)))) (dss_one (ds_ret (d_bl)))))))
  exact h
theorem a_is_round_of (F : Fx K mg) : At P w K mg base "is_round_of" 3 3 f_is_round_of := by
  have nd := (c_is_round_of).nd
  show At P w K mg base _ _ _ (runD b_is_round_of 8)
  refine fnDn (k := 2) F.t_is_round_of c_is_round_of rfl rfl rfl fun f cdv A outer s H E hr => ?_
  have h : PSs (cxOf CX0 P w K mg base N_is_round_of "is_round_of" (defScope s_is_round_of) f cdv A outer s H E).nox (defBody s_is_round_of) (tS K _) :=
    dss_cons (ds_if (dt_bool (dw_or (dt_not (dt_truth (d_callB call_isi cd_isi rfl F.b_isinstance bt_isinstance (da_cons (d_var (i := 2)) (da_cons (d_ty rfl F.b_tuple bt_tuple) (da_nil)))))) (dw_or (dt_cmp op_lt od_cmp (d_callB call_len_seq cd_len rfl F.b_len bt_len (da_cons (d_var (i := 2)) (da_nil))) (d_int) (nomark _)) (dw_one (dt_not (dt_truth (d_callB (cr_all rfl) cd_all rfl F.b_all bt_all (da_cons (d_F (d_comp (own := [("pair", 5)]) rfl nd (dj_seq (d_var (i := 2))) (blkOk_by (by kernel_rfl)) (fun _ _ _ _ _ => dg_name (i := 5) nd rfl (Or.inl rfl)) (fun _ _ _ _ _ => dts_nil) (fun _ _ _ _ _ => d_call (a_is_tuple_of F) hr (by decide) rfl (da_cons (d_var (i := 5)) (da_cons (d_int) (da_nil))) (len_cons (len_cons (len_nil)))))) (da_nil))))))))) (dss_one (ds_ret (d_bl))) (dss_nil)) (dss_cons (ds_if (dt_not (dt_truth (d_callB (cr_all rfl) cd_all rfl F.b_all bt_all (da_cons (d_F (d_comp (own := [("pair", 5)]) rfl nd (dj_seq (d_var (i := 2))) (blkOk_by (by kernel_rfl)) (fun _ _ _ _ _ => dg_name (i := 5) nd rfl (Or.inl rfl)) (fun _ _ _ _ _ => dts_nil) (fun _ _ _ _ _ => d_and (d_call (a_is_under F) hr (by decide) rfl (da_cons (d_ix (d_var (i := 5)) (d_int)) (da_cons (d_ix (d_var (i := 0)) (d_int)) (da_nil))) (len_cons (len_cons (len_nil)))) (d_one (d_call (a_is_under F) hr (by decide) rfl (da_cons (d_ix (d_var (i := 5)) (d_int)) (da_cons (d_callB call_len_seq cd_len rfl F.b_len bt_len (da_cons (d_ix (d_var (i := 0)) (d_int)) (da_nil))) (da_nil))) (len_cons (len_cons (len_nil)))))))) (da_nil))))) (dss_one (ds_ret (d_bl))) (dss_nil)) (dss_cons (ds_asg (d_tup (da_cons (d_F (d_comp (own := [("pair", 5)]) rfl nd (dj_seq (d_var (i := 2))) (blkOk_by (by kernel_rfl)) (fun _ _ _ _ _ => dg_name (i := 5) nd rfl (Or.inl rfl)) (fun _ _ _ _ _ => dts_nil) (fun _ _ _ _ _ => d_ix (d_var (i := 5)) (d_int)))) (da_cons (d_F (d_comp (own := [("pair", 5)]) rfl nd (dj_seq (d_var (i := 2))) (blkOk_by (by kernel_rfl)) (fun _ _ _ _ _ => dg_name (i := 5) nd rfl (Or.inl rfl)) (fun _ _ _ _ _ => dts_nil) (fun _ _ _ _ _ => d_ix (d_var (i := 5)) (d_int)))) (da_nil)))) (dg_tup (n := 2) rfl (dgs_cons (dg_name (i := 3) nd rfl (Or.inr rfl)) (dgs_cons (dg_name (i := 4) nd rfl (Or.inr rfl)) (dgs_nil))))) (dss_cons (ds_if (dt_bool (dw_or (dt_cmp (op_neD (hu64 hr)) od_ne (d_lenSet rfl F.b_len rfl F.b_set (d_var (i := 3))) (d_callB call_len_seq cd_len rfl F.b_len bt_len (da_cons (d_var (i := 3)) (da_nil))) (nomark _)) (dw_one (dt_cmp (op_neD (hu64 hr)) od_ne (d_lenSet rfl F.b_len rfl F.b_set (d_var (i := 4))) (d_callB call_len_seq cd_len rfl F.b_len bt_len (da_cons (d_var (i := 4)) (da_nil))) (nomark _))))) (dss_one (ds_ret (d_bl))) (dss_nil)) (dss_cons (ds_if (dt_truth (d_callB (cr_any rfl) cd_any rfl F.b_any bt_any (da_cons (d_F (d_comp (own := [("person", 6)]) rfl nd (dj_seq (d_var (i := 3))) (blkOk_by (by kernel_rfl)) (fun _ _ _ _ _ => dg_name (i := 6) nd rfl (Or.inl rfl)) (fun _ _ _ _ _ => dts_nil) (fun _ _ _ _ _ => d_cmp (op_inQ (hu65 hr)) od_in (d_var (i := 6)) (d_var (i := 1)) rfl))) (da_nil)))) (dss_one (ds_ret (d_bl))) (dss_nil)) (dss_one (ds_ret (d_callB (cr_all rfl) cd_all rfl F.b_all bt_all (da_cons (d_F (d_comp (own := [("at", 7)]) rfl nd (dj_of (di_rng1 rfl F.b_range (da_cons (d_callB call_len_seq cd_len rfl F.b_len bt_len (da_cons (d_var (i := 2)) (da_nil))) (da_nil)))) (blkOk_by (by kernel_rfl)) (fun _ _ _ _ _ => dg_name (i := 7) nd rfl (Or.inl rfl)) (fun _ _ _ _ _ => dts_nil) (fun _ _ _ _ _ => d_cmp (op_eqD (hu64 hr)) od_eq (d_F (d_callBF (cr_sortD (hu64 hr)) cf_sorted rfl F.b_sorted bt_sorted (da_cons (d_ix (d_ix (d_var (i := 0)) (d_int)) (d_ix (d_var (i := 4)) (d_op op_sub od_sub (d_var (i := 7)) (d_int)))) (da_nil)))) (d_F (d_callBF (cr_sortD (hu64 hr)) cf_sorted rfl F.b_sorted bt_sorted (da_cons (d_F (d_lst (da_cons (d_ix (d_var (i := 3)) (d_op op_sub od_sub (d_var (i := 7)) (d_int))) (da_cons (d_ix (d_var (i := 3)) (d_var (i := 7))) (da_nil))))) (da_nil)))) (nomark _)))) (da_nil)))))))))
  exact h
theorem a_is_agent_paper (F : Fx K mg) : At P w K mg base "is_agent_paper" 6 3 f_is_agent_paper := by
  have nd := (c_is_agent_paper).nd
  show At P w K mg base _ _ _ (runD b_is_agent_paper 3)
  refine fnDn (k := 5) F.t_is_agent_paper c_is_agent_paper rfl rfl rfl fun f cdv A outer s H E hr => ?_
  have h : PSs (cxOf CX0 P w K mg base N_is_agent_paper "is_agent_paper" (defScope s_is_agent_paper) f cdv A outer s H E).nox (defBody s_is_agent_paper) (tS K _) :=
    dss_cons (ds_expr (d_call (a_need_deals F) hr (by decide) rfl (da_cons (d_var (i := 0)) (da_nil)) (len_cons (len_nil)))) (dss_cons (ds_expr (d_call (a_need_free F) hr (by decide) rfl (da_cons (d_var (i := 0)) (da_cons (d_var (i := 1)) (da_nil))) (len_cons (len_cons (len_nil))))) (dss_cons (ds_if (dt_bool (dw_or (dt_not (dt_truth (d_callB call_isi cd_isi rfl F.b_isinstance bt_isinstance (da_cons (d_var (i := 2)) (da_cons (d_ty rfl F.b_tuple bt_tuple) (da_nil)))))) (dw_or (dt_cmp op_lt od_cmp (d_callB call_len_seq cd_len rfl F.b_len bt_len (da_cons (d_var (i := 2)) (da_nil))) (d_int) (nomark _)) (dw_one (dt_not (dt_truth (d_callB call_isi cd_isi rfl F.b_isinstance bt_isinstance (da_cons (d_ix (d_var (i := 2)) (d_int)) (da_cons (d_ty rfl F.b_str bt_str) (da_nil)))))))))) (dss_one (ds_ret (d_bl))) (dss_nil)) (dss_cons (ds_if (dt_cmp (op_eqD (hu64 hr)) od_eq (d_ix (d_var (i := 2)) (d_int)) (d_str) (nomark _)) (dss_one (ds_ret (d_and (d_cmp (op_eqD (hu64 hr)) od_eq (d_callB call_len_seq cd_len rfl F.b_len bt_len (da_cons (d_var (i := 2)) (da_nil))) (d_int) (nomark _)) (d_one (d_call (a_is_round_of F) hr (by decide) rfl (da_cons (d_var (i := 0)) (da_cons (d_var (i := 1)) (da_cons (d_ix (d_var (i := 2)) (d_int)) (da_nil)))) (len_cons (len_cons (len_cons (len_nil))))))))) (dss_nil)) (dss_cons (ds_if (dt_bool (dw_or (dt_cmp (op_neD (hu64 hr)) od_ne (d_ix (d_var (i := 2)) (d_int)) (d_str) (nomark _)) (dw_or (dt_cmp (op_neD (hu64 hr)) od_ne (d_callB call_len_seq cd_len rfl F.b_len bt_len (da_cons (d_var (i := 2)) (da_nil))) (d_int) (nomark _)) (dw_one (dt_not (dt_truth (d_call (a_are_firsts F) hr (by decide) rfl (da_cons (d_var (i := 0)) (da_cons (d_ix (d_var (i := 2)) (d_int)) (da_nil))) (len_cons (len_cons (len_nil)))))))))) (dss_one (ds_ret (d_bl))) (dss_nil)) (dss_one (ds_ret (d_call (a_is_order_of F) hr (by decide) rfl (da_cons (d_var (i := 0)) (da_cons (d_var (i := 1)) (da_cons (d_ix (d_var (i := 2)) (d_int)) (da_cons (d_ix (d_var (i := 2)) (d_int)) (da_nil))))) (len_cons (len_cons (len_cons (len_cons (len_nil))))))))))))
  exact h
theorem a_law_is_round (F : Fx K mg) : At P w K mg base "_law_is_round" 1 3 f_law_is_round := by
  have nd := (c_law_is_round).nd
  show At P w K mg base _ _ _ (runD b_law_is_round 8)
  refine fnDn (k := 0) F.t_law_is_round c_law_is_round rfl rfl rfl fun f cdv A outer s H E hr => ?_
  have h : PSs (cxOf CX0 P w K mg base N_law_is_round "_law_is_round" (defScope s_law_is_round) f cdv A outer s H E).nox (defBody s_law_is_round) (tS K _) :=
    dss_cons (ds_if (dt_bool (dw_or (dt_not (dt_truth (d_callB call_isi cd_isi rfl F.b_isinstance bt_isinstance (da_cons (d_var (i := 2)) (da_cons (d_ty rfl F.b_tuple bt_tuple) (da_nil)))))) (dw_one (dt_cmp op_lt od_cmp (d_callB call_len_seq cd_len rfl F.b_len bt_len (da_cons (d_var (i := 2)) (da_nil))) (d_int) (nomark _))))) (dss_one (ds_ret (d_bl))) (dss_nil)) (dss_cons (ds_set (i := 3) nd rfl (Or.inr rfl) (d_F (d_comp (own := [("pair", 6)]) rfl nd (dj_seq (d_var (i := 2))) (blkOk_by (by kernel_rfl)) (fun _ _ _ _ _ => dg_name (i := 6) nd rfl (Or.inl rfl)) (fun _ _ _ _ _ => dts_nil) (fun _ _ _ _ _ => d_ix (d_var (i := 6)) (d_int))))) (dss_cons (ds_setLc (own := [("pair", 6)]) (i := 4) rfl nd rfl rfl (sw_true rfl rfl rfl (by decide +kernel)) (dj_seq (d_var (i := 2))) (blkOk_by (by kernel_rfl)) (fun _ _ _ _ _ => dg_name (i := 6) nd rfl (Or.inl rfl)) (fun _ _ _ _ _ => dts_nil) (fun _ _ _ _ _ => d_ix (d_var (i := 6)) (d_int))) (dss_cons (ds_if (dt_bool (dw_or (dt_truth (d_callB (cr_any rfl) cd_any rfl F.b_any bt_any (da_cons (d_F (d_comp (own := [("k", 5)]) rfl nd (dj_of (di_rng1 rfl F.b_range (da_cons (d_callB call_len_seq cd_len rfl F.b_len bt_len (da_cons (d_var (i := 3)) (da_nil))) (da_nil)))) (blkOk_by (by kernel_rfl)) (fun _ _ _ _ _ => dg_name (i := 5) nd rfl (Or.inl rfl)) (fun _ _ _ _ _ => dts_nil) (fun _ _ _ _ _ => d_cmp (op_inQ (hu65 hr)) od_in (d_ix (d_var (i := 3)) (d_var (i := 5))) (d_cutA (d_var (i := 3)) (do_none) (do_some (d_var (i := 5)))) rfl))) (da_nil)))) (dw_one (dt_truth (d_callB (cr_any rfl) cd_any rfl F.b_any bt_any (da_cons (d_F (d_comp (own := [("one", 7)]) rfl nd (dj_seq (d_var (i := 3))) (blkOk_by (by kernel_rfl)) (fun _ _ _ _ _ => dg_name (i := 7) nd rfl (Or.inl rfl)) (fun _ _ _ _ _ => dts_nil) (fun _ _ _ _ _ => d_cmp (op_inQ (hu65 hr)) od_in (d_var (i := 7)) (d_var (i := 1)) rfl))) (da_nil))))))) (dss_one (ds_ret (d_bl))) (dss_nil)) (dss_cons (ds_for PassesOwn.never rfl (di_rng1 rfl F.b_range (da_cons (d_callB call_len_seq cd_len rfl F.b_len bt_len (da_cons (d_var (i := 2)) (da_nil))) (da_nil))) (dg_name (i := 5) nd rfl (Or.inl rfl)) (dss_cons (ds_if (dt_cmp (op_inQ (hu65 hr)) od_in (d_ix (d_var (i := 4)) (d_var (i := 5))) (d_cutA (d_var (i := 4)) (do_none) (do_some (d_var (i := 5)))) rfl) (dss_one (ds_ret (d_bl))) (dss_nil)) (dss_one (ds_if (dt_cmp (op_neD (hu64 hr)) od_ne (d_F (d_callBF (cr_sortD (hu64 hr)) cf_sorted rfl F.b_sorted bt_sorted (da_cons (d_ix (d_ix (d_var (i := 0)) (d_int)) (d_ix (d_var (i := 4)) (d_op op_sub od_sub (d_var (i := 5)) (d_int)))) (da_nil)))) (d_F (d_callBF (cr_sortD (hu64 hr)) cf_sorted rfl F.b_sorted bt_sorted (da_cons (d_F (d_lst (da_cons (d_ix (d_var (i := 3)) (d_op op_sub od_sub (d_var (i := 5)) (d_int))) (da_cons (d_ix (d_var (i := 3)) (d_var (i := 5))) (da_nil))))) (da_nil)))) (nomark _)) (dss_one (ds_ret (d_bl))) (dss_nil))))) (dss_one (ds_ret (d_bl)))))))
  exact h
theorem a_law_mine (F : Fx K mg) : At P w K mg base "_law_mine" 1 2 f_law_mine := by
  have nd := (c_law_mine).nd
  show At P w K mg base _ _ _ (runD b_law_mine 3)
  refine fnDn (k := 0) F.t_law_mine c_law_mine rfl rfl rfl fun f cdv A outer s H E hr => ?_
  have h : PSs (cxOf CX0 P w K mg base N_law_mine "_law_mine" (defScope s_law_mine) f cdv A outer s H E).nox (defBody s_law_mine) (tS K _) :=
    dss_one (ds_ret (d_F (d_comp (own := [("k", 2)]) rfl nd (dj_of (di_rng1 rfl F.b_range (da_cons (d_callB call_len_seq cd_len rfl F.b_len bt_len (da_cons (d_ix (d_var (i := 0)) (d_int)) (da_nil))) (da_nil)))) (blkOk_by (by kernel_rfl)) (fun _ _ _ _ _ => dg_name (i := 2) nd rfl (Or.inl rfl)) (fun _ _ _ _ _ => dts_one (dt_cmp (op_inQ (hu65 hr)) od_in (d_var (i := 1)) (d_ix (d_ix (d_var (i := 0)) (d_int)) (d_var (i := 2))) rfl)) (fun _ _ _ _ _ => d_var (i := 2)))))
  exact h
theorem a_agent_torn (F : Fx K mg) : At P w K mg base "agent_torn" 6 3 f_agent_torn := by
  have nd := (c_agent_torn).nd
  show At P w K mg base _ _ _ (runD b_agent_torn 7)
  refine fnDn (k := 5) F.t_agent_torn c_agent_torn rfl rfl rfl fun f cdv A outer s H E hr => ?_
  have h : PSs (cxOf CX0 P w K mg base N_agent_torn "agent_torn" (defScope s_agent_torn) f cdv A outer s H E).nox (defBody s_agent_torn) (tS K _) :=
    dss_cons (ds_expr (d_call (a_need_deals F) hr (by decide) rfl (da_cons (d_var (i := 0)) (da_nil)) (len_cons (len_nil)))) (dss_cons (ds_expr (d_call (a_need_free F) hr (by decide) rfl (da_cons (d_var (i := 0)) (da_cons (d_var (i := 1)) (da_nil))) (len_cons (len_cons (len_nil))))) (dss_cons (ds_if (dt_not (dt_truth (d_call (a_is_lot F) hr (by decide) rfl (da_cons (d_var (i := 2)) (da_cons (d_callB call_len_seq cd_len rfl F.b_len bt_len (da_cons (d_ix (d_var (i := 0)) (d_int)) (da_nil))) (da_nil))) (len_cons (len_cons (len_nil)))))) (dss_one (ds_never)) (dss_nil)) (dss_cons (ds_new (i := 3) nd rfl (Or.inl rfl) (d_lst (da_nil))) (dss_cons (ds_for PassesOwn.never rfl (di_rng1 rfl F.b_range (da_cons (d_ix (d_var (i := 0)) (d_int)) (da_nil))) (dg_name (i := 4) nd rfl (Or.inl rfl)) (dss_cons (ds_setLc (own := [("number", 6)]) (i := 5) rfl nd rfl rfl (sw_true rfl rfl rfl (by decide +kernel)) (dj_seq (d_call (a_deals_of F) hr (by decide) rfl (da_cons (d_var (i := 0)) (da_cons (d_var (i := 4)) (da_nil))) (len_cons (len_cons (len_nil))))) (blkOk_by (by kernel_rfl)) (fun _ _ _ _ _ => dg_name (i := 6) nd rfl (Or.inl rfl)) (fun _ _ _ _ _ => dts_nil) (fun _ _ _ _ _ => d_cmp (op_inQ (hu65 hr)) od_in (d_var (i := 6)) (d_var (i := 2)) rfl)) (dss_one (ds_if (dt_bool (dw_and (dt_cmp (op_ninQ (hu65 hr)) od_in (d_var (i := 4)) (d_var (i := 1)) rfl) (dw_and (dt_truth (d_callB (cr_any rfl) cd_any rfl F.b_any bt_any (da_cons (d_var (i := 5)) (da_nil)))) (dw_one (dt_not (dt_truth (d_callB (cr_all rfl) cd_all rfl F.b_all bt_all (da_cons (d_var (i := 5)) (da_nil))))))))) (dss_one (ds_append (d_var (i := 3)) (d_var (i := 4)))) (dss_nil))))) (dss_one (ds_ret (d_callT call_tuple_of cd_tuple rfl F.b_tuple bt_tuple (da_cons (d_var (i := 3)) (da_nil)))))))))
  exact h
theorem ok_law (F : Fx K mg) {f : Addr} {fd : FuncData} (Fl : Fun K "law" "law" s_law f fd) : FnOk P w K mg base CX0 8 f fd ["script"] (spD K 1 f_law) := by
  have nd := (c_law).nd
  show FnOk P w K mg base CX0 _ f fd _ (spD K _ (runD b_law 17))
  refine fnOn (k := 7) Fl c_law rfl rfl rfl fun f cdv A outer s H E hr => ?_
  have h : PSs (cxOf CX0 P w K mg base N_law "law" (defScope s_law) f cdv A outer s H E).nox (defBody s_law) (tS K _) :=
    dss_cons (ds_set (i := 1) nd rfl (Or.inl rfl) (d_op op_addA od_addA (d_int) (d_ix (d_call (a_law_row F) hr (by decide) rfl (da_cons (d_call (a_law_at F) hr (by decide) rfl (da_cons (d_var (i := 0)) (da_cons (d_int) (da_nil))) (len_cons (len_cons (len_nil)))) (da_cons (d_int) (da_cons (d_int) (da_nil)))) (len_cons (len_cons (len_cons (len_nil))))) (d_int)))) (dss_cons (ds_set (i := 2) nd rfl (Or.inr rfl) (d_call (a_law_row F) hr (by decide) rfl (da_cons (d_call (a_law_at F) hr (by decide) rfl (da_cons (d_var (i := 0)) (da_cons (d_int) (da_nil))) (len_cons (len_cons (len_nil)))) (da_cons (d_int) (da_cons (d_int) (da_nil)))) (len_cons (len_cons (len_cons (len_nil)))))) (dss_cons (ds_setLc (own := [("k", 14)]) (i := 3) rfl nd rfl rfl (sw_true rfl rfl rfl (by decide +kernel)) (dj_of (di_rng2 rfl F.b_range (da_cons (d_int) (da_cons (d_var (i := 1)) (da_nil))))) (blkOk_by (by kernel_rfl)) (fun _ _ _ _ _ => dg_name (i := 14) nd rfl (Or.inl rfl)) (fun _ _ _ _ _ => dts_nil) (fun _ _ _ _ _ => d_tup (da_cons (d_op op_mod od_mod (d_ix (d_var (i := 2)) (d_var (i := 14))) (d_var (i := 14))) (da_cons (d_var (i := 14)) (da_nil))))) (dss_cons (ds_if (dt_cmp op_lt od_cmp (d_ix (d_var (i := 2)) (d_int)) (d_int) (nomark _)) (dss_one (ds_set (i := 3) nd rfl (Or.inl rfl) (d_F (d_revL (d_var (i := 3)))))) (dss_nil)) (dss_cons (ds_set (i := 4) nd rfl (Or.inl rfl) (d_tup (da_cons (d_var (i := 1)) (da_cons (d_callT call_tuple_of cd_tuple rfl F.b_tuple bt_tuple (da_cons (d_var (i := 3)) (da_nil))) (da_nil))))) (dss_cons (ds_set (i := 5) nd rfl (Or.inl rfl) (d_call (a_agent_firsts F) hr (by decide) rfl (da_cons (d_var (i := 4)) (da_cons (d_tup (da_nil)) (da_nil))) (len_cons (len_cons (len_nil))))) (dss_cons (ds_if (dt_bool (dw_or (dt_cmp (op_neD (hu64 hr)) od_ne (d_ix (d_var (i := 5)) (d_int)) (d_str) (nomark _)) (dw_one (dt_cmp op_notBl od_notB (d_call (a_is_agent_paper F) hr (by decide) rfl (da_cons (d_var (i := 4)) (da_cons (d_tup (da_nil)) (da_cons (d_var (i := 5)) (da_nil)))) (len_cons (len_cons (len_cons (len_nil))))) (d_bl) (nomark _))))) (dss_one (ds_ret (d_bl))) (dss_nil)) (dss_cons (ds_if (dt_cmp (op_neD (hu64 hr)) od_ne (d_call (a_agent_done F) hr (by decide) rfl (da_cons (d_var (i := 4)) (da_cons (d_tup (da_nil)) (da_cons (d_ix (d_var (i := 5)) (d_int)) (da_cons (d_tup (da_nil)) (da_cons (d_tup (da_nil)) (da_nil)))))) (len_cons (len_cons (len_cons (len_cons (len_cons (len_nil))))))) (d_tupRg1 rfl rfl F.b_tuple rfl F.b_range (d_op op_sub od_sub (d_var (i := 1)) (d_int))) (nomark _)) (dss_one (ds_ret (d_bl))) (dss_nil)) (dss_cons (ds_set (i := 6) nd rfl (Or.inr rfl) (d_op op_mod od_mod (d_ix (d_var (i := 2)) (d_int)) (d_var (i := 1)))) (dss_cons (ds_set (i := 7) nd rfl (Or.inr rfl) (d_call (a_agent_done F) hr (by decide) rfl (da_cons (d_var (i := 4)) (da_cons (d_tup (da_nil)) (da_cons (d_ix (d_var (i := 5)) (d_int)) (da_cons (d_tup (da_cons (d_var (i := 6)) (da_nil))) (da_cons (d_tup (da_nil)) (da_nil)))))) (len_cons (len_cons (len_cons (len_cons (len_cons (len_nil)))))))) (dss_cons (ds_if (dt_truth (d_callB (cr_any rfl) cd_any rfl F.b_any bt_any (da_cons (d_F (d_comp (own := [("k", 14)]) rfl nd (dj_seq (d_call (a_law_mine F) hr (by decide) rfl (da_cons (d_var (i := 4)) (da_cons (d_var (i := 6)) (da_nil))) (len_cons (len_cons (len_nil))))) (blkOk_by (by kernel_rfl)) (fun _ _ _ _ _ => dg_name (i := 14) nd rfl (Or.inl rfl)) (fun _ _ _ _ _ => dts_nil) (fun _ _ _ _ _ => d_cmp (op_inQ (hu65 hr)) od_in (d_var (i := 14)) (d_var (i := 7)) rfl))) (da_nil)))) (dss_one (ds_ret (d_bl))) (dss_nil)) (dss_cons (ds_if (dt_truth (d_callB (cr_any rfl) cd_any rfl F.b_any bt_any (da_cons (d_F (d_comp (own := [("person", 16)]) rfl nd (dj_seq (d_call (a_agent_torn F) hr (by decide) rfl (da_cons (d_var (i := 4)) (da_cons (d_tup (da_nil)) (da_cons (d_var (i := 7)) (da_nil)))) (len_cons (len_cons (len_cons (len_nil)))))) (blkOk_by (by kernel_rfl)) (fun _ _ _ _ _ => dg_name (i := 16) nd rfl (Or.inl rfl)) (fun _ _ _ _ _ => dts_nil) (fun _ _ _ _ _ => d_cmp (op_neD (hu64 hr)) od_ne (d_var (i := 16)) (d_var (i := 6)) (nomark _)))) (da_nil)))) (dss_one (ds_ret (d_bl))) (dss_nil)) (dss_cons (ds_set (i := 8) nd rfl (Or.inl rfl) (d_op op_mod od_mod (d_ix (d_var (i := 2)) (d_int)) (d_var (i := 1)))) (dss_cons (ds_set (i := 9) nd rfl (Or.inl rfl) (d_op op_mod od_mod (d_callT call_int1 cd_int rfl F.b_int bt_int (da_cons (d_op op_addA od_addA (d_op op_addA od_addA (d_var (i := 8)) (d_int)) (d_op op_mod od_mod (d_ix (d_var (i := 2)) (d_int)) (d_op op_sub od_sub (d_var (i := 1)) (d_int)))) (da_nil))) (d_var (i := 1)))) (dss_cons (ds_set (i := 10) nd rfl (Or.inl rfl) (d_tup (da_cons (d_var (i := 1)) (da_cons (d_op op_addA od_addA (d_callT call_tuple_of cd_tuple rfl F.b_tuple bt_tuple (da_cons (d_var (i := 3)) (da_nil))) (d_tup (da_cons (d_tup (da_cons (d_var (i := 8)) (da_cons (d_var (i := 9)) (da_nil)))) (da_nil)))) (da_nil))))) (dss_cons (ds_set (i := 11) nd rfl (Or.inl rfl) (d_call (a_agent_firsts F) hr (by decide) rfl (da_cons (d_var (i := 10)) (da_cons (d_tup (da_nil)) (da_nil))) (len_cons (len_cons (len_nil))))) (dss_cons (ds_if (dt_bool (dw_or (dt_cmp (op_neD (hu64 hr)) od_ne (d_ix (d_var (i := 11)) (d_int)) (d_str) (nomark _)) (dw_or (dt_not (dt_truth (d_call (a_law_is_round F) hr (by decide) rfl (da_cons (d_var (i := 10)) (da_cons (d_tup (da_nil)) (da_cons (d_ix (d_var (i := 11)) (d_int)) (da_nil)))) (len_cons (len_cons (len_cons (len_nil))))))) (dw_one (dt_cmp (op_ninQ (hu65 hr)) od_in (d_op op_sub od_sub (d_var (i := 1)) (d_int)) (d_F (d_comp (own := [("pair", 15)]) rfl nd (dj_seq (d_ix (d_var (i := 11)) (d_int))) (blkOk_by (by kernel_rfl)) (fun _ _ _ _ _ => dg_name (i := 15) nd rfl (Or.inl rfl)) (fun _ _ _ _ _ => dts_nil) (fun _ _ _ _ _ => d_ix (d_var (i := 15)) (d_int)))) rfl))))) (dss_one (ds_ret (d_bl))) (dss_nil)) (dss_cons (ds_setLc (own := [("pair", 15)]) (i := 12) rfl nd rfl rfl (sw_true rfl rfl rfl (by decide +kernel)) (dj_seq (d_ix (d_var (i := 11)) (d_int))) (blkOk_by (by kernel_rfl)) (fun _ _ _ _ _ => dg_name (i := 15) nd rfl (Or.inl rfl)) (fun _ _ _ _ _ => dts_nil) (fun _ _ _ _ _ => d_ix (d_var (i := 15)) (d_int))) (dss_cons (ds_if (dt_bool (dw_or (dt_cmp (op_ninQ (hu65 hr)) od_in (d_var (i := 8)) (d_var (i := 12)) rfl) (dw_one (dt_cmp (op_ninQ (hu65 hr)) od_in (d_var (i := 9)) (d_var (i := 12)) rfl)))) (dss_one (ds_ret (d_bl))) (dss_nil)) (dss_cons (ds_set (i := 13) nd rfl (Or.inl rfl) (d_call (a_agent_firsts F) hr (by decide) rfl (da_cons (d_var (i := 10)) (da_cons (d_tup (da_cons (d_ix (d_var (i := 12)) (d_op op_mod od_mod (d_ix (d_var (i := 2)) (d_int)) (d_callB call_len_seq cd_len rfl F.b_len bt_len (da_cons (d_var (i := 12)) (da_nil))))) (da_nil))) (da_nil))) (len_cons (len_cons (len_nil))))) (dss_one (ds_ret (d_and (d_cmp (op_eqD (hu64 hr)) od_eq (d_ix (d_var (i := 13)) (d_int)) (d_str) (nomark _)) (d_one (d_cmp (op_eqD (hu64 hr)) od_eq (d_call (a_agent_done F) hr (by decide) rfl (da_cons (d_var (i := 10)) (da_cons (d_tup (da_cons (d_ix (d_var (i := 12)) (d_op op_mod od_mod (d_ix (d_var (i := 2)) (d_int)) (d_callB call_len_seq cd_len rfl F.b_len bt_len (da_cons (d_var (i := 12)) (da_nil))))) (da_nil))) (da_cons (d_ix (d_var (i := 13)) (d_int)) (da_cons (d_tup (da_nil)) (da_cons (d_tup (da_nil)) (da_nil)))))) (len_cons (len_cons (len_cons (len_cons (len_cons (len_nil))))))) (d_tupRg1 rfl rfl F.b_tuple rfl F.b_range (d_var (i := 1))) (nomark _)))))))))))))))))))))))))
  exact h
end
end DL

set_option maxHeartbeats 400000
namespace DL
open PySem PySem.Spec L2
/-! ### webs -/
@[simp] theorem isi_int_int (S : Sto) (i : Int) : cIsi S [.int i, .ty "int"] = some (.bl true) := (rfl)
@[simp] theorem isi_int_bool (S : Sto) (i : Int) : cIsi S [.int i, .ty "bool"] = some (.bl false) := (rfl)
@[simp] theorem isi_tup_tup (S : Sto) (i : List D) : cIsi S [.tup i, .ty "tuple"] = some (.bl true) := (rfl)
theorem is_integer_i (i : Int) : f_is_integer [.int i] = some (.bl true) := by
  simp [f_is_integer, b_is_integer, run_eq, startR]
theorem is_between_i (i l m : Int) : f_is_between [.int i, .int l, .int m] = some (.bl (decide (l ≤ i) && decide (i ≤ m))) := by
  simp [f_is_between, b_is_between, run_eq, startR, runA_nr, is_integer_i]
theorem is_under_i (i : Int) (m : Int) : f_is_under [.int i, .int m] = some (.bl (decide (0 ≤ i) && decide (i < m))) := by
  simp [f_is_under, b_is_under, run_eq, startR, runA_nr, is_integer_i]
theorem is_tuple_of_t (ds : List D) (m : Int) : f_is_tuple_of [.tup ds, .int m] = some (.bl (decide ((ds.length : Int) = m))) := by
  simp [f_is_tuple_of, b_is_tuple_of, run_eq, startR]
abbrev Row := Nat × Nat × Nat
def rowD (r : Row) : D := .tup [nD r.1, nD r.2.1, nD r.2.2]
def webD (n : Nat) (rows : List Row) : D := .tup [nD n, .tup (rows.map rowD)]
def rowOk (n : Nat) (r : Row) : Bool := decide (r.1 < n) && decide (r.2.1 < n) && decide (r.1 ≠ r.2.1) && decide (1 ≤ r.2.2) && decide (r.2.2 ≤ 9)
structure WebOk (n : Nat) (rows : List Row) : Prop where
  n2 : 2 ≤ n
  n6 : n ≤ 6
  r1 : 1 ≤ rows.length
  r10 : rows.length ≤ 10
  ok : ∀ r ∈ rows, rowOk n r = true
  giv : ∀ p < n, p ∈ rows.map (·.1)
  tak : ∀ p < n, p ∈ rows.map (·.2.1)
@[simp] theorem nr_rowD (r : Row) : nr (rowD r) = true := by simp [rowD]
@[simp] theorem q_rowD (S : Sto) (r : Row) : seqD S (rowD r) = some [.int r.1, .int r.2.1, .int r.2.2] := (rfl)
@[simp] theorem q_webD (S : Sto) (n : Nat) (l : List Row) : seqD S (webD n l) = some [.int n, .tup (l.map rowD)] := (rfl)
@[simp] theorem nrs_rowD (l : List Row) : nrs (l.map rowD) = true := nrs_all.mpr (by
  intro d h
  obtain ⟨r, _, rfl⟩ := List.mem_map.mp h
  exact nr_rowD r)
@[simp] theorem nr_webD (n : Nat) (l : List Row) : nr (webD n l) = true := by simp [webD]
theorem are_under_l (l : List Nat) (m : Nat) (h : ∀ x ∈ l, x < m) (hl : l.length ≤ 1000000) : f_are_under [lotD l, .int m] = some (.bl true) := by
  have e : l.all (fun x => decide (x < m)) = true := by simpa using h
  simp [f_are_under, b_are_under, run_eq, startR, runA_nr, lotD, is_under_i, hl]
  exact h
theorem is_lot_ok {l : List Nat} {m : Nat} (h : LotOk m l) (hm : m ≤ 1000) : f_is_lot [lotD l, .int m] = some (.bl true) := by
  have hl : l.length ≤ 1000000 := Nat.le_trans h.len (by omega)
  have hl' : l.length - 1 ≤ 1000000 := by omega
  have e := are_under_l l m h.2 hl
  have c : cmpM (fun k : Nat => ((atI (l.map nD) (k : Int)).bind fun x => (atI (l.map nD) ((k : Int) + 1)).bind fun y => gLt [] x y)) (List.range (l.length - 1)) = cmpM (fun _ => some (.bl true)) (List.range (l.length - 1)) := by
    refine cmpM_congr rfl fun k hk => ?_
    have h1 : k + 1 < l.length := by have := List.mem_range.mp hk; omega
    have h2 : atI (l.map nD) ((k : Int) + 1) = some (.int (l[k + 1] : Nat)) := by
      have := atI_nD h1
      simpa using this
    rw [atI_nD (by omega : k < l.length), h2]
    have := List.pairwise_iff_getElem.mp h.1 k (k + 1) (by omega) h1 (by omega)
    simp
    omega
  have c2 : (List.range (l.length - 1)).length ≤ 1000000 := by simpa using hl'
  simp [f_is_lot, b_is_lot, run_eq, startR, runA_nr, e, rng2_1 hl, c, hl']
/-! ### the law's numbers -/
theorem law_mixed_i (c k : Int) : ∃ z : Int, f_law_mixed [.int c, .int k] = some (.int z) := by
  simp [f_law_mixed, b_law_mixed, run_eq, startR]
theorem md_nat (z : Int) {top : Nat} (h0 : 0 < top) : ∃ k : Nat, z % (top : Int) = (k : Int) ∧ k < top := by
  have a := Int.emod_nonneg z (by omega : (top : Int) ≠ 0)
  have b := Int.emod_lt_of_pos z (by omega : (0 : Int) < top)
  exact ⟨(z % (top : Int)).toNat, by omega, by omega⟩
theorem law_row_i (c : Int) (many top : Nat) (hm : many ≤ 1000000) (h0 : 0 < top) (h1 : top < 1073741824) : ∃ l : List Nat, f_law_row [.int c, .int many, .int top] = some (.lst (l.map nD)) ∧ l.length = many ∧ ∀ x ∈ l, x < top := by
  have t0 : (0 : Int) < top := by omega
  have t1 : (top : Int) < 1073741824 := by omega
  obtain ⟨ρ', S', e, l, left, x, rfl, rfl, hl, hx⟩ := loop_inv (g := gN 6) (body := l1_law_row)
    (ds := (List.range many).map nD) (ρ := [some (.int c), some (.int many), some (.int top), some (.ref 0), some (.int c), some (.bl (decide (1000000000000000000 ≤ c))), none]) (S := [.lst []])
    (fun i ρ S => ∃ (l : List Nat) (left : Int) (x : Option D), ρ = [some (.int c), some (.int many), some (.int top), some (.ref 0), some (.int left), some (.bl (decide (1000000000000000000 ≤ c))), x] ∧ S = [.lst (l.map nD)] ∧ l.length = i ∧ ∀ x ∈ l, x < top) ⟨[], c, none, rfl, rfl, rfl, by simp⟩ (by
      rintro i d ρ S hi ⟨l, left, x, rfl, rfl, hl, hx⟩
      have hi' : i < many := by
        have := (List.getElem?_eq_some_iff.mp hi).1
        simpa using this
      have hd : d = .int (i : Nat) := by
        rw [List.getElem?_map, List.getElem?_range hi'] at hi
        simpa using hi.symm
      subst hd
      have hs : l.length ≤ 1000000 := by omega
      by_cases hg : 1000000000000000000 ≤ c
      · obtain ⟨k, e1, e2⟩ := md_nat left h0
        refine ⟨_, [some (.int c), some (.int many), some (.int top), some (.ref 0), some (.int (left / top)), some (.bl (decide (1000000000000000000 ≤ c))), some (.int (i : Nat))], [.lst ((l ++ [k]).map nD)], .nx, rfl, by simp [l1_law_row, hg, t0, t1, h0, h1, hs, e1], .inl rfl, l ++ [k], left / (top : Int), some (.int (i : Nat)), rfl, rfl, ?_, ?_⟩
        · simp [hl]
        · intro y hy
          rcases List.mem_append.mp hy with hy | hy
          · exact hx y hy
          · rw [List.mem_singleton.mp hy]; exact e2
      · obtain ⟨z, ez⟩ := law_mixed_i c i
        obtain ⟨k, e1, e2⟩ := md_nat (z / 7) h0
        refine ⟨_, [some (.int c), some (.int many), some (.int top), some (.ref 0), some (.int left), some (.bl (decide (1000000000000000000 ≤ c))), some (.int (i : Nat))], [.lst ((l ++ [k]).map nD)], .nx, rfl, by simp [l1_law_row, hg, t0, t1, h0, h1, hs, runA_nr, ez, e1], .inl rfl, l ++ [k], left, some (.int (i : Nat)), rfl, rfl, ?_, ?_⟩
        · simp [hl]
        · intro y hy
          rcases List.mem_append.mp hy with hy | hy
          · exact hx y hy
          · rw [List.mem_singleton.mp hy]; exact e2)
  refine ⟨l, ?_, by simpa using hl, hx⟩
  simp [f_law_row, b_law_row, run_eq, startR, rng1_nat hm, e]
end DL

set_option maxHeartbeats 1000000
namespace DL
open PySem PySem.Spec L2
/-! ### the law's webs -/
theorem law_at_i (ns : List Int) (k : Nat) : ∃ z : Int, f_law_at [.scr ns, .int k] = some (.int z) := by
  by_cases h : k < ns.length
  · have h' : (k : Int) < ns.length := by omega
    have e : atI (ns.map D.int) (k : Int) = some (.int ns[k]) := by rw [atI_map, List.getElem?_eq_getElem h]; rfl
    exact ⟨ns[k], by simp [f_law_at, b_law_at, run_eq, startR, h, h', e]⟩
  · have h' : ¬ ((k : Int) < ns.length) := by omega
    exact ⟨_, by simp [f_law_at, b_law_at, run_eq, startR, h, h']; exact rfl⟩
def glD (g : List Nat) : D := .lst (g.map nD)
def prv (g : List Nat) (i : Nat) : Nat := if i = 0 then g.getD (g.length - 1) 0 else g.getD (i - 1) 0
theorem prv_at {g : List Nat} {i : Nat} (h : i < g.length) : atI (g.map nD) ((i : Int) - 1) = some (.int (prv g i : Nat)) := by
  unfold prv
  by_cases h0 : i = 0
  · subst h0
    have e : ((0 : Nat) : Int) - 1 = -1 := by omega
    rw [e, atI_neg1, if_pos rfl]
    rw [List.getLast?_eq_getElem?, List.length_map, List.getElem?_map, List.getD_eq_getElem?_getD, List.getElem?_eq_getElem (by omega)]
    rfl
  · have e : (i : Int) - 1 = ((i - 1 : Nat) : Int) := by omega
    rw [e, atI_nD (by omega : i - 1 < g.length), if_neg h0, List.getD_eq_getElem?_getD, List.getElem?_eq_getElem (by omega)]
    rfl
theorem prv_mem {g : List Nat} {i : Nat} (h : i < g.length) : prv g i ∈ g := by
  unfold prv
  split
  · rw [List.getD_eq_getElem?_getD, List.getElem?_eq_getElem (by omega)]
    exact List.getElem_mem _
  · rw [List.getD_eq_getElem?_getD, List.getElem?_eq_getElem (by omega)]
    exact List.getElem_mem _
theorem prv_ne {g : List Nat} {i : Nat} (nd : g.Nodup) (h2 : 2 ≤ g.length) (h : i < g.length) : prv g i ≠ g[i] := by
  unfold prv
  split
  · rw [List.getD_eq_getElem?_getD, List.getElem?_eq_getElem (by omega)]
    intro e
    have := (List.getElem_inj nd).mp (show g[g.length - 1] = g[i] from e)
    omega
  · rw [List.getD_eq_getElem?_getD, List.getElem?_eq_getElem (by omega)]
    intro e
    have := (List.getElem_inj nd).mp (show g[i - 1] = g[i] from e)
    omega
theorem prv_cov {g : List Nat} (x : Nat) (h : x ∈ g) : ∃ i, i < g.length ∧ prv g i = x := by
  obtain ⟨j, hj, rfl⟩ := List.getElem_of_mem h
  by_cases hl : j = g.length - 1
  · refine ⟨0, by omega, ?_⟩
    unfold prv
    rw [if_pos rfl, List.getD_eq_getElem?_getD, List.getElem?_eq_getElem (by omega)]
    simp [hl]
  · refine ⟨j + 1, by omega, ?_⟩
    unfold prv
    rw [if_neg (by omega), List.getD_eq_getElem?_getD, List.getElem?_eq_getElem (by omega)]
    simp
theorem nth_range {n i : Nat} {d : D} (h : ((List.range n).map nD)[i]? = some d) : i < n ∧ d = .int (i : Nat) := by
  have h1 : i < n := by
    have := (List.getElem?_eq_some_iff.mp h).1
    simpa using this
  rw [List.getElem?_map, List.getElem?_range h1] at h
  exact ⟨h1, by simpa using h.symm⟩
section
variable (c m : D) (n : Nat) (mk od gr : Option D) (dg : List Nat)
def wEnv (a : Nat) (x9 x10 x11 x12 x13 x14 : Option D) : Rho := [some c, some m, some (.int (n : Nat)), mk, od, some (.lst (dg.map nD)), gr, some (.ref 0), some (.int (a : Nat)), x9, x10, x11, x12, x13, x14]
def rowsOk (R : List Row) : Prop := ∀ r ∈ R, rowOk n r = true
def Cov (R : List Row) (l : List Nat) : Prop := ∀ p ∈ l, p ∈ R.map (·.1) ∧ p ∈ R.map (·.2.1)
end
end DL

set_option maxHeartbeats 1000000
namespace DL
open PySem PySem.Spec L2
theorem rowOk_lt {n : Nat} {r : Row} (h : rowOk n r = true) : r.1 < n ∧ r.2.1 < n := by
  simp only [rowOk, Bool.and_eq_true, decide_eq_true_eq] at h
  exact ⟨h.1.1.1.1, h.1.1.1.2⟩
end DL

set_option maxHeartbeats 1000000
namespace DL
open PySem PySem.Spec L2
/-! ### deals -/
def dealsD (n : Nat) (ds : List (Nat × Nat)) : D := .tup [nD n, .tup (ds.map pairD)]
structure DealsOk (n : Nat) (ds : List (Nat × Nat)) : Prop where
  n2 : 2 ≤ n
  n6 : n ≤ 6
  r1 : 1 ≤ ds.length
  r10 : ds.length ≤ 10
  ok : ∀ d ∈ ds, d.1 < n ∧ d.2 < n ∧ d.1 ≠ d.2
@[simp] theorem q_dealsD (S : Sto) (n : Nat) (l : List (Nat × Nat)) : seqD S (dealsD n l) = some [.int n, .tup (l.map pairD)] := (rfl)
@[simp] theorem nr_dealsD (n : Nat) (l : List (Nat × Nat)) : nr (dealsD n l) = true := by simp [dealsD]
theorem deal_ok {n : Nat} {d : Nat × Nat} (h : d.1 < n ∧ d.2 < n ∧ d.1 ≠ d.2) :
    (and2 (.bl true) ((f_is_under [.int d.1, .int n]).bind fun x => and2 x ((f_is_under [.int d.2, .int n]).bind fun y => and2 y (gNe [] (.int d.1) (.int d.2))))) = some (.bl true) := by
  have h1 : (d.1 : Int) < n := by omega
  have h2 : (d.2 : Int) < n := by omega
  have h3 : ¬ ((d.1 : Int) = d.2) := by have := h.2.2; omega
  simp [is_under_i, h1, h2, h3, h.1, h.2.1, h.2.2]
theorem are_deals_ok {n : Nat} {ds : List (Nat × Nat)} (h : DealsOk n ds) : f_are_deals [dealsD n ds] = some (.bl true) := by
  have a1 : ¬ ((n : Int) < 2) := by have := h.n2; omega
  have a2 : ¬ (6 < (n : Int)) := by have := h.n6; omega
  have a3 : ds.length ≤ 1000000 := Nat.le_trans h.r10 (by decide)
  have a5 : ¬ (10 < (ds.length : Int)) := by have := h.r10; omega
  have a7 : ¬ ((ds.length : Int) < 1) := by have := h.r1; omega
  have a6 : ¬ (ds.length = 0) := by have := h.r1; omega
  have a4 : ¬ (ds = []) := fun e => by have := h.r1; rw [e] at this; simp at this
  have c : cmpM (fun x : Nat × Nat => and2 (.bl true) ((f_is_under [.int x.1, .int n]).bind fun z => and2 z ((f_is_under [.int x.2, .int n]).bind fun y => and2 y (gNe [] (.int x.1) (.int x.2))))) ds = some (ds.map fun _ => .bl true) :=
    (cmpM_congr rfl fun d hd => deal_ok (h.ok d hd)).trans (cmpM_some _ _)
  simp [f_are_deals, b_are_deals, run_eq, startR, dealsD, is_tuple_of_t, is_between_i, a1, a2, a3, a4, a5, a6, a7, pairD, -y_neI]
  simp at c
  simp [c, a3]
theorem need_deals_ok {n : Nat} {ds : List (Nat × Nat)} (h : DealsOk n ds) : f_need_deals [dealsD n ds] = some .non := by
  simp [f_need_deals, b_need_deals, run_eq, startR, are_deals_ok h]
theorem need_free_ok {n : Nat} {ds : List (Nat × Nat)} {l : List Nat} (h : LotOk n l) (hn : n ≤ 1000) : f_need_free [dealsD n ds, lotD l] = some .non := by
  simp [f_need_free, b_need_free, run_eq, startR, is_lot_ok h hn]
/-- a person's deals -/
def dof (ds : List (Nat × Nat)) (p : Nat) : List Nat := (ds.zipIdx.filter fun x => decide (p = x.1.1) || decide (p = x.1.2)).map (·.2)
theorem mem_dof {ds : List (Nat × Nat)} {p k : Nat} : k ∈ dof ds p ↔ ∃ d, ds[k]? = some d ∧ (p = d.1 ∨ p = d.2) := by
  unfold dof
  simp only [List.mem_map, List.mem_filter, Bool.or_eq_true, decide_eq_true_eq, List.mem_zipIdx_iff_getElem?]
  constructor
  · rintro ⟨x, ⟨h1, h2⟩, rfl⟩
    exact ⟨x.1, h1, h2⟩
  · rintro ⟨d, h1, h2⟩
    exact ⟨(d, k), ⟨h1, h2⟩, rfl⟩
theorem dof_pw (ds : List (Nat × Nat)) (p : Nat) : (dof ds p).Pairwise (· < ·) := by
  unfold dof
  rw [List.pairwise_map]
  refine List.Pairwise.filter _ ?_
  have : (ds.zipIdx.map (·.2)).Pairwise (· < ·) := by
    rw [List.zipIdx_map_snd]
    exact List.pairwise_lt_range'
  exact List.pairwise_map.mp this
theorem dof_ok (ds : List (Nat × Nat)) (p : Nat) : LotOk ds.length (dof ds p) := ⟨dof_pw ds p, fun x hx => by
  obtain ⟨d, h, _⟩ := mem_dof.mp hx
  exact (List.getElem?_eq_some_iff.mp h).1⟩
theorem in_pair (neg : Bool) (S : Sto) (p : Nat) (d : Nat × Nat) : gInS neg S (.int p) (pairD d) = some (.bl (if neg then !(decide (p = d.1) || decide (p = d.2)) else (decide (p = d.1) || decide (p = d.2)))) := by
  have := y_inT neg S p [d.1, d.2]
  have e : (decide (p ∈ [d.1, d.2])) = (decide (p = d.1) || decide (p = d.2)) := by
    by_cases h1 : p = d.1 <;> by_cases h2 : p = d.2 <;> simp [h1, h2]
  rw [e] at this
  exact this
theorem deals_of_w (n : Nat) (ds : List (Nat × Nat)) (p : Nat) (h : ds.length ≤ 1000000) : f_deals_of [dealsD n ds, .int p] = some (.lst ((dof ds p).map nD)) := by
  have c : cmpF (fun x : (Nat × Nat) × Nat => ((gInS false [] (.int p) (pairD x.1)).bind asB).bind fun b => if b = true then some (some (D.int (x.2 : Nat))) else some none) ds.zipIdx = some ((dof ds p).map nD) := by
    have e : (fun x : (Nat × Nat) × Nat => ((gInS false [] (.int p) (pairD x.1)).bind asB).bind fun b => if b = true then some (some (D.int (x.2 : Nat))) else some none) = fun x => if (p = x.1.1 ∨ p = x.1.2) then some (some (D.int (x.2 : Nat))) else some none := by
      funext x
      rw [in_pair]
      by_cases h1 : p = x.1.1 <;> by_cases h2 : p = x.1.2 <;> simp [h1, h2]
    rw [e, cmpF_ite]
    unfold dof
    simp [List.map_map, Function.comp_def]
  have hz : ds.zipIdx.length ≤ 1000000 := by simpa using h
  have hd : (dof ds p).length ≤ 1000000 := Nat.le_trans (dof_ok ds p).len h
  have w : ∀ S, seqD S (dealsD n ds) = some [.int n, .tup (ds.map pairD)] := fun S => rfl
  simp [f_deals_of, b_deals_of, run_eq, startR, enumD_map, compL_gen]
  rw [c]
  simp [hd]
/-! ### drawn deals -/
end DL

set_option maxHeartbeats 1000000
namespace DL
open PySem PySem.Spec L2
/-! ### who takes which deal first: state -/
/-- what is taken: number, person -/
abbrev Tk := List (Nat × Nat)
def tkv (T : Tk) : List (Nat × D) := T.map fun x => (x.1, D.int (x.2 : Nat))
def ordD (x : Nat × Nat) : D := pairD (x.2, x.1)
def tkA : List Str := ["deals", "firsts", "order"]
def tkF : List Str := ["deals", "firsts", "order", "bound"]
def tkD (n : Nat) (ds : List (Nat × Nat)) (B : List Nat) (T : Tk) : D := .ins "Taking" tkF [dealsD n ds, natDicD (tkv T), .lst (T.map ordD), .lst (B.map nD)]
def tkS (n : Nat) (ds : List (Nat × Nat)) (B : List Nat) (T : Tk) : Sto := [.ins "Taking" tkF [dealsD n ds, .ref 1, .ref 2, .lst (B.map nD)], natDic (tkv T), .lst (T.map ordD)]
def tkS0 (n : Nat) (ds : List (Nat × Nat)) (T : Tk) : Sto := [.ins "Taking" tkA [dealsD n ds, .ref 1, .ref 2], natDic (tkv T), .lst (T.map ordD)]
theorem tkv_keys (T : Tk) : (tkv T).map (·.1) = T.map (·.1) := by
  unfold tkv
  rw [List.map_map]
  rfl
theorem tkv_nr (T : Tk) : nrs (dvD (tkv T)) = true := by
  unfold dvD tkv
  rw [List.map_map]
  simp
@[simp] theorem nr_natDicD (T : Tk) : nr (natDicD (tkv T)) = true := tkv_nr T
@[simp] theorem nr_tkD (n : Nat) (ds : List (Nat × Nat)) (B : List Nat) (T : Tk) : nr (tkD n ds B T) = true := by
  show nrs [dealsD n ds, natDicD (tkv T), .lst (T.map ordD), .lst (B.map nD)] = true
  simp [ordD]
theorem a_deals (S : Sto) (n : Nat) (ds : List (Nat × Nat)) (B : List Nat) (T : Tk) : gAttr "Taking" "deals" S (tkD n ds B T) = some (dealsD n ds) := by with_unfolding_all rfl
theorem a_firsts (S : Sto) (n : Nat) (ds : List (Nat × Nat)) (B : List Nat) (T : Tk) : gAttr "Taking" "firsts" S (tkD n ds B T) = some (natDicD (tkv T)) := by with_unfolding_all rfl
theorem a_order (S : Sto) (n : Nat) (ds : List (Nat × Nat)) (B : List Nat) (T : Tk) : gAttr "Taking" "order" S (tkD n ds B T) = some (.lst (T.map ordD)) := by with_unfolding_all rfl
theorem a_bound (S : Sto) (n : Nat) (ds : List (Nat × Nat)) (B : List Nat) (T : Tk) : gAttr "Taking" "bound" S (tkD n ds B T) = some (.lst (B.map nD)) := by with_unfolding_all rfl
theorem s_deals (n : Nat) (ds : List (Nat × Nat)) (B : List Nat) (T : Tk) : gAttr "Taking" "deals" (tkS n ds B T) (.ref 0) = some (dealsD n ds) := by with_unfolding_all rfl
theorem s_firsts (n : Nat) (ds : List (Nat × Nat)) (B : List Nat) (T : Tk) : gAttr "Taking" "firsts" (tkS n ds B T) (.ref 0) = some (.ref 1) := by with_unfolding_all rfl
theorem s_order (n : Nat) (ds : List (Nat × Nat)) (B : List Nat) (T : Tk) : gAttr "Taking" "order" (tkS n ds B T) (.ref 0) = some (.ref 2) := by with_unfolding_all rfl
theorem s_bound (n : Nat) (ds : List (Nat × Nat)) (B : List Nat) (T : Tk) : gAttr "Taking" "bound" (tkS n ds B T) (.ref 0) = some (.lst (B.map nD)) := by with_unfolding_all rfl
theorem s0_firsts (n : Nat) (ds : List (Nat × Nat)) (T : Tk) : gAttr "Taking" "firsts" (tkS0 n ds T) (.ref 0) = some (.ref 1) := by with_unfolding_all rfl
theorem s0_order (n : Nat) (ds : List (Nat × Nat)) (T : Tk) : gAttr "Taking" "order" (tkS0 n ds T) (.ref 0) = some (.ref 2) := by with_unfolding_all rfl
theorem o_tkD (S : Sto) (n : Nat) (ds : List (Nat × Nat)) (B : List Nat) (T : Tk) : objD S (tkD n ds B T) = some (("Taking" : Str), tkF, [dealsD n ds, natDicD (tkv T), .lst (T.map ordD), .lst (B.map nD)]) := rfl
theorem o_tkS (n : Nat) (ds : List (Nat × Nat)) (B : List Nat) (T : Tk) : objD (tkS n ds B T) (.ref 0) = some (("Taking" : Str), tkF, [dealsD n ds, .ref 1, .ref 2, .lst (B.map nD)]) := rfl
theorem o_tkS0 (n : Nat) (ds : List (Nat × Nat)) (T : Tk) : objD (tkS0 n ds T) (.ref 0) = some (("Taking" : Str), tkA, [dealsD n ds, .ref 1, .ref 2]) := rfl
theorem fz_tkS (n : Nat) (ds : List (Nat × Nat)) (B : List Nat) (T : Tk) : fz (tkS n ds B T) (.ref 0) = some (tkD n ds B T) := by
  refine fz_ins (S := tkS n ds B T) (n := 0) rfl ?_
  refine mapM_cons' (frz_nr 5 _ (by simp)) (mapM_cons' (frz_dic0 (n := 1) rfl (tkv_nr T)) (mapM_cons' (frz_lst0 (n := 2) rfl ?_) (mapM_cons' (frz_nr 5 _ (by simp)) rfl)))
  simp [ordD]
theorem fzs_tkS (n : Nat) (ds : List (Nat × Nat)) (B : List Nat) (T : Tk) (p : Nat) : fzs (tkS n ds B T) [.ref 0, .int (p : Nat)] = some [tkD n ds B T, .int (p : Nat)] := by
  simp only [fzs, fz_tkS, fz_int, Option.bind_some, Option.map_some]
/-- the deals of a person that are not taken -/
def leftL (ds : List (Nat × Nat)) (T : Tk) (p : Nat) : List Nat := (dof ds p).filter fun k => !decide (k ∈ T.map (·.1))
def fst1 (T : Tk) (k : Nat) : Nat := (T.lookup k).getD 0
def firstsL (ds : List (Nat × Nat)) (T : Tk) (p : Nat) : List Nat := ((dof ds p).filter fun k => decide (k ∈ T.map (·.1))).map (fst1 T)
theorem lookup_tkv (T : Tk) {k : Nat} (h : k ∈ T.map (·.1)) : (tkv T).lookup k = some (.int (fst1 T k : Nat)) := by
  induction T with
  | nil => simp at h
  | cons x T ih =>
    obtain ⟨a, b⟩ := x
    unfold tkv fst1 at *
    simp only [List.map_cons, List.lookup_cons, List.mem_cons] at h ih ⊢
    cases e : (k == a) with
    | true => simp
    | false =>
      have : k ≠ a := by simpa using e
      simpa using ih (h.resolve_left this)
section
variable {n : Nat} {ds : List (Nat × Nat)} {B : List Nat} {T : Tk}
theorem left_of_w (hl : ds.length ≤ 1000) (p : Nat) : f_Taking_left_of [tkD n ds B T, .int (p : Nat)] = some ((leftL ds T p).map nD) := by
  have dl := (dof_ok ds p).len
  have c := fcomp_of (f := jSeqD (eFn f_deals_of (aCons (e1 (gAttr "Taking" "deals") (eV 0)) (aCons (eV 1) (aNil))))) (vs := [2]) (g := gN 2) (t := eB (e2 (gDIn true) (eV 2) (e1 (gAttr "Taking" "firsts") (eV 0)))) (e := eV 2)
    (ρ := startR 3 [tkD n ds B T, .int (p : Nat)]) (S := []) nD (dof ds p) (fun k => !decide (k ∈ T.map (·.1))) nD (by simp [startR, a_deals, deals_of_w n ds p (by omega)]) (by omega) (fun x hx => ⟨_, rfl, by simp [startR, a_firsts, tkv_keys, -List.mem_map], fun _ => by simp [startR]⟩)
  refine runF_rf (S1 := []) (ρ1 := startR 3 [tkD n ds B T, .int (p : Nat)]) ?_ (by simp)
  show b_Taking_left_of _ _ = _
  unfold b_Taking_left_of
  rw [x_sRetF, c]
  rfl
theorem firsts_of_w (hl : ds.length ≤ 1000) (p : Nat) : f_Taking_firsts_of [tkD n ds B T, .int (p : Nat)] = some ((firstsL ds T p).map nD) := by
  have dl := (dof_ok ds p).len
  have c := fcomp_of (f := jSeqD (eFn f_deals_of (aCons (e1 (gAttr "Taking" "deals") (eV 0)) (aCons (eV 1) (aNil))))) (vs := [2]) (g := gN 2) (t := eB (e2 (gDIn false) (eV 2) (e1 (gAttr "Taking" "firsts") (eV 0)))) (e := e2 gDGet (e1 (gAttr "Taking" "firsts") (eV 0)) (eV 2))
    (ρ := startR 3 [tkD n ds B T, .int (p : Nat)]) (S := []) nD (dof ds p) (fun k => decide (k ∈ T.map (·.1))) (fun k => nD (fst1 T k)) (by simp [startR, a_deals, deals_of_w n ds p (by omega)]) (by omega) (fun x hx => ⟨_, rfl, by simp [startR, a_firsts, tkv_keys, -List.mem_map], fun h => by simp [startR, a_firsts, lookup_tkv T (of_decide_eq_true h)]⟩)
  have e : ((dof ds p).filter fun k => decide (k ∈ T.map (·.1))).map (fun k => nD (fst1 T k)) = (firstsL ds T p).map nD := by
    unfold firstsL
    rw [List.map_map]
    rfl
  rw [e] at c
  refine runF_rf (S1 := []) (ρ1 := startR 3 [tkD n ds B T, .int (p : Nat)]) ?_ (by simp)
  show b_Taking_firsts_of _ _ = _
  unfold b_Taking_firsts_of
  rw [x_sRetF, c]
  rfl
theorem noF_1 : noF tkF "left_of" = true := by decide +kernel
theorem noF_2 : noF tkF "firsts_of" = true := by decide +kernel
theorem noF_3 : noF tkF "take" = true := by decide +kernel
theorem noF_4 : noF tkA "take" = true := by decide +kernel
theorem noF_5 : noF tkF "take_next" = true := by decide +kernel
theorem noF_6 : noF tkF "bad_round" = true := by decide +kernel
theorem take_s {k p : Nat} (hk : k ∉ T.map (·.1)) (hT : T.length ≤ 1000) : f_Taking_take [.ref 0, .int (k : Nat), .int (p : Nat)] (tkS n ds B T) = some (.non, tkS n ds B (T ++ [(k, p)])) := by
  have p1 := z_put (f := eV 2) (fo := e1 (gAttr "Taking" "firsts") (eV 0)) (fi := eV 1) (ρ := [some (.ref 0), some (.int (k : Nat)), some (.int (p : Nat))]) (S := tkS n ds B T) (n := 1) (kv := tkv T) (k := k) (v := .int (p : Nat)) rfl (by simp [s_firsts]) rfl rfl (by rw [tkv_keys]; exact hk) (by simp [tkv]; omega)
  refine runS_nx (ρ1 := [some (.ref 0), some (.int (k : Nat)), some (.int (p : Nat))]) (S1 := tkS n ds B (T ++ [(k, p)])) ?_ (Nat.le_refl _)
  show b_Taking_take [some (.ref 0), some (.int (k : Nat)), some (.int (p : Nat))] _ = _
  unfold b_Taking_take
  refine seq_nx p1 ?_
  have e1 : (tkS n ds B T).set 1 (natDic (tkv T ++ [(k, .int (p : Nat))])) = [.ins "Taking" tkF [dealsD n ds, .ref 1, .ref 2, .lst (B.map nD)], natDic (tkv (T ++ [(k, p)])), .lst (T.map ordD)] := by
    simp [tkS, tkv]
  rw [e1]
  have q1 : gAttr "Taking" "order" [.ins "Taking" tkF [dealsD n ds, .ref 1, .ref 2, .lst (B.map nD)], natDic (tkv (T ++ [(k, p)])), .lst (T.map ordD)] (.ref 0) = some (.ref 2) := by with_unfolding_all rfl
  have hT' : T.length ≤ 1000000 := by omega
  simp [q1, hT']
  simp [tkS, ordD, pairD]
theorem take_s0 {k p : Nat} (hk : k ∉ T.map (·.1)) (hT : T.length ≤ 1000) : f_Taking_take [.ref 0, .int (k : Nat), .int (p : Nat)] (tkS0 n ds T) = some (.non, tkS0 n ds (T ++ [(k, p)])) := by
  have p1 := z_put (f := eV 2) (fo := e1 (gAttr "Taking" "firsts") (eV 0)) (fi := eV 1) (ρ := [some (.ref 0), some (.int (k : Nat)), some (.int (p : Nat))]) (S := tkS0 n ds T) (n := 1) (kv := tkv T) (k := k) (v := .int (p : Nat)) rfl (by simp [s0_firsts]) rfl rfl (by rw [tkv_keys]; exact hk) (by simp [tkv]; omega)
  refine runS_nx (ρ1 := [some (.ref 0), some (.int (k : Nat)), some (.int (p : Nat))]) (S1 := tkS0 n ds (T ++ [(k, p)])) ?_ (Nat.le_refl _)
  show b_Taking_take [some (.ref 0), some (.int (k : Nat)), some (.int (p : Nat))] _ = _
  unfold b_Taking_take
  refine seq_nx p1 ?_
  have e1 : (tkS0 n ds T).set 1 (natDic (tkv T ++ [(k, .int (p : Nat))])) = [.ins "Taking" tkA [dealsD n ds, .ref 1, .ref 2], natDic (tkv (T ++ [(k, p)])), .lst (T.map ordD)] := by
    simp [tkS0, tkv]
  rw [e1]
  have q1 : gAttr "Taking" "order" [.ins "Taking" tkA [dealsD n ds, .ref 1, .ref 2], natDic (tkv (T ++ [(k, p)])), .lst (T.map ordD)] (.ref 0) = some (.ref 2) := by with_unfolding_all rfl
  have hT' : T.length ≤ 1000000 := by omega
  simp [q1, hT']
  simp [tkS0, ordD, pairD]
end
end DL

set_option maxHeartbeats 1000000
namespace DL
open PySem PySem.Spec L2
theorem imms_nD : ∀ l : List Nat, imms (l.map nD) = true
  | [] => rfl
  | a :: l => by
    show (imm (nD a) && imms (l.map nD)) = true
    rw [imms_nD l]
    rfl
theorem whileS_inv {t : EBS} {body : T} {ρ : Rho} (P : Nat → Sto → Prop) (Q : Sto → Prop)
    (step : ∀ n S, P n S → (∃ S', t ρ S = some (false, S') ∧ Q S') ∨ ∃ S', t ρ S = some (true, S') ∧ body ρ S' = some (.nx, ρ, S') ∧ ∃ n', n' < n ∧ P n' S') {n : Nat} {S : Sto} (h : P n S) : ∃ S', sWhileS t body ρ S = some (.nx, ρ, S') ∧ Q S' := by
  have main : ∀ (n : Nat) (S : Sto), P n S → ∃ k S', whileNS t body k ρ S = some (.nx, ρ, S') ∧ Q S' := by
    intro n
    induction n using Nat.strongRecOn with
    | ind n ih =>
      intro S h
      rcases step n S h with ⟨S1, h1, h2⟩ | ⟨S1, h1, h2, n1, h3, h4⟩
      · exact ⟨1, S1, by simp [whileNS, h1], h2⟩
      · obtain ⟨k, S', h5, h6⟩ := ih n1 h3 S1 h4
        refine ⟨k + 1, S', ?_, h6⟩
        simp only [whileNS, h1, Option.bind_some, if_true, h2]
        exact h5
  obtain ⟨k, S', h1, h2⟩ := main n S h
  exact ⟨S', sWhileS_of h1, h2⟩
def isNext (ds : List (Nat × Nat)) (T : Tk) (p : Nat) : Prop := (leftL ds T p).length = 1 ∧ p ∉ firstsL ds T p
section
variable {n : Nat} {ds : List (Nat × Nat)} {B : List Nat} {T : Tk}
theorem take_next_w (hl : ds.length ≤ 1000) (hT : T.length ≤ 1000) :
    (f_Taking_take_next [.ref 0] (tkS n ds B T) = some (.bl false, tkS n ds B T) ∧ ∀ p ∈ B, ¬ isNext ds T p) ∨
    ∃ p ∈ B, ∃ k, leftL ds T p = [k] ∧ p ∉ firstsL ds T p ∧ f_Taking_take_next [.ref 0] (tkS n ds B T) = some (.bl true, tkS n ds B (T ++ [(k, p)])) := by
  rcases loop_ret (g := gN 1) (body := l1_Taking_take_next) (ds := B.map nD) (ρ := [some (.ref 0), none, none]) (S := tkS n ds B T)
    (fun i ρ S => ∃ x1 x2 : Option D, ρ = [some (.ref 0), x1, x2] ∧ S = tkS n ds B T ∧ ∀ j (hj : j < B.length), j < i → ¬ isNext ds T B[j])
    (fun i fl ρ S => fl = .rt (.bl true) ∧ ∃ h : i < B.length, ∃ k, leftL ds T B[i] = [k] ∧ B[i] ∉ firstsL ds T B[i] ∧ S = tkS n ds B (T ++ [(k, B[i])])) ⟨none, none, rfl, rfl, fun j _ h => by omega⟩ (by
      rintro i d ρ S hi ⟨x1, x2, rfl, rfl, inv⟩
      have hlt : i < B.length := by
        have := (List.getElem?_eq_some_iff.mp hi).1
        simpa using this
      have hd : d = .int (B[i] : Nat) := by
        rw [List.getElem?_map, List.getElem?_eq_getElem hlt] at hi
        simpa using hi.symm
      subst hd
      generalize hp : B[i] = p
      have hp' : B[i] = p := hp
      have lf := left_of_w (n := n) (B := B) (T := T) hl p
      have ff := firsts_of_w (n := n) (B := B) (T := T) hl p
      have m1 : mF "Taking" "left_of" f_Taking_left_of (eV 0) (aCons (eV 1) (aNil)) [some (.ref 0), some (.int (p : Nat)), x2] (tkS n ds B T) = some ((leftL ds T p).map nD) :=
        mF_fz (o := .ref 0) (ds := [.int (p : Nat)]) rfl (o_tkS ..) noF_1 rfl rfl (fzs_tkS ..) lf (imms_nD _)
      have m2 : ∀ y, mF "Taking" "firsts_of" f_Taking_firsts_of (eV 0) (aCons (eV 1) (aNil)) [some (.ref 0), some (.int (p : Nat)), some y] (tkS n ds B T) = some ((firstsL ds T p).map nD) := fun y =>
        mF_fz (o := .ref 0) (ds := [.int (p : Nat)]) rfl (o_tkS ..) noF_2 rfl rfl (fzs_tkS ..) ff (imms_nD _)
      have s1 : sSet 2 (eF (mF "Taking" "left_of" f_Taking_left_of (eV 0) (aCons (eV 1) (aNil)))) [some (.ref 0), some (.int (p : Nat)), x2] (tkS n ds B T) = some (.nx, [some (.ref 0), some (.int (p : Nat)), some (.lst ((leftL ds T p).map nD))], tkS n ds B T) := by
        rw [x_sSet, x_eF, m1]; rfl
      have tst : (bAnd (eB (e2 gEq (eCall cLen (aCons (eV 2) (aNil))) (eC (.int 1)))) (eB (e2 (gInS true) (eV 1) (eF (mF "Taking" "firsts_of" f_Taking_firsts_of (eV 0) (aCons (eV 1) (aNil))))))) [some (.ref 0), some (.int (p : Nat)), some (.lst ((leftL ds T p).map nD))] (tkS n ds B T)
          = some (decide ((leftL ds T p).length = 1) && !decide (p ∈ firstsL ds T p)) := by
        simp [m2]
        by_cases h : (leftL ds T p).length = 1
        · simp [h]
        · have h' : ¬ (((leftL ds T p).length : Int) = 1) := by omega
          simp [h, h']
      by_cases hn : isNext ds T p
      · obtain ⟨h1, h2⟩ := hn
        obtain ⟨k, hk⟩ : ∃ k, leftL ds T p = [k] := by
          match hL : leftL ds T p, h1 with
          | [k], _ => exact ⟨k, rfl⟩
        have hkT : k ∉ T.map (·.1) := by
          have : k ∈ leftL ds T p := by rw [hk]; simp
          have := (List.mem_filter.mp this).2
          simpa using this
        have ts : tst = tst := rfl
        have tst' : (bAnd (eB (e2 gEq (eCall cLen (aCons (eV 2) (aNil))) (eC (.int 1)))) (eB (e2 (gInS true) (eV 1) (eF (mF "Taking" "firsts_of" f_Taking_firsts_of (eV 0) (aCons (eV 1) (aNil))))))) [some (.ref 0), some (.int (p : Nat)), some (.lst ((leftL ds T p).map nD))] (tkS n ds B T) = some true := by
          rw [tst, decide_eq_true h1, decide_eq_false h2]; rfl
        have m3 : mS "Taking" "take" f_Taking_take (eV 0) (aCons (e2 gIx (eV 2) (eC (.int 0))) (aCons (eV 1) (aNil))) [some (.ref 0), some (.int (p : Nat)), some (.lst ((leftL ds T p).map nD))] (tkS n ds B T) = some (.non, tkS n ds B (T ++ [(k, p)])) := by
          rw [mS_eq (o := .ref 0) (ds := [.int (k : Nat), .int (p : Nat)]) rfl (o_tkS ..) noF_3 (by simp [hk])]
          exact take_s hkT hT
        refine ⟨_, [some (.ref 0), some (.int (p : Nat)), some (.lst ((leftL ds T p).map nD))], tkS n ds B (T ++ [(k, p)]), .rt (.bl true), rfl, ?_, .inr (.inl ⟨⟨_, rfl⟩, rfl, hlt, k, hp' ▸ hk, hp' ▸ h2, hp' ▸ rfl⟩)⟩
        show l1_Taking_take_next [some (.ref 0), some (.int (p : Nat)), x2] _ = _
        unfold l1_Taking_take_next
        refine seq_nx s1 (if_t tst' ?_)
        rw [x_sSeq, x_sDropS, m3]
        rfl
      · have tst' : (bAnd (eB (e2 gEq (eCall cLen (aCons (eV 2) (aNil))) (eC (.int 1)))) (eB (e2 (gInS true) (eV 1) (eF (mF "Taking" "firsts_of" f_Taking_firsts_of (eV 0) (aCons (eV 1) (aNil))))))) [some (.ref 0), some (.int (p : Nat)), some (.lst ((leftL ds T p).map nD))] (tkS n ds B T) = some false := by
          rw [tst]
          unfold isNext at hn
          by_cases h : (leftL ds T p).length = 1
          · by_cases h2 : p ∈ firstsL ds T p
            · simp [h2]
            · exact absurd ⟨h, h2⟩ hn
          · simp [h]
        refine ⟨_, [some (.ref 0), some (.int (p : Nat)), some (.lst ((leftL ds T p).map nD))], tkS n ds B T, .nx, rfl, ?_, .inl ⟨.inl rfl, _, _, rfl, rfl, fun j hj hji => ?_⟩⟩
        · show l1_Taking_take_next [some (.ref 0), some (.int (p : Nat)), x2] _ = _
          unfold l1_Taking_take_next
          exact seq_nx s1 (if_f tst' rfl)
        · by_cases e : j = i
          · subst e; rw [hp']; exact hn
          · exact inv j hj (by omega)) with ⟨ρ', S', e, x1, x2, rfl, rfl, inv⟩ | ⟨i, fl, ρ', S', hi, e, rfl, hlt, k, h1, h2, rfl⟩
  · refine .inl ⟨?_, fun p hp => ?_⟩
    · refine runS_rt (ρ1 := [some (.ref 0), x1, x2]) ?_ (Nat.le_refl _)
      show b_Taking_take_next [some (.ref 0), none, none] _ = _
      unfold b_Taking_take_next
      refine seq_nx (S1 := tkS n ds B T) (ρ1 := [some (.ref 0), x1, x2]) ?_ rfl
      rw [x_sFor]
      simp only [x_iSeqD, x_e1, x_eV, List.getElem?_cons_zero, Option.bind_some, id, s_bound, qv_lst]
      exact e
    · obtain ⟨j, hj, rfl⟩ := List.getElem_of_mem hp
      exact inv j hj (by simpa using hj)
  · refine .inr ⟨B[i], List.getElem_mem hlt, k, h1, h2, ?_⟩
    refine runS_rt (ρ1 := ρ') ?_ (Nat.le_refl _)
    show b_Taking_take_next [some (.ref 0), none, none] _ = _
    unfold b_Taking_take_next
    refine seq_rt ?_
    rw [x_sFor]
    simp only [x_iSeqD, x_e1, x_eV, List.getElem?_cons_zero, Option.bind_some, id, s_bound, qv_lst]
    exact e
end
/-! ### what the taking keeps -/
structure TkOk (n : Nat) (ds : List (Nat × Nat)) (F : List Nat) (T : Tk) : Prop where
  nd : (T.map (·.1)).Nodup
  ok : ∀ x ∈ T, ∃ d, ds[x.1]? = some d ∧ (x.2 = d.1 ∨ x.2 = d.2)
  free : ∀ (k : Nat) (d : Nat × Nat), ds[k]? = some d → (d.1 ∈ F ∨ d.2 ∈ F) → k ∈ T.map (·.1)
  frst : ∀ (i k p : Nat), T[i]? = some (k, p) → p ∉ F → ∀ j ∈ dof ds p, j ≠ k → j ∈ (T.take i).map (·.1) ∧ fst1 T j ≠ p
theorem fst1_app {T : Tk} {x : Nat × Nat} {k : Nat} (h : k ∈ T.map (·.1)) : fst1 (T ++ [x]) k = fst1 T k := by
  unfold fst1
  rw [List.lookup_append]
  cases e : T.lookup k with
  | some v => simp
  | none =>
    have q := lookup_tkv T h
    unfold tkv at q
    have : (T.map fun x => (x.1, D.int (x.2 : Nat))).lookup k = (T.lookup k).map fun p => D.int (p : Nat) := by
      clear q h e
      induction T with
      | nil => rfl
      | cons y T ih =>
        obtain ⟨a, b⟩ := y
        simp only [List.map_cons, List.lookup_cons]
        cases (k == a) <;> simp [ih]
    rw [this, e] at q
    cases q
theorem fst1_of {T : Tk} (nd : (T.map (·.1)).Nodup) {k p : Nat} (h : (k, p) ∈ T) : fst1 T k = p := by
  unfold fst1
  induction T with
  | nil => simp at h
  | cons y T ih =>
    obtain ⟨a, b⟩ := y
    simp only [List.map_cons, List.nodup_cons, List.lookup_cons] at nd ⊢
    rcases List.mem_cons.mp h with h | h
    · cases h; simp
    · have : k ≠ a := fun e => nd.1 (by rw [← e]; exact List.mem_map_of_mem (f := (·.1)) h)
      have hb : (k == a) = false := by simpa using this
      rw [hb]
      exact ih nd.2 h
theorem TkOk.len {n : Nat} {ds : List (Nat × Nat)} {F : List Nat} {T : Tk} (h : TkOk n ds F T) : T.length ≤ ds.length := by
  have := List.Nodup.length_le_of_subset (l₂ := List.range ds.length) h.nd fun x hx => by
    obtain ⟨y, hy, rfl⟩ := List.mem_map.mp hx
    obtain ⟨d, e, _⟩ := h.ok y hy
    exact List.mem_range.mpr (List.getElem?_eq_some_iff.mp e).1
  simpa using this
theorem mem_leftL {ds : List (Nat × Nat)} {T : Tk} {p k : Nat} : k ∈ leftL ds T p ↔ k ∈ dof ds p ∧ k ∉ T.map (·.1) := by
  unfold leftL
  rw [List.mem_filter]
  simp
theorem TkOk.more {n : Nat} {ds : List (Nat × Nat)} {F : List Nat} {T : Tk} (h : TkOk n ds F T) {k p : Nat} (hp : p ∉ F) (h1 : leftL ds T p = [k]) (h2 : p ∉ firstsL ds T p) : TkOk n ds F (T ++ [(k, p)]) := by
  have hk : k ∈ leftL ds T p := by rw [h1]; simp
  obtain ⟨k1, k2⟩ := mem_leftL.mp hk
  refine ⟨?_, ?_, ?_, ?_⟩
  · rw [List.map_append]
    refine List.nodup_append.mpr ⟨h.nd, by simp, fun x hx y hy e => ?_⟩
    simp at hy
    subst hy e
    exact k2 hx
  · intro x hx
    rcases List.mem_append.mp hx with hx | hx
    · exact h.ok x hx
    · rw [List.mem_singleton.mp hx]
      exact mem_dof.mp k1
  · intro j d e hf
    rw [List.map_append]
    exact List.mem_append_left _ (h.free j d e hf)
  · intro i j q e hq m hm hmj
    by_cases hi : i < T.length
    · rw [List.getElem?_append_left hi] at e
      obtain ⟨a, b⟩ := h.frst i j q e hq m hm hmj
      rw [List.take_append_of_le_length (Nat.le_of_lt hi)]
      refine ⟨a, ?_⟩
      rw [fst1_app]
      · exact b
      · obtain ⟨y, hy, rfl⟩ := List.mem_map.mp a
        exact List.mem_map_of_mem (f := (·.1)) (List.mem_of_mem_take hy)
    · have hlt := (List.getElem?_eq_some_iff.mp e).1
      simp at hlt
      have ei : i = T.length := by omega
      subst ei
      simp at e
      obtain ⟨rfl, rfl⟩ := e
      have hmT : m ∈ T.map (·.1) := by
        refine Classical.byContradiction fun c => ?_
        have : m ∈ leftL ds T p := mem_leftL.mpr ⟨hm, c⟩
        rw [h1] at this
        exact hmj (List.mem_singleton.mp this)
      rw [List.take_append_of_le_length (Nat.le_refl _), List.take_length]
      refine ⟨hmT, ?_⟩
      rw [fst1_app hmT]
      intro z
      refine h2 ?_
      unfold firstsL
      exact List.mem_map.mpr ⟨m, List.mem_filter.mpr ⟨hm, decide_eq_true hmT⟩, z⟩
end DL

set_option maxHeartbeats 1000000
namespace DL
open PySem PySem.Spec L2
/-! ### the taking, made -/
theorem runS_big {b : T} {n : Nat} {ds : List D} {S S1 : Sto} {ρ1 : Rho} (h : b (startR n ds) S = some (.nx, ρ1, S1)) (hl : S.length < S1.length) (hc : (S1.take S.length).all (rbC S.length) = false) : runS b n ds S = some (.non, S1) := by
  unfold runS
  have : ¬ S1.length ≤ S.length := by omega
  simp only [h, Option.bind_some, finS, if_neg this, finK, hc]
  rfl
theorem sorted_pair {d : Nat × Nat} (h : d.1 ≠ d.2) : ∃ G : List Nat, sortD [.int (d.1 : Nat), .int (d.2 : Nat)] = G.map nD ∧ (∀ x, x ∈ G ↔ x = d.1 ∨ x = d.2) ∧ G.length = 2 := by
  obtain ⟨G, e, p, _⟩ := sort_nats (F := [d.1, d.2]) (by simp [h])
  refine ⟨G, e, fun x => ?_, by simpa using p.length_eq⟩
  rw [p.mem_iff]; simp
theorem k_sortPair (S : Sto) (d : Nat × Nat) : cSorted S [pairD d] = some (sortD [.int (d.1 : Nat), .int (d.2 : Nat)]) := k_sorted rfl (gdS_nats [d.1, d.2])
/-- what is taken at the start -/
structure TkBeg (n : Nat) (ds : List (Nat × Nat)) (F : List Nat) (i : Nat) (T : Tk) : Prop where
  nd : (T.map (·.1)).Nodup
  ok : ∀ x ∈ T, x.1 < i ∧ x.2 ∈ F ∧ ∃ d, ds[x.1]? = some d ∧ (x.2 = d.1 ∨ x.2 = d.2)
  free : ∀ (k : Nat) (d : Nat × Nat), k < i → ds[k]? = some d → (d.1 ∈ F ∨ d.2 ∈ F) → k ∈ T.map (·.1)
theorem TkBeg.len {n : Nat} {ds : List (Nat × Nat)} {F : List Nat} {i : Nat} {T : Tk} (h : TkBeg n ds F i T) : T.length ≤ i := by
  have := List.Nodup.length_le_of_subset (l₂ := List.range i) h.nd fun x hx => by
    obtain ⟨y, hy, rfl⟩ := List.mem_map.mp hx
    exact List.mem_range.mpr (h.ok y hy).1
  simpa using this
theorem TkBeg.tk {n : Nat} {ds : List (Nat × Nat)} {F : List Nat} {T : Tk} (h : TkBeg n ds F ds.length T) : TkOk n ds F T :=
  ⟨h.nd, fun x hx => (h.ok x hx).2.2, fun k d e hf => h.free k d (List.getElem?_eq_some_iff.mp e).1 e hf, fun i k p e hp => absurd (h.ok _ (List.mem_of_getElem? e)).2.1 hp⟩
section
variable {n : Nat} {ds : List (Nat × Nat)} {F : List Nat}
theorem init_loop (W : DealsOk n ds) (hF : LotOk n F) : ∃ T x3 x4 x5, TkBeg n ds F ds.length T ∧
    loopL (gT 2 (gCons (gN 3) (gCons (gN 4) (gNil)))) l1_Taking_init (ds.zipIdx.map fun p => .tup [nD p.2, pairD p.1]) [some (.ref 0), some (dealsD n ds), some (lotD F), none, none, none, none] (tkS0 n ds []) = some (.nx, [some (.ref 0), some (dealsD n ds), some (lotD F), x3, x4, x5, none], tkS0 n ds T) := by
  have hl := W.r10
  obtain ⟨ρ', S', e, T, x3, x4, x5, rfl, rfl, tb⟩ := loop_inv (g := gT 2 (gCons (gN 3) (gCons (gN 4) (gNil)))) (body := l1_Taking_init) (ds := ds.zipIdx.map fun p => .tup [nD p.2, pairD p.1])
    (ρ := [some (.ref 0), some (dealsD n ds), some (lotD F), none, none, none, none]) (S := tkS0 n ds [])
    (fun i ρ S => ∃ (T : Tk) (x3 x4 x5 : Option D), ρ = [some (.ref 0), some (dealsD n ds), some (lotD F), x3, x4, x5, none] ∧ S = tkS0 n ds T ∧ TkBeg n ds F i T)
    ⟨[], none, none, none, rfl, rfl, List.nodup_nil, by simp, fun k d h => by omega⟩ (by
      rintro i d ρ S hi ⟨T, x3, x4, x5, rfl, rfl, tb⟩
      have hlt : i < ds.length := by
        have := (List.getElem?_eq_some_iff.mp hi).1
        simpa using this
      obtain ⟨p, hp⟩ : ∃ p, ds[i]? = some p := ⟨_, List.getElem?_eq_getElem hlt⟩
      have hd : d = .tup [nD i, pairD p] := by
        rw [List.getElem?_map, List.getElem?_zipIdx, hp] at hi
        simpa using hi.symm
      subst hd
      have ne := (W.ok p (List.mem_of_getElem? hp)).2.2
      obtain ⟨G, eG, mG, lG⟩ := sorted_pair ne
      have tl := tb.len
      have c := fcomp_of (f := jSeqD (eF (fCall cSorted (aCons (eV 4) (aNil))))) (vs := [6]) (g := gN 6) (t := eB (e2 (gInS false) (eV 6) (eV 2))) (e := eV 6)
        (ρ := [some (.ref 0), some (dealsD n ds), some (lotD F), some (.int (i : Nat)), some (pairD p), x5, none]) (S := tkS0 n ds T) nD G (fun x => decide (x ∈ F)) nD (by simp [k_sortPair, eG]) (by omega) (fun x hx => ⟨_, rfl, by simp, fun _ => by simp⟩)
      have s1 : sSet 5 (eF (fComp (jSeqD (eF (fCall cSorted (aCons (eV 4) (aNil))))) [6] (gN 6) (eB (e2 (gInS false) (eV 6) (eV 2))) (eV 6))) [some (.ref 0), some (dealsD n ds), some (lotD F), some (.int (i : Nat)), some (pairD p), x5, none] (tkS0 n ds T) = some (.nx, [some (.ref 0), some (dealsD n ds), some (lotD F), some (.int (i : Nat)), some (pairD p), some (.lst ((G.filter fun x => decide (x ∈ F)).map nD)), none], tkS0 n ds T) := by
        rw [x_sSet, x_eF, c]; rfl
      cases hR : G.filter fun x => decide (x ∈ F) with
      | nil =>
        rw [hR] at s1
        refine ⟨_, [some (.ref 0), some (dealsD n ds), some (lotD F), some (.int (i : Nat)), some (pairD p), some (.lst (([] : List Nat).map nD)), none], tkS0 n ds T, .nx, by simp; rfl, ?_, .inl rfl, T, _, _, _, rfl, rfl, tb.nd, fun x hx => ?_, fun k d hk e hf => ?_⟩
        · show l1_Taking_init [some (.ref 0), some (dealsD n ds), some (lotD F), some (.int (i : Nat)), some (pairD p), x5, none] _ = _
          unfold l1_Taking_init
          exact seq_nx s1 (if_f (by simp) rfl)
        · obtain ⟨a, b⟩ := tb.ok x hx
          exact ⟨by omega, b⟩
        · by_cases ek : k = i
          · subst ek
            rw [hp] at e
            cases e
            have : ∀ x, (x = p.1 ∨ x = p.2) → x ∈ F → False := fun x hx hf => by
              have : x ∈ G.filter fun x => decide (x ∈ F) := List.mem_filter.mpr ⟨(mG x).mpr hx, decide_eq_true hf⟩
              rw [hR] at this
              simp at this
            rcases hf with hf | hf
            · exact (this _ (.inl rfl) hf).elim
            · exact (this _ (.inr rfl) hf).elim
          · exact tb.free k d (by omega) e hf
      | cons r R =>
        rw [hR] at s1
        have hr : r ∈ G.filter fun x => decide (x ∈ F) := by rw [hR]; simp
        obtain ⟨r1, r2⟩ := List.mem_filter.mp hr
        have r2' : r ∈ F := by simpa using r2
        have nk : i ∉ T.map (·.1) := fun h => by
          obtain ⟨y, hy, e⟩ := List.mem_map.mp h
          have := (tb.ok y hy).1
          omega
        have m3 : mS "Taking" "take" f_Taking_take (eV 0) (aCons (eV 3) (aCons (e2 gIx (eV 5) (eC (.int 0))) (aNil))) [some (.ref 0), some (dealsD n ds), some (lotD F), some (.int (i : Nat)), some (pairD p), some (.lst ((r :: R).map nD)), none] (tkS0 n ds T) = some (.non, tkS0 n ds (T ++ [(i, r)])) := by
          rw [mS_eq (o := .ref 0) (ds := [.int (i : Nat), .int (r : Nat)]) rfl (o_tkS0 ..) noF_4 (by simp)]
          exact take_s0 nk (by omega)
        refine ⟨_, [some (.ref 0), some (dealsD n ds), some (lotD F), some (.int (i : Nat)), some (pairD p), some (.lst ((r :: R).map nD)), none], tkS0 n ds (T ++ [(i, r)]), .nx, by simp; rfl, ?_, .inl rfl, _, _, _, _, rfl, rfl, ?_, fun x hx => ?_, fun k d hk e hf => ?_⟩
        · show l1_Taking_init [some (.ref 0), some (dealsD n ds), some (lotD F), some (.int (i : Nat)), some (pairD p), x5, none] _ = _
          unfold l1_Taking_init
          refine seq_nx s1 (if_t (by simp) ?_)
          rw [x_sDropS, m3]
          rfl
        · rw [List.map_append]
          refine List.nodup_append.mpr ⟨tb.nd, by simp, fun x hx y hy e => ?_⟩
          simp at hy
          subst hy e
          exact nk hx
        · rcases List.mem_append.mp hx with hx | hx
          · obtain ⟨a, b⟩ := tb.ok x hx
            exact ⟨by omega, b⟩
          · rw [List.mem_singleton.mp hx]
            exact ⟨by simp, r2', p, hp, (mG r).mp r1⟩
        · rw [List.map_append]
          by_cases ek : k = i
          · subst ek
            exact List.mem_append_right _ (by simp)
          · exact List.mem_append_left _ (tb.free k d (by omega) e hf))
  exact ⟨T, x3, x4, x5, by simpa using tb, e⟩
def boundL (n : Nat) (F : List Nat) : List Nat := (List.range n).filter fun p => !decide (p ∈ F)
theorem mem_boundL {p : Nat} : p ∈ boundL n F ↔ p < n ∧ p ∉ F := by
  unfold boundL
  rw [List.mem_filter, List.mem_range]
  simp
theorem taking_w (W : DealsOk n ds) (hF : LotOk n F) : ∃ T, TkOk n ds F T ∧ (∀ p ∈ boundL n F, ¬ isNext ds T p) ∧ f_Taking_init [.ref 0, dealsD n ds, lotD F] [.ins "Taking" [] []] = some (.non, tkS n ds (boundL n F) T) := by
  have hl := W.r10
  have hn := W.n6
  obtain ⟨T0, x3, x4, x5, tb, e⟩ := init_loop W hF
  have c := fcomp_of (f := iRng rng1 (aCons (e2 gIx (eV 1) (eC (.int 0))) (aNil))) (vs := [6]) (g := gN 6) (t := eB (e2 (gInS true) (eV 6) (eV 2))) (e := eV 6)
    (ρ := [some (.ref 0), some (dealsD n ds), some (lotD F), x3, x4, x5, none]) (S := tkS0 n ds T0) nD (List.range n) (fun x => !decide (x ∈ F)) nD (by simp [rng1_nat (by omega : n ≤ 1000000)]) (by simp; omega) (fun x hx => ⟨_, rfl, by simp, fun _ => by simp⟩)
  have c' : fComp (iRng rng1 (aCons (e2 gIx (eV 1) (eC (.int 0))) (aNil))) [6] (gN 6) (eB (e2 (gInS true) (eV 6) (eV 2))) (eV 6) [some (.ref 0), some (dealsD n ds), some (lotD F), x3, x4, x5, none] (tkS0 n ds T0) = some ((boundL n F).map nD) := c
  obtain ⟨S', ew, T, rfl, ok, nx⟩ := whileS_inv (t := l2_Taking_init_s) (body := l2_Taking_init) (ρ := [some (.ref 0), some (dealsD n ds), some (lotD F), x3, x4, x5, none])
    (fun k S => ∃ T, S = tkS n ds (boundL n F) T ∧ TkOk n ds F T ∧ k = ds.length - T.length) (fun S => ∃ T, S = tkS n ds (boundL n F) T ∧ TkOk n ds F T ∧ ∀ p ∈ boundL n F, ¬ isNext ds T p) (by
      rintro k S ⟨T, rfl, ok, rfl⟩
      have tl := ok.len
      have mm : ∀ r S1, f_Taking_take_next [.ref 0] (tkS n ds (boundL n F) T) = some (.bl r, S1) → l2_Taking_init_s [some (.ref 0), some (dealsD n ds), some (lotD F), x3, x4, x5, none] (tkS n ds (boundL n F) T) = some (r, S1) := fun r S1 h => by
        unfold l2_Taking_init_s bS
        rw [mS_eq (o := .ref 0) (ds := []) rfl (o_tkS ..) noF_5 rfl, h]
        rfl
      rcases take_next_w (n := n) (B := boundL n F) (T := T) (by omega : ds.length ≤ 1000) (by omega) with ⟨h1, h2⟩ | ⟨p, hp, k, h1, h2, h3⟩
      · exact .inl ⟨_, mm _ _ h1, T, rfl, ok, h2⟩
      · have ok' := ok.more (mem_boundL.mp hp).2 h1 h2
        have tl' := ok'.len
        rw [List.length_append, List.length_singleton] at tl'
        exact .inr ⟨_, mm _ _ h3, rfl, _, (by rw [List.length_append, List.length_singleton]; omega : ds.length - (T ++ [(k, p)]).length < ds.length - T.length), _, rfl, ok', rfl⟩) ⟨T0, rfl, tb.tk, rfl⟩
  refine ⟨T, ok, nx, ?_⟩
  refine runS_big (ρ1 := [some (.ref 0), some (dealsD n ds), some (lotD F), x3, x4, x5, none]) ?_ (by simp [tkS]) ?_
  · show b_Taking_init [some (.ref 0), some (dealsD n ds), some (lotD F), none, none, none, none] [.ins "Taking" [] []] = _
    unfold b_Taking_init
    refine seq_nx (S1 := [.ins "Taking" ["deals"] [dealsD n ds]]) (ρ1 := [some (.ref 0), some (dealsD n ds), some (lotD F), none, none, none, none]) (by with_unfolding_all rfl) ?_
    refine seq_nx (S1 := [.ins "Taking" ["deals", "firsts"] [dealsD n ds, .ref 1], .dic false [] []]) (ρ1 := [some (.ref 0), some (dealsD n ds), some (lotD F), none, none, none, none]) (by with_unfolding_all rfl) ?_
    refine seq_nx (S1 := tkS0 n ds []) (ρ1 := [some (.ref 0), some (dealsD n ds), some (lotD F), none, none, none, none]) (by with_unfolding_all rfl) ?_
    refine seq_nx (S1 := tkS0 n ds T0) (ρ1 := [some (.ref 0), some (dealsD n ds), some (lotD F), x3, x4, x5, none]) ?_ ?_
    · rw [x_sFor]
      have q : (iEnumD (aCons (e2 gIx (eV 1) (eC (.int 1))) (aNil))) [some (.ref 0), some (dealsD n ds), some (lotD F), none, none, none, none] (tkS0 n ds []) = some (ds.zipIdx.map fun p => .tup [nD p.2, pairD p.1]) := by
        simp [enumD_map]
      rw [q]
      exact e
    refine seq_nx (S1 := tkS n ds (boundL n F) T0) (ρ1 := [some (.ref 0), some (dealsD n ds), some (lotD F), x3, x4, x5, none]) ?_ ew
    rw [x_sAttr, x_eF, c']
    with_unfolding_all rfl
  · show ([Cell.ins "Taking" tkF [dealsD n ds, .ref 1, .ref 2, .lst ((boundL n F).map nD)]].all (rbC 1)) = false
    have : rbC 1 (.ins "Taking" tkF [dealsD n ds, .ref 1, .ref 2, .lst ((boundL n F).map nD)]) = false := by
      show (rb 1 (dealsD n ds) && (rb 1 (.ref 1) && _)) = false
      have : rb 1 (.ref 1) = false := rfl
      rw [this]
      simp
    rw [List.all_cons, this]
    rfl
end
end DL

set_option maxHeartbeats 1000000
namespace DL
open PySem PySem.Spec L2
/-! ### what is not taken: two each -/
section
variable {n : Nat} {ds : List (Nat × Nat)} {F : List Nat} {T : Tk}
/-- a lot of deals in which nobody has just one -/
def Core (n : Nat) (ds : List (Nat × Nat)) (C : Nat → Prop) : Prop := ∀ p < n, ∀ k ∈ dof ds p, C k → ∃ j ∈ dof ds p, j ≠ k ∧ C j
theorem fst1_mem (T : Tk) {k : Nat} (h : k ∈ T.map (·.1)) : (k, fst1 T k) ∈ T := by
  induction T with
  | nil => simp at h
  | cons y T ih =>
    obtain ⟨a, b⟩ := y
    unfold fst1 at *
    simp only [List.map_cons, List.mem_cons, List.lookup_cons] at h ih ⊢
    cases e : (k == a) with
    | true =>
      have : k = a := by simpa using e
      subst this
      exact .inl rfl
    | false =>
      have : k ≠ a := by simpa using e
      exact .inr (ih (h.resolve_left this))
theorem left_two (W : DealsOk n ds) (h : TkOk n ds F T) (nx : ∀ p ∈ boundL n F, ¬ isNext ds T p) {p k : Nat} (hp : p < n) (hk : k ∈ leftL ds T p) : ∃ j ∈ leftL ds T p, j ≠ k := by
  obtain ⟨k1, k2⟩ := mem_leftL.mp hk
  have hpF : p ∉ F := fun hf => by
    obtain ⟨d, e, hd⟩ := mem_dof.mp k1
    exact k2 (h.free k d e (hd.elim (fun e => .inl (e ▸ hf)) fun e => .inr (e ▸ hf)))
  refine Classical.byContradiction fun c => ?_
  have all : ∀ j ∈ leftL ds T p, j = k := fun j hj => Classical.byContradiction fun z => c ⟨j, hj, z⟩
  have nd : (leftL ds T p).Nodup := (dof_pw ds p |>.filter _).imp fun {a b} z => Nat.ne_of_lt z
  have hl : leftL ds T p = [k] := by
    match hL : leftL ds T p with
    | [] => rw [hL] at hk; simp at hk
    | [a] => rw [hL] at all; rw [all a (by simp)]
    | a :: b :: r =>
      rw [hL] at all nd
      have e1 := all a (by simp)
      have e2 := all b (by simp)
      rw [e1, e2] at nd
      simp at nd
  refine nx p (mem_boundL.mpr ⟨hp, hpF⟩) ⟨by rw [hl]; rfl, fun z => ?_⟩
  unfold firstsL at z
  obtain ⟨j, hj, e⟩ := List.mem_map.mp z
  obtain ⟨j1, j2⟩ := List.mem_filter.mp hj
  have j2' : j ∈ T.map (·.1) := by simpa using j2
  have m := fst1_mem T j2'
  rw [e] at m
  obtain ⟨i, hi, ei⟩ := List.getElem_of_mem m
  have ne : k ≠ j := fun e => k2 (e ▸ j2')
  have := (h.frst i j p (by rw [List.getElem?_eq_getElem hi, ei]) hpF k k1 ne).1
  obtain ⟨y, hy, ey⟩ := List.mem_map.mp this
  exact k2 (List.mem_map.mpr ⟨y, List.mem_of_mem_take hy, ey⟩)
theorem core_left (W : DealsOk n ds) (h : TkOk n ds F T) (nx : ∀ p ∈ boundL n F, ¬ isNext ds T p) : Core n ds (fun k => k ∉ T.map (·.1)) := fun p hp k hk hC => by
  obtain ⟨j, hj, ne⟩ := left_two W h nx hp (mem_leftL.mpr ⟨hk, hC⟩)
  obtain ⟨j1, j2⟩ := mem_leftL.mp hj
  exact ⟨j, j1, ne, j2⟩
/-- nothing of a core is ever taken -/
def Apart (F : List Nat) (ds : List (Nat × Nat)) (C : Nat → Prop) : Prop := ∀ (k : Nat) (d : Nat × Nat), ds[k]? = some d → C k → d.1 ∉ F ∧ d.2 ∉ F
end
end DL

set_option maxHeartbeats 1000000
namespace DL
open PySem PySem.Spec L2
theorem intsD_nats : ∀ l : List Nat, intsD (l.map nD) = some (l.map fun k : Nat => (k : Int))
  | [] => rfl
  | a :: l => by
    have ih := intsD_nats l
    simp only [List.map_cons, nD, intsD] at ih ⊢
    simp [ih]
theorem idxI_nats (k : Nat) : ∀ (l : List Nat) (a : Nat), k ∈ l → ∃ j, idxI (k : Int) (l.map fun x : Nat => (x : Int)) a = some (a + j) ∧ (l.map fun x : Nat => (x : Int)).eraseIdx j = (l.erase k).map fun x : Nat => (x : Int)
  | [], _, h => by simp at h
  | x :: l, a, h => by
    by_cases e : x = k
    · subst e
      exact ⟨0, by simp [idxI], by simp⟩
    · have hk : k ∈ l := by
        rcases List.mem_cons.mp h with h | h
        · exact absurd h.symm e
        · exact h
      obtain ⟨j, h1, h2⟩ := idxI_nats k l (a + 1) hk
      have ne : ¬ ((x : Int) = (k : Int)) := by omega
      refine ⟨j + 1, ?_, ?_⟩
      · simp only [List.map_cons, idxI, ne, if_false]
        rw [h1]
        congr 1
        omega
      · rw [List.map_cons, List.eraseIdx_cons_succ, h2, List.erase_cons_tail (by simpa using e), List.map_cons]
theorem rem_nat {fo f : E} {ρ : Rho} {S : Sto} {n k : Nat} {l : List Nat} (h1 : fo ρ S = some (.ref n)) (h2 : f ρ S = some (.int (k : Nat))) (h3 : S[n]? = some (.lst (l.map nD))) (h4 : k ∈ l) : sRem fo f ρ S = some (.nx, ρ, S.set n (.lst ((l.erase k).map nD))) := by
  obtain ⟨j, e1, e2⟩ := idxI_nats k l 0 h4
  rw [Nat.zero_add] at e1
  unfold sRem
  rw [h1, h2]
  simp only [Option.bind_some, cellD, h3, rem2, intsD_nats, e1, Option.map_some, e2]
  rw [List.map_map]
  rfl
end DL

set_option maxHeartbeats 1000000
namespace DL
open PySem PySem.Spec L2
section
variable {n : Nat} {ds : List (Nat × Nat)} {F : List Nat}
/-- those of a lot that are a person's -/
def mineL (ds : List (Nat × Nat)) (L : List Nat) (p : Nat) : List Nat := L.filter fun k => decide (p = (ds.getD k (0, 0)).1) || decide (p = (ds.getD k (0, 0)).2)
def NoOne (n : Nat) (ds : List (Nat × Nat)) (L : List Nat) : Prop := ∀ p < n, (mineL ds L p).length ≠ 1
theorem getD_of {k : Nat} {d : Nat × Nat} (h : ds[k]? = some d) : ds.getD k (0, 0) = d := by
  rw [List.getD_eq_getElem?_getD, h]; rfl
theorem mem_mineL {L : List Nat} {p k : Nat} (hL : ∀ k ∈ L, k < ds.length) : k ∈ mineL ds L p ↔ k ∈ L ∧ k ∈ dof ds p := by
  unfold mineL
  rw [List.mem_filter, mem_dof]
  constructor
  · rintro ⟨h1, h2⟩
    have e : ds[k]? = some (ds[k]'(hL k h1)) := List.getElem?_eq_getElem _
    rw [getD_of e] at h2
    exact ⟨h1, _, e, by simpa using h2⟩
  · rintro ⟨h1, d, e, h2⟩
    rw [getD_of e]
    exact ⟨h1, by simpa using h2⟩
theorem noOne_core {L : List Nat} (nd : L.Nodup) (hL : ∀ k ∈ L, k < ds.length) (h : NoOne n ds L) : Core n ds (· ∈ L) := fun p hp k hk hkL => by
  have mk : k ∈ mineL ds L p := (mem_mineL hL).mpr ⟨hkL, hk⟩
  refine Classical.byContradiction fun c => h p hp ?_
  have all : ∀ j ∈ mineL ds L p, j = k := fun j hj => Classical.byContradiction fun z => by
    obtain ⟨j1, j2⟩ := (mem_mineL hL).mp hj
    exact c ⟨j, j2, z, j1⟩
  have nd' : (mineL ds L p).Nodup := nd.filter _
  match hM : mineL ds L p with
  | [] => rw [hM] at mk; simp at mk
  | [a] => rfl
  | a :: b :: r =>
    rw [hM] at all nd'
    have e1 := all a (by simp)
    have e2 := all b (by simp)
    rw [e1, e2] at nd'
    simp at nd'
/-- one person's turn -/
def goesE (n : Nat) (ds : List (Nat × Nat)) (F : List Nat) (x3 x4 x5 : Option D) : Rho := [some (dealsD n ds), some (lotD F), some (.ref 0), x3, x4, x5, none]
theorem core_stays {C : Nat → Prop} (hC : Core n ds C) {L : List Nat} (hL : ∀ k ∈ L, k < ds.length) (hs : ∀ k, C k → k < ds.length → k ∈ L) {p : Nat} (hp : p < n) (h1 : (mineL ds L p).length = 1) : ∀ k, C k → k < ds.length → k ∈ L.erase ((mineL ds L p).headD 0) := by
  intro k hk hkl
  obtain ⟨a, ha⟩ : ∃ a, mineL ds L p = [a] := by
    match hM : mineL ds L p, h1 with
    | [a], _ => exact ⟨a, rfl⟩
  rw [ha]
  have ne : k ≠ a := by
    rintro rfl
    have m : k ∈ mineL ds L p := by rw [ha]; simp
    obtain ⟨_, m2⟩ := (mem_mineL hL).mp m
    obtain ⟨j, j1, j2, j3⟩ := hC p hp k m2 hk
    have : j ∈ mineL ds L p := (mem_mineL hL).mpr ⟨hs j j3 (dof_ok ds p |>.2 j j1), j1⟩
    rw [ha] at this
    exact j2 (List.mem_singleton.mp this)
  exact (List.mem_erase_of_ne ne).mpr (hs k hk hkl)
/-- what every pass keeps -/
structure GoL (n : Nat) (ds : List (Nat × Nat)) (F : List Nat) (L : List Nat) : Prop where
  nd : L.Nodup
  ok : ∀ (k : Nat), k ∈ L → ∃ d, ds[k]? = some d ∧ d.1 ∉ F ∧ d.2 ∉ F
  core : ∀ C : Nat → Prop, Core n ds C → Apart F ds C → ∀ k, C k → k < ds.length → k ∈ L
theorem GoL.lt {L : List Nat} (h : GoL n ds F L) : ∀ k ∈ L, k < ds.length := fun k hk => by
  obtain ⟨d, e, _⟩ := h.ok k hk
  exact (List.getElem?_eq_some_iff.mp e).1
theorem GoL.len {L : List Nat} (h : GoL n ds F L) : L.length ≤ ds.length := by
  have := List.Nodup.length_le_of_subset (l₂ := List.range ds.length) h.nd fun x hx => List.mem_range.mpr (h.lt x hx)
  simpa using this
theorem TkOk.full {T : Tk} (h : TkOk n ds F T) (hT : T.length = ds.length) : ∀ k < ds.length, k ∈ T.map (·.1) := fun k hk => by
  refine Classical.byContradiction fun c => ?_
  have nd : (k :: T.map (·.1)).Nodup := List.nodup_cons.mpr ⟨c, h.nd⟩
  have := List.Nodup.length_le_of_subset (l₂ := List.range ds.length) nd fun x hx => by
    rcases List.mem_cons.mp hx with rfl | hx
    · exact List.mem_range.mpr hk
    · obtain ⟨y, hy, rfl⟩ := List.mem_map.mp hx
      obtain ⟨d, e, _⟩ := h.ok y hy
      exact List.mem_range.mpr (List.getElem?_eq_some_iff.mp e).1
  simp at this
  omega
/-- nothing is left, by either way -/
theorem goes_iff {T : Tk} (W : DealsOk n ds) (h : TkOk n ds F T) (nx : ∀ p ∈ boundL n F, ¬ isNext ds T p) {L : List Nat} (g : GoL n ds F L) (no : NoOne n ds L) : T.length = ds.length ↔ L.length = 0 := by
  have a : ∀ k, k ∉ T.map (·.1) → k < ds.length → k ∈ L := g.core _ (core_left W h nx) fun k d e hk => ⟨fun z => hk (h.free k d e (.inl z)), fun z => hk (h.free k d e (.inr z))⟩
  have cL := noOne_core g.nd g.lt no
  have b : ∀ (i k p : Nat), T[i]? = some (k, p) → k ∉ L := by
    intro i
    induction i using Nat.strongRecOn with
    | ind i ih =>
      intro k p e hk
      obtain ⟨d, ed, hd⟩ := h.ok _ (List.mem_of_getElem? e)
      obtain ⟨d', ed', f1, f2⟩ := g.ok k hk
      have ed2 : ds[k]? = some d := ed
      rw [ed2] at ed'
      cases ed'
      have hd' : p = d.1 ∨ p = d.2 := hd
      have hpF : p ∉ F := by
        rcases hd' with rfl | rfl
        · exact f1
        · exact f2
      have ok := W.ok d (List.mem_of_getElem? ed2)
      have hpn : p < n := by
        rcases hd' with rfl | rfl
        · exact ok.1
        · exact ok.2.1
      obtain ⟨j, j1, j2, j3⟩ := cL p hpn k (mem_dof.mpr ⟨d, ed2, hd'⟩) hk
      obtain ⟨y, hy, ey⟩ := List.mem_map.mp (h.frst i k p e hpF j j1 j2).1
      obtain ⟨m, hm, em⟩ := List.getElem_of_mem hy
      rw [List.length_take] at hm
      rw [List.getElem_take] at em
      refine ih m (by omega) y.1 y.2 (by rw [List.getElem?_eq_getElem (by omega), em]) ?_
      rw [ey]
      exact j3
  constructor
  · intro hT
    refine Classical.byContradiction fun c => ?_
    obtain ⟨k, hk⟩ := List.exists_mem_of_length_pos (by omega : 0 < L.length)
    have sub := h.full hT
    obtain ⟨y, hy, ey⟩ := List.mem_map.mp (sub k (g.lt k hk))
    obtain ⟨i, hi, ei⟩ := List.getElem_of_mem hy
    refine b i y.1 y.2 (by rw [List.getElem?_eq_getElem hi, ei]) ?_
    rw [ey]; exact hk
  · intro hL
    have e : L = [] := List.eq_nil_of_length_eq_zero hL
    subst e
    have := List.Nodup.length_le_of_subset (l₁ := List.range ds.length) (l₂ := T.map (·.1)) List.nodup_range fun x hx => Classical.byContradiction fun c => by
      have := a x c (List.mem_range.mp hx)
      simp at this
    simp at this
    have := h.len
    omega
end
end DL

set_option maxHeartbeats 1000000
namespace DL
open PySem PySem.Spec L2
/-! ### rounds, judged -/
def srt2 (a b : Nat) : List D := sortD [.int (a : Nat), .int (b : Nat)]
theorem srt2_nat (a b : Nat) : ∃ G : List Nat, srt2 a b = G.map nD := by
  obtain ⟨G, _, e⟩ := perm_sorted nD [a, b]
  exact ⟨G, e⟩
@[simp] theorem srt2_ok (n a b : Nat) : okDs n (srt2 a b) = true := by
  obtain ⟨G, e⟩ := srt2_nat a b
  rw [e]; simp
theorem srt2_swap (a b : Nat) : srt2 a b = srt2 b a :=
  sortD_uniq (gdS_nats [b, a]) ((sortD_perm _).trans (List.Perm.swap _ _ _)) (sortD_pw _)
theorem k_srtP (S : Sto) (d : Nat × Nat) : cSorted S [pairD d] = some (srt2 d.1 d.2) := k_sortPair S d
theorem k_srtL (S : Sto) (a b : Nat) : cSorted S [.lst [.int (a : Nat), .int (b : Nat)]] = some (srt2 a b) := k_sorted rfl (gdS_nats [a, b])
theorem y_eqSrt (S : Sto) (a b c d : Nat) : gEq S (.lst (srt2 a b)) (.lst (srt2 c d)) = some (.bl (eqDs (srt2 a b) (srt2 c d))) := by
  rw [y_eq (by rw [ok_lst]; simp) (by rw [ok_lst]; simp)]
  rfl
theorem y_neSrt (S : Sto) (a b c d : Nat) : gNe S (.lst (srt2 a b)) (.lst (srt2 c d)) = some (.bl (!eqDs (srt2 a b) (srt2 c d))) := by
  rw [y_ne (by rw [ok_lst]; simp) (by rw [ok_lst]; simp)]
  rfl
def con (ds : List (Nat × Nat)) (P N : List Nat) (i : Nat) : Bool := eqDs (srt2 (ds.getD (prv N i) (0, 0)).1 (ds.getD (prv N i) (0, 0)).2) (srt2 (prv P i) (P.getD i 0))
theorem con_of {ds : List (Nat × Nat)} {P N : List Nat} {i : Nat} {d : Nat × Nat} (h : ds.getD (prv N i) (0, 0) = d) (h2 : (d.1 = prv P i ∧ d.2 = P.getD i 0) ∨ (d.2 = prv P i ∧ d.1 = P.getD i 0)) : con ds P N i = true := by
  unfold con
  rw [h]
  have : srt2 d.1 d.2 = srt2 (prv P i) (P.getD i 0) := by
    rcases h2 with ⟨a, b⟩ | ⟨a, b⟩
    · rw [a, b]
    · rw [srt2_swap, a, b]
  rw [this]
  exact eqDs_self 0 _ (srt2_ok 0 _ _)
theorem nodupI_nats : ∀ l : List Nat, l.Nodup → nodupI (l.map fun k : Nat => (k : Int)) = true := by
  intro l h
  induction l with
  | nil => rfl
  | cons a l ih =>
    rw [List.nodup_cons] at h
    have : (l.map fun k : Nat => (k : Int)).contains (a : Int) = false := by
      rw [Bool.eq_false_iff]
      intro z
      rw [List.contains_iff_mem] at z
      obtain ⟨b, hb, e⟩ := List.mem_map.mp z
      have : b = a := by omega
      subst this
      exact h.1 hb
    rw [List.map_cons, nodupI, this, ih h.2]
    rfl
theorem len_set (S : Sto) {l : List Nat} (h : l.Nodup) (hl : l.length ≤ 1000) : cLenSet S (.lst (l.map nD)) = some (.int (l.length : Nat)) := by
  have h1 : l.length ≤ 4000 := by omega
  simp only [cLenSet, ql_lst, Option.bind_some, intsD_nats, nodupI_nats l h, List.length_map, h1, decide_true, Bool.and_self, if_true]
section
variable {n : Nat} {ds : List (Nat × Nat)} {F : List Nat} {R : List (Nat × Nat)}
def rndD (R : List (Nat × Nat)) : D := .tup (R.map pairD)
@[simp] theorem q_rndD (S : Sto) (R : List (Nat × Nat)) : seqD S (rndD R) = some (R.map pairD) := (rfl)
@[simp] theorem nr_rndD (R : List (Nat × Nat)) : nr (rndD R) = true := by simp [rndD]
@[simp] theorem isi_rnd (S : Sto) (R : List (Nat × Nat)) : cIsi S [rndD R, .ty "tuple"] = some (.bl true) := (rfl)
theorem tup_pair (x : Nat × Nat) : f_is_tuple_of [pairD x, .int 2] = some (.bl true) := is_tuple_of_t _ _
structure RndIn (n : Nat) (ds : List (Nat × Nat)) (F : List Nat) (R : List (Nat × Nat)) : Prop where
  rg : ∀ x ∈ R, x.1 < n ∧ x.2 < ds.length
  len : R.length ≤ 100
  nd1 : (R.map (·.1)).Nodup
  nd2 : (R.map (·.2)).Nodup
  fr : ∀ x ∈ R, x.1 ∉ F
def conAll (ds : List (Nat × Nat)) (R : List (Nat × Nat)) : Bool := (List.range R.length).all fun i => con ds (R.map (·.1)) (R.map (·.2)) i
theorem rnd_short (h : R.length < 2) : f_is_round_of [dealsD n ds, lotD F, rndD R] = some (.bl false) := by
  have h1 : (R.length : Int) < 2 := by omega
  simp [f_is_round_of, b_is_round_of, run_eq, startR, h1]
theorem all_true {α : Type} (S : Sto) (l : List α) : cAll S [.lst (l.map fun _ => D.bl true)] = some (.bl true) := by
  rw [k_allM (fun _ => true)]; simp
theorem is_round_w (W : DealsOk n ds) (h2 : 2 ≤ R.length) (h : RndIn n ds F R) : f_is_round_of [dealsD n ds, lotD F, rndD R] = some (.bl (conAll ds R)) := by
  have hr := W.r10
  have hl := h.len
  have l0 : ¬ ((R.length : Int) < 2) := by omega
  have hl6 : R.length ≤ 1000000 := by omega
  let ρ0 : Rho := [some (dealsD n ds), some (lotD F), some (rndD R), none, none, none, none, none]
  let ρ1 : Rho := [some (dealsD n ds), some (lotD F), some (rndD R), some (.lst ((R.map (·.1)).map nD)), some (.lst ((R.map (·.2)).map nD)), none, none, none]
  have c1 := fcomp_all (f := jSeqD (eV 2)) (vs := [5]) (g := gN 5) (e := eFn f_is_tuple_of (aCons (eV 5) (aCons (eC (.int 2)) (aNil)))) (ρ := ρ0) (S := []) pairD R (fun _ => .bl true) (by simp [ρ0]) hl6 (fun x hx => ⟨_, rfl, by simp [ρ0, tup_pair]⟩)
  have c2 := fcomp_all (f := jSeqD (eV 2)) (vs := [5]) (g := gN 5) (e := eAnd (eFn f_is_under (aCons (e2 gIx (eV 5) (eC (.int 0))) (aCons (e2 gIx (eV 0) (eC (.int 0))) (aNil)))) (eFn f_is_under (aCons (e2 gIx (eV 5) (eC (.int 1))) (aCons (eCall cLen (aCons (e2 gIx (eV 0) (eC (.int 1))) (aNil))) (aNil))))) (ρ := ρ0) (S := []) pairD R (fun _ => .bl true) (by simp [ρ0]) hl6 (fun x hx => ⟨_, rfl, by
    obtain ⟨a, b⟩ := h.rg x hx
    have a' : (x.1 : Int) < n := by omega
    have b' : (x.2 : Int) < ds.length := by omega
    simp [ρ0, is_under_i, a, b, a', b']⟩)
  have c3 := fcomp_all (f := jSeqD (eV 2)) (vs := [5]) (g := gN 5) (e := e2 gIx (eV 5) (eC (.int 0))) (ρ := ρ0) (S := []) pairD R (fun x => nD x.1) (by simp [ρ0]) hl6 (fun x hx => ⟨_, rfl, by simp [ρ0]⟩)
  have c4 := fcomp_all (f := jSeqD (eV 2)) (vs := [5]) (g := gN 5) (e := e2 gIx (eV 5) (eC (.int 1))) (ρ := ρ0) (S := []) pairD R (fun x => nD x.2) (by simp [ρ0]) hl6 (fun x hx => ⟨_, rfl, by simp [ρ0]⟩)
  have c5 := fcomp_all (f := jSeqD (eV 3)) (vs := [6]) (g := gN 6) (e := e2 (gInS false) (eV 6) (eV 1)) (ρ := ρ1) (S := []) nD (R.map (·.1)) (fun x => .bl (decide (x ∈ F))) (by simp [ρ1]) (by simpa using hl6) (fun x hx => ⟨_, rfl, by simp [ρ1]⟩)
  have c6 := fcomp_all (f := iRng rng1 (aCons (eCall cLen (aCons (eV 2) (aNil))) (aNil))) (vs := [7]) (g := gN 7) (e := e2 gEq (eF (fCall cSorted (aCons (e2 gIx (e2 gIx (eV 0) (eC (.int 1))) (e2 gIx (eV 4) (e2 gSub (eV 7) (eC (.int 1))))) (aNil)))) (eF (fCall cSorted (aCons (eF (fLst (aCons (e2 gIx (eV 3) (e2 gSub (eV 7) (eC (.int 1)))) (aCons (e2 gIx (eV 3) (eV 7)) (aNil))))) (aNil))))) (ρ := ρ1) (S := []) nD (List.range R.length) (fun i => .bl (con ds (R.map (·.1)) (R.map (·.2)) i)) (by simp [ρ1, rng1_nat hl6]) (by simpa using hl6) (fun i hi => ⟨_, rfl, by
    have hi' : i < R.length := List.mem_range.mp hi
    have i1 : i < (R.map (·.1)).length := by simpa using hi'
    have i2 : i < (R.map (·.2)).length := by simpa using hi'
    have p1 := prv_at i1
    have p2 := prv_at i2
    have p3 := atI_nD i1
    have pm := prv_mem i2
    obtain ⟨x, hx, ex⟩ := List.mem_map.mp pm
    have lt := (h.rg x hx).2
    rw [ex] at lt
    have q : atI (ds.map pairD) ((prv (R.map (·.2)) i : Nat) : Int) = some (pairD (ds.getD (prv (R.map (·.2)) i) (0, 0))) := by
      rw [atI_map, List.getD_eq_getElem?_getD, List.getElem?_eq_getElem lt]; rfl
    have g : (R.map (·.1)).getD i 0 = (R.map (·.1))[i] := by rw [List.getD_eq_getElem?_getD, List.getElem?_eq_getElem i1]; rfl
    have w0 : ∀ S, seqD S (dealsD n ds) = some [.int n, .tup (ds.map pairD)] := fun S => rfl
    simp only [ρ1, x_e2, x_eF, x_fCall, x_aCons, x_aNil, x_fLst, x_eV, x_eC, List.set, x_wipe1, x_wipe0, List.getElem?_cons_succ, List.getElem?_cons_zero, Option.bind_some, id, Option.map_some, y_ix, w0, atI_1, q_tup, q_lst, y_sub, p1, p2, p3, q, k_srtP, mkL_2, k_srtL, y_eqSrt, nD]
    unfold con
    rw [g]⟩)
  refine ret_run ?_
  unfold b_is_round_of
  have a1 := all_true [] R
  refine ret_if0 (by
    have : startR 8 [dealsD n ds, lotD F, rndD R] = ρ0 := rfl
    rw [this]
    simp only [x_bOr, x_bNot, x_eTru, x_eCall, x_aCons, x_eF, x_aNil, c1]
    simp [ρ0, l0, a1, -List.map_const']) ?_
  refine ret_if0 (by
    have : startR 8 [dealsD n ds, lotD F, rndD R] = ρ0 := rfl
    rw [this]
    rw [x_bNot, x_eTru, x_eCall, x_aCons, x_eF, c2]
    simp [a1, -List.map_const']) ?_
  have m1 : R.map (fun x => nD x.1) = (R.map (·.1)).map nD := by rw [List.map_map]; rfl
  have m2 : R.map (fun x => nD x.2) = (R.map (·.2)).map nD := by rw [List.map_map]; rfl
  rw [m1] at c3
  rw [m2] at c4
  refine ret_seq (ρ1 := ρ1) (S1 := []) (by
    have : startR 8 [dealsD n ds, lotD F, rndD R] = ρ0 := rfl
    simp only [this, x_sAsg, x_eTup, x_aCons, x_eF, x_aNil, c3, c4]
    rfl) ?_
  have e1 := len_set [] h.nd1 (by simpa using (by omega : R.length ≤ 1000))
  have e2 := len_set [] h.nd2 (by simpa using (by omega : R.length ≤ 1000))
  refine ret_if0 (by
    show (bOr _ _) ρ1 [] = _
    simp only [ρ1, x_bOr, x_eB, DL.x_e2, x_e1, x_eCall, x_aCons, x_aNil, x_eV, List.getElem?_cons_succ, List.getElem?_cons_zero, Option.bind_some, id, Option.map_some, e1, e2, k_len, q_lst, y_neI, List.length_map]
    simp) ?_
  refine ret_if0 (by
    show (eTru _) ρ1 [] = _
    rw [x_eTru, x_eCall, x_aCons, x_eF, c5]
    have an : cAny [] [.lst ((R.map (·.1)).map fun x => D.bl (decide (x ∈ F)))] = some (.bl false) := by
      rw [k_anyM]
      congr 2
      refine List.any_eq_false.mpr fun x hx => ?_
      obtain ⟨y, hy, rfl⟩ := List.mem_map.mp hx
      simpa using h.fr y hy
    simp only [Option.map_some, Option.bind_some, x_aNil, an]
    rfl) ?_
  refine ret_ret (x := .bl (conAll ds R)) ?_ rfl
  show (eCall _ _) ρ1 [] = _
  rw [x_eCall, x_aCons, x_eF, c6]
  simp only [Option.map_some, Option.bind_some, x_aNil, k_allM]
  rfl
theorem law_rnd_short (h : R.length < 2) : f_law_is_round [dealsD n ds, lotD F, rndD R] = some (.bl false) := by
  have h1 : (R.length : Int) < 2 := by omega
  simp [f_law_is_round, b_law_is_round, run_eq, startR, h1]
end
end DL

set_option maxHeartbeats 1000000
namespace DL
open PySem PySem.Spec L2
section
variable {n : Nat} {ds : List (Nat × Nat)} {F : List Nat} {R : List (Nat × Nat)}
theorem not_in_take {l : List Nat} (nd : l.Nodup) {k : Nat} (h : k < l.length) : l[k] ∉ l.take k := by
  intro z
  obtain ⟨i, hi, e⟩ := List.getElem_of_mem z
  rw [List.length_take] at hi
  rw [List.getElem_take] at e
  have := List.pairwise_iff_getElem.mp nd i k (by omega) h (by omega)
  exact this e
theorem in_take (S : Sto) (neg : Bool) (l : List Nat) (k x : Nat) : gInS neg S (.int (x : Nat)) (.lst (cutD (l.map nD) none (some (k : Int)))) = some (.bl (if neg then !decide (x ∈ l.take k) else decide (x ∈ l.take k))) := by
  rw [cut_take, ← List.map_take, y_inL]
theorem law_is_round_w (h2 : 2 ≤ R.length) (h : RndIn n ds F R) : f_law_is_round [dealsD n ds, lotD F, rndD R] = some (.bl (conAll ds R)) := by
  have hl := h.len
  have l0 : ¬ ((R.length : Int) < 2) := by omega
  have hl6 : R.length ≤ 1000000 := by omega
  let ρ0 : Rho := [some (dealsD n ds), some (lotD F), some (rndD R), none, none, none, none, none]
  let ρ1 : Rho := [some (dealsD n ds), some (lotD F), some (rndD R), some (.lst ((R.map (·.1)).map nD)), some (.lst ((R.map (·.2)).map nD)), none, none, none]
  have m1 : R.map (fun x => nD x.1) = (R.map (·.1)).map nD := by rw [List.map_map]; rfl
  have m2 : R.map (fun x => nD x.2) = (R.map (·.2)).map nD := by rw [List.map_map]; rfl
  have c3 := fcomp_all (f := jSeqD (eV 2)) (vs := [6]) (g := gN 6) (e := e2 gIx (eV 6) (eC (.int 0))) (ρ := ρ0) (S := []) pairD R (fun x => nD x.1) (by simp [ρ0]) hl6 (fun x hx => ⟨_, rfl, by simp [ρ0]⟩)
  have c4 := fcomp_all (f := jSeqD (eV 2)) (vs := [6]) (g := gN 6) (e := e2 gIx (eV 6) (eC (.int 1))) (ρ := ρ0.set 3 (some (.lst ((R.map (·.1)).map nD)))) (S := []) pairD R (fun x => nD x.2) (by simp [ρ0]) hl6 (fun x hx => ⟨_, rfl, by simp [ρ0]⟩)
  rw [m1] at c3
  rw [m2] at c4
  have c5 := fcomp_all (f := iRng rng1 (aCons (eCall cLen (aCons (eV 3) (aNil))) (aNil))) (vs := [5]) (g := gN 5) (e := e2 (gInS false) (e2 gIx (eV 3) (eV 5)) (eCutA (eV 3) (oNone) (oSome (eV 5)))) (ρ := ρ1) (S := []) nD (List.range R.length) (fun _ => .bl false) (by simp [ρ1, rng1_nat hl6]) (by simpa using hl6) (fun i hi => ⟨_, rfl, by
    have i1 : i < (R.map (·.1)).length := by simpa using List.mem_range.mp hi
    have p3 := atI_nD i1
    have nt := not_in_take h.nd1 i1
    simp only [ρ1, x_e2, x_eV, x_eCutA, x_oNone, x_oSome, List.set, x_wipe1, x_wipe0, List.getElem?_cons_succ, List.getElem?_cons_zero, Option.bind_some, id, y_ix, q_lst, p3, asI_int, cut3_lst, in_take, nD, decide_eq_false nt]
    rfl⟩)
  have c6 := fcomp_all (f := jSeqD (eV 3)) (vs := [7]) (g := gN 7) (e := e2 (gInS false) (eV 7) (eV 1)) (ρ := ρ1) (S := []) nD (R.map (·.1)) (fun x => .bl (decide (x ∈ F))) (by simp [ρ1]) (by simpa using hl6) (fun x hx => ⟨_, rfl, by simp [ρ1]⟩)
  have an1 : cAny [] [.lst ((List.range R.length).map fun _ => D.bl false)] = some (.bl false) := by
    rw [k_anyM (fun _ => false)]; simp
  have an2 : cAny [] [.lst ((R.map (·.1)).map fun x => D.bl (decide (x ∈ F)))] = some (.bl false) := by
    rw [k_anyM]
    congr 2
    refine List.any_eq_false.mpr fun x hx => ?_
    obtain ⟨y, hy, rfl⟩ := List.mem_map.mp hx
    simpa using h.fr y hy
  have body : ∀ (i : Nat) (hi : i < R.length) (x5 : Option D), l1_law_is_round (ρ1.set 5 (some (.int (i : Nat)))) [] = some (if con ds (R.map (·.1)) (R.map (·.2)) i then (.nx, ρ1.set 5 (some (.int (i : Nat))), []) else (.rt (.bl false), ρ1.set 5 (some (.int (i : Nat))), [])) := fun i hi x5 => by
    have i1 : i < (R.map (·.1)).length := by simpa using hi
    have i2 : i < (R.map (·.2)).length := by simpa using hi
    have p1 := prv_at i1
    have p2 := prv_at i2
    have p3 := atI_nD i1
    have p4 := atI_nD i2
    have nt := not_in_take h.nd2 i2
    have pm := prv_mem i2
    obtain ⟨x, hx, ex⟩ := List.mem_map.mp pm
    have lt := (h.rg x hx).2
    rw [ex] at lt
    have q : atI (ds.map pairD) ((prv (R.map (·.2)) i : Nat) : Int) = some (pairD (ds.getD (prv (R.map (·.2)) i) (0, 0))) := by
      rw [atI_map, List.getD_eq_getElem?_getD, List.getElem?_eq_getElem lt]; rfl
    have g : (R.map (·.1)).getD i 0 = (R.map (·.1))[i] := by rw [List.getD_eq_getElem?_getD, List.getElem?_eq_getElem i1]; rfl
    have w0 : ∀ S, seqD S (dealsD n ds) = some [.int n, .tup (ds.map pairD)] := fun S => rfl
    unfold l1_law_is_round
    refine seq_nx (if_f (by
      simp only [ρ1, x_eB, x_e2, x_eV, x_eCutA, x_oNone, x_oSome, List.set, List.getElem?_cons_succ, List.getElem?_cons_zero, Option.bind_some, id, y_ix, q_lst, p4, asI_int, cut3_lst, in_take, decide_eq_false nt]
      rfl) rfl) ?_
    have t : (eB (e2 gNe (eF (fCall cSorted (aCons (e2 gIx (e2 gIx (eV 0) (eC (.int 1))) (e2 gIx (eV 4) (e2 gSub (eV 5) (eC (.int 1))))) (aNil)))) (eF (fCall cSorted (aCons (eF (fLst (aCons (e2 gIx (eV 3) (e2 gSub (eV 5) (eC (.int 1)))) (aCons (e2 gIx (eV 3) (eV 5)) (aNil))))) (aNil)))))) (ρ1.set 5 (some (.int (i : Nat)))) [] = some (!con ds (R.map (·.1)) (R.map (·.2)) i) := by
      simp only [ρ1, x_eB, x_e2, x_eF, x_fCall, x_aCons, x_aNil, x_fLst, x_eV, x_eC, List.set, List.getElem?_cons_succ, List.getElem?_cons_zero, Option.bind_some, id, Option.map_some, y_ix, w0, atI_1, q_tup, q_lst, y_sub, p1, p2, p3, q, k_srtP, mkL_2, k_srtL, y_neSrt]
      unfold con
      rw [g]
      rfl
    cases hc : con ds (R.map (·.1)) (R.map (·.2)) i with
    | true =>
      rw [hc] at t
      exact if_f t rfl
    | false =>
      rw [hc] at t
      exact if_t t rfl
  have loop : ∃ fl x5, loopL (gN 5) l1_law_is_round ((List.range R.length).map nD) ρ1 [] = some (fl, ρ1.set 5 x5, []) ∧ ((fl = .nx ∧ conAll ds R = true) ∨ (fl = .rt (.bl false) ∧ conAll ds R = false)) := by
    rcases loop_ret (g := gN 5) (body := l1_law_is_round) (ds := (List.range R.length).map nD) (ρ := ρ1) (S := [])
      (fun i ρ S => ∃ x5, ρ = ρ1.set 5 x5 ∧ S = [] ∧ ∀ j < i, con ds (R.map (·.1)) (R.map (·.2)) j = true)
      (fun i fl ρ S => ∃ x5, ρ = ρ1.set 5 x5 ∧ S = [] ∧ i < R.length ∧ fl = .rt (.bl false) ∧ con ds (R.map (·.1)) (R.map (·.2)) i = false) ⟨none, rfl, rfl, fun j h => by omega⟩ (by
        rintro i d ρ S hi ⟨x5, rfl, rfl, inv⟩
        obtain ⟨hlt, rfl⟩ := nth_range hi
        have b := body i hlt x5
        cases hc : con ds (R.map (·.1)) (R.map (·.2)) i with
        | true =>
          rw [hc, if_pos rfl] at b
          refine ⟨_, _, _, .nx, rfl, b, .inl ⟨.inl rfl, _, rfl, rfl, fun j hj => ?_⟩⟩
          by_cases e : j = i
          · subst e; exact hc
          · exact inv j (by omega)
        | false =>
          rw [hc, if_neg (by decide)] at b
          exact ⟨_, _, _, _, rfl, b, .inr (.inl ⟨⟨_, rfl⟩, _, rfl, rfl, hlt, rfl, rfl⟩)⟩) with ⟨ρ', S', e, x5, rfl, rfl, inv⟩ | ⟨i, fl, ρ', S', hi, e, x5, rfl, rfl, hlt, rfl, hc⟩
    · refine ⟨.nx, x5, e, .inl ⟨rfl, List.all_eq_true.mpr fun i hi => inv i ?_⟩⟩
      simpa using hi
    · refine ⟨_, x5, e, .inr ⟨rfl, ?_⟩⟩
      refine Bool.eq_false_iff.mpr fun z => ?_
      have := List.all_eq_true.mp z i (List.mem_range.mpr hlt)
      rw [hc] at this
      cases this
  obtain ⟨fl, x5, el, hfl⟩ := loop
  refine ret_run ?_
  unfold b_law_is_round
  refine ret_if0 (by simp [startR, l0]) ?_
  refine ret_set (x := .lst ((R.map (·.1)).map nD)) (by
    have : startR 8 [dealsD n ds, lotD F, rndD R] = ρ0 := rfl
    rw [this, x_eF, c3]; rfl) ?_
  refine ret_set (x := .lst ((R.map (·.2)).map nD)) (by
    have : (startR 8 [dealsD n ds, lotD F, rndD R]).set 3 (some (.lst ((R.map (·.1)).map nD))) = ρ0.set 3 (some (.lst ((R.map (·.1)).map nD))) := rfl
    rw [this, x_eF, c4]; rfl) ?_
  show Ret _ ρ1 [] _
  refine ret_if0 (by
    simp only [x_bOr, x_eTru, x_eCall, x_aCons, x_eF, x_aNil, c5, c6, Option.map_some, Option.bind_some, an1, an2]
    rfl) ?_
  have q : (iRng rng1 (aCons (eCall cLen (aCons (eV 2) (aNil))) (aNil))) ρ1 [] = some ((List.range R.length).map nD) := by simp [ρ1, rng1_nat hl6]
  rcases hfl with ⟨rfl, hc⟩ | ⟨rfl, hc⟩
  · rw [hc]
    refine ret_seq (ρ1 := ρ1.set 5 x5) (S1 := []) (by rw [x_sFor, q]; exact el) ?_
    exact ret_ret rfl rfl
  · rw [hc]
    exact ret_rt (ρ1 := ρ1.set 5 x5) (S1 := []) (x := .bl false) (by rw [x_sFor, q]; exact el) rfl
end
end DL

set_option maxHeartbeats 1000000
namespace DL
open PySem PySem.Spec L2
theorem idxD_natA (p : Nat) : ∀ (N : List Nat) (a : Nat), p ∈ N → idxD (.int p) (N.map nD) a = some (a + N.idxOf p)
  | [], _, h => by simp at h
  | x :: N, a, h => by
    have st : idxD (.int (p : Nat)) ((x :: N).map nD) a = if eqD (.int (x : Nat)) (.int (p : Nat)) then some a else idxD (.int (p : Nat)) (N.map nD) (a + 1) := rfl
    rw [st, eqD_nat]
    by_cases e : x = p
    · subst e
      simp [List.idxOf_cons]
    · have hp : p ∈ N := by
        rcases List.mem_cons.mp h with h | h
        · exact absurd h.symm e
        · exact h
      have hb : (x == p) = false := by simpa using e
      rw [decide_eq_false e, if_neg (by decide), idxD_natA p N (a + 1) hp, List.idxOf_cons, hb]
      simp only [cond_false]
      congr 1
      omega
/-! ### the walk to a round -/
def othP (d : Nat × Nat) (p : Nat) : Nat := if p = d.1 then d.2 else d.1
section
variable {n : Nat} {ds : List (Nat × Nat)} {F : List Nat} {T : Tk} {B : List Nat}
theorem othP_in {d : Nat × Nat} {p : Nat} (h : p = d.1 ∨ p = d.2) : (p = d.1 ∧ othP d p = d.2) ∨ (p = d.2 ∧ othP d p = d.1) := by
  unfold othP
  by_cases e : p = d.1
  · rw [if_pos e]; exact .inl ⟨e, rfl⟩
  · rw [if_neg e]; exact .inr ⟨h.resolve_left e, rfl⟩
theorem other_of_w {k : Nat} {d : Nat × Nat} (h : ds[k]? = some d) (p : Nat) : f_other_of [dealsD n ds, .int (k : Nat), .int (p : Nat)] = some (.int (othP d p : Nat)) := by
  have q : atI (ds.map pairD) (k : Int) = some (.tup [.int (d.1 : Nat), .int (d.2 : Nat)]) := by rw [atI_map, h]; rfl
  unfold othP
  by_cases e : p = d.1
  · subst e
    simp [f_other_of, b_other_of, run_eq, startR, q]
  · have e' : ¬ ((p : Int) = d.1) := by omega
    simp [f_other_of, b_other_of, run_eq, startR, q, e, e']
/-- the walk, so far -/
structure Walk (n : Nat) (ds : List (Nat × Nat)) (T : Tk) (W : List (Nat × Nat)) (came : Option Nat) (here : Nat) : Prop where
  nd : (W.map (·.1)).Nodup
  lt : ∀ x ∈ W, x.1 < n
  lf : ∀ x ∈ W, x.2 ∈ leftL ds T x.1
  ch : ∀ (i p k q l : Nat), W[i]? = some (p, k) → W[i + 1]? = some (q, l) → q = othP (ds.getD k (0, 0)) p ∧ l ≠ k
  ls : ∀ p k, W.getLast? = some (p, k) → here = othP (ds.getD k (0, 0)) p ∧ came = some k
  no : W = [] → came = none
  hn : here < n
  hl : ∃ k, k ∈ leftL ds T here
def cameD : Option Nat → D
  | none => .non
  | some k => .int (k : Nat)
theorem ne_came (S : Sto) (k : Nat) (c : Option Nat) : gNe S (.int (k : Nat)) (cameD c) = some (.bl (!decide (c = some k))) := by
  cases c with
  | none =>
    show gNe S (.int (k : Nat)) .non = _
    rw [y_ne (by simp) (by simp)]
    simp [eqD]
  | some j =>
    show gNe S (.int (k : Nat)) (.int (j : Nat)) = _
    rw [y_neI]
    by_cases h : k = j
    · subst h; simp
    · have h1 : ¬ ((k : Int) = j) := by omega
      have h2 : ¬ (j = k) := fun e => h e.symm
      simp [h1, h, h2]
def walkE (n : Nat) (ds : List (Nat × Nat)) (B : List Nat) (T : Tk) (here : Nat) (came : Option Nat) (x4 : Option D) : Rho := [some (tkD n ds B T), some (.int (here : Nat)), some (.ref 0), some (cameD came), x4, none, none, none, none]
theorem persons_w {ρ : Rho} {S : Sto} {W : List (Nat × Nat)} (h : (jSeqD (eV 2)) ρ S = some (W.map pairD)) (hl : W.length ≤ 1000) (h6 : ρ.length = 9) : fComp (jSeqD (eV 2)) [6, 7] (gT 2 (gCons (gN 6) (gCons (gN 7) (gNil)))) (bYes) (eV 6) ρ S = some ((W.map (·.1)).map nD) := by
  have := fcomp_all (f := jSeqD (eV 2)) (vs := [6, 7]) (g := gT 2 (gCons (gN 6) (gCons (gN 7) (gNil)))) (e := eV 6) (ρ := ρ) (S := S) pairD W (fun x => nD x.1) h (by omega) (fun x hx => ⟨_, rfl, by
    have l1 : 6 < (((((ρ.set 7 none).set 6 none).set 6 (some (nD x.1))).set 7 (some (nD x.2)))).length := by simp [h6]
    simp [h6]⟩)
  rw [this, List.map_map]
  rfl
theorem maxI_mem : ∀ {l : List Int}, l ≠ [] → ∃ m, maxI l = some m ∧ m ∈ l := by
  intro l h
  cases l with
  | nil => exact absurd rfl h
  | cons a l =>
    have main : ∀ (l : List Int) (a : Int), ∃ m, l.foldl (fun m y => if y > m then y else m) a = m ∧ (m = a ∨ m ∈ l) := by
      intro l
      induction l with
      | nil => intro a; exact ⟨a, rfl, .inl rfl⟩
      | cons b l ih =>
        intro a
        obtain ⟨m, e, h⟩ := ih (if b > a then b else a)
        refine ⟨m, e, ?_⟩
        rcases h with h | h
        · by_cases c : b > a
          · rw [if_pos c] at h; exact .inr (by rw [h]; simp)
          · rw [if_neg c] at h; exact .inl h
        · exact .inr (List.mem_cons_of_mem _ h)
    obtain ⟨m, e, h⟩ := main l a
    refine ⟨m, ?_, ?_⟩
    · rw [← e]; rfl
    · rcases h with h | h
      · rw [h]; simp
      · exact List.mem_cons_of_mem _ h
theorem min_mem (S : Sto) {l : List Nat} (h : l ≠ []) : ∃ m, cMin S [.lst (l.map nD)] = some (.int (m : Nat)) ∧ m ∈ l := by
  obtain ⟨m, e, hm⟩ := maxI_mem (l := (l.map fun k : Nat => (k : Int)).map fun i => -i) (by simpa using h)
  rw [List.map_map] at hm
  obtain ⟨k, hk, rfl⟩ := List.mem_map.mp hm
  refine ⟨k, ?_, hk⟩
  simp only [cMin, ql_lst, Option.bind_some, intsD_nats, minI, e, Option.map_some]
  simp
/-- one step of the walk -/
theorem walk_step (Dk : DealsOk n ds) (h : TkOk n ds F T) (nx : ∀ p ∈ boundL n F, ¬ isNext ds T p) {W : List (Nat × Nat)} {came : Option Nat} {here : Nat} (w : Walk n ds T W came here) (hin : here ∉ W.map (·.1)) (hW : W.length ≤ 1000) (x4 : Option D) :
    ∃ k, Walk n ds T (W ++ [(here, k)]) (some k) (othP (ds.getD k (0, 0)) here) ∧
    l1_Taking_bad_round (walkE n ds B T here came x4) [.lst (W.map pairD)] = some (.nx, walkE n ds B T (othP (ds.getD k (0, 0)) here) (some k) (some (.int (k : Nat))), [.lst ((W ++ [(here, k)]).map pairD)]) := by
  have hr := Dk.r10
  have lf := left_of_w (n := n) (B := B) (T := T) (by omega : ds.length ≤ 1000) here
  have ll : (leftL ds T here).length ≤ ds.length := Nat.le_trans (List.length_filter_le _ _) (dof_ok ds here).len
  obtain ⟨k0, hk0⟩ := w.hl
  have ex : ∃ k, k ∈ leftL ds T here ∧ came ≠ some k := by
    by_cases c : came = some k0
    · obtain ⟨j, hj, ne⟩ := left_two Dk h nx w.hn hk0
      exact ⟨j, hj, fun e => ne (by rw [c] at e; cases e; rfl)⟩
    · exact ⟨k0, hk0, c⟩
  have m1 : mF "Taking" "left_of" f_Taking_left_of (eV 0) (aCons (eV 1) (aNil)) (walkE n ds B T here came x4) [.lst (W.map pairD)] = some ((leftL ds T here).map nD) := by
    rw [mF_nr (o := tkD n ds B T) (ds := [.int (here : Nat)]) rfl (o_tkD ..) noF_1 rfl (by simp)]
    exact lf
  have c := fcomp_of (f := jSeqD (eF (mF "Taking" "left_of" f_Taking_left_of (eV 0) (aCons (eV 1) (aNil))))) (vs := [8]) (g := gN 8) (t := eB (e2 gNe (eV 8) (eV 3))) (e := eV 8) (ρ := walkE n ds B T here came x4) (S := [.lst (W.map pairD)]) nD (leftL ds T here) (fun k => !decide (came = some k)) nD (by
    rw [x_jSeqD, x_eF, m1]; rfl) (by omega) (fun x hx => ⟨_, rfl, by simp [walkE, ne_came], fun _ => by simp [walkE]⟩)
  obtain ⟨k, r, hkr⟩ : ∃ k r, (leftL ds T here).filter (fun k => !decide (came = some k)) = k :: r := by
    match hf : (leftL ds T here).filter (fun k => !decide (came = some k)) with
    | [] =>
      obtain ⟨k, h1, h2⟩ := ex
      have : k ∈ (leftL ds T here).filter (fun k => !decide (came = some k)) := List.mem_filter.mpr ⟨h1, by simpa using h2⟩
      rw [hf] at this
      simp at this
    | k :: r => exact ⟨k, r, rfl⟩
  rw [hkr] at c
  have mk : k ∈ (leftL ds T here).filter (fun k => !decide (came = some k)) := by rw [hkr]; simp
  obtain ⟨mk1, mk2⟩ := List.mem_filter.mp mk
  have mk2' : came ≠ some k := by simpa using mk2
  obtain ⟨kd, kT⟩ := mem_leftL.mp mk1
  obtain ⟨d, ed, hd⟩ := mem_dof.mp kd
  have gd := getD_of ed
  have ok := Dk.ok d (List.mem_of_getElem? ed)
  refine ⟨k, ?_, ?_⟩
  · have oi := othP_in hd
    refine ⟨?_, ?_, ?_, ?_, ?_, ?_, ?_, ?_⟩
    · rw [List.map_append]
      refine List.nodup_append.mpr ⟨w.nd, by simp, fun x hx y hy e => ?_⟩
      simp at hy
      subst hy e
      exact hin hx
    · intro x hx
      rcases List.mem_append.mp hx with hx | hx
      · exact w.lt x hx
      · rw [List.mem_singleton.mp hx]; exact w.hn
    · intro x hx
      rcases List.mem_append.mp hx with hx | hx
      · exact w.lf x hx
      · rw [List.mem_singleton.mp hx]; exact mk1
    · intro i p a q l e1 e2
      have hlt := (List.getElem?_eq_some_iff.mp e2).1
      rw [List.length_append, List.length_singleton] at hlt
      by_cases hi : i + 1 < W.length
      · rw [List.getElem?_append_left (by omega)] at e1
        rw [List.getElem?_append_left hi] at e2
        exact w.ch i p a q l e1 e2
      · have ei : i + 1 = W.length := by omega
        rw [List.getElem?_append_left (by omega)] at e1
        rw [ei, List.getElem?_append_right (Nat.le_refl _)] at e2
        simp at e2
        obtain ⟨rfl, rfl⟩ := e2
        have lst : W.getLast? = some (p, a) := by
          rw [List.getLast?_eq_getElem?, ← ei]
          exact e1
        obtain ⟨g1, g2⟩ := w.ls p a lst
        exact ⟨g1, fun e => mk2' (by rw [g2, e])⟩
    · intro p a e
      rw [List.getLast?_append] at e
      simp at e
      obtain ⟨rfl, rfl⟩ := e
      exact ⟨rfl, rfl⟩
    · intro e; simp at e
    · rw [gd]
      rcases oi with ⟨_, e⟩ | ⟨_, e⟩
      · rw [e]; exact ok.2.1
      · rw [e]; exact ok.1
    · refine ⟨k, mem_leftL.mpr ⟨mem_dof.mpr ⟨d, ed, ?_⟩, kT⟩⟩
      rw [gd]
      rcases oi with ⟨_, e⟩ | ⟨_, e⟩
      · exact .inr e
      · exact .inl e
  · have s1 : sSet 4 (e2 gIx (eF (fComp (jSeqD (eF (mF "Taking" "left_of" f_Taking_left_of (eV 0) (aCons (eV 1) (aNil))))) [8] (gN 8) (eB (e2 gNe (eV 8) (eV 3))) (eV 8))) (eC (.int 0))) (walkE n ds B T here came x4) [.lst (W.map pairD)] = some (.nx, walkE n ds B T here came (some (.int (k : Nat))), [.lst (W.map pairD)]) := by
      rw [x_sSet, x_e2, x_eF, c]
      simp [walkE]
    have hW' : W.length ≤ 1000000 := by omega
    have s2 : sApp (eV 2) (eTup (aCons (eV 1) (aCons (eV 4) (aNil)))) (walkE n ds B T here came (some (.int (k : Nat)))) [.lst (W.map pairD)] = some (.nx, walkE n ds B T here came (some (.int (k : Nat))), [.lst ((W ++ [(here, k)]).map pairD)]) := by
      simp [walkE, hW']
      rfl
    have s3 : sSet 3 (eV 4) (walkE n ds B T here came (some (.int (k : Nat)))) [.lst ((W ++ [(here, k)]).map pairD)] = some (.nx, walkE n ds B T here (some k) (some (.int (k : Nat))), [.lst ((W ++ [(here, k)]).map pairD)]) := rfl
    have s4 : sSet 1 (eFn f_other_of (aCons (e1 (gAttr "Taking" "deals") (eV 0)) (aCons (eV 4) (aCons (eV 1) (aNil))))) (walkE n ds B T here (some k) (some (.int (k : Nat)))) [.lst ((W ++ [(here, k)]).map pairD)] = some (.nx, walkE n ds B T (othP (ds.getD k (0, 0)) here) (some k) (some (.int (k : Nat))), [.lst ((W ++ [(here, k)]).map pairD)]) := by
      have oo := other_of_w (n := n) ed here
      rw [gd]
      simp [walkE, a_deals, oo]
    unfold l1_Taking_bad_round
    exact seq_nx s1 (seq_nx s2 (seq_nx s3 s4))
end
end DL

set_option maxHeartbeats 1000000
namespace DL
open PySem PySem.Spec L2
section
variable {n : Nat} {ds : List (Nat × Nat)} {F : List Nat} {T : Tk} {B : List Nat}
theorem Walk.len {W : List (Nat × Nat)} {came : Option Nat} {here : Nat} (w : Walk n ds T W came here) : W.length ≤ n := by
  have := List.Nodup.length_le_of_subset (l₂ := List.range n) w.nd fun x hx => by
    obtain ⟨y, hy, rfl⟩ := List.mem_map.mp hx
    exact List.mem_range.mpr (w.lt y hy)
  simpa using this
theorem getElem?_drop' {α : Type} (l : List α) (b i : Nat) : (l.drop b)[i]? = l[b + i]? := List.getElem?_drop
/-- what is cut off behind the first meeting is a round -/
theorem walk_round (Dk : DealsOk n ds) (h : TkOk n ds F T) {W : List (Nat × Nat)} {came : Option Nat} {here : Nat} (w : Walk n ds T W came here) {b : Nat} (hb : b < W.length) (eb : (W.map (·.1))[b]? = some here) :
    2 ≤ (W.drop b).length ∧ RndIn n ds F (W.drop b) ∧ conAll ds (W.drop b) = true := by
  have wl := w.len
  have hn := Dk.n6
  have row : ∀ x ∈ W, ∃ d, ds[x.2]? = some d ∧ ds.getD x.2 (0, 0) = d ∧ (x.1 = d.1 ∨ x.1 = d.2) ∧ d.1 ≠ d.2 ∧ d.1 ∉ F ∧ d.2 ∉ F := fun x hx => by
    obtain ⟨k1, k2⟩ := mem_leftL.mp (w.lf x hx)
    obtain ⟨d, e, hd⟩ := mem_dof.mp k1
    exact ⟨d, e, getD_of e, hd, (Dk.ok d (List.mem_of_getElem? e)).2.2, fun z => k2 (h.free _ d e (.inl z)), fun z => k2 (h.free _ d e (.inr z))⟩
  obtain ⟨k0, hk0⟩ : ∃ k, W[b]? = some (here, k) := by
    rw [List.getElem?_map] at eb
    obtain ⟨⟨p, k⟩, e1, e2⟩ := Option.map_eq_some_iff.mp eb
    have e2' : p = here := e2
    subst e2'
    exact ⟨k, e1⟩
  obtain ⟨⟨pl, kl⟩, hlast⟩ : ∃ x, W.getLast? = some x := by
    cases hW : W.getLast? with
    | none => rw [List.getLast?_eq_none_iff] at hW; subst hW; simp at hb
    | some x => exact ⟨x, rfl⟩
  obtain ⟨hl1, hl2⟩ := w.ls pl kl hlast
  have lastE : W[W.length - 1]? = some (pl, kl) := by rw [← List.getLast?_eq_getElem?]; exact hlast
  obtain ⟨dl, edl, gdl, hdl, nel, _⟩ := row (pl, kl) (List.mem_of_getElem? lastE)
  have nel' : pl ≠ here := by
    rw [hl1, gdl]
    rcases othP_in hdl with ⟨a, e⟩ | ⟨a, e⟩
    · rw [e]; intro z; exact nel (by rw [← a]; exact z)
    · rw [e]; intro z; exact nel (by rw [← z]; exact a)
  have inj : ∀ {i j p k k' : Nat}, W[i]? = some (p, k) → W[j]? = some (p, k') → i = j := fun {i j p k k'} e1 e2 => by
    have a1 : (W.map (·.1))[i]? = some p := by rw [List.getElem?_map, e1]; rfl
    have a2 : (W.map (·.1))[j]? = some p := by rw [List.getElem?_map, e2]; rfl
    exact (List.getElem?_inj (List.getElem?_eq_some_iff.mp a1).1 w.nd).mp (a1.trans a2.symm)
  have l2 : b + 1 < W.length := by
    refine Classical.byContradiction fun c => ?_
    have : b = W.length - 1 := by omega
    rw [this, lastE] at hk0
    cases hk0
    exact nel' rfl
  have len : (W.drop b).length = W.length - b := List.length_drop
  have nd1 : ((W.drop b).map (·.1)).Nodup := by
    rw [List.map_drop]
    exact w.nd.sublist (List.drop_sublist _ _)
  have nd2 : ((W.drop b).map (·.2)).Nodup := by
    rw [List.nodup_iff_pairwise_ne, List.pairwise_iff_getElem]
    intro i j hi hj hij
    simp only [List.length_map] at hi hj
    rw [List.getElem_map, List.getElem_map]
    rw [len] at hi hj
    have e1 : (W.drop b)[i]? = W[b + i]? := getElem?_drop' W b i
    have e2 : (W.drop b)[j]? = W[b + j]? := getElem?_drop' W b j
    have e3 : (W.drop b)[i + 1]? = W[b + i + 1]? := getElem?_drop' W b (i + 1)
    obtain ⟨⟨p, k⟩, f1⟩ : ∃ x, W[b + i]? = some x := ⟨_, List.getElem?_eq_getElem (by omega)⟩
    obtain ⟨⟨q, k'⟩, f2⟩ : ∃ x, W[b + j]? = some x := ⟨_, List.getElem?_eq_getElem (by omega)⟩
    obtain ⟨⟨r, l⟩, f3⟩ : ∃ x, W[b + i + 1]? = some x := ⟨_, List.getElem?_eq_getElem (by omega)⟩
    have g1 : (W.drop b)[i]'(by rw [len]; omega) = (p, k) := by
      have := e1.trans f1
      rw [List.getElem?_eq_getElem (by rw [len]; omega)] at this
      exact Option.some.inj this
    have g2 : (W.drop b)[j]'(by rw [len]; omega) = (q, k') := by
      have := e2.trans f2
      rw [List.getElem?_eq_getElem (by rw [len]; omega)] at this
      exact Option.some.inj this
    rw [g1, g2]
    intro e
    have e' : k = k' := e
    subst e'
    obtain ⟨d, ed, gd, hd, ne, _⟩ := row (p, k) (List.mem_of_getElem? f1)
    obtain ⟨d', ed', gd', hd', _⟩ := row (q, k) (List.mem_of_getElem? f2)
    have ed1 : ds[k]? = some d := ed
    have ed2 : ds[k]? = some d' := ed'
    rw [ed1] at ed2
    cases ed2
    obtain ⟨hr, hkl⟩ := w.ch (b + i) p k r l f1 f3
    have gdk : ds.getD k (0, 0) = d := gd
    rw [gdk] at hr
    have hpq : p ≠ q := fun z => by
      subst z
      have := inj f1 f2
      omega
    have hqr : q = r := by
      rw [hr]
      have hd1 : p = d.1 ∨ p = d.2 := hd
      have hd2 : q = d.1 ∨ q = d.2 := hd'
      rcases othP_in hd1 with ⟨a, e⟩ | ⟨a, e⟩
      · rw [e]; exact hd2.resolve_left fun z => hpq (by rw [a, z])
      · rw [e]; exact hd2.resolve_right fun z => hpq (by rw [a, z])
    subst hqr
    have := inj f2 f3
    have : j = i + 1 := by omega
    subst this
    have f2' : W[b + i + 1]? = some (q, k) := f2
    rw [f3] at f2'
    cases f2'
    exact hkl rfl
  refine ⟨by omega, ⟨fun x hx => ?_, by omega, nd1, nd2, fun x hx => ?_⟩, ?_⟩
  · have m := List.mem_of_mem_drop hx
    obtain ⟨d, ed, _⟩ := row x m
    exact ⟨w.lt x m, (List.getElem?_eq_some_iff.mp ed).1⟩
  · obtain ⟨d, ed, _, hd, _, f1, f2⟩ := row x (List.mem_of_mem_drop hx)
    rcases hd with e | e
    · rw [e]; exact f1
    · rw [e]; exact f2
  · refine List.all_eq_true.mpr fun i hi => ?_
    have hi' := List.mem_range.mp hi
    have link : ∀ (p k q : Nat), (∃ d, ds[k]? = some d ∧ ds.getD k (0, 0) = d ∧ (p = d.1 ∨ p = d.2) ∧ d.1 ≠ d.2 ∧ d.1 ∉ F ∧ d.2 ∉ F) → q = othP (ds.getD k (0, 0)) p → prv ((W.drop b).map (·.2)) i = k → prv ((W.drop b).map (·.1)) i = p → ((W.drop b).map (·.1)).getD i 0 = q → con ds ((W.drop b).map (·.1)) ((W.drop b).map (·.2)) i = true := by
      rintro p k q ⟨d, _, gd, hd, _⟩ hq e1 e2 e3
      refine con_of (d := d) (by rw [e1, gd]) ?_
      rw [e2, e3, hq, gd]
      rcases othP_in hd with ⟨a, e⟩ | ⟨a, e⟩
      · exact .inl ⟨a.symm, e.symm⟩
      · exact .inr ⟨a.symm, e.symm⟩
    have gp : ∀ (m p k : Nat), W[b + m]? = some (p, k) → ((W.drop b).map (·.1)).getD m 0 = p ∧ ((W.drop b).map (·.2)).getD m 0 = k := fun m p k e => by
      have q : (W.drop b)[m]? = some (p, k) := (getElem?_drop' W b m).trans e
      constructor
      · rw [List.getD_eq_getElem?_getD, List.getElem?_map, q]; rfl
      · rw [List.getD_eq_getElem?_getD, List.getElem?_map, q]; rfl
    by_cases h0 : i = 0
    · subst h0
      have el : W[b + ((W.drop b).length - 1)]? = some (pl, kl) := by
        have : b + ((W.drop b).length - 1) = W.length - 1 := by omega
        rw [this]; exact lastE
      obtain ⟨a1, a2⟩ := gp _ _ _ el
      obtain ⟨b1, _⟩ := gp 0 here k0 hk0
      refine link pl kl here (row (pl, kl) (List.mem_of_getElem? lastE)) hl1 ?_ ?_ b1
      · unfold prv; rw [if_pos rfl, List.length_map]; exact a2
      · unfold prv; rw [if_pos rfl, List.length_map]; exact a1
    · obtain ⟨⟨p, k⟩, f1⟩ : ∃ x, W[b + (i - 1)]? = some x := ⟨_, List.getElem?_eq_getElem (by omega)⟩
      obtain ⟨⟨q, l⟩, f2⟩ : ∃ x, W[b + i]? = some x := ⟨_, List.getElem?_eq_getElem (by omega)⟩
      have f2' : W[b + (i - 1) + 1]? = some (q, l) := by
        have : b + (i - 1) + 1 = b + i := by omega
        rw [this]; exact f2
      obtain ⟨hq, _⟩ := w.ch _ p k q l f1 f2'
      obtain ⟨a1, a2⟩ := gp _ _ _ f1
      obtain ⟨b1, _⟩ := gp _ _ _ f2
      refine link p k q (row (p, k) (List.mem_of_getElem? f1)) hq ?_ ?_ b1
      · unfold prv; rw [if_neg h0]; exact a2
      · unfold prv; rw [if_neg h0]; exact a1
theorem bad_round_w (Dk : DealsOk n ds) (h : TkOk n ds F T) (nx : ∀ p ∈ boundL n F, ¬ isNext ds T p) (hT : T.length ≠ ds.length) :
    ∃ R, f_Taking_bad_round [tkD n ds (boundL n F) T] = some (rndD R) ∧ 2 ≤ R.length ∧ RndIn n ds F R ∧ conAll ds R = true := by
  have hr := Dk.r10
  have hn := Dk.n6
  have tl := h.len
  have bl : (boundL n F).length ≤ n := by
    refine Nat.le_trans (List.length_filter_le _ _) ?_
    rw [List.length_range]; exact Nat.le_refl _
  -- somebody has some left
  obtain ⟨k0, hk0, hkT⟩ : ∃ k < ds.length, k ∉ T.map (·.1) := by
    refine Classical.byContradiction fun c => ?_
    have := List.Nodup.length_le_of_subset (l₁ := List.range ds.length) (l₂ := T.map (·.1)) List.nodup_range fun x hx => Classical.byContradiction fun z => c ⟨x, List.mem_range.mp hx, z⟩
    simp at this
    omega
  have ek0 : ds[k0]? = some ds[k0] := List.getElem?_eq_getElem hk0
  have okd := Dk.ok _ (List.mem_of_getElem? ek0)
  have mB : ds[k0].1 ∈ boundL n F := mem_boundL.mpr ⟨okd.1, fun z => hkT (h.free k0 _ ek0 (.inl z))⟩
  have ml : k0 ∈ leftL ds T ds[k0].1 := mem_leftL.mpr ⟨mem_dof.mpr ⟨_, ek0, .inl rfl⟩, hkT⟩
  have lm : ∀ (ρ : Rho) (S : Sto) (p : Nat), ρ[0]? = some (some (tkD n ds (boundL n F) T)) → ρ[6]? = some (some (.int (p : Nat))) → mF "Taking" "left_of" f_Taking_left_of (eV 0) (aCons (eV 6) (aNil)) ρ S = some ((leftL ds T p).map nD) := fun ρ S p h0 h6 => by
    rw [mF_nr (o := tkD n ds (boundL n F) T) (ds := [.int (p : Nat)]) (by simp [h0]) (o_tkD ..) noF_1 (by simp [h6]) (by simp)]
    exact left_of_w (by omega) p
  let ρ0 : Rho := [some (tkD n ds (boundL n F) T), none, none, none, none, none, none, none, none]
  have c1 := fcomp_of (f := jSeqD (e1 (gAttr "Taking" "bound") (eV 0))) (vs := [6]) (g := gN 6) (t := eTru (eF (mF "Taking" "left_of" f_Taking_left_of (eV 0) (aCons (eV 6) (aNil))))) (e := eV 6) (ρ := ρ0) (S := []) nD (boundL n F) (fun p => !(leftL ds T p).isEmpty) nD (by simp [ρ0, a_bound]) (by omega) (fun x hx => ⟨_, rfl, by
    rw [x_eTru, x_eF, lm _ _ x rfl rfl]
    simp, fun _ => rfl⟩)
  have mf : ds[k0].1 ∈ (boundL n F).filter (fun p => !(leftL ds T p).isEmpty) := List.mem_filter.mpr ⟨mB, by
    cases hL : leftL ds T ds[k0].1 with
    | nil => rw [hL] at ml; simp at ml
    | cons a l => rfl⟩
  obtain ⟨here, eh, mh⟩ := min_mem [] (l := (boundL n F).filter (fun p => !(leftL ds T p).isEmpty)) (fun e => by rw [e] at mf; simp at mf)
  obtain ⟨mh1, mh2⟩ := List.mem_filter.mp mh
  have hl : ∃ k, k ∈ leftL ds T here := by
    cases hL : leftL ds T here with
    | nil => rw [hL] at mh2; simp at mh2
    | cons a l => exact ⟨a, by simp⟩
  have w0 : Walk n ds T [] none here := ⟨List.nodup_nil, by simp, by simp, fun i p k q l e => by simp at e, fun p k e => by simp at e, fun _ => rfl, (mem_boundL.mp mh1).1, hl⟩
  -- the walk
  have tst : ∀ (W : List (Nat × Nat)) (came : Option Nat) (here : Nat) (x4 : Option D), W.length ≤ 1000 → l1_Taking_bad_round_t (walkE n ds (boundL n F) T here came x4) [.lst (W.map pairD)] = some (!decide (here ∈ W.map (·.1))) := fun W came here x4 hW => by
    have p := persons_w (ρ := walkE n ds (boundL n F) T here came x4) (S := [.lst (W.map pairD)]) (W := W) rfl hW rfl
    unfold l1_Taking_bad_round_t
    rw [x_eB, x_e2, x_eF, p]
    simp [walkE, -List.mem_map, -List.map_map]
  obtain ⟨ρ', S', ew, W, came, here', x4, rfl, rfl, w, hin⟩ := while_inv (t := l1_Taking_bad_round_t) (body := l1_Taking_bad_round)
    (fun k ρ S => ∃ (W : List (Nat × Nat)) (came : Option Nat) (here : Nat) (x4 : Option D), ρ = walkE n ds (boundL n F) T here came x4 ∧ S = [.lst (W.map pairD)] ∧ Walk n ds T W came here ∧ k = n - W.length)
    (fun ρ S => ∃ (W : List (Nat × Nat)) (came : Option Nat) (here : Nat) (x4 : Option D), ρ = walkE n ds (boundL n F) T here came x4 ∧ S = [.lst (W.map pairD)] ∧ Walk n ds T W came here ∧ here ∈ W.map (·.1))
    (by
      rintro k ρ S ⟨W, came, here, x4, rfl, rfl, w, rfl⟩
      have wl := w.len
      have t := tst W came here x4 (by omega)
      by_cases c : here ∈ W.map (·.1)
      · left
        rw [decide_eq_true c] at t
        exact ⟨t, W, came, here, x4, rfl, rfl, w, c⟩
      · right
        rw [decide_eq_false c] at t
        obtain ⟨k, w', e⟩ := walk_step (B := boundL n F) Dk h nx w c (by omega) x4
        have wl' := w'.len
        rw [List.length_append, List.length_singleton] at wl'
        exact ⟨t, .nx, _, _, _, e, .inl rfl, (by rw [List.length_append, List.length_singleton]; omega : n - (W ++ [(here, k)]).length < n - W.length), _, _, _, _, rfl, rfl, w', rfl⟩)
    (show (∃ (W : List (Nat × Nat)) (came : Option Nat) (here1 : Nat) (x4 : Option D), walkE n ds (boundL n F) T here none none = walkE n ds (boundL n F) T here1 came x4 ∧ [Cell.lst (([] : List (Nat × Nat)).map pairD)] = [.lst (W.map pairD)] ∧ Walk n ds T W came here1 ∧ n = n - W.length) from ⟨[], none, here, none, rfl, rfl, w0, rfl⟩)
  have wl := w.len
  have bi := List.idxOf_lt_length_iff.mpr hin
  have be : (W.map (·.1))[(W.map (·.1)).idxOf here']? = some here' := by rw [List.getElem?_eq_getElem bi, List.getElem_idxOf bi]
  have bi' : (W.map (·.1)).idxOf here' < W.length := by simpa using bi
  obtain ⟨r1, r2, r3⟩ := walk_round Dk h w bi' be
  refine ⟨W.drop ((W.map (·.1)).idxOf here'), ?_, r1, r2, r3⟩
  generalize hbb : (W.map (·.1)).idxOf here' = b at *
  refine ret_run ?_
  unfold b_Taking_bad_round
  refine ret_set (x := .int (here : Nat)) (by
    have : startR 9 [tkD n ds (boundL n F) T] = ρ0 := rfl
    rw [this, x_eCall, x_aCons, x_eF, c1]
    simp [eh]) ?_
  refine ret_seq (ρ1 := [some (tkD n ds (boundL n F) T), some (.int (here : Nat)), some (.ref 0), none, none, none, none, none, none]) (S1 := [.lst []]) rfl ?_
  refine ret_set (x := .non) rfl ?_
  refine ret_seq (ρ1 := walkE n ds (boundL n F) T here' came x4) (S1 := [.lst (W.map pairD)]) ew ?_
  have p := persons_w (ρ := walkE n ds (boundL n F) T here' came x4) (S := [.lst (W.map pairD)]) (W := W) rfl (by omega) rfl
  have ix : gIdx [.lst (W.map pairD)] (.lst ((W.map (·.1)).map nD)) (.int (here' : Nat)) = some (.int (b : Nat)) := by
    unfold gIdx
    rw [fo_ok (by simp)]
    simp only [Option.bind_some, ql_lst, oks_nD, ok_int, Bool.and_self, if_true, idxD_natA here' (W.map (·.1)) 0 hin, Option.map_some, Nat.zero_add, hbb]
  refine ret_set (x := .int (b : Nat)) (by
    rw [x_e2, x_eF, p]
    simp only [Option.map_some, Option.bind_some]
    exact ix) ?_
  refine ret_ret (x := rndD (W.drop b)) ?_ (fz_nr (by simp))
  have cd : cutD (W.map pairD) (some (b : Int)) none = (W.drop b).map pairD := by rw [cut_drop, List.map_drop]
  have ls : lstD [.lst (W.map pairD)] (.ref 0) = some (W.map pairD) := rfl
  simp only [x_eCall, x_aCons, x_aNil, x_eCutA, x_oSome, x_oNone, x_eV, walkE, List.set, List.getElem?_cons_succ, List.getElem?_cons_zero, Option.bind_some, id, asI_int]
  show ((cut3 [.lst (W.map pairD)] (.ref 0) (some (b : Int)) none).bind fun d => some [d]).bind _ = _
  have c3 : cut3 [.lst (W.map pairD)] (.ref 0) (some (b : Int)) none = some (.lst ((W.drop b).map pairD)) := by
    show (lstD [Cell.lst (W.map pairD)] (.ref 0)).map (fun ds => D.lst (cutD ds (some (b : Int)) none)) = _
    rw [ls, Option.map_some, cd]
  rw [c3]
  rfl
end
end DL

set_option maxHeartbeats 1000000
namespace DL
open PySem PySem.Spec L2
/-! ### orders, judged -/
section
variable {n : Nat} {ds : List (Nat × Nat)} {F : List Nat} {O : Tk} {fi : List Nat}
def ordVD (O : Tk) : D := .tup (O.map ordD)
@[simp] theorem q_ordVD (S : Sto) (O : Tk) : seqD S (ordVD O) = some (O.map ordD) := (rfl)
@[simp] theorem qv_ordVD (O : Tk) : seqV (ordVD O) = some (O.map ordD) := (rfl)
@[simp] theorem nr_ordVD (O : Tk) : nr (ordVD O) = true := by simp [ordVD, ordD]
@[simp] theorem q_ordD (S : Sto) (x : Nat × Nat) : seqD S (ordD x) = some [.int x.2, .int x.1] := (rfl)
structure OrdIn (n : Nat) (ds : List (Nat × Nat)) (fi : List Nat) (O : Tk) : Prop where
  len : O.length = ds.length
  nd : (O.map (·.1)).Nodup
  ok : ∀ x ∈ O, x.2 < n ∧ ∃ d, ds[x.1]? = some d ∧ (x.2 = d.1 ∨ x.2 = d.2)
  fl : fi.length = ds.length
  fo : ∀ x ∈ O, fi.getD x.1 0 = x.2
def ordAt (ds : List (Nat × Nat)) (F : List Nat) (fi : List Nat) (O : Tk) (i : Nat) (x : Nat × Nat) : Bool :=
  decide (x.2 ∈ F) || ((dof ds x.2).filter fun j => !decide (j = x.1)).all fun j => decide (j ∈ (O.take i).map (·.1)) && !decide (fi.getD j 0 = x.2)
def ordAll (ds : List (Nat × Nat)) (F : List Nat) (fi : List Nat) (O : Tk) : Bool := (List.range O.length).all fun i => ordAt ds F fi O i (O.getD i (0, 0))
theorem OrdIn.lt (h : OrdIn n ds fi O) : ∀ x ∈ O, x.1 < ds.length := fun x hx => by
  obtain ⟨_, d, e, _⟩ := h.ok x hx
  exact (List.getElem?_eq_some_iff.mp e).1
theorem OrdIn.sorted (h : OrdIn n ds fi O) : sortD ((O.map (·.1)).map nD) = (List.range ds.length).map nD := by
  obtain ⟨G, e, p, s⟩ := sort_nats h.nd
  rw [e]
  have : G = List.range ds.length := by
    refine pw_le_ext s List.pairwise_lt_range fun x => ?_
    rw [p.mem_iff, List.mem_range]
    constructor
    · intro hx
      obtain ⟨y, hy, rfl⟩ := List.mem_map.mp hx
      exact h.lt y hy
    · intro hx
      refine Classical.byContradiction fun c => ?_
      have nd : (x :: O.map (·.1)).Nodup := List.nodup_cons.mpr ⟨c, h.nd⟩
      have := List.Nodup.length_le_of_subset (l₂ := List.range ds.length) nd fun z hz => by
        rcases List.mem_cons.mp hz with rfl | hz
        · exact List.mem_range.mpr hx
        · obtain ⟨y, hy, rfl⟩ := List.mem_map.mp hz
          exact List.mem_range.mpr (h.lt y hy)
      have hl := h.len
      simp at this
      omega
  rw [this]
theorem fi_at (h : OrdIn n ds fi O) {k : Nat} (hk : k < ds.length) : atI (fi.map nD) (k : Int) = some (.int (fi.getD k 0 : Nat)) := by
  have hk' : k < fi.length := by rw [h.fl]; exact hk
  rw [atI_nD hk', List.getD_eq_getElem?_getD, List.getElem?_eq_getElem hk']
  rfl
theorem eqB_nat (a b : Nat) : decide ((a : Int) = (b : Int)) = decide (a = b) := by
  by_cases h : a = b
  · subst h; simp
  · have : ¬ ((a : Int) = b) := by omega
    simp only [decide_eq_false h, decide_eq_false this]
theorem is_order_w (W : DealsOk n ds) (h : OrdIn n ds fi O) : f_is_order_of [dealsD n ds, lotD F, lotD fi, ordVD O] = some (.bl (ordAll ds F fi O)) := by
  have hr := W.r10
  have hl := h.len
  have hl6 : O.length ≤ 1000000 := by omega
  let ρ0 : Rho := [some (dealsD n ds), some (lotD F), some (lotD fi), some (ordVD O), none, none, none, none, none, none, none]
  let E (x5 x6 x7 x8 : Option D) : Rho := [some (dealsD n ds), some (lotD F), some (lotD fi), some (ordVD O), some (.lst ((O.map (·.1)).map nD)), x5, x6, x7, x8, none, none]
  have t1 : f_is_tuple_of [ordVD O, .int (ds.length : Nat)] = some (.bl true) := by
    have := is_tuple_of_t (O.map ordD) (ds.length : Nat)
    rw [List.length_map, hl] at this
    simpa [ordVD] using this
  have c1 := fcomp_all (f := jSeqD (eV 3)) (vs := [9]) (g := gN 9) (e := eFn f_is_tuple_of (aCons (eV 9) (aCons (eC (.int 2)) (aNil)))) (ρ := ρ0) (S := []) ordD O (fun _ => .bl true) (by simp [ρ0]) hl6 (fun x hx => ⟨_, rfl, by
    have := tup_pair (x.2, x.1)
    simp [ρ0, ordD, this]⟩)
  have c2 := fcomp_all (f := jSeqD (eV 3)) (vs := [9]) (g := gN 9) (e := eAnd (eFn f_is_under (aCons (e2 gIx (eV 9) (eC (.int 1))) (aCons (eCall cLen (aCons (e2 gIx (eV 0) (eC (.int 1))) (aNil))) (aNil)))) (e2 gEq (e2 gIx (eV 9) (eC (.int 0))) (e2 gIx (eV 2) (e2 gIx (eV 9) (eC (.int 1)))))) (ρ := ρ0) (S := []) ordD O (fun _ => .bl true) (by simp [ρ0]) hl6 (fun x hx => ⟨_, rfl, by
    have lt := h.lt x hx
    have a' : (x.1 : Int) < ds.length := by omega
    have q := fi_at h lt
    rw [h.fo x hx] at q
    simp [ρ0, is_under_i, lt, a', q]⟩)
  have c3 := fcomp_all (f := jSeqD (eV 3)) (vs := [9]) (g := gN 9) (e := e2 gIx (eV 9) (eC (.int 1))) (ρ := ρ0) (S := []) ordD O (fun x => nD x.1) (by simp [ρ0]) hl6 (fun x hx => ⟨_, rfl, by simp [ρ0]⟩)
  have m1 : O.map (fun x => nD x.1) = (O.map (·.1)).map nD := by rw [List.map_map]; rfl
  rw [m1] at c3
  have a1 := all_true [] O
  have body : ∀ (i : Nat) (x : Nat × Nat) (hx : O[i]? = some x) (x8 : Option D), ∃ y8, l1_is_order_of (E (some (.int (i : Nat))) (some (.int (x.2 : Nat))) (some (.int (x.1 : Nat))) x8) [] = some (if ordAt ds F fi O i x then (.nx, E (some (.int (i : Nat))) (some (.int (x.2 : Nat))) (some (.int (x.1 : Nat))) y8, []) else (.rt (.bl false), E (some (.int (i : Nat))) (some (.int (x.2 : Nat))) (some (.int (x.1 : Nat))) y8, [])) := fun i x hx x8 => by
    have hm := List.mem_of_getElem? hx
    unfold l1_is_order_of ordAt
    by_cases hf : x.2 ∈ F
    · refine ⟨x8, ?_⟩
      rw [decide_eq_true hf, Bool.true_or, if_pos rfl]
      exact if_f (by simp [E, hf]) rfl
    · rw [decide_eq_false hf, Bool.false_or]
      have dl := (dof_ok ds x.2).len
      have cc := fcomp_of (f := jSeqD (eFn f_deals_of (aCons (eV 0) (aCons (eV 6) (aNil))))) (vs := [10]) (g := gN 10) (t := eB (e2 gNe (eV 10) (eV 7))) (e := eV 10) (ρ := E (some (.int (i : Nat))) (some (.int (x.2 : Nat))) (some (.int (x.1 : Nat))) x8) (S := []) nD (dof ds x.2) (fun j => !decide (j = x.1)) nD (by simp [E, deals_of_w n ds x.2 (by omega)]) (by omega) (fun j hj => ⟨_, rfl, by simp [E, eqB_nat], fun _ => by simp [E]⟩)
      generalize hRs : (dof ds x.2).filter (fun j => !decide (j = x.1)) = Rs at cc
      have rl : Rs.length ≤ 1000000 := by rw [← hRs]; exact Nat.le_trans (List.length_filter_le _ _) (by omega)
      have rin : ∀ j ∈ Rs, j < ds.length := fun j hj => by
        rw [← hRs] at hj
        exact (dof_ok ds x.2).2 j (List.mem_filter.mp hj).1
      have cd := fcomp_all (f := jSeqD (eV 8)) (vs := [10]) (g := gN 10) (e := eAnd (e2 (gInS false) (eV 10) (eCutA (eV 4) (oNone) (oSome (eV 5)))) (e2 gNe (e2 gIx (eV 2) (eV 10)) (eV 6))) (ρ := E (some (.int (i : Nat))) (some (.int (x.2 : Nat))) (some (.int (x.1 : Nat))) (some (.lst (Rs.map nD)))) (S := []) nD Rs (fun j => .bl (decide (j ∈ (O.take i).map (·.1)) && !decide (fi.getD j 0 = x.2))) (by simp [E]) rl (fun j hj => ⟨_, rfl, by
        have q := fi_at h (rin j hj)
        simp only [E, x_eAnd, x_e2, x_eCutA, x_oNone, x_oSome, x_eV, List.set, x_wipe1, x_wipe0, List.getElem?_cons_succ, List.getElem?_cons_zero, Option.bind_some, id, asI_int, cut3_lst, in_take, nD, y_ix, q_lotD, q, y_neI, eqB_nat, and2_bb, List.map_take]
        rfl⟩)
      refine ⟨some (.lst (Rs.map nD)), ?_⟩
      refine if_t (by simp [E, hf]) ?_
      refine seq_nx (ρ1 := E (some (.int (i : Nat))) (some (.int (x.2 : Nat))) (some (.int (x.1 : Nat))) (some (.lst (Rs.map nD)))) (S1 := []) (by rw [x_sSet, x_eF, cc]; rfl) ?_
      have t : (bNot (eTru (eCall cAll (aCons (eF (fComp (jSeqD (eV 8)) [10] (gN 10) (bYes) (eAnd (e2 (gInS false) (eV 10) (eCutA (eV 4) (oNone) (oSome (eV 5)))) (e2 gNe (e2 gIx (eV 2) (eV 10)) (eV 6))))) (aNil))))) (E (some (.int (i : Nat))) (some (.int (x.2 : Nat))) (some (.int (x.1 : Nat))) (some (.lst (Rs.map nD)))) [] = some (!(Rs.all fun j => decide (j ∈ (O.take i).map (·.1)) && !decide (fi.getD j 0 = x.2))) := by
        rw [x_bNot, x_eTru, x_eCall, x_aCons, x_eF, cd]
        simp only [Option.map_some, Option.bind_some, x_aNil, k_allM, t_bl]
      cases hc : (Rs.all fun j => decide (j ∈ (O.take i).map (·.1)) && !decide (fi.getD j 0 = x.2)) with
      | true =>
        rw [hc] at t
        exact if_f t rfl
      | false =>
        rw [hc] at t
        exact if_t t rfl
  have loop : ∃ fl x5 x6 x7 x8, loopL (gT 2 (gCons (gN 5) (gCons (gT 2 (gCons (gN 6) (gCons (gN 7) (gNil)))) (gNil)))) l1_is_order_of (O.zipIdx.map fun p => .tup [nD p.2, ordD p.1]) (E none none none none) [] = some (fl, E x5 x6 x7 x8, []) ∧ ((fl = .nx ∧ ordAll ds F fi O = true) ∨ (fl = .rt (.bl false) ∧ ordAll ds F fi O = false)) := by
    rcases loop_ret (g := gT 2 (gCons (gN 5) (gCons (gT 2 (gCons (gN 6) (gCons (gN 7) (gNil)))) (gNil)))) (body := l1_is_order_of) (ds := O.zipIdx.map fun p => .tup [nD p.2, ordD p.1]) (ρ := E none none none none) (S := [])
      (fun i ρ S => ∃ x5 x6 x7 x8 : Option D, ρ = E x5 x6 x7 x8 ∧ S = [] ∧ ∀ j < i, ordAt ds F fi O j (O.getD j (0, 0)) = true)
      (fun i fl ρ S => ∃ x5 x6 x7 x8 : Option D, ρ = E x5 x6 x7 x8 ∧ S = [] ∧ i < O.length ∧ fl = .rt (.bl false) ∧ ordAt ds F fi O i (O.getD i (0, 0)) = false) ⟨none, none, none, none, rfl, rfl, fun j h => by omega⟩ (by
        rintro i d ρ S hi ⟨x5, x6, x7, x8, rfl, rfl, inv⟩
        have hlt : i < O.length := by
          have := (List.getElem?_eq_some_iff.mp hi).1
          simpa using this
        obtain ⟨x, hx⟩ : ∃ x, O[i]? = some x := ⟨_, List.getElem?_eq_getElem hlt⟩
        have hd : d = .tup [nD i, ordD x] := by
          rw [List.getElem?_map, List.getElem?_zipIdx, hx] at hi
          simpa using hi.symm
        subst hd
        have gx : O.getD i (0, 0) = x := by rw [List.getD_eq_getElem?_getD, hx]; rfl
        obtain ⟨y8, b⟩ := body i x hx x8
        cases hc : ordAt ds F fi O i x with
        | true =>
          rw [hc, if_pos rfl] at b
          refine ⟨_, _, _, .nx, rfl, b, .inl ⟨.inl rfl, _, _, _, _, rfl, rfl, fun j hj => ?_⟩⟩
          by_cases e : j = i
          · subst e; rw [gx]; exact hc
          · exact inv j (by omega)
        | false =>
          rw [hc, if_neg (by decide)] at b
          exact ⟨_, _, _, _, rfl, b, .inr (.inl ⟨⟨_, rfl⟩, _, _, _, _, rfl, rfl, hlt, rfl, by rw [gx]; exact hc⟩)⟩) with ⟨ρ', S', e, x5, x6, x7, x8, rfl, rfl, inv⟩ | ⟨i, fl, ρ', S', hi, e, x5, x6, x7, x8, rfl, rfl, hlt, rfl, hc⟩
    · refine ⟨.nx, x5, x6, x7, x8, e, .inl ⟨rfl, List.all_eq_true.mpr fun i hi => inv i ?_⟩⟩
      simpa using hi
    · refine ⟨_, x5, x6, x7, x8, e, .inr ⟨rfl, ?_⟩⟩
      refine Bool.eq_false_iff.mpr fun z => ?_
      have := List.all_eq_true.mp z i (List.mem_range.mpr hlt)
      rw [hc] at this
      cases this
  obtain ⟨fl, x5, x6, x7, x8, el, hfl⟩ := loop
  have srt := k_sorted (S := []) (x := .lst ((O.map (·.1)).map nD)) rfl (gdS_nats _)
  rw [h.sorted] at srt
  have neR : gNe [] (.lst ((List.range ds.length).map nD)) (.lst ((List.range ds.length).map nD)) = some (.bl false) := y_neSelf (by rw [ok_lst]; simp)
  refine ret_run ?_
  unfold b_is_order_of
  refine ret_if0 (by
    have : startR 11 [dealsD n ds, lotD F, lotD fi, ordVD O] = ρ0 := rfl
    rw [this]
    simp only [x_bOr, x_bNot, x_eTru, x_eCall, x_aCons, x_eF, x_aNil, c1]
    simp [ρ0, t1, a1, -List.map_const']) ?_
  refine ret_if0 (by
    have : startR 11 [dealsD n ds, lotD F, lotD fi, ordVD O] = ρ0 := rfl
    rw [this]
    simp only [x_bNot, x_eTru, x_eCall, x_aCons, x_eF, x_aNil, c2]
    simp [a1, -List.map_const']) ?_
  refine ret_set (x := .lst ((O.map (·.1)).map nD)) (by
    have : startR 11 [dealsD n ds, lotD F, lotD fi, ordVD O] = ρ0 := rfl
    rw [this, x_eF, c3]; rfl) ?_
  show Ret _ (E none none none none) [] _
  refine ret_if0 (by
    have rr := rgA_nat (by omega : ds.length ≤ 1000000)
    simp [E, srt, rr, neR, -List.map_map]) ?_
  have q : (iEnumD (aCons (eV 3) (aNil))) (E none none none none) [] = some (O.zipIdx.map fun p => .tup [nD p.2, ordD p.1]) := by simp [E, enumD_map]
  rcases hfl with ⟨rfl, hc⟩ | ⟨rfl, hc⟩
  · rw [hc]
    refine ret_seq (ρ1 := E x5 x6 x7 x8) (S1 := []) (by rw [x_sFor, q]; exact el) ?_
    exact ret_ret rfl rfl
  · rw [hc]
    exact ret_rt (ρ1 := E x5 x6 x7 x8) (S1 := []) (x := .bl false) (by rw [x_sFor, q]; exact el) rfl
end
end DL

set_option maxHeartbeats 1000000
namespace DL
open PySem PySem.Spec L2
/-! ### agents: state -/
abbrev Hld := List (List Nat)
def agF : List Str := ["deals", "content", "firsts", "league", "held"]
def hldD (H : Hld) : D := .lst (H.map fun h => .lst (h.map nD))
def agD (n : Nat) (ds : List (Nat × Nat)) (F fi LG : List Nat) (H : Hld) : D := .ins "Agents" agF [dealsD n ds, lotD F, lotD fi, lotD LG, hldD H]
def agS (n : Nat) (ds : List (Nat × Nat)) (F fi LG : List Nat) (H : Hld) : Sto := .ins "Agents" agF [dealsD n ds, lotD F, lotD fi, lotD LG, .ref 1] :: .lst ((List.range H.length).map fun k => .ref (2 + k)) :: H.map fun h => .lst (h.map nD)
@[simp] theorem nr_hldD (H : Hld) : nr (hldD H) = true := by simp [hldD]
@[simp] theorem nr_agD (n : Nat) (ds : List (Nat × Nat)) (F fi LG : List Nat) (H : Hld) : nr (agD n ds F fi LG H) = true := by
  show nrs [dealsD n ds, lotD F, lotD fi, lotD LG, hldD H] = true
  simp
section
variable {n : Nat} {ds : List (Nat × Nat)} {F fi LG : List Nat} {H : Hld}
theorem g_deals (S : Sto) : gAttr "Agents" "deals" S (agD n ds F fi LG H) = some (dealsD n ds) := by with_unfolding_all rfl
theorem g_content (S : Sto) : gAttr "Agents" "content" S (agD n ds F fi LG H) = some (lotD F) := by with_unfolding_all rfl
theorem g_firsts (S : Sto) : gAttr "Agents" "firsts" S (agD n ds F fi LG H) = some (lotD fi) := by with_unfolding_all rfl
theorem g_held (S : Sto) : gAttr "Agents" "held" S (agD n ds F fi LG H) = some (hldD H) := by with_unfolding_all rfl
theorem h_deals (T : Sto) : gAttr "Agents" "deals" (agS n ds F fi LG H ++ T) (.ref 0) = some (dealsD n ds) := by with_unfolding_all rfl
theorem h_league (T : Sto) : gAttr "Agents" "league" (agS n ds F fi LG H ++ T) (.ref 0) = some (lotD LG) := by with_unfolding_all rfl
theorem h_held (T : Sto) : gAttr "Agents" "held" (agS n ds F fi LG H ++ T) (.ref 0) = some (.ref 1) := by with_unfolding_all rfl
theorem o_agD (S : Sto) : objD S (agD n ds F fi LG H) = some (("Agents" : Str), agF, [dealsD n ds, lotD F, lotD fi, lotD LG, hldD H]) := rfl
theorem o_agS (T : Sto) : objD (agS n ds F fi LG H ++ T) (.ref 0) = some (("Agents" : Str), agF, [dealsD n ds, lotD F, lotD fi, lotD LG, .ref 1]) := rfl
theorem noF_a1 : noF agF "is_covered" = true := by decide +kernel
theorem noF_a2 : noF agF "wishes" = true := by decide +kernel
theorem noF_a3 : noF agF "step" = true := by decide +kernel
theorem noF_a4 : noF agF "is_done" = true := by decide +kernel
theorem agS_len : (agS n ds F fi LG H).length = H.length + 2 := by simp [agS]
theorem agS_at (T : Sto) {k : Nat} (hk : k < H.length) : (agS n ds F fi LG H ++ T)[2 + k]? = some (.lst ((H[k]).map nD)) := by
  have e : 2 + k = k + 1 + 1 := by omega
  rw [e]
  show ((H.map fun h => Cell.lst (h.map nD)) ++ T)[k]? = _
  rw [List.getElem?_append_left (by simpa using hk), List.getElem?_map, List.getElem?_eq_getElem hk]
  rfl
theorem fz_agS (T : Sto) : fz (agS n ds F fi LG H ++ T) (.ref 0) = some (agD n ds F fi LG H) := by
  refine fz_ins (S := agS n ds F fi LG H ++ T) (n := 0) rfl ?_
  refine mapM_cons' (frz_nr 5 _ (by simp)) (mapM_cons' (frz_nr 5 _ (by simp)) (mapM_cons' (frz_nr 5 _ (by simp)) (mapM_cons' (frz_nr 5 _ (by simp)) (mapM_cons' (frz_lst (n := 1) rfl ?_) rfl))))
  have e : H.map (fun h => D.lst (h.map nD)) = (List.range H.length).map fun k => D.lst ((H.getD k []).map nD) := by
    apply List.ext_getElem
    · simp
    · intro k h1 h2
      simp at h1
      simp [List.getD_eq_getElem?_getD, List.getElem?_eq_getElem h1]
  rw [e]
  refine mapM_map fun k hk => ?_
  have hk' := List.mem_range.mp hk
  have g : H.getD k [] = H[k] := by rw [List.getD_eq_getElem?_getD, List.getElem?_eq_getElem hk']; rfl
  rw [g]
  exact frz_lst0 (agS_at T hk') (by simp)
/-- the other side of p has done its own -/
def cov (ds : List (Nat × Nat)) (H : Hld) (p k : Nat) : Bool := decide (othP (ds.getD k (0, 0)) p ∈ H.getD k [])
def wishL (ds : List (Nat × Nat)) (F fi : List Nat) (H : Hld) (p : Nat) : List Nat :=
  if p ∈ F then (dof ds p).filter fun k => decide (fi.getD k 0 = p) || cov ds H p k
  else
    let b := (dof ds p).filter fun k => decide (fi.getD k 0 = p)
    let r := (dof ds p).filter fun k => !decide (k ∈ b)
    if decide (1 < b.length) || !r.all (cov ds H p) then [] else if b.all (cov ds H p) then b ++ r else b
theorem held_at {k : Nat} (hk : k < H.length) : atI (H.map fun h => D.lst (h.map nD)) (k : Int) = some (.lst ((H.getD k []).map nD)) := by
  rw [atI_map, List.getD_eq_getElem?_getD, List.getElem?_eq_getElem hk]
  rfl
theorem is_covered_w (hH : H.length = ds.length) {k : Nat} (hk : k < ds.length) (p : Nat) : f_Agents_is_covered [agD n ds F fi LG H, .int (p : Nat), .int (k : Nat)] = some (.bl (cov ds H p k)) := by
  have e : ds[k]? = some ds[k] := List.getElem?_eq_getElem hk
  have oo := other_of_w (n := n) e p
  have q := held_at (H := H) (k := k) (by omega)
  have w : seqD [] (hldD H) = some (H.map fun h => D.lst (h.map nD)) := rfl
  unfold cov
  rw [getD_of e]
  simp [f_Agents_is_covered, b_Agents_is_covered, run_eq, startR, g_deals, g_held, oo, w, q, -List.getD_eq_getElem?_getD]
theorem is_done_w (hH : H.length = ds.length) {k : Nat} (hk : k < ds.length) : f_Agents_is_done [agD n ds F fi LG H, .int (k : Nat)] = some (.bl (decide ((H.getD k []).length = 2))) := by
  have q := held_at (H := H) (k := k) (by omega)
  have w : seqD [] (hldD H) = some (H.map fun h => D.lst (h.map nD)) := rfl
  have ee : ∀ a : Nat, decide ((a : Int) = 2) = decide (a = 2) := fun a => eqB_nat a 2
  simp [f_Agents_is_done, b_Agents_is_done, run_eq, startR, g_held, w, q, ee, -List.getD_eq_getElem?_getD]
theorem cov_call {ρ : Rho} {S : Sto} {p k : Nat} {i5 : Nat} (hH : H.length = ds.length) (hk : k < ds.length) (h0 : ρ[0]? = some (some (agD n ds F fi LG H))) (h1 : ρ[1]? = some (some (.int (p : Nat)))) (h5 : ρ[5]? = some (some (.int (k : Nat)))) :
    mP "Agents" "is_covered" f_Agents_is_covered (eV 0) (aCons (eV 1) (aCons (eV 5) (aNil))) ρ S = some (.bl (cov ds H p k)) := by
  rw [mP_nr (o := agD n ds F fi LG H) (ds := [.int (p : Nat), .int (k : Nat)]) (by simp [h0]) (o_agD _) noF_a1 (by simp [h1, h5]) (by simp)]
  exact is_covered_w hH hk p
theorem wishes_w (hH : H.length = ds.length) (hfi : fi.length = ds.length) (hl : ds.length ≤ 1000) (p : Nat) : f_Agents_wishes [agD n ds F fi LG H, .int (p : Nat)] = some ((wishL ds F fi H p).map nD) := by
  have dl := (dof_ok ds p).len
  have din := (dof_ok ds p).2
  have fiq : ∀ k ∈ dof ds p, atI (fi.map nD) (k : Int) = some (.int (fi.getD k 0 : Nat)) := fun k hk => by
    have hk' : k < fi.length := by rw [hfi]; exact din k hk
    rw [atI_nD hk', List.getD_eq_getElem?_getD, List.getElem?_eq_getElem hk']
    rfl
  let E (x3 x4 : Option D) : Rho := [some (agD n ds F fi LG H), some (.int (p : Nat)), some (.lst ((dof ds p).map nD)), x3, x4, none]
  have s1 : sSet 2 (eFn f_deals_of (aCons (e1 (gAttr "Agents" "deals") (eV 0)) (aCons (eV 1) (aNil)))) (startR 6 [agD n ds F fi LG H, .int (p : Nat)]) [] = some (.nx, E none none, []) := by
    simp [startR, g_deals, deals_of_w n ds p (by omega), E]
  by_cases hf : p ∈ F
  · have c := fcomp_of (f := jSeqD (eV 2)) (vs := [5]) (g := gN 5) (t := bOr (eB (e2 gEq (e2 gIx (e1 (gAttr "Agents" "firsts") (eV 0)) (eV 5)) (eV 1))) (eTru (mP "Agents" "is_covered" f_Agents_is_covered (eV 0) (aCons (eV 1) (aCons (eV 5) (aNil)))))) (e := eV 5) (ρ := E none none) (S := []) nD (dof ds p) (fun k => decide (fi.getD k 0 = p) || cov ds H p k) nD (by simp [E]) (by omega) (fun k hk => ⟨_, rfl, by
      rw [x_bOr, x_eTru, cov_call (i5 := 5) hH (din k hk) rfl rfl rfl]
      simp [E, g_firsts, fiq k hk, eqB_nat, -List.getD_eq_getElem?_getD], fun _ => rfl⟩)
    have e : wishL ds F fi H p = (dof ds p).filter fun k => decide (fi.getD k 0 = p) || cov ds H p k := if_pos hf
    rw [e]
    refine runF_rf (S1 := []) (ρ1 := E none none) ?_ (by simp)
    unfold b_Agents_wishes
    refine seq_nx s1 ?_
    rw [x_sSeq, if_t (r := some (.rf (((dof ds p).filter fun k => decide (fi.getD k 0 = p) || cov ds H p k).map nD), E none none, [])) (by simp [E, g_content, hf]) (by rw [x_sRetF, c]; rfl)]
    rfl
  · have c1 := fcomp_of (f := jSeqD (eV 2)) (vs := [5]) (g := gN 5) (t := eB (e2 gEq (e2 gIx (e1 (gAttr "Agents" "firsts") (eV 0)) (eV 5)) (eV 1))) (e := eV 5) (ρ := E none none) (S := []) nD (dof ds p) (fun k => decide (fi.getD k 0 = p)) nD (by simp [E]) (by omega) (fun k hk => ⟨_, rfl, by
      simp [E, g_firsts, fiq k hk, eqB_nat, -List.getD_eq_getElem?_getD], fun _ => rfl⟩)
    generalize hb : (dof ds p).filter (fun k => decide (fi.getD k 0 = p)) = b at c1
    have c2 := fcomp_of (f := jSeqD (eV 2)) (vs := [5]) (g := gN 5) (t := eB (e2 (gInS true) (eV 5) (eV 3))) (e := eV 5) (ρ := E (some (.ref 0)) none) (S := [.lst (b.map nD)]) nD (dof ds p) (fun k => !decide (k ∈ b)) nD (by simp [E]) (by omega) (fun k hk => ⟨_, rfl, by simp [E], fun _ => rfl⟩)
    generalize hr : (dof ds p).filter (fun k => !decide (k ∈ b)) = r at c2
    have bin : ∀ k ∈ b, k < ds.length := fun k hk => by rw [← hb] at hk; exact din k (List.mem_filter.mp hk).1
    have rin : ∀ k ∈ r, k < ds.length := fun k hk => by rw [← hr] at hk; exact din k (List.mem_filter.mp hk).1
    have bl : b.length ≤ ds.length := by rw [← hb]; exact Nat.le_trans (List.length_filter_le _ _) dl
    have rl : r.length ≤ ds.length := by rw [← hr]; exact Nat.le_trans (List.length_filter_le _ _) dl
    have c3 := fcomp_all (f := jSeqD (eV 4)) (vs := [5]) (g := gN 5) (e := mP "Agents" "is_covered" f_Agents_is_covered (eV 0) (aCons (eV 1) (aCons (eV 5) (aNil)))) (ρ := E (some (.ref 0)) (some (.lst (r.map nD)))) (S := [.lst (b.map nD)]) nD r (fun k => .bl (cov ds H p k)) (by simp [E]) (by omega) (fun k hk => ⟨_, rfl, cov_call (i5 := 5) hH (rin k hk) rfl rfl rfl⟩)
    have c4 := fcomp_all (f := jSeqD (eV 3)) (vs := [5]) (g := gN 5) (e := mP "Agents" "is_covered" f_Agents_is_covered (eV 0) (aCons (eV 1) (aCons (eV 5) (aNil)))) (ρ := E (some (.ref 0)) (some (.lst (r.map nD)))) (S := [.lst (b.map nD)]) nD b (fun k => .bl (cov ds H p k)) (by simp [E]) (by omega) (fun k hk => ⟨_, rfl, cov_call (i5 := 5) hH (bin k hk) rfl rfl rfl⟩)
    have ew : wishL ds F fi H p = if decide (1 < b.length) || !r.all (cov ds H p) then [] else if b.all (cov ds H p) then b ++ r else b := by
      unfold wishL
      rw [if_neg hf]
      simp only [hb, hr]
    rw [ew]
    have i1 : decide ((1 : Int) < (b.length : Nat)) = decide (1 < b.length) := by
      by_cases h : 1 < b.length
      · have : (1 : Int) < (b.length : Nat) := by omega
        simp only [decide_eq_true h, decide_eq_true this]
      · have : ¬ (1 : Int) < (b.length : Nat) := by omega
        simp only [decide_eq_false h, decide_eq_false this]
    have pre : ∀ (rest : T) (x : Option (Fl × Rho × Sto)), sSeq (sIf (bOr (eB (e2 gGt (eCall cLen (aCons (eV 3) (aNil))) (eC (.int 1)))) (bNot (eTru (eCall cAll (aCons (eF (fComp (jSeqD (eV 4)) [5] (gN 5) (bYes) (mP "Agents" "is_covered" f_Agents_is_covered (eV 0) (aCons (eV 1) (aCons (eV 5) (aNil)))))) (aNil)))))) (sRetF (fLst (aNil))) (sSkip)) (sRetR (rIf (eTru (eCall cAll (aCons (eF (fComp (jSeqD (eV 3)) [5] (gN 5) (bYes) (mP "Agents" "is_covered" f_Agents_is_covered (eV 0) (aCons (eV 1) (aCons (eV 5) (aNil)))))) (aNil)))) (rF (f2 gCatF (eV 3) (eV 4))) (rE (eV 3)))) (E (some (.ref 0)) (some (.lst (r.map nD)))) [.lst (b.map nD)] = x →
        b_Agents_wishes (startR 6 [agD n ds F fi LG H, .int (p : Nat)]) [] = x := fun _ x hx => by
      unfold b_Agents_wishes
      refine seq_nx s1 (seq_nx (if_f (by simp [E, g_content, hf]) rfl) (seq_nx (ρ1 := E (some (.ref 0)) none) (S1 := [.lst (b.map nD)]) (by rw [x_sNew, c1]; rfl) (seq_nx (ρ1 := E (some (.ref 0)) (some (.lst (r.map nD)))) (S1 := [.lst (b.map nD)]) (by rw [x_sSet, x_eF, c2]; rfl) hx)))
    have tst : (bOr (eB (e2 gGt (eCall cLen (aCons (eV 3) (aNil))) (eC (.int 1)))) (bNot (eTru (eCall cAll (aCons (eF (fComp (jSeqD (eV 4)) [5] (gN 5) (bYes) (mP "Agents" "is_covered" f_Agents_is_covered (eV 0) (aCons (eV 1) (aCons (eV 5) (aNil)))))) (aNil)))))) (E (some (.ref 0)) (some (.lst (r.map nD)))) [.lst (b.map nD)] = some (decide (1 < b.length) || !r.all (cov ds H p)) := by
      simp only [x_bOr, x_bNot, x_eTru, x_eCall, x_aCons, x_eF, x_aNil, c3]
      have g1 : ∀ i j : Int, gGt [.lst (b.map nD)] (.int i) (.int j) = some (.bl (decide (i > j))) := fun i j => rfl
      have sq : seqD [.lst (b.map nD)] (.ref 0) = some (b.map nD) := rfl
      simp only [x_eB, x_e2, x_eCall, x_aCons, x_aNil, x_eV, x_eC, E, List.getElem?_cons_succ, List.getElem?_cons_zero, Option.bind_some, Option.map_some, id, k_len, sq, g1, asB_bl, List.length_map, k_allM, t_bl, orB_bb, gt_iff_lt, i1]
    have t2 : (eTru (eCall cAll (aCons (eF (fComp (jSeqD (eV 3)) [5] (gN 5) (bYes) (mP "Agents" "is_covered" f_Agents_is_covered (eV 0) (aCons (eV 1) (aCons (eV 5) (aNil)))))) (aNil)))) (E (some (.ref 0)) (some (.lst (r.map nD)))) [.lst (b.map nD)] = some (b.all (cov ds H p)) := by
      simp only [x_eTru, x_eCall, x_aCons, x_eF, x_aNil, c4, Option.map_some, Option.bind_some, k_allM, t_bl]
    cases h1 : (decide (1 < b.length) || !r.all (cov ds H p)) with
    | true =>
      rw [h1] at tst
      rw [if_pos rfl]
      refine runF_rf (S1 := [.lst (b.map nD)]) (ρ1 := E (some (.ref 0)) (some (.lst (r.map nD)))) (pre sSkip _ ?_) (by simp)
      rw [x_sSeq, if_t (r := some (.rf [], E (some (.ref 0)) (some (.lst (r.map nD))), [.lst (b.map nD)])) tst rfl]
      rfl
    | false =>
      rw [h1] at tst
      rw [if_neg (by decide)]
      cases h2 : b.all (cov ds H p) with
      | true =>
        rw [h2] at t2
        rw [if_pos rfl]
        refine runF_rf (S1 := [.lst (b.map nD)]) (ρ1 := E (some (.ref 0)) (some (.lst (r.map nD)))) (pre sSkip _ (seq_nx (if_f tst rfl) ?_)) (by simp)
        have cat : gCatF [.lst (b.map nD)] (.ref 0) (.lst (r.map nD)) = some (b.map nD ++ r.map nD) := by
          have : small ((b.map nD).length + (r.map nD).length) = true := by
            simp only [List.length_map, small_eq]
            exact decide_eq_true (by omega)
          unfold gCatF
          show (Option.bind (some (b.map nD)) fun a => (Option.bind (some (r.map nD)) fun c => if small (a.length + c.length) then some (a ++ c) else none)) = _
          simp only [Option.bind_some, this, if_true]
        unfold sRetR
        rw [x_rIf, t2, Option.bind_some, if_pos rfl, x_rF, x_f2]
        show Option.map _ (Option.map _ ((some (D.ref 0)).bind fun x => (some (D.lst (r.map nD))).bind fun y => gCatF [.lst (b.map nD)] x y)) = _
        rw [Option.bind_some, Option.bind_some, cat, List.map_append]
        rfl
      | false =>
        rw [h2] at t2
        rw [if_neg (by decide)]
        refine runF_rt (m := 0) (S1 := [.lst (b.map nD)]) (ρ1 := E (some (.ref 0)) (some (.lst (r.map nD)))) (pre sSkip _ (seq_nx (if_f tst rfl) ?_)) rfl (by simp)
        unfold sRetR
        rw [x_rIf, t2, Option.bind_some, if_neg (by decide), x_rE]
        rfl
end
end DL

set_option maxHeartbeats 1000000
namespace DL
open PySem PySem.Spec L2
/-- a loop over a cell that stays -/
theorem loopC_inv {n : Nat} {full : List D} {g : G} {body : T} {ds : List D} {ρ : Rho} {S : Sto} (P : Nat → Rho → Sto → Prop) (h0 : P 0 ρ S) (hc : ∀ i ρ S, P i ρ S → S[n]? = some (.lst full))
    (step : ∀ i d ρ S, ds[i]? = some d → P i ρ S → ∃ ρ1 ρ2 S2, g d ρ = some ρ1 ∧ body ρ1 S = some (.nx, ρ2, S2) ∧ P (i + 1) ρ2 S2) :
    ∃ ρ' S', loopC n full g body ds ρ S = some (.nx, ρ', S') ∧ P ds.length ρ' S' := by
  induction ds generalizing ρ S P with
  | nil =>
    refine ⟨ρ, S, ?_, h0⟩
    unfold loopC
    rw [if_pos (hc 0 ρ S h0)]
  | cons d ds ih =>
    obtain ⟨ρ1, ρ2, S2, h1, h2, h4⟩ := step 0 d ρ S rfl h0
    obtain ⟨ρ', S', h5, h6⟩ := ih (fun i => P (i + 1)) h4 (fun i ρ S h => hc (i + 1) ρ S h) fun i d ρ S e p => step (i + 1) d ρ S (by simpa using e) p
    refine ⟨ρ', S', ?_, h6⟩
    unfold loopC
    rw [if_pos (hc 0 ρ S h0), h1, Option.bind_some, h2, Option.bind_some]
    exact h5
mutual
theorem rb_nr (n : Nat) : ∀ d : D, nr d = true → rb n d = true
  | .non, _ => rfl
  | .bl _, _ => rfl
  | .int _, _ => rfl
  | .str _, _ => rfl
  | .ty _, _ => rfl
  | .scr _, _ => rfl
  | .ref _, h => by simp at h
  | .tup ds, h => rbs_nr n ds h
  | .lst ds, h => rbs_nr n ds h
  | .dic t ks vs, h => rbs_nr n vs h
  | .ins c fs vs, h => rbs_nr n vs h
theorem rbs_nr (n : Nat) : ∀ ds : List D, nrs ds = true → rbs n ds = true
  | [], _ => rfl
  | d :: ds, h => by
    rw [nrs_cons, Bool.and_eq_true] at h
    show (rb n d && rbs n ds) = true
    rw [rb_nr n d h.1, rbs_nr n ds h.2]
    rfl
end
def totH (H : Hld) : Nat := (H.map List.length).sum
theorem totH_set : ∀ (H : Hld) (k p : Nat), k < H.length → totH (H.set k (H.getD k [] ++ [p])) = totH H + 1
  | [], _, _, h => by simp at h
  | h :: H, 0, p, _ => by
    simp [totH]
    omega
  | h :: H, k + 1, p, hk => by
    have ih := totH_set H k p (by simpa using hk)
    unfold totH at ih ⊢
    have g : (h :: H).getD (k + 1) [] = H.getD k [] := by simp
    rw [g, List.set_cons_succ, List.map_cons, List.sum_cons, List.map_cons, List.sum_cons, ih]
    omega
/-- who has done own sides -/
structure GoodH (ds : List (Nat × Nat)) (H : Hld) : Prop where
  len : H.length = ds.length
  ok : ∀ (k : Nat) (d : Nat × Nat), ds[k]? = some d → (H.getD k []).Nodup ∧ ∀ x ∈ H.getD k [], x = d.1 ∨ x = d.2
theorem GoodH.two {ds : List (Nat × Nat)} {H : Hld} (h : GoodH ds H) {k : Nat} (hk : k < ds.length) : (H.getD k []).length ≤ 2 := by
  obtain ⟨h1, h2⟩ := h.ok k _ (List.getElem?_eq_getElem hk)
  have := List.Nodup.length_le_of_subset (l₂ := [ds[k].1, ds[k].2]) h1 fun x hx => by simpa using h2 x hx
  simpa using this
theorem sum_le : ∀ (l : List Nat) (b : Nat), (∀ x ∈ l, x ≤ b) → l.sum ≤ b * l.length
  | [], _, _ => by simp
  | a :: l, b, h => by
    have ih := sum_le l b fun x hx => h x (List.mem_cons_of_mem _ hx)
    have h1 := h a List.mem_cons_self
    rw [List.sum_cons, List.length_cons, Nat.mul_succ]
    omega
theorem GoodH.tot {ds : List (Nat × Nat)} {H : Hld} (h : GoodH ds H) : totH H ≤ 2 * ds.length := by
  have := sum_le (H.map List.length) 2 fun x hx => by
    obtain ⟨l, hl, rfl⟩ := List.mem_map.mp hx
    obtain ⟨k, hk, rfl⟩ := List.getElem_of_mem hl
    have := h.two (k := k) (by rw [← h.len]; exact hk)
    rwa [List.getD_eq_getElem?_getD, List.getElem?_eq_getElem hk] at this
  rw [List.length_map, h.len] at this
  exact this
theorem getD_set {H : Hld} {k j : Nat} {v : List Nat} (hk : k < H.length) : (H.set k v).getD j [] = if j = k then v else H.getD j [] := by
  rw [List.getD_eq_getElem?_getD, List.getD_eq_getElem?_getD, List.getElem?_set]
  by_cases e : k = j
  · subst e
    simp [hk]
  · have e' : ¬ j = k := fun z => e z.symm
    simp [e, e']
theorem GoodH.add {ds : List (Nat × Nat)} {H : Hld} (h : GoodH ds H) {k p : Nat} (hk : k ∈ dof ds p) (hp : p ∉ H.getD k []) : GoodH ds (H.set k (H.getD k [] ++ [p])) := by
  have hkl := (dof_ok ds p).2 k hk
  refine ⟨by rw [List.length_set]; exact h.len, fun j d e => ?_⟩
  rw [getD_set (by rw [h.len]; exact hkl)]
  by_cases ej : j = k
  · subst ej
    rw [if_pos rfl]
    obtain ⟨a, b⟩ := h.ok j d e
    refine ⟨List.nodup_append.mpr ⟨a, by simp, fun x hx y hy e => ?_⟩, fun x hx => ?_⟩
    · simp at hy
      subst hy e
      exact hp hx
    · rcases List.mem_append.mp hx with hx | hx
      · exact b x hx
      · rw [List.mem_singleton.mp hx]
        obtain ⟨d', e', hd⟩ := mem_dof.mp hk
        rw [e] at e'
        cases e'
        exact hd
  · rw [if_neg ej]
    exact h.ok j d e
section
variable {n : Nat} {ds : List (Nat × Nat)} {F fi LG : List Nat} {H : Hld}
theorem wish_dof {p k : Nat} (h : k ∈ wishL ds F fi H p) : k ∈ dof ds p := by
  unfold wishL at h
  split at h
  · exact (List.mem_filter.mp h).1
  · simp only at h
    split at h
    · simp at h
    · split at h
      · rcases List.mem_append.mp h with h | h
        · exact (List.mem_filter.mp h).1
        · exact (List.mem_filter.mp h).1
      · exact (List.mem_filter.mp h).1
theorem wish_len (p : Nat) : (wishL ds F fi H p).length ≤ 2 * ds.length := by
  have dl := (dof_ok ds p).len
  have f : ∀ q : Nat → Bool, ((dof ds p).filter q).length ≤ ds.length := fun q => Nat.le_trans (List.length_filter_le _ _) dl
  unfold wishL
  split
  · have := f (fun k => decide (fi.getD k 0 = p) || cov ds H p k); omega
  · simp only
    split
    · simp
    · split
      · rw [List.length_append]
        have a := f (fun k => decide (fi.getD k 0 = p))
        have b := f (fun k => !decide (k ∈ (dof ds p).filter fun k => decide (fi.getD k 0 = p)))
        omega
      · have := f (fun k => decide (fi.getD k 0 = p)); omega
/-- all wishes, person by person, behind what is told -/
def wishAll (ds : List (Nat × Nat)) (F fi LG : List Nat) (G0 : List (Nat × Nat)) (H : Hld) : Nat → List (Nat × Nat)
  | 0 => G0
  | i + 1 => wishAll ds F fi LG G0 H i ++ if i ∈ LG then [] else (wishL ds F fi H i).map fun k => (i, k)
theorem mem_wishAll {x : Nat × Nat} {G0 : List (Nat × Nat)} : ∀ i, x ∈ wishAll ds F fi LG G0 H i ↔ x ∈ G0 ∨ (x.1 < i ∧ x.1 ∉ LG ∧ x.2 ∈ wishL ds F fi H x.1)
  | 0 => by simp [wishAll]
  | i + 1 => by
    rw [wishAll, List.mem_append, mem_wishAll i]
    by_cases hi : i ∈ LG
    · rw [if_pos hi]
      constructor
      · rintro ((h | ⟨a, b⟩) | h)
        · exact .inl h
        · exact .inr ⟨by omega, b⟩
        · simp at h
      · rintro (h | ⟨a, b, c⟩)
        · exact .inl (.inl h)
        · have : x.1 ≠ i := fun e => b (by rw [e]; exact hi)
          exact .inl (.inr ⟨by omega, b, c⟩)
    · rw [if_neg hi, List.mem_map]
      constructor
      · rintro ((h | ⟨a, b⟩) | ⟨k, hk, rfl⟩)
        · exact .inl h
        · exact .inr ⟨by omega, b⟩
        · exact .inr ⟨by simp, hi, hk⟩
      · rintro (h | ⟨a, b, c⟩)
        · exact .inl (.inl h)
        · by_cases e : x.1 = i
          · exact .inr ⟨x.2, by rw [← e]; exact c, by rw [← e]⟩
          · exact .inl (.inr ⟨by omega, b, c⟩)
theorem wishAll_len {G0 : List (Nat × Nat)} : ∀ i, (wishAll ds F fi LG G0 H i).length ≤ G0.length + i * (2 * ds.length)
  | 0 => by simp [wishAll]
  | i + 1 => by
    have := wishAll_len (G0 := G0) i
    have w := wish_len (ds := ds) (F := F) (fi := fi) (H := H) i
    rw [wishAll, List.length_append, Nat.succ_mul]
    split
    · simp; omega
    · rw [List.length_map]; omega
def FixH (n : Nat) (ds : List (Nat × Nat)) (F fi LG : List Nat) (H : Hld) : Prop := ∀ p < n, p ∉ LG → ∀ k ∈ wishL ds F fi H p, p ∈ H.getD k []
theorem agS_set (T : Sto) {k : Nat} (hk : k < H.length) (v : List Nat) : (agS n ds F fi LG H ++ T).set (2 + k) (.lst (v.map nD)) = agS n ds F fi LG (H.set k v) ++ T := by
  have e : 2 + k = k + 1 + 1 := by omega
  rw [e]
  unfold agS
  rw [List.cons_append, List.cons_append, List.set_cons_succ, List.set_cons_succ, List.set_append_left _ _ (by simpa using hk), List.length_set, ← List.map_set]
  rfl
end
end DL

set_option maxHeartbeats 1000000
namespace DL
open PySem PySem.Spec L2
section
variable {n : Nat} {ds : List (Nat × Nat)} {F fi LG : List Nat} {H : Hld} {G0 : List (Nat × Nat)}
def stE (G0 : List (Nat × Nat)) (m : Nat) (x3 x4 x5 : Option D) : Rho := [some (.ref 0), some (.lst (G0.map pairD)), some (.ref m), x3, x4, x5]
theorem step_all (W : DealsOk n ds) (h0 : G0.length ≤ 1000) (hH : H.length = ds.length) (hfi : fi.length = ds.length) :
    ∃ x3, loopL (gN 3) l1_Agents_step ((List.range n).map nD) (stE G0 (H.length + 2) none none none) (agS n ds F fi LG H ++ [Cell.lst (G0.map pairD)]) = some (.nx, stE G0 (H.length + 2) x3 none none, agS n ds F fi LG H ++ [Cell.lst ((wishAll ds F fi LG G0 H n).map pairD)]) := by
  have hr := W.r10
  have hn := W.n6
  obtain ⟨ρ', S', e, x3, rfl, rfl⟩ := loop_inv (g := gN 3) (body := l1_Agents_step) (ds := (List.range n).map nD) (ρ := stE G0 (H.length + 2) none none none) (S := agS n ds F fi LG H ++ [Cell.lst (G0.map pairD)])
    (fun i ρ S => ∃ x3, ρ = stE G0 (H.length + 2) x3 none none ∧ S = agS n ds F fi LG H ++ [Cell.lst ((wishAll ds F fi LG G0 H i).map pairD)]) ⟨none, rfl, rfl⟩ (by
      rintro i d ρ S hi ⟨x3, rfl, rfl⟩
      obtain ⟨hlt, rfl⟩ := nth_range hi
      have wl := wishAll_len (ds := ds) (F := F) (fi := fi) (LG := LG) (G0 := G0) (H := H) i
      have w1 := wish_len (ds := ds) (F := F) (fi := fi) (H := H) i
      have b1 : i * (2 * ds.length) ≤ 6 * 20 := Nat.mul_le_mul (by omega) (by omega)
      generalize hG : wishAll ds F fi LG G0 H i = G at wl
      have m1 : mF "Agents" "wishes" f_Agents_wishes (eV 0) (aCons (eV 3) (aNil)) (stE G0 (H.length + 2) (some (.int (i : Nat))) none none) (agS n ds F fi LG H ++ [Cell.lst (G.map pairD)]) = some ((wishL ds F fi H i).map nD) := by
        refine mF_fz (o := .ref 0) (ds := [.int (i : Nat)]) (es := [agD n ds F fi LG H, .int (i : Nat)]) rfl (o_agS _) noF_a2 rfl rfl ?_ (wishes_w hH hfi (by omega) i) (imms_nD _)
        simp only [fzs, fz_agS, fz_int, Option.bind_some, Option.map_some]
      have c := fcomp_all (f := jSeqD (eF (mF "Agents" "wishes" f_Agents_wishes (eV 0) (aCons (eV 3) (aNil))))) (vs := [5]) (g := gN 5) (e := eTup (aCons (eV 3) (aCons (eV 5) (aNil)))) (ρ := stE G0 (H.length + 2) (some (.int (i : Nat))) none none) (S := agS n ds F fi LG H ++ [Cell.lst (G.map pairD)]) nD (wishL ds F fi H i) (fun k => pairD (i, k)) (by rw [x_jSeqD, x_eF, m1]; rfl) (by omega) (fun k hk => ⟨_, rfl, by simp [stE]; rfl⟩)
      have cl : cellD (agS n ds F fi LG H ++ [Cell.lst (G.map pairD)]) (.ref (H.length + 2)) = some (H.length + 2, G.map pairD) := by
        refine qc_ref ?_
        rw [List.getElem?_append_right (by rw [agS_len]; exact Nat.le_refl _), agS_len]
        simp
      refine ⟨_, stE G0 (H.length + 2) (some (.int (i : Nat))) none none, agS n ds F fi LG H ++ [Cell.lst ((wishAll ds F fi LG G0 H (i + 1)).map pairD)], .nx, rfl, ?_, .inl rfl, _, rfl, rfl⟩
      show l1_Agents_step (stE G0 (H.length + 2) (some (.int (i : Nat))) none none) _ = _
      unfold l1_Agents_step
      by_cases hi : i ∈ LG
      · refine if_f (by simp [stE, h_league, hi]) ?_
        rw [wishAll, hG, if_pos hi, List.append_nil]
        rfl
      · refine if_t (by simp [stE, h_league, hi]) ?_
        have sm : small ((G.map pairD).length + ((wishL ds F fi H i).map fun k => pairD (i, k)).length) = true := by
          simp only [List.length_map, small_eq]
          exact decide_eq_true (by omega)
        rw [x_sExt, x_eF, c]
        have e22 : eV 2 (stE G0 (H.length + 2) (some (.int (i : Nat))) none none) (agS n ds F fi LG H ++ [Cell.lst (G.map pairD)]) = some (.ref (H.length + 2)) := rfl
        rw [e22]
        simp only [Option.bind_some, Option.map_some, ql_lst, cl, sm, if_true]
        have st : (agS n ds F fi LG H ++ [Cell.lst (G.map pairD)]).set (H.length + 2) (.lst (G.map pairD ++ (wishL ds F fi H i).map fun k => pairD (i, k))) = agS n ds F fi LG H ++ [Cell.lst ((wishAll ds F fi LG G0 H (i + 1)).map pairD)] := by
          rw [List.set_append_right _ _ (by rw [agS_len]; exact Nat.le_refl _), agS_len, wishAll, hG, if_neg hi]
          simp [List.map_append, List.map_map, Function.comp_def]
        rw [st])
  refine ⟨x3, ?_⟩
  simpa using e
/-- what a step makes of it -/
structure Stp (H H' : Hld) (G : List (Nat × Nat)) : Prop where
  mono : ∀ k x, x ∈ H.getD k [] → x ∈ H'.getD k []
  new : ∀ k x, x ∈ H'.getD k [] → x ∈ H.getD k [] ∨ (x, k) ∈ G
  all : ∀ x ∈ G, x.1 ∈ H'.getD x.2 []
theorem step_put (W : DealsOk n ds) (g : GoodH ds H) {G : List (Nat × Nat)} (hG : ∀ x ∈ G, x.2 ∈ dof ds x.1) (x3 : Option D) :
    ∃ ch H' y3 y5, loopC (H.length + 2) (G.map pairD) (gT 2 (gCons (gN 3) (gCons (gN 5) (gNil)))) l2_Agents_step (G.map pairD) (stE G0 (H.length + 2) x3 (some (.bl false)) none) (agS n ds F fi LG H ++ [Cell.lst (G.map pairD)]) = some (.nx, stE G0 (H.length + 2) y3 (some (.bl ch)) y5, agS n ds F fi LG H' ++ [Cell.lst (G.map pairD)]) ∧ GoodH ds H' ∧ Stp H H' G ∧ ((ch = false ∧ H' = H) ∨ (ch = true ∧ totH H + 1 ≤ totH H')) := by
  have hr := W.r10
  have tt := g.tot
  have hH := g.len
  obtain ⟨ρ', S', e, ch, H', y3, y5, rfl, rfl, g', m1, m2, m3, k⟩ := loopC_inv (n := H.length + 2) (full := G.map pairD) (g := gT 2 (gCons (gN 3) (gCons (gN 5) (gNil)))) (body := l2_Agents_step) (ds := G.map pairD) (ρ := stE G0 (H.length + 2) x3 (some (.bl false)) none) (S := agS n ds F fi LG H ++ [Cell.lst (G.map pairD)])
    (fun i ρ S => ∃ (ch : Bool) (H' : Hld) (y3 y5 : Option D), ρ = stE G0 (H.length + 2) y3 (some (.bl ch)) y5 ∧ S = agS n ds F fi LG H' ++ [Cell.lst (G.map pairD)] ∧ GoodH ds H' ∧ (∀ k x, x ∈ H.getD k [] → x ∈ H'.getD k []) ∧ (∀ k x, x ∈ H'.getD k [] → x ∈ H.getD k [] ∨ (x, k) ∈ G) ∧ (∀ j x, j < i → G[j]? = some x → x.1 ∈ H'.getD x.2 []) ∧ ((ch = false ∧ H' = H) ∨ (ch = true ∧ totH H + 1 ≤ totH H')))
    ⟨false, H, x3, none, rfl, rfl, g, fun _ _ h => h, fun _ _ h => .inl h, fun j x h => by omega, .inl ⟨rfl, rfl⟩⟩ (by
      rintro i ρ S ⟨ch, H', y3, y5, rfl, rfl, g', _⟩
      have : H.length + 2 = (agS n ds F fi LG H').length := by rw [agS_len, g'.len, hH]
      rw [this, List.getElem?_append_right (Nat.le_refl _)]
      simp) (by
      rintro i d ρ S hi ⟨ch, H', y3, y5, rfl, rfl, g', m1, m2, m3, k⟩
      have hlt : i < G.length := by
        have := (List.getElem?_eq_some_iff.mp hi).1
        simpa using this
      obtain ⟨⟨p, q⟩, hx⟩ : ∃ x, G[i]? = some x := ⟨_, List.getElem?_eq_getElem hlt⟩
      have hd : d = pairD (p, q) := by
        rw [List.getElem?_map, hx] at hi
        simpa using hi.symm
      subst hd
      have hq : q ∈ dof ds p := hG _ (List.mem_of_getElem? hx)
      have hql : q < H'.length := by rw [g'.len]; exact (dof_ok ds p).2 q hq
      have cell := agS_at (n := n) (ds := ds) (F := F) (fi := fi) (LG := LG) (H := H') [Cell.lst (G.map pairD)] hql
      have gd : H'.getD q [] = H'[q] := by rw [List.getD_eq_getElem?_getD, List.getElem?_eq_getElem hql]; rfl
      rw [← gd] at cell
      have sq : seqD (agS n ds F fi LG H' ++ [Cell.lst (G.map pairD)]) (.ref 1) = some ((List.range H'.length).map fun k => .ref (2 + k)) := rfl
      have ix : atI ((List.range H'.length).map fun k => D.ref (2 + k)) (q : Int) = some (.ref (2 + q)) := by
        rw [atI_map, List.getElem?_range hql]; rfl
      have inq := y_inR cell true p
      have cq : cellD (agS n ds F fi LG H' ++ [Cell.lst (G.map pairD)]) (.ref (2 + q)) = some (2 + q, (H'.getD q []).map nD) := qc_ref cell
      have two := g'.two (k := q) (by rw [← g'.len]; exact hql)
      have t : (eB (e2 (gInS true) (eV 3) (e2 gIx (e1 (gAttr "Agents" "held") (eV 0)) (eV 5)))) (stE G0 (H.length + 2) (some (.int (p : Nat))) (some (.bl ch)) (some (.int (q : Nat)))) (agS n ds F fi LG H' ++ [Cell.lst (G.map pairD)]) = some (!decide (p ∈ H'.getD q [])) := by
        simp [stE, h_held, sq, ix, inq, -List.getD_eq_getElem?_getD]
      by_cases hp : p ∈ H'.getD q []
      · rw [decide_eq_true hp] at t
        refine ⟨_, _, _, rfl, if_f t rfl, ch, H', _, _, rfl, rfl, g', m1, m2, fun j x hj e => ?_, k⟩
        by_cases ej : j = i
        · subst ej
          rw [hx] at e
          cases e
          exact hp
        · exact m3 j x (by omega) e
      · rw [decide_eq_false hp] at t
        have gs : ∀ j, (H'.set q (H'.getD q [] ++ [p])).getD j [] = if j = q then H'.getD q [] ++ [p] else H'.getD j [] := fun j => getD_set hql
        refine ⟨_, stE G0 (H.length + 2) (some (.int (p : Nat))) (some (.bl true)) (some (.int (q : Nat))), agS n ds F fi LG (H'.set q (H'.getD q [] ++ [p])) ++ [Cell.lst (G.map pairD)], rfl, if_t t ?_, true, _, _, _, rfl, rfl, g'.add hq hp, fun j x h => ?_, fun j x h => ?_, fun j x hj e => ?_, .inr ⟨rfl, ?_⟩⟩
        · refine seq_nx (ρ1 := stE G0 (H.length + 2) (some (.int (p : Nat))) (some (.bl ch)) (some (.int (q : Nat)))) (S1 := agS n ds F fi LG (H'.set q (H'.getD q [] ++ [p])) ++ [Cell.lst (G.map pairD)]) ?_ rfl
          have sm : small ((H'.getD q []).map nD).length = true := by
            simp only [List.length_map, small_eq]
            exact decide_eq_true (by omega)
          rw [← agS_set _ hql]
          simp only [x_sApp, x_e2, x_e1, x_eV, stE, List.set, nD, List.getElem?_cons_succ, List.getElem?_cons_zero, Option.bind_some, id, h_held, y_ix, sq, ix, cq, sm, if_true, List.map_append]
          rfl
        · rw [gs]
          have := m1 j x h
          split
          · rename_i e; rw [e] at this; exact List.mem_append_left _ this
          · exact this
        · rw [gs] at h
          split at h
          · rename_i e
            rcases List.mem_append.mp h with h | h
            · rw [e]; exact m2 q x h
            · rw [List.mem_singleton.mp h, e]
              exact .inr (List.mem_of_getElem? hx)
          · exact m2 j x h
        · rw [gs]
          by_cases ej : j = i
          · subst ej
            rw [hx] at e
            cases e
            rw [if_pos rfl]
            exact List.mem_append_right _ (by simp)
          · have := m3 j x (by omega) e
            split
            · rename_i e'; rw [e'] at this; exact List.mem_append_left _ this
            · exact this
        · rw [totH_set H' q p hql]
          rcases k with ⟨_, b⟩ | ⟨_, k⟩
          · rw [b]; omega
          · omega)
  refine ⟨ch, H', y3, y5, e, g', ⟨m1, m2, fun x hx => ?_⟩, k⟩
  obtain ⟨j, hj, ej⟩ := List.getElem_of_mem hx
  exact m3 j x (by simpa using hj) (by rw [List.getElem?_eq_getElem hj, ej])
theorem agents_step_w (W : DealsOk n ds) (h0 : G0.length ≤ 1000) (hG0 : ∀ x ∈ G0, x.2 ∈ dof ds x.1) (g : GoodH ds H) (hfi : fi.length = ds.length) :
    ∃ ch H', f_Agents_step [.ref 0, .lst (G0.map pairD)] (agS n ds F fi LG H) = some (.bl ch, agS n ds F fi LG H') ∧ GoodH ds H' ∧ Stp H H' (wishAll ds F fi LG G0 H n) ∧ ((ch = false ∧ H' = H) ∨ (ch = true ∧ totH H + 1 ≤ totH H')) := by
  have hr := W.r10
  have hn := W.n6
  have hH := g.len
  obtain ⟨x3, p1⟩ := step_all (F := F) (LG := LG) W h0 hH hfi
  obtain ⟨ch, H', y3, y5, p2, g', stp, k⟩ := step_put (F := F) (fi := fi) (LG := LG) (G0 := G0) W g (G := wishAll ds F fi LG G0 H n) (fun x hx => ((mem_wishAll n).mp hx).elim (hG0 x) fun z => wish_dof z.2.2) x3
  refine ⟨ch, H', ?_, g', stp, k⟩
  · have hl : (agS n ds F fi LG H).length < (agS n ds F fi LG H' ++ [Cell.lst ((wishAll ds F fi LG G0 H n).map pairD)]).length := by
      rw [List.length_append, agS_len, agS_len, g'.len, hH]
      simp
    have tk : (agS n ds F fi LG H' ++ [Cell.lst ((wishAll ds F fi LG G0 H n).map pairD)]).take (agS n ds F fi LG H).length = agS n ds F fi LG H' := by
      have : (agS n ds F fi LG H).length = (agS n ds F fi LG H').length := by rw [agS_len, agS_len, g'.len, hH]
      rw [this, List.take_left']
      rfl
    have run := runS_cut (b := b_Agents_step) (n := 6) (ds := [.ref 0, .lst (G0.map pairD)]) (S := agS n ds F fi LG H) (S1 := agS n ds F fi LG H' ++ [Cell.lst ((wishAll ds F fi LG G0 H n).map pairD)]) (ρ1 := stE G0 (H.length + 2) y3 (some (.bl ch)) y5) (d := .bl ch) (by
      unfold b_Agents_step
      refine seq_nx (ρ1 := stE G0 (H.length + 2) none none none) (S1 := agS n ds F fi LG H ++ [Cell.lst (G0.map pairD)]) (by
        rw [x_sNew]
        have : fCall cList (aCons (eV 1) (aNil)) (startR 6 [.ref 0, .lst (G0.map pairD)]) (agS n ds F fi LG H) = some (G0.map pairD) := rfl
        rw [this, Option.map_some, agS_len]
        rfl) ?_
      refine seq_nx (ρ1 := stE G0 (H.length + 2) x3 none none) (S1 := agS n ds F fi LG H ++ [Cell.lst ((wishAll ds F fi LG G0 H n).map pairD)]) (by
        have q : (iRng rng1 (aCons (e2 gIx (e1 (gAttr "Agents" "deals") (eV 0)) (eC (.int 0))) (aNil))) (stE G0 (H.length + 2) none none none) (agS n ds F fi LG H ++ [Cell.lst (G0.map pairD)]) = some ((List.range n).map nD) := by
          simp [stE, h_deals, rng1_nat (by omega : n ≤ 1000000)]
        rw [x_sFor, q]
        exact p1) ?_
      refine seq_nx (ρ1 := stE G0 (H.length + 2) x3 (some (.bl false)) none) (S1 := agS n ds F fi LG H ++ [Cell.lst ((wishAll ds F fi LG G0 H n).map pairD)]) rfl ?_
      refine seq_nx (ρ1 := stE G0 (H.length + 2) y3 (some (.bl ch)) y5) (S1 := agS n ds F fi LG H' ++ [Cell.lst ((wishAll ds F fi LG G0 H n).map pairD)]) ?_ rfl
      unfold sForC
      have q : eV 2 (stE G0 (H.length + 2) x3 (some (.bl false)) none) (agS n ds F fi LG H ++ [Cell.lst ((wishAll ds F fi LG G0 H n).map pairD)]) = some (.ref (H.length + 2)) := rfl
      have cl : cellD (agS n ds F fi LG H ++ [Cell.lst ((wishAll ds F fi LG G0 H n).map pairD)]) (.ref (H.length + 2)) = some (H.length + 2, (wishAll ds F fi LG G0 H n).map pairD) := by
        refine qc_ref ?_
        rw [List.getElem?_append_right (by rw [agS_len]; exact Nat.le_refl _), agS_len]
        simp
      rw [q, Option.bind_some, cl, Option.bind_some]
      exact p2) hl rfl (by
      rw [tk]
      unfold agS
      rw [List.all_cons, List.all_cons, List.all_eq_true.mpr]
      · have a : rbC (H.length + 2) (.ins "Agents" agF [dealsD n ds, lotD F, lotD fi, lotD LG, .ref 1]) = true := by
          show (rb _ (dealsD n ds) && (rb _ (lotD F) && (rb _ (lotD fi) && (rb _ (lotD LG) && (rb (H.length + 2) (.ref 1) && true))))) = true
          rw [rb_nr _ _ (nr_dealsD n ds), rb_nr _ _ (nr_lotD F), rb_nr _ _ (nr_lotD fi), rb_nr _ _ (nr_lotD LG)]
          have : rb (H.length + 2) (.ref 1) = true := by
            show decide (1 < H.length + 2) = true
            exact decide_eq_true (by omega)
          rw [this]; rfl
        have b : ∀ (l : List Nat) (N : Nat), (∀ k ∈ l, 2 + k < N) → rbs N (l.map fun k => D.ref (2 + k)) = true := fun l N => by
          induction l with
          | nil => intro _; rfl
          | cons a l ih =>
            intro h
            show (decide (2 + a < N) && rbs N (l.map fun k => D.ref (2 + k))) = true
            rw [ih fun k hk => h k (List.mem_cons_of_mem _ hk), decide_eq_true (h a List.mem_cons_self)]
            rfl
        have b' : rbC (H.length + 2) (.lst ((List.range H'.length).map fun k => .ref (2 + k))) = true := b _ _ fun k hk => by
          have := List.mem_range.mp hk
          rw [g'.len] at this
          omega
        have el : (Cell.ins "Agents" agF [dealsD n ds, lotD F, lotD fi, lotD LG, .ref 1] :: .lst ((List.range H.length).map fun k => .ref (2 + k)) :: H.map fun h => .lst (h.map nD)).length = H.length + 2 := by simp
        rw [el, a, b']
        rfl
      · intro c hc
        obtain ⟨h, _, rfl⟩ := List.mem_map.mp hc
        exact rbs_nr _ _ (by simp))
    rw [tk] at run
    exact run
end
end DL

set_option maxHeartbeats 1000000
namespace DL
open PySem PySem.Spec L2
section
variable {n : Nat} {ds : List (Nat × Nat)} {F fi : List Nat} {H : Hld}
structure FiOk (n : Nat) (ds : List (Nat × Nat)) (fi : List Nat) : Prop where
  len : fi.length = ds.length
  ok : ∀ (k : Nat) (d : Nat × Nat), ds[k]? = some d → fi.getD k 0 = d.1 ∨ fi.getD k 0 = d.2
theorem zip_at : ∀ {a : List Nat} {b : List (Nat × Nat)} {x : Nat × (Nat × Nat)}, x ∈ a.zip b → ∃ k : Nat, a.getD k 0 = x.1 ∧ b[k]? = some x.2
  | [], _, x, h => by simp at h
  | _ :: _, [], x, h => by simp at h
  | p :: a, q :: b, x, h => by
    rw [List.zip_cons_cons] at h
    rcases List.mem_cons.mp h with rfl | h
    · exact ⟨0, rfl, rfl⟩
    · obtain ⟨k, h1, h2⟩ := zip_at h
      exact ⟨k + 1, by simpa using h1, by simpa using h2⟩
theorem zipD_map (a : List Nat) (b : List (Nat × Nat)) : zipD (a.map nD) (b.map pairD) = (a.zip b).map fun x => .tup [nD x.1, pairD x.2] := by
  induction a generalizing b with
  | nil => cases b <;> rfl
  | cons p a ih =>
    cases b with
    | nil => rfl
    | cons q b =>
      have := ih b
      unfold zipD at this ⊢
      simp only [List.map_cons, List.zip_cons_cons, List.zipWith_cons_cons] at this ⊢
      rw [this]
theorem are_firsts_w (W : DealsOk n ds) (h : FiOk n ds fi) : f_are_firsts [dealsD n ds, lotD fi] = some (.bl true) := by
  have hr := W.r10
  have hl : (fi.zip ds).length ≤ 1000000 := by rw [List.length_zip, h.len]; omega
  have t1 : f_is_tuple_of [lotD fi, .int (ds.length : Nat)] = some (.bl true) := by
    have := is_tuple_of_t (fi.map nD) (ds.length : Nat)
    rw [List.length_map, h.len] at this
    simpa [lotD] using this
  have c := fcomp_all (f := iZipD (aCons (eV 1) (aCons (e2 gIx (eV 0) (eC (.int 1))) (aNil)))) (vs := [2, 3]) (g := gT 2 (gCons (gN 2) (gCons (gN 3) (gNil)))) (e := eAnd (eFn f_is_under (aCons (eV 2) (aCons (e2 gIx (eV 0) (eC (.int 0))) (aNil)))) (e2 (gInS false) (eV 2) (eV 3))) (ρ := startR 4 [dealsD n ds, lotD fi]) (S := []) (fun x => .tup [nD x.1, pairD x.2]) (fi.zip ds) (fun _ => .bl true) (by
    have := zipD_map fi ds
    simp [startR, lotD]
    rw [this]
    simp) hl (fun x hx => ⟨_, rfl, by
      obtain ⟨k, e1, e2⟩ := zip_at hx
      have ok := W.ok x.2 (List.mem_of_getElem? e2)
      have hd := h.ok k x.2 e2
      rw [e1] at hd
      have lt : x.1 < n := by
        rcases hd with e | e
        · rw [e]; exact ok.1
        · rw [e]; exact ok.2.1
      have lt' : (x.1 : Int) < n := by omega
      have ip : (decide (x.1 = x.2.1) || decide (x.1 = x.2.2)) = true := by simpa using hd
      simp [startR, is_under_i, lt, lt', in_pair, ip, -Bool.or_eq_true]⟩)
  have a1 := all_true [] (fi.zip ds)
  refine ret_run ?_
  unfold b_are_firsts
  refine ret_ret (x := .bl true) ?_ rfl
  rw [x_eAnd]
  have q1 : (eFn f_is_tuple_of (aCons (eV 1) (aCons (eCall cLen (aCons (e2 gIx (eV 0) (eC (.int 1))) (aNil))) (aNil)))) (startR 4 [dealsD n ds, lotD fi]) [] = some (.bl true) := by simp [startR, t1]
  rw [q1, Option.bind_some, and2_t, x_eCall, x_aCons, x_eF, c]
  simp only [Option.map_some, Option.bind_some, x_aNil, a1]
theorem need_agents_w {LG : List Nat} {cdV : D} (W : DealsOk n ds) (hF : LotOk n F) (h : FiOk n ds fi) (hL : LotOk n LG) (hnr : nr cdV = true) (hc : f_is_agent_conduct [dealsD n ds, lotD LG, cdV] = some (.bl true)) : f_need_agents [dealsD n ds, lotD F, lotD fi, lotD LG, cdV] = some .non := by
  have hn := W.n6
  have nf : f_need_firsts [dealsD n ds, lotD fi] = some .non := by
    simp [f_need_firsts, b_need_firsts, run_eq, startR, are_firsts_w W h]
  simp [f_need_agents, b_need_agents, run_eq, startR, need_deals_ok W, need_free_ok hF (by omega : n ≤ 1000), need_free_ok hL (by omega : n ≤ 1000), nf, hc, hnr]
theorem no_conduct (LG : List Nat) : f_is_agent_conduct [dealsD n ds, lotD LG, .tup []] = some (.bl true) := by
  have al : cAll [] [.lst []] = some (.bl true) := rfl
  have rg : rng2 [.int 1, .int 0] = some [] := rfl
  refine ret_run ?_
  unfold b_is_agent_conduct
  refine ret_if0 (by
    have : fComp (jSeqD (eV 2)) [3] (gN 3) (bYes) (eFn f_is_tuple_of (aCons (eV 3) (aCons (eC (.int 3)) (aNil)))) (startR 5 [dealsD n ds, lotD LG, .tup []]) [] = some [] := rfl
    simp [startR] at this ⊢
    simp [al, compL]) ?_
  refine ret_seq (ρ1 := startR 5 [dealsD n ds, lotD LG, .tup []]) (S1 := []) rfl ?_
  refine ret_ret (x := .bl true) ?_ rfl
  simp [startR, rg, compL, al]
end
end DL

set_option maxHeartbeats 1000000
namespace DL
open PySem PySem.Spec L2
section
variable {n : Nat} {ds : List (Nat × Nat)} {F fi LG : List Nat} {H : Hld}
theorem rep_getD (m k : Nat) : (List.replicate m ([] : List Nat)).getD k [] = [] := by
  rw [List.getD_eq_getElem?_getD, List.getElem?_replicate]
  split <;> rfl
theorem good0 : GoodH ds (List.replicate ds.length []) := ⟨by simp, fun k d _ => by rw [rep_getD]; exact ⟨List.nodup_nil, by simp⟩⟩
theorem agents_init_w (hl : ds.length ≤ 1000) : f_Agents_init [.ref 0, dealsD n ds, lotD F, lotD fi, lotD LG] [.ins "Agents" [] []] = some (.non, agS n ds F fi LG (List.replicate ds.length [])) := by
  refine runS_big (ρ1 := [some (.ref 0), some (dealsD n ds), some (lotD F), some (lotD fi), some (lotD LG), none]) ?_ (by simp [agS]) ?_
  · show b_Agents_init [some (.ref 0), some (dealsD n ds), some (lotD F), some (lotD fi), some (lotD LG), none] [.ins "Agents" [] []] = _
    unfold b_Agents_init
    refine seq_nx (S1 := [.ins "Agents" ["deals"] [dealsD n ds]]) (ρ1 := [some (.ref 0), some (dealsD n ds), some (lotD F), some (lotD fi), some (lotD LG), none]) (by with_unfolding_all rfl) ?_
    refine seq_nx (S1 := [.ins "Agents" ["deals", "content"] [dealsD n ds, lotD F]]) (ρ1 := [some (.ref 0), some (dealsD n ds), some (lotD F), some (lotD fi), some (lotD LG), none]) (by with_unfolding_all rfl) ?_
    refine seq_nx (S1 := [.ins "Agents" ["deals", "content", "firsts"] [dealsD n ds, lotD F, lotD fi]]) (ρ1 := [some (.ref 0), some (dealsD n ds), some (lotD F), some (lotD fi), some (lotD LG), none]) (by with_unfolding_all rfl) ?_
    refine seq_nx (S1 := [.ins "Agents" ["deals", "content", "firsts", "league"] [dealsD n ds, lotD F, lotD fi, lotD LG]]) (ρ1 := [some (.ref 0), some (dealsD n ds), some (lotD F), some (lotD fi), some (lotD LG), none]) (by with_unfolding_all rfl) ?_
    have cl : cLL (jSeqD (e2 gIx (eV 1) (eC (.int 1)))) (.lst []) [some (.ref 0), some (dealsD n ds), some (lotD F), some (lotD fi), some (lotD LG), none] [.ins "Agents" ["deals", "content", "firsts", "league"] [dealsD n ds, lotD F, lotD fi, lotD LG]] = some (.lst ((List.range (ds.map pairD).length).map fun k => .ref (1 + 1 + k)) :: List.replicate (ds.map pairD).length (.lst [])) :=
      cLL_eq (ds := ds.map pairD) (by simp) (by simp; omega)
    rw [x_sAttrN, cl]
    simp only [List.length_map]
    have e1 : List.replicate ds.length (Cell.lst []) = (List.replicate ds.length ([] : List Nat)).map fun h => Cell.lst (h.map nD) := by simp
    rw [e1]
    unfold agS
    rw [List.length_replicate]
    with_unfolding_all rfl
  · show ([Cell.ins "Agents" agF [dealsD n ds, lotD F, lotD fi, lotD LG, .ref 1]].all (rbC 1)) = false
    have : rbC 1 (.ins "Agents" agF [dealsD n ds, lotD F, lotD fi, lotD LG, .ref 1]) = false := by
      show (rb 1 (dealsD n ds) && (rb 1 (lotD F) && (rb 1 (lotD fi) && (rb 1 (lotD LG) && (rb 1 (.ref 1) && true))))) = false
      have : rb 1 (.ref 1) = false := rfl
      rw [this]
      simp
    rw [List.all_cons, this]
    rfl
/-! a conduct -/
def cdD (cd : List Row) : D := .tup (cd.map rowD)
@[simp] theorem q_cdD (S : Sto) (cd : List Row) : seqD S (cdD cd) = some (cd.map rowD) := (rfl)
@[simp] theorem nr_cdD (cd : List Row) : nr (cdD cd) = true := by simp [cdD]
def atR (cd : List Row) (a : Nat) : List (Nat × Nat) := (cd.filter fun r => decide (r.1 = a)).map fun r => (r.2.1, r.2.2)
theorem maxI_ge : ∀ {l : List Int} {m : Int}, maxI l = some m → ∀ x ∈ l, x ≤ m := by
  intro l m h x hx
  cases l with
  | nil => simp at hx
  | cons a l =>
    have main : ∀ (l : List Int) (a : Int), a ≤ l.foldl (fun a b => if b > a then b else a) a ∧ ∀ x ∈ l, x ≤ l.foldl (fun a b => if b > a then b else a) a := by
      intro l
      induction l with
      | nil => intro a; exact ⟨Int.le_refl _, by simp⟩
      | cons b l ih =>
        intro a
        obtain ⟨h1, h2⟩ := ih (if b > a then b else a)
        simp only [List.foldl_cons]
        refine ⟨Int.le_trans ?_ h1, fun x hx => ?_⟩
        · split <;> omega
        · rcases List.mem_cons.mp hx with rfl | hx
          · exact Int.le_trans (by split <;> omega) h1
          · exact h2 x hx
    have e : l.foldl (fun a b => if b > a then b else a) a = m := by
      simp only [maxI, Option.some.injEq] at h
      exact h
    obtain ⟨h1, h2⟩ := main l a
    rw [e] at h1 h2
    rcases List.mem_cons.mp hx with rfl | hx
    · exact h1
    · exact h2 x hx
theorem last_w (S : Sto) (l : List Nat) : ∃ la : Nat, cMaxD S (.lst (l.map nD)) (.int 0) = some (.int (la : Nat)) ∧ ∀ x ∈ l, x ≤ la := by
  cases l with
  | nil => exact ⟨0, rfl, by simp⟩
  | cons a l =>
    obtain ⟨m, e, hm⟩ := maxI_mem (l := (a :: l).map fun k : Nat => (k : Int)) (by simp)
    have ge := maxI_ge e
    obtain ⟨k, hk, rfl⟩ := List.mem_map.mp hm
    refine ⟨k, ?_, fun x hx => ?_⟩
    · simp only [cMaxD, ql_lst, Option.bind_some, intsD_nats]
      have : maxDI 0 ((a :: l).map fun k : Nat => (k : Int)) = (k : Int) := by
        have e' := e
        rw [List.map_cons] at e'
        rw [List.map_cons]
        simp only [maxDI, e', Option.getD_some]
      rw [Option.map_some, this]
    · have := ge (x : Int) (List.mem_map.mpr ⟨x, hx, rfl⟩)
      omega
def ldE (n : Nat) (ds : List (Nat × Nat)) (F fi LG : List Nat) (cd : List Row) (la a : Nat) (g : Bool) : Rho := [some (dealsD n ds), some (lotD F), some (lotD fi), some (lotD LG), some (cdD cd), some (.ref 0), some (.int (la : Nat)), some (.int (a : Nat)), some (.bl g), none]
theorem led_w (W : DealsOk n ds) (hfi : fi.length = ds.length) {cd : List Row} (hcl : cd.length ≤ 1000) (hcd : ∀ r ∈ cd, r.2.2 ∈ dof ds r.2.1) (I : Hld → Prop) (i0 : I (List.replicate ds.length []))
    (is : ∀ (H H' : Hld) (a : Nat), GoodH ds H → GoodH ds H' → I H → Stp H H' (wishAll ds F fi LG (atR cd a) H n) → I H') :
    ∃ H, f_led_agents [dealsD n ds, lotD F, lotD fi, lotD LG, cdD cd] = some (agD n ds F fi LG H) ∧ GoodH ds H ∧ FixH n ds F fi LG H ∧ I H ∧ ∀ r ∈ cd, r.2.1 ∈ H.getD r.2.2 [] := by
  have hr := W.r10
  obtain ⟨la, ela, gla⟩ := last_w (agS n ds F fi LG (List.replicate ds.length [])) (cd.map (·.1))
  have al : ∀ a, (atR cd a).length ≤ 1000 := fun a => by
    unfold atR
    rw [List.length_map]
    exact Nat.le_trans (List.length_filter_le _ _) hcl
  have ad : ∀ a, ∀ x ∈ atR cd a, x.2 ∈ dof ds x.1 := fun a x hx => by
    unfold atR at hx
    obtain ⟨r, hr, rfl⟩ := List.mem_map.mp hx
    exact hcd r (List.mem_filter.mp hr).1
  have comp : ∀ (a : Nat) (go : Bool) (S : Sto), fComp (jSeqD (eV 4)) [9] (gN 9) (eB (e2 gEq (e2 gIx (eV 9) (eC (.int 0))) (eV 7))) (eTup (aCons (e2 gIx (eV 9) (eC (.int 1))) (aCons (e2 gIx (eV 9) (eC (.int 2))) (aNil)))) (ldE n ds F fi LG cd la a go) S = some ((atR cd a).map pairD) := fun a go S => by
    have c := fcomp_of (f := jSeqD (eV 4)) (vs := [9]) (g := gN 9) (t := eB (e2 gEq (e2 gIx (eV 9) (eC (.int 0))) (eV 7))) (e := eTup (aCons (e2 gIx (eV 9) (eC (.int 1))) (aCons (e2 gIx (eV 9) (eC (.int 2))) (aNil)))) (ρ := ldE n ds F fi LG cd la a go) (S := S) rowD cd (fun r => decide (r.1 = a)) (fun r => pairD (r.2.1, r.2.2)) (by simp [ldE]) (by omega) (fun r hr => ⟨_, rfl, by simp [ldE, eqB_nat], fun _ => by simp [ldE]; rfl⟩)
    rw [c]
    unfold atR
    rw [List.map_map]
    rfl
  obtain ⟨ρ', S', ew, H, a, rfl, rfl, g, fx, iH, ha, told⟩ := while_inv (t := l1_led_agents_t) (body := l1_led_agents)
    (fun k ρ S => ∃ (H : Hld) (a : Nat) (go : Bool), ρ = ldE n ds F fi LG cd la a go ∧ S = agS n ds F fi LG H ∧ GoodH ds H ∧ I H ∧ (go = true ∨ FixH n ds F fi LG H) ∧ (∀ b < a, ∀ x ∈ atR cd b, x.1 ∈ H.getD x.2 []) ∧ k = 2 * (2 * ds.length - totH H) + (la + 1 - a) + (if go then 1 else 0))
    (fun ρ S => ∃ (H : Hld) (a : Nat), ρ = ldE n ds F fi LG cd la a false ∧ S = agS n ds F fi LG H ∧ GoodH ds H ∧ FixH n ds F fi LG H ∧ I H ∧ la < a ∧ (∀ b < a, ∀ x ∈ atR cd b, x.1 ∈ H.getD x.2 []))
    (by
      rintro k ρ S ⟨H, a, go, rfl, rfl, g, iH, hg, told, rfl⟩
      have le : ∀ i j : Int, gLe (agS n ds F fi LG H) (.int i) (.int j) = some (.bl (decide (i ≤ j))) := fun i j => rfl
      have tst : l1_led_agents_t (ldE n ds F fi LG cd la a go) (agS n ds F fi LG H) = some (go || decide (a ≤ la)) := by
        have : decide ((a : Int) ≤ la) = decide (a ≤ la) := by
          by_cases h : a ≤ la
          · have : (a : Int) ≤ la := by omega
            simp only [decide_eq_true h, decide_eq_true this]
          · have : ¬ (a : Int) ≤ la := by omega
            simp only [decide_eq_false h, decide_eq_false this]
        simp [l1_led_agents_t, ldE, le, this]
      by_cases hgo : go = false ∧ la < a
      · obtain ⟨rfl, ha⟩ := hgo
        left
        have fx := hg.resolve_left (by decide)
        have : decide (a ≤ la) = false := decide_eq_false (by omega)
        rw [this] at tst
        exact ⟨tst, H, a, rfl, rfl, g, fx, iH, ha, told⟩
      · right
        have tt : (go || decide (a ≤ la)) = true := by
          cases go with
          | true => rfl
          | false =>
            have : a ≤ la := Classical.byContradiction fun c => hgo ⟨rfl, by omega⟩
            rw [decide_eq_true this]; rfl
        rw [tt] at tst
        refine ⟨tst, ?_⟩
        obtain ⟨ch, H', es, g', stp, k⟩ := agents_step_w (F := F) (LG := LG) W (al a) (ad a) g hfi
        have ob := o_agS (n := n) (ds := ds) (F := F) (fi := fi) (LG := LG) (H := H) []
        rw [List.append_nil] at ob
        have m3 : mS "Agents" "step" f_Agents_step (eV 5) (aCons (eF (fComp (jSeqD (eV 4)) [9] (gN 9) (eB (e2 gEq (e2 gIx (eV 9) (eC (.int 0))) (eV 7))) (eTup (aCons (e2 gIx (eV 9) (eC (.int 1))) (aCons (e2 gIx (eV 9) (eC (.int 2))) (aNil)))))) (aNil)) (ldE n ds F fi LG cd la a go) (agS n ds F fi LG H) = some (.bl ch, agS n ds F fi LG H') := by
          rw [mS_eq (o := .ref 0) (ds := [.lst ((atR cd a).map pairD)]) rfl ob noF_a3 (by rw [x_aCons, x_eF, comp]; rfl)]
          exact es
        refine ⟨.nx, ldE n ds F fi LG cd la (a + 1) ch, agS n ds F fi LG H', 2 * (2 * ds.length - totH H') + (la + 1 - (a + 1)) + (if ch then 1 else 0), ?_, .inl rfl, ?_, H', a + 1, ch, rfl, rfl, g', is H H' a g g' iH stp, ?_, ?_, rfl⟩
        · unfold l1_led_agents
          refine seq_nx (ρ1 := ldE n ds F fi LG cd la a ch) (S1 := agS n ds F fi LG H') (by rw [x_sSetS, m3]; rfl) ?_
          rfl
        · have t' := g'.tot
          have t := g.tot
          rcases k with ⟨rfl, rfl⟩ | ⟨rfl, k⟩
          · by_cases hla : a ≤ la
            · simp; omega
            · have : go = true := by
                cases go with
                | true => rfl
                | false => exact absurd ⟨rfl, by omega⟩ hgo
              subst this
              simp; omega
          · simp; omega
        · rcases k with ⟨rfl, rfl⟩ | ⟨rfl, _⟩
          · exact .inr fun p hp hpl q hq => stp.all (p, q) ((mem_wishAll n).mpr (.inr ⟨hp, hpl, hq⟩))
          · exact .inl rfl
        · intro b hb x hx
          by_cases e : b = a
          · subst e
            exact stp.all x ((mem_wishAll n).mpr (.inl hx))
          · exact stp.mono _ _ (told b (by omega) x hx))
    (show (∃ (H : Hld) (a : Nat) (go : Bool), ldE n ds F fi LG cd la 0 true = ldE n ds F fi LG cd la a go ∧ agS n ds F fi LG (List.replicate ds.length []) = agS n ds F fi LG H ∧ GoodH ds H ∧ I H ∧ (go = true ∨ FixH n ds F fi LG H) ∧ (∀ b < a, ∀ x ∈ atR cd b, x.1 ∈ H.getD x.2 []) ∧ 2 * (2 * ds.length - totH (List.replicate ds.length [])) + (la + 1 - 0) + 1 = 2 * (2 * ds.length - totH H) + (la + 1 - a) + (if go then 1 else 0)) from ⟨_, 0, true, rfl, rfl, good0, i0, .inl rfl, fun b hb => by omega, rfl⟩)
  refine ⟨H, ?_, g, fx, iH, fun r hr => ?_⟩
  · refine ret_run ?_
    unfold b_led_agents
    have mk0 : mk "Agents" f_Agents_init (aCons (eV 0) (aCons (eV 1) (aCons (eV 2) (aCons (eV 3) (aNil))))) (startR 10 [dealsD n ds, lotD F, lotD fi, lotD LG, cdD cd]) [] = some (.ref 0, agS n ds F fi LG (List.replicate ds.length [])) :=
      mk_eq (ds := [dealsD n ds, lotD F, lotD fi, lotD LG]) rfl (agents_init_w (by omega))
    refine ret_seq (ρ1 := [some (dealsD n ds), some (lotD F), some (lotD fi), some (lotD LG), some (cdD cd), some (.ref 0), none, none, none, none]) (S1 := agS n ds F fi LG (List.replicate ds.length [])) (by rw [x_sSetS, mk0]; rfl) ?_
    refine ret_set (x := .int (la : Nat)) (by
      have c := fcomp_all (f := jSeqD (eV 4)) (vs := [9]) (g := gN 9) (e := e2 gIx (eV 9) (eC (.int 0))) (ρ := [some (dealsD n ds), some (lotD F), some (lotD fi), some (lotD LG), some (cdD cd), some (.ref 0), none, none, none, none]) (S := agS n ds F fi LG (List.replicate ds.length [])) rowD cd (fun r => nD r.1) (by simp) (by omega) (fun r hr => ⟨_, rfl, by simp⟩)
      have m1 : cd.map (fun r => nD r.1) = (cd.map (·.1)).map nD := by rw [List.map_map]; rfl
      rw [m1] at c
      rw [x_e2, x_eF, c]
      exact ela) ?_
    refine ret_set (x := .int ((0 : Nat) : Int)) rfl ?_
    refine ret_set (x := .bl true) rfl ?_
    refine ret_seq (ρ1 := ldE n ds F fi LG cd la a false) (S1 := agS n ds F fi LG H) ew ?_
    refine ret_ret (x := .ref 0) rfl ?_
    have := fz_agS (n := n) (ds := ds) (F := F) (fi := fi) (LG := LG) (H := H) []
    rwa [List.append_nil] at this
  · have := gla r.1 (List.mem_map_of_mem (f := (·.1)) hr)
    exact told r.1 (by omega) (r.2.1, r.2.2) (List.mem_map.mpr ⟨r, List.mem_filter.mpr ⟨hr, by simp⟩, rfl⟩)
/-- with an order, a state in which nobody wishes more is a state in which all is done -/
theorem all_two {T : Tk} (W : DealsOk n ds) (tk : TkOk n ds F T) (hT : T.length = ds.length) (hfi : ∀ k < ds.length, fi.getD k 0 = fst1 T k) (g : GoodH ds H) (fx : FixH n ds F fi [] H) : ∀ k < ds.length, (H.getD k []).length = 2 := by
  have full := tk.full hT
  -- the first of each
  have row : ∀ k < ds.length, ∃ p d, (k, p) ∈ T ∧ ds[k]? = some d ∧ (p = d.1 ∨ p = d.2) ∧ fi.getD k 0 = p ∧ p < n ∧ othP d p < n ∧ othP d p ≠ p ∧ (othP d p = d.1 ∨ othP d p = d.2) ∧ othP d (othP d p) = p := fun k hk => by
    have m := fst1_mem T (full k hk)
    obtain ⟨d, e, hd⟩ := tk.ok _ m
    have e' : ds[k]? = some d := e
    have ok := W.ok d (List.mem_of_getElem? e')
    have hd' : fst1 T k = d.1 ∨ fst1 T k = d.2 := hd
    refine ⟨_, d, m, e', hd', hfi k hk, ?_⟩
    unfold othP
    rcases hd' with h | h
    · rw [h, if_pos rfl, if_neg (fun z => ok.2.2 z.symm)]
      exact ⟨ok.1, ok.2.1, fun z => ok.2.2 z.symm, .inr rfl, rfl⟩
    · rw [h, if_neg (fun z => ok.2.2 z.symm), if_pos rfl]
      exact ⟨ok.2.1, ok.1, ok.2.2, .inl rfl, rfl⟩
  have fiT : ∀ (k p : Nat), (k, p) ∈ T → k < ds.length ∧ fi.getD k 0 = p := fun k p h => by
    obtain ⟨d, e, _⟩ := tk.ok _ h
    have hk : k < ds.length := (List.getElem?_eq_some_iff.mp e).1
    exact ⟨hk, by rw [hfi k hk, fst1_of tk.nd h]⟩
  have covI : ∀ (k p : Nat) (d : Nat × Nat), ds[k]? = some d → (cov ds H p k = true ↔ othP d p ∈ H.getD k []) := fun k p d e => by
    unfold cov
    rw [getD_of e]
    simp
  -- what a bound person begins
  have beg1 : ∀ (i k p : Nat), T[i]? = some (k, p) → p ∉ F → (dof ds p).filter (fun j => decide (fi.getD j 0 = p)) = [k] := fun i k p e hp => by
    have m : (k, p) ∈ T := List.mem_of_getElem? e
    obtain ⟨hk, hf⟩ := fiT k p m
    obtain ⟨d, ed, hd⟩ := tk.ok _ m
    have kd : k ∈ dof ds p := mem_dof.mpr ⟨d, ed, hd⟩
    refine pw_le_ext ((dof_pw ds p).filter _) (List.pairwise_singleton _ _) fun j => ?_
    rw [List.mem_filter, decide_eq_true_eq, List.mem_singleton]
    constructor
    · rintro ⟨h1, h2⟩
      refine Classical.byContradiction fun c => ?_
      have := (tk.frst i k p e hp j h1 c).2
      rw [← hfi j ((dof_ok ds p).2 j h1)] at this
      exact this h2
    · rintro rfl
      exact ⟨kd, hf⟩
  -- first sides
  have one : ∀ (i k p : Nat), T[i]? = some (k, p) → p ∈ H.getD k [] := by
    intro i
    induction i using Nat.strongRecOn with
    | ind i ih =>
      intro k p e
      have m : (k, p) ∈ T := List.mem_of_getElem? e
      obtain ⟨hk, hf⟩ := fiT k p m
      obtain ⟨d, ed, hd⟩ := tk.ok _ m
      have kd : k ∈ dof ds p := mem_dof.mpr ⟨d, ed, hd⟩
      have okd := W.ok d (List.mem_of_getElem? ed)
      have hpn : p < n := by
        have hd' : p = d.1 ∨ p = d.2 := hd
        rcases hd' with h | h
        · rw [h]; exact okd.1
        · rw [h]; exact okd.2.1
      refine fx p hpn (by simp) k ?_
      unfold wishL
      by_cases hp : p ∈ F
      · rw [if_pos hp]
        exact List.mem_filter.mpr ⟨kd, by rw [decide_eq_true hf]; rfl⟩
      · rw [if_neg hp]
        simp only [beg1 i k p e hp]
        have rc : ((dof ds p).filter fun j => !decide (j ∈ [k])).all (cov ds H p) = true := List.all_eq_true.mpr fun j hj => by
          obtain ⟨h1, h2⟩ := List.mem_filter.mp hj
          have ne : j ≠ k := by simpa using h2
          obtain ⟨b1, b2⟩ := tk.frst i k p e hp j h1 ne
          obtain ⟨y, hy, ey⟩ := List.mem_map.mp b1
          obtain ⟨a, ha, ea⟩ := List.getElem_of_mem hy
          rw [List.length_take] at ha
          rw [List.getElem_take] at ea
          have hj := (dof_ok ds p).2 j h1
          obtain ⟨q, d', m', e', hd', f', _, _, _, _, oo⟩ := row j hj
          have fq : fst1 T j = q := fst1_of tk.nd m'
          have hy' : y = (j, q) := by
            have : y ∈ T := List.mem_of_mem_take hy
            have : (y.1, y.2) ∈ T := this
            have f2 := fst1_of tk.nd this
            rw [ey, fq] at f2
            exact Prod.ext ey f2.symm
          have inq := ih a (by omega) j q (by rw [List.getElem?_eq_getElem (by omega), ea, hy'])
          obtain ⟨d2, e2, hp2⟩ := mem_dof.mp h1
          rw [e'] at e2
          cases e2
          have hqp : q ≠ p := by rw [← fq]; exact b2
          refine (covI j p d' e').mpr ?_
          have : othP d' p = q := by
            rcases othP_in hp2 with ⟨a1, a2⟩ | ⟨a1, a2⟩
            · rw [a2]
              exact (hd'.resolve_left fun z => hqp (by rw [z, a1])).symm
            · rw [a2]
              exact (hd'.resolve_right fun z => hqp (by rw [z, a1])).symm
          rw [this]; exact inq
        rw [rc]
        simp only [List.length_singleton, Nat.lt_irrefl, decide_false, Bool.not_true, Bool.or_self, Bool.false_eq_true, if_false]
        split
        · simp
        · simp
  -- second sides, from behind
  have two : ∀ (m i k p : Nat) (d : Nat × Nat), i + m = T.length → T[i]? = some (k, p) → ds[k]? = some d → othP d p ∈ H.getD k [] := by
    intro m
    induction m using Nat.strongRecOn with
    | ind m ih =>
      intro i k p d hm e ed
      have hi : i < T.length := (List.getElem?_eq_some_iff.mp e).1
      have mT : (k, p) ∈ T := List.mem_of_getElem? e
      obtain ⟨hk, hf⟩ := fiT k p mT
      obtain ⟨p', d', m', e', hd', f', hpn, hqn, hqp, hqd, oo⟩ := row k hk
      rw [ed] at e'
      cases e'
      have : p' = p := by rw [← f', hf]
      subst this
      have kd : k ∈ dof ds (othP d p') := mem_dof.mpr ⟨d, ed, hqd⟩
      have ckq : cov ds H (othP d p') k = true := (covI k _ d ed).mpr (by rw [oo]; exact one i k p' e)
      refine fx _ hqn (by simp) k ?_
      unfold wishL
      by_cases hq : othP d p' ∈ F
      · rw [if_pos hq]
        exact List.mem_filter.mpr ⟨kd, by rw [ckq, Bool.or_true]⟩
      · rw [if_neg hq]
        generalize hqq : othP d p' = q at *
        simp only []
        generalize hb : (dof ds q).filter (fun j => decide (fi.getD j 0 = q)) = b
        have kb : k ∉ b := by
          rw [← hb]
          intro z
          have := (List.mem_filter.mp z).2
          rw [decide_eq_true_eq, hf] at this
          exact hqp this.symm
        have bprop : b.length ≤ 1 ∧ b.all (cov ds H q) = true := by
          cases hbb : b with
          | nil => simp
          | cons k' r =>
            have kk : k' ∈ (dof ds q).filter (fun j => decide (fi.getD j 0 = q)) := by rw [hb, hbb]; simp
            obtain ⟨h1, h2⟩ := List.mem_filter.mp kk
            have h2' : fi.getD k' 0 = q := by simpa using h2
            have hk' := (dof_ok ds q).2 k' h1
            have m2 : (k', q) ∈ T := by
              have := fst1_mem T (full k' hk')
              rwa [← hfi k' hk', h2'] at this
            obtain ⟨i', hi', ei'⟩ := List.getElem_of_mem m2
            have e2 : T[i']? = some (k', q) := by rw [List.getElem?_eq_getElem hi', ei']
            have bb := beg1 i' k' q e2 hq
            rw [hb, hbb] at bb
            rw [bb]
            have ne : k ≠ k' := by
              rintro rfl
              exact kb (by rw [hbb]; simp)
            -- k stands ahead of k'
            have ah := (tk.frst i' k' q e2 hq k kd ne).1
            obtain ⟨y, hy, ey⟩ := List.mem_map.mp ah
            obtain ⟨a, ha, ea⟩ := List.getElem_of_mem hy
            rw [List.length_take] at ha
            rw [List.getElem_take] at ea
            have ai : a = i := by
              have n1 : (T.map (·.1))[a]? = some k := by rw [List.getElem?_map, List.getElem?_eq_getElem (by omega), ea]; simp [ey]
              have n2 : (T.map (·.1))[i]? = some k := by rw [List.getElem?_map, e]; rfl
              exact (List.getElem?_inj (by rw [List.length_map]; omega) tk.nd).mp (n1.trans n2.symm)
            obtain ⟨d2, ed2, _⟩ := mem_dof.mp h1
            have := ih (T.length - i') (by omega) i' k' q d2 (by omega) e2 ed2
            refine ⟨by simp, ?_⟩
            simp only [List.all_cons, List.all_nil, Bool.and_true]
            exact (covI k' q d2 ed2).mpr this
        have rc : ((dof ds q).filter fun j => !decide (j ∈ b)).all (cov ds H q) = true := List.all_eq_true.mpr fun j hj => by
          obtain ⟨h1, h2⟩ := List.mem_filter.mp hj
          have nb : j ∉ b := by simpa using h2
          have hj' := (dof_ok ds q).2 j h1
          obtain ⟨r, d2, m2, e2, hd2, f2, _, _, _, _, oo2⟩ := row j hj'
          have hrq : r ≠ q := fun z => nb (by rw [← hb]; exact List.mem_filter.mpr ⟨h1, by rw [f2, z]; simp⟩)
          obtain ⟨i2, hi2, ei2⟩ := List.getElem_of_mem m2
          have inr := one i2 j r (by rw [List.getElem?_eq_getElem hi2, ei2])
          obtain ⟨d3, e3, hq3⟩ := mem_dof.mp h1
          rw [e2] at e3
          cases e3
          refine (covI j q d2 e2).mpr ?_
          have : othP d2 q = r := by
            rcases othP_in hq3 with ⟨a1, a2⟩ | ⟨a1, a2⟩
            · rw [a2]
              exact (hd2.resolve_left fun z => hrq (by rw [z, a1])).symm
            · rw [a2]
              exact (hd2.resolve_right fun z => hrq (by rw [z, a1])).symm
          rw [this]; exact inr
        have nl : ¬ 1 < b.length := by omega
        rw [rc, decide_eq_false nl, bprop.2]
        simp only [Bool.not_true, Bool.or_self, Bool.false_eq_true, if_false, if_true]
        exact List.mem_append_right _ (List.mem_filter.mpr ⟨kd, by simpa using kb⟩)
  intro k hk
  obtain ⟨p, d, m, e, hd, f, _, _, ne, _, _⟩ := row k hk
  obtain ⟨i, hi, ei⟩ := List.getElem_of_mem m
  have e' : T[i]? = some (k, p) := by rw [List.getElem?_eq_getElem hi, ei]
  have a := one i k p e'
  have b := two (T.length - i) i k p d (by omega) e' e
  have le := g.two hk
  have := List.Nodup.length_le_of_subset (l₁ := [othP d p, p]) (l₂ := H.getD k []) (by simp [ne]) fun x hx => by
    simp only [List.mem_cons, List.not_mem_nil, or_false] at hx
    rcases hx with rfl | rfl
    · exact b
    · exact a
  simp only [List.length_cons, List.length_nil] at this
  omega
theorem agent_done_g (W : DealsOk n ds) (hF : LotOk n F) (h : FiOk n ds fi) (hL : LotOk n LG) {cd : List Row} (hcl : cd.length ≤ 1000) (hcd : ∀ r ∈ cd, r.2.2 ∈ dof ds r.2.1) (hc : f_is_agent_conduct [dealsD n ds, lotD LG, cdD cd] = some (.bl true)) (I : Hld → Prop) (i0 : I (List.replicate ds.length []))
    (is : ∀ (H H' : Hld) (a : Nat), GoodH ds H → GoodH ds H' → I H → Stp H H' (wishAll ds F fi LG (atR cd a) H n) → I H') :
    ∃ H, f_agent_done [dealsD n ds, lotD F, lotD fi, lotD LG, cdD cd] = some (lotD ((List.range ds.length).filter fun k => decide ((H.getD k []).length = 2))) ∧ GoodH ds H ∧ FixH n ds F fi LG H ∧ I H ∧ ∀ r ∈ cd, r.2.1 ∈ H.getD r.2.2 [] := by
  have hr := W.r10
  obtain ⟨H, el, g, fx, iH, told⟩ := led_w (F := F) W h.len hcl hcd I i0 is
  refine ⟨H, ?_, g, fx, iH, told⟩
  have c := fcomp_of (f := iRng rng1 (aCons (eCall cLen (aCons (e2 gIx (eV 0) (eC (.int 1))) (aNil))) (aNil))) (vs := [6]) (g := gN 6) (t := eTru (mP "Agents" "is_done" f_Agents_is_done (eV 5) (aCons (eV 6) (aNil)))) (e := eV 6) (ρ := [some (dealsD n ds), some (lotD F), some (lotD fi), some (lotD LG), some (cdD cd), some (agD n ds F fi LG H), none]) (S := []) nD (List.range ds.length) (fun k => decide ((H.getD k []).length = 2)) nD (by simp [rng1_nat (by omega : ds.length ≤ 1000000)]) (by simp; omega) (fun k hk => ⟨_, rfl, by
    have hk' := List.mem_range.mp hk
    rw [x_eTru, mP_nr (o := agD n ds F fi LG H) (ds := [.int (k : Nat)]) rfl (o_agD _) noF_a4 rfl (by simp), is_done_w g.len hk']
    rfl, fun _ => rfl⟩)
  refine ret_run ?_
  unfold b_agent_done
  refine ret_drop (x := .non) (by
    have := need_agents_w W hF h hL (nr_cdD cd) hc
    simp [startR, this]) ?_
  refine ret_set (x := agD n ds F fi LG H) (by simp [startR, el]) ?_
  refine ret_ret (x := lotD ((List.range ds.length).filter fun k => decide ((H.getD k []).length = 2))) ?_ (fz_nr (by simp))
  rw [x_eCall, x_aCons, x_eF]
  have : fComp (iRng rng1 (aCons (eCall cLen (aCons (e2 gIx (eV 0) (eC (.int 1))) (aNil))) (aNil))) [6] (gN 6) (eTru (mP "Agents" "is_done" f_Agents_is_done (eV 5) (aCons (eV 6) (aNil)))) (eV 6) ((startR 7 [dealsD n ds, lotD F, lotD fi, lotD LG, cdD cd]).set 5 (some (agD n ds F fi LG H))) [] = _ := c
  rw [this]
  rfl
theorem agent_done_w {T : Tk} (W : DealsOk n ds) (hF : LotOk n F) (h : FiOk n ds fi) (tk : TkOk n ds F T) (hT : T.length = ds.length) (hfi : ∀ k < ds.length, fi.getD k 0 = fst1 T k) : f_agent_done [dealsD n ds, lotD F, lotD fi, .tup [], .tup []] = some (lotD (List.range ds.length)) := by
  obtain ⟨H, e, g, fx, _⟩ := agent_done_g (LG := []) (cd := []) W hF h (LotOk.nil n) (by simp) (by simp) (no_conduct []) (fun _ => True) trivial (fun _ _ _ _ _ _ _ => trivial)
  have tw := all_two W tk hT hfi g fx
  have : (List.range ds.length).filter (fun k => decide ((H.getD k []).length = 2)) = List.range ds.length := List.filter_eq_self.mpr fun k hk => decide_eq_true (tw k (List.mem_range.mp hk))
  rw [this] at e
  exact e
end
end DL

set_option maxHeartbeats 1000000
namespace DL
open PySem PySem.Spec L2
/-! ### who is torn -/
def isTorn (ds : List (Nat × Nat)) (lot : List Nat) (p : Nat) : Bool := (dof ds p).any (fun k => decide (k ∈ lot)) && !(dof ds p).all fun k => decide (k ∈ lot)
def tornL (n : Nat) (ds : List (Nat × Nat)) (lot : List Nat) : List Nat := (List.range n).filter (isTorn ds lot)
theorem agent_torn_w {n : Nat} {ds : List (Nat × Nat)} (W : DealsOk n ds) {lot : List Nat} (ho : LotOk ds.length lot) : f_agent_torn [dealsD n ds, .tup [], lotD lot] = some (lotD (tornL n ds lot)) := by
  have h2 : ds.length ≤ 1000000 := Nat.le_trans W.r10 (by decide)
  have h3 : ds.length ≤ 1000 := Nat.le_trans W.r10 (by decide)
  have hn : n ≤ 1000 := Nat.le_trans W.n6 (by decide)
  have hn' : n ≤ 1000000 := by omega
  have f0 : f_need_free [dealsD n ds, .tup []] = some .non := need_free_ok (l := []) (LotOk.nil n) hn
  obtain ⟨ρ', S', e, x4, x5, x6, rfl, rfl⟩ := loop_inv (g := gN 4) (body := l1_agent_torn) (ds := (List.range n).map nD)
    (ρ := [some (dealsD n ds), some (.tup []), some (lotD lot), some (.ref 0), none, none, none]) (S := [.lst []])
    (fun i ρ S => ∃ x4 x5 x6 : Option D, ρ = [some (dealsD n ds), some (.tup []), some (lotD lot), some (.ref 0), x4, x5, x6] ∧ S = [.lst (((List.range i).filter (isTorn ds lot)).map nD)])
    ⟨none, none, none, rfl, rfl⟩ (by
      rintro i d ρ S hi ⟨x4, x5, x6, rfl, rfl⟩
      obtain ⟨hlt, rfl⟩ := nth_range hi
      have dl : (dof ds i).length ≤ 1000000 := Nat.le_trans (dof_ok ds i).len h2
      have sm : ((List.range i).filter (isTorn ds lot)).length ≤ 1000000 := by
        refine Nat.le_trans (List.length_filter_le _ _) ?_
        rw [List.length_range]; omega
      have nin : gInS true [.lst (((List.range i).filter (isTorn ds lot)).map nD)] (.int (i : Nat)) (.tup []) = some (.bl true) := by
        have := y_inT true [.lst (((List.range i).filter (isTorn ds lot)).map nD)] i []
        simpa using this
      refine ⟨_, [some (dealsD n ds), some (.tup []), some (lotD lot), some (.ref 0), some (.int (i : Nat)), some (.lst ((dof ds i).map fun k => .bl (decide (k ∈ lot)))), x6], [.lst (((List.range (i + 1)).filter (isTorn ds lot)).map nD)], .nx, rfl, ?_, .inl rfl, _, _, _, rfl, rfl⟩
      rw [List.range_succ, List.filter_append]
      have ft : ∀ b, isTorn ds lot i = b → List.filter (isTorn ds lot) [i] = if b then [i] else [] := fun b h => by
        cases b <;> simp [List.filter_cons, h]
      cases h1 : (dof ds i).any (fun k => decide (k ∈ lot)) with
      | false =>
        have t : isTorn ds lot i = false := by simp [isTorn, h1, -List.any_eq_false]
        rw [ft _ t]
        simp [l1_agent_torn, deals_of_w, h2, dl, nin, h1, -List.any_eq_false, -List.filter_append, -List.map_append]
      | true =>
        cases h4 : (dof ds i).all (fun k => decide (k ∈ lot)) with
        | true =>
          have t : isTorn ds lot i = false := by simp [isTorn, h1, h4, -List.any_eq_true, -List.all_eq_true]
          rw [ft _ t]
          simp [l1_agent_torn, deals_of_w, h2, dl, nin, h1, h4, -List.any_eq_true, -List.all_eq_true]
        | false =>
          have t : isTorn ds lot i = true := by simp [isTorn, h1, h4, -List.any_eq_true, -List.all_eq_false]
          rw [ft _ t]
          simp [l1_agent_torn, deals_of_w, h2, dl, nin, h1, h4, sm, -List.any_eq_true, -List.all_eq_false])
  have ll : f_is_lot [lotD lot, .int (ds.length : Nat)] = some (.bl true) := is_lot_ok ho h3
  simp only [List.length_map, List.length_range] at e
  simp [f_agent_torn, b_agent_torn, run_eq, startR, need_deals_ok W, f0, ll, rng1_nat hn', e]
  simp [lotD, tornL]
end DL

set_option maxHeartbeats 1000000
namespace DL
open PySem PySem.Spec L2
/-! ### keepers are not torn -/
section
variable {n : Nat} {ds : List (Nat × Nat)} {F fi LG : List Nat} {H H' : Hld}
def begL (ds : List (Nat × Nat)) (fi : List Nat) (p : Nat) : List Nat := (dof ds p).filter fun k => decide (fi.getD k 0 = p)
structure InvK (ds : List (Nat × Nat)) (F fi LG : List Nat) (H : Hld) : Prop where
  kp : ∀ p, p ∉ F → p ∉ LG → ∀ k, k ∈ dof ds p → p ∈ H.getD k [] → (begL ds fi p).length ≤ 1 ∧ (∀ j ∈ dof ds p, fi.getD j 0 ≠ p → cov ds H p j = true) ∧ (fi.getD k 0 ≠ p → ∀ j ∈ dof ds p, cov ds H p j = true)
theorem invK0 : InvK ds F fi LG (List.replicate ds.length []) := ⟨fun p _ _ k _ h => by rw [rep_getD] at h; simp at h⟩
theorem cov_mono {G : List (Nat × Nat)} (s : Stp H H' G) {p k : Nat} (h : cov ds H p k = true) : cov ds H' p k = true := by
  unfold cov at h ⊢
  exact decide_eq_true (s.mono _ _ (of_decide_eq_true h))
theorem invK_step {cd : List Row} (hcl : ∀ r ∈ cd, r.2.1 ∈ LG) {a : Nat} (i : InvK ds F fi LG H) (s : Stp H H' (wishAll ds F fi LG (atR cd a) H n)) : InvK ds F fi LG H' := by
  refine ⟨fun p hF hL k hk h => ?_⟩
  have up : ∀ {P : Nat → Prop}, (∀ j ∈ dof ds p, P j → cov ds H p j = true) → ∀ j ∈ dof ds p, P j → cov ds H' p j = true := fun q j hj hp => cov_mono s (q j hj hp)
  rcases s.new k p h with h | h
  · obtain ⟨a1, a2, a3⟩ := i.kp p hF hL k hk h
    exact ⟨a1, up a2, fun z j hj => cov_mono s (a3 z j hj)⟩
  · rcases (mem_wishAll n).mp h with h | ⟨_, _, h⟩
    · unfold atR at h
      obtain ⟨r, hr, e⟩ := List.mem_map.mp h
      have : r.2.1 = p := congrArg Prod.fst e
      exact absurd (this ▸ hcl r (List.mem_filter.mp hr).1) hL
    · have h' : k ∈ wishL ds F fi H p := h
      unfold wishL at h'
      rw [if_neg hF] at h'
      simp only [] at h'
      have hb : (dof ds p).filter (fun k => decide (fi.getD k 0 = p)) = begL ds fi p := rfl
      rw [hb] at h'
      cases hc : (decide (1 < (begL ds fi p).length) || !((dof ds p).filter fun k => !decide (k ∈ begL ds fi p)).all (cov ds H p)) with
      | true => rw [hc, if_pos rfl] at h'; simp at h'
      | false =>
        rw [hc, if_neg (by decide)] at h'
        rw [Bool.or_eq_false_iff] at hc
        obtain ⟨c1, c2⟩ := hc
        have c1' := of_decide_eq_false c1
        have c2' : ((dof ds p).filter fun k => !decide (k ∈ begL ds fi p)).all (cov ds H p) = true := by simpa using c2
        have rest : ∀ j ∈ dof ds p, fi.getD j 0 ≠ p → cov ds H p j = true := fun j hj ne => List.all_eq_true.mp c2' j (List.mem_filter.mpr ⟨hj, by
          have : j ∉ begL ds fi p := fun z => ne (of_decide_eq_true (List.mem_filter.mp z).2)
          rw [decide_eq_false this]; rfl⟩)
        refine ⟨by omega, up rest, fun ne => ?_⟩
        cases hb2 : (begL ds fi p).all (cov ds H p) with
        | true =>
          intro j hj
          by_cases z : fi.getD j 0 = p
          · exact cov_mono s (List.all_eq_true.mp hb2 j (List.mem_filter.mpr ⟨hj, decide_eq_true z⟩))
          · exact cov_mono s (rest j hj z)
        | false =>
          rw [hb2, if_neg (by decide)] at h'
          exact absurd (of_decide_eq_true (List.mem_filter.mp h').2) ne
def doneL (ds : List (Nat × Nat)) (H : Hld) : List Nat := (List.range ds.length).filter fun k => decide ((H.getD k []).length = 2)
theorem doneL_ok : LotOk ds.length (doneL ds H) := ⟨List.pairwise_lt_range.filter _, fun x hx => List.mem_range.mp (List.mem_filter.mp hx).1⟩
theorem mem_doneL (W : DealsOk n ds) (g : GoodH ds H) {k : Nat} {d : Nat × Nat} (e : ds[k]? = some d) : k ∈ doneL ds H ↔ d.1 ∈ H.getD k [] ∧ d.2 ∈ H.getD k [] := by
  have hk := (List.getElem?_eq_some_iff.mp e).1
  obtain ⟨nd, sub⟩ := g.ok k d e
  have ne := (W.ok d (List.mem_of_getElem? e)).2.2
  unfold doneL
  rw [List.mem_filter, List.mem_range, decide_eq_true_eq]
  constructor
  · rintro ⟨_, h⟩
    match hH : H.getD k [], h with
    | [a, b], _ =>
      rw [hH] at nd sub
      have ab : a ≠ b := by simp at nd; exact nd
      have sa := sub a (by simp)
      have sb := sub b (by simp)
      rcases sa with rfl | rfl <;> rcases sb with rfl | rfl <;> simp at ab ⊢
  · rintro ⟨h1, h2⟩
    refine ⟨hk, ?_⟩
    have le := g.two hk
    have := List.Nodup.length_le_of_subset (l₁ := [d.1, d.2]) (l₂ := H.getD k []) (by simp [ne]) fun x hx => by
      simp only [List.mem_cons, List.not_mem_nil, or_false] at hx
      rcases hx with rfl | rfl
      · exact h1
      · exact h2
    simp only [List.length_cons, List.length_nil] at this
    omega
theorem isTorn_false {lot : List Nat} {p : Nat} (h : ∀ k ∈ dof ds p, k ∈ lot → ∀ j ∈ dof ds p, j ∈ lot) : isTorn ds lot p = false := by
  unfold isTorn
  cases h1 : (dof ds p).any (fun k => decide (k ∈ lot)) with
  | false => rfl
  | true =>
    obtain ⟨k, hk, hl⟩ := List.any_eq_true.mp h1
    have : (dof ds p).all (fun k => decide (k ∈ lot)) = true := List.all_eq_true.mpr fun j hj => decide_eq_true (h k hk (of_decide_eq_true hl) j hj)
    rw [this]; rfl
theorem keeper_whole (W : DealsOk n ds) (g : GoodH ds H) (fx : FixH n ds F fi LG H) (i : InvK ds F fi LG H) {p : Nat} (hp : p < n) (hF : p ∉ F) (hL : p ∉ LG) : isTorn ds (doneL ds H) p = false := by
  refine isTorn_false fun k hk hd j hj => ?_
  obtain ⟨d, e, hdp⟩ := mem_dof.mp hk
  obtain ⟨h1, h2⟩ := (mem_doneL W g e).mp hd
  have pk : p ∈ H.getD k [] := by
    rcases hdp with e | e
    · rw [e]; exact h1
    · rw [e]; exact h2
  have ck : cov ds H p k = true := by
    unfold cov
    rw [getD_of e]
    rcases othP_in hdp with ⟨_, b⟩ | ⟨_, b⟩
    · rw [b]; exact decide_eq_true h2
    · rw [b]; exact decide_eq_true h1
  obtain ⟨a1, a2, a3⟩ := i.kp p hF hL k hk pk
  have allc : ∀ j ∈ dof ds p, cov ds H p j = true := fun j hj => by
    by_cases z : fi.getD k 0 = p
    · by_cases zj : fi.getD j 0 = p
      · have mk : k ∈ begL ds fi p := List.mem_filter.mpr ⟨hk, decide_eq_true z⟩
        have mj : j ∈ begL ds fi p := List.mem_filter.mpr ⟨hj, decide_eq_true zj⟩
        have : j = k := by
          match hb : begL ds fi p, a1 with
          | [], _ => rw [hb] at mk; simp at mk
          | [x], _ => rw [hb] at mk mj; simp at mk mj; rw [mk, mj]
        rw [this]; exact ck
      · exact a2 j hj zj
    · exact a3 z j hj
  have wj : j ∈ wishL ds F fi H p := by
    unfold wishL
    rw [if_neg hF]
    simp only []
    have hb : (dof ds p).filter (fun k => decide (fi.getD k 0 = p)) = begL ds fi p := rfl
    rw [hb]
    have c1 : ¬ 1 < (begL ds fi p).length := by omega
    have c2 : ((dof ds p).filter fun k => !decide (k ∈ begL ds fi p)).all (cov ds H p) = true := List.all_eq_true.mpr fun x hx => allc x (List.mem_filter.mp hx).1
    have c3 : (begL ds fi p).all (cov ds H p) = true := List.all_eq_true.mpr fun x hx => allc x (List.mem_filter.mp hx).1
    rw [decide_eq_false c1, c2, c3]
    simp only [Bool.not_true, Bool.or_self, Bool.false_eq_true, if_false, if_true]
    by_cases z : j ∈ begL ds fi p
    · exact List.mem_append_left _ z
    · exact List.mem_append_right _ (List.mem_filter.mpr ⟨hj, by rw [decide_eq_false z]; rfl⟩)
  have pj := fx p hp hL j wj
  have cj := allc j hj
  obtain ⟨d2, e2, hd2⟩ := mem_dof.mp hj
  refine (mem_doneL W g e2).mpr ?_
  unfold cov at cj
  rw [getD_of e2] at cj
  have cj' := of_decide_eq_true cj
  rcases othP_in hd2 with ⟨a, b⟩ | ⟨a, b⟩
  · rw [b] at cj'
    exact ⟨by rw [← a]; exact pj, cj'⟩
  · rw [b] at cj'
    exact ⟨cj', by rw [← a]; exact pj⟩
/-- who does nothing has nothing done -/
theorem idle_step {cd : List Row} {a x : Nat} (hx : x ∈ LG) (hcd : ∀ r ∈ cd, r.2.1 ≠ x) (h : ∀ k, x ∉ H.getD k []) (s : Stp H H' (wishAll ds F fi LG (atR cd a) H n)) : ∀ k, x ∉ H'.getD k [] := fun k z => by
  rcases s.new k x z with z | z
  · exact h k z
  · rcases (mem_wishAll n).mp z with z | ⟨_, z, _⟩
    · unfold atR at z
      obtain ⟨r, hr, e⟩ := List.mem_map.mp z
      exact hcd r (List.mem_filter.mp hr).1 (congrArg Prod.fst e)
    · exact z hx
end
end DL

set_option maxHeartbeats 1000000
namespace DL
open PySem PySem.Spec L2
/-! ### trees and rounds, plain -/
section
variable {n : Nat} {ds : List (Nat × Nat)} {F : List Nat}
structure TreeOk (ds : List (Nat × Nat)) : Prop where
  lt : ∀ d ∈ ds, d.1 < d.2
  nd : (ds.map (·.2)).Nodup
theorem tree_none (W : DealsOk n ds) (t : TreeOk ds) {C : Nat → Prop} (hC : Core n ds C) : ∀ k < ds.length, ¬ C k := by
  have main : ∀ (m k : Nat) (d : Nat × Nat), ds[k]? = some d → n - d.2 = m → ¬ C k := by
    intro m
    induction m using Nat.strongRecOn with
    | ind m ih =>
      intro k d e hm hk
      have ok := W.ok d (List.mem_of_getElem? e)
      obtain ⟨j, hj, ne, cj⟩ := hC d.2 ok.2.1 k (mem_dof.mpr ⟨d, e, .inr rfl⟩) hk
      obtain ⟨d2, e2, h2⟩ := mem_dof.mp hj
      have ok2 := W.ok d2 (List.mem_of_getElem? e2)
      have lt2 := t.lt d2 (List.mem_of_getElem? e2)
      rcases h2 with h2 | h2
      · exact ih (n - d2.2) (by omega) j d2 e2 rfl cj
      · have a1 : (ds.map (·.2))[k]? = some d.2 := by rw [List.getElem?_map, e]; rfl
        have a2 : (ds.map (·.2))[j]? = some d.2 := by rw [List.getElem?_map, e2, h2]; rfl
        have := (List.getElem?_inj (List.getElem?_eq_some_iff.mp a1).1 t.nd).mp (a1.trans a2.symm)
        exact ne this.symm
  intro k hk
  exact main _ k _ (List.getElem?_eq_getElem hk) rfl
theorem srt2_mem {a b c d : Nat} (h : eqDs (srt2 a b) (srt2 c d) = true) : ∀ x, (x = a ∨ x = b) ↔ (x = c ∨ x = d) := by
  obtain ⟨G1, p1, e1⟩ := perm_sorted nD [a, b]
  obtain ⟨G2, p2, e2⟩ := perm_sorted nD [c, d]
  have h1 : srt2 a b = G1.map nD := e1
  have h2 : srt2 c d = G2.map nD := e2
  rw [h1, h2, eqDs_nD, decide_eq_true_eq] at h
  subst h
  intro x
  have q1 := p1.mem_iff (a := x)
  have q2 := p2.mem_iff (a := x)
  simp only [List.mem_cons, List.not_mem_nil, or_false] at q1 q2
  rw [← q1, q2]
/-- the deals of a round at a person: two -/
def Two (ds : List (Nat × Nat)) (N : List Nat) : Prop := ∀ p k, k ∈ N → k ∈ dof ds p → ∃ k' ∈ N, k' ∈ dof ds p ∧ k' ≠ k ∧ ∀ j ∈ N, j ∈ dof ds p → j = k ∨ j = k'
theorem round_link {R : List (Nat × Nat)} (h : RndIn n ds F R) (hc : conAll ds R = true) (h2 : 2 ≤ R.length) :
    ∀ i < R.length, ∀ p, ((R.map (·.2)).getD i 0 ∈ dof ds p ↔ (p = (R.map (·.1)).getD i 0 ∨ p = (R.map (·.1)).getD (if i + 1 = R.length then 0 else i + 1) 0)) := by
  intro i hi p
  have hN : (R.map (·.2)).getD i 0 < ds.length := by
    have e : R[i]? = some R[i] := List.getElem?_eq_getElem hi
    rw [List.getD_eq_getElem?_getD, List.getElem?_map, e]
    exact (h.rg _ (List.mem_of_getElem? e)).2
  -- the place at which i is the one ahead
  have key : ∃ j < R.length, prv (R.map (·.2)) j = (R.map (·.2)).getD i 0 ∧ prv (R.map (·.1)) j = (R.map (·.1)).getD i 0 ∧ (R.map (·.1)).getD j 0 = (R.map (·.1)).getD (if i + 1 = R.length then 0 else i + 1) 0 := by
    by_cases e : i + 1 = R.length
    · refine ⟨0, by omega, ?_, ?_, by rw [if_pos e]⟩
      · unfold prv; rw [if_pos rfl, List.length_map]; congr 1; omega
      · unfold prv; rw [if_pos rfl, List.length_map]; congr 1; omega
    · refine ⟨i + 1, by omega, ?_, ?_, by rw [if_neg e]⟩
      · unfold prv; rw [if_neg (by omega)]; congr 1
      · unfold prv; rw [if_neg (by omega)]; congr 1
  obtain ⟨j, hj, k1, k2, k3⟩ := key
  have c := List.all_eq_true.mp hc j (List.mem_range.mpr hj)
  unfold con at c
  rw [k1, k2, k3] at c
  have s := srt2_mem c p
  have e : ds[(R.map (·.2)).getD i 0]? = some ds[(R.map (·.2)).getD i 0] := List.getElem?_eq_getElem hN
  rw [getD_of e] at s
  rw [mem_dof]
  constructor
  · rintro ⟨d, e', hd⟩
    rw [e] at e'
    cases e'
    exact s.mp hd
  · intro hp
    exact ⟨_, e, s.mpr hp⟩
theorem getD_nodup {l : List Nat} (nd : l.Nodup) {i j : Nat} (hi : i < l.length) (hj : j < l.length) (h : l.getD i 0 = l.getD j 0) : i = j := by
  rw [List.getD_eq_getElem?_getD, List.getD_eq_getElem?_getD, List.getElem?_eq_getElem hi, List.getElem?_eq_getElem hj] at h
  have h' : l[i] = l[j] := h
  refine (List.getElem?_inj hi nd).mp ?_
  rw [List.getElem?_eq_getElem hi, List.getElem?_eq_getElem hj, h']
theorem getD_mem {l : List Nat} {i : Nat} (hi : i < l.length) : l.getD i 0 ∈ l := by
  rw [List.getD_eq_getElem?_getD, List.getElem?_eq_getElem hi]
  exact List.getElem_mem hi
theorem round_two {R : List (Nat × Nat)} (h : RndIn n ds F R) (hc : conAll ds R = true) (h2 : 2 ≤ R.length) : Two ds (R.map (·.2)) := by
  intro p k hk hd
  have lk := round_link h hc h2
  have lN : (R.map (·.2)).length = R.length := List.length_map _
  have lP : (R.map (·.1)).length = R.length := List.length_map _
  have idx : ∀ x ∈ R.map (·.2), ∃ i < R.length, (R.map (·.2)).getD i 0 = x := fun x hx => by
    obtain ⟨i, hi, e⟩ := List.getElem_of_mem hx
    refine ⟨i, by omega, ?_⟩
    rw [List.getD_eq_getElem?_getD, List.getElem?_eq_getElem hi, e]
    rfl
  have nx : ∀ i < R.length, (if i + 1 = R.length then 0 else i + 1) < R.length := fun i hi => by split <;> omega
  -- p stands at one place
  have pl : ∃ m < R.length, p = (R.map (·.1)).getD m 0 := by
    obtain ⟨i, hi, rfl⟩ := idx k hk
    rcases (lk i hi p).mp hd with e | e
    · exact ⟨i, hi, e⟩
    · exact ⟨_, nx i hi, e⟩
  obtain ⟨m, hm, ep⟩ := pl
  -- its two
  have hm' : (if m = 0 then R.length - 1 else m - 1) < R.length := by split <;> omega
  have nxm : (if (if m = 0 then R.length - 1 else m - 1) + 1 = R.length then 0 else (if m = 0 then R.length - 1 else m - 1) + 1) = m := by
    by_cases e : m = 0
    · rw [if_pos e, if_pos (by omega)]; exact e.symm
    · rw [if_neg e, if_neg (by omega)]; omega
  have t1 : (R.map (·.2)).getD m 0 ∈ dof ds p := (lk m hm p).mpr (.inl ep)
  have t2 : (R.map (·.2)).getD (if m = 0 then R.length - 1 else m - 1) 0 ∈ dof ds p := (lk _ hm' p).mpr (.inr (by rw [nxm]; exact ep))
  have only : ∀ j ∈ R.map (·.2), j ∈ dof ds p → j = (R.map (·.2)).getD m 0 ∨ j = (R.map (·.2)).getD (if m = 0 then R.length - 1 else m - 1) 0 := fun j hj hjd => by
    obtain ⟨i, hi, rfl⟩ := idx j hj
    rcases (lk i hi p).mp hjd with e | e
    · left
      have := getD_nodup h.nd1 (by omega : m < _) (by omega : i < _) (ep.symm.trans e)
      rw [this]
    · right
      have := getD_nodup h.nd1 (by omega : m < _) (by rw [lP]; exact nx i hi) (ep.symm.trans e)
      congr 1
      split at this <;> split <;> omega
  have ne : (R.map (·.2)).getD m 0 ≠ (R.map (·.2)).getD (if m = 0 then R.length - 1 else m - 1) 0 := fun z => by
    have := getD_nodup h.nd2 (by omega : m < _) (by omega) z
    split at this <;> omega
  rcases only k hk hd with e | e
  · refine ⟨(R.map (·.2)).getD (if m = 0 then R.length - 1 else m - 1) 0, getD_mem (by omega), t2, fun z => ne (by rw [← e, ← z]), fun j hj hjd => ?_⟩
    rw [e]
    exact only j hj hjd
  · refine ⟨(R.map (·.2)).getD m 0, getD_mem (by omega), t1, fun z => ne (by rw [z, e]), fun j hj hjd => ?_⟩
    rw [e]
    exact (only j hj hjd).symm
/-- the persons of a round are those at its deals -/
theorem round_persons {R : List (Nat × Nat)} (h : RndIn n ds F R) (hc : conAll ds R = true) (h2 : 2 ≤ R.length) : ∀ p, p ∈ R.map (·.1) ↔ ∃ k ∈ R.map (·.2), k ∈ dof ds p := by
  have lk := round_link h hc h2
  have lN : (R.map (·.2)).length = R.length := List.length_map _
  have lP : (R.map (·.1)).length = R.length := List.length_map _
  intro p
  constructor
  · intro hp
    obtain ⟨i, hi, e⟩ := List.getElem_of_mem hp
    refine ⟨(R.map (·.2)).getD i 0, getD_mem (by omega), (lk i (by omega) p).mpr (.inl ?_)⟩
    rw [List.getD_eq_getElem?_getD, List.getElem?_eq_getElem hi, e]
    rfl
  · rintro ⟨k, hk, hd⟩
    obtain ⟨i, hi, e⟩ := List.getElem_of_mem hk
    have e' : (R.map (·.2)).getD i 0 = k := by rw [List.getD_eq_getElem?_getD, List.getElem?_eq_getElem hi, e]; rfl
    rw [← e'] at hd
    rcases (lk i (by omega) p).mp hd with e | e
    · rw [e]; exact getD_mem (by omega)
    · rw [e]; exact getD_mem (by rw [lP]; split <;> omega)
/-- not all taken, where there are as many deals as persons and nobody is free -/
theorem not_all {T : Tk} (W : DealsOk n ds) (tk : TkOk n ds [] T) (hn : ds.length = n) : T.length ≠ ds.length := by
  intro hT
  have hn2 := W.n2
  have lt : T.length - 1 < T.length := by omega
  obtain ⟨⟨k, p⟩, e⟩ : ∃ x, T[T.length - 1]? = some x := ⟨_, List.getElem?_eq_getElem lt⟩
  obtain ⟨d, ed, hd⟩ := tk.ok _ (List.mem_of_getElem? e)
  have ed' : ds[k]? = some d := ed
  have hd' : p = d.1 ∨ p = d.2 := hd
  have okd := W.ok d (List.mem_of_getElem? ed')
  have oth : (othP d p = d.1 ∨ othP d p = d.2) ∧ othP d p ≠ p := by
    rcases othP_in hd' with ⟨a, b⟩ | ⟨a, b⟩
    · rw [b]; exact ⟨.inr rfl, fun z => okd.2.2 (by rw [← a, ← z])⟩
    · rw [b]; exact ⟨.inl rfl, fun z => okd.2.2 (by rw [z, a])⟩
  have posK : ∀ {i j a b c : Nat}, T[i]? = some (a, b) → T[j]? = some (a, c) → i = j := fun {i j a b c} e1 e2 => by
    have n1 : (T.map (·.1))[i]? = some a := by rw [List.getElem?_map, e1]; rfl
    have n2 : (T.map (·.1))[j]? = some a := by rw [List.getElem?_map, e2]; rfl
    exact (List.getElem?_inj (List.getElem?_eq_some_iff.mp n1).1 tk.nd).mp (n1.trans n2.symm)
  have inTake : ∀ {i k' : Nat}, k' ∈ (T.take i).map (·.1) → ∃ a q, a < i ∧ T[a]? = some (k', q) := fun {i k'} h => by
    obtain ⟨y, hy, ey⟩ := List.mem_map.mp h
    obtain ⟨a, ha, ea⟩ := List.getElem_of_mem hy
    rw [List.length_take] at ha
    rw [List.getElem_take] at ea
    refine ⟨a, y.2, by omega, ?_⟩
    rw [List.getElem?_eq_getElem (by omega), ea, ← ey]
  have nd2 : (T.map (·.2)).Nodup := by
    rw [List.nodup_iff_pairwise_ne, List.pairwise_iff_getElem]
    intro i j hi hj hij
    rw [List.length_map] at hi hj
    rw [List.getElem_map, List.getElem_map]
    intro z
    have e1 : T[i]? = some (T[i].1, T[i].2) := List.getElem?_eq_getElem hi
    have e2 : T[j]? = some (T[j].1, T[i].2) := by rw [List.getElem?_eq_getElem hj, z]
    obtain ⟨d2, ed2, hd2⟩ := tk.ok _ (List.mem_of_getElem? e2)
    have ne : T[j].1 ≠ T[i].1 := fun q => by
      have := posK e1 (by rw [← q]; exact e2)
      omega
    have := (tk.frst i _ _ e1 (by simp) T[j].1 (mem_dof.mpr ⟨d2, ed2, hd2⟩) ne).1
    obtain ⟨a, q, ha, ea⟩ := inTake this
    have := posK ea e2
    omega
  have nin : othP d p ∉ T.map (·.2) := fun z => by
    obtain ⟨y, hy, ey⟩ := List.mem_map.mp z
    obtain ⟨i, hi, ei⟩ := List.getElem_of_mem hy
    have e1 : T[i]? = some (y.1, othP d p) := by rw [List.getElem?_eq_getElem hi, ei, ← ey]
    have ne : k ≠ y.1 := fun q => by
      have := posK e (by rw [q]; exact e1)
      rw [← this, e] at e1
      have z2 : p = othP d p := congrArg Prod.snd (Option.some.inj e1)
      exact oth.2 z2.symm
    have := (tk.frst i _ _ e1 (by simp) k (mem_dof.mpr ⟨d, ed', oth.1⟩) ne).1
    obtain ⟨a, q, ha, ea⟩ := inTake this
    have := posK ea e
    omega
  have := List.Nodup.length_le_of_subset (l₁ := othP d p :: T.map (·.2)) (l₂ := List.range n) (List.nodup_cons.mpr ⟨nin, nd2⟩) fun x hx => by
    rcases List.mem_cons.mp hx with rfl | hx
    · rcases oth.1 with h | h
      · rw [h]; exact List.mem_range.mpr okd.1
      · rw [h]; exact List.mem_range.mpr okd.2.1
    · obtain ⟨y, hy, rfl⟩ := List.mem_map.mp hx
      obtain ⟨d2, ed2, hd2⟩ := tk.ok y hy
      have ok2 := W.ok d2 (List.mem_of_getElem? ed2)
      rcases hd2 with h | h
      · rw [h]; exact List.mem_range.mpr ok2.1
      · rw [h]; exact List.mem_range.mpr ok2.2.1
  simp at this
  omega
theorem dof_app {d : Nat × Nat} {p k : Nat} (h : k ∈ dof (ds ++ [d]) p) : k = ds.length ∨ k ∈ dof ds p := by
  obtain ⟨e, h1, h2⟩ := mem_dof.mp h
  by_cases hk : k < ds.length
  · rw [List.getElem?_append_left hk] at h1
    exact .inr (mem_dof.mpr ⟨e, h1, h2⟩)
  · have := (List.getElem?_eq_some_iff.mp h1).1
    simp at this
    exact .inl (by omega)
theorem dof_app' {d : Nat × Nat} {p k : Nat} (h : k ∈ dof ds p) : k ∈ dof (ds ++ [d]) p := by
  obtain ⟨e, h1, h2⟩ := mem_dof.mp h
  exact mem_dof.mpr ⟨e, by rw [List.getElem?_append_left (List.getElem?_eq_some_iff.mp h1).1]; exact h1, h2⟩
/-- a round where a tree has one deal more has that deal -/
theorem round_last (W : DealsOk n ds) (t : TreeOk ds) {d : Nat × Nat} {N : List Nat} (hN : Two (ds ++ [d]) N) (lt : ∀ k ∈ N, k < ds.length + 1) (ne : N ≠ []) : ds.length ∈ N := by
  refine Classical.byContradiction fun c => ?_
  have core : Core n ds (· ∈ N) := fun p hp k hk hkN => by
    obtain ⟨k', h1, h2, h3, _⟩ := hN p k hkN (dof_app' hk)
    rcases dof_app h2 with e | e
    · exact absurd (e ▸ h1) c
    · exact ⟨k', e, h3, h1⟩
  obtain ⟨k, hk⟩ : ∃ k, k ∈ N := List.exists_mem_of_ne_nil N ne
  have hlt := lt k hk
  have : k ≠ ds.length := fun e => c (e ▸ hk)
  exact tree_none W t core k (by omega) hk
/-- two rounds where a tree has one deal more are the same -/
theorem round_same (W : DealsOk n ds) (t : TreeOk ds) {d : Nat × Nat} {N N2 : List Nat} (hN : Two (ds ++ [d]) N) (hN2 : Two (ds ++ [d]) N2) (lt : ∀ k ∈ N, k < ds.length + 1) (l1 : ds.length ∈ N) (l2 : ds.length ∈ N2) : ∀ k ∈ N, k ∈ N2 := by
  have half : ∀ {A B : List Nat}, Two (ds ++ [d]) A → Two (ds ++ [d]) B → ∀ p k, k ∈ A → k ∉ B → k ∈ dof (ds ++ [d]) p → ∃ j ∈ dof (ds ++ [d]) p, j ≠ k ∧ ((j ∈ A ∧ j ∉ B) ∨ (j ∈ B ∧ j ∉ A)) := fun {A B} hA hB p k hk hkB hd => by
    obtain ⟨k', a1, a2, a3, a4⟩ := hA p k hk hd
    by_cases hB' : k' ∈ B
    · obtain ⟨k'', b1, b2, b3, b4⟩ := hB p k' hB' a2
      have n1 : k'' ≠ k := fun e => hkB (e ▸ b1)
      refine ⟨k'', b2, n1, .inr ⟨b1, fun z => ?_⟩⟩
      rcases a4 k'' z b2 with e | e
      · exact n1 e
      · exact b3 e
    · exact ⟨k', a2, a3, .inl ⟨a1, hB'⟩⟩
  have core : Core n ds (fun k => (k ∈ N ∧ k ∉ N2) ∨ (k ∈ N2 ∧ k ∉ N)) := fun p hp k hk hkN => by
    have hk' := dof_app' (d := d) hk
    have fin : ∀ j, j ∈ dof (ds ++ [d]) p → ((j ∈ N ∧ j ∉ N2) ∨ (j ∈ N2 ∧ j ∉ N)) → j ∈ dof ds p := fun j hj hc => by
      rcases dof_app hj with e | e
      · subst e
        rcases hc with ⟨_, z⟩ | ⟨_, z⟩
        · exact absurd l2 z
        · exact absurd l1 z
      · exact e
    rcases hkN with ⟨a, b⟩ | ⟨a, b⟩
    · obtain ⟨j, j1, j2, j3⟩ := half hN hN2 p k a b hk'
      exact ⟨j, fin j j1 j3, j2, j3⟩
    · obtain ⟨j, j1, j2, j3⟩ := half hN2 hN p k a b hk'
      exact ⟨j, fin j j1 j3.symm, j2, j3.symm⟩
  intro k hk
  refine Classical.byContradiction fun c => ?_
  have : k ≠ ds.length := fun e => c (e ▸ l2)
  have := lt k hk
  exact tree_none W t core k (by omega) (.inl ⟨hk, c⟩)
end
end DL

set_option maxHeartbeats 1000000
namespace DL
open PySem PySem.Spec L2
section
variable {n : Nat} {ds : List (Nat × Nat)} {F : List Nat} {O : Tk} {fi : List Nat}
theorem dof_filter (ds : List (Nat × Nat)) (p : Nat) : (List.range ds.length).filter (fun k => decide (p = (ds.getD k (0, 0)).1) || decide (p = (ds.getD k (0, 0)).2)) = dof ds p := by
  refine pw_le_ext (List.pairwise_lt_range.filter _) (dof_pw ds p) fun k => ?_
  rw [List.mem_filter, List.mem_range, mem_dof]
  constructor
  · rintro ⟨h1, h2⟩
    have e : ds[k]? = some ds[k] := List.getElem?_eq_getElem h1
    rw [getD_of e] at h2
    exact ⟨_, e, by simpa using h2⟩
  · rintro ⟨d, e, h⟩
    exact ⟨(List.getElem?_eq_some_iff.mp e).1, by rw [getD_of e]; simpa using h⟩
theorem pair_at {k : Nat} {d : Nat × Nat} (h : ds[k]? = some d) : atI (ds.map pairD) (k : Int) = some (pairD d) := by rw [atI_map, h]; rfl
theorem law_mine_w (n : Nat) (hl : ds.length ≤ 1000) (p : Nat) : f_law_mine [dealsD n ds, .int (p : Nat)] = some (.lst ((dof ds p).map nD)) := by
  have c := fcomp_of (f := iRng rng1 (aCons (eCall cLen (aCons (e2 gIx (eV 0) (eC (.int 1))) (aNil))) (aNil))) (vs := [2]) (g := gN 2) (t := eB (e2 (gInS false) (eV 1) (e2 gIx (e2 gIx (eV 0) (eC (.int 1))) (eV 2)))) (e := eV 2)
    (ρ := startR 3 [dealsD n ds, .int (p : Nat)]) (S := []) nD (List.range ds.length) (fun k => decide (p = (ds.getD k (0, 0)).1) || decide (p = (ds.getD k (0, 0)).2)) nD (by simp [startR, rng1_nat (by omega : ds.length ≤ 1000000)]) (by simp; omega) (fun k hk => ⟨_, rfl, by
      have hk' := List.mem_range.mp hk
      have e : ds[k]? = some ds[k] := List.getElem?_eq_getElem hk'
      rw [getD_of e]
      simp [startR, pair_at e, in_pair], fun _ => by simp [startR]⟩)
  rw [dof_filter] at c
  refine ret_run ?_
  unfold b_law_mine
  refine ret_ret (x := .lst ((dof ds p).map nD)) ?_ (fz_nr (by simp))
  rw [x_eF, c]
  rfl
end
end DL

set_option maxHeartbeats 1000000
namespace DL
open PySem PySem.Spec L2
/-! ### papers -/
theorem y_eqStr (S : Sto) {a b : Str} (h1 : okD 60 (.str a) = true) (h2 : okD 60 (.str b) = true) : gEq S (.str a) (.str b) = some (.bl (eqD (.str a) (.str b))) := y_eq h1 h2
theorem ok_round : okD 60 (.str "round") = true := by decide +kernel
theorem ok_firsts : okD 60 (.str "firsts") = true := by decide +kernel
theorem e_rr (S : Sto) : gEq S (.str "round") (.str "round") = some (.bl true) := by
  rw [y_eqStr S ok_round ok_round]
  have : eqD (.str "round") (.str "round") = true := by decide +kernel
  rw [this]
theorem e_fr (S : Sto) : gEq S (.str "firsts") (.str "round") = some (.bl false) := by
  rw [y_eqStr S ok_firsts ok_round]
  have : eqD (.str "firsts") (.str "round") = false := by decide +kernel
  rw [this]
theorem e_rf (S : Sto) : gEq S (.str "round") (.str "firsts") = some (.bl false) := by
  rw [y_eqStr S ok_round ok_firsts]
  have : eqD (.str "round") (.str "firsts") = false := by decide +kernel
  rw [this]
theorem e_ff (S : Sto) : gEq S (.str "firsts") (.str "firsts") = some (.bl true) := by
  rw [y_eqStr S ok_firsts ok_firsts]
  have : eqD (.str "firsts") (.str "firsts") = true := by decide +kernel
  rw [this]
theorem n_ff (S : Sto) : gNe S (.str "firsts") (.str "firsts") = some (.bl false) := y_neSelf ok_firsts
theorem isi_str (S : Sto) (a : Str) : cIsi S [.str a, .ty "str"] = some (.bl true) := rfl
theorem isi_lstT (S : Sto) (a : List D) : cIsi S [.lst a, .ty "tuple"] = some (.bl false) := rfl
theorem isi_nonT (S : Sto) : cIsi S [.non, .ty "tuple"] = some (.bl false) := rfl
section
variable {n : Nat} {ds : List (Nat × Nat)} {F fi : List Nat}
def roundP (R : List (Nat × Nat)) : D := .tup [.str "round", rndD R]
def firstsP (fi : List Nat) (O : Tk) : D := .tup [.str "firsts", lotD fi, ordVD O]
@[simp] theorem q_roundP (S : Sto) (R : List (Nat × Nat)) : seqD S (roundP R) = some [.str "round", rndD R] := (rfl)
@[simp] theorem q_firstsP (S : Sto) (O : Tk) : seqD S (firstsP fi O) = some [.str "firsts", lotD fi, ordVD O] := (rfl)
@[simp] theorem nr_roundP (R : List (Nat × Nat)) : nr (roundP R) = true := by simp [roundP]
@[simp] theorem nr_firstsP (O : Tk) : nr (firstsP fi O) = true := by simp [firstsP]
theorem isi_roundP (S : Sto) (R : List (Nat × Nat)) : cIsi S [roundP R, .ty "tuple"] = some (.bl true) := rfl
theorem isi_firstsP (S : Sto) (O : Tk) : cIsi S [firstsP fi O, .ty "tuple"] = some (.bl true) := rfl
theorem paper_round (W : DealsOk n ds) (hF : LotOk n F) {R : List (Nat × Nat)} {b : Bool} (h : f_is_round_of [dealsD n ds, lotD F, rndD R] = some (.bl b)) : f_is_agent_paper [dealsD n ds, lotD F, roundP R] = some (.bl b) := by
  have hn := W.n6
  have nf := need_free_ok (ds := ds) hF (by omega : n ≤ 1000)
  refine ret_run ?_
  unfold b_is_agent_paper
  refine ret_drop (x := .non) (by simp [startR, need_deals_ok W]) ?_
  refine ret_drop (x := .non) (by simp [startR, nf]) ?_
  refine ret_if0 (by simp [startR, isi_roundP, isi_str]) ?_
  refine ret_ifT (by simp [startR, e_rr]) ?_ (by
    intro ρ1 S1
    rw [x_sRet]
    intro z
    obtain ⟨w, _, h⟩ := Option.map_eq_some_iff.mp z
    cases h)
  exact ret_ret (x := .bl b) (by simp [startR, h]) rfl
theorem paper_firsts (W : DealsOk n ds) (hF : LotOk n F) (hfi : FiOk n ds fi) {O : Tk} {b : Bool} (h : f_is_order_of [dealsD n ds, lotD F, lotD fi, ordVD O] = some (.bl b)) : f_is_agent_paper [dealsD n ds, lotD F, firstsP fi O] = some (.bl b) := by
  have hn := W.n6
  have nf := need_free_ok (ds := ds) hF (by omega : n ≤ 1000)
  refine ret_run ?_
  unfold b_is_agent_paper
  refine ret_drop (x := .non) (by simp [startR, need_deals_ok W]) ?_
  refine ret_drop (x := .non) (by simp [startR, nf]) ?_
  refine ret_if0 (by simp [startR, isi_firstsP, isi_str]) ?_
  refine ret_if0 (by simp [startR, e_fr]) ?_
  refine ret_if0 (by simp [startR, n_ff, are_firsts_w W hfi]) ?_
  exact ret_ret (x := .bl b) (by simp [startR, h]) rfl
theorem paper_not (W : DealsOk n ds) (hF : LotOk n F) {d : D} (hd : nr d = true) (h : ∀ S, cIsi S [d, .ty "tuple"] = some (.bl false)) : f_is_agent_paper [dealsD n ds, lotD F, d] = some (.bl false) := by
  have hn := W.n6
  have nf := need_free_ok (ds := ds) hF (by omega : n ≤ 1000)
  refine ret_run ?_
  unfold b_is_agent_paper
  refine ret_drop (x := .non) (by simp [startR, need_deals_ok W]) ?_
  refine ret_drop (x := .non) (by simp [startR, nf]) ?_
  refine ret_rt (x := .bl false) (ρ1 := startR 3 [dealsD n ds, lotD F, d]) (S1 := []) (if_t (by simp [startR, h]) rfl) rfl
/-- a wrong first -/
theorem order_wrong (W : DealsOk n ds) {O : Tk} (hl : O.length = ds.length) (hfl : fi.length = ds.length) (hin : ∀ x ∈ O, x.1 < ds.length) (h : ∃ x ∈ O, fi.getD x.1 0 ≠ x.2) : f_is_order_of [dealsD n ds, lotD F, lotD fi, ordVD O] = some (.bl false) := by
  have hr := W.r10
  have hl6 : O.length ≤ 1000000 := by omega
  let ρ0 : Rho := [some (dealsD n ds), some (lotD F), some (lotD fi), some (ordVD O), none, none, none, none, none, none, none]
  have t1 : f_is_tuple_of [ordVD O, .int (ds.length : Nat)] = some (.bl true) := by
    have := is_tuple_of_t (O.map ordD) (ds.length : Nat)
    rw [List.length_map, hl] at this
    simpa [ordVD] using this
  have c1 := fcomp_all (f := jSeqD (eV 3)) (vs := [9]) (g := gN 9) (e := eFn f_is_tuple_of (aCons (eV 9) (aCons (eC (.int 2)) (aNil)))) (ρ := ρ0) (S := []) ordD O (fun _ => .bl true) (by simp [ρ0]) hl6 (fun x hx => ⟨_, rfl, by
    have := tup_pair (x.2, x.1)
    simp [ρ0, ordD, this]⟩)
  have c2 := fcomp_all (f := jSeqD (eV 3)) (vs := [9]) (g := gN 9) (e := eAnd (eFn f_is_under (aCons (e2 gIx (eV 9) (eC (.int 1))) (aCons (eCall cLen (aCons (e2 gIx (eV 0) (eC (.int 1))) (aNil))) (aNil)))) (e2 gEq (e2 gIx (eV 9) (eC (.int 0))) (e2 gIx (eV 2) (e2 gIx (eV 9) (eC (.int 1)))))) (ρ := ρ0) (S := []) ordD O (fun x => .bl (decide (x.2 = fi.getD x.1 0))) (by simp [ρ0]) hl6 (fun x hx => ⟨_, rfl, by
    have lt := hin x hx
    have a' : (x.1 : Int) < ds.length := by omega
    have lf : x.1 < fi.length := by omega
    have q : atI (fi.map nD) (x.1 : Int) = some (.int (fi.getD x.1 0 : Nat)) := by
      rw [atI_nD lf, List.getD_eq_getElem?_getD, List.getElem?_eq_getElem lf]; rfl
    simp [ρ0, is_under_i, lt, a', q, eqB_nat, -List.getD_eq_getElem?_getD]⟩)
  have a1 := all_true [] O
  have a2 : (O.all fun x => decide (x.2 = fi.getD x.1 0)) = false := by
    obtain ⟨x, hx, ne⟩ := h
    refine Bool.eq_false_iff.mpr fun z => ne ?_
    have := List.all_eq_true.mp z x hx
    exact (of_decide_eq_true this).symm
  refine ret_run ?_
  unfold b_is_order_of
  refine ret_if0 (by
    have : startR 11 [dealsD n ds, lotD F, lotD fi, ordVD O] = ρ0 := rfl
    rw [this]
    simp only [x_bOr, x_bNot, x_eTru, x_eCall, x_aCons, x_eF, x_aNil, c1]
    simp [ρ0, t1, a1, -List.map_const']) ?_
  refine ret_rt (x := .bl false) (ρ1 := ρ0) (S1 := []) (if_t (by
    have : startR 11 [dealsD n ds, lotD F, lotD fi, ordVD O] = ρ0 := rfl
    rw [this]
    simp only [x_bNot, x_eTru, x_eCall, x_aCons, x_eF, x_aNil, c2, Option.map_some, Option.bind_some, k_allM, a2]
    rfl) rfl) rfl
theorem order_short {O : Tk} (hl : O.length ≠ ds.length) : f_is_order_of [dealsD n ds, lotD F, lotD fi, ordVD O] = some (.bl false) := by
  have t1 : f_is_tuple_of [ordVD O, .int (ds.length : Nat)] = some (.bl false) := by
    have := is_tuple_of_t (O.map ordD) (ds.length : Nat)
    have ne : ¬ ((O.length : Int) = ds.length) := by omega
    rw [List.length_map, decide_eq_false ne] at this
    exact this
  refine ret_run ?_
  unfold b_is_order_of
  exact ret_rt (x := .bl false) (ρ1 := startR 11 [dealsD n ds, lotD F, lotD fi, ordVD O]) (S1 := []) (if_t (by simp [startR, t1]) rfl) rfl
/-! ### what is told -/
def fiOf (ds : List (Nat × Nat)) (T : Tk) : List Nat := (List.range ds.length).map (fst1 T)
theorem fiOf_at {T : Tk} {k : Nat} (hk : k < ds.length) : (fiOf ds T).getD k 0 = fst1 T k := by
  unfold fiOf
  rw [List.getD_eq_getElem?_getD, List.getElem?_map, List.getElem?_range hk]
  rfl
theorem fiOf_ok {T : Tk} (tk : TkOk n ds F T) (hT : T.length = ds.length) : FiOk n ds (fiOf ds T) := ⟨by simp [fiOf], fun k d e => by
  have hk := (List.getElem?_eq_some_iff.mp e).1
  rw [fiOf_at hk]
  obtain ⟨d', e', h⟩ := tk.ok _ (fst1_mem T (tk.full hT k hk))
  have e2 : ds[k]? = some d' := e'
  rw [e] at e2
  cases e2
  exact h⟩
theorem ord_in (W : DealsOk n ds) {T O : Tk} (tk : TkOk n ds F T) (hT : T.length = ds.length) (hp : O.Perm T) : OrdIn n ds (fiOf ds T) O := by
  refine ⟨by rw [hp.length_eq, hT], (hp.map _).nodup_iff.mpr tk.nd, fun x hx => ?_, by simp [fiOf], fun x hx => ?_⟩
  · have hx' := hp.mem_iff.mp hx
    obtain ⟨d, e, h⟩ := tk.ok x hx'
    have ok := W.ok d (List.mem_of_getElem? e)
    refine ⟨?_, d, e, h⟩
    rcases h with h | h
    · rw [h]; exact ok.1
    · rw [h]; exact ok.2.1
  · have hx' := hp.mem_iff.mp hx
    obtain ⟨d, e, h⟩ := tk.ok x hx'
    rw [fiOf_at (List.getElem?_eq_some_iff.mp e).1]
    exact fst1_of tk.nd hx'
theorem ord_true (W : DealsOk n ds) {T : Tk} (tk : TkOk n ds F T) (hT : T.length = ds.length) : ordAll ds F (fiOf ds T) T = true := by
  refine List.all_eq_true.mpr fun i hi => ?_
  have hi' := List.mem_range.mp hi
  obtain ⟨⟨k, p⟩, e⟩ : ∃ x, T[i]? = some x := ⟨_, List.getElem?_eq_getElem hi'⟩
  have g : T.getD i (0, 0) = (k, p) := by rw [List.getD_eq_getElem?_getD, e]; rfl
  rw [g]
  unfold ordAt
  by_cases hp : p ∈ F
  · rw [decide_eq_true hp]; rfl
  · rw [Bool.or_eq_true]
    refine .inr (List.all_eq_true.mpr fun j hj => ?_)
    obtain ⟨h1, h2⟩ := List.mem_filter.mp hj
    have ne : j ≠ k := by simpa using h2
    obtain ⟨a, b⟩ := tk.frst i k p e hp j h1 ne
    rw [decide_eq_true a, fiOf_at ((dof_ok ds p).2 j h1), decide_eq_false b]
    rfl
theorem agent_firsts_w (W : DealsOk n ds) (hF : LotOk n F) : ∃ T, TkOk n ds F T ∧ (∀ p ∈ boundL n F, ¬ isNext ds T p) ∧
    ((T.length = ds.length ∧ f_agent_firsts [dealsD n ds, lotD F] = some (firstsP (fiOf ds T) T)) ∨
    (T.length ≠ ds.length ∧ ∃ R, f_agent_firsts [dealsD n ds, lotD F] = some (roundP R) ∧ 2 ≤ R.length ∧ RndIn n ds F R ∧ conAll ds R = true)) := by
  have hn := W.n6
  have hr := W.r10
  obtain ⟨T, tk, nx, ei⟩ := taking_w W hF
  have nf := need_free_ok (ds := ds) hF (by omega : n ≤ 1000)
  refine ⟨T, tk, nx, ?_⟩
  have mk0 : mkV "Taking" f_Taking_init (aCons (eV 0) (aCons (eV 1) (aNil))) (startR 5 [dealsD n ds, lotD F]) [] = some (tkD n ds (boundL n F) T) :=
    mkV_eq (ds := [dealsD n ds, lotD F]) rfl (by simp) ei (fz_tkS ..)
  have pre : ∀ (g : DL.T) (d : D), Ret g [some (dealsD n ds), some (lotD F), some (tkD n ds (boundL n F) T), some (.int (ds.length : Nat)), none] [] d → Ret (sSeq (sDrop (eFn f_need_deals (aCons (eV 0) (aNil)))) (sSeq (sDrop (eFn f_need_free (aCons (eV 0) (aCons (eV 1) (aNil))))) (sSeq (sSet 2 (mkV "Taking" f_Taking_init (aCons (eV 0) (aCons (eV 1) (aNil))))) (sSeq (sSet 3 (eCall cLen (aCons (e2 gIx (eV 0) (eC (.int 1))) (aNil)))) g)))) (startR 5 [dealsD n ds, lotD F]) [] d := fun g d h => by
    refine ret_drop (x := .non) (by simp [startR, need_deals_ok W]) ?_
    refine ret_drop (x := .non) (by simp [startR, nf]) ?_
    refine ret_set (x := tkD n ds (boundL n F) T) mk0 ?_
    refine ret_set (x := .int (ds.length : Nat)) (by simp [startR]) ?_
    exact h
  have len : ∀ S, cLenK S [natDicD (tkv T)] = some (.int (T.length : Nat)) := fun S => by
    rw [z_lenV]; simp [tkv]
  by_cases hT : T.length = ds.length
  · refine .inl ⟨hT, ret_run ?_⟩
    unfold b_agent_firsts
    refine pre _ _ ?_
    have c := fcomp_all (f := iRng rng1 (aCons (eV 3) (aNil))) (vs := [4]) (g := gN 4) (e := e2 gDGet (e1 (gAttr "Taking" "firsts") (eV 2)) (eV 4)) (ρ := [some (dealsD n ds), some (lotD F), some (tkD n ds (boundL n F) T), some (.int (ds.length : Nat)), none]) (S := []) nD (List.range ds.length) (fun k => nD (fst1 T k)) (by simp [rng1_nat (by omega : ds.length ≤ 1000000)]) (by simp; omega) (fun k hk => ⟨_, rfl, by
      have hk' := List.mem_range.mp hk
      simp [a_firsts, lookup_tkv T (tk.full hT k hk')]⟩)
    refine ret_ifT (by simp [a_firsts, len, hT]) ?_ (by
      intro ρ1 S1
      rw [x_sRet]
      intro z
      obtain ⟨w, _, h⟩ := Option.map_eq_some_iff.mp z
      cases h)
    refine ret_ret (x := firstsP (fiOf ds T) T) ?_ (fz_nr (by simp))
    simp only [x_eTup, x_aCons, x_aNil, x_eCall, x_eF, c, x_eC, x_e1, x_eV, List.getElem?_cons_succ, List.getElem?_cons_zero, Option.bind_some, Option.map_some, id, a_order, k_tuple, q_lst, mkT_3]
    unfold firstsP fiOf lotD ordVD
    rw [List.map_map]
    rfl
  · obtain ⟨R, eb, r1, r2, r3⟩ := bad_round_w W tk nx hT
    refine .inr ⟨hT, R, ret_run ?_, r1, r2, r3⟩
    unfold b_agent_firsts
    refine pre _ _ ?_
    have hT' : ¬ ((T.length : Int) = ds.length) := by omega
    refine ret_if0 (by simp [a_firsts, len, hT, hT']) ?_
    have m : mP "Taking" "bad_round" f_Taking_bad_round (eV 2) (aNil) [some (dealsD n ds), some (lotD F), some (tkD n ds (boundL n F) T), some (.int (ds.length : Nat)), none] [] = some (rndD R) := by
      rw [mP_nr (o := tkD n ds (boundL n F) T) (ds := []) rfl (o_tkD ..) noF_6 rfl (by simp)]
      exact eb
    refine ret_ret (x := roundP R) ?_ (fz_nr (by simp))
    simp only [x_eTup, x_aCons, x_aNil, x_eC, m, Option.bind_some, Option.map_some, mkT_2]
    rfl
end
end DL

set_option maxHeartbeats 1000000
namespace DL
open PySem PySem.Spec L2
section
variable {n : Nat} {ds : List (Nat × Nat)} {F fi : List Nat}
theorem rows1 (c : Int) {top : Nat} (h0 : 0 < top) (h1 : top < 1073741824) : ∃ k : Nat, f_law_row [.int c, .int 1, .int top] = some (.lst [.int k]) ∧ k < top := by
  obtain ⟨l, e, hl, hx⟩ := law_row_i c 1 top (by decide) h0 h1
  match l, hl with
  | [k], _ => exact ⟨k, by simpa using e, hx k (by simp)⟩
/-- another one -/
theorem oth_draw {n : Nat} (h2 : 2 ≤ n) (u v : Nat) : ∃ o t w : Nat, (u : Int) % (n : Int) = o ∧ (v : Int) % ((n : Int) - 1) = w ∧ ((o : Int) + 1 + w) % (n : Int) = t ∧ o < n ∧ t < n ∧ o ≠ t := by
  obtain ⟨o, mo, lo⟩ := md_nat (u : Int) (by omega : 0 < n)
  obtain ⟨w, mw, lw⟩ := md_nat (v : Int) (by omega : 0 < n - 1)
  obtain ⟨t, mt, lt⟩ := md_nat ((o : Int) + 1 + (w : Int)) (by omega : 0 < n)
  have p2 : ((n : Nat) : Int) - 1 = ((n - 1 : Nat) : Int) := by omega
  refine ⟨o, t, w, mo, by rw [p2]; exact mw, mt, lo, lt, ?_⟩
  intro e
  subst e
  have q1 : ((o : Int) + 1 + w) % ((n : Nat) : Int) = o := mt
  have d1 := Int.emod_add_mul_ediv ((o : Int) + 1 + w) ((n : Nat) : Int)
  rw [q1] at d1
  generalize ((o : Int) + 1 + w) / ((n : Nat) : Int) = z at d1
  have e1 : ((n : Nat) : Int) * z = 1 + w := by omega
  have hz : 0 < z := by
    refine Classical.byContradiction fun c => ?_
    have : ((n : Nat) : Int) * z ≤ 0 := Int.mul_nonpos_of_nonneg_of_nonpos (by omega) (by omega)
    omega
  have : ((n : Nat) : Int) * 1 ≤ ((n : Nat) : Int) * z := Int.mul_le_mul_of_nonneg_left (by omega) (by omega)
  omega
def kidRows (n : Nat) (dg : List Nat) : List (Nat × Nat) := (List.range (n - 1)).map fun k => (dg.getD (k + 1) 0 % (k + 1), k + 1)
theorem kid_tree (n : Nat) (dg : List Nat) : TreeOk (kidRows n dg) := by
  refine ⟨fun d hd => ?_, ?_⟩
  · obtain ⟨k, _, rfl⟩ := List.mem_map.mp hd
    exact Nat.mod_lt _ (by omega)
  · unfold kidRows
    rw [List.map_map]
    exact List.pairwise_map.mpr (List.nodup_range.imp fun {a b} z => by simp; exact z)
theorem kid_ok {n : Nat} (h2 : 2 ≤ n) (h6 : n ≤ 6) (dg : List Nat) : DealsOk n (kidRows n dg) := by
  refine ⟨h2, h6, by simp [kidRows]; omega, by simp [kidRows]; omega, fun d hd => ?_⟩
  have t := (kid_tree n dg).lt d hd
  obtain ⟨k, hk, rfl⟩ := List.mem_map.mp hd
  have := List.mem_range.mp hk
  have t' : dg.getD (k + 1) 0 % (k + 1) < k + 1 := t
  refine ⟨?_, ?_, ?_⟩
  · show dg.getD (k + 1) 0 % (k + 1) < n; omega
  · show k + 1 < n; omega
  · show dg.getD (k + 1) 0 % (k + 1) ≠ k + 1; omega
theorem rev_ok (W : DealsOk n ds) : DealsOk n ds.reverse := ⟨W.n2, W.n6, by simpa using W.r1, by simpa using W.r10, fun d hd => W.ok d (List.mem_reverse.mp hd)⟩
theorem rev_tree (t : TreeOk ds) : TreeOk ds.reverse := ⟨fun d hd => t.lt d (List.mem_reverse.mp hd), by rw [List.map_reverse]; exact (List.reverse_perm _).nodup_iff.mpr t.nd⟩
theorem tree_all {T : Tk} (W : DealsOk n ds) (t : TreeOk ds) (tk : TkOk n ds F T) (nx : ∀ p ∈ boundL n F, ¬ isNext ds T p) : T.length = ds.length := by
  refine Classical.byContradiction fun c => ?_
  have tl := tk.len
  obtain ⟨k0, hk0, hkT⟩ : ∃ k < ds.length, k ∉ T.map (·.1) := by
    refine Classical.byContradiction fun c => ?_
    have := List.Nodup.length_le_of_subset (l₁ := List.range ds.length) (l₂ := T.map (·.1)) List.nodup_range fun x hx => Classical.byContradiction fun z => c ⟨x, List.mem_range.mp hx, z⟩
    simp at this
    omega
  exact tree_none W t (core_left W tk nx) k0 hk0 hkT
noncomputable def tailC : T := (sSeq (sSet 8 (e2 gMod (e2 gIx (eV 2) (eC (.int 12))) (eV 1))) (sSeq (sSet 9 (e2 gMod (eCall cInt (aCons (e2 gAddA (e2 gAddA (eV 8) (eC (.int 1))) (e2 gMod (e2 gIx (eV 2) (eC (.int 13))) (e2 gSub (eV 1) (eC (.int 1))))) (aNil))) (eV 1))) (sSeq (sSet 10 (eTup (aCons (eV 1) (aCons (e2 gAddA (eCall cTuple (aCons (eV 3) (aNil))) (eTup (aCons (eTup (aCons (eV 8) (aCons (eV 9) (aNil)))) (aNil)))) (aNil))))) (sSeq (sSet 11 (eFn f_agent_firsts (aCons (eV 10) (aCons (eTup (aNil)) (aNil))))) (sSeq (sIf (bOr (eB (e2 gNe (e2 gIx (eV 11) (eC (.int 0))) (eC (.str "round")))) (bOr (bNot (eTru (eFn f_law_is_round (aCons (eV 10) (aCons (eTup (aNil)) (aCons (e2 gIx (eV 11) (eC (.int 1))) (aNil))))))) (eB (e2 (gInS true) (e2 gSub (eV 1) (eC (.int 1))) (eF (fComp (jSeqD (e2 gIx (eV 11) (eC (.int 1)))) [15] (gN 15) (bYes) (e2 gIx (eV 15) (eC (.int 1))))))))) (sRet (eC (.bl false))) (sSkip)) (sSeq (sSet 12 (eF (fComp (jSeqD (e2 gIx (eV 11) (eC (.int 1)))) [15] (gN 15) (bYes) (e2 gIx (eV 15) (eC (.int 0)))))) (sSeq (sIf (bOr (eB (e2 (gInS true) (eV 8) (eV 12))) (eB (e2 (gInS true) (eV 9) (eV 12)))) (sRet (eC (.bl false))) (sSkip)) (sSeq (sSet 13 (eFn f_agent_firsts (aCons (eV 10) (aCons (eTup (aCons (e2 gIx (eV 12) (e2 gMod (e2 gIx (eV 2) (eC (.int 14))) (eCall cLen (aCons (eV 12) (aNil))))) (aNil))) (aNil))))) (sRet (eAnd (e2 gEq (e2 gIx (eV 13) (eC (.int 0))) (eC (.str "firsts"))) (e2 gEq (eFn f_agent_done (aCons (eV 10) (aCons (eTup (aCons (e2 gIx (eV 12) (e2 gMod (e2 gIx (eV 2) (eC (.int 14))) (eCall cLen (aCons (eV 12) (aNil))))) (aNil))) (aCons (e2 gIx (eV 13) (eC (.int 1))) (aCons (eTup (aNil)) (aCons (eTup (aNil)) (aNil))))))) (eTupL (rg1 (eV 1))))))))))))))
noncomputable def tailB : T := (sSeq (sSet 5 (eFn f_agent_firsts (aCons (eV 4) (aCons (eTup (aNil)) (aNil))))) (sSeq (sIf (bOr (eB (e2 gNe (e2 gIx (eV 5) (eC (.int 0))) (eC (.str "firsts")))) (eB (e2 (gIsB true) (eFn f_is_agent_paper (aCons (eV 4) (aCons (eTup (aNil)) (aCons (eV 5) (aNil))))) (eC (.bl true))))) (sRet (eC (.bl false))) (sSkip)) (sSeq (sIf (eB (e2 gNe (eFn f_agent_done (aCons (eV 4) (aCons (eTup (aNil)) (aCons (e2 gIx (eV 5) (eC (.int 1))) (aCons (eTup (aNil)) (aCons (eTup (aNil)) (aNil))))))) (eTupL (rg1 (e2 gSub (eV 1) (eC (.int 1))))))) (sRet (eC (.bl false))) (sSkip)) (sSeq (sSet 6 (e2 gMod (e2 gIx (eV 2) (eC (.int 11))) (eV 1))) (sSeq (sSet 7 (eFn f_agent_done (aCons (eV 4) (aCons (eTup (aNil)) (aCons (e2 gIx (eV 5) (eC (.int 1))) (aCons (eTup (aCons (eV 6) (aNil))) (aCons (eTup (aNil)) (aNil)))))))) (sSeq (sIf (eTru (eCall cAny (aCons (eF (fComp (jSeqD (eFn f_law_mine (aCons (eV 4) (aCons (eV 6) (aNil))))) [14] (gN 14) (bYes) (e2 (gInS false) (eV 14) (eV 7)))) (aNil)))) (sRet (eC (.bl false))) (sSkip)) (sSeq (sIf (eTru (eCall cAny (aCons (eF (fComp (jSeqD (eFn f_agent_torn (aCons (eV 4) (aCons (eTup (aNil)) (aCons (eV 7) (aNil)))))) [16] (gN 16) (bYes) (e2 gNe (eV 16) (eV 6)))) (aNil)))) (sRet (eC (.bl false))) (sSkip)) tailC)))))))
noncomputable def head_law : T := sSeq (sSet 1 (e2 gAddA (eC (.int 2)) (e2 gIx (eFn f_law_row (aCons (eFn f_law_at (aCons (eV 0) (aCons (eC (.int 0)) (aNil)))) (aCons (eC (.int 1)) (aCons (eC (.int 5)) (aNil))))) (eC (.int 0))))) (sSeq (sSet 2 (eFn f_law_row (aCons (eFn f_law_at (aCons (eV 0) (aCons (eC (.int 1)) (aNil)))) (aCons (eC (.int 20)) (aCons (eC (.int 60)) (aNil)))))) (sSeq (sSet 3 (eF (fComp (iRng rng2 (aCons (eC (.int 1)) (aCons (eV 1) (aNil)))) [14] (gN 14) (bYes) (eTup (aCons (e2 gMod (e2 gIx (eV 2) (eV 14)) (eV 14)) (aCons (eV 14) (aNil))))))) (sSeq (sIf (eB (e2 gLt (e2 gIx (eV 2) (eC (.int 10))) (eC (.int 30)))) (sSet 3 (eF (fRev (eV 3)))) (sSkip)) (sSeq (sSet 4 (eTup (aCons (eV 1) (aCons (eCall cTuple (aCons (eV 3) (aNil))) (aNil))))) tailB))))
theorem law_split : b_law = head_law := (rfl)
def lE (ns : List Int) (n : Nat) (dg : List Nat) (ds : List (Nat × Nat)) (y : List (Option D)) : Rho := [some (.scr ns), some (.int (n : Nat)), some (.lst (dg.map nD)), some (.lst (ds.map pairD)), some (dealsD n ds)] ++ y
theorem firsts_all (W : DealsOk n ds) (hF : LotOk n F) (all : ∀ T, TkOk n ds F T → (∀ p ∈ boundL n F, ¬ isNext ds T p) → T.length = ds.length) : ∃ T, TkOk n ds F T ∧ T.length = ds.length ∧ f_agent_firsts [dealsD n ds, lotD F] = some (firstsP (fiOf ds T) T) := by
  obtain ⟨T, tk, nx, h⟩ := agent_firsts_w W hF
  have hT := all T tk nx
  rcases h with ⟨_, e⟩ | ⟨h, _⟩
  · exact ⟨T, tk, hT, e⟩
  · exact absurd hT h
theorem n_rr (S : Sto) : gNe S (.str "round") (.str "round") = some (.bl false) := y_neSelf ok_round
/-- behind the tree: one deal more -/
theorem tailC_ok (ns : List Int) (W : DealsOk n ds) (t : TreeOk ds) (hl : ds.length + 1 = n) {dg : List Nat} (hdg : dg.length = 20) (y5 y6 y7 : Option D) : Ret tailC (lE ns n dg ds [y5, y6, y7, none, none, none, none, none, none, none, none, none]) [] (.bl true) := by
  have h2 := W.n2
  have h6 := W.n6
  have q12 : atI (dg.map nD) 12 = some (.int (dg[12]'(by omega) : Nat)) := atI_nD (k := 12) (by omega)
  have q13 : atI (dg.map nD) 13 = some (.int (dg[13]'(by omega) : Nat)) := atI_nD (k := 13) (by omega)
  have q14 : atI (dg.map nD) 14 = some (.int (dg[14]'(by omega) : Nat)) := atI_nD (k := 14) (by omega)
  generalize dg[12]'(by omega) = u at q12
  generalize dg[13]'(by omega) = v at q13
  generalize dg[14]'(by omega) = z14 at q14
  obtain ⟨o, tt, w, mo, mw, mt, lo, lt, ne⟩ := oth_draw h2 u v
  have W' : DealsOk n (ds ++ [(o, tt)]) := ⟨h2, h6, by simp, by simp; omega, fun d hd => by
    rcases List.mem_append.mp hd with hd | hd
    · exact W.ok d hd
    · rw [List.mem_singleton.mp hd]; exact ⟨lo, lt, ne⟩⟩
  have hl' : (ds ++ [(o, tt)]).length = n := by simp; omega
  have lst : ∀ p, (p = o ∨ p = tt) → ds.length ∈ dof (ds ++ [(o, tt)]) p := fun p hp => mem_dof.mpr ⟨(o, tt), by rw [List.getElem?_append_right (Nat.le_refl _)]; simp, hp⟩
  -- the round
  obtain ⟨T0, tk0, nx0, h0⟩ := agent_firsts_w W' (LotOk.nil n)
  have na := not_all W' tk0 hl'
  obtain ⟨_, R, eb, r1, r2, r3⟩ := h0.resolve_left fun z => na z.1
  have eb' : f_agent_firsts [dealsD n (ds ++ [(o, tt)]), .tup []] = some (roundP R) := eb
  have lr : f_law_is_round [dealsD n (ds ++ [(o, tt)]), .tup [], rndD R] = some (.bl true) := by
    have := law_is_round_w (F := []) r1 r2
    rw [r3] at this
    exact this
  have two := round_two r2 r3 r1
  have pers := round_persons r2 r3 r1
  have ltN : ∀ k ∈ R.map (·.2), k < ds.length + 1 := fun k hk => by
    obtain ⟨x, hx, rfl⟩ := List.mem_map.mp hk
    have := (r2.rg x hx).2
    simpa using this
  have neN : R.map (·.2) ≠ [] := fun e => by
    have : (R.map (·.2)).length = 0 := by rw [e]; rfl
    rw [List.length_map] at this
    omega
  have l1 := round_last W t two ltN neN
  have inO : o ∈ R.map (·.1) := (pers o).mpr ⟨_, l1, lst o (.inl rfl)⟩
  have inT : tt ∈ R.map (·.1) := (pers tt).mpr ⟨_, l1, lst tt (.inr rfl)⟩
  have RL := r2.len
  have Rl6 : R.length ≤ 1000000 := by omega
  have pl0 : 0 < (R.map (·.1)).length := by rw [List.length_map]; omega
  obtain ⟨ix, mi, li⟩ := md_nat (z14 : Int) pl0
  obtain ⟨x, hx⟩ : ∃ x, (R.map (·.1))[ix]? = some x := ⟨_, List.getElem?_eq_getElem li⟩
  have xin : x ∈ R.map (·.1) := List.mem_of_getElem? hx
  have xn : x < n := by
    obtain ⟨y, hy, rfl⟩ := List.mem_map.mp xin
    exact (r2.rg y hy).1
  have qx : atI ((R.map (·.1)).map nD) (ix : Int) = some (.int (x : Nat)) := by rw [atI_map, hx]; rfl
  have LX : LotOk n [x] := ⟨List.pairwise_singleton _ _, fun y hy => by rw [List.mem_singleton.mp hy]; exact xn⟩
  obtain ⟨T1, tk1, nx1, h1⟩ := agent_firsts_w W' LX
  have hT1 : T1.length = (ds ++ [(o, tt)]).length ∧ f_agent_firsts [dealsD n (ds ++ [(o, tt)]), lotD [x]] = some (firstsP (fiOf (ds ++ [(o, tt)]) T1) T1) := by
    refine h1.resolve_right fun z => ?_
    obtain ⟨_, R2, _, s1, s2, s3⟩ := z
    have two2 := round_two s2 s3 s1
    have pers2 := round_persons s2 s3 s1
    have ltN2 : ∀ k ∈ R2.map (·.2), k < ds.length + 1 := fun k hk => by
      obtain ⟨x, hx, rfl⟩ := List.mem_map.mp hk
      have := (s2.rg x hx).2
      simpa using this
    have neN2 : R2.map (·.2) ≠ [] := fun e => by
      have : (R2.map (·.2)).length = 0 := by rw [e]; rfl
      rw [List.length_map] at this
      omega
    have l2 := round_last W t two2 ltN2 neN2
    have same := round_same W t two two2 ltN l1 l2
    obtain ⟨k, hk, hd⟩ := (pers x).mp xin
    have : x ∈ R2.map (·.1) := (pers2 x).mpr ⟨k, same k hk, hd⟩
    obtain ⟨y, hy, e⟩ := List.mem_map.mp this
    exact s2.fr y hy (by rw [e]; simp)
  obtain ⟨hT1, e1⟩ := hT1
  have e1' : f_agent_firsts [dealsD n (ds ++ [(o, tt)]), .tup [.int (x : Nat)]] = some (firstsP (fiOf (ds ++ [(o, tt)]) T1) T1) := e1
  have dn := agent_done_w W' LX (fiOf_ok tk1 hT1) tk1 hT1 (fun k hk => fiOf_at hk)
  rw [hl'] at dn
  have dn' : f_agent_done [dealsD n (ds ++ [(o, tt)]), .tup [.int (x : Nat)], lotD (fiOf (ds ++ [(o, tt)]) T1), .tup [], .tup []] = some (lotD (List.range n)) := dn
  have nI : (0 : Int) < n := by omega
  have n0 : 0 < n := by omega
  have n1I : (0 : Int) < (n : Int) - 1 := by omega
  have l62 : ((n : Int)) < 1073741824 := by omega
  have dl : ds.length ≤ 100 := by omega
  have m1 : ∀ i j : Int, 0 < j → gMod ([] : Sto) (.int i) (.int j) = some (.int (i % j)) := fun i j h => by
    have := y_mod (S := ([] : Sto)) i j
    rw [if_pos h] at this
    exact this
  have nl : ((n : Int) - 1) = ((ds.length : Nat) : Int) := by omega
  have ad : gAddA [] (.tup (ds.map pairD)) (.tup [.tup [.int (o : Nat), .int (tt : Nat)]]) = some (.tup (ds.map pairD ++ [.tup [.int (o : Nat), .int (tt : Nat)]])) := y_addT (by simp; omega)
  unfold tailC
  refine ret_set (x := .int (o : Nat)) (by
    have q12' : atI (dg.map nD) 12 = some (.int (u : Nat)) := q12
    simp [lE, q12', m1 _ _ nI, mo]) ?_
  refine ret_set (x := .int (tt : Nat)) (by
    have q13' : atI (dg.map nD) 13 = some (.int (v : Nat)) := q13
    simp [lE, q13', m1 _ _ nI, m1 _ _ n1I, mw, mt]) ?_
  refine ret_set (x := dealsD n (ds ++ [(o, tt)])) (by
    simp [lE, ad]
    simp [dealsD, pairD]) ?_
  refine ret_set (x := roundP R) (by simp [lE, eb']) ?_
  have c1 := fcomp_all (f := jSeqD (e2 gIx (eV 11) (eC (.int 1)))) (vs := [15]) (g := gN 15) (e := e2 gIx (eV 15) (eC (.int 1))) (ρ := lE ns n dg ds [y5, y6, y7, some (.int (o : Nat)), some (.int (tt : Nat)), some (dealsD n (ds ++ [(o, tt)])), some (roundP R), none, none, none, none, none]) (S := []) pairD R (fun x => nD x.2) (by simp [lE]) Rl6 (fun x hx => ⟨_, rfl, by simp [lE]⟩)
  have c2 := fcomp_all (f := jSeqD (e2 gIx (eV 11) (eC (.int 1)))) (vs := [15]) (g := gN 15) (e := e2 gIx (eV 15) (eC (.int 0))) (ρ := lE ns n dg ds [y5, y6, y7, some (.int (o : Nat)), some (.int (tt : Nat)), some (dealsD n (ds ++ [(o, tt)])), some (roundP R), none, none, none, none, none]) (S := []) pairD R (fun x => nD x.1) (by simp [lE]) Rl6 (fun x hx => ⟨_, rfl, by simp [lE]⟩)
  have mm1 : R.map (fun x => nD x.2) = (R.map (·.2)).map nD := by rw [List.map_map]; rfl
  have mm2 : R.map (fun x => nD x.1) = (R.map (·.1)).map nD := by rw [List.map_map]; rfl
  rw [mm1] at c1
  rw [mm2] at c2
  refine ret_if0 (by
    show (bOr _ _) (lE ns n dg ds [y5, y6, y7, some (.int (o : Nat)), some (.int (tt : Nat)), some (dealsD n (ds ++ [(o, tt)])), some (roundP R), none, none, none, none, none]) [] = some false
    have inq := y_inL (S := []) true ds.length (R.map (·.2))
    rw [decide_eq_true l1] at inq
    simp only [x_bOr, x_bNot, x_eTru, x_eB, x_e2, x_eF, c1]
    simp [lE, n_rr, lr, nl, inq, -List.map_map]) ?_
  refine ret_set (x := .lst ((R.map (·.1)).map nD)) (by
    show (eF _) (lE ns n dg ds [y5, y6, y7, some (.int (o : Nat)), some (.int (tt : Nat)), some (dealsD n (ds ++ [(o, tt)])), some (roundP R), none, none, none, none, none]) [] = _
    rw [x_eF, c2]; rfl) ?_
  refine ret_if0 (by
    have i1 := y_inL (S := []) true o (R.map (·.1))
    have i2 := y_inL (S := []) true tt (R.map (·.1))
    rw [decide_eq_true inO] at i1
    rw [decide_eq_true inT] at i2
    simp [lE, i1, i2, -List.map_map]) ?_
  have plI : (0 : Int) < (R.length : Nat) := by omega
  have mi' : (z14 : Int) % (R.length : Nat) = ix := by
    have := mi
    rwa [List.length_map] at this
  have q14' : atI (dg.map nD) 14 = some (.int (z14 : Nat)) := q14
  refine ret_set (x := firstsP (fiOf (ds ++ [(o, tt)]) T1) T1) (by
    simp [lE, q14', m1 _ _ plI, mi', qx, e1', -List.map_map]) ?_
  refine ret_ret (x := .bl true) ?_ rfl
  have eqn : gEq [] (lotD (List.range n)) (.tup ((List.range n).map nD)) = some (.bl true) := y_eqSelf (by simp)
  simp [lE, q14', m1 _ _ plI, mi', qx, e_ff, dn', rgA_nat (by omega : n ≤ 1000000), eqn, -List.map_map]
theorem tailB_ok (ns : List Int) (W : DealsOk n ds) (t : TreeOk ds) (hl : ds.length + 1 = n) {dg : List Nat} (hdg : dg.length = 20) : Ret tailB (lE ns n dg ds [none, none, none, none, none, none, none, none, none, none, none, none]) [] (.bl true) := by
  have h2 := W.n2
  have h6 := W.n6
  have hr := W.r10
  obtain ⟨T, tk, hT, ef⟩ := firsts_all W (LotOk.nil n) (fun T tk nx => tree_all W t tk nx)
  have ef' : f_agent_firsts [dealsD n ds, .tup []] = some (firstsP (fiOf ds T) T) := ef
  have oi := ord_in W tk hT (List.Perm.refl T)
  have pp := paper_firsts W (LotOk.nil n) (fiOf_ok tk hT) (is_order_w (F := []) W oi)
  rw [ord_true W tk hT] at pp
  have pp' : f_is_agent_paper [dealsD n ds, .tup [], firstsP (fiOf ds T) T] = some (.bl true) := pp
  have fo := fiOf_ok tk hT
  have dn := agent_done_w W (LotOk.nil n) fo tk hT (fun k hk => fiOf_at hk)
  have dn' : f_agent_done [dealsD n ds, .tup [], lotD (fiOf ds T), .tup [], .tup []] = some (lotD (List.range ds.length)) := dn
  have q11 : atI (dg.map nD) 11 = some (.int (dg[11]'(by omega) : Nat)) := atI_nD (k := 11) (by omega)
  generalize dg[11]'(by omega) = u at q11
  obtain ⟨aw, ma, la⟩ := md_nat (u : Int) (by omega : 0 < n)
  have LA : LotOk n [aw] := ⟨List.pairwise_singleton _ _, fun y hy => by rw [List.mem_singleton.mp hy]; exact la⟩
  obtain ⟨H, eH, g, fx, ⟨ik, il⟩, _⟩ := agent_done_g (LG := [aw]) (cd := []) W (LotOk.nil n) fo LA (by simp) (by simp) (no_conduct [aw]) (fun H => InvK ds [] (fiOf ds T) [aw] H ∧ ∀ k, aw ∉ H.getD k []) ⟨invK0, fun k => by rw [rep_getD]; simp⟩ (fun H H' a _ _ i s => ⟨invK_step (n := n) (cd := []) (by simp) i.1 s, idle_step (n := n) (LG := [aw]) (cd := []) (by simp) (by simp) i.2 s⟩)
  have eH' : f_agent_done [dealsD n ds, .tup [], lotD (fiOf ds T), .tup [.int (aw : Nat)], .tup []] = some (lotD (doneL ds H)) := eH
  have idle : ∀ k ∈ dof ds aw, k ∉ doneL ds H := fun k hk hd => by
    obtain ⟨d, e, h⟩ := mem_dof.mp hk
    obtain ⟨a, b⟩ := (mem_doneL W g e).mp hd
    rcases h with h | h
    · exact il k (by rw [h]; exact a)
    · exact il k (by rw [h]; exact b)
  have torn : ∀ p ∈ tornL n ds (doneL ds H), p = aw := fun p hp => by
    obtain ⟨h1, h2⟩ := List.mem_filter.mp hp
    refine Classical.byContradiction fun c => ?_
    have := keeper_whole W g fx ik (List.mem_range.mp h1) (by simp) (by simpa using c)
    rw [this] at h2
    cases h2
  have tw := agent_torn_w W (doneL_ok (ds := ds) (H := H))
  have tl : (tornL n ds (doneL ds H)).length ≤ 1000000 := by
    have := List.length_filter_le (isTorn ds (doneL ds H)) (List.range n)
    rw [List.length_range] at this
    have : (tornL n ds (doneL ds H)).length ≤ n := this
    omega
  have dl := (dof_ok ds aw).len
  have nI : (0 : Int) < n := by omega
  have m1 : ∀ i j : Int, 0 < j → gMod ([] : Sto) (.int i) (.int j) = some (.int (i % j)) := fun i j h => by
    have := y_mod (S := ([] : Sto)) i j
    rw [if_pos h] at this
    exact this
  have nl : ((n : Int) - 1) = ((ds.length : Nat) : Int) := by omega
  unfold tailB
  refine ret_set (x := firstsP (fiOf ds T) T) (by simp [lE, ef']) ?_
  refine ret_if0 (by simp [lE, n_ff, pp']) ?_
  refine ret_if0 (by
    have ne : gNe [] (lotD (List.range ds.length)) (.tup ((List.range ds.length).map nD)) = some (.bl false) := y_neSelf (by simp)
    simp [lE, dn', nl, rgA_nat (by omega : ds.length ≤ 1000000), ne]) ?_
  refine ret_set (x := .int (aw : Nat)) (by simp [lE, q11, m1 _ _ nI, ma]) ?_
  refine ret_set (x := lotD (doneL ds H)) (by simp [lE, eH']) ?_
  refine ret_if0 (by
    show (eTru _) (lE ns n dg ds [some (firstsP (fiOf ds T) T), some (.int (aw : Nat)), some (lotD (doneL ds H)), none, none, none, none, none, none, none, none, none]) [] = some false
    have c := fcomp_all (f := jSeqD (eFn f_law_mine (aCons (eV 4) (aCons (eV 6) (aNil))))) (vs := [14]) (g := gN 14) (e := e2 (gInS false) (eV 14) (eV 7)) (ρ := lE ns n dg ds [some (firstsP (fiOf ds T) T), some (.int (aw : Nat)), some (lotD (doneL ds H)), none, none, none, none, none, none, none, none, none]) (S := []) nD (dof ds aw) (fun _ => .bl false) (by simp [lE, law_mine_w n (by omega : ds.length ≤ 1000) aw]) (by omega) (fun k hk => ⟨_, rfl, by simp [lE, idle k hk]⟩)
    have an : cAny [] [.lst ((dof ds aw).map fun _ => D.bl false)] = some (.bl false) := by
      rw [k_anyM (fun _ => false)]; simp
    simp only [x_eTru, x_eCall, x_aCons, x_eF, x_aNil, c, Option.map_some, Option.bind_some, an, t_bl]) ?_
  refine ret_if0 (by
    show (eTru _) (lE ns n dg ds [some (firstsP (fiOf ds T) T), some (.int (aw : Nat)), some (lotD (doneL ds H)), none, none, none, none, none, none, none, none, none]) [] = some false
    have c := fcomp_all (f := jSeqD (eFn f_agent_torn (aCons (eV 4) (aCons (eTup (aNil)) (aCons (eV 7) (aNil)))))) (vs := [16]) (g := gN 16) (e := e2 gNe (eV 16) (eV 6)) (ρ := lE ns n dg ds [some (firstsP (fiOf ds T) T), some (.int (aw : Nat)), some (lotD (doneL ds H)), none, none, none, none, none, none, none, none, none]) (S := []) nD (tornL n ds (doneL ds H)) (fun _ => .bl false) (by simp [lE, tw]) tl (fun k hk => ⟨_, rfl, by
      have := torn k hk
      simp [lE, this]⟩)
    have an : cAny [] [.lst ((tornL n ds (doneL ds H)).map fun _ => D.bl false)] = some (.bl false) := by
      rw [k_anyM (fun _ => false)]; simp
    simp only [x_eTru, x_eCall, x_aCons, x_eF, x_aNil, c, Option.map_some, Option.bind_some, an, t_bl]) ?_
  exact tailC_ok ns W t hl hdg _ _ _
theorem plain (ns : List Int) (_ : ns.length ≤ 63) : f_law [.scr ns] = some (.bl true) := by
  obtain ⟨z0, a0⟩ := law_at_i ns 0
  obtain ⟨z1, a1⟩ := law_at_i ns 1
  obtain ⟨a, ea, la⟩ := rows1 z0 (by decide : 0 < 5) (by decide)
  obtain ⟨dg, ed, hd, _⟩ := law_row_i z1 20 60 (by decide) (by decide) (by decide)
  have a0' : f_law_at [.scr ns, .int 0] = some (.int z0) := by simpa using a0
  have a1' : f_law_at [.scr ns, .int 1] = some (.int z1) := by simpa using a1
  have ea' : f_law_row [.int z0, .int 1, .int 5] = some (.lst [.int (a : Nat)]) := by simpa using ea
  have ed' : f_law_row [.int z1, .int 20, .int 60] = some (.lst (dg.map nD)) := by simpa using ed
  have hn : (2 : Int) + (a : Nat) = ((2 + a : Nat) : Int) := by omega
  have W := kid_ok (n := 2 + a) (by omega) (by omega) dg
  have t := kid_tree (2 + a) dg
  have len : (kidRows (2 + a) dg).length + 1 = 2 + a := by simp [kidRows]; omega
  have q10 : atI (dg.map nD) 10 = some (.int (dg[10]'(by omega) : Nat)) := atI_nD (k := 10) (by omega)
  generalize dg[10]'(by omega) = u at q10
  have c := fcomp_all (f := iRng rng2 (aCons (eC (.int 1)) (aCons (eV 1) (aNil)))) (vs := [14]) (g := gN 14) (e := eTup (aCons (e2 gMod (e2 gIx (eV 2) (eV 14)) (eV 14)) (aCons (eV 14) (aNil)))) (ρ := [some (.scr ns), some (.int ((2 + a : Nat) : Int)), some (.lst (dg.map nD)), none, none, none, none, none, none, none, none, none, none, none, none, none, none]) (S := []) (fun k : Nat => .int ((k + 1 : Nat) : Int)) (List.range (2 + a - 1)) (fun k => pairD (dg.getD (k + 1) 0 % (k + 1), k + 1)) (by
      have := rng2_1 (by omega : 2 + a ≤ 1000000)
      simp only [x_iRng, x_aCons, x_aNil, x_eC, x_eV, List.getElem?_cons_succ, List.getElem?_cons_zero, Option.bind_some, Option.map_some, id]
      exact this) (by simp; omega) (fun k hk => ⟨_, rfl, by
      have hk' := List.mem_range.mp hk
      have lk : k + 1 < dg.length := by omega
      have q : atI (dg.map nD) ((k + 1 : Nat) : Int) = some (.int (dg.getD (k + 1) 0 : Nat)) := by
        rw [atI_nD lk, List.getD_eq_getElem?_getD, List.getElem?_eq_getElem lk]; rfl
      have m : gMod ([] : Sto) (.int (dg.getD (k + 1) 0 : Nat)) (.int ((k + 1 : Nat) : Int)) = some (.int ((dg.getD (k + 1) 0 % (k + 1) : Nat) : Int)) := by
        have := y_mod (S := ([] : Sto)) (dg.getD (k + 1) 0 : Nat) ((k + 1 : Nat) : Int)
        rw [if_pos (by omega)] at this
        rw [Int.natCast_emod]
        exact this
      simp only [x_eTup, x_aCons, x_aNil, x_e2, x_eV, List.set, x_wipe1, x_wipe0, List.getElem?_cons_succ, List.getElem?_cons_zero, Option.bind_some, Option.map_some, id, y_ix, q_lst, q, m, mkT_2]
      rfl⟩)
  have c' : fComp (iRng rng2 (aCons (eC (.int 1)) (aCons (eV 1) (aNil)))) [14] (gN 14) (bYes) (eTup (aCons (e2 gMod (e2 gIx (eV 2) (eV 14)) (eV 14)) (aCons (eV 14) (aNil)))) [some (.scr ns), some (.int ((2 + a : Nat) : Int)), some (.lst (dg.map nD)), none, none, none, none, none, none, none, none, none, none, none, none, none, none] [] = some ((kidRows (2 + a) dg).map pairD) := by
    rw [c]
    unfold kidRows
    rw [List.map_map]
    rfl
  have lt : ∀ i j : Int, gLt [] (.int i) (.int j) = some (.bl (decide (i < j))) := fun i j => rfl
  show runD b_law 17 [.scr ns] = _
  rw [law_split]
  refine ret_run ?_
  unfold head_law
  refine ret_set (x := .int ((2 + a : Nat) : Int)) (by
    simp [startR, a0', ea', hn, -Int.natCast_add]) ?_
  refine ret_set (x := .lst (dg.map nD)) (by simp [startR, a1', ed']) ?_
  refine ret_set (x := .lst ((kidRows (2 + a) dg).map pairD)) (by
    show (eF _) [some (.scr ns), some (.int ((2 + a : Nat) : Int)), some (.lst (dg.map nD)), none, none, none, none, none, none, none, none, none, none, none, none, none, none] [] = _
    rw [x_eF, c']; rfl) ?_
  have fin : ∀ (ds : List (Nat × Nat)), DealsOk (2 + a) ds → TreeOk ds → ds.length + 1 = 2 + a → Ret (sSeq (sSet 4 (eTup (aCons (eV 1) (aCons (eCall cTuple (aCons (eV 3) (aNil))) (aNil))))) tailB) [some (.scr ns), some (.int ((2 + a : Nat) : Int)), some (.lst (dg.map nD)), some (.lst (ds.map pairD)), none, none, none, none, none, none, none, none, none, none, none, none, none] [] (.bl true) := fun ds W t len => by
    refine ret_set (x := dealsD (2 + a) ds) (by
      simp [-Int.natCast_add]
      rfl) ?_
    exact tailB_ok ns W t len hd
  by_cases hu : u < 30
  · have hu' : (u : Int) < 30 := by omega
    refine ret_seq (ρ1 := [some (.scr ns), some (.int ((2 + a : Nat) : Int)), some (.lst (dg.map nD)), some (.lst ((kidRows (2 + a) dg).reverse.map pairD)), none, none, none, none, none, none, none, none, none, none, none, none, none]) (S1 := []) (if_t (by simp [startR, q10, lt, hu', hu]) (by simp [startR, List.map_reverse])) ?_
    exact fin _ (rev_ok W) (rev_tree t) (by rw [List.length_reverse]; exact len)
  · have hu' : ¬ (u : Int) < 30 := by omega
    refine ret_seq (ρ1 := [some (.scr ns), some (.int ((2 + a : Nat) : Int)), some (.lst (dg.map nD)), some (.lst ((kidRows (2 + a) dg).map pairD)), none, none, none, none, none, none, none, none, none, none, none, none, none]) (S1 := []) (if_f (by simp [startR, q10, lt, hu', hu]) rfl) ?_
    exact fin _ W t len
end
end DL

set_option maxHeartbeats 4000000
namespace DL
open PySem PySem.Spec L2
theorem all_mk {l : PySem.W.OpenLaw} {w : World} {K : PySem.W.Frag} {h : Heap} {mg : Str → Option Value} {fa fl : Addr} (X : K.In h) (G : h.Ns mainGlobals mg) (hfa : mg "law" = some (.ref fa))
    {f0 f1 f2 f3 f4 f5 f6 f7 f8 f9 f10 f11 f12 f13 f14 f15 f16 f17 f18 f19 f20 f21 f22 f23 f24 f25 f26 f27 f28 f29 f30 f31 f32 f33 f34 f35 f36 f37 : Addr}
    {C0 : Addr}
    {C1 : Addr}
    {od0 an0 od1 an1 od2 an2 od3 an3 od4 an4 od5 an5 od6 an6 od7 an7 od8 an8 od9 an9 od10 an10 od11 an11 od12 an12 od13 an13 od14 an14 od15 an15 od16 an16 od17 an17 od18 an18 od19 an19 od20 an20 od21 an21 od22 an22 od23 an23 od24 an24 od25 an25 od26 an26 od27 an27 od28 an28 od29 an29 od30 an30 od31 an31 od32 an32 od33 an33 od34 an34 od35 an35 od36 an36 od37 an37 : Option Addr} {sl0 sl1 sl2 sl3 sl4 sl5 sl6 sl7 sl8 sl9 sl10 sl11 sl12 sl13 sl14 sl15 sl16 sl17 sl18 sl19 sl20 sl21 sl22 sl23 sl24 sl25 sl26 sl27 sl28 sl29 sl30 sl31 sl32 sl33 sl34 sl35 sl36 sl37 : Array (Option Value)} {oc0 kV0 dc0 pm0 cd0 ct0 oc1 kV1 dc1 pm1 cd1 ct1 oc2 kV2 dc2 pm2 cd2 ct2 oc3 kV3 dc3 pm3 cd3 ct3 oc4 kV4 dc4 pm4 cd4 ct4 oc5 kV5 dc5 pm5 cd5 ct5 oc6 kV6 dc6 pm6 cd6 ct6 oc7 kV7 dc7 pm7 cd7 ct7 oc8 kV8 dc8 pm8 cd8 ct8 oc9 kV9 dc9 pm9 cd9 ct9 oc10 kV10 dc10 pm10 cd10 ct10 oc11 kV11 dc11 pm11 cd11 ct11 oc12 kV12 dc12 pm12 cd12 ct12 oc13 kV13 dc13 pm13 cd13 ct13 oc14 kV14 dc14 pm14 cd14 ct14 oc15 kV15 dc15 pm15 cd15 ct15 oc16 kV16 dc16 pm16 cd16 ct16 oc17 kV17 dc17 pm17 cd17 ct17 oc18 kV18 dc18 pm18 cd18 ct18 oc19 kV19 dc19 pm19 cd19 ct19 oc20 kV20 dc20 pm20 cd20 ct20 oc21 kV21 dc21 pm21 cd21 ct21 oc22 kV22 dc22 pm22 cd22 ct22 oc23 kV23 dc23 pm23 cd23 ct23 oc24 kV24 dc24 pm24 cd24 ct24 oc25 kV25 dc25 pm25 cd25 ct25 oc26 kV26 dc26 pm26 cd26 ct26 oc27 kV27 dc27 pm27 cd27 ct27 oc28 kV28 dc28 pm28 cd28 ct28 oc29 kV29 dc29 pm29 cd29 ct29 oc30 kV30 dc30 pm30 cd30 ct30 oc31 kV31 dc31 pm31 cd31 ct31 oc32 kV32 dc32 pm32 cd32 ct32 oc33 kV33 dc33 pm33 cd33 ct33 oc34 kV34 dc34 pm34 cd34 ct34 oc35 kV35 dc35 pm35 cd35 ct35 oc36 kV36 dc36 pm36 cd36 ct36 oc37 kV37 dc37 pm37 cd37 ct37 : Value} {odl anl : Option Addr} {sll : Array (Option Value)} {ocl kVl dcl pml cdl ctl : Value}
    {t_FEWEST_PERSONS t_MOST_DEALS t_MOST_PERSONS t_MOST_ROUND t_MOST_ROWS : Tok}
    (aC0 : PySem.W.nsIn K mainGlobals "Taking" = some (some (.ref C0))) (pg0 : PySem.W.plainGet K C0 Str.empty = true) (hd0 : PySem.W.hasDictIn K C0 = true) (po0 : PySem.W.plainOver K C0 = true) (sa0 : PySem.W.findIn K (.ref C0) "__setattr__" = some (some (.builtin "object.__setattr__"))) (mk0 : PySem.W.makesIn K C0 = true) (kc0 : PySem.W.keepIn K (.ref C0) = true)
    (aC1 : PySem.W.nsIn K mainGlobals "Agents" = some (some (.ref C1))) (pg1 : PySem.W.plainGet K C1 Str.empty = true) (hd1 : PySem.W.hasDictIn K C1 = true) (po1 : PySem.W.plainOver K C1 = true) (sa1 : PySem.W.findIn K (.ref C1) "__setattr__" = some (some (.builtin "object.__setattr__"))) (mk1 : PySem.W.makesIn K C1 = true) (kc1 : PySem.W.keepIn K (.ref C1) = true)
    (nf_Agents_content : PySem.W.findIn K (.ref C1) "content" = some none)
    (nf_Agents_deals : PySem.W.findIn K (.ref C1) "deals" = some none)
    (nf_Agents_firsts : PySem.W.findIn K (.ref C1) "firsts" = some none)
    (nf_Agents_held : PySem.W.findIn K (.ref C1) "held" = some none)
    (nf_Agents_league : PySem.W.findIn K (.ref C1) "league" = some none)
    (nf_Taking_bound : PySem.W.findIn K (.ref C0) "bound" = some none)
    (nf_Taking_deals : PySem.W.findIn K (.ref C0) "deals" = some none)
    (nf_Taking_firsts : PySem.W.findIn K (.ref C0) "firsts" = some none)
    (nf_Taking_order : PySem.W.findIn K (.ref C0) "order" = some none)
    (a0 : PySem.W.nsIn K mainGlobals "_law_mixed" = some (some (.ref f0))) (l0 : K.lookup f0 = some ⟨oc0, od0, .func (PySem.W.fnOf "_law_mixed" "_law_mixed" (defArgs s_law_mixed) (defBody s_law_mixed) (defScope s_law_mixed) .none kV0 dc0 pm0 an0 cd0 ct0), sl0⟩) (c0 : PySem.W.codeIn K cd0 "_law_mixed" = true) (k0 : PySem.W.keepIn K (.ref f0) = true)
    (a1 : PySem.W.nsIn K mainGlobals "_law_row" = some (some (.ref f1))) (l1 : K.lookup f1 = some ⟨oc1, od1, .func (PySem.W.fnOf "_law_row" "_law_row" (defArgs s_law_row) (defBody s_law_row) (defScope s_law_row) .none kV1 dc1 pm1 an1 cd1 ct1), sl1⟩) (c1 : PySem.W.codeIn K cd1 "_law_row" = true) (k1 : PySem.W.keepIn K (.ref f1) = true)
    (a2 : PySem.W.nsIn K mainGlobals "is_tuple_of" = some (some (.ref f2))) (l2 : K.lookup f2 = some ⟨oc2, od2, .func (PySem.W.fnOf "is_tuple_of" "is_tuple_of" (defArgs s_is_tuple_of) (defBody s_is_tuple_of) (defScope s_is_tuple_of) .none kV2 dc2 pm2 an2 cd2 ct2), sl2⟩) (c2 : PySem.W.codeIn K cd2 "is_tuple_of" = true) (k2 : PySem.W.keepIn K (.ref f2) = true)
    (a3 : PySem.W.nsIn K mainGlobals "is_integer" = some (some (.ref f3))) (l3 : K.lookup f3 = some ⟨oc3, od3, .func (PySem.W.fnOf "is_integer" "is_integer" (defArgs s_is_integer) (defBody s_is_integer) (defScope s_is_integer) .none kV3 dc3 pm3 an3 cd3 ct3), sl3⟩) (c3 : PySem.W.codeIn K cd3 "is_integer" = true) (k3 : PySem.W.keepIn K (.ref f3) = true)
    (a4 : PySem.W.nsIn K mainGlobals "is_between" = some (some (.ref f4))) (l4 : K.lookup f4 = some ⟨oc4, od4, .func (PySem.W.fnOf "is_between" "is_between" (defArgs s_is_between) (defBody s_is_between) (defScope s_is_between) .none kV4 dc4 pm4 an4 cd4 ct4), sl4⟩) (c4 : PySem.W.codeIn K cd4 "is_between" = true) (k4 : PySem.W.keepIn K (.ref f4) = true)
    (a5 : PySem.W.nsIn K mainGlobals "is_under" = some (some (.ref f5))) (l5 : K.lookup f5 = some ⟨oc5, od5, .func (PySem.W.fnOf "is_under" "is_under" (defArgs s_is_under) (defBody s_is_under) (defScope s_is_under) .none kV5 dc5 pm5 an5 cd5 ct5), sl5⟩) (c5 : PySem.W.codeIn K cd5 "is_under" = true) (k5 : PySem.W.keepIn K (.ref f5) = true)
    (a6 : PySem.W.nsIn K mainGlobals "are_deals" = some (some (.ref f6))) (l6 : K.lookup f6 = some ⟨oc6, od6, .func (PySem.W.fnOf "are_deals" "are_deals" (defArgs s_are_deals) (defBody s_are_deals) (defScope s_are_deals) .none kV6 dc6 pm6 an6 cd6 ct6), sl6⟩) (c6 : PySem.W.codeIn K cd6 "are_deals" = true) (k6 : PySem.W.keepIn K (.ref f6) = true)
    (a7 : PySem.W.nsIn K mainGlobals "need_deals" = some (some (.ref f7))) (l7 : K.lookup f7 = some ⟨oc7, od7, .func (PySem.W.fnOf "need_deals" "need_deals" (defArgs s_need_deals) (defBody s_need_deals) (defScope s_need_deals) .none kV7 dc7 pm7 an7 cd7 ct7), sl7⟩) (c7 : PySem.W.codeIn K cd7 "need_deals" = true) (k7 : PySem.W.keepIn K (.ref f7) = true)
    (a8 : PySem.W.nsIn K mainGlobals "are_under" = some (some (.ref f8))) (l8 : K.lookup f8 = some ⟨oc8, od8, .func (PySem.W.fnOf "are_under" "are_under" (defArgs s_are_under) (defBody s_are_under) (defScope s_are_under) .none kV8 dc8 pm8 an8 cd8 ct8), sl8⟩) (c8 : PySem.W.codeIn K cd8 "are_under" = true) (k8 : PySem.W.keepIn K (.ref f8) = true)
    (a9 : PySem.W.nsIn K mainGlobals "is_lot" = some (some (.ref f9))) (l9 : K.lookup f9 = some ⟨oc9, od9, .func (PySem.W.fnOf "is_lot" "is_lot" (defArgs s_is_lot) (defBody s_is_lot) (defScope s_is_lot) .none kV9 dc9 pm9 an9 cd9 ct9), sl9⟩) (c9 : PySem.W.codeIn K cd9 "is_lot" = true) (k9 : PySem.W.keepIn K (.ref f9) = true)
    (a10 : PySem.W.nsIn K mainGlobals "need_free" = some (some (.ref f10))) (l10 : K.lookup f10 = some ⟨oc10, od10, .func (PySem.W.fnOf "need_free" "need_free" (defArgs s_need_free) (defBody s_need_free) (defScope s_need_free) .none kV10 dc10 pm10 an10 cd10 ct10), sl10⟩) (c10 : PySem.W.codeIn K cd10 "need_free" = true) (k10 : PySem.W.keepIn K (.ref f10) = true)
    (a11 : PySem.W.nsIn K mainGlobals "deals_of" = some (some (.ref f11))) (l11 : K.lookup f11 = some ⟨oc11, od11, .func (PySem.W.fnOf "deals_of" "deals_of" (defArgs s_deals_of) (defBody s_deals_of) (defScope s_deals_of) .none kV11 dc11 pm11 an11 cd11 ct11), sl11⟩) (c11 : PySem.W.codeIn K cd11 "deals_of" = true) (k11 : PySem.W.keepIn K (.ref f11) = true)
    (a12 : PySem.W.findIn K (.ref C0) "left_of" = some (some (.ref f12))) (i12 : PySem.W.isFn K (.ref f12) = true) (l12 : K.lookup f12 = some ⟨oc12, od12, .func (PySem.W.fnOf "left_of" "Taking.left_of" (defArgs s_Taking_left_of) (defBody s_Taking_left_of) (defScope s_Taking_left_of) .none kV12 dc12 pm12 an12 cd12 ct12), sl12⟩) (c12 : PySem.W.codeIn K cd12 "Taking.left_of" = true) (k12 : PySem.W.keepIn K (.ref f12) = true)
    (a13 : PySem.W.findIn K (.ref C0) "take" = some (some (.ref f13))) (i13 : PySem.W.isFn K (.ref f13) = true) (l13 : K.lookup f13 = some ⟨oc13, od13, .func (PySem.W.fnOf "take" "Taking.take" (defArgs s_Taking_take) (defBody s_Taking_take) (defScope s_Taking_take) .none kV13 dc13 pm13 an13 cd13 ct13), sl13⟩) (c13 : PySem.W.codeIn K cd13 "Taking.take" = true) (k13 : PySem.W.keepIn K (.ref f13) = true)
    (a14 : PySem.W.findIn K (.ref C0) "firsts_of" = some (some (.ref f14))) (i14 : PySem.W.isFn K (.ref f14) = true) (l14 : K.lookup f14 = some ⟨oc14, od14, .func (PySem.W.fnOf "firsts_of" "Taking.firsts_of" (defArgs s_Taking_firsts_of) (defBody s_Taking_firsts_of) (defScope s_Taking_firsts_of) .none kV14 dc14 pm14 an14 cd14 ct14), sl14⟩) (c14 : PySem.W.codeIn K cd14 "Taking.firsts_of" = true) (k14 : PySem.W.keepIn K (.ref f14) = true)
    (a15 : PySem.W.findIn K (.ref C0) "take_next" = some (some (.ref f15))) (i15 : PySem.W.isFn K (.ref f15) = true) (l15 : K.lookup f15 = some ⟨oc15, od15, .func (PySem.W.fnOf "take_next" "Taking.take_next" (defArgs s_Taking_take_next) (defBody s_Taking_take_next) (defScope s_Taking_take_next) .none kV15 dc15 pm15 an15 cd15 ct15), sl15⟩) (c15 : PySem.W.codeIn K cd15 "Taking.take_next" = true) (k15 : PySem.W.keepIn K (.ref f15) = true)
    (a16 : PySem.W.findIn K (.ref C0) "__init__" = some (some (.ref f16))) (i16 : PySem.W.isFn K (.ref f16) = true) (l16 : K.lookup f16 = some ⟨oc16, od16, .func (PySem.W.fnOf "__init__" "Taking.__init__" (defArgs s_Taking_init) (defBody s_Taking_init) (defScope s_Taking_init) .none kV16 dc16 pm16 an16 cd16 ct16), sl16⟩) (c16 : PySem.W.codeIn K cd16 "Taking.__init__" = true) (k16 : PySem.W.keepIn K (.ref f16) = true)
    (a17 : PySem.W.nsIn K mainGlobals "other_of" = some (some (.ref f17))) (l17 : K.lookup f17 = some ⟨oc17, od17, .func (PySem.W.fnOf "other_of" "other_of" (defArgs s_other_of) (defBody s_other_of) (defScope s_other_of) .none kV17 dc17 pm17 an17 cd17 ct17), sl17⟩) (c17 : PySem.W.codeIn K cd17 "other_of" = true) (k17 : PySem.W.keepIn K (.ref f17) = true)
    (a18 : PySem.W.findIn K (.ref C0) "bad_round" = some (some (.ref f18))) (i18 : PySem.W.isFn K (.ref f18) = true) (l18 : K.lookup f18 = some ⟨oc18, od18, .func (PySem.W.fnOf "bad_round" "Taking.bad_round" (defArgs s_Taking_bad_round) (defBody s_Taking_bad_round) (defScope s_Taking_bad_round) .none kV18 dc18 pm18 an18 cd18 ct18), sl18⟩) (c18 : PySem.W.codeIn K cd18 "Taking.bad_round" = true) (k18 : PySem.W.keepIn K (.ref f18) = true)
    (a19 : PySem.W.nsIn K mainGlobals "agent_firsts" = some (some (.ref f19))) (l19 : K.lookup f19 = some ⟨oc19, od19, .func (PySem.W.fnOf "agent_firsts" "agent_firsts" (defArgs s_agent_firsts) (defBody s_agent_firsts) (defScope s_agent_firsts) .none kV19 dc19 pm19 an19 cd19 ct19), sl19⟩) (c19 : PySem.W.codeIn K cd19 "agent_firsts" = true) (k19 : PySem.W.keepIn K (.ref f19) = true)
    (a20 : PySem.W.nsIn K mainGlobals "are_firsts" = some (some (.ref f20))) (l20 : K.lookup f20 = some ⟨oc20, od20, .func (PySem.W.fnOf "are_firsts" "are_firsts" (defArgs s_are_firsts) (defBody s_are_firsts) (defScope s_are_firsts) .none kV20 dc20 pm20 an20 cd20 ct20), sl20⟩) (c20 : PySem.W.codeIn K cd20 "are_firsts" = true) (k20 : PySem.W.keepIn K (.ref f20) = true)
    (a21 : PySem.W.nsIn K mainGlobals "need_firsts" = some (some (.ref f21))) (l21 : K.lookup f21 = some ⟨oc21, od21, .func (PySem.W.fnOf "need_firsts" "need_firsts" (defArgs s_need_firsts) (defBody s_need_firsts) (defScope s_need_firsts) .none kV21 dc21 pm21 an21 cd21 ct21), sl21⟩) (c21 : PySem.W.codeIn K cd21 "need_firsts" = true) (k21 : PySem.W.keepIn K (.ref f21) = true)
    (a22 : PySem.W.nsIn K mainGlobals "is_agent_conduct" = some (some (.ref f22))) (l22 : K.lookup f22 = some ⟨oc22, od22, .func (PySem.W.fnOf "is_agent_conduct" "is_agent_conduct" (defArgs s_is_agent_conduct) (defBody s_is_agent_conduct) (defScope s_is_agent_conduct) .none kV22 dc22 pm22 an22 cd22 ct22), sl22⟩) (c22 : PySem.W.codeIn K cd22 "is_agent_conduct" = true) (k22 : PySem.W.keepIn K (.ref f22) = true)
    (a23 : PySem.W.nsIn K mainGlobals "need_agents" = some (some (.ref f23))) (l23 : K.lookup f23 = some ⟨oc23, od23, .func (PySem.W.fnOf "need_agents" "need_agents" (defArgs s_need_agents) (defBody s_need_agents) (defScope s_need_agents) .none kV23 dc23 pm23 an23 cd23 ct23), sl23⟩) (c23 : PySem.W.codeIn K cd23 "need_agents" = true) (k23 : PySem.W.keepIn K (.ref f23) = true)
    (a24 : PySem.W.findIn K (.ref C1) "__init__" = some (some (.ref f24))) (i24 : PySem.W.isFn K (.ref f24) = true) (l24 : K.lookup f24 = some ⟨oc24, od24, .func (PySem.W.fnOf "__init__" "Agents.__init__" (defArgs s_Agents_init) (defBody s_Agents_init) (defScope s_Agents_init) .none kV24 dc24 pm24 an24 cd24 ct24), sl24⟩) (c24 : PySem.W.codeIn K cd24 "Agents.__init__" = true) (k24 : PySem.W.keepIn K (.ref f24) = true)
    (a25 : PySem.W.findIn K (.ref C1) "is_covered" = some (some (.ref f25))) (i25 : PySem.W.isFn K (.ref f25) = true) (l25 : K.lookup f25 = some ⟨oc25, od25, .func (PySem.W.fnOf "is_covered" "Agents.is_covered" (defArgs s_Agents_is_covered) (defBody s_Agents_is_covered) (defScope s_Agents_is_covered) .none kV25 dc25 pm25 an25 cd25 ct25), sl25⟩) (c25 : PySem.W.codeIn K cd25 "Agents.is_covered" = true) (k25 : PySem.W.keepIn K (.ref f25) = true)
    (a26 : PySem.W.findIn K (.ref C1) "wishes" = some (some (.ref f26))) (i26 : PySem.W.isFn K (.ref f26) = true) (l26 : K.lookup f26 = some ⟨oc26, od26, .func (PySem.W.fnOf "wishes" "Agents.wishes" (defArgs s_Agents_wishes) (defBody s_Agents_wishes) (defScope s_Agents_wishes) .none kV26 dc26 pm26 an26 cd26 ct26), sl26⟩) (c26 : PySem.W.codeIn K cd26 "Agents.wishes" = true) (k26 : PySem.W.keepIn K (.ref f26) = true)
    (a27 : PySem.W.findIn K (.ref C1) "step" = some (some (.ref f27))) (i27 : PySem.W.isFn K (.ref f27) = true) (l27 : K.lookup f27 = some ⟨oc27, od27, .func (PySem.W.fnOf "step" "Agents.step" (defArgs s_Agents_step) (defBody s_Agents_step) (defScope s_Agents_step) .none kV27 dc27 pm27 an27 cd27 ct27), sl27⟩) (c27 : PySem.W.codeIn K cd27 "Agents.step" = true) (k27 : PySem.W.keepIn K (.ref f27) = true)
    (a28 : PySem.W.nsIn K mainGlobals "led_agents" = some (some (.ref f28))) (l28 : K.lookup f28 = some ⟨oc28, od28, .func (PySem.W.fnOf "led_agents" "led_agents" (defArgs s_led_agents) (defBody s_led_agents) (defScope s_led_agents) .none kV28 dc28 pm28 an28 cd28 ct28), sl28⟩) (c28 : PySem.W.codeIn K cd28 "led_agents" = true) (k28 : PySem.W.keepIn K (.ref f28) = true)
    (a29 : PySem.W.findIn K (.ref C1) "is_done" = some (some (.ref f29))) (i29 : PySem.W.isFn K (.ref f29) = true) (l29 : K.lookup f29 = some ⟨oc29, od29, .func (PySem.W.fnOf "is_done" "Agents.is_done" (defArgs s_Agents_is_done) (defBody s_Agents_is_done) (defScope s_Agents_is_done) .none kV29 dc29 pm29 an29 cd29 ct29), sl29⟩) (c29 : PySem.W.codeIn K cd29 "Agents.is_done" = true) (k29 : PySem.W.keepIn K (.ref f29) = true)
    (a30 : PySem.W.nsIn K mainGlobals "agent_done" = some (some (.ref f30))) (l30 : K.lookup f30 = some ⟨oc30, od30, .func (PySem.W.fnOf "agent_done" "agent_done" (defArgs s_agent_done) (defBody s_agent_done) (defScope s_agent_done) .none kV30 dc30 pm30 an30 cd30 ct30), sl30⟩) (c30 : PySem.W.codeIn K cd30 "agent_done" = true) (k30 : PySem.W.keepIn K (.ref f30) = true)
    (a31 : PySem.W.nsIn K mainGlobals "_law_at" = some (some (.ref f31))) (l31 : K.lookup f31 = some ⟨oc31, od31, .func (PySem.W.fnOf "_law_at" "_law_at" (defArgs s_law_at) (defBody s_law_at) (defScope s_law_at) .none kV31 dc31 pm31 an31 cd31 ct31), sl31⟩) (c31 : PySem.W.codeIn K cd31 "_law_at" = true) (k31 : PySem.W.keepIn K (.ref f31) = true)
    (a32 : PySem.W.nsIn K mainGlobals "is_order_of" = some (some (.ref f32))) (l32 : K.lookup f32 = some ⟨oc32, od32, .func (PySem.W.fnOf "is_order_of" "is_order_of" (defArgs s_is_order_of) (defBody s_is_order_of) (defScope s_is_order_of) .none kV32 dc32 pm32 an32 cd32 ct32), sl32⟩) (c32 : PySem.W.codeIn K cd32 "is_order_of" = true) (k32 : PySem.W.keepIn K (.ref f32) = true)
    (a33 : PySem.W.nsIn K mainGlobals "is_round_of" = some (some (.ref f33))) (l33 : K.lookup f33 = some ⟨oc33, od33, .func (PySem.W.fnOf "is_round_of" "is_round_of" (defArgs s_is_round_of) (defBody s_is_round_of) (defScope s_is_round_of) .none kV33 dc33 pm33 an33 cd33 ct33), sl33⟩) (c33 : PySem.W.codeIn K cd33 "is_round_of" = true) (k33 : PySem.W.keepIn K (.ref f33) = true)
    (a34 : PySem.W.nsIn K mainGlobals "is_agent_paper" = some (some (.ref f34))) (l34 : K.lookup f34 = some ⟨oc34, od34, .func (PySem.W.fnOf "is_agent_paper" "is_agent_paper" (defArgs s_is_agent_paper) (defBody s_is_agent_paper) (defScope s_is_agent_paper) .none kV34 dc34 pm34 an34 cd34 ct34), sl34⟩) (c34 : PySem.W.codeIn K cd34 "is_agent_paper" = true) (k34 : PySem.W.keepIn K (.ref f34) = true)
    (a35 : PySem.W.nsIn K mainGlobals "_law_is_round" = some (some (.ref f35))) (l35 : K.lookup f35 = some ⟨oc35, od35, .func (PySem.W.fnOf "_law_is_round" "_law_is_round" (defArgs s_law_is_round) (defBody s_law_is_round) (defScope s_law_is_round) .none kV35 dc35 pm35 an35 cd35 ct35), sl35⟩) (c35 : PySem.W.codeIn K cd35 "_law_is_round" = true) (k35 : PySem.W.keepIn K (.ref f35) = true)
    (a36 : PySem.W.nsIn K mainGlobals "_law_mine" = some (some (.ref f36))) (l36 : K.lookup f36 = some ⟨oc36, od36, .func (PySem.W.fnOf "_law_mine" "_law_mine" (defArgs s_law_mine) (defBody s_law_mine) (defScope s_law_mine) .none kV36 dc36 pm36 an36 cd36 ct36), sl36⟩) (c36 : PySem.W.codeIn K cd36 "_law_mine" = true) (k36 : PySem.W.keepIn K (.ref f36) = true)
    (a37 : PySem.W.nsIn K mainGlobals "agent_torn" = some (some (.ref f37))) (l37 : K.lookup f37 = some ⟨oc37, od37, .func (PySem.W.fnOf "agent_torn" "agent_torn" (defArgs s_agent_torn) (defBody s_agent_torn) (defScope s_agent_torn) .none kV37 dc37 pm37 an37 cd37 ct37), sl37⟩) (c37 : PySem.W.codeIn K cd37 "agent_torn" = true) (k37 : PySem.W.keepIn K (.ref f37) = true)
    (al : PySem.W.nsIn K mainGlobals "law" = some (some (.ref fl))) (ll : K.lookup fl = some ⟨ocl, odl, .func (PySem.W.fnOf "law" "law" (defArgs s_law) (defBody s_law) (defScope s_law) .none kVl dcl pml anl cdl ctl), sll⟩) (cl : PySem.W.codeIn K cdl "law" = true) (kl : PySem.W.keepIn K (.ref fl) = true)
    (z_all : PySem.W.nsIn K mainGlobals "all" = some none)
    (z_any : PySem.W.nsIn K mainGlobals "any" = some none)
    (z_bool : PySem.W.nsIn K mainGlobals "bool" = some none)
    (z_enumerate : PySem.W.nsIn K mainGlobals "enumerate" = some none)
    (z_int : PySem.W.nsIn K mainGlobals "int" = some none)
    (z_isinstance : PySem.W.nsIn K mainGlobals "isinstance" = some none)
    (z_len : PySem.W.nsIn K mainGlobals "len" = some none)
    (z_list : PySem.W.nsIn K mainGlobals "list" = some none)
    (z_max : PySem.W.nsIn K mainGlobals "max" = some none)
    (z_min : PySem.W.nsIn K mainGlobals "min" = some none)
    (z_range : PySem.W.nsIn K mainGlobals "range" = some none)
    (z_set : PySem.W.nsIn K mainGlobals "set" = some none)
    (z_sorted : PySem.W.nsIn K mainGlobals "sorted" = some none)
    (z_str : PySem.W.nsIn K mainGlobals "str" = some none)
    (z_tuple : PySem.W.nsIn K mainGlobals "tuple" = some none)
    (z_zip : PySem.W.nsIn K mainGlobals "zip" = some none)
    (y_FEWEST_PERSONS : PySem.W.nsIn K mainGlobals "FEWEST_PERSONS" = some (some (.int 2 t_FEWEST_PERSONS)))
    (y_MOST_DEALS : PySem.W.nsIn K mainGlobals "MOST_DEALS" = some (some (.int 10 t_MOST_DEALS)))
    (y_MOST_PERSONS : PySem.W.nsIn K mainGlobals "MOST_PERSONS" = some (some (.int 6 t_MOST_PERSONS)))
    (y_MOST_ROUND : PySem.W.nsIn K mainGlobals "MOST_ROUND" = some (some (.int 40 t_MOST_ROUND)))
    (y_MOST_ROWS : PySem.W.nsIn K mainGlobals "MOST_ROWS" = some (some (.int 100 t_MOST_ROWS)))
    : ∃ fd : FuncData, (∀ (s : Shared) (v : Value), BindsTo s fd ⟨[v], []⟩ [("script", v)]) ∧ ∀ base : Heap, K.In base → base.Ns mainGlobals mg → FnOk l.prog w K mg base CX0 8 fa fd ["script"] (spD K 1 f_law) := by
  have e := hfa.symm.trans (PySem.W.mg_of X G al)
  cases e
  have q0 : Cls K C0 := ⟨pg0, hd0, po0, sa0⟩
  have q1 : Cls K C1 := ⟨pg1, hd1, po1, sa1⟩
  have F : Fx K mg := ⟨tx_mk X G bd_law_mixed a0 l0 c0 k0, tx_mk X G bd_law_row a1 l1 c1 k1, tx_mk X G bd_is_tuple_of a2 l2 c2 k2, tx_mk X G bd_is_integer a3 l3 c3 k3, tx_mk X G bd_is_between a4 l4 c4 k4, tx_mk X G bd_is_under a5 l5 c5 k5, tx_mk X G bd_are_deals a6 l6 c6 k6, tx_mk X G bd_need_deals a7 l7 c7 k7, tx_mk X G bd_are_under a8 l8 c8 k8, tx_mk X G bd_is_lot a9 l9 c9 k9, tx_mk X G bd_need_free a10 l10 c10 k10, tx_mk X G bd_deals_of a11 l11 c11 k11, txM_mk aC0 q0 bd_Taking_left_of a12 i12 l12 c12 k12, txM_mk aC0 q0 bd_Taking_take a13 i13 l13 c13 k13, txM_mk aC0 q0 bd_Taking_firsts_of a14 i14 l14 c14 k14, txM_mk aC0 q0 bd_Taking_take_next a15 i15 l15 c15 k15, txI_mk X G aC0 mk0 kc0 bd_Taking_init a16 i16 l16 c16 k16, tx_mk X G bd_other_of a17 l17 c17 k17, txM_mk aC0 q0 bd_Taking_bad_round a18 i18 l18 c18 k18, tx_mk X G bd_agent_firsts a19 l19 c19 k19, tx_mk X G bd_are_firsts a20 l20 c20 k20, tx_mk X G bd_need_firsts a21 l21 c21 k21, tx_mk X G bd_is_agent_conduct a22 l22 c22 k22, tx_mk X G bd_need_agents a23 l23 c23 k23, txI_mk X G aC1 mk1 kc1 bd_Agents_init a24 i24 l24 c24 k24, txM_mk aC1 q1 bd_Agents_is_covered a25 i25 l25 c25 k25, txM_mk aC1 q1 bd_Agents_wishes a26 i26 l26 c26 k26, txM_mk aC1 q1 bd_Agents_step a27 i27 l27 c27 k27, tx_mk X G bd_led_agents a28 l28 c28 k28, txM_mk aC1 q1 bd_Agents_is_done a29 i29 l29 c29 k29, tx_mk X G bd_agent_done a30 l30 c30 k30, tx_mk X G bd_law_at a31 l31 c31 k31, tx_mk X G bd_is_order_of a32 l32 c32 k32, tx_mk X G bd_is_round_of a33 l33 c33 k33, tx_mk X G bd_is_agent_paper a34 l34 c34 k34, tx_mk X G bd_law_is_round a35 l35 c35 k35, tx_mk X G bd_law_mine a36 l36 c36 k36, tx_mk X G bd_agent_torn a37 l37 c37 k37, ⟨_, aC0⟩, ⟨_, aC1⟩, fld_mk aC1 q1 nf_Agents_content, fld_mk aC1 q1 nf_Agents_deals, fld_mk aC1 q1 nf_Agents_firsts, fld_mk aC1 q1 nf_Agents_held, fld_mk aC1 q1 nf_Agents_league, fld_mk aC0 q0 nf_Taking_bound, fld_mk aC0 q0 nf_Taking_deals, fld_mk aC0 q0 nf_Taking_firsts, fld_mk aC0 q0 nf_Taking_order, PySem.W.mg_none_of X G z_all, PySem.W.mg_none_of X G z_any, PySem.W.mg_none_of X G z_bool, PySem.W.mg_none_of X G z_enumerate, PySem.W.mg_none_of X G z_int, PySem.W.mg_none_of X G z_isinstance, PySem.W.mg_none_of X G z_len, PySem.W.mg_none_of X G z_list, PySem.W.mg_none_of X G z_max, PySem.W.mg_none_of X G z_min, PySem.W.mg_none_of X G z_range, PySem.W.mg_none_of X G z_set, PySem.W.mg_none_of X G z_sorted, PySem.W.mg_none_of X G z_str, PySem.W.mg_none_of X G z_tuple, PySem.W.mg_none_of X G z_zip, ⟨_, PySem.W.mg_of X G y_FEWEST_PERSONS⟩, ⟨_, PySem.W.mg_of X G y_MOST_DEALS⟩, ⟨_, PySem.W.mg_of X G y_MOST_PERSONS⟩, ⟨_, PySem.W.mg_of X G y_MOST_ROUND⟩, ⟨_, PySem.W.mg_of X G y_MOST_ROWS⟩⟩
  exact ⟨PySem.W.fnOf "law" "law" (defArgs s_law) (defBody s_law) (defScope s_law) .none kVl dcl pml anl cdl ctl, fun s v => .of_eq rfl, fun base _ _ => ok_law F (fun_mk (st := s_law) ll cl kl)⟩
end DL

open PySem PySem.W PyProof.Rows in
set_option maxRecDepth 100000 in
set_option pp.maxSteps 300 in
set_option maxHeartbeats 0 in
theorem PySem.Challenge.cw_chesthours_k76_agents_without_rounds_holds : PySem.Challenge.rw_chesthours_k76_agents_without_rounds.Holds := by
  w_on; o_law; k_head; (case hw => w_witness2)
  k_fill
  refine DL.law_walk (l := PySem.Challenge.rw_chesthours_k76_agents_without_rounds) (n := 63) (k := 8) (x := "script") (g := DL.f_law) rfl (by decide) rfl ⟨rfl, by decide, by decide⟩ (fun w h Y => PySem.W.kIn_of Y) DL.plain ?F
  case F =>
    intro w mg fa h KX G hmg
    refine' DL.all_mk KX G hmg ?aC0 ?pg0 ?hd0 ?po0 ?sa0 ?mk0 ?kc0 ?aC1 ?pg1 ?hd1 ?po1 ?sa1 ?mk1 ?kc1 ?nf_Agents_content ?nf_Agents_deals ?nf_Agents_firsts ?nf_Agents_held ?nf_Agents_league ?nf_Taking_bound ?nf_Taking_deals ?nf_Taking_firsts ?nf_Taking_order ?a0 ?l0 ?c0 ?k0 ?a1 ?l1 ?c1 ?k1 ?a2 ?l2 ?c2 ?k2 ?a3 ?l3 ?c3 ?k3 ?a4 ?l4 ?c4 ?k4 ?a5 ?l5 ?c5 ?k5 ?a6 ?l6 ?c6 ?k6 ?a7 ?l7 ?c7 ?k7 ?a8 ?l8 ?c8 ?k8 ?a9 ?l9 ?c9 ?k9 ?a10 ?l10 ?c10 ?k10 ?a11 ?l11 ?c11 ?k11 ?a12 ?i12 ?l12 ?c12 ?k12 ?a13 ?i13 ?l13 ?c13 ?k13 ?a14 ?i14 ?l14 ?c14 ?k14 ?a15 ?i15 ?l15 ?c15 ?k15 ?a16 ?i16 ?l16 ?c16 ?k16 ?a17 ?l17 ?c17 ?k17 ?a18 ?i18 ?l18 ?c18 ?k18 ?a19 ?l19 ?c19 ?k19 ?a20 ?l20 ?c20 ?k20 ?a21 ?l21 ?c21 ?k21 ?a22 ?l22 ?c22 ?k22 ?a23 ?l23 ?c23 ?k23 ?a24 ?i24 ?l24 ?c24 ?k24 ?a25 ?i25 ?l25 ?c25 ?k25 ?a26 ?i26 ?l26 ?c26 ?k26 ?a27 ?i27 ?l27 ?c27 ?k27 ?a28 ?l28 ?c28 ?k28 ?a29 ?i29 ?l29 ?c29 ?k29 ?a30 ?l30 ?c30 ?k30 ?a31 ?l31 ?c31 ?k31 ?a32 ?l32 ?c32 ?k32 ?a33 ?l33 ?c33 ?k33 ?a34 ?l34 ?c34 ?k34 ?a35 ?l35 ?c35 ?k35 ?a36 ?l36 ?c36 ?k36 ?a37 ?l37 ?c37 ?k37 ?al ?ll ?cl ?kl ?z_all ?z_any ?z_bool ?z_enumerate ?z_int ?z_isinstance ?z_len ?z_list ?z_max ?z_min ?z_range ?z_set ?z_sorted ?z_str ?z_tuple ?z_zip ?y_FEWEST_PERSONS ?y_MOST_DEALS ?y_MOST_PERSONS ?y_MOST_ROUND ?y_MOST_ROWS
    (case aC0 => k_is)
    (case pg0 => k_is)
    (case hd0 => k_is)
    (case po0 => k_is)
    (case sa0 => k_is)
    (case mk0 => k_is)
    (case kc0 => k_is)
    (case aC1 => k_is)
    (case pg1 => k_is)
    (case hd1 => k_is)
    (case po1 => k_is)
    (case sa1 => k_is)
    (case mk1 => k_is)
    (case kc1 => k_is)
    (case nf_Agents_content => k_is)
    (case nf_Agents_deals => k_is)
    (case nf_Agents_firsts => k_is)
    (case nf_Agents_held => k_is)
    (case nf_Agents_league => k_is)
    (case nf_Taking_bound => k_is)
    (case nf_Taking_deals => k_is)
    (case nf_Taking_firsts => k_is)
    (case nf_Taking_order => k_is)
    (case a0 => k_is)
    (case l0 => k_is)
    (case c0 => k_is)
    (case k0 => k_is)
    (case a1 => k_is)
    (case l1 => k_is)
    (case c1 => k_is)
    (case k1 => k_is)
    (case a2 => k_is)
    (case l2 => k_is)
    (case c2 => k_is)
    (case k2 => k_is)
    (case a3 => k_is)
    (case l3 => k_is)
    (case c3 => k_is)
    (case k3 => k_is)
    (case a4 => k_is)
    (case l4 => k_is)
    (case c4 => k_is)
    (case k4 => k_is)
    (case a5 => k_is)
    (case l5 => k_is)
    (case c5 => k_is)
    (case k5 => k_is)
    (case a6 => k_is)
    (case l6 => k_is)
    (case c6 => k_is)
    (case k6 => k_is)
    (case a7 => k_is)
    (case l7 => k_is)
    (case c7 => k_is)
    (case k7 => k_is)
    (case a8 => k_is)
    (case l8 => k_is)
    (case c8 => k_is)
    (case k8 => k_is)
    (case a9 => k_is)
    (case l9 => k_is)
    (case c9 => k_is)
    (case k9 => k_is)
    (case a10 => k_is)
    (case l10 => k_is)
    (case c10 => k_is)
    (case k10 => k_is)
    (case a11 => k_is)
    (case l11 => k_is)
    (case c11 => k_is)
    (case k11 => k_is)
    (case a12 => k_is)
    (case i12 => k_is)
    (case l12 => k_is)
    (case c12 => k_is)
    (case k12 => k_is)
    (case a13 => k_is)
    (case i13 => k_is)
    (case l13 => k_is)
    (case c13 => k_is)
    (case k13 => k_is)
    (case a14 => k_is)
    (case i14 => k_is)
    (case l14 => k_is)
    (case c14 => k_is)
    (case k14 => k_is)
    (case a15 => k_is)
    (case i15 => k_is)
    (case l15 => k_is)
    (case c15 => k_is)
    (case k15 => k_is)
    (case a16 => k_is)
    (case i16 => k_is)
    (case l16 => k_is)
    (case c16 => k_is)
    (case k16 => k_is)
    (case a17 => k_is)
    (case l17 => k_is)
    (case c17 => k_is)
    (case k17 => k_is)
    (case a18 => k_is)
    (case i18 => k_is)
    (case l18 => k_is)
    (case c18 => k_is)
    (case k18 => k_is)
    (case a19 => k_is)
    (case l19 => k_is)
    (case c19 => k_is)
    (case k19 => k_is)
    (case a20 => k_is)
    (case l20 => k_is)
    (case c20 => k_is)
    (case k20 => k_is)
    (case a21 => k_is)
    (case l21 => k_is)
    (case c21 => k_is)
    (case k21 => k_is)
    (case a22 => k_is)
    (case l22 => k_is)
    (case c22 => k_is)
    (case k22 => k_is)
    (case a23 => k_is)
    (case l23 => k_is)
    (case c23 => k_is)
    (case k23 => k_is)
    (case a24 => k_is)
    (case i24 => k_is)
    (case l24 => k_is)
    (case c24 => k_is)
    (case k24 => k_is)
    (case a25 => k_is)
    (case i25 => k_is)
    (case l25 => k_is)
    (case c25 => k_is)
    (case k25 => k_is)
    (case a26 => k_is)
    (case i26 => k_is)
    (case l26 => k_is)
    (case c26 => k_is)
    (case k26 => k_is)
    (case a27 => k_is)
    (case i27 => k_is)
    (case l27 => k_is)
    (case c27 => k_is)
    (case k27 => k_is)
    (case a28 => k_is)
    (case l28 => k_is)
    (case c28 => k_is)
    (case k28 => k_is)
    (case a29 => k_is)
    (case i29 => k_is)
    (case l29 => k_is)
    (case c29 => k_is)
    (case k29 => k_is)
    (case a30 => k_is)
    (case l30 => k_is)
    (case c30 => k_is)
    (case k30 => k_is)
    (case a31 => k_is)
    (case l31 => k_is)
    (case c31 => k_is)
    (case k31 => k_is)
    (case a32 => k_is)
    (case l32 => k_is)
    (case c32 => k_is)
    (case k32 => k_is)
    (case a33 => k_is)
    (case l33 => k_is)
    (case c33 => k_is)
    (case k33 => k_is)
    (case a34 => k_is)
    (case l34 => k_is)
    (case c34 => k_is)
    (case k34 => k_is)
    (case a35 => k_is)
    (case l35 => k_is)
    (case c35 => k_is)
    (case k35 => k_is)
    (case a36 => k_is)
    (case l36 => k_is)
    (case c36 => k_is)
    (case k36 => k_is)
    (case a37 => k_is)
    (case l37 => k_is)
    (case c37 => k_is)
    (case k37 => k_is)
    (case al => k_is)
    (case ll => k_is)
    (case cl => k_is)
    (case kl => k_is)
    (case z_all => k_is)
    (case z_any => k_is)
    (case z_bool => k_is)
    (case z_enumerate => k_is)
    (case z_int => k_is)
    (case z_isinstance => k_is)
    (case z_len => k_is)
    (case z_list => k_is)
    (case z_max => k_is)
    (case z_min => k_is)
    (case z_range => k_is)
    (case z_set => k_is)
    (case z_sorted => k_is)
    (case z_str => k_is)
    (case z_tuple => k_is)
    (case z_zip => k_is)
    (case y_FEWEST_PERSONS => k_is)
    (case y_MOST_DEALS => k_is)
    (case y_MOST_PERSONS => k_is)
    (case y_MOST_ROUND => k_is)
    (case y_MOST_ROWS => k_is)
#print axioms PySem.Challenge.cw_chesthours_k76_agents_without_rounds_holds
